import PyProof.Rows.All
import Wide.All
import OpenK.AllK
import Wide.FinOn
import HandS.ForMost
import HandS.HeadHook2
import HandS.Flow
import HandS.Defaults
import HandS.WordsExc
import HandS.Comp
import HandS.IsInst
import HandS.StrMore
import PyProof.ReprRoads
import KE.KSuper
import HandS.Property
import HandS.HeadEnd
import PyProof.CallFns
import HandS.Strs
import HandS.Style
import KE.DataMinMax
import PyProof.ListOps
import PyProof.Rows.CallKwBuiltin
import HandS.Dict
import HandS.More
import HandS.Head2
import HandS.ReplaceLit
import HandS.ReplaceDef
import HandS.Iter
import HandS.TryOnly
import KE.KRevSl
import HandS.SetTxt0
import HandS.Set
import PyProof.Rows.SortStr
import HandS.SetFor
import PySem.Challenge.RW_linestream_k02_whole_tests_by_rules
import PyProof.StrLawsIn
import PyProof.StrLaws
import KE.KStateDown
import HandS.Head0
import HandS.Head1
set_option Elab.async false
set_option linter.all false
set_option maxRecDepth 100000
set_option maxHeartbeats 2000000
/-! Lx: plain data above the hand layer. A value with what it reaches is a datum D; a def's body is mirrored as a
wp over data alone, the heap hidden: F is the frozen part of the heap, pn the pen's dict, n the draws that are left. -/
namespace Lx
open PySem L2

inductive D where
  | non | bl (b : Bool) | int (i : Int) | str (x : Str)
  | lst (xs : List D) | tup (xs : List D) | obj (c : Str) (fs : List (Str × D)) | pen | sct (ns : List Int) | adr (a : Addr)

/-- an exception as data -/
structure Xn where
  cls : Str
  fs : List (Str × D)

structure W (A : Type) where
  wp : Nat → (Nat → A → Prop) → (Nat → Xn → Prop) → Prop
  mono : ∀ {n : Nat} {Q R : Nat → A → Prop} {E G : Nat → Xn → Prop}, (∀ m a, Q m a → R m a) → (∀ m x, E m x → G m x) → wp n Q E → wp n R G

namespace W
variable {A B : Type}
@[reducible] def ret (a : A) : W A := ⟨fun n Q _ => Q n a, fun h _ p => h _ _ p⟩
@[reducible] def bind (m : W A) (f : A → W B) : W B :=
  ⟨fun n Q E => m.wp n (fun k a => (f a).wp k Q E) E, fun h g p => m.mono (fun _ a q => (f a).mono h g q) g p⟩
@[reducible] def stuck : W A := ⟨fun _ _ _ => False, fun _ _ p => p⟩
@[reducible] def need (c : Prop) (m : W A) : W A := ⟨fun n Q E => c ∧ m.wp n Q E, fun h g p => ⟨p.1, m.mono h g p.2⟩⟩
/-- any a of which P holds, for c draws -/
@[reducible] def any (c : Nat) (P : A → Prop) : W A := ⟨fun n Q _ => ∃ k, n = k + c ∧ ∀ a, P a → Q k a, fun h _ ⟨k, e, p⟩ => ⟨k, e, fun a q => h _ _ (p a q)⟩⟩
@[reducible] def raise (x : Xn) : W A := ⟨fun n _ E => E n x, fun _ g p => g _ _ p⟩
end W

mutual
inductive Rep (K : PySem.W.Frag) (pn : Addr) (F : Hp) : V → D → Prop
  | non : Rep K pn F .non .non
  | bl (b : Bool) : Rep K pn F (.bl b) (.bl b)
  | int (i : Int) : Rep K pn F (.int i) (.int i)
  | str (x : Str) : Rep K pn F (.str x) (.str x)
  | lst {a : Addr} {vs : List V} {ds : List D} : F a = some (.lst vs) → RepL K pn F vs ds → Rep K pn F (.ref a) (.lst ds)
  | tup {a : Addr} {vs : List V} {ds : List D} : SqT K F a vs → RepL K pn F vs ds → Rep K pn F (.ref a) (.tup ds)
  | obj {a dx : Addr} {c : Str} {fs : List (Str × V)} {gs : List (Str × D)} : F a = some (.ins (He.ga K c) dx fs) → Cls K (He.ga K c) → (∀ x ∈ gs.map (·.1), NoAttr K (He.ga K c) x) → RepF K pn F fs gs → Rep K pn F (.ref a) (.obj c gs)
  | pen : Rep K pn F (.ref pn) .pen
  | adr (a : Addr) : Rep K pn F (.ref a) (.adr a)
  | sct {a : Addr} {ns : List Int} : SqL K F a (ns.map V.int) → Rep K pn F (.ref a) (.sct ns)
inductive RepL (K : PySem.W.Frag) (pn : Addr) (F : Hp) : List V → List D → Prop
  | nil : RepL K pn F [] []
  | cons {v : V} {vs : List V} {d : D} {ds : List D} : Rep K pn F v d → RepL K pn F vs ds → RepL K pn F (v :: vs) (d :: ds)
inductive RepF (K : PySem.W.Frag) (pn : Addr) (F : Hp) : List (Str × V) → List (Str × D) → Prop
  | nil : RepF K pn F [] []
  | cons {x : Str} {v : V} {vs : List (Str × V)} {d : D} {ds : List (Str × D)} : Rep K pn F v d → RepF K pn F vs ds → RepF K pn F ((x, v) :: vs) ((x, d) :: ds)
end

/-- F lies in G -/
def Le (F G : Hp) : Prop := ∀ a o, F a = some o → G a = some o
theorem Le.refl (F : Hp) : Le F F := fun _ _ h => h
theorem Le.trans {F G J : Hp} (a : Le F G) (b : Le G J) : Le F J := fun c o h => b c o (a c o h)
theorem Le.up {F : Hp} {p : Addr} {o : HO} (h : F p = none) : Le F (upd F p o) := fun a u e => by rw [upd_ne (ne_of_none e h)]; exact e
theorem Le.sqL {K : PySem.W.Frag} {F G : Hp} {a : Addr} {xs : List V} (e : Le F G) (h : SqL K F a xs) : SqL K G a xs := by
  rcases h with (h | ⟨o, h⟩) | h
  · exact .inl (.inl (e _ _ h))
  · exact .inl (.inr ⟨o, e _ _ h⟩)
  · exact .inr h
theorem Le.sqT {K : PySem.W.Frag} {F G : Hp} {a : Addr} {xs : List V} (e : Le F G) (h : SqT K F a xs) : SqT K G a xs := by
  rcases h with (h | ⟨o, h⟩) | h
  · exact .inl (.inl (e _ _ h))
  · exact .inl (.inr ⟨o, e _ _ h⟩)
  · exact .inr h

section
variable {K : PySem.W.Frag} {pn : Addr} {F G : Hp}
mutual
theorem Rep.up (e : Le F G) : ∀ {v : V} {d : D}, Rep K pn F v d → Rep K pn G v d
  | _, _, .non => .non
  | _, _, .bl b => .bl b
  | _, _, .int i => .int i
  | _, _, .str x => .str x
  | _, _, .lst h r => .lst (e _ _ h) (RepL.up e r)
  | _, _, .tup h r => .tup (e.sqT h) (RepL.up e r)
  | _, _, .obj h c n r => .obj (e _ _ h) c n (RepF.up e r)
  | _, _, .adr a => .adr a
  | _, _, .pen => .pen
  | _, _, .sct h => .sct (e.sqL h)
theorem RepL.up (e : Le F G) : ∀ {vs : List V} {ds : List D}, RepL K pn F vs ds → RepL K pn G vs ds
  | _, _, .nil => .nil
  | _, _, .cons h r => .cons (Rep.up e h) (RepL.up e r)
theorem RepF.up (e : Le F G) : ∀ {vs : List (Str × V)} {ds : List (Str × D)}, RepF K pn F vs ds → RepF K pn G vs ds
  | _, _, .nil => .nil
  | _, _, .cons h r => .cons (Rep.up e h) (RepF.up e r)
end
theorem RepL.len : ∀ {vs : List V} {ds : List D}, RepL K pn F vs ds → vs.length = ds.length
  | _, _, .nil => rfl
  | _, _, .cons _ r => congrArg (· + 1) r.len
theorem RepL.get : ∀ {vs : List V} {ds : List D} {i : Nat} {d : D}, RepL K pn F vs ds → ds[i]? = some d → ∃ v, vs[i]? = some v ∧ Rep K pn F v d
  | _, _, _, _, .nil, e => by simp at e
  | _, _, 0, _, .cons h _, e => by simp at e; subst e; exact ⟨_, rfl, h⟩
  | _, _, i + 1, d, .cons _ r, e => by
    obtain ⟨v, h1, h2⟩ := RepL.get (i := i) (d := d) r (by simpa using e)
    exact ⟨v, by simpa using h1, h2⟩
theorem RepL.getV : ∀ {vs : List V} {ds : List D} {i : Nat} {v : V}, RepL K pn F vs ds → vs[i]? = some v → ∃ d, ds[i]? = some d ∧ Rep K pn F v d
  | _, _, _, _, .nil, e => by simp at e
  | _, _, 0, _, .cons h _, e => by simp at e; subst e; exact ⟨_, rfl, h⟩
  | _, _, i + 1, v, .cons _ r, e => by
    obtain ⟨d, h1, h2⟩ := RepL.getV (i := i) (v := v) r (by simpa using e)
    exact ⟨d, by simpa using h1, h2⟩
theorem RepL.app : ∀ {vs ws : List V} {ds es : List D}, RepL K pn F vs ds → RepL K pn F ws es → RepL K pn F (vs ++ ws) (ds ++ es)
  | _, _, _, _, .nil, s => s
  | _, _, _, _, .cons h r, s => .cons h (r.app s)
theorem RepL.take : ∀ {vs : List V} {ds : List D} (n : Nat), RepL K pn F vs ds → RepL K pn F (vs.take n) (ds.take n)
  | _, _, 0, _ => .nil
  | _, _, _ + 1, .nil => .nil
  | _, _, n + 1, .cons h r => .cons h (RepL.take n r)
theorem RepL.drop : ∀ {vs : List V} {ds : List D} (n : Nat), RepL K pn F vs ds → RepL K pn F (vs.drop n) (ds.drop n)
  | _, _, 0, r => r
  | _, _, _ + 1, .nil => .nil
  | _, _, n + 1, .cons _ r => RepL.drop n r
theorem RepF.look : ∀ {vs : List (Str × V)} {ds : List (Str × D)} {x : Str} {d : D}, RepF K pn F vs ds → ds.lookup x = some d → ∃ v, vs.lookup x = some v ∧ Rep K pn F v d
  | _, _, _, _, .nil, e => by simp at e
  | _, _, x, d, .cons (x := y) h r, e => by
    rw [List.lookup_cons] at e ⊢
    cases q : (x == y) with
    | true => rw [q] at e; cases e; exact ⟨_, rfl, h⟩
    | false => rw [q] at e; exact RepF.look r e
theorem RepF.noLook : ∀ {vs : List (Str × V)} {ds : List (Str × D)} {x : Str}, RepF K pn F vs ds → ds.lookup x = none → vs.lookup x = none
  | _, _, _, .nil, _ => rfl
  | _, _, x, .cons (x := y) h r, e => by
    rw [List.lookup_cons] at e ⊢
    cases q : (x == y) with
    | true => rw [q] at e; cases e
    | false => rw [q] at e; exact RepF.noLook r e
end

/-! ### the pen: a dict with the cells, the turn and what is left -/
def penKvs (l : Addr) (t lf : Int) : List (Key × V) := [(Sum.inr "cells", .ref l), (Sum.inr "turn", .int t), (Sum.inr "left", .int lf)]
/-- what the pen holds, with n draws left -/
def PenOk (K : PySem.W.Frag) (pn : Addr) (F H : Hp) (n : Nat) : Prop :=
  ∃ (l : Addr) (cs : List Int) (t lf : Int), H pn = some (.dK (penKvs l t lf)) ∧ SqL K F l (cs.map V.int) ∧ cs.length ≤ 63 ∧ 0 ≤ t ∧ t + n ≤ 2 ^ 60 ∧ 0 ≤ lf

structure Ok (K : PySem.W.Frag) (pn : Addr) (F H : Hp) (n : Nat) : Prop where
  fro : Le F H
  fpn : F pn = none
  pen : PenOk K pn F H n
theorem Ok.hpn {K : PySem.W.Frag} {pn : Addr} {F H : Hp} {n : Nat} (o : Ok K pn F H n) : ∃ u, H pn = some u := let ⟨_, _, _, _, h, _⟩ := o.pen; ⟨_, h⟩
theorem Ok.ne {K : PySem.W.Frag} {pn p : Addr} {F H : Hp} {n : Nat} (o : Ok K pn F H n) (h : H p = none) : p ≠ pn := by
  rintro rfl
  obtain ⟨u, e⟩ := o.hpn
  rw [h] at e; cases e
theorem Ok.free {K : PySem.W.Frag} {pn p : Addr} {F H : Hp} {n : Nat} (o : Ok K pn F H n) (h : H p = none) : F p = none := by
  cases e : F p with
  | none => rfl
  | some u => rw [o.fro _ _ e] at h; cases h
/-- from (F, H) on: all but the pen is kept, F grows by new objects alone -/
structure Go (pn : Addr) (F H F' H' : Hp) : Prop where
  keep : ∀ a o, a ≠ pn → H a = some o → H' a = some o
  sub : Le F F'
  new : ∀ a o, F' a = some o → F a = none → H a = none
theorem Go.refl (pn : Addr) (F H : Hp) : Go pn F H F H := ⟨fun _ _ _ h => h, Le.refl F, fun a o h n => by rw [n] at h; cases h⟩
theorem Go.trans {pn : Addr} {F H F1 H1 F2 H2 : Hp} (a : Go pn F H F1 H1) (b : Go pn F1 H1 F2 H2) (hp : F2 pn = none) : Go pn F H F2 H2 where
  keep := fun c o ne h => b.keep c o ne (a.keep c o ne h)
  sub := a.sub.trans b.sub
  new := fun c o h n => by
    cases e : F1 c with
    | some u => exact a.new c u e n
    | none =>
      have h1 := b.new c o h e
      have ne : c ≠ pn := by rintro rfl; rw [hp] at h; cases h
      cases q : H c with
      | none => rfl
      | some u => rw [a.keep c u ne q] at h1; cases h1
theorem PenOk.le {K : PySem.W.Frag} {pn : Addr} {F H F' H' : Hp} {n : Nat} (p : PenOk K pn F H n) (e : Le F F') (h : H' pn = H pn) : PenOk K pn F' H' n := by
  obtain ⟨l, cs, t, lf, h1, h2, r⟩ := p
  exact ⟨l, cs, t, lf, h.trans h1, e.sqL h2, r⟩
theorem PenOk.less {K : PySem.W.Frag} {pn : Addr} {F H : Hp} {n m : Nat} (p : PenOk K pn F H n) (e : m ≤ n) : PenOk K pn F H m := by
  obtain ⟨l, cs, t, lf, h1, h2, h3, h4, h5, r⟩ := p
  exact ⟨l, cs, t, lf, h1, h2, h3, h4, by omega, r⟩
/-- a new object, frozen at once -/
theorem Ok.lay {K : PySem.W.Frag} {pn p : Addr} {F H : Hp} {n : Nat} {o : HO} (k : Ok K pn F H n) (h : H p = none) : Ok K pn (upd F p o) (upd H p o) n ∧ Go pn F H (upd F p o) (upd H p o) := by
  have hp := k.ne h
  have hF := k.free h
  refine ⟨⟨fun a u e => ?_, ?_, k.pen.le (Le.up hF) (upd_ne hp.symm)⟩, fun a u _ e => ?_, Le.up hF, fun a u e n => ?_⟩
  · by_cases ha : a = p
    · subst ha; rw [upd_same] at e ⊢; exact e
    · rw [upd_ne ha] at e ⊢; exact k.fro a u e
  · rw [upd_ne hp.symm]; exact k.fpn
  · rw [upd_ne (ne_of_none e h)]; exact e
  · by_cases ha : a = p
    · subst ha; exact h
    · rw [upd_ne ha, n] at e; cases e
/-- a new object that stays one's own -/
theorem Ok.layO {K : PySem.W.Frag} {pn p : Addr} {F H : Hp} {n : Nat} {o : HO} (k : Ok K pn F H n) (h : H p = none) : Ok K pn F (upd H p o) n ∧ Go pn F H F (upd H p o) := by
  have hp := k.ne h
  refine ⟨⟨fun a u e => ?_, k.fpn, k.pen.le (Le.refl F) (upd_ne hp.symm)⟩, fun a u _ e => ?_, Le.refl F, fun a u e n => by rw [n] at e; cases e⟩
  · rw [upd_ne (ne_of_none (k.fro a u e) h)]; exact k.fro a u e
  · rw [upd_ne (ne_of_none e h)]; exact e

/-! ### slots -/
inductive Sl where
  | un | val (d : D) | own (xs : List D)
/-- what the slots hold: data of F; or a list of one's own, apart from F, made behind the entry's heap -/
structure Slo (K : PySem.W.Frag) (pn : Addr) (H0 F H : Hp) (σ : L2.St) (δ : List Sl) : Prop where
  len : σ.length = δ.length
  val : ∀ (i : Nat) (d : D), δ[i]? = some (Sl.val d) → ∃ v, σ[i]? = some (some v) ∧ Rep K pn F v d
  own : ∃ ow : Nat → Addr, (∀ (i : Nat) (xs : List D), δ[i]? = some (Sl.own xs) → ∃ vs, σ[i]? = some (some (.ref (ow i))) ∧ H (ow i) = some (.lst vs) ∧ RepL K pn F vs xs ∧ F (ow i) = none ∧ ow i ≠ pn ∧ H0 (ow i) = none) ∧
    ∀ (i j : Nat) (xs ys : List D), δ[i]? = some (Sl.own xs) → δ[j]? = some (Sl.own ys) → ow i = ow j → i = j
theorem Slo.go {K : PySem.W.Frag} {pn : Addr} {H0 F H F' H' : Hp} {σ : L2.St} {δ : List Sl} (s : Slo K pn H0 F H σ δ) (g : Go pn F H F' H') : Slo K pn H0 F' H' σ δ := by
  obtain ⟨ow, h1, h2⟩ := s.own
  refine ⟨s.len, fun i d e => let ⟨v, q, r⟩ := s.val i d e; ⟨v, q, r.up g.sub⟩, ow, fun i xs e => ?_, h2⟩
  obtain ⟨vs, a, b, c, d, e', f⟩ := h1 i xs e
  refine ⟨vs, a, g.keep _ _ e' b, c.up g.sub, ?_, e', f⟩
  cases q : F' (ow i) with
  | none => rfl
  | some u => rw [g.new _ _ q d] at b; cases b
theorem Slo.set {K : PySem.W.Frag} {pn : Addr} {H0 F H : Hp} {σ : L2.St} {δ : List Sl} {i : Nat} {v : V} {d : D} (s : Slo K pn H0 F H σ δ) (r : Rep K pn F v d) : Slo K pn H0 F H (σ.set i (some v)) (δ.set i (.val d)) := by
  obtain ⟨ow, h1, h2⟩ := s.own
  have neq : ∀ {j : Nat} {x : Sl}, (δ.set i (.val d))[j]? = some x → (∀ d', x ≠ Sl.val d') → j ≠ i ∧ δ[j]? = some x := fun {j x} e hx => by
    by_cases hj : j = i
    · subst hj
      rw [List.getElem?_set] at e
      split at e
      · split at e
        · cases e; exact absurd rfl (hx _)
        · cases e
      · exact absurd rfl ‹_›
    · rw [List.getElem?_set_ne (Ne.symm hj)] at e; exact ⟨hj, e⟩
  refine ⟨by simpa using s.len, fun j d' e => ?_, ow, fun j xs e => ?_, fun j k xs ys e e' => h2 j k xs ys (neq e (fun _ z => by cases z)).2 (neq e' (fun _ z => by cases z)).2⟩
  · by_cases hj : j = i
    · subst hj
      have hl : j < δ.length := by
        have := (List.getElem?_eq_some_iff.mp e).1
        simpa using this
      rw [List.getElem?_set_self hl] at e
      cases e
      exact ⟨v, List.getElem?_set_self (by rw [s.len]; exact hl), r⟩
    · rw [List.getElem?_set_ne (Ne.symm hj)] at e
      rw [List.getElem?_set_ne (Ne.symm hj)]
      exact s.val j d' e
  · obtain ⟨hj, e⟩ := neq e (fun _ z => by cases z)
    rw [List.getElem?_set_ne (Ne.symm hj)]
    exact h1 j xs e
/-- a slot forgotten (or set to what is not told) -/
theorem Slo.forget {K : PySem.W.Frag} {pn : Addr} {H0 F H : Hp} {σ : L2.St} {δ : List Sl} {i : Nat} {o : Option V} (s : Slo K pn H0 F H σ δ) : Slo K pn H0 F H (σ.set i o) (δ.set i .un) := by
  obtain ⟨ow, h1, h2⟩ := s.own
  have neq : ∀ {j : Nat} {x : Sl}, (δ.set i .un)[j]? = some x → x ≠ Sl.un → j ≠ i ∧ δ[j]? = some x := fun {j x} e hx => by
    by_cases hj : j = i
    · subst hj
      rw [List.getElem?_set] at e
      split at e
      · split at e
        · cases e; exact absurd rfl hx
        · cases e
      · exact absurd rfl ‹_›
    · rw [List.getElem?_set_ne (Ne.symm hj)] at e; exact ⟨hj, e⟩
  refine ⟨by simpa using s.len, fun j d' e => ?_, ow, fun j xs e => ?_, fun j k xs ys e e' => h2 j k xs ys (neq e (fun z => by cases z)).2 (neq e' (fun z => by cases z)).2⟩
  · obtain ⟨hj, e⟩ := neq e (fun z => by cases z)
    rw [List.getElem?_set_ne (Ne.symm hj)]
    exact s.val j d' e
  · obtain ⟨hj, e⟩ := neq e (fun z => by cases z)
    rw [List.getElem?_set_ne (Ne.symm hj)]
    exact h1 j xs e

/-! ### what a mirror says of a reading -/
/-- what is wanted behind an expression -/
abbrev Post (K : PySem.W.Frag) (pn : Addr) (F H : Hp) (Q : VK) : Nat → D → Prop := fun n d => ∀ v F' H', Go pn F H F' H' → Ok K pn F' H' n → Rep K pn F' v d → Q v H'
abbrev noX : Nat → Xn → Prop := fun _ _ => False
def LE (K : PySem.W.Frag) (te : TE) (f : List Sl → W D) : Prop := ∀ (pn : Addr) (H0 F H : Hp) (n : Nat) (σ : L2.St) (δ : List Sl) (Q : VK), Ok K pn F H n → Slo K pn H0 F H σ δ → (f δ).wp n (Post K pn F H Q) noX → te σ H Q
def LT (K : PySem.W.Frag) (tt : TT) (f : List Sl → W Bool) : Prop := ∀ (pn : Addr) (H0 F H : Hp) (n : Nat) (σ : L2.St) (δ : List Sl) (Q : Bool → Hp → Prop), Ok K pn F H n → Slo K pn H0 F H σ δ →
  (f δ).wp n (fun m b => ∀ F' H', Go pn F H F' H' → Ok K pn F' H' m → Q b H') noX → tt σ H Q
def LA (K : PySem.W.Frag) (ta : TA) (f : List Sl → W (List D)) : Prop := ∀ (pn : Addr) (H0 F H : Hp) (n : Nat) (σ : L2.St) (δ : List Sl) (Q : List V → Hp → Prop), Ok K pn F H n → Slo K pn H0 F H σ δ →
  (f δ).wp n (fun m ds => ∀ vs F' H', Go pn F H F' H' → Ok K pn F' H' m → RepL K pn F' vs ds → Q vs H') noX → ta σ H Q
/-- an operation on two values, on one, on many -/
def LO2 (K : PySem.W.Frag) (r : R2) (g : D → D → W D) : Prop := ∀ (pn : Addr) (F H : Hp) (n : Nat) (v w : V) (x y : D) (Q : VK), Ok K pn F H n → Rep K pn F v x → Rep K pn F w y → (g x y).wp n (Post K pn F H Q) noX → r v w H Q
def LO1 (K : PySem.W.Frag) (r : V → Hp → VK → Prop) (g : D → W D) : Prop := ∀ (pn : Addr) (F H : Hp) (n : Nat) (v : V) (x : D) (Q : VK), Ok K pn F H n → Rep K pn F v x → (g x).wp n (Post K pn F H Q) noX → r v H Q
def LOn (K : PySem.W.Frag) (r : List V → Hp → VK → Prop) (g : List D → W D) : Prop := ∀ (pn : Addr) (F H : Hp) (n : Nat) (vs : List V) (xs : List D) (Q : VK), Ok K pn F H n → RepL K pn F vs xs → (g xs).wp n (Post K pn F H Q) noX → r vs H Q

inductive Out where
  | nx (δ : List Sl) | rt (d : D) | bk (δ : List Sl) | ct (δ : List Sl)
/-- what is wanted behind a statement that begins at F: from the entry (F0, H0) on -/
@[reducible] def PostS (K : PySem.W.Frag) (pn : Addr) (F0 H0 F : Hp) (E : Ends) : Nat → Out → Prop := fun n o => match o with
  | .nx δ => ∀ σ F1 H, Le F F1 → Go pn F0 H0 F1 H → Ok K pn F1 H n → Slo K pn H0 F1 H σ δ → E.nx σ H
  | .rt d => ∀ v F1 H, Go pn F0 H0 F1 H → Ok K pn F1 H n → Rep K pn F1 v d → E.rt v H
  | .bk δ => ∀ σ F1 H, Le F F1 → Go pn F0 H0 F1 H → Ok K pn F1 H n → Slo K pn H0 F1 H σ δ → E.bk σ H
  | .ct δ => ∀ σ F1 H, Le F F1 → Go pn F0 H0 F1 H → Ok K pn F1 H n → Slo K pn H0 F1 H σ δ → E.ct σ H
def LS (K : PySem.W.Frag) (ts : TS) (g : List Sl → W Out) : Prop := ∀ (pn : Addr) (F0 H0 F H : Hp) (n : Nat) (σ : L2.St) (δ : List Sl) (E : Ends), Go pn F0 H0 F H → Ok K pn F H n → Slo K pn H0 F H σ δ →
  (g δ).wp n (PostS K pn F0 H0 F E) noX → ts E σ H
theorem PostS.of {K : PySem.W.Frag} {pn : Addr} {F0 H0 F F1 : Hp} {E : Ends} (l : Le F F1) {n : Nat} {o : Out} (p : PostS K pn F0 H0 F E n o) : PostS K pn F0 H0 F1 E n o := by
  cases o with
  | nx δ => exact fun σ F2 H e => p σ F2 H (l.trans e)
  | rt d => exact p
  | bk δ => exact fun σ F2 H e => p σ F2 H (l.trans e)
  | ct δ => exact fun σ F2 H e => p σ F2 H (l.trans e)

theorem Post.of {K : PySem.W.Frag} {pn : Addr} {F H F1 H1 : Hp} {Q : VK} (g : Go pn F H F1 H1) {n : Nat} {d : D} (p : Post K pn F H Q n d) : Post K pn F1 H1 Q n d := fun v F2 H2 g2 o2 r => p v F2 H2 (g.trans g2 o2.fpn) o2 r

/-! ### expressions -/
@[reducible] def dVar (i : Nat) : List Sl → W D := fun δ => match δ[i]? with
  | some (.val d) => W.ret d
  | _ => W.stuck
@[reducible] def dC (d : D) : List Sl → W D := fun _ => W.ret d
@[reducible] def dOp2 (g : D → D → W D) (fa fb : List Sl → W D) : List Sl → W D := fun δ => (fa δ).bind fun x => (fb δ).bind fun y => g x y
@[reducible] def dOp1 (g : D → W D) (fa : List Sl → W D) : List Sl → W D := fun δ => (fa δ).bind g
@[reducible] def dOpn (g : List D → W D) (fa : List Sl → W (List D)) : List Sl → W D := fun δ => (fa δ).bind g
@[reducible] def dNil : List Sl → W (List D) := fun _ => W.ret []
@[reducible] def dCons (fa : List Sl → W D) (fr : List Sl → W (List D)) : List Sl → W (List D) := fun δ => (fa δ).bind fun x => (fr δ).bind fun xs => W.ret (x :: xs)
section
variable {K : PySem.W.Frag} {ta tb : TE} {fa fb : List Sl → W D}
theorem le_var {i : Nat} : LE K (tVar i) (dVar i) := fun pn H0 F H n σ δ Q o s h => by
  unfold dVar at h
  cases e : δ[i]? with
  | none => rw [e] at h; exact h.elim
  | some x =>
    rw [e] at h
    cases x with
    | un => exact h.elim
    | own xs => exact h.elim
    | val d =>
      obtain ⟨v, q, r⟩ := s.val i d e
      exact ⟨v, q, h v F H (Go.refl ..) o r⟩
theorem le_c {v : V} {d : D} (h : ∀ pn F, Rep K pn F v d) : LE K (tC v) (dC d) := fun pn H0 F H n σ δ Q o s q => q v F H (Go.refl ..) o (h pn F)
theorem le_int {i : Int} : LE K (tC (.int i)) (dC (.int i)) := le_c fun _ _ => .int i
theorem le_str {x : Str} : LE K (tC (.str x)) (dC (.str x)) := le_c fun _ _ => .str x
theorem le_bl {b : Bool} : LE K (tC (.bl b)) (dC (.bl b)) := le_c fun _ _ => .bl b
theorem le_non : LE K (tC .non) (dC .non) := le_c fun _ _ => .non
theorem le_op2 {r : R2} {g : D → D → W D} (hr : LO2 K r g) (ha : LE K ta fa) (hb : LE K tb fb) : LE K (tOp r ta tb) (dOp2 g fa fb) := fun pn H0 F H n σ δ Q o s h => by
  refine ha pn H0 F H n σ δ _ o s ((fa δ).mono (fun m x q => ?_) (fun _ _ z => z) h)
  intro v F1 H1 g1 o1 r1
  refine hb pn H0 F1 H1 m σ δ _ o1 (s.go g1) ((fb δ).mono (fun m2 y q2 => ?_) (fun _ _ z => z) q)
  intro w F2 H2 g2 o2 r2
  exact hr pn F2 H2 m2 v w x y Q o2 (r1.up g2.sub) r2 ((g x y).mono (fun _ _ p => (Post.of g1 p).of g2) (fun _ _ z => z) q2)
theorem le_op1 {r : V → Hp → VK → Prop} {g : D → W D} (hr : LO1 K r g) (ha : LE K ta fa) : LE K (tUn r ta) (dOp1 g fa) := fun pn H0 F H n σ δ Q o s h => by
  refine ha pn H0 F H n σ δ _ o s ((fa δ).mono (fun m x q => ?_) (fun _ _ z => z) h)
  intro v F1 H1 g1 o1 r1
  exact hr pn F1 H1 m v x Q o1 r1 ((g x).mono (fun _ _ p => Post.of g1 p) (fun _ _ z => z) q)
theorem la_nil : LA K tNil dNil := fun pn H0 F H n σ δ Q o s h => h [] F H (Go.refl ..) o .nil
theorem la_cons {tr : TA} {fr : List Sl → W (List D)} (ha : LE K ta fa) (hr : LA K tr fr) : LA K (tCons ta tr) (dCons fa fr) := fun pn H0 F H n σ δ Q o s h => by
  refine ha pn H0 F H n σ δ _ o s ((fa δ).mono (fun m x q => ?_) (fun _ _ z => z) h)
  intro v F1 H1 g1 o1 r1
  refine hr pn H0 F1 H1 m σ δ _ o1 (s.go g1) ((fr δ).mono (fun m2 ys q2 => ?_) (fun _ _ z => z) q)
  intro ws F2 H2 g2 o2 r2
  exact q2 (v :: ws) F2 H2 (g1.trans g2 o2.fpn) o2 (.cons (r1.up g2.sub) r2)
theorem le_opn {t : TA} {f : List Sl → W (List D)} {r : List V → Hp → VK → Prop} {g : List D → W D} (hr : LOn K r g) (ha : LA K t f) : LE K (tCB r t) (dOpn g f) := fun pn H0 F H n σ δ Q o s h => by
  refine ha pn H0 F H n σ δ _ o s ((f δ).mono (fun m x q => ?_) (fun _ _ z => z) h)
  intro vs F1 H1 g1 o1 r1
  exact hr pn F1 H1 m vs x Q o1 r1 ((g x).mono (fun _ _ p => Post.of g1 p) (fun _ _ z => z) q)
/-! displays -/
@[reducible] def dTup (f : List Sl → W (List D)) : List Sl → W D := fun δ => (f δ).bind fun xs => W.need (xs.length ≤ sizeLine) (W.ret (.tup xs))
@[reducible] def dLst (f : List Sl → W (List D)) : List Sl → W D := fun δ => (f δ).bind fun xs => W.need (xs.length ≤ sizeLine) (W.ret (.lst xs))
theorem le_tup {t : TA} {f : List Sl → W (List D)} (ha : LA K t f) : LE K (tTup t) (dTup f) := fun pn H0 F H n σ δ Q o s h => by
  refine ha pn H0 F H n σ δ _ o s ((f δ).mono (fun m x q => ?_) (fun _ _ z => z) h)
  intro vs F1 H1 g1 o1 r1
  refine ⟨by rw [r1.len]; exact q.1, fun p hp => ?_⟩
  obtain ⟨o2, g2⟩ := o1.lay (o := .tup vs) hp
  exact q.2 (.ref p) _ _ (g1.trans g2 o2.fpn) o2 (.tup (SqT.of upd_same) (r1.up g2.sub))
theorem le_lst {t : TA} {f : List Sl → W (List D)} (ha : LA K t f) : LE K (tLst t) (dLst f) := fun pn H0 F H n σ δ Q o s h => by
  refine ha pn H0 F H n σ δ _ o s ((f δ).mono (fun m x q => ?_) (fun _ _ z => z) h)
  intro vs F1 H1 g1 o1 r1
  refine ⟨by rw [r1.len]; exact q.1, fun p hp => ?_⟩
  obtain ⟨o2, g2⟩ := o1.lay (o := .lst vs) hp
  exact q.2 (.ref p) _ _ (g1.trans g2 o2.fpn) o2 (.lst upd_same (r1.up g2.sub))
end
end Lx
set_option Elab.async false
set_option linter.all false
set_option maxRecDepth 100000
set_option maxHeartbeats 2000000
/-! Lx2: tests, statements, loops, comprehensions, calls. -/
namespace Lx
open PySem L2

/-! ### tests -/
/-- a datum's truth -/
@[reducible] def truD : D → W Bool
  | .non => W.ret false
  | .bl b => W.ret b
  | .int i => W.ret (i != 0)
  | .str y => W.need (y.length ≤ sizeLine) (W.ret ((y.length : Int) != 0))
  | .lst xs => W.ret (!xs.isEmpty)
  | .tup xs => W.ret (!xs.isEmpty)
  | _ => W.stuck
@[reducible] def blD : D → W Bool
  | .bl b => W.ret b
  | _ => W.stuck
theorem isE {K : PySem.W.Frag} {pn : Addr} {F : Hp} {vs : List V} {ds : List D} (r : RepL K pn F vs ds) : vs.isEmpty = ds.isEmpty := by cases r <;> rfl
section
variable {K : PySem.W.Frag} {ta tb : TE} {fa fb : List Sl → W D} {tt tu : TT} {ft fu : List Sl → W Bool}
theorem truV_of {pn : Addr} {F H : Hp} {n : Nat} {v : V} {d : D} {Q : Nat → Bool → Prop} (o : Ok K pn F H n) (r : Rep K pn F v d) (h : (truD d).wp n Q noX) : ∃ k, TruV K v H k ∧ Q n k := by
  cases r with
  | non => exact ⟨_, rfl, h⟩
  | bl b => exact ⟨_, rfl, h⟩
  | int i => exact ⟨_, rfl, h⟩
  | str x => exact ⟨_, ⟨h.1, rfl⟩, h.2⟩
  | lst a b => exact ⟨_, .inl ⟨_, SqL.of (o.fro _ _ a), rfl⟩, by rw [isE b]; exact h⟩
  | tup a b => exact ⟨_, .inr (.inl ⟨_, o.fro.sqT a, rfl⟩), by rw [isE b]; exact h⟩
  | obj a _ _ b => exact h.elim
  | adr a => exact h.elim
  | pen => exact h.elim
  | sct a => exact h.elim
@[reducible] def dTru (fa : List Sl → W D) : List Sl → W Bool := fun δ => (fa δ).bind truD
@[reducible] def dTest (fa : List Sl → W D) : List Sl → W Bool := fun δ => (fa δ).bind blD
@[reducible] def dAnd (a b : List Sl → W Bool) : List Sl → W Bool := fun δ => (a δ).bind fun c => match c with | true => b δ | false => W.ret false
@[reducible] def dOr (a b : List Sl → W Bool) : List Sl → W Bool := fun δ => (a δ).bind fun c => match c with | true => W.ret true | false => b δ
@[reducible] def dNot (a : List Sl → W Bool) : List Sl → W Bool := fun δ => (a δ).bind fun c => W.ret (!c)
theorem lt_tru (ha : LE K ta fa) : LT K (fun σ H Q => ta σ H fun x H1 => ∃ k, TruV K x H1 k ∧ Q k H1) (dTru fa) := fun pn H0 F H n σ δ Q o s h => by
  refine ha pn H0 F H n σ δ _ o s ((fa δ).mono (fun m x q => ?_) (fun _ _ z => z) h)
  intro v F1 H1 g1 o1 r1
  obtain ⟨k, t, q⟩ := truV_of o1 r1 q
  exact ⟨k, t, q F1 H1 g1 o1⟩
theorem lt_test (ha : LE K ta fa) : LT K (tTest ta) (dTest fa) := fun pn H0 F H n σ δ Q o s h => by
  refine ha pn H0 F H n σ δ _ o s ((fa δ).mono (fun m x q => ?_) (fun _ _ z => z) h)
  intro v F1 H1 g1 o1 r1
  cases r1 with
  | bl b => exact ⟨b, rfl, q F1 H1 g1 o1⟩
  | _ => exact q.elim
theorem lt_and (ha : LT K tt ft) (hb : LT K tu fu) : LT K (tAnd tt tu) (dAnd ft fu) := fun pn H0 F H n σ δ Q o s h => by
  refine ha pn H0 F H n σ δ _ o s ((ft δ).mono (fun m c q => ?_) (fun _ _ z => z) h)
  intro F1 H1 g1 o1
  cases c with
  | false => exact iteF (q F1 H1 g1 o1)
  | true => exact iteT (hb pn H0 F1 H1 m σ δ _ o1 (s.go g1) ((fu δ).mono (fun m2 c p F2 H2 g2 o2 => p F2 H2 (g1.trans g2 o2.fpn) o2) (fun _ _ z => z) q))
theorem lt_or (ha : LT K tt ft) (hb : LT K tu fu) : LT K (tOr tt tu) (dOr ft fu) := fun pn H0 F H n σ δ Q o s h => by
  refine ha pn H0 F H n σ δ _ o s ((ft δ).mono (fun m c q => ?_) (fun _ _ z => z) h)
  intro F1 H1 g1 o1
  cases c with
  | true => exact iteT (q F1 H1 g1 o1)
  | false => exact iteF (hb pn H0 F1 H1 m σ δ _ o1 (s.go g1) ((fu δ).mono (fun m2 c p F2 H2 g2 o2 => p F2 H2 (g1.trans g2 o2.fpn) o2) (fun _ _ z => z) q))
theorem lt_not (ha : LT K tt ft) : LT K (tNot tt) (dNot ft) := fun pn H0 F H n σ δ Q o s h =>
  ha pn H0 F H n σ δ _ o s ((ft δ).mono (fun m c q F1 H1 g1 o1 => q F1 H1 g1 o1) (fun _ _ z => z) h)
/-! values by truth: a and b, a or b, not a, a if t else b -/
@[reducible] def dAndV (fa fb : List Sl → W D) : List Sl → W D := fun δ => (fa δ).bind fun x => (truD x).bind fun c => match c with | true => fb δ | false => W.ret x
@[reducible] def dOrV (fa fb : List Sl → W D) : List Sl → W D := fun δ => (fa δ).bind fun x => (truD x).bind fun c => match c with | true => W.ret x | false => fb δ
@[reducible] def dNotV (fa : List Sl → W D) : List Sl → W D := fun δ => (fa δ).bind fun x => (truD x).bind fun c => W.ret (.bl (!c))
@[reducible] def dIfE (ft : List Sl → W Bool) (fa fb : List Sl → W D) : List Sl → W D := fun δ => (ft δ).bind fun c => match c with | true => fa δ | false => fb δ
theorem le_and (ha : LE K ta fa) (hb : LE K tb fb) : LE K (tAndT K ta tb) (dAndV fa fb) := fun pn H0 F H n σ δ Q o s h => by
  refine ha pn H0 F H n σ δ _ o s ((fa δ).mono (fun m x q => ?_) (fun _ _ z => z) h)
  intro v F1 H1 g1 o1 r1
  obtain ⟨k, t, q⟩ := truV_of o1 r1 q
  refine ⟨k, t, ?_⟩
  cases k with
  | true => exact iteT (hb pn H0 F1 H1 m σ δ _ o1 (s.go g1) ((fb δ).mono (fun _ _ p => Post.of g1 p) (fun _ _ z => z) q))
  | false => exact iteF (q v F1 H1 g1 o1 r1)
theorem le_or (ha : LE K ta fa) (hb : LE K tb fb) : LE K (tOrT K ta tb) (dOrV fa fb) := fun pn H0 F H n σ δ Q o s h => by
  refine ha pn H0 F H n σ δ _ o s ((fa δ).mono (fun m x q => ?_) (fun _ _ z => z) h)
  intro v F1 H1 g1 o1 r1
  obtain ⟨k, t, q⟩ := truV_of o1 r1 q
  refine ⟨k, t, ?_⟩
  cases k with
  | false => exact iteF (hb pn H0 F1 H1 m σ δ _ o1 (s.go g1) ((fb δ).mono (fun _ _ p => Post.of g1 p) (fun _ _ z => z) q))
  | true => exact iteT (q v F1 H1 g1 o1 r1)
theorem le_notT (ha : LE K ta fa) : LE K (tNotT K ta) (dNotV fa) := fun pn H0 F H n σ δ Q o s h => by
  refine ha pn H0 F H n σ δ _ o s ((fa δ).mono (fun m x q => ?_) (fun _ _ z => z) h)
  intro v F1 H1 g1 o1 r1
  obtain ⟨k, t, q⟩ := truV_of o1 r1 q
  exact ⟨k, t, q _ F1 H1 g1 o1 (.bl _)⟩
theorem le_if (ht : LT K tt ft) (ha : LE K ta fa) (hb : LE K tb fb) : LE K (tIf tt ta tb) (dIfE ft fa fb) := fun pn H0 F H n σ δ Q o s h => by
  refine ht pn H0 F H n σ δ _ o s ((ft δ).mono (fun m c q => ?_) (fun _ _ z => z) h)
  intro F1 H1 g1 o1
  cases c with
  | true => exact iteT (ha pn H0 F1 H1 m σ δ _ o1 (s.go g1) ((fa δ).mono (fun _ _ p => Post.of g1 p) (fun _ _ z => z) q))
  | false => exact iteF (hb pn H0 F1 H1 m σ δ _ o1 (s.go g1) ((fb δ).mono (fun _ _ p => Post.of g1 p) (fun _ _ z => z) q))
/-- a op b op c -/
@[reducible] def dChain (g g2 : D → D → W D) (fa fb fc : List Sl → W D) : List Sl → W D := fun δ => (fa δ).bind fun x => (fb δ).bind fun y => (g x y).bind fun z => (blD z).bind fun c =>
  match c with | true => (fc δ).bind fun u => g2 y u | false => W.ret (.bl false)
theorem le_chain {r r2 : R2} {g g2 : D → D → W D} {tc : TE} {fc : List Sl → W D} (hr : LO2 K r g) (hr2 : LO2 K r2 g2) (ha : LE K ta fa) (hb : LE K tb fb) (hc : LE K tc fc) : LE K (tChain r r2 ta tb tc) (dChain g g2 fa fb fc) := fun pn H0 F H n σ δ Q o s h => by
  refine ha pn H0 F H n σ δ _ o s ((fa δ).mono (fun m x q => ?_) (fun _ _ z => z) h)
  intro v F1 H1 g1 o1 r1
  refine hb pn H0 F1 H1 m σ δ _ o1 (s.go g1) ((fb δ).mono (fun m2 y q2 => ?_) (fun _ _ z => z) q)
  intro w F2 H2 k2 o2 rr2
  refine hr pn F2 H2 m2 v w x y _ o2 (r1.up k2.sub) rr2 ((g x y).mono (fun m3 z q3 => ?_) (fun _ _ z => z) q2)
  intro c F3 H3 k3 o3 r3
  have g3 := (g1.trans k2 o2.fpn).trans k3 o3.fpn
  cases r3 with
  | bl b =>
    refine ⟨b, rfl, ?_⟩
    cases b with
    | false => exact iteF (q3 _ F3 H3 g3 o3 (.bl _))
    | true =>
      refine iteT (hc pn H0 F3 H3 m3 σ δ _ o3 (s.go g3) ((fc δ).mono (fun m4 u q4 => ?_) (fun _ _ z => z) q3))
      intro w4 F4 H4 k4 o4 r4
      exact hr2 pn F4 H4 m4 w w4 y u Q o4 ((rr2.up k3.sub).up k4.sub) r4 ((g2 y u).mono (fun _ _ p => Post.of (g3.trans k4 o4.fpn) p) (fun _ _ z => z) q4)
  | _ => exact q3.elim
end

/-! ### targets -/
/-- a target sets slots of vs alone -/
def LG (K : PySem.W.Frag) (vs : List Nat) (g : TG) (dg : D → List Sl → W (List Sl)) : Prop := ∀ (pn : Addr) (H0 F H : Hp) (n : Nat) (σ : L2.St) (δ : List Sl) (v : V) (d : D) (Q : L2.St → Hp → Prop), Ok K pn F H n → Slo K pn H0 F H σ δ → Rep K pn F v d →
  (dg d δ).wp n (fun m ε => ∀ σ1 F1 H1, Go pn F H F1 H1 → Ok K pn F1 H1 m → Slo K pn H0 F1 H1 σ1 ε → (∀ j : Nat, j ∉ vs → σ1[j]? = σ[j]?) → σ1.length = σ.length → Q σ1 H1) noX → g v σ H Q
@[reducible] def dName (i : Nat) : D → List Sl → W (List Sl) := fun d δ => W.ret (δ.set i (.val d))
theorem lg_name {K : PySem.W.Frag} {i : Nat} : LG K [i] (gName i) (dName i) := fun pn H0 F H n σ δ v d Q o s r h =>
  h _ F H (Go.refl ..) o (s.set r) (fun j hj => List.getElem?_set_ne (by simpa using fun e => hj (by simp [e]))) (by simp)
def LGs (K : PySem.W.Frag) (vs : List Nat) (g : TGs) (dg : List D → List Sl → W (List Sl)) : Prop := ∀ (pn : Addr) (H0 F H : Hp) (n : Nat) (σ : L2.St) (δ : List Sl) (ws : List V) (ds : List D) (Q : L2.St → Hp → Prop), Ok K pn F H n → Slo K pn H0 F H σ δ → RepL K pn F ws ds →
  (dg ds δ).wp n (fun m ε => ∀ σ1 F1 H1, Go pn F H F1 H1 → Ok K pn F1 H1 m → Slo K pn H0 F1 H1 σ1 ε → (∀ j : Nat, j ∉ vs → σ1[j]? = σ[j]?) → σ1.length = σ.length → Q σ1 H1) noX → g ws σ H Q
@[reducible] def dGNil : List D → List Sl → W (List Sl) := fun ds δ => match ds with | [] => W.ret δ | _ => W.stuck
@[reducible] def dGCons (a : D → List Sl → W (List Sl)) (b : List D → List Sl → W (List Sl)) : List D → List Sl → W (List Sl) := fun ds δ => match ds with | d :: r => (a d δ).bind fun ε => b r ε | _ => W.stuck
@[reducible] def dGTup (n : Nat) (b : List D → List Sl → W (List Sl)) : D → List Sl → W (List Sl) := fun d δ => match d with | .tup ds => W.need (ds.length = n) (b ds δ) | _ => W.stuck
section
variable {K : PySem.W.Frag} {vs us : List Nat}
theorem lgs_nil : LGs K [] gNil dGNil := fun pn H0 F H n σ δ ws ds Q o s r h => by
  cases r with
  | nil => exact ⟨rfl, h _ F H (Go.refl ..) o s (fun _ _ => rfl) rfl⟩
  | cons _ _ => exact h.elim
theorem lgs_cons {t : TG} {u : TGs} {a : D → List Sl → W (List Sl)} {b : List D → List Sl → W (List Sl)} (ha : LG K vs t a) (hb : LGs K us u b) : LGs K (vs ++ us) (gCons t u) (dGCons a b) := fun pn H0 F H n σ δ ws ds Q o s r h => by
  cases r with
  | nil => exact h.elim
  | @cons v ws d ds rv rr =>
    refine ⟨v, ws, rfl, ha pn H0 F H n σ δ v d _ o s rv ((a d δ).mono (fun m ε q => ?_) (fun _ _ z => z) h)⟩
    intro σ1 F1 H1 g1 o1 s1 e1 l1
    refine hb pn H0 F1 H1 m σ1 ε ws ds _ o1 s1 (rr.up g1.sub) ((b ds ε).mono (fun m2 ε2 q2 => ?_) (fun _ _ z => z) q)
    intro σ2 F2 H2 g2 o2 s2 e2 l2
    exact q2 σ2 F2 H2 (g1.trans g2 o2.fpn) o2 s2 (fun j hj => (e2 j fun z => hj (List.mem_append_right _ z)).trans (e1 j fun z => hj (List.mem_append_left _ z))) (l2.trans l1)
theorem lg_tup {k : Nat} {t : TGs} {b : List D → List Sl → W (List Sl)} (hb : LGs K vs t b) : LG K vs (gTup K k t) (dGTup k b) := fun pn H0 F H n σ δ v d Q o s r h => by
  cases r with
  | tup a r => exact ⟨_, _, rfl, o.fro.sqT a, (r.len.trans h.1), hb pn H0 F H n σ δ _ _ Q o s r h.2⟩
  | _ => exact h.elim
end

/-! ### statements -/
@[reducible] def dSeq (g h : List Sl → W Out) : List Sl → W Out := fun δ => (g δ).bind fun o => match o with | .nx ε => h ε | o => W.ret o
@[reducible] def dNext : List Sl → W Out := fun δ => W.ret (.nx δ)
@[reducible] def dAsg (f : List Sl → W D) (dg : D → List Sl → W (List Sl)) : List Sl → W Out := fun δ => (f δ).bind fun d => (dg d δ).bind fun ε => W.ret (.nx ε)
@[reducible] def dDrop (f : List Sl → W D) : List Sl → W Out := fun δ => (f δ).bind fun _ => W.ret (.nx δ)
@[reducible] def dRet (f : List Sl → W D) : List Sl → W Out := fun δ => (f δ).bind fun d => W.ret (.rt d)
@[reducible] def dRetN : List Sl → W Out := fun _ => W.ret (.rt .non)
@[reducible] def dIf (t : List Sl → W Bool) (a b : List Sl → W Out) : List Sl → W Out := fun δ => (t δ).bind fun c => match c with | true => a δ | false => b δ
@[reducible] def dBrk : List Sl → W Out := fun δ => W.ret (.bk δ)
@[reducible] def dCnt : List Sl → W Out := fun δ => W.ret (.ct δ)
@[reducible] def dNever : List Sl → W Out := fun _ => W.stuck
section
variable {K : PySem.W.Frag} {ts tu : TS} {g h : List Sl → W Out} {te : TE} {f : List Sl → W D}
theorem ls_next : LS K tNext dNext := fun pn F0 H0 F H n σ δ E k o s q => q σ F H (Le.refl F) k o s
theorem ls_never : LS K tNever dNever := fun pn F0 H0 F H n σ δ E k o s q => q
theorem ls_brk : LS K tBreak dBrk := fun pn F0 H0 F H n σ δ E k o s q => q σ F H (Le.refl F) k o s
theorem ls_cnt : LS K tCont dCnt := fun pn F0 H0 F H n σ δ E k o s q => q σ F H (Le.refl F) k o s
theorem ls_seq (ha : LS K ts g) (hb : LS K tu h) : LS K (tSeq ts tu) (dSeq g h) := fun pn F0 H0 F H n σ δ E k o s q => by
  refine ha pn F0 H0 F H n σ δ _ k o s ((g δ).mono (fun m u p => ?_) (fun _ _ z => z) q)
  cases u with
  | nx ε => exact fun σ1 F1 H1 l1 k1 o1 s1 => hb pn F0 H0 F1 H1 m σ1 ε E k1 o1 s1 ((h ε).mono (fun _ _ z => PostS.of l1 z) (fun _ _ z => z) p)
  | rt d => exact p
  | bk ε => exact p
  | ct ε => exact p
theorem ls_asg {vs : List Nat} {tg : TG} {dg : D → List Sl → W (List Sl)} (he : LE K te f) (hg : LG K vs tg dg) : LS K (tAsg te tg) (dAsg f dg) := fun pn F0 H0 F H n σ δ E k o s q => by
  refine he pn H0 F H n σ δ _ o s ((f δ).mono (fun m d p => ?_) (fun _ _ z => z) q)
  intro v F1 H1 k1 o1 r1
  refine hg pn H0 F1 H1 m σ δ v d _ o1 (s.go k1) r1 ((dg d δ).mono (fun m2 ε p2 => ?_) (fun _ _ z => z) p)
  intro σ2 F2 H2 k2 o2 s2 _ _
  exact p2 σ2 F2 H2 (k1.sub.trans k2.sub) ((k.trans k1 o1.fpn).trans k2 o2.fpn) o2 s2
theorem ls_drop (he : LE K te f) : LS K (tDrop te) (dDrop f) := fun pn F0 H0 F H n σ δ E k o s q => by
  refine he pn H0 F H n σ δ _ o s ((f δ).mono (fun m d p => ?_) (fun _ _ z => z) q)
  intro v F1 H1 k1 o1 r1
  exact p σ F1 H1 k1.sub (k.trans k1 o1.fpn) o1 (s.go k1)
theorem ls_ret (he : LE K te f) : LS K (tRet te) (dRet f) := fun pn F0 H0 F H n σ δ E k o s q => by
  refine he pn H0 F H n σ δ _ o s ((f δ).mono (fun m d p => ?_) (fun _ _ z => z) q)
  intro v F1 H1 k1 o1 r1
  exact p v F1 H1 (k.trans k1 o1.fpn) o1 r1
theorem ls_retN : LS K tRetN dRetN := fun pn F0 H0 F H n σ δ E k o s q => q .non F H k o .non
theorem ls_if {tt : TT} {ft : List Sl → W Bool} (ht : LT K tt ft) (ha : LS K ts g) (hb : LS K tu h) : LS K (tIfS tt ts tu) (dIf ft g h) := fun pn F0 H0 F H n σ δ E k o s q => by
  refine ht pn H0 F H n σ δ _ o s ((ft δ).mono (fun m c p => ?_) (fun _ _ z => z) q)
  intro F1 H1 k1 o1
  cases c with
  | true => exact iteT (ha pn F0 H0 F1 H1 m σ δ E (k.trans k1 o1.fpn) o1 (s.go k1) ((g δ).mono (fun _ _ z => PostS.of k1.sub z) (fun _ _ z => z) p))
  | false => exact iteF (hb pn F0 H0 F1 H1 m σ δ E (k.trans k1 o1.fpn) o1 (s.go k1) ((h δ).mono (fun _ _ z => PostS.of k1.sub z) (fun _ _ z => z) p))
end

/-! ### what is walked -/
/-- J yields ds, wherever F is frozen -/
def Yie (K : PySem.W.Frag) (pn : Addr) (F : Hp) (J : It) (ds : List D) : Prop := ∀ (i : Nat) (F1 H1 : Hp) (n : Nat), Le F F1 → Ok K pn F1 H1 n →
  (∀ d, ds[i]? = some d → J.go i H1 ∧ ∀ x H2, J.yld i H1 x H2 → ∃ F2, Go pn F1 H1 F2 H2 ∧ Ok K pn F2 H2 n ∧ Rep K pn F2 x d) ∧ (ds.length ≤ i → J.stop i H1)
def LI (K : PySem.W.Frag) (wi : TI) (f : List Sl → W (List D)) : Prop := ∀ (pn : Addr) (H0 F H : Hp) (n : Nat) (σ : L2.St) (δ : List Sl) (R : It → Hp → Prop), Ok K pn F H n → Slo K pn H0 F H σ δ →
  (f δ).wp n (fun m ds => ∀ J F1 H1, Go pn F H F1 H1 → Ok K pn F1 H1 m → Yie K pn F1 J ds → R J H1) noX → wi σ H R
@[reducible] def dIL (f : List Sl → W D) : List Sl → W (List D) := fun δ => (f δ).bind fun d => match d with | .lst xs => W.ret xs | _ => W.stuck
@[reducible] def dIT (f : List Sl → W D) : List Sl → W (List D) := fun δ => (f δ).bind fun d => match d with | .tup xs => W.ret xs | _ => W.stuck
def rangeD (lo : Int) : Nat → List D
  | 0 => []
  | n + 1 => .int lo :: rangeD (lo + 1) n
theorem rangeD_len : ∀ (n : Nat) (lo : Int), (rangeD lo n).length = n
  | 0, _ => rfl
  | n + 1, lo => congrArg (· + 1) (rangeD_len n (lo + 1))
theorem rangeD_get : ∀ (n : Nat) (lo : Int) (i : Nat), i < n → (rangeD lo n)[i]? = some (.int (lo + i))
  | 0, _, _, h => absurd h (Nat.not_lt_zero _)
  | n + 1, lo, 0, _ => by show some (D.int lo) = _; congr 2; omega
  | n + 1, lo, i + 1, h => by
    show (rangeD (lo + 1) n)[i]? = _
    rw [rangeD_get n (lo + 1) i (by omega)]
    congr 2; omega
@[reducible] def dIR1 (f : List Sl → W (List D)) : List Sl → W (List D) := fun δ => (f δ).bind fun ds => match ds with | [.int j] => W.need (-(2 ^ 62) ≤ j ∧ j < 2 ^ 62) (W.ret (rangeD 0 j.toNat)) | _ => W.stuck
@[reducible] def dIR2 (f : List Sl → W (List D)) : List Sl → W (List D) := fun δ => (f δ).bind fun ds => match ds with
  | [.int i, .int j] => W.need (-(2 ^ 62) ≤ i ∧ i < 2 ^ 62 ∧ -(2 ^ 62) ≤ j ∧ j < 2 ^ 62) (W.ret (rangeD i (j - i).toNat)) | _ => W.stuck
section
variable {K : PySem.W.Frag} {pn : Addr} {F : Hp} {a : Addr} {vs : List V} {ds : List D}
theorem yie_list (q : SqL K F a vs) (r : RepL K pn F vs ds) : Yie K pn F (Itl K a) ds := fun i F1 H1 n e o => by
  have q1 : SqL K H1 a vs := o.fro.sqL (e.sqL q)
  refine ⟨fun d hd => ?_, fun h => ⟨vs, q1, by rw [r.len]; exact h⟩⟩
  obtain ⟨v, hv, rv⟩ := r.get hd
  refine ⟨⟨vs, v, q1, hv⟩, fun x H2 y => ?_⟩
  obtain ⟨rfl, y⟩ := y
  have hx := y vs q1
  rw [hv] at hx
  cases hx
  exact ⟨F1, Go.refl .., o, rv.up e⟩
theorem yie_tup (q : SqT K F a vs) (r : RepL K pn F vs ds) : Yie K pn F (Itt K a) ds := fun i F1 H1 n e o => by
  have q1 : SqT K H1 a vs := o.fro.sqT (e.sqT q)
  refine ⟨fun d hd => ?_, fun h => ⟨vs, q1, by rw [r.len]; exact h⟩⟩
  obtain ⟨v, hv, rv⟩ := r.get hd
  refine ⟨⟨vs, v, q1, hv⟩, fun x H2 y => ?_⟩
  obtain ⟨rfl, y⟩ := y
  have hx := y vs q1
  rw [hv] at hx
  cases hx
  exact ⟨F1, Go.refl .., o, rv.up e⟩
theorem yie_range {lo : Int} {n : Nat} : Yie K pn F (Itr lo n) (rangeD lo n) := fun i F1 H1 m e o => by
  refine ⟨fun d hd => ?_, fun h => by rw [rangeD_len] at h; exact h⟩
  have hi : i < n := by
    have := (List.getElem?_eq_some_iff.mp hd).1
    rw [rangeD_len] at this; exact this
  rw [rangeD_get n lo i hi] at hd
  cases hd
  refine ⟨hi, fun x H2 y => ?_⟩
  obtain ⟨rfl, rfl⟩ := y
  exact ⟨F1, Go.refl .., o, .int _⟩
end
section
variable {K : PySem.W.Frag} {te : TE} {f : List Sl → W D}
theorem li_list (he : LE K te f) : LI K (iList K te) (dIL f) := fun pn H0 F H n σ δ R o s h => by
  refine he pn H0 F H n σ δ _ o s ((f δ).mono (fun m d p => ?_) (fun _ _ z => z) h)
  intro v F1 H1 k1 o1 r1
  cases r1 with
  | lst q r => exact ⟨_, rfl, ⟨_, SqL.of (o1.fro _ _ q)⟩, p _ F1 H1 k1 o1 (yie_list (SqL.of q) r)⟩
  | _ => exact p.elim
theorem li_tup (he : LE K te f) : LI K (iTup K te) (dIT f) := fun pn H0 F H n σ δ R o s h => by
  refine he pn H0 F H n σ δ _ o s ((f δ).mono (fun m d p => ?_) (fun _ _ z => z) h)
  intro v F1 H1 k1 o1 r1
  cases r1 with
  | tup q r => exact ⟨_, rfl, ⟨_, o1.fro.sqT q⟩, p _ F1 H1 k1 o1 (yie_tup q r)⟩
  | _ => exact p.elim
theorem RepL.int1 {pn : Addr} {F : Hp} {vs : List V} {j : Int} (r : RepL K pn F vs [.int j]) : vs = [.int j] := by
  cases r with
  | cons a b => cases a; cases b; rfl
theorem RepL.int2 {pn : Addr} {F : Hp} {vs : List V} {i j : Int} (r : RepL K pn F vs [.int i, .int j]) : vs = [.int i, .int j] := by
  cases r with
  | cons a b => cases a; rw [b.int1]
theorem li_range1 {ta : TA} {fa : List Sl → W (List D)} (ha : LA K ta fa) : LI K (iRng1 ta) (dIR1 fa) := fun pn H0 F H n σ δ R o s h => by
  refine ha pn H0 F H n σ δ _ o s ((fa δ).mono (fun m ds p => ?_) (fun _ _ z => z) h)
  intro vs F1 H1 k1 o1 r1
  dsimp only at p
  split at p
  · rename_i j
    exact ⟨j, r1.int1, p.1.1, p.1.2, p.2 _ F1 H1 k1 o1 yie_range⟩
  · exact p.elim
theorem li_range2 {ta : TA} {fa : List Sl → W (List D)} (ha : LA K ta fa) : LI K (iRng2 ta) (dIR2 fa) := fun pn H0 F H n σ δ R o s h => by
  refine ha pn H0 F H n σ δ _ o s ((fa δ).mono (fun m ds p => ?_) (fun _ _ z => z) h)
  intro vs F1 H1 k1 o1 r1
  dsimp only at p
  split at p
  · rename_i i j
    exact ⟨i, j, r1.int2, p.1, p.2 _ F1 H1 k1 o1 yie_range⟩
  · exact p.elim
end

/-! ### for -/
def forD (dg : D → List Sl → W (List Sl)) (gb : List Sl → W Out) : List D → List Sl → W Out
  | [], δ => W.ret (.nx δ)
  | d :: ds, δ => (dg d δ).bind fun ε => (gb ε).bind fun o => match o with
    | .nx ε => forD dg gb ds ε
    | .ct ε => forD dg gb ds ε
    | .bk ε => W.ret (.nx ε)
    | .rt d => W.ret (.rt d)
@[reducible] def dFor (fi : List Sl → W (List D)) (dg : D → List Sl → W (List Sl)) (gb : List Sl → W Out) : List Sl → W Out := fun δ => (fi δ).bind fun ds => forD dg gb ds δ
theorem ls_for {K : PySem.W.Frag} {wi : TI} {fi : List Sl → W (List D)} {vs : List Nat} {tg : TG} {dg : D → List Sl → W (List Sl)} {tb : TS} {gb : List Sl → W Out} (hi : LI K wi fi) (hg : LG K vs tg dg) (hb : LS K tb gb) :
    LS K (tFor wi tg tb) (dFor fi dg gb) := fun pn F0 H0 F H n σ δ E k o s q => by
  refine hi pn H0 F H n σ δ _ o s ((fi δ).mono (fun m ds p => ?_) (fun _ _ z => z) q)
  intro J F1 H1 k1 o1 y
  refine ⟨fun i m σ H => m = ds.length - i ∧ i ≤ ds.length ∧ ∃ F2 δ n, Le F1 F2 ∧ Go pn F0 H0 F2 H ∧ Ok K pn F2 H n ∧ Slo K pn H0 F2 H σ δ ∧ (forD dg gb (ds.drop i) δ).wp n (PostS K pn F0 H0 F E) noX,
    ⟨ds.length, by simp, Nat.zero_le _, F1, δ, m, Le.refl _, k.trans k1 o1.fpn, o1, s.go k1, p⟩, ?_⟩
  rintro i m2 σ2 H2 ⟨rfl, hi2, F2, δ2, n2, l2, k2, o2, s2, p2⟩
  by_cases hlt : i < ds.length
  · refine .inr ?_
    have ed : ds[i]? = some ds[i] := List.getElem?_eq_getElem hlt
    obtain ⟨go, yl⟩ := (y i F2 H2 n2 l2 o2).1 _ ed
    refine ⟨go, fun σ' H' => i + 1 ≤ ds.length ∧ ∃ F2 δ n, Le F1 F2 ∧ Go pn F0 H0 F2 H' ∧ Ok K pn F2 H' n ∧ Slo K pn H0 F2 H' σ' δ ∧ (forD dg gb (ds.drop (i + 1)) δ).wp n (PostS K pn F0 H0 F E) noX, ?_, ?_⟩
    · rintro σ' H' ⟨h1, h2⟩
      exact ⟨ds.length - (i + 1), by omega, rfl, h1, h2⟩
    · intro x H3 yx
      obtain ⟨F3, k3, o3, r3⟩ := yl x H3 yx
      rw [List.drop_eq_getElem_cons hlt] at p2
      refine hg pn H0 F3 H3 n2 σ2 δ2 x _ _ o3 (s2.go k3) r3 ((dg _ δ2).mono (fun m4 ε p4 => ?_) (fun _ _ z => z) p2)
      intro σ4 F4 H4 k4 o4 s4 _ _
      have k04 := (k2.trans k3 o3.fpn).trans k4 o4.fpn
      have l4 : Le F1 F4 := (l2.trans k3.sub).trans k4.sub
      refine hb pn F0 H0 F4 H4 m4 σ4 ε _ k04 o4 s4 ((gb ε).mono (fun m5 u p5 => ?_) (fun _ _ z => z) p4)
      cases u with
      | nx ε5 => exact fun σ5 F5 H5 l5 k5 o5 s5 => ⟨hlt, F5, ε5, m5, l4.trans l5, k5, o5, s5, p5⟩
      | ct ε5 => exact fun σ5 F5 H5 l5 k5 o5 s5 => ⟨hlt, F5, ε5, m5, l4.trans l5, k5, o5, s5, p5⟩
      | bk ε5 => exact fun σ5 F5 H5 l5 k5 o5 s5 => p5 σ5 F5 H5 ((k1.sub.trans l4).trans l5) k5 o5 s5
      | rt d => exact p5
  · have e : i = ds.length := by omega
    subst e
    rw [List.drop_length] at p2
    exact .inl ⟨(y ds.length F2 H2 n2 l2 o2).2 (Nat.le_refl _), p2 σ2 F2 H2 (k1.sub.trans l2) k2 o2 s2⟩

/-! ### while, with so many turns at most -/
def whileD (ft : List Sl → W Bool) (gb : List Sl → W Out) : Nat → List Sl → W Out
  | 0, _ => W.stuck
  | m + 1, δ => (ft δ).bind fun c => match c with
    | false => W.ret (.nx δ)
    | true => (gb δ).bind fun o => match o with
      | .nx ε => whileD ft gb m ε
      | .ct ε => whileD ft gb m ε
      | .bk ε => W.ret (.nx ε)
      | .rt d => W.ret (.rt d)
/-- any number of turns that is enough -/
@[reducible] def dWhile (ft : List Sl → W Bool) (gb : List Sl → W Out) : List Sl → W Out := fun δ => ⟨fun n Q E => ∃ m, (whileD ft gb m δ).wp n Q E, fun h g ⟨m, p⟩ => ⟨m, (whileD ft gb m δ).mono h g p⟩⟩
theorem ls_while {K : PySem.W.Frag} {tt : TT} {ft : List Sl → W Bool} {tb : TS} {gb : List Sl → W Out} (ht : LT K tt ft) (hb : LS K tb gb) : LS K (tWhile tt tb) (dWhile ft gb) := fun pn F0 H0 F H n σ δ E k o s q => by
  obtain ⟨m0, q⟩ := q
  refine ⟨fun m σ H => ∃ F1 δ n, Le F F1 ∧ Go pn F0 H0 F1 H ∧ Ok K pn F1 H n ∧ Slo K pn H0 F1 H σ δ ∧ (whileD ft gb m δ).wp n (PostS K pn F0 H0 F E) noX, ⟨m0, F, δ, n, Le.refl F, k, o, s, q⟩, ?_⟩
  rintro m σ1 H1 ⟨F1, δ1, n1, l1, k1, o1, s1, p1⟩
  cases m with
  | zero => exact p1.elim
  | succ m =>
    refine ht pn H0 F1 H1 n1 σ1 δ1 _ o1 s1 ((ft δ1).mono (fun m2 c p2 => ?_) (fun _ _ z => z) p1)
    intro F2 H2 k2 o2
    have k02 := k1.trans k2 o2.fpn
    cases c with
    | false => exact iteF (p2 σ1 F2 H2 (l1.trans k2.sub) k02 o2 (s1.go k2))
    | true =>
      refine iteT ⟨fun σ' H' => ∃ F1 δ n, Le F F1 ∧ Go pn F0 H0 F1 H' ∧ Ok K pn F1 H' n ∧ Slo K pn H0 F1 H' σ' δ ∧ (whileD ft gb m δ).wp n (PostS K pn F0 H0 F E) noX, fun σ' H' h => ⟨m, Nat.lt_succ_self m, h⟩, ?_⟩
      refine hb pn F0 H0 F2 H2 m2 σ1 δ1 _ k02 o2 (s1.go k2) ((gb δ1).mono (fun m3 u p3 => ?_) (fun _ _ z => z) p2)
      cases u with
      | nx ε => exact fun σ5 F5 H5 l5 k5 o5 s5 => ⟨F5, ε, m3, (l1.trans k2.sub).trans l5, k5, o5, s5, p3⟩
      | ct ε => exact fun σ5 F5 H5 l5 k5 o5 s5 => ⟨F5, ε, m3, (l1.trans k2.sub).trans l5, k5, o5, s5, p3⟩
      | bk ε => exact fun σ5 F5 H5 l5 k5 o5 s5 => p3 σ5 F5 H5 ((l1.trans k2.sub).trans l5) k5 o5 s5
      | rt d => exact p3
end Lx
set_option Elab.async false
set_option linter.all false
set_option maxRecDepth 100000
set_option maxHeartbeats 2000000
/-! Lx3: comprehensions, lists of one's own, calls, defs. -/
namespace Lx
open PySem L2 PyProof.Rows

section
variable {K : PySem.W.Frag} {pn p : Addr} {F H F1 H1 : Hp} {n : Nat} {o : HO}
theorem Ok.put (k : Ok K pn F H n) (hF : F p = none) (hp : p ≠ pn) : Ok K pn F (upd H p o) n :=
  ⟨fun a u e => by rw [upd_ne (ne_of_none e hF)]; exact k.fro a u e, k.fpn, k.pen.le (Le.refl F) (upd_ne hp.symm)⟩
theorem Go.put (g : Go pn F H F1 H1) (h : H p = none) : Go pn F H F1 (upd H1 p o) :=
  ⟨fun a u ne e => by rw [upd_ne (ne_of_none e h)]; exact g.keep a u ne e, g.sub, g.new⟩
theorem Ok.frz (k : Ok K pn F H n) (h : H p = some o) (hF : F p = none) (hp : p ≠ pn) : Ok K pn (upd F p o) H n := by
  refine ⟨fun a u e => ?_, by rw [upd_ne hp.symm]; exact k.fpn, k.pen.le (Le.up hF) rfl⟩
  by_cases ha : a = p
  · subst ha; rw [upd_same] at e; cases e; exact h
  · rw [upd_ne ha] at e; exact k.fro a u e
theorem Go.frz (g : Go pn F H F1 H1) (h : H p = none) (hF : F1 p = none) : Go pn F H (upd F1 p o) H1 := by
  refine ⟨g.keep, g.sub.trans (Le.up hF), fun a u e z => ?_⟩
  by_cases ha : a = p
  · subst ha; exact h
  · rw [upd_ne ha] at e; exact g.new a u e z
theorem Go.none (g : Go pn F H F1 H1) (hF : F p = none) (h : H p = some o) : F1 p = none := by
  cases q : F1 p with
  | none => rfl
  | some u => rw [g.new p u q hF] at h; cases h
end

/-! ### the slots of a block -/
def wipeD (δ : List Sl) : List Nat → List Sl
  | [] => δ
  | v :: vs => (wipeD δ vs).set v .un
theorem Slo.wipe {K : PySem.W.Frag} {pn : Addr} {H0 F H : Hp} {σ : L2.St} {δ : List Sl} (s : Slo K pn H0 F H σ δ) : ∀ vs : List Nat, Slo K pn H0 F H (L2.wipe σ vs) (wipeD δ vs)
  | [] => s
  | v :: vs => (Slo.wipe s vs).forget
theorem wipe_in {σ : L2.St} {i : Nat} : ∀ {vs : List Nat}, i ∈ vs → i < σ.length → (L2.wipe σ vs)[i]? = some none
  | [], h, _ => nomatch h
  | v :: vs, h, hl => by
    unfold L2.wipe
    by_cases e : v = i
    · subst e
      exact List.getElem?_set_self (by rw [wipe_length]; exact hl)
    · rw [List.getElem?_set_ne e]
      exact wipe_in ((List.mem_cons.mp h).resolve_left fun z => e z.symm) hl
theorem wipe_eq {σ σ2 : L2.St} {vs : List Nat} (e : ∀ j : Nat, j ∉ vs → σ2[j]? = (L2.wipe σ vs)[j]?) (l : σ2.length = (L2.wipe σ vs).length) : L2.wipe σ2 vs = L2.wipe σ vs := by
  rw [wipe_length] at l
  apply List.ext_getElem?
  intro j
  by_cases hj : j ∈ vs
  · by_cases hl : j < σ.length
    · rw [wipe_in hj hl, wipe_in hj (by omega)]
    · rw [List.getElem?_eq_none (by rw [wipe_length]; omega), List.getElem?_eq_none (by rw [wipe_length]; omega)]
  · rw [wipe_out hj, e j hj]

theorem Slo.away {K : PySem.W.Frag} {pn p : Addr} {H0 F H : Hp} {σ : L2.St} {δ : List Sl} {o : HO} (s : Slo K pn H0 F H σ δ) (h : H p = none) : Slo K pn (upd H0 p o) F H σ δ := by
  obtain ⟨ow, h1, h2⟩ := s.own
  refine ⟨s.len, s.val, ow, fun i xs e => ?_, h2⟩
  obtain ⟨vs, a, b, c, d, e', f⟩ := h1 i xs e
  exact ⟨vs, a, b, c, d, e', by rw [upd_ne (ne_of_none b h)]; exact f⟩
theorem Slo.put {K : PySem.W.Frag} {pn p : Addr} {H0 F H : Hp} {σ : L2.St} {δ : List Sl} {o u : HO} (s : Slo K pn H0 F H σ δ) (h : H0 p = some u) : Slo K pn H0 F (upd H p o) σ δ := by
  obtain ⟨ow, h1, h2⟩ := s.own
  refine ⟨s.len, s.val, ow, fun i xs e => ?_, h2⟩
  obtain ⟨vs, a, b, c, d, e', f⟩ := h1 i xs e
  exact ⟨vs, a, by rw [upd_ne (ne_of_none h f).symm]; exact b, c, d, e', f⟩

/-! ### comprehensions -/
def lcD (dg : D → List Sl → W (List Sl)) (ft : List Sl → W Bool) (fe : List Sl → W D) (δ : List Sl) : List D → Nat → W (List D)
  | [], _ => W.ret []
  | d :: ds, k => (dg d δ).bind fun ε => (ft ε).bind fun c => match c with
    | false => lcD dg ft fe δ ds k
    | true => (fe ε).bind fun y => W.need (k < sizeLine) ((lcD dg ft fe δ ds (k + 1)).bind fun ys => W.ret (y :: ys))
@[reducible] def dLc (fi : List Sl → W (List D)) (dg : D → List Sl → W (List Sl)) (ft : List Sl → W Bool) (fe : List Sl → W D) (vs : List Nat) : List Sl → W D := fun δ => (fi δ).bind fun ds => (lcD dg ft fe (wipeD δ vs) ds 0).bind fun l => W.ret (.lst l)
@[reducible] def dYes : List Sl → W Bool := fun _ => W.ret true
theorem lt_yes {K : PySem.W.Frag} : LT K tYes dYes := fun pn H0 F H n σ δ Q o s h => h F H (Go.refl ..) o
theorem le_lc {K : PySem.W.Frag} {wi : TI} {fi : List Sl → W (List D)} {us vs : List Nat} {tg : TG} {dg : D → List Sl → W (List Sl)} {tt : TT} {ft : List Sl → W Bool} {te : TE} {fe : List Sl → W D}
    (hi : LI K wi fi) (hg : LG K us tg dg) (ht : LT K tt ft) (he : LE K te fe) (hu : ∀ j, j ∈ us → j ∈ vs) : LE K (tLc wi tg tt te vs) (dLc fi dg ft fe vs) := fun pn H0 F H n σ δ Q o s q => by
  refine hi pn H0 F H n σ δ _ o s ((fi δ).mono (fun m ds p => ?_) (fun _ _ z => z) q)
  intro J F1 H1 k1 o1 y D0 hD
  have hD0 : H D0 = none := by
    have ne := o1.ne hD
    cases z : H D0 with
    | none => rfl
    | some u => rw [k1.keep D0 u ne z] at hD; cases hD
  obtain ⟨o1', k1'⟩ := o1.layO (o := .lst []) hD
  refine ⟨fun i m H2 => m = ds.length - i ∧ i ≤ ds.length ∧ ∃ F2 n acc ws, Le F1 F2 ∧ Go pn F H F2 H2 ∧ Ok K pn F2 H2 n ∧ F2 D0 = none ∧ H2 D0 = some (.lst ws) ∧ RepL K pn F2 ws acc ∧
      (lcD dg ft fe (wipeD δ vs) (ds.drop i) acc.length).wp n (fun m ys => Post K pn F H Q m (.lst (acc ++ ys))) noX,
    ⟨ds.length, by simp, Nat.zero_le _, F1, m, [], [], Le.refl _, k1.trans k1' o1'.fpn, o1', o1.free hD, upd_same, .nil, p⟩, ?_⟩
  rintro i m2 H2 ⟨rfl, hi2, F2, n2, acc, ws, l2, k2, o2, fD, hD2, rw2, p2⟩
  have nD : D0 ≠ pn := o1.ne hD
  by_cases hlt : i < ds.length
  · refine .inr ?_
    have ed : ds[i]? = some ds[i] := List.getElem?_eq_getElem hlt
    obtain ⟨go, yl⟩ := (y i F2 H2 n2 l2 o2).1 _ ed
    refine ⟨go, fun H2 => i + 1 ≤ ds.length ∧ ∃ F2 n acc ws, Le F1 F2 ∧ Go pn F H F2 H2 ∧ Ok K pn F2 H2 n ∧ F2 D0 = none ∧ H2 D0 = some (.lst ws) ∧ RepL K pn F2 ws acc ∧
      (lcD dg ft fe (wipeD δ vs) (ds.drop (i + 1)) acc.length).wp n (fun m ys => Post K pn F H Q m (.lst (acc ++ ys))) noX, ?_, ?_⟩
    · rintro H' ⟨h1, h2⟩
      exact ⟨ds.length - (i + 1), by omega, rfl, h1, h2⟩
    · intro x H3 yx
      obtain ⟨F3, k3, o3, r3⟩ := yl x H3 yx
      rw [List.drop_eq_getElem_cons hlt] at p2
      have k03 := k2.trans k3 o3.fpn
      refine hg pn H0 F3 H3 n2 (L2.wipe σ vs) (wipeD δ vs) x _ _ o3 ((s.go k03).wipe vs) r3 ((dg _ _).mono (fun m4 ε p4 => ?_) (fun _ _ z => z) p2)
      intro σ4 F4 H4 k4 o4 s4 e4 l4
      refine ⟨wipe_eq (fun j hj => e4 j fun z => hj (hu j z)) l4, ?_⟩
      refine ht pn H0 F4 H4 m4 σ4 ε _ o4 s4 ((ft ε).mono (fun m5 c p5 => ?_) (fun _ _ z => z) p4)
      intro F5 H5 k5 o5
      have f3 := k3.none fD hD2
      have h3 := k3.keep _ _ nD hD2
      have f4 := k4.none f3 h3
      have h4 := k4.keep _ _ nD h3
      have f5 := k5.none f4 h4
      have h5 := k5.keep _ _ nD h4
      have k05 := (k03.trans k4 o4.fpn).trans k5 o5.fpn
      have l5 : Le F1 F5 := ((l2.trans k3.sub).trans k4.sub).trans k5.sub
      have rw5 : RepL K pn F5 ws acc := (((rw2.up k3.sub).up k4.sub).up k5.sub)
      cases c with
      | false => exact iteF ⟨hlt, F5, m5, acc, ws, l5, k05, o5, f5, h5, rw5, p5⟩
      | true =>
        refine iteT (he pn H0 F5 H5 m5 σ4 ε _ o5 (s4.go k5) ((fe ε).mono (fun m6 z p6 => ?_) (fun _ _ z => z) p5))
        intro v F6 H6 k6 o6 r6
        have f6 := k6.none f5 h5
        have h6 := k6.keep _ _ nD h5
        refine ⟨ws, h6, by rw [rw5.len]; exact p6.1, hlt, F6, m6, acc ++ [z], ws ++ [v], l5.trans k6.sub, (k05.trans k6 o6.fpn).put hD0, o6.put f6 nD, f6, upd_same, (rw5.up k6.sub).app (.cons r6 .nil), ?_⟩
        rw [List.length_append, List.length_singleton]
        refine (lcD dg ft fe (wipeD δ vs) (ds.drop (i + 1)) (acc.length + 1)).mono (fun m7 ys p7 => ?_) (fun _ _ z => z) p6.2
        rw [List.append_assoc]
        exact p7
  · have e : i = ds.length := by omega
    subst e
    rw [List.drop_length] at p2
    refine .inl ⟨(y ds.length F2 H2 n2 l2 o2).2 (Nat.le_refl _), ?_⟩
    have p2' : Post K pn F H Q n2 (.lst (acc ++ [])) := p2
    rw [List.append_nil] at p2'
    exact p2' (.ref D0) _ H2 (k2.frz hD0 fD) (o2.frz hD2 fD nD) (.lst upd_same (rw2.up (Le.up fD)))

/-! two clauses -/
def lcIn (dg : D → List Sl → W (List Sl)) (ft : List Sl → W Bool) (fe : List Sl → W D) (δ : List Sl) : List D → Nat → W (List D)
  | [], _ => W.ret []
  | d :: ds, k => (dg d δ).bind fun ε => (ft ε).bind fun c => match c with
    | false => lcIn dg ft fe δ ds k
    | true => (fe ε).bind fun y => W.need (k < sizeLine) ((lcIn dg ft fe δ ds (k + 1)).bind fun ys => W.ret (y :: ys))
def lc2D (dg : D → List Sl → W (List Sl)) (ft : List Sl → W Bool) (fj : List Sl → W (List D)) (dh : D → List Sl → W (List Sl)) (fu : List Sl → W Bool) (fe : List Sl → W D) (us : List Nat) (δ : List Sl) : List D → Nat → W (List D)
  | [], _ => W.ret []
  | d :: ds, k => (dg d δ).bind fun ε => (ft ε).bind fun c => match c with
    | false => lc2D dg ft fj dh fu fe us δ ds k
    | true => (fj ε).bind fun es => (lcIn dh fu fe (wipeD ε us) es k).bind fun ys => (lc2D dg ft fj dh fu fe us δ ds (k + ys.length)).bind fun zs => W.ret (ys ++ zs)
@[reducible] def dLc2 (fi : List Sl → W (List D)) (dg : D → List Sl → W (List Sl)) (ft : List Sl → W Bool) (fj : List Sl → W (List D)) (dh : D → List Sl → W (List Sl)) (fu : List Sl → W Bool) (fe : List Sl → W D) (vs us : List Nat) : List Sl → W D :=
  fun δ => (fi δ).bind fun ds => (lc2D dg ft fj dh fu fe us (wipeD δ vs) ds 0).bind fun l => W.ret (.lst l)
theorem le_lc2 {K : PySem.W.Frag} {wi wj : TI} {fi fj : List Sl → W (List D)} {us vs v1 v2 : List Nat} {tg th : TG} {dg dh : D → List Sl → W (List Sl)} {tt tu : TT} {ft fu : List Sl → W Bool} {te : TE} {fe : List Sl → W D}
    (hi : LI K wi fi) (hg : LG K v1 tg dg) (ht : LT K tt ft) (hj : LI K wj fj) (hh : LG K v2 th dh) (hu : LT K tu fu) (he : LE K te fe) (h1 : ∀ j, j ∈ v1 → j ∈ vs) (h2 : ∀ j, j ∈ v2 → j ∈ us) :
    LE K (tLc2 wi tg tt wj th tu te vs us) (dLc2 fi dg ft fj dh fu fe vs us) := fun pn H0 F H n σ δ Q o s q => by
  refine hi pn H0 F H n σ δ _ o s ((fi δ).mono (fun m ds p => ?_) (fun _ _ z => z) q)
  intro J F1 H1 k1 o1 y D0 hD
  have hD0 : H D0 = none := by
    have ne := o1.ne hD
    cases z : H D0 with
    | none => rfl
    | some u => rw [k1.keep D0 u ne z] at hD; cases hD
  obtain ⟨o1', k1'⟩ := o1.layO (o := .lst []) hD
  have nD : D0 ≠ pn := o1.ne hD
  refine ⟨fun i m H2 => m = ds.length - i ∧ i ≤ ds.length ∧ ∃ F2 n acc ws, Le F1 F2 ∧ Go pn F H F2 H2 ∧ Ok K pn F2 H2 n ∧ F2 D0 = none ∧ H2 D0 = some (.lst ws) ∧ RepL K pn F2 ws acc ∧
      (lc2D dg ft fj dh fu fe us (wipeD δ vs) (ds.drop i) acc.length).wp n (fun m ys => Post K pn F H Q m (.lst (acc ++ ys))) noX,
    ⟨ds.length, by simp, Nat.zero_le _, F1, m, [], [], Le.refl _, k1.trans k1' o1'.fpn, o1', o1.free hD, upd_same, .nil, p⟩, ?_⟩
  rintro i m2 H2 ⟨rfl, hi2, F2, n2, acc, ws, l2, k2, o2, fD, hD2, rw2, p2⟩
  by_cases hlt : i < ds.length
  · refine .inr ?_
    have ed : ds[i]? = some ds[i] := List.getElem?_eq_getElem hlt
    obtain ⟨go, yl⟩ := (y i F2 H2 n2 l2 o2).1 _ ed
    refine ⟨go, fun H2 => i + 1 ≤ ds.length ∧ ∃ F2 n acc ws, Le F1 F2 ∧ Go pn F H F2 H2 ∧ Ok K pn F2 H2 n ∧ F2 D0 = none ∧ H2 D0 = some (.lst ws) ∧ RepL K pn F2 ws acc ∧
      (lc2D dg ft fj dh fu fe us (wipeD δ vs) (ds.drop (i + 1)) acc.length).wp n (fun m ys => Post K pn F H Q m (.lst (acc ++ ys))) noX, ?_, ?_⟩
    · rintro H' ⟨h1, h2⟩
      exact ⟨ds.length - (i + 1), by omega, rfl, h1, h2⟩
    · intro x H3 yx
      obtain ⟨F3, k3, o3, r3⟩ := yl x H3 yx
      rw [List.drop_eq_getElem_cons hlt] at p2
      have k03 := k2.trans k3 o3.fpn
      refine hg pn (upd H0 D0 (.lst [])) F3 H3 n2 (L2.wipe σ vs) (wipeD δ vs) x _ _ o3 (((s.away hD0).go k03).wipe vs) r3 ((dg _ _).mono (fun m4 ε p4 => ?_) (fun _ _ z => z) p2)
      intro σ4 F4 H4 k4 o4 s4 e4 l4
      refine ⟨wipe_eq (fun j hj => e4 j fun z => hj (h1 j z)) l4, ?_⟩
      refine ht pn (upd H0 D0 (.lst [])) F4 H4 m4 σ4 ε _ o4 s4 ((ft ε).mono (fun m5 c p5 => ?_) (fun _ _ z => z) p4)
      intro F5 H5 k5 o5
      have f3 := k3.none fD hD2
      have h3 := k3.keep _ _ nD hD2
      have f4 := k4.none f3 h3
      have h4 := k4.keep _ _ nD h3
      have f5 := k5.none f4 h4
      have h5 := k5.keep _ _ nD h4
      have k05 := (k03.trans k4 o4.fpn).trans k5 o5.fpn
      have l5 : Le F1 F5 := ((l2.trans k3.sub).trans k4.sub).trans k5.sub
      have rw5 : RepL K pn F5 ws acc := (((rw2.up k3.sub).up k4.sub).up k5.sub)
      cases c with
      | false => exact iteF ⟨hlt, F5, m5, acc, ws, l5, k05, o5, f5, h5, rw5, p5⟩
      | true =>
        have s5 := s4.go k5
        refine iteT (hj pn (upd H0 D0 (.lst [])) F5 H5 m5 σ4 ε _ o5 s5 ((fj ε).mono (fun m6 es p6 => ?_) (fun _ _ z => z) p5))
        intro J1 F6 H6 k6 o6 y6
        have f6 := k6.none f5 h5
        have h6 := k6.keep _ _ nD h5
        have k06 := k05.trans k6 o6.fpn
        have s6 := s5.go k6
        refine ⟨fun j m H7 => m = es.length - j ∧ j ≤ es.length ∧ ∃ F7 n ac ws, Le F6 F7 ∧ Go pn F H F7 H7 ∧ Ok K pn F7 H7 n ∧ Slo K pn (upd H0 D0 (.lst [])) F7 H7 σ4 ε ∧ F7 D0 = none ∧ H7 D0 = some (.lst ws) ∧ RepL K pn F7 ws (acc ++ ac) ∧ (lcIn dh fu fe (wipeD ε us) (es.drop j) (acc.length + ac.length)).wp n (fun m ys => (lc2D dg ft fj dh fu fe us (wipeD δ vs) (ds.drop (i + 1)) (acc.length + (ac ++ ys).length)).wp m (fun m zs => Post K pn F H Q m (.lst (acc ++ ((ac ++ ys) ++ zs)))) noX) noX,
          ⟨es.length, by simp, Nat.zero_le _, F6, m6, [], ws, Le.refl _, k06, o6, s6, f6, h6, by rw [List.append_nil]; exact rw5.up k6.sub, p6⟩, ?_⟩
        rintro j m7 H7 ⟨rfl, hj7, F7, n7, ac, w7, l7, k7, o7, s7, f7, h7, r7, p7⟩
        by_cases hlt7 : j < es.length
        · refine .inr ?_
          have ed7 : es[j]? = some es[j] := List.getElem?_eq_getElem hlt7
          obtain ⟨go7, yl7⟩ := (y6 j F7 H7 n7 l7 o7).1 _ ed7
          refine ⟨go7, fun H7 => j + 1 ≤ es.length ∧ ∃ F7 n ac ws, Le F6 F7 ∧ Go pn F H F7 H7 ∧ Ok K pn F7 H7 n ∧ Slo K pn (upd H0 D0 (.lst [])) F7 H7 σ4 ε ∧ F7 D0 = none ∧ H7 D0 = some (.lst ws) ∧ RepL K pn F7 ws (acc ++ ac) ∧ (lcIn dh fu fe (wipeD ε us) (es.drop (j + 1)) (acc.length + ac.length)).wp n (fun m ys => (lc2D dg ft fj dh fu fe us (wipeD δ vs) (ds.drop (i + 1)) (acc.length + (ac ++ ys).length)).wp m (fun m zs => Post K pn F H Q m (.lst (acc ++ ((ac ++ ys) ++ zs)))) noX) noX, ?_, ?_⟩
          · rintro H' ⟨h1, h2⟩
            exact ⟨es.length - (j + 1), by omega, rfl, h1, h2⟩
          · intro x8 H8 yx8
            obtain ⟨F8, k8, o8, r8⟩ := yl7 x8 H8 yx8
            rw [List.drop_eq_getElem_cons hlt7] at p7
            have s8 := s7.go k8
            have f8 := k8.none f7 h7
            have h8 := k8.keep _ _ nD h7
            refine hh pn (upd H0 D0 (.lst [])) F8 H8 n7 (L2.wipe σ4 us) (wipeD ε us) x8 _ _ o8 (s8.wipe us) r8 ((dh _ _).mono (fun m9 η p9 => ?_) (fun _ _ z => z) p7)
            intro σ9 F9 H9 k9 o9 s9 e9 l9
            refine ⟨wipe_eq (fun j hj => e9 j fun z => hj (h2 j z)) l9, ?_⟩
            refine hu pn (upd H0 D0 (.lst [])) F9 H9 m9 σ9 η _ o9 s9 ((fu η).mono (fun ma c pa => ?_) (fun _ _ z => z) p9)
            intro Fa Ha ka oa
            have f9 := k9.none f8 h8
            have h9 := k9.keep _ _ nD h8
            have fa := ka.none f9 h9
            have ha := ka.keep _ _ nD h9
            have k0a := ((k7.trans k8 o8.fpn).trans k9 o9.fpn).trans ka oa.fpn
            have la : Le F6 Fa := ((l7.trans k8.sub).trans k9.sub).trans ka.sub
            have sa : Slo K pn (upd H0 D0 (.lst [])) Fa Ha σ4 ε := ((s7.go k8).go k9).go ka
            have ra := ((r7.up k8.sub).up k9.sub).up ka.sub
            cases c with
            | false => exact iteF ⟨hlt7, Fa, ma, ac, w7, la, k0a, oa, sa, fa, ha, ra, pa⟩
            | true =>
              refine iteT (he pn (upd H0 D0 (.lst [])) Fa Ha ma σ9 η _ oa (s9.go ka) ((fe η).mono (fun mb z pb => ?_) (fun _ _ z => z) pa))
              intro v Fb Hb kb ob rb
              have fb := kb.none fa ha
              have hb := kb.keep _ _ nD ha
              refine ⟨w7, hb, by rw [ra.len, List.length_append]; exact pb.1, hlt7, Fb, mb, ac ++ [z], w7 ++ [v], la.trans kb.sub, (k0a.trans kb ob.fpn).put hD0, ob.put fb nD, (sa.go kb).put upd_same, fb, upd_same, by rw [← List.append_assoc]; exact (ra.up kb.sub).app (.cons rb .nil), ?_⟩
              rw [List.length_append, List.length_singleton]
              refine (lcIn dh fu fe (wipeD ε us) (es.drop (j + 1)) (acc.length + ac.length + 1)).mono (fun mc ys pc => ?_) (fun _ _ z => z) pb.2
              rw [List.append_assoc]
              exact pc
        · have e : j = es.length := by omega
          subst e
          rw [List.drop_length] at p7
          refine .inl ⟨(y6 es.length F7 H7 n7 l7 o7).2 (Nat.le_refl _), ?_⟩
          refine ⟨hlt, F7, n7, acc ++ ac, w7, (l5.trans k6.sub).trans l7, k7, o7, f7, h7, r7, ?_⟩
          have p7' : (lc2D dg ft fj dh fu fe us (wipeD δ vs) (ds.drop (i + 1)) (acc.length + (ac ++ []).length)).wp n7 (fun m zs => Post K pn F H Q m (.lst (acc ++ ((ac ++ []) ++ zs)))) noX := p7
          rw [List.append_nil] at p7'
          rw [List.length_append]
          refine (lc2D dg ft fj dh fu fe us (wipeD δ vs) (ds.drop (i + 1)) (acc.length + ac.length)).mono (fun mc ys pc => ?_) (fun _ _ z => z) p7'
          rw [List.append_assoc]
          exact pc
  · have e : i = ds.length := by omega
    subst e
    rw [List.drop_length] at p2
    refine .inl ⟨(y ds.length F2 H2 n2 l2 o2).2 (Nat.le_refl _), ?_⟩
    have p2' : Post K pn F H Q n2 (.lst (acc ++ [])) := p2
    rw [List.append_nil] at p2'
    exact p2' (.ref D0) _ H2 (k2.frz hD0 fD) (o2.frz hD2 fD nD) (.lst upd_same (rw2.up (Le.up fD)))

/-! ### lists of one's own -/
section
variable {K : PySem.W.Frag}
theorem un_get {δ : List Sl} {i j : Nat} {x : Sl} (e : (δ.set i Sl.un)[j]? = some x) (hx : x ≠ Sl.un) : j ≠ i ∧ δ[j]? = some x := by
  by_cases hj : j = i
  · subst hj
    by_cases hl : j < δ.length
    · rw [List.getElem?_set_self hl] at e
      cases e; exact absurd rfl hx
    · rw [List.getElem?_eq_none (by simpa using hl)] at e
      cases e
  · rw [List.getElem?_set_ne (Ne.symm hj)] at e; exact ⟨hj, e⟩
theorem Slo.setOwn {pn p : Addr} {H0 F H : Hp} {σ : L2.St} {δ : List Sl} {i : Nat} {vs : List V} {xs : List D} (s : Slo K pn H0 F H σ δ) (hp : H p = some (.lst vs)) (r : RepL K pn F vs xs) (hF : F p = none) (hn : p ≠ pn) (h0 : H0 p = none)
    (ap : ∀ (j : Nat) (ys : List D), j ≠ i → δ[j]? = some (Sl.own ys) → σ[j]? ≠ some (some (.ref p))) : Slo K pn H0 F H (σ.set i (some (.ref p))) (δ.set i (.own xs)) := by
  obtain ⟨ow, h1, h2⟩ := s.own
  have cases_ : ∀ {j : Nat} {x : Sl}, (δ.set i (.own xs))[j]? = some x → (j = i ∧ x = .own xs ∧ i < δ.length) ∨ (j ≠ i ∧ δ[j]? = some x) := fun {j x} e => by
    by_cases hj : j = i
    · subst hj
      have hl : j < δ.length := by
        have := (List.getElem?_eq_some_iff.mp e).1
        simpa using this
      rw [List.getElem?_set_self hl] at e
      cases e
      exact .inl ⟨rfl, rfl, hl⟩
    · rw [List.getElem?_set_ne (Ne.symm hj)] at e; exact .inr ⟨hj, e⟩
  refine ⟨by simpa using s.len, fun j d e => ?_, fun j => if j = i then p else ow j, fun j ys e => ?_, fun j k ys zs e e' q => ?_⟩
  · rcases cases_ e with ⟨_, z, _⟩ | ⟨hj, e⟩
    · cases z
    · rw [List.getElem?_set_ne (Ne.symm hj)]; exact s.val j d e
  · rcases cases_ e with ⟨rfl, z, hl⟩ | ⟨hj, e⟩
    · cases z
      simp only [if_true]
      exact ⟨vs, List.getElem?_set_self (by rw [s.len]; exact hl), hp, r, hF, hn, h0⟩
    · simp only [if_neg hj]
      rw [List.getElem?_set_ne (Ne.symm hj)]
      exact h1 j ys e
  · rcases cases_ e with ⟨a1, z, hl⟩ | ⟨hj, e1⟩
    · rcases cases_ e' with ⟨a2, z', _⟩ | ⟨hk, e2⟩
      · rw [a1, a2]
      · simp only [if_pos a1, if_neg hk] at q
        obtain ⟨vs', a, _⟩ := h1 k zs e2
        exact absurd (by rw [q]; exact a) (ap k zs hk e2)
    · rcases cases_ e' with ⟨a2, z', _⟩ | ⟨hk, e2⟩
      · simp only [if_pos a2, if_neg hj] at q
        obtain ⟨vs', a, _⟩ := h1 j ys e1
        exact absurd (by rw [← q]; exact a) (ap j ys hj e1)
      · simp only [if_neg hj, if_neg hk] at q
        exact h2 j k ys zs e1 e2 q
@[reducible] def dOwn (f : List Sl → W (List D)) (i : Nat) : List Sl → W Out := fun δ => (f δ).bind fun xs => W.need (xs.length ≤ sizeLine) (W.ret (.nx (δ.set i (.own xs))))
theorem ls_own {t : TA} {f : List Sl → W (List D)} {i : Nat} (ha : LA K t f) : LS K (tAsg (tLst t) (gName i)) (dOwn f i) := fun pn F0 H0 F H n σ δ E k o s q => by
  refine ha pn H0 F H n σ δ _ o s ((f δ).mono (fun m xs p => ?_) (fun _ _ z => z) q)
  intro vs F1 H1 k1 o1 r1
  refine ⟨by rw [r1.len]; exact p.1, fun l hl => ?_⟩
  obtain ⟨o2, k2⟩ := o1.layO (o := .lst vs) hl
  have s2 := (s.go k1).go k2
  have k01 := k.trans k1 o1.fpn
  have h0 : H0 l = none := by
    have ne := o1.ne hl
    cases z : H0 l with
    | none => rfl
    | some u => rw [k01.keep l u ne z] at hl; cases hl
  refine p.2 _ F1 _ k1.sub (k01.trans k2 o2.fpn) o2 (s2.setOwn upd_same r1 (o1.free hl) (o1.ne hl) h0 fun j ys hj e z => ?_)
  obtain ⟨ow, q1, _⟩ := (s.go k1).own
  obtain ⟨vs', a, b, _⟩ := q1 j ys e
  rw [z] at a
  cases a
  rw [hl] at b; cases b
/-- x.append(e), x a list of one's own -/
@[reducible] def dApp (i : Nat) (f : List Sl → W D) : List Sl → W Out := fun δ => match δ[i]? with | some (.own xs) => (f δ).bind fun y => W.need (xs.length < sizeLine) (W.ret (.nx (δ.set i (.own (xs ++ [y]))))) | _ => W.stuck
theorem Slo.apart {pn : Addr} {H0 F H : Hp} {σ : L2.St} {δ : List Sl} {i : Nat} {xs : List D} (s : Slo K pn H0 F H σ δ) (e : δ[i]? = some (Sl.own xs)) : ∃ p vs, σ[i]? = some (some (.ref p)) ∧ H p = some (.lst vs) ∧ RepL K pn F vs xs ∧ F p = none ∧ p ≠ pn ∧ H0 p = none ∧
    ∀ (j : Nat) (ys : List D), j ≠ i → δ[j]? = some (Sl.own ys) → σ[j]? ≠ some (some (.ref p)) := by
  obtain ⟨ow, h1, h2⟩ := s.own
  obtain ⟨vs, a, b, c, d, e', f⟩ := h1 i xs e
  refine ⟨ow i, vs, a, b, c, d, e', f, fun j ys hj ej z => ?_⟩
  obtain ⟨_, a2, _⟩ := h1 j ys ej
  rw [z] at a2
  injection a2 with a3
  injection a3 with a4
  injection a4 with a5
  exact hj (h2 j i ys xs ej e a5.symm)
/-- one's own list is put anew: the other slots stand -/
theorem Slo.putOwn {pn p : Addr} {H0 F H : Hp} {σ : L2.St} {δ : List Sl} {i : Nat} {xs ys : List D} {ws : List V} (s : Slo K pn H0 F H σ δ) (e : δ[i]? = some (Sl.own xs)) (ep : σ[i]? = some (some (.ref p))) (r : RepL K pn F ws ys) : Slo K pn H0 F (upd H p (.lst ws)) σ (δ.set i (.own ys)) := by
  obtain ⟨q, vs, a, b, c, d, e', f, ap⟩ := s.apart e
  rw [ep] at a
  cases a
  obtain ⟨ow, h1, h2⟩ := s.own
  have s2 : Slo K pn H0 F (upd H p (.lst ws)) σ (δ.set i .un) := by
    have neq : ∀ {j : Nat} {x : Sl}, (δ.set i .un)[j]? = some x → x ≠ Sl.un → j ≠ i ∧ δ[j]? = some x := un_get
    refine ⟨by simpa using s.len, fun j d' e1 => s.val j d' (neq e1 (fun z => by cases z)).2, ow, fun j zs e1 => ?_, fun j k as bs e1 e2 => h2 j k as bs (neq e1 (fun z => by cases z)).2 (neq e2 (fun z => by cases z)).2⟩
    obtain ⟨hj, e1⟩ := neq e1 (fun z => by cases z)
    obtain ⟨v2, a2, b2, c2⟩ := h1 j zs e1
    refine ⟨v2, a2, ?_, c2⟩
    have ne : ow j ≠ p := fun z => ap j zs hj e1 (by rw [← z]; exact a2)
    rw [upd_ne ne]
    exact b2
  have hl : i < δ.length := (List.getElem?_eq_some_iff.mp e).1
  have s3 := s2.setOwn (i := i) (p := p) (vs := ws) (xs := ys) upd_same r d e' f (fun j zs hj e1 => by
    rw [List.getElem?_set_ne (Ne.symm hj)] at e1
    exact ap j zs hj e1)
  have e1 : σ.set i (some (.ref p)) = σ := by
    apply List.ext_getElem?
    intro j
    by_cases hj : j = i
    · subst hj
      rw [List.getElem?_set_self (by rw [s.len]; exact hl), ep]
    · rw [List.getElem?_set_ne (Ne.symm hj)]
  have e2 : (δ.set i .un).set i (.own ys) = δ.set i (.own ys) := by simp
  rw [e1, e2] at s3
  exact s3
theorem ls_app {te : TE} {f : List Sl → W D} {i : Nat} (he : LE K te f) : LS K (tDrop (tBM K "list" rAppend (tVar i) (tCons te tNil))) (dApp i f) := fun pn F0 H0 F H n σ δ E k o s q => by
  unfold dApp at q
  cases e : δ[i]? with
  | none => rw [e] at q; exact q.elim
  | some x =>
    rw [e] at q
    cases x with
    | un => exact q.elim
    | val d => exact q.elim
    | own xs =>
      obtain ⟨p, vs, a, b, c, d, e', f', ap⟩ := s.apart e
      refine ⟨.ref p, a, .inl ⟨rfl, vs, SqL.of b⟩, ?_⟩
      refine he pn H0 F H n σ δ _ o s ((f δ).mono (fun m y p2 => ?_) (fun _ _ z => z) q)
      intro v F1 H1 k1 o1 r1
      have h1 := k1.keep p _ e' b
      have f1 := k1.none d b
      refine ⟨p, vs, v, rfl, rfl, h1, by rw [c.len]; exact p2.1, ?_⟩
      exact p2.2 σ F1 _ k1.sub ((k.trans k1 o1.fpn).put f') (o1.put f1 e') ((s.go k1).putOwn e a ((c.up k1.sub).app (.cons r1 .nil)))
/-- a list of one's own is shown from here on -/
def frzD (i : Nat) (δ : List Sl) : List Sl := match δ[i]? with
  | some (.own xs) => δ.set i (.val (.lst xs))
  | _ => δ
theorem ls_frz {ts : TS} {g : List Sl → W Out} (i : Nat) (h : LS K ts g) : LS K ts (fun δ => g (frzD i δ)) := fun pn F0 H0 F H n σ δ E k o s q => by
  dsimp only at q
  unfold frzD at q
  cases e : δ[i]? with
  | none => rw [e] at q; exact h pn F0 H0 F H n σ δ E k o s q
  | some x =>
    rw [e] at q
    cases x with
    | un => exact h pn F0 H0 F H n σ δ E k o s q
    | val d => exact h pn F0 H0 F H n σ δ E k o s q
    | own xs =>
      obtain ⟨p, vs, a, b, c, d, e', f', ap⟩ := s.apart e
      have hl : i < δ.length := (List.getElem?_eq_some_iff.mp e).1
      have lf : Le F (upd F p (.lst vs)) := Le.up d
      have s1 : Slo K pn H0 (upd F p (.lst vs)) H σ (δ.set i .un) := by
        obtain ⟨ow, h1, h2⟩ := s.own
        have neq : ∀ {j : Nat} {x : Sl}, (δ.set i .un)[j]? = some x → x ≠ Sl.un → j ≠ i ∧ δ[j]? = some x := un_get
        refine ⟨by simpa using s.len, fun j d' e1 => let ⟨v, q, r⟩ := s.val j d' (neq e1 (fun z => by cases z)).2; ⟨v, q, r.up lf⟩, ow, fun j zs e1 => ?_, fun j k as bs e1 e2 => h2 j k as bs (neq e1 (fun z => by cases z)).2 (neq e2 (fun z => by cases z)).2⟩
        obtain ⟨hj, e1⟩ := neq e1 (fun z => by cases z)
        obtain ⟨v2, a2, b2, c2, d2, e2⟩ := h1 j zs e1
        have ne : ow j ≠ p := fun z => ap j zs hj e1 (by rw [← z]; exact a2)
        exact ⟨v2, a2, b2, c2.up lf, by rw [upd_ne ne]; exact d2, e2⟩
      have s2 := s1.set (i := i) (v := .ref p) (d := .lst xs) (.lst upd_same (c.up lf))
      have e1 : σ.set i (some (.ref p)) = σ := by
        apply List.ext_getElem?
        intro j
        by_cases hj : j = i
        · subst hj
          rw [List.getElem?_set_self (by rw [s.len]; exact hl), a]
        · rw [List.getElem?_set_ne (Ne.symm hj)]
      have e2 : (δ.set i .un).set i (.val (.lst xs)) = δ.set i (.val (.lst xs)) := by simp
      rw [e1, e2] at s2
      exact h pn F0 H0 _ H n σ _ E (k.frz f' d) (o.frz b d e') s2 ((g _).mono (fun _ _ z => PostS.of lf z) (fun _ _ z => z) q)
end

/-! ### defs -/
/-- the promise: called with values that bear data ds, it does as g says; nothing is raised -/
def Pr (K : PySem.W.Frag) (m : Nat) (g : List D → W D) : Sp := fun vs H Q _ => ∃ pn F ds n, Ok K pn F H n ∧ RepL K pn F vs ds ∧ ds.length = m ∧ (g ds).wp n (Post K pn F H Q) noX
theorem Pr.len {K : PySem.W.Frag} {m : Nat} {g : List D → W D} (vs : List V) (H : Hp) (Q : VK) (E : XK) (h : Pr K m g vs H Q E) : vs.length = m := by
  obtain ⟨_, _, _, _, _, r, e, _⟩ := h
  rw [r.len, e]
theorem Pr.imp {K : PySem.W.Frag} {m : Nat} {g h : List D → W D} (i : ∀ ds n Q, ds.length = m → (h ds).wp n Q noX → (g ds).wp n Q noX) (vs : List V) (H : Hp) (Q : VK) (E : XK) (p : Pr K m h vs H Q E) : Pr K m g vs H Q E := by
  obtain ⟨pn, F, ds, n, o, r, e, q⟩ := p
  exact ⟨pn, F, ds, n, o, r, e, i ds n _ e q⟩
@[reducible] def dCall (m : Nat) (g : List D → W D) (f : List Sl → W (List D)) : List Sl → W D := fun δ => (f δ).bind fun ds => W.need (ds.length = m) (g ds)
theorem le_call {K : PySem.W.Frag} {m : Nat} {g : List D → W D} {t : TA} {f : List Sl → W (List D)} (ha : LA K t f) : LE K (tCall (Pr K m g) [] E0 t) (dCall m g f) := fun pn H0 F H n σ δ Q o s h => by
  refine ha pn H0 F H n σ δ _ o s ((f δ).mono (fun k ds p => ?_) (fun _ _ z => z) h)
  intro vs F1 H1 k1 o1 r1
  refine ⟨pn, F1, ds, k, o1, by rw [List.append_nil]; exact r1, p.1, (g ds).mono (fun _ _ z => Post.of k1 z) (fun _ _ z => z) p.2⟩
def startD (N : List Str) (ds : List D) : List Sl := ds.map Sl.val ++ List.replicate (N.length - ds.length) Sl.un
@[reducible] def dBody (N : List Str) (b : List Sl → W Out) : List D → W D := fun ds => (b (startD N ds)).bind fun o => match o with
  | .nx _ => W.ret .non
  | .rt d => W.ret d
  | _ => W.stuck
theorem Slo.start {K : PySem.W.Frag} {pn : Addr} {F H : Hp} {N : List Str} {vs : List V} {ds : List D} (r : RepL K pn F vs ds) : Slo K pn H F H (L2.start N vs) (startD N ds) := by
  have get : ∀ {j : Nat} {x : Sl}, (startD N ds)[j]? = some x → x ≠ .un → ∃ d, ds[j]? = some d ∧ x = .val d := fun {j x} e hx => by
    unfold startD at e
    by_cases hj : j < (ds.map Sl.val).length
    · rw [List.getElem?_append_left hj, List.getElem?_map] at e
      cases q : ds[j]? with
      | none => rw [q] at e; cases e
      | some d => rw [q] at e; cases e; exact ⟨d, rfl, rfl⟩
    · rw [List.getElem?_append_right (by omega), List.getElem?_replicate] at e
      split at e
      · cases e; exact absurd rfl hx
      · cases e
  refine ⟨?_, fun j d e => ?_, fun _ => 0, fun j xs e => ?_, fun j k xs ys e => ?_⟩
  · unfold L2.start startD
    rw [List.length_append, List.length_append, List.length_map, List.length_map, List.length_replicate, List.length_replicate, r.len]
  · obtain ⟨d', e1, e2⟩ := get e (fun z => by cases z)
    cases e2
    obtain ⟨v, hv, rv⟩ := r.get e1
    refine ⟨v, ?_, rv⟩
    unfold L2.start
    have hl : j < vs.length := (List.getElem?_eq_some_iff.mp hv).1
    rw [List.getElem?_append_left (by simpa using hl), List.getElem?_map, hv]
    rfl
  · obtain ⟨d', e1, e2⟩ := get e (fun z => by cases z)
    cases e2
  · obtain ⟨d', e1, e2⟩ := get e (fun z => by cases z)
    cases e2
section
variable {P : Program} {w : World} {K : PySem.W.Frag} {mg : Str → Option Value} {base : Heap} {x qual : Str} {params : Arguments} {body : List Stmt} {scope : Scope} {dvs : List V} {kws : List (Str × V)} {f : Addr} {fd : FuncData}
theorem body_lx {N : List Str} {t : TS} {b : List Sl → W Out} (hl : LS K t b) {m : Nat} {vs : List V} {H : Hp} {Q : VK} {E : XK} (h : Pr K m (dBody N b) vs H Q E) : t { nx := fun _ H' => Q .non H', rt := Q } (L2.start N vs) H := by
  obtain ⟨pn, F, ds, n, o, r, e, q⟩ := h
  refine hl pn F H F H n (L2.start N vs) (startD N ds) _ (Go.refl ..) o (.start r) ((b _).mono (fun k u p => ?_) (fun _ _ z => z) q)
  cases u with
  | nx δ => exact fun σ F1 H1 _ k1 o1 _ => p .non F1 H1 k1 o1 .non
  | rt d => exact fun v F1 H1 k1 o1 r1 => p v F1 H1 k1 o1 r1
  | bk δ => exact p.elim
  | ct δ => exact p.elim
theorem fn_lx {CX : CXT} {N ps : List Str} {k : Nat} {t : TS} {b : List Sl → W Out} (F : FunD K x qual params body scope dvs kws f fd) (S : FnScope N ps scope) (hl : LS K t b)
    (hb : ∀ (cdv : Value) (A : Around) (outer : List Env) (s : Shared) (H : Hp) (E : XK), Room k (A.deeper (envOfC qual scope s.heap.objs.size f cdv)) → PSs (cxOf CX P w K mg base N qual scope f cdv A outer s H E).nox body t) :
    FnOk P w K mg base CX (k + 1) f fd ps (Pr K ps.length (dBody N b)) :=
  F.ok S Pr.len fun cdv A outer s H vs Q E hr h => ⟨t, (hb cdv A outer s H E hr).nox, body_lx hl h⟩
end
end Lx
set_option Elab.async false
set_option linter.all false
set_option maxRecDepth 100000
set_option maxHeartbeats 2000000
/-! Lx4: operations on data. -/
namespace Lx
open PySem L2

/-! ### plain data for == and repr -/
mutual
def toP : D → Option PyData
  | .non => some .none
  | .bl b => some (.bool b)
  | .int i => some (.int i)
  | .str x => some (.str x)
  | .lst xs => (toPs xs).map .list
  | .tup xs => (toPs xs).map .tuple
  | .obj _ _ => none
  | .pen => none
  | .sct _ => none
  | .adr _ => none
def toPs : List D → Option (List PyData)
  | [] => some []
  | d :: ds => (toP d).bind fun p => (toPs ds).map fun ps => p :: ps
end
section
variable {K : PySem.W.Frag} {pn : Addr} {F H : Hp}
mutual
theorem Rep.dp (e : Le F H) : ∀ {v : V} {d : D} {p : PyData}, Rep K pn F v d → toP d = some p → Dp K H v p
  | _, _, _, .non, h => by unfold toP at h; cases h; exact .non
  | _, _, _, .bl b, h => by unfold toP at h; cases h; exact .bl b
  | _, _, _, .int i, h => by unfold toP at h; cases h; exact .int i
  | _, _, _, .str x, h => by unfold toP at h; cases h; exact .str x
  | _, _, _, .lst (ds := ds) q r, h => by
    unfold toP at h
    cases e1 : toPs ds with
    | none => rw [e1] at h; cases h
    | some ps => rw [e1] at h; cases h; exact .lst (SqL.of (e _ _ q)) (RepL.dp e r e1)
  | _, _, _, .tup (ds := ds) q r, h => by
    unfold toP at h
    cases e1 : toPs ds with
    | none => rw [e1] at h; cases h
    | some ps => rw [e1] at h; cases h; exact .tup (e.sqT q) (RepL.dp e r e1)
  | _, _, _, .obj _ _ _ _, h => by unfold toP at h; cases h
  | _, _, _, .adr _, h => by unfold toP at h; cases h
  | _, _, _, .pen, h => by unfold toP at h; cases h
  | _, _, _, .sct _, h => by unfold toP at h; cases h
theorem RepL.dp (e : Le F H) : ∀ {vs : List V} {ds : List D} {ps : List PyData}, RepL K pn F vs ds → toPs ds = some ps → DpAll K H vs ps
  | _, _, _, .nil, h => by unfold toPs at h; cases h; exact .nil
  | _, _, _, .cons (d := d) (ds := ds) a r, h => by
    unfold toPs at h
    cases e1 : toP d with
    | none => rw [e1] at h; cases h
    | some p =>
      rw [e1] at h
      cases e2 : toPs ds with
      | none => rw [e2] at h; cases h
      | some ps => rw [e2] at h; cases h; exact .cons (Rep.dp e a e1) (RepL.dp e r e2)
end
end

/-! ### arithmetic, + * of texts and lists -/
@[reducible] def addD : D → D → W D
  | .int i, .int j => W.ret (.int (i + j))
  | .str x, .str y => W.need (x.length + y.length ≤ sizeLine) (W.ret (.str (x ++ y)))
  | .lst xs, .lst ys => W.need (xs.length + ys.length ≤ sizeLine) (W.ret (.lst (xs ++ ys)))
  | _, _ => W.stuck
@[reducible] def subD : D → D → W D
  | .int i, .int j => W.ret (.int (i - j))
  | _, _ => W.stuck
@[reducible] def mulD : D → D → W D
  | .int i, .int j => W.need (CMul i j) (W.ret (.int (i * j)))
  | _, _ => W.stuck
@[reducible] def modD : D → D → W D
  | .int i, .int j => W.need (0 < j) (W.ret (.int (i % j)))
  | _, _ => W.stuck
@[reducible] def fdivD : D → D → W D
  | .int i, .int j => W.need (CDiv i j) (W.ret (.int (i / j)))
  | _, _ => W.stuck
@[reducible] def negD : D → W D
  | .int i => W.ret (.int (-i))
  | _ => W.stuck
def rAddU : R2 := fun x y H Q => (rI0 fun i j => .int (i + j)) x y H Q ∨ (∃ i j, x = .str i ∧ y = .str j ∧ i.length + j.length ≤ sizeLine ∧ Q (.str (i ++ j)) H) ∨ rCat x y H Q
section
variable {X : Cx} {K : PySem.W.Frag}
theorem op_addU : OpR X (binaryOp .Add) rAddU := op_add.or (op_add_str.or op_cat)
theorem lo_add : LO2 K rAddU addD := fun pn F H n v w x y Q o rx ry h => by
  cases rx with
  | int i => cases ry with
    | int j => exact .inl ⟨i, j, rfl, rfl, h _ F H (Go.refl ..) o (.int _)⟩
    | _ => exact h.elim
  | str i => cases ry with
    | str j => exact .inr (.inl ⟨i, j, rfl, rfl, h.1, h.2 _ F H (Go.refl ..) o (.str _)⟩)
    | _ => exact h.elim
  | lst a r => cases ry with
    | lst b q =>
      refine .inr (.inr ⟨_, _, _, _, rfl, rfl, o.fro _ _ a, o.fro _ _ b, by rw [r.len, q.len]; exact h.1, fun p hp => ?_⟩)
      obtain ⟨o2, g2⟩ := o.lay (o := .lst (_ ++ _)) hp
      exact h.2 (.ref p) _ _ g2 o2 (.lst upd_same ((r.up g2.sub).app (q.up g2.sub)))
    | _ => exact h.elim
  | _ => exact h.elim
theorem lo_sub : LO2 K (rI0 fun i j => .int (i - j)) subD := fun pn F H n v w x y Q o rx ry h => by
  cases rx with
  | int i => cases ry with
    | int j => exact ⟨i, j, rfl, rfl, h _ F H (Go.refl ..) o (.int _)⟩
    | _ => exact h.elim
  | _ => exact h.elim
theorem lo_mul : LO2 K (rI CMul fun i j => .int (i * j)) mulD := fun pn F H n v w x y Q o rx ry h => by
  cases rx with
  | int i => cases ry with
    | int j => exact ⟨i, j, rfl, rfl, h.1, h.2 _ F H (Go.refl ..) o (.int _)⟩
    | _ => exact h.elim
  | _ => exact h.elim
theorem lo_mod : LO2 K (rI (fun _ j => 0 < j) fun i j => .int (i % j)) modD := fun pn F H n v w x y Q o rx ry h => by
  cases rx with
  | int i => cases ry with
    | int j => exact ⟨i, j, rfl, rfl, h.1, h.2 _ F H (Go.refl ..) o (.int _)⟩
    | _ => exact h.elim
  | _ => exact h.elim
theorem lo_fdiv : LO2 K (rI CDiv fun i j => .int (i / j)) fdivD := fun pn F H n v w x y Q o rx ry h => by
  cases rx with
  | int i => cases ry with
    | int j => exact ⟨i, j, rfl, rfl, h.1, h.2 _ F H (Go.refl ..) o (.int _)⟩
    | _ => exact h.elim
  | _ => exact h.elim
theorem lo_neg : LO1 K (rU fun i => .int (-i)) negD := fun pn F H n v x Q o rx h => by
  cases rx with
  | int i => exact ⟨i, rfl, h _ F H (Go.refl ..) o (.int _)⟩
  | _ => exact h.elim

/-! ### comparisons -/
@[reducible] def eqD : D → D → W D
  | .int i, .int j => W.ret (.bl (decide (i = j)))
  | .str x, .str y => W.ret (.bl (decide (x = y)))
  | .bl a, .bl b => W.ret (.bl (decide (a = b)))
  | x, y => match toP x, toP y with
    | some a, some b => W.need (SeqAt.shaped a = true ∧ SeqAt.shaped b = true) (W.ret (.bl (PyData.eqv a b)))
    | _, _ => W.stuck
@[reducible] def neD : D → D → W D
  | .int i, .int j => W.ret (.bl (!decide (i = j)))
  | .str x, .str y => W.ret (.bl (!decide (x = y)))
  | .bl a, .bl b => W.ret (.bl (!decide (a = b)))
  | x, y => match toP x, toP y with
    | some a, some b => W.need (SeqAt.shaped a = true ∧ SeqAt.shaped b = true) (W.ret (.bl (!PyData.eqv a b)))
    | _, _ => W.stuck
def rEqU (K : PySem.W.Frag) : R2 := fun x y H Q => rEq x y H Q ∨ rEqD K x y H Q
def rNeU (K : PySem.W.Frag) : R2 := fun x y H Q => rNe x y H Q ∨ rNeD K x y H Q
theorem op_eqU (hu : X.A.units + 64 < cLine) : OpR X (compareOp .Eq) (rEqU X.K) := op_eq.or (op_eqD hu)
theorem op_neU (hu : X.A.units + 64 < cLine) : OpR X (compareOp .NotEq) (rNeU X.K) := op_ne.or (op_neD hu)
theorem eq_gen {pn : Addr} {F H : Hp} {n : Nat} {v w : V} {x y : D} {Q : VK} (o : Ok K pn F H n) (rx : Rep K pn F v x) (ry : Rep K pn F w y)
    (h : (match toP x, toP y with | some a, some b => W.need (SeqAt.shaped a = true ∧ SeqAt.shaped b = true) (W.ret (D.bl (PyData.eqv a b))) | _, _ => (W.stuck : W D)).wp n (Post K pn F H Q) noX) : rEqU K v w H Q := by
  cases ex : toP x with
  | none => rw [ex] at h; exact h.elim
  | some a => cases ey : toP y with
    | none => rw [ex, ey] at h; exact h.elim
    | some b =>
      rw [ex, ey] at h
      exact .inr ⟨a, b, rx.dp o.fro ex, ry.dp o.fro ey, h.1.1, h.1.2, h.2 _ F H (Go.refl ..) o (.bl _)⟩
theorem ne_gen {pn : Addr} {F H : Hp} {n : Nat} {v w : V} {x y : D} {Q : VK} (o : Ok K pn F H n) (rx : Rep K pn F v x) (ry : Rep K pn F w y)
    (h : (match toP x, toP y with | some a, some b => W.need (SeqAt.shaped a = true ∧ SeqAt.shaped b = true) (W.ret (D.bl (!PyData.eqv a b))) | _, _ => (W.stuck : W D)).wp n (Post K pn F H Q) noX) : rNeU K v w H Q := by
  cases ex : toP x with
  | none => rw [ex] at h; exact h.elim
  | some a => cases ey : toP y with
    | none => rw [ex, ey] at h; exact h.elim
    | some b =>
      rw [ex, ey] at h
      exact .inr ⟨a, b, rx.dp o.fro ex, ry.dp o.fro ey, h.1.1, h.1.2, h.2 _ F H (Go.refl ..) o (.bl _)⟩
theorem vdec_int {i j : Int} : decide (V.int i = V.int j) = decide (i = j) := by simp
theorem vdec_str {i j : Str} : decide (V.str i = V.str j) = decide (i = j) := by simp
theorem vdec_bl {i j : Bool} : decide (V.bl i = V.bl j) = decide (i = j) := by simp
theorem lo_eq : LO2 K (rEqU K) eqD := fun pn F H n v w x y Q o rx ry h => by
  have r2 := ry
  cases rx with
  | int i => cases ry with
    | int j => exact .inl ⟨rfl, by rw [vdec_int]; exact h _ F H (Go.refl ..) o (.bl _)⟩
    | _ => exact eq_gen o (.int i) r2 h
  | str i => cases ry with
    | str j => exact .inl ⟨rfl, by rw [vdec_str]; exact h _ F H (Go.refl ..) o (.bl _)⟩
    | _ => exact eq_gen o (.str i) r2 h
  | bl i => cases ry with
    | bl j => exact .inl ⟨rfl, by rw [vdec_bl]; exact h _ F H (Go.refl ..) o (.bl _)⟩
    | _ => exact eq_gen o (.bl i) r2 h
  | non => exact eq_gen o .non ry (by cases ry <;> exact h)
  | lst a r => exact eq_gen o (.lst a r) ry (by cases ry <;> exact h)
  | tup a r => exact eq_gen o (.tup a r) ry (by cases ry <;> exact h)
  | obj a u z r => exact eq_gen o (.obj a u z r) ry (by cases ry <;> exact h)
  | adr a => exact eq_gen o (.adr a) ry (by cases ry <;> exact h)
  | pen => exact eq_gen o .pen ry (by cases ry <;> exact h)
  | sct a => exact eq_gen o (.sct a) ry (by cases ry <;> exact h)
theorem lo_ne : LO2 K (rNeU K) neD := fun pn F H n v w x y Q o rx ry h => by
  have r2 := ry
  cases rx with
  | int i => cases ry with
    | int j => exact .inl ⟨rfl, by rw [vdec_int]; exact h _ F H (Go.refl ..) o (.bl _)⟩
    | _ => exact ne_gen o (.int i) r2 h
  | str i => cases ry with
    | str j => exact .inl ⟨rfl, by rw [vdec_str]; exact h _ F H (Go.refl ..) o (.bl _)⟩
    | _ => exact ne_gen o (.str i) r2 h
  | bl i => cases ry with
    | bl j => exact .inl ⟨rfl, by rw [vdec_bl]; exact h _ F H (Go.refl ..) o (.bl _)⟩
    | _ => exact ne_gen o (.bl i) r2 h
  | non => exact ne_gen o .non ry (by cases ry <;> exact h)
  | lst a r => exact ne_gen o (.lst a r) ry (by cases ry <;> exact h)
  | tup a r => exact ne_gen o (.tup a r) ry (by cases ry <;> exact h)
  | obj a u z r => exact ne_gen o (.obj a u z r) ry (by cases ry <;> exact h)
  | adr a => exact ne_gen o (.adr a) ry (by cases ry <;> exact h)
  | pen => exact ne_gen o .pen ry (by cases ry <;> exact h)
  | sct a => exact ne_gen o (.sct a) ry (by cases ry <;> exact h)
@[reducible] def cmpD (c : Int → Int → Bool) : D → D → W D
  | .int i, .int j => W.ret (.bl (c i j))
  | _, _ => W.stuck
@[reducible] def ltD : D → D → W D := cmpD fun i j => decide (i < j)
@[reducible] def leD : D → D → W D := cmpD fun i j => decide (i ≤ j)
@[reducible] def gtD : D → D → W D := cmpD fun i j => decide (j < i)
@[reducible] def geD : D → D → W D := cmpD fun i j => decide (j ≤ i)
theorem lo_cmp {c : Int → Int → Bool} : LO2 K (rI0 fun i j => .bl (c i j)) (cmpD c) := fun pn F H n v w x y Q o rx ry h => by
  cases rx with
  | int i => cases ry with
    | int j => exact ⟨i, j, rfl, rfl, h _ F H (Go.refl ..) o (.bl _)⟩
    | _ => exact h.elim
  | _ => exact h.elim
/-! is None -/
@[reducible] def isND : D → D → W D
  | .non, .non => W.ret (.bl true)
  | _, .non => W.ret (.bl false)
  | _, _ => W.stuck
@[reducible] def notND : D → D → W D
  | .non, .non => W.ret (.bl false)
  | _, .non => W.ret (.bl true)
  | _, _ => W.stuck
theorem lo_isN : LO2 K (fun x y H Q => y = .non ∧ Q (.bl (decide (x = .non))) H) isND := fun pn F H n v w x y Q o rx ry h => by
  cases ry with
  | non => cases rx <;> first
    | exact ⟨rfl, by rw [decide_eq_true (by rfl)]; exact h _ F H (Go.refl ..) o (.bl _)⟩
    | exact ⟨rfl, by rw [decide_eq_false (by intro z; cases z)]; exact h _ F H (Go.refl ..) o (.bl _)⟩
  | _ => cases rx <;> exact h.elim
theorem lo_notN : LO2 K (fun x y H Q => y = .non ∧ Q (.bl (!decide (x = .non))) H) notND := fun pn F H n v w x y Q o rx ry h => by
  cases ry with
  | non => cases rx <;> first
    | exact ⟨rfl, by rw [decide_eq_true (by rfl)]; exact h _ F H (Go.refl ..) o (.bl _)⟩
    | exact ⟨rfl, by rw [decide_eq_false (by intro z; cases z)]; exact h _ F H (Go.refl ..) o (.bl _)⟩
  | _ => cases rx <;> exact h.elim

/-! in -/
def flatD : D → Bool
  | .non => true | .bl _ => true | .int _ => true | .str _ => true
  | _ => false
def eqF : D → D → Bool
  | .non, .non => true
  | .bl a, .bl b => a == b
  | .bl a, .int b => (if a then 1 else 0) == b
  | .int a, .bl b => a == (if b then 1 else 0)
  | .int a, .int b => a == b
  | .str a, .str b => a == b
  | _, _ => false
def inF (x : D) (ys : List D) : Bool := ys.any fun y => eqF y x
def inS (x y : Str) : Bool := !(Builtin.Str.occurrences y x 0 y.length 1).isEmpty
@[reducible] def inD (neg : Bool) : D → D → W D
  | .str x, .str y => W.ret (.bl (if neg then !inS x y else inS x y))
  | x, .lst ys => W.need (flatD x = true ∧ ys.all flatD = true) (W.ret (.bl (if neg then !inF x ys else inF x ys)))
  | x, .tup ys => W.need (flatD x = true ∧ ys.all flatD = true) (W.ret (.bl (if neg then !inF x ys else inF x ys)))
  | _, _ => W.stuck
theorem flat_of {pn : Addr} {F : Hp} {v : V} {d : D} (r : Rep K pn F v d) (h : flatD d = true) : flatV v = true := by
  cases r <;> first | rfl | cases h
theorem flats_of {pn : Addr} {F : Hp} : ∀ {vs : List V} {ds : List D}, RepL K pn F vs ds → ds.all flatD = true → vs.all flatV = true
  | _, _, .nil, _ => rfl
  | _, _, .cons a r, h => by
    rw [List.all_cons, Bool.and_eq_true] at h ⊢
    exact ⟨flat_of a h.1, flats_of r h.2⟩
theorem eqF_of {pn : Addr} {F : Hp} {v w : V} {x y : D} (rx : Rep K pn F v x) (ry : Rep K pn F w y) (hx : flatD x = true) (hy : flatD y = true) : eqV v w = eqF x y := by
  cases rx <;> first | (cases ry <;> first | rfl | cases hy) | cases hx
theorem inF_of {pn : Addr} {F : Hp} {v : V} {x : D} (rx : Rep K pn F v x) (hx : flatD x = true) : ∀ {vs : List V} {ds : List D}, RepL K pn F vs ds → ds.all flatD = true → inV v vs = inF x ds
  | _, _, .nil, _ => rfl
  | _, _, .cons a r, h => by
    rw [List.all_cons, Bool.and_eq_true] at h
    unfold inV inF
    rw [List.any_cons, List.any_cons, eqF_of a rx h.1 hx]
    exact congrArg _ (inF_of rx hx r h.2)
def rInU (K : PySem.W.Frag) (neg : Bool) : R2 := fun x y H Q => (∃ i j, x = .str i ∧ y = .str j ∧ Q (.bl (if neg then !inS i j else inS i j)) H) ∨ rIn K neg x y H Q
theorem op_inU : OpR X (compareOp .In) (rInU X.K false) := op_in_str.or op_in_seq
theorem op_notInU : OpR X (compareOp .NotIn) (rInU X.K true) := op_notin_str.or op_notIn_seq
theorem lo_in {neg : Bool} : LO2 K (rInU K neg) (inD neg) := fun pn F H n v w x y Q o rx ry h => by
  cases ry with
  | str j => cases rx with
    | str i => exact .inl ⟨i, j, rfl, rfl, h _ F H (Go.refl ..) o (.bl _)⟩
    | _ => exact h.elim
  | @lst _ _ ys b q =>
    have h' : (W.need (flatD x = true ∧ ys.all flatD = true) (W.ret (D.bl (if neg then !inF x ys else inF x ys)))).wp n (Post K pn F H Q) noX := by cases rx <;> exact h
    exact .inr ⟨_, _, rfl, .inl (SqL.of (o.fro _ _ b)), flat_of rx h'.1.1, flats_of q h'.1.2, by rw [inF_of rx h'.1.1 q h'.1.2]; exact h'.2 _ F H (Go.refl ..) o (.bl _)⟩
  | @tup _ _ ys b q =>
    have h' : (W.need (flatD x = true ∧ ys.all flatD = true) (W.ret (D.bl (if neg then !inF x ys else inF x ys)))).wp n (Post K pn F H Q) noX := by cases rx <;> exact h
    exact .inr ⟨_, _, rfl, .inr (o.fro.sqT b), flat_of rx h'.1.1, flats_of q h'.1.2, by rw [inF_of rx h'.1.1 q h'.1.2]; exact h'.2 _ F H (Go.refl ..) o (.bl _)⟩
  | _ => cases rx <;> exact h.elim

/-! ### subscripts -/
@[reducible] def ixD : D → D → W D
  | .lst xs, .int i => match atI xs i with | some d => W.ret d | none => W.stuck
  | .tup xs, .int i => match atI xs i with | some d => W.ret d | none => W.stuck
  | .str z, .int i => W.need (z.length ≤ sizeLine) (match atI z.cps.toList i with | some c => W.ret (.str ⟨#[c]⟩) | none => W.stuck)
  | _, _ => W.stuck
theorem RepL.atI {pn : Addr} {F : Hp} {vs : List V} {ds : List D} {i : Int} {d : D} (r : RepL K pn F vs ds) (h : L2.atI ds i = some d) : ∃ v, L2.atI vs i = some v ∧ Rep K pn F v d := by
  unfold L2.atI at h ⊢
  rw [r.len]
  cases e : ixN ds.length i with
  | none => rw [e] at h; cases h
  | some j => rw [e] at h; exact r.get h
theorem lo_ix : LO2 K (rIx K) ixD := fun pn F H n v w x y Q o rx ry h => by
  cases ry with
  | int i => cases rx with
    | lst a r =>
      simp only [ixD] at h
      split at h
      · rename_i d e
        obtain ⟨u, hu, ru⟩ := r.atI e
        exact .inl ⟨_, _, i, u, rfl, rfl, SqL.of (o.fro _ _ a), hu, h u F H (Go.refl ..) o ru⟩
      · exact h.elim
    | tup a r =>
      simp only [ixD] at h
      split at h
      · rename_i d e
        obtain ⟨u, hu, ru⟩ := r.atI e
        exact .inr (.inl ⟨_, _, i, u, rfl, rfl, o.fro.sqT a, hu, h u F H (Go.refl ..) o ru⟩)
      · exact h.elim
    | str z =>
      obtain ⟨h1, h⟩ := h
      split at h
      · rename_i c e
        exact .inr (.inr ⟨z, i, c, rfl, rfl, h1, e, h _ F H (Go.refl ..) o (.str _)⟩)
      · exact h.elim
    | _ => exact h.elim
  | _ => cases rx <;> exact h.elim
/-! slices -/
def cutL {α : Type} (xs : List α) (lo hi : Option Int) : List α := (xs.drop (HT.sIx xs.length 0 lo)).take (HT.sIx xs.length xs.length hi - HT.sIx xs.length 0 lo)
theorem RepL.cut {pn : Addr} {F : Hp} {vs : List V} {ds : List D} (r : RepL K pn F vs ds) (lo hi : Option Int) : RepL K pn F (cutV vs lo hi) (cutL ds lo hi) := by
  unfold cutV cutL
  rw [r.len]
  exact (r.drop _).take _
@[reducible] def slD : D → Option Int → Option Int → W D
  | .str z, lo, hi => W.need (z.length ≤ sizeLine) (W.ret (.str (cutS z lo hi)))
  | .lst xs, lo, hi => W.ret (.lst (cutL xs lo hi))
  | .tup xs, lo, hi => W.need (¬ (HT.sIx xs.length 0 lo = 0 ∧ HT.sIx xs.length xs.length hi = xs.length)) (W.ret (.tup (cutL xs lo hi)))
  | _, _, _ => W.stuck
def rSlU (K : PySem.W.Frag) : V → Option Int → Option Int → Hp → VK → Prop := fun x lo hi H Q => rSlS x lo hi H Q ∨ rSlL K x lo hi H Q ∨ rSlT K x lo hi H Q
theorem sl_U : SlR X (rSlU X.K) := sl_str.or (sl_list.or sl_tup)
def LP (K : PySem.W.Frag) (to : TO) (f : List Sl → W (Option Int)) : Prop := ∀ (pn : Addr) (H0 F H : Hp) (n : Nat) (σ : L2.St) (δ : List Sl) (Q : Option Int → Hp → Prop), Ok K pn F H n → Slo K pn H0 F H σ δ →
  (f δ).wp n (fun m b => ∀ F' H', Go pn F H F' H' → Ok K pn F' H' m → Q b H') noX → to σ H Q
@[reducible] def dNoPart : List Sl → W (Option Int) := fun _ => W.ret none
@[reducible] def dPart (f : List Sl → W D) : List Sl → W (Option Int) := fun δ => (f δ).bind fun d => match d with | .int i => W.ret (some i) | _ => W.stuck
theorem lp_none : LP K tNoPart dNoPart := fun pn H0 F H n σ δ Q o s h => h F H (Go.refl ..) o
theorem lp_some {te : TE} {f : List Sl → W D} (he : LE K te f) : LP K (tPart te) (dPart f) := fun pn H0 F H n σ δ Q o s h => by
  refine he pn H0 F H n σ δ _ o s ((f δ).mono (fun m x q => ?_) (fun _ _ z => z) h)
  intro v F1 H1 g1 o1 r1
  cases r1 with
  | int i => exact ⟨i, rfl, q F1 H1 g1 o1⟩
  | _ => exact q.elim
@[reducible] def dSl (f : List Sl → W D) (a b : List Sl → W (Option Int)) : List Sl → W D := fun δ => (f δ).bind fun x => (a δ).bind fun lo => (b δ).bind fun hi => slD x lo hi
theorem le_sl {te : TE} {ta tb : TO} {f : List Sl → W D} {a b : List Sl → W (Option Int)} (he : LE K te f) (ha : LP K ta a) (hb : LP K tb b) : LE K (tSl (rSlU K) te ta tb) (dSl f a b) := fun pn H0 F H n σ δ Q o s h => by
  refine he pn H0 F H n σ δ _ o s ((f δ).mono (fun m x q => ?_) (fun _ _ z => z) h)
  intro v F1 H1 g1 o1 r1
  refine ha pn H0 F1 H1 m σ δ _ o1 (s.go g1) ((a δ).mono (fun m2 lo q2 => ?_) (fun _ _ z => z) q)
  intro F2 H2 g2 o2
  refine hb pn H0 F2 H2 m2 σ δ _ o2 ((s.go g1).go g2) ((b δ).mono (fun m3 hi q3 => ?_) (fun _ _ z => z) q2)
  intro F3 H3 g3 o3
  have g03 := (g1.trans g2 o2.fpn).trans g3 o3.fpn
  have r3 := (r1.up g2.sub).up g3.sub
  cases r3 with
  | str z => exact .inl ⟨z, rfl, q3.1, q3.2 _ F3 H3 g03 o3 (.str _)⟩
  | lst c r =>
    refine .inr (.inl ⟨_, _, rfl, SqL.of (o3.fro _ _ c), fun p hp => ?_⟩)
    obtain ⟨o4, g4⟩ := o3.lay (o := .lst (cutV _ lo hi)) hp
    exact q3 (.ref p) _ _ (g03.trans g4 o4.fpn) o4 (.lst upd_same ((r.cut lo hi).up g4.sub))
  | tup c r =>
    refine .inr (.inr ⟨_, _, rfl, o3.fro.sqT c, by rw [r.len]; exact q3.1, fun p hp => ?_⟩)
    obtain ⟨o4, g4⟩ := o3.lay (o := .tup (cutV _ lo hi)) hp
    exact q3.2 (.ref p) _ _ (g03.trans g4 o4.fpn) o4 (.tup (SqT.of upd_same) ((r.cut lo hi).up g4.sub))
  | _ => exact q3.elim

/-! ### built-in functions -/
theorem RepL.one {pn : Addr} {F : Hp} {vs : List V} {d : D} (r : RepL K pn F vs [d]) : ∃ v, vs = [v] ∧ Rep K pn F v d := by
  cases r with
  | cons a b => cases b; exact ⟨_, rfl, a⟩
theorem RepL.two {pn : Addr} {F : Hp} {vs : List V} {d e : D} (r : RepL K pn F vs [d, e]) : ∃ v w, vs = [v, w] ∧ Rep K pn F v d ∧ Rep K pn F w e := by
  cases r with
  | cons a b => obtain ⟨w, rfl, rw⟩ := b.one; exact ⟨_, w, rfl, a, rw⟩
@[reducible] def lenD : List D → W D
  | [.str z] => W.need (z.length ≤ sizeLine) (W.ret (.int z.length))
  | [.lst xs] => W.ret (.int xs.length)
  | [.tup xs] => W.ret (.int xs.length)
  | [.sct xs] => W.ret (.int xs.length)
  | _ => W.stuck
theorem lo_len : LOn K (fun xs H Q => ∃ x n, xs = [x] ∧ LenV K x H n ∧ Q (.int n) H) lenD := fun pn F H n vs xs Q o r h => by
  unfold lenD at h
  split at h
  · obtain ⟨v, rfl, rv⟩ := r.one
    cases rv
    exact ⟨_, _, rfl, ⟨h.1, rfl⟩, h.2 _ F H (Go.refl ..) o (.int _)⟩
  · obtain ⟨v, rfl, rv⟩ := r.one
    cases rv with
    | lst a q => exact ⟨_, _, rfl, .inl ⟨_, SqL.of (o.fro _ _ a), q.len.symm⟩, h _ F H (Go.refl ..) o (.int _)⟩
  · obtain ⟨v, rfl, rv⟩ := r.one
    cases rv with
    | tup a q => exact ⟨_, _, rfl, .inr ⟨_, o.fro.sqT a, q.len.symm⟩, h _ F H (Go.refl ..) o (.int _)⟩
  · obtain ⟨v, rfl, rv⟩ := r.one
    cases rv with
    | sct a => exact ⟨_, _, rfl, .inl ⟨_, o.fro.sqL a, by simp⟩, h _ F H (Go.refl ..) o (.int _)⟩
  · exact h.elim
@[reducible] def listD : List D → W D
  | [.lst xs] => W.ret (.lst xs)
  | [.tup xs] => W.ret (.lst xs)
  | _ => W.stuck
theorem lo_list : LOn K (fun xs H Q => ∃ p ys, xs = [.ref p] ∧ (SqL K H p ys ∨ SqT K H p ys) ∧ ∀ l, H l = none → Q (.ref l) (upd H l (.lst ys))) listD := fun pn F H n vs xs Q o r h => by
  unfold listD at h
  split at h
  · obtain ⟨v, rfl, rv⟩ := r.one
    cases rv with
    | lst a q =>
      refine ⟨_, _, rfl, .inl (SqL.of (o.fro _ _ a)), fun l hl => ?_⟩
      obtain ⟨o4, g4⟩ := o.lay (o := .lst _) hl
      exact h (.ref l) _ _ g4 o4 (.lst upd_same (q.up g4.sub))
  · obtain ⟨v, rfl, rv⟩ := r.one
    cases rv with
    | tup a q =>
      refine ⟨_, _, rfl, .inr (o.fro.sqT a), fun l hl => ?_⟩
      obtain ⟨o4, g4⟩ := o.lay (o := .lst _) hl
      exact h (.ref l) _ _ g4 o4 (.lst upd_same (q.up g4.sub))
  · exact h.elim
/-- the truth values of a list -/
def bools : List D → Option (List Bool)
  | [] => some []
  | .bl b :: r => (bools r).map (b :: ·)
  | _ => none
theorem bools_rep {pn : Addr} {F : Hp} : ∀ {vs : List V} {ds : List D} {bs : List Bool}, RepL K pn F vs ds → bools ds = some bs → vs = bs.map V.bl
  | _, _, _, .nil, h => by cases h; rfl
  | _, _, _, .cons (d := d) (ds := ds) a r, h => by
    cases a with
    | bl b =>
      unfold bools at h
      cases e : bools ds with
      | none => rw [e] at h; cases h
      | some bs => rw [e] at h; cases h; rw [bools_rep r e]; rfl
    | _ => unfold bools at h; cases h
@[reducible] def allD : List D → W D
  | [.lst xs] => match bools xs with | some bs => W.ret (.bl (bs.all id)) | none => W.stuck
  | _ => W.stuck
@[reducible] def anyD : List D → W D
  | [.lst xs] => match bools xs with | some bs => W.ret (.bl (bs.any id)) | none => W.stuck
  | _ => W.stuck
theorem lo_all : LOn K (rAll K) allD := fun pn F H n vs xs Q o r h => by
  unfold allD at h
  split at h
  · obtain ⟨v, rfl, rv⟩ := r.one
    split at h
    · rename_i bs e
      cases rv with
      | lst a q => exact ⟨_, bs, rfl, by rw [← bools_rep q e]; exact SqL.of (o.fro _ _ a), h _ F H (Go.refl ..) o (.bl _)⟩
    · exact h.elim
  · exact h.elim
theorem lo_any : LOn K (rAny K) anyD := fun pn F H n vs xs Q o r h => by
  unfold anyD at h
  split at h
  · obtain ⟨v, rfl, rv⟩ := r.one
    split at h
    · rename_i bs e
      cases rv with
      | lst a q => exact ⟨_, bs, rfl, by rw [← bools_rep q e]; exact SqL.of (o.fro _ _ a), h _ F H (Go.refl ..) o (.bl _)⟩
    · exact h.elim
  · exact h.elim
@[reducible] def absD : List D → W D
  | [.int i] => W.ret (.int (if i < 0 then -i else i))
  | _ => W.stuck
theorem lo_abs : LOn K (fun xs H Q => ∃ i, xs = [.int i] ∧ Q (.int (if i < 0 then -i else i)) H) absD := fun pn F H n vs xs Q o r h => by
  unfold absD at h
  split at h
  · exact ⟨_, r.int1, h _ F H (Go.refl ..) o (.int _)⟩
  · exact h.elim

/-! ### methods of texts -/
def LOm (K : PySem.W.Frag) (r : V → List V → Hp → VK → Prop) (g : Str → List D → W D) : Prop := ∀ (pn : Addr) (F H : Hp) (n : Nat) (z : Str) (vs : List V) (xs : List D) (Q : VK), Ok K pn F H n → RepL K pn F vs xs → (g z xs).wp n (Post K pn F H Q) noX → r (.str z) vs H Q
@[reducible] def dMs (g : Str → List D → W D) (fo : List Sl → W D) (f : List Sl → W (List D)) : List Sl → W D := fun δ => (fo δ).bind fun x => match x with | .str z => (f δ).bind (g z) | _ => W.stuck
theorem le_ms {r : V → List V → Hp → VK → Prop} {g : Str → List D → W D} {to : TE} {t : TA} {fo : List Sl → W D} {f : List Sl → W (List D)} (hr : LOm K r g) (ho : LE K to fo) (ha : LA K t f) : LE K (tBM K "str" r to t) (dMs g fo f) := fun pn H0 F H n σ δ Q o s h => by
  refine ho pn H0 F H n σ δ _ o s ((fo δ).mono (fun m x q => ?_) (fun _ _ z => z) h)
  intro v F1 H1 g1 o1 r1
  cases r1 with
  | str z =>
    refine ⟨rfl, ha pn H0 F1 H1 m σ δ _ o1 (s.go g1) ((f δ).mono (fun m2 ys q2 => ?_) (fun _ _ z => z) q)⟩
    intro ws F2 H2 g2 o2 r2
    exact hr pn F2 H2 m2 z ws ys Q o2 r2 ((g z ys).mono (fun _ _ p => (Post.of g1 p).of g2) (fun _ _ z => z) q2)
  | _ => exact q.elim
@[reducible] def swD (f : Str → Str → Bool) : Str → List D → W D := fun z xs => match xs with | [.str y] => W.ret (.bl (f z y)) | _ => W.stuck
theorem lo_sw {f : Str → Str → Bool} : LOm K (fun x xs H Q => ∃ a b, x = .str a ∧ xs = [.str b] ∧ Q (.bl (f a b)) H) (swD f) := fun pn F H n z vs xs Q o r h => by
  unfold swD at h
  split at h
  · obtain ⟨v, rfl, rv⟩ := r.one
    cases rv
    exact ⟨z, _, rfl, rfl, h _ F H (Go.refl ..) o (.bl _)⟩
  · exact h.elim
def txts : List D → Option (List Str)
  | [] => some []
  | .str b :: r => (txts r).map (b :: ·)
  | _ => none
theorem txts_rep {pn : Addr} {F : Hp} : ∀ {vs : List V} {ds : List D} {bs : List Str}, RepL K pn F vs ds → txts ds = some bs → vs = bs.map V.str
  | _, _, _, .nil, h => by cases h; rfl
  | _, _, _, .cons (d := d) (ds := ds) a r, h => by
    cases a with
    | str b =>
      unfold txts at h
      cases e : txts ds with
      | none => rw [e] at h; cases h
      | some bs => rw [e] at h; cases h; rw [txts_rep r e]; rfl
    | _ => unfold txts at h; cases h
@[reducible] def joinD : Str → List D → W D := fun z xs => match xs with
  | [.lst ds] => match txts ds with
    | some ys => W.need ((ys.map (·.length)).sum + ys.length * z.length ≤ 16777216) (W.ret (.str (Txt.join z ys)))
    | none => W.stuck
  | _ => W.stuck
theorem lo_join : LOm K (fun x xs H Q => ∃ a p, ∃ ys : List Str, x = .str a ∧ xs = [.ref p] ∧ (SqL K H p (ys.map V.str) ∨ SqT K H p (ys.map V.str)) ∧ (ys.map (·.length)).sum + ys.length * a.length ≤ 16777216 ∧ Q (.str (Txt.join a ys)) H) joinD := fun pn F H n z vs xs Q o r h => by
  unfold joinD at h
  split at h
  · obtain ⟨v, rfl, rv⟩ := r.one
    split at h
    · rename_i bs e
      cases rv with
      | lst a q => exact ⟨z, _, bs, rfl, rfl, .inl (by rw [← txts_rep q e]; exact SqL.of (o.fro _ _ a)), h.1, h.2 _ F H (Go.refl ..) o (.str _)⟩
    · exact h.elim
  · exact h.elim
end
end Lx
set_option Elab.async false
set_option linter.all false
set_option maxRecDepth 100000
set_option maxHeartbeats 2000000
/-! Lx5: objects: how they are made (the own class's init, super().__init__), fields, properties, methods. -/
namespace Lx
open PySem L2 PyProof.Rows

/-! ### an object in the making -/
structure Se (K : PySem.W.Frag) (pn : Addr) (c : Str) (x dx : Addr) (F H : Hp) (fs : List (Str × V)) (gs : List (Str × D)) : Prop where
  ob : H x = some (.ins (He.ga K c) dx fs)
  fx : F x = none
  ne : x ≠ pn
  rep : RepF K pn F fs gs
  na : ∀ f ∈ gs.map (·.1), NoAttr K (He.ga K c) f
  few : gs.length ≤ 900
/-- as Go, but the object at x may change -/
structure GoX (pn x : Addr) (F H F' H' : Hp) : Prop where
  keep : ∀ a o, a ≠ pn → a ≠ x → H a = some o → H' a = some o
  sub : Le F F'
  new : ∀ a o, F' a = some o → F a = none → H a = none
/-- the promise of an init: x is the new object, of a class of cl -/
def PrI (K : PySem.W.Frag) (m : Nat) (cl : List Str) (g : Addr → List (Str × D) → List D → W (List (Str × D))) : Sp := fun vs H Q _ => ∃ pn F x ws ds n c dx fs gs, vs = .ref x :: ws ∧ Ok K pn F H n ∧ RepL K pn F ws ds ∧ ds.length = m ∧ c ∈ cl ∧ Se K pn c x dx F H fs gs ∧
  (g x gs ds).wp n (fun k hs => ∀ F1 H1 es, GoX pn x F H F1 H1 → Ok K pn F1 H1 k → Se K pn c x dx F1 H1 es hs → Q .non H1) noX
theorem PrI.len {K : PySem.W.Frag} {m : Nat} {cl : List Str} {g : Addr → List (Str × D) → List D → W (List (Str × D))} (vs : List V) (H : Hp) (Q : VK) (E : XK) (h : PrI K m cl g vs H Q E) : vs.length = m + 1 := by
  obtain ⟨_, _, _, _, _, _, _, _, _, _, rfl, _, r, e, _⟩ := h
  rw [List.length_cons, r.len, e]
def startI (N : List Str) (x : Addr) (ds : List D) : List Sl := startD N (.adr x :: ds)
theorem GoX.of {pn x : Addr} {F H F' H' : Hp} (g : Go pn F H F' H') : GoX pn x F H F' H' := ⟨fun a o h _ => g.keep a o h, g.sub, g.new⟩

/-! ### the context of a def that says super() -/
structure SupScope (N ps : List Str) (sc : Scope) : Prop where
  kind : sc.kind = .function
  co : sc.isCoroutine = false
  gen : sc.isGenerator = false
  nd : N.Nodup
  pre : N.take ps.length = ps
  par : ∀ x ∈ ps, sc.names.lookup x = some .local
  noc : ∀ y ∈ sc.names, y.2 ≠ .cell
  fre : ∀ y ∈ sc.names, y.2 = .free → y.1 = "__class__"
  sup : sc.names.lookup ("super" : Str) = some .globalImplicit
  cls : sc.names.lookup ("__class__" : Str) = some .free
structure SupD (P : Program) (K : PySem.W.Frag) (x qual : Str) (params : Arguments) (body : List Stmt) (scope : Scope) (DC : Addr) (f : Addr) (fd : FuncData) : Prop where
  ex : ∃ (oc : Value) (od : Option Addr) (kV doc pm : Value) (an : Option Addr) (cda : Addr) (ct : Value) (osl : Array (Option Value)) (cc : Addr),
    fd = PySem.W.ksFn x qual params body scope .none kV doc pm an (.ref cda) ct cc ∧ K.lookup f = some ⟨oc, od, .func fd, osl⟩ ∧ PySem.W.codeIn K (.ref cda) qual = true ∧
    (∃ cl cld csl, K.lookup cc = some ⟨cl, cld, .cell (some (.ref DC)), csl⟩) ∧ ∃ ccl cdd vs ccs file tf, K.lookup cda = some ⟨ccl, cdd, .fields vs, ccs⟩ ∧ vs[2]? = some (.str file tf) ∧ ((P.main.file : Str) == file) = true
  kp : PySem.W.keepIn K (.ref f) = true
  cls : ∃ cdD, PySem.W.clsIn K DC = some cdD
  sup : PySem.W.nsIn K mainGlobals "super" = some none
  op : PySem.W.nsIn K cStatics "thirdparty.any" = some none
  top : (P.main.scope.names.lookup ("super" : Str)).isSome = false
theorem SupD.bindsN {P : Program} {K : PySem.W.Frag} {x qual : Str} {params : Arguments} {body : List Stmt} {scope : Scope} {DC f : Addr} {fd : FuncData} {ps : List Str} (F : SupD P K x qual params body scope DC f fd)
    (h : ∀ (kV doc pm : Value) (an : Option Addr) (cdv ct : Value) (cc : Addr) (us : List Value), us.length = ps.length → bindArgs (PySem.W.ksFn x qual params body scope .none kV doc pm an cdv ct cc) ⟨us, []⟩ = pure (ps.zip us)) : Binds K fd ps [] := by
  obtain ⟨oc, od, kV, doc, pm, an, cda, ct, osl, cc, rfl, _⟩ := F.ex
  exact .all (h kV doc pm an _ ct cc)
/-- of a class: what super().__init__ is, said in a def of the class at DC -/
structure SupC (K : PySem.W.Frag) (C DC f2 : Addr) : Prop where
  mro : PySem.W.mroIn K C (.ref DC) = some true
  at_ : PySem.W.ks_superIn K C DC "__init__" = some (some (.ref f2))
  ty : PySem.W.typeIn K (.ref f2) = some (.type "function")
  fn : PySem.W.fnIn K f2 = true
def cxS (CX : CXT) (P : Program) (w : World) (K : PySem.W.Frag) (mg : Str → Option Value) (base : Heap) (N : List Str) (qual : Str) (scope : Scope) (f : Addr) (cd : Value) (cc : Addr) (A : Around) (outer : List Env) (s : Shared) (H : Hp) (E : XK) : Cx where
  prog := P
  w := w
  K := K
  mg := mg
  base := base
  A := A.deeper (PySem.W.ksEnv qual scope s.heap.objs.size f cd cc)
  N := N
  s_0 := s
  H_0 := H
  env := PySem.W.ksEnv qual scope s.heap.objs.size f cd cc
  outer := outer
  stack := PySem.W.ksEnv qual scope s.heap.objs.size f cd cc :: outer
  ex := []
  calm := true
  fn := fun _ => false
  pn := []
  xe := fun e s' => wpAny (model P w) (A.deeper (PySem.W.ksEnv qual scope s.heap.objs.size f cd cc)) (leaving (PySem.W.ksEnv qual scope s.heap.objs.size f cd cc) e) (fun _ s'' => CX outer H s E e s'') (fun e' s'' => CX outer H s E e' s'') s'
theorem zip_look {x : Str} {u : Value} : ∀ {ps : List Str} {us : List Value} {i : Nat}, ps.Nodup → ps[i]? = some x → us[i]? = some u → (ps.zip us).reverse.lookup x = some u
  | [], _, _, _, h, _ => by simp at h
  | _ :: _, [], _, _, _, h => by simp at h
  | p :: ps, w :: us, 0, nd, h1, h2 => by
    simp at h1 h2; subst h1; subst h2
    rw [List.zip_cons_cons, List.reverse_cons, List.lookup_append]
    have : (ps.zip us).reverse.lookup p = none := by
      rw [List.lookup_eq_none_iff]
      intro q hq
      have hq2 := List.mem_reverse.mp hq
      have h3 : q.1 ∈ ps := (List.of_mem_zip (a := q.1) (b := q.2) hq2).1
      have h4 : p ≠ q.1 := fun e => (List.nodup_cons.mp nd).1 (e ▸ h3)
      simpa using h4
    rw [this]
    simp
  | p :: ps, w :: us, i + 1, nd, h1, h2 => by
    rw [List.zip_cons_cons, List.reverse_cons, List.lookup_append, zip_look (i := i) (List.nodup_cons.mp nd).2 (by simpa using h1) (by simpa using h2)]
    rfl
theorem inv_super {CX : CXT} {P : Program} {w : World} {K : PySem.W.Frag} {mg : Str → Option Value} {base : Heap} {N ps : List Str} {qual : Str} {scope : Scope} {f cc : Addr} {cd : Value} {A : Around} {outer : List Env} {s : Shared} {H : Hp} {E : XK} {us : List Value} {vs : List V} {h1 : Heap} {tk : Nat} {oc : Obj} {cv : Value}
    (S : SupScope N ps scope) (hd : A.handled = none) (e0 : Env0 P w K mg base A outer s H) (hl : vs.length = ps.length) (r : Vals vs us) (hc : base.get? cc = some oc) (hcv : oc.data = .cell (some cv))
    (hns : h1.Ns s.heap.objs.size (fun x => (ps.zip us).reverse.lookup x)) (hk : ∀ b o, s.heap.get? b = some o → h1.get? b = some o) :
    Inv (cxS CX P w K mg base N qual scope f cd cc A outer s H E) [] (L2.start N vs) H { s with heap := h1, toks := tk } := by
  have hpl : ps.length ≤ N.length := by have := congrArg List.length S.pre; rw [List.length_take] at this; omega
  have noA : ∀ b : Addr, b ∉ (cxS CX P w K mg base N qual scope f cd cc A outer s H E).ex := fun b z => absurd (show b ∈ ([] : List Addr) from z) (by simp)
  have hcs := (e0.bs cc oc hc)
  have onec : ∀ y c, (PySem.W.ksEnv qual scope s.heap.objs.size f cd cc).cells.lookup y = some c → y = "__class__" ∧ c = cc := fun y c h => by
    have h2 : ([(("__class__" : Str), cc)] : List (Str × Addr)).lookup y = some c := h
    rw [List.lookup_cons] at h2
    cases q : (y == ("__class__" : Str)) with
    | true => rw [q] at h2; cases h2; exact ⟨eq_of_beq q, rfl⟩
    | false => rw [q] at h2; cases h2
  refine ⟨⟨e0.mod, S.kind, rfl, rfl, Nat.le_refl _, fun y z c h1 h2 => by rw [(onec y c h1).1, (onec z c h2).1], fun y hy => ?_, fun y c h => absurd h Bool.false_ne_true, fun _ => hd, Around.frames_deeper e0.frames, .inr ⟨rfl, rfl⟩, fun b z => absurd z (noA b), e0.bs, e0.bsz, fun b _ _ => noA b, fun b z => absurd z (noA b), e0.funs, e0.frf⟩,
    rfl, e0.bare, Un.kept hk, ⟨_, hns, fun i y v h1 h2 h3 => ?_⟩, fun y c h => ?_, e0.hok.fresh (Nat.le_refl _), fun y c h => ?_, fun p hp => absurd (show p ∈ ([] : List (Addr × Obj)) from hp) (by simp), e0.hok.kept hk, ?_⟩
  · have hy : scope.names.lookup y = some .cell ∨ scope.names.lookup y = some .free := hy
    rcases hy with hy | hy
    · exact absurd rfl (S.noc _ (PySem.mem_of_lookup hy))
    · have e := S.fre _ (PySem.mem_of_lookup hy) rfl
      dsimp only at e
      subst e
      exact ⟨cc, rfl⟩
  · have hi : i < vs.length := by
      unfold L2.start at h2
      by_cases hi : i < vs.length
      · exact hi
      · rw [List.getElem?_append_right (by simpa using hi)] at h2
        rw [List.getElem?_replicate] at h2
        split at h2 <;> cases h2
    have ha : vs[i]? = some v := by
      unfold L2.start at h2
      rw [List.getElem?_append_left (by simpa using hi), List.getElem?_map] at h2
      cases e : vs[i]? with
      | none => rw [e] at h2; cases h2
      | some a => rw [e] at h2; cases h2; rfl
    obtain ⟨u, hu, rv⟩ := r.get ha
    have hp : ps[i]? = some y := by
      rw [← S.pre, List.getElem?_take_of_lt (by omega)]; exact h1
    have ndP : ps.Nodup := by rw [← S.pre]; exact S.nd.sublist (List.take_sublist _ _)
    exact ⟨u, rv, .inl ⟨S.par y (List.mem_of_getElem? hp), zip_look ndP hp hu⟩⟩
  · obtain ⟨_, rfl⟩ := onec y c h
    exact ⟨some cv, oc, hk _ _ hcs.1, hcv⟩
  · obtain ⟨_, rfl⟩ := onec y c h
    exact hcs.2
  · unfold L2.start
    show _ = N.length
    rw [List.length_append, List.length_map, List.length_replicate]
    omega

theorem execs_app (env : Env) : ∀ (a b : List Stmt), execs (a ++ b) env = (do match ← execs a env with | .next => execs b env | f => pure f)
  | [], b => by
    show execs b env = _
    rw [execs_nil]; rfl
  | st :: a, b => by
    rw [List.cons_append, execs_cons, execs_cons, bind_assoc]
    congr 1
    funext f
    cases f with
    | next => exact execs_app env a b
    | brk => rfl
    | cont => rfl
    | ret v => rfl
theorem at_app {M : Model} {A : Around} {c : Code} {E : Value → Shared → Prop} {s : Shared} {env : Env} {a b : List Stmt} {Q : Flow → Shared → Prop}
    (h : wpAny M A (execs a env) (fun f s' => match f with | .next => PySem.wpAt M A c (execs b env) Q E s' | f => Q f s') E s) : PySem.wpAt M A c (execs (a ++ b) env) Q E s := by
  rw [execs_app]
  refine PySem.wpAt_bind (PySem.wpAt_of_wpAny (wpAny_mono h (fun f s' q => ?_) fun _ _ x => x))
  cases f with
  | next => exact q
  | brk => exact PySem.wpAt_of_wpAny (wpAny_pure q)
  | cont => exact PySem.wpAt_of_wpAny (wpAny_pure q)
  | ret v => exact PySem.wpAt_of_wpAny (wpAny_pure q)

theorem with_bound {M : Model} {A : Around} {E : Value → Shared → Prop} {s : Shared} {K : PySem.W.Frag} {env : Env} {pos : Pos} {q g : Addr} {self : Value} {e : Expr} {es : List Expr} {Q : Value → Shared → Prop} (hf : PySem.W.fnIn K g = true)
    (he : starEach (e :: es) env = (false, eval e env) :: starEach es env) (hp : (backTo pos (starEach es env)).any (·.1) = false)
    (h : wpAny M A (spliced (backTo pos (starEach (e :: es) env))) (fun vs s1 => PySem.W.MethP K q g self s1.heap ∧ wpAny M A (call (.ref q) ([] ++ vs)) Q E s1) E s) :
    wpAny M A (callWith pos (.ref q) [] (backTo pos (starEach (e :: es) env)) []) Q E s := by
  rw [he] at h ⊢
  refine PySem.W.callWith_of (P := PySem.W.MethP K q g self) ?_ (PySem.W.keeps_M hf) (Calls.evalArgs_plain h)
  show ((false || (backTo pos (starEach es env)).any (·.1)) || false) = false
  rw [hp]
  rfl

@[reducible] def dInit (N : List Str) (b : List Sl → W Out) (fa : List Sl → W (List D)) (m2 : Nat) (g2 : Addr → List (Str × D) → List D → W (List (Str × D))) : Addr → List (Str × D) → List D → W (List (Str × D)) := fun x gs ds => (b (startI N x ds)).bind fun o => match o with
  | .nx δ => W.need (δ[0]? = some (Sl.val (.adr x))) ((fa δ).bind fun es => W.need (es.length = m2) (g2 x gs es))
  | _ => W.stuck
section
variable {P : Program} {w : World} {K : PySem.W.Frag} {mg : Str → Option Value} {base : Heap} {nm qual : Str} {params : Arguments} {body : List Stmt} {scope : Scope} {DC f f2 : Addr} {fd fd2 : FuncData}
theorem fn_super {CX CX2 : CXT} {N ps ps2 : List Str} {k m m2 : Nat} {cl cl2 : List Str} {t : TS} {b : List Sl → W Out} {ta : TA} {fa : List Sl → W (List D)} {g2 : Addr → List (Str × D) → List D → W (List (Str × D))} {pre : List Stmt} {e : Expr} {es : List Expr} {p0 p1 apos pos pos2 : Pos} {slf : Str} {ar : Arg}
    (F : SupD P K nm qual params body scope DC f fd) (S : SupScope N ps scope) (hN : N[0]? = some slf) (hps : ps.length = m + 1) (har : (params.posonlyargs ++ params.args).head? = some ar) (hslf : ar.arg = slf) (hloc : scope.names.lookup slf = some .local)
    (hb : body = pre ++ [.Expr (.Call (.Attribute (.Call (.Name "super" p0) [] [] p1) "__init__" apos) (e :: es) [] pos) pos2])
    (hl : LS K t b) (hla : LA K ta fa)
    (hpre : ∀ (cd : Value) (cc : Addr) (A : Around) (outer : List Env) (s : Shared) (H : Hp) (E : XK), Room k (A.deeper (PySem.W.ksEnv qual scope s.heap.objs.size f cd cc)) → PSs (cxS CX P w K mg base N qual scope f cd cc A outer s H E).nox pre t)
    (harg : ∀ (cd : Value) (cc : Addr) (A : Around) (outer : List Env) (s : Shared) (H : Hp) (E : XK), Room k (A.deeper (PySem.W.ksEnv qual scope s.heap.objs.size f cd cc)) → PA (cxS CX P w K mg base N qual scope f cd cc A outer s H E).nox (e :: es) ta)
    (G : FnOk P w K mg base CX2 k f2 fd2 ps2 (PrI K m2 cl2 g2)) (b2 : Binds K fd2 ps2 []) (hx : ∀ (X : Cx), X.prog = P → X.w = w → Passes CX2 X E0) (hsub : ∀ c, c ∈ cl → c ∈ cl2 ∧ SupC K (He.ga K c) DC f2) (hboot : bootBuiltins "super" = some (.type "super"))
    (hst : ∀ env : Env, starEach (e :: es) env = (false, eval e env) :: starEach es env) (hpl : ∀ env : Env, (backTo pos (starEach es env)).any (·.1) = false)
    (hsw : ∀ env : Env, swapsWith (.Call (.Attribute (.Call (.Name "super" p0) [] [] p1) "__init__" apos) (e :: es) [] pos) none pos2.line env = pure false)
    (hev : ∀ env : Env, ∃ plS : Sem Bool, eval (.Call (.Attribute (.Call (.Name "super" p0) [] [] p1) "__init__" apos) (e :: es) [] pos) env = (do
      let ov ← attributeBase (.Call (.Name "super" p0) [] [] p1) "__init__" env (eval (.Call (.Name "super" p0) [] [] p1) env)
      standAt apos.atName
      let (f, first) ← holding [ov] (getMethod ov "__init__" plS)
      callWith pos f first (backTo pos (starEach (e :: es) env)) [])) :
    FnOk P w K mg base CX (k + 1) f fd ps (PrI K m cl (dInit N b fa m2 g2)) := by
  obtain ⟨oc, od, kV, doc, pm, an, cda, ct, osl, cc, rfl, lk, hcd, ⟨ccl, ccd, ccs, hcell⟩, ⟨kcl, kcd, kvs, kcs, file, tf, hcode, hvs, hfile⟩⟩ := F.ex
  refine ⟨fun vs H Q E h => by rw [PrI.len vs H Q E h, hps], fun A outer s H args us vs Q E hr e0 hbind r hsp => ?_⟩
  have hlen := PrI.len vs H Q E hsp
  have KB := e0.mod.kin
  have KX : K.In s.heap := e0.mod.kin.keeps fun b o e => (e0.bs b o e).1
  have lim : s.heap.NoLimit := e0.mod.nolimit.keeps fun b o e => (e0.bs b o e).1
  refine PySem.ks_codeAny_call_defAt (body := body) (binds := ps.zip us) hr.depth (KX _ _ lk) rfl lim (PySem.W.codeRec_of KX hcd) rfl hbind S.noc (fun y hy => S.par y.1 (List.of_mem_zip (a := y.1) (b := y.2) hy).1) (fun h1 hns hk => ?_) S.co S.gen S.kind
  let X : Cx := cxS CX P w K mg base N qual scope f (.ref cda) cc A outer s H E
  have I : Inv X [] (L2.start N vs) H { s with heap := h1, toks := s.toks + (ps.zip us).length } := inv_super S hr.hd e0 (by rw [hlen, hps]) r (KB _ _ hcell) rfl hns hk
  have hrd : Room k (A.deeper (PySem.W.ksEnv qual scope s.heap.objs.size f (.ref cda) cc)) := hr.deeper _
  obtain ⟨pn, F0, x, ws, ds, n, c, dx, fs, gs, rfl, ok, rl, dl, hc, se, q⟩ := hsp
  obtain ⟨hc2, sc⟩ := hsub c hc
  have slo : Slo K pn H F0 H (L2.start N (.ref x :: ws)) (startI N x ds) := Slo.start (.cons (.adr x) rl)
  rw [hb]
  refine at_app ?_
  -- the statements ahead
  let POST : Nat → List (Str × D) → Prop := fun k hs => ∀ F1 H1 es, GoX pn x F0 H F1 H1 → Ok K pn F1 H1 k → Se K pn c x dx F1 H1 es hs → Q .non H1
  have rd : t { nx := fun σ1 H1 => ∃ F1 n1 δ1, Go pn F0 H F1 H1 ∧ Ok K pn F1 H1 n1 ∧ Slo K pn H F1 H1 σ1 δ1 ∧ δ1[0]? = some (Sl.val (.adr x)) ∧ ((fa δ1).bind fun es => W.need (es.length = m2) (g2 x gs es)).wp n1 POST noX, rt := fun _ _ => False } (L2.start N (.ref x :: ws)) H := by
    refine hl pn F0 H F0 H n _ _ _ (Go.refl ..) ok slo ((b _).mono (fun k1 u p => ?_) (fun _ _ z => z) q)
    cases u with
    | nx δ => exact fun σ1 F1 H1 _ g1 o1 s1 => ⟨F1, k1, δ, g1, o1, s1, p.1, p.2⟩
    | rt d => exact p.elim
    | bk δ => exact p.elim
    | ct δ => exact p.elim
  have run1 := (hpre (.ref cda) cc A outer s H E hrd).nox.run [] _ _ H _ I rd
  refine wpAny_mono run1 (fun fl s1 hs => ?_) (fun e s' hs => hs)
  cases fl with
  | ret u => obtain ⟨_, _, _, _, _, z⟩ := hs; exact z.elim
  | brk => obtain ⟨_, _, _, z⟩ := hs; exact z.elim
  | cont => obtain ⟨_, _, _, z⟩ := hs; exact z.elim
  | next =>
    obtain ⟨σ1, H1, I1, F1, n1, δ1, g1, o1, s1', e1, q1⟩ := hs
    have hx1 : H1 x = some (.ins (He.ga K c) dx fs) := g1.keep x _ se.ne se.ob
    have fx1 : F1 x = none := g1.none se.fx se.ob
    obtain ⟨v0, hv0, r0⟩ := s1'.val 0 _ e1
    cases r0
    have KX1 : K.In s1.heap := I1.kIn
    obtain ⟨mA, OM, _⟩ := ins_get I1.hok hx1
    obtain ⟨odx, IA, _⟩ := OM.look
    -- the call
    obtain ⟨plS, hev1⟩ := hev (PySem.W.ksEnv qual scope s.heap.objs.size f (.ref cda) cc)
    refine PySem.ks_wpAt_execs_cons (PySem.ks_wpAt_Expr_any (PySem.ks_wpAt_MethodCall (pl := plS) ?_ hev1) I.quiet (hsw _))
    obtain ⟨hh, gg, dd, tt, oo⟩ := s1
    refine PySem.ks_wpAt_super_base S.sup S.cls (by decide) rfl (KX1 _ _ lk) rfl har rfl (KX1 _ _ hcode) rfl hvs hfile F.top ?_
    obtain ⟨mb, hb1, hb2⟩ := I1.mod.blt
    refine PySem.W.ks_loadName_global S.kind S.sup (Calls.loadGlobal_builtin (env := PySem.W.ksEnv qual scope s.heap.objs.size f (.ref cda) cc) (I1.mod.glob.keeps I1.bk) (PySem.W.mg_none_of KB e0.mod.glob F.sup) (hb1.keeps I1.bk) ((hb2 "super" (by decide)).trans hboot) ⟨rfl, ?_⟩)
    refine wpAny_loadName_free S.kind S.cls rfl ⟨_, KX1 _ _ hcell, rfl⟩ ?_
    obtain ⟨ml, hn1, hl1⟩ := I1.loc
    obtain ⟨u0, ru0, lk0⟩ := hl1 0 slf (.ref x) hN hv0 (.inl hloc)
    have hml : ml slf = some (.ref x) := by
      have e0 : u0 = Value.ref x := ru0
      rw [e0] at lk0
      rcases lk0 with ⟨_, z⟩ | ⟨z, _⟩
      · exact z
      · have z1 : scope.names.lookup slf = some .cell ∨ scope.names.lookup slf = some .free := z
        rw [hloc] at z1
        rcases z1 with z1 | z1 <;> cases z1
    rw [hslf]
    refine wpAny_loadName_local S.kind hloc hn1 hml ?_
    obtain ⟨cdD, hcD⟩ := F.cls
    obtain ⟨oD, hD1, hD2⟩ : ∃ oD, hh.get? DC = some oD ∧ oD.data = .cls cdD := by
      unfold PySem.W.clsIn at hcD
      split at hcD
      · rename_i ho
        cases hcD
        exact ⟨_, KX1 _ _ ho, rfl⟩
      · cases hcD
    refine PySem.ks_wpAny_isType_cls hD1 hD2 ⟨rfl, ?_⟩
    refine PySem.ks_wpAny_call_super hD1 hD2 IA.at_ IA.cls (fun cz ez => ?_) (PySem.W.looks_mroIn KX1 sc.mro) (fun h2 hso hk2 => ?_)
    · have := IA.no
      unfold PySem.W.notCls at this
      rw [ez] at this
      exact Bool.noConfusion this
    have I2 : Inv X [] σ1 H1 ⟨h2, gg, dd, tt, oo⟩ := I1.kept (t' := tt) hk2
    have KX2 : K.In h2 := I2.kIn
    obtain ⟨cdC, hcC⟩ : ∃ cd, PySem.W.clsIn K (He.ga K c) = some cd := by
      cases q2 : PySem.W.clsIn K (He.ga K c) with
      | none =>
        have z := sc.at_
        unfold PySem.W.ks_superIn at z
        rw [q2] at z; cases z
      | some cd => exact ⟨cd, rfl⟩
    have hal := sc.at_
    unfold PySem.W.ks_superIn at hal
    rw [hcC] at hal
    obtain ⟨of2, hof, hofc⟩ : ∃ of2, h2.get? f2 = some of2 ∧ of2.cls = .type "function" := by
      have z : (K.lookup f2).map (·.cls) = some (.type "function") := sc.ty
      cases q2 : K.lookup f2 with
      | none => rw [q2] at z; cases z
      | some of2 => rw [q2] at z; exact ⟨of2, KX2 _ _ q2, Option.some.inj z⟩
    refine PySem.ks_wpAny_getMethod_super hso (PySem.W.looks_opaque KX2 F.op) (l₀ := cdC.mro) ?_ rfl KX2 hal hof hofc (PySem.W.ks_ne KX1 IA hcC) (by decide) ?_
    · exact fun A Q E s k q => wpAny_bind ((PySem.W.looks_clsIn KX2 hcC) A _ E s k (wpAny_pure q))
    have I3 : Inv X [] σ1 H1 ⟨h2.push { cls := .type "method", data := .fields #[.ref f2, .ref x] }, gg, dd, tt + 1, oo⟩ := I2.kept (t' := tt + 1) (fun b o e => Heap.get?_push_of_some _ e)
    have hbm : (h2.push { cls := .type "method", data := .fields #[.ref f2, .ref x] }).get? h2.objs.size = some { cls := .type "method", data := .fields #[.ref f2, .ref x] } := Heap.get?_push_at rfl rfl
    have I4 := I3.pinned (fp := [h2.objs.size]) (fun b hb => by
      have eb : b = h2.objs.size := by simpa using hb
      subst eb
      exact I2.fpOk (Nat.le_refl _) (I2.hok.fresh (Nat.le_refl _))) (fun b hb => by
      have eb : b = h2.objs.size := by simpa using hb
      subst eb
      exact ⟨_, hbm, fun v z => by cases z⟩)
    show wpAny (model P w) X.A (callWith pos (.ref h2.objs.size) [] (backTo pos (starEach (e :: es) X.env)) []) _ _ _
    refine with_bound (g := f2) (self := .ref x) sc.fn (hst _) (hpl _) ?_
    have rdA : ta σ1 H1 fun vs5 H5 => ∃ F5 n5 ds5, Go pn F1 H1 F5 H5 ∧ Ok K pn F5 H5 n5 ∧ RepL K pn F5 vs5 ds5 ∧ ds5.length = m2 ∧ (g2 x gs ds5).wp n5 POST noX :=
      hla pn H F1 H1 n1 σ1 δ1 _ o1 s1' ((fa δ1).mono (fun k5 ds5 p5 => fun vs5 F5 H5 g5 o5 r5 => ⟨F5, k5, ds5, g5, o5, r5, p5.1, p5.2⟩) (fun _ _ z => z) q1)
    refine wpAny_mono ((harg (.ref cda) cc A outer s H E hrd).run pos _ _ σ1 H1 _ (I4.wish _) rdA) (fun us5 s5 q5 => ?_) (fun _ _ z => z.elim)
    obtain ⟨vs5, H5, I5, r5, F5, n5, ds5, g5, o5, rl5, dl5, q5⟩ := q5
    have I5 : Inv X _ σ1 H5 s5 := I5.unwish
    have hb5 : s5.heap.get? h2.objs.size = some { cls := .type "method", data := .fields #[.ref f2, .ref x] } := (I5.pin (h2.objs.size, _) (List.mem_append_right _ (List.mem_append_right _ (mem_pinsAt (List.mem_cons_self) hbm)))).1
    refine ⟨⟨hb5, I5.kIn⟩, ?_⟩
    show wpAny (model P w) X.A (call (.ref h2.objs.size) ([] ++ us5)) _ _ s5
    have hx5 : H5 x = some (.ins (He.ga K c) dx fs) := g5.keep x _ se.ne hx1
    have fx5 : F5 x = none := g5.none fx1 hx1
    have g05 := g1.trans g5 o5.fpn
    have sp2 : PrI K m2 cl2 g2 (.ref x :: vs5) H5 (fun _ H6 => Q .non H6) E0 := ⟨pn, F5, x, vs5, ds5, n5, c, dx, fs, gs, rfl, o5, rl5, dl5, hc2, ⟨hx5, fx5, se.ne, se.rep.up g05.sub, se.na, se.few⟩,
      (g2 x gs ds5).mono (fun k6 hs p6 => fun F6 H6 es6 g6 o6 se6 => p6 F6 H6 es6 ⟨fun a o na nx ha => g6.keep a o na nx (g05.keep a o na ha), g05.sub.trans g6.sub, fun a o ha hf => by
        cases z : F5 a with
        | some u => exact g05.new a u z hf
        | none =>
          have h6 := g6.new a o ha z
          have na : a ≠ pn := by rintro rfl; rw [o6.fpn] at ha; cases ha
          cases z2 : H a with
          | none => rfl
          | some u => rw [g05.keep a u na z2] at h6; cases h6⟩ o6 se6) (fun _ _ z => z) q5⟩
    have r25 : Vals (V.ref x :: vs5) (Value.ref x :: us5) := .cons rfl r5
    have hl2 : (Value.ref x :: us5).length = ps2.length := by rw [← r25.length]; exact G.len _ _ _ _ sp2
    refine wpAny_call (PySem.ks_codeAny_call_bound hb5 (codeAny_mono (G.run X.A X.stack s5 H5 ⟨.ref x :: us5, []⟩ (.ref x :: us5) (.ref x :: vs5) _ E0 hrd I5.env0 ?_ r25 sp2) fun r6 s6 h6 => ?_))
    · have z := b2 s5 (.ref x :: us5) I5.kIn (by rw [List.append_nil]; exact hl2)
      rw [List.append_nil] at z
      exact z
    · cases r6 with
      | error er => exact hx X rfl rfl _ _ _ _ er s6 I5 h6
      | ok fl =>
        cases fl with
        | ret u6 =>
          obtain ⟨v6, H6, I6, rv6, q6⟩ := I5.after h6
          exact PySem.wpAt_of_wpAny (wpAny_execs_nil ⟨.non, H6, I6.os, I6.bare, I6.base, I6.hok, rfl, q6⟩)
        | next => exact False.elim h6
        | brk => exact False.elim h6
        | cont => exact False.elim h6
end
end Lx
set_option Elab.async false
set_option linter.all false
set_option maxRecDepth 100000
set_option maxHeartbeats 2000000
/-! Lx6: objects: fields stored by an init, objects made, fields, properties and methods read. -/
namespace Lx
open PySem L2 PyProof.Rows

def putG (f : Str) (v : D) : List (Str × D) → List (Str × D)
  | [] => [(f, v)]
  | (g, x) :: r => if g = f then (g, v) :: r else (g, x) :: putG f v r
theorem putG_len (f : Str) (v : D) : ∀ gs, (putG f v gs).length ≤ gs.length + 1
  | [] => Nat.le_refl _
  | (g, x) :: r => by
    unfold putG
    split
    · exact Nat.le_succ _
    · exact Nat.succ_le_succ (putG_len f v r)
theorem putG_names (f : Str) (v : D) : ∀ {gs : List (Str × D)} {y : Str}, y ∈ (putG f v gs).map (·.1) → y = f ∨ y ∈ gs.map (·.1)
  | [], y, h => by simp [putG] at h; exact .inl h
  | (g, x) :: r, y, h => by
    unfold putG at h
    split at h
    · exact .inr h
    · rw [List.map_cons, List.mem_cons] at h
      rcases h with h | h
      · exact .inr (by rw [h]; exact List.mem_cons_self)
      · rcases putG_names f v h with h | h
        · exact .inl h
        · exact .inr (List.mem_cons_of_mem _ h)
section
variable {K : PySem.W.Frag}
theorem RepF.put {pn : Addr} {F : Hp} {f : Str} {v : V} {d : D} (r : Rep K pn F v d) : ∀ {fs : List (Str × V)} {gs : List (Str × D)}, RepF K pn F fs gs → RepF K pn F (putF f v fs) (putG f d gs)
  | _, _, .nil => .cons r .nil
  | _, _, .cons (x := x) a q => by
    unfold putF putG
    split
    · exact .cons r q
    · exact .cons a (RepF.put r q)
theorem RepF.len {pn : Addr} {F : Hp} : ∀ {fs : List (Str × V)} {gs : List (Str × D)}, RepF K pn F fs gs → fs.length = gs.length
  | _, _, .nil => rfl
  | _, _, .cons _ q => congrArg (· + 1) q.len

/-! ### an init's body -/
abbrev FS := List Sl × List (Str × D)
def LSF (K : PySem.W.Frag) (cl : List Str) (ts : TS) (g : Addr → FS → W FS) : Prop := ∀ (pn : Addr) (c : Str) (x dx : Addr) (F0 H0 F H : Hp) (n : Nat) (σ : L2.St) (δ : List Sl) (fs : List (Str × V)) (gs : List (Str × D)) (E : Ends), c ∈ cl → GoX pn x F0 H0 F H → Ok K pn F H n → Slo K pn H0 F H σ δ → Se K pn c x dx F H fs gs → F0 x = none →
  (g x (δ, gs)).wp n (fun k p => ∀ σ1 F1 H1 es, Le F F1 → GoX pn x F0 H0 F1 H1 → Ok K pn F1 H1 k → Slo K pn H0 F1 H1 σ1 p.1 → Se K pn c x dx F1 H1 es p.2 → E.nx σ1 H1) noX → ts E σ H
@[reducible] def fSeq (g h : Addr → FS → W FS) : Addr → FS → W FS := fun x p => (g x p).bind fun q => h x q
@[reducible] def fOf (b : List Sl → W Out) : Addr → FS → W FS := fun _ p => (b p.1).bind fun o => match o with | .nx δ => W.ret (δ, p.2) | _ => W.stuck
@[reducible] def fSet (f : Str) (fe : List Sl → W D) : Addr → FS → W FS := fun x p => (fe p.1).bind fun d => W.need (p.1[0]? = some (Sl.val (.adr x)) ∧ p.2.length < 900) (W.ret (p.1, putG f d p.2))
theorem lsf_seq {cl : List Str} {ts tu : TS} {g h : Addr → FS → W FS} (a : LSF K cl ts g) (b : LSF K cl tu h) : LSF K cl (tSeq ts tu) (fSeq g h) := fun pn c x dx F0 H0 F H n σ δ fs gs E hc k o s se f0 q => by
  refine a pn c x dx F0 H0 F H n σ δ fs gs _ hc k o s se f0 ((g x (δ, gs)).mono (fun m p z => ?_) (fun _ _ z => z) q)
  intro σ1 F1 H1 es l1 k1 o1 s1 se1
  refine b pn c x dx F0 H0 F1 H1 m σ1 p.1 es p.2 E hc k1 o1 s1 se1 f0 ((h x p).mono (fun m2 p2 z2 => ?_) (fun _ _ z => z) z)
  intro σ2 F2 H2 es2 l2
  exact z2 σ2 F2 H2 es2 (l1.trans l2)
theorem lsf_of {cl : List Str} {ts : TS} {b : List Sl → W Out} (a : LS K ts b) : LSF K cl ts (fOf b) := fun pn c x dx F0 H0 F H n σ δ fs gs E hc k o s se f0 q => by
  have k' : Go pn F0 (upd H0 x (.ins (He.ga K c) dx fs)) F H := by
    refine ⟨fun a u na e => ?_, k.sub, fun a u e z => ?_⟩
    · by_cases ha : a = x
      · subst ha; rw [upd_same] at e; cases e; exact se.ob
      · rw [upd_ne ha] at e; exact k.keep a u na ha e
    · have ha : a ≠ x := by rintro rfl; rw [se.fx] at e; cases e
      rw [upd_ne ha]; exact k.new a u e z
  have s' : Slo K pn (upd H0 x (.ins (He.ga K c) dx fs)) F H σ δ := by
    obtain ⟨ow, h1, h2⟩ := s.own
    refine ⟨s.len, s.val, ow, fun i xs e => ?_, h2⟩
    obtain ⟨vs, a1, a2, a3, a4, a5, a6⟩ := h1 i xs e
    have ne : ow i ≠ x := ne_of a2 se.ob (by intro z; cases z)
    exact ⟨vs, a1, a2, a3, a4, a5, by rw [upd_ne ne]; exact a6⟩
  refine a pn F0 _ F H n σ δ E k' o s' ((b δ).mono (fun m u z => ?_) (fun _ _ z => z) q)
  cases u with
  | rt d => exact z.elim
  | bk d => exact z.elim
  | ct d => exact z.elim
  | nx ε =>
    intro σ1 F1 H1 l1 k1 o1 s1
    have hx1 : H1 x = some (.ins (He.ga K c) dx fs) := k1.keep x _ se.ne upd_same
    have fx1 : F1 x = none := by
      cases z1 : F1 x with
      | none => rfl
      | some u => have := k1.new x u z1 f0; rw [upd_same] at this; cases this
    refine z σ1 F1 H1 fs l1 ⟨fun a u na nx e => k1.keep a u na (by rw [upd_ne nx]; exact e), k1.sub, fun a u e z => ?_⟩ o1 ?_ ⟨hx1, fx1, se.ne, se.rep.up l1, se.na, se.few⟩
    · have ha : a ≠ x := by rintro rfl; rw [fx1] at e; cases e
      have := k1.new a u e z
      rw [upd_ne ha] at this; exact this
    · obtain ⟨ow, h1, h2⟩ := s1.own
      refine ⟨s1.len, s1.val, ow, fun i xs e => ?_, h2⟩
      obtain ⟨vs, a1, a2, a3, a4, a5, a6⟩ := h1 i xs e
      have ne : ow i ≠ x := ne_of a2 hx1 (by intro z; cases z)
      rw [upd_ne ne] at a6
      exact ⟨vs, a1, a2, a3, a4, a5, a6⟩
theorem lsf_set {cl : List Str} {te : TE} {fe : List Sl → W D} {f : Str} (hc : ∀ c ∈ cl, Cls K (He.ga K c) ∧ NoAttr K (He.ga K c) f) (he : LE K te fe) : LSF K cl (sFld K (tVar 0) te f) (fSet f fe) := fun pn c x dx F0 H0 F H n σ δ fs gs E hcl k o s se f0 q => by
  refine he pn H0 F H n σ δ _ o s ((fe δ).mono (fun m d z => ?_) (fun _ _ z => z) q)
  intro v F1 H1 k1 o1 r1
  obtain ⟨⟨z1, z2⟩, z3⟩ := z
  obtain ⟨v0, hv0, r0⟩ := s.val 0 _ z1
  cases r0
  have hx1 := k1.keep x _ se.ne se.ob
  have fx1 := k1.none se.fx se.ob
  have rl := (se.rep.up k1.sub)
  refine ⟨.ref x, hv0, x, He.ga K c, dx, fs, rfl, hx1, (hc c hcl).1, (hc c hcl).2, by rw [rl.len]; have : gs.length < 900 := z2; omega, ?_⟩
  have s1 := s.go k1
  have ne : ∀ {a : Addr} {vs : List V}, H1 a = some (.lst vs) → a ≠ x := fun h => ne_of h hx1 (by intro z; cases z)
  refine z3 σ F1 _ _ k1.sub ⟨fun a u na nx e => by rw [upd_ne nx]; exact k1.keep a u na (k.keep a u na nx e), k.sub.trans k1.sub, fun a u e z => ?_⟩ (o1.put fx1 se.ne) ?_ ⟨upd_same, fx1, se.ne, rl.put r1, fun y hy => ?_, ?_⟩
  · cases q2 : F a with
    | some u2 => exact k.new a u2 q2 z
    | none =>
      have h1 := k1.new a u e q2
      have na : a ≠ pn := by rintro rfl; rw [o1.fpn] at e; cases e
      have nx : a ≠ x := by rintro rfl; rw [fx1] at e; cases e
      cases q3 : H0 a with
      | none => rfl
      | some u3 => rw [k.keep a u3 na nx q3] at h1; cases h1
  · obtain ⟨ow, h1, h2⟩ := s1.own
    refine ⟨s1.len, s1.val, ow, fun i xs e => ?_, h2⟩
    obtain ⟨vs, a1, a2, a3⟩ := h1 i xs e
    exact ⟨vs, a1, by rw [upd_ne (ne a2)]; exact a2, a3⟩
  · rcases putG_names f d hy with e | e
    · rw [e]; exact (hc c hcl).2
    · exact se.na y e
  · have h1 := putG_len f d gs
    have h2 : gs.length < 900 := z2
    show (putG f d gs).length ≤ 900
    omega
@[reducible] def dInitF (N : List Str) (g : Addr → FS → W FS) : Addr → List (Str × D) → List D → W (List (Str × D)) := fun x gs ds => (g x (startI N x ds, gs)).bind fun p => W.ret p.2
end
section
variable {P : Program} {w : World} {K : PySem.W.Frag} {mg : Str → Option Value} {base : Heap} {x qual : Str} {params : Arguments} {body : List Stmt} {scope : Scope} {dvs : List V} {kws : List (Str × V)} {f : Addr} {fd : FuncData}
theorem fn_init {CX : CXT} {N ps : List Str} {k m : Nat} {cl : List Str} {t : TS} {g : Addr → FS → W FS} (F : FunD K x qual params body scope dvs kws f fd) (S : FnScope N ps scope) (hps : ps.length = m + 1) (hl : LSF K cl t g)
    (hb : ∀ (cdv : Value) (A : Around) (outer : List Env) (s : Shared) (H : Hp) (E : XK), Room k (A.deeper (envOfC qual scope s.heap.objs.size f cdv)) → PSs (cxOf CX P w K mg base N qual scope f cdv A outer s H E).nox body t) :
    FnOk P w K mg base CX (k + 1) f fd ps (PrI K m cl (dInitF N g)) := by
  refine F.ok S (fun vs H Q E h => by rw [PrI.len vs H Q E h, hps]) fun cdv A outer s H vs Q E hr h => ⟨t, (hb cdv A outer s H E hr).nox, ?_⟩
  obtain ⟨pn, F0, y, ws, ds, n, c, dx, fs, gs, rfl, ok, rl, dl, hc, se, q⟩ := h
  refine hl pn c y dx F0 H F0 H n _ (startI N y ds) fs gs _ hc (GoX.of (Go.refl ..)) ok (Slo.start (.cons (.adr y) rl)) se se.fx ((g y _).mono (fun k1 p z => ?_) (fun _ _ z => z) q)
  intro σ1 F1 H1 es _ k1 o1 _ se1
  exact z F1 H1 es k1 o1 se1
end

/-! ### objects made -/
section
variable {K : PySem.W.Frag}
@[reducible] def dMake (c : Str) (m : Nat) (g : Addr → List (Str × D) → List D → W (List (Str × D))) (f : List Sl → W (List D)) : List Sl → W D := fun δ => (f δ).bind fun ds => W.need (ds.length = m) ⟨fun n Q E => ∀ x, (g x [] ds).wp n (fun k gs => Q k (.obj c gs)) E, fun h j p x => (g x [] ds).mono (fun _ _ z => h _ _ z) j (p x)⟩
theorem le_make {c : Str} {m : Nat} {cl : List Str} {g : Addr → List (Str × D) → List D → W (List (Str × D))} {t : TA} {f : List Sl → W (List D)} (hc : c ∈ cl) (hC : Cls K (He.ga K c)) (ha : LA K t f) : LE K (tMake (He.ga K c) (PrI K m cl g) [] E0 t) (dMake c m g f) := fun pn H0 F H n σ δ Q o s h => by
  refine ha pn H0 F H n σ δ _ o s ((f δ).mono (fun k ds p => ?_) (fun _ _ z => z) h)
  intro vs F1 H1 k1 o1 r1 x dx hx hdx hne
  obtain ⟨p1, p2⟩ := p
  obtain ⟨o2, k2⟩ := o1.layO (o := .own x) hdx
  have hx2 : upd H1 dx (.own x) x = none := by rw [upd_ne hne.symm]; exact hx
  obtain ⟨o3, k3⟩ := o2.layO (o := .ins (He.ga K c) dx []) hx2
  have fx := o1.free hx
  refine ⟨pn, F1, x, vs, ds, k, c, dx, [], [], by rw [List.append_nil], o3, r1, p1, hc, ⟨upd_same, fx, o1.ne hx, .nil, fun y hy => by simp at hy, by decide⟩, (g x [] ds).mono (fun m2 gs z => ?_) (fun _ _ z => z) (p2 x)⟩
  intro F4 H4 es g4 o4 se4
  refine ⟨rfl, z (.ref x) (upd F4 x (.ins (He.ga K c) dx es)) H4 ⟨fun a u na e => ?_, k1.sub.trans (g4.sub.trans (Le.up se4.fx)), fun a u e zf => ?_⟩ (o4.frz se4.ob se4.fx se4.ne) (.obj upd_same hC se4.na (se4.rep.up (Le.up se4.fx)))⟩
  · have e1 := k1.keep a u na e
    have nx : a ≠ x := ne_of_none e1 hx
    have nd : a ≠ dx := ne_of_none e1 hdx
    exact g4.keep a u na nx (by rw [upd_ne nx, upd_ne nd]; exact e1)
  · by_cases hax : a = x
    · subst hax
      cases q3 : H a with
      | none => rfl
      | some u3 => rw [k1.keep a u3 se4.ne q3] at hx; cases hx
    · rw [upd_ne hax] at e
      cases q2 : F1 a with
      | some u2 => exact k1.new a u2 q2 zf
      | none =>
        have h4 := g4.new a u e q2
        have na : a ≠ pn := by rintro rfl; rw [o4.fpn] at e; cases e
        cases q3 : H a with
        | none => rfl
        | some u3 =>
          have e1 := k1.keep a u3 na q3
          rw [upd_ne hax, upd_ne (ne_of_none e1 hdx), e1] at h4; cases h4

/-! ### fields, properties, methods -/
@[reducible] def dFld (f : Str) (fa : List Sl → W D) : List Sl → W D := fun δ => (fa δ).bind fun x => match x with
  | .obj _ gs => (match gs.lookup f with | some d => W.ret d | none => W.stuck)
  | _ => W.stuck
theorem mem_lookup {f : Str} {d : D} : ∀ {gs : List (Str × D)}, gs.lookup f = some d → f ∈ gs.map (·.1)
  | [], h => by cases h
  | (g, y) :: r, h => by
    rw [List.lookup_cons] at h
    cases q : (f == g) with
    | true => rw [eq_of_beq q]; exact List.mem_cons_self
    | false => rw [q] at h; exact List.mem_cons_of_mem _ (mem_lookup h)
theorem le_fld {ta : TE} {fa : List Sl → W D} {f : Str} (ha : LE K ta fa) : LE K (tFld K ta f) (dFld f fa) := fun pn H0 F H n σ δ Q o s h => by
  refine ha pn H0 F H n σ δ _ o s ((fa δ).mono (fun k x p => ?_) (fun _ _ z => z) h)
  intro v F1 H1 k1 o1 r1
  cases r1 with
  | @obj a dx c fs gs hf hC hn rf =>
    dsimp only at p
    cases e : gs.lookup f with
    | none => rw [e] at p; exact p.elim
    | some d =>
      rw [e] at p
      obtain ⟨u, hu, ru⟩ := rf.look e
      exact ⟨a, _, dx, fs, u, rfl, o1.fro _ _ hf, hC, hn f (mem_lookup e), hu, p u F1 H1 k1 o1 ru⟩
  | _ => exact p.elim
abbrev Tb := List (Str × (List D → W D))
def tPropU (K : PySem.W.Frag) (tb : Tb) (ta : TE) : TE := fun σ H Q => ta σ H fun x H1 => ∃ a c dx fs g, x = .ref a ∧ H1 a = some (.ins (He.ga K c) dx fs) ∧ tb.lookup c = some g ∧ Pr K 1 g [.ref a] H1 Q E0
@[reducible] def dProp (tb : Tb) (fa : List Sl → W D) : List Sl → W D := fun δ => (fa δ).bind fun x => match x with
  | .obj c gs => (match tb.lookup c with | some g => g [.obj c gs] | none => W.stuck)
  | _ => W.stuck
theorem le_prop {ta : TE} {fa : List Sl → W D} {tb : Tb} (ha : LE K ta fa) : LE K (tPropU K tb ta) (dProp tb fa) := fun pn H0 F H n σ δ Q o s h => by
  refine ha pn H0 F H n σ δ _ o s ((fa δ).mono (fun k x p => ?_) (fun _ _ z => z) h)
  intro v F1 H1 k1 o1 r1
  cases r1 with
  | @obj a dx c fs gs hf hC hn rf =>
    dsimp only at p
    cases e : tb.lookup c with
    | none => rw [e] at p; exact p.elim
    | some g =>
      rw [e] at p
      exact ⟨a, c, dx, fs, g, rfl, o1.fro _ _ hf, e, pn, F1, _, k, o1, .cons (.obj hf hC hn rf) .nil, rfl, (g _).mono (fun _ _ z => Post.of k1 z) (fun _ _ z => z) p⟩
  | _ => exact p.elim
def tMethU (K : PySem.W.Frag) (m : Str) (n : Nat) (tb : Tb) (ta : TE) (t : TA) : TE := fun σ H Q => ta σ H fun x H1 => ∃ a c dx fs g, x = .ref a ∧ H1 a = some (.ins (He.ga K c) dx fs) ∧ fs.lookup m = none ∧ tb.lookup c = some g ∧
  t σ H1 fun vs H2 => Pr K (n + 1) g (.ref a :: vs) H2 Q E0
@[reducible] def dMeth (m : Str) (n : Nat) (tb : Tb) (fa : List Sl → W D) (f : List Sl → W (List D)) : List Sl → W D := fun δ => (fa δ).bind fun x => match x with
  | .obj c gs => W.need (gs.lookup m = none) (match tb.lookup c with | some g => (f δ).bind fun ds => W.need (ds.length = n) (g (.obj c gs :: ds)) | none => W.stuck)
  | _ => W.stuck
theorem le_meth {ta : TE} {fa : List Sl → W D} {t : TA} {f : List Sl → W (List D)} {m : Str} {j : Nat} {tb : Tb} (ha : LE K ta fa) (hb : LA K t f) : LE K (tMethU K m j tb ta t) (dMeth m j tb fa f) := fun pn H0 F H n σ δ Q o s h => by
  refine ha pn H0 F H n σ δ _ o s ((fa δ).mono (fun k x p => ?_) (fun _ _ z => z) h)
  intro v F1 H1 k1 o1 r1
  cases r1 with
  | @obj a dx c fs gs hf hC hn rf =>
    obtain ⟨p1, p⟩ := p
    cases e : tb.lookup c with
    | none => rw [e] at p; exact p.elim
    | some g =>
      rw [e] at p
      refine ⟨a, c, dx, fs, g, rfl, o1.fro _ _ hf, rf.noLook p1, e, ?_⟩
      refine hb pn H0 F1 H1 k σ δ _ o1 (s.go k1) ((f δ).mono (fun k2 ds p2 => ?_) (fun _ _ z => z) p)
      intro vs F2 H2 g2 o2 r2
      exact ⟨pn, F2, _, k2, o2, .cons (.up g2.sub (.obj hf hC hn rf)) r2, by rw [List.length_cons, p2.1], (g _).mono (fun _ _ z => (Post.of k1 z).of g2) (fun _ _ z => z) p2.2⟩
  | _ => exact p.elim
end
section
variable {X : Cx}
/-- an entry of a table of methods -/
structure MEnt (X : Cx) (m : Str) (n : Nat) (c : Str) (g : List D → W D) : Prop where
  ex : ∃ (CX : CXT) (k : Nat) (f : Addr) (fd : FuncData) (ps : List Str), Cls X.K (He.ga X.K c) ∧ Meth X.K (He.ga X.K c) m f ∧ FnOk X.prog X.w X.K X.mg X.base CX k f fd ps (Pr X.K (n + 1) g) ∧ Room k X.A ∧ Binds X.K fd ps [] ∧ Passes CX X E0
inductive MTab (X : Cx) (m : Str) (n : Nat) : Tb → Prop
  | nil : MTab X m n []
  | cons {c : Str} {g : List D → W D} {tb : Tb} : MEnt X m n c g → MTab X m n tb → MTab X m n ((c, g) :: tb)
theorem MTab.get {m : Str} {n : Nat} {c : Str} {g : List D → W D} : ∀ {tb : Tb}, MTab X m n tb → tb.lookup c = some g → MEnt X m n c g
  | _, .nil, h => by cases h
  | _, .cons (c := d) a r, h => by
    rw [List.lookup_cons] at h
    cases q : (c == d) with
    | true => rw [q] at h; cases h; rw [eq_of_beq q]; exact a
    | false => rw [q] at h; exact r.get h
theorem pe_methU {m : Str} {n : Nat} {tb : Tb} {o e : Expr} {es : List Expr} {ta : TE} {t : TA} {apos pos : Pos} {pl : Sem Bool} (T : MTab X m n tb) (he : PE X o ta) (ha : PA X (e :: es) t)
    (hst : starEach (e :: es) X.env = (false, eval e X.env) :: starEach es X.env := by rfl) (hpl : (backTo pos (starEach es X.env)).any (·.1) = false := by rfl)
    (ht : eval (.Call (.Attribute o m apos) (e :: es) [] pos) X.env = (do
      let ov ← eval o X.env
      standAt apos.atName
      let (f, first) ← holding [ov] (getMethod ov m pl)
      callWith pos f first (backTo pos (starEach (e :: es) X.env)) (backToKw pos (keywordEach [] X.env))) := by rfl) : PE X (.Call (.Attribute o m apos) (e :: es) [] pos) (tMethU X.K m n tb ta t) := by
  refine ⟨fun pins s σ H Q I h => ?_⟩
  refine PySem.W.methodCall_KW (pl := pl) (thn (he.run pins s σ H _ I h) fun u s1 ⟨x, H1, I1, rx, a, c, dx, fs, g, ex, ea, l, eg, q⟩ => ?_) ht
  subst ex
  obtain rfl : u = Value.ref a := rx
  obtain ⟨CX, k, f, fd, ps, hC, hm, F, hr, hb, hx⟩ := (T.get eg).ex
  refine getmeth_ok I1 ea hC hm l ?_
  refine PySem.W.callWith_K (first := [.ref a]) (h₀ := X.base) I.ok.mod.kin hm.kp (thn (ha.run pos pins s1 σ H1 _ I1 q) fun us s2 ⟨vs, H2, I2, r, q2⟩ => ⟨I2.kIn, ?_⟩) hst hpl
  exact run_fn (us := .ref a :: us) (vs := .ref a :: vs) (dvs := []) F hr hb .nil hx I2 (.cons rfl r) (by rw [List.append_nil]; exact q2)
theorem pe_methU0 {m : Str} {tb : Tb} {o : Expr} {ta : TE} {apos pos : Pos} {pl : Sem Bool} (T : MTab X m 0 tb) (he : PE X o ta)
    (ht : eval (.Call (.Attribute o m apos) [] [] pos) X.env = (do
      let ov ← eval o X.env
      standAt apos.atName
      let (f, first) ← holding [ov] (getMethod ov m pl)
      callWith pos f first (backTo pos (starEach [] X.env)) (backToKw pos (keywordEach [] X.env))) := by rfl) : PE X (.Call (.Attribute o m apos) [] [] pos) (tMethU X.K m 0 tb ta tNil) := by
  refine ⟨fun pins s σ H Q I h => ?_⟩
  refine PySem.W.methodCall_KW (pl := pl) (thn (he.run pins s σ H _ I h) fun u s1 ⟨x, H1, I1, rx, a, c, dx, fs, g, ex, ea, l, eg, q⟩ => ?_) ht
  subst ex
  obtain rfl : u = Value.ref a := rx
  obtain ⟨CX, k, f, fd, ps, hC, hm, F, hr, hb, hx⟩ := (T.get eg).ex
  refine getmeth_ok I1 ea hC hm l ?_
  refine PySem.W.callWith_K0 (first := [.ref a]) I1.kIn hm.kp ?_
  exact run_fn (us := [.ref a]) (vs := [.ref a]) (dvs := []) F hr hb .nil hx I1 (.cons rfl .nil) q
structure PEnt (X : Cx) (f : Str) (c : Str) (g : List D → W D) : Prop where
  ex : ∃ (CX : CXT) (k : Nat) (p fa : Addr) (fd : FuncData) (ps : List Str), Cls X.K (He.ga X.K c) ∧ PropOf X.K (He.ga X.K c) f p fa ∧ FnOk X.prog X.w X.K X.mg X.base CX k fa fd ps (Pr X.K 1 g) ∧ Room (k + 1) X.A ∧ Binds X.K fd ps [] ∧ Passes CX X.nox E0
inductive PTab (X : Cx) (f : Str) : Tb → Prop
  | nil : PTab X f []
  | cons {c : Str} {g : List D → W D} {tb : Tb} : PEnt X f c g → PTab X f tb → PTab X f ((c, g) :: tb)
theorem PTab.get {f : Str} {c : Str} {g : List D → W D} : ∀ {tb : Tb}, PTab X f tb → tb.lookup c = some g → PEnt X f c g
  | _, .nil, h => by cases h
  | _, .cons (c := d) a r, h => by
    rw [List.lookup_cons] at h
    cases q : (c == d) with
    | true => rw [q] at h; cases h; rw [eq_of_beq q]; exact a
    | false => rw [q] at h; exact r.get h
theorem pe_propU {f : Str} {tb : Tb} {e : Expr} {ta : TE} {pos : Pos} (T : PTab X f tb) (he : PE X e ta) (hab : attributeBase e f X.env (eval e X.env) = eval e X.env := by rfl) : PE X (.Attribute e f pos) (tPropU X.K tb ta) := by
  refine ⟨fun pins s σ H Q I h => ?_⟩
  refine attr_of hab (thn (he.run pins s σ H _ I h) fun u s1 ⟨x, H1, I1, rx, a, c, dx, fs, g, ex, ea, eg, q⟩ => ?_)
  subst ex
  obtain rfl : u = Value.ref a := rx
  obtain ⟨CX, k, p, fa, fd, ps, hC, hp, F, hr, hb, hx⟩ := (T.get eg).ex
  exact getprop_ok (dvs := []) (ds := []) I1 ea hC hp F hr hb .nil hx q
end
end Lx
set_option Elab.async false
set_option linter.all false
set_option maxRecDepth 100000
set_option maxHeartbeats 2000000
/-! Lx7: repr (no repr runs around), defs that use it, the law's end. -/
namespace Lx
open PySem L2 PyProof.Rows

/-! ### repr -/
def rRepr (K : PySem.W.Frag) : List V → Hp → VK → Prop := fun xs H Q => ∃ x d, xs = [x] ∧ Dp K H x d ∧ d.showable = true ∧ d.depth ≤ 60 ∧ d.hasDict = false ∧ d.shown.length ≤ sizeLine ∧ Q (.str d.shown) H
section
variable {X : Cx} {K : PySem.W.Frag}
theorem call_repr (hg : X.A.guards = some []) (hu : X.A.units + 64 < cLine) : CallR X (.builtin "repr") (rRepr X.K) := by
  intro pins s σ H xs us Q I r h
  obtain ⟨x, d, rfl, hd, h1, h2, h3, h4, q⟩ := h
  obtain ⟨u, rfl, rx⟩ := vals1 r
  obtain ⟨as, rd⟩ := Dp.reads I d x u hd rx
  have fin : ∀ {t : Tok} {k : Nat} {h' : Heap}, (∀ b o, s.heap.get? b = some o → h'.get? b = some o) → EP X pins σ Q (.str d.shown t) { s with heap := h', toks := k } := fun {t k h'} hk => ⟨.str d.shown, H, I.kept hk, ⟨t, rfl⟩, q⟩
  have fin0 : ∀ {t : Tok} {k : Nat}, EP X pins σ Q (.str d.shown t) { s with toks := k } := fun {t k} => ⟨.str d.shown, H, I.tok _, ⟨t, rfl⟩, q⟩
  cases hd with
  | non => cases rx; exact P.repr_of_none fin0
  | bl b => cases rx; exact P.repr_of_bool fin0
  | int i => obtain ⟨t, rfl⟩ := rx; exact P.repr_of_int (by simpa [PyData.showable] using h1) fin0
  | str y => obtain ⟨t, rfl⟩ := rx; exact P.repr_of_str fin0 h4
  | lst a b =>
    cases rx
    exact repr_of_reads' rd h1 (fun z => by rw [h3] at z; cases z) hg (by omega) (fun _ _ z => z) (fun h' t k hk => fin hk) h4
  | tup a b =>
    cases rx
    exact repr_of_reads' rd h1 (fun z => by rw [h3] at z; cases z) hg (by omega) (fun _ _ z => z) (fun h' t k hk => fin hk) h4
@[reducible] def reprD : List D → W D
  | [x] => match toP x with
    | some d => W.need (d.showable = true ∧ d.depth ≤ 60 ∧ d.hasDict = false ∧ d.shown.length ≤ sizeLine) (W.ret (.str d.shown))
    | none => W.stuck
  | _ => W.stuck
theorem lo_repr : LOn K (rRepr K) reprD := fun pn F H n vs xs Q o r h => by
  unfold reprD at h
  split at h
  · obtain ⟨v, rfl, rv⟩ := r.one
    split at h
    · rename_i d e
      exact ⟨v, d, rfl, rv.dp o.fro e, h.1.1, h.1.2.1, h.1.2.2.1, h.1.2.2.2, h.2 _ F H (Go.refl ..) o (.str _)⟩
    · exact h.elim
  · exact h.elim
end

/-! ### a def that is called where no repr runs -/
structure FnG (P : Program) (w : World) (K : PySem.W.Frag) (mg : Str → Option Value) (base : Heap) (CX : CXT) (k : Nat) (f : Addr) (fd : FuncData) (ps : List Str) (sp : Sp) : Prop where
  len : ∀ vs H Q E, sp vs H Q E → vs.length = ps.length
  run : ∀ (A : Around) (outer : List Env) (s : Shared) (H : Hp) (args : Args) (us : List Value) (vs : List V) (Q : VK) (E : XK), A.guards = some [] → Room k A → Env0 P w K mg base A outer s H → BindsTo s fd args (ps.zip us) → Vals vs us → sp vs H Q E →
    codeAny (model P w) A (.call (.ref f) args) (CR CX outer P w H s Q E) s
section
variable {P : Program} {w : World} {K : PySem.W.Frag} {mg : Str → Option Value} {base : Heap} {x qual : Str} {params : Arguments} {body : List Stmt} {scope : Scope} {dvs : List V} {kws : List (Str × V)} {f : Addr} {fd : FuncData}
theorem FnG.imp {CX : CXT} {k : Nat} {ps : List Str} {sp sq : Sp} (F : FnG P w K mg base CX k f fd ps sp) (h : ∀ vs H Q E, sq vs H Q E → sp vs H Q E) : FnG P w K mg base CX k f fd ps sq :=
  ⟨fun vs H Q E q => F.len vs H Q E (h _ _ _ _ q), fun A outer s H args us vs Q E hg hr he hb hv hs => F.run A outer s H args us vs Q E hg hr he hb hv (h _ _ _ _ hs)⟩
theorem fnG_of {CX : CXT} {N ps : List Str} {k : Nat} {sp : Sp} (F : FunD K x qual params body scope dvs kws f fd) (S : FnScope N ps scope) (len : ∀ vs H Q E, sp vs H Q E → vs.length = ps.length)
    (hb : ∀ (cdv : Value) (A : Around) (outer : List Env) (s : Shared) (H : Hp) (vs : List V) (Q : VK) (E : XK), (A.deeper (envOfC qual scope s.heap.objs.size f cdv)).guards = some [] → Room k (A.deeper (envOfC qual scope s.heap.objs.size f cdv)) → sp vs H Q E →
      ∃ t, PSs (cxOf CX P w K mg base N qual scope f cdv A outer s H E) body t ∧ t { nx := fun _ H' => Q .non H', rt := Q } (L2.start N vs) H) : FnG P w K mg base CX (k + 1) f fd ps sp := by
  refine ⟨len, fun A outer s H args us vs Q E hg hr he hbd hv hs => ?_⟩
  obtain ⟨oc, od, dV, kV, doc, pm, an, cdv, ct, osl, rfl, lk, hcd, _, _⟩ := F.ex
  have hl := len _ _ _ _ hs
  have st : ∀ b o, base.get? b = some o → s.heap.get? b = some o := fun b o e => (he.bs b o e).1
  have KX : K.In s.heap := he.mod.kin.keeps st
  have kinds : ∀ y ∈ ps.zip us, scope.names.lookup y.1 = some .local ∨ (scope.names.lookup y.1 = some .cell ∧ ((cellsFrom (s.heap.objs.size + 1) scope.names []).lookup y.1).isSome = true) := fun y hy => by
    have hm := (List.of_mem_zip (a := y.1) (b := y.2) hy).1
    exact (S.par y.1 hm).imp id fun q => ⟨q, PySem.W.cellsFrom_some _ _ _ (.inl q)⟩
  refine codeAny_call_function hr.depth (KX _ _ lk) rfl S.co S.gen rfl (PySem.W.codeRec_of KX hcd) (hbd _ _ _ _ (wpAny_newFunctionEnv_cells S.kind kinds fun env ee s1 ic => ?_))
  subst ee
  refine ⟨(he.mod.nolimit.keeps st).keeps ic.toInCall.keep, codeAny_func ?_⟩
  obtain ⟨t, ht, hq⟩ := hb cdv A outer s H vs Q E hg (hr.deeper _) hs
  have I := inv_start (CX := CX) (E := E) S hr.hd he hl hv ic
  refine wpAny_mono (ht.run [] s1 (L2.start N vs) H _ I hq) (fun fl s2 h2 => ?_) fun _ _ z => z
  cases fl with
  | ret u => obtain ⟨v, σ2, H2, J, rv, q⟩ := h2; exact ⟨v, H2, J.os, J.bare, J.base, J.hok, rv, q⟩
  | next => obtain ⟨σ2, H2, J, q⟩ := h2; exact ⟨.non, H2, J.os, J.bare, J.base, J.hok, rfl, q⟩
  | brk => obtain ⟨_, _, _, q⟩ := h2; exact False.elim q
  | cont => obtain ⟨_, _, _, q⟩ := h2; exact False.elim q
theorem fnG_lx {CX : CXT} {N ps : List Str} {k : Nat} {t : TS} {b : List Sl → W Out} (F : FunD K x qual params body scope dvs kws f fd) (S : FnScope N ps scope) (hl : LS K t b)
    (hb : ∀ (cdv : Value) (A : Around) (outer : List Env) (s : Shared) (H : Hp) (E : XK), (A.deeper (envOfC qual scope s.heap.objs.size f cdv)).guards = some [] → Room k (A.deeper (envOfC qual scope s.heap.objs.size f cdv)) → PSs (cxOf CX P w K mg base N qual scope f cdv A outer s H E).nox body t) :
    FnG P w K mg base CX (k + 1) f fd ps (Pr K ps.length (dBody N b)) :=
  fnG_of F S Pr.len fun cdv A outer s H vs Q E hg hr h => ⟨t, (hb cdv A outer s H E hg hr).nox, body_lx hl h⟩
end
section
variable {X : Cx} {CX : CXT} {k : Nat} {f : Addr} {fd : FuncData} {ps : List Str} {sp : Sp} {E : XK} {x : Str} {p pos : Pos} {e : Expr} {es : List Expr} {t : TA}
/-- a call of such a def -/
theorem pe_callG (hg : X.A.guards = some []) (F : FnG X.prog X.w X.K X.mg X.base CX k f fd ps sp) (hr : Room k X.A) (hgl : Gl X x) (hm : X.mg x = some (.ref f)) (hk : PySem.W.keepIn X.K (.ref f) = true) (hb : Binds X.K fd ps []) (hx : Passes CX X E)
    (ha : PA X (e :: es) t) (hdb : (x == ("__debug__" : Str)) = false := by decide) (he : starEach (e :: es) X.env = (false, eval e X.env) :: starEach es X.env := by rfl) (hpl : (backTo pos (starEach es X.env)).any (·.1) = false := by rfl) :
    PE X (.Call (.Name x p) (e :: es) [] pos) (tCall sp [] E t) := by
  refine ⟨fun pins s σ H Q I h => wpAny_Call_Name_kw (ld_glob I hgl hm ?_ hdb)⟩
  refine PySem.W.callWith_K (h₀ := X.base) I.ok.mod.kin hk (thn (ha.run pos pins s σ H _ I h) fun us s1 ⟨vs, H1, I1, r, q⟩ => ⟨I1.kIn, ?_⟩) he hpl
  have q : sp vs H1 Q E := by
    have q2 : sp (vs ++ []) H1 Q E := q
    rw [List.append_nil] at q2
    exact q2
  have hl : us.length = ps.length := by rw [← r.length]; exact F.len _ _ _ _ q
  have bd := hb s1 us I1.kIn (by rw [List.append_nil]; exact hl)
  rw [List.append_nil] at bd
  refine wpAny_call (codeAny_mono (F.run X.A X.stack s1 H1 ⟨us, []⟩ us vs Q E hg hr I1.env0 bd r q) fun rr s2 h2 => ?_)
  cases rr with
  | error er => exact hx pins σ H1 s1 er s2 I1 h2
  | ok fl => cases fl with
    | ret u => exact I1.after h2
    | next => exact False.elim h2
    | brk => exact False.elim h2
    | cont => exact False.elim h2
end

/-! ### the end: the law called where no repr runs -/
theorem law_end {P : Program} {w : World} {K : PySem.W.Frag} {mg mb : Str → Option Value} {CX : CXT} {k : Nat} {fa a : Addr} {fd : FuncData} {x : Str} {sp : Sp} {s1 : Shared} {vs : List Value} {ns : List Int}
    (KX : K.In s1.heap) (hns : s1.heap.Ns mainGlobals mg) (hb : s1.heap.Ns builtinsNs mb) (hbb : ∀ x : Str, x ≠ "__name__" → mb x = bootBuiltins x) (hlim : s1.heap.NoLimit) (hg : s1.gens = #[])
    (ha : s1.heap.get? a = some { cls := .type "list", data := .seq vs.toArray }) (hi : IntsAre vs ns) (hl : ns.length ≤ sizeLine) (hr : Room k callerA)
    (F : ∀ base : Heap, K.In base → base.Ns mainGlobals mg → FnG P w K mg base CX k fa fd [x] sp) (hbind : ∀ (s : Shared) (u : Value), BindsTo s fd ⟨[u], []⟩ [(x, u)])
    (hsp : ∀ H : Hp, Only H → SqL K H a (ns.map V.int) → sp [.ref a] H (fun v _ => v = .bl true) fun _ _ _ => False)
    (hCX : ∀ H e s', CX [] H s1 (fun _ _ _ => False) e s' → False) :
    codeAny (model P w) callerA (.call (.ref fa) ⟨[.ref a], []⟩) (fun r s' => r = .ok (.ret (.bool true)) ∧ OldK s1.heap s'.heap ∧ s'.os = s1.os ∧ AllBare s'.gens) s1 := by
  have key : ∀ H : Hp, Only H → SqL K H a (ns.map V.int) → HOk P w H s1.heap → (∀ b, H b ≠ none → b = a) → (H a ≠ none → K.lookup a = none) →
      codeAny (model P w) callerA (.call (.ref fa) ⟨[.ref a], []⟩) (fun r s' => r = .ok (.ret (.bool true)) ∧ OldK s1.heap s'.heap ∧ s'.os = s1.os ∧ AllBare s'.gens) s1 := by
    intro H hO hS hok hA hK
    have dictFree : ∀ {b : Addr} {o : Obj} {es : Array DictEntry} {ep : Nat}, s1.heap.get? b = some o → o.data = .dict es ep → H b = none := fun {b o es ep} e d => by
      by_cases z : H b = none
      · exact z
      · have e' := hA b z
        subst e'
        rw [ha] at e
        cases e
        cases d
    have ns_ : ∀ {b : Addr} {m : Str → Option Value}, s1.heap.Ns b m → (hidT s1.heap H).Ns b m := fun {b m} z => by
      obtain ⟨o, es, ep, e, d, r⟩ := z
      exact ⟨o, es, ep, hidT_get e (dictFree e d), d, r⟩
    have kin : K.In (hidT s1.heap H) := fun b o e => hidT_get (KX b o e) (by
      by_cases z : H b = none
      · exact z
      · have e' := hA b z
        subst e'
        rw [hK z] at e
        cases e)
    have md : Mod K mg (hidT s1.heap H) := by
      obtain ⟨mc, l1, l2⟩ := hlim
      exact ⟨kin, ns_ hns, ⟨mb, ns_ hb, hbb⟩, ⟨mc, ns_ l1, l2⟩⟩
    have e0 : Env0 P w K mg (hidT s1.heap H) callerA [] s1 H := ⟨rfl, md, fun b o e => of_hidT e, Nat.le_of_eq (hidT_size _ _), trivial, fun b z => absurd (show b ∈ ([] : List Addr) from z) (by simp), hok, .of_eq hg⟩
    refine codeAny_mono ((F _ kin (ns_ hns)).run callerA [] s1 H ⟨[.ref a], []⟩ [.ref a] [.ref a] _ _ rfl hr e0 (hbind s1 (.ref a)) (.cons rfl .nil) (hsp H hO hS)) fun r s2 h2 => ?_
    cases r with
    | error e => exact (hCX H e s2 h2).elim
    | ok fl => cases fl with
      | next => exact False.elim h2
      | brk => exact False.elim h2
      | cont => exact False.elim h2
      | ret u =>
        obtain ⟨v, H2, os, bare, un, hok2, r2, q⟩ := h2
        have q2 : v = .bl true := q
        subst q2
        have r3 : u = Value.bool true := r2
        subst r3
        refine ⟨rfl, OldK.of_keep fun b o e => ?_, os, bare⟩
        rcases hO b with z | ⟨ob, xs, z⟩
        · exact un.keep b o e z (fun y => absurd (show b ∈ ([] : List Addr) from y) (by simp)) (by simp)
        · have z2 := un.frzs b ob _ z
          have e1 := (hok b _ z).1
          rw [e] at e1
          cases e1
          exact (hok2 b _ z2).1
  have rv := vals_ints hi
  cases hk : K.lookup a with
  | some o =>
    have e := KX a o hk
    rw [ha] at e
    cases e
    have sq : SqL K (fun _ => none) a (ns.map V.int) := .inr ⟨_, vs.toArray, _, hk, rfl, rfl, rfl, by rw [List.size_toArray, hi.length]; exact hl, by simpa using rv⟩
    exact key (fun _ => none) (fun _ => .inl rfl) sq (fun b u z => nomatch (show (none : Option HO) = some u from z)) (fun b z => absurd rfl z) (fun z => absurd rfl z)
  | none =>
    let H : Hp := upd (fun _ => none) a (.frz { cls := .type "list", data := .seq vs.toArray } (.lst (ns.map V.int)))
    have at_ : H a = some (.frz { cls := .type "list", data := .seq vs.toArray } (.lst (ns.map V.int))) := upd_same
    have off : ∀ b, b ≠ a → H b = none := fun b hb => upd_ne hb
    refine key H (fun b => ?_) (.inl (.inr ⟨_, at_⟩)) (fun b u z => ?_) (fun b z => ?_) (fun _ => hk)
    · by_cases e : b = a
      · subst e; exact .inr ⟨_, _, at_⟩
      · exact .inl (off b e)
    · by_cases e : b = a
      · subst e
        rw [at_] at z
        cases z
        exact ⟨ha, by rw [List.length_map]; exact hl, vs, _, rv, ha⟩
      · rw [off b e] at z; cases z
    · by_cases e : b = a
      · exact e
      · exact absurd (off b e) z
/-- over a head's facts -/
theorem walk_G {l : PySem.W.OpenLaw} {n k : Nat} {q : Program} {loose : List Str} {XP : (Str → Option Value) → Heap → Prop} {YP : World → Heap → Prop} {d : DefRec} {CX : World → CXT} {x : Str}
    (hn : l.most = some n) (hn2 : n ≤ sizeLine) (hdf : d.params.defaults = []) (hr : Room k callerA)
    (F : ∀ (w : World) (mg : Str → Option Value) (fa : Addr) (h : Heap), YP w h → h.Ns mainGlobals mg → mg d.name = some (.ref fa) →
      ∃ (K : PySem.W.Frag) (fd : FuncData) (sp : Sp), K.In h ∧ (∀ (s : Shared) (u : Value), BindsTo s fd ⟨[u], []⟩ [(x, u)]) ∧
        (∀ (H : Hp) (a : Addr) (ns : List Int), ns.length ≤ n → Only H → SqL K H a (ns.map V.int) → sp [.ref a] H (fun v _ => v = .bl true) fun _ _ _ => False) ∧
        ∀ base : Heap, K.In base → base.Ns mainGlobals mg → FnG l.prog w K mg base (CX w) k fa fd [x] sp)
    (hCX : ∀ (w : World) (H : Hp) (s : Shared) (e : Value) (s' : Shared), CX w [] H s (fun _ _ _ => False) e s' → False) :
    PySem.W.WalkO q loose XP YP l.row.toRowW d [] (fun f vs => PySem.call f vs) := by
  refine Att.attach_call hn hdf fun w s0 s1 mg mb fa o pm cd doc a vs ns G Y ho hd hcd hmg hobj hints hlen hg => ?_
  obtain ⟨K, fd, sp, KX, hb, hsp, hF⟩ := F w mg fa _ Y G.T.g hmg
  exact law_end KX G.T.g G.T.b G.T.builtins G.T.nolimit hg hobj hints (Nat.le_trans hlen hn2) hr hF hb (fun H hO hS => hsp H a ns hlen hO hS) fun H e s' => hCX w H s1 e s'
end Lx
set_option Elab.async false
set_option linter.all false
set_option maxRecDepth 100000
set_option maxHeartbeats 4000000
/-! Lx8: len(set(text)), max(xs, default=d), sum(xs, []). -/
namespace Lx
open PySem PySem.Spec L2 PyProof.Rows
def uniq : List Nat → List Nat → List Nat
  | acc, [] => acc
  | acc, c :: r => if c ∈ acc then uniq acc r else uniq (c :: acc) r
def sgn (c : Nat) : Str := ⟨#[c]⟩
theorem sgn_inj {a b : Nat} (h : sgn a = sgn b) : a = b := by
  have h1 : (#[a] : Array Nat) = #[b] := congrArg Str.cps h
  simpa using h1
section
variable {prog : Program} {w : World} {A : Around} {R : Result → Shared → Prop} {I : Addr} {fp wr : List Addr} {n : Nat} {St : Nat → Heap → Prop}
theorem set_loop {x : Str} (W : Walks prog w A.in1 I fp wr n (SignAt x) St) (hn : n = x.cps.size) (hfp : n < 4000) (S : Addr) (hSf : S ∉ fp) (hSw : S ∉ wr) : ∀ (cs : List Nat) (i : Nat) (acc : List Nat) (s : Shared), x.cps.toList.drop i = cs → i + cs.length = n → St i s.heap → acc.length ≤ i →
      s.heap.SetOf (PySem.strKind prog w) S (fun k' => acc.any fun c => sgn c == k') acc.length →
      (∀ h' tk, (∀ b o, b ∉ S :: wr → s.heap.get? b = some o → h'.get? b = some o) → h'.SetOf (PySem.strKind prog w) S (fun k' => (uniq acc cs).any fun c => sgn c == k') (uniq acc cs).length → R (.ok (.ret .none)) { s with heap := h', toks := tk }) →
      codeAny (model prog w) A (.builtin "set.update.loop" ⟨[.ref S, .ref I], []⟩) R s
  | [], i, acc, s, hd, hi, hst, ha, hS, hR => by
    have hin : i = n := by simpa using hi
    subst hin
    refine codeAny_builtin PyProof.Rows.F.entry_set_update_loop ?_
    rw [Around.under_plainId PyProof.Rows.F.plain_set_update_loop _]
    show wpAny _ A.in1 (pyNext (.ref I) >>= _) _ _ s
    refine wpAny_bind (W.done s _ _ hst fun h' tk' hm => ?_)
    show wpAny _ A.in1 (ret Value.none) _ _ _
    refine wpAny_pure (hR _ _ (fun b o hb e => hm b o (fun z => hb (List.mem_cons_of_mem _ z)) e) ?_)
    obtain ⟨o, es, ep, t, ho, rest⟩ := hS
    exact ⟨o, es, ep, t, hm S _ hSw ho, rest⟩
  | c :: r, i, acc, s, hd, hi, hst, ha, hS, hR => by
    have hlt : i < n := by simp at hi; omega
    have hsub : ∀ b, b ∉ S :: wr → b ∉ wr := fun b hb z => hb (List.mem_cons_of_mem _ z)
    obtain ⟨hx, hd2⟩ : x.cps[i]? = some c ∧ x.cps.toList.drop (i + 1) = r := by
      have h1 : x.cps.toList[i]? = some c := by
        have := congrArg (·[0]?) hd
        simpa using this
      refine ⟨by simpa using h1, ?_⟩
      have := congrArg (·.drop 1) hd
      simpa [List.drop_drop, Nat.add_comm] using this
    refine codeAny_builtin PyProof.Rows.F.entry_set_update_loop ?_
    rw [Around.under_plainId PyProof.Rows.F.plain_set_update_loop _]
    show wpAny _ A.in1 (pyNext (.ref I) >>= _) _ _ s
    refine wpAny_bind (W.item i s _ _ hlt hst fun v h1 tk hP hst' hm => ?_)
    obtain ⟨c', t, hc', rfl⟩ := hP
    rw [hx] at hc'
    cases hc'
    have hS' : h1.SetOf (PySem.strKind prog w) S (fun k' => acc.any fun c => sgn c == k') acc.length := by
      obtain ⟨o, es, ep, tb, ho, rest⟩ := hS
      exact ⟨o, es, ep, tb, hm S _ hSw ho, rest⟩
    show wpAny _ A.in1 (holding [Value.str (sgn c) t] (setAdd S (.str (sgn c) t)) >>= _) _ _ _
    refine wpAny_bind (wpAny_holding ?_)
    unfold setAdd
    refine wpAny_holding ?_
    refine wpAny_bind ((PySem.strKind prog w).pyHash (k := sgn c) (strKind_is _ _ _ _) ?_)
    refine wpAny_setAddHashed_of (knd := PySem.strKind prog w) (strKind_is _ _ _ _) rfl hS' (by unfold scanBound; omega) fun h' hsb hS2 => ?_
    have hmem : (acc.any fun d => sgn d == sgn c) = decide (c ∈ acc) := by
      rw [Bool.eq_iff_iff, List.any_eq_true, decide_eq_true_iff]
      constructor
      · rintro ⟨d, hd, e⟩
        rw [sgn_inj (eq_of_beq e)] at hd
        exact hd
      · intro h; exact ⟨c, h, beq_self_eq_true _⟩
    have hSi : h'.SetOf (PySem.strKind prog w) S (fun k' => (if c ∈ acc then acc else c :: acc).any fun c => sgn c == k') (if c ∈ acc then acc else c :: acc).length := by
      refine SetOf_congr hS2 (fun k' => ?_) ?_
      · by_cases hc : c ∈ acc
        · rw [if_pos hc]
          by_cases e : k' = sgn c
          · subst e; rw [hmem, decide_eq_true hc]; rfl
          · rw [decide_eq_false e, Bool.or_false]
        · rw [if_neg hc, List.any_cons, Bool.or_comm]
          congr 1
          by_cases e : k' = sgn c
          · subst e; simp
          · rw [decide_eq_false e]
            exact (beq_eq_false_iff_ne.mpr fun z => e z.symm).symm
      · rw [hmem]
        by_cases hc : c ∈ acc <;> simp [hc]
    have hu : uniq acc (c :: r) = uniq (if c ∈ acc then acc else c :: acc) r := by
      by_cases hc : c ∈ acc <;> simp [uniq, hc]
    refine wpAny_pure ⟨plainId_quiet PyProof.Rows.F.plain_set_update_loop _, set_loop W hn hfp S hSf hSw r (i + 1) _ _ hd2 (by simp at hi; omega) (W.frame _ _ _ hst' fun b hb o e => ?_) (by split <;> (try simp only [List.length_cons]) <;> omega) hSi fun h'' tk'' hm'' hS'' => ?_⟩
    · rw [hsb.2 b (fun h : b = S => hSf (by rw [← h]; exact hb))]; exact e
    · rw [← hu] at hS''
      refine hR h'' tk'' (fun b o hb e => hm'' b o hb ?_) hS''
      rw [hsb.2 b (fun h : b = S => hb (by rw [h]; exact List.mem_cons_self))]
      exact hm b o (hsub b hb) e
end
section
variable {prog : Program} {w : World} {A : Around} {E : Value → Shared → Prop} {s : Shared}
theorem call_set_text {x : Str} {u : Tok} {Q : Value → Shared → Prop} (hh : A.handled = none) (hn : x.cps.size < 4000)
    (h : ∀ (h' : Heap) (tk : Nat), h'.SetOf (PySem.strKind prog w) s.heap.objs.size (fun k' => (uniq [] x.cps.toList).any fun c => sgn c == k') (uniq [] x.cps.toList).length →
      (∀ b o, b < s.heap.objs.size → s.heap.get? b = some o → h'.get? b = some o) → Q (.ref s.heap.objs.size) { s with heap := h', toks := tk }) :
    wpAny (model prog w) A (call (.type "set") [.str x u]) Q E s := by
  obtain ⟨c, tl, hmro⟩ := PySem.F.called_set.mro
  have hmade := PySem.F.called_set.made
  have hsub := PySem.F.called_set.sub
  refine wpAny_call (codeAny_of_tree ?_)
  show wpAny _ _ (callAny (.type "set") _) _ _ _
  refine wpAny_pure ⟨Code.quiet_builtin _ (by decide +kernel), codeAny_builtin PySem.F.entry_type_call ?_⟩
  rw [Around.under_plain (weight_type_call_type "set" [.str x u] []) rfl]
  have h1 := PySem.F.called_set.notType
  have h2 := PySem.F.called_set.canCreate
  have hct := PySem.F.typeCall_set_1 (.str x u)
  repeat (any_goals (first | assumption | wp_step))
  refine codeAny_mono (code_set_new_1 (.str x u) (E := E) (Q₁ := fun obj s₁ => ∃ led : Bool, obj = .ref s.heap.objs.size ∧ s₁ = { s with heap := s.heap.push { cls := .type "set", dict := none, data := .set #[] 0 (.fresh 0 0 led) } }) fun led => ⟨led, rfl, rfl⟩) fun r s₁ hr => ?_
  cases r with
  | error e => exact hr
  | ok fl =>
    cases fl with
    | ret obj =>
      obtain ⟨led, rfl, rfl⟩ := hr
      have hS : (s.heap.push { cls := .type "set", dict := none, data := .set #[] 0 (.fresh 0 0 led) }).get? s.heap.objs.size = some { cls := .type "set", dict := none, data := .set #[] 0 (.fresh 0 0 led) } := Heap.get?_push_size _ rfl
      have hT : Shared.TypeIs { s with heap := s.heap.push { cls := .type "set", dict := none, data := .set #[] 0 (.fresh 0 0 led) } } (.ref s.heap.objs.size) "set" := ⟨_, hS, rfl⟩
      have hli := PySem.F.called_set.init.lookup
      have hbi := PySem.F.called_set.init.bind (.ref s.heap.objs.size)
      repeat (any_goals (first | assumption | wp_step))
      refine codeAny_mono (codeAny_call_builtin (R := wants (fun r s₂ => r = .none ∧ ∃ h' tk, s₂ = { s with heap := h', toks := tk } ∧
          h'.SetOf (PySem.strKind prog w) s.heap.objs.size (fun k' => (uniq [] x.cps.toList).any fun c => sgn c == k') (uniq [] x.cps.toList).length ∧
          (∀ b o, b < s.heap.objs.size → s.heap.get? b = some o → h'.get? b = some o)) E) PySem.F.called_set.init.plain PySem.F.entry_set_init (check_set_init_1 hT ?_)) fun r₂ s₂ hr₂ => ?_
      · have hsls := PySem.F.sub_str_set
        have hslf := PySem.F.sub_str_frozenset
        have hne : (Value.type "str" == Value.type "dict") = false := by decide
        unfold Builtin.«set.__init__» noKeywords Builtin.Frozenset.updateFrom
        generalize hPI : pyIter = PI
        wp_walk
        subst hPI
        refine wpAny_pyIter_str fun o St hW hst => ?_
        refine wpAny_bind (wpAny_runValue ?_)
        have hh3 : A.in1.in1.in1.handled = none := by simp [hh]
        have hSf : s.heap.objs.size ∉ [(s.heap.push { cls := .type "set", dict := none, data := .set #[] 0 (.fresh 0 0 led) }).objs.size] := by
          rw [Heap.size_push]; simp
        refine set_loop (hW _ hh3) rfl hn s.heap.objs.size hSf hSf x.cps.toList 0 [] _ rfl (by simp) hst (Nat.zero_le _) ?hS0 ?hR
        case hS0 =>
          have hget : ((s.heap.push { cls := .type "set", dict := none, data := .set #[] 0 (.fresh 0 0 led) }).push o).get? s.heap.objs.size
              = some { cls := .type "set", dict := none, data := .set #[] 0 (.fresh 0 0 led) } := Heap.get?_push_of_some _ hS
          exact PyProof.Rows.SetOf_congr ((PyProof.Rows.setObjOf_fresh (knd := PySem.strKind prog w) led).setOf hget (by unfold scanBound; omega)) (fun _ => rfl) rfl
        case hR =>
          intro h' tk' hm hS'
          show wpAny _ _ _ _ _ _
          refine wpAny_pure ?_
          show wpAny _ _ (ret Value.none) _ _ _
          refine wpAny_pure ⟨rfl, h', tk', rfl, hS', fun b o hb e => ?_⟩
          have hb1 : b ≠ s.heap.objs.size := Nat.ne_of_lt hb
          have hb2 : b ≠ (s.heap.push { cls := .type "set", dict := none, data := .set #[] 0 (.fresh 0 0 led) }).objs.size := by
            rw [Heap.size_push]; exact Nat.ne_of_lt (Nat.lt_succ_of_lt hb)
          exact hm b o (by simp only [List.mem_cons, List.mem_singleton, List.not_mem_nil, or_false, not_or]; exact ⟨hb1, hb2⟩) (Heap.get?_push_of_some _ (Heap.get?_push_of_some _ e))
      · cases r₂ with
        | error e => exact hr₂
        | ok fl₂ =>
          cases fl₂ with
          | ret r =>
            obtain ⟨rfl, h', tk, rfl, hS', hk'⟩ := hr₂
            repeat (any_goals (first | assumption | wp_step))
            exact h _ _ hS' hk'
          | _ => exact hr₂.elim
    | _ => exact hr.elim
end
/-- len(set(x)), x a text -/
def tLenSetS (ta : TE) : TE := fun σ H Q => ta σ H fun x H1 => ∃ y, x = .str y ∧ y.cps.size < 4000 ∧ Q (.int (uniq [] y.cps.toList).length) H1
section
variable {X : Cx}
theorem pe_lenSetS {a : Expr} {ta : TE} {p p2 q pos : Pos} (hc : X.calm = true) (hg : Gl X "len") (hm : X.mg "len" = none) (hg2 : Gl X "set") (hm2 : X.mg "set" = none) (ha : PE X a ta)
    (na : starEach [a] X.env = (false, eval a X.env) :: starEach [] X.env := by rfl) : PE X (.Call (.Name "len" p) [.Call (.Name "set" p2) [a] [] q] [] pos) (tLenSetS ta) := by
  refine ⟨fun pins s σ H Q I h => ?_⟩
  refine Call_ (ld_blt I hg hm boot_len ?_)
  refine PyProof.Rows.callWith_builtin1 (PyProof.Rows.args_cons ?_ rfl) rfl rfl
  refine Call_ (ld_blt I hg2 hm2 boot_set ?_)
  refine PyProof.Rows.callWith_type1 (PyProof.Rows.args_cons (thn (ha.run pins s σ H _ I h) fun v s1 ⟨x, H1, I1, r1, q1⟩ => PyProof.Rows.args_nil ?_) na) na rfl
  obtain ⟨y, rfl, hy, q1⟩ := q1
  obtain ⟨u, rfl⟩ := r1
  refine call_set_text (I1.ok.hd hc) hy fun h' tk hS hk => ?_
  refine PyProof.Rows.args_nil ?_
  obtain ⟨o, es, ep, t, ho, hex, hd, _, _, hb, hf, hn⟩ := hS
  have I2 : Inv X pins σ H1 { s1 with heap := h', toks := tk } := I1.kept fun b o e => hk b o (Heap.lt_size e) e
  refine call_len_set ho hex hd hf (by have : es.size < 4096 := hb; omega) ⟨.int (uniq [] y.cps.toList).length, H1, I2.tok _, ⟨_, by rw [hn]⟩, q1⟩
end
@[reducible] def dLenSet (fa : List Sl → W D) : List Sl → W D := fun δ => (fa δ).bind fun x => match x with
  | .str y => W.need (y.cps.size < 4000) (W.ret (.int (uniq [] y.cps.toList).length))
  | _ => W.stuck
theorem le_lenSet {K : PySem.W.Frag} {ta : TE} {fa : List Sl → W D} (ha : LE K ta fa) : LE K (tLenSetS ta) (dLenSet fa) := fun pn H0 F H n σ δ Q o s h => by
  refine ha pn H0 F H n σ δ _ o s ((fa δ).mono (fun m x q => ?_) (fun _ _ z => z) h)
  intro v F1 H1 g1 o1 r1
  cases r1 with
  | str y => exact ⟨y, rfl, q.1, q.2 _ F1 H1 g1 o1 (.int _)⟩
  | _ => exact q.elim
end Lx
set_option Elab.async false
set_option linter.all false
set_option maxRecDepth 100000
set_option maxHeartbeats 4000000
/-! Lx9: max(xs, default=d) of ints, sum(xs, start) of lists. -/
namespace Lx
open PySem PySem.Spec L2 PyProof.Rows
/-! ### max -/
def tMaxD (K : PySem.W.Frag) (ta td : TE) : TE := fun σ H Q => ta σ H fun x H1 => td σ H1 fun d H2 => ∃ (a : Addr) (ns : List Int), x = .ref a ∧ SqL K H2 a (ns.map V.int) ∧ (ns = [] → Q d H2) ∧ ∀ y ys, ns = y :: ys → Q (.int (ys.foldl max y)) H2
theorem alike_ints (ns : List Int) : PySem.W.AlikeAll (ns.map PyData.int) := by
  refine ⟨fun x hx y hy => ?_, fun x hx => ?_⟩
  · obtain ⟨i, _, rfl⟩ := List.mem_map.mp hx
    obtain ⟨j, _, rfl⟩ := List.mem_map.mp hy
    rfl
  · obtain ⟨i, _, rfl⟩ := List.mem_map.mp hx
    exact fun z => by cases z
theorem dp_ints {K : PySem.W.Frag} {H : Hp} : ∀ ns : List Int, DpAll K H (ns.map V.int) (ns.map PyData.int)
  | [] => .nil
  | n :: r => .cons (.int n) (dp_ints r)
theorem depth_ints : ∀ ns : List Int, PyData.depthAll (ns.map PyData.int) = 0
  | [] => rfl
  | n :: r => by
    show max (PyData.depth (.int n)) (PyData.depthAll (r.map PyData.int)) = 0
    rw [depth_ints r]; rfl
section
variable {X : Cx}
theorem pe_maxD {e d : Expr} {ta td : TE} {p pos kp : Pos} (hc : X.calm = true) (hu : X.A.units + 64 < cLine) (hg : Gl X "max") (hm : X.mg "max" = none) (ha : PE X e ta) (hd : PE X d td)
    (na : backTo pos (starEach [e] X.env) = (false, eval e X.env) :: backTo pos (starEach [] X.env) := by rfl) (hpl : (backTo pos (starEach [e] X.env)).any (·.1) = false := by rfl) :
    PE X (.Call (.Name "max" p) [e] [⟨some "default", d, kp⟩] pos) (tMaxD X.K ta td) := by
  refine ⟨fun pins s σ H Q I h => wpAny_Call_Name_kw (ld_blt I hg hm boot_max ?_)⟩
  refine callWith_kw ?_ na hpl
  rw [na]
  refine Calls.spliced_cons (thn (ha.run pins s σ H _ I h) fun v s1 ⟨x, H1, I1, r1, q1⟩ => Calls.spliced_nil ?_)
  refine kws_cons (thn (hd.run pins s1 σ H1 _ I1 q1) fun u s2 ⟨y, H2, I2, r2, q2⟩ => kws_nil ?_)
  obtain ⟨a, ns, rfl, hq, q0, qs⟩ := q2
  cases r1
  obtain ⟨its, r, pl, hz⟩ := I2.list hq
  obtain ⟨as, hr⟩ := Dp.readsAll I2 (ns.map PyData.int) (ns.map V.int) its (dp_ints ns) r
  show wpAny _ _ (call (.builtin "max") [.ref a] [(Str.ofString "default", u)]) _ _ _
  refine PySem.W.max_list_default (I2.ok.hd hc) pl.isList (by simpa using hr) (alike_ints ns) (by rw [depth_ints]; omega) (fun hn h' tk hk => ?_) (fun z zs i w h' tk bs hn hi hrd hk => ?_)
  · have hn : ns = [] := by simpa using hn
    exact ⟨y, H2, I2.kept hk, r2, q0 hn⟩
  · cases ns with
    | nil => cases hn
    | cons n ns =>
      have hn : PyData.int n :: ns.map PyData.int = z :: zs := hn
      injection hn with h1 h2
      subst h1 h2
      rw [PySem.W.maxD_ints] at hrd
      refine ⟨.int (ns.foldl max n), H2, I2.kept hk, ?_, qs n ns rfl⟩
      cases hrd
      exact ⟨_, rfl⟩
end
def intsD : List D → Option (List Int)
  | [] => some []
  | .int i :: r => (intsD r).map (i :: ·)
  | _ => none
theorem ints_rep {K : PySem.W.Frag} {pn : Addr} {F : Hp} : ∀ {vs : List V} {ds : List D} {ns : List Int}, RepL K pn F vs ds → intsD ds = some ns → vs = ns.map V.int
  | _, _, _, .nil, h => by cases h; rfl
  | _, _, _, .cons (d := d) (ds := ds) a r, h => by
    cases a with
    | int i =>
      unfold intsD at h
      cases e : intsD ds with
      | none => rw [e] at h; cases h
      | some ns => rw [e] at h; cases h; rw [ints_rep r e]; rfl
    | _ => cases h
@[reducible] def dMaxD (fa fd : List Sl → W D) : List Sl → W D := fun δ => (fa δ).bind fun x => (fd δ).bind fun d => match x with
  | .lst xs => (match intsD xs with
    | some [] => W.ret d
    | some (y :: ys) => W.ret (.int (ys.foldl max y))
    | none => W.stuck)
  | _ => W.stuck
theorem le_maxD {K : PySem.W.Frag} {ta td : TE} {fa fd : List Sl → W D} (ha : LE K ta fa) (hd : LE K td fd) : LE K (tMaxD K ta td) (dMaxD fa fd) := fun pn H0 F H n σ δ Q o s h => by
  refine ha pn H0 F H n σ δ _ o s ((fa δ).mono (fun m x q => ?_) (fun _ _ z => z) h)
  intro v F1 H1 g1 o1 r1
  refine hd pn H0 F1 H1 m σ δ _ o1 (s.go g1) ((fd δ).mono (fun m2 y q2 => ?_) (fun _ _ z => z) q)
  intro u F2 H2 g2 o2 r2
  cases r1 with
  | @lst a vs ds hf rf =>
    dsimp only at q2
    cases e : intsD ds with
    | none => rw [e] at q2; exact q2.elim
    | some ns =>
      rw [e] at q2
      have ev := ints_rep rf e
      subst ev
      refine ⟨a, ns, rfl, SqL.of (o2.fro _ _ (g2.sub _ _ hf)), fun hn => ?_, fun y ys hn => ?_⟩
      · subst hn; exact q2 u F2 H2 (g1.trans g2 o2.fpn) o2 r2
      · subst hn; exact q2 _ F2 H2 (g1.trans g2 o2.fpn) o2 (.int _)
  | _ => exact q2.elim

/-! ### sum -/
def catA (its : Nat → List Value) : Nat → Nat → List Value
  | _, 0 => []
  | i, k + 1 => its i ++ catA its (i + 1) k
section
variable {prog : Program} {w : World} {A : Around} {R : Result → Shared → Prop} {I : Addr} {fp wr : List Addr} {G : Array GenState → Array GenState → Prop} {n : Nat} {P : Nat → Value → Prop} {St : Nat → Shared → Prop}
theorem sum_loopL (W : WalksS prog w A.in1 I fp wr G n P St) (S : Addr) (hSf : S ∉ fp) (its : Nat → List Value) (b nn : Nat → Nat) (hval : ∀ i v, P i v → v = .ref (b i)) (hbw : ∀ i, i < n → b i ∉ wr ∧ b i ≠ S) (hwr : ∀ x ∈ wr, x < S) :
    ∀ (k i : Nat) (s : Shared) (tot : Addr) (acc : List Value) (na c : Nat), n - i = k → i ≤ n → St i s → s.heap.get? S = some { cls := .type "list", dict := none, data := .seq #[.ref tot] c, slots := #[] } →
      s.heap.get? tot = some { cls := .type "list", data := .seq acc.toArray na } → tot ∉ wr → tot ≠ S → (∀ j, j < n → s.heap.get? (b j) = some { cls := .type "list", data := .seq (its j).toArray (nn j) }) → acc.length + (catA its i k).length ≤ sizeLine →
      (∀ s' tot' na', Moved (S :: wr) G s s' → s'.heap.get? tot' = some { cls := .type "list", data := .seq (acc ++ catA its i k).toArray na' } → (k = 0 → tot' = tot) → (k ≠ 0 → S < tot') → R (.ok (.ret (.ref tot'))) s') →
      codeAny (model prog w) A (.builtin "sum.loop" ⟨[.ref I, .ref S, rawInt 2, rawInt 0], []⟩) R s := by
  have hSw : S ∉ wr := fun h => hSf (W.sub _ h)
  have hsub : ∀ b ∈ wr, b ∈ S :: wr := fun b hb => List.mem_cons_of_mem _ hb
  intro k
  induction k with
  | zero =>
    intro i s tot acc na c hk hi hst hS ht htw hts hb hl hR
    have hin : i = n := by omega
    subst hin
    refine codeAny_builtin F.entry_sum_loop ?_
    rw [Around.under_plainId F.plain_sum_loop _]
    show wpAny _ A.in1 (seqItems? (.ref S) >>= _) _ _ s
    refine wpAny_bind (wpAny_seqItems hS rfl ?_)
    show wpAny _ A.in1 (tryCatch (pyNext (.ref I)) _ >>= _) _ _ s
    refine wpAny_bind (wpAny_tryCatch (W.done s _ _ hst fun s' hm => ?_))
    refine wpAny_pure (hR s' tot na (hm.mono hsub) ?_ (fun _ => rfl) (fun z => absurd rfl z))
    rw [show acc ++ catA its i 0 = acc from List.append_nil acc]
    exact hm.heap tot _ htw ht
  | succ k ih =>
    intro i s tot acc na c hk hi hst hS ht htw hts hb hl hR
    have hlt : i < n := by omega
    refine codeAny_builtin F.entry_sum_loop ?_
    rw [Around.under_plainId F.plain_sum_loop _]
    show wpAny _ A.in1 (seqItems? (.ref S) >>= _) _ _ s
    refine wpAny_bind (wpAny_seqItems hS rfl ?_)
    show wpAny _ A.in1 (tryCatch (pyNext (.ref I)) _ >>= _) _ _ s
    refine wpAny_bind (wpAny_tryCatch (W.item i s _ _ hlt hst fun v s' hP hst' hm => ?_))
    cases hval i v hP
    have hS' := hm.heap S _ hSw hS
    have ht' := hm.heap tot _ htw ht
    have hb' := hm.heap (b i) _ (hbw i hlt).1 (hb i hlt)
    have hlen : (catA its i (k + 1)).length = (its i).length + (catA its (i + 1) k).length := by show (its i ++ _).length = _; rw [List.length_append]
    show wpAny _ A.in1 ((holding [Value.ref (b i)] (binaryOp .Add (.ref tot) (.ref (b i)))).attempt >>= _) _ _ _
    refine wpAny_bind (wpAny_attempt (wpAny_holding (PySem.P.add_list ht' hb' ?_ (by rw [List.size_toArray, List.size_toArray]; omega))))
    have hSlt : S < s'.heap.objs.size := Heap.lt_size hS'
    have hS1 : (s'.heap.push { cls := .type "list", data := .seq (acc.toArray ++ (its i).toArray) }).get? S = some { cls := .type "list", dict := none, data := .seq #[.ref tot] c, slots := #[] } := Heap.get?_push_of_some _ hS'
    show wpAny _ A.in1 (updateSeq S (fun _ => #[.ref s'.heap.objs.size]) >>= _) _ _ _
    refine wpAny_bind (wpAny_updateSeq hS1 rfl ?_)
    have hS₂ := Heap.get?_update_self (Obj.mapSeq fun _ => #[Value.ref s'.heap.objs.size]) hS1 rfl
    refine wpAny_bind (wpAny_letGo ?_)
    have keep : ∀ x o, x ≠ S → s'.heap.get? x = some o → ((((s'.heap.push { cls := .type "list", data := .seq (acc.toArray ++ (its i).toArray) }).update S (Obj.mapSeq fun _ => #[Value.ref s'.heap.objs.size])).update S (Obj.mapSeq fun _ => #[Value.ref s'.heap.objs.size]))).get? x = some o := fun x o hx e =>
      (Heap.get?_update_other _ _ (Ne.symm hx)).trans ((Heap.get?_update_other _ _ (Ne.symm hx)).trans (Heap.get?_push_of_some _ e))
    have hn1 : (((s'.heap.push { cls := .type "list", data := .seq (acc.toArray ++ (its i).toArray) }).update S (Obj.mapSeq fun _ => #[Value.ref s'.heap.objs.size])).update S (Obj.mapSeq fun _ => #[Value.ref s'.heap.objs.size])).get? s'.heap.objs.size = some { cls := .type "list", data := .seq (acc ++ its i).toArray 0 } := by
      refine (Heap.get?_update_other _ _ (Nat.ne_of_lt hSlt)).trans ((Heap.get?_update_other _ _ (Nat.ne_of_lt hSlt)).trans ?_)
      rw [show acc.toArray ++ (its i).toArray = (acc ++ its i).toArray by simp]
      exact Heap.get?_push_size _ rfl
    refine wpAny_bind (wpAny_updateSeq hS₂ rfl (wpAny_pure ⟨plainId_quiet F.plain_sum_loop _, ih (i + 1) _ s'.heap.objs.size (acc ++ its i) 0 _ (by omega) hlt (W.frame _ s' _ _ hst' (Nat.le_refl _) fun x hx o e => ?_) (Heap.get?_update_self _ hS₂ rfl) hn1 (fun hz => ?_) (Nat.ne_of_gt hSlt) (fun j hj => ?_) (by rw [List.length_append]; omega) fun s'' tot'' na'' hm'' hl'' h0 h1 => ?_⟩))
    · exact keep x o (fun h => hSf (by rw [← h]; exact hx)) e
    · exact absurd (hwr _ hz) (Nat.lt_asymm hSlt)
    · exact keep _ _ (hbw j hj).2 (hm.heap _ _ (hbw j hj).1 (hb j hj))
    · refine hR s'' tot'' na'' (Moved.trans W.gtrans ((hm.mono hsub).then_heap (Nat.le_refl _) fun x o hx e => keep x o (fun h => hx (by rw [h]; exact List.mem_cons_self)) e) hm'') ?_ (fun z => nomatch z) fun _ => ?_
      · rw [show acc ++ catA its i (k + 1) = (acc ++ its i) ++ catA its (i + 1) k from (List.append_assoc _ _ _).symm]
        exact hl''
      · cases k with
        | zero => rw [h0 rfl]; exact hSlt
        | succ k => exact h1 (by omega)
end
section
variable {prog : Program} {w : World} {A : Around} {E : Value → Shared → Prop} {s : Shared}
theorem args_sum2 (a b : Value) : argsOk "sum" ⟨[a, b], []⟩ := by unfold argsOk; kernel_rfl
theorem call_sum_lists {l p : Addr} {vs : List Value} {acc : List Value} {na : Nat} {its : Nat → List Value} {b nn : Nat → Nat} {Q : Value → Shared → Prop} (hh : A.handled = none) (hl : s.heap.IsList l vs.toArray)
    (hp : s.heap.get? p = some { cls := .type "list", data := .seq acc.toArray na }) (hval : ∀ (i : Nat) (v : Value), vs[i]? = some v → v = .ref (b i)) (hb : ∀ j, j < vs.length → s.heap.get? (b j) = some { cls := .type "list", data := .seq (its j).toArray (nn j) })
    (hz : acc.length + (catA its 0 vs.length).length ≤ sizeLine)
    (h : ∀ h' tk q nq, (∀ x o, s.heap.get? x = some o → h'.get? x = some o) → h'.get? q = some { cls := .type "list", data := .seq (acc ++ catA its 0 vs.length).toArray nq } → (vs.length = 0 → q = p) → (vs.length ≠ 0 → s.heap.objs.size ≤ q) → Q (.ref q) { s with heap := h', toks := tk }) :
    wpAny (model prog w) A (call (.builtin "sum") [.ref l, .ref p]) Q E s := by
  refine call_function_tree F.kind_sum F.plain_sum F.entry_sum (args_sum2 _ _) ?_
  unfold Builtin.«sum»
  simp only [List.length_cons, List.length_nil]
  rw [if_neg (by decide)]
  refine wpAny_bind (wpAny_of_eq (show Builtin.Builtins.bindParams "sum" ["start"] 0 ⟨[.ref p], []⟩ = pure [some (.ref p)] from rfl) ?_)
  refine wpAny_bind (PySem.W.iter_listW (A := A.in1) hh hl fun s₂ e W st hfp hw hk => ?_)
  refine wpAny_bind (wpAny_pure ?_)
  have hp2 : s₂.heap.get? p = some { cls := .type "list", data := .seq acc.toArray na } := hk _ _ hp
  have ty : s₂.TypeIs (.ref p) "list" := ⟨_, hp2, rfl⟩
  simp only [List.forIn_cons, List.forIn_nil]
  refine wpAny_bind (wpAny_bind (wpAny_bind (wpAny_isInstance (T := "list") (b := false) ty F.sub_list_str ?_)))
  simp only [Bool.false_eq_true, if_false]
  refine wpAny_pure (wpAny_bind (wpAny_bind (wpAny_isInstance (T := "list") (b := false) ty F.sub_list_bytes ?_)))
  simp only [Bool.false_eq_true, if_false]
  refine wpAny_pure (wpAny_bind (wpAny_bind (wpAny_isInstance (T := "list") (b := false) ty F.sub_list_bytearray ?_)))
  simp only [Bool.false_eq_true, if_false]
  refine wpAny_pure (wpAny_pure ?_)
  refine wpAny_bind (wpAny_newObj_type ?_)
  have hsz : s.heap.objs.size < s₂.heap.objs.size := hfp _ List.mem_cons_self
  have hSf : s₂.heap.objs.size ∉ [s.heap.objs.size, l] := fun hm => Nat.lt_irrefl _ (hfp _ hm)
  have hlt : ∀ {x : Addr} {o : Obj}, s.heap.get? x = some o → x ∉ [s.heap.objs.size] ∧ x ≠ s₂.heap.objs.size := fun {x o} e => ⟨hw _ _ e, Nat.ne_of_lt (Nat.lt_trans (Heap.lt_size e) hsz)⟩
  refine wpAny_pure ⟨plainId_quiet F.plain_sum_loop _, sum_loopL W s₂.heap.objs.size hSf its b nn (fun i v hv => hval i v (by simpa using hv)) (fun i hi => hlt (hb i (by simpa using hi))) (fun x hx => by rw [List.mem_singleton.mp hx]; exact hsz)
    vs.toArray.size 0 _ p acc na 0 rfl (Nat.zero_le _) (W.frame 0 s₂ _ _ st (Nat.le_refl _) fun x _ o e => Heap.get?_push_of_some _ e) (Heap.get?_push_size _ rfl) (Heap.get?_push_of_some _ hp2) (hlt hp).1 (hlt hp).2 (fun j hj => Heap.get?_push_of_some _ (hk _ _ (hb j (by simpa using hj)))) (by simpa using hz) fun s' tot' na' hm hq h0 h1 => ?_⟩
  obtain ⟨hp', g, d, tk, os⟩ := s'
  have e1 : g = s₂.gens := hm.gens
  have e2 : d = s₂.drawn := hm.drawn
  have e3 : os = s₂.os := hm.os
  subst e
  subst e1 e2 e3
  refine h hp' tk tot' na' (fun x o ex => hm.heap x o (fun hx => ?_) (Heap.get?_push_of_some _ (hk _ _ ex))) (by simpa using hq) (fun z => h0 (by simpa using z)) fun z => ?_
  · rcases List.mem_cons.mp hx with hx | hx
    · exact (hlt ex).2 hx
    · exact (hlt ex).1 hx
  · exact Nat.le_of_lt (Nat.lt_trans hsz (h1 (by simpa using z)))
end
end Lx
set_option Elab.async false
set_option linter.all false
set_option maxRecDepth 100000
set_option maxHeartbeats 4000000
/-! Lx10: sum of lists, isinstance, is of bools, a, b = x, y, method calls by name, Fk. -/
namespace Lx
open PySem PySem.Spec L2 PyProof.Rows
def rSumL (K : PySem.W.Frag) : List V → Hp → VK → Prop := fun xs H Q => ∃ (a p : Addr) (ws : List (Addr × List V)) (acc : List V), xs = [.ref a, .ref p] ∧ SqL K H a (ws.map fun w => V.ref w.1) ∧ (∀ w ∈ ws, H w.1 = some (.lst w.2)) ∧ H p = some (.lst acc) ∧
  (acc ++ ws.flatMap (·.2)).length ≤ sizeLine ∧ (ws = [] → Q (.ref p) H) ∧ (ws ≠ [] → ∀ q, H q = none → Q (.ref q) (upd H q (.lst (acc ++ ws.flatMap (·.2)))))
theorem Vals.get2 : ∀ {vs : List V} {us : List Value}, Vals vs us → ∀ (i : Nat) (u : Value), us[i]? = some u → ∃ v, vs[i]? = some v ∧ RelV v u
  | _, _, .nil, i, u, h => by simp at h
  | _, _, .cons a r, 0, u, h => by simp at h; subst h; exact ⟨_, rfl, a⟩
  | _, _, .cons a r, i + 1, u, h => by
    obtain ⟨v, h1, h2⟩ := Vals.get2 r i u (by simpa using h)
    exact ⟨v, by simpa using h1, h2⟩
theorem vals_cat {ws : List (Addr × List V)} {its : Nat → List Value} (h : ∀ (j : Nat) (w : Addr × List V), ws[j]? = some w → Vals w.2 (its j)) : ∀ (k i : Nat), i + k = ws.length → Vals ((ws.drop i).flatMap (·.2)) (catA its i k)
  | 0, i, e => by
    rw [List.drop_eq_nil_of_le (by omega)]
    exact .nil
  | k + 1, i, e => by
    have hi : i < ws.length := by omega
    rw [List.drop_eq_getElem_cons hi, List.flatMap_cons]
    exact (h i _ (List.getElem?_eq_getElem hi)).append (vals_cat h k (i + 1) (by omega))
section
variable {X : Cx} {K : PySem.W.Frag}
theorem call_sumL (hc : X.calm = true) : CallR X (.builtin "sum") (rSumL X.K) := by
  intro pins s σ H xs us Q I r h
  obtain ⟨a, p, ws, acc, rfl, hS, hw, hp, hz, q0, q1⟩ := h
  obtain ⟨u1, u2, rfl, r1, r2⟩ := vals2 r
  cases r1; cases r2
  obtain ⟨its0, rv, pl, hz0⟩ := I.list hS
  obtain ⟨_, ai, an, ra, _, hpo⟩ := I.lstM hp
  have sk : ∀ j : Nat, ∃ x : List Value × Nat, ∀ w, ws[j]? = some w → Vals w.2 x.1 ∧ s.heap.get? w.1 = some { cls := .type "list", data := .seq x.1.toArray x.2 } := fun j => by
    cases e : ws[j]? with
    | none => exact ⟨([], 0), fun w z => by cases z⟩
    | some w =>
      obtain ⟨_, i1, n1, v1, _, g1⟩ := I.lstM (hw w (List.mem_of_getElem? e))
      exact ⟨(i1, n1), fun w2 z => by cases z; exact ⟨v1, g1⟩⟩
  obtain ⟨f, hf⟩ := Classical.skolem.mp sk
  have hl0 : its0.length = ws.length := by rw [← rv.length, List.length_map]
  have cat := vals_cat (ws := ws) (its := fun j => (f j).1) (fun j w e => (hf j w e).1) ws.length 0 (by simp)
  rw [List.drop_zero] at cat
  refine call_sum_lists (its := fun j => (f j).1) (b := fun j => (ws[j]?.map (·.1)).getD 0) (nn := fun j => (f j).2) (I.ok.hd hc) pl.isList hpo (fun i v hv => ?_) (fun j hj => ?_) ?_ (fun h' tk q nq hk hq h0 h1 => ?_)
  · obtain ⟨v2, e1, e2⟩ := Vals.get2 rv i v hv
    rw [List.getElem?_map] at e1
    cases e : ws[i]? with
    | none => rw [e] at e1; cases e1
    | some w => rw [e] at e1; cases e1; rw [show v = Value.ref w.1 from e2]; rfl
  · have hj2 : j < ws.length := by omega
    have e := List.getElem?_eq_getElem hj2
    simp only [e, Option.map_some, Option.getD_some]
    exact (hf j _ e).2
  · rw [hl0, ← ra.length, ← cat.length, ← List.length_append]; exact hz
  · rw [hl0] at hq h0 h1
    by_cases hws : ws = []
    · subst hws
      rw [h0 rfl]
      exact ⟨.ref p, H, I.kept hk, rfl, q0 rfl⟩
    · have hsz := h1 (by intro z; exact hws (List.eq_nil_of_length_eq_zero z))
      exact ⟨.ref q, _, I.laid (t' := tk) (o := .lst (acc ++ ws.flatMap (·.2))) hk hsz ⟨hz, _, nq, ra.append cat, hq⟩, rfl, q1 hws q (I.hok.fresh hsz)⟩
end
def lstsD : List D → Option (List (List D))
  | [] => some []
  | .lst xs :: r => (lstsD r).map (xs :: ·)
  | _ => none
@[reducible] def sumD : List D → W D
  | [.lst xs, .lst acc] => (match lstsD xs with
    | some yss => W.need ((acc ++ yss.flatten).length ≤ sizeLine) (W.ret (.lst (acc ++ yss.flatten)))
    | none => W.stuck)
  | _ => W.stuck
section
variable {K : PySem.W.Frag} {pn : Addr} {F H : Hp}
theorem lsts_rep : ∀ {vs : List V} {ds : List D} {yss : List (List D)}, RepL K pn F vs ds → lstsD ds = some yss → ∃ ws : List (Addr × List V), vs = ws.map (fun w => V.ref w.1) ∧ (∀ w ∈ ws, F w.1 = some (.lst w.2)) ∧ RepL K pn F (ws.flatMap (·.2)) yss.flatten
  | _, _, _, .nil, h => by cases h; exact ⟨[], rfl, (fun w z => nomatch z), .nil⟩
  | _, _, _, .cons (d := d) (ds := ds) a r, h => by
    cases a with
    | @lst b vs xs hf rf =>
      unfold lstsD at h
      cases e : lstsD ds with
      | none => rw [e] at h; cases h
      | some yss =>
        rw [e] at h; cases h
        obtain ⟨ws, h1, h2, h3⟩ := lsts_rep r e
        refine ⟨(b, vs) :: ws, by rw [h1]; rfl, fun w hw => ?_, by rw [List.flatMap_cons, List.flatten_cons]; exact rf.app h3⟩
        rcases List.mem_cons.mp hw with rfl | hw
        · exact hf
        · exact h2 w hw
    | _ => cases h
theorem lo_sum : LOn K (rSumL K) sumD := fun pn F H n vs xs Q o r h => by
  unfold sumD at h
  split at h
  · rename_i xs acc
    obtain ⟨v, w, rfl, rv, rw_⟩ := r.two
    cases rv with
    | @lst a vs ds hf rf =>
      cases rw_ with
      | @lst p us es hg rg =>
        cases e : lstsD xs with
        | none => rw [e] at h; exact h.elim
        | some yss =>
          rw [e] at h
          obtain ⟨ws, h1, h2, h3⟩ := lsts_rep rf e
          have hall := rg.app h3
          refine ⟨a, p, ws, us, rfl, by rw [← h1]; exact SqL.of (o.fro _ _ hf), fun w hw => o.fro _ _ (h2 w hw), o.fro _ _ hg, by rw [hall.len]; exact h.1, fun hws => ?_, fun hws q hq => ?_⟩
          · subst hws
            have e0 : yss.flatten = [] := List.eq_nil_of_length_eq_zero (by rw [← h3.len]; rfl)
            have h2 := h.2
            rw [e0, List.append_nil] at h2
            exact h2 _ F H (Go.refl ..) o (.lst hg rg)
          · obtain ⟨o2, g2⟩ := o.lay (o := .lst (us ++ ws.flatMap (·.2))) hq
            exact h.2 (.ref q) _ _ g2 o2 (.lst upd_same (hall.up g2.sub))
  · exact h.elim
end

/-! ### isinstance -/
/-- what isinstance(x, c) tells, by the class of x: tb has the own classes -/
inductive Ky where
  | t (n : String) | c (x : Str)
deriving DecidableEq
def tyD : D → Option Ky
  | .non => some (.t "NoneType") | .bl _ => some (.t "bool") | .int _ => some (.t "int") | .str _ => some (.t "str")
  | .lst _ => some (.t "list") | .tup _ => some (.t "tuple") | .obj c _ => some (.c c)
  | _ => none
def vTy (K : PySem.W.Frag) : Ky → Value
  | .t s => .type s
  | .c c => .ref (He.ga K c)
/-- an answer: of type t, asked for c -/
abbrev IsTb := List (Ky × Bool)
structure OwnC (K : PySem.W.Frag) (c : Str) : Prop where
  ok : ∀ (H : Hp) (a dx : Addr) (fs : List (Str × V)), H a = some (.ins (He.ga K c) dx fs) → TyX K H (.ref a) (.ref (He.ga K c))
@[reducible] def isiD (tb : IsTb) (x : D) : W D := match tyD x with
  | some t => (match tb.lookup t with | some b => W.ret (.bl b) | none => W.stuck)
  | none => W.stuck
def tIsi (K : PySem.W.Frag) (c : V) (ta : TE) : TE := fun σ H Q => ta σ H fun x H1 => rIsi K [x, c] H1 Q
/-- the table's answers are right -/
inductive IsOk (K : PySem.W.Frag) (u : Value) : IsTb → Prop
  | nil : IsOk K u []
  | cons {t : Ky} {b : Bool} {tb : IsTb} : PySem.W.kitOne K (vTy K t) u = some b → (∀ c, t = .c c → OwnC K c) → IsOk K u tb → IsOk K u ((t, b) :: tb)
theorem IsOk.get {K : PySem.W.Frag} {u : Value} : ∀ {tb : IsTb} {t : Ky} {b : Bool}, IsOk K u tb → tb.lookup t = some b → PySem.W.kitOne K (vTy K t) u = some b ∧ ∀ c, t = .c c → OwnC K c
  | _, _, _, .nil, h => by cases h
  | _, t, b, .cons (t := t2) h1 h2 r, h => by
    rw [List.lookup_cons] at h
    cases q : (t == t2) with
    | true => rw [q] at h; cases h; rw [eq_of_beq q]; exact ⟨h1, h2⟩
    | false => rw [q] at h; exact r.get h
section
variable {X : Cx} {K : PySem.W.Frag}
theorem le_isi {c : V} {u : Value} {tb : IsTb} {ta : TE} {fa : List Sl → W D} (hc : ClsV c u) (ht : IsOk K u tb) (ha : LE K ta fa) : LE K (tCB (rIsi K) (tCons ta (tCons (tC c) tNil))) (dOp1 (isiD tb) fa) := fun pn H0 F H n σ δ Q o s h => by
  refine ha pn H0 F H n σ δ _ o s ((fa δ).mono (fun m x q => ?_) (fun _ _ z => z) h)
  intro v F1 H1 g1 o1 r1
  unfold isiD at q
  cases e : tyD x with
  | none => rw [e] at q; exact q.elim
  | some t =>
    rw [e] at q
    dsimp only at q
    cases e2 : tb.lookup t with
    | none => rw [e2] at q; exact q.elim
    | some b =>
      rw [e2] at q
      obtain ⟨k1, k2⟩ := ht.get e2
      refine ⟨v, c, vTy K t, u, b, rfl, hc, ?_, k1, q _ F1 H1 g1 o1 (.bl _)⟩
      cases r1 with
      | non => cases e; exact .base .non
      | bl b => cases e; exact .base (.bl b)
      | int i => cases e; exact .base (.int i)
      | str x => cases e; exact .base (.str x)
      | lst a r => cases e; exact .base (.lst (o1.fro _ _ a))
      | tup a r =>
        cases e
        rcases o1.fro.sqT a with (z | ⟨ob, z⟩) | ⟨ob, its, n', z, zc, _⟩
        · exact .base (.tup z)
        · exact .fTuple z
        · exact .kTuple z zc
      | obj a _ _ _ => cases e; exact (k2 _ rfl).ok _ _ _ _ (o1.fro _ _ a)
      | pen => cases e
      | sct _ => cases e
      | adr _ => cases e
end
end Lx
set_option Elab.async false
set_option linter.all false
set_option maxRecDepth 100000
set_option maxHeartbeats 4000000
/-! Lx11: the pen: how it is made, how it draws. -/
namespace Lx
open PySem PySem.Spec L2 PyProof.Rows
/-- the expression's value, the heap as it was -/
def Ev (te : TE) (σ : L2.St) (H : Hp) (v : V) : Prop := ∀ Q : VK, Q v H → te σ H Q
abbrev rGt1 : R2 := rI0 fun i j => .bl (decide (j < i))
abbrev rLt1 : R2 := rI0 fun i j => .bl (decide (i < j))
abbrev rGe1 : R2 := rI0 fun i j => .bl (decide (j ≤ i))
abbrev rMod1 : R2 := rI (fun _ j => 0 < j) fun i j => .int (i % j)
abbrev rFd1 : R2 := rI CDiv fun i j => .int (i / j)
abbrev rAdd1 : R2 := rI0 fun i j => .int (i + j)
abbrev rSub1 : R2 := rI0 fun i j => .int (i - j)
abbrev rMul1 : R2 := rI CMul fun i j => .int (i * j)
abbrev rPow1 : R2 := rI CPow fun i j => .int (i ^ j.toNat)
abbrev rInt1 : List V → Hp → VK → Prop := fun xs H Q => (∃ i, xs = [.int i] ∧ Q (.int i) H) ∨ ∃ k, xs = [.bl k] ∧ Q (.int (if k then 1 else 0)) H
abbrev rAbs1 : List V → Hp → VK → Prop := fun xs H Q => ∃ i, xs = [.int i] ∧ Q (.int (if i < 0 then -i else i)) H
abbrev tI1 (te : TE) : TE := tCB rInt1 (tCons te tNil)
abbrev tA1 (te : TE) : TE := tCB rAbs1 (tCons te tNil)
abbrev tLn (K : PySem.W.Frag) (te : TE) : TE := tCB (rLen K) (tCons te tNil)
abbrev kk (x : Str) : TE := tC (.str x)
section
variable {K : PySem.W.Frag} {σ : L2.St} {H : Hp} {ta tb : TE}
theorem ev_var {i : Nat} {v : V} (h : σ[i]? = some (some v)) : Ev (tVar i) σ H v := fun Q q => ⟨v, h, q⟩
theorem ev_c {v : V} : Ev (tC v) σ H v := fun Q q => q
theorem ev_op {r : R2} {x y z : V} (ha : Ev ta σ H x) (hb : Ev tb σ H y) (hr : ∀ Q : VK, Q z H → r x y H Q) : Ev (tOp r ta tb) σ H z := fun Q q => ha _ (hb _ (hr Q q))
theorem ev_i0 {f : Int → Int → V} {i j : Int} (ha : Ev ta σ H (.int i)) (hb : Ev tb σ H (.int j)) : Ev (tOp (rI0 f) ta tb) σ H (f i j) := ev_op ha hb fun Q q => ⟨i, j, rfl, rfl, q⟩
theorem ev_i {c : Int → Int → Prop} {f : Int → Int → V} {i j : Int} (ha : Ev ta σ H (.int i)) (hb : Ev tb σ H (.int j)) (hc : c i j) : Ev (tOp (rI c f) ta tb) σ H (f i j) := ev_op ha hb fun Q q => ⟨i, j, rfl, rfl, hc, q⟩
theorem ev_k (i : Int) : Ev (tC (.int i)) σ H (.int i) := fun Q q => q
theorem ev_v (k : Nat) (i : Int) (h : σ[k]? = some (some (.int i))) : Ev (tVar k) σ H (.int i) := ev_var h
theorem ev_add {i j : Int} (ha : Ev ta σ H (.int i)) (hb : Ev tb σ H (.int j)) : Ev (tOp rAdd1 ta tb) σ H (.int (i + j)) := ev_i0 ha hb
theorem ev_sub {i j : Int} (ha : Ev ta σ H (.int i)) (hb : Ev tb σ H (.int j)) : Ev (tOp rSub1 ta tb) σ H (.int (i - j)) := ev_i0 ha hb
theorem ev_mul {i j : Int} (ha : Ev ta σ H (.int i)) (hb : Ev tb σ H (.int j)) (h : CMul i j) : Ev (tOp rMul1 ta tb) σ H (.int (i * j)) := ev_i ha hb h
theorem ev_mod {i j : Int} (ha : Ev ta σ H (.int i)) (hb : Ev tb σ H (.int j)) (h : 0 < j) : Ev (tOp rMod1 ta tb) σ H (.int (i % j)) := ev_i ha hb h
theorem ev_fd {i j : Int} (ha : Ev ta σ H (.int i)) (hb : Ev tb σ H (.int j)) (h : CDiv i j) : Ev (tOp rFd1 ta tb) σ H (.int (i / j)) := ev_i ha hb h
theorem ev_int {i : Int} (ha : Ev ta σ H (.int i)) : Ev (tI1 ta) σ H (.int i) := fun Q q => ha _ (.inl ⟨i, rfl, q⟩)
theorem ev_abs {i : Int} (ha : Ev ta σ H (.int i)) : Ev (tA1 ta) σ H (.int (if i < 0 then -i else i)) := fun Q q => ha _ ⟨i, rfl, q⟩
theorem ev_len {a : Addr} {xs : List V} (ha : Ev ta σ H (.ref a)) (hs : SqL K H a xs) : Ev (tLn K ta) σ H (.int xs.length) := fun Q q => ha _ ⟨_, _, rfl, Or.inl ⟨_, hs, rfl⟩, q⟩
theorem ev_ix {a : Addr} {xs : List V} {i : Int} {v : V} (ha : Ev ta σ H (.ref a)) (hb : Ev tb σ H (.int i)) (hs : SqL K H a xs) (hv : atI xs i = some v) : Ev (tOp (rIx K) ta tb) σ H v := ev_op ha hb fun Q q => .inl ⟨a, xs, i, v, rfl, rfl, hs, hv, q⟩
theorem ev_get {a : Addr} {kvs : List (Key × V)} {x : Str} {v : V} (ha : Ev ta σ H (.ref a)) (hs : H a = some (.dK kvs)) (hv : valV kvs (Sum.inr x) = some v) : Ev (tDGet ta (kk x)) σ H v := fun Q q => ha _ ⟨a, v, rfl, by
  have := DGet.k (k := Sum.inr x) hs
  rw [hv] at this
  exact this, q⟩
end
/-! ### the draw -/
section
variable (K : PySem.W.Frag)
abbrev pLeft : TE := tDGet (tVar 0) (kk "left")
abbrev pTurn : TE := tDGet (tVar 0) (kk "turn")
abbrev pCells : TE := tDGet (tVar 0) (kk "cells")
abbrev p18 : TE := tOp rPow1 (tC (.int 10)) (tC (.int 18))
abbrev pAb : TE := tOp rSub1 (tA1 (tVar 4)) p18
def d1 : TS := tIfS (tTest (tOp rGt1 pLeft (tC (.int 0)))) (tSeq (tAsg (tOp rMod1 (tI1 pLeft) (tVar 1)) (gName 2)) (tSeq (sDPut (tVar 0) (kk "left") (tOp rFd1 pLeft (tVar 1))) (tRet (tVar 2)))) tNext
def d5 : TS := tIfS (tTest (tOp (rNeU K) pCells (tLst tNil))) (tAsg (tOp (rIx K) pCells (tOp rMod1 (tI1 (tVar 3)) (tLn K pCells))) (gName 4)) tNext
def d6 : TS := tIfS (tAnd (tTest (tOp rLt1 (tVar 3) (tLn K pCells))) (tTest (tOp rGe1 (tA1 (tVar 4)) p18))) (tSeq (sDPut (tVar 0) (kk "left") (tOp rFd1 pAb (tVar 1))) (tRet (tOp rMod1 pAb (tVar 1)))) tNext
def d7 : TS := tAsg (tLst (tCons (tC (.int 2147483629)) (tCons (tC (.int 2147483647)) (tCons (tC (.int 2147483587)) (tCons (tC (.int 2147483563)) (tCons (tC (.int 2147483579)) tNil)))))) (gName 5)
def d8 : TS := tAsg (tOp (rIx K) (tVar 5) (tOp rMod1 (tI1 (tVar 3)) (tC (.int 5)))) (gName 6)
def d9 : TS := tAsg (tOp rMod1 (tI1 (tOp rAdd1 (tOp rAdd1 (tOp rMul1 (tOp rMod1 (tI1 (tVar 4)) (tVar 6)) (tC (.int 39373))) (tOp rMul1 (tVar 3) (tOp rAdd1 (tOp rMul1 (tC (.int 30011)) (tVar 3)) (tC (.int 8117))))) (tC (.int 23)))) (tVar 6)) (gName 7)
def d10 : TS := tAsg (tOp rMod1 (tI1 (tOp rMul1 (tVar 7) (tOp rAdd1 (tVar 7) (tC (.int 69621))))) (tOp (rIx K) (tVar 5) (tOp rMod1 (tI1 (tOp rAdd1 (tVar 3) (tC (.int 2)))) (tC (.int 5))))) (gName 7)
def d11 : TS := tRet (tOp rMod1 (tI1 (tOp rFd1 (tOp rMod1 (tI1 (tOp rAdd1 (tOp rAdd1 (tOp rMul1 (tVar 7) (tVar 7)) (tOp rMul1 (tC (.int 16807)) (tVar 7))) (tVar 3))) (tC (.int 2147483549))) (tC (.int 64)))) (tVar 1))
def t_draw : TS := tSeq d1 (tSeq (tAsg pTurn (gName 3)) (tSeq (sDPut (tVar 0) (kk "turn") (tOp rAdd1 (tVar 3) (tC (.int 1)))) (tSeq (tAsg (tOp rAdd1 (tOp rMul1 (tC (.int 43)) (tVar 3)) (tC (.int 19))) (gName 4))
  (tSeq (d5 K) (tSeq (d6 K) (tSeq d7 (tSeq (d8 K) (tSeq d9 (tSeq (d10 K) d11)))))))))
end
@[reducible] def drawD : List D → W D
  | [.pen, .int m] => W.need (0 < m ∧ m < 1073741824) (W.any 1 fun d => ∃ i : Int, d = .int i ∧ 0 ≤ i ∧ i < m)
  | _ => W.stuck
section
variable {K : PySem.W.Frag}
theorem dput {td tv : TE} {σ : L2.St} {H : Hp} {D : Ends} {a : Addr} {kvs : List (Key × V)} {x : Str} {v : V} (hd : ∀ H' : Hp, Ev td σ H' (.ref a)) (hv : Ev tv σ H v) (e : H a = some (.dK kvs)) (hl : kvs.length < sizeLine) (q : D.nx σ (upd H a (.dK (putK kvs (Sum.inr x) v)))) : sDPut td (kk x) tv D σ H :=
  hv _ (hd H _ ⟨a, _, rfl, DPut.k (k := Sum.inr x) e hl, q⟩)
theorem pk_l {l : Addr} {t lf x : Int} : putK (penKvs l t lf) (Sum.inr ("left" : Str)) (.int x) = penKvs l t x := rfl
theorem pk_t {l : Addr} {t lf x : Int} : putK (penKvs l t lf) (Sum.inr ("turn" : Str)) (.int x) = penKvs l x lf := rfl
theorem pv_l {l : Addr} {t lf : Int} : valV (penKvs l t lf) (Sum.inr ("left" : Str)) = some (.int lf) := rfl
theorem pv_t {l : Addr} {t lf : Int} : valV (penKvs l t lf) (Sum.inr ("turn" : Str)) = some (.int t) := rfl
theorem pv_c {l : Addr} {t lf : Int} : valV (penKvs l t lf) (Sum.inr ("cells" : Str)) = some (.ref l) := rfl
theorem pk_len {l : Addr} {t lf : Int} : (penKvs l t lf).length < sizeLine := by rw [sizeLine_eq]; show 3 < 16777216; decide
theorem atI_in {α : Type} {xs : List α} {i : Int} (h0 : 0 ≤ i) (h1 : i < xs.length) : ∃ v, atI xs i = some v ∧ xs[i.toNat]? = some v := by
  have hl : i.toNat < xs.length := by omega
  have e : ixN xs.length i = some i.toNat := by
    unfold ixN
    rw [if_pos h0, if_pos h1]
  refine ⟨xs[i.toNat], ?_, List.getElem?_eq_getElem hl⟩
  unfold atI
  rw [e]
  exact List.getElem?_eq_getElem hl
theorem itD {c : Prop} [Decidable c] {a b : Prop} (h : c) (x : a) : (if decide c = true then a else b) := by rw [if_pos (decide_eq_true h)]; exact x
theorem itN {c : Prop} [Decidable c] {a b : Prop} (h : ¬ c) (x : b) : (if decide c = true then a else b) := by rw [if_neg (by simpa using h)]; exact x
theorem abs_nn (i : Int) : 0 ≤ (if i < 0 then -i else i) := by split <;> omega
theorem ite1 {c : Bool} {a b : Prop} (h : c = true) (x : a) : (if c = true then a else b) := by rw [if_pos h]; exact x
theorem shaped_ints (cs : List Int) : SeqAt.shaped (.list (cs.map .int)) = true := by
  have h1 : ∀ cs : List Int, PyData.canLayAll0 (cs.map .int) = true := fun cs => by
    induction cs with
    | nil => rfl
    | cons c r ih => exact ih
  have h2 : (PyData.list (cs.map .int)).depth ≤ 64 := by
    show PyData.depthAll (cs.map .int) + 1 ≤ 64
    rw [depth_ints]
    decide
  exact Bool.and_eq_true_iff.mpr ⟨h1 cs, decide_eq_true h2⟩
theorem ne_nil (c : Int) (r : List Int) : (!PyData.eqv (.list ((c :: r).map .int)) (.list [])) = true := rfl
/-- behind the draw: all stands but the pen -/
theorem draw_pure {vs : List V} {H : Hp} {Q : VK} {E : XK} (h : Pr K 2 drawD vs H Q E) : t_draw K { nx := fun _ H' => Q .non H', rt := Q } (L2.start ["_law_pen_here", "_law_span", "_law_digit", "_law_turn", "_law_cell", "_law_primes", "_law_prime", "_law_drawn"] vs) H := by
  obtain ⟨pn, F, ds, n, ok, r, dl, q⟩ := h
  match ds, r, q with
  | [.pen, .int m], r, q1 =>
    obtain ⟨v0, v1, rfl, r0, r1⟩ := r.two
    cases r1
    obtain ⟨⟨m0, m1⟩, k, rfl, q2⟩ := q1
    obtain rfl : v0 = .ref pn := by cases r0; rfl
    obtain ⟨l, cs, t, lf, hp, hl, hcs, t0, tn, lf0⟩ := ok.pen
    have fin : ∀ (H' : Hp) (t' lf' i : Int), (∀ a o, a ≠ pn → H a = some o → H' a = some o) → H' pn = some (.dK (penKvs l t' lf')) → 0 ≤ t' → t' ≤ t + 1 → 0 ≤ lf' → 0 ≤ i → i < m → Q (.int i) H' := fun H' t' lf' i hk hp' ht0 ht1 hl0 i0 i1 =>
      q2 (.int i) ⟨i, rfl, i0, i1⟩ (.int i) F H' ⟨hk, Le.refl F, fun a o e z => by rw [z] at e; cases e⟩ ⟨fun a o e => hk a o (fun z => by rw [z, ok.fpn] at e; cases e) (ok.fro a o e), ok.fpn, l, cs, t', lf', hp', hl, hcs, ht0, by have : ((k + 1 : Nat) : Int) = k + 1 := rfl; omega, hl0⟩ (.int i)
    let σ0 : L2.St := [some (.ref pn), some (.int m), none, none, none, none, none, none]
    have g0 : ∀ σ (H' : Hp), σ[0]? = some (some (V.ref pn)) → Ev (tVar 0) σ H' (.ref pn) := fun σ H' e => ev_var e
    show t_draw K _ σ0 H
    have evl : Ev pLeft σ0 H (.int lf) := ev_get (g0 σ0 H rfl) hp pv_l
    have ev1 : ∀ H', Ev (tVar 1) σ0 H' (.int m) := fun H' => ev_var rfl
    unfold t_draw d1
    refine (ev_i0 evl ev_c) _ ⟨decide (0 < lf), rfl, ?_⟩
    by_cases hlf : 0 < lf
    · refine itD hlf ?_
      refine (ev_mod (ev_int evl) (ev1 H) m0) _ ?_
      have evl2 : Ev pLeft (σ0.set 2 (some (.int (lf % m)))) H (.int lf) := ev_get (g0 _ H rfl) hp pv_l
      refine dput (fun H' => g0 _ H' rfl) (ev_fd evl2 (ev_v 1 m rfl) ⟨m0, m1⟩) hp pk_len ?_
      rw [pk_l]
      refine ⟨_, rfl, fin _ t (lf / m) (lf % m) (fun a o na e => by rw [upd_ne na]; exact e) upd_same t0 (by omega) (Int.ediv_nonneg lf0 (by omega)) (Int.emod_nonneg _ (by omega)) (Int.emod_lt_of_pos _ m0)⟩
    · refine itN hlf ?_
      refine (ev_get (g0 σ0 H rfl) hp pv_t : Ev pTurn σ0 H (.int t)) _ ?_
      let σ1 : L2.St := [some (.ref pn), some (.int m), none, some (.int t), none, none, none, none]
      unfold gName
      refine dput (fun H' => g0 _ H' rfl) (ev_add (ev_v 3 t rfl) (ev_k 1)) hp pk_len ?_
      rw [pk_t]
      generalize hH1 : upd H pn (.dK (penKvs l (t + 1) lf)) = H1
      have hp1 : H1 pn = some (.dK (penKvs l (t + 1) lf)) := by rw [← hH1]; exact upd_same
      have k1 : ∀ a o, a ≠ pn → H a = some o → H1 a = some o := fun a o na e => by rw [← hH1, upd_ne na]; exact e
      have lc : ∀ H' : Hp, (∀ a o, a ≠ pn → H a = some o → H' a = some o) → SqL K H' l (cs.map V.int) := fun H' hk => Le.sqL (fun a o e => hk a o (fun z => by rw [z, ok.fpn] at e; cases e) (ok.fro a o e)) hl
      refine (ev_add (ev_mul (ev_k 43) (ev_v 3 t rfl) (.inl ⟨by decide, by decide⟩)) (ev_k 19)) _ ?_
      have tb : t < 2 ^ 60 := by have : ((k + 1 : Nat) : Int) = k + 1 := rfl; omega
      -- the rest, once the cell is there
      have rest : ∀ (c : Int) (H2 : Hp), H2 pn = some (.dK (penKvs l (t + 1) lf)) → (∀ a o, a ≠ pn → H a = some o → H2 a = some o) →
          tSeq (d6 K) (tSeq d7 (tSeq (d8 K) (tSeq d9 (tSeq (d10 K) d11)))) { nx := fun _ H' => Q .non H', rt := Q } [some (.ref pn), some (.int m), none, some (.int t), some (.int c), none, none, none] H2 := by
        intro c H2 hp2 k2
        let σ2 : L2.St := [some (.ref pn), some (.int m), none, some (.int t), some (.int c), none, none, none]
        show tSeq (d6 K) _ _ σ2 H2
        have evc : Ev pCells σ2 H2 (.ref l) := ev_get (g0 _ H2 rfl) hp2 pv_c
        have eva : Ev (tA1 (tVar 4)) σ2 H2 (.int (if c < 0 then -c else c)) := ev_abs (ev_var rfl)
        have e18 : Ev p18 σ2 H2 (.int (10 ^ 18)) := ev_i (c := CPow) (f := fun i j => .int (i ^ j.toNat)) (i := 10) (j := 18) ev_c ev_c ⟨by decide, by decide, by decide⟩
        have evab : Ev pAb σ2 H2 (.int ((if c < 0 then -c else c) - 10 ^ 18)) := ev_i0 eva e18
        unfold d6
        -- what comes when the cell isn't wide
        have tail : tSeq d7 (tSeq (d8 K) (tSeq d9 (tSeq (d10 K) d11))) { nx := fun _ H' => Q .non H', rt := Q } σ2 H2 := by
          unfold d7
          refine ⟨by rw [sizeLine_eq]; decide, fun p hpf => ?_⟩
          have pne : p ≠ pn := fun z => by rw [z, hp2] at hpf; cases hpf
          let ps : List V := [.int 2147483629, .int 2147483647, .int 2147483587, .int 2147483563, .int 2147483579]
          have hps : upd H2 p (.lst ps) p = some (.lst ps) := upd_same
          have hp3 : upd H2 p (.lst ps) pn = some (.dK (penKvs l (t + 1) lf)) := by rw [upd_ne pne.symm]; exact hp2
          have k3 : ∀ a o, a ≠ pn → H a = some o → upd H2 p (.lst ps) a = some o := fun a o na e => by
            have := k2 a o na e
            rw [upd_ne (ne_of_none this hpf)]; exact this
          generalize upd H2 p (.lst ps) = H3 at hps hp3 k3
          have prm : ∀ i : Int, 0 ≤ i → i < 5 → ∃ pr : Int, atI ps i = some (.int pr) ∧ 0 < pr ∧ pr < 2 ^ 31 := fun i h0 h5 => by
            have : i = 0 ∨ i = 1 ∨ i = 2 ∨ i = 3 ∨ i = 4 := by omega
            rcases this with rfl | rfl | rfl | rfl | rfl
            · exact ⟨2147483629, rfl, by decide, by decide⟩
            · exact ⟨2147483647, rfl, by decide, by decide⟩
            · exact ⟨2147483587, rfl, by decide, by decide⟩
            · exact ⟨2147483563, rfl, by decide, by decide⟩
            · exact ⟨2147483579, rfl, by decide, by decide⟩
          obtain ⟨pr, hpr, pr0, pr1⟩ := prm (t % 5) (Int.emod_nonneg _ (by decide)) (Int.emod_lt_of_pos _ (by decide))
          obtain ⟨pr2, hpr2, pr20, pr21⟩ := prm ((t + 2) % 5) (Int.emod_nonneg _ (by decide)) (Int.emod_lt_of_pos _ (by decide))
          unfold d8
          refine (ev_ix (ev_var (v := .ref p) rfl) (ev_mod (ev_int (ev_v 3 t rfl)) (ev_k 5) (by decide)) (SqL.of hps) hpr) _ ?_
          unfold d9
          have cm : 0 ≤ c % pr ∧ c % pr < pr := ⟨Int.emod_nonneg _ (by omega), Int.emod_lt_of_pos _ pr0⟩
          refine (ev_mod (ev_int (ev_add (ev_add (ev_mul (ev_mod (ev_int (ev_v 4 c rfl)) (ev_v 6 pr rfl) pr0) (ev_k 39373) (.inr ⟨by decide, by decide⟩)) (ev_mul (ev_v 3 t rfl) (ev_add (ev_mul (ev_k 30011) (ev_v 3 t rfl) (.inl ⟨by decide, by decide⟩)) (ev_k 8117)) (.inl ⟨by omega, by omega⟩))) (ev_k 23))) (ev_v 6 pr rfl) pr0) _ ?_
          generalize hd : (c % pr * 39373 + t * (30011 * t + 8117) + 23) % pr = dr
          have dr0 : 0 ≤ dr ∧ dr < pr := by rw [← hd]; exact ⟨Int.emod_nonneg _ (by omega), Int.emod_lt_of_pos _ pr0⟩
          unfold d10
          refine (ev_mod (ev_int (ev_mul (ev_v 7 dr rfl) (ev_add (ev_v 7 dr rfl) (ev_k 69621)) (.inl ⟨by omega, by omega⟩))) (ev_ix (ev_var (v := .ref p) rfl) (ev_mod (ev_int (ev_add (ev_v 3 t rfl) (ev_k 2))) (ev_k 5) (by decide)) (SqL.of hps) hpr2) pr20) _ ?_
          generalize hd2 : (dr * (dr + 69621)) % pr2 = dq
          have dq0 : 0 ≤ dq ∧ dq < pr2 := by rw [← hd2]; exact ⟨Int.emod_nonneg _ (by omega), Int.emod_lt_of_pos _ pr20⟩
          unfold d11
          refine (ev_mod (ev_int (ev_fd (ev_mod (ev_int (ev_add (ev_add (ev_mul (ev_v 7 dq rfl) (ev_v 7 dq rfl) (.inl ⟨by omega, by omega⟩)) (ev_mul (ev_k 16807) (ev_v 7 dq rfl) (.inl ⟨by decide, by decide⟩))) (ev_v 3 t rfl))) (ev_k 2147483549) (by decide)) (ev_k 64) ⟨by decide, by decide⟩)) (ev_v 1 m rfl) m0) _ ?_
          exact fin H3 (t + 1) lf _ k3 hp3 (by omega) (by omega) lf0 (Int.emod_nonneg _ (by omega)) (Int.emod_lt_of_pos _ m0)
        refine (ev_i0 (ev_var (v := .int t) rfl) (ev_len evc (lc H2 k2))) _ ⟨_, rfl, ?_⟩
        by_cases c1 : t < ((cs.map V.int).length : Int)
        · refine itD c1 ?_
          refine (ev_i0 eva e18) _ ⟨_, rfl, ?_⟩
          by_cases c2 : (10 : Int) ^ 18 ≤ (if c < 0 then -c else c)
          · refine itD c2 ?_
            refine dput (fun H' => g0 _ H' rfl) (ev_fd evab (ev_v 1 m rfl) ⟨m0, m1⟩) hp2 pk_len ?_
            rw [pk_l]
            have e18' : ∀ H', Ev p18 σ2 H' (.int (10 ^ 18)) := fun H' => ev_i (c := CPow) (f := fun i j => .int (i ^ j.toNat)) (i := 10) (j := 18) ev_c ev_c ⟨by decide, by decide, by decide⟩
            refine (ev_mod (ev_sub (ev_abs (ev_v 4 c rfl)) (e18' _)) (ev_v 1 m rfl) m0) _ ?_
            refine fin _ (t + 1) _ _ (fun a o na e => by rw [upd_ne na]; exact k2 a o na e) upd_same (by omega) (by omega) (Int.ediv_nonneg (by omega) (by omega)) (Int.emod_nonneg _ (by omega)) (Int.emod_lt_of_pos _ m0)
          · exact itN c2 tail
        · exact itN c1 (iteF tail)
      -- the cell
      let σ2 : L2.St := [some (.ref pn), some (.int m), none, some (.int t), some (.int (43 * t + 19)), none, none, none]
      show tSeq (d5 K) _ _ σ2 H1
      unfold d5
      have evc : Ev pCells σ2 H1 (.ref l) := ev_get (g0 _ H1 rfl) hp1 pv_c
      refine evc _ ⟨by rw [sizeLine_eq]; decide, fun p hpf => ?_⟩
      have pne : p ≠ pn := fun z => by rw [z, hp1] at hpf; cases hpf
      have hp2 : upd H1 p (.lst []) pn = some (.dK (penKvs l (t + 1) lf)) := by rw [upd_ne pne.symm]; exact hp1
      have hpp : upd H1 p (.lst []) p = some (.lst []) := upd_same
      have k2 : ∀ a o, a ≠ pn → H a = some o → upd H1 p (.lst []) a = some o := fun a o na e => by
        have := k1 a o na e
        rw [upd_ne (ne_of_none this hpf)]; exact this
      generalize upd H1 p (.lst []) = H2 at hp2 hpp k2
      refine .inr ⟨.list (cs.map .int), .list [], .lst (lc H2 k2) (dp_ints cs), .lst (SqL.of hpp) .nil, ?_, rfl, ⟨_, rfl, ?_⟩⟩
      · exact shaped_ints cs
      cases hcs0 : cs with
      | nil =>
        subst hcs0
        exact iteF (rest (43 * t + 19) H2 hp2 k2)
      | cons c0 cr =>
        refine ite1 (ne_nil c0 cr) ?_
        have hlen : (0 : Int) < ((cs.map V.int).length : Int) := by rw [hcs0]; simp
        have evc2 : Ev pCells σ2 H2 (.ref l) := ev_get (g0 _ H2 rfl) hp2 pv_c
        obtain ⟨v, hv, hv2⟩ := atI_in (xs := cs.map V.int) (i := t % ((cs.map V.int).length : Int)) (Int.emod_nonneg _ (by omega)) (Int.emod_lt_of_pos _ hlen)
        rw [List.getElem?_map] at hv2
        obtain ⟨c, _, rfl⟩ : ∃ c, cs[(t % ((cs.map V.int).length : Int)).toNat]? = some c ∧ v = .int c := by
          cases z : cs[(t % ((cs.map V.int).length : Int)).toNat]? with
          | none => rw [z] at hv2; cases hv2
          | some c => rw [z] at hv2; cases hv2; exact ⟨c, rfl, rfl⟩
        refine (ev_ix evc2 (ev_mod (ev_int (ev_v 3 t rfl)) (ev_len evc2 (lc H2 k2)) hlen) (lc H2 k2) hv) _ ?_
        exact rest c H2 hp2 k2
end
end Lx
set_option Elab.async false
set_option linter.all false
set_option maxRecDepth 100000
set_option maxHeartbeats 4000000
/-! Lx12: the head's Hook: defs by paths, facts of classes. -/
namespace Lx
open PySem PySem.Spec L2 PyProof.Rows He
/-- the property f of class x: the property object, its getter -/
def ppA (K : PySem.W.Frag) (x f : Str) : Addr := ma K (ga K x) f
def pgA (K : PySem.W.Frag) (x f : Str) : Addr := match PySem.W.recIn K (ppA K x f) "property" with
  | some (.ref g :: _) => g
  | _ => 0
/-- where a def stands -/
inductive Pth where
  | fn (x : Str) | me (c m : Str) | pr (c f : Str)
def Pth.a (K : PySem.W.Frag) : Pth → Addr
  | .fn x => ga K x
  | .me c m => ma K (ga K c) m
  | .pr c f => pgA K c f
inductive Fm where
  | he (f : Fa)
  /-- class x's method m is class y's -/
  | meth (x m y : Str)
  /-- class x's property f is class y's -/
  | prop (x f y : Str)
  /-- class x is made by class y's init -/
  | ini (x y : Str)
  /-- in an init of class d, for an object of class x, super().__init__ is class y's -/
  | sup (x d y : Str)
  | own (x : Str)
  | isi (t c : Ky) (b : Bool)
  | top
def eqB (a b : Option Bool) : Bool := decide (a = b)
def Fm.ok (K : PySem.W.Frag) : Fm → Bool
  | .he f => f.ok K
  | .meth x m y => eqO (PySem.W.findIn K (.ref (ga K x)) m) (some (some (.ref (ma K (ga K y) m)))) && (PySem.W.isFn K (.ref (ma K (ga K y) m)) && PySem.W.keepIn K (.ref (ma K (ga K y) m)))
  | .prop x f y => eqO (PySem.W.findIn K (.ref (ga K x)) f) (some (some (.ref (ppA K y f)))) && (eqO (PySem.W.specialIn K (.ref (ppA K y f)) "__get__") (some (some (.builtin "property.__get__"))) && (eqB (PySem.W.takesIn K (.ref (ppA K y f))) (some true) &&
      (match PySem.W.recIn K (ppA K y f) "property" with | some (.ref _ :: _) => true | _ => false)))
  | .ini x y => PySem.W.makesIn K (ga K x) && (eqO (PySem.W.findIn K (.ref (ga K x)) "__init__") (some (some (.ref (ma K (ga K y) "__init__")))) && (PySem.W.isFn K (.ref (ma K (ga K y) "__init__")) && PySem.W.keepIn K (.ref (ga K x))))
  | .sup x d y => eqB (PySem.W.mroIn K (ga K x) (.ref (ga K d))) (some true) && (eqO (PySem.W.ks_superIn K (ga K x) (ga K d) "__init__") (some (some (.ref (ma K (ga K y) "__init__")))) && (decide (PySem.W.typeIn K (.ref (ma K (ga K y) "__init__")) = some (.type "function")) && PySem.W.fnIn K (ma K (ga K y) "__init__")))
  | .own x => eqO (PySem.W.findIn K (.ref (ga K x)) "__class__") (some (some (.builtin "object.__class__"))) && (eqO (PySem.W.specialIn K (.builtin "object.__class__") "__get__") (some (some (.builtin "getset_descriptor.__get__"))) && (eqB (PySem.W.takesIn K (.builtin "object.__class__")) (some true) && eqB (PySem.W.mroIn K (ga K x) (.type "object")) (some true)))
  | .isi t c b => eqB (PySem.W.kitOne K (vTy K t) (vTy K c)) (some b)
  | .top => eqO (PySem.W.nsIn K mainGlobals "super") (some none) && eqO (PySem.W.nsIn K cStatics "thirdparty.any") (some none)
section
variable {K : PySem.W.Frag}
theorem fm_meth {x m y : Str} (c : (Fm.meth x m y).ok K = true) : Meth K (ga K x) m (ma K (ga K y) m) := by
  obtain ⟨c1, c⟩ := ba c
  obtain ⟨c2, c3⟩ := ba c
  exact ⟨eqO_ok c1, c2, c3⟩
theorem fm_prop {x f y : Str} (c : (Fm.prop x f y).ok K = true) : PropOf K (ga K x) f (ppA K y f) (pgA K y f) := by
  obtain ⟨c1, c⟩ := ba c
  obtain ⟨c2, c⟩ := ba c
  obtain ⟨c3, c4⟩ := ba c
  refine ⟨eqO_ok c1, eqO_ok c2, of_decide_eq_true c3, ?_⟩
  unfold pgA
  split at c4
  · rename_i g r e
    exact ⟨r, by rw [e]⟩
  · cases c4
theorem fm_ini {x y : Str} (c : (Fm.ini x y).ok K = true) : Mk K (ga K x) (ma K (ga K y) "__init__") := by
  obtain ⟨c1, c⟩ := ba c
  obtain ⟨c2, c⟩ := ba c
  obtain ⟨c3, c4⟩ := ba c
  exact ⟨c1, eqO_ok c2, c3, c4⟩
theorem fm_sup {x d y : Str} (c : (Fm.sup x d y).ok K = true) : SupC K (ga K x) (ga K d) (ma K (ga K y) "__init__") := by
  obtain ⟨c1, c⟩ := ba c
  obtain ⟨c2, c⟩ := ba c
  obtain ⟨c3, c4⟩ := ba c
  exact ⟨of_decide_eq_true c1, eqO_ok c2, of_decide_eq_true c3, c4⟩
theorem fm_own {x : Str} (c : (Fm.own x).ok K = true) (hC : Cls K (ga K x)) : OwnC K x := by
  obtain ⟨c1, c⟩ := ba c
  obtain ⟨c2, c⟩ := ba c
  obtain ⟨c3, c4⟩ := ba c
  exact ⟨fun H a dx fs e => .base (.ins e hC (eqO_ok c1) (eqO_ok c2) (of_decide_eq_true c3) (of_decide_eq_true c4))⟩
theorem fm_isi {t c : Ky} {b : Bool} (h : (Fm.isi t c b).ok K = true) : PySem.W.kitOne K (vTy K t) (vTy K c) = some b := of_decide_eq_true h
theorem fm_top (c : Fm.top.ok K = true) : PySem.W.nsIn K mainGlobals "super" = some none ∧ PySem.W.nsIn K cStatics "thirdparty.any" = some none := by
  obtain ⟨c1, c2⟩ := ba c
  exact ⟨eqO_ok c1, eqO_ok c2⟩
end
/-! ### defs -/
structure DefM where
  at_ : Pth
  name : Str
  qual : Str
  params : Arguments
  body : List Stmt
  scope : Scope
  /-- the class of a def that says super() -/
  sup : Option Str := none
abbrev FnM : Type := Option (Str × Str × Arguments × FuncBody × Scope × Addr × Addr)
def fnM (K : PySem.W.Frag) (a : Addr) : FnM := match K.lookup a with
  | some ⟨_, _, .func fd, _⟩ => some (fd.name, fd.qualname, fd.params, fd.body, fd.scope, fd.globals, fd.builtins)
  | _ => none
def DefM.val (d : DefM) : FnM := some (d.name, d.qual, d.params, .stmts d.body, d.scope, mainGlobals, builtinsNs)
def noneB : Value → Bool
  | .none => true
  | _ => false
def strB (file : Str) : Option Value → Bool
  | some (.str f _) => file == f
  | _ => false
theorem strB_ok {file : Str} {o : Option Value} (h : strB file o = true) : ∃ f t, o = some (.str f t) ∧ (file == f) = true := by
  unfold strB at h
  split at h
  · exact ⟨_, _, rfl, h⟩
  · cases h
def cloB (K : PySem.W.Frag) (file : Str) (fd : FuncData) : Option Str → Bool
  | none => (match fd.closure with | [] => true | _ => false)
  | some d => (match fd.closure with
    | [(x, cc)] => decide (x = "__class__") && ((match K.lookup cc with | some ⟨_, _, .cell (some (.ref D)), _⟩ => decide (D = ga K d) | _ => false) &&
      ((match fd.code with | .ref cda => (match K.lookup cda with | some ⟨_, _, .fields vs, _⟩ => strB file vs[2]? | _ => false) | _ => false) && (PySem.W.clsIn K (ga K d)).isSome))
    | _ => false)
def DefM.ok (K : PySem.W.Frag) (file : Str) (d : DefM) : Bool := PySem.W.keepIn K (.ref (d.at_.a K)) && (match K.lookup (d.at_.a K) with
  | some ⟨_, _, .func fd, _⟩ => PySem.W.codeIn K fd.code d.qual && (noneB fd.defaults && cloB K file fd d.sup)
  | _ => false)
theorem DefM.funD {K : PySem.W.Frag} {file : Str} {d : DefM} (hs : d.sup = none) (e : fnM K (d.at_.a K) = d.val) (c : d.ok K file = true) : ∃ fd, FunD K d.name d.qual d.params d.body d.scope [] [] (d.at_.a K) fd := by
  obtain ⟨kp, c2⟩ := ba c
  unfold fnM at e
  cases q : K.lookup (d.at_.a K) with
  | none => rw [q] at c2; cases c2
  | some o =>
    obtain ⟨oc, od, dt, osl⟩ := o
    rw [q] at c2 e
    cases dt with
    | func fd =>
      obtain ⟨n1, n2, n3, n4, n5, n6, n7, n8, n9, n10, n11, n12, n13, n14, n15⟩ := fd
      have e2 : (some (n1, n2, n3, n4, n5, n6, n15) : FnM) = some (d.name, d.qual, d.params, .stmts d.body, d.scope, mainGlobals, builtinsNs) := e
      simp only [Option.some.injEq, Prod.mk.injEq] at e2
      obtain ⟨h1, h2, h3, h4, h5, h6, h8⟩ := e2
      subst h1 h2 h3 h4 h5 h6 h8
      rw [hs] at c2
      obtain ⟨k1, k2⟩ := ba c2
      obtain ⟨k3, k4⟩ := ba k2
      cases n7 with
      | cons a r => cases k4
      | nil =>
        cases n8 with
        | none => exact ⟨_, ⟨oc, od, .none, n9, n10, n11, n12, n13, n14, osl, rfl, q, k1, .inl ⟨rfl, rfl⟩, .inl rfl⟩, kp⟩
        | _ => cases k3
    | _ => cases c2
theorem DefM.supD {P : Program} {K : PySem.W.Frag} {d : DefM} {D : Str} (hs : d.sup = some D) (e : fnM K (d.at_.a K) = d.val) (c : d.ok K P.main.file = true) (ht : Fm.top.ok K = true) (hp : (P.main.scope.names.lookup ("super" : Str)).isSome = false) :
    ∃ fd, SupD P K d.name d.qual d.params d.body d.scope (ga K D) (d.at_.a K) fd := by
  obtain ⟨t1, t2⟩ := fm_top ht
  obtain ⟨kp, c2⟩ := ba c
  unfold fnM at e
  cases q : K.lookup (d.at_.a K) with
  | none => rw [q] at c2; cases c2
  | some o =>
    obtain ⟨oc, od, dt, osl⟩ := o
    rw [q] at c2 e
    cases dt with
    | func fd =>
      obtain ⟨n1, n2, n3, n4, n5, n6, n7, n8, n9, n10, n11, n12, n13, n14, n15⟩ := fd
      have e2 : (some (n1, n2, n3, n4, n5, n6, n15) : FnM) = some (d.name, d.qual, d.params, .stmts d.body, d.scope, mainGlobals, builtinsNs) := e
      simp only [Option.some.injEq, Prod.mk.injEq] at e2
      obtain ⟨h1, h2, h3, h4, h5, h6, h8⟩ := e2
      subst h1 h2 h3 h4 h5 h6 h8
      rw [hs] at c2
      obtain ⟨k1, k2⟩ := ba c2
      obtain ⟨k3, k4⟩ := ba k2
      unfold cloB at k4
      cases n7 with
      | nil => cases k4
      | cons a r =>
        cases r with
        | cons _ _ => cases k4
        | nil =>
          obtain ⟨x, cc⟩ := a
          obtain ⟨j1, j2⟩ := ba k4
          obtain ⟨j3, j4⟩ := ba j2
          obtain ⟨j5, j6⟩ := ba j4
          have ex : x = "__class__" := of_decide_eq_true j1
          subst ex
          cases n8 with
          | none =>
           cases n13 with
           | ref cda =>
            have j5' : (match K.lookup cda with | some ⟨_, _, .fields vs, _⟩ => strB P.main.file vs[2]? | _ => false) = true := j5
            refine ⟨_, ⟨oc, od, n9, n10, n11, n12, cda, n14, osl, cc, rfl, q, k1, ?_, ?_⟩, kp, Option.isSome_iff_exists.mp j6, t1, t2, hp⟩
            · split at j3
              · rename_i hc
                have ed := of_decide_eq_true j3
                subst ed
                exact ⟨_, _, _, hc⟩
              · cases j3
            · split at j5'
              · rename_i hc
                obtain ⟨f, t, hv, hf⟩ := strB_ok j5'
                exact ⟨_, _, _, _, _, _, hc, hv, hf⟩
              · cases j5'
           | _ => cases k1
          | _ => cases k3
    | _ => cases c2
/-! ### the Hook -/
def asM (g : Addr → Option Obj) : Nat → List Addr
  | 0 => [mainGlobals, cStatics]
  | n + 1 => growD g (asM g n)
abbrev AlM : Type := Bool × List FnM
def obsM (file : Str) (fa : List Fm) (fn : List DefM) (K : PySem.W.Frag) : AlM := ((fa.all fun f => f.ok K) && fn.all fun d => d.ok K file, fn.map fun d => fnM K (d.at_.a K))
def valM (fn : List DefM) : AlM := (true, fn.map DefM.val)
def SaysM (file : Str) (fa : List Fm) (fn : List DefM) (K : PySem.W.Frag) : Prop := obsM file fa fn K = valM fn
def obsMG (n : Nat) (file : Str) (fa : List Fm) (fn : List DefM) (g : Addr → Option Obj) : AlM := obsM file fa fn (frG g (asM g n))
def hookM (n : Nat) (file : Str) (fa : List Fm) (fn : List DefM) : PySem.W.Hook where
  α := AlM
  obs := fun s => obsMG n file fa fn s.heap.get?
  val := fun _ => valM fn
  says := fun _ h => ∃ K : PySem.W.Frag, K.In h ∧ SaysM file fa fn K
  of := fun _ _ e => ⟨_, frG_in, e⟩
  keeps := fun _ _ _ ⟨K, hK, c⟩ k => ⟨K, PySem.W.Frag.In.keeps hK k, c⟩
theorem obsMG_eq {n : Nat} {file : Str} {fa : List Fm} {fn : List DefM} {g : Addr → Option Obj} {s : Shared} (h : ∀ a, g a = s.heap.get? a) : obsMG n file fa fn g = (hookM n file fa fn).obs s := by
  have e : g = s.heap.get? := funext h
  rw [e] <;> rfl
section
variable {file : Str} {fa : List Fm} {fn : List DefM} {K : PySem.W.Frag}
theorem SaysM.fact (c : SaysM file fa fn K) {f : Fm} (i : Nat) (h : fa[i]? = some f) : f.ok K = true := by
  have c1 := (ba (show ((fa.all fun f => f.ok K) && fn.all fun d => d.ok K file) = true from congrArg (fun z : AlM => z.1) c)).1
  exact List.all_eq_true.mp c1 f (List.mem_of_getElem? h)
theorem SaysM.def_ (c : SaysM file fa fn K) (i : Nat) {d : DefM} (h : fn[i]? = some d) : fnM K (d.at_.a K) = d.val ∧ d.ok K file = true := by
  have c2 := (ba (show ((fa.all fun f => f.ok K) && fn.all fun d => d.ok K file) = true from congrArg (fun z : AlM => z.1) c)).2
  have e : fn.map (fun d => fnM K (d.at_.a K)) = fn.map DefM.val := congrArg (fun z : AlM => z.2) c
  have e2 : (fn.map fun d => fnM K (d.at_.a K))[i]? = (fn.map DefM.val)[i]? := by rw [e]
  rw [List.getElem?_map, List.getElem?_map, h] at e2
  exact ⟨Option.some.inj e2, List.all_eq_true.mp c2 d (List.mem_of_getElem? h)⟩
end
end Lx
set_option Elab.async false
set_option linter.all false
set_option maxRecDepth 100000
set_option maxHeartbeats 4000000
/-! Lx13: the pen made, the law's def; promises packed; calls by names. -/
namespace Lx
open PySem PySem.Spec L2 PyProof.Rows He
/-! ### the pen -/
abbrev rLst1 (K : PySem.W.Frag) : List V → Hp → VK → Prop := fun xs H Q => ∃ p ys, xs = [.ref p] ∧ (SqL K H p ys ∨ SqT K H p ys) ∧ ∀ l, H l = none → Q (.ref l) (upd H l (.lst ys))
def t_pen (K : PySem.W.Frag) : TS := tRet (tDisp [(kk "cells", tCB (rLst1 K) (tCons (L2.tSl (rSlU K) (tVar 0) tNoPart (tPart (tC (.int 63)))) tNil)), (kk "turn", tC (.int 0)), (kk "left", tC (.int 0))])
/-- the pen's promise -/
def spPen (K : PySem.W.Frag) : Sp := fun vs H Q _ => ∃ (a : Addr) (ns : List Int), vs = [.ref a] ∧ SqL K H a (ns.map V.int) ∧
  ∀ (p l : Addr) (cs : List Int) (H' : Hp), H p = none → H l = none → cs.length ≤ 63 → (∀ b o, H b = some o → H' b = some o) → H' p = some (.dK (penKvs l 0 0)) → H' l = some (.lst (cs.map V.int)) → l ≠ p → Q (.ref p) H'
theorem spPen.len {K : PySem.W.Frag} (vs : List V) (H : Hp) (Q : VK) (E : XK) (h : spPen K vs H Q E) : vs.length = 1 := by
  obtain ⟨_, _, rfl, _⟩ := h
  rfl
theorem cut_ints (ns : List Int) : ∃ cs : List Int, cs.length ≤ 63 ∧ cutV (ns.map V.int) none (some 63) = cs.map V.int := by
  unfold cutV
  refine ⟨(ns.drop (HT.sIx (ns.map V.int).length 0 none)).take (HT.sIx (ns.map V.int).length (ns.map V.int).length (some 63) - HT.sIx (ns.map V.int).length 0 none), ?_, ?_⟩
  · rw [List.length_take]
    refine Nat.le_trans (Nat.min_le_left _ _) (Nat.le_trans (Nat.sub_le _ _) ?_)
    show HT.sIx _ _ (some 63) ≤ 63
    unfold HT.sIx
    simp only
    split
    · omega
    · exact Nat.min_le_left _ _
  · rw [List.map_take, List.map_drop]
theorem pen_pure {K : PySem.W.Frag} {N : List Str} {vs : List V} {H : Hp} {Q : VK} {E : XK} (h : spPen K vs H Q E) : t_pen K { nx := fun _ H' => Q .non H', rt := Q } (L2.start N vs) H := by
  obtain ⟨a, ns, rfl, hs, q⟩ := h
  obtain ⟨cs, hcs, ecs⟩ := cut_ints ns
  intro p hp
  have s1 : SqL K (upd H p (.dK [])) a (ns.map V.int) := Le.sqL (Le.up hp) hs
  refine ⟨.ref a, rfl, ⟨63, rfl, .inr (.inl ⟨a, _, rfl, s1, fun b hb => ?_⟩)⟩⟩
  rw [ecs]
  refine ⟨b, _, rfl, .inl (SqL.of upd_same), fun l hl => ?_⟩
  have hbp : b ≠ p := fun z => by rw [z, upd_same] at hb; cases hb
  have hlb : l ≠ b := fun z => by rw [z, upd_same] at hl; cases hl
  have hlp : l ≠ p := fun z => by rw [z, upd_ne hbp.symm, upd_same] at hl; cases hl
  have hb0 : H b = none := by rw [upd_ne hbp] at hb; exact hb
  have hl0 : H l = none := by rw [upd_ne hlb, upd_ne hlp] at hl; exact hl
  refine ⟨by rw [upd_ne hlp.symm, upd_ne hbp.symm, upd_same], penKvs l 0 0, rfl, (show 3 ≤ 15 by decide), ?_⟩
  refine q p l cs _ hp hl0 hcs (fun c o e => ?_) upd_same (by rw [upd_ne hlp, upd_same]) hlp
  rw [upd_ne (ne_of_none e hp), upd_ne (ne_of_none e hl0), upd_ne (ne_of_none e hb0), upd_ne (ne_of_none e hp)]
  exact e
/-! ### promises, packed -/
structure Fk (P : Program) (w : World) (K : PySem.W.Frag) (mg : Str → Option Value) (base : Heap) (k : Nat) (f : Addr) (sp : Sp) : Prop where
  ex : ∃ fd ps, FnOk P w K mg base CX0 k f fd ps sp ∧ Binds K fd ps [] ∧ PySem.W.keepIn K (.ref f) = true
/-- a method that may be called by its parameters' names ks -/
structure Fkw (P : Program) (w : World) (K : PySem.W.Frag) (mg : Str → Option Value) (base : Heap) (k : Nat) (f : Addr) (ks : List Str) (sp : Sp) : Prop where
  ex : ∃ fd ps, FnOk P w K mg base CX0 k f fd ps sp ∧ (∀ (s : Shared) (u : Value) (ws : List Value), ws.length = ks.length → BindsTo s fd ⟨[u], ks.zip ws⟩ (ps.zip (u :: ws))) ∧ PySem.W.keepIn K (.ref f) = true ∧ ps.length = ks.length + 1
theorem FnOk.up {P : Program} {w : World} {K : PySem.W.Frag} {mg : Str → Option Value} {base : Heap} {CX : CXT} {j k : Nat} {f : Addr} {fd : FuncData} {ps : List Str} {sp : Sp} (F : FnOk P w K mg base CX j f fd ps sp) (h : j ≤ k) : FnOk P w K mg base CX k f fd ps sp :=
  ⟨F.len, fun A outer s H args us vs Q E hr => F.run A outer s H args us vs Q E (hr.mono h)⟩
section
variable {P : Program} {w : World} {K : PySem.W.Frag} {mg : Str → Option Value} {base : Heap} {k : Nat} {f : Addr} {sp sq : Sp}
theorem Fk.imp (F : Fk P w K mg base k f sp) (h : ∀ vs H Q E, sq vs H Q E → sp vs H Q E) : Fk P w K mg base k f sq := by
  obtain ⟨fd, ps, G, r⟩ := F.ex
  exact ⟨fd, ps, G.imp h, r⟩
theorem Fkw.imp {ks : List Str} (F : Fkw P w K mg base k f ks sp) (h : ∀ vs H Q E, sq vs H Q E → sp vs H Q E) : Fkw P w K mg base k f ks sq := by
  obtain ⟨fd, ps, G, r⟩ := F.ex
  exact ⟨fd, ps, G.imp h, r⟩
theorem Fk.up {j : Nat} (F : Fk P w K mg base k f sp) (h : k ≤ j) : Fk P w K mg base j f sp := by
  obtain ⟨fd, ps, G, r⟩ := F.ex
  exact ⟨fd, ps, FnOk.up G h, r⟩
theorem Fkw.up {ks : List Str} {j : Nat} (F : Fkw P w K mg base k f ks sp) (h : k ≤ j) : Fkw P w K mg base j f ks sp := by
  obtain ⟨fd, ps, G, r⟩ := F.ex
  exact ⟨fd, ps, FnOk.up G h, r⟩
/-- nothing is promised: it stands at every depth -/
theorem FnOk.none {CX : CXT} {fd : FuncData} {ps : List Str} (h : ∀ vs H Q E, ¬ sp vs H Q E) : FnOk P w K mg base CX k f fd ps sp :=
  ⟨fun vs H Q E q => absurd q (h _ _ _ _), fun A outer s H args us vs Q E _ _ _ _ q => absurd q (h _ _ _ _)⟩
end
section
variable {X : Cx} {k : Nat} {f : Addr} {sp : Sp} {x m : Str} {p pos apos : Pos} {e o : Expr} {es : List Expr} {t : TA} {ta : TE}
theorem pe_fk (F : Fk X.prog X.w X.K X.mg X.base k f sp) (hr : Room k X.A) (hg : Gl X x) (hm : X.mg x = some (.ref f)) (ha : PA X (e :: es) t)
    (hdb : (x == ("__debug__" : Str)) = false := by decide) (he : starEach (e :: es) X.env = (false, eval e X.env) :: starEach es X.env := by rfl) (hpl : (backTo pos (starEach es X.env)).any (·.1) = false := by rfl) :
    PE X (.Call (.Name x p) (e :: es) [] pos) (tCall sp [] E0 t) := by
  obtain ⟨fd, ps, G, hb, hk⟩ := F.ex
  exact pe_call G hr hg hm hk hb .nil pass0 ha hdb he hpl
theorem pe_fk0 (F : Fk X.prog X.w X.K X.mg X.base k f sp) (hr : Room k X.A) (hg : Gl X x) (hm : X.mg x = some (.ref f)) (hdb : (x == ("__debug__" : Str)) = false := by decide) : PE X (.Call (.Name x p) [] [] pos) (tCall sp [] E0 tNil) := by
  obtain ⟨fd, ps, G, hb, hk⟩ := F.ex
  exact pe_call0 G hr hg hm hk hb .nil pass0 hdb
theorem FunD.kwB {K : PySem.W.Frag} {x qual : Str} {params : Arguments} {body : List Stmt} {scope : Scope} {kws : List (Str × V)} {f : Addr} {fd : FuncData} {ps ks : List Str} (F : FunD K x qual params body scope [] kws f fd)
    (h : ∀ (kV doc pm : Value) (an : Option Addr) (cdv ct : Value) (u : Value) (ws : List Value), ws.length = ks.length → bindArgs (PySem.W.fnOf x qual params body scope .none kV doc pm an cdv ct) ⟨[u], ks.zip ws⟩ = pure (ps.zip (u :: ws))) (s : Shared) (u : Value) (ws : List Value) (hl : ws.length = ks.length) : BindsTo s fd ⟨[u], ks.zip ws⟩ (ps.zip (u :: ws)) := by
  obtain ⟨oc, od, dV, kV, doc, pm, an, cdv, ct, osl, rfl, lk, hcd, hD, hK⟩ := F.ex
  rcases hD with ⟨_, rfl⟩ | ⟨e, _⟩
  · exact .of_eq (h kV doc pm an cdv ct u ws hl)
  · exact absurd rfl e
/-- an object made -/
theorem pe_mk {C : Addr} (M : Mk X.K C f) (F : Fk X.prog X.w X.K X.mg X.base k f sp) (hr : Room (k + 1) X.A) (hg : Gl X x) (hm : X.mg x = some (.ref C)) (ha : PA X (e :: es) t)
    (hdb : (x == ("__debug__" : Str)) = false := by decide) (he : starEach (e :: es) X.env = (false, eval e X.env) :: starEach es X.env := by rfl) (hpl : (backTo pos (starEach es X.env)).any (·.1) = false := by rfl) :
    PE X (.Call (.Name x p) (e :: es) [] pos) (tMake C sp [] E0 t) := by
  obtain ⟨fd, ps, G, hb, hk⟩ := F.ex
  exact pe_make M G hr hg hm hb .nil pass0 ha hdb he hpl
theorem ment {n j : Nat} {c : Str} {g : List D → W D} (hC : Cls X.K (ga X.K c)) (hm : Meth X.K (ga X.K c) m f) (F : Fk X.prog X.w X.K X.mg X.base k f (Pr X.K (n + 1) g)) (hr : Room k X.A) : MEnt X m n c g := by
  obtain ⟨fd, ps, G, hb, hk⟩ := F.ex
  exact ⟨CX0, k, f, fd, ps, hC, hm, G, hr, hb, pass0⟩
theorem pent {c : Str} {p : Addr} {g : List D → W D} (hC : Cls X.K (ga X.K c)) (hm : PropOf X.K (ga X.K c) m p f) (F : Fk X.prog X.w X.K X.mg X.base k f (Pr X.K 1 g)) (hr : Room (k + 1) X.A) : PEnt X m c g := by
  obtain ⟨fd, ps, G, hb, hk⟩ := F.ex
  exact ⟨CX0, k, p, f, fd, ps, hC, hm, G, hr, hb, pass0⟩
/-- by names -/
structure MEntK (X : Cx) (m : Str) (n : Nat) (ks : List Str) (c : Str) (g : List D → W D) : Prop where
  ex : ∃ (k : Nat) (f : Addr), Cls X.K (ga X.K c) ∧ Meth X.K (ga X.K c) m f ∧ Fkw X.prog X.w X.K X.mg X.base k f ks (Pr X.K (n + 1) g) ∧ Room k X.A
inductive MTabK (X : Cx) (m : Str) (n : Nat) (ks : List Str) : Tb → Prop
  | nil : MTabK X m n ks []
  | cons {c : Str} {g : List D → W D} {tb : Tb} : MEntK X m n ks c g → MTabK X m n ks tb → MTabK X m n ks ((c, g) :: tb)
theorem MTabK.get {n : Nat} {ks : List Str} {c : Str} {g : List D → W D} : ∀ {tb : Tb}, MTabK X m n ks tb → tb.lookup c = some g → MEntK X m n ks c g
  | _, .nil, h => by cases h
  | _, .cons (c := d) a r, h => by
    rw [List.lookup_cons] at h
    cases q : (c == d) with
    | true => rw [q] at h; cases h; rw [eq_of_beq q]; exact a
    | false => rw [q] at h; exact r.get h
theorem pe_methUK {n : Nat} {ks : List Str} {tb : Tb} {kws : List Keyword} {pl : Sem Bool} (T : MTabK X m n ks tb) (he : PE X o ta) (ha : PK X kws t)
    (hall : (backToKw pos (keywordEach kws X.env)).all (·.1.isSome) = true := by rfl) (hks : (backToKw pos (keywordEach kws X.env)).filterMap (·.1) = ks := by rfl)
    (hpl : ((backTo pos (starEach [] X.env)).any (·.1) || (backToKw pos (keywordEach kws X.env)).any (·.1.isNone)) = false := by rfl)
    (ht : eval (.Call (.Attribute o m apos) [] kws pos) X.env = (do
      let ov ← eval o X.env
      standAt apos.atName
      let (f, first) ← holding [ov] (getMethod ov m pl)
      callWith pos f first (backTo pos (starEach [] X.env)) (backToKw pos (keywordEach kws X.env))) := by rfl) : PE X (.Call (.Attribute o m apos) [] kws pos) (tMethU X.K m n tb ta t) := by
  refine ⟨fun pins s σ H Q I h => ?_⟩
  refine PySem.W.methodCall_KW (pl := pl) (thn (he.run pins s σ H _ I h) fun u s1 ⟨x, H1, I1, rx, a, c, dx, fs, g, ex, ea, l, eg, q⟩ => ?_) ht
  subst ex
  obtain rfl : u = Value.ref a := rx
  obtain ⟨k, f, hC, hm, F, hr⟩ := (T.get eg).ex
  obtain ⟨fd, ps, G, hb, hk, hpl2⟩ := F.ex
  refine getmeth_ok I1 ea hC hm l ?_
  refine PySem.W.callWith_KW0 (first := [.ref a]) (h₀ := X.base) I.ok.mod.kin hm.kp hall ?_ hpl
  refine thn (ha.run pos pins s1 σ H1 _ I1 q) fun ws s2 ⟨zs, H2, I2, rz, q2⟩ => ⟨I2.kIn, ?_⟩
  rw [hks]
  have hz : (V.ref a :: zs).length = ps.length := G.len _ _ _ _ q2
  have hw : ws.length = ks.length := by
    rw [← rz.length]
    rw [List.length_cons, hpl2] at hz
    omega
  refine wpAny_call (codeAny_mono (G.run X.A X.stack s2 H2 ⟨[.ref a], ks.zip ws⟩ (.ref a :: ws) (.ref a :: zs) Q E0 hr I2.env0 (hb s2 (.ref a) ws hw) (.cons rfl rz) q2) fun r s' hq => ?_)
  cases r with
  | error e => exact (pass0 (X := X)) pins σ H2 s2 e s' I2 hq
  | ok fl =>
    cases fl with
    | ret u => exact I2.after hq
    | next => exact False.elim hq
    | brk => exact False.elim hq
    | cont => exact False.elim hq
end
/-! ### a, b = x, y -/
@[reducible] def dPar (i j : Nat) (f : List Sl → W (List D)) : List Sl → W Out := fun δ => (f δ).bind fun ds => match ds with
  | [x, y] => W.ret (.nx ((δ.set i (.val x)).set j (.val y)))
  | _ => W.stuck
theorem ls_par {K : PySem.W.Frag} {i j : Nat} {t : TA} {f : List Sl → W (List D)} (ha : LA K t f) : LS K (tPar i j t) (dPar i j f) := fun pn F0 H0 F H n σ δ E k o s q => by
  refine ha pn H0 F H n σ δ _ o s ((f δ).mono (fun m ds p => ?_) (fun _ _ z => z) q)
  intro vs F1 H1 k1 o1 r1
  match ds, r1, p with
  | [x, y], r1, p =>
    obtain ⟨v, w, rfl, rv, rw_⟩ := r1.two
    exact ⟨v, w, rfl, p _ F1 H1 k1.sub (k.trans k1 o1.fpn) o1 (((s.go k1).set rv).set rw_)⟩
/-! ### is of bools -/
@[reducible] def isBD : D → D → W D
  | .bl a, .bl b => W.ret (.bl (decide (a = b)))
  | _, _ => W.stuck
theorem lo_isB {K : PySem.W.Frag} : LO2 K rIsB isBD := fun pn F H n v w x y Q o rx ry h => by
  cases rx with
  | bl i => cases ry with
    | bl j => exact ⟨i, j, rfl, rfl, h _ F H (Go.refl ..) o (.bl _)⟩
    | _ => exact h.elim
  | _ => exact h.elim
/-! ### the law's def -/
def spLaw (K : PySem.W.Frag) : Sp := fun vs H Q _ => ∃ (a : Addr) (ns : List Int), vs = [.ref a] ∧ SqL K H a (ns.map V.int) ∧ ∀ H', Q (.bl true) H'
theorem law_lx {P : Program} {w : World} {K : PySem.W.Frag} {mg : Str → Option Value} {base : Heap} {x qual : Str} {params : Arguments} {body : List Stmt} {scope : Scope} {f : Addr} {fd : FuncData} {N ps : List Str} {k r : Nat} {t : TS} {b : List Sl → W Out}
    (F : FunD K x qual params body scope [] [] f fd) (S : FnScope N ps scope) (hps : ps.length = 1) (hN : N.length = r + 2) (hl : LS K t b)
    (hb : ∀ (cdv : Value) (A : Around) (outer : List Env) (s : Shared) (H : Hp) (E : XK), (A.deeper (envOfC qual scope s.heap.objs.size f cdv)).guards = some [] → Room k (A.deeper (envOfC qual scope s.heap.objs.size f cdv)) →
      PSs (cxOf CX0 P w K mg base N qual scope f cdv A outer s H E).nox body (tSeq (tAsg (tCall (spPen K) [] E0 (tCons (tVar 0) tNil)) (gName 1)) t))
    (hw : ∀ ns : List Int, (b (.val (.sct ns) :: .val .pen :: List.replicate r .un)).wp (2 ^ 60) (fun _ o => o = .rt (.bl true)) noX) : FnG P w K mg base CX0 (k + 1) f fd ps (spLaw K) := by
  refine fnG_of F S (fun vs H Q E h => by obtain ⟨_, _, rfl, _⟩ := h; exact hps.symm) fun cdv A outer s H vs Q E hg hr h => ⟨_, (hb cdv A outer s H E hg hr).nox, ?_⟩
  obtain ⟨a, ns, rfl, hs, q⟩ := h
  have est : L2.start N [V.ref a] = some (.ref a) :: none :: List.replicate r none := by
    unfold L2.start
    rw [hN]
    rfl
  rw [est]
  refine ⟨.ref a, rfl, a, ns, rfl, hs, fun p l cs H' hp hl0 hcs hk hp' hl' hlp => ?_⟩
  have lF : Le (upd H l (.lst (cs.map V.int))) H' := fun c o e => by
    by_cases hc : c = l
    · subst hc; rw [upd_same] at e; cases e; exact hl'
    · rw [upd_ne hc] at e; exact hk c o e
  have ok : Ok K p (upd H l (.lst (cs.map V.int))) H' (2 ^ 60) := ⟨lF, by rw [upd_ne hlp.symm]; exact hp, l, cs, 0, 0, hp', SqL.of upd_same, hcs, by decide, by decide, by decide⟩
  have slo : Slo K p H' (upd H l (.lst (cs.map V.int))) H' (some (.ref a) :: some (.ref p) :: List.replicate r none) (.val (.sct ns) :: .val .pen :: List.replicate r .un) := by
    have un : ∀ (i : Nat) (x : Sl), (List.replicate r Sl.un)[i]? = some x → x = .un := fun i x e => by
      rw [List.getElem?_replicate] at e
      split at e
      · cases e; rfl
      · cases e
    refine ⟨by simp, fun i d e => ?_, fun _ => 0, fun i xs e => ?_, fun i j xs ys e => ?_⟩
    · match i, e with
      | 0, e => cases e; exact ⟨_, rfl, .sct (Le.sqL (Le.up hl0) hs)⟩
      | 1, e => cases e; exact ⟨_, rfl, .pen⟩
      | i + 2, e => cases un i _ e
    · match i, e with
      | 0, e => cases e
      | 1, e => cases e
      | i + 2, e => cases un i _ e
    · match i, e with
      | 0, e => cases e
      | 1, e => cases e
      | i + 2, e => cases un i _ e
  refine hl p _ H' _ H' _ _ _ _ (Go.refl ..) ok slo ((b _).mono (fun n o z => ?_) (fun _ _ z => z) (hw ns))
  subst z
  intro v F1 H1 _ _ r1
  cases r1
  exact q H1
end Lx
set_option Elab.async false
set_option linter.all false
set_option maxRecDepth 100000
set_option maxHeartbeats 4000000
/-! Lx14: texts walked, global constants, tables by promises, replace of written texts. -/
namespace Lx
open PySem PySem.Spec L2 PyProof.Rows He CwR
/-! ### a text walked -/
@[reducible] def dIS (f : List Sl → W D) : List Sl → W (List D) := fun δ => (f δ).bind fun d => match d with | .str x => W.ret (x.cps.toList.map fun c => .str ⟨#[c]⟩) | _ => W.stuck
theorem li_str {K : PySem.W.Frag} {te : TE} {f : List Sl → W D} (he : LE K te f) : LI K (iStr te) (dIS f) := fun pn H0 F H n σ δ R o s h => by
  refine he pn H0 F H n σ δ _ o s ((f δ).mono (fun m d p => ?_) (fun _ _ z => z) h)
  intro v F1 H1 k1 o1 r1
  cases r1 with
  | str x =>
    refine ⟨x, rfl, p _ F1 H1 k1 o1 fun i F2 H2 n2 l2 o2 => ⟨fun d hd => ?_, fun hl => ?_⟩⟩
    · rw [List.getElem?_map] at hd
      cases e : x.cps.toList[i]? with
      | none => rw [e] at hd; cases hd
      | some c =>
        rw [e] at hd; cases hd
        have e2 : x.cps[i]? = some c := by simpa using e
        refine ⟨(Array.getElem?_eq_some_iff.mp e2).1, fun y H3 hy => ?_⟩
        obtain ⟨rfl, c', hc', rfl⟩ := hy
        rw [e2] at hc'; cases hc'
        exact ⟨F2, Go.refl .., o2, .str _⟩
    · show x.cps.size ≤ i
      simpa using hl
  | _ => exact p.elim
/-! ### constants of the module -/
section
variable {X : Cx}
theorem pe_gi {x : Str} {i : Int} {pos : Pos} (h : ∃ t, X.mg x = some (.int i t)) (hg : Gl X x) (hd : (x == ("__debug__" : Str)) = false := by decide) : PE X (.Name x pos) (tC (.int i)) := by
  obtain ⟨t, e⟩ := h
  exact pe_glob hg e ⟨t, rfl⟩ hd
theorem pe_gs {x z : Str} {pos : Pos} (h : ∃ t, X.mg x = some (.str z t)) (hg : Gl X x) (hd : (x == ("__debug__" : Str)) = false := by decide) : PE X (.Name x pos) (tC (.str z)) := by
  obtain ⟨t, e⟩ := h
  exact pe_glob hg e ⟨t, rfl⟩ hd
end
/-! ### tables by promises -/
section
variable (P : Program) (w : World) (K : PySem.W.Frag) (mg : Str → Option Value) (base : Heap)
inductive TabK (k : Nat) (m : Str) (n : Nat) : Tb → Prop
  | nil : TabK k m n []
  | cons {c : Str} {g : List D → W D} {tb : Tb} {f : Addr} : Cls K (ga K c) → Meth K (ga K c) m f → Fk P w K mg base k f (Pr K (n + 1) g) → TabK k m n tb → TabK k m n ((c, g) :: tb)
inductive TabN (k : Nat) (m : Str) (n : Nat) (ks : List Str) : Tb → Prop
  | nil : TabN k m n ks []
  | cons {c : Str} {g : List D → W D} {tb : Tb} {f : Addr} : Cls K (ga K c) → Meth K (ga K c) m f → Fkw P w K mg base k f ks (Pr K (n + 1) g) → TabN k m n ks tb → TabN k m n ks ((c, g) :: tb)
inductive TabP (k : Nat) (x : Str) : Tb → Prop
  | nil : TabP k x []
  | cons {c : Str} {g : List D → W D} {tb : Tb} {p f : Addr} : Cls K (ga K c) → PropOf K (ga K c) x p f → Fk P w K mg base k f (Pr K 1 g) → TabP k x tb → TabP k x ((c, g) :: tb)
end
section
variable {X : Cx} {k n : Nat} {m : Str} {tb : Tb}
theorem TabK.mt (T : TabK X.prog X.w X.K X.mg X.base k m n tb) (hr : Room k X.A) : MTab X m n tb := by
  induction T with
  | nil => exact .nil
  | cons a b c _ ih => exact .cons (ment (j := 0) a b c hr) ih
theorem TabN.mt {ks : List Str} (T : TabN X.prog X.w X.K X.mg X.base k m n ks tb) (hr : Room k X.A) : MTabK X m n ks tb := by
  induction T with
  | nil => exact .nil
  | cons a b c _ ih => exact .cons ⟨_, _, a, b, c, hr⟩ ih
theorem TabP.pt (T : TabP X.prog X.w X.K X.mg X.base k m tb) (hr : Room (k + 1) X.A) : PTab X m tb := by
  induction T with
  | nil => exact .nil
  | cons a b c _ ih => exact .cons (pent a b c hr) ih
end
/-! ### g().replace(y, z) of written texts, g a def that tells a written text -/
theorem fn_const {P : Program} {w : World} {K : PySem.W.Frag} {mg : Str → Option Value} {base : Heap} {x qual : Str} {params : Arguments} {scope : Scope} {f : Addr} {fd : FuncData} {N : List Str} {k j : Nat} {c : Str} {p1 p2 : Pos}
    (F : FunD K x qual params [.Return (some (.Constant (.str c) j p1)) p2] scope [] [] f fd) (S : FnScope N [] scope) {A : Around} {outer : List Env} {s : Shared} {H : Hp} (hr : Room (k + 1) A) (he : Env0 P w K mg base A outer s H) (hb : Binds K fd [] []) :
    codeAny (model P w) A (.call (.ref f) ⟨[], []⟩) (fun r s' => CR CX0 outer P w H s (fun v H' => v = .str c ∧ H' = H) E0 r s' ∧ 1 ≤ s'.toks) s := by
  obtain ⟨oc, od, dV, kV, doc, pm, an, cdv, ct, osl, rfl, lk, hcd, _, _⟩ := F.ex
  have st : ∀ b o, base.get? b = some o → s.heap.get? b = some o := fun b o e => (he.bs b o e).1
  have KX : K.In s.heap := he.mod.kin.keeps st
  refine codeAny_call_function hr.depth (KX _ _ lk) rfl S.co S.gen rfl (PySem.W.codeRec_of KX hcd) (hb s [] KX rfl _ _ _ _ (wpAny_newFunctionEnv_cells S.kind (fun y hy => by cases hy) fun env ee s1 ic => ?_))
  subst ee
  refine ⟨(he.mod.nolimit.keeps st).keeps ic.toInCall.keep, codeAny_func ?_⟩
  have I : Inv (cxOf CX0 P w K mg base N qual scope f cdv A outer s H E0) [] (L2.start N []) H s1 := inv_start (us := []) (vs := []) (ps := []) S hr.hd he rfl .nil ic
  refine wpAny_execs_cons (wpAny_Return_some (Calls.Constant_str ?_))
  have J := I.tok (s1.toks + 1)
  exact ⟨⟨.str c, H, J.os, J.bare, J.base, J.hok, ⟨_, rfl⟩, rfl, rfl⟩, Nat.succ_le_succ (Nat.zero_le _)⟩
section
variable {X : Cx}
theorem pe_crepl {x qual : Str} {params : Arguments} {scope : Scope} {f : Addr} {fd : FuncData} {N : List Str} {k j j2 j3 : Nat} {c y z g r : Str} {p1 p2 p3 p4 c0 c1 apos pos : Pos}
    (F : FunD X.K x qual params [.Return (some (.Constant (.str c) j p1)) p2] scope [] [] f fd) (S : FnScope N [] scope) (hb : Binds X.K fd [] []) (hr : Room (k + 1) X.A) (hg : Gl X g) (hm : X.mg g = some (.ref f))
    (hyz : (y == z) = false) (hz : c.length + (c.length + 1) * z.length ≤ 16777216) (he : Txt.replace c y z = r) (hdb : (g == ("__debug__" : Str)) = false := by decide)
    (hst : starEach [.Constant (.str y) j2 c0, .Constant (.str z) j3 c1] X.env = [(false, eval (.Constant (.str y) j2 c0) X.env), (false, eval (.Constant (.str z) j3 c1) X.env)] := by rfl)
    (hbase : attributeBase (.Call (.Name g p3) [] [] p4) "replace" X.env (eval (.Call (.Name g p3) [] [] p4) X.env) = eval (.Call (.Name g p3) [] [] p4) X.env := by rfl) (hline : (apos.endLine == pos.line) = true := by rfl) :
    PE X (.Call (.Attribute (.Call (.Name g p3) [] [] p4) "replace" apos) [.Constant (.str y) j2 c0, .Constant (.str z) j3 c1] [] pos) (tC (.str r)) := by
  refine ⟨fun pins s σ H Q I h => ?_⟩
  refine PySem.Call_method2 hbase hst hline ?_
  refine wpAny_Call_Name_kw (ld_glob I hg hm ?_ hdb)
  refine PySem.W.callWith_K0 I.kIn F.kp ?_
  refine wpAny_call (codeAny_mono (fn_const F S hr I.env0 hb) fun rr s1 h2 => ?_)
  obtain ⟨h2, h3⟩ := h2
  cases rr with
  | error e => exact h2.elim
  | ok fl => cases fl with
    | next => exact False.elim h2
    | brk => exact False.elim h2
    | cont => exact False.elim h2
    | ret u =>
      obtain ⟨v, H1, I1, rv, ev, eh⟩ := I.after h2
      subst ev eh
      obtain ⟨tx, rfl⟩ := rv
      refine ⟨"str", _, PySem.F.plainAttrs_str, PySem.F.slot_str_replace, PySem.F.type_str_replace, typeIs_str _ _ _, (fun _ e => nomatch e), Calls.callWith_builtin rfl (Calls.evalArgs_plain (Calls.spliced_cons ?_))⟩
      refine Calls.Constant_str (Calls.spliced_cons (Calls.Constant_str (Calls.spliced_nil ?_)))
      exact PySem.SC.replace (by show s1.toks ≠ 0; omega) (by show s1.toks + 1 ≠ 0; omega) (by show s1.toks ≠ s1.toks + 1; omega) hyz hz fun t' k => ⟨.str r, _, I1.tok k, ⟨t', by rw [he]⟩, h⟩
end
end Lx
set_option Elab.async false
set_option linter.all false
set_option maxRecDepth 100000
set_option maxHeartbeats 4000000
/-! Lx15: what a mirror tells: Rt (it gives just this, no draw), Tm (at most B draws, any answer with Q). -/
namespace Lx
open PySem L2
def Rt {A : Type} (m : W A) (a : A) : Prop := ∀ (n : Nat) (Q : Nat → A → Prop) (E : Nat → Xn → Prop), Q n a → m.wp n Q E
def Tm {A : Type} (B : Nat) (m : W A) (Q : A → Prop) : Prop := ∀ (n : Nat) (E : Nat → Xn → Prop), B ≤ n → m.wp n (fun k a => n ≤ k + B ∧ Q a) E
section
variable {A C : Type} {m : W A} {a : A} {f : A → W C} {b : C} {B B1 B2 : Nat} {Q : A → Prop} {R : C → Prop}
theorem Rt.ret : Rt (W.ret a) a := fun _ _ _ q => q
theorem Rt.bind (h : Rt m a) (g : Rt (f a) b) : Rt (m.bind f) b := fun n Q E q => h n _ E (g n Q E q)
theorem Rt.need {c : Prop} (h : c) (g : Rt m a) : Rt (W.need c m) a := fun n Q E q => ⟨h, g n Q E q⟩
theorem Rt.cast {a' : A} (h : Rt m a) (e : a = a') : Rt m a' := e ▸ h
theorem Tm.ret (h : Q a) : Tm B (W.ret a) Q := fun n E _ => ⟨Nat.le_add_right _ _, h⟩
theorem Tm.of (h : Rt m a) (q : Q a) : Tm B m Q := fun n E _ => h n _ E ⟨Nat.le_add_right _ _, q⟩
theorem Tm.bind (h : Tm B1 m Q) (g : ∀ a, Q a → Tm B2 (f a) R) (hb : B1 + B2 ≤ B) : Tm B (m.bind f) R := fun n E hn =>
  m.mono (fun k a ⟨h1, h2⟩ => (f a).mono (fun j c ⟨h3, h4⟩ => ⟨by omega, h4⟩) (fun _ _ z => z) (g a h2 k E (by omega))) (fun _ _ z => z) (h n E (by omega))
theorem Tm.bindR (h : Rt m a) (g : Tm B (f a) R) : Tm B (m.bind f) R := fun n E hn => h n _ E (g n E hn)
theorem Tm.need {c : Prop} (h : c) (g : Tm B m Q) : Tm B (W.need c m) Q := fun n E hn => ⟨h, g n E hn⟩
theorem Tm.mono {Q' : A → Prop} (h : Tm B1 m Q) (hb : B1 ≤ B) (hq : ∀ a, Q a → Q' a) : Tm B m Q' := fun n E hn => m.mono (fun k a ⟨h1, h2⟩ => ⟨by omega, hq a h2⟩) (fun _ _ z => z) (h n E (by omega))
theorem Tm.any {P : A → Prop} : Tm 1 (W.any 1 P) P := fun n E hn => ⟨n - 1, by omega, fun a q => ⟨by omega, q⟩⟩
theorem Tm.wp (h : Tm B m Q) {n : Nat} {E : Nat → Xn → Prop} (hb : B ≤ n) : m.wp n (fun _ a => Q a) E := m.mono (fun k a z => z.2) (fun _ _ z => z) (h n E hb)
end
theorem draw_t {m : Int} (h0 : 0 < m) (h1 : m < 1073741824) : Tm 1 (drawD [.pen, .int m]) (fun d => ∃ i : Int, d = .int i ∧ 0 ≤ i ∧ i < m) := Tm.need ⟨h0, h1⟩ Tm.any
/-! ### objects made -/
section
variable {c : Str} {g : Addr → List (Str × D) → List D → W (List (Str × D))} {ds : List D} {gs : List (Str × D)} {δ : List Sl} {f : List Sl → W (List D)} {m : Nat}
theorem make_r (hf : Rt (f δ) ds) (hm : ds.length = m) (h : ∀ x, Rt (g x [] ds) gs) : Rt (dMake c m g f δ) (.obj c gs) := Rt.bind hf (Rt.need hm fun n Q E q x => h x n _ E q)
end
/-! ### comprehensions, loops -/
section
variable {i : Nat} {ft : List Sl → W Bool} {fe : List Sl → W D} {δ : List Sl}
theorem lcD_r {p : D → Bool} {g : D → D} : ∀ (ds : List D) (k : Nat), k + ds.length ≤ sizeLine → (∀ d ∈ ds, Rt (ft (δ.set i (.val d))) (p d)) → (∀ d ∈ ds, p d = true → Rt (fe (δ.set i (.val d))) (g d)) → Rt (lcD (dName i) ft fe δ ds k) ((ds.filter p).map g)
  | [], _, _, _, _ => Rt.ret
  | d :: ds, k, hk, h1, h2 => by
    have hk2 : k + 1 + ds.length ≤ sizeLine := by rw [List.length_cons] at hk; omega
    refine Rt.bind Rt.ret (Rt.bind (h1 d List.mem_cons_self) ?_)
    cases e : p d with
    | false =>
      rw [List.filter_cons_of_neg (by rw [e]; decide)]
      exact lcD_r ds k (by omega) (fun x hx => h1 x (List.mem_cons_of_mem _ hx)) fun x hx => h2 x (List.mem_cons_of_mem _ hx)
    | true =>
      rw [List.filter_cons_of_pos e, List.map_cons]
      refine Rt.bind (h2 d List.mem_cons_self e) (Rt.need (by omega) (Rt.bind (lcD_r ds (k + 1) hk2 (fun x hx => h1 x (List.mem_cons_of_mem _ hx)) fun x hx => h2 x (List.mem_cons_of_mem _ hx)) Rt.ret))
theorem lcD_t {B : Nat} {P : D → Prop} : ∀ (ds : List D) (k : Nat), k + ds.length ≤ sizeLine → (∀ d ∈ ds, Rt (ft (δ.set i (.val d))) true) → (∀ d ∈ ds, Tm B (fe (δ.set i (.val d))) P) → Tm (B * ds.length) (lcD (dName i) ft fe δ ds k) (fun ys => ys.length = ds.length ∧ ∀ y ∈ ys, P y)
  | [], _, _, _, _ => Tm.ret ⟨rfl, fun y z => nomatch z⟩
  | d :: ds, k, hk, h1, h2 => by
    have hk2 : k + 1 + ds.length ≤ sizeLine := by rw [List.length_cons] at hk; omega
    refine Tm.bindR Rt.ret (Tm.bindR (h1 d List.mem_cons_self) ?_)
    refine Tm.bind (h2 d List.mem_cons_self) (fun y hy => Tm.need (by omega) (Tm.bind (lcD_t ds (k + 1) hk2 (fun x hx => h1 x (List.mem_cons_of_mem _ hx)) fun x hx => h2 x (List.mem_cons_of_mem _ hx)) (fun ys hys => Tm.ret (B := 0) ?_) (Nat.le_refl _))) (by rw [List.length_cons, Nat.mul_succ, Nat.add_zero, Nat.add_comm]; exact Nat.le_refl _)
    refine ⟨by rw [List.length_cons, List.length_cons, hys.1], fun z hz => ?_⟩
    rcases List.mem_cons.mp hz with rfl | hz
    · exact hy
    · exact hys.2 z hz
/-- a loop that goes on to its end -/
theorem forD_t {B : Nat} {dg : D → List Sl → W (List Sl)} {gb : List Sl → W Out} {I : List D → List Sl → Prop} : ∀ (ds : List D) (δ : List Sl), I ds δ → (∀ d r δ, I (d :: r) δ → Tm B ((dg d δ).bind gb) (fun o => ∃ ε, o = .nx ε ∧ I r ε)) → Tm (B * ds.length) (forD dg gb ds δ) (fun o => ∃ ε, o = .nx ε ∧ I [] ε)
  | [], δ, h, _ => Tm.ret ⟨δ, rfl, h⟩
  | d :: ds, δ, h, hs => by
    have e : forD dg gb (d :: ds) δ = ((dg d δ).bind gb).bind fun o => match o with | .nx ε => forD dg gb ds ε | .ct ε => forD dg gb ds ε | .bk ε => W.ret (.nx ε) | .rt d => W.ret (.rt d) := rfl
    rw [e]
    refine Tm.bind (hs d ds δ h) (fun o ho => ?_) (by rw [List.length_cons, Nat.mul_succ, Nat.add_comm]; exact Nat.le_refl _)
    obtain ⟨ε, rfl, hI⟩ := ho
    exact forD_t ds ε hI hs
end
/-! ### the combinators -/
section
variable {δ ε : List Sl} {d x y z : D} {ds : List D} {i j mm : Nat} {f fa fb fc : List Sl → W D} {t ta tb : List Sl → W Bool} {fl fr' : List Sl → W (List D)} {g h : List Sl → W Out} {b c : Bool} {o u : Out}
theorem Rt.var (e : δ[i]? = some (.val d)) : Rt (dVar i δ) d := by unfold dVar; rw [e]; exact Rt.ret
theorem Rt.cC : Rt (dC d δ) d := Rt.ret
theorem Rt.op2 {g : D → D → W D} (ha : Rt (fa δ) x) (hb : Rt (fb δ) y) (hg : Rt (g x y) z) : Rt (dOp2 g fa fb δ) z := Rt.bind ha (Rt.bind hb hg)
theorem Rt.op1 {g : D → W D} (ha : Rt (fa δ) x) (hg : Rt (g x) z) : Rt (dOp1 g fa δ) z := Rt.bind ha hg
theorem Rt.opn {g : List D → W D} (ha : Rt (fl δ) ds) (hg : Rt (g ds) z) : Rt (dOpn g fl δ) z := Rt.bind ha hg
theorem Rt.nil : Rt (dNil δ) [] := Rt.ret
theorem Rt.cons (ha : Rt (fa δ) x) (hr : Rt (fl δ) ds) : Rt (dCons fa fl δ) (x :: ds) := Rt.bind ha (Rt.bind hr Rt.ret)
theorem Rt.tup (ha : Rt (fl δ) ds) (hz : ds.length ≤ sizeLine) : Rt (dTup fl δ) (.tup ds) := Rt.bind ha (Rt.need hz Rt.ret)
theorem Rt.lst (ha : Rt (fl δ) ds) (hz : ds.length ≤ sizeLine) : Rt (dLst fl δ) (.lst ds) := Rt.bind ha (Rt.need hz Rt.ret)
theorem Rt.test (ha : Rt (fa δ) (.bl b)) : Rt (dTest fa δ) b := Rt.bind ha Rt.ret
theorem Rt.tru (ha : Rt (fa δ) x) (hb : Rt (truD x) b) : Rt (dTru fa δ) b := Rt.bind ha hb
theorem Rt.andF (ha : Rt (ta δ) false) : Rt (dAnd ta tb δ) false := Rt.bind ha Rt.ret
theorem Rt.andT (ha : Rt (ta δ) true) (hb : Rt (tb δ) b) : Rt (dAnd ta tb δ) b := Rt.bind ha hb
theorem Rt.orT (ha : Rt (ta δ) true) : Rt (dOr ta tb δ) true := Rt.bind ha Rt.ret
theorem Rt.orF (ha : Rt (ta δ) false) (hb : Rt (tb δ) b) : Rt (dOr ta tb δ) b := Rt.bind ha hb
theorem Rt.not (ha : Rt (ta δ) b) : Rt (dNot ta δ) (!b) := Rt.bind ha Rt.ret
theorem Rt.andV (ha : Rt (fa δ) (.bl b)) (hb : b = true → Rt (fb δ) (.bl c)) : Rt (dAndV fa fb δ) (.bl (b && c)) := by
  refine Rt.bind ha (Rt.bind Rt.ret ?_)
  cases b with
  | true => exact hb rfl
  | false => exact Rt.ret
theorem Rt.orV (ha : Rt (fa δ) (.bl b)) (hb : b = false → Rt (fb δ) (.bl c)) : Rt (dOrV fa fb δ) (.bl (b || c)) := by
  refine Rt.bind ha (Rt.bind Rt.ret ?_)
  cases b with
  | true => exact Rt.ret
  | false => exact hb rfl
theorem Rt.notV (ha : Rt (fa δ) (.bl b)) : Rt (dNotV fa δ) (.bl (!b)) := Rt.bind ha (Rt.bind Rt.ret Rt.ret)
theorem Rt.ifE (ht : Rt (t δ) b) (h : Rt (match b with | true => fa δ | false => fb δ) d) : Rt (dIfE t fa fb δ) d := Rt.bind ht h
theorem Rt.seq (hg : Rt (g δ) (.nx ε)) (hh : Rt (h ε) o) : Rt (dSeq g h δ) o := Rt.bind hg hh
theorem Rt.seqR (hg : Rt (g δ) (.rt d)) : Rt (dSeq g h δ) (.rt d) := Rt.bind hg Rt.ret
theorem Rt.next : Rt (dNext δ) (.nx δ) := Rt.ret
theorem Rt.asg (hf : Rt (f δ) d) : Rt (dAsg f (dName i) δ) (.nx (δ.set i (.val d))) := Rt.bind hf (Rt.bind Rt.ret Rt.ret)
theorem Rt.rets (hf : Rt (f δ) d) : Rt (dRet f δ) (.rt d) := Rt.bind hf Rt.ret
theorem Rt.drop (hf : Rt (f δ) d) : Rt (dDrop f δ) (.nx δ) := Rt.bind hf Rt.ret
theorem Rt.ifT (ht : Rt (t δ) true) (hg : Rt (g δ) o) : Rt (dIf t g h δ) o := Rt.bind ht hg
theorem Rt.ifF (ht : Rt (t δ) false) (hg : Rt (h δ) o) : Rt (dIf t g h δ) o := Rt.bind ht hg
theorem Rt.call {G : List D → W D} (hf : Rt (fl δ) ds) (hm : ds.length = mm) (hg : Rt (G ds) d) : Rt (dCall mm G fl δ) d := Rt.bind hf (Rt.need hm hg)
theorem Rt.eqT {a : Str} : Rt (eqD (.str a) (.str a)) (.bl true) := Rt.ret.cast (by simp)
theorem Rt.eqF {a b : Str} (h : a ≠ b) : Rt (eqD (.str a) (.str b)) (.bl false) := Rt.ret.cast (by simp [h])
theorem Rt.bodyR {N : List Str} {bd : List Sl → W Out} (hb : Rt (bd (startD N ds)) (.rt d)) : Rt (dBody N bd ds) d := Rt.bind hb Rt.ret
theorem Rt.bodyN {N : List Str} {bd : List Sl → W Out} (hb : Rt (bd (startD N ds)) (.nx ε)) : Rt (dBody N bd ds) .non := Rt.bind hb Rt.ret
theorem Rt.ixT {xs : List D} {k : Int} (e : atI xs k = some d) : Rt (ixD (.tup xs) (.int k)) d := by show Rt (match atI xs k with | some d => W.ret d | none => W.stuck) d; rw [e]; exact Rt.ret
theorem Rt.ixL {xs : List D} {k : Int} (e : atI xs k = some d) : Rt (ixD (.lst xs) (.int k)) d := by show Rt (match atI xs k with | some d => W.ret d | none => W.stuck) d; rw [e]; exact Rt.ret
theorem Rt.fld {c : Str} {gs : List (Str × D)} {x : Str} (ha : Rt (fa δ) (.obj c gs)) (e : gs.lookup x = some d) : Rt (dFld x fa δ) d := Rt.bind ha (by dsimp only; rw [e]; exact Rt.ret)
theorem Rt.prop {c : Str} {gs : List (Str × D)} {tb : Tb} {G : List D → W D} (ha : Rt (fa δ) (.obj c gs)) (e : tb.lookup c = some G) (hg : Rt (G [.obj c gs]) d) : Rt (dProp tb fa δ) d := Rt.bind ha (by dsimp only; rw [e]; exact hg)
theorem Rt.meth {c m : Str} {gs : List (Str × D)} {tb : Tb} {G : List D → W D} (ha : Rt (fa δ) (.obj c gs)) (hn : gs.lookup m = none) (e : tb.lookup c = some G) (hf : Rt (fl δ) ds) (hm : ds.length = mm) (hg : Rt (G (.obj c gs :: ds)) d) : Rt (dMeth m mm tb fa fl δ) d :=
  Rt.bind ha (Rt.need hn (by rw [e]; exact Rt.bind hf (Rt.need hm hg)))
theorem Rt.ms {G : Str → List D → W D} {a : Str} (ho : Rt (fa δ) (.str a)) (hf : Rt (fl δ) ds) (hg : Rt (G a ds) d) : Rt (dMs G fa fl δ) d := Rt.bind ho (Rt.bind hf hg)
theorem Rt.par (hf : Rt (fl δ) [x, y]) : Rt (dPar i j fl δ) (.nx ((δ.set i (.val x)).set j (.val y))) := Rt.bind hf Rt.ret
theorem Rt.noPart : Rt (dNoPart δ) none := Rt.ret
theorem Rt.part {k : Int} (hf : Rt (f δ) (.int k)) : Rt (dPart f δ) (some k) := Rt.bind hf Rt.ret
theorem Rt.sl {lo hi : List Sl → W (Option Int)} {l k : Option Int} (ha : Rt (fa δ) x) (hl : Rt (lo δ) l) (hh : Rt (hi δ) k) (hg : Rt (slD x l k) d) : Rt (dSl fa lo hi δ) d := Rt.bind ha (Rt.bind hl (Rt.bind hh hg))
theorem Rt.chT {g g2 : D → D → W D} (ha : Rt (fa δ) x) (hb : Rt (fb δ) y) (hg : Rt (g x y) (.bl true)) (hc : Rt (fc δ) z) (hg2 : Rt (g2 y z) d) : Rt (dChain g g2 fa fb fc δ) d := Rt.bind ha (Rt.bind hb (Rt.bind hg (Rt.bind Rt.ret (Rt.bind hc hg2))))
theorem Rt.chF {g g2 : D → D → W D} (ha : Rt (fa δ) x) (hb : Rt (fb δ) y) (hg : Rt (g x y) (.bl false)) : Rt (dChain g g2 fa fb fc δ) (.bl false) := Rt.bind ha (Rt.bind hb (Rt.bind hg (Rt.bind Rt.ret Rt.ret)))
end
end Lx
set_option Elab.async false
set_option linter.all false
set_option maxRecDepth 100000
set_option maxHeartbeats 4000000
/-! Lx16: a list taken apart, a text turned round. -/
namespace Lx
open PySem PySem.Spec L2 PyProof.Rows
@[reducible] def dGLst (n : Nat) (b : List D → List Sl → W (List Sl)) : D → List Sl → W (List Sl) := fun d δ => match d with | .lst ds => W.need (ds.length = n) (b ds δ) | _ => W.stuck
theorem lg_lst {K : PySem.W.Frag} {vs : List Nat} {k : Nat} {t : TGs} {b : List D → List Sl → W (List Sl)} (hb : LGs K vs t b) : LG K vs (gLst K k t) (dGLst k b) := fun pn H0 F H n σ δ v d Q o s r h => by
  cases r with
  | lst a r => exact ⟨_, _, rfl, SqL.of (o.fro _ _ a), (r.len.trans h.1), hb pn H0 F H n σ δ _ _ Q o s r h.2⟩
  | _ => exact h.elim
/-! ### text[::-1] -/
def revS (x : Str) : Str := ⟨x.cps.toList.reverse.toArray⟩
def tRevS (te : TE) : TE := fun σ H Q => te σ H fun v H1 => ∃ x, v = .str x ∧ x.length ≤ sizeLine ∧ Q (.str (revS x)) H1
theorem rev_idx (n : Nat) : Builtin.Str.strSliceIndices none none (-1) n = (List.range n).reverse := by
  show sliceRange ((n : Int) - 1) (-1) (-1) = _
  rw [PySem.W.krv_sliceRange, PySem.W.krv_range]
theorem rev_pick (x : Str) : (Builtin.Str.strSliceIndices none none (-1) x.length).filterMap (x.cps[·]?) = x.cps.toList.reverse := by
  rw [rev_idx, List.filterMap_reverse]
  exact congrArg List.reverse (PySem.W.krv_all x.cps)
section
variable {X : Cx}
theorem pe_revS {e : Expr} {te : TE} {k : Nat} {p1 p2 p3 pos : Pos} (he : PE X e te) : PE X (.Subscript e (.Slice none none (some (.UnaryOp .USub (.Constant (.int 1) k p1) p2)) p3) pos) (tRevS te) := by
  refine ⟨fun pins s σ H Q I h => ?_⟩
  refine Subscript_ (thn (he.run pins s σ H _ I h) fun v s1 ⟨x, H1, I1, r1, q1⟩ => ?_)
  obtain ⟨y, ex, hz, q⟩ := q1
  subst ex
  obtain ⟨ty, rfl⟩ := r1
  have hst : PO X (some (.UnaryOp .USub (.Constant (.int 1) k p1) p2)) (tPart (tUn (rU fun i => .int (-i)) (tC (.int 1)))) := po_some (pe_un un_neg pe_int)
  refine wpAny_Slice (thn (po_none.run pins s1 σ H1 (fun o H2 => o = none ∧ H2 = H1) I1 ⟨rfl, rfl⟩) fun vl s2 ⟨l, H2, I2, pl, el, e2⟩ => ?_)
  subst el e2
  refine thn (po_none.run pins s2 σ H2 (fun o H3 => o = none ∧ H3 = H2) I2 ⟨rfl, rfl⟩) fun vu s3 ⟨u, H3, I3, pu, eu, e3⟩ => ?_
  subst eu e3
  refine thn (hst.run pins s3 σ H3 (fun o H4 => o = some (-1) ∧ H4 = H3) I3 ⟨1, rfl, -1, rfl, rfl, rfl⟩) fun vs s4 ⟨o, H4, I4, ps, eo, e4⟩ => ?_
  subst eo e4
  have I5 : Inv X pins σ H4 { s4 with heap := s4.heap.push { cls := .type "slice", data := .fields #[vl, vu, vs] } } := I4.kept (t' := s4.toks) fun b ob q => Heap.get?_push_of_some _ q
  obtain ⟨l, rfl, hl⟩ := IsPart.raw pl
  obtain ⟨u, rfl, hu⟩ := IsPart.raw pu
  obtain ⟨st, rfl, hst2⟩ := IsPart.raw ps
  cases l with
  | some z => cases hl
  | none => cases u with
    | some z => cases hu
    | none => cases st with
      | none => cases hst2
      | some z =>
        obtain ⟨zi, zt⟩ := z
        have ez : zi = (-1 : Int) := Option.some.inj hst2
        subst ez
        show wpAny (model X.prog X.w) X.A (subscriptTail e (.Slice none none (some (.UnaryOp .USub (.Constant (.int 1) k p1) p2)) p3) (.str y ty) (.ref s4.heap.objs.size)) (EP X pins σ Q) X.xe _
        refine tail_any (ops := [.str y ty, .ref s4.heap.objs.size]) (typeIs_str _ _ _) (PySem.F.slot_str_getitem.lookup) ?_ (by with_unfolding_all rfl)
        obtain ⟨os, hos, hcs, hds⟩ := Heap.IsSliceOf.new s4.heap (partValue none) (partValue none) (partValue (some (-1, zt)))
        refine wpAny_getItem_str_slice (l := none) (u := none) (st := some (-1, zt)) ⟨os, hos, hcs, hds⟩ rfl ?_
        show Made.post (if ((-1 : Int) == 1 && (Builtin.Str.strSliceIndices none none (-1) y.length).length == y.length) = true then Made.val (.str y ty) else Made.str ⟨((Builtin.Str.strSliceIndices none none (-1) y.length).filterMap (y.cps[·]?)).toArray⟩) (EP X pins σ Q) _
        have hc : (((-1 : Int) == 1) && (Builtin.Str.strSliceIndices none none (-1) y.length).length == y.length) = false := by rw [show ((-1 : Int) == 1) = false from rfl, Bool.false_and]
        rw [if_neg (by rw [hc]; decide), rev_pick]
        exact ⟨by show (⟨y.cps.toList.reverse.toArray⟩ : Str).length ≤ sizeLine; have : (⟨y.cps.toList.reverse.toArray⟩ : Str).length = y.length := (by simp [Str.length]); rw [this]; exact hz, .str (revS y), H4, I5.tok _, ⟨_, rfl⟩, q⟩
end
@[reducible] def dRevS (f : List Sl → W D) : List Sl → W D := fun δ => (f δ).bind fun d => match d with
  | .str x => W.need (x.length ≤ sizeLine) (W.ret (.str (revS x)))
  | _ => W.stuck
theorem le_revS {K : PySem.W.Frag} {te : TE} {f : List Sl → W D} (he : LE K te f) : LE K (tRevS te) (dRevS f) := fun pn H0 F H n σ δ Q o s h => by
  refine he pn H0 F H n σ δ _ o s ((f δ).mono (fun m x q => ?_) (fun _ _ z => z) h)
  intro v F1 H1 g1 o1 r1
  cases r1 with
  | str x => exact ⟨x, rfl, q.1, q.2 _ F1 H1 g1 o1 (.str _)⟩
  | _ => exact q.elim
end Lx
set_option Elab.async false
set_option linter.all false
set_option maxRecDepth 100000
set_option maxHeartbeats 4000000
/-! Lx17: sorted(set(text)). -/
namespace Lx
open PySem PySem.Spec L2 PyProof.Rows PySem.Froz
section
variable {P : Program} {w : World} {A : Around} {E : Value → Shared → Prop} {s : Shared}
/-- a text that is there already -/
theorem add_same {a : Addr} {T : String} {D : SD} {l : List Str} {k : Str} {u : Tok} {Q : Bool → Shared → Prop} (ho : s.heap.get? a = some (sObj T D)) (F : TxOk P w D l) (hk : k ∈ l) (hb : l.length + 1 < scanBound)
    (h : Q false s) : wpAny (model P w) A (setAddHashed a (.str k u) (hashStr w k)) Q E s := by
  obtain ⟨es, ep, t⟩ := D
  have hsz : es.size = l.length := F.sz
  unfold setAddHashed setAddHashedIn
  refine wpAny_holding (wpAny_bind (wpAny_setState_of ho rfl F.fit ?_))
  dsimp only
  rw [byScan_of (knd := PySem.strKind P w) rfl (by show es.size < scanBound; omega) F.el]
  simp only [↓reduceIte]
  unfold setAddByScan
  refine wpAny_bind (wpAny_bind (wpAny_rule (wpAny_bind (wpAny_setScan_of (knd := PySem.strKind P w) (k := k) (strKind_is _ _ _ _) ho rfl F.fit F.el ?_))))
  obtain ⟨e, he, hp⟩ := (F.mem k).mp hk
  cases hr : List.findIdx? (fun e => (PySem.strKind P w).is k e.2) es.toList with
  | none =>
    have := List.findIdx?_eq_none_iff.mp hr e he
    rw [hp] at this; cases this
  | some j =>
    dsimp only
    exact wpAny_pure (wpAny_pure h)
end
/-- the payload is laid in order -/
def Lai (w : World) (D : SD) : Prop := Ris D.2.2.place.toList ∧ (w.params.followText "set-order" = true ∨ D.2.2.led = true)
theorem lai_add {w : World} {D : SD} {h : Int} {v : Value} (L : Lai w D) : Lai w (addTx h v D) := by
  obtain ⟨es, ep, t⟩ := D
  obtain ⟨hr, hl⟩ := L
  have r1 := layNew_ris t es h v hr
  have l1 := layNew_led t es h v
  have key : ∀ (t2 : SetTable) (es1 : Array (Int × Value)) (wd : Bool), Ris t2.place.toList → (w.params.followText "set-order" = true ∨ t2.led = true) → Lai w (tailTx ep es1 t2 wd) := fun t2 es1 wd a b => by
    unfold tailTx
    split
    · exact ⟨relayAll_ris _ _ _, b.imp id fun z => by show (relayAll t2 es1 (SetTable.grown es1.size)).2.1.led = true; rw [relayAll_led]; exact z⟩
    · exact ⟨a, b⟩
  unfold addTx
  refine key _ _ _ ?_ ?_
  · dsimp only
    split
    · exact r1
    · exact r1
  · refine hl.imp id fun z => ?_
    dsimp only
    split
    · show (layNew t es h v).2.1.led = true
      rw [l1]; exact z
    · rw [l1]; exact z
section
variable {prog : Program} {w : World} {A : Around} {R : Result → Shared → Prop} {I : Addr} {fp wr : List Addr} {n : Nat} {St : Nat → Heap → Prop}
theorem set_loop2 {x : Str} (W : Walks prog w A.in1 I fp wr n (SignAt x) St) (hn : n = x.cps.size) (hfp : n < 4000) (S : Addr) (hSf : S ∉ fp) (hSw : S ∉ wr) : ∀ (cs : List Nat) (i : Nat) (acc : List Nat) (D : SD) (s : Shared), x.cps.toList.drop i = cs → i + cs.length = n → St i s.heap → acc.length ≤ i →
      s.heap.get? S = some (sObj "set" D) → TxOk prog w D (acc.map sgn) → Lai w D →
      (∀ h' tk D', (∀ b o, b ∉ S :: wr → s.heap.get? b = some o → h'.get? b = some o) → h'.get? S = some (sObj "set" D') → TxOk prog w D' ((uniq acc cs).map sgn) → Lai w D' → R (.ok (.ret .none)) { s with heap := h', toks := tk }) →
      codeAny (model prog w) A (.builtin "set.update.loop" ⟨[.ref S, .ref I], []⟩) R s
  | [], i, acc, D, s, hd, hi, hst, ha, hS, hF, hL, hR => by
    have hin : i = n := by simpa using hi
    subst hin
    refine codeAny_builtin PyProof.Rows.F.entry_set_update_loop ?_
    rw [Around.under_plainId PyProof.Rows.F.plain_set_update_loop _]
    show wpAny _ A.in1 (pyNext (.ref I) >>= _) _ _ s
    refine wpAny_bind (W.done s _ _ hst fun h' tk' hm => ?_)
    show wpAny _ A.in1 (ret Value.none) _ _ _
    exact wpAny_pure (hR _ _ D (fun b o hb e => hm b o (fun z => hb (List.mem_cons_of_mem _ z)) e) (hm S _ hSw hS) hF hL)
  | c :: r, i, acc, D, s, hd, hi, hst, ha, hS, hF, hL, hR => by
    have hlt : i < n := by simp at hi; omega
    obtain ⟨hx, hd2⟩ : x.cps[i]? = some c ∧ x.cps.toList.drop (i + 1) = r := by
      have h1 : x.cps.toList[i]? = some c := by
        have := congrArg (·[0]?) hd
        simpa using this
      refine ⟨by simpa using h1, ?_⟩
      have := congrArg (·.drop 1) hd
      simpa [List.drop_drop, Nat.add_comm] using this
    refine codeAny_builtin PyProof.Rows.F.entry_set_update_loop ?_
    rw [Around.under_plainId PyProof.Rows.F.plain_set_update_loop _]
    show wpAny _ A.in1 (pyNext (.ref I) >>= _) _ _ s
    refine wpAny_bind (W.item i s _ _ hlt hst fun v h1 tk hP hst' hm => ?_)
    obtain ⟨c', t, hc', rfl⟩ := hP
    rw [hx] at hc'
    cases hc'
    have hS' : h1.get? S = some (sObj "set" D) := hm S _ hSw hS
    show wpAny _ A.in1 (holding [Value.str (sgn c) t] (setAdd S (.str (sgn c) t)) >>= _) _ _ _
    refine wpAny_bind (wpAny_holding ?_)
    unfold setAdd
    refine wpAny_holding ?_
    refine wpAny_bind ((PySem.strKind prog w).pyHash (k := sgn c) (strKind_is _ _ _ _) ?_)
    have hb : (acc.map sgn).length + 1 < scanBound := by rw [List.length_map]; unfold scanBound; omega
    by_cases hc : c ∈ acc
    · have hu : uniq acc (c :: r) = uniq acc r := by simp [uniq, hc]
      refine add_same hS' hF (List.mem_map.mpr ⟨c, hc, rfl⟩) hb ?_
      refine wpAny_pure ⟨plainId_quiet PyProof.Rows.F.plain_set_update_loop _, set_loop2 W hn hfp S hSf hSw r (i + 1) acc D _ hd2 (by simp at hi; omega) hst' (by omega) hS' hF hL fun h'' tk'' D'' hm'' hS'' hF'' hL'' => ?_⟩
      rw [← hu] at hF''
      exact hR h'' tk'' D'' (fun b o hb e => hm'' b o hb (hm b o (fun z => hb (List.mem_cons_of_mem _ z)) e)) hS'' hF'' hL''
    · have hu : uniq acc (c :: r) = uniq (c :: acc) r := by simp [uniq, hc]
      refine add_x hS' hF (fun z => hc ?_) hb ?_
      · obtain ⟨d, hd, e⟩ := List.mem_map.mp z
        rw [← sgn_inj e]; exact hd
      have hget : (h1.update S fun _ => sObj "set" (addTx (hashStr w (sgn c)) (.str (sgn c) t) D)).get? S = some (sObj "set" (addTx (hashStr w (sgn c)) (.str (sgn c) t) D)) := Heap.get?_update_self _ hS' rfl
      refine wpAny_pure ⟨plainId_quiet PyProof.Rows.F.plain_set_update_loop _, set_loop2 W hn hfp S hSf hSw r (i + 1) (c :: acc) _ _ hd2 (by simp at hi; omega) (W.frame _ _ _ hst' fun b hb o e => ?_) (by rw [List.length_cons]; omega) hget (add_ok t hF) (lai_add hL) fun h'' tk'' D'' hm'' hS'' hF'' hL'' => ?_⟩
      · exact (Heap.get?_update_other _ _ (fun h : S = b => hSf (by rw [h]; exact hb))).trans e
      · rw [← hu] at hF''
        refine hR h'' tk'' D'' (fun b o hb e => hm'' b o hb ?_) hS'' hF'' hL''
        exact (Heap.get?_update_other _ _ (fun h : S = b => hb (by rw [h]; exact List.mem_cons_self))).trans (hm b o (fun z => hb (List.mem_cons_of_mem _ z)) e)
end
end Lx
set_option Elab.async false
set_option linter.all false
set_option maxRecDepth 100000
set_option maxHeartbeats 4000000
/-! Lx18: sorted(set(text)). -/
namespace Lx
open PySem PySem.Spec L2 PyProof.Rows PySem.Froz
section
variable {prog : Program} {w : World} {A : Around} {E : Value → Shared → Prop} {s : Shared}
theorem call_set_text2 {x : Str} {u : Tok} {Q : Value → Shared → Prop} (hh : A.handled = none) (hn : x.cps.size < 4000)
    (h : ∀ (h' : Heap) (tk : Nat) (D : SD), h'.get? s.heap.objs.size = some (sObj "set" D) → TxOk prog w D ((uniq [] x.cps.toList).map sgn) → Lai w D →
      (∀ b o, b < s.heap.objs.size → s.heap.get? b = some o → h'.get? b = some o) → Q (.ref s.heap.objs.size) { s with heap := h', toks := tk }) :
    wpAny (model prog w) A (call (.type "set") [.str x u]) Q E s := by
  obtain ⟨c, tl, hmro⟩ := PySem.F.called_set.mro
  have hmade := PySem.F.called_set.made
  have hsub := PySem.F.called_set.sub
  refine wpAny_call (codeAny_of_tree ?_)
  show wpAny _ _ (callAny (.type "set") _) _ _ _
  refine wpAny_pure ⟨Code.quiet_builtin _ (by decide +kernel), codeAny_builtin PySem.F.entry_type_call ?_⟩
  rw [Around.under_plain (weight_type_call_type "set" [.str x u] []) rfl]
  have h1 := PySem.F.called_set.notType
  have h2 := PySem.F.called_set.canCreate
  have hct := PySem.F.typeCall_set_1 (.str x u)
  repeat (any_goals (first | assumption | wp_step))
  refine codeAny_mono (code_set_led1 (.str x u) (E := E) (Q₁ := fun obj s₁ => obj = .ref s.heap.objs.size ∧ s₁ = { s with heap := s.heap.push { cls := .type "set", dict := none, data := .set #[] 0 (.fresh 0 0 (!w.params.followText "set-order")) } }) ⟨rfl, rfl⟩) fun r s₁ hr => ?_
  cases r with
  | error e => exact hr
  | ok fl =>
    cases fl with
    | ret obj =>
      obtain ⟨rfl, rfl⟩ := hr
      generalize hled : (!w.params.followText "set-order") = led
      have hS : (s.heap.push { cls := .type "set", dict := none, data := .set #[] 0 (.fresh 0 0 led) }).get? s.heap.objs.size = some { cls := .type "set", dict := none, data := .set #[] 0 (.fresh 0 0 led) } := Heap.get?_push_size _ rfl
      have hT : Shared.TypeIs { s with heap := s.heap.push { cls := .type "set", dict := none, data := .set #[] 0 (.fresh 0 0 led) } } (.ref s.heap.objs.size) "set" := ⟨_, hS, rfl⟩
      have hli := PySem.F.called_set.init.lookup
      have hbi := PySem.F.called_set.init.bind (.ref s.heap.objs.size)
      repeat (any_goals (first | assumption | wp_step))
      refine codeAny_mono (codeAny_call_builtin (R := wants (fun r s₂ => r = .none ∧ ∃ h' tk D, s₂ = { s with heap := h', toks := tk } ∧
          h'.get? s.heap.objs.size = some (sObj "set" D) ∧ TxOk prog w D ((uniq [] x.cps.toList).map sgn) ∧ Lai w D ∧
          (∀ b o, b < s.heap.objs.size → s.heap.get? b = some o → h'.get? b = some o)) E) PySem.F.called_set.init.plain PySem.F.entry_set_init (check_set_init_1 hT ?_)) fun r₂ s₂ hr₂ => ?_
      · have hsls := PySem.F.sub_str_set
        have hslf := PySem.F.sub_str_frozenset
        have hne : (Value.type "str" == Value.type "dict") = false := by decide
        unfold Builtin.«set.__init__» noKeywords Builtin.Frozenset.updateFrom
        generalize hPI : pyIter = PI
        wp_walk
        subst hPI
        refine wpAny_pyIter_str fun o St hW hst => ?_
        refine wpAny_bind (wpAny_runValue ?_)
        have hh3 : A.in1.in1.in1.handled = none := by simp [hh]
        have hSf : s.heap.objs.size ∉ [(s.heap.push { cls := .type "set", dict := none, data := .set #[] 0 (.fresh 0 0 led) }).objs.size] := by
          rw [Heap.size_push]; simp
        refine set_loop2 (hW _ hh3) rfl hn s.heap.objs.size hSf hSf x.cps.toList 0 [] (#[], 0, .fresh 0 0 led) _ rfl (by simp) hst (Nat.zero_le _) (Heap.get?_push_of_some _ hS) (TxOk.nil rfl) ⟨List.Pairwise.nil, ?_⟩ fun h' tk' D' hm hS' hF' hL' => ?_
        · show _ ∨ led = true
          rw [← hled]
          cases w.params.followText "set-order"
          · exact .inr rfl
          · exact .inl rfl
        · show wpAny _ _ _ _ _ _
          refine wpAny_pure ?_
          show wpAny _ _ (ret Value.none) _ _ _
          refine wpAny_pure ⟨rfl, h', tk', D', rfl, hS', hF', hL', fun b o hb e => ?_⟩
          have hb1 : b ≠ s.heap.objs.size := Nat.ne_of_lt hb
          have hb2 : b ≠ (s.heap.push { cls := .type "set", dict := none, data := .set #[] 0 (.fresh 0 0 led) }).objs.size := by
            rw [Heap.size_push]; exact Nat.ne_of_lt (Nat.lt_succ_of_lt hb)
          exact hm b o (by simp only [List.mem_cons, List.mem_singleton, List.not_mem_nil, or_false, not_or]; exact ⟨hb1, hb2⟩) (Heap.get?_push_of_some _ (Heap.get?_push_of_some _ e))
      · cases r₂ with
        | error e => exact hr₂
        | ok fl₂ =>
          cases fl₂ with
          | ret r =>
            obtain ⟨rfl, h', tk, D, rfl, hS', hF', hL', hk'⟩ := hr₂
            repeat (any_goals (first | assumption | wp_step))
            exact h _ _ D hS' hF' hL' hk'
          | _ => exact hr₂.elim
    | _ => exact hr.elim
end

section
variable {P : Program} {w : World} {A : Around} {E : Value → Shared → Prop} {s : Shared}
theorem strs_of : ∀ (l : List Value), (∀ v ∈ l, ∃ k tk, v = Value.str k tk) → ∃ ss, StrsAre l ss
  | [], _ => ⟨[], .nil⟩
  | v :: l, h => by
    obtain ⟨k, tk, rfl⟩ := h v List.mem_cons_self
    obtain ⟨ss, hs⟩ := strs_of l fun u hu => h u (List.mem_cons_of_mem _ hu)
    exact ⟨k :: ss, .cons k tk hs⟩
theorem strs_vals : ∀ {l : List Value} {ss : List Str}, StrsAre l ss → Vals (ss.map V.str) l
  | _, _, .nil => .nil
  | _, _, .cons k t r => .cons ⟨t, rfl⟩ (strs_vals r)
theorem strs_mem : ∀ {l : List Value} {ss : List Str}, StrsAre l ss → ∀ k, k ∈ ss ↔ ∃ t, Value.str k t ∈ l
  | _, _, .nil, k => by simp
  | _, _, .cons x t r, k => by
    rw [List.mem_cons, strs_mem r k]
    constructor
    · rintro (rfl | ⟨u, h⟩)
      · exact ⟨t, List.mem_cons_self⟩
      · exact ⟨u, List.mem_cons_of_mem _ h⟩
    · rintro ⟨u, h⟩
      rcases List.mem_cons.mp h with h | h
      · cases h; exact .inl rfl
      · exact .inr ⟨u, h⟩
theorem strs_len : ∀ {l : List Value} {ss : List Str}, StrsAre l ss → ss.length = l.length
  | _, _, .nil => rfl
  | _, _, .cons x t r => congrArg (· + 1) (strs_len r)
/-- sorted of such a set: its texts, in some order (the right one) -/
theorem sorted_setS {a : Addr} {D : SD} {l : List Str} {Q : Value → Shared → Prop} (ho : s.heap.get? a = some (sObj "set" D)) (F : TxOk P w D l) (L : Lai w D) (hh : A.handled = none) (h64 : l.length < 64)
    (hQ : ∀ s' p (out : List Value) (c : Nat) (ss : List Str), (∀ b o, s.heap.get? b = some o → s'.heap.get? b = some o) → s'.gens = s.gens → s'.os = s.os → s.heap.objs.size ≤ p →
      s'.heap.get? p = some (seqObj "list" out.toArray c) → StrsAre out ss → ss.length = l.length → (∀ k, k ∈ ss ↔ k ∈ l) → Q (.ref p) s') :
    wpAny (model P w) A (call (.builtin "sorted") [.ref a]) Q E s := by
  obtain ⟨es, ep, t⟩ := D
  have hsz : es.size = l.length := F.sz
  refine Calls.call_function_entry kind_sorted plain_sorted entry_sorted (args_sorted1 _) ?_
  unfold Builtin.«sorted»
  refine wpAny_bind (m := checkCount "sorted" 1 1 _) (wpAny_pure ?_)
  refine wpAny_bind (collect_set (A := A.in1) hh ⟨_, ho, rfl, rfl⟩ F.fit (by show es.size < 4096; omega) L.1 L.2 fun s1 vs k1 hz g1 o1 pm => ?_)
  have hvl : vs.length = l.length := by rw [pm.length_eq, List.length_map, Array.length_toList]; exact hsz
  have hstr : ∀ e ∈ es.toList, ∃ k tk, e.2 = Value.str k tk := fun e he => by
    obtain ⟨⟨k, h, _⟩, _⟩ := F.el e he
    obtain ⟨t, q⟩ := Value.isStrOf_shape h
    exact ⟨k, t, q⟩
  obtain ⟨ss, hS⟩ := strs_of vs fun v hv => by
    obtain ⟨e, he, q⟩ := List.mem_map.mp (pm.mem_iff.mp hv)
    obtain ⟨k, tk, h1⟩ := hstr e he
    exact ⟨k, tk, by rw [← q]; exact h1⟩
  refine wpAny_bind (wpAny_newList ?_ (by rw [hvl, sizeLine_eq]; omega))
  have hoL : (s1.heap.push (seqObj "list" vs.toArray 0)).get? s1.heap.objs.size = some (seqObj "list" vs.toArray 0) := Heap.get?_push_size _ rfl
  refine wpAny_bind (wpAny_holding (wpAny_call_entry slot_list_sort ⟨_, hoL, rfl⟩ entry_list_sort (list_sort_treeK strKind_oneLt hoL hS.keysOf (fun v₁ v₂ rest e => keyKind_strs (by rw [← e]; exact hS)) (by rw [hvl]; exact h64) fun st' hp hs => ⟨_, rfl, ?_⟩) (args_list_sort _)))
  obtain ⟨ss', a1, a2, _⟩ := sorted_out_str hS hp hs
  obtain ⟨c, hc⟩ := sortedHeap_at (vs := vs) (out := (arrOf st').map (·.2)) hoL
  refine wpAny_pure ⟨_, rfl, hQ _ s1.heap.objs.size ((arrOf st').map (·.2)).toList c ss' (fun b u e => ?_) g1 o1 hz (by rw [Array.toArray_toList]; exact hc) a1 ?_ ?_⟩
  · have q := k1 b u e
    have hlt := Heap.lt_size q
    show (sortedHeap (s1.heap.push (seqObj "list" vs.toArray 0)) s1.heap.objs.size vs _).get? b = some u
    rw [sortedHeap_old (Nat.ne_of_lt hlt) (by rw [Heap.size_push]; exact Nat.lt_succ_of_lt hlt)]
    exact Heap.get?_push_of_some _ q
  · rw [a2.length_eq, strs_len hS, hvl]
  · intro k
    rw [a2.mem_iff, strs_mem hS, F.mem k]
    constructor
    · rintro ⟨t, h⟩
      obtain ⟨e, he, q⟩ := List.mem_map.mp (pm.mem_iff.mp h)
      exact ⟨e, he, by rw [q]; exact strKind_is _ _ _ _⟩
    · rintro ⟨e, he, h⟩
      obtain ⟨k2, tk, e2⟩ := hstr e he
      rw [e2] at h
      have : k = k2 := (PySem.strKind P w).inj _ k k2 h (strKind_is _ _ _ _)
      exact ⟨tk, pm.mem_iff.mpr (List.mem_map.mpr ⟨e, he, by rw [e2, this]⟩)⟩
end
def tSortSet (ta : TE) : TE := fun σ H Q => ta σ H fun x H1 => ∃ y, x = .str y ∧ y.cps.size < 60 ∧ ∀ p (cs : List Nat), H1 p = none → cs.length = (uniq [] y.cps.toList).length → (∀ c, c ∈ cs ↔ c ∈ uniq [] y.cps.toList) → Q (.ref p) (upd H1 p (.lst (cs.map fun c => .str (sgn c))))
theorem uniq_le : ∀ (l acc : List Nat), (uniq acc l).length ≤ acc.length + l.length
  | [], acc => Nat.le_refl _
  | c :: r, acc => by
    unfold uniq
    split
    · have := uniq_le r acc; rw [List.length_cons]; omega
    · have := uniq_le r (c :: acc); rw [List.length_cons] at this ⊢; omega
theorem signs_of : ∀ (ss : List Str) (l : List Nat), (∀ k ∈ ss, ∃ c ∈ l, k = sgn c) → ∃ cs : List Nat, ss = cs.map sgn
  | [], _, _ => ⟨[], rfl⟩
  | k :: r, l, h => by
    obtain ⟨c, _, rfl⟩ := h k List.mem_cons_self
    obtain ⟨cs, rfl⟩ := signs_of r l fun z hz => h z (List.mem_cons_of_mem _ hz)
    exact ⟨c :: cs, rfl⟩
section
variable {X : Cx}
theorem pe_sortSet {a : Expr} {ta : TE} {p p2 q pos : Pos} (hc : X.calm = true) (hg : Gl X "sorted") (hm : X.mg "sorted" = none) (hg2 : Gl X "set") (hm2 : X.mg "set" = none) (ha : PE X a ta)
    (na : starEach [a] X.env = (false, eval a X.env) :: starEach [] X.env := by rfl) : PE X (.Call (.Name "sorted" p) [.Call (.Name "set" p2) [a] [] q] [] pos) (tSortSet ta) := by
  refine ⟨fun pins s σ H Q I h => ?_⟩
  refine Call_ (ld_blt I hg hm boot_sorted ?_)
  refine PyProof.Rows.callWith_builtin1 (PyProof.Rows.args_cons ?_ rfl) rfl rfl
  refine Call_ (ld_blt I hg2 hm2 boot_set ?_)
  refine PyProof.Rows.callWith_type1 (PyProof.Rows.args_cons (thn (ha.run pins s σ H _ I h) fun v s1 ⟨x, H1, I1, r1, q1⟩ => PyProof.Rows.args_nil ?_) na) na rfl
  obtain ⟨y, rfl, hy, q1⟩ := q1
  obtain ⟨u, rfl⟩ := r1
  refine call_set_text2 (I1.ok.hd hc) (by omega) fun h' tk D hS hF hL hk => ?_
  refine PyProof.Rows.args_nil ?_
  have I2 : Inv X pins σ H1 { s1 with heap := h', toks := tk } := I1.kept fun b o e => hk b o (Heap.lt_size e) e
  have hul := uniq_le y.cps.toList []
  have h60 : (uniq [] y.cps.toList).length < 64 := by simp at hul; omega
  refine sorted_setS hS hF hL (I2.ok.hd hc) (by rw [List.length_map]; exact h60) fun s' pp out c ss k1 g1 o1 hz ho hA hl hm => ?_
  obtain ⟨cs, rfl⟩ := signs_of ss (uniq [] y.cps.toList) fun k hk => by
    obtain ⟨c, hc, e⟩ := List.mem_map.mp ((hm k).mp hk)
    exact ⟨c, hc, e.symm⟩
  rw [List.length_map, List.length_map] at hl
  have hmem : ∀ c, c ∈ cs ↔ c ∈ uniq [] y.cps.toList := fun c => by
    have := hm (sgn c)
    constructor
    · intro h
      obtain ⟨d, hd, e⟩ := List.mem_map.mp (this.mp (List.mem_map.mpr ⟨c, h, rfl⟩))
      rw [← sgn_inj e]; exact hd
    · intro h
      obtain ⟨d, hd, e⟩ := List.mem_map.mp (this.mpr (List.mem_map.mpr ⟨c, h, rfl⟩))
      rw [← sgn_inj e]; exact hd
  have hv := strs_vals hA
  rw [List.map_map] at hv
  have hzz : (cs.map fun c => V.str (sgn c)).length ≤ sizeLine := by rw [List.length_map, sizeLine_eq, hl]; omega
  have hn : H1 pp = none := I2.hok.fresh hz
  have J : Inv X pins σ (upd H1 pp (.lst (cs.map fun c => V.str (sgn c)))) { ({ s1 with heap := h', toks := tk } : Shared) with heap := s'.heap, gens := s'.gens, drawn := s'.drawn, toks := s'.toks } :=
    I2.call (ch := []) (Un.laid k1 hz hn) (I2.hok.laid k1 hz ⟨hzz, out, c, hv, ho⟩) (by rw [g1]; exact I2.bare) (fun _ z => nomatch z)
  have e : s' = { ({ s1 with heap := h', toks := tk } : Shared) with heap := s'.heap, gens := s'.gens, drawn := s'.drawn, toks := s'.toks } := by
    cases s'
    have o1 : _ = s1.os := o1
    subst o1
    rfl
  rw [e]
  exact ⟨.ref pp, _, J, rfl, q1 pp cs hn hl hmem⟩
end
/-- the signs of a text, each once, in an order -/
@[reducible] def dSortSet (fa : List Sl → W D) : List Sl → W D := fun δ => (fa δ).bind fun x => match x with
  | .str y => W.need (y.cps.size < 60) (W.any 0 fun d => ∃ cs : List Nat, d = .lst (cs.map fun c => .str (sgn c)) ∧ cs.length = (uniq [] y.cps.toList).length ∧ ∀ c, c ∈ cs ↔ c ∈ uniq [] y.cps.toList)
  | _ => W.stuck
theorem rep_signs {K : PySem.W.Frag} {pn : Addr} {F : Hp} : ∀ cs : List Nat, RepL K pn F (cs.map fun c => V.str (sgn c)) (cs.map fun c => D.str (sgn c))
  | [] => .nil
  | c :: r => .cons (.str _) (rep_signs r)
theorem le_sortSet {K : PySem.W.Frag} {ta : TE} {fa : List Sl → W D} (ha : LE K ta fa) : LE K (tSortSet ta) (dSortSet fa) := fun pn H0 F H n σ δ Q o s h => by
  refine ha pn H0 F H n σ δ _ o s ((fa δ).mono (fun m x q => ?_) (fun _ _ z => z) h)
  intro v F1 H1 g1 o1 r1
  cases r1 with
  | str y =>
    obtain ⟨q1, k, rfl, q2⟩ := q
    refine ⟨y, rfl, q1, fun p cs hp hl hm => ?_⟩
    obtain ⟨o2, g2⟩ := o1.lay (o := .lst (cs.map fun c => V.str (sgn c))) hp
    exact q2 _ ⟨cs, rfl, hl, hm⟩ (.ref p) _ _ (g1.trans g2 o2.fpn) o2 (.lst upd_same (rep_signs cs))
  | _ => exact q.elim
end Lx
set_option Elab.async false
set_option linter.all false
set_option maxRecDepth 100000
set_option maxHeartbeats 4000000
/-! printed by gen.py: the walk. -/
namespace Lw
open PySem PySem.Spec L2 PyProof.Rows He Lx
abbrev PW : Program := PySem.Challenge.pw_linestream_k02_whole_tests_by_rules
def top (i : Nat) : Stmt := PW.main.body.getD i (.Pass ⟨0, 0, 0, 0⟩)
abbrev s__law_draw : Stmt := top 25
abbrev s__law_pick : Stmt := top 26
abbrev s__law_signs : Stmt := top 27
abbrev s__law_few : Stmt := top 28
abbrev s__law_row : Stmt := top 29
abbrev s__law_goal : Stmt := top 30
abbrev s__law_jleaves : Stmt := top 34
abbrev s__law_jlight : Stmt := top 35
abbrev s__law_jline : Stmt := top 33
abbrev s__law_jwords : Stmt := top 32
abbrev s_is_line : Stmt := top 2
abbrev s_is_word : Stmt := top 3
abbrev s_Test_init : Stmt := inClass (top 11) 0
abbrev s_WordTest_init : Stmt := inClass (top 13) 0
abbrev s_Begins_init : Stmt := inClass (top 15) 0
abbrev s_Test_depth : Stmt := inClass (top 11) 2
abbrev s_Test_leaves : Stmt := inClass (top 11) 3
abbrev s_need_inner : Stmt := top 12
abbrev s_PairTest_init : Stmt := inClass (top 20) 0
abbrev s_Both_init : Stmt := inClass (top 21) 0
abbrev s_Either_init : Stmt := inClass (top 22) 0
abbrev s_Ends_init : Stmt := inClass (top 16) 0
abbrev s_Fails_init : Stmt := inClass (top 19) 0
abbrev s_Has_init : Stmt := inClass (top 14) 0
abbrev s_Is_init : Stmt := inClass (top 17) 0
abbrev s_Only_init : Stmt := inClass (top 18) 0
abbrev s__law_made_goal : Stmt := top 31
abbrev s__law_pen : Stmt := top 24
abbrev s_Only_letters : Stmt := inClass (top 18) 1
abbrev s_Is_line : Stmt := inClass (top 17) 1
abbrev s_PairTest_one : Stmt := inClass (top 20) 1
abbrev s_PairTest_other : Stmt := inClass (top 20) 2
abbrev s_Fails_test : Stmt := inClass (top 19) 1
abbrev s_WordTest_word : Stmt := inClass (top 13) 1
abbrev s_Has_holds : Stmt := inClass (top 14) 1
abbrev s_Begins_holds : Stmt := inClass (top 15) 1
abbrev s_Ends_holds : Stmt := inClass (top 16) 1
abbrev s_Is_holds : Stmt := inClass (top 17) 2
abbrev s_Only_holds : Stmt := inClass (top 18) 2
abbrev s_Fails_holds : Stmt := inClass (top 19) 2
abbrev s_Both_holds : Stmt := inClass (top 21) 1
abbrev s_Either_holds : Stmt := inClass (top 22) 1
abbrev s__law_same : Stmt := top 36
abbrev s__law_rules_right : Stmt := top 37
abbrev s_law : Stmt := top 38
def dm__law_draw : DefM := ⟨(.fn "_law_draw"), "_law_draw", "_law_draw", defArgs s__law_draw, defBody s__law_draw, defScope s__law_draw, none⟩
def dm__law_pick : DefM := ⟨(.fn "_law_pick"), "_law_pick", "_law_pick", defArgs s__law_pick, defBody s__law_pick, defScope s__law_pick, none⟩
def dm__law_signs : DefM := ⟨(.fn "_law_signs"), "_law_signs", "_law_signs", defArgs s__law_signs, defBody s__law_signs, defScope s__law_signs, none⟩
def dm__law_few : DefM := ⟨(.fn "_law_few"), "_law_few", "_law_few", defArgs s__law_few, defBody s__law_few, defScope s__law_few, none⟩
def dm__law_row : DefM := ⟨(.fn "_law_row"), "_law_row", "_law_row", defArgs s__law_row, defBody s__law_row, defScope s__law_row, none⟩
def dm__law_goal : DefM := ⟨(.fn "_law_goal"), "_law_goal", "_law_goal", defArgs s__law_goal, defBody s__law_goal, defScope s__law_goal, none⟩
def dm__law_jleaves : DefM := ⟨(.fn "_law_jleaves"), "_law_jleaves", "_law_jleaves", defArgs s__law_jleaves, defBody s__law_jleaves, defScope s__law_jleaves, none⟩
def dm__law_jlight : DefM := ⟨(.fn "_law_jlight"), "_law_jlight", "_law_jlight", defArgs s__law_jlight, defBody s__law_jlight, defScope s__law_jlight, none⟩
def dm__law_jline : DefM := ⟨(.fn "_law_jline"), "_law_jline", "_law_jline", defArgs s__law_jline, defBody s__law_jline, defScope s__law_jline, none⟩
def dm__law_jwords : DefM := ⟨(.fn "_law_jwords"), "_law_jwords", "_law_jwords", defArgs s__law_jwords, defBody s__law_jwords, defScope s__law_jwords, none⟩
def dm_is_line : DefM := ⟨(.fn "is_line"), "is_line", "is_line", defArgs s_is_line, defBody s_is_line, defScope s_is_line, none⟩
def dm_is_word : DefM := ⟨(.fn "is_word"), "is_word", "is_word", defArgs s_is_word, defBody s_is_word, defScope s_is_word, none⟩
def dm_Test_init : DefM := ⟨(.me "Test" "__init__"), "__init__", "Test.__init__", defArgs s_Test_init, defBody s_Test_init, defScope s_Test_init, none⟩
def dm_WordTest_init : DefM := ⟨(.me "WordTest" "__init__"), "__init__", "WordTest.__init__", defArgs s_WordTest_init, defBody s_WordTest_init, defScope s_WordTest_init, some "WordTest"⟩
def dm_Begins_init : DefM := ⟨(.me "Begins" "__init__"), "__init__", "Begins.__init__", defArgs s_Begins_init, defBody s_Begins_init, defScope s_Begins_init, some "Begins"⟩
def dm_Test_depth : DefM := ⟨(.me "Test" "depth"), "depth", "Test.depth", defArgs s_Test_depth, defBody s_Test_depth, defScope s_Test_depth, none⟩
def dm_Test_leaves : DefM := ⟨(.me "Test" "leaves"), "leaves", "Test.leaves", defArgs s_Test_leaves, defBody s_Test_leaves, defScope s_Test_leaves, none⟩
def dm_need_inner : DefM := ⟨(.fn "need_inner"), "need_inner", "need_inner", defArgs s_need_inner, defBody s_need_inner, defScope s_need_inner, none⟩
def dm_PairTest_init : DefM := ⟨(.me "PairTest" "__init__"), "__init__", "PairTest.__init__", defArgs s_PairTest_init, defBody s_PairTest_init, defScope s_PairTest_init, some "PairTest"⟩
def dm_Both_init : DefM := ⟨(.me "Both" "__init__"), "__init__", "Both.__init__", defArgs s_Both_init, defBody s_Both_init, defScope s_Both_init, some "Both"⟩
def dm_Either_init : DefM := ⟨(.me "Either" "__init__"), "__init__", "Either.__init__", defArgs s_Either_init, defBody s_Either_init, defScope s_Either_init, some "Either"⟩
def dm_Ends_init : DefM := ⟨(.me "Ends" "__init__"), "__init__", "Ends.__init__", defArgs s_Ends_init, defBody s_Ends_init, defScope s_Ends_init, some "Ends"⟩
def dm_Fails_init : DefM := ⟨(.me "Fails" "__init__"), "__init__", "Fails.__init__", defArgs s_Fails_init, defBody s_Fails_init, defScope s_Fails_init, some "Fails"⟩
def dm_Has_init : DefM := ⟨(.me "Has" "__init__"), "__init__", "Has.__init__", defArgs s_Has_init, defBody s_Has_init, defScope s_Has_init, some "Has"⟩
def dm_Is_init : DefM := ⟨(.me "Is" "__init__"), "__init__", "Is.__init__", defArgs s_Is_init, defBody s_Is_init, defScope s_Is_init, some "Is"⟩
def dm_Only_init : DefM := ⟨(.me "Only" "__init__"), "__init__", "Only.__init__", defArgs s_Only_init, defBody s_Only_init, defScope s_Only_init, some "Only"⟩
def dm__law_made_goal : DefM := ⟨(.fn "_law_made_goal"), "_law_made_goal", "_law_made_goal", defArgs s__law_made_goal, defBody s__law_made_goal, defScope s__law_made_goal, none⟩
def dm__law_pen : DefM := ⟨(.fn "_law_pen"), "_law_pen", "_law_pen", defArgs s__law_pen, defBody s__law_pen, defScope s__law_pen, none⟩
def dm_Only_letters : DefM := ⟨(.pr "Only" "letters"), "letters", "Only.letters", defArgs s_Only_letters, defBody s_Only_letters, defScope s_Only_letters, none⟩
def dm_Is_line : DefM := ⟨(.pr "Is" "line"), "line", "Is.line", defArgs s_Is_line, defBody s_Is_line, defScope s_Is_line, none⟩
def dm_PairTest_one : DefM := ⟨(.pr "PairTest" "one"), "one", "PairTest.one", defArgs s_PairTest_one, defBody s_PairTest_one, defScope s_PairTest_one, none⟩
def dm_PairTest_other : DefM := ⟨(.pr "PairTest" "other"), "other", "PairTest.other", defArgs s_PairTest_other, defBody s_PairTest_other, defScope s_PairTest_other, none⟩
def dm_Fails_test : DefM := ⟨(.pr "Fails" "test"), "test", "Fails.test", defArgs s_Fails_test, defBody s_Fails_test, defScope s_Fails_test, none⟩
def dm_WordTest_word : DefM := ⟨(.pr "WordTest" "word"), "word", "WordTest.word", defArgs s_WordTest_word, defBody s_WordTest_word, defScope s_WordTest_word, none⟩
def dm_Has_holds : DefM := ⟨(.me "Has" "holds"), "holds", "Has.holds", defArgs s_Has_holds, defBody s_Has_holds, defScope s_Has_holds, none⟩
def dm_Begins_holds : DefM := ⟨(.me "Begins" "holds"), "holds", "Begins.holds", defArgs s_Begins_holds, defBody s_Begins_holds, defScope s_Begins_holds, none⟩
def dm_Ends_holds : DefM := ⟨(.me "Ends" "holds"), "holds", "Ends.holds", defArgs s_Ends_holds, defBody s_Ends_holds, defScope s_Ends_holds, none⟩
def dm_Is_holds : DefM := ⟨(.me "Is" "holds"), "holds", "Is.holds", defArgs s_Is_holds, defBody s_Is_holds, defScope s_Is_holds, none⟩
def dm_Only_holds : DefM := ⟨(.me "Only" "holds"), "holds", "Only.holds", defArgs s_Only_holds, defBody s_Only_holds, defScope s_Only_holds, none⟩
def dm_Fails_holds : DefM := ⟨(.me "Fails" "holds"), "holds", "Fails.holds", defArgs s_Fails_holds, defBody s_Fails_holds, defScope s_Fails_holds, none⟩
def dm_Both_holds : DefM := ⟨(.me "Both" "holds"), "holds", "Both.holds", defArgs s_Both_holds, defBody s_Both_holds, defScope s_Both_holds, none⟩
def dm_Either_holds : DefM := ⟨(.me "Either" "holds"), "holds", "Either.holds", defArgs s_Either_holds, defBody s_Either_holds, defScope s_Either_holds, none⟩
def dm__law_same : DefM := ⟨(.fn "_law_same"), "_law_same", "_law_same", defArgs s__law_same, defBody s__law_same, defScope s__law_same, none⟩
def dm__law_rules_right : DefM := ⟨(.fn "_law_rules_right"), "_law_rules_right", "_law_rules_right", defArgs s__law_rules_right, defBody s__law_rules_right, defScope s__law_rules_right, none⟩
def dm_law : DefM := ⟨(.fn "law"), "law", "law", defArgs s_law, defBody s_law, defScope s_law, none⟩
def fn : List DefM := [dm__law_draw, dm__law_pick, dm__law_signs, dm__law_few, dm__law_row, dm__law_goal, dm__law_jleaves, dm__law_jlight, dm__law_jline, dm__law_jwords, dm_is_line, dm_is_word, dm_Test_init, dm_WordTest_init, dm_Begins_init, dm_Test_depth, dm_Test_leaves, dm_need_inner, dm_PairTest_init, dm_Both_init, dm_Either_init, dm_Ends_init, dm_Fails_init, dm_Has_init, dm_Is_init, dm_Only_init, dm__law_made_goal, dm__law_pen, dm_Only_letters, dm_Is_line, dm_PairTest_one, dm_PairTest_other, dm_Fails_test, dm_WordTest_word, dm_Has_holds, dm_Begins_holds, dm_Ends_holds, dm_Is_holds, dm_Only_holds, dm_Fails_holds, dm_Both_holds, dm_Either_holds, dm__law_same, dm__law_rules_right, dm_law]
def fa0 : List Fm := [.he (.free "abs"), .he (.free "len"), .he (.free "int"), .he (.glo "_law_draw"), .he (.glo "_law_pick"), .he (.free "range"), .he (.glo "_law_signs"), .he (.glo "_law_goal"), .he (.glo "_law_row"), .he (.glo "_law_jleaves"), .he (.free "sum"), .he (.free "list"), .he (.glo "_law_jwords"), .he (.free "str"), .he (.free "isinstance"), .he (.str "LETTERS" " !\"#$&'()*+,-./0123456789:;<=>?@ABCDEFGHIJKLMNOPQRSTUVWXYZ[\\]^_`abcdefghijklmnopqrstuvwxyz{|}~"), .he (.free "all"), .he (.glo "is_line"), .he (.cls "Has"), .he (.noat "Has" "own_inner"), .he (.cls "Begins"), .he (.noat "Begins" "own_inner"), .he (.cls "Ends"), .he (.noat "Ends" "own_inner"), .he (.cls "Is"), .he (.noat "Is" "own_inner"), .he (.cls "Only"), .he (.noat "Only" "own_inner"), .he (.cls "Fails"), .he (.noat "Fails" "own_inner"), .he (.cls "Both"), .he (.noat "Both" "own_inner"), .he (.cls "Either"), .he (.noat "Either" "own_inner"), .he (.noat "Has" "own_text"), .he (.noat "Begins" "own_text"), .he (.noat "Ends" "own_text"), .he (.noat "Is" "own_text"), .he (.noat "Only" "own_text"), .he (.noat "Fails" "own_text")]
def fa1 : List Fm := [.he (.noat "Both" "own_text"), .he (.noat "Either" "own_text"), .he (.noat "Has" "own_kind"), .he (.noat "Begins" "own_kind"), .he (.noat "Ends" "own_kind"), .he (.noat "Is" "own_kind"), .he (.noat "Only" "own_kind"), .he (.noat "Fails" "own_kind"), .he (.noat "Both" "own_kind"), .he (.noat "Either" "own_kind"), .top, .he (.int "MAX_WORD" 8), .he (.glo "is_word"), .sup "Has" "WordTest" "Test", .sup "Begins" "WordTest" "Test", .sup "Ends" "WordTest" "Test", .sup "Begins" "Begins" "WordTest", .he (.free "max"), .meth "Either" "depth" "Test", .meth "Both" "depth" "Test", .meth "Fails" "depth" "Test", .meth "Only" "depth" "Test", .meth "Is" "depth" "Test", .meth "Ends" "depth" "Test", .meth "Begins" "depth" "Test", .meth "Has" "depth" "Test", .meth "Either" "leaves" "Test", .meth "Both" "leaves" "Test", .meth "Fails" "leaves" "Test", .meth "Only" "leaves" "Test", .meth "Is" "leaves" "Test", .meth "Ends" "leaves" "Test", .meth "Begins" "leaves" "Test", .meth "Has" "leaves" "Test", .he (.glo "Test"), .he (.int "MAX_DEPTH" 8), .he (.int "MAX_LEAVES" 8), .he (.glo "need_inner"), .sup "Both" "PairTest" "Test", .sup "Either" "PairTest" "Test"]
def fa2 : List Fm := [.sup "Both" "Both" "PairTest", .sup "Either" "Either" "PairTest", .sup "Ends" "Ends" "WordTest", .sup "Fails" "Fails" "Test", .sup "Has" "Has" "WordTest", .he (.int "MAX_LINE" 20), .sup "Is" "Is" "Test", .he (.free "set"), .sup "Only" "Only" "Test", .ini "Both" "Both", .he (.glo "Both"), .ini "Either" "Either", .he (.glo "Either"), .he (.glo "_law_made_goal"), .ini "Fails" "Fails", .he (.glo "Fails"), .ini "Is" "Is", .he (.glo "Is"), .ini "Only" "Only", .he (.glo "Only"), .ini "Begins" "Begins", .he (.glo "Begins"), .ini "Ends" "Ends", .he (.glo "Ends"), .ini "Has" "Has", .he (.glo "Has"), .prop "Only" "letters" "Only", .prop "Is" "line" "Is", .prop "Either" "one" "PairTest", .prop "Both" "one" "PairTest", .prop "Either" "other" "PairTest", .prop "Both" "other" "PairTest", .prop "Fails" "test" "Fails", .prop "Ends" "word" "WordTest", .prop "Begins" "word" "WordTest", .prop "Has" "word" "WordTest", .meth "Either" "holds" "Either", .meth "Both" "holds" "Both", .meth "Fails" "holds" "Fails", .meth "Only" "holds" "Only"]
def fa3 : List Fm := [.meth "Is" "holds" "Is", .meth "Ends" "holds" "Ends", .meth "Begins" "holds" "Begins", .meth "Has" "holds" "Has", .he (.glo "_law_same"), .he (.free "sorted"), .he (.glo "_law_rules_right"), .he (.glo "_law_jline"), .he (.glo "_law_jlight"), .he (.glo "_law_few"), .he (.glo "_law_pen"), .he (.glo "law"), .own "Either", .isi (.c "Either") (.c "Test") true, .own "Both", .isi (.c "Both") (.c "Test") true, .own "Fails", .isi (.c "Fails") (.c "Test") true, .own "Only", .isi (.c "Only") (.c "Test") true, .own "Is", .isi (.c "Is") (.c "Test") true, .own "Ends", .isi (.c "Ends") (.c "Test") true, .own "Begins", .isi (.c "Begins") (.c "Test") true, .own "Has", .isi (.c "Has") (.c "Test") true, .isi (.t "tuple") (.c "Test") false, .isi (.t "list") (.c "Test") false, .isi (.t "str") (.c "Test") false, .isi (.t "int") (.c "Test") false, .isi (.t "bool") (.c "Test") false, .isi (.t "NoneType") (.c "Test") false, .isi (.c "Either") (.t "str") false, .isi (.c "Both") (.t "str") false, .isi (.c "Fails") (.t "str") false, .isi (.c "Only") (.t "str") false, .isi (.c "Is") (.t "str") false, .isi (.c "Ends") (.t "str") false]
def fa4 : List Fm := [.isi (.c "Begins") (.t "str") false, .isi (.c "Has") (.t "str") false, .isi (.t "tuple") (.t "str") false, .isi (.t "list") (.t "str") false, .isi (.t "str") (.t "str") true, .isi (.t "int") (.t "str") false, .isi (.t "bool") (.t "str") false, .isi (.t "NoneType") (.t "str") false]
def fa : List Fm := fa0 ++ fa1 ++ fa2 ++ fa3 ++ fa4
abbrev file : Str := PW.main.file
structure En (K : PySem.W.Frag) (mg : Str → Option Value) : Prop where
  c : SaysM file fa fn K
  x : ∃ h : Heap, K.In h ∧ h.Ns mainGlobals mg
section
variable {w : World} {K : PySem.W.Frag} {mg : Str → Option Value} {base : Heap}
theorem gl (e : En K mg) (i : Nat) {x : Str} (h : fa[i]? = some (.he (.glo x))) : mg x = some (.ref (ga K x)) := by
  obtain ⟨hp, a, b⟩ := e.x
  exact glo_ok a b (e.c.fact i h)
theorem fr (e : En K mg) (i : Nat) {x : Str} (h : fa[i]? = some (.he (.free x))) : mg x = none := by
  obtain ⟨hp, a, b⟩ := e.x
  exact free_ok a b (e.c.fact i h)
theorem gi (e : En K mg) (i : Nat) {x : Str} {j : Int} (h : fa[i]? = some (.he (.int x j))) : ∃ t, mg x = some (.int j t) := by
  obtain ⟨hp, a, b⟩ := e.x
  exact int_ok a b (e.c.fact i h)
theorem gs (e : En K mg) (i : Nat) {x z : Str} (h : fa[i]? = some (.he (.str x z))) : ∃ t, mg x = some (.str z t) := by
  obtain ⟨hp, a, b⟩ := e.x
  exact str_ok a b (e.c.fact i h)
theorem d__law_draw (e : En K mg) : ∃ fd, FunD K "_law_draw" "_law_draw" (defArgs s__law_draw) (defBody s__law_draw) (defScope s__law_draw) [] [] (ga K "_law_draw") fd := DefM.funD (d := dm__law_draw) rfl (e.c.def_ 0 rfl).1 (e.c.def_ 0 rfl).2
theorem d__law_pick (e : En K mg) : ∃ fd, FunD K "_law_pick" "_law_pick" (defArgs s__law_pick) (defBody s__law_pick) (defScope s__law_pick) [] [] (ga K "_law_pick") fd := DefM.funD (d := dm__law_pick) rfl (e.c.def_ 1 rfl).1 (e.c.def_ 1 rfl).2
theorem d__law_signs (e : En K mg) : ∃ fd, FunD K "_law_signs" "_law_signs" (defArgs s__law_signs) (defBody s__law_signs) (defScope s__law_signs) [] [] (ga K "_law_signs") fd := DefM.funD (d := dm__law_signs) rfl (e.c.def_ 2 rfl).1 (e.c.def_ 2 rfl).2
theorem d__law_few (e : En K mg) : ∃ fd, FunD K "_law_few" "_law_few" (defArgs s__law_few) (defBody s__law_few) (defScope s__law_few) [] [] (ga K "_law_few") fd := DefM.funD (d := dm__law_few) rfl (e.c.def_ 3 rfl).1 (e.c.def_ 3 rfl).2
theorem d__law_row (e : En K mg) : ∃ fd, FunD K "_law_row" "_law_row" (defArgs s__law_row) (defBody s__law_row) (defScope s__law_row) [] [] (ga K "_law_row") fd := DefM.funD (d := dm__law_row) rfl (e.c.def_ 4 rfl).1 (e.c.def_ 4 rfl).2
theorem d__law_goal (e : En K mg) : ∃ fd, FunD K "_law_goal" "_law_goal" (defArgs s__law_goal) (defBody s__law_goal) (defScope s__law_goal) [] [] (ga K "_law_goal") fd := DefM.funD (d := dm__law_goal) rfl (e.c.def_ 5 rfl).1 (e.c.def_ 5 rfl).2
theorem d__law_jleaves (e : En K mg) : ∃ fd, FunD K "_law_jleaves" "_law_jleaves" (defArgs s__law_jleaves) (defBody s__law_jleaves) (defScope s__law_jleaves) [] [] (ga K "_law_jleaves") fd := DefM.funD (d := dm__law_jleaves) rfl (e.c.def_ 6 rfl).1 (e.c.def_ 6 rfl).2
theorem d__law_jlight (e : En K mg) : ∃ fd, FunD K "_law_jlight" "_law_jlight" (defArgs s__law_jlight) (defBody s__law_jlight) (defScope s__law_jlight) [] [] (ga K "_law_jlight") fd := DefM.funD (d := dm__law_jlight) rfl (e.c.def_ 7 rfl).1 (e.c.def_ 7 rfl).2
theorem d__law_jline (e : En K mg) : ∃ fd, FunD K "_law_jline" "_law_jline" (defArgs s__law_jline) (defBody s__law_jline) (defScope s__law_jline) [] [] (ga K "_law_jline") fd := DefM.funD (d := dm__law_jline) rfl (e.c.def_ 8 rfl).1 (e.c.def_ 8 rfl).2
theorem d__law_jwords (e : En K mg) : ∃ fd, FunD K "_law_jwords" "_law_jwords" (defArgs s__law_jwords) (defBody s__law_jwords) (defScope s__law_jwords) [] [] (ga K "_law_jwords") fd := DefM.funD (d := dm__law_jwords) rfl (e.c.def_ 9 rfl).1 (e.c.def_ 9 rfl).2
theorem d_is_line (e : En K mg) : ∃ fd, FunD K "is_line" "is_line" (defArgs s_is_line) (defBody s_is_line) (defScope s_is_line) [] [] (ga K "is_line") fd := DefM.funD (d := dm_is_line) rfl (e.c.def_ 10 rfl).1 (e.c.def_ 10 rfl).2
theorem d_is_word (e : En K mg) : ∃ fd, FunD K "is_word" "is_word" (defArgs s_is_word) (defBody s_is_word) (defScope s_is_word) [] [] (ga K "is_word") fd := DefM.funD (d := dm_is_word) rfl (e.c.def_ 11 rfl).1 (e.c.def_ 11 rfl).2
theorem d_Test_init (e : En K mg) : ∃ fd, FunD K "__init__" "Test.__init__" (defArgs s_Test_init) (defBody s_Test_init) (defScope s_Test_init) [] [] (ma K (ga K "Test") "__init__") fd := DefM.funD (d := dm_Test_init) rfl (e.c.def_ 12 rfl).1 (e.c.def_ 12 rfl).2
theorem d_WordTest_init (e : En K mg) : ∃ fd, SupD PW K "__init__" "WordTest.__init__" (defArgs s_WordTest_init) (defBody s_WordTest_init) (defScope s_WordTest_init) (ga K "WordTest") (ma K (ga K "WordTest") "__init__") fd := DefM.supD (P := PW) (d := dm_WordTest_init) rfl (e.c.def_ 13 rfl).1 (e.c.def_ 13 rfl).2 (e.c.fact 50 rfl) (by decide +kernel)
theorem d_Begins_init (e : En K mg) : ∃ fd, SupD PW K "__init__" "Begins.__init__" (defArgs s_Begins_init) (defBody s_Begins_init) (defScope s_Begins_init) (ga K "Begins") (ma K (ga K "Begins") "__init__") fd := DefM.supD (P := PW) (d := dm_Begins_init) rfl (e.c.def_ 14 rfl).1 (e.c.def_ 14 rfl).2 (e.c.fact 50 rfl) (by decide +kernel)
theorem d_Test_depth (e : En K mg) : ∃ fd, FunD K "depth" "Test.depth" (defArgs s_Test_depth) (defBody s_Test_depth) (defScope s_Test_depth) [] [] (ma K (ga K "Test") "depth") fd := DefM.funD (d := dm_Test_depth) rfl (e.c.def_ 15 rfl).1 (e.c.def_ 15 rfl).2
theorem d_Test_leaves (e : En K mg) : ∃ fd, FunD K "leaves" "Test.leaves" (defArgs s_Test_leaves) (defBody s_Test_leaves) (defScope s_Test_leaves) [] [] (ma K (ga K "Test") "leaves") fd := DefM.funD (d := dm_Test_leaves) rfl (e.c.def_ 16 rfl).1 (e.c.def_ 16 rfl).2
theorem d_need_inner (e : En K mg) : ∃ fd, FunD K "need_inner" "need_inner" (defArgs s_need_inner) (defBody s_need_inner) (defScope s_need_inner) [] [] (ga K "need_inner") fd := DefM.funD (d := dm_need_inner) rfl (e.c.def_ 17 rfl).1 (e.c.def_ 17 rfl).2
theorem d_PairTest_init (e : En K mg) : ∃ fd, SupD PW K "__init__" "PairTest.__init__" (defArgs s_PairTest_init) (defBody s_PairTest_init) (defScope s_PairTest_init) (ga K "PairTest") (ma K (ga K "PairTest") "__init__") fd := DefM.supD (P := PW) (d := dm_PairTest_init) rfl (e.c.def_ 18 rfl).1 (e.c.def_ 18 rfl).2 (e.c.fact 50 rfl) (by decide +kernel)
theorem d_Both_init (e : En K mg) : ∃ fd, SupD PW K "__init__" "Both.__init__" (defArgs s_Both_init) (defBody s_Both_init) (defScope s_Both_init) (ga K "Both") (ma K (ga K "Both") "__init__") fd := DefM.supD (P := PW) (d := dm_Both_init) rfl (e.c.def_ 19 rfl).1 (e.c.def_ 19 rfl).2 (e.c.fact 50 rfl) (by decide +kernel)
theorem d_Either_init (e : En K mg) : ∃ fd, SupD PW K "__init__" "Either.__init__" (defArgs s_Either_init) (defBody s_Either_init) (defScope s_Either_init) (ga K "Either") (ma K (ga K "Either") "__init__") fd := DefM.supD (P := PW) (d := dm_Either_init) rfl (e.c.def_ 20 rfl).1 (e.c.def_ 20 rfl).2 (e.c.fact 50 rfl) (by decide +kernel)
theorem d_Ends_init (e : En K mg) : ∃ fd, SupD PW K "__init__" "Ends.__init__" (defArgs s_Ends_init) (defBody s_Ends_init) (defScope s_Ends_init) (ga K "Ends") (ma K (ga K "Ends") "__init__") fd := DefM.supD (P := PW) (d := dm_Ends_init) rfl (e.c.def_ 21 rfl).1 (e.c.def_ 21 rfl).2 (e.c.fact 50 rfl) (by decide +kernel)
theorem d_Fails_init (e : En K mg) : ∃ fd, SupD PW K "__init__" "Fails.__init__" (defArgs s_Fails_init) (defBody s_Fails_init) (defScope s_Fails_init) (ga K "Fails") (ma K (ga K "Fails") "__init__") fd := DefM.supD (P := PW) (d := dm_Fails_init) rfl (e.c.def_ 22 rfl).1 (e.c.def_ 22 rfl).2 (e.c.fact 50 rfl) (by decide +kernel)
theorem d_Has_init (e : En K mg) : ∃ fd, SupD PW K "__init__" "Has.__init__" (defArgs s_Has_init) (defBody s_Has_init) (defScope s_Has_init) (ga K "Has") (ma K (ga K "Has") "__init__") fd := DefM.supD (P := PW) (d := dm_Has_init) rfl (e.c.def_ 23 rfl).1 (e.c.def_ 23 rfl).2 (e.c.fact 50 rfl) (by decide +kernel)
theorem d_Is_init (e : En K mg) : ∃ fd, SupD PW K "__init__" "Is.__init__" (defArgs s_Is_init) (defBody s_Is_init) (defScope s_Is_init) (ga K "Is") (ma K (ga K "Is") "__init__") fd := DefM.supD (P := PW) (d := dm_Is_init) rfl (e.c.def_ 24 rfl).1 (e.c.def_ 24 rfl).2 (e.c.fact 50 rfl) (by decide +kernel)
theorem d_Only_init (e : En K mg) : ∃ fd, SupD PW K "__init__" "Only.__init__" (defArgs s_Only_init) (defBody s_Only_init) (defScope s_Only_init) (ga K "Only") (ma K (ga K "Only") "__init__") fd := DefM.supD (P := PW) (d := dm_Only_init) rfl (e.c.def_ 25 rfl).1 (e.c.def_ 25 rfl).2 (e.c.fact 50 rfl) (by decide +kernel)
theorem d__law_made_goal (e : En K mg) : ∃ fd, FunD K "_law_made_goal" "_law_made_goal" (defArgs s__law_made_goal) (defBody s__law_made_goal) (defScope s__law_made_goal) [] [] (ga K "_law_made_goal") fd := DefM.funD (d := dm__law_made_goal) rfl (e.c.def_ 26 rfl).1 (e.c.def_ 26 rfl).2
theorem d__law_pen (e : En K mg) : ∃ fd, FunD K "_law_pen" "_law_pen" (defArgs s__law_pen) (defBody s__law_pen) (defScope s__law_pen) [] [] (ga K "_law_pen") fd := DefM.funD (d := dm__law_pen) rfl (e.c.def_ 27 rfl).1 (e.c.def_ 27 rfl).2
theorem d_Only_letters (e : En K mg) : ∃ fd, FunD K "letters" "Only.letters" (defArgs s_Only_letters) (defBody s_Only_letters) (defScope s_Only_letters) [] [] (pgA K "Only" "letters") fd := DefM.funD (d := dm_Only_letters) rfl (e.c.def_ 28 rfl).1 (e.c.def_ 28 rfl).2
theorem d_Is_line (e : En K mg) : ∃ fd, FunD K "line" "Is.line" (defArgs s_Is_line) (defBody s_Is_line) (defScope s_Is_line) [] [] (pgA K "Is" "line") fd := DefM.funD (d := dm_Is_line) rfl (e.c.def_ 29 rfl).1 (e.c.def_ 29 rfl).2
theorem d_PairTest_one (e : En K mg) : ∃ fd, FunD K "one" "PairTest.one" (defArgs s_PairTest_one) (defBody s_PairTest_one) (defScope s_PairTest_one) [] [] (pgA K "PairTest" "one") fd := DefM.funD (d := dm_PairTest_one) rfl (e.c.def_ 30 rfl).1 (e.c.def_ 30 rfl).2
theorem d_PairTest_other (e : En K mg) : ∃ fd, FunD K "other" "PairTest.other" (defArgs s_PairTest_other) (defBody s_PairTest_other) (defScope s_PairTest_other) [] [] (pgA K "PairTest" "other") fd := DefM.funD (d := dm_PairTest_other) rfl (e.c.def_ 31 rfl).1 (e.c.def_ 31 rfl).2
theorem d_Fails_test (e : En K mg) : ∃ fd, FunD K "test" "Fails.test" (defArgs s_Fails_test) (defBody s_Fails_test) (defScope s_Fails_test) [] [] (pgA K "Fails" "test") fd := DefM.funD (d := dm_Fails_test) rfl (e.c.def_ 32 rfl).1 (e.c.def_ 32 rfl).2
theorem d_WordTest_word (e : En K mg) : ∃ fd, FunD K "word" "WordTest.word" (defArgs s_WordTest_word) (defBody s_WordTest_word) (defScope s_WordTest_word) [] [] (pgA K "WordTest" "word") fd := DefM.funD (d := dm_WordTest_word) rfl (e.c.def_ 33 rfl).1 (e.c.def_ 33 rfl).2
theorem d_Has_holds (e : En K mg) : ∃ fd, FunD K "holds" "Has.holds" (defArgs s_Has_holds) (defBody s_Has_holds) (defScope s_Has_holds) [] [] (ma K (ga K "Has") "holds") fd := DefM.funD (d := dm_Has_holds) rfl (e.c.def_ 34 rfl).1 (e.c.def_ 34 rfl).2
theorem d_Begins_holds (e : En K mg) : ∃ fd, FunD K "holds" "Begins.holds" (defArgs s_Begins_holds) (defBody s_Begins_holds) (defScope s_Begins_holds) [] [] (ma K (ga K "Begins") "holds") fd := DefM.funD (d := dm_Begins_holds) rfl (e.c.def_ 35 rfl).1 (e.c.def_ 35 rfl).2
theorem d_Ends_holds (e : En K mg) : ∃ fd, FunD K "holds" "Ends.holds" (defArgs s_Ends_holds) (defBody s_Ends_holds) (defScope s_Ends_holds) [] [] (ma K (ga K "Ends") "holds") fd := DefM.funD (d := dm_Ends_holds) rfl (e.c.def_ 36 rfl).1 (e.c.def_ 36 rfl).2
theorem d_Is_holds (e : En K mg) : ∃ fd, FunD K "holds" "Is.holds" (defArgs s_Is_holds) (defBody s_Is_holds) (defScope s_Is_holds) [] [] (ma K (ga K "Is") "holds") fd := DefM.funD (d := dm_Is_holds) rfl (e.c.def_ 37 rfl).1 (e.c.def_ 37 rfl).2
theorem d_Only_holds (e : En K mg) : ∃ fd, FunD K "holds" "Only.holds" (defArgs s_Only_holds) (defBody s_Only_holds) (defScope s_Only_holds) [] [] (ma K (ga K "Only") "holds") fd := DefM.funD (d := dm_Only_holds) rfl (e.c.def_ 38 rfl).1 (e.c.def_ 38 rfl).2
theorem d_Fails_holds (e : En K mg) : ∃ fd, FunD K "holds" "Fails.holds" (defArgs s_Fails_holds) (defBody s_Fails_holds) (defScope s_Fails_holds) [] [] (ma K (ga K "Fails") "holds") fd := DefM.funD (d := dm_Fails_holds) rfl (e.c.def_ 39 rfl).1 (e.c.def_ 39 rfl).2
theorem d_Both_holds (e : En K mg) : ∃ fd, FunD K "holds" "Both.holds" (defArgs s_Both_holds) (defBody s_Both_holds) (defScope s_Both_holds) [] [] (ma K (ga K "Both") "holds") fd := DefM.funD (d := dm_Both_holds) rfl (e.c.def_ 40 rfl).1 (e.c.def_ 40 rfl).2
theorem d_Either_holds (e : En K mg) : ∃ fd, FunD K "holds" "Either.holds" (defArgs s_Either_holds) (defBody s_Either_holds) (defScope s_Either_holds) [] [] (ma K (ga K "Either") "holds") fd := DefM.funD (d := dm_Either_holds) rfl (e.c.def_ 41 rfl).1 (e.c.def_ 41 rfl).2
theorem d__law_same (e : En K mg) : ∃ fd, FunD K "_law_same" "_law_same" (defArgs s__law_same) (defBody s__law_same) (defScope s__law_same) [] [] (ga K "_law_same") fd := DefM.funD (d := dm__law_same) rfl (e.c.def_ 42 rfl).1 (e.c.def_ 42 rfl).2
theorem d__law_rules_right (e : En K mg) : ∃ fd, FunD K "_law_rules_right" "_law_rules_right" (defArgs s__law_rules_right) (defBody s__law_rules_right) (defScope s__law_rules_right) [] [] (ga K "_law_rules_right") fd := DefM.funD (d := dm__law_rules_right) rfl (e.c.def_ 43 rfl).1 (e.c.def_ 43 rfl).2
theorem d_law (e : En K mg) : ∃ fd, FunD K "law" "law" (defArgs s_law) (defBody s_law) (defScope s_law) [] [] (ga K "law") fd := DefM.funD (d := dm_law) rfl (e.c.def_ 44 rfl).1 (e.c.def_ 44 rfl).2
def is_Test : IsTb := [(.t "NoneType", false), (.t "bool", false), (.t "int", false), (.t "str", false), (.t "list", false), (.t "tuple", false), (.c "Has", true), (.c "Begins", true), (.c "Ends", true), (.c "Is", true), (.c "Only", true), (.c "Fails", true), (.c "Both", true), (.c "Either", true)]
theorem isok_Test (e : En K mg) : IsOk K (vTy K (.c "Test")) is_Test := (.cons (fm_isi (e.c.fact 153 rfl)) (fun c h => by cases h)
  (.cons (fm_isi (e.c.fact 152 rfl)) (fun c h => by cases h)
  (.cons (fm_isi (e.c.fact 151 rfl)) (fun c h => by cases h)
  (.cons (fm_isi (e.c.fact 150 rfl)) (fun c h => by cases h)
  (.cons (fm_isi (e.c.fact 149 rfl)) (fun c h => by cases h)
  (.cons (fm_isi (e.c.fact 148 rfl)) (fun c h => by cases h)
  (.cons (fm_isi (e.c.fact 147 rfl)) (fun c h => by cases h; exact fm_own (e.c.fact 146 rfl) (cls_ok (e.c.fact 18 rfl)))
  (.cons (fm_isi (e.c.fact 145 rfl)) (fun c h => by cases h; exact fm_own (e.c.fact 144 rfl) (cls_ok (e.c.fact 20 rfl)))
  (.cons (fm_isi (e.c.fact 143 rfl)) (fun c h => by cases h; exact fm_own (e.c.fact 142 rfl) (cls_ok (e.c.fact 22 rfl)))
  (.cons (fm_isi (e.c.fact 141 rfl)) (fun c h => by cases h; exact fm_own (e.c.fact 140 rfl) (cls_ok (e.c.fact 24 rfl)))
  (.cons (fm_isi (e.c.fact 139 rfl)) (fun c h => by cases h; exact fm_own (e.c.fact 138 rfl) (cls_ok (e.c.fact 26 rfl)))
  (.cons (fm_isi (e.c.fact 137 rfl)) (fun c h => by cases h; exact fm_own (e.c.fact 136 rfl) (cls_ok (e.c.fact 28 rfl)))
  (.cons (fm_isi (e.c.fact 135 rfl)) (fun c h => by cases h; exact fm_own (e.c.fact 134 rfl) (cls_ok (e.c.fact 30 rfl)))
  (.cons (fm_isi (e.c.fact 133 rfl)) (fun c h => by cases h; exact fm_own (e.c.fact 132 rfl) (cls_ok (e.c.fact 32 rfl)))
  .nil))))))))))))))
def is_str : IsTb := [(.t "NoneType", false), (.t "bool", false), (.t "int", false), (.t "str", true), (.t "list", false), (.t "tuple", false), (.c "Has", false), (.c "Begins", false), (.c "Ends", false), (.c "Is", false), (.c "Only", false), (.c "Fails", false), (.c "Both", false), (.c "Either", false)]
theorem isok_str (e : En K mg) : IsOk K (vTy K (.t "str")) is_str := (.cons (fm_isi (e.c.fact 167 rfl)) (fun c h => by cases h)
  (.cons (fm_isi (e.c.fact 166 rfl)) (fun c h => by cases h)
  (.cons (fm_isi (e.c.fact 165 rfl)) (fun c h => by cases h)
  (.cons (fm_isi (e.c.fact 164 rfl)) (fun c h => by cases h)
  (.cons (fm_isi (e.c.fact 163 rfl)) (fun c h => by cases h)
  (.cons (fm_isi (e.c.fact 162 rfl)) (fun c h => by cases h)
  (.cons (fm_isi (e.c.fact 161 rfl)) (fun c h => by cases h; exact fm_own (e.c.fact 146 rfl) (cls_ok (e.c.fact 18 rfl)))
  (.cons (fm_isi (e.c.fact 160 rfl)) (fun c h => by cases h; exact fm_own (e.c.fact 144 rfl) (cls_ok (e.c.fact 20 rfl)))
  (.cons (fm_isi (e.c.fact 159 rfl)) (fun c h => by cases h; exact fm_own (e.c.fact 142 rfl) (cls_ok (e.c.fact 22 rfl)))
  (.cons (fm_isi (e.c.fact 158 rfl)) (fun c h => by cases h; exact fm_own (e.c.fact 140 rfl) (cls_ok (e.c.fact 24 rfl)))
  (.cons (fm_isi (e.c.fact 157 rfl)) (fun c h => by cases h; exact fm_own (e.c.fact 138 rfl) (cls_ok (e.c.fact 26 rfl)))
  (.cons (fm_isi (e.c.fact 156 rfl)) (fun c h => by cases h; exact fm_own (e.c.fact 136 rfl) (cls_ok (e.c.fact 28 rfl)))
  (.cons (fm_isi (e.c.fact 155 rfl)) (fun c h => by cases h; exact fm_own (e.c.fact 134 rfl) (cls_ok (e.c.fact 30 rfl)))
  (.cons (fm_isi (e.c.fact 154 rfl)) (fun c h => by cases h; exact fm_own (e.c.fact 132 rfl) (cls_ok (e.c.fact 32 rfl)))
  .nil))))))))))))))
abbrev N__law_draw : List Str := ["_law_pen_here", "_law_span", "_law_digit", "_law_turn", "_law_cell", "_law_primes", "_law_prime", "_law_drawn"]
theorem sc__law_draw : FnScope N__law_draw ["_law_pen_here", "_law_span"] (defScope s__law_draw) := ⟨rfl, rfl, rfl, by decide +kernel, rfl, by decide +kernel, by decide +kernel⟩
theorem fk__law_draw (e : En K mg) : Fk PW w K mg base 2 (ga K "_law_draw") (Pr K 2 drawD) := by
  obtain ⟨fd, F⟩ := d__law_draw e
  refine ⟨fd, _, F.ok (CX := CX0) (k := 1) sc__law_draw Pr.len fun cdv A outer s H vs Q E hr h => ⟨t_draw K, PSs.nox ?_, draw_pure h⟩, F.bindsN (fun _ _ _ _ _ _ us hl => match us, hl with | [_, _], _ => rfl), F.kp⟩
  exact (pss_cons (ps_if (pt_cmpR op_gt (pe_dget (hu_of hr) (pv 0) pe_str (fun _ _ => rfl)) pe_int (nomark _)) (pss_cons (ps_set (i := 2) sc__law_draw.nd rfl (by first | exact Or.inl rfl | exact Or.inr rfl) (pe_op op_mod (pe_callTy call_int1 rfl (fr e 2 rfl) boot_int (pa_cons (pe_dget (hu_of hr) (pv 0) pe_str (fun _ _ => rfl)) pa_nil)) (pv 1))) (pss_cons (ps_dput (hu_of hr) (pv 0) pe_str (pe_op op_fdiv (pe_dget (hu_of hr) (pv 0) pe_str (fun _ _ => rfl)) (pv 1)) rfl) (pss_one (ps_ret (pv 2))))) pss_nil)
  (pss_cons (ps_set (i := 3) sc__law_draw.nd rfl (by first | exact Or.inl rfl | exact Or.inr rfl) (pe_dget (hu_of hr) (pv 0) pe_str (fun _ _ => rfl)))
  (pss_cons (ps_dput (hu_of hr) (pv 0) pe_str (pe_op op_add (pv 3) pe_int) rfl)
  (pss_cons (ps_set (i := 4) sc__law_draw.nd rfl (by first | exact Or.inl rfl | exact Or.inr rfl) (pe_op op_add (pe_op op_mul pe_int (pv 3)) pe_int))
  (pss_cons (ps_if (pt_cmpR (op_neU hr.units) (pe_dget (hu_of hr) (pv 0) pe_str (fun _ _ => rfl)) (pe_lst pa_nil) (nomark _)) (pss_one (ps_set (i := 4) sc__law_draw.nd rfl (by first | exact Or.inl rfl | exact Or.inr rfl) (pe_ix ix_seq (pe_dget (hu_of hr) (pv 0) pe_str (fun _ _ => rfl)) (pe_op op_mod (pe_callTy call_int1 rfl (fr e 2 rfl) boot_int (pa_cons (pv 3) pa_nil)) (pe_callB call_len rfl (fr e 1 rfl) boot_len (pa_cons (pe_dget (hu_of hr) (pv 0) pe_str (fun _ _ => rfl)) pa_nil))) (fun _ _ => rfl)))) pss_nil)
  (pss_cons (ps_if (PW.pt (pw_and (pt_cmpR op_lt (pv 3) (pe_callB call_len rfl (fr e 1 rfl) boot_len (pa_cons (pe_dget (hu_of hr) (pv 0) pe_str (fun _ _ => rfl)) pa_nil)) (nomark _)) (pw_and1 (pt_cmpR op_ge (pe_callB call_abs rfl (fr e 0 rfl) boot_abs (pa_cons (pv 4) pa_nil)) (pe_op op_pow pe_int pe_int) (nomark _))))) (pss_cons (ps_dput (hu_of hr) (pv 0) pe_str (pe_op op_fdiv (pe_op op_sub (pe_callB call_abs rfl (fr e 0 rfl) boot_abs (pa_cons (pv 4) pa_nil)) (pe_op op_pow pe_int pe_int)) (pv 1)) rfl) (pss_one (ps_ret (pe_op op_mod (pe_op op_sub (pe_callB call_abs rfl (fr e 0 rfl) boot_abs (pa_cons (pv 4) pa_nil)) (pe_op op_pow pe_int pe_int)) (pv 1))))) pss_nil)
  (pss_cons (ps_set (i := 5) sc__law_draw.nd rfl (by first | exact Or.inl rfl | exact Or.inr rfl) (pe_lst (pa_cons pe_int (pa_cons pe_int (pa_cons pe_int (pa_cons pe_int (pa_cons pe_int pa_nil)))))))
  (pss_cons (ps_set (i := 6) sc__law_draw.nd rfl (by first | exact Or.inl rfl | exact Or.inr rfl) (pe_ix ix_seq (pv 5) (pe_op op_mod (pe_callTy call_int1 rfl (fr e 2 rfl) boot_int (pa_cons (pv 3) pa_nil)) pe_int) (fun _ _ => rfl)))
  (pss_cons (ps_set (i := 7) sc__law_draw.nd rfl (by first | exact Or.inl rfl | exact Or.inr rfl) (pe_op op_mod (pe_callTy call_int1 rfl (fr e 2 rfl) boot_int (pa_cons (pe_op op_add (pe_op op_add (pe_op op_mul (pe_op op_mod (pe_callTy call_int1 rfl (fr e 2 rfl) boot_int (pa_cons (pv 4) pa_nil)) (pv 6)) pe_int) (pe_op op_mul (pv 3) (pe_op op_add (pe_op op_mul pe_int (pv 3)) pe_int))) pe_int) pa_nil)) (pv 6)))
  (pss_cons (ps_set (i := 7) sc__law_draw.nd rfl (by first | exact Or.inl rfl | exact Or.inr rfl) (pe_op op_mod (pe_callTy call_int1 rfl (fr e 2 rfl) boot_int (pa_cons (pe_op op_mul (pv 7) (pe_op op_add (pv 7) pe_int)) pa_nil)) (pe_ix ix_seq (pv 5) (pe_op op_mod (pe_callTy call_int1 rfl (fr e 2 rfl) boot_int (pa_cons (pe_op op_add (pv 3) pe_int) pa_nil)) pe_int) (fun _ _ => rfl))))
  (pss_one (ps_ret (pe_op op_mod (pe_callTy call_int1 rfl (fr e 2 rfl) boot_int (pa_cons (pe_op op_fdiv (pe_op op_mod (pe_callTy call_int1 rfl (fr e 2 rfl) boot_int (pa_cons (pe_op op_add (pe_op op_add (pe_op op_mul (pv 7) (pv 7)) (pe_op op_mul pe_int (pv 7))) (pv 3)) pa_nil)) pe_int) pe_int) pa_nil)) (pv 1))))))))))))))
abbrev g__law_draw : List D → W D := drawD
abbrev N__law_pick : List Str := ["_law_pen_here", "_law_options"]
theorem sc__law_pick : FnScope N__law_pick ["_law_pen_here", "_law_options"] (defScope s__law_pick) := ⟨rfl, rfl, rfl, by decide +kernel, rfl, by decide +kernel, by decide +kernel⟩
@[reducible] def b__law_pick : List Sl → W Out := (dRet (dOp2 ixD (dVar 1) (dCall 2 g__law_draw (dCons (dVar 0) (dCons (dOpn lenD (dCons (dVar 1) dNil)) dNil)))))
def g__law_pick : List D → W D := dBody N__law_pick b__law_pick
theorem fk__law_pick (e : En K mg) : Fk PW w K mg base 6 (ga K "_law_pick") (Pr K 2 g__law_pick) := by
  obtain ⟨fd, F⟩ := d__law_pick e
  exact ⟨fd, _, fn_lx (CX := CX0) (b := b__law_pick) (k := 5) F sc__law_pick (ls_ret (le_op2 lo_ix le_var (le_call (la_cons le_var (la_cons (le_opn lo_len (la_cons le_var la_nil)) la_nil))))) (fun cdv A outer s H E hr => (pss_one (ps_ret (pe_ix ix_seq (pv 1) (pe_fk (fk__law_draw e) (hr.mono (by omega)) rfl (gl e 3 rfl) (pa_cons (pv 0) (pa_cons (pe_callB call_len rfl (fr e 1 rfl) boot_len (pa_cons (pv 1) pa_nil)) pa_nil))) (fun _ _ => rfl))))), F.bindsN (fun _ _ _ _ _ _ us hl => match us, hl with | [_, _], _ => rfl), F.kp⟩
abbrev N__law_signs : List Str := []
theorem sc__law_signs : FnScope N__law_signs [] (defScope s__law_signs) := ⟨rfl, rfl, rfl, by decide +kernel, rfl, by decide +kernel, by decide +kernel⟩
@[reducible] def b__law_signs : List Sl → W Out := (dRet (dC (.str (" !\"#$&'()*+,-./0123456789:;<=>?@ABCDEFGHIJKLMNOPQRSTUVWXYZ[\\]^_`abcdefghijklmnopqrstuvwxyz{|}~" : Str))))
def g__law_signs : List D → W D := dBody N__law_signs b__law_signs
theorem fk__law_signs (e : En K mg) : Fk PW w K mg base 2 (ga K "_law_signs") (Pr K 0 g__law_signs) := by
  obtain ⟨fd, F⟩ := d__law_signs e
  exact ⟨fd, _, fn_lx (CX := CX0) (b := b__law_signs) (k := 1) F sc__law_signs (ls_ret le_str) (fun cdv A outer s H E hr => (pss_one (ps_ret pe_str))), F.bindsN (fun _ _ _ _ _ _ us hl => match us, hl with | [], _ => rfl), F.kp⟩
theorem choose_spec__law_signs (e : En K mg) : FunD K "_law_signs" "_law_signs" (defArgs s__law_signs) (defBody s__law_signs) (defScope s__law_signs) [] [] (ga K "_law_signs") (Classical.choose (d__law_signs e)) := Classical.choose_spec (d__law_signs e)
theorem choose_b__law_signs (e : En K mg) : Binds K (Classical.choose (d__law_signs e)) [] [] := (choose_spec__law_signs e).bindsN (fun _ _ _ _ _ _ us hl => match us, hl with | [], _ => rfl)
abbrev N__law_few : List Str := ["_law_pen_here", "_law_some", "_law_rare", "_law_k"]
theorem sc__law_few : FnScope N__law_few ["_law_pen_here"] (defScope s__law_few) := ⟨rfl, rfl, rfl, by decide +kernel, rfl, by decide +kernel, by decide +kernel⟩
@[reducible] def b__law_few : List Sl → W Out := (dSeq (dAsg (dLst (dCons (dCall 2 g__law_pick (dCons (dVar 0) (dCons (dC (.str (" !\"#$&'()*+,-./0123456789:;<=>?@ABCDEFGHIJKLMNOPQRSTUVWXYZ[\\]^_`abcdefghijklmnoprstuvwxyz{|}~" : Str))) dNil))) (dCons (dCall 2 g__law_pick (dCons (dVar 0) (dCons (dC (.str ("yz" : Str))) dNil))) (dCons (dCall 2 g__law_pick (dCons (dVar 0) (dCons (dC (.str ("(" : Str))) dNil))) dNil)))) (dName 1))
  (dSeq (dAsg (dMs (joinD) (dC (.str ("" : Str))) (dCons (dLc (dIR1 (dCons (dC (.int 3)) dNil)) (dName 3) (dTest (dOp2 (inD true) (dOp2 ixD (dVar 1) (dVar 3)) (dSl (dVar 1) dNoPart (dPart (dVar 3))))) (dOp2 ixD (dVar 1) (dVar 3)) [3]) dNil)) (dName 2))
  (dRet (dCall 2 g__law_pick (dCons (dVar 0) (dCons (dLst (dCons (dC (.str ("ab" : Str))) (dCons (dC (.str ("ab" : Str))) (dCons (dC (.str ("abc" : Str))) (dCons (dC (.str ("abc" : Str))) (dCons (dC (.str ("a " : Str))) (dCons (dC (.str ("x~" : Str))) (dCons (dC (.str ("01" : Str))) (dCons (dC (.str ("\"\\" : Str))) (dCons (dVar 2) dNil)))))))))) dNil))))))
def g__law_few : List D → W D := dBody N__law_few b__law_few
theorem fk__law_few (e : En K mg) : Fk PW w K mg base 10 (ga K "_law_few") (Pr K 1 g__law_few) := by
  obtain ⟨fd, F⟩ := d__law_few e
  exact ⟨fd, _, fn_lx (CX := CX0) (b := b__law_few) (k := 9) F sc__law_few (ls_seq (ls_asg (le_lst (la_cons (le_call (la_cons le_var (la_cons le_str la_nil))) (la_cons (le_call (la_cons le_var (la_cons le_str la_nil))) (la_cons (le_call (la_cons le_var (la_cons le_str la_nil))) la_nil)))) lg_name)
  (ls_seq (ls_asg (le_ms lo_join le_str (la_cons (le_lc (li_range1 (la_cons le_int la_nil)) lg_name (lt_test (le_op2 lo_in (le_op2 lo_ix le_var le_var) (le_sl le_var lp_none (lp_some le_var)))) (le_op2 lo_ix le_var le_var) (fun _ h => h)) la_nil)) lg_name)
  (ls_ret (le_call (la_cons le_var (la_cons (le_lst (la_cons le_str (la_cons le_str (la_cons le_str (la_cons le_str (la_cons le_str (la_cons le_str (la_cons le_str (la_cons le_str (la_cons le_var la_nil)))))))))) la_nil)))))) (fun cdv A outer s H E hr => (pss_cons (ps_set (i := 1) sc__law_few.nd rfl (by first | exact Or.inl rfl | exact Or.inr rfl) (pe_lst (pa_cons (pe_fk (fk__law_pick e) (hr.mono (by omega)) rfl (gl e 4 rfl) (pa_cons (pv 0) (pa_cons (pe_crepl (k := 0) (choose_spec__law_signs e) sc__law_signs (choose_b__law_signs e) (hr.mono (by omega)) rfl (gl e 6 rfl) (by decide) (by decide +kernel) (by decide +kernel)) pa_nil))) (pa_cons (pe_fk (fk__law_pick e) (hr.mono (by omega)) rfl (gl e 4 rfl) (pa_cons (pv 0) (pa_cons pe_str pa_nil))) (pa_cons (pe_fk (fk__law_pick e) (hr.mono (by omega)) rfl (gl e 4 rfl) (pa_cons (pv 0) (pa_cons pe_str pa_nil))) pa_nil)))))
  (pss_cons (ps_set (i := 2) sc__law_few.nd rfl (by first | exact Or.inl rfl | exact Or.inr rfl) (pe_bm PySem.F.plainAttrs_str PySem.F.slot_str_join PySem.F.type_str_join mt_join pe_str (pa_cons (pe_lc (own := [("_law_k", 3)]) rfl sc__law_few.nd (pi_range1 rfl (fr e 5 rfl) (pa_cons pe_int pa_nil)) (blkOk_by (N := N__law_few) (sc := defScope s__law_few) (by decide +kernel)) (fun _ _ _ _ _ => (pg_name (i := 3) sc__law_few.nd rfl (by first | exact Or.inl rfl | exact Or.inr rfl))) (fun _ _ _ _ _ => (pts_one (pt_cmpR op_notInU (pe_ix ix_seq (pv 1) (pv 3) (fun _ _ => rfl)) (pe_slice sl_U (pv 1) po_none (po_some (pv 3))) rfl))) (fun _ _ _ _ _ => (pe_ix ix_seq (pv 1) (pv 3) (fun _ _ => rfl)))) pa_nil)))
  (pss_one (ps_ret (pe_fk (fk__law_pick e) (hr.mono (by omega)) rfl (gl e 4 rfl) (pa_cons (pv 0) (pa_cons (pe_lst (pa_cons pe_str (pa_cons pe_str (pa_cons pe_str (pa_cons pe_str (pa_cons pe_str (pa_cons pe_str (pa_cons pe_str (pa_cons pe_str (pa_cons (pv 2) pa_nil)))))))))) pa_nil)))))))), F.bindsN (fun _ _ _ _ _ _ us hl => match us, hl with | [_], _ => rfl), F.kp⟩
abbrev N__law_row : List Str := ["_law_pen_here", "_law_signs_here", "_law_least", "_law_most_letters", "_law_span", "_law_k"]
theorem sc__law_row : FnScope N__law_row ["_law_pen_here", "_law_signs_here", "_law_least", "_law_most_letters"] (defScope s__law_row) := ⟨rfl, rfl, rfl, by decide +kernel, rfl, by decide +kernel, by decide +kernel⟩
@[reducible] def b__law_row : List Sl → W Out := (dSeq (dAsg (dOp2 addD (dVar 2) (dCall 2 g__law_draw (dCons (dVar 0) (dCons (dOp2 addD (dOp2 subD (dVar 3) (dVar 2)) (dC (.int 1))) dNil)))) (dName 4))
  (dRet (dMs (joinD) (dC (.str ("" : Str))) (dCons (dLc (dIR1 (dCons (dVar 4) dNil)) (dName 5) dYes (dCall 2 g__law_pick (dCons (dVar 0) (dCons (dVar 1) dNil))) [5]) dNil))))
def g__law_row : List D → W D := dBody N__law_row b__law_row
theorem fk__law_row (e : En K mg) : Fk PW w K mg base 10 (ga K "_law_row") (Pr K 4 g__law_row) := by
  obtain ⟨fd, F⟩ := d__law_row e
  exact ⟨fd, _, fn_lx (CX := CX0) (b := b__law_row) (k := 9) F sc__law_row (ls_seq (ls_asg (le_op2 lo_add le_var (le_call (la_cons le_var (la_cons (le_op2 lo_add (le_op2 lo_sub le_var le_var) le_int) la_nil)))) lg_name)
  (ls_ret (le_ms lo_join le_str (la_cons (le_lc (li_range1 (la_cons le_var la_nil)) lg_name lt_yes (le_call (la_cons le_var (la_cons le_var la_nil))) (fun _ h => h)) la_nil)))) (fun cdv A outer s H E hr => (pss_cons (ps_set (i := 4) sc__law_row.nd rfl (by first | exact Or.inl rfl | exact Or.inr rfl) (pe_op op_addU (pv 2) (pe_fk (fk__law_draw e) (hr.mono (by omega)) rfl (gl e 3 rfl) (pa_cons (pv 0) (pa_cons (pe_op op_addU (pe_op op_sub (pv 3) (pv 2)) pe_int) pa_nil)))))
  (pss_one (ps_ret (pe_bm PySem.F.plainAttrs_str PySem.F.slot_str_join PySem.F.type_str_join mt_join pe_str (pa_cons (pe_lc (own := [("_law_k", 5)]) rfl sc__law_row.nd (pi_range1 rfl (fr e 5 rfl) (pa_cons (pv 4) pa_nil)) (blkOk_by (N := N__law_row) (sc := defScope s__law_row) (by decide +kernel)) (fun _ _ _ _ _ => (pg_name (i := 5) sc__law_row.nd rfl (by first | exact Or.inl rfl | exact Or.inr rfl))) (fun _ _ _ _ _ => pts_nil) (fun _ _ _ _ _ => (pe_fk (fk__law_pick e) (hr.mono (by omega)) rfl (gl e 4 rfl) (pa_cons (pv 0) (pa_cons (pv 1) pa_nil))))) pa_nil)))))), F.bindsN (fun _ _ _ _ _ _ us hl => match us, hl with | [_, _, _, _], _ => rfl), F.kp⟩
abbrev N__law_goal : List Str := ["_law_pen_here", "_law_signs_here", "_law_wide", "_law_deep", "_law_way", "_law_first"]
theorem sc__law_goal : FnScope N__law_goal ["_law_pen_here", "_law_signs_here", "_law_wide", "_law_deep"] (defScope s__law_goal) := ⟨rfl, rfl, rfl, by decide +kernel, rfl, by decide +kernel, by decide +kernel⟩
@[reducible] def b__law_goal (g__law_goal : Nat → List D → W D) (k : Nat) : List Sl → W Out := (dSeq (dAsg (dIfE (dTest (dOp2 gtD (dVar 3) (dC (.int 0)))) (dCall 2 g__law_draw (dCons (dVar 0) (dCons (dC (.int 9)) dNil))) (dCall 2 g__law_draw (dCons (dVar 0) (dCons (dC (.int 6)) dNil)))) (dName 4))
  (dSeq (dIf (dTest (dOp2 ltD (dVar 4) (dC (.int 3)))) (dRet (dTup (dCons (dCall 2 g__law_pick (dCons (dVar 0) (dCons (dLst (dCons (dC (.str ("has" : Str))) (dCons (dC (.str ("begins" : Str))) (dCons (dC (.str ("ends" : Str))) dNil)))) dNil))) (dCons (dCall 4 g__law_row (dCons (dVar 0) (dCons (dVar 1) (dCons (dC (.int 1)) (dCons (dVar 2) dNil))))) dNil)))) dNext)
  (dSeq (dIf (dTest (dOp2 eqD (dVar 4) (dC (.int 3)))) (dRet (dTup (dCons (dC (.str ("is" : Str))) (dCons (dCall 4 g__law_row (dCons (dVar 0) (dCons (dVar 1) (dCons (dC (.int 0)) (dCons (dVar 2) dNil))))) dNil)))) dNext)
  (dSeq (dIf (dTest (dOp2 ltD (dVar 4) (dC (.int 6)))) (dRet (dCall 2 g__law_pick (dCons (dVar 0) (dCons (dLst (dCons (dTup (dCons (dC (.str ("only" : Str))) (dCons (dSl (dVar 1) dNoPart (dPart (dC (.int 1)))) dNil))) (dCons (dTup (dCons (dC (.str ("only" : Str))) (dCons (dSl (dVar 1) dNoPart (dPart (dC (.int 2)))) dNil))) (dCons (dTup (dCons (dC (.str ("only" : Str))) (dCons (dC (.str ("" : Str))) dNil))) (dCons (dTup (dCons (dC (.str ("has" : Str))) (dCons (dOp2 ixD (dVar 1) (dC (.int 0))) dNil))) dNil))))) dNil)))) dNext)
  (dSeq (dIf (dTest (dOp2 eqD (dVar 4) (dC (.int 6)))) (dRet (dTup (dCons (dC (.str ("fails" : Str))) (dCons (dCall 4 (g__law_goal k) (dCons (dVar 0) (dCons (dVar 1) (dCons (dVar 2) (dCons (dOp2 subD (dVar 3) (dC (.int 1))) dNil))))) dNil)))) dNext)
  (dSeq (dAsg (dCall 4 (g__law_goal k) (dCons (dVar 0) (dCons (dVar 1) (dCons (dVar 2) (dCons (dOp2 subD (dVar 3) (dC (.int 1))) dNil))))) (dName 5))
  (dRet (dTup (dCons (dCall 2 g__law_pick (dCons (dVar 0) (dCons (dLst (dCons (dC (.str ("both" : Str))) (dCons (dC (.str ("either" : Str))) dNil))) dNil))) (dCons (dVar 5) (dCons (dCall 4 (g__law_goal k) (dCons (dVar 0) (dCons (dVar 1) (dCons (dVar 2) (dCons (dOp2 subD (dVar 3) (dC (.int 1))) dNil))))) dNil)))))))))))
def g__law_goal : Nat → List D → W D
  | 0 => fun _ => W.stuck
  | k + 1 => dBody N__law_goal (b__law_goal (fun _ => g__law_goal k) k)
theorem fk__law_goal (e : En K mg) : ∀ k, Fk PW w K mg base (14 + 6 * k) (ga K "_law_goal") (Pr K 4 (g__law_goal k))
  | 0 => by
    obtain ⟨fd, F⟩ := d__law_goal e
    exact ⟨fd, ["_law_pen_here", "_law_signs_here", "_law_wide", "_law_deep"], FnOk.none fun vs H Q E h => by obtain ⟨_, _, _, _, _, _, _, z⟩ := h; exact z, F.bindsN (fun _ _ _ _ _ _ us hl => match us, hl with | [_, _, _, _], _ => rfl), F.kp⟩
  | k + 1 => by
    have ih := fk__law_goal e k
    obtain ⟨fd, F⟩ := d__law_goal e
    exact ⟨fd, _, FnOk.up (fn_lx (CX := CX0) (b := b__law_goal (fun _ => g__law_goal k) k) (k := 19 + 6 * k) F sc__law_goal (ls_seq (ls_asg (le_if (lt_test (le_op2 lo_cmp le_var le_int)) (le_call (la_cons le_var (la_cons le_int la_nil))) (le_call (la_cons le_var (la_cons le_int la_nil)))) lg_name)
  (ls_seq (ls_if (lt_test (le_op2 lo_cmp le_var le_int)) (ls_ret (le_tup (la_cons (le_call (la_cons le_var (la_cons (le_lst (la_cons le_str (la_cons le_str (la_cons le_str la_nil)))) la_nil))) (la_cons (le_call (la_cons le_var (la_cons le_var (la_cons le_int (la_cons le_var la_nil))))) la_nil)))) ls_next)
  (ls_seq (ls_if (lt_test (le_op2 lo_eq le_var le_int)) (ls_ret (le_tup (la_cons le_str (la_cons (le_call (la_cons le_var (la_cons le_var (la_cons le_int (la_cons le_var la_nil))))) la_nil)))) ls_next)
  (ls_seq (ls_if (lt_test (le_op2 lo_cmp le_var le_int)) (ls_ret (le_call (la_cons le_var (la_cons (le_lst (la_cons (le_tup (la_cons le_str (la_cons (le_sl le_var lp_none (lp_some le_int)) la_nil))) (la_cons (le_tup (la_cons le_str (la_cons (le_sl le_var lp_none (lp_some le_int)) la_nil))) (la_cons (le_tup (la_cons le_str (la_cons le_str la_nil))) (la_cons (le_tup (la_cons le_str (la_cons (le_op2 lo_ix le_var le_int) la_nil))) la_nil))))) la_nil)))) ls_next)
  (ls_seq (ls_if (lt_test (le_op2 lo_eq le_var le_int)) (ls_ret (le_tup (la_cons le_str (la_cons (le_call (la_cons le_var (la_cons le_var (la_cons le_var (la_cons (le_op2 lo_sub le_var le_int) la_nil))))) la_nil)))) ls_next)
  (ls_seq (ls_asg (le_call (la_cons le_var (la_cons le_var (la_cons le_var (la_cons (le_op2 lo_sub le_var le_int) la_nil))))) lg_name)
  (ls_ret (le_tup (la_cons (le_call (la_cons le_var (la_cons (le_lst (la_cons le_str (la_cons le_str la_nil))) la_nil))) (la_cons le_var (la_cons (le_call (la_cons le_var (la_cons le_var (la_cons le_var (la_cons (le_op2 lo_sub le_var le_int) la_nil))))) la_nil))))))))))) (fun cdv A outer s H E hr => (pss_cons (ps_set (i := 4) sc__law_goal.nd rfl (by first | exact Or.inl rfl | exact Or.inr rfl) (pe_ifExp (pt_cmpR op_gt (pv 3) pe_int (nomark _)) (pe_fk (fk__law_draw e) (hr.mono (by omega)) rfl (gl e 3 rfl) (pa_cons (pv 0) (pa_cons pe_int pa_nil))) (pe_fk (fk__law_draw e) (hr.mono (by omega)) rfl (gl e 3 rfl) (pa_cons (pv 0) (pa_cons pe_int pa_nil)))))
  (pss_cons (ps_if (pt_cmpR op_lt (pv 4) pe_int (nomark _)) (pss_one (ps_ret (pe_tup (pa_cons (pe_fk (fk__law_pick e) (hr.mono (by omega)) rfl (gl e 4 rfl) (pa_cons (pv 0) (pa_cons (pe_lst (pa_cons pe_str (pa_cons pe_str (pa_cons pe_str pa_nil)))) pa_nil))) (pa_cons (pe_fk (fk__law_row e) (hr.mono (by omega)) rfl (gl e 8 rfl) (pa_cons (pv 0) (pa_cons (pv 1) (pa_cons pe_int (pa_cons (pv 2) pa_nil))))) pa_nil))))) pss_nil)
  (pss_cons (ps_if (pt_cmpR (op_eqU hr.units) (pv 4) pe_int (nomark _)) (pss_one (ps_ret (pe_tup (pa_cons pe_str (pa_cons (pe_fk (fk__law_row e) (hr.mono (by omega)) rfl (gl e 8 rfl) (pa_cons (pv 0) (pa_cons (pv 1) (pa_cons pe_int (pa_cons (pv 2) pa_nil))))) pa_nil))))) pss_nil)
  (pss_cons (ps_if (pt_cmpR op_lt (pv 4) pe_int (nomark _)) (pss_one (ps_ret (pe_fk (fk__law_pick e) (hr.mono (by omega)) rfl (gl e 4 rfl) (pa_cons (pv 0) (pa_cons (pe_lst (pa_cons (pe_tup (pa_cons pe_str (pa_cons (pe_slice sl_U (pv 1) po_none (po_some pe_int)) pa_nil))) (pa_cons (pe_tup (pa_cons pe_str (pa_cons (pe_slice sl_U (pv 1) po_none (po_some pe_int)) pa_nil))) (pa_cons (pe_tup (pa_cons pe_str (pa_cons pe_str pa_nil))) (pa_cons (pe_tup (pa_cons pe_str (pa_cons (pe_ix ix_seq (pv 1) pe_int (fun _ _ => rfl)) pa_nil))) pa_nil))))) pa_nil))))) pss_nil)
  (pss_cons (ps_if (pt_cmpR (op_eqU hr.units) (pv 4) pe_int (nomark _)) (pss_one (ps_ret (pe_tup (pa_cons pe_str (pa_cons (pe_fk ih (hr.mono (by omega)) rfl (gl e 7 rfl) (pa_cons (pv 0) (pa_cons (pv 1) (pa_cons (pv 2) (pa_cons (pe_op op_sub (pv 3) pe_int) pa_nil))))) pa_nil))))) pss_nil)
  (pss_cons (ps_set (i := 5) sc__law_goal.nd rfl (by first | exact Or.inl rfl | exact Or.inr rfl) (pe_fk ih (hr.mono (by omega)) rfl (gl e 7 rfl) (pa_cons (pv 0) (pa_cons (pv 1) (pa_cons (pv 2) (pa_cons (pe_op op_sub (pv 3) pe_int) pa_nil))))))
  (pss_one (ps_ret (pe_tup (pa_cons (pe_fk (fk__law_pick e) (hr.mono (by omega)) rfl (gl e 4 rfl) (pa_cons (pv 0) (pa_cons (pe_lst (pa_cons pe_str (pa_cons pe_str pa_nil))) pa_nil))) (pa_cons (pv 5) (pa_cons (pe_fk ih (hr.mono (by omega)) rfl (gl e 7 rfl) (pa_cons (pv 0) (pa_cons (pv 1) (pa_cons (pv 2) (pa_cons (pe_op op_sub (pv 3) pe_int) pa_nil))))) pa_nil)))))))))))))) (by omega), F.bindsN (fun _ _ _ _ _ _ us hl => match us, hl with | [_, _, _, _], _ => rfl), F.kp⟩
abbrev N__law_jleaves : List Str := ["_law_goal_here", "_law_part"]
theorem sc__law_jleaves : FnScope N__law_jleaves ["_law_goal_here"] (defScope s__law_jleaves) := ⟨rfl, rfl, rfl, by decide +kernel, rfl, by decide +kernel, by decide +kernel⟩
@[reducible] def b__law_jleaves (g__law_jleaves : Nat → List D → W D) (k : Nat) : List Sl → W Out := (dSeq (dIf (dTest (dOp2 (inD false) (dOp2 ixD (dVar 0) (dC (.int 0))) (dTup (dCons (dC (.str ("fails" : Str))) (dCons (dC (.str ("both" : Str))) (dCons (dC (.str ("either" : Str))) dNil)))))) (dRet (dOpn sumD (dCons (dLc (dIT (dSl (dVar 0) (dPart (dC (.int 1))) dNoPart)) (dName 1) dYes (dCall 1 (g__law_jleaves k) (dCons (dVar 1) dNil)) [1]) (dCons (dLst dNil) dNil)))) dNext)
  (dRet (dLst (dCons (dVar 0) dNil))))
def g__law_jleaves : Nat → List D → W D
  | 0 => fun _ => W.stuck
  | k + 1 => dBody N__law_jleaves (b__law_jleaves (fun _ => g__law_jleaves k) k)
theorem fk__law_jleaves (e : En K mg) : ∀ k, Fk PW w K mg base (2 + 6 * k) (ga K "_law_jleaves") (Pr K 1 (g__law_jleaves k))
  | 0 => by
    obtain ⟨fd, F⟩ := d__law_jleaves e
    exact ⟨fd, ["_law_goal_here"], FnOk.none fun vs H Q E h => by obtain ⟨_, _, _, _, _, _, _, z⟩ := h; exact z, F.bindsN (fun _ _ _ _ _ _ us hl => match us, hl with | [_], _ => rfl), F.kp⟩
  | k + 1 => by
    have ih := fk__law_jleaves e k
    obtain ⟨fd, F⟩ := d__law_jleaves e
    exact ⟨fd, _, FnOk.up (fn_lx (CX := CX0) (b := b__law_jleaves (fun _ => g__law_jleaves k) k) (k := 7 + 6 * k) F sc__law_jleaves (ls_seq (ls_if (lt_test (le_op2 lo_in (le_op2 lo_ix le_var le_int) (le_tup (la_cons le_str (la_cons le_str (la_cons le_str la_nil)))))) (ls_ret (le_opn lo_sum (la_cons (le_lc (li_tup (le_sl le_var (lp_some le_int) lp_none)) lg_name lt_yes (le_call (la_cons le_var la_nil)) (fun _ h => h)) (la_cons (le_lst la_nil) la_nil)))) ls_next)
  (ls_ret (le_lst (la_cons le_var la_nil)))) (fun cdv A outer s H E hr => (pss_cons (ps_if (pt_cmpR op_inU (pe_ix ix_seq (pv 0) pe_int (fun _ _ => rfl)) (pe_tup (pa_cons pe_str (pa_cons pe_str (pa_cons pe_str pa_nil)))) rfl) (pss_one (ps_ret (pe_callB (call_sumL rfl) rfl (fr e 10 rfl) boot_sum (pa_cons (pe_lc (own := [("_law_part", 1)]) rfl sc__law_jleaves.nd (pi_tup (pe_slice sl_U (pv 0) (po_some pe_int) po_none)) (blkOk_by (N := N__law_jleaves) (sc := defScope s__law_jleaves) (by decide +kernel)) (fun _ _ _ _ _ => (pg_name (i := 1) sc__law_jleaves.nd rfl (by first | exact Or.inl rfl | exact Or.inr rfl))) (fun _ _ _ _ _ => pts_nil) (fun _ _ _ _ _ => (pe_fk ih (hr.mono (by omega)) rfl (gl e 9 rfl) (pa_cons (pv 1) pa_nil)))) (pa_cons (pe_lst pa_nil) pa_nil))))) pss_nil)
  (pss_one (ps_ret (pe_lst (pa_cons (pv 0) pa_nil))))))) (by omega), F.bindsN (fun _ _ _ _ _ _ us hl => match us, hl with | [_], _ => rfl), F.kp⟩
abbrev N__law_jlight : List Str := ["_law_pen_here", "_law_signs_here", "_law_most_leaves", "_law_wide", "_law_goal_here"]
theorem sc__law_jlight : FnScope N__law_jlight ["_law_pen_here", "_law_signs_here", "_law_most_leaves", "_law_wide"] (defScope s__law_jlight) := ⟨rfl, rfl, rfl, by decide +kernel, rfl, by decide +kernel, by decide +kernel⟩
@[reducible] def b__law_jlight : List Sl → W Out := (dSeq (dAsg (dCall 4 (g__law_goal 6) (dCons (dVar 0) (dCons (dVar 1) (dCons (dVar 3) (dCons (dC (.int 2)) dNil))))) (dName 4))
  (dRet (dIfE (dTest (dOp2 leD (dOpn lenD (dCons (dCall 1 (g__law_jleaves 6) (dCons (dVar 4) dNil)) dNil)) (dVar 2))) (dVar 4) (dTup (dCons (dC (.str ("fails" : Str))) (dCons (dTup (dCons (dC (.str ("has" : Str))) (dCons (dSl (dVar 1) dNoPart (dPart (dC (.int 1)))) dNil))) dNil))))))
def g__law_jlight : List D → W D := dBody N__law_jlight b__law_jlight
theorem fk__law_jlight (e : En K mg) : Fk PW w K mg base 54 (ga K "_law_jlight") (Pr K 4 g__law_jlight) := by
  obtain ⟨fd, F⟩ := d__law_jlight e
  exact ⟨fd, _, fn_lx (CX := CX0) (b := b__law_jlight) (k := 53) F sc__law_jlight (ls_seq (ls_asg (le_call (la_cons le_var (la_cons le_var (la_cons le_var (la_cons le_int la_nil))))) lg_name)
  (ls_ret (le_if (lt_test (le_op2 lo_cmp (le_opn lo_len (la_cons (le_call (la_cons le_var la_nil)) la_nil)) le_var)) le_var (le_tup (la_cons le_str (la_cons (le_tup (la_cons le_str (la_cons (le_sl le_var lp_none (lp_some le_int)) la_nil))) la_nil)))))) (fun cdv A outer s H E hr => (pss_cons (ps_set (i := 4) sc__law_jlight.nd rfl (by first | exact Or.inl rfl | exact Or.inr rfl) (pe_fk (fk__law_goal e 6) (hr.mono (by omega)) rfl (gl e 7 rfl) (pa_cons (pv 0) (pa_cons (pv 1) (pa_cons (pv 3) (pa_cons pe_int pa_nil))))))
  (pss_one (ps_ret (pe_ifExp (pt_cmpR op_le (pe_callB call_len rfl (fr e 1 rfl) boot_len (pa_cons (pe_fk (fk__law_jleaves e 6) (hr.mono (by omega)) rfl (gl e 9 rfl) (pa_cons (pv 4) pa_nil)) pa_nil)) (pv 2) (nomark _)) (pv 4) (pe_tup (pa_cons pe_str (pa_cons (pe_tup (pa_cons pe_str (pa_cons (pe_slice sl_U (pv 1) po_none (po_some pe_int)) pa_nil))) pa_nil)))))))), F.bindsN (fun _ _ _ _ _ _ us hl => match us, hl with | [_, _, _, _], _ => rfl), F.kp⟩
abbrev N__law_jline : List Str := ["_law_pen_here", "_law_words", "_law_signs_here", "_law_most_letters", "_law_found", "_law_k", "_law_was", "_law_cut"]
theorem sc__law_jline : FnScope N__law_jline ["_law_pen_here", "_law_words", "_law_signs_here", "_law_most_letters"] (defScope s__law_jline) := ⟨rfl, rfl, rfl, by decide +kernel, rfl, by decide +kernel, by decide +kernel⟩
@[reducible] def b__law_jline : List Sl → W Out := (dSeq (dAsg (dC (.str ("" : Str))) (dName 4))
  (dSeq (dFor (dIR1 (dCons (dCall 2 g__law_draw (dCons (dVar 0) (dCons (dC (.int 5)) dNil))) dNil)) (dName 5) (dSeq (dAsg (dCall 2 g__law_pick (dCons (dVar 0) (dCons (dOp2 addD (dOpn listD (dCons (dVar 1) dNil)) (dLst (dCons (dVar 2) dNil))) dNil))) (dName 6))
  (dSeq (dAsg (dCall 2 g__law_draw (dCons (dVar 0) (dCons (dOp2 addD (dOpn lenD (dCons (dVar 6) dNil)) (dC (.int 1))) dNil))) (dName 7))
  (dAsg (dOp2 addD (dVar 4) (dCall 2 g__law_pick (dCons (dVar 0) (dCons (dLst (dCons (dVar 6) (dCons (dSl (dVar 6) dNoPart (dPart (dVar 7))) (dCons (dSl (dVar 6) (dPart (dVar 7)) dNoPart) (dCons (dCall 4 g__law_row (dCons (dVar 0) (dCons (dOp2 addD (dVar 2) (dC (.str ("q" : Str)))) (dCons (dC (.int 0)) (dCons (dC (.int 2)) dNil))))) dNil))))) dNil)))) (dName 4)))))
  (dRet (dSl (dVar 4) dNoPart (dPart (dVar 3))))))
def g__law_jline : List D → W D := dBody N__law_jline b__law_jline
theorem fk__law_jline (e : En K mg) : Fk PW w K mg base 14 (ga K "_law_jline") (Pr K 4 g__law_jline) := by
  obtain ⟨fd, F⟩ := d__law_jline e
  exact ⟨fd, _, fn_lx (CX := CX0) (b := b__law_jline) (k := 13) F sc__law_jline (ls_seq (ls_asg le_str lg_name)
  (ls_seq (ls_for (li_range1 (la_cons (le_call (la_cons le_var (la_cons le_int la_nil))) la_nil)) lg_name (ls_seq (ls_asg (le_call (la_cons le_var (la_cons (le_op2 lo_add (le_opn lo_list (la_cons le_var la_nil)) (le_lst (la_cons le_var la_nil))) la_nil))) lg_name)
  (ls_seq (ls_asg (le_call (la_cons le_var (la_cons (le_op2 lo_add (le_opn lo_len (la_cons le_var la_nil)) le_int) la_nil))) lg_name)
  (ls_asg (le_op2 lo_add le_var (le_call (la_cons le_var (la_cons (le_lst (la_cons le_var (la_cons (le_sl le_var lp_none (lp_some le_var)) (la_cons (le_sl le_var (lp_some le_var) lp_none) (la_cons (le_call (la_cons le_var (la_cons (le_op2 lo_add le_var le_str) (la_cons le_int (la_cons le_int la_nil))))) la_nil))))) la_nil)))) lg_name))))
  (ls_ret (le_sl le_var lp_none (lp_some le_var))))) (fun cdv A outer s H E hr => (pss_cons (ps_set (i := 4) sc__law_jline.nd rfl (by first | exact Or.inl rfl | exact Or.inr rfl) pe_str)
  (pss_cons (ps_for PassesOwn.never rfl (pi_range1 rfl (fr e 5 rfl) (pa_cons (pe_fk (fk__law_draw e) (hr.mono (by omega)) rfl (gl e 3 rfl) (pa_cons (pv 0) (pa_cons pe_int pa_nil))) pa_nil)) (pg_name (i := 5) sc__law_jline.nd rfl (by first | exact Or.inl rfl | exact Or.inr rfl)) (pss_cons (ps_set (i := 6) sc__law_jline.nd rfl (by first | exact Or.inl rfl | exact Or.inr rfl) (pe_fk (fk__law_pick e) (hr.mono (by omega)) rfl (gl e 4 rfl) (pa_cons (pv 0) (pa_cons (pe_op op_addU (pe_callTy call_list_of rfl (fr e 11 rfl) boot_list (pa_cons (pv 1) pa_nil)) (pe_lst (pa_cons (pv 2) pa_nil))) pa_nil))))
  (pss_cons (ps_set (i := 7) sc__law_jline.nd rfl (by first | exact Or.inl rfl | exact Or.inr rfl) (pe_fk (fk__law_draw e) (hr.mono (by omega)) rfl (gl e 3 rfl) (pa_cons (pv 0) (pa_cons (pe_op op_addU (pe_callB call_len rfl (fr e 1 rfl) boot_len (pa_cons (pv 6) pa_nil)) pe_int) pa_nil))))
  (pss_one (ps_set (i := 4) sc__law_jline.nd rfl (by first | exact Or.inl rfl | exact Or.inr rfl) (pe_op op_addU (pv 4) (pe_fk (fk__law_pick e) (hr.mono (by omega)) rfl (gl e 4 rfl) (pa_cons (pv 0) (pa_cons (pe_lst (pa_cons (pv 6) (pa_cons (pe_slice sl_U (pv 6) po_none (po_some (pv 7))) (pa_cons (pe_slice sl_U (pv 6) (po_some (pv 7)) po_none) (pa_cons (pe_fk (fk__law_row e) (hr.mono (by omega)) rfl (gl e 8 rfl) (pa_cons (pv 0) (pa_cons (pe_op op_addU (pv 2) pe_str) (pa_cons pe_int (pa_cons pe_int pa_nil))))) pa_nil))))) pa_nil)))))))))
  (pss_one (ps_ret (pe_slice sl_U (pv 4) po_none (po_some (pv 3)))))))), F.bindsN (fun _ _ _ _ _ _ us hl => match us, hl with | [_, _, _, _], _ => rfl), F.kp⟩
abbrev N__law_jwords : List Str := ["_law_goal_here", "_law_part"]
theorem sc__law_jwords : FnScope N__law_jwords ["_law_goal_here"] (defScope s__law_jwords) := ⟨rfl, rfl, rfl, by decide +kernel, rfl, by decide +kernel, by decide +kernel⟩
@[reducible] def b__law_jwords (g__law_jwords : Nat → List D → W D) (k : Nat) : List Sl → W Out := (dSeq (dIf (dTest (dOp2 (inD false) (dOp2 ixD (dVar 0) (dC (.int 0))) (dTup (dCons (dC (.str ("fails" : Str))) (dCons (dC (.str ("both" : Str))) (dCons (dC (.str ("either" : Str))) dNil)))))) (dRet (dOpn sumD (dCons (dLc (dIT (dSl (dVar 0) (dPart (dC (.int 1))) dNoPart)) (dName 1) dYes (dCall 1 (g__law_jwords k) (dCons (dVar 1) dNil)) [1]) (dCons (dLst dNil) dNil)))) dNext)
  (dRet (dOpn listD (dCons (dSl (dVar 0) (dPart (dC (.int 1))) dNoPart) dNil))))
def g__law_jwords : Nat → List D → W D
  | 0 => fun _ => W.stuck
  | k + 1 => dBody N__law_jwords (b__law_jwords (fun _ => g__law_jwords k) k)
theorem fk__law_jwords (e : En K mg) : ∀ k, Fk PW w K mg base (2 + 6 * k) (ga K "_law_jwords") (Pr K 1 (g__law_jwords k))
  | 0 => by
    obtain ⟨fd, F⟩ := d__law_jwords e
    exact ⟨fd, ["_law_goal_here"], FnOk.none fun vs H Q E h => by obtain ⟨_, _, _, _, _, _, _, z⟩ := h; exact z, F.bindsN (fun _ _ _ _ _ _ us hl => match us, hl with | [_], _ => rfl), F.kp⟩
  | k + 1 => by
    have ih := fk__law_jwords e k
    obtain ⟨fd, F⟩ := d__law_jwords e
    exact ⟨fd, _, FnOk.up (fn_lx (CX := CX0) (b := b__law_jwords (fun _ => g__law_jwords k) k) (k := 7 + 6 * k) F sc__law_jwords (ls_seq (ls_if (lt_test (le_op2 lo_in (le_op2 lo_ix le_var le_int) (le_tup (la_cons le_str (la_cons le_str (la_cons le_str la_nil)))))) (ls_ret (le_opn lo_sum (la_cons (le_lc (li_tup (le_sl le_var (lp_some le_int) lp_none)) lg_name lt_yes (le_call (la_cons le_var la_nil)) (fun _ h => h)) (la_cons (le_lst la_nil) la_nil)))) ls_next)
  (ls_ret (le_opn lo_list (la_cons (le_sl le_var (lp_some le_int) lp_none) la_nil)))) (fun cdv A outer s H E hr => (pss_cons (ps_if (pt_cmpR op_inU (pe_ix ix_seq (pv 0) pe_int (fun _ _ => rfl)) (pe_tup (pa_cons pe_str (pa_cons pe_str (pa_cons pe_str pa_nil)))) rfl) (pss_one (ps_ret (pe_callB (call_sumL rfl) rfl (fr e 10 rfl) boot_sum (pa_cons (pe_lc (own := [("_law_part", 1)]) rfl sc__law_jwords.nd (pi_tup (pe_slice sl_U (pv 0) (po_some pe_int) po_none)) (blkOk_by (N := N__law_jwords) (sc := defScope s__law_jwords) (by decide +kernel)) (fun _ _ _ _ _ => (pg_name (i := 1) sc__law_jwords.nd rfl (by first | exact Or.inl rfl | exact Or.inr rfl))) (fun _ _ _ _ _ => pts_nil) (fun _ _ _ _ _ => (pe_fk ih (hr.mono (by omega)) rfl (gl e 12 rfl) (pa_cons (pv 1) pa_nil)))) (pa_cons (pe_lst pa_nil) pa_nil))))) pss_nil)
  (pss_one (ps_ret (pe_callTy call_list_of rfl (fr e 11 rfl) boot_list (pa_cons (pe_slice sl_U (pv 0) (po_some pe_int) po_none) pa_nil))))))) (by omega), F.bindsN (fun _ _ _ _ _ _ us hl => match us, hl with | [_], _ => rfl), F.kp⟩
abbrev N_is_line : List Str := ["value", "letter"]
theorem sc_is_line : FnScope N_is_line ["value"] (defScope s_is_line) := ⟨rfl, rfl, rfl, by decide +kernel, rfl, by decide +kernel, by decide +kernel⟩
@[reducible] def b_is_line : List Sl → W Out := (dRet (dAndV (dOp1 (isiD is_str) (dVar 0)) (dOpn allD (dCons (dLc (dIS (dVar 0)) (dName 1) dYes (dOp2 (inD false) (dVar 1) (dC (.str (" !\"#$&'()*+,-./0123456789:;<=>?@ABCDEFGHIJKLMNOPQRSTUVWXYZ[\\]^_`abcdefghijklmnopqrstuvwxyz{|}~" : Str)))) [1]) dNil))))
def g_is_line : List D → W D := dBody N_is_line b_is_line
theorem fk_is_line (e : En K mg) : Fk PW w K mg base 2 (ga K "is_line") (Pr K 1 g_is_line) := by
  obtain ⟨fd, F⟩ := d_is_line e
  exact ⟨fd, _, fn_lx (CX := CX0) (b := b_is_line) (k := 1) F sc_is_line (ls_ret (le_and (le_isi (.ty "str") (isok_str e) le_var) (le_opn lo_all (la_cons (le_lc (li_str le_var) lg_name lt_yes (le_op2 lo_in le_var le_str) (fun _ h => h)) la_nil)))) (fun cdv A outer s H E hr => (pss_one (ps_ret (pe_andT (pe_callB call_isi rfl (fr e 14 rfl) boot_isinstance (pa_cons (pv 0) (pa_cons (pe_bltn rfl (fr e 13 rfl) boot_str rfl) pa_nil))) (pe_one (pe_callB (cr_all rfl) rfl (fr e 16 rfl) boot_all (pa_cons (pe_lc (own := [("letter", 1)]) rfl sc_is_line.nd (pi_str (pv 0)) (blkOk_by (N := N_is_line) (sc := defScope s_is_line) (by decide +kernel)) (fun _ _ _ _ _ => (pg_name (i := 1) sc_is_line.nd rfl (by first | exact Or.inl rfl | exact Or.inr rfl))) (fun _ _ _ _ _ => pts_nil) (fun _ _ _ _ _ => (pe_cmpR op_inU (pv 1) (pe_gs (gs e 15 rfl) rfl) rfl))) pa_nil))))))), F.bindsN (fun _ _ _ _ _ _ us hl => match us, hl with | [_], _ => rfl), F.kp⟩
abbrev N_is_word : List Str := ["value", "most"]
theorem sc_is_word : FnScope N_is_word ["value", "most"] (defScope s_is_word) := ⟨rfl, rfl, rfl, by decide +kernel, rfl, by decide +kernel, by decide +kernel⟩
@[reducible] def b_is_word : List Sl → W Out := (dRet (dAndV (dOp1 (isiD is_str) (dVar 0)) (dAndV (dChain leD leD (dC (.int 1)) (dOpn lenD (dCons (dVar 0) dNil)) (dVar 1)) (dCall 1 g_is_line (dCons (dVar 0) dNil)))))
def g_is_word : List D → W D := dBody N_is_word b_is_word
theorem fk_is_word (e : En K mg) : Fk PW w K mg base 6 (ga K "is_word") (Pr K 2 g_is_word) := by
  obtain ⟨fd, F⟩ := d_is_word e
  exact ⟨fd, _, fn_lx (CX := CX0) (b := b_is_word) (k := 5) F sc_is_word (ls_ret (le_and (le_isi (.ty "str") (isok_str e) le_var) (le_and (le_chain lo_cmp lo_cmp le_int (le_opn lo_len (la_cons le_var la_nil)) le_var) (le_call (la_cons le_var la_nil))))) (fun cdv A outer s H E hr => (pss_one (ps_ret (pe_andT (pe_callB call_isi rfl (fr e 14 rfl) boot_isinstance (pa_cons (pv 0) (pa_cons (pe_bltn rfl (fr e 13 rfl) boot_str rfl) pa_nil))) (pe_andT (pe_chain op_le op_le pe_int (pe_callB call_len rfl (fr e 1 rfl) boot_len (pa_cons (pv 0) pa_nil)) (pv 1)) (pe_one (pe_fk (fk_is_line e) (hr.mono (by omega)) rfl (gl e 17 rfl) (pa_cons (pv 0) pa_nil)))))))), F.bindsN (fun _ _ _ _ _ _ us hl => match us, hl with | [_, _], _ => rfl), F.kp⟩
abbrev N_Test_init : List Str := ["self", "kind", "text", "inner"]
theorem sc_Test_init : FnScope N_Test_init ["self", "kind", "text", "inner"] (defScope s_Test_init) := ⟨rfl, rfl, rfl, by decide +kernel, rfl, by decide +kernel, by decide +kernel⟩
def cl_Test : List Str := ["Has", "Begins", "Ends", "Is", "Only", "Fails", "Both", "Either"]
@[reducible] def b_Test_init : Addr → FS → W FS := (fSeq (fSet "own_kind" (dVar 1)) (fSeq (fSet "own_text" (dVar 2)) (fSet "own_inner" (dVar 3))))
def gi_Test : Addr → List (Str × D) → List D → W (List (Str × D)) := dInitF N_Test_init b_Test_init
theorem fi_Test (e : En K mg) : Fk PW w K mg base 2 (ma K (ga K "Test") "__init__") (PrI K 3 cl_Test gi_Test) := by
  obtain ⟨fd, F⟩ := d_Test_init e
  exact ⟨fd, _, fn_init (cl := cl_Test) (g := b_Test_init) (k := 1) F sc_Test_init rfl (lsf_seq (lsf_set (by
    intro c h
    have h : c ∈ (["Has", "Begins", "Ends", "Is", "Only", "Fails", "Both", "Either"] : List Str) := h
    simp only [List.mem_cons, List.not_mem_nil, or_false] at h
    rcases h with rfl | rfl | rfl | rfl | rfl | rfl | rfl | rfl
    · exact ⟨(cls_ok (e.c.fact 18 rfl)), noat_ok (e.c.fact 42 rfl)⟩
    · exact ⟨(cls_ok (e.c.fact 20 rfl)), noat_ok (e.c.fact 43 rfl)⟩
    · exact ⟨(cls_ok (e.c.fact 22 rfl)), noat_ok (e.c.fact 44 rfl)⟩
    · exact ⟨(cls_ok (e.c.fact 24 rfl)), noat_ok (e.c.fact 45 rfl)⟩
    · exact ⟨(cls_ok (e.c.fact 26 rfl)), noat_ok (e.c.fact 46 rfl)⟩
    · exact ⟨(cls_ok (e.c.fact 28 rfl)), noat_ok (e.c.fact 47 rfl)⟩
    · exact ⟨(cls_ok (e.c.fact 30 rfl)), noat_ok (e.c.fact 48 rfl)⟩
    · exact ⟨(cls_ok (e.c.fact 32 rfl)), noat_ok (e.c.fact 49 rfl)⟩) le_var) (lsf_seq (lsf_set (by
    intro c h
    have h : c ∈ (["Has", "Begins", "Ends", "Is", "Only", "Fails", "Both", "Either"] : List Str) := h
    simp only [List.mem_cons, List.not_mem_nil, or_false] at h
    rcases h with rfl | rfl | rfl | rfl | rfl | rfl | rfl | rfl
    · exact ⟨(cls_ok (e.c.fact 18 rfl)), noat_ok (e.c.fact 34 rfl)⟩
    · exact ⟨(cls_ok (e.c.fact 20 rfl)), noat_ok (e.c.fact 35 rfl)⟩
    · exact ⟨(cls_ok (e.c.fact 22 rfl)), noat_ok (e.c.fact 36 rfl)⟩
    · exact ⟨(cls_ok (e.c.fact 24 rfl)), noat_ok (e.c.fact 37 rfl)⟩
    · exact ⟨(cls_ok (e.c.fact 26 rfl)), noat_ok (e.c.fact 38 rfl)⟩
    · exact ⟨(cls_ok (e.c.fact 28 rfl)), noat_ok (e.c.fact 39 rfl)⟩
    · exact ⟨(cls_ok (e.c.fact 30 rfl)), noat_ok (e.c.fact 40 rfl)⟩
    · exact ⟨(cls_ok (e.c.fact 32 rfl)), noat_ok (e.c.fact 41 rfl)⟩) le_var) (lsf_set (by
    intro c h
    have h : c ∈ (["Has", "Begins", "Ends", "Is", "Only", "Fails", "Both", "Either"] : List Str) := h
    simp only [List.mem_cons, List.not_mem_nil, or_false] at h
    rcases h with rfl | rfl | rfl | rfl | rfl | rfl | rfl | rfl
    · exact ⟨(cls_ok (e.c.fact 18 rfl)), noat_ok (e.c.fact 19 rfl)⟩
    · exact ⟨(cls_ok (e.c.fact 20 rfl)), noat_ok (e.c.fact 21 rfl)⟩
    · exact ⟨(cls_ok (e.c.fact 22 rfl)), noat_ok (e.c.fact 23 rfl)⟩
    · exact ⟨(cls_ok (e.c.fact 24 rfl)), noat_ok (e.c.fact 25 rfl)⟩
    · exact ⟨(cls_ok (e.c.fact 26 rfl)), noat_ok (e.c.fact 27 rfl)⟩
    · exact ⟨(cls_ok (e.c.fact 28 rfl)), noat_ok (e.c.fact 29 rfl)⟩
    · exact ⟨(cls_ok (e.c.fact 30 rfl)), noat_ok (e.c.fact 31 rfl)⟩
    · exact ⟨(cls_ok (e.c.fact 32 rfl)), noat_ok (e.c.fact 33 rfl)⟩) le_var))) (fun cdv A outer s H E hr => (pss_cons (ps_fld (pv 0) (pv 1) rfl) (pss_cons (ps_fld (pv 0) (pv 2) rfl) (pss_one (ps_fld (pv 0) (pv 3) rfl))))), F.bindsN (fun _ _ _ _ _ _ us hl => match us, hl with | [_, _, _, _], _ => rfl), F.kp⟩
abbrev N_WordTest_init : List Str := ["self", "kind", "word"]
theorem sc_WordTest_init : SupScope N_WordTest_init ["self", "kind", "word"] (defScope s_WordTest_init) := ⟨rfl, rfl, rfl, by decide +kernel, rfl, by decide +kernel, by decide +kernel, by decide +kernel, rfl, rfl⟩
def cl_WordTest : List Str := ["Has", "Begins", "Ends"]
@[reducible] def b_WordTest_init : List Sl → W Out := (dIf (dNot (dTru (dCall 2 g_is_word (dCons (dVar 2) (dCons (dC (.int 8)) dNil))))) dNever dNext)
@[reducible] def ba_WordTest_init : List Sl → W (List D) := (dCons (dVar 1) (dCons (dVar 2) (dCons (dTup dNil) dNil)))
def gi_WordTest : Addr → List (Str × D) → List D → W (List (Str × D)) := dInit N_WordTest_init b_WordTest_init ba_WordTest_init 3 gi_Test
theorem su_WordTest_init (e : En K mg) : ∀ c, c ∈ cl_WordTest → c ∈ cl_Test ∧ SupC K (ga K c) (ga K "WordTest") (ma K (ga K "Test") "__init__") := fun c h => by
    have h : c ∈ (["Has", "Begins", "Ends"] : List Str) := h
    simp only [List.mem_cons, List.not_mem_nil, or_false] at h
    rcases h with rfl | rfl | rfl
    · exact ⟨by decide, fm_sup (e.c.fact 53 rfl)⟩
    · exact ⟨by decide, fm_sup (e.c.fact 54 rfl)⟩
    · exact ⟨by decide, fm_sup (e.c.fact 55 rfl)⟩
theorem fi_WordTest (e : En K mg) : Fk PW w K mg base 10 (ma K (ga K "WordTest") "__init__") (PrI K 2 cl_WordTest gi_WordTest) := by
  obtain ⟨fd, F⟩ := d_WordTest_init e
  obtain ⟨fd2, ps2, G, hb2, _⟩ := (fi_Test e (base := base) (w := w)).ex
  refine ⟨fd, _, fn_super (CX := CX0) (b := b_WordTest_init) (fa := ba_WordTest_init) (k := 9) (pre := (defBody s_WordTest_init).take 1) F sc_WordTest_init rfl rfl rfl rfl rfl rfl (ls_if (lt_not (lt_tru (le_call (la_cons le_var (la_cons le_int la_nil))))) ls_never ls_next) (la_cons le_var (la_cons le_var (la_cons (le_tup la_nil) la_nil))) (fun cd cc A outer s H E hr => (pss_one (ps_if (pt_not (pt_truth (pe_fk (fk_is_word e) (hr.mono (by omega)) rfl (gl e 52 rfl) (pa_cons (pv 2) (pa_cons (pe_gi (gi e 51 rfl) rfl) pa_nil))) (fun _ => rfl))) (pss_one ps_never) pss_nil))) (fun cd cc A outer s H E hr => (pa_cons (pv 1) (pa_cons (pv 2) (pa_cons (pe_tup pa_nil) pa_nil)))) (FnOk.up G (by omega)) hb2 (fun _ _ _ => pass0) (su_WordTest_init e) (by decide +kernel) (fun _ => rfl) (fun _ => rfl) (fun _ => rfl) (fun _ => ⟨_, rfl⟩), SupD.bindsN F (fun _ _ _ _ _ _ _ us hl => match us, hl with | [_, _, _], _ => rfl), F.kp⟩
abbrev N_Begins_init : List Str := ["self", "word"]
theorem sc_Begins_init : SupScope N_Begins_init ["self", "word"] (defScope s_Begins_init) := ⟨rfl, rfl, rfl, by decide +kernel, rfl, by decide +kernel, by decide +kernel, by decide +kernel, rfl, rfl⟩
def cl_Begins : List Str := ["Begins"]
@[reducible] def b_Begins_init : List Sl → W Out := dNext
@[reducible] def ba_Begins_init : List Sl → W (List D) := (dCons (dC (.str ("begins" : Str))) (dCons (dVar 1) dNil))
def gi_Begins : Addr → List (Str × D) → List D → W (List (Str × D)) := dInit N_Begins_init b_Begins_init ba_Begins_init 2 gi_WordTest
theorem su_Begins_init (e : En K mg) : ∀ c, c ∈ cl_Begins → c ∈ cl_WordTest ∧ SupC K (ga K c) (ga K "Begins") (ma K (ga K "WordTest") "__init__") := fun c h => by
    have h : c ∈ (["Begins"] : List Str) := h
    simp only [List.mem_cons, List.not_mem_nil, or_false] at h
    rcases h with rfl
    · exact ⟨by decide, fm_sup (e.c.fact 56 rfl)⟩
theorem fi_Begins (e : En K mg) : Fk PW w K mg base 14 (ma K (ga K "Begins") "__init__") (PrI K 1 cl_Begins gi_Begins) := by
  obtain ⟨fd, F⟩ := d_Begins_init e
  obtain ⟨fd2, ps2, G, hb2, _⟩ := (fi_WordTest e (base := base) (w := w)).ex
  refine ⟨fd, _, fn_super (CX := CX0) (b := b_Begins_init) (fa := ba_Begins_init) (k := 13) (pre := (defBody s_Begins_init).take 0) F sc_Begins_init rfl rfl rfl rfl rfl rfl ls_next (la_cons le_str (la_cons le_var la_nil)) (fun cd cc A outer s H E hr => pss_nil) (fun cd cc A outer s H E hr => (pa_cons pe_str (pa_cons (pv 1) pa_nil))) (FnOk.up G (by omega)) hb2 (fun _ _ _ => pass0) (su_Begins_init e) (by decide +kernel) (fun _ => rfl) (fun _ => rfl) (fun _ => rfl) (fun _ => ⟨_, rfl⟩), SupD.bindsN F (fun _ _ _ _ _ _ _ us hl => match us, hl with | [_, _], _ => rfl), F.kp⟩
abbrev N_Test_depth : List Str := ["self", "test"]
theorem sc_Test_depth : FnScope N_Test_depth ["self"] (defScope s_Test_depth) := ⟨rfl, rfl, rfl, by decide +kernel, rfl, by decide +kernel, by decide +kernel⟩
@[reducible] def b_Test_depth (tb_depth : Nat → Tb) (k : Nat) : List Sl → W Out := (dRet (dOp2 addD (dC (.int 1)) (dMaxD (dLc (dIT (dFld "own_inner" (dVar 0))) (dName 1) dYes (dMeth "depth" 0 (tb_depth k) (dVar 1) dNil) [1]) (dC (.int 0)))))
def tb_depth : Nat → Tb
  | 0 => []
  | k + 1 => [("Has", dBody N_Test_depth (b_Test_depth (fun _ => tb_depth k) k)), ("Begins", dBody N_Test_depth (b_Test_depth (fun _ => tb_depth k) k)), ("Ends", dBody N_Test_depth (b_Test_depth (fun _ => tb_depth k) k)), ("Is", dBody N_Test_depth (b_Test_depth (fun _ => tb_depth k) k)), ("Only", dBody N_Test_depth (b_Test_depth (fun _ => tb_depth k) k)), ("Fails", dBody N_Test_depth (b_Test_depth (fun _ => tb_depth k) k)), ("Both", dBody N_Test_depth (b_Test_depth (fun _ => tb_depth k) k)), ("Either", dBody N_Test_depth (b_Test_depth (fun _ => tb_depth k) k))]
theorem fo_Test_depth (e : En K mg) (k : Nat) (ih : TabK PW w K mg base (2 + 6 * k) "depth" 0 (tb_depth k)) {fd : FuncData} (F : FunD K "depth" "Test.depth" (defArgs s_Test_depth) (defBody s_Test_depth) (defScope s_Test_depth) [] [] (ma K (ga K "Test") "depth") fd) : FnOk PW w K mg base CX0 (8 + 6 * k) (ma K (ga K "Test") "depth") fd ["self"] (Pr K 1 (dBody N_Test_depth (b_Test_depth (fun _ => tb_depth k) k))) :=
  FnOk.up (fn_lx (CX := CX0) (b := (b_Test_depth (fun _ => tb_depth k) k)) (k := 7 + 6 * k) F sc_Test_depth (ls_ret (le_op2 lo_add le_int (le_maxD (le_lc (li_tup (le_fld le_var)) lg_name lt_yes (le_meth le_var la_nil) (fun _ h => h)) le_int))) (fun cdv A outer s H E hr => (pss_one (ps_ret (pe_op op_addU pe_int (pe_maxD rfl hr.units rfl (fr e 57 rfl) (pe_lc (own := [("test", 1)]) rfl sc_Test_depth.nd (pi_tup (pe_fld (pv 0) rfl)) (blkOk_by (N := N_Test_depth) (sc := defScope s_Test_depth) (by decide +kernel)) (fun _ _ _ _ _ => (pg_name (i := 1) sc_Test_depth.nd rfl (by first | exact Or.inl rfl | exact Or.inr rfl))) (fun _ _ _ _ _ => pts_nil) (fun _ _ _ _ _ => (pe_methU0 (ih.mt (hr.mono (by omega))) (pv 1)))) pe_int)))))) (by omega)
theorem fk_Test_depth (e : En K mg) (k : Nat) (ih : TabK PW w K mg base (2 + 6 * k) "depth" 0 (tb_depth k)) : Fk PW w K mg base (8 + 6 * k) (ma K (ga K "Test") "depth") (Pr K 1 (dBody N_Test_depth (b_Test_depth (fun _ => tb_depth k) k))) := by
  obtain ⟨fd, F⟩ := d_Test_depth e
  exact ⟨fd, _, fo_Test_depth e k ih F, F.bindsN (fun _ _ _ _ _ _ us hl => match us, hl with | [_], _ => rfl), F.kp⟩
theorem tk_depth (e : En K mg) : ∀ k, TabK PW w K mg base (2 + 6 * k) "depth" 0 (tb_depth k)
  | 0 => .nil
  | k + 1 => (.cons (cls_ok (e.c.fact 18 rfl)) (fm_meth (e.c.fact 65 rfl)) (Fk.up (fk_Test_depth e k (tk_depth e k)) (by omega)) (.cons (cls_ok (e.c.fact 20 rfl)) (fm_meth (e.c.fact 64 rfl)) (Fk.up (fk_Test_depth e k (tk_depth e k)) (by omega)) (.cons (cls_ok (e.c.fact 22 rfl)) (fm_meth (e.c.fact 63 rfl)) (Fk.up (fk_Test_depth e k (tk_depth e k)) (by omega)) (.cons (cls_ok (e.c.fact 24 rfl)) (fm_meth (e.c.fact 62 rfl)) (Fk.up (fk_Test_depth e k (tk_depth e k)) (by omega)) (.cons (cls_ok (e.c.fact 26 rfl)) (fm_meth (e.c.fact 61 rfl)) (Fk.up (fk_Test_depth e k (tk_depth e k)) (by omega)) (.cons (cls_ok (e.c.fact 28 rfl)) (fm_meth (e.c.fact 60 rfl)) (Fk.up (fk_Test_depth e k (tk_depth e k)) (by omega)) (.cons (cls_ok (e.c.fact 30 rfl)) (fm_meth (e.c.fact 59 rfl)) (Fk.up (fk_Test_depth e k (tk_depth e k)) (by omega)) (.cons (cls_ok (e.c.fact 32 rfl)) (fm_meth (e.c.fact 58 rfl)) (Fk.up (fk_Test_depth e k (tk_depth e k)) (by omega)) .nil))))))))
abbrev N_Test_leaves : List Str := ["self", "test", "leaf"]
theorem sc_Test_leaves : FnScope N_Test_leaves ["self"] (defScope s_Test_leaves) := ⟨rfl, rfl, rfl, by decide +kernel, rfl, by decide +kernel, by decide +kernel⟩
@[reducible] def b_Test_leaves (tb_leaves : Nat → Tb) (k : Nat) : List Sl → W Out := (dSeq (dIf (dTest (dOp2 eqD (dOpn lenD (dCons (dFld "own_inner" (dVar 0)) dNil)) (dC (.int 0)))) (dRet (dLst (dCons (dVar 0) dNil))) dNext)
  (dRet (dLc2 (dIT (dFld "own_inner" (dVar 0))) (dName 1) dYes (dIL (dMeth "leaves" 0 (tb_leaves k) (dVar 1) dNil)) (dName 2) dYes (dVar 2) [1, 2] [2])))
def tb_leaves : Nat → Tb
  | 0 => []
  | k + 1 => [("Has", dBody N_Test_leaves (b_Test_leaves (fun _ => tb_leaves k) k)), ("Begins", dBody N_Test_leaves (b_Test_leaves (fun _ => tb_leaves k) k)), ("Ends", dBody N_Test_leaves (b_Test_leaves (fun _ => tb_leaves k) k)), ("Is", dBody N_Test_leaves (b_Test_leaves (fun _ => tb_leaves k) k)), ("Only", dBody N_Test_leaves (b_Test_leaves (fun _ => tb_leaves k) k)), ("Fails", dBody N_Test_leaves (b_Test_leaves (fun _ => tb_leaves k) k)), ("Both", dBody N_Test_leaves (b_Test_leaves (fun _ => tb_leaves k) k)), ("Either", dBody N_Test_leaves (b_Test_leaves (fun _ => tb_leaves k) k))]
theorem fo_Test_leaves (e : En K mg) (k : Nat) (ih : TabK PW w K mg base (2 + 6 * k) "leaves" 0 (tb_leaves k)) {fd : FuncData} (F : FunD K "leaves" "Test.leaves" (defArgs s_Test_leaves) (defBody s_Test_leaves) (defScope s_Test_leaves) [] [] (ma K (ga K "Test") "leaves") fd) : FnOk PW w K mg base CX0 (8 + 6 * k) (ma K (ga K "Test") "leaves") fd ["self"] (Pr K 1 (dBody N_Test_leaves (b_Test_leaves (fun _ => tb_leaves k) k))) :=
  FnOk.up (fn_lx (CX := CX0) (b := (b_Test_leaves (fun _ => tb_leaves k) k)) (k := 7 + 6 * k) F sc_Test_leaves (ls_seq (ls_if (lt_test (le_op2 lo_eq (le_opn lo_len (la_cons (le_fld le_var) la_nil)) le_int)) (ls_ret (le_lst (la_cons le_var la_nil))) ls_next)
  (ls_ret (le_lc2 (li_tup (le_fld le_var)) lg_name lt_yes (li_list (le_meth le_var la_nil)) lg_name lt_yes le_var (by intro j h; simp at h; simp [h]) (fun _ h => h)))) (fun cdv A outer s H E hr => (pss_cons (ps_if (pt_cmpR (op_eqU hr.units) (pe_callB call_len rfl (fr e 1 rfl) boot_len (pa_cons (pe_fld (pv 0) rfl) pa_nil)) pe_int (nomark _)) (pss_one (ps_ret (pe_lst (pa_cons (pv 0) pa_nil)))) pss_nil)
  (pss_one (ps_ret (pe_lc2 (own := [("test", 1), ("leaf", 2)]) (vs1 := [2]) rfl sc_Test_leaves.nd (pi_tup (pe_fld (pv 0) rfl)) (blkOk_by (N := N_Test_leaves) (sc := defScope s_Test_leaves) (by decide +kernel)) (by decide) (fun _ _ _ _ _ => (pg_name (i := 1) sc_Test_leaves.nd rfl (by first | exact Or.inl rfl | exact Or.inr rfl))) (fun _ _ _ _ _ => pts_nil) (fun _ _ _ _ _ => (pi_list (pe_methU0 (ih.mt (hr.mono (by omega))) (pv 1)))) (fun _ _ _ _ _ => (pg_name (i := 2) sc_Test_leaves.nd rfl (by first | exact Or.inl rfl | exact Or.inr rfl))) (fun _ _ _ _ _ => pts_nil) (fun _ _ _ _ _ => (pv 2)))))))) (by omega)
theorem fk_Test_leaves (e : En K mg) (k : Nat) (ih : TabK PW w K mg base (2 + 6 * k) "leaves" 0 (tb_leaves k)) : Fk PW w K mg base (8 + 6 * k) (ma K (ga K "Test") "leaves") (Pr K 1 (dBody N_Test_leaves (b_Test_leaves (fun _ => tb_leaves k) k))) := by
  obtain ⟨fd, F⟩ := d_Test_leaves e
  exact ⟨fd, _, fo_Test_leaves e k ih F, F.bindsN (fun _ _ _ _ _ _ us hl => match us, hl with | [_], _ => rfl), F.kp⟩
theorem tk_leaves (e : En K mg) : ∀ k, TabK PW w K mg base (2 + 6 * k) "leaves" 0 (tb_leaves k)
  | 0 => .nil
  | k + 1 => (.cons (cls_ok (e.c.fact 18 rfl)) (fm_meth (e.c.fact 73 rfl)) (Fk.up (fk_Test_leaves e k (tk_leaves e k)) (by omega)) (.cons (cls_ok (e.c.fact 20 rfl)) (fm_meth (e.c.fact 72 rfl)) (Fk.up (fk_Test_leaves e k (tk_leaves e k)) (by omega)) (.cons (cls_ok (e.c.fact 22 rfl)) (fm_meth (e.c.fact 71 rfl)) (Fk.up (fk_Test_leaves e k (tk_leaves e k)) (by omega)) (.cons (cls_ok (e.c.fact 24 rfl)) (fm_meth (e.c.fact 70 rfl)) (Fk.up (fk_Test_leaves e k (tk_leaves e k)) (by omega)) (.cons (cls_ok (e.c.fact 26 rfl)) (fm_meth (e.c.fact 69 rfl)) (Fk.up (fk_Test_leaves e k (tk_leaves e k)) (by omega)) (.cons (cls_ok (e.c.fact 28 rfl)) (fm_meth (e.c.fact 68 rfl)) (Fk.up (fk_Test_leaves e k (tk_leaves e k)) (by omega)) (.cons (cls_ok (e.c.fact 30 rfl)) (fm_meth (e.c.fact 67 rfl)) (Fk.up (fk_Test_leaves e k (tk_leaves e k)) (by omega)) (.cons (cls_ok (e.c.fact 32 rfl)) (fm_meth (e.c.fact 66 rfl)) (Fk.up (fk_Test_leaves e k (tk_leaves e k)) (by omega)) .nil))))))))
abbrev N_need_inner : List Str := ["value", "argument", "most"]
theorem sc_need_inner : FnScope N_need_inner ["value", "argument", "most"] (defScope s_need_inner) := ⟨rfl, rfl, rfl, by decide +kernel, rfl, by decide +kernel, by decide +kernel⟩
@[reducible] def b_need_inner : List Sl → W Out := (dIf (dOr (dNot (dTru (dOp1 (isiD is_Test) (dVar 0)))) (dOr (dTest (dOp2 geD (dMeth "depth" 0 (tb_depth 6) (dVar 0) dNil) (dC (.int 8)))) (dTest (dOp2 gtD (dOpn lenD (dCons (dMeth "leaves" 0 (tb_leaves 6) (dVar 0) dNil) dNil)) (dVar 2))))) dNever dNext)
def g_need_inner : List D → W D := dBody N_need_inner b_need_inner
theorem fk_need_inner (e : En K mg) : Fk PW w K mg base 42 (ga K "need_inner") (Pr K 3 g_need_inner) := by
  obtain ⟨fd, F⟩ := d_need_inner e
  exact ⟨fd, _, fn_lx (CX := CX0) (b := b_need_inner) (k := 41) F sc_need_inner (ls_if (lt_or (lt_not (lt_tru (le_isi (.own (ga K "Test")) (isok_Test e) le_var))) (lt_or (lt_test (le_op2 lo_cmp (le_meth le_var la_nil) le_int)) (lt_test (le_op2 lo_cmp (le_opn lo_len (la_cons (le_meth le_var la_nil) la_nil)) le_var)))) ls_never ls_next) (fun cdv A outer s H E hr => (pss_one (ps_if (PW.pt (pw_or (pt_not (pt_truth (pe_callB call_isi rfl (fr e 14 rfl) boot_isinstance (pa_cons (pv 0) (pa_cons (pe_glob rfl (gl e 74 rfl) rfl) pa_nil))) (fun _ => rfl))) (pw_or (pt_cmpR op_ge (pe_methU0 ((tk_depth e 6).mt (hr.mono (by omega))) (pv 0)) (pe_gi (gi e 75 rfl) rfl) (nomark _)) (pw_or1 (pt_cmpR op_gt (pe_callB call_len rfl (fr e 1 rfl) boot_len (pa_cons (pe_methU0 ((tk_leaves e 6).mt (hr.mono (by omega))) (pv 0)) pa_nil)) (pv 2) (nomark _)))))) (pss_one ps_never) pss_nil))), F.bindsN (fun _ _ _ _ _ _ us hl => match us, hl with | [_, _, _], _ => rfl), F.kp⟩
abbrev N_PairTest_init : List Str := ["self", "kind", "one", "other"]
theorem sc_PairTest_init : SupScope N_PairTest_init ["self", "kind", "one", "other"] (defScope s_PairTest_init) := ⟨rfl, rfl, rfl, by decide +kernel, rfl, by decide +kernel, by decide +kernel, by decide +kernel, rfl, rfl⟩
def cl_PairTest : List Str := ["Both", "Either"]
@[reducible] def b_PairTest_init : List Sl → W Out := (dSeq (dDrop (dCall 3 g_need_inner (dCons (dVar 2) (dCons (dC (.str ("one" : Str))) (dCons (dC (.int 8)) dNil)))))
  (dDrop (dCall 3 g_need_inner (dCons (dVar 3) (dCons (dC (.str ("other" : Str))) (dCons (dOp2 subD (dC (.int 8)) (dOpn lenD (dCons (dMeth "leaves" 0 (tb_leaves 6) (dVar 2) dNil) dNil))) dNil))))))
@[reducible] def ba_PairTest_init : List Sl → W (List D) := (dCons (dVar 1) (dCons (dC (.str ("" : Str))) (dCons (dTup (dCons (dVar 2) (dCons (dVar 3) dNil))) dNil)))
def gi_PairTest : Addr → List (Str × D) → List D → W (List (Str × D)) := dInit N_PairTest_init b_PairTest_init ba_PairTest_init 3 gi_Test
theorem su_PairTest_init (e : En K mg) : ∀ c, c ∈ cl_PairTest → c ∈ cl_Test ∧ SupC K (ga K c) (ga K "PairTest") (ma K (ga K "Test") "__init__") := fun c h => by
    have h : c ∈ (["Both", "Either"] : List Str) := h
    simp only [List.mem_cons, List.not_mem_nil, or_false] at h
    rcases h with rfl | rfl
    · exact ⟨by decide, fm_sup (e.c.fact 78 rfl)⟩
    · exact ⟨by decide, fm_sup (e.c.fact 79 rfl)⟩
theorem fi_PairTest (e : En K mg) : Fk PW w K mg base 46 (ma K (ga K "PairTest") "__init__") (PrI K 3 cl_PairTest gi_PairTest) := by
  obtain ⟨fd, F⟩ := d_PairTest_init e
  obtain ⟨fd2, ps2, G, hb2, _⟩ := (fi_Test e (base := base) (w := w)).ex
  refine ⟨fd, _, fn_super (CX := CX0) (b := b_PairTest_init) (fa := ba_PairTest_init) (k := 45) (pre := (defBody s_PairTest_init).take 2) F sc_PairTest_init rfl rfl rfl rfl rfl rfl (ls_seq (ls_drop (le_call (la_cons le_var (la_cons le_str (la_cons le_int la_nil)))))
  (ls_drop (le_call (la_cons le_var (la_cons le_str (la_cons (le_op2 lo_sub le_int (le_opn lo_len (la_cons (le_meth le_var la_nil) la_nil))) la_nil)))))) (la_cons le_var (la_cons le_str (la_cons (le_tup (la_cons le_var (la_cons le_var la_nil))) la_nil))) (fun cd cc A outer s H E hr => (pss_cons (ps_expr (pe_fk (fk_need_inner e) (hr.mono (by omega)) rfl (gl e 77 rfl) (pa_cons (pv 2) (pa_cons pe_str (pa_cons (pe_gi (gi e 76 rfl) rfl) pa_nil)))))
  (pss_one (ps_expr (pe_fk (fk_need_inner e) (hr.mono (by omega)) rfl (gl e 77 rfl) (pa_cons (pv 3) (pa_cons pe_str (pa_cons (pe_op op_sub (pe_gi (gi e 76 rfl) rfl) (pe_callB call_len rfl (fr e 1 rfl) boot_len (pa_cons (pe_methU0 ((tk_leaves e 6).mt (hr.mono (by omega))) (pv 2)) pa_nil))) pa_nil)))))))) (fun cd cc A outer s H E hr => (pa_cons (pv 1) (pa_cons pe_str (pa_cons (pe_tup (pa_cons (pv 2) (pa_cons (pv 3) pa_nil))) pa_nil)))) (FnOk.up G (by omega)) hb2 (fun _ _ _ => pass0) (su_PairTest_init e) (by decide +kernel) (fun _ => rfl) (fun _ => rfl) (fun _ => rfl) (fun _ => ⟨_, rfl⟩), SupD.bindsN F (fun _ _ _ _ _ _ _ us hl => match us, hl with | [_, _, _, _], _ => rfl), F.kp⟩
abbrev N_Both_init : List Str := ["self", "one", "other"]
theorem sc_Both_init : SupScope N_Both_init ["self", "one", "other"] (defScope s_Both_init) := ⟨rfl, rfl, rfl, by decide +kernel, rfl, by decide +kernel, by decide +kernel, by decide +kernel, rfl, rfl⟩
def cl_Both : List Str := ["Both"]
@[reducible] def b_Both_init : List Sl → W Out := dNext
@[reducible] def ba_Both_init : List Sl → W (List D) := (dCons (dC (.str ("both" : Str))) (dCons (dVar 1) (dCons (dVar 2) dNil)))
def gi_Both : Addr → List (Str × D) → List D → W (List (Str × D)) := dInit N_Both_init b_Both_init ba_Both_init 3 gi_PairTest
theorem su_Both_init (e : En K mg) : ∀ c, c ∈ cl_Both → c ∈ cl_PairTest ∧ SupC K (ga K c) (ga K "Both") (ma K (ga K "PairTest") "__init__") := fun c h => by
    have h : c ∈ (["Both"] : List Str) := h
    simp only [List.mem_cons, List.not_mem_nil, or_false] at h
    rcases h with rfl
    · exact ⟨by decide, fm_sup (e.c.fact 80 rfl)⟩
theorem fi_Both (e : En K mg) : Fk PW w K mg base 50 (ma K (ga K "Both") "__init__") (PrI K 2 cl_Both gi_Both) := by
  obtain ⟨fd, F⟩ := d_Both_init e
  obtain ⟨fd2, ps2, G, hb2, _⟩ := (fi_PairTest e (base := base) (w := w)).ex
  refine ⟨fd, _, fn_super (CX := CX0) (b := b_Both_init) (fa := ba_Both_init) (k := 49) (pre := (defBody s_Both_init).take 0) F sc_Both_init rfl rfl rfl rfl rfl rfl ls_next (la_cons le_str (la_cons le_var (la_cons le_var la_nil))) (fun cd cc A outer s H E hr => pss_nil) (fun cd cc A outer s H E hr => (pa_cons pe_str (pa_cons (pv 1) (pa_cons (pv 2) pa_nil)))) (FnOk.up G (by omega)) hb2 (fun _ _ _ => pass0) (su_Both_init e) (by decide +kernel) (fun _ => rfl) (fun _ => rfl) (fun _ => rfl) (fun _ => ⟨_, rfl⟩), SupD.bindsN F (fun _ _ _ _ _ _ _ us hl => match us, hl with | [_, _, _], _ => rfl), F.kp⟩
abbrev N_Either_init : List Str := ["self", "one", "other"]
theorem sc_Either_init : SupScope N_Either_init ["self", "one", "other"] (defScope s_Either_init) := ⟨rfl, rfl, rfl, by decide +kernel, rfl, by decide +kernel, by decide +kernel, by decide +kernel, rfl, rfl⟩
def cl_Either : List Str := ["Either"]
@[reducible] def b_Either_init : List Sl → W Out := dNext
@[reducible] def ba_Either_init : List Sl → W (List D) := (dCons (dC (.str ("either" : Str))) (dCons (dVar 1) (dCons (dVar 2) dNil)))
def gi_Either : Addr → List (Str × D) → List D → W (List (Str × D)) := dInit N_Either_init b_Either_init ba_Either_init 3 gi_PairTest
theorem su_Either_init (e : En K mg) : ∀ c, c ∈ cl_Either → c ∈ cl_PairTest ∧ SupC K (ga K c) (ga K "Either") (ma K (ga K "PairTest") "__init__") := fun c h => by
    have h : c ∈ (["Either"] : List Str) := h
    simp only [List.mem_cons, List.not_mem_nil, or_false] at h
    rcases h with rfl
    · exact ⟨by decide, fm_sup (e.c.fact 81 rfl)⟩
theorem fi_Either (e : En K mg) : Fk PW w K mg base 50 (ma K (ga K "Either") "__init__") (PrI K 2 cl_Either gi_Either) := by
  obtain ⟨fd, F⟩ := d_Either_init e
  obtain ⟨fd2, ps2, G, hb2, _⟩ := (fi_PairTest e (base := base) (w := w)).ex
  refine ⟨fd, _, fn_super (CX := CX0) (b := b_Either_init) (fa := ba_Either_init) (k := 49) (pre := (defBody s_Either_init).take 0) F sc_Either_init rfl rfl rfl rfl rfl rfl ls_next (la_cons le_str (la_cons le_var (la_cons le_var la_nil))) (fun cd cc A outer s H E hr => pss_nil) (fun cd cc A outer s H E hr => (pa_cons pe_str (pa_cons (pv 1) (pa_cons (pv 2) pa_nil)))) (FnOk.up G (by omega)) hb2 (fun _ _ _ => pass0) (su_Either_init e) (by decide +kernel) (fun _ => rfl) (fun _ => rfl) (fun _ => rfl) (fun _ => ⟨_, rfl⟩), SupD.bindsN F (fun _ _ _ _ _ _ _ us hl => match us, hl with | [_, _, _], _ => rfl), F.kp⟩
abbrev N_Ends_init : List Str := ["self", "word"]
theorem sc_Ends_init : SupScope N_Ends_init ["self", "word"] (defScope s_Ends_init) := ⟨rfl, rfl, rfl, by decide +kernel, rfl, by decide +kernel, by decide +kernel, by decide +kernel, rfl, rfl⟩
def cl_Ends : List Str := ["Ends"]
@[reducible] def b_Ends_init : List Sl → W Out := dNext
@[reducible] def ba_Ends_init : List Sl → W (List D) := (dCons (dC (.str ("ends" : Str))) (dCons (dVar 1) dNil))
def gi_Ends : Addr → List (Str × D) → List D → W (List (Str × D)) := dInit N_Ends_init b_Ends_init ba_Ends_init 2 gi_WordTest
theorem su_Ends_init (e : En K mg) : ∀ c, c ∈ cl_Ends → c ∈ cl_WordTest ∧ SupC K (ga K c) (ga K "Ends") (ma K (ga K "WordTest") "__init__") := fun c h => by
    have h : c ∈ (["Ends"] : List Str) := h
    simp only [List.mem_cons, List.not_mem_nil, or_false] at h
    rcases h with rfl
    · exact ⟨by decide, fm_sup (e.c.fact 82 rfl)⟩
theorem fi_Ends (e : En K mg) : Fk PW w K mg base 14 (ma K (ga K "Ends") "__init__") (PrI K 1 cl_Ends gi_Ends) := by
  obtain ⟨fd, F⟩ := d_Ends_init e
  obtain ⟨fd2, ps2, G, hb2, _⟩ := (fi_WordTest e (base := base) (w := w)).ex
  refine ⟨fd, _, fn_super (CX := CX0) (b := b_Ends_init) (fa := ba_Ends_init) (k := 13) (pre := (defBody s_Ends_init).take 0) F sc_Ends_init rfl rfl rfl rfl rfl rfl ls_next (la_cons le_str (la_cons le_var la_nil)) (fun cd cc A outer s H E hr => pss_nil) (fun cd cc A outer s H E hr => (pa_cons pe_str (pa_cons (pv 1) pa_nil))) (FnOk.up G (by omega)) hb2 (fun _ _ _ => pass0) (su_Ends_init e) (by decide +kernel) (fun _ => rfl) (fun _ => rfl) (fun _ => rfl) (fun _ => ⟨_, rfl⟩), SupD.bindsN F (fun _ _ _ _ _ _ _ us hl => match us, hl with | [_, _], _ => rfl), F.kp⟩
abbrev N_Fails_init : List Str := ["self", "test"]
theorem sc_Fails_init : SupScope N_Fails_init ["self", "test"] (defScope s_Fails_init) := ⟨rfl, rfl, rfl, by decide +kernel, rfl, by decide +kernel, by decide +kernel, by decide +kernel, rfl, rfl⟩
def cl_Fails : List Str := ["Fails"]
@[reducible] def b_Fails_init : List Sl → W Out := (dDrop (dCall 3 g_need_inner (dCons (dVar 1) (dCons (dC (.str ("test" : Str))) (dCons (dC (.int 8)) dNil)))))
@[reducible] def ba_Fails_init : List Sl → W (List D) := (dCons (dC (.str ("fails" : Str))) (dCons (dC (.str ("" : Str))) (dCons (dTup (dCons (dVar 1) dNil)) dNil)))
def gi_Fails : Addr → List (Str × D) → List D → W (List (Str × D)) := dInit N_Fails_init b_Fails_init ba_Fails_init 3 gi_Test
theorem su_Fails_init (e : En K mg) : ∀ c, c ∈ cl_Fails → c ∈ cl_Test ∧ SupC K (ga K c) (ga K "Fails") (ma K (ga K "Test") "__init__") := fun c h => by
    have h : c ∈ (["Fails"] : List Str) := h
    simp only [List.mem_cons, List.not_mem_nil, or_false] at h
    rcases h with rfl
    · exact ⟨by decide, fm_sup (e.c.fact 83 rfl)⟩
theorem fi_Fails (e : En K mg) : Fk PW w K mg base 46 (ma K (ga K "Fails") "__init__") (PrI K 1 cl_Fails gi_Fails) := by
  obtain ⟨fd, F⟩ := d_Fails_init e
  obtain ⟨fd2, ps2, G, hb2, _⟩ := (fi_Test e (base := base) (w := w)).ex
  refine ⟨fd, _, fn_super (CX := CX0) (b := b_Fails_init) (fa := ba_Fails_init) (k := 45) (pre := (defBody s_Fails_init).take 1) F sc_Fails_init rfl rfl rfl rfl rfl rfl (ls_drop (le_call (la_cons le_var (la_cons le_str (la_cons le_int la_nil))))) (la_cons le_str (la_cons le_str (la_cons (le_tup (la_cons le_var la_nil)) la_nil))) (fun cd cc A outer s H E hr => (pss_one (ps_expr (pe_fk (fk_need_inner e) (hr.mono (by omega)) rfl (gl e 77 rfl) (pa_cons (pv 1) (pa_cons pe_str (pa_cons (pe_gi (gi e 76 rfl) rfl) pa_nil))))))) (fun cd cc A outer s H E hr => (pa_cons pe_str (pa_cons pe_str (pa_cons (pe_tup (pa_cons (pv 1) pa_nil)) pa_nil)))) (FnOk.up G (by omega)) hb2 (fun _ _ _ => pass0) (su_Fails_init e) (by decide +kernel) (fun _ => rfl) (fun _ => rfl) (fun _ => rfl) (fun _ => ⟨_, rfl⟩), SupD.bindsN F (fun _ _ _ _ _ _ _ us hl => match us, hl with | [_, _], _ => rfl), F.kp⟩
abbrev N_Has_init : List Str := ["self", "word"]
theorem sc_Has_init : SupScope N_Has_init ["self", "word"] (defScope s_Has_init) := ⟨rfl, rfl, rfl, by decide +kernel, rfl, by decide +kernel, by decide +kernel, by decide +kernel, rfl, rfl⟩
def cl_Has : List Str := ["Has"]
@[reducible] def b_Has_init : List Sl → W Out := dNext
@[reducible] def ba_Has_init : List Sl → W (List D) := (dCons (dC (.str ("has" : Str))) (dCons (dVar 1) dNil))
def gi_Has : Addr → List (Str × D) → List D → W (List (Str × D)) := dInit N_Has_init b_Has_init ba_Has_init 2 gi_WordTest
theorem su_Has_init (e : En K mg) : ∀ c, c ∈ cl_Has → c ∈ cl_WordTest ∧ SupC K (ga K c) (ga K "Has") (ma K (ga K "WordTest") "__init__") := fun c h => by
    have h : c ∈ (["Has"] : List Str) := h
    simp only [List.mem_cons, List.not_mem_nil, or_false] at h
    rcases h with rfl
    · exact ⟨by decide, fm_sup (e.c.fact 84 rfl)⟩
theorem fi_Has (e : En K mg) : Fk PW w K mg base 14 (ma K (ga K "Has") "__init__") (PrI K 1 cl_Has gi_Has) := by
  obtain ⟨fd, F⟩ := d_Has_init e
  obtain ⟨fd2, ps2, G, hb2, _⟩ := (fi_WordTest e (base := base) (w := w)).ex
  refine ⟨fd, _, fn_super (CX := CX0) (b := b_Has_init) (fa := ba_Has_init) (k := 13) (pre := (defBody s_Has_init).take 0) F sc_Has_init rfl rfl rfl rfl rfl rfl ls_next (la_cons le_str (la_cons le_var la_nil)) (fun cd cc A outer s H E hr => pss_nil) (fun cd cc A outer s H E hr => (pa_cons pe_str (pa_cons (pv 1) pa_nil))) (FnOk.up G (by omega)) hb2 (fun _ _ _ => pass0) (su_Has_init e) (by decide +kernel) (fun _ => rfl) (fun _ => rfl) (fun _ => rfl) (fun _ => ⟨_, rfl⟩), SupD.bindsN F (fun _ _ _ _ _ _ _ us hl => match us, hl with | [_, _], _ => rfl), F.kp⟩
abbrev N_Is_init : List Str := ["self", "line"]
theorem sc_Is_init : SupScope N_Is_init ["self", "line"] (defScope s_Is_init) := ⟨rfl, rfl, rfl, by decide +kernel, rfl, by decide +kernel, by decide +kernel, by decide +kernel, rfl, rfl⟩
def cl_Is : List Str := ["Is"]
@[reducible] def b_Is_init : List Sl → W Out := (dIf (dOr (dNot (dTru (dCall 1 g_is_line (dCons (dVar 1) dNil)))) (dTest (dOp2 gtD (dOpn lenD (dCons (dVar 1) dNil)) (dC (.int 20))))) dNever dNext)
@[reducible] def ba_Is_init : List Sl → W (List D) := (dCons (dC (.str ("is" : Str))) (dCons (dVar 1) (dCons (dTup dNil) dNil)))
def gi_Is : Addr → List (Str × D) → List D → W (List (Str × D)) := dInit N_Is_init b_Is_init ba_Is_init 3 gi_Test
theorem su_Is_init (e : En K mg) : ∀ c, c ∈ cl_Is → c ∈ cl_Test ∧ SupC K (ga K c) (ga K "Is") (ma K (ga K "Test") "__init__") := fun c h => by
    have h : c ∈ (["Is"] : List Str) := h
    simp only [List.mem_cons, List.not_mem_nil, or_false] at h
    rcases h with rfl
    · exact ⟨by decide, fm_sup (e.c.fact 86 rfl)⟩
theorem fi_Is (e : En K mg) : Fk PW w K mg base 6 (ma K (ga K "Is") "__init__") (PrI K 1 cl_Is gi_Is) := by
  obtain ⟨fd, F⟩ := d_Is_init e
  obtain ⟨fd2, ps2, G, hb2, _⟩ := (fi_Test e (base := base) (w := w)).ex
  refine ⟨fd, _, fn_super (CX := CX0) (b := b_Is_init) (fa := ba_Is_init) (k := 5) (pre := (defBody s_Is_init).take 1) F sc_Is_init rfl rfl rfl rfl rfl rfl (ls_if (lt_or (lt_not (lt_tru (le_call (la_cons le_var la_nil)))) (lt_test (le_op2 lo_cmp (le_opn lo_len (la_cons le_var la_nil)) le_int))) ls_never ls_next) (la_cons le_str (la_cons le_var (la_cons (le_tup la_nil) la_nil))) (fun cd cc A outer s H E hr => (pss_one (ps_if (PW.pt (pw_or (pt_not (pt_truth (pe_fk (fk_is_line e) (hr.mono (by omega)) rfl (gl e 17 rfl) (pa_cons (pv 1) pa_nil)) (fun _ => rfl))) (pw_or1 (pt_cmpR op_gt (pe_callB call_len rfl (fr e 1 rfl) boot_len (pa_cons (pv 1) pa_nil)) (pe_gi (gi e 85 rfl) rfl) (nomark _))))) (pss_one ps_never) pss_nil))) (fun cd cc A outer s H E hr => (pa_cons pe_str (pa_cons (pv 1) (pa_cons (pe_tup pa_nil) pa_nil)))) (FnOk.up G (by omega)) hb2 (fun _ _ _ => pass0) (su_Is_init e) (by decide +kernel) (fun _ => rfl) (fun _ => rfl) (fun _ => rfl) (fun _ => ⟨_, rfl⟩), SupD.bindsN F (fun _ _ _ _ _ _ _ us hl => match us, hl with | [_, _], _ => rfl), F.kp⟩
abbrev N_Only_init : List Str := ["self", "letters"]
theorem sc_Only_init : SupScope N_Only_init ["self", "letters"] (defScope s_Only_init) := ⟨rfl, rfl, rfl, by decide +kernel, rfl, by decide +kernel, by decide +kernel, by decide +kernel, rfl, rfl⟩
def cl_Only : List Str := ["Only"]
@[reducible] def b_Only_init : List Sl → W Out := (dIf (dOr (dNot (dTru (dCall 1 g_is_line (dCons (dVar 1) dNil)))) (dTest (dOp2 ltD (dLenSet (dVar 1)) (dOpn lenD (dCons (dVar 1) dNil))))) dNever dNext)
@[reducible] def ba_Only_init : List Sl → W (List D) := (dCons (dC (.str ("only" : Str))) (dCons (dVar 1) (dCons (dTup dNil) dNil)))
def gi_Only : Addr → List (Str × D) → List D → W (List (Str × D)) := dInit N_Only_init b_Only_init ba_Only_init 3 gi_Test
theorem su_Only_init (e : En K mg) : ∀ c, c ∈ cl_Only → c ∈ cl_Test ∧ SupC K (ga K c) (ga K "Only") (ma K (ga K "Test") "__init__") := fun c h => by
    have h : c ∈ (["Only"] : List Str) := h
    simp only [List.mem_cons, List.not_mem_nil, or_false] at h
    rcases h with rfl
    · exact ⟨by decide, fm_sup (e.c.fact 88 rfl)⟩
theorem fi_Only (e : En K mg) : Fk PW w K mg base 6 (ma K (ga K "Only") "__init__") (PrI K 1 cl_Only gi_Only) := by
  obtain ⟨fd, F⟩ := d_Only_init e
  obtain ⟨fd2, ps2, G, hb2, _⟩ := (fi_Test e (base := base) (w := w)).ex
  refine ⟨fd, _, fn_super (CX := CX0) (b := b_Only_init) (fa := ba_Only_init) (k := 5) (pre := (defBody s_Only_init).take 1) F sc_Only_init rfl rfl rfl rfl rfl rfl (ls_if (lt_or (lt_not (lt_tru (le_call (la_cons le_var la_nil)))) (lt_test (le_op2 lo_cmp (le_lenSet le_var) (le_opn lo_len (la_cons le_var la_nil))))) ls_never ls_next) (la_cons le_str (la_cons le_var (la_cons (le_tup la_nil) la_nil))) (fun cd cc A outer s H E hr => (pss_one (ps_if (PW.pt (pw_or (pt_not (pt_truth (pe_fk (fk_is_line e) (hr.mono (by omega)) rfl (gl e 17 rfl) (pa_cons (pv 1) pa_nil)) (fun _ => rfl))) (pw_or1 (pt_cmpR op_lt (pe_lenSetS rfl rfl (fr e 1 rfl) rfl (fr e 87 rfl) (pv 1)) (pe_callB call_len rfl (fr e 1 rfl) boot_len (pa_cons (pv 1) pa_nil)) (nomark _))))) (pss_one ps_never) pss_nil))) (fun cd cc A outer s H E hr => (pa_cons pe_str (pa_cons (pv 1) (pa_cons (pe_tup pa_nil) pa_nil)))) (FnOk.up G (by omega)) hb2 (fun _ _ _ => pass0) (su_Only_init e) (by decide +kernel) (fun _ => rfl) (fun _ => rfl) (fun _ => rfl) (fun _ => ⟨_, rfl⟩), SupD.bindsN F (fun _ _ _ _ _ _ _ us hl => match us, hl with | [_, _], _ => rfl), F.kp⟩
abbrev N__law_made_goal : List Str := ["_law_goal_here", "_law_sort", "_law_first", "_law_second"]
theorem sc__law_made_goal : FnScope N__law_made_goal ["_law_goal_here"] (defScope s__law_made_goal) := ⟨rfl, rfl, rfl, by decide +kernel, rfl, by decide +kernel, by decide +kernel⟩
@[reducible] def b__law_made_goal (g__law_made_goal : Nat → List D → W D) (k : Nat) : List Sl → W Out := (dSeq (dAsg (dOp2 ixD (dVar 0) (dC (.int 0))) (dName 1))
  (dSeq (dIf (dTest (dOp2 eqD (dVar 1) (dC (.str ("has" : Str))))) (dRet (dMake "Has" 1 gi_Has (dCons (dOp2 ixD (dVar 0) (dC (.int 1))) dNil))) dNext)
  (dSeq (dIf (dTest (dOp2 (inD false) (dVar 1) (dTup (dCons (dC (.str ("begins" : Str))) (dCons (dC (.str ("ends" : Str))) dNil))))) (dRet (dIfE (dTest (dOp2 eqD (dVar 1) (dC (.str ("begins" : Str))))) (dMake "Begins" 1 gi_Begins (dCons (dOp2 ixD (dVar 0) (dC (.int 1))) dNil)) (dMake "Ends" 1 gi_Ends (dCons (dOp2 ixD (dVar 0) (dC (.int 1))) dNil)))) dNext)
  (dSeq (dIf (dTest (dOp2 (inD false) (dVar 1) (dTup (dCons (dC (.str ("is" : Str))) (dCons (dC (.str ("only" : Str))) dNil))))) (dRet (dIfE (dTest (dOp2 eqD (dVar 1) (dC (.str ("is" : Str))))) (dMake "Is" 1 gi_Is (dCons (dOp2 ixD (dVar 0) (dC (.int 1))) dNil)) (dMake "Only" 1 gi_Only (dCons (dOp2 ixD (dVar 0) (dC (.int 1))) dNil)))) dNext)
  (dSeq (dIf (dTest (dOp2 eqD (dVar 1) (dC (.str ("fails" : Str))))) (dRet (dMake "Fails" 1 gi_Fails (dCons (dCall 1 (g__law_made_goal k) (dCons (dOp2 ixD (dVar 0) (dC (.int 1))) dNil)) dNil))) dNext)
  (dSeq (dPar 2 3 (dCons (dCall 1 (g__law_made_goal k) (dCons (dOp2 ixD (dVar 0) (dC (.int 1))) dNil)) (dCons (dCall 1 (g__law_made_goal k) (dCons (dOp2 ixD (dVar 0) (dC (.int 2))) dNil)) dNil)))
  (dRet (dIfE (dTest (dOp2 eqD (dVar 1) (dC (.str ("both" : Str))))) (dMake "Both" 2 gi_Both (dCons (dVar 2) (dCons (dVar 3) dNil))) (dMake "Either" 2 gi_Either (dCons (dVar 2) (dCons (dVar 3) dNil)))))))))))
def g__law_made_goal : Nat → List D → W D
  | 0 => fun _ => W.stuck
  | k + 1 => dBody N__law_made_goal (b__law_made_goal (fun _ => g__law_made_goal k) k)
theorem fk__law_made_goal (e : En K mg) : ∀ k, Fk PW w K mg base (54 + 6 * k) (ga K "_law_made_goal") (Pr K 1 (g__law_made_goal k))
  | 0 => by
    obtain ⟨fd, F⟩ := d__law_made_goal e
    exact ⟨fd, ["_law_goal_here"], FnOk.none fun vs H Q E h => by obtain ⟨_, _, _, _, _, _, _, z⟩ := h; exact z, F.bindsN (fun _ _ _ _ _ _ us hl => match us, hl with | [_], _ => rfl), F.kp⟩
  | k + 1 => by
    have ih := fk__law_made_goal e k
    obtain ⟨fd, F⟩ := d__law_made_goal e
    exact ⟨fd, _, FnOk.up (fn_lx (CX := CX0) (b := b__law_made_goal (fun _ => g__law_made_goal k) k) (k := 59 + 6 * k) F sc__law_made_goal (ls_seq (ls_asg (le_op2 lo_ix le_var le_int) lg_name)
  (ls_seq (ls_if (lt_test (le_op2 lo_eq le_var le_str)) (ls_ret (le_make (cl := cl_Has) (by decide) (cls_ok (e.c.fact 18 rfl)) (la_cons (le_op2 lo_ix le_var le_int) la_nil))) ls_next)
  (ls_seq (ls_if (lt_test (le_op2 lo_in le_var (le_tup (la_cons le_str (la_cons le_str la_nil))))) (ls_ret (le_if (lt_test (le_op2 lo_eq le_var le_str)) (le_make (cl := cl_Begins) (by decide) (cls_ok (e.c.fact 20 rfl)) (la_cons (le_op2 lo_ix le_var le_int) la_nil)) (le_make (cl := cl_Ends) (by decide) (cls_ok (e.c.fact 22 rfl)) (la_cons (le_op2 lo_ix le_var le_int) la_nil)))) ls_next)
  (ls_seq (ls_if (lt_test (le_op2 lo_in le_var (le_tup (la_cons le_str (la_cons le_str la_nil))))) (ls_ret (le_if (lt_test (le_op2 lo_eq le_var le_str)) (le_make (cl := cl_Is) (by decide) (cls_ok (e.c.fact 24 rfl)) (la_cons (le_op2 lo_ix le_var le_int) la_nil)) (le_make (cl := cl_Only) (by decide) (cls_ok (e.c.fact 26 rfl)) (la_cons (le_op2 lo_ix le_var le_int) la_nil)))) ls_next)
  (ls_seq (ls_if (lt_test (le_op2 lo_eq le_var le_str)) (ls_ret (le_make (cl := cl_Fails) (by decide) (cls_ok (e.c.fact 28 rfl)) (la_cons (le_call (la_cons (le_op2 lo_ix le_var le_int) la_nil)) la_nil))) ls_next)
  (ls_seq (ls_par (la_cons (le_call (la_cons (le_op2 lo_ix le_var le_int) la_nil)) (la_cons (le_call (la_cons (le_op2 lo_ix le_var le_int) la_nil)) la_nil)))
  (ls_ret (le_if (lt_test (le_op2 lo_eq le_var le_str)) (le_make (cl := cl_Both) (by decide) (cls_ok (e.c.fact 30 rfl)) (la_cons le_var (la_cons le_var la_nil))) (le_make (cl := cl_Either) (by decide) (cls_ok (e.c.fact 32 rfl)) (la_cons le_var (la_cons le_var la_nil))))))))))) (fun cdv A outer s H E hr => (pss_cons (ps_set (i := 1) sc__law_made_goal.nd rfl (by first | exact Or.inl rfl | exact Or.inr rfl) (pe_ix ix_seq (pv 0) pe_int (fun _ _ => rfl)))
  (pss_cons (ps_if (pt_cmpR (op_eqU hr.units) (pv 1) pe_str (nomark _)) (pss_one (ps_ret (pe_mk (fm_ini (e.c.fact 104 rfl)) (fi_Has e) (hr.mono (by omega)) rfl (gl e 105 rfl) (pa_cons (pe_ix ix_seq (pv 0) pe_int (fun _ _ => rfl)) pa_nil)))) pss_nil)
  (pss_cons (ps_if (pt_cmpR op_inU (pv 1) (pe_tup (pa_cons pe_str (pa_cons pe_str pa_nil))) rfl) (pss_one (ps_ret (pe_ifExp (pt_cmpR (op_eqU hr.units) (pv 1) pe_str (nomark _)) (pe_mk (fm_ini (e.c.fact 100 rfl)) (fi_Begins e) (hr.mono (by omega)) rfl (gl e 101 rfl) (pa_cons (pe_ix ix_seq (pv 0) pe_int (fun _ _ => rfl)) pa_nil)) (pe_mk (fm_ini (e.c.fact 102 rfl)) (fi_Ends e) (hr.mono (by omega)) rfl (gl e 103 rfl) (pa_cons (pe_ix ix_seq (pv 0) pe_int (fun _ _ => rfl)) pa_nil))))) pss_nil)
  (pss_cons (ps_if (pt_cmpR op_inU (pv 1) (pe_tup (pa_cons pe_str (pa_cons pe_str pa_nil))) rfl) (pss_one (ps_ret (pe_ifExp (pt_cmpR (op_eqU hr.units) (pv 1) pe_str (nomark _)) (pe_mk (fm_ini (e.c.fact 96 rfl)) (fi_Is e) (hr.mono (by omega)) rfl (gl e 97 rfl) (pa_cons (pe_ix ix_seq (pv 0) pe_int (fun _ _ => rfl)) pa_nil)) (pe_mk (fm_ini (e.c.fact 98 rfl)) (fi_Only e) (hr.mono (by omega)) rfl (gl e 99 rfl) (pa_cons (pe_ix ix_seq (pv 0) pe_int (fun _ _ => rfl)) pa_nil))))) pss_nil)
  (pss_cons (ps_if (pt_cmpR (op_eqU hr.units) (pv 1) pe_str (nomark _)) (pss_one (ps_ret (pe_mk (fm_ini (e.c.fact 94 rfl)) (fi_Fails e) (hr.mono (by omega)) rfl (gl e 95 rfl) (pa_cons (pe_fk ih (hr.mono (by omega)) rfl (gl e 93 rfl) (pa_cons (pe_ix ix_seq (pv 0) pe_int (fun _ _ => rfl)) pa_nil)) pa_nil)))) pss_nil)
  (pss_cons (ps_par (i := 2) (j := 3) rfl sc__law_made_goal.nd rfl rfl (by decide) rfl rfl (pa_cons (pe_fk ih (hr.mono (by omega)) rfl (gl e 93 rfl) (pa_cons (pe_ix ix_seq (pv 0) pe_int (fun _ _ => rfl)) pa_nil)) (pa_cons (pe_fk ih (hr.mono (by omega)) rfl (gl e 93 rfl) (pa_cons (pe_ix ix_seq (pv 0) pe_int (fun _ _ => rfl)) pa_nil)) pa_nil)) rfl)
  (pss_one (ps_ret (pe_ifExp (pt_cmpR (op_eqU hr.units) (pv 1) pe_str (nomark _)) (pe_mk (fm_ini (e.c.fact 89 rfl)) (fi_Both e) (hr.mono (by omega)) rfl (gl e 90 rfl) (pa_cons (pv 2) (pa_cons (pv 3) pa_nil))) (pe_mk (fm_ini (e.c.fact 91 rfl)) (fi_Either e) (hr.mono (by omega)) rfl (gl e 92 rfl) (pa_cons (pv 2) (pa_cons (pv 3) pa_nil)))))))))))))) (by omega), F.bindsN (fun _ _ _ _ _ _ us hl => match us, hl with | [_], _ => rfl), F.kp⟩
abbrev N__law_pen : List Str := ["_law_script"]
theorem sc__law_pen : FnScope N__law_pen ["_law_script"] (defScope s__law_pen) := ⟨rfl, rfl, rfl, by decide +kernel, rfl, by decide +kernel, by decide +kernel⟩
theorem fk__law_pen (e : En K mg) : Fk PW w K mg base 2 (ga K "_law_pen") (spPen K) := by
  obtain ⟨fd, F⟩ := d__law_pen e
  refine ⟨fd, _, F.ok (CX := CX0) (k := 1) sc__law_pen spPen.len fun cdv A outer s H vs Q E hr h => ⟨t_pen K, PSs.nox ?_, pen_pure h⟩, F.bindsN (fun _ _ _ _ _ _ us hl => match us, hl with | [_], _ => rfl), F.kp⟩
  exact pss_one (ps_ret (pe_disp (pps_cons pe_str (pe_callTy call_list_of rfl (fr e 11 rfl) boot_list (pa_cons (pe_slice sl_U (pv 0) po_none (po_some pe_int)) pa_nil)) (pps_cons pe_str pe_int (pps_cons pe_str pe_int pps_nil))) rfl rfl (by decide) (by decide)))
abbrev N_Only_letters : List Str := ["self"]
theorem sc_Only_letters : FnScope N_Only_letters ["self"] (defScope s_Only_letters) := ⟨rfl, rfl, rfl, by decide +kernel, rfl, by decide +kernel, by decide +kernel⟩
@[reducible] def b_Only_letters : List Sl → W Out := (dRet (dFld "own_text" (dVar 0)))
def tp_letters : Tb := [("Only", dBody N_Only_letters b_Only_letters)]
theorem fo_Only_letters (e : En K mg) {fd : FuncData} (F : FunD K "letters" "Only.letters" (defArgs s_Only_letters) (defBody s_Only_letters) (defScope s_Only_letters) [] [] (pgA K "Only" "letters") fd) : FnOk PW w K mg base CX0 2 (pgA K "Only" "letters") fd ["self"] (Pr K 1 (dBody N_Only_letters b_Only_letters)) :=
  FnOk.up (fn_lx (CX := CX0) (b := b_Only_letters) (k := 1) F sc_Only_letters (ls_ret (le_fld le_var)) (fun cdv A outer s H E hr => (pss_one (ps_ret (pe_fld (pv 0) rfl))))) (by omega)
theorem fk_Only_letters (e : En K mg) : Fk PW w K mg base 2 (pgA K "Only" "letters") (Pr K 1 (dBody N_Only_letters b_Only_letters)) := by
  obtain ⟨fd, F⟩ := d_Only_letters e
  exact ⟨fd, _, fo_Only_letters e F, F.bindsN (fun _ _ _ _ _ _ us hl => match us, hl with | [_], _ => rfl), F.kp⟩
theorem pk_letters (e : En K mg) : TabP PW w K mg base 2 "letters" tp_letters := (.cons (cls_ok (e.c.fact 26 rfl)) (fm_prop (e.c.fact 106 rfl)) (fk_Only_letters e) .nil)
abbrev N_Is_line : List Str := ["self"]
theorem sc_Is_line : FnScope N_Is_line ["self"] (defScope s_Is_line) := ⟨rfl, rfl, rfl, by decide +kernel, rfl, by decide +kernel, by decide +kernel⟩
@[reducible] def b_Is_line : List Sl → W Out := (dRet (dFld "own_text" (dVar 0)))
def tp_line : Tb := [("Is", dBody N_Is_line b_Is_line)]
theorem fo_Is_line (e : En K mg) {fd : FuncData} (F : FunD K "line" "Is.line" (defArgs s_Is_line) (defBody s_Is_line) (defScope s_Is_line) [] [] (pgA K "Is" "line") fd) : FnOk PW w K mg base CX0 2 (pgA K "Is" "line") fd ["self"] (Pr K 1 (dBody N_Is_line b_Is_line)) :=
  FnOk.up (fn_lx (CX := CX0) (b := b_Is_line) (k := 1) F sc_Is_line (ls_ret (le_fld le_var)) (fun cdv A outer s H E hr => (pss_one (ps_ret (pe_fld (pv 0) rfl))))) (by omega)
theorem fk_Is_line (e : En K mg) : Fk PW w K mg base 2 (pgA K "Is" "line") (Pr K 1 (dBody N_Is_line b_Is_line)) := by
  obtain ⟨fd, F⟩ := d_Is_line e
  exact ⟨fd, _, fo_Is_line e F, F.bindsN (fun _ _ _ _ _ _ us hl => match us, hl with | [_], _ => rfl), F.kp⟩
theorem pk_line (e : En K mg) : TabP PW w K mg base 2 "line" tp_line := (.cons (cls_ok (e.c.fact 24 rfl)) (fm_prop (e.c.fact 107 rfl)) (fk_Is_line e) .nil)
abbrev N_PairTest_one : List Str := ["self"]
theorem sc_PairTest_one : FnScope N_PairTest_one ["self"] (defScope s_PairTest_one) := ⟨rfl, rfl, rfl, by decide +kernel, rfl, by decide +kernel, by decide +kernel⟩
@[reducible] def b_PairTest_one : List Sl → W Out := (dRet (dOp2 ixD (dFld "own_inner" (dVar 0)) (dC (.int 0))))
def tp_one : Tb := [("Both", dBody N_PairTest_one b_PairTest_one), ("Either", dBody N_PairTest_one b_PairTest_one)]
theorem fo_PairTest_one (e : En K mg) {fd : FuncData} (F : FunD K "one" "PairTest.one" (defArgs s_PairTest_one) (defBody s_PairTest_one) (defScope s_PairTest_one) [] [] (pgA K "PairTest" "one") fd) : FnOk PW w K mg base CX0 2 (pgA K "PairTest" "one") fd ["self"] (Pr K 1 (dBody N_PairTest_one b_PairTest_one)) :=
  FnOk.up (fn_lx (CX := CX0) (b := b_PairTest_one) (k := 1) F sc_PairTest_one (ls_ret (le_op2 lo_ix (le_fld le_var) le_int)) (fun cdv A outer s H E hr => (pss_one (ps_ret (pe_ix ix_seq (pe_fld (pv 0) rfl) pe_int (fun _ _ => rfl)))))) (by omega)
theorem fk_PairTest_one (e : En K mg) : Fk PW w K mg base 2 (pgA K "PairTest" "one") (Pr K 1 (dBody N_PairTest_one b_PairTest_one)) := by
  obtain ⟨fd, F⟩ := d_PairTest_one e
  exact ⟨fd, _, fo_PairTest_one e F, F.bindsN (fun _ _ _ _ _ _ us hl => match us, hl with | [_], _ => rfl), F.kp⟩
theorem pk_one (e : En K mg) : TabP PW w K mg base 2 "one" tp_one := (.cons (cls_ok (e.c.fact 30 rfl)) (fm_prop (e.c.fact 109 rfl)) (fk_PairTest_one e) (.cons (cls_ok (e.c.fact 32 rfl)) (fm_prop (e.c.fact 108 rfl)) (fk_PairTest_one e) .nil))
abbrev N_PairTest_other : List Str := ["self"]
theorem sc_PairTest_other : FnScope N_PairTest_other ["self"] (defScope s_PairTest_other) := ⟨rfl, rfl, rfl, by decide +kernel, rfl, by decide +kernel, by decide +kernel⟩
@[reducible] def b_PairTest_other : List Sl → W Out := (dRet (dOp2 ixD (dFld "own_inner" (dVar 0)) (dC (.int 1))))
def tp_other : Tb := [("Both", dBody N_PairTest_other b_PairTest_other), ("Either", dBody N_PairTest_other b_PairTest_other)]
theorem fo_PairTest_other (e : En K mg) {fd : FuncData} (F : FunD K "other" "PairTest.other" (defArgs s_PairTest_other) (defBody s_PairTest_other) (defScope s_PairTest_other) [] [] (pgA K "PairTest" "other") fd) : FnOk PW w K mg base CX0 2 (pgA K "PairTest" "other") fd ["self"] (Pr K 1 (dBody N_PairTest_other b_PairTest_other)) :=
  FnOk.up (fn_lx (CX := CX0) (b := b_PairTest_other) (k := 1) F sc_PairTest_other (ls_ret (le_op2 lo_ix (le_fld le_var) le_int)) (fun cdv A outer s H E hr => (pss_one (ps_ret (pe_ix ix_seq (pe_fld (pv 0) rfl) pe_int (fun _ _ => rfl)))))) (by omega)
theorem fk_PairTest_other (e : En K mg) : Fk PW w K mg base 2 (pgA K "PairTest" "other") (Pr K 1 (dBody N_PairTest_other b_PairTest_other)) := by
  obtain ⟨fd, F⟩ := d_PairTest_other e
  exact ⟨fd, _, fo_PairTest_other e F, F.bindsN (fun _ _ _ _ _ _ us hl => match us, hl with | [_], _ => rfl), F.kp⟩
theorem pk_other (e : En K mg) : TabP PW w K mg base 2 "other" tp_other := (.cons (cls_ok (e.c.fact 30 rfl)) (fm_prop (e.c.fact 111 rfl)) (fk_PairTest_other e) (.cons (cls_ok (e.c.fact 32 rfl)) (fm_prop (e.c.fact 110 rfl)) (fk_PairTest_other e) .nil))
abbrev N_Fails_test : List Str := ["self"]
theorem sc_Fails_test : FnScope N_Fails_test ["self"] (defScope s_Fails_test) := ⟨rfl, rfl, rfl, by decide +kernel, rfl, by decide +kernel, by decide +kernel⟩
@[reducible] def b_Fails_test : List Sl → W Out := (dRet (dOp2 ixD (dFld "own_inner" (dVar 0)) (dC (.int 0))))
def tp_test : Tb := [("Fails", dBody N_Fails_test b_Fails_test)]
theorem fo_Fails_test (e : En K mg) {fd : FuncData} (F : FunD K "test" "Fails.test" (defArgs s_Fails_test) (defBody s_Fails_test) (defScope s_Fails_test) [] [] (pgA K "Fails" "test") fd) : FnOk PW w K mg base CX0 2 (pgA K "Fails" "test") fd ["self"] (Pr K 1 (dBody N_Fails_test b_Fails_test)) :=
  FnOk.up (fn_lx (CX := CX0) (b := b_Fails_test) (k := 1) F sc_Fails_test (ls_ret (le_op2 lo_ix (le_fld le_var) le_int)) (fun cdv A outer s H E hr => (pss_one (ps_ret (pe_ix ix_seq (pe_fld (pv 0) rfl) pe_int (fun _ _ => rfl)))))) (by omega)
theorem fk_Fails_test (e : En K mg) : Fk PW w K mg base 2 (pgA K "Fails" "test") (Pr K 1 (dBody N_Fails_test b_Fails_test)) := by
  obtain ⟨fd, F⟩ := d_Fails_test e
  exact ⟨fd, _, fo_Fails_test e F, F.bindsN (fun _ _ _ _ _ _ us hl => match us, hl with | [_], _ => rfl), F.kp⟩
theorem pk_test (e : En K mg) : TabP PW w K mg base 2 "test" tp_test := (.cons (cls_ok (e.c.fact 28 rfl)) (fm_prop (e.c.fact 112 rfl)) (fk_Fails_test e) .nil)
abbrev N_WordTest_word : List Str := ["self"]
theorem sc_WordTest_word : FnScope N_WordTest_word ["self"] (defScope s_WordTest_word) := ⟨rfl, rfl, rfl, by decide +kernel, rfl, by decide +kernel, by decide +kernel⟩
@[reducible] def b_WordTest_word : List Sl → W Out := (dRet (dFld "own_text" (dVar 0)))
def tp_word : Tb := [("Has", dBody N_WordTest_word b_WordTest_word), ("Begins", dBody N_WordTest_word b_WordTest_word), ("Ends", dBody N_WordTest_word b_WordTest_word)]
theorem fo_WordTest_word (e : En K mg) {fd : FuncData} (F : FunD K "word" "WordTest.word" (defArgs s_WordTest_word) (defBody s_WordTest_word) (defScope s_WordTest_word) [] [] (pgA K "WordTest" "word") fd) : FnOk PW w K mg base CX0 2 (pgA K "WordTest" "word") fd ["self"] (Pr K 1 (dBody N_WordTest_word b_WordTest_word)) :=
  FnOk.up (fn_lx (CX := CX0) (b := b_WordTest_word) (k := 1) F sc_WordTest_word (ls_ret (le_fld le_var)) (fun cdv A outer s H E hr => (pss_one (ps_ret (pe_fld (pv 0) rfl))))) (by omega)
theorem fk_WordTest_word (e : En K mg) : Fk PW w K mg base 2 (pgA K "WordTest" "word") (Pr K 1 (dBody N_WordTest_word b_WordTest_word)) := by
  obtain ⟨fd, F⟩ := d_WordTest_word e
  exact ⟨fd, _, fo_WordTest_word e F, F.bindsN (fun _ _ _ _ _ _ us hl => match us, hl with | [_], _ => rfl), F.kp⟩
theorem pk_word (e : En K mg) : TabP PW w K mg base 2 "word" tp_word := (.cons (cls_ok (e.c.fact 18 rfl)) (fm_prop (e.c.fact 115 rfl)) (fk_WordTest_word e) (.cons (cls_ok (e.c.fact 20 rfl)) (fm_prop (e.c.fact 114 rfl)) (fk_WordTest_word e) (.cons (cls_ok (e.c.fact 22 rfl)) (fm_prop (e.c.fact 113 rfl)) (fk_WordTest_word e) .nil)))
abbrev N_Has_holds : List Str := ["self", "line"]
theorem sc_Has_holds : FnScope N_Has_holds ["self", "line"] (defScope s_Has_holds) := ⟨rfl, rfl, rfl, by decide +kernel, rfl, by decide +kernel, by decide +kernel⟩
@[reducible] def b_Has_holds (tb_holds : Nat → Tb) (k : Nat) : List Sl → W Out := (dRet (dOp2 (inD false) (dProp tp_word (dVar 0)) (dVar 1)))
abbrev N_Begins_holds : List Str := ["self", "line"]
theorem sc_Begins_holds : FnScope N_Begins_holds ["self", "line"] (defScope s_Begins_holds) := ⟨rfl, rfl, rfl, by decide +kernel, rfl, by decide +kernel, by decide +kernel⟩
@[reducible] def b_Begins_holds (tb_holds : Nat → Tb) (k : Nat) : List Sl → W Out := (dRet (dMs (swD Txt.startswith) (dVar 1) (dCons (dProp tp_word (dVar 0)) dNil)))
abbrev N_Ends_holds : List Str := ["self", "line"]
theorem sc_Ends_holds : FnScope N_Ends_holds ["self", "line"] (defScope s_Ends_holds) := ⟨rfl, rfl, rfl, by decide +kernel, rfl, by decide +kernel, by decide +kernel⟩
@[reducible] def b_Ends_holds (tb_holds : Nat → Tb) (k : Nat) : List Sl → W Out := (dRet (dMs (swD Txt.endswith) (dVar 1) (dCons (dProp tp_word (dVar 0)) dNil)))
abbrev N_Is_holds : List Str := ["self", "line"]
theorem sc_Is_holds : FnScope N_Is_holds ["self", "line"] (defScope s_Is_holds) := ⟨rfl, rfl, rfl, by decide +kernel, rfl, by decide +kernel, by decide +kernel⟩
@[reducible] def b_Is_holds (tb_holds : Nat → Tb) (k : Nat) : List Sl → W Out := (dRet (dOp2 eqD (dVar 1) (dProp tp_line (dVar 0))))
abbrev N_Only_holds : List Str := ["self", "line", "letter"]
theorem sc_Only_holds : FnScope N_Only_holds ["self", "line"] (defScope s_Only_holds) := ⟨rfl, rfl, rfl, by decide +kernel, rfl, by decide +kernel, by decide +kernel⟩
@[reducible] def b_Only_holds (tb_holds : Nat → Tb) (k : Nat) : List Sl → W Out := (dRet (dOpn allD (dCons (dLc (dIS (dVar 1)) (dName 2) dYes (dOp2 (inD false) (dVar 2) (dProp tp_letters (dVar 0))) [2]) dNil)))
abbrev N_Fails_holds : List Str := ["self", "line"]
theorem sc_Fails_holds : FnScope N_Fails_holds ["self", "line"] (defScope s_Fails_holds) := ⟨rfl, rfl, rfl, by decide +kernel, rfl, by decide +kernel, by decide +kernel⟩
@[reducible] def b_Fails_holds (tb_holds : Nat → Tb) (k : Nat) : List Sl → W Out := (dRet (dNotV (dMeth "holds" 1 (tb_holds k) (dProp tp_test (dVar 0)) (dCons (dVar 1) dNil))))
abbrev N_Both_holds : List Str := ["self", "line"]
theorem sc_Both_holds : FnScope N_Both_holds ["self", "line"] (defScope s_Both_holds) := ⟨rfl, rfl, rfl, by decide +kernel, rfl, by decide +kernel, by decide +kernel⟩
@[reducible] def b_Both_holds (tb_holds : Nat → Tb) (k : Nat) : List Sl → W Out := (dRet (dAndV (dMeth "holds" 1 (tb_holds k) (dProp tp_one (dVar 0)) (dCons (dVar 1) dNil)) (dMeth "holds" 1 (tb_holds k) (dProp tp_other (dVar 0)) (dCons (dVar 1) dNil))))
abbrev N_Either_holds : List Str := ["self", "line"]
theorem sc_Either_holds : FnScope N_Either_holds ["self", "line"] (defScope s_Either_holds) := ⟨rfl, rfl, rfl, by decide +kernel, rfl, by decide +kernel, by decide +kernel⟩
@[reducible] def b_Either_holds (tb_holds : Nat → Tb) (k : Nat) : List Sl → W Out := (dRet (dOrV (dMeth "holds" 1 (tb_holds k) (dProp tp_one (dVar 0)) (dCons (dVar 1) dNil)) (dMeth "holds" 1 (tb_holds k) (dProp tp_other (dVar 0)) (dCons (dVar 1) dNil))))
def tb_holds : Nat → Tb
  | 0 => []
  | k + 1 => [("Has", dBody N_Has_holds (b_Has_holds (fun _ => tb_holds k) k)), ("Begins", dBody N_Begins_holds (b_Begins_holds (fun _ => tb_holds k) k)), ("Ends", dBody N_Ends_holds (b_Ends_holds (fun _ => tb_holds k) k)), ("Is", dBody N_Is_holds (b_Is_holds (fun _ => tb_holds k) k)), ("Only", dBody N_Only_holds (b_Only_holds (fun _ => tb_holds k) k)), ("Fails", dBody N_Fails_holds (b_Fails_holds (fun _ => tb_holds k) k)), ("Both", dBody N_Both_holds (b_Both_holds (fun _ => tb_holds k) k)), ("Either", dBody N_Either_holds (b_Either_holds (fun _ => tb_holds k) k))]
theorem fo_Has_holds (e : En K mg) (k : Nat) (ih : TabK PW w K mg base (6 + 6 * k) "holds" 1 (tb_holds k)) {fd : FuncData} (F : FunD K "holds" "Has.holds" (defArgs s_Has_holds) (defBody s_Has_holds) (defScope s_Has_holds) [] [] (ma K (ga K "Has") "holds") fd) : FnOk PW w K mg base CX0 (12 + 6 * k) (ma K (ga K "Has") "holds") fd ["self", "line"] (Pr K 2 (dBody N_Has_holds (b_Has_holds (fun _ => tb_holds k) k))) :=
  FnOk.up (fn_lx (CX := CX0) (b := (b_Has_holds (fun _ => tb_holds k) k)) (k := 11 + 6 * k) F sc_Has_holds (ls_ret (le_op2 lo_in (le_prop le_var) le_var)) (fun cdv A outer s H E hr => (pss_one (ps_ret (pe_cmpR op_inU (pe_propU (((pk_word e) : TabP _ _ _ _ _ 2 _ _).pt (hr.mono (by omega))) (pv 0)) (pv 1) rfl))))) (by omega)
theorem fk_Has_holds (e : En K mg) (k : Nat) (ih : TabK PW w K mg base (6 + 6 * k) "holds" 1 (tb_holds k)) : Fk PW w K mg base (12 + 6 * k) (ma K (ga K "Has") "holds") (Pr K 2 (dBody N_Has_holds (b_Has_holds (fun _ => tb_holds k) k))) := by
  obtain ⟨fd, F⟩ := d_Has_holds e
  exact ⟨fd, _, fo_Has_holds e k ih F, F.bindsN (fun _ _ _ _ _ _ us hl => match us, hl with | [_, _], _ => rfl), F.kp⟩
theorem fo_Begins_holds (e : En K mg) (k : Nat) (ih : TabK PW w K mg base (6 + 6 * k) "holds" 1 (tb_holds k)) {fd : FuncData} (F : FunD K "holds" "Begins.holds" (defArgs s_Begins_holds) (defBody s_Begins_holds) (defScope s_Begins_holds) [] [] (ma K (ga K "Begins") "holds") fd) : FnOk PW w K mg base CX0 (12 + 6 * k) (ma K (ga K "Begins") "holds") fd ["self", "line"] (Pr K 2 (dBody N_Begins_holds (b_Begins_holds (fun _ => tb_holds k) k))) :=
  FnOk.up (fn_lx (CX := CX0) (b := (b_Begins_holds (fun _ => tb_holds k) k)) (k := 11 + 6 * k) F sc_Begins_holds (ls_ret (le_ms lo_sw le_var (la_cons (le_prop le_var) la_nil))) (fun cdv A outer s H E hr => (pss_one (ps_ret (pe_bm PySem.F.plainAttrs_str PySem.F.slot_str_startswith PySem.F.type_str_startswith mt_startswith (pv 1) (pa_cons (pe_propU (((pk_word e) : TabP _ _ _ _ _ 2 _ _).pt (hr.mono (by omega))) (pv 0)) pa_nil)))))) (by omega)
theorem fk_Begins_holds (e : En K mg) (k : Nat) (ih : TabK PW w K mg base (6 + 6 * k) "holds" 1 (tb_holds k)) : Fk PW w K mg base (12 + 6 * k) (ma K (ga K "Begins") "holds") (Pr K 2 (dBody N_Begins_holds (b_Begins_holds (fun _ => tb_holds k) k))) := by
  obtain ⟨fd, F⟩ := d_Begins_holds e
  exact ⟨fd, _, fo_Begins_holds e k ih F, F.bindsN (fun _ _ _ _ _ _ us hl => match us, hl with | [_, _], _ => rfl), F.kp⟩
theorem fo_Ends_holds (e : En K mg) (k : Nat) (ih : TabK PW w K mg base (6 + 6 * k) "holds" 1 (tb_holds k)) {fd : FuncData} (F : FunD K "holds" "Ends.holds" (defArgs s_Ends_holds) (defBody s_Ends_holds) (defScope s_Ends_holds) [] [] (ma K (ga K "Ends") "holds") fd) : FnOk PW w K mg base CX0 (12 + 6 * k) (ma K (ga K "Ends") "holds") fd ["self", "line"] (Pr K 2 (dBody N_Ends_holds (b_Ends_holds (fun _ => tb_holds k) k))) :=
  FnOk.up (fn_lx (CX := CX0) (b := (b_Ends_holds (fun _ => tb_holds k) k)) (k := 11 + 6 * k) F sc_Ends_holds (ls_ret (le_ms lo_sw le_var (la_cons (le_prop le_var) la_nil))) (fun cdv A outer s H E hr => (pss_one (ps_ret (pe_bm PySem.F.plainAttrs_str PySem.F.slot_str_endswith PySem.F.type_str_endswith mt_endswith (pv 1) (pa_cons (pe_propU (((pk_word e) : TabP _ _ _ _ _ 2 _ _).pt (hr.mono (by omega))) (pv 0)) pa_nil)))))) (by omega)
theorem fk_Ends_holds (e : En K mg) (k : Nat) (ih : TabK PW w K mg base (6 + 6 * k) "holds" 1 (tb_holds k)) : Fk PW w K mg base (12 + 6 * k) (ma K (ga K "Ends") "holds") (Pr K 2 (dBody N_Ends_holds (b_Ends_holds (fun _ => tb_holds k) k))) := by
  obtain ⟨fd, F⟩ := d_Ends_holds e
  exact ⟨fd, _, fo_Ends_holds e k ih F, F.bindsN (fun _ _ _ _ _ _ us hl => match us, hl with | [_, _], _ => rfl), F.kp⟩
theorem fo_Is_holds (e : En K mg) (k : Nat) (ih : TabK PW w K mg base (6 + 6 * k) "holds" 1 (tb_holds k)) {fd : FuncData} (F : FunD K "holds" "Is.holds" (defArgs s_Is_holds) (defBody s_Is_holds) (defScope s_Is_holds) [] [] (ma K (ga K "Is") "holds") fd) : FnOk PW w K mg base CX0 (12 + 6 * k) (ma K (ga K "Is") "holds") fd ["self", "line"] (Pr K 2 (dBody N_Is_holds (b_Is_holds (fun _ => tb_holds k) k))) :=
  FnOk.up (fn_lx (CX := CX0) (b := (b_Is_holds (fun _ => tb_holds k) k)) (k := 11 + 6 * k) F sc_Is_holds (ls_ret (le_op2 lo_eq le_var (le_prop le_var))) (fun cdv A outer s H E hr => (pss_one (ps_ret (pe_cmpR (op_eqU hr.units) (pv 1) (pe_propU (((pk_line e) : TabP _ _ _ _ _ 2 _ _).pt (hr.mono (by omega))) (pv 0)) (nomark _)))))) (by omega)
theorem fk_Is_holds (e : En K mg) (k : Nat) (ih : TabK PW w K mg base (6 + 6 * k) "holds" 1 (tb_holds k)) : Fk PW w K mg base (12 + 6 * k) (ma K (ga K "Is") "holds") (Pr K 2 (dBody N_Is_holds (b_Is_holds (fun _ => tb_holds k) k))) := by
  obtain ⟨fd, F⟩ := d_Is_holds e
  exact ⟨fd, _, fo_Is_holds e k ih F, F.bindsN (fun _ _ _ _ _ _ us hl => match us, hl with | [_, _], _ => rfl), F.kp⟩
theorem fo_Only_holds (e : En K mg) (k : Nat) (ih : TabK PW w K mg base (6 + 6 * k) "holds" 1 (tb_holds k)) {fd : FuncData} (F : FunD K "holds" "Only.holds" (defArgs s_Only_holds) (defBody s_Only_holds) (defScope s_Only_holds) [] [] (ma K (ga K "Only") "holds") fd) : FnOk PW w K mg base CX0 (12 + 6 * k) (ma K (ga K "Only") "holds") fd ["self", "line"] (Pr K 2 (dBody N_Only_holds (b_Only_holds (fun _ => tb_holds k) k))) :=
  FnOk.up (fn_lx (CX := CX0) (b := (b_Only_holds (fun _ => tb_holds k) k)) (k := 11 + 6 * k) F sc_Only_holds (ls_ret (le_opn lo_all (la_cons (le_lc (li_str le_var) lg_name lt_yes (le_op2 lo_in le_var (le_prop le_var)) (fun _ h => h)) la_nil))) (fun cdv A outer s H E hr => (pss_one (ps_ret (pe_callB (cr_all rfl) rfl (fr e 16 rfl) boot_all (pa_cons (pe_lc (own := [("letter", 2)]) rfl sc_Only_holds.nd (pi_str (pv 1)) (blkOk_by (N := N_Only_holds) (sc := defScope s_Only_holds) (by decide +kernel)) (fun _ _ _ _ _ => (pg_name (i := 2) sc_Only_holds.nd rfl (by first | exact Or.inl rfl | exact Or.inr rfl))) (fun _ _ _ _ _ => pts_nil) (fun _ _ _ _ _ => (pe_cmpR op_inU (pv 2) (pe_propU (((pk_letters e) : TabP _ _ _ _ _ 2 _ _).pt (hr.mono (by omega))) (pv 0)) rfl))) pa_nil)))))) (by omega)
theorem fk_Only_holds (e : En K mg) (k : Nat) (ih : TabK PW w K mg base (6 + 6 * k) "holds" 1 (tb_holds k)) : Fk PW w K mg base (12 + 6 * k) (ma K (ga K "Only") "holds") (Pr K 2 (dBody N_Only_holds (b_Only_holds (fun _ => tb_holds k) k))) := by
  obtain ⟨fd, F⟩ := d_Only_holds e
  exact ⟨fd, _, fo_Only_holds e k ih F, F.bindsN (fun _ _ _ _ _ _ us hl => match us, hl with | [_, _], _ => rfl), F.kp⟩
theorem fo_Fails_holds (e : En K mg) (k : Nat) (ih : TabK PW w K mg base (6 + 6 * k) "holds" 1 (tb_holds k)) {fd : FuncData} (F : FunD K "holds" "Fails.holds" (defArgs s_Fails_holds) (defBody s_Fails_holds) (defScope s_Fails_holds) [] [] (ma K (ga K "Fails") "holds") fd) : FnOk PW w K mg base CX0 (12 + 6 * k) (ma K (ga K "Fails") "holds") fd ["self", "line"] (Pr K 2 (dBody N_Fails_holds (b_Fails_holds (fun _ => tb_holds k) k))) :=
  FnOk.up (fn_lx (CX := CX0) (b := (b_Fails_holds (fun _ => tb_holds k) k)) (k := 11 + 6 * k) F sc_Fails_holds (ls_ret (le_notT (le_meth (le_prop le_var) (la_cons le_var la_nil)))) (fun cdv A outer s H E hr => (pss_one (ps_ret (pe_notT (pe_methU (ih.mt (hr.mono (by omega))) (pe_propU (((pk_test e) : TabP _ _ _ _ _ 2 _ _).pt (hr.mono (by omega))) (pv 0)) (pa_cons (pv 1) pa_nil))))))) (by omega)
theorem fk_Fails_holds (e : En K mg) (k : Nat) (ih : TabK PW w K mg base (6 + 6 * k) "holds" 1 (tb_holds k)) : Fk PW w K mg base (12 + 6 * k) (ma K (ga K "Fails") "holds") (Pr K 2 (dBody N_Fails_holds (b_Fails_holds (fun _ => tb_holds k) k))) := by
  obtain ⟨fd, F⟩ := d_Fails_holds e
  exact ⟨fd, _, fo_Fails_holds e k ih F, F.bindsN (fun _ _ _ _ _ _ us hl => match us, hl with | [_, _], _ => rfl), F.kp⟩
theorem fo_Both_holds (e : En K mg) (k : Nat) (ih : TabK PW w K mg base (6 + 6 * k) "holds" 1 (tb_holds k)) {fd : FuncData} (F : FunD K "holds" "Both.holds" (defArgs s_Both_holds) (defBody s_Both_holds) (defScope s_Both_holds) [] [] (ma K (ga K "Both") "holds") fd) : FnOk PW w K mg base CX0 (12 + 6 * k) (ma K (ga K "Both") "holds") fd ["self", "line"] (Pr K 2 (dBody N_Both_holds (b_Both_holds (fun _ => tb_holds k) k))) :=
  FnOk.up (fn_lx (CX := CX0) (b := (b_Both_holds (fun _ => tb_holds k) k)) (k := 11 + 6 * k) F sc_Both_holds (ls_ret (le_and (le_meth (le_prop le_var) (la_cons le_var la_nil)) (le_meth (le_prop le_var) (la_cons le_var la_nil)))) (fun cdv A outer s H E hr => (pss_one (ps_ret (pe_andT (pe_methU (ih.mt (hr.mono (by omega))) (pe_propU (((pk_one e) : TabP _ _ _ _ _ 2 _ _).pt (hr.mono (by omega))) (pv 0)) (pa_cons (pv 1) pa_nil)) (pe_one (pe_methU (ih.mt (hr.mono (by omega))) (pe_propU (((pk_other e) : TabP _ _ _ _ _ 2 _ _).pt (hr.mono (by omega))) (pv 0)) (pa_cons (pv 1) pa_nil)))))))) (by omega)
theorem fk_Both_holds (e : En K mg) (k : Nat) (ih : TabK PW w K mg base (6 + 6 * k) "holds" 1 (tb_holds k)) : Fk PW w K mg base (12 + 6 * k) (ma K (ga K "Both") "holds") (Pr K 2 (dBody N_Both_holds (b_Both_holds (fun _ => tb_holds k) k))) := by
  obtain ⟨fd, F⟩ := d_Both_holds e
  exact ⟨fd, _, fo_Both_holds e k ih F, F.bindsN (fun _ _ _ _ _ _ us hl => match us, hl with | [_, _], _ => rfl), F.kp⟩
theorem fo_Either_holds (e : En K mg) (k : Nat) (ih : TabK PW w K mg base (6 + 6 * k) "holds" 1 (tb_holds k)) {fd : FuncData} (F : FunD K "holds" "Either.holds" (defArgs s_Either_holds) (defBody s_Either_holds) (defScope s_Either_holds) [] [] (ma K (ga K "Either") "holds") fd) : FnOk PW w K mg base CX0 (12 + 6 * k) (ma K (ga K "Either") "holds") fd ["self", "line"] (Pr K 2 (dBody N_Either_holds (b_Either_holds (fun _ => tb_holds k) k))) :=
  FnOk.up (fn_lx (CX := CX0) (b := (b_Either_holds (fun _ => tb_holds k) k)) (k := 11 + 6 * k) F sc_Either_holds (ls_ret (le_or (le_meth (le_prop le_var) (la_cons le_var la_nil)) (le_meth (le_prop le_var) (la_cons le_var la_nil)))) (fun cdv A outer s H E hr => (pss_one (ps_ret (pe_orT (pe_methU (ih.mt (hr.mono (by omega))) (pe_propU (((pk_one e) : TabP _ _ _ _ _ 2 _ _).pt (hr.mono (by omega))) (pv 0)) (pa_cons (pv 1) pa_nil)) (pe_one (pe_methU (ih.mt (hr.mono (by omega))) (pe_propU (((pk_other e) : TabP _ _ _ _ _ 2 _ _).pt (hr.mono (by omega))) (pv 0)) (pa_cons (pv 1) pa_nil)))))))) (by omega)
theorem fk_Either_holds (e : En K mg) (k : Nat) (ih : TabK PW w K mg base (6 + 6 * k) "holds" 1 (tb_holds k)) : Fk PW w K mg base (12 + 6 * k) (ma K (ga K "Either") "holds") (Pr K 2 (dBody N_Either_holds (b_Either_holds (fun _ => tb_holds k) k))) := by
  obtain ⟨fd, F⟩ := d_Either_holds e
  exact ⟨fd, _, fo_Either_holds e k ih F, F.bindsN (fun _ _ _ _ _ _ us hl => match us, hl with | [_, _], _ => rfl), F.kp⟩
theorem tk_holds (e : En K mg) : ∀ k, TabK PW w K mg base (6 + 6 * k) "holds" 1 (tb_holds k)
  | 0 => .nil
  | k + 1 => (.cons (cls_ok (e.c.fact 18 rfl)) (fm_meth (e.c.fact 123 rfl)) (Fk.up (fk_Has_holds e k (tk_holds e k)) (by omega)) (.cons (cls_ok (e.c.fact 20 rfl)) (fm_meth (e.c.fact 122 rfl)) (Fk.up (fk_Begins_holds e k (tk_holds e k)) (by omega)) (.cons (cls_ok (e.c.fact 22 rfl)) (fm_meth (e.c.fact 121 rfl)) (Fk.up (fk_Ends_holds e k (tk_holds e k)) (by omega)) (.cons (cls_ok (e.c.fact 24 rfl)) (fm_meth (e.c.fact 120 rfl)) (Fk.up (fk_Is_holds e k (tk_holds e k)) (by omega)) (.cons (cls_ok (e.c.fact 26 rfl)) (fm_meth (e.c.fact 119 rfl)) (Fk.up (fk_Only_holds e k (tk_holds e k)) (by omega)) (.cons (cls_ok (e.c.fact 28 rfl)) (fm_meth (e.c.fact 118 rfl)) (Fk.up (fk_Fails_holds e k (tk_holds e k)) (by omega)) (.cons (cls_ok (e.c.fact 30 rfl)) (fm_meth (e.c.fact 117 rfl)) (Fk.up (fk_Both_holds e k (tk_holds e k)) (by omega)) (.cons (cls_ok (e.c.fact 32 rfl)) (fm_meth (e.c.fact 116 rfl)) (Fk.up (fk_Either_holds e k (tk_holds e k)) (by omega)) .nil))))))))
abbrev N__law_same : List Str := ["_law_one", "_law_other", "_law_rows", "_law_row_here"]
theorem sc__law_same : FnScope N__law_same ["_law_one", "_law_other", "_law_rows"] (defScope s__law_same) := ⟨rfl, rfl, rfl, by decide +kernel, rfl, by decide +kernel, by decide +kernel⟩
@[reducible] def b__law_same : List Sl → W Out := (dRet (dOp2 eqD (dLc (dIL (dVar 2)) (dName 3) (dTest (dOp2 neD (dMeth "holds" 1 (tb_holds 6) (dVar 0) (dCons (dVar 3) dNil)) (dMeth "holds" 1 (tb_holds 6) (dVar 1) (dCons (dVar 3) dNil)))) (dVar 3) [3]) (dLst dNil)))
def g__law_same : List D → W D := dBody N__law_same b__law_same
theorem fk__law_same (e : En K mg) : Fk PW w K mg base 46 (ga K "_law_same") (Pr K 3 g__law_same) := by
  obtain ⟨fd, F⟩ := d__law_same e
  exact ⟨fd, _, fn_lx (CX := CX0) (b := b__law_same) (k := 45) F sc__law_same (ls_ret (le_op2 lo_eq (le_lc (li_list le_var) lg_name (lt_test (le_op2 lo_ne (le_meth le_var (la_cons le_var la_nil)) (le_meth le_var (la_cons le_var la_nil)))) le_var (fun _ h => h)) (le_lst la_nil))) (fun cdv A outer s H E hr => (pss_one (ps_ret (pe_cmpR (op_eqU hr.units) (pe_lc (own := [("_law_row_here", 3)]) rfl sc__law_same.nd (pi_list (pv 2)) (blkOk_by (N := N__law_same) (sc := defScope s__law_same) (by decide +kernel)) (fun _ _ _ _ _ => (pg_name (i := 3) sc__law_same.nd rfl (by first | exact Or.inl rfl | exact Or.inr rfl))) (fun _ _ _ _ _ => (pts_one (pt_cmpR (op_neU hr.units) (pe_methU ((tk_holds e 6).mt (hr.mono (by omega))) (pv 0) (pa_cons (pv 3) pa_nil)) (pe_methU ((tk_holds e 6).mt (hr.mono (by omega))) (pv 1) (pa_cons (pv 3) pa_nil)) (nomark _)))) (fun _ _ _ _ _ => (pv 3))) (pe_lst pa_nil) (nomark _))))), F.bindsN (fun _ _ _ _ _ _ us hl => match us, hl with | [_, _, _], _ => rfl), F.kp⟩
abbrev N__law_rules_right : List Str := ["_law_a", "_law_b", "_law_c", "_law_rows"]
theorem sc__law_rules_right : FnScope N__law_rules_right ["_law_a", "_law_b", "_law_c", "_law_rows"] (defScope s__law_rules_right) := ⟨rfl, rfl, rfl, by decide +kernel, rfl, by decide +kernel, by decide +kernel⟩
@[reducible] def b__law_rules_right : List Sl → W Out := (dSeq (dIf (dOr (dNot (dTru (dCall 3 g__law_same (dCons (dMake "Fails" 1 gi_Fails (dCons (dMake "Fails" 1 gi_Fails (dCons (dVar 0) dNil)) dNil)) (dCons (dVar 0) (dCons (dVar 3) dNil)))))) (dNot (dTru (dCall 3 g__law_same (dCons (dMake "Both" 2 gi_Both (dCons (dVar 0) (dCons (dVar 0) dNil))) (dCons (dMake "Either" 2 gi_Either (dCons (dVar 0) (dCons (dVar 0) dNil))) (dCons (dVar 3) dNil))))))) (dRet (dC (.bl false))) dNext)
  (dSeq (dIf (dNot (dTru (dCall 3 g__law_same (dCons (dMake "Fails" 1 gi_Fails (dCons (dMake "Both" 2 gi_Both (dCons (dVar 0) (dCons (dVar 1) dNil))) dNil)) (dCons (dMake "Either" 2 gi_Either (dCons (dMake "Fails" 1 gi_Fails (dCons (dVar 0) dNil)) (dCons (dMake "Fails" 1 gi_Fails (dCons (dVar 1) dNil)) dNil))) (dCons (dVar 3) dNil)))))) (dRet (dC (.bl false))) dNext)
  (dSeq (dIf (dNot (dTru (dCall 3 g__law_same (dCons (dMake "Both" 2 gi_Both (dCons (dVar 0) (dCons (dMake "Either" 2 gi_Either (dCons (dVar 1) (dCons (dVar 2) dNil))) dNil))) (dCons (dMake "Either" 2 gi_Either (dCons (dMake "Both" 2 gi_Both (dCons (dVar 0) (dCons (dVar 1) dNil))) (dCons (dMake "Both" 2 gi_Both (dCons (dVar 0) (dCons (dVar 2) dNil))) dNil))) (dCons (dVar 3) dNil)))))) (dRet (dC (.bl false))) dNext)
  (dRet (dCall 3 g__law_same (dCons (dMake "Either" 2 gi_Either (dCons (dVar 0) (dCons (dMake "Both" 2 gi_Both (dCons (dVar 1) (dCons (dVar 2) dNil))) dNil))) (dCons (dMake "Both" 2 gi_Both (dCons (dMake "Either" 2 gi_Either (dCons (dVar 0) (dCons (dVar 1) dNil))) (dCons (dMake "Either" 2 gi_Either (dCons (dVar 0) (dCons (dVar 2) dNil))) dNil))) (dCons (dVar 3) dNil))))))))
def g__law_rules_right : List D → W D := dBody N__law_rules_right b__law_rules_right
theorem fk__law_rules_right (e : En K mg) : Fk PW w K mg base 54 (ga K "_law_rules_right") (Pr K 4 g__law_rules_right) := by
  obtain ⟨fd, F⟩ := d__law_rules_right e
  exact ⟨fd, _, fn_lx (CX := CX0) (b := b__law_rules_right) (k := 53) F sc__law_rules_right (ls_seq (ls_if (lt_or (lt_not (lt_tru (le_call (la_cons (le_make (cl := cl_Fails) (by decide) (cls_ok (e.c.fact 28 rfl)) (la_cons (le_make (cl := cl_Fails) (by decide) (cls_ok (e.c.fact 28 rfl)) (la_cons le_var la_nil)) la_nil)) (la_cons le_var (la_cons le_var la_nil)))))) (lt_not (lt_tru (le_call (la_cons (le_make (cl := cl_Both) (by decide) (cls_ok (e.c.fact 30 rfl)) (la_cons le_var (la_cons le_var la_nil))) (la_cons (le_make (cl := cl_Either) (by decide) (cls_ok (e.c.fact 32 rfl)) (la_cons le_var (la_cons le_var la_nil))) (la_cons le_var la_nil))))))) (ls_ret le_bl) ls_next)
  (ls_seq (ls_if (lt_not (lt_tru (le_call (la_cons (le_make (cl := cl_Fails) (by decide) (cls_ok (e.c.fact 28 rfl)) (la_cons (le_make (cl := cl_Both) (by decide) (cls_ok (e.c.fact 30 rfl)) (la_cons le_var (la_cons le_var la_nil))) la_nil)) (la_cons (le_make (cl := cl_Either) (by decide) (cls_ok (e.c.fact 32 rfl)) (la_cons (le_make (cl := cl_Fails) (by decide) (cls_ok (e.c.fact 28 rfl)) (la_cons le_var la_nil)) (la_cons (le_make (cl := cl_Fails) (by decide) (cls_ok (e.c.fact 28 rfl)) (la_cons le_var la_nil)) la_nil))) (la_cons le_var la_nil)))))) (ls_ret le_bl) ls_next)
  (ls_seq (ls_if (lt_not (lt_tru (le_call (la_cons (le_make (cl := cl_Both) (by decide) (cls_ok (e.c.fact 30 rfl)) (la_cons le_var (la_cons (le_make (cl := cl_Either) (by decide) (cls_ok (e.c.fact 32 rfl)) (la_cons le_var (la_cons le_var la_nil))) la_nil))) (la_cons (le_make (cl := cl_Either) (by decide) (cls_ok (e.c.fact 32 rfl)) (la_cons (le_make (cl := cl_Both) (by decide) (cls_ok (e.c.fact 30 rfl)) (la_cons le_var (la_cons le_var la_nil))) (la_cons (le_make (cl := cl_Both) (by decide) (cls_ok (e.c.fact 30 rfl)) (la_cons le_var (la_cons le_var la_nil))) la_nil))) (la_cons le_var la_nil)))))) (ls_ret le_bl) ls_next)
  (ls_ret (le_call (la_cons (le_make (cl := cl_Either) (by decide) (cls_ok (e.c.fact 32 rfl)) (la_cons le_var (la_cons (le_make (cl := cl_Both) (by decide) (cls_ok (e.c.fact 30 rfl)) (la_cons le_var (la_cons le_var la_nil))) la_nil))) (la_cons (le_make (cl := cl_Both) (by decide) (cls_ok (e.c.fact 30 rfl)) (la_cons (le_make (cl := cl_Either) (by decide) (cls_ok (e.c.fact 32 rfl)) (la_cons le_var (la_cons le_var la_nil))) (la_cons (le_make (cl := cl_Either) (by decide) (cls_ok (e.c.fact 32 rfl)) (la_cons le_var (la_cons le_var la_nil))) la_nil))) (la_cons le_var la_nil)))))))) (fun cdv A outer s H E hr => (pss_cons (ps_if (PW.pt (pw_or (pt_not (pt_truth (pe_fk (fk__law_same e) (hr.mono (by omega)) rfl (gl e 124 rfl) (pa_cons (pe_mk (fm_ini (e.c.fact 94 rfl)) (fi_Fails e) (hr.mono (by omega)) rfl (gl e 95 rfl) (pa_cons (pe_mk (fm_ini (e.c.fact 94 rfl)) (fi_Fails e) (hr.mono (by omega)) rfl (gl e 95 rfl) (pa_cons (pv 0) pa_nil)) pa_nil)) (pa_cons (pv 0) (pa_cons (pv 3) pa_nil)))) (fun _ => rfl))) (pw_or1 (pt_not (pt_truth (pe_fk (fk__law_same e) (hr.mono (by omega)) rfl (gl e 124 rfl) (pa_cons (pe_mk (fm_ini (e.c.fact 89 rfl)) (fi_Both e) (hr.mono (by omega)) rfl (gl e 90 rfl) (pa_cons (pv 0) (pa_cons (pv 0) pa_nil))) (pa_cons (pe_mk (fm_ini (e.c.fact 91 rfl)) (fi_Either e) (hr.mono (by omega)) rfl (gl e 92 rfl) (pa_cons (pv 0) (pa_cons (pv 0) pa_nil))) (pa_cons (pv 3) pa_nil)))) (fun _ => rfl)))))) (pss_one (ps_ret pe_bl)) pss_nil)
  (pss_cons (ps_if (pt_not (pt_truth (pe_fk (fk__law_same e) (hr.mono (by omega)) rfl (gl e 124 rfl) (pa_cons (pe_mk (fm_ini (e.c.fact 94 rfl)) (fi_Fails e) (hr.mono (by omega)) rfl (gl e 95 rfl) (pa_cons (pe_mk (fm_ini (e.c.fact 89 rfl)) (fi_Both e) (hr.mono (by omega)) rfl (gl e 90 rfl) (pa_cons (pv 0) (pa_cons (pv 1) pa_nil))) pa_nil)) (pa_cons (pe_mk (fm_ini (e.c.fact 91 rfl)) (fi_Either e) (hr.mono (by omega)) rfl (gl e 92 rfl) (pa_cons (pe_mk (fm_ini (e.c.fact 94 rfl)) (fi_Fails e) (hr.mono (by omega)) rfl (gl e 95 rfl) (pa_cons (pv 0) pa_nil)) (pa_cons (pe_mk (fm_ini (e.c.fact 94 rfl)) (fi_Fails e) (hr.mono (by omega)) rfl (gl e 95 rfl) (pa_cons (pv 1) pa_nil)) pa_nil))) (pa_cons (pv 3) pa_nil)))) (fun _ => rfl))) (pss_one (ps_ret pe_bl)) pss_nil)
  (pss_cons (ps_if (pt_not (pt_truth (pe_fk (fk__law_same e) (hr.mono (by omega)) rfl (gl e 124 rfl) (pa_cons (pe_mk (fm_ini (e.c.fact 89 rfl)) (fi_Both e) (hr.mono (by omega)) rfl (gl e 90 rfl) (pa_cons (pv 0) (pa_cons (pe_mk (fm_ini (e.c.fact 91 rfl)) (fi_Either e) (hr.mono (by omega)) rfl (gl e 92 rfl) (pa_cons (pv 1) (pa_cons (pv 2) pa_nil))) pa_nil))) (pa_cons (pe_mk (fm_ini (e.c.fact 91 rfl)) (fi_Either e) (hr.mono (by omega)) rfl (gl e 92 rfl) (pa_cons (pe_mk (fm_ini (e.c.fact 89 rfl)) (fi_Both e) (hr.mono (by omega)) rfl (gl e 90 rfl) (pa_cons (pv 0) (pa_cons (pv 1) pa_nil))) (pa_cons (pe_mk (fm_ini (e.c.fact 89 rfl)) (fi_Both e) (hr.mono (by omega)) rfl (gl e 90 rfl) (pa_cons (pv 0) (pa_cons (pv 2) pa_nil))) pa_nil))) (pa_cons (pv 3) pa_nil)))) (fun _ => rfl))) (pss_one (ps_ret pe_bl)) pss_nil)
  (pss_one (ps_ret (pe_fk (fk__law_same e) (hr.mono (by omega)) rfl (gl e 124 rfl) (pa_cons (pe_mk (fm_ini (e.c.fact 91 rfl)) (fi_Either e) (hr.mono (by omega)) rfl (gl e 92 rfl) (pa_cons (pv 0) (pa_cons (pe_mk (fm_ini (e.c.fact 89 rfl)) (fi_Both e) (hr.mono (by omega)) rfl (gl e 90 rfl) (pa_cons (pv 1) (pa_cons (pv 2) pa_nil))) pa_nil))) (pa_cons (pe_mk (fm_ini (e.c.fact 89 rfl)) (fi_Both e) (hr.mono (by omega)) rfl (gl e 90 rfl) (pa_cons (pe_mk (fm_ini (e.c.fact 91 rfl)) (fi_Either e) (hr.mono (by omega)) rfl (gl e 92 rfl) (pa_cons (pv 0) (pa_cons (pv 1) pa_nil))) (pa_cons (pe_mk (fm_ini (e.c.fact 91 rfl)) (fi_Either e) (hr.mono (by omega)) rfl (gl e 92 rfl) (pa_cons (pv 0) (pa_cons (pv 2) pa_nil))) pa_nil))) (pa_cons (pv 3) pa_nil)))))))))), F.bindsN (fun _ _ _ _ _ _ us hl => match us, hl with | [_, _, _, _], _ => rfl), F.kp⟩
abbrev N_law : List Str := ["_law_script", "_law_pen_here", "_law_turn", "_law_signs_here", "_law_goals", "_law_k", "_law_words", "_law_goal_here", "_law_rows", "_law_first", "_law_second", "_law_third", "_law_word", "_law_row_here", "_law_rests", "_law_rest", "_law_letters", "_law_cut"]
theorem sc_law : FnScope N_law ["_law_script"] (defScope s_law) := ⟨rfl, rfl, rfl, by decide +kernel, rfl, by decide +kernel, by decide +kernel⟩
@[reducible] def b_law : List Sl → W Out := (dSeq (dFor (dIR1 (dCons (dC (.int 8)) dNil)) (dName 2) (dSeq (dAsg (dCall 1 g__law_few (dCons (dVar 1) dNil)) (dName 3))
  (dSeq (dAsg (dLc (dIR1 (dCons (dC (.int 3)) dNil)) (dName 5) dYes (dCall 4 g__law_jlight (dCons (dVar 1) (dCons (dVar 3) (dCons (dC (.int 2)) (dCons (dC (.int 2)) dNil))))) [5]) (dName 4))
  (dSeq (dAsg (dOpn sumD (dCons (dLc (dIL (dVar 4)) (dName 7) dYes (dCall 1 (g__law_jwords 6) (dCons (dVar 7) dNil)) [7]) (dCons (dLst dNil) dNil))) (dName 6))
  (dSeq (dAsg (dLc (dIR1 (dCons (dC (.int 12)) dNil)) (dName 5) dYes (dCall 4 g__law_jline (dCons (dVar 1) (dCons (dVar 6) (dCons (dVar 3) (dCons (dC (.int 12)) dNil))))) [5]) (dName 8))
  (dSeq (dAsg (dLc (dIL (dVar 4)) (dName 7) dYes (dCall 1 (g__law_made_goal 6) (dCons (dVar 7) dNil)) [7]) (dGLst 3 (dGCons (dName 9) (dGCons (dName 10) (dGCons (dName 11) dGNil)))))
  (dSeq (dIf (dNot (dTru (dCall 4 g__law_rules_right (dCons (dVar 9) (dCons (dVar 10) (dCons (dVar 11) (dCons (dVar 8) dNil))))))) (dRet (dC (.bl false))) dNext)
  (dSeq (dAsg (dCall 4 g__law_row (dCons (dVar 1) (dCons (dVar 3) (dCons (dC (.int 1)) (dCons (dC (.int 3)) dNil))))) (dName 12))
  (dFor (dIL (dVar 8)) (dName 13) (dSeq (dAsg (dLc (dIR1 (dCons (dOp2 addD (dOpn lenD (dCons (dVar 13) dNil)) (dC (.int 1))) dNil)) (dName 5) dYes (dSl (dVar 13) (dPart (dVar 5)) dNoPart) [5]) (dName 14))
  (dSeq (dIf (dTest (dOp2 neD (dMeth "holds" 1 (tb_holds 6) (dMake "Has" 1 gi_Has (dCons (dVar 12) dNil)) (dCons (dVar 13) dNil)) (dOp2 neD (dLc (dIL (dVar 14)) (dName 15) (dTru (dMeth "holds" 1 (tb_holds 6) (dMake "Begins" 1 gi_Begins (dCons (dVar 12) dNil)) (dCons (dVar 15) dNil))) (dVar 15) [15]) (dLst dNil)))) (dRet (dC (.bl false))) dNext)
  (dSeq (dIf (dTest (dOp2 neD (dMeth "holds" 1 (tb_holds 6) (dMake "Ends" 1 gi_Ends (dCons (dVar 12) dNil)) (dCons (dVar 13) dNil)) (dMeth "holds" 1 (tb_holds 6) (dMake "Begins" 1 gi_Begins (dCons (dRevS (dVar 12)) dNil)) (dCons (dRevS (dVar 13)) dNil)))) (dRet (dC (.bl false))) dNext)
  (dSeq (dIf (dTest (dOp2 neD (dMeth "holds" 1 (tb_holds 6) (dMake "Is" 1 gi_Is (dCons (dVar 12) dNil)) (dCons (dVar 13) dNil)) (dAndV (dMeth "holds" 1 (tb_holds 6) (dMake "Begins" 1 gi_Begins (dCons (dVar 12) dNil)) (dCons (dVar 13) dNil)) (dOp2 eqD (dOpn lenD (dCons (dVar 13) dNil)) (dOpn lenD (dCons (dVar 12) dNil)))))) (dRet (dC (.bl false))) dNext)
  (dSeq (dPar 16 17 (dCons (dMs (joinD) (dC (.str ("" : Str))) (dCons (dSortSet (dVar 12)) dNil)) (dCons (dCall 2 g__law_draw (dCons (dVar 1) (dCons (dOp2 addD (dOpn lenD (dCons (dVar 13) dNil)) (dC (.int 1))) dNil))) dNil)))
  (dIf (dTest (dOp2 neD (dMeth "holds" 1 (tb_holds 6) (dMake "Only" 1 gi_Only (dCons (dVar 16) dNil)) (dCons (dVar 13) dNil)) (dAndV (dMeth "holds" 1 (tb_holds 6) (dMake "Only" 1 gi_Only (dCons (dVar 16) dNil)) (dCons (dSl (dVar 13) dNoPart (dPart (dVar 17))) dNil)) (dMeth "holds" 1 (tb_holds 6) (dMake "Only" 1 gi_Only (dCons (dVar 16) dNil)) (dCons (dSl (dVar 13) (dPart (dVar 17)) dNoPart) dNil))))) (dRet (dC (.bl false))) dNext)))))))))))))))
  (dRet (dC (.bl true))))
theorem fg_law (e : En K mg) {fd : FuncData} (F : FunD K "law" "law" (defArgs s_law) (defBody s_law) (defScope s_law) [] [] (ga K "law") fd) (hw : ∀ ns : List Int, (b_law (.val (.sct ns) :: .val .pen :: List.replicate 16 .un)).wp (2 ^ 60) (fun _ o => o = .rt (.bl true)) noX) : FnG PW w K mg base CX0 94 (ga K "law") fd ["_law_script"] (spLaw K) :=
  law_lx (b := b_law) (k := 93) F sc_law rfl rfl (ls_seq (ls_for (li_range1 (la_cons le_int la_nil)) lg_name (ls_seq (ls_asg (le_call (la_cons le_var la_nil)) lg_name)
  (ls_seq (ls_asg (le_lc (li_range1 (la_cons le_int la_nil)) lg_name lt_yes (le_call (la_cons le_var (la_cons le_var (la_cons le_int (la_cons le_int la_nil))))) (fun _ h => h)) lg_name)
  (ls_seq (ls_asg (le_opn lo_sum (la_cons (le_lc (li_list le_var) lg_name lt_yes (le_call (la_cons le_var la_nil)) (fun _ h => h)) (la_cons (le_lst la_nil) la_nil))) lg_name)
  (ls_seq (ls_asg (le_lc (li_range1 (la_cons le_int la_nil)) lg_name lt_yes (le_call (la_cons le_var (la_cons le_var (la_cons le_var (la_cons le_int la_nil))))) (fun _ h => h)) lg_name)
  (ls_seq (ls_asg (le_lc (li_list le_var) lg_name lt_yes (le_call (la_cons le_var la_nil)) (fun _ h => h)) (lg_lst (lgs_cons lg_name (lgs_cons lg_name (lgs_cons lg_name lgs_nil)))))
  (ls_seq (ls_if (lt_not (lt_tru (le_call (la_cons le_var (la_cons le_var (la_cons le_var (la_cons le_var la_nil))))))) (ls_ret le_bl) ls_next)
  (ls_seq (ls_asg (le_call (la_cons le_var (la_cons le_var (la_cons le_int (la_cons le_int la_nil))))) lg_name)
  (ls_for (li_list le_var) lg_name (ls_seq (ls_asg (le_lc (li_range1 (la_cons (le_op2 lo_add (le_opn lo_len (la_cons le_var la_nil)) le_int) la_nil)) lg_name lt_yes (le_sl le_var (lp_some le_var) lp_none) (fun _ h => h)) lg_name)
  (ls_seq (ls_if (lt_test (le_op2 lo_ne (le_meth (le_make (cl := cl_Has) (by decide) (cls_ok (e.c.fact 18 rfl)) (la_cons le_var la_nil)) (la_cons le_var la_nil)) (le_op2 lo_ne (le_lc (li_list le_var) lg_name (lt_tru (le_meth (le_make (cl := cl_Begins) (by decide) (cls_ok (e.c.fact 20 rfl)) (la_cons le_var la_nil)) (la_cons le_var la_nil))) le_var (fun _ h => h)) (le_lst la_nil)))) (ls_ret le_bl) ls_next)
  (ls_seq (ls_if (lt_test (le_op2 lo_ne (le_meth (le_make (cl := cl_Ends) (by decide) (cls_ok (e.c.fact 22 rfl)) (la_cons le_var la_nil)) (la_cons le_var la_nil)) (le_meth (le_make (cl := cl_Begins) (by decide) (cls_ok (e.c.fact 20 rfl)) (la_cons (le_revS le_var) la_nil)) (la_cons (le_revS le_var) la_nil)))) (ls_ret le_bl) ls_next)
  (ls_seq (ls_if (lt_test (le_op2 lo_ne (le_meth (le_make (cl := cl_Is) (by decide) (cls_ok (e.c.fact 24 rfl)) (la_cons le_var la_nil)) (la_cons le_var la_nil)) (le_and (le_meth (le_make (cl := cl_Begins) (by decide) (cls_ok (e.c.fact 20 rfl)) (la_cons le_var la_nil)) (la_cons le_var la_nil)) (le_op2 lo_eq (le_opn lo_len (la_cons le_var la_nil)) (le_opn lo_len (la_cons le_var la_nil)))))) (ls_ret le_bl) ls_next)
  (ls_seq (ls_par (la_cons (le_ms lo_join le_str (la_cons (le_sortSet le_var) la_nil)) (la_cons (le_call (la_cons le_var (la_cons (le_op2 lo_add (le_opn lo_len (la_cons le_var la_nil)) le_int) la_nil))) la_nil)))
  (ls_if (lt_test (le_op2 lo_ne (le_meth (le_make (cl := cl_Only) (by decide) (cls_ok (e.c.fact 26 rfl)) (la_cons le_var la_nil)) (la_cons le_var la_nil)) (le_and (le_meth (le_make (cl := cl_Only) (by decide) (cls_ok (e.c.fact 26 rfl)) (la_cons le_var la_nil)) (la_cons (le_sl le_var lp_none (lp_some le_var)) la_nil)) (le_meth (le_make (cl := cl_Only) (by decide) (cls_ok (e.c.fact 26 rfl)) (la_cons le_var la_nil)) (la_cons (le_sl le_var (lp_some le_var) lp_none) la_nil))))) (ls_ret le_bl) ls_next)))))))))))))))
  (ls_ret le_bl)) (fun cdv A outer s H E hgd hr => pss_cons (ps_set (i := 1) sc_law.nd rfl (by first | exact Or.inl rfl | exact Or.inr rfl) (pe_fk (fk__law_pen e) (hr.mono (by omega)) rfl (gl e 130 rfl) (pa_cons (pv 0) pa_nil)))
  (pss_cons (ps_for PassesOwn.never rfl (pi_range1 rfl (fr e 5 rfl) (pa_cons pe_int pa_nil)) (pg_name (i := 2) sc_law.nd rfl (by first | exact Or.inl rfl | exact Or.inr rfl)) (pss_cons (ps_set (i := 3) sc_law.nd rfl (by first | exact Or.inl rfl | exact Or.inr rfl) (pe_fk (fk__law_few e) (hr.mono (by omega)) rfl (gl e 129 rfl) (pa_cons (pv 1) pa_nil)))
  (pss_cons (by first | exact (ps_setLc (i := 4) (own := [("_law_k", 5)]) rfl sc_law.nd rfl rfl (sw_true rfl rfl rfl (by decide +kernel)) (pi_range1 rfl (fr e 5 rfl) (pa_cons pe_int pa_nil)) (blkOk_by (N := N_law) (sc := defScope s_law) (by decide +kernel)) (fun _ _ _ _ _ => (pg_name (i := 5) sc_law.nd rfl (by first | exact Or.inl rfl | exact Or.inr rfl))) (fun _ _ _ _ _ => pts_nil) (fun _ _ _ _ _ => (pe_fk (fk__law_jlight e) (hr.mono (by omega)) rfl (gl e 128 rfl) (pa_cons (pv 1) (pa_cons (pv 3) (pa_cons pe_int (pa_cons pe_int pa_nil))))))) | exact (ps_set (i := 4) sc_law.nd rfl (by first | exact Or.inl rfl | exact Or.inr rfl) (pe_lc (own := [("_law_k", 5)]) rfl sc_law.nd (pi_range1 rfl (fr e 5 rfl) (pa_cons pe_int pa_nil)) (blkOk_by (N := N_law) (sc := defScope s_law) (by decide +kernel)) (fun _ _ _ _ _ => (pg_name (i := 5) sc_law.nd rfl (by first | exact Or.inl rfl | exact Or.inr rfl))) (fun _ _ _ _ _ => pts_nil) (fun _ _ _ _ _ => (pe_fk (fk__law_jlight e) (hr.mono (by omega)) rfl (gl e 128 rfl) (pa_cons (pv 1) (pa_cons (pv 3) (pa_cons pe_int (pa_cons pe_int pa_nil)))))))))
  (pss_cons (ps_set (i := 6) sc_law.nd rfl (by first | exact Or.inl rfl | exact Or.inr rfl) (pe_callB (call_sumL rfl) rfl (fr e 10 rfl) boot_sum (pa_cons (pe_lc (own := [("_law_goal_here", 7)]) rfl sc_law.nd (pi_list (pv 4)) (blkOk_by (N := N_law) (sc := defScope s_law) (by decide +kernel)) (fun _ _ _ _ _ => (pg_name (i := 7) sc_law.nd rfl (by first | exact Or.inl rfl | exact Or.inr rfl))) (fun _ _ _ _ _ => pts_nil) (fun _ _ _ _ _ => (pe_fk (fk__law_jwords e 6) (hr.mono (by omega)) rfl (gl e 12 rfl) (pa_cons (pv 7) pa_nil)))) (pa_cons (pe_lst pa_nil) pa_nil))))
  (pss_cons (by first | exact (ps_setLc (i := 8) (own := [("_law_k", 5)]) rfl sc_law.nd rfl rfl (sw_true rfl rfl rfl (by decide +kernel)) (pi_range1 rfl (fr e 5 rfl) (pa_cons pe_int pa_nil)) (blkOk_by (N := N_law) (sc := defScope s_law) (by decide +kernel)) (fun _ _ _ _ _ => (pg_name (i := 5) sc_law.nd rfl (by first | exact Or.inl rfl | exact Or.inr rfl))) (fun _ _ _ _ _ => pts_nil) (fun _ _ _ _ _ => (pe_fk (fk__law_jline e) (hr.mono (by omega)) rfl (gl e 127 rfl) (pa_cons (pv 1) (pa_cons (pv 6) (pa_cons (pv 3) (pa_cons pe_int pa_nil))))))) | exact (ps_set (i := 8) sc_law.nd rfl (by first | exact Or.inl rfl | exact Or.inr rfl) (pe_lc (own := [("_law_k", 5)]) rfl sc_law.nd (pi_range1 rfl (fr e 5 rfl) (pa_cons pe_int pa_nil)) (blkOk_by (N := N_law) (sc := defScope s_law) (by decide +kernel)) (fun _ _ _ _ _ => (pg_name (i := 5) sc_law.nd rfl (by first | exact Or.inl rfl | exact Or.inr rfl))) (fun _ _ _ _ _ => pts_nil) (fun _ _ _ _ _ => (pe_fk (fk__law_jline e) (hr.mono (by omega)) rfl (gl e 127 rfl) (pa_cons (pv 1) (pa_cons (pv 6) (pa_cons (pv 3) (pa_cons pe_int pa_nil)))))))))
  (pss_cons (ps_asg (pe_lc (own := [("_law_goal_here", 7)]) rfl sc_law.nd (pi_list (pv 4)) (blkOk_by (N := N_law) (sc := defScope s_law) (by decide +kernel)) (fun _ _ _ _ _ => (pg_name (i := 7) sc_law.nd rfl (by first | exact Or.inl rfl | exact Or.inr rfl))) (fun _ _ _ _ _ => pts_nil) (fun _ _ _ _ _ => (pe_fk (fk__law_made_goal e 6) (hr.mono (by omega)) rfl (gl e 93 rfl) (pa_cons (pv 7) pa_nil)))) (pg_lst (n := 3) rfl (pgs_cons (pg_name (i := 9) sc_law.nd rfl (by first | exact Or.inl rfl | exact Or.inr rfl)) (pgs_cons (pg_name (i := 10) sc_law.nd rfl (by first | exact Or.inl rfl | exact Or.inr rfl)) (pgs_cons (pg_name (i := 11) sc_law.nd rfl (by first | exact Or.inl rfl | exact Or.inr rfl)) pgs_nil)))))
  (pss_cons (ps_if (pt_not (pt_truth (pe_fk (fk__law_rules_right e) (hr.mono (by omega)) rfl (gl e 126 rfl) (pa_cons (pv 9) (pa_cons (pv 10) (pa_cons (pv 11) (pa_cons (pv 8) pa_nil))))) (fun _ => rfl))) (pss_one (ps_ret pe_bl)) pss_nil)
  (pss_cons (ps_set (i := 12) sc_law.nd rfl (by first | exact Or.inl rfl | exact Or.inr rfl) (pe_fk (fk__law_row e) (hr.mono (by omega)) rfl (gl e 8 rfl) (pa_cons (pv 1) (pa_cons (pv 3) (pa_cons pe_int (pa_cons pe_int pa_nil))))))
  (pss_one (ps_for PassesOwn.never rfl (pi_list (pv 8)) (pg_name (i := 13) sc_law.nd rfl (by first | exact Or.inl rfl | exact Or.inr rfl)) (pss_cons (by first | exact (ps_setLc (i := 14) (own := [("_law_k", 5)]) rfl sc_law.nd rfl rfl (sw_true rfl rfl rfl (by decide +kernel)) (pi_range1 rfl (fr e 5 rfl) (pa_cons (pe_op op_addU (pe_callB call_len rfl (fr e 1 rfl) boot_len (pa_cons (pv 13) pa_nil)) pe_int) pa_nil)) (blkOk_by (N := N_law) (sc := defScope s_law) (by decide +kernel)) (fun _ _ _ _ _ => (pg_name (i := 5) sc_law.nd rfl (by first | exact Or.inl rfl | exact Or.inr rfl))) (fun _ _ _ _ _ => pts_nil) (fun _ _ _ _ _ => (pe_slice sl_U (pv 13) (po_some (pv 5)) po_none))) | exact (ps_set (i := 14) sc_law.nd rfl (by first | exact Or.inl rfl | exact Or.inr rfl) (pe_lc (own := [("_law_k", 5)]) rfl sc_law.nd (pi_range1 rfl (fr e 5 rfl) (pa_cons (pe_op op_addU (pe_callB call_len rfl (fr e 1 rfl) boot_len (pa_cons (pv 13) pa_nil)) pe_int) pa_nil)) (blkOk_by (N := N_law) (sc := defScope s_law) (by decide +kernel)) (fun _ _ _ _ _ => (pg_name (i := 5) sc_law.nd rfl (by first | exact Or.inl rfl | exact Or.inr rfl))) (fun _ _ _ _ _ => pts_nil) (fun _ _ _ _ _ => (pe_slice sl_U (pv 13) (po_some (pv 5)) po_none)))))
  (pss_cons (ps_if (pt_cmpR (op_neU hr.units) (pe_methU ((tk_holds e 6).mt (hr.mono (by omega))) (pe_mk (fm_ini (e.c.fact 104 rfl)) (fi_Has e) (hr.mono (by omega)) rfl (gl e 105 rfl) (pa_cons (pv 12) pa_nil)) (pa_cons (pv 13) pa_nil)) (pe_cmpR (op_neU hr.units) (pe_lc (own := [("_law_rest", 15)]) rfl sc_law.nd (pi_list (pv 14)) (blkOk_by (N := N_law) (sc := defScope s_law) (by decide +kernel)) (fun _ _ _ _ _ => (pg_name (i := 15) sc_law.nd rfl (by first | exact Or.inl rfl | exact Or.inr rfl))) (fun _ _ _ _ _ => (pts_one (pt_truth (pe_methU ((tk_holds e 6).mt (hr.mono (by omega))) (pe_mk (fm_ini (e.c.fact 100 rfl)) (fi_Begins e) (hr.mono (by omega)) rfl (gl e 101 rfl) (pa_cons (pv 12) pa_nil)) (pa_cons (pv 15) pa_nil)) (fun _ => rfl)))) (fun _ _ _ _ _ => (pv 15))) (pe_lst pa_nil) (nomark _)) (nomark _)) (pss_one (ps_ret pe_bl)) pss_nil)
  (pss_cons (ps_if (pt_cmpR (op_neU hr.units) (pe_methU ((tk_holds e 6).mt (hr.mono (by omega))) (pe_mk (fm_ini (e.c.fact 102 rfl)) (fi_Ends e) (hr.mono (by omega)) rfl (gl e 103 rfl) (pa_cons (pv 12) pa_nil)) (pa_cons (pv 13) pa_nil)) (pe_methU ((tk_holds e 6).mt (hr.mono (by omega))) (pe_mk (fm_ini (e.c.fact 100 rfl)) (fi_Begins e) (hr.mono (by omega)) rfl (gl e 101 rfl) (pa_cons (pe_revS (pv 12)) pa_nil)) (pa_cons (pe_revS (pv 13)) pa_nil)) (nomark _)) (pss_one (ps_ret pe_bl)) pss_nil)
  (pss_cons (ps_if (pt_cmpR (op_neU hr.units) (pe_methU ((tk_holds e 6).mt (hr.mono (by omega))) (pe_mk (fm_ini (e.c.fact 96 rfl)) (fi_Is e) (hr.mono (by omega)) rfl (gl e 97 rfl) (pa_cons (pv 12) pa_nil)) (pa_cons (pv 13) pa_nil)) (pe_andT (pe_methU ((tk_holds e 6).mt (hr.mono (by omega))) (pe_mk (fm_ini (e.c.fact 100 rfl)) (fi_Begins e) (hr.mono (by omega)) rfl (gl e 101 rfl) (pa_cons (pv 12) pa_nil)) (pa_cons (pv 13) pa_nil)) (pe_one (pe_cmpR (op_eqU hr.units) (pe_callB call_len rfl (fr e 1 rfl) boot_len (pa_cons (pv 13) pa_nil)) (pe_callB call_len rfl (fr e 1 rfl) boot_len (pa_cons (pv 12) pa_nil)) (nomark _)))) (nomark _)) (pss_one (ps_ret pe_bl)) pss_nil)
  (pss_cons (ps_par (i := 16) (j := 17) rfl sc_law.nd rfl rfl (by decide) rfl rfl (pa_cons (pe_bm PySem.F.plainAttrs_str PySem.F.slot_str_join PySem.F.type_str_join mt_join pe_str (pa_cons (pe_sortSet rfl rfl (fr e 125 rfl) rfl (fr e 87 rfl) (pv 12)) pa_nil)) (pa_cons (pe_fk (fk__law_draw e) (hr.mono (by omega)) rfl (gl e 3 rfl) (pa_cons (pv 1) (pa_cons (pe_op op_addU (pe_callB call_len rfl (fr e 1 rfl) boot_len (pa_cons (pv 13) pa_nil)) pe_int) pa_nil))) pa_nil)) rfl)
  (pss_one (ps_if (pt_cmpR (op_neU hr.units) (pe_methU ((tk_holds e 6).mt (hr.mono (by omega))) (pe_mk (fm_ini (e.c.fact 98 rfl)) (fi_Only e) (hr.mono (by omega)) rfl (gl e 99 rfl) (pa_cons (pv 16) pa_nil)) (pa_cons (pv 13) pa_nil)) (pe_andT (pe_methU ((tk_holds e 6).mt (hr.mono (by omega))) (pe_mk (fm_ini (e.c.fact 98 rfl)) (fi_Only e) (hr.mono (by omega)) rfl (gl e 99 rfl) (pa_cons (pv 16) pa_nil)) (pa_cons (pe_slice sl_U (pv 13) po_none (po_some (pv 17))) pa_nil)) (pe_one (pe_methU ((tk_holds e 6).mt (hr.mono (by omega))) (pe_mk (fm_ini (e.c.fact 98 rfl)) (fi_Only e) (hr.mono (by omega)) rfl (gl e 99 rfl) (pa_cons (pv 16) pa_nil)) (pa_cons (pe_slice sl_U (pv 13) (po_some (pv 17)) po_none) pa_nil)))) (nomark _)) (pss_one (ps_ret pe_bl)) pss_nil)))))))))))))))))
  (pss_one (ps_ret pe_bl)))) hw
theorem gl_law (e : En K mg) : mg "law" = some (.ref (ga K "law")) := (gl e 131 rfl)
end
end Lw
set_option Elab.async false
set_option linter.all false
set_option maxRecDepth 100000
set_option maxHeartbeats 4000000
/-! k02, the plain law 1: texts, tests of lines, objects. -/
namespace Lw
open PySem L2 Lx
section
variable {δ : List Sl} {f : List Sl → W D} {fi : List Sl → W (List D)} {ds l : List D} {i : Nat} {ft : List Sl → W Bool} {fe : List Sl → W D} {dg : D → List Sl → W (List Sl)} {vs : List Nat}
theorem rLc (hi : Rt (fi δ) ds) (hl : Rt (lcD dg ft fe (wipeD δ vs) ds 0) l) : Rt (dLc fi dg ft fe vs δ) (.lst l) := Rt.bind hi (Rt.bind hl Rt.ret)
theorem rIS {x : Str} (h : Rt (f δ) (.str x)) : Rt (dIS f δ) (x.cps.toList.map fun c => .str ⟨#[c]⟩) := Rt.bind h Rt.ret
theorem rIT {xs : List D} (h : Rt (f δ) (.tup xs)) : Rt (dIT f δ) xs := Rt.bind h Rt.ret
theorem rIL {xs : List D} (h : Rt (f δ) (.lst xs)) : Rt (dIL f δ) xs := Rt.bind h Rt.ret
theorem rIR {k : Int} (h : Rt (fi δ) [.int k]) (h0 : 0 ≤ k) (h1 : k < 2 ^ 60) : Rt (dIR1 fi δ) (rangeD 0 k.toNat) := Rt.bind h (Rt.need ⟨by omega, by omega⟩ Rt.ret)
end
theorem bools_map {α : Type} (q : α → Bool) : ∀ l : List α, bools (l.map fun a => D.bl (q a)) = some (l.map q)
  | [] => rfl
  | a :: r => by
    show (bools (r.map fun a => D.bl (q a))).map (q a :: ·) = _
    rw [bools_map q r]; rfl
/-! ### texts -/
abbrev LET : Str := " !\"#$&'()*+,-./0123456789:;<=>?@ABCDEFGHIJKLMNOPQRSTUVWXYZ[\\]^_`abcdefghijklmnopqrstuvwxyz{|}~"
def lets (x : Str) : Prop := ∀ c ∈ x.cps.toList, c ∈ LET.cps.toList
theorem len_cps (x : Str) : x.length = x.cps.toList.length := by simp [Str.length]
theorem inS_one (c : Nat) (y : Str) : inS ⟨#[c]⟩ y = decide (c ∈ y.cps.toList) := PySem.StrLaws.found_one y c
theorem small {n : Nat} (h : n ≤ 4000) : n ≤ sizeLine := by rw [sizeLine_eq]; omega
theorem isi_s (x : Str) : Rt (isiD is_str (.str x)) (.bl true) := by
  have h : is_str.lookup (.t "str") = some true := by decide +kernel
  show Rt (match is_str.lookup (.t "str") with | some b => W.ret (D.bl b) | none => W.stuck) _
  rw [h]; exact Rt.ret
theorem inD_s {x y : Str} : Rt (inD false (.str x) (.str y)) (.bl (inS x y)) := Rt.ret
theorem is_line_r {x : Str} (hx : lets x) (hl : x.length ≤ 4000) : Rt (g_is_line [.str x]) (.bl true) := by
  refine Rt.bodyR (Rt.rets ((Rt.andV (c := true) (Rt.op1 (Rt.var rfl) (isi_s x)) fun _ => Rt.opn (Rt.cons (rLc (rIS (Rt.var rfl)) (lcD_r (p := fun _ => true) (g := fun _ => .bl true) _ 0 ?_ (fun _ _ => Rt.ret) ?_)) Rt.nil) ?_).cast rfl))
  · rw [List.length_map, ← len_cps]; exact small (by omega)
  · intro d hd _
    obtain ⟨c, hc, rfl⟩ := List.mem_map.mp hd
    exact (Rt.op2 (Rt.var rfl) Rt.cC inD_s).cast (by rw [inS_one, decide_eq_true (hx c hc)])
  · show Rt (match bools _ with | some bs => W.ret (D.bl (bs.all id)) | none => W.stuck) _
    rw [bools_map (fun _ => true)]
    exact Rt.ret.cast (by simp)
theorem len_s {x : Str} (h : x.length ≤ 4000) : Rt (lenD [.str x]) (.int x.length) := Rt.need (small h) Rt.ret
theorem is_word_r {x : Str} (hx : lets x) (h1 : 1 ≤ x.length) (h8 : x.length ≤ 8) : Rt (g_is_word [.str x, .int 8]) (.bl true) := by
  refine Rt.bodyR (Rt.rets ((Rt.andV (c := true) (Rt.op1 (Rt.var rfl) (isi_s x)) fun _ => (Rt.andV (b := true) (c := true) ((Rt.chT Rt.cC (Rt.opn (Rt.cons (Rt.var rfl) Rt.nil) (len_s (by omega))) (Rt.ret.cast ?_) (Rt.var rfl) (Rt.ret)).cast ?_) fun _ => Rt.call (Rt.cons (Rt.var rfl) Rt.nil) rfl (is_line_r hx (by omega))).cast rfl).cast rfl))
  · exact congrArg D.bl (decide_eq_true (by omega))
  · exact congrArg D.bl (decide_eq_true (by omega))
end Lw
set_option Elab.async false
set_option linter.all false
set_option maxRecDepth 100000
set_option maxHeartbeats 4000000
/-! k02, the plain law 2: the tests as objects. -/
namespace Lw
open PySem L2 Lx
inductive G where
  | has (x : Str) | beg (x : Str) | fin (x : Str) | iss (x : Str) | only (x : Str) | fails (g : G) | both (a b : G) | either (a b : G)
def G.dep : G → Nat
  | .fails g => g.dep + 1
  | .both a b => max a.dep b.dep + 1
  | .either a b => max a.dep b.dep + 1
  | _ => 1
def G.nl : G → Nat
  | .fails g => g.nl
  | .both a b => a.nl + b.nl
  | .either a b => a.nl + b.nl
  | _ => 1
theorem G.dep_pos (g : G) : 1 ≤ g.dep := by cases g <;> simp only [G.dep] <;> omega
def flds (k t i : D) : List (Str × D) := [("own_kind", k), ("own_text", t), ("own_inner", i)]
def G.cls : G → Str
  | .has _ => "Has" | .beg _ => "Begins" | .fin _ => "Ends" | .iss _ => "Is" | .only _ => "Only" | .fails _ => "Fails" | .both _ _ => "Both" | .either _ _ => "Either"
def G.kind : G → Str
  | .has _ => "has" | .beg _ => "begins" | .fin _ => "ends" | .iss _ => "is" | .only _ => "only" | .fails _ => "fails" | .both _ _ => "both" | .either _ _ => "either"
def G.txt : G → Str
  | .has x => x | .beg x => x | .fin x => x | .iss x => x | .only x => x | _ => ""
mutual
def G.ob (g : G) : D := .obj g.cls (flds (.str g.kind) (.str g.txt) (.tup g.inn))
def G.inn : G → List D
  | .fails g => [g.ob]
  | .both a b => [a.ob, b.ob]
  | .either a b => [a.ob, b.ob]
  | _ => []
end
def G.wf : G → Prop
  | .has x => lets x ∧ 1 ≤ x.length ∧ x.length ≤ 8
  | .beg x => lets x ∧ 1 ≤ x.length ∧ x.length ≤ 8
  | .fin x => lets x ∧ 1 ≤ x.length ∧ x.length ≤ 8
  | .iss x => lets x ∧ x.length ≤ 20
  | .only x => lets x ∧ x.length ≤ 20 ∧ x.cps.toList.Nodup
  | .fails g => g.wf
  | .both a b => a.wf ∧ b.wf
  | .either a b => a.wf ∧ b.wf
/-! ### names looked up -/
theorem lk_kind (k t i : D) : (flds k t i).lookup ("own_kind" : Str) = some k := by unfold flds; rw [List.lookup_cons, beq_self_eq_true]
theorem lk_text (k t i : D) : (flds k t i).lookup ("own_text" : Str) = some t := by
  have h : (("own_text" : Str) == "own_kind") = false := by decide +kernel
  unfold flds; rw [List.lookup_cons, h]; simp only [List.lookup_cons, beq_self_eq_true]
theorem lk_inn (k t i : D) : (flds k t i).lookup ("own_inner" : Str) = some i := by
  have h : (("own_inner" : Str) == "own_kind") = false := by decide +kernel
  have h2 : (("own_inner" : Str) == "own_text") = false := by decide +kernel
  unfold flds; simp only [List.lookup_cons, h, h2, beq_self_eq_true]
theorem lk_no {m : Str} (k t i : D) (h : (["own_kind", "own_text", "own_inner"].all fun n => !(m == (n : Str))) = true) : (flds k t i).lookup m = none := by
  simp only [List.all_cons, List.all_nil, Bool.and_true, Bool.and_eq_true, Bool.not_eq_true'] at h
  unfold flds; simp only [List.lookup_cons, h.1, h.2.1, h.2.2, List.lookup_nil]
theorem lk_pre {α : Type} {c : Str} {b : α} : ∀ {pre post : List (Str × α)} {ns : List Str}, pre.map (·.1) = ns → (ns.all fun n => !(c == n)) = true → (pre ++ (c, b) :: post).lookup c = some b
  | [], post, _, _, _ => by rw [List.nil_append, List.lookup_cons, beq_self_eq_true]
  | (a, x) :: pre, post, ns, e, h => by
    subst e
    simp only [List.map_cons, List.all_cons, Bool.and_eq_true, Bool.not_eq_true'] at h
    rw [List.cons_append, List.lookup_cons, h.1]
    exact lk_pre (ns := pre.map (·.1)) rfl h.2
def names8 : List Str := ["Has", "Begins", "Ends", "Is", "Only", "Fails", "Both", "Either"]
theorem lk_same {α : Type} {c : Str} {b : α} : ∀ {cs : List Str}, cs.contains c = true → (cs.map fun x => (x, b)).lookup c = some b
  | [], h => by cases h
  | a :: r, h => by
    rw [List.map_cons, List.lookup_cons]
    cases e : (c == a) with
    | true => rfl
    | false =>
      rw [List.contains_cons, e, Bool.false_or] at h
      exact lk_same h
theorem cls8 (g : G) : names8.contains g.cls = true := by cases g <;> (simp only [G.cls]; decide +kernel)
theorem tbd (g : G) (k : Nat) : (tb_depth (k + 1)).lookup g.cls = some (dBody N_Test_depth (b_Test_depth (fun _ => tb_depth k) k)) := lk_same (cs := names8) (cls8 g)
theorem tbl (g : G) (k : Nat) : (tb_leaves (k + 1)).lookup g.cls = some (dBody N_Test_leaves (b_Test_leaves (fun _ => tb_leaves k) k)) := lk_same (cs := names8) (cls8 g)
theorem ob_eq' (g : G) : g.ob = .obj g.cls (flds (.str g.kind) (.str g.txt) (.tup g.inn)) := by rw [G.ob]
/-! ### depth, leaves -/
def subs : G → List G
  | .fails g => [g]
  | .both a b => [a, b]
  | .either a b => [a, b]
  | _ => []
theorem inn_subs (g : G) : g.inn = (subs g).map G.ob := by cases g <;> simp only [G.inn, subs, List.map_cons, List.map_nil]
theorem subs_dep {g h : G} (m : h ∈ subs g) : h.dep < g.dep := by
  cases g <;> simp only [subs, List.mem_cons, List.not_mem_nil, or_false] at m
  · subst m; simp only [G.dep]; omega
  · rcases m with rfl | rfl <;> simp only [G.dep] <;> omega
  · rcases m with rfl | rfl <;> simp only [G.dep] <;> omega
theorem subs_len (g : G) : (subs g).length ≤ 2 := by cases g <;> simp [subs]
theorem intsD_map (ns : List Int) : intsD (ns.map D.int) = some ns := by
  induction ns with
  | nil => rfl
  | cons n r ih => show (intsD (r.map D.int)).map (n :: ·) = _; rw [ih]; rfl
theorem dep_eq (g : G) : (g.dep : Int) = 1 + (match (subs g).map (fun h => (h.dep : Int)) with | [] => 0 | y :: ys => ys.foldl max y) := by
  cases g <;> simp only [G.dep, subs, List.map_cons, List.map_nil, List.foldl_cons, List.foldl_nil, Int.max_def, Nat.max_def] <;> (try split) <;> (try split) <;> omega
/-- a comprehension over images -/
theorem lcM {α : Type} {i : Nat} {δ : List Sl} {ft : List Sl → W Bool} {fe : List Sl → W D} (φ : α → D) (p : α → Bool) (g : α → D) : ∀ (hs : List α) (k : Nat), k + hs.length ≤ sizeLine → (∀ h ∈ hs, Rt (ft (δ.set i (.val (φ h)))) (p h)) → (∀ h ∈ hs, p h = true → Rt (fe (δ.set i (.val (φ h)))) (g h)) → Rt (lcD (dName i) ft fe δ (hs.map φ) k) ((hs.filter p).map g)
  | [], _, _, _, _ => Rt.ret
  | d :: ds, k, hk, h1, h2 => by
    have hk2 : k + 1 + ds.length ≤ sizeLine := by rw [List.length_cons] at hk; omega
    refine Rt.bind Rt.ret (Rt.bind (h1 d List.mem_cons_self) ?_)
    cases e : p d with
    | false =>
      rw [List.filter_cons_of_neg (by rw [e]; decide)]
      exact lcM φ p g ds k (by omega) (fun x hx => h1 x (List.mem_cons_of_mem _ hx)) fun x hx => h2 x (List.mem_cons_of_mem _ hx)
    | true =>
      rw [List.filter_cons_of_pos e, List.map_cons]
      refine Rt.bind (h2 d List.mem_cons_self e) (Rt.need (by omega) (Rt.bind (lcM φ p g ds (k + 1) hk2 (fun x hx => h1 x (List.mem_cons_of_mem _ hx)) fun x hx => h2 x (List.mem_cons_of_mem _ hx)) Rt.ret))
theorem lcY {α : Type} {i : Nat} {δ : List Sl} {fe : List Sl → W D} (φ : α → D) (g : α → D) (hs : List α) (hl : hs.length ≤ 4000) (h : ∀ h ∈ hs, Rt (fe (δ.set i (.val (φ h)))) (g h)) : Rt (lcD (dName i) dYes fe δ (hs.map φ) 0) (hs.map g) :=
  (lcM φ (fun _ => true) g hs 0 (small (by omega)) (fun _ _ => Rt.ret) fun x hx _ => h x hx).cast (by rw [List.filter_eq_self.mpr (fun _ _ => rfl)])
theorem inn_fld (g : G) {r : List Sl} : Rt (dFld "own_inner" (dVar 0) (.val g.ob :: r)) (.tup g.inn) := Rt.fld (c := g.cls) (gs := flds (.str g.kind) (.str g.txt) (.tup g.inn)) ((Rt.var rfl).cast (ob_eq' g)) (lk_inn _ _ _)
theorem mth {m : Str} {mm : Nat} {tb : Tb} {B : List D → W D} {g : G} {δ : List Sl} {fa : List Sl → W D} {fl : List Sl → W (List D)} {ds : List D} {d : D} (ha : Rt (fa δ) g.ob) (hn : (["own_kind", "own_text", "own_inner"].all fun n => !(m == (n : Str))) = true) (e : tb.lookup g.cls = some B) (hf : Rt (fl δ) ds) (hm : ds.length = mm) (hg : Rt (B (g.ob :: ds)) d) : Rt (dMeth m mm tb fa fl δ) d :=
  Rt.meth (ha.cast (ob_eq' g)) (lk_no _ _ _ hn) e hf hm (by rw [← ob_eq' g]; exact hg)
theorem depth_r : ∀ (k : Nat) (g : G), g.dep ≤ k + 1 → Rt (dBody N_Test_depth (b_Test_depth (fun _ => tb_depth k) k) [g.ob]) (.int g.dep)
  | k, g, hk => by
    have step : Rt (lcD (dName 1) dYes (dMeth "depth" 0 ((fun _ => tb_depth k) k) (dVar 1) dNil) (wipeD [.val g.ob, .un] [1]) g.inn 0) ((subs g).map fun h => D.int h.dep) := by
      rw [inn_subs]
      refine lcY G.ob _ (subs g) (by have := subs_len g; omega) fun h hh => ?_
      have hd := subs_dep hh
      have hp := h.dep_pos
      match k, hk with
      | 0, hk => omega
      | k + 1, hk => exact mth (Rt.var rfl) (by decide +kernel) (tbd h k) Rt.nil rfl (depth_r k h (by omega))
    refine Rt.bodyR (Rt.rets ((Rt.op2 Rt.cC (z := .int g.dep) (y := .int (match (subs g).map (fun h => (h.dep : Int)) with | [] => 0 | y :: ys => ys.foldl max y)) ?_ ?_)))
    · refine Rt.bind (rLc (rIT (inn_fld g)) step) (Rt.bind Rt.cC ?_)
      have e : ((subs g).map fun h => D.int h.dep) = ((subs g).map fun h => (h.dep : Int)).map D.int := by rw [List.map_map]; rfl
      dsimp only
      rw [e, intsD_map]
      cases (subs g).map (fun h => (h.dep : Int)) with
      | nil => exact Rt.ret
      | cons y ys => exact Rt.ret
    · exact Rt.ret.cast (by rw [dep_eq])
def G.lvs : G → List G
  | .fails g => g.lvs
  | .both a b => a.lvs ++ b.lvs
  | .either a b => a.lvs ++ b.lvs
  | g => [g]
theorem lvs_len (g : G) : g.lvs.length = g.nl := by
  induction g with
  | fails g ih => simpa only [G.lvs, G.nl] using ih
  | both a b ha hb => simp only [G.lvs, G.nl, List.length_append, ha, hb]
  | either a b ha hb => simp only [G.lvs, G.nl, List.length_append, ha, hb]
  | _ => rfl
theorem lvs_subs (g : G) (h : subs g ≠ []) : g.lvs = (subs g).flatMap G.lvs := by
  cases g <;> simp only [subs] at h <;> first | (simp [subs, G.lvs]; done) | exact absurd rfl h
theorem lvs_leaf (g : G) (h : subs g = []) : g.lvs = [g] := by
  cases g <;> simp only [subs] at h <;> first | rfl | cases h
theorem nl_le {g h : G} (m : h ∈ subs g) : h.nl ≤ g.nl := by
  cases g <;> simp only [subs, List.mem_cons, List.not_mem_nil, or_false] at m
  · subst m; simp only [G.nl]; omega
  · rcases m with rfl | rfl <;> simp only [G.nl] <;> omega
  · rcases m with rfl | rfl <;> simp only [G.nl] <;> omega
theorem lcInY {i : Nat} {δ : List Sl} : ∀ (es : List D) (k : Nat), k + es.length ≤ sizeLine → i < δ.length → Rt (lcIn (dName i) dYes (dVar i) δ es k) es
  | [], _, _, _ => Rt.ret
  | d :: es, k, hk, hi => by
    have hk2 : k + 1 + es.length ≤ sizeLine := by rw [List.length_cons] at hk; omega
    exact Rt.bind Rt.ret (Rt.bind Rt.ret (Rt.bind (Rt.var (List.getElem?_set_self hi)) (Rt.need (by omega) (Rt.bind (lcInY es (k + 1) hk2 hi) Rt.ret))))
theorem leaves_r : ∀ (k : Nat) (g : G), g.dep ≤ k + 1 → g.nl ≤ 100 → Rt (dBody N_Test_leaves (b_Test_leaves (fun _ => tb_leaves k) k) [g.ob]) (.lst (g.lvs.map G.ob))
  | k, g, hk, hn => by
    have hlen : Rt (dOp2 eqD (dOpn lenD (dCons (dFld "own_inner" (dVar 0)) dNil)) (dC (.int 0)) [.val g.ob, .un, .un]) (.bl (decide ((g.inn.length : Int) = 0))) := Rt.op2 (Rt.opn (Rt.cons (inn_fld g) Rt.nil) Rt.ret) Rt.cC Rt.ret
    by_cases hs : subs g = []
    · have e : g.inn = [] := by rw [inn_subs, hs]; rfl
      rw [lvs_leaf g hs]
      refine Rt.bodyR (Rt.seqR (Rt.ifT (Rt.test (hlen.cast ?_)) (Rt.rets (Rt.lst (Rt.cons (Rt.var rfl) Rt.nil) (small (show 1 ≤ 4000 by decide))))))
      rw [e]; rfl
    · have e : decide ((g.inn.length : Int) = 0) = false := by
        refine decide_eq_false fun z => hs ?_
        rw [inn_subs, List.length_map] at z
        exact List.eq_nil_of_length_eq_zero (by omega)
      have go : ∀ (hs : List G) (j : Nat), (∀ h ∈ hs, h ∈ subs g) → j + (hs.flatMap G.lvs).length ≤ 4000 → Rt (lc2D (dName 1) dYes (dIL (dMeth "leaves" 0 ((fun _ => tb_leaves k) k) (dVar 1) dNil)) (dName 2) dYes (dVar 2) [2] (wipeD [.val g.ob, .un, .un] [1, 2]) (hs.map G.ob) j) ((hs.flatMap G.lvs).map G.ob) := by
        intro hs
        induction hs with
        | nil => exact fun j _ _ => Rt.ret
        | cons h r ih =>
          intro j hm hj
          have hh := hm h List.mem_cons_self
          have hd := subs_dep hh
          have hp := h.dep_pos
          have hnl := nl_le hh
          rw [List.flatMap_cons, List.length_append] at hj
          have one : Rt (dMeth "leaves" 0 ((fun _ => tb_leaves k) k) (dVar 1) dNil ((wipeD [.val g.ob, .un, .un] [1, 2]).set 1 (.val h.ob))) (.lst (h.lvs.map G.ob)) := by
            match k, hk with
            | 0, hk => omega
            | k + 1, hk => exact mth (Rt.var rfl) (by decide +kernel) (tbl h k) Rt.nil rfl (leaves_r k h (by omega) (by omega))
          rw [List.flatMap_cons, List.map_append]
          refine Rt.bind Rt.ret (Rt.bind Rt.ret (Rt.bind (rIL one) (Rt.bind (lcInY _ j (by rw [List.length_map]; exact small (by omega)) (show 2 < 3 by decide)) (Rt.bind (ih _ (fun x hx => hm x (List.mem_cons_of_mem _ hx)) ?_) Rt.ret))))
          rw [List.length_map]; omega
      refine Rt.bodyR (Rt.seq (Rt.ifF (Rt.test (hlen.cast (by rw [e]))) Rt.next) (Rt.rets ?_))
      rw [lvs_subs g hs]
      have fin := go (subs g) 0 (fun h z => z) (by rw [← lvs_subs g hs, lvs_len]; omega)
      rw [← inn_subs] at fin
      exact Rt.bind (rIT (inn_fld g)) (Rt.bind fin Rt.ret)
/-! ### inits -/
theorem rInit {N : List Str} {b : List Sl → W Out} {fa : List Sl → W (List D)} {m2 : Nat} {g2 : Addr → List (Str × D) → List D → W (List (Str × D))} {x : Addr} {gs r : List (Str × D)} {ds es : List D} {δ : List Sl} (hb : Rt (b (startI N x ds)) (.nx δ)) (h0 : δ[0]? = some (Sl.val (.adr x))) (ha : Rt (fa δ) es) (hl : es.length = m2) (hg : Rt (g2 x gs es) r) : Rt (dInit N b fa m2 g2 x gs ds) r :=
  Rt.bind hb (Rt.need h0 (Rt.bind ha (Rt.need hl hg)))
theorem put3 (k t i : D) : putG "own_inner" i (putG "own_text" t (putG "own_kind" k [])) = flds k t i := by
  have h1 : ¬ (("own_kind" : Str) = "own_text") := by decide +kernel
  have h2 : ¬ (("own_kind" : Str) = "own_inner") := by decide +kernel
  have h3 : ¬ (("own_text" : Str) = "own_inner") := by decide +kernel
  simp only [putG, if_neg h1, if_neg h2, if_neg h3, flds]
theorem test_r {x : Addr} {k t i : D} : Rt (gi_Test x [] [k, t, i]) (flds k t i) := by
  rw [← put3]
  exact Rt.bind (Rt.bind (Rt.bind (Rt.var rfl) (Rt.need ⟨rfl, show 0 < 900 by decide⟩ Rt.ret)) (Rt.bind (Rt.bind (Rt.var rfl) (Rt.need ⟨rfl, Nat.lt_of_le_of_lt (putG_len _ _ _) (show 0 + 1 < 900 by decide)⟩ Rt.ret))
    (Rt.bind (Rt.var rfl) (Rt.need ⟨rfl, Nat.lt_of_le_of_lt (Nat.le_trans (putG_len _ _ _) (Nat.succ_le_succ (putG_len _ _ _))) (show 0 + 1 + 1 < 900 by decide)⟩ Rt.ret)))) Rt.ret
theorem word_i {a : Addr} {k x : Str} (hx : lets x) (h1 : 1 ≤ x.length) (h8 : x.length ≤ 8) : Rt (gi_WordTest a [] [.str k, .str x]) (flds (.str k) (.str x) (.tup [])) :=
  rInit (Rt.ifF (Rt.not (b := true) (Rt.tru (Rt.call (Rt.cons (Rt.var rfl) (Rt.cons Rt.cC Rt.nil)) rfl (is_word_r hx h1 h8)) Rt.ret)) Rt.next) rfl (Rt.cons (Rt.var rfl) (Rt.cons (Rt.var rfl) (Rt.cons (Rt.tup Rt.nil (small (show 0 ≤ 4000 by decide))) Rt.nil))) rfl test_r
theorem has_i {a : Addr} {x : Str} (h : (G.has x).wf) : Rt (gi_Has a [] [.str x]) (flds (.str "has") (.str x) (.tup [])) := rInit Rt.next rfl (Rt.cons Rt.cC (Rt.cons (Rt.var rfl) Rt.nil)) rfl (word_i h.1 h.2.1 h.2.2)
theorem beg_i {a : Addr} {x : Str} (h : (G.has x).wf) : Rt (gi_Begins a [] [.str x]) (flds (.str "begins") (.str x) (.tup [])) := rInit Rt.next rfl (Rt.cons Rt.cC (Rt.cons (Rt.var rfl) Rt.nil)) rfl (word_i h.1 h.2.1 h.2.2)
theorem fin_i {a : Addr} {x : Str} (h : (G.has x).wf) : Rt (gi_Ends a [] [.str x]) (flds (.str "ends") (.str x) (.tup [])) := rInit Rt.next rfl (Rt.cons Rt.cC (Rt.cons (Rt.var rfl) Rt.nil)) rfl (word_i h.1 h.2.1 h.2.2)
theorem is_i {a : Addr} {x : Str} (h : (G.iss x).wf) : Rt (gi_Is a [] [.str x]) (flds (.str "is") (.str x) (.tup [])) := by
  have hl : x.length ≤ 20 := h.2
  exact rInit (Rt.ifF (Rt.orF (Rt.not (b := true) (Rt.tru (Rt.call (Rt.cons (Rt.var rfl) Rt.nil) rfl (is_line_r h.1 (by omega))) Rt.ret)) (Rt.test ((Rt.op2 (Rt.opn (Rt.cons (Rt.var rfl) Rt.nil) (len_s (by omega))) Rt.cC Rt.ret).cast (congrArg D.bl (decide_eq_false (by omega)))))) Rt.next) rfl
    (Rt.cons Rt.cC (Rt.cons (Rt.var rfl) (Rt.cons (Rt.tup Rt.nil (small (show 0 ≤ 4000 by decide))) Rt.nil))) rfl test_r
theorem uniq_len : ∀ (l acc : List Nat), l.Nodup → (∀ c ∈ l, c ∉ acc) → (uniq acc l).length = acc.length + l.length
  | [], acc, _, _ => rfl
  | c :: r, acc, hn, hc => by
    unfold uniq
    rw [if_neg (hc c List.mem_cons_self), uniq_len r (c :: acc) (List.nodup_cons.mp hn).2 fun d hd z => ?_]
    · simp only [List.length_cons]; omega
    · rcases List.mem_cons.mp z with rfl | z
      · exact (List.nodup_cons.mp hn).1 hd
      · exact hc d (List.mem_cons_of_mem _ hd) z
theorem only_i {a : Addr} {x : Str} (h : (G.only x).wf) : Rt (gi_Only a [] [.str x]) (flds (.str "only") (.str x) (.tup [])) := by
  have hl : x.length ≤ 20 := h.2.1
  have hu := uniq_len x.cps.toList [] h.2.2 (fun c _ z => nomatch z)
  have hz : x.cps.size < 4000 := by have := len_cps x; simp at this; omega
  exact rInit (Rt.ifF (Rt.orF (Rt.not (b := true) (Rt.tru (Rt.call (Rt.cons (Rt.var rfl) Rt.nil) rfl (is_line_r h.1 (by omega))) Rt.ret)) (Rt.test ((Rt.op2 (Rt.bind (Rt.var rfl) (Rt.need hz Rt.ret)) (Rt.opn (Rt.cons (Rt.var rfl) Rt.nil) (len_s (by omega))) Rt.ret).cast (congrArg D.bl (decide_eq_false (by rw [hu, len_cps]; simp)))))) Rt.next) rfl
    (Rt.cons Rt.cC (Rt.cons (Rt.var rfl) (Rt.cons (Rt.tup Rt.nil (small (show 0 ≤ 4000 by decide))) Rt.nil))) rfl test_r
theorem isi_t (g : G) : Rt (isiD is_Test g.ob) (.bl true) := by
  have h : is_Test.lookup (.c g.cls) = some true := by cases g <;> (simp only [G.cls]; decide +kernel)
  rw [ob_eq']
  show Rt (match is_Test.lookup (.c g.cls) with | some b => W.ret (D.bl b) | none => W.stuck) _
  rw [h]; exact Rt.ret
theorem dep_m (g : G) (hd : g.dep ≤ 6) {δ : List Sl} {fa : List Sl → W D} (ha : Rt (fa δ) g.ob) : Rt (dMeth "depth" 0 (tb_depth 6) fa dNil δ) (.int g.dep) := mth ha (by decide +kernel) (tbd g 5) Rt.nil rfl (depth_r 5 g hd)
theorem lvs_m (g : G) (hd : g.dep ≤ 6) (hn : g.nl ≤ 100) {δ : List Sl} {fa : List Sl → W D} (ha : Rt (fa δ) g.ob) : Rt (dOpn lenD (dCons (dMeth "leaves" 0 (tb_leaves 6) fa dNil) dNil) δ) (.int g.nl) :=
  (Rt.opn (Rt.cons (mth ha (by decide +kernel) (tbl g 5) Rt.nil rfl (leaves_r 5 g hd hn)) Rt.nil) Rt.ret).cast (by rw [List.length_map, lvs_len])
theorem need_r {g : G} {s : Str} {m : Int} (hd : g.dep ≤ 6) (hn : g.nl ≤ 100) (hm : (g.nl : Int) ≤ m) : Rt (g_need_inner [g.ob, .str s, .int m]) .non :=
  Rt.bodyN (Rt.ifF (Rt.orF (Rt.not (b := true) (Rt.tru (Rt.op1 (Rt.var rfl) (isi_t g)) Rt.ret)) (Rt.orF (Rt.test ((Rt.op2 (dep_m g hd (Rt.var rfl)) Rt.cC Rt.ret).cast (congrArg D.bl (decide_eq_false (by omega)))))
    (Rt.test ((Rt.op2 (lvs_m g hd hn (Rt.var rfl)) (Rt.var rfl) Rt.ret).cast (congrArg D.bl (decide_eq_false (by omega))))))) Rt.next)
theorem fails_i {a : Addr} {g : G} (hd : g.dep ≤ 6) (hn : g.nl ≤ 8) : Rt (gi_Fails a [] [g.ob]) (flds (.str "fails") (.str "") (.tup [g.ob])) :=
  rInit (Rt.drop (Rt.call (Rt.cons (Rt.var rfl) (Rt.cons Rt.cC (Rt.cons Rt.cC Rt.nil))) rfl (need_r hd (by omega) (by omega)))) rfl (Rt.cons Rt.cC (Rt.cons Rt.cC (Rt.cons (Rt.tup (Rt.cons (Rt.var rfl) Rt.nil) (small (show 1 ≤ 4000 by decide))) Rt.nil))) rfl test_r
theorem pair_i {a : Addr} {k : Str} {g h : G} (hd : g.dep ≤ 6) (hd2 : h.dep ≤ 6) (hn : g.nl + h.nl ≤ 8) : Rt (gi_PairTest a [] [.str k, g.ob, h.ob]) (flds (.str k) (.str "") (.tup [g.ob, h.ob])) :=
  rInit (Rt.seq (Rt.drop (Rt.call (Rt.cons (Rt.var rfl) (Rt.cons Rt.cC (Rt.cons Rt.cC Rt.nil))) rfl (need_r hd (by omega) (by omega))))
    (Rt.drop (Rt.call (Rt.cons (Rt.var rfl) (Rt.cons Rt.cC (Rt.cons (Rt.op2 Rt.cC (lvs_m g hd (by omega) (Rt.var rfl)) Rt.ret) Rt.nil))) rfl (need_r hd2 (by omega) (by omega))))) rfl
    (Rt.cons (Rt.var rfl) (Rt.cons Rt.cC (Rt.cons (Rt.tup (Rt.cons (Rt.var rfl) (Rt.cons (Rt.var rfl) Rt.nil)) (small (show 2 ≤ 4000 by decide))) Rt.nil))) rfl test_r
theorem both_i {a : Addr} {g h : G} (hd : g.dep ≤ 6) (hd2 : h.dep ≤ 6) (hn : g.nl + h.nl ≤ 8) : Rt (gi_Both a [] [g.ob, h.ob]) (flds (.str "both") (.str "") (.tup [g.ob, h.ob])) := rInit Rt.next rfl (Rt.cons Rt.cC (Rt.cons (Rt.var rfl) (Rt.cons (Rt.var rfl) Rt.nil))) rfl (pair_i hd hd2 hn)
theorem either_i {a : Addr} {g h : G} (hd : g.dep ≤ 6) (hd2 : h.dep ≤ 6) (hn : g.nl + h.nl ≤ 8) : Rt (gi_Either a [] [g.ob, h.ob]) (flds (.str "either") (.str "") (.tup [g.ob, h.ob])) := rInit Rt.next rfl (Rt.cons Rt.cC (Rt.cons (Rt.var rfl) (Rt.cons (Rt.var rfl) Rt.nil))) rfl (pair_i hd hd2 hn)
end Lw
set_option Elab.async false
set_option linter.all false
set_option maxRecDepth 100000
set_option maxHeartbeats 4000000
/-! k02, the plain law 3: what tests tell of lines. -/
namespace Lw
open PySem L2 Lx
def G.sem : G → Str → Bool
  | .has x, r => inS x r
  | .beg x, r => Txt.startswith r x
  | .fin x, r => Txt.endswith r x
  | .iss x, r => decide (r = x)
  | .only x, r => (r.cps.toList).all fun c => decide (c ∈ x.cps.toList)
  | .fails g, r => !g.sem r
  | .both a b, r => a.sem r && b.sem r
  | .either a b, r => a.sem r || b.sem r
theorem ob_has (x : Str) : (G.has x).ob = .obj "Has" (flds (.str "has") (.str x) (.tup [])) := by rw [ob_eq', G.inn] <;> first | rfl | (intros; rename_i z; cases z)
theorem ob_beg (x : Str) : (G.beg x).ob = .obj "Begins" (flds (.str "begins") (.str x) (.tup [])) := by rw [ob_eq', G.inn] <;> first | rfl | (intros; rename_i z; cases z)
theorem ob_fin (x : Str) : (G.fin x).ob = .obj "Ends" (flds (.str "ends") (.str x) (.tup [])) := by rw [ob_eq', G.inn] <;> first | rfl | (intros; rename_i z; cases z)
theorem ob_iss (x : Str) : (G.iss x).ob = .obj "Is" (flds (.str "is") (.str x) (.tup [])) := by rw [ob_eq', G.inn] <;> first | rfl | (intros; rename_i z; cases z)
theorem ob_only (x : Str) : (G.only x).ob = .obj "Only" (flds (.str "only") (.str x) (.tup [])) := by rw [ob_eq', G.inn] <;> first | rfl | (intros; rename_i z; cases z)
theorem ob_fails (g : G) : (G.fails g).ob = .obj "Fails" (flds (.str "fails") (.str "") (.tup [g.ob])) := by rw [ob_eq', G.inn]; rfl
theorem ob_both (a b : G) : (G.both a b).ob = .obj "Both" (flds (.str "both") (.str "") (.tup [a.ob, b.ob])) := by rw [ob_eq', G.inn]; rfl
theorem ob_either (a b : G) : (G.either a b).ob = .obj "Either" (flds (.str "either") (.str "") (.tup [a.ob, b.ob])) := by rw [ob_eq', G.inn]; rfl
/-! ### the objects' holds -/
theorem lkh (k : Nat) (g : G) : (tb_holds (k + 1)).lookup g.cls = some (match g with
    | .has _ => dBody N_Has_holds (b_Has_holds (fun _ => tb_holds k) k) | .beg _ => dBody N_Begins_holds (b_Begins_holds (fun _ => tb_holds k) k) | .fin _ => dBody N_Ends_holds (b_Ends_holds (fun _ => tb_holds k) k)
    | .iss _ => dBody N_Is_holds (b_Is_holds (fun _ => tb_holds k) k) | .only _ => dBody N_Only_holds (b_Only_holds (fun _ => tb_holds k) k) | .fails _ => dBody N_Fails_holds (b_Fails_holds (fun _ => tb_holds k) k)
    | .both _ _ => dBody N_Both_holds (b_Both_holds (fun _ => tb_holds k) k) | .either _ _ => dBody N_Either_holds (b_Either_holds (fun _ => tb_holds k) k)) := by
  cases g with
  | has x => exact lk_pre (c := "Has") (pre := []) (ns := []) rfl rfl
  | beg x => exact lk_pre (c := "Begins") (pre := [(_, _)]) (ns := ["Has"]) rfl (by decide +kernel)
  | fin x => exact lk_pre (c := "Ends") (pre := [(_, _), (_, _)]) (ns := ["Has", "Begins"]) rfl (by decide +kernel)
  | iss x => exact lk_pre (c := "Is") (pre := [(_, _), (_, _), (_, _)]) (ns := ["Has", "Begins", "Ends"]) rfl (by decide +kernel)
  | only x => exact lk_pre (c := "Only") (pre := [(_, _), (_, _), (_, _), (_, _)]) (ns := ["Has", "Begins", "Ends", "Is"]) rfl (by decide +kernel)
  | fails x => exact lk_pre (c := "Fails") (pre := [(_, _), (_, _), (_, _), (_, _), (_, _)]) (ns := ["Has", "Begins", "Ends", "Is", "Only"]) rfl (by decide +kernel)
  | both a b => exact lk_pre (c := "Both") (pre := [(_, _), (_, _), (_, _), (_, _), (_, _), (_, _)]) (ns := ["Has", "Begins", "Ends", "Is", "Only", "Fails"]) rfl (by decide +kernel)
  | either a b => exact lk_pre (c := "Either") (pre := [(_, _), (_, _), (_, _), (_, _), (_, _), (_, _), (_, _)]) (ns := ["Has", "Begins", "Ends", "Is", "Only", "Fails", "Both"]) rfl (by decide +kernel)
theorem lk_word (c : Str) (h : (["Has", "Begins", "Ends"] : List Str).contains c = true) : tp_word.lookup c = some (dBody N_WordTest_word b_WordTest_word) := lk_same (cs := ["Has", "Begins", "Ends"]) h
theorem lk_one (c : Str) (h : (["Both", "Either"] : List Str).contains c = true) : tp_one.lookup c = some (dBody N_PairTest_one b_PairTest_one) := lk_same (cs := ["Both", "Either"]) h
theorem lk_other (c : Str) (h : (["Both", "Either"] : List Str).contains c = true) : tp_other.lookup c = some (dBody N_PairTest_other b_PairTest_other) := lk_same (cs := ["Both", "Either"]) h
section
variable {c : Str} {k t i : D} {r : List Sl}
theorem p_word (h : (["Has", "Begins", "Ends"] : List Str).contains c = true) : Rt (dProp tp_word (dVar 0) (.val (.obj c (flds k t i)) :: r)) t := Rt.prop (Rt.var rfl) (lk_word c h) (Rt.bodyR (Rt.rets (Rt.fld (Rt.var rfl) (lk_text _ _ _))))
theorem p_line : Rt (dProp tp_line (dVar 0) (.val (.obj "Is" (flds k t i)) :: r)) t := Rt.prop (Rt.var rfl) (lk_same (cs := ["Is"]) (by decide +kernel)) (Rt.bodyR (Rt.rets (Rt.fld (Rt.var rfl) (lk_text _ _ _))))
theorem p_letters : Rt (dProp tp_letters (dVar 0) (.val (.obj "Only" (flds k t i)) :: r)) t := Rt.prop (Rt.var rfl) (lk_same (cs := ["Only"]) (by decide +kernel)) (Rt.bodyR (Rt.rets (Rt.fld (Rt.var rfl) (lk_text _ _ _))))
theorem p_test {d : D} : Rt (dProp tp_test (dVar 0) (.val (.obj "Fails" (flds k t (.tup [d]))) :: r)) d := Rt.prop (Rt.var rfl) (lk_same (cs := ["Fails"]) (by decide +kernel)) (Rt.bodyR (Rt.rets (Rt.op2 (Rt.fld (Rt.var rfl) (lk_inn _ _ _)) Rt.cC (Rt.ixT rfl))))
theorem p_one {d e : D} (h : (["Both", "Either"] : List Str).contains c = true) : Rt (dProp tp_one (dVar 0) (.val (.obj c (flds k t (.tup [d, e]))) :: r)) d := Rt.prop (Rt.var rfl) (lk_one c h) (Rt.bodyR (Rt.rets (Rt.op2 (Rt.fld (Rt.var rfl) (lk_inn _ _ _)) Rt.cC (Rt.ixT rfl))))
theorem p_other {d e : D} (h : (["Both", "Either"] : List Str).contains c = true) : Rt (dProp tp_other (dVar 0) (.val (.obj c (flds k t (.tup [d, e]))) :: r)) e := Rt.prop (Rt.var rfl) (lk_other c h) (Rt.bodyR (Rt.rets (Rt.op2 (Rt.fld (Rt.var rfl) (lk_inn _ _ _)) Rt.cC (Rt.ixT rfl))))
end
theorem letters_all {x r : Str} {δ : List Sl} {i : Nat} {fe : List Sl → W D} (hr : r.length ≤ 4000) (he : ∀ c ∈ r.cps.toList, Rt (fe (δ.set i (.val (.str ⟨#[c]⟩)))) (.bl (decide (c ∈ x.cps.toList)))) : Rt (lcD (dName i) dYes fe δ ((r.cps.toList).map fun c => .str ⟨#[c]⟩) 0) ((r.cps.toList).map fun c => .bl (decide (c ∈ x.cps.toList))) :=
  lcY _ _ _ (by rw [← len_cps]; exact hr) he
theorem holds_r : ∀ (k : Nat) (g : G) (r : Str), g.dep ≤ k → r.length ≤ 4000 → ∀ {δ : List Sl} {fa : List Sl → W D} {fl : List Sl → W (List D)}, Rt (fa δ) g.ob → Rt (fl δ) [.str r] → Rt (dMeth "holds" 1 (tb_holds k) fa fl δ) (.bl (g.sem r))
  | 0, g, r, hk, _, _, _, _, _, _ => by have := g.dep_pos; omega
  | k + 1, g, r, hk, hr, δ, fa, fl, ha, hf => by
    refine mth ha (by decide +kernel) (lkh k g) hf rfl ?_
    cases g with
    | has x => rw [ob_has]; exact Rt.bodyR (Rt.rets (Rt.op2 (p_word (c := "Has") (by decide +kernel)) (Rt.var rfl) inD_s))
    | beg x => rw [ob_beg]; exact Rt.bodyR (Rt.rets (Rt.ms (Rt.var rfl) (Rt.cons (p_word (c := "Begins") (by decide +kernel)) Rt.nil) Rt.ret))
    | fin x => rw [ob_fin]; exact Rt.bodyR (Rt.rets (Rt.ms (Rt.var rfl) (Rt.cons (p_word (c := "Ends") (by decide +kernel)) Rt.nil) Rt.ret))
    | iss x => rw [ob_iss]; exact Rt.bodyR (Rt.rets (Rt.op2 (Rt.var rfl) p_line Rt.ret))
    | only x =>
      rw [ob_only]
      refine Rt.bodyR (Rt.rets (Rt.opn (Rt.cons (rLc (rIS (Rt.var rfl)) (letters_all (x := x) hr fun c hc => (Rt.op2 (Rt.var rfl) p_letters inD_s).cast (by rw [inS_one]))) Rt.nil) ?_))
      show Rt (match bools _ with | some bs => W.ret (D.bl (bs.all id)) | none => W.stuck) _
      rw [bools_map (fun c => decide (c ∈ x.cps.toList))]
      refine Rt.ret.cast (congrArg D.bl ?_)
      simp only [G.sem, List.all_map]
      rfl
    | fails g =>
      rw [ob_fails]
      have hd : g.dep ≤ k := by simp only [G.dep] at hk; omega
      exact Rt.bodyR (Rt.rets (Rt.notV (holds_r k g r hd hr p_test (Rt.cons (Rt.var rfl) Rt.nil))))
    | both a b =>
      rw [ob_both]
      have hd : a.dep ≤ k ∧ b.dep ≤ k := by simp only [G.dep] at hk; omega
      exact Rt.bodyR (Rt.rets (Rt.andV (holds_r k a r hd.1 hr (p_one (c := "Both") (by decide +kernel)) (Rt.cons (Rt.var rfl) Rt.nil)) fun _ => holds_r k b r hd.2 hr (p_other (c := "Both") (by decide +kernel)) (Rt.cons (Rt.var rfl) Rt.nil)))
    | either a b =>
      rw [ob_either]
      have hd : a.dep ≤ k ∧ b.dep ≤ k := by simp only [G.dep] at hk; omega
      exact Rt.bodyR (Rt.rets (Rt.orV (holds_r k a r hd.1 hr (p_one (c := "Either") (by decide +kernel)) (Rt.cons (Rt.var rfl) Rt.nil)) fun _ => holds_r k b r hd.2 hr (p_other (c := "Either") (by decide +kernel)) (Rt.cons (Rt.var rfl) Rt.nil)))
/-! ### the law's own look -/
def G.enc : G → D
  | .has x => .tup [.str "has", .str x]
  | .beg x => .tup [.str "begins", .str x]
  | .fin x => .tup [.str "ends", .str x]
  | .iss x => .tup [.str "is", .str x]
  | .only x => .tup [.str "only", .str x]
  | .fails g => .tup [.str "fails", g.enc]
  | .both a b => .tup [.str "both", a.enc, b.enc]
  | .either a b => .tup [.str "either", a.enc, b.enc]
theorem toPs_int : ∀ ns : List Int, toPs (ns.map D.int) = some (ns.map PyData.int)
  | [] => by simp only [List.map_nil]; rw [toPs]
  | n :: r => by simp only [List.map_cons]; rw [toPs, toPs_int r, toP]; rfl
theorem toPs_str : ∀ ns : List Str, toPs (ns.map D.str) = some (ns.map PyData.str)
  | [] => by simp only [List.map_nil]; rw [toPs]
  | n :: r => by simp only [List.map_cons]; rw [toPs, toPs_str r, toP]; rfl
theorem toP_nil : toP (.lst []) = some (.list []) := by rw [toP, toPs]; rfl
def asc (x : Str) : Prop := ∀ c ∈ x.cps.toList, c < 128
theorem ok_one {c : Nat} (h : c < 128) : PyData.strOk ⟨#[c]⟩ = true := by
  show (#[c] : Array Nat).all (· < 0x110000) = true
  simp
  omega
theorem shaped_signs {cs : List Nat} (h : ∀ c ∈ cs, c < 128) : SeqAt.shaped (.list ((cs.map fun c => (⟨#[c]⟩ : Str)).map .str)) = true := by
  have h1 : ∀ cs : List Nat, (∀ c ∈ cs, c < 128) → PyData.canLayAll0 ((cs.map fun c => (⟨#[c]⟩ : Str)).map .str) = true := fun cs => by
    induction cs with
    | nil => exact fun _ => rfl
    | cons c r ih =>
      intro h
      show (PyData.strOk ⟨#[c]⟩ && PyData.canLayAll0 ((r.map fun c => (⟨#[c]⟩ : Str)).map .str)) = true
      rw [ok_one (h c List.mem_cons_self), ih fun d hd => h d (List.mem_cons_of_mem _ hd)]
      rfl
  have h3 : ∀ cs : List Str, PyData.depthAll (cs.map .str) = 0 := fun cs => by
    induction cs with
    | nil => rfl
    | cons c r ih =>
      show max (PyData.depth (.str c)) (PyData.depthAll (r.map PyData.str)) = 0
      rw [ih]; rfl
  have h2 : (PyData.list ((cs.map fun c => (⟨#[c]⟩ : Str)).map .str)).depth ≤ 64 := by
    show PyData.depthAll ((cs.map fun c => (⟨#[c]⟩ : Str)).map .str) + 1 ≤ 64
    rw [h3]
    decide
  exact Bool.and_eq_true_iff.mpr ⟨h1 cs h, decide_eq_true h2⟩
theorem ne_ints (ns : List Int) : Rt (neD (.lst (ns.map D.int)) (.lst [])) (.bl (!ns.isEmpty)) := by
  show Rt (match toP (.lst (ns.map D.int)), toP (.lst []) with | some a, some b => W.need (SeqAt.shaped a = true ∧ SeqAt.shaped b = true) (W.ret (D.bl (!PyData.eqv a b))) | _, _ => W.stuck) _
  rw [toP_nil, toP, toPs_int]
  refine Rt.need ⟨shaped_ints ns, rfl⟩ (Rt.ret.cast ?_)
  cases ns <;> rfl
theorem eq_signs {cs : List Nat} (h : ∀ c ∈ cs, c < 128) : Rt (eqD (.lst ((cs.map fun c => (⟨#[c]⟩ : Str)).map D.str)) (.lst [])) (.bl cs.isEmpty) := by
  show Rt (match toP (.lst ((cs.map fun c => (⟨#[c]⟩ : Str)).map D.str)), toP (.lst []) with | some a, some b => W.need (SeqAt.shaped a = true ∧ SeqAt.shaped b = true) (W.ret (D.bl (PyData.eqv a b))) | _, _ => W.stuck) _
  rw [toP_nil, toP, toPs_str]
  refine Rt.need ⟨shaped_signs h, rfl⟩ (Rt.ret.cast ?_)
  cases cs <;> rfl
/-! cuts -/
theorem cut_mid (r : Str) (k m : Nat) : cutS r (some (k : Int)) (some ((k + m : Nat) : Int)) = ⟨(((r.cps.toList).drop k).take m).toArray⟩ := by
  unfold cutS
  rw [HT.sIx_nat, HT.sIx_nat]
  congr 2
  have hl : r.length = (r.cps.toList).length := len_cps r
  rw [hl]
  by_cases h : k ≤ (r.cps.toList).length
  · rw [Nat.min_eq_left h]
    rw [List.take_eq_take_iff, List.length_drop]
    omega
  · rw [Nat.min_eq_right (show r.cps.toList.length ≤ k by omega), List.drop_length, List.take_nil, List.drop_eq_nil_of_le (show r.cps.toList.length ≤ k by omega), List.take_nil]
theorem cut_to (r : Str) (m : Nat) : cutS r none (some (m : Int)) = ⟨((r.cps.toList).take m).toArray⟩ := by
  unfold cutS
  rw [HT.sIx_none, HT.sIx_nat, Nat.sub_zero, List.drop_zero]
  congr 2
  have hl : r.length = r.cps.toList.length := len_cps r
  rw [hl, List.take_eq_take_iff]
  omega
theorem cut_from (r : Str) (m : Nat) : cutS r (some (m : Int)) none = ⟨((r.cps.toList).drop m).toArray⟩ := by
  unfold cutS
  rw [HT.sIx_none, HT.sIx_nat]
  congr 1
  have hl : r.length = (r.cps.toList).length := len_cps r
  rw [hl]
  by_cases h : m ≤ (r.cps.toList).length
  · rw [Nat.min_eq_left h, List.take_of_length_le (by rw [List.length_drop]; omega)]
  · rw [Nat.min_eq_right (by omega), List.drop_length, List.take_nil, List.drop_eq_nil_of_le (by omega)]
theorem str_eq (l : List Nat) (x : Str) : decide ((⟨l.toArray⟩ : Str) = x) = (l == x.cps.toList) := by
  rw [Bool.eq_iff_iff, decide_eq_true_iff, beq_iff_eq]
  constructor
  · intro h; rw [← h]
  · intro h; rw [h]
theorem sub_mid (r x : Str) (k : Nat) : decide (cutS r (some (k : Int)) (some ((k + x.length : Nat) : Int)) = x) = Builtin.Str.subAt r x k := by rw [cut_mid, str_eq, PySem.StrLaws.subAt_eq]
theorem sub_lt {r x : Str} {k : Nat} (h1 : 1 ≤ x.length) (h : Builtin.Str.subAt r x k = true) : k + x.length ≤ r.length := by
  rw [PySem.StrLaws.subAt_eq, beq_iff_eq] at h
  have h2 := congrArg List.length h
  rw [List.length_take, List.length_drop, ← len_cps, ← len_cps] at h2
  omega
theorem rangeD_eq : ∀ (n : Nat) (lo : Int), rangeD lo n = (List.range n).map fun (i : Nat) => D.int (lo + i)
  | 0, _ => rfl
  | n + 1, lo => by
    rw [List.range_succ_eq_map, List.map_cons, List.map_map]
    show D.int lo :: rangeD (lo + 1) n = _
    rw [rangeD_eq n (lo + 1)]
    congr 1
    · simp
    · apply List.map_congr_left
      intro i _
      show D.int (lo + 1 + (i : Int)) = D.int (lo + ((i + 1 : Nat) : Int))
      congr 1; omega
theorem has_iff {r x : Str} (h1 : 1 ≤ x.length) : inS x r = !((List.range r.length).filter fun k => Builtin.Str.subAt r x k).isEmpty := by
  rw [Bool.eq_iff_iff]
  have hf : inS x r = true ↔ ∃ i, i + x.length ≤ r.length ∧ Builtin.Str.subAt r x i = true := PySem.StrLaws.found_iff r x
  rw [hf, Bool.not_eq_true', List.isEmpty_eq_false_iff]
  constructor
  · rintro ⟨i, hi, hs⟩ z
    have : i ∈ (List.range r.length).filter fun k => Builtin.Str.subAt r x k := List.mem_filter.mpr ⟨List.mem_range.mpr (by omega), hs⟩
    rw [z] at this; cases this
  · intro h
    obtain ⟨i, hi⟩ := List.exists_mem_of_ne_nil _ h
    obtain ⟨_, hs⟩ := List.mem_filter.mp hi
    exact ⟨i, sub_lt h1 hs, hs⟩
theorem slS {r : Str} {l h : Option Int} (hr : r.length ≤ 4000) : Rt (slD (.str r) l h) (.str (cutS r l h)) := Rt.need (small hr) Rt.ret
end Lw
set_option Elab.async false
set_option linter.all false
set_option maxRecDepth 100000
set_option maxHeartbeats 4000000
/-! k02, the plain law 4: goals made, their words. -/
namespace Lw
open PySem L2 Lx
theorem inT {s : Str} {ys : List Str} {b : Bool} (h : (ys.any fun y => y == s) = b) : Rt (inD false (.str s) (.tup (ys.map D.str))) (.bl b) := by
  have e : (ys.map D.str).all flatD = true := by rw [List.all_map]; exact List.all_eq_true.mpr fun _ _ => rfl
  refine Rt.need ⟨rfl, e⟩ (Rt.ret.cast (congrArg D.bl ?_))
  show inF (.str s) (ys.map D.str) = b
  unfold inF
  rw [List.any_map]
  exact h
theorem inT2 {s a b : Str} {δ : List Sl} {i : Nat} {c : Bool} (e : δ[i]? = some (.val (.str s))) (h : ([a, b].any fun y => y == s) = c) : Rt (dTest (dOp2 (inD false) (dVar i) (dTup (dCons (dC (.str a)) (dCons (dC (.str b)) dNil)))) δ) c :=
  Rt.test (Rt.op2 (Rt.var e) (Rt.tup (Rt.cons Rt.cC (Rt.cons Rt.cC Rt.nil)) (small (show 2 ≤ 4000 by decide))) (inT (ys := [a, b]) h))
theorem made_r : ∀ (k : Nat) (g : G), g.dep ≤ k → k ≤ 6 → g.wf → g.nl ≤ 8 → Rt (g__law_made_goal k [g.enc]) g.ob
  | 0, g, hk, _, _, _ => by have := g.dep_pos; omega
  | k + 1, g, hk, h4, hw, hn => by
    have W1 : ∀ {δ : List Sl} {xs : List D} {d : D} {j : Int}, δ[0]? = some (.val (.tup xs)) → atI xs j = some d → Rt (dOp2 ixD (dVar 0) (dC (.int j)) δ) d := fun e h => Rt.op2 (Rt.var e) Rt.cC (Rt.ixT h)
    have nx : ∀ {δ : List Sl} {s t : Str} {g : List Sl → W Out}, δ[1]? = some (.val (.str s)) → s ≠ t → Rt (dIf (dTest (dOp2 eqD (dVar 1) (dC (.str t)))) g dNext δ) (.nx δ) := fun e h => Rt.ifF (Rt.test (Rt.op2 (Rt.var e) Rt.cC (Rt.eqF h))) Rt.next
    cases g with
    | has x =>
      rw [ob_has]
      exact Rt.bodyR (Rt.seq (Rt.asg (W1 rfl rfl)) (Rt.seqR (Rt.ifT (Rt.test (Rt.op2 (Rt.var rfl) Rt.cC Rt.eqT)) (Rt.rets (make_r (Rt.cons (W1 rfl rfl) Rt.nil) rfl fun _ => has_i hw)))))
    | beg x =>
      rw [ob_beg]
      exact Rt.bodyR (Rt.seq (Rt.asg (W1 rfl rfl)) (Rt.seq (nx rfl (by decide +kernel)) (Rt.seqR (Rt.ifT (inT2 rfl (by decide +kernel)) (Rt.rets (Rt.ifE (Rt.test (Rt.op2 (Rt.var rfl) Rt.cC Rt.eqT)) (make_r (Rt.cons (W1 rfl rfl) Rt.nil) rfl fun _ => beg_i hw)))))))
    | fin x =>
      rw [ob_fin]
      exact Rt.bodyR (Rt.seq (Rt.asg (W1 rfl rfl)) (Rt.seq (nx rfl (by decide +kernel)) (Rt.seqR (Rt.ifT (inT2 rfl (by decide +kernel)) (Rt.rets (Rt.ifE (Rt.test (Rt.op2 (Rt.var rfl) Rt.cC (Rt.eqF (by decide +kernel)))) (make_r (Rt.cons (W1 rfl rfl) Rt.nil) rfl fun _ => fin_i hw)))))))
    | iss x =>
      rw [ob_iss]
      exact Rt.bodyR (Rt.seq (Rt.asg (W1 rfl rfl)) (Rt.seq (nx rfl (by decide +kernel)) (Rt.seq (Rt.ifF (inT2 rfl (by decide +kernel)) Rt.next) (Rt.seqR (Rt.ifT (inT2 rfl (by decide +kernel)) (Rt.rets (Rt.ifE (Rt.test (Rt.op2 (Rt.var rfl) Rt.cC Rt.eqT)) (make_r (Rt.cons (W1 rfl rfl) Rt.nil) rfl fun _ => is_i hw))))))))
    | only x =>
      rw [ob_only]
      exact Rt.bodyR (Rt.seq (Rt.asg (W1 rfl rfl)) (Rt.seq (nx rfl (by decide +kernel)) (Rt.seq (Rt.ifF (inT2 rfl (by decide +kernel)) Rt.next) (Rt.seqR (Rt.ifT (inT2 rfl (by decide +kernel)) (Rt.rets (Rt.ifE (Rt.test (Rt.op2 (Rt.var rfl) Rt.cC (Rt.eqF (by decide +kernel)))) (make_r (Rt.cons (W1 rfl rfl) Rt.nil) rfl fun _ => only_i hw))))))))
    | fails g =>
      rw [ob_fails]
      have hd : g.dep ≤ k := by simp only [G.dep] at hk; omega
      have hl : g.nl ≤ 8 := by simpa only [G.nl] using hn
      exact Rt.bodyR (Rt.seq (Rt.asg (W1 rfl rfl)) (Rt.seq (nx rfl (by decide +kernel)) (Rt.seq (Rt.ifF (inT2 rfl (by decide +kernel)) Rt.next) (Rt.seq (Rt.ifF (inT2 rfl (by decide +kernel)) Rt.next)
        (Rt.seqR (Rt.ifT (Rt.test (Rt.op2 (Rt.var rfl) Rt.cC Rt.eqT)) (Rt.rets (make_r (Rt.cons (Rt.call (Rt.cons (W1 rfl rfl) Rt.nil) rfl (made_r k g hd (by omega) hw hl)) Rt.nil) rfl fun _ => fails_i (by omega) hl))))))))
    | both a b =>
      rw [ob_both]
      have hd : a.dep ≤ k ∧ b.dep ≤ k := by simp only [G.dep] at hk; omega
      have hl : a.nl + b.nl ≤ 8 := by simpa only [G.nl] using hn
      exact Rt.bodyR (Rt.seq (Rt.asg (W1 rfl rfl)) (Rt.seq (nx rfl (by decide +kernel)) (Rt.seq (Rt.ifF (inT2 rfl (by decide +kernel)) Rt.next) (Rt.seq (Rt.ifF (inT2 rfl (by decide +kernel)) Rt.next) (Rt.seq (nx rfl (by decide +kernel))
        (Rt.seq (Rt.par (Rt.cons (Rt.call (Rt.cons (W1 rfl rfl) Rt.nil) rfl (made_r k a hd.1 (by omega) hw.1 (by omega))) (Rt.cons (Rt.call (Rt.cons (W1 rfl rfl) Rt.nil) rfl (made_r k b hd.2 (by omega) hw.2 (by omega))) Rt.nil)))
        (Rt.rets (Rt.ifE (Rt.test (Rt.op2 (Rt.var rfl) Rt.cC Rt.eqT)) (make_r (Rt.cons (Rt.var rfl) (Rt.cons (Rt.var rfl) Rt.nil)) rfl fun _ => both_i (by omega) (by omega) hl)))))))))
    | either a b =>
      rw [ob_either]
      have hd : a.dep ≤ k ∧ b.dep ≤ k := by simp only [G.dep] at hk; omega
      have hl : a.nl + b.nl ≤ 8 := by simpa only [G.nl] using hn
      exact Rt.bodyR (Rt.seq (Rt.asg (W1 rfl rfl)) (Rt.seq (nx rfl (by decide +kernel)) (Rt.seq (Rt.ifF (inT2 rfl (by decide +kernel)) Rt.next) (Rt.seq (Rt.ifF (inT2 rfl (by decide +kernel)) Rt.next) (Rt.seq (nx rfl (by decide +kernel))
        (Rt.seq (Rt.par (Rt.cons (Rt.call (Rt.cons (W1 rfl rfl) Rt.nil) rfl (made_r k a hd.1 (by omega) hw.1 (by omega))) (Rt.cons (Rt.call (Rt.cons (W1 rfl rfl) Rt.nil) rfl (made_r k b hd.2 (by omega) hw.2 (by omega))) Rt.nil)))
        (Rt.rets (Rt.ifE (Rt.test (Rt.op2 (Rt.var rfl) Rt.cC (Rt.eqF (by decide +kernel)))) (make_r (Rt.cons (Rt.var rfl) (Rt.cons (Rt.var rfl) Rt.nil)) rfl fun _ => either_i (by omega) (by omega) hl)))))))))
/-! ### words, leaves -/
def rest (g : G) : List D := match subs g with | [] => [.str g.txt] | h :: hs => (h :: hs).map G.enc
theorem enc_eq (g : G) : g.enc = .tup (.str g.kind :: rest g) := by cases g <;> simp only [G.enc, rest, subs, G.kind, G.txt, List.map_cons, List.map_nil]
theorem slT1 (a : D) (r : List D) : Rt (slD (.tup (a :: r)) (some 1) none) (.tup r) := by
  have h1 : HT.sIx (a :: r).length 0 (some 1) = 1 := by
    have := HT.sIx_nat (a :: r).length 0 1
    rw [List.length_cons] at this ⊢
    rw [show ((1 : Nat) : Int) = 1 from rfl] at this
    rw [this]; omega
  refine Rt.need (fun z => by rw [h1] at z; omega) (Rt.ret.cast ?_)
  unfold cutL
  rw [h1, HT.sIx_none]
  simp
theorem at0 {α : Type} (a : α) (r : List α) : atI (a :: r) 0 = some a := by
  obtain ⟨v, h1, h2⟩ := atI_in (xs := a :: r) (i := 0) (by decide) (by simp)
  rw [h1]
  simpa using h2.symm
theorem inK (g : G) {δ : List Sl} (e : δ[0]? = some (.val g.enc)) : Rt (dTest (dOp2 (inD false) (dOp2 ixD (dVar 0) (dC (.int 0))) (dTup (dCons (dC (.str ("fails" : Str))) (dCons (dC (.str ("both" : Str))) (dCons (dC (.str ("either" : Str))) dNil))))) δ) (!(subs g).isEmpty) := by
  rw [enc_eq] at e
  refine Rt.test (Rt.op2 (Rt.op2 (Rt.var e) Rt.cC (Rt.ixT (at0 _ _))) (Rt.tup (Rt.cons Rt.cC (Rt.cons Rt.cC (Rt.cons Rt.cC Rt.nil))) (small (show 3 ≤ 4000 by decide))) (inT (ys := ["fails", "both", "either"]) ?_))
  cases g <;> (simp only [G.kind, subs, List.isEmpty_cons, List.isEmpty_nil]; decide +kernel)
theorem lstsD_map {α : Type} (f : α → List D) : ∀ l : List α, lstsD (l.map fun a => D.lst (f a)) = some (l.map f)
  | [] => rfl
  | a :: r => by show (lstsD (r.map fun a => D.lst (f a))).map (f a :: ·) = _; rw [lstsD_map f r]; rfl
theorem sum_r {l : List (List D)} (h : l.flatten.length ≤ 4000) : Rt (sumD [.lst (l.map D.lst), .lst []]) (.lst l.flatten) := by
  show Rt (match lstsD (l.map D.lst) with | some yss => W.need (([] ++ yss.flatten).length ≤ sizeLine) (W.ret (D.lst ([] ++ yss.flatten))) | none => W.stuck) _
  have e := lstsD_map (fun x : List D => x) l
  rw [List.map_id'] at e
  rw [e]
  exact Rt.need (small h) Rt.ret
theorem jl_r : ∀ (k : Nat) (g : G), g.dep ≤ k → g.nl ≤ 100 → Rt (g__law_jleaves k [g.enc]) (.lst (g.lvs.map G.enc))
  | 0, g, hk, _ => by have := g.dep_pos; omega
  | k + 1, g, hk, hn => by
    by_cases hs : subs g = []
    · have h := inK g (δ := [.val g.enc, .un]) rfl
      rw [hs] at h
      rw [lvs_leaf g hs]
      exact Rt.bodyR (Rt.seq (Rt.ifF h Rt.next) (Rt.rets (Rt.lst (Rt.cons (Rt.var rfl) Rt.nil) (small (show 1 ≤ 4000 by decide)))))
    · have h := inK g (δ := [.val g.enc, .un]) rfl
      have e0 : (!(subs g).isEmpty) = true := by cases q : subs g with | nil => exact absurd q hs | cons a r => rfl
      rw [e0] at h
      have er : rest g = (subs g).map G.enc := by unfold rest; cases q : subs g with | nil => exact absurd q hs | cons a r => rfl
      have lc : Rt (lcD (dName 1) dYes (dCall 1 ((fun _ => g__law_jleaves k) k) (dCons (dVar 1) dNil)) (wipeD [.val g.enc, .un] [1]) (rest g) 0) ((subs g).map fun x => .lst (x.lvs.map G.enc)) := by
        rw [er]
        exact lcY _ _ _ (by have := subs_len g; omega) fun x hx => Rt.call (Rt.cons (Rt.var rfl) Rt.nil) rfl (jl_r k x (by have := subs_dep hx; omega) (by have := nl_le hx; omega))
      have hf : (((subs g).map fun x => x.lvs.map G.enc)).flatten = g.lvs.map G.enc := by rw [lvs_subs g hs, List.map_flatMap, List.flatMap_def]
      have hsl : Rt (dSl (dVar 0) (dPart (dC (.int 1))) dNoPart [.val g.enc, .un]) (.tup (rest g)) := Rt.sl ((Rt.var rfl).cast (enc_eq g)) (Rt.part Rt.cC) Rt.noPart (slT1 _ _)
      refine Rt.bodyR (Rt.seqR (Rt.ifT h (Rt.rets ((Rt.opn (Rt.cons (rLc (rIT hsl) lc) (Rt.cons (Rt.lst Rt.nil (small (show 0 ≤ 4000 by decide))) Rt.nil)) ?_)))))
      have e2 : ((subs g).map fun x => D.lst (x.lvs.map G.enc)) = ((subs g).map fun x => x.lvs.map G.enc).map D.lst := by rw [List.map_map]; rfl
      rw [e2, ← hf]
      exact sum_r (by rw [hf, List.length_map, lvs_len]; omega)
theorem jw_r : ∀ (k : Nat) (g : G), g.dep ≤ k → g.nl ≤ 100 → Rt (g__law_jwords k [g.enc]) (.lst (g.lvs.map fun l => .str l.txt))
  | 0, g, hk, _ => by have := g.dep_pos; omega
  | k + 1, g, hk, hn => by
    have hsl : Rt (dSl (dVar 0) (dPart (dC (.int 1))) dNoPart [.val g.enc, .un]) (.tup (rest g)) := Rt.sl ((Rt.var rfl).cast (enc_eq g)) (Rt.part Rt.cC) Rt.noPart (slT1 _ _)
    by_cases hs : subs g = []
    · have h := inK g (δ := [.val g.enc, .un]) rfl
      rw [hs] at h
      have er : rest g = [.str g.txt] := by unfold rest; rw [hs]
      rw [er] at hsl
      rw [lvs_leaf g hs]
      exact Rt.bodyR (Rt.seq (Rt.ifF h Rt.next) (Rt.rets (Rt.opn (Rt.cons hsl Rt.nil) Rt.ret)))
    · have h := inK g (δ := [.val g.enc, .un]) rfl
      have e0 : (!(subs g).isEmpty) = true := by cases q : subs g with | nil => exact absurd q hs | cons a r => rfl
      rw [e0] at h
      have er : rest g = (subs g).map G.enc := by unfold rest; cases q : subs g with | nil => exact absurd q hs | cons a r => rfl
      have lc : Rt (lcD (dName 1) dYes (dCall 1 ((fun _ => g__law_jwords k) k) (dCons (dVar 1) dNil)) (wipeD [.val g.enc, .un] [1]) (rest g) 0) ((subs g).map fun x => .lst (x.lvs.map fun l => .str l.txt)) := by
        rw [er]
        exact lcY _ _ _ (by have := subs_len g; omega) fun x hx => Rt.call (Rt.cons (Rt.var rfl) Rt.nil) rfl (jw_r k x (by have := subs_dep hx; omega) (by have := nl_le hx; omega))
      have hf : (((subs g).map fun x => x.lvs.map fun l => D.str l.txt)).flatten = g.lvs.map fun l => .str l.txt := by rw [lvs_subs g hs, List.map_flatMap, List.flatMap_def]
      refine Rt.bodyR (Rt.seqR (Rt.ifT h (Rt.rets ((Rt.opn (Rt.cons (rLc (rIT hsl) lc) (Rt.cons (Rt.lst Rt.nil (small (show 0 ≤ 4000 by decide))) Rt.nil)) ?_)))))
      have e2 : ((subs g).map fun x => D.lst (x.lvs.map fun l => .str l.txt)) = ((subs g).map fun x => x.lvs.map fun l => D.str l.txt).map D.lst := by rw [List.map_map]; rfl
      rw [e2, ← hf]
      exact sum_r (by rw [hf, List.length_map, lvs_len]; omega)
end Lw
set_option Elab.async false
set_option linter.all false
set_option maxRecDepth 100000
set_option maxHeartbeats 4000000
/-! k02, the plain law 5: what is drawn. -/
namespace Lw
open PySem L2 Lx
/-! ### steps that may draw -/
section
variable {δ ε : List Sl} {d x y : D} {ds : List D} {i mm B B1 B2 : Nat} {f fa fb : List Sl → W D} {fl : List Sl → W (List D)} {g h : List Sl → W Out} {P : D → Prop} {Q : Out → Prop} {R : List D → Prop}
theorem tAsg {S : Out → Prop} (hf : Tm B1 (f δ) P) (hh : ∀ d, P d → Tm B2 (h (δ.set i (.val d))) S) (hb : B1 + B2 ≤ B) : Tm B (dSeq (dAsg f (dName i)) h δ) S :=
  Tm.bind (Q := fun o => ∃ d, P d ∧ o = .nx (δ.set i (.val d))) (Tm.bind (B2 := 0) hf (fun d hd => Tm.bindR Rt.ret (Tm.ret ⟨d, hd, rfl⟩)) (Nat.le_refl _)) (fun o ho => by obtain ⟨d, hd, rfl⟩ := ho; exact hh d hd) hb
theorem tAsgR {S : Out → Prop} (hf : Rt (f δ) d) (hh : Tm B (h (δ.set i (.val d))) S) : Tm B (dSeq (dAsg f (dName i)) h δ) S := Tm.bindR (Rt.asg hf) hh
theorem tRet {S : Out → Prop} (hf : Tm B (f δ) P) (hs : ∀ d, P d → S (.rt d)) : Tm B (dRet f δ) S := Tm.bind (B2 := 0) hf (fun d hd => Tm.ret (hs d hd)) (Nat.le_refl _)
theorem tBody {N : List Str} {bd : List Sl → W Out} (hb : Tm B (bd (startD N ds)) (fun o => ∃ d, o = .rt d ∧ P d)) : Tm B (dBody N bd ds) P := Tm.bind (B2 := 0) hb (fun o ho => by obtain ⟨d, rfl, hd⟩ := ho; exact Tm.ret hd) (Nat.le_refl _)
theorem tCall {G : List D → W D} (hf : Rt (fl δ) ds) (hm : ds.length = mm) (hg : Tm B (G ds) P) : Tm B (dCall mm G fl δ) P := Tm.bindR hf (Tm.need hm hg)
theorem tCons {P2 : List D → Prop} (ha : Tm B1 (fa δ) P) (hr : Tm B2 (fl δ) P2) (hb : B1 + B2 ≤ B) : Tm B (dCons fa fl δ) (fun ds => ∃ x r, ds = x :: r ∧ P x ∧ P2 r) :=
  Tm.bind ha (fun x hx => Tm.bind (B2 := 0) hr (fun r hr => Tm.ret ⟨x, r, rfl, hx, hr⟩) (Nat.le_refl _)) hb
theorem tNil : Tm B (dNil δ) (fun ds => ds = []) := Tm.of Rt.nil rfl
theorem tIfT {t : List Sl → W Bool} {S : Out → Prop} (ht : Rt (t δ) true) (hg : Tm B (g δ) S) : Tm B (dIf t g h δ) S := Tm.bindR ht hg
theorem tIfF {t : List Sl → W Bool} {S : Out → Prop} (ht : Rt (t δ) false) (hg : Tm B (h δ) S) : Tm B (dIf t g h δ) S := Tm.bindR ht hg
theorem tSeqF {t : List Sl → W Bool} {S : Out → Prop} (ht : Rt (t δ) false) (hh : Tm B (h δ) S) : Tm B (dSeq (dIf t g dNext) h δ) S := Tm.bindR (Rt.ifF ht Rt.next) hh
theorem tSeqT' {t : List Sl → W Bool} {S : Out → Prop} (ht : Rt (t δ) true) (hg : Tm B (g δ) (fun o => ∃ d, o = .rt d ∧ S o)) : Tm B (dSeq (dIf t g dNext) h δ) S :=
  Tm.bind (B2 := 0) (tIfT ht hg) (fun o ho => by obtain ⟨d, rfl, hs⟩ := ho; exact Tm.ret hs) (Nat.le_refl _)
end
/-! ### pick -/
theorem ixS {x : Str} {k : Int} {c : Nat} (h : x.length ≤ 4000) (e : atI x.cps.toList k = some c) : Rt (ixD (.str x) (.int k)) (.str ⟨#[c]⟩) := Rt.need (small h) (by rw [e]; exact Rt.ret)
theorem pick_s {x : Str} (h1 : 1 ≤ x.length) (h : x.length ≤ 4000) : Tm 1 (g__law_pick [.pen, .str x]) (fun d => ∃ c ∈ x.cps.toList, d = .str ⟨#[c]⟩) := by
  refine tBody (tRet (P := fun d => ∃ c ∈ x.cps.toList, d = .str ⟨#[c]⟩) ?_ fun d hd => ⟨d, rfl, hd⟩)
  refine Tm.bindR (Rt.var rfl) (Tm.bind (B2 := 0) (tCall (Rt.cons (Rt.var rfl) (Rt.cons (Rt.opn (Rt.cons (Rt.var rfl) Rt.nil) (len_s h)) Rt.nil)) rfl (draw_t (by omega) (by omega))) (fun d hd => ?_) (Nat.le_refl _))
  obtain ⟨i, rfl, i0, i1⟩ := hd
  obtain ⟨c, hc, hc2⟩ := atI_in (xs := x.cps.toList) i0 (by rw [← len_cps]; exact i1)
  exact Tm.of (ixS h hc) ⟨c, List.mem_of_getElem? hc2, rfl⟩
theorem pick_l {xs : List D} (h1 : 1 ≤ xs.length) (h : xs.length ≤ 4000) : Tm 1 (g__law_pick [.pen, .lst xs]) (fun d => d ∈ xs) := by
  refine tBody (tRet (P := fun d => d ∈ xs) ?_ fun d hd => ⟨d, rfl, hd⟩)
  refine Tm.bindR (Rt.var rfl) (Tm.bind (B2 := 0) (tCall (Rt.cons (Rt.var rfl) (Rt.cons (Rt.opn (Rt.cons (Rt.var rfl) Rt.nil) Rt.ret) Rt.nil)) rfl (draw_t (by omega) (by omega))) (fun d hd => ?_) (Nat.le_refl _))
  obtain ⟨i, rfl, i0, i1⟩ := hd
  obtain ⟨c, hc, hc2⟩ := atI_in (xs := xs) i0 i1
  exact Tm.of (Rt.ixL hc) (List.mem_of_getElem? hc2)
/-! ### rows -/
def sgns (x : Str) (S : List Nat) : Prop := ∀ c ∈ x.cps.toList, c ∈ S
theorem txts_map (l : List Str) : txts (l.map D.str) = some l := by
  induction l with
  | nil => rfl
  | cons x r ih => show (txts (r.map D.str)).map (x :: ·) = _; rw [ih]; rfl
theorem fold_cps : ∀ (l : List Str) (acc : Array Nat), (l.foldl (fun acc p => acc ++ (#[] : Array Nat) ++ p.cps) acc).toList = acc.toList ++ l.flatMap fun x => x.cps.toList
  | [], acc => by simp
  | x :: r, acc => by rw [List.foldl_cons, fold_cps r]; simp
theorem glued_cps (l : List Str) : (Txt.join "" l).cps.toList = l.flatMap fun x => x.cps.toList := by
  have h0 : ("" : Str).cps = #[] := by decide +kernel
  show ((l.drop 1).foldl (fun acc p => acc ++ ("" : Str).cps ++ p.cps) (l.headD Str.empty).cps).toList = _
  rw [h0, fold_cps]
  cases l with
  | nil => rfl
  | cons x r => simp
theorem singles {ys : List D} {S : List Nat} (h : ∀ y ∈ ys, ∃ c ∈ S, y = .str ⟨#[c]⟩) : ∃ cs : List Nat, ys = cs.map (fun c => .str ⟨#[c]⟩) ∧ ∀ c ∈ cs, c ∈ S := by
  induction ys with
  | nil => exact ⟨[], rfl, fun c z => nomatch z⟩
  | cons y r ih =>
    obtain ⟨c, hc, rfl⟩ := h y List.mem_cons_self
    obtain ⟨cs, rfl, hcs⟩ := ih fun z hz => h z (List.mem_cons_of_mem _ hz)
    refine ⟨c :: cs, rfl, fun z hz => ?_⟩
    rcases List.mem_cons.mp hz with rfl | hz
    · exact hc
    · exact hcs z hz
theorem join_r {cs : List Nat} (h : cs.length ≤ 4000) : Rt (joinD "" [.lst (cs.map fun c => .str ⟨#[c]⟩)]) (.str ⟨cs.toArray⟩) := by
  have e : (cs.map fun c => D.str ⟨#[c]⟩) = (cs.map fun c => (⟨#[c]⟩ : Str)).map D.str := by rw [List.map_map]; rfl
  rw [e]
  show Rt (match txts ((cs.map fun c => (⟨#[c]⟩ : Str)).map D.str) with | some ys => W.need ((ys.map (·.length)).sum + ys.length * ("" : Str).length ≤ 16777216) (W.ret (D.str (Txt.join "" ys))) | none => W.stuck) _
  rw [txts_map]
  have hs : ((cs.map fun c => (⟨#[c]⟩ : Str)).map (·.length)).sum = cs.length := by
    rw [List.map_map]
    induction cs with
    | nil => rfl
    | cons c r ih => rw [List.map_cons, List.sum_cons, ih (by rw [List.length_cons] at h; omega) (by rw [List.map_map]; rfl)]; show 1 + r.length = _; rw [List.length_cons]; omega
  have h0 : ("" : Str).length = 0 := by decide +kernel
  refine Rt.need (by rw [hs, h0]; omega) (Rt.ret.cast (congrArg D.str ?_))
  have hg := glued_cps (cs.map fun c => (⟨#[c]⟩ : Str))
  have hc : ((cs.map fun c => (⟨#[c]⟩ : Str)).flatMap fun x => x.cps.toList) = cs := by
    rw [List.flatMap_map]
    simp
  rw [hc] at hg
  have : (Txt.join "" (cs.map fun c => (⟨#[c]⟩ : Str))).cps = cs.toArray := by
    apply Array.toList_inj.mp
    rw [hg]
  exact congrArg Str.mk this
theorem row_t {s : Str} {lo hi : Nat} (h1 : 1 ≤ s.length) (hs : s.length ≤ 100) (hl : lo ≤ hi) (hh : hi ≤ 100) : Tm (1 + hi) (g__law_row [.pen, .str s, .int lo, .int hi]) (fun d => ∃ x : Str, d = .str x ∧ lo ≤ x.length ∧ x.length ≤ hi ∧ sgns x s.cps.toList) := by
  refine tBody (tAsg (P := fun d => ∃ n : Nat, d = .int n ∧ lo ≤ n ∧ n ≤ hi) (B1 := 1) (B2 := hi) ?_ (fun d hd => ?_) (Nat.le_refl _))
  · refine Tm.bindR (Rt.var rfl) (Tm.bind (B2 := 0) (tCall (Rt.cons (Rt.var rfl) (Rt.cons (Rt.op2 (Rt.op2 (Rt.var rfl) (Rt.var rfl) Rt.ret) Rt.cC Rt.ret) Rt.nil)) rfl (draw_t (by omega) (by omega))) (fun d hd => ?_) (Nat.le_refl _))
    obtain ⟨i, rfl, i0, i1⟩ := hd
    exact Tm.of Rt.ret ⟨lo + i.toNat, congrArg D.int (by omega), by omega, by omega⟩
  · obtain ⟨n, rfl, n0, n1⟩ := hd
    refine tRet (P := fun d => ∃ x : Str, d = .str x ∧ lo ≤ x.length ∧ x.length ≤ hi ∧ sgns x s.cps.toList) ?_ fun d hd => ⟨d, rfl, hd⟩
    refine Tm.bindR Rt.cC (Tm.bind (B1 := hi) (B2 := 0) (Q := fun ds => ∃ cs : List Nat, ds = [.lst (cs.map fun c => .str ⟨#[c]⟩)] ∧ cs.length = n ∧ ∀ c ∈ cs, c ∈ s.cps.toList) ?_ (fun ds hds => ?_) (Nat.le_refl _))
    · refine Tm.bind (B1 := hi) (B2 := 0) (Q := fun d => ∃ cs : List Nat, d = .lst (cs.map fun c => .str ⟨#[c]⟩) ∧ cs.length = n ∧ ∀ c ∈ cs, c ∈ s.cps.toList) ?_ (fun d hd => ?_) (Nat.le_refl _)
      · refine Tm.bindR (rIR (Rt.cons (Rt.var rfl) Rt.nil) (by omega) (by omega)) ?_
        refine Tm.bind (B2 := 0) ((lcD_t (B := 1) (P := fun d => ∃ c ∈ s.cps.toList, d = .str ⟨#[c]⟩) _ 0 ?_ (fun _ _ => Rt.ret) (fun d hd => ?_)).mono ?_ (fun _ z => z)) (fun ys hys => ?_) (Nat.le_refl _)
        · rw [rangeD_len]; exact small (by omega)
        · exact tCall (Rt.cons (Rt.var rfl) (Rt.cons (Rt.var rfl) Rt.nil)) rfl (pick_s h1 (by omega))
        · rw [rangeD_len]; omega
        · obtain ⟨cs, rfl, hcs⟩ := singles hys.2
          rw [rangeD_len, List.length_map] at hys
          exact Tm.ret ⟨cs, rfl, by omega, hcs⟩
      · obtain ⟨cs, rfl, h2, h3⟩ := hd
        exact Tm.of (Rt.bind Rt.nil Rt.ret) ⟨cs, rfl, h2, h3⟩
    · obtain ⟨cs, rfl, h2, h3⟩ := hds
      refine Tm.of (join_r (by omega)) ⟨⟨cs.toArray⟩, rfl, ?_, ?_, h3⟩
      · show lo ≤ (⟨cs.toArray⟩ : Str).length; rw [len_cps]; show lo ≤ cs.length; omega
      · show (⟨cs.toArray⟩ : Str).length ≤ hi; rw [len_cps]; show cs.length ≤ hi; omega
/-! ### few -/
structure good (s : Str) : Prop where
  one : 1 ≤ s.length
  few : s.length ≤ 3
  let_ : lets s
  nd : s.cps.toList.Nodup
theorem good_of (s : Str) (h : (decide (1 ≤ s.length) && (decide (s.length ≤ 3) && ((s.cps.toList.all fun c => decide (c ∈ LET.cps.toList)) && decide (s.cps.toList.Nodup)))) = true) : good s := by
  simp only [Bool.and_eq_true, decide_eq_true_eq, List.all_eq_true] at h
  exact ⟨h.1, h.2.1, h.2.2.1, h.2.2.2⟩
abbrev SQ : Str := " !\"#$&'()*+,-./0123456789:;<=>?@ABCDEFGHIJKLMNOPQRSTUVWXYZ[\\]^_`abcdefghijklmnoprstuvwxyz{|}~"
theorem SQ_ok : (SQ.cps.toList.all fun c => decide (c ∈ LET.cps.toList)) = true := by decide +kernel
theorem yz_ok : (("yz" : Str).cps.toList.all fun c => decide (c ∈ LET.cps.toList) && decide (c ≠ 40)) = true := by decide +kernel
theorem pa_ok : (("(" : Str).cps.toList.all fun c => decide (c = 40)) = true := by decide +kernel
theorem l40 : (40 : Nat) ∈ LET.cps.toList := by decide +kernel
def sg (c : Nat) : D := .str ⟨#[c]⟩
theorem sg_inj {a b : Nat} : ((⟨#[a]⟩ : Str) == ⟨#[b]⟩) = decide (a = b) := by
  rw [Bool.eq_iff_iff, beq_iff_eq, decide_eq_true_iff]
  constructor
  · intro h
    have : (#[a] : Array Nat) = #[b] := congrArg Str.cps h
    simpa using this
  · intro h; rw [h]
theorem notIn {x : Nat} {ys : List Nat} : Rt (inD true (sg x) (.lst (ys.map sg))) (.bl (!decide (x ∈ ys))) := by
  have e : (ys.map sg).all flatD = true := by rw [List.all_map]; exact List.all_eq_true.mpr fun _ _ => rfl
  refine Rt.need ⟨rfl, e⟩ (Rt.ret.cast (congrArg D.bl ?_))
  show (!inF (sg x) (ys.map sg)) = _
  congr 1
  unfold inF
  rw [List.any_map, Bool.eq_iff_iff, List.any_eq_true, decide_eq_true_iff]
  constructor
  · rintro ⟨y, hy, h⟩
    have h2 : ((⟨#[y]⟩ : Str) == ⟨#[x]⟩) = true := h
    rw [sg_inj, decide_eq_true_iff] at h2
    rw [← h2]; exact hy
  · intro h
    exact ⟨x, h, beq_self_eq_true (⟨#[x]⟩ : Str)⟩
theorem cutL_to {α : Type} (xs : List α) (m : Nat) : cutL xs none (some (m : Int)) = xs.take m := by
  unfold cutL
  rw [HT.sIx_none, HT.sIx_nat, Nat.sub_zero, List.drop_zero, List.take_eq_take_iff]
  omega
def rare (l : List Nat) : List Nat := ((List.range 3).filter fun i => !decide ((l[i]?).getD 0 ∈ l.take i)).map fun i => (l[i]?).getD 0
theorem rare_r (a b c : Nat) : Rt (dMs joinD (dC (.str ("" : Str))) (dCons (dLc (dIR1 (dCons (dC (.int 3)) dNil)) (dName 3) (dTest (dOp2 (inD true) (dOp2 ixD (dVar 1) (dVar 3)) (dSl (dVar 1) dNoPart (dPart (dVar 3))))) (dOp2 ixD (dVar 1) (dVar 3)) [3]) dNil) [.val .pen, .val (.lst ([a, b, c].map sg)), .un, .un]) (.str ⟨(rare [a, b, c]).toArray⟩) := by
  have at_ : ∀ i : Nat, i < 3 → atI ([a, b, c].map sg) (0 + (i : Int)) = some (sg (([a, b, c][i]?).getD 0)) := fun i hi => by
    have : i = 0 ∨ i = 1 ∨ i = 2 := by omega
    rcases this with rfl | rfl | rfl <;> rfl
  have lc : Rt (lcD (dName 3) (dTest (dOp2 (inD true) (dOp2 ixD (dVar 1) (dVar 3)) (dSl (dVar 1) dNoPart (dPart (dVar 3))))) (dOp2 ixD (dVar 1) (dVar 3)) (wipeD [.val .pen, .val (.lst ([a, b, c].map sg)), .un, .un] [3]) (rangeD 0 (3 : Int).toNat) 0) ((rare [a, b, c]).map sg) := by
    rw [rangeD_eq]
    refine (lcM (fun (i : Nat) => D.int (0 + i)) (fun i => !decide (([a, b, c][i]?).getD 0 ∈ [a, b, c].take i)) (fun i => sg (([a, b, c][i]?).getD 0)) (List.range 3) 0 (small (show 0 + 3 ≤ 4000 by decide)) (fun i hi => ?_) (fun i hi _ => ?_)).cast (by unfold rare; rw [List.map_map]; rfl)
    · have hi : i < 3 := List.mem_range.mp hi
      refine Rt.test (Rt.op2 (Rt.op2 (Rt.var rfl) (Rt.var rfl) (Rt.ixL (at_ i hi))) ((Rt.sl (Rt.var rfl) Rt.noPart (Rt.part (Rt.var rfl)) Rt.ret).cast ?_) notIn)
      rw [show (0 : Int) + (i : Int) = (i : Int) by omega, cutL_to, List.map_take]
    · have hi : i < 3 := List.mem_range.mp hi
      exact Rt.op2 (Rt.var rfl) (Rt.var rfl) (Rt.ixL (at_ i hi))
  have hlen : (rare [a, b, c]).length ≤ 3 := by
    unfold rare
    rw [List.length_map]
    exact Nat.le_trans (List.length_filter_le _ _) (Nat.le_of_eq (by rfl))
  exact Rt.ms Rt.cC (Rt.cons (rLc (rIR (Rt.cons Rt.cC Rt.nil) (by decide) (by decide)) lc) Rt.nil) (join_r (by omega))
theorem rare_good {a b : Nat} (ha : a ∈ LET.cps.toList) (hb : b ∈ LET.cps.toList) (hb2 : b ≠ 40) : good ⟨(rare [a, b, 40]).toArray⟩ := by
  have e : rare [a, b, 40] = if a = b then [a, 40] else if a = 40 then [a, b] else [a, b, 40] := by
    unfold rare
    have hr : List.range 3 = [0, 1, 2] := rfl
    rw [hr]
    simp only [List.filter_cons, List.filter_nil, List.getElem?_cons_zero, List.getElem?_cons_succ, Option.getD_some, List.take_zero, List.take_succ_cons, List.mem_cons, List.not_mem_nil, or_false, decide_false, Bool.not_false, if_true]
    by_cases h1 : a = b
    · subst h1
      have h3 : ¬ (40 = a) := fun z => hb2 z.symm
      simp [h3]
    · have h1' : ¬ b = a := fun z => h1 z.symm
      have h3 : ¬ (40 = b) := fun z => hb2 z.symm
      by_cases h2 : a = 40
      · subst h2; simp [h1, h1']
      · have h2' : ¬ 40 = a := fun z => h2 z.symm
        simp [h1, h1', h2, h2', h3]
  have h40 := l40
  have hl : ∀ l : List Nat, (⟨l.toArray⟩ : Str).length = l.length := fun l => len_cps _
  rw [e]
  split
  · refine ⟨by rw [hl]; simp, by rw [hl]; simp, fun c hc => ?_, ?_⟩
    · have hc : c ∈ [a, 40] := hc
      simp only [List.mem_cons, List.not_mem_nil, or_false] at hc
      rcases hc with rfl | rfl
      · exact ha
      · exact h40
    · rename_i h; subst h
      show [a, 40].Nodup
      simp [hb2]
  · split
    · refine ⟨by rw [hl]; simp, by rw [hl]; simp, fun c hc => ?_, ?_⟩
      · have hc : c ∈ [a, b] := hc
        simp only [List.mem_cons, List.not_mem_nil, or_false] at hc
        rcases hc with rfl | rfl
        · exact ha
        · exact hb
      · show [a, b].Nodup
        rename_i h _
        simp [h]
    · refine ⟨by rw [hl]; simp, by rw [hl]; simp, fun c hc => ?_, ?_⟩
      · have hc : c ∈ [a, b, 40] := hc
        simp only [List.mem_cons, List.not_mem_nil, or_false] at hc
        rcases hc with rfl | rfl | rfl
        · exact ha
        · exact hb
        · exact h40
      · show [a, b, 40].Nodup
        rename_i h h2
        simp [h, h2, hb2]
theorem few_t : Tm 4 (g__law_few [.pen]) (fun d => ∃ s : Str, d = .str s ∧ good s) := by
  refine tBody (tAsg (P := fun d => ∃ a b : Nat, d = .lst ([a, b, 40].map sg) ∧ a ∈ LET.cps.toList ∧ b ∈ LET.cps.toList ∧ b ≠ 40) (B1 := 3) (B2 := 1) ?_ (fun d hd => ?_) (Nat.le_refl _))
  · have pk : ∀ {δ : List Sl} {x : Str}, δ[0]? = some (.val .pen) → 1 ≤ x.length → x.length ≤ 4000 → Tm 1 (dCall 2 g__law_pick (dCons (dVar 0) (dCons (dC (.str x)) dNil)) δ) (fun d => ∃ c ∈ x.cps.toList, d = .str ⟨#[c]⟩) := fun e h1 h2 => tCall (Rt.cons (Rt.var e) (Rt.cons Rt.cC Rt.nil)) rfl (pick_s h1 h2)
    refine Tm.bind (B2 := 0) (tCons (B1 := 1) (B2 := 2) (pk rfl (by decide +kernel) (by decide +kernel)) (tCons (B1 := 1) (B2 := 1) (pk rfl (by decide +kernel) (by decide +kernel)) (tCons (B1 := 1) (B2 := 0) (pk rfl (by decide +kernel) (by decide +kernel)) tNil (Nat.le_refl _)) (Nat.le_refl _)) (Nat.le_refl _)) (fun ds hds => ?_) (Nat.le_refl _)
    obtain ⟨_, _, rfl, ⟨a, ha, rfl⟩, _, _, rfl, ⟨b, hb, rfl⟩, _, _, rfl, ⟨c, hc, rfl⟩, rfl⟩ := hds
    have h1 := of_decide_eq_true (List.all_eq_true.mp SQ_ok a ha)
    have h2 := List.all_eq_true.mp yz_ok b hb
    rw [Bool.and_eq_true, decide_eq_true_eq, decide_eq_true_eq] at h2
    have h3 := of_decide_eq_true (List.all_eq_true.mp pa_ok c hc)
    subst h3
    exact Tm.need (small (show 3 ≤ 4000 by decide)) (Tm.ret ⟨a, b, rfl, h1, h2.1, h2.2⟩)
  · obtain ⟨a, b, rfl, ha, hb, hb2⟩ := hd
    refine tAsgR (rare_r a b 40) (tRet (P := fun d => ∃ s : Str, d = .str s ∧ good s) ?_ fun d hd => ⟨d, rfl, hd⟩)
    refine (tCall (Rt.cons (Rt.var rfl) (Rt.cons (Rt.lst (Rt.cons Rt.cC (Rt.cons Rt.cC (Rt.cons Rt.cC (Rt.cons Rt.cC (Rt.cons Rt.cC (Rt.cons Rt.cC (Rt.cons Rt.cC (Rt.cons Rt.cC (Rt.cons (Rt.var rfl) Rt.nil))))))))) (small (show 9 ≤ 4000 by decide))) Rt.nil)) rfl (pick_l (show 1 ≤ 9 by decide) (show 9 ≤ 4000 by decide))).mono (Nat.le_refl _) fun d hd => ?_
    simp only [List.mem_cons, List.not_mem_nil, or_false] at hd
    rcases hd with rfl | rfl | rfl | rfl | rfl | rfl | rfl | rfl | rfl
    · exact ⟨_, rfl, good_of _ (by decide +kernel)⟩
    · exact ⟨_, rfl, good_of _ (by decide +kernel)⟩
    · exact ⟨_, rfl, good_of _ (by decide +kernel)⟩
    · exact ⟨_, rfl, good_of _ (by decide +kernel)⟩
    · exact ⟨_, rfl, good_of _ (by decide +kernel)⟩
    · exact ⟨_, rfl, good_of _ (by decide +kernel)⟩
    · exact ⟨_, rfl, good_of _ (by decide +kernel)⟩
    · exact ⟨_, rfl, good_of _ (by decide +kernel)⟩
    · exact ⟨_, rfl, rare_good ha hb hb2⟩
end Lw
set_option Elab.async false
set_option linter.all false
set_option maxRecDepth 100000
set_option maxHeartbeats 4000000
/-! k02, the plain law 6: goals and lines drawn. -/
namespace Lw
open PySem L2 Lx
theorem sgns_lets {x s : Str} (h : sgns x s.cps.toList) (hs : lets s) : lets x := fun c hc => hs c (h c hc)
def bg : Nat → Nat
  | 0 => 20
  | d + 1 => 20 + 2 * bg d
def Gd (d : Nat) (v : D) : Prop := ∃ g : G, v = g.enc ∧ g.wf ∧ g.dep ≤ d + 1 ∧ g.nl ≤ 2 ^ d
theorem gd_leaf {d : Nat} {g : G} (h1 : g.wf) (h2 : g.dep = 1) (h3 : g.nl = 1) : Gd d g.enc := ⟨g, rfl, h1, by omega, by rw [h3]; exact Nat.one_le_two_pow⟩
section
variable {s : Str} {w d k : Nat}
theorem ltI {δ : List Sl} {i : Nat} {a b : Int} {c : Bool} (e : δ[i]? = some (.val (.int a))) (h : decide (a < b) = c) : Rt (dTest (dOp2 ltD (dVar i) (dC (.int b))) δ) c := Rt.test ((Rt.op2 (Rt.var e) Rt.cC Rt.ret).cast (congrArg D.bl h))
theorem eqI {δ : List Sl} {i : Nat} {a b : Int} {c : Bool} (e : δ[i]? = some (.val (.int a))) (h : decide (a = b) = c) : Rt (dTest (dOp2 eqD (dVar i) (dC (.int b))) δ) c := Rt.test ((Rt.op2 (Rt.var e) Rt.cC Rt.ret).cast (congrArg D.bl h))
theorem row_c {δ : List Sl} {lo : Nat} (hs : good s) (hw : 1 ≤ w) (hw8 : w ≤ 8) (hl : lo ≤ 1) (e0 : δ[0]? = some (.val .pen)) (e1 : δ[1]? = some (.val (.str s))) (e2 : δ[2]? = some (.val (.int w))) :
    Tm 9 (dCall 4 g__law_row (dCons (dVar 0) (dCons (dVar 1) (dCons (dC (.int lo)) (dCons (dVar 2) dNil)))) δ) (fun d => ∃ x : Str, d = .str x ∧ lo ≤ x.length ∧ x.length ≤ 8 ∧ lets x) :=
  (tCall (Rt.cons (Rt.var e0) (Rt.cons (Rt.var e1) (Rt.cons Rt.cC (Rt.cons (Rt.var e2) Rt.nil)))) rfl (row_t (s := s) (lo := lo) (hi := w) hs.one (by have := hs.few; omega) (by omega) (by omega))).mono (by omega) fun d hd => by
    obtain ⟨x, h1, h2, h3, h4⟩ := hd
    exact ⟨x, h1, h2, by omega, sgns_lets h4 hs.let_⟩
theorem goal_t (hs : good s) (hw : 1 ≤ w) (hw8 : w ≤ 8) : ∀ (d k : Nat), d < k → Tm (bg d) (g__law_goal k [.pen, .str s, .int w, .int d]) (Gd d)
  | d, 0, hk => by omega
  | d, k + 1, hk => by
    have hb : 20 ≤ bg d := by cases d <;> simp only [bg] <;> omega
    have few := hs.few
    refine tBody (tAsg (P := fun v => ∃ i : Int, v = .int i ∧ 0 ≤ i ∧ i < 9 ∧ (d = 0 → i < 6)) (B1 := 1) (B2 := bg d - 1) ?_ (fun v hv => ?_) (by omega))
    · by_cases h0 : d = 0
      · subst h0
        refine Tm.bindR (Rt.test ((Rt.op2 (Rt.var rfl) Rt.cC Rt.ret).cast (congrArg D.bl (decide_eq_false (by omega))))) ?_
        refine (tCall (Rt.cons (Rt.var rfl) (Rt.cons Rt.cC Rt.nil)) rfl (draw_t (by decide) (by decide))).mono (Nat.le_refl _) fun v hv => ?_
        obtain ⟨i, rfl, i0, i1⟩ := hv
        exact ⟨i, rfl, i0, by omega, fun _ => i1⟩
      · refine Tm.bindR (Rt.test ((Rt.op2 (Rt.var rfl) Rt.cC Rt.ret).cast (congrArg D.bl (decide_eq_true (by omega))))) ?_
        refine (tCall (Rt.cons (Rt.var rfl) (Rt.cons Rt.cC Rt.nil)) rfl (draw_t (by decide) (by decide))).mono (Nat.le_refl _) fun v hv => ?_
        obtain ⟨i, rfl, i0, i1⟩ := hv
        exact ⟨i, rfl, i0, i1, fun z => absurd z h0⟩
    · obtain ⟨i, rfl, i0, i9, i6⟩ := hv
      have fin : ∀ {v : D}, Gd d v → ∃ u, Out.rt v = .rt u ∧ ∃ u', Out.rt v = .rt u' ∧ Gd d u' := fun {v} h => ⟨v, rfl, v, rfl, h⟩
      by_cases c1 : i < 3
      · refine tSeqT' (ltI rfl (decide_eq_true c1)) (tRet (P := Gd d) ?_ fun v hv => fin hv)
        refine (Tm.bind (B1 := 10) (B2 := 0) (tCons (B1 := 1) (B2 := 9) (tCall (Rt.cons (Rt.var rfl) (Rt.cons (Rt.lst (Rt.cons Rt.cC (Rt.cons Rt.cC (Rt.cons Rt.cC Rt.nil))) (small (show 3 ≤ 4000 by decide))) Rt.nil)) rfl (pick_l (show 1 ≤ 3 by decide) (show 3 ≤ 4000 by decide))) (tCons (B1 := 9) (B2 := 0) (row_c (lo := 1) hs hw hw8 (by decide) rfl rfl rfl) tNil (by omega)) (by omega)) (fun ds hds => ?_) (B := 10) (by omega)).mono (by omega) fun _ z => z
        obtain ⟨_, _, rfl, hk1, _, _, rfl, ⟨x, rfl, x1, x8, xl⟩, rfl⟩ := hds
        simp only [List.mem_cons, List.not_mem_nil, or_false] at hk1
        refine Tm.need (small (show 2 ≤ 4000 by decide)) (Tm.ret ?_)
        rcases hk1 with rfl | rfl | rfl
        · exact gd_leaf (g := .has x) ⟨xl, x1, x8⟩ rfl rfl
        · exact gd_leaf (g := .beg x) ⟨xl, x1, x8⟩ rfl rfl
        · exact gd_leaf (g := .fin x) ⟨xl, x1, x8⟩ rfl rfl
      refine tSeqF (ltI rfl (decide_eq_false c1)) ?_
      by_cases c2 : i = 3
      · refine tSeqT' (eqI rfl (decide_eq_true c2)) (tRet (P := Gd d) ?_ fun v hv => fin hv)
        refine (Tm.bind (B1 := 9) (B2 := 0) (tCons (B1 := 0) (B2 := 9) (Tm.of Rt.cC rfl) (tCons (B1 := 9) (B2 := 0) (row_c (lo := 0) hs hw hw8 (by decide) rfl rfl rfl) tNil (by omega)) (by omega)) (fun ds hds => ?_) (B := 9) (by omega)).mono (by omega) fun _ z => z
        obtain ⟨_, _, rfl, rfl, _, _, rfl, ⟨x, rfl, x1, x8, xl⟩, rfl⟩ := hds
        exact Tm.need (small (show 2 ≤ 4000 by decide)) (Tm.ret (gd_leaf (g := .iss x) ⟨xl, by omega⟩ rfl rfl))
      refine tSeqF (eqI rfl (decide_eq_false c2)) ?_
      by_cases c3 : i < 6
      · refine tSeqT' (ltI rfl (decide_eq_true c3)) (tRet (P := Gd d) ?_ fun v hv => fin hv)
        obtain ⟨c, r, hc⟩ : ∃ c r, s.cps.toList = c :: r := by
          cases h : s.cps.toList with
          | nil => have := hs.one; rw [len_cps, h] at this; exact absurd this (by decide)
          | cons c r => exact ⟨c, r, rfl⟩
        have hix : Rt (ixD (.str s) (.int 0)) (.str ⟨#[c]⟩) := ixS (by omega) (by rw [hc]; exact at0 c r)
        have cut : ∀ m : Nat, m ≤ 2 → (G.only ⟨(s.cps.toList.take m).toArray⟩).wf := fun m hm => ⟨fun c hc => hs.let_ c (List.mem_of_mem_take hc), by rw [len_cps]; show (s.cps.toList.take m).length ≤ 20; rw [List.length_take]; omega, hs.nd.sublist (List.take_sublist _ _)⟩
        refine (tCall (Rt.cons (Rt.var rfl) (Rt.cons (Rt.lst (Rt.cons (Rt.tup (Rt.cons Rt.cC (Rt.cons (Rt.sl (Rt.var rfl) Rt.noPart (Rt.part Rt.cC) (slS (by omega))) Rt.nil)) (small (show 2 ≤ 4000 by decide))) (Rt.cons (Rt.tup (Rt.cons Rt.cC (Rt.cons (Rt.sl (Rt.var rfl) Rt.noPart (Rt.part Rt.cC) (slS (by omega))) Rt.nil)) (small (show 2 ≤ 4000 by decide)))
          (Rt.cons (Rt.tup (Rt.cons Rt.cC (Rt.cons Rt.cC Rt.nil)) (small (show 2 ≤ 4000 by decide))) (Rt.cons (Rt.tup (Rt.cons Rt.cC (Rt.cons (Rt.op2 (Rt.var rfl) Rt.cC hix) Rt.nil)) (small (show 2 ≤ 4000 by decide))) Rt.nil)))) (small (show 4 ≤ 4000 by decide))) Rt.nil)) rfl (pick_l (show 1 ≤ 4 by decide) (show 4 ≤ 4000 by decide))).mono (by omega) fun v hv => ?_
        simp only [List.mem_cons, List.not_mem_nil, or_false] at hv
        rcases hv with rfl | rfl | rfl | rfl
        · rw [show (1 : Int) = ((1 : Nat) : Int) from rfl, cut_to]; exact gd_leaf (g := .only _) (cut 1 (by decide)) rfl rfl
        · rw [show (2 : Int) = ((2 : Nat) : Int) from rfl, cut_to]; exact gd_leaf (g := .only _) (cut 2 (by decide)) rfl rfl
        · have e0 : ("" : Str).cps.toList = [] := by decide +kernel
          have hwf : (G.only "").wf := ⟨fun c hc => (by rw [e0] at hc; exact absurd hc (by simp)), by decide +kernel, by rw [e0]; exact List.nodup_nil⟩
          exact gd_leaf (g := .only "") hwf rfl rfl
        · exact gd_leaf (g := .has ⟨#[c]⟩) ⟨fun z hz => by have : z ∈ [c] := hz; rw [List.mem_singleton.mp this]; exact hs.let_ c (by rw [hc]; exact List.mem_cons_self), by rw [len_cps]; exact Nat.le_refl _, by rw [len_cps]; exact (by decide : 1 ≤ 8)⟩ rfl rfl
      refine tSeqF (ltI rfl (decide_eq_false c3)) ?_
      obtain ⟨d, rfl⟩ : ∃ e, d = e + 1 := ⟨d - 1, by
        have : d ≠ 0 := fun z => c3 (i6 z)
        omega⟩
      have ih := goal_t hs hw hw8 d k (by omega)
      have bgd : bg (d + 1) = 20 + 2 * bg d := rfl
      have rec_ : ∀ {δ : List Sl}, δ[0]? = some (.val .pen) → δ[1]? = some (.val (.str s)) → δ[2]? = some (.val (.int w)) → δ[3]? = some (.val (.int ((d + 1 : Nat) : Int))) → Tm (bg d) (dCall 4 ((fun _ => g__law_goal k) k) (dCons (dVar 0) (dCons (dVar 1) (dCons (dVar 2) (dCons (dOp2 subD (dVar 3) (dC (.int 1))) dNil)))) δ) (Gd d) :=
        fun e0 e1 e2 e3 => tCall (Rt.cons (Rt.var e0) (Rt.cons (Rt.var e1) (Rt.cons (Rt.var e2) (Rt.cons ((Rt.op2 (Rt.var e3) Rt.cC Rt.ret).cast (a' := .int (d : Int)) (congrArg D.int (by omega))) Rt.nil)))) rfl ih
      by_cases c4 : i = 6
      · refine tSeqT' (eqI rfl (decide_eq_true c4)) (tRet (P := Gd (d + 1)) ?_ fun v hv => fin hv)
        refine (Tm.bind (B1 := bg d) (B2 := 0) (tCons (B1 := 0) (B2 := bg d) (Tm.of Rt.cC rfl) (tCons (B1 := bg d) (B2 := 0) (rec_ rfl rfl rfl rfl) tNil (by omega)) (by omega)) (fun ds hds => ?_) (B := bg d) (by omega)).mono (by omega) fun _ z => z
        obtain ⟨_, _, rfl, rfl, _, _, rfl, ⟨g, rfl, gw, gd, gn⟩, rfl⟩ := hds
        refine Tm.need (small (show 2 ≤ 4000 by decide)) (Tm.ret ⟨.fails g, rfl, gw, ?_, ?_⟩)
        · simp only [G.dep]; omega
        · simp only [G.nl, Nat.pow_succ]; omega
      refine tSeqF (eqI rfl (decide_eq_false c4)) ?_
      refine tAsg (P := Gd d) (B1 := bg d) (B2 := bg d + 1) (rec_ rfl rfl rfl rfl) (fun v hv => ?_) (by omega)
      obtain ⟨g, rfl, gw, gd, gn⟩ := hv
      refine tRet (P := Gd (d + 1)) ?_ fun v hv => ⟨v, rfl, hv⟩
      refine Tm.bind (B1 := bg d + 1) (B2 := 0) (tCons (B1 := 1) (B2 := bg d) (tCall (Rt.cons (Rt.var rfl) (Rt.cons (Rt.lst (Rt.cons Rt.cC (Rt.cons Rt.cC Rt.nil)) (small (show 2 ≤ 4000 by decide))) Rt.nil)) rfl (pick_l (show 1 ≤ 2 by decide) (show 2 ≤ 4000 by decide))) (tCons (B1 := 0) (B2 := bg d) (Tm.of (Rt.var rfl) rfl) (tCons (B1 := bg d) (B2 := 0) (rec_ rfl rfl rfl rfl) tNil (by omega)) (by omega)) (by omega)) (fun ds hds => ?_) (by omega)
      obtain ⟨_, _, rfl, hk1, _, _, rfl, rfl, _, _, rfl, ⟨h, rfl, hw', hd', hn'⟩, rfl⟩ := hds
      simp only [List.mem_cons, List.not_mem_nil, or_false] at hk1
      refine Tm.need (small (show 3 ≤ 4000 by decide)) (Tm.ret ?_)
      rcases hk1 with rfl | rfl
      · refine ⟨.both g h, rfl, ⟨gw, hw'⟩, ?_, ?_⟩
        · simp only [G.dep]; omega
        · simp only [G.nl, Nat.pow_succ]; omega
      · refine ⟨.either g h, rfl, ⟨gw, hw'⟩, ?_, ?_⟩
        · simp only [G.dep]; omega
        · simp only [G.nl, Nat.pow_succ]; omega
end
end Lw
set_option Elab.async false
set_option linter.all false
set_option maxRecDepth 100000
set_option maxHeartbeats 4000000
/-! k02, the plain law 7: lines drawn, the law. -/
namespace Lw
open PySem L2 Lx
def GG (v : D) : Prop := ∃ g : G, v = g.enc ∧ g.wf ∧ g.dep ≤ 3 ∧ g.nl ≤ 2
theorem light_t {s : Str} (hs : good s) : Tm (bg 2) (g__law_jlight [.pen, .str s, .int 2, .int 2]) GG := by
  refine tBody (tAsg (P := Gd 2) (B1 := bg 2) (B2 := 0) (tCall (Rt.cons (Rt.var rfl) (Rt.cons (Rt.var rfl) (Rt.cons (Rt.var rfl) (Rt.cons Rt.cC Rt.nil)))) rfl (goal_t (w := 2) hs (by decide) (by decide) 2 6 (by decide))) (fun v hv => ?_) (Nat.le_refl _))
  obtain ⟨g, rfl, gw, gd, gn⟩ := hv
  have gn4 : g.nl ≤ 4 := gn
  have fw := hs.few
  refine tRet (P := GG) ?_ fun v hv => ⟨v, rfl, hv⟩
  have hl : Rt (dOp2 leD (dOpn lenD (dCons (dCall 1 (g__law_jleaves 6) (dCons (dVar 4) dNil)) dNil)) (dVar 2) [.val .pen, .val (.str s), .val (.int 2), .val (.int 2), .val g.enc]) (.bl (decide (((g.lvs.map G.enc).length : Int) ≤ 2))) :=
    Rt.op2 (Rt.opn (Rt.cons (Rt.call (Rt.cons (Rt.var rfl) Rt.nil) rfl (jl_r 6 g (by omega) (by omega))) Rt.nil) Rt.ret) (Rt.var rfl) Rt.ret
  rw [List.length_map, lvs_len] at hl
  by_cases h2 : g.nl ≤ 2
  · exact Tm.bindR (Rt.test (hl.cast (congrArg D.bl (decide_eq_true (by omega))))) (Tm.of (Rt.var rfl) ⟨g, rfl, gw, gd, h2⟩)
  · refine Tm.bindR (Rt.test (hl.cast (congrArg D.bl (decide_eq_false (by omega))))) (Tm.of (Rt.tup (Rt.cons Rt.cC (Rt.cons (Rt.tup (Rt.cons Rt.cC (Rt.cons (Rt.sl (Rt.var rfl) Rt.noPart (Rt.part Rt.cC) (slS (by omega))) Rt.nil)) (small (show 2 ≤ 4000 by decide))) Rt.nil)) (small (show 2 ≤ 4000 by decide))) ?_)
    refine ⟨.fails (.has (cutS s none (some 1))), rfl, ?_, (show 2 ≤ 3 by decide), (show 1 ≤ 2 by decide)⟩
    rw [show (1 : Int) = ((1 : Nat) : Int) from rfl, cut_to]
    have ho := hs.one
    rw [len_cps] at ho
    exact ⟨fun c hc => hs.let_ c (List.mem_of_mem_take hc), by rw [len_cps]; show 1 ≤ (s.cps.toList.take 1).length; rw [List.length_take]; omega, by rw [len_cps]; show (s.cps.toList.take 1).length ≤ 8; rw [List.length_take]; omega⟩
/-! ### lines -/
def wd (x : Str) : Prop := x.length ≤ 20 ∧ asc x
theorem let_asc : (LET.cps.toList.all fun c => decide (c < 128)) = true := by decide +kernel
theorem lets_asc {x : Str} (h : lets x) : asc x := fun c hc => of_decide_eq_true (List.all_eq_true.mp let_asc c (h c hc))
theorem app_cps (x y : Str) : (x ++ y).cps.toList = x.cps.toList ++ y.cps.toList := by
  show (x.cps ++ y.cps).toList = _
  simp
theorem app_len (x y : Str) : (x ++ y).length = x.length + y.length := by rw [len_cps, app_cps, List.length_append, ← len_cps, ← len_cps]
theorem asc_app {x y : Str} (hx : asc x) (hy : asc y) : asc (x ++ y) := fun c hc => by
  rw [app_cps] at hc
  rcases List.mem_append.mp hc with h | h
  · exact hx c h
  · exact hy c h
theorem wd_to {x : Str} (h : wd x) (m : Nat) : wd ⟨(x.cps.toList.take m).toArray⟩ := ⟨by rw [len_cps]; show (x.cps.toList.take m).length ≤ 20; rw [List.length_take, ← len_cps]; have := h.1; omega, fun c hc => h.2 c (List.mem_of_mem_take hc)⟩
theorem wd_from {x : Str} (h : wd x) (m : Nat) : wd ⟨(x.cps.toList.drop m).toArray⟩ := ⟨by rw [len_cps]; show (x.cps.toList.drop m).length ≤ 20; rw [List.length_drop, ← len_cps]; have := h.1; omega, fun c hc => h.2 c (List.mem_of_mem_drop hc)⟩
theorem add_s {x y : Str} (h : x.length + y.length ≤ 4000) : Rt (addD (.str x) (.str y)) (.str (x ++ y)) := Rt.need (small h) Rt.ret
theorem line_t {s : Str} {ws : List Str} (hs : good s) (hw : ∀ x ∈ ws, wd x) (hl : ws.length ≤ 100) : Tm 40 (g__law_jline [.pen, .lst (ws.map D.str), .str s, .int 12]) (fun d => ∃ x : Str, d = .str x ∧ x.length ≤ 12 ∧ asc x) := by
  have fw := hs.few
  have sw : wd s := ⟨by omega, lets_asc hs.let_⟩
  refine tBody (tAsgR Rt.cC ?_)
  refine Tm.bind (B1 := 33) (B2 := 0) (Q := fun o => ∃ f a b c, o = .nx [.val .pen, .val (.lst (ws.map D.str)), .val (.str s), .val (.int 12), .val (.str f), a, b, c] ∧ f.length ≤ 1000 ∧ asc f) ?_ (fun o ho => ?_) (by decide)
  · refine Tm.bind (B1 := 1) (B2 := 32) (Q := fun ds => ∃ n : Nat, n ≤ 4 ∧ ds = rangeD 0 n) ?_ (fun ds hds => ?_) (by decide)
    · refine Tm.bind (B1 := 1) (B2 := 0) (tCons (B1 := 1) (B2 := 0) (tCall (Rt.cons (Rt.var rfl) (Rt.cons Rt.cC Rt.nil)) rfl (draw_t (by decide) (by decide))) tNil (by decide)) (fun ds hds => ?_) (by decide)
      obtain ⟨_, _, rfl, ⟨i, rfl, i0, i1⟩, rfl⟩ := hds
      exact Tm.need ⟨by omega, by omega⟩ (Tm.ret ⟨i.toNat, by omega, rfl⟩)
    · obtain ⟨n, hn, rfl⟩ := hds
      refine (forD_t (B := 8) (I := fun r δ => ∃ f a b c, δ = [.val .pen, .val (.lst (ws.map D.str)), .val (.str s), .val (.int 12), .val (.str f), a, b, c] ∧ f.length + 30 * r.length ≤ 1000 ∧ asc f) _ _ ⟨"", .un, .un, .un, rfl, ?_, ?_⟩ (fun d r δ hI => ?_)).mono ?_ (fun o ho => ?_)
      · rw [rangeD_len, show ("" : Str).length = 0 by decide +kernel]; omega
      · intro c hc
        have e0 : ("" : Str).cps.toList = [] := by decide +kernel
        rw [e0] at hc; cases hc
      · obtain ⟨f, a, b, c, rfl, hf, fa⟩ := hI
        rw [List.length_cons] at hf
        refine Tm.bindR Rt.ret ?_
        refine tAsg (P := fun d => ∃ x : Str, d = .str x ∧ wd x) (B1 := 1) (B2 := 7) ?_ (fun v hv => ?_) (by decide)
        · have hlist : Rt (dOp2 addD (dOpn listD (dCons (dVar 1) dNil)) (dLst (dCons (dVar 2) dNil)) [.val .pen, .val (.lst (ws.map D.str)), .val (.str s), .val (.int 12), .val (.str f), .val d, b, c]) (.lst ((ws ++ [s]).map D.str)) := by
            refine Rt.op2 (Rt.opn (Rt.cons (Rt.var rfl) Rt.nil) Rt.ret) (Rt.lst (Rt.cons (Rt.var rfl) Rt.nil) (small (show 1 ≤ 4000 by decide))) (Rt.need ?_ (Rt.ret.cast (by rw [List.map_append]; rfl)))
            rw [List.length_map]; exact small (show ws.length + 1 ≤ 4000 by omega)
          refine (tCall (Rt.cons (Rt.var rfl) (Rt.cons hlist Rt.nil)) rfl (pick_l (by rw [List.length_map, List.length_append]; show 1 ≤ ws.length + 1; omega) (by rw [List.length_map, List.length_append]; show ws.length + 1 ≤ 4000; omega))).mono (by decide) fun v hv => ?_
          obtain ⟨x, hx, rfl⟩ := List.mem_map.mp hv
          rcases List.mem_append.mp hx with h | h
          · exact ⟨x, rfl, hw x h⟩
          · rw [List.mem_singleton.mp h]; exact ⟨s, rfl, sw⟩
        · obtain ⟨x, rfl, xw⟩ := hv
          have x8 := xw.1
          refine tAsg (P := fun d => ∃ i : Nat, d = .int i) (B1 := 1) (B2 := 6) ?_ (fun v hv => ?_) (by decide)
          · refine (tCall (Rt.cons (Rt.var rfl) (Rt.cons (Rt.op2 (Rt.opn (Rt.cons (Rt.var rfl) Rt.nil) (len_s (by omega))) Rt.cC Rt.ret) Rt.nil)) rfl (draw_t (by omega) (by omega))).mono (by decide) fun v hv => ?_
            obtain ⟨i, rfl, i0, i1⟩ := hv
            exact ⟨i.toNat, congrArg D.int (by omega)⟩
          · obtain ⟨i, rfl⟩ := hv
            refine Tm.bind (B1 := 5) (B2 := 0) (Q := fun d => ∃ y : Str, d = .str (f ++ y) ∧ wd y) ?_ (fun v hv => ?_) (by decide)
            · refine Tm.bindR (Rt.var rfl) (Tm.bind (B1 := 5) (B2 := 0) (Q := fun d => ∃ y : Str, d = .str y ∧ wd y) ?_ (fun v hv => ?_) (by decide))
              · refine Tm.bind (B1 := 4) (B2 := 1) (Q := fun ds => ∃ y : Str, wd y ∧ ds = [.pen, .lst [.str x, .str (cutS x none (some (i : Int))), .str (cutS x (some (i : Int)) none), .str y]]) ?_ (fun ds hds => ?_) (by decide)
                · refine Tm.bindR (Rt.var rfl) (Tm.bind (B1 := 4) (B2 := 0) (Q := fun ds => ∃ y : Str, wd y ∧ ds = [.lst [.str x, .str (cutS x none (some (i : Int))), .str (cutS x (some (i : Int)) none), .str y]]) ?_ (fun ds hds => ?_) (by decide))
                  · refine Tm.bind (B1 := 4) (B2 := 0) (Q := fun d => ∃ y : Str, wd y ∧ d = .lst [.str x, .str (cutS x none (some (i : Int))), .str (cutS x (some (i : Int)) none), .str y]) ?_ (fun v hv => ?_) (by decide)
                    · refine Tm.bind (B1 := 4) (B2 := 0) (tCons (B1 := 0) (B2 := 4) (Tm.of (Rt.var rfl) rfl) (tCons (B1 := 0) (B2 := 4) (Tm.of (Rt.sl (Rt.var rfl) Rt.noPart (Rt.part (Rt.var rfl)) (slS (by omega))) rfl) (tCons (B1 := 0) (B2 := 4) (Tm.of (Rt.sl (Rt.var rfl) (Rt.part (Rt.var rfl)) Rt.noPart (slS (by omega))) rfl) (tCons (B1 := 4) (B2 := 0) (P := fun d => ∃ y : Str, d = .str y ∧ wd y) ?_ tNil (by decide)) (by decide)) (by decide)) (by decide)) (fun ds hds => ?_) (by decide)
                      · have hq : ("q" : Str).length = 1 := by decide +kernel
                        have hqa : asc "q" := fun c hc => by
                          have e0 : ("q" : Str).cps.toList = [113] := by decide +kernel
                          rw [e0] at hc; rw [List.mem_singleton.mp hc]; decide
                        refine (tCall (Rt.cons (Rt.var rfl) (Rt.cons (Rt.op2 (Rt.var rfl) Rt.cC (add_s (by omega))) (Rt.cons Rt.cC (Rt.cons Rt.cC Rt.nil)))) rfl (row_t (s := s ++ "q") (lo := 0) (hi := 2) (by rw [app_len]; omega) (by rw [app_len]; omega) (by decide) (by decide))).mono (by decide) fun v hv => ?_
                        obtain ⟨y, rfl, _, y2, ys⟩ := hv
                        exact ⟨y, rfl, by omega, fun c hc => asc_app sw.2 hqa c (ys c hc)⟩
                      · obtain ⟨_, _, rfl, rfl, _, _, rfl, rfl, _, _, rfl, rfl, _, _, rfl, ⟨y, rfl, yw⟩, rfl⟩ := hds
                        exact Tm.need (small (show 4 ≤ 4000 by decide)) (Tm.ret ⟨y, yw, rfl⟩)
                    · obtain ⟨y, yw, rfl⟩ := hv
                      exact Tm.of (Rt.bind Rt.nil Rt.ret) ⟨y, yw, rfl⟩
                  · obtain ⟨y, yw, rfl⟩ := hds
                    exact Tm.ret ⟨y, yw, rfl⟩
                · obtain ⟨y, yw, rfl⟩ := hds
                  refine Tm.need rfl ((pick_l (xs := [.str x, .str (cutS x none (some (i : Int))), .str (cutS x (some (i : Int)) none), .str y]) (show 1 ≤ 4 by decide) (show 4 ≤ 4000 by decide)).mono (by decide) fun v hv => ?_)
                  simp only [List.mem_cons, List.not_mem_nil, or_false] at hv
                  rcases hv with rfl | rfl | rfl | rfl
                  · exact ⟨x, rfl, xw⟩
                  · exact ⟨_, rfl, by rw [cut_to]; exact wd_to xw i⟩
                  · exact ⟨_, rfl, by rw [cut_from]; exact wd_from xw i⟩
                  · exact ⟨y, rfl, yw⟩
              · obtain ⟨y, rfl, yw⟩ := hv
                have y8 := yw.1
                exact Tm.of (add_s (by omega)) ⟨y, rfl, yw⟩
            · obtain ⟨y, rfl, yw⟩ := hv
              have y8 := yw.1
              exact Tm.of (Rt.bind Rt.ret Rt.ret) ⟨_, rfl, f ++ y, _, _, _, rfl, by rw [app_len]; omega, asc_app fa yw.2⟩
      · rw [rangeD_len]; omega
      · obtain ⟨_, rfl, f, a, b, c, rfl, hf, fa⟩ := ho
        exact ⟨f, a, b, c, rfl, by simpa using hf, fa⟩
  · obtain ⟨f, a, b, c, rfl, hf, fa⟩ := ho
    refine Tm.of (Rt.rets (Rt.sl (Rt.var rfl) Rt.noPart (Rt.part (Rt.var rfl)) (slS (by omega)))) ⟨_, rfl, _, rfl, ?_, ?_⟩
    · rw [show (12 : Int) = ((12 : Nat) : Int) from rfl, cut_to, len_cps]
      show (f.cps.toList.take 12).length ≤ 12
      rw [List.length_take]; omega
    · rw [show (12 : Int) = ((12 : Nat) : Int) from rfl, cut_to]
      exact fun c hc => fa c (List.mem_of_mem_take hc)
end Lw
set_option Elab.async false
set_option linter.all false
set_option maxRecDepth 100000
set_option maxHeartbeats 4000000
/-! k02, the plain law 8: plain facts of texts and lists. -/
namespace Lw
open PySem L2 Lx
theorem sw_eq (r w : Str) : Txt.startswith r w = (r.cps.toList.take w.cps.toList.length == w.cps.toList) := by
  simp only [Txt.startswith, PySem.StrLaws.subAt_eq, List.drop_zero, Nat.zero_add]
  rw [len_cps w, len_cps r]
  cases h : (r.cps.toList.take w.cps.toList.length == w.cps.toList) with
  | false => rw [Bool.and_false]
  | true =>
    rw [beq_iff_eq] at h
    have h2 := congrArg List.length h
    rw [List.length_take] at h2
    rw [Bool.and_true, decide_eq_true (by omega)]
theorem ew_eq (r w : Str) : Txt.endswith r w = (r.cps.toList.reverse.take w.cps.toList.length == w.cps.toList.reverse) := by
  simp only [Txt.endswith, PySem.StrLaws.subAt_eq, Nat.zero_add]
  rw [len_cps w, len_cps r]
  by_cases h : w.cps.toList.length ≤ r.cps.toList.length
  · rw [decide_eq_true h, Bool.true_and, List.take_reverse, List.take_of_length_le (by rw [List.length_drop]; omega)]
    rw [Bool.eq_iff_iff, beq_iff_eq, beq_iff_eq, List.reverse_inj]
  · rw [decide_eq_false h, Bool.false_and]
    symm
    rw [beq_eq_false_iff_ne]
    intro z
    have h2 := congrArg List.length z
    rw [List.length_take, List.length_reverse, List.length_reverse] at h2
    omega
theorem rev_cps (x : Str) : (revS x).cps.toList = x.cps.toList.reverse := rfl
theorem ends_rev (r w : Str) : Txt.endswith r w = Txt.startswith (revS r) (revS w) := by
  rw [ew_eq, sw_eq, rev_cps, rev_cps, List.length_reverse]
theorem is_beg (r w : Str) : decide (r = w) = (Txt.startswith r w && decide ((r.length : Int) = (w.length : Int))) := by
  rw [sw_eq, Bool.eq_iff_iff, Bool.and_eq_true, decide_eq_true_iff, decide_eq_true_iff, beq_iff_eq, len_cps, len_cps]
  constructor
  · intro h; subst h; exact ⟨List.take_length, rfl⟩
  · rintro ⟨h1, h2⟩
    rw [← (by omega : r.cps.toList.length = w.cps.toList.length), List.take_length] at h1
    cases r; cases w
    congr 1
    exact Array.toList_inj.mp h1
def rsts (r : Str) : List Str := (List.range (r.length + 1)).map fun i => ⟨(r.cps.toList.drop i).toArray⟩
theorem has_rests (r w : Str) : inS w r = !((rsts r).filter fun x => Txt.startswith x w).isEmpty := by
  rw [Bool.eq_iff_iff]
  have hf : inS w r = true ↔ ∃ i, i + w.length ≤ r.length ∧ Builtin.Str.subAt r w i = true := PySem.StrLaws.found_iff r w
  rw [hf, Bool.not_eq_true', List.isEmpty_eq_false_iff]
  constructor
  · rintro ⟨i, hi, hs⟩ z
    rw [PySem.StrLaws.subAt_eq] at hs
    have : (⟨(r.cps.toList.drop i).toArray⟩ : Str) ∈ (rsts r).filter fun x => Txt.startswith x w := List.mem_filter.mpr ⟨List.mem_map.mpr ⟨i, List.mem_range.mpr (by omega), rfl⟩, by rw [sw_eq]; rw [len_cps] at hs; exact hs⟩
    rw [z] at this; cases this
  · intro h
    obtain ⟨x, hx⟩ := List.exists_mem_of_ne_nil _ h
    obtain ⟨hm, hs⟩ := List.mem_filter.mp hx
    obtain ⟨i, hi, rfl⟩ := List.mem_map.mp hm
    have hi := List.mem_range.mp hi
    rw [sw_eq] at hs
    have hs : ((r.cps.toList.drop i).take w.cps.toList.length == w.cps.toList) = true := hs
    refine ⟨i, ?_, ?_⟩
    · rw [beq_iff_eq] at hs
      have h2 := congrArg List.length hs
      rw [List.length_take, List.length_drop] at h2
      rw [len_cps] at hi
      rw [len_cps, len_cps]
      omega
    · rw [PySem.StrLaws.subAt_eq, len_cps]; exact hs
theorem only_cut (x r : Str) (i : Nat) : (G.only x).sem r = ((G.only x).sem ⟨(r.cps.toList.take i).toArray⟩ && (G.only x).sem ⟨(r.cps.toList.drop i).toArray⟩) := by
  simp only [G.sem]
  rw [← List.all_append, List.take_append_drop]
/-! ### sets of signs -/
theorem uniq_mem : ∀ (l acc : List Nat) (c : Nat), c ∈ uniq acc l ↔ c ∈ acc ∨ c ∈ l
  | [], acc, c => by simp [uniq]
  | d :: r, acc, c => by
    unfold uniq
    split
    · rw [uniq_mem r acc c, List.mem_cons]
      constructor
      · rintro (h | h)
        · exact .inl h
        · exact .inr (.inr h)
      · rintro (h | rfl | h)
        · exact .inl h
        · exact .inl ‹_›
        · exact .inr h
    · rw [uniq_mem r (d :: acc) c, List.mem_cons, List.mem_cons]
      constructor
      · rintro ((h | h) | h)
        · exact .inr (.inl h)
        · exact .inl h
        · exact .inr (.inr h)
      · rintro (h | h | h)
        · exact .inl (.inr h)
        · exact .inl (.inl h)
        · exact .inr h
theorem uniq_nd : ∀ (l acc : List Nat), acc.Nodup → (uniq acc l).Nodup
  | [], acc, h => h
  | d :: r, acc, h => by
    unfold uniq
    split
    · exact uniq_nd r acc h
    · exact uniq_nd r (d :: acc) (List.nodup_cons.mpr ⟨‹_›, h⟩)
theorem pig : ∀ (l s : List Nat), l.Nodup → (∀ c ∈ l, c ∈ s) → l.length ≤ s.length
  | [], s, _, _ => Nat.zero_le _
  | a :: t, s, hn, hs => by
    have ha := hs a List.mem_cons_self
    have h := pig t (s.erase a) (List.nodup_cons.mp hn).2 fun c hc => (List.mem_erase_of_ne (a := c) (b := a) (fun z => (List.nodup_cons.mp hn).1 (by rw [← z]; exact hc))).mpr (hs c (List.mem_cons_of_mem _ hc))
    rw [List.length_erase_of_mem ha] at h
    have : 0 < s.length := List.length_pos_of_mem ha
    rw [List.length_cons]; omega
theorem nd_of : ∀ (s l : List Nat), l.Nodup → s.length = l.length → (∀ c ∈ l, c ∈ s) → s.Nodup
  | [], _, _, _, _ => List.nodup_nil
  | c :: r, l, hn, he, hs => by
    have hc : c ∉ r := fun z => by
      have := pig l r hn fun d hd => by
        rcases List.mem_cons.mp (hs d hd) with rfl | h
        · exact z
        · exact h
      rw [List.length_cons] at he; omega
    have hcl : c ∈ l := Classical.byContradiction fun z => by
      have := pig l r hn fun d hd => by
        rcases List.mem_cons.mp (hs d hd) with rfl | h
        · exact absurd hd z
        · exact h
      rw [List.length_cons] at he; omega
    refine List.nodup_cons.mpr ⟨hc, nd_of r (l.erase c) (hn.erase c) ?_ fun d hd => ?_⟩
    · rw [List.length_erase_of_mem hcl, ← he, List.length_cons]; omega
    · have hd2 := hn.mem_erase_iff.mp hd
      rcases List.mem_cons.mp (hs d hd2.2) with h | h
      · exact absurd h hd2.1
      · exact h
/-! ### lists of texts compared -/
theorem ok_asc {x : Str} (h : asc x) : PyData.strOk x = true := by
  show x.cps.all (· < 0x110000) = true
  rw [← Array.all_toList, List.all_eq_true]
  intro c hc
  have := h c hc
  exact decide_eq_true (by omega)
theorem shaped_strs {l : List Str} (h : ∀ x ∈ l, asc x) : SeqAt.shaped (.list (l.map .str)) = true := by
  have h1 : ∀ l : List Str, (∀ x ∈ l, asc x) → PyData.canLayAll0 (l.map .str) = true := fun l => by
    induction l with
    | nil => exact fun _ => rfl
    | cons c r ih =>
      intro h
      show (PyData.strOk c && PyData.canLayAll0 (r.map .str)) = true
      rw [ok_asc (h c List.mem_cons_self), ih fun d hd => h d (List.mem_cons_of_mem _ hd)]
      rfl
  have h3 : ∀ cs : List Str, PyData.depthAll (cs.map .str) = 0 := fun cs => by
    induction cs with
    | nil => rfl
    | cons c r ih =>
      show max (PyData.depth (.str c)) (PyData.depthAll (r.map PyData.str)) = 0
      rw [ih]; rfl
  have h2 : (PyData.list (l.map .str)).depth ≤ 64 := by
    show PyData.depthAll (l.map .str) + 1 ≤ 64
    rw [h3]
    decide
  exact Bool.and_eq_true_iff.mpr ⟨h1 l h, decide_eq_true h2⟩
theorem ne_strs {l : List Str} (h : ∀ x ∈ l, asc x) : Rt (neD (.lst (l.map D.str)) (.lst [])) (.bl (!l.isEmpty)) := by
  show Rt (match toP (.lst (l.map D.str)), toP (.lst []) with | some a, some b => W.need (SeqAt.shaped a = true ∧ SeqAt.shaped b = true) (W.ret (D.bl (!PyData.eqv a b))) | _, _ => W.stuck) _
  rw [toP_nil, toP, toPs_str]
  refine Rt.need ⟨shaped_strs h, rfl⟩ (Rt.ret.cast ?_)
  cases l <;> rfl
theorem eq_nils : Rt (eqD (.lst []) (.lst [])) (.bl true) := eq_signs (cs := []) (fun _ z => nomatch z)
end Lw
set_option Elab.async false
set_option linter.all false
set_option maxRecDepth 100000
set_option maxHeartbeats 4000000
/-! k02, the plain law: all together. -/
namespace Lw
open PySem L2 Lx
theorem leaf_ok : ∀ (g : G), g.wf → ∀ l ∈ g.lvs, lets l.txt ∧ l.txt.length ≤ 20
  | .has x, h, l, hl => by have hl : l ∈ [G.has x] := hl; rw [List.mem_singleton.mp hl]; exact ⟨h.1, Nat.le_trans h.2.2 (by decide)⟩
  | .beg x, h, l, hl => by have hl : l ∈ [G.beg x] := hl; rw [List.mem_singleton.mp hl]; exact ⟨h.1, Nat.le_trans h.2.2 (by decide)⟩
  | .fin x, h, l, hl => by have hl : l ∈ [G.fin x] := hl; rw [List.mem_singleton.mp hl]; exact ⟨h.1, Nat.le_trans h.2.2 (by decide)⟩
  | .iss x, h, l, hl => by have hl : l ∈ [G.iss x] := hl; rw [List.mem_singleton.mp hl]; exact ⟨h.1, h.2⟩
  | .only x, h, l, hl => by have hl : l ∈ [G.only x] := hl; rw [List.mem_singleton.mp hl]; exact ⟨h.1, h.2.1⟩
  | .fails g, h, l, hl => leaf_ok g h l (by simpa only [G.lvs] using hl)
  | .both a b, h, l, hl => by
    rcases List.mem_append.mp (by simpa only [G.lvs] using hl) with q | q
    · exact leaf_ok a h.1 l q
    · exact leaf_ok b h.2 l q
  | .either a b, h, l, hl => by
    rcases List.mem_append.mp (by simpa only [G.lvs] using hl) with q | q
    · exact leaf_ok a h.1 l q
    · exact leaf_ok b h.2 l q
theorem holds_o {g : G} {r : Str} {δ : List Sl} {fa : List Sl → W D} {fl : List Sl → W (List D)} (hd : g.dep ≤ 6) (hr : r.length ≤ 4000) (ha : Rt (fa δ) g.ob) (hf : Rt (fl δ) [.str r]) : Rt (dMeth "holds" 1 (tb_holds 6) fa fl δ) (.bl (g.sem r)) := holds_r 6 g r hd hr ha hf
section
variable {δ : List Sl} {f f2 : List Sl → W D} {x : Str} {g h : G}
theorem mHas (hx : (G.has x).wf) (q : Rt (f δ) (.str x)) : Rt (dMake "Has" 1 gi_Has (dCons f dNil) δ) (G.has x).ob := (make_r (Rt.cons q Rt.nil) rfl fun _ => has_i hx).cast (ob_has x).symm
theorem mBeg (hx : (G.has x).wf) (q : Rt (f δ) (.str x)) : Rt (dMake "Begins" 1 gi_Begins (dCons f dNil) δ) (G.beg x).ob := (make_r (Rt.cons q Rt.nil) rfl fun _ => beg_i hx).cast (ob_beg x).symm
theorem mEnd (hx : (G.has x).wf) (q : Rt (f δ) (.str x)) : Rt (dMake "Ends" 1 gi_Ends (dCons f dNil) δ) (G.fin x).ob := (make_r (Rt.cons q Rt.nil) rfl fun _ => fin_i hx).cast (ob_fin x).symm
theorem mIs (hx : (G.iss x).wf) (q : Rt (f δ) (.str x)) : Rt (dMake "Is" 1 gi_Is (dCons f dNil) δ) (G.iss x).ob := (make_r (Rt.cons q Rt.nil) rfl fun _ => is_i hx).cast (ob_iss x).symm
theorem mOnly (hx : (G.only x).wf) (q : Rt (f δ) (.str x)) : Rt (dMake "Only" 1 gi_Only (dCons f dNil) δ) (G.only x).ob := (make_r (Rt.cons q Rt.nil) rfl fun _ => only_i hx).cast (ob_only x).symm
theorem mF (hd : g.dep ≤ 6) (hn : g.nl ≤ 8) (q : Rt (f δ) g.ob) : Rt (dMake "Fails" 1 gi_Fails (dCons f dNil) δ) (G.fails g).ob := (make_r (Rt.cons q Rt.nil) rfl fun _ => fails_i hd hn).cast (ob_fails g).symm
theorem mB (hd : g.dep ≤ 6) (hd2 : h.dep ≤ 6) (hn : g.nl + h.nl ≤ 8) (q : Rt (f δ) g.ob) (q2 : Rt (f2 δ) h.ob) : Rt (dMake "Both" 2 gi_Both (dCons f (dCons f2 dNil)) δ) (G.both g h).ob := (make_r (Rt.cons q (Rt.cons q2 Rt.nil)) rfl fun _ => both_i hd hd2 hn).cast (ob_both g h).symm
theorem mE (hd : g.dep ≤ 6) (hd2 : h.dep ≤ 6) (hn : g.nl + h.nl ≤ 8) (q : Rt (f δ) g.ob) (q2 : Rt (f2 δ) h.ob) : Rt (dMake "Either" 2 gi_Either (dCons f (dCons f2 dNil)) δ) (G.either g h).ob := (make_r (Rt.cons q (Rt.cons q2 Rt.nil)) rfl fun _ => either_i hd hd2 hn).cast (ob_either g h).symm
theorem neB {a b : Bool} (e : a = b) (q : Rt (f δ) (.bl a)) (q2 : Rt (f2 δ) (.bl b)) : Rt (dTest (dOp2 neD f f2) δ) false := Rt.test ((Rt.op2 q q2 Rt.ret).cast (congrArg D.bl (by subst e; simp)))
end
theorem same_r {g h : G} {rs : List Str} (hg : g.dep ≤ 6) (hh : h.dep ≤ 6) (hl : rs.length ≤ 4000) (hr : ∀ r ∈ rs, r.length ≤ 4000) (e : ∀ r, g.sem r = h.sem r) : Rt (g__law_same [g.ob, h.ob, .lst (rs.map D.str)]) (.bl true) := by
  have lc : Rt (lcD (dName 3) (dTest (dOp2 neD (dMeth "holds" 1 (tb_holds 6) (dVar 0) (dCons (dVar 3) dNil)) (dMeth "holds" 1 (tb_holds 6) (dVar 1) (dCons (dVar 3) dNil)))) (dVar 3) (wipeD [.val g.ob, .val h.ob, .val (.lst (rs.map D.str)), .un] [3]) (rs.map D.str) 0) [] :=
    (lcM D.str (fun _ => false) D.str rs 0 (small (by omega)) (fun r hx => neB (e r) (holds_o hg (hr r hx) (Rt.var rfl) (Rt.cons (Rt.var rfl) Rt.nil)) (holds_o hh (hr r hx) (Rt.var rfl) (Rt.cons (Rt.var rfl) Rt.nil))) (fun r hx z => by cases z)).cast (by rw [List.filter_eq_nil_iff.mpr (fun _ _ z => by cases z)]; rfl)
  exact Rt.bodyR (Rt.rets (Rt.op2 (rLc (rIL (Rt.var rfl)) lc) (Rt.lst Rt.nil (small (show 0 ≤ 4000 by decide))) eq_nils))
theorem nsame {fl : List Sl → W (List D)} {δ : List Sl} {g h : G} {rs : List Str} (hl : rs.length ≤ 4000) (hr : ∀ r ∈ rs, r.length ≤ 4000) (hg : g.dep ≤ 6) (hh : h.dep ≤ 6) (e : ∀ r, g.sem r = h.sem r) (q : Rt (fl δ) [g.ob, h.ob, .lst (rs.map D.str)]) : Rt (dNot (dTru (dCall 3 g__law_same fl)) δ) false :=
  Rt.not (b := true) (Rt.tru (Rt.call q rfl (same_r hg hh hl hr e)) Rt.ret)
theorem rules_r {a b c : G} {rs : List Str} (hl : rs.length ≤ 4000) (hr : ∀ r ∈ rs, r.length ≤ 4000) (ha : a.dep ≤ 3) (hb : b.dep ≤ 3) (hc : c.dep ≤ 3) (na : a.nl ≤ 2) (nb : b.nl ≤ 2) (nc : c.nl ≤ 2) : Rt (g__law_rules_right [a.ob, b.ob, c.ob, .lst (rs.map D.str)]) (.bl true) := by
  have df : ∀ g : G, (G.fails g).dep = g.dep + 1 := fun _ => rfl
  have db : ∀ g h : G, (G.both g h).dep = max g.dep h.dep + 1 := fun _ _ => rfl
  have de : ∀ g h : G, (G.either g h).dep = max g.dep h.dep + 1 := fun _ _ => rfl
  have nf : ∀ g : G, (G.fails g).nl = g.nl := fun _ => rfl
  have nb' : ∀ g h : G, (G.both g h).nl = g.nl + h.nl := fun _ _ => rfl
  have ne' : ∀ g h : G, (G.either g h).nl = g.nl + h.nl := fun _ _ => rfl
  refine Rt.bodyR (Rt.seq (Rt.ifF (Rt.orF (nsame (g := .fails (.fails a)) (h := a) hl hr ?_ ?_ (fun r => ?_) (Rt.cons (mF ?_ ?_ (mF ?_ ?_ (Rt.var rfl))) (Rt.cons (Rt.var rfl) (Rt.cons (Rt.var rfl) Rt.nil))))
      (nsame (g := .both a a) (h := .either a a) hl hr ?_ ?_ (fun r => ?_) (Rt.cons (mB ?_ ?_ ?_ (Rt.var rfl) (Rt.var rfl)) (Rt.cons (mE ?_ ?_ ?_ (Rt.var rfl) (Rt.var rfl)) (Rt.cons (Rt.var rfl) Rt.nil))))) Rt.next)
    (Rt.seq (Rt.ifF (nsame (g := .fails (.both a b)) (h := .either (.fails a) (.fails b)) hl hr ?_ ?_ (fun r => ?_) (Rt.cons (mF ?_ ?_ (mB ?_ ?_ ?_ (Rt.var rfl) (Rt.var rfl))) (Rt.cons (mE ?_ ?_ ?_ (mF ?_ ?_ (Rt.var rfl)) (mF ?_ ?_ (Rt.var rfl))) (Rt.cons (Rt.var rfl) Rt.nil)))) Rt.next)
    (Rt.seq (Rt.ifF (nsame (g := .both a (.either b c)) (h := .either (.both a b) (.both a c)) hl hr ?_ ?_ (fun r => ?_) (Rt.cons (mB ?_ ?_ ?_ (Rt.var rfl) (mE ?_ ?_ ?_ (Rt.var rfl) (Rt.var rfl))) (Rt.cons (mE ?_ ?_ ?_ (mB ?_ ?_ ?_ (Rt.var rfl) (Rt.var rfl)) (mB ?_ ?_ ?_ (Rt.var rfl) (Rt.var rfl))) (Rt.cons (Rt.var rfl) Rt.nil)))) Rt.next)
    (Rt.rets (Rt.call (Rt.cons (mE (g := a) (h := .both b c) ?_ ?_ ?_ (Rt.var rfl) (mB ?_ ?_ ?_ (Rt.var rfl) (Rt.var rfl))) (Rt.cons (mB (g := .either a b) (h := .either a c) ?_ ?_ ?_ (mE ?_ ?_ ?_ (Rt.var rfl) (Rt.var rfl)) (mE ?_ ?_ ?_ (Rt.var rfl) (Rt.var rfl))) (Rt.cons (Rt.var rfl) Rt.nil))) rfl (same_r ?_ ?_ hl hr (fun r => ?_)))))))
  all_goals first
    | omega
    | (simp only [df, db, de]; omega)
    | (simp only [nf, nb', ne']; omega)
    | (simp only [G.sem]; cases a.sem r <;> cases b.sem r <;> cases c.sem r <;> rfl)
/-! ### a line -/
abbrev st (ns : List Int) (a2 a3 a4 a5 a6 a7 a8 a9 a10 a11 a12 a13 a14 a15 a16 a17 : Sl) : List Sl := [.val (.sct ns), .val .pen, a2, a3, a4, a5, a6, a7, a8, a9, a10, a11, a12, a13, a14, a15, a16, a17]
section
variable {ns : List Int} {a2 a3 a4 a5 a6 a7 a8 a9 a10 a11 a12 a13 a14 a15 a16 a17 : Sl} {r w x : Str} {i : Nat}
theorem rests_r (hr : r.length ≤ 100) : Rt (dLc (dIR1 (dCons (dOp2 addD (dOpn lenD (dCons (dVar 13) dNil)) (dC (.int 1))) dNil)) (dName 5) dYes (dSl (dVar 13) (dPart (dVar 5)) dNoPart) [5] (st ns a2 a3 a4 a5 a6 a7 a8 a9 a10 a11 (.val (.str w)) (.val (.str r)) a14 a15 a16 a17)) (.lst ((rsts r).map D.str)) := by
  refine rLc (rIR (k := (r.length : Int) + 1) (Rt.cons (Rt.op2 (Rt.opn (Rt.cons (Rt.var rfl) Rt.nil) (len_s (by omega))) Rt.cC Rt.ret) Rt.nil) (by omega) (by omega)) ?_
  rw [rangeD_eq]
  refine (lcY (fun (i : Nat) => D.int (0 + i)) (fun i => D.str ⟨(r.cps.toList.drop i).toArray⟩) _ (by rw [List.length_range]; omega) (fun i hi => ?_)).cast ?_
  · refine (Rt.sl (Rt.var rfl) (Rt.part (Rt.var rfl)) Rt.noPart (slS (by omega))).cast ?_
    rw [show (0 : Int) + (i : Int) = (i : Int) by omega, cut_from]
  · unfold rsts
    rw [List.map_map, show ((r.length : Int) + 1).toNat = r.length + 1 by omega]
    rfl
theorem c1_r (hw : (G.has w).wf) (hr : r.length ≤ 100) (ha : asc r) : Rt (dTest (dOp2 neD (dMeth "holds" 1 (tb_holds 6) (dMake "Has" 1 gi_Has (dCons (dVar 12) dNil)) (dCons (dVar 13) dNil)) (dOp2 neD (dLc (dIL (dVar 14)) (dName 15) (dTru (dMeth "holds" 1 (tb_holds 6) (dMake "Begins" 1 gi_Begins (dCons (dVar 12) dNil)) (dCons (dVar 15) dNil))) (dVar 15) [15]) (dLst dNil))) (st ns a2 a3 a4 a5 a6 a7 a8 a9 a10 a11 (.val (.str w)) (.val (.str r)) (.val (.lst ((rsts r).map D.str))) a15 a16 a17)) false := by
  have rl : ∀ x ∈ rsts r, x.length ≤ 100 ∧ asc x := fun x hx => by
    obtain ⟨i, _, rfl⟩ := List.mem_map.mp hx
    exact ⟨by rw [len_cps]; show (r.cps.toList.drop i).length ≤ 100; rw [List.length_drop, ← len_cps]; omega, fun c hc => ha c (List.mem_of_mem_drop hc)⟩
  have lc : Rt (lcD (dName 15) (dTru (dMeth "holds" 1 (tb_holds 6) (dMake "Begins" 1 gi_Begins (dCons (dVar 12) dNil)) (dCons (dVar 15) dNil))) (dVar 15) (wipeD (st ns a2 a3 a4 a5 a6 a7 a8 a9 a10 a11 (.val (.str w)) (.val (.str r)) (.val (.lst ((rsts r).map D.str))) a15 a16 a17) [15]) ((rsts r).map D.str) 0) (((rsts r).filter fun x => Txt.startswith x w).map D.str) :=
    lcM D.str (fun x => Txt.startswith x w) D.str (rsts r) 0 (small (by unfold rsts; rw [List.length_map, List.length_range]; omega)) (fun x hx => Rt.tru (holds_o (g := .beg w) (r := x) (show 1 ≤ 6 by decide) (by have := (rl x hx).1; omega) (mBeg hw (Rt.var rfl)) (Rt.cons (Rt.var rfl) Rt.nil)) Rt.ret) (fun x hx _ => Rt.var rfl)
  exact neB (has_rests r w) (holds_o (g := .has w) (r := r) (show 1 ≤ 6 by decide) (by omega) (mHas hw (Rt.var rfl)) (Rt.cons (Rt.var rfl) Rt.nil)) (Rt.op2 (rLc (rIL (Rt.var rfl)) lc) (Rt.lst Rt.nil (small (show 0 ≤ 4000 by decide))) (ne_strs fun x hx => (rl x (List.mem_filter.mp hx).1).2))
theorem rev_wf (hw : (G.has w).wf) : (G.has (revS w)).wf := by
  have hl : (revS w).length = w.length := by rw [len_cps, rev_cps, List.length_reverse, ← len_cps]
  refine ⟨fun c hc => hw.1 c ?_, by rw [hl]; exact hw.2.1, by rw [hl]; exact hw.2.2⟩
  rw [rev_cps, List.mem_reverse] at hc; exact hc
theorem revR {δ : List Sl} {i : Nat} {y : Str} (hy : y.length ≤ 4000) (e : δ[i]? = some (.val (.str y))) : Rt (dRevS (dVar i) δ) (.str (revS y)) := Rt.bind (Rt.var e) (Rt.need (small hy) Rt.ret)
theorem c2_r (hw : (G.has w).wf) (hr : r.length ≤ 100) : Rt (dTest (dOp2 neD (dMeth "holds" 1 (tb_holds 6) (dMake "Ends" 1 gi_Ends (dCons (dVar 12) dNil)) (dCons (dVar 13) dNil)) (dMeth "holds" 1 (tb_holds 6) (dMake "Begins" 1 gi_Begins (dCons (dRevS (dVar 12)) dNil)) (dCons (dRevS (dVar 13)) dNil))) (st ns a2 a3 a4 a5 a6 a7 a8 a9 a10 a11 (.val (.str w)) (.val (.str r)) (.val (.lst ((rsts r).map D.str))) a15 a16 a17)) false := by
  have hl : (revS r).length = r.length := by rw [len_cps, rev_cps, List.length_reverse, ← len_cps]
  have w8 : w.length ≤ 8 := hw.2.2
  exact neB (ends_rev r w) (holds_o (g := .fin w) (r := r) (show 1 ≤ 6 by decide) (by omega) (mEnd hw (Rt.var rfl)) (Rt.cons (Rt.var rfl) Rt.nil)) (holds_o (g := .beg (revS w)) (r := revS r) (show 1 ≤ 6 by decide) (by omega) (mBeg (rev_wf hw) (revR (by omega) rfl)) (Rt.cons (revR (by omega) rfl) Rt.nil))
theorem c3_r (hw : (G.has w).wf) (hr : r.length ≤ 100) : Rt (dTest (dOp2 neD (dMeth "holds" 1 (tb_holds 6) (dMake "Is" 1 gi_Is (dCons (dVar 12) dNil)) (dCons (dVar 13) dNil)) (dAndV (dMeth "holds" 1 (tb_holds 6) (dMake "Begins" 1 gi_Begins (dCons (dVar 12) dNil)) (dCons (dVar 13) dNil)) (dOp2 eqD (dOpn lenD (dCons (dVar 13) dNil)) (dOpn lenD (dCons (dVar 12) dNil))))) (st ns a2 a3 a4 a5 a6 a7 a8 a9 a10 a11 (.val (.str w)) (.val (.str r)) (.val (.lst ((rsts r).map D.str))) a15 a16 a17)) false := by
  have w8 : w.length ≤ 8 := hw.2.2
  exact neB (is_beg r w) (holds_o (g := .iss w) (r := r) (show 1 ≤ 6 by decide) (by omega) (mIs ⟨hw.1, by omega⟩ (Rt.var rfl)) (Rt.cons (Rt.var rfl) Rt.nil)) (Rt.andV (holds_o (g := .beg w) (r := r) (show 1 ≤ 6 by decide) (by omega) (mBeg hw (Rt.var rfl)) (Rt.cons (Rt.var rfl) Rt.nil)) fun _ => Rt.op2 (Rt.opn (Rt.cons (Rt.var rfl) Rt.nil) (len_s (by omega))) (Rt.opn (Rt.cons (Rt.var rfl) Rt.nil) (len_s (by omega))) Rt.ret)
theorem c4_r (hx : (G.only x).wf) (hr : r.length ≤ 100) : Rt (dTest (dOp2 neD (dMeth "holds" 1 (tb_holds 6) (dMake "Only" 1 gi_Only (dCons (dVar 16) dNil)) (dCons (dVar 13) dNil)) (dAndV (dMeth "holds" 1 (tb_holds 6) (dMake "Only" 1 gi_Only (dCons (dVar 16) dNil)) (dCons (dSl (dVar 13) dNoPart (dPart (dVar 17))) dNil)) (dMeth "holds" 1 (tb_holds 6) (dMake "Only" 1 gi_Only (dCons (dVar 16) dNil)) (dCons (dSl (dVar 13) (dPart (dVar 17)) dNoPart) dNil)))) (st ns a2 a3 a4 a5 a6 a7 a8 a9 a10 a11 (.val (.str w)) (.val (.str r)) a14 a15 (.val (.str x)) (.val (.int (i : Nat))))) false := by
  have h1 : (⟨(r.cps.toList.take i).toArray⟩ : Str).length ≤ 4000 := by rw [len_cps]; show (r.cps.toList.take i).length ≤ _; rw [List.length_take, ← len_cps]; omega
  have h2 : (⟨(r.cps.toList.drop i).toArray⟩ : Str).length ≤ 4000 := by rw [len_cps]; show (r.cps.toList.drop i).length ≤ _; rw [List.length_drop, ← len_cps]; omega
  exact neB (only_cut x r i) (holds_o (g := .only x) (r := r) (show 1 ≤ 6 by decide) (by omega) (mOnly hx (Rt.var rfl)) (Rt.cons (Rt.var rfl) Rt.nil)) (Rt.andV (holds_o (g := .only x) (show 1 ≤ 6 by decide) h1 (mOnly hx (Rt.var rfl)) (Rt.cons ((Rt.sl (Rt.var rfl) Rt.noPart (Rt.part (Rt.var rfl)) (slS (by omega))).cast (congrArg D.str (cut_to r i))) Rt.nil)) fun _ => holds_o (g := .only x) (show 1 ≤ 6 by decide) h2 (mOnly hx (Rt.var rfl)) (Rt.cons ((Rt.sl (Rt.var rfl) (Rt.part (Rt.var rfl)) Rt.noPart (slS (by omega))).cast (congrArg D.str (cut_from r i))) Rt.nil))
theorem Tm.any0 {A : Type} {P : A → Prop} : Tm 0 (W.any 0 P) P := fun n E hn => ⟨n, rfl, fun a q => ⟨by omega, q⟩⟩
theorem letters_t (hw : (G.has w).wf) : Tm 0 (dMs joinD (dC (.str ("" : Str))) (dCons (dSortSet (dVar 12)) dNil) (st ns a2 a3 a4 a5 a6 a7 a8 a9 a10 a11 (.val (.str w)) (.val (.str r)) (.val (.lst ((rsts r).map D.str))) a15 a16 a17)) (fun d => ∃ x : Str, d = .str x ∧ (G.only x).wf) := by
  have w8 : w.length ≤ 8 := hw.2.2
  have hsz : w.cps.size < 60 := by have := len_cps w; simp at this; omega
  refine Tm.bindR Rt.cC (Tm.bind (B1 := 0) (B2 := 0) (Q := fun ds => ∃ cs : List Nat, ds = [.lst (cs.map fun c => .str ⟨#[c]⟩)] ∧ cs.length = (uniq [] w.cps.toList).length ∧ ∀ c, c ∈ cs ↔ c ∈ uniq [] w.cps.toList) ?_ (fun ds hds => ?_) (Nat.le_refl _))
  · refine Tm.bind (B1 := 0) (B2 := 0) (Q := fun d => ∃ cs : List Nat, d = .lst (cs.map fun c => .str ⟨#[c]⟩) ∧ cs.length = (uniq [] w.cps.toList).length ∧ ∀ c, c ∈ cs ↔ c ∈ uniq [] w.cps.toList) (Tm.bindR (Rt.var rfl) (Tm.need hsz Tm.any0)) (fun d hd => ?_) (Nat.le_refl _)
    obtain ⟨cs, rfl, h⟩ := hd
    exact Tm.of (Rt.bind Rt.nil Rt.ret) ⟨cs, rfl, h⟩
  · obtain ⟨cs, rfl, h1, h2⟩ := hds
    have nd : cs.Nodup := nd_of cs (uniq [] w.cps.toList) (uniq_nd _ _ List.nodup_nil) h1 fun c hc => (h2 c).mpr hc
    have hm : ∀ c ∈ cs, c ∈ w.cps.toList := fun c hc => by
      rcases (uniq_mem _ _ _).mp ((h2 c).mp hc) with z | z
      · exact nomatch z
      · exact z
    have hl : cs.length ≤ 8 := by have := pig cs w.cps.toList nd hm; rw [← len_cps] at this; omega
    exact Tm.of (join_r (by omega)) ⟨⟨cs.toArray⟩, rfl, fun c hc => hw.1 c (hm c hc), by rw [len_cps]; show cs.length ≤ 20; omega, nd⟩
end
theorem law_t (ns : List Int) : Tm 8000 (b_law (.val (.sct ns) :: .val .pen :: List.replicate 16 .un)) (fun o => o = .rt (.bl true)) := by
  refine Tm.bind (B1 := 8000) (B2 := 0) (Q := fun o => ∃ a2 a3 a4 a5 a6 a7 a8 a9 a10 a11 a12 a13 a14 a15 a16 a17, o = .nx (st ns a2 a3 a4 a5 a6 a7 a8 a9 a10 a11 a12 a13 a14 a15 a16 a17)) ?_ (fun o ho => ?_) (by decide)
  rotate_left
  · obtain ⟨a2, a3, a4, a5, a6, a7, a8, a9, a10, a11, a12, a13, a14, a15, a16, a17, rfl⟩ := ho
    exact Tm.of (Rt.rets Rt.cC) rfl
  refine Tm.bindR (rIR (k := 8) (Rt.cons Rt.cC Rt.nil) (by decide) (by decide)) ?_
  refine (forD_t (B := 1000) (I := fun _ δ => ∃ a2 a3 a4 a5 a6 a7 a8 a9 a10 a11 a12 a13 a14 a15 a16 a17, δ = st ns a2 a3 a4 a5 a6 a7 a8 a9 a10 a11 a12 a13 a14 a15 a16 a17) _ _ ⟨_, _, _, _, _, _, _, _, _, _, _, _, _, _, _, _, rfl⟩ (fun d r δ hI => ?_)).mono (by rw [rangeD_len]; decide) (fun o ho => by obtain ⟨_, rfl, a2, a3, a4, a5, a6, a7, a8, a9, a10, a11, a12, a13, a14, a15, a16, a17, rfl⟩ := ho; exact ⟨a2, a3, a4, a5, a6, a7, a8, a9, a10, a11, a12, a13, a14, a15, a16, a17, rfl⟩)
  obtain ⟨a2, a3, a4, a5, a6, a7, a8, a9, a10, a11, a12, a13, a14, a15, a16, a17, rfl⟩ := hI
  refine Tm.bindR Rt.ret ?_
  refine tAsg (B1 := 4) (B2 := 980) (tCall (Rt.cons (Rt.var rfl) Rt.nil) rfl few_t) (fun v hv => ?_) (by decide)
  obtain ⟨s, rfl, hs⟩ := hv
  have fw := hs.few
  refine tAsg (P := fun v => ∃ g1 g2 g3 : G, v = .lst ([g1, g2, g3].map G.enc) ∧ ∀ g ∈ [g1, g2, g3], g.wf ∧ g.dep ≤ 3 ∧ g.nl ≤ 2) (B1 := 420) (B2 := 540) ?_ (fun v hv => ?_) (by decide)
  · refine Tm.bindR (rIR (k := 3) (Rt.cons Rt.cC Rt.nil) (by decide) (by decide)) ?_
    refine Tm.bind (B2 := 0) ((lcD_t (B := 140) (P := GG) _ 0 ?_ (fun _ _ => Rt.ret) (fun d hd => ?_)).mono ?_ (fun _ z => z)) (fun ys hys => ?_) (Nat.le_refl _)
    · rw [rangeD_len]; exact small (by decide)
    · exact (tCall (Rt.cons (Rt.var rfl) (Rt.cons (Rt.var rfl) (Rt.cons Rt.cC (Rt.cons Rt.cC Rt.nil)))) rfl (light_t hs)).mono (by decide) fun _ z => z
    · rw [rangeD_len]; decide
    · rw [rangeD_len] at hys
      obtain ⟨hl, hy⟩ := hys
      match ys, hl, hy with
      | [y1, y2, y3], _, hy =>
        obtain ⟨g1, rfl, h1⟩ := hy y1 (by simp)
        obtain ⟨g2, rfl, h2⟩ := hy y2 (by simp)
        obtain ⟨g3, rfl, h3⟩ := hy y3 (by simp)
        refine Tm.ret ⟨g1, g2, g3, rfl, fun g hg => ?_⟩
        simp only [List.mem_cons, List.not_mem_nil, or_false] at hg
        rcases hg with rfl | rfl | rfl
        · exact h1
        · exact h2
        · exact h3
  obtain ⟨g1, g2, g3, rfl, hG⟩ := hv
  have H1 := hG g1 (by simp)
  have H2 := hG g2 (by simp)
  have H3 := hG g3 (by simp)
  obtain ⟨ws, hws, hwd, hwl⟩ : ∃ ws : List Str, ws = [g1, g2, g3].flatMap (fun g => g.lvs.map G.txt) ∧ (∀ x ∈ ws, wd x) ∧ ws.length ≤ 100 := by
    refine ⟨_, rfl, fun x hx => ?_, ?_⟩
    · obtain ⟨g, hg, hx⟩ := List.mem_flatMap.mp hx
      obtain ⟨l, hl, rfl⟩ := List.mem_map.mp hx
      have h := leaf_ok g (hG g hg).1 l hl
      exact ⟨h.2, lets_asc h.1⟩
    · simp only [List.flatMap_cons, List.flatMap_nil, List.length_append, List.length_map, lvs_len, List.length_nil]
      have := H1.2.2; have := H2.2.2; have := H3.2.2
      omega
  refine tAsgR (d := .lst (ws.map D.str)) ?_ ?_
  · have lc := lcY (i := 7) (δ := wipeD [.val (.sct ns), .val .pen, .val d, .val (.str s), .val (.lst ([g1, g2, g3].map G.enc)), a5, a6, a7, a8, a9, a10, a11, a12, a13, a14, a15, a16, a17] [7]) (fe := dCall 1 (g__law_jwords 6) (dCons (dVar 7) dNil)) G.enc (fun g => .lst (g.lvs.map fun l => .str l.txt)) [g1, g2, g3] (show 3 ≤ 4000 by decide) (fun g hg => Rt.call (Rt.cons (Rt.var rfl) Rt.nil) rfl (jw_r 6 g (by have := (hG g hg).2.1; omega) (by have := (hG g hg).2.2; omega)))
    refine Rt.opn (Rt.cons (rLc (rIL (Rt.var rfl)) lc) (Rt.cons (Rt.lst Rt.nil (small (show 0 ≤ 4000 by decide))) Rt.nil)) ?_
    have e2 : ([g1, g2, g3].map fun g => D.lst (g.lvs.map fun l => .str l.txt)) = ([g1, g2, g3].map fun g => g.lvs.map fun l => D.str l.txt).map D.lst := by rw [List.map_map]; rfl
    have e3 : ws.map D.str = ([g1, g2, g3].map fun g => g.lvs.map fun l => D.str l.txt).flatten := by
      rw [hws, List.map_flatMap, List.flatMap_def]
      congr 1
      apply List.map_congr_left
      intro g _
      rw [List.map_map]; rfl
    rw [e2, e3]
    exact sum_r (by rw [← e3, List.length_map]; omega)
  refine tAsg (P := fun v => ∃ rs : List Str, v = .lst (rs.map D.str) ∧ rs.length = 12 ∧ ∀ r ∈ rs, r.length ≤ 12 ∧ asc r) (B1 := 480) (B2 := 60) ?_ (fun v hv => ?_) (by decide)
  · refine Tm.bindR (rIR (k := 12) (Rt.cons Rt.cC Rt.nil) (by decide) (by decide)) ?_
    refine Tm.bind (B2 := 0) ((lcD_t (B := 40) (P := fun d => ∃ x : Str, d = .str x ∧ x.length ≤ 12 ∧ asc x) _ 0 ?_ (fun _ _ => Rt.ret) (fun d hd => ?_)).mono ?_ (fun _ z => z)) (fun ys hys => ?_) (Nat.le_refl _)
    · rw [rangeD_len]; exact small (by decide)
    · exact tCall (Rt.cons (Rt.var rfl) (Rt.cons (Rt.var rfl) (Rt.cons (Rt.var rfl) (Rt.cons Rt.cC Rt.nil)))) rfl (line_t hs hwd hwl)
    · rw [rangeD_len]; decide
    · rw [rangeD_len] at hys
      obtain ⟨hl, hy⟩ := hys
      have : ∃ rs : List Str, ys = rs.map D.str ∧ ∀ r ∈ rs, r.length ≤ 12 ∧ asc r := by
        clear hl
        induction ys with
        | nil => exact ⟨[], rfl, fun r z => nomatch z⟩
        | cons y t ih =>
          obtain ⟨x, rfl, hx⟩ := hy y List.mem_cons_self
          obtain ⟨rs, rfl, hr⟩ := ih fun z hz => hy z (List.mem_cons_of_mem _ hz)
          refine ⟨x :: rs, rfl, fun r hr2 => ?_⟩
          rcases List.mem_cons.mp hr2 with rfl | h
          · exact hx
          · exact hr r h
      obtain ⟨rs, rfl, hr⟩ := this
      exact Tm.ret ⟨rs, rfl, by rw [List.length_map] at hl; exact hl, hr⟩
  obtain ⟨rs, rfl, hrl, hrs⟩ := hv
  have lcm := lcY (i := 7) (δ := wipeD [.val (.sct ns), .val .pen, .val d, .val (.str s), .val (.lst ([g1, g2, g3].map G.enc)), a5, .val (.lst (ws.map D.str)), a7, .val (.lst (rs.map D.str)), a9, a10, a11, a12, a13, a14, a15, a16, a17] [7]) (fe := dCall 1 (g__law_made_goal 6) (dCons (dVar 7) dNil)) G.enc G.ob [g1, g2, g3] (show 3 ≤ 4000 by decide) (fun g hg => Rt.call (Rt.cons (Rt.var rfl) Rt.nil) rfl (made_r 6 g (by have := (hG g hg).2.1; omega) (by decide) (hG g hg).1 (by have := (hG g hg).2.2; omega)))
  refine Tm.bindR (Rt.bind (rLc (rIL (Rt.var rfl)) lcm) (Rt.bind (Rt.need rfl (Rt.bind Rt.ret (Rt.bind Rt.ret (Rt.bind Rt.ret Rt.ret)))) Rt.ret)) ?_
  refine tSeqF (Rt.not (b := true) (Rt.tru (Rt.call (Rt.cons (Rt.var rfl) (Rt.cons (Rt.var rfl) (Rt.cons (Rt.var rfl) (Rt.cons (Rt.var rfl) Rt.nil)))) rfl (rules_r (rs := rs) (by omega) (fun r hr => by have := (hrs r hr).1; omega) H1.2.1 H2.2.1 H3.2.1 H1.2.2 H2.2.2 H3.2.2)) Rt.ret)) ?_
  refine tAsg (P := fun v => ∃ w : Str, v = .str w ∧ (G.has w).wf) (B1 := 4) (B2 := 12) ((tCall (Rt.cons (Rt.var rfl) (Rt.cons (Rt.var rfl) (Rt.cons Rt.cC (Rt.cons Rt.cC Rt.nil)))) rfl (row_t (s := s) (lo := 1) (hi := 3) hs.one (by omega) (by decide) (by decide))).mono (by decide) fun d hd => by
    obtain ⟨x, rfl, h2, h3, h4⟩ := hd
    exact ⟨x, rfl, sgns_lets h4 hs.let_, h2, Nat.le_trans h3 (by decide)⟩) (fun v hv => ?_) (by decide)
  obtain ⟨w, rfl, hw⟩ := hv
  refine Tm.bindR (rIL (Rt.var rfl)) ?_
  refine (forD_t (B := 1) (I := fun t δ => (∀ d ∈ t, ∃ r : Str, d = .str r ∧ r.length ≤ 12 ∧ asc r) ∧ ∃ a2 a3 a4 a5 a6 a7 a9 a10 a11 a13 a14 a15 a16 a17, δ = [.val (.sct ns), .val .pen, a2, a3, a4, a5, a6, a7, .val (.lst (rs.map D.str)), a9, a10, a11, .val (.str w), a13, a14, a15, a16, a17]) _ _ ⟨fun d hd => ?_, _, _, _, _, _, _, _, _, _, _, _, _, _, _, rfl⟩ (fun d t δ hI => ?_)).mono (by rw [List.length_map, hrl]; decide) (fun o ho => by obtain ⟨_, rfl, _, a2, a3, a4, a5, a6, a7, a9, a10, a11, a13, a14, a15, a16, a17, rfl⟩ := ho; exact ⟨_, rfl, _, _, _, _, _, _, _, _, _, _, _, _, _, _, _, _, rfl⟩)
  · obtain ⟨r, hr, rfl⟩ := List.mem_map.mp hd
    exact ⟨r, rfl, hrs r hr⟩
  obtain ⟨ht, a2, a3, a4, a5, a6, a7, a9, a10, a11, a13, a14, a15, a16, a17, rfl⟩ := hI
  obtain ⟨r, rfl, hr, ha⟩ := ht d List.mem_cons_self
  refine Tm.bindR Rt.ret ?_
  refine tAsgR (rests_r (by omega)) ?_
  refine tSeqF (c1_r hw (by omega) ha) (tSeqF (c2_r hw (by omega)) (tSeqF (c3_r hw (by omega)) ?_))
  refine Tm.bind (B1 := 1) (B2 := 0) (Q := fun o => ∃ (x : Str) (i : Nat), o = .nx ([.val (.sct ns), .val .pen, a2, a3, a4, a5, a6, a7, .val (.lst (rs.map D.str)), a9, a10, a11, .val (.str w), .val (.str r), .val (.lst ((rsts r).map D.str)), a15, .val (.str x), .val (.int (i : Nat))]) ∧ (G.only x).wf) ?_ (fun o ho => ?_) (by decide)
  · refine Tm.bind (B1 := 1) (B2 := 0) (tCons (B1 := 0) (B2 := 1) (letters_t hw) (tCons (B1 := 1) (B2 := 0) (tCall (Rt.cons (Rt.var rfl) (Rt.cons (Rt.op2 (Rt.opn (Rt.cons (Rt.var rfl) Rt.nil) (len_s (by omega))) Rt.cC Rt.ret) Rt.nil)) rfl (draw_t (by omega) (by omega))) tNil (by decide)) (by decide)) (fun ds hds => ?_) (by decide)
    obtain ⟨_, _, rfl, ⟨x, rfl, hx⟩, _, _, rfl, ⟨i, rfl, i0, i1⟩, rfl⟩ := hds
    refine Tm.ret ⟨x, i.toNat, ?_, hx⟩
    rw [show ((i.toNat : Nat) : Int) = i by omega]
    rfl
  · obtain ⟨x, i, rfl, hx⟩ := ho
    exact Tm.of (Rt.ifF (c4_r hx (by omega)) Rt.next) ⟨_, rfl, fun d hd => ht d (List.mem_cons_of_mem _ hd), _, _, _, _, _, _, _, _, _, _, _, _, _, _, rfl⟩
theorem plain (ns : List Int) : (b_law (.val (.sct ns) :: .val .pen :: List.replicate 16 .un)).wp (2 ^ 60) (fun _ o => o = .rt (.bl true)) noX := (law_t ns).wp (by decide)
end Lw
set_option Elab.async false
set_option linter.all false
set_option maxRecDepth 100000
set_option maxHeartbeats 0
namespace Lw
open PySem PySem.Spec PyProof.Rows L2 He Lx
abbrev R : PySem.W.OpenRow := PySem.W.OpenLaw.row PySem.Challenge.rw_linestream_k02_whole_tests_by_rules
abbrev hk : PySem.W.Hook := hookM 7 file fa fn
def ob (s : PySem.W.SharedT) : AlM := obsMG 7 file fa fn (HandSHeadRun.getT s)
theorem ob_eq (s : PySem.W.SharedT) : ob s = hk.obs s.abs := obsMG_eq (HandSHeadRun.getT_eq s)
def names0 : List PySem.Str := ["__name__", "LETTERS", "is_line", "is_word", "InvalidTest", "MAX_WORD", "MAX_LINE", "MAX_DEPTH", "MAX_LEAVES", "Test", "need_inner", "WordTest", "Has", "Begins", "Ends", "Is", "Only", "Fails", "PairTest", "Both", "Either", "_law_pen", "_law_draw", "_law_pick", "_law_signs", "_law_few", "_law_row", "_law_goal", "_law_made_goal", "_law_jwords"]
def names1 : List PySem.Str := ["_law_jline", "_law_jleaves", "_law_jlight", "_law_same", "_law_rules_right"]
def names : List PySem.Str := names0 ++ names1
theorem run (w : World) : HandSHeadRun.RunEq R (PySem.W.view R.prog [38]) hk ob 12000 names w := by
  intro os
  kernel_rfl
end Lw
set_option Elab.async false
set_option linter.all false
set_option maxRecDepth 100000
set_option maxHeartbeats 0
open PySem PySem.W PySem.Calls PyProof.Rows
theorem PySem.Challenge.cw_linestream_k02_whole_tests_by_rules_holds : PySem.Challenge.rw_linestream_k02_whole_tests_by_rules.Holds := by
  w_on; o_law
  refine HandSHeadRun.head_any (r := OpenLaw.row PySem.Challenge.rw_linestream_k02_whole_tests_by_rules) (q := view (OpenLaw.row PySem.Challenge.rw_linestream_k02_whole_tests_by_rules).prog [38]) (H := Lw.hk) (ob := Lw.ob) (M := 12000) (loose := Lw.names) (d := HandSHeadRun.topDef (OpenLaw.row PySem.Challenge.rw_linestream_k02_whole_tests_by_rules).prog 38) (kwd := []) Lw.ob_eq
    (by kernel_rfl) (fun s => by kernel_rfl) Lw.run (by kernel_rfl) (by kernel_rfl) (by kernel_rfl) (by rfl) (by first | assumption | decide +kernel) (by decide +kernel) ⟨rfl, rfl, rfl, rfl, rfl, by decide +kernel⟩ ?hw ?hc
  case hw => w_witness2
  case hc =>
    refine Lx.walk_G (l := PySem.Challenge.rw_linestream_k02_whole_tests_by_rules) (n := 63) (k := 94) (x := "_law_script") (CX := fun _ => L2.CX0) rfl (by decide) (by kernel_rfl) ⟨rfl, by decide, by decide⟩ ?F (fun _ _ _ _ _ z => z)
    intro w mg fa h Y G hmg0
    obtain ⟨K, KX, c⟩ := Y
    have hmg : mg ("law" : PySem.Str) = some (.ref fa) := by
      have e : (HandSHeadRun.topDef (OpenLaw.row PySem.Challenge.rw_linestream_k02_whole_tests_by_rules).prog 38).name = ("law" : PySem.Str) := by kernel_rfl
      rw [← e]
      exact hmg0
    have en : Lw.En K mg := ⟨c, h, KX, G⟩
    obtain ⟨fd, F⟩ := Lw.d_law en
    have e := hmg.symm.trans (Lw.gl_law en)
    cases e
    have b := L2.FunD.bindsA (ps := ["_law_script"]) F fun _ _ _ _ _ _ us hl => match us, hl with | [_], _ => rfl
    exact ⟨K, fd, Lx.spLaw K, KX, fun s v => b s [v] rfl, fun H a ns hl _ hS => ⟨a, ns, rfl, hS, fun _ => rfl⟩, fun base _ _ => Lw.fg_law en F Lw.plain⟩
