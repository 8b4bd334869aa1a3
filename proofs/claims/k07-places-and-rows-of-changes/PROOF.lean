import PyProof.Rows.All
import Wide.All
import OpenK.AllK
import Wide.FinOn
import HandS.ForMost
import HandS.HeadHook2
import HandS.Flow
import HandS.Defaults
import HandS.WordsExc
import HandS.Comp
import HandS.IsInst
import HandS.StrMore
import PyProof.ReprRoads
import KE.KSuper
import HandS.Property
import HandS.HeadEnd
import PyProof.CallFns
import HandS.Strs
import HandS.Style
import KE.DataMinMax
import PyProof.ListOps
import PyProof.Rows.CallKwBuiltin
import HandS.Dict
import HandS.More
import HandS.Head2
import HandS.ReplaceLit
import HandS.ReplaceDef
import HandS.Iter
import HandS.TryOnly
import KE.KRevSl
import HandS.SetTxt0
import HandS.Set
import PyProof.Rows.SortStr
import HandS.SetFor
import HandS.Lambda
import HandS.EndTab
import HandS.ExcInit
import HandS.Slots
import KE.KExcSuper
import HandS.ExcIs
import HandS.ExcField
import PyProof.StrBlock2
import KE.KExcIs
import PyProof.InstNe
import HandS.MakeKwOnly
import KE.KStateDown
import HandS.Head0
import HandS.Head1
import PySem.Challenge.RW_linestream_k07_places_and_rows_of_change
import PyProof.StrLawsIn
import PyProof.StrLaws
import HandS.OwnEq
import PyProof.EqKinds
import PyProof.NeKinds
import HandS.Small
import HandS.Replace
import HandS.Text
import HandS.List
import PyProof.StrReplace2
import KE.GoesMore
import KE.GoesZip
import KE.KDictZip
import PyProof.StrLawsTight
import PyProof.StrLawsFrom
import PyProof.ReprLen
set_option Elab.async false
set_option linter.all false
set_option maxRecDepth 100000
set_option maxHeartbeats 2000000
namespace Lx
open PySem L2
namespace W
end W
end Lx
set_option maxHeartbeats 4000000
namespace Lx
open PySem PySem.Spec L2 PyProof.Rows
inductive Ky where
  | t (n : String) | c (x : Str)
deriving DecidableEq
def vTy (K : PySem.W.Frag) : Ky → Value
  | .t s => .type s
  | .c c => .ref (He.ga K c)
end Lx
namespace Lx
open PySem PySem.Spec L2 PyProof.Rows He
def ppA (K : PySem.W.Frag) (x f : Str) : Addr := ma K (ga K x) f
def pgA (K : PySem.W.Frag) (x f : Str) : Addr := match PySem.W.recIn K (ppA K x f) "property" with
  | some (.ref g :: _) => g
  | _ => 0
inductive Pth where
  | fn (x : Str) | me (c m : Str) | pr (c f : Str)
def Pth.a (K : PySem.W.Frag) : Pth → Addr
  | .fn x => ga K x
  | .me c m => ma K (ga K c) m
  | .pr c f => pgA K c f
inductive Fm where
  | he (f : Fa)
  /-- class x's method m is class y's -/
  | meth (x m y : Str)
  /-- class x's property f is class y's -/
  | prop (x f y : Str)
  /-- class x is made by class y's init -/
  | ini (x y : Str)
  /-- in an init of class d, for an object of class x, super().__init__ is class y's -/
  | sup (x d y : Str)
  | own (x : Str)
  | isi (t c : Ky) (b : Bool)
  | top
def eqB (a b : Option Bool) : Bool := decide (a = b)
def Fm.ok (K : PySem.W.Frag) : Fm → Bool
  | .he f => f.ok K
  | .meth x m y => eqO (PySem.W.findIn K (.ref (ga K x)) m) (some (some (.ref (ma K (ga K y) m)))) && (PySem.W.isFn K (.ref (ma K (ga K y) m)) && PySem.W.keepIn K (.ref (ma K (ga K y) m)))
  | .prop x f y => eqO (PySem.W.findIn K (.ref (ga K x)) f) (some (some (.ref (ppA K y f)))) && (eqO (PySem.W.specialIn K (.ref (ppA K y f)) "__get__") (some (some (.builtin "property.__get__"))) && (eqB (PySem.W.takesIn K (.ref (ppA K y f))) (some true) &&
      (match PySem.W.recIn K (ppA K y f) "property" with | some (.ref _ :: _) => true | _ => false)))
  | .ini x y => PySem.W.makesIn K (ga K x) && (eqO (PySem.W.findIn K (.ref (ga K x)) "__init__") (some (some (.ref (ma K (ga K y) "__init__")))) && (PySem.W.isFn K (.ref (ma K (ga K y) "__init__")) && PySem.W.keepIn K (.ref (ga K x))))
  | .sup x d y => eqB (PySem.W.mroIn K (ga K x) (.ref (ga K d))) (some true) && (eqO (PySem.W.ks_superIn K (ga K x) (ga K d) "__init__") (some (some (.ref (ma K (ga K y) "__init__")))) && (decide (PySem.W.typeIn K (.ref (ma K (ga K y) "__init__")) = some (.type "function")) && PySem.W.fnIn K (ma K (ga K y) "__init__")))
  | .own x => eqO (PySem.W.findIn K (.ref (ga K x)) "__class__") (some (some (.builtin "object.__class__"))) && (eqO (PySem.W.specialIn K (.builtin "object.__class__") "__get__") (some (some (.builtin "getset_descriptor.__get__"))) && (eqB (PySem.W.takesIn K (.builtin "object.__class__")) (some true) && eqB (PySem.W.mroIn K (ga K x) (.type "object")) (some true)))
  | .isi t c b => eqB (PySem.W.kitOne K (vTy K t) (vTy K c)) (some b)
  | .top => eqO (PySem.W.nsIn K mainGlobals "super") (some none) && eqO (PySem.W.nsIn K cStatics "thirdparty.any") (some none)
structure DefM where
  at_ : Pth
  name : Str
  qual : Str
  params : Arguments
  body : List Stmt
  scope : Scope
  /-- the class of a def that says super() -/
  sup : Option Str := none
  dfl : List V := []
  kwd : List (Str × V) := []
abbrev FnM : Type := Option (Str × Str × Arguments × FuncBody × Scope × Addr × Addr)
def fnM (K : PySem.W.Frag) (a : Addr) : FnM := match K.lookup a with
  | some ⟨_, _, .func fd, _⟩ => some (fd.name, fd.qualname, fd.params, fd.body, fd.scope, fd.globals, fd.builtins)
  | _ => none
def DefM.val (d : DefM) : FnM := some (d.name, d.qual, d.params, .stmts d.body, d.scope, mainGlobals, builtinsNs)
def strB (file : Str) : Option Value → Bool
  | some (.str f _) => file == f
  | _ => false
def cloB (K : PySem.W.Frag) (file : Str) (fd : FuncData) : Option Str → Bool
  | none => (match fd.closure with | [] => true | _ => false)
  | some d => (match fd.closure with
    | [(x, cc)] => decide (x = "__class__") && ((match K.lookup cc with | some ⟨_, _, .cell (some (.ref D)), _⟩ => decide (D = ga K d) | _ => false) &&
      ((match fd.code with | .ref cda => (match K.lookup cda with | some ⟨_, _, .fields vs, _⟩ => strB file vs[2]? | _ => false) | _ => false) && (PySem.W.clsIn K (ga K d)).isSome))
    | _ => false)
def DefM.ok (K : PySem.W.Frag) (file : Str) (d : DefM) : Bool := PySem.W.keepIn K (.ref (d.at_.a K)) && (match K.lookup (d.at_.a K) with
  | some ⟨_, _, .func fd, _⟩ => PySem.W.codeIn K fd.code d.qual && ((dflB K fd.defaults d.dfl && kwdB K fd.kwdefaults d.kwd) && cloB K file fd d.sup)
  | _ => false)
end Lx
set_option maxHeartbeats 2000000
namespace Ly
open PySem L2
def tabOf (K : PySem.W.Frag) : Addr × Obj → Option (Addr × Addr × Str)
  | (_, ⟨_, _, .func fd, _⟩) => if fd.scope.names.any (fun y => decide (y.2 = .cell)) || decide (fd.name = "range_in") then (match fd.code with
    | .ref c => (match K.lookup c with
      | some ⟨_, _, .fields vs, _⟩ => (match (vs[11]? : Option Value) with
        | some (.ref P) => some (c, P, (PyProof.Rows.envOfC fd.qualname fd.scope 0 0 .none).qual ++ (if fd.name = "range_in" then "<genexpr>" else "<lambda>"))
        | _ => none)
      | _ => none)
    | _ => none) else none
  | _ => none
def tabs3 (K : PySem.W.Frag) : List (Addr × Addr × Str) := K.filterMap (tabOf K)
def tabsOf (K : PySem.W.Frag) : List (Addr × Str) := (tabs3 K).map (·.2)
end Ly
set_option maxHeartbeats 4000000
namespace Ly
open PySem PySem.Spec L2 PyProof.Rows He
def coA (K : PySem.W.Frag) (f : Addr) : Addr := match K.lookup f with
  | some ⟨_, _, .func fd, _⟩ => (match fd.code with | .ref c => c | _ => 0)
  | _ => 0
def tbA (K : PySem.W.Frag) (f : Addr) : Addr := match K.lookup (coA K f) with
  | some ⟨_, _, .fields vs, _⟩ => (match (vs[11]? : Option Value) with | some (.ref P) => P | _ => 0)
  | _ => 0
end Ly
namespace Ly
open PySem PySem.Spec L2 PyProof.Rows He
open Lx (Ky vTy Fm DefM FnM fnM eqB)
def oexB (K : PySem.W.Frag) (C : Addr) : Bool := match K.lookup C with
  | some ⟨.type t, _, .cls cd, sl⟩ => (match cd.mro, sl.toList with
    | .ref C' :: bm, [_, _, _, _, some (.builtin n), _] => decide (t = "type") && (decide (C' = C) && (decide (n = "ValueError.__new__") && (!cd.hasDel && (cd.hasDict && PySem.HandSPX.refsVE bm))))
    | _, _ => false)
  | _ => false
inductive Fy where
  | m (f : Fm)
  | nf (cs : List Str) (ts : List Ky)
  | eq (x y : Str)
  | exc (x fld : Str)
  | cat (x fld : Str)
  | lam (x q : Str)
  | ob (x : Str) (B newId initId : String) (tl : List String)
  | xfl (x fld : Str)
  | xis (x : Str)
  | xki (x : Str) (t : Ky) (b : Bool)
  | ex0 (x : Str) (newId : String) (tl : List String)
  | ns (cs : List Str)
  | exm (x y : Str) (b : Bool)
  | scl (x : Str)
  | slot (x f : Str) (i : Nat)
  | nb
def obB (K : PySem.W.Frag) (C : Addr) (newId : String) (tl : List String) : Bool := match K.lookup C with
  | some ⟨.type t, _, .cls cd, sl⟩ => (match cd.mro, sl.toList with
    | .ref C' :: bm, [_, _, _, _, some (.builtin n), _] => decide (t = "type") && (decide (C' = C) && (decide (n = newId) && (!cd.hasDel && (cd.hasDict && (bm == tl.map Value.type)))))
    | _, _ => false)
  | _ => false
def Fy.ok (K : PySem.W.Frag) : Fy → Bool
  | .m f => f.ok K
  | .nf cs ts => cs.all fun x => ts.all fun t => PySem.W.notFirst K (ga K x) (vTy K t)
  | .eq x y => He.eqO (PySem.W.findIn K (.ref (ga K x)) "__eq__") (some (some (.ref (ma K (ga K y) "__eq__")))) && (PySem.W.isFn K (.ref (ma K (ga K y) "__eq__")) && (He.eqO (PySem.W.findIn K (.ref (ga K x)) "__ne__") (some (some (.builtin "object.__ne__"))) && eqB (PySem.W.subIn K (.ref (ga K x)) (.type "object")) (some true)))
  | .exc x fld => oexB K (ga K x) && (He.eqO (PySem.W.findIn K (.ref (ga K x)) "__setattr__") (some (some (.builtin "object.__setattr__"))) && (eqB (PySem.W.subIn K (.ref (ga K x)) (.type "BaseException")) (some true) && (decide (PySem.W.typeIn K (.ref (ga K x)) = some (.type "type")) && (PySem.W.keepIn K (.ref (ga K x)) &&
      (He.eqO (PySem.W.ks_superIn K (ga K x) (ga K x) "__init__") (some (some (.builtin "ValueError.__init__"))) && (eqB (PySem.W.mroIn K (ga K x) (.ref (ga K x))) (some true) && (eqB (PySem.W.subIn K (.ref (ga K x)) (.type "ValueError")) (some true) && (He.eqO (PySem.W.findIn K (.ref (ga K x)) fld) (some none) &&
      (He.eqO (PySem.W.findIn K (.ref (ga K x)) "__init__") (some (some (.ref (ma K (ga K x) "__init__")))) && decide (PySem.W.typeIn K (.ref (ma K (ga K x) "__init__")) = some (.type "function")))))))))))
  | .cat x fld => eqB (PySem.W.exmOne K (.ref (ga K x)) (.ref (ga K x))) (some true) && (xfB K (ga K x) && (He.eqO (PySem.W.findIn K (.ref (ga K x)) fld) (some none) && (He.eqO (PySem.W.findIn K (.ref (ga K x)) "__class__") (some (some (.builtin "object.__class__"))) &&
      (He.eqO (PySem.W.specialIn K (.builtin "object.__class__") "__get__") (some (some (.builtin "getset_descriptor.__get__"))) && (eqB (PySem.W.takesIn K (.builtin "object.__class__")) (some true) && (eqB (PySem.W.mroIn K (ga K x) (.type "object")) (some true) && eqB (PySem.W.kitOne K (.ref (ga K x)) (.type "ValueError")) (some true)))))))
  | .ob x B newId initId tl => obB K (ga K x) newId tl && (He.eqO (PySem.W.findIn K (.ref (ga K x)) "__setattr__") (some (some (.builtin "object.__setattr__"))) && (eqB (PySem.W.subIn K (.ref (ga K x)) (.type "BaseException")) (some true) && (decide (PySem.W.typeIn K (.ref (ga K x)) = some (.type "type")) && (PySem.W.keepIn K (.ref (ga K x)) &&
      (He.eqO (PySem.W.ks_superIn K (ga K x) (ga K x) "__init__") (some (some (.builtin initId))) && (eqB (PySem.W.mroIn K (ga K x) (.ref (ga K x))) (some true) && (eqB (PySem.W.subIn K (.ref (ga K x)) (.type B)) (some true) &&
      (He.eqO (PySem.W.findIn K (.ref (ga K x)) "__init__") (some (some (.ref (ma K (ga K x) "__init__")))) && decide (PySem.W.typeIn K (.ref (ma K (ga K x) "__init__")) = some (.type "function"))))))))))
  | .xfl x fld => xfB K (ga K x) && He.eqO (PySem.W.findIn K (.ref (ga K x)) fld) (some none)
  | .xis x => xfB K (ga K x) && (He.eqO (PySem.W.findIn K (.ref (ga K x)) "__class__") (some (some (.builtin "object.__class__"))) && (He.eqO (PySem.W.specialIn K (.builtin "object.__class__") "__get__") (some (some (.builtin "getset_descriptor.__get__"))) && (eqB (PySem.W.takesIn K (.builtin "object.__class__")) (some true) && eqB (PySem.W.mroIn K (ga K x) (.type "object")) (some true))))
  | .xki x t b => eqB (PySem.W.kitOne K (.ref (ga K x)) (vTy K t)) (some b)
  | .ex0 x newId tl => PySem.W.excIn K (ga K x) (tl.map Value.type) newId && PySem.W.keepIn K (.ref (ga K x))
  | .ns cs => cs.all fun x => (["NoneType", "bool", "int", "str", "list", "tuple", "dict"] : List String).all fun T => eqB (PySem.W.subIn K (.ref (ga K x)) (.type T)) (some false)
  | .exm x y b => eqB (PySem.W.exmOne K (.ref (ga K x)) (.ref (ga K y))) (some b)
  | .scl x => PySem.W.plainGet K (ga K x) Str.empty && (PySem.W.isClsIn K (ga K x) && (PySem.W.plainOver K (ga K x) && He.eqO (PySem.W.findIn K (.ref (ga K x)) "__setattr__") (some (some (.builtin "object.__setattr__")))))
  | .slot x f i => He.eqO (PySem.W.findIn K (.ref (ga K x)) f) (some (some (.ref (ma K (ga K x) f)))) && (He.eqO (PySem.W.specialIn K (.ref (ma K (ga K x) f)) "__get__") (some (some (.builtin "member_descriptor.__get__"))) && (eqB (PySem.W.takesIn K (.ref (ma K (ga K x) f))) (some true) && (decide (PySem.W.typeIn K (.ref (ma K (ga K x) f)) = some (.type "member_descriptor")) && (decide (PySem.W.slotIn K (ma K (ga K x) f) (ga K x) = some i) && decide (i < 1000)))))
  | .nb => (match K.lookup cStatics with
    | some ⟨_, _, .dict es _, _⟩ => es.all (fun e => match e.key with | .str _ _ => true | _ => false) && (nsFind es sharingNotToldKey).isNone
    | _ => false)
  | .lam x q => decide ((coA K (ga K x), tbA K (ga K x), q) ∈ tabs3 K) && (tabsOf K).all fun p => !decide (p.1 = tbA K (ga K x)) || decide (p.2 = q)
def isTb : Option Obj → Bool
  | some ⟨.none, none, .fields vs, sl⟩ => vs.isEmpty && sl.isEmpty
  | _ => false
theorem isTb_ok {o : Option Obj} (h : isTb o = true) : o = some { cls := .none, data := .fields #[] } := by
  unfold isTb at h
  split at h
  · rename_i vs sl
    obtain ⟨h1, h2⟩ := ba h
    have e1 : vs = #[] := by simpa using h1
    have e2 : sl = #[] := by simpa using h2
    subst e1 e2
    rfl
  · cases h
def codeB (K : PySem.W.Frag) (c P : Addr) : Bool := match K.lookup c with
  | some ⟨.type t, _, .fields vs, _⟩ => decide (t = "code") && ((match (vs[11]? : Option Value) with | some (.ref Q) => decide (Q = P) | _ => false) && ((match vs.getD 18 .none with | .str _ _ => true | _ => false) && ((match vs.getD 7 .none with | .int _ _ => true | _ => false) &&
      ((match vs.getD 9 .none with | .bool _ => true | _ => false) && ((match vs.getD 10 .none with | .int _ _ => true | _ => false) && !decide (c = P))))))
  | _ => false
theorem codeB_ok {K : PySem.W.Frag} {h : Heap} {c P : Addr} (X : K.In h) (b : codeB K c P = true) : PySem.W.CodeHd h c P := by
  unfold codeB at b
  split at b
  · rename_i t dd vs sl e
    obtain ⟨h1, b⟩ := ba b
    obtain ⟨h2, b⟩ := ba b
    obtain ⟨h3, b⟩ := ba b
    obtain ⟨h4, b⟩ := ba b
    obtain ⟨h5, b⟩ := ba b
    obtain ⟨h6, h7⟩ := ba b
    have e1 := of_decide_eq_true h1
    subst e1
    have e11 : vs[11]? = some (.ref P) := by
      split at h2
      · rename_i Q e2
        rw [e2, of_decide_eq_true h2]
      · cases h2
    have g11 : vs.getD 11 .none = .ref P := by
      rw [Array.getD_eq_getD_getElem?, e11]; rfl
    split at h3
    · rename_i f tf ef
      split at h4
      · rename_i fl tg efl
        split at h5
        · rename_i inF ein
          split at h6
          · rename_i tx tt etx
            exact ⟨_, vs, f, tf, fl, tg, inF, tx, tt, X _ _ e, rfl, rfl, e11, g11, ef, efl, ein, etx, by simpa using h7⟩
          · cases h6
        · cases h5
      · cases h4
    · cases h3
  · cases b
def smB : Option Obj → Bool
  | some o => decide (o.cls = .type "dict")
  | none => false
theorem smB_ok {o : Option Obj} (h : smB o = true) : ∃ u, o = some u ∧ u.cls = .type "dict" := by
  cases o with
  | none => cases h
  | some u => exact ⟨u, rfl, of_decide_eq_true h⟩
def visY (g : Addr → Option Obj) : List Addr → Nat → List Addr → List Addr → Nat × List Addr × List Addr
  | [], bits, nw, acc => (bits, nw, acc)
  | a :: r, bits, nw, acc => match Nat.beq (Nat.mod (Nat.shiftRight bits a) 2) 1 with
    | true => visY g r bits nw acc
    | false => visY g r (Nat.add bits (Nat.shiftLeft 1 a)) (match g a with | some o => refsD o ++ nw | none => nw) (a :: acc)
def bfsY (g : Addr → Option Obj) : Nat → List Addr → Nat → List Addr → List Addr
  | 0, _, _, acc => acc.reverse
  | n + 1, fr, bits, acc => match visY g fr bits [] acc with
    | (b, nw, ac) => bfsY g n nw b ac
def asY (g : Addr → Option Obj) (n : Nat) : List Addr := (bfsY g (n + 1) [mainGlobals, cStatics] 0 []).filter fun a => !isTb (g a)
theorem look_mem {α : Type} {a : Addr} {o : α} : ∀ {l : List (Addr × α)}, l.lookup a = some o → (a, o) ∈ l
  | [], h => by cases h
  | (b, u) :: r, h => by
    rw [List.lookup_cons] at h
    cases q : (a == b) with
    | true => rw [q] at h; cases h; rw [eq_of_beq q]; exact List.mem_cons_self
    | false => rw [q] at h; exact List.mem_cons_of_mem _ (look_mem h)
theorem frG_mem {g : Addr → Option Obj} {as : List Addr} {a : Addr} {o : Obj} (h : (frG g as).lookup a = some o) : a ∈ as := by
  have hm := look_mem h
  unfold frG at hm
  obtain ⟨b, hb, e⟩ := List.mem_filterMap.mp hm
  cases q : g b with
  | none => rw [q] at e; cases e
  | some u => rw [q] at e; cases e; exact hb
abbrev AlY : Type := Bool × List FnM
def obsY (file : Str) (fa : List Fy) (fn : List DefM) (g : Addr → Option Obj) (K : PySem.W.Frag) : AlY := ((fa.all fun f => f.ok K) && ((fn.all fun d => d.ok K file) && (smB (g sysModules) && (tabs3 K).all fun t => isTb (g t.2.1) && codeB K t.1 t.2.1)), fn.map fun d => fnM K (d.at_.a K))
def valY (fn : List DefM) : AlY := (true, fn.map DefM.val)
structure SaysY (file : Str) (fa : List Fy) (fn : List DefM) (K : PySem.W.Frag) : Prop where
  fa : (fa.all fun f => f.ok K) = true
  ok : (fn.all fun d => d.ok K file) = true
  fn : (fn.map fun d => fnM K (d.at_.a K)) = fn.map DefM.val
def SmY (h : Heap) : Prop := ∃ o, h.get? sysModules = some o ∧ o.cls = .type "dict"
def TabsY (K : PySem.W.Frag) (h : Heap) : Prop := ∀ t ∈ tabs3 K, h.get? t.2.1 = some { cls := .none, data := .fields #[] } ∧ PySem.W.CodeHd h t.1 t.2.1 ∧ K.lookup t.2.1 = none
def obsYG (n : Nat) (file : Str) (fa : List Fy) (fn : List DefM) (g : Addr → Option Obj) : AlY := obsY file fa fn g (frG g (asY g n))
def hookY (n : Nat) (file : Str) (fa : List Fy) (fn : List DefM) : PySem.W.Hook where
  α := AlY
  obs := fun s => obsYG n file fa fn s.heap.get?
  val := fun _ => valY fn
  says := fun _ h => ∃ K : PySem.W.Frag, K.In h ∧ SaysY file fa fn K ∧ TabsY K h ∧ SmY h
  of := fun _ s e => by
    refine ⟨frG s.heap.get? (asY s.heap.get? n), frG_in, ?_, ?_, ?_⟩
    · have c := congrArg (fun z : AlY => z.1) e
      obtain ⟨c1, c2⟩ := ba (show ((fa.all fun f => f.ok (frG s.heap.get? (asY s.heap.get? n))) && _) = true from c)
      obtain ⟨c3, _⟩ := ba c2
      exact ⟨c1, c3, congrArg (fun z : AlY => z.2) e⟩
    · have c := congrArg (fun z : AlY => z.1) e
      obtain ⟨c1, c2⟩ := ba (show ((fa.all fun f => f.ok (frG s.heap.get? (asY s.heap.get? n))) && _) = true from c)
      obtain ⟨_, c4⟩ := ba c2
      obtain ⟨_, c4⟩ := ba c4
      intro t ht
      obtain ⟨d1, d2⟩ := ba (List.all_eq_true.mp c4 t ht)
      refine ⟨isTb_ok d1, codeB_ok frG_in d2, ?_⟩
      cases q : (frG s.heap.get? (asY s.heap.get? n)).lookup t.2.1 with
      | none => rfl
      | some o =>
        have hm := (List.mem_filter.mp (frG_mem q)).2
        rw [d1] at hm
        cases hm
    · have c := congrArg (fun z : AlY => z.1) e
      obtain ⟨c1, c2⟩ := ba (show ((fa.all fun f => f.ok (frG s.heap.get? (asY s.heap.get? n))) && _) = true from c)
      obtain ⟨_, c4⟩ := ba c2
      obtain ⟨c5, _⟩ := ba c4
      exact smB_ok c5
  keeps := fun _ _ _ ⟨K, hK, c, t, o, e1, e2⟩ k => ⟨K, PySem.W.Frag.In.keeps hK k, c, fun p hp => ⟨k _ _ (t p hp).1, (t p hp).2.1.keeps k, (t p hp).2.2⟩, o, k _ _ e1, e2⟩
end Ly
namespace Lh
open PySem PySem.W PySem.Calls PyProof.Rows HandSHeadRun
def RunA (r : OpenRow) (M : Nat) (w : World) : Prop := ∀ os : OsState, (endF (stepQ (denQ tabQ) r.prog w) M r.prog w os).map (fun s => looksF r.prog (boot_heap w.params) s.abs) = some true
def RunB (r : OpenRow) (q : Program) (M : Nat) (loose : List PySem.Str) (w : World) : Prop := ∀ os : OsState, (endF (stepQ (denQ tabQ) r.prog w) M r.prog w os).map (fun s => seenQ q loose (importedModules r.prog.main.body) (fun s => xlAt q [] s && recOk r.toRowW.records s) s.abs) = some (openGood q loose)
def RunC (r : OpenRow) (H : Hook) (ob : SharedT → H.α) (M : Nat) (w : World) : Prop := ∀ os : OsState, (endF (stepQ (denQ tabQ) r.prog w) M r.prog w os).map ob = some (H.val w)
theorem run_of {r : OpenRow} {q : Program} {H : Hook} {ob : SharedT → H.α} {M : Nat} {loose : List PySem.Str} {w : World} (a : RunA r M w) (b : RunB r q M loose w) (c : RunC r H ob M w) : RunEq r q H ob M loose w := fun os => by
  have a := a os
  have b := b os
  have c := c os
  revert a b c
  cases endF (stepQ (denQ tabQ) r.prog w) M r.prog w os with
  | none => intro a; cases a
  | some s =>
    intro a b c
    have a : looksF r.prog (boot_heap w.params) s.abs = true := Option.some.inj a
    have b := Option.some.inj b
    have c : ob s = H.val w := Option.some.inj c
    show some (looksF r.prog (boot_heap w.params) s.abs, seenQ q loose (importedModules r.prog.main.body) (fun s => xlAt q [] s && recOk r.toRowW.records s) s.abs, ob s) = _
    rw [a, c]
    exact congrArg (fun x => some (true, x, H.val w)) b
end Lh
namespace Lw
open PySem PySem.Spec L2 PyProof.Rows He Ly
open Lx (DefM vTy pgA Fm Ky)
abbrev PW : Program := PySem.Challenge.pw_linestream_k07_places_and_rows_of_change
def top (i : Nat) : Stmt := PW.main.body.getD i (.Pass ⟨0, 0, 0, 0⟩)
abbrev s_LineChange_eq : Stmt := inClass (top 10) 1
abbrev s__law_draw : Stmt := top 21
abbrev s__law_pick : Stmt := top 22
abbrev s__law_signs : Stmt := top 23
abbrev s__law_few : Stmt := top 24
abbrev s__law_row : Stmt := top 25
abbrev s__law_deed : Stmt := top 26
abbrev s__law_jdeeds : Stmt := top 32
abbrev s__law_deed_done : Stmt := top 27
abbrev s__law_jdone : Stmt := top 31
abbrev s__law_jline : Stmt := top 30
abbrev s_is_line : Stmt := top 3
abbrev s_is_word : Stmt := top 4
abbrev s_LineChange_init : Stmt := inClass (top 10) 0
abbrev s_EndChange_init : Stmt := inClass (top 15) 0
abbrev s_Behind_init : Stmt := inClass (top 17) 0
abbrev s_PlaceChange_init : Stmt := inClass (top 11) 0
abbrev s_Every_init : Stmt := inClass (top 13) 0
abbrev s_First_init : Stmt := inClass (top 12) 0
abbrev s_Front_init : Stmt := inClass (top 16) 0
abbrev s_Swap_init : Stmt := inClass (top 14) 0
abbrev s__law_made_deed : Stmt := top 28
abbrev s__law_jmade_deeds : Stmt := top 33
abbrev s__law_jwords : Stmt := top 29
abbrev s__law_pen : Stmt := top 20
abbrev s_Swap_letters : Stmt := inClass (top 14) 1
abbrev s_PlaceChange_new : Stmt := inClass (top 11) 2
abbrev s_PlaceChange_old : Stmt := inClass (top 11) 1
abbrev s_Swap_others : Stmt := inClass (top 14) 2
abbrev s_EndChange_word : Stmt := inClass (top 15) 1
abbrev s_First_done : Stmt := inClass (top 12) 1
abbrev s_Every_done : Stmt := inClass (top 13) 1
abbrev s_Swap_done : Stmt := inClass (top 14) 3
abbrev s_Front_done : Stmt := inClass (top 16) 1
abbrev s_Behind_done : Stmt := inClass (top 17) 1
abbrev s_done_all : Stmt := top 18
abbrev s_places : Stmt := top 9
abbrev s_law : Stmt := top 34
def dm_LineChange_eq : DefM := ⟨(.me "LineChange" "__eq__"), "__eq__", "LineChange.__eq__", defArgs s_LineChange_eq, defBody s_LineChange_eq, defScope s_LineChange_eq, none, [], []⟩
def dm__law_draw : DefM := ⟨(.fn "_law_draw"), "_law_draw", "_law_draw", defArgs s__law_draw, defBody s__law_draw, defScope s__law_draw, none, [], []⟩
def dm__law_pick : DefM := ⟨(.fn "_law_pick"), "_law_pick", "_law_pick", defArgs s__law_pick, defBody s__law_pick, defScope s__law_pick, none, [], []⟩
def dm__law_signs : DefM := ⟨(.fn "_law_signs"), "_law_signs", "_law_signs", defArgs s__law_signs, defBody s__law_signs, defScope s__law_signs, none, [], []⟩
def dm__law_few : DefM := ⟨(.fn "_law_few"), "_law_few", "_law_few", defArgs s__law_few, defBody s__law_few, defScope s__law_few, none, [], []⟩
def dm__law_row : DefM := ⟨(.fn "_law_row"), "_law_row", "_law_row", defArgs s__law_row, defBody s__law_row, defScope s__law_row, none, [], []⟩
def dm__law_deed : DefM := ⟨(.fn "_law_deed"), "_law_deed", "_law_deed", defArgs s__law_deed, defBody s__law_deed, defScope s__law_deed, none, [], []⟩
def dm__law_jdeeds : DefM := ⟨(.fn "_law_jdeeds"), "_law_jdeeds", "_law_jdeeds", defArgs s__law_jdeeds, defBody s__law_jdeeds, defScope s__law_jdeeds, none, [], []⟩
def dm__law_deed_done : DefM := ⟨(.fn "_law_deed_done"), "_law_deed_done", "_law_deed_done", defArgs s__law_deed_done, defBody s__law_deed_done, defScope s__law_deed_done, none, [], []⟩
def dm__law_jdone : DefM := ⟨(.fn "_law_jdone"), "_law_jdone", "_law_jdone", defArgs s__law_jdone, defBody s__law_jdone, defScope s__law_jdone, none, [], []⟩
def dm__law_jline : DefM := ⟨(.fn "_law_jline"), "_law_jline", "_law_jline", defArgs s__law_jline, defBody s__law_jline, defScope s__law_jline, none, [], []⟩
def dm_is_line : DefM := ⟨(.fn "is_line"), "is_line", "is_line", defArgs s_is_line, defBody s_is_line, defScope s_is_line, none, [], []⟩
def dm_is_word : DefM := ⟨(.fn "is_word"), "is_word", "is_word", defArgs s_is_word, defBody s_is_word, defScope s_is_word, none, [], []⟩
def dm_LineChange_init : DefM := ⟨(.me "LineChange" "__init__"), "__init__", "LineChange.__init__", defArgs s_LineChange_init, defBody s_LineChange_init, defScope s_LineChange_init, none, [], []⟩
def dm_EndChange_init : DefM := ⟨(.me "EndChange" "__init__"), "__init__", "EndChange.__init__", defArgs s_EndChange_init, defBody s_EndChange_init, defScope s_EndChange_init, some "EndChange", [], []⟩
def dm_Behind_init : DefM := ⟨(.me "Behind" "__init__"), "__init__", "Behind.__init__", defArgs s_Behind_init, defBody s_Behind_init, defScope s_Behind_init, some "Behind", [], []⟩
def dm_PlaceChange_init : DefM := ⟨(.me "PlaceChange" "__init__"), "__init__", "PlaceChange.__init__", defArgs s_PlaceChange_init, defBody s_PlaceChange_init, defScope s_PlaceChange_init, some "PlaceChange", [], []⟩
def dm_Every_init : DefM := ⟨(.me "Every" "__init__"), "__init__", "Every.__init__", defArgs s_Every_init, defBody s_Every_init, defScope s_Every_init, some "Every", [], []⟩
def dm_First_init : DefM := ⟨(.me "First" "__init__"), "__init__", "First.__init__", defArgs s_First_init, defBody s_First_init, defScope s_First_init, some "First", [], []⟩
def dm_Front_init : DefM := ⟨(.me "Front" "__init__"), "__init__", "Front.__init__", defArgs s_Front_init, defBody s_Front_init, defScope s_Front_init, some "Front", [], []⟩
def dm_Swap_init : DefM := ⟨(.me "Swap" "__init__"), "__init__", "Swap.__init__", defArgs s_Swap_init, defBody s_Swap_init, defScope s_Swap_init, some "Swap", [], []⟩
def dm__law_made_deed : DefM := ⟨(.fn "_law_made_deed"), "_law_made_deed", "_law_made_deed", defArgs s__law_made_deed, defBody s__law_made_deed, defScope s__law_made_deed, none, [], []⟩
def dm__law_jmade_deeds : DefM := ⟨(.fn "_law_jmade_deeds"), "_law_jmade_deeds", "_law_jmade_deeds", defArgs s__law_jmade_deeds, defBody s__law_jmade_deeds, defScope s__law_jmade_deeds, none, [], []⟩
def dm__law_jwords : DefM := ⟨(.fn "_law_jwords"), "_law_jwords", "_law_jwords", defArgs s__law_jwords, defBody s__law_jwords, defScope s__law_jwords, none, [], []⟩
def dm__law_pen : DefM := ⟨(.fn "_law_pen"), "_law_pen", "_law_pen", defArgs s__law_pen, defBody s__law_pen, defScope s__law_pen, none, [], []⟩
def dm_Swap_letters : DefM := ⟨(.pr "Swap" "letters"), "letters", "Swap.letters", defArgs s_Swap_letters, defBody s_Swap_letters, defScope s_Swap_letters, none, [], []⟩
def dm_PlaceChange_new : DefM := ⟨(.pr "PlaceChange" "new"), "new", "PlaceChange.new", defArgs s_PlaceChange_new, defBody s_PlaceChange_new, defScope s_PlaceChange_new, none, [], []⟩
def dm_PlaceChange_old : DefM := ⟨(.pr "PlaceChange" "old"), "old", "PlaceChange.old", defArgs s_PlaceChange_old, defBody s_PlaceChange_old, defScope s_PlaceChange_old, none, [], []⟩
def dm_Swap_others : DefM := ⟨(.pr "Swap" "others"), "others", "Swap.others", defArgs s_Swap_others, defBody s_Swap_others, defScope s_Swap_others, none, [], []⟩
def dm_EndChange_word : DefM := ⟨(.pr "EndChange" "word"), "word", "EndChange.word", defArgs s_EndChange_word, defBody s_EndChange_word, defScope s_EndChange_word, none, [], []⟩
def dm_First_done : DefM := ⟨(.me "First" "done"), "done", "First.done", defArgs s_First_done, defBody s_First_done, defScope s_First_done, none, [], []⟩
def dm_Every_done : DefM := ⟨(.me "Every" "done"), "done", "Every.done", defArgs s_Every_done, defBody s_Every_done, defScope s_Every_done, none, [], []⟩
def dm_Swap_done : DefM := ⟨(.me "Swap" "done"), "done", "Swap.done", defArgs s_Swap_done, defBody s_Swap_done, defScope s_Swap_done, none, [], []⟩
def dm_Front_done : DefM := ⟨(.me "Front" "done"), "done", "Front.done", defArgs s_Front_done, defBody s_Front_done, defScope s_Front_done, none, [], []⟩
def dm_Behind_done : DefM := ⟨(.me "Behind" "done"), "done", "Behind.done", defArgs s_Behind_done, defBody s_Behind_done, defScope s_Behind_done, none, [], []⟩
def dm_done_all : DefM := ⟨(.fn "done_all"), "done_all", "done_all", defArgs s_done_all, defBody s_done_all, defScope s_done_all, none, [], []⟩
def dm_places : DefM := ⟨(.fn "places"), "places", "places", defArgs s_places, defBody s_places, defScope s_places, none, [], []⟩
def dm_law : DefM := ⟨(.fn "law"), "law", "law", defArgs s_law, defBody s_law, defScope s_law, none, [], []⟩
def fn : List DefM := [dm_LineChange_eq, dm__law_draw, dm__law_pick, dm__law_signs, dm__law_few, dm__law_row, dm__law_deed, dm__law_jdeeds, dm__law_deed_done, dm__law_jdone, dm__law_jline, dm_is_line, dm_is_word, dm_LineChange_init, dm_EndChange_init, dm_Behind_init, dm_PlaceChange_init, dm_Every_init, dm_First_init, dm_Front_init, dm_Swap_init, dm__law_made_deed, dm__law_jmade_deeds, dm__law_jwords, dm__law_pen, dm_Swap_letters, dm_PlaceChange_new, dm_PlaceChange_old, dm_Swap_others, dm_EndChange_word, dm_First_done, dm_Every_done, dm_Swap_done, dm_Front_done, dm_Behind_done, dm_done_all, dm_places, dm_law]
def fa0 : List Fy := [.m (.he (.glo "LineChange")), .m (.he (.free "isinstance")), .nf ["First", "Every", "Swap", "Front", "Behind"] [.t "NoneType", .t "bool", .t "int", .t "str", .t "list", .t "tuple", .t "dict", .c "First", .c "Every", .c "Swap", .c "Front", .c "Behind"], .ns ["First", "Every", "Swap", "Front", "Behind"], .m (.own "First"), .m (.he (.cls "First")), .m (.own "Every"), .m (.he (.cls "Every")), .m (.own "Swap"), .m (.he (.cls "Swap")), .m (.own "Front"), .m (.he (.cls "Front")), .m (.own "Behind"), .m (.he (.cls "Behind")), .eq "Behind" "LineChange", .eq "Front" "LineChange", .eq "Swap" "LineChange", .eq "Every" "LineChange", .eq "First" "LineChange", .m (.he (.free "abs")), .m (.he (.free "len")), .m (.he (.free "int")), .m (.he (.glo "_law_draw")), .m (.he (.glo "_law_pick")), .m (.he (.free "range")), .m (.he (.glo "_law_signs")), .m (.he (.glo "_law_row")), .m (.he (.glo "_law_deed")), .m (.he (.glo "_law_deed_done")), .m (.he (.free "list")), .m (.he (.free "str")), .m (.he (.str "LETTERS" " !\"#$&'()*+,-./0123456789:;<=>?@ABCDEFGHIJKLMNOPQRSTUVWXYZ[\\]^_`abcdefghijklmnopqrstuvwxyz{|}~")), .m (.he (.free "all")), .m (.he (.glo "is_line")), .m (.he (.noat "First" "own_texts")), .m (.he (.noat "Every" "own_texts")), .m (.he (.noat "Swap" "own_texts")), .m (.he (.noat "Front" "own_texts")), .m (.he (.noat "Behind" "own_texts")), .m (.he (.noat "First" "own_kind"))]
def fa1 : List Fy := [.m (.he (.noat "Every" "own_kind")), .m (.he (.noat "Swap" "own_kind")), .m (.he (.noat "Front" "own_kind")), .m (.he (.noat "Behind" "own_kind")), .m (.top), .m (.he (.int "MAX_WORD" 8)), .m (.he (.glo "is_word")), .m (.sup "Front" "EndChange" "LineChange"), .m (.sup "Behind" "EndChange" "LineChange"), .m (.sup "Behind" "Behind" "EndChange"), .m (.sup "First" "PlaceChange" "LineChange"), .m (.sup "Every" "PlaceChange" "LineChange"), .m (.sup "Every" "Every" "PlaceChange"), .m (.sup "First" "First" "PlaceChange"), .m (.sup "Front" "Front" "EndChange"), .m (.he (.free "set")), .m (.sup "Swap" "Swap" "LineChange"), .m (.ini "First" "First"), .m (.he (.glo "First")), .m (.ini "Every" "Every"), .m (.he (.glo "Every")), .m (.ini "Swap" "Swap"), .m (.he (.glo "Swap")), .m (.ini "Front" "Front"), .m (.he (.glo "Front")), .m (.ini "Behind" "Behind"), .m (.he (.glo "Behind")), .m (.he (.glo "_law_made_deed")), .m (.prop "Swap" "letters" "Swap"), .m (.prop "Every" "new" "PlaceChange"), .m (.prop "First" "new" "PlaceChange"), .m (.prop "Every" "old" "PlaceChange"), .m (.prop "First" "old" "PlaceChange"), .m (.prop "Swap" "others" "Swap"), .m (.prop "Behind" "word" "EndChange"), .m (.prop "Front" "word" "EndChange"), .nb, .m (.he (.free "dict")), .m (.he (.free "zip")), .m (.meth "Behind" "done" "Behind")]
def fa2 : List Fy := [.m (.meth "Front" "done" "Front"), .m (.meth "Swap" "done" "Swap"), .m (.meth "Every" "done" "Every"), .m (.meth "First" "done" "First"), .m (.he (.free "repr")), .m (.he (.glo "_law_jdone")), .m (.he (.free "tuple")), .m (.he (.glo "done_all")), .m (.he (.glo "places")), .m (.he (.glo "_law_jline")), .m (.he (.glo "_law_jwords")), .m (.he (.free "sum")), .m (.he (.glo "_law_jmade_deeds")), .m (.he (.glo "_law_jdeeds")), .m (.he (.glo "_law_few")), .m (.he (.glo "_law_pen")), .m (.he (.glo "law")), .m (.isi (.c "Behind") (.c "LineChange") true), .m (.isi (.c "Front") (.c "LineChange") true), .m (.isi (.c "Swap") (.c "LineChange") true), .m (.isi (.c "Every") (.c "LineChange") true), .m (.isi (.c "First") (.c "LineChange") true), .m (.isi (.t "dict") (.c "LineChange") false), .m (.isi (.t "tuple") (.c "LineChange") false), .m (.isi (.t "list") (.c "LineChange") false), .m (.isi (.t "str") (.c "LineChange") false), .m (.isi (.t "int") (.c "LineChange") false), .m (.isi (.t "bool") (.c "LineChange") false), .m (.isi (.t "NoneType") (.c "LineChange") false), .m (.isi (.c "Behind") (.t "str") false), .m (.isi (.c "Front") (.t "str") false), .m (.isi (.c "Swap") (.t "str") false), .m (.isi (.c "Every") (.t "str") false), .m (.isi (.c "First") (.t "str") false), .m (.isi (.t "dict") (.t "str") false), .m (.isi (.t "tuple") (.t "str") false), .m (.isi (.t "list") (.t "str") false), .m (.isi (.t "str") (.t "str") true), .m (.isi (.t "int") (.t "str") false), .m (.isi (.t "bool") (.t "str") false)]
def fa3 : List Fy := [.m (.isi (.t "NoneType") (.t "str") false)]
def fa : List Fy := fa0 ++ fa1 ++ fa2 ++ fa3
abbrev file : Str := PW.main.file
end Lw
set_option maxHeartbeats 0
namespace Lw
open PySem PySem.Spec PyProof.Rows L2 He Ly
abbrev R : PySem.W.OpenRow := PySem.W.OpenLaw.row PySem.Challenge.rw_linestream_k07_places_and_rows_of_change
abbrev hk : PySem.W.Hook := hookY 7 file fa fn
def ob (s : PySem.W.SharedT) : AlY := obsYG 7 file fa fn (HandSHeadRun.getT s)
def names0 : List PySem.Str := ["_wall", "__name__", "LETTERS", "is_line", "is_word", "InvalidChange", "MAX_WORD", "places", "LineChange", "PlaceChange", "First", "Every", "Swap", "EndChange", "Front", "Behind", "done_all", "_law_pen", "_law_draw", "_law_pick", "_law_signs", "_law_few", "_law_row", "_law_deed", "_law_deed_done", "_law_made_deed", "_law_jwords", "_law_jline", "_law_jdone", "_law_jdeeds"]
def names1 : List PySem.Str := ["_law_jmade_deeds"]
def names : List PySem.Str := names0 ++ names1
theorem runA (w : World) : Lh.RunA R 12000 w := by
  intro os
  kernel_rfl
theorem runB (w : World) : Lh.RunB R (PySem.W.view R.prog [34]) 12000 names w := by
  intro os
  kernel_rfl
theorem runC (w : World) : Lh.RunC R hk ob 12000 w := by
  intro os
  kernel_rfl
theorem run (w : World) : HandSHeadRun.RunEq R (PySem.W.view R.prog [34]) hk ob 12000 names w := Lh.run_of (runA w) (runB w) (runC w)
end Lw
set_option maxHeartbeats 4000000
set_option maxHeartbeats 2000000
set_option maxHeartbeats 4000000
set_option maxHeartbeats 2000000
namespace Lt
open PySem PySem.Spec L2 PyProof.Rows
end Lt
namespace PySem
open Builtin Builtin.Str
namespace SC
end SC
end PySem
set_option maxHeartbeats 4000000
set_option maxHeartbeats 0
set_option maxHeartbeats 2000000
namespace Lx
open PySem L2
inductive D where
  | non | bl (b : Bool) | int (i : Int) | str (x : Str)
  | lst (xs : List D) | tup (xs : List D) | obj (c : Str) (fs : List (Str × D)) | pen | sct (ns : List Int) | adr (a : Addr)
structure Xn where
  cls : Str
  fs : List (Str × D)
structure W (A : Type) where
  wp : Nat → (Nat → A → Prop) → (Nat → Xn → Prop) → Prop
  mono : ∀ {n : Nat} {Q R : Nat → A → Prop} {E G : Nat → Xn → Prop}, (∀ m a, Q m a → R m a) → (∀ m x, E m x → G m x) → wp n Q E → wp n R G
namespace W
variable {A B : Type}
@[reducible] def stuck : W A := ⟨fun _ _ _ => False, fun _ _ p => p⟩
@[reducible] def need (c : Prop) (m : W A) : W A := ⟨fun n Q E => c ∧ m.wp n Q E, fun h g p => ⟨p.1, m.mono h g p.2⟩⟩
@[reducible] def any (c : Nat) (P : A → Prop) : W A := ⟨fun n Q _ => ∃ k, n = k + c ∧ ∀ a, P a → Q k a, fun h _ ⟨k, e, p⟩ => ⟨k, e, fun a q => h _ _ (p a q)⟩⟩
end W
mutual
inductive Rep (K : PySem.W.Frag) (pn : Addr) (F : Hp) : V → D → Prop
  | non : Rep K pn F .non .non
  | bl (b : Bool) : Rep K pn F (.bl b) (.bl b)
  | int (i : Int) : Rep K pn F (.int i) (.int i)
  | str (x : Str) : Rep K pn F (.str x) (.str x)
  | lst {a : Addr} {vs : List V} {ds : List D} : F a = some (.lst vs) → RepL K pn F vs ds → Rep K pn F (.ref a) (.lst ds)
  | tup {a : Addr} {vs : List V} {ds : List D} : SqT K F a vs → RepL K pn F vs ds → Rep K pn F (.ref a) (.tup ds)
  | obj {a dx : Addr} {c : Str} {fs : List (Str × V)} {gs : List (Str × D)} : F a = some (.ins (He.ga K c) dx fs) → Cls K (He.ga K c) → (∀ x ∈ gs.map (·.1), NoAttr K (He.ga K c) x) → RepF K pn F fs gs → Rep K pn F (.ref a) (.obj c gs)
  | pen : Rep K pn F (.ref pn) .pen
  | adr (a : Addr) : Rep K pn F (.ref a) (.adr a)
  | sct {a : Addr} {ns : List Int} : SqL K F a (ns.map V.int) → Rep K pn F (.ref a) (.sct ns)
inductive RepL (K : PySem.W.Frag) (pn : Addr) (F : Hp) : List V → List D → Prop
  | nil : RepL K pn F [] []
  | cons {v : V} {vs : List V} {d : D} {ds : List D} : Rep K pn F v d → RepL K pn F vs ds → RepL K pn F (v :: vs) (d :: ds)
inductive RepF (K : PySem.W.Frag) (pn : Addr) (F : Hp) : List (Str × V) → List (Str × D) → Prop
  | nil : RepF K pn F [] []
  | cons {x : Str} {v : V} {vs : List (Str × V)} {d : D} {ds : List (Str × D)} : Rep K pn F v d → RepF K pn F vs ds → RepF K pn F ((x, v) :: vs) ((x, d) :: ds)
end
def Le (F G : Hp) : Prop := ∀ a o, F a = some o → G a = some o
theorem Le.refl (F : Hp) : Le F F := fun _ _ h => h
theorem Le.trans {F G J : Hp} (a : Le F G) (b : Le G J) : Le F J := fun c o h => b c o (a c o h)
theorem Le.up {F : Hp} {p : Addr} {o : HO} (h : F p = none) : Le F (upd F p o) := fun a u e => by rw [upd_ne (ne_of_none e h)]; exact e
theorem Le.sqL {K : PySem.W.Frag} {F G : Hp} {a : Addr} {xs : List V} (e : Le F G) (h : SqL K F a xs) : SqL K G a xs := by
  rcases h with (h | ⟨o, h⟩) | h
  · exact .inl (.inl (e _ _ h))
  · exact .inl (.inr ⟨o, e _ _ h⟩)
  · exact .inr h
theorem Le.sqT {K : PySem.W.Frag} {F G : Hp} {a : Addr} {xs : List V} (e : Le F G) (h : SqT K F a xs) : SqT K G a xs := by
  rcases h with (h | ⟨o, h⟩) | h
  · exact .inl (.inl (e _ _ h))
  · exact .inl (.inr ⟨o, e _ _ h⟩)
  · exact .inr h
def penKvs (l : Addr) (t lf : Int) : List (Key × V) := [(Sum.inr "cells", .ref l), (Sum.inr "turn", .int t), (Sum.inr "left", .int lf)]
def PenOk (K : PySem.W.Frag) (pn : Addr) (F H : Hp) (n : Nat) : Prop :=
  ∃ (l : Addr) (cs : List Int) (t lf : Int), H pn = some (.dK (penKvs l t lf)) ∧ SqL K F l (cs.map V.int) ∧ cs.length ≤ 63 ∧ 0 ≤ t ∧ t + n ≤ 2 ^ 60 ∧ 0 ≤ lf
structure Ok (K : PySem.W.Frag) (pn : Addr) (F H : Hp) (n : Nat) : Prop where
  fro : Le F H
  fpn : F pn = none
  pen : PenOk K pn F H n
structure Go (pn : Addr) (F H F' H' : Hp) : Prop where
  keep : ∀ a o, a ≠ pn → H a = some o → H' a = some o
  sub : Le F F'
  new : ∀ a o, F' a = some o → F a = none → H a = none
abbrev Post (K : PySem.W.Frag) (pn : Addr) (F H : Hp) (Q : VK) : Nat → D → Prop := fun n d => ∀ v F' H', Go pn F H F' H' → Ok K pn F' H' n → Rep K pn F' v d → Q v H'
abbrev noX : Nat → Xn → Prop := fun _ _ => False
end Lx
namespace Lx
open PySem L2 PyProof.Rows
theorem wipe_in {σ : L2.St} {i : Nat} : ∀ {vs : List Nat}, i ∈ vs → i < σ.length → (L2.wipe σ vs)[i]? = some none
  | [], h, _ => nomatch h
  | v :: vs, h, hl => by
    unfold L2.wipe
    by_cases e : v = i
    · subst e
      exact List.getElem?_set_self (by rw [wipe_length]; exact hl)
    · rw [List.getElem?_set_ne e]
      exact wipe_in ((List.mem_cons.mp h).resolve_left fun z => e z.symm) hl
theorem wipe_eq {σ σ2 : L2.St} {vs : List Nat} (e : ∀ j : Nat, j ∉ vs → σ2[j]? = (L2.wipe σ vs)[j]?) (l : σ2.length = (L2.wipe σ vs).length) : L2.wipe σ2 vs = L2.wipe σ vs := by
  rw [wipe_length] at l
  apply List.ext_getElem?
  intro j
  by_cases hj : j ∈ vs
  · by_cases hl : j < σ.length
    · rw [wipe_in hj hl, wipe_in hj (by omega)]
    · rw [List.getElem?_eq_none (by rw [wipe_length]; omega), List.getElem?_eq_none (by rw [wipe_length]; omega)]
  · rw [wipe_out hj, e j hj]
def Pr (K : PySem.W.Frag) (m : Nat) (g : List D → W D) : Sp := fun vs H Q _ => ∃ pn F ds n, Ok K pn F H n ∧ RepL K pn F vs ds ∧ ds.length = m ∧ (g ds).wp n (Post K pn F H Q) noX
end Lx
namespace Lx
open PySem L2
def rAddU : R2 := fun x y H Q => (rI0 fun i j => .int (i + j)) x y H Q ∨ (∃ i j, x = .str i ∧ y = .str j ∧ i.length + j.length ≤ sizeLine ∧ Q (.str (i ++ j)) H) ∨ rCat x y H Q
section
variable {X : Cx} {K : PySem.W.Frag}
theorem op_addU : OpR X (binaryOp .Add) rAddU := op_add.or (op_add_str.or op_cat)
def rEqU (K : PySem.W.Frag) : R2 := fun x y H Q => rEq x y H Q ∨ rEqD K x y H Q
def rNeU (K : PySem.W.Frag) : R2 := fun x y H Q => rNe x y H Q ∨ rNeD K x y H Q
theorem op_eqU (hu : X.A.units + 64 < cLine) : OpR X (compareOp .Eq) (rEqU X.K) := op_eq.or (op_eqD hu)
theorem op_neU (hu : X.A.units + 64 < cLine) : OpR X (compareOp .NotEq) (rNeU X.K) := op_ne.or (op_neD hu)
theorem vdec_int {i j : Int} : decide (V.int i = V.int j) = decide (i = j) := by simp
theorem vdec_str {i j : Str} : decide (V.str i = V.str j) = decide (i = j) := by simp
theorem vdec_bl {i j : Bool} : decide (V.bl i = V.bl j) = decide (i = j) := by simp
def inS (x y : Str) : Bool := !(Builtin.Str.occurrences y x 0 y.length 1).isEmpty
def rInU (K : PySem.W.Frag) (neg : Bool) : R2 := fun x y H Q => (∃ i j, x = .str i ∧ y = .str j ∧ Q (.bl (if neg then !inS i j else inS i j)) H) ∨ rIn K neg x y H Q
theorem op_inU : OpR X (compareOp .In) (rInU X.K false) := op_in_str.or op_in_seq
theorem op_notInU : OpR X (compareOp .NotIn) (rInU X.K true) := op_notin_str.or op_notIn_seq
def cutL {α : Type} (xs : List α) (lo hi : Option Int) : List α := (xs.drop (HT.sIx xs.length 0 lo)).take (HT.sIx xs.length xs.length hi - HT.sIx xs.length 0 lo)
def rSlU (K : PySem.W.Frag) : V → Option Int → Option Int → Hp → VK → Prop := fun x lo hi H Q => rSlS x lo hi H Q ∨ rSlL K x lo hi H Q ∨ rSlT K x lo hi H Q
theorem sl_U : SlR X (rSlU X.K) := sl_str.or (sl_list.or sl_tup)
theorem RepL.one {pn : Addr} {F : Hp} {vs : List V} {d : D} (r : RepL K pn F vs [d]) : ∃ v, vs = [v] ∧ Rep K pn F v d := by
  cases r with
  | cons a b => cases b; exact ⟨_, rfl, a⟩
theorem RepL.two {pn : Addr} {F : Hp} {vs : List V} {d e : D} (r : RepL K pn F vs [d, e]) : ∃ v w, vs = [v, w] ∧ Rep K pn F v d ∧ Rep K pn F w e := by
  cases r with
  | cons a b => obtain ⟨w, rfl, rw⟩ := b.one; exact ⟨_, w, rfl, a, rw⟩
end
end Lx
namespace Lx
open PySem L2 PyProof.Rows
structure SupScope (N ps : List Str) (sc : Scope) : Prop where
  kind : sc.kind = .function
  co : sc.isCoroutine = false
  gen : sc.isGenerator = false
  nd : N.Nodup
  pre : N.take ps.length = ps
  par : ∀ x ∈ ps, sc.names.lookup x = some .local
  noc : ∀ y ∈ sc.names, y.2 ≠ .cell
  fre : ∀ y ∈ sc.names, y.2 = .free → y.1 = "__class__"
  sup : sc.names.lookup ("super" : Str) = some .globalImplicit
  cls : sc.names.lookup ("__class__" : Str) = some .free
structure SupG (P : Program) (K : PySem.W.Frag) (x qual : Str) (params : Arguments) (body : List Stmt) (scope : Scope) (dvs : List V) (kws : List (Str × V)) (DC : Addr) (f : Addr) (fd : FuncData) : Prop where
  ex : ∃ (oc : Value) (od : Option Addr) (dV kV doc pm : Value) (an : Option Addr) (cda : Addr) (ct : Value) (osl : Array (Option Value)) (cc : Addr),
    fd = PySem.W.ksFn x qual params body scope dV kV doc pm an (.ref cda) ct cc ∧ K.lookup f = some ⟨oc, od, .func fd, osl⟩ ∧ PySem.W.codeIn K (.ref cda) qual = true ∧ (DflV K dV dvs ∧ KwdV K kV kws) ∧
    (∃ cl cld csl, K.lookup cc = some ⟨cl, cld, .cell (some (.ref DC)), csl⟩) ∧ ∃ ccl cdd vs ccs file tf, K.lookup cda = some ⟨ccl, cdd, .fields vs, ccs⟩ ∧ vs[2]? = some (.str file tf) ∧ ((P.main.file : Str) == file) = true
  kp : PySem.W.keepIn K (.ref f) = true
  cls : ∃ cdD, PySem.W.clsIn K DC = some cdD
  sup : PySem.W.nsIn K mainGlobals "super" = some none
  op : PySem.W.nsIn K cStatics "thirdparty.any" = some none
  top : (P.main.scope.names.lookup ("super" : Str)).isSome = false
abbrev SupD (P : Program) (K : PySem.W.Frag) (x qual : Str) (params : Arguments) (body : List Stmt) (scope : Scope) (DC : Addr) (f : Addr) (fd : FuncData) : Prop := SupG P K x qual params body scope [] [] DC f fd
theorem dfl_none {K : PySem.W.Frag} {dV : Value} (h : DflV K dV []) : dV = .none := by
  rcases h with ⟨_, e⟩ | ⟨e, _⟩
  · exact e
  · exact absurd rfl e
theorem SupD.bindsN {P : Program} {K : PySem.W.Frag} {x qual : Str} {params : Arguments} {body : List Stmt} {scope : Scope} {DC f : Addr} {fd : FuncData} {ps : List Str} (F : SupD P K x qual params body scope DC f fd)
    (h : ∀ (kV doc pm : Value) (an : Option Addr) (cdv ct : Value) (cc : Addr) (us : List Value), us.length = ps.length → bindArgs (PySem.W.ksFn x qual params body scope .none kV doc pm an cdv ct cc) ⟨us, []⟩ = pure (ps.zip us)) : Binds K fd ps [] := by
  obtain ⟨oc, od, dV, kV, doc, pm, an, cda, ct, osl, cc, rfl, _, _, ⟨hD, _⟩, _⟩ := F.ex
  cases dfl_none hD
  exact .all (h kV doc pm an _ ct cc)
structure SupC (K : PySem.W.Frag) (C DC f2 : Addr) : Prop where
  mro : PySem.W.mroIn K C (.ref DC) = some true
  at_ : PySem.W.ks_superIn K C DC "__init__" = some (some (.ref f2))
  ty : PySem.W.typeIn K (.ref f2) = some (.type "function")
  fn : PySem.W.fnIn K f2 = true
def cxS (CX : CXT) (P : Program) (w : World) (K : PySem.W.Frag) (mg : Str → Option Value) (base : Heap) (N : List Str) (qual : Str) (scope : Scope) (f : Addr) (cd : Value) (cc : Addr) (A : Around) (outer : List Env) (s : Shared) (H : Hp) (E : XK) : Cx where
  prog := P
  w := w
  K := K
  mg := mg
  base := base
  A := A.deeper (PySem.W.ksEnv qual scope s.heap.objs.size f cd cc)
  N := N
  s_0 := s
  H_0 := H
  env := PySem.W.ksEnv qual scope s.heap.objs.size f cd cc
  outer := outer
  stack := PySem.W.ksEnv qual scope s.heap.objs.size f cd cc :: outer
  ex := []
  calm := true
  fn := fun _ => false
  pn := []
  xe := fun e s' => wpAny (model P w) (A.deeper (PySem.W.ksEnv qual scope s.heap.objs.size f cd cc)) (leaving (PySem.W.ksEnv qual scope s.heap.objs.size f cd cc) e) (fun _ s'' => CX outer H s E e s'') (fun e' s'' => CX outer H s E e' s'') s'
theorem zip_look {x : Str} {u : Value} : ∀ {ps : List Str} {us : List Value} {i : Nat}, ps.Nodup → ps[i]? = some x → us[i]? = some u → (ps.zip us).reverse.lookup x = some u
  | [], _, _, _, h, _ => by simp at h
  | _ :: _, [], _, _, _, h => by simp at h
  | p :: ps, w :: us, 0, nd, h1, h2 => by
    simp at h1 h2; subst h1; subst h2
    rw [List.zip_cons_cons, List.reverse_cons, List.lookup_append]
    have : (ps.zip us).reverse.lookup p = none := by
      rw [List.lookup_eq_none_iff]
      intro q hq
      have hq2 := List.mem_reverse.mp hq
      have h3 : q.1 ∈ ps := (List.of_mem_zip (a := q.1) (b := q.2) hq2).1
      have h4 : p ≠ q.1 := fun e => (List.nodup_cons.mp nd).1 (e ▸ h3)
      simpa using h4
    rw [this]
    simp
  | p :: ps, w :: us, i + 1, nd, h1, h2 => by
    rw [List.zip_cons_cons, List.reverse_cons, List.lookup_append, zip_look (i := i) (List.nodup_cons.mp nd).2 (by simpa using h1) (by simpa using h2)]
    rfl
theorem inv_super {CX : CXT} {P : Program} {w : World} {K : PySem.W.Frag} {mg : Str → Option Value} {base : Heap} {N ps : List Str} {qual : Str} {scope : Scope} {f cc : Addr} {cd : Value} {A : Around} {outer : List Env} {s : Shared} {H : Hp} {E : XK} {us : List Value} {vs : List V} {h1 : Heap} {tk : Nat} {oc : Obj} {cv : Value}
    (S : SupScope N ps scope) (hd : A.handled = none) (e0 : Env0 P w K mg base A outer s H) (hl : vs.length = ps.length) (r : Vals vs us) (hc : base.get? cc = some oc) (hcv : oc.data = .cell (some cv))
    (hns : h1.Ns s.heap.objs.size (fun x => (ps.zip us).reverse.lookup x)) (hk : ∀ b o, s.heap.get? b = some o → h1.get? b = some o) :
    Inv (cxS CX P w K mg base N qual scope f cd cc A outer s H E) [] (L2.start N vs) H { s with heap := h1, toks := tk } := by
  have hpl : ps.length ≤ N.length := by have := congrArg List.length S.pre; rw [List.length_take] at this; omega
  have noA : ∀ b : Addr, b ∉ (cxS CX P w K mg base N qual scope f cd cc A outer s H E).ex := fun b z => absurd (show b ∈ ([] : List Addr) from z) (by simp)
  have hcs := (e0.bs cc oc hc)
  have onec : ∀ y c, (PySem.W.ksEnv qual scope s.heap.objs.size f cd cc).cells.lookup y = some c → y = "__class__" ∧ c = cc := fun y c h => by
    have h2 : ([(("__class__" : Str), cc)] : List (Str × Addr)).lookup y = some c := h
    rw [List.lookup_cons] at h2
    cases q : (y == ("__class__" : Str)) with
    | true => rw [q] at h2; cases h2; exact ⟨eq_of_beq q, rfl⟩
    | false => rw [q] at h2; cases h2
  refine ⟨⟨e0.mod, S.kind, rfl, rfl, Nat.le_refl _, fun y z c h1 h2 => by rw [(onec y c h1).1, (onec z c h2).1], fun y hy => ?_, fun y c h => absurd h Bool.false_ne_true, fun _ => hd, Around.frames_deeper e0.frames, .inr ⟨rfl, rfl⟩, fun b z => absurd z (noA b), e0.bs, e0.bsz, fun b _ _ => noA b, fun b z => absurd z (noA b), e0.funs, e0.frf⟩,
    rfl, e0.bare, Un.kept hk, ⟨_, hns, fun i y v h1 h2 h3 => ?_⟩, fun y c h => ?_, e0.hok.fresh (Nat.le_refl _), fun y c h => ?_, fun p hp => absurd (show p ∈ ([] : List (Addr × Obj)) from hp) (by simp), e0.hok.kept hk, ?_⟩
  · have hy : scope.names.lookup y = some .cell ∨ scope.names.lookup y = some .free := hy
    rcases hy with hy | hy
    · exact absurd rfl (S.noc _ (PySem.mem_of_lookup hy))
    · have e := S.fre _ (PySem.mem_of_lookup hy) rfl
      dsimp only at e
      subst e
      exact ⟨cc, rfl⟩
  · have hi : i < vs.length := by
      unfold L2.start at h2
      by_cases hi : i < vs.length
      · exact hi
      · rw [List.getElem?_append_right (by simpa using hi)] at h2
        rw [List.getElem?_replicate] at h2
        split at h2 <;> cases h2
    have ha : vs[i]? = some v := by
      unfold L2.start at h2
      rw [List.getElem?_append_left (by simpa using hi), List.getElem?_map] at h2
      cases e : vs[i]? with
      | none => rw [e] at h2; cases h2
      | some a => rw [e] at h2; cases h2; rfl
    obtain ⟨u, hu, rv⟩ := r.get ha
    have hp : ps[i]? = some y := by
      rw [← S.pre, List.getElem?_take_of_lt (by omega)]; exact h1
    have ndP : ps.Nodup := by rw [← S.pre]; exact S.nd.sublist (List.take_sublist _ _)
    exact ⟨u, rv, .inl ⟨S.par y (List.mem_of_getElem? hp), zip_look ndP hp hu⟩⟩
  · obtain ⟨_, rfl⟩ := onec y c h
    exact ⟨some cv, oc, hk _ _ hcs.1, hcv⟩
  · obtain ⟨_, rfl⟩ := onec y c h
    exact hcs.2
  · unfold L2.start
    show _ = N.length
    rw [List.length_append, List.length_map, List.length_replicate]
    omega
theorem execs_app (env : Env) : ∀ (a b : List Stmt), execs (a ++ b) env = (do match ← execs a env with | .next => execs b env | f => pure f)
  | [], b => by
    show execs b env = _
    rw [execs_nil]; rfl
  | st :: a, b => by
    rw [List.cons_append, execs_cons, execs_cons, bind_assoc]
    congr 1
    funext f
    cases f with
    | next => exact execs_app env a b
    | brk => rfl
    | cont => rfl
    | ret v => rfl
theorem at_app {M : Model} {A : Around} {c : Code} {E : Value → Shared → Prop} {s : Shared} {env : Env} {a b : List Stmt} {Q : Flow → Shared → Prop}
    (h : wpAny M A (execs a env) (fun f s' => match f with | .next => PySem.wpAt M A c (execs b env) Q E s' | f => Q f s') E s) : PySem.wpAt M A c (execs (a ++ b) env) Q E s := by
  rw [execs_app]
  refine PySem.wpAt_bind (PySem.wpAt_of_wpAny (wpAny_mono h (fun f s' q => ?_) fun _ _ x => x))
  cases f with
  | next => exact q
  | brk => exact PySem.wpAt_of_wpAny (wpAny_pure q)
  | cont => exact PySem.wpAt_of_wpAny (wpAny_pure q)
  | ret v => exact PySem.wpAt_of_wpAny (wpAny_pure q)
theorem with_bound {M : Model} {A : Around} {E : Value → Shared → Prop} {s : Shared} {K : PySem.W.Frag} {env : Env} {pos : Pos} {q g : Addr} {self : Value} {e : Expr} {es : List Expr} {Q : Value → Shared → Prop} (hf : PySem.W.fnIn K g = true)
    (he : starEach (e :: es) env = (false, eval e env) :: starEach es env) (hp : (backTo pos (starEach es env)).any (·.1) = false)
    (h : wpAny M A (spliced (backTo pos (starEach (e :: es) env))) (fun vs s1 => PySem.W.MethP K q g self s1.heap ∧ wpAny M A (call (.ref q) ([] ++ vs)) Q E s1) E s) :
    wpAny M A (callWith pos (.ref q) [] (backTo pos (starEach (e :: es) env)) []) Q E s := by
  rw [he] at h ⊢
  refine PySem.W.callWith_of (P := PySem.W.MethP K q g self) ?_ (PySem.W.keeps_M hf) (Calls.evalArgs_plain h)
  show ((false || (backTo pos (starEach es env)).any (·.1)) || false) = false
  rw [hp]
  rfl
end Lx
namespace Lx
open PySem L2 PyProof.Rows
def rRepr (K : PySem.W.Frag) : List V → Hp → VK → Prop := fun xs H Q => ∃ x d, xs = [x] ∧ Dp K H x d ∧ d.showable = true ∧ d.depth ≤ 60 ∧ d.hasDict = false ∧ d.shown.length ≤ sizeLine ∧ Q (.str d.shown) H
section
variable {X : Cx} {K : PySem.W.Frag}
theorem call_repr (hg : X.A.guards = some []) (hu : X.A.units + 64 < cLine) : CallR X (.builtin "repr") (rRepr X.K) := by
  intro pins s σ H xs us Q I r h
  obtain ⟨x, d, rfl, hd, h1, h2, h3, h4, q⟩ := h
  obtain ⟨u, rfl, rx⟩ := vals1 r
  obtain ⟨as, rd⟩ := Dp.reads I d x u hd rx
  have fin : ∀ {t : Tok} {k : Nat} {h' : Heap}, (∀ b o, s.heap.get? b = some o → h'.get? b = some o) → EP X pins σ Q (.str d.shown t) { s with heap := h', toks := k } := fun {t k h'} hk => ⟨.str d.shown, H, I.kept hk, ⟨t, rfl⟩, q⟩
  have fin0 : ∀ {t : Tok} {k : Nat}, EP X pins σ Q (.str d.shown t) { s with toks := k } := fun {t k} => ⟨.str d.shown, H, I.tok _, ⟨t, rfl⟩, q⟩
  cases hd with
  | non => cases rx; exact P.repr_of_none fin0
  | bl b => cases rx; exact P.repr_of_bool fin0
  | int i => obtain ⟨t, rfl⟩ := rx; exact P.repr_of_int (by simpa [PyData.showable] using h1) fin0
  | str y => obtain ⟨t, rfl⟩ := rx; exact P.repr_of_str fin0 h4
  | lst a b =>
    cases rx
    exact repr_of_reads' rd h1 (fun z => by rw [h3] at z; cases z) hg (by omega) (fun _ _ z => z) (fun h' t k hk => fin hk) h4
  | tup a b =>
    cases rx
    exact repr_of_reads' rd h1 (fun z => by rw [h3] at z; cases z) hg (by omega) (fun _ _ z => z) (fun h' t k hk => fin hk) h4
end
structure FnG (P : Program) (w : World) (K : PySem.W.Frag) (mg : Str → Option Value) (base : Heap) (CX : CXT) (k : Nat) (f : Addr) (fd : FuncData) (ps : List Str) (sp : Sp) : Prop where
  len : ∀ vs H Q E, sp vs H Q E → vs.length = ps.length
  run : ∀ (A : Around) (outer : List Env) (s : Shared) (H : Hp) (args : Args) (us : List Value) (vs : List V) (Q : VK) (E : XK), A.guards = some [] → Room k A → Env0 P w K mg base A outer s H → BindsTo s fd args (ps.zip us) → Vals vs us → sp vs H Q E →
    codeAny (model P w) A (.call (.ref f) args) (CR CX outer P w H s Q E) s
end Lx
set_option maxHeartbeats 4000000
namespace Lx
open PySem PySem.Spec L2 PyProof.Rows
def uniq : List Nat → List Nat → List Nat
  | acc, [] => acc
  | acc, c :: r => if c ∈ acc then uniq acc r else uniq (c :: acc) r
def sgn (c : Nat) : Str := ⟨#[c]⟩
theorem sgn_inj {a b : Nat} (h : sgn a = sgn b) : a = b := by
  have h1 : (#[a] : Array Nat) = #[b] := congrArg Str.cps h
  simpa using h1
section
variable {prog : Program} {w : World} {A : Around} {R : Result → Shared → Prop} {I : Addr} {fp wr : List Addr} {n : Nat} {St : Nat → Heap → Prop}
theorem set_loop {x : Str} (W : Walks prog w A.in1 I fp wr n (SignAt x) St) (hn : n = x.cps.size) (hfp : n < 4000) (S : Addr) (hSf : S ∉ fp) (hSw : S ∉ wr) : ∀ (cs : List Nat) (i : Nat) (acc : List Nat) (s : Shared), x.cps.toList.drop i = cs → i + cs.length = n → St i s.heap → acc.length ≤ i →
      s.heap.SetOf (PySem.strKind prog w) S (fun k' => acc.any fun c => sgn c == k') acc.length →
      (∀ h' tk, (∀ b o, b ∉ S :: wr → s.heap.get? b = some o → h'.get? b = some o) → h'.SetOf (PySem.strKind prog w) S (fun k' => (uniq acc cs).any fun c => sgn c == k') (uniq acc cs).length → R (.ok (.ret .none)) { s with heap := h', toks := tk }) →
      codeAny (model prog w) A (.builtin "set.update.loop" ⟨[.ref S, .ref I], []⟩) R s
  | [], i, acc, s, hd, hi, hst, ha, hS, hR => by
    have hin : i = n := by simpa using hi
    subst hin
    refine codeAny_builtin PyProof.Rows.F.entry_set_update_loop ?_
    rw [Around.under_plainId PyProof.Rows.F.plain_set_update_loop _]
    show wpAny _ A.in1 (pyNext (.ref I) >>= _) _ _ s
    refine wpAny_bind (W.done s _ _ hst fun h' tk' hm => ?_)
    show wpAny _ A.in1 (ret Value.none) _ _ _
    refine wpAny_pure (hR _ _ (fun b o hb e => hm b o (fun z => hb (List.mem_cons_of_mem _ z)) e) ?_)
    obtain ⟨o, es, ep, t, ho, rest⟩ := hS
    exact ⟨o, es, ep, t, hm S _ hSw ho, rest⟩
  | c :: r, i, acc, s, hd, hi, hst, ha, hS, hR => by
    have hlt : i < n := by simp at hi; omega
    have hsub : ∀ b, b ∉ S :: wr → b ∉ wr := fun b hb z => hb (List.mem_cons_of_mem _ z)
    obtain ⟨hx, hd2⟩ : x.cps[i]? = some c ∧ x.cps.toList.drop (i + 1) = r := by
      have h1 : x.cps.toList[i]? = some c := by
        have := congrArg (·[0]?) hd
        simpa using this
      refine ⟨by simpa using h1, ?_⟩
      have := congrArg (·.drop 1) hd
      simpa [List.drop_drop, Nat.add_comm] using this
    refine codeAny_builtin PyProof.Rows.F.entry_set_update_loop ?_
    rw [Around.under_plainId PyProof.Rows.F.plain_set_update_loop _]
    show wpAny _ A.in1 (pyNext (.ref I) >>= _) _ _ s
    refine wpAny_bind (W.item i s _ _ hlt hst fun v h1 tk hP hst' hm => ?_)
    obtain ⟨c', t, hc', rfl⟩ := hP
    rw [hx] at hc'
    cases hc'
    have hS' : h1.SetOf (PySem.strKind prog w) S (fun k' => acc.any fun c => sgn c == k') acc.length := by
      obtain ⟨o, es, ep, tb, ho, rest⟩ := hS
      exact ⟨o, es, ep, tb, hm S _ hSw ho, rest⟩
    show wpAny _ A.in1 (holding [Value.str (sgn c) t] (setAdd S (.str (sgn c) t)) >>= _) _ _ _
    refine wpAny_bind (wpAny_holding ?_)
    unfold setAdd
    refine wpAny_holding ?_
    refine wpAny_bind ((PySem.strKind prog w).pyHash (k := sgn c) (strKind_is _ _ _ _) ?_)
    refine wpAny_setAddHashed_of (knd := PySem.strKind prog w) (strKind_is _ _ _ _) rfl hS' (by unfold scanBound; omega) fun h' hsb hS2 => ?_
    have hmem : (acc.any fun d => sgn d == sgn c) = decide (c ∈ acc) := by
      rw [Bool.eq_iff_iff, List.any_eq_true, decide_eq_true_iff]
      constructor
      · rintro ⟨d, hd, e⟩
        rw [sgn_inj (eq_of_beq e)] at hd
        exact hd
      · intro h; exact ⟨c, h, beq_self_eq_true _⟩
    have hSi : h'.SetOf (PySem.strKind prog w) S (fun k' => (if c ∈ acc then acc else c :: acc).any fun c => sgn c == k') (if c ∈ acc then acc else c :: acc).length := by
      refine SetOf_congr hS2 (fun k' => ?_) ?_
      · by_cases hc : c ∈ acc
        · rw [if_pos hc]
          by_cases e : k' = sgn c
          · subst e; rw [hmem, decide_eq_true hc]; rfl
          · rw [decide_eq_false e, Bool.or_false]
        · rw [if_neg hc, List.any_cons, Bool.or_comm]
          congr 1
          by_cases e : k' = sgn c
          · subst e; simp
          · rw [decide_eq_false e]
            exact (beq_eq_false_iff_ne.mpr fun z => e z.symm).symm
      · rw [hmem]
        by_cases hc : c ∈ acc <;> simp [hc]
    have hu : uniq acc (c :: r) = uniq (if c ∈ acc then acc else c :: acc) r := by
      by_cases hc : c ∈ acc <;> simp [uniq, hc]
    refine wpAny_pure ⟨plainId_quiet PyProof.Rows.F.plain_set_update_loop _, set_loop W hn hfp S hSf hSw r (i + 1) _ _ hd2 (by simp at hi; omega) (W.frame _ _ _ hst' fun b hb o e => ?_) (by split <;> (try simp only [List.length_cons]) <;> omega) hSi fun h'' tk'' hm'' hS'' => ?_⟩
    · rw [hsb.2 b (fun h : b = S => hSf (by rw [← h]; exact hb))]; exact e
    · rw [← hu] at hS''
      refine hR h'' tk'' (fun b o hb e => hm'' b o hb ?_) hS''
      rw [hsb.2 b (fun h : b = S => hb (by rw [h]; exact List.mem_cons_self))]
      exact hm b o (hsub b hb) e
end
section
variable {prog : Program} {w : World} {A : Around} {E : Value → Shared → Prop} {s : Shared}
theorem call_set_text {x : Str} {u : Tok} {Q : Value → Shared → Prop} (hh : A.handled = none) (hn : x.cps.size < 4000)
    (h : ∀ (h' : Heap) (tk : Nat), h'.SetOf (PySem.strKind prog w) s.heap.objs.size (fun k' => (uniq [] x.cps.toList).any fun c => sgn c == k') (uniq [] x.cps.toList).length →
      (∀ b o, b < s.heap.objs.size → s.heap.get? b = some o → h'.get? b = some o) → Q (.ref s.heap.objs.size) { s with heap := h', toks := tk }) :
    wpAny (model prog w) A (call (.type "set") [.str x u]) Q E s := by
  obtain ⟨c, tl, hmro⟩ := PySem.F.called_set.mro
  have hmade := PySem.F.called_set.made
  have hsub := PySem.F.called_set.sub
  refine wpAny_call (codeAny_of_tree ?_)
  show wpAny _ _ (callAny (.type "set") _) _ _ _
  refine wpAny_pure ⟨Code.quiet_builtin _ (by decide +kernel), codeAny_builtin PySem.F.entry_type_call ?_⟩
  rw [Around.under_plain (weight_type_call_type "set" [.str x u] []) rfl]
  have h1 := PySem.F.called_set.notType
  have h2 := PySem.F.called_set.canCreate
  have hct := PySem.F.typeCall_set_1 (.str x u)
  repeat (any_goals (first | assumption | wp_step))
  refine codeAny_mono (code_set_new_1 (.str x u) (E := E) (Q₁ := fun obj s₁ => ∃ led : Bool, obj = .ref s.heap.objs.size ∧ s₁ = { s with heap := s.heap.push { cls := .type "set", dict := none, data := .set #[] 0 (.fresh 0 0 led) } }) fun led => ⟨led, rfl, rfl⟩) fun r s₁ hr => ?_
  cases r with
  | error e => exact hr
  | ok fl =>
    cases fl with
    | ret obj =>
      obtain ⟨led, rfl, rfl⟩ := hr
      have hS : (s.heap.push { cls := .type "set", dict := none, data := .set #[] 0 (.fresh 0 0 led) }).get? s.heap.objs.size = some { cls := .type "set", dict := none, data := .set #[] 0 (.fresh 0 0 led) } := Heap.get?_push_size _ rfl
      have hT : Shared.TypeIs { s with heap := s.heap.push { cls := .type "set", dict := none, data := .set #[] 0 (.fresh 0 0 led) } } (.ref s.heap.objs.size) "set" := ⟨_, hS, rfl⟩
      have hli := PySem.F.called_set.init.lookup
      have hbi := PySem.F.called_set.init.bind (.ref s.heap.objs.size)
      repeat (any_goals (first | assumption | wp_step))
      refine codeAny_mono (codeAny_call_builtin (R := wants (fun r s₂ => r = .none ∧ ∃ h' tk, s₂ = { s with heap := h', toks := tk } ∧
          h'.SetOf (PySem.strKind prog w) s.heap.objs.size (fun k' => (uniq [] x.cps.toList).any fun c => sgn c == k') (uniq [] x.cps.toList).length ∧
          (∀ b o, b < s.heap.objs.size → s.heap.get? b = some o → h'.get? b = some o)) E) PySem.F.called_set.init.plain PySem.F.entry_set_init (check_set_init_1 hT ?_)) fun r₂ s₂ hr₂ => ?_
      · have hsls := PySem.F.sub_str_set
        have hslf := PySem.F.sub_str_frozenset
        have hne : (Value.type "str" == Value.type "dict") = false := by decide
        unfold Builtin.«set.__init__» noKeywords Builtin.Frozenset.updateFrom
        generalize hPI : pyIter = PI
        wp_walk
        subst hPI
        refine wpAny_pyIter_str fun o St hW hst => ?_
        refine wpAny_bind (wpAny_runValue ?_)
        have hh3 : A.in1.in1.in1.handled = none := by simp [hh]
        have hSf : s.heap.objs.size ∉ [(s.heap.push { cls := .type "set", dict := none, data := .set #[] 0 (.fresh 0 0 led) }).objs.size] := by
          rw [Heap.size_push]; simp
        refine set_loop (hW _ hh3) rfl hn s.heap.objs.size hSf hSf x.cps.toList 0 [] _ rfl (by simp) hst (Nat.zero_le _) ?hS0 ?hR
        case hS0 =>
          have hget : ((s.heap.push { cls := .type "set", dict := none, data := .set #[] 0 (.fresh 0 0 led) }).push o).get? s.heap.objs.size
              = some { cls := .type "set", dict := none, data := .set #[] 0 (.fresh 0 0 led) } := Heap.get?_push_of_some _ hS
          exact PyProof.Rows.SetOf_congr ((PyProof.Rows.setObjOf_fresh (knd := PySem.strKind prog w) led).setOf hget (by unfold scanBound; omega)) (fun _ => rfl) rfl
        case hR =>
          intro h' tk' hm hS'
          show wpAny _ _ _ _ _ _
          refine wpAny_pure ?_
          show wpAny _ _ (ret Value.none) _ _ _
          refine wpAny_pure ⟨rfl, h', tk', rfl, hS', fun b o hb e => ?_⟩
          have hb1 : b ≠ s.heap.objs.size := Nat.ne_of_lt hb
          have hb2 : b ≠ (s.heap.push { cls := .type "set", dict := none, data := .set #[] 0 (.fresh 0 0 led) }).objs.size := by
            rw [Heap.size_push]; exact Nat.ne_of_lt (Nat.lt_succ_of_lt hb)
          exact hm b o (by simp only [List.mem_cons, List.mem_singleton, List.not_mem_nil, or_false, not_or]; exact ⟨hb1, hb2⟩) (Heap.get?_push_of_some _ (Heap.get?_push_of_some _ e))
      · cases r₂ with
        | error e => exact hr₂
        | ok fl₂ =>
          cases fl₂ with
          | ret r =>
            obtain ⟨rfl, h', tk, rfl, hS', hk'⟩ := hr₂
            repeat (any_goals (first | assumption | wp_step))
            exact h _ _ hS' hk'
          | _ => exact hr₂.elim
    | _ => exact hr.elim
end
def tLenSetS (ta : TE) : TE := fun σ H Q => ta σ H fun x H1 => ∃ y, x = .str y ∧ y.cps.size < 4000 ∧ Q (.int (uniq [] y.cps.toList).length) H1
section
variable {X : Cx}
theorem pe_lenSetS {a : Expr} {ta : TE} {p p2 q pos : Pos} (hc : X.calm = true) (hg : Gl X "len") (hm : X.mg "len" = none) (hg2 : Gl X "set") (hm2 : X.mg "set" = none) (ha : PE X a ta)
    (na : starEach [a] X.env = (false, eval a X.env) :: starEach [] X.env := by rfl) : PE X (.Call (.Name "len" p) [.Call (.Name "set" p2) [a] [] q] [] pos) (tLenSetS ta) := by
  refine ⟨fun pins s σ H Q I h => ?_⟩
  refine Call_ (ld_blt I hg hm boot_len ?_)
  refine PyProof.Rows.callWith_builtin1 (PyProof.Rows.args_cons ?_ rfl) rfl rfl
  refine Call_ (ld_blt I hg2 hm2 boot_set ?_)
  refine PyProof.Rows.callWith_type1 (PyProof.Rows.args_cons (thn (ha.run pins s σ H _ I h) fun v s1 ⟨x, H1, I1, r1, q1⟩ => PyProof.Rows.args_nil ?_) na) na rfl
  obtain ⟨y, rfl, hy, q1⟩ := q1
  obtain ⟨u, rfl⟩ := r1
  refine call_set_text (I1.ok.hd hc) hy fun h' tk hS hk => ?_
  refine PyProof.Rows.args_nil ?_
  obtain ⟨o, es, ep, t, ho, hex, hd, _, _, hb, hf, hn⟩ := hS
  have I2 : Inv X pins σ H1 { s1 with heap := h', toks := tk } := I1.kept fun b o e => hk b o (Heap.lt_size e) e
  refine call_len_set ho hex hd hf (by have : es.size < 4096 := hb; omega) ⟨.int (uniq [] y.cps.toList).length, H1, I2.tok _, ⟨_, by rw [hn]⟩, q1⟩
end
end Lx
namespace Lx
open PySem PySem.Spec L2 PyProof.Rows
def tMaxD (K : PySem.W.Frag) (ta td : TE) : TE := fun σ H Q => ta σ H fun x H1 => td σ H1 fun d H2 => ∃ (a : Addr) (ns : List Int), x = .ref a ∧ SqL K H2 a (ns.map V.int) ∧ (ns = [] → Q d H2) ∧ ∀ y ys, ns = y :: ys → Q (.int (ys.foldl max y)) H2
theorem alike_ints (ns : List Int) : PySem.W.AlikeAll (ns.map PyData.int) := by
  refine ⟨fun x hx y hy => ?_, fun x hx => ?_⟩
  · obtain ⟨i, _, rfl⟩ := List.mem_map.mp hx
    obtain ⟨j, _, rfl⟩ := List.mem_map.mp hy
    rfl
  · obtain ⟨i, _, rfl⟩ := List.mem_map.mp hx
    exact fun z => by cases z
theorem dp_ints {K : PySem.W.Frag} {H : Hp} : ∀ ns : List Int, DpAll K H (ns.map V.int) (ns.map PyData.int)
  | [] => .nil
  | n :: r => .cons (.int n) (dp_ints r)
theorem depth_ints : ∀ ns : List Int, PyData.depthAll (ns.map PyData.int) = 0
  | [] => rfl
  | n :: r => by
    show max (PyData.depth (.int n)) (PyData.depthAll (r.map PyData.int)) = 0
    rw [depth_ints r]; rfl
section
variable {X : Cx}
theorem pe_maxD {e d : Expr} {ta td : TE} {p pos kp : Pos} (hc : X.calm = true) (hu : X.A.units + 64 < cLine) (hg : Gl X "max") (hm : X.mg "max" = none) (ha : PE X e ta) (hd : PE X d td)
    (na : backTo pos (starEach [e] X.env) = (false, eval e X.env) :: backTo pos (starEach [] X.env) := by rfl) (hpl : (backTo pos (starEach [e] X.env)).any (·.1) = false := by rfl) :
    PE X (.Call (.Name "max" p) [e] [⟨some "default", d, kp⟩] pos) (tMaxD X.K ta td) := by
  refine ⟨fun pins s σ H Q I h => wpAny_Call_Name_kw (ld_blt I hg hm boot_max ?_)⟩
  refine callWith_kw ?_ na hpl
  rw [na]
  refine Calls.spliced_cons (thn (ha.run pins s σ H _ I h) fun v s1 ⟨x, H1, I1, r1, q1⟩ => Calls.spliced_nil ?_)
  refine kws_cons (thn (hd.run pins s1 σ H1 _ I1 q1) fun u s2 ⟨y, H2, I2, r2, q2⟩ => kws_nil ?_)
  obtain ⟨a, ns, rfl, hq, q0, qs⟩ := q2
  cases r1
  obtain ⟨its, r, pl, hz⟩ := I2.list hq
  obtain ⟨as, hr⟩ := Dp.readsAll I2 (ns.map PyData.int) (ns.map V.int) its (dp_ints ns) r
  show wpAny _ _ (call (.builtin "max") [.ref a] [(Str.ofString "default", u)]) _ _ _
  refine PySem.W.max_list_default (I2.ok.hd hc) pl.isList (by simpa using hr) (alike_ints ns) (by rw [depth_ints]; omega) (fun hn h' tk hk => ?_) (fun z zs i w h' tk bs hn hi hrd hk => ?_)
  · have hn : ns = [] := by simpa using hn
    exact ⟨y, H2, I2.kept hk, r2, q0 hn⟩
  · cases ns with
    | nil => cases hn
    | cons n ns =>
      have hn : PyData.int n :: ns.map PyData.int = z :: zs := hn
      injection hn with h1 h2
      subst h1 h2
      rw [PySem.W.maxD_ints] at hrd
      refine ⟨.int (ns.foldl max n), H2, I2.kept hk, ?_, qs n ns rfl⟩
      cases hrd
      exact ⟨_, rfl⟩
end
def catA (its : Nat → List Value) : Nat → Nat → List Value
  | _, 0 => []
  | i, k + 1 => its i ++ catA its (i + 1) k
section
variable {prog : Program} {w : World} {A : Around} {R : Result → Shared → Prop} {I : Addr} {fp wr : List Addr} {G : Array GenState → Array GenState → Prop} {n : Nat} {P : Nat → Value → Prop} {St : Nat → Shared → Prop}
theorem sum_loopL (W : WalksS prog w A.in1 I fp wr G n P St) (S : Addr) (hSf : S ∉ fp) (its : Nat → List Value) (b nn : Nat → Nat) (hval : ∀ i v, P i v → v = .ref (b i)) (hbw : ∀ i, i < n → b i ∉ wr ∧ b i ≠ S) (hwr : ∀ x ∈ wr, x < S) :
    ∀ (k i : Nat) (s : Shared) (tot : Addr) (acc : List Value) (na c : Nat), n - i = k → i ≤ n → St i s → s.heap.get? S = some { cls := .type "list", dict := none, data := .seq #[.ref tot] c, slots := #[] } →
      s.heap.get? tot = some { cls := .type "list", data := .seq acc.toArray na } → tot ∉ wr → tot ≠ S → (∀ j, j < n → s.heap.get? (b j) = some { cls := .type "list", data := .seq (its j).toArray (nn j) }) → acc.length + (catA its i k).length ≤ sizeLine →
      (∀ s' tot' na', Moved (S :: wr) G s s' → s'.heap.get? tot' = some { cls := .type "list", data := .seq (acc ++ catA its i k).toArray na' } → (k = 0 → tot' = tot) → (k ≠ 0 → S < tot') → R (.ok (.ret (.ref tot'))) s') →
      codeAny (model prog w) A (.builtin "sum.loop" ⟨[.ref I, .ref S, rawInt 2, rawInt 0], []⟩) R s := by
  have hSw : S ∉ wr := fun h => hSf (W.sub _ h)
  have hsub : ∀ b ∈ wr, b ∈ S :: wr := fun b hb => List.mem_cons_of_mem _ hb
  intro k
  induction k with
  | zero =>
    intro i s tot acc na c hk hi hst hS ht htw hts hb hl hR
    have hin : i = n := by omega
    subst hin
    refine codeAny_builtin F.entry_sum_loop ?_
    rw [Around.under_plainId F.plain_sum_loop _]
    show wpAny _ A.in1 (seqItems? (.ref S) >>= _) _ _ s
    refine wpAny_bind (wpAny_seqItems hS rfl ?_)
    show wpAny _ A.in1 (tryCatch (pyNext (.ref I)) _ >>= _) _ _ s
    refine wpAny_bind (wpAny_tryCatch (W.done s _ _ hst fun s' hm => ?_))
    refine wpAny_pure (hR s' tot na (hm.mono hsub) ?_ (fun _ => rfl) (fun z => absurd rfl z))
    rw [show acc ++ catA its i 0 = acc from List.append_nil acc]
    exact hm.heap tot _ htw ht
  | succ k ih =>
    intro i s tot acc na c hk hi hst hS ht htw hts hb hl hR
    have hlt : i < n := by omega
    refine codeAny_builtin F.entry_sum_loop ?_
    rw [Around.under_plainId F.plain_sum_loop _]
    show wpAny _ A.in1 (seqItems? (.ref S) >>= _) _ _ s
    refine wpAny_bind (wpAny_seqItems hS rfl ?_)
    show wpAny _ A.in1 (tryCatch (pyNext (.ref I)) _ >>= _) _ _ s
    refine wpAny_bind (wpAny_tryCatch (W.item i s _ _ hlt hst fun v s' hP hst' hm => ?_))
    cases hval i v hP
    have hS' := hm.heap S _ hSw hS
    have ht' := hm.heap tot _ htw ht
    have hb' := hm.heap (b i) _ (hbw i hlt).1 (hb i hlt)
    have hlen : (catA its i (k + 1)).length = (its i).length + (catA its (i + 1) k).length := by show (its i ++ _).length = _; rw [List.length_append]
    show wpAny _ A.in1 ((holding [Value.ref (b i)] (binaryOp .Add (.ref tot) (.ref (b i)))).attempt >>= _) _ _ _
    refine wpAny_bind (wpAny_attempt (wpAny_holding (PySem.P.add_list ht' hb' ?_ (by rw [List.size_toArray, List.size_toArray]; omega))))
    have hSlt : S < s'.heap.objs.size := Heap.lt_size hS'
    have hS1 : (s'.heap.push { cls := .type "list", data := .seq (acc.toArray ++ (its i).toArray) }).get? S = some { cls := .type "list", dict := none, data := .seq #[.ref tot] c, slots := #[] } := Heap.get?_push_of_some _ hS'
    show wpAny _ A.in1 (updateSeq S (fun _ => #[.ref s'.heap.objs.size]) >>= _) _ _ _
    refine wpAny_bind (wpAny_updateSeq hS1 rfl ?_)
    have hS₂ := Heap.get?_update_self (Obj.mapSeq fun _ => #[Value.ref s'.heap.objs.size]) hS1 rfl
    refine wpAny_bind (wpAny_letGo ?_)
    have keep : ∀ x o, x ≠ S → s'.heap.get? x = some o → ((((s'.heap.push { cls := .type "list", data := .seq (acc.toArray ++ (its i).toArray) }).update S (Obj.mapSeq fun _ => #[Value.ref s'.heap.objs.size])).update S (Obj.mapSeq fun _ => #[Value.ref s'.heap.objs.size]))).get? x = some o := fun x o hx e =>
      (Heap.get?_update_other _ _ (Ne.symm hx)).trans ((Heap.get?_update_other _ _ (Ne.symm hx)).trans (Heap.get?_push_of_some _ e))
    have hn1 : (((s'.heap.push { cls := .type "list", data := .seq (acc.toArray ++ (its i).toArray) }).update S (Obj.mapSeq fun _ => #[Value.ref s'.heap.objs.size])).update S (Obj.mapSeq fun _ => #[Value.ref s'.heap.objs.size])).get? s'.heap.objs.size = some { cls := .type "list", data := .seq (acc ++ its i).toArray 0 } := by
      refine (Heap.get?_update_other _ _ (Nat.ne_of_lt hSlt)).trans ((Heap.get?_update_other _ _ (Nat.ne_of_lt hSlt)).trans ?_)
      rw [show acc.toArray ++ (its i).toArray = (acc ++ its i).toArray by simp]
      exact Heap.get?_push_size _ rfl
    refine wpAny_bind (wpAny_updateSeq hS₂ rfl (wpAny_pure ⟨plainId_quiet F.plain_sum_loop _, ih (i + 1) _ s'.heap.objs.size (acc ++ its i) 0 _ (by omega) hlt (W.frame _ s' _ _ hst' (Nat.le_refl _) fun x hx o e => ?_) (Heap.get?_update_self _ hS₂ rfl) hn1 (fun hz => ?_) (Nat.ne_of_gt hSlt) (fun j hj => ?_) (by rw [List.length_append]; omega) fun s'' tot'' na'' hm'' hl'' h0 h1 => ?_⟩))
    · exact keep x o (fun h => hSf (by rw [← h]; exact hx)) e
    · exact absurd (hwr _ hz) (Nat.lt_asymm hSlt)
    · exact keep _ _ (hbw j hj).2 (hm.heap _ _ (hbw j hj).1 (hb j hj))
    · refine hR s'' tot'' na'' (Moved.trans W.gtrans ((hm.mono hsub).then_heap (Nat.le_refl _) fun x o hx e => keep x o (fun h => hx (by rw [h]; exact List.mem_cons_self)) e) hm'') ?_ (fun z => nomatch z) fun _ => ?_
      · rw [show acc ++ catA its i (k + 1) = (acc ++ its i) ++ catA its (i + 1) k from (List.append_assoc _ _ _).symm]
        exact hl''
      · cases k with
        | zero => rw [h0 rfl]; exact hSlt
        | succ k => exact h1 (by omega)
end
section
variable {prog : Program} {w : World} {A : Around} {E : Value → Shared → Prop} {s : Shared}
theorem args_sum2 (a b : Value) : argsOk "sum" ⟨[a, b], []⟩ := by unfold argsOk; kernel_rfl
theorem call_sum_lists {l p : Addr} {vs : List Value} {acc : List Value} {na : Nat} {its : Nat → List Value} {b nn : Nat → Nat} {Q : Value → Shared → Prop} (hh : A.handled = none) (hl : s.heap.IsList l vs.toArray)
    (hp : s.heap.get? p = some { cls := .type "list", data := .seq acc.toArray na }) (hval : ∀ (i : Nat) (v : Value), vs[i]? = some v → v = .ref (b i)) (hb : ∀ j, j < vs.length → s.heap.get? (b j) = some { cls := .type "list", data := .seq (its j).toArray (nn j) })
    (hz : acc.length + (catA its 0 vs.length).length ≤ sizeLine)
    (h : ∀ h' tk q nq, (∀ x o, s.heap.get? x = some o → h'.get? x = some o) → h'.get? q = some { cls := .type "list", data := .seq (acc ++ catA its 0 vs.length).toArray nq } → (vs.length = 0 → q = p) → (vs.length ≠ 0 → s.heap.objs.size ≤ q) → Q (.ref q) { s with heap := h', toks := tk }) :
    wpAny (model prog w) A (call (.builtin "sum") [.ref l, .ref p]) Q E s := by
  refine call_function_tree F.kind_sum F.plain_sum F.entry_sum (args_sum2 _ _) ?_
  unfold Builtin.«sum»
  simp only [List.length_cons, List.length_nil]
  rw [if_neg (by decide)]
  refine wpAny_bind (wpAny_of_eq (show Builtin.Builtins.bindParams "sum" ["start"] 0 ⟨[.ref p], []⟩ = pure [some (.ref p)] from rfl) ?_)
  refine wpAny_bind (PySem.W.iter_listW (A := A.in1) hh hl fun s₂ e W st hfp hw hk => ?_)
  refine wpAny_bind (wpAny_pure ?_)
  have hp2 : s₂.heap.get? p = some { cls := .type "list", data := .seq acc.toArray na } := hk _ _ hp
  have ty : s₂.TypeIs (.ref p) "list" := ⟨_, hp2, rfl⟩
  simp only [List.forIn_cons, List.forIn_nil]
  refine wpAny_bind (wpAny_bind (wpAny_bind (wpAny_isInstance (T := "list") (b := false) ty F.sub_list_str ?_)))
  simp only [Bool.false_eq_true, if_false]
  refine wpAny_pure (wpAny_bind (wpAny_bind (wpAny_isInstance (T := "list") (b := false) ty F.sub_list_bytes ?_)))
  simp only [Bool.false_eq_true, if_false]
  refine wpAny_pure (wpAny_bind (wpAny_bind (wpAny_isInstance (T := "list") (b := false) ty F.sub_list_bytearray ?_)))
  simp only [Bool.false_eq_true, if_false]
  refine wpAny_pure (wpAny_pure ?_)
  refine wpAny_bind (wpAny_newObj_type ?_)
  have hsz : s.heap.objs.size < s₂.heap.objs.size := hfp _ List.mem_cons_self
  have hSf : s₂.heap.objs.size ∉ [s.heap.objs.size, l] := fun hm => Nat.lt_irrefl _ (hfp _ hm)
  have hlt : ∀ {x : Addr} {o : Obj}, s.heap.get? x = some o → x ∉ [s.heap.objs.size] ∧ x ≠ s₂.heap.objs.size := fun {x o} e => ⟨hw _ _ e, Nat.ne_of_lt (Nat.lt_trans (Heap.lt_size e) hsz)⟩
  refine wpAny_pure ⟨plainId_quiet F.plain_sum_loop _, sum_loopL W s₂.heap.objs.size hSf its b nn (fun i v hv => hval i v (by simpa using hv)) (fun i hi => hlt (hb i (by simpa using hi))) (fun x hx => by rw [List.mem_singleton.mp hx]; exact hsz)
    vs.toArray.size 0 _ p acc na 0 rfl (Nat.zero_le _) (W.frame 0 s₂ _ _ st (Nat.le_refl _) fun x _ o e => Heap.get?_push_of_some _ e) (Heap.get?_push_size _ rfl) (Heap.get?_push_of_some _ hp2) (hlt hp).1 (hlt hp).2 (fun j hj => Heap.get?_push_of_some _ (hk _ _ (hb j (by simpa using hj)))) (by simpa using hz) fun s' tot' na' hm hq h0 h1 => ?_⟩
  obtain ⟨hp', g, d, tk, os⟩ := s'
  have e1 : g = s₂.gens := hm.gens
  have e2 : d = s₂.drawn := hm.drawn
  have e3 : os = s₂.os := hm.os
  subst e
  subst e1 e2 e3
  refine h hp' tk tot' na' (fun x o ex => hm.heap x o (fun hx => ?_) (Heap.get?_push_of_some _ (hk _ _ ex))) (by simpa using hq) (fun z => h0 (by simpa using z)) fun z => ?_
  · rcases List.mem_cons.mp hx with hx | hx
    · exact (hlt ex).2 hx
    · exact (hlt ex).1 hx
  · exact Nat.le_of_lt (Nat.lt_trans hsz (h1 (by simpa using z)))
end
end Lx
namespace Lx
open PySem PySem.Spec L2 PyProof.Rows
def rSumL (K : PySem.W.Frag) : List V → Hp → VK → Prop := fun xs H Q => ∃ (a p : Addr) (ws : List (Addr × List V)) (acc : List V), xs = [.ref a, .ref p] ∧ SqL K H a (ws.map fun w => V.ref w.1) ∧ (∀ w ∈ ws, H w.1 = some (.lst w.2)) ∧ H p = some (.lst acc) ∧
  (acc ++ ws.flatMap (·.2)).length ≤ sizeLine ∧ (ws = [] → Q (.ref p) H) ∧ (ws ≠ [] → ∀ q, H q = none → Q (.ref q) (upd H q (.lst (acc ++ ws.flatMap (·.2)))))
theorem Vals.get2 : ∀ {vs : List V} {us : List Value}, Vals vs us → ∀ (i : Nat) (u : Value), us[i]? = some u → ∃ v, vs[i]? = some v ∧ RelV v u
  | _, _, .nil, i, u, h => by simp at h
  | _, _, .cons a r, 0, u, h => by simp at h; subst h; exact ⟨_, rfl, a⟩
  | _, _, .cons a r, i + 1, u, h => by
    obtain ⟨v, h1, h2⟩ := Vals.get2 r i u (by simpa using h)
    exact ⟨v, by simpa using h1, h2⟩
theorem vals_cat {ws : List (Addr × List V)} {its : Nat → List Value} (h : ∀ (j : Nat) (w : Addr × List V), ws[j]? = some w → Vals w.2 (its j)) : ∀ (k i : Nat), i + k = ws.length → Vals ((ws.drop i).flatMap (·.2)) (catA its i k)
  | 0, i, e => by
    rw [List.drop_eq_nil_of_le (by omega)]
    exact .nil
  | k + 1, i, e => by
    have hi : i < ws.length := by omega
    rw [List.drop_eq_getElem_cons hi, List.flatMap_cons]
    exact (h i _ (List.getElem?_eq_getElem hi)).append (vals_cat h k (i + 1) (by omega))
section
variable {X : Cx} {K : PySem.W.Frag}
theorem call_sumL (hc : X.calm = true) : CallR X (.builtin "sum") (rSumL X.K) := by
  intro pins s σ H xs us Q I r h
  obtain ⟨a, p, ws, acc, rfl, hS, hw, hp, hz, q0, q1⟩ := h
  obtain ⟨u1, u2, rfl, r1, r2⟩ := vals2 r
  cases r1; cases r2
  obtain ⟨its0, rv, pl, hz0⟩ := I.list hS
  obtain ⟨_, ai, an, ra, _, hpo⟩ := I.lstM hp
  have sk : ∀ j : Nat, ∃ x : List Value × Nat, ∀ w, ws[j]? = some w → Vals w.2 x.1 ∧ s.heap.get? w.1 = some { cls := .type "list", data := .seq x.1.toArray x.2 } := fun j => by
    cases e : ws[j]? with
    | none => exact ⟨([], 0), fun w z => by cases z⟩
    | some w =>
      obtain ⟨_, i1, n1, v1, _, g1⟩ := I.lstM (hw w (List.mem_of_getElem? e))
      exact ⟨(i1, n1), fun w2 z => by cases z; exact ⟨v1, g1⟩⟩
  obtain ⟨f, hf⟩ := Classical.skolem.mp sk
  have hl0 : its0.length = ws.length := by rw [← rv.length, List.length_map]
  have cat := vals_cat (ws := ws) (its := fun j => (f j).1) (fun j w e => (hf j w e).1) ws.length 0 (by simp)
  rw [List.drop_zero] at cat
  refine call_sum_lists (its := fun j => (f j).1) (b := fun j => (ws[j]?.map (·.1)).getD 0) (nn := fun j => (f j).2) (I.ok.hd hc) pl.isList hpo (fun i v hv => ?_) (fun j hj => ?_) ?_ (fun h' tk q nq hk hq h0 h1 => ?_)
  · obtain ⟨v2, e1, e2⟩ := Vals.get2 rv i v hv
    rw [List.getElem?_map] at e1
    cases e : ws[i]? with
    | none => rw [e] at e1; cases e1
    | some w => rw [e] at e1; cases e1; rw [show v = Value.ref w.1 from e2]; rfl
  · have hj2 : j < ws.length := by omega
    have e := List.getElem?_eq_getElem hj2
    simp only [e, Option.map_some, Option.getD_some]
    exact (hf j _ e).2
  · rw [hl0, ← ra.length, ← cat.length, ← List.length_append]; exact hz
  · rw [hl0] at hq h0 h1
    by_cases hws : ws = []
    · subst hws
      rw [h0 rfl]
      exact ⟨.ref p, H, I.kept hk, rfl, q0 rfl⟩
    · have hsz := h1 (by intro z; exact hws (List.eq_nil_of_length_eq_zero z))
      exact ⟨.ref q, _, I.laid (t' := tk) (o := .lst (acc ++ ws.flatMap (·.2))) hk hsz ⟨hz, _, nq, ra.append cat, hq⟩, rfl, q1 hws q (I.hok.fresh hsz)⟩
end
abbrev IsTb := List (Ky × Bool)
structure OwnC (K : PySem.W.Frag) (c : Str) : Prop where
  ok : ∀ (H : Hp) (a dx : Addr) (fs : List (Str × V)), H a = some (.ins (He.ga K c) dx fs) → TyX K H (.ref a) (.ref (He.ga K c))
inductive IsOk (K : PySem.W.Frag) (u : Value) : IsTb → Prop
  | nil : IsOk K u []
  | cons {t : Ky} {b : Bool} {tb : IsTb} : PySem.W.kitOne K (vTy K t) u = some b → (∀ c, t = .c c → OwnC K c) → IsOk K u tb → IsOk K u ((t, b) :: tb)
theorem IsOk.get {K : PySem.W.Frag} {u : Value} : ∀ {tb : IsTb} {t : Ky} {b : Bool}, IsOk K u tb → tb.lookup t = some b → PySem.W.kitOne K (vTy K t) u = some b ∧ ∀ c, t = .c c → OwnC K c
  | _, _, _, .nil, h => by cases h
  | _, t, b, .cons (t := t2) h1 h2 r, h => by
    rw [List.lookup_cons] at h
    cases q : (t == t2) with
    | true => rw [q] at h; cases h; rw [eq_of_beq q]; exact ⟨h1, h2⟩
    | false => rw [q] at h; exact r.get h
end Lx
namespace Lx
open PySem PySem.Spec L2 PyProof.Rows
def Ev (te : TE) (σ : L2.St) (H : Hp) (v : V) : Prop := ∀ Q : VK, Q v H → te σ H Q
abbrev rGt1 : R2 := rI0 fun i j => .bl (decide (j < i))
abbrev rLt1 : R2 := rI0 fun i j => .bl (decide (i < j))
abbrev rGe1 : R2 := rI0 fun i j => .bl (decide (j ≤ i))
abbrev rMod1 : R2 := rI (fun _ j => 0 < j) fun i j => .int (i % j)
abbrev rFd1 : R2 := rI CDiv fun i j => .int (i / j)
abbrev rAdd1 : R2 := rI0 fun i j => .int (i + j)
abbrev rSub1 : R2 := rI0 fun i j => .int (i - j)
abbrev rMul1 : R2 := rI CMul fun i j => .int (i * j)
abbrev rPow1 : R2 := rI CPow fun i j => .int (i ^ j.toNat)
abbrev rInt1 : List V → Hp → VK → Prop := fun xs H Q => (∃ i, xs = [.int i] ∧ Q (.int i) H) ∨ ∃ k, xs = [.bl k] ∧ Q (.int (if k then 1 else 0)) H
abbrev rAbs1 : List V → Hp → VK → Prop := fun xs H Q => ∃ i, xs = [.int i] ∧ Q (.int (if i < 0 then -i else i)) H
abbrev tI1 (te : TE) : TE := tCB rInt1 (tCons te tNil)
abbrev tA1 (te : TE) : TE := tCB rAbs1 (tCons te tNil)
abbrev tLn (K : PySem.W.Frag) (te : TE) : TE := tCB (rLen K) (tCons te tNil)
abbrev kk (x : Str) : TE := tC (.str x)
section
variable {K : PySem.W.Frag} {σ : L2.St} {H : Hp} {ta tb : TE}
theorem ev_var {i : Nat} {v : V} (h : σ[i]? = some (some v)) : Ev (tVar i) σ H v := fun Q q => ⟨v, h, q⟩
theorem ev_c {v : V} : Ev (tC v) σ H v := fun Q q => q
theorem ev_op {r : R2} {x y z : V} (ha : Ev ta σ H x) (hb : Ev tb σ H y) (hr : ∀ Q : VK, Q z H → r x y H Q) : Ev (tOp r ta tb) σ H z := fun Q q => ha _ (hb _ (hr Q q))
theorem ev_i0 {f : Int → Int → V} {i j : Int} (ha : Ev ta σ H (.int i)) (hb : Ev tb σ H (.int j)) : Ev (tOp (rI0 f) ta tb) σ H (f i j) := ev_op ha hb fun Q q => ⟨i, j, rfl, rfl, q⟩
theorem ev_i {c : Int → Int → Prop} {f : Int → Int → V} {i j : Int} (ha : Ev ta σ H (.int i)) (hb : Ev tb σ H (.int j)) (hc : c i j) : Ev (tOp (rI c f) ta tb) σ H (f i j) := ev_op ha hb fun Q q => ⟨i, j, rfl, rfl, hc, q⟩
theorem ev_k (i : Int) : Ev (tC (.int i)) σ H (.int i) := fun Q q => q
theorem ev_v (k : Nat) (i : Int) (h : σ[k]? = some (some (.int i))) : Ev (tVar k) σ H (.int i) := ev_var h
theorem ev_add {i j : Int} (ha : Ev ta σ H (.int i)) (hb : Ev tb σ H (.int j)) : Ev (tOp rAdd1 ta tb) σ H (.int (i + j)) := ev_i0 ha hb
theorem ev_sub {i j : Int} (ha : Ev ta σ H (.int i)) (hb : Ev tb σ H (.int j)) : Ev (tOp rSub1 ta tb) σ H (.int (i - j)) := ev_i0 ha hb
theorem ev_mul {i j : Int} (ha : Ev ta σ H (.int i)) (hb : Ev tb σ H (.int j)) (h : CMul i j) : Ev (tOp rMul1 ta tb) σ H (.int (i * j)) := ev_i ha hb h
theorem ev_mod {i j : Int} (ha : Ev ta σ H (.int i)) (hb : Ev tb σ H (.int j)) (h : 0 < j) : Ev (tOp rMod1 ta tb) σ H (.int (i % j)) := ev_i ha hb h
theorem ev_fd {i j : Int} (ha : Ev ta σ H (.int i)) (hb : Ev tb σ H (.int j)) (h : CDiv i j) : Ev (tOp rFd1 ta tb) σ H (.int (i / j)) := ev_i ha hb h
theorem ev_int {i : Int} (ha : Ev ta σ H (.int i)) : Ev (tI1 ta) σ H (.int i) := fun Q q => ha _ (.inl ⟨i, rfl, q⟩)
theorem ev_abs {i : Int} (ha : Ev ta σ H (.int i)) : Ev (tA1 ta) σ H (.int (if i < 0 then -i else i)) := fun Q q => ha _ ⟨i, rfl, q⟩
theorem ev_len {a : Addr} {xs : List V} (ha : Ev ta σ H (.ref a)) (hs : SqL K H a xs) : Ev (tLn K ta) σ H (.int xs.length) := fun Q q => ha _ ⟨_, _, rfl, Or.inl ⟨_, hs, rfl⟩, q⟩
theorem ev_ix {a : Addr} {xs : List V} {i : Int} {v : V} (ha : Ev ta σ H (.ref a)) (hb : Ev tb σ H (.int i)) (hs : SqL K H a xs) (hv : atI xs i = some v) : Ev (tOp (rIx K) ta tb) σ H v := ev_op ha hb fun Q q => .inl ⟨a, xs, i, v, rfl, rfl, hs, hv, q⟩
theorem ev_get {a : Addr} {kvs : List (Key × V)} {x : Str} {v : V} (ha : Ev ta σ H (.ref a)) (hs : H a = some (.dK kvs)) (hv : valV kvs (Sum.inr x) = some v) : Ev (tDGet ta (kk x)) σ H v := fun Q q => ha _ ⟨a, v, rfl, by
  have := DGet.k (k := Sum.inr x) hs
  rw [hv] at this
  exact this, q⟩
end
section
variable (K : PySem.W.Frag)
abbrev pLeft : TE := tDGet (tVar 0) (kk "left")
abbrev pTurn : TE := tDGet (tVar 0) (kk "turn")
abbrev pCells : TE := tDGet (tVar 0) (kk "cells")
abbrev p18 : TE := tOp rPow1 (tC (.int 10)) (tC (.int 18))
abbrev pAb : TE := tOp rSub1 (tA1 (tVar 4)) p18
def d1 : TS := tIfS (tTest (tOp rGt1 pLeft (tC (.int 0)))) (tSeq (tAsg (tOp rMod1 (tI1 pLeft) (tVar 1)) (gName 2)) (tSeq (sDPut (tVar 0) (kk "left") (tOp rFd1 pLeft (tVar 1))) (tRet (tVar 2)))) tNext
def d5 : TS := tIfS (tTest (tOp (rNeU K) pCells (tLst tNil))) (tAsg (tOp (rIx K) pCells (tOp rMod1 (tI1 (tVar 3)) (tLn K pCells))) (gName 4)) tNext
def d6 : TS := tIfS (tAnd (tTest (tOp rLt1 (tVar 3) (tLn K pCells))) (tTest (tOp rGe1 (tA1 (tVar 4)) p18))) (tSeq (sDPut (tVar 0) (kk "left") (tOp rFd1 pAb (tVar 1))) (tRet (tOp rMod1 pAb (tVar 1)))) tNext
def d7 : TS := tAsg (tLst (tCons (tC (.int 2147483629)) (tCons (tC (.int 2147483647)) (tCons (tC (.int 2147483587)) (tCons (tC (.int 2147483563)) (tCons (tC (.int 2147483579)) tNil)))))) (gName 5)
def d8 : TS := tAsg (tOp (rIx K) (tVar 5) (tOp rMod1 (tI1 (tVar 3)) (tC (.int 5)))) (gName 6)
def d9 : TS := tAsg (tOp rMod1 (tI1 (tOp rAdd1 (tOp rAdd1 (tOp rMul1 (tOp rMod1 (tI1 (tVar 4)) (tVar 6)) (tC (.int 39373))) (tOp rMul1 (tVar 3) (tOp rAdd1 (tOp rMul1 (tC (.int 30011)) (tVar 3)) (tC (.int 8117))))) (tC (.int 23)))) (tVar 6)) (gName 7)
def d10 : TS := tAsg (tOp rMod1 (tI1 (tOp rMul1 (tVar 7) (tOp rAdd1 (tVar 7) (tC (.int 69621))))) (tOp (rIx K) (tVar 5) (tOp rMod1 (tI1 (tOp rAdd1 (tVar 3) (tC (.int 2)))) (tC (.int 5))))) (gName 7)
def d11 : TS := tRet (tOp rMod1 (tI1 (tOp rFd1 (tOp rMod1 (tI1 (tOp rAdd1 (tOp rAdd1 (tOp rMul1 (tVar 7) (tVar 7)) (tOp rMul1 (tC (.int 16807)) (tVar 7))) (tVar 3))) (tC (.int 2147483549))) (tC (.int 64)))) (tVar 1))
def t_draw : TS := tSeq d1 (tSeq (tAsg pTurn (gName 3)) (tSeq (sDPut (tVar 0) (kk "turn") (tOp rAdd1 (tVar 3) (tC (.int 1)))) (tSeq (tAsg (tOp rAdd1 (tOp rMul1 (tC (.int 43)) (tVar 3)) (tC (.int 19))) (gName 4))
  (tSeq (d5 K) (tSeq (d6 K) (tSeq d7 (tSeq (d8 K) (tSeq d9 (tSeq (d10 K) d11)))))))))
end
@[reducible] def drawD : List D → W D
  | [.pen, .int m] => W.need (0 < m ∧ m < 1073741824) (W.any 1 fun d => ∃ i : Int, d = .int i ∧ 0 ≤ i ∧ i < m)
  | _ => W.stuck
section
variable {K : PySem.W.Frag}
theorem dput {td tv : TE} {σ : L2.St} {H : Hp} {D : Ends} {a : Addr} {kvs : List (Key × V)} {x : Str} {v : V} (hd : ∀ H' : Hp, Ev td σ H' (.ref a)) (hv : Ev tv σ H v) (e : H a = some (.dK kvs)) (hl : kvs.length < sizeLine) (q : D.nx σ (upd H a (.dK (putK kvs (Sum.inr x) v)))) : sDPut td (kk x) tv D σ H :=
  hv _ (hd H _ ⟨a, _, rfl, DPut.k (k := Sum.inr x) e hl, q⟩)
theorem pk_l {l : Addr} {t lf x : Int} : putK (penKvs l t lf) (Sum.inr ("left" : Str)) (.int x) = penKvs l t x := rfl
theorem pk_t {l : Addr} {t lf x : Int} : putK (penKvs l t lf) (Sum.inr ("turn" : Str)) (.int x) = penKvs l x lf := rfl
theorem pv_l {l : Addr} {t lf : Int} : valV (penKvs l t lf) (Sum.inr ("left" : Str)) = some (.int lf) := rfl
theorem pv_t {l : Addr} {t lf : Int} : valV (penKvs l t lf) (Sum.inr ("turn" : Str)) = some (.int t) := rfl
theorem pv_c {l : Addr} {t lf : Int} : valV (penKvs l t lf) (Sum.inr ("cells" : Str)) = some (.ref l) := rfl
theorem pk_len {l : Addr} {t lf : Int} : (penKvs l t lf).length < sizeLine := by rw [sizeLine_eq]; show 3 < 16777216; decide
theorem atI_in {α : Type} {xs : List α} {i : Int} (h0 : 0 ≤ i) (h1 : i < xs.length) : ∃ v, atI xs i = some v ∧ xs[i.toNat]? = some v := by
  have hl : i.toNat < xs.length := by omega
  have e : ixN xs.length i = some i.toNat := by
    unfold ixN
    rw [if_pos h0, if_pos h1]
  refine ⟨xs[i.toNat], ?_, List.getElem?_eq_getElem hl⟩
  unfold atI
  rw [e]
  exact List.getElem?_eq_getElem hl
theorem itD {c : Prop} [Decidable c] {a b : Prop} (h : c) (x : a) : (if decide c = true then a else b) := by rw [if_pos (decide_eq_true h)]; exact x
theorem itN {c : Prop} [Decidable c] {a b : Prop} (h : ¬ c) (x : b) : (if decide c = true then a else b) := by rw [if_neg (by simpa using h)]; exact x
theorem ite1 {c : Bool} {a b : Prop} (h : c = true) (x : a) : (if c = true then a else b) := by rw [if_pos h]; exact x
theorem shaped_ints (cs : List Int) : SeqAt.shaped (.list (cs.map .int)) = true := by
  have h1 : ∀ cs : List Int, PyData.canLayAll0 (cs.map .int) = true := fun cs => by
    induction cs with
    | nil => rfl
    | cons c r ih => exact ih
  have h2 : (PyData.list (cs.map .int)).depth ≤ 64 := by
    show PyData.depthAll (cs.map .int) + 1 ≤ 64
    rw [depth_ints]
    decide
  exact Bool.and_eq_true_iff.mpr ⟨h1 cs, decide_eq_true h2⟩
theorem ne_nil (c : Int) (r : List Int) : (!PyData.eqv (.list ((c :: r).map .int)) (.list [])) = true := rfl
theorem draw_pure {vs : List V} {H : Hp} {Q : VK} {E : XK} (h : Pr K 2 drawD vs H Q E) : t_draw K { nx := fun _ H' => Q .non H', rt := Q } (L2.start ["_law_pen_here", "_law_span", "_law_digit", "_law_turn", "_law_cell", "_law_primes", "_law_prime", "_law_drawn"] vs) H := by
  obtain ⟨pn, F, ds, n, ok, r, dl, q⟩ := h
  match ds, r, q with
  | [.pen, .int m], r, q1 =>
    obtain ⟨v0, v1, rfl, r0, r1⟩ := r.two
    cases r1
    obtain ⟨⟨m0, m1⟩, k, rfl, q2⟩ := q1
    obtain rfl : v0 = .ref pn := by cases r0; rfl
    obtain ⟨l, cs, t, lf, hp, hl, hcs, t0, tn, lf0⟩ := ok.pen
    have fin : ∀ (H' : Hp) (t' lf' i : Int), (∀ a o, a ≠ pn → H a = some o → H' a = some o) → H' pn = some (.dK (penKvs l t' lf')) → 0 ≤ t' → t' ≤ t + 1 → 0 ≤ lf' → 0 ≤ i → i < m → Q (.int i) H' := fun H' t' lf' i hk hp' ht0 ht1 hl0 i0 i1 =>
      q2 (.int i) ⟨i, rfl, i0, i1⟩ (.int i) F H' ⟨hk, Le.refl F, fun a o e z => by rw [z] at e; cases e⟩ ⟨fun a o e => hk a o (fun z => by rw [z, ok.fpn] at e; cases e) (ok.fro a o e), ok.fpn, l, cs, t', lf', hp', hl, hcs, ht0, by have : ((k + 1 : Nat) : Int) = k + 1 := rfl; omega, hl0⟩ (.int i)
    let σ0 : L2.St := [some (.ref pn), some (.int m), none, none, none, none, none, none]
    have g0 : ∀ σ (H' : Hp), σ[0]? = some (some (V.ref pn)) → Ev (tVar 0) σ H' (.ref pn) := fun σ H' e => ev_var e
    show t_draw K _ σ0 H
    have evl : Ev pLeft σ0 H (.int lf) := ev_get (g0 σ0 H rfl) hp pv_l
    have ev1 : ∀ H', Ev (tVar 1) σ0 H' (.int m) := fun H' => ev_var rfl
    unfold t_draw d1
    refine (ev_i0 evl ev_c) _ ⟨decide (0 < lf), rfl, ?_⟩
    by_cases hlf : 0 < lf
    · refine itD hlf ?_
      refine (ev_mod (ev_int evl) (ev1 H) m0) _ ?_
      have evl2 : Ev pLeft (σ0.set 2 (some (.int (lf % m)))) H (.int lf) := ev_get (g0 _ H rfl) hp pv_l
      refine dput (fun H' => g0 _ H' rfl) (ev_fd evl2 (ev_v 1 m rfl) ⟨m0, m1⟩) hp pk_len ?_
      rw [pk_l]
      refine ⟨_, rfl, fin _ t (lf / m) (lf % m) (fun a o na e => by rw [upd_ne na]; exact e) upd_same t0 (by omega) (Int.ediv_nonneg lf0 (by omega)) (Int.emod_nonneg _ (by omega)) (Int.emod_lt_of_pos _ m0)⟩
    · refine itN hlf ?_
      refine (ev_get (g0 σ0 H rfl) hp pv_t : Ev pTurn σ0 H (.int t)) _ ?_
      let σ1 : L2.St := [some (.ref pn), some (.int m), none, some (.int t), none, none, none, none]
      unfold gName
      refine dput (fun H' => g0 _ H' rfl) (ev_add (ev_v 3 t rfl) (ev_k 1)) hp pk_len ?_
      rw [pk_t]
      generalize hH1 : upd H pn (.dK (penKvs l (t + 1) lf)) = H1
      have hp1 : H1 pn = some (.dK (penKvs l (t + 1) lf)) := by rw [← hH1]; exact upd_same
      have k1 : ∀ a o, a ≠ pn → H a = some o → H1 a = some o := fun a o na e => by rw [← hH1, upd_ne na]; exact e
      have lc : ∀ H' : Hp, (∀ a o, a ≠ pn → H a = some o → H' a = some o) → SqL K H' l (cs.map V.int) := fun H' hk => Le.sqL (fun a o e => hk a o (fun z => by rw [z, ok.fpn] at e; cases e) (ok.fro a o e)) hl
      refine (ev_add (ev_mul (ev_k 43) (ev_v 3 t rfl) (.inl ⟨by decide, by decide⟩)) (ev_k 19)) _ ?_
      have tb : t < 2 ^ 60 := by have : ((k + 1 : Nat) : Int) = k + 1 := rfl; omega
      -- the rest, once the cell is there
      have rest : ∀ (c : Int) (H2 : Hp), H2 pn = some (.dK (penKvs l (t + 1) lf)) → (∀ a o, a ≠ pn → H a = some o → H2 a = some o) →
          tSeq (d6 K) (tSeq d7 (tSeq (d8 K) (tSeq d9 (tSeq (d10 K) d11)))) { nx := fun _ H' => Q .non H', rt := Q } [some (.ref pn), some (.int m), none, some (.int t), some (.int c), none, none, none] H2 := by
        intro c H2 hp2 k2
        let σ2 : L2.St := [some (.ref pn), some (.int m), none, some (.int t), some (.int c), none, none, none]
        show tSeq (d6 K) _ _ σ2 H2
        have evc : Ev pCells σ2 H2 (.ref l) := ev_get (g0 _ H2 rfl) hp2 pv_c
        have eva : Ev (tA1 (tVar 4)) σ2 H2 (.int (if c < 0 then -c else c)) := ev_abs (ev_var rfl)
        have e18 : Ev p18 σ2 H2 (.int (10 ^ 18)) := ev_i (c := CPow) (f := fun i j => .int (i ^ j.toNat)) (i := 10) (j := 18) ev_c ev_c ⟨by decide, by decide, by decide⟩
        have evab : Ev pAb σ2 H2 (.int ((if c < 0 then -c else c) - 10 ^ 18)) := ev_i0 eva e18
        unfold d6
        -- what comes when the cell isn't wide
        have tail : tSeq d7 (tSeq (d8 K) (tSeq d9 (tSeq (d10 K) d11))) { nx := fun _ H' => Q .non H', rt := Q } σ2 H2 := by
          unfold d7
          refine ⟨by rw [sizeLine_eq]; decide, fun p hpf => ?_⟩
          have pne : p ≠ pn := fun z => by rw [z, hp2] at hpf; cases hpf
          let ps : List V := [.int 2147483629, .int 2147483647, .int 2147483587, .int 2147483563, .int 2147483579]
          have hps : upd H2 p (.lst ps) p = some (.lst ps) := upd_same
          have hp3 : upd H2 p (.lst ps) pn = some (.dK (penKvs l (t + 1) lf)) := by rw [upd_ne pne.symm]; exact hp2
          have k3 : ∀ a o, a ≠ pn → H a = some o → upd H2 p (.lst ps) a = some o := fun a o na e => by
            have := k2 a o na e
            rw [upd_ne (ne_of_none this hpf)]; exact this
          generalize upd H2 p (.lst ps) = H3 at hps hp3 k3
          have prm : ∀ i : Int, 0 ≤ i → i < 5 → ∃ pr : Int, atI ps i = some (.int pr) ∧ 0 < pr ∧ pr < 2 ^ 31 := fun i h0 h5 => by
            have : i = 0 ∨ i = 1 ∨ i = 2 ∨ i = 3 ∨ i = 4 := by omega
            rcases this with rfl | rfl | rfl | rfl | rfl
            · exact ⟨2147483629, rfl, by decide, by decide⟩
            · exact ⟨2147483647, rfl, by decide, by decide⟩
            · exact ⟨2147483587, rfl, by decide, by decide⟩
            · exact ⟨2147483563, rfl, by decide, by decide⟩
            · exact ⟨2147483579, rfl, by decide, by decide⟩
          obtain ⟨pr, hpr, pr0, pr1⟩ := prm (t % 5) (Int.emod_nonneg _ (by decide)) (Int.emod_lt_of_pos _ (by decide))
          obtain ⟨pr2, hpr2, pr20, pr21⟩ := prm ((t + 2) % 5) (Int.emod_nonneg _ (by decide)) (Int.emod_lt_of_pos _ (by decide))
          unfold d8
          refine (ev_ix (ev_var (v := .ref p) rfl) (ev_mod (ev_int (ev_v 3 t rfl)) (ev_k 5) (by decide)) (SqL.of hps) hpr) _ ?_
          unfold d9
          have cm : 0 ≤ c % pr ∧ c % pr < pr := ⟨Int.emod_nonneg _ (by omega), Int.emod_lt_of_pos _ pr0⟩
          refine (ev_mod (ev_int (ev_add (ev_add (ev_mul (ev_mod (ev_int (ev_v 4 c rfl)) (ev_v 6 pr rfl) pr0) (ev_k 39373) (.inr ⟨by decide, by decide⟩)) (ev_mul (ev_v 3 t rfl) (ev_add (ev_mul (ev_k 30011) (ev_v 3 t rfl) (.inl ⟨by decide, by decide⟩)) (ev_k 8117)) (.inl ⟨by omega, by omega⟩))) (ev_k 23))) (ev_v 6 pr rfl) pr0) _ ?_
          generalize hd : (c % pr * 39373 + t * (30011 * t + 8117) + 23) % pr = dr
          have dr0 : 0 ≤ dr ∧ dr < pr := by rw [← hd]; exact ⟨Int.emod_nonneg _ (by omega), Int.emod_lt_of_pos _ pr0⟩
          unfold d10
          refine (ev_mod (ev_int (ev_mul (ev_v 7 dr rfl) (ev_add (ev_v 7 dr rfl) (ev_k 69621)) (.inl ⟨by omega, by omega⟩))) (ev_ix (ev_var (v := .ref p) rfl) (ev_mod (ev_int (ev_add (ev_v 3 t rfl) (ev_k 2))) (ev_k 5) (by decide)) (SqL.of hps) hpr2) pr20) _ ?_
          generalize hd2 : (dr * (dr + 69621)) % pr2 = dq
          have dq0 : 0 ≤ dq ∧ dq < pr2 := by rw [← hd2]; exact ⟨Int.emod_nonneg _ (by omega), Int.emod_lt_of_pos _ pr20⟩
          unfold d11
          refine (ev_mod (ev_int (ev_fd (ev_mod (ev_int (ev_add (ev_add (ev_mul (ev_v 7 dq rfl) (ev_v 7 dq rfl) (.inl ⟨by omega, by omega⟩)) (ev_mul (ev_k 16807) (ev_v 7 dq rfl) (.inl ⟨by decide, by decide⟩))) (ev_v 3 t rfl))) (ev_k 2147483549) (by decide)) (ev_k 64) ⟨by decide, by decide⟩)) (ev_v 1 m rfl) m0) _ ?_
          exact fin H3 (t + 1) lf _ k3 hp3 (by omega) (by omega) lf0 (Int.emod_nonneg _ (by omega)) (Int.emod_lt_of_pos _ m0)
        refine (ev_i0 (ev_var (v := .int t) rfl) (ev_len evc (lc H2 k2))) _ ⟨_, rfl, ?_⟩
        by_cases c1 : t < ((cs.map V.int).length : Int)
        · refine itD c1 ?_
          refine (ev_i0 eva e18) _ ⟨_, rfl, ?_⟩
          by_cases c2 : (10 : Int) ^ 18 ≤ (if c < 0 then -c else c)
          · refine itD c2 ?_
            refine dput (fun H' => g0 _ H' rfl) (ev_fd evab (ev_v 1 m rfl) ⟨m0, m1⟩) hp2 pk_len ?_
            rw [pk_l]
            have e18' : ∀ H', Ev p18 σ2 H' (.int (10 ^ 18)) := fun H' => ev_i (c := CPow) (f := fun i j => .int (i ^ j.toNat)) (i := 10) (j := 18) ev_c ev_c ⟨by decide, by decide, by decide⟩
            refine (ev_mod (ev_sub (ev_abs (ev_v 4 c rfl)) (e18' _)) (ev_v 1 m rfl) m0) _ ?_
            refine fin _ (t + 1) _ _ (fun a o na e => by rw [upd_ne na]; exact k2 a o na e) upd_same (by omega) (by omega) (Int.ediv_nonneg (by omega) (by omega)) (Int.emod_nonneg _ (by omega)) (Int.emod_lt_of_pos _ m0)
          · exact itN c2 tail
        · exact itN c1 (iteF tail)
      -- the cell
      let σ2 : L2.St := [some (.ref pn), some (.int m), none, some (.int t), some (.int (43 * t + 19)), none, none, none]
      show tSeq (d5 K) _ _ σ2 H1
      unfold d5
      have evc : Ev pCells σ2 H1 (.ref l) := ev_get (g0 _ H1 rfl) hp1 pv_c
      refine evc _ ⟨by rw [sizeLine_eq]; decide, fun p hpf => ?_⟩
      have pne : p ≠ pn := fun z => by rw [z, hp1] at hpf; cases hpf
      have hp2 : upd H1 p (.lst []) pn = some (.dK (penKvs l (t + 1) lf)) := by rw [upd_ne pne.symm]; exact hp1
      have hpp : upd H1 p (.lst []) p = some (.lst []) := upd_same
      have k2 : ∀ a o, a ≠ pn → H a = some o → upd H1 p (.lst []) a = some o := fun a o na e => by
        have := k1 a o na e
        rw [upd_ne (ne_of_none this hpf)]; exact this
      generalize upd H1 p (.lst []) = H2 at hp2 hpp k2
      refine .inr ⟨.list (cs.map .int), .list [], .lst (lc H2 k2) (dp_ints cs), .lst (SqL.of hpp) .nil, ?_, rfl, ⟨_, rfl, ?_⟩⟩
      · exact shaped_ints cs
      cases hcs0 : cs with
      | nil =>
        subst hcs0
        exact iteF (rest (43 * t + 19) H2 hp2 k2)
      | cons c0 cr =>
        refine ite1 (ne_nil c0 cr) ?_
        have hlen : (0 : Int) < ((cs.map V.int).length : Int) := by rw [hcs0]; simp
        have evc2 : Ev pCells σ2 H2 (.ref l) := ev_get (g0 _ H2 rfl) hp2 pv_c
        obtain ⟨v, hv, hv2⟩ := atI_in (xs := cs.map V.int) (i := t % ((cs.map V.int).length : Int)) (Int.emod_nonneg _ (by omega)) (Int.emod_lt_of_pos _ hlen)
        rw [List.getElem?_map] at hv2
        obtain ⟨c, _, rfl⟩ : ∃ c, cs[(t % ((cs.map V.int).length : Int)).toNat]? = some c ∧ v = .int c := by
          cases z : cs[(t % ((cs.map V.int).length : Int)).toNat]? with
          | none => rw [z] at hv2; cases hv2
          | some c => rw [z] at hv2; cases hv2; exact ⟨c, rfl, rfl⟩
        refine (ev_ix evc2 (ev_mod (ev_int (ev_v 3 t rfl)) (ev_len evc2 (lc H2 k2)) hlen) (lc H2 k2) hv) _ ?_
        exact rest c H2 hp2 k2
end
end Lx
namespace Lx
open PySem PySem.Spec L2 PyProof.Rows He
section
variable {K : PySem.W.Frag}
theorem fm_meth {x m y : Str} (c : (Fm.meth x m y).ok K = true) : Meth K (ga K x) m (ma K (ga K y) m) := by
  obtain ⟨c1, c⟩ := ba c
  obtain ⟨c2, c3⟩ := ba c
  exact ⟨eqO_ok c1, c2, c3⟩
theorem fm_prop {x f y : Str} (c : (Fm.prop x f y).ok K = true) : PropOf K (ga K x) f (ppA K y f) (pgA K y f) := by
  obtain ⟨c1, c⟩ := ba c
  obtain ⟨c2, c⟩ := ba c
  obtain ⟨c3, c4⟩ := ba c
  refine ⟨eqO_ok c1, eqO_ok c2, of_decide_eq_true c3, ?_⟩
  unfold pgA
  split at c4
  · rename_i g r e
    exact ⟨r, by rw [e]⟩
  · cases c4
theorem fm_ini {x y : Str} (c : (Fm.ini x y).ok K = true) : Mk K (ga K x) (ma K (ga K y) "__init__") := by
  obtain ⟨c1, c⟩ := ba c
  obtain ⟨c2, c⟩ := ba c
  obtain ⟨c3, c4⟩ := ba c
  exact ⟨c1, eqO_ok c2, c3, c4⟩
theorem fm_sup {x d y : Str} (c : (Fm.sup x d y).ok K = true) : SupC K (ga K x) (ga K d) (ma K (ga K y) "__init__") := by
  obtain ⟨c1, c⟩ := ba c
  obtain ⟨c2, c⟩ := ba c
  obtain ⟨c3, c4⟩ := ba c
  exact ⟨of_decide_eq_true c1, eqO_ok c2, of_decide_eq_true c3, c4⟩
theorem fm_own {x : Str} (c : (Fm.own x).ok K = true) (hC : Cls K (ga K x)) : OwnC K x := by
  obtain ⟨c1, c⟩ := ba c
  obtain ⟨c2, c⟩ := ba c
  obtain ⟨c3, c4⟩ := ba c
  exact ⟨fun H a dx fs e => .base (.ins e hC (eqO_ok c1) (eqO_ok c2) (of_decide_eq_true c3) (of_decide_eq_true c4))⟩
theorem fm_isi {t c : Ky} {b : Bool} (h : (Fm.isi t c b).ok K = true) : PySem.W.kitOne K (vTy K t) (vTy K c) = some b := of_decide_eq_true h
theorem fm_top (c : Fm.top.ok K = true) : PySem.W.nsIn K mainGlobals "super" = some none ∧ PySem.W.nsIn K cStatics "thirdparty.any" = some none := by
  obtain ⟨c1, c2⟩ := ba c
  exact ⟨eqO_ok c1, eqO_ok c2⟩
end
theorem strB_ok {file : Str} {o : Option Value} (h : strB file o = true) : ∃ f t, o = some (.str f t) ∧ (file == f) = true := by
  unfold strB at h
  split at h
  · exact ⟨_, _, rfl, h⟩
  · cases h
theorem DefM.funD {K : PySem.W.Frag} {file : Str} {d : DefM} (hs : d.sup = none) (e : fnM K (d.at_.a K) = d.val) (c : d.ok K file = true) : ∃ fd, FunD K d.name d.qual d.params d.body d.scope d.dfl d.kwd (d.at_.a K) fd := by
  obtain ⟨kp, c2⟩ := ba c
  unfold fnM at e
  cases q : K.lookup (d.at_.a K) with
  | none => rw [q] at c2; cases c2
  | some o =>
    obtain ⟨oc, od, dt, osl⟩ := o
    rw [q] at c2 e
    cases dt with
    | func fd =>
      obtain ⟨n1, n2, n3, n4, n5, n6, n7, n8, n9, n10, n11, n12, n13, n14, n15⟩ := fd
      have e2 : (some (n1, n2, n3, n4, n5, n6, n15) : FnM) = some (d.name, d.qual, d.params, .stmts d.body, d.scope, mainGlobals, builtinsNs) := e
      simp only [Option.some.injEq, Prod.mk.injEq] at e2
      obtain ⟨h1, h2, h3, h4, h5, h6, h8⟩ := e2
      subst h1 h2 h3 h4 h5 h6 h8
      rw [hs] at c2
      obtain ⟨k1, k2⟩ := ba c2
      obtain ⟨k3, k4⟩ := ba k2
      cases n7 with
      | cons a r => cases k4
      | nil =>
        obtain ⟨k5, k6⟩ := ba k3
        exact ⟨_, ⟨oc, od, n8, n9, n10, n11, n12, n13, n14, osl, rfl, q, k1, dflB_ok k5, kwdB_ok k6⟩, kp⟩
    | _ => cases c2
theorem DefM.supD {P : Program} {K : PySem.W.Frag} {d : DefM} {D : Str} (hs : d.sup = some D) (e : fnM K (d.at_.a K) = d.val) (c : d.ok K P.main.file = true) (ht : Fm.top.ok K = true) (hp : (P.main.scope.names.lookup ("super" : Str)).isSome = false) :
    ∃ fd, SupG P K d.name d.qual d.params d.body d.scope d.dfl d.kwd (ga K D) (d.at_.a K) fd := by
  obtain ⟨t1, t2⟩ := fm_top ht
  obtain ⟨kp, c2⟩ := ba c
  unfold fnM at e
  cases q : K.lookup (d.at_.a K) with
  | none => rw [q] at c2; cases c2
  | some o =>
    obtain ⟨oc, od, dt, osl⟩ := o
    rw [q] at c2 e
    cases dt with
    | func fd =>
      obtain ⟨n1, n2, n3, n4, n5, n6, n7, n8, n9, n10, n11, n12, n13, n14, n15⟩ := fd
      have e2 : (some (n1, n2, n3, n4, n5, n6, n15) : FnM) = some (d.name, d.qual, d.params, .stmts d.body, d.scope, mainGlobals, builtinsNs) := e
      simp only [Option.some.injEq, Prod.mk.injEq] at e2
      obtain ⟨h1, h2, h3, h4, h5, h6, h8⟩ := e2
      subst h1 h2 h3 h4 h5 h6 h8
      rw [hs] at c2
      obtain ⟨k1, k2⟩ := ba c2
      obtain ⟨k3, k4⟩ := ba k2
      unfold cloB at k4
      cases n7 with
      | nil => cases k4
      | cons a r =>
        cases r with
        | cons _ _ => cases k4
        | nil =>
          obtain ⟨x, cc⟩ := a
          obtain ⟨j1, j2⟩ := ba k4
          obtain ⟨j3, j4⟩ := ba j2
          obtain ⟨j5, j6⟩ := ba j4
          have ex : x = "__class__" := of_decide_eq_true j1
          subst ex
          obtain ⟨k5, k6⟩ := ba k3
          cases n13 with
          | ref cda =>
            have j5' : (match K.lookup cda with | some ⟨_, _, .fields vs, _⟩ => strB P.main.file vs[2]? | _ => false) = true := j5
            refine ⟨_, ⟨oc, od, n8, n9, n10, n11, n12, cda, n14, osl, cc, rfl, q, k1, ⟨dflB_ok k5, kwdB_ok k6⟩, ?_, ?_⟩, kp, Option.isSome_iff_exists.mp j6, t1, t2, hp⟩
            · split at j3
              · rename_i hc
                have ed := of_decide_eq_true j3
                subst ed
                exact ⟨_, _, _, hc⟩
              · cases j3
            · split at j5'
              · rename_i hc
                obtain ⟨f, t, hv, hf⟩ := strB_ok j5'
                exact ⟨_, _, _, _, _, _, hc, hv, hf⟩
              · cases j5'
          | _ => cases k1
    | _ => cases c2
end Lx
namespace Lx
open PySem PySem.Spec L2 PyProof.Rows He
abbrev rLst1 (K : PySem.W.Frag) : List V → Hp → VK → Prop := fun xs H Q => ∃ p ys, xs = [.ref p] ∧ (SqL K H p ys ∨ SqT K H p ys) ∧ ∀ l, H l = none → Q (.ref l) (upd H l (.lst ys))
def t_pen (K : PySem.W.Frag) : TS := tRet (tDisp [(kk "cells", tCB (rLst1 K) (tCons (L2.tSl (rSlU K) (tVar 0) tNoPart (tPart (tC (.int 63)))) tNil)), (kk "turn", tC (.int 0)), (kk "left", tC (.int 0))])
def spPen (K : PySem.W.Frag) : Sp := fun vs H Q _ => ∃ (a : Addr) (ns : List Int), vs = [.ref a] ∧ SqL K H a (ns.map V.int) ∧
  ∀ (p l : Addr) (cs : List Int) (H' : Hp), H p = none → H l = none → cs.length ≤ 63 → (∀ b o, H b = some o → H' b = some o) → H' p = some (.dK (penKvs l 0 0)) → H' l = some (.lst (cs.map V.int)) → l ≠ p → Q (.ref p) H'
theorem spPen.len {K : PySem.W.Frag} (vs : List V) (H : Hp) (Q : VK) (E : XK) (h : spPen K vs H Q E) : vs.length = 1 := by
  obtain ⟨_, _, rfl, _⟩ := h
  rfl
theorem cut_ints (ns : List Int) : ∃ cs : List Int, cs.length ≤ 63 ∧ cutV (ns.map V.int) none (some 63) = cs.map V.int := by
  unfold cutV
  refine ⟨(ns.drop (HT.sIx (ns.map V.int).length 0 none)).take (HT.sIx (ns.map V.int).length (ns.map V.int).length (some 63) - HT.sIx (ns.map V.int).length 0 none), ?_, ?_⟩
  · rw [List.length_take]
    refine Nat.le_trans (Nat.min_le_left _ _) (Nat.le_trans (Nat.sub_le _ _) ?_)
    show HT.sIx _ _ (some 63) ≤ 63
    unfold HT.sIx
    simp only
    split
    · omega
    · exact Nat.min_le_left _ _
  · rw [List.map_take, List.map_drop]
theorem pen_pure {K : PySem.W.Frag} {N : List Str} {vs : List V} {H : Hp} {Q : VK} {E : XK} (h : spPen K vs H Q E) : t_pen K { nx := fun _ H' => Q .non H', rt := Q } (L2.start N vs) H := by
  obtain ⟨a, ns, rfl, hs, q⟩ := h
  obtain ⟨cs, hcs, ecs⟩ := cut_ints ns
  intro p hp
  have s1 : SqL K (upd H p (.dK [])) a (ns.map V.int) := Le.sqL (Le.up hp) hs
  refine ⟨.ref a, rfl, ⟨63, rfl, .inr (.inl ⟨a, _, rfl, s1, fun b hb => ?_⟩)⟩⟩
  rw [ecs]
  refine ⟨b, _, rfl, .inl (SqL.of upd_same), fun l hl => ?_⟩
  have hbp : b ≠ p := fun z => by rw [z, upd_same] at hb; cases hb
  have hlb : l ≠ b := fun z => by rw [z, upd_same] at hl; cases hl
  have hlp : l ≠ p := fun z => by rw [z, upd_ne hbp.symm, upd_same] at hl; cases hl
  have hb0 : H b = none := by rw [upd_ne hbp] at hb; exact hb
  have hl0 : H l = none := by rw [upd_ne hlb, upd_ne hlp] at hl; exact hl
  refine ⟨by rw [upd_ne hlp.symm, upd_ne hbp.symm, upd_same], penKvs l 0 0, rfl, (show 3 ≤ 15 by decide), ?_⟩
  refine q p l cs _ hp hl0 hcs (fun c o e => ?_) upd_same (by rw [upd_ne hlp, upd_same]) hlp
  rw [upd_ne (ne_of_none e hp), upd_ne (ne_of_none e hl0), upd_ne (ne_of_none e hb0), upd_ne (ne_of_none e hp)]
  exact e
theorem FnOk.up {P : Program} {w : World} {K : PySem.W.Frag} {mg : Str → Option Value} {base : Heap} {CX : CXT} {j k : Nat} {f : Addr} {fd : FuncData} {ps : List Str} {sp : Sp} (F : FnOk P w K mg base CX j f fd ps sp) (h : j ≤ k) : FnOk P w K mg base CX k f fd ps sp :=
  ⟨F.len, fun A outer s H args us vs Q E hr => F.run A outer s H args us vs Q E (hr.mono h)⟩
end Lx
namespace Lx
open PySem PySem.Spec L2 PyProof.Rows He CwR
section
variable {X : Cx}
theorem pe_gi {x : Str} {i : Int} {pos : Pos} (h : ∃ t, X.mg x = some (.int i t)) (hg : Gl X x) (hd : (x == ("__debug__" : Str)) = false := by decide) : PE X (.Name x pos) (tC (.int i)) := by
  obtain ⟨t, e⟩ := h
  exact pe_glob hg e ⟨t, rfl⟩ hd
theorem pe_gs {x z : Str} {pos : Pos} (h : ∃ t, X.mg x = some (.str z t)) (hg : Gl X x) (hd : (x == ("__debug__" : Str)) = false := by decide) : PE X (.Name x pos) (tC (.str z)) := by
  obtain ⟨t, e⟩ := h
  exact pe_glob hg e ⟨t, rfl⟩ hd
end
theorem fn_const {P : Program} {w : World} {K : PySem.W.Frag} {mg : Str → Option Value} {base : Heap} {x qual : Str} {params : Arguments} {scope : Scope} {f : Addr} {fd : FuncData} {N : List Str} {k j : Nat} {c : Str} {p1 p2 : Pos}
    (F : FunD K x qual params [.Return (some (.Constant (.str c) j p1)) p2] scope [] [] f fd) (S : FnScope N [] scope) {A : Around} {outer : List Env} {s : Shared} {H : Hp} (hr : Room (k + 1) A) (he : Env0 P w K mg base A outer s H) (hb : Binds K fd [] []) :
    codeAny (model P w) A (.call (.ref f) ⟨[], []⟩) (fun r s' => CR CX0 outer P w H s (fun v H' => v = .str c ∧ H' = H) E0 r s' ∧ 1 ≤ s'.toks) s := by
  obtain ⟨oc, od, dV, kV, doc, pm, an, cdv, ct, osl, rfl, lk, hcd, _, _⟩ := F.ex
  have st : ∀ b o, base.get? b = some o → s.heap.get? b = some o := fun b o e => (he.bs b o e).1
  have KX : K.In s.heap := he.mod.kin.keeps st
  refine codeAny_call_function hr.depth (KX _ _ lk) rfl S.co S.gen rfl (PySem.W.codeRec_of KX hcd) (hb s [] KX rfl _ _ _ _ (wpAny_newFunctionEnv_cells S.kind (fun y hy => by cases hy) fun env ee s1 ic => ?_))
  subst ee
  refine ⟨(he.mod.nolimit.keeps st).keeps ic.toInCall.keep, codeAny_func ?_⟩
  have I : Inv (cxOf CX0 P w K mg base N qual scope f cdv A outer s H E0) [] (L2.start N []) H s1 := inv_start (us := []) (vs := []) (ps := []) S hr.hd he rfl .nil ic
  refine wpAny_execs_cons (wpAny_Return_some (Calls.Constant_str ?_))
  have J := I.tok (s1.toks + 1)
  exact ⟨⟨.str c, H, J.os, J.bare, J.base, J.hok, ⟨_, rfl⟩, rfl, rfl⟩, Nat.succ_le_succ (Nat.zero_le _)⟩
section
variable {X : Cx}
theorem pe_crepl {x qual : Str} {params : Arguments} {scope : Scope} {f : Addr} {fd : FuncData} {N : List Str} {k j j2 j3 : Nat} {c y z g r : Str} {p1 p2 p3 p4 c0 c1 apos pos : Pos}
    (F : FunD X.K x qual params [.Return (some (.Constant (.str c) j p1)) p2] scope [] [] f fd) (S : FnScope N [] scope) (hb : Binds X.K fd [] []) (hr : Room (k + 1) X.A) (hg : Gl X g) (hm : X.mg g = some (.ref f))
    (hyz : (y == z) = false) (hz : c.length + (c.length + 1) * z.length ≤ 16777216) (he : Txt.replace c y z = r) (hdb : (g == ("__debug__" : Str)) = false := by decide)
    (hst : starEach [.Constant (.str y) j2 c0, .Constant (.str z) j3 c1] X.env = [(false, eval (.Constant (.str y) j2 c0) X.env), (false, eval (.Constant (.str z) j3 c1) X.env)] := by rfl)
    (hbase : attributeBase (.Call (.Name g p3) [] [] p4) "replace" X.env (eval (.Call (.Name g p3) [] [] p4) X.env) = eval (.Call (.Name g p3) [] [] p4) X.env := by rfl) (hline : (apos.endLine == pos.line) = true := by rfl) :
    PE X (.Call (.Attribute (.Call (.Name g p3) [] [] p4) "replace" apos) [.Constant (.str y) j2 c0, .Constant (.str z) j3 c1] [] pos) (tC (.str r)) := by
  refine ⟨fun pins s σ H Q I h => ?_⟩
  refine PySem.Call_method2 hbase hst hline ?_
  refine wpAny_Call_Name_kw (ld_glob I hg hm ?_ hdb)
  refine PySem.W.callWith_K0 I.kIn F.kp ?_
  refine wpAny_call (codeAny_mono (fn_const F S hr I.env0 hb) fun rr s1 h2 => ?_)
  obtain ⟨h2, h3⟩ := h2
  cases rr with
  | error e => exact h2.elim
  | ok fl => cases fl with
    | next => exact False.elim h2
    | brk => exact False.elim h2
    | cont => exact False.elim h2
    | ret u =>
      obtain ⟨v, H1, I1, rv, ev, eh⟩ := I.after h2
      subst ev eh
      obtain ⟨tx, rfl⟩ := rv
      refine ⟨"str", _, PySem.F.plainAttrs_str, PySem.F.slot_str_replace, PySem.F.type_str_replace, typeIs_str _ _ _, (fun _ e => nomatch e), Calls.callWith_builtin rfl (Calls.evalArgs_plain (Calls.spliced_cons ?_))⟩
      refine Calls.Constant_str (Calls.spliced_cons (Calls.Constant_str (Calls.spliced_nil ?_)))
      exact PySem.SC.replace (by show s1.toks ≠ 0; omega) (by show s1.toks + 1 ≠ 0; omega) (by show s1.toks ≠ s1.toks + 1; omega) hyz hz fun t' k => ⟨.str r, _, I1.tok k, ⟨t', by rw [he]⟩, h⟩
end
end Lx
namespace Lx
open PySem PySem.Spec L2 PyProof.Rows
def revS (x : Str) : Str := ⟨x.cps.toList.reverse.toArray⟩
def tRevS (te : TE) : TE := fun σ H Q => te σ H fun v H1 => ∃ x, v = .str x ∧ x.length ≤ sizeLine ∧ Q (.str (revS x)) H1
theorem rev_idx (n : Nat) : Builtin.Str.strSliceIndices none none (-1) n = (List.range n).reverse := by
  show sliceRange ((n : Int) - 1) (-1) (-1) = _
  rw [PySem.W.krv_sliceRange, PySem.W.krv_range]
theorem rev_pick (x : Str) : (Builtin.Str.strSliceIndices none none (-1) x.length).filterMap (x.cps[·]?) = x.cps.toList.reverse := by
  rw [rev_idx, List.filterMap_reverse]
  exact congrArg List.reverse (PySem.W.krv_all x.cps)
section
variable {X : Cx}
theorem pe_revS {e : Expr} {te : TE} {k : Nat} {p1 p2 p3 pos : Pos} (he : PE X e te) : PE X (.Subscript e (.Slice none none (some (.UnaryOp .USub (.Constant (.int 1) k p1) p2)) p3) pos) (tRevS te) := by
  refine ⟨fun pins s σ H Q I h => ?_⟩
  refine Subscript_ (thn (he.run pins s σ H _ I h) fun v s1 ⟨x, H1, I1, r1, q1⟩ => ?_)
  obtain ⟨y, ex, hz, q⟩ := q1
  subst ex
  obtain ⟨ty, rfl⟩ := r1
  have hst : PO X (some (.UnaryOp .USub (.Constant (.int 1) k p1) p2)) (tPart (tUn (rU fun i => .int (-i)) (tC (.int 1)))) := po_some (pe_un un_neg pe_int)
  refine wpAny_Slice (thn (po_none.run pins s1 σ H1 (fun o H2 => o = none ∧ H2 = H1) I1 ⟨rfl, rfl⟩) fun vl s2 ⟨l, H2, I2, pl, el, e2⟩ => ?_)
  subst el e2
  refine thn (po_none.run pins s2 σ H2 (fun o H3 => o = none ∧ H3 = H2) I2 ⟨rfl, rfl⟩) fun vu s3 ⟨u, H3, I3, pu, eu, e3⟩ => ?_
  subst eu e3
  refine thn (hst.run pins s3 σ H3 (fun o H4 => o = some (-1) ∧ H4 = H3) I3 ⟨1, rfl, -1, rfl, rfl, rfl⟩) fun vs s4 ⟨o, H4, I4, ps, eo, e4⟩ => ?_
  subst eo e4
  have I5 : Inv X pins σ H4 { s4 with heap := s4.heap.push { cls := .type "slice", data := .fields #[vl, vu, vs] } } := I4.kept (t' := s4.toks) fun b ob q => Heap.get?_push_of_some _ q
  obtain ⟨l, rfl, hl⟩ := IsPart.raw pl
  obtain ⟨u, rfl, hu⟩ := IsPart.raw pu
  obtain ⟨st, rfl, hst2⟩ := IsPart.raw ps
  cases l with
  | some z => cases hl
  | none => cases u with
    | some z => cases hu
    | none => cases st with
      | none => cases hst2
      | some z =>
        obtain ⟨zi, zt⟩ := z
        have ez : zi = (-1 : Int) := Option.some.inj hst2
        subst ez
        show wpAny (model X.prog X.w) X.A (subscriptTail e (.Slice none none (some (.UnaryOp .USub (.Constant (.int 1) k p1) p2)) p3) (.str y ty) (.ref s4.heap.objs.size)) (EP X pins σ Q) X.xe _
        refine tail_any (ops := [.str y ty, .ref s4.heap.objs.size]) (typeIs_str _ _ _) (PySem.F.slot_str_getitem.lookup) ?_ (by with_unfolding_all rfl)
        obtain ⟨os, hos, hcs, hds⟩ := Heap.IsSliceOf.new s4.heap (partValue none) (partValue none) (partValue (some (-1, zt)))
        refine wpAny_getItem_str_slice (l := none) (u := none) (st := some (-1, zt)) ⟨os, hos, hcs, hds⟩ rfl ?_
        show Made.post (if ((-1 : Int) == 1 && (Builtin.Str.strSliceIndices none none (-1) y.length).length == y.length) = true then Made.val (.str y ty) else Made.str ⟨((Builtin.Str.strSliceIndices none none (-1) y.length).filterMap (y.cps[·]?)).toArray⟩) (EP X pins σ Q) _
        have hc : (((-1 : Int) == 1) && (Builtin.Str.strSliceIndices none none (-1) y.length).length == y.length) = false := by rw [show ((-1 : Int) == 1) = false from rfl, Bool.false_and]
        rw [if_neg (by rw [hc]; decide), rev_pick]
        exact ⟨by show (⟨y.cps.toList.reverse.toArray⟩ : Str).length ≤ sizeLine; have : (⟨y.cps.toList.reverse.toArray⟩ : Str).length = y.length := (by simp [Str.length]); rw [this]; exact hz, .str (revS y), H4, I5.tok _, ⟨_, rfl⟩, q⟩
end
end Lx
namespace Lx
open PySem PySem.Spec L2 PyProof.Rows PySem.Froz
section
variable {P : Program} {w : World} {A : Around} {E : Value → Shared → Prop} {s : Shared}
theorem add_same {a : Addr} {T : String} {D : SD} {l : List Str} {k : Str} {u : Tok} {Q : Bool → Shared → Prop} (ho : s.heap.get? a = some (sObj T D)) (F : TxOk P w D l) (hk : k ∈ l) (hb : l.length + 1 < scanBound)
    (h : Q false s) : wpAny (model P w) A (setAddHashed a (.str k u) (hashStr w k)) Q E s := by
  obtain ⟨es, ep, t⟩ := D
  have hsz : es.size = l.length := F.sz
  unfold setAddHashed setAddHashedIn
  refine wpAny_holding (wpAny_bind (wpAny_setState_of ho rfl F.fit ?_))
  dsimp only
  rw [byScan_of (knd := PySem.strKind P w) rfl (by show es.size < scanBound; omega) F.el]
  simp only [↓reduceIte]
  unfold setAddByScan
  refine wpAny_bind (wpAny_bind (wpAny_rule (wpAny_bind (wpAny_setScan_of (knd := PySem.strKind P w) (k := k) (strKind_is _ _ _ _) ho rfl F.fit F.el ?_))))
  obtain ⟨e, he, hp⟩ := (F.mem k).mp hk
  cases hr : List.findIdx? (fun e => (PySem.strKind P w).is k e.2) es.toList with
  | none =>
    have := List.findIdx?_eq_none_iff.mp hr e he
    rw [hp] at this; cases this
  | some j =>
    dsimp only
    exact wpAny_pure (wpAny_pure h)
end
def Lai (w : World) (D : SD) : Prop := Ris D.2.2.place.toList ∧ (w.params.followText "set-order" = true ∨ D.2.2.led = true)
theorem lai_add {w : World} {D : SD} {h : Int} {v : Value} (L : Lai w D) : Lai w (addTx h v D) := by
  obtain ⟨es, ep, t⟩ := D
  obtain ⟨hr, hl⟩ := L
  have r1 := layNew_ris t es h v hr
  have l1 := layNew_led t es h v
  have key : ∀ (t2 : SetTable) (es1 : Array (Int × Value)) (wd : Bool), Ris t2.place.toList → (w.params.followText "set-order" = true ∨ t2.led = true) → Lai w (tailTx ep es1 t2 wd) := fun t2 es1 wd a b => by
    unfold tailTx
    split
    · exact ⟨relayAll_ris _ _ _, b.imp id fun z => by show (relayAll t2 es1 (SetTable.grown es1.size)).2.1.led = true; rw [relayAll_led]; exact z⟩
    · exact ⟨a, b⟩
  unfold addTx
  refine key _ _ _ ?_ ?_
  · dsimp only
    split
    · exact r1
    · exact r1
  · refine hl.imp id fun z => ?_
    dsimp only
    split
    · show (layNew t es h v).2.1.led = true
      rw [l1]; exact z
    · rw [l1]; exact z
section
variable {prog : Program} {w : World} {A : Around} {R : Result → Shared → Prop} {I : Addr} {fp wr : List Addr} {n : Nat} {St : Nat → Heap → Prop}
theorem set_loop2 {x : Str} (W : Walks prog w A.in1 I fp wr n (SignAt x) St) (hn : n = x.cps.size) (hfp : n < 4000) (S : Addr) (hSf : S ∉ fp) (hSw : S ∉ wr) : ∀ (cs : List Nat) (i : Nat) (acc : List Nat) (D : SD) (s : Shared), x.cps.toList.drop i = cs → i + cs.length = n → St i s.heap → acc.length ≤ i →
      s.heap.get? S = some (sObj "set" D) → TxOk prog w D (acc.map sgn) → Lai w D →
      (∀ h' tk D', (∀ b o, b ∉ S :: wr → s.heap.get? b = some o → h'.get? b = some o) → h'.get? S = some (sObj "set" D') → TxOk prog w D' ((uniq acc cs).map sgn) → Lai w D' → R (.ok (.ret .none)) { s with heap := h', toks := tk }) →
      codeAny (model prog w) A (.builtin "set.update.loop" ⟨[.ref S, .ref I], []⟩) R s
  | [], i, acc, D, s, hd, hi, hst, ha, hS, hF, hL, hR => by
    have hin : i = n := by simpa using hi
    subst hin
    refine codeAny_builtin PyProof.Rows.F.entry_set_update_loop ?_
    rw [Around.under_plainId PyProof.Rows.F.plain_set_update_loop _]
    show wpAny _ A.in1 (pyNext (.ref I) >>= _) _ _ s
    refine wpAny_bind (W.done s _ _ hst fun h' tk' hm => ?_)
    show wpAny _ A.in1 (ret Value.none) _ _ _
    exact wpAny_pure (hR _ _ D (fun b o hb e => hm b o (fun z => hb (List.mem_cons_of_mem _ z)) e) (hm S _ hSw hS) hF hL)
  | c :: r, i, acc, D, s, hd, hi, hst, ha, hS, hF, hL, hR => by
    have hlt : i < n := by simp at hi; omega
    obtain ⟨hx, hd2⟩ : x.cps[i]? = some c ∧ x.cps.toList.drop (i + 1) = r := by
      have h1 : x.cps.toList[i]? = some c := by
        have := congrArg (·[0]?) hd
        simpa using this
      refine ⟨by simpa using h1, ?_⟩
      have := congrArg (·.drop 1) hd
      simpa [List.drop_drop, Nat.add_comm] using this
    refine codeAny_builtin PyProof.Rows.F.entry_set_update_loop ?_
    rw [Around.under_plainId PyProof.Rows.F.plain_set_update_loop _]
    show wpAny _ A.in1 (pyNext (.ref I) >>= _) _ _ s
    refine wpAny_bind (W.item i s _ _ hlt hst fun v h1 tk hP hst' hm => ?_)
    obtain ⟨c', t, hc', rfl⟩ := hP
    rw [hx] at hc'
    cases hc'
    have hS' : h1.get? S = some (sObj "set" D) := hm S _ hSw hS
    show wpAny _ A.in1 (holding [Value.str (sgn c) t] (setAdd S (.str (sgn c) t)) >>= _) _ _ _
    refine wpAny_bind (wpAny_holding ?_)
    unfold setAdd
    refine wpAny_holding ?_
    refine wpAny_bind ((PySem.strKind prog w).pyHash (k := sgn c) (strKind_is _ _ _ _) ?_)
    have hb : (acc.map sgn).length + 1 < scanBound := by rw [List.length_map]; unfold scanBound; omega
    by_cases hc : c ∈ acc
    · have hu : uniq acc (c :: r) = uniq acc r := by simp [uniq, hc]
      refine add_same hS' hF (List.mem_map.mpr ⟨c, hc, rfl⟩) hb ?_
      refine wpAny_pure ⟨plainId_quiet PyProof.Rows.F.plain_set_update_loop _, set_loop2 W hn hfp S hSf hSw r (i + 1) acc D _ hd2 (by simp at hi; omega) hst' (by omega) hS' hF hL fun h'' tk'' D'' hm'' hS'' hF'' hL'' => ?_⟩
      rw [← hu] at hF''
      exact hR h'' tk'' D'' (fun b o hb e => hm'' b o hb (hm b o (fun z => hb (List.mem_cons_of_mem _ z)) e)) hS'' hF'' hL''
    · have hu : uniq acc (c :: r) = uniq (c :: acc) r := by simp [uniq, hc]
      refine add_x hS' hF (fun z => hc ?_) hb ?_
      · obtain ⟨d, hd, e⟩ := List.mem_map.mp z
        rw [← sgn_inj e]; exact hd
      have hget : (h1.update S fun _ => sObj "set" (addTx (hashStr w (sgn c)) (.str (sgn c) t) D)).get? S = some (sObj "set" (addTx (hashStr w (sgn c)) (.str (sgn c) t) D)) := Heap.get?_update_self _ hS' rfl
      refine wpAny_pure ⟨plainId_quiet PyProof.Rows.F.plain_set_update_loop _, set_loop2 W hn hfp S hSf hSw r (i + 1) (c :: acc) _ _ hd2 (by simp at hi; omega) (W.frame _ _ _ hst' fun b hb o e => ?_) (by rw [List.length_cons]; omega) hget (add_ok t hF) (lai_add hL) fun h'' tk'' D'' hm'' hS'' hF'' hL'' => ?_⟩
      · exact (Heap.get?_update_other _ _ (fun h : S = b => hSf (by rw [h]; exact hb))).trans e
      · rw [← hu] at hF''
        refine hR h'' tk'' D'' (fun b o hb e => hm'' b o hb ?_) hS'' hF'' hL''
        exact (Heap.get?_update_other _ _ (fun h : S = b => hb (by rw [h]; exact List.mem_cons_self))).trans (hm b o (fun z => hb (List.mem_cons_of_mem _ z)) e)
end
end Lx
namespace Lx
open PySem PySem.Spec L2 PyProof.Rows PySem.Froz
section
variable {prog : Program} {w : World} {A : Around} {E : Value → Shared → Prop} {s : Shared}
theorem call_set_text2 {x : Str} {u : Tok} {Q : Value → Shared → Prop} (hh : A.handled = none) (hn : x.cps.size < 4000)
    (h : ∀ (h' : Heap) (tk : Nat) (D : SD), h'.get? s.heap.objs.size = some (sObj "set" D) → TxOk prog w D ((uniq [] x.cps.toList).map sgn) → Lai w D →
      (∀ b o, b < s.heap.objs.size → s.heap.get? b = some o → h'.get? b = some o) → Q (.ref s.heap.objs.size) { s with heap := h', toks := tk }) :
    wpAny (model prog w) A (call (.type "set") [.str x u]) Q E s := by
  obtain ⟨c, tl, hmro⟩ := PySem.F.called_set.mro
  have hmade := PySem.F.called_set.made
  have hsub := PySem.F.called_set.sub
  refine wpAny_call (codeAny_of_tree ?_)
  show wpAny _ _ (callAny (.type "set") _) _ _ _
  refine wpAny_pure ⟨Code.quiet_builtin _ (by decide +kernel), codeAny_builtin PySem.F.entry_type_call ?_⟩
  rw [Around.under_plain (weight_type_call_type "set" [.str x u] []) rfl]
  have h1 := PySem.F.called_set.notType
  have h2 := PySem.F.called_set.canCreate
  have hct := PySem.F.typeCall_set_1 (.str x u)
  repeat (any_goals (first | assumption | wp_step))
  refine codeAny_mono (code_set_led1 (.str x u) (E := E) (Q₁ := fun obj s₁ => obj = .ref s.heap.objs.size ∧ s₁ = { s with heap := s.heap.push { cls := .type "set", dict := none, data := .set #[] 0 (.fresh 0 0 (!w.params.followText "set-order")) } }) ⟨rfl, rfl⟩) fun r s₁ hr => ?_
  cases r with
  | error e => exact hr
  | ok fl =>
    cases fl with
    | ret obj =>
      obtain ⟨rfl, rfl⟩ := hr
      generalize hled : (!w.params.followText "set-order") = led
      have hS : (s.heap.push { cls := .type "set", dict := none, data := .set #[] 0 (.fresh 0 0 led) }).get? s.heap.objs.size = some { cls := .type "set", dict := none, data := .set #[] 0 (.fresh 0 0 led) } := Heap.get?_push_size _ rfl
      have hT : Shared.TypeIs { s with heap := s.heap.push { cls := .type "set", dict := none, data := .set #[] 0 (.fresh 0 0 led) } } (.ref s.heap.objs.size) "set" := ⟨_, hS, rfl⟩
      have hli := PySem.F.called_set.init.lookup
      have hbi := PySem.F.called_set.init.bind (.ref s.heap.objs.size)
      repeat (any_goals (first | assumption | wp_step))
      refine codeAny_mono (codeAny_call_builtin (R := wants (fun r s₂ => r = .none ∧ ∃ h' tk D, s₂ = { s with heap := h', toks := tk } ∧
          h'.get? s.heap.objs.size = some (sObj "set" D) ∧ TxOk prog w D ((uniq [] x.cps.toList).map sgn) ∧ Lai w D ∧
          (∀ b o, b < s.heap.objs.size → s.heap.get? b = some o → h'.get? b = some o)) E) PySem.F.called_set.init.plain PySem.F.entry_set_init (check_set_init_1 hT ?_)) fun r₂ s₂ hr₂ => ?_
      · have hsls := PySem.F.sub_str_set
        have hslf := PySem.F.sub_str_frozenset
        have hne : (Value.type "str" == Value.type "dict") = false := by decide
        unfold Builtin.«set.__init__» noKeywords Builtin.Frozenset.updateFrom
        generalize hPI : pyIter = PI
        wp_walk
        subst hPI
        refine wpAny_pyIter_str fun o St hW hst => ?_
        refine wpAny_bind (wpAny_runValue ?_)
        have hh3 : A.in1.in1.in1.handled = none := by simp [hh]
        have hSf : s.heap.objs.size ∉ [(s.heap.push { cls := .type "set", dict := none, data := .set #[] 0 (.fresh 0 0 led) }).objs.size] := by
          rw [Heap.size_push]; simp
        refine set_loop2 (hW _ hh3) rfl hn s.heap.objs.size hSf hSf x.cps.toList 0 [] (#[], 0, .fresh 0 0 led) _ rfl (by simp) hst (Nat.zero_le _) (Heap.get?_push_of_some _ hS) (TxOk.nil rfl) ⟨List.Pairwise.nil, ?_⟩ fun h' tk' D' hm hS' hF' hL' => ?_
        · show _ ∨ led = true
          rw [← hled]
          cases w.params.followText "set-order"
          · exact .inr rfl
          · exact .inl rfl
        · show wpAny _ _ _ _ _ _
          refine wpAny_pure ?_
          show wpAny _ _ (ret Value.none) _ _ _
          refine wpAny_pure ⟨rfl, h', tk', D', rfl, hS', hF', hL', fun b o hb e => ?_⟩
          have hb1 : b ≠ s.heap.objs.size := Nat.ne_of_lt hb
          have hb2 : b ≠ (s.heap.push { cls := .type "set", dict := none, data := .set #[] 0 (.fresh 0 0 led) }).objs.size := by
            rw [Heap.size_push]; exact Nat.ne_of_lt (Nat.lt_succ_of_lt hb)
          exact hm b o (by simp only [List.mem_cons, List.mem_singleton, List.not_mem_nil, or_false, not_or]; exact ⟨hb1, hb2⟩) (Heap.get?_push_of_some _ (Heap.get?_push_of_some _ e))
      · cases r₂ with
        | error e => exact hr₂
        | ok fl₂ =>
          cases fl₂ with
          | ret r =>
            obtain ⟨rfl, h', tk, D, rfl, hS', hF', hL', hk'⟩ := hr₂
            repeat (any_goals (first | assumption | wp_step))
            exact h _ _ D hS' hF' hL' hk'
          | _ => exact hr₂.elim
    | _ => exact hr.elim
end
section
variable {P : Program} {w : World} {A : Around} {E : Value → Shared → Prop} {s : Shared}
theorem strs_of : ∀ (l : List Value), (∀ v ∈ l, ∃ k tk, v = Value.str k tk) → ∃ ss, StrsAre l ss
  | [], _ => ⟨[], .nil⟩
  | v :: l, h => by
    obtain ⟨k, tk, rfl⟩ := h v List.mem_cons_self
    obtain ⟨ss, hs⟩ := strs_of l fun u hu => h u (List.mem_cons_of_mem _ hu)
    exact ⟨k :: ss, .cons k tk hs⟩
theorem strs_vals : ∀ {l : List Value} {ss : List Str}, StrsAre l ss → Vals (ss.map V.str) l
  | _, _, .nil => .nil
  | _, _, .cons k t r => .cons ⟨t, rfl⟩ (strs_vals r)
theorem strs_mem : ∀ {l : List Value} {ss : List Str}, StrsAre l ss → ∀ k, k ∈ ss ↔ ∃ t, Value.str k t ∈ l
  | _, _, .nil, k => by simp
  | _, _, .cons x t r, k => by
    rw [List.mem_cons, strs_mem r k]
    constructor
    · rintro (rfl | ⟨u, h⟩)
      · exact ⟨t, List.mem_cons_self⟩
      · exact ⟨u, List.mem_cons_of_mem _ h⟩
    · rintro ⟨u, h⟩
      rcases List.mem_cons.mp h with h | h
      · cases h; exact .inl rfl
      · exact .inr ⟨u, h⟩
theorem strs_len : ∀ {l : List Value} {ss : List Str}, StrsAre l ss → ss.length = l.length
  | _, _, .nil => rfl
  | _, _, .cons x t r => congrArg (· + 1) (strs_len r)
theorem sorted_setS {a : Addr} {D : SD} {l : List Str} {Q : Value → Shared → Prop} (ho : s.heap.get? a = some (sObj "set" D)) (F : TxOk P w D l) (L : Lai w D) (hh : A.handled = none) (h64 : l.length < 64)
    (hQ : ∀ s' p (out : List Value) (c : Nat) (ss : List Str), (∀ b o, s.heap.get? b = some o → s'.heap.get? b = some o) → s'.gens = s.gens → s'.os = s.os → s.heap.objs.size ≤ p →
      s'.heap.get? p = some (seqObj "list" out.toArray c) → StrsAre out ss → ss.length = l.length → (∀ k, k ∈ ss ↔ k ∈ l) → Q (.ref p) s') :
    wpAny (model P w) A (call (.builtin "sorted") [.ref a]) Q E s := by
  obtain ⟨es, ep, t⟩ := D
  have hsz : es.size = l.length := F.sz
  refine Calls.call_function_entry kind_sorted plain_sorted entry_sorted (args_sorted1 _) ?_
  unfold Builtin.«sorted»
  refine wpAny_bind (m := checkCount "sorted" 1 1 _) (wpAny_pure ?_)
  refine wpAny_bind (collect_set (A := A.in1) hh ⟨_, ho, rfl, rfl⟩ F.fit (by show es.size < 4096; omega) L.1 L.2 fun s1 vs k1 hz g1 o1 pm => ?_)
  have hvl : vs.length = l.length := by rw [pm.length_eq, List.length_map, Array.length_toList]; exact hsz
  have hstr : ∀ e ∈ es.toList, ∃ k tk, e.2 = Value.str k tk := fun e he => by
    obtain ⟨⟨k, h, _⟩, _⟩ := F.el e he
    obtain ⟨t, q⟩ := Value.isStrOf_shape h
    exact ⟨k, t, q⟩
  obtain ⟨ss, hS⟩ := strs_of vs fun v hv => by
    obtain ⟨e, he, q⟩ := List.mem_map.mp (pm.mem_iff.mp hv)
    obtain ⟨k, tk, h1⟩ := hstr e he
    exact ⟨k, tk, by rw [← q]; exact h1⟩
  refine wpAny_bind (wpAny_newList ?_ (by rw [hvl, sizeLine_eq]; omega))
  have hoL : (s1.heap.push (seqObj "list" vs.toArray 0)).get? s1.heap.objs.size = some (seqObj "list" vs.toArray 0) := Heap.get?_push_size _ rfl
  refine wpAny_bind (wpAny_holding (wpAny_call_entry slot_list_sort ⟨_, hoL, rfl⟩ entry_list_sort (list_sort_treeK strKind_oneLt hoL hS.keysOf (fun v₁ v₂ rest e => keyKind_strs (by rw [← e]; exact hS)) (by rw [hvl]; exact h64) fun st' hp hs => ⟨_, rfl, ?_⟩) (args_list_sort _)))
  obtain ⟨ss', a1, a2, _⟩ := sorted_out_str hS hp hs
  obtain ⟨c, hc⟩ := sortedHeap_at (vs := vs) (out := (arrOf st').map (·.2)) hoL
  refine wpAny_pure ⟨_, rfl, hQ _ s1.heap.objs.size ((arrOf st').map (·.2)).toList c ss' (fun b u e => ?_) g1 o1 hz (by rw [Array.toArray_toList]; exact hc) a1 ?_ ?_⟩
  · have q := k1 b u e
    have hlt := Heap.lt_size q
    show (sortedHeap (s1.heap.push (seqObj "list" vs.toArray 0)) s1.heap.objs.size vs _).get? b = some u
    rw [sortedHeap_old (Nat.ne_of_lt hlt) (by rw [Heap.size_push]; exact Nat.lt_succ_of_lt hlt)]
    exact Heap.get?_push_of_some _ q
  · rw [a2.length_eq, strs_len hS, hvl]
  · intro k
    rw [a2.mem_iff, strs_mem hS, F.mem k]
    constructor
    · rintro ⟨t, h⟩
      obtain ⟨e, he, q⟩ := List.mem_map.mp (pm.mem_iff.mp h)
      exact ⟨e, he, by rw [q]; exact strKind_is _ _ _ _⟩
    · rintro ⟨e, he, h⟩
      obtain ⟨k2, tk, e2⟩ := hstr e he
      rw [e2] at h
      have : k = k2 := (PySem.strKind P w).inj _ k k2 h (strKind_is _ _ _ _)
      exact ⟨tk, pm.mem_iff.mpr (List.mem_map.mpr ⟨e, he, by rw [e2, this]⟩)⟩
end
def tSortSet (ta : TE) : TE := fun σ H Q => ta σ H fun x H1 => ∃ y, x = .str y ∧ y.cps.size < 60 ∧ ∀ p (cs : List Nat), H1 p = none → cs.length = (uniq [] y.cps.toList).length → (∀ c, c ∈ cs ↔ c ∈ uniq [] y.cps.toList) → Q (.ref p) (upd H1 p (.lst (cs.map fun c => .str (sgn c))))
theorem uniq_le : ∀ (l acc : List Nat), (uniq acc l).length ≤ acc.length + l.length
  | [], acc => Nat.le_refl _
  | c :: r, acc => by
    unfold uniq
    split
    · have := uniq_le r acc; rw [List.length_cons]; omega
    · have := uniq_le r (c :: acc); rw [List.length_cons] at this ⊢; omega
theorem signs_of : ∀ (ss : List Str) (l : List Nat), (∀ k ∈ ss, ∃ c ∈ l, k = sgn c) → ∃ cs : List Nat, ss = cs.map sgn
  | [], _, _ => ⟨[], rfl⟩
  | k :: r, l, h => by
    obtain ⟨c, _, rfl⟩ := h k List.mem_cons_self
    obtain ⟨cs, rfl⟩ := signs_of r l fun z hz => h z (List.mem_cons_of_mem _ hz)
    exact ⟨c :: cs, rfl⟩
section
variable {X : Cx}
theorem pe_sortSet {a : Expr} {ta : TE} {p p2 q pos : Pos} (hc : X.calm = true) (hg : Gl X "sorted") (hm : X.mg "sorted" = none) (hg2 : Gl X "set") (hm2 : X.mg "set" = none) (ha : PE X a ta)
    (na : starEach [a] X.env = (false, eval a X.env) :: starEach [] X.env := by rfl) : PE X (.Call (.Name "sorted" p) [.Call (.Name "set" p2) [a] [] q] [] pos) (tSortSet ta) := by
  refine ⟨fun pins s σ H Q I h => ?_⟩
  refine Call_ (ld_blt I hg hm boot_sorted ?_)
  refine PyProof.Rows.callWith_builtin1 (PyProof.Rows.args_cons ?_ rfl) rfl rfl
  refine Call_ (ld_blt I hg2 hm2 boot_set ?_)
  refine PyProof.Rows.callWith_type1 (PyProof.Rows.args_cons (thn (ha.run pins s σ H _ I h) fun v s1 ⟨x, H1, I1, r1, q1⟩ => PyProof.Rows.args_nil ?_) na) na rfl
  obtain ⟨y, rfl, hy, q1⟩ := q1
  obtain ⟨u, rfl⟩ := r1
  refine call_set_text2 (I1.ok.hd hc) (by omega) fun h' tk D hS hF hL hk => ?_
  refine PyProof.Rows.args_nil ?_
  have I2 : Inv X pins σ H1 { s1 with heap := h', toks := tk } := I1.kept fun b o e => hk b o (Heap.lt_size e) e
  have hul := uniq_le y.cps.toList []
  have h60 : (uniq [] y.cps.toList).length < 64 := by simp at hul; omega
  refine sorted_setS hS hF hL (I2.ok.hd hc) (by rw [List.length_map]; exact h60) fun s' pp out c ss k1 g1 o1 hz ho hA hl hm => ?_
  obtain ⟨cs, rfl⟩ := signs_of ss (uniq [] y.cps.toList) fun k hk => by
    obtain ⟨c, hc, e⟩ := List.mem_map.mp ((hm k).mp hk)
    exact ⟨c, hc, e.symm⟩
  rw [List.length_map, List.length_map] at hl
  have hmem : ∀ c, c ∈ cs ↔ c ∈ uniq [] y.cps.toList := fun c => by
    have := hm (sgn c)
    constructor
    · intro h
      obtain ⟨d, hd, e⟩ := List.mem_map.mp (this.mp (List.mem_map.mpr ⟨c, h, rfl⟩))
      rw [← sgn_inj e]; exact hd
    · intro h
      obtain ⟨d, hd, e⟩ := List.mem_map.mp (this.mpr (List.mem_map.mpr ⟨c, h, rfl⟩))
      rw [← sgn_inj e]; exact hd
  have hv := strs_vals hA
  rw [List.map_map] at hv
  have hzz : (cs.map fun c => V.str (sgn c)).length ≤ sizeLine := by rw [List.length_map, sizeLine_eq, hl]; omega
  have hn : H1 pp = none := I2.hok.fresh hz
  have J : Inv X pins σ (upd H1 pp (.lst (cs.map fun c => V.str (sgn c)))) { ({ s1 with heap := h', toks := tk } : Shared) with heap := s'.heap, gens := s'.gens, drawn := s'.drawn, toks := s'.toks } :=
    I2.call (ch := []) (Un.laid k1 hz hn) (I2.hok.laid k1 hz ⟨hzz, out, c, hv, ho⟩) (by rw [g1]; exact I2.bare) (fun _ z => nomatch z)
  have e : s' = { ({ s1 with heap := h', toks := tk } : Shared) with heap := s'.heap, gens := s'.gens, drawn := s'.drawn, toks := s'.toks } := by
    cases s'
    have o1 : _ = s1.os := o1
    subst o1
    rfl
  rw [e]
  exact ⟨.ref pp, _, J, rfl, q1 pp cs hn hl hmem⟩
end
end Lx
set_option maxHeartbeats 2000000
namespace Ly
open PySem L2
open Lx (Le)
inductive D where
  | non | bl (b : Bool) | int (i : Int) | str (x : Str)
  | lst (xs : List D) | tup (xs : List D) | dct (kvs : List (Key × D)) | obj (c : Str) (fs : List (Str × D)) | pen | sct (ns : List Int) | mu (i : Nat) | err (c : Str) (fs : List (Str × D)) | slo (c : Str) (fs : List (Str × D)) | gt (ds : List D) (y z : Str)
inductive MO where
  | lst (xs : List D) | dct (kvs : List (Key × D)) | ins (c : Str) (fs : List (Str × D)) | gone
structure S where
  n : Nat
  st : List MO
structure Xn where
  cls : Str
  fs : List (Str × D)
structure W (A : Type) where
  wp : S → (S → A → Prop) → (S → Xn → Prop) → Prop
  mono : ∀ {s : S} {Q R : S → A → Prop} {E G : S → Xn → Prop}, (∀ t a, Q t a → R t a) → (∀ t x, E t x → G t x) → wp s Q E → wp s R G
namespace W
variable {A B : Type}
@[reducible] def ret (a : A) : W A := ⟨fun s Q _ => Q s a, fun h _ p => h _ _ p⟩
@[reducible] def bind (m : W A) (f : A → W B) : W B := ⟨fun s Q E => m.wp s (fun t a => (f a).wp t Q E) E, fun h g p => m.mono (fun _ a q => (f a).mono h g q) g p⟩
@[reducible] def stuck : W A := ⟨fun _ _ _ => False, fun _ _ p => p⟩
@[reducible] def need (c : Prop) (m : W A) : W A := ⟨fun s Q E => c ∧ m.wp s Q E, fun h g p => ⟨p.1, m.mono h g p.2⟩⟩
@[reducible] def any (c : Nat) (P : A → Prop) : W A := ⟨fun s Q _ => ∃ k, s.n = k + c ∧ ∀ a, P a → Q ⟨k, s.st⟩ a, fun h _ ⟨k, e, p⟩ => ⟨k, e, fun a q => h _ _ (p a q)⟩⟩
@[reducible] def new (o : MO) : W Nat := ⟨fun s Q _ => Q ⟨s.n, s.st ++ [o]⟩ s.st.length, fun h _ p => h _ _ p⟩
@[reducible] def get (i : Nat) : W MO := ⟨fun s Q _ => ∃ o, s.st[i]? = some o ∧ Q s o, fun h _ ⟨o, e, p⟩ => ⟨o, e, h _ _ p⟩⟩
@[reducible] def put (i : Nat) (o : MO) : W Unit := ⟨fun s Q _ => Q ⟨s.n, s.st.set i o⟩ (), fun h _ p => h _ _ p⟩
end W
structure Cg where
  pn : Addr
structure Wd where
  al : List Addr
  F : Hp
  H : Hp
def GtAt (H : Hp) (a : Addr) (vs : List V) (y z : Str) (t u : Tok) : Prop := ∃ (us : List Value) (n : Nat) (o : Obj), H a = some (.frz o (.tup (vs ++ [V.str y, V.str z]))) ∧ o.data = .seq (us ++ [Value.str y t, Value.str z u]).toArray n ∧ us.length = vs.length ∧ 1 ≤ t ∧ 1 ≤ u ∧ t ≠ u
mutual
inductive Rep (K : PySem.W.Frag) (c : Cg) (al : List Addr) (F : Hp) : V → D → Prop
  | non : Rep K c al F .non .non
  | bl (b : Bool) : Rep K c al F (.bl b) (.bl b)
  | int (i : Int) : Rep K c al F (.int i) (.int i)
  | str (x : Str) : Rep K c al F (.str x) (.str x)
  | lst {a : Addr} {vs : List V} {ds : List D} : F a = some (.lst vs) → RepL K c al F vs ds → Rep K c al F (.ref a) (.lst ds)
  | tup {a : Addr} {vs : List V} {ds : List D} : F a = some (.tup vs) → RepL K c al F vs ds → Rep K c al F (.ref a) (.tup ds)
  | dct {a : Addr} {vs : List (Key × V)} {ds : List (Key × D)} : F a = some (.dK vs) → RepK K c al F vs ds → Rep K c al F (.ref a) (.dct ds)
  | obj {a dx : Addr} {cl : Str} {fs : List (Str × V)} {gs : List (Str × D)} : F a = some (.ins (He.ga K cl) dx fs) → Cls K (He.ga K cl) → (∀ x ∈ gs.map (·.1), NoAttr K (He.ga K cl) x) → RepF K c al F fs gs → Rep K c al F (.ref a) (.obj cl gs)
  | pen : Rep K c al F (.ref c.pn) .pen
  | sct {a : Addr} {ns : List Int} : SqL K F a (ns.map V.int) → Rep K c al F (.ref a) (.sct ns)
  | mu {i : Nat} {a : Addr} : al[i]? = some a → Rep K c al F (.ref a) (.mu i)
  | err {a dx : Addr} {cl : Str} {fs : List (Str × V)} {gs : List (Str × D)} : F a = some (exo a (He.ga K cl) (some dx)) → F dx = some (exd dx fs) → RepF K c al F fs gs → Rep K c al F (.ref a) (.err cl gs)
  | err0 {a : Addr} {cl : Str} : F a = some (exo a (He.ga K cl) none) → Rep K c al F (.ref a) (.err cl [])
  | slo {a dx : Addr} {cl : Str} {vs : List (Option V)} {gs : List (Str × D)} : F a = some (SlX.SlO a (He.ga K cl) dx vs) → F dx = some (.xd []) → SlX.SCls K (He.ga K cl) → RepS K c al F (He.ga K cl) vs gs → Rep K c al F (.ref a) (.slo cl gs)
  | gt {a : Addr} {vs : List V} {ds : List D} {y z : Str} {t u : Tok} : GtAt F a vs y z t u → RepL K c al F vs ds → Rep K c al F (.ref a) (.gt ds y z)
/-- the slots of an instance of the class at C -/
inductive RepS (K : PySem.W.Frag) (c : Cg) (al : List Addr) (F : Hp) : Addr → List (Option V) → List (Str × D) → Prop
  | nil {C : Addr} {vs : List (Option V)} : RepS K c al F C vs []
  | cons {C : Addr} {vs : List (Option V)} {x : Str} {p : Addr} {i : Nat} {v : V} {d : D} {ds : List (Str × D)} : SlX.Slot1 K C x p i → vs[i]? = some (some v) → Rep K c al F v d → RepS K c al F C vs ds → RepS K c al F C vs ((x, d) :: ds)
inductive RepL (K : PySem.W.Frag) (c : Cg) (al : List Addr) (F : Hp) : List V → List D → Prop
  | nil : RepL K c al F [] []
  | cons {v : V} {vs : List V} {d : D} {ds : List D} : Rep K c al F v d → RepL K c al F vs ds → RepL K c al F (v :: vs) (d :: ds)
inductive RepF (K : PySem.W.Frag) (c : Cg) (al : List Addr) (F : Hp) : List (Str × V) → List (Str × D) → Prop
  | nil : RepF K c al F [] []
  | cons {x : Str} {v : V} {vs : List (Str × V)} {d : D} {ds : List (Str × D)} : Rep K c al F v d → RepF K c al F vs ds → RepF K c al F ((x, v) :: vs) ((x, d) :: ds)
inductive RepK (K : PySem.W.Frag) (c : Cg) (al : List Addr) (F : Hp) : List (Key × V) → List (Key × D) → Prop
  | nil : RepK K c al F [] []
  | cons {x : Key} {v : V} {vs : List (Key × V)} {d : D} {ds : List (Key × D)} : Rep K c al F v d → RepK K c al F vs ds → RepK K c al F ((x, v) :: vs) ((x, d) :: ds)
end
structure Sub (al : List Addr) (F : Hp) (al' : List Addr) (F' : Hp) : Prop where
  pre : al <+: al'
  le : Le F F'
theorem Sub.refl (al : List Addr) (F : Hp) : Sub al F al F := ⟨List.prefix_refl _, Le.refl F⟩
theorem Sub.trans {al al1 al2 : List Addr} {F F1 F2 : Hp} (a : Sub al F al1 F1) (b : Sub al1 F1 al2 F2) : Sub al F al2 F2 := ⟨a.pre.trans b.pre, a.le.trans b.le⟩
theorem Sub.at {al al1 : List Addr} {F F1 : Hp} (e : Sub al F al1 F1) {i : Nat} {a : Addr} (h : al[i]? = some a) : al1[i]? = some a := by
  obtain ⟨t, ht⟩ := e.pre
  have hl := (List.getElem?_eq_some_iff.mp h).1
  rw [← ht, List.getElem?_append_left hl]; exact h
section
variable {K : PySem.W.Frag} {c : Cg} {al al1 : List Addr} {F G : Hp}
mutual
theorem Rep.up (e : Sub al F al1 G) : ∀ {v : V} {d : D}, Rep K c al F v d → Rep K c al1 G v d
  | _, _, .non => .non
  | _, _, .bl b => .bl b
  | _, _, .int i => .int i
  | _, _, .str x => .str x
  | _, _, .lst h r => .lst (e.le _ _ h) (RepL.up e r)
  | _, _, .tup h r => .tup (e.le _ _ h) (RepL.up e r)
  | _, _, .dct h r => .dct (e.le _ _ h) (RepK.up e r)
  | _, _, .obj h q n r => .obj (e.le _ _ h) q n (RepF.up e r)
  | _, _, .pen => .pen
  | _, _, .sct h => .sct (e.le.sqL h)
  | _, _, .mu h => .mu (e.at h)
  | _, _, .err h k r => .err (e.le _ _ h) (e.le _ _ k) (RepF.up e r)
  | _, _, .err0 h => .err0 (e.le _ _ h)
  | _, _, .slo h k q r => .slo (e.le _ _ h) (e.le _ _ k) q (RepS.up e r)
  | _, _, .gt ⟨us, n, o, h, q⟩ r => .gt ⟨us, n, o, e.le _ _ h, q⟩ (RepL.up e r)
theorem RepS.up (e : Sub al F al1 G) : ∀ {C : Addr} {vs : List (Option V)} {ds : List (Str × D)}, RepS K c al F C vs ds → RepS K c al1 G C vs ds
  | _, _, _, .nil => .nil
  | _, _, _, .cons a b h r => .cons a b (Rep.up e h) (RepS.up e r)
theorem RepL.up (e : Sub al F al1 G) : ∀ {vs : List V} {ds : List D}, RepL K c al F vs ds → RepL K c al1 G vs ds
  | _, _, .nil => .nil
  | _, _, .cons h r => .cons (Rep.up e h) (RepL.up e r)
theorem RepF.up (e : Sub al F al1 G) : ∀ {vs : List (Str × V)} {ds : List (Str × D)}, RepF K c al F vs ds → RepF K c al1 G vs ds
  | _, _, .nil => .nil
  | _, _, .cons h r => .cons (Rep.up e h) (RepF.up e r)
theorem RepK.up (e : Sub al F al1 G) : ∀ {vs : List (Key × V)} {ds : List (Key × D)}, RepK K c al F vs ds → RepK K c al1 G vs ds
  | _, _, .nil => .nil
  | _, _, .cons h r => .cons (Rep.up e h) (RepK.up e r)
end
theorem RepL.len : ∀ {vs : List V} {ds : List D}, RepL K c al F vs ds → vs.length = ds.length
  | _, _, .nil => rfl
  | _, _, .cons _ r => congrArg (· + 1) r.len
theorem RepF.len : ∀ {vs : List (Str × V)} {ds : List (Str × D)}, RepF K c al F vs ds → vs.length = ds.length
  | _, _, .nil => rfl
  | _, _, .cons _ r => congrArg (· + 1) r.len
theorem RepL.get : ∀ {vs : List V} {ds : List D} {i : Nat} {d : D}, RepL K c al F vs ds → ds[i]? = some d → ∃ v, vs[i]? = some v ∧ Rep K c al F v d
  | _, _, _, _, .nil, e => by simp at e
  | _, _, 0, _, .cons h _, e => by simp at e; subst e; exact ⟨_, rfl, h⟩
  | _, _, i + 1, d, .cons _ r, e => by
    obtain ⟨v, h1, h2⟩ := RepL.get (i := i) (d := d) r (by simpa using e)
    exact ⟨v, by simpa using h1, h2⟩
theorem RepL.app : ∀ {vs ws : List V} {ds es : List D}, RepL K c al F vs ds → RepL K c al F ws es → RepL K c al F (vs ++ ws) (ds ++ es)
  | _, _, _, _, .nil, s => s
  | _, _, _, _, .cons h r, s => .cons h (r.app s)
theorem RepL.take : ∀ {vs : List V} {ds : List D} (n : Nat), RepL K c al F vs ds → RepL K c al F (vs.take n) (ds.take n)
  | _, _, 0, _ => .nil
  | _, _, _ + 1, .nil => .nil
  | _, _, n + 1, .cons h r => .cons h (RepL.take n r)
theorem RepL.drop : ∀ {vs : List V} {ds : List D} (n : Nat), RepL K c al F vs ds → RepL K c al F (vs.drop n) (ds.drop n)
  | _, _, 0, r => r
  | _, _, _ + 1, .nil => .nil
  | _, _, n + 1, .cons _ r => RepL.drop n r
theorem RepF.look : ∀ {vs : List (Str × V)} {ds : List (Str × D)} {x : Str} {d : D}, RepF K c al F vs ds → ds.lookup x = some d → ∃ v, vs.lookup x = some v ∧ Rep K c al F v d
  | _, _, _, _, .nil, e => by simp at e
  | _, _, x, d, .cons (x := y) h r, e => by
    rw [List.lookup_cons] at e ⊢
    cases q : (x == y) with
    | true => rw [q] at e; cases e; exact ⟨_, rfl, h⟩
    | false => rw [q] at e; exact RepF.look r e
theorem RepF.noLook : ∀ {vs : List (Str × V)} {ds : List (Str × D)} {x : Str}, RepF K c al F vs ds → ds.lookup x = none → vs.lookup x = none
  | _, _, _, .nil, _ => rfl
  | _, _, x, .cons (x := y) h r, e => by
    rw [List.lookup_cons] at e ⊢
    cases q : (x == y) with
    | true => rw [q] at e; cases e
    | false => rw [q] at e; exact RepF.noLook r e
theorem RepL.one {vs : List V} {d : D} (r : RepL K c al F vs [d]) : ∃ v, vs = [v] ∧ Rep K c al F v d := by
  cases r with
  | cons a b => cases b; exact ⟨_, rfl, a⟩
theorem RepL.two {vs : List V} {d e : D} (r : RepL K c al F vs [d, e]) : ∃ v w, vs = [v, w] ∧ Rep K c al F v d ∧ Rep K c al F w e := by
  cases r with
  | cons a b => obtain ⟨w, rfl, rw⟩ := b.one; exact ⟨_, w, rfl, a, rw⟩
theorem isE {vs : List V} {ds : List D} (r : RepL K c al F vs ds) : vs.isEmpty = ds.isEmpty := by cases r <;> rfl
end
def PenOk (K : PySem.W.Frag) (c : Cg) (F H : Hp) (n : Nat) : Prop :=
  ∃ (l : Addr) (cs : List Int) (t lf : Int), H c.pn = some (.dK (Lx.penKvs l t lf)) ∧ SqL K F l (cs.map V.int) ∧ cs.length ≤ 63 ∧ 0 ≤ t ∧ t + n ≤ 2 ^ 60 ∧ 0 ≤ lf
def RepM (K : PySem.W.Frag) (c : Cg) (w : Wd) (a : Addr) : MO → Prop
  | .lst ds => w.F a = none ∧ ∃ vs, w.H a = some (.lst vs) ∧ RepL K c w.al w.F vs ds
  | .dct kvs => w.F a = none ∧ ∃ kws, w.H a = some (.dK kws) ∧ RepK K c w.al w.F kws kvs
  | .ins cl fs => w.F a = none ∧ ∃ dx vs, w.H a = some (.ins (He.ga K cl) dx vs) ∧ Cls K (He.ga K cl) ∧ (∀ x ∈ fs.map (·.1), NoAttr K (He.ga K cl) x) ∧ RepF K c w.al w.F vs fs ∧ fs.length ≤ 900
  | .gone => True
structure Ok (K : PySem.W.Frag) (c : Cg) (w : Wd) (s : S) : Prop where
  fro : Le w.F w.H
  fpn : w.F c.pn = none
  pna : c.pn ∉ w.al
  nd : w.al.Nodup
  len : w.al.length = s.st.length
  occ : ∀ a ∈ w.al, w.H a ≠ none
  pen : PenOk K c w.F w.H s.n
  tab : LamX.Tabs (tabsOf K) w.H
  ftb : ∀ a ps, w.F a ≠ some (.tbl ps)
  atb : ∀ a ∈ w.al, ∀ ps, w.H a ≠ some (.tbl ps)
  aco : ∀ a ∈ w.al, ∀ φ, w.H a ≠ some (.ext φ)
  sto : ∀ (i : Nat) (a : Addr) (o : MO), w.al[i]? = some a → s.st[i]? = some o → RepM K c w a o
def Wd.fre (w : Wd) (a : Addr) : Prop := ∀ u, w.H a = some u → ∃ ps, u = .tbl ps
theorem Wd.fre_none {w : Wd} {a : Addr} (h : w.H a = none) : w.fre a := fun u e => by rw [h] at e; cases e
structure Go (c : Cg) (w w' : Wd) : Prop where
  keep : ∀ a o, a ≠ c.pn → a ∉ w.al → (∀ ps, o ≠ .tbl ps) → w.H a = some o → w'.H a = some o
  sub : Sub w.al w.F w'.al w'.F
  new : ∀ a o, w'.F a = some o → w.F a = none → w.fre a ∨ a ∈ w.al
  newA : ∀ a, a ∈ w'.al → a ∈ w.al ∨ w.fre a
theorem Go.refl (c : Cg) (w : Wd) : Go c w w := ⟨fun _ _ _ _ _ h => h, Sub.refl _ _, fun a o h n => (by rw [n] at h; cases h), fun a h => .inl h⟩
theorem Go.back {c : Cg} {w w' : Wd} (g : Go c w w') {a : Addr} (h : w'.fre a) (np : a ≠ c.pn) : a ∈ w.al ∨ w.fre a := by
  by_cases ha : a ∈ w.al
  · exact .inl ha
  · refine .inr fun u q => ?_
    by_cases ht : ∃ ps, u = .tbl ps
    · exact ht
    · exact h u (g.keep a u np ha (fun ps z => ht ⟨ps, z⟩) q)
theorem Go.trans {K : PySem.W.Frag} {c : Cg} {w w1 w2 : Wd} {s : S} (a : Go c w w1) (b : Go c w1 w2) (o : Ok K c w2 s) : Go c w w2 where
  keep := fun x u np na nt h => b.keep x u np (fun z => (a.newA x z).elim na fun y => let ⟨ps, e⟩ := y u h; nt ps e) nt (a.keep x u np na nt h)
  sub := a.sub.trans b.sub
  new := fun x u h n => by
    have np : x ≠ c.pn := by rintro rfl; rw [o.fpn] at h; cases h
    cases q : w1.F x with
    | some y => exact a.new x y q n
    | none =>
      rcases b.new x u h q with z | z
      · exact (a.back z np).symm
      · exact (a.newA x z).symm
  newA := fun x h => by
    have np : x ≠ c.pn := by rintro rfl; exact o.pna h
    rcases b.newA x h with z | z
    · exact a.newA x z
    · exact a.back z np
abbrev Sl := Option D
structure Slo (K : PySem.W.Frag) (c : Cg) (w : Wd) (σ : L2.St) (δ : List Sl) : Prop where
  len : σ.length = δ.length
  val : ∀ (i : Nat) (d : D), δ[i]? = some (some d) → ∃ v, σ[i]? = some (some v) ∧ Rep K c w.al w.F v d
theorem Slo.go {K : PySem.W.Frag} {c : Cg} {w w' : Wd} {σ : L2.St} {δ : List Sl} (s : Slo K c w σ δ) (g : Go c w w') : Slo K c w' σ δ :=
  ⟨s.len, fun i d e => let ⟨v, q, r⟩ := s.val i d e; ⟨v, q, r.up g.sub⟩⟩
theorem Slo.set {K : PySem.W.Frag} {c : Cg} {w : Wd} {σ : L2.St} {δ : List Sl} {i : Nat} {v : V} {d : D} (s : Slo K c w σ δ) (r : Rep K c w.al w.F v d) : Slo K c w (σ.set i (some v)) (δ.set i (some d)) := by
  refine ⟨by simpa using s.len, fun j d' e => ?_⟩
  by_cases hj : j = i
  · subst hj
    have hl : j < δ.length := by
      have := (List.getElem?_eq_some_iff.mp e).1
      simpa using this
    rw [List.getElem?_set_self hl] at e
    cases e
    exact ⟨v, List.getElem?_set_self (by rw [s.len]; exact hl), r⟩
  · rw [List.getElem?_set_ne (Ne.symm hj)] at e
    rw [List.getElem?_set_ne (Ne.symm hj)]
    exact s.val j d' e
theorem Slo.forget {K : PySem.W.Frag} {c : Cg} {w : Wd} {σ : L2.St} {δ : List Sl} {i : Nat} {o : Option V} (s : Slo K c w σ δ) : Slo K c w (σ.set i o) (δ.set i none) := by
  refine ⟨by simpa using s.len, fun j d' e => ?_⟩
  by_cases hj : j = i
  · subst hj
    by_cases hl : j < δ.length
    · rw [List.getElem?_set_self hl] at e; cases e
    · rw [List.getElem?_eq_none (by simpa using hl)] at e; cases e
  · rw [List.getElem?_set_ne (Ne.symm hj)] at e
    rw [List.getElem?_set_ne (Ne.symm hj)]
    exact s.val j d' e
def Den (K : PySem.W.Frag) (c : Cg) {A : Type} (m : W A) (w : Wd) (s : S) (Q : A → Wd → S → Prop) (E : Xn → Wd → S → Prop) : Prop :=
  m.wp s (fun t a => ∀ w', Go c w w' → Ok K c w' t → Q a w' t) (fun t x => ∀ w', Go c w w' → Ok K c w' t → E x w' t)
section
variable {K : PySem.W.Frag} {c : Cg} {A B : Type} {w : Wd} {s : S} {m : W A} {f : A → W B} {a : A} {Q R : A → Wd → S → Prop} {QB : B → Wd → S → Prop} {E G : Xn → Wd → S → Prop} {p : Prop}
theorem Den.mono (h : Den K c m w s Q E) (q : ∀ a w' t, Go c w w' → Ok K c w' t → Q a w' t → R a w' t) : Den K c m w s R E := m.mono (fun t a z w' g o => q a w' t g o (z w' g o)) (fun _ _ z => z) h
theorem Den.ret (h : Den K c (W.ret a) w s Q E) (o : Ok K c w s) : Q a w s := h w (Go.refl ..) o
theorem Den.bind (h : Den K c (m.bind f) w s QB E) : Den K c m w s (fun a w1 s1 => Den K c (f a) w1 s1 QB E) E :=
  m.mono (fun t a z w1 g1 o1 => (f a).mono (fun t2 b y w2 g2 o2 => y w2 (g1.trans g2 o2) o2) (fun t2 x y w2 g2 o2 => y w2 (g1.trans g2 o2) o2) z) (fun _ _ z => z) h
theorem Den.on {w0 : Wd} {s0 : S} (h : m.wp s (fun t a => ∀ w', Go c w0 w' → Ok K c w' t → Q a w' t) (fun t x => ∀ w', Go c w0 w' → Ok K c w' t → E x w' t)) (g : Go c w0 w) : Den K c m w s Q E :=
  m.mono (fun t a z w' g' o' => z w' (g.trans g' o') o') (fun t x z w' g' o' => z w' (g.trans g' o') o') h
end
def RepX (K : PySem.W.Frag) (c : Cg) (w : Wd) (cls : Value) (d : Option Addr) (x : Xn) : Prop :=
  cls = .ref (He.ga K x.cls) ∧ ∃ dx fs, d = some dx ∧ w.H dx = some (.xd fs) ∧ RepF K c w.al w.F fs x.fs
abbrev xE (K : PySem.W.Frag) (c : Cg) (E : XK) : Xn → Wd → S → Prop := fun x w' _ => ∀ cls d, RepX K c w' cls d x → E cls d w'.H
abbrev qV (K : PySem.W.Frag) (c : Cg) (Q : VK) : D → Wd → S → Prop := fun d w' _ => ∀ v, Rep K c w'.al w'.F v d → Q v w'.H
def LE (K : PySem.W.Frag) (te : XK → TE) (f : List Sl → W D) : Prop := ∀ (c : Cg) (w : Wd) (s : S) (σ : L2.St) (δ : List Sl) (Q : VK) (E : XK), Ok K c w s → Slo K c w σ δ → Den K c (f δ) w s (qV K c Q) (xE K c E) → te E σ w.H Q
def LT (K : PySem.W.Frag) (tt : XK → TT) (f : List Sl → W Bool) : Prop := ∀ (c : Cg) (w : Wd) (s : S) (σ : L2.St) (δ : List Sl) (Q : Bool → Hp → Prop) (E : XK), Ok K c w s → Slo K c w σ δ → Den K c (f δ) w s (fun b w' _ => Q b w'.H) (xE K c E) → tt E σ w.H Q
def LA (K : PySem.W.Frag) (ta : XK → TA) (f : List Sl → W (List D)) : Prop := ∀ (c : Cg) (w : Wd) (s : S) (σ : L2.St) (δ : List Sl) (Q : List V → Hp → Prop) (E : XK), Ok K c w s → Slo K c w σ δ →
  Den K c (f δ) w s (fun ds w' _ => ∀ vs, RepL K c w'.al w'.F vs ds → Q vs w'.H) (xE K c E) → ta E σ w.H Q
def LO2 (K : PySem.W.Frag) (r : R2) (g : D → D → W D) : Prop := ∀ (c : Cg) (w : Wd) (s : S) (v u : V) (x y : D) (Q : VK) (E : Xn → Wd → S → Prop), Ok K c w s → Rep K c w.al w.F v x → Rep K c w.al w.F u y → Den K c (g x y) w s (qV K c Q) E → r v u w.H Q
def LOn (K : PySem.W.Frag) (r : List V → Hp → VK → Prop) (g : List D → W D) : Prop := ∀ (c : Cg) (w : Wd) (s : S) (vs : List V) (xs : List D) (Q : VK) (E : Xn → Wd → S → Prop), Ok K c w s → RepL K c w.al w.F vs xs → Den K c (g xs) w s (qV K c Q) E → r vs w.H Q
theorem Ok.ne {K : PySem.W.Frag} {c : Cg} {w : Wd} {s : S} {p : Addr} (o : Ok K c w s) (h : w.H p = none) : p ≠ c.pn := by
  rintro rfl
  obtain ⟨_, _, _, _, e, _⟩ := o.pen
  rw [h] at e; cases e
theorem Ok.free {K : PySem.W.Frag} {c : Cg} {w : Wd} {s : S} {p : Addr} (o : Ok K c w s) (h : w.H p = none) : w.F p = none := by
  cases e : w.F p with
  | none => rfl
  | some u => rw [o.fro _ _ e] at h; cases h
theorem Ok.out {K : PySem.W.Frag} {c : Cg} {w : Wd} {s : S} {p : Addr} (o : Ok K c w s) (h : w.H p = none) : p ∉ w.al := fun z => o.occ p z h
theorem RepM.of {K : PySem.W.Frag} {c : Cg} {w w' : Wd} {a : Addr} {o : MO} (r : RepM K c w a o) (e : Sub w.al w.F w'.al w'.F) (hH : w'.H a = w.H a) (hF : w.F a = none → w'.F a = none) : RepM K c w' a o := by
  cases o with
  | lst ds => obtain ⟨h0, vs, h1, h2⟩ := r; exact ⟨hF h0, vs, hH.trans h1, h2.up e⟩
  | dct kvs => obtain ⟨h0, vs, h1, h2⟩ := r; exact ⟨hF h0, vs, hH.trans h1, h2.up e⟩
  | ins cl fs => obtain ⟨h0, dx, vs, h1, h2, h3, h4, h5⟩ := r; exact ⟨hF h0, dx, vs, hH.trans h1, h2, h3, h4.up e, h5⟩
  | gone => trivial
theorem PenOk.of {K : PySem.W.Frag} {c : Cg} {F H F' H' : Hp} {n : Nat} (p : PenOk K c F H n) (e : Le F F') (h : H' c.pn = H c.pn) : PenOk K c F' H' n := by
  obtain ⟨l, cs, t, lf, h1, h2, r⟩ := p
  exact ⟨l, cs, t, lf, h.trans h1, e.sqL h2, r⟩
@[reducible] def Wd.lay (w : Wd) (p : Addr) (o : HO) : Wd := ⟨w.al, upd w.F p o, upd w.H p o⟩
theorem Ok.lay {K : PySem.W.Frag} {c : Cg} {w : Wd} {s : S} {p : Addr} {o : HO} (k : Ok K c w s) (h : w.H p = none) (nt : ∀ ps, o ≠ .tbl ps) : Ok K c (w.lay p o) s ∧ Go c w (w.lay p o) := by
  have hp := k.ne h
  have hF := k.free h
  have ha := k.out h
  have nh : ∀ {a : Addr} {u : HO}, w.H a = some u → a ≠ p := fun e => ne_of_none e h
  have sb : Sub w.al w.F w.al (upd w.F p o) := ⟨List.prefix_refl _, Le.up hF⟩
  have na : ∀ a ∈ w.al, a ≠ p := fun a z e => ha (e ▸ z)
  refine ⟨⟨fun a u e => ?_, ?_, k.pna, k.nd, k.len, fun a z => ?_, k.pen.of (Le.up hF) (upd_ne hp.symm), k.tab.ext fun b u e => ?_, fun a ps => ?_, fun a z ps => ?_, fun a z φ => ?_, fun i a u e1 e2 => ?_⟩, fun a u _ _ _ e => ?_, sb, fun a u e n => ?_, fun a z => .inl z⟩
  · show upd w.H p o a = some u
    have e : upd w.F p o a = some u := e
    by_cases e2 : a = p
    · subst e2; rw [upd_same] at e ⊢; exact e
    · rw [upd_ne e2] at e ⊢; exact k.fro a u e
  · show upd w.F p o c.pn = none
    rw [upd_ne hp.symm]; exact k.fpn
  · show upd w.H p o a ≠ none
    rw [upd_ne (na a z)]; exact k.occ a z
  · show upd w.H p o b = some u
    rw [upd_ne (nh e)]; exact e
  · show upd w.F p o a ≠ some (.tbl ps)
    by_cases e2 : a = p
    · subst e2; rw [upd_same]; exact fun z => nt ps (Option.some.inj z)
    · rw [upd_ne e2]; exact k.ftb a ps
  · show upd w.H p o a ≠ some (.tbl ps)
    rw [upd_ne (na a z)]; exact k.atb a z ps
  · show upd w.H p o a ≠ some (.ext φ)
    rw [upd_ne (na a z)]; exact k.aco a z φ
  · have hm := List.mem_of_getElem? e1
    exact (k.sto i a u e1 e2).of sb (upd_ne (na a hm)) fun z => by show upd w.F p o a = none; rw [upd_ne (na a hm)]; exact z
  · show upd w.H p o a = some u
    rw [upd_ne (nh e)]; exact e
  · have e : upd w.F p o a = some u := e
    by_cases e2 : a = p
    · subst e2; exact .inl (Wd.fre_none h)
    · rw [upd_ne e2, n] at e; cases e
@[reducible] def dVar (i : Nat) : List Sl → W D := fun δ => match δ[i]? with
  | some (some d) => W.ret d
  | _ => W.stuck
@[reducible] def dC (d : D) : List Sl → W D := fun _ => W.ret d
@[reducible] def dOp2 (g : D → D → W D) (fa fb : List Sl → W D) : List Sl → W D := fun δ => (fa δ).bind fun x => (fb δ).bind fun y => g x y
@[reducible] def dOp1 (g : D → W D) (fa : List Sl → W D) : List Sl → W D := fun δ => (fa δ).bind g
@[reducible] def dOpn (g : List D → W D) (fa : List Sl → W (List D)) : List Sl → W D := fun δ => (fa δ).bind g
@[reducible] def dNil : List Sl → W (List D) := fun _ => W.ret []
@[reducible] def dCons (fa : List Sl → W D) (fr : List Sl → W (List D)) : List Sl → W (List D) := fun δ => (fa δ).bind fun x => (fr δ).bind fun xs => W.ret (x :: xs)
section
variable {K : PySem.W.Frag} {ta tb : XK → TE} {fa fb : List Sl → W D}
theorem le_var {i : Nat} : LE K (fun _ => tVar i) (dVar i) := fun c w s σ δ Q E o sl h => by
  unfold dVar at h
  cases e : δ[i]? with
  | none => rw [e] at h; exact h.elim
  | some x =>
    rw [e] at h
    cases x with
    | none => exact h.elim
    | some d =>
      obtain ⟨v, q, r⟩ := sl.val i d e
      exact ⟨v, q, h.ret o v r⟩
theorem le_c {v : V} {d : D} (h : ∀ c al F, Rep K c al F v d) : LE K (fun _ => tC v) (dC d) := fun c w s σ δ Q E o sl q => q.ret o v (h c _ _)
theorem le_int {i : Int} : LE K (fun _ => tC (.int i)) (dC (.int i)) := le_c fun _ _ _ => .int i
theorem le_str {x : Str} : LE K (fun _ => tC (.str x)) (dC (.str x)) := le_c fun _ _ _ => .str x
theorem le_bl {b : Bool} : LE K (fun _ => tC (.bl b)) (dC (.bl b)) := le_c fun _ _ _ => .bl b
theorem le_op2 {r : R2} {g : D → D → W D} (hr : LO2 K r g) (ha : LE K ta fa) (hb : LE K tb fb) : LE K (fun E => tOp r (ta E) (tb E)) (dOp2 g fa fb) := fun c w s σ δ Q E o sl h =>
  ha c w s σ δ _ E o sl (h.bind.mono fun x w1 s1 g1 o1 q v r1 => hb c w1 s1 σ δ _ E o1 (sl.go g1) (q.bind.mono fun y w2 s2 g2 o2 q2 u r2 => hr c w2 s2 v u x y Q _ o2 (r1.up g2.sub) r2 q2))
theorem la_nil : LA K (fun _ => tNil) dNil := fun c w s σ δ Q E o sl h => h.ret o [] .nil
theorem la_cons {tr : XK → TA} {fr : List Sl → W (List D)} (ha : LE K ta fa) (hr : LA K tr fr) : LA K (fun E => tCons (ta E) (tr E)) (dCons fa fr) := fun c w s σ δ Q E o sl h =>
  ha c w s σ δ _ E o sl (h.bind.mono fun x w1 s1 g1 o1 q v r1 => hr c w1 s1 σ δ _ E o1 (sl.go g1) (q.bind.mono fun ys w2 s2 g2 o2 q2 us r2 => q2.ret o2 (v :: us) (.cons (r1.up g2.sub) r2)))
theorem le_opn {t : XK → TA} {f : List Sl → W (List D)} {r : List V → Hp → VK → Prop} {g : List D → W D} (hr : LOn K r g) (ha : LA K t f) : LE K (fun E => tCB r (t E)) (dOpn g f) := fun c w s σ δ Q E o sl h =>
  ha c w s σ δ _ E o sl (h.bind.mono fun x w1 s1 g1 o1 q vs r1 => hr c w1 s1 vs x Q _ o1 r1 q)
@[reducible] def dTup (f : List Sl → W (List D)) : List Sl → W D := fun δ => (f δ).bind fun xs => W.need (xs.length ≤ sizeLine) (W.ret (.tup xs))
@[reducible] def dLst (f : List Sl → W (List D)) : List Sl → W D := fun δ => (f δ).bind fun xs => W.need (xs.length ≤ sizeLine) (W.ret (.lst xs))
theorem le_tup {t : XK → TA} {f : List Sl → W (List D)} (ha : LA K t f) : LE K (fun E => tTup (t E)) (dTup f) := fun c w s σ δ Q E o sl h =>
  ha c w s σ δ _ E o sl (h.bind.mono fun xs w1 s1 g1 o1 q vs r1 => ⟨by rw [r1.len]; exact q.1, fun p hp => by
    obtain ⟨o2, g2⟩ := o1.lay (o := .tup vs) hp (fun _ z => by cases z)
    exact q.2 _ g2 o2 (.ref p) (.tup upd_same (r1.up g2.sub))⟩)
theorem le_lst {t : XK → TA} {f : List Sl → W (List D)} (ha : LA K t f) : LE K (fun E => tLst (t E)) (dLst f) := fun c w s σ δ Q E o sl h =>
  ha c w s σ δ _ E o sl (h.bind.mono fun xs w1 s1 g1 o1 q vs r1 => ⟨by rw [r1.len]; exact q.1, fun p hp => by
    obtain ⟨o2, g2⟩ := o1.lay (o := .lst vs) hp (fun _ z => by cases z)
    exact q.2 _ g2 o2 (.ref p) (.lst upd_same (r1.up g2.sub))⟩)
end
end Ly
namespace Ly
open PySem L2
open Lx (Le)
@[reducible] def W.calm {A : Type} (m : W A) : W A := ⟨fun s Q _ => m.wp s Q fun _ _ => False, fun h _ p => m.mono h (fun _ _ z => z) p⟩
theorem Den.calm {K : PySem.W.Frag} {c : Cg} {A : Type} {m : W A} {w : Wd} {s : S} {Q : A → Wd → S → Prop} {E G : Xn → Wd → S → Prop} (h : Den K c m.calm w s Q E) : Den K c m w s Q G := m.mono (fun _ _ z => z) (fun _ _ z => z.elim) h
@[reducible] def truD : D → W Bool
  | .non => W.ret false
  | .bl b => W.ret b
  | .int i => W.ret (i != 0)
  | .str y => W.need (y.length ≤ sizeLine) (W.ret ((y.length : Int) != 0))
  | .lst xs => W.ret (!xs.isEmpty)
  | .tup xs => W.ret (!xs.isEmpty)
  | _ => W.stuck
@[reducible] def blD : D → W Bool
  | .bl b => W.ret b
  | _ => W.stuck
section
variable {K : PySem.W.Frag} {ta tb : XK → TE} {fa fb : List Sl → W D} {tt tu : XK → TT} {ft fu : List Sl → W Bool}
theorem truV_of {c : Cg} {w : Wd} {s : S} {v : V} {d : D} {A : Type} {f : Bool → W A} {Q : A → Wd → S → Prop} {E : Xn → Wd → S → Prop} (o : Ok K c w s) (r : Rep K c w.al w.F v d) (h : Den K c ((truD d).bind f) w s Q E) : ∃ k, TruV K v w.H k ∧ Den K c (f k) w s Q E := by
  cases r with
  | non => exact ⟨_, rfl, h⟩
  | bl b => exact ⟨_, rfl, h⟩
  | int i => exact ⟨_, rfl, h⟩
  | str x => exact ⟨_, ⟨h.1, rfl⟩, h.2⟩
  | lst a b => exact ⟨_, .inl ⟨_, SqL.of (o.fro _ _ a), rfl⟩, by rw [isE b]; exact h⟩
  | tup a b => exact ⟨_, .inr (.inl ⟨_, SqT.of (o.fro _ _ a), rfl⟩), by rw [isE b]; exact h⟩
  | dct a b => exact h.elim
  | obj a _ _ b => exact h.elim
  | pen => exact h.elim
  | sct a => exact h.elim
  | mu a => exact h.elim
  | err _ _ _ => exact h.elim
  | err0 _ => exact h.elim
  | slo _ _ _ _ => exact h.elim
  | gt _ _ => exact h.elim
@[reducible] def dTru (fa : List Sl → W D) : List Sl → W Bool := fun δ => (fa δ).bind fun x => (truD x).bind W.ret
@[reducible] def dTest (fa : List Sl → W D) : List Sl → W Bool := fun δ => (fa δ).bind blD
@[reducible] def dAnd (a b : List Sl → W Bool) : List Sl → W Bool := fun δ => (a δ).bind fun k => match k with | true => b δ | false => W.ret false
@[reducible] def dOr (a b : List Sl → W Bool) : List Sl → W Bool := fun δ => (a δ).bind fun k => match k with | true => W.ret true | false => b δ
@[reducible] def dNot (a : List Sl → W Bool) : List Sl → W Bool := fun δ => (a δ).bind fun k => W.ret (!k)
theorem lt_tru (ha : LE K ta fa) : LT K (fun E σ H Q => ta E σ H fun x H1 => ∃ k, TruV K x H1 k ∧ Q k H1) (dTru fa) := fun c w s σ δ Q E o sl h =>
  ha c w s σ δ _ E o sl (h.bind.mono fun x w1 s1 g1 o1 q v r1 => let ⟨k, t, q⟩ := truV_of o1 r1 q; ⟨k, t, q.ret o1⟩)
theorem lt_test (ha : LE K ta fa) : LT K (fun E => tTest (ta E)) (dTest fa) := fun c w s σ δ Q E o sl h =>
  ha c w s σ δ _ E o sl (h.bind.mono fun x w1 s1 g1 o1 q v r1 => by
    cases r1 with
    | bl b => exact ⟨b, rfl, q.ret o1⟩
    | _ => exact q.elim)
theorem lt_and (ha : LT K tt ft) (hb : LT K tu fu) : LT K (fun E => tAnd (tt E) (tu E)) (dAnd ft fu) := fun c w s σ δ Q E o sl h =>
  ha c w s σ δ _ E o sl (h.bind.mono fun k w1 s1 g1 o1 q => by
    cases k with
    | false => exact iteF (q.ret o1)
    | true => exact iteT (hb c w1 s1 σ δ _ E o1 (sl.go g1) q))
theorem lt_or (ha : LT K tt ft) (hb : LT K tu fu) : LT K (fun E => tOr (tt E) (tu E)) (dOr ft fu) := fun c w s σ δ Q E o sl h =>
  ha c w s σ δ _ E o sl (h.bind.mono fun k w1 s1 g1 o1 q => by
    cases k with
    | true => exact iteT (q.ret o1)
    | false => exact iteF (hb c w1 s1 σ δ _ E o1 (sl.go g1) q))
theorem lt_not (ha : LT K tt ft) : LT K (fun E => tNot (tt E)) (dNot ft) := fun c w s σ δ Q E o sl h =>
  ha c w s σ δ _ E o sl (h.bind.mono fun k w1 s1 g1 o1 q => q.ret o1)
@[reducible] def dAndV (fa fb : List Sl → W D) : List Sl → W D := fun δ => (fa δ).bind fun x => (truD x).bind fun k => match k with | true => fb δ | false => W.ret x
@[reducible] def dIfE (ft : List Sl → W Bool) (fa fb : List Sl → W D) : List Sl → W D := fun δ => (ft δ).bind fun k => match k with | true => fa δ | false => fb δ
theorem le_and (ha : LE K ta fa) (hb : LE K tb fb) : LE K (fun E => tAndT K (ta E) (tb E)) (dAndV fa fb) := fun c w s σ δ Q E o sl h =>
  ha c w s σ δ _ E o sl (h.bind.mono fun x w1 s1 g1 o1 q v r1 => by
    obtain ⟨k, t, q⟩ := truV_of o1 r1 q
    refine ⟨k, t, ?_⟩
    cases k with
    | true => exact iteT (hb c w1 s1 σ δ _ E o1 (sl.go g1) q)
    | false => exact iteF (q.ret o1 v r1))
theorem le_if (ht : LT K tt ft) (ha : LE K ta fa) (hb : LE K tb fb) : LE K (fun E => tIf (tt E) (ta E) (tb E)) (dIfE ft fa fb) := fun c w s σ δ Q E o sl h =>
  ht c w s σ δ _ E o sl (h.bind.mono fun k w1 s1 g1 o1 q => by
    cases k with
    | true => exact iteT (ha c w1 s1 σ δ _ E o1 (sl.go g1) q)
    | false => exact iteF (hb c w1 s1 σ δ _ E o1 (sl.go g1) q))
@[reducible] def dChain (g g2 : D → D → W D) (fa fb fc : List Sl → W D) : List Sl → W D := fun δ => (fa δ).bind fun x => (fb δ).bind fun y => (g x y).bind fun z => (blD z).bind fun k =>
  match k with | true => (fc δ).bind fun u => g2 y u | false => W.ret (.bl false)
theorem le_chain {r r2 : R2} {g g2 : D → D → W D} {tc : XK → TE} {fc : List Sl → W D} (hr : LO2 K r g) (hr2 : LO2 K r2 g2) (ha : LE K ta fa) (hb : LE K tb fb) (hc : LE K tc fc) : LE K (fun E => tChain r r2 (ta E) (tb E) (tc E)) (dChain g g2 fa fb fc) := fun c w s σ δ Q E o sl h =>
  ha c w s σ δ _ E o sl (h.bind.mono fun x w1 s1 g1 o1 q v r1 => hb c w1 s1 σ δ _ E o1 (sl.go g1) (q.bind.mono fun y w2 s2 k2 o2 q2 u r22 => hr c w2 s2 v u x y _ (xE K c E) o2 (r1.up k2.sub) r22 (q2.bind.mono fun z w3 s3 k3 o3 q3 zv r3 => by
    have g3 := (g1.trans k2 o2).trans k3 o3
    cases r3 with
    | bl b =>
      refine ⟨b, rfl, ?_⟩
      cases b with
      | false => exact iteF (q3.ret o3 _ (.bl _))
      | true => exact iteT (hc c w3 s3 σ δ _ E o3 (sl.go g3) ((show Den K c ((fc δ).bind fun u => g2 y u) w3 s3 (qV K c Q) (xE K c E) from q3).bind.mono fun u4 w4 s4 k4 o4 q4 uv r4 => hr2 c w4 s4 u uv y u4 Q _ o4 ((r22.up k3.sub).up k4.sub) r4 q4))
    | _ => exact q3.elim)))
end
def LG (K : PySem.W.Frag) (vs : List Nat) (g : TG) (dg : D → List Sl → W (List Sl)) : Prop := ∀ (c : Cg) (w : Wd) (s : S) (σ : L2.St) (δ : List Sl) (v : V) (d : D) (Q : L2.St → Hp → Prop) (E : Xn → Wd → S → Prop), Ok K c w s → Slo K c w σ δ → Rep K c w.al w.F v d →
  Den K c (dg d δ) w s (fun ε w' _ => ∀ σ1, Slo K c w' σ1 ε → (∀ j : Nat, j ∉ vs → σ1[j]? = σ[j]?) → σ1.length = σ.length → Q σ1 w'.H) E → g v σ w.H Q
@[reducible] def dName (i : Nat) : D → List Sl → W (List Sl) := fun d δ => W.ret (δ.set i (some d))
theorem lg_name {K : PySem.W.Frag} {i : Nat} : LG K [i] (gName i) (dName i) := fun c w s σ δ v d Q E o sl r h =>
  h.ret o _ (sl.set r) (fun j hj => List.getElem?_set_ne (by simpa using fun e => hj (by simp [e]))) (by simp)
def LGs (K : PySem.W.Frag) (vs : List Nat) (g : TGs) (dg : List D → List Sl → W (List Sl)) : Prop := ∀ (c : Cg) (w : Wd) (s : S) (σ : L2.St) (δ : List Sl) (us : List V) (ds : List D) (Q : L2.St → Hp → Prop) (E : Xn → Wd → S → Prop), Ok K c w s → Slo K c w σ δ → RepL K c w.al w.F us ds →
  Den K c (dg ds δ) w s (fun ε w' _ => ∀ σ1, Slo K c w' σ1 ε → (∀ j : Nat, j ∉ vs → σ1[j]? = σ[j]?) → σ1.length = σ.length → Q σ1 w'.H) E → g us σ w.H Q
@[reducible] def dGNil : List D → List Sl → W (List Sl) := fun ds δ => match ds with | [] => W.ret δ | _ => W.stuck
@[reducible] def dGCons (a : D → List Sl → W (List Sl)) (b : List D → List Sl → W (List Sl)) : List D → List Sl → W (List Sl) := fun ds δ => match ds with | d :: r => (a d δ).bind fun ε => b r ε | _ => W.stuck
@[reducible] def dGTup (n : Nat) (b : List D → List Sl → W (List Sl)) : D → List Sl → W (List Sl) := fun d δ => match d with | .tup ds => W.need (ds.length = n) (b ds δ) | _ => W.stuck
@[reducible] def dGLst (n : Nat) (b : List D → List Sl → W (List Sl)) : D → List Sl → W (List Sl) := fun d δ => match d with | .lst ds => W.need (ds.length = n) (b ds δ) | _ => W.stuck
section
variable {K : PySem.W.Frag} {vs us : List Nat}
theorem lgs_nil : LGs K [] gNil dGNil := fun c w s σ δ ws ds Q E o sl r h => by
  cases r with
  | nil => exact ⟨rfl, h.ret o _ sl (fun _ _ => rfl) rfl⟩
  | cons _ _ => exact h.elim
theorem lgs_cons {t : TG} {u : TGs} {a : D → List Sl → W (List Sl)} {b : List D → List Sl → W (List Sl)} (ha : LG K vs t a) (hb : LGs K us u b) : LGs K (vs ++ us) (gCons t u) (dGCons a b) := fun c w s σ δ ws ds Q E o sl r h => by
  cases r with
  | nil => exact h.elim
  | @cons v ws d ds rv rr =>
    refine ⟨v, ws, rfl, ha c w s σ δ v d _ E o sl rv ((show Den K c ((a d δ).bind fun ε => b ds ε) w s _ E from h).bind.mono fun ε w1 s1 g1 o1 q σ1 s1' e1 l1 => ?_)⟩
    exact hb c w1 s1 σ1 ε ws ds _ E o1 s1' (rr.up g1.sub) (q.mono fun ε2 w2 s2 g2 o2 q2 σ2 s2' e2 l2 => q2 σ2 s2' (fun j hj => (e2 j fun z => hj (List.mem_append_right _ z)).trans (e1 j fun z => hj (List.mem_append_left _ z))) (l2.trans l1))
theorem lg_tup {k : Nat} {t : TGs} {b : List D → List Sl → W (List Sl)} (hb : LGs K vs t b) : LG K vs (gTup K k t) (dGTup k b) := fun c w s σ δ v d Q E o sl r h => by
  cases r with
  | tup a r => exact ⟨_, _, rfl, SqT.of (o.fro _ _ a), (r.len.trans h.1), hb c w s σ δ _ _ Q E o sl r h.2⟩
  | _ => exact h.elim
end
inductive Out where
  | nx (δ : List Sl) | rt (d : D) | bk (δ : List Sl) | ct (δ : List Sl)
@[reducible] def qS (K : PySem.W.Frag) (c : Cg) (D : Ends) : Out → Wd → S → Prop := fun o w' _ => match o with
  | .nx δ => ∀ σ, Slo K c w' σ δ → D.nx σ w'.H
  | .rt d => ∀ v, Rep K c w'.al w'.F v d → D.rt v w'.H
  | .bk δ => ∀ σ, Slo K c w' σ δ → D.bk σ w'.H
  | .ct δ => ∀ σ, Slo K c w' σ δ → D.ct σ w'.H
def LS (K : PySem.W.Frag) (ts : XK → TS) (g : List Sl → W Out) : Prop := ∀ (c : Cg) (w : Wd) (s : S) (σ : L2.St) (δ : List Sl) (D : Ends) (E : XK), Ok K c w s → Slo K c w σ δ → Den K c (g δ) w s (qS K c D) (xE K c E) → ts E D σ w.H
@[reducible] def dSeq (g h : List Sl → W Out) : List Sl → W Out := fun δ => (g δ).bind fun o => match o with | .nx ε => h ε | o => W.ret o
@[reducible] def dNext : List Sl → W Out := fun δ => W.ret (.nx δ)
@[reducible] def dAsg (f : List Sl → W D) (dg : D → List Sl → W (List Sl)) : List Sl → W Out := fun δ => (f δ).bind fun d => (dg d δ).bind fun ε => W.ret (.nx ε)
@[reducible] def dRet (f : List Sl → W D) : List Sl → W Out := fun δ => (f δ).bind fun d => W.ret (.rt d)
@[reducible] def dIf (t : List Sl → W Bool) (a b : List Sl → W Out) : List Sl → W Out := fun δ => (t δ).bind fun k => match k with | true => a δ | false => b δ
@[reducible] def dNever : List Sl → W Out := fun _ => W.stuck
@[reducible] def dPar (i j : Nat) (f : List Sl → W (List D)) : List Sl → W Out := fun δ => (f δ).bind fun ds => match ds with | [x, y] => W.ret (.nx ((δ.set i (some x)).set j (some y))) | _ => W.stuck
section
variable {K : PySem.W.Frag} {ts tu : XK → TS} {g h : List Sl → W Out} {te : XK → TE} {f : List Sl → W D}
theorem ls_next : LS K (fun _ => tNext) dNext := fun c w s σ δ D E o sl q => q.ret o σ sl
theorem ls_never : LS K (fun _ => tNever) dNever := fun c w s σ δ D E o sl q => q
theorem ls_seq (ha : LS K ts g) (hb : LS K tu h) : LS K (fun E => tSeq (ts E) (tu E)) (dSeq g h) := fun c w s σ δ D E o sl q =>
  ha c w s σ δ _ E o sl (q.bind.mono fun u w1 s1 g1 o1 p => by
    cases u with
    | nx ε => exact fun σ1 s1' => hb c w1 s1 σ1 ε D E o1 s1' p
    | rt d => exact p.ret o1
    | bk ε => exact p.ret o1
    | ct ε => exact p.ret o1)
theorem ls_asg {vs : List Nat} {tg : TG} {dg : D → List Sl → W (List Sl)} (he : LE K te f) (hg : LG K vs tg dg) : LS K (fun E => tAsg (te E) tg) (dAsg f dg) := fun c w s σ δ D E o sl q =>
  he c w s σ δ _ E o sl (q.bind.mono fun d w1 s1 g1 o1 p v r1 => hg c w1 s1 σ δ v d _ (xE K c E) o1 (sl.go g1) r1 (p.bind.mono fun ε w2 s2 g2 o2 p2 σ2 s2' _ _ => p2.ret o2 σ2 s2'))
theorem ls_ret (he : LE K te f) : LS K (fun E => tRet (te E)) (dRet f) := fun c w s σ δ D E o sl q =>
  he c w s σ δ _ E o sl (q.bind.mono fun d w1 s1 g1 o1 p v r1 => p.ret o1 v r1)
theorem ls_if {tt : XK → TT} {ft : List Sl → W Bool} (ht : LT K tt ft) (ha : LS K ts g) (hb : LS K tu h) : LS K (fun E => tIfS (tt E) (ts E) (tu E)) (dIf ft g h) := fun c w s σ δ D E o sl q =>
  ht c w s σ δ _ E o sl (q.bind.mono fun k w1 s1 g1 o1 p => by
    cases k with
    | true => exact iteT (ha c w1 s1 σ δ D E o1 (sl.go g1) p)
    | false => exact iteF (hb c w1 s1 σ δ D E o1 (sl.go g1) p))
theorem ls_par {t : XK → TA} {f : List Sl → W (List D)} {i j : Nat} (ha : LA K t f) : LS K (fun E => tPar i j (t E)) (dPar i j f) := fun c w s σ δ D E o sl q =>
  ha c w s σ δ _ E o sl (q.bind.mono fun ds w1 s1 g1 o1 p vs r1 => by
    split at p
    · obtain ⟨v, u, rfl, rv, ru⟩ := r1.two
      exact ⟨v, u, rfl, p.ret o1 _ (((sl.go g1).set rv).set ru)⟩
    · exact p.elim)
end
def Yie (K : PySem.W.Frag) (c : Cg) (w : Wd) (J : It) (ds : List D) : Prop := ∀ (i : Nat) (w1 : Wd) (s : S), Sub w.al w.F w1.al w1.F → Ok K c w1 s →
  (∀ d, ds[i]? = some d → J.go i w1.H ∧ ∀ x H2, J.yld i w1.H x H2 → ∃ w2, w2.H = H2 ∧ Go c w1 w2 ∧ Ok K c w2 s ∧ Rep K c w2.al w2.F x d) ∧ (ds.length ≤ i → J.stop i w1.H)
def LI (K : PySem.W.Frag) (wi : XK → TI) (f : List Sl → W (List D)) : Prop := ∀ (c : Cg) (w : Wd) (s : S) (σ : L2.St) (δ : List Sl) (R : It → Hp → Prop) (E : XK), Ok K c w s → Slo K c w σ δ →
  Den K c (f δ) w s (fun ds w1 _ => ∀ J, Yie K c w1 J ds → R J w1.H) (xE K c E) → wi E σ w.H R
@[reducible] def dIL (f : List Sl → W D) : List Sl → W (List D) := fun δ => (f δ).bind fun d => match d with | .lst xs => W.ret xs | _ => W.stuck
def rangeD (lo : Int) : Nat → List D
  | 0 => []
  | n + 1 => .int lo :: rangeD (lo + 1) n
theorem rangeD_len : ∀ (n : Nat) (lo : Int), (rangeD lo n).length = n
  | 0, _ => rfl
  | n + 1, lo => congrArg (· + 1) (rangeD_len n (lo + 1))
theorem rangeD_get : ∀ (n : Nat) (lo : Int) (i : Nat), i < n → (rangeD lo n)[i]? = some (.int (lo + i))
  | 0, _, _, h => absurd h (Nat.not_lt_zero _)
  | n + 1, lo, 0, _ => by show some (D.int lo) = _; congr 2; omega
  | n + 1, lo, i + 1, h => by
    show (rangeD (lo + 1) n)[i]? = _
    rw [rangeD_get n (lo + 1) i (by omega)]
    congr 2; omega
@[reducible] def dIR1 (f : List Sl → W (List D)) : List Sl → W (List D) := fun δ => (f δ).bind fun ds => match ds with | [.int j] => W.need (-(2 ^ 62) ≤ j ∧ j < 2 ^ 62) (W.ret (rangeD 0 j.toNat)) | _ => W.stuck
section
variable {K : PySem.W.Frag} {c : Cg} {w : Wd} {a : Addr} {vs : List V} {ds : List D}
theorem yie_list (q : SqL K w.F a vs) (r : RepL K c w.al w.F vs ds) : Yie K c w (Itl K a) ds := fun i w1 s g o => by
  have q1 : SqL K w1.H a vs := o.fro.sqL (g.le.sqL q)
  refine ⟨fun d hd => ?_, fun h => ⟨vs, q1, by rw [r.len]; exact h⟩⟩
  obtain ⟨v, hv, rv⟩ := r.get hd
  refine ⟨⟨vs, v, q1, hv⟩, fun x H2 y => ?_⟩
  obtain ⟨rfl, y⟩ := y
  have hx := y vs q1
  rw [hv] at hx
  cases hx
  exact ⟨w1, rfl, Go.refl .., o, rv.up g⟩
theorem yie_tup (q : SqT K w.F a vs) (r : RepL K c w.al w.F vs ds) : Yie K c w (Itt K a) ds := fun i w1 s g o => by
  have q1 : SqT K w1.H a vs := o.fro.sqT (g.le.sqT q)
  refine ⟨fun d hd => ?_, fun h => ⟨vs, q1, by rw [r.len]; exact h⟩⟩
  obtain ⟨v, hv, rv⟩ := r.get hd
  refine ⟨⟨vs, v, q1, hv⟩, fun x H2 y => ?_⟩
  obtain ⟨rfl, y⟩ := y
  have hx := y vs q1
  rw [hv] at hx
  cases hx
  exact ⟨w1, rfl, Go.refl .., o, rv.up g⟩
theorem yie_range {lo : Int} {n : Nat} : Yie K c w (Itr lo n) (rangeD lo n) := fun i w1 s g o => by
  refine ⟨fun d hd => ?_, fun h => by rw [rangeD_len] at h; exact h⟩
  have hi : i < n := by
    have := (List.getElem?_eq_some_iff.mp hd).1
    rw [rangeD_len] at this; exact this
  rw [rangeD_get n lo i hi] at hd
  cases hd
  refine ⟨hi, fun x H2 y => ?_⟩
  obtain ⟨rfl, rfl⟩ := y
  exact ⟨w1, rfl, Go.refl .., o, .int _⟩
end
section
variable {K : PySem.W.Frag} {te : XK → TE} {f : List Sl → W D}
theorem li_list (he : LE K te f) : LI K (fun E => iList K (te E)) (dIL f) := fun c w s σ δ R E o sl h =>
  he c w s σ δ _ E o sl (h.bind.mono fun d w1 s1 g1 o1 p v r1 => by
    cases r1 with
    | lst q r => exact ⟨_, rfl, ⟨_, SqL.of (o1.fro _ _ q)⟩, p.ret o1 _ (yie_list (SqL.of q) r)⟩
    | _ => exact p.elim)
theorem RepL.int1 {c : Cg} {al : List Addr} {F : Hp} {vs : List V} {j : Int} (r : RepL K c al F vs [.int j]) : vs = [.int j] := by
  cases r with
  | cons a b => cases a; cases b; rfl
theorem li_range1 {ta : XK → TA} {fa : List Sl → W (List D)} (ha : LA K ta fa) : LI K (fun E => iRng1 (ta E)) (dIR1 fa) := fun c w s σ δ R E o sl h =>
  ha c w s σ δ _ E o sl (h.bind.mono fun ds w1 s1 g1 o1 p vs r1 => by
    split at p
    · rename_i j
      exact ⟨j, r1.int1, p.1.1, p.1.2, Den.ret (K := K) (c := c) p.2 o1 _ yie_range⟩
    · exact p.elim)
end
def forD (dg : D → List Sl → W (List Sl)) (gb : List Sl → W Out) : List D → List Sl → W Out
  | [], δ => W.ret (.nx δ)
  | d :: ds, δ => (dg d δ).bind fun ε => (gb ε).bind fun o => match o with
    | .nx ε => forD dg gb ds ε
    | .ct ε => forD dg gb ds ε
    | .bk ε => W.ret (.nx ε)
    | .rt d => W.ret (.rt d)
@[reducible] def dFor (fi : List Sl → W (List D)) (dg : D → List Sl → W (List Sl)) (gb : List Sl → W Out) : List Sl → W Out := fun δ => (fi δ).bind fun ds => forD dg gb ds δ
theorem ls_for {K : PySem.W.Frag} {wi : XK → TI} {fi : List Sl → W (List D)} {vs : List Nat} {tg : TG} {dg : D → List Sl → W (List Sl)} {tb : XK → TS} {gb : List Sl → W Out} (hi : LI K wi fi) (hg : LG K vs tg dg) (hb : LS K tb gb) :
    LS K (fun E => tFor (wi E) tg (tb E)) (dFor fi dg gb) := fun c w s σ δ D E o sl q => by
  refine hi c w s σ δ _ E o sl (q.bind.mono fun ds w1 s1 g1 o1 p J y => ?_)
  refine ⟨fun i m σ H => m = ds.length - i ∧ i ≤ ds.length ∧ ∃ w2 s2 δ, w2.H = H ∧ Go c w1 w2 ∧ Ok K c w2 s2 ∧ Slo K c w2 σ δ ∧ Den K c (forD dg gb (ds.drop i) δ) w2 s2 (qS K c D) (xE K c E),
    ⟨ds.length, by simp, Nat.zero_le _, w1, s1, δ, rfl, Go.refl .., o1, sl.go g1, p⟩, ?_⟩
  rintro i m2 σ2 H2 ⟨rfl, hi2, w2, s2, δ2, rfl, k2, o2, sl2, p2⟩
  by_cases hlt : i < ds.length
  · refine .inr ?_
    have ed : ds[i]? = some ds[i] := List.getElem?_eq_getElem hlt
    obtain ⟨go, yl⟩ := (y i w2 s2 k2.sub o2).1 _ ed
    refine ⟨go, fun σ' H' => i + 1 ≤ ds.length ∧ ∃ w2 s2 δ, w2.H = H' ∧ Go c w1 w2 ∧ Ok K c w2 s2 ∧ Slo K c w2 σ' δ ∧ Den K c (forD dg gb (ds.drop (i + 1)) δ) w2 s2 (qS K c D) (xE K c E), ?_, ?_⟩
    · rintro σ' H' ⟨h1, h2⟩
      exact ⟨ds.length - (i + 1), by omega, rfl, h1, h2⟩
    · intro x H3 yx
      obtain ⟨w3, rfl, k3, o3, r3⟩ := yl x H3 yx
      rw [List.drop_eq_getElem_cons hlt] at p2
      have p3 : Den K c (forD dg gb (ds[i] :: ds.drop (i + 1)) δ2) w3 s2 (qS K c D) (xE K c E) := Den.on (s0 := s2) p2 k3
      refine hg c w3 s2 σ2 δ2 x _ _ (xE K c E) o3 (sl2.go k3) r3 (p3.bind.mono fun ε w4 s4 k4 o4 p4 σ4 sl4 _ _ => ?_)
      refine hb c w4 s4 σ4 ε _ E o4 sl4 (p4.bind.mono fun u w5 s5 k5 o5 p5 => ?_)
      have k15 := ((k2.trans k3 o3).trans k4 o4).trans k5 o5
      cases u with
      | nx ε5 => exact fun σ5 sl5 => ⟨hlt, w5, s5, ε5, rfl, k15, o5, sl5, p5⟩
      | ct ε5 => exact fun σ5 sl5 => ⟨hlt, w5, s5, ε5, rfl, k15, o5, sl5, p5⟩
      | bk ε5 => exact fun σ5 sl5 => p5.ret o5 σ5 sl5
      | rt d => exact fun v rv => p5.ret o5 v rv
  · have e : i = ds.length := by omega
    subst e
    rw [List.drop_length] at p2
    exact .inl ⟨(y ds.length w2 s2 k2.sub o2).2 (Nat.le_refl _), Den.ret p2 o2 σ2 sl2⟩
def whileD (ft : List Sl → W Bool) (gb : List Sl → W Out) : Nat → List Sl → W Out
  | 0, _ => W.stuck
  | m + 1, δ => (ft δ).bind fun k => match k with
    | false => W.ret (.nx δ)
    | true => (gb δ).bind fun o => match o with
      | .nx ε => whileD ft gb m ε
      | .ct ε => whileD ft gb m ε
      | .bk ε => W.ret (.nx ε)
      | .rt d => W.ret (.rt d)
@[reducible] def dWhile (ft : List Sl → W Bool) (gb : List Sl → W Out) : List Sl → W Out := fun δ => ⟨fun s Q E => ∃ m, (whileD ft gb m δ).wp s Q E, fun h g ⟨m, p⟩ => ⟨m, (whileD ft gb m δ).mono h g p⟩⟩
theorem ls_while {K : PySem.W.Frag} {tt : XK → TT} {ft : List Sl → W Bool} {tb : XK → TS} {gb : List Sl → W Out} (ht : LT K tt ft) (hb : LS K tb gb) : LS K (fun E => tWhile (tt E) (tb E)) (dWhile ft gb) := fun c w s σ δ D E o sl q => by
  obtain ⟨m0, q⟩ := q
  refine ⟨fun m σ H => ∃ w1 s1 δ, w1.H = H ∧ Ok K c w1 s1 ∧ Slo K c w1 σ δ ∧ Den K c (whileD ft gb m δ) w1 s1 (qS K c D) (xE K c E), ⟨m0, w, s, δ, rfl, o, sl, q⟩, ?_⟩
  rintro m σ1 H1 ⟨w1, s1, δ1, rfl, o1, sl1, p1⟩
  cases m with
  | zero => exact p1.elim
  | succ m =>
    refine ht c w1 s1 σ1 δ1 _ E o1 sl1 ((show Den K c ((ft δ1).bind _) w1 s1 _ _ from p1).bind.mono fun k w2 s2 g2 o2 p2 => ?_)
    cases k with
    | false => exact iteF (p2.ret o2 σ1 (sl1.go g2))
    | true =>
      refine iteT ⟨fun σ' H' => ∃ w1 s1 δ, w1.H = H' ∧ Ok K c w1 s1 ∧ Slo K c w1 σ' δ ∧ Den K c (whileD ft gb m δ) w1 s1 (qS K c D) (xE K c E), fun σ' H' h => ⟨m, Nat.lt_succ_self m, h⟩, ?_⟩
      refine hb c w2 s2 σ1 δ1 _ E o2 (sl1.go g2) ((show Den K c ((gb δ1).bind _) w2 s2 _ _ from p2).bind.mono fun u w3 s3 g3 o3 p3 => ?_)
      cases u with
      | nx ε => exact fun σ5 sl5 => ⟨w3, s3, ε, rfl, o3, sl5, p3⟩
      | ct ε => exact fun σ5 sl5 => ⟨w3, s3, ε, rfl, o3, sl5, p3⟩
      | bk ε => exact fun σ5 sl5 => p3.ret o3 σ5 sl5
      | rt d => exact fun v rv => p3.ret o3 v rv
end Ly
namespace Ly
open PySem L2 PyProof.Rows
open Lx (Le)
section
variable {K : PySem.W.Frag} {c : Cg} {w w1 : Wd} {s : S} {p : Addr} {o u : HO}
theorem tabs_upd {T : List (Addr × Str)} {H : Hp} (t : LamX.Tabs T H) (hx : ∀ u, H p = some u → (∀ ps, u ≠ .tbl ps) ∧ ∀ φ, u ≠ .ext φ) : LamX.Tabs T (upd H p o) := fun q hq => by
  obtain ⟨ps, h1, h2, h3⟩ := t q hq
  have n1 : q.1 ≠ p := fun z => by rw [z] at h1; exact (hx _ h1).1 ps rfl
  refine ⟨ps, by rw [upd_ne n1]; exact h1, h2, fun pos cv hc => ?_⟩
  obtain ⟨d, e1, e2⟩ := h3 pos cv hc
  have n2 : d ≠ p := fun z => by rw [z] at e2; exact (hx _ e2).2 _ rfl
  exact ⟨d, e1, by rw [upd_ne n2]; exact e2⟩
theorem Ok.upH (k : Ok K c w s) (hp : p ≠ c.pn) (hF : w.F p = none) (ha : p ∉ w.al) (hx : ∀ u, w.H p = some u → (∀ ps, u ≠ .tbl ps) ∧ ∀ φ, u ≠ .ext φ) : Ok K c ⟨w.al, w.F, upd w.H p o⟩ s := by
  have na : ∀ a ∈ w.al, a ≠ p := fun a z e => ha (e ▸ z)
  refine ⟨fun a u e => ?_, k.fpn, k.pna, k.nd, k.len, fun a z => ?_, k.pen.of (Le.refl _) (upd_ne hp.symm), tabs_upd k.tab hx, k.ftb, fun a z ps => ?_, fun a z φ => ?_, fun i a m e1 e2 => ?_⟩
  · show upd w.H p o a = some u
    rw [upd_ne (ne_of_none e hF)]; exact k.fro a u e
  · show upd w.H p o a ≠ none
    rw [upd_ne (na a z)]; exact k.occ a z
  · show upd w.H p o a ≠ _
    rw [upd_ne (na a z)]; exact k.atb a z ps
  · show upd w.H p o a ≠ _
    rw [upd_ne (na a z)]; exact k.aco a z φ
  · exact (k.sto i a m e1 e2).of (Sub.refl _ _) (upd_ne (na a (List.mem_of_getElem? e1))) fun z => z
theorem Go.upH (g : Go c w w1) (h : w.H p = none) : Go c w ⟨w1.al, w1.F, upd w1.H p o⟩ := by
  refine ⟨fun a u np na nt e => ?_, g.sub, g.new, g.newA⟩
  show upd w1.H p o a = some u
  rw [upd_ne (ne_of_none e h)]; exact g.keep a u np na nt e
theorem Ok.frz (k : Ok K c w s) (hp : p ≠ c.pn) (ha : p ∉ w.al) (hF : w.F p = none) (h : w.H p = some u) (nt : ∀ ps, u ≠ .tbl ps) : Ok K c ⟨w.al, upd w.F p u, w.H⟩ s := by
  have sb : Sub w.al w.F w.al (upd w.F p u) := ⟨List.prefix_refl _, Le.up hF⟩
  refine ⟨fun a v e => ?_, ?_, k.pna, k.nd, k.len, k.occ, k.pen.of (Le.up hF) rfl, k.tab, fun a ps => ?_, k.atb, k.aco, fun i a m e1 e2 => ?_⟩
  · have e : upd w.F p u a = some v := e
    by_cases e2 : a = p
    · subst e2; rw [upd_same] at e; cases e; exact h
    · rw [upd_ne e2] at e; exact k.fro a v e
  · show upd w.F p u c.pn = none
    rw [upd_ne hp.symm]; exact k.fpn
  · show upd w.F p u a ≠ _
    by_cases e2 : a = p
    · subst e2; rw [upd_same]; exact fun z => nt ps (Option.some.inj z)
    · rw [upd_ne e2]; exact k.ftb a ps
  · have ne : a ≠ p := fun z => ha (z ▸ List.mem_of_getElem? e1)
    exact (k.sto i a m e1 e2).of sb rfl fun z => by show upd w.F p u a = none; rw [upd_ne ne]; exact z
theorem Go.frz (g : Go c w w1) (hF : w1.F p = none) (h : w.fre p ∨ p ∈ w.al) : Go c w ⟨w1.al, upd w1.F p u, w1.H⟩ := by
  refine ⟨g.keep, ⟨g.sub.pre, g.sub.le.trans (Le.up hF)⟩, fun a v e z => ?_, g.newA⟩
  have e : upd w1.F p u a = some v := e
  by_cases e2 : a = p
  · subst e2; exact h
  · rw [upd_ne e2] at e; exact g.new a v e z
theorem Go.none {xs : List V} (g : Go c w w1) (hF : w.F p = none) (h : w.H p = some (.lst xs)) (ha : p ∉ w.al) : w1.F p = none := by
  cases q : w1.F p with
  | none => rfl
  | some v => exact ((g.new p v q hF).elim (fun z => by obtain ⟨ps, e⟩ := z _ h; cases e) ha).elim
theorem Go.out {xs : List V} (g : Go c w w1) (h : w.H p = some (.lst xs)) (ha : p ∉ w.al) : p ∉ w1.al := fun z => (g.newA p z).elim ha fun y => by obtain ⟨ps, e⟩ := y _ h; cases e
theorem notOwn {xs : List V} : (∀ ps, HO.lst xs ≠ .tbl ps) ∧ ∀ φ, HO.lst xs ≠ .ext φ := ⟨fun _ z => (by cases z), fun _ z => (by cases z)⟩
end
theorem Den.rawC {K : PySem.W.Frag} {c : Cg} {A B : Type} {m : W A} {f : A → W B} {w : Wd} {s : S} {P : S → B → Prop} {G : Xn → Wd → S → Prop} (h : (m.bind f).wp s P fun _ _ => False) :
    Den K c m w s (fun a _ t => (f a).wp t P fun _ _ => False) G := m.mono (fun t a z w' g' o' => z) (fun t x z => z.elim) h
def wipeD (δ : List Sl) : List Nat → List Sl
  | [] => δ
  | v :: vs => (wipeD δ vs).set v none
theorem Slo.wipe {K : PySem.W.Frag} {c : Cg} {w : Wd} {σ : L2.St} {δ : List Sl} (s : Slo K c w σ δ) : ∀ vs : List Nat, Slo K c w (L2.wipe σ vs) (wipeD δ vs)
  | [] => s
  | v :: vs => (Slo.wipe s vs).forget
def lcD (dg : D → List Sl → W (List Sl)) (ft : List Sl → W Bool) (fe : List Sl → W D) (δ : List Sl) : List D → Nat → W (List D)
  | [], _ => W.ret []
  | d :: ds, k => (dg d δ).bind fun ε => (ft ε).bind fun b => match b with
    | false => lcD dg ft fe δ ds k
    | true => (fe ε).bind fun y => W.need (k < sizeLine) ((lcD dg ft fe δ ds (k + 1)).bind fun ys => W.ret (y :: ys))
@[reducible] def dLc (fi : List Sl → W (List D)) (dg : D → List Sl → W (List Sl)) (ft : List Sl → W Bool) (fe : List Sl → W D) (vs : List Nat) : List Sl → W D := fun δ => (fi δ).bind fun ds => ((lcD dg ft fe (wipeD δ vs) ds 0).calm).bind fun l => W.ret (.lst l)
@[reducible] def dYes : List Sl → W Bool := fun _ => W.ret true
theorem lt_yes {K : PySem.W.Frag} : LT K (fun _ => tYes) dYes := fun c w s σ δ Q E o sl h => h.ret o
theorem le_lc {K : PySem.W.Frag} {wi : XK → TI} {fi : List Sl → W (List D)} {us vs : List Nat} {tg : TG} {dg : D → List Sl → W (List Sl)} {tt : XK → TT} {ft : List Sl → W Bool} {te : XK → TE} {fe : List Sl → W D}
    (hi : LI K wi fi) (hg : LG K us tg dg) (ht : LT K tt ft) (he : LE K te fe) (hu : ∀ j, j ∈ us → j ∈ vs) : LE K (fun E => tLc (wi E) tg (tt E0) (te E0) vs) (dLc fi dg ft fe vs) := fun c w s σ δ Q E o sl q => by
  refine hi c w s σ δ _ E o sl (q.bind.mono fun ds w1 s1 g1 o1 p J y D0 hD => ?_)
  have nD := o1.ne hD
  have o1' : Ok K c ⟨w1.al, w1.F, upd w1.H D0 (.lst [])⟩ s1 := o1.upH nD (o1.free hD) (o1.out hD) (fun u z => by rw [hD] at z; cases z)
  have k1' : Go c w1 ⟨w1.al, w1.F, upd w1.H D0 (.lst [])⟩ := (Go.refl c w1).upH hD
  let PQ : S → List D → Prop := fun t l => ∀ w', Go c w1 w' → Ok K c w' t → ∀ v, Rep K c w'.al w'.F v (.lst l) → Q v w'.H
  have p0 : (lcD dg ft fe (wipeD δ vs) ds 0).wp s1 PQ fun _ _ => False := p
  refine ⟨fun i m H2 => m = ds.length - i ∧ i ≤ ds.length ∧ ∃ w2 s2 acc ws, w2.H = H2 ∧ Go c w1 w2 ∧ Ok K c w2 s2 ∧ w2.F D0 = none ∧ D0 ∉ w2.al ∧ H2 D0 = some (.lst ws) ∧ RepL K c w2.al w2.F ws acc ∧
      (lcD dg ft fe (wipeD δ vs) (ds.drop i) acc.length).wp s2 (fun t ys => PQ t (acc ++ ys)) fun _ _ => False,
    ⟨ds.length, by simp, Nat.zero_le _, _, s1, [], [], rfl, k1', o1', o1.free hD, o1.out hD, upd_same, .nil, p0⟩, ?_⟩
  rintro i m2 H2 ⟨rfl, hi2, w2, s2, acc, ws, rfl, k2, o2, fD, aD, hD2, rw2, p2⟩
  by_cases hlt : i < ds.length
  · refine .inr ?_
    have ed : ds[i]? = some ds[i] := List.getElem?_eq_getElem hlt
    obtain ⟨go, yl⟩ := (y i w2 s2 k2.sub o2).1 _ ed
    refine ⟨go, fun H2 => i + 1 ≤ ds.length ∧ ∃ w2 s2 acc ws, w2.H = H2 ∧ Go c w1 w2 ∧ Ok K c w2 s2 ∧ w2.F D0 = none ∧ D0 ∉ w2.al ∧ H2 D0 = some (.lst ws) ∧ RepL K c w2.al w2.F ws acc ∧
      (lcD dg ft fe (wipeD δ vs) (ds.drop (i + 1)) acc.length).wp s2 (fun t ys => PQ t (acc ++ ys)) fun _ _ => False, ?_, ?_⟩
    · rintro H' ⟨h1, h2⟩
      exact ⟨ds.length - (i + 1), by omega, rfl, h1, h2⟩
    · intro x H3 yx
      obtain ⟨w3, rfl, k3, o3, r3⟩ := yl x H3 yx
      rw [List.drop_eq_getElem_cons hlt] at p2
      have k03 := k2.trans k3 o3
      refine hg c w3 s2 (L2.wipe σ vs) (wipeD δ vs) x _ _ (fun _ _ _ => False) o3 ((sl.go (g1.trans k03 o3)).wipe vs) r3 ((Den.rawC (K := K) (c := c) (w := w3) p2).mono fun ε w4 s4 k4 o4 p4 σ4 sl4 e4 l4 => ?_)
      refine ⟨Lx.wipe_eq (fun j hj => e4 j fun z => hj (hu j z)) l4, ?_⟩
      refine ht c w4 s4 σ4 ε _ E0 o4 sl4 ((Den.rawC (K := K) (c := c) (w := w4) p4).mono fun b w5 s5 k5 o5 p5 => ?_)
      have nt : ∀ ps, HO.lst ws ≠ .tbl ps := notOwn.1
      have f3 := k3.none fD hD2 aD
      have a3 := k3.out hD2 aD
      have h3 := k3.keep _ _ nD aD nt hD2
      have f4 := k4.none f3 h3 a3
      have a4 := k4.out h3 a3
      have h4 := k4.keep _ _ nD a3 nt h3
      have f5 := k5.none f4 h4 a4
      have a5 := k5.out h4 a4
      have h5 := k5.keep _ _ nD a4 nt h4
      have k05 := (k03.trans k4 o4).trans k5 o5
      have rw5 := ((rw2.up k3.sub).up k4.sub).up k5.sub
      cases b with
      | false => exact iteF ⟨hlt, w5, s5, acc, ws, rfl, k05, o5, f5, a5, h5, rw5, p5⟩
      | true =>
        refine iteT (he c w5 s5 σ4 ε _ E0 o5 (sl4.go k5) ((Den.rawC (K := K) (c := c) (w := w5) p5).mono fun z w6 s6 k6 o6 p6 v r6 => ?_))
        have f6 := k6.none f5 h5 a5
        have a6 := k6.out h5 a5
        have h6 := k6.keep _ _ nD a5 nt h5
        refine ⟨ws, h6, by rw [rw5.len]; exact p6.1, hlt, ⟨w6.al, w6.F, upd w6.H D0 (.lst (ws ++ [v]))⟩, s6, acc ++ [z], ws ++ [v], rfl, (k05.trans k6 o6).upH hD, o6.upH nD f6 a6 (fun u z => by rw [h6] at z; cases z; exact notOwn), f6, a6, upd_same, (rw5.up k6.sub).app (.cons r6 .nil), ?_⟩
        rw [List.length_append, List.length_singleton]
        refine (lcD dg ft fe (wipeD δ vs) (ds.drop (i + 1)) (acc.length + 1)).mono (fun t ys p7 => ?_) (fun _ _ z => z) p6.2
        rw [List.append_assoc]
        exact p7
  · have e : i = ds.length := by omega
    subst e
    rw [List.drop_length] at p2
    refine .inl ⟨(y ds.length w2 s2 k2.sub o2).2 (Nat.le_refl _), ?_⟩
    have p2' : PQ s2 (acc ++ []) := p2
    rw [List.append_nil] at p2'
    exact p2' ⟨w2.al, upd w2.F D0 (.lst ws), w2.H⟩ (k2.frz fD (.inl (Wd.fre_none hD))) (o2.frz nD aD fD hD2 notOwn.1) (.ref D0) (.lst upd_same (rw2.up ⟨List.prefix_refl _, Le.up fD⟩))
end Ly
namespace Ly
open PySem L2
open Lx (Le inS cutL rAddU op_addU rEqU rNeU op_eqU op_neU rInU op_inU op_notInU rSlU sl_U vdec_int vdec_str vdec_bl)
mutual
def toP : D → Option PyData
  | .non => some .none
  | .bl b => some (.bool b)
  | .int i => some (.int i)
  | .str x => some (.str x)
  | .lst xs => (toPs xs).map .list
  | .tup xs => (toPs xs).map .tuple
  | .obj _ _ => none
  | .pen => none
  | .sct _ => none
  | .dct _ => none
  | .mu _ => none
  | .err _ _ => none
  | .slo _ _ => none
  | .gt ds y z => (toPs ds).map fun ps => .tuple (ps ++ [.str y, .str z])
def toPs : List D → Option (List PyData)
  | [] => some []
  | d :: ds => (toP d).bind fun p => (toPs ds).map fun ps => p :: ps
end
section
variable {K : PySem.W.Frag} {c : Cg} {al : List Addr} {F H : Hp}
theorem dpAll_app : ∀ {vs us : List V} {ps qs : List PyData}, DpAll K H vs ps → DpAll K H us qs → DpAll K H (vs ++ us) (ps ++ qs)
  | _, _, _, _, .nil, s => s
  | _, _, _, _, .cons h r, s => .cons h (dpAll_app r s)
mutual
theorem Rep.dp (e : Le F H) : ∀ {v : V} {d : D} {p : PyData}, Rep K c al F v d → toP d = some p → Dp K H v p
  | _, _, _, .non, h => by unfold toP at h; cases h; exact .non
  | _, _, _, .bl b, h => by unfold toP at h; cases h; exact .bl b
  | _, _, _, .int i, h => by unfold toP at h; cases h; exact .int i
  | _, _, _, .str x, h => by unfold toP at h; cases h; exact .str x
  | _, _, _, .lst (ds := ds) q r, h => by
    unfold toP at h
    cases e1 : toPs ds with
    | none => rw [e1] at h; cases h
    | some ps => rw [e1] at h; cases h; exact .lst (SqL.of (e _ _ q)) (RepL.dp e r e1)
  | _, _, _, .tup (ds := ds) q r, h => by
    unfold toP at h
    cases e1 : toPs ds with
    | none => rw [e1] at h; cases h
    | some ps => rw [e1] at h; cases h; exact .tup (SqT.of (e _ _ q)) (RepL.dp e r e1)
  | _, _, _, .obj _ _ _ _, h => by unfold toP at h; cases h
  | _, _, _, .dct _ _, h => by unfold toP at h; cases h
  | _, _, _, .mu _, h => by unfold toP at h; cases h
  | _, _, _, .pen, h => by unfold toP at h; cases h
  | _, _, _, .sct _, h => by unfold toP at h; cases h
  | _, _, _, .err _ _ _, h => by unfold toP at h; cases h
  | _, _, _, .err0 _, h => by unfold toP at h; cases h
  | _, _, _, .slo _ _ _ _, h => by unfold toP at h; cases h
  | _, _, _, .gt (ds := ds) q r, h => by
    unfold toP at h
    cases e1 : toPs ds with
    | none => rw [e1] at h; cases h
    | some ps =>
      rw [e1] at h
      cases h
      obtain ⟨_, _, o, q, _⟩ := q
      exact .tup (.inl (.inr ⟨o, e _ _ q⟩)) (dpAll_app (RepL.dp e r e1) (.cons (.str _) (.cons (.str _) .nil)))
theorem RepL.dp (e : Le F H) : ∀ {vs : List V} {ds : List D} {ps : List PyData}, RepL K c al F vs ds → toPs ds = some ps → DpAll K H vs ps
  | _, _, _, .nil, h => by unfold toPs at h; cases h; exact .nil
  | _, _, _, .cons (d := d) (ds := ds) a r, h => by
    unfold toPs at h
    cases e1 : toP d with
    | none => rw [e1] at h; cases h
    | some p =>
      rw [e1] at h
      cases e2 : toPs ds with
      | none => rw [e2] at h; cases h
      | some ps => rw [e2] at h; cases h; exact .cons (Rep.dp e a e1) (RepL.dp e r e2)
end
end
@[reducible] def addD : D → D → W D
  | .int i, .int j => W.ret (.int (i + j))
  | .str x, .str y => W.need (x.length + y.length ≤ sizeLine) (W.ret (.str (x ++ y)))
  | .lst xs, .lst ys => W.need (xs.length + ys.length ≤ sizeLine) (W.ret (.lst (xs ++ ys)))
  | _, _ => W.stuck
@[reducible] def subD : D → D → W D
  | .int i, .int j => W.ret (.int (i - j))
  | _, _ => W.stuck
@[reducible] def negD : D → W D
  | .int i => W.ret (.int (-i))
  | _ => W.stuck
section
variable {X : Cx} {K : PySem.W.Frag}
theorem lo_add : LO2 K rAddU addD := fun c w s v u x y Q E o rx ry h => by
  cases rx with
  | int i => cases ry with
    | int j => exact .inl ⟨i, j, rfl, rfl, h _ (Go.refl ..) o _ (.int _)⟩
    | _ => exact h.elim
  | str i => cases ry with
    | str j => exact .inr (.inl ⟨i, j, rfl, rfl, h.1, h.2 _ (Go.refl ..) o _ (.str _)⟩)
    | _ => exact h.elim
  | lst a r => cases ry with
    | lst b q =>
      refine .inr (.inr ⟨_, _, _, _, rfl, rfl, o.fro _ _ a, o.fro _ _ b, by rw [r.len, q.len]; exact h.1, fun p hp => ?_⟩)
      obtain ⟨o2, g2⟩ := o.lay (o := .lst (_ ++ _)) hp notOwn.1
      exact h.2 _ g2 o2 (.ref p) (.lst upd_same ((r.up g2.sub).app (q.up g2.sub)))
    | _ => exact h.elim
  | _ => exact h.elim
theorem lo_sub : LO2 K (rI0 fun i j => .int (i - j)) subD := fun c w s v u x y Q E o rx ry h => by
  cases rx with
  | int i => cases ry with
    | int j => exact ⟨i, j, rfl, rfl, h _ (Go.refl ..) o _ (.int _)⟩
    | _ => exact h.elim
  | _ => exact h.elim
@[reducible] def eqD : D → D → W D
  | .int i, .int j => W.ret (.bl (decide (i = j)))
  | .str x, .str y => W.ret (.bl (decide (x = y)))
  | .bl a, .bl b => W.ret (.bl (decide (a = b)))
  | x, y => match toP x, toP y with
    | some a, some b => W.need (SeqAt.shaped a = true ∧ SeqAt.shaped b = true) (W.ret (.bl (PyData.eqv a b)))
    | _, _ => W.stuck
@[reducible] def neD : D → D → W D
  | .int i, .int j => W.ret (.bl (!decide (i = j)))
  | .str x, .str y => W.ret (.bl (!decide (x = y)))
  | .bl a, .bl b => W.ret (.bl (!decide (a = b)))
  | x, y => match toP x, toP y with
    | some a, some b => W.need (SeqAt.shaped a = true ∧ SeqAt.shaped b = true) (W.ret (.bl (!PyData.eqv a b)))
    | _, _ => W.stuck
theorem eq_gen {c : Cg} {w : Wd} {s : S} {v u : V} {x y : D} {Q : VK} {E : Xn → Wd → S → Prop} (o : Ok K c w s) (rx : Rep K c w.al w.F v x) (ry : Rep K c w.al w.F u y)
    (h : Den K c (match toP x, toP y with | some a, some b => W.need (SeqAt.shaped a = true ∧ SeqAt.shaped b = true) (W.ret (D.bl (PyData.eqv a b))) | _, _ => (W.stuck : W D)) w s (qV K c Q) E) : rEqU K v u w.H Q := by
  cases ex : toP x with
  | none => rw [ex] at h; exact h.elim
  | some a => cases ey : toP y with
    | none => rw [ex, ey] at h; exact h.elim
    | some b =>
      rw [ex, ey] at h
      exact .inr ⟨a, b, rx.dp o.fro ex, ry.dp o.fro ey, h.1.1, h.1.2, h.2 _ (Go.refl ..) o _ (.bl _)⟩
theorem ne_gen {c : Cg} {w : Wd} {s : S} {v u : V} {x y : D} {Q : VK} {E : Xn → Wd → S → Prop} (o : Ok K c w s) (rx : Rep K c w.al w.F v x) (ry : Rep K c w.al w.F u y)
    (h : Den K c (match toP x, toP y with | some a, some b => W.need (SeqAt.shaped a = true ∧ SeqAt.shaped b = true) (W.ret (D.bl (!PyData.eqv a b))) | _, _ => (W.stuck : W D)) w s (qV K c Q) E) : rNeU K v u w.H Q := by
  cases ex : toP x with
  | none => rw [ex] at h; exact h.elim
  | some a => cases ey : toP y with
    | none => rw [ex, ey] at h; exact h.elim
    | some b =>
      rw [ex, ey] at h
      exact .inr ⟨a, b, rx.dp o.fro ex, ry.dp o.fro ey, h.1.1, h.1.2, h.2 _ (Go.refl ..) o _ (.bl _)⟩
theorem lo_eq : LO2 K (rEqU K) eqD := fun c w s v u x y Q E o rx ry h => by
  have r2 := ry
  cases rx with
  | int i => cases ry with
    | int j => exact .inl ⟨rfl, by rw [vdec_int]; exact h _ (Go.refl ..) o _ (.bl _)⟩
    | _ => exact eq_gen o (.int i) r2 h
  | str i => cases ry with
    | str j => exact .inl ⟨rfl, by rw [vdec_str]; exact h _ (Go.refl ..) o _ (.bl _)⟩
    | _ => exact eq_gen o (.str i) r2 h
  | bl i => cases ry with
    | bl j => exact .inl ⟨rfl, by rw [vdec_bl]; exact h _ (Go.refl ..) o _ (.bl _)⟩
    | _ => exact eq_gen o (.bl i) r2 h
  | non => exact eq_gen o .non ry (by cases ry <;> exact h)
  | lst a r => exact eq_gen o (.lst a r) ry (by cases ry <;> exact h)
  | tup a r => exact eq_gen o (.tup a r) ry (by cases ry <;> exact h)
  | obj a u z r => exact eq_gen o (.obj a u z r) ry (by cases ry <;> exact h)
  | dct a r => exact eq_gen o (.dct a r) ry (by cases ry <;> exact h)
  | mu a => exact eq_gen o (.mu a) ry (by cases ry <;> exact h)
  | pen => exact eq_gen o .pen ry (by cases ry <;> exact h)
  | sct a => exact eq_gen o (.sct a) ry (by cases ry <;> exact h)
  | err a k r => exact eq_gen o (.err a k r) ry (by cases ry <;> exact h)
  | err0 a => exact eq_gen o (.err0 a) ry (by cases ry <;> exact h)
  | slo a b q r => exact eq_gen o (.slo a b q r) ry (by cases ry <;> exact h)
  | gt a b => exact eq_gen o (.gt a b) ry (by cases ry <;> exact h)
theorem lo_ne : LO2 K (rNeU K) neD := fun c w s v u x y Q E o rx ry h => by
  have r2 := ry
  cases rx with
  | int i => cases ry with
    | int j => exact .inl ⟨rfl, by rw [vdec_int]; exact h _ (Go.refl ..) o _ (.bl _)⟩
    | _ => exact ne_gen o (.int i) r2 h
  | str i => cases ry with
    | str j => exact .inl ⟨rfl, by rw [vdec_str]; exact h _ (Go.refl ..) o _ (.bl _)⟩
    | _ => exact ne_gen o (.str i) r2 h
  | bl i => cases ry with
    | bl j => exact .inl ⟨rfl, by rw [vdec_bl]; exact h _ (Go.refl ..) o _ (.bl _)⟩
    | _ => exact ne_gen o (.bl i) r2 h
  | non => exact ne_gen o .non ry (by cases ry <;> exact h)
  | lst a r => exact ne_gen o (.lst a r) ry (by cases ry <;> exact h)
  | tup a r => exact ne_gen o (.tup a r) ry (by cases ry <;> exact h)
  | obj a u z r => exact ne_gen o (.obj a u z r) ry (by cases ry <;> exact h)
  | dct a r => exact ne_gen o (.dct a r) ry (by cases ry <;> exact h)
  | mu a => exact ne_gen o (.mu a) ry (by cases ry <;> exact h)
  | pen => exact ne_gen o .pen ry (by cases ry <;> exact h)
  | sct a => exact ne_gen o (.sct a) ry (by cases ry <;> exact h)
  | err a k r => exact ne_gen o (.err a k r) ry (by cases ry <;> exact h)
  | err0 a => exact ne_gen o (.err0 a) ry (by cases ry <;> exact h)
  | slo a b q r => exact ne_gen o (.slo a b q r) ry (by cases ry <;> exact h)
  | gt a b => exact ne_gen o (.gt a b) ry (by cases ry <;> exact h)
@[reducible] def cmpD (c : Int → Int → Bool) : D → D → W D
  | .int i, .int j => W.ret (.bl (c i j))
  | _, _ => W.stuck
@[reducible] def ltD : D → D → W D := cmpD fun i j => decide (i < j)
@[reducible] def leD : D → D → W D := cmpD fun i j => decide (i ≤ j)
@[reducible] def gtD : D → D → W D := cmpD fun i j => decide (j < i)
@[reducible] def geD : D → D → W D := cmpD fun i j => decide (j ≤ i)
theorem lo_cmp {c : Int → Int → Bool} : LO2 K (rI0 fun i j => .bl (c i j)) (cmpD c) := fun c w s v u x y Q E o rx ry h => by
  cases rx with
  | int i => cases ry with
    | int j => exact ⟨i, j, rfl, rfl, h _ (Go.refl ..) o _ (.bl _)⟩
    | _ => exact h.elim
  | _ => exact h.elim
@[reducible] def isND : D → D → W D
  | .non, .non => W.ret (.bl true)
  | _, .non => W.ret (.bl false)
  | _, _ => W.stuck
def flatD : D → Bool
  | .non => true | .bl _ => true | .int _ => true | .str _ => true
  | _ => false
def eqF : D → D → Bool
  | .non, .non => true
  | .bl a, .bl b => a == b
  | .bl a, .int b => (if a then 1 else 0) == b
  | .int a, .bl b => a == (if b then 1 else 0)
  | .int a, .int b => a == b
  | .str a, .str b => a == b
  | _, _ => false
def inF (x : D) (ys : List D) : Bool := ys.any fun y => eqF y x
@[reducible] def inD (neg : Bool) : D → D → W D
  | .str x, .str y => W.ret (.bl (if neg then !inS x y else inS x y))
  | x, .lst ys => W.need (flatD x = true ∧ ys.all flatD = true) (W.ret (.bl (if neg then !inF x ys else inF x ys)))
  | x, .tup ys => W.need (flatD x = true ∧ ys.all flatD = true) (W.ret (.bl (if neg then !inF x ys else inF x ys)))
  | _, _ => W.stuck
theorem flat_of {c : Cg} {al : List Addr} {F : Hp} {v : V} {d : D} (r : Rep K c al F v d) (h : flatD d = true) : flatV v = true := by
  cases r <;> first | rfl | cases h
theorem flats_of {c : Cg} {al : List Addr} {F : Hp} : ∀ {vs : List V} {ds : List D}, RepL K c al F vs ds → ds.all flatD = true → vs.all flatV = true
  | _, _, .nil, _ => rfl
  | _, _, .cons a r, h => by
    rw [List.all_cons, Bool.and_eq_true] at h ⊢
    exact ⟨flat_of a h.1, flats_of r h.2⟩
theorem eqF_of {c : Cg} {al : List Addr} {F : Hp} {v w : V} {x y : D} (rx : Rep K c al F v x) (ry : Rep K c al F w y) (hx : flatD x = true) (hy : flatD y = true) : eqV v w = eqF x y := by
  cases rx <;> first | (cases ry <;> first | rfl | cases hy) | cases hx
theorem inF_of {c : Cg} {al : List Addr} {F : Hp} {v : V} {x : D} (rx : Rep K c al F v x) (hx : flatD x = true) : ∀ {vs : List V} {ds : List D}, RepL K c al F vs ds → ds.all flatD = true → inV v vs = inF x ds
  | _, _, .nil, _ => rfl
  | _, _, .cons a r, h => by
    rw [List.all_cons, Bool.and_eq_true] at h
    unfold inV inF
    rw [List.any_cons, List.any_cons, eqF_of a rx h.1 hx]
    exact congrArg _ (inF_of rx hx r h.2)
theorem lo_in {neg : Bool} : LO2 K (rInU K neg) (inD neg) := fun c w s v u x y Q E o rx ry h => by
  cases ry with
  | str j => cases rx with
    | str i => exact .inl ⟨i, j, rfl, rfl, h _ (Go.refl ..) o _ (.bl _)⟩
    | _ => exact h.elim
  | @lst _ _ ys b q =>
    have h' : Den K c (W.need (flatD x = true ∧ ys.all flatD = true) (W.ret (D.bl (if neg then !inF x ys else inF x ys)))) w s (qV K c Q) E := by cases rx <;> exact h
    exact .inr ⟨_, _, rfl, .inl (SqL.of (o.fro _ _ b)), flat_of rx h'.1.1, flats_of q h'.1.2, by rw [inF_of rx h'.1.1 q h'.1.2]; exact h'.2 _ (Go.refl ..) o _ (.bl _)⟩
  | @tup _ _ ys b q =>
    have h' : Den K c (W.need (flatD x = true ∧ ys.all flatD = true) (W.ret (D.bl (if neg then !inF x ys else inF x ys)))) w s (qV K c Q) E := by cases rx <;> exact h
    exact .inr ⟨_, _, rfl, .inr (SqT.of (o.fro _ _ b)), flat_of rx h'.1.1, flats_of q h'.1.2, by rw [inF_of rx h'.1.1 q h'.1.2]; exact h'.2 _ (Go.refl ..) o _ (.bl _)⟩
  | _ => cases rx <;> exact h.elim
@[reducible] def ixD : D → D → W D
  | .lst xs, .int i => match atI xs i with | some d => W.ret d | none => W.stuck
  | .tup xs, .int i => match atI xs i with | some d => W.ret d | none => W.stuck
  | .str z, .int i => W.need (z.length ≤ sizeLine) (match atI z.cps.toList i with | some c => W.ret (.str ⟨#[c]⟩) | none => W.stuck)
  | .gt xs y z, .int i => match atI (xs ++ [D.str y, D.str z]) i with | some d => W.ret d | none => W.stuck
  | _, _ => W.stuck
theorem RepL.atI {c : Cg} {al : List Addr} {F : Hp} {vs : List V} {ds : List D} {i : Int} {d : D} (r : RepL K c al F vs ds) (h : L2.atI ds i = some d) : ∃ v, L2.atI vs i = some v ∧ Rep K c al F v d := by
  unfold L2.atI at h ⊢
  rw [r.len]
  cases e : ixN ds.length i with
  | none => rw [e] at h; cases h
  | some j => rw [e] at h; exact r.get h
theorem RepL.gt2 {c : Cg} {al : List Addr} {F : Hp} {vs : List V} {ds : List D} (r : RepL K c al F vs ds) (y z : Str) : RepL K c al F (vs ++ [V.str y, V.str z]) (ds ++ [D.str y, D.str z]) := r.app (.cons (.str y) (.cons (.str z) .nil))
theorem GtAt.sqT {F H : Hp} {a : Addr} {vs : List V} {y z : Str} {t u : Tok} (h : GtAt F a vs y z t u) (e : Le F H) : SqT K H a (vs ++ [V.str y, V.str z]) := by
  obtain ⟨_, _, o, h, _⟩ := h
  exact .inl (.inr ⟨o, e _ _ h⟩)
theorem lo_ix : LO2 K (rIx K) ixD := fun c w s v u x y Q E o rx ry h => by
  cases ry with
  | int i => cases rx with
    | lst a r =>
      simp only [ixD] at h
      split at h
      · rename_i d e
        obtain ⟨z, hu, ru⟩ := r.atI e
        exact .inl ⟨_, _, i, z, rfl, rfl, SqL.of (o.fro _ _ a), hu, h _ (Go.refl ..) o _ ru⟩
      · exact h.elim
    | tup a r =>
      simp only [ixD] at h
      split at h
      · rename_i d e
        obtain ⟨z, hu, ru⟩ := r.atI e
        exact .inr (.inl ⟨_, _, i, z, rfl, rfl, SqT.of (o.fro _ _ a), hu, h _ (Go.refl ..) o _ ru⟩)
      · exact h.elim
    | str z =>
      obtain ⟨h1, h⟩ := h
      split at h
      · rename_i c e
        exact .inr (.inr ⟨z, i, c, rfl, rfl, h1, e, h _ (Go.refl ..) o _ (.str _)⟩)
      · exact h.elim
    | gt a r =>
      simp only [ixD] at h
      split at h
      · rename_i d e
        obtain ⟨z, hu, ru⟩ := (r.gt2 _ _).atI e
        exact .inr (.inl ⟨_, _, i, z, rfl, rfl, a.sqT o.fro, hu, h _ (Go.refl ..) o _ ru⟩)
      · exact h.elim
    | _ => exact h.elim
  | _ => cases rx <;> exact h.elim
theorem RepL.cut {c : Cg} {al : List Addr} {F : Hp} {vs : List V} {ds : List D} (r : RepL K c al F vs ds) (lo hi : Option Int) : RepL K c al F (cutV vs lo hi) (cutL ds lo hi) := by
  unfold cutV cutL
  rw [r.len]
  exact (r.drop _).take _
@[reducible] def slD : D → Option Int → Option Int → W D
  | .str z, lo, hi => W.need (z.length ≤ sizeLine) (W.ret (.str (cutS z lo hi)))
  | .lst xs, lo, hi => W.ret (.lst (cutL xs lo hi))
  | .tup xs, lo, hi => W.need (¬ (HT.sIx xs.length 0 lo = 0 ∧ HT.sIx xs.length xs.length hi = xs.length)) (W.ret (.tup (cutL xs lo hi)))
  | .gt ds y z, lo, hi => W.need (¬ (HT.sIx (ds ++ [D.str y, D.str z]).length 0 lo = 0 ∧ HT.sIx (ds ++ [D.str y, D.str z]).length (ds ++ [D.str y, D.str z]).length hi = (ds ++ [D.str y, D.str z]).length)) (W.ret (.tup (cutL (ds ++ [D.str y, D.str z]) lo hi)))
  | _, _, _ => W.stuck
def LP (K : PySem.W.Frag) (to : XK → TO) (f : List Sl → W (Option Int)) : Prop := ∀ (c : Cg) (w : Wd) (s : S) (σ : L2.St) (δ : List Sl) (Q : Option Int → Hp → Prop) (E : XK), Ok K c w s → Slo K c w σ δ →
  Den K c (f δ) w s (fun b w' _ => Q b w'.H) (xE K c E) → to E σ w.H Q
@[reducible] def dNoPart : List Sl → W (Option Int) := fun _ => W.ret none
@[reducible] def dPart (f : List Sl → W D) : List Sl → W (Option Int) := fun δ => (f δ).bind fun d => match d with | .int i => W.ret (some i) | _ => W.stuck
theorem lp_none : LP K (fun _ => tNoPart) dNoPart := fun c w s σ δ Q E o sl h => h.ret o
theorem lp_some {te : XK → TE} {f : List Sl → W D} (he : LE K te f) : LP K (fun E => tPart (te E)) (dPart f) := fun c w s σ δ Q E o sl h =>
  he c w s σ δ _ E o sl (h.bind.mono fun x w1 s1 g1 o1 q v r1 => by
    cases r1 with
    | int i => exact ⟨i, rfl, q.ret o1⟩
    | _ => exact q.elim)
@[reducible] def dSl (f : List Sl → W D) (a b : List Sl → W (Option Int)) : List Sl → W D := fun δ => (f δ).bind fun x => (a δ).bind fun lo => (b δ).bind fun hi => slD x lo hi
theorem le_sl {te : XK → TE} {ta tb : XK → TO} {f : List Sl → W D} {a b : List Sl → W (Option Int)} (he : LE K te f) (ha : LP K ta a) (hb : LP K tb b) : LE K (fun E => tSl (rSlU K) (te E) (ta E) (tb E)) (dSl f a b) := fun c w s σ δ Q E o sl h =>
  he c w s σ δ _ E o sl (h.bind.mono fun x w1 s1 g1 o1 q v r1 => ha c w1 s1 σ δ _ E o1 (sl.go g1) (q.bind.mono fun lo w2 s2 g2 o2 q2 => hb c w2 s2 σ δ _ E o2 ((sl.go g1).go g2) (q2.bind.mono fun hi w3 s3 g3 o3 q3 => by
    have r3 := (r1.up g2.sub).up g3.sub
    cases r3 with
    | str z => exact .inl ⟨z, rfl, q3.1, q3.2 _ (Go.refl ..) o3 _ (.str _)⟩
    | lst e r =>
      refine .inr (.inl ⟨_, _, rfl, SqL.of (o3.fro _ _ e), fun p hp => ?_⟩)
      obtain ⟨o4, g4⟩ := o3.lay (o := .lst (cutV _ lo hi)) hp notOwn.1
      exact q3 _ g4 o4 (.ref p) (.lst upd_same ((r.cut lo hi).up g4.sub))
    | tup e r =>
      refine .inr (.inr ⟨_, _, rfl, SqT.of (o3.fro _ _ e), by rw [r.len]; exact q3.1, fun p hp => ?_⟩)
      obtain ⟨o4, g4⟩ := o3.lay (o := .tup (cutV _ lo hi)) hp (fun _ z => by cases z)
      exact q3.2 _ g4 o4 (.ref p) (.tup upd_same ((r.cut lo hi).up g4.sub))
    | @gt _ _ _ y z _ _ e r =>
      have r := r.gt2 y z
      refine .inr (.inr ⟨_, _, rfl, e.sqT o3.fro, by rw [r.len]; exact q3.1, fun p hp => ?_⟩)
      obtain ⟨o4, g4⟩ := o3.lay (o := .tup (cutV _ lo hi)) hp (fun _ z => by cases z)
      exact q3.2 _ g4 o4 (.ref p) (.tup upd_same ((r.cut lo hi).up g4.sub))
    | _ => exact q3.elim)))
@[reducible] def lenD : List D → W D
  | [.str z] => W.need (z.length ≤ sizeLine) (W.ret (.int z.length))
  | [.lst xs] => W.ret (.int xs.length)
  | [.tup xs] => W.ret (.int xs.length)
  | [.sct xs] => W.ret (.int xs.length)
  | _ => W.stuck
theorem lo_len : LOn K (fun xs H Q => ∃ x n, xs = [x] ∧ LenV K x H n ∧ Q (.int n) H) lenD := fun c w s vs xs Q E o r h => by
  unfold lenD at h
  split at h
  · obtain ⟨v, rfl, rv⟩ := r.one
    cases rv
    exact ⟨_, _, rfl, ⟨h.1, rfl⟩, h.2 _ (Go.refl ..) o _ (.int _)⟩
  · obtain ⟨v, rfl, rv⟩ := r.one
    cases rv with
    | lst a q => exact ⟨_, _, rfl, .inl ⟨_, SqL.of (o.fro _ _ a), q.len.symm⟩, h _ (Go.refl ..) o _ (.int _)⟩
  · obtain ⟨v, rfl, rv⟩ := r.one
    cases rv with
    | tup a q => exact ⟨_, _, rfl, .inr ⟨_, SqT.of (o.fro _ _ a), q.len.symm⟩, h _ (Go.refl ..) o _ (.int _)⟩
  · obtain ⟨v, rfl, rv⟩ := r.one
    cases rv with
    | sct a => exact ⟨_, _, rfl, .inl ⟨_, o.fro.sqL a, by simp⟩, h _ (Go.refl ..) o _ (.int _)⟩
  · exact h.elim
@[reducible] def listD : List D → W D
  | [.lst xs] => W.ret (.lst xs)
  | [.tup xs] => W.ret (.lst xs)
  | _ => W.stuck
theorem lo_list : LOn K (fun xs H Q => ∃ p ys, xs = [.ref p] ∧ (SqL K H p ys ∨ SqT K H p ys) ∧ ∀ l, H l = none → Q (.ref l) (upd H l (.lst ys))) listD := fun c w s vs xs Q E o r h => by
  unfold listD at h
  split at h
  · obtain ⟨v, rfl, rv⟩ := r.one
    cases rv with
    | lst a q =>
      refine ⟨_, _, rfl, .inl (SqL.of (o.fro _ _ a)), fun l hl => ?_⟩
      obtain ⟨o4, g4⟩ := o.lay (o := .lst _) hl notOwn.1
      exact h _ g4 o4 (.ref l) (.lst upd_same (q.up g4.sub))
  · obtain ⟨v, rfl, rv⟩ := r.one
    cases rv with
    | tup a q =>
      refine ⟨_, _, rfl, .inr (SqT.of (o.fro _ _ a)), fun l hl => ?_⟩
      obtain ⟨o4, g4⟩ := o.lay (o := .lst _) hl notOwn.1
      exact h _ g4 o4 (.ref l) (.lst upd_same (q.up g4.sub))
  · exact h.elim
def bools : List D → Option (List Bool)
  | [] => some []
  | .bl b :: r => (bools r).map (b :: ·)
  | _ => none
theorem bools_rep {c : Cg} {al : List Addr} {F : Hp} : ∀ {vs : List V} {ds : List D} {bs : List Bool}, RepL K c al F vs ds → bools ds = some bs → vs = bs.map V.bl
  | _, _, _, .nil, h => by cases h; rfl
  | _, _, _, .cons (d := d) (ds := ds) a r, h => by
    cases a with
    | bl b =>
      unfold bools at h
      cases e : bools ds with
      | none => rw [e] at h; cases h
      | some bs => rw [e] at h; cases h; rw [bools_rep r e]; rfl
    | _ => unfold bools at h; cases h
@[reducible] def allD : List D → W D
  | [.lst xs] => match bools xs with | some bs => W.ret (.bl (bs.all id)) | none => W.stuck
  | _ => W.stuck
theorem lo_all : LOn K (rAll K) allD := fun c w s vs xs Q E o r h => by
  unfold allD at h
  split at h
  · obtain ⟨v, rfl, rv⟩ := r.one
    split at h
    · rename_i bs e
      cases rv with
      | lst a q => exact ⟨_, bs, rfl, by rw [← bools_rep q e]; exact SqL.of (o.fro _ _ a), h _ (Go.refl ..) o _ (.bl _)⟩
    · exact h.elim
  · exact h.elim
def LOm (K : PySem.W.Frag) (r : V → List V → Hp → VK → Prop) (g : Str → List D → W D) : Prop := ∀ (c : Cg) (w : Wd) (s : S) (z : Str) (vs : List V) (xs : List D) (Q : VK) (E : Xn → Wd → S → Prop), Ok K c w s → RepL K c w.al w.F vs xs → Den K c (g z xs) w s (qV K c Q) E → r (.str z) vs w.H Q
@[reducible] def dMs (g : Str → List D → W D) (fo : List Sl → W D) (f : List Sl → W (List D)) : List Sl → W D := fun δ => (fo δ).bind fun x => match x with | .str z => (f δ).bind (g z) | _ => W.stuck
theorem le_ms {r : V → List V → Hp → VK → Prop} {g : Str → List D → W D} {to : XK → TE} {t : XK → TA} {fo : List Sl → W D} {f : List Sl → W (List D)} (hr : LOm K r g) (ho : LE K to fo) (ha : LA K t f) : LE K (fun E => tBM K "str" r (to E) (t E)) (dMs g fo f) := fun c w s σ δ Q E o sl h =>
  ho c w s σ δ _ E o sl (h.bind.mono fun x w1 s1 g1 o1 q v r1 => by
    cases r1 with
    | str z => exact ⟨rfl, ha c w1 s1 σ δ _ E o1 (sl.go g1) ((show Den K c ((f δ).bind (g z)) w1 s1 _ _ from q).bind.mono fun ys w2 s2 g2 o2 q2 ws r2 => hr c w2 s2 z ws ys Q _ o2 r2 q2)⟩
    | _ => exact q.elim)
def txts : List D → Option (List Str)
  | [] => some []
  | .str b :: r => (txts r).map (b :: ·)
  | _ => none
theorem txts_rep {c : Cg} {al : List Addr} {F : Hp} : ∀ {vs : List V} {ds : List D} {bs : List Str}, RepL K c al F vs ds → txts ds = some bs → vs = bs.map V.str
  | _, _, _, .nil, h => by cases h; rfl
  | _, _, _, .cons (d := d) (ds := ds) a r, h => by
    cases a with
    | str b =>
      unfold txts at h
      cases e : txts ds with
      | none => rw [e] at h; cases h
      | some bs => rw [e] at h; cases h; rw [txts_rep r e]; rfl
    | _ => unfold txts at h; cases h
@[reducible] def joinD : Str → List D → W D := fun z xs => match xs with
  | [.lst ds] => match txts ds with
    | some ys => W.need ((ys.map (·.length)).sum + ys.length * z.length ≤ 16777216) (W.ret (.str (Txt.join z ys)))
    | none => W.stuck
  | _ => W.stuck
theorem lo_join : LOm K (fun x xs H Q => ∃ a p, ∃ ys : List Str, x = .str a ∧ xs = [.ref p] ∧ (SqL K H p (ys.map V.str) ∨ SqT K H p (ys.map V.str)) ∧ (ys.map (·.length)).sum + ys.length * a.length ≤ 16777216 ∧ Q (.str (Txt.join a ys)) H) joinD := fun c w s z vs xs Q E o r h => by
  unfold joinD at h
  split at h
  · obtain ⟨v, rfl, rv⟩ := r.one
    split at h
    · rename_i bs e
      cases rv with
      | lst a q => exact ⟨z, _, bs, rfl, rfl, .inl (by rw [← txts_rep q e]; exact SqL.of (o.fro _ _ a)), h.1, h.2 _ (Go.refl ..) o _ (.str _)⟩
    · exact h.elim
  · exact h.elim
end
end Ly
namespace Ly
open PySem L2 PyProof.Rows
open Lx (Le)
def Pr (K : PySem.W.Frag) (m : Nat) (g : List D → W D) : Sp := fun vs H Q E => ∃ c w s ds, w.H = H ∧ Ok K c w s ∧ RepL K c w.al w.F vs ds ∧ ds.length = m ∧ Den K c (g ds) w s (qV K c Q) (xE K c E)
theorem Pr.len {K : PySem.W.Frag} {m : Nat} {g : List D → W D} (vs : List V) (H : Hp) (Q : VK) (E : XK) (h : Pr K m g vs H Q E) : vs.length = m := by
  obtain ⟨_, _, _, _, _, _, r, e, _⟩ := h
  rw [r.len, e]
@[reducible] def dCall (m : Nat) (g : List D → W D) (f : List Sl → W (List D)) : List Sl → W D := fun δ => (f δ).bind fun ds => W.need (ds.length = m) (g ds)
theorem le_call {K : PySem.W.Frag} {m : Nat} {g : List D → W D} {t : XK → TA} {f : List Sl → W (List D)} (ha : LA K t f) : LE K (fun E => tCall (Pr K m g) [] E (t E)) (dCall m g f) := fun c w s σ δ Q E o sl h =>
  ha c w s σ δ _ E o sl (h.bind.mono fun ds w1 s1 g1 o1 p vs r1 => ⟨c, w1, s1, ds, rfl, o1, by rw [List.append_nil]; exact r1, p.1, p.2⟩)
def startD (N : List Str) (ds : List D) : List Sl := ds.map some ++ List.replicate (N.length - ds.length) none
@[reducible] def dBody (N : List Str) (b : List Sl → W Out) : List D → W D := fun ds => (b (startD N ds)).bind fun o => match o with
  | .nx _ => W.ret .non
  | .rt d => W.ret d
  | _ => W.stuck
theorem Slo.start {K : PySem.W.Frag} {c : Cg} {w : Wd} {N : List Str} {vs : List V} {ds : List D} (r : RepL K c w.al w.F vs ds) : Slo K c w (L2.start N vs) (startD N ds) := by
  refine ⟨?_, fun j d e => ?_⟩
  · unfold L2.start startD
    rw [List.length_append, List.length_append, List.length_map, List.length_map, List.length_replicate, List.length_replicate, r.len]
  · unfold startD at e
    by_cases hj : j < (ds.map some).length
    · rw [List.getElem?_append_left hj, List.getElem?_map] at e
      cases q : ds[j]? with
      | none => rw [q] at e; cases e
      | some d' =>
        rw [q] at e; cases e
        obtain ⟨v, hv, rv⟩ := r.get q
        refine ⟨v, ?_, rv⟩
        unfold L2.start
        have hl : j < vs.length := (List.getElem?_eq_some_iff.mp hv).1
        rw [List.getElem?_append_left (by simpa using hl), List.getElem?_map, hv]
        rfl
    · rw [List.getElem?_append_right (by omega), List.getElem?_replicate] at e
      split at e <;> cases e
abbrev Tk (X : Cx) (E : XK) : Prop := Takes X (fun cls d _ H => E cls d H)
theorem px {X : Cx} {E : XK} (tk : Tk X E) : Passes (L2.CX X.prog X.w) X E := fun pins σ H s e s' I h => passes_call tk (fun _ _ _ _ z => z) pins σ H s e s' I h
theorem px0 {X : Cx} : Passes (L2.CX X.prog X.w) X E0 := fun pins σ H s e s' I h => by
  obtain ⟨_, _, _, _, _, _, _, _, _, _, _, _, z⟩ := h
  exact z.elim
section
variable {P : Program} {w : World} {K : PySem.W.Frag} {mg : Str → Option Value} {base : Heap} {x qual : Str} {params : Arguments} {body : List Stmt} {scope : Scope} {dvs : List V} {kws : List (Str × V)} {f : Addr} {fd : FuncData}
theorem body_ly {N : List Str} {t : XK → TS} {b : List Sl → W Out} (hl : LS K t b) {m : Nat} {vs : List V} {H : Hp} {Q : VK} {E : XK} (h : Pr K m (dBody N b) vs H Q E) : t E { nx := fun _ H' => Q .non H', rt := Q } (L2.start N vs) H := by
  obtain ⟨c, w, s, ds, rfl, o, r, e, q⟩ := h
  refine hl c w s (L2.start N vs) (startD N ds) _ E o (.start r) (q.bind.mono fun u w1 s1 g1 o1 p => ?_)
  cases u with
  | nx δ => exact fun σ _ => p.ret o1 .non .non
  | rt d => exact fun v r1 => p.ret o1 v r1
  | bk δ => exact p.elim
  | ct δ => exact p.elim
theorem tk_of {N : List Str} {cdv : Value} {A : Around} {outer : List Env} {s : Shared} {H : Hp} {E : XK} : Tk (cxOf (L2.CX P w) P w K mg base N qual scope f cdv A outer s H E) E := takes_of rfl rfl rfl rfl
theorem fn_ly {N ps : List Str} {k : Nat} {t : XK → TS} {b : List Sl → W Out} (F : FunD K x qual params body scope dvs kws f fd) (S : FnScope N ps scope) (hl : LS K t b)
    (hb : ∀ (cdv : Value) (A : Around) (outer : List Env) (s : Shared) (H : Hp) (E : XK), Room k (A.deeper (envOfC qual scope s.heap.objs.size f cdv)) → Tk (cxOf (L2.CX P w) P w K mg base N qual scope f cdv A outer s H E) E → PSs (cxOf (L2.CX P w) P w K mg base N qual scope f cdv A outer s H E) body (t E)) :
    FnOk P w K mg base (L2.CX P w) (k + 1) f fd ps (Pr K ps.length (dBody N b)) :=
  F.ok S Pr.len fun cdv A outer s H vs Q E hr h => ⟨t E, hb cdv A outer s H E hr tk_of, body_ly hl h⟩
end
structure Fk (P : Program) (w : World) (K : PySem.W.Frag) (mg : Str → Option Value) (base : Heap) (k : Nat) (f : Addr) (sp : Sp) : Prop where
  ex : ∃ (fd : FuncData) (ps : List Str), FnOk P w K mg base (L2.CX P w) k f fd ps sp ∧ Binds K fd ps [] ∧ PySem.W.keepIn K (.ref f) = true
section
variable {P : Program} {w : World} {K : PySem.W.Frag} {mg : Str → Option Value} {base : Heap} {k : Nat} {f : Addr} {sp : Sp}
theorem Fk.up {j : Nat} (F : Fk P w K mg base k f sp) (h : k ≤ j) : Fk P w K mg base j f sp := by
  obtain ⟨fd, ps, G, r⟩ := F.ex
  exact ⟨fd, ps, Lx.FnOk.up G h, r⟩
end
section
variable {X : Cx} {E : XK} {k : Nat} {f : Addr} {sp : Sp} {x m : Str} {p pos apos : Pos} {e o : Expr} {es : List Expr} {t : TA} {ta : TE}
theorem pe_fk (F : Fk X.prog X.w X.K X.mg X.base k f sp) (hr : Room k X.A) (hx : Passes (L2.CX X.prog X.w) X E) (hg : Gl X x) (hm : X.mg x = some (.ref f)) (ha : PA X (e :: es) t)
    (hdb : (x == ("__debug__" : Str)) = false := by decide) (he : starEach (e :: es) X.env = (false, eval e X.env) :: starEach es X.env := by rfl) (hpl : (backTo pos (starEach es X.env)).any (·.1) = false := by rfl) :
    PE X (.Call (.Name x p) (e :: es) [] pos) (tCall sp [] E t) := by
  obtain ⟨fd, ps, G, hb, hk⟩ := F.ex
  exact pe_call G hr hg hm hk hb .nil hx ha hdb he hpl
end
section
variable {K : PySem.W.Frag} {c : Cg} {w : Wd} {s : S} {p : Addr} {i : Nat} {o u : HO} {mo mo' : MO}
@[reducible] def Wd.add (w : Wd) (p : Addr) (o : HO) : Wd := ⟨w.al ++ [p], w.F, upd w.H p o⟩
theorem Ok.add (k : Ok K c w s) (h : w.H p = none) (nt : ∀ ps, o ≠ .tbl ps) (nx : ∀ φ, o ≠ .ext φ) (r : RepM K c (w.add p o) p mo) : Ok K c (w.add p o) ⟨s.n, s.st ++ [mo]⟩ ∧ Go c w (w.add p o) := by
  have hp := k.ne h
  have hF := k.free h
  have ha := k.out h
  have nh : ∀ {a : Addr} {u : HO}, w.H a = some u → a ≠ p := fun e => ne_of_none e h
  have na : ∀ a ∈ w.al, a ≠ p := fun a z e => ha (e ▸ z)
  have sb : Sub w.al w.F (w.al ++ [p]) w.F := ⟨⟨[p], rfl⟩, Le.refl _⟩
  have kp : ∀ {a : Addr} {u : HO}, w.H a = some u → upd w.H p o a = some u := fun e => by rw [upd_ne (nh e)]; exact e
  refine ⟨⟨fun a u e => kp (k.fro a u e), k.fpn, fun z => ?_, ?_, ?_, fun a z => ?_, k.pen.of (Le.refl _) (upd_ne hp.symm), k.tab.ext fun b u e => kp e, k.ftb, fun a z ps => ?_, fun a z φ => ?_, fun j a m e1 e2 => ?_⟩, fun a u _ _ _ e => kp e, sb, fun a u e n => (by have e : w.F a = some u := e; rw [n] at e; cases e), fun a z => ?_⟩
  · rcases List.mem_append.mp z with z | z
    · exact k.pna z
    · exact hp (List.mem_singleton.mp z).symm
  · refine List.nodup_append.mpr ⟨k.nd, by simp, fun a h1 b h2 e => ?_⟩
    rw [List.mem_singleton.mp h2] at e
    exact ha (e ▸ h1)
  · show (w.al ++ [p]).length = (s.st ++ [mo]).length
    rw [List.length_append, List.length_append, k.len]; rfl
  · show upd w.H p o a ≠ none
    rcases List.mem_append.mp z with z | z
    · rw [upd_ne (na a z)]; exact k.occ a z
    · rw [List.mem_singleton.mp z, upd_same]; exact fun y => by cases y
  · show upd w.H p o a ≠ _
    rcases List.mem_append.mp z with z | z
    · rw [upd_ne (na a z)]; exact k.atb a z ps
    · rw [List.mem_singleton.mp z, upd_same]; exact fun y => nt ps (Option.some.inj y)
  · show upd w.H p o a ≠ _
    rcases List.mem_append.mp z with z | z
    · rw [upd_ne (na a z)]; exact k.aco a z φ
    · rw [List.mem_singleton.mp z, upd_same]; exact fun y => nx φ (Option.some.inj y)
  · by_cases hj : j < w.al.length
    · have e1 : w.al[j]? = some a := by rw [← e1]; exact (List.getElem?_append_left hj).symm
      have e2 : s.st[j]? = some m := by rw [← e2]; exact (List.getElem?_append_left (by rw [← k.len]; exact hj)).symm
      exact (k.sto j a m e1 e2).of sb (upd_ne (na a (List.mem_of_getElem? e1))) fun z => z
    · have hj2 : j = w.al.length := by
        have := (List.getElem?_eq_some_iff.mp e1).1
        simp at this; omega
      subst hj2
      have e1 : (w.al ++ [p])[w.al.length]? = some a := e1
      have e2 : (s.st ++ [mo])[w.al.length]? = some m := e2
      rw [k.len] at e2
      simp at e1 e2
      subst e1 e2
      exact r
  · rcases List.mem_append.mp z with z | z
    · exact .inl z
    · exact .inr (by rw [List.mem_singleton.mp z]; exact Wd.fre_none h)
@[reducible] def Wd.ch (w : Wd) (p : Addr) (o : HO) : Wd := ⟨w.al, w.F, upd w.H p o⟩
theorem Ok.ch (k : Ok K c w s) (hi : w.al[i]? = some p) (hF : w.F p = none) (nt : ∀ ps, o ≠ .tbl ps) (nx : ∀ φ, o ≠ .ext φ) (r : RepM K c (w.ch p o) p mo) : Ok K c (w.ch p o) ⟨s.n, s.st.set i mo⟩ ∧ Go c w (w.ch p o) := by
  have hm := List.mem_of_getElem? hi
  have hp : p ≠ c.pn := fun z => k.pna (z ▸ hm)
  have inj : ∀ {j : Nat}, w.al[j]? = some p → j = i := fun {j} e => by
    have hj := (List.getElem?_eq_some_iff.mp e).1
    have hi' := (List.getElem?_eq_some_iff.mp hi).1
    exact (List.getElem?_inj hj k.nd).mp (e.trans hi.symm)
  have hx : ∀ u, w.H p = some u → (∀ ps, u ≠ .tbl ps) ∧ ∀ φ, u ≠ .ext φ := fun u e => ⟨fun ps z => k.atb p hm ps (by rw [e, z]), fun φ z => k.aco p hm φ (by rw [e, z])⟩
  refine ⟨⟨fun a u e => ?_, k.fpn, k.pna, k.nd, ?_, fun a z => ?_, k.pen.of (Le.refl _) (upd_ne hp.symm), tabs_upd k.tab hx, k.ftb, fun a z ps => ?_, fun a z φ => ?_, fun j a m e1 e2 => ?_⟩, fun a u np na _ e => ?_, Sub.refl _ _, fun a u e n => (by have e : w.F a = some u := e; rw [n] at e; cases e), fun a z => .inl z⟩
  · show upd w.H p o a = some u
    have e : w.F a = some u := e
    rw [upd_ne (ne_of_none e hF)]; exact k.fro a u e
  · show w.al.length = (s.st.set i mo).length
    rw [List.length_set]; exact k.len
  · show upd w.H p o a ≠ none
    by_cases e : a = p
    · rw [e, upd_same]; exact fun y => by cases y
    · rw [upd_ne e]; exact k.occ a z
  · show upd w.H p o a ≠ _
    by_cases e : a = p
    · rw [e, upd_same]; exact fun y => nt ps (Option.some.inj y)
    · rw [upd_ne e]; exact k.atb a z ps
  · show upd w.H p o a ≠ _
    by_cases e : a = p
    · rw [e, upd_same]; exact fun y => nx φ (Option.some.inj y)
    · rw [upd_ne e]; exact k.aco a z φ
  · have e1 : w.al[j]? = some a := e1
    have e2 : (s.st.set i mo)[j]? = some m := e2
    by_cases hj : j = i
    · subst hj
      rw [hi] at e1; cases e1
      rw [List.getElem?_set_self (by rw [← k.len]; exact (List.getElem?_eq_some_iff.mp hi).1)] at e2
      cases e2
      exact r
    · rw [List.getElem?_set_ne (Ne.symm hj)] at e2
      have ne : a ≠ p := fun z => hj (inj (z ▸ e1))
      exact (k.sto j a m e1 e2).of (Sub.refl _ _) (upd_ne ne) fun z => z
  · show upd w.H p o a = some u
    rw [upd_ne (by rintro rfl; exact na hm)]; exact e
theorem Ok.ice (k : Ok K c w s) (hi : w.al[i]? = some p) (hF : w.F p = none) (h : w.H p = some u) : Ok K c ⟨w.al, upd w.F p u, w.H⟩ ⟨s.n, s.st.set i .gone⟩ ∧ Go c w ⟨w.al, upd w.F p u, w.H⟩ := by
  have hm := List.mem_of_getElem? hi
  have hp : p ≠ c.pn := fun z => k.pna (z ▸ hm)
  have sb : Sub w.al w.F w.al (upd w.F p u) := ⟨List.prefix_refl _, Le.up hF⟩
  have inj : ∀ {j : Nat}, w.al[j]? = some p → j = i := fun {j} e => by
    have hj := (List.getElem?_eq_some_iff.mp e).1
    exact (List.getElem?_inj hj k.nd).mp (e.trans hi.symm)
  refine ⟨⟨fun a v e => ?_, ?_, k.pna, k.nd, ?_, k.occ, k.pen.of (Le.up hF) rfl, k.tab, fun a ps => ?_, k.atb, k.aco, fun j a m e1 e2 => ?_⟩, (Go.refl c w).frz hF (.inr hm)⟩
  · have e : upd w.F p u a = some v := e
    by_cases e2 : a = p
    · subst e2; rw [upd_same] at e; cases e; exact h
    · rw [upd_ne e2] at e; exact k.fro a v e
  · show upd w.F p u c.pn = none
    rw [upd_ne hp.symm]; exact k.fpn
  · show w.al.length = (s.st.set i MO.gone).length
    rw [List.length_set]; exact k.len
  · show upd w.F p u a ≠ _
    by_cases e2 : a = p
    · subst e2; rw [upd_same]; exact fun z => k.atb _ hm ps (by rw [h, Option.some.inj z])
    · rw [upd_ne e2]; exact k.ftb a ps
  · have e1 : w.al[j]? = some a := e1
    have e2 : (s.st.set i MO.gone)[j]? = some m := e2
    by_cases hj : j = i
    · subst hj
      rw [List.getElem?_set_self (by rw [← k.len]; exact (List.getElem?_eq_some_iff.mp hi).1)] at e2
      cases e2
      trivial
    · rw [List.getElem?_set_ne (Ne.symm hj)] at e2
      have ne : a ≠ p := fun z => hj (inj (z ▸ e1))
      exact (k.sto j a m e1 e2).of sb rfl fun z => by show upd w.F p u a = none; rw [upd_ne ne]; exact z
theorem notIns {C dx : Addr} {fs : List (Str × V)} : (∀ ps, HO.ins C dx fs ≠ .tbl ps) ∧ ∀ φ, HO.ins C dx fs ≠ .ext φ := ⟨fun _ z => (by cases z), fun _ z => (by cases z)⟩
end
section
variable {K : PySem.W.Frag}
theorem mem_lookup {f : Str} {d : D} : ∀ {gs : List (Str × D)}, gs.lookup f = some d → f ∈ gs.map (·.1)
  | [], h => by cases h
  | (g, y) :: r, h => by
    rw [List.lookup_cons] at h
    cases q : (f == g) with
    | true => rw [eq_of_beq q]; exact List.mem_cons_self
    | false => rw [q] at h; exact List.mem_cons_of_mem _ (mem_lookup h)
@[reducible] def insD : D → W (Str × List (Str × D))
  | .obj cl gs => W.ret (cl, gs)
  | .mu i => (W.get i).bind fun o => match o with | .ins cl gs => W.ret (cl, gs) | _ => W.stuck
  | _ => W.stuck
theorem ins_of {c : Cg} {w : Wd} {s : S} {v : V} {d : D} {A : Type} {f : Str × List (Str × D) → W A} {Q : A → Wd → S → Prop} {E : Xn → Wd → S → Prop} (o : Ok K c w s) (r : Rep K c w.al w.F v d) (h : Den K c ((insD d).bind f) w s Q E) :
    ∃ a cl dx fs gs, v = .ref a ∧ w.H a = some (.ins (He.ga K cl) dx fs) ∧ Cls K (He.ga K cl) ∧ (∀ x ∈ gs.map (·.1), NoAttr K (He.ga K cl) x) ∧ RepF K c w.al w.F fs gs ∧ Den K c (f (cl, gs)) w s Q E := by
  cases r with
  | @obj a dx cl fs gs hf hC hn rf => exact ⟨a, cl, dx, fs, gs, rfl, o.fro _ _ hf, hC, hn, rf, h⟩
  | @mu i a hi =>
    obtain ⟨mo, e, h⟩ := h
    have rm := o.sto i a mo hi e
    cases mo with
    | ins cl gs =>
      obtain ⟨_, dx, fs, h1, h2, h3, h4, _⟩ := rm
      exact ⟨a, cl, dx, fs, gs, rfl, h1, h2, h3, h4, h⟩
    | _ => exact h.elim
  | _ => exact h.elim
@[reducible] def dFld (f : Str) (fa : List Sl → W D) : List Sl → W D := fun δ => (fa δ).bind fun x => (insD x).bind fun p => match p.2.lookup f with | some d => W.ret d | none => W.stuck
theorem le_fld {ta : XK → TE} {fa : List Sl → W D} {f : Str} (ha : LE K ta fa) : LE K (fun E => tFld K (ta E) f) (dFld f fa) := fun c w s σ δ Q E o sl h =>
  ha c w s σ δ _ E o sl (h.bind.mono fun x w1 s1 g1 o1 p v r1 => by
    obtain ⟨a, cl, dx, fs, gs, rfl, hH, hC, hn, rf, p⟩ := ins_of o1 r1 p
    cases e : gs.lookup f with
    | none => simp only [e] at p; exact p.elim
    | some d =>
      simp only [e] at p
      obtain ⟨u, hu, ru⟩ := rf.look e
      exact ⟨a, _, dx, fs, u, rfl, hH, hC, hn f (mem_lookup e), hu, p.ret o1 u ru⟩)
abbrev Tb := List (Str × (List D → W D))
def tPropU (K : PySem.W.Frag) (tb : Tb) (E : XK) (ta : TE) : TE := fun σ H Q => ta σ H fun x H1 => ∃ a cl dx fs g, x = .ref a ∧ H1 a = some (.ins (He.ga K cl) dx fs) ∧ tb.lookup cl = some g ∧ Pr K 1 g [.ref a] H1 Q E
@[reducible] def dProp (tb : Tb) (fa : List Sl → W D) : List Sl → W D := fun δ => (fa δ).bind fun x => (insD x).bind fun p => match tb.lookup p.1 with | some g => (g [x]).calm | none => W.stuck
theorem le_prop {ta : XK → TE} {fa : List Sl → W D} {tb : Tb} (ha : LE K ta fa) : LE K (fun E => tPropU K tb E0 (ta E)) (dProp tb fa) := fun c w s σ δ Q E o sl h =>
  ha c w s σ δ _ E o sl (h.bind.mono fun x w1 s1 g1 o1 p v r1 => by
    obtain ⟨a, cl, dx, fs, gs, rfl, hH, hC, hn, rf, p⟩ := ins_of o1 r1 p
    cases e : tb.lookup cl with
    | none => simp only [e] at p; exact p.elim
    | some g =>
      simp only [e] at p
      exact ⟨a, cl, dx, fs, g, rfl, hH, e, c, w1, s1, _, rfl, o1, .cons r1 .nil, rfl, p.calm⟩)
def tMethU (K : PySem.W.Frag) (m : Str) (n : Nat) (tb : Tb) (E : XK) (ta : TE) (t : TA) : TE := fun σ H Q => ta σ H fun x H1 => ∃ a cl dx fs g, x = .ref a ∧ H1 a = some (.ins (He.ga K cl) dx fs) ∧ fs.lookup m = none ∧ tb.lookup cl = some g ∧
  t σ H1 fun vs H2 => Pr K (n + 1) g (.ref a :: vs) H2 Q E
@[reducible] def dMeth (m : Str) (n : Nat) (tb : Tb) (fa : List Sl → W D) (f : List Sl → W (List D)) : List Sl → W D := fun δ => (fa δ).bind fun x => (insD x).bind fun p => W.need (p.2.lookup m = none) (match tb.lookup p.1 with | some g => (f δ).bind fun ds => W.need (ds.length = n) (g (x :: ds)) | none => W.stuck)
theorem le_meth {ta : XK → TE} {fa : List Sl → W D} {t : XK → TA} {f : List Sl → W (List D)} {m : Str} {j : Nat} {tb : Tb} (ha : LE K ta fa) (hb : LA K t f) : LE K (fun E => tMethU K m j tb E (ta E) (t E)) (dMeth m j tb fa f) := fun c w s σ δ Q E o sl h =>
  ha c w s σ δ _ E o sl (h.bind.mono fun x w1 s1 g1 o1 p v r1 => by
    obtain ⟨a, cl, dx, fs, gs, rfl, hH, hC, hn, rf, p1, p⟩ := ins_of o1 r1 p
    cases e : tb.lookup cl with
    | none => rw [show (tb.lookup (cl, gs).1) = none from e] at p; exact p.elim
    | some g =>
      simp only [e] at p
      refine ⟨a, cl, dx, fs, g, rfl, hH, rf.noLook p1, e, hb c w1 s1 σ δ _ E o1 (sl.go g1) ((show Den K c ((f δ).bind fun ds => W.need (ds.length = j) (g (x :: ds))) w1 s1 (qV K c Q) (xE K c E) from p).bind.mono fun ds w2 s2 g2 o2 p2 vs r2 => ?_)⟩
      exact ⟨c, w2, s2, _, rfl, o2, .cons (r1.up g2.sub) r2, by rw [List.length_cons, p2.1], p2.2⟩)
end
section
variable {X : Cx}
structure MEnt (X : Cx) (E : XK) (m : Str) (n : Nat) (cl : Str) (g : List D → W D) : Prop where
  ex : ∃ (CX : CXT) (k : Nat) (f : Addr) (fd : FuncData) (ps : List Str), Cls X.K (He.ga X.K cl) ∧ Meth X.K (He.ga X.K cl) m f ∧ FnOk X.prog X.w X.K X.mg X.base CX k f fd ps (Pr X.K (n + 1) g) ∧ Room k X.A ∧ Binds X.K fd ps [] ∧ Passes CX X E
inductive MTab (X : Cx) (E : XK) (m : Str) (n : Nat) : Tb → Prop
  | nil : MTab X E m n []
  | cons {cl : Str} {g : List D → W D} {tb : Tb} : MEnt X E m n cl g → MTab X E m n tb → MTab X E m n ((cl, g) :: tb)
theorem MTab.get {E : XK} {m : Str} {n : Nat} {cl : Str} {g : List D → W D} : ∀ {tb : Tb}, MTab X E m n tb → tb.lookup cl = some g → MEnt X E m n cl g
  | _, .nil, h => by cases h
  | _, .cons (cl := d) a r, h => by
    rw [List.lookup_cons] at h
    cases q : (cl == d) with
    | true => rw [q] at h; cases h; rw [eq_of_beq q]; exact a
    | false => rw [q] at h; exact r.get h
theorem pe_methU {E : XK} {m : Str} {n : Nat} {tb : Tb} {o e : Expr} {es : List Expr} {ta : TE} {t : TA} {apos pos : Pos} {pl : Sem Bool} (T : MTab X E m n tb) (he : PE X o ta) (ha : PA X (e :: es) t)
    (hst : starEach (e :: es) X.env = (false, eval e X.env) :: starEach es X.env := by rfl) (hpl : (backTo pos (starEach es X.env)).any (·.1) = false := by rfl)
    (ht : eval (.Call (.Attribute o m apos) (e :: es) [] pos) X.env = (do
      let ov ← eval o X.env
      standAt apos.atName
      let (f, first) ← holding [ov] (getMethod ov m pl)
      callWith pos f first (backTo pos (starEach (e :: es) X.env)) (backToKw pos (keywordEach [] X.env))) := by rfl) : PE X (.Call (.Attribute o m apos) (e :: es) [] pos) (tMethU X.K m n tb E ta t) := by
  refine ⟨fun pins s σ H Q I h => ?_⟩
  refine PySem.W.methodCall_KW (pl := pl) (thn (he.run pins s σ H _ I h) fun u s1 ⟨x, H1, I1, rx, a, cl, dx, fs, g, ex, ea, l, eg, q⟩ => ?_) ht
  subst ex
  obtain rfl : u = Value.ref a := rx
  obtain ⟨CX, k, f, fd, ps, hC, hm, F, hr, hb, hx⟩ := (T.get eg).ex
  refine getmeth_ok I1 ea hC hm l ?_
  refine PySem.W.callWith_K (first := [.ref a]) (h₀ := X.base) I.ok.mod.kin hm.kp (thn (ha.run pos pins s1 σ H1 _ I1 q) fun us s2 ⟨vs, H2, I2, r, q2⟩ => ⟨I2.kIn, ?_⟩) hst hpl
  exact run_fn (us := .ref a :: us) (vs := .ref a :: vs) (dvs := []) F hr hb .nil hx I2 (.cons rfl r) (by rw [List.append_nil]; exact q2)
structure PEnt (X : Cx) (f : Str) (cl : Str) (g : List D → W D) : Prop where
  ex : ∃ (CX : CXT) (k : Nat) (p fa : Addr) (fd : FuncData) (ps : List Str), Cls X.K (He.ga X.K cl) ∧ PropOf X.K (He.ga X.K cl) f p fa ∧ FnOk X.prog X.w X.K X.mg X.base CX k fa fd ps (Pr X.K 1 g) ∧ Room (k + 1) X.A ∧ Binds X.K fd ps [] ∧ Passes CX X.nox E0
inductive PTab (X : Cx) (f : Str) : Tb → Prop
  | nil : PTab X f []
  | cons {cl : Str} {g : List D → W D} {tb : Tb} : PEnt X f cl g → PTab X f tb → PTab X f ((cl, g) :: tb)
theorem PTab.get {f : Str} {cl : Str} {g : List D → W D} : ∀ {tb : Tb}, PTab X f tb → tb.lookup cl = some g → PEnt X f cl g
  | _, .nil, h => by cases h
  | _, .cons (cl := d) a r, h => by
    rw [List.lookup_cons] at h
    cases q : (cl == d) with
    | true => rw [q] at h; cases h; rw [eq_of_beq q]; exact a
    | false => rw [q] at h; exact r.get h
theorem pe_propU {f : Str} {tb : Tb} {e : Expr} {ta : TE} {pos : Pos} (T : PTab X f tb) (he : PE X e ta) (hab : attributeBase e f X.env (eval e X.env) = eval e X.env := by rfl) : PE X (.Attribute e f pos) (tPropU X.K tb E0 ta) := by
  refine ⟨fun pins s σ H Q I h => ?_⟩
  refine attr_of hab (thn (he.run pins s σ H _ I h) fun u s1 ⟨x, H1, I1, rx, a, cl, dx, fs, g, ex, ea, eg, q⟩ => ?_)
  subst ex
  obtain rfl : u = Value.ref a := rx
  obtain ⟨CX, k, p, fa, fd, ps, hC, hp, F, hr, hb, hx⟩ := (T.get eg).ex
  exact getprop_ok (dvs := []) (ds := []) I1 ea hC hp F hr hb .nil hx q
end
section
variable (P : Program) (w : World) (K : PySem.W.Frag) (mg : Str → Option Value) (base : Heap)
inductive TabK (k : Nat) (m : Str) (n : Nat) : Tb → Prop
  | nil : TabK k m n []
  | cons {cl : Str} {g : List D → W D} {tb : Tb} {f : Addr} : Cls K (He.ga K cl) → Meth K (He.ga K cl) m f → Fk P w K mg base k f (Pr K (n + 1) g) → TabK k m n tb → TabK k m n ((cl, g) :: tb)
inductive TabP (k : Nat) (x : Str) : Tb → Prop
  | nil : TabP k x []
  | cons {cl : Str} {g : List D → W D} {tb : Tb} {p f : Addr} : Cls K (He.ga K cl) → PropOf K (He.ga K cl) x p f → Fk P w K mg base k f (Pr K 1 g) → TabP k x tb → TabP k x ((cl, g) :: tb)
end
section
variable {X : Cx} {E : XK} {k n : Nat} {m : Str} {tb : Tb}
theorem TabK.mt (T : TabK X.prog X.w X.K X.mg X.base k m n tb) (hr : Room k X.A) (hx : Passes (L2.CX X.prog X.w) X E) : MTab X E m n tb := by
  induction T with
  | nil => exact .nil
  | cons a b c _ ih =>
    obtain ⟨fd, ps, G, hb, hk⟩ := c.ex
    exact .cons ⟨_, _, _, _, _, a, b, G, hr, hb, hx⟩ ih
theorem TabP.pt (T : TabP X.prog X.w X.K X.mg X.base k m tb) (hr : Room (k + 1) X.A) : PTab X m tb := by
  induction T with
  | nil => exact .nil
  | cons a b c _ ih =>
    obtain ⟨fd, ps, G, hb, hk⟩ := c.ex
    exact .cons ⟨_, _, _, _, _, _, a, b, G, hr, hb, px0⟩ ih
end
section
variable {K : PySem.W.Frag}
@[reducible] def mkObj (cl : Str) (g : List D → W D) (ds : List D) : W D := (W.new (.ins cl [])).bind fun i => (g (.mu i :: ds)).bind fun v => W.need (v = .non) ((W.get i).bind fun o => match o with
  | .ins cl' gs => (W.put i .gone).bind fun _ => W.ret (.obj cl' gs)
  | _ => W.stuck)
@[reducible] def dMake (cl : Str) (m : Nat) (g : List D → W D) (f : List Sl → W (List D)) : List Sl → W D := fun δ => (f δ).bind fun ds => W.need (ds.length = m) (mkObj cl g ds)
theorem made {c : Cg} {w : Wd} {s : S} {x dx : Addr} {cl : Str} (o : Ok K c w s) (hC : Cls K (He.ga K cl)) (hx : w.H x = none) (hdx : w.H dx = none) (hne : dx ≠ x) :
    ∃ w', w'.H = upd (upd w.H dx (.own x)) x (.ins (He.ga K cl) dx []) ∧ Ok K c w' ⟨s.n, s.st ++ [.ins cl []]⟩ ∧ Go c w w' ∧ w'.al[s.st.length]? = some x := by
  have o1 : Ok K c ⟨w.al, w.F, upd w.H dx (.own x)⟩ s := o.upH (o.ne hdx) (o.free hdx) (o.out hdx) (fun u z => by rw [hdx] at z; cases z)
  have g1 : Go c w ⟨w.al, w.F, upd w.H dx (.own x)⟩ := (Go.refl c w).upH hdx
  have hx2 : upd w.H dx (.own x) x = none := by rw [upd_ne hne.symm]; exact hx
  obtain ⟨o2, g2⟩ := o1.add (p := x) (o := .ins (He.ga K cl) dx []) (mo := .ins cl []) hx2 notIns.1 notIns.2 ⟨o.free hx, dx, [], upd_same, hC, fun y hy => by simp at hy, .nil, by decide⟩
  refine ⟨_, rfl, o2, g1.trans g2 o2, ?_⟩
  show (w.al ++ [x])[s.st.length]? = some x
  rw [← o.len]; simp
theorem le_make {cl : Str} {m : Nat} {g : List D → W D} {t : XK → TA} {f : List Sl → W (List D)} (hC : Cls K (He.ga K cl)) (ha : LA K t f) : LE K (fun E => tMake (He.ga K cl) (Pr K (m + 1) g) [] E (t E)) (dMake cl m g f) := fun c w s σ δ Q E o sl h =>
  ha c w s σ δ _ E o sl (h.bind.mono fun ds w1 s1 g1 o1 p vs r1 x dx hx hdx hne => by
    obtain ⟨p1, p2⟩ := p
    obtain ⟨w2, e2, o2, g2, a2⟩ := made o1 hC hx hdx hne
    have p3 : (((g (.mu s1.st.length :: ds)).bind fun v => W.need (v = .non) ((W.get s1.st.length).bind fun o => match o with
      | .ins cl' gs => (W.put s1.st.length .gone).bind fun _ => W.ret (D.obj cl' gs)
      | _ => W.stuck))).wp ⟨s1.n, s1.st ++ [.ins cl []]⟩ _ _ := p2
    have p4 := (Den.on (s0 := s1) p3 g2).bind
    refine ⟨c, w2, ⟨s1.n, s1.st ++ [.ins cl []]⟩, .mu s1.st.length :: ds, e2, o2, .cons (.mu a2) (by rw [List.append_nil]; exact r1.up g2.sub), by rw [List.length_cons, p1], p4.mono fun d w3 s3 g3 o3 q v rv => ?_⟩
    obtain ⟨q0, q⟩ := q
    subst q0
    cases rv
    refine ⟨rfl, ?_⟩
    have a3 := g3.sub.at a2
    obtain ⟨mo, em, q⟩ := q
    have rm := o3.sto _ _ _ a3 em
    cases mo with
    | ins cl' gs =>
      obtain ⟨hF, dx', vs', h1, h2, h3, h4, h5⟩ := rm
      obtain ⟨o4, g4⟩ := o3.ice a3 hF h1
      exact q _ g4 o4 (.ref x) (.obj upd_same h2 h3 (h4.up g4.sub))
    | _ => exact q.elim)
def putG (f : Str) (v : D) : List (Str × D) → List (Str × D)
  | [] => [(f, v)]
  | (g, x) :: r => if g = f then (g, v) :: r else (g, x) :: putG f v r
theorem putG_len (f : Str) (v : D) : ∀ gs, (putG f v gs).length ≤ gs.length + 1
  | [] => Nat.le_refl _
  | (g, x) :: r => by
    unfold putG
    split
    · exact Nat.le_succ _
    · exact Nat.succ_le_succ (putG_len f v r)
theorem putG_names (f : Str) (v : D) : ∀ {gs : List (Str × D)} {y : Str}, y ∈ (putG f v gs).map (·.1) → y = f ∨ y ∈ gs.map (·.1)
  | [], y, h => by simp [putG] at h; exact .inl h
  | (g, x) :: r, y, h => by
    unfold putG at h
    split at h
    · exact .inr h
    · rw [List.map_cons, List.mem_cons] at h
      rcases h with h | h
      · exact .inr (by rw [h]; exact List.mem_cons_self)
      · rcases putG_names f v h with h | h
        · exact .inl h
        · exact .inr (List.mem_cons_of_mem _ h)
theorem RepF.put {c : Cg} {al : List Addr} {F : Hp} {f : Str} {v : V} {d : D} (r : Rep K c al F v d) : ∀ {fs : List (Str × V)} {gs : List (Str × D)}, RepF K c al F fs gs → RepF K c al F (putF f v fs) (putG f d gs)
  | _, _, .nil => .cons r .nil
  | _, _, .cons (x := x) a q => by
    unfold putF putG
    split
    · exact .cons r q
    · exact .cons a (RepF.put r q)
@[reducible] def dSetF (cl : List Str) (f : Str) (fo fe : List Sl → W D) : List Sl → W Out := fun δ => (fe δ).bind fun d => (fo δ).bind fun x => match x with
  | .mu i => (W.get i).bind fun o => (match o with
    | .ins c gs => W.need (c ∈ cl ∧ gs.length < 900) ((W.put i (.ins c (putG f d gs))).bind fun _ => W.ret (.nx δ))
    | _ => W.stuck)
  | _ => W.stuck
theorem ls_setF {cl : List Str} {to te : XK → TE} {fo fe : List Sl → W D} {f : Str} (hc : ∀ c ∈ cl, NoAttr K (He.ga K c) f) (ho : LE K to fo) (he : LE K te fe) : LS K (fun E => sFld K (to E) (te E) f) (dSetF cl f fo fe) := fun c w s σ δ D E o sl q =>
  he c w s σ δ _ E o sl (q.bind.mono fun d w1 s1 g1 o1 p y ry => ho c w1 s1 σ δ _ E o1 (sl.go g1) (p.bind.mono fun x w2 s2 g2 o2 p2 v rv => by
    cases rv with
    | @mu i a hi =>
      obtain ⟨mo, em, p3⟩ := p2
      have rm := o2.sto i a mo hi em
      cases mo with
      | ins k gs =>
        obtain ⟨⟨hk, hl⟩, p3⟩ := p3
        obtain ⟨hF, dx, fs, h1, h2, h3, h4, h5⟩ := rm
        refine ⟨a, _, dx, fs, rfl, h1, h2, hc k hk, by rw [h4.len]; omega, ?_⟩
        have hl2 := putG_len f d gs
        obtain ⟨o3, g3⟩ := o2.ch (p := a) (o := .ins (He.ga K k) dx (putF f y fs)) (mo := .ins k (putG f d gs)) hi hF notIns.1 notIns.2 ⟨hF, dx, _, upd_same, h2, fun z hz => by
          rcases putG_names f d hz with e | e
          · rw [e]; exact hc k hk
          · exact h3 z e, h4.put (ry.up g2.sub), by omega⟩
        exact p3 _ g3 o3 σ (((sl.go g1).go g2).go g3)
      | _ => exact p3.elim
    | _ => exact p2.elim))
end
end Ly
namespace Ly
open PySem L2 PyProof.Rows
open Lx (Le SupScope SupD SupG SupC cxS inv_super at_app with_bound)
@[reducible] def dInit (N : List Str) (cl : List Str) (b : List Sl → W Out) (fa : List Sl → W (List D)) (m2 : Nat) (g2 : List D → W D) : List D → W D := fun ds => (b (startD N ds)).bind fun o => match o with
  | .nx δ => (dVar 0 δ).bind fun x => (match x with
    | .mu i => (W.get i).bind fun mo => (match mo with
      | .ins c _ => W.need (c ∈ cl) (((fa δ).calm).bind fun es => W.need (es.length = m2) ((g2 (.mu i :: es)).bind fun _ => W.ret .non))
      | _ => W.stuck)
    | _ => W.stuck)
  | _ => W.stuck
section
variable {P : Program} {w : World} {K : PySem.W.Frag} {mg : Str → Option Value} {base : Heap} {nm qual : Str} {params : Arguments} {body : List Stmt} {scope : Scope} {dvs : List V} {kws : List (Str × V)} {DC f f2 : Addr} {fd fd2 : FuncData}
theorem tk_sup {N : List Str} {cd : Value} {cc : Addr} {A : Around} {outer : List Env} {s : Shared} {H : Hp} {E : XK} : Tk (cxS (L2.CX P w) P w K mg base N qual scope f cd cc A outer s H E) E := takes_of rfl rfl rfl rfl
theorem fn_super {N ps ps2 : List Str} {k m m2 : Nat} {cl : List Str} {t : XK → TS} {b : List Sl → W Out} {ta : XK → TA} {fa : List Sl → W (List D)} {g2 : List D → W D} {pre : List Stmt} {e : Expr} {es : List Expr} {p0 p1 apos pos pos2 : Pos} {slf : Str} {ar : Arg}
    (F : SupG P K nm qual params body scope dvs kws DC f fd) (S : SupScope N ps scope) (hN : N[0]? = some slf) (hps : ps.length = m + 1) (har : (params.posonlyargs ++ params.args).head? = some ar) (hslf : ar.arg = slf) (hloc : scope.names.lookup slf = some .local)
    (hb : body = pre ++ [.Expr (.Call (.Attribute (.Call (.Name "super" p0) [] [] p1) "__init__" apos) (e :: es) [] pos) pos2])
    (hl : LS K t b) (hla : LA K ta fa)
    (hpre : ∀ (cd : Value) (cc : Addr) (A : Around) (outer : List Env) (s : Shared) (H : Hp) (E : XK), Room k (A.deeper (PySem.W.ksEnv qual scope s.heap.objs.size f cd cc)) → Tk (cxS (L2.CX P w) P w K mg base N qual scope f cd cc A outer s H E) E → PSs (cxS (L2.CX P w) P w K mg base N qual scope f cd cc A outer s H E) pre (t E))
    (harg : ∀ (cd : Value) (cc : Addr) (A : Around) (outer : List Env) (s : Shared) (H : Hp) (E : XK), Room k (A.deeper (PySem.W.ksEnv qual scope s.heap.objs.size f cd cc)) → PA (cxS (L2.CX P w) P w K mg base N qual scope f cd cc A outer s H E).nox (e :: es) (ta E0))
    (G : FnOk P w K mg base (L2.CX P w) k f2 fd2 ps2 (Pr K (m2 + 1) g2)) (b2 : Binds K fd2 ps2 []) (hsub : ∀ c, c ∈ cl → SupC K (He.ga K c) DC f2) (hboot : bootBuiltins "super" = some (.type "super"))
    (hst : ∀ env : Env, starEach (e :: es) env = (false, eval e env) :: starEach es env) (hpl : ∀ env : Env, (backTo pos (starEach es env)).any (·.1) = false)
    (hsw : ∀ env : Env, swapsWith (.Call (.Attribute (.Call (.Name "super" p0) [] [] p1) "__init__" apos) (e :: es) [] pos) none pos2.line env = pure false)
    (hev : ∀ env : Env, ∃ plS : Sem Bool, eval (.Call (.Attribute (.Call (.Name "super" p0) [] [] p1) "__init__" apos) (e :: es) [] pos) env = (do
      let ov ← attributeBase (.Call (.Name "super" p0) [] [] p1) "__init__" env (eval (.Call (.Name "super" p0) [] [] p1) env)
      standAt apos.atName
      let (f, first) ← holding [ov] (getMethod ov "__init__" plS)
      callWith pos f first (backTo pos (starEach (e :: es) env)) [])) :
    FnOk P w K mg base (L2.CX P w) (k + 1) f fd ps (Pr K (m + 1) (dInit N cl b fa m2 g2)) := by
  obtain ⟨oc, od, dV, kV, doc, pm, an, cda, ct, osl, cc, rfl, lk, hcd, _, ⟨ccl, ccd, ccs, hcell⟩, ⟨kcl, kcd, kvs, kcs, file, tf, hcode, hvs, hfile⟩⟩ := F.ex
  refine ⟨fun vs H Q E h => by rw [Pr.len vs H Q E h, hps], fun A outer s H args us vs Q E hr e0 hbind r hsp => ?_⟩
  have hlen := Pr.len vs H Q E hsp
  have KB := e0.mod.kin
  have KX : K.In s.heap := e0.mod.kin.keeps fun b o e => (e0.bs b o e).1
  have lim : s.heap.NoLimit := e0.mod.nolimit.keeps fun b o e => (e0.bs b o e).1
  refine PySem.ks_codeAny_call_defAt (body := body) (binds := ps.zip us) hr.depth (KX _ _ lk) rfl lim (PySem.W.codeRec_of KX hcd) rfl hbind S.noc (fun y hy => S.par y.1 (List.of_mem_zip (a := y.1) (b := y.2) hy).1) (fun h1 hns hk => ?_) S.co S.gen S.kind
  let X : Cx := cxS (L2.CX P w) P w K mg base N qual scope f (.ref cda) cc A outer s H E
  have tk : Tk X E := tk_sup
  have I : Inv X [] (L2.start N vs) H { s with heap := h1, toks := s.toks + (ps.zip us).length } := inv_super S hr.hd e0 (by rw [hlen, hps]) r (KB _ _ hcell) rfl hns hk
  have hrd : Room k (A.deeper (PySem.W.ksEnv qual scope s.heap.objs.size f (.ref cda) cc)) := hr.deeper _
  obtain ⟨c, w0, s0, ds, rfl, ok, rl, dl, q⟩ := hsp
  have slo : Slo K c w0 (L2.start N vs) (startD N ds) := Slo.start rl
  rw [hb]
  refine at_app ?_
  -- the statements ahead
  have rd : t E { nx := fun σ1 H1 => ∃ w1 s1 δ1, w1.H = H1 ∧ Ok K c w1 s1 ∧ Slo K c w1 σ1 δ1 ∧ Den K c ((dVar 0 δ1).bind fun x => (match x with
    | .mu i => (W.get i).bind fun mo => (match mo with
      | .ins c _ => W.need (c ∈ cl) (((fa δ1).calm).bind fun es => W.need (es.length = m2) ((g2 (.mu i :: es)).bind fun _ => W.ret D.non))
      | _ => W.stuck)
    | _ => W.stuck)) w1 s1 (qV K c Q) (xE K c E), rt := fun _ _ => False } (L2.start N vs) w0.H := by
    refine hl c w0 s0 _ _ _ E ok slo (q.bind.mono fun u w1 s1 g1 o1 p => ?_)
    cases u with
    | nx δ => exact fun σ1 s1' => ⟨w1, s1, δ, rfl, o1, s1', p⟩
    | rt d => exact p.elim
    | bk δ => exact p.elim
    | ct δ => exact p.elim
  have run1 := (hpre (.ref cda) cc A outer s w0.H E hrd tk).run [] _ _ w0.H _ I rd
  refine wpAny_mono run1 (fun fl s1 hs => ?_) (fun e s' hs => hs)
  cases fl with
  | ret u => obtain ⟨_, _, _, _, _, z⟩ := hs; exact z.elim
  | brk => obtain ⟨_, _, _, z⟩ := hs; exact z.elim
  | cont => obtain ⟨_, _, _, z⟩ := hs; exact z.elim
  | next =>
    obtain ⟨σ1, H1, I1, w1, s1', δ1, rfl, o1, sl1, q1⟩ := hs
    -- the object
    have q1 := q1.bind
    unfold dVar at q1
    cases ev0 : δ1[0]? with
    | none => rw [ev0] at q1; exact (show False from q1).elim
    | some x0 => cases x0 with
      | none => rw [ev0] at q1; exact (show False from q1).elim
      | some d0 =>
        rw [ev0] at q1
        have q1 := Den.ret q1 o1
        obtain ⟨v0, hv0, r0⟩ := sl1.val 0 _ ev0
        cases r0 with
        | @mu i0 x hi0 =>
          obtain ⟨mo, em, q1⟩ := q1
          have rm := o1.sto i0 x mo hi0 em
          cases mo with
          | ins c0 gs0 =>
            obtain ⟨hc0, q1⟩ := q1
            obtain ⟨hF0, dx, fs, hx1, _, _, _, _⟩ := rm
            have sc := hsub c0 hc0
            have KX1 : K.In s1.heap := I1.kIn
            obtain ⟨mA, OM, _⟩ := ins_get I1.hok hx1
            obtain ⟨odx, IA, _⟩ := OM.look
            -- the call
            obtain ⟨plS, hev1⟩ := hev (PySem.W.ksEnv qual scope s.heap.objs.size f (.ref cda) cc)
            refine PySem.ks_wpAt_execs_cons (PySem.ks_wpAt_Expr_any (PySem.ks_wpAt_MethodCall (pl := plS) ?_ hev1) I.quiet (hsw _))
            obtain ⟨hh, gg, dd, tt, oo⟩ := s1
            refine PySem.ks_wpAt_super_base S.sup S.cls (by decide) rfl (KX1 _ _ lk) rfl har rfl (KX1 _ _ hcode) rfl hvs hfile F.top ?_
            obtain ⟨mb, hb1, hb2⟩ := I1.mod.blt
            refine PySem.W.ks_loadName_global S.kind S.sup (Calls.loadGlobal_builtin (env := PySem.W.ksEnv qual scope s.heap.objs.size f (.ref cda) cc) (I1.mod.glob.keeps I1.bk) (PySem.W.mg_none_of KB e0.mod.glob F.sup) (hb1.keeps I1.bk) ((hb2 "super" (by decide)).trans hboot) ⟨rfl, ?_⟩)
            refine wpAny_loadName_free S.kind S.cls rfl ⟨_, KX1 _ _ hcell, rfl⟩ ?_
            obtain ⟨ml, hn1, hl1⟩ := I1.loc
            obtain ⟨u0, ru0, lk0⟩ := hl1 0 slf (.ref x) hN hv0 (.inl hloc)
            have hml : ml slf = some (.ref x) := by
              have e0 : u0 = Value.ref x := ru0
              rw [e0] at lk0
              rcases lk0 with ⟨_, z⟩ | ⟨z, _⟩
              · exact z
              · have z1 : scope.names.lookup slf = some .cell ∨ scope.names.lookup slf = some .free := z
                rw [hloc] at z1
                rcases z1 with z1 | z1 <;> cases z1
            rw [hslf]
            refine wpAny_loadName_local S.kind hloc hn1 hml ?_
            obtain ⟨cdD, hcD⟩ := F.cls
            obtain ⟨oD, hD1, hD2⟩ : ∃ oD, hh.get? DC = some oD ∧ oD.data = .cls cdD := by
              unfold PySem.W.clsIn at hcD
              split at hcD
              · rename_i ho
                cases hcD
                exact ⟨_, KX1 _ _ ho, rfl⟩
              · cases hcD
            refine PySem.ks_wpAny_isType_cls hD1 hD2 ⟨rfl, ?_⟩
            refine PySem.ks_wpAny_call_super hD1 hD2 IA.at_ IA.cls (fun cz ez => ?_) (PySem.W.looks_mroIn KX1 sc.mro) (fun h2 hso hk2 => ?_)
            · have := IA.no
              unfold PySem.W.notCls at this
              rw [ez] at this
              exact Bool.noConfusion this
            have I2 : Inv X [] σ1 w1.H ⟨h2, gg, dd, tt, oo⟩ := I1.kept (t' := tt) hk2
            have KX2 : K.In h2 := I2.kIn
            obtain ⟨cdC, hcC⟩ : ∃ cd, PySem.W.clsIn K (He.ga K c0) = some cd := by
              cases q2 : PySem.W.clsIn K (He.ga K c0) with
              | none =>
                have z := sc.at_
                unfold PySem.W.ks_superIn at z
                rw [q2] at z; cases z
              | some cd => exact ⟨cd, rfl⟩
            have hal := sc.at_
            unfold PySem.W.ks_superIn at hal
            rw [hcC] at hal
            obtain ⟨of2, hof, hofc⟩ : ∃ of2, h2.get? f2 = some of2 ∧ of2.cls = .type "function" := by
              have z : (K.lookup f2).map (·.cls) = some (.type "function") := sc.ty
              cases q2 : K.lookup f2 with
              | none => rw [q2] at z; cases z
              | some of2 => rw [q2] at z; exact ⟨of2, KX2 _ _ q2, Option.some.inj z⟩
            refine PySem.ks_wpAny_getMethod_super hso (PySem.W.looks_opaque KX2 F.op) (l₀ := cdC.mro) ?_ rfl KX2 hal hof hofc (PySem.W.ks_ne KX1 IA hcC) (by decide) ?_
            · exact fun A Q E s k q => wpAny_bind ((PySem.W.looks_clsIn KX2 hcC) A _ E s k (wpAny_pure q))
            have I3 : Inv X [] σ1 w1.H ⟨h2.push { cls := .type "method", data := .fields #[.ref f2, .ref x] }, gg, dd, tt + 1, oo⟩ := I2.kept (t' := tt + 1) (fun b o e => Heap.get?_push_of_some _ e)
            have hbm : (h2.push { cls := .type "method", data := .fields #[.ref f2, .ref x] }).get? h2.objs.size = some { cls := .type "method", data := .fields #[.ref f2, .ref x] } := Heap.get?_push_at rfl rfl
            have I4 := I3.pinned (fp := [h2.objs.size]) (fun b hb => by
              have eb : b = h2.objs.size := by simpa using hb
              subst eb
              exact I2.fpOk (Nat.le_refl _) (I2.hok.fresh (Nat.le_refl _))) (fun b hb => by
              have eb : b = h2.objs.size := by simpa using hb
              subst eb
              exact ⟨_, hbm, fun v z => by cases z⟩)
            show wpAny (model P w) X.A (callWith pos (.ref h2.objs.size) [] (backTo pos (starEach (e :: es) X.env)) []) _ _ _
            refine with_bound (g := f2) (self := .ref x) sc.fn (hst _) (hpl _) ?_
            have rdA : ta E0 σ1 w1.H fun vs5 H5 => ∃ w5 s5 ds5, w5.H = H5 ∧ Go c w1 w5 ∧ Ok K c w5 s5 ∧ RepL K c w5.al w5.F vs5 ds5 ∧ ds5.length = m2 ∧ Den K c ((g2 (.mu i0 :: ds5)).bind fun _ => W.ret D.non) w5 s5 (qV K c Q) (xE K c E) :=
              hla c w1 s1' σ1 δ1 _ E0 o1 sl1 ((Den.bind q1).calm.mono fun ds5 w5 s5 g5 o5 p5 vs5 r5 => ⟨w5, s5, ds5, rfl, g5, o5, r5, p5.1, p5.2⟩)
            refine wpAny_mono ((harg (.ref cda) cc A outer s w0.H E hrd).run pos _ _ σ1 w1.H _ (I4.wish _) rdA) (fun us5 s5 q5 => ?_) (fun _ _ z => z.elim)
            obtain ⟨vs5, H5, I5, r5, w5, s5', ds5, rfl, g5, o5, rl5, dl5, q5⟩ := q5
            have I5 : Inv X _ σ1 w5.H s5 := I5.unwish
            have hb5 : s5.heap.get? h2.objs.size = some { cls := .type "method", data := .fields #[.ref f2, .ref x] } := (I5.pin (h2.objs.size, _) (List.mem_append_right _ (List.mem_append_right _ (mem_pinsAt (List.mem_cons_self) hbm)))).1
            refine ⟨⟨hb5, I5.kIn⟩, ?_⟩
            show wpAny (model P w) X.A (call (.ref h2.objs.size) ([] ++ us5)) _ _ s5
            have sp2 : Pr K (m2 + 1) g2 (.ref x :: vs5) w5.H (fun _ H6 => Q .non H6) E := ⟨c, w5, s5', .mu i0 :: ds5, rfl, o5, .cons (.mu (g5.sub.at hi0)) rl5, by rw [List.length_cons, dl5], q5.bind.mono fun d w6 s6 g6 o6 p6 v rv => p6.ret o6 .non .non⟩
            have r25 : Vals (V.ref x :: vs5) (Value.ref x :: us5) := .cons rfl r5
            have hl2 : (Value.ref x :: us5).length = ps2.length := by rw [← r25.length]; exact G.len _ _ _ _ sp2
            refine wpAny_call (PySem.ks_codeAny_call_bound hb5 (codeAny_mono (G.run X.A X.stack s5 w5.H ⟨.ref x :: us5, []⟩ (.ref x :: us5) (.ref x :: vs5) _ E hrd I5.env0 ?_ r25 sp2) fun r6 s6 h6 => ?_))
            · have z := b2 s5 (.ref x :: us5) I5.kIn (by rw [List.append_nil]; exact hl2)
              rw [List.append_nil] at z
              exact z
            · cases r6 with
              | error er => exact px tk _ _ _ _ er s6 I5 h6
              | ok fl =>
                cases fl with
                | ret u6 =>
                  obtain ⟨v6, H6, I6, rv6, q6⟩ := I5.after h6
                  exact PySem.wpAt_of_wpAny (wpAny_execs_nil ⟨.non, H6, I6.os, I6.bare, I6.base, I6.hok, rfl, q6⟩)
                | next => exact False.elim h6
                | brk => exact False.elim h6
                | cont => exact False.elim h6
          | _ => exact q1.elim
        | _ => exact (show False from q1).elim
end
end Ly
namespace Ly
open PySem PySem.Spec L2 PyProof.Rows He
open Lx (Le Ky vTy IsTb IsOk OwnC rSumL tMaxD tLenSetS tSortSet tRevS revS uniq sgn)
section
variable {K : PySem.W.Frag}
@[reducible] def tyW : D → W Ky
  | .non => W.ret (.t "NoneType") | .bl _ => W.ret (.t "bool") | .int _ => W.ret (.t "int") | .str _ => W.ret (.t "str")
  | .lst _ => W.ret (.t "list") | .tup _ => W.ret (.t "tuple") | .dct _ => W.ret (.t "dict") | .obj c _ => W.ret (.c c)
  | .mu i => (W.get i).bind fun o => match o with | .lst _ => W.ret (.t "list") | .dct _ => W.ret (.t "dict") | .ins c _ => W.ret (.c c) | .gone => W.stuck
  | _ => W.stuck
@[reducible] def isiD (tb : IsTb) (x : D) : W D := (tyW x).bind fun t => match tb.lookup t with | some b => W.ret (.bl b) | none => W.stuck
theorem le_isi {cv : V} {u : Value} {tb : IsTb} {ta : XK → TE} {fa : List Sl → W D} (hc : ClsV cv u) (ht : IsOk K u tb) (ha : LE K ta fa) : LE K (fun E => tCB (rIsi K) (tCons (ta E) (tCons (tC cv) tNil))) (dOp1 (isiD tb) fa) := fun c w s σ δ Q E o sl h =>
  ha c w s σ δ _ E o sl (h.bind.mono fun x w1 s1 g1 o1 q v r1 => by
    have key : ∀ t : Ky, ((∀ cc, t = .c cc → OwnC K cc) → TyX K w1.H v (vTy K t)) → Den K c (match tb.lookup t with | some b => W.ret (D.bl b) | none => W.stuck) w1 s1 (qV K c Q) (xE K c E) → ∃ (x c : V) (t u : Value) (b : Bool), [v, cv] = [x, c] ∧ ClsV c u ∧ TyX K w1.H x t ∧ PySem.W.kitOne K t u = some b ∧ Q (.bl b) w1.H := fun t hty p => by
      cases e2 : tb.lookup t with
      | none => rw [e2] at p; exact p.elim
      | some b =>
        rw [e2] at p
        obtain ⟨k1, k2⟩ := ht.get e2
        exact ⟨v, cv, vTy K t, u, b, rfl, hc, hty k2, k1, p.ret o1 _ (.bl _)⟩
    cases r1 with
    | non => exact key (.t "NoneType") (fun _ => .base .non) q
    | bl b => exact key (.t "bool") (fun _ => .base (.bl b)) q
    | int i => exact key (.t "int") (fun _ => .base (.int i)) q
    | str x => exact key (.t "str") (fun _ => .base (.str x)) q
    | lst a r => exact key (.t "list") (fun _ => .base (.lst (o1.fro _ _ a))) q
    | tup a r =>
      refine key (.t "tuple") (fun _ => ?_) q
      rcases (SqT.of (o1.fro _ _ a) : SqT K _ _ _) with (z | ⟨ob, z⟩) | ⟨ob, its, n', z, zc, _⟩
      · exact .base (.tup z)
      · exact .fTuple z
      · exact .kTuple z zc
    | dct a r => exact key (.t "dict") (fun _ => .base (.dK (o1.fro _ _ a))) q
    | @obj a dx cl fs gs hf _ _ _ => exact key (.c cl) (fun k => (k _ rfl).ok _ _ _ _ (o1.fro _ _ hf)) q
    | @mu i a hi =>
      obtain ⟨mo, em, q⟩ := q
      have rm := o1.sto i a mo hi em
      cases mo with
      | lst xs => obtain ⟨_, vs, h1, _⟩ := rm; exact key (.t "list") (fun _ => .base (.lst h1)) q
      | dct xs => obtain ⟨_, vs, h1, _⟩ := rm; exact key (.t "dict") (fun _ => .base (.dK h1)) q
      | ins cl gs => obtain ⟨_, dx, vs, h1, _⟩ := rm; exact key (.c cl) (fun k => (k _ rfl).ok _ _ _ _ h1) q
      | gone => exact q.elim
    | pen => exact q.elim
    | err _ _ _ => exact q.elim
    | err0 _ => exact q.elim
    | slo _ _ _ _ => exact q.elim
    | gt _ _ => exact q.elim
    | sct _ => exact q.elim)
def lstsD : List D → Option (List (List D))
  | [] => some []
  | .lst xs :: r => (lstsD r).map (xs :: ·)
  | _ => none
def intsD : List D → Option (List Int)
  | [] => some []
  | .int i :: r => (intsD r).map (i :: ·)
  | _ => none
@[reducible] def sumD : List D → W D
  | [.lst xs, .lst acc] => (match lstsD xs with
    | some yss => W.need ((acc ++ yss.flatten).length ≤ sizeLine) (W.ret (.lst (acc ++ yss.flatten)))
    | none => W.stuck)
  | _ => W.stuck
theorem lsts_rep {c : Cg} {al : List Addr} {F : Hp} : ∀ {vs : List V} {ds : List D} {yss : List (List D)}, RepL K c al F vs ds → lstsD ds = some yss → ∃ ws : List (Addr × List V), vs = ws.map (fun w => V.ref w.1) ∧ (∀ w ∈ ws, F w.1 = some (.lst w.2)) ∧ RepL K c al F (ws.flatMap (·.2)) yss.flatten
  | _, _, _, .nil, h => by cases h; exact ⟨[], rfl, (fun w z => nomatch z), .nil⟩
  | _, _, _, .cons (d := d) (ds := ds) a r, h => by
    cases a with
    | @lst b vs xs hf rf =>
      unfold lstsD at h
      cases e : lstsD ds with
      | none => rw [e] at h; cases h
      | some yss =>
        rw [e] at h; cases h
        obtain ⟨ws, h1, h2, h3⟩ := lsts_rep r e
        refine ⟨(b, vs) :: ws, by rw [h1]; rfl, fun w hw => ?_, by rw [List.flatMap_cons, List.flatten_cons]; exact rf.app h3⟩
        rcases List.mem_cons.mp hw with rfl | hw
        · exact hf
        · exact h2 w hw
    | _ => cases h
theorem lo_sum : LOn K (rSumL K) sumD := fun c w s vs xs Q E o r h => by
  unfold sumD at h
  split at h
  · rename_i xs acc
    obtain ⟨v, u, rfl, rv, ru⟩ := r.two
    cases rv with
    | @lst a vs ds hf rf =>
      cases ru with
      | @lst p us es hg rg =>
        cases e : lstsD xs with
        | none => rw [e] at h; exact h.elim
        | some yss =>
          rw [e] at h
          obtain ⟨ws, h1, h2, h3⟩ := lsts_rep rf e
          have hall := rg.app h3
          refine ⟨a, p, ws, us, rfl, by rw [← h1]; exact SqL.of (o.fro _ _ hf), fun w hw => o.fro _ _ (h2 w hw), o.fro _ _ hg, by rw [hall.len]; exact h.1, fun hws => ?_, fun hws q hq => ?_⟩
          · subst hws
            have e0 : yss.flatten = [] := List.eq_nil_of_length_eq_zero (by rw [← h3.len]; rfl)
            have h2 := h.2
            rw [e0, List.append_nil] at h2
            exact h2 _ (Go.refl ..) o _ (.lst hg rg)
          · obtain ⟨o2, g2⟩ := o.lay (o := .lst (us ++ ws.flatMap (·.2))) hq notOwn.1
            exact h.2 _ g2 o2 (.ref q) (.lst upd_same (hall.up g2.sub))
  · exact h.elim
@[reducible] def dLenSet (fa : List Sl → W D) : List Sl → W D := fun δ => (fa δ).bind fun x => match x with
  | .str y => W.need (y.cps.size < 4000) (W.ret (.int (uniq [] y.cps.toList).length))
  | _ => W.stuck
theorem le_lenSet {ta : XK → TE} {fa : List Sl → W D} (ha : LE K ta fa) : LE K (fun E => tLenSetS (ta E)) (dLenSet fa) := fun c w s σ δ Q E o sl h =>
  ha c w s σ δ _ E o sl (h.bind.mono fun x w1 s1 g1 o1 q v r1 => by
    cases r1 with
    | str y => exact ⟨y, rfl, q.1, q.2 _ (Go.refl ..) o1 _ (.int _)⟩
    | _ => exact q.elim)
@[reducible] def dRevS (f : List Sl → W D) : List Sl → W D := fun δ => (f δ).bind fun d => match d with
  | .str x => W.need (x.length ≤ sizeLine) (W.ret (.str (revS x)))
  | _ => W.stuck
theorem le_revS {te : XK → TE} {f : List Sl → W D} (he : LE K te f) : LE K (fun E => tRevS (te E)) (dRevS f) := fun c w s σ δ Q E o sl h =>
  he c w s σ δ _ E o sl (h.bind.mono fun x w1 s1 g1 o1 q v r1 => by
    cases r1 with
    | str y => exact ⟨y, rfl, q.1, q.2 _ (Go.refl ..) o1 _ (.str _)⟩
    | _ => exact q.elim)
@[reducible] def dIS (f : List Sl → W D) : List Sl → W (List D) := fun δ => (f δ).bind fun d => match d with | .str x => W.ret (x.cps.toList.map fun c => D.str ⟨#[c]⟩) | _ => W.stuck
theorem li_str {te : XK → TE} {f : List Sl → W D} (he : LE K te f) : LI K (fun E => iStr (te E)) (dIS f) := fun c w s σ δ R E o sl h =>
  he c w s σ δ _ E o sl (h.bind.mono fun d w1 s1 g1 o1 p v r1 => by
    cases r1 with
    | str x =>
      refine ⟨x, rfl, p.ret o1 _ fun i w2 s2 l2 o2 => ⟨fun d hd => ?_, fun hl => ?_⟩⟩
      · rw [List.getElem?_map] at hd
        cases e : x.cps.toList[i]? with
        | none => rw [e] at hd; cases hd
        | some k =>
          rw [e] at hd; cases hd
          have e2 : x.cps[i]? = some k := by simpa using e
          refine ⟨(Array.getElem?_eq_some_iff.mp e2).1, fun y H3 hy => ?_⟩
          obtain ⟨rfl, c', hc', rfl⟩ := hy
          rw [e2] at hc'; cases hc'
          exact ⟨w2, rfl, Go.refl .., o2, .str _⟩
      · show x.cps.size ≤ i
        simpa using hl
    | _ => exact p.elim)
@[reducible] def reprD : List D → W D
  | [x] => match toP x with
    | some d => W.need (d.showable = true ∧ d.depth ≤ 60 ∧ d.hasDict = false ∧ d.shown.length ≤ sizeLine) (W.ret (.str d.shown))
    | none => W.stuck
  | _ => W.stuck
theorem lo_repr : LOn K (Lx.rRepr K) reprD := fun c w s vs xs Q E o r h => by
  unfold reprD at h
  split at h
  · obtain ⟨v, rfl, rv⟩ := r.one
    split at h
    · rename_i d e
      exact ⟨v, d, rfl, rv.dp o.fro e, h.1.1, h.1.2.1, h.1.2.2.1, h.1.2.2.2, h.2 _ (Go.refl ..) o _ (.str _)⟩
    · exact h.elim
  · exact h.elim
def rMulU : R2 := fun x y H Q => (∃ i j, x = .str i ∧ y = .int j ∧ PySem.MulOk i j ∧ Q (.str (Txt.mul i j)) H) ∨ (rI CMul fun i j => .int (i * j)) x y H Q
theorem op_mulS {X : Cx} : OpR X (binaryOp .Mult) (fun x y H Q => ∃ i j, x = .str i ∧ y = .int j ∧ PySem.MulOk i j ∧ Q (.str (Txt.mul i j)) H) := by
  intro pins s σ H x y u v Q I rx ry h
  obtain ⟨i, j, rfl, rfl, hm, q⟩ := h
  obtain ⟨t1, rfl⟩ := rx
  obtain ⟨t2, rfl⟩ := ry
  exact PySem.SB.mul hm fun t' k => ⟨.str (Txt.mul i j), H, I.tok k, ⟨t', rfl⟩, q⟩
theorem op_mulU {X : Cx} : OpR X (binaryOp .Mult) rMulU := op_mulS.or op_mul
@[reducible] def mulUD : D → D → W D
  | .str i, .int j => W.need (PySem.MulOk i j) (W.ret (.str (Txt.mul i j)))
  | .int i, .int j => W.need (CMul i j) (W.ret (.int (i * j)))
  | _, _ => W.stuck
theorem lo_mulU : LO2 K rMulU mulUD := fun c w s v u x y Q E o rx ry h => by
  cases rx with
  | int i => cases ry with
    | int j => exact .inr ⟨i, j, rfl, rfl, h.1, h.2 _ (Go.refl ..) o _ (.int _)⟩
    | _ => exact h.elim
  | str i => cases ry with
    | int j => exact .inl ⟨i, j, rfl, rfl, h.1, h.2 _ (Go.refl ..) o _ (.str _)⟩
    | _ => exact h.elim
  | _ => exact h.elim
end
@[reducible] def drawD : List D → W D
  | [.pen, .int m] => W.need (0 < m ∧ m < 1073741824) (W.any 1 fun d => ∃ i : Int, d = .int i ∧ 0 ≤ i ∧ i < m)
  | _ => W.stuck
def noTbl (F : Hp) : Hp := fun a => match F a with | some (.tbl _) => none | o => o
theorem noTbl_le {F H : Hp} (e : Le F H) : Le (noTbl F) H := fun a o h => by
  unfold noTbl at h
  split at h
  · cases h
  · exact e a o h
theorem noTbl_get {F : Hp} {a : Addr} {o : HO} (h : F a = some o) (nt : ∀ ps, o ≠ .tbl ps) : noTbl F a = some o := by
  unfold noTbl
  rw [h]
  split
  · rename_i ps e; cases e; exact absurd rfl (nt ps)
  · rfl
theorem noTbl_none {F : Hp} {a : Addr} (h : F a = none) : noTbl F a = none := by unfold noTbl; rw [h]
theorem noTbl_sq {K : PySem.W.Frag} {F : Hp} {a : Addr} {xs : List V} (h : SqL K F a xs) : SqL K (noTbl F) a xs := by
  rcases h with (h | ⟨o, h⟩) | h
  · exact .inl (.inl (noTbl_get h fun _ z => by cases z))
  · exact .inl (.inr ⟨o, noTbl_get h fun _ z => by cases z⟩)
  · exact .inr h
theorem draw_pure {K : PySem.W.Frag} {vs : List V} {H : Hp} {Q : VK} {E : XK} (h : Pr K 2 drawD vs H Q E) : Lx.Pr K 2 Lx.drawD vs H Q E := by
  obtain ⟨c, w, s, ds, rfl, o, r, dl, q⟩ := h
  match ds, r, q with
  | [.pen, .int m], r, q =>
    obtain ⟨v, u, rfl, rv, ru⟩ := r.two
    cases rv
    cases ru
    obtain ⟨hm, k, hk, q⟩ := q
    refine ⟨c.pn, w.F, [.pen, .int m], s.n, ⟨o.fro, o.fpn, o.pen⟩, .cons .pen (.cons (.int m) .nil), rfl, hm, k, hk, fun a ha v2 F' H' g' o' r' => ?_⟩
    obtain ⟨i, rfl, i0, i1⟩ := ha
    have np : ∀ {a : Addr} {u : HO}, w.H a = some u → (∀ l t lf, u ≠ .dK (Lx.penKvs l t lf)) → a ≠ c.pn := fun {a u} e n z => by
      subst z
      obtain ⟨l, cs, t, lf, hp, _⟩ := o.pen
      rw [e] at hp
      exact n l t lf (Option.some.inj hp)
    have na : ∀ a ∈ w.al, a ≠ c.pn := fun a z e => o.pna (e ▸ z)
    have same : ∀ a ∈ w.al, H' a = w.H a := fun a z => by
      cases q2 : w.H a with
      | none => exact absurd q2 (o.occ a z)
      | some u => exact g'.keep a u (na a z) q2
    have sb : Sub w.al w.F w.al (noTbl F') := ⟨List.prefix_refl _, fun a u e => noTbl_get (g'.sub a u e) fun ps z => o.ftb a ps (by rw [e, z])⟩
    have o2 : Ok K c ⟨w.al, noTbl F', H'⟩ ⟨k, s.st⟩ := by
      refine ⟨noTbl_le o'.fro, noTbl_none o'.fpn, o.pna, o.nd, o.len, fun a z => ?_, ?_, fun p hp => ?_, fun a ps e => ?_, fun a z ps => ?_, fun a z φ => ?_, fun j a m2 e1 e2 => ?_⟩
      · show H' a ≠ none
        rw [same a z]; exact o.occ a z
      · obtain ⟨l, cs, t, lf, h1, h2, h3⟩ := o'.pen
        exact ⟨l, cs, t, lf, h1, noTbl_sq h2, h3⟩
      · obtain ⟨ps, h1, h2, h3⟩ := o.tab p hp
        refine ⟨ps, g'.keep _ _ (np h1 fun _ _ _ z => by cases z) h1, h2, fun pos cv hc => ?_⟩
        obtain ⟨d, e1, e2⟩ := h3 pos cv hc
        exact ⟨d, e1, g'.keep _ _ (np e2 fun _ _ _ z => by unfold LamX.CodeO at z; cases z) e2⟩
      · have e : noTbl F' a = some (.tbl ps) := e
        unfold noTbl at e
        split at e
        · cases e
        · rename_i hn; exact hn ps e
      · show H' a ≠ _
        rw [same a z]; exact o.atb a z ps
      · show H' a ≠ _
        rw [same a z]; exact o.aco a z φ
      · have hm2 := List.mem_of_getElem? e1
        refine (o.sto j a m2 e1 e2).of sb (same a hm2) fun z => noTbl_none ?_
        cases q3 : F' a with
        | none => rfl
        | some u => exact absurd (g'.new a u q3 z) (o.occ a hm2)
    have g2 : Go c w ⟨w.al, noTbl F', H'⟩ := by
      refine ⟨fun a u n1 _ _ e => g'.keep a u n1 e, sb, fun a u e n => .inl (Wd.fre_none ?_), fun a z => .inl z⟩
      have e : noTbl F' a = some u := e
      cases q3 : F' a with
      | none => rw [noTbl_none q3] at e; cases e
      | some u2 => exact g'.new a u2 q3 n
    cases r'
    exact q (.int i) ⟨i, rfl, i0, i1⟩ _ g2 o2 _ (.int i)
end Ly
set_option maxHeartbeats 4000000
namespace Ly
open PySem PySem.Spec L2 PyProof.Rows He
open Lx (Le Ky vTy rEqU rNeU op_eqU op_neU)
section
variable {prog : Program} {w : World} {A : Around} {E : Value → Shared → Prop} {s : Shared} {K : PySem.W.Frag} {x C f L : Addr} {ox : Obj} {od : Option Obj} {b tb : Value} {h₀ : Heap} {m : Str → Option Value}
theorem ifBound_slot {M : Model} {name : Str} {id : String} {args : List Value} {Q : Option Value → Shared → Prop} (X : K.In s.heap) (I : PySem.W.InstAt s.heap x ox C od) (hs : PySem.W.findIn K (.ref C) name = some (some (.builtin id))) (S : Slot "object" name id)
    (h : wpAny M A (call (.builtin id) (.ref x :: args)) (fun v => Q (some v)) E s) : wpAny M A (callSpecialIfBound? (.ref x) name args) Q E s := by
  simp only [callSpecialIfBound?, bindSpecialIfBound?]
  refine wpAny_holding (wpAny_bind (wpAny_bind (wpAny_bind (I.type.here ((PySem.W.looks_findIn X hs).here ?_)))))
  refine wpAny_bind (wpAny_askSetting (wpAny_ite ?_))
  have last : wpAny M A (call (.builtin id) ([.ref x] ++ args) >>= fun v => pure (some v)) Q E s := wpAny_bind (wpAny_mono h (fun v s' h' => wpAny_pure h') fun _ _ h' => h')
  simp only [S.bind]
  split
  · exact wpAny_bind (wpAny_pure (wpAny_pure (by exact last)))
  · exact wpAny_tryCatch (wpAny_bind (wpAny_pure (wpAny_pure (by exact last))))
theorem ne_own {Q : Value → Shared → Prop} (hu : A.units + 1 < cLine) (F0 : Fr h₀ L s.heap m) (X₀ : K.In h₀) (I : PySem.W.InstAt s.heap x ox C od) (hb : PySem.W.Looks (model prog w) s.heap (typeOf b) tb) (hn : PySem.W.notFirst K C tb = true)
    (hne : PySem.W.findIn K (.ref C) "__ne__" = some (some (.builtin "object.__ne__"))) (hs : PySem.W.findIn K (.ref C) "__eq__" = some (some (.ref f))) (hf : PySem.W.isFn K (.ref f) = true) (ho : PySem.W.subIn K (.ref C) (.type "object") = some true)
    (h : wpAny (model prog w) A.in1 (call (.ref f) [.ref x, b]) (fun v s' => ∃ r, v = .bool r ∧ Q (.bool (!r)) s') E s) : wpAny (model prog w) A (richCompare .NotEq (.ref x) b) Q E s := by
  have X := X₀.keeps F0.keep
  have one : wpAny (model prog w) A (tryCompare (.ref x) "__ne__" b) (fun r s' => ∃ v, r = some v ∧ Q v s') E s := by
    unfold tryCompare
    refine wpAny_bind (ifBound_slot X I hne F.cmp_object.ne ?_)
    have sub : PySem.W.Looks (model prog w) s.heap (isInstance (.ref x) (.type "object")) true := I.type.andThen (PySem.W.looks_subIn X ho)
    refine wpAny_call (codeAny_call_builtin F.cmp_object.ne.plain F.cmpEntry_ne ?_)
    refine @PySem.W.check_slot (model prog w) _ _ s "object.__ne__" "object" "__ne__" (.ref x) [b] [] _ F.cmpKind_ne F.cmpSplit_ne sub (F.cmpArgs_ne _ _) ?_
    unfold Builtin.«object.__ne__»
    refine wpAny_bind (wpAny_of_eq (a := ((Value.ref x : Value), [b])) (by first | rfl | (simp only [slotArgs]; rfl)) ?_)
    refine wpAny_bind (wpAny_cRoomFor hu ?_)
    refine wpAny_bind (PySem.W.ifBound_K X I hs hf (wpAny_mono h (fun v s' hv => ?_) fun _ _ e => e))
    obtain ⟨r, rfl, q⟩ := hv
    refine wpAny_bind (wpAny_truthy_bool ?_)
    exact wpAny_pure (wpAny_pure ⟨_, rfl, q⟩)
  unfold richCompare
  simp only [oneThing_ref]
  refine wpAny_holding (wpAny_bind (wpAny_cRoomFor (Nat.lt_of_succ_lt hu) ?_))
  refine wpAny_bind (I.type.here (wpAny_bind (hb.here ?_)))
  split
  · rename_i q
    have e : PySem.W.subIn K tb (.ref C) = some false := by
      rcases Bool.or_eq_true_iff.mp hn with e | e
      · rw [beq_iff_eq.mp e] at q; simp at q
      · exact beq_iff_eq.mp e
    refine wpAny_bind ((PySem.W.looks_subIn X e).here ?_)
    simp only [Bool.false_eq_true, if_false]
    refine wpAny_bind (wpAny_mono one (fun r s' z => ?_) fun _ _ e => e)
    obtain ⟨v, rfl, hq⟩ := z
    exact wpAny_pure hq
  · refine wpAny_bind (wpAny_pure ?_)
    simp only [Bool.false_eq_true, if_false]
    refine wpAny_bind (wpAny_mono one (fun r s' z => ?_) fun _ _ e => e)
    obtain ⟨v, rfl, hq⟩ := z
    exact wpAny_pure hq
end
@[reducible] def eqO (tb : Tb) (tys : List Ky) (neg : Bool) (x y : D) : W D := match x with
  | .obj cl _ => (match tb.lookup cl with
    | some g => (tyW y).bind fun t => W.need (t ∈ tys) (((g [x, y]).calm).bind fun v => (blD v).bind fun b => W.ret (.bl (if neg then !b else b)))
    | none => W.stuck)
  | _ => if neg then neD x y else eqD x y
theorem ty_of {K : PySem.W.Frag} {c : Cg} {w : Wd} {s : S} {v : V} {y : D} {A : Type} {f : Ky → W A} {Q : A → Wd → S → Prop} {E : Xn → Wd → S → Prop} (o : Ok K c w s) (r : Rep K c w.al w.F v y) (h : Den K c ((tyW y).bind f) w s Q E) :
    ∃ t, ((∀ cl, t = .c cl → Lx.OwnC K cl) → TyX K w.H v (vTy K t)) ∧ Den K c (f t) w s Q E := by
  cases r with
  | non => exact ⟨.t "NoneType", fun _ => .base .non, h⟩
  | bl b => exact ⟨.t "bool", fun _ => .base (.bl b), h⟩
  | int i => exact ⟨.t "int", fun _ => .base (.int i), h⟩
  | str x => exact ⟨.t "str", fun _ => .base (.str x), h⟩
  | lst a r => exact ⟨.t "list", fun _ => .base (.lst (o.fro _ _ a)), h⟩
  | tup a r =>
    refine ⟨.t "tuple", fun _ => ?_, h⟩
    rcases (SqT.of (o.fro _ _ a) : SqT K _ _ _) with (z | ⟨ob, z⟩) | ⟨ob, its, n', z, zc, _⟩
    · exact .base (.tup z)
    · exact .fTuple z
    · exact .kTuple z zc
  | dct a r => exact ⟨.t "dict", fun _ => .base (.dK (o.fro _ _ a)), h⟩
  | @obj a dx cl fs gs hf _ _ _ => exact ⟨.c cl, fun k => (k _ rfl).ok _ _ _ _ (o.fro _ _ hf), h⟩
  | @mu i a hi =>
    obtain ⟨mo, em, q⟩ := h
    have rm := o.sto i a mo hi em
    cases mo with
    | lst xs => obtain ⟨_, vs, h1, _⟩ := rm; exact ⟨.t "list", fun _ => .base (.lst h1), q⟩
    | dct xs => obtain ⟨_, vs, h1, _⟩ := rm; exact ⟨.t "dict", fun _ => .base (.dK h1), q⟩
    | ins cl gs => obtain ⟨_, dx, vs, h1, _⟩ := rm; exact ⟨.c cl, fun k => (k _ rfl).ok _ _ _ _ h1, q⟩
    | gone => exact q.elim
  | pen => exact h.elim
  | err _ _ _ => exact h.elim
  | err0 _ => exact h.elim
  | slo _ _ _ _ => exact h.elim
  | gt _ _ => exact h.elim
  | sct _ => exact h.elim
inductive TabE (P : Program) (w : World) (K : PySem.W.Frag) (mg : Str → Option Value) (base : Heap) (k : Nat) (tys : List Ky) : Tb → Prop
  | nil : TabE P w K mg base k tys []
  | cons {cl : Str} {g : List D → W D} {tb : Tb} {f : Addr} : Cls K (ga K cl) → PySem.W.findIn K (.ref (ga K cl)) "__eq__" = some (some (.ref f)) → PySem.W.isFn K (.ref f) = true → PySem.W.findIn K (.ref (ga K cl)) "__ne__" = some (some (.builtin "object.__ne__")) → PySem.W.subIn K (.ref (ga K cl)) (.type "object") = some true →
    (∀ t ∈ tys, PySem.W.notFirst K (ga K cl) (vTy K t) = true) → Fk P w K mg base k f (Pr K 2 g) → TabE P w K mg base k tys tb → TabE P w K mg base k tys ((cl, g) :: tb)
end Ly
namespace Ly
open PySem PySem.Spec L2 PyProof.Rows He
open Lx (Le)
section
variable {K : PySem.W.Frag}
@[reducible] def dApp (i : Nat) (f : List Sl → W D) : List Sl → W Out := fun δ => (dVar i δ).bind fun x => match x with
  | .mu j => (W.get j).bind fun o => (match o with
    | .lst _ => (f δ).bind fun y => (W.get j).bind fun o => (match o with
      | .lst xs => W.need (xs.length < sizeLine) ((W.put j (.lst (xs ++ [y]))).bind fun _ => W.ret (.nx δ))
      | _ => W.stuck)
    | _ => W.stuck)
  | _ => W.stuck
theorem ls_app {te : XK → TE} {f : List Sl → W D} {i : Nat} (he : LE K te f) : LS K (fun E => tDrop (tBM K "list" rAppend (tVar i) (tCons (te E) tNil))) (dApp i f) := fun c w s σ δ D E o sl q => by
  have q := q.bind
  unfold dVar at q
  cases e : δ[i]? with
  | none => rw [e] at q; exact (show False from q).elim
  | some x => cases x with
    | none => rw [e] at q; exact (show False from q).elim
    | some d =>
      rw [e] at q
      have q := Den.ret q o
      obtain ⟨v, hv, rv⟩ := sl.val i d e
      cases rv with
      | @mu j a hj =>
        obtain ⟨mo, em, q⟩ := q
        have rm := o.sto j a mo hj em
        cases mo with
        | lst xs0 =>
          obtain ⟨hF0, vs0, h0, _⟩ := rm
          refine ⟨.ref a, hv, .inl ⟨rfl, vs0, SqL.of h0⟩, he c w s σ δ _ E o sl ((Den.bind q).mono fun y w1 s1 g1 o1 p u ru => ?_)⟩
          obtain ⟨mo1, em1, p⟩ := p
          have hj1 := g1.sub.at hj
          have rm1 := o1.sto j a mo1 hj1 em1
          cases mo1 with
          | lst xs =>
            obtain ⟨hF, vs, h1, rl⟩ := rm1
            obtain ⟨p1, p2⟩ := p
            refine ⟨a, vs, u, rfl, rfl, h1, by rw [rl.len]; exact p1, ?_⟩
            obtain ⟨o2, g2⟩ := o1.ch (p := a) (o := .lst (vs ++ [u])) (mo := .lst (xs ++ [y])) hj1 hF notOwn.1 notOwn.2 ⟨hF, _, upd_same, rl.app (.cons ru .nil)⟩
            exact p2 _ g2 o2 σ ((sl.go g1).go g2)
          | _ => exact p.elim
        | _ => exact q.elim
      | _ => exact (show False from q).elim
@[reducible] def iceD (i : Nat) : List Sl → W (List Sl) := fun δ => match δ[i]? with
  | some (some (.mu j)) => (W.get j).bind fun o => (match o with
    | .lst xs => (W.put j .gone).bind fun _ => W.ret (δ.set i (some (.lst xs)))
    | _ => W.stuck)
  | _ => W.ret δ
theorem ls_ice {ts : XK → TS} {g : List Sl → W Out} (i : Nat) (h : LS K ts g) : LS K ts (fun δ => (iceD i δ).bind g) := fun c w s σ δ D E o sl q => by
  have q := q.bind
  unfold iceD at q
  split at q
  · rename_i j e
    obtain ⟨mo, em, q⟩ := q
    obtain ⟨v, hv, rv⟩ := sl.val i _ e
    cases rv with
    | @mu _ a hj =>
      have rm := o.sto j a mo hj em
      cases mo with
      | lst xs =>
        obtain ⟨hF, vs, h1, rl⟩ := rm
        obtain ⟨o2, g2⟩ := o.ice hj hF h1
        have sl2 := (sl.go g2).set (i := i) (v := .ref a) (d := .lst xs) (.lst upd_same (rl.up g2.sub))
        have e1 : σ.set i (some (.ref a)) = σ := by
          apply List.ext_getElem?
          intro k
          by_cases hk : k = i
          · subst hk
            rw [List.getElem?_set_self (List.getElem?_eq_some_iff.mp hv).1, hv]
          · rw [List.getElem?_set_ne (Ne.symm hk)]
        rw [e1] at sl2
        exact h c ⟨w.al, upd w.F a (.lst vs), w.H⟩ ⟨s.n, s.st.set j .gone⟩ σ _ D E o2 sl2 (q ⟨w.al, upd w.F a (.lst vs), w.H⟩ g2 o2)
      | _ => exact q.elim
  · exact h c w s σ δ D E o sl (Den.ret q o)
end
def pick {α : Type} (is : List Nat) (zs : List α) : List α := is.filterMap fun i => zs[i]?
theorem vals_pick : ∀ (is : List Nat) {zs : List V} {ws : List Value}, Vals zs ws → Vals (pick is zs) (pick is ws)
  | [], _, _, _ => .nil
  | i :: is, zs, ws, r => by
    unfold pick
    rw [List.filterMap_cons, List.filterMap_cons]
    cases e : zs[i]? with
    | none => rw [r.none_of e]; exact vals_pick is r
    | some z => obtain ⟨u, hu, ru⟩ := r.get e; rw [hu]; exact .cons ru (vals_pick is r)
theorem RepL.pick {K : PySem.W.Frag} {c : Cg} {al : List Addr} {F : Hp} : ∀ (is : List Nat) {vs : List V} {ds : List D}, RepL K c al F vs ds → RepL K c al F (pick is vs) (pick is ds)
  | [], _, _, _ => .nil
  | i :: is, vs, ds, r => by
    unfold Ly.pick
    rw [List.filterMap_cons, List.filterMap_cons]
    cases e : ds[i]? with
    | none =>
      have : vs[i]? = none := by
        rw [List.getElem?_eq_none_iff] at e ⊢
        rw [r.len]; exact e
      rw [this]; exact RepL.pick is r
    | some d => obtain ⟨v, hv, rv⟩ := r.get e; rw [hv]; exact .cons rv (RepL.pick is r)
section
variable {X : Cx} {E : XK} {k : Nat} {f C : Addr} {sp : Sp} {x : Str} {p pos : Pos} {e : Expr} {es : List Expr} {t : TA}
theorem pe_mk (M : Mk X.K C f) (F : Fk X.prog X.w X.K X.mg X.base k f sp) (hr : Room (k + 1) X.A) (hx : Passes (L2.CX X.prog X.w) X E) (hg : Gl X x) (hm : X.mg x = some (.ref C)) (ha : PA X (e :: es) t)
    (hdb : (x == ("__debug__" : Str)) = false := by decide) (he : starEach (e :: es) X.env = (false, eval e X.env) :: starEach es X.env := by rfl) (hpl : (backTo pos (starEach es X.env)).any (·.1) = false := by rfl) :
    PE X (.Call (.Name x p) (e :: es) [] pos) (tMake C sp [] E t) := by
  obtain ⟨fd, ps, G, hb, hk⟩ := F.ex
  exact pe_make M G hr hg hm hb .nil hx ha hdb he hpl
end
theorem FunD.code {K : PySem.W.Frag} {x qual : Str} {params : Arguments} {body : List Stmt} {scope : Scope} {dvs : List V} {kws : List (Str × V)} {f : Addr} {fd : FuncData} (F : FunD K x qual params body scope dvs kws f fd) : fd.code = .ref (coA K f) := by
  obtain ⟨oc, od, dV, kV, doc, pm, an, cdv, ct, osl, rfl, lk, hcd, _, _⟩ := F.ex
  cases cdv with
  | ref c =>
    unfold coA
    rw [lk]
  | _ => cases hcd
section
variable {P : Program} {w : World} {K : PySem.W.Frag} {mg : Str → Option Value} {base : Heap} {x qual : Str} {params : Arguments} {body : List Stmt} {scope : Scope} {dvs : List V} {kws : List (Str × V)} {f : Addr} {fd : FuncData}
theorem fnG_ofC {CX : CXT} {N ps : List Str} {k : Nat} {sp : Sp} (F : FunD K x qual params body scope dvs kws f fd) (S : FnScope N ps scope) (len : ∀ vs H Q E, sp vs H Q E → vs.length = ps.length)
    (hb : ∀ (cdv : Value) (A : Around) (outer : List Env) (s : Shared) (H : Hp) (vs : List V) (Q : VK) (E : XK), cdv = .ref (coA K f) → (A.deeper (envOfC qual scope s.heap.objs.size f cdv)).guards = some [] → Room k (A.deeper (envOfC qual scope s.heap.objs.size f cdv)) → sp vs H Q E →
      ∃ t, PSs (cxOf CX P w K mg base N qual scope f cdv A outer s H E) body t ∧ t { nx := fun _ H' => Q .non H', rt := Q } (L2.start N vs) H) : Lx.FnG P w K mg base CX (k + 1) f fd ps sp := by
  refine ⟨len, fun A outer s H args us vs Q E hg hr he hbd hv hs => ?_⟩
  have hco := FunD.code F
  obtain ⟨oc, od, dV, kV, doc, pm, an, cdv, ct, osl, rfl, lk, hcd, _, _⟩ := F.ex
  have hl := len _ _ _ _ hs
  have st : ∀ b o, base.get? b = some o → s.heap.get? b = some o := fun b o e => (he.bs b o e).1
  have KX : K.In s.heap := he.mod.kin.keeps st
  have kinds : ∀ y ∈ ps.zip us, scope.names.lookup y.1 = some .local ∨ (scope.names.lookup y.1 = some .cell ∧ ((cellsFrom (s.heap.objs.size + 1) scope.names []).lookup y.1).isSome = true) := fun y hy => by
    have hm := (List.of_mem_zip (a := y.1) (b := y.2) hy).1
    exact (S.par y.1 hm).imp id fun q => ⟨q, PySem.W.cellsFrom_some _ _ _ (.inl q)⟩
  refine codeAny_call_function hr.depth (KX _ _ lk) rfl S.co S.gen rfl (PySem.W.codeRec_of KX hcd) (hbd _ _ _ _ (wpAny_newFunctionEnv_cells S.kind kinds fun env ee s1 ic => ?_))
  subst ee
  refine ⟨(he.mod.nolimit.keeps st).keeps ic.toInCall.keep, codeAny_func ?_⟩
  obtain ⟨t, ht, hq⟩ := hb cdv A outer s H vs Q E hco hg (hr.deeper _) hs
  have I := inv_start (CX := CX) (E := E) S hr.hd he hl hv ic
  refine wpAny_mono (ht.run [] s1 (L2.start N vs) H _ I hq) (fun fl s2 h2 => ?_) fun _ _ z => z
  cases fl with
  | ret u => obtain ⟨v, σ2, H2, J, rv, q⟩ := h2; exact ⟨v, H2, J.os, J.bare, J.base, J.hok, rv, q⟩
  | next => obtain ⟨σ2, H2, J, q⟩ := h2; exact ⟨.non, H2, J.os, J.bare, J.base, J.hok, rfl, q⟩
  | brk => obtain ⟨_, _, _, q⟩ := h2; exact False.elim q
  | cont => obtain ⟨_, _, _, q⟩ := h2; exact False.elim q
end
end Ly
namespace Ly
open PySem PySem.Spec L2 PyProof.Rows He
open Lx (Le Ky vTy Fm DefM FnM fnM eqB)
section
variable {K : PySem.W.Frag}
theorem fy_nf {cs : List Str} {ts : List Ky} (h : (Fy.nf cs ts).ok K = true) {x : Str} (hx : x ∈ cs) : ∀ t ∈ ts, PySem.W.notFirst K (ga K x) (vTy K t) = true := fun t ht => List.all_eq_true.mp (List.all_eq_true.mp h x hx) t ht
theorem fy_ns {cs : List Str} (h : (Fy.ns cs).ok K = true) {x : Str} (hx : x ∈ cs) : ∀ T ∈ (["NoneType", "bool", "int", "str", "list", "tuple", "dict"] : List String), PySem.W.subIn K (.ref (ga K x)) (.type T) = some false := fun T hT => of_decide_eq_true (List.all_eq_true.mp (List.all_eq_true.mp h x hx) T hT)
theorem fy_eq {x y : Str} (h : (Fy.eq x y).ok K = true) : PySem.W.findIn K (.ref (ga K x)) "__eq__" = some (some (.ref (ma K (ga K y) "__eq__"))) ∧ PySem.W.isFn K (.ref (ma K (ga K y) "__eq__")) = true ∧ PySem.W.findIn K (.ref (ga K x)) "__ne__" = some (some (.builtin "object.__ne__")) ∧ PySem.W.subIn K (.ref (ga K x)) (.type "object") = some true := by
  obtain ⟨h1, h⟩ := ba h
  obtain ⟨h2, h⟩ := ba h
  obtain ⟨h3, h4⟩ := ba h
  exact ⟨eqO_ok h1, h2, eqO_ok h3, of_decide_eq_true h4⟩
end
theorem obsYG_eq {n : Nat} {file : Str} {fa : List Fy} {fn : List DefM} {g : Addr → Option Obj} {s : Shared} (h : ∀ a, g a = s.heap.get? a) : obsYG n file fa fn g = (hookY n file fa fn).obs s := by
  have e : g = s.heap.get? := funext h
  rw [e] <;> rfl
section
variable {file : Str} {fa : List Fy} {fn : List DefM} {K : PySem.W.Frag}
theorem SaysY.fact (c : SaysY file fa fn K) {f : Fy} (i : Nat) (h : fa[i]? = some f) : f.ok K = true := List.all_eq_true.mp c.fa f (List.mem_of_getElem? h)
theorem SaysY.fm (c : SaysY file fa fn K) {f : Fm} (i : Nat) (h : fa[i]? = some (.m f)) : f.ok K = true := c.fact i h
theorem SaysY.def_ (c : SaysY file fa fn K) (i : Nat) {d : DefM} (h : fn[i]? = some d) : fnM K (d.at_.a K) = d.val ∧ d.ok K file = true := by
  have e2 : (fn.map fun d => fnM K (d.at_.a K))[i]? = (fn.map DefM.val)[i]? := by rw [c.fn]
  rw [List.getElem?_map, List.getElem?_map, h] at e2
  exact ⟨Option.some.inj e2, List.all_eq_true.mp c.ok d (List.mem_of_getElem? h)⟩
end
def spLaw (K : PySem.W.Frag) : Sp := fun vs H Q _ => ∃ (a : Addr) (ns : List Int), vs = [.ref a] ∧ SqL K H a (ns.map V.int) ∧ (∀ p ∈ tabsOf K, H p.1 = some (.tbl #[])) ∧ ∀ H', Q (.bl true) H'
theorem law_ly {P : Program} {w : World} {K : PySem.W.Frag} {mg : Str → Option Value} {base : Heap} {x qual : Str} {params : Arguments} {body : List Stmt} {scope : Scope} {f : Addr} {fd : FuncData} {N ps : List Str} {k r : Nat} {t : XK → TS} {b : List Sl → W Out}
    (F : FunD K x qual params body scope [] [] f fd) (S : FnScope N ps scope) (hps : ps.length = 1) (hN : N.length = r + 2) (hl : LS K t b)
    (hb : ∀ (cdv : Value) (A : Around) (outer : List Env) (s : Shared) (H : Hp) (E : XK), cdv = .ref (coA K f) → (A.deeper (envOfC qual scope s.heap.objs.size f cdv)).guards = some [] → Room k (A.deeper (envOfC qual scope s.heap.objs.size f cdv)) → Tk (cxOf (L2.CX P w) P w K mg base N qual scope f cdv A outer s H E) E →
      PSs (cxOf (L2.CX P w) P w K mg base N qual scope f cdv A outer s H E) body (tSeq (tAsg (tCall (Lx.spPen K) [] E (tCons (tVar 0) tNil)) (gName 1)) (t E)))
    (hw : ∀ ns : List Int, (b (some (.sct ns) :: some .pen :: List.replicate r none)).wp ⟨2 ^ 60, []⟩ (fun _ o => o = .rt (.bl true)) (fun _ _ => False)) : Lx.FnG P w K mg base (L2.CX P w) (k + 1) f fd ps (spLaw K) := by
  refine fnG_ofC F S (fun vs H Q E h => by obtain ⟨_, _, rfl, _⟩ := h; exact hps.symm) fun cdv A outer s H vs Q E hc hg hr h => ⟨_, hb cdv A outer s H E hc hg hr tk_of, ?_⟩
  obtain ⟨a, ns, rfl, hs, ht, q⟩ := h
  have est : L2.start N [V.ref a] = some (.ref a) :: none :: List.replicate r none := by
    unfold L2.start
    rw [hN]
    rfl
  rw [est]
  refine ⟨.ref a, rfl, a, ns, rfl, hs, fun p l cs H' hp hl0 hcs hk hp' hl' hlp => ?_⟩
  let w0 : Wd := ⟨[], upd (noTbl H) l (.lst (cs.map V.int)), H'⟩
  have lF : Le (upd (noTbl H) l (.lst (cs.map V.int))) H' := fun d o e => by
    by_cases hd : d = l
    · subst hd; rw [upd_same] at e; cases e; exact hl'
    · rw [upd_ne hd] at e; exact hk d o (noTbl_le (Le.refl H) d o e)
  have ok : Ok K ⟨p⟩ w0 ⟨2 ^ 60, []⟩ := by
    refine ⟨lF, ?_, List.not_mem_nil, List.nodup_nil, rfl, fun a z => absurd z List.not_mem_nil, ⟨l, cs, 0, 0, hp', SqL.of upd_same, hcs, by decide, by decide, by decide⟩, fun pq hpq => LamX.TabS.nil (hk _ _ (ht pq hpq)), fun d ps e => ?_, fun a z => absurd z List.not_mem_nil, fun a z => absurd z List.not_mem_nil, fun i a o e => by cases e⟩
    · show upd (noTbl H) l (.lst (cs.map V.int)) p = none
      rw [upd_ne hlp.symm]; exact noTbl_none hp
    · have e : upd (noTbl H) l (.lst (cs.map V.int)) d = some (.tbl ps) := e
      by_cases hd : d = l
      · subst hd; rw [upd_same] at e; cases e
      · rw [upd_ne hd] at e
        unfold noTbl at e
        split at e
        · cases e
        · rename_i hn; exact hn ps e
  have slo : Slo K ⟨p⟩ w0 (some (.ref a) :: some (.ref p) :: List.replicate r none) (some (.sct ns) :: some .pen :: List.replicate r none) := by
    refine ⟨by simp, fun i d e => ?_⟩
    match i, e with
    | 0, e => cases e; exact ⟨_, rfl, .sct (Le.sqL (Le.up (noTbl_none hl0)) (noTbl_sq hs))⟩
    | 1, e => cases e; exact ⟨_, rfl, .pen⟩
    | i + 2, e =>
      have e : (List.replicate r (none : Sl))[i]? = some (some d) := e
      rw [List.getElem?_replicate] at e
      split at e <;> cases e
  refine hl ⟨p⟩ w0 ⟨2 ^ 60, []⟩ _ _ _ E ok slo ((b _).mono (fun n o z w' g' o' => ?_) (fun _ _ z => z.elim) (hw ns))
  subst z
  intro v r1
  cases r1
  exact q w'.H
end Ly
set_option maxHeartbeats 0
namespace Lw
open PySem PySem.Spec PyProof.Rows L2 He Ly
theorem ob_eq (s : PySem.W.SharedT) : ob s = hk.obs s.abs := obsYG_eq (HandSHeadRun.getT_eq s)
end Lw
set_option maxHeartbeats 4000000
namespace Ly
open PySem PySem.Spec L2 PyProof.Rows He
theorem law_endT {P : Program} {w : World} {K : PySem.W.Frag} {mg mb : Str → Option Value} {CX : CXT} {k : Nat} {fa a : Addr} {cs : List (Addr × Addr)} {fd : FuncData} {x : Str} {sp : Sp} {s1 : Shared} {vs : List Value} {ns : List Int}
    (KX : K.In s1.heap) (hns : s1.heap.Ns mainGlobals mg) (hb : s1.heap.Ns builtinsNs mb) (hbb : ∀ x : Str, x ≠ "__name__" → mb x = bootBuiltins x) (hlim : s1.heap.NoLimit) (hg : s1.gens = #[])
    (hT : ∀ p ∈ cs, s1.heap.get? p.2 = some { cls := .none, data := .fields #[] }) (nT : ∀ p ∈ cs, K.lookup p.2 = none) (hC : ∀ p ∈ cs, PySem.W.CodeHd s1.heap p.1 p.2) (hsm : SmY s1.heap)
    (hbm : ∃ (bm : Addr) (ob : Obj), mg "__builtins__" = some (.ref bm) ∧ bm ≠ builtinsNs ∧ s1.heap.get? bm = some ob ∧ ob.cls = .type "module" ∧ ob.dict = some builtinsNs ∧ ob.data = .plain)
    (ha : s1.heap.get? a = some { cls := .type "list", data := .seq vs.toArray }) (hi : IntsAre vs ns) (hl : ns.length ≤ sizeLine) (hr : Room k callerA)
    (F : ∀ base : Heap, K.In base → base.Ns mainGlobals mg → (∀ p ∈ cs, LamX.TabB base mg p.1 p.2) → (∃ o, base.get? sysModules = some o) → Lx.FnG P w K mg base CX k fa fd [x] sp) (hbind : ∀ (s : Shared) (u : Value), BindsTo s fd ⟨[u], []⟩ [(x, u)])
    (hsp : ∀ H : Hp, (∀ p ∈ cs, H p.2 = some (.tbl #[])) → SqL K H a (ns.map V.int) → sp [.ref a] H (fun v _ => v = .bl true) fun _ _ _ => False)
    (hCX : ∀ H e s', CX [] H s1 (fun _ _ _ => False) e s' → False) :
    codeAny (model P w) callerA (.call (.ref fa) ⟨[.ref a], []⟩) (fun r s' => r = .ok (.ret (.bool true)) ∧ OldK s1.heap s'.heap ∧ s'.os = s1.os ∧ AllBare s'.gens) s1 := by
  classical
  let TT : List Addr := cs.map (·.2)
  have tabAt : ∀ b : Addr, b ∈ TT → s1.heap.get? b = some { cls := .none, data := .fields #[] } := fun b z => by
    obtain ⟨p, hp, e⟩ := List.mem_map.mp z
    rw [← e]; exact hT p hp
  have aOut : a ∉ TT := fun z => by
    have y := tabAt a z
    rw [ha] at y
    cases congrArg Obj.data (Option.some.inj y)
  have main : ∀ H : Hp, (∀ b, b ∈ TT → H b = some (.tbl #[])) → (∀ b, b ∉ TT → H b = none ∨ ∃ o xs, H b = some (.frz o (.lst xs))) → (∀ b, b ∉ TT → H b ≠ none → b = a) → (H a ≠ none → K.lookup a = none) → SqL K H a (ns.map V.int) → HOk P w H s1.heap →
      codeAny (model P w) callerA (.call (.ref fa) ⟨[.ref a], []⟩) (fun r s' => r = .ok (.ret (.bool true)) ∧ OldK s1.heap s'.heap ∧ s'.os = s1.os ∧ AllBare s'.gens) s1 := by
    intro H h1 h2 h3 h4 hS hok
    -- what is neither a list nor a table is not tracked
    have away : ∀ {b : Addr} {o : Obj}, s1.heap.get? b = some o → (∀ us n, o.data ≠ .seq us n) → o.data ≠ .fields #[] → H b = none := fun {b o} e n1 n2 => by
      by_cases z : b ∈ TT
      · rw [tabAt b z] at e
        cases e
        exact absurd rfl n2
      · by_cases y : H b = none
        · exact y
        · have e2 := h3 b z y
          subst e2
          rw [ha] at e
          cases e
          exact absurd rfl (n1 _ _)
    have ns_ : ∀ {b : Addr} {m : Str → Option Value}, s1.heap.Ns b m → (hidT s1.heap H).Ns b m := fun {b m} z => by
      obtain ⟨o, es, ep, e, d, r⟩ := z
      exact ⟨o, es, ep, hidT_get e (away e (fun us n y => by rw [d] at y; cases y) fun y => by rw [d] at y; cases y), d, r⟩
    have kin : K.In (hidT s1.heap H) := fun b o e => hidT_get (KX b o e) (by
      by_cases z : b ∈ TT
      · obtain ⟨p, hp, ep⟩ := List.mem_map.mp z
        rw [← ep, nT p hp] at e
        cases e
      · by_cases y : H b = none
        · exact y
        · have e2 := h3 b z y
          subst e2
          rw [h4 y] at e
          cases e)
    have md : L2.Mod K mg (hidT s1.heap H) := by
      obtain ⟨mc, l1, l2⟩ := hlim
      exact ⟨kin, ns_ hns, ⟨mb, ns_ hb, hbb⟩, ⟨mc, ns_ l1, l2⟩⟩
    have tbs : ∀ p ∈ cs, LamX.TabB (hidT s1.heap H) mg p.1 p.2 := fun p hp => by
      have ht := hT p hp
      refine ⟨?_, ?_, fun z => ?_⟩
      · obtain ⟨o, us, f1, f2, f3, f4, f5, f6, f7, e1, r1, r2, r3, rest⟩ := hC p hp
        refine ⟨o, us, f1, f2, f3, f4, f5, f6, f7, hidT_get e1 (away e1 (fun us n y => by rw [r2] at y; cases y) fun y => ?_), r1, r2, r3, rest⟩
        rw [r2] at y
        cases y
        simp at r3
      · obtain ⟨bm, ob, b1, b2, b3, b4, b5, b6⟩ := hbm
        refine ⟨bm, ob, b1, b2, fun z => ?_, fun z => ?_, hidT_get b3 (away b3 (fun us n y => by rw [b6] at y; cases y) fun y => by rw [b6] at y; cases y), b4, b5, b6⟩
        · obtain ⟨o, es, ep, e, hd, _⟩ := hns
          rw [z, e] at b3
          cases b3
          rw [hd] at b6
          cases b6
        · rw [z, ht] at b3
          cases b3
          cases b6
      · obtain ⟨o, es, ep, e, hd, _⟩ := hns
        rw [z, ht] at e
        cases e
        cases hd
    have smb : ∃ o, (hidT s1.heap H).get? sysModules = some o := by
      obtain ⟨o, e1, e2⟩ := hsm
      refine ⟨o, hidT_get e1 ?_⟩
      by_cases z : sysModules ∈ TT
      · rw [tabAt _ z] at e1; cases e1; cases e2
      · by_cases y : H sysModules = none
        · exact y
        · have e3 := h3 _ z y
          rw [e3, ha] at e1
          cases e1
          exact absurd e2 (show ¬ (Value.type "list" = Value.type "dict") by decide)
    have e0 : Env0 P w K mg (hidT s1.heap H) callerA [] s1 H := ⟨rfl, md, fun b o e => of_hidT e, Nat.le_of_eq (hidT_size _ _), trivial, fun b z => absurd (show b ∈ ([] : List Addr) from z) (by simp), hok, .of_eq hg⟩
    refine codeAny_mono ((F _ kin (ns_ hns) tbs smb).run callerA [] s1 H ⟨[.ref a], []⟩ [.ref a] [.ref a] _ _ rfl hr e0 (hbind s1 (.ref a)) (.cons rfl .nil) (hsp H (fun p hp => h1 p.2 (List.mem_map.mpr ⟨p, hp, rfl⟩)) hS)) fun r s2 z2 => ?_
    cases r with
    | error e => exact (hCX H e s2 z2).elim
    | ok fl => cases fl with
      | next => exact False.elim z2
      | brk => exact False.elim z2
      | cont => exact False.elim z2
      | ret u =>
        obtain ⟨v, H2, os, bare, un, hok2, r2, q⟩ := z2
        have q2 : v = .bl true := q
        subst q2
        have r3 : u = Value.bool true := r2
        subst r3
        have stays : ∀ b o, b ∉ TT → s1.heap.get? b = some o → s2.heap.get? b = some o := fun b o nb e => by
          rcases h2 b nb with z | ⟨ob, xs, z⟩
          · exact un.keep b o e z (fun y => absurd (show b ∈ ([] : List Addr) from y) (by simp)) (by simp)
          · have y := un.frzs b ob _ z
            have e1 := (hok b _ z).1
            rw [e] at e1
            cases e1
            exact (hok2 b _ y).1
        have more : ∀ b, b ∈ TT → ∃ us : Array Value, s2.heap.get? b = some { cls := .none, data := .fields us } := fun b hb2 => by
          obtain ⟨us, z⟩ := un.tbls b #[] (h1 b hb2)
          exact ⟨_, hok2 b _ z⟩
        refine ⟨rfl, ⟨fun b o e => ?_, fun b o e => ?_⟩, os, bare⟩
        · by_cases hb2 : b ∈ TT
          · obtain ⟨us, hus⟩ := more b hb2
            obtain ⟨p, hp, ep⟩ := List.mem_map.mp hb2
            subst ep
            rw [hT p hp] at e
            cases e
            exact .inr (.inl ⟨((hC p hp).tab (hT p hp)).isCodeTable, rfl, #[], us, rfl, by rw [Array.empty_append]; exact hus⟩)
          · exact .inl (stays b o hb2 e)
        · by_cases hb2 : b ∈ TT
          · obtain ⟨us, hus⟩ := more b hb2
            exact ⟨_, hus⟩
          · exact ⟨o, stays b o hb2 e⟩
  have rv := vals_ints hi
  cases hk : K.lookup a with
  | some o =>
    have e := KX a o hk
    rw [ha] at e
    cases e
    let H : Hp := fun b => if b ∈ TT then some (.tbl #[]) else none
    have on : ∀ b, b ∈ TT → H b = some (.tbl #[]) := fun b z => if_pos z
    have off : ∀ b, b ∉ TT → H b = none := fun b z => if_neg z
    refine main H on (fun b z => .inl (off b z)) (fun b z y => absurd (off b z) y) (fun y => absurd (off a aOut) y) (.inr ⟨_, vs.toArray, _, hk, rfl, rfl, rfl, by rw [List.size_toArray, hi.length]; exact hl, by simpa using rv⟩) fun b u z => ?_
    by_cases hb2 : b ∈ TT
    · rw [on b hb2] at z; cases z; exact tabAt b hb2
    · rw [off b hb2] at z; cases z
  | none =>
    let H : Hp := fun b => if b = a then some (.frz { cls := .type "list", data := .seq vs.toArray } (.lst (ns.map V.int))) else if b ∈ TT then some (.tbl #[]) else none
    have at_ : H a = some (.frz { cls := .type "list", data := .seq vs.toArray } (.lst (ns.map V.int))) := if_pos rfl
    have on : ∀ b, b ∈ TT → H b = some (.tbl #[]) := fun b z => (if_neg fun (e : b = a) => aOut (e ▸ z)).trans (if_pos z)
    have off : ∀ b, b ∉ TT → b ≠ a → H b = none := fun b z y => (if_neg y).trans (if_neg z)
    refine main H on (fun b z => ?_) (fun b z y => ?_) (fun _ => hk) (.inl (.inr ⟨_, at_⟩)) fun b u z => ?_
    · by_cases e : b = a
      · subst e; exact .inr ⟨_, _, at_⟩
      · exact .inl (off b z e)
    · by_cases e : b = a
      · exact e
      · exact absurd (off b z e) y
    · by_cases e : b = a
      · subst e
        rw [at_] at z
        cases z
        exact ⟨ha, by rw [List.length_map]; exact hl, vs, _, rv, ha⟩
      · by_cases hb2 : b ∈ TT
        · rw [on b hb2] at z; cases z; exact tabAt b hb2
        · rw [off b hb2 e] at z; cases z
theorem walk_T {l : PySem.W.OpenLaw} {n k : Nat} {q : Program} {loose : List Str} {XP : (Str → Option Value) → Heap → Prop} {YP : World → Heap → Prop} {d : DefRec} {CX : World → CXT} {x : Str}
    (hn : l.most = some n) (hn2 : n ≤ sizeLine) (hdf : d.params.defaults = []) (hr : Room k callerA)
    (F : ∀ (w : World) (mg : Str → Option Value) (fa : Addr) (h : Heap), YP w h → h.Ns mainGlobals mg → mg d.name = some (.ref fa) →
      ∃ (K : PySem.W.Frag) (fd : FuncData) (sp : Sp), K.In h ∧ TabsY K h ∧ SmY h ∧ (∀ (s : Shared) (u : Value), BindsTo s fd ⟨[u], []⟩ [(x, u)]) ∧
        (∀ (H : Hp) (a : Addr) (ns : List Int), ns.length ≤ n → (∀ p ∈ tabsOf K, H p.1 = some (.tbl #[])) → SqL K H a (ns.map V.int) → sp [.ref a] H (fun v _ => v = .bl true) fun _ _ _ => False) ∧
        ∀ base : Heap, K.In base → base.Ns mainGlobals mg → (∀ t ∈ tabs3 K, LamX.TabB base mg t.1 t.2.1) → (∃ o, base.get? sysModules = some o) → Lx.FnG l.prog w K mg base (CX w) k fa fd [x] sp)
    (hCX : ∀ (w : World) (H : Hp) (s : Shared) (e : Value) (s' : Shared), CX w [] H s (fun _ _ _ => False) e s' → False) :
    PySem.W.WalkO q loose XP YP l.row.toRowW d [] (fun f vs => PySem.call f vs) := by
  refine Att.attach_call hn hdf fun w s0 s1 mg mb fa o pm cd doc a vs ns G Y ho hd hcd hmg hobj hints hlen hg => ?_
  obtain ⟨K, fd, sp, KX, tY, hsm, hb, hsp, hF⟩ := F w mg fa _ Y G.T.g hmg
  have ht : ∀ p ∈ (tabs3 K).map (fun t => (t.1, t.2.1)), ∃ t ∈ tabs3 K, p = (t.1, t.2.1) := fun p hp => by
    obtain ⟨t, h1, h2⟩ := List.mem_map.mp hp
    exact ⟨t, h1, h2.symm⟩
  refine law_endT (cs := (tabs3 K).map fun t => (t.1, t.2.1)) KX G.T.g G.T.b G.T.builtins G.T.nolimit hg (fun p hp => ?_) (fun p hp => ?_) (fun p hp => ?_) hsm G.T.bmain hobj hints (Nat.le_trans hlen hn2) hr (fun base k1 k2 k3 k4 => hF base k1 k2 (fun t h1 => k3 (t.1, t.2.1) (List.mem_map.mpr ⟨t, h1, rfl⟩)) k4) hb (fun H hH hS => hsp H a ns hlen (fun p hp => ?_) hS) fun H e s' => hCX w H s1 e s'
  · obtain ⟨t, h1, rfl⟩ := ht p hp; exact (tY t h1).1
  · obtain ⟨t, h1, rfl⟩ := ht p hp; exact (tY t h1).2.2
  · obtain ⟨t, h1, rfl⟩ := ht p hp; exact (tY t h1).2.1
  · obtain ⟨t, h1, h2⟩ := List.mem_map.mp hp
    rw [← h2]
    exact hH (t.1, t.2.1) (List.mem_map.mpr ⟨t, h1, rfl⟩)
end Ly
namespace Ly
open PySem L2
def Rt {A : Type} (m : W A) (a : A) : Prop := ∀ (s : S) (Q : S → A → Prop) (E : S → Xn → Prop), (∀ t : S, t.n = s.n → s.st <+: t.st → Q t a) → m.wp s Q E
def Tm {A : Type} (B : Nat) (m : W A) (Q : A → Prop) : Prop := ∀ (s : S) (E : S → Xn → Prop), B ≤ s.n → m.wp s (fun t a => s.n ≤ t.n + B ∧ s.st <+: t.st ∧ Q a) E
section
variable {A C : Type} {m : W A} {a : A} {f : A → W C} {b : C} {B B1 B2 : Nat} {Q : A → Prop} {R : C → Prop} {x : Xn}
theorem Rt.ret : Rt (W.ret a) a := fun s _ _ q => q s rfl (List.prefix_refl _)
theorem Rt.bind (h : Rt m a) (g : Rt (f a) b) : Rt (m.bind f) b := fun s Q E q => h s _ E fun t e p => g t Q E fun u e2 p2 => q u (e2.trans e) (p.trans p2)
theorem Rt.need {c : Prop} (h : c) (g : Rt m a) : Rt (W.need c m) a := fun n Q E q => ⟨h, g n Q E q⟩
theorem Rt.cast {a' : A} (h : Rt m a) (e : a = a') : Rt m a' := e ▸ h
theorem Rt.calm (h : Rt m a) : Rt m.calm a := fun s Q _ q => h s Q _ q
theorem Tm.ret (h : Q a) : Tm B (W.ret a) Q := fun s E _ => ⟨Nat.le_add_right _ _, List.prefix_refl _, h⟩
theorem Tm.of (h : Rt m a) (q : Q a) : Tm B m Q := fun s E _ => h s _ E fun t e p => ⟨by omega, p, q⟩
theorem Tm.bind (h : Tm B1 m Q) (g : ∀ a, Q a → Tm B2 (f a) R) (hb : B1 + B2 ≤ B) : Tm B (m.bind f) R := fun s E hn =>
  m.mono (fun k a ⟨h1, hp, h2⟩ => (f a).mono (fun j c ⟨h3, hp2, h4⟩ => ⟨by omega, hp.trans hp2, h4⟩) (fun _ _ z => z) (g a h2 k E (by omega))) (fun _ _ z => z) (h s E (by omega))
theorem Tm.bindR (h : Rt m a) (g : Tm B (f a) R) : Tm B (m.bind f) R := fun s E hn => h s _ E fun t e p => (f a).mono (fun j c ⟨h3, hp2, h4⟩ => ⟨by omega, p.trans hp2, h4⟩) (fun _ _ z => z) (g t E (by omega))
theorem Tm.need {c : Prop} (h : c) (g : Tm B m Q) : Tm B (W.need c m) Q := fun n E hn => ⟨h, g n E hn⟩
theorem Tm.mono {Q' : A → Prop} (h : Tm B1 m Q) (hb : B1 ≤ B) (hq : ∀ a, Q a → Q' a) : Tm B m Q' := fun s E hn => m.mono (fun k a ⟨h1, hp, h2⟩ => ⟨by omega, hp, hq a h2⟩) (fun _ _ z => z) (h s E (by omega))
theorem Tm.calm (h : Tm B m Q) : Tm B m.calm Q := fun s _ hn => h s _ hn
theorem Tm.any {P : A → Prop} : Tm 1 (W.any 1 P) P := fun s E hn => ⟨s.n - 1, by omega, fun a q => ⟨by show s.n ≤ s.n - 1 + 1; omega, List.prefix_refl _, q⟩⟩
theorem Tm.wp (h : Tm B m Q) {s : S} {E : S → Xn → Prop} (hb : B ≤ s.n) : m.wp s (fun _ a => Q a) E := m.mono (fun k a z => z.2.2) (fun _ _ z => z) (h s E hb)
end
theorem draw_t {m : Int} (h0 : 0 < m) (h1 : m < 1073741824) : Tm 1 (drawD [.pen, .int m]) (fun d => ∃ i : Int, d = .int i ∧ 0 ≤ i ∧ i < m) := Tm.need ⟨h0, h1⟩ Tm.any
theorem pre_get {α : Type} {l r : List α} {i : Nat} {a : α} (h : l <+: r) (e : l[i]? = some a) : r[i]? = some a := by
  obtain ⟨t, rfl⟩ := h
  rw [List.getElem?_append_left (List.getElem?_eq_some_iff.mp e).1]; exact e
theorem pre_set {α : Type} {l r : List α} {i : Nat} {a b : α} (h : l <+: r) (e : l[i]? = some a) : l.set i b <+: r.set i b := by
  obtain ⟨t, rfl⟩ := h
  rw [List.set_append_left _ _ (List.getElem?_eq_some_iff.mp e).1]
  exact List.prefix_append _ _
def In (g : List D → W D) (c : Str) (gs0 gs1 : List (Str × D)) (ds : List D) : Prop := ∀ (s : S) (i : Nat) (Q : S → D → Prop) (E : S → Xn → Prop), s.st[i]? = some (.ins c gs0) → (∀ t : S, t.n = s.n → s.st.set i (.ins c gs1) <+: t.st → Q t .non) → (g (.mu i :: ds)).wp s Q E
section
variable {c : Str} {g : List D → W D} {ds : List D} {gs gs0 gs1 : List (Str × D)} {δ : List Sl} {f : List Sl → W (List D)} {m : Nat} {x : Xn}
theorem new_get {l : List MO} {o : MO} : (l ++ [o])[l.length]? = some o := by simp
theorem mk_r (h : In g c [] gs ds) : Rt (mkObj c g ds) (.obj c gs) := fun s Q E q => by
  show (g (.mu s.st.length :: ds)).wp ⟨s.n, s.st ++ [.ins c []]⟩ (fun t v => (W.need (v = .non) ((W.get s.st.length).bind fun o => match o with
  | .ins cl' gs => (W.put s.st.length .gone).bind fun _ => W.ret (D.obj cl' gs)
  | _ => W.stuck)).wp t Q E) E
  refine h ⟨s.n, s.st ++ [.ins c []]⟩ s.st.length _ E new_get ?_
  intro t e p
  refine ⟨rfl, ?_⟩
  have p : (s.st ++ [MO.ins c []]).set s.st.length (.ins c gs) <+: t.st := p
  have e0 : (s.st ++ [MO.ins c []]).set s.st.length (.ins c gs) = s.st ++ [.ins c gs] := by simp
  rw [e0] at p
  refine ⟨.ins c gs, pre_get p new_get, q ⟨t.n, t.st.set s.st.length .gone⟩ e ?_⟩
  refine List.IsPrefix.trans ?_ (pre_set (b := .gone) p new_get)
  simp
theorem make_r (hf : Rt (f δ) ds) (hm : ds.length = m) (h : In g c [] gs ds) : Rt (dMake c m g f δ) (.obj c gs) := Rt.bind hf (Rt.need hm (mk_r h))
theorem setF_w {cl : List Str} {fl : Str} {fo fe : List Sl → W D} {d : D} {i : Nat} {s : S} {Q : S → Out → Prop} {E : S → Xn → Prop} (he : Rt (fe δ) d) (ho : Rt (fo δ) (.mu i)) (hs : s.st[i]? = some (.ins c gs)) (hc : c ∈ cl) (hl : gs.length < 900)
    (q : ∀ t : S, t.n = s.n → s.st.set i (.ins c (putG fl d gs)) <+: t.st → Q t (.nx δ)) : (dSetF cl fl fo fe δ).wp s Q E := by
  refine he s _ E fun t1 e1 p1 => ho t1 _ E fun t2 e2 p2 => ?_
  have hs2 := pre_get (p1.trans p2) hs
  exact ⟨_, hs2, ⟨hc, hl⟩, q ⟨t2.n, _⟩ (e2.trans e1) (pre_set (p1.trans p2) hs)⟩
theorem in_init {N cl : List Str} {b : List Sl → W Out} {fa : List Sl → W (List D)} {m2 : Nat} {g2 : List D → W D} {es : List D} {δ : Nat → List Sl} (hb : ∀ i, Rt (b (startD N (.mu i :: ds))) (.nx (δ i))) (h0 : ∀ i, (δ i)[0]? = some (some (.mu i))) (hc : c ∈ cl)
    (ha : ∀ i, Rt (fa (δ i)) es) (hm : es.length = m2) (h : In g2 c gs0 gs1 es) : In (dInit N cl b fa m2 g2) c gs0 gs1 ds := fun s i Q E hs q => by
  refine hb i s _ E fun t1 e1 p1 => ?_
  have v0 : dVar 0 (δ i) = W.ret (.mu i) := by unfold dVar; rw [h0 i]
  show (W.bind (dVar 0 (δ i)) _).wp t1 Q E
  rw [v0]
  refine ⟨_, pre_get p1 hs, hc, ha i t1 _ (fun _ _ => False) fun t2 e2 p2 => ⟨hm, h t2 i _ E (pre_get (p1.trans p2) hs) fun t3 e3 p3 => q t3 (e3.trans (e2.trans e1)) ((pre_set (p1.trans p2) hs).trans p3)⟩⟩
end
section
variable {i : Nat} {ft : List Sl → W Bool} {fe : List Sl → W D} {δ : List Sl}
theorem lcD_r {p : D → Bool} {g : D → D} : ∀ (ds : List D) (k : Nat), k + ds.length ≤ sizeLine → (∀ d ∈ ds, Rt (ft (δ.set i (some d))) (p d)) → (∀ d ∈ ds, p d = true → Rt (fe (δ.set i (some d))) (g d)) → Rt (lcD (dName i) ft fe δ ds k) ((ds.filter p).map g)
  | [], _, _, _, _ => Rt.ret
  | d :: ds, k, hk, h1, h2 => by
    have hk2 : k + 1 + ds.length ≤ sizeLine := by rw [List.length_cons] at hk; omega
    refine Rt.bind Rt.ret (Rt.bind (h1 d List.mem_cons_self) ?_)
    cases e : p d with
    | false =>
      rw [List.filter_cons_of_neg (by rw [e]; decide)]
      exact lcD_r ds k (by omega) (fun x hx => h1 x (List.mem_cons_of_mem _ hx)) fun x hx => h2 x (List.mem_cons_of_mem _ hx)
    | true =>
      rw [List.filter_cons_of_pos e, List.map_cons]
      refine Rt.bind (h2 d List.mem_cons_self e) (Rt.need (by omega) (Rt.bind (lcD_r ds (k + 1) hk2 (fun x hx => h1 x (List.mem_cons_of_mem _ hx)) fun x hx => h2 x (List.mem_cons_of_mem _ hx)) Rt.ret))
theorem lcD_t {B : Nat} {P : D → Prop} : ∀ (ds : List D) (k : Nat), k + ds.length ≤ sizeLine → (∀ d ∈ ds, Rt (ft (δ.set i (some d))) true) → (∀ d ∈ ds, Tm B (fe (δ.set i (some d))) P) → Tm (B * ds.length) (lcD (dName i) ft fe δ ds k) (fun ys => ys.length = ds.length ∧ ∀ y ∈ ys, P y)
  | [], _, _, _, _ => Tm.ret ⟨rfl, fun y z => nomatch z⟩
  | d :: ds, k, hk, h1, h2 => by
    have hk2 : k + 1 + ds.length ≤ sizeLine := by rw [List.length_cons] at hk; omega
    refine Tm.bindR Rt.ret (Tm.bindR (h1 d List.mem_cons_self) ?_)
    refine Tm.bind (h2 d List.mem_cons_self) (fun y hy => Tm.need (by omega) (Tm.bind (lcD_t ds (k + 1) hk2 (fun x hx => h1 x (List.mem_cons_of_mem _ hx)) fun x hx => h2 x (List.mem_cons_of_mem _ hx)) (fun ys hys => Tm.ret (B := 0) ?_) (Nat.le_refl _))) (by rw [List.length_cons, Nat.mul_succ, Nat.add_zero, Nat.add_comm]; exact Nat.le_refl _)
    refine ⟨by rw [List.length_cons, List.length_cons, hys.1], fun z hz => ?_⟩
    rcases List.mem_cons.mp hz with rfl | hz
    · exact hy
    · exact hys.2 z hz
theorem forD_t {B : Nat} {dg : D → List Sl → W (List Sl)} {gb : List Sl → W Out} {I : List D → List Sl → Prop} : ∀ (ds : List D) (δ : List Sl), I ds δ → (∀ d r δ, I (d :: r) δ → Tm B ((dg d δ).bind gb) (fun o => ∃ ε, o = .nx ε ∧ I r ε)) → Tm (B * ds.length) (forD dg gb ds δ) (fun o => ∃ ε, o = .nx ε ∧ I [] ε)
  | [], δ, h, _ => Tm.ret ⟨δ, rfl, h⟩
  | d :: ds, δ, h, hs => by
    have e : forD dg gb (d :: ds) δ = ((dg d δ).bind gb).bind fun o => match o with | .nx ε => forD dg gb ds ε | .ct ε => forD dg gb ds ε | .bk ε => W.ret (.nx ε) | .rt d => W.ret (.rt d) := rfl
    rw [e]
    refine Tm.bind (hs d ds δ h) (fun o ho => ?_) (by rw [List.length_cons, Nat.mul_succ, Nat.add_comm]; exact Nat.le_refl _)
    obtain ⟨ε, rfl, hI⟩ := ho
    exact forD_t ds ε hI hs
end
section
variable {δ ε : List Sl} {d x y z : D} {ds : List D} {i j mm : Nat} {f fa fb fc : List Sl → W D} {t ta tb : List Sl → W Bool} {fl fr' : List Sl → W (List D)} {g h : List Sl → W Out} {b c : Bool} {o u : Out}
theorem Rt.var (e : δ[i]? = some (some d)) : Rt (dVar i δ) d := by unfold dVar; rw [e]; exact Rt.ret
theorem Rt.cC : Rt (dC d δ) d := Rt.ret
theorem Rt.op2 {g : D → D → W D} (ha : Rt (fa δ) x) (hb : Rt (fb δ) y) (hg : Rt (g x y) z) : Rt (dOp2 g fa fb δ) z := Rt.bind ha (Rt.bind hb hg)
theorem Rt.op1 {g : D → W D} (ha : Rt (fa δ) x) (hg : Rt (g x) z) : Rt (dOp1 g fa δ) z := Rt.bind ha hg
theorem Rt.opn {g : List D → W D} (ha : Rt (fl δ) ds) (hg : Rt (g ds) z) : Rt (dOpn g fl δ) z := Rt.bind ha hg
theorem Rt.nil : Rt (dNil δ) [] := Rt.ret
theorem Rt.cons (ha : Rt (fa δ) x) (hr : Rt (fl δ) ds) : Rt (dCons fa fl δ) (x :: ds) := Rt.bind ha (Rt.bind hr Rt.ret)
theorem Rt.tup (ha : Rt (fl δ) ds) (hz : ds.length ≤ sizeLine) : Rt (dTup fl δ) (.tup ds) := Rt.bind ha (Rt.need hz Rt.ret)
theorem Rt.lst (ha : Rt (fl δ) ds) (hz : ds.length ≤ sizeLine) : Rt (dLst fl δ) (.lst ds) := Rt.bind ha (Rt.need hz Rt.ret)
theorem Rt.test (ha : Rt (fa δ) (.bl b)) : Rt (dTest fa δ) b := Rt.bind ha Rt.ret
theorem Rt.tru (ha : Rt (fa δ) x) (hb : Rt (truD x) b) : Rt (dTru fa δ) b := Rt.bind ha hb
theorem Rt.andF (ha : Rt (ta δ) false) : Rt (dAnd ta tb δ) false := Rt.bind ha Rt.ret
theorem Rt.andT (ha : Rt (ta δ) true) (hb : Rt (tb δ) b) : Rt (dAnd ta tb δ) b := Rt.bind ha hb
theorem Rt.orT (ha : Rt (ta δ) true) : Rt (dOr ta tb δ) true := Rt.bind ha Rt.ret
theorem Rt.orF (ha : Rt (ta δ) false) (hb : Rt (tb δ) b) : Rt (dOr ta tb δ) b := Rt.bind ha hb
theorem Rt.not (ha : Rt (ta δ) b) : Rt (dNot ta δ) (!b) := Rt.bind ha Rt.ret
theorem Rt.andV (ha : Rt (fa δ) (.bl b)) (hb : b = true → Rt (fb δ) (.bl c)) : Rt (dAndV fa fb δ) (.bl (b && c)) := by
  refine Rt.bind ha (Rt.bind Rt.ret ?_)
  cases b with
  | true => exact hb rfl
  | false => exact Rt.ret
theorem Rt.ifE (ht : Rt (t δ) b) (h : Rt (match b with | true => fa δ | false => fb δ) d) : Rt (dIfE t fa fb δ) d := Rt.bind ht h
theorem Rt.seq (hg : Rt (g δ) (.nx ε)) (hh : Rt (h ε) o) : Rt (dSeq g h δ) o := Rt.bind hg hh
theorem Rt.seqR (hg : Rt (g δ) (.rt d)) : Rt (dSeq g h δ) (.rt d) := Rt.bind hg Rt.ret
theorem Rt.next : Rt (dNext δ) (.nx δ) := Rt.ret
theorem Rt.asg (hf : Rt (f δ) d) : Rt (dAsg f (dName i) δ) (.nx (δ.set i (some d))) := Rt.bind hf (Rt.bind Rt.ret Rt.ret)
theorem Rt.rets (hf : Rt (f δ) d) : Rt (dRet f δ) (.rt d) := Rt.bind hf Rt.ret
theorem Rt.ifT (ht : Rt (t δ) true) (hg : Rt (g δ) o) : Rt (dIf t g h δ) o := Rt.bind ht hg
theorem Rt.ifF (ht : Rt (t δ) false) (hg : Rt (h δ) o) : Rt (dIf t g h δ) o := Rt.bind ht hg
theorem Rt.call {G : List D → W D} (hf : Rt (fl δ) ds) (hm : ds.length = mm) (hg : Rt (G ds) d) : Rt (dCall mm G fl δ) d := Rt.bind hf (Rt.need hm hg)
theorem Rt.eqT {a : Str} : Rt (eqD (.str a) (.str a)) (.bl true) := Rt.ret.cast (by simp)
theorem Rt.eqF {a b : Str} (h : a ≠ b) : Rt (eqD (.str a) (.str b)) (.bl false) := Rt.ret.cast (by simp [h])
theorem Rt.bodyR {N : List Str} {bd : List Sl → W Out} (hb : Rt (bd (startD N ds)) (.rt d)) : Rt (dBody N bd ds) d := Rt.bind hb Rt.ret
theorem Rt.ixT {xs : List D} {k : Int} (e : atI xs k = some d) : Rt (ixD (.tup xs) (.int k)) d := by show Rt (match atI xs k with | some d => W.ret d | none => W.stuck) d; rw [e]; exact Rt.ret
theorem Rt.ixL {xs : List D} {k : Int} (e : atI xs k = some d) : Rt (ixD (.lst xs) (.int k)) d := by show Rt (match atI xs k with | some d => W.ret d | none => W.stuck) d; rw [e]; exact Rt.ret
theorem Rt.fld {c : Str} {gs : List (Str × D)} {x : Str} (ha : Rt (fa δ) (.obj c gs)) (e : gs.lookup x = some d) : Rt (dFld x fa δ) d := Rt.bind ha (Rt.bind Rt.ret (by dsimp only; rw [e]; exact Rt.ret))
theorem Rt.prop {c : Str} {gs : List (Str × D)} {tb : Tb} {G : List D → W D} (ha : Rt (fa δ) (.obj c gs)) (e : tb.lookup c = some G) (hg : Rt (G [.obj c gs]) d) : Rt (dProp tb fa δ) d := Rt.bind ha (Rt.bind Rt.ret (by dsimp only; rw [e]; exact hg.calm))
theorem Rt.meth {c m : Str} {gs : List (Str × D)} {tb : Tb} {G : List D → W D} (ha : Rt (fa δ) (.obj c gs)) (hn : gs.lookup m = none) (e : tb.lookup c = some G) (hf : Rt (fl δ) ds) (hm : ds.length = mm) (hg : Rt (G (.obj c gs :: ds)) d) : Rt (dMeth m mm tb fa fl δ) d :=
  Rt.bind ha (Rt.bind Rt.ret (Rt.need hn (by dsimp only; rw [e]; exact Rt.bind hf (Rt.need hm hg))))
theorem Rt.ms {G : Str → List D → W D} {a : Str} (ho : Rt (fa δ) (.str a)) (hf : Rt (fl δ) ds) (hg : Rt (G a ds) d) : Rt (dMs G fa fl δ) d := Rt.bind ho (Rt.bind hf hg)
theorem Rt.par (hf : Rt (fl δ) [x, y]) : Rt (dPar i j fl δ) (.nx ((δ.set i (some x)).set j (some y))) := Rt.bind hf Rt.ret
theorem Rt.noPart : Rt (dNoPart δ) none := Rt.ret
theorem Rt.part {k : Int} (hf : Rt (f δ) (.int k)) : Rt (dPart f δ) (some k) := Rt.bind hf Rt.ret
theorem Rt.sl {lo hi : List Sl → W (Option Int)} {l k : Option Int} (ha : Rt (fa δ) x) (hl : Rt (lo δ) l) (hh : Rt (hi δ) k) (hg : Rt (slD x l k) d) : Rt (dSl fa lo hi δ) d := Rt.bind ha (Rt.bind hl (Rt.bind hh hg))
theorem Rt.chT {g g2 : D → D → W D} (ha : Rt (fa δ) x) (hb : Rt (fb δ) y) (hg : Rt (g x y) (.bl true)) (hc : Rt (fc δ) z) (hg2 : Rt (g2 y z) d) : Rt (dChain g g2 fa fb fc δ) d := Rt.bind ha (Rt.bind hb (Rt.bind hg (Rt.bind Rt.ret (Rt.bind hc hg2))))
end
section
variable {δ : List Sl} {f fa fb : List Sl → W D} {fi : List Sl → W (List D)} {ds l : List D} {i : Nat} {ft : List Sl → W Bool} {fe : List Sl → W D} {dg : D → List Sl → W (List Sl)} {vs : List Nat}
theorem rLc (hi : Rt (fi δ) ds) (hl : Rt (lcD dg ft fe (wipeD δ vs) ds 0) l) : Rt (dLc fi dg ft fe vs δ) (.lst l) := Rt.bind hi (Rt.bind hl.calm Rt.ret)
theorem rIS {x : Str} (h : Rt (f δ) (.str x)) : Rt (dIS f δ) (x.cps.toList.map fun c => .str ⟨#[c]⟩) := Rt.bind h Rt.ret
theorem rIL {xs : List D} (h : Rt (f δ) (.lst xs)) : Rt (dIL f δ) xs := Rt.bind h Rt.ret
theorem rIR {k : Int} (h : Rt (fi δ) [.int k]) (h0 : 0 ≤ k) (h1 : k < 2 ^ 60) : Rt (dIR1 fi δ) (rangeD 0 k.toNat) := Rt.bind h (Rt.need ⟨by omega, by omega⟩ Rt.ret)
end
end Ly
namespace Ly
open PySem L2
open Lx (atI_in shaped_ints inS cutL revS uniq)
theorem bools_map {α : Type} (q : α → Bool) : ∀ l : List α, bools (l.map fun a => D.bl (q a)) = some (l.map q)
  | [] => rfl
  | a :: r => by
    show (bools (r.map fun a => D.bl (q a))).map (q a :: ·) = _
    rw [bools_map q r]; rfl
abbrev LET : Str := " !\"#$&'()*+,-./0123456789:;<=>?@ABCDEFGHIJKLMNOPQRSTUVWXYZ[\\]^_`abcdefghijklmnopqrstuvwxyz{|}~"
def lets (x : Str) : Prop := ∀ c ∈ x.cps.toList, c ∈ LET.cps.toList
theorem len_cps (x : Str) : x.length = x.cps.toList.length := by simp [Str.length]
theorem inS_one (c : Nat) (y : Str) : inS ⟨#[c]⟩ y = decide (c ∈ y.cps.toList) := PySem.StrLaws.found_one y c
theorem small {n : Nat} (h : n ≤ 4000) : n ≤ sizeLine := by rw [sizeLine_eq]; omega
theorem inD_s {x y : Str} : Rt (inD false (.str x) (.str y)) (.bl (inS x y)) := Rt.ret
theorem len_s {x : Str} (h : x.length ≤ 4000) : Rt (lenD [.str x]) (.int x.length) := Rt.need (small h) Rt.ret
theorem lk_pre {α : Type} {c : Str} {b : α} : ∀ {pre post : List (Str × α)} {ns : List Str}, pre.map (·.1) = ns → (ns.all fun n => !(c == n)) = true → (pre ++ (c, b) :: post).lookup c = some b
  | [], post, _, _, _ => by rw [List.nil_append, List.lookup_cons, beq_self_eq_true]
  | (a, x) :: pre, post, ns, e, h => by
    subst e
    simp only [List.map_cons, List.all_cons, Bool.and_eq_true, Bool.not_eq_true'] at h
    rw [List.cons_append, List.lookup_cons, h.1]
    exact lk_pre (ns := pre.map (·.1)) rfl h.2
theorem lk_same {α : Type} {c : Str} {b : α} : ∀ {cs : List Str}, cs.contains c = true → (cs.map fun x => (x, b)).lookup c = some b
  | [], h => by cases h
  | a :: r, h => by
    rw [List.map_cons, List.lookup_cons]
    cases e : (c == a) with
    | true => rfl
    | false =>
      rw [List.contains_cons, e, Bool.false_or] at h
      exact lk_same h
theorem lcM {α : Type} {i : Nat} {δ : List Sl} {ft : List Sl → W Bool} {fe : List Sl → W D} (φ : α → D) (p : α → Bool) (g : α → D) : ∀ (hs : List α) (k : Nat), k + hs.length ≤ sizeLine → (∀ h ∈ hs, Rt (ft (δ.set i (some (φ h)))) (p h)) → (∀ h ∈ hs, p h = true → Rt (fe (δ.set i (some (φ h)))) (g h)) → Rt (lcD (dName i) ft fe δ (hs.map φ) k) ((hs.filter p).map g)
  | [], _, _, _, _ => Rt.ret
  | d :: ds, k, hk, h1, h2 => by
    have hk2 : k + 1 + ds.length ≤ sizeLine := by rw [List.length_cons] at hk; omega
    refine Rt.bind Rt.ret (Rt.bind (h1 d List.mem_cons_self) ?_)
    cases e : p d with
    | false =>
      rw [List.filter_cons_of_neg (by rw [e]; decide)]
      exact lcM φ p g ds k (by omega) (fun x hx => h1 x (List.mem_cons_of_mem _ hx)) fun x hx => h2 x (List.mem_cons_of_mem _ hx)
    | true =>
      rw [List.filter_cons_of_pos e, List.map_cons]
      refine Rt.bind (h2 d List.mem_cons_self e) (Rt.need (by omega) (Rt.bind (lcM φ p g ds (k + 1) hk2 (fun x hx => h1 x (List.mem_cons_of_mem _ hx)) fun x hx => h2 x (List.mem_cons_of_mem _ hx)) Rt.ret))
theorem lcY {α : Type} {i : Nat} {δ : List Sl} {fe : List Sl → W D} (φ : α → D) (g : α → D) (hs : List α) (hl : hs.length ≤ 4000) (h : ∀ h ∈ hs, Rt (fe (δ.set i (some (φ h)))) (g h)) : Rt (lcD (dName i) dYes fe δ (hs.map φ) 0) (hs.map g) :=
  (lcM φ (fun _ => true) g hs 0 (small (by omega)) (fun _ _ => Rt.ret) fun x hx _ => h x hx).cast (by rw [List.filter_eq_self.mpr (fun _ _ => rfl)])
theorem toPs_int : ∀ ns : List Int, toPs (ns.map D.int) = some (ns.map PyData.int)
  | [] => by simp only [List.map_nil]; rw [toPs]
  | n :: r => by simp only [List.map_cons]; rw [toPs, toPs_int r, toP]; rfl
theorem toPs_str : ∀ ns : List Str, toPs (ns.map D.str) = some (ns.map PyData.str)
  | [] => by simp only [List.map_nil]; rw [toPs]
  | n :: r => by simp only [List.map_cons]; rw [toPs, toPs_str r, toP]; rfl
def asc (x : Str) : Prop := ∀ c ∈ x.cps.toList, c < 128
theorem ok_one {c : Nat} (h : c < 128) : PyData.strOk ⟨#[c]⟩ = true := by
  show (#[c] : Array Nat).all (· < 0x110000) = true
  simp
  omega
theorem cut_mid (r : Str) (k m : Nat) : cutS r (some (k : Int)) (some ((k + m : Nat) : Int)) = ⟨(((r.cps.toList).drop k).take m).toArray⟩ := by
  unfold cutS
  rw [HT.sIx_nat, HT.sIx_nat]
  congr 2
  have hl : r.length = (r.cps.toList).length := len_cps r
  rw [hl]
  by_cases h : k ≤ (r.cps.toList).length
  · rw [Nat.min_eq_left h]
    rw [List.take_eq_take_iff, List.length_drop]
    omega
  · rw [Nat.min_eq_right (show r.cps.toList.length ≤ k by omega), List.drop_length, List.take_nil, List.drop_eq_nil_of_le (show r.cps.toList.length ≤ k by omega), List.take_nil]
theorem cut_to (r : Str) (m : Nat) : cutS r none (some (m : Int)) = ⟨((r.cps.toList).take m).toArray⟩ := by
  unfold cutS
  rw [HT.sIx_none, HT.sIx_nat, Nat.sub_zero, List.drop_zero]
  congr 2
  have hl : r.length = r.cps.toList.length := len_cps r
  rw [hl, List.take_eq_take_iff]
  omega
theorem cut_from (r : Str) (m : Nat) : cutS r (some (m : Int)) none = ⟨((r.cps.toList).drop m).toArray⟩ := by
  unfold cutS
  rw [HT.sIx_none, HT.sIx_nat]
  congr 1
  have hl : r.length = (r.cps.toList).length := len_cps r
  rw [hl]
  by_cases h : m ≤ (r.cps.toList).length
  · rw [Nat.min_eq_left h, List.take_of_length_le (by rw [List.length_drop]; omega)]
  · rw [Nat.min_eq_right (by omega), List.drop_length, List.take_nil, List.drop_eq_nil_of_le (by omega)]
theorem str_eq (l : List Nat) (x : Str) : decide ((⟨l.toArray⟩ : Str) = x) = (l == x.cps.toList) := by
  rw [Bool.eq_iff_iff, decide_eq_true_iff, beq_iff_eq]
  constructor
  · intro h; rw [← h]
  · intro h; rw [h]
theorem sub_mid (r x : Str) (k : Nat) : decide (cutS r (some (k : Int)) (some ((k + x.length : Nat) : Int)) = x) = Builtin.Str.subAt r x k := by rw [cut_mid, str_eq, PySem.StrLaws.subAt_eq]
theorem rangeD_eq : ∀ (n : Nat) (lo : Int), rangeD lo n = (List.range n).map fun (i : Nat) => D.int (lo + i)
  | 0, _ => rfl
  | n + 1, lo => by
    rw [List.range_succ_eq_map, List.map_cons, List.map_map]
    show D.int lo :: rangeD (lo + 1) n = _
    rw [rangeD_eq n (lo + 1)]
    congr 1
    · simp
    · apply List.map_congr_left
      intro i _
      show D.int (lo + 1 + (i : Int)) = D.int (lo + ((i + 1 : Nat) : Int))
      congr 1; omega
theorem slS {r : Str} {l h : Option Int} (hr : r.length ≤ 4000) : Rt (slD (.str r) l h) (.str (cutS r l h)) := Rt.need (small hr) Rt.ret
section
variable {δ ε : List Sl} {d x y : D} {ds : List D} {i mm B B1 B2 : Nat} {f fa fb : List Sl → W D} {fl : List Sl → W (List D)} {g h : List Sl → W Out} {P : D → Prop} {Q : Out → Prop} {R : List D → Prop}
theorem tAsg {S : Out → Prop} (hf : Tm B1 (f δ) P) (hh : ∀ d, P d → Tm B2 (h (δ.set i (some d))) S) (hb : B1 + B2 ≤ B) : Tm B (dSeq (dAsg f (dName i)) h δ) S :=
  Tm.bind (Q := fun o => ∃ d, P d ∧ o = .nx (δ.set i (some d))) (Tm.bind (B2 := 0) hf (fun d hd => Tm.bindR Rt.ret (Tm.ret ⟨d, hd, rfl⟩)) (Nat.le_refl _)) (fun o ho => by obtain ⟨d, hd, rfl⟩ := ho; exact hh d hd) hb
theorem tAsgR {S : Out → Prop} (hf : Rt (f δ) d) (hh : Tm B (h (δ.set i (some d))) S) : Tm B (dSeq (dAsg f (dName i)) h δ) S := Tm.bindR (Rt.asg hf) hh
theorem tRet {S : Out → Prop} (hf : Tm B (f δ) P) (hs : ∀ d, P d → S (.rt d)) : Tm B (dRet f δ) S := Tm.bind (B2 := 0) hf (fun d hd => Tm.ret (hs d hd)) (Nat.le_refl _)
theorem tBody {N : List Str} {bd : List Sl → W Out} (hb : Tm B (bd (startD N ds)) (fun o => ∃ d, o = .rt d ∧ P d)) : Tm B (dBody N bd ds) P := Tm.bind (B2 := 0) hb (fun o ho => by obtain ⟨d, rfl, hd⟩ := ho; exact Tm.ret hd) (Nat.le_refl _)
theorem tCall {G : List D → W D} (hf : Rt (fl δ) ds) (hm : ds.length = mm) (hg : Tm B (G ds) P) : Tm B (dCall mm G fl δ) P := Tm.bindR hf (Tm.need hm hg)
theorem tCons {P2 : List D → Prop} (ha : Tm B1 (fa δ) P) (hr : Tm B2 (fl δ) P2) (hb : B1 + B2 ≤ B) : Tm B (dCons fa fl δ) (fun ds => ∃ x r, ds = x :: r ∧ P x ∧ P2 r) :=
  Tm.bind ha (fun x hx => Tm.bind (B2 := 0) hr (fun r hr => Tm.ret ⟨x, r, rfl, hx, hr⟩) (Nat.le_refl _)) hb
theorem tNil : Tm B (dNil δ) (fun ds => ds = []) := Tm.of Rt.nil rfl
theorem tIfT {t : List Sl → W Bool} {S : Out → Prop} (ht : Rt (t δ) true) (hg : Tm B (g δ) S) : Tm B (dIf t g h δ) S := Tm.bindR ht hg
theorem tIfF {t : List Sl → W Bool} {S : Out → Prop} (ht : Rt (t δ) false) (hg : Tm B (h δ) S) : Tm B (dIf t g h δ) S := Tm.bindR ht hg
theorem tSeqF {t : List Sl → W Bool} {S : Out → Prop} (ht : Rt (t δ) false) (hh : Tm B (h δ) S) : Tm B (dSeq (dIf t g dNext) h δ) S := Tm.bindR (Rt.ifF ht Rt.next) hh
theorem tSeqT' {t : List Sl → W Bool} {S : Out → Prop} (ht : Rt (t δ) true) (hg : Tm B (g δ) (fun o => ∃ d, o = .rt d ∧ S o)) : Tm B (dSeq (dIf t g dNext) h δ) S :=
  Tm.bind (B2 := 0) (tIfT ht hg) (fun o ho => by obtain ⟨d, rfl, hs⟩ := ho; exact Tm.ret hs) (Nat.le_refl _)
end
theorem ixS {x : Str} {k : Int} {c : Nat} (h : x.length ≤ 4000) (e : atI x.cps.toList k = some c) : Rt (ixD (.str x) (.int k)) (.str ⟨#[c]⟩) := Rt.need (small h) (by rw [e]; exact Rt.ret)
def sgns (x : Str) (S : List Nat) : Prop := ∀ c ∈ x.cps.toList, c ∈ S
theorem txts_map (l : List Str) : txts (l.map D.str) = some l := by
  induction l with
  | nil => rfl
  | cons x r ih => show (txts (r.map D.str)).map (x :: ·) = _; rw [ih]; rfl
theorem fold_cps : ∀ (l : List Str) (acc : Array Nat), (l.foldl (fun acc p => acc ++ (#[] : Array Nat) ++ p.cps) acc).toList = acc.toList ++ l.flatMap fun x => x.cps.toList
  | [], acc => by simp
  | x :: r, acc => by rw [List.foldl_cons, fold_cps r]; simp
theorem glued_cps (l : List Str) : (Txt.join "" l).cps.toList = l.flatMap fun x => x.cps.toList := by
  have h0 : ("" : Str).cps = #[] := by decide +kernel
  show ((l.drop 1).foldl (fun acc p => acc ++ ("" : Str).cps ++ p.cps) (l.headD Str.empty).cps).toList = _
  rw [h0, fold_cps]
  cases l with
  | nil => rfl
  | cons x r => simp
theorem singles {ys : List D} {S : List Nat} (h : ∀ y ∈ ys, ∃ c ∈ S, y = .str ⟨#[c]⟩) : ∃ cs : List Nat, ys = cs.map (fun c => .str ⟨#[c]⟩) ∧ ∀ c ∈ cs, c ∈ S := by
  induction ys with
  | nil => exact ⟨[], rfl, fun c z => nomatch z⟩
  | cons y r ih =>
    obtain ⟨c, hc, rfl⟩ := h y List.mem_cons_self
    obtain ⟨cs, rfl, hcs⟩ := ih fun z hz => h z (List.mem_cons_of_mem _ hz)
    refine ⟨c :: cs, rfl, fun z hz => ?_⟩
    rcases List.mem_cons.mp hz with rfl | hz
    · exact hc
    · exact hcs z hz
theorem join_r {cs : List Nat} (h : cs.length ≤ 4000) : Rt (joinD "" [.lst (cs.map fun c => .str ⟨#[c]⟩)]) (.str ⟨cs.toArray⟩) := by
  have e : (cs.map fun c => D.str ⟨#[c]⟩) = (cs.map fun c => (⟨#[c]⟩ : Str)).map D.str := by rw [List.map_map]; rfl
  rw [e]
  show Rt (match txts ((cs.map fun c => (⟨#[c]⟩ : Str)).map D.str) with | some ys => W.need ((ys.map (·.length)).sum + ys.length * ("" : Str).length ≤ 16777216) (W.ret (D.str (Txt.join "" ys))) | none => W.stuck) _
  rw [txts_map]
  have hs : ((cs.map fun c => (⟨#[c]⟩ : Str)).map (·.length)).sum = cs.length := by
    rw [List.map_map]
    induction cs with
    | nil => rfl
    | cons c r ih => rw [List.map_cons, List.sum_cons, ih (by rw [List.length_cons] at h; omega) (by rw [List.map_map]; rfl)]; show 1 + r.length = _; rw [List.length_cons]; omega
  have h0 : ("" : Str).length = 0 := by decide +kernel
  refine Rt.need (by rw [hs, h0]; omega) (Rt.ret.cast (congrArg D.str ?_))
  have hg := glued_cps (cs.map fun c => (⟨#[c]⟩ : Str))
  have hc : ((cs.map fun c => (⟨#[c]⟩ : Str)).flatMap fun x => x.cps.toList) = cs := by
    rw [List.flatMap_map]
    simp
  rw [hc] at hg
  have : (Txt.join "" (cs.map fun c => (⟨#[c]⟩ : Str))).cps = cs.toArray := by
    apply Array.toList_inj.mp
    rw [hg]
  exact congrArg Str.mk this
structure good (s : Str) : Prop where
  one : 1 ≤ s.length
  few : s.length ≤ 3
  let_ : lets s
  nd : s.cps.toList.Nodup
theorem good_of (s : Str) (h : (decide (1 ≤ s.length) && (decide (s.length ≤ 3) && ((s.cps.toList.all fun c => decide (c ∈ LET.cps.toList)) && decide (s.cps.toList.Nodup)))) = true) : good s := by
  simp only [Bool.and_eq_true, decide_eq_true_eq, List.all_eq_true] at h
  exact ⟨h.1, h.2.1, h.2.2.1, h.2.2.2⟩
abbrev SQ : Str := " !\"#$&'()*+,-./0123456789:;<=>?@ABCDEFGHIJKLMNOPQRSTUVWXYZ[\\]^_`abcdefghijklmnoprstuvwxyz{|}~"
theorem SQ_ok : (SQ.cps.toList.all fun c => decide (c ∈ LET.cps.toList)) = true := by decide +kernel
theorem yz_ok : (("yz" : Str).cps.toList.all fun c => decide (c ∈ LET.cps.toList) && decide (c ≠ 40)) = true := by decide +kernel
theorem pa_ok : (("(" : Str).cps.toList.all fun c => decide (c = 40)) = true := by decide +kernel
theorem l40 : (40 : Nat) ∈ LET.cps.toList := by decide +kernel
def sg (c : Nat) : D := .str ⟨#[c]⟩
theorem sg_inj {a b : Nat} : ((⟨#[a]⟩ : Str) == ⟨#[b]⟩) = decide (a = b) := by
  rw [Bool.eq_iff_iff, beq_iff_eq, decide_eq_true_iff]
  constructor
  · intro h
    have : (#[a] : Array Nat) = #[b] := congrArg Str.cps h
    simpa using this
  · intro h; rw [h]
theorem notIn {x : Nat} {ys : List Nat} : Rt (inD true (sg x) (.lst (ys.map sg))) (.bl (!decide (x ∈ ys))) := by
  have e : (ys.map sg).all flatD = true := by rw [List.all_map]; exact List.all_eq_true.mpr fun _ _ => rfl
  refine Rt.need ⟨rfl, e⟩ (Rt.ret.cast (congrArg D.bl ?_))
  show (!inF (sg x) (ys.map sg)) = _
  congr 1
  unfold inF
  rw [List.any_map, Bool.eq_iff_iff, List.any_eq_true, decide_eq_true_iff]
  constructor
  · rintro ⟨y, hy, h⟩
    have h2 : ((⟨#[y]⟩ : Str) == ⟨#[x]⟩) = true := h
    rw [sg_inj, decide_eq_true_iff] at h2
    rw [← h2]; exact hy
  · intro h
    exact ⟨x, h, beq_self_eq_true (⟨#[x]⟩ : Str)⟩
theorem cutL_to {α : Type} (xs : List α) (m : Nat) : cutL xs none (some (m : Int)) = xs.take m := by
  unfold cutL
  rw [HT.sIx_none, HT.sIx_nat, Nat.sub_zero, List.drop_zero, List.take_eq_take_iff]
  omega
def rare (l : List Nat) : List Nat := ((List.range 3).filter fun i => !decide ((l[i]?).getD 0 ∈ l.take i)).map fun i => (l[i]?).getD 0
theorem rare_good {a b : Nat} (ha : a ∈ LET.cps.toList) (hb : b ∈ LET.cps.toList) (hb2 : b ≠ 40) : good ⟨(rare [a, b, 40]).toArray⟩ := by
  have e : rare [a, b, 40] = if a = b then [a, 40] else if a = 40 then [a, b] else [a, b, 40] := by
    unfold rare
    have hr : List.range 3 = [0, 1, 2] := rfl
    rw [hr]
    simp only [List.filter_cons, List.filter_nil, List.getElem?_cons_zero, List.getElem?_cons_succ, Option.getD_some, List.take_zero, List.take_succ_cons, List.mem_cons, List.not_mem_nil, or_false, decide_false, Bool.not_false, if_true]
    by_cases h1 : a = b
    · subst h1
      have h3 : ¬ (40 = a) := fun z => hb2 z.symm
      simp [h3]
    · have h1' : ¬ b = a := fun z => h1 z.symm
      have h3 : ¬ (40 = b) := fun z => hb2 z.symm
      by_cases h2 : a = 40
      · subst h2; simp [h1, h1']
      · have h2' : ¬ 40 = a := fun z => h2 z.symm
        simp [h1, h1', h2, h2', h3]
  have h40 := l40
  have hl : ∀ l : List Nat, (⟨l.toArray⟩ : Str).length = l.length := fun l => len_cps _
  rw [e]
  split
  · refine ⟨by rw [hl]; simp, by rw [hl]; simp, fun c hc => ?_, ?_⟩
    · have hc : c ∈ [a, 40] := hc
      simp only [List.mem_cons, List.not_mem_nil, or_false] at hc
      rcases hc with rfl | rfl
      · exact ha
      · exact h40
    · rename_i h; subst h
      show [a, 40].Nodup
      simp [hb2]
  · split
    · refine ⟨by rw [hl]; simp, by rw [hl]; simp, fun c hc => ?_, ?_⟩
      · have hc : c ∈ [a, b] := hc
        simp only [List.mem_cons, List.not_mem_nil, or_false] at hc
        rcases hc with rfl | rfl
        · exact ha
        · exact hb
      · show [a, b].Nodup
        rename_i h _
        simp [h]
    · refine ⟨by rw [hl]; simp, by rw [hl]; simp, fun c hc => ?_, ?_⟩
      · have hc : c ∈ [a, b, 40] := hc
        simp only [List.mem_cons, List.not_mem_nil, or_false] at hc
        rcases hc with rfl | rfl | rfl
        · exact ha
        · exact hb
        · exact h40
      · show [a, b, 40].Nodup
        rename_i h h2
        simp [h, h2, hb2]
theorem ok_asc {x : Str} (h : asc x) : PyData.strOk x = true := by
  show x.cps.all (· < 0x110000) = true
  rw [← Array.all_toList, List.all_eq_true]
  intro c hc
  have := h c hc
  exact decide_eq_true (by omega)
theorem let_asc : (LET.cps.toList.all fun c => decide (c < 128)) = true := by decide +kernel
theorem lets_asc {x : Str} (h : lets x) : asc x := fun c hc => of_decide_eq_true (List.all_eq_true.mp let_asc c (h c hc))
end Ly
set_option maxHeartbeats 2000000
namespace Ly
open PySem PySem.SeqAt
open AutoSeq1 (wpAny_loadPart')
open MeetsSeq MeetsSeq2 MeetsSeq3 SeqRoads2 GQ
section
variable {prog : Program} {w : World} {A : Around} {R : Result → Shared → Prop}
def ListZ (l b : Addr) (i : Nat) (Z : Shared → Prop) (s : Shared) : Prop := ∃ (items items2 : Array Value) (n n2 : Nat), s.heap.get? l = some { cls := .type "list", data := .seq items n } ∧ s.heap.get? b = some { cls := .type "list", data := .seq items2 n2 } ∧ i < items.size ∧ i < items2.size ∧ Z s
def ListB (prog : Program) (w : World) (A : Around) (E : Value → Shared → Prop) (l b : Addr) (N : Nat) (I : Nat → Shared → Prop) (Z : Shared → Prop) : Prop :=
  ∀ i s, I i s → ∃ (items items2 : Array Value) (n n2 : Nat), s.heap.get? l = some { cls := .type "list", data := .seq items n } ∧ s.heap.get? b = some { cls := .type "list", data := .seq items2 n2 } ∧ items.size = N ∧ items2.size = N ∧
    ∀ (h1 : i < items.size) (h2 : i < items2.size), wpAny (model prog w) A.in1 (eqBool items[i] items2[i]) (fun r s' => if r = true then I (i + 1) s' else ListZ l b i Z s') E s
theorem eq_loopB (l b : Addr) (N : Nat) (I : Nat → Shared → Prop) (Z : Shared → Prop) (hl : ListB prog w A (fun e s' => R (.error e) s') l b N I Z)
    (fin : ∀ s, I N s → R (.ok (.ret (.bool true))) s) (finZ : ∀ s, Z s → R (.ok (.ret (.bool false))) s) (k : Nat) :
    ∀ i : Nat, N - i = k → i ≤ N → ∀ s, I i s →
      wpAny (model prog w) A.in1 (Builtin.«list.__eq__.loop» ⟨[.ref l, .ref b, rawInt i, rawInt 2], []⟩) (FinOf prog w A R) (fun e s' => R (.error e) s') s := by
  induction k with
  | zero =>
    intro i hk hi s h
    obtain ⟨items, items2, n, n2, hl1, hb1, hs1, hs2, _⟩ := hl _ _ h
    have hi' : i = N := by omega
    have hR : R (.ok (.ret (.bool true))) s := fin s (hi' ▸ h)
    obtain ⟨hp, g, d, tk, os⟩ := s
    wp_walk using wpAny_loadPart' hl1, wpAny_loadPart' hb1
    have hi1 : items[((i : Nat) : Int).toNat]? = none := by simp; omega
    have hi2 : items2[((i : Nat) : Int).toNat]? = none := by simp; omega
    rw [hi1, hi2]
    wp_walk using wpAny_loadPart' hl1, wpAny_loadPart' hb1
    show R (.ok (.ret (.bool (items.size == items2.size)))) _
    rw [hs1, hs2]
    simpa using hR
  | succ k ih =>
    intro i hk hi s h
    obtain ⟨items, items2, n, n2, hl1, hb1, hs1, hs2, turn⟩ := hl _ _ h
    have hlt : i < items.size := by omega
    have hlt2 : i < items2.size := by omega
    have ht := turn hlt hlt2
    obtain ⟨hp, g, d, tk, os⟩ := s
    wp_walk using wpAny_loadPart' hl1, wpAny_loadPart' hb1
    have hi1 : items[((i : Nat) : Int).toNat]? = some items[i] := by simp [hlt]
    have hi2 : items2[((i : Nat) : Int).toNat]? = some items2[i] := by simp [hlt2]
    have hc : ((i : Int) + 1) = ((i + 1 : Nat) : Int) := by omega
    rw [hi1, hi2]
    refine wpAny_bind (wpAny_mono ht (fun r s2 h2 => ?_) fun _ _ x => x)
    cases r with
    | true =>
      rw [if_pos rfl] at h2
      have hrec := ih (i + 1) (by omega) (by omega) s2 h2
      obtain ⟨hp2, g2, d2, tk2, os2⟩ := s2
      wp_walk
      rw [hc]
      exact ⟨plainId_quiet plain_eq_loop _, codeAny_builtin entry_eq_loop (by
        rw [Around.under_plainId plain_eq_loop _]
        exact hrec)⟩
    | false =>
      rw [if_neg (by decide)] at h2
      obtain ⟨its, its2, m, m2, hl2, hb2, hj1, hj2, hz⟩ := h2
      have hz := finZ _ hz
      obtain ⟨hp2, g2, d2, tk2, os2⟩ := s2
      wp_walk using wpAny_loadPart' hl2, wpAny_loadPart' hb2
      have hi3 : its[((i : Nat) : Int).toNat]? = some its[i] := by simp [hj1]
      have hi4 : its2[((i : Nat) : Int).toNat]? = some its2[i] := by simp [hj2]
      rw [hi3, hi4]
      wp_walk
      exact hz
theorem list_eqB (l b : Addr) (N : Nat) (I : Nat → Shared → Prop) (Z : Shared → Prop) (hl : ListB prog w A (fun e s' => R (.error e) s') l b N I Z)
    (fin : ∀ s, I N s → R (.ok (.ret (.bool true))) s) (finZ : ∀ s, Z s → R (.ok (.ret (.bool false))) s) {s : Shared} (h : I 0 s) :
    wpAny (model prog w) A.in1 (Builtin.«list.__eq__» ⟨[.ref l, .ref b], []⟩) (FinOf prog w A R) (fun e s' => R (.error e) s') s := by
  obtain ⟨items, items2, n, n2, hl1, hb1, hs1, hs2, _⟩ := hl _ _ h
  have hrec := eq_loopB (A := A) (R := R) l b N I Z hl fin finZ _ 0 rfl (Nat.zero_le _) s h
  obtain ⟨hp, g, d, tk, os⟩ := s
  have f3 := AutoSeq1.sub_list_list
  have hne : ¬ (items.size != items2.size) = true := by simp [hs1, hs2]
  wp_walk using wpAny_loadPart' hl1, wpAny_loadPart' hb1
  exact ⟨plainId_quiet plain_eq_loop _, codeAny_builtin entry_eq_loop (by
    rw [Around.under_plainId plain_eq_loop _]
    exact hrec)⟩
end
section
variable {prog : Program} {w : World} {A : Around} {E : Value → Shared → Prop} {s : Shared}
theorem rc_listB {l b : Addr} {N : Nat} {Q : Value → Shared → Prop} (hu : A.units < cLine) (I : Nat → Shared → Prop) (Z : Shared → Prop) (hl : ListB prog w A E l b N I Z)
    (fin : ∀ s, I N s → Q (.bool true) s) (finZ : ∀ s, Z s → Q (.bool false) s) (h : I 0 s) : wpAny (model prog w) A (richCompare .Eq (.ref l) (.ref b)) Q E s := by
  obtain ⟨items, items2, n, n2, hl1, hb1, _, _, _⟩ := hl _ _ h
  refine wpAny_richCompare_same_room (op := .Eq) ⟨_, hl1, rfl⟩ ⟨_, hb1, rfl⟩ F.slot_list_eq (call_here F.slot_list_eq ⟨_, hl1, rfl⟩ F.entry_list_eq (F.args_list_eq_2 _ _) ?_) hu
  exact list_eqB (R := wants (fun v s' => v ≠ .notImplemented ∧ Q v s') E) l b N I Z hl (fun s' q => ⟨(fun x => nomatch x), fin s' q⟩) (fun s' q => ⟨(fun x => nomatch x), finZ s' q⟩) h
end
end Ly
namespace Ly
open PySem PySem.SeqAt PyProof.Rows
open AutoSeq1 (wpAny_loadPart')
open MeetsSeq MeetsSeq2 MeetsSeq3 SeqRoads2 GQ
section
variable {prog : Program} {w : World} {A : Around} {R : Result → Shared → Prop}
theorem tuple_eqB (l b : Addr) (items items2 : Array Value) (n n2 : Nat) (dd dd2 : Option Addr) (sl sl2 : Array (Option Value)) (I : Nat → Shared → Prop) (Z : Shared → Prop)
    (turn : ∀ i (h1 : i < items.size) (h2 : i < items2.size) s, I i s → wpAny (model prog w) A.in1 (eqBool items[i] items2[i]) (fun r s' => if r = true then I (i + 1) s' else Z s') (fun e s' => R (.error e) s') s)
    (fin : ∀ s, I (min items.size items2.size) s → R (.ok (.ret (.bool (items.size == items2.size)))) s) (finZ : ∀ s, Z s → R (.ok (.ret (.bool false))) s)
    {s : Shared} (hl1 : s.heap.get? l = some { cls := .type "tuple", dict := dd, data := .seq items n, slots := sl }) (hb1 : s.heap.get? b = some { cls := .type "tuple", dict := dd2, data := .seq items2 n2, slots := sl2 }) (h : I 0 s) :
    wpAny (model prog w) A.in1 (Builtin.«tuple.__eq__» ⟨[.ref l, .ref b], []⟩) (FinOf prog w A R) (fun e s' => R (.error e) s') s := by
  have f2 := AutoSeq1.sub_tuple_tuple
  have hZ : (items.toList.zip items2.toList).length = min items.size items2.size := by simp
  have h0 := h
  obtain ⟨hp, g, d, tk, os⟩ := s
  wp_walk using wpAny_loadPart' hl1, wpAny_loadPart' hb1, wpAny_forIn_list _ (fun rest b s' => b.1 = none ∧ ∃ i, rest = (items.toList.zip items2.toList).drop i ∧ i ≤ min items.size items2.size ∧ I i s') _
  case turn =>
    rintro ⟨y, x⟩ rest b s' ⟨hb', i, hz, hi, hI⟩
    have hlt : i < (items.toList.zip items2.toList).length := by
      rcases Nat.lt_or_ge i (items.toList.zip items2.toList).length with h' | h'
      · exact h'
      · rw [List.drop_of_length_le h'] at hz; cases hz
    have hm : i < min items.size items2.size := hZ ▸ hlt
    have h1 : i < items.size := by omega
    have h2 : i < items2.size := by omega
    rw [List.drop_eq_getElem_cons hlt] at hz
    injection hz with hyx hrest
    have hy : y = items[i] := by have := congrArg Prod.fst hyx; simpa using this
    have hx : x = items2[i] := by have := congrArg Prod.snd hyx; simpa using this
    subst hy hx
    refine wpAny_bind (wpAny_mono (turn i h1 h2 s' hI) (fun r s2 q2 => ?_) fun _ _ x => x)
    cases r with
    | true =>
      rw [if_pos rfl] at q2
      wp_walk
      exact ⟨rfl, i + 1, hrest, hm, q2⟩
    | false =>
      rw [if_neg (by decide)] at q2
      have hR := finZ s2 q2
      wp_walk
      exact hR
  case fin =>
    rintro ⟨b1, b2⟩ s' ⟨hb', i, hz, hi, hI⟩
    simp only at hb'
    subst hb'
    have hge : min items.size items2.size ≤ i := by
      rcases Nat.lt_or_ge i (items.toList.zip items2.toList).length with h' | h'
      · rw [List.drop_eq_getElem_cons h'] at hz; cases hz
      · exact hZ ▸ h'
    have hi' : i = min items.size items2.size := by omega
    have hR := fin s' (hi' ▸ hI)
    wp_walk
    simpa [Builtin.Tuple.tupleCompareSizes] using hR
  case h =>
    exact ⟨rfl, 0, rfl, Nat.zero_le _, h0⟩
theorem ne_loopB (l b : Addr) (N : Nat) (I : Nat → Shared → Prop) (Z : Shared → Prop) (hl : ListB prog w A (fun e s' => R (.error e) s') l b N I Z)
    (fin : ∀ s, I N s → R (.ok (.ret (.bool false))) s) (finZ : ∀ s, Z s → R (.ok (.ret (.bool true))) s) (k : Nat) :
    ∀ i : Nat, N - i = k → i ≤ N → ∀ s, I i s →
      wpAny (model prog w) A.in1 (Builtin.«list.__eq__.loop» ⟨[.ref l, .ref b, rawInt i, rawInt 3], []⟩) (FinOf prog w A R) (fun e s' => R (.error e) s') s := by
  induction k with
  | zero =>
    intro i hk hi s h
    obtain ⟨items, items2, n, n2, hl1, hb1, hs1, hs2, _⟩ := hl _ _ h
    have hi' : i = N := by omega
    have hR : R (.ok (.ret (.bool false))) s := fin s (hi' ▸ h)
    obtain ⟨hp, g, d, tk, os⟩ := s
    wp_walk using wpAny_loadPart' hl1, wpAny_loadPart' hb1
    have hi1 : items[((i : Nat) : Int).toNat]? = none := by simp; omega
    have hi2 : items2[((i : Nat) : Int).toNat]? = none := by simp; omega
    rw [hi1, hi2]
    wp_walk using wpAny_loadPart' hl1, wpAny_loadPart' hb1
    show R (.ok (.ret (.bool (items.size != items2.size)))) _
    rw [hs1, hs2]
    simpa using hR
  | succ k ih =>
    intro i hk hi s h
    obtain ⟨items, items2, n, n2, hl1, hb1, hs1, hs2, turn⟩ := hl _ _ h
    have hlt : i < items.size := by omega
    have hlt2 : i < items2.size := by omega
    have ht := turn hlt hlt2
    obtain ⟨hp, g, d, tk, os⟩ := s
    wp_walk using wpAny_loadPart' hl1, wpAny_loadPart' hb1
    have hi1 : items[((i : Nat) : Int).toNat]? = some items[i] := by simp [hlt]
    have hi2 : items2[((i : Nat) : Int).toNat]? = some items2[i] := by simp [hlt2]
    have hc : ((i : Int) + 1) = ((i + 1 : Nat) : Int) := by omega
    rw [hi1, hi2]
    refine wpAny_bind (wpAny_mono ht (fun r s2 h2 => ?_) fun _ _ x => x)
    cases r with
    | true =>
      rw [if_pos rfl] at h2
      have hrec := ih (i + 1) (by omega) (by omega) s2 h2
      obtain ⟨hp2, g2, d2, tk2, os2⟩ := s2
      wp_walk
      rw [hc]
      exact ⟨plainId_quiet plain_eq_loop _, codeAny_builtin entry_eq_loop (by
        rw [Around.under_plainId plain_eq_loop _]
        exact hrec)⟩
    | false =>
      rw [if_neg (by decide)] at h2
      obtain ⟨its, its2, m, m2, hl2, hb2, hj1, hj2, hz⟩ := h2
      have hz := finZ _ hz
      obtain ⟨hp2, g2, d2, tk2, os2⟩ := s2
      wp_walk using wpAny_loadPart' hl2, wpAny_loadPart' hb2
      have hi3 : its[((i : Nat) : Int).toNat]? = some its[i] := by simp [hj1]
      have hi4 : its2[((i : Nat) : Int).toNat]? = some its2[i] := by simp [hj2]
      rw [hi3, hi4]
      wp_walk
      exact hz
theorem list_neB (l b : Addr) (N : Nat) (I : Nat → Shared → Prop) (Z : Shared → Prop) (hl : ListB prog w A (fun e s' => R (.error e) s') l b N I Z)
    (fin : ∀ s, I N s → R (.ok (.ret (.bool false))) s) (finZ : ∀ s, Z s → R (.ok (.ret (.bool true))) s) {s : Shared} (h : I 0 s) :
    wpAny (model prog w) A.in1 (Builtin.«list.__ne__» ⟨[.ref l, .ref b], []⟩) (FinOf prog w A R) (fun e s' => R (.error e) s') s := by
  obtain ⟨items, items2, n, n2, hl1, hb1, hs1, hs2, _⟩ := hl _ _ h
  have hrec := ne_loopB (A := A) (R := R) l b N I Z hl fin finZ _ 0 rfl (Nat.zero_le _) s h
  obtain ⟨hp, g, d, tk, os⟩ := s
  have f3 := AutoSeq1.sub_list_list
  have hne : ¬ (items.size != items2.size) = true := by simp [hs1, hs2]
  wp_walk using wpAny_loadPart' hl1, wpAny_loadPart' hb1
  exact ⟨plainId_quiet plain_eq_loop _, codeAny_builtin entry_eq_loop (by
    rw [Around.under_plainId plain_eq_loop _]
    exact hrec)⟩
theorem tuple_neB (l b : Addr) (items items2 : Array Value) (n n2 : Nat) (dd dd2 : Option Addr) (sl sl2 : Array (Option Value)) (I : Nat → Shared → Prop) (Z : Shared → Prop)
    (turn : ∀ i (h1 : i < items.size) (h2 : i < items2.size) s, I i s → wpAny (model prog w) A.in1 (eqBool items[i] items2[i]) (fun r s' => if r = true then I (i + 1) s' else Z s') (fun e s' => R (.error e) s') s)
    (fin : ∀ s, I (min items.size items2.size) s → R (.ok (.ret (.bool (items.size != items2.size)))) s) (finZ : ∀ s, Z s → R (.ok (.ret (.bool true))) s)
    {s : Shared} (hl1 : s.heap.get? l = some { cls := .type "tuple", dict := dd, data := .seq items n, slots := sl }) (hb1 : s.heap.get? b = some { cls := .type "tuple", dict := dd2, data := .seq items2 n2, slots := sl2 }) (h : I 0 s) :
    wpAny (model prog w) A.in1 (Builtin.«tuple.__ne__» ⟨[.ref l, .ref b], []⟩) (FinOf prog w A R) (fun e s' => R (.error e) s') s := by
  have f2 := AutoSeq1.sub_tuple_tuple
  have hZ : (items.toList.zip items2.toList).length = min items.size items2.size := by simp
  have h0 := h
  obtain ⟨hp, g, d, tk, os⟩ := s
  wp_walk using wpAny_loadPart' hl1, wpAny_loadPart' hb1, wpAny_forIn_list _ (fun rest b s' => b.1 = none ∧ ∃ i, rest = (items.toList.zip items2.toList).drop i ∧ i ≤ min items.size items2.size ∧ I i s') _
  case turn =>
    rintro ⟨y, x⟩ rest b s' ⟨hb', i, hz, hi, hI⟩
    have hlt : i < (items.toList.zip items2.toList).length := by
      rcases Nat.lt_or_ge i (items.toList.zip items2.toList).length with h' | h'
      · exact h'
      · rw [List.drop_of_length_le h'] at hz; cases hz
    have hm : i < min items.size items2.size := hZ ▸ hlt
    have h1 : i < items.size := by omega
    have h2 : i < items2.size := by omega
    rw [List.drop_eq_getElem_cons hlt] at hz
    injection hz with hyx hrest
    have hy : y = items[i] := by have := congrArg Prod.fst hyx; simpa using this
    have hx : x = items2[i] := by have := congrArg Prod.snd hyx; simpa using this
    subst hy hx
    refine wpAny_bind (wpAny_mono (turn i h1 h2 s' hI) (fun r s2 q2 => ?_) fun _ _ x => x)
    cases r with
    | true =>
      rw [if_pos rfl] at q2
      wp_walk
      exact ⟨rfl, i + 1, hrest, hm, q2⟩
    | false =>
      rw [if_neg (by decide)] at q2
      have hR := finZ s2 q2
      wp_walk
      exact hR
  case fin =>
    rintro ⟨b1, b2⟩ s' ⟨hb', i, hz, hi, hI⟩
    simp only at hb'
    subst hb'
    have hge : min items.size items2.size ≤ i := by
      rcases Nat.lt_or_ge i (items.toList.zip items2.toList).length with h' | h'
      · rw [List.drop_eq_getElem_cons h'] at hz; cases hz
      · exact hZ ▸ h'
    have hi' : i = min items.size items2.size := by omega
    have hR := fin s' (hi' ▸ hI)
    wp_walk
    simpa [Builtin.Tuple.tupleCompareSizes] using hR
  case h =>
    exact ⟨rfl, 0, rfl, Nat.zero_le _, h0⟩
end
section
variable {prog : Program} {w : World} {A : Around} {E : Value → Shared → Prop} {s : Shared}
theorem rc_listBn {l b : Addr} {N : Nat} {Q : Value → Shared → Prop} (hu : A.units < cLine) (I : Nat → Shared → Prop) (Z : Shared → Prop) (hl : ListB prog w A E l b N I Z)
    (fin : ∀ s, I N s → Q (.bool false) s) (finZ : ∀ s, Z s → Q (.bool true) s) (h : I 0 s) : wpAny (model prog w) A (richCompare .NotEq (.ref l) (.ref b)) Q E s := by
  obtain ⟨items, items2, n, n2, hl1, hb1, _, _, _⟩ := hl _ _ h
  refine wpAny_richCompare_same_room (op := .NotEq) ⟨_, hl1, rfl⟩ ⟨_, hb1, rfl⟩ F.slot_list_ne (call_here F.slot_list_ne ⟨_, hl1, rfl⟩ F.entry_list_ne (F.args_list_ne_2 _ _) ?_) hu
  exact list_neB (R := wants (fun v s' => v ≠ .notImplemented ∧ Q v s') E) l b N I Z hl (fun s' q => ⟨(fun x => nomatch x), fin s' q⟩) (fun s' q => ⟨(fun x => nomatch x), finZ s' q⟩) h
theorem rc_tupB {l b : Addr} {items items2 : Array Value} {Q : Value → Shared → Prop} (hu : A.units < cLine) (I : Nat → Shared → Prop) (Z : Shared → Prop)
    (hl : s.heap.IsTuple l items) (hb : s.heap.IsTuple b items2)
    (turn : ∀ i (h1 : i < items.size) (h2 : i < items2.size) s, I i s → wpAny (model prog w) A.in1 (eqBool items[i] items2[i]) (fun r s' => if r = true then I (i + 1) s' else Z s') E s)
    (fin : ∀ s, I (min items.size items2.size) s → Q (.bool (items.size == items2.size)) s) (finZ : ∀ s, Z s → Q (.bool false) s) (h : I 0 s) : wpAny (model prog w) A (richCompare .Eq (.ref l) (.ref b)) Q E s := by
  obtain ⟨⟨cls, dd, data, sl⟩, ho, hc, n, hd⟩ := id hl
  obtain ⟨⟨cls2, dd2, data2, sl2⟩, ho2, hc2, n2, hd2⟩ := id hb
  simp only at hc hd hc2 hd2
  subst hc hd hc2 hd2
  refine wpAny_richCompare_same_room (op := .Eq) ⟨_, ho, rfl⟩ ⟨_, ho2, rfl⟩ F.slot_tuple_eq (call_here F.slot_tuple_eq ⟨_, ho, rfl⟩ F.entry_tuple_eq (F.args_tuple_eq_2 _ _) ?_) hu
  exact tuple_eqB (R := wants (fun v s' => v ≠ .notImplemented ∧ Q v s') E) l b items items2 n n2 dd dd2 sl sl2 I Z turn (fun s' q => ⟨(fun x => nomatch x), fin s' q⟩) (fun s' q => ⟨(fun x => nomatch x), finZ s' q⟩) ho ho2 h
theorem rc_tupBn {l b : Addr} {items items2 : Array Value} {Q : Value → Shared → Prop} (hu : A.units < cLine) (I : Nat → Shared → Prop) (Z : Shared → Prop)
    (hl : s.heap.IsTuple l items) (hb : s.heap.IsTuple b items2)
    (turn : ∀ i (h1 : i < items.size) (h2 : i < items2.size) s, I i s → wpAny (model prog w) A.in1 (eqBool items[i] items2[i]) (fun r s' => if r = true then I (i + 1) s' else Z s') E s)
    (fin : ∀ s, I (min items.size items2.size) s → Q (.bool (items.size != items2.size)) s) (finZ : ∀ s, Z s → Q (.bool true) s) (h : I 0 s) : wpAny (model prog w) A (richCompare .NotEq (.ref l) (.ref b)) Q E s := by
  obtain ⟨⟨cls, dd, data, sl⟩, ho, hc, n, hd⟩ := id hl
  obtain ⟨⟨cls2, dd2, data2, sl2⟩, ho2, hc2, n2, hd2⟩ := id hb
  simp only at hc hd hc2 hd2
  subst hc hd hc2 hd2
  refine wpAny_richCompare_same_room (op := .NotEq) ⟨_, ho, rfl⟩ ⟨_, ho2, rfl⟩ F.slot_tuple_ne (call_here F.slot_tuple_ne ⟨_, ho, rfl⟩ F.entry_tuple_ne (F.args_tuple_ne_2 _ _) ?_) hu
  exact tuple_neB (R := wants (fun v s' => v ≠ .notImplemented ∧ Q v s') E) l b items items2 n n2 dd dd2 sl sl2 I Z turn (fun s' q => ⟨(fun x => nomatch x), fin s' q⟩) (fun s' q => ⟨(fun x => nomatch x), finZ s' q⟩) ho ho2 h
theorem cmp_refl {K : PySem.W.Frag} {x C f : Addr} {ox : Obj} {od : Option Obj} {a : Value} {T id : String} {h₀ : Heap} {L : Addr} {m : Str → Option Value} {Q : Value → Shared → Prop} (hu : A.units < cLine) (F0 : Fr h₀ L s.heap m) (X₀ : K.In h₀)
    (I : PySem.W.InstAt s.heap x ox C od) (ha : s.TypeIs a T) (hsub : PySem.W.subIn K (.ref C) (.type T) = some false) (h1 : Slot T "__eq__" id)
    (hc1 : ∀ Q' : Value → Shared → Prop, Q' .notImplemented s → wpAny (model prog w) A (call (.builtin id) [a, .ref x]) Q' E s)
    (hs : PySem.W.findIn K (.ref C) "__eq__" = some (some (.ref f))) (hf : PySem.W.isFn K (.ref f) = true)
    (h : wpAny (model prog w) A (call (.ref f) [.ref x, a]) (PySem.W.CmpBack Q) E s) : wpAny (model prog w) A (richCompare .Eq a (.ref x)) Q E s := by
  have X := X₀.keeps F0.keep
  have two : wpAny (model prog w) A (tryCompare (.ref x) "__eq__" a) (fun r s' => ∃ v, r = some v ∧ Q v s') E s := by
    unfold tryCompare
    refine wpAny_bind (PySem.W.ifBound_K X I hs hf (wpAny_mono h (fun v s' hv => ?_) fun _ _ e => e))
    cases v <;> first | exact hv.elim | exact wpAny_pure ⟨_, rfl, hv⟩
  simp only [richCompare, cmpInfo_Eq, ha.oneThing_none]
  refine wpAny_holding (wpAny_bind (wpAny_cRoomFor hu ?_))
  refine wpAny_bind (wpAny_typeOf ha (wpAny_bind (I.type.here ?_)))
  have hne : (Value.type T != Value.ref C) = true := by simp [bne]
  simp only [hne, if_true]
  refine wpAny_bind ((PySem.W.looks_subIn X hsub).here ?_)
  simp only [Bool.false_eq_true, if_false, Bool.not_false, if_true]
  refine wpAny_bind (m := tryCompare a _ _) (wpAny_tryCompare_declines ha h1 (hc1 _ ⟨rfl, ?_⟩))
  refine wpAny_bind (wpAny_mono two (fun r s' z => ?_) fun _ _ e => e)
  obtain ⟨v, rfl, hq⟩ := z
  exact wpAny_pure hq
theorem eqBool_ne {a b : Value} {Q : Bool → Shared → Prop} (hne : (a == b) = false) (hf : ∀ x t, a ≠ .float x t) (h : wpAny (model prog w) A (richCompare .Eq a b) (fun v s' => ∃ r, v = .bool r ∧ Q r s') E s) : wpAny (model prog w) A (eqBool a b) Q E s := by
  have fin : wpAny (model prog w) A (richCompare .Eq a b >>= fun v => truthOfDropped v) Q E s := wpAny_bind (wpAny_mono h (fun v s' hv => by
    obtain ⟨r, rfl, q⟩ := hv
    exact wpAny_truthy_bool q) fun _ _ x => x)
  unfold eqBool
  refine wpAny_holding ?_
  refine wpAny_ite_split (fun hab => by rw [hne] at hab; cases hab) (fun _ => ?_)
  cases a with
  | float x t => exact absurd rfl (hf x t)
  | _ => exact fin
end
theorem int_decl_inst (b : Int) (u : Tok) (l C dx : Addr) : Meets (Builtin.«int.__eq__» ⟨[.int b u, .ref l], []⟩) (fun _ R s => s.heap.get? l = some (PySem.W.instObj C dx) ∧ R (.ok (.ret .notImplemented)) s) :=
  .of_wp fun prog w A R s h => by obtain ⟨hp, g, d, tk, os⟩ := s; obtain ⟨hl, h⟩ := h; wp_walk using wpAny_loadPart' hl, wpAny_load hl; exact ⟨_, rfl, h⟩
theorem bool_decl_inst (b : Bool) (l C dx : Addr) : Meets (Builtin.«int.__eq__» ⟨[.bool b, .ref l], []⟩) (fun _ R s => s.heap.get? l = some (PySem.W.instObj C dx) ∧ R (.ok (.ret .notImplemented)) s) :=
  .of_wp fun prog w A R s h => by obtain ⟨hp, g, d, tk, os⟩ := s; obtain ⟨hl, h⟩ := h; wp_walk using wpAny_loadPart' hl, wpAny_load hl; exact ⟨_, rfl, h⟩
theorem str_decl_inst (b : Str) (u : Tok) (l C dx : Addr) : Meets (Builtin.«str.__eq__» ⟨[.str b u, .ref l], []⟩) (fun _ R s => s.heap.get? l = some (PySem.W.instObj C dx) ∧ R (.ok (.ret .notImplemented)) s) :=
  .of_wp fun prog w A R s h => by obtain ⟨hp, g, d, tk, os⟩ := s; obtain ⟨hl, h⟩ := h; wp_walk using wpAny_loadPart' hl, wpAny_load hl; exact ⟨_, rfl, h⟩
section
variable {A : Around} {s : Shared} {prog : Program} {w : World} {E : Value → Shared → Prop} {C dx : Addr} {x : Addr}
theorem none_decl (Q' : Value → Shared → Prop) (h : Q' .notImplemented s) : wpAny (model prog w) A (call (.builtin "NoneType.__eq__") [.none, .ref x]) Q' E s :=
  call_gives F.slot_NoneType_eq rfl F.entry_NoneType_eq (F.args_NoneType_eq_2 _ _) (NoneType___eq___none_ref_0 x) h
theorem int_decl {b : Int} {u : Tok} (hx : s.heap.get? x = some (PySem.W.instObj C dx)) (Q' : Value → Shared → Prop) (h : Q' .notImplemented s) : wpAny (model prog w) A (call (.builtin "int.__eq__") [.int b u, .ref x]) Q' E s :=
  call_meets F.slot_int_eq (typeIs_int s b u) F.entry_int_eq (F.args_int_eq_2 _ _) (int_decl_inst b u x C dx) ⟨hx, h⟩
theorem bool_decl {b : Bool} (hx : s.heap.get? x = some (PySem.W.instObj C dx)) (Q' : Value → Shared → Prop) (h : Q' .notImplemented s) : wpAny (model prog w) A (call (.builtin "int.__eq__") [.bool b, .ref x]) Q' E s :=
  call_meets F.slot_bool_eq rfl F.entry_int_eq (F.args_int_eq_2 _ _) (bool_decl_inst b x C dx) ⟨hx, h⟩
theorem str_decl {b : Str} {u : Tok} (hx : s.heap.get? x = some (PySem.W.instObj C dx)) (Q' : Value → Shared → Prop) (h : Q' .notImplemented s) : wpAny (model prog w) A (call (.builtin "str.__eq__") [.str b u, .ref x]) Q' E s :=
  call_meets F.slot_str_eq (typeIs_str s b u) F.entry_str_eq (F.args_str_eq_2 _ _) (str_decl_inst b u x C dx) ⟨hx, h⟩
theorem list_decl {l : Addr} {items : Array Value} (hl : s.heap.IsList l items) (sub : PySem.W.Looks (model prog w) s.heap (isInstance (.ref x) (.type "list")) false) (Q' : Value → Shared → Prop) (h : Q' .notImplemented s) : wpAny (model prog w) A (call (.builtin "list.__eq__") [.ref l, .ref x]) Q' E s := by
  obtain ⟨⟨cls, dd, data, sl⟩, ho, hc, n, hd⟩ := id hl
  simp only at hc hd
  subst hc hd
  refine call_here F.slot_list_eq ⟨_, ho, rfl⟩ F.entry_list_eq (F.args_list_eq_2 _ _) ?_
  obtain ⟨hp, g, d, tk, os⟩ := s
  wp_walk using wpAny_loadPart' ho, sub.here
  exact h
theorem tuple_decl {l : Addr} {items : Array Value} (hl : s.heap.IsTuple l items) (sub : PySem.W.Looks (model prog w) s.heap (isInstance (.ref x) (.type "tuple")) false) (Q' : Value → Shared → Prop) (h : Q' .notImplemented s) : wpAny (model prog w) A (call (.builtin "tuple.__eq__") [.ref l, .ref x]) Q' E s := by
  obtain ⟨⟨cls, dd, data, sl⟩, ho, hc, n, hd⟩ := id hl
  simp only at hc hd
  subst hc hd
  refine call_here F.slot_tuple_eq ⟨_, ho, rfl⟩ F.entry_tuple_eq (F.args_tuple_eq_2 _ _) ?_
  obtain ⟨hp, g, d, tk, os⟩ := s
  wp_walk using wpAny_loadPart' ho, sub.here
  exact h
theorem dict_decl {l : Addr} {ob : Obj} (hl : s.heap.get? l = some ob) (hc : ob.cls = .type "dict") (sub : PySem.W.Looks (model prog w) s.heap (isInstance (.ref x) (.type "dict")) false) (Q' : Value → Shared → Prop) (h : Q' .notImplemented s) : wpAny (model prog w) A (call (.builtin "dict.__eq__") [.ref l, .ref x]) Q' E s := by
  refine call_here F.slot_dict_eq ⟨_, hl, hc⟩ F.entry_dict_eq (F.args_dict_eq_2 _ _) ?_
  obtain ⟨hp, g, d, tk, os⟩ := s
  wp_walk using wpAny_loadPart' hl, sub.here
  exact h
end
end Ly
set_option maxHeartbeats 4000000
namespace Ly
open PySem PySem.Spec L2 PyProof.Rows He
open Lx (Le Ky vTy)
def Like (x y : D) : Prop := ∃ (K : PySem.W.Frag) (c : Cg) (w : Wd) (s : S) (v : V), Ok K c w s ∧ Rep K c w.al w.F v x ∧ Rep K c w.al w.F v y
@[reducible] def W.same (x y : D) (m : W Bool) : W Bool := ⟨fun s Q E => (Like x y → Q s true) ∧ m.wp s Q E, fun h g p => ⟨fun z => h _ _ (p.1 z), m.mono h g p.2⟩⟩
@[reducible] def ownQ (tb : Tb) (tys : List Ky) (cl : Str) (x y : D) : W Bool := match tb.lookup cl with
  | some g => (tyW y).bind fun t => W.need (t ∈ tys) (((g [x, y]).calm).bind blD)
  | none => W.stuck
def eqsBy (f : D → D → W Bool) : List D → List D → W Bool
  | x :: xs, y :: ys => (W.same x y (f x y)).bind fun b => match b with | true => eqsBy f xs ys | false => W.ret false
  | [], [] => W.ret true
  | _, _ => W.ret false
def kdD : D → Option Nat
  | .non => some 0 | .bl _ => some 1 | .int _ => some 2 | .str _ => some 3 | .lst _ => some 4 | .tup _ => some 5 | _ => none
def kdO : D → Option Nat
  | .dct _ => some 6 | x => kdD x
def eqPl : D → D → Option Bool
  | .non, .non => some true
  | .bl a, .bl b => some (a == b)
  | .int i, .int j => some (i == j)
  | .str a, .str b => some (a == b)
  | .bl a, .int j => some ((if a then 1 else 0) == j)
  | .int i, .bl b => some (i == (if b then 1 else 0))
  | x, y => match kdD x, kdD y with | some a, some b => if a = b then none else some false | _, _ => none
@[reducible] def restQ (tb : Tb) (tys : List Ky) (x y : D) : W Bool := match y with
  | .obj cl gs => W.need ((kdO x).isSome = true) (ownQ tb tys cl (.obj cl gs) x)
  | y => match eqPl x y with | some b => W.ret b | none => W.stuck
def rcD (tb : Tb) (tys : List Ky) : Nat → D → D → W Bool
  | 0, _, _ => W.stuck
  | n + 1, x, y => match x with
    | .obj cl gs => ownQ tb tys cl (.obj cl gs) y
    | .lst xs => (match y with
      | .lst ys => if xs.length = ys.length then eqsBy (rcD tb tys n) xs ys else W.ret false
      | y => restQ tb tys (.lst xs) y)
    | .tup xs => (match y with
      | .tup ys => eqsBy (rcD tb tys n) xs ys
      | y => restQ tb tys (.tup xs) y)
    | x => restQ tb tys x y
@[reducible] def restN (x y : D) : W Bool := match eqPl x y with | some b => W.ret b | none => W.stuck
def rnD (tb : Tb) (tys : List Ky) : Nat → D → D → W Bool
  | 0, _, _ => W.stuck
  | n + 1, x, y => match x with
    | .obj cl gs => ownQ tb tys cl (.obj cl gs) y
    | .lst xs => (match y with
      | .lst ys => if xs.length = ys.length then eqsBy (rcD tb tys n) xs ys else W.ret false
      | y => restN (.lst xs) y)
    | .tup xs => (match y with
      | .tup ys => eqsBy (rcD tb tys n) xs ys
      | y => restN (.tup xs) y)
    | x => restN x y
def RcR (X : Cx) (n : Nat) (op : CmpOp) (neg : Bool) (r : V → V → Hp → (Bool → Hp → Prop) → Prop) : Prop := ∀ (A : Around) (pins : List (Addr × Obj)) (s : Shared) (σ : L2.St) (H : Hp) (x y : V) (u v : Value) (Q : Bool → Hp → Prop), L2.Sub X n A → Inv X pins σ H s → RelV x u → RelV y v → r x y H Q →
  wpAny (model X.prog X.w) A (richCompare op u v) (fun z s' => ∃ b : Bool, z = .bool (if neg then !b else b) ∧ ∃ H', Inv X pins σ H' s' ∧ Q b H') X.xe s
def EqR (X : Cx) (n : Nat) (r : V → V → Hp → (Bool → Hp → Prop) → Prop) : Prop := ∀ (A : Around) (pins : List (Addr × Obj)) (s : Shared) (σ : L2.St) (H : Hp) (x y : V) (u v : Value) (Q : Bool → Hp → Prop), L2.Sub X n A → Inv X pins σ H s → RelV x u → RelV y v → r x y H Q →
  wpAny (model X.prog X.w) A (eqBool u v) (fun b s' => ∃ H', Inv X pins σ H' s' ∧ Q b H') X.xe s
def PrQ (K : PySem.W.Frag) (f : D → D → W Bool) : V → V → Hp → (Bool → Hp → Prop) → Prop := fun x y H Q => ∃ (c : Cg) (w : Wd) (s : S) (dx dy : D), w.H = H ∧ Ok K c w s ∧ Rep K c w.al w.F x dx ∧ Rep K c w.al w.F y dy ∧ Den K c (f dx dy) w s (fun b w' _ => Q b w'.H) (fun _ _ _ => False)
theorem relV_inj : ∀ {x y : V} {u : Value}, RelV x u → RelV y u → x = y
  | .non, y, u, h, g => by cases h; cases y <;> first | rfl | (simp only [L2.RelV, reduceCtorEq, exists_false] at g)
  | .bl b, y, u, h, g => by cases h; cases y <;> first | (simp only [L2.RelV, reduceCtorEq, exists_false] at g; done) | (cases g; rfl)
  | .int i, y, u, h, g => by obtain ⟨t, rfl⟩ := h; cases y <;> first | (simp only [L2.RelV, reduceCtorEq, exists_false] at g; done) | (obtain ⟨_, g⟩ := g; cases g; rfl)
  | .str i, y, u, h, g => by obtain ⟨t, rfl⟩ := h; cases y <;> first | (simp only [L2.RelV, reduceCtorEq, exists_false] at g; done) | (obtain ⟨_, g⟩ := g; cases g; rfl)
  | .byt i, y, u, h, g => by obtain ⟨t, rfl⟩ := h; cases y <;> first | (simp only [L2.RelV, reduceCtorEq, exists_false] at g; done) | (obtain ⟨_, g⟩ := g; cases g; rfl)
  | .flt i, y, u, h, g => by obtain ⟨t, rfl⟩ := h; cases y <;> first | (simp only [L2.RelV, reduceCtorEq, exists_false] at g; done) | (obtain ⟨_, g⟩ := g; cases g; rfl)
  | .ref a, y, u, h, g => by cases h; cases y <;> first | (simp only [L2.RelV, reduceCtorEq, exists_false] at g; done) | (cases g; rfl)
  | .ty a, y, u, h, g => by cases h; cases y <;> first | (simp only [L2.RelV, reduceCtorEq, exists_false] at g; done) | (cases g; rfl)
theorem Rep.noFlt {K : PySem.W.Frag} {c : Cg} {al : List Addr} {F : Hp} {v : V} {d : D} {u : Value} (r : Rep K c al F v d) (h : RelV v u) : ∀ x t, u ≠ .float x t := by
  intro x t e
  subst e
  cases r <;> first | (cases h; done) | (obtain ⟨_, h⟩ := h; cases h)
section
variable {X : Cx} {n : Nat} {f : D → D → W Bool}
theorem eqR_of (h : RcR X n .Eq false (PrQ X.K f)) : EqR X n (PrQ X.K fun x y => W.same x y (f x y)) := by
  intro A pins s σ H x y u v Q sb I rx ry d
  obtain ⟨c, w, s0, dx, dy, rfl, o, qx, qy, q⟩ := d
  cases e : (u == v) with
  | true =>
    have e := eq_of_beq e
    subst e
    have e2 := relV_inj rx ry
    subst e2
    exact SeqAt.EqAt.same (A := A) (s := s) u X.prog X.w X.xe _ ⟨w.H, I, q.1 ⟨X.K, c, w, s0, x, o, qx, qy⟩ w (Go.refl ..) o⟩
  | false =>
    refine eqBool_ne e (qx.noFlt rx) (wpAny_mono (h A pins s σ w.H x y u v Q sb I rx ry ⟨c, w, s0, dx, dy, rfl, o, qx, qy, q.2⟩) (fun z s' hz => ?_) fun _ _ z => z)
    obtain ⟨b, rfl, H', I', q'⟩ := hz
    exact ⟨b, rfl, H', I', q'⟩
theorem rest_at {A : Around} {pins : List (Addr × Obj)} {σ : L2.St} {s : Shared} {c : Cg} {w : Wd} {s0 : S} {v1 v2 : V} {x y : D} {u1 u2 : Value} {k : Bool} (hu : A.units < cLine) (I : Inv X pins σ w.H s) (o : Ok X.K c w s0) (qx : Rep X.K c w.al w.F v1 x) (qy : Rep X.K c w.al w.F v2 y)
    (r1 : RelV v1 u1) (r2 : RelV v2 u2) (e : eqPl x y = some k) : SeqAt.RcAt A s u1 u2 k ∧ SeqAt.RcNeAt A s u1 u2 (!k) := by
  cases qx with
  | non =>
    cases r1
    cases qy with
    | non => cases r2; cases e; exact ⟨SeqAt.RcAt.none_none, SeqAt.RcNeAt.none_none⟩
    | bl b => cases r2; cases e; exact ⟨SeqAt.RcAt.none_bool b, SeqAt.RcNeAt.none_bool b⟩
    | int b => obtain ⟨t, rfl⟩ := r2; cases e; exact ⟨SeqAt.RcAt.none_int b t, SeqAt.RcNeAt.none_int b t⟩
    | str b => obtain ⟨t, rfl⟩ := r2; cases e; exact ⟨SeqAt.RcAt.none_str b t, SeqAt.RcNeAt.none_str b t⟩
    | lst a r => cases r2; cases e; obtain ⟨its, _, p, _⟩ := I.list (SqL.of (o.fro _ _ a)); exact ⟨SeqAt.RcAt.none_list p.isList hu, SeqAt.RcNeAt.none_list p.isList hu⟩
    | tup a r => cases r2; cases e; obtain ⟨its, _, p, _⟩ := I.tuple (SqT.of (o.fro _ _ a)); exact ⟨SeqAt.RcAt.none_tuple p hu, SeqAt.RcNeAt.none_tuple p hu⟩
    | _ => cases e
  | bl b1 =>
    cases r1
    cases qy with
    | non => cases r2; cases e; exact ⟨SeqAt.RcAt.bool_none b1, SeqAt.RcNeAt.bool_none b1⟩
    | bl b => cases r2; cases e; exact ⟨SeqAt.RcAt.bool_bool b1 b, SeqAt.RcNeAt.bool_bool b1 b⟩
    | int b => obtain ⟨t, rfl⟩ := r2; cases e; exact ⟨SeqAt.RcAt.bool_int b1 b t, SeqAt.RcNeAt.bool_int b1 b t⟩
    | str b => obtain ⟨t, rfl⟩ := r2; cases e; exact ⟨SeqAt.RcAt.bool_str b1 b t, SeqAt.RcNeAt.bool_str b1 b t⟩
    | lst a r => cases r2; cases e; obtain ⟨its, _, p, _⟩ := I.list (SqL.of (o.fro _ _ a)); exact ⟨SeqAt.RcAt.bool_list b1 p.isList hu, SeqAt.RcNeAt.bool_list b1 p.isList hu⟩
    | tup a r => cases r2; cases e; obtain ⟨its, _, p, _⟩ := I.tuple (SqT.of (o.fro _ _ a)); exact ⟨SeqAt.RcAt.bool_tuple b1 p hu, SeqAt.RcNeAt.bool_tuple b1 p hu⟩
    | _ => cases e
  | int b1 =>
    obtain ⟨t1, rfl⟩ := r1
    cases qy with
    | non => cases r2; cases e; exact ⟨SeqAt.RcAt.int_none b1 t1, SeqAt.RcNeAt.int_none b1 t1⟩
    | bl b => cases r2; cases e; exact ⟨SeqAt.RcAt.int_bool b1 t1 b, SeqAt.RcNeAt.int_bool b1 t1 b⟩
    | int b => obtain ⟨t, rfl⟩ := r2; cases e; exact ⟨SeqAt.RcAt.int_int b1 t1 b t, SeqAt.RcNeAt.int_int b1 t1 b t⟩
    | str b => obtain ⟨t, rfl⟩ := r2; cases e; exact ⟨SeqAt.RcAt.int_str b1 t1 b t, SeqAt.RcNeAt.int_str b1 t1 b t⟩
    | lst a r => cases r2; cases e; obtain ⟨its, _, p, _⟩ := I.list (SqL.of (o.fro _ _ a)); exact ⟨SeqAt.RcAt.int_list b1 t1 p.isList hu, SeqAt.RcNeAt.int_list b1 t1 p.isList hu⟩
    | tup a r => cases r2; cases e; obtain ⟨its, _, p, _⟩ := I.tuple (SqT.of (o.fro _ _ a)); exact ⟨SeqAt.RcAt.int_tuple b1 t1 p hu, SeqAt.RcNeAt.int_tuple b1 t1 p hu⟩
    | _ => cases e
  | str b1 =>
    obtain ⟨t1, rfl⟩ := r1
    cases qy with
    | non => cases r2; cases e; exact ⟨SeqAt.RcAt.str_none b1 t1, SeqAt.RcNeAt.str_none b1 t1⟩
    | bl b => cases r2; cases e; exact ⟨SeqAt.RcAt.str_bool b1 t1 b, SeqAt.RcNeAt.str_bool b1 t1 b⟩
    | int b => obtain ⟨t, rfl⟩ := r2; cases e; exact ⟨SeqAt.RcAt.str_int b1 t1 b t, SeqAt.RcNeAt.str_int b1 t1 b t⟩
    | str b => obtain ⟨t, rfl⟩ := r2; cases e; exact ⟨SeqAt.RcAt.str_str b1 t1 b t, SeqAt.RcNeAt.str_str b1 t1 b t⟩
    | lst a r => cases r2; cases e; obtain ⟨its, _, p, _⟩ := I.list (SqL.of (o.fro _ _ a)); exact ⟨SeqAt.RcAt.str_list b1 t1 p.isList hu, SeqAt.RcNeAt.str_list b1 t1 p.isList hu⟩
    | tup a r => cases r2; cases e; obtain ⟨its, _, p, _⟩ := I.tuple (SqT.of (o.fro _ _ a)); exact ⟨SeqAt.RcAt.str_tuple b1 t1 p hu, SeqAt.RcNeAt.str_tuple b1 t1 p hu⟩
    | _ => cases e
  | lst a1 r0 =>
    cases r1
    obtain ⟨its1, _, p1, _⟩ := I.list (SqL.of (o.fro _ _ a1))
    cases qy with
    | non => cases r2; cases e; exact ⟨SeqAt.RcAt.list_none p1.isList hu, SeqAt.RcNeAt.list_none p1.isList hu⟩
    | bl b => cases r2; cases e; exact ⟨SeqAt.RcAt.list_bool b p1.isList hu, SeqAt.RcNeAt.list_bool b p1.isList hu⟩
    | int b => obtain ⟨t, rfl⟩ := r2; cases e; exact ⟨SeqAt.RcAt.list_int b t p1.isList hu, SeqAt.RcNeAt.list_int b t p1.isList hu⟩
    | str b => obtain ⟨t, rfl⟩ := r2; cases e; exact ⟨SeqAt.RcAt.list_str b t p1.isList hu, SeqAt.RcNeAt.list_str b t p1.isList hu⟩
    | tup a r => cases r2; cases e; obtain ⟨its, _, p, _⟩ := I.tuple (SqT.of (o.fro _ _ a)); exact ⟨SeqAt.RcAt.list_tuple p1.isList p hu, SeqAt.RcNeAt.list_tuple p1.isList p hu⟩
    | _ => cases e
  | tup a1 r0 =>
    cases r1
    obtain ⟨its1, _, p1, _⟩ := I.tuple (SqT.of (o.fro _ _ a1))
    cases qy with
    | non => cases r2; cases e; exact ⟨SeqAt.RcAt.tuple_none p1 hu, SeqAt.RcNeAt.tuple_none p1 hu⟩
    | bl b => cases r2; cases e; exact ⟨SeqAt.RcAt.tuple_bool b p1 hu, SeqAt.RcNeAt.tuple_bool b p1 hu⟩
    | int b => obtain ⟨t, rfl⟩ := r2; cases e; exact ⟨SeqAt.RcAt.tuple_int b t p1 hu, SeqAt.RcNeAt.tuple_int b t p1 hu⟩
    | str b => obtain ⟨t, rfl⟩ := r2; cases e; exact ⟨SeqAt.RcAt.tuple_str b t p1 hu, SeqAt.RcNeAt.tuple_str b t p1 hu⟩
    | lst a r => cases r2; cases e; obtain ⟨its, _, p, _⟩ := I.list (SqL.of (o.fro _ _ a)); exact ⟨SeqAt.RcAt.tuple_list p1 p.isList hu, SeqAt.RcNeAt.tuple_list p1 p.isList hu⟩
    | _ => cases e
  | _ => cases y <;> cases e
end
end Ly
namespace Ly
open PySem PySem.Spec L2 PyProof.Rows He
open Lx (Le Ky vTy)
theorem TabE.get {P : Program} {w : World} {K : PySem.W.Frag} {mg : Str → Option Value} {base : Heap} {k : Nat} {tys : List Ky} {cl : Str} {g : List D → W D} : ∀ {tb : Tb}, TabE P w K mg base k tys tb → tb.lookup cl = some g →
    ∃ f, Cls K (ga K cl) ∧ PySem.W.findIn K (.ref (ga K cl)) "__eq__" = some (some (.ref f)) ∧ PySem.W.isFn K (.ref f) = true ∧ PySem.W.findIn K (.ref (ga K cl)) "__ne__" = some (some (.builtin "object.__ne__")) ∧ PySem.W.subIn K (.ref (ga K cl)) (.type "object") = some true ∧
      (∀ t ∈ tys, PySem.W.notFirst K (ga K cl) (vTy K t) = true) ∧ Fk P w K mg base k f (Pr K 2 g)
  | _, .nil, h => by cases h
  | _, .cons (cl := d) a b c e f g F r, h => by
    rw [List.lookup_cons] at h
    cases q : (cl == d) with
    | true => rw [q] at h; cases h; rw [eq_of_beq q]; exact ⟨_, a, b, c, e, f, g, F⟩
    | false => rw [q] at h; exact r.get h
def NSub (K : PySem.W.Frag) (tb : Tb) : Prop := ∀ cl g, tb.lookup cl = some g → ∀ T ∈ (["NoneType", "bool", "int", "str", "list", "tuple", "dict"] : List String), PySem.W.subIn K (.ref (ga K cl)) (.type T) = some false
section
variable {X : Cx} {k n : Nat} {tb : Tb} {tys : List Ky}
theorem own_run {f : Addr} {g : List D → W D} {A : Around} {pins : List (Addr × Obj)} {s : Shared} {σ : L2.St} {H : Hp} {x y : V} {u v : Value} {Q : Bool → Hp → Prop} (F : Fk X.prog X.w X.K X.mg X.base k f (Pr X.K 2 g)) (sb : L2.Sub X k A) (I : Inv X pins σ H s) (rx : RelV x u) (ry : RelV y v)
    (q : Pr X.K 2 g [x, y] H (fun v H' => ∃ b, v = .bl b ∧ Q b H') E0) : wpAny (model X.prog X.w) A (call (.ref f) [u, v]) (fun z s' => ∃ b : Bool, z = .bool b ∧ ∃ H', Inv X pins σ H' s' ∧ Q b H') X.xe s := by
  obtain ⟨fd, ps, G, hb, hk⟩ := F.ex
  have hl := G.len _ _ _ _ q
  have r2 : Vals [x, y] [u, v] := .cons rx (.cons ry .nil)
  have bd := hb s [u, v] I.kIn (by simpa using hl)
  rw [List.append_nil] at bd
  have e0 : Env0 X.prog X.w X.K X.mg X.base A X.stack s H := by
    have e := I.env0
    exact ⟨by rw [sb.fr]; exact e.frames, e.mod, e.bs, e.bsz, e.funs, e.frf, e.hok, e.bare⟩
  refine wpAny_call (codeAny_mono (G.run A X.stack s H ⟨[u, v], []⟩ [u, v] [x, y] _ E0 sb.room e0 bd r2 q) fun r s' hq => ?_)
  cases r with
  | error e => exact px0 pins σ H s e s' I hq
  | ok fl =>
    cases fl with
    | ret w =>
      obtain ⟨z, H', I', rz, b, ez, q2⟩ := I.after hq
      subst ez
      cases rz
      exact ⟨b, rfl, H', I', q2⟩
    | next => exact False.elim hq
    | brk => exact False.elim hq
    | cont => exact False.elim hq
theorem ownQ_of {c : Cg} {w : Wd} {s0 : S} {cl : Str} {gs : List (Str × D)} {v1 v2 : V} {y : D} {Q : Bool → Hp → Prop} (T : TabE X.prog X.w X.K X.mg X.base k tys tb) (hown : ∀ cl, Ky.c cl ∈ tys → Lx.OwnC X.K cl) (o : Ok X.K c w s0) (qx : Rep X.K c w.al w.F v1 (.obj cl gs)) (qy : Rep X.K c w.al w.F v2 y)
    (h : Den X.K c (ownQ tb tys cl (.obj cl gs) y) w s0 (fun b w' _ => Q b w'.H) (fun _ _ _ => False)) :
    ∃ f g t, tb.lookup cl = some g ∧ PySem.W.findIn X.K (.ref (ga X.K cl)) "__eq__" = some (some (.ref f)) ∧ PySem.W.isFn X.K (.ref f) = true ∧ PySem.W.findIn X.K (.ref (ga X.K cl)) "__ne__" = some (some (.builtin "object.__ne__")) ∧ PySem.W.subIn X.K (.ref (ga X.K cl)) (.type "object") = some true ∧
      PySem.W.notFirst X.K (ga X.K cl) (vTy X.K t) = true ∧ TyX X.K w.H v2 (vTy X.K t) ∧ Fk X.prog X.w X.K X.mg X.base k f (Pr X.K 2 g) ∧ Pr X.K 2 g [v1, v2] w.H (fun v H' => ∃ b, v = .bl b ∧ Q b H') E0 := by
  unfold ownQ at h
  cases e : tb.lookup cl with
  | none => rw [e] at h; exact h.elim
  | some g =>
    rw [e] at h
    obtain ⟨t, ty, ht, h⟩ := ty_of o qy h
    obtain ⟨f, _, h1, h2, h3, h4, h5, F⟩ := T.get e
    refine ⟨f, g, t, rfl, h1, h2, h3, h4, h5 t ht, ty fun k e2 => hown k (e2 ▸ ht), F, c, w, s0, [.obj cl gs, y], rfl, o, .cons qx (.cons qy .nil), rfl, (Den.bind h).calm.mono fun d w1 s1 g1 o1 q v1 r1 => ?_⟩
    cases r1 with
    | bl b => exact ⟨b, rfl, q.ret o1⟩
    | _ => exact q.elim
theorem rc_own {A : Around} {pins : List (Addr × Obj)} {s : Shared} {σ : L2.St} {c : Cg} {w : Wd} {s0 : S} {cl : Str} {gs : List (Str × D)} {v1 v2 : V} {u v : Value} {y : D} {Q : Bool → Hp → Prop} (T : TabE X.prog X.w X.K X.mg X.base k tys tb) (hown : ∀ cl, Ky.c cl ∈ tys → Lx.OwnC X.K cl) (sb : L2.Sub X k A) (I : Inv X pins σ w.H s)
    (rx : RelV v1 u) (ry : RelV v2 v) (o : Ok X.K c w s0) (qx : Rep X.K c w.al w.F v1 (.obj cl gs)) (qy : Rep X.K c w.al w.F v2 y)
    (h : Den X.K c (ownQ tb tys cl (.obj cl gs) y) w s0 (fun b w' _ => Q b w'.H) (fun _ _ _ => False)) : wpAny (model X.prog X.w) A (richCompare .Eq u v) (fun z s' => ∃ b : Bool, z = .bool (if false then !b else b) ∧ ∃ H', Inv X pins σ H' s' ∧ Q b H') X.xe s := by
  obtain ⟨f, g, t, eg, h1, h2, h3, h4, h5, ty, F, q⟩ := ownQ_of T hown o qx qy h
  cases qx with
  | @obj a dx _ fs _ hf hC hn rf =>
    cases rx
    obtain ⟨P, Z, pz, nz⟩ := kit_of I ry ty
    obtain ⟨mA, J, _⟩ := ins_get I.hok (o.fro _ _ hf)
    obtain ⟨od, J, _⟩ := J.look
    obtain ⟨m, hF⟩ := I.fr
    refine PySem.W.cmp_K (op := .Eq) (tb := vTy X.K t) sb.room.units0 hF I.ok.mod.kin J (Z.ty _ _ I.kIn pz) h5 h1 h2 (wpAny_mono (own_run F sb I (show RelV (.ref a) (.ref a) from rfl) ry q) (fun z s' hz => ?_) fun _ _ z => z)
    obtain ⟨b, rfl, H', I', q'⟩ := hz
    exact ⟨b, rfl, H', I', q'⟩
theorem rn_own {A : Around} {pins : List (Addr × Obj)} {s : Shared} {σ : L2.St} {c : Cg} {w : Wd} {s0 : S} {cl : Str} {gs : List (Str × D)} {v1 v2 : V} {u v : Value} {y : D} {Q : Bool → Hp → Prop} (T : TabE X.prog X.w X.K X.mg X.base k tys tb) (hown : ∀ cl, Ky.c cl ∈ tys → Lx.OwnC X.K cl) (sb : L2.Sub X (k + 1) A) (I : Inv X pins σ w.H s)
    (rx : RelV v1 u) (ry : RelV v2 v) (o : Ok X.K c w s0) (qx : Rep X.K c w.al w.F v1 (.obj cl gs)) (qy : Rep X.K c w.al w.F v2 y)
    (h : Den X.K c (ownQ tb tys cl (.obj cl gs) y) w s0 (fun b w' _ => Q b w'.H) (fun _ _ _ => False)) : wpAny (model X.prog X.w) A (richCompare .NotEq u v) (fun z s' => ∃ b : Bool, z = .bool (if true then !b else b) ∧ ∃ H', Inv X pins σ H' s' ∧ Q b H') X.xe s := by
  obtain ⟨f, g, t, eg, h1, h2, h3, h4, h5, ty, F, q⟩ := ownQ_of T hown o qx qy h
  cases qx with
  | @obj a dx _ fs _ hf hC hn rf =>
    cases rx
    obtain ⟨P, Z, pz, nz⟩ := kit_of I ry ty
    obtain ⟨mA, J, _⟩ := ins_get I.hok (o.fro _ _ hf)
    obtain ⟨od, J, _⟩ := J.look
    obtain ⟨m, hF⟩ := I.fr
    refine ne_own (tb := vTy X.K t) (by have := sb.room.units; omega) hF I.ok.mod.kin J (Z.ty _ _ I.kIn pz) h5 h3 h1 h2 h4 (wpAny_mono (own_run F sb.in1 I (show RelV (.ref a) (.ref a) from rfl) ry q) (fun z s' hz => ?_) fun _ _ z => z)
    obtain ⟨b, rfl, H', I', q'⟩ := hz
    exact ⟨b, rfl, b, rfl, H', I', q'⟩
theorem rc_refl {A : Around} {pins : List (Addr × Obj)} {s : Shared} {σ : L2.St} {c : Cg} {w : Wd} {s0 : S} {cl : Str} {gs : List (Str × D)} {v1 v2 : V} {u v : Value} {x : D} {Q : Bool → Hp → Prop} (T : TabE X.prog X.w X.K X.mg X.base k tys tb) (hown : ∀ cl, Ky.c cl ∈ tys → Lx.OwnC X.K cl) (hns : NSub X.K tb) (sb : L2.Sub X k A) (I : Inv X pins σ w.H s)
    (rx : RelV v1 u) (ry : RelV v2 v) (o : Ok X.K c w s0) (qx : Rep X.K c w.al w.F v1 x) (qy : Rep X.K c w.al w.F v2 (.obj cl gs)) (hk : (kdO x).isSome = true)
    (h : Den X.K c (ownQ tb tys cl (.obj cl gs) x) w s0 (fun b w' _ => Q b w'.H) (fun _ _ _ => False)) : wpAny (model X.prog X.w) A (richCompare .Eq u v) (fun z s' => ∃ b : Bool, z = .bool (if false then !b else b) ∧ ∃ H', Inv X pins σ H' s' ∧ Q b H') X.xe s := by
  obtain ⟨f, g, t, eg, h1, h2, h3, h4, h5, ty, F, q⟩ := ownQ_of T hown o qy qx h
  have hns := hns cl g eg
  cases qy with
  | @obj a dx _ fs _ hf hC hn rf =>
    cases ry
    have hH := o.fro _ _ hf
    obtain ⟨mA, J, _⟩ := ins_get I.hok hH
    obtain ⟨od, J, _⟩ := J.look
    obtain ⟨m, hF⟩ := I.fr
    obtain ⟨_, _, _, hx, _⟩ := (show ObjOk X.prog X.w w.H s.heap a (.ins (ga X.K cl) dx fs) from I.hok a _ hH)
    have run := own_run F sb I (show RelV (.ref a) (.ref a) from rfl) rx q
    have bk : wpAny (model X.prog X.w) A (call (.ref f) [.ref a, u]) (PySem.W.CmpBack fun z s' => ∃ b : Bool, z = .bool (if false then !b else b) ∧ ∃ H', Inv X pins σ H' s' ∧ Q b H') X.xe s := wpAny_mono run (fun z s' hz => by
      obtain ⟨b, rfl, H', I', q'⟩ := hz
      exact ⟨b, rfl, H', I', q'⟩) fun _ _ z => z
    have ins : ∀ T : String, PySem.W.subIn X.K (.ref (ga X.K cl)) (.type T) = some false → PySem.W.Looks (model X.prog X.w) s.heap (isInstance (.ref a) (.type T)) false := fun T e => J.type.andThen (PySem.W.looks_subIn I.kIn e)
    have hu := sb.room.units0
    cases qx with
    | non => cases rx; exact cmp_refl hu hF I.ok.mod.kin J (T := "NoneType") rfl (hns _ (by simp)) PySem.F.slot_NoneType_eq none_decl h1 h2 bk
    | bl b => cases rx; exact cmp_refl hu hF I.ok.mod.kin J (T := "bool") rfl (hns _ (by simp)) PySem.F.slot_bool_eq (bool_decl hx) h1 h2 bk
    | int b => obtain ⟨t, rfl⟩ := rx; exact cmp_refl hu hF I.ok.mod.kin J (T := "int") (typeIs_int s b t) (hns _ (by simp)) PySem.F.slot_int_eq (int_decl hx) h1 h2 bk
    | str b => obtain ⟨t, rfl⟩ := rx; exact cmp_refl hu hF I.ok.mod.kin J (T := "str") (typeIs_str s b t) (hns _ (by simp)) PySem.F.slot_str_eq (str_decl hx) h1 h2 bk
    | lst e r =>
      cases rx
      obtain ⟨its, _, p, _⟩ := I.list (SqL.of (o.fro _ _ e))
      obtain ⟨ob, e1, e2, e3⟩ := id p.isList
      exact cmp_refl hu hF I.ok.mod.kin J (T := "list") ⟨ob, e1, e2⟩ (hns _ (by simp)) PySem.F.slot_list_eq (list_decl p.isList (ins "list" (hns _ (by simp)))) h1 h2 bk
    | tup e r =>
      cases rx
      obtain ⟨its, _, p, _⟩ := I.tuple (SqT.of (o.fro _ _ e))
      obtain ⟨ob, e1, e2, e3⟩ := id (show s.heap.IsTuple _ _ from p)
      exact cmp_refl hu hF I.ok.mod.kin J (T := "tuple") ⟨ob, e1, e2⟩ (hns _ (by simp)) PySem.F.slot_tuple_eq (tuple_decl p (ins "tuple" (hns _ (by simp)))) h1 h2 bk
    | @dct p ks ds e r =>
      cases rx
      obtain ⟨_, _, vs, _, ob, es, ep, e1, e2, _⟩ := (show ObjOk X.prog X.w w.H s.heap p (.dK ks) from I.hok p _ (o.fro _ _ e))
      exact cmp_refl hu hF I.ok.mod.kin J (T := "dict") ⟨ob, e1, e2.1⟩ (hns _ (by simp)) PySem.F.slot_dict_eq (dict_decl e1 e2.1 (ins "dict" (hns _ (by simp)))) h1 h2 bk
    | _ => cases hk
def LpI (X : Cx) (pins : List (Addr × Obj)) (σ : L2.St) (c : Cg) (w : Wd) (f : D → D → W Bool) (xs ys : List D) (Q : Bool → Hp → Prop) (i : Nat) (s' : Shared) : Prop := ∃ w' s1, Inv X pins σ w'.H s' ∧ Go c w w' ∧ Ok X.K c w' s1 ∧
  (eqsBy f (xs.drop i) (ys.drop i)).wp s1 (fun t b => ∀ w2, Go c w w2 → Ok X.K c w2 t → Q b w2.H) (fun t _ => ∀ w2, Go c w w2 → Ok X.K c w2 t → False)
def LpZ (X : Cx) (pins : List (Addr × Obj)) (σ : L2.St) (c : Cg) (w : Wd) (Q : Bool → Hp → Prop) (s' : Shared) : Prop := ∃ w' s1, Inv X pins σ w'.H s' ∧ Go c w w' ∧ Ok X.K c w' s1 ∧ Q false w'.H
theorem turnB {f : D → D → W Bool} (ih : EqR X n (PrQ X.K fun x y => W.same x y (f x y))) {A : Around} (sb : L2.Sub X (n + 1) A) {pins : List (Addr × Obj)} {σ : L2.St} {c : Cg} {w : Wd} {xs ys : List D} {vs us : List V} {its its2 : List Value} {Q : Bool → Hp → Prop}
    (rx : RepL X.K c w.al w.F vs xs) (ry : RepL X.K c w.al w.F us ys) (r : Vals vs its) (r2 : Vals us its2) (i : Nat) (h1 : i < its.toArray.size) (h2 : i < its2.toArray.size) (s' : Shared) (l : LpI X pins σ c w f xs ys Q i s') :
    wpAny (model X.prog X.w) A.in1 (eqBool its.toArray[i] its2.toArray[i]) (fun b s2 => if b = true then LpI X pins σ c w f xs ys Q (i + 1) s2 else LpZ X pins σ c w Q s2) X.xe s' := by
  obtain ⟨w1, s1, I1, g1, o1, q⟩ := l
  have g1' : its[i]? = some its.toArray[i] := by
    have h1' : i < its.length := by simpa using h1
    rw [List.getElem?_eq_getElem h1'] <;> simp
  have g2' : its2[i]? = some its2.toArray[i] := by
    have h2' : i < its2.length := by simpa using h2
    rw [List.getElem?_eq_getElem h2'] <;> simp
  have k1 : i < vs.length := by rw [r.length]; simpa using h1
  have k2 : i < us.length := by rw [r2.length]; simpa using h2
  obtain ⟨u, hu, ru⟩ := r.get (List.getElem?_eq_getElem k1)
  obtain ⟨v, hv, rv⟩ := r2.get (List.getElem?_eq_getElem k2)
  rw [g1'] at hu
  rw [g2'] at hv
  have j1 : i < xs.length := by rw [← rx.len]; exact k1
  have j2 : i < ys.length := by rw [← ry.len]; exact k2
  obtain ⟨v1, e1, qx⟩ := rx.get (List.getElem?_eq_getElem j1)
  obtain ⟨v2, e2, qy⟩ := ry.get (List.getElem?_eq_getElem j2)
  rw [List.getElem?_eq_getElem k1] at e1
  rw [List.getElem?_eq_getElem k2] at e2
  rw [Option.some.inj hu, Option.some.inj hv]
  rw [Option.some.inj e1] at ru
  rw [Option.some.inj e2] at rv
  rw [List.drop_eq_getElem_cons j1, List.drop_eq_getElem_cons j2] at q
  have q2 : Den X.K c (W.same xs[i] ys[i] (f xs[i] ys[i])) w1 s1 (fun b w' _ => ∃ w2 t, w2.H = w'.H ∧ Go c w w2 ∧ Ok X.K c w2 t ∧ (match b with | true => eqsBy f (xs.drop (i + 1)) (ys.drop (i + 1)) | false => W.ret false).wp t (fun t b => ∀ w2, Go c w w2 → Ok X.K c w2 t → Q b w2.H) (fun t _ => ∀ w2, Go c w w2 → Ok X.K c w2 t → False)) (fun _ _ _ => False) :=
    (W.same xs[i] ys[i] (f xs[i] ys[i])).mono (fun t b z w' g' o' => ⟨w', t, rfl, g1.trans g' o', o', z⟩) (fun _ _ z w' g' o' => z w' (g1.trans g' o') o') q
  refine wpAny_mono (ih A.in1 pins s' σ w1.H v1 v2 u v (fun b H' => ∃ w2 t, w2.H = H' ∧ Go c w w2 ∧ Ok X.K c w2 t ∧ (match b with | true => eqsBy f (xs.drop (i + 1)) (ys.drop (i + 1)) | false => W.ret false).wp t (fun t b => ∀ w2, Go c w w2 → Ok X.K c w2 t → Q b w2.H) (fun t _ => ∀ w2, Go c w w2 → Ok X.K c w2 t → False)) sb.in1 I1 ru rv ⟨c, w1, s1, xs[i], ys[i], rfl, o1, qx.up g1.sub, qy.up g1.sub, q2⟩) (fun b s2 hz => ?_) fun _ _ x => x
  obtain ⟨H', I', w2, t, rfl, g2, o2, q3⟩ := hz
  cases b with
  | true => exact ⟨w2, t, I', g2, o2, q3⟩
  | false => exact ⟨w2, t, I', g2, o2, q3 w2 g2 o2⟩
theorem eqs_end {f : D → D → W Bool} : ∀ (xs ys : List D), (xs = [] ∨ ys = []) → eqsBy f xs ys = W.ret (xs.length == ys.length)
  | [], [], _ => rfl
  | [], _ :: _, _ => rfl
  | _ :: _, [], _ => rfl
  | _ :: _, _ :: _, h => by rcases h with h | h <;> cases h
theorem LpI.fin {f : D → D → W Bool} {pins : List (Addr × Obj)} {σ : L2.St} {c : Cg} {w : Wd} {xs ys : List D} {Q : Bool → Hp → Prop} {s' : Shared} (l : LpI X pins σ c w f xs ys Q (min xs.length ys.length) s') : ∃ H', Inv X pins σ H' s' ∧ Q (xs.length == ys.length) H' := by
  obtain ⟨w1, s1, I1, g1, o1, q⟩ := l
  rw [eqs_end _ _ (by
    by_cases h : xs.length ≤ ys.length
    · exact .inl (by rw [Nat.min_eq_left h, List.drop_length])
    · exact .inr (by rw [Nat.min_eq_right (by omega), List.drop_length]))] at q
  refine ⟨w1.H, I1, ?_⟩
  have q := q w1 g1 o1
  have e : ((xs.drop (min xs.length ys.length)).length == (ys.drop (min xs.length ys.length)).length) = (xs.length == ys.length) := by
    rw [List.length_drop, List.length_drop]
    by_cases h : xs.length = ys.length
    · simp [h]
    · have h1 : (xs.length == ys.length) = false := by simpa using h
      rw [h1]
      simp only [beq_eq_false_iff_ne, ne_eq]
      omega
  rw [e] at q
  exact q
theorem lists_B {f : D → D → W Bool} (ih : EqR X n (PrQ X.K fun x y => W.same x y (f x y))) {A : Around} (sb : L2.Sub X (n + 1) A) {pins : List (Addr × Obj)} {s : Shared} {σ : L2.St} {c : Cg} {w : Wd} {s0 : S} {xs ys : List D} {vs us : List V} {a b : Addr} {Q : Bool → Hp → Prop} (I : Inv X pins σ w.H s) (o : Ok X.K c w s0)
    (ha : w.F a = some (.lst vs)) (hb : w.F b = some (.lst us)) (rx : RepL X.K c w.al w.F vs xs) (ry : RepL X.K c w.al w.F us ys)
    (h : Den X.K c (if xs.length = ys.length then eqsBy f xs ys else W.ret false) w s0 (fun b w' _ => Q b w'.H) (fun _ _ _ => False)) (neg : Bool) :
    wpAny (model X.prog X.w) A (richCompare (if neg then .NotEq else .Eq) (.ref a) (.ref b)) (fun z s' => ∃ k : Bool, z = .bool (if neg then !k else k) ∧ ∃ H', Inv X pins σ H' s' ∧ Q k H') X.xe s := by
  have hu := sb.room.units0
  by_cases hl : xs.length = ys.length
  · rw [if_pos hl] at h
    have lp0 : LpI X pins σ c w f xs ys Q 0 s := ⟨w, s0, I, Go.refl .., o, h⟩
    have rd : ∀ i s', LpI X pins σ c w f xs ys Q i s' → ∃ (items items2 : Array Value) (n n2 : Nat), s'.heap.get? a = some { cls := .type "list", data := .seq items n } ∧ s'.heap.get? b = some { cls := .type "list", data := .seq items2 n2 } ∧ items.size = xs.length ∧ items2.size = xs.length ∧
        ∀ (h1 : i < items.size) (h2 : i < items2.size), wpAny (model X.prog X.w) A.in1 (eqBool items[i] items2[i]) (fun r s' => if r = true then LpI X pins σ c w f xs ys Q (i + 1) s' else ListZ a b i (LpZ X pins σ c w Q) s') X.xe s' := fun i s' l => by
      obtain ⟨w1, s1, I1, g1, o1, q⟩ := id l
      obtain ⟨_, its, k, r, e⟩ := (show ObjOk X.prog X.w w1.H s'.heap a (.lst vs) from I1.hok a _ (o1.fro _ _ (g1.sub.le _ _ ha)))
      obtain ⟨_, its2, k2, r2, e2⟩ := (show ObjOk X.prog X.w w1.H s'.heap b (.lst us) from I1.hok b _ (o1.fro _ _ (g1.sub.le _ _ hb)))
      refine ⟨its.toArray, its2.toArray, k, k2, e, e2, by rw [List.size_toArray, ← r.length, rx.len], by rw [List.size_toArray, ← r2.length, ry.len, hl], fun h1 h2 => wpAny_mono (turnB ih sb rx ry r r2 i h1 h2 s' l) (fun bb s2 z => ?_) fun _ _ x => x⟩
      cases bb with
      | true => exact z
      | false =>
        have z : LpZ X pins σ c w Q s2 := z
        obtain ⟨w3, s3, I3, g3, o3, q3⟩ := id z
        obtain ⟨_, jts, m, t, d⟩ := (show ObjOk X.prog X.w w3.H s2.heap a (.lst vs) from I3.hok a _ (o3.fro _ _ (g3.sub.le _ _ ha)))
        obtain ⟨_, jts2, m2, t2, d2⟩ := (show ObjOk X.prog X.w w3.H s2.heap b (.lst us) from I3.hok b _ (o3.fro _ _ (g3.sub.le _ _ hb)))
        have s1 : i < xs.length := by have := h1; rw [List.size_toArray, ← r.length, rx.len] at this; exact this
        exact ⟨jts.toArray, jts2.toArray, m, m2, d, d2, by rw [List.size_toArray, ← t.length, rx.len]; exact s1, by rw [List.size_toArray, ← t2.length, ry.len, ← hl]; exact s1, z⟩
    have fin : ∀ s', LpI X pins σ c w f xs ys Q xs.length s' → ∃ H', Inv X pins σ H' s' ∧ Q true H' := fun s' l => by
      have e : min xs.length ys.length = xs.length := by rw [hl, Nat.min_self]
      have l2 : LpI X pins σ c w f xs ys Q (min xs.length ys.length) s' := by rw [e]; exact l
      obtain ⟨H', I', q'⟩ := l2.fin
      rw [show (xs.length == ys.length) = true by rw [hl]; simp] at q'
      exact ⟨H', I', q'⟩
    have finZ : ∀ s', LpZ X pins σ c w Q s' → ∃ H', Inv X pins σ H' s' ∧ Q false H' := fun s' ⟨w3, s3, I3, _, _, q3⟩ => ⟨w3.H, I3, q3⟩
    cases neg with
    | false => exact rc_listB (N := xs.length) hu (LpI X pins σ c w f xs ys Q) (LpZ X pins σ c w Q) rd (fun s' l => ⟨true, rfl, fin s' l⟩) (fun s' l => ⟨false, rfl, finZ s' l⟩) lp0
    | true => exact rc_listBn (N := xs.length) hu (LpI X pins σ c w f xs ys Q) (LpZ X pins σ c w Q) rd (fun s' l => ⟨true, rfl, fin s' l⟩) (fun s' l => ⟨false, rfl, finZ s' l⟩) lp0
  · rw [if_neg hl] at h
    obtain ⟨_, its, k, r, e⟩ := (show ObjOk X.prog X.w w.H s.heap a (.lst vs) from I.hok a _ (o.fro _ _ ha))
    obtain ⟨_, its2, k2, r2, e2⟩ := (show ObjOk X.prog X.w w.H s.heap b (.lst us) from I.hok b _ (o.fro _ _ hb))
    have hs : (its.toArray.size != its2.toArray.size) = true := by
      rw [List.size_toArray, List.size_toArray, ← r.length, ← r2.length, rx.len, ry.len]
      simpa using hl
    have i1 : s.heap.IsList a its.toArray := ⟨_, e, rfl, k, rfl⟩
    have i2 : s.heap.IsList b its2.toArray := ⟨_, e2, rfl, k2, rfl⟩
    cases neg with
    | false => exact SeqAt.RcAt.lists_lengths i1 i2 hs hu X.prog X.w X.xe _ ⟨false, rfl, w.H, I, h.ret o⟩
    | true => exact SeqAt.RcNeAt.lists_lengths i1 i2 hs hu X.prog X.w X.xe _ ⟨false, rfl, w.H, I, h.ret o⟩
theorem tups_B {f : D → D → W Bool} (ih : EqR X n (PrQ X.K fun x y => W.same x y (f x y))) {A : Around} (sb : L2.Sub X (n + 1) A) {pins : List (Addr × Obj)} {s : Shared} {σ : L2.St} {c : Cg} {w : Wd} {s0 : S} {xs ys : List D} {vs us : List V} {a b : Addr} {Q : Bool → Hp → Prop} (I : Inv X pins σ w.H s) (o : Ok X.K c w s0)
    (ha : w.F a = some (.tup vs)) (hb : w.F b = some (.tup us)) (rx : RepL X.K c w.al w.F vs xs) (ry : RepL X.K c w.al w.F us ys)
    (h : Den X.K c (eqsBy f xs ys) w s0 (fun b w' _ => Q b w'.H) (fun _ _ _ => False)) (neg : Bool) :
    wpAny (model X.prog X.w) A (richCompare (if neg then .NotEq else .Eq) (.ref a) (.ref b)) (fun z s' => ∃ k : Bool, z = .bool (if neg then !k else k) ∧ ∃ H', Inv X pins σ H' s' ∧ Q k H') X.xe s := by
  have hu := sb.room.units0
  obtain ⟨its, r, p, _⟩ := I.tuple (SqT.of (o.fro _ _ ha))
  obtain ⟨its2, r2, p2, _⟩ := I.tuple (SqT.of (o.fro _ _ hb))
  have z1 : its.toArray.size = xs.length := by rw [List.size_toArray, ← r.length, rx.len]
  have z2 : its2.toArray.size = ys.length := by rw [List.size_toArray, ← r2.length, ry.len]
  have lp0 : LpI X pins σ c w f xs ys Q 0 s := ⟨w, s0, I, Go.refl .., o, h⟩
  have turn : ∀ i (h1 : i < its.toArray.size) (h2 : i < its2.toArray.size) s', LpI X pins σ c w f xs ys Q i s' → wpAny (model X.prog X.w) A.in1 (eqBool its.toArray[i] its2.toArray[i]) (fun b s2 => if b = true then LpI X pins σ c w f xs ys Q (i + 1) s2 else LpZ X pins σ c w Q s2) X.xe s' :=
    fun i h1 h2 s' l => turnB ih sb rx ry r r2 i h1 h2 s' l
  have finZ : ∀ s', LpZ X pins σ c w Q s' → ∃ H', Inv X pins σ H' s' ∧ Q false H' := fun s' ⟨w3, s3, I3, _, _, q3⟩ => ⟨w3.H, I3, q3⟩
  have fin : ∀ s', LpI X pins σ c w f xs ys Q (min its.toArray.size its2.toArray.size) s' → ∃ H', Inv X pins σ H' s' ∧ Q (its.toArray.size == its2.toArray.size) H' := fun s' l => by
    rw [z1, z2] at l ⊢
    exact l.fin
  cases neg with
  | false => exact rc_tupB hu (LpI X pins σ c w f xs ys Q) (LpZ X pins σ c w Q) p p2 turn (fun s' l => ⟨_, rfl, fin s' l⟩) (fun s' l => ⟨false, rfl, finZ s' l⟩) lp0
  | true => exact rc_tupBn hu (LpI X pins σ c w f xs ys Q) (LpZ X pins σ c w Q) p p2 turn (fun s' l => ⟨its.toArray.size == its2.toArray.size, rfl, fin s' l⟩) (fun s' l => ⟨false, rfl, finZ s' l⟩) lp0
theorem rest_B {A : Around} {pins : List (Addr × Obj)} {s : Shared} {σ : L2.St} {c : Cg} {w : Wd} {s0 : S} {v1 v2 : V} {u v : Value} {x y : D} {Q : Bool → Hp → Prop} (T : TabE X.prog X.w X.K X.mg X.base k tys tb) (hown : ∀ cl, Ky.c cl ∈ tys → Lx.OwnC X.K cl) (hns : NSub X.K tb) (sb : L2.Sub X k A) (I : Inv X pins σ w.H s)
    (rx : RelV v1 u) (ry : RelV v2 v) (o : Ok X.K c w s0) (qx : Rep X.K c w.al w.F v1 x) (qy : Rep X.K c w.al w.F v2 y)
    (h : Den X.K c (restQ tb tys x y) w s0 (fun b w' _ => Q b w'.H) (fun _ _ _ => False)) : wpAny (model X.prog X.w) A (richCompare .Eq u v) (fun z s' => ∃ b : Bool, z = .bool (if false then !b else b) ∧ ∃ H', Inv X pins σ H' s' ∧ Q b H') X.xe s := by
  have gen : (∀ cl gs, y ≠ .obj cl gs) → Den X.K c (match eqPl x y with | some b => W.ret b | none => W.stuck) w s0 (fun b w' _ => Q b w'.H) (fun _ _ _ => False) → wpAny (model X.prog X.w) A (richCompare .Eq u v) (fun z s' => ∃ b : Bool, z = .bool (if false then !b else b) ∧ ∃ H', Inv X pins σ H' s' ∧ Q b H') X.xe s := fun _ h => by
    cases e : eqPl x y with
    | none => rw [e] at h; exact h.elim
    | some b =>
      rw [e] at h
      exact (rest_at sb.room.units0 I o qx qy rx ry e).1 X.prog X.w X.xe _ ⟨b, rfl, w.H, I, h.ret o⟩
  cases y with
  | obj cl gs => exact rc_refl T hown hns sb I rx ry o qx qy h.1 h.2
  | _ => exact gen (fun _ _ z => by cases z) h
theorem restN_B {A : Around} {pins : List (Addr × Obj)} {s : Shared} {σ : L2.St} {c : Cg} {w : Wd} {s0 : S} {v1 v2 : V} {u v : Value} {x y : D} {Q : Bool → Hp → Prop} (hu : A.units < cLine) (I : Inv X pins σ w.H s)
    (rx : RelV v1 u) (ry : RelV v2 v) (o : Ok X.K c w s0) (qx : Rep X.K c w.al w.F v1 x) (qy : Rep X.K c w.al w.F v2 y)
    (h : Den X.K c (restN x y) w s0 (fun b w' _ => Q b w'.H) (fun _ _ _ => False)) : wpAny (model X.prog X.w) A (richCompare .NotEq u v) (fun z s' => ∃ b : Bool, z = .bool (if true then !b else b) ∧ ∃ H', Inv X pins σ H' s' ∧ Q b H') X.xe s := by
  unfold restN at h
  cases e : eqPl x y with
  | none => rw [e] at h; exact h.elim
  | some b =>
    rw [e] at h
    exact (rest_at hu I o qx qy rx ry e).2 X.prog X.w X.xe _ ⟨b, rfl, w.H, I, h.ret o⟩
theorem rcR_all (T : TabE X.prog X.w X.K X.mg X.base k tys tb) (hown : ∀ cl, Ky.c cl ∈ tys → Lx.OwnC X.K cl) (hns : NSub X.K tb) : ∀ n, RcR X (k + n) .Eq false (PrQ X.K (rcD tb tys n))
  | 0 => fun A pins s σ H x y u v Q sb I rx ry d => by
    obtain ⟨c, w, s0, dx, dy, rfl, o, qx, qy, q⟩ := d
    exact q.elim
  | n + 1 => fun A pins s σ H x y u v Q sb I rx ry d => by
    obtain ⟨c, w, s0, dx, dy, rfl, o, qx, qy, q⟩ := d
    have ih := eqR_of (rcR_all T hown hns n)
    have sk : L2.Sub X k A := sb.mono (by omega)
    have qx0 := qx
    have qy0 := qy
    cases qx with
    | obj hf hC hn rf => exact rc_own T hown sk I rx ry o qx0 qy0 q
    | lst a r =>
      cases qy with
      | lst b r2 => cases rx; cases ry; exact lists_B ih sb I o a b r r2 q false
      | _ => exact rest_B T hown hns sk I rx ry o qx0 qy0 q
    | tup a r =>
      cases qy with
      | tup b r2 => cases rx; cases ry; exact tups_B ih sb I o a b r r2 q false
      | _ => exact rest_B T hown hns sk I rx ry o qx0 qy0 q
    | _ => exact rest_B T hown hns sk I rx ry o qx0 qy0 q
theorem rnR_all (T : TabE X.prog X.w X.K X.mg X.base k tys tb) (hown : ∀ cl, Ky.c cl ∈ tys → Lx.OwnC X.K cl) (hns : NSub X.K tb) : ∀ n, RcR X (k + n) .NotEq true (PrQ X.K (rnD tb tys n))
  | 0 => fun A pins s σ H x y u v Q sb I rx ry d => by
    obtain ⟨c, w, s0, dx, dy, rfl, o, qx, qy, q⟩ := d
    exact q.elim
  | n + 1 => fun A pins s σ H x y u v Q sb I rx ry d => by
    obtain ⟨c, w, s0, dx, dy, rfl, o, qx, qy, q⟩ := d
    have ih := eqR_of (rcR_all T hown hns n)
    have sk : L2.Sub X (k + 1) A := sb.mono (by omega)
    have hu := sk.room.units0
    have qx0 := qx
    have qy0 := qy
    cases qx with
    | obj hf hC hn rf => exact rn_own T hown sk I rx ry o qx0 qy0 q
    | lst a r =>
      cases qy with
      | lst b r2 => cases rx; cases ry; exact lists_B ih sb I o a b r r2 q true
      | _ => exact restN_B hu I rx ry o qx0 qy0 q
    | tup a r =>
      cases qy with
      | tup b r2 => cases rx; cases ry; exact tups_B ih sb I o a b r r2 q true
      | _ => exact restN_B hu I rx ry o qx0 qy0 q
    | _ => exact restN_B hu I rx ry o qx0 qy0 q
end
end Ly
namespace Ly
open PySem PySem.Spec L2 PyProof.Rows He
open Lx (Le Ky vTy)
def rX (K : PySem.W.Frag) (f : D → D → W Bool) (neg : Bool) : R2 := fun x y H Q => PrQ K f x y H (fun b H' => Q (.bl (if neg then !b else b)) H')
@[reducible] def neX (tb : Tb) (tys : List Ky) (n : Nat) (x y : D) : W D := ((rnD tb tys n x y).calm).bind fun b => W.ret (.bl (!b))
theorem lo_X {K : PySem.W.Frag} {f : D → D → W Bool} {neg : Bool} : LO2 K (rX K f neg) (fun x y => ((f x y).calm).bind fun b => W.ret (.bl (if neg then !b else b))) := fun c w s v u x y Q E o rx ry h =>
  ⟨c, w, s, x, y, rfl, o, rx, ry, (Den.bind h).calm.mono fun b w1 s1 g1 o1 q => q.ret o1 _ (.bl _)⟩
theorem lo_neX {K : PySem.W.Frag} {tb : Tb} {tys : List Ky} {n : Nat} : LO2 K (rX K (rnD tb tys n) true) (neX tb tys n) := lo_X (neg := true)
section
variable {X : Cx} {k n : Nat} {tb : Tb} {tys : List Ky}
theorem op_neX (T : TabE X.prog X.w X.K X.mg X.base k tys tb) (hown : ∀ cl, Ky.c cl ∈ tys → Lx.OwnC X.K cl) (hns : NSub X.K tb) (hr : Room (k + n) X.A) : OpR X (compareOp .NotEq) (rX X.K (rnD tb tys n) true) := by
  intro pins s σ H x y u v Q I rx ry h
  refine wpAny_mono (rnR_all T hown hns n X.A pins s σ H x y u v _ ⟨hr, rfl⟩ I rx ry h) (fun z s' hz => ?_) fun _ _ z => z
  obtain ⟨b, rfl, H', I', q⟩ := hz
  exact ⟨.bl (!b), H', I', rfl, q⟩
end
end Ly
namespace Ly
open PySem PySem.Spec L2 PyProof.Rows He
open Lx (Le Ky vTy)
def valG (kvs : List (Key × D)) (k : Key) : Option D := (kvs.find? fun kv => decide (kv.1 = k)).map (·.2)
def putKD (kvs : List (Key × D)) (k : Key) (v : D) : List (Key × D) :=
  if (kvs.any fun kv => decide (kv.1 = k)) = true then kvs.map (fun kv => if kv.1 = k then (kv.1, v) else kv) else kvs ++ [(k, v)]
def keyD : D → Option Key
  | .int i => some (.inl i)
  | .str x => some (.inr x)
  | _ => none
section
variable {K : PySem.W.Frag} {c : Cg} {al : List Addr} {F : Hp}
theorem RepK.val {k : Key} {d : D} : ∀ {vs : List (Key × V)} {ds : List (Key × D)}, RepK K c al F vs ds → valG ds k = some d → ∃ v, valV vs k = some v ∧ Rep K c al F v d
  | _, _, .nil, e => by cases e
  | _, _, .cons (x := x) (vs := vs) (d := d0) (ds := ds) h r, e => by
    by_cases hx : x = k
    · have e2 : valG ((x, d0) :: ds) k = some d0 := by simp [valG, List.find?_cons, hx]
      rw [e2] at e
      cases e
      exact ⟨_, valV_pos hx, h⟩
    · have e2 : ∀ z, valG ((x, z) :: ds) k = valG ds k := fun z => by simp [valG, List.find?_cons, hx]
      rw [e2] at e
      obtain ⟨v, h1, h2⟩ := RepK.val r e
      have e3 : ∀ z, valV ((x, z) :: vs) k = valV vs k := fun z => by simp [valV, List.find?_cons, hx]
      exact ⟨v, by rw [e3]; exact h1, h2⟩
theorem RepK.any {k : Key} : ∀ {vs : List (Key × V)} {ds : List (Key × D)}, RepK K c al F vs ds → (vs.any fun kv => decide (kv.1 = k)) = (ds.any fun kv => decide (kv.1 = k))
  | _, _, .nil => rfl
  | _, _, .cons _ r => by simp only [List.any_cons]; rw [RepK.any r]
theorem RepK.app : ∀ {vs us : List (Key × V)} {ds es : List (Key × D)}, RepK K c al F vs ds → RepK K c al F us es → RepK K c al F (vs ++ us) (ds ++ es)
  | _, _, _, _, .nil, s => s
  | _, _, _, _, .cons h r, s => .cons h (r.app s)
theorem RepK.mapP {k : Key} {v : V} {d : D} (q : Rep K c al F v d) : ∀ {vs : List (Key × V)} {ds : List (Key × D)}, RepK K c al F vs ds → RepK K c al F (vs.map fun kv => if kv.1 = k then (kv.1, v) else kv) (ds.map fun kv => if kv.1 = k then (kv.1, d) else kv)
  | _, _, .nil => .nil
  | _, _, .cons (x := x) h r => by
    rw [List.map_cons, List.map_cons]
    by_cases hx : x = k
    · simp only [hx, if_true]
      exact .cons q (RepK.mapP q r)
    · simp only [hx, if_false]
      exact .cons h (RepK.mapP q r)
theorem RepK.put {k : Key} {v : V} {d : D} (q : Rep K c al F v d) {vs : List (Key × V)} {ds : List (Key × D)} (r : RepK K c al F vs ds) : RepK K c al F (putK vs k v) (putKD ds k d) := by
  unfold putK putKD
  rw [r.any]
  split
  · exact RepK.mapP q r
  · exact r.app (.cons q .nil)
theorem key_of {v : V} {d : D} {k : Key} (r : Rep K c al F v d) (e : keyD d = some k) : v = kV k := by
  cases r <;> first | (cases e; done) | (cases e; rfl)
end
end Ly
namespace Ly
open PySem PySem.Spec L2 PyProof.Rows He
open Lx (Le Ky vTy)
theorem look_fst {cl : Str} {g : List D → W D} : ∀ {tb : Tb}, tb.lookup cl = some g → cl ∈ tb.map (·.1)
  | [], h => by cases h
  | (d, f) :: r, h => by
    rw [List.lookup_cons] at h
    cases q : (cl == d) with
    | true => rw [eq_of_beq q]; exact List.mem_cons_self
    | false => rw [q] at h; exact List.mem_cons_of_mem _ (look_fst h)
end Ly
namespace Ly
open PySem PySem.Spec L2 PyProof.Rows
@[reducible] def mulLD : D → D → W D
  | .lst xs, .int k => W.need (0 ≤ k ∧ k < 4000 ∧ xs.length * k.toNat ≤ sizeLine) (W.ret (.lst (List.replicate k.toNat xs).flatten))
  | _, _ => W.stuck
theorem RepL.rep {K : PySem.W.Frag} {c : Cg} {al : List Addr} {F : Hp} {vs : List V} {ds : List D} (h : RepL K c al F vs ds) : ∀ n : Nat, RepL K c al F (List.replicate n vs).flatten (List.replicate n ds).flatten
  | 0 => .nil
  | n + 1 => by rw [List.replicate_succ, List.replicate_succ, List.flatten_cons, List.flatten_cons]; exact h.app (h.rep n)
theorem lo_rep {K : PySem.W.Frag} : LO2 K rRep mulLD := fun c w s v u x y Q E o rx ry h => by
  cases rx with
  | lst a r => cases ry with
    | int k =>
      obtain ⟨⟨h1, h2, h3⟩, h⟩ := h
      refine ⟨_, k, _, rfl, rfl, o.fro _ _ a, by omega, by omega, by rw [r.len]; exact h3, fun p hp => ?_⟩
      obtain ⟨o2, g2⟩ := o.lay (o := .lst (List.replicate k.toNat _).flatten) hp notOwn.1
      exact h _ g2 o2 (.ref p) (.lst upd_same ((r.up g2.sub).rep _))
    | _ => exact h.elim
  | _ => exact h.elim
end Ly
namespace Ly
open PySem PySem.Spec L2 PyProof.Rows He
open Lx (Le)
@[reducible] def intD : List D → W D
  | [.int i] => W.ret (.int i)
  | [.bl k] => W.ret (.int (if k then 1 else 0))
  | _ => W.stuck
@[reducible] def tupleD : List D → W D
  | [.lst xs] => W.ret (.tup xs)
  | [.tup xs] => W.ret (.tup xs)
  | _ => W.stuck
theorem lo_tuple {K : PySem.W.Frag} : LOn K (fun xs H Q => ∃ p ys, xs = [V.ref p] ∧ ((SqL K H p ys ∧ ∀ l, H l = none → Q (.ref l) (upd H l (.tup ys))) ∨ (SqT K H p ys ∧ Q (.ref p) H))) tupleD := fun c w s vs xs Q E o r h => by
  unfold tupleD at h
  split at h
  · obtain ⟨v, rfl, rv⟩ := r.one
    cases rv with
    | @lst a us _ q l =>
      refine ⟨a, us, rfl, .inl ⟨SqL.of (o.fro _ _ q), fun t ht => ?_⟩⟩
      obtain ⟨o2, g2⟩ := o.lay (p := t) (o := .tup us) ht (fun ps z => by cases z)
      exact h _ g2 o2 _ (.tup upd_same (l.up g2.sub))
  · obtain ⟨v, rfl, rv⟩ := r.one
    cases rv with
    | @tup a us _ q l => exact ⟨a, us, rfl, .inr ⟨SqT.of (o.fro _ _ q), h.ret o _ (.tup q l)⟩⟩
  · exact h.elim
end Ly
namespace Ly
open PySem PySem.Spec L2 PyProof.Rows He
open Lx (Le cutL rSlU)
section
variable {K : PySem.W.Frag}
@[reducible] def newLW (xs : List D) : W D := (W.new (.lst xs)).bind fun j => W.ret (.mu j)
theorem newL_of {c : Cg} {w : Wd} {s : S} {vs : List V} {xs : List D} {Q : VK} {E : Xn → Wd → S → Prop} (o : Ok K c w s) (r : RepL K c w.al w.F vs xs) (h : Den K c (newLW xs) w s (qV K c Q) E) (l : Addr) (hl : w.H l = none) : Q (.ref l) (upd w.H l (.lst vs)) := by
  obtain ⟨o2, g2⟩ := o.add (p := l) (o := .lst vs) (mo := .lst xs) hl notOwn.1 notOwn.2 ⟨o.free hl, vs, upd_same, r.up ⟨⟨[l], rfl⟩, Le.refl _⟩⟩
  refine h _ g2 o2 (.ref l) (.mu ?_)
  show (w.al ++ [l])[s.st.length]? = some l
  rw [← o.len]; simp
@[reducible] def dLstM (f : List Sl → W (List D)) : List Sl → W D := fun δ => (f δ).bind fun xs => W.need (xs.length ≤ sizeLine) (newLW xs)
theorem le_lstM {t : XK → TA} {f : List Sl → W (List D)} (ha : LA K t f) : LE K (fun E => tLst (t E)) (dLstM f) := fun c w s σ δ Q E o sl h =>
  ha c w s σ δ _ E o sl (h.bind.mono fun xs w1 s1 g1 o1 p vs r1 => ⟨by rw [r1.len]; exact p.1, fun l hl => newL_of o1 r1 p.2 l hl⟩)
end
end Ly
set_option maxHeartbeats 2000000
namespace Lt
open PySem PySem.Spec L2 PyProof.Rows
def Fr (n : Nat) (u : Value) (m : Nat) : Prop := ∀ x t, u = .str x t → 1 ≤ t ∧ n ≤ t ∧ t < m
theorem Fr.mono {n n' m m' : Nat} {u : Value} (h : Fr n u m) (h1 : n' ≤ n) (h2 : m ≤ m') : Fr n' u m' := fun x t e =>
  let ⟨a, b, c⟩ := h x t e; ⟨a, Nat.le_trans h1 b, Nat.lt_of_lt_of_le c h2⟩
structure FE (X : Cx) (e : Expr) (t : TE) : Prop where
  run : ∀ (pins : List (Addr × Obj)) (s : Shared) (σ : L2.St) (H : Hp) (Q : VK), 1 ≤ s.toks → Inv X pins σ H s → t σ H Q →
    wpAny (model X.prog X.w) X.A (eval e X.env) (fun u s' => Fr s.toks u s'.toks ∧ EP X pins σ Q u s') X.xe s
section
variable {X : Cx} {a b : Expr} {ta tb : TE} {pos : Pos}
theorem thnT {α : Type} {t : Sem α} {Q Q' : α → Shared → Prop} {M : Model} {A : Around} {E : Value → Shared → Prop} {s : Shared} (h : wpAny M A t Q E s) (hQ : ∀ a s1, s.toks ≤ s1.toks → Q a s1 → Q' a s1) : wpAny M A t Q' E s :=
  wpAny_mono (PySem.wpAny_toks h) (fun a s1 q => hQ a s1 q.1 q.2) fun _ _ z => z.2
theorem fe_ixs (ha : PE X a ta) (hb : PE X b tb) (hs : PlainIx b) : FE X (.Subscript a b pos) (tOp rIxS ta tb) := by
  refine ⟨fun pins s σ H Q h0 I h => ?_⟩
  refine Subscript_ (thnT (ha.run pins s σ H _ I h) fun v s1 k1 ⟨x, H1, I1, r1, q1⟩ => ?_)
  refine thnT (hb.run pins s1 σ H1 _ I1 q1) fun u s2 k2 ⟨y, H2, I2, r2, q2⟩ => ?_
  obtain ⟨z, i, c, rfl, rfl, hz, he, q⟩ := q2
  obtain ⟨t, rfl⟩ := r1
  obtain ⟨t', rfl⟩ := r2
  obtain ⟨j, h1, h2, h3, h4, h5⟩ := atI_get he
  have hl : z.cps.toList.length = z.length := by simp [Str.length]
  rw [hl] at h1 h4 h5
  have hn := line63
  exact tail_any (typeIs_str s2 z t) slot_str_getitem.lookup (getItem_str (c := c) (by
    have e1 : decide (i < -(2 ^ 63 : Int)) = false := decide_eq_false (by omega)
    have e2 : decide (i ≥ 2 ^ 63) = false := decide_eq_false (by omega)
    rw [e1, e2, Bool.or_false]) (by rw [h1]; simpa using h2) ⟨fun x w e => by
      have e2 : s2.toks = w := by injection e
      subst e2
      exact ⟨Nat.le_trans h0 (Nat.le_trans k1 k2), Nat.le_trans k1 k2, Nat.lt_succ_self _⟩, .str ⟨#[c]⟩, H2, I2.tok _, ⟨_, rfl⟩, q⟩) (hs _ _)
end
def PSsZ (X : Cx) (st : List Stmt) (t : TS) (R : Shared → Value → Shared → Prop) : Prop :=
  ∀ (pins : List (Addr × Obj)) (s : Shared) (σ : L2.St) (H : Hp) (D : Ends), 1 ≤ s.toks → Inv X pins σ H s → t D σ H → wpAny (model X.prog X.w) X.A (execs st X.env) (fun f s' => (∀ u, f = .ret u → R s u s') ∧ SP X pins D f s') X.xe s
theorem pssz_cons {X : Cx} {st : Stmt} {rest : List Stmt} {te : TE} {g : TG} {u : TS} {R : Shared → Value → Shared → Prop} (hR : ∀ s s1 v s2, s.toks ≤ s1.toks → R s1 v s2 → R s v s2) (h1 : PS X st (tAsg te g)) (h2 : PSsZ X rest u R) : PSsZ X (st :: rest) (tSeq (tAsg te g) u) R := by
  intro pins s σ H D h0 I h
  refine wpAny_execs_cons (thnT (h1.run pins s σ H { nx := u D, rt := fun _ _ => False } I h) fun f s1 hk q => ?_)
  cases f with
  | next =>
    obtain ⟨σ', H', I', q⟩ := q
    exact wpAny_mono (h2 pins s1 σ' H' D (Nat.le_trans h0 hk) I' q) (fun f s2 z => ⟨fun v e => hR _ _ _ _ hk (z.1 v e), z.2⟩) fun _ _ z => z
  | ret v => obtain ⟨_, _, _, _, _, z⟩ := q; exact z.elim
  | brk => obtain ⟨_, _, _, z⟩ := q; exact z.elim
  | cont => obtain ⟨_, _, _, z⟩ := q; exact z.elim
theorem pssz_ret {X : Cx} {e : Expr} {te : TE} {pos : Pos} (h : FE X e te) : PSsZ X [.Return (some e) pos] (tRet te) (fun s u s' => Fr s.toks u s'.toks) := by
  intro pins s σ H D h0 I q
  refine wpAny_execs_cons (wpAny_Return_some (wpAny_mono (h.run pins s σ H _ h0 I q) (fun u s1 ⟨z, x, H1, I1, r, p⟩ => ?_) fun _ _ z => z))
  exact ⟨fun v e => by cases e; exact z, x, σ, H1, I1, r, p⟩
structure FnF (P : Program) (w : World) (K : PySem.W.Frag) (mg : Str → Option Value) (base : Heap) (CX : CXT) (k : Nat) (f : Addr) (fd : FuncData) (ps : List Str) (sp : Sp) : Prop where
  len : ∀ vs H Q E, sp vs H Q E → vs.length = ps.length
  run : ∀ (A : Around) (outer : List Env) (s : Shared) (H : Hp) (args : Args) (us : List Value) (vs : List V) (Q : VK) (E : XK), 1 ≤ s.toks → Room k A → Env0 P w K mg base A outer s H → BindsTo s fd args (ps.zip us) → Vals vs us → sp vs H Q E →
    codeAny (model P w) A (.call (.ref f) args) (fun r s' => (∀ u, r = .ok (.ret u) → Fr s.toks u s'.toks) ∧ CR CX outer P w H s Q E r s') s
theorem fnF_of {CX : CXT} {P : Program} {w : World} {K : PySem.W.Frag} {mg : Str → Option Value} {base : Heap} {k : Nat} {f : Addr} {name qual : Str} {params : Arguments} {body : List Stmt} {scope : Scope} {dV kV doc pm cdv ct oc : Value} {an od : Option Addr}
    {osl : Array (Option Value)} {N ps : List Str} {sp : Sp} (lk : K.lookup f = some ⟨oc, od, .func (PySem.W.fnOf name qual params body scope dV kV doc pm an cdv ct), osl⟩) (hcd : PySem.W.codeIn K cdv qual = true) (S : FnScope N ps scope)
    (len : ∀ vs H Q E, sp vs H Q E → vs.length = ps.length)
    (hbody : ∀ (A : Around) (outer : List Env) (s : Shared) (H : Hp) (vs : List V) (Q : VK) (E : XK), Room k (A.deeper (envOfC qual scope s.heap.objs.size f cdv)) → sp vs H Q E →
      ∃ t, PSsZ (cxOf CX P w K mg base N qual scope f cdv A outer s H E) body t (fun s u s' => Fr s.toks u s'.toks) ∧ t { nx := fun _ H' => Q .non H', rt := Q } (start N vs) H) :
    FnF P w K mg base CX (k + 1) f (PySem.W.fnOf name qual params body scope dV kV doc pm an cdv ct) ps sp := by
  refine ⟨len, fun A outer s H args us vs Q E h0 hr e0 hb r hsp => ?_⟩
  have hl := len _ _ _ _ hsp
  have KX : K.In s.heap := e0.mod.kin.keeps fun b o e => (e0.bs b o e).1
  have lim : s.heap.NoLimit := e0.mod.nolimit.keeps fun b o e => (e0.bs b o e).1
  have hkind : ∀ y ∈ ps.zip us, scope.names.lookup y.1 = some .local ∨ (scope.names.lookup y.1 = some .cell ∧ ((cellsFrom (s.heap.objs.size + 1) scope.names []).lookup y.1).isSome = true) := fun ⟨n, v⟩ hy => by
    rcases S.par n (List.of_mem_zip hy).1 with q | q
    · exact .inl q
    · exact .inr ⟨q, PySem.W.cellsFrom_some _ _ _ (.inl q)⟩
  refine codeAny_call_function hr.depth (KX _ _ lk) rfl S.co S.gen rfl (PySem.W.codeRec_of KX hcd) (hb _ _ _ _ ?_)
  refine wpAny_with_toks (Nat.le_refl s.toks) (wpAny_newFunctionEnv_cells S.kind hkind fun env he s1 x hk => ?_)
  subst he
  refine ⟨lim.keeps x.toInCall.keep, codeAny_func ?_⟩
  obtain ⟨t, ht, hq⟩ := hbody A outer s H vs Q E (hr.deeper _) hsp
  have I : Inv (cxOf CX P w K mg base N qual scope f cdv A outer s H E) [] (start N vs) H s1 := inv_start S hr.hd e0 hl r x
  refine wpAny_mono (ht [] s1 (start N vs) H _ (Nat.le_trans h0 hk) I hq) (fun fl s' hs => ?_) fun e s' hs => wpAny_mono hs (fun _ _ z => ⟨fun u q => (by cases q), z⟩) fun _ _ z => ⟨fun u q => (by cases q), z⟩
  obtain ⟨hz, hs⟩ := hs
  have fin : ∀ {σ' : L2.St} {H' : Hp} {v : V} {u : Value}, Inv (cxOf CX P w K mg base N qual scope f cdv A outer s H E) [] σ' H' s' → RelV v u → Q v H' → CE outer P w H s Q u s' :=
    fun {σ' H' v u} J rv q => ⟨v, H', J.os, J.bare, J.base, J.hok, rv, q⟩
  cases fl with
  | ret u =>
    obtain ⟨v, σ', H', J, rv, q⟩ := hs
    exact ⟨fun w e => by cases e; exact (hz u rfl).mono hk (Nat.le_refl _), fin J rv q⟩
  | next =>
    obtain ⟨σ', H', J, q⟩ := hs
    exact ⟨fun w e => (by cases e; intro x t e2; cases e2), fin (v := V.non) (u := Value.none) J rfl q⟩
  | brk =>
    obtain ⟨_, _, _, q⟩ := hs
    exact False.elim q
  | cont =>
    obtain ⟨_, _, _, q⟩ := hs
    exact False.elim q
structure FkF (P : Program) (w : World) (K : PySem.W.Frag) (mg : Str → Option Value) (base : Heap) (k : Nat) (f : Addr) (sp : Sp) : Prop where
  ex : ∃ (fd : FuncData) (ps : List Str), FnF P w K mg base (L2.CX P w) k f fd ps sp ∧ Binds K fd ps [] ∧ PySem.W.keepIn K (.ref f) = true
section
variable {P : Program} {w : World} {K : PySem.W.Frag} {mg : Str → Option Value} {base : Heap} {x qual : Str} {params : Arguments} {body : List Stmt} {scope : Scope} {dvs : List V} {kws : List (Str × V)} {f : Addr} {fd : FuncData}
theorem fnF_ly {N ps : List Str} {k : Nat} {t : XK → TS} {b : List Ly.Sl → Ly.W Ly.Out} (F : FunD K x qual params body scope dvs kws f fd) (S : FnScope N ps scope) (hl : Ly.LS K t b)
    (hb : ∀ (cdv : Value) (A : Around) (outer : List Env) (s : Shared) (H : Hp) (E : XK), Room k (A.deeper (envOfC qual scope s.heap.objs.size f cdv)) → Ly.Tk (cxOf (L2.CX P w) P w K mg base N qual scope f cdv A outer s H E) E →
      PSsZ (cxOf (L2.CX P w) P w K mg base N qual scope f cdv A outer s H E) body (t E) (fun s u s' => Fr s.toks u s'.toks)) :
    FnF P w K mg base (L2.CX P w) (k + 1) f fd ps (Ly.Pr K ps.length (Ly.dBody N b)) := by
  obtain ⟨oc, od, dV, kV, doc, pm, an, cdv, ct, osl, rfl, lk, hcd, _, _⟩ := F.ex
  exact fnF_of lk hcd S Ly.Pr.len fun A outer s H vs Q E hr hsp => ⟨t E, hb cdv A outer s H E hr Ly.tk_of, Ly.body_ly hl hsp⟩
theorem fnT_ly {N ps : List Str} {k : Nat} {t : XK → TS} {b : List Ly.Sl → Ly.W Ly.Out} (F : FunD K x qual params body scope dvs kws f fd) (S : FnScope N ps scope) (hnc : ∀ y ∈ scope.names, y.2 ≠ .cell) (hps : 1 ≤ ps.length) (hl : Ly.LS K t b)
    (hb : ∀ (cdv : Value) (A : Around) (outer : List Env) (s : Shared) (H : Hp) (E : XK), Room k (A.deeper (envOfC qual scope s.heap.objs.size f cdv)) → Ly.Tk (cxOf (L2.CX P w) P w K mg base N qual scope f cdv A outer s H E) E →
      PSsT (cxOf (L2.CX P w) P w K mg base N qual scope f cdv A outer s H E) body (t E)) :
    FnOk P w K mg base (L2.CX P w) (k + 1) f fd ps (Ly.Pr K ps.length (Ly.dBody N b)) := by
  obtain ⟨oc, od, dV, kV, doc, pm, an, cdv, ct, osl, rfl, lk, hcd, _, _⟩ := F.ex
  exact fn_ofT lk hcd S hnc hps Ly.Pr.len fun A outer s H vs Q E hr hsp => ⟨t E, hb cdv A outer s H E hr Ly.tk_of, Ly.body_ly hl hsp⟩
end
section
variable {X : Cx} {E : XK} {k : Nat} {f : Addr} {sp : Sp} {x : Str} {p pos : Pos} {e : Expr} {es : List Expr} {t : TA}
theorem fe_fk (F : FkF X.prog X.w X.K X.mg X.base k f sp) (hr : Room k X.A) (hx : Passes (L2.CX X.prog X.w) X E) (hg : Gl X x) (hm : X.mg x = some (.ref f)) (ha : PA X (e :: es) t)
    (hdb : (x == ("__debug__" : Str)) = false := by decide) (he : starEach (e :: es) X.env = (false, eval e X.env) :: starEach es X.env := by rfl) (hpl : (backTo pos (starEach es X.env)).any (·.1) = false := by rfl) :
    FE X (.Call (.Name x p) (e :: es) [] pos) (tCall sp [] E t) := by
  obtain ⟨fd, ps, G, hb, hk⟩ := F.ex
  refine ⟨fun pins s σ H Q h0 I h => ?_⟩
  refine wpAny_Call_Name_kw (ld_glob I hg hm ?_ hdb)
  refine PySem.W.callWith_K (h₀ := X.base) I.ok.mod.kin hk (thnT (ha.run pos pins s σ H _ I h) fun us s1 k1 ⟨vs, H1, I1, r, q⟩ => ⟨I1.kIn, ?_⟩) he hpl
  have hl : (us ++ []).length = ps.length := by
    have z := G.len _ _ _ _ (show sp (vs ++ []) H1 Q E from q)
    rw [List.append_nil] at z ⊢
    rw [← r.length]; exact z
  have r2 : Vals (vs ++ []) (us ++ []) := r.append .nil
  refine wpAny_call (codeAny_mono (G.run X.A X.stack s1 H1 ⟨us, []⟩ (us ++ []) (vs ++ []) Q E (Nat.le_trans h0 k1) hr I1.env0 (hb s1 us I1.kIn hl) r2 q) fun r s' hq => ?_)
  obtain ⟨hz, hq⟩ := hq
  cases r with
  | error e => exact hx pins σ H1 s1 e s' I1 hq
  | ok fl =>
    cases fl with
    | ret u => exact ⟨(hz u rfl).mono k1 (Nat.le_refl _), I1.after hq⟩
    | next => exact False.elim hq
    | brk => exact False.elim hq
    | cont => exact False.elim hq
end
end Lt
namespace Lt
open PySem PySem.Spec L2 PyProof.Rows
def AllFr (n : Nat) (l : List Value) (m : Nat) : Prop := ∀ u ∈ l, Fr n u m
theorem AllFr.mono {n m m' : Nat} {l : List Value} (h : AllFr n l m) (h2 : m ≤ m') : AllFr n l m' := fun u hu => (h u hu).mono (Nat.le_refl _) h2
abbrev lsO (l : List Value) (k : Nat) : Obj := { cls := .type "list", data := .seq l.toArray k }
def tJl (wi : TI) (g : TG) (te : TE) (vs : List Nat) (Qa : List V → Hp → Prop) : L2.St → Hp → Prop := fun σ H => wi σ H fun J H1 => ∃ W : Nat → Nat → List V → Hp → Prop, (∃ m, W 0 m [] H1) ∧ ∀ i m acc H, W i m acc H →
  (J.stop i H ∧ Qa acc H) ∨ (J.go i H ∧ ∃ Nx : List V → Hp → Prop, (∀ a H', Nx a H' → ∃ m', m' < m ∧ W (i + 1) m' a H') ∧ ∀ x H', J.yld i H x H' → g x (wipe σ vs) H' fun σ2 H2 => wipe σ2 vs = wipe σ vs ∧
    te σ2 H2 fun y H4 => acc.length < sizeLine ∧ Nx (acc ++ [y]) H4)
section
variable {X : Cx}
theorem lcF_core {pins : List (Addr × Obj)} {s : Shared} {σ : L2.St} {H : Hp} {Qa : List V → Hp → Prop} {elt tg iter : Expr} {scope : Scope} {own : List (Str × Nat)} {pos pos' : Pos} {wi : TI} {g : TG} {te : TE} {Qf : Value → Shared → Prop}
    (hc : X.calm = true) (hN : X.N.Nodup) (h0 : 1 ≤ s.toks) (I : Inv X pins σ H s) (hi : PI X tg iter wi) (ok : BlkOk X.N X.env.scope scope own)
    (hg : ∀ (s : Shared) (H : Hp) (C : Addr) (cl : List (Str × Addr)) (fp : List Addr), PG (X.blk s H scope (compEnvC scope cl C X.env) fp) tg g)
    (he : ∀ (s : Shared) (H : Hp) (C : Addr) (cl : List (Str × Addr)) (fp : List Addr), FE (X.blk s H scope (compEnvC scope cl C X.env) fp) elt te) (hs : ∀ x, foldedSetIterable iter X.env x = pure x)
    (h : tJl wi g te (own.map (·.2)) Qa σ H)
    (hRR : ∀ D s' H' l acc k, Inv X pins σ H' s' → Qa acc H' → Vals acc l → s'.heap.get? D = some (lsO l k) → AllFr s.toks l s'.toks → s.toks ≤ s'.toks → Qf (.ref D) s') :
    wpAny (model X.prog X.w) X.A (comprehension (.ListComp elt [⟨tg, iter, [], 0⟩] scope pos) scope X.env pos' (newList []) false (eval iter X.env) none) Qf X.xe s := by
  have hfree : ∀ y ∈ scope.names, y.2 = .free → ∃ c, X.env.cells.lookup y.1 = some c := fun y hy e => by
    rcases ok.free y hy e with k | k
    · exact I.ok.has _ (.inl k)
    · exact I.ok.has _ (.inr k)
  refine wpAny_comprehension_free (use := none) rfl hs (closure_ok hfree) ok.kind (fun y hy e => by rw [ok.uniq y hy, e])
    (thnT (hi.run pins s σ H _ I h) fun xv s1 k1 hx => thnT hx fun itv s2 k2 h2 => ?_)
  obtain ⟨it, fp, tn, J, H2, e, I2, T, st2, f2, q⟩ := h2
  subst e
  refine wpAny_newObj_type (newEnv_comp ?_) (by show 0 ≤ sizeLine; decide)
  generalize hD : s2.heap.objs.size = D
  have hDn : H2 D = none := I2.hok.fresh (Nat.le_of_eq hD)
  obtain ⟨W, ⟨m0, w0⟩, turn⟩ := q
  -- the new list
  generalize hs3 : ({ s2 with heap := s2.heap.push { cls := .type "list", data := .seq ([] : List Value).toArray } } : Shared) = s3
  have t3 : s3.toks = s2.toks := by rw [← hs3]
  have I3 : Inv X pins σ H2 s3 := by
    rw [← hs3]
    exact I2.kept (t' := s2.toks) (fun b o e => Heap.get?_push_of_some _ e)
  have h3 : s3.heap = s2.heap.push { cls := .type "list", data := .seq ([] : List Value).toArray } := by rw [← hs3]
  have hD3 : s3.heap.get? D = some (lsO [] 0) := by rw [h3, ← hD]; exact Heap.get?_push_size _ rfl
  have sz : ∀ b ∈ fp, b < s2.heap.objs.size := fun b hb => by
    obtain ⟨o, e, _⟩ := T.obj _ _ st2 b hb
    exact Heap.lt_size e
  have nDf : ∀ b ∈ fp, b ≠ D := fun b hb => by rw [← hD]; exact Nat.ne_of_lt (sz b hb)
  have fD : FpOk X pins H2 D := I2.fpOk (Nat.le_of_eq hD) hDn
  have f3 : ∀ b ∈ D :: fp, FpOk X pins H2 b ∧ b < s3.heap.objs.size := fun b hb => by
    rcases List.mem_cons.mp hb with rfl | hb
    · exact ⟨fD, by rw [h3, Heap.size_push, hD]; exact Nat.lt_succ_self _⟩
    · have hlt := sz b hb
      exact ⟨f2 b hb, by rw [h3, Heap.size_push]; exact Nat.lt_succ_of_lt hlt⟩
  have st3 : tn 0 s3.heap := T.keep _ _ _ st2 fun b _ o e => by rw [h3]; exact Heap.get?_push_of_some _ e
  have I4 := block_start I3 ok hN f3
  have pg := hg s3 H2 s3.heap.objs.size (cellsFrom (s3.heap.objs.size + 1) scope.names (cloFrom X.env.cells scope.names [])) (D :: fp)
  have pe := he s3 H2 s3.heap.objs.size (cellsFrom (s3.heap.objs.size + 1) scope.names (cloFrom X.env.cells scope.names [])) (D :: fp)
  show codeAny _ _ (.compStart (.ListComp elt [⟨tg, iter, [], 0⟩] scope pos) 0 (.ref it) (.ref D) (compEnvC scope (cellsFrom (s3.heap.objs.size + 1) scope.names (cloFrom X.env.cells scope.names [])) s3.heap.objs.size X.env)) (compPost (model X.prog X.w) X.A X.xe none Qf (.ref D) s3.heap.objs.size) { s3 with heap := pushCells (s3.heap.push { cls := .type "dict", data := .dict #[] }) scope.names }
  have nfp : ∀ b ∈ D :: fp, H2 b = none := fun b hb => (f3 b hb).1.1
  generalize hce : compEnvC scope (cellsFrom (s3.heap.objs.size + 1) scope.names (cloFrom X.env.cells scope.names [])) s3.heap.objs.size X.env = ce at I4 pg pe ⊢
  have cL : ce.locals = s3.heap.objs.size := by subst hce; rfl
  generalize hs4 : ({ s3 with heap := pushCells (s3.heap.push { cls := .type "dict", data := .dict #[] }) scope.names } : Shared) = s4 at I4 ⊢
  have t4 : s4.toks = s2.toks := by rw [← hs4]; exact t3
  have keep4 : ∀ b o, s3.heap.get? b = some o → s4.heap.get? b = some o := fun b o e => by rw [← hs4]; exact pushCells_keeps _ _ _ _ (Heap.get?_push_of_some _ e)
  have st4 : tn 0 s4.heap := T.keep _ _ _ st3 fun b _ o e => keep4 b o e
  have k4 : s.toks ≤ s4.toks := by rw [t4]; exact Nat.le_trans k1 k2
  have stat : ∀ {pn : List (Addr × Obj)} {σ' : L2.St} {H' : Hp} {s' : Shared}, Inv (X.blk s3 H2 scope ce (D :: fp)) pn σ' H' s' → (∀ p ∈ pn, p.1 = D) → (∀ b ∈ D :: fp, H' b = none) → ∀ b ∈ fp, FpOk (X.blk s3 H2 scope ce (D :: fp)) pn H' b := fun {pn σ' H' s'} I' hp hn b hb =>
    have hb' := List.mem_cons_of_mem D hb
    ⟨hn b hb', (I'.ok.exf b hb').1, I'.ok.exfs b hb', .inl hb', fun x c e => (I'.ok.exf b hb').2 x c e, fun p hpp z => nDf b hb (z.symm.trans (hp p hpp))⟩
  have statD : ∀ {σ' : L2.St} {H' : Hp} {s' : Shared}, Inv (X.blk s3 H2 scope ce (D :: fp)) [] σ' H' s' → (∀ b ∈ D :: fp, H' b = none) → FpOk (X.blk s3 H2 scope ce (D :: fp)) [] H' D := fun {σ' H' s'} I' hn =>
    have hb' := List.mem_cons_self (a := D) (l := fp)
    ⟨hn D hb', (I'.ok.exf D hb').1, I'.ok.exfs D hb', .inl hb', fun x c e => (I'.ok.exf D hb').2 x c e, fun p hp => absurd (show p ∈ ([] : List (Addr × Obj)) ++ [] from hp) (by simp)⟩
  have pinD : ∀ {σ' : L2.St} {H' : Hp} {s' : Shared} {o : Obj}, Inv (X.blk s3 H2 scope ce (D :: fp)) [] σ' H' s' → (∀ b ∈ D :: fp, H' b = none) → s'.heap.get? D = some o → (∀ v, o.data ≠ .cell v) → Inv (X.blk s3 H2 scope ce (D :: fp)) [(D, o)] σ' H' s' := fun {σ' H' s' o} I' hn e hd =>
    I'.pins_of fun p hp => by
      obtain rfl := List.mem_singleton.mp hp
      obtain ⟨f0, f1, f2, _⟩ := statD I' hn
      exact ⟨e, f0, f1, f2, hd⟩
  have loop : codeAny (model X.prog X.w) X.A (.compLoop (.ListComp elt [⟨tg, iter, [], 0⟩] scope pos) 0 (.ref it) (.ref D) ce) (compPost (model X.prog X.w) X.A X.xe none Qf (.ref D) s3.heap.objs.size) s4 := by
    refine compLoop_any (fun n s' => ∃ i H' acc l k, Inv (X.blk s3 H2 scope ce (D :: fp)) [] (wipe σ (own.map (·.2))) H' s' ∧ tn i s'.heap ∧ (∀ b ∈ D :: fp, H' b = none) ∧ s'.heap.get? D = some (lsO l k) ∧ Vals acc l ∧ AllFr s.toks l s'.toks ∧ s.toks ≤ s'.toks ∧ W i n acc H') ?_ m0
      ⟨0, H2, [], [], 0, I4, st4, nfp, keep4 _ _ hD3, .nil, fun p hp => (by cases hp), k4, w0⟩
    rintro n s5 ⟨i, H5, acc, l, kk, I5, st5, n5, d5, v5, a5, k5, w5⟩
    have I5p := pinD I5 n5 d5 (fun v z => by cases z)
    rcases turn i n _ H5 w5 with ⟨stop, qq⟩ | ⟨go, Nx, hNx, step⟩
    · have td := T.done (X.blk s3 H2 scope ce (D :: fp)) rfl rfl rfl hc i [(D, lsO l kk)] s5 _ H5 (fun _ _ => False) I5p (stat I5p (fun p hp => by rw [List.mem_singleton.mp hp]) n5) st5 stop
      refine wpAny_mono (PySem.wpAny_toks td) (fun r s6 z => ?_) fun _ _ z => z.2.elim
      obtain ⟨k6, hr, I6⟩ := z
      subst hr
      -- back in the def's context
      have I7 : Inv X pins σ H5 s6 := I3.call' (ch := D :: fp) I6.os I6.base I6.hok I6.bare fun b hb => ⟨(f3 b hb).1.2.2.2.1, (f3 b hb).1.2.1, (f3 b hb).1.2.2.2.2.1, (f3 b hb).1.2.2.2.2.2⟩
      have nC : H5 s3.heap.objs.size = none := by
        have z : H5 ce.locals = none := I6.free
        rw [cL] at z
        exact z
      obtain ⟨m, hn, _⟩ := I6.loc
      have hn : s6.heap.Ns ce.locals m := hn
      rw [cL] at hn
      have d6 : s6.heap.get? D = some (lsO l kk) := (I6.pin (D, _) (List.mem_append_right _ (List.mem_singleton_self _))).1
      refine ⟨m, hn, fun h'' sb => ?_⟩
      obtain ⟨c0, c1, c2, c3, c4, c5⟩ := I3.fpOk (Nat.le_refl _) nC
      have nDC : D ≠ s3.heap.objs.size := Nat.ne_of_lt (Heap.lt_size hD3)
      exact hRR D _ H5 l acc kk (I7.turned (t' := s6.toks) (fun b o hb e => (sb.2 b hb).trans e) c0 c1 c3 c4 c5) qq v5 ((sb.2 D nDC).trans d6) (a5.mono k6) (Nat.le_trans k5 k6)
    · have ti := T.item (X.blk s3 H2 scope ce (D :: fp)) rfl rfl rfl hc i [(D, lsO l kk)] s5 _ H5 (fun _ _ => False) I5p (stat I5p (fun p hp => by rw [List.mem_singleton.mp hp]) n5) st5 go
      refine wpAny_mono (PySem.wpAny_toks ti) (fun r s6 z => ?_) fun _ _ z => z.2.elim
      obtain ⟨k6, u, hr, h6⟩ := z
      subst hr
      refine wpAny_mono (PySem.wpAny_toks h6) (fun _ s7 z => ?_) fun _ _ z => z.2.elim
      obtain ⟨k7, x, H7, I7, r7, y7, st7, n7⟩ := z
      have n7' : ∀ b ∈ D :: fp, H7 b = none := fun b hb => by
        rcases List.mem_cons.mp hb with e | hb
        · rw [e]; exact (I7.pin (D, _) (List.mem_append_right _ (List.mem_singleton_self _))).2.1
        · exact n7 b hb
      have I7' := I7.pinned (stat I7 (fun p hp => by rw [List.mem_singleton.mp hp]) n7') (T.obj _ _ st7)
      refine wpAny_mono (PySem.wpAny_toks (pg.run _ s7 _ H7 x u _ I7' r7 (step x H7 y7))) (fun _ s8 z => ?_) fun _ _ z => z.2.elim
      obtain ⟨k8, σ8, H8, I8, hw8, q8⟩ := z
      refine wpAny_tests_nil ?_
      have k58 : s.toks ≤ s8.toks := by omega
      simp only [if_true]
      refine wpAny_mono (PySem.wpAny_toks (pe.run _ s8 σ8 H8 _ (Nat.le_trans h0 k58) I8 q8)) (fun v s10 z => ?_) fun _ _ z => z.2.elim
      obtain ⟨k10, hfr, yv, H10, I10, r10, hz10, nx⟩ := z
      have d10 : s10.heap.get? D = some (lsO l kk) := (I10.pin (D, _) (List.mem_append_right _ (List.mem_append_left _ (List.mem_singleton_self _)))).1
      have hsz : l.toArray.size ≤ sizeLine := by
        rw [List.size_toArray, ← v5.length]; exact Nat.le_of_lt hz10
      refine append_at (hsz := hsz) d10 fun h' sb ho' => ?_
      obtain ⟨m', hm, w'⟩ := hNx _ H10 nx
      have nil10 : H10 D = none := (I10.pin (D, _) (List.mem_append_right _ (List.mem_append_left _ (List.mem_singleton_self _)))).2.1
      have pin' : ∀ b ∈ fp, ∀ o, s7.heap.get? b = some o → s10.heap.get? b = some o ∧ H10 b = none := fun b hb o e =>
        let z := I10.pin (b, o) (List.mem_append_right _ (List.mem_append_right _ (mem_pinsAt hb e)))
        ⟨z.1, z.2.1⟩
      have nn : ∀ b ∈ D :: fp, H10 b = none := fun b hb => by
        rcases List.mem_cons.mp hb with e | hb
        · rw [e]; exact nil10
        · obtain ⟨o, e, _⟩ := T.obj _ _ st7 b hb
          exact (pin' b hb o e).2
      have Iu : Inv (X.blk s3 H2 scope ce (D :: fp)) [] σ8 H10 s10 := I10.pins_of fun p hp => by cases hp
      obtain ⟨b0, b1, b2, b3, b4, b5⟩ := statD Iu nn
      have It := Iu.turned (t' := s10.toks) (h' := h') (it := D) (fun b o hb e => (sb.2 b hb).trans e) b0 b1 b3 b4 b5
      have hl : (wipe σ (own.map (·.2))).length = σ8.length := by rw [← hw8, wipe_length]
      refine ⟨m', hm, i + 1, H10, acc ++ [yv], l ++ [v], kk + 1, It.weak hl (fun j v e => ?_), T.keep _ _ _ st7 fun b hb o e => (sb.2 b (nDf b hb)).trans (pin' b hb o e).1, nn, ?_, v5.append (.cons r10 .nil), ?_, ?_, w'⟩
      · rw [← hw8] at e
        exact (wipe_some e).1
      · show h'.get? D = _
        rw [ho']
        simp [lsO]
      · intro p hp
        show Fr s.toks p s10.toks
        have k : s5.toks ≤ s10.toks := by omega
        rcases List.mem_append.mp hp with hp | hp
        · exact (a5 p hp).mono (Nat.le_refl _) k
        · obtain rfl := List.mem_singleton.mp hp
          exact hfr.mono k58 (Nat.le_refl _)
      · show s.toks ≤ s10.toks
        omega
  exact codeAny_compStart_list loop (T.self X.A 0 _ _ _ st4 loop)
theorem fr_join {prog : Program} {w : World} {A : Around} {E : Value → Shared → Prop} {s : Shared} {x : Str} {t : Tok} {Q : Value → Shared → Prop} {D : Addr} {us : List Value} {ys : List Str} {k n : Nat} (hl : s.heap.get? D = some (lsO us k)) (hv : Vals (ys.map V.str) us) (hok : (ys.map (·.length)).sum + ys.length * x.length ≤ 16777216)
    (h0 : 1 ≤ n) (hn : n ≤ s.toks) (ha : AllFr n us s.toks) (hq : ∀ t' k, Fr n (.str (Txt.join x ys) t') k → Q (.str (Txt.join x ys) t') { s with toks := k }) : wpAny (model prog w) A (call (.builtin "str.join") [.str x t, .ref D]) Q E s := by
  obtain ⟨l, e1, e2⟩ := PyProof.Rows.strsAre_values (strs_of_vals hv)
  subst e2
  subst e1
  have hok' := PyProof.Rows.joinOk_of hok
  unfold JoinOk at hok'
  rw [Bool.not_eq_true'] at hok'
  have new : Fr n (.str (Txt.join x (l.map (·.1))) s.toks) (s.toks + 1) := fun y u e => by
    have e2 : s.toks = u := by injection e
    subst e2
    exact ⟨Nat.le_trans h0 hn, hn, Nat.lt_succ_self _⟩
  refine call_meets F.slot_str_join (typeIs_str _ _ _) F.entry_str_join (F.args_str_join_2 _ _) (meets_str_join_list x t D l hok') ⟨⟨_, hl, rfl, k, rfl⟩, ?_⟩
  have a := joinFit_length hok'
  cases l with
  | nil => exact ⟨a, hq _ _ new⟩
  | cons p r =>
    cases r with
    | nil =>
      refine hq p.2 s.toks (fun y u e => ?_)
      have e2 : p.2 = u := by injection e
      subst e2
      exact ha (.str p.1 p.2) (List.mem_singleton_self _) p.1 p.2 rfl
    | cons q r => exact ⟨a, hq _ _ new⟩
def tJn (c : Str) (wi : TI) (g : TG) (te : TE) (vs : List Nat) : TE := fun σ H Q => tJl wi g te vs (fun acc H1 => ∃ ys : List Str, acc = ys.map V.str ∧ (ys.map (·.length)).sum + ys.length * c.length ≤ 16777216 ∧ Q (.str (Txt.join c ys)) H1) σ H
theorem fe_join {elt tg iter : Expr} {scope : Scope} {own : List (Str × Nat)} {c : Str} {j : Nat} {pos cp apos cpos : Pos} {wi : TI} {g : TG} {te : TE} (hc : X.calm = true) (hN : X.N.Nodup) (hi : PI X tg iter wi) (ok : BlkOk X.N X.env.scope scope own)
    (hg : ∀ (s : Shared) (H : Hp) (C : Addr) (cl : List (Str × Addr)) (fp : List Addr), PG (X.blk s H scope (compEnvC scope cl C X.env) fp) tg g)
    (he : ∀ (s : Shared) (H : Hp) (C : Addr) (cl : List (Str × Addr)) (fp : List Addr), FE (X.blk s H scope (compEnvC scope cl C X.env) fp) elt te) (hs : ∀ x, foldedSetIterable iter X.env x = pure x := by intro _; rfl)
    (hbase : attributeBase (.Constant (.str c) j cp) "join" X.env (eval (.Constant (.str c) j cp) X.env) = eval (.Constant (.str c) j cp) X.env := by rfl)
    (hfew : ((backTo cpos (starEach [.ListComp elt [⟨tg, iter, [], 0⟩] scope pos] X.env)).all (fun x => !x.1) && (backToKw cpos (keywordEach [] X.env)).all (fun x => x.1.isSome)
      && decide (([.ListComp elt [⟨tg, iter, [], 0⟩] scope pos] : List Expr).length + ([] : List Keyword).length + (if ([] : List Keyword).isEmpty then 0 else 1) < 30)) = true := by rfl)
    (hline : (apos.endLine == cpos.line) = true := by rfl) :
    FE X (.Call (.Attribute (.Constant (.str c) j cp) "join" apos) [.ListComp elt [⟨tg, iter, [], 0⟩] scope pos] [] cpos) (tJn c wi g te (own.map (·.2))) := by
  refine ⟨fun pins s σ H Q h0 I h => ?_⟩
  refine wpAny_Call_method_late hbase hfew hline rfl (Calls.Constant_str ?_)
  have I1 : Inv X pins σ H { s with toks := s.toks + 1 } := I.tok _
  refine ⟨"str", "str.join", F.plainAttrs_str, F.slot_str_join, F.type_str_join, typeIs_str _ _ _, (fun _ e => nomatch e), Calls.callWith_builtin rfl (Calls.evalArgs_plain (Calls.spliced_cons ?_))⟩
  rw [eval_ListComp]
  refine lcF_core (s := { s with toks := s.toks + 1 }) hc hN (by show 1 ≤ s.toks + 1; omega) I1 hi ok hg he hs h fun D s' H' l acc k I' qa hv hd ha hk => Calls.spliced_nil ?_
  obtain ⟨ys, e, hz, qa⟩ := qa
  subst e
  have hk : s.toks + 1 ≤ s'.toks := hk
  exact fr_join (n := s.toks + 1) hd hv hz (by omega) hk ha fun t' k' hf => ⟨hf.mono (by omega) (Nat.le_refl _), .str _, H', I'.tok k', ⟨t', rfl⟩, qa⟩
end
end Lt
namespace Lt
open PySem L2 Ly
section
variable {K : PySem.W.Frag}
theorem le_join {cc : Str} {wi : XK → TI} {fi : List Sl → W (List D)} {us vs : List Nat} {tg : TG} {dg : D → List Sl → W (List Sl)} {te : XK → TE} {fe : List Sl → W D}
    (hi : LI K wi fi) (hg : LG K us tg dg) (he : LE K te fe) (hu : ∀ j, j ∈ us → j ∈ vs) : LE K (fun E => tJn cc (wi E) tg (te E0) vs) (dMs joinD (dC (.str cc)) (dCons (dLc fi dg dYes fe vs) dNil)) := fun c w s σ δ Q E o sl q => by
  have q : Den K c ((fi δ).bind fun ds => ((lcD dg dYes fe (wipeD δ vs) ds 0).calm).bind fun l => joinD cc [.lst l]) w s (qV K c Q) (xE K c E) := q
  refine hi c w s σ δ _ E o sl (q.bind.mono fun ds w1 s1 g1 o1 p J y => ?_)
  let PQ : S → List D → Prop := fun t l => (joinD cc [.lst l]).wp t (fun t a => ∀ w', Go c w1 w' → Ok K c w' t → qV K c Q a w' t) (fun t x => ∀ w', Go c w1 w' → Ok K c w' t → xE K c E x w' t)
  have p0 : (lcD dg dYes fe (wipeD δ vs) ds 0).wp s1 PQ fun _ _ => False := p
  refine ⟨fun i m acc H2 => m = ds.length - i ∧ i ≤ ds.length ∧ ∃ w2 s2 ad, w2.H = H2 ∧ Go c w1 w2 ∧ Ok K c w2 s2 ∧ RepL K c w2.al w2.F acc ad ∧
      (lcD dg dYes fe (wipeD δ vs) (ds.drop i) ad.length).wp s2 (fun t ys => PQ t (ad ++ ys)) fun _ _ => False,
    ⟨ds.length, by simp, Nat.zero_le _, w1, s1, [], rfl, Go.refl .., o1, .nil, p0⟩, ?_⟩
  rintro i m2 acc H2 ⟨rfl, hi2, w2, s2, ad, rfl, k2, o2, rw2, p2⟩
  by_cases hlt : i < ds.length
  · refine .inr ?_
    have ed : ds[i]? = some ds[i] := List.getElem?_eq_getElem hlt
    obtain ⟨go, yl⟩ := (y i w2 s2 k2.sub o2).1 _ ed
    refine ⟨go, fun acc H2 => i + 1 ≤ ds.length ∧ ∃ w2 s2 ad, w2.H = H2 ∧ Go c w1 w2 ∧ Ok K c w2 s2 ∧ RepL K c w2.al w2.F acc ad ∧
      (lcD dg dYes fe (wipeD δ vs) (ds.drop (i + 1)) ad.length).wp s2 (fun t ys => PQ t (ad ++ ys)) fun _ _ => False, ?_, ?_⟩
    · rintro a H' ⟨h1, h2⟩
      exact ⟨ds.length - (i + 1), by omega, rfl, h1, h2⟩
    · intro x H3 yx
      obtain ⟨w3, rfl, k3, o3, r3⟩ := yl x H3 yx
      rw [List.drop_eq_getElem_cons hlt] at p2
      have k03 := k2.trans k3 o3
      refine hg c w3 s2 (L2.wipe σ vs) (wipeD δ vs) x _ _ (fun _ _ _ => False) o3 ((sl.go (g1.trans k03 o3)).wipe vs) r3 ((Den.rawC (K := K) (c := c) (w := w3) p2).mono fun ε w4 s4 k4 o4 p4 σ4 sl4 e4 l4 => ?_)
      refine ⟨Lx.wipe_eq (fun j hj => e4 j fun z => hj (hu j z)) l4, ?_⟩
      have p4 : ((fe ε).bind fun y => W.need (ad.length < sizeLine) ((lcD dg dYes fe (wipeD δ vs) (ds.drop (i + 1)) (ad.length + 1)).bind fun ys => W.ret (y :: ys))).wp s4 (fun t ys => PQ t (ad ++ ys)) (fun _ _ => False) := p4
      refine he c w4 s4 σ4 ε _ E0 o4 sl4 ((Den.rawC (K := K) (c := c) (w := w4) p4).mono fun z w6 s6 k6 o6 p6 v r6 => ?_)
      refine ⟨by rw [rw2.len]; exact p6.1, hlt, w6, s6, ad ++ [z], rfl, (k03.trans k4 o4).trans k6 o6, o6, (((rw2.up k3.sub).up k4.sub).up k6.sub).app (.cons r6 .nil), ?_⟩
      rw [List.length_append, List.length_singleton]
      refine (lcD dg dYes fe (wipeD δ vs) (ds.drop (i + 1)) (ad.length + 1)).mono (fun t ys p7 => ?_) (fun _ _ z => z) p6.2
      rw [List.append_assoc]
      exact p7
  · have e : i = ds.length := by omega
    subst e
    rw [List.drop_length] at p2
    refine .inl ⟨(y ds.length w2 s2 k2.sub o2).2 (Nat.le_refl _), ?_⟩
    have p2' : PQ s2 (ad ++ []) := p2
    rw [List.append_nil] at p2'
    have p3 : (joinD cc [.lst ad]).wp s2 (fun t a => ∀ w', Go c w1 w' → Ok K c w' t → qV K c Q a w' t) (fun t x => ∀ w', Go c w1 w' → Ok K c w' t → xE K c E x w' t) := p2'
    unfold joinD at p3
    cases ht : txts ad with
    | none => simp only [ht] at p3
    | some ys =>
      simp only [ht] at p3
      exact ⟨ys, txts_rep rw2 ht, p3.1, p3.2 w2 k2 o2 _ (.str _)⟩
end
end Lt
namespace Lt
open PySem PySem.Spec L2 PyProof.Rows
def kGt (t1 t2 : TE) (σ : L2.St) (Q : VK) : V → Hp → Prop := fun x H1 => t1 σ H1 fun y H2 => t2 σ H2 fun z H3 => ∃ a b, y = .str a ∧ z = .str b ∧ ∀ (p : Addr) (o : Obj) (us : List Value) (n : Nat) (t u : Tok),
  H3 p = none → o.data = .seq (us ++ [Value.str a t, Value.str b u]).toArray n → us.length = 1 → 1 ≤ t → 1 ≤ u → t ≠ u → Q (.ref p) (upd H3 p (.frz o (.tup ([x] ++ [.str a, .str b]))))
def tGt (t0 t1 t2 : TE) : TE := fun σ H Q => t0 σ H (kGt t1 t2 σ Q)
section
variable {X : Cx} {e0 e1 e2 : Expr} {t0 t1 t2 : TE} {pos x1 : Pos}
theorem gt_core {pins : List (Addr × Obj)} {s : Shared} {σ : L2.St} {Q : VK} {xpos : Pos} {ctx} (h1 : FE X e1 t1) (h2 : FE X e2 t2)
    (hs0 : starEach [e0, e1, e2] X.env = (false, eval e0 X.env) :: starEach [e1, e2] X.env) (hs1 : starEach [e1, e2] X.env = (false, eval e1 X.env) :: starEach [e2] X.env) (hs2 : starEach [e2] X.env = (false, eval e2 X.env) :: starEach [] X.env)
    (q : wpAny (model X.prog X.w) X.A (eval e0 X.env) (fun v s1 => 1 ≤ s1.toks ∧ EP X pins σ (kGt t1 t2 σ Q) v s1) X.xe s) :
    wpAny (model X.prog X.w) X.A (eval (.Tuple [e0, e1, e2] ctx xpos) X.env) (EP X pins σ Q) X.xe s := by
  refine wpAny_Tuple_spliced ?_
  rw [hs0]
  show wpAny _ _ (spliced ((false, eval e0 X.env) :: backTo xpos (starEach [e1, e2] X.env))) _ _ s
  refine Calls.spliced_cons (wpAny_mono q (fun v s1 z => ?_) fun _ _ z => z)
  obtain ⟨k1, x, H1, I1, r1, q1⟩ := z
  rw [hs1]
  show wpAny _ _ (spliced ((false, eval e1 X.env) :: backTo xpos (starEach [e2] X.env))) _ _ s1
  refine Calls.spliced_cons (thnT (h1.run pins s1 σ H1 _ k1 I1 q1) fun v2 s2 k2 ⟨f2, y, H2, I2, r2, q2⟩ => ?_)
  rw [hs2]
  show wpAny _ _ (spliced ((false, eval e2 X.env) :: backTo xpos (starEach [] X.env))) _ _ s2
  refine Calls.spliced_cons (thnT (h2.run pins s2 σ H2 _ (Nat.le_trans k1 k2) I2 q2) fun v3 s3 k3 ⟨f3, z, H3, I3, r3, q3⟩ => ?_)
  refine Calls.spliced_nil ?_
  obtain ⟨a, b, rfl, rfl, q3⟩ := q3
  obtain ⟨t, rfl⟩ := r2
  obtain ⟨u, rfl⟩ := r3
  obtain ⟨g1, g2, g3⟩ := f2 a t rfl
  obtain ⟨g4, g5, g6⟩ := f3 b u rfl
  have h3 : ([v, .str a t, .str b u] : List Value).length ≤ sizeLine := by rw [sizeLine_eq]; show 3 ≤ 16777216; decide
  have hf : H3 s3.heap.objs.size = none := I3.hok.fresh (Nat.le_refl _)
  refine ⟨h3, .ref s3.heap.objs.size, upd H3 s3.heap.objs.size (.frz { cls := .type "tuple", data := .seq #[v, .str a t, .str b u] 0 } (.tup ([x] ++ [.str a, .str b]))), ?_, rfl, ?_⟩
  · exact I3.laid (t' := s3.toks) (fun b o e => Heap.get?_push_of_some _ e) (Nat.le_refl _) ⟨Heap.get?_push_size _ rfl, h3, [v, .str a t, .str b u], .cons r1 (.cons ⟨t, rfl⟩ (.cons ⟨u, rfl⟩ .nil)), ⟨_, Heap.get?_push_size _ rfl, rfl, _, rfl⟩⟩
  · refine q3 _ _ [v] 0 t u hf rfl rfl g1 g4 ?_
    intro e
    subst e
    exact absurd (Nat.lt_of_lt_of_le g3 g5) (Nat.lt_irrefl _)
theorem pet_gt {ctx} (h0 : PE X e0 t0) (h1 : FE X e1 t1) (h2 : FE X e2 t2)
    (hs0 : starEach [e0, e1, e2] X.env = (false, eval e0 X.env) :: starEach [e1, e2] X.env := by rfl) (hs1 : starEach [e1, e2] X.env = (false, eval e1 X.env) :: starEach [e2] X.env := by rfl) (hs2 : starEach [e2] X.env = (false, eval e2 X.env) :: starEach [] X.env := by rfl) :
    PET X (.Tuple [e0, e1, e2] ctx pos) (tGt t0 t1 t2) := fun pins s σ H Q k0 I q =>
  gt_core h1 h2 hs0 hs1 hs2 (thnT (h0.run pins s σ H _ I q) fun v s1 k1 z => ⟨Nat.le_trans k0 k1, z⟩)
theorem pst_ret {e : Expr} {te : TE} (h : PET X e te) : PST X (.Return (some e) pos) (tRet te) := fun pins s σ H D h0 I q =>
  wpAny_Return_some (thn (h pins s σ H _ h0 I q) fun v s1 ⟨x, H1, I1, r1, q1⟩ => ⟨x, σ, H1, I1, r1, q1⟩)
theorem psst_one {st : Stmt} {t : TS} (h1 : PST X st t) : PSsT X [st] t := by
  intro pins s σ H D h0 I h
  refine wpAny_execs_cons (thn (h1 pins s σ H D h0 I h) fun f s1 q => ?_)
  cases f with
  | next => exact wpAny_execs_nil q
  | ret v => exact q
  | brk => exact q
  | cont => exact q
end
open Ly
@[reducible] def dGt (f0 f1 f2 : List Sl → W D) : List Sl → W D := fun δ => (f0 δ).bind fun x => (f1 δ).bind fun y => (f2 δ).bind fun z => match y, z with
  | .str a, .str b => W.ret (.gt [x] a b)
  | _, _ => W.stuck
theorem le_gt {K : PySem.W.Frag} {t0 t1 t2 : XK → TE} {f0 f1 f2 : List Sl → W D} (h0 : LE K t0 f0) (h1 : LE K t1 f1) (h2 : LE K t2 f2) : LE K (fun E => tGt (t0 E) (t1 E) (t2 E)) (dGt f0 f1 f2) := fun c w s σ δ Q E o sl q =>
  h0 c w s σ δ _ E o sl (q.bind.mono fun x w1 s1 g1 o1 q1 v r1 => h1 c w1 s1 σ δ _ E o1 (sl.go g1) (q1.bind.mono fun y w2 s2 g2 o2 q2 v2 r2 => h2 c w2 s2 σ δ _ E o2 ((sl.go g1).go g2) (q2.bind.mono fun z w3 s3 g3 o3 q3 v3 r3 => by
    cases r2 with
    | str a => cases r3 with
      | str b =>
        refine ⟨a, b, rfl, rfl, fun p ob us n t u hp hd hl k1 k2 k3 => ?_⟩
        obtain ⟨o4, g4⟩ := o3.lay (o := .frz ob (.tup ([v] ++ [.str a, .str b]))) hp (fun _ z => by cases z)
        exact q3 _ g4 o4 (.ref p) (.gt ⟨us, n, ob, upd_same, hd, hl, k1, k2, k3⟩ (.cons (((r1.up g2.sub).up g3.sub).up g4.sub) .nil))
      | _ => exact q3.elim
    | _ => first | exact q3.elim | (cases r3 <;> exact q3.elim))))
end Lt
namespace Lt
open PySem PySem.Spec L2 PyProof.Rows
structure FnX (P : Program) (w : World) (K : PySem.W.Frag) (mg : Str → Option Value) (base : Heap) (CX : CXT) (k : Nat) (f : Addr) (fd : FuncData) (ps : List Str) (G : List Value → Prop) (sp : Sp) : Prop where
  len : ∀ vs H Q E, sp vs H Q E → vs.length = ps.length
  run : ∀ (A : Around) (outer : List Env) (s : Shared) (H : Hp) (args : Args) (us : List Value) (vs : List V) (Q : VK) (E : XK), G us → Room k A → Env0 P w K mg base A outer s H → BindsTo s fd args (ps.zip us) → Vals vs us → sp vs H Q E →
    codeAny (model P w) A (.call (.ref f) args) (CR CX outer P w H s Q E) s
section
variable {P : Program} {w : World} {K : PySem.W.Frag} {mg : Str → Option Value} {base : Heap} {CX : CXT} {j k : Nat} {f : Addr} {fd : FuncData} {ps : List Str} {G : List Value → Prop} {sp : Sp}
theorem FnX.of (F : FnOk P w K mg base CX k f fd ps sp) : FnX P w K mg base CX k f fd ps G sp := ⟨F.len, fun A outer s H args us vs Q E _ => F.run A outer s H args us vs Q E⟩
theorem FnX.up (F : FnX P w K mg base CX j f fd ps G sp) (h : j ≤ k) : FnX P w K mg base CX k f fd ps G sp := ⟨F.len, fun A outer s H args us vs Q E g hr => F.run A outer s H args us vs Q E g (hr.mono h)⟩
end
def PEN (X : Cx) (e : Expr) (t : TE) : Prop := ∀ (pins : List (Addr × Obj)) (s : Shared) (σ : L2.St) (H : Hp) (Q : VK) (m : Str → Option Value), Inv X pins σ H s → s.heap.Ns X.env.locals m → t σ H Q →
  wpAny (model X.prog X.w) X.A (eval e X.env) (fun u s' => s'.heap.Ns X.env.locals m ∧ EP X pins σ Q u s') X.xe s
def PAN (X : Cx) (es : List Expr) (t : TA) : Prop := ∀ (pos : Pos) (pins : List (Addr × Obj)) (s : Shared) (σ : L2.St) (H : Hp) (Q : List V → Hp → Prop) (m : Str → Option Value), Inv X pins σ H s → s.heap.Ns X.env.locals m → t σ H Q →
  wpAny (model X.prog X.w) X.A (spliced (backTo pos (starEach es X.env))) (fun us s' => s'.heap.Ns X.env.locals m ∧ AP X pins σ Q us s') X.xe s
def PTN (X : Cx) (e : Expr) (t : TT) : Prop := ∀ (pins : List (Addr × Obj)) (s : Shared) (σ : L2.St) (H : Hp) (Q : Bool → Hp → Prop) (m : Str → Option Value), Inv X pins σ H s → s.heap.Ns X.env.locals m → t σ H Q →
  wpAny (model X.prog X.w) X.A (isTrue e X.env (eval e X.env)) (fun b s' => s'.heap.Ns X.env.locals m ∧ TP X pins σ Q b s') X.xe s
def PWN (X : Cx) (e : Expr) (t : TT) : Prop := ∀ (wh : Sem Value) (pins : List (Addr × Obj)) (s : Shared) (σ : L2.St) (H : Hp) (Q : Bool → Hp → Prop) (m : Str → Option Value), Inv X pins σ H s → s.heap.Ns X.env.locals m → t σ H Q →
  wpAny (model X.prog X.w) X.A (isTrue e X.env wh) (fun b s' => s'.heap.Ns X.env.locals m ∧ TP X pins σ Q b s') X.xe s
def PSsN (X : Cx) (st : List Stmt) (t : TS) : Prop := ∀ (pins : List (Addr × Obj)) (s : Shared) (σ : L2.St) (H : Hp) (D : Ends) (m : Str → Option Value), Inv X pins σ H s → s.heap.Ns X.env.locals m → t D σ H →
  wpAny (model X.prog X.w) X.A (execs st X.env) (fun f s' => (f = .next → s'.heap.Ns X.env.locals m) ∧ SP X pins D f s') X.xe s
section
variable {X : Cx} {a b c e : Expr} {es rest : List Expr} {te ta tb : TE} {t : TA} {tA tB : TT} {pos p : Pos} {x : Str} {E : XK}
theorem pen_var {i : Nat} (hN : X.N[i]? = some x) (hv : Vis X.env.scope x) (hd : (x == ("__debug__" : Str)) = false := by decide) (hcd : (x == ("__classdict__" : Str)) = false := by decide) : PEN X (.Name x pos) (tVar i) := fun pins s σ H Q m I hn h => by
  obtain ⟨v, hs, q⟩ := h
  exact raw_name hN hv I hs (fun u r => ⟨hn, v, H, I, r, q⟩) hd hcd
theorem pen_glob {v : V} {u : Value} (hg : Gl X x) (hm : X.mg x = some u) (r : RelV v u) (hd : (x == ("__debug__" : Str)) = false := by decide) : PEN X (.Name x pos) (tC v) := fun pins s σ H Q m I hn h => ld_glob I hg hm ⟨hn, v, H, I, r, h⟩ hd
theorem pen_gi {i : Int} (h : ∃ t, X.mg x = some (.int i t)) (hg : Gl X x) (hd : (x == ("__debug__" : Str)) = false := by decide) : PEN X (.Name x pos) (tC (.int i)) := by
  obtain ⟨t, e⟩ := h
  exact pen_glob hg e ⟨t, rfl⟩ hd
theorem pan_nil : PAN X [] tNil := fun pos pins s σ H Q m I hn h => Calls.spliced_nil ⟨hn, [], H, I, .nil, h⟩
theorem pan_cons (ha : PEN X e te) (hr : PAN X es t) (hs : starEach (e :: es) X.env = (false, eval e X.env) :: starEach es X.env := by rfl) : PAN X (e :: es) (tCons te t) := fun pos pins s σ H Q m I hn h => by
  rw [hs]
  show wpAny _ _ (spliced ((false, eval e X.env) :: backTo pos (starEach es X.env))) _ _ s
  refine Calls.spliced_cons (thn (ha pins s σ H _ m I hn h) fun v s1 ⟨n1, y, H1, I1, r1, q1⟩ => ?_)
  exact thn (hr pos pins s1 σ H1 _ m I1 n1 q1) fun us s2 ⟨n2, xs, H2, I2, r2, q2⟩ => ⟨n2, y :: xs, H2, I2, .cons r1 r2, q2⟩
theorem ns_call {outer : List Env} {P : Program} {w : World} {H : Hp} {s s' : Shared} {Q : VK} {u : Value} {L : Addr} {m : Str → Option Value} (h : CE outer P w H s Q u s') (hn : s.heap.Ns L m) (hf : H L = none) : s'.heap.Ns L m := by
  obtain ⟨v, H', _, _, un, _⟩ := h
  obtain ⟨o, es, ep, ho, r⟩ := hn
  obtain ⟨sl, e⟩ := un.any ho hf (by simp)
  exact ⟨_, es, ep, e, r⟩
theorem pen_fk {k : Nat} {f : Addr} {sp : Sp} (F : Ly.Fk X.prog X.w X.K X.mg X.base k f sp) (hr : Room k X.A) (hx : Passes (L2.CX X.prog X.w) X E) (hg : Gl X x) (hm : X.mg x = some (.ref f)) (ha : PAN X (e :: es) t)
    (hdb : (x == ("__debug__" : Str)) = false := by decide) (he : starEach (e :: es) X.env = (false, eval e X.env) :: starEach es X.env := by rfl) (hpl : (backTo pos (starEach es X.env)).any (·.1) = false := by rfl) :
    PEN X (.Call (.Name x p) (e :: es) [] pos) (tCall sp [] E t) := fun pins s σ H Q m I hn h => by
  obtain ⟨fd, ps, G, hb, hk⟩ := F.ex
  refine wpAny_Call_Name_kw (ld_glob I hg hm ?_ hdb)
  refine PySem.W.callWith_K (h₀ := X.base) I.ok.mod.kin hk (thn (ha pos pins s σ H _ m I hn h) fun us s1 ⟨n1, vs, H1, I1, r, q⟩ => ⟨I1.kIn, ?_⟩) he hpl
  have hl : (us ++ []).length = ps.length := by
    have z := G.len _ _ _ _ (show sp (vs ++ []) H1 Q E from q)
    rw [List.append_nil] at z ⊢
    rw [← r.length]; exact z
  have r2 : Vals (vs ++ []) (us ++ []) := r.append .nil
  refine wpAny_call (codeAny_mono (G.run X.A X.stack s1 H1 ⟨us, []⟩ (us ++ []) (vs ++ []) Q E hr I1.env0 (hb s1 us I1.kIn hl) r2 q) fun r s' hq => ?_)
  cases r with
  | error e => exact hx pins σ H1 s1 e s' I1 hq
  | ok fl =>
    cases fl with
    | ret u => exact ⟨ns_call hq n1 I1.free, I1.after hq⟩
    | next => exact False.elim hq
    | brk => exact False.elim hq
    | cont => exact False.elim hq
theorem pen_len (hg : Gl X "len") (hm : X.mg "len" = none) (hv : bootBuiltins "len" = some (.builtin "len")) (ha : PEN X e te) (he : starEach [e] X.env = (false, eval e X.env) :: starEach [] X.env := by rfl) :
    PEN X (.Call (.Name "len" p) [e] [] pos) (fun σ H Q => te σ H fun v H1 => ∃ y : Str, v = .str y ∧ y.length ≤ sizeLine ∧ Q (.int y.length) H1) := fun pins s σ H Q m I hn h => by
  refine wpAny_Call_Name_kw (ld_blt I hg hm hv ?_)
  refine PyProof.Rows.callWith_builtin1 ?_ he rfl
  rw [he]
  show wpAny _ _ (spliced ((false, eval e X.env) :: backTo pos (starEach [] X.env))) _ _ s
  refine Calls.spliced_cons (thn (ha pins s σ H _ m I hn h) fun v s1 ⟨n1, x, H1, I1, r1, y, e1, hy, q⟩ => ?_)
  refine Calls.spliced_nil ?_
  subst e1
  obtain ⟨t, rfl⟩ := r1
  have hl := line63
  have hs : sizeLine = 16777216 := sizeLine_eq
  exact len_str (by omega) ⟨n1, .int _, H1, I1.tok _, ⟨_, rfl⟩, q⟩
theorem ptn_val (h : PEN X e te) (he : ∀ whole, isTrue e X.env whole = (do let v ← whole; standAt e.pos; holding [v] (truthy v)) := by intro _; rfl) : PTN X e (tTest te) := fun pins s σ H Q m I hn hw => by
  refine isTrue_plain (thn (h pins s σ H _ m I hn hw) fun v s1 ⟨n1, x, H1, I1, r1, q1⟩ => ?_) (he _)
  obtain ⟨d, rfl, q⟩ := q1
  cases r1
  exact wpAny_truthy_bool ⟨n1, H1, I1, q⟩
theorem ptn_gt (ha : PEN X a ta) (hb : PEN X b tb) : PTN X (.Compare a [.Gt] [b] pos) (tTest (tOp (rI0 fun i j => .bl (decide (j < i))) ta tb)) := fun pins s σ H Q m I hn h => by
  refine wpAny_isTrue_Compare1 (thn (ha pins s σ H _ m I hn h) fun v s1 ⟨n1, x, H1, I1, r1, q1⟩ => ?_) (nomark b)
  refine thn (hb pins s1 σ H1 _ m I1 n1 q1) fun u s2 ⟨n2, y, H2, I2, r2, i, j, e1, e2, q⟩ => ?_
  subst e1
  subst e2
  obtain ⟨t, rfl⟩ := r1
  obtain ⟨t2, rfl⟩ := r2
  refine gt_int ?_
  obtain ⟨k, ek, q⟩ := q
  cases ek
  exact wpAny_truthy_bool ⟨n2, H2, I2, q⟩
theorem ptn_not (ha : PTN X a tA) : PTN X (.UnaryOp .Not a pos) (tNot tA) := fun pins s σ H Q m I hn h => isTrue_not (thn (ha pins s σ H (fun c H1 => Q (!c) H1) m I hn h) fun c s1 q => q)
theorem pwn_or1 (ha : PTN X a tA) : PWN X (.BoolOp .Or [a] pos) tA := fun wh pins s σ H Q m I hn h => by
  refine isTrue_or (thn (ha pins s σ H Q m I hn h) fun c s1 e => ?_)
  cases c with
  | false => exact isTrue_or_nil e
  | true => exact e
theorem pwn_or (ha : PTN X a tA) (hb : PWN X (.BoolOp .Or (b :: rest) pos) tB) : PWN X (.BoolOp .Or (a :: b :: rest) pos) (tOr tA tB) := fun wh pins s σ H Q m I hn h => by
  refine isTrue_or (thn (ha pins s σ H _ m I hn h) fun c s1 ⟨n1, H1, I1, q1⟩ => ?_)
  cases c with
  | true => exact ⟨n1, H1, I1, q1⟩
  | false => exact hb wh pins s1 σ H1 Q m I1 n1 q1
theorem PWN.pt (h : PWN X e tA) : PTN X e tA := fun pins s σ H Q m I hn q => h _ pins s σ H Q m I hn q
def tIfNo (tc : TT) (u : TS) : TS := fun D σ H => tc σ H fun b H1 => b = false ∧ u D σ H1
theorem pssn_nil : PSsN X [] tNext := fun pins s σ H D m I hn h => wpAny_execs_nil ⟨fun _ => hn, σ, H, I, h⟩
theorem pssn_if {st : List Stmt} {sr : List Stmt} {u : TS} (hc : PTN X c tA) (hr : PSsN X sr u) : PSsN X (.If c st [] pos :: sr) (tIfNo tA u) := fun pins s σ H D m I hn h => by
  refine wpAny_execs_cons (wpAny_If (thn (hc pins s σ H _ m I hn h) fun d s1 ⟨n1, H1, I1, e, q1⟩ => ?_))
  subst e
  exact wpAny_execs_nil (hr pins s1 σ H1 D m I1 n1 q1)
end
end Lt
namespace Lt
open PySem L2 PyProof.Rows
open Lx (Le SupScope SupD SupG SupC cxS inv_super at_app with_bound)
open Ly
def PAX (X : Cx) (m : Str → Option Value) (es : List Expr) (t : TA) (G2 : List Value → Prop) : Prop := ∀ (pos : Pos) (pins : List (Addr × Obj)) (s : Shared) (σ : L2.St) (H : Hp) (Q : List V → Hp → Prop), Inv X pins σ H s → s.heap.Ns X.env.locals m → t σ H Q →
  wpAny (model X.prog X.w) X.A (spliced (backTo pos (starEach es X.env))) (fun us s' => G2 us ∧ AP X pins σ Q us s') X.xe s
section
variable {P : Program} {w : World} {K : PySem.W.Frag} {mg : Str → Option Value} {base : Heap} {nm qual : Str} {params : Arguments} {body : List Stmt} {scope : Scope} {dvs : List V} {kws : List (Str × V)} {DC f f2 : Addr} {fd fd2 : FuncData}
theorem tk_supX {N : List Str} {cd : Value} {cc : Addr} {A : Around} {outer : List Env} {s : Shared} {H : Hp} {E : XK} : Tk (cxS (L2.CX P w) P w K mg base N qual scope f cd cc A outer s H E) E := takes_of rfl rfl rfl rfl
theorem fn_superX {G GC : List Value → Prop} {G2 : List Value → Prop} {N ps ps2 : List Str} {k m m2 : Nat} {cl : List Str} {t : XK → TS} {b : List Sl → W Out} {ta : XK → TA} {fa : List Sl → W (List D)} {g2 : List D → W D} {pre : List Stmt} {e : Expr} {es : List Expr} {p0 p1 apos pos pos2 : Pos} {slf : Str} {ar : Arg}
    (F : SupG P K nm qual params body scope dvs kws DC f fd) (S : SupScope N ps scope) (hN : N[0]? = some slf) (hps : ps.length = m + 1) (har : (params.posonlyargs ++ params.args).head? = some ar) (hslf : ar.arg = slf) (hloc : scope.names.lookup slf = some .local)
    (hb : body = pre ++ [.Expr (.Call (.Attribute (.Call (.Name "super" p0) [] [] p1) "__init__" apos) (e :: es) [] pos) pos2])
    (hl : LS K t b) (hla : LA K ta fa)
    (hpre : ∀ (cd : Value) (cc : Addr) (A : Around) (outer : List Env) (s : Shared) (H : Hp) (E : XK), Room k (A.deeper (PySem.W.ksEnv qual scope s.heap.objs.size f cd cc)) → Tk (cxS (L2.CX P w) P w K mg base N qual scope f cd cc A outer s H E) E → PSsN (cxS (L2.CX P w) P w K mg base N qual scope f cd cc A outer s H E) pre (t E))
    (harg : ∀ (cd : Value) (cc : Addr) (A : Around) (outer : List Env) (s : Shared) (H : Hp) (E : XK) (us : List Value), G us → us.length = ps.length → Room k (A.deeper (PySem.W.ksEnv qual scope s.heap.objs.size f cd cc)) →
      PAX (cxS (L2.CX P w) P w K mg base N qual scope f cd cc A outer s H E).nox (fun x => (ps.zip us).reverse.lookup x) (e :: es) (ta E0) G2)
    (C : FnX P w K mg base (L2.CX P w) k f2 fd2 ps2 GC (Pr K (m2 + 1) g2)) (hGC : ∀ (x : Value) (us : List Value), G2 us → GC (x :: us)) (b2 : Binds K fd2 ps2 []) (hsub : ∀ c, c ∈ cl → SupC K (He.ga K c) DC f2) (hboot : bootBuiltins "super" = some (.type "super"))
    (hst : ∀ env : Env, starEach (e :: es) env = (false, eval e env) :: starEach es env) (hpl : ∀ env : Env, (backTo pos (starEach es env)).any (·.1) = false)
    (hsw : ∀ env : Env, swapsWith (.Call (.Attribute (.Call (.Name "super" p0) [] [] p1) "__init__" apos) (e :: es) [] pos) none pos2.line env = pure false)
    (hev : ∀ env : Env, ∃ plS : Sem Bool, eval (.Call (.Attribute (.Call (.Name "super" p0) [] [] p1) "__init__" apos) (e :: es) [] pos) env = (do
      let ov ← attributeBase (.Call (.Name "super" p0) [] [] p1) "__init__" env (eval (.Call (.Name "super" p0) [] [] p1) env)
      standAt apos.atName
      let (f, first) ← holding [ov] (getMethod ov "__init__" plS)
      callWith pos f first (backTo pos (starEach (e :: es) env)) [])) :
    FnX P w K mg base (L2.CX P w) (k + 1) f fd ps G (Pr K (m + 1) (dInit N cl b fa m2 g2)) := by
  obtain ⟨oc, od, dV, kV, doc, pm, an, cda, ct, osl, cc, rfl, lk, hcd, _, ⟨ccl, ccd, ccs, hcell⟩, ⟨kcl, kcd, kvs, kcs, file, tf, hcode, hvs, hfile⟩⟩ := F.ex
  refine ⟨fun vs H Q E h => by rw [Pr.len vs H Q E h, hps], fun A outer s H args us vs Q E hG hr e0 hbind r hsp => ?_⟩
  have hlen := Pr.len vs H Q E hsp
  have KB := e0.mod.kin
  have KX : K.In s.heap := e0.mod.kin.keeps fun b o e => (e0.bs b o e).1
  have lim : s.heap.NoLimit := e0.mod.nolimit.keeps fun b o e => (e0.bs b o e).1
  refine PySem.ks_codeAny_call_defAt (body := body) (binds := ps.zip us) hr.depth (KX _ _ lk) rfl lim (PySem.W.codeRec_of KX hcd) rfl hbind S.noc (fun y hy => S.par y.1 (List.of_mem_zip (a := y.1) (b := y.2) hy).1) (fun h1 hns hk => ?_) S.co S.gen S.kind
  let X : Cx := cxS (L2.CX P w) P w K mg base N qual scope f (.ref cda) cc A outer s H E
  have tk : Tk X E := tk_supX
  have I : Inv X [] (L2.start N vs) H { s with heap := h1, toks := s.toks + (ps.zip us).length } := inv_super S hr.hd e0 (by rw [hlen, hps]) r (KB _ _ hcell) rfl hns hk
  have hul : us.length = ps.length := by rw [← r.length, hlen, hps]
  have hrd : Room k (A.deeper (PySem.W.ksEnv qual scope s.heap.objs.size f (.ref cda) cc)) := hr.deeper _
  obtain ⟨c, w0, s0, ds, rfl, ok, rl, dl, q⟩ := hsp
  have slo : Slo K c w0 (L2.start N vs) (startD N ds) := Slo.start rl
  rw [hb]
  refine at_app ?_
  -- the statements ahead
  have rd : t E { nx := fun σ1 H1 => ∃ w1 s1 δ1, w1.H = H1 ∧ Ok K c w1 s1 ∧ Slo K c w1 σ1 δ1 ∧ Den K c ((dVar 0 δ1).bind fun x => (match x with
    | .mu i => (W.get i).bind fun mo => (match mo with
      | .ins c _ => W.need (c ∈ cl) (((fa δ1).calm).bind fun es => W.need (es.length = m2) ((g2 (.mu i :: es)).bind fun _ => W.ret D.non))
      | _ => W.stuck)
    | _ => W.stuck)) w1 s1 (qV K c Q) (xE K c E), rt := fun _ _ => False } (L2.start N vs) w0.H := by
    refine hl c w0 s0 _ _ _ E ok slo (q.bind.mono fun u w1 s1 g1 o1 p => ?_)
    cases u with
    | nx δ => exact fun σ1 s1' => ⟨w1, s1, δ, rfl, o1, s1', p⟩
    | rt d => exact p.elim
    | bk δ => exact p.elim
    | ct δ => exact p.elim
  have run1 := (hpre (.ref cda) cc A outer s w0.H E hrd tk) [] _ _ w0.H _ _ I hns rd
  refine wpAny_mono run1 (fun fl s1 hs => ?_) (fun e s' hs => hs)
  obtain ⟨hn0, hs⟩ := hs
  cases fl with
  | ret u => obtain ⟨_, _, _, _, _, z⟩ := hs; exact z.elim
  | brk => obtain ⟨_, _, _, z⟩ := hs; exact z.elim
  | cont => obtain ⟨_, _, _, z⟩ := hs; exact z.elim
  | next =>
    obtain ⟨σ1, H1, I1, w1, s1', δ1, rfl, o1, sl1, q1⟩ := hs
    have n1 := hn0 rfl
    -- the object
    have q1 := q1.bind
    unfold dVar at q1
    cases ev0 : δ1[0]? with
    | none => rw [ev0] at q1; exact (show False from q1).elim
    | some x0 => cases x0 with
      | none => rw [ev0] at q1; exact (show False from q1).elim
      | some d0 =>
        rw [ev0] at q1
        have q1 := Den.ret q1 o1
        obtain ⟨v0, hv0, r0⟩ := sl1.val 0 _ ev0
        cases r0 with
        | @mu i0 x hi0 =>
          obtain ⟨mo, em, q1⟩ := q1
          have rm := o1.sto i0 x mo hi0 em
          cases mo with
          | ins c0 gs0 =>
            obtain ⟨hc0, q1⟩ := q1
            obtain ⟨hF0, dx, fs, hx1, _, _, _, _⟩ := rm
            have sc := hsub c0 hc0
            have KX1 : K.In s1.heap := I1.kIn
            obtain ⟨mA, OM, _⟩ := ins_get I1.hok hx1
            obtain ⟨odx, IA, _⟩ := OM.look
            -- the call
            obtain ⟨plS, hev1⟩ := hev (PySem.W.ksEnv qual scope s.heap.objs.size f (.ref cda) cc)
            refine PySem.ks_wpAt_execs_cons (PySem.ks_wpAt_Expr_any (PySem.ks_wpAt_MethodCall (pl := plS) ?_ hev1) I.quiet (hsw _))
            obtain ⟨hh, gg, dd, tt, oo⟩ := s1
            refine PySem.ks_wpAt_super_base S.sup S.cls (by decide) rfl (KX1 _ _ lk) rfl har rfl (KX1 _ _ hcode) rfl hvs hfile F.top ?_
            obtain ⟨mb, hb1, hb2⟩ := I1.mod.blt
            refine PySem.W.ks_loadName_global S.kind S.sup (Calls.loadGlobal_builtin (env := PySem.W.ksEnv qual scope s.heap.objs.size f (.ref cda) cc) (I1.mod.glob.keeps I1.bk) (PySem.W.mg_none_of KB e0.mod.glob F.sup) (hb1.keeps I1.bk) ((hb2 "super" (by decide)).trans hboot) ⟨rfl, ?_⟩)
            refine wpAny_loadName_free S.kind S.cls rfl ⟨_, KX1 _ _ hcell, rfl⟩ ?_
            obtain ⟨ml, hn1, hl1⟩ := I1.loc
            obtain ⟨u0, ru0, lk0⟩ := hl1 0 slf (.ref x) hN hv0 (.inl hloc)
            have hml : ml slf = some (.ref x) := by
              have e0 : u0 = Value.ref x := ru0
              rw [e0] at lk0
              rcases lk0 with ⟨_, z⟩ | ⟨z, _⟩
              · exact z
              · have z1 : scope.names.lookup slf = some .cell ∨ scope.names.lookup slf = some .free := z
                rw [hloc] at z1
                rcases z1 with z1 | z1 <;> cases z1
            rw [hslf]
            refine wpAny_loadName_local S.kind hloc hn1 hml ?_
            obtain ⟨cdD, hcD⟩ := F.cls
            obtain ⟨oD, hD1, hD2⟩ : ∃ oD, hh.get? DC = some oD ∧ oD.data = .cls cdD := by
              unfold PySem.W.clsIn at hcD
              split at hcD
              · rename_i ho
                cases hcD
                exact ⟨_, KX1 _ _ ho, rfl⟩
              · cases hcD
            refine PySem.ks_wpAny_isType_cls hD1 hD2 ⟨rfl, ?_⟩
            refine PySem.ks_wpAny_call_super hD1 hD2 IA.at_ IA.cls (fun cz ez => ?_) (PySem.W.looks_mroIn KX1 sc.mro) (fun h2 hso hk2 => ?_)
            · have := IA.no
              unfold PySem.W.notCls at this
              rw [ez] at this
              exact Bool.noConfusion this
            have I2 : Inv X [] σ1 w1.H ⟨h2, gg, dd, tt, oo⟩ := I1.kept (t' := tt) hk2
            have KX2 : K.In h2 := I2.kIn
            obtain ⟨cdC, hcC⟩ : ∃ cd, PySem.W.clsIn K (He.ga K c0) = some cd := by
              cases q2 : PySem.W.clsIn K (He.ga K c0) with
              | none =>
                have z := sc.at_
                unfold PySem.W.ks_superIn at z
                rw [q2] at z; cases z
              | some cd => exact ⟨cd, rfl⟩
            have hal := sc.at_
            unfold PySem.W.ks_superIn at hal
            rw [hcC] at hal
            obtain ⟨of2, hof, hofc⟩ : ∃ of2, h2.get? f2 = some of2 ∧ of2.cls = .type "function" := by
              have z : (K.lookup f2).map (·.cls) = some (.type "function") := sc.ty
              cases q2 : K.lookup f2 with
              | none => rw [q2] at z; cases z
              | some of2 => rw [q2] at z; exact ⟨of2, KX2 _ _ q2, Option.some.inj z⟩
            refine PySem.ks_wpAny_getMethod_super hso (PySem.W.looks_opaque KX2 F.op) (l₀ := cdC.mro) ?_ rfl KX2 hal hof hofc (PySem.W.ks_ne KX1 IA hcC) (by decide) ?_
            · exact fun A Q E s k q => wpAny_bind ((PySem.W.looks_clsIn KX2 hcC) A _ E s k (wpAny_pure q))
            have I3 : Inv X [] σ1 w1.H ⟨h2.push { cls := .type "method", data := .fields #[.ref f2, .ref x] }, gg, dd, tt + 1, oo⟩ := I2.kept (t' := tt + 1) (fun b o e => Heap.get?_push_of_some _ e)
            have hbm : (h2.push { cls := .type "method", data := .fields #[.ref f2, .ref x] }).get? h2.objs.size = some { cls := .type "method", data := .fields #[.ref f2, .ref x] } := Heap.get?_push_at rfl rfl
            have I4 := I3.pinned (fp := [h2.objs.size]) (fun b hb => by
              have eb : b = h2.objs.size := by simpa using hb
              subst eb
              exact I2.fpOk (Nat.le_refl _) (I2.hok.fresh (Nat.le_refl _))) (fun b hb => by
              have eb : b = h2.objs.size := by simpa using hb
              subst eb
              exact ⟨_, hbm, fun v z => by cases z⟩)
            show wpAny (model P w) X.A (callWith pos (.ref h2.objs.size) [] (backTo pos (starEach (e :: es) X.env)) []) _ _ _
            refine with_bound (g := f2) (self := .ref x) sc.fn (hst _) (hpl _) ?_
            have rdA : ta E0 σ1 w1.H fun vs5 H5 => ∃ w5 s5 ds5, w5.H = H5 ∧ Go c w1 w5 ∧ Ok K c w5 s5 ∧ RepL K c w5.al w5.F vs5 ds5 ∧ ds5.length = m2 ∧ Den K c ((g2 (.mu i0 :: ds5)).bind fun _ => W.ret D.non) w5 s5 (qV K c Q) (xE K c E) :=
              hla c w1 s1' σ1 δ1 _ E0 o1 sl1 ((Den.bind q1).calm.mono fun ds5 w5 s5 g5 o5 p5 vs5 r5 => ⟨w5, s5, ds5, rfl, g5, o5, r5, p5.1, p5.2⟩)
            have n3 : (h2.push { cls := .type "method", data := .fields #[.ref f2, .ref x] }).Ns X.env.locals (fun x => (ps.zip us).reverse.lookup x) := (Heap.Ns.keeps n1 hk2).push _
            refine wpAny_mono (harg (.ref cda) cc A outer s w0.H E us hG hul hrd pos _ _ σ1 w1.H _ (I4.wish _) n3 rdA) (fun us5 s5 q5 => ?_) (fun _ _ z => z.elim)
            obtain ⟨g5', vs5, H5, I5, r5, w5, s5', ds5, rfl, g5, o5, rl5, dl5, q5⟩ := q5
            have I5 : Inv X _ σ1 w5.H s5 := I5.unwish
            have hb5 : s5.heap.get? h2.objs.size = some { cls := .type "method", data := .fields #[.ref f2, .ref x] } := (I5.pin (h2.objs.size, _) (List.mem_append_right _ (List.mem_append_right _ (mem_pinsAt (List.mem_cons_self) hbm)))).1
            refine ⟨⟨hb5, I5.kIn⟩, ?_⟩
            show wpAny (model P w) X.A (call (.ref h2.objs.size) ([] ++ us5)) _ _ s5
            have sp2 : Pr K (m2 + 1) g2 (.ref x :: vs5) w5.H (fun _ H6 => Q .non H6) E := ⟨c, w5, s5', .mu i0 :: ds5, rfl, o5, .cons (.mu (g5.sub.at hi0)) rl5, by rw [List.length_cons, dl5], q5.bind.mono fun d w6 s6 g6 o6 p6 v rv => p6.ret o6 .non .non⟩
            have r25 : Vals (V.ref x :: vs5) (Value.ref x :: us5) := .cons rfl r5
            have hl2 : (Value.ref x :: us5).length = ps2.length := by rw [← r25.length]; exact C.len _ _ _ _ sp2
            refine wpAny_call (PySem.ks_codeAny_call_bound hb5 (codeAny_mono (C.run X.A X.stack s5 w5.H ⟨.ref x :: us5, []⟩ (.ref x :: us5) (.ref x :: vs5) _ E (hGC _ _ g5') hrd I5.env0 ?_ r25 sp2) fun r6 s6 h6 => ?_))
            · have z := b2 s5 (.ref x :: us5) I5.kIn (by rw [List.append_nil]; exact hl2)
              rw [List.append_nil] at z
              exact z
            · cases r6 with
              | error er => exact px tk _ _ _ _ er s6 I5 h6
              | ok fl =>
                cases fl with
                | ret u6 =>
                  obtain ⟨v6, H6, I6, rv6, q6⟩ := I5.after h6
                  exact PySem.wpAt_of_wpAny (wpAny_execs_nil ⟨.non, H6, I6.os, I6.bare, I6.base, I6.hok, rfl, q6⟩)
                | next => exact False.elim h6
                | brk => exact False.elim h6
                | cont => exact False.elim h6
          | _ => exact q1.elim
        | _ => exact (show False from q1).elim
end
end Lt
namespace Lt
open PySem PySem.Spec L2 PyProof.Rows
open Ly (GtAt)
def GdP (a b : Value) : Prop := ∃ y z t u, a = .str y t ∧ b = .str z u ∧ 1 ≤ t ∧ 1 ≤ u ∧ t ≠ u
def G3 (us : List Value) : Prop := ∃ s a b, us = [s, a, b] ∧ GdP a b
def G4 (us : List Value) : Prop := ∃ s k a b, us = [s, k, a, b] ∧ GdP a b
def G5 (us : List Value) : Prop := ∃ k a b, us = [k, a, b] ∧ GdP a b
section
variable {X : Cx} {E : XK}
theorem name_at {pins : List (Addr × Obj)} {s : Shared} {σ : L2.St} {H : Hp} {i : Nat} {x : Str} {v : V} {w : Value} {m : Str → Option Value} {pos : Pos} {Q E : Value → Shared → Prop} (I : Inv X pins σ H s) (hn : s.heap.Ns X.env.locals m) (hN : X.N[i]? = some x) (hl : X.env.scope.names.lookup x = some .local)
    (hσ : σ[i]? = some (some v)) (hm : m x = some w) (h : RelV v w → Q w s) (hd : (x == ("__debug__" : Str)) = false := by decide) : wpAny (model X.prog X.w) X.A (eval (.Name x pos) X.env) Q E s := by
  refine wpAny_Name (wpAny_loadName_local I.ok.kind hl hn hm (h ?_)) hd
  obtain ⟨m', hn', hl'⟩ := I.loc
  obtain ⟨u, r, lk⟩ := hl' i x v hN hσ (.inl hl)
  rcases lk with ⟨_, z⟩ | ⟨z, _⟩
  · rw [← Heap.Ns.agree hn hn' x, hm] at z
    cases z
    exact r
  · have z1 : X.env.scope.names.lookup x = some .cell ∨ X.env.scope.names.lookup x = some .free := z
    rw [hl] at z1
    rcases z1 with z1 | z1 <;> cases z1
theorem pax_cnn {m : Str → Option Value} {c x1 x2 : Str} {j i1 i2 : Nat} {p0 p1 p2 : Pos} {w1 w2 : Value} (h1 : X.N[i1]? = some x1) (h2 : X.N[i2]? = some x2) (l1 : X.env.scope.names.lookup x1 = some .local) (l2 : X.env.scope.names.lookup x2 = some .local)
    (m1 : m x1 = some w1) (m2 : m x2 = some w2) (g : GdP w1 w2) (d1 : (x1 == ("__debug__" : Str)) = false := by decide) (d2 : (x2 == ("__debug__" : Str)) = false := by decide) :
    PAX X m [.Constant (.str c) j p0, .Name x1 p1, .Name x2 p2] (tCons (tC (.str c)) (tCons (tVar i1) (tCons (tVar i2) tNil))) G5 := fun pos pins s σ H Q I hn h => by
  obtain ⟨v1, s1, v2, s2, q⟩ := h
  show wpAny _ _ (spliced ((false, eval (.Constant (.str c) j p0) X.env) :: backTo pos (starEach [.Name x1 p1, .Name x2 p2] X.env))) _ _ s
  refine Calls.spliced_cons (Calls.Constant_str ?_)
  have I1 : Inv X pins σ H { s with toks := s.toks + 1 } := I.tok _
  show wpAny _ _ (spliced ((false, eval (.Name x1 p1) X.env) :: backTo pos (starEach [.Name x2 p2] X.env))) _ _ _
  refine Calls.spliced_cons (name_at I1 hn h1 l1 s1 m1 (fun r1 => ?_) d1)
  show wpAny _ _ (spliced ((false, eval (.Name x2 p2) X.env) :: backTo pos (starEach [] X.env))) _ _ _
  refine Calls.spliced_cons (name_at I1 hn h2 l2 s2 m2 (fun r2 => ?_) d2)
  exact Calls.spliced_nil ⟨⟨_, _, _, rfl, g⟩, [.str c, v1, v2], H, I1, .cons ⟨_, rfl⟩ (.cons r1 (.cons r2 .nil)), q⟩
def tGt2 (i j : Nat) : TE := fun σ H Q => ∃ y z, σ[i]? = some (some (.str y)) ∧ σ[j]? = some (some (.str z)) ∧ ∀ (p : Addr) (o : Obj) (us : List Value) (n : Nat) (t u : Tok),
  H p = none → o.data = .seq (us ++ [Value.str y t, Value.str z u]).toArray n → us.length = 0 → 1 ≤ t → 1 ≤ u → t ≠ u → Q (.ref p) (upd H p (.frz o (.tup ([] ++ [.str y, .str z]))))
theorem pax_nt {m : Str → Option Value} {x0 x1 x2 : Str} {i0 i1 i2 : Nat} {p0 p1 p2 tp : Pos} {ctx} {w0 w1 w2 : Value} (h0 : X.N[i0]? = some x0) (h1 : X.N[i1]? = some x1) (h2 : X.N[i2]? = some x2) (l0 : X.env.scope.names.lookup x0 = some .local) (l1 : X.env.scope.names.lookup x1 = some .local) (l2 : X.env.scope.names.lookup x2 = some .local)
    (m0 : m x0 = some w0) (m1 : m x1 = some w1) (m2 : m x2 = some w2) (g : GdP w1 w2) (d0 : (x0 == ("__debug__" : Str)) = false := by decide) (d1 : (x1 == ("__debug__" : Str)) = false := by decide) (d2 : (x2 == ("__debug__" : Str)) = false := by decide) :
    PAX X m [.Name x0 p0, .Tuple [.Name x1 p1, .Name x2 p2] ctx tp] (tCons (tVar i0) (tCons (tGt2 i1 i2) tNil)) (fun _ => True) := fun pos pins s σ H Q I hn h => by
  obtain ⟨v0, s0, y, z, s1, s2, q⟩ := h
  show wpAny _ _ (spliced ((false, eval (.Name x0 p0) X.env) :: backTo pos (starEach [.Tuple [.Name x1 p1, .Name x2 p2] ctx tp] X.env))) _ _ s
  refine Calls.spliced_cons (name_at I hn h0 l0 s0 m0 (fun r0 => ?_) d0)
  show wpAny _ _ (spliced ((false, eval (.Tuple [.Name x1 p1, .Name x2 p2] ctx tp) X.env) :: backTo pos (starEach [] X.env))) _ _ _
  refine Calls.spliced_cons (wpAny_Tuple_spliced ?_)
  show wpAny _ _ (spliced ((false, eval (.Name x1 p1) X.env) :: backTo tp (starEach [.Name x2 p2] X.env))) _ _ _
  refine Calls.spliced_cons (name_at I hn h1 l1 s1 m1 (fun r1 => ?_) d1)
  show wpAny _ _ (spliced ((false, eval (.Name x2 p2) X.env) :: backTo tp (starEach [] X.env))) _ _ _
  refine Calls.spliced_cons (name_at I hn h2 l2 s2 m2 (fun r2 => ?_) d2)
  refine Calls.spliced_nil ?_
  obtain ⟨y', z', t, u, rfl, rfl, g1, g2, g3⟩ := g
  obtain ⟨t', e1⟩ := r1
  cases e1
  obtain ⟨u', e2⟩ := r2
  cases e2
  have h3 : ([.str y t, .str z u] : List Value).length ≤ sizeLine := by rw [sizeLine_eq]; show 2 ≤ 16777216; decide
  have hf : H s.heap.objs.size = none := I.hok.fresh (Nat.le_refl _)
  refine ⟨h3, Calls.spliced_nil ⟨trivial, [v0, .ref s.heap.objs.size], upd H s.heap.objs.size (.frz { cls := .type "tuple", data := .seq #[.str y t, .str z u] 0 } (.tup ([] ++ [.str y, .str z]))), ?_, .cons r0 (.cons rfl .nil), ?_⟩⟩
  · exact I.laid (t' := s.toks) (fun b o e => Heap.get?_push_of_some _ e) (Nat.le_refl _) ⟨Heap.get?_push_size _ rfl, h3, [.str y t, .str z u], .cons ⟨t, rfl⟩ (.cons ⟨u, rfl⟩ .nil), ⟨_, Heap.get?_push_size _ rfl, rfl, _, rfl⟩⟩
  · exact q _ _ [] 0 t u hf rfl rfl g1 g2 g3
def tMkG (C : Addr) (sp : Sp) (E : XK) (i : Nat) : TE := fun σ H Q => ∃ a vs y z t u, σ[i]? = some (some (.ref a)) ∧ GtAt H a vs y z t u ∧ vs.length = 1 ∧ ∀ x dx, H x = none → H dx = none → dx ≠ x →
  sp [.ref x, .str y, .str z] (upd (upd H dx (.own x)) x (.ins C dx [])) (fun v H2 => v = .non ∧ Q (.ref x) H2) E
theorem run_makeX {pins : List (Addr × Obj)} {σ : L2.St} {H : Hp} {s : Shared} {Q : VK} {us : List Value} {vs : List V} {CX : CXT} {k : Nat} {f C : Addr} {fd : FuncData} {ps : List Str} {G : List Value → Prop} {sp : Sp} (M : Mk X.K C f) (F : FnX X.prog X.w X.K X.mg X.base CX k f fd ps G sp) (hr : Room (k + 1) X.A) (hb : Binds X.K fd ps [])
    (hx : Passes CX X E) (I : Inv X pins σ H s) (r : Vals vs us) (hG : ∀ x, G (.ref x :: us))
    (h : ∀ x dx, H x = none → H dx = none → dx ≠ x → sp (.ref x :: vs) (upd (upd H dx (.own x)) x (.ins C dx [])) (fun v H2 => v = .non ∧ Q (.ref x) H2) E) :
    wpAny (model X.prog X.w) X.A (call (.ref C) us) (EP X pins σ Q) X.xe s := by
  have hq := h (s.heap.objs.size + 1) s.heap.objs.size (I.hok.fresh (Nat.le_succ _)) (I.hok.fresh (Nat.le_refl _)) (Nat.ne_of_lt (Nat.lt_succ_self _))
  have I2 := Inv.made (C := C) I
  have r2 : Vals (V.ref (s.heap.objs.size + 1) :: vs) (Value.ref (s.heap.objs.size + 1) :: us) := .cons rfl r
  have hl : (Value.ref (s.heap.objs.size + 1) :: us ++ []).length = ps.length := by
    have e := r2.length
    rw [F.len _ _ _ _ hq] at e
    rw [List.append_nil]
    exact e.symm
  have hb2 := hb _ (Value.ref (s.heap.objs.size + 1) :: us) I2.kIn hl
  rw [List.append_nil] at hb2
  refine wpAny_call (make_map (f := f) I.kIn M.makes M.init (beq_iff_eq.mp M.fn) (codeAny_mono (F.run _ X.stack _ _ ⟨Value.ref (s.heap.objs.size + 1) :: us, []⟩ (Value.ref (s.heap.objs.size + 1) :: us) _ _ E (hG _) (hr.make C us [])
    (I2.env0.make C us []) hb2 r2 hq) fun r s' hq' => ?_))
  cases r with
  | error e => exact hx pins σ _ _ e s' I2 hq'
  | ok fl =>
    cases fl with
    | ret u =>
      obtain ⟨v, H', I3, rv, ev, q3⟩ := I2.after hq'
      subst ev
      exact ⟨rv, ⟨V.ref (s.heap.objs.size + 1), H', I3, rfl, q3⟩⟩
    | next => exact False.elim hq'
    | brk => exact False.elim hq'
    | cont => exact False.elim hq'
theorem raw_ixT {pins : List (Addr × Obj)} {s : Shared} {σ : L2.St} {H : Hp} {i : Nat} {x : Str} {a : Addr} {its : Array Value} {k : Int} {j : Nat} {w : Value} {p1 cp pos : Pos} {Q E : Value → Shared → Prop} (hN : X.N[i]? = some x) (hv : Vis X.env.scope x) (I : Inv X pins σ H s)
    (hσ : σ[i]? = some (some (.ref a))) (hl : IsTup s.heap a its) (hz : its.size < 2 ^ 62) (h0 : 0 ≤ k) (hx : its[k.toNat]? = some w) (fin : ∀ tk, Q w { s with toks := tk }) (hs : PlainIx (.Constant (.int k) j cp))
    (hd : (x == ("__debug__" : Str)) = false := by decide) (hcd : (x == ("__classdict__" : Str)) = false := by decide) :
    wpAny (model X.prog X.w) X.A (eval (.Subscript (.Name x p1) (.Constant (.int k) j cp) pos) X.env) Q E s := by
  have hlt : k.toNat < its.size := (Array.getElem?_eq_some_iff.mp hx).1
  refine Subscript_ (raw_name hN hv I hσ (fun v r => ?_) hd hcd)
  have e : v = Value.ref a := r
  subst e
  refine wpAny_Constant_int ?_
  exact subscriptTail_builtinR (x := w) hl.typeIs slot_tuple_getitem.lookup
    (getItem_tuple (s := { s with toks := s.toks + 1 }) (j := k.toNat) (Q := fun r s' => r = w ∧ Q r s') hl (by omega) (by omega) (PySem.StrLaws.seqIndex_nonneg h0 (by omega)) hx ⟨rfl, fin _⟩) (hs _ _)
theorem pe_mkG {i : Nat} {fx dx : Str} {C f : Addr} {fd : FuncData} {ps : List Str} {k : Nat} {sp : Sp} {G : List Value → Prop} {j1 j2 : Nat} {p p1 p2 c1 c2 q1 q2 pos : Pos} (M : Mk X.K C f) (F : FnX X.prog X.w X.K X.mg X.base (L2.CX X.prog X.w) k f fd ps G sp) (hb : Binds X.K fd ps []) (hr : Room (k + 1) X.A) (hx : Passes (L2.CX X.prog X.w) X E) (hg : Gl X fx) (hm : X.mg fx = some (.ref C))
    (hG : ∀ (x : Addr) (a b : Value), GdP a b → G [.ref x, a, b]) (hN : X.N[i]? = some dx) (hv : Vis X.env.scope dx) (hdb : (fx == ("__debug__" : Str)) = false := by decide) (hdd : (dx == ("__debug__" : Str)) = false := by decide) (hcd : (dx == ("__classdict__" : Str)) = false := by decide) :
    PE X (.Call (.Name fx p) [.Subscript (.Name dx p1) (.Constant (.int 1) j1 c1) q1, .Subscript (.Name dx p2) (.Constant (.int 2) j2 c2) q2] [] pos) (tMkG C sp E i) := by
  refine ⟨fun pins s σ H Q I h => ?_⟩
  obtain ⟨a, vs, y, z, t, u, hσ, hg2, hl, q⟩ := h
  obtain ⟨us, n, o, ha, hd, hlu, k1, k2, k3⟩ := hg2
  have hob := I.hok a _ ha
  obtain ⟨ho, hz, its, ri, ⟨o', ho', hc', n', hd'⟩⟩ := hob
  rw [ho] at ho'
  cases ho'
  have tup : ∀ s' : Shared, s'.heap.get? a = some o → IsTup s'.heap a (us ++ [Value.str y t, Value.str z u]).toArray := fun s' e => ⟨o, e, hc', n, hd⟩
  have h1 : us.length = 1 := by rw [hlu, hl]
  have lenz : (us ++ [Value.str y t, Value.str z u]).toArray.size = 3 := by rw [List.size_toArray, List.length_append, h1]; rfl
  have g1 : (us ++ [Value.str y t, Value.str z u]).toArray[(1 : Int).toNat]? = some (.str y t) := by
    match us, h1 with
    | [w0], _ => rfl
  have g2 : (us ++ [Value.str y t, Value.str z u]).toArray[(2 : Int).toNat]? = some (.str z u) := by
    match us, h1 with
    | [w0], _ => rfl
  refine wpAny_Call_Name_kw (ld_glob I hg hm ?_ hdb)
  refine PySem.W.callWith_K (h₀ := X.base) I.ok.mod.kin M.kp ?_ rfl rfl
  show wpAny _ _ (spliced ((false, eval (.Subscript (.Name dx p1) (.Constant (.int 1) j1 c1) q1) X.env) :: backTo pos (starEach [.Subscript (.Name dx p2) (.Constant (.int 2) j2 c2) q2] X.env))) _ _ s
  refine Calls.spliced_cons (raw_ixT hN hv I hσ (tup s ho) (by rw [lenz]; decide) (by decide) g1 (fun tk => ?_) (fun _ _ => rfl) hdd hcd)
  show wpAny _ _ (spliced ((false, eval (.Subscript (.Name dx p2) (.Constant (.int 2) j2 c2) q2) X.env) :: backTo pos (starEach [] X.env))) _ _ _
  refine Calls.spliced_cons (raw_ixT hN hv (I.tok tk) hσ (tup _ ho) (by rw [lenz]; decide) (by decide) g2 (fun tk2 => ?_) (fun _ _ => rfl) hdd hcd)
  refine Calls.spliced_nil ?_
  have I2 : Inv X pins σ H { s with toks := tk2 } := I.tok tk2
  exact ⟨I2.kIn, run_makeX (us := [.str y t, .str z u]) (vs := [.str y, .str z]) M F hr hb hx I2 (.cons ⟨t, rfl⟩ (.cons ⟨u, rfl⟩ .nil)) (fun x => hG x _ _ ⟨y, z, t, u, rfl, rfl, k1, k2, k3⟩) q⟩
end
end Lt
namespace PySem
open Builtin Builtin.Str
def Txt.replace1 (x y z : Str) : Str := if ((occurrences x y 0 x.length 1).isEmpty || (y.length == 0 && z.length == 0)) = true then x else glued z (partsBetween x (occurrences x y 0 x.length 1) y.length)
theorem Txt.replace1_len (x y z : Str) : (Txt.replace1 x y z).length ≤ x.length + z.length := by
  unfold Txt.replace1
  split
  · exact Nat.le_add_right _ _
  · have h1 := StrLaws.occ_length_le x y 0 x.length 1
    have hy : (Builtin.Str.glued y (Builtin.Str.partsBetween x (Builtin.Str.occurrences x y 0 x.length 1) y.length)).length = x.length := by rw [StrLaws.glued_between_self]
    rw [size_glued, length_partsBetween, Nat.add_sub_cancel] at hy
    rw [size_glued, length_partsBetween, Nat.add_sub_cancel]
    have h2 : (Builtin.Str.occurrences x y 0 x.length 1).length * z.length ≤ 1 * z.length := Nat.mul_le_mul_right _ h1
    omega
theorem gives_str_replace1 (x y z : Str) (t u v k : Tok)
    (hf : (((occurrences x y 0 x.length 1).isEmpty || (y.length == 0 && z.length == 0)) = false →
      (u == 0 || v == 0) = false ∧ (u == v) = false ∧ tooLong (x.length + (occurrences x y 0 x.length 1).length * z.length) = false)) :
    GivesAt (fun s => NoneBooked s.heap) («str.replace» ⟨[.str x t, .str y u, .str z v, .int 1 k], []⟩)
      (if ((occurrences x y 0 x.length 1).isEmpty || (y.length == 0 && z.length == 0)) = true then .val (.str x t)
       else if (y == z) = true then .either (.val (.str x t)) (.str (glued z (partsBetween x (occurrences x y 0 x.length 1) y.length)))
       else .str (glued z (partsBetween x (occurrences x y 0 x.length 1) y.length))) := by
  show GivesAt _ (if ((occurrences x y 0 x.length 1).isEmpty || (y.length == 0 && z.length == 0)) = true then (do rule "str.replace.nothing"; ret (.str x t)) else
          (do let same ← isSame (.str y u) (.str z v)
              if same = true then (do rule "str.replace.old-is-new"; ret (.str x t)) else
              if tooLong (x.length + (occurrences x y 0 x.length 1).length * z.length) = true then unsupported "str.replace:memory" else
              retStr (glued z (partsBetween x (occurrences x y 0 x.length 1) y.length)))) _
  cases hc : ((occurrences x y 0 x.length 1).isEmpty || (y.length == 0 && z.length == 0))
  · obtain ⟨h0, huv, hl⟩ := hf hc
    cases hyz : (y == z)
    · rw [isSame_str_other y z u v h0 huv hyz, hl]
      exact Gives.at (.of_eq rfl)
    · intro prog w A R s hb hq
      show wpAny _ _ (isSame (.str y u) (.str z v) >>= _) _ _ _
      refine wpAny_bind (wpAny_isSame_str h0 hb fun b => ?_)
      cases b
      · show wpAny _ _ (if tooLong (x.length + (occurrences x y 0 x.length 1).length * z.length) = true then _
                         else retStr (glued z (partsBetween x (occurrences x y 0 x.length 1) y.length))) _ _ _
        rw [hl]
        exact wpAny_bind (wpAny_mkStr (wpAny_pure hq.2.2) hq.2.1)
      · exact wpAny_bind (wpAny_rule (wpAny_pure hq.1))
  · exact Gives.at (.rule (.of_eq rfl))
namespace SC
theorem replace1 {prog : Program} {w : World} {A : Around} {E : Value → Shared → Prop} {s : Shared} {x y z : Str} {t u v k : Tok} {Q : Value → Shared → Prop} (hu : u ≠ 0) (hv : v ≠ 0) (huv : u ≠ v) (hb : x.length + z.length ≤ 16777216)
    (hq : ∀ t' k, Q (.str (Txt.replace1 x y z) t') { s with toks := k }) (hnb : NoneBooked s.heap) :
    wpAny (model prog w) A (call (.builtin "str.replace") [.str x t, .str y u, .str z v, .int 1 k]) Q E s := by
  have hl : tooLong (x.length + (occurrences x y 0 x.length 1).length * z.length) = false := by
    have h1 := StrLaws.occ_length_le x y 0 x.length 1
    have h2 : (occurrences x y 0 x.length 1).length * z.length ≤ 1 * z.length := Nat.mul_le_mul_right _ h1
    unfold tooLong sizeLine
    exact decide_eq_false (by omega)
  refine call_givesAt F.slot_str_replace (typeIs_str _ _ _) F.entry_str_replace (F.args_str_replace_4 _ _ _ _)
    (gives_str_replace1 x y z t u v k fun _ => ⟨by simp [hu, hv], by simp [huv], hl⟩) hnb ?_
  have hq' := hq
  have hlen := Txt.replace1_len x y z
  unfold Txt.replace1 at hq' hlen
  cases hc : ((occurrences x y 0 x.length 1).isEmpty || (y.length == 0 && z.length == 0))
  · rw [hc] at hq' hlen
    simp only [Bool.false_eq_true, if_false] at hq' hlen ⊢
    have hfit : (glued z (partsBetween x (occurrences x y 0 x.length 1) y.length)).length ≤ sizeLine := by rw [sizeLine_eq]; omega
    cases hyz : (y == z)
    · simp only [Bool.false_eq_true, if_false]
      exact ⟨hfit, hq' _ _⟩
    · simp only [if_true]
      have e : y = z := eq_of_beq hyz
      subst e
      rw [StrLaws.glued_between_self] at hq' ⊢
      dsimp only [Made.post]
      exact ⟨hq' t s.toks, by rw [sizeLine_eq]; omega, hq' _ _⟩
  · rw [hc] at hq'
    simp only [if_true] at hq' ⊢
    exact hq' t s.toks
end SC
end PySem
namespace Lt
open PySem PySem.Spec L2 PyProof.Rows
open Ly (GtAt)
abbrev vsel (sec : Bool) (y z : Str) (t u : Tok) : Value := if sec then .str z u else .str y t
structure GtV (P : Program) (w : World) (K : PySem.W.Frag) (mg : Str → Option Value) (base : Heap) (k : Nat) (C g : Addr) (sec : Bool) : Prop where
  run : ∀ (A : Around) (outer : List Env) (s : Shared) (H : Hp) (a dx b : Addr) (fs : List (Str × V)) (y z : Str) (t u : Tok), Room k A → Env0 P w K mg base A outer s H → H a = some (.ins C dx fs) → fs.lookup ("own_texts" : Str) = some (V.ref b) → GtAt H b [] y z t u →
    codeAny (model P w) A (.call (.ref g) ⟨[.ref a], []⟩) (fun r s' => r = .ok (.ret (vsel sec y z t u)) ∧ CE outer P w H s (fun _ H' => H' = H) (vsel sec y z t u) s') s
theorem gtv_of {P : Program} {w : World} {K : PySem.W.Frag} {mg : Str → Option Value} {base : Heap} {k : Nat} {C g : Addr} {sec : Bool} {x qual : Str} {params : Arguments} {body : List Stmt} {scope : Scope} {fd : FuncData} {N : List Str} {j : Nat} {p1 p2 p3 p4 p5 : Pos}
    (F : FunD K x qual params body scope [] [] g fd) (S : FnScope N ["self"] scope) (hN : N[0]? = some ("self" : Str)) (hv : Vis scope "self") (hb : Binds K fd ["self"] [])
    (hbd : body = [.Return (some (.Subscript (.Attribute (.Name "self" p1) "own_texts" p2) (.Constant (.int (if sec then 1 else 0)) j p3) p4)) p5]) (c : Cls K C) (n : NoAttr K C "own_texts") : GtV P w K mg base (k + 1) C g sec := by
  refine ⟨fun A outer s H a dx b fs y z t u hr e0 ha hl hg => ?_⟩
  obtain ⟨oc, od, dV, kV, doc, pm, an, cdv, ct, osl, rfl, lk, hcd, _, _⟩ := F.ex
  have KX : K.In s.heap := e0.mod.kin.keeps fun b o e => (e0.bs b o e).1
  have lim : s.heap.NoLimit := e0.mod.nolimit.keeps fun b o e => (e0.bs b o e).1
  have hkind : ∀ y ∈ ([("self" : Str)]).zip [Value.ref a], scope.names.lookup y.1 = some .local ∨ (scope.names.lookup y.1 = some .cell ∧ ((cellsFrom (s.heap.objs.size + 1) scope.names []).lookup y.1).isSome = true) := fun ⟨n, v⟩ hy => by
    rcases S.par n (List.of_mem_zip hy).1 with q | q
    · exact .inl q
    · exact .inr ⟨q, PySem.W.cellsFrom_some _ _ _ (.inl q)⟩
  refine codeAny_call_function hr.depth (KX _ _ lk) rfl S.co S.gen rfl (PySem.W.codeRec_of KX hcd) (hb s [.ref a] KX rfl _ _ _ _ ?_)
  refine wpAny_newFunctionEnv_cells S.kind hkind fun env he s1 xx => ?_
  subst he
  refine ⟨lim.keeps xx.toInCall.keep, codeAny_func ?_⟩
  have I : Inv (cxOf (L2.CX P w) P w K mg base N qual scope g cdv A outer s H (fun _ _ _ => False)) [] (start N [.ref a]) H s1 := inv_start S hr.hd e0 rfl (.cons rfl .nil) xx
  have hpl : 1 ≤ N.length := by
    have := (List.getElem?_eq_some_iff.mp hN).1
    exact this
  have hσ : (start N [V.ref a])[0]? = some (some (.ref a)) := by
    unfold L2.start
    rfl
  rw [hbd]
  refine wpAny_execs_cons (wpAny_Return_some (Subscript_ ?_))
  let X : Cx := cxOf (L2.CX P w) P w K mg base N qual scope g cdv A outer s H (fun _ _ _ => False)
  have pf := (pe_fld (X := X.nox) (f := "own_texts") (pos := p2) (pe_var (pos := p1) hN hv) rfl).run [] s1 _ H (fun v H1 => v = .ref b ∧ H1 = H) (I.wish _)
    ⟨.ref a, hσ, a, C, dx, fs, .ref b, rfl, ha, c, n, hl, rfl, rfl⟩
  refine wpAny_mono pf (fun v s2 h2 => ?_) (fun e s2 h2 => h2.elim)
  obtain ⟨v2, H2, I2, r2, e1, e2⟩ := h2
  subst e1
  subst e2
  obtain rfl : v = Value.ref b := r2
  have I2 : Inv X [] (start N [.ref a]) H2 s2 := I2.unwish
  obtain ⟨us, nn, o, hb2, hd, hlu, k1, k2, k3⟩ := hg
  have hob := I2.hok b _ hb2
  obtain ⟨ho, hz, its, ri, ⟨o', ho', hc', n', hd'⟩⟩ := hob
  rw [ho] at ho'
  cases ho'
  cases us with
  | cons _ _ => simp at hlu
  | nil =>
    refine wpAny_Constant_int ?_
    have I3 : Inv X [] (start N [.ref a]) H2 { s2 with toks := s2.toks + 1 } := I2.tok _
    have tup : IsTup s2.heap b #[Value.str y t, Value.str z u] := ⟨o, ho, hc', nn, hd⟩
    cases sec with
    | false =>
      refine subscriptTail_builtinR (x := .str y t) tup.typeIs slot_tuple_getitem.lookup ?_ rfl
      exact getItem_tuple (s := { s2 with toks := s2.toks + 1 }) (j := 0) tup (by decide) (by decide) rfl rfl ⟨rfl, rfl, .str y, H2, I3.os, I3.bare, I3.base, I3.hok, ⟨t, rfl⟩, rfl⟩
    | true =>
      refine subscriptTail_builtinR (x := .str z u) tup.typeIs slot_tuple_getitem.lookup ?_ rfl
      exact getItem_tuple (s := { s2 with toks := s2.toks + 1 }) (j := 1) tup (by decide) (by decide) rfl rfl ⟨rfl, rfl, .str z, H2, I3.os, I3.bare, I3.base, I3.hok, ⟨u, rfl⟩, rfl⟩
section
variable {X : Cx}
theorem getprop_gt {pins : List (Addr × Obj)} {σ : L2.St} {H : Hp} {s : Shared} {Q E' : Value → Shared → Prop} {bb : Bool} {k : Nat} {C p g a dx b : Addr} {fs : List (Str × V)} {f : Str} {y z : Str} {t u : Tok} {sec : Bool} (I : Inv X pins σ H s) (ea : H a = some (.ins C dx fs)) (c : Cls X.K C) (hp : PropOf X.K C f p g)
    (G : GtV X.prog X.w X.K X.mg X.base k C g sec) (hr : Room (k + 1) X.A) (hl : fs.lookup ("own_texts" : Str) = some (V.ref b)) (hg : GtAt H b [] y z t u) (h : ∀ s', Inv X pins σ H s' → Q (vsel sec y z t u) s') :
    wpAny (model X.prog X.w) X.A (getAttr (.ref a) f bb) Q E' s := by
  obtain ⟨mA, O, _, _, _, _⟩ := ins_get I.hok ea
  obtain ⟨od, J, _⟩ := O.look
  obtain ⟨rest, hrec⟩ := hp.rec_
  have I1 := I.tok (s.toks + 1)
  have hc : (PySem.W.clsIn X.K C).isSome = true := by
    obtain ⟨cd, hc, _⟩ := PySem.W.any_some c.hd
    rw [hc]
    rfl
  refine PySem.W.get_bind I.kIn J (PySem.W.plainGet_of (c.get f)).1 (PySem.W.findObj_data hc hp.at_ hp.get hp.tak) (PySem.W.plainGet_of (c.get f)).2 (wpAny_call (PySem.W.prop_get (s := { s with toks := s.toks + 1 }) I.kIn hrec ?_))
  refine codeAny_mono (G.run X.A.in1 X.stack { s with toks := s.toks + 1 } H a dx b fs y z t u hr.in1 I1.env0.in1 ea hl hg) fun r s' hq => ?_
  obtain ⟨e, hq⟩ := hq
  subst e
  obtain ⟨v, H', I3, rv, q3⟩ := I1.after hq
  subst q3
  show wpAny _ _ (handedOut (vsel sec y z t u)) _ _ _
  rw [PySem.W.handedOut_of (handed_of rv)]
  exact wpAny_pure (h s' I3)
def tRepG (C : Addr) (il is : Nat) (B : Str → Str → Str → Prop) (f : Str → Str → Str → Str) : TE := fun σ H Q => ∃ x a dx fs b y z t u, σ[il]? = some (some (.str x)) ∧ σ[is]? = some (some (.ref a)) ∧ H a = some (.ins C dx fs) ∧ fs.lookup ("own_texts" : Str) = some (V.ref b) ∧ GtAt H b [] y z t u ∧ B x y z ∧ Q (.str (f x y z)) H
abbrev bEv : Str → Str → Str → Prop := fun x _ z => x.length + (x.length + 1) * z.length ≤ 16777216
abbrev bFi : Str → Str → Str → Prop := fun x _ z => x.length + z.length ≤ 16777216
variable {il is : Nat} {lx sx : Str} {C po go pn gn : Addr} {k : Nat} {p1 p2 p3 a1 a2 apos cpos : Pos}
theorem pe_repE (hNl : X.N[il]? = some lx) (hvl : Vis X.env.scope lx) (hNs : X.N[is]? = some sx) (hvs : Vis X.env.scope sx) (c : Cls X.K C) (ho : PropOf X.K C "old" po go) (hn : PropOf X.K C "new" pn gn) (Go : GtV X.prog X.w X.K X.mg X.base k C go false) (Gn : GtV X.prog X.w X.K X.mg X.base k C gn true) (hr : Room (k + 1) X.A) (hnb : ∀ h : Heap, X.K.In h → NoneBooked h)
    (hdl : (lx == ("__debug__" : Str)) = false := by decide) (hcl : (lx == ("__classdict__" : Str)) = false := by decide) (hds : (sx == ("__debug__" : Str)) = false := by decide) (hcs : (sx == ("__classdict__" : Str)) = false := by decide)
    (hbase : attributeBase (.Name lx p1) "replace" X.env (eval (.Name lx p1) X.env) = eval (.Name lx p1) X.env := by rfl) (hb1 : attributeBase (.Name sx p2) "old" X.env (eval (.Name sx p2) X.env) = eval (.Name sx p2) X.env := by rfl) (hb2 : attributeBase (.Name sx p3) "new" X.env (eval (.Name sx p3) X.env) = eval (.Name sx p3) X.env := by rfl)
    (hline : (apos.endLine == cpos.line) = true := by rfl) :
    PE X (.Call (.Attribute (.Name lx p1) "replace" apos) [.Attribute (.Name sx p2) "old" a1, .Attribute (.Name sx p3) "new" a2] [] cpos) (tRepG C il is bEv Txt.replace) := by
  refine ⟨fun pins s σ H Q I h => ?_⟩
  obtain ⟨x, a, dx, fs, b, y, z, t, u, hx, ha, hH, hl, hg, hb, q⟩ := h
  obtain ⟨_, _, _, _, _, _, k1, k2, k3⟩ := id hg
  refine wpAny_Call_method_late hbase rfl hline rfl (raw_name hNl hvl I hx (fun v r => ?_) hdl hcl)
  obtain ⟨tx, e⟩ := r
  subst e
  refine ⟨"str", "str.replace", F.plainAttrs_str, F.slot_str_replace, F.type_str_replace, typeIs_str _ _ _, (fun _ e => nomatch e), Calls.callWith_builtin rfl (Calls.evalArgs_plain (Calls.spliced_cons ?_))⟩
  refine attr_of hb1 (raw_name hNs hvs I ha (fun v r => ?_) hds hcs)
  obtain rfl : v = Value.ref a := r
  refine getprop_gt I hH c ho Go hr hl hg fun s1 I1 => ?_
  show wpAny _ _ (spliced ((false, eval (.Attribute (.Name sx p3) "new" a2) X.env) :: backTo cpos (starEach [] X.env))) _ _ _
  refine Calls.spliced_cons (attr_of hb2 (raw_name hNs hvs I1 ha (fun v r => ?_) hds hcs))
  obtain rfl : v = Value.ref a := r
  refine getprop_gt I1 hH c hn Gn hr hl hg fun s2 I2 => ?_
  refine Calls.spliced_nil ?_
  exact PySem.SC.replaceA (Nat.ne_of_gt k1) (Nat.ne_of_gt k2) k3 hb (fun t' k => ⟨.str (Txt.replace x y z), H, I2.tok k, ⟨t', rfl⟩, q⟩) (hnb _ I2.kIn)
theorem pe_repF {j : Nat} {cp : Pos} (hNl : X.N[il]? = some lx) (hvl : Vis X.env.scope lx) (hNs : X.N[is]? = some sx) (hvs : Vis X.env.scope sx) (c : Cls X.K C) (ho : PropOf X.K C "old" po go) (hn : PropOf X.K C "new" pn gn) (Go : GtV X.prog X.w X.K X.mg X.base k C go false) (Gn : GtV X.prog X.w X.K X.mg X.base k C gn true) (hr : Room (k + 1) X.A) (hnb : ∀ h : Heap, X.K.In h → NoneBooked h)
    (hdl : (lx == ("__debug__" : Str)) = false := by decide) (hcl : (lx == ("__classdict__" : Str)) = false := by decide) (hds : (sx == ("__debug__" : Str)) = false := by decide) (hcs : (sx == ("__classdict__" : Str)) = false := by decide)
    (hbase : attributeBase (.Name lx p1) "replace" X.env (eval (.Name lx p1) X.env) = eval (.Name lx p1) X.env := by rfl) (hb1 : attributeBase (.Name sx p2) "old" X.env (eval (.Name sx p2) X.env) = eval (.Name sx p2) X.env := by rfl) (hb2 : attributeBase (.Name sx p3) "new" X.env (eval (.Name sx p3) X.env) = eval (.Name sx p3) X.env := by rfl)
    (hline : (apos.endLine == cpos.line) = true := by rfl) :
    PE X (.Call (.Attribute (.Name lx p1) "replace" apos) [.Attribute (.Name sx p2) "old" a1, .Attribute (.Name sx p3) "new" a2, .Constant (.int 1) j cp] [] cpos) (tRepG C il is bFi Txt.replace1) := by
  refine ⟨fun pins s σ H Q I h => ?_⟩
  obtain ⟨x, a, dx, fs, b, y, z, t, u, hx, ha, hH, hl, hg, hb, q⟩ := h
  obtain ⟨_, _, _, _, _, _, k1, k2, k3⟩ := id hg
  refine wpAny_Call_method_late hbase rfl hline rfl (raw_name hNl hvl I hx (fun v r => ?_) hdl hcl)
  obtain ⟨tx, e⟩ := r
  subst e
  refine ⟨"str", "str.replace", F.plainAttrs_str, F.slot_str_replace, F.type_str_replace, typeIs_str _ _ _, (fun _ e => nomatch e), Calls.callWith_builtin rfl (Calls.evalArgs_plain (Calls.spliced_cons ?_))⟩
  refine attr_of hb1 (raw_name hNs hvs I ha (fun v r => ?_) hds hcs)
  obtain rfl : v = Value.ref a := r
  refine getprop_gt I hH c ho Go hr hl hg fun s1 I1 => ?_
  show wpAny _ _ (spliced ((false, eval (.Attribute (.Name sx p3) "new" a2) X.env) :: backTo cpos (starEach [.Constant (.int 1) j cp] X.env))) _ _ _
  refine Calls.spliced_cons (attr_of hb2 (raw_name hNs hvs I1 ha (fun v r => ?_) hds hcs))
  obtain rfl : v = Value.ref a := r
  refine getprop_gt I1 hH c hn Gn hr hl hg fun s2 I2 => ?_
  show wpAny _ _ (spliced ((false, eval (.Constant (.int 1) j cp) X.env) :: backTo cpos (starEach [] X.env))) _ _ _
  refine Calls.spliced_cons (wpAny_Constant_int ?_)
  refine Calls.spliced_nil ?_
  have I3 : Inv X pins σ H { s2 with toks := s2.toks + 1 } := I2.tok _
  exact PySem.SC.replace1 (Nat.ne_of_gt k1) (Nat.ne_of_gt k2) k3 hb (fun t' k => ⟨.str (Txt.replace1 x y z), H, I3.tok k, ⟨t', rfl⟩, q⟩) (hnb _ I3.kIn)
end
end Lt
namespace Lt
open PySem L2 Ly
open Ly (GtAt)
open Lx (Le)
section
variable {K : PySem.W.Frag}
@[reducible] def ixSD : D → D → W D
  | .str z, .int i => W.need (z.length ≤ sizeLine) (match atI z.cps.toList i with | some c => W.ret (.str ⟨#[c]⟩) | none => W.stuck)
  | _, _ => W.stuck
theorem lo_ixS : LO2 K rIxS ixSD := fun c w s v u x y Q E o rx ry h => by
  cases ry with
  | int i => cases rx with
    | str z =>
      obtain ⟨h1, h⟩ := h
      split at h
      · rename_i c e
        exact ⟨z, i, c, rfl, rfl, h1, e, h _ (Go.refl ..) o _ (.str _)⟩
      · exact h.elim
    | _ => exact h.elim
  | _ => cases rx <;> exact h.elim
theorem lo_ixS' : LO2 K (rIx K) ixSD := fun c w s v u x y Q E o rx ry h => .inr (.inr (lo_ixS c w s v u x y Q E o rx ry h))
def tLenT (te : TE) : TE := fun σ H Q => te σ H fun v H1 => ∃ y : Str, v = .str y ∧ y.length ≤ sizeLine ∧ Q (.int y.length) H1
@[reducible] def dLenT (f : List Sl → W D) : List Sl → W D := fun δ => (f δ).bind fun d => match d with | .str y => W.need (y.length ≤ sizeLine) (W.ret (.int y.length)) | _ => W.stuck
theorem le_lenT {te : XK → TE} {f : List Sl → W D} (h : LE K te f) : LE K (fun E => tLenT (te E)) (dLenT f) := fun c w s σ δ Q E o sl q =>
  h c w s σ δ _ E o sl (q.bind.mono fun d w1 s1 g1 o1 p v r => by
    cases r with
    | str y => exact ⟨y, rfl, p.1, p.2 _ (Go.refl ..) o1 _ (.int _)⟩
    | _ => exact p.elim)
@[reducible] def dIfNo (fc : List Sl → W Bool) (g : List Sl → W Out) : List Sl → W Out := fun δ => (fc δ).bind fun b => W.need (b = false) (g δ)
theorem ls_ifNo {tc : XK → TT} {fc : List Sl → W Bool} {u : XK → TS} {g : List Sl → W Out} (hc : LT K tc fc) (hg : LS K u g) : LS K (fun E => tIfNo (tc E) (u E)) (dIfNo fc g) := fun c w s σ δ D E o sl q =>
  hc c w s σ δ _ E o sl (q.bind.mono fun b w1 s1 g1 o1 p => ⟨p.1, hg c w1 s1 σ δ D E o1 (sl.go g1) p.2⟩)
theorem gt_le {F H : Hp} {a : Addr} {vs : List V} {y z : Str} {t u : Tok} (e : Le F H) (h : GtAt F a vs y z t u) : GtAt H a vs y z t u := by
  obtain ⟨us, n, o, h, q⟩ := h
  exact ⟨us, n, o, e _ _ h, q⟩
@[reducible] def dGt2 (i j : Nat) : List Sl → W D := fun δ => match δ[i]?, δ[j]? with
  | some (some (.str a)), some (some (.str b)) => W.ret (.gt [] a b)
  | _, _ => W.stuck
theorem le_gt2 {i j : Nat} : LE K (fun _ => tGt2 i j) (dGt2 i j) := fun c w s σ δ Q E o sl q => by
  unfold dGt2 at q
  split at q
  · rename_i a b e1 e2
    obtain ⟨v1, h1, r1⟩ := sl.val i _ e1
    obtain ⟨v2, h2, r2⟩ := sl.val j _ e2
    cases r1
    cases r2
    refine ⟨a, b, h1, h2, fun p ob us n t u hp hd hl k1 k2 k3 => ?_⟩
    obtain ⟨o4, g4⟩ := o.lay (o := .frz ob (.tup ([] ++ [V.str a, V.str b]))) hp (fun _ z => by cases z)
    exact q _ g4 o4 (.ref p) (.gt ⟨us, n, ob, upd_same, hd, hl, k1, k2, k3⟩ .nil)
  · exact q.elim
@[reducible] def dMakeG (cl : Str) (g : List D → W D) (i : Nat) : List Sl → W D := fun δ => match δ[i]? with
  | some (some (.gt [_] y z)) => mkObj cl g [.str y, .str z]
  | _ => W.stuck
theorem le_makeG {cl : Str} {g : List D → W D} {i : Nat} (hC : Cls K (He.ga K cl)) : LE K (fun E => tMkG (He.ga K cl) (Pr K 3 g) E i) (dMakeG cl g i) := fun c w s σ δ Q E o sl q => by
  unfold dMakeG at q
  split at q
  · rename_i d y z e1
    obtain ⟨v1, hv1, r1⟩ := sl.val i _ e1
    cases r1 with
    | @gt a vs _ _ _ t u hg rl =>
      refine ⟨a, vs, y, z, t, u, hv1, gt_le o.fro hg, rl.len, fun x dx hx hdx hne => ?_⟩
      obtain ⟨w2, e2, o2, g2, a2⟩ := made o hC hx hdx hne
      have p3 : (((g (.mu s.st.length :: [.str y, .str z])).bind fun v => W.need (v = .non) ((W.get s.st.length).bind fun o => match o with
        | .ins cl' gs => (W.put s.st.length .gone).bind fun _ => W.ret (D.obj cl' gs)
        | _ => W.stuck))).wp ⟨s.n, s.st ++ [.ins cl []]⟩ _ _ := q
      have p4 := (Den.on (s0 := s) p3 g2).bind
      refine ⟨c, w2, ⟨s.n, s.st ++ [.ins cl []]⟩, .mu s.st.length :: [.str y, .str z], e2, o2, .cons (.mu a2) (.cons (.str y) (.cons (.str z) .nil)), rfl, p4.mono fun d w3 s3 g3 o3 q v rv => ?_⟩
      obtain ⟨q0, q⟩ := q
      subst q0
      cases rv
      refine ⟨rfl, ?_⟩
      have a3 := g3.sub.at a2
      obtain ⟨mo, em, q⟩ := q
      have rm := o3.sto _ _ _ a3 em
      cases mo with
      | ins cl' gs =>
        obtain ⟨hF, dx', vs', h1, h2, h3, h4, h5⟩ := rm
        obtain ⟨o4, g4⟩ := o3.ice a3 hF h1
        exact q _ g4 o4 (.ref x) (.obj upd_same h2 h3 (h4.up g4.sub))
      | _ => exact q.elim
  · exact q.elim
@[reducible] def dRepG (cl : Str) (il is : Nat) (B : Str → Str → Str → Prop) (f : Str → Str → Str → Str) : List Sl → W D := fun δ => match δ[il]?, δ[is]? with
  | some (some (.str x)), some (some (.obj cl' gs)) => W.need (cl' = cl) (match gs.lookup ("own_texts" : Str) with
    | some (.gt [] y z) => W.need (B x y z) (W.ret (.str (f x y z)))
    | _ => W.stuck)
  | _, _ => W.stuck
theorem le_repG {cl : Str} {il is : Nat} {B : Str → Str → Str → Prop} {f : Str → Str → Str → Str} : LE K (fun _ => tRepG (He.ga K cl) il is B f) (dRepG cl il is B f) := fun c w s σ δ Q E o sl q => by
  unfold dRepG at q
  split at q
  · rename_i x cl' gs e1 e2
    obtain ⟨hc, q⟩ := q
    subst hc
    obtain ⟨v1, h1, r1⟩ := sl.val il _ e1
    obtain ⟨v2, h2, r2⟩ := sl.val is _ e2
    cases r1
    cases r2 with
    | @obj a dx _ fs _ hF _ _ rf =>
      split at q
      · rename_i y z el
        obtain ⟨v3, h3, r3⟩ := rf.look el
        cases r3 with
        | @gt b vs _ _ _ t u hg rl =>
          cases rl
          exact ⟨x, a, dx, fs, b, y, z, t, u, h1, h2, o.fro _ _ hF, h3, gt_le o.fro hg, q.1, q.2 _ (Go.refl ..) o _ (.str _)⟩
      · exact q.elim
  · exact q.elim
end
end Lt
namespace Lt
open PySem L2 Ly
theorem fy_nb {K : PySem.W.Frag} (h : (Fy.nb).ok K = true) (b : Heap) (X : K.In b) : NoneBooked b := by
  have h : (match K.lookup cStatics with
    | some ⟨_, _, .dict es _, _⟩ => es.all (fun e => match e.key with | .str _ _ => true | _ => false) && (nsFind es sharingNotToldKey).isNone
    | _ => false) = true := h
  split at h
  · rename_i oc od es ep osl hk
    rw [Bool.and_eq_true] at h
    obtain ⟨h1, h2⟩ := h
    refine ⟨fun n => nsFind es n, ⟨_, es, ep, X _ _ hk, rfl, fun e he => ?_, fun _ => rfl⟩, ?_⟩
    · have hx := Array.all_eq_true_iff_forall_mem.mp h1 e he
      cases hk : e.key <;> rw [hk] at hx <;> first | exact ⟨_, _, rfl⟩ | cases hx
    · simpa using h2
  · cases h
end Lt
namespace PySem
open Sem (wp)
section
variable {prog : Program} {w : World} {A : Around} {E : Value → Shared → Prop} {s : Shared} {z TI TO i1 i2 T : Addr} {f : Bool} {oT : Obj} {fp1 fp2 : List Addr} {n1 n2 i : Nat} {P1 P2 : Nat → Value → Prop} {St1 St2 : Nat → Heap → Prop}
theorem zipD2_item_held {Q : Value → Shared → Prop} (S : ZipSep2 z TI TO i1 i2 fp1 fp2) (D1 : Draws prog w A i1 fp1 n1 P1 St1) (D2 : Draws prog w A i2 fp2 n2 P2 St2)
    (hz : IsZipHeld s.heap z TI TO T f) (hT : s.heap.get? T = some oT) (hTI : IsTupOf2 s.heap TI (.ref i1) (.ref i2)) (st1 : St1 i s.heap) (st2 : St2 i s.heap) (hlt1 : i < n1) (hlt2 : i < n2)
    (hQ : ∀ x1 x2 h' tk, P1 i x1 → P2 i x2 → IsZipHeld h' z TI TO T true → St1 (i + 1) h' → St2 (i + 1) h' → IsTupOf2 h' s.heap.objs.size x1 x2 → h'.objs.size = s.heap.objs.size + 1 →
      (∀ c o, c ≠ z → c ≠ i1 → c ≠ i2 → s.heap.get? c = some o → h'.get? c = some o) → Q (.ref s.heap.objs.size) { s with heap := h', toks := tk }) :
    wpAny (model prog w) A (Builtin.«zip.__next__» ⟨[.ref z], []⟩) (fun fin s' => ∃ v, fin = .done (.ret v) ∧ Q v s') E s := by
  obtain ⟨hp, g, d, tk0, os⟩ := s
  show wpAny _ _ (field (.ref z) 2 >>= _) _ _ _
  refine wpAny_bind (wpAny_field hz rfl (x := .bool false) rfl ?_)
  show wpAny _ _ (field (.ref z) 3 >>= _) _ _ _
  refine wpAny_bind (wpAny_field hz rfl (x := .ref TI) rfl ?_)
  refine wpAny_bind (wpAny_seqItems hTI rfl ?_)
  show wpAny _ _ (Builtin.SmallTypes.ownedTupleIsFree (.ref z) >>= _) _ _ _
  refine wpAny_bind (wpAny_tupleHeld_zip hz hT fun h₁ hz₁ hs₁ => ?_)
  replace hs₁ : Heap.SameBut z hp h₁ := hs₁
  simp only [Bool.false_eq_true, if_false]
  refine wpAny_bind ?_
  rw [← Array.forIn_toList]
  simp only [List.forIn_cons, List.forIn_nil]
  refine wpAny_bind (wpAny_bind (wpAny_holding ?_))
  show wpAny _ _ (Builtin.SmallTypes.nextOf (.ref i1) >>= _) _ _ ⟨h₁, g, d, tk0, os⟩
  refine wpAny_bind (D1.item i _ _ _ hlt1 (D1.over st1 hs₁ S.zf1) fun x1 h₂ tk1 hx1 sn1 hs₂ => wpAny_pure ?_)
  replace hs₂ : Heap.SameBut i1 h₁ h₂ := hs₂
  refine wpAny_pure ?_
  refine wpAny_bind (wpAny_bind (wpAny_holding ?_))
  show wpAny _ _ (Builtin.SmallTypes.nextOf (.ref i2) >>= _) _ _ ⟨h₂, g, d, tk1, os⟩
  refine wpAny_bind (D2.item i _ _ _ hlt2 (D2.over (D2.over st2 hs₁ S.zf2) hs₂ S.sep1_2) fun x2 h₃ tk2 hx2 sn2 hs₃ => wpAny_pure ?_)
  replace hs₃ : Heap.SameBut i2 h₂ h₃ := hs₃
  refine wpAny_pure (wpAny_pure ?_)
  show wpAny _ _ (newTuple [x1, x2] >>= _) _ _ _
  refine wpAny_bind (wpAny_newTuple ?_)
  have hsz : h₃.objs.size = hp.objs.size := by rw [hs₃.1, hs₂.1, hs₁.1]
  have hz₃ : IsZipHeld h₃ z TI TO T true := hs₃.extBut _ _ S.zi2 (hs₂.extBut _ _ S.zi1 hz₁)
  have hk : ∀ c o, c ≠ z → c ≠ i1 → c ≠ i2 → hp.get? c = some o → h₃.get? c = some o := fun c o c1 c2 c3 e => hs₃.extBut _ _ c3 (hs₂.extBut _ _ c2 (hs₁.extBut _ _ c1 e))
  have hj1 : St1 (i + 1) h₃ := D1.over sn1 hs₃ S.sep2_1
  refine wpAny_pure ⟨_, rfl, ?_⟩
  show Q (.ref h₃.objs.size) _
  have hp' : IsTupOf2 (h₃.push { cls := .type "tuple", data := .seq #[x1, x2] }) h₃.objs.size x1 x2 := Heap.get?_push_size _ rfl
  have hz4 : (h₃.push { cls := .type "tuple", data := .seq #[x1, x2] }).objs.size = h₃.objs.size + 1 := Heap.size_push ..
  rw [hsz] at hp' hz4 ⊢
  exact hQ x1 x2 _ tk2 hx1 hx2 (Heap.get?_push_of_some _ hz₃) (D1.frame _ _ _ hj1 fun b _ o e => Heap.get?_push_of_some _ e) (D2.frame _ _ _ sn2 fun b _ o e => Heap.get?_push_of_some _ e) hp' hz4 fun c o c1 c2 c3 e => Heap.get?_push_of_some _ (hk c o c1 c2 c3 e)
theorem zipD2_end_held {Q : Fin → Shared → Prop} (S : ZipSep2 z TI TO i1 i2 fp1 fp2) (D1 : Draws prog w A i1 fp1 n1 P1 St1) (D2 : Draws prog w A i2 fp2 n2 P2 St2)
    (hz : IsZipHeld s.heap z TI TO T f) (hT : s.heap.get? T = some oT) (hTI : IsTupOf2 s.heap TI (.ref i1) (.ref i2)) (st1 : St1 i s.heap) (st2 : St2 i s.heap) (hle1 : i ≤ n1) (hle2 : i ≤ n2) (hend : i = n1 ∨ i = n2)
    (hE : ∀ h' tk e, (∀ c o, c ≠ z → c ≠ i1 → c ≠ i2 → s.heap.get? c = some o → h'.get? c = some o) → (∃ o, h'.get? e = some o ∧ o.cls = .type "StopIteration") → E (.ref e) { s with heap := h', toks := tk }) :
    wpAny (model prog w) A (Builtin.«zip.__next__» ⟨[.ref z], []⟩) Q E s := by
  obtain ⟨hp, g, d, tk0, os⟩ := s
  show wpAny _ _ (field (.ref z) 2 >>= _) _ _ _
  refine wpAny_bind (wpAny_field hz rfl (x := .bool false) rfl ?_)
  show wpAny _ _ (field (.ref z) 3 >>= _) _ _ _
  refine wpAny_bind (wpAny_field hz rfl (x := .ref TI) rfl ?_)
  refine wpAny_bind (wpAny_seqItems hTI rfl ?_)
  show wpAny _ _ (Builtin.SmallTypes.ownedTupleIsFree (.ref z) >>= _) _ _ _
  refine wpAny_bind (wpAny_tupleHeld_zip hz hT fun h₁ hz₁ hs₁ => ?_)
  replace hs₁ : Heap.SameBut z hp h₁ := hs₁
  simp only [Bool.false_eq_true, if_false]
  refine wpAny_bind ?_
  rw [← Array.forIn_toList]
  simp only [List.forIn_cons, List.forIn_nil]
  refine wpAny_bind (wpAny_bind (wpAny_holding ?_))
  show wpAny _ _ (Builtin.SmallTypes.nextOf (.ref i1) >>= _) _ _ ⟨h₁, g, d, tk0, os⟩
  by_cases hlt1 : i < n1
  · refine wpAny_bind (D1.item i _ _ _ hlt1 (D1.over st1 hs₁ S.zf1) fun x1 h₂ tk1 hx1 sn1 hs₂ => wpAny_pure ?_)
    replace hs₂ : Heap.SameBut i1 h₁ h₂ := hs₂
    refine wpAny_pure ?_
    have hi2 : i = n2 := by omega
    refine wpAny_bind (wpAny_bind (wpAny_holding ?_))
    show wpAny _ _ (Builtin.SmallTypes.nextOf (.ref i2) >>= _) _ _ ⟨h₂, g, d, tk1, os⟩
    refine wpAny_bind (D2.done ⟨h₂, g, d, tk1, os⟩ _ _ (by rw [← hi2]; exact D2.over (D2.over st2 hs₁ S.zf2) hs₂ S.sep1_2) fun q e hq he => ?_)
    replace hq : Heap.ExtBut i2 h₂ q := hq
    exact hE q tk1 e (fun c o c1 c2 c3 x => hq _ _ c3 (hs₂.extBut _ _ c2 (hs₁.extBut _ _ c1 x))) he
  · have hi1 : i = n1 := by omega
    refine wpAny_bind (D1.done ⟨h₁, g, d, tk0, os⟩ _ _ (by rw [← hi1]; exact D1.over st1 hs₁ S.zf1) fun q e hq he => ?_)
    replace hq : Heap.ExtBut i1 h₁ q := hq
    exact hE q tk0 e (fun c o c1 c2 _ x => hq _ _ c2 (hs₁.extBut _ _ c1 x)) he
theorem pyNext_zipD2_item_held {Q : Option Value → Shared → Prop} (S : ZipSep2 z TI TO i1 i2 fp1 fp2) (D1 : Draws prog w A.in1 i1 fp1 n1 P1 St1) (D2 : Draws prog w A.in1 i2 fp2 n2 P2 St2)
    (hz : IsZipHeld s.heap z TI TO T f) (hT : s.heap.get? T = some oT) (hTI : IsTupOf2 s.heap TI (.ref i1) (.ref i2)) (st1 : St1 i s.heap) (st2 : St2 i s.heap) (hlt1 : i < n1) (hlt2 : i < n2)
    (hQ : ∀ x1 x2 h' tk, P1 i x1 → P2 i x2 → IsZipHeld h' z TI TO T true → St1 (i + 1) h' → St2 (i + 1) h' → IsTupOf2 h' s.heap.objs.size x1 x2 → h'.objs.size = s.heap.objs.size + 1 →
      (∀ c o, c ≠ z → c ≠ i1 → c ≠ i2 → s.heap.get? c = some o → h'.get? c = some o) → Q (some (.ref s.heap.objs.size)) { s with heap := h', toks := tk }) :
    wpAny (model prog w) A (pyNext (.ref z)) Q E s := by
  have hTy : s.TypeIs (.ref z) "zip" := ⟨_, hz, rfl⟩
  unfold pyNext
  exact wpAny_bind (wpAny_attempt (wpAny_callSpecial?_slot (name := Str.ofString "__next__") hTy F.slot_zip_next
    (wpAny_call_entry F.slot_zip_next hTy F.entry_zip_next
      (zipD2_item_held S D1 D2 hz hT hTI st1 st2 hlt1 hlt2 fun x1 x2 h' tk y1 y2 b1 d1 d2 b5 b6 b7 => wpAny_pure (hQ x1 x2 h' tk y1 y2 b1 d1 d2 b5 b6 b7)) (F.args_zip_next_1 _))))
theorem pyNext_zipD2_end_held {Q : Option Value → Shared → Prop} (S : ZipSep2 z TI TO i1 i2 fp1 fp2) (D1 : Draws prog w A.in1 i1 fp1 n1 P1 St1) (D2 : Draws prog w A.in1 i2 fp2 n2 P2 St2)
    (hz : IsZipHeld s.heap z TI TO T f) (hT : s.heap.get? T = some oT) (hTI : IsTupOf2 s.heap TI (.ref i1) (.ref i2)) (st1 : St1 i s.heap) (st2 : St2 i s.heap) (hle1 : i ≤ n1) (hle2 : i ≤ n2) (hend : i = n1 ∨ i = n2)
    (hQ : ∀ h' tk, (∀ c o, c ≠ z → c ≠ i1 → c ≠ i2 → s.heap.get? c = some o → h'.get? c = some o) → Q none { s with heap := h', toks := tk }) : wpAny (model prog w) A (pyNext (.ref z)) Q E s := by
  have hTy : s.TypeIs (.ref z) "zip" := ⟨_, hz, rfl⟩
  unfold pyNext
  refine wpAny_bind (wpAny_attempt (wpAny_callSpecial?_slot (name := Str.ofString "__next__") hTy F.slot_zip_next
    (wpAny_call_entry F.slot_zip_next hTy F.entry_zip_next (zipD2_end_held S D1 D2 hz hT hTI st1 st2 hle1 hle2 hend fun h' tk e hk he => ?_) (F.args_zip_next_1 _))))
  obtain ⟨o, ho, hc⟩ := he
  refine wpAny_bind (wpAny_isInstance (T := "StopIteration") (b := true) ⟨o, ho, hc⟩ isSubtype_stop ?_)
  exact wpAny_pure (hQ _ _ hk)
end
theorem strIt_at {h h' : Heap} {it : Addr} {T : String} {a : Str} {t : Tok} {i : Nat} (x : h.IsStrIter it T a t i) (e : ∀ o, h.get? it = some o → h'.get? it = some o) : h'.IsStrIter it T a t i := let ⟨o, ho, r⟩ := x; ⟨o, e o ho, r⟩
abbrev TxI (x : Str) (i : Nat) (v : Value) : Prop := ∃ c u, x.cps[i]? = some c ∧ v = .str ⟨#[c]⟩ u
theorem PairArg.zipT {prog : Program} {w : World} (z TI TO i1 i2 : Addr) (S : ZipSep2 z TI TO i1 i2 [i1] [i2]) (x y : Str) (tx ty : Tok) :
    PairArg prog w "zip" z [z, TI, TO, i1, i2] [z, TO, i1, i2] (min x.cps.size y.cps.size) (fun i k v => TxI x i k ∧ TxI y i v)
      (fun h => IsZip h z TI TO .none ∧ IsTupOf2 h TI (.ref i1) (.ref i2) ∧ (∃ a b, IsTupOf2 h TO a b) ∧ h.IsStrIter i1 (strIterType x) x tx 0 ∧ h.IsStrIter i2 (strIterType y) y ty 0) where
  type := fun s ok => ⟨_, ok.1, rfl⟩
  notDict := by decide
  keep := fun h h' ok hk => by
    obtain ⟨hz, hTI, ⟨a, b, hTO⟩, h1, h2⟩ := ok
    exact ⟨hk _ _ hz, hk _ _ hTI, ⟨a, b, hk _ _ hTO⟩, strIt_at h1 fun o e => hk _ o e, strIt_at h2 fun o e => hk _ o e⟩
  there := fun h ok b hb => by
    obtain ⟨hz, hTI, ⟨a, c, hTO⟩, ⟨o1, h1, _⟩, ⟨o2, h2, _⟩⟩ := ok
    simp only [List.mem_cons, List.not_mem_nil, or_false] at hb
    rcases hb with rfl | rfl | rfl | rfl | rfl
    all_goals first | exact ⟨_, hz⟩ | exact ⟨_, hTI⟩ | exact ⟨_, hTO⟩ | exact ⟨_, h1⟩ | exact ⟨_, h2⟩
  sub := fun b hb => by simp at hb ⊢; rcases hb with rfl | rfl | rfl | rfl <;> simp
  noKeys := fun A s Q E hA ok h => getAttrOr_miss_zip ok.1 rfl rfl rfl zip_no_keys (by decide +kernel) hA h
  iter := fun A s d Q E hA ok hd hdf h => by
    obtain ⟨hz, hTI, ⟨a, b, hTO⟩, h1, h2⟩ := ok
    simp only [List.mem_cons, List.not_mem_nil, or_false, not_or] at hdf
    obtain ⟨dz, dTI, dTO, di1, di2⟩ := hdf
    have hA1 : A.in1.handled = none := hA
    have D1 := Draws.text (prog := prog) (w := w) (A := A.in1) hA1 i1 x tx
    have D2 := Draws.text (prog := prog) (w := w) (A := A.in1) hA1 i2 y ty
    refine wpAny_pyIter_zip hz (h z [z, TO, i1, i2] (fun i h => IsTupOf2 h TI (.ref i1) (.ref i2) ∧ h.IsStrIter i1 (strIterType x) x tx i ∧ h.IsStrIter i2 (strIterType y) y ty i ∧
      ((IsZip h z TI TO .none ∧ ∃ a b, IsTupOf2 h TO a b) ∨ ∃ T f oT, IsZipHeld h z TI TO T f ∧ h.get? T = some oT ∧ T ≠ z ∧ T ≠ i1 ∧ T ≠ i2 ∧ T ≠ d)) s.heap s.toks ?_
      ⟨hTI, h1, h2, .inl ⟨hz, a, b, hTO⟩⟩ (fun _ _ e => e) fun b hb => .inl hb)
    exact {
      off := fun hm => by
        simp only [List.mem_cons, List.not_mem_nil, or_false] at hm
        rcases hm with e | e | e | e
        · exact dz e
        · exact dTO e
        · exact di1 e
        · exact di2 e
      frame := fun i h₁ h₂ st hk => by
        obtain ⟨hTI, h1, h2, hz⟩ := st
        refine ⟨hk _ _ (Ne.symm dTI) hTI, strIt_at h1 fun o e => hk _ o (Ne.symm di1) e, strIt_at h2 fun o e => hk _ o (Ne.symm di2) e, ?_⟩
        rcases hz with ⟨hz, a, b, hTO⟩ | ⟨T, f, oT, hz, hT, r1, r2, r3, r4⟩
        · exact .inl ⟨hk _ _ (Ne.symm dz) hz, a, b, hk _ _ (Ne.symm dTO) hTO⟩
        · exact .inr ⟨T, f, oT, hk _ _ (Ne.symm dz) hz, hk _ _ r4 hT, r1, r2, r3, r4⟩
      item := fun i s₁ Q₁ E₁ hi st hds hQ => by
        obtain ⟨hTI, h1, h2, hz⟩ := st
        have hix : i < x.cps.size := Nat.lt_of_lt_of_le hi (Nat.min_le_left ..)
        have hiy : i < y.cps.size := Nat.lt_of_lt_of_le hi (Nat.min_le_right ..)
        have lt : ∀ {c o}, s₁.heap.get? c = some o → s₁.heap.objs.size ≠ c := fun e => Nat.ne_of_gt (Heap.lt_size e)
        have n1 : s₁.heap.objs.size ≠ i1 := let ⟨_, e, _⟩ := h1; lt e
        have n2 : s₁.heap.objs.size ≠ i2 := let ⟨_, e, _⟩ := h2; lt e
        rcases hz with ⟨hz, a, b, hTO⟩ | ⟨T, f, oT, hz, hT, r1, r2, r3, r4⟩
        · refine wpAny_pyNext_zipD2_item S D1 D2 hz hTI hTO h1 h2 hix hiy fun x1 x2 h' tk y1 y2 a1 a2 a3 a4 a5 a6 hk => ?_
          exact hQ s₁.heap.objs.size _ _ h' tk ⟨y1, y2⟩ (.inl ⟨_, a5, rfl, _, rfl⟩)
            ⟨hk _ _ S.TIz S.TITO S.TIi1 S.TIi2 hTI, a3, a4, .inr ⟨s₁.heap.objs.size, false, _, a1, a5, lt hz, n1, n2, Nat.ne_of_gt hds⟩⟩
            fun c o hc e => hk c o (fun x => hc (by simp [x])) (fun x => hc (by simp [x])) (fun x => hc (by simp [x])) (fun x => hc (by simp [x])) e
        · refine pyNext_zipD2_item_held S D1 D2 hz hT hTI h1 h2 hix hiy fun x1 x2 h' tk y1 y2 a1 a3 a4 a5 a6 hk => ?_
          exact hQ s₁.heap.objs.size _ _ h' tk ⟨y1, y2⟩ (.inl ⟨_, a5, rfl, _, rfl⟩)
            ⟨hk _ _ S.TIz S.TIi1 S.TIi2 hTI, a3, a4, .inr ⟨T, true, oT, a1, hk _ _ r1 r2 r3 hT, r1, r2, r3, r4⟩⟩
            fun c o hc e => hk c o (fun x => hc (by simp [x])) (fun x => hc (by simp [x])) (fun x => hc (by simp [x])) e
      done := fun s₁ Q₁ E₁ st hQ => by
        obtain ⟨hTI, h1, h2, hz⟩ := st
        have l1 : min x.cps.size y.cps.size ≤ x.cps.size := Nat.min_le_left ..
        have l2 : min x.cps.size y.cps.size ≤ y.cps.size := Nat.min_le_right ..
        have l3 : min x.cps.size y.cps.size = x.cps.size ∨ min x.cps.size y.cps.size = y.cps.size := by omega
        rcases hz with ⟨hz, a, b, hTO⟩ | ⟨T, f, oT, hz, hT, r1, r2, r3, r4⟩
        · exact wpAny_pyNext_zipD2_end S D1 D2 hz hTI hTO h1 h2 l1 l2 l3 fun h' tk hk => hQ h' tk fun c o hc e => hk c o (fun x => hc (by simp [x])) (fun x => hc (by simp [x])) (fun x => hc (by simp [x])) (fun x => hc (by simp [x])) e
        · exact pyNext_zipD2_end_held S D1 D2 hz hT hTI h1 h2 l1 l2 l3 fun h' tk hk => hQ h' tk fun c o hc e => hk c o (fun x => hc (by simp [x])) (fun x => hc (by simp [x])) (fun x => hc (by simp [x])) e }
end PySem
namespace Lt
open PySem PySem.Spec L2 PyProof.Rows
def mZ (ps : List (Nat × Nat)) : List (Key × V) := ps.foldl (fun acc p => putK acc (.inr ⟨#[p.1]⟩) (.str ⟨#[p.2]⟩)) []
theorem mZ_len (ps : List (Nat × Nat)) : ∀ acc : List (Key × V), (ps.foldl (fun acc p => putK acc (.inr ⟨#[p.1]⟩) (.str ⟨#[p.2]⟩)) acc).length ≤ acc.length + ps.length := by
  induction ps with
  | nil => intro acc; exact Nat.le_refl _
  | cons p r ih =>
    intro acc
    have h1 := ih (putK acc (.inr ⟨#[p.1]⟩) (.str ⟨#[p.2]⟩))
    have h2 := length_putK acc (.inr ⟨#[p.1]⟩ : Key) (.str ⟨#[p.2]⟩)
    simp only [List.foldl_cons, List.length_cons]
    omega
def tDZ (t : TA) : TE := fun σ H Q => t σ H fun vs H2 => ∃ a b : Str, vs = [.str a, .str b] ∧ a.length ≤ sizeLine ∧ ∀ d, H2 d = none → Q (.ref d) (upd H2 d (.dK (mZ (a.cps.toList.zip b.cps.toList))))
section
variable {X : Cx} {e1 e2 : Expr} {t : TA} {p p2 zpos pos : Pos}
theorem pe_dictzip (hc : X.calm = true) (hgd : Gl X "dict") (hmd : X.mg "dict" = none) (hbd : bootBuiltins "dict" = some (.type "dict")) (hgz : Gl X "zip") (hmz : X.mg "zip" = none) (hbz : bootBuiltins "zip" = some (.type "zip")) (ha : PA X [e1, e2] t)
    (hpl : (backTo zpos (starEach [e2] X.env)).any (·.1) = false := by rfl)
    (hs1 : starEach [e1, e2] X.env = (false, eval e1 X.env) :: starEach [e2] X.env := by rfl):
    PE X (.Call (.Name "dict" p) [.Call (.Name "zip" p2) [e1, e2] [] zpos] [] pos) (tDZ t) := by
  refine ⟨fun pins s σ H Q I h => ?_⟩
  refine Call_ (ld_blt I hgd hmd hbd (PyProof.Rows.callWith_type1 ?_ rfl rfl))
  show wpAny _ _ (spliced ((false, eval (.Call (.Name "zip" p2) [e1, e2] [] zpos) X.env) :: backTo pos (starEach [] X.env))) _ _ s
  refine Calls.spliced_cons (Call_ (ld_blt I hgz hmz hbz (PyProof.Rows.callWith_type1 ?_ hs1 hpl)))
  refine thn (ha.run zpos pins s σ H _ I h) fun us s1 ⟨vs, H1, I1, r, a, b, ev, ha, q⟩ => ?_
  subst ev
  obtain ⟨u1, u2, eu, ⟨t, r1⟩, ⟨u, r2⟩⟩ := vals2 r
  subst eu r1 r2
  refine zip_begins2 (begins_text a t) (begins_text b u) trivial trivial fun h' hz hTI hTO g1 g2 hsz hk => ?_
  refine Calls.spliced_nil ?_
  have I2 : Inv X pins σ H1 { s1 with heap := h' } := I1.kept (t' := s1.toks) hk
  have ne : ∀ {m n : Nat}, m ≠ n → s1.heap.objs.size + m ≠ s1.heap.objs.size + n := fun h e => h (by omega)
  have S : ZipSep2 (s1.heap.objs.size + 4) (s1.heap.objs.size + 2) (s1.heap.objs.size + 3) s1.heap.objs.size (s1.heap.objs.size + 1) [s1.heap.objs.size] [s1.heap.objs.size + 1] := by
    refine ⟨?_, ?_, ?_, ?_, ?_, ?_, ?_, ?_, ?_, ?_, ?_, ?_, ?_⟩ <;> simp <;> omega
  have P := PairArg.zipT (prog := X.prog) (w := X.w) (s1.heap.objs.size + 4) (s1.heap.objs.size + 2) (s1.heap.objs.size + 3) s1.heap.objs.size (s1.heap.objs.size + 1) S a b t u
  have ok : IsZip h' (s1.heap.objs.size + 4) (s1.heap.objs.size + 2) (s1.heap.objs.size + 3) .none ∧ IsTupOf2 h' (s1.heap.objs.size + 2) (.ref s1.heap.objs.size) (.ref (s1.heap.objs.size + 1)) ∧ (∃ a b, IsTupOf2 h' (s1.heap.objs.size + 3) a b) ∧
      h'.IsStrIter s1.heap.objs.size (strIterType a) a t 0 ∧ h'.IsStrIter (s1.heap.objs.size + 1) (strIterType b) b u 0 := ⟨hz, hTI, ⟨_, _, hTO⟩, ⟨_, g1, rfl, rfl⟩, ⟨_, g2, rfl, rfl⟩⟩
  have hh : X.A.handled = none := I1.ok.hd hc
  have la : a.cps.toList.length = a.length := by simp [Str.length]
  refine call_dict_arg (s := { s1 with heap := h' }) P ok fun s2 es hdf ok2 => ?_
  subst es
  let kv : Nat → List (Key × V) := fun i => mZ ((a.cps.toList.zip b.cps.toList).take i)
  have kvl : ∀ i, (kv i).length ≤ i := fun i => by
    have := mZ_len ((a.cps.toList.zip b.cps.toList).take i) []
    rw [List.length_take] at this
    simp only [List.length_nil, Nat.zero_add] at this
    exact Nat.le_trans this (Nat.min_le_left ..)
  have hsx : ∀ x : Addr, h'.objs.size ≤ x → (x == sysModules) = false := fun x hx => beq_eq_false_iff_ne.mpr (Nat.ne_of_gt (Nat.lt_of_lt_of_le I2.big hx))
  refine updateFrom_arg (A := X.A.in1) (Tab := fun i h => ∃ vs, h.DictOf (mixKind X.prog X.w) h'.objs.size vs ∧ KV (kv i) vs) P .none hh ok2 hdf ⟨[], Heap.DictOf.new h', .nil⟩ (fun i h ⟨vs, tb, _⟩ => tb.lt_size) (fun i h h2 wr' hd _ ⟨vs, tb, kr⟩ hk => ⟨vs, tb.at' fun o e => hk _ o hd e, kr⟩) ?_ ?_
  · intro i k v s' Q' E' hi hrel ⟨vs, tb, kr⟩ _ hQ
    obtain ⟨⟨c, tc, hc1, rfl⟩, ⟨d, td, hd1, rfl⟩⟩ := hrel
    have hzi : (a.cps.toList.zip b.cps.toList)[i]? = some (c, d) := by
      rw [List.getElem?_zip_eq_some]
      exact ⟨by simpa using hc1, by simpa using hd1⟩
    have hlt : i < a.length := by
      have := (Array.getElem?_eq_some_iff.mp hc1).1
      exact this
    have e1 : kv (i + 1) = putK (kv i) (.inr ⟨#[c]⟩) (.str ⟨#[d]⟩) := by
      show mZ _ = putK (mZ _) _ _
      unfold mZ
      rw [List.take_add_one, hzi, List.foldl_append]
      rfl
    have hz2 : vs.length ≤ sizeLine := by
      rw [← kr.length]
      have := kvl i
      omega
    refine wpAny_dictSet_pairs (knd := mixKind X.prog X.w) (k := (.inr ⟨#[c]⟩ : Key)) (hsz := hz2) (mixKind_str X.prog X.w _ tc) tb fun h2 hm' hs => ?_
    exact hQ h2 _ ⟨_, hm', by rw [e1]; exact kr.put _ ⟨td, rfl⟩⟩ hs
  · intro h2 tk ⟨vs, tb, kr⟩ hk2
    refine ⟨rfl, .ref h'.objs.size, upd H1 h'.objs.size (.dK (mZ (a.cps.toList.zip b.cps.toList))), ?_, rfl, q _ (I2.hok.fresh (Nat.le_refl _))⟩
    have e2 : kv (min a.cps.size b.cps.size) = mZ (a.cps.toList.zip b.cps.toList) := by
      show mZ _ = mZ _
      rw [List.take_of_length_le]
      simp
    have e2' : KV (mZ (a.cps.toList.zip b.cps.toList)) vs := by rw [← e2]; exact kr
    have hlz : (mZ (a.cps.toList.zip b.cps.toList)).length ≤ sizeLine := by
      have h3 : (mZ (a.cps.toList.zip b.cps.toList)).length ≤ ([] : List (Key × V)).length + (a.cps.toList.zip b.cps.toList).length := mZ_len (a.cps.toList.zip b.cps.toList) []
      rw [List.length_zip, la] at h3
      simp only [List.length_nil, Nat.zero_add] at h3
      exact Nat.le_trans (Nat.le_trans h3 (Nat.min_le_left ..)) ha
    have big : s1.heap.objs.size ≤ h'.objs.size := by rw [hsz]; omega
    have keep2 : ∀ b o, s1.heap.get? b = some o → h2.get? b = some o := fun b o e => by
      have hb := Heap.lt_size e
      refine hk2 b o ?_ ?_ (Heap.get?_push_of_some _ (hk b o e))
      · exact Nat.ne_of_lt (Nat.lt_of_lt_of_le hb big)
      · simp only [List.mem_cons, List.not_mem_nil, or_false, not_or]
        have n0 : ∀ m : Nat, ¬ (s1.heap.objs.size + m < s1.heap.objs.size) := fun m => by omega
        exact ⟨fun e => n0 4 (e ▸ hb), fun e => n0 3 (e ▸ hb), fun e => n0 0 (e ▸ hb), fun e => n0 1 (e ▸ hb)⟩
    exact I1.laid (a := h'.objs.size) (o := .dK (mZ (a.cps.toList.zip b.cps.toList))) (t' := tk) keep2 big ⟨hlz, hsx _ (Nat.le_refl _), vs, e2', tb⟩
end
end Lt
namespace Lt
open PySem PySem.Spec L2 PyProof.Rows He Ly
open Lx (Le)
section
variable {K : PySem.W.Frag}
def mZD (ps : List (Nat × Nat)) : List (Key × D) := ps.foldl (fun acc p => putKD acc (.inr ⟨#[p.1]⟩) (.str ⟨#[p.2]⟩)) []
theorem mZ_rep {c : Cg} {al : List Addr} {F : Hp} (ps : List (Nat × Nat)) : ∀ {vs : List (Key × V)} {ds : List (Key × D)}, RepK K c al F vs ds →
    RepK K c al F (ps.foldl (fun acc p => putK acc (.inr ⟨#[p.1]⟩) (.str ⟨#[p.2]⟩)) vs) (ps.foldl (fun acc p => putKD acc (.inr ⟨#[p.1]⟩) (.str ⟨#[p.2]⟩)) ds) := by
  induction ps with
  | nil => intro vs ds r; exact r
  | cons p q ih => intro vs ds r; exact ih (r.put (.str _))
@[reducible] def dDZ (f : List Sl → W (List D)) : List Sl → W D := fun δ => (f δ).bind fun ds => match ds with
  | [.str a, .str b] => W.need (a.length ≤ sizeLine) (W.ret (.dct (mZD (a.cps.toList.zip b.cps.toList))))
  | _ => W.stuck
theorem le_dz {t : XK → TA} {f : List Sl → W (List D)} (ha : LA K t f) : LE K (fun E => tDZ (t E)) (dDZ f) := fun c w s σ δ Q E o sl h =>
  ha c w s σ δ _ E o sl (h.bind.mono fun ds w1 s1 g1 o1 p vs r => by
    split at p
    · rename_i a b
      obtain ⟨v1, v2, rfl, r1, r2⟩ := r.two
      cases r1
      cases r2
      refine ⟨a, b, rfl, p.1, fun d hd => ?_⟩
      obtain ⟨o2, g2⟩ := o1.lay (o := .dK (mZ (a.cps.toList.zip b.cps.toList))) hd (fun _ z => by cases z)
      exact p.2 _ g2 o2 (.ref d) (.dct upd_same (mZ_rep _ .nil))
    · exact p.elim)
theorem valV_none {c : Cg} {al : List Addr} {F : Hp} {k : Key} : ∀ {vs : List (Key × V)} {ds : List (Key × D)}, RepK K c al F vs ds → valG ds k = none → valV vs k = none
  | _, _, .nil, _ => rfl
  | _, _, .cons (x := x) (vs := vs) (d := d0) (ds := ds) h r, e => by
    by_cases hx : x = k
    · have e2 : valG ((x, d0) :: ds) k = some d0 := by simp [valG, List.find?_cons, hx]
      rw [e2] at e; cases e
    · have e2 : ∀ z, valG ((x, z) :: ds) k = valG ds k := fun z => by simp [valG, List.find?_cons, hx]
      rw [e2] at e
      have e3 : ∀ z, valV ((x, z) :: vs) k = valV vs k := fun z => by simp [valV, List.find?_cons, hx]
      rw [e3]; exact valV_none r e
@[reducible] def dDGet2 (fa fb fc : List Sl → W D) : List Sl → W D := fun δ => (fa δ).bind fun x => match x with
  | .dct kvs => (fb δ).bind fun y => (fc δ).bind fun z => match keyD y with | some k => W.ret ((valG kvs k).getD z) | none => W.stuck
  | _ => W.stuck
theorem le_dget2 {ta tb tc : XK → TE} {fa fb fc : List Sl → W D} (ha : LE K ta fa) (hb : LE K tb fb) (hc : LE K tc fc) : LE K (fun E => tDGet2 (ta E) (tb E) (tc E)) (dDGet2 fa fb fc) := fun c w s σ δ Q E o sl h =>
  ha c w s σ δ _ E o sl (h.bind.mono fun x w1 s1 g1 o1 p v r1 => by
    cases r1 with
    | @dct a kws kvs hF rk =>
      refine ⟨a, rfl, .inl ⟨kws, .of (o1.fro _ _ hF)⟩, ?_⟩
      have p := (show Den K c ((fb δ).bind fun y => (fc δ).bind fun z => match keyD y with | some k => W.ret ((valG kvs k).getD z) | none => W.stuck) w1 s1 _ _ from p)
      refine hb c w1 s1 σ δ _ E o1 (sl.go g1) (p.bind.mono fun y w2 s2 g2 o2 p2 u r2 => hc c w2 s2 σ δ _ E o2 ((sl.go g1).go g2) (p2.bind.mono fun z w3 s3 g3 o3 p3 v3 r3 => ?_))
      split at p3
      · rename_i k ek
        have ev := key_of r2 ek
        subst ev
        have hH : w3.H a = some (.dK kws) := o3.fro _ _ (g3.sub.le _ _ (g2.sub.le _ _ hF))
        refine ⟨valV kws k, DGet.k hH, ?_⟩
        have rk3 := (rk.up g2.sub).up g3.sub
        cases e : valG kvs k with
        | none =>
          rw [e] at p3
          rw [valV_none rk3 e]
          exact p3.ret o3 _ r3
        | some d =>
          rw [e] at p3
          obtain ⟨v4, h4, r4⟩ := rk3.val e
          rw [h4]
          exact p3.ret o3 _ r4
      · exact p3.elim
    | _ => exact p.elim)
@[reducible] def findD : Str → List D → W D := fun z xs => match xs with | [.str y] => W.ret (.int (Txt.find z y)) | _ => W.stuck
theorem lo_find : LOm K (fun x xs H Q => ∃ a b, x = .str a ∧ xs = [.str b] ∧ Q (.int (Txt.find a b)) H) findD := fun c w s z vs xs Q E o r h => by
  unfold findD at h
  split at h
  · obtain ⟨v, rfl, rv⟩ := r.one
    cases rv
    exact ⟨z, _, rfl, rfl, h _ (Go.refl ..) o _ (.int _)⟩
  · exact h.elim
@[reducible] def find3D : Str → List D → W D := fun z xs => match xs with | [.str y, .int i] => W.ret (.int (Txt.find3 z y i)) | _ => W.stuck
theorem lo_find3 : LOm K (fun x xs H Q => ∃ (a b : Str) (i : Int), x = .str a ∧ xs = [.str b, .int i] ∧ Q (.int (Txt.find3 a b i)) H) find3D := fun c w s z vs xs Q E o r h => by
  unfold find3D at h
  split at h
  · obtain ⟨v1, v2, rfl, r1, r2⟩ := r.two
    cases r1
    cases r2
    exact ⟨z, _, _, rfl, rfl, h _ (Go.refl ..) o _ (.int _)⟩
  · exact h.elim
@[reducible] def indexD : Str → List D → W D := fun z xs => match xs with
  | [.str y] => match Builtin.Str.occurrences z y 0 z.length 1 with | i :: _ => W.ret (.int (i : Nat)) | [] => W.stuck
  | _ => W.stuck
theorem lo_index : LOm K (fun x xs H Q => ∃ a b i rest, x = .str a ∧ xs = [.str b] ∧ Builtin.Str.occurrences a b 0 a.length 1 = i :: rest ∧ Q (.int (i : Nat)) H) indexD := fun c w s z vs xs Q E o r h => by
  unfold indexD at h
  split at h
  · obtain ⟨v, rfl, rv⟩ := r.one
    cases rv
    split at h
    · rename_i i rest e
      exact ⟨z, _, i, rest, rfl, rfl, e, h _ (Go.refl ..) o _ (.int _)⟩
    · exact h.elim
  · exact h.elim
end
def iE (K : PySem.W.Frag) (te : TE) : TI := fun σ H R => te σ H fun v H1 => ∃ a, v = .ref a ∧ (((∃ xs, SqL K H1 a xs) ∧ R (Itl K a) H1) ∨ ((∃ xs, SqT K H1 a xs) ∧ R (Itt K a) H1))
theorem pi_E {X : Cx} {tg l : Expr} {te : TE} (hl : PE X l te) : PI X tg l (iE X.K te) := by
  refine ⟨fun pins s σ H R I h => ?_⟩
  refine thn (hl.run pins s σ H _ I h) fun v s1 ⟨x, H1, I1, r1, a, e, q⟩ => ?_
  subst e
  cases r1
  rcases q with ⟨⟨xs, hq⟩, q⟩ | ⟨⟨xs, hq⟩, q⟩
  · obtain ⟨its, rv, p, hz⟩ := I1.list hq
    refine wpAny_pyIter_list p.isList ?_
    refine ⟨s1.heap.objs.size, [s1.heap.objs.size], _, _, H1, rfl, I1.kept (t' := s1.toks) fun b o e => Heap.get?_push_of_some _ e, turn_list a _, ⟨_, Heap.get?_push_size _ rfl, rfl, rfl⟩, fun b hb => ?_, q⟩
    have e : b = s1.heap.objs.size := by simpa using hb
    subst e
    exact I1.fpOk (Nat.le_refl _) (I1.hok.fresh (Nat.le_refl _))
  · obtain ⟨its, rv, p, hz⟩ := I1.tuple hq
    refine wpAny_pyIter_tuple (show s1.heap.IsTuple a its.toArray from p) ?_
    refine ⟨s1.heap.objs.size, [s1.heap.objs.size], _, _, H1, rfl, I1.kept (t' := s1.toks) fun b o e => Heap.get?_push_of_some _ e, turn_tuple a _, ⟨_, Heap.get?_push_size _ rfl, rfl, rfl⟩, fun b hb => ?_, q⟩
    have e : b = s1.heap.objs.size := by simpa using hb
    subst e
    exact I1.fpOk (Nat.le_refl _) (I1.hok.fresh (Nat.le_refl _))
@[reducible] def dIE (f : List Sl → W D) : List Sl → W (List D) := fun δ => (f δ).bind fun d => match d with | .lst xs => W.ret xs | .tup xs => W.ret xs | _ => W.stuck
theorem li_E {K : PySem.W.Frag} {te : XK → TE} {f : List Sl → W D} (he : LE K te f) : LI K (fun E => iE K (te E)) (dIE f) := fun c w s σ δ R E o sl h =>
  he c w s σ δ _ E o sl (h.bind.mono fun d w1 s1 g1 o1 p v r1 => by
    cases r1 with
    | lst q r => exact ⟨_, rfl, .inl ⟨⟨_, SqL.of (o1.fro _ _ q)⟩, p.ret o1 _ (yie_list (SqL.of q) r)⟩⟩
    | tup q r => exact ⟨_, rfl, .inr ⟨⟨_, SqT.of (o1.fro _ _ q)⟩, p.ret o1 _ (yie_tup (SqT.of q) r)⟩⟩
    | _ => exact p.elim)
structure FkC (P : Program) (w : World) (K : PySem.W.Frag) (mg : Str → Option Value) (base : Heap) (k : Nat) (f : Addr) (ks : List Str) (is : List Nat) (sp : Sp) : Prop where
  ex : ∃ (fd : FuncData) (ps : List Str), FnOk P w K mg base (L2.CX P w) k f fd ps sp ∧ (∀ ws : List Value, ws.length = ks.length → bindArgs fd ⟨[], ks.zip ws⟩ = pure (ps.zip (pick is ws))) ∧ PySem.W.keepIn K (.ref f) = true
theorem bC {K : PySem.W.Frag} {x qual : Str} {params : Arguments} {body : List Stmt} {scope : Scope} {kws : List (Str × V)} {f : Addr} {fd : FuncData} {ps ks : List Str} {is : List Nat} (F : FunD K x qual params body scope [] kws f fd)
    (h : ∀ (kV doc pm : Value) (an : Option Addr) (cdv ct : Value) (ws : List Value), ws.length = ks.length → bindArgs (PySem.W.fnOf x qual params body scope .none kV doc pm an cdv ct) ⟨[], ks.zip ws⟩ = pure (ps.zip (pick is ws))) :
    ∀ ws : List Value, ws.length = ks.length → bindArgs fd ⟨[], ks.zip ws⟩ = pure (ps.zip (pick is ws)) := by
  obtain ⟨oc, od, dV, kV, doc, pm, an, cdv, ct, osl, rfl, lk, hcd, hD, hK⟩ := F.ex
  rcases hD with ⟨_, rfl⟩ | ⟨e, _⟩
  · exact fun ws l => h kV doc pm an cdv ct ws l
  · exact absurd rfl e
def tCallC (sp : Sp) (n : Nat) (is : List Nat) (E : XK) (t : TA) : TE := fun σ H Q => t σ H fun zs H1 => zs.length = n ∧ sp (pick is zs) H1 Q E
theorem pe_fkC {X : Cx} {E : XK} {k : Nat} {f : Addr} {sp : Sp} {x : Str} {p pos : Pos} {ks : List Str} {is : List Nat} {kws : List Keyword} {t : TA} (F : FkC X.prog X.w X.K X.mg X.base k f ks is sp) (hr : Room k X.A) (hx : Passes (L2.CX X.prog X.w) X E) (hg : Gl X x) (hm : X.mg x = some (.ref f)) (hkw : PK X kws t)
    (hall : (backToKw pos (keywordEach kws X.env)).all (·.1.isSome) = true := by rfl) (hks : (backToKw pos (keywordEach kws X.env)).filterMap (·.1) = ks := by rfl) (hdb : (x == ("__debug__" : Str)) = false := by decide)
    (hpl : ((backTo pos (starEach [] X.env)).any (·.1) || (backToKw pos (keywordEach kws X.env)).any (·.1.isNone)) = false := by rfl) :
    PE X (.Call (.Name x p) [] kws pos) (tCallC sp ks.length is E t) := by
  obtain ⟨fd, ps, G, hb, hk⟩ := F.ex
  refine ⟨fun pins s σ H Q I h => ?_⟩
  refine wpAny_Call_Name_kw (ld_glob I hg hm ?_ hdb)
  refine PySem.W.callWith_KW0 (h₀ := X.base) I.ok.mod.kin hk hall ?_ hpl
  refine thn (hkw.run pos pins s σ H _ I h) fun ws s2 ⟨zs, H2, I2, rz, hl, q2⟩ => ⟨I2.kIn, ?_⟩
  rw [hks]
  have hwl : ws.length = ks.length := by rw [← rz.length]; exact hl
  refine wpAny_call (codeAny_mono (G.run X.A X.stack s2 H2 ⟨[], ks.zip ws⟩ (pick is ws) (pick is zs) Q E hr I2.env0 (BindsTo.of_eq (hb ws hwl)) (vals_pick is rz) q2) fun r s' hq => ?_)
  cases r with
  | error e => exact hx pins σ H2 s2 e s' I2 hq
  | ok fl =>
    cases fl with
    | ret u => exact I2.after hq
    | next => exact False.elim hq
    | brk => exact False.elim hq
    | cont => exact False.elim hq
@[reducible] def dCallC (n : Nat) (is : List Nat) (m : Nat) (g : List D → W D) (f : List Sl → W (List D)) : List Sl → W D := fun δ => (f δ).bind fun zs => W.need (zs.length = n ∧ (pick is zs).length = m) (g (pick is zs))
theorem le_callC {K : PySem.W.Frag} {m n : Nat} {is : List Nat} {g : List D → W D} {t : XK → TA} {f : List Sl → W (List D)} (ha : LA K t f) : LE K (fun E => tCallC (Pr K m g) n is E (t E)) (dCallC n is m g f) := fun c w s σ δ Q E o sl h =>
  ha c w s σ δ _ E o sl (h.bind.mono fun ds w1 s1 g1 o1 p vs r1 => ⟨by rw [r1.len]; exact p.1.1, c, w1, s1, pick is ds, rfl, o1, r1.pick is, p.1.2, p.2⟩)
end Lt
set_option maxHeartbeats 4000000
namespace Lw
open PySem PySem.Spec L2 PyProof.Rows He Ly Lt
open Lx (pe_gi pe_gs pe_revS sl_U pe_lenSetS pe_sortSet pe_maxD call_repr call_sumL op_addU op_eqU op_neU op_inU op_notInU pe_crepl fm_ini fm_sup fm_meth fm_prop fm_own fm_isi SupC SupD SupG SupScope DefM spPen t_pen pen_pure t_draw IsTb IsOk vTy pgA Fm Ky)
structure En (K : PySem.W.Frag) (mg : Str → Option Value) (base : Heap) : Prop where
  c : SaysY file fa fn K
  x : ∃ h : Heap, K.In h ∧ h.Ns mainGlobals mg
  tb : ∀ t ∈ tabs3 K, LamX.TabB base mg t.1 t.2.1
  sm : ∃ o, base.get? sysModules = some o
section
variable {w : World} {K : PySem.W.Frag} {mg : Str → Option Value} {base : Heap}
theorem gl (e : En K mg base) (i : Nat) {x : Str} (h : fa[i]? = some (.m (.he (.glo x)))) : mg x = some (.ref (ga K x)) := by
  obtain ⟨hp, a, b⟩ := e.x
  exact glo_ok a b (e.c.fm i h)
theorem fr (e : En K mg base) (i : Nat) {x : Str} (h : fa[i]? = some (.m (.he (.free x)))) : mg x = none := by
  obtain ⟨hp, a, b⟩ := e.x
  exact free_ok a b (e.c.fm i h)
theorem gi (e : En K mg base) (i : Nat) {x : Str} {j : Int} (h : fa[i]? = some (.m (.he (.int x j)))) : ∃ t, mg x = some (.int j t) := by
  obtain ⟨hp, a, b⟩ := e.x
  exact int_ok a b (e.c.fm i h)
theorem gs (e : En K mg base) (i : Nat) {x z : Str} (h : fa[i]? = some (.m (.he (.str x z)))) : ∃ t, mg x = some (.str z t) := by
  obtain ⟨hp, a, b⟩ := e.x
  exact str_ok a b (e.c.fm i h)
theorem d_LineChange_eq (e : En K mg base) : ∃ fd, FunD K "__eq__" "LineChange.__eq__" (defArgs s_LineChange_eq) (defBody s_LineChange_eq) (defScope s_LineChange_eq) [] [] (ma K (ga K "LineChange") "__eq__") fd := DefM.funD (d := dm_LineChange_eq) rfl (e.c.def_ 0 rfl).1 (e.c.def_ 0 rfl).2
theorem d__law_draw (e : En K mg base) : ∃ fd, FunD K "_law_draw" "_law_draw" (defArgs s__law_draw) (defBody s__law_draw) (defScope s__law_draw) [] [] (ga K "_law_draw") fd := DefM.funD (d := dm__law_draw) rfl (e.c.def_ 1 rfl).1 (e.c.def_ 1 rfl).2
theorem d__law_pick (e : En K mg base) : ∃ fd, FunD K "_law_pick" "_law_pick" (defArgs s__law_pick) (defBody s__law_pick) (defScope s__law_pick) [] [] (ga K "_law_pick") fd := DefM.funD (d := dm__law_pick) rfl (e.c.def_ 2 rfl).1 (e.c.def_ 2 rfl).2
theorem d__law_signs (e : En K mg base) : ∃ fd, FunD K "_law_signs" "_law_signs" (defArgs s__law_signs) (defBody s__law_signs) (defScope s__law_signs) [] [] (ga K "_law_signs") fd := DefM.funD (d := dm__law_signs) rfl (e.c.def_ 3 rfl).1 (e.c.def_ 3 rfl).2
theorem d__law_few (e : En K mg base) : ∃ fd, FunD K "_law_few" "_law_few" (defArgs s__law_few) (defBody s__law_few) (defScope s__law_few) [] [] (ga K "_law_few") fd := DefM.funD (d := dm__law_few) rfl (e.c.def_ 4 rfl).1 (e.c.def_ 4 rfl).2
theorem d__law_row (e : En K mg base) : ∃ fd, FunD K "_law_row" "_law_row" (defArgs s__law_row) (defBody s__law_row) (defScope s__law_row) [] [] (ga K "_law_row") fd := DefM.funD (d := dm__law_row) rfl (e.c.def_ 5 rfl).1 (e.c.def_ 5 rfl).2
theorem d__law_deed (e : En K mg base) : ∃ fd, FunD K "_law_deed" "_law_deed" (defArgs s__law_deed) (defBody s__law_deed) (defScope s__law_deed) [] [] (ga K "_law_deed") fd := DefM.funD (d := dm__law_deed) rfl (e.c.def_ 6 rfl).1 (e.c.def_ 6 rfl).2
theorem d__law_jdeeds (e : En K mg base) : ∃ fd, FunD K "_law_jdeeds" "_law_jdeeds" (defArgs s__law_jdeeds) (defBody s__law_jdeeds) (defScope s__law_jdeeds) [] [] (ga K "_law_jdeeds") fd := DefM.funD (d := dm__law_jdeeds) rfl (e.c.def_ 7 rfl).1 (e.c.def_ 7 rfl).2
theorem d__law_deed_done (e : En K mg base) : ∃ fd, FunD K "_law_deed_done" "_law_deed_done" (defArgs s__law_deed_done) (defBody s__law_deed_done) (defScope s__law_deed_done) [] [] (ga K "_law_deed_done") fd := DefM.funD (d := dm__law_deed_done) rfl (e.c.def_ 8 rfl).1 (e.c.def_ 8 rfl).2
theorem d__law_jdone (e : En K mg base) : ∃ fd, FunD K "_law_jdone" "_law_jdone" (defArgs s__law_jdone) (defBody s__law_jdone) (defScope s__law_jdone) [] [] (ga K "_law_jdone") fd := DefM.funD (d := dm__law_jdone) rfl (e.c.def_ 9 rfl).1 (e.c.def_ 9 rfl).2
theorem d__law_jline (e : En K mg base) : ∃ fd, FunD K "_law_jline" "_law_jline" (defArgs s__law_jline) (defBody s__law_jline) (defScope s__law_jline) [] [] (ga K "_law_jline") fd := DefM.funD (d := dm__law_jline) rfl (e.c.def_ 10 rfl).1 (e.c.def_ 10 rfl).2
theorem d_is_line (e : En K mg base) : ∃ fd, FunD K "is_line" "is_line" (defArgs s_is_line) (defBody s_is_line) (defScope s_is_line) [] [] (ga K "is_line") fd := DefM.funD (d := dm_is_line) rfl (e.c.def_ 11 rfl).1 (e.c.def_ 11 rfl).2
theorem d_is_word (e : En K mg base) : ∃ fd, FunD K "is_word" "is_word" (defArgs s_is_word) (defBody s_is_word) (defScope s_is_word) [] [] (ga K "is_word") fd := DefM.funD (d := dm_is_word) rfl (e.c.def_ 12 rfl).1 (e.c.def_ 12 rfl).2
theorem d_LineChange_init (e : En K mg base) : ∃ fd, FunD K "__init__" "LineChange.__init__" (defArgs s_LineChange_init) (defBody s_LineChange_init) (defScope s_LineChange_init) [] [] (ma K (ga K "LineChange") "__init__") fd := DefM.funD (d := dm_LineChange_init) rfl (e.c.def_ 13 rfl).1 (e.c.def_ 13 rfl).2
theorem d_EndChange_init (e : En K mg base) : ∃ fd, SupG PW K "__init__" "EndChange.__init__" (defArgs s_EndChange_init) (defBody s_EndChange_init) (defScope s_EndChange_init) [] [] (ga K "EndChange") (ma K (ga K "EndChange") "__init__") fd := DefM.supD (P := PW) (d := dm_EndChange_init) rfl (e.c.def_ 14 rfl).1 (e.c.def_ 14 rfl).2 (e.c.fm 44 rfl) (by decide +kernel)
theorem d_Behind_init (e : En K mg base) : ∃ fd, SupG PW K "__init__" "Behind.__init__" (defArgs s_Behind_init) (defBody s_Behind_init) (defScope s_Behind_init) [] [] (ga K "Behind") (ma K (ga K "Behind") "__init__") fd := DefM.supD (P := PW) (d := dm_Behind_init) rfl (e.c.def_ 15 rfl).1 (e.c.def_ 15 rfl).2 (e.c.fm 44 rfl) (by decide +kernel)
theorem d_PlaceChange_init (e : En K mg base) : ∃ fd, SupG PW K "__init__" "PlaceChange.__init__" (defArgs s_PlaceChange_init) (defBody s_PlaceChange_init) (defScope s_PlaceChange_init) [] [] (ga K "PlaceChange") (ma K (ga K "PlaceChange") "__init__") fd := DefM.supD (P := PW) (d := dm_PlaceChange_init) rfl (e.c.def_ 16 rfl).1 (e.c.def_ 16 rfl).2 (e.c.fm 44 rfl) (by decide +kernel)
theorem d_Every_init (e : En K mg base) : ∃ fd, SupG PW K "__init__" "Every.__init__" (defArgs s_Every_init) (defBody s_Every_init) (defScope s_Every_init) [] [] (ga K "Every") (ma K (ga K "Every") "__init__") fd := DefM.supD (P := PW) (d := dm_Every_init) rfl (e.c.def_ 17 rfl).1 (e.c.def_ 17 rfl).2 (e.c.fm 44 rfl) (by decide +kernel)
theorem d_First_init (e : En K mg base) : ∃ fd, SupG PW K "__init__" "First.__init__" (defArgs s_First_init) (defBody s_First_init) (defScope s_First_init) [] [] (ga K "First") (ma K (ga K "First") "__init__") fd := DefM.supD (P := PW) (d := dm_First_init) rfl (e.c.def_ 18 rfl).1 (e.c.def_ 18 rfl).2 (e.c.fm 44 rfl) (by decide +kernel)
theorem d_Front_init (e : En K mg base) : ∃ fd, SupG PW K "__init__" "Front.__init__" (defArgs s_Front_init) (defBody s_Front_init) (defScope s_Front_init) [] [] (ga K "Front") (ma K (ga K "Front") "__init__") fd := DefM.supD (P := PW) (d := dm_Front_init) rfl (e.c.def_ 19 rfl).1 (e.c.def_ 19 rfl).2 (e.c.fm 44 rfl) (by decide +kernel)
theorem d_Swap_init (e : En K mg base) : ∃ fd, SupG PW K "__init__" "Swap.__init__" (defArgs s_Swap_init) (defBody s_Swap_init) (defScope s_Swap_init) [] [] (ga K "Swap") (ma K (ga K "Swap") "__init__") fd := DefM.supD (P := PW) (d := dm_Swap_init) rfl (e.c.def_ 20 rfl).1 (e.c.def_ 20 rfl).2 (e.c.fm 44 rfl) (by decide +kernel)
theorem d__law_made_deed (e : En K mg base) : ∃ fd, FunD K "_law_made_deed" "_law_made_deed" (defArgs s__law_made_deed) (defBody s__law_made_deed) (defScope s__law_made_deed) [] [] (ga K "_law_made_deed") fd := DefM.funD (d := dm__law_made_deed) rfl (e.c.def_ 21 rfl).1 (e.c.def_ 21 rfl).2
theorem d__law_jmade_deeds (e : En K mg base) : ∃ fd, FunD K "_law_jmade_deeds" "_law_jmade_deeds" (defArgs s__law_jmade_deeds) (defBody s__law_jmade_deeds) (defScope s__law_jmade_deeds) [] [] (ga K "_law_jmade_deeds") fd := DefM.funD (d := dm__law_jmade_deeds) rfl (e.c.def_ 22 rfl).1 (e.c.def_ 22 rfl).2
theorem d__law_jwords (e : En K mg base) : ∃ fd, FunD K "_law_jwords" "_law_jwords" (defArgs s__law_jwords) (defBody s__law_jwords) (defScope s__law_jwords) [] [] (ga K "_law_jwords") fd := DefM.funD (d := dm__law_jwords) rfl (e.c.def_ 23 rfl).1 (e.c.def_ 23 rfl).2
theorem d__law_pen (e : En K mg base) : ∃ fd, FunD K "_law_pen" "_law_pen" (defArgs s__law_pen) (defBody s__law_pen) (defScope s__law_pen) [] [] (ga K "_law_pen") fd := DefM.funD (d := dm__law_pen) rfl (e.c.def_ 24 rfl).1 (e.c.def_ 24 rfl).2
theorem d_Swap_letters (e : En K mg base) : ∃ fd, FunD K "letters" "Swap.letters" (defArgs s_Swap_letters) (defBody s_Swap_letters) (defScope s_Swap_letters) [] [] (pgA K "Swap" "letters") fd := DefM.funD (d := dm_Swap_letters) rfl (e.c.def_ 25 rfl).1 (e.c.def_ 25 rfl).2
theorem d_PlaceChange_new (e : En K mg base) : ∃ fd, FunD K "new" "PlaceChange.new" (defArgs s_PlaceChange_new) (defBody s_PlaceChange_new) (defScope s_PlaceChange_new) [] [] (pgA K "PlaceChange" "new") fd := DefM.funD (d := dm_PlaceChange_new) rfl (e.c.def_ 26 rfl).1 (e.c.def_ 26 rfl).2
theorem d_PlaceChange_old (e : En K mg base) : ∃ fd, FunD K "old" "PlaceChange.old" (defArgs s_PlaceChange_old) (defBody s_PlaceChange_old) (defScope s_PlaceChange_old) [] [] (pgA K "PlaceChange" "old") fd := DefM.funD (d := dm_PlaceChange_old) rfl (e.c.def_ 27 rfl).1 (e.c.def_ 27 rfl).2
theorem d_Swap_others (e : En K mg base) : ∃ fd, FunD K "others" "Swap.others" (defArgs s_Swap_others) (defBody s_Swap_others) (defScope s_Swap_others) [] [] (pgA K "Swap" "others") fd := DefM.funD (d := dm_Swap_others) rfl (e.c.def_ 28 rfl).1 (e.c.def_ 28 rfl).2
theorem d_EndChange_word (e : En K mg base) : ∃ fd, FunD K "word" "EndChange.word" (defArgs s_EndChange_word) (defBody s_EndChange_word) (defScope s_EndChange_word) [] [] (pgA K "EndChange" "word") fd := DefM.funD (d := dm_EndChange_word) rfl (e.c.def_ 29 rfl).1 (e.c.def_ 29 rfl).2
theorem d_First_done (e : En K mg base) : ∃ fd, FunD K "done" "First.done" (defArgs s_First_done) (defBody s_First_done) (defScope s_First_done) [] [] (ma K (ga K "First") "done") fd := DefM.funD (d := dm_First_done) rfl (e.c.def_ 30 rfl).1 (e.c.def_ 30 rfl).2
theorem d_Every_done (e : En K mg base) : ∃ fd, FunD K "done" "Every.done" (defArgs s_Every_done) (defBody s_Every_done) (defScope s_Every_done) [] [] (ma K (ga K "Every") "done") fd := DefM.funD (d := dm_Every_done) rfl (e.c.def_ 31 rfl).1 (e.c.def_ 31 rfl).2
theorem d_Swap_done (e : En K mg base) : ∃ fd, FunD K "done" "Swap.done" (defArgs s_Swap_done) (defBody s_Swap_done) (defScope s_Swap_done) [] [] (ma K (ga K "Swap") "done") fd := DefM.funD (d := dm_Swap_done) rfl (e.c.def_ 32 rfl).1 (e.c.def_ 32 rfl).2
theorem d_Front_done (e : En K mg base) : ∃ fd, FunD K "done" "Front.done" (defArgs s_Front_done) (defBody s_Front_done) (defScope s_Front_done) [] [] (ma K (ga K "Front") "done") fd := DefM.funD (d := dm_Front_done) rfl (e.c.def_ 33 rfl).1 (e.c.def_ 33 rfl).2
theorem d_Behind_done (e : En K mg base) : ∃ fd, FunD K "done" "Behind.done" (defArgs s_Behind_done) (defBody s_Behind_done) (defScope s_Behind_done) [] [] (ma K (ga K "Behind") "done") fd := DefM.funD (d := dm_Behind_done) rfl (e.c.def_ 34 rfl).1 (e.c.def_ 34 rfl).2
theorem d_done_all (e : En K mg base) : ∃ fd, FunD K "done_all" "done_all" (defArgs s_done_all) (defBody s_done_all) (defScope s_done_all) [] [] (ga K "done_all") fd := DefM.funD (d := dm_done_all) rfl (e.c.def_ 35 rfl).1 (e.c.def_ 35 rfl).2
theorem d_places (e : En K mg base) : ∃ fd, FunD K "places" "places" (defArgs s_places) (defBody s_places) (defScope s_places) [] [] (ga K "places") fd := DefM.funD (d := dm_places) rfl (e.c.def_ 36 rfl).1 (e.c.def_ 36 rfl).2
theorem d_law0 (c : SaysY file fa fn K) : ∃ fd, FunD K "law" "law" (defArgs s_law) (defBody s_law) (defScope s_law) [] [] (ga K "law") fd := DefM.funD (d := dm_law) rfl (c.def_ 37 rfl).1 (c.def_ 37 rfl).2
def is_LineChange : IsTb := [(.t "NoneType", false), (.t "bool", false), (.t "int", false), (.t "str", false), (.t "list", false), (.t "tuple", false), (.t "dict", false), (.c "First", true), (.c "Every", true), (.c "Swap", true), (.c "Front", true), (.c "Behind", true)]
theorem isok_LineChange (e : En K mg base) : IsOk K (vTy K (.c "LineChange")) is_LineChange := (.cons (fm_isi (e.c.fm 108 rfl)) (fun c h => by cases h)
  (.cons (fm_isi (e.c.fm 107 rfl)) (fun c h => by cases h)
  (.cons (fm_isi (e.c.fm 106 rfl)) (fun c h => by cases h)
  (.cons (fm_isi (e.c.fm 105 rfl)) (fun c h => by cases h)
  (.cons (fm_isi (e.c.fm 104 rfl)) (fun c h => by cases h)
  (.cons (fm_isi (e.c.fm 103 rfl)) (fun c h => by cases h)
  (.cons (fm_isi (e.c.fm 102 rfl)) (fun c h => by cases h)
  (.cons (fm_isi (e.c.fm 101 rfl)) (fun c h => by cases h; exact fm_own (e.c.fm 4 rfl) (cls_ok (e.c.fm 5 rfl)))
  (.cons (fm_isi (e.c.fm 100 rfl)) (fun c h => by cases h; exact fm_own (e.c.fm 6 rfl) (cls_ok (e.c.fm 7 rfl)))
  (.cons (fm_isi (e.c.fm 99 rfl)) (fun c h => by cases h; exact fm_own (e.c.fm 8 rfl) (cls_ok (e.c.fm 9 rfl)))
  (.cons (fm_isi (e.c.fm 98 rfl)) (fun c h => by cases h; exact fm_own (e.c.fm 10 rfl) (cls_ok (e.c.fm 11 rfl)))
  (.cons (fm_isi (e.c.fm 97 rfl)) (fun c h => by cases h; exact fm_own (e.c.fm 12 rfl) (cls_ok (e.c.fm 13 rfl)))
  .nil))))))))))))
def is_str : IsTb := [(.t "NoneType", false), (.t "bool", false), (.t "int", false), (.t "str", true), (.t "list", false), (.t "tuple", false), (.t "dict", false), (.c "First", false), (.c "Every", false), (.c "Swap", false), (.c "Front", false), (.c "Behind", false)]
theorem isok_str (e : En K mg base) : IsOk K (vTy K (.t "str")) is_str := (.cons (fm_isi (e.c.fm 120 rfl)) (fun c h => by cases h)
  (.cons (fm_isi (e.c.fm 119 rfl)) (fun c h => by cases h)
  (.cons (fm_isi (e.c.fm 118 rfl)) (fun c h => by cases h)
  (.cons (fm_isi (e.c.fm 117 rfl)) (fun c h => by cases h)
  (.cons (fm_isi (e.c.fm 116 rfl)) (fun c h => by cases h)
  (.cons (fm_isi (e.c.fm 115 rfl)) (fun c h => by cases h)
  (.cons (fm_isi (e.c.fm 114 rfl)) (fun c h => by cases h)
  (.cons (fm_isi (e.c.fm 113 rfl)) (fun c h => by cases h; exact fm_own (e.c.fm 4 rfl) (cls_ok (e.c.fm 5 rfl)))
  (.cons (fm_isi (e.c.fm 112 rfl)) (fun c h => by cases h; exact fm_own (e.c.fm 6 rfl) (cls_ok (e.c.fm 7 rfl)))
  (.cons (fm_isi (e.c.fm 111 rfl)) (fun c h => by cases h; exact fm_own (e.c.fm 8 rfl) (cls_ok (e.c.fm 9 rfl)))
  (.cons (fm_isi (e.c.fm 110 rfl)) (fun c h => by cases h; exact fm_own (e.c.fm 10 rfl) (cls_ok (e.c.fm 11 rfl)))
  (.cons (fm_isi (e.c.fm 109 rfl)) (fun c h => by cases h; exact fm_own (e.c.fm 12 rfl) (cls_ok (e.c.fm 13 rfl)))
  .nil))))))))))))
abbrev N_LineChange_eq : List Str := ["self", "other"]
theorem sc_LineChange_eq : FnScope N_LineChange_eq ["self", "other"] (defScope s_LineChange_eq) := ⟨rfl, rfl, rfl, by decide +kernel, rfl, by decide +kernel, by decide +kernel⟩
def tys_eq : List Ky := [.t "NoneType", .t "bool", .t "int", .t "str", .t "list", .t "tuple", .t "dict", .c "First", .c "Every", .c "Swap", .c "Front", .c "Behind"]
@[reducible] def b_LineChange_eq (tb_eq : Nat → Tb) (k : Nat) : List Sl → W Out := (dRet (dAndV (dOp1 (isiD is_LineChange) (dVar 1)) (dOp2 eqD (dTup (dCons (dFld "own_kind" (dVar 0)) (dCons (dFld "own_texts" (dVar 0)) dNil))) (dTup (dCons (dFld "own_kind" (dVar 1)) (dCons (dFld "own_texts" (dVar 1)) dNil))))))
def tb_eq : Nat → Tb
  | 0 => []
  | k + 1 => [("First", dBody N_LineChange_eq (b_LineChange_eq (fun _ => tb_eq k) k)), ("Every", dBody N_LineChange_eq (b_LineChange_eq (fun _ => tb_eq k) k)), ("Swap", dBody N_LineChange_eq (b_LineChange_eq (fun _ => tb_eq k) k)), ("Front", dBody N_LineChange_eq (b_LineChange_eq (fun _ => tb_eq k) k)), ("Behind", dBody N_LineChange_eq (b_LineChange_eq (fun _ => tb_eq k) k))]
theorem nf_eq (e : En K mg base) : (Fy.nf ["First", "Every", "Swap", "Front", "Behind"] tys_eq).ok K = true := e.c.fact 2 rfl
theorem ns_eq (e : En K mg base) : ∀ k, NSub K (tb_eq k)
  | 0 => fun cl g h => by cases h
  | k + 1 => fun cl g h => fy_ns (e.c.fact 3 rfl) (show cl ∈ (["First", "Every", "Swap", "Front", "Behind"] : List Str) from look_fst h)
theorem own_eq (e : En K mg base) : ∀ c, Ky.c c ∈ tys_eq → Lx.OwnC K c := by
  intro c h
  have h : Ky.c c ∈ ([.t "NoneType", .t "bool", .t "int", .t "str", .t "list", .t "tuple", .t "dict", .c "First", .c "Every", .c "Swap", .c "Front", .c "Behind"] : List Ky) := h
  simp only [List.append_eq, List.mem_append, List.mem_cons, List.not_mem_nil, or_false, or_assoc, reduceCtorEq, false_or, Ky.c.injEq] at h
  rcases h with rfl | rfl | rfl | rfl | rfl
  · exact fm_own (e.c.fm 4 rfl) (cls_ok (e.c.fm 5 rfl))
  · exact fm_own (e.c.fm 6 rfl) (cls_ok (e.c.fm 7 rfl))
  · exact fm_own (e.c.fm 8 rfl) (cls_ok (e.c.fm 9 rfl))
  · exact fm_own (e.c.fm 10 rfl) (cls_ok (e.c.fm 11 rfl))
  · exact fm_own (e.c.fm 12 rfl) (cls_ok (e.c.fm 13 rfl))
theorem fk_LineChange_eq (e : En K mg base) (k : Nat) (ih : TabE PW w K mg base (2 + 6 * k) tys_eq (tb_eq k)) : Fk PW w K mg base (8 + 6 * k) (ma K (ga K "LineChange") "__eq__") (Pr K 2 (dBody N_LineChange_eq (b_LineChange_eq (fun _ => tb_eq k) k))) := by
  obtain ⟨fd, F⟩ := d_LineChange_eq e
  exact ⟨fd, _, Lx.FnOk.up (fn_ly (b := b_LineChange_eq (fun _ => tb_eq k) k) (k := 7 + 6 * k) F sc_LineChange_eq (ls_ret (le_and (le_isi (.own (ga K "LineChange")) (isok_LineChange e) le_var) (le_op2 lo_eq (le_tup (la_cons (le_fld le_var) (la_cons (le_fld le_var) la_nil))) (le_tup (la_cons (le_fld le_var) (la_cons (le_fld le_var) la_nil)))))) (fun cdv A outer s H E hr tk => (pss_one (ps_ret (pe_andT (pe_callB call_isi rfl (fr e 1 rfl) boot_isinstance (pa_cons (pv 1) (pa_cons (pe_glob rfl (gl e 0 rfl) rfl) pa_nil))) (pe_one (pe_cmpR (op_eqU hr.units) (pe_tup (pa_cons (pe_fld (pv 0) rfl) (pa_cons (pe_fld (pv 0) rfl) pa_nil))) (pe_tup (pa_cons (pe_fld (pv 1) rfl) (pa_cons (pe_fld (pv 1) rfl) pa_nil))) (nomark _)))))))) (by omega), F.bindsN (fun _ _ _ _ _ _ us hl => match us, hl with | [_, _], _ => rfl), F.kp⟩
theorem te_eq (e : En K mg base) : ∀ k, TabE PW w K mg base (2 + 6 * k) tys_eq (tb_eq k)
  | 0 => .nil
  | k + 1 => (.cons (cls_ok (e.c.fm 5 rfl)) (fy_eq (e.c.fact 18 rfl)).1 (fy_eq (e.c.fact 18 rfl)).2.1 (fy_eq (e.c.fact 18 rfl)).2.2.1 (fy_eq (e.c.fact 18 rfl)).2.2.2 (fy_nf (nf_eq e) (by decide)) (Fk.up (fk_LineChange_eq e k (te_eq e k)) (by omega))
  (.cons (cls_ok (e.c.fm 7 rfl)) (fy_eq (e.c.fact 17 rfl)).1 (fy_eq (e.c.fact 17 rfl)).2.1 (fy_eq (e.c.fact 17 rfl)).2.2.1 (fy_eq (e.c.fact 17 rfl)).2.2.2 (fy_nf (nf_eq e) (by decide)) (Fk.up (fk_LineChange_eq e k (te_eq e k)) (by omega))
  (.cons (cls_ok (e.c.fm 9 rfl)) (fy_eq (e.c.fact 16 rfl)).1 (fy_eq (e.c.fact 16 rfl)).2.1 (fy_eq (e.c.fact 16 rfl)).2.2.1 (fy_eq (e.c.fact 16 rfl)).2.2.2 (fy_nf (nf_eq e) (by decide)) (Fk.up (fk_LineChange_eq e k (te_eq e k)) (by omega))
  (.cons (cls_ok (e.c.fm 11 rfl)) (fy_eq (e.c.fact 15 rfl)).1 (fy_eq (e.c.fact 15 rfl)).2.1 (fy_eq (e.c.fact 15 rfl)).2.2.1 (fy_eq (e.c.fact 15 rfl)).2.2.2 (fy_nf (nf_eq e) (by decide)) (Fk.up (fk_LineChange_eq e k (te_eq e k)) (by omega))
  (.cons (cls_ok (e.c.fm 13 rfl)) (fy_eq (e.c.fact 14 rfl)).1 (fy_eq (e.c.fact 14 rfl)).2.1 (fy_eq (e.c.fact 14 rfl)).2.2.1 (fy_eq (e.c.fact 14 rfl)).2.2.2 (fy_nf (nf_eq e) (by decide)) (Fk.up (fk_LineChange_eq e k (te_eq e k)) (by omega))
  .nil)))))
abbrev N__law_draw : List Str := ["_law_pen_here", "_law_span", "_law_digit", "_law_turn", "_law_cell", "_law_primes", "_law_prime", "_law_drawn"]
theorem sc__law_draw : FnScope N__law_draw ["_law_pen_here", "_law_span"] (defScope s__law_draw) := ⟨rfl, rfl, rfl, by decide +kernel, rfl, by decide +kernel, by decide +kernel⟩
theorem fk__law_draw (e : En K mg base) : Fk PW w K mg base 2 (ga K "_law_draw") (Pr K 2 drawD) := by
  obtain ⟨fd, F⟩ := d__law_draw e
  refine ⟨fd, _, F.ok (CX := L2.CX PW w) (k := 1) sc__law_draw Pr.len fun cdv A outer s H vs Q E hr h => ⟨t_draw K, PSs.nox ?_, Lx.draw_pure (draw_pure h)⟩, F.bindsN (fun _ _ _ _ _ _ us hl => match us, hl with | [_, _], _ => rfl), F.kp⟩
  exact (pss_cons (ps_if (pt_cmpR op_gt (pe_dget (hu_of hr) (pv 0) pe_str (fun _ _ => rfl)) pe_int (nomark _)) (pss_cons (ps_set (i := 2) sc__law_draw.nd rfl (by first | exact Or.inl rfl | exact Or.inr rfl) (pe_op op_mod (pe_callTy call_int1 rfl (fr e 21 rfl) boot_int (pa_cons (pe_dget (hu_of hr) (pv 0) pe_str (fun _ _ => rfl)) pa_nil)) (pv 1))) (pss_cons (ps_dput (hu_of hr) (pv 0) pe_str (pe_op op_fdiv (pe_dget (hu_of hr) (pv 0) pe_str (fun _ _ => rfl)) (pv 1)) rfl) (pss_one (ps_ret (pv 2))))) pss_nil)
  (pss_cons (ps_set (i := 3) sc__law_draw.nd rfl (by first | exact Or.inl rfl | exact Or.inr rfl) (pe_dget (hu_of hr) (pv 0) pe_str (fun _ _ => rfl)))
  (pss_cons (ps_dput (hu_of hr) (pv 0) pe_str (pe_op op_add (pv 3) pe_int) rfl)
  (pss_cons (ps_set (i := 4) sc__law_draw.nd rfl (by first | exact Or.inl rfl | exact Or.inr rfl) (pe_op op_add (pe_op op_mul pe_int (pv 3)) pe_int))
  (pss_cons (ps_if (pt_cmpR (op_neU hr.units) (pe_dget (hu_of hr) (pv 0) pe_str (fun _ _ => rfl)) (pe_lst pa_nil) (nomark _)) (pss_one (ps_set (i := 4) sc__law_draw.nd rfl (by first | exact Or.inl rfl | exact Or.inr rfl) (pe_ix ix_seq (pe_dget (hu_of hr) (pv 0) pe_str (fun _ _ => rfl)) (pe_op op_mod (pe_callTy call_int1 rfl (fr e 21 rfl) boot_int (pa_cons (pv 3) pa_nil)) (pe_callB call_len rfl (fr e 20 rfl) boot_len (pa_cons (pe_dget (hu_of hr) (pv 0) pe_str (fun _ _ => rfl)) pa_nil))) (fun _ _ => rfl)))) pss_nil)
  (pss_cons (ps_if (PW.pt (pw_and (pt_cmpR op_lt (pv 3) (pe_callB call_len rfl (fr e 20 rfl) boot_len (pa_cons (pe_dget (hu_of hr) (pv 0) pe_str (fun _ _ => rfl)) pa_nil)) (nomark _)) (pw_and1 (pt_cmpR op_ge (pe_callB call_abs rfl (fr e 19 rfl) boot_abs (pa_cons (pv 4) pa_nil)) (pe_op op_pow pe_int pe_int) (nomark _))))) (pss_cons (ps_dput (hu_of hr) (pv 0) pe_str (pe_op op_fdiv (pe_op op_sub (pe_callB call_abs rfl (fr e 19 rfl) boot_abs (pa_cons (pv 4) pa_nil)) (pe_op op_pow pe_int pe_int)) (pv 1)) rfl) (pss_one (ps_ret (pe_op op_mod (pe_op op_sub (pe_callB call_abs rfl (fr e 19 rfl) boot_abs (pa_cons (pv 4) pa_nil)) (pe_op op_pow pe_int pe_int)) (pv 1))))) pss_nil)
  (pss_cons (ps_set (i := 5) sc__law_draw.nd rfl (by first | exact Or.inl rfl | exact Or.inr rfl) (pe_lst (pa_cons pe_int (pa_cons pe_int (pa_cons pe_int (pa_cons pe_int (pa_cons pe_int pa_nil)))))))
  (pss_cons (ps_set (i := 6) sc__law_draw.nd rfl (by first | exact Or.inl rfl | exact Or.inr rfl) (pe_ix ix_seq (pv 5) (pe_op op_mod (pe_callTy call_int1 rfl (fr e 21 rfl) boot_int (pa_cons (pv 3) pa_nil)) pe_int) (fun _ _ => rfl)))
  (pss_cons (ps_set (i := 7) sc__law_draw.nd rfl (by first | exact Or.inl rfl | exact Or.inr rfl) (pe_op op_mod (pe_callTy call_int1 rfl (fr e 21 rfl) boot_int (pa_cons (pe_op op_add (pe_op op_add (pe_op op_mul (pe_op op_mod (pe_callTy call_int1 rfl (fr e 21 rfl) boot_int (pa_cons (pv 4) pa_nil)) (pv 6)) pe_int) (pe_op op_mul (pv 3) (pe_op op_add (pe_op op_mul pe_int (pv 3)) pe_int))) pe_int) pa_nil)) (pv 6)))
  (pss_cons (ps_set (i := 7) sc__law_draw.nd rfl (by first | exact Or.inl rfl | exact Or.inr rfl) (pe_op op_mod (pe_callTy call_int1 rfl (fr e 21 rfl) boot_int (pa_cons (pe_op op_mul (pv 7) (pe_op op_add (pv 7) pe_int)) pa_nil)) (pe_ix ix_seq (pv 5) (pe_op op_mod (pe_callTy call_int1 rfl (fr e 21 rfl) boot_int (pa_cons (pe_op op_add (pv 3) pe_int) pa_nil)) pe_int) (fun _ _ => rfl))))
  (pss_one (ps_ret (pe_op op_mod (pe_callTy call_int1 rfl (fr e 21 rfl) boot_int (pa_cons (pe_op op_fdiv (pe_op op_mod (pe_callTy call_int1 rfl (fr e 21 rfl) boot_int (pa_cons (pe_op op_add (pe_op op_add (pe_op op_mul (pv 7) (pv 7)) (pe_op op_mul pe_int (pv 7))) (pv 3)) pa_nil)) pe_int) pe_int) pa_nil)) (pv 1))))))))))))))
abbrev g__law_draw : List D → W D := drawD
abbrev N__law_pick : List Str := ["_law_pen_here", "_law_options"]
theorem sc__law_pick : FnScope N__law_pick ["_law_pen_here", "_law_options"] (defScope s__law_pick) := ⟨rfl, rfl, rfl, by decide +kernel, rfl, by decide +kernel, by decide +kernel⟩
@[reducible] def b__law_pick : List Sl → W Out := (dRet (dOp2 ixD (dVar 1) (dCall 2 g__law_draw (dCons (dVar 0) (dCons (dOpn lenD (dCons (dVar 1) dNil)) dNil)))))
def g__law_pick : List D → W D := dBody N__law_pick b__law_pick
theorem fk__law_pick (e : En K mg base) : Fk PW w K mg base 10 (ga K "_law_pick") (Pr K 2 g__law_pick) := by
  obtain ⟨fd, F⟩ := d__law_pick e
  exact ⟨fd, _, fn_ly (b := b__law_pick) (k := 9) F sc__law_pick (ls_ret (le_op2 lo_ix le_var (le_call (la_cons le_var (la_cons (le_opn lo_len (la_cons le_var la_nil)) la_nil))))) (fun cdv A outer s H E hr tk => (pss_one (ps_ret (pe_ix ix_seq (pv 1) (pe_fk (fk__law_draw e) (hr.mono (by omega)) (px tk) rfl (gl e 22 rfl) (pa_cons (pv 0) (pa_cons (pe_callB call_len rfl (fr e 20 rfl) boot_len (pa_cons (pv 1) pa_nil)) pa_nil))) (fun _ _ => rfl))))), F.bindsN (fun _ _ _ _ _ _ us hl => match us, hl with | [_, _], _ => rfl), F.kp⟩
@[reducible] def b__law_pickS : List Sl → W Out := (dRet (dOp2 ixSD (dVar 1) (dCall 2 g__law_draw (dCons (dVar 0) (dCons (dOpn lenD (dCons (dVar 1) dNil)) dNil)))))
def g__law_pickS : List D → W D := dBody N__law_pick b__law_pickS
theorem fk__law_pickS (e : En K mg base) : Fk PW w K mg base 10 (ga K "_law_pick") (Pr K 2 g__law_pickS) := by
  obtain ⟨fd, F⟩ := d__law_pick e
  exact ⟨fd, _, fn_ly (b := b__law_pickS) (k := 9) F sc__law_pick (ls_ret (le_op2 lo_ixS' le_var (le_call (la_cons le_var (la_cons (le_opn lo_len (la_cons le_var la_nil)) la_nil))))) (fun cdv A outer s H E hr tk => (pss_one (ps_ret (pe_ix ix_seq (pv 1) (pe_fk (fk__law_draw e) (hr.mono (by omega)) (px tk) rfl (gl e 22 rfl) (pa_cons (pv 0) (pa_cons (pe_callB call_len rfl (fr e 20 rfl) boot_len (pa_cons (pv 1) pa_nil)) pa_nil))) (fun _ _ => rfl))))), F.bindsN (fun _ _ _ _ _ _ us hl => match us, hl with | [_, _], _ => rfl), F.kp⟩
theorem fF__law_pick (e : En K mg base) : FkF PW w K mg base 10 (ga K "_law_pick") (Pr K 2 g__law_pickS) := by
  obtain ⟨fd, F⟩ := d__law_pick e
  exact ⟨fd, _, fnF_ly (b := b__law_pickS) (k := 9) F sc__law_pick (ls_ret (le_op2 lo_ixS le_var (le_call (la_cons le_var (la_cons (le_opn lo_len (la_cons le_var la_nil)) la_nil))))) (fun cdv A outer s H E hr tk => (pssz_ret (fe_ixs (pv 1) (pe_fk (fk__law_draw e) (hr.mono (by omega)) (px tk) rfl (gl e 22 rfl) (pa_cons (pv 0) (pa_cons (pe_callB call_len rfl (fr e 20 rfl) boot_len (pa_cons (pv 1) pa_nil)) pa_nil))) (fun _ _ => rfl)))), F.bindsN (fun _ _ _ _ _ _ us hl => match us, hl with | [_, _], _ => rfl), F.kp⟩
abbrev N__law_signs : List Str := []
theorem sc__law_signs : FnScope N__law_signs [] (defScope s__law_signs) := ⟨rfl, rfl, rfl, by decide +kernel, rfl, by decide +kernel, by decide +kernel⟩
@[reducible] def b__law_signs : List Sl → W Out := (dRet (dC (.str (" !\"#$&'()*+,-./0123456789:;<=>?@ABCDEFGHIJKLMNOPQRSTUVWXYZ[\\]^_`abcdefghijklmnopqrstuvwxyz{|}~" : Str))))
def g__law_signs : List D → W D := dBody N__law_signs b__law_signs
theorem fk__law_signs (e : En K mg base) : Fk PW w K mg base 2 (ga K "_law_signs") (Pr K 0 g__law_signs) := by
  obtain ⟨fd, F⟩ := d__law_signs e
  exact ⟨fd, _, fn_ly (b := b__law_signs) (k := 1) F sc__law_signs (ls_ret le_str) (fun cdv A outer s H E hr tk => (pss_one (ps_ret pe_str))), F.bindsN (fun _ _ _ _ _ _ us hl => match us, hl with | [], _ => rfl), F.kp⟩
theorem choose_spec__law_signs (e : En K mg base) : FunD K "_law_signs" "_law_signs" (defArgs s__law_signs) (defBody s__law_signs) (defScope s__law_signs) [] [] (ga K "_law_signs") (Classical.choose (d__law_signs e)) := Classical.choose_spec (d__law_signs e)
theorem choose_b__law_signs (e : En K mg base) : Binds K (Classical.choose (d__law_signs e)) [] [] := (choose_spec__law_signs e).bindsN (fun _ _ _ _ _ _ us hl => match us, hl with | [], _ => rfl)
abbrev N__law_few : List Str := ["_law_pen_here", "_law_some", "_law_rare", "_law_k"]
theorem sc__law_few : FnScope N__law_few ["_law_pen_here"] (defScope s__law_few) := ⟨rfl, rfl, rfl, by decide +kernel, rfl, by decide +kernel, by decide +kernel⟩
@[reducible] def b__law_few : List Sl → W Out := (dSeq (dAsg (dLst (dCons (dCall 2 g__law_pick (dCons (dVar 0) (dCons (dC (.str (" !\"#$&'()*+,-./0123456789:;<=>?@ABCDEFGHIJKLMNOPQRSTUVWXYZ[\\]^_`abcdefghijklmnoprstuvwxyz{|}~" : Str))) dNil))) (dCons (dCall 2 g__law_pick (dCons (dVar 0) (dCons (dC (.str ("yz" : Str))) dNil))) (dCons (dCall 2 g__law_pick (dCons (dVar 0) (dCons (dC (.str ("(" : Str))) dNil))) dNil)))) (dName 1))
  (dSeq (dAsg (dMs (joinD) (dC (.str ("" : Str))) (dCons (dLc (dIR1 (dCons (dC (.int 3)) dNil)) (dName 3) (dTest (dOp2 (inD true) (dOp2 ixD (dVar 1) (dVar 3)) (dSl (dVar 1) dNoPart (dPart (dVar 3))))) (dOp2 ixD (dVar 1) (dVar 3)) [3]) dNil)) (dName 2))
  (dRet (dCall 2 g__law_pick (dCons (dVar 0) (dCons (dLst (dCons (dC (.str ("ab" : Str))) (dCons (dC (.str ("ab" : Str))) (dCons (dC (.str ("abc" : Str))) (dCons (dC (.str ("abc" : Str))) (dCons (dC (.str ("a " : Str))) (dCons (dC (.str ("x~" : Str))) (dCons (dC (.str ("01" : Str))) (dCons (dC (.str ("\"\\" : Str))) (dCons (dVar 2) dNil)))))))))) dNil))))))
def g__law_few : List D → W D := dBody N__law_few b__law_few
theorem fk__law_few (e : En K mg base) : Fk PW w K mg base 18 (ga K "_law_few") (Pr K 1 g__law_few) := by
  obtain ⟨fd, F⟩ := d__law_few e
  exact ⟨fd, _, fn_ly (b := b__law_few) (k := 17) F sc__law_few (ls_seq (ls_asg (le_lst (la_cons (le_call (la_cons le_var (la_cons le_str la_nil))) (la_cons (le_call (la_cons le_var (la_cons le_str la_nil))) (la_cons (le_call (la_cons le_var (la_cons le_str la_nil))) la_nil)))) lg_name)
  (ls_seq (ls_asg (le_ms lo_join le_str (la_cons (le_lc (li_range1 (la_cons le_int la_nil)) lg_name (lt_test (le_op2 lo_in (le_op2 lo_ix le_var le_var) (le_sl le_var lp_none (lp_some le_var)))) (le_op2 lo_ix le_var le_var) (fun _ h => h)) la_nil)) lg_name)
  (ls_ret (le_call (la_cons le_var (la_cons (le_lst (la_cons le_str (la_cons le_str (la_cons le_str (la_cons le_str (la_cons le_str (la_cons le_str (la_cons le_str (la_cons le_str (la_cons le_var la_nil)))))))))) la_nil)))))) (fun cdv A outer s H E hr tk => (pss_cons (ps_set (i := 1) sc__law_few.nd rfl (by first | exact Or.inl rfl | exact Or.inr rfl) (pe_lst (pa_cons (pe_fk (fk__law_pick e) (hr.mono (by omega)) (px tk) rfl (gl e 23 rfl) (pa_cons (pv 0) (pa_cons (pe_crepl (k := 0) (choose_spec__law_signs e) sc__law_signs (choose_b__law_signs e) (hr.mono (by omega)) rfl (gl e 25 rfl) (by decide) (by decide +kernel) (by decide +kernel)) pa_nil))) (pa_cons (pe_fk (fk__law_pick e) (hr.mono (by omega)) (px tk) rfl (gl e 23 rfl) (pa_cons (pv 0) (pa_cons pe_str pa_nil))) (pa_cons (pe_fk (fk__law_pick e) (hr.mono (by omega)) (px tk) rfl (gl e 23 rfl) (pa_cons (pv 0) (pa_cons pe_str pa_nil))) pa_nil)))))
  (pss_cons (ps_set (i := 2) sc__law_few.nd rfl (by first | exact Or.inl rfl | exact Or.inr rfl) (pe_bm PySem.F.plainAttrs_str PySem.F.slot_str_join PySem.F.type_str_join mt_join pe_str (pa_cons (pe_lc (own := [("_law_k", 3)]) rfl sc__law_few.nd (pi_range1 rfl (fr e 24 rfl) (pa_cons pe_int pa_nil)) (blkOk_by (N := N__law_few) (sc := defScope s__law_few) (by decide +kernel)) (fun _ _ _ _ _ => (pg_name (i := 3) sc__law_few.nd rfl (by first | exact Or.inl rfl | exact Or.inr rfl))) (fun _ _ _ _ _ => (pts_one (pt_cmpR op_notInU (pe_ix ix_seq (pv 1) (pv 3) (fun _ _ => rfl)) (pe_slice sl_U (pv 1) po_none (po_some (pv 3))) rfl))) (fun _ _ _ _ _ => (pe_ix ix_seq (pv 1) (pv 3) (fun _ _ => rfl)))) pa_nil)))
  (pss_one (ps_ret (pe_fk (fk__law_pick e) (hr.mono (by omega)) (px tk) rfl (gl e 23 rfl) (pa_cons (pv 0) (pa_cons (pe_lst (pa_cons pe_str (pa_cons pe_str (pa_cons pe_str (pa_cons pe_str (pa_cons pe_str (pa_cons pe_str (pa_cons pe_str (pa_cons pe_str (pa_cons (pv 2) pa_nil)))))))))) pa_nil)))))))), F.bindsN (fun _ _ _ _ _ _ us hl => match us, hl with | [_], _ => rfl), F.kp⟩
abbrev N__law_row : List Str := ["_law_pen_here", "_law_signs_here", "_law_least", "_law_most_letters", "_law_span", "_law_k"]
theorem sc__law_row : FnScope N__law_row ["_law_pen_here", "_law_signs_here", "_law_least", "_law_most_letters"] (defScope s__law_row) := ⟨rfl, rfl, rfl, by decide +kernel, rfl, by decide +kernel, by decide +kernel⟩
@[reducible] def b__law_row : List Sl → W Out := (dSeq (dAsg (dOp2 addD (dVar 2) (dCall 2 g__law_draw (dCons (dVar 0) (dCons (dOp2 addD (dOp2 subD (dVar 3) (dVar 2)) (dC (.int 1))) dNil)))) (dName 4))
  (dRet (dMs (joinD) (dC (.str ("" : Str))) (dCons (dLc (dIR1 (dCons (dVar 4) dNil)) (dName 5) dYes (dCall 2 g__law_pickS (dCons (dVar 0) (dCons (dVar 1) dNil))) [5]) dNil))))
def g__law_row : List D → W D := dBody N__law_row b__law_row
theorem fk__law_row (e : En K mg base) : Fk PW w K mg base 18 (ga K "_law_row") (Pr K 4 g__law_row) := by
  obtain ⟨fd, F⟩ := d__law_row e
  exact ⟨fd, _, fn_ly (b := b__law_row) (k := 17) F sc__law_row (ls_seq (ls_asg (le_op2 lo_add le_var (le_call (la_cons le_var (la_cons (le_op2 lo_add (le_op2 lo_sub le_var le_var) le_int) la_nil)))) lg_name)
  (ls_ret (le_ms lo_join le_str (la_cons (le_lc (li_range1 (la_cons le_var la_nil)) lg_name lt_yes (le_call (la_cons le_var (la_cons le_var la_nil))) (fun _ h => h)) la_nil)))) (fun cdv A outer s H E hr tk => (pss_cons (ps_set (i := 4) sc__law_row.nd rfl (by first | exact Or.inl rfl | exact Or.inr rfl) (pe_op op_addU (pv 2) (pe_fk (fk__law_draw e) (hr.mono (by omega)) (px tk) rfl (gl e 22 rfl) (pa_cons (pv 0) (pa_cons (pe_op op_addU (pe_op op_sub (pv 3) (pv 2)) pe_int) pa_nil)))))
  (pss_one (ps_ret (pe_bm PySem.F.plainAttrs_str PySem.F.slot_str_join PySem.F.type_str_join mt_join pe_str (pa_cons (pe_lc (own := [("_law_k", 5)]) rfl sc__law_row.nd (pi_range1 rfl (fr e 24 rfl) (pa_cons (pv 4) pa_nil)) (blkOk_by (N := N__law_row) (sc := defScope s__law_row) (by decide +kernel)) (fun _ _ _ _ _ => (pg_name (i := 5) sc__law_row.nd rfl (by first | exact Or.inl rfl | exact Or.inr rfl))) (fun _ _ _ _ _ => pts_nil) (fun _ _ _ _ _ => (pe_fk (fk__law_pickS e) (hr.mono (by omega)) px0 rfl (gl e 23 rfl) (pa_cons (pv 0) (pa_cons (pv 1) pa_nil))))) pa_nil)))))), F.bindsN (fun _ _ _ _ _ _ us hl => match us, hl with | [_, _, _, _], _ => rfl), F.kp⟩
theorem fF__law_row (e : En K mg base) : FkF PW w K mg base 18 (ga K "_law_row") (Pr K 4 g__law_row) := by
  obtain ⟨fd, F⟩ := d__law_row e
  exact ⟨fd, _, fnF_ly (b := b__law_row) (k := 17) F sc__law_row (ls_seq (ls_asg (le_op2 lo_add le_var (le_call (la_cons le_var (la_cons (le_op2 lo_add (le_op2 lo_sub le_var le_var) le_int) la_nil)))) lg_name)
  (ls_ret (le_join (li_range1 (la_cons le_var la_nil)) lg_name (le_call (la_cons le_var (la_cons le_var la_nil))) (fun _ h => h)))) (fun cdv A outer s H E hr tk => (pssz_cons (fun _ _ _ _ h z => z.mono h (Nat.le_refl _)) (ps_set (i := 4) sc__law_row.nd rfl (by first | exact Or.inl rfl | exact Or.inr rfl) (pe_op op_addU (pv 2) (pe_fk (fk__law_draw e) (hr.mono (by omega)) (px tk) rfl (gl e 22 rfl) (pa_cons (pv 0) (pa_cons (pe_op op_addU (pe_op op_sub (pv 3) (pv 2)) pe_int) pa_nil)))))
  (pssz_ret (fe_join (own := [("_law_k", 5)]) rfl sc__law_row.nd (pi_range1 rfl (fr e 24 rfl) (pa_cons (pv 4) pa_nil)) (blkOk_by (N := N__law_row) (sc := defScope s__law_row) (by decide +kernel)) (fun _ _ _ _ _ => (pg_name (i := 5) sc__law_row.nd rfl (by first | exact Or.inl rfl | exact Or.inr rfl))) (fun _ _ _ _ _ => (fe_fk (fF__law_pick e) (hr.mono (by omega)) px0 rfl (gl e 23 rfl) (pa_cons (pv 0) (pa_cons (pv 1) pa_nil)))))))), F.bindsN (fun _ _ _ _ _ _ us hl => match us, hl with | [_, _, _, _], _ => rfl), F.kp⟩
abbrev N__law_deed : List Str := ["_law_pen_here", "_law_signs_here", "_law_wide", "_law_sort"]
theorem sc__law_deed : FnScope N__law_deed ["_law_pen_here", "_law_signs_here", "_law_wide"] (defScope s__law_deed) := ⟨rfl, rfl, rfl, by decide +kernel, rfl, by decide +kernel, by decide +kernel⟩
@[reducible] def b__law_deed : List Sl → W Out := (dSeq (dAsg (dCall 2 g__law_pick (dCons (dVar 0) (dCons (dLst (dCons (dC (.str ("first" : Str))) (dCons (dC (.str ("first" : Str))) (dCons (dC (.str ("every" : Str))) (dCons (dC (.str ("every" : Str))) (dCons (dC (.str ("swap" : Str))) (dCons (dC (.str ("front" : Str))) (dCons (dC (.str ("behind" : Str))) dNil)))))))) dNil))) (dName 3))
  (dSeq (dIf (dTest (dOp2 eqD (dVar 3) (dC (.str ("swap" : Str))))) (dRet (dCall 2 g__law_pick (dCons (dVar 0) (dCons (dLst (dCons (dTup (dCons (dC (.str ("swap" : Str))) (dCons (dSl (dVar 1) dNoPart (dPart (dC (.int 2)))) (dCons (dRevS (dSl (dVar 1) dNoPart (dPart (dC (.int 2))))) dNil)))) (dCons (dTup (dCons (dC (.str ("swap" : Str))) (dCons (dOp2 ixD (dVar 1) (dC (.int 0))) (dCons (dOp2 ixD (dVar 1) (dC (.int 1))) dNil)))) (dCons (dTup (dCons (dC (.str ("swap" : Str))) (dCons (dSl (dVar 1) dNoPart (dPart (dC (.int 2)))) (dCons (dOp2 mulUD (dOp2 ixD (dVar 1) (dC (.int 0))) (dC (.int 2))) dNil)))) (dCons (dTup (dCons (dC (.str ("swap" : Str))) (dCons (dOp2 ixD (dVar 1) (dC (.int 1))) (dCons (dC (.str ("q" : Str))) dNil)))) dNil))))) dNil)))) dNext)
  (dSeq (dIf (dTest (dOp2 (inD false) (dVar 3) (dTup (dCons (dC (.str ("front" : Str))) (dCons (dC (.str ("behind" : Str))) dNil))))) (dRet (dTup (dCons (dVar 3) (dCons (dCall 4 g__law_row (dCons (dVar 0) (dCons (dVar 1) (dCons (dC (.int 1)) (dCons (dVar 2) dNil))))) dNil)))) dNext)
  (dRet (dGt (dVar 3) (dCall 4 g__law_row (dCons (dVar 0) (dCons (dVar 1) (dCons (dC (.int 1)) (dCons (dVar 2) dNil))))) (dCall 4 g__law_row (dCons (dVar 0) (dCons (dVar 1) (dCons (dC (.int 0)) (dCons (dVar 2) dNil))))))))))
def g__law_deed : List D → W D := dBody N__law_deed b__law_deed
theorem fk__law_deed (e : En K mg base) : Fk PW w K mg base 26 (ga K "_law_deed") (Pr K 3 g__law_deed) := by
  obtain ⟨fd, F⟩ := d__law_deed e
  exact ⟨fd, _, fnT_ly (b := b__law_deed) (k := 25) F sc__law_deed (by decide +kernel) (by decide) (ls_seq (ls_asg (le_call (la_cons le_var (la_cons (le_lst (la_cons le_str (la_cons le_str (la_cons le_str (la_cons le_str (la_cons le_str (la_cons le_str (la_cons le_str la_nil)))))))) la_nil))) lg_name)
  (ls_seq (ls_if (lt_test (le_op2 lo_eq le_var le_str)) (ls_ret (le_call (la_cons le_var (la_cons (le_lst (la_cons (le_tup (la_cons le_str (la_cons (le_sl le_var lp_none (lp_some le_int)) (la_cons (le_revS (le_sl le_var lp_none (lp_some le_int))) la_nil)))) (la_cons (le_tup (la_cons le_str (la_cons (le_op2 lo_ix le_var le_int) (la_cons (le_op2 lo_ix le_var le_int) la_nil)))) (la_cons (le_tup (la_cons le_str (la_cons (le_sl le_var lp_none (lp_some le_int)) (la_cons (le_op2 lo_mulU (le_op2 lo_ix le_var le_int) le_int) la_nil)))) (la_cons (le_tup (la_cons le_str (la_cons (le_op2 lo_ix le_var le_int) (la_cons le_str la_nil)))) la_nil))))) la_nil)))) ls_next)
  (ls_seq (ls_if (lt_test (le_op2 lo_in le_var (le_tup (la_cons le_str (la_cons le_str la_nil))))) (ls_ret (le_tup (la_cons le_var (la_cons (le_call (la_cons le_var (la_cons le_var (la_cons le_int (la_cons le_var la_nil))))) la_nil)))) ls_next)
  (ls_ret (le_gt le_var (le_call (la_cons le_var (la_cons le_var (la_cons le_int (la_cons le_var la_nil))))) (le_call (la_cons le_var (la_cons le_var (la_cons le_int (la_cons le_var la_nil)))))))))) (fun cdv A outer s H E hr tk => (psst_cons (PST.of (ps_set (i := 3) sc__law_deed.nd rfl (by first | exact Or.inl rfl | exact Or.inr rfl) (pe_fk (fk__law_pick e) (hr.mono (by omega)) (px tk) rfl (gl e 23 rfl) (pa_cons (pv 0) (pa_cons (pe_lst (pa_cons pe_str (pa_cons pe_str (pa_cons pe_str (pa_cons pe_str (pa_cons pe_str (pa_cons pe_str (pa_cons pe_str pa_nil)))))))) pa_nil)))))
  (psst_cons (PST.of (ps_if (pt_cmpR (op_eqU hr.units) (pv 3) pe_str (nomark _)) (pss_one (ps_ret (pe_fk (fk__law_pick e) (hr.mono (by omega)) (px tk) rfl (gl e 23 rfl) (pa_cons (pv 0) (pa_cons (pe_lst (pa_cons (pe_tup (pa_cons pe_str (pa_cons (pe_slice sl_U (pv 1) po_none (po_some pe_int)) (pa_cons (pe_revS (pe_slice sl_U (pv 1) po_none (po_some pe_int))) pa_nil)))) (pa_cons (pe_tup (pa_cons pe_str (pa_cons (pe_ix ix_seq (pv 1) pe_int (fun _ _ => rfl)) (pa_cons (pe_ix ix_seq (pv 1) pe_int (fun _ _ => rfl)) pa_nil)))) (pa_cons (pe_tup (pa_cons pe_str (pa_cons (pe_slice sl_U (pv 1) po_none (po_some pe_int)) (pa_cons (pe_op op_mulU (pe_ix ix_seq (pv 1) pe_int (fun _ _ => rfl)) pe_int) pa_nil)))) (pa_cons (pe_tup (pa_cons pe_str (pa_cons (pe_ix ix_seq (pv 1) pe_int (fun _ _ => rfl)) (pa_cons pe_str pa_nil)))) pa_nil))))) pa_nil))))) pss_nil))
  (psst_cons (PST.of (ps_if (pt_cmpR op_inU (pv 3) (pe_tup (pa_cons pe_str (pa_cons pe_str pa_nil))) rfl) (pss_one (ps_ret (pe_tup (pa_cons (pv 3) (pa_cons (pe_fk (fk__law_row e) (hr.mono (by omega)) (px tk) rfl (gl e 26 rfl) (pa_cons (pv 0) (pa_cons (pv 1) (pa_cons pe_int (pa_cons (pv 2) pa_nil))))) pa_nil))))) pss_nil))
  (psst_one (pst_ret (pet_gt (pv 3) (fe_fk (fF__law_row e) (hr.mono (by omega)) (px tk) rfl (gl e 26 rfl) (pa_cons (pv 0) (pa_cons (pv 1) (pa_cons pe_int (pa_cons (pv 2) pa_nil))))) (fe_fk (fF__law_row e) (hr.mono (by omega)) (px tk) rfl (gl e 26 rfl) (pa_cons (pv 0) (pa_cons (pv 1) (pa_cons pe_int (pa_cons (pv 2) pa_nil)))))))))))), F.bindsN (fun _ _ _ _ _ _ us hl => match us, hl with | [_, _, _], _ => rfl), F.kp⟩
abbrev N__law_jdeeds : List Str := ["_law_pen_here", "_law_signs_here", "_law_most_deeds", "_law_wide", "_law_k"]
theorem sc__law_jdeeds : FnScope N__law_jdeeds ["_law_pen_here", "_law_signs_here", "_law_most_deeds", "_law_wide"] (defScope s__law_jdeeds) := ⟨rfl, rfl, rfl, by decide +kernel, rfl, by decide +kernel, by decide +kernel⟩
@[reducible] def b__law_jdeeds : List Sl → W Out := (dRet (dLc (dIR1 (dCons (dCall 2 g__law_draw (dCons (dVar 0) (dCons (dOp2 addD (dVar 2) (dC (.int 1))) dNil))) dNil)) (dName 4) dYes (dCall 3 g__law_deed (dCons (dVar 0) (dCons (dVar 1) (dCons (dVar 3) dNil)))) [4]))
def g__law_jdeeds : List D → W D := dBody N__law_jdeeds b__law_jdeeds
theorem fk__law_jdeeds (e : En K mg base) : Fk PW w K mg base 34 (ga K "_law_jdeeds") (Pr K 4 g__law_jdeeds) := by
  obtain ⟨fd, F⟩ := d__law_jdeeds e
  exact ⟨fd, _, fn_ly (b := b__law_jdeeds) (k := 33) F sc__law_jdeeds (ls_ret (le_lc (li_range1 (la_cons (le_call (la_cons le_var (la_cons (le_op2 lo_add le_var le_int) la_nil))) la_nil)) lg_name lt_yes (le_call (la_cons le_var (la_cons le_var (la_cons le_var la_nil)))) (fun _ h => h))) (fun cdv A outer s H E hr tk => (pss_one (ps_ret (pe_lc (own := [("_law_k", 4)]) rfl sc__law_jdeeds.nd (pi_range1 rfl (fr e 24 rfl) (pa_cons (pe_fk (fk__law_draw e) (hr.mono (by omega)) (px tk) rfl (gl e 22 rfl) (pa_cons (pv 0) (pa_cons (pe_op op_addU (pv 2) pe_int) pa_nil))) pa_nil)) (blkOk_by (N := N__law_jdeeds) (sc := defScope s__law_jdeeds) (by decide +kernel)) (fun _ _ _ _ _ => (pg_name (i := 4) sc__law_jdeeds.nd rfl (by first | exact Or.inl rfl | exact Or.inr rfl))) (fun _ _ _ _ _ => pts_nil) (fun _ _ _ _ _ => (pe_fk (fk__law_deed e) (hr.mono (by omega)) px0 rfl (gl e 27 rfl) (pa_cons (pv 0) (pa_cons (pv 1) (pa_cons (pv 3) pa_nil))))))))), F.bindsN (fun _ _ _ _ _ _ us hl => match us, hl with | [_, _, _, _], _ => rfl), F.kp⟩
abbrev N__law_deed_done : List Str := ["_law_deed_here", "_law_row_here", "_law_sort", "_law_moved", "_law_sign", "_law_was", "_law_found", "_law_k", "_law_places_here"]
theorem sc__law_deed_done : FnScope N__law_deed_done ["_law_deed_here", "_law_row_here"] (defScope s__law_deed_done) := ⟨rfl, rfl, rfl, by decide +kernel, rfl, by decide +kernel, by decide +kernel⟩
@[reducible] def b__law_deed_done : List Sl → W Out := (dSeq (dAsg (dOp2 ixD (dVar 0) (dC (.int 0))) (dName 2))
  (dSeq (dIf (dTest (dOp2 eqD (dVar 2) (dC (.str ("front" : Str))))) (dRet (dTup (dCons (dOp2 addD (dOp2 ixD (dVar 0) (dC (.int 1))) (dVar 1)) (dCons (dC (.bl true)) dNil)))) dNext)
  (dSeq (dIf (dTest (dOp2 eqD (dVar 2) (dC (.str ("behind" : Str))))) (dRet (dTup (dCons (dOp2 addD (dVar 1) (dOp2 ixD (dVar 0) (dC (.int 1)))) (dCons (dC (.bl true)) dNil)))) dNext)
  (dSeq (dIf (dTest (dOp2 eqD (dVar 2) (dC (.str ("swap" : Str))))) (dSeq (dAsg (dLc (dIS (dVar 1)) (dName 4) dYes (dIfE (dTest (dOp2 (inD false) (dVar 4) (dOp2 ixD (dVar 0) (dC (.int 1))))) (dOp2 ixD (dOp2 ixD (dVar 0) (dC (.int 2))) (dMs (indexD) (dOp2 ixD (dVar 0) (dC (.int 1))) (dCons (dVar 4) dNil))) (dVar 4)) [4]) (dName 3))
  (dRet (dTup (dCons (dMs (joinD) (dC (.str ("" : Str))) (dCons (dVar 3) dNil)) (dCons (dC (.bl true)) dNil))))) dNext)
  (dSeq (dAsg (dTup (dCons (dOp2 ixD (dVar 0) (dC (.int 1))) (dCons (dC (.str ("" : Str))) (dCons (dC (.int 0)) (dCons (dC (.int 0)) dNil))))) (dGTup 4 (dGCons (dName 5) (dGCons (dName 6) (dGCons (dName 7) (dGCons (dName 8) dGNil))))))
  (dSeq (dWhile (dTest (dOp2 ltD (dVar 7) (dOpn lenD (dCons (dVar 1) dNil)))) (dIf (dAnd (dTest (dOp2 eqD (dSl (dVar 1) (dPart (dVar 7)) (dPart (dOp2 addD (dVar 7) (dOpn lenD (dCons (dVar 5) dNil))))) (dVar 5))) (dOr (dTest (dOp2 eqD (dVar 2) (dC (.str ("every" : Str))))) (dTest (dOp2 eqD (dVar 8) (dC (.int 0)))))) (dSeq (dPar 6 8 (dCons (dOp2 addD (dVar 6) (dOp2 ixD (dVar 0) (dC (.int 2)))) (dCons (dOp2 addD (dVar 8) (dC (.int 1))) dNil)))
  (dAsg (dOp2 addD (dVar 7) (dOpn lenD (dCons (dVar 5) dNil))) (dName 7))) (dPar 6 7 (dCons (dOp2 addD (dVar 6) (dOp2 ixD (dVar 1) (dVar 7))) (dCons (dOp2 addD (dVar 7) (dC (.int 1))) dNil)))))
  (dRet (dTup (dCons (dVar 6) (dCons (dOp2 gtD (dVar 8) (dC (.int 0))) dNil))))))))))
def g__law_deed_done : List D → W D := dBody N__law_deed_done b__law_deed_done
theorem fk__law_deed_done (e : En K mg base) : Fk PW w K mg base 2 (ga K "_law_deed_done") (Pr K 2 g__law_deed_done) := by
  obtain ⟨fd, F⟩ := d__law_deed_done e
  exact ⟨fd, _, fn_ly (b := b__law_deed_done) (k := 1) F sc__law_deed_done (ls_seq (ls_asg (le_op2 lo_ix le_var le_int) lg_name)
  (ls_seq (ls_if (lt_test (le_op2 lo_eq le_var le_str)) (ls_ret (le_tup (la_cons (le_op2 lo_add (le_op2 lo_ix le_var le_int) le_var) (la_cons le_bl la_nil)))) ls_next)
  (ls_seq (ls_if (lt_test (le_op2 lo_eq le_var le_str)) (ls_ret (le_tup (la_cons (le_op2 lo_add le_var (le_op2 lo_ix le_var le_int)) (la_cons le_bl la_nil)))) ls_next)
  (ls_seq (ls_if (lt_test (le_op2 lo_eq le_var le_str)) (ls_seq (ls_asg (le_lc (li_str le_var) lg_name lt_yes (le_if (lt_test (le_op2 lo_in le_var (le_op2 lo_ix le_var le_int))) (le_op2 lo_ix (le_op2 lo_ix le_var le_int) (le_ms lo_index (le_op2 lo_ix le_var le_int) (la_cons le_var la_nil))) le_var) (fun _ h => h)) lg_name)
  (ls_ret (le_tup (la_cons (le_ms lo_join le_str (la_cons le_var la_nil)) (la_cons le_bl la_nil))))) ls_next)
  (ls_seq (ls_asg (le_tup (la_cons (le_op2 lo_ix le_var le_int) (la_cons le_str (la_cons le_int (la_cons le_int la_nil))))) (lg_tup (lgs_cons lg_name (lgs_cons lg_name (lgs_cons lg_name (lgs_cons lg_name lgs_nil))))))
  (ls_seq (ls_while (lt_test (le_op2 lo_cmp le_var (le_opn lo_len (la_cons le_var la_nil)))) (ls_if (lt_and (lt_test (le_op2 lo_eq (le_sl le_var (lp_some le_var) (lp_some (le_op2 lo_add le_var (le_opn lo_len (la_cons le_var la_nil))))) le_var)) (lt_or (lt_test (le_op2 lo_eq le_var le_str)) (lt_test (le_op2 lo_eq le_var le_int)))) (ls_seq (ls_par (la_cons (le_op2 lo_add le_var (le_op2 lo_ix le_var le_int)) (la_cons (le_op2 lo_add le_var le_int) la_nil)))
  (ls_asg (le_op2 lo_add le_var (le_opn lo_len (la_cons le_var la_nil))) lg_name)) (ls_par (la_cons (le_op2 lo_add le_var (le_op2 lo_ix le_var le_var)) (la_cons (le_op2 lo_add le_var le_int) la_nil)))))
  (ls_ret (le_tup (la_cons le_var (la_cons (le_op2 lo_cmp le_var le_int) la_nil)))))))))) (fun cdv A outer s H E hr tk => (pss_cons (ps_set (i := 2) sc__law_deed_done.nd rfl (by first | exact Or.inl rfl | exact Or.inr rfl) (pe_ix ix_seq (pv 0) pe_int (fun _ _ => rfl)))
  (pss_cons (ps_if (pt_cmpR (op_eqU hr.units) (pv 2) pe_str (nomark _)) (pss_one (ps_ret (pe_tup (pa_cons (pe_op op_addU (pe_ix ix_seq (pv 0) pe_int (fun _ _ => rfl)) (pv 1)) (pa_cons pe_bl pa_nil))))) pss_nil)
  (pss_cons (ps_if (pt_cmpR (op_eqU hr.units) (pv 2) pe_str (nomark _)) (pss_one (ps_ret (pe_tup (pa_cons (pe_op op_addU (pv 1) (pe_ix ix_seq (pv 0) pe_int (fun _ _ => rfl))) (pa_cons pe_bl pa_nil))))) pss_nil)
  (pss_cons (ps_if (pt_cmpR (op_eqU hr.units) (pv 2) pe_str (nomark _)) (pss_cons (by first | exact (ps_setLc (i := 3) (own := [("_law_sign", 4)]) rfl sc__law_deed_done.nd rfl rfl (sw_true rfl rfl rfl (by decide +kernel)) (pi_str (pv 1)) (blkOk_by (N := N__law_deed_done) (sc := defScope s__law_deed_done) (by decide +kernel)) (fun _ _ _ _ _ => (pg_name (i := 4) sc__law_deed_done.nd rfl (by first | exact Or.inl rfl | exact Or.inr rfl))) (fun _ _ _ _ _ => pts_nil) (fun _ _ _ _ _ => (pe_ifExp (pt_cmpR op_inU (pv 4) (pe_ix ix_seq (pv 0) pe_int (fun _ _ => rfl)) rfl) (pe_ix ix_seq (pe_ix ix_seq (pv 0) pe_int (fun _ _ => rfl)) (pe_bm PySem.F.plainAttrs_str PySem.F.slot_str_index PySem.F.type_str_index mt_sindex (pe_ix ix_seq (pv 0) pe_int (fun _ _ => rfl)) (pa_cons (pv 4) pa_nil)) (fun _ _ => rfl)) (pv 4)))) | exact (ps_set (i := 3) sc__law_deed_done.nd rfl (by first | exact Or.inl rfl | exact Or.inr rfl) (pe_lc (own := [("_law_sign", 4)]) rfl sc__law_deed_done.nd (pi_str (pv 1)) (blkOk_by (N := N__law_deed_done) (sc := defScope s__law_deed_done) (by decide +kernel)) (fun _ _ _ _ _ => (pg_name (i := 4) sc__law_deed_done.nd rfl (by first | exact Or.inl rfl | exact Or.inr rfl))) (fun _ _ _ _ _ => pts_nil) (fun _ _ _ _ _ => (pe_ifExp (pt_cmpR op_inU (pv 4) (pe_ix ix_seq (pv 0) pe_int (fun _ _ => rfl)) rfl) (pe_ix ix_seq (pe_ix ix_seq (pv 0) pe_int (fun _ _ => rfl)) (pe_bm PySem.F.plainAttrs_str PySem.F.slot_str_index PySem.F.type_str_index mt_sindex (pe_ix ix_seq (pv 0) pe_int (fun _ _ => rfl)) (pa_cons (pv 4) pa_nil)) (fun _ _ => rfl)) (pv 4))))))
  (pss_one (ps_ret (pe_tup (pa_cons (pe_bm PySem.F.plainAttrs_str PySem.F.slot_str_join PySem.F.type_str_join mt_join pe_str (pa_cons (pv 3) pa_nil)) (pa_cons pe_bl pa_nil)))))) pss_nil)
  (pss_cons (ps_asg (pe_tup (pa_cons (pe_ix ix_seq (pv 0) pe_int (fun _ _ => rfl)) (pa_cons pe_str (pa_cons pe_int (pa_cons pe_int pa_nil))))) (pg_tup (n := 4) rfl (pgs_cons (pg_name (i := 5) sc__law_deed_done.nd rfl (by first | exact Or.inl rfl | exact Or.inr rfl)) (pgs_cons (pg_name (i := 6) sc__law_deed_done.nd rfl (by first | exact Or.inl rfl | exact Or.inr rfl)) (pgs_cons (pg_name (i := 7) sc__law_deed_done.nd rfl (by first | exact Or.inl rfl | exact Or.inr rfl)) (pgs_cons (pg_name (i := 8) sc__law_deed_done.nd rfl (by first | exact Or.inl rfl | exact Or.inr rfl)) pgs_nil))))))
  (pss_cons (ps_while (passes_of rfl) (pt_cmpR op_lt (pv 7) (pe_callB call_len rfl (fr e 20 rfl) boot_len (pa_cons (pv 1) pa_nil)) (nomark _)) (pss_one (ps_if (PW.pt (pw_and (pt_cmpR (op_eqU hr.units) (pe_slice sl_U (pv 1) (po_some (pv 7)) (po_some (pe_op op_addU (pv 7) (pe_callB call_len rfl (fr e 20 rfl) boot_len (pa_cons (pv 5) pa_nil))))) (pv 5) (nomark _)) (pw_and1 (PW.pt (pw_or (pt_cmpR (op_eqU hr.units) (pv 2) pe_str (nomark _)) (pw_or1 (pt_cmpR (op_eqU hr.units) (pv 8) pe_int (nomark _)))))))) (pss_cons (ps_par (i := 6) (j := 8) rfl sc__law_deed_done.nd rfl rfl (by decide) rfl rfl (pa_cons (pe_op op_addU (pv 6) (pe_ix ix_seq (pv 0) pe_int (fun _ _ => rfl))) (pa_cons (pe_op op_addU (pv 8) pe_int) pa_nil)) rfl)
  (pss_one (ps_set (i := 7) sc__law_deed_done.nd rfl (by first | exact Or.inl rfl | exact Or.inr rfl) (pe_op op_addU (pv 7) (pe_callB call_len rfl (fr e 20 rfl) boot_len (pa_cons (pv 5) pa_nil)))))) (pss_one (ps_par (i := 6) (j := 7) rfl sc__law_deed_done.nd rfl rfl (by decide) rfl rfl (pa_cons (pe_op op_addU (pv 6) (pe_ix ix_seq (pv 1) (pv 7) (fun _ _ => rfl))) (pa_cons (pe_op op_addU (pv 7) pe_int) pa_nil)) rfl)))))
  (pss_one (ps_ret (pe_tup (pa_cons (pv 6) (pa_cons (pe_cmpR op_gt (pv 8) pe_int (nomark _)) pa_nil)))))))))))), F.bindsN (fun _ _ _ _ _ _ us hl => match us, hl with | [_, _], _ => rfl), F.kp⟩
abbrev N__law_jdone : List Str := ["_law_deeds", "_law_row_here", "_law_deed_here"]
theorem sc__law_jdone : FnScope N__law_jdone ["_law_deeds", "_law_row_here"] (defScope s__law_jdone) := ⟨rfl, rfl, rfl, by decide +kernel, rfl, by decide +kernel, by decide +kernel⟩
@[reducible] def b__law_jdone : List Sl → W Out := (dSeq (dFor (dIL (dVar 0)) (dName 2) (dAsg (dOp2 ixD (dCall 2 g__law_deed_done (dCons (dVar 2) (dCons (dVar 1) dNil))) (dC (.int 0))) (dName 1)))
  (dRet (dVar 1)))
def g__law_jdone : List D → W D := dBody N__law_jdone b__law_jdone
theorem fk__law_jdone (e : En K mg base) : Fk PW w K mg base 10 (ga K "_law_jdone") (Pr K 2 g__law_jdone) := by
  obtain ⟨fd, F⟩ := d__law_jdone e
  exact ⟨fd, _, fn_ly (b := b__law_jdone) (k := 9) F sc__law_jdone (ls_seq (ls_for (li_list le_var) lg_name (ls_asg (le_op2 lo_ix (le_call (la_cons le_var (la_cons le_var la_nil))) le_int) lg_name))
  (ls_ret le_var)) (fun cdv A outer s H E hr tk => (pss_cons (ps_for (passes_of rfl) rfl (pi_list (pv 0)) (pg_name (i := 2) sc__law_jdone.nd rfl (by first | exact Or.inl rfl | exact Or.inr rfl)) (pss_one (ps_set (i := 1) sc__law_jdone.nd rfl (by first | exact Or.inl rfl | exact Or.inr rfl) (pe_ix ix_seq (pe_fk (fk__law_deed_done e) (hr.mono (by omega)) (px tk) rfl (gl e 28 rfl) (pa_cons (pv 2) (pa_cons (pv 1) pa_nil))) pe_int (fun _ _ => rfl)))))
  (pss_one (ps_ret (pv 1))))), F.bindsN (fun _ _ _ _ _ _ us hl => match us, hl with | [_, _], _ => rfl), F.kp⟩
abbrev N__law_jline : List Str := ["_law_pen_here", "_law_words", "_law_signs_here", "_law_most_letters", "_law_found", "_law_k", "_law_was", "_law_cut"]
theorem sc__law_jline : FnScope N__law_jline ["_law_pen_here", "_law_words", "_law_signs_here", "_law_most_letters"] (defScope s__law_jline) := ⟨rfl, rfl, rfl, by decide +kernel, rfl, by decide +kernel, by decide +kernel⟩
@[reducible] def b__law_jline : List Sl → W Out := (dSeq (dAsg (dC (.str ("" : Str))) (dName 4))
  (dSeq (dFor (dIR1 (dCons (dCall 2 g__law_draw (dCons (dVar 0) (dCons (dC (.int 5)) dNil))) dNil)) (dName 5) (dSeq (dAsg (dCall 2 g__law_pick (dCons (dVar 0) (dCons (dOp2 addD (dOpn listD (dCons (dVar 1) dNil)) (dLst (dCons (dVar 2) dNil))) dNil))) (dName 6))
  (dSeq (dAsg (dCall 2 g__law_draw (dCons (dVar 0) (dCons (dOp2 addD (dOpn lenD (dCons (dVar 6) dNil)) (dC (.int 1))) dNil))) (dName 7))
  (dAsg (dOp2 addD (dVar 4) (dCall 2 g__law_pick (dCons (dVar 0) (dCons (dLst (dCons (dVar 6) (dCons (dSl (dVar 6) dNoPart (dPart (dVar 7))) (dCons (dSl (dVar 6) (dPart (dVar 7)) dNoPart) (dCons (dCall 4 g__law_row (dCons (dVar 0) (dCons (dOp2 addD (dVar 2) (dC (.str ("q" : Str)))) (dCons (dC (.int 0)) (dCons (dC (.int 2)) dNil))))) dNil))))) dNil)))) (dName 4)))))
  (dRet (dSl (dVar 4) dNoPart (dPart (dVar 3))))))
def g__law_jline : List D → W D := dBody N__law_jline b__law_jline
theorem fk__law_jline (e : En K mg base) : Fk PW w K mg base 26 (ga K "_law_jline") (Pr K 4 g__law_jline) := by
  obtain ⟨fd, F⟩ := d__law_jline e
  exact ⟨fd, _, fn_ly (b := b__law_jline) (k := 25) F sc__law_jline (ls_seq (ls_asg le_str lg_name)
  (ls_seq (ls_for (li_range1 (la_cons (le_call (la_cons le_var (la_cons le_int la_nil))) la_nil)) lg_name (ls_seq (ls_asg (le_call (la_cons le_var (la_cons (le_op2 lo_add (le_opn lo_list (la_cons le_var la_nil)) (le_lst (la_cons le_var la_nil))) la_nil))) lg_name)
  (ls_seq (ls_asg (le_call (la_cons le_var (la_cons (le_op2 lo_add (le_opn lo_len (la_cons le_var la_nil)) le_int) la_nil))) lg_name)
  (ls_asg (le_op2 lo_add le_var (le_call (la_cons le_var (la_cons (le_lst (la_cons le_var (la_cons (le_sl le_var lp_none (lp_some le_var)) (la_cons (le_sl le_var (lp_some le_var) lp_none) (la_cons (le_call (la_cons le_var (la_cons (le_op2 lo_add le_var le_str) (la_cons le_int (la_cons le_int la_nil))))) la_nil))))) la_nil)))) lg_name))))
  (ls_ret (le_sl le_var lp_none (lp_some le_var))))) (fun cdv A outer s H E hr tk => (pss_cons (ps_set (i := 4) sc__law_jline.nd rfl (by first | exact Or.inl rfl | exact Or.inr rfl) pe_str)
  (pss_cons (ps_for (passes_of rfl) rfl (pi_range1 rfl (fr e 24 rfl) (pa_cons (pe_fk (fk__law_draw e) (hr.mono (by omega)) (px tk) rfl (gl e 22 rfl) (pa_cons (pv 0) (pa_cons pe_int pa_nil))) pa_nil)) (pg_name (i := 5) sc__law_jline.nd rfl (by first | exact Or.inl rfl | exact Or.inr rfl)) (pss_cons (ps_set (i := 6) sc__law_jline.nd rfl (by first | exact Or.inl rfl | exact Or.inr rfl) (pe_fk (fk__law_pick e) (hr.mono (by omega)) (px tk) rfl (gl e 23 rfl) (pa_cons (pv 0) (pa_cons (pe_op op_addU (pe_callTy call_list_of rfl (fr e 29 rfl) boot_list (pa_cons (pv 1) pa_nil)) (pe_lst (pa_cons (pv 2) pa_nil))) pa_nil))))
  (pss_cons (ps_set (i := 7) sc__law_jline.nd rfl (by first | exact Or.inl rfl | exact Or.inr rfl) (pe_fk (fk__law_draw e) (hr.mono (by omega)) (px tk) rfl (gl e 22 rfl) (pa_cons (pv 0) (pa_cons (pe_op op_addU (pe_callB call_len rfl (fr e 20 rfl) boot_len (pa_cons (pv 6) pa_nil)) pe_int) pa_nil))))
  (pss_one (ps_set (i := 4) sc__law_jline.nd rfl (by first | exact Or.inl rfl | exact Or.inr rfl) (pe_op op_addU (pv 4) (pe_fk (fk__law_pick e) (hr.mono (by omega)) (px tk) rfl (gl e 23 rfl) (pa_cons (pv 0) (pa_cons (pe_lst (pa_cons (pv 6) (pa_cons (pe_slice sl_U (pv 6) po_none (po_some (pv 7))) (pa_cons (pe_slice sl_U (pv 6) (po_some (pv 7)) po_none) (pa_cons (pe_fk (fk__law_row e) (hr.mono (by omega)) (px tk) rfl (gl e 26 rfl) (pa_cons (pv 0) (pa_cons (pe_op op_addU (pv 2) pe_str) (pa_cons pe_int (pa_cons pe_int pa_nil))))) pa_nil))))) pa_nil)))))))))
  (pss_one (ps_ret (pe_slice sl_U (pv 4) po_none (po_some (pv 3)))))))), F.bindsN (fun _ _ _ _ _ _ us hl => match us, hl with | [_, _, _, _], _ => rfl), F.kp⟩
abbrev N_is_line : List Str := ["value", "letter"]
theorem sc_is_line : FnScope N_is_line ["value"] (defScope s_is_line) := ⟨rfl, rfl, rfl, by decide +kernel, rfl, by decide +kernel, by decide +kernel⟩
@[reducible] def b_is_line : List Sl → W Out := (dRet (dAndV (dOp1 (isiD is_str) (dVar 0)) (dOpn allD (dCons (dLc (dIS (dVar 0)) (dName 1) dYes (dOp2 (inD false) (dVar 1) (dC (.str (" !\"#$&'()*+,-./0123456789:;<=>?@ABCDEFGHIJKLMNOPQRSTUVWXYZ[\\]^_`abcdefghijklmnopqrstuvwxyz{|}~" : Str)))) [1]) dNil))))
def g_is_line : List D → W D := dBody N_is_line b_is_line
theorem fk_is_line (e : En K mg base) : Fk PW w K mg base 2 (ga K "is_line") (Pr K 1 g_is_line) := by
  obtain ⟨fd, F⟩ := d_is_line e
  exact ⟨fd, _, fn_ly (b := b_is_line) (k := 1) F sc_is_line (ls_ret (le_and (le_isi (.ty "str") (isok_str e) le_var) (le_opn lo_all (la_cons (le_lc (li_str le_var) lg_name lt_yes (le_op2 lo_in le_var le_str) (fun _ h => h)) la_nil)))) (fun cdv A outer s H E hr tk => (pss_one (ps_ret (pe_andT (pe_callB call_isi rfl (fr e 1 rfl) boot_isinstance (pa_cons (pv 0) (pa_cons (pe_bltn rfl (fr e 30 rfl) boot_str rfl) pa_nil))) (pe_one (pe_callB (cr_all rfl) rfl (fr e 32 rfl) boot_all (pa_cons (pe_lc (own := [("letter", 1)]) rfl sc_is_line.nd (pi_str (pv 0)) (blkOk_by (N := N_is_line) (sc := defScope s_is_line) (by decide +kernel)) (fun _ _ _ _ _ => (pg_name (i := 1) sc_is_line.nd rfl (by first | exact Or.inl rfl | exact Or.inr rfl))) (fun _ _ _ _ _ => pts_nil) (fun _ _ _ _ _ => (pe_cmpR op_inU (pv 1) (pe_gs (gs e 31 rfl) rfl) rfl))) pa_nil))))))), F.bindsN (fun _ _ _ _ _ _ us hl => match us, hl with | [_], _ => rfl), F.kp⟩
abbrev N_is_word : List Str := ["value", "most"]
theorem sc_is_word : FnScope N_is_word ["value", "most"] (defScope s_is_word) := ⟨rfl, rfl, rfl, by decide +kernel, rfl, by decide +kernel, by decide +kernel⟩
@[reducible] def b_is_word : List Sl → W Out := (dRet (dAndV (dOp1 (isiD is_str) (dVar 0)) (dAndV (dChain leD leD (dC (.int 1)) (dOpn lenD (dCons (dVar 0) dNil)) (dVar 1)) (dCall 1 g_is_line (dCons (dVar 0) dNil)))))
def g_is_word : List D → W D := dBody N_is_word b_is_word
theorem fk_is_word (e : En K mg base) : Fk PW w K mg base 10 (ga K "is_word") (Pr K 2 g_is_word) := by
  obtain ⟨fd, F⟩ := d_is_word e
  exact ⟨fd, _, fn_ly (b := b_is_word) (k := 9) F sc_is_word (ls_ret (le_and (le_isi (.ty "str") (isok_str e) le_var) (le_and (le_chain lo_cmp lo_cmp le_int (le_opn lo_len (la_cons le_var la_nil)) le_var) (le_call (la_cons le_var la_nil))))) (fun cdv A outer s H E hr tk => (pss_one (ps_ret (pe_andT (pe_callB call_isi rfl (fr e 1 rfl) boot_isinstance (pa_cons (pv 0) (pa_cons (pe_bltn rfl (fr e 30 rfl) boot_str rfl) pa_nil))) (pe_andT (pe_chain op_le op_le pe_int (pe_callB call_len rfl (fr e 20 rfl) boot_len (pa_cons (pv 0) pa_nil)) (pv 1)) (pe_one (pe_fk (fk_is_line e) (hr.mono (by omega)) (px tk) rfl (gl e 33 rfl) (pa_cons (pv 0) pa_nil)))))))), F.bindsN (fun _ _ _ _ _ _ us hl => match us, hl with | [_, _], _ => rfl), F.kp⟩
abbrev N_LineChange_init : List Str := ["self", "kind", "texts"]
theorem sc_LineChange_init : FnScope N_LineChange_init ["self", "kind", "texts"] (defScope s_LineChange_init) := ⟨rfl, rfl, rfl, by decide +kernel, rfl, by decide +kernel, by decide +kernel⟩
def cl_LineChange : List Str := ["First", "Every", "Swap", "Front", "Behind"]
@[reducible] def b_LineChange_init : List Sl → W Out := (dSeq (dSetF cl_LineChange "own_kind" (dVar 0) (dVar 1))
  (dSetF cl_LineChange "own_texts" (dVar 0) (dVar 2)))
def gi_LineChange : List D → W D := dBody N_LineChange_init b_LineChange_init
theorem fo_LineChange_init (e : En K mg base) {fd : FuncData} (F : FunD K "__init__" "LineChange.__init__" (defArgs s_LineChange_init) (defBody s_LineChange_init) (defScope s_LineChange_init) [] [] (ma K (ga K "LineChange") "__init__") fd) : FnOk PW w K mg base (L2.CX PW w) 2 (ma K (ga K "LineChange") "__init__") fd ["self", "kind", "texts"] (Pr K 3 gi_LineChange) := fn_ly (b := b_LineChange_init) (k := 1) F sc_LineChange_init (ls_seq (ls_setF (by
    intro c h
    have h : c ∈ (["First", "Every", "Swap", "Front", "Behind"] : List Str) := h
    simp only [List.mem_cons, List.not_mem_nil, or_false] at h
    rcases h with rfl | rfl | rfl | rfl | rfl
    · exact noat_ok (e.c.fm 39 rfl)
    · exact noat_ok (e.c.fm 40 rfl)
    · exact noat_ok (e.c.fm 41 rfl)
    · exact noat_ok (e.c.fm 42 rfl)
    · exact noat_ok (e.c.fm 43 rfl)) le_var le_var)
  (ls_setF (by
    intro c h
    have h : c ∈ (["First", "Every", "Swap", "Front", "Behind"] : List Str) := h
    simp only [List.mem_cons, List.not_mem_nil, or_false] at h
    rcases h with rfl | rfl | rfl | rfl | rfl
    · exact noat_ok (e.c.fm 34 rfl)
    · exact noat_ok (e.c.fm 35 rfl)
    · exact noat_ok (e.c.fm 36 rfl)
    · exact noat_ok (e.c.fm 37 rfl)
    · exact noat_ok (e.c.fm 38 rfl)) le_var le_var)) (fun cdv A outer s H E hr tk => (pss_cons (ps_fld (pv 0) (pv 1) rfl)
  (pss_one (ps_fld (pv 0) (pv 2) rfl))))
theorem fi_LineChange (e : En K mg base) : Fk PW w K mg base 2 (ma K (ga K "LineChange") "__init__") (Pr K 3 gi_LineChange) := by
  obtain ⟨fd, F⟩ := d_LineChange_init e
  exact ⟨fd, _, fo_LineChange_init e F, F.bindsN (fun _ _ _ _ _ _ us hl => match us, hl with | [_, _, _], _ => rfl), F.kp⟩
abbrev N_EndChange_init : List Str := ["self", "kind", "word"]
theorem sc_EndChange_init : SupScope N_EndChange_init ["self", "kind", "word"] (defScope s_EndChange_init) := ⟨rfl, rfl, rfl, by decide +kernel, rfl, by decide +kernel, by decide +kernel, by decide +kernel, rfl, rfl⟩
def cl_EndChange : List Str := ["Front", "Behind"]
@[reducible] def b_EndChange_init : List Sl → W Out := (dIf (dNot (dTru (dCall 2 g_is_word (dCons (dVar 2) (dCons (dC (.int 8)) dNil))))) dNever dNext)
@[reducible] def ba_EndChange_init : List Sl → W (List D) := (dCons (dVar 1) (dCons (dTup (dCons (dVar 2) dNil)) dNil))
def gi_EndChange : List D → W D := dInit N_EndChange_init cl_EndChange b_EndChange_init ba_EndChange_init 2 gi_LineChange
theorem su_EndChange_init (e : En K mg base) : ∀ c, c ∈ cl_EndChange → SupC K (ga K c) (ga K "EndChange") (ma K (ga K "LineChange") "__init__") := fun c h => by
    have h : c ∈ (["Front", "Behind"] : List Str) := h
    simp only [List.mem_cons, List.not_mem_nil, or_false] at h
    rcases h with rfl | rfl
    · exact fm_sup (e.c.fm 47 rfl)
    · exact fm_sup (e.c.fm 48 rfl)
theorem fo_EndChange_init (e : En K mg base) {fd : FuncData} (F : SupG PW K "__init__" "EndChange.__init__" (defArgs s_EndChange_init) (defBody s_EndChange_init) (defScope s_EndChange_init) [] [] (ga K "EndChange") (ma K (ga K "EndChange") "__init__") fd) : FnOk PW w K mg base (L2.CX PW w) 18 (ma K (ga K "EndChange") "__init__") fd ["self", "kind", "word"] (Pr K 3 gi_EndChange) := by
  obtain ⟨fd2, ps2, G, hb2, _⟩ := (fi_LineChange e (base := base) (w := w)).ex
  exact fn_super (b := b_EndChange_init) (fa := ba_EndChange_init) (k := 17) (cl := cl_EndChange) (pre := (defBody s_EndChange_init).take 1) F sc_EndChange_init rfl rfl rfl rfl rfl rfl (ls_if (lt_not (lt_tru (le_call (la_cons le_var (la_cons le_int la_nil))))) ls_never ls_next) (la_cons le_var (la_cons (le_tup (la_cons le_var la_nil)) la_nil)) (fun cd cc A outer s H E hr tk => (pss_one (ps_if (pt_not (pt_truth (pe_fk (fk_is_word e) (hr.mono (by omega)) (px tk) rfl (gl e 46 rfl) (pa_cons (pv 2) (pa_cons (pe_gi (gi e 45 rfl) rfl) pa_nil))) (fun _ => rfl))) (pss_one ps_never) pss_nil))) (fun cd cc A outer s H E hr => (pa_cons (pv 1) (pa_cons (pe_tup (pa_cons (pv 2) pa_nil)) pa_nil))) (Lx.FnOk.up G (by omega)) hb2 (su_EndChange_init e) (by decide +kernel) (fun _ => rfl) (fun _ => rfl) (fun _ => rfl) (fun _ => ⟨_, rfl⟩)
theorem fi_EndChange (e : En K mg base) : Fk PW w K mg base 18 (ma K (ga K "EndChange") "__init__") (Pr K 3 gi_EndChange) := by
  obtain ⟨fd, F⟩ := d_EndChange_init e
  exact ⟨fd, _, fo_EndChange_init e F, Lx.SupD.bindsN F (fun _ _ _ _ _ _ _ us hl => match us, hl with | [_, _, _], _ => rfl), F.kp⟩
abbrev N_Behind_init : List Str := ["self", "word"]
theorem sc_Behind_init : SupScope N_Behind_init ["self", "word"] (defScope s_Behind_init) := ⟨rfl, rfl, rfl, by decide +kernel, rfl, by decide +kernel, by decide +kernel, by decide +kernel, rfl, rfl⟩
def cl_Behind : List Str := ["Behind"]
@[reducible] def b_Behind_init : List Sl → W Out := dNext
@[reducible] def ba_Behind_init : List Sl → W (List D) := (dCons (dC (.str ("behind" : Str))) (dCons (dVar 1) dNil))
def gi_Behind : List D → W D := dInit N_Behind_init cl_Behind b_Behind_init ba_Behind_init 2 gi_EndChange
theorem su_Behind_init (e : En K mg base) : ∀ c, c ∈ cl_Behind → SupC K (ga K c) (ga K "Behind") (ma K (ga K "EndChange") "__init__") := fun c h => by
    have h : c ∈ (["Behind"] : List Str) := h
    simp only [List.mem_cons, List.not_mem_nil, or_false] at h
    rcases h with rfl
    · exact fm_sup (e.c.fm 49 rfl)
theorem fo_Behind_init (e : En K mg base) {fd : FuncData} (F : SupG PW K "__init__" "Behind.__init__" (defArgs s_Behind_init) (defBody s_Behind_init) (defScope s_Behind_init) [] [] (ga K "Behind") (ma K (ga K "Behind") "__init__") fd) : FnOk PW w K mg base (L2.CX PW w) 26 (ma K (ga K "Behind") "__init__") fd ["self", "word"] (Pr K 2 gi_Behind) := by
  obtain ⟨fd2, ps2, G, hb2, _⟩ := (fi_EndChange e (base := base) (w := w)).ex
  exact fn_super (b := b_Behind_init) (fa := ba_Behind_init) (k := 25) (cl := cl_Behind) (pre := (defBody s_Behind_init).take 0) F sc_Behind_init rfl rfl rfl rfl rfl rfl ls_next (la_cons le_str (la_cons le_var la_nil)) (fun cd cc A outer s H E hr tk => pss_nil) (fun cd cc A outer s H E hr => (pa_cons pe_str (pa_cons (pv 1) pa_nil))) (Lx.FnOk.up G (by omega)) hb2 (su_Behind_init e) (by decide +kernel) (fun _ => rfl) (fun _ => rfl) (fun _ => rfl) (fun _ => ⟨_, rfl⟩)
theorem fi_Behind (e : En K mg base) : Fk PW w K mg base 26 (ma K (ga K "Behind") "__init__") (Pr K 2 gi_Behind) := by
  obtain ⟨fd, F⟩ := d_Behind_init e
  exact ⟨fd, _, fo_Behind_init e F, Lx.SupD.bindsN F (fun _ _ _ _ _ _ _ us hl => match us, hl with | [_, _], _ => rfl), F.kp⟩
abbrev N_PlaceChange_init : List Str := ["self", "kind", "old", "new"]
theorem sc_PlaceChange_init : SupScope N_PlaceChange_init ["self", "kind", "old", "new"] (defScope s_PlaceChange_init) := ⟨rfl, rfl, rfl, by decide +kernel, rfl, by decide +kernel, by decide +kernel, by decide +kernel, rfl, rfl⟩
def cl_PlaceChange : List Str := ["First", "Every"]
@[reducible] def b_PlaceChange_init : List Sl → W Out := (dIfNo (dNot (dTest (dCall 2 g_is_word (dCons (dVar 2) (dCons (dC (.int 8)) dNil)))))
  (dIfNo (dOr (dNot (dTest (dCall 1 g_is_line (dCons (dVar 3) dNil)))) (dTest (dOp2 gtD (dLenT (dVar 3)) (dC (.int 8)))))
  dNext))
@[reducible] def ba_PlaceChange_init : List Sl → W (List D) := (dCons (dVar 1) (dCons (dGt2 2 3) dNil))
def gi_PlaceChange : List D → W D := dInit N_PlaceChange_init cl_PlaceChange b_PlaceChange_init ba_PlaceChange_init 2 gi_LineChange
theorem su_PlaceChange_init (e : En K mg base) : ∀ c, c ∈ cl_PlaceChange → SupC K (ga K c) (ga K "PlaceChange") (ma K (ga K "LineChange") "__init__") := fun c h => by
    have h : c ∈ (["First", "Every"] : List Str) := h
    simp only [List.mem_cons, List.not_mem_nil, or_false] at h
    rcases h with rfl | rfl
    · exact fm_sup (e.c.fm 50 rfl)
    · exact fm_sup (e.c.fm 51 rfl)
theorem fo_PlaceChange_init (e : En K mg base) {fd : FuncData} (F : SupG PW K "__init__" "PlaceChange.__init__" (defArgs s_PlaceChange_init) (defBody s_PlaceChange_init) (defScope s_PlaceChange_init) [] [] (ga K "PlaceChange") (ma K (ga K "PlaceChange") "__init__") fd) : FnX PW w K mg base (L2.CX PW w) 18 (ma K (ga K "PlaceChange") "__init__") fd ["self", "kind", "old", "new"] G4 (Pr K 4 gi_PlaceChange) := by
  obtain ⟨fd2, ps2, G, hb2, _⟩ := (fi_LineChange e (base := base) (w := w)).ex
  exact fn_superX (G := G4) (GC := (fun _ => True)) (G2 := (fun _ => True)) (b := b_PlaceChange_init) (fa := ba_PlaceChange_init) (k := 17) (cl := cl_PlaceChange) (pre := (defBody s_PlaceChange_init).take 2) F sc_PlaceChange_init rfl rfl rfl rfl rfl rfl (ls_ifNo (lt_not (lt_test (le_call (la_cons le_var (la_cons le_int la_nil)))))
  (ls_ifNo (lt_or (lt_not (lt_test (le_call (la_cons le_var la_nil)))) (lt_test (le_op2 lo_cmp (le_lenT le_var) le_int)))
  ls_next)) (la_cons le_var (la_cons le_gt2 la_nil)) (fun cd cc A outer s H E hr tk => (pssn_if (ptn_not (ptn_val (pen_fk (fk_is_word e) (hr.mono (by omega)) (px tk) rfl (gl e 46 rfl) (pan_cons (pen_var (i := 2) rfl (by first | exact Or.inl rfl | exact Or.inr (Or.inl rfl) | exact Or.inr (Or.inr rfl))) (pan_cons (pen_gi (gi e 45 rfl) rfl) pan_nil))) (fun _ => rfl)))
  (pssn_if (PWN.pt (pwn_or (ptn_not (ptn_val (pen_fk (fk_is_line e) (hr.mono (by omega)) (px tk) rfl (gl e 33 rfl) (pan_cons (pen_var (i := 3) rfl (by first | exact Or.inl rfl | exact Or.inr (Or.inl rfl) | exact Or.inr (Or.inr rfl))) pan_nil)) (fun _ => rfl))) (pwn_or1 (ptn_gt (pen_len rfl (fr e 20 rfl) boot_len (pen_var (i := 3) rfl (by first | exact Or.inl rfl | exact Or.inr (Or.inl rfl) | exact Or.inr (Or.inr rfl)))) (pen_gi (gi e 45 rfl) rfl)))))
  pssn_nil))) (fun cd cc A outer s H E us hG hl hr => by obtain ⟨w0, w1, w2, w3, rfl, g⟩ := hG; exact pax_nt rfl rfl rfl rfl rfl rfl rfl rfl rfl g) (FnX.of (Lx.FnOk.up G (by omega))) (fun _ _ _ => trivial) hb2 (su_PlaceChange_init e) (by decide +kernel) (fun _ => rfl) (fun _ => rfl) (fun _ => rfl) (fun _ => ⟨_, rfl⟩)
theorem fX_PlaceChange (e : En K mg base) : ∃ fd ps, FnX PW w K mg base (L2.CX PW w) 18 (ma K (ga K "PlaceChange") "__init__") fd ps G4 (Pr K 4 gi_PlaceChange) ∧ Binds K fd ps [] := by
  obtain ⟨fd, F⟩ := d_PlaceChange_init e
  exact ⟨fd, _, fo_PlaceChange_init e F, Lx.SupD.bindsN F (fun _ _ _ _ _ _ _ us hl => match us, hl with | [_, _, _, _], _ => rfl)⟩
abbrev N_Every_init : List Str := ["self", "old", "new"]
theorem sc_Every_init : SupScope N_Every_init ["self", "old", "new"] (defScope s_Every_init) := ⟨rfl, rfl, rfl, by decide +kernel, rfl, by decide +kernel, by decide +kernel, by decide +kernel, rfl, rfl⟩
def cl_Every : List Str := ["Every"]
@[reducible] def b_Every_init : List Sl → W Out := dNext
@[reducible] def ba_Every_init : List Sl → W (List D) := (dCons (dC (.str ("every" : Str))) (dCons (dVar 1) (dCons (dVar 2) dNil)))
def gi_Every : List D → W D := dInit N_Every_init cl_Every b_Every_init ba_Every_init 3 gi_PlaceChange
theorem su_Every_init (e : En K mg base) : ∀ c, c ∈ cl_Every → SupC K (ga K c) (ga K "Every") (ma K (ga K "PlaceChange") "__init__") := fun c h => by
    have h : c ∈ (["Every"] : List Str) := h
    simp only [List.mem_cons, List.not_mem_nil, or_false] at h
    rcases h with rfl
    · exact fm_sup (e.c.fm 52 rfl)
theorem fo_Every_init (e : En K mg base) {fd : FuncData} (F : SupG PW K "__init__" "Every.__init__" (defArgs s_Every_init) (defBody s_Every_init) (defScope s_Every_init) [] [] (ga K "Every") (ma K (ga K "Every") "__init__") fd) : FnX PW w K mg base (L2.CX PW w) 26 (ma K (ga K "Every") "__init__") fd ["self", "old", "new"] G3 (Pr K 3 gi_Every) := by
  obtain ⟨fd2, ps2, G, hb2⟩ := fX_PlaceChange e (base := base) (w := w)
  exact fn_superX (G := G3) (GC := G4) (G2 := G5) (b := b_Every_init) (fa := ba_Every_init) (k := 25) (cl := cl_Every) (pre := (defBody s_Every_init).take 0) F sc_Every_init rfl rfl rfl rfl rfl rfl ls_next (la_cons le_str (la_cons le_var (la_cons le_var la_nil))) (fun cd cc A outer s H E hr tk => pssn_nil) (fun cd cc A outer s H E us hG hl hr => by obtain ⟨w0, w1, w2, rfl, g⟩ := hG; exact pax_cnn rfl rfl rfl rfl rfl rfl g) (FnX.up G (by omega)) (fun x us h => by obtain ⟨a, b, d, rfl, g⟩ := h; exact ⟨x, a, b, d, rfl, g⟩) hb2 (su_Every_init e) (by decide +kernel) (fun _ => rfl) (fun _ => rfl) (fun _ => rfl) (fun _ => ⟨_, rfl⟩)
theorem fX_Every (e : En K mg base) : ∃ fd ps, FnX PW w K mg base (L2.CX PW w) 26 (ma K (ga K "Every") "__init__") fd ps G3 (Pr K 3 gi_Every) ∧ Binds K fd ps [] := by
  obtain ⟨fd, F⟩ := d_Every_init e
  exact ⟨fd, _, fo_Every_init e F, Lx.SupD.bindsN F (fun _ _ _ _ _ _ _ us hl => match us, hl with | [_, _, _], _ => rfl)⟩
abbrev N_First_init : List Str := ["self", "old", "new"]
theorem sc_First_init : SupScope N_First_init ["self", "old", "new"] (defScope s_First_init) := ⟨rfl, rfl, rfl, by decide +kernel, rfl, by decide +kernel, by decide +kernel, by decide +kernel, rfl, rfl⟩
def cl_First : List Str := ["First"]
@[reducible] def b_First_init : List Sl → W Out := dNext
@[reducible] def ba_First_init : List Sl → W (List D) := (dCons (dC (.str ("first" : Str))) (dCons (dVar 1) (dCons (dVar 2) dNil)))
def gi_First : List D → W D := dInit N_First_init cl_First b_First_init ba_First_init 3 gi_PlaceChange
theorem su_First_init (e : En K mg base) : ∀ c, c ∈ cl_First → SupC K (ga K c) (ga K "First") (ma K (ga K "PlaceChange") "__init__") := fun c h => by
    have h : c ∈ (["First"] : List Str) := h
    simp only [List.mem_cons, List.not_mem_nil, or_false] at h
    rcases h with rfl
    · exact fm_sup (e.c.fm 53 rfl)
theorem fo_First_init (e : En K mg base) {fd : FuncData} (F : SupG PW K "__init__" "First.__init__" (defArgs s_First_init) (defBody s_First_init) (defScope s_First_init) [] [] (ga K "First") (ma K (ga K "First") "__init__") fd) : FnX PW w K mg base (L2.CX PW w) 26 (ma K (ga K "First") "__init__") fd ["self", "old", "new"] G3 (Pr K 3 gi_First) := by
  obtain ⟨fd2, ps2, G, hb2⟩ := fX_PlaceChange e (base := base) (w := w)
  exact fn_superX (G := G3) (GC := G4) (G2 := G5) (b := b_First_init) (fa := ba_First_init) (k := 25) (cl := cl_First) (pre := (defBody s_First_init).take 0) F sc_First_init rfl rfl rfl rfl rfl rfl ls_next (la_cons le_str (la_cons le_var (la_cons le_var la_nil))) (fun cd cc A outer s H E hr tk => pssn_nil) (fun cd cc A outer s H E us hG hl hr => by obtain ⟨w0, w1, w2, rfl, g⟩ := hG; exact pax_cnn rfl rfl rfl rfl rfl rfl g) (FnX.up G (by omega)) (fun x us h => by obtain ⟨a, b, d, rfl, g⟩ := h; exact ⟨x, a, b, d, rfl, g⟩) hb2 (su_First_init e) (by decide +kernel) (fun _ => rfl) (fun _ => rfl) (fun _ => rfl) (fun _ => ⟨_, rfl⟩)
theorem fX_First (e : En K mg base) : ∃ fd ps, FnX PW w K mg base (L2.CX PW w) 26 (ma K (ga K "First") "__init__") fd ps G3 (Pr K 3 gi_First) ∧ Binds K fd ps [] := by
  obtain ⟨fd, F⟩ := d_First_init e
  exact ⟨fd, _, fo_First_init e F, Lx.SupD.bindsN F (fun _ _ _ _ _ _ _ us hl => match us, hl with | [_, _, _], _ => rfl)⟩
abbrev N_Front_init : List Str := ["self", "word"]
theorem sc_Front_init : SupScope N_Front_init ["self", "word"] (defScope s_Front_init) := ⟨rfl, rfl, rfl, by decide +kernel, rfl, by decide +kernel, by decide +kernel, by decide +kernel, rfl, rfl⟩
def cl_Front : List Str := ["Front"]
@[reducible] def b_Front_init : List Sl → W Out := dNext
@[reducible] def ba_Front_init : List Sl → W (List D) := (dCons (dC (.str ("front" : Str))) (dCons (dVar 1) dNil))
def gi_Front : List D → W D := dInit N_Front_init cl_Front b_Front_init ba_Front_init 2 gi_EndChange
theorem su_Front_init (e : En K mg base) : ∀ c, c ∈ cl_Front → SupC K (ga K c) (ga K "Front") (ma K (ga K "EndChange") "__init__") := fun c h => by
    have h : c ∈ (["Front"] : List Str) := h
    simp only [List.mem_cons, List.not_mem_nil, or_false] at h
    rcases h with rfl
    · exact fm_sup (e.c.fm 54 rfl)
theorem fo_Front_init (e : En K mg base) {fd : FuncData} (F : SupG PW K "__init__" "Front.__init__" (defArgs s_Front_init) (defBody s_Front_init) (defScope s_Front_init) [] [] (ga K "Front") (ma K (ga K "Front") "__init__") fd) : FnOk PW w K mg base (L2.CX PW w) 26 (ma K (ga K "Front") "__init__") fd ["self", "word"] (Pr K 2 gi_Front) := by
  obtain ⟨fd2, ps2, G, hb2, _⟩ := (fi_EndChange e (base := base) (w := w)).ex
  exact fn_super (b := b_Front_init) (fa := ba_Front_init) (k := 25) (cl := cl_Front) (pre := (defBody s_Front_init).take 0) F sc_Front_init rfl rfl rfl rfl rfl rfl ls_next (la_cons le_str (la_cons le_var la_nil)) (fun cd cc A outer s H E hr tk => pss_nil) (fun cd cc A outer s H E hr => (pa_cons pe_str (pa_cons (pv 1) pa_nil))) (Lx.FnOk.up G (by omega)) hb2 (su_Front_init e) (by decide +kernel) (fun _ => rfl) (fun _ => rfl) (fun _ => rfl) (fun _ => ⟨_, rfl⟩)
theorem fi_Front (e : En K mg base) : Fk PW w K mg base 26 (ma K (ga K "Front") "__init__") (Pr K 2 gi_Front) := by
  obtain ⟨fd, F⟩ := d_Front_init e
  exact ⟨fd, _, fo_Front_init e F, Lx.SupD.bindsN F (fun _ _ _ _ _ _ _ us hl => match us, hl with | [_, _], _ => rfl), F.kp⟩
abbrev N_Swap_init : List Str := ["self", "letters", "others"]
theorem sc_Swap_init : SupScope N_Swap_init ["self", "letters", "others"] (defScope s_Swap_init) := ⟨rfl, rfl, rfl, by decide +kernel, rfl, by decide +kernel, by decide +kernel, by decide +kernel, rfl, rfl⟩
def cl_Swap : List Str := ["Swap"]
@[reducible] def b_Swap_init : List Sl → W Out := (dSeq (dIf (dOr (dNot (dTru (dCall 2 g_is_word (dCons (dVar 1) (dCons (dOpn lenD (dCons (dC (.str (" !\"#$&'()*+,-./0123456789:;<=>?@ABCDEFGHIJKLMNOPQRSTUVWXYZ[\\]^_`abcdefghijklmnopqrstuvwxyz{|}~" : Str))) dNil)) dNil))))) (dTest (dOp2 ltD (dLenSet (dVar 1)) (dOpn lenD (dCons (dVar 1) dNil))))) dNever dNext)
  (dIf (dOr (dNot (dTru (dCall 1 g_is_line (dCons (dVar 2) dNil)))) (dTest (dOp2 neD (dOpn lenD (dCons (dVar 2) dNil)) (dOpn lenD (dCons (dVar 1) dNil))))) dNever dNext))
@[reducible] def ba_Swap_init : List Sl → W (List D) := (dCons (dC (.str ("swap" : Str))) (dCons (dTup (dCons (dVar 1) (dCons (dVar 2) dNil))) dNil))
def gi_Swap : List D → W D := dInit N_Swap_init cl_Swap b_Swap_init ba_Swap_init 2 gi_LineChange
theorem su_Swap_init (e : En K mg base) : ∀ c, c ∈ cl_Swap → SupC K (ga K c) (ga K "Swap") (ma K (ga K "LineChange") "__init__") := fun c h => by
    have h : c ∈ (["Swap"] : List Str) := h
    simp only [List.mem_cons, List.not_mem_nil, or_false] at h
    rcases h with rfl
    · exact fm_sup (e.c.fm 56 rfl)
theorem fo_Swap_init (e : En K mg base) {fd : FuncData} (F : SupG PW K "__init__" "Swap.__init__" (defArgs s_Swap_init) (defBody s_Swap_init) (defScope s_Swap_init) [] [] (ga K "Swap") (ma K (ga K "Swap") "__init__") fd) : FnOk PW w K mg base (L2.CX PW w) 18 (ma K (ga K "Swap") "__init__") fd ["self", "letters", "others"] (Pr K 3 gi_Swap) := by
  obtain ⟨fd2, ps2, G, hb2, _⟩ := (fi_LineChange e (base := base) (w := w)).ex
  exact fn_super (b := b_Swap_init) (fa := ba_Swap_init) (k := 17) (cl := cl_Swap) (pre := (defBody s_Swap_init).take 2) F sc_Swap_init rfl rfl rfl rfl rfl rfl (ls_seq (ls_if (lt_or (lt_not (lt_tru (le_call (la_cons le_var (la_cons (le_opn lo_len (la_cons le_str la_nil)) la_nil))))) (lt_test (le_op2 lo_cmp (le_lenSet le_var) (le_opn lo_len (la_cons le_var la_nil))))) ls_never ls_next)
  (ls_if (lt_or (lt_not (lt_tru (le_call (la_cons le_var la_nil)))) (lt_test (le_op2 lo_ne (le_opn lo_len (la_cons le_var la_nil)) (le_opn lo_len (la_cons le_var la_nil))))) ls_never ls_next)) (la_cons le_str (la_cons (le_tup (la_cons le_var (la_cons le_var la_nil))) la_nil)) (fun cd cc A outer s H E hr tk => (pss_cons (ps_if (PW.pt (pw_or (pt_not (pt_truth (pe_fk (fk_is_word e) (hr.mono (by omega)) (px tk) rfl (gl e 46 rfl) (pa_cons (pv 1) (pa_cons (pe_callB call_len rfl (fr e 20 rfl) boot_len (pa_cons (pe_gs (gs e 31 rfl) rfl) pa_nil)) pa_nil))) (fun _ => rfl))) (pw_or1 (pt_cmpR op_lt (pe_lenSetS rfl rfl (fr e 20 rfl) rfl (fr e 55 rfl) (pv 1)) (pe_callB call_len rfl (fr e 20 rfl) boot_len (pa_cons (pv 1) pa_nil)) (nomark _))))) (pss_one ps_never) pss_nil)
  (pss_one (ps_if (PW.pt (pw_or (pt_not (pt_truth (pe_fk (fk_is_line e) (hr.mono (by omega)) (px tk) rfl (gl e 33 rfl) (pa_cons (pv 2) pa_nil)) (fun _ => rfl))) (pw_or1 (pt_cmpR (op_neU hr.units) (pe_callB call_len rfl (fr e 20 rfl) boot_len (pa_cons (pv 2) pa_nil)) (pe_callB call_len rfl (fr e 20 rfl) boot_len (pa_cons (pv 1) pa_nil)) (nomark _))))) (pss_one ps_never) pss_nil)))) (fun cd cc A outer s H E hr => (pa_cons pe_str (pa_cons (pe_tup (pa_cons (pv 1) (pa_cons (pv 2) pa_nil))) pa_nil))) (Lx.FnOk.up G (by omega)) hb2 (su_Swap_init e) (by decide +kernel) (fun _ => rfl) (fun _ => rfl) (fun _ => rfl) (fun _ => ⟨_, rfl⟩)
theorem fi_Swap (e : En K mg base) : Fk PW w K mg base 18 (ma K (ga K "Swap") "__init__") (Pr K 3 gi_Swap) := by
  obtain ⟨fd, F⟩ := d_Swap_init e
  exact ⟨fd, _, fo_Swap_init e F, Lx.SupD.bindsN F (fun _ _ _ _ _ _ _ us hl => match us, hl with | [_, _, _], _ => rfl), F.kp⟩
abbrev N__law_made_deed : List Str := ["_law_deed_here", "_law_sort"]
theorem sc__law_made_deed : FnScope N__law_made_deed ["_law_deed_here"] (defScope s__law_made_deed) := ⟨rfl, rfl, rfl, by decide +kernel, rfl, by decide +kernel, by decide +kernel⟩
@[reducible] def b__law_made_deed : List Sl → W Out := (dSeq (dAsg (dOp2 ixD (dVar 0) (dC (.int 0))) (dName 1))
  (dSeq (dIf (dTest (dOp2 (inD false) (dVar 1) (dTup (dCons (dC (.str ("front" : Str))) (dCons (dC (.str ("behind" : Str))) dNil))))) (dRet (dIfE (dTest (dOp2 eqD (dVar 1) (dC (.str ("front" : Str))))) (dMake "Front" 1 gi_Front (dCons (dOp2 ixD (dVar 0) (dC (.int 1))) dNil)) (dMake "Behind" 1 gi_Behind (dCons (dOp2 ixD (dVar 0) (dC (.int 1))) dNil)))) dNext)
  (dSeq (dIf (dTest (dOp2 eqD (dVar 1) (dC (.str ("swap" : Str))))) (dRet (dMake "Swap" 2 gi_Swap (dCons (dOp2 ixD (dVar 0) (dC (.int 1))) (dCons (dOp2 ixD (dVar 0) (dC (.int 2))) dNil)))) dNext)
  (dRet (dIfE (dTest (dOp2 eqD (dVar 1) (dC (.str ("first" : Str))))) (dMakeG "First" gi_First 0) (dMakeG "Every" gi_Every 0))))))
def g__law_made_deed : List D → W D := dBody N__law_made_deed b__law_made_deed
theorem fk__law_made_deed (e : En K mg base) : Fk PW w K mg base 34 (ga K "_law_made_deed") (Pr K 1 g__law_made_deed) := by
  obtain ⟨fd, F⟩ := d__law_made_deed e
  obtain ⟨tf_Every, tp_Every, tX_Every, tB_Every⟩ := fX_Every e (w := w) (base := base)
  obtain ⟨tf_First, tp_First, tX_First, tB_First⟩ := fX_First e (w := w) (base := base)
  exact ⟨fd, _, fn_ly (b := b__law_made_deed) (k := 33) F sc__law_made_deed (ls_seq (ls_asg (le_op2 lo_ix le_var le_int) lg_name)
  (ls_seq (ls_if (lt_test (le_op2 lo_in le_var (le_tup (la_cons le_str (la_cons le_str la_nil))))) (ls_ret (le_if (lt_test (le_op2 lo_eq le_var le_str)) (le_make (cls_ok (e.c.fm 11 rfl)) (la_cons (le_op2 lo_ix le_var le_int) la_nil)) (le_make (cls_ok (e.c.fm 13 rfl)) (la_cons (le_op2 lo_ix le_var le_int) la_nil)))) ls_next)
  (ls_seq (ls_if (lt_test (le_op2 lo_eq le_var le_str)) (ls_ret (le_make (cls_ok (e.c.fm 9 rfl)) (la_cons (le_op2 lo_ix le_var le_int) (la_cons (le_op2 lo_ix le_var le_int) la_nil)))) ls_next)
  (ls_ret (le_if (lt_test (le_op2 lo_eq le_var le_str)) (le_makeG (cls_ok (e.c.fm 5 rfl))) (le_makeG (cls_ok (e.c.fm 7 rfl)))))))) (fun cdv A outer s H E hr tk => (pss_cons (ps_set (i := 1) sc__law_made_deed.nd rfl (by first | exact Or.inl rfl | exact Or.inr rfl) (pe_ix ix_seq (pv 0) pe_int (fun _ _ => rfl)))
  (pss_cons (ps_if (pt_cmpR op_inU (pv 1) (pe_tup (pa_cons pe_str (pa_cons pe_str pa_nil))) rfl) (pss_one (ps_ret (pe_ifExp (pt_cmpR (op_eqU hr.units) (pv 1) pe_str (nomark _)) (pe_mk (x := "Front") (fm_ini (e.c.fm 63 rfl)) (fi_Front e) (hr.mono (by omega)) (px tk) rfl (gl e 64 rfl) (pa_cons (pe_ix ix_seq (pv 0) pe_int (fun _ _ => rfl)) pa_nil)) (pe_mk (x := "Behind") (fm_ini (e.c.fm 65 rfl)) (fi_Behind e) (hr.mono (by omega)) (px tk) rfl (gl e 66 rfl) (pa_cons (pe_ix ix_seq (pv 0) pe_int (fun _ _ => rfl)) pa_nil))))) pss_nil)
  (pss_cons (ps_if (pt_cmpR (op_eqU hr.units) (pv 1) pe_str (nomark _)) (pss_one (ps_ret (pe_mk (x := "Swap") (fm_ini (e.c.fm 61 rfl)) (fi_Swap e) (hr.mono (by omega)) (px tk) rfl (gl e 62 rfl) (pa_cons (pe_ix ix_seq (pv 0) pe_int (fun _ _ => rfl)) (pa_cons (pe_ix ix_seq (pv 0) pe_int (fun _ _ => rfl)) pa_nil))))) pss_nil)
  (pss_one (ps_ret (pe_ifExp (pt_cmpR (op_eqU hr.units) (pv 1) pe_str (nomark _)) (by exact pe_mkG (fm_ini (e.c.fm 57 rfl)) tX_First tB_First (hr.mono (by omega)) (px tk) rfl (gl e 58 rfl) (fun _ _ _ h => ⟨_, _, _, rfl, h⟩) rfl (by first | exact Or.inl rfl | exact Or.inr (Or.inl rfl))) (by exact pe_mkG (fm_ini (e.c.fm 59 rfl)) tX_Every tB_Every (hr.mono (by omega)) (px tk) rfl (gl e 60 rfl) (fun _ _ _ h => ⟨_, _, _, rfl, h⟩) rfl (by first | exact Or.inl rfl | exact Or.inr (Or.inl rfl)))))))))), F.bindsN (fun _ _ _ _ _ _ us hl => match us, hl with | [_], _ => rfl), F.kp⟩
abbrev N__law_jmade_deeds : List Str := ["_law_deeds", "_law_deed_here"]
theorem sc__law_jmade_deeds : FnScope N__law_jmade_deeds ["_law_deeds"] (defScope s__law_jmade_deeds) := ⟨rfl, rfl, rfl, by decide +kernel, rfl, by decide +kernel, by decide +kernel⟩
@[reducible] def b__law_jmade_deeds : List Sl → W Out := (dRet (dLc (dIL (dVar 0)) (dName 1) dYes (dCall 1 g__law_made_deed (dCons (dVar 1) dNil)) [1]))
def g__law_jmade_deeds : List D → W D := dBody N__law_jmade_deeds b__law_jmade_deeds
theorem fk__law_jmade_deeds (e : En K mg base) : Fk PW w K mg base 42 (ga K "_law_jmade_deeds") (Pr K 1 g__law_jmade_deeds) := by
  obtain ⟨fd, F⟩ := d__law_jmade_deeds e
  exact ⟨fd, _, fn_ly (b := b__law_jmade_deeds) (k := 41) F sc__law_jmade_deeds (ls_ret (le_lc (li_list le_var) lg_name lt_yes (le_call (la_cons le_var la_nil)) (fun _ h => h))) (fun cdv A outer s H E hr tk => (pss_one (ps_ret (pe_lc (own := [("_law_deed_here", 1)]) rfl sc__law_jmade_deeds.nd (pi_list (pv 0)) (blkOk_by (N := N__law_jmade_deeds) (sc := defScope s__law_jmade_deeds) (by decide +kernel)) (fun _ _ _ _ _ => (pg_name (i := 1) sc__law_jmade_deeds.nd rfl (by first | exact Or.inl rfl | exact Or.inr rfl))) (fun _ _ _ _ _ => pts_nil) (fun _ _ _ _ _ => (pe_fk (fk__law_made_deed e) (hr.mono (by omega)) px0 rfl (gl e 67 rfl) (pa_cons (pv 1) pa_nil))))))), F.bindsN (fun _ _ _ _ _ _ us hl => match us, hl with | [_], _ => rfl), F.kp⟩
abbrev N__law_jwords : List Str := ["_law_goal"]
theorem sc__law_jwords : FnScope N__law_jwords ["_law_goal"] (defScope s__law_jwords) := ⟨rfl, rfl, rfl, by decide +kernel, rfl, by decide +kernel, by decide +kernel⟩
@[reducible] def b__law_jwords : List Sl → W Out := (dSeq (dIf (dTest (dOp2 (inD false) (dOp2 ixD (dVar 0) (dC (.int 0))) (dTup (dCons (dC (.str ("fails" : Str))) (dCons (dC (.str ("both" : Str))) (dCons (dC (.str ("either" : Str))) dNil)))))) dNever dNext)
  (dRet (dOpn listD (dCons (dSl (dVar 0) (dPart (dC (.int 1))) dNoPart) dNil))))
def g__law_jwords : List D → W D := dBody N__law_jwords b__law_jwords
theorem fk__law_jwords (e : En K mg base) : Fk PW w K mg base 2 (ga K "_law_jwords") (Pr K 1 g__law_jwords) := by
  obtain ⟨fd, F⟩ := d__law_jwords e
  exact ⟨fd, _, fn_ly (b := b__law_jwords) (k := 1) F sc__law_jwords (ls_seq (ls_if (lt_test (le_op2 lo_in (le_op2 lo_ix le_var le_int) (le_tup (la_cons le_str (la_cons le_str (la_cons le_str la_nil)))))) ls_never ls_next)
  (ls_ret (le_opn lo_list (la_cons (le_sl le_var (lp_some le_int) lp_none) la_nil)))) (fun cdv A outer s H E hr tk => (pss_cons (ps_if (pt_cmpR op_inU (pe_ix ix_seq (pv 0) pe_int (fun _ _ => rfl)) (pe_tup (pa_cons pe_str (pa_cons pe_str (pa_cons pe_str pa_nil)))) rfl) (pss_one ps_never) pss_nil)
  (pss_one (ps_ret (pe_callTy call_list_of rfl (fr e 29 rfl) boot_list (pa_cons (pe_slice sl_U (pv 0) (po_some pe_int) po_none) pa_nil)))))), F.bindsN (fun _ _ _ _ _ _ us hl => match us, hl with | [_], _ => rfl), F.kp⟩
abbrev N__law_pen : List Str := ["_law_script"]
theorem sc__law_pen : FnScope N__law_pen ["_law_script"] (defScope s__law_pen) := ⟨rfl, rfl, rfl, by decide +kernel, rfl, by decide +kernel, by decide +kernel⟩
theorem fk__law_pen (e : En K mg base) : Fk PW w K mg base 2 (ga K "_law_pen") (spPen K) := by
  obtain ⟨fd, F⟩ := d__law_pen e
  refine ⟨fd, _, F.ok (CX := L2.CX PW w) (k := 1) sc__law_pen spPen.len fun cdv A outer s H vs Q E hr h => ⟨t_pen K, PSs.nox ?_, pen_pure h⟩, F.bindsN (fun _ _ _ _ _ _ us hl => match us, hl with | [_], _ => rfl), F.kp⟩
  exact pss_one (ps_ret (pe_disp (pps_cons pe_str (pe_callTy call_list_of rfl (fr e 29 rfl) boot_list (pa_cons (pe_slice sl_U (pv 0) po_none (po_some pe_int)) pa_nil)) (pps_cons pe_str pe_int (pps_cons pe_str pe_int pps_nil))) rfl rfl (by decide) (by decide)))
abbrev N_Swap_letters : List Str := ["self"]
theorem sc_Swap_letters : FnScope N_Swap_letters ["self"] (defScope s_Swap_letters) := ⟨rfl, rfl, rfl, by decide +kernel, rfl, by decide +kernel, by decide +kernel⟩
@[reducible] def b_Swap_letters : List Sl → W Out := (dRet (dOp2 ixD (dFld "own_texts" (dVar 0)) (dC (.int 0))))
def tp_letters : Tb := [("Swap", dBody N_Swap_letters b_Swap_letters)]
theorem fo_Swap_letters (e : En K mg base) {fd : FuncData} (F : FunD K "letters" "Swap.letters" (defArgs s_Swap_letters) (defBody s_Swap_letters) (defScope s_Swap_letters) [] [] (pgA K "Swap" "letters") fd) : FnOk PW w K mg base (L2.CX PW w) 2 (pgA K "Swap" "letters") fd ["self"] (Pr K 1 (dBody N_Swap_letters b_Swap_letters)) :=
  Lx.FnOk.up (fn_ly (b := b_Swap_letters) (k := 1) F sc_Swap_letters (ls_ret (le_op2 lo_ix (le_fld le_var) le_int)) (fun cdv A outer s H E hr tk => (pss_one (ps_ret (pe_ix ix_seq (pe_fld (pv 0) rfl) pe_int (fun _ _ => rfl)))))) (by omega)
theorem fk_Swap_letters (e : En K mg base) : Fk PW w K mg base 2 (pgA K "Swap" "letters") (Pr K 1 (dBody N_Swap_letters b_Swap_letters)) := by
  obtain ⟨fd, F⟩ := d_Swap_letters e
  exact ⟨fd, _, fo_Swap_letters e F, F.bindsN (fun _ _ _ _ _ _ us hl => match us, hl with | [_], _ => rfl), F.kp⟩
theorem pk_letters (e : En K mg base) : TabP PW w K mg base 2 "letters" tp_letters := (.cons (cls_ok (e.c.fm 9 rfl)) (fm_prop (e.c.fm 68 rfl)) (fk_Swap_letters e) .nil)
abbrev N_PlaceChange_new : List Str := ["self"]
theorem sc_PlaceChange_new : FnScope N_PlaceChange_new ["self"] (defScope s_PlaceChange_new) := ⟨rfl, rfl, rfl, by decide +kernel, rfl, by decide +kernel, by decide +kernel⟩
theorem gv_First_new (e : En K mg base) : GtV PW w K mg base 2 (ga K "First") (pgA K "PlaceChange" "new") true := by
  obtain ⟨fd, F⟩ := d_PlaceChange_new e
  exact gtv_of (k := 1) F sc_PlaceChange_new rfl (.inl rfl) (F.bindsN (fun _ _ _ _ _ _ us hl => match us, hl with | [_], _ => rfl)) rfl (cls_ok (e.c.fm 5 rfl)) (noat_ok (e.c.fm 34 rfl))
theorem gv_Every_new (e : En K mg base) : GtV PW w K mg base 2 (ga K "Every") (pgA K "PlaceChange" "new") true := by
  obtain ⟨fd, F⟩ := d_PlaceChange_new e
  exact gtv_of (k := 1) F sc_PlaceChange_new rfl (.inl rfl) (F.bindsN (fun _ _ _ _ _ _ us hl => match us, hl with | [_], _ => rfl)) rfl (cls_ok (e.c.fm 7 rfl)) (noat_ok (e.c.fm 35 rfl))
abbrev N_PlaceChange_old : List Str := ["self"]
theorem sc_PlaceChange_old : FnScope N_PlaceChange_old ["self"] (defScope s_PlaceChange_old) := ⟨rfl, rfl, rfl, by decide +kernel, rfl, by decide +kernel, by decide +kernel⟩
theorem gv_First_old (e : En K mg base) : GtV PW w K mg base 2 (ga K "First") (pgA K "PlaceChange" "old") false := by
  obtain ⟨fd, F⟩ := d_PlaceChange_old e
  exact gtv_of (k := 1) F sc_PlaceChange_old rfl (.inl rfl) (F.bindsN (fun _ _ _ _ _ _ us hl => match us, hl with | [_], _ => rfl)) rfl (cls_ok (e.c.fm 5 rfl)) (noat_ok (e.c.fm 34 rfl))
theorem gv_Every_old (e : En K mg base) : GtV PW w K mg base 2 (ga K "Every") (pgA K "PlaceChange" "old") false := by
  obtain ⟨fd, F⟩ := d_PlaceChange_old e
  exact gtv_of (k := 1) F sc_PlaceChange_old rfl (.inl rfl) (F.bindsN (fun _ _ _ _ _ _ us hl => match us, hl with | [_], _ => rfl)) rfl (cls_ok (e.c.fm 7 rfl)) (noat_ok (e.c.fm 35 rfl))
abbrev N_Swap_others : List Str := ["self"]
theorem sc_Swap_others : FnScope N_Swap_others ["self"] (defScope s_Swap_others) := ⟨rfl, rfl, rfl, by decide +kernel, rfl, by decide +kernel, by decide +kernel⟩
@[reducible] def b_Swap_others : List Sl → W Out := (dRet (dOp2 ixD (dFld "own_texts" (dVar 0)) (dC (.int 1))))
def tp_others : Tb := [("Swap", dBody N_Swap_others b_Swap_others)]
theorem fo_Swap_others (e : En K mg base) {fd : FuncData} (F : FunD K "others" "Swap.others" (defArgs s_Swap_others) (defBody s_Swap_others) (defScope s_Swap_others) [] [] (pgA K "Swap" "others") fd) : FnOk PW w K mg base (L2.CX PW w) 2 (pgA K "Swap" "others") fd ["self"] (Pr K 1 (dBody N_Swap_others b_Swap_others)) :=
  Lx.FnOk.up (fn_ly (b := b_Swap_others) (k := 1) F sc_Swap_others (ls_ret (le_op2 lo_ix (le_fld le_var) le_int)) (fun cdv A outer s H E hr tk => (pss_one (ps_ret (pe_ix ix_seq (pe_fld (pv 0) rfl) pe_int (fun _ _ => rfl)))))) (by omega)
theorem fk_Swap_others (e : En K mg base) : Fk PW w K mg base 2 (pgA K "Swap" "others") (Pr K 1 (dBody N_Swap_others b_Swap_others)) := by
  obtain ⟨fd, F⟩ := d_Swap_others e
  exact ⟨fd, _, fo_Swap_others e F, F.bindsN (fun _ _ _ _ _ _ us hl => match us, hl with | [_], _ => rfl), F.kp⟩
theorem pk_others (e : En K mg base) : TabP PW w K mg base 2 "others" tp_others := (.cons (cls_ok (e.c.fm 9 rfl)) (fm_prop (e.c.fm 73 rfl)) (fk_Swap_others e) .nil)
abbrev N_EndChange_word : List Str := ["self"]
theorem sc_EndChange_word : FnScope N_EndChange_word ["self"] (defScope s_EndChange_word) := ⟨rfl, rfl, rfl, by decide +kernel, rfl, by decide +kernel, by decide +kernel⟩
@[reducible] def b_EndChange_word : List Sl → W Out := (dRet (dOp2 ixD (dFld "own_texts" (dVar 0)) (dC (.int 0))))
def tp_word : Tb := [("Front", dBody N_EndChange_word b_EndChange_word), ("Behind", dBody N_EndChange_word b_EndChange_word)]
theorem fo_EndChange_word (e : En K mg base) {fd : FuncData} (F : FunD K "word" "EndChange.word" (defArgs s_EndChange_word) (defBody s_EndChange_word) (defScope s_EndChange_word) [] [] (pgA K "EndChange" "word") fd) : FnOk PW w K mg base (L2.CX PW w) 2 (pgA K "EndChange" "word") fd ["self"] (Pr K 1 (dBody N_EndChange_word b_EndChange_word)) :=
  Lx.FnOk.up (fn_ly (b := b_EndChange_word) (k := 1) F sc_EndChange_word (ls_ret (le_op2 lo_ix (le_fld le_var) le_int)) (fun cdv A outer s H E hr tk => (pss_one (ps_ret (pe_ix ix_seq (pe_fld (pv 0) rfl) pe_int (fun _ _ => rfl)))))) (by omega)
theorem fk_EndChange_word (e : En K mg base) : Fk PW w K mg base 2 (pgA K "EndChange" "word") (Pr K 1 (dBody N_EndChange_word b_EndChange_word)) := by
  obtain ⟨fd, F⟩ := d_EndChange_word e
  exact ⟨fd, _, fo_EndChange_word e F, F.bindsN (fun _ _ _ _ _ _ us hl => match us, hl with | [_], _ => rfl), F.kp⟩
theorem pk_word (e : En K mg base) : TabP PW w K mg base 2 "word" tp_word := (.cons (cls_ok (e.c.fm 11 rfl)) (fm_prop (e.c.fm 75 rfl)) (fk_EndChange_word e) (.cons (cls_ok (e.c.fm 13 rfl)) (fm_prop (e.c.fm 74 rfl)) (fk_EndChange_word e) .nil))
abbrev N_First_done : List Str := ["self", "line"]
theorem sc_First_done : FnScope N_First_done ["self", "line"] (defScope s_First_done) := ⟨rfl, rfl, rfl, by decide +kernel, rfl, by decide +kernel, by decide +kernel⟩
@[reducible] def b_First_done : List Sl → W Out := (dRet (dRepG "First" 1 0 bFi Txt.replace1))
abbrev N_Every_done : List Str := ["self", "line"]
theorem sc_Every_done : FnScope N_Every_done ["self", "line"] (defScope s_Every_done) := ⟨rfl, rfl, rfl, by decide +kernel, rfl, by decide +kernel, by decide +kernel⟩
@[reducible] def b_Every_done : List Sl → W Out := (dRet (dRepG "Every" 1 0 bEv Txt.replace))
abbrev N_Swap_done : List Str := ["self", "line", "turned", "letter"]
theorem sc_Swap_done : FnScope N_Swap_done ["self", "line"] (defScope s_Swap_done) := ⟨rfl, rfl, rfl, by decide +kernel, rfl, by decide +kernel, by decide +kernel⟩
@[reducible] def b_Swap_done : List Sl → W Out := (dSeq (dAsg (dDZ (dCons (dProp tp_letters (dVar 0)) (dCons (dProp tp_others (dVar 0)) dNil))) (dName 2))
  (dRet (dMs (joinD) (dC (.str ("" : Str))) (dCons (dLc (dIS (dVar 1)) (dName 3) dYes (dDGet2 (dVar 2) (dVar 3) (dVar 3)) [3]) dNil))))
abbrev N_Front_done : List Str := ["self", "line"]
theorem sc_Front_done : FnScope N_Front_done ["self", "line"] (defScope s_Front_done) := ⟨rfl, rfl, rfl, by decide +kernel, rfl, by decide +kernel, by decide +kernel⟩
@[reducible] def b_Front_done : List Sl → W Out := (dRet (dOp2 addD (dProp tp_word (dVar 0)) (dVar 1)))
abbrev N_Behind_done : List Str := ["self", "line"]
theorem sc_Behind_done : FnScope N_Behind_done ["self", "line"] (defScope s_Behind_done) := ⟨rfl, rfl, rfl, by decide +kernel, rfl, by decide +kernel, by decide +kernel⟩
@[reducible] def b_Behind_done : List Sl → W Out := (dRet (dOp2 addD (dVar 1) (dProp tp_word (dVar 0))))
def tb_done : Tb := [("First", dBody N_First_done b_First_done), ("Every", dBody N_Every_done b_Every_done), ("Swap", dBody N_Swap_done b_Swap_done), ("Front", dBody N_Front_done b_Front_done), ("Behind", dBody N_Behind_done b_Behind_done)]
theorem fo_First_done (e : En K mg base) {fd : FuncData} (F : FunD K "done" "First.done" (defArgs s_First_done) (defBody s_First_done) (defScope s_First_done) [] [] (ma K (ga K "First") "done") fd) : FnOk PW w K mg base (L2.CX PW w) 10 (ma K (ga K "First") "done") fd ["self", "line"] (Pr K 2 (dBody N_First_done b_First_done)) :=
  Lx.FnOk.up (fn_ly (b := b_First_done) (k := 9) F sc_First_done (ls_ret le_repG) (fun cdv A outer s H E hr tk => (pss_one (ps_ret (pe_repF rfl (by first | exact Or.inl rfl | exact Or.inr (Or.inl rfl) | exact Or.inr (Or.inr rfl)) rfl (by first | exact Or.inl rfl | exact Or.inr (Or.inl rfl) | exact Or.inr (Or.inr rfl)) (cls_ok (e.c.fm 5 rfl)) (fm_prop (e.c.fm 72 rfl)) (fm_prop (e.c.fm 70 rfl)) (gv_First_old e) (gv_First_new e) (hr.mono (by omega)) (fy_nb (e.c.fact 76 rfl))))))) (by omega)
theorem fk_First_done (e : En K mg base) : Fk PW w K mg base 10 (ma K (ga K "First") "done") (Pr K 2 (dBody N_First_done b_First_done)) := by
  obtain ⟨fd, F⟩ := d_First_done e
  exact ⟨fd, _, fo_First_done e F, F.bindsN (fun _ _ _ _ _ _ us hl => match us, hl with | [_, _], _ => rfl), F.kp⟩
theorem fo_Every_done (e : En K mg base) {fd : FuncData} (F : FunD K "done" "Every.done" (defArgs s_Every_done) (defBody s_Every_done) (defScope s_Every_done) [] [] (ma K (ga K "Every") "done") fd) : FnOk PW w K mg base (L2.CX PW w) 10 (ma K (ga K "Every") "done") fd ["self", "line"] (Pr K 2 (dBody N_Every_done b_Every_done)) :=
  Lx.FnOk.up (fn_ly (b := b_Every_done) (k := 9) F sc_Every_done (ls_ret le_repG) (fun cdv A outer s H E hr tk => (pss_one (ps_ret (pe_repE rfl (by first | exact Or.inl rfl | exact Or.inr (Or.inl rfl) | exact Or.inr (Or.inr rfl)) rfl (by first | exact Or.inl rfl | exact Or.inr (Or.inl rfl) | exact Or.inr (Or.inr rfl)) (cls_ok (e.c.fm 7 rfl)) (fm_prop (e.c.fm 71 rfl)) (fm_prop (e.c.fm 69 rfl)) (gv_Every_old e) (gv_Every_new e) (hr.mono (by omega)) (fy_nb (e.c.fact 76 rfl))))))) (by omega)
theorem fk_Every_done (e : En K mg base) : Fk PW w K mg base 10 (ma K (ga K "Every") "done") (Pr K 2 (dBody N_Every_done b_Every_done)) := by
  obtain ⟨fd, F⟩ := d_Every_done e
  exact ⟨fd, _, fo_Every_done e F, F.bindsN (fun _ _ _ _ _ _ us hl => match us, hl with | [_, _], _ => rfl), F.kp⟩
theorem fo_Swap_done (e : En K mg base) {fd : FuncData} (F : FunD K "done" "Swap.done" (defArgs s_Swap_done) (defBody s_Swap_done) (defScope s_Swap_done) [] [] (ma K (ga K "Swap") "done") fd) : FnOk PW w K mg base (L2.CX PW w) 10 (ma K (ga K "Swap") "done") fd ["self", "line"] (Pr K 2 (dBody N_Swap_done b_Swap_done)) :=
  Lx.FnOk.up (fn_ly (b := b_Swap_done) (k := 9) F sc_Swap_done (ls_seq (ls_asg (le_dz (la_cons (le_prop le_var) (la_cons (le_prop le_var) la_nil))) lg_name)
  (ls_ret (le_ms lo_join le_str (la_cons (le_lc (li_str le_var) lg_name lt_yes (le_dget2 le_var le_var le_var) (fun _ h => h)) la_nil)))) (fun cdv A outer s H E hr tk => (pss_cons (ps_set (i := 2) sc_Swap_done.nd rfl (by first | exact Or.inl rfl | exact Or.inr rfl) (pe_dictzip rfl rfl (fr e 77 rfl) PyProof.Rows.boot_dict rfl (fr e 78 rfl) PyProof.Rows.boot_zip (pa_cons (pe_propU (((pk_letters e) : TabP _ _ _ _ _ 2 _ _).pt (hr.mono (by omega))) (pv 0)) (pa_cons (pe_propU (((pk_others e) : TabP _ _ _ _ _ 2 _ _).pt (hr.mono (by omega))) (pv 0)) pa_nil))))
  (pss_one (ps_ret (pe_bm PySem.F.plainAttrs_str PySem.F.slot_str_join PySem.F.type_str_join mt_join pe_str (pa_cons (pe_lc (own := [("letter", 3)]) rfl sc_Swap_done.nd (pi_str (pv 1)) (blkOk_by (N := N_Swap_done) (sc := defScope s_Swap_done) (by decide +kernel)) (fun _ _ _ _ _ => (pg_name (i := 3) sc_Swap_done.nd rfl (by first | exact Or.inl rfl | exact Or.inr rfl))) (fun _ _ _ _ _ => pts_nil) (fun _ _ _ _ _ => (pe_dget2 (hu_of hr) (pv 2) (pv 3) (pv 3) ⟨rfl, rfl, rfl, rfl⟩))) pa_nil))))))) (by omega)
theorem fk_Swap_done (e : En K mg base) : Fk PW w K mg base 10 (ma K (ga K "Swap") "done") (Pr K 2 (dBody N_Swap_done b_Swap_done)) := by
  obtain ⟨fd, F⟩ := d_Swap_done e
  exact ⟨fd, _, fo_Swap_done e F, F.bindsN (fun _ _ _ _ _ _ us hl => match us, hl with | [_, _], _ => rfl), F.kp⟩
theorem fo_Front_done (e : En K mg base) {fd : FuncData} (F : FunD K "done" "Front.done" (defArgs s_Front_done) (defBody s_Front_done) (defScope s_Front_done) [] [] (ma K (ga K "Front") "done") fd) : FnOk PW w K mg base (L2.CX PW w) 10 (ma K (ga K "Front") "done") fd ["self", "line"] (Pr K 2 (dBody N_Front_done b_Front_done)) :=
  Lx.FnOk.up (fn_ly (b := b_Front_done) (k := 9) F sc_Front_done (ls_ret (le_op2 lo_add (le_prop le_var) le_var)) (fun cdv A outer s H E hr tk => (pss_one (ps_ret (pe_op op_addU (pe_propU (((pk_word e) : TabP _ _ _ _ _ 2 _ _).pt (hr.mono (by omega))) (pv 0)) (pv 1)))))) (by omega)
theorem fk_Front_done (e : En K mg base) : Fk PW w K mg base 10 (ma K (ga K "Front") "done") (Pr K 2 (dBody N_Front_done b_Front_done)) := by
  obtain ⟨fd, F⟩ := d_Front_done e
  exact ⟨fd, _, fo_Front_done e F, F.bindsN (fun _ _ _ _ _ _ us hl => match us, hl with | [_, _], _ => rfl), F.kp⟩
theorem fo_Behind_done (e : En K mg base) {fd : FuncData} (F : FunD K "done" "Behind.done" (defArgs s_Behind_done) (defBody s_Behind_done) (defScope s_Behind_done) [] [] (ma K (ga K "Behind") "done") fd) : FnOk PW w K mg base (L2.CX PW w) 10 (ma K (ga K "Behind") "done") fd ["self", "line"] (Pr K 2 (dBody N_Behind_done b_Behind_done)) :=
  Lx.FnOk.up (fn_ly (b := b_Behind_done) (k := 9) F sc_Behind_done (ls_ret (le_op2 lo_add le_var (le_prop le_var))) (fun cdv A outer s H E hr tk => (pss_one (ps_ret (pe_op op_addU (pv 1) (pe_propU (((pk_word e) : TabP _ _ _ _ _ 2 _ _).pt (hr.mono (by omega))) (pv 0))))))) (by omega)
theorem fk_Behind_done (e : En K mg base) : Fk PW w K mg base 10 (ma K (ga K "Behind") "done") (Pr K 2 (dBody N_Behind_done b_Behind_done)) := by
  obtain ⟨fd, F⟩ := d_Behind_done e
  exact ⟨fd, _, fo_Behind_done e F, F.bindsN (fun _ _ _ _ _ _ us hl => match us, hl with | [_, _], _ => rfl), F.kp⟩
theorem tk_done (e : En K mg base) : TabK PW w K mg base 10 "done" 1 tb_done := (.cons (cls_ok (e.c.fm 5 rfl)) (fm_meth (e.c.fm 83 rfl)) (Fk.up (fk_First_done e) (by omega)) (.cons (cls_ok (e.c.fm 7 rfl)) (fm_meth (e.c.fm 82 rfl)) (Fk.up (fk_Every_done e) (by omega)) (.cons (cls_ok (e.c.fm 9 rfl)) (fm_meth (e.c.fm 81 rfl)) (Fk.up (fk_Swap_done e) (by omega)) (.cons (cls_ok (e.c.fm 11 rfl)) (fm_meth (e.c.fm 80 rfl)) (Fk.up (fk_Front_done e) (by omega)) (.cons (cls_ok (e.c.fm 13 rfl)) (fm_meth (e.c.fm 79 rfl)) (Fk.up (fk_Behind_done e) (by omega)) .nil)))))
abbrev N_done_all : List Str := ["changes", "line", "change"]
theorem sc_done_all : FnScope N_done_all ["changes", "line"] (defScope s_done_all) := ⟨rfl, rfl, rfl, by decide +kernel, rfl, by decide +kernel, by decide +kernel⟩
@[reducible] def b_done_all : List Sl → W Out := (dSeq (dFor (dIE (dVar 0)) (dName 2) (dAsg (dMeth "done" 1 tb_done (dVar 2) (dCons (dVar 1) dNil)) (dName 1)))
  (dRet (dVar 1)))
def g_done_all : List D → W D := dBody N_done_all b_done_all
theorem fk_done_all (e : En K mg base) : Fk PW w K mg base 18 (ga K "done_all") (Pr K 2 g_done_all) := by
  obtain ⟨fd, F⟩ := d_done_all e
  exact ⟨fd, _, fn_ly (b := b_done_all) (k := 17) F sc_done_all (ls_seq (ls_for (li_E le_var) lg_name (ls_asg (le_meth le_var (la_cons le_var la_nil)) lg_name))
  (ls_ret le_var)) (fun cdv A outer s H E hr tk => (pss_cons (ps_for (passes_of rfl) rfl (pi_E (pv 0)) (pg_name (i := 2) sc_done_all.nd rfl (by first | exact Or.inl rfl | exact Or.inr rfl)) (pss_one (ps_set (i := 1) sc_done_all.nd rfl (by first | exact Or.inl rfl | exact Or.inr rfl) (pe_methU ((tk_done e).mt (hr.mono (by omega)) (px tk)) (pv 2) (pa_cons (pv 1) pa_nil)))))
  (pss_one (ps_ret (pv 1))))), F.bindsN (fun _ _ _ _ _ _ us hl => match us, hl with | [_, _], _ => rfl), F.kp⟩
theorem fc_done_all_line_changes (e : En K mg base) : FkC PW w K mg base 18 (ga K "done_all") ["line", "changes"] [1, 0] (Pr K 2 g_done_all) := by
  obtain ⟨fd, F⟩ := d_done_all e
  exact ⟨fd, ["changes", "line"], fn_ly (b := b_done_all) (k := 17) F sc_done_all (ls_seq (ls_for (li_E le_var) lg_name (ls_asg (le_meth le_var (la_cons le_var la_nil)) lg_name))
  (ls_ret le_var)) (fun cdv A outer s H E hr tk => (pss_cons (ps_for (passes_of rfl) rfl (pi_E (pv 0)) (pg_name (i := 2) sc_done_all.nd rfl (by first | exact Or.inl rfl | exact Or.inr rfl)) (pss_one (ps_set (i := 1) sc_done_all.nd rfl (by first | exact Or.inl rfl | exact Or.inr rfl) (pe_methU ((tk_done e).mt (hr.mono (by omega)) (px tk)) (pv 2) (pa_cons (pv 1) pa_nil)))))
  (pss_one (ps_ret (pv 1))))), bC F (fun _ _ _ _ _ _ ws hl => match ws, hl with | [_, _], _ => rfl), F.kp⟩
abbrev N_places : List Str := ["line", "word", "found", "place"]
theorem sc_places : FnScope N_places ["line", "word"] (defScope s_places) := ⟨rfl, rfl, rfl, by decide +kernel, rfl, by decide +kernel, by decide +kernel⟩
@[reducible] def b_places : List Sl → W Out := (dSeq (dPar 2 3 (dCons (dLstM dNil) (dCons (dMs (findD) (dVar 0) (dCons (dVar 1) dNil)) dNil)))
  (dSeq (dWhile (dTest (dOp2 geD (dVar 3) (dC (.int 0)))) (dSeq (dApp 2 (dVar 3))
  (dAsg (dMs (find3D) (dVar 0) (dCons (dVar 1) (dCons (dOp2 addD (dVar 3) (dC (.int 1))) dNil))) (dName 3))))
  (fun δ => (iceD 2 δ).bind (dRet (dVar 2)))))
def g_places : List D → W D := dBody N_places b_places
theorem fk_places (e : En K mg base) : Fk PW w K mg base 2 (ga K "places") (Pr K 2 g_places) := by
  obtain ⟨fd, F⟩ := d_places e
  exact ⟨fd, _, fn_ly (b := b_places) (k := 1) F sc_places (ls_seq (ls_par (la_cons (le_lstM la_nil) (la_cons (le_ms lo_find le_var (la_cons le_var la_nil)) la_nil)))
  (ls_seq (ls_while (lt_test (le_op2 lo_cmp le_var le_int)) (ls_seq (ls_app le_var)
  (ls_asg (le_ms lo_find3 le_var (la_cons le_var (la_cons (le_op2 lo_add le_var le_int) la_nil))) lg_name)))
  (ls_ice 2 (ls_ret le_var)))) (fun cdv A outer s H E hr tk => (pss_cons (ps_par (i := 2) (j := 3) rfl sc_places.nd rfl rfl (by decide) rfl rfl (pa_cons (pe_lst pa_nil) (pa_cons (pe_bm PySem.F.plainAttrs_str PySem.F.slot_str_find PySem.F.type_str_find mt_find (pv 0) (pa_cons (pv 1) pa_nil)) pa_nil)) rfl)
  (pss_cons (ps_while (passes_of rfl) (pt_cmpR op_ge (pv 3) pe_int (nomark _)) (pss_cons (ps_expr (pe_bm PySem.F.plainAttrs_list PySem.F.slot_list_append PySem.F.type_list_append mt_append (pv 2) (pa_cons (pv 3) pa_nil)))
  (pss_one (ps_set (i := 3) sc_places.nd rfl (by first | exact Or.inl rfl | exact Or.inr rfl) (pe_bm PySem.F.plainAttrs_str PySem.F.slot_str_find PySem.F.type_str_find mt_find3 (pv 0) (pa_cons (pv 1) (pa_cons (pe_op op_addU (pv 3) pe_int) pa_nil)))))))
  (pss_one (ps_ret (pv 2)))))), F.bindsN (fun _ _ _ _ _ _ us hl => match us, hl with | [_, _], _ => rfl), F.kp⟩
theorem fc_places_word_line (e : En K mg base) : FkC PW w K mg base 2 (ga K "places") ["word", "line"] [1, 0] (Pr K 2 g_places) := by
  obtain ⟨fd, F⟩ := d_places e
  exact ⟨fd, ["line", "word"], fn_ly (b := b_places) (k := 1) F sc_places (ls_seq (ls_par (la_cons (le_lstM la_nil) (la_cons (le_ms lo_find le_var (la_cons le_var la_nil)) la_nil)))
  (ls_seq (ls_while (lt_test (le_op2 lo_cmp le_var le_int)) (ls_seq (ls_app le_var)
  (ls_asg (le_ms lo_find3 le_var (la_cons le_var (la_cons (le_op2 lo_add le_var le_int) la_nil))) lg_name)))
  (ls_ice 2 (ls_ret le_var)))) (fun cdv A outer s H E hr tk => (pss_cons (ps_par (i := 2) (j := 3) rfl sc_places.nd rfl rfl (by decide) rfl rfl (pa_cons (pe_lst pa_nil) (pa_cons (pe_bm PySem.F.plainAttrs_str PySem.F.slot_str_find PySem.F.type_str_find mt_find (pv 0) (pa_cons (pv 1) pa_nil)) pa_nil)) rfl)
  (pss_cons (ps_while (passes_of rfl) (pt_cmpR op_ge (pv 3) pe_int (nomark _)) (pss_cons (ps_expr (pe_bm PySem.F.plainAttrs_list PySem.F.slot_list_append PySem.F.type_list_append mt_append (pv 2) (pa_cons (pv 3) pa_nil)))
  (pss_one (ps_set (i := 3) sc_places.nd rfl (by first | exact Or.inl rfl | exact Or.inr rfl) (pe_bm PySem.F.plainAttrs_str PySem.F.slot_str_find PySem.F.type_str_find mt_find3 (pv 0) (pa_cons (pv 1) (pa_cons (pe_op op_addU (pv 3) pe_int) pa_nil)))))))
  (pss_one (ps_ret (pv 2)))))), bC F (fun _ _ _ _ _ _ ws hl => match ws, hl with | [_, _], _ => rfl), F.kp⟩
abbrev N_law : List Str := ["_law_script", "_law_pen_here", "_law_turn", "_law_signs_here", "_law_was", "_law_deeds", "_law_made", "_law_words", "_law_deed_here", "_law_kept", "_law_again", "_law_row_here", "_law_due", "_law_k", "_law_told"]
theorem sc_law : FnScope N_law ["_law_script"] (defScope s_law) := ⟨rfl, rfl, rfl, by decide +kernel, rfl, by decide +kernel, by decide +kernel⟩
@[reducible] def b_law : List Sl → W Out := (dSeq (dFor (dIR1 (dCons (dC (.int 12)) dNil)) (dName 2) (dSeq (dAsg (dCall 1 g__law_few (dCons (dVar 1) dNil)) (dName 3))
  (dSeq (dAsg (dCall 2 g__law_pick (dCons (dVar 1) (dCons (dLst (dCons (dCall 4 g__law_row (dCons (dVar 1) (dCons (dVar 3) (dCons (dC (.int 1)) (dCons (dC (.int 3)) dNil))))) (dCons (dOp2 mulUD (dOp2 ixD (dVar 3) (dC (.int 0))) (dC (.int 2))) (dCons (dOp2 addD (dSl (dVar 3) dNoPart (dPart (dC (.int 2)))) (dSl (dVar 3) dNoPart (dPart (dC (.int 1))))) (dCons (dSl (dVar 3) dNoPart (dPart (dC (.int 1)))) dNil))))) dNil))) (dName 4))
  (dSeq (dAsg (dCall 4 g__law_jdeeds (dCons (dVar 1) (dCons (dVar 3) (dCons (dC (.int 4)) (dCons (dC (.int 2)) dNil))))) (dName 5))
  (dSeq (dPar 6 7 (dCons (dCall 1 g__law_jmade_deeds (dCons (dVar 5) dNil)) (dCons (dOp2 addD (dLst (dCons (dVar 4) dNil)) (dOpn sumD (dCons (dLc (dIL (dVar 5)) (dName 8) dYes (dCall 1 g__law_jwords (dCons (dVar 8) dNil)) [8]) (dCons (dLst dNil) dNil)))) dNil)))
  (dSeq (dAsg (dOpn listD (dCons (dVar 6) dNil)) (dName 9))
  (dFor (dIR1 (dCons (dC (.int 8)) dNil)) (dName 10) (dSeq (dAsg (dCall 4 g__law_jline (dCons (dVar 1) (dCons (dVar 7) (dCons (dVar 3) (dCons (dC (.int 14)) dNil))))) (dName 11))
  (dSeq (dAsg (dLc (dIR1 (dCons (dOpn lenD (dCons (dVar 11) dNil)) dNil)) (dName 13) (dTest (dOp2 eqD (dSl (dVar 11) (dPart (dVar 13)) (dPart (dOp2 addD (dVar 13) (dOpn lenD (dCons (dVar 4) dNil))))) (dVar 4))) (dVar 13) [13]) (dName 12))
  (dSeq (dIf (dOr (dTest (dOp2 neD (dOpn reprD (dCons (dCall 2 g_places (dCons (dVar 11) (dCons (dVar 4) dNil))) dNil)) (dOpn reprD (dCons (dVar 12) dNil)))) (dTest (dOp2 neD (dOpn reprD (dCons (dCallC 2 [1, 0] 2 g_places (dCons (dVar 4) (dCons (dVar 11) dNil))) dNil)) (dOpn reprD (dCons (dVar 12) dNil))))) (dRet (dC (.bl false))) dNext)
  (dSeq (dAsg (dLst (dCons (dCall 2 g_done_all (dCons (dVar 6) (dCons (dVar 11) dNil))) (dCons (dCallC 2 [1, 0] 2 g_done_all (dCons (dVar 11) (dCons (dOpn tupleD (dCons (dVar 6) dNil)) dNil))) dNil))) (dName 14))
  (dIf (dOr (dTest (dOp2 neD (dOpn reprD (dCons (dVar 14) dNil)) (dOpn reprD (dCons (dOp2 mulLD (dLst (dCons (dCall 2 g__law_jdone (dCons (dVar 5) (dCons (dVar 11) dNil))) dNil)) (dC (.int 2))) dNil)))) (dTest (dOp2 (neX (tb_eq 2) tys_eq 4) (dVar 6) (dVar 9)))) (dRet (dC (.bl false))) dNext))))))))))))
  (dRet (dC (.bl true))))
theorem fg_law (e : En K mg base) {fd : FuncData} (F : FunD K "law" "law" (defArgs s_law) (defBody s_law) (defScope s_law) [] [] (ga K "law") fd) (hw : ∀ ns : List Int, (b_law (some (.sct ns) :: some .pen :: List.replicate 13 none)).wp ⟨2 ^ 60, []⟩ (fun _ o => o = .rt (.bl true)) (fun _ _ => False)) : Lx.FnG PW w K mg base (L2.CX PW w) 50 (ga K "law") fd ["_law_script"] (Ly.spLaw K) :=
  law_ly (b := b_law) (k := 49) F sc_law rfl rfl (ls_seq (ls_for (li_range1 (la_cons le_int la_nil)) lg_name (ls_seq (ls_asg (le_call (la_cons le_var la_nil)) lg_name)
  (ls_seq (ls_asg (le_call (la_cons le_var (la_cons (le_lst (la_cons (le_call (la_cons le_var (la_cons le_var (la_cons le_int (la_cons le_int la_nil))))) (la_cons (le_op2 lo_mulU (le_op2 lo_ix le_var le_int) le_int) (la_cons (le_op2 lo_add (le_sl le_var lp_none (lp_some le_int)) (le_sl le_var lp_none (lp_some le_int))) (la_cons (le_sl le_var lp_none (lp_some le_int)) la_nil))))) la_nil))) lg_name)
  (ls_seq (ls_asg (le_call (la_cons le_var (la_cons le_var (la_cons le_int (la_cons le_int la_nil))))) lg_name)
  (ls_seq (ls_par (la_cons (le_call (la_cons le_var la_nil)) (la_cons (le_op2 lo_add (le_lst (la_cons le_var la_nil)) (le_opn lo_sum (la_cons (le_lc (li_list le_var) lg_name lt_yes (le_call (la_cons le_var la_nil)) (fun _ h => h)) (la_cons (le_lst la_nil) la_nil)))) la_nil)))
  (ls_seq (ls_asg (le_opn lo_list (la_cons le_var la_nil)) lg_name)
  (ls_for (li_range1 (la_cons le_int la_nil)) lg_name (ls_seq (ls_asg (le_call (la_cons le_var (la_cons le_var (la_cons le_var (la_cons le_int la_nil))))) lg_name)
  (ls_seq (ls_asg (le_lc (li_range1 (la_cons (le_opn lo_len (la_cons le_var la_nil)) la_nil)) lg_name (lt_test (le_op2 lo_eq (le_sl le_var (lp_some le_var) (lp_some (le_op2 lo_add le_var (le_opn lo_len (la_cons le_var la_nil))))) le_var)) le_var (fun _ h => h)) lg_name)
  (ls_seq (ls_if (lt_or (lt_test (le_op2 lo_ne (le_opn lo_repr (la_cons (le_call (la_cons le_var (la_cons le_var la_nil))) la_nil)) (le_opn lo_repr (la_cons le_var la_nil)))) (lt_test (le_op2 lo_ne (le_opn lo_repr (la_cons (le_callC (la_cons le_var (la_cons le_var la_nil))) la_nil)) (le_opn lo_repr (la_cons le_var la_nil))))) (ls_ret le_bl) ls_next)
  (ls_seq (ls_asg (le_lst (la_cons (le_call (la_cons le_var (la_cons le_var la_nil))) (la_cons (le_callC (la_cons le_var (la_cons (le_opn lo_tuple (la_cons le_var la_nil)) la_nil))) la_nil))) lg_name)
  (ls_if (lt_or (lt_test (le_op2 lo_ne (le_opn lo_repr (la_cons le_var la_nil)) (le_opn lo_repr (la_cons (le_op2 lo_rep (le_lst (la_cons (le_call (la_cons le_var (la_cons le_var la_nil))) la_nil)) le_int) la_nil)))) (lt_test (le_op2 lo_neX le_var le_var))) (ls_ret le_bl) ls_next))))))))))))
  (ls_ret le_bl)) (fun cdv A outer s H E hco hgd hr tk => pss_cons (ps_set (i := 1) sc_law.nd rfl (by first | exact Or.inl rfl | exact Or.inr rfl) (pe_fk (fk__law_pen e) (hr.mono (by omega)) (px tk) rfl (gl e 95 rfl) (pa_cons (pv 0) pa_nil)))
  (pss_cons (ps_for (passes_of rfl) rfl (pi_range1 rfl (fr e 24 rfl) (pa_cons pe_int pa_nil)) (pg_name (i := 2) sc_law.nd rfl (by first | exact Or.inl rfl | exact Or.inr rfl)) (pss_cons (ps_set (i := 3) sc_law.nd rfl (by first | exact Or.inl rfl | exact Or.inr rfl) (pe_fk (fk__law_few e) (hr.mono (by omega)) (px tk) rfl (gl e 94 rfl) (pa_cons (pv 1) pa_nil)))
  (pss_cons (ps_set (i := 4) sc_law.nd rfl (by first | exact Or.inl rfl | exact Or.inr rfl) (pe_fk (fk__law_pick e) (hr.mono (by omega)) (px tk) rfl (gl e 23 rfl) (pa_cons (pv 1) (pa_cons (pe_lst (pa_cons (pe_fk (fk__law_row e) (hr.mono (by omega)) (px tk) rfl (gl e 26 rfl) (pa_cons (pv 1) (pa_cons (pv 3) (pa_cons pe_int (pa_cons pe_int pa_nil))))) (pa_cons (pe_op op_mulU (pe_ix ix_seq (pv 3) pe_int (fun _ _ => rfl)) pe_int) (pa_cons (pe_op op_addU (pe_slice sl_U (pv 3) po_none (po_some pe_int)) (pe_slice sl_U (pv 3) po_none (po_some pe_int))) (pa_cons (pe_slice sl_U (pv 3) po_none (po_some pe_int)) pa_nil))))) pa_nil))))
  (pss_cons (ps_set (i := 5) sc_law.nd rfl (by first | exact Or.inl rfl | exact Or.inr rfl) (pe_fk (fk__law_jdeeds e) (hr.mono (by omega)) (px tk) rfl (gl e 93 rfl) (pa_cons (pv 1) (pa_cons (pv 3) (pa_cons pe_int (pa_cons pe_int pa_nil))))))
  (pss_cons (ps_par (i := 6) (j := 7) rfl sc_law.nd rfl rfl (by decide) rfl rfl (pa_cons (pe_fk (fk__law_jmade_deeds e) (hr.mono (by omega)) (px tk) rfl (gl e 92 rfl) (pa_cons (pv 5) pa_nil)) (pa_cons (pe_op op_addU (pe_lst (pa_cons (pv 4) pa_nil)) (pe_callB (call_sumL rfl) rfl (fr e 91 rfl) boot_sum (pa_cons (pe_lc (own := [("_law_deed_here", 8)]) rfl sc_law.nd (pi_list (pv 5)) (blkOk_by (N := N_law) (sc := defScope s_law) (by decide +kernel)) (fun _ _ _ _ _ => (pg_name (i := 8) sc_law.nd rfl (by first | exact Or.inl rfl | exact Or.inr rfl))) (fun _ _ _ _ _ => pts_nil) (fun _ _ _ _ _ => (pe_fk (fk__law_jwords e) (hr.mono (by omega)) px0 rfl (gl e 90 rfl) (pa_cons (pv 8) pa_nil)))) (pa_cons (pe_lst pa_nil) pa_nil)))) pa_nil)) rfl)
  (pss_cons (ps_set (i := 9) sc_law.nd rfl (by first | exact Or.inl rfl | exact Or.inr rfl) (pe_callTy call_list_of rfl (fr e 29 rfl) boot_list (pa_cons (pv 6) pa_nil)))
  (pss_one (ps_for (passes_of rfl) rfl (pi_range1 rfl (fr e 24 rfl) (pa_cons pe_int pa_nil)) (pg_name (i := 10) sc_law.nd rfl (by first | exact Or.inl rfl | exact Or.inr rfl)) (pss_cons (ps_set (i := 11) sc_law.nd rfl (by first | exact Or.inl rfl | exact Or.inr rfl) (pe_fk (fk__law_jline e) (hr.mono (by omega)) (px tk) rfl (gl e 89 rfl) (pa_cons (pv 1) (pa_cons (pv 7) (pa_cons (pv 3) (pa_cons pe_int pa_nil))))))
  (pss_cons (by first | exact (ps_setLc (i := 12) (own := [("_law_k", 13)]) rfl sc_law.nd rfl rfl (sw_true rfl rfl rfl (by decide +kernel)) (pi_range1 rfl (fr e 24 rfl) (pa_cons (pe_callB call_len rfl (fr e 20 rfl) boot_len (pa_cons (pv 11) pa_nil)) pa_nil)) (blkOk_by (N := N_law) (sc := defScope s_law) (by decide +kernel)) (fun _ _ _ _ _ => (pg_name (i := 13) sc_law.nd rfl (by first | exact Or.inl rfl | exact Or.inr rfl))) (fun _ _ _ _ _ => (pts_one (pt_cmpR (op_eqU hr.units) (pe_slice sl_U (pv 11) (po_some (pv 13)) (po_some (pe_op op_addU (pv 13) (pe_callB call_len rfl (fr e 20 rfl) boot_len (pa_cons (pv 4) pa_nil))))) (pv 4) (nomark _)))) (fun _ _ _ _ _ => (pv 13))) | exact (ps_set (i := 12) sc_law.nd rfl (by first | exact Or.inl rfl | exact Or.inr rfl) (pe_lc (own := [("_law_k", 13)]) rfl sc_law.nd (pi_range1 rfl (fr e 24 rfl) (pa_cons (pe_callB call_len rfl (fr e 20 rfl) boot_len (pa_cons (pv 11) pa_nil)) pa_nil)) (blkOk_by (N := N_law) (sc := defScope s_law) (by decide +kernel)) (fun _ _ _ _ _ => (pg_name (i := 13) sc_law.nd rfl (by first | exact Or.inl rfl | exact Or.inr rfl))) (fun _ _ _ _ _ => (pts_one (pt_cmpR (op_eqU hr.units) (pe_slice sl_U (pv 11) (po_some (pv 13)) (po_some (pe_op op_addU (pv 13) (pe_callB call_len rfl (fr e 20 rfl) boot_len (pa_cons (pv 4) pa_nil))))) (pv 4) (nomark _)))) (fun _ _ _ _ _ => (pv 13)))))
  (pss_cons (ps_if (PW.pt (pw_or (pt_cmpR (op_neU hr.units) (pe_callB (call_repr hgd hr.units) rfl (fr e 84 rfl) boot_repr (pa_cons (pe_fk (fk_places e) (hr.mono (by omega)) (px tk) rfl (gl e 88 rfl) (pa_cons (pv 11) (pa_cons (pv 4) pa_nil))) pa_nil)) (pe_callB (call_repr hgd hr.units) rfl (fr e 84 rfl) boot_repr (pa_cons (pv 12) pa_nil)) (nomark _)) (pw_or1 (pt_cmpR (op_neU hr.units) (pe_callB (call_repr hgd hr.units) rfl (fr e 84 rfl) boot_repr (pa_cons (pe_fkC (x := "places") (ks := ["word", "line"]) (fc_places_word_line e) (hr.mono (by omega)) (px tk) rfl (gl e 88 rfl) (pk_cons (pv 4) (pk_cons (pv 11) pk_nil))) pa_nil)) (pe_callB (call_repr hgd hr.units) rfl (fr e 84 rfl) boot_repr (pa_cons (pv 12) pa_nil)) (nomark _))))) (pss_one (ps_ret pe_bl)) pss_nil)
  (pss_cons (ps_set (i := 14) sc_law.nd rfl (by first | exact Or.inl rfl | exact Or.inr rfl) (pe_lst (pa_cons (pe_fk (fk_done_all e) (hr.mono (by omega)) (px tk) rfl (gl e 87 rfl) (pa_cons (pv 6) (pa_cons (pv 11) pa_nil))) (pa_cons (pe_fkC (x := "done_all") (ks := ["line", "changes"]) (fc_done_all_line_changes e) (hr.mono (by omega)) (px tk) rfl (gl e 87 rfl) (pk_cons (pv 11) (pk_cons (pe_callTy call_tuple_of rfl (fr e 86 rfl) boot_tuple (pa_cons (pv 6) pa_nil)) pk_nil))) pa_nil))))
  (pss_one (ps_if (PW.pt (pw_or (pt_cmpR (op_neU hr.units) (pe_callB (call_repr hgd hr.units) rfl (fr e 84 rfl) boot_repr (pa_cons (pv 14) pa_nil)) (pe_callB (call_repr hgd hr.units) rfl (fr e 84 rfl) boot_repr (pa_cons (pe_op op_rep (pe_lst (pa_cons (pe_fk (fk__law_jdone e) (hr.mono (by omega)) (px tk) rfl (gl e 85 rfl) (pa_cons (pv 5) (pa_cons (pv 11) pa_nil))) pa_nil)) pe_int) pa_nil)) (nomark _)) (pw_or1 (pt_cmpR (op_neX (te_eq e 2) (own_eq e) (ns_eq e _) (hr.mono (by omega))) (pv 6) (pv 9) (nomark _))))) (pss_one (ps_ret pe_bl)) pss_nil))))))))))))))
  (pss_one (ps_ret pe_bl)))) hw
theorem gl_law (c : SaysY file fa fn K) (x : ∃ h : Heap, K.In h ∧ h.Ns mainGlobals mg) : mg "law" = some (.ref (ga K "law")) := by
  obtain ⟨hp, a, b⟩ := x
  exact glo_ok a b (c.fm 96 rfl)
end
end Lw
namespace Lw
open PySem L2 Ly
open PySem.Builtin.Str
def atB (w L : List Nat) (k : Nat) : Bool := (L.drop k).take w.length == w
theorem atB_lt {w L : List Nat} {k : Nat} (h1 : 1 ≤ w.length) (h : atB w L k = true) : k + w.length ≤ L.length := by
  have h2 := congrArg List.length (eq_of_beq h)
  rw [List.length_take, List.length_drop] at h2
  omega
theorem atB_sub (x y : Str) (k : Nat) : subAt x y k = atB y.cps.toList x.cps.toList k := by
  rw [PySem.StrLaws.subAt_eq]
  unfold atB
  rw [len_cps y]
theorem at_iff {x y : Str} {k : Nat} (h1 : 1 ≤ y.length) : StrLaws.At x y x.length k ↔ atB y.cps.toList x.cps.toList k = true := by
  rw [← atB_sub]
  refine ⟨fun h => h.2, fun h => ⟨?_, h⟩⟩
  rw [atB_sub] at h
  have := atB_lt (by rw [← len_cps]; exact h1) h
  rw [← len_cps, ← len_cps] at this
  exact this
def dueL (w L : List Nat) (a : Nat) : List Nat := (List.range' a (L.length - a)).filter (atB w L)
theorem due_none {w L : List Nat} {a : Nat} (h : ∀ k, a ≤ k → atB w L k = false) : dueL w L a = [] := by
  unfold dueL
  rw [List.filter_eq_nil_iff]
  intro k hk
  rw [List.mem_range'_1] at hk
  rw [h k hk.1]; decide
theorem due_some {w L : List Nat} (h1 : 1 ≤ w.length) {a i : Nat} (hi : a ≤ i) (hat : atB w L i = true) (h : ∀ k, a ≤ k → k < i → atB w L k = false) : dueL w L a = i :: dueL w L (i + 1) := by
  have hl := atB_lt h1 hat
  unfold dueL
  have e : L.length - a = (i - a) + ((L.length - (i + 1)) + 1) := by omega
  rw [e, ← List.range'_append_1, List.filter_append, List.range'_succ]
  have e1 : (List.range' a (i - a)).filter (atB w L) = [] := by
    rw [List.filter_eq_nil_iff]
    intro k hk
    rw [List.mem_range'_1] at hk
    rw [h k hk.1 (by omega)]; decide
  have e2 : a + (i - a) = i := by omega
  rw [e1, e2, List.nil_append, List.filter_cons_of_pos hat]
theorem due_range (w L : List Nat) : dueL w L 0 = (List.range L.length).filter (atB w L) := by
  unfold dueL
  rw [Nat.sub_zero, List.range_eq_range']
theorem find_from {x y : Str} (h1 : 1 ≤ y.length) (a : Nat) : (Txt.find3 x y (a : Int) = -1 ∧ dueL y.cps.toList x.cps.toList a = []) ∨
    ∃ i, a ≤ i ∧ Txt.find3 x y (a : Int) = (i : Int) ∧ i < x.length ∧ dueL y.cps.toList x.cps.toList a = i :: dueL y.cps.toList x.cps.toList (i + 1) := by
  have e : fromIndex x.length (a : Int) = a := by
    unfold fromIndex
    rw [if_neg (by omega)]
    omega
  unfold Txt.find3
  rw [e]
  have hw : 1 ≤ y.cps.toList.length := by rw [← len_cps]; exact h1
  rcases StrLaws.occ_head_from x y a 1 (Nat.le_refl 1) with ⟨h0, hn⟩ | ⟨i, r, h0, hi, ha, hn⟩
  · rw [h0]
    refine .inl ⟨rfl, due_none fun k hk => ?_⟩
    cases e2 : atB y.cps.toList x.cps.toList k with
    | false => rfl
    | true => exact absurd ((at_iff h1).mpr e2) (hn k hk)
  · rw [h0]
    refine .inr ⟨i, hi, rfl, ?_, due_some hw hi ((at_iff h1).mp ha) fun k hk hk2 => ?_⟩
    · have := ha.1
      omega
    · cases e2 : atB y.cps.toList x.cps.toList k with
      | false => rfl
      | true => exact absurd ((at_iff h1).mpr e2) (hn k hk hk2)
def loopF (every : Bool) (w z L : List Nat) : Nat → Nat → Nat → List Nat → List Nat × Nat
  | 0, _, h, acc => (acc, h)
  | m + 1, k, h, acc => if k < L.length then (if (atB w L k && (every || h == 0)) = true then loopF every w z L m (k + w.length) (h + 1) (acc ++ z) else loopF every w z L m (k + 1) h (acc ++ (L.drop k).take 1)) else (acc, h)
theorem loop_end {every : Bool} {w z L : List Nat} : ∀ {m k h : Nat} {acc : List Nat}, L.length ≤ k → loopF every w z L m k h acc = (acc, h)
  | 0, _, _, _, _ => rfl
  | m + 1, k, h, acc, hk => by unfold loopF; rw [if_neg (by omega)]
theorem loop_skip {every : Bool} {w z L : List Nat} {h : Nat} : ∀ (n m k : Nat) (acc : List Nat), k + n ≤ L.length → (∀ j, k ≤ j → j < k + n → (atB w L j && (every || h == 0)) = false) →
    loopF every w z L (m + n) k h acc = loopF every w z L m (k + n) h (acc ++ (L.drop k).take n)
  | 0, m, k, acc, _, _ => by rw [List.take_zero, List.append_nil, Nat.add_zero, Nat.add_zero]
  | n + 1, m, k, acc, hn, hj => by
    have e : m + (n + 1) = (m + n) + 1 := by omega
    rw [e]
    show (if k < L.length then (if (atB w L k && (every || h == 0)) = true then loopF every w z L (m + n) (k + w.length) (h + 1) (acc ++ z) else loopF every w z L (m + n) (k + 1) h (acc ++ (L.drop k).take 1)) else (acc, h)) = _
    rw [if_pos (by omega), hj k (Nat.le_refl _) (by omega), if_neg (by decide), loop_skip n m (k + 1) _ (by omega) fun j h1 h2 => hj j (by omega) (by omega)]
    have e2 : k + 1 + n = k + (n + 1) := by omega
    have e3 : (L.drop k).take (n + 1) = (L.drop k).take 1 ++ (L.drop (k + 1)).take n := by
      rw [Nat.add_comm n 1, List.take_add, List.drop_drop]
    rw [e2, e3, List.append_assoc]
theorem loop_hit {every : Bool} {w z L : List Nat} {m k h : Nat} {acc : List Nat} (hk : k < L.length) (ha : atB w L k = true) (hh : (every || h == 0) = true) :
    loopF every w z L (m + 1) k h acc = loopF every w z L m (k + w.length) (h + 1) (acc ++ z) := by
  show (if k < L.length then (if (atB w L k && (every || h == 0)) = true then loopF every w z L m (k + w.length) (h + 1) (acc ++ z) else loopF every w z L m (k + 1) h (acc ++ (L.drop k).take 1)) else (acc, h)) = _
  rw [if_pos hk, ha, hh, if_pos (by decide)]
def glueF (n : Nat) (z L : List Nat) : Nat → List Nat → List Nat
  | a, [] => L.drop a
  | a, c :: r => (L.drop a).take (c - a) ++ z ++ glueF n z L (c + n) r
theorem glue_eq (x z : Str) (n : Nat) : ∀ (cuts : List Nat) (a : Nat), (Str.join z (StrLaws.partsFrom x n a cuts)).cps.toList = glueF n z.cps.toList x.cps.toList a cuts
  | [], a => by
    show (strSub x a x.length).cps.toList = _
    rw [StrLaws.strSub_toList]
    exact List.take_of_length_le (by rw [List.length_drop, len_cps]; exact Nat.le_refl _)
  | c :: r, a => by
    obtain ⟨p, q, e⟩ := StrLaws.partsFrom_ne x n (c + n) r
    have ih := glue_eq x z n r (c + n)
    show (Str.join z (strSub x a c :: StrLaws.partsFrom x n (c + n) r)).cps.toList = _
    rw [e] at ih ⊢
    show (strSub x a c ++ z ++ Str.join z (p :: q)).cps.toList = _
    show ((strSub x a c).cps ++ z.cps ++ (Str.join z (p :: q)).cps).toList = _
    rw [Array.toList_append, Array.toList_append, StrLaws.strSub_toList, ih]
    rfl
theorem loop_all {x y : Str} {z : List Nat} (h1 : 1 ≤ y.length) {f : Nat} (hf : ∀ k, f ≤ k → ¬ StrLaws.At x y x.length k) : ∀ (cuts : List Nat) (a m h : Nat) (acc : List Nat), a ≤ x.length → x.length - a ≤ m → StrLaws.ChainG x y x.length a cuts f →
    (loopF true y.cps.toList z x.cps.toList m a h acc).1 = acc ++ glueF y.length z x.cps.toList a cuts
  | [], a, m, h, acc, ha, hm, hc => by
    have e : f = a := hc
    subst e
    have hx := len_cps x
    obtain ⟨m', rfl⟩ : ∃ m', m = m' + (x.length - f) := ⟨m - (x.length - f), by omega⟩
    rw [loop_skip (x.length - f) m' f acc (by omega) (fun j j1 j2 => ?_), loop_end (by omega)]
    · show acc ++ _ = acc ++ x.cps.toList.drop f
      rw [List.take_of_length_le (by rw [List.length_drop]; omega)]
    · cases e2 : atB y.cps.toList x.cps.toList j with
      | false => rfl
      | true => exact absurd ((at_iff h1).mpr e2) (hf j j1)
  | c :: r, a, m, h, acc, ha, hm, hc => by
    obtain ⟨hac, hat, hn, hr⟩ := hc
    have hx := len_cps x
    have hy := len_cps y
    have hcl := hat.1
    obtain ⟨m', rfl⟩ : ∃ m', m = (m' + 1) + (c - a) := ⟨m - (c - a) - 1, by omega⟩
    rw [loop_skip (c - a) (m' + 1) a acc (by omega) (fun j j1 j2 => ?_)]
    · have e : a + (c - a) = c := by omega
      rw [e, loop_hit (by omega) ((at_iff h1).mp hat) rfl]
      rw [← hy, loop_all h1 hf r (c + y.length) m' (h + 1) _ hcl (by omega) hr]
      show _ = acc ++ ((x.cps.toList.drop a).take (c - a) ++ z ++ glueF y.length z x.cps.toList (c + y.length) r)
      simp only [List.append_assoc]
    · cases e2 : atB y.cps.toList x.cps.toList j with
      | false => rfl
      | true => exact absurd ((at_iff h1).mpr e2) (hn j j1 (by omega))
theorem str_ext {x : Str} {l : List Nat} (h : x.cps.toList = l) : x = ⟨l.toArray⟩ := by rw [← h]
theorem every_eq {x y z : Str} (h1 : 1 ≤ y.length) {m : Nat} (hm : x.length ≤ m) (h : Nat) : (loopF true y.cps.toList z.cps.toList x.cps.toList m 0 h []).1 = (Txt.replace x y z).cps.toList := by
  obtain ⟨f, hc, hf⟩ := StrLaws.occ_tight x y h1
  rw [loop_all h1 hf _ 0 m h [] (Nat.zero_le _) (by omega) hc, List.nil_append]
  unfold Txt.replace
  have hy : (y.length == 0) = false := by rw [beq_eq_false_iff_ne]; omega
  rw [hy, Bool.false_and, Bool.or_false]
  split
  · rename_i e
    rw [List.isEmpty_iff.mp e]
    exact List.drop_zero
  · rw [StrLaws.glued_eq_join, StrLaws.partsBetween_eq, glue_eq]
theorem first_eq {x y z : Str} (h1 : 1 ≤ y.length) {m : Nat} (hm : x.length ≤ m) : (loopF false y.cps.toList z.cps.toList x.cps.toList m 0 0 []).1 = (Txt.replace1 x y z).cps.toList := by
  have hx := len_cps x
  have hyl := len_cps y
  unfold Txt.replace1
  have hy : (y.length == 0) = false := by rw [beq_eq_false_iff_ne]; omega
  rw [hy, Bool.false_and, Bool.or_false]
  rcases StrLaws.occ_head x y 1 (Nat.le_refl 1) with ⟨h0, hn⟩ | ⟨i, r, h0, ha, hn⟩
  · rw [h0]
    show _ = x.cps.toList
    obtain ⟨m', rfl⟩ : ∃ m', m = m' + x.length := ⟨m - x.length, by omega⟩
    rw [loop_skip x.length m' 0 [] (by omega) (fun j j1 j2 => ?_), loop_end (by omega)]
    · show [] ++ _ = _
      rw [List.nil_append, List.drop_zero, List.take_of_length_le (by omega)]
    · cases e2 : atB y.cps.toList x.cps.toList j with
      | false => rfl
      | true => exact absurd ((at_iff h1).mpr e2) (hn j)
  · have hr : r = [] := by
      have := StrLaws.occ_length_le x y 0 x.length 1
      rw [h0, List.length_cons] at this
      exact List.length_eq_zero_iff.mp (by omega)
    subst hr
    rw [h0]
    show _ = (glued z (partsBetween x [i] y.length)).cps.toList
    rw [StrLaws.glued_eq_join, StrLaws.partsBetween_eq, glue_eq]
    have hcl := ha.1
    obtain ⟨m', rfl⟩ : ∃ m', m = (m' + (x.length - (i + y.length)) + 1) + i := ⟨m - (x.length - (i + y.length)) - 1 - i, by omega⟩
    rw [loop_skip i _ 0 [] (by omega) (fun j j1 j2 => ?_), Nat.zero_add, loop_hit (by omega) ((at_iff h1).mp ha) rfl, ← hyl, loop_skip (x.length - (i + y.length)) m' (i + y.length) _ (by omega) (fun j j1 j2 => ?_), loop_end (by omega)]
    · show ([] ++ (x.cps.toList.drop 0).take i ++ z.cps.toList) ++ _ = (x.cps.toList.drop 0).take (i - 0) ++ z.cps.toList ++ x.cps.toList.drop (i + y.length)
      rw [List.take_of_length_le (l := x.cps.toList.drop (i + y.length)) (by rw [List.length_drop]; omega), List.nil_append, Nat.sub_zero]
    · show (_ && (false || (0 + 1 == 0))) = false
      rw [Bool.and_eq_false_iff]
      exact .inr rfl
    · cases e2 : atB y.cps.toList x.cps.toList j with
      | false => rfl
      | true => exact absurd ((at_iff h1).mpr e2) (hn j (by omega))
theorem loop_len {every : Bool} {w z L : List Nat} (h1 : 1 ≤ w.length) (hz : z.length ≤ 2) : ∀ (m k h : Nat) (acc : List Nat), (loopF every w z L m k h acc).1.length ≤ acc.length + 2 * (L.length - k)
  | 0, k, h, acc => by show acc.length ≤ _; omega
  | m + 1, k, h, acc => by
    unfold loopF
    split
    · rename_i hk
      split
      · have := loop_len h1 hz m (k + w.length) (h + 1) (acc ++ z) (every := every) (L := L)
        rw [List.length_append] at this
        omega
      · have := loop_len h1 hz m (k + 1) h (acc ++ (L.drop k).take 1) (every := every) (L := L)
        rw [List.length_append, List.length_take] at this
        omega
    · show acc.length ≤ _
      omega
end Lw
namespace Lw
open PySem L2 Ly
open Lx (atI_in shaped_ints inS cutL revS uniq)
theorem pick_s {x : Str} (h1 : 1 ≤ x.length) (h : x.length ≤ 4000) : Tm 1 (g__law_pick [.pen, .str x]) (fun d => ∃ c ∈ x.cps.toList, d = .str ⟨#[c]⟩) := by
  refine tBody (tRet (P := fun d => ∃ c ∈ x.cps.toList, d = .str ⟨#[c]⟩) ?_ fun d hd => ⟨d, rfl, hd⟩)
  refine Tm.bindR (Rt.var rfl) (Tm.bind (B2 := 0) (tCall (Rt.cons (Rt.var rfl) (Rt.cons (Rt.opn (Rt.cons (Rt.var rfl) Rt.nil) (len_s h)) Rt.nil)) rfl (draw_t (by omega) (by omega))) (fun d hd => ?_) (Nat.le_refl _))
  obtain ⟨i, rfl, i0, i1⟩ := hd
  obtain ⟨c, hc, hc2⟩ := atI_in (xs := x.cps.toList) i0 (by rw [← len_cps]; exact i1)
  exact Tm.of (ixS h hc) ⟨c, List.mem_of_getElem? hc2, rfl⟩
theorem ixSD_r {x : Str} {k : Int} {c : Nat} (h : x.length ≤ 4000) (e : atI x.cps.toList k = some c) : Rt (Lt.ixSD (.str x) (.int k)) (.str ⟨#[c]⟩) := Rt.need (small h) (by rw [e]; exact Rt.ret)
theorem pickS_s {x : Str} (h1 : 1 ≤ x.length) (h : x.length ≤ 4000) : Tm 1 (g__law_pickS [.pen, .str x]) (fun d => ∃ c ∈ x.cps.toList, d = .str ⟨#[c]⟩) := by
  refine tBody (tRet (P := fun d => ∃ c ∈ x.cps.toList, d = .str ⟨#[c]⟩) ?_ fun d hd => ⟨d, rfl, hd⟩)
  refine Tm.bindR (Rt.var rfl) (Tm.bind (B2 := 0) (tCall (Rt.cons (Rt.var rfl) (Rt.cons (Rt.opn (Rt.cons (Rt.var rfl) Rt.nil) (len_s h)) Rt.nil)) rfl (draw_t (by omega) (by omega))) (fun d hd => ?_) (Nat.le_refl _))
  obtain ⟨i, rfl, i0, i1⟩ := hd
  obtain ⟨c, hc, hc2⟩ := atI_in (xs := x.cps.toList) i0 (by rw [← len_cps]; exact i1)
  exact Tm.of (ixSD_r h hc) ⟨c, List.mem_of_getElem? hc2, rfl⟩
theorem pick_l {xs : List D} (h1 : 1 ≤ xs.length) (h : xs.length ≤ 4000) : Tm 1 (g__law_pick [.pen, .lst xs]) (fun d => d ∈ xs) := by
  refine tBody (tRet (P := fun d => d ∈ xs) ?_ fun d hd => ⟨d, rfl, hd⟩)
  refine Tm.bindR (Rt.var rfl) (Tm.bind (B2 := 0) (tCall (Rt.cons (Rt.var rfl) (Rt.cons (Rt.opn (Rt.cons (Rt.var rfl) Rt.nil) Rt.ret) Rt.nil)) rfl (draw_t (by omega) (by omega))) (fun d hd => ?_) (Nat.le_refl _))
  obtain ⟨i, rfl, i0, i1⟩ := hd
  obtain ⟨c, hc, hc2⟩ := atI_in (xs := xs) i0 i1
  exact Tm.of (Rt.ixL hc) (List.mem_of_getElem? hc2)
theorem row_t {s : Str} {lo hi : Nat} (h1 : 1 ≤ s.length) (hs : s.length ≤ 100) (hl : lo ≤ hi) (hh : hi ≤ 100) : Tm (1 + hi) (g__law_row [.pen, .str s, .int lo, .int hi]) (fun d => ∃ x : Str, d = .str x ∧ lo ≤ x.length ∧ x.length ≤ hi ∧ sgns x s.cps.toList) := by
  refine tBody (tAsg (P := fun d => ∃ n : Nat, d = .int n ∧ lo ≤ n ∧ n ≤ hi) (B1 := 1) (B2 := hi) ?_ (fun d hd => ?_) (Nat.le_refl _))
  · refine Tm.bindR (Rt.var rfl) (Tm.bind (B2 := 0) (tCall (Rt.cons (Rt.var rfl) (Rt.cons (Rt.op2 (Rt.op2 (Rt.var rfl) (Rt.var rfl) Rt.ret) Rt.cC Rt.ret) Rt.nil)) rfl (draw_t (by omega) (by omega))) (fun d hd => ?_) (Nat.le_refl _))
    obtain ⟨i, rfl, i0, i1⟩ := hd
    exact Tm.of Rt.ret ⟨lo + i.toNat, congrArg D.int (by omega), by omega, by omega⟩
  · obtain ⟨n, rfl, n0, n1⟩ := hd
    refine tRet (P := fun d => ∃ x : Str, d = .str x ∧ lo ≤ x.length ∧ x.length ≤ hi ∧ sgns x s.cps.toList) ?_ fun d hd => ⟨d, rfl, hd⟩
    refine Tm.bindR Rt.cC (Tm.bind (B1 := hi) (B2 := 0) (Q := fun ds => ∃ cs : List Nat, ds = [.lst (cs.map fun c => .str ⟨#[c]⟩)] ∧ cs.length = n ∧ ∀ c ∈ cs, c ∈ s.cps.toList) ?_ (fun ds hds => ?_) (Nat.le_refl _))
    · refine Tm.bind (B1 := hi) (B2 := 0) (Q := fun d => ∃ cs : List Nat, d = .lst (cs.map fun c => .str ⟨#[c]⟩) ∧ cs.length = n ∧ ∀ c ∈ cs, c ∈ s.cps.toList) ?_ (fun d hd => ?_) (Nat.le_refl _)
      · refine Tm.bindR (rIR (Rt.cons (Rt.var rfl) Rt.nil) (by omega) (by omega)) ?_
        refine Tm.bind (B2 := 0) ((Tm.calm (lcD_t (B := 1) (P := fun d => ∃ c ∈ s.cps.toList, d = .str ⟨#[c]⟩) _ 0 ?_ (fun _ _ => Rt.ret) (fun d hd => ?_))).mono ?_ (fun _ z => z)) (fun ys hys => ?_) (Nat.le_refl _)
        · rw [rangeD_len]; exact small (by omega)
        · exact tCall (Rt.cons (Rt.var rfl) (Rt.cons (Rt.var rfl) Rt.nil)) rfl (pickS_s h1 (by omega))
        · rw [rangeD_len]; omega
        · obtain ⟨cs, rfl, hcs⟩ := singles hys.2
          rw [rangeD_len, List.length_map] at hys
          exact Tm.ret ⟨cs, rfl, by omega, hcs⟩
      · obtain ⟨cs, rfl, h2, h3⟩ := hd
        exact Tm.of (Rt.bind Rt.nil Rt.ret) ⟨cs, rfl, h2, h3⟩
    · obtain ⟨cs, rfl, h2, h3⟩ := hds
      refine Tm.of (join_r (by omega)) ⟨⟨cs.toArray⟩, rfl, ?_, ?_, h3⟩
      · show lo ≤ (⟨cs.toArray⟩ : Str).length; rw [len_cps]; show lo ≤ cs.length; omega
      · show (⟨cs.toArray⟩ : Str).length ≤ hi; rw [len_cps]; show cs.length ≤ hi; omega
theorem rare_r (a b c : Nat) : Rt (dMs joinD (dC (.str ("" : Str))) (dCons (dLc (dIR1 (dCons (dC (.int 3)) dNil)) (dName 3) (dTest (dOp2 (inD true) (dOp2 ixD (dVar 1) (dVar 3)) (dSl (dVar 1) dNoPart (dPart (dVar 3))))) (dOp2 ixD (dVar 1) (dVar 3)) [3]) dNil) [some .pen, some (.lst ([a, b, c].map sg)), none, none]) (.str ⟨(rare [a, b, c]).toArray⟩) := by
  have at_ : ∀ i : Nat, i < 3 → atI ([a, b, c].map sg) (0 + (i : Int)) = some (sg (([a, b, c][i]?).getD 0)) := fun i hi => by
    have : i = 0 ∨ i = 1 ∨ i = 2 := by omega
    rcases this with rfl | rfl | rfl <;> rfl
  have lc : Rt (lcD (dName 3) (dTest (dOp2 (inD true) (dOp2 ixD (dVar 1) (dVar 3)) (dSl (dVar 1) dNoPart (dPart (dVar 3))))) (dOp2 ixD (dVar 1) (dVar 3)) (wipeD [some .pen, some (.lst ([a, b, c].map sg)), none, none] [3]) (rangeD 0 (3 : Int).toNat) 0) ((rare [a, b, c]).map sg) := by
    rw [rangeD_eq]
    refine (lcM (fun (i : Nat) => D.int (0 + i)) (fun i => !decide (([a, b, c][i]?).getD 0 ∈ [a, b, c].take i)) (fun i => sg (([a, b, c][i]?).getD 0)) (List.range 3) 0 (small (show 0 + 3 ≤ 4000 by decide)) (fun i hi => ?_) (fun i hi _ => ?_)).cast (by unfold rare; rw [List.map_map]; rfl)
    · have hi : i < 3 := List.mem_range.mp hi
      refine Rt.test (Rt.op2 (Rt.op2 (Rt.var rfl) (Rt.var rfl) (Rt.ixL (at_ i hi))) ((Rt.sl (Rt.var rfl) Rt.noPart (Rt.part (Rt.var rfl)) Rt.ret).cast ?_) notIn)
      rw [show (0 : Int) + (i : Int) = (i : Int) by omega, cutL_to, List.map_take]
    · have hi : i < 3 := List.mem_range.mp hi
      exact Rt.op2 (Rt.var rfl) (Rt.var rfl) (Rt.ixL (at_ i hi))
  have hlen : (rare [a, b, c]).length ≤ 3 := by
    unfold rare
    rw [List.length_map]
    exact Nat.le_trans (List.length_filter_le _ _) (Nat.le_of_eq (by rfl))
  exact Rt.ms Rt.cC (Rt.cons (rLc (rIR (Rt.cons Rt.cC Rt.nil) (by decide) (by decide)) lc) Rt.nil) (join_r (by omega))
theorem rare_two {a b : Nat} (hb2 : b ≠ 40) : 2 ≤ (⟨(rare [a, b, 40]).toArray⟩ : Str).length := by
  have hl : ∀ l : List Nat, (⟨l.toArray⟩ : Str).length = l.length := fun l => len_cps _
  rw [hl]
  unfold rare
  have hr : List.range 3 = [0, 1, 2] := rfl
  rw [hr]
  simp only [List.filter_cons, List.filter_nil, List.getElem?_cons_zero, List.getElem?_cons_succ, Option.getD_some, List.take_zero, List.take_succ_cons, List.mem_cons, List.not_mem_nil, or_false, decide_false, Bool.not_false, if_true]
  by_cases h1 : a = b
  · subst h1
    have h3 : ¬ (40 = a) := fun z => hb2 z.symm
    simp [h3]
  · have h1' : ¬ b = a := fun z => h1 z.symm
    have h3 : ¬ (40 = b) := fun z => hb2 z.symm
    by_cases h2 : a = 40
    · subst h2; simp [h1, h1']
    · have h2' : ¬ 40 = a := fun z => h2 z.symm
      simp [h1, h1', h2, h2', h3]
def good2 (s : Str) : Prop := good s ∧ 2 ≤ s.length
theorem few_t : Tm 4 (g__law_few [.pen]) (fun d => ∃ s : Str, d = .str s ∧ good2 s) := by
  refine tBody (tAsg (P := fun d => ∃ a b : Nat, d = .lst ([a, b, 40].map sg) ∧ a ∈ LET.cps.toList ∧ b ∈ LET.cps.toList ∧ b ≠ 40) (B1 := 3) (B2 := 1) ?_ (fun d hd => ?_) (Nat.le_refl _))
  · have pk : ∀ {δ : List Sl} {x : Str}, δ[0]? = some (some .pen) → 1 ≤ x.length → x.length ≤ 4000 → Tm 1 (dCall 2 g__law_pick (dCons (dVar 0) (dCons (dC (.str x)) dNil)) δ) (fun d => ∃ c ∈ x.cps.toList, d = .str ⟨#[c]⟩) := fun e h1 h2 => tCall (Rt.cons (Rt.var e) (Rt.cons Rt.cC Rt.nil)) rfl (pick_s h1 h2)
    refine Tm.bind (B2 := 0) (tCons (B1 := 1) (B2 := 2) (pk rfl (by decide +kernel) (by decide +kernel)) (tCons (B1 := 1) (B2 := 1) (pk rfl (by decide +kernel) (by decide +kernel)) (tCons (B1 := 1) (B2 := 0) (pk rfl (by decide +kernel) (by decide +kernel)) tNil (Nat.le_refl _)) (Nat.le_refl _)) (Nat.le_refl _)) (fun ds hds => ?_) (Nat.le_refl _)
    obtain ⟨_, _, rfl, ⟨a, ha, rfl⟩, _, _, rfl, ⟨b, hb, rfl⟩, _, _, rfl, ⟨c, hc, rfl⟩, rfl⟩ := hds
    have h1 := of_decide_eq_true (List.all_eq_true.mp SQ_ok a ha)
    have h2 := List.all_eq_true.mp yz_ok b hb
    rw [Bool.and_eq_true, decide_eq_true_eq, decide_eq_true_eq] at h2
    have h3 := of_decide_eq_true (List.all_eq_true.mp pa_ok c hc)
    subst h3
    exact Tm.need (small (show 3 ≤ 4000 by decide)) (Tm.ret ⟨a, b, rfl, h1, h2.1, h2.2⟩)
  · obtain ⟨a, b, rfl, ha, hb, hb2⟩ := hd
    refine tAsgR (rare_r a b 40) (tRet (P := fun d => ∃ s : Str, d = .str s ∧ good2 s) ?_ fun d hd => ⟨d, rfl, hd⟩)
    refine (tCall (Rt.cons (Rt.var rfl) (Rt.cons (Rt.lst (Rt.cons Rt.cC (Rt.cons Rt.cC (Rt.cons Rt.cC (Rt.cons Rt.cC (Rt.cons Rt.cC (Rt.cons Rt.cC (Rt.cons Rt.cC (Rt.cons Rt.cC (Rt.cons (Rt.var rfl) Rt.nil))))))))) (small (show 9 ≤ 4000 by decide))) Rt.nil)) rfl (pick_l (show 1 ≤ 9 by decide) (show 9 ≤ 4000 by decide))).mono (Nat.le_refl _) fun d hd => ?_
    simp only [List.mem_cons, List.not_mem_nil, or_false] at hd
    rcases hd with rfl | rfl | rfl | rfl | rfl | rfl | rfl | rfl | rfl
    · exact ⟨_, rfl, good_of _ (by decide +kernel), by decide +kernel⟩
    · exact ⟨_, rfl, good_of _ (by decide +kernel), by decide +kernel⟩
    · exact ⟨_, rfl, good_of _ (by decide +kernel), by decide +kernel⟩
    · exact ⟨_, rfl, good_of _ (by decide +kernel), by decide +kernel⟩
    · exact ⟨_, rfl, good_of _ (by decide +kernel), by decide +kernel⟩
    · exact ⟨_, rfl, good_of _ (by decide +kernel), by decide +kernel⟩
    · exact ⟨_, rfl, good_of _ (by decide +kernel), by decide +kernel⟩
    · exact ⟨_, rfl, good_of _ (by decide +kernel), by decide +kernel⟩
    · exact ⟨_, rfl, rare_good ha hb hb2, rare_two hb2⟩
end Lw
namespace Lw
open PySem L2 Ly Lt
open Lx (atI_in shaped_ints inS cutL revS uniq Ky)
theorem isi_s {s : Str} : Rt (isiD is_str (.str s)) (.bl true) := Rt.bind (a := Ky.t "str") Rt.ret (by
  have e : is_str.lookup (Ky.t "str") = some true := by decide +kernel
  rw [e]; exact Rt.ret)
theorem is_line_s {s : Str} (h : lets s) (hl : s.length ≤ 4000) : Rt (g_is_line [.str s]) (.bl true) := by
  refine Rt.bodyR (Rt.rets ((Rt.andV (b := true) (c := true) (Rt.op1 (Rt.var rfl) isi_s) fun _ => ?_).cast rfl))
  refine Rt.opn (Rt.cons (rLc (rIS (Rt.var rfl)) (lcY (fun c => D.str ⟨#[c]⟩) (fun c => D.bl (decide (c ∈ LET.cps.toList))) s.cps.toList (by rw [← len_cps]; exact hl) (fun c hc => (Rt.op2 (Rt.var rfl) Rt.cC inD_s).cast (by rw [inS_one])))) Rt.nil) ?_
  show Rt (match bools _ with | some bs => W.ret (D.bl (bs.all id)) | none => W.stuck) _
  rw [bools_map (fun c => decide (c ∈ LET.cps.toList))]
  refine Rt.ret.cast (congrArg D.bl ?_)
  rw [List.all_map, List.all_eq_true]
  exact fun c hc => decide_eq_true (h c hc)
theorem is_word_s {s : Str} {m : Nat} (h : lets s) (h1 : 1 ≤ s.length) (h2 : s.length ≤ m) (h3 : s.length ≤ 4000) : Rt (g_is_word [.str s, .int m]) (.bl true) := by
  refine Rt.bodyR (Rt.rets ((Rt.andV (b := true) (c := true) (Rt.op1 (Rt.var rfl) isi_s) fun _ => ?_).cast rfl))
  have hl : ∀ {δ : List Sl}, δ[0]? = some (some (.str s)) → Rt (dOpn lenD (dCons (dVar 0) dNil) δ) (.int s.length) := fun e => Rt.opn (Rt.cons (Rt.var e) Rt.nil) (len_s h3)
  refine (Rt.andV (b := true) (c := true) (Rt.chT Rt.cC (hl rfl) (Rt.ret.cast (congrArg D.bl (decide_eq_true (show (1 : Int) ≤ (s.length : Int) by omega)))) (Rt.var rfl) (Rt.ret.cast (congrArg D.bl (decide_eq_true (show (s.length : Int) ≤ (m : Int) by omega))))) fun _ => ?_).cast rfl
  exact Rt.call (Rt.cons (Rt.var rfl) Rt.nil) rfl (is_line_s h h3)
abbrev flds (k t : D) : List (Str × D) := [("own_kind", k), ("own_texts", t)]
theorem line_in {c : Str} {k t : D} (hc : c ∈ cl_LineChange) : In gi_LineChange c [] (flds k t) [k, t] := fun s i Q E hs q => by
  show (W.bind (W.bind (dSetF cl_LineChange "own_kind" (dVar 0) (dVar 1) [some (.mu i), some k, some t]) _) _).wp s Q E
  refine setF_w (δ := [some (.mu i), some k, some t]) (fo := dVar 0) (fe := dVar 1) (c := c) (gs := []) (d := k) (i := i) (Rt.var rfl) (Rt.var rfl) hs hc (by decide) ?_
  intro t1 e1 p1
  show (W.bind (dSetF cl_LineChange "own_texts" (dVar 0) (dVar 2) [some (.mu i), some k, some t]) _).wp t1 Q E
  have hi : i < s.st.length := (List.getElem?_eq_some_iff.mp hs).1
  have h1 : (s.st.set i (.ins c (putG "own_kind" k [])))[i]? = some (.ins c (putG "own_kind" k [])) := List.getElem?_set_self hi
  refine setF_w (δ := [some (.mu i), some k, some t]) (fo := dVar 0) (fe := dVar 2) (c := c) (gs := putG "own_kind" k []) (d := t) (i := i) (Rt.var rfl) (Rt.var rfl) (pre_get p1 h1) hc (show 1 < 900 by decide) ?_
  intro t2 e2 p2
  refine q t2 (e2.trans e1) ?_
  have e : putG "own_texts" t (putG "own_kind" k []) = flds k t := by
    have ne : ¬ (("own_kind" : Str) = "own_texts") := by decide +kernel
    simp only [putG, if_neg ne]
  rw [e] at p2
  have := pre_set (b := .ins c (flds k t)) p1 h1
  rw [List.set_set] at this
  exact this.trans p2
section
variable {c o n : Str} {k : D}
theorem Rt.ifNo {δ : List Sl} {t : List Sl → W Bool} {g : List Sl → W Out} {x : Out} (ht : Rt (t δ) false) (hg : Rt (g δ) x) : Rt (dIfNo t g δ) x := Rt.bind ht (Rt.need rfl hg)
theorem Rt.gt2 {δ : List Sl} {i j : Nat} {a b : Str} (h1 : δ[i]? = some (some (.str a))) (h2 : δ[j]? = some (some (.str b))) : Rt (dGt2 i j δ) (.gt [] a b) := by
  unfold dGt2
  rw [h1, h2]
  exact Rt.ret
theorem Rt.lenT {δ : List Sl} {f : List Sl → W D} {s : Str} (h : Rt (f δ) (.str s)) (hl : s.length ≤ 4000) : Rt (dLenT f δ) (.int s.length) := Rt.bind h (Rt.need (small hl) Rt.ret)
theorem place_in (hc : c ∈ cl_PlaceChange) (hc2 : c ∈ cl_LineChange) (ho : lets o) (h1 : 1 ≤ o.length) (h8 : o.length ≤ 8) (hn : lets n) (hn8 : n.length ≤ 8) : In gi_PlaceChange c [] (flds k (.gt [] o n)) [k, .str o, .str n] :=
  in_init (δ := fun i => [some (.mu i), some k, some (.str o), some (.str n)])
    (fun i => Rt.ifNo (Rt.not (b := true) (Rt.test (Rt.call (Rt.cons (Rt.var rfl) (Rt.cons Rt.cC Rt.nil)) rfl (is_word_s (m := 8) ho h1 h8 (by omega)))))
      (Rt.ifNo (Rt.orF (Rt.not (b := true) (Rt.test (Rt.call (Rt.cons (Rt.var rfl) Rt.nil) rfl (is_line_s hn (by omega)))))
        (Rt.test ((Rt.op2 (Rt.lenT (Rt.var rfl) (by omega)) Rt.cC Rt.ret).cast (congrArg D.bl (decide_eq_false (show ¬ (n.length : Int) > 8 by omega)))))) Rt.next))
    (fun i => rfl) hc (fun i => Rt.cons (Rt.var rfl) (Rt.cons (Rt.gt2 rfl rfl) Rt.nil)) rfl (line_in hc2)
theorem first_in (ho : lets o) (h1 : 1 ≤ o.length) (h8 : o.length ≤ 8) (hn : lets n) (hn8 : n.length ≤ 8) : In gi_First "First" [] (flds (.str "first") (.gt [] o n)) [.str o, .str n] :=
  in_init (δ := fun i => [some (.mu i), some (.str o), some (.str n)]) (fun i => Rt.next) (fun i => rfl) (by decide +kernel) (fun i => Rt.cons Rt.cC (Rt.cons (Rt.var rfl) (Rt.cons (Rt.var rfl) Rt.nil))) rfl (place_in (by decide +kernel) (by decide +kernel) ho h1 h8 hn hn8)
theorem every_in (ho : lets o) (h1 : 1 ≤ o.length) (h8 : o.length ≤ 8) (hn : lets n) (hn8 : n.length ≤ 8) : In gi_Every "Every" [] (flds (.str "every") (.gt [] o n)) [.str o, .str n] :=
  in_init (δ := fun i => [some (.mu i), some (.str o), some (.str n)]) (fun i => Rt.next) (fun i => rfl) (by decide +kernel) (fun i => Rt.cons Rt.cC (Rt.cons (Rt.var rfl) (Rt.cons (Rt.var rfl) Rt.nil))) rfl (place_in (by decide +kernel) (by decide +kernel) ho h1 h8 hn hn8)
theorem len_let : LET.length = 94 := by decide +kernel
theorem swap_in (ho : lets o) (h1 : 1 ≤ o.length) (h8 : o.length ≤ 94) (hu : (uniq [] o.cps.toList).length = o.length) (hn : lets n) (he : n.length = o.length) : In gi_Swap "Swap" [] (flds (.str "swap") (.tup [.str o, .str n])) [.str o, .str n] :=
  in_init (δ := fun i => [some (.mu i), some (.str o), some (.str n)])
    (fun i => Rt.seq (Rt.ifF (Rt.orF (Rt.not (b := true) (Rt.tru (Rt.call (Rt.cons (Rt.var rfl) (Rt.cons ((Rt.opn (Rt.cons Rt.cC Rt.nil) (len_s (x := LET) (by rw [len_let]; decide))).cast (by rw [len_let])) Rt.nil)) rfl (is_word_s (m := 94) ho h1 h8 (by omega))) Rt.ret))
        (Rt.test ((Rt.op2 (Rt.bind (Rt.var rfl) (Rt.need (by have : o.cps.size = o.length := rfl; omega) Rt.ret)) (Rt.opn (Rt.cons (Rt.var rfl) Rt.nil) (len_s (by omega))) Rt.ret).cast (congrArg D.bl (decide_eq_false (show ¬ ((uniq [] o.cps.toList).length : Int) < (o.length : Int) by omega)))))) Rt.next)
      (Rt.ifF (Rt.orF (Rt.not (b := true) (Rt.tru (Rt.call (Rt.cons (Rt.var rfl) Rt.nil) rfl (is_line_s hn (by omega))) Rt.ret))
        (Rt.test ((Rt.op2 (Rt.opn (Rt.cons (Rt.var rfl) Rt.nil) (len_s (by omega))) (Rt.opn (Rt.cons (Rt.var rfl) Rt.nil) (len_s (by omega))) Rt.ret).cast (congrArg D.bl (show (!decide ((n.length : Int) = (o.length : Int))) = false by rw [he, decide_eq_true rfl]; rfl))))) Rt.next))
    (fun i => rfl) (by decide +kernel)
    (fun i => Rt.cons Rt.cC (Rt.cons (Rt.tup (Rt.cons (Rt.var rfl) (Rt.cons (Rt.var rfl) Rt.nil)) (small (show 2 ≤ 4000 by decide))) Rt.nil)) rfl (line_in (by decide +kernel))
theorem end_in (hc : c ∈ cl_EndChange) (hc2 : c ∈ cl_LineChange) (ho : lets o) (h1 : 1 ≤ o.length) (h8 : o.length ≤ 8) : In gi_EndChange c [] (flds k (.tup [.str o])) [k, .str o] :=
  in_init (δ := fun i => [some (.mu i), some k, some (.str o)]) (fun i => Rt.ifF (Rt.not (b := true) (Rt.tru (Rt.call (Rt.cons (Rt.var rfl) (Rt.cons Rt.cC Rt.nil)) rfl (is_word_s (m := 8) ho h1 h8 (by omega))) Rt.ret)) Rt.next) (fun i => rfl) hc (fun i => Rt.cons (Rt.var rfl) (Rt.cons (Rt.tup (Rt.cons (Rt.var rfl) Rt.nil) (small (show 1 ≤ 4000 by decide))) Rt.nil)) rfl (line_in hc2)
theorem front_in (ho : lets o) (h1 : 1 ≤ o.length) (h8 : o.length ≤ 8) : In gi_Front "Front" [] (flds (.str "front") (.tup [.str o])) [.str o] :=
  in_init (δ := fun i => [some (.mu i), some (.str o)]) (fun i => Rt.next) (fun i => rfl) (by decide +kernel) (fun i => Rt.cons Rt.cC (Rt.cons (Rt.var rfl) Rt.nil)) rfl (end_in (by decide +kernel) (by decide +kernel) ho h1 h8)
theorem behind_in (ho : lets o) (h1 : 1 ≤ o.length) (h8 : o.length ≤ 8) : In gi_Behind "Behind" [] (flds (.str "behind") (.tup [.str o])) [.str o] :=
  in_init (δ := fun i => [some (.mu i), some (.str o)]) (fun i => Rt.next) (fun i => rfl) (by decide +kernel) (fun i => Rt.cons Rt.cC (Rt.cons (Rt.var rfl) Rt.nil)) rfl (end_in (by decide +kernel) (by decide +kernel) ho h1 h8)
end
inductive Dd
  | pl (ev : Bool) (o n : Str)
  | sw (o n : Str)
  | en (fr : Bool) (o : Str)
def Dd.d : Dd → D
  | .pl ev o n => .gt [.str (if ev then "every" else "first")] o n
  | .sw o n => .tup [.str "swap", .str o, .str n]
  | .en fr o => .tup [.str (if fr then "front" else "behind"), .str o]
def Dd.o : Dd → D
  | .pl ev o n => .obj (if ev then "Every" else "First") (flds (.str (if ev then "every" else "first")) (.gt [] o n))
  | .sw o n => .obj "Swap" (flds (.str "swap") (.tup [.str o, .str n]))
  | .en fr o => .obj (if fr then "Front" else "Behind") (flds (.str (if fr then "front" else "behind")) (.tup [.str o]))
inductive Sw : Str → Str → Prop
  | one (a b : Nat) : Sw ⟨#[a]⟩ ⟨#[b]⟩
  | two (a b c d : Nat) (h : a ≠ b) : Sw ⟨#[a, b]⟩ ⟨#[c, d]⟩
structure wd (o : Str) : Prop where
  l : lets o
  one : 1 ≤ o.length
  two : o.length ≤ 2
def Dd.ok : Dd → Prop
  | .pl _ o n => wd o ∧ lets n ∧ n.length ≤ 2
  | .sw o n => lets o ∧ lets n ∧ Sw o n
  | .en _ o => wd o
theorem Sw.facts {o n : Str} (h : Sw o n) : 1 ≤ o.length ∧ o.length ≤ 2 ∧ (uniq [] o.cps.toList).length = o.length ∧ n.length = o.length := by
  cases h with
  | one a b => exact ⟨Nat.le_refl 1, show 1 ≤ 2 by decide, by
      show (uniq [] [a]).length = 1
      simp [uniq], rfl⟩
  | two a b c d h => exact ⟨show 1 ≤ 2 by decide, show 2 ≤ 2 by decide, by
      show (uniq [] [a, b]).length = 2
      have h' : ¬ b = a := fun z => h z.symm
      simp [uniq, h, h'], rfl⟩
theorem fs {x : Str} {b : Bool} {k : Str} (h : (k == x) = b) {δ : List Sl} {i : Nat} (e : δ[i]? = some (some (.str k))) : Rt (dTest (dOp2 eqD (dVar i) (dC (.str x))) δ) b := by
  refine Rt.test (Rt.op2 (Rt.var e) Rt.cC ?_)
  cases b with
  | true => rw [eq_of_beq h]; exact Rt.eqT
  | false => exact Rt.eqF (ne_of_beq_false h)
theorem made_r {e : Dd} (h : e.ok) : Rt (g__law_made_deed [e.d]) e.o := by
  cases e with
  | pl ev o n =>
    obtain ⟨⟨ho, h1, h2⟩, hn, hn2⟩ := h
    refine Rt.bodyR (Rt.seq (ε := [some (Dd.pl ev o n).d, some (.str (if ev then "every" else "first"))]) (Rt.asg (Rt.op2 (Rt.var rfl) Rt.cC Rt.ret)) ?_)
    refine Rt.seq (Rt.ifF (Rt.test (Rt.op2 (Rt.var rfl) (Rt.tup (Rt.cons Rt.cC (Rt.cons Rt.cC Rt.nil)) (small (show 2 ≤ 4000 by decide))) (z := .bl false) ?_)) Rt.next) ?_
    · cases ev <;> exact Rt.need (by decide +kernel) (Rt.ret.cast (congrArg D.bl (by decide +kernel)))
    refine Rt.seq (Rt.ifF (fs (k := if ev then "every" else "first") (by cases ev <;> decide +kernel) rfl) Rt.next) (Rt.rets ?_)
    cases ev with
    | false => exact Rt.ifE (b := true) (fs (k := "first") (by decide +kernel) rfl) (mk_r (first_in ho h1 (by omega) hn (by omega)))
    | true => exact Rt.ifE (b := false) (fs (k := "every") (by decide +kernel) rfl) (mk_r (every_in ho h1 (by omega) hn (by omega)))
  | sw o n =>
    obtain ⟨ho, hn, hs⟩ := h
    obtain ⟨h1, h2, h3, h4⟩ := hs.facts
    refine Rt.bodyR (Rt.seq (ε := [some (Dd.sw o n).d, some (.str "swap")]) (Rt.asg (Rt.op2 (Rt.var rfl) Rt.cC (Rt.ixT rfl))) ?_)
    refine Rt.seq (Rt.ifF (Rt.test (Rt.op2 (Rt.var rfl) (Rt.tup (Rt.cons Rt.cC (Rt.cons Rt.cC Rt.nil)) (small (show 2 ≤ 4000 by decide))) (z := .bl false) ?_)) Rt.next) ?_
    · exact Rt.need (by decide +kernel) (Rt.ret.cast (congrArg D.bl (by decide +kernel)))
    exact Rt.seqR (Rt.ifT (fs (k := "swap") (by decide +kernel) rfl) (Rt.rets (make_r (Rt.cons (Rt.op2 (Rt.var rfl) Rt.cC (Rt.ixT rfl)) (Rt.cons (Rt.op2 (Rt.var rfl) Rt.cC (Rt.ixT rfl)) Rt.nil)) rfl (swap_in ho h1 (by omega) h3 hn h4))))
  | en fr o =>
    obtain ⟨ho, h1, h2⟩ := h
    refine Rt.bodyR (Rt.seq (ε := [some (Dd.en fr o).d, some (.str (if fr then "front" else "behind"))]) (Rt.asg (Rt.op2 (Rt.var rfl) Rt.cC (Rt.ixT rfl))) ?_)
    refine Rt.seqR (Rt.ifT (Rt.test (Rt.op2 (Rt.var rfl) (Rt.tup (Rt.cons Rt.cC (Rt.cons Rt.cC Rt.nil)) (small (show 2 ≤ 4000 by decide))) (z := .bl true) ?_)) (Rt.rets ?_))
    · cases fr <;> exact Rt.need (by decide +kernel) (Rt.ret.cast (congrArg D.bl (by decide +kernel)))
    cases fr with
    | true => exact Rt.ifE (b := true) (fs (k := "front") (by decide +kernel) rfl) (make_r (Rt.cons (Rt.op2 (Rt.var rfl) Rt.cC (Rt.ixT rfl)) Rt.nil) rfl (front_in ho h1 (by omega)))
    | false => exact Rt.ifE (b := false) (fs (k := "behind") (by decide +kernel) rfl) (make_r (Rt.cons (Rt.op2 (Rt.var rfl) Rt.cC (Rt.ixT rfl)) Rt.nil) rfl (behind_in ho h1 (by omega)))
end Lw
namespace Lw
open PySem L2 Ly Lt
open Lx (atI_in shaped_ints inS cutL revS uniq Ky)
abbrev pT : List Sl → W Bool := dTest (dOp2 geD (dVar 3) (dC (.int 0)))
abbrev pG : List Sl → W Out := dSeq (dApp 2 (dVar 3)) (dAsg (dMs (find3D) (dVar 0) (dCons (dVar 1) (dCons (dOp2 addD (dVar 3) (dC (.int 1))) dNil))) (dName 3))
def wpl (x o : Str) (b : Nat) (p : Int) : List Sl := [some (.str x), some (.str o), some (.mu b), some (.int p)]
theorem Rt.go {A C : Type} {m : W A} {f : A → W C} {a : A} {s : S} {Q : S → C → Prop} {E : S → Xn → Prop} (h : Rt m a) (q : ∀ t : S, t.n = s.n → s.st <+: t.st → (f a).wp t Q E) : (m.bind f).wp s Q E := h s _ E q
theorem turn_w {x o : Str} {b : List MO} {xs : List D} {i : Nat} {s : S} {Q : S → Out → Prop} {E : S → Xn → Prop} (hx : xs.length < 4000) (p : b ++ [MO.lst xs] <+: s.st)
    (q : ∀ t : S, t.n = s.n → b ++ [MO.lst (xs ++ [.int i])] <+: t.st → Q t (.nx (wpl x o b.length (Txt.find3 x o ((i + 1 : Nat) : Int))))) : (pG (wpl x o b.length i)).wp s Q E := by
  have z4 : xs.length < sizeLine := by rw [sizeLine_eq]; omega
  show (W.bind (dApp 2 (dVar 3) (wpl x o b.length i)) _).wp s Q E
  refine ⟨.lst xs, pre_get p new_get, ⟨.lst xs, pre_get p new_get, z4, ?_⟩⟩
  have hp : b ++ [MO.lst (xs ++ [.int i])] <+: s.st.set b.length (.lst (xs ++ [.int i])) := by
    have := pre_set (b := MO.lst (xs ++ [.int i])) p (new_get (l := b) (o := MO.lst xs))
    simpa using this
  have ha : Rt (dAsg (dMs (find3D) (dVar 0) (dCons (dVar 1) (dCons (dOp2 addD (dVar 3) (dC (.int 1))) dNil))) (dName 3) (wpl x o b.length i)) (.nx (wpl x o b.length (Txt.find3 x o ((i + 1 : Nat) : Int)))) := Rt.asg (Rt.ms (a := x) (ds := [.str o, .int ((i : Int) + 1)]) (Rt.var rfl) (Rt.cons (Rt.var rfl) (Rt.cons (Rt.op2 (x := .int i) (Rt.var rfl) Rt.cC Rt.ret) Rt.nil)) Rt.ret)
  exact ha ⟨s.n, s.st.set b.length (.lst (xs ++ [.int i]))⟩ Q E fun t2 e2 p2 => q t2 e2 (hp.trans p2)
theorem pT_f {x o : Str} {b : Nat} : Rt (pT (wpl x o b (-1))) false := Rt.test (Rt.op2 (x := .int (-1)) (Rt.var rfl) Rt.cC (Rt.ret.cast (congrArg D.bl (decide_eq_false (show ¬ (0 : Int) ≤ -1 by decide)))))
theorem pT_t {x o : Str} {b i : Nat} : Rt (pT (wpl x o b i)) true := Rt.test (Rt.op2 (x := .int i) (Rt.var rfl) Rt.cC (Rt.ret.cast (congrArg D.bl (decide_eq_true (show (0 : Int) ≤ (i : Int) by omega)))))
theorem wh_w {x o : Str} (h1 : 1 ≤ o.length) (hx : x.length < 4000) {b : List MO} {Q : S → Out → Prop} {E : S → Xn → Prop} : ∀ (n a : Nat) (xs : List D) (s : S), x.length ≤ a + n → xs.length ≤ a → b ++ [MO.lst xs] <+: s.st →
    (∀ t : S, t.n = s.n → b ++ [MO.lst (xs ++ (dueL o.cps.toList x.cps.toList a).map fun k : Nat => D.int k)] <+: t.st → Q t (.nx (wpl x o b.length (-1)))) → (whileD pT pG (n + 1) (wpl x o b.length (Txt.find3 x o (a : Int)))).wp s Q E := by
  intro n
  induction n with
  | zero =>
    intro a xs s h2 h3 p q
    rcases find_from (x := x) h1 a with ⟨e1, e2⟩ | ⟨i, hi, e1, hlt, e2⟩
    · rw [e1]
      show (W.bind (pT (wpl x o b.length (-1))) _).wp s Q E
      refine Rt.go (pT_f (x := x) (o := o) (b := b.length)) fun t e p2 => ?_
      refine q t e ?_
      rw [e2, List.map_nil, List.append_nil]
      exact p.trans p2
    · omega
  | succ n ih =>
    intro a xs s h2 h3 p q
    rcases find_from (x := x) h1 a with ⟨e1, e2⟩ | ⟨i, hi, e1, hlt, e2⟩
    · rw [e1]
      show (W.bind (pT (wpl x o b.length (-1))) _).wp s Q E
      refine Rt.go (pT_f (x := x) (o := o) (b := b.length)) fun t e p2 => ?_
      refine q t e ?_
      rw [e2, List.map_nil, List.append_nil]
      exact p.trans p2
    · rw [e1]
      show (W.bind (pT (wpl x o b.length i)) _).wp s Q E
      refine Rt.go (pT_t (x := x) (o := o) (b := b.length) (i := i)) fun t e p2 => ?_
      show (W.bind (pG (wpl x o b.length i)) _).wp t Q E
      refine turn_w (xs := xs) (by omega) (p.trans p2) fun t2 e3 p3 => ?_
      show (whileD pT pG (n + 1) (wpl x o b.length (Txt.find3 x o ((i + 1 : Nat) : Int)))).wp t2 Q E
      refine ih (i + 1) (xs ++ [.int i]) t2 (by omega) (by rw [List.length_append, List.length_singleton]; omega) p3 fun t4 e4 p4 => q t4 (e4.trans (e3.trans e)) ?_
      rw [e2, List.map_cons]
      rw [List.append_assoc] at p4
      exact p4
theorem places_r {x o : Str} (h1 : 1 ≤ o.length) (hx : x.length < 4000) : Rt (g_places [.str x, .str o]) (.lst ((dueL o.cps.toList x.cps.toList 0).map fun k : Nat => D.int k)) := by
  refine Rt.bodyR fun s Q E q => ?_
  refine ⟨small (show 0 ≤ 4000 by decide), ?_⟩
  have hf : Rt (dCons (dMs (findD) (dVar 0) (dCons (dVar 1) dNil)) dNil [some (.str x), some (.str o), none, none]) [.int (Txt.find x o)] := Rt.cons (Rt.ms (a := x) (ds := [.str o]) (Rt.var rfl) (Rt.cons (Rt.var rfl) Rt.nil) Rt.ret) Rt.nil
  refine hf ⟨s.n, s.st ++ [MO.lst []]⟩ _ E fun t1 e1 p1 => ?_
  show (W.bind (dWhile pT pG (wpl x o s.st.length (Txt.find3 x o ((0 : Nat) : Int)))) _).wp t1 Q E
  refine ⟨x.length + 1, wh_w h1 hx (b := s.st) x.length 0 [] t1 (by omega) (Nat.le_refl _) p1 fun t2 e2 p2 => ?_⟩
  refine ⟨_, pre_get p2 new_get, ?_⟩
  refine q ⟨t2.n, _⟩ (e2.trans e1) ?_
  have := pre_set (b := MO.gone) p2 (new_get (l := s.st))
  refine List.IsPrefix.trans ?_ this
  simp
def swL : List Nat → List Nat → Nat → Nat
  | a :: o, b :: n, c => if c = a then b else swL o n c
  | _, _, c => c
def Dd.run : Dd → Str → Str
  | .pl true o n, x => Txt.replace x o n
  | .pl false o n, x => Txt.replace1 x o n
  | .sw o n, x => ⟨(x.cps.toList.map (swL o.cps.toList n.cps.toList)).toArray⟩
  | .en true o, x => o ++ x
  | .en false o, x => x ++ o
theorem pl_eq {ev : Bool} {o n x : Str} (h1 : 1 ≤ o.length) {m : Nat} (hm : x.length ≤ m) : ((Dd.pl ev o n).run x).cps.toList = (loopF ev o.cps.toList n.cps.toList x.cps.toList m 0 0 []).1 := by
  cases ev with
  | true => exact (every_eq h1 hm 0).symm
  | false => exact (first_eq h1 hm).symm
theorem loop_mem {every : Bool} {w z L : List Nat} {c : Nat} : ∀ (m k h : Nat) (acc : List Nat), c ∈ (loopF every w z L m k h acc).1 → c ∈ acc ∨ c ∈ z ∨ c ∈ L
  | 0, k, h, acc, hc => .inl hc
  | m + 1, k, h, acc, hc => by
    unfold loopF at hc
    split at hc
    · split at hc
      · rcases loop_mem m _ _ _ hc with h2 | h2
        · rcases List.mem_append.mp h2 with h2 | h2
          · exact .inl h2
          · exact .inr (.inl h2)
        · exact .inr h2
      · rcases loop_mem m _ _ _ hc with h2 | h2
        · rcases List.mem_append.mp h2 with h2 | h2
          · exact .inl h2
          · exact .inr (.inr (List.mem_of_mem_drop (List.mem_of_mem_take h2)))
        · exact .inr h2
    · exact .inl hc
theorem app_cps (x y : Str) : (x ++ y).cps.toList = x.cps.toList ++ y.cps.toList := by
  show (x.cps ++ y.cps).toList = _
  rw [Array.toList_append]
theorem swL_let {o n : Str} (hn : lets n) {c : Nat} (hc : c ∈ LET.cps.toList) : swL o.cps.toList n.cps.toList c ∈ LET.cps.toList := by
  have : ∀ (a b : List Nat), (∀ d ∈ b, d ∈ LET.cps.toList) → swL a b c ∈ LET.cps.toList := by
    intro a
    induction a with
    | nil => intro b _; exact hc
    | cons x r ih =>
      intro b hb
      cases b with
      | nil => exact hc
      | cons y q =>
        show (if c = x then y else swL r q c) ∈ _
        split
        · exact hb y List.mem_cons_self
        · exact ih q fun d hd => hb d (List.mem_cons_of_mem _ hd)
  exact this _ _ hn
theorem run_ok {e : Dd} (h : e.ok) {x : Str} (hx : lets x) : lets (e.run x) ∧ (e.run x).length ≤ 2 * x.length + 2 := by
  cases e with
  | pl ev o n =>
    obtain ⟨⟨ho, h1, h2⟩, hn, hn2⟩ := h
    have e := pl_eq (ev := ev) (n := n) h1 (Nat.le_refl x.length)
    refine ⟨fun c hc => ?_, ?_⟩
    · rw [e] at hc
      rcases loop_mem _ _ _ _ hc with hc | hc | hc
      · cases hc
      · exact hn c hc
      · exact hx c hc
    · rw [len_cps, e]
      have := loop_len (every := ev) (w := o.cps.toList) (z := n.cps.toList) (L := x.cps.toList) (by rw [← len_cps]; exact h1) (by rw [← len_cps]; exact hn2) x.length 0 0 []
      rw [← len_cps, List.length_nil] at this
      omega
  | sw o n =>
    refine ⟨fun c hc => ?_, ?_⟩
    · have hc : c ∈ x.cps.toList.map (swL o.cps.toList n.cps.toList) := hc
      obtain ⟨d, hd, rfl⟩ := List.mem_map.mp hc
      exact swL_let h.2.1 (hx d hd)
    · have e : ((Dd.sw o n).run x).length = x.length := by
        rw [len_cps, len_cps]
        show (x.cps.toList.map (swL o.cps.toList n.cps.toList)).length = _
        rw [List.length_map]
      rw [e]
      omega
  | en fr o =>
    obtain ⟨ho, h1, h2⟩ := h
    have hl := len_cps o
    cases fr with
    | true =>
      refine ⟨fun c hc => ?_, ?_⟩
      · have hc : c ∈ (o ++ x).cps.toList := hc
        rw [app_cps] at hc
        rcases List.mem_append.mp hc with hc | hc
        · exact ho c hc
        · exact hx c hc
      · show (o ++ x).length ≤ _
        rw [len_cps, app_cps, List.length_append, ← len_cps, ← len_cps]
        omega
    | false =>
      refine ⟨fun c hc => ?_, ?_⟩
      · have hc : c ∈ (x ++ o).cps.toList := hc
        rw [app_cps] at hc
        rcases List.mem_append.mp hc with hc | hc
        · exact hx c hc
        · exact ho c hc
      · show (x ++ o).length ≤ _
        rw [len_cps, app_cps, List.length_append, ← len_cps, ← len_cps]
        omega
def runs : List Dd → Str → Str
  | [], x => x
  | e :: r, x => runs r (e.run x)
section
variable {x o n : Str}
theorem lk_kind (k t : D) : (flds k t).lookup ("own_kind" : Str) = some k := by
  show ([("own_kind", k), ("own_texts", t)] : List (Str × D)).lookup ("own_kind" : Str) = _
  rw [List.lookup_cons, beq_self_eq_true]
theorem lk_texts (k t : D) : (flds k t).lookup ("own_texts" : Str) = some t := by
  have h : (("own_texts" : Str) == "own_kind") = false := by decide +kernel
  show ([("own_kind", k), ("own_texts", t)] : List (Str × D)).lookup ("own_texts" : Str) = _
  rw [List.lookup_cons, h, List.lookup_cons, beq_self_eq_true]
theorem lk_done (k t : D) : (flds k t).lookup ("done" : Str) = none := by
  have h : (("done" : Str) == "own_kind") = false := by decide +kernel
  have h2 : (("done" : Str) == "own_texts") = false := by decide +kernel
  show ([("own_kind", k), ("own_texts", t)] : List (Str × D)).lookup ("done" : Str) = _
  rw [List.lookup_cons, h, List.lookup_cons, h2]
  rfl
theorem repG_r {cl : Str} {k : D} {B : Str → Str → Str → Prop} {f : Str → Str → Str → Str} {δ : List Sl} (h1 : δ[1]? = some (some (.str x))) (h0 : δ[0]? = some (some (.obj cl (flds k (.gt [] o n))))) (hB : B x o n) : Rt (dRepG cl 1 0 B f δ) (.str (f x o n)) := by
  unfold dRepG
  rw [h1, h0]
  refine Rt.need rfl ?_
  rw [lk_texts]
  exact Rt.need hB Rt.ret
theorem first_done {k : D} (hx : x.length ≤ 3000) (hn : n.length ≤ 2) : Rt (dBody N_First_done b_First_done [.obj "First" (flds k (.gt [] o n)), .str x]) (.str (Txt.replace1 x o n)) :=
  Rt.bodyR (Rt.rets (repG_r rfl rfl (show x.length + n.length ≤ 16777216 by omega)))
theorem every_done {k : D} (hx : x.length ≤ 3000) (hn : n.length ≤ 2) : Rt (dBody N_Every_done b_Every_done [.obj "Every" (flds k (.gt [] o n)), .str x]) (.str (Txt.replace x o n)) :=
  Rt.bodyR (Rt.rets (repG_r rfl rfl (show x.length + (x.length + 1) * n.length ≤ 16777216 by
    have := Nat.mul_le_mul_left (x.length + 1) hn
    omega)))
theorem front_done {k : D} (hx : x.length ≤ 3000) (ho : o.length ≤ 2) : Rt (dBody N_Front_done b_Front_done [.obj "Front" (flds k (.tup [.str o])), .str x]) (.str (o ++ x)) :=
  Rt.bodyR (Rt.rets (Rt.op2 (Rt.prop (Rt.var rfl) (G := dBody N_EndChange_word b_EndChange_word) (lk_same (cs := ["Front", "Behind"]) (by decide +kernel)) (Rt.bodyR (Rt.rets (Rt.op2 (Rt.fld (Rt.var rfl) (lk_texts _ _)) Rt.cC (Rt.ixT rfl))))) (Rt.var rfl) (Rt.need (small (by omega)) Rt.ret)))
theorem behind_done {k : D} (hx : x.length ≤ 3000) (ho : o.length ≤ 2) : Rt (dBody N_Behind_done b_Behind_done [.obj "Behind" (flds k (.tup [.str o])), .str x]) (.str (x ++ o)) :=
  Rt.bodyR (Rt.rets (Rt.op2 (Rt.var rfl) (Rt.prop (Rt.var rfl) (G := dBody N_EndChange_word b_EndChange_word) (lk_same (cs := ["Front", "Behind"]) (by decide +kernel)) (Rt.bodyR (Rt.rets (Rt.op2 (Rt.fld (Rt.var rfl) (lk_texts _ _)) Rt.cC (Rt.ixT rfl))))) (Rt.need (small (by omega)) Rt.ret)))
theorem key_ne {a c : Nat} (h : ¬ c = a) : ¬ ((.inr ⟨#[a]⟩ : Key) = .inr ⟨#[c]⟩) := fun z => by
  have h2 : (⟨#[a]⟩ : Str) = ⟨#[c]⟩ := by injection z
  have h3 : (#[a] : Array Nat) = #[c] := congrArg Str.cps h2
  simp at h3
  exact h h3.symm
theorem dz_get (h : Sw o n) (c : Nat) : (valG (mZD (o.cps.toList.zip n.cps.toList)) (.inr ⟨#[c]⟩)).getD (.str ⟨#[c]⟩) = .str ⟨#[swL o.cps.toList n.cps.toList c]⟩ := by
  cases h with
  | one a b =>
    show (valG [((.inr ⟨#[a]⟩ : Key), D.str ⟨#[b]⟩)] (.inr ⟨#[c]⟩)).getD (.str ⟨#[c]⟩) = .str ⟨#[if c = a then b else c]⟩
    unfold valG
    by_cases e : c = a
    · subst e
      rw [List.find?_cons_of_pos (by exact decide_eq_true rfl), if_pos rfl]
      rfl
    · rw [List.find?_cons_of_neg (by rw [decide_eq_false (key_ne e)]; decide), if_neg e]
      rfl
  | two a b a2 b2 hab =>
    have e1 : mZD ((⟨#[a, b]⟩ : Str).cps.toList.zip (⟨#[a2, b2]⟩ : Str).cps.toList) = [((.inr ⟨#[a]⟩ : Key), D.str ⟨#[a2]⟩), (.inr ⟨#[b]⟩, .str ⟨#[b2]⟩)] := by
      show putKD (putKD [] (.inr ⟨#[a]⟩) (.str ⟨#[a2]⟩)) (.inr ⟨#[b]⟩) (.str ⟨#[b2]⟩) = _
      show putKD [((.inr ⟨#[a]⟩ : Key), D.str ⟨#[a2]⟩)] (.inr ⟨#[b]⟩) (.str ⟨#[b2]⟩) = _
      unfold putKD
      rw [List.any_cons, List.any_nil, decide_eq_false (key_ne (show ¬ b = a from fun z => hab z.symm))]
      rfl
    rw [e1]
    show _ = D.str ⟨#[if c = a then a2 else if c = b then b2 else c]⟩
    unfold valG
    by_cases e : c = a
    · subst e
      rw [List.find?_cons_of_pos (by exact decide_eq_true rfl), if_pos rfl]
      rfl
    · rw [List.find?_cons_of_neg (by rw [decide_eq_false (key_ne e)]; decide), if_neg e]
      by_cases e2 : c = b
      · subst e2
        rw [List.find?_cons_of_pos (by exact decide_eq_true rfl), if_pos rfl]
        rfl
      · rw [List.find?_cons_of_neg (by rw [decide_eq_false (key_ne e2)]; decide), if_neg e2]
        rfl
theorem dget_r {δ : List Sl} {kvs : List (Key × D)} {c : Nat} {d : D} {i j : Nat} (h1 : δ[i]? = some (some (.dct kvs))) (h2 : δ[j]? = some (some (.str ⟨#[c]⟩))) (e : (valG kvs (.inr ⟨#[c]⟩)).getD (.str ⟨#[c]⟩) = d) : Rt (dDGet2 (dVar i) (dVar j) (dVar j) δ) d :=
  Rt.bind (Rt.var h1) (Rt.bind (Rt.var h2) (Rt.bind (Rt.var h2) (Rt.ret.cast e)))
theorem swap_done {k : D} (h : Sw o n) (hx : x.length ≤ 3000) : Rt (dBody N_Swap_done b_Swap_done [.obj "Swap" (flds k (.tup [.str o, .str n])), .str x]) (.str ((Dd.sw o n).run x)) := by
  have hf := h.facts
  have lp : ∀ {i : Nat} {G : List D → W D}, ([("Swap", G)] : Tb).lookup ("Swap" : Str) = some G := fun {i G} => by rw [List.lookup_cons, beq_self_eq_true]
  refine Rt.bodyR (Rt.seq (Rt.asg (d := .dct (mZD (o.cps.toList.zip n.cps.toList))) (Rt.bind (Rt.cons (Rt.prop (Rt.var rfl) (lp (i := 0)) (Rt.bodyR (Rt.rets (Rt.op2 (Rt.fld (Rt.var rfl) (lk_texts _ _)) Rt.cC (Rt.ixT rfl))))) (Rt.cons (Rt.prop (Rt.var rfl) (lp (i := 0)) (Rt.bodyR (Rt.rets (Rt.op2 (Rt.fld (Rt.var rfl) (lk_texts _ _)) Rt.cC (Rt.ixT rfl))))) Rt.nil)) (Rt.need (small (by omega)) Rt.ret))) (Rt.rets ?_))
  refine Rt.ms Rt.cC (Rt.cons (rLc (rIS (Rt.var rfl)) (lcY (fun c => D.str ⟨#[c]⟩) (fun c => D.str ⟨#[swL o.cps.toList n.cps.toList c]⟩) x.cps.toList (by rw [← len_cps]; omega) (fun c hc => dget_r rfl rfl (dz_get h c)))) Rt.nil) ?_
  have e : (x.cps.toList.map fun c => D.str ⟨#[swL o.cps.toList n.cps.toList c]⟩) = (x.cps.toList.map (swL o.cps.toList n.cps.toList)).map fun c => D.str ⟨#[c]⟩ := by rw [List.map_map]; rfl
  rw [e]
  exact join_r (by rw [List.length_map, ← len_cps]; omega)
end
end Lw
namespace Lw
open PySem L2 Ly Lt
open Lx (atI_in shaped_ints inS cutL revS uniq Ky)
theorem meth_done {e : Dd} (h : e.ok) {x : Str} (hx : x.length ≤ 3000) {δ : List Sl} (h2 : δ[2]? = some (some e.o)) (h1 : δ[1]? = some (some (.str x))) : Rt (dMeth "done" 1 tb_done (dVar 2) (dCons (dVar 1) dNil) δ) (.str (e.run x)) := by
  cases e with
  | pl ev o n =>
    obtain ⟨⟨ho, h1', h2'⟩, hn, hn2⟩ := h
    cases ev with
    | true => exact Rt.meth (Rt.var h2) (lk_done _ _) (lk_pre (pre := [("First", dBody N_First_done b_First_done)]) (ns := ["First"]) rfl (by decide +kernel)) (Rt.cons (Rt.var h1) Rt.nil) rfl (every_done hx hn2)
    | false => exact Rt.meth (Rt.var h2) (lk_done _ _) (lk_pre (pre := []) (ns := []) rfl (by decide +kernel)) (Rt.cons (Rt.var h1) Rt.nil) rfl (first_done hx hn2)
  | sw o n => exact Rt.meth (Rt.var h2) (lk_done _ _) (lk_pre (pre := [("First", dBody N_First_done b_First_done), ("Every", dBody N_Every_done b_Every_done)]) (ns := ["First", "Every"]) rfl (by decide +kernel)) (Rt.cons (Rt.var h1) Rt.nil) rfl (swap_done h.2.2 hx)
  | en fr o =>
    obtain ⟨ho, h1', h2'⟩ := h
    cases fr with
    | true => exact Rt.meth (Rt.var h2) (lk_done _ _) (lk_pre (pre := [("First", dBody N_First_done b_First_done), ("Every", dBody N_Every_done b_Every_done), ("Swap", dBody N_Swap_done b_Swap_done)]) (ns := ["First", "Every", "Swap"]) rfl (by decide +kernel)) (Rt.cons (Rt.var h1) Rt.nil) rfl (front_done hx h2')
    | false => exact Rt.meth (Rt.var h2) (lk_done _ _) (lk_pre (pre := [("First", dBody N_First_done b_First_done), ("Every", dBody N_Every_done b_Every_done), ("Swap", dBody N_Swap_done b_Swap_done), ("Front", dBody N_Front_done b_Front_done)]) (ns := ["First", "Every", "Swap", "Front"]) rfl (by decide +kernel)) (Rt.cons (Rt.var h1) Rt.nil) rfl (behind_done hx h2')
theorem for_r {gb : List Sl → W Out} {A : Sl} {φ : Dd → D} (hs : ∀ (e : Dd) (x : Str), e.ok → lets x → x.length ≤ 1000 → Rt (gb [A, some (.str x), some (φ e)]) (.nx [A, some (.str (e.run x)), some (φ e)])) : ∀ (es : List Dd) (x : Str) (a2 : Sl), (∀ e ∈ es, e.ok) → lets x → (x.length + 2) * 2 ^ es.length ≤ 1000 →
    ∃ b2, Rt (forD (dName 2) gb (es.map φ) [A, some (.str x), a2]) (.nx [A, some (.str (runs es x)), b2])
  | [], x, a2, _, _, _ => ⟨a2, Rt.ret⟩
  | e :: es, x, a2, h, hl, hb => by
    have hr := run_ok (h e List.mem_cons_self) hl
    have hp : 1 ≤ 2 ^ es.length := Nat.one_le_two_pow
    rw [List.length_cons, Nat.pow_succ] at hb
    have hb1 : (x.length + 2) * 1 ≤ (x.length + 2) * (2 ^ es.length * 2) := Nat.mul_le_mul_left _ (by omega)
    have hb2 : ((e.run x).length + 2) * 2 ^ es.length ≤ ((x.length + 2) * 2) * 2 ^ es.length := Nat.mul_le_mul_right _ (by omega)
    have hb3 : ((x.length + 2) * 2) * 2 ^ es.length = (x.length + 2) * (2 ^ es.length * 2) := by rw [Nat.mul_assoc, Nat.mul_comm 2]
    obtain ⟨b2, ih⟩ := for_r hs es (e.run x) (some (φ e)) (fun d hd => h d (List.mem_cons_of_mem _ hd)) hr.1 (by omega)
    refine ⟨b2, ?_⟩
    show Rt (((dName 2 (φ e) [A, some (.str x), a2]).bind gb).bind fun o => match o with | .nx ε => forD (dName 2) gb (es.map φ) ε | .ct ε => forD (dName 2) gb (es.map φ) ε | .bk ε => W.ret (.nx ε) | .rt d => W.ret (.rt d)) _
    exact Rt.bind (Rt.bind Rt.ret (hs e x (h e List.mem_cons_self) hl (by omega))) ih
theorem all_l {es : List Dd} {x : Str} (h : ∀ e ∈ es, e.ok) (hl : lets x) (hb : (x.length + 2) * 2 ^ es.length ≤ 1000) : Rt (g_done_all [.lst (es.map Dd.o), .str x]) (.str (runs es x)) := by
  obtain ⟨b2, hf⟩ := for_r (gb := dAsg (dMeth "done" 1 tb_done (dVar 2) (dCons (dVar 1) dNil)) (dName 1)) (A := some (.lst (es.map Dd.o))) (φ := Dd.o) (fun e x he _ hx => Rt.asg (meth_done he (by omega) rfl rfl)) es x none h hl hb
  exact Rt.bodyR (Rt.seq (Rt.bind (Rt.bind (Rt.var rfl) Rt.ret) hf) (Rt.rets (Rt.var rfl)))
theorem all_t {es : List Dd} {x : Str} (h : ∀ e ∈ es, e.ok) (hl : lets x) (hb : (x.length + 2) * 2 ^ es.length ≤ 1000) : Rt (g_done_all [.tup (es.map Dd.o), .str x]) (.str (runs es x)) := by
  obtain ⟨b2, hf⟩ := for_r (gb := dAsg (dMeth "done" 1 tb_done (dVar 2) (dCons (dVar 1) dNil)) (dName 1)) (A := some (.tup (es.map Dd.o))) (φ := Dd.o) (fun e x he _ hx => Rt.asg (meth_done he (by omega) rfl rfl)) es x none h hl hb
  exact Rt.bodyR (Rt.seq (Rt.bind (Rt.bind (Rt.var rfl) Rt.ret) hf) (Rt.rets (Rt.var rfl)))
theorem Rt.andB {δ : List Sl} {ta tb : List Sl → W Bool} {b c : Bool} (ha : Rt (ta δ) b) (hb : Rt (tb δ) c) : Rt (dAnd ta tb δ) (b && c) := by
  cases b with
  | false => exact Rt.andF ha
  | true => exact Rt.andT ha hb
theorem Rt.orB {δ : List Sl} {ta tb : List Sl → W Bool} {b c : Bool} (ha : Rt (ta δ) b) (hb : Rt (tb δ) c) : Rt (dOr ta tb δ) (b || c) := by
  cases b with
  | true => exact Rt.orT ha
  | false => exact Rt.orF ha hb
theorem app_mk (l : List Nat) (n : Str) : ((⟨l.toArray⟩ : Str) ++ n) = ⟨(l ++ n.cps.toList).toArray⟩ := str_ext (by rw [app_cps])
theorem nil_mk : ("" : Str) = ⟨([] : List Nat).toArray⟩ := str_ext (by decide +kernel)
theorem mk_len (l : List Nat) : (⟨l.toArray⟩ : Str).length = l.length := len_cps _
theorem drop_one {L : List Nat} {k : Nat} (h : k < L.length) : (L.drop k).take 1 = [L[k]] := by
  rw [List.drop_eq_getElem_cons h, List.take_succ_cons, List.take_zero]
abbrev wT : List Sl → W Bool := dTest (dOp2 ltD (dVar 7) (dOpn lenD (dCons (dVar 1) dNil)))
abbrev wC : List Sl → W Bool := dAnd (dTest (dOp2 eqD (dSl (dVar 1) (dPart (dVar 7)) (dPart (dOp2 addD (dVar 7) (dOpn lenD (dCons (dVar 5) dNil))))) (dVar 5))) (dOr (dTest (dOp2 eqD (dVar 2) (dC (.str ("every" : Str))))) (dTest (dOp2 eqD (dVar 8) (dC (.int 0)))))
abbrev wG : List Sl → W Out := dIf wC (dSeq (dPar 6 8 (dCons (dOp2 addD (dVar 6) (dOp2 ixD (dVar 0) (dC (.int 2)))) (dCons (dOp2 addD (dVar 8) (dC (.int 1))) dNil)))
  (dAsg (dOp2 addD (dVar 7) (dOpn lenD (dCons (dVar 5) dNil))) (dName 7))) (dPar 6 7 (dCons (dOp2 addD (dVar 6) (dOp2 ixD (dVar 1) (dVar 7))) (dCons (dOp2 addD (dVar 7) (dC (.int 1))) dNil)))
def sortS (ev : Bool) : Str := if ev then "every" else "first"
def st9 (ev : Bool) (o n x : Str) (acc : List Nat) (k h : Nat) : List Sl := [some (Dd.pl ev o n).d, some (.str x), some (.str (sortS ev)), none, none, some (.str o), some (.str ⟨acc.toArray⟩), some (.int k), some (.int h)]
theorem cond_r {ev : Bool} {o n x : Str} {acc : List Nat} {k h : Nat} (hx : x.length ≤ 1000) (ho : o.length ≤ 2) : Rt (wC (st9 ev o n x acc k h)) (atB o.cps.toList x.cps.toList k && (ev || h == 0)) := by
  refine Rt.andB ?_ (Rt.orB ?_ ?_)
  · refine (Rt.test (Rt.op2 (Rt.sl (δ := st9 ev o n x acc k h) (k := some ((k + o.length : Nat) : Int)) (Rt.var rfl) (Rt.part (Rt.var rfl)) (Rt.part (Rt.op2 (Rt.var rfl) (Rt.opn (Rt.cons (Rt.var rfl) Rt.nil) (len_s (by omega))) Rt.ret)) (slS (by omega))) (Rt.var rfl) Rt.ret)).cast ?_
    rw [sub_mid, atB_sub]
  · refine Rt.test (Rt.op2 (Rt.var rfl) Rt.cC ?_)
    cases ev with
    | true => exact Rt.eqT
    | false => exact Rt.eqF (by decide +kernel)
  · refine Rt.test (Rt.op2 (Rt.var rfl) Rt.cC (Rt.ret.cast (congrArg D.bl ?_)))
    rw [Bool.eq_iff_iff, decide_eq_true_iff, beq_iff_eq]
    omega
theorem wloop {ev : Bool} {o n x : Str} (hx : x.length ≤ 1000) (h1 : 1 ≤ o.length) (ho : o.length ≤ 2) (hn : n.length ≤ 2) : ∀ (m k h : Nat) (acc : List Nat), x.length ≤ k + m → acc.length + 2 * (x.length - k) ≤ 3000 →
    ∃ k', Rt (whileD wT wG (m + 1) (st9 ev o n x acc k h)) (.nx (st9 ev o n x (loopF ev o.cps.toList n.cps.toList x.cps.toList m k h acc).1 k' (loopF ev o.cps.toList n.cps.toList x.cps.toList m k h acc).2)) := by
  have hlx := len_cps x
  have hlo := len_cps o
  have hln := len_cps n
  have stop : ∀ (m k h : Nat) (acc : List Nat), x.length ≤ k → Rt (whileD wT wG (m + 1) (st9 ev o n x acc k h)) (.nx (st9 ev o n x acc k h)) := fun m k h acc hk =>
    Rt.bind (Rt.test (δ := st9 ev o n x acc k h) (Rt.op2 (Rt.var rfl) (Rt.opn (Rt.cons (Rt.var rfl) Rt.nil) (len_s (by omega))) (Rt.ret.cast (congrArg D.bl (decide_eq_false (show ¬ (k : Int) < (x.length : Int) by omega)))))) Rt.ret
  have go : ∀ (m k h : Nat) (acc : List Nat) (δ : List Sl) (o' : Out), k < x.length → Rt (wG (st9 ev o n x acc k h)) (.nx δ) → Rt (whileD wT wG m δ) o' → Rt (whileD wT wG (m + 1) (st9 ev o n x acc k h)) o' := fun m k h acc δ o' hk hg hw =>
    Rt.bind (Rt.test (δ := st9 ev o n x acc k h) (Rt.op2 (Rt.var rfl) (Rt.opn (Rt.cons (Rt.var rfl) Rt.nil) (len_s (by omega))) (Rt.ret.cast (congrArg D.bl (decide_eq_true (show (k : Int) < (x.length : Int) by omega)))))) (Rt.bind hg hw)
  intro m
  induction m with
  | zero => exact fun k h acc hk _ => ⟨k, stop 0 k h acc hk⟩
  | succ m ih =>
    intro k h acc hk hb
    by_cases hlt : k < x.length
    · have hlt2 : k < x.cps.toList.length := by omega
      cases hc : (atB o.cps.toList x.cps.toList k && (ev || h == 0)) with
      | true =>
        have e : loopF ev o.cps.toList n.cps.toList x.cps.toList (m + 1) k h acc = loopF ev o.cps.toList n.cps.toList x.cps.toList m (k + o.length) (h + 1) (acc ++ n.cps.toList) := by
          show (if k < x.cps.toList.length then (if (atB o.cps.toList x.cps.toList k && (ev || h == 0)) = true then loopF ev o.cps.toList n.cps.toList x.cps.toList m (k + o.cps.toList.length) (h + 1) (acc ++ n.cps.toList) else loopF ev o.cps.toList n.cps.toList x.cps.toList m (k + 1) h (acc ++ (x.cps.toList.drop k).take 1)) else (acc, h)) = _
          rw [if_pos hlt2, hc, if_pos rfl, ← hlo]
        rw [e]
        obtain ⟨k', ih⟩ := ih (k + o.length) (h + 1) (acc ++ n.cps.toList) (by omega) (by rw [List.length_append]; omega)
        refine ⟨k', go _ k h acc _ _ hlt ?_ ih⟩
        refine Rt.ifT ((cond_r hx ho).cast hc) ?_
        refine Rt.seq (ε := st9 ev o n x (acc ++ n.cps.toList) k (h + 1)) ?_ (Rt.asg (Rt.op2 (Rt.var rfl) (Rt.opn (Rt.cons (Rt.var rfl) Rt.nil) (len_s (by omega))) Rt.ret))
        exact Rt.par (Rt.cons (Rt.op2 (Rt.var rfl) (Rt.op2 (Rt.var rfl) Rt.cC Rt.ret) (Rt.need (small (by rw [mk_len]; omega)) (Rt.ret.cast (congrArg D.str (app_mk _ _))))) (Rt.cons (Rt.op2 (Rt.var rfl) Rt.cC Rt.ret) Rt.nil))
      | false =>
        have e : loopF ev o.cps.toList n.cps.toList x.cps.toList (m + 1) k h acc = loopF ev o.cps.toList n.cps.toList x.cps.toList m (k + 1) h (acc ++ [x.cps.toList[k]]) := by
          show (if k < x.cps.toList.length then (if (atB o.cps.toList x.cps.toList k && (ev || h == 0)) = true then loopF ev o.cps.toList n.cps.toList x.cps.toList m (k + o.cps.toList.length) (h + 1) (acc ++ n.cps.toList) else loopF ev o.cps.toList n.cps.toList x.cps.toList m (k + 1) h (acc ++ (x.cps.toList.drop k).take 1)) else (acc, h)) = _
          rw [if_pos hlt2, hc, if_neg (by decide), drop_one hlt2]
        rw [e]
        obtain ⟨k', ih⟩ := ih (k + 1) h (acc ++ [x.cps.toList[k]]) (by omega) (by rw [List.length_append, List.length_singleton]; omega)
        refine ⟨k', go _ k h acc _ _ hlt ?_ ih⟩
        refine Rt.ifF ((cond_r hx ho).cast hc) ?_
        have hix : L2.atI x.cps.toList (k : Int) = some x.cps.toList[k] := by
          obtain ⟨v, e1, e2⟩ := atI_in (xs := x.cps.toList) (i := (k : Int)) (by omega) (by omega)
          rw [Int.toNat_natCast, List.getElem?_eq_getElem hlt2] at e2
          rw [e1, ← e2]
        exact Rt.par (Rt.cons (Rt.op2 (Rt.var rfl) (Rt.op2 (Rt.var rfl) (Rt.var rfl) (ixS (by omega) hix)) (Rt.need (small (by rw [mk_len]; show acc.length + 1 ≤ 4000; omega)) (Rt.ret.cast (congrArg D.str (app_mk _ _))))) (Rt.cons (Rt.op2 (Rt.var rfl) Rt.cC Rt.ret) Rt.nil))
    · refine ⟨k, ?_⟩
      rw [loop_end (by omega)]
      exact stop _ k h acc (by omega)
end Lw
namespace Lw
open PySem L2 Ly Lt
open Lx (atI_in shaped_ints inS cutL revS uniq Ky)
theorem at_zero {o : Str} {a c : Nat} {r : List Nat} (h : o.cps.toList = a :: r) : atB [c] o.cps.toList 0 = (a == c) := by
  unfold atB
  rw [h]
  show ([a] == [c]) = _
  simp
theorem at_one {o : Str} {a b c : Nat} {r : List Nat} (h : o.cps.toList = a :: b :: r) : atB [c] o.cps.toList 1 = (b == c) := by
  unfold atB
  rw [h]
  show ([b] == [c]) = _
  simp
theorem occ_first {o : Str} {c i : Nat} (hat : atB [c] o.cps.toList i = true) (hlt : ∀ k, k < i → atB [c] o.cps.toList k = false) : ∃ r, Builtin.Str.occurrences o ⟨#[c]⟩ 0 o.length 1 = i :: r := by
  have h1 : 1 ≤ (⟨#[c]⟩ : Str).length := Nat.le_refl 1
  rcases StrLaws.occ_head o ⟨#[c]⟩ 1 (Nat.le_refl 1) with ⟨h0, hn⟩ | ⟨j, r, h0, ha, hn⟩
  · exact absurd ((at_iff h1).mpr hat) (hn i)
  · have : j = i := by
      rcases Nat.lt_trichotomy j i with h | h | h
      · have h2 := hlt j h
        have h3 := (at_iff h1).mp ha
        have h3 : atB [c] o.cps.toList j = true := h3
        rw [h2] at h3
        cases h3
      · exact h
      · exact absurd ((at_iff h1).mpr hat) (hn i h)
    subst this
    exact ⟨r, h0⟩
theorem index_r {o : Str} {c i : Nat} (hat : atB [c] o.cps.toList i = true) (hlt : ∀ k, k < i → atB [c] o.cps.toList k = false) : Rt (indexD o [.str ⟨#[c]⟩]) (.int (i : Nat)) := by
  obtain ⟨r, h⟩ := occ_first hat hlt
  show Rt (match Builtin.Str.occurrences o ⟨#[c]⟩ 0 o.length 1 with | i :: _ => W.ret (D.int (i : Nat)) | [] => W.stuck) _
  rw [h]
  exact Rt.ret
theorem moved_r {o n : Str} (h : Sw o n) {δ : List Sl} {c : Nat} (h0 : δ[0]? = some (some (Dd.sw o n).d)) (h4 : δ[4]? = some (some (.str ⟨#[c]⟩))) :
    Rt (dIfE (dTest (dOp2 (inD false) (dVar 4) (dOp2 ixD (dVar 0) (dC (.int 1))))) (dOp2 ixD (dOp2 ixD (dVar 0) (dC (.int 2))) (dMs (indexD) (dOp2 ixD (dVar 0) (dC (.int 1))) (dCons (dVar 4) dNil))) (dVar 4) δ) (.str ⟨#[swL o.cps.toList n.cps.toList c]⟩) := by
  have hin : Rt (dTest (dOp2 (inD false) (dVar 4) (dOp2 ixD (dVar 0) (dC (.int 1)))) δ) (decide (c ∈ o.cps.toList)) := Rt.test ((Rt.op2 (Rt.var h4) (Rt.op2 (Rt.var h0) Rt.cC (Rt.ixT rfl)) inD_s).cast (by rw [inS_one]))
  have hit : ∀ {i d : Nat}, atB [c] o.cps.toList i = true → (∀ k, k < i → atB [c] o.cps.toList k = false) → L2.atI n.cps.toList (i : Int) = some d → n.length ≤ 4000 → Rt (dOp2 ixD (dOp2 ixD (dVar 0) (dC (.int 2))) (dMs (indexD) (dOp2 ixD (dVar 0) (dC (.int 1))) (dCons (dVar 4) dNil)) δ) (.str ⟨#[d]⟩) := fun hat hlt hd hn =>
    Rt.op2 (Rt.op2 (Rt.var h0) Rt.cC (Rt.ixT rfl)) (Rt.ms (Rt.op2 (Rt.var h0) Rt.cC (Rt.ixT rfl)) (Rt.cons (Rt.var h4) Rt.nil) (index_r hat hlt)) (ixS hn hd)
  cases h with
  | one a b =>
    by_cases e : c = a
    · subst e
      refine Rt.ifE (b := true) (hin.cast (decide_eq_true List.mem_cons_self)) ?_
      refine (hit (i := 0) (d := b) ?_ (fun k hk => by omega) rfl (show 1 ≤ 4000 by decide)).cast (congrArg D.str (congrArg Str.mk ?_))
      · rw [at_zero rfl]; exact beq_self_eq_true c
      · show #[b] = #[if c = c then b else c]
        rw [if_pos rfl]
    · refine Rt.ifE (b := false) (hin.cast (decide_eq_false fun z => ?_)) ((Rt.var h4).cast ?_)
      · have z : c ∈ [a] := z
        rw [List.mem_singleton] at z
        exact e z
      · show _ = D.str ⟨#[if c = a then b else c]⟩
        rw [if_neg e]
  | two a b a2 b2 hab =>
    by_cases e : c = a
    · subst e
      refine Rt.ifE (b := true) (hin.cast (decide_eq_true List.mem_cons_self)) ?_
      refine (hit (i := 0) (d := a2) ?_ (fun k hk => by omega) rfl (show 2 ≤ 4000 by decide)).cast (congrArg D.str (congrArg Str.mk ?_))
      · rw [at_zero (r := [b]) rfl]; exact beq_self_eq_true c
      · show #[a2] = #[if c = c then a2 else if c = b then b2 else c]
        rw [if_pos rfl]
    · by_cases e2 : c = b
      · subst e2
        refine Rt.ifE (b := true) (hin.cast (decide_eq_true (List.mem_cons_of_mem _ List.mem_cons_self))) ?_
        refine (hit (i := 1) (d := b2) ?_ (fun k hk => ?_) rfl (show 2 ≤ 4000 by decide)).cast (congrArg D.str (congrArg Str.mk ?_))
        · rw [at_one (r := []) rfl]; exact beq_self_eq_true c
        · have hk : k = 0 := by omega
          subst hk
          rw [at_zero (r := [c]) rfl, beq_eq_false_iff_ne]
          exact fun z => e z.symm
        · show #[b2] = #[if c = a then a2 else if c = c then b2 else c]
          rw [if_neg e, if_pos rfl]
      · refine Rt.ifE (b := false) (hin.cast (decide_eq_false fun z => ?_)) ((Rt.var h4).cast ?_)
        · have z : c ∈ [a, b] := z
          simp only [List.mem_cons, List.not_mem_nil, or_false] at z
          exact z.elim e e2
        · show _ = D.str ⟨#[if c = a then a2 else if c = b then b2 else c]⟩
          rw [if_neg e, if_neg e2]
theorem sortN {k : Str} {x : Str} (h : (k == x) = false) {δ : List Sl} (e : δ[2]? = some (some (.str k))) {g : List Sl → W Out} : Rt (dIf (dTest (dOp2 eqD (dVar 2) (dC (.str x)))) g dNext δ) (.nx δ) := Rt.ifF (fs h e) Rt.next
theorem deed_done {e : Dd} (h : e.ok) {x : Str} (hx : x.length ≤ 1000) : ∃ b, Rt (g__law_deed_done [e.d, .str x]) (.tup [.str (e.run x), .bl b]) := by
  cases e with
  | pl ev o n =>
    obtain ⟨⟨ho, h1, h2⟩, hn, hn2⟩ := h
    obtain ⟨k', hw⟩ := wloop (ev := ev) hx h1 h2 hn2 x.length 0 0 [] (by omega) (by rw [List.length_nil]; omega)
    refine ⟨decide (0 < ((loopF ev o.cps.toList n.cps.toList x.cps.toList x.length 0 0 []).2 : Int)), ?_⟩
    have er : (Dd.pl ev o n).run x = ⟨(loopF ev o.cps.toList n.cps.toList x.cps.toList x.length 0 0 []).1.toArray⟩ := str_ext (pl_eq h1 (Nat.le_refl _))
    rw [er]
    refine Rt.bodyR (Rt.seq (ε := [some (Dd.pl ev o n).d, some (.str x), some (.str (sortS ev)), none, none, none, none, none, none]) (Rt.asg (Rt.op2 (Rt.var rfl) Rt.cC Rt.ret)) ?_)
    refine Rt.seq (sortN (k := sortS ev) (by cases ev <;> decide +kernel) rfl) (Rt.seq (sortN (k := sortS ev) (by cases ev <;> decide +kernel) rfl) (Rt.seq (sortN (k := sortS ev) (by cases ev <;> decide +kernel) rfl) ?_))
    refine Rt.seq (ε := st9 ev o n x [] 0 0) ?_ ?_
    · have e0 : st9 ev o n x [] 0 0 = [some (Dd.pl ev o n).d, some (.str x), some (.str (sortS ev)), none, none, some (.str o), some (.str ""), some (.int 0), some (.int 0)] := by
        unfold st9
        rw [← nil_mk]
        rfl
      rw [e0]
      exact Rt.bind (Rt.tup (Rt.cons (Rt.op2 (Rt.var rfl) Rt.cC Rt.ret) (Rt.cons Rt.cC (Rt.cons Rt.cC (Rt.cons Rt.cC Rt.nil)))) (small (show 4 ≤ 4000 by decide))) (Rt.bind (Rt.need rfl (Rt.bind Rt.ret (Rt.bind Rt.ret (Rt.bind Rt.ret (Rt.bind Rt.ret Rt.ret))))) Rt.ret)
    refine Rt.seq (fun s Q E q => ⟨x.length + 1, hw s Q E q⟩) ?_
    exact Rt.rets (Rt.tup (Rt.cons (Rt.var rfl) (Rt.cons (Rt.op2 (Rt.var rfl) Rt.cC Rt.ret) Rt.nil)) (small (show 2 ≤ 4000 by decide)))
  | sw o n =>
    refine ⟨true, ?_⟩
    refine Rt.bodyR (Rt.seq (Rt.asg (Rt.op2 (Rt.var rfl) Rt.cC (Rt.ixT rfl))) ?_)
    refine Rt.seq (sortN (k := "swap") (by decide +kernel) rfl) (Rt.seq (sortN (k := "swap") (by decide +kernel) rfl) (Rt.seqR (Rt.ifT (fs (k := "swap") (by decide +kernel) rfl) ?_)))
    refine Rt.seq (Rt.asg (rLc (rIS (Rt.var rfl)) (lcY (fun c => D.str ⟨#[c]⟩) (fun c => D.str ⟨#[swL o.cps.toList n.cps.toList c]⟩) x.cps.toList (by rw [← len_cps]; omega) (fun c hc => moved_r h.2.2 rfl rfl)))) ?_
    have e : (x.cps.toList.map fun c => D.str ⟨#[swL o.cps.toList n.cps.toList c]⟩) = (x.cps.toList.map (swL o.cps.toList n.cps.toList)).map fun c => D.str ⟨#[c]⟩ := by rw [List.map_map]; rfl
    rw [e]
    exact Rt.rets (Rt.tup (Rt.cons (Rt.ms Rt.cC (Rt.cons (Rt.var rfl) Rt.nil) (join_r (by rw [List.length_map, ← len_cps]; omega))) (Rt.cons Rt.cC Rt.nil)) (small (show 2 ≤ 4000 by decide)))
  | en fr o =>
    obtain ⟨ho, h1, h2⟩ := h
    refine ⟨true, ?_⟩
    refine Rt.bodyR (Rt.seq (ε := [some (Dd.en fr o).d, some (.str x), some (.str (if fr then "front" else "behind")), none, none, none, none, none, none]) (Rt.asg (Rt.op2 (Rt.var rfl) Rt.cC Rt.ret)) ?_)
    cases fr with
    | true => exact Rt.seqR (Rt.ifT (fs (k := "front") (by decide +kernel) rfl) (Rt.rets (Rt.tup (Rt.cons (Rt.op2 (Rt.op2 (Rt.var rfl) Rt.cC (Rt.ixT rfl)) (Rt.var rfl) (Rt.need (small (by omega)) Rt.ret)) (Rt.cons Rt.cC Rt.nil)) (small (show 2 ≤ 4000 by decide)))))
    | false =>
      refine Rt.seq (sortN (k := "behind") (by decide +kernel) rfl) ?_
      exact Rt.seqR (Rt.ifT (fs (k := "behind") (by decide +kernel) rfl) (Rt.rets (Rt.tup (Rt.cons (Rt.op2 (Rt.var rfl) (Rt.op2 (Rt.var rfl) Rt.cC (Rt.ixT rfl)) (Rt.need (small (by omega)) Rt.ret)) (Rt.cons Rt.cC Rt.nil)) (small (show 2 ≤ 4000 by decide)))))
theorem jdone_r {es : List Dd} {x : Str} (h : ∀ e ∈ es, e.ok) (hl : lets x) (hb : (x.length + 2) * 2 ^ es.length ≤ 1000) : Rt (g__law_jdone [.lst (es.map Dd.d), .str x]) (.str (runs es x)) := by
  obtain ⟨b2, hf⟩ := for_r (gb := dAsg (dOp2 ixD (dCall 2 g__law_deed_done (dCons (dVar 2) (dCons (dVar 1) dNil))) (dC (.int 0))) (dName 1)) (A := some (.lst (es.map Dd.d))) (φ := Dd.d) (fun e x he _ hx => by
    obtain ⟨b, hd⟩ := deed_done he hx
    exact Rt.asg (Rt.op2 (Rt.call (Rt.cons (Rt.var rfl) (Rt.cons (Rt.var rfl) Rt.nil)) rfl hd) Rt.cC (Rt.ixT rfl))) es x none h hl hb
  exact Rt.bodyR (Rt.seq (Rt.bind (rIL (Rt.var rfl)) hf) (Rt.rets (Rt.var rfl)))
theorem jmade_r {es : List Dd} (h : ∀ e ∈ es, e.ok) (hl : es.length ≤ 4000) : Rt (g__law_jmade_deeds [.lst (es.map Dd.d)]) (.lst (es.map Dd.o)) :=
  Rt.bodyR (Rt.rets (rLc (rIL (Rt.var rfl)) (lcY Dd.d Dd.o es hl (fun e he => Rt.call (Rt.cons (Rt.var rfl) Rt.nil) rfl (made_r (h e he))))))
def Dd.ws : Dd → List Str
  | .pl _ o n => [o, n]
  | .sw o n => [o, n]
  | .en _ o => [o]
theorem jwords_r (e : Dd) : Rt (g__law_jwords [e.d]) (.lst (e.ws.map D.str)) := by
  cases e with
  | pl ev o n =>
    refine Rt.bodyR (Rt.seq (Rt.ifF (Rt.test (Rt.op2 (x := .str (sortS ev)) (Rt.op2 (Rt.var rfl) Rt.cC Rt.ret) (Rt.tup (Rt.cons Rt.cC (Rt.cons Rt.cC (Rt.cons Rt.cC Rt.nil))) (small (show 3 ≤ 4000 by decide))) (z := .bl false) ?_)) Rt.next) ?_)
    · cases ev <;> exact Rt.need (by decide +kernel) (Rt.ret.cast (congrArg D.bl (by decide +kernel)))
    exact Rt.rets (Rt.opn (ds := [.tup [.str o, .str n]]) (Rt.cons (Rt.sl (Rt.var rfl) (Rt.part Rt.cC) Rt.noPart (Rt.need (fun z => absurd z.1 (show ¬ HT.sIx 3 0 (some 1) = 0 by decide +kernel)) Rt.ret)) Rt.nil) Rt.ret)
  | sw o n =>
    refine Rt.bodyR (Rt.seq (Rt.ifF (Rt.test (Rt.op2 (x := .str "swap") (Rt.op2 (Rt.var rfl) Rt.cC (Rt.ixT rfl)) (Rt.tup (Rt.cons Rt.cC (Rt.cons Rt.cC (Rt.cons Rt.cC Rt.nil))) (small (show 3 ≤ 4000 by decide))) (z := .bl false) ?_)) Rt.next) ?_)
    · exact Rt.need (by decide +kernel) (Rt.ret.cast (congrArg D.bl (by decide +kernel)))
    exact Rt.rets (Rt.opn (ds := [.tup [.str o, .str n]]) (Rt.cons (Rt.sl (Rt.var rfl) (Rt.part Rt.cC) Rt.noPart (Rt.need (fun z => absurd z.1 (show ¬ HT.sIx 3 0 (some 1) = 0 by decide +kernel)) Rt.ret)) Rt.nil) Rt.ret)
  | en fr o =>
    refine Rt.bodyR (Rt.seq (Rt.ifF (Rt.test (Rt.op2 (x := .str (if fr then "front" else "behind")) (Rt.op2 (Rt.var rfl) Rt.cC (Rt.ixT rfl)) (Rt.tup (Rt.cons Rt.cC (Rt.cons Rt.cC (Rt.cons Rt.cC Rt.nil))) (small (show 3 ≤ 4000 by decide))) (z := .bl false) ?_)) Rt.next) ?_)
    · cases fr <;> exact Rt.need (by decide +kernel) (Rt.ret.cast (congrArg D.bl (by decide +kernel)))
    exact Rt.rets (Rt.opn (ds := [.tup [.str o]]) (Rt.cons (Rt.sl (Rt.var rfl) (Rt.part Rt.cC) Rt.noPart (Rt.need (fun z => absurd z.1 (show ¬ HT.sIx 2 0 (some 1) = 0 by decide +kernel)) Rt.ret)) Rt.nil) Rt.ret)
theorem lsts_map {α : Type} (f : α → List D) : ∀ l : List α, lstsD (l.map fun a => D.lst (f a)) = some (l.map f)
  | [] => rfl
  | a :: r => by
    show (lstsD (r.map fun a => D.lst (f a))).map (f a :: ·) = _
    rw [lsts_map f r]; rfl
theorem flat_map_str (es : List Dd) : (es.map fun e => e.ws.map D.str).flatten = (es.flatMap Dd.ws).map D.str := by
  induction es with
  | nil => rfl
  | cons e r ih => rw [List.map_cons, List.flatten_cons, ih, List.flatMap_cons, List.map_append]
theorem ws_len (e : Dd) : e.ws.length ≤ 2 := by
  cases e with
  | pl ev o n => exact show 2 ≤ 2 by decide
  | sw o n => exact show 2 ≤ 2 by decide
  | en fr o => exact show 1 ≤ 2 by decide
theorem wss_len : ∀ es : List Dd, (es.flatMap Dd.ws).length ≤ 2 * es.length
  | [] => Nat.le_refl _
  | e :: r => by
    have h1 := ws_len e
    have h2 := wss_len r
    rw [List.flatMap_cons, List.length_append, List.length_cons]
    omega
theorem words_r {es : List Dd} {w : Str} (hl : es.length ≤ 100) {δ : List Sl} (h4 : δ[4]? = some (some (.str w))) (h5 : δ[5]? = some (some (.lst (es.map Dd.d)))) (h8 : 8 < δ.length) :
    Rt (dOp2 addD (dLst (dCons (dVar 4) dNil)) (dOpn sumD (dCons (dLc (dIL (dVar 5)) (dName 8) dYes (dCall 1 g__law_jwords (dCons (dVar 8) dNil)) [8]) (dCons (dLst dNil) dNil))) δ) (.lst ((w :: es.flatMap Dd.ws).map D.str)) := by
  refine Rt.op2 (Rt.lst (Rt.cons (Rt.var h4) Rt.nil) (small (show 1 ≤ 4000 by decide))) (y := .lst ((es.flatMap Dd.ws).map D.str)) ?_ ?_
  · refine Rt.opn (Rt.cons (rLc (rIL (Rt.var h5)) (lcY Dd.d (fun e => D.lst (e.ws.map D.str)) es (by omega) (fun e he => Rt.call (Rt.cons (Rt.var ?_) Rt.nil) rfl (jwords_r e)))) (Rt.cons (Rt.lst Rt.nil (small (show 0 ≤ 4000 by decide))) Rt.nil)) ?_
    · show ((δ.set 8 none).set 8 (some e.d))[8]? = _
      rw [List.getElem?_set_self (by rw [List.length_set]; exact h8)]
    · show Rt (match lstsD (es.map fun e => D.lst (e.ws.map D.str)) with | some yss => W.need ((([] : List D) ++ yss.flatten).length ≤ sizeLine) (W.ret (D.lst ([] ++ yss.flatten))) | none => W.stuck) _
      rw [lsts_map]
      show Rt (W.need ((([] : List D) ++ (es.map fun e => e.ws.map D.str).flatten).length ≤ sizeLine) (W.ret (D.lst ([] ++ (es.map fun e => e.ws.map D.str).flatten)))) _
      rw [flat_map_str]
      have := wss_len es
      exact Rt.need (small (by rw [List.nil_append, List.length_map]; omega)) Rt.ret
  · have := wss_len es
    exact Rt.need (small (by rw [List.length_map]; show 1 + _ ≤ 4000; omega)) Rt.ret
end Lw
namespace Lw
open PySem L2 Ly Lt
open Lx (atI_in shaped_ints inS cutL revS uniq Ky)
theorem good2.out {s : Str} (h : good2 s) : ∃ a b r, s = ⟨(a :: b :: r).toArray⟩ ∧ a ≠ b ∧ a ∈ LET.cps.toList ∧ b ∈ LET.cps.toList ∧ r.length ≤ 1 := by
  obtain ⟨⟨h1, h3, hl, hnd⟩, h2⟩ := h
  have hlen := len_cps s
  match e : s.cps.toList with
  | [] => rw [e] at hlen; rw [List.length_nil] at hlen; omega
  | [a] => rw [e] at hlen; rw [List.length_singleton] at hlen; omega
  | a :: b :: r =>
    rw [e, List.length_cons, List.length_cons] at hlen
    rw [e] at hnd
    have ha : a ∈ s.cps.toList := by rw [e]; exact List.mem_cons_self
    have hb : b ∈ s.cps.toList := by rw [e]; exact List.mem_cons_of_mem _ List.mem_cons_self
    refine ⟨a, b, r, str_ext e, fun z => ?_, hl a ha, hl b hb, by omega⟩
    rw [List.nodup_cons] at hnd
    exact hnd.1 (by rw [z]; exact List.mem_cons_self)
theorem at_nat {α : Type} {xs : List α} {k : Nat} {v : α} (h : xs[k]? = some v) : L2.atI xs (k : Int) = some v := by
  have hk := (List.getElem?_eq_some_iff.mp h).1
  obtain ⟨w, e1, e2⟩ := atI_in (xs := xs) (i := (k : Int)) (by omega) (by omega)
  rw [Int.toNat_natCast, h] at e2
  rw [e1, e2]
theorem one_l {a : Nat} (h : a ∈ LET.cps.toList) : lets ⟨#[a]⟩ := fun c hc => by
  have hc : c ∈ [a] := hc
  rw [List.mem_singleton] at hc
  rw [hc]; exact h
theorem two_l {a b : Nat} (h : a ∈ LET.cps.toList) (h2 : b ∈ LET.cps.toList) : lets ⟨#[a, b]⟩ := fun c hc => by
  have hc : c ∈ [a, b] := hc
  simp only [List.mem_cons, List.not_mem_nil, or_false] at hc
  rcases hc with rfl | rfl
  · exact h
  · exact h2
theorem sgn_l {x s : Str} (hs : lets s) (h : sgns x s.cps.toList) : lets x := fun c hc => hs c (h c hc)
theorem twice (a : Nat) : Txt.mul (⟨#[a]⟩ : Str) 2 = ⟨#[a, a]⟩ := by
  unfold Txt.mul
  rw [if_neg (by decide), if_neg (by show ¬ ((2 : Int) == 1 || (1 : Nat) == 0) = true; decide)]
  rfl
theorem twice_ok (a : Nat) : PySem.MulOk (⟨#[a]⟩ : Str) 2 := by
  refine ⟨by decide, fun _ _ => ?_, fun _ _ => ?_⟩
  · show ¬ ((1 : Int) > (2 ^ 63 - 1) / 2); decide
  · show PySem.Builtin.Str.tooLong (1 * 2) = false; decide +kernel
def DdD (d : D) : Prop := ∃ e : Dd, d = e.d ∧ e.ok
section
variable {δ : List Sl} {B B1 B2 : Nat} {f0 f1 f2 : List Sl → W D} {x : D} {P1 P2 : Str → Prop}
theorem tGt (h0 : Rt (f0 δ) x) (h1 : Tm B1 (f1 δ) (fun d => ∃ y : Str, d = .str y ∧ P1 y)) (h2 : Tm B2 (f2 δ) (fun d => ∃ y : Str, d = .str y ∧ P2 y)) (hb : B1 + B2 ≤ B) : Tm B (dGt f0 f1 f2 δ) (fun d => ∃ y z, d = .gt [x] y z ∧ P1 y ∧ P2 z) :=
  Tm.bindR h0 (Tm.bind h1 (fun d hd => by
    obtain ⟨y, rfl, hy⟩ := hd
    exact Tm.bind (B2 := 0) h2 (fun d hd => by
      obtain ⟨z, rfl, hz⟩ := hd
      exact Tm.ret ⟨y, z, rfl, hy, hz⟩) (Nat.le_refl _)) hb)
end
theorem row_d {s : Str} (hs : good2 s) {lo : Nat} (hl : lo ≤ 2) {δ : List Sl} (h0 : δ[0]? = some (some .pen)) (h1 : δ[1]? = some (some (.str s))) (h2 : δ[2]? = some (some (.int 2))) :
    Tm 3 (dCall 4 g__law_row (dCons (dVar 0) (dCons (dVar 1) (dCons (dC (.int lo)) (dCons (dVar 2) dNil)))) δ) (fun d => ∃ x : Str, d = .str x ∧ (lo ≤ x.length ∧ x.length ≤ 2 ∧ lets x)) :=
  Ly.tCall (Rt.cons (Rt.var h0) (Rt.cons (Rt.var h1) (Rt.cons Rt.cC (Rt.cons (Rt.var h2) Rt.nil)))) rfl ((row_t (lo := lo) (hi := 2) hs.1.one (by have := hs.1.few; omega) hl (by decide)).mono (by decide) fun d hd => by
    obtain ⟨x, rfl, h1, h2, h3⟩ := hd
    exact ⟨x, rfl, h1, h2, sgn_l hs.1.let_ h3⟩)
theorem sortT {k x : Str} {b : Bool} (h : (k == x) = b) {δ : List Sl} (e : δ[3]? = some (some (.str k))) : Rt (dTest (dOp2 eqD (dVar 3) (dC (.str x))) δ) b := fs h e
theorem ends_T {k : Str} {b : Bool} (h : inF (.str k) [.str "front", .str "behind"] = b) {δ : List Sl} (e : δ[3]? = some (some (.str k))) : Rt (dTest (dOp2 (inD false) (dVar 3) (dTup (dCons (dC (.str ("front" : Str))) (dCons (dC (.str ("behind" : Str))) dNil)))) δ) b :=
  Rt.test (Rt.op2 (Rt.var e) (Rt.tup (Rt.cons Rt.cC (Rt.cons Rt.cC Rt.nil)) (small (show 2 ≤ 4000 by decide))) (Rt.need ⟨rfl, rfl⟩ (Rt.ret.cast (congrArg D.bl h))))
theorem deed_t {s : Str} (hs : good2 s) : Tm 7 (g__law_deed [.pen, .str s, .int 2]) DdD := by
  refine tBody (tAsg (P := fun d => d = .str "first" ∨ d = .str "every" ∨ d = .str "swap" ∨ d = .str "front" ∨ d = .str "behind") (B1 := 1) (B2 := 6) ?_ (fun d hd => ?_) (Nat.le_refl _))
  · refine (Ly.tCall (Rt.cons (Rt.var rfl) (Rt.cons (Rt.lst (Rt.cons Rt.cC (Rt.cons Rt.cC (Rt.cons Rt.cC (Rt.cons Rt.cC (Rt.cons Rt.cC (Rt.cons Rt.cC (Rt.cons Rt.cC Rt.nil))))))) (small (show 7 ≤ 4000 by decide))) Rt.nil)) rfl (pick_l (show 1 ≤ 7 by decide) (show 7 ≤ 4000 by decide))).mono (Nat.le_refl _) fun d hd => ?_
    simp only [List.mem_cons, List.not_mem_nil, or_false] at hd
    rcases hd with rfl | rfl | rfl | rfl | rfl | rfl | rfl
    · exact .inl rfl
    · exact .inl rfl
    · exact .inr (.inl rfl)
    · exact .inr (.inl rfl)
    · exact .inr (.inr (.inl rfl))
    · exact .inr (.inr (.inr (.inl rfl)))
    · exact .inr (.inr (.inr (.inr rfl)))
  · have place : ∀ ev : Bool, Tm 6 (dRet (dGt (dVar 3) (dCall 4 g__law_row (dCons (dVar 0) (dCons (dVar 1) (dCons (dC (.int 1)) (dCons (dVar 2) dNil))))) (dCall 4 g__law_row (dCons (dVar 0) (dCons (dVar 1) (dCons (dC (.int 0)) (dCons (dVar 2) dNil)))))) [some .pen, some (.str s), some (.int 2), some (.str (sortS ev))]) (fun o => ∃ d, o = .rt d ∧ DdD d) := fun ev =>
      tRet (P := DdD) ((tGt (x := .str (sortS ev)) (Rt.var rfl) (row_d hs (lo := 1) (by decide) rfl rfl rfl) (row_d hs (lo := 0) (by decide) rfl rfl rfl) (Nat.le_refl _)).mono (Nat.le_refl _) fun d hd => by
        obtain ⟨y, z, rfl, ⟨y1, y2, y3⟩, z1, z2, z3⟩ := hd
        exact ⟨.pl ev y z, rfl, ⟨y3, y1, y2⟩, z3, z2⟩) fun d hd => ⟨d, rfl, hd⟩
    have ends : ∀ fr : Bool, Tm 6 (dRet (dTup (dCons (dVar 3) (dCons (dCall 4 g__law_row (dCons (dVar 0) (dCons (dVar 1) (dCons (dC (.int 1)) (dCons (dVar 2) dNil))))) dNil))) [some .pen, some (.str s), some (.int 2), some (.str (if fr then "front" else "behind"))]) (fun o => ∃ d, o = .rt d ∧ DdD d) := fun fr => by
      refine tRet (P := DdD) ?_ fun d hd => ⟨d, rfl, hd⟩
      refine Tm.bind (B1 := 3) (B2 := 0) (Q := fun ds => ∃ x : Str, ds = [.str (if fr then "front" else "behind"), .str x] ∧ (1 ≤ x.length ∧ x.length ≤ 2 ∧ lets x)) ?_ (fun ds hds => ?_) (by decide)
      · refine Tm.bindR (Rt.var rfl) (Tm.bind (B1 := 3) (B2 := 0) (tCons (B1 := 3) (B2 := 0) (row_d hs (lo := 1) (by decide) rfl rfl rfl) tNil (by decide)) (fun r hr => ?_) (by decide))
        obtain ⟨d, _, rfl, ⟨x, rfl, hx⟩, rfl⟩ := hr
        exact Tm.ret ⟨x, rfl, hx⟩
      · obtain ⟨x, rfl, h1, h2, h3⟩ := hds
        exact Tm.need (small (show 2 ≤ 4000 by decide)) (Tm.ret ⟨.en fr x, rfl, h3, h1, h2⟩)
    rcases hd with rfl | rfl | rfl | rfl | rfl
    · exact tSeqF (sortT (b := false) (by decide +kernel) rfl) (tSeqF (ends_T (b := false) (by decide +kernel) rfl) (place false))
    · exact tSeqF (sortT (b := false) (by decide +kernel) rfl) (tSeqF (ends_T (b := false) (by decide +kernel) rfl) (place true))
    · refine tSeqT' (sortT (b := true) (by decide +kernel) rfl) (tRet (P := DdD) ?_ fun d hd => ⟨d, rfl, d, rfl, hd⟩)
      obtain ⟨a, b, r, rfl, hab, ha, hb, hr⟩ := hs.out
      have hl : (⟨(a :: b :: r).toArray⟩ : Str).length ≤ 4000 := by rw [mk_len, List.length_cons, List.length_cons]; omega
      have cut : ∀ {δ : List Sl}, δ[1]? = some (some (.str ⟨(a :: b :: r).toArray⟩)) → Rt (dSl (dVar 1) dNoPart (dPart (dC (.int 2))) δ) (.str ⟨#[a, b]⟩) := fun e => (Rt.sl (k := some ((2 : Nat) : Int)) (Rt.var e) Rt.noPart (Rt.part Rt.cC) (slS hl)).cast (congrArg D.str (cut_to _ 2))
      have i0 : ∀ {δ : List Sl}, δ[1]? = some (some (.str ⟨(a :: b :: r).toArray⟩)) → Rt (dOp2 ixD (dVar 1) (dC (.int 0)) δ) (.str ⟨#[a]⟩) := fun e => Rt.op2 (Rt.var e) Rt.cC (ixS hl (at_nat (k := 0) rfl))
      have i1 : ∀ {δ : List Sl}, δ[1]? = some (some (.str ⟨(a :: b :: r).toArray⟩)) → Rt (dOp2 ixD (dVar 1) (dC (.int 1)) δ) (.str ⟨#[b]⟩) := fun e => Rt.op2 (Rt.var e) Rt.cC (ixS hl (at_nat (k := 1) rfl))
      have hq : ("q" : Str) = ⟨#[113]⟩ := str_ext (by decide +kernel)
      have hq2 : (113 : Nat) ∈ LET.cps.toList := by decide +kernel
      have t3 := small (show 3 ≤ 4000 by decide)
      refine (Ly.tCall (Rt.cons (Rt.var rfl) (Rt.cons (Rt.lst
        (Rt.cons (Rt.tup (Rt.cons Rt.cC (Rt.cons (cut rfl) (Rt.cons (Rt.bind (cut rfl) (Rt.need (small (show 2 ≤ 4000 by decide)) Rt.ret)) Rt.nil))) t3)
        (Rt.cons (Rt.tup (Rt.cons Rt.cC (Rt.cons (i0 rfl) (Rt.cons (i1 rfl) Rt.nil))) t3)
        (Rt.cons (Rt.tup (Rt.cons Rt.cC (Rt.cons (cut rfl) (Rt.cons (Rt.op2 (i0 rfl) Rt.cC (Rt.need (twice_ok a) Rt.ret)) Rt.nil))) t3)
        (Rt.cons (Rt.tup (Rt.cons Rt.cC (Rt.cons (i1 rfl) (Rt.cons Rt.cC Rt.nil))) t3) Rt.nil)))) (small (show 4 ≤ 4000 by decide))) Rt.nil)) rfl (pick_l (show 1 ≤ 4 by decide) (show 4 ≤ 4000 by decide))).mono (by decide) fun d hd => ?_
      simp only [List.mem_cons, List.not_mem_nil, or_false] at hd
      rcases hd with rfl | rfl | rfl | rfl
      · exact ⟨.sw ⟨#[a, b]⟩ ⟨#[b, a]⟩, rfl, two_l ha hb, two_l hb ha, .two _ _ _ _ hab⟩
      · exact ⟨.sw ⟨#[a]⟩ ⟨#[b]⟩, rfl, one_l ha, one_l hb, .one _ _⟩
      · refine ⟨.sw ⟨#[a, b]⟩ ⟨#[a, a]⟩, ?_, two_l ha hb, two_l ha ha, .two _ _ _ _ hab⟩
        rw [twice]
        rfl
      · refine ⟨.sw ⟨#[b]⟩ ⟨#[113]⟩, ?_, one_l hb, one_l hq2, .one _ _⟩
        rw [← hq]
        rfl
    · exact tSeqF (sortT (b := false) (by decide +kernel) rfl) (tSeqT' (ends_T (b := true) (by decide +kernel) rfl) ((ends true).mono (Nat.le_refl _) fun o ho => by
        obtain ⟨d, rfl, hd⟩ := ho
        exact ⟨d, rfl, d, rfl, hd⟩))
    · exact tSeqF (sortT (b := false) (by decide +kernel) rfl) (tSeqT' (ends_T (b := true) (by decide +kernel) rfl) ((ends false).mono (Nat.le_refl _) fun o ho => by
        obtain ⟨d, rfl, hd⟩ := ho
        exact ⟨d, rfl, d, rfl, hd⟩))
theorem deeds_of {ys : List D} (h : ∀ y ∈ ys, DdD y) : ∃ es : List Dd, ys = es.map Dd.d ∧ es.length = ys.length ∧ ∀ e ∈ es, e.ok := by
  induction ys with
  | nil => exact ⟨[], rfl, rfl, fun _ z => nomatch z⟩
  | cons y r ih =>
    obtain ⟨e, rfl, he⟩ := h y List.mem_cons_self
    obtain ⟨es, rfl, h2, h3⟩ := ih fun z hz => h z (List.mem_cons_of_mem _ hz)
    refine ⟨e :: es, rfl, by rw [List.length_cons, List.length_cons, List.length_map], fun z hz => ?_⟩
    rcases List.mem_cons.mp hz with rfl | hz
    · exact he
    · exact h3 z hz
theorem jdeeds_t {s : Str} (hs : good2 s) : Tm 29 (g__law_jdeeds [.pen, .str s, .int 4, .int 2]) (fun d => ∃ es : List Dd, d = .lst (es.map Dd.d) ∧ es.length ≤ 4 ∧ ∀ e ∈ es, e.ok) := by
  refine tBody (tRet (P := fun d => ∃ es : List Dd, d = .lst (es.map Dd.d) ∧ es.length ≤ 4 ∧ ∀ e ∈ es, e.ok) ?_ fun d hd => ⟨d, rfl, hd⟩)
  refine Tm.bind (B1 := 1) (B2 := 28) (Q := fun ds => ∃ n : Nat, ds = rangeD 0 n ∧ n ≤ 4) ?_ (fun ds hds => ?_) (by decide)
  · refine Tm.bind (B1 := 1) (B2 := 0) (tCons (B1 := 1) (B2 := 0) (Ly.tCall (Rt.cons (Rt.var rfl) (Rt.cons (Rt.op2 (Rt.var rfl) Rt.cC Rt.ret) Rt.nil)) rfl (draw_t (by decide) (by decide))) tNil (by decide)) (fun ds hds => ?_) (by decide)
    obtain ⟨d, _, rfl, ⟨i, rfl, i0, i1⟩, rfl⟩ := hds
    refine Tm.need ⟨by omega, by omega⟩ (Tm.ret ⟨i.toNat, ?_, by omega⟩)
    congr 1
    try omega
  · obtain ⟨n, rfl, hn⟩ := hds
    refine Tm.bind (B1 := 28) (B2 := 0) ((Tm.calm (lcD_t (B := 7) (P := DdD) _ 0 ?_ (fun _ _ => Rt.ret) (fun d hd => ?_))).mono ?_ (fun _ z => z)) (fun ys hys => ?_) (by decide)
    · rw [rangeD_len]; exact small (by omega)
    · exact Ly.tCall (Rt.cons (Rt.var rfl) (Rt.cons (Rt.var rfl) (Rt.cons (Rt.var rfl) Rt.nil))) rfl (deed_t hs)
    · rw [rangeD_len]; omega
    · obtain ⟨es, rfl, h2, h3⟩ := deeds_of hys.2
      rw [rangeD_len, List.length_map] at hys
      exact Tm.ret ⟨es, rfl, by omega, h3⟩
theorem pick_w {ws : List Str} {s : Str} (h : ws.length ≤ 100) : Tm 1 (g__law_pick [.pen, .lst (ws.map D.str ++ [.str s])]) (fun d => ∃ x : Str, d = .str x ∧ (x ∈ ws ∨ x = s)) :=
  (pick_l (by rw [List.length_append, List.length_singleton]; omega) (by rw [List.length_append, List.length_map, List.length_singleton]; omega)).mono (Nat.le_refl _) fun d hd => by
    rcases List.mem_append.mp hd with hd | hd
    · obtain ⟨x, hx, rfl⟩ := List.mem_map.mp hd
      exact ⟨x, rfl, .inl hx⟩
    · rw [List.mem_singleton] at hd
      exact ⟨s, hd, .inr rfl⟩
section
variable {ws : List Str} {s x F : Str} {c : Nat} {δ : List Sl}
theorem jl1 (hsl : lets s) (hs3 : s.length ≤ 3) (hn : ws.length ≤ 100) (hw : ∀ x ∈ ws, lets x ∧ x.length ≤ 3) (h0 : δ[0]? = some (some .pen)) (h1 : δ[1]? = some (some (.lst (ws.map D.str)))) (h2 : δ[2]? = some (some (.str s))) :
    Tm 1 (dCall 2 g__law_pick (dCons (dVar 0) (dCons (dOp2 addD (dOpn listD (dCons (dVar 1) dNil)) (dLst (dCons (dVar 2) dNil))) dNil)) δ) (fun d => ∃ x : Str, d = .str x ∧ lets x ∧ x.length ≤ 3) := by
  have hl : Rt (dOpn listD (dCons (dVar 1) dNil) δ) (.lst (ws.map D.str)) := Rt.opn (Rt.cons (Rt.var h1) Rt.nil) Rt.ret
  have ho : Rt (dLst (dCons (dVar 2) dNil) δ) (.lst [.str s]) := Rt.lst (Rt.cons (Rt.var h2) Rt.nil) (small (show 1 ≤ 4000 by decide))
  have ha : Rt (dOp2 addD (dOpn listD (dCons (dVar 1) dNil)) (dLst (dCons (dVar 2) dNil)) δ) (.lst (ws.map D.str ++ [.str s])) := Rt.op2 hl ho (Rt.need (small (by rw [List.length_map]; show ws.length + 1 ≤ 4000; omega)) Rt.ret)
  refine Ly.tCall (Rt.cons (Rt.var h0) (Rt.cons ha Rt.nil)) rfl ((pick_w hn).mono (Nat.le_refl _) fun d hd => ?_)
  obtain ⟨x, rfl, hx⟩ := hd
  rcases hx with hx | rfl
  · exact ⟨x, rfl, hw x hx⟩
  · exact ⟨x, rfl, hsl, hs3⟩
theorem jl2 (hx3 : x.length ≤ 3) (h0 : δ[0]? = some (some .pen)) (h6 : δ[6]? = some (some (.str x))) :
    Tm 1 (dCall 2 g__law_draw (dCons (dVar 0) (dCons (dOp2 addD (dOpn lenD (dCons (dVar 6) dNil)) (dC (.int 1))) dNil)) δ) (fun d => ∃ c : Nat, d = .int c ∧ c ≤ x.length) := by
  have hl : Rt (dOp2 addD (dOpn lenD (dCons (dVar 6) dNil)) (dC (.int 1)) δ) (.int (x.length + 1)) := Rt.op2 (Rt.opn (Rt.cons (Rt.var h6) Rt.nil) (len_s (by omega))) Rt.cC Rt.ret
  refine (Ly.tCall (Rt.cons (Rt.var h0) (Rt.cons hl Rt.nil)) rfl (draw_t (by omega) (by omega))).mono (Nat.le_refl _) fun d hd => ?_
  obtain ⟨i, rfl, i0, i1⟩ := hd
  exact ⟨i.toNat, congrArg D.int (by omega), by omega⟩
theorem jl3 (hsl : lets s) (hs1 : 1 ≤ s.length) (hs3 : s.length ≤ 3) (h0 : δ[0]? = some (some .pen)) (h2 : δ[2]? = some (some (.str s))) :
    Tm 3 (dCall 4 g__law_row (dCons (dVar 0) (dCons (dOp2 addD (dVar 2) (dC (.str ("q" : Str)))) (dCons (dC (.int 0)) (dCons (dC (.int 2)) dNil)))) δ) (fun d => ∃ y : Str, d = .str y ∧ lets y ∧ y.length ≤ 3) := by
  have eq1 : ("q" : Str).cps.toList.length = 1 := by decide +kernel
  have ha : Rt (dOp2 addD (dVar 2) (dC (.str ("q" : Str))) δ) (.str (s ++ "q")) := Rt.op2 (Rt.var h2) Rt.cC (Rt.need (small (by rw [len_cps "q", eq1]; omega)) Rt.ret)
  have hl : (s ++ "q").length = s.length + 1 := by rw [len_cps, app_cps, List.length_append, ← len_cps, eq1]
  refine Ly.tCall (Rt.cons (Rt.var h0) (Rt.cons ha (Rt.cons Rt.cC (Rt.cons Rt.cC Rt.nil)))) rfl ((row_t (s := s ++ "q") (lo := 0) (hi := 2) (by omega) (by omega) (by decide) (by decide)).mono (by decide) fun d hd => ?_)
  obtain ⟨y, rfl, y1, y2, y3⟩ := hd
  refine ⟨y, rfl, sgn_l (s := s ++ "q") (fun c hc => ?_) y3, by omega⟩
  rw [app_cps] at hc
  rcases List.mem_append.mp hc with hc | hc
  · exact hsl c hc
  · have e : (("q" : Str).cps.toList.all fun c => decide (c ∈ LET.cps.toList)) = true := by decide +kernel
    exact of_decide_eq_true (List.all_eq_true.mp e c hc)
theorem jl4 (hsl : lets s) (hs1 : 1 ≤ s.length) (hs3 : s.length ≤ 3) (hx : lets x) (hx3 : x.length ≤ 3) (hc : c ≤ x.length) (h0 : δ[0]? = some (some .pen)) (h2 : δ[2]? = some (some (.str s))) (h6 : δ[6]? = some (some (.str x))) (h7 : δ[7]? = some (some (.int c))) :
    Tm 4 (dCall 2 g__law_pick (dCons (dVar 0) (dCons (dLst (dCons (dVar 6) (dCons (dSl (dVar 6) dNoPart (dPart (dVar 7))) (dCons (dSl (dVar 6) (dPart (dVar 7)) dNoPart) (dCons (dCall 4 g__law_row (dCons (dVar 0) (dCons (dOp2 addD (dVar 2) (dC (.str ("q" : Str)))) (dCons (dC (.int 0)) (dCons (dC (.int 2)) dNil))))) dNil))))) dNil)) δ)
      (fun d => ∃ y : Str, d = .str y ∧ lets y ∧ y.length ≤ 3) := by
  have c1 : Rt (dSl (dVar 6) dNoPart (dPart (dVar 7)) δ) (.str (cutS x none (some (c : Int)))) := Rt.sl (Rt.var h6) Rt.noPart (Rt.part (Rt.var h7)) (slS (by omega))
  have c2 : Rt (dSl (dVar 6) (dPart (dVar 7)) dNoPart δ) (.str (cutS x (some (c : Int)) none)) := Rt.sl (Rt.var h6) (Rt.part (Rt.var h7)) Rt.noPart (slS (by omega))
  refine Tm.bind (B1 := 3) (B2 := 1) (Q := fun ds => ∃ ys : List Str, ds = [.pen, .lst (ys.map D.str)] ∧ ys.length = 4 ∧ ∀ y ∈ ys, lets y ∧ y.length ≤ 3) ?_ (fun ds hds => ?_) (by decide)
  · refine Tm.bindR (Rt.var h0) (Tm.bind (B1 := 3) (B2 := 0) (Q := fun ds => ∃ ys : List Str, ds = [.lst (ys.map D.str)] ∧ ys.length = 4 ∧ ∀ y ∈ ys, lets y ∧ y.length ≤ 3) ?_ (fun ds hds => ?_) (by decide))
    · refine Tm.bind (B1 := 3) (B2 := 0) (Q := fun d => ∃ ys : List Str, d = .lst (ys.map D.str) ∧ ys.length = 4 ∧ ∀ y ∈ ys, lets y ∧ y.length ≤ 3) ?_ (fun d hd => ?_) (by decide)
      · refine Tm.bind (B1 := 3) (B2 := 0) (tCons (P := fun d => d = .str x) (B1 := 0) (B2 := 3) (Tm.of (Rt.var h6) rfl) (tCons (P := fun d => d = .str (cutS x none (some (c : Int)))) (B1 := 0) (B2 := 3) (Tm.of c1 rfl)
          (tCons (P := fun d => d = .str (cutS x (some (c : Int)) none)) (B1 := 0) (B2 := 3) (Tm.of c2 rfl) (tCons (B1 := 3) (B2 := 0) (jl3 hsl hs1 hs3 h0 h2) tNil (by decide)) (by decide)) (by decide)) (by decide)) (fun ds hds => ?_) (by decide)
        obtain ⟨_, _, rfl, rfl, _, _, rfl, rfl, _, _, rfl, rfl, _, _, rfl, ⟨y, rfl, hy, hy3⟩, rfl⟩ := hds
        refine Tm.need (small (show 4 ≤ 4000 by decide)) (Tm.ret ⟨[x, cutS x none (some (c : Int)), cutS x (some (c : Int)) none, y], rfl, rfl, fun z hz => ?_⟩)
        simp only [List.mem_cons, List.not_mem_nil, or_false] at hz
        have hlx := len_cps x
        rcases hz with rfl | rfl | rfl | rfl
        · exact ⟨hx, hx3⟩
        · rw [cut_to]
          refine ⟨fun e he => hx e (List.mem_of_mem_take he), ?_⟩
          rw [mk_len, List.length_take]; omega
        · rw [cut_from]
          refine ⟨fun e he => hx e (List.mem_of_mem_drop he), ?_⟩
          rw [mk_len, List.length_drop]; omega
        · exact ⟨hy, hy3⟩
      · obtain ⟨ys, rfl, h⟩ := hd
        exact Tm.bindR Rt.nil (Tm.ret ⟨ys, rfl, h⟩)
    · obtain ⟨ys, rfl, h⟩ := hds
      exact Tm.ret ⟨ys, rfl, h⟩
  · obtain ⟨ys, rfl, h4, h⟩ := hds
    refine Tm.need rfl ((pick_l (by rw [List.length_map]; omega) (by rw [List.length_map]; omega)).mono (Nat.le_refl _) fun d hd => ?_)
    obtain ⟨y, hy, rfl⟩ := List.mem_map.mp hd
    exact ⟨y, rfl, h y hy⟩
end
def jlI (ws : List Str) (s : Str) (t : List D) (δ : List Sl) : Prop := ∃ (F : Str) (a5 a6 a7 : Sl), δ = [some .pen, some (.lst (ws.map D.str)), some (.str s), some (.int 14), some (.str F), a5, a6, a7] ∧ lets F ∧ F.length + 3 * t.length ≤ 100
theorem jl_turn {ws : List Str} {s : Str} (hsl : lets s) (hs1 : 1 ≤ s.length) (hs3 : s.length ≤ 3) (hn : ws.length ≤ 100) (hw : ∀ x ∈ ws, lets x ∧ x.length ≤ 3) (d : D) (t : List D) (δ : List Sl) (hI : jlI ws s (d :: t) δ) :
    Tm 6 ((dName 5 d δ).bind (dSeq (dAsg (dCall 2 g__law_pick (dCons (dVar 0) (dCons (dOp2 addD (dOpn listD (dCons (dVar 1) dNil)) (dLst (dCons (dVar 2) dNil))) dNil))) (dName 6))
  (dSeq (dAsg (dCall 2 g__law_draw (dCons (dVar 0) (dCons (dOp2 addD (dOpn lenD (dCons (dVar 6) dNil)) (dC (.int 1))) dNil))) (dName 7))
  (dAsg (dOp2 addD (dVar 4) (dCall 2 g__law_pick (dCons (dVar 0) (dCons (dLst (dCons (dVar 6) (dCons (dSl (dVar 6) dNoPart (dPart (dVar 7))) (dCons (dSl (dVar 6) (dPart (dVar 7)) dNoPart) (dCons (dCall 4 g__law_row (dCons (dVar 0) (dCons (dOp2 addD (dVar 2) (dC (.str ("q" : Str)))) (dCons (dC (.int 0)) (dCons (dC (.int 2)) dNil))))) dNil))))) dNil)))) (dName 4))))) (fun o => ∃ ε, o = .nx ε ∧ jlI ws s t ε) := by
  obtain ⟨F, a5, a6, a7, rfl, hF, hFl⟩ := hI
  rw [List.length_cons] at hFl
  refine Tm.bindR Rt.ret ?_
  refine tAsg (B1 := 1) (B2 := 5) (jl1 hsl hs3 hn hw rfl rfl rfl) (fun d hd => ?_) (by decide)
  obtain ⟨x, rfl, hx, hx3⟩ := hd
  refine tAsg (B1 := 1) (B2 := 4) (jl2 (x := x) hx3 rfl rfl) (fun d hd => ?_) (by decide)
  obtain ⟨c, rfl, hc⟩ := hd
  refine Tm.bind (B1 := 4) (B2 := 0) (Q := fun d => ∃ G : Str, d = .str G ∧ lets G ∧ G.length + 3 * t.length ≤ 100) ?_ (fun d hd => ?_) (by decide)
  · refine Tm.bindR (Rt.var rfl) (Tm.bind (B1 := 4) (B2 := 0) (jl4 (x := x) (c := c) hsl hs1 hs3 hx hx3 hc rfl rfl rfl rfl) (fun d hd => ?_) (by decide))
    obtain ⟨y, rfl, hy, hy3⟩ := hd
    refine Tm.need (small (by omega)) (Tm.ret ⟨F ++ y, rfl, fun c hc => ?_, ?_⟩)
    · rw [app_cps] at hc
      rcases List.mem_append.mp hc with hc | hc
      · exact hF c hc
      · exact hy c hc
    · rw [len_cps, app_cps, List.length_append, ← len_cps, ← len_cps]; omega
  · obtain ⟨G, rfl, hG, hGl⟩ := hd
    exact Tm.bindR Rt.ret (Tm.ret ⟨_, rfl, G, _, _, _, rfl, hG, hGl⟩)
theorem jline_t {ws : List Str} {s : Str} (hs : good2 s) (hn : ws.length ≤ 100) (hw : ∀ x ∈ ws, lets x ∧ x.length ≤ 3) : Tm 25 (g__law_jline [.pen, .lst (ws.map D.str), .str s, .int 14]) (fun d => ∃ x : Str, d = .str x ∧ lets x ∧ x.length ≤ 14) := by
  have hs3 := hs.1.few
  have hs1 := hs.1.one
  have hsl := hs.1.let_
  refine tBody (tAsgR Rt.cC ?_)
  refine Tm.bind (B1 := 25) (B2 := 0) (Q := fun o => ∃ ε, o = .nx ε ∧ jlI ws s [] ε) ?_ (fun o ho => ?_) (by decide)
  · refine Tm.bind (B1 := 1) (B2 := 24) (Q := fun ds => ∃ n : Nat, ds = rangeD 0 n ∧ n ≤ 4) ?_ (fun ds hds => ?_) (by decide)
    · refine Tm.bind (B1 := 1) (B2 := 0) (tCons (B1 := 1) (B2 := 0) (Ly.tCall (Rt.cons (Rt.var rfl) (Rt.cons Rt.cC Rt.nil)) rfl (draw_t (by decide) (by decide))) tNil (by decide)) (fun ds hds => ?_) (by decide)
      obtain ⟨d, _, rfl, ⟨i, rfl, i0, i1⟩, rfl⟩ := hds
      refine Tm.need ⟨by omega, by omega⟩ (Tm.ret ⟨i.toNat, ?_, by omega⟩)
      congr 1
      try omega
    · obtain ⟨n, rfl, hn4⟩ := hds
      refine (forD_t (B := 6) (I := jlI ws s) _ _ ⟨"", _, _, _, rfl, (fun c hc => by
          have e : ("" : Str).cps.toList = [] := by decide +kernel
          rw [e] at hc; cases hc), ?_⟩ (jl_turn hsl hs1 hs3 hn hw)).mono (by rw [rangeD_len]; omega) (fun o ho => ho)
      have e : ("" : Str).length = 0 := by decide +kernel
      rw [e, rangeD_len]; omega
  · obtain ⟨ε, rfl, F, a5, a6, a7, rfl, hF, hl⟩ := ho
    rw [List.length_nil] at hl
    refine Tm.of (Rt.rets (Rt.sl (k := some ((14 : Nat) : Int)) (Rt.var rfl) Rt.noPart (Rt.part (Rt.var rfl)) (slS (by omega)))) ⟨_, rfl, _, rfl, ?_⟩
    rw [cut_to]
    refine ⟨fun e he => hF e (List.mem_of_mem_take he), ?_⟩
    rw [mk_len, List.length_take]; omega
end Lw
namespace Lw
open PySem L2 Ly Lt
open Lx (atI_in shaped_ints inS cutL revS uniq Ky)
theorem can_strs : ∀ {l : List Str}, (∀ x ∈ l, asc x) → PyData.canLayAll0 (l.map .str) = true
  | [], _ => rfl
  | c :: r, h => by
    show (PyData.strOk c && PyData.canLayAll0 (r.map .str)) = true
    rw [ok_asc (h c List.mem_cons_self), can_strs fun d hd => h d (List.mem_cons_of_mem _ hd)]
    rfl
theorem dep_strs : ∀ l : List Str, PyData.depthAll (l.map .str) = 0
  | [] => rfl
  | c :: r => by
    show max (PyData.depth (.str c)) (PyData.depthAll (r.map PyData.str)) = 0
    rw [dep_strs r]; rfl
theorem eqv_strs : ∀ l m : List Str, PyData.eqvAll (l.map .str) (m.map .str) = decide (l = m)
  | [], [] => rfl
  | [], _ :: _ => rfl
  | _ :: _, [] => rfl
  | a :: l, b :: m => by
    show ((a == b) && PyData.eqvAll (l.map .str) (m.map .str)) = _
    rw [eqv_strs l m, Bool.eq_iff_iff, Bool.and_eq_true, beq_iff_eq, decide_eq_true_eq, decide_eq_true_eq, List.cons.injEq]
theorem show_strs : ∀ l : List Str, PyData.showableAll (l.map .str) = true
  | [] => rfl
  | c :: r => by show (true && PyData.showableAll (r.map .str)) = true; rw [show_strs r]; rfl
theorem noD_strs : ∀ l : List Str, PyData.hasDictAll (l.map .str) = false
  | [] => rfl
  | c :: r => by show (false || PyData.hasDictAll (r.map .str)) = false; rw [noD_strs r]; rfl
theorem wei_strs : ∀ {l : List Str}, (∀ x ∈ l, x.length ≤ 1000) → PyData.weightAll (l.map .str) ≤ 1001 * l.length
  | [], _ => Nat.le_refl _
  | c :: r, h => by
    show c.cps.size + 1 + PyData.weightAll (r.map .str) ≤ _
    have h1 : c.cps.size ≤ 1000 := h c List.mem_cons_self
    have h2 := wei_strs fun d hd => h d (List.mem_cons_of_mem c hd)
    rw [List.length_cons]; omega
theorem toP_strs (l : List Str) : toP (.lst (l.map D.str)) = some (.list (l.map .str)) := by rw [toP, toPs_str]; rfl
theorem repr_strs {l : List Str} (h : ∀ x ∈ l, asc x) (hs : ∀ x ∈ l, x.length ≤ 1000) (hl : l.length ≤ 10) : Rt (reprD [.lst (l.map D.str)]) (.str (PyData.list (l.map .str)).shown) := by
  show Rt (match toP (.lst (l.map D.str)) with | some d => W.need (d.showable = true ∧ d.depth ≤ 60 ∧ d.hasDict = false ∧ d.shown.length ≤ sizeLine) (W.ret (D.str d.shown)) | none => W.stuck) _
  rw [toP_strs]
  refine Rt.need ⟨show_strs l, ?_, noD_strs l, ?_⟩ Rt.ret
  · show PyData.depthAll (l.map .str) + 1 ≤ 60; rw [dep_strs]; decide
  · have h2 := PyData.shown_le 13 (by decide) (.list (l.map .str)) (PyData.leavesShort_of_canLay0 13 _ (can_strs h) (PyData.intsShortAll_strs 13 l))
    have h3 : (PyData.list (l.map .str)).weight ≤ 1001 * l.length := wei_strs hs
    rw [sizeLine_eq]
    omega
theorem can_ints : ∀ l : List Int, PyData.canLayAll0 (l.map .int) = true
  | [] => rfl
  | c :: r => by show (true && PyData.canLayAll0 (r.map .int)) = true; rw [can_ints r]; rfl
theorem dep_ints : ∀ l : List Int, PyData.depthAll (l.map .int) = 0
  | [] => rfl
  | c :: r => by
    show max (PyData.depth (.int c)) (PyData.depthAll (r.map PyData.int)) = 0
    rw [dep_ints r]; rfl
theorem sh_14 : ((List.range 14).all fun k => PyData.showable (.int (k : Nat))) = true := by decide +kernel
theorem show_ints : ∀ {l : List Nat}, (∀ x ∈ l, x < 14) → PyData.showableAll ((l.map fun k : Nat => (k : Int)).map .int) = true
  | [], _ => rfl
  | c :: r, h => by
    show (PyData.showable (.int (c : Nat)) && PyData.showableAll ((r.map fun k : Nat => (k : Int)).map .int)) = true
    rw [show_ints fun d hd => h d (List.mem_cons_of_mem c hd), List.all_eq_true.mp sh_14 c (List.mem_range.mpr (h c List.mem_cons_self))]
    rfl
theorem noD_ints : ∀ l : List Int, PyData.hasDictAll (l.map .int) = false
  | [] => rfl
  | c :: r => by show (false || PyData.hasDictAll (r.map .int)) = false; rw [noD_ints r]; rfl
theorem wei_14 : ((List.range 14).all fun k => decide (PyData.weight (.int (k : Nat)) ≤ 10)) = true := by decide +kernel
theorem wei_ints : ∀ {l : List Nat}, (∀ x ∈ l, x < 14) → PyData.weightAll ((l.map fun k : Nat => (k : Int)).map .int) ≤ 11 * l.length
  | [], _ => Nat.le_refl _
  | c :: r, h => by
    show PyData.weight (.int (c : Nat)) + 1 + PyData.weightAll ((r.map fun k : Nat => (k : Int)).map .int) ≤ _
    have h1 := of_decide_eq_true (List.all_eq_true.mp wei_14 c (List.mem_range.mpr (h c List.mem_cons_self)))
    have h2 := wei_ints fun d hd => h d (List.mem_cons_of_mem c hd)
    rw [List.length_cons]; omega
theorem repr_ints {l : List Nat} (h : ∀ x ∈ l, x < 14) (hl : l.length ≤ 14) : Rt (reprD [.lst (l.map fun k : Nat => D.int k)]) (.str (PyData.list ((l.map fun k : Nat => (k : Int)).map .int)).shown) := by
  have e : (l.map fun k : Nat => D.int k) = (l.map fun k : Nat => (k : Int)).map D.int := by rw [List.map_map]; rfl
  rw [e]
  have e2 : toP (.lst ((l.map fun k : Nat => (k : Int)).map D.int)) = some (.list ((l.map fun k : Nat => (k : Int)).map .int)) := by rw [toP, toPs_int]; rfl
  show Rt (match toP (.lst ((l.map fun k : Nat => (k : Int)).map D.int)) with | some d => W.need (d.showable = true ∧ d.depth ≤ 60 ∧ d.hasDict = false ∧ d.shown.length ≤ sizeLine) (W.ret (D.str d.shown)) | none => W.stuck) _
  rw [e2]
  refine Rt.need ⟨show_ints h, ?_, noD_ints _, ?_⟩ Rt.ret
  · show PyData.depthAll ((l.map fun k : Nat => (k : Int)).map .int) + 1 ≤ 60; rw [dep_ints]; decide
  · have h2 := PyData.shown_le 13 (by decide) (.list ((l.map fun k : Nat => (k : Int)).map .int)) (PyData.leavesShort_of_canLay0 13 _ (can_ints _) (PyData.intsShortAll_ints _ fun n hn => by
      obtain ⟨k, hk, rfl⟩ := List.mem_map.mp hn
      have := h k hk
      omega))
    have h3 : (PyData.list ((l.map fun k : Nat => (k : Int)).map .int)).weight ≤ 11 * l.length := wei_ints h
    rw [sizeLine_eq]
    omega
theorem ne_same {a : Str} : Rt (neD (.str a) (.str a)) (.bl false) := Rt.ret.cast (by simp)
def Dd.c : Dd → Str
  | .pl ev _ _ => if ev then "Every" else "First"
  | .sw _ _ => "Swap"
  | .en fr _ => if fr then "Front" else "Behind"
def Dd.k : Dd → Str
  | .pl ev _ _ => if ev then "every" else "first"
  | .sw _ _ => "swap"
  | .en fr _ => if fr then "front" else "behind"
def Dd.T : Dd → D
  | .pl _ o n => .gt [] o n
  | .sw o n => .tup [.str o, .str n]
  | .en _ o => .tup [.str o]
theorem o_eq (e : Dd) : e.o = .obj e.c (flds (.str e.k) e.T) := by cases e <;> rfl
theorem T_P (e : Dd) : toP e.T = some (.tuple (e.ws.map .str)) := by
  cases e with
  | pl ev o n =>
    show toP (.gt [] o n) = _
    rw [toP, toPs]; rfl
  | sw o n =>
    show toP (.tup ([o, n].map D.str)) = _
    rw [toP, toPs_str]; rfl
  | en fr o =>
    show toP (.tup ([o].map D.str)) = _
    rw [toP, toPs_str]; rfl
def cls5 : List Str := ["First", "Every", "Swap", "Front", "Behind"]
theorem c5 (e : Dd) : cls5.contains e.c = true := by
  cases e with
  | pl ev o n =>
    cases ev
    · exact show cls5.contains "First" = true by decide +kernel
    · exact show cls5.contains "Every" = true by decide +kernel
  | sw o n => exact show cls5.contains "Swap" = true by decide +kernel
  | en fr o =>
    cases fr
    · exact show cls5.contains "Behind" = true by decide +kernel
    · exact show cls5.contains "Front" = true by decide +kernel
theorem k_asc (e : Dd) : asc e.k := by
  have : ∀ s ∈ (["every", "first", "swap", "front", "behind"] : List Str), (s.cps.toList.all fun c => decide (c < 128)) = true := by decide +kernel
  have h : e.k ∈ (["every", "first", "swap", "front", "behind"] : List Str) := by
    cases e with
    | pl ev o n =>
      cases ev
      · exact show ("first" : Str) ∈ (["every", "first", "swap", "front", "behind"] : List Str) by decide +kernel
      · exact show ("every" : Str) ∈ (["every", "first", "swap", "front", "behind"] : List Str) by decide +kernel
    | sw o n => exact show ("swap" : Str) ∈ (["every", "first", "swap", "front", "behind"] : List Str) by decide +kernel
    | en fr o =>
      cases fr
      · exact show ("behind" : Str) ∈ (["every", "first", "swap", "front", "behind"] : List Str) by decide +kernel
      · exact show ("front" : Str) ∈ (["every", "first", "swap", "front", "behind"] : List Str) by decide +kernel
  exact fun c hc => of_decide_eq_true (List.all_eq_true.mp (this _ h) c hc)
theorem ws_ok {e : Dd} (h : e.ok) : ∀ x ∈ e.ws, lets x ∧ x.length ≤ 2 := by
  cases e with
  | pl ev o n =>
    intro x hx
    have hx : x ∈ [o, n] := hx
    simp only [List.mem_cons, List.not_mem_nil, or_false] at hx
    rcases hx with rfl | rfl
    · exact ⟨h.1.l, h.1.two⟩
    · exact h.2
  | sw o n =>
    have hf := h.2.2.facts
    intro x hx
    have hx : x ∈ [o, n] := hx
    simp only [List.mem_cons, List.not_mem_nil, or_false] at hx
    rcases hx with rfl | rfl
    · exact ⟨h.1, hf.2.1⟩
    · exact ⟨h.2.1, by omega⟩
  | en fr o =>
    intro x hx
    have hx : x ∈ [o] := hx
    rw [List.mem_singleton] at hx
    rw [hx]
    exact ⟨h.l, h.two⟩
theorem shaped_pair {k : Str} {ts : List Str} (hk : asc k) (h : ∀ x ∈ ts, asc x) : SeqAt.shaped (.tuple [.str k, .tuple (ts.map .str)]) = true := by
  have h1 : (PyData.tuple [.str k, .tuple (ts.map .str)]).canLay0 = true := by
    show (PyData.strOk k && (PyData.canLayAll0 (ts.map .str) && true)) = true
    rw [ok_asc hk, can_strs h]; rfl
  have h2 : (PyData.tuple [.str k, .tuple (ts.map .str)]).depth ≤ 64 := by
    show max 0 (max (PyData.depthAll (ts.map .str) + 1) 0) + 1 ≤ 64
    rw [dep_strs]; decide
  exact Bool.and_eq_true_iff.mpr ⟨h1, decide_eq_true h2⟩
theorem eq_self {e : Dd} (h : e.ok) : Rt (eqD (.tup [.str e.k, e.T]) (.tup [.str e.k, e.T])) (.bl true) := by
  have ht : toP (.tup [.str e.k, e.T]) = some (.tuple [.str e.k, .tuple (e.ws.map .str)]) := by
    rw [toP, toPs, toPs, toPs, toP, T_P]; rfl
  show Rt (match toP (.tup [.str e.k, e.T]), toP (.tup [.str e.k, e.T]) with | some a, some b => W.need (SeqAt.shaped a = true ∧ SeqAt.shaped b = true) (W.ret (D.bl (PyData.eqv a b))) | _, _ => W.stuck) _
  rw [ht]
  have hs := shaped_pair (k_asc e) fun x hx => lets_asc (ws_ok h x hx).1
  refine Rt.need ⟨hs, hs⟩ (Rt.ret.cast (congrArg D.bl ?_))
  show ((e.k == e.k) && (PyData.eqvAll (e.ws.map .str) (e.ws.map .str) && true)) = true
  rw [eqv_strs, beq_self_eq_true, decide_eq_true rfl]
  rfl
theorem pair_r {e : Dd} {i : Nat} {δ : List Sl} (h : δ[i]? = some (some (.obj e.c (flds (.str e.k) e.T)))) : Rt (dTup (dCons (dFld "own_kind" (dVar i)) (dCons (dFld "own_texts" (dVar i)) dNil)) δ) (.tup [.str e.k, e.T]) :=
  Rt.tup (Rt.cons (Rt.fld (Rt.var h) (lk_kind _ _)) (Rt.cons (Rt.fld (Rt.var h) (lk_texts _ _)) Rt.nil)) (small (show 2 ≤ 4000 by decide))
theorem c_in {e : Dd} {P : Str → Prop} (h : ∀ c ∈ cls5, P c) : P e.c := h _ (by have := c5 e; simpa using this)
theorem rc_self {e : Dd} (h : e.ok) : Rt (rcD (tb_eq 2) tys_eq 3 e.o e.o) true := by
  rw [o_eq]
  show Rt (ownQ (tb_eq 2) tys_eq e.c (.obj e.c (flds (.str e.k) e.T)) (.obj e.c (flds (.str e.k) e.T))) true
  have lk : (tb_eq 2).lookup e.c = some (dBody N_LineChange_eq (b_LineChange_eq (fun _ => tb_eq 1) 1)) := lk_same (cs := cls5) (c5 e)
  have hm : Ky.c e.c ∈ tys_eq := c_in (P := fun c => Ky.c c ∈ tys_eq) (by decide +kernel)
  have hi : is_LineChange.lookup (.c e.c) = some true := c_in (P := fun c => is_LineChange.lookup (.c c) = some true) (by decide +kernel)
  unfold ownQ
  rw [lk]
  refine Rt.bind (a := Ky.c e.c) Rt.ret (Rt.need hm (Rt.bind (a := .bl true) (Rt.calm ?_) Rt.ret))
  refine Rt.bodyR (Rt.rets ((Rt.andV (b := true) (c := true) (Rt.op1 (Rt.var rfl) (Rt.bind (a := Ky.c e.c) Rt.ret (by rw [hi]; exact Rt.ret))) fun _ => Rt.op2 (pair_r (e := e) rfl) (pair_r (e := e) rfl) (eq_self h)).cast rfl))
theorem eqs_self : ∀ {es : List Dd}, (∀ e ∈ es, e.ok) → Rt (eqsBy (rcD (tb_eq 2) tys_eq 3) (es.map Dd.o) (es.map Dd.o)) true
  | [], _ => Rt.ret
  | e :: r, h => by
    show Rt ((W.same e.o e.o (rcD (tb_eq 2) tys_eq 3 e.o e.o)).bind fun b => match b with | true => eqsBy (rcD (tb_eq 2) tys_eq 3) (r.map Dd.o) (r.map Dd.o) | false => W.ret false) true
    refine Rt.bind (a := true) (fun s Q E q => ⟨fun _ => q s rfl (List.prefix_refl _), rc_self (h e List.mem_cons_self) s Q E q⟩) (eqs_self fun d hd => h d (List.mem_cons_of_mem _ hd))
theorem kept_r {es : List Dd} (h : ∀ e ∈ es, e.ok) : Rt (neX (tb_eq 2) tys_eq 4 (.lst (es.map Dd.o)) (.lst (es.map Dd.o))) (.bl false) := by
  refine Rt.bind (a := true) (Rt.calm ?_) Rt.ret
  show Rt (if (es.map Dd.o).length = (es.map Dd.o).length then eqsBy (rcD (tb_eq 2) tys_eq 3) (es.map Dd.o) (es.map Dd.o) else W.ret false) true
  rw [if_pos rfl]
  exact eqs_self h
theorem runs_ok : ∀ {es : List Dd} {x : Str}, (∀ e ∈ es, e.ok) → lets x → lets (runs es x) ∧ (runs es x).length + 2 ≤ (x.length + 2) * 2 ^ es.length
  | [], x, _, hx => ⟨hx, by show x.length + 2 ≤ _; rw [List.length_nil, Nat.pow_zero, Nat.mul_one]; exact Nat.le_refl _⟩
  | e :: r, x, h, hx => by
    have hr := run_ok (h e List.mem_cons_self) hx
    have ih := runs_ok (fun d hd => h d (List.mem_cons_of_mem _ hd)) hr.1
    refine ⟨ih.1, Nat.le_trans ih.2 ?_⟩
    rw [List.length_cons, Nat.pow_succ, Nat.mul_comm (2 ^ r.length) 2, ← Nat.mul_assoc]
    exact Nat.mul_le_mul_right _ (by omega)
end Lw
namespace Lw
open PySem L2 Ly Lt
open Lx (atI_in shaped_ints inS cutL revS uniq Ky)
theorem was_t {s : Str} (hs : good2 s) {δ : List Sl} (h1 : δ[1]? = some (some .pen)) (h3 : δ[3]? = some (some (.str s))) :
    Tm 5 (dCall 2 g__law_pick (dCons (dVar 1) (dCons (dLst (dCons (dCall 4 g__law_row (dCons (dVar 1) (dCons (dVar 3) (dCons (dC (.int 1)) (dCons (dC (.int 3)) dNil))))) (dCons (dOp2 mulUD (dOp2 ixD (dVar 3) (dC (.int 0))) (dC (.int 2))) (dCons (dOp2 addD (dSl (dVar 3) dNoPart (dPart (dC (.int 2)))) (dSl (dVar 3) dNoPart (dPart (dC (.int 1))))) (dCons (dSl (dVar 3) dNoPart (dPart (dC (.int 1)))) dNil))))) dNil)) δ)
      (fun d => ∃ w : Str, d = .str w ∧ lets w ∧ 1 ≤ w.length ∧ w.length ≤ 3) := by
  refine Tm.bind (B1 := 4) (B2 := 1) (Q := fun ds => ∃ ys : List Str, ds = [.pen, .lst (ys.map D.str)] ∧ ys.length = 4 ∧ ∀ w ∈ ys, lets w ∧ 1 ≤ w.length ∧ w.length ≤ 3) ?_ (fun ds hds => ?_) (by decide)
  · refine Tm.bindR (Rt.var h1) (Tm.bind (B1 := 4) (B2 := 0) (Q := fun ds => ∃ ys : List Str, ds = [.lst (ys.map D.str)] ∧ ys.length = 4 ∧ ∀ w ∈ ys, lets w ∧ 1 ≤ w.length ∧ w.length ≤ 3) ?_ (fun ds hds => ?_) (by decide))
    · refine Tm.bind (B1 := 4) (B2 := 0) (Q := fun d => ∃ ys : List Str, d = .lst (ys.map D.str) ∧ ys.length = 4 ∧ ∀ w ∈ ys, lets w ∧ 1 ≤ w.length ∧ w.length ≤ 3) ?_ (fun d hd => ?_) (by decide)
      · obtain ⟨a, b, r, e, hab, ha, hb, hr⟩ := hs.out
        have hl : s.length ≤ 4000 := by have := hs.1.few; omega
        have hc : s.cps.toList = a :: b :: r := by rw [e]
        have cut2 : Rt (dSl (dVar 3) dNoPart (dPart (dC (.int 2))) δ) (.str ⟨#[a, b]⟩) := (Rt.sl (k := some ((2 : Nat) : Int)) (Rt.var h3) Rt.noPart (Rt.part Rt.cC) (slS hl)).cast (by rw [cut_to, hc]; rfl)
        have cut1 : Rt (dSl (dVar 3) dNoPart (dPart (dC (.int 1))) δ) (.str ⟨#[a]⟩) := (Rt.sl (k := some ((1 : Nat) : Int)) (Rt.var h3) Rt.noPart (Rt.part Rt.cC) (slS hl)).cast (by rw [cut_to, hc]; rfl)
        have i0 : Rt (dOp2 ixD (dVar 3) (dC (.int 0)) δ) (.str ⟨#[a]⟩) := Rt.op2 (Rt.var h3) Rt.cC (ixS hl (at_nat (k := 0) (by rw [hc]; rfl)))
        refine Tm.bind (B1 := 4) (B2 := 0) (tCons (P := fun d => ∃ w : Str, d = .str w ∧ lets w ∧ 1 ≤ w.length ∧ w.length ≤ 3) (B1 := 4) (B2 := 0) ?_ (tCons (P := fun d => d = .str ⟨#[a, a]⟩) (B1 := 0) (B2 := 0) (Tm.of (Rt.op2 i0 Rt.cC (Rt.need (twice_ok a) Rt.ret)) (by rw [twice]))
          (tCons (P := fun d => d = .str (⟨#[a, b]⟩ ++ ⟨#[a]⟩)) (B1 := 0) (B2 := 0) (Tm.of (Rt.op2 cut2 cut1 (Rt.need (small (show 2 + 1 ≤ 4000 by decide)) Rt.ret)) rfl) (tCons (P := fun d => d = .str ⟨#[a]⟩) (B1 := 0) (B2 := 0) (Tm.of cut1 rfl) tNil (by decide)) (by decide)) (by decide)) (by decide)) (fun ds hds => ?_) (by decide)
        · refine Ly.tCall (Rt.cons (Rt.var h1) (Rt.cons (Rt.var h3) (Rt.cons Rt.cC (Rt.cons Rt.cC Rt.nil)))) rfl ((row_t (lo := 1) (hi := 3) hs.1.one (by have := hs.1.few; omega) (by decide) (by decide)).mono (by decide) fun d hd => ?_)
          obtain ⟨w, rfl, w1, w2, w3⟩ := hd
          exact ⟨w, rfl, sgn_l hs.1.let_ w3, w1, w2⟩
        · obtain ⟨_, _, rfl, ⟨w, rfl, hw⟩, _, _, rfl, rfl, _, _, rfl, rfl, _, _, rfl, rfl, rfl⟩ := hds
          refine Tm.need (small (show 4 ≤ 4000 by decide)) (Tm.ret ⟨[w, ⟨#[a, a]⟩, ⟨#[a, b]⟩ ++ ⟨#[a]⟩, ⟨#[a]⟩], rfl, rfl, fun z hz => ?_⟩)
          simp only [List.mem_cons, List.not_mem_nil, or_false] at hz
          rcases hz with rfl | rfl | rfl | rfl
          · exact hw
          · exact ⟨two_l ha ha, show 1 ≤ 2 by decide, show 2 ≤ 3 by decide⟩
          · refine ⟨fun c hc => ?_, show 1 ≤ 3 by decide, show 3 ≤ 3 by decide⟩
            rw [app_cps] at hc
            rcases List.mem_append.mp hc with hc | hc
            · exact two_l ha hb c hc
            · exact one_l ha c hc
          · exact ⟨one_l ha, show 1 ≤ 1 by decide, show 1 ≤ 3 by decide⟩
      · obtain ⟨ys, rfl, h⟩ := hd
        exact Tm.bindR Rt.nil (Tm.ret ⟨ys, rfl, h⟩)
    · obtain ⟨ys, rfl, h⟩ := hds
      exact Tm.ret ⟨ys, rfl, h⟩
  · obtain ⟨ys, rfl, h4, h⟩ := hds
    refine Tm.need rfl ((pick_l (by rw [List.length_map]; omega) (by rw [List.length_map]; omega)).mono (Nat.le_refl _) fun d hd => ?_)
    obtain ⟨w, hw, rfl⟩ := List.mem_map.mp hd
    exact ⟨w, rfl, h w hw⟩
theorem due_r {x w : Str} (hx : x.length ≤ 14) (hw : w.length ≤ 3) {δ : List Sl} (h11 : ∀ y, ((wipeD δ [13]).set 13 y)[11]? = some (some (.str x))) (h11' : δ[11]? = some (some (.str x))) (h4 : ∀ y, ((wipeD δ [13]).set 13 y)[4]? = some (some (.str w))) (h13 : ∀ y, ((wipeD δ [13]).set 13 y)[13]? = some y) :
    Rt (dLc (dIR1 (dCons (dOpn lenD (dCons (dVar 11) dNil)) dNil)) (dName 13) (dTest (dOp2 eqD (dSl (dVar 11) (dPart (dVar 13)) (dPart (dOp2 addD (dVar 13) (dOpn lenD (dCons (dVar 4) dNil))))) (dVar 4))) (dVar 13) [13] δ) (.lst ((dueL w.cps.toList x.cps.toList 0).map fun k : Nat => D.int k)) := by
  refine rLc (rIR (k := x.length) (Rt.cons (Rt.opn (Rt.cons (Rt.var h11') Rt.nil) (len_s (by omega))) Rt.nil) (by omega) (by omega)) ?_
  rw [rangeD_eq, due_range, ← len_cps]
  refine (lcM (fun (i : Nat) => D.int (0 + i)) (fun i => atB w.cps.toList x.cps.toList i) (fun i => D.int i) (List.range (x.length : Int).toNat) 0 (small (by rw [List.length_range]; omega)) (fun i hi => ?_) (fun i hi _ => ?_)).cast (by rw [Int.toNat_natCast])
  · refine (Rt.test (Rt.op2 (Rt.sl (l := some (i : Int)) (k := some ((i + w.length : Nat) : Int)) (Rt.var (h11 _)) (Rt.part ((Rt.var (h13 _)).cast (congrArg D.int (by omega)))) (Rt.part (Rt.op2 (Rt.var (h13 _)) (Rt.opn (Rt.cons (Rt.var (h4 _)) Rt.nil) (len_s (by omega))) (Rt.ret.cast (congrArg D.int (by omega))))) (slS (by omega))) (Rt.var (h4 _)) Rt.ret)).cast ?_
    rw [sub_mid, atB_sub]
  · exact (Rt.var (h13 _)).cast (congrArg D.int (by omega))
theorem due_lt {x w : Str} {n : Nat} (hx : x.length ≤ n) : ∀ k ∈ dueL w.cps.toList x.cps.toList 0, k < n := fun k hk => by
  rw [due_range, List.mem_filter, List.mem_range, ← len_cps] at hk
  omega
theorem due_len (x w : Str) : (dueL w.cps.toList x.cps.toList 0).length ≤ x.length := by
  rw [due_range]
  refine Nat.le_trans (List.length_filter_le _ _) ?_
  rw [List.length_range, ← len_cps]
  exact Nat.le_refl _
theorem law_t (ns : List Int) : Tm 2856 (b_law (some (.sct ns) :: some .pen :: List.replicate 13 none)) (fun o => o = .rt (.bl true)) := by
  refine Tm.bind (B1 := 2856) (B2 := 0) (Q := fun o => ∃ ε, o = .nx ε) ?_ (fun o ho => by obtain ⟨ε, rfl⟩ := ho; exact Tm.of (Rt.rets Rt.cC) rfl) (by decide)
  refine Tm.bindR (rIR (k := 12) (Rt.cons Rt.cC Rt.nil) (by decide) (by decide)) ?_
  refine (forD_t (B := 238) (I := fun t δ => ∃ a2 a3 a4 a5 a6 a7 a8 a9 a10 a11 a12 a13 a14, δ = [some (.sct ns), some .pen, a2, a3, a4, a5, a6, a7, a8, a9, a10, a11, a12, a13, a14]) _ _ ⟨_, _, _, _, _, _, _, _, _, _, _, _, _, rfl⟩ (fun d t δ hI => ?_)).mono (by rw [rangeD_len]; decide) (fun o ho => by obtain ⟨ε, rfl, h⟩ := ho; exact ⟨_, rfl⟩)
  obtain ⟨a2, a3, a4, a5, a6, a7, a8, a9, a10, a11, a12, a13, a14, rfl⟩ := hI
  refine Tm.bindR Rt.ret ?_
  refine tAsg (B1 := 4) (B2 := 234) (Ly.tCall (Rt.cons (Rt.var rfl) Rt.nil) rfl few_t) (fun v hv => ?_) (by decide)
  obtain ⟨s, rfl, hs⟩ := hv
  refine tAsg (B1 := 5) (B2 := 229) (was_t hs rfl rfl) (fun v hv => ?_) (by decide)
  obtain ⟨w, rfl, hwl, hw1, hw3⟩ := hv
  refine tAsg (B1 := 29) (B2 := 200) (Ly.tCall (Rt.cons (Rt.var rfl) (Rt.cons (Rt.var rfl) (Rt.cons Rt.cC (Rt.cons Rt.cC Rt.nil)))) rfl (jdeeds_t hs)) (fun v hv => ?_) (by decide)
  obtain ⟨es, rfl, hn, hes⟩ := hv
  have hwl2 := wss_len es
  have hws : ∀ x ∈ w :: es.flatMap Dd.ws, lets x ∧ x.length ≤ 3 := fun x hx => by
    rcases List.mem_cons.mp hx with rfl | hx
    · exact ⟨hwl, hw3⟩
    · obtain ⟨e, he, hx⟩ := List.mem_flatMap.mp hx
      have := ws_ok (hes e he) x hx
      exact ⟨this.1, by omega⟩
  refine Tm.bindR (Rt.par (Rt.cons (Rt.call (Rt.cons (Rt.var rfl) Rt.nil) rfl (jmade_r hes (by omega))) (Rt.cons (words_r (w := w) (by omega) rfl rfl (show 8 < 15 by decide)) Rt.nil))) ?_
  refine tAsgR (Rt.opn (Rt.cons (Rt.var rfl) Rt.nil) Rt.ret) ?_
  refine Tm.bindR (rIR (k := 8) (Rt.cons Rt.cC Rt.nil) (by decide) (by decide)) ?_
  refine (forD_t (B := 25) (I := fun t δ => ∃ a2 a8 a10 a11 a12 a13 a14, δ = [some (.sct ns), some .pen, a2, some (.str s), some (.str w), some (.lst (es.map Dd.d)), some (.lst (es.map Dd.o)), some (.lst ((w :: es.flatMap Dd.ws).map D.str)), a8, some (.lst (es.map Dd.o)), a10, a11, a12, a13, a14]) _ _ ⟨_, _, _, _, _, _, _, rfl⟩ (fun d t δ hI => ?_)).mono (by rw [rangeD_len]; decide) (fun o ho => by
    obtain ⟨ε, rfl, a2, a8, a10, a11, a12, a13, a14, rfl⟩ := ho
    exact ⟨_, rfl, _, _, _, _, _, _, _, _, _, _, _, _, _, rfl⟩)
  obtain ⟨a2, a8, a10, a11, a12, a13, a14, rfl⟩ := hI
  refine Tm.bindR Rt.ret ?_
  refine tAsg (B1 := 25) (B2 := 0) (Ly.tCall (Rt.cons (Rt.var rfl) (Rt.cons (Rt.var rfl) (Rt.cons (Rt.var rfl) (Rt.cons Rt.cC Rt.nil)))) rfl (jline_t hs (by rw [List.length_cons]; omega) hws)) (fun v hv => ?_) (by decide)
  obtain ⟨x, rfl, hxl, hx14⟩ := hv
  refine tAsgR (due_r (x := x) (w := w) hx14 hw3 (fun _ => rfl) rfl (fun _ => rfl) (fun _ => rfl)) ?_
  have hlt := due_lt (w := w) hx14
  have hdl : (dueL w.cps.toList x.cps.toList 0).length ≤ 14 := Nat.le_trans (due_len x w) hx14
  have hb : (x.length + 2) * 2 ^ es.length ≤ 1000 := Nat.le_trans (Nat.mul_le_mul (show x.length + 2 ≤ 16 by omega) (Nat.pow_le_pow_right (by decide) hn)) (by decide)
  have hr := runs_ok hes hxl
  have hrs : ∀ z ∈ [runs es x, runs es x], asc z := fun z hz => by
    simp only [List.mem_cons, List.not_mem_nil, or_false, or_self] at hz
    rw [hz]; exact lets_asc hr.1
  have hrl : ∀ z ∈ [runs es x, runs es x], z.length ≤ 1000 := fun z hz => by
    simp only [List.mem_cons, List.not_mem_nil, or_false, or_self] at hz
    rw [hz]; omega
  refine tSeqF (Rt.orF (Rt.test (Rt.op2 (Rt.opn (Rt.cons (Rt.call (Rt.cons (Rt.var rfl) (Rt.cons (Rt.var rfl) Rt.nil)) rfl (places_r hw1 (by omega))) Rt.nil) (repr_ints hlt hdl)) (Rt.opn (Rt.cons (Rt.var rfl) Rt.nil) (repr_ints hlt hdl)) ne_same))
    (Rt.test (Rt.op2 (Rt.opn (Rt.cons (Rt.bind (Rt.cons (Rt.var rfl) (Rt.cons (Rt.var rfl) Rt.nil)) (Rt.need ⟨rfl, rfl⟩ (places_r (x := x) (o := w) hw1 (by omega)))) Rt.nil) (repr_ints hlt hdl)) (Rt.opn (Rt.cons (Rt.var rfl) Rt.nil) (repr_ints hlt hdl)) ne_same))) ?_
  refine tAsgR (Rt.lst (Rt.cons (Rt.call (Rt.cons (Rt.var rfl) (Rt.cons (Rt.var rfl) Rt.nil)) rfl (all_l hes hxl hb)) (Rt.cons (Rt.bind (Rt.cons (Rt.var rfl) (Rt.cons (Rt.opn (Rt.cons (Rt.var rfl) Rt.nil) Rt.ret) Rt.nil)) (Rt.need ⟨rfl, rfl⟩ (all_t hes hxl hb))) Rt.nil)) (small (show 2 ≤ 4000 by decide))) ?_
  refine tIfF (Rt.orF (Rt.test (Rt.op2 (Rt.opn (Rt.cons (Rt.var rfl) Rt.nil) (repr_strs hrs hrl (show 2 ≤ 10 by decide))) (Rt.opn (Rt.cons (Rt.op2 (Rt.lst (Rt.cons (Rt.call (Rt.cons (Rt.var rfl) (Rt.cons (Rt.var rfl) Rt.nil)) rfl (jdone_r hes hxl hb)) Rt.nil) (small (show 1 ≤ 4000 by decide))) Rt.cC (Rt.need ⟨by decide, by decide, small (show 2 ≤ 4000 by decide)⟩ Rt.ret)) Rt.nil) (repr_strs hrs hrl (show 2 ≤ 10 by decide))) ne_same))
    (Rt.test (Rt.op2 (Rt.var rfl) (Rt.var rfl) (kept_r hes)))) ?_
  exact Tm.of Rt.next ⟨_, rfl, _, _, _, _, _, _, _, rfl⟩
theorem plain (ns : List Int) : (b_law (some (.sct ns) :: some .pen :: List.replicate 13 none)).wp ⟨2 ^ 60, []⟩ (fun _ o => o = .rt (.bl true)) (fun _ _ => False) := (law_t ns).wp (show 2856 ≤ 2 ^ 60 by decide)
end Lw
set_option maxHeartbeats 0
open PySem PySem.W PySem.Calls PyProof.Rows
theorem PySem.Challenge.cw_linestream_k07_places_and_rows_of_change_holds : PySem.Challenge.rw_linestream_k07_places_and_rows_of_change.Holds := by
  w_on; o_law
  refine HandSHeadRun.head_any (r := OpenLaw.row PySem.Challenge.rw_linestream_k07_places_and_rows_of_change) (q := view (OpenLaw.row PySem.Challenge.rw_linestream_k07_places_and_rows_of_change).prog [34]) (H := Lw.hk) (ob := Lw.ob) (M := 12000) (loose := Lw.names) (d := HandSHeadRun.topDef (OpenLaw.row PySem.Challenge.rw_linestream_k07_places_and_rows_of_change).prog 34) (kwd := []) Lw.ob_eq
    (by kernel_rfl) (fun s => by kernel_rfl) Lw.run (by kernel_rfl) (by kernel_rfl) (by kernel_rfl) (by rfl) (by first | assumption | decide +kernel) (by decide +kernel) ⟨rfl, rfl, rfl, rfl, rfl, by decide +kernel⟩ ?hw ?hc
  case hw => w_witness2
  case hc =>
    refine Ly.walk_T (l := PySem.Challenge.rw_linestream_k07_places_and_rows_of_change) (n := 63) (k := 50) (x := "_law_script") (CX := fun w => L2.CX PySem.Challenge.pw_linestream_k07_places_and_rows_of_change w) rfl (by decide) (by kernel_rfl) ⟨rfl, by decide, by decide⟩ ?F (fun _ _ _ _ _ ⟨_, _, _, _, _, _, _, _, _, _, _, _, z⟩ => z)
    intro w mg fa h Y G hmg0
    obtain ⟨K, KX, c, tY, smY⟩ := Y
    have hmg : mg ("law" : PySem.Str) = some (.ref fa) := by
      have e : (HandSHeadRun.topDef (OpenLaw.row PySem.Challenge.rw_linestream_k07_places_and_rows_of_change).prog 34).name = ("law" : PySem.Str) := by kernel_rfl
      rw [← e]
      exact hmg0
    obtain ⟨fd, F⟩ := Lw.d_law0 c
    have e := hmg.symm.trans (Lw.gl_law c ⟨h, KX, G⟩)
    cases e
    have b := L2.FunD.bindsA (ps := ["_law_script"]) F fun _ _ _ _ _ _ us hl => match us, hl with | [_], _ => rfl
    exact ⟨K, fd, Ly.spLaw K, KX, tY, smY, fun s v => b s [v] rfl, fun H a ns hl hT hS => ⟨a, ns, rfl, hS, hT, fun _ => rfl⟩, fun base _ _ tb sm => Lw.fg_law ⟨c, ⟨h, KX, G⟩, tb, sm⟩ F Lw.plain⟩
