import PyProof.Rows.All
import Wide.All
import OpenK.AllK
import Wide.FinOn
import HandS.ForMost
import HandS.HeadHook2
import HandS.Flow
import HandS.Defaults
import HandS.WordsExc
import HandS.Comp
import HandS.IsInst
import HandS.StrMore
import PyProof.ReprRoads
import KE.KSuper
import HandS.Property
import HandS.HeadEnd
import PyProof.CallFns
import HandS.Strs
import HandS.Style
import KE.DataMinMax
import PyProof.ListOps
import PyProof.Rows.CallKwBuiltin
import HandS.Dict
import HandS.More
import HandS.Head2
import HandS.HeadNt
import HandS.ReplaceLit
import HandS.ReplaceDef
import HandS.Iter
import HandS.TryOnly
import KE.KRevSl
import HandS.SetTxt0
import HandS.Set
import PyProof.Rows.SortStr
import HandS.SetFor
import HandS.Lambda
import HandS.EndTab
import HandS.ExcInit
import HandS.Slots
import KE.KExcSuper
import HandS.ExcIs
import HandS.ExcField
import PyProof.StrBlock2
import KE.KExcIs
import PyProof.InstNe
import HandS.MakeKwOnly
import OpenK.KCls
import PyProof.Rows.Exc
import KE.KStateDown
import HandS.Head0
import HandS.Head1
import PySem.Challenge.RW_linestream_k47_whole_long_texts_cut
import HandS.Zip
import PyProof.StrLawsIn
import PyProof.StrLaws
import HandS.OwnEq
import PyProof.EqKinds
import PyProof.NeKinds
import KE.GoesEnumKw
import HandS.Star
import HandS.SlotsOwn
import HandS.TupAny
import HandS.Deep
import PyProof.LongRange
import PyProof.P3Eq
import PyProof.ReprLen
import PyProof.FitsInt
set_option Elab.async false
set_option linter.all false
set_option maxRecDepth 100000
set_option maxHeartbeats 2000000
namespace Lx
open PySem L2
namespace W
end W
end Lx
set_option maxHeartbeats 4000000
namespace Lx
open PySem PySem.Spec L2 PyProof.Rows
inductive Ky where
  | t (n : String) | c (x : Str)
deriving DecidableEq
def vTy (K : PySem.W.Frag) : Ky → Value
  | .t s => .type s
  | .c c => .ref (He.ga K c)
end Lx
namespace Lx
open PySem PySem.Spec L2 PyProof.Rows He
def ppA (K : PySem.W.Frag) (x f : Str) : Addr := ma K (ga K x) f
def pgA (K : PySem.W.Frag) (x f : Str) : Addr := match PySem.W.recIn K (ppA K x f) "property" with
  | some (.ref g :: _) => g
  | _ => 0
inductive Pth where
  | fn (x : Str) | me (c m : Str) | pr (c f : Str) | cm (c m : Str)
def Pth.a (K : PySem.W.Frag) : Pth → Addr
  | .fn x => ga K x
  | .me c m => ma K (ga K c) m
  | .pr c f => pgA K c f
  | .cm c m => He5.wf K (ga K c) "classmethod" m
inductive Fm where
  | he (f : Fa)
  /-- class x's method m is class y's -/
  | meth (x m y : Str)
  /-- class x's property f is class y's -/
  | prop (x f y : Str)
  /-- class x is made by class y's init -/
  | ini (x y : Str)
  /-- in an init of class d, for an object of class x, super().__init__ is class y's -/
  | sup (x d y : Str)
  | own (x : Str)
  | isi (t c : Ky) (b : Bool)
  | top
def eqB (a b : Option Bool) : Bool := decide (a = b)
def Fm.ok (K : PySem.W.Frag) : Fm → Bool
  | .he f => f.ok K
  | .meth x m y => eqO (PySem.W.findIn K (.ref (ga K x)) m) (some (some (.ref (ma K (ga K y) m)))) && (PySem.W.isFn K (.ref (ma K (ga K y) m)) && PySem.W.keepIn K (.ref (ma K (ga K y) m)))
  | .prop x f y => eqO (PySem.W.findIn K (.ref (ga K x)) f) (some (some (.ref (ppA K y f)))) && (eqO (PySem.W.specialIn K (.ref (ppA K y f)) "__get__") (some (some (.builtin "property.__get__"))) && (eqB (PySem.W.takesIn K (.ref (ppA K y f))) (some true) &&
      (match PySem.W.recIn K (ppA K y f) "property" with | some (.ref _ :: _) => true | _ => false)))
  | .ini x y => PySem.W.makesIn K (ga K x) && (eqO (PySem.W.findIn K (.ref (ga K x)) "__init__") (some (some (.ref (ma K (ga K y) "__init__")))) && (PySem.W.isFn K (.ref (ma K (ga K y) "__init__")) && PySem.W.keepIn K (.ref (ga K x))))
  | .sup x d y => eqB (PySem.W.mroIn K (ga K x) (.ref (ga K d))) (some true) && (eqO (PySem.W.ks_superIn K (ga K x) (ga K d) "__init__") (some (some (.ref (ma K (ga K y) "__init__")))) && (decide (PySem.W.typeIn K (.ref (ma K (ga K y) "__init__")) = some (.type "function")) && PySem.W.fnIn K (ma K (ga K y) "__init__")))
  | .own x => eqO (PySem.W.findIn K (.ref (ga K x)) "__class__") (some (some (.builtin "object.__class__"))) && (eqO (PySem.W.specialIn K (.builtin "object.__class__") "__get__") (some (some (.builtin "getset_descriptor.__get__"))) && (eqB (PySem.W.takesIn K (.builtin "object.__class__")) (some true) && eqB (PySem.W.mroIn K (ga K x) (.type "object")) (some true)))
  | .isi t c b => eqB (PySem.W.kitOne K (vTy K t) (vTy K c)) (some b)
  | .top => eqO (PySem.W.nsIn K mainGlobals "super") (some none) && eqO (PySem.W.nsIn K cStatics "thirdparty.any") (some none)
structure DefM where
  at_ : Pth
  name : Str
  qual : Str
  params : Arguments
  body : List Stmt
  scope : Scope
  /-- the class of a def that says super() -/
  sup : Option Str := none
  dfl : List V := []
  kwd : List (Str × V) := []
abbrev FnM : Type := Option (Str × Str × Arguments × FuncBody × Scope × Addr × Addr)
def fnM (K : PySem.W.Frag) (a : Addr) : FnM := match K.lookup a with
  | some ⟨_, _, .func fd, _⟩ => some (fd.name, fd.qualname, fd.params, fd.body, fd.scope, fd.globals, fd.builtins)
  | _ => none
def DefM.val (d : DefM) : FnM := some (d.name, d.qual, d.params, .stmts d.body, d.scope, mainGlobals, builtinsNs)
def strB (file : Str) : Option Value → Bool
  | some (.str f _) => file == f
  | _ => false
def cloB (K : PySem.W.Frag) (file : Str) (fd : FuncData) : Option Str → Bool
  | none => (match fd.closure with | [] => true | _ => false)
  | some d => (match fd.closure with
    | [(x, cc)] => decide (x = "__class__") && ((match K.lookup cc with | some ⟨_, _, .cell (some (.ref D)), _⟩ => decide (D = ga K d) | _ => false) &&
      ((match fd.code with | .ref cda => (match K.lookup cda with | some ⟨_, _, .fields vs, _⟩ => strB file vs[2]? | _ => false) | _ => false) && (PySem.W.clsIn K (ga K d)).isSome))
    | _ => false)
def DefM.ok (K : PySem.W.Frag) (file : Str) (d : DefM) : Bool := PySem.W.keepIn K (.ref (d.at_.a K)) && (match K.lookup (d.at_.a K) with
  | some ⟨_, _, .func fd, _⟩ => PySem.W.codeIn K fd.code d.qual && ((dflB K fd.defaults d.dfl && kwdB K fd.kwdefaults d.kwd) && cloB K file fd d.sup)
  | _ => false)
end Lx
set_option maxHeartbeats 2000000
namespace Ly
open PySem L2
def tabOf (K : PySem.W.Frag) : Addr × Obj → Option (Addr × Addr × Str)
  | (_, ⟨_, _, .func fd, _⟩) => if fd.scope.names.any (fun y => decide (y.2 = .cell)) || decide (fd.name = "range_in") then (match fd.code with
    | .ref c => (match K.lookup c with
      | some ⟨_, _, .fields vs, _⟩ => (match (vs[11]? : Option Value) with
        | some (.ref P) => some (c, P, (PyProof.Rows.envOfC fd.qualname fd.scope 0 0 .none).qual ++ (if fd.name = "range_in" then "<genexpr>" else "<lambda>"))
        | _ => none)
      | _ => none)
    | _ => none) else none
  | _ => none
def tabs3 (K : PySem.W.Frag) : List (Addr × Addr × Str) := K.filterMap (tabOf K)
def tabsOf (K : PySem.W.Frag) : List (Addr × Str) := (tabs3 K).map (·.2)
end Ly
set_option maxHeartbeats 4000000
namespace Ly
open PySem PySem.Spec L2 PyProof.Rows He
def coA (K : PySem.W.Frag) (f : Addr) : Addr := match K.lookup f with
  | some ⟨_, _, .func fd, _⟩ => (match fd.code with | .ref c => c | _ => 0)
  | _ => 0
def tbA (K : PySem.W.Frag) (f : Addr) : Addr := match K.lookup (coA K f) with
  | some ⟨_, _, .fields vs, _⟩ => (match (vs[11]? : Option Value) with | some (.ref P) => P | _ => 0)
  | _ => 0
end Ly
namespace Ly
open PySem PySem.Spec L2 PyProof.Rows He
open PySem.W (Looks readsIn findIn subIn clsIn isFn looks_findIn looks_subIn looks_clsIn looks_typeIn looks_opaque looks_hook check_slot)
section
variable {prog : Program} {w : World} {A : Around} {E : Value → Shared → Prop} {s : Shared} {K : PySem.W.Frag}
def missB (K : PySem.W.Frag) (C : Addr) (name : Str) : Bool := decide (name.length ≤ sizeLine) && (readsIn K C (.type "type") && ((findIn K (.type "type") name == some none) && ((findIn K (.ref C) name == some none) && (match clsIn K C with
  | some cd => decide (cd.name.cps.foldl (fun k c => k + (Str.utf8Of c).length) 0 ≤ 100) && decide (((s!"type object '{cd.name.toString}' has no attribute '" : Str) ++ name ++ "'").length ≤ sizeLine)
  | none => false))))
def opB (K : PySem.W.Frag) (C f : Addr) (nm : String) : Bool := (findIn K (.ref C) (dunder nm) == some (some (.ref f))) && ((findIn K (.ref C) (dunderR nm) == some none) && (match clsIn K C with
  | some cd => cd.mro.head? == some (.ref C)
  | none => false))
def rightB (K : PySem.W.Frag) (C D : Addr) (nm : String) : Bool := (D == C) || ((subIn K (.ref D) (.ref C) == some false) || ((subIn K (.ref D) (.ref C) == some true) && missB K D (dunderR nm)))
end
end Ly
namespace Ly
open PySem PySem.Spec L2 PyProof.Rows He
open Lx (Ky vTy Fm DefM FnM fnM eqB)
def oexB (K : PySem.W.Frag) (C : Addr) : Bool := match K.lookup C with
  | some ⟨.type t, _, .cls cd, sl⟩ => (match cd.mro, sl.toList with
    | .ref C' :: bm, [_, _, _, _, some (.builtin n), _] => decide (t = "type") && (decide (C' = C) && (decide (n = "ValueError.__new__") && (!cd.hasDel && (cd.hasDict && PySem.HandSPX.refsVE bm))))
    | _, _ => false)
  | _ => false
inductive Fy where
  | m (f : Fm)
  | nf (cs : List Str) (ts : List Ky)
  | eq (x y : Str)
  | exc (x fld : Str)
  | cat (x fld : Str)
  | lam (x q : Str)
  | ob (x : Str) (B newId initId : String) (tl : List String)
  | xfl (x fld : Str)
  | xis (x : Str)
  | xki (x : Str) (t : Ky) (b : Bool)
  | ex0 (x : Str) (newId : String) (tl : List String)
  | ns (cs : List Str)
  | exm (x y : Str) (b : Bool)
  | scl (x : Str)
  | slot (x f : Str) (i : Nat)
  | nb
  | rz (x : Str)
  | cm (x m : Str)
  | tt (x : Str) (xss : List (List Str))
  | op (x y : Str) (nm : String) (mn : Str)
  | rop (x z : Str) (nm : String)
  | sub (x y : Str) (b : Bool)
  | dm (x y nm : Str)
def obB (K : PySem.W.Frag) (C : Addr) (newId : String) (tl : List String) : Bool := match K.lookup C with
  | some ⟨.type t, _, .cls cd, sl⟩ => (match cd.mro, sl.toList with
    | .ref C' :: bm, [_, _, _, _, some (.builtin n), _] => decide (t = "type") && (decide (C' = C) && (decide (n = newId) && (!cd.hasDel && (cd.hasDict && (bm == tl.map Value.type)))))
    | _, _ => false)
  | _ => false
def strsB : List Value → List Str → Bool
  | [], [] => true
  | .str x _ :: r, y :: s => decide (x = y) && strsB r s
  | _, _ => false
def tupB (K : PySem.W.Frag) (v : Value) (f : List Value → Bool) : Bool := match v with
  | .ref a => (match K.lookup a with
    | some ⟨.type t, _, .seq its _, _⟩ => decide (t = "tuple") && (decide (its.size ≤ 64) && f its.toList)
    | _ => false)
  | _ => false
def tupsB (K : PySem.W.Frag) : List Value → List (List Str) → Bool
  | [], [] => true
  | v :: r, y :: s => tupB K v (fun l => strsB l y) && tupsB K r s
  | _, _ => false
def Fy.ok (K : PySem.W.Frag) : Fy → Bool
  | .m f => f.ok K
  | .nf cs ts => cs.all fun x => ts.all fun t => PySem.W.notFirst K (ga K x) (vTy K t)
  | .eq x y => He.eqO (PySem.W.findIn K (.ref (ga K x)) "__eq__") (some (some (.ref (ma K (ga K y) "__eq__")))) && (PySem.W.isFn K (.ref (ma K (ga K y) "__eq__")) && (He.eqO (PySem.W.findIn K (.ref (ga K x)) "__ne__") (some (some (.builtin "object.__ne__"))) && eqB (PySem.W.subIn K (.ref (ga K x)) (.type "object")) (some true)))
  | .exc x fld => oexB K (ga K x) && (He.eqO (PySem.W.findIn K (.ref (ga K x)) "__setattr__") (some (some (.builtin "object.__setattr__"))) && (eqB (PySem.W.subIn K (.ref (ga K x)) (.type "BaseException")) (some true) && (decide (PySem.W.typeIn K (.ref (ga K x)) = some (.type "type")) && (PySem.W.keepIn K (.ref (ga K x)) &&
      (He.eqO (PySem.W.ks_superIn K (ga K x) (ga K x) "__init__") (some (some (.builtin "ValueError.__init__"))) && (eqB (PySem.W.mroIn K (ga K x) (.ref (ga K x))) (some true) && (eqB (PySem.W.subIn K (.ref (ga K x)) (.type "ValueError")) (some true) && (He.eqO (PySem.W.findIn K (.ref (ga K x)) fld) (some none) &&
      (He.eqO (PySem.W.findIn K (.ref (ga K x)) "__init__") (some (some (.ref (ma K (ga K x) "__init__")))) && decide (PySem.W.typeIn K (.ref (ma K (ga K x) "__init__")) = some (.type "function")))))))))))
  | .cat x fld => eqB (PySem.W.exmOne K (.ref (ga K x)) (.ref (ga K x))) (some true) && (xfB K (ga K x) && (He.eqO (PySem.W.findIn K (.ref (ga K x)) fld) (some none) && (He.eqO (PySem.W.findIn K (.ref (ga K x)) "__class__") (some (some (.builtin "object.__class__"))) &&
      (He.eqO (PySem.W.specialIn K (.builtin "object.__class__") "__get__") (some (some (.builtin "getset_descriptor.__get__"))) && (eqB (PySem.W.takesIn K (.builtin "object.__class__")) (some true) && (eqB (PySem.W.mroIn K (ga K x) (.type "object")) (some true) && eqB (PySem.W.kitOne K (.ref (ga K x)) (.type "ValueError")) (some true)))))))
  | .ob x B newId initId tl => obB K (ga K x) newId tl && (He.eqO (PySem.W.findIn K (.ref (ga K x)) "__setattr__") (some (some (.builtin "object.__setattr__"))) && (eqB (PySem.W.subIn K (.ref (ga K x)) (.type "BaseException")) (some true) && (decide (PySem.W.typeIn K (.ref (ga K x)) = some (.type "type")) && (PySem.W.keepIn K (.ref (ga K x)) &&
      (He.eqO (PySem.W.ks_superIn K (ga K x) (ga K x) "__init__") (some (some (.builtin initId))) && (eqB (PySem.W.mroIn K (ga K x) (.ref (ga K x))) (some true) && (eqB (PySem.W.subIn K (.ref (ga K x)) (.type B)) (some true) &&
      (He.eqO (PySem.W.findIn K (.ref (ga K x)) "__init__") (some (some (.ref (ma K (ga K x) "__init__")))) && decide (PySem.W.typeIn K (.ref (ma K (ga K x) "__init__")) = some (.type "function"))))))))))
  | .xfl x fld => xfB K (ga K x) && He.eqO (PySem.W.findIn K (.ref (ga K x)) fld) (some none)
  | .xis x => xfB K (ga K x) && (He.eqO (PySem.W.findIn K (.ref (ga K x)) "__class__") (some (some (.builtin "object.__class__"))) && (He.eqO (PySem.W.specialIn K (.builtin "object.__class__") "__get__") (some (some (.builtin "getset_descriptor.__get__"))) && (eqB (PySem.W.takesIn K (.builtin "object.__class__")) (some true) && eqB (PySem.W.mroIn K (ga K x) (.type "object")) (some true))))
  | .xki x t b => eqB (PySem.W.kitOne K (.ref (ga K x)) (vTy K t)) (some b)
  | .ex0 x newId tl => PySem.W.excIn K (ga K x) (tl.map Value.type) newId && PySem.W.keepIn K (.ref (ga K x))
  | .ns cs => cs.all fun x => (["NoneType", "bool", "int", "str", "list", "tuple", "dict"] : List String).all fun T => eqB (PySem.W.subIn K (.ref (ga K x)) (.type T)) (some false)
  | .exm x y b => eqB (PySem.W.exmOne K (.ref (ga K x)) (.ref (ga K y))) (some b)
  | .scl x => PySem.W.plainGet K (ga K x) Str.empty && (PySem.W.isClsIn K (ga K x) && (PySem.W.plainOver K (ga K x) && He.eqO (PySem.W.findIn K (.ref (ga K x)) "__setattr__") (some (some (.builtin "object.__setattr__")))))
  | .slot x f i => He.eqO (PySem.W.findIn K (.ref (ga K x)) f) (some (some (.ref (ma K (ga K x) f)))) && (He.eqO (PySem.W.specialIn K (.ref (ma K (ga K x) f)) "__get__") (some (some (.builtin "member_descriptor.__get__"))) && (eqB (PySem.W.takesIn K (.ref (ma K (ga K x) f))) (some true) && (decide (PySem.W.typeIn K (.ref (ma K (ga K x) f)) = some (.type "member_descriptor")) && (decide (PySem.W.slotIn K (ma K (ga K x) f) (ga K x) = some i) && decide (i < 1000)))))
  | .nb => (match K.lookup cStatics with
    | some ⟨_, _, .dict es _, _⟩ => es.all (fun e => match e.key with | .str _ _ => true | _ => false) && (nsFind es sharingNotToldKey).isNone
    | _ => false)
  | .cm x mn => He5.wrapB K (ga K x) "classmethod" "classmethod.__get__" mn && (PySem.W.fnIn K (He5.wf K (ga K x) "classmethod" mn) && (PySem.W.readsIn K (ga K x) (.type "type") && He.eqO (PySem.W.specialIn K (.ref (ga K x)) "__getattribute__") (some (some (.builtin "type.__getattribute__")))))
  | .tt x xss => tupB K (.ref (ga K x)) (fun l => tupsB K l xss)
  | .op x y nm mn => decide (mn = dunder nm) && (opB K (ga K x) (ma K (ga K y) mn) nm && PySem.W.isFn K (.ref (ma K (ga K y) mn)))
  | .rop x z nm => rightB K (ga K x) (ga K z) nm
  | .sub x y b => eqB (PySem.W.subIn K (.ref (ga K x)) (.ref (ga K y))) (some b)
  | .dm x y nm => He.eqO (PySem.W.findIn K (.ref (ga K x)) nm) (some (some (.ref (ma K (ga K y) nm)))) && PySem.W.isFn K (.ref (ma K (ga K y) nm))
  | .rz x => eqB (PySem.W.subIn K (.ref (ga K x)) (.type "BaseException")) (some true) && decide (PySem.W.typeIn K (.ref (ga K x)) = some (.type "type"))
  | .lam x q => decide ((coA K (ga K x), tbA K (ga K x), q) ∈ tabs3 K) && (tabsOf K).all fun p => !decide (p.1 = tbA K (ga K x)) || decide (p.2 = q)
def isTb : Option Obj → Bool
  | some ⟨.none, none, .fields vs, sl⟩ => vs.isEmpty && sl.isEmpty
  | _ => false
theorem isTb_ok {o : Option Obj} (h : isTb o = true) : o = some { cls := .none, data := .fields #[] } := by
  unfold isTb at h
  split at h
  · rename_i vs sl
    obtain ⟨h1, h2⟩ := ba h
    have e1 : vs = #[] := by simpa using h1
    have e2 : sl = #[] := by simpa using h2
    subst e1 e2
    rfl
  · cases h
def codeB (K : PySem.W.Frag) (c P : Addr) : Bool := match K.lookup c with
  | some ⟨.type t, _, .fields vs, _⟩ => decide (t = "code") && ((match (vs[11]? : Option Value) with | some (.ref Q) => decide (Q = P) | _ => false) && ((match vs.getD 18 .none with | .str _ _ => true | _ => false) && ((match vs.getD 7 .none with | .int _ _ => true | _ => false) &&
      ((match vs.getD 9 .none with | .bool _ => true | _ => false) && ((match vs.getD 10 .none with | .int _ _ => true | _ => false) && !decide (c = P))))))
  | _ => false
theorem codeB_ok {K : PySem.W.Frag} {h : Heap} {c P : Addr} (X : K.In h) (b : codeB K c P = true) : PySem.W.CodeHd h c P := by
  unfold codeB at b
  split at b
  · rename_i t dd vs sl e
    obtain ⟨h1, b⟩ := ba b
    obtain ⟨h2, b⟩ := ba b
    obtain ⟨h3, b⟩ := ba b
    obtain ⟨h4, b⟩ := ba b
    obtain ⟨h5, b⟩ := ba b
    obtain ⟨h6, h7⟩ := ba b
    have e1 := of_decide_eq_true h1
    subst e1
    have e11 : vs[11]? = some (.ref P) := by
      split at h2
      · rename_i Q e2
        rw [e2, of_decide_eq_true h2]
      · cases h2
    have g11 : vs.getD 11 .none = .ref P := by
      rw [Array.getD_eq_getD_getElem?, e11]; rfl
    split at h3
    · rename_i f tf ef
      split at h4
      · rename_i fl tg efl
        split at h5
        · rename_i inF ein
          split at h6
          · rename_i tx tt etx
            exact ⟨_, vs, f, tf, fl, tg, inF, tx, tt, X _ _ e, rfl, rfl, e11, g11, ef, efl, ein, etx, by simpa using h7⟩
          · cases h6
        · cases h5
      · cases h4
    · cases h3
  · cases b
def smB : Option Obj → Bool
  | some o => decide (o.cls = .type "dict")
  | none => false
theorem smB_ok {o : Option Obj} (h : smB o = true) : ∃ u, o = some u ∧ u.cls = .type "dict" := by
  cases o with
  | none => cases h
  | some u => exact ⟨u, rfl, of_decide_eq_true h⟩
def visY (g : Addr → Option Obj) : List Addr → Nat → List Addr → List Addr → Nat × List Addr × List Addr
  | [], bits, nw, acc => (bits, nw, acc)
  | a :: r, bits, nw, acc => match Nat.beq (Nat.mod (Nat.shiftRight bits a) 2) 1 with
    | true => visY g r bits nw acc
    | false => visY g r (Nat.add bits (Nat.shiftLeft 1 a)) (match g a with | some o => refsD o ++ nw | none => nw) (a :: acc)
def bfsY (g : Addr → Option Obj) : Nat → List Addr → Nat → List Addr → List Addr
  | 0, _, _, acc => acc.reverse
  | n + 1, fr, bits, acc => match visY g fr bits [] acc with
    | (b, nw, ac) => bfsY g n nw b ac
def asY (g : Addr → Option Obj) (n : Nat) : List Addr := (bfsY g (n + 1) [mainGlobals, cStatics] 0 []).filter fun a => !isTb (g a)
theorem look_mem {α : Type} {a : Addr} {o : α} : ∀ {l : List (Addr × α)}, l.lookup a = some o → (a, o) ∈ l
  | [], h => by cases h
  | (b, u) :: r, h => by
    rw [List.lookup_cons] at h
    cases q : (a == b) with
    | true => rw [q] at h; cases h; rw [eq_of_beq q]; exact List.mem_cons_self
    | false => rw [q] at h; exact List.mem_cons_of_mem _ (look_mem h)
theorem frG_mem {g : Addr → Option Obj} {as : List Addr} {a : Addr} {o : Obj} (h : (frG g as).lookup a = some o) : a ∈ as := by
  have hm := look_mem h
  unfold frG at hm
  obtain ⟨b, hb, e⟩ := List.mem_filterMap.mp hm
  cases q : g b with
  | none => rw [q] at e; cases e
  | some u => rw [q] at e; cases e; exact hb
abbrev AlY : Type := Bool × List FnM
def obsY (file : Str) (fa : List Fy) (fn : List DefM) (g : Addr → Option Obj) (K : PySem.W.Frag) : AlY := ((fa.all fun f => f.ok K) && ((fn.all fun d => d.ok K file) && (smB (g sysModules) && (tabs3 K).all fun t => isTb (g t.2.1) && codeB K t.1 t.2.1)), fn.map fun d => fnM K (d.at_.a K))
def valY (fn : List DefM) : AlY := (true, fn.map DefM.val)
structure SaysY (file : Str) (fa : List Fy) (fn : List DefM) (K : PySem.W.Frag) : Prop where
  fa : (fa.all fun f => f.ok K) = true
  ok : (fn.all fun d => d.ok K file) = true
  fn : (fn.map fun d => fnM K (d.at_.a K)) = fn.map DefM.val
def SmY (h : Heap) : Prop := ∃ o, h.get? sysModules = some o ∧ o.cls = .type "dict"
def TabsY (K : PySem.W.Frag) (h : Heap) : Prop := ∀ t ∈ tabs3 K, h.get? t.2.1 = some { cls := .none, data := .fields #[] } ∧ PySem.W.CodeHd h t.1 t.2.1 ∧ K.lookup t.2.1 = none
def obsYG (n : Nat) (file : Str) (fa : List Fy) (fn : List DefM) (g : Addr → Option Obj) : AlY := obsY file fa fn g (frG g (asY g n))
def hookY (n : Nat) (file : Str) (fa : List Fy) (fn : List DefM) : PySem.W.Hook where
  α := AlY
  obs := fun s => obsYG n file fa fn s.heap.get?
  val := fun _ => valY fn
  says := fun _ h => ∃ K : PySem.W.Frag, K.In h ∧ SaysY file fa fn K ∧ TabsY K h ∧ SmY h
  of := fun _ s e => by
    refine ⟨frG s.heap.get? (asY s.heap.get? n), frG_in, ?_, ?_, ?_⟩
    · have c := congrArg (fun z : AlY => z.1) e
      obtain ⟨c1, c2⟩ := ba (show ((fa.all fun f => f.ok (frG s.heap.get? (asY s.heap.get? n))) && _) = true from c)
      obtain ⟨c3, _⟩ := ba c2
      exact ⟨c1, c3, congrArg (fun z : AlY => z.2) e⟩
    · have c := congrArg (fun z : AlY => z.1) e
      obtain ⟨c1, c2⟩ := ba (show ((fa.all fun f => f.ok (frG s.heap.get? (asY s.heap.get? n))) && _) = true from c)
      obtain ⟨_, c4⟩ := ba c2
      obtain ⟨_, c4⟩ := ba c4
      intro t ht
      obtain ⟨d1, d2⟩ := ba (List.all_eq_true.mp c4 t ht)
      refine ⟨isTb_ok d1, codeB_ok frG_in d2, ?_⟩
      cases q : (frG s.heap.get? (asY s.heap.get? n)).lookup t.2.1 with
      | none => rfl
      | some o =>
        have hm := (List.mem_filter.mp (frG_mem q)).2
        rw [d1] at hm
        cases hm
    · have c := congrArg (fun z : AlY => z.1) e
      obtain ⟨c1, c2⟩ := ba (show ((fa.all fun f => f.ok (frG s.heap.get? (asY s.heap.get? n))) && _) = true from c)
      obtain ⟨_, c4⟩ := ba c2
      obtain ⟨c5, _⟩ := ba c4
      exact smB_ok c5
  keeps := fun _ _ _ ⟨K, hK, c, t, o, e1, e2⟩ k => ⟨K, PySem.W.Frag.In.keeps hK k, c, fun p hp => ⟨k _ _ (t p hp).1, (t p hp).2.1.keeps k, (t p hp).2.2⟩, o, k _ _ e1, e2⟩
end Ly
namespace Lh
open PySem PySem.W PySem.Calls PyProof.Rows HandSHeadRun
def RunA (r : OpenRow) (M : Nat) (w : World) : Prop := ∀ os : OsState, (endF (stepQ (denQ tabQ) r.prog w) M r.prog w os).map (fun s => looksF r.prog (boot_heap w.params) s.abs) = some true
def RunB (r : OpenRow) (q : Program) (M : Nat) (loose : List PySem.Str) (w : World) : Prop := ∀ os : OsState, (endF (stepQ (denQ tabQ) r.prog w) M r.prog w os).map (fun s => seenQ q loose (importedModules r.prog.main.body) (fun s => xlAt q [] s && recOk r.toRowW.records s) s.abs) = some (openGood q loose)
def RunC (r : OpenRow) (H : Hook) (ob : SharedT → H.α) (M : Nat) (w : World) : Prop := ∀ os : OsState, (endF (stepQ (denQ tabQ) r.prog w) M r.prog w os).map ob = some (H.val w)
theorem run_of {r : OpenRow} {q : Program} {H : Hook} {ob : SharedT → H.α} {M : Nat} {loose : List PySem.Str} {w : World} (a : RunA r M w) (b : RunB r q M loose w) (c : RunC r H ob M w) : RunEq r q H ob M loose w := fun os => by
  have a := a os
  have b := b os
  have c := c os
  revert a b c
  cases endF (stepQ (denQ tabQ) r.prog w) M r.prog w os with
  | none => intro a; cases a
  | some s =>
    intro a b c
    have a : looksF r.prog (boot_heap w.params) s.abs = true := Option.some.inj a
    have b := Option.some.inj b
    have c : ob s = H.val w := Option.some.inj c
    show some (looksF r.prog (boot_heap w.params) s.abs, seenQ q loose (importedModules r.prog.main.body) (fun s => xlAt q [] s && recOk r.toRowW.records s) s.abs, ob s) = _
    rw [a, c]
    exact congrArg (fun x => some (true, x, H.val w)) b
end Lh
namespace Lw
open PySem PySem.Spec L2 PyProof.Rows He Ly
open Lx (DefM vTy pgA Fm Ky)
abbrev PW : Program := PySem.Challenge.pw_linestream_k47_whole_long_texts_cut
def top (i : Nat) : Stmt := PW.main.body.getD i (.Pass ⟨0, 0, 0, 0⟩)
abbrev s_is_line : Stmt := top 5
abbrev s_is_list : Stmt := top 6
abbrev s_is_text : Stmt := top 7
abbrev s_length_of : Stmt := top 16
abbrev s_is_integer : Stmt := top 3
abbrev s_is_within : Stmt := top 4
abbrev s_is_block : Stmt := top 19
abbrev s_LongText_init : Stmt := inClass (top 20) 0
abbrev s_FreeLongText_init : Stmt := inClass (top 21) 0
abbrev s_LongText_of : Stmt := inClass (top 20) 1
abbrev s_first_difference : Stmt := top 17
abbrev s_LongText_eq : Stmt := inClass (top 20) 8
abbrev s__law_lline : Stmt := top 34
abbrev s__law_lsize : Stmt := top 33
abbrev s__law_apart : Stmt := top 37
abbrev s_LongText_op_add : Stmt := inClass (top 20) 7
abbrev s__law_lmade : Stmt := top 31
abbrev s__law_draw : Stmt := top 24
abbrev s__law_great : Stmt := top 26
abbrev s__law_lsplit : Stmt := top 35
abbrev s_LongText_difference : Stmt := inClass (top 20) 6
abbrev s_LongText_length : Stmt := inClass (top 20) 3
abbrev s__law_cut_right : Stmt := top 38
abbrev s__law_lwritten : Stmt := top 32
abbrev s__law_rows_at : Stmt := top 36
abbrev s__law_exchanged_right : Stmt := top 39
abbrev s__law_pick : Stmt := top 25
abbrev s__law_signs : Stmt := top 27
abbrev s__law_few : Stmt := top 28
abbrev s__law_row : Stmt := top 29
abbrev s__law_lblocks : Stmt := top 30
abbrev s__law_pen : Stmt := top 23
abbrev s_LongText_blocks : Stmt := inClass (top 20) 2
abbrev s_law : Stmt := top 40
def dm_is_line : DefM := ⟨(.fn "is_line"), "is_line", "is_line", defArgs s_is_line, defBody s_is_line, defScope s_is_line, none, [], []⟩
def dm_is_list : DefM := ⟨(.fn "is_list"), "is_list", "is_list", defArgs s_is_list, defBody s_is_list, defScope s_is_list, none, [], []⟩
def dm_is_text : DefM := ⟨(.fn "is_text"), "is_text", "is_text", defArgs s_is_text, defBody s_is_text, defScope s_is_text, none, [], []⟩
def dm_length_of : DefM := ⟨(.fn "length_of"), "length_of", "length_of", defArgs s_length_of, defBody s_length_of, defScope s_length_of, none, [], []⟩
def dm_is_integer : DefM := ⟨(.fn "is_integer"), "is_integer", "is_integer", defArgs s_is_integer, defBody s_is_integer, defScope s_is_integer, none, [], []⟩
def dm_is_within : DefM := ⟨(.fn "is_within"), "is_within", "is_within", defArgs s_is_within, defBody s_is_within, defScope s_is_within, none, [], []⟩
def dm_is_block : DefM := ⟨(.fn "is_block"), "is_block", "is_block", defArgs s_is_block, defBody s_is_block, defScope s_is_block, none, [], []⟩
def dm_LongText_init : DefM := ⟨(.me "LongText" "__init__"), "__init__", "LongText.__init__", defArgs s_LongText_init, defBody s_LongText_init, defScope s_LongText_init, none, [], []⟩
def dm_FreeLongText_init : DefM := ⟨(.me "FreeLongText" "__init__"), "__init__", "FreeLongText.__init__", defArgs s_FreeLongText_init, defBody s_FreeLongText_init, defScope s_FreeLongText_init, some "FreeLongText", [], []⟩
def dm_LongText_of : DefM := ⟨(.cm "LongText" "of"), "of", "LongText.of", defArgs s_LongText_of, defBody s_LongText_of, defScope s_LongText_of, none, [], []⟩
def dm_first_difference : DefM := ⟨(.fn "first_difference"), "first_difference", "first_difference", defArgs s_first_difference, defBody s_first_difference, defScope s_first_difference, none, [], []⟩
def dm_LongText_eq : DefM := ⟨(.me "LongText" "__eq__"), "__eq__", "LongText.__eq__", defArgs s_LongText_eq, defBody s_LongText_eq, defScope s_LongText_eq, none, [], []⟩
def dm__law_lline : DefM := ⟨(.fn "_law_lline"), "_law_lline", "_law_lline", defArgs s__law_lline, defBody s__law_lline, defScope s__law_lline, none, [], []⟩
def dm__law_lsize : DefM := ⟨(.fn "_law_lsize"), "_law_lsize", "_law_lsize", defArgs s__law_lsize, defBody s__law_lsize, defScope s__law_lsize, none, [], []⟩
def dm__law_apart : DefM := ⟨(.fn "_law_apart"), "_law_apart", "_law_apart", defArgs s__law_apart, defBody s__law_apart, defScope s__law_apart, none, [], []⟩
def dm_LongText_op_add : DefM := ⟨(.me "LongText" "__add__"), "__add__", "LongText.__add__", defArgs s_LongText_op_add, defBody s_LongText_op_add, defScope s_LongText_op_add, none, [], []⟩
def dm__law_lmade : DefM := ⟨(.fn "_law_lmade"), "_law_lmade", "_law_lmade", defArgs s__law_lmade, defBody s__law_lmade, defScope s__law_lmade, none, [], []⟩
def dm__law_draw : DefM := ⟨(.fn "_law_draw"), "_law_draw", "_law_draw", defArgs s__law_draw, defBody s__law_draw, defScope s__law_draw, none, [], []⟩
def dm__law_great : DefM := ⟨(.fn "_law_great"), "_law_great", "_law_great", defArgs s__law_great, defBody s__law_great, defScope s__law_great, none, [], []⟩
def dm__law_lsplit : DefM := ⟨(.fn "_law_lsplit"), "_law_lsplit", "_law_lsplit", defArgs s__law_lsplit, defBody s__law_lsplit, defScope s__law_lsplit, none, [], []⟩
def dm_LongText_difference : DefM := ⟨(.me "LongText" "difference"), "difference", "LongText.difference", defArgs s_LongText_difference, defBody s_LongText_difference, defScope s_LongText_difference, none, [], []⟩
def dm_LongText_length : DefM := ⟨(.pr "LongText" "length"), "length", "LongText.length", defArgs s_LongText_length, defBody s_LongText_length, defScope s_LongText_length, none, [], []⟩
def dm__law_cut_right : DefM := ⟨(.fn "_law_cut_right"), "_law_cut_right", "_law_cut_right", defArgs s__law_cut_right, defBody s__law_cut_right, defScope s__law_cut_right, none, [], []⟩
def dm__law_lwritten : DefM := ⟨(.fn "_law_lwritten"), "_law_lwritten", "_law_lwritten", defArgs s__law_lwritten, defBody s__law_lwritten, defScope s__law_lwritten, none, [], []⟩
def dm__law_rows_at : DefM := ⟨(.fn "_law_rows_at"), "_law_rows_at", "_law_rows_at", defArgs s__law_rows_at, defBody s__law_rows_at, defScope s__law_rows_at, none, [], []⟩
def dm__law_exchanged_right : DefM := ⟨(.fn "_law_exchanged_right"), "_law_exchanged_right", "_law_exchanged_right", defArgs s__law_exchanged_right, defBody s__law_exchanged_right, defScope s__law_exchanged_right, none, [], []⟩
def dm__law_pick : DefM := ⟨(.fn "_law_pick"), "_law_pick", "_law_pick", defArgs s__law_pick, defBody s__law_pick, defScope s__law_pick, none, [], []⟩
def dm__law_signs : DefM := ⟨(.fn "_law_signs"), "_law_signs", "_law_signs", defArgs s__law_signs, defBody s__law_signs, defScope s__law_signs, none, [], []⟩
def dm__law_few : DefM := ⟨(.fn "_law_few"), "_law_few", "_law_few", defArgs s__law_few, defBody s__law_few, defScope s__law_few, none, [], []⟩
def dm__law_row : DefM := ⟨(.fn "_law_row"), "_law_row", "_law_row", defArgs s__law_row, defBody s__law_row, defScope s__law_row, none, [], []⟩
def dm__law_lblocks : DefM := ⟨(.fn "_law_lblocks"), "_law_lblocks", "_law_lblocks", defArgs s__law_lblocks, defBody s__law_lblocks, defScope s__law_lblocks, none, [], []⟩
def dm__law_pen : DefM := ⟨(.fn "_law_pen"), "_law_pen", "_law_pen", defArgs s__law_pen, defBody s__law_pen, defScope s__law_pen, none, [], []⟩
def dm_LongText_blocks : DefM := ⟨(.pr "LongText" "blocks"), "blocks", "LongText.blocks", defArgs s_LongText_blocks, defBody s_LongText_blocks, defScope s_LongText_blocks, none, [], []⟩
def dm_law : DefM := ⟨(.fn "law"), "law", "law", defArgs s_law, defBody s_law, defScope s_law, none, [], []⟩
def fn : List DefM := [dm_is_line, dm_is_list, dm_is_text, dm_length_of, dm_is_integer, dm_is_within, dm_is_block, dm_LongText_init, dm_FreeLongText_init, dm_LongText_of, dm_first_difference, dm_LongText_eq, dm__law_lline, dm__law_lsize, dm__law_apart, dm_LongText_op_add, dm__law_lmade, dm__law_draw, dm__law_great, dm__law_lsplit, dm_LongText_difference, dm_LongText_length, dm__law_cut_right, dm__law_lwritten, dm__law_rows_at, dm__law_exchanged_right, dm__law_pick, dm__law_signs, dm__law_few, dm__law_row, dm__law_lblocks, dm__law_pen, dm_LongText_blocks, dm_law]
def fa0 : List Fy := [.m (.he (.free "str")), .m (.he (.free "isinstance")), .m (.he (.str "LETTERS" " !\"#$&'()*+,-./0123456789:;<=>?@ABCDEFGHIJKLMNOPQRSTUVWXYZ[\\]^_`abcdefghijklmnopqrstuvwxyz{|}~")), .m (.he (.free "all")), .m (.he (.free "tuple")), .m (.he (.free "list")), .m (.he (.glo "is_list")), .m (.he (.glo "is_line")), .m (.he (.free "len")), .m (.he (.free "sum")), .m (.he (.free "int")), .m (.he (.free "bool")), .m (.he (.glo "is_integer")), .m (.he (.int "MAX_LINES" 4)), .m (.he (.int "MAX_TIMES" 1000000000000000000000000000000)), .m (.he (.glo "is_within")), .m (.he (.glo "is_text")), .m (.he (.glo "length_of")), .m (.he (.noat "LongText" "own_length")), .m (.he (.noat "FreeLongText" "own_length")), .m (.he (.noat "LongText" "own_blocks")), .m (.he (.noat "FreeLongText" "own_blocks")), .m (.he (.int "MAX_BLOCKS" 10)), .m (.he (.free "enumerate")), .m (.he (.glo "is_block")), .m (.top), .m (.sup "FreeLongText" "FreeLongText" "LongText"), .m (.ini "FreeLongText" "FreeLongText"), .m (.he (.glo "FreeLongText")), .m (.he (.cls "FreeLongText")), .m (.he (.free "min")), .m (.he (.free "range")), .m (.he (.glo "LongText")), .m (.he (.glo "first_difference")), .m (.own "LongText"), .m (.he (.cls "LongText")), .m (.own "FreeLongText"), .eq "FreeLongText" "LongText", .nf ["FreeLongText"] [.t "NoneType", .t "bool", .t "int", .t "str", .t "list", .t "tuple", .t "dict", .c "LongText", .c "FreeLongText"], .eq "LongText" "LongText"]
def fa1 : List Fy := [.nf ["LongText"] [.t "NoneType", .t "bool", .t "int", .t "str", .t "list", .t "tuple", .t "dict", .c "LongText"], .sub "FreeLongText" "LongText" true, .sub "LongText" "FreeLongText" false, .m (.he (.free "sorted")), .m (.he (.free "set")), .m (.he (.glo "_law_lline")), .m (.he (.glo "_law_lsize")), .op "LongText" "LongText" "add" "__add__", .op "FreeLongText" "LongText" "add" "__add__", .rop "FreeLongText" "LongText" "add", .rop "FreeLongText" "FreeLongText" "add", .rop "LongText" "LongText" "add", .rop "LongText" "FreeLongText" "add", .m (.ini "LongText" "LongText"), .m (.he (.free "abs")), .m (.he (.glo "_law_draw")), .m (.he (.glo "_law_great")), .m (.meth "FreeLongText" "difference" "LongText"), .m (.meth "LongText" "difference" "LongText"), .m (.prop "FreeLongText" "length" "LongText"), .m (.prop "LongText" "length" "LongText"), .m (.he (.free "repr")), .m (.he (.glo "_law_lmade")), .m (.he (.glo "_law_lsplit")), .m (.he (.glo "_law_apart")), .m (.he (.glo "_law_lwritten")), .m (.he (.glo "_law_rows_at")), .m (.he (.glo "_law_pick")), .m (.he (.glo "_law_signs")), .m (.he (.glo "_law_row")), .m (.prop "FreeLongText" "blocks" "LongText"), .m (.prop "LongText" "blocks" "LongText"), .cm "LongText" "of", .m (.he (.glo "_law_lblocks")), .m (.he (.glo "_law_exchanged_right")), .m (.he (.glo "_law_cut_right")), .m (.he (.glo "_law_few")), .m (.he (.glo "_law_pen")), .m (.he (.glo "law")), .m (.isi (.c "FreeLongText") (.c "LongText") true)]
def fa2 : List Fy := [.m (.isi (.c "LongText") (.c "LongText") true), .m (.isi (.t "dict") (.c "LongText") false), .m (.isi (.t "tuple") (.c "LongText") false), .m (.isi (.t "list") (.c "LongText") false), .m (.isi (.t "str") (.c "LongText") false), .m (.isi (.t "int") (.c "LongText") false), .m (.isi (.t "bool") (.c "LongText") false), .m (.isi (.t "NoneType") (.c "LongText") false), .m (.isi (.c "FreeLongText") (.t "bool") false), .m (.isi (.c "LongText") (.t "bool") false), .m (.isi (.t "dict") (.t "bool") false), .m (.isi (.t "tuple") (.t "bool") false), .m (.isi (.t "list") (.t "bool") false), .m (.isi (.t "str") (.t "bool") false), .m (.isi (.t "int") (.t "bool") false), .m (.isi (.t "bool") (.t "bool") true), .m (.isi (.t "NoneType") (.t "bool") false), .m (.isi (.c "FreeLongText") (.t "int") false), .m (.isi (.c "LongText") (.t "int") false), .m (.isi (.t "dict") (.t "int") false), .m (.isi (.t "tuple") (.t "int") false), .m (.isi (.t "list") (.t "int") false), .m (.isi (.t "str") (.t "int") false), .m (.isi (.t "int") (.t "int") true), .m (.isi (.t "bool") (.t "int") true), .m (.isi (.t "NoneType") (.t "int") false), .m (.isi (.c "FreeLongText") (.t "list") false), .m (.isi (.c "LongText") (.t "list") false), .m (.isi (.t "dict") (.t "list") false), .m (.isi (.t "tuple") (.t "list") false), .m (.isi (.t "list") (.t "list") true), .m (.isi (.t "str") (.t "list") false), .m (.isi (.t "int") (.t "list") false), .m (.isi (.t "bool") (.t "list") false), .m (.isi (.t "NoneType") (.t "list") false), .m (.isi (.c "FreeLongText") (.t "str") false), .m (.isi (.c "LongText") (.t "str") false), .m (.isi (.t "dict") (.t "str") false), .m (.isi (.t "tuple") (.t "str") false), .m (.isi (.t "list") (.t "str") false)]
def fa3 : List Fy := [.m (.isi (.t "str") (.t "str") true), .m (.isi (.t "int") (.t "str") false), .m (.isi (.t "bool") (.t "str") false), .m (.isi (.t "NoneType") (.t "str") false), .m (.isi (.c "FreeLongText") (.t "tuple") false), .m (.isi (.c "LongText") (.t "tuple") false), .m (.isi (.t "dict") (.t "tuple") false), .m (.isi (.t "tuple") (.t "tuple") true), .m (.isi (.t "list") (.t "tuple") false), .m (.isi (.t "str") (.t "tuple") false), .m (.isi (.t "int") (.t "tuple") false), .m (.isi (.t "bool") (.t "tuple") false), .m (.isi (.t "NoneType") (.t "tuple") false)]
def fa : List Fy := fa0 ++ fa1 ++ fa2 ++ fa3
abbrev file : Str := PW.main.file
end Lw
set_option maxHeartbeats 0
namespace Lw
open PySem PySem.Spec PyProof.Rows L2 He Ly
abbrev R : PySem.W.OpenRow := PySem.W.OpenLaw.row PySem.Challenge.rw_linestream_k47_whole_long_texts_cut
abbrev hk : PySem.W.Hook := hookY 7 file fa fn
def ob (s : PySem.W.SharedT) : AlY := obsYG 7 file fa fn (HandSHeadRun.getT s)
def names0 : List PySem.Str := ["_wall", "__name__", "LETTERS", "is_integer", "is_within", "is_line", "is_list", "is_text", "InvalidText", "InvalidBlock", "TooMany", "MAX_BLOCKS", "MAX_LINES", "MAX_TIMES", "length_of", "first_difference", "is_block", "LongText", "FreeLongText", "_law_pen", "_law_draw", "_law_pick", "_law_great", "_law_signs", "_law_few", "_law_row", "_law_lblocks", "_law_lmade", "_law_lwritten", "_law_lsize"]
def names1 : List PySem.Str := ["_law_lline", "_law_lsplit", "_law_rows_at", "_law_apart", "_law_cut_right", "_law_exchanged_right"]
def names : List PySem.Str := names0 ++ names1
theorem runA (w : World) : Lh.RunA R 8000 w := by
  intro os
  kernel_rfl
theorem runB (w : World) : Lh.RunB R (PySem.W.view R.prog [40]) 8000 names w := by
  intro os
  kernel_rfl
theorem runC (w : World) : Lh.RunC R hk ob 8000 w := by
  intro os
  kernel_rfl
theorem run (w : World) : HandSHeadRun.RunEq R (PySem.W.view R.prog [40]) hk ob 8000 names w := Lh.run_of (runA w) (runB w) (runC w)
end Lw
set_option maxHeartbeats 4000000
set_option maxHeartbeats 2000000
set_option maxHeartbeats 4000000
set_option maxHeartbeats 2000000
set_option maxHeartbeats 4000000
namespace Ly
open PySem PySem.Spec L2
open Lx (Ky)
namespace Xc
end Xc
end Ly
set_option maxHeartbeats 0
set_option maxHeartbeats 2000000
namespace Lx
open PySem L2
inductive D where
  | non | bl (b : Bool) | int (i : Int) | str (x : Str)
  | lst (xs : List D) | tup (xs : List D) | obj (c : Str) (fs : List (Str × D)) | pen | sct (ns : List Int) | adr (a : Addr)
structure Xn where
  cls : Str
  fs : List (Str × D)
structure W (A : Type) where
  wp : Nat → (Nat → A → Prop) → (Nat → Xn → Prop) → Prop
  mono : ∀ {n : Nat} {Q R : Nat → A → Prop} {E G : Nat → Xn → Prop}, (∀ m a, Q m a → R m a) → (∀ m x, E m x → G m x) → wp n Q E → wp n R G
namespace W
variable {A B : Type}
@[reducible] def stuck : W A := ⟨fun _ _ _ => False, fun _ _ p => p⟩
@[reducible] def need (c : Prop) (m : W A) : W A := ⟨fun n Q E => c ∧ m.wp n Q E, fun h g p => ⟨p.1, m.mono h g p.2⟩⟩
@[reducible] def any (c : Nat) (P : A → Prop) : W A := ⟨fun n Q _ => ∃ k, n = k + c ∧ ∀ a, P a → Q k a, fun h _ ⟨k, e, p⟩ => ⟨k, e, fun a q => h _ _ (p a q)⟩⟩
end W
mutual
inductive Rep (K : PySem.W.Frag) (pn : Addr) (F : Hp) : V → D → Prop
  | non : Rep K pn F .non .non
  | bl (b : Bool) : Rep K pn F (.bl b) (.bl b)
  | int (i : Int) : Rep K pn F (.int i) (.int i)
  | str (x : Str) : Rep K pn F (.str x) (.str x)
  | lst {a : Addr} {vs : List V} {ds : List D} : F a = some (.lst vs) → RepL K pn F vs ds → Rep K pn F (.ref a) (.lst ds)
  | tup {a : Addr} {vs : List V} {ds : List D} : SqT K F a vs → RepL K pn F vs ds → Rep K pn F (.ref a) (.tup ds)
  | obj {a dx : Addr} {c : Str} {fs : List (Str × V)} {gs : List (Str × D)} : F a = some (.ins (He.ga K c) dx fs) → Cls K (He.ga K c) → (∀ x ∈ gs.map (·.1), NoAttr K (He.ga K c) x) → RepF K pn F fs gs → Rep K pn F (.ref a) (.obj c gs)
  | pen : Rep K pn F (.ref pn) .pen
  | adr (a : Addr) : Rep K pn F (.ref a) (.adr a)
  | sct {a : Addr} {ns : List Int} : SqL K F a (ns.map V.int) → Rep K pn F (.ref a) (.sct ns)
inductive RepL (K : PySem.W.Frag) (pn : Addr) (F : Hp) : List V → List D → Prop
  | nil : RepL K pn F [] []
  | cons {v : V} {vs : List V} {d : D} {ds : List D} : Rep K pn F v d → RepL K pn F vs ds → RepL K pn F (v :: vs) (d :: ds)
inductive RepF (K : PySem.W.Frag) (pn : Addr) (F : Hp) : List (Str × V) → List (Str × D) → Prop
  | nil : RepF K pn F [] []
  | cons {x : Str} {v : V} {vs : List (Str × V)} {d : D} {ds : List (Str × D)} : Rep K pn F v d → RepF K pn F vs ds → RepF K pn F ((x, v) :: vs) ((x, d) :: ds)
end
def Le (F G : Hp) : Prop := ∀ a o, F a = some o → G a = some o
theorem Le.refl (F : Hp) : Le F F := fun _ _ h => h
theorem Le.trans {F G J : Hp} (a : Le F G) (b : Le G J) : Le F J := fun c o h => b c o (a c o h)
theorem Le.up {F : Hp} {p : Addr} {o : HO} (h : F p = none) : Le F (upd F p o) := fun a u e => by rw [upd_ne (ne_of_none e h)]; exact e
theorem Le.sqL {K : PySem.W.Frag} {F G : Hp} {a : Addr} {xs : List V} (e : Le F G) (h : SqL K F a xs) : SqL K G a xs := by
  rcases h with (h | ⟨o, h⟩) | h
  · exact .inl (.inl (e _ _ h))
  · exact .inl (.inr ⟨o, e _ _ h⟩)
  · exact .inr h
theorem Le.sqT {K : PySem.W.Frag} {F G : Hp} {a : Addr} {xs : List V} (e : Le F G) (h : SqT K F a xs) : SqT K G a xs := by
  rcases h with (h | ⟨o, h⟩) | h
  · exact .inl (.inl (e _ _ h))
  · exact .inl (.inr ⟨o, e _ _ h⟩)
  · exact .inr h
def penKvs (l : Addr) (t lf : Int) : List (Key × V) := [(Sum.inr "cells", .ref l), (Sum.inr "turn", .int t), (Sum.inr "left", .int lf)]
def PenOk (K : PySem.W.Frag) (pn : Addr) (F H : Hp) (n : Nat) : Prop :=
  ∃ (l : Addr) (cs : List Int) (t lf : Int), H pn = some (.dK (penKvs l t lf)) ∧ SqL K F l (cs.map V.int) ∧ cs.length ≤ 63 ∧ 0 ≤ t ∧ t + n ≤ 2 ^ 60 ∧ 0 ≤ lf
structure Ok (K : PySem.W.Frag) (pn : Addr) (F H : Hp) (n : Nat) : Prop where
  fro : Le F H
  fpn : F pn = none
  pen : PenOk K pn F H n
structure Go (pn : Addr) (F H F' H' : Hp) : Prop where
  keep : ∀ a o, a ≠ pn → H a = some o → H' a = some o
  sub : Le F F'
  new : ∀ a o, F' a = some o → F a = none → H a = none
abbrev Post (K : PySem.W.Frag) (pn : Addr) (F H : Hp) (Q : VK) : Nat → D → Prop := fun n d => ∀ v F' H', Go pn F H F' H' → Ok K pn F' H' n → Rep K pn F' v d → Q v H'
abbrev noX : Nat → Xn → Prop := fun _ _ => False
end Lx
namespace Lx
open PySem L2 PyProof.Rows
theorem wipe_in {σ : L2.St} {i : Nat} : ∀ {vs : List Nat}, i ∈ vs → i < σ.length → (L2.wipe σ vs)[i]? = some none
  | [], h, _ => nomatch h
  | v :: vs, h, hl => by
    unfold L2.wipe
    by_cases e : v = i
    · subst e
      exact List.getElem?_set_self (by rw [wipe_length]; exact hl)
    · rw [List.getElem?_set_ne e]
      exact wipe_in ((List.mem_cons.mp h).resolve_left fun z => e z.symm) hl
theorem wipe_eq {σ σ2 : L2.St} {vs : List Nat} (e : ∀ j : Nat, j ∉ vs → σ2[j]? = (L2.wipe σ vs)[j]?) (l : σ2.length = (L2.wipe σ vs).length) : L2.wipe σ2 vs = L2.wipe σ vs := by
  rw [wipe_length] at l
  apply List.ext_getElem?
  intro j
  by_cases hj : j ∈ vs
  · by_cases hl : j < σ.length
    · rw [wipe_in hj hl, wipe_in hj (by omega)]
    · rw [List.getElem?_eq_none (by rw [wipe_length]; omega), List.getElem?_eq_none (by rw [wipe_length]; omega)]
  · rw [wipe_out hj, e j hj]
def Pr (K : PySem.W.Frag) (m : Nat) (g : List D → W D) : Sp := fun vs H Q _ => ∃ pn F ds n, Ok K pn F H n ∧ RepL K pn F vs ds ∧ ds.length = m ∧ (g ds).wp n (Post K pn F H Q) noX
end Lx
namespace Lx
open PySem L2
def rAddU : R2 := fun x y H Q => (rI0 fun i j => .int (i + j)) x y H Q ∨ (∃ i j, x = .str i ∧ y = .str j ∧ i.length + j.length ≤ sizeLine ∧ Q (.str (i ++ j)) H) ∨ rCat x y H Q
section
variable {X : Cx} {K : PySem.W.Frag}
theorem op_addU : OpR X (binaryOp .Add) rAddU := op_add.or (op_add_str.or op_cat)
def rEqU (K : PySem.W.Frag) : R2 := fun x y H Q => rEq x y H Q ∨ rEqD K x y H Q
def rNeU (K : PySem.W.Frag) : R2 := fun x y H Q => rNe x y H Q ∨ rNeD K x y H Q
theorem op_eqU (hu : X.A.units + 64 < cLine) : OpR X (compareOp .Eq) (rEqU X.K) := op_eq.or (op_eqD hu)
theorem op_neU (hu : X.A.units + 64 < cLine) : OpR X (compareOp .NotEq) (rNeU X.K) := op_ne.or (op_neD hu)
theorem vdec_int {i j : Int} : decide (V.int i = V.int j) = decide (i = j) := by simp
theorem vdec_str {i j : Str} : decide (V.str i = V.str j) = decide (i = j) := by simp
theorem vdec_bl {i j : Bool} : decide (V.bl i = V.bl j) = decide (i = j) := by simp
def inS (x y : Str) : Bool := !(Builtin.Str.occurrences y x 0 y.length 1).isEmpty
def rInU (K : PySem.W.Frag) (neg : Bool) : R2 := fun x y H Q => (∃ i j, x = .str i ∧ y = .str j ∧ Q (.bl (if neg then !inS i j else inS i j)) H) ∨ rIn K neg x y H Q
theorem op_inU : OpR X (compareOp .In) (rInU X.K false) := op_in_str.or op_in_seq
theorem op_notInU : OpR X (compareOp .NotIn) (rInU X.K true) := op_notin_str.or op_notIn_seq
def cutL {α : Type} (xs : List α) (lo hi : Option Int) : List α := (xs.drop (HT.sIx xs.length 0 lo)).take (HT.sIx xs.length xs.length hi - HT.sIx xs.length 0 lo)
def rSlU (K : PySem.W.Frag) : V → Option Int → Option Int → Hp → VK → Prop := fun x lo hi H Q => rSlS x lo hi H Q ∨ rSlL K x lo hi H Q ∨ rSlT K x lo hi H Q
theorem sl_U : SlR X (rSlU X.K) := sl_str.or (sl_list.or sl_tup)
theorem RepL.one {pn : Addr} {F : Hp} {vs : List V} {d : D} (r : RepL K pn F vs [d]) : ∃ v, vs = [v] ∧ Rep K pn F v d := by
  cases r with
  | cons a b => cases b; exact ⟨_, rfl, a⟩
theorem RepL.two {pn : Addr} {F : Hp} {vs : List V} {d e : D} (r : RepL K pn F vs [d, e]) : ∃ v w, vs = [v, w] ∧ Rep K pn F v d ∧ Rep K pn F w e := by
  cases r with
  | cons a b => obtain ⟨w, rfl, rw⟩ := b.one; exact ⟨_, w, rfl, a, rw⟩
end
end Lx
namespace Lx
open PySem L2 PyProof.Rows
structure SupScope (N ps : List Str) (sc : Scope) : Prop where
  kind : sc.kind = .function
  co : sc.isCoroutine = false
  gen : sc.isGenerator = false
  nd : N.Nodup
  pre : N.take ps.length = ps
  par : ∀ x ∈ ps, sc.names.lookup x = some .local
  noc : ∀ y ∈ sc.names, y.2 ≠ .cell
  fre : ∀ y ∈ sc.names, y.2 = .free → y.1 = "__class__"
  sup : sc.names.lookup ("super" : Str) = some .globalImplicit
  cls : sc.names.lookup ("__class__" : Str) = some .free
structure SupG (P : Program) (K : PySem.W.Frag) (x qual : Str) (params : Arguments) (body : List Stmt) (scope : Scope) (dvs : List V) (kws : List (Str × V)) (DC : Addr) (f : Addr) (fd : FuncData) : Prop where
  ex : ∃ (oc : Value) (od : Option Addr) (dV kV doc pm : Value) (an : Option Addr) (cda : Addr) (ct : Value) (osl : Array (Option Value)) (cc : Addr),
    fd = PySem.W.ksFn x qual params body scope dV kV doc pm an (.ref cda) ct cc ∧ K.lookup f = some ⟨oc, od, .func fd, osl⟩ ∧ PySem.W.codeIn K (.ref cda) qual = true ∧ (DflV K dV dvs ∧ KwdV K kV kws) ∧
    (∃ cl cld csl, K.lookup cc = some ⟨cl, cld, .cell (some (.ref DC)), csl⟩) ∧ ∃ ccl cdd vs ccs file tf, K.lookup cda = some ⟨ccl, cdd, .fields vs, ccs⟩ ∧ vs[2]? = some (.str file tf) ∧ ((P.main.file : Str) == file) = true
  kp : PySem.W.keepIn K (.ref f) = true
  cls : ∃ cdD, PySem.W.clsIn K DC = some cdD
  sup : PySem.W.nsIn K mainGlobals "super" = some none
  op : PySem.W.nsIn K cStatics "thirdparty.any" = some none
  top : (P.main.scope.names.lookup ("super" : Str)).isSome = false
abbrev SupD (P : Program) (K : PySem.W.Frag) (x qual : Str) (params : Arguments) (body : List Stmt) (scope : Scope) (DC : Addr) (f : Addr) (fd : FuncData) : Prop := SupG P K x qual params body scope [] [] DC f fd
theorem dfl_none {K : PySem.W.Frag} {dV : Value} (h : DflV K dV []) : dV = .none := by
  rcases h with ⟨_, e⟩ | ⟨e, _⟩
  · exact e
  · exact absurd rfl e
theorem SupD.bindsN {P : Program} {K : PySem.W.Frag} {x qual : Str} {params : Arguments} {body : List Stmt} {scope : Scope} {DC f : Addr} {fd : FuncData} {ps : List Str} (F : SupD P K x qual params body scope DC f fd)
    (h : ∀ (kV doc pm : Value) (an : Option Addr) (cdv ct : Value) (cc : Addr) (us : List Value), us.length = ps.length → bindArgs (PySem.W.ksFn x qual params body scope .none kV doc pm an cdv ct cc) ⟨us, []⟩ = pure (ps.zip us)) : Binds K fd ps [] := by
  obtain ⟨oc, od, dV, kV, doc, pm, an, cda, ct, osl, cc, rfl, _, _, ⟨hD, _⟩, _⟩ := F.ex
  cases dfl_none hD
  exact .all (h kV doc pm an _ ct cc)
structure SupC (K : PySem.W.Frag) (C DC f2 : Addr) : Prop where
  mro : PySem.W.mroIn K C (.ref DC) = some true
  at_ : PySem.W.ks_superIn K C DC "__init__" = some (some (.ref f2))
  ty : PySem.W.typeIn K (.ref f2) = some (.type "function")
  fn : PySem.W.fnIn K f2 = true
def cxS (CX : CXT) (P : Program) (w : World) (K : PySem.W.Frag) (mg : Str → Option Value) (base : Heap) (N : List Str) (qual : Str) (scope : Scope) (f : Addr) (cd : Value) (cc : Addr) (A : Around) (outer : List Env) (s : Shared) (H : Hp) (E : XK) : Cx where
  prog := P
  w := w
  K := K
  mg := mg
  base := base
  A := A.deeper (PySem.W.ksEnv qual scope s.heap.objs.size f cd cc)
  N := N
  s_0 := s
  H_0 := H
  env := PySem.W.ksEnv qual scope s.heap.objs.size f cd cc
  outer := outer
  stack := PySem.W.ksEnv qual scope s.heap.objs.size f cd cc :: outer
  ex := []
  calm := true
  fn := fun _ => false
  pn := []
  xe := fun e s' => wpAny (model P w) (A.deeper (PySem.W.ksEnv qual scope s.heap.objs.size f cd cc)) (leaving (PySem.W.ksEnv qual scope s.heap.objs.size f cd cc) e) (fun _ s'' => CX outer H s E e s'') (fun e' s'' => CX outer H s E e' s'') s'
theorem zip_look {x : Str} {u : Value} : ∀ {ps : List Str} {us : List Value} {i : Nat}, ps.Nodup → ps[i]? = some x → us[i]? = some u → (ps.zip us).reverse.lookup x = some u
  | [], _, _, _, h, _ => by simp at h
  | _ :: _, [], _, _, _, h => by simp at h
  | p :: ps, w :: us, 0, nd, h1, h2 => by
    simp at h1 h2; subst h1; subst h2
    rw [List.zip_cons_cons, List.reverse_cons, List.lookup_append]
    have : (ps.zip us).reverse.lookup p = none := by
      rw [List.lookup_eq_none_iff]
      intro q hq
      have hq2 := List.mem_reverse.mp hq
      have h3 : q.1 ∈ ps := (List.of_mem_zip (a := q.1) (b := q.2) hq2).1
      have h4 : p ≠ q.1 := fun e => (List.nodup_cons.mp nd).1 (e ▸ h3)
      simpa using h4
    rw [this]
    simp
  | p :: ps, w :: us, i + 1, nd, h1, h2 => by
    rw [List.zip_cons_cons, List.reverse_cons, List.lookup_append, zip_look (i := i) (List.nodup_cons.mp nd).2 (by simpa using h1) (by simpa using h2)]
    rfl
theorem inv_super {CX : CXT} {P : Program} {w : World} {K : PySem.W.Frag} {mg : Str → Option Value} {base : Heap} {N ps : List Str} {qual : Str} {scope : Scope} {f cc : Addr} {cd : Value} {A : Around} {outer : List Env} {s : Shared} {H : Hp} {E : XK} {us : List Value} {vs : List V} {h1 : Heap} {tk : Nat} {oc : Obj} {cv : Value}
    (S : SupScope N ps scope) (hd : A.handled = none) (e0 : Env0 P w K mg base A outer s H) (hl : vs.length = ps.length) (r : Vals vs us) (hc : base.get? cc = some oc) (hcv : oc.data = .cell (some cv))
    (hns : h1.Ns s.heap.objs.size (fun x => (ps.zip us).reverse.lookup x)) (hk : ∀ b o, s.heap.get? b = some o → h1.get? b = some o) :
    Inv (cxS CX P w K mg base N qual scope f cd cc A outer s H E) [] (L2.start N vs) H { s with heap := h1, toks := tk } := by
  have hpl : ps.length ≤ N.length := by have := congrArg List.length S.pre; rw [List.length_take] at this; omega
  have noA : ∀ b : Addr, b ∉ (cxS CX P w K mg base N qual scope f cd cc A outer s H E).ex := fun b z => absurd (show b ∈ ([] : List Addr) from z) (by simp)
  have hcs := (e0.bs cc oc hc)
  have onec : ∀ y c, (PySem.W.ksEnv qual scope s.heap.objs.size f cd cc).cells.lookup y = some c → y = "__class__" ∧ c = cc := fun y c h => by
    have h2 : ([(("__class__" : Str), cc)] : List (Str × Addr)).lookup y = some c := h
    rw [List.lookup_cons] at h2
    cases q : (y == ("__class__" : Str)) with
    | true => rw [q] at h2; cases h2; exact ⟨eq_of_beq q, rfl⟩
    | false => rw [q] at h2; cases h2
  refine ⟨⟨e0.mod, S.kind, rfl, rfl, Nat.le_refl _, fun y z c h1 h2 => by rw [(onec y c h1).1, (onec z c h2).1], fun y hy => ?_, fun y c h => absurd h Bool.false_ne_true, fun _ => hd, Around.frames_deeper e0.frames, .inr ⟨rfl, rfl⟩, fun b z => absurd z (noA b), e0.bs, e0.bsz, fun b _ _ => noA b, fun b z => absurd z (noA b), e0.funs, e0.frf⟩,
    rfl, e0.bare, Un.kept hk, ⟨_, hns, fun i y v h1 h2 h3 => ?_⟩, fun y c h => ?_, e0.hok.fresh (Nat.le_refl _), fun y c h => ?_, fun p hp => absurd (show p ∈ ([] : List (Addr × Obj)) from hp) (by simp), e0.hok.kept hk, ?_⟩
  · have hy : scope.names.lookup y = some .cell ∨ scope.names.lookup y = some .free := hy
    rcases hy with hy | hy
    · exact absurd rfl (S.noc _ (PySem.mem_of_lookup hy))
    · have e := S.fre _ (PySem.mem_of_lookup hy) rfl
      dsimp only at e
      subst e
      exact ⟨cc, rfl⟩
  · have hi : i < vs.length := by
      unfold L2.start at h2
      by_cases hi : i < vs.length
      · exact hi
      · rw [List.getElem?_append_right (by simpa using hi)] at h2
        rw [List.getElem?_replicate] at h2
        split at h2 <;> cases h2
    have ha : vs[i]? = some v := by
      unfold L2.start at h2
      rw [List.getElem?_append_left (by simpa using hi), List.getElem?_map] at h2
      cases e : vs[i]? with
      | none => rw [e] at h2; cases h2
      | some a => rw [e] at h2; cases h2; rfl
    obtain ⟨u, hu, rv⟩ := r.get ha
    have hp : ps[i]? = some y := by
      rw [← S.pre, List.getElem?_take_of_lt (by omega)]; exact h1
    have ndP : ps.Nodup := by rw [← S.pre]; exact S.nd.sublist (List.take_sublist _ _)
    exact ⟨u, rv, .inl ⟨S.par y (List.mem_of_getElem? hp), zip_look ndP hp hu⟩⟩
  · obtain ⟨_, rfl⟩ := onec y c h
    exact ⟨some cv, oc, hk _ _ hcs.1, hcv⟩
  · obtain ⟨_, rfl⟩ := onec y c h
    exact hcs.2
  · unfold L2.start
    show _ = N.length
    rw [List.length_append, List.length_map, List.length_replicate]
    omega
theorem execs_app (env : Env) : ∀ (a b : List Stmt), execs (a ++ b) env = (do match ← execs a env with | .next => execs b env | f => pure f)
  | [], b => by
    show execs b env = _
    rw [execs_nil]; rfl
  | st :: a, b => by
    rw [List.cons_append, execs_cons, execs_cons, bind_assoc]
    congr 1
    funext f
    cases f with
    | next => exact execs_app env a b
    | brk => rfl
    | cont => rfl
    | ret v => rfl
theorem at_app {M : Model} {A : Around} {c : Code} {E : Value → Shared → Prop} {s : Shared} {env : Env} {a b : List Stmt} {Q : Flow → Shared → Prop}
    (h : wpAny M A (execs a env) (fun f s' => match f with | .next => PySem.wpAt M A c (execs b env) Q E s' | f => Q f s') E s) : PySem.wpAt M A c (execs (a ++ b) env) Q E s := by
  rw [execs_app]
  refine PySem.wpAt_bind (PySem.wpAt_of_wpAny (wpAny_mono h (fun f s' q => ?_) fun _ _ x => x))
  cases f with
  | next => exact q
  | brk => exact PySem.wpAt_of_wpAny (wpAny_pure q)
  | cont => exact PySem.wpAt_of_wpAny (wpAny_pure q)
  | ret v => exact PySem.wpAt_of_wpAny (wpAny_pure q)
theorem with_bound {M : Model} {A : Around} {E : Value → Shared → Prop} {s : Shared} {K : PySem.W.Frag} {env : Env} {pos : Pos} {q g : Addr} {self : Value} {e : Expr} {es : List Expr} {Q : Value → Shared → Prop} (hf : PySem.W.fnIn K g = true)
    (he : starEach (e :: es) env = (false, eval e env) :: starEach es env) (hp : (backTo pos (starEach es env)).any (·.1) = false)
    (h : wpAny M A (spliced (backTo pos (starEach (e :: es) env))) (fun vs s1 => PySem.W.MethP K q g self s1.heap ∧ wpAny M A (call (.ref q) ([] ++ vs)) Q E s1) E s) :
    wpAny M A (callWith pos (.ref q) [] (backTo pos (starEach (e :: es) env)) []) Q E s := by
  rw [he] at h ⊢
  refine PySem.W.callWith_of (P := PySem.W.MethP K q g self) ?_ (PySem.W.keeps_M hf) (Calls.evalArgs_plain h)
  show ((false || (backTo pos (starEach es env)).any (·.1)) || false) = false
  rw [hp]
  rfl
end Lx
namespace Lx
open PySem L2 PyProof.Rows
def rRepr (K : PySem.W.Frag) : List V → Hp → VK → Prop := fun xs H Q => ∃ x d, xs = [x] ∧ Dp K H x d ∧ d.showable = true ∧ d.depth ≤ 60 ∧ d.hasDict = false ∧ d.shown.length ≤ sizeLine ∧ Q (.str d.shown) H
section
variable {X : Cx} {K : PySem.W.Frag}
theorem call_repr (hg : X.A.guards = some []) (hu : X.A.units + 64 < cLine) : CallR X (.builtin "repr") (rRepr X.K) := by
  intro pins s σ H xs us Q I r h
  obtain ⟨x, d, rfl, hd, h1, h2, h3, h4, q⟩ := h
  obtain ⟨u, rfl, rx⟩ := vals1 r
  obtain ⟨as, rd⟩ := Dp.reads I d x u hd rx
  have fin : ∀ {t : Tok} {k : Nat} {h' : Heap}, (∀ b o, s.heap.get? b = some o → h'.get? b = some o) → EP X pins σ Q (.str d.shown t) { s with heap := h', toks := k } := fun {t k h'} hk => ⟨.str d.shown, H, I.kept hk, ⟨t, rfl⟩, q⟩
  have fin0 : ∀ {t : Tok} {k : Nat}, EP X pins σ Q (.str d.shown t) { s with toks := k } := fun {t k} => ⟨.str d.shown, H, I.tok _, ⟨t, rfl⟩, q⟩
  cases hd with
  | non => cases rx; exact P.repr_of_none fin0
  | bl b => cases rx; exact P.repr_of_bool fin0
  | int i => obtain ⟨t, rfl⟩ := rx; exact P.repr_of_int (by simpa [PyData.showable] using h1) fin0
  | str y => obtain ⟨t, rfl⟩ := rx; exact P.repr_of_str fin0 h4
  | lst a b =>
    cases rx
    exact repr_of_reads' rd h1 (fun z => by rw [h3] at z; cases z) hg (by omega) (fun _ _ z => z) (fun h' t k hk => fin hk) h4
  | tup a b =>
    cases rx
    exact repr_of_reads' rd h1 (fun z => by rw [h3] at z; cases z) hg (by omega) (fun _ _ z => z) (fun h' t k hk => fin hk) h4
end
structure FnG (P : Program) (w : World) (K : PySem.W.Frag) (mg : Str → Option Value) (base : Heap) (CX : CXT) (k : Nat) (f : Addr) (fd : FuncData) (ps : List Str) (sp : Sp) : Prop where
  len : ∀ vs H Q E, sp vs H Q E → vs.length = ps.length
  run : ∀ (A : Around) (outer : List Env) (s : Shared) (H : Hp) (args : Args) (us : List Value) (vs : List V) (Q : VK) (E : XK), A.guards = some [] → Room k A → Env0 P w K mg base A outer s H → BindsTo s fd args (ps.zip us) → Vals vs us → sp vs H Q E →
    codeAny (model P w) A (.call (.ref f) args) (CR CX outer P w H s Q E) s
section
variable {X : Cx} {CX : CXT} {k : Nat} {f : Addr} {fd : FuncData} {ps : List Str} {sp : Sp} {E : XK} {x : Str} {p pos : Pos} {e : Expr} {es : List Expr} {t : TA}
theorem pe_callG (hg : X.A.guards = some []) (F : FnG X.prog X.w X.K X.mg X.base CX k f fd ps sp) (hr : Room k X.A) (hgl : Gl X x) (hm : X.mg x = some (.ref f)) (hk : PySem.W.keepIn X.K (.ref f) = true) (hb : Binds X.K fd ps []) (hx : Passes CX X E)
    (ha : PA X (e :: es) t) (hdb : (x == ("__debug__" : Str)) = false := by decide) (he : starEach (e :: es) X.env = (false, eval e X.env) :: starEach es X.env := by rfl) (hpl : (backTo pos (starEach es X.env)).any (·.1) = false := by rfl) :
    PE X (.Call (.Name x p) (e :: es) [] pos) (tCall sp [] E t) := by
  refine ⟨fun pins s σ H Q I h => wpAny_Call_Name_kw (ld_glob I hgl hm ?_ hdb)⟩
  refine PySem.W.callWith_K (h₀ := X.base) I.ok.mod.kin hk (thn (ha.run pos pins s σ H _ I h) fun us s1 ⟨vs, H1, I1, r, q⟩ => ⟨I1.kIn, ?_⟩) he hpl
  have q : sp vs H1 Q E := by
    have q2 : sp (vs ++ []) H1 Q E := q
    rw [List.append_nil] at q2
    exact q2
  have hl : us.length = ps.length := by rw [← r.length]; exact F.len _ _ _ _ q
  have bd := hb s1 us I1.kIn (by rw [List.append_nil]; exact hl)
  rw [List.append_nil] at bd
  refine wpAny_call (codeAny_mono (F.run X.A X.stack s1 H1 ⟨us, []⟩ us vs Q E hg hr I1.env0 bd r q) fun rr s2 h2 => ?_)
  cases rr with
  | error er => exact hx pins σ H1 s1 er s2 I1 h2
  | ok fl => cases fl with
    | ret u => exact I1.after h2
    | next => exact False.elim h2
    | brk => exact False.elim h2
    | cont => exact False.elim h2
end
end Lx
set_option maxHeartbeats 4000000
namespace Lx
open PySem PySem.Spec L2 PyProof.Rows
def uniq : List Nat → List Nat → List Nat
  | acc, [] => acc
  | acc, c :: r => if c ∈ acc then uniq acc r else uniq (c :: acc) r
def sgn (c : Nat) : Str := ⟨#[c]⟩
theorem sgn_inj {a b : Nat} (h : sgn a = sgn b) : a = b := by
  have h1 : (#[a] : Array Nat) = #[b] := congrArg Str.cps h
  simpa using h1
section
variable {prog : Program} {w : World} {A : Around} {R : Result → Shared → Prop} {I : Addr} {fp wr : List Addr} {n : Nat} {St : Nat → Heap → Prop}
theorem set_loop {x : Str} (W : Walks prog w A.in1 I fp wr n (SignAt x) St) (hn : n = x.cps.size) (hfp : n < 4000) (S : Addr) (hSf : S ∉ fp) (hSw : S ∉ wr) : ∀ (cs : List Nat) (i : Nat) (acc : List Nat) (s : Shared), x.cps.toList.drop i = cs → i + cs.length = n → St i s.heap → acc.length ≤ i →
      s.heap.SetOf (PySem.strKind prog w) S (fun k' => acc.any fun c => sgn c == k') acc.length →
      (∀ h' tk, (∀ b o, b ∉ S :: wr → s.heap.get? b = some o → h'.get? b = some o) → h'.SetOf (PySem.strKind prog w) S (fun k' => (uniq acc cs).any fun c => sgn c == k') (uniq acc cs).length → R (.ok (.ret .none)) { s with heap := h', toks := tk }) →
      codeAny (model prog w) A (.builtin "set.update.loop" ⟨[.ref S, .ref I], []⟩) R s
  | [], i, acc, s, hd, hi, hst, ha, hS, hR => by
    have hin : i = n := by simpa using hi
    subst hin
    refine codeAny_builtin PyProof.Rows.F.entry_set_update_loop ?_
    rw [Around.under_plainId PyProof.Rows.F.plain_set_update_loop _]
    show wpAny _ A.in1 (pyNext (.ref I) >>= _) _ _ s
    refine wpAny_bind (W.done s _ _ hst fun h' tk' hm => ?_)
    show wpAny _ A.in1 (ret Value.none) _ _ _
    refine wpAny_pure (hR _ _ (fun b o hb e => hm b o (fun z => hb (List.mem_cons_of_mem _ z)) e) ?_)
    obtain ⟨o, es, ep, t, ho, rest⟩ := hS
    exact ⟨o, es, ep, t, hm S _ hSw ho, rest⟩
  | c :: r, i, acc, s, hd, hi, hst, ha, hS, hR => by
    have hlt : i < n := by simp at hi; omega
    have hsub : ∀ b, b ∉ S :: wr → b ∉ wr := fun b hb z => hb (List.mem_cons_of_mem _ z)
    obtain ⟨hx, hd2⟩ : x.cps[i]? = some c ∧ x.cps.toList.drop (i + 1) = r := by
      have h1 : x.cps.toList[i]? = some c := by
        have := congrArg (·[0]?) hd
        simpa using this
      refine ⟨by simpa using h1, ?_⟩
      have := congrArg (·.drop 1) hd
      simpa [List.drop_drop, Nat.add_comm] using this
    refine codeAny_builtin PyProof.Rows.F.entry_set_update_loop ?_
    rw [Around.under_plainId PyProof.Rows.F.plain_set_update_loop _]
    show wpAny _ A.in1 (pyNext (.ref I) >>= _) _ _ s
    refine wpAny_bind (W.item i s _ _ hlt hst fun v h1 tk hP hst' hm => ?_)
    obtain ⟨c', t, hc', rfl⟩ := hP
    rw [hx] at hc'
    cases hc'
    have hS' : h1.SetOf (PySem.strKind prog w) S (fun k' => acc.any fun c => sgn c == k') acc.length := by
      obtain ⟨o, es, ep, tb, ho, rest⟩ := hS
      exact ⟨o, es, ep, tb, hm S _ hSw ho, rest⟩
    show wpAny _ A.in1 (holding [Value.str (sgn c) t] (setAdd S (.str (sgn c) t)) >>= _) _ _ _
    refine wpAny_bind (wpAny_holding ?_)
    unfold setAdd
    refine wpAny_holding ?_
    refine wpAny_bind ((PySem.strKind prog w).pyHash (k := sgn c) (strKind_is _ _ _ _) ?_)
    refine wpAny_setAddHashed_of (knd := PySem.strKind prog w) (strKind_is _ _ _ _) rfl hS' (by unfold scanBound; omega) fun h' hsb hS2 => ?_
    have hmem : (acc.any fun d => sgn d == sgn c) = decide (c ∈ acc) := by
      rw [Bool.eq_iff_iff, List.any_eq_true, decide_eq_true_iff]
      constructor
      · rintro ⟨d, hd, e⟩
        rw [sgn_inj (eq_of_beq e)] at hd
        exact hd
      · intro h; exact ⟨c, h, beq_self_eq_true _⟩
    have hSi : h'.SetOf (PySem.strKind prog w) S (fun k' => (if c ∈ acc then acc else c :: acc).any fun c => sgn c == k') (if c ∈ acc then acc else c :: acc).length := by
      refine SetOf_congr hS2 (fun k' => ?_) ?_
      · by_cases hc : c ∈ acc
        · rw [if_pos hc]
          by_cases e : k' = sgn c
          · subst e; rw [hmem, decide_eq_true hc]; rfl
          · rw [decide_eq_false e, Bool.or_false]
        · rw [if_neg hc, List.any_cons, Bool.or_comm]
          congr 1
          by_cases e : k' = sgn c
          · subst e; simp
          · rw [decide_eq_false e]
            exact (beq_eq_false_iff_ne.mpr fun z => e z.symm).symm
      · rw [hmem]
        by_cases hc : c ∈ acc <;> simp [hc]
    have hu : uniq acc (c :: r) = uniq (if c ∈ acc then acc else c :: acc) r := by
      by_cases hc : c ∈ acc <;> simp [uniq, hc]
    refine wpAny_pure ⟨plainId_quiet PyProof.Rows.F.plain_set_update_loop _, set_loop W hn hfp S hSf hSw r (i + 1) _ _ hd2 (by simp at hi; omega) (W.frame _ _ _ hst' fun b hb o e => ?_) (by split <;> (try simp only [List.length_cons]) <;> omega) hSi fun h'' tk'' hm'' hS'' => ?_⟩
    · rw [hsb.2 b (fun h : b = S => hSf (by rw [← h]; exact hb))]; exact e
    · rw [← hu] at hS''
      refine hR h'' tk'' (fun b o hb e => hm'' b o hb ?_) hS''
      rw [hsb.2 b (fun h : b = S => hb (by rw [h]; exact List.mem_cons_self))]
      exact hm b o (hsub b hb) e
end
section
variable {prog : Program} {w : World} {A : Around} {E : Value → Shared → Prop} {s : Shared}
theorem call_set_text {x : Str} {u : Tok} {Q : Value → Shared → Prop} (hh : A.handled = none) (hn : x.cps.size < 4000)
    (h : ∀ (h' : Heap) (tk : Nat), h'.SetOf (PySem.strKind prog w) s.heap.objs.size (fun k' => (uniq [] x.cps.toList).any fun c => sgn c == k') (uniq [] x.cps.toList).length →
      (∀ b o, b < s.heap.objs.size → s.heap.get? b = some o → h'.get? b = some o) → Q (.ref s.heap.objs.size) { s with heap := h', toks := tk }) :
    wpAny (model prog w) A (call (.type "set") [.str x u]) Q E s := by
  obtain ⟨c, tl, hmro⟩ := PySem.F.called_set.mro
  have hmade := PySem.F.called_set.made
  have hsub := PySem.F.called_set.sub
  refine wpAny_call (codeAny_of_tree ?_)
  show wpAny _ _ (callAny (.type "set") _) _ _ _
  refine wpAny_pure ⟨Code.quiet_builtin _ (by decide +kernel), codeAny_builtin PySem.F.entry_type_call ?_⟩
  rw [Around.under_plain (weight_type_call_type "set" [.str x u] []) rfl]
  have h1 := PySem.F.called_set.notType
  have h2 := PySem.F.called_set.canCreate
  have hct := PySem.F.typeCall_set_1 (.str x u)
  repeat (any_goals (first | assumption | wp_step))
  refine codeAny_mono (code_set_new_1 (.str x u) (E := E) (Q₁ := fun obj s₁ => ∃ led : Bool, obj = .ref s.heap.objs.size ∧ s₁ = { s with heap := s.heap.push { cls := .type "set", dict := none, data := .set #[] 0 (.fresh 0 0 led) } }) fun led => ⟨led, rfl, rfl⟩) fun r s₁ hr => ?_
  cases r with
  | error e => exact hr
  | ok fl =>
    cases fl with
    | ret obj =>
      obtain ⟨led, rfl, rfl⟩ := hr
      have hS : (s.heap.push { cls := .type "set", dict := none, data := .set #[] 0 (.fresh 0 0 led) }).get? s.heap.objs.size = some { cls := .type "set", dict := none, data := .set #[] 0 (.fresh 0 0 led) } := Heap.get?_push_size _ rfl
      have hT : Shared.TypeIs { s with heap := s.heap.push { cls := .type "set", dict := none, data := .set #[] 0 (.fresh 0 0 led) } } (.ref s.heap.objs.size) "set" := ⟨_, hS, rfl⟩
      have hli := PySem.F.called_set.init.lookup
      have hbi := PySem.F.called_set.init.bind (.ref s.heap.objs.size)
      repeat (any_goals (first | assumption | wp_step))
      refine codeAny_mono (codeAny_call_builtin (R := wants (fun r s₂ => r = .none ∧ ∃ h' tk, s₂ = { s with heap := h', toks := tk } ∧
          h'.SetOf (PySem.strKind prog w) s.heap.objs.size (fun k' => (uniq [] x.cps.toList).any fun c => sgn c == k') (uniq [] x.cps.toList).length ∧
          (∀ b o, b < s.heap.objs.size → s.heap.get? b = some o → h'.get? b = some o)) E) PySem.F.called_set.init.plain PySem.F.entry_set_init (check_set_init_1 hT ?_)) fun r₂ s₂ hr₂ => ?_
      · have hsls := PySem.F.sub_str_set
        have hslf := PySem.F.sub_str_frozenset
        have hne : (Value.type "str" == Value.type "dict") = false := by decide
        unfold Builtin.«set.__init__» noKeywords Builtin.Frozenset.updateFrom
        generalize hPI : pyIter = PI
        wp_walk
        subst hPI
        refine wpAny_pyIter_str fun o St hW hst => ?_
        refine wpAny_bind (wpAny_runValue ?_)
        have hh3 : A.in1.in1.in1.handled = none := by simp [hh]
        have hSf : s.heap.objs.size ∉ [(s.heap.push { cls := .type "set", dict := none, data := .set #[] 0 (.fresh 0 0 led) }).objs.size] := by
          rw [Heap.size_push]; simp
        refine set_loop (hW _ hh3) rfl hn s.heap.objs.size hSf hSf x.cps.toList 0 [] _ rfl (by simp) hst (Nat.zero_le _) ?hS0 ?hR
        case hS0 =>
          have hget : ((s.heap.push { cls := .type "set", dict := none, data := .set #[] 0 (.fresh 0 0 led) }).push o).get? s.heap.objs.size
              = some { cls := .type "set", dict := none, data := .set #[] 0 (.fresh 0 0 led) } := Heap.get?_push_of_some _ hS
          exact PyProof.Rows.SetOf_congr ((PyProof.Rows.setObjOf_fresh (knd := PySem.strKind prog w) led).setOf hget (by unfold scanBound; omega)) (fun _ => rfl) rfl
        case hR =>
          intro h' tk' hm hS'
          show wpAny _ _ _ _ _ _
          refine wpAny_pure ?_
          show wpAny _ _ (ret Value.none) _ _ _
          refine wpAny_pure ⟨rfl, h', tk', rfl, hS', fun b o hb e => ?_⟩
          have hb1 : b ≠ s.heap.objs.size := Nat.ne_of_lt hb
          have hb2 : b ≠ (s.heap.push { cls := .type "set", dict := none, data := .set #[] 0 (.fresh 0 0 led) }).objs.size := by
            rw [Heap.size_push]; exact Nat.ne_of_lt (Nat.lt_succ_of_lt hb)
          exact hm b o (by simp only [List.mem_cons, List.mem_singleton, List.not_mem_nil, or_false, not_or]; exact ⟨hb1, hb2⟩) (Heap.get?_push_of_some _ (Heap.get?_push_of_some _ e))
      · cases r₂ with
        | error e => exact hr₂
        | ok fl₂ =>
          cases fl₂ with
          | ret r =>
            obtain ⟨rfl, h', tk, rfl, hS', hk'⟩ := hr₂
            repeat (any_goals (first | assumption | wp_step))
            exact h _ _ hS' hk'
          | _ => exact hr₂.elim
    | _ => exact hr.elim
end
def tLenSetS (ta : TE) : TE := fun σ H Q => ta σ H fun x H1 => ∃ y, x = .str y ∧ y.cps.size < 4000 ∧ Q (.int (uniq [] y.cps.toList).length) H1
section
variable {X : Cx}
theorem pe_lenSetS {a : Expr} {ta : TE} {p p2 q pos : Pos} (hc : X.calm = true) (hg : Gl X "len") (hm : X.mg "len" = none) (hg2 : Gl X "set") (hm2 : X.mg "set" = none) (ha : PE X a ta)
    (na : starEach [a] X.env = (false, eval a X.env) :: starEach [] X.env := by rfl) : PE X (.Call (.Name "len" p) [.Call (.Name "set" p2) [a] [] q] [] pos) (tLenSetS ta) := by
  refine ⟨fun pins s σ H Q I h => ?_⟩
  refine Call_ (ld_blt I hg hm boot_len ?_)
  refine PyProof.Rows.callWith_builtin1 (PyProof.Rows.args_cons ?_ rfl) rfl rfl
  refine Call_ (ld_blt I hg2 hm2 boot_set ?_)
  refine PyProof.Rows.callWith_type1 (PyProof.Rows.args_cons (thn (ha.run pins s σ H _ I h) fun v s1 ⟨x, H1, I1, r1, q1⟩ => PyProof.Rows.args_nil ?_) na) na rfl
  obtain ⟨y, rfl, hy, q1⟩ := q1
  obtain ⟨u, rfl⟩ := r1
  refine call_set_text (I1.ok.hd hc) hy fun h' tk hS hk => ?_
  refine PyProof.Rows.args_nil ?_
  obtain ⟨o, es, ep, t, ho, hex, hd, _, _, hb, hf, hn⟩ := hS
  have I2 : Inv X pins σ H1 { s1 with heap := h', toks := tk } := I1.kept fun b o e => hk b o (Heap.lt_size e) e
  refine call_len_set ho hex hd hf (by have : es.size < 4096 := hb; omega) ⟨.int (uniq [] y.cps.toList).length, H1, I2.tok _, ⟨_, by rw [hn]⟩, q1⟩
end
end Lx
namespace Lx
open PySem PySem.Spec L2 PyProof.Rows
def tMaxD (K : PySem.W.Frag) (ta td : TE) : TE := fun σ H Q => ta σ H fun x H1 => td σ H1 fun d H2 => ∃ (a : Addr) (ns : List Int), x = .ref a ∧ SqL K H2 a (ns.map V.int) ∧ (ns = [] → Q d H2) ∧ ∀ y ys, ns = y :: ys → Q (.int (ys.foldl max y)) H2
theorem alike_ints (ns : List Int) : PySem.W.AlikeAll (ns.map PyData.int) := by
  refine ⟨fun x hx y hy => ?_, fun x hx => ?_⟩
  · obtain ⟨i, _, rfl⟩ := List.mem_map.mp hx
    obtain ⟨j, _, rfl⟩ := List.mem_map.mp hy
    rfl
  · obtain ⟨i, _, rfl⟩ := List.mem_map.mp hx
    exact fun z => by cases z
theorem dp_ints {K : PySem.W.Frag} {H : Hp} : ∀ ns : List Int, DpAll K H (ns.map V.int) (ns.map PyData.int)
  | [] => .nil
  | n :: r => .cons (.int n) (dp_ints r)
theorem depth_ints : ∀ ns : List Int, PyData.depthAll (ns.map PyData.int) = 0
  | [] => rfl
  | n :: r => by
    show max (PyData.depth (.int n)) (PyData.depthAll (r.map PyData.int)) = 0
    rw [depth_ints r]; rfl
section
variable {X : Cx}
theorem pe_maxD {e d : Expr} {ta td : TE} {p pos kp : Pos} (hc : X.calm = true) (hu : X.A.units + 64 < cLine) (hg : Gl X "max") (hm : X.mg "max" = none) (ha : PE X e ta) (hd : PE X d td)
    (na : backTo pos (starEach [e] X.env) = (false, eval e X.env) :: backTo pos (starEach [] X.env) := by rfl) (hpl : (backTo pos (starEach [e] X.env)).any (·.1) = false := by rfl) :
    PE X (.Call (.Name "max" p) [e] [⟨some "default", d, kp⟩] pos) (tMaxD X.K ta td) := by
  refine ⟨fun pins s σ H Q I h => wpAny_Call_Name_kw (ld_blt I hg hm boot_max ?_)⟩
  refine callWith_kw ?_ na hpl
  rw [na]
  refine Calls.spliced_cons (thn (ha.run pins s σ H _ I h) fun v s1 ⟨x, H1, I1, r1, q1⟩ => Calls.spliced_nil ?_)
  refine kws_cons (thn (hd.run pins s1 σ H1 _ I1 q1) fun u s2 ⟨y, H2, I2, r2, q2⟩ => kws_nil ?_)
  obtain ⟨a, ns, rfl, hq, q0, qs⟩ := q2
  cases r1
  obtain ⟨its, r, pl, hz⟩ := I2.list hq
  obtain ⟨as, hr⟩ := Dp.readsAll I2 (ns.map PyData.int) (ns.map V.int) its (dp_ints ns) r
  show wpAny _ _ (call (.builtin "max") [.ref a] [(Str.ofString "default", u)]) _ _ _
  refine PySem.W.max_list_default (I2.ok.hd hc) pl.isList (by simpa using hr) (alike_ints ns) (by rw [depth_ints]; omega) (fun hn h' tk hk => ?_) (fun z zs i w h' tk bs hn hi hrd hk => ?_)
  · have hn : ns = [] := by simpa using hn
    exact ⟨y, H2, I2.kept hk, r2, q0 hn⟩
  · cases ns with
    | nil => cases hn
    | cons n ns =>
      have hn : PyData.int n :: ns.map PyData.int = z :: zs := hn
      injection hn with h1 h2
      subst h1 h2
      rw [PySem.W.maxD_ints] at hrd
      refine ⟨.int (ns.foldl max n), H2, I2.kept hk, ?_, qs n ns rfl⟩
      cases hrd
      exact ⟨_, rfl⟩
end
def catA (its : Nat → List Value) : Nat → Nat → List Value
  | _, 0 => []
  | i, k + 1 => its i ++ catA its (i + 1) k
section
variable {prog : Program} {w : World} {A : Around} {R : Result → Shared → Prop} {I : Addr} {fp wr : List Addr} {G : Array GenState → Array GenState → Prop} {n : Nat} {P : Nat → Value → Prop} {St : Nat → Shared → Prop}
theorem sum_loopL (W : WalksS prog w A.in1 I fp wr G n P St) (S : Addr) (hSf : S ∉ fp) (its : Nat → List Value) (b nn : Nat → Nat) (hval : ∀ i v, P i v → v = .ref (b i)) (hbw : ∀ i, i < n → b i ∉ wr ∧ b i ≠ S) (hwr : ∀ x ∈ wr, x < S) :
    ∀ (k i : Nat) (s : Shared) (tot : Addr) (acc : List Value) (na c : Nat), n - i = k → i ≤ n → St i s → s.heap.get? S = some { cls := .type "list", dict := none, data := .seq #[.ref tot] c, slots := #[] } →
      s.heap.get? tot = some { cls := .type "list", data := .seq acc.toArray na } → tot ∉ wr → tot ≠ S → (∀ j, j < n → s.heap.get? (b j) = some { cls := .type "list", data := .seq (its j).toArray (nn j) }) → acc.length + (catA its i k).length ≤ sizeLine →
      (∀ s' tot' na', Moved (S :: wr) G s s' → s'.heap.get? tot' = some { cls := .type "list", data := .seq (acc ++ catA its i k).toArray na' } → (k = 0 → tot' = tot) → (k ≠ 0 → S < tot') → R (.ok (.ret (.ref tot'))) s') →
      codeAny (model prog w) A (.builtin "sum.loop" ⟨[.ref I, .ref S, rawInt 2, rawInt 0], []⟩) R s := by
  have hSw : S ∉ wr := fun h => hSf (W.sub _ h)
  have hsub : ∀ b ∈ wr, b ∈ S :: wr := fun b hb => List.mem_cons_of_mem _ hb
  intro k
  induction k with
  | zero =>
    intro i s tot acc na c hk hi hst hS ht htw hts hb hl hR
    have hin : i = n := by omega
    subst hin
    refine codeAny_builtin F.entry_sum_loop ?_
    rw [Around.under_plainId F.plain_sum_loop _]
    show wpAny _ A.in1 (seqItems? (.ref S) >>= _) _ _ s
    refine wpAny_bind (wpAny_seqItems hS rfl ?_)
    show wpAny _ A.in1 (tryCatch (pyNext (.ref I)) _ >>= _) _ _ s
    refine wpAny_bind (wpAny_tryCatch (W.done s _ _ hst fun s' hm => ?_))
    refine wpAny_pure (hR s' tot na (hm.mono hsub) ?_ (fun _ => rfl) (fun z => absurd rfl z))
    rw [show acc ++ catA its i 0 = acc from List.append_nil acc]
    exact hm.heap tot _ htw ht
  | succ k ih =>
    intro i s tot acc na c hk hi hst hS ht htw hts hb hl hR
    have hlt : i < n := by omega
    refine codeAny_builtin F.entry_sum_loop ?_
    rw [Around.under_plainId F.plain_sum_loop _]
    show wpAny _ A.in1 (seqItems? (.ref S) >>= _) _ _ s
    refine wpAny_bind (wpAny_seqItems hS rfl ?_)
    show wpAny _ A.in1 (tryCatch (pyNext (.ref I)) _ >>= _) _ _ s
    refine wpAny_bind (wpAny_tryCatch (W.item i s _ _ hlt hst fun v s' hP hst' hm => ?_))
    cases hval i v hP
    have hS' := hm.heap S _ hSw hS
    have ht' := hm.heap tot _ htw ht
    have hb' := hm.heap (b i) _ (hbw i hlt).1 (hb i hlt)
    have hlen : (catA its i (k + 1)).length = (its i).length + (catA its (i + 1) k).length := by show (its i ++ _).length = _; rw [List.length_append]
    show wpAny _ A.in1 ((holding [Value.ref (b i)] (binaryOp .Add (.ref tot) (.ref (b i)))).attempt >>= _) _ _ _
    refine wpAny_bind (wpAny_attempt (wpAny_holding (PySem.P.add_list ht' hb' ?_ (by rw [List.size_toArray, List.size_toArray]; omega))))
    have hSlt : S < s'.heap.objs.size := Heap.lt_size hS'
    have hS1 : (s'.heap.push { cls := .type "list", data := .seq (acc.toArray ++ (its i).toArray) }).get? S = some { cls := .type "list", dict := none, data := .seq #[.ref tot] c, slots := #[] } := Heap.get?_push_of_some _ hS'
    show wpAny _ A.in1 (updateSeq S (fun _ => #[.ref s'.heap.objs.size]) >>= _) _ _ _
    refine wpAny_bind (wpAny_updateSeq hS1 rfl ?_)
    have hS₂ := Heap.get?_update_self (Obj.mapSeq fun _ => #[Value.ref s'.heap.objs.size]) hS1 rfl
    refine wpAny_bind (wpAny_letGo ?_)
    have keep : ∀ x o, x ≠ S → s'.heap.get? x = some o → ((((s'.heap.push { cls := .type "list", data := .seq (acc.toArray ++ (its i).toArray) }).update S (Obj.mapSeq fun _ => #[Value.ref s'.heap.objs.size])).update S (Obj.mapSeq fun _ => #[Value.ref s'.heap.objs.size]))).get? x = some o := fun x o hx e =>
      (Heap.get?_update_other _ _ (Ne.symm hx)).trans ((Heap.get?_update_other _ _ (Ne.symm hx)).trans (Heap.get?_push_of_some _ e))
    have hn1 : (((s'.heap.push { cls := .type "list", data := .seq (acc.toArray ++ (its i).toArray) }).update S (Obj.mapSeq fun _ => #[Value.ref s'.heap.objs.size])).update S (Obj.mapSeq fun _ => #[Value.ref s'.heap.objs.size])).get? s'.heap.objs.size = some { cls := .type "list", data := .seq (acc ++ its i).toArray 0 } := by
      refine (Heap.get?_update_other _ _ (Nat.ne_of_lt hSlt)).trans ((Heap.get?_update_other _ _ (Nat.ne_of_lt hSlt)).trans ?_)
      rw [show acc.toArray ++ (its i).toArray = (acc ++ its i).toArray by simp]
      exact Heap.get?_push_size _ rfl
    refine wpAny_bind (wpAny_updateSeq hS₂ rfl (wpAny_pure ⟨plainId_quiet F.plain_sum_loop _, ih (i + 1) _ s'.heap.objs.size (acc ++ its i) 0 _ (by omega) hlt (W.frame _ s' _ _ hst' (Nat.le_refl _) fun x hx o e => ?_) (Heap.get?_update_self _ hS₂ rfl) hn1 (fun hz => ?_) (Nat.ne_of_gt hSlt) (fun j hj => ?_) (by rw [List.length_append]; omega) fun s'' tot'' na'' hm'' hl'' h0 h1 => ?_⟩))
    · exact keep x o (fun h => hSf (by rw [← h]; exact hx)) e
    · exact absurd (hwr _ hz) (Nat.lt_asymm hSlt)
    · exact keep _ _ (hbw j hj).2 (hm.heap _ _ (hbw j hj).1 (hb j hj))
    · refine hR s'' tot'' na'' (Moved.trans W.gtrans ((hm.mono hsub).then_heap (Nat.le_refl _) fun x o hx e => keep x o (fun h => hx (by rw [h]; exact List.mem_cons_self)) e) hm'') ?_ (fun z => nomatch z) fun _ => ?_
      · rw [show acc ++ catA its i (k + 1) = (acc ++ its i) ++ catA its (i + 1) k from (List.append_assoc _ _ _).symm]
        exact hl''
      · cases k with
        | zero => rw [h0 rfl]; exact hSlt
        | succ k => exact h1 (by omega)
end
section
variable {prog : Program} {w : World} {A : Around} {E : Value → Shared → Prop} {s : Shared}
theorem args_sum2 (a b : Value) : argsOk "sum" ⟨[a, b], []⟩ := by unfold argsOk; kernel_rfl
theorem call_sum_lists {l p : Addr} {vs : List Value} {acc : List Value} {na : Nat} {its : Nat → List Value} {b nn : Nat → Nat} {Q : Value → Shared → Prop} (hh : A.handled = none) (hl : s.heap.IsList l vs.toArray)
    (hp : s.heap.get? p = some { cls := .type "list", data := .seq acc.toArray na }) (hval : ∀ (i : Nat) (v : Value), vs[i]? = some v → v = .ref (b i)) (hb : ∀ j, j < vs.length → s.heap.get? (b j) = some { cls := .type "list", data := .seq (its j).toArray (nn j) })
    (hz : acc.length + (catA its 0 vs.length).length ≤ sizeLine)
    (h : ∀ h' tk q nq, (∀ x o, s.heap.get? x = some o → h'.get? x = some o) → h'.get? q = some { cls := .type "list", data := .seq (acc ++ catA its 0 vs.length).toArray nq } → (vs.length = 0 → q = p) → (vs.length ≠ 0 → s.heap.objs.size ≤ q) → Q (.ref q) { s with heap := h', toks := tk }) :
    wpAny (model prog w) A (call (.builtin "sum") [.ref l, .ref p]) Q E s := by
  refine call_function_tree F.kind_sum F.plain_sum F.entry_sum (args_sum2 _ _) ?_
  unfold Builtin.«sum»
  simp only [List.length_cons, List.length_nil]
  rw [if_neg (by decide)]
  refine wpAny_bind (wpAny_of_eq (show Builtin.Builtins.bindParams "sum" ["start"] 0 ⟨[.ref p], []⟩ = pure [some (.ref p)] from rfl) ?_)
  refine wpAny_bind (PySem.W.iter_listW (A := A.in1) hh hl fun s₂ e W st hfp hw hk => ?_)
  refine wpAny_bind (wpAny_pure ?_)
  have hp2 : s₂.heap.get? p = some { cls := .type "list", data := .seq acc.toArray na } := hk _ _ hp
  have ty : s₂.TypeIs (.ref p) "list" := ⟨_, hp2, rfl⟩
  simp only [List.forIn_cons, List.forIn_nil]
  refine wpAny_bind (wpAny_bind (wpAny_bind (wpAny_isInstance (T := "list") (b := false) ty F.sub_list_str ?_)))
  simp only [Bool.false_eq_true, if_false]
  refine wpAny_pure (wpAny_bind (wpAny_bind (wpAny_isInstance (T := "list") (b := false) ty F.sub_list_bytes ?_)))
  simp only [Bool.false_eq_true, if_false]
  refine wpAny_pure (wpAny_bind (wpAny_bind (wpAny_isInstance (T := "list") (b := false) ty F.sub_list_bytearray ?_)))
  simp only [Bool.false_eq_true, if_false]
  refine wpAny_pure (wpAny_pure ?_)
  refine wpAny_bind (wpAny_newObj_type ?_)
  have hsz : s.heap.objs.size < s₂.heap.objs.size := hfp _ List.mem_cons_self
  have hSf : s₂.heap.objs.size ∉ [s.heap.objs.size, l] := fun hm => Nat.lt_irrefl _ (hfp _ hm)
  have hlt : ∀ {x : Addr} {o : Obj}, s.heap.get? x = some o → x ∉ [s.heap.objs.size] ∧ x ≠ s₂.heap.objs.size := fun {x o} e => ⟨hw _ _ e, Nat.ne_of_lt (Nat.lt_trans (Heap.lt_size e) hsz)⟩
  refine wpAny_pure ⟨plainId_quiet F.plain_sum_loop _, sum_loopL W s₂.heap.objs.size hSf its b nn (fun i v hv => hval i v (by simpa using hv)) (fun i hi => hlt (hb i (by simpa using hi))) (fun x hx => by rw [List.mem_singleton.mp hx]; exact hsz)
    vs.toArray.size 0 _ p acc na 0 rfl (Nat.zero_le _) (W.frame 0 s₂ _ _ st (Nat.le_refl _) fun x _ o e => Heap.get?_push_of_some _ e) (Heap.get?_push_size _ rfl) (Heap.get?_push_of_some _ hp2) (hlt hp).1 (hlt hp).2 (fun j hj => Heap.get?_push_of_some _ (hk _ _ (hb j (by simpa using hj)))) (by simpa using hz) fun s' tot' na' hm hq h0 h1 => ?_⟩
  obtain ⟨hp', g, d, tk, os⟩ := s'
  have e1 : g = s₂.gens := hm.gens
  have e2 : d = s₂.drawn := hm.drawn
  have e3 : os = s₂.os := hm.os
  subst e
  subst e1 e2 e3
  refine h hp' tk tot' na' (fun x o ex => hm.heap x o (fun hx => ?_) (Heap.get?_push_of_some _ (hk _ _ ex))) (by simpa using hq) (fun z => h0 (by simpa using z)) fun z => ?_
  · rcases List.mem_cons.mp hx with hx | hx
    · exact (hlt ex).2 hx
    · exact (hlt ex).1 hx
  · exact Nat.le_of_lt (Nat.lt_trans hsz (h1 (by simpa using z)))
end
end Lx
namespace Lx
open PySem PySem.Spec L2 PyProof.Rows
def rSumL (K : PySem.W.Frag) : List V → Hp → VK → Prop := fun xs H Q => ∃ (a p : Addr) (ws : List (Addr × List V)) (acc : List V), xs = [.ref a, .ref p] ∧ SqL K H a (ws.map fun w => V.ref w.1) ∧ (∀ w ∈ ws, H w.1 = some (.lst w.2)) ∧ H p = some (.lst acc) ∧
  (acc ++ ws.flatMap (·.2)).length ≤ sizeLine ∧ (ws = [] → Q (.ref p) H) ∧ (ws ≠ [] → ∀ q, H q = none → Q (.ref q) (upd H q (.lst (acc ++ ws.flatMap (·.2)))))
theorem Vals.get2 : ∀ {vs : List V} {us : List Value}, Vals vs us → ∀ (i : Nat) (u : Value), us[i]? = some u → ∃ v, vs[i]? = some v ∧ RelV v u
  | _, _, .nil, i, u, h => by simp at h
  | _, _, .cons a r, 0, u, h => by simp at h; subst h; exact ⟨_, rfl, a⟩
  | _, _, .cons a r, i + 1, u, h => by
    obtain ⟨v, h1, h2⟩ := Vals.get2 r i u (by simpa using h)
    exact ⟨v, by simpa using h1, h2⟩
theorem vals_cat {ws : List (Addr × List V)} {its : Nat → List Value} (h : ∀ (j : Nat) (w : Addr × List V), ws[j]? = some w → Vals w.2 (its j)) : ∀ (k i : Nat), i + k = ws.length → Vals ((ws.drop i).flatMap (·.2)) (catA its i k)
  | 0, i, e => by
    rw [List.drop_eq_nil_of_le (by omega)]
    exact .nil
  | k + 1, i, e => by
    have hi : i < ws.length := by omega
    rw [List.drop_eq_getElem_cons hi, List.flatMap_cons]
    exact (h i _ (List.getElem?_eq_getElem hi)).append (vals_cat h k (i + 1) (by omega))
section
variable {X : Cx} {K : PySem.W.Frag}
theorem call_sumL (hc : X.calm = true) : CallR X (.builtin "sum") (rSumL X.K) := by
  intro pins s σ H xs us Q I r h
  obtain ⟨a, p, ws, acc, rfl, hS, hw, hp, hz, q0, q1⟩ := h
  obtain ⟨u1, u2, rfl, r1, r2⟩ := vals2 r
  cases r1; cases r2
  obtain ⟨its0, rv, pl, hz0⟩ := I.list hS
  obtain ⟨_, ai, an, ra, _, hpo⟩ := I.lstM hp
  have sk : ∀ j : Nat, ∃ x : List Value × Nat, ∀ w, ws[j]? = some w → Vals w.2 x.1 ∧ s.heap.get? w.1 = some { cls := .type "list", data := .seq x.1.toArray x.2 } := fun j => by
    cases e : ws[j]? with
    | none => exact ⟨([], 0), fun w z => by cases z⟩
    | some w =>
      obtain ⟨_, i1, n1, v1, _, g1⟩ := I.lstM (hw w (List.mem_of_getElem? e))
      exact ⟨(i1, n1), fun w2 z => by cases z; exact ⟨v1, g1⟩⟩
  obtain ⟨f, hf⟩ := Classical.skolem.mp sk
  have hl0 : its0.length = ws.length := by rw [← rv.length, List.length_map]
  have cat := vals_cat (ws := ws) (its := fun j => (f j).1) (fun j w e => (hf j w e).1) ws.length 0 (by simp)
  rw [List.drop_zero] at cat
  refine call_sum_lists (its := fun j => (f j).1) (b := fun j => (ws[j]?.map (·.1)).getD 0) (nn := fun j => (f j).2) (I.ok.hd hc) pl.isList hpo (fun i v hv => ?_) (fun j hj => ?_) ?_ (fun h' tk q nq hk hq h0 h1 => ?_)
  · obtain ⟨v2, e1, e2⟩ := Vals.get2 rv i v hv
    rw [List.getElem?_map] at e1
    cases e : ws[i]? with
    | none => rw [e] at e1; cases e1
    | some w => rw [e] at e1; cases e1; rw [show v = Value.ref w.1 from e2]; rfl
  · have hj2 : j < ws.length := by omega
    have e := List.getElem?_eq_getElem hj2
    simp only [e, Option.map_some, Option.getD_some]
    exact (hf j _ e).2
  · rw [hl0, ← ra.length, ← cat.length, ← List.length_append]; exact hz
  · rw [hl0] at hq h0 h1
    by_cases hws : ws = []
    · subst hws
      rw [h0 rfl]
      exact ⟨.ref p, H, I.kept hk, rfl, q0 rfl⟩
    · have hsz := h1 (by intro z; exact hws (List.eq_nil_of_length_eq_zero z))
      exact ⟨.ref q, _, I.laid (t' := tk) (o := .lst (acc ++ ws.flatMap (·.2))) hk hsz ⟨hz, _, nq, ra.append cat, hq⟩, rfl, q1 hws q (I.hok.fresh hsz)⟩
end
abbrev IsTb := List (Ky × Bool)
structure OwnC (K : PySem.W.Frag) (c : Str) : Prop where
  ok : ∀ (H : Hp) (a dx : Addr) (fs : List (Str × V)), H a = some (.ins (He.ga K c) dx fs) → TyX K H (.ref a) (.ref (He.ga K c))
inductive IsOk (K : PySem.W.Frag) (u : Value) : IsTb → Prop
  | nil : IsOk K u []
  | cons {t : Ky} {b : Bool} {tb : IsTb} : PySem.W.kitOne K (vTy K t) u = some b → (∀ c, t = .c c → OwnC K c) → IsOk K u tb → IsOk K u ((t, b) :: tb)
theorem IsOk.get {K : PySem.W.Frag} {u : Value} : ∀ {tb : IsTb} {t : Ky} {b : Bool}, IsOk K u tb → tb.lookup t = some b → PySem.W.kitOne K (vTy K t) u = some b ∧ ∀ c, t = .c c → OwnC K c
  | _, _, _, .nil, h => by cases h
  | _, t, b, .cons (t := t2) h1 h2 r, h => by
    rw [List.lookup_cons] at h
    cases q : (t == t2) with
    | true => rw [q] at h; cases h; rw [eq_of_beq q]; exact ⟨h1, h2⟩
    | false => rw [q] at h; exact r.get h
end Lx
namespace Lx
open PySem PySem.Spec L2 PyProof.Rows
def Ev (te : TE) (σ : L2.St) (H : Hp) (v : V) : Prop := ∀ Q : VK, Q v H → te σ H Q
abbrev rGt1 : R2 := rI0 fun i j => .bl (decide (j < i))
abbrev rLt1 : R2 := rI0 fun i j => .bl (decide (i < j))
abbrev rGe1 : R2 := rI0 fun i j => .bl (decide (j ≤ i))
abbrev rMod1 : R2 := rI (fun _ j => 0 < j) fun i j => .int (i % j)
abbrev rFd1 : R2 := rI CDiv fun i j => .int (i / j)
abbrev rAdd1 : R2 := rI0 fun i j => .int (i + j)
abbrev rSub1 : R2 := rI0 fun i j => .int (i - j)
abbrev rMul1 : R2 := rI CMul fun i j => .int (i * j)
abbrev rPow1 : R2 := rI CPow fun i j => .int (i ^ j.toNat)
abbrev rInt1 : List V → Hp → VK → Prop := fun xs H Q => (∃ i, xs = [.int i] ∧ Q (.int i) H) ∨ ∃ k, xs = [.bl k] ∧ Q (.int (if k then 1 else 0)) H
abbrev rAbs1 : List V → Hp → VK → Prop := fun xs H Q => ∃ i, xs = [.int i] ∧ Q (.int (if i < 0 then -i else i)) H
abbrev tI1 (te : TE) : TE := tCB rInt1 (tCons te tNil)
abbrev tA1 (te : TE) : TE := tCB rAbs1 (tCons te tNil)
abbrev tLn (K : PySem.W.Frag) (te : TE) : TE := tCB (rLen K) (tCons te tNil)
abbrev kk (x : Str) : TE := tC (.str x)
section
variable {K : PySem.W.Frag} {σ : L2.St} {H : Hp} {ta tb : TE}
theorem ev_var {i : Nat} {v : V} (h : σ[i]? = some (some v)) : Ev (tVar i) σ H v := fun Q q => ⟨v, h, q⟩
theorem ev_c {v : V} : Ev (tC v) σ H v := fun Q q => q
theorem ev_op {r : R2} {x y z : V} (ha : Ev ta σ H x) (hb : Ev tb σ H y) (hr : ∀ Q : VK, Q z H → r x y H Q) : Ev (tOp r ta tb) σ H z := fun Q q => ha _ (hb _ (hr Q q))
theorem ev_i0 {f : Int → Int → V} {i j : Int} (ha : Ev ta σ H (.int i)) (hb : Ev tb σ H (.int j)) : Ev (tOp (rI0 f) ta tb) σ H (f i j) := ev_op ha hb fun Q q => ⟨i, j, rfl, rfl, q⟩
theorem ev_i {c : Int → Int → Prop} {f : Int → Int → V} {i j : Int} (ha : Ev ta σ H (.int i)) (hb : Ev tb σ H (.int j)) (hc : c i j) : Ev (tOp (rI c f) ta tb) σ H (f i j) := ev_op ha hb fun Q q => ⟨i, j, rfl, rfl, hc, q⟩
theorem ev_k (i : Int) : Ev (tC (.int i)) σ H (.int i) := fun Q q => q
theorem ev_v (k : Nat) (i : Int) (h : σ[k]? = some (some (.int i))) : Ev (tVar k) σ H (.int i) := ev_var h
theorem ev_add {i j : Int} (ha : Ev ta σ H (.int i)) (hb : Ev tb σ H (.int j)) : Ev (tOp rAdd1 ta tb) σ H (.int (i + j)) := ev_i0 ha hb
theorem ev_sub {i j : Int} (ha : Ev ta σ H (.int i)) (hb : Ev tb σ H (.int j)) : Ev (tOp rSub1 ta tb) σ H (.int (i - j)) := ev_i0 ha hb
theorem ev_mul {i j : Int} (ha : Ev ta σ H (.int i)) (hb : Ev tb σ H (.int j)) (h : CMul i j) : Ev (tOp rMul1 ta tb) σ H (.int (i * j)) := ev_i ha hb h
theorem ev_mod {i j : Int} (ha : Ev ta σ H (.int i)) (hb : Ev tb σ H (.int j)) (h : 0 < j) : Ev (tOp rMod1 ta tb) σ H (.int (i % j)) := ev_i ha hb h
theorem ev_fd {i j : Int} (ha : Ev ta σ H (.int i)) (hb : Ev tb σ H (.int j)) (h : CDiv i j) : Ev (tOp rFd1 ta tb) σ H (.int (i / j)) := ev_i ha hb h
theorem ev_int {i : Int} (ha : Ev ta σ H (.int i)) : Ev (tI1 ta) σ H (.int i) := fun Q q => ha _ (.inl ⟨i, rfl, q⟩)
theorem ev_abs {i : Int} (ha : Ev ta σ H (.int i)) : Ev (tA1 ta) σ H (.int (if i < 0 then -i else i)) := fun Q q => ha _ ⟨i, rfl, q⟩
theorem ev_len {a : Addr} {xs : List V} (ha : Ev ta σ H (.ref a)) (hs : SqL K H a xs) : Ev (tLn K ta) σ H (.int xs.length) := fun Q q => ha _ ⟨_, _, rfl, Or.inl ⟨_, hs, rfl⟩, q⟩
theorem ev_ix {a : Addr} {xs : List V} {i : Int} {v : V} (ha : Ev ta σ H (.ref a)) (hb : Ev tb σ H (.int i)) (hs : SqL K H a xs) (hv : atI xs i = some v) : Ev (tOp (rIx K) ta tb) σ H v := ev_op ha hb fun Q q => .inl ⟨a, xs, i, v, rfl, rfl, hs, hv, q⟩
theorem ev_get {a : Addr} {kvs : List (Key × V)} {x : Str} {v : V} (ha : Ev ta σ H (.ref a)) (hs : H a = some (.dK kvs)) (hv : valV kvs (Sum.inr x) = some v) : Ev (tDGet ta (kk x)) σ H v := fun Q q => ha _ ⟨a, v, rfl, by
  have := DGet.k (k := Sum.inr x) hs
  rw [hv] at this
  exact this, q⟩
end
section
variable (K : PySem.W.Frag)
abbrev pLeft : TE := tDGet (tVar 0) (kk "left")
abbrev pTurn : TE := tDGet (tVar 0) (kk "turn")
abbrev pCells : TE := tDGet (tVar 0) (kk "cells")
abbrev p18 : TE := tOp rPow1 (tC (.int 10)) (tC (.int 18))
abbrev pAb : TE := tOp rSub1 (tA1 (tVar 4)) p18
def d1 : TS := tIfS (tTest (tOp rGt1 pLeft (tC (.int 0)))) (tSeq (tAsg (tOp rMod1 (tI1 pLeft) (tVar 1)) (gName 2)) (tSeq (sDPut (tVar 0) (kk "left") (tOp rFd1 pLeft (tVar 1))) (tRet (tVar 2)))) tNext
def d5 : TS := tIfS (tTest (tOp (rNeU K) pCells (tLst tNil))) (tAsg (tOp (rIx K) pCells (tOp rMod1 (tI1 (tVar 3)) (tLn K pCells))) (gName 4)) tNext
def d6 : TS := tIfS (tAnd (tTest (tOp rLt1 (tVar 3) (tLn K pCells))) (tTest (tOp rGe1 (tA1 (tVar 4)) p18))) (tSeq (sDPut (tVar 0) (kk "left") (tOp rFd1 pAb (tVar 1))) (tRet (tOp rMod1 pAb (tVar 1)))) tNext
def d7 : TS := tAsg (tLst (tCons (tC (.int 2147483629)) (tCons (tC (.int 2147483647)) (tCons (tC (.int 2147483587)) (tCons (tC (.int 2147483563)) (tCons (tC (.int 2147483579)) tNil)))))) (gName 5)
def d8 : TS := tAsg (tOp (rIx K) (tVar 5) (tOp rMod1 (tI1 (tVar 3)) (tC (.int 5)))) (gName 6)
def d9 : TS := tAsg (tOp rMod1 (tI1 (tOp rAdd1 (tOp rAdd1 (tOp rMul1 (tOp rMod1 (tI1 (tVar 4)) (tVar 6)) (tC (.int 39373))) (tOp rMul1 (tVar 3) (tOp rAdd1 (tOp rMul1 (tC (.int 30011)) (tVar 3)) (tC (.int 8117))))) (tC (.int 23)))) (tVar 6)) (gName 7)
def d10 : TS := tAsg (tOp rMod1 (tI1 (tOp rMul1 (tVar 7) (tOp rAdd1 (tVar 7) (tC (.int 69621))))) (tOp (rIx K) (tVar 5) (tOp rMod1 (tI1 (tOp rAdd1 (tVar 3) (tC (.int 2)))) (tC (.int 5))))) (gName 7)
def d11 : TS := tRet (tOp rMod1 (tI1 (tOp rFd1 (tOp rMod1 (tI1 (tOp rAdd1 (tOp rAdd1 (tOp rMul1 (tVar 7) (tVar 7)) (tOp rMul1 (tC (.int 16807)) (tVar 7))) (tVar 3))) (tC (.int 2147483549))) (tC (.int 64)))) (tVar 1))
def t_draw : TS := tSeq d1 (tSeq (tAsg pTurn (gName 3)) (tSeq (sDPut (tVar 0) (kk "turn") (tOp rAdd1 (tVar 3) (tC (.int 1)))) (tSeq (tAsg (tOp rAdd1 (tOp rMul1 (tC (.int 43)) (tVar 3)) (tC (.int 19))) (gName 4))
  (tSeq (d5 K) (tSeq (d6 K) (tSeq d7 (tSeq (d8 K) (tSeq d9 (tSeq (d10 K) d11)))))))))
end
@[reducible] def drawD : List D → W D
  | [.pen, .int m] => W.need (0 < m ∧ m < 1073741824) (W.any 1 fun d => ∃ i : Int, d = .int i ∧ 0 ≤ i ∧ i < m)
  | _ => W.stuck
section
variable {K : PySem.W.Frag}
theorem dput {td tv : TE} {σ : L2.St} {H : Hp} {D : Ends} {a : Addr} {kvs : List (Key × V)} {x : Str} {v : V} (hd : ∀ H' : Hp, Ev td σ H' (.ref a)) (hv : Ev tv σ H v) (e : H a = some (.dK kvs)) (hl : kvs.length < sizeLine) (q : D.nx σ (upd H a (.dK (putK kvs (Sum.inr x) v)))) : sDPut td (kk x) tv D σ H :=
  hv _ (hd H _ ⟨a, _, rfl, DPut.k (k := Sum.inr x) e hl, q⟩)
theorem pk_l {l : Addr} {t lf x : Int} : putK (penKvs l t lf) (Sum.inr ("left" : Str)) (.int x) = penKvs l t x := rfl
theorem pk_t {l : Addr} {t lf x : Int} : putK (penKvs l t lf) (Sum.inr ("turn" : Str)) (.int x) = penKvs l x lf := rfl
theorem pv_l {l : Addr} {t lf : Int} : valV (penKvs l t lf) (Sum.inr ("left" : Str)) = some (.int lf) := rfl
theorem pv_t {l : Addr} {t lf : Int} : valV (penKvs l t lf) (Sum.inr ("turn" : Str)) = some (.int t) := rfl
theorem pv_c {l : Addr} {t lf : Int} : valV (penKvs l t lf) (Sum.inr ("cells" : Str)) = some (.ref l) := rfl
theorem pk_len {l : Addr} {t lf : Int} : (penKvs l t lf).length < sizeLine := by rw [sizeLine_eq]; show 3 < 16777216; decide
theorem atI_in {α : Type} {xs : List α} {i : Int} (h0 : 0 ≤ i) (h1 : i < xs.length) : ∃ v, atI xs i = some v ∧ xs[i.toNat]? = some v := by
  have hl : i.toNat < xs.length := by omega
  have e : ixN xs.length i = some i.toNat := by
    unfold ixN
    rw [if_pos h0, if_pos h1]
  refine ⟨xs[i.toNat], ?_, List.getElem?_eq_getElem hl⟩
  unfold atI
  rw [e]
  exact List.getElem?_eq_getElem hl
theorem itD {c : Prop} [Decidable c] {a b : Prop} (h : c) (x : a) : (if decide c = true then a else b) := by rw [if_pos (decide_eq_true h)]; exact x
theorem itN {c : Prop} [Decidable c] {a b : Prop} (h : ¬ c) (x : b) : (if decide c = true then a else b) := by rw [if_neg (by simpa using h)]; exact x
theorem ite1 {c : Bool} {a b : Prop} (h : c = true) (x : a) : (if c = true then a else b) := by rw [if_pos h]; exact x
theorem shaped_ints (cs : List Int) : SeqAt.shaped (.list (cs.map .int)) = true := by
  have h1 : ∀ cs : List Int, PyData.canLayAll0 (cs.map .int) = true := fun cs => by
    induction cs with
    | nil => rfl
    | cons c r ih => exact ih
  have h2 : (PyData.list (cs.map .int)).depth ≤ 64 := by
    show PyData.depthAll (cs.map .int) + 1 ≤ 64
    rw [depth_ints]
    decide
  exact Bool.and_eq_true_iff.mpr ⟨h1 cs, decide_eq_true h2⟩
theorem ne_nil (c : Int) (r : List Int) : (!PyData.eqv (.list ((c :: r).map .int)) (.list [])) = true := rfl
theorem draw_pure {vs : List V} {H : Hp} {Q : VK} {E : XK} (h : Pr K 2 drawD vs H Q E) : t_draw K { nx := fun _ H' => Q .non H', rt := Q } (L2.start ["_law_pen_here", "_law_span", "_law_digit", "_law_turn", "_law_cell", "_law_primes", "_law_prime", "_law_drawn"] vs) H := by
  obtain ⟨pn, F, ds, n, ok, r, dl, q⟩ := h
  match ds, r, q with
  | [.pen, .int m], r, q1 =>
    obtain ⟨v0, v1, rfl, r0, r1⟩ := r.two
    cases r1
    obtain ⟨⟨m0, m1⟩, k, rfl, q2⟩ := q1
    obtain rfl : v0 = .ref pn := by cases r0; rfl
    obtain ⟨l, cs, t, lf, hp, hl, hcs, t0, tn, lf0⟩ := ok.pen
    have fin : ∀ (H' : Hp) (t' lf' i : Int), (∀ a o, a ≠ pn → H a = some o → H' a = some o) → H' pn = some (.dK (penKvs l t' lf')) → 0 ≤ t' → t' ≤ t + 1 → 0 ≤ lf' → 0 ≤ i → i < m → Q (.int i) H' := fun H' t' lf' i hk hp' ht0 ht1 hl0 i0 i1 =>
      q2 (.int i) ⟨i, rfl, i0, i1⟩ (.int i) F H' ⟨hk, Le.refl F, fun a o e z => by rw [z] at e; cases e⟩ ⟨fun a o e => hk a o (fun z => by rw [z, ok.fpn] at e; cases e) (ok.fro a o e), ok.fpn, l, cs, t', lf', hp', hl, hcs, ht0, by have : ((k + 1 : Nat) : Int) = k + 1 := rfl; omega, hl0⟩ (.int i)
    let σ0 : L2.St := [some (.ref pn), some (.int m), none, none, none, none, none, none]
    have g0 : ∀ σ (H' : Hp), σ[0]? = some (some (V.ref pn)) → Ev (tVar 0) σ H' (.ref pn) := fun σ H' e => ev_var e
    show t_draw K _ σ0 H
    have evl : Ev pLeft σ0 H (.int lf) := ev_get (g0 σ0 H rfl) hp pv_l
    have ev1 : ∀ H', Ev (tVar 1) σ0 H' (.int m) := fun H' => ev_var rfl
    unfold t_draw d1
    refine (ev_i0 evl ev_c) _ ⟨decide (0 < lf), rfl, ?_⟩
    by_cases hlf : 0 < lf
    · refine itD hlf ?_
      refine (ev_mod (ev_int evl) (ev1 H) m0) _ ?_
      have evl2 : Ev pLeft (σ0.set 2 (some (.int (lf % m)))) H (.int lf) := ev_get (g0 _ H rfl) hp pv_l
      refine dput (fun H' => g0 _ H' rfl) (ev_fd evl2 (ev_v 1 m rfl) ⟨m0, m1⟩) hp pk_len ?_
      rw [pk_l]
      refine ⟨_, rfl, fin _ t (lf / m) (lf % m) (fun a o na e => by rw [upd_ne na]; exact e) upd_same t0 (by omega) (Int.ediv_nonneg lf0 (by omega)) (Int.emod_nonneg _ (by omega)) (Int.emod_lt_of_pos _ m0)⟩
    · refine itN hlf ?_
      refine (ev_get (g0 σ0 H rfl) hp pv_t : Ev pTurn σ0 H (.int t)) _ ?_
      let σ1 : L2.St := [some (.ref pn), some (.int m), none, some (.int t), none, none, none, none]
      unfold gName
      refine dput (fun H' => g0 _ H' rfl) (ev_add (ev_v 3 t rfl) (ev_k 1)) hp pk_len ?_
      rw [pk_t]
      generalize hH1 : upd H pn (.dK (penKvs l (t + 1) lf)) = H1
      have hp1 : H1 pn = some (.dK (penKvs l (t + 1) lf)) := by rw [← hH1]; exact upd_same
      have k1 : ∀ a o, a ≠ pn → H a = some o → H1 a = some o := fun a o na e => by rw [← hH1, upd_ne na]; exact e
      have lc : ∀ H' : Hp, (∀ a o, a ≠ pn → H a = some o → H' a = some o) → SqL K H' l (cs.map V.int) := fun H' hk => Le.sqL (fun a o e => hk a o (fun z => by rw [z, ok.fpn] at e; cases e) (ok.fro a o e)) hl
      refine (ev_add (ev_mul (ev_k 43) (ev_v 3 t rfl) (.inl ⟨by decide, by decide⟩)) (ev_k 19)) _ ?_
      have tb : t < 2 ^ 60 := by have : ((k + 1 : Nat) : Int) = k + 1 := rfl; omega
      -- the rest, once the cell is there
      have rest : ∀ (c : Int) (H2 : Hp), H2 pn = some (.dK (penKvs l (t + 1) lf)) → (∀ a o, a ≠ pn → H a = some o → H2 a = some o) →
          tSeq (d6 K) (tSeq d7 (tSeq (d8 K) (tSeq d9 (tSeq (d10 K) d11)))) { nx := fun _ H' => Q .non H', rt := Q } [some (.ref pn), some (.int m), none, some (.int t), some (.int c), none, none, none] H2 := by
        intro c H2 hp2 k2
        let σ2 : L2.St := [some (.ref pn), some (.int m), none, some (.int t), some (.int c), none, none, none]
        show tSeq (d6 K) _ _ σ2 H2
        have evc : Ev pCells σ2 H2 (.ref l) := ev_get (g0 _ H2 rfl) hp2 pv_c
        have eva : Ev (tA1 (tVar 4)) σ2 H2 (.int (if c < 0 then -c else c)) := ev_abs (ev_var rfl)
        have e18 : Ev p18 σ2 H2 (.int (10 ^ 18)) := ev_i (c := CPow) (f := fun i j => .int (i ^ j.toNat)) (i := 10) (j := 18) ev_c ev_c ⟨by decide, by decide, by decide⟩
        have evab : Ev pAb σ2 H2 (.int ((if c < 0 then -c else c) - 10 ^ 18)) := ev_i0 eva e18
        unfold d6
        -- what comes when the cell isn't wide
        have tail : tSeq d7 (tSeq (d8 K) (tSeq d9 (tSeq (d10 K) d11))) { nx := fun _ H' => Q .non H', rt := Q } σ2 H2 := by
          unfold d7
          refine ⟨by rw [sizeLine_eq]; decide, fun p hpf => ?_⟩
          have pne : p ≠ pn := fun z => by rw [z, hp2] at hpf; cases hpf
          let ps : List V := [.int 2147483629, .int 2147483647, .int 2147483587, .int 2147483563, .int 2147483579]
          have hps : upd H2 p (.lst ps) p = some (.lst ps) := upd_same
          have hp3 : upd H2 p (.lst ps) pn = some (.dK (penKvs l (t + 1) lf)) := by rw [upd_ne pne.symm]; exact hp2
          have k3 : ∀ a o, a ≠ pn → H a = some o → upd H2 p (.lst ps) a = some o := fun a o na e => by
            have := k2 a o na e
            rw [upd_ne (ne_of_none this hpf)]; exact this
          generalize upd H2 p (.lst ps) = H3 at hps hp3 k3
          have prm : ∀ i : Int, 0 ≤ i → i < 5 → ∃ pr : Int, atI ps i = some (.int pr) ∧ 0 < pr ∧ pr < 2 ^ 31 := fun i h0 h5 => by
            have : i = 0 ∨ i = 1 ∨ i = 2 ∨ i = 3 ∨ i = 4 := by omega
            rcases this with rfl | rfl | rfl | rfl | rfl
            · exact ⟨2147483629, rfl, by decide, by decide⟩
            · exact ⟨2147483647, rfl, by decide, by decide⟩
            · exact ⟨2147483587, rfl, by decide, by decide⟩
            · exact ⟨2147483563, rfl, by decide, by decide⟩
            · exact ⟨2147483579, rfl, by decide, by decide⟩
          obtain ⟨pr, hpr, pr0, pr1⟩ := prm (t % 5) (Int.emod_nonneg _ (by decide)) (Int.emod_lt_of_pos _ (by decide))
          obtain ⟨pr2, hpr2, pr20, pr21⟩ := prm ((t + 2) % 5) (Int.emod_nonneg _ (by decide)) (Int.emod_lt_of_pos _ (by decide))
          unfold d8
          refine (ev_ix (ev_var (v := .ref p) rfl) (ev_mod (ev_int (ev_v 3 t rfl)) (ev_k 5) (by decide)) (SqL.of hps) hpr) _ ?_
          unfold d9
          have cm : 0 ≤ c % pr ∧ c % pr < pr := ⟨Int.emod_nonneg _ (by omega), Int.emod_lt_of_pos _ pr0⟩
          refine (ev_mod (ev_int (ev_add (ev_add (ev_mul (ev_mod (ev_int (ev_v 4 c rfl)) (ev_v 6 pr rfl) pr0) (ev_k 39373) (.inr ⟨by decide, by decide⟩)) (ev_mul (ev_v 3 t rfl) (ev_add (ev_mul (ev_k 30011) (ev_v 3 t rfl) (.inl ⟨by decide, by decide⟩)) (ev_k 8117)) (.inl ⟨by omega, by omega⟩))) (ev_k 23))) (ev_v 6 pr rfl) pr0) _ ?_
          generalize hd : (c % pr * 39373 + t * (30011 * t + 8117) + 23) % pr = dr
          have dr0 : 0 ≤ dr ∧ dr < pr := by rw [← hd]; exact ⟨Int.emod_nonneg _ (by omega), Int.emod_lt_of_pos _ pr0⟩
          unfold d10
          refine (ev_mod (ev_int (ev_mul (ev_v 7 dr rfl) (ev_add (ev_v 7 dr rfl) (ev_k 69621)) (.inl ⟨by omega, by omega⟩))) (ev_ix (ev_var (v := .ref p) rfl) (ev_mod (ev_int (ev_add (ev_v 3 t rfl) (ev_k 2))) (ev_k 5) (by decide)) (SqL.of hps) hpr2) pr20) _ ?_
          generalize hd2 : (dr * (dr + 69621)) % pr2 = dq
          have dq0 : 0 ≤ dq ∧ dq < pr2 := by rw [← hd2]; exact ⟨Int.emod_nonneg _ (by omega), Int.emod_lt_of_pos _ pr20⟩
          unfold d11
          refine (ev_mod (ev_int (ev_fd (ev_mod (ev_int (ev_add (ev_add (ev_mul (ev_v 7 dq rfl) (ev_v 7 dq rfl) (.inl ⟨by omega, by omega⟩)) (ev_mul (ev_k 16807) (ev_v 7 dq rfl) (.inl ⟨by decide, by decide⟩))) (ev_v 3 t rfl))) (ev_k 2147483549) (by decide)) (ev_k 64) ⟨by decide, by decide⟩)) (ev_v 1 m rfl) m0) _ ?_
          exact fin H3 (t + 1) lf _ k3 hp3 (by omega) (by omega) lf0 (Int.emod_nonneg _ (by omega)) (Int.emod_lt_of_pos _ m0)
        refine (ev_i0 (ev_var (v := .int t) rfl) (ev_len evc (lc H2 k2))) _ ⟨_, rfl, ?_⟩
        by_cases c1 : t < ((cs.map V.int).length : Int)
        · refine itD c1 ?_
          refine (ev_i0 eva e18) _ ⟨_, rfl, ?_⟩
          by_cases c2 : (10 : Int) ^ 18 ≤ (if c < 0 then -c else c)
          · refine itD c2 ?_
            refine dput (fun H' => g0 _ H' rfl) (ev_fd evab (ev_v 1 m rfl) ⟨m0, m1⟩) hp2 pk_len ?_
            rw [pk_l]
            have e18' : ∀ H', Ev p18 σ2 H' (.int (10 ^ 18)) := fun H' => ev_i (c := CPow) (f := fun i j => .int (i ^ j.toNat)) (i := 10) (j := 18) ev_c ev_c ⟨by decide, by decide, by decide⟩
            refine (ev_mod (ev_sub (ev_abs (ev_v 4 c rfl)) (e18' _)) (ev_v 1 m rfl) m0) _ ?_
            refine fin _ (t + 1) _ _ (fun a o na e => by rw [upd_ne na]; exact k2 a o na e) upd_same (by omega) (by omega) (Int.ediv_nonneg (by omega) (by omega)) (Int.emod_nonneg _ (by omega)) (Int.emod_lt_of_pos _ m0)
          · exact itN c2 tail
        · exact itN c1 (iteF tail)
      -- the cell
      let σ2 : L2.St := [some (.ref pn), some (.int m), none, some (.int t), some (.int (43 * t + 19)), none, none, none]
      show tSeq (d5 K) _ _ σ2 H1
      unfold d5
      have evc : Ev pCells σ2 H1 (.ref l) := ev_get (g0 _ H1 rfl) hp1 pv_c
      refine evc _ ⟨by rw [sizeLine_eq]; decide, fun p hpf => ?_⟩
      have pne : p ≠ pn := fun z => by rw [z, hp1] at hpf; cases hpf
      have hp2 : upd H1 p (.lst []) pn = some (.dK (penKvs l (t + 1) lf)) := by rw [upd_ne pne.symm]; exact hp1
      have hpp : upd H1 p (.lst []) p = some (.lst []) := upd_same
      have k2 : ∀ a o, a ≠ pn → H a = some o → upd H1 p (.lst []) a = some o := fun a o na e => by
        have := k1 a o na e
        rw [upd_ne (ne_of_none this hpf)]; exact this
      generalize upd H1 p (.lst []) = H2 at hp2 hpp k2
      refine .inr ⟨.list (cs.map .int), .list [], .lst (lc H2 k2) (dp_ints cs), .lst (SqL.of hpp) .nil, ?_, rfl, ⟨_, rfl, ?_⟩⟩
      · exact shaped_ints cs
      cases hcs0 : cs with
      | nil =>
        subst hcs0
        exact iteF (rest (43 * t + 19) H2 hp2 k2)
      | cons c0 cr =>
        refine ite1 (ne_nil c0 cr) ?_
        have hlen : (0 : Int) < ((cs.map V.int).length : Int) := by rw [hcs0]; simp
        have evc2 : Ev pCells σ2 H2 (.ref l) := ev_get (g0 _ H2 rfl) hp2 pv_c
        obtain ⟨v, hv, hv2⟩ := atI_in (xs := cs.map V.int) (i := t % ((cs.map V.int).length : Int)) (Int.emod_nonneg _ (by omega)) (Int.emod_lt_of_pos _ hlen)
        rw [List.getElem?_map] at hv2
        obtain ⟨c, _, rfl⟩ : ∃ c, cs[(t % ((cs.map V.int).length : Int)).toNat]? = some c ∧ v = .int c := by
          cases z : cs[(t % ((cs.map V.int).length : Int)).toNat]? with
          | none => rw [z] at hv2; cases hv2
          | some c => rw [z] at hv2; cases hv2; exact ⟨c, rfl, rfl⟩
        refine (ev_ix evc2 (ev_mod (ev_int (ev_v 3 t rfl)) (ev_len evc2 (lc H2 k2)) hlen) (lc H2 k2) hv) _ ?_
        exact rest c H2 hp2 k2
end
end Lx
namespace Lx
open PySem PySem.Spec L2 PyProof.Rows He
section
variable {K : PySem.W.Frag}
theorem fm_meth {x m y : Str} (c : (Fm.meth x m y).ok K = true) : Meth K (ga K x) m (ma K (ga K y) m) := by
  obtain ⟨c1, c⟩ := ba c
  obtain ⟨c2, c3⟩ := ba c
  exact ⟨eqO_ok c1, c2, c3⟩
theorem fm_prop {x f y : Str} (c : (Fm.prop x f y).ok K = true) : PropOf K (ga K x) f (ppA K y f) (pgA K y f) := by
  obtain ⟨c1, c⟩ := ba c
  obtain ⟨c2, c⟩ := ba c
  obtain ⟨c3, c4⟩ := ba c
  refine ⟨eqO_ok c1, eqO_ok c2, of_decide_eq_true c3, ?_⟩
  unfold pgA
  split at c4
  · rename_i g r e
    exact ⟨r, by rw [e]⟩
  · cases c4
theorem fm_ini {x y : Str} (c : (Fm.ini x y).ok K = true) : Mk K (ga K x) (ma K (ga K y) "__init__") := by
  obtain ⟨c1, c⟩ := ba c
  obtain ⟨c2, c⟩ := ba c
  obtain ⟨c3, c4⟩ := ba c
  exact ⟨c1, eqO_ok c2, c3, c4⟩
theorem fm_sup {x d y : Str} (c : (Fm.sup x d y).ok K = true) : SupC K (ga K x) (ga K d) (ma K (ga K y) "__init__") := by
  obtain ⟨c1, c⟩ := ba c
  obtain ⟨c2, c⟩ := ba c
  obtain ⟨c3, c4⟩ := ba c
  exact ⟨of_decide_eq_true c1, eqO_ok c2, of_decide_eq_true c3, c4⟩
theorem fm_own {x : Str} (c : (Fm.own x).ok K = true) (hC : Cls K (ga K x)) : OwnC K x := by
  obtain ⟨c1, c⟩ := ba c
  obtain ⟨c2, c⟩ := ba c
  obtain ⟨c3, c4⟩ := ba c
  exact ⟨fun H a dx fs e => .base (.ins e hC (eqO_ok c1) (eqO_ok c2) (of_decide_eq_true c3) (of_decide_eq_true c4))⟩
theorem fm_isi {t c : Ky} {b : Bool} (h : (Fm.isi t c b).ok K = true) : PySem.W.kitOne K (vTy K t) (vTy K c) = some b := of_decide_eq_true h
theorem fm_top (c : Fm.top.ok K = true) : PySem.W.nsIn K mainGlobals "super" = some none ∧ PySem.W.nsIn K cStatics "thirdparty.any" = some none := by
  obtain ⟨c1, c2⟩ := ba c
  exact ⟨eqO_ok c1, eqO_ok c2⟩
end
theorem strB_ok {file : Str} {o : Option Value} (h : strB file o = true) : ∃ f t, o = some (.str f t) ∧ (file == f) = true := by
  unfold strB at h
  split at h
  · exact ⟨_, _, rfl, h⟩
  · cases h
theorem DefM.funD {K : PySem.W.Frag} {file : Str} {d : DefM} (hs : d.sup = none) (e : fnM K (d.at_.a K) = d.val) (c : d.ok K file = true) : ∃ fd, FunD K d.name d.qual d.params d.body d.scope d.dfl d.kwd (d.at_.a K) fd := by
  obtain ⟨kp, c2⟩ := ba c
  unfold fnM at e
  cases q : K.lookup (d.at_.a K) with
  | none => rw [q] at c2; cases c2
  | some o =>
    obtain ⟨oc, od, dt, osl⟩ := o
    rw [q] at c2 e
    cases dt with
    | func fd =>
      obtain ⟨n1, n2, n3, n4, n5, n6, n7, n8, n9, n10, n11, n12, n13, n14, n15⟩ := fd
      have e2 : (some (n1, n2, n3, n4, n5, n6, n15) : FnM) = some (d.name, d.qual, d.params, .stmts d.body, d.scope, mainGlobals, builtinsNs) := e
      simp only [Option.some.injEq, Prod.mk.injEq] at e2
      obtain ⟨h1, h2, h3, h4, h5, h6, h8⟩ := e2
      subst h1 h2 h3 h4 h5 h6 h8
      rw [hs] at c2
      obtain ⟨k1, k2⟩ := ba c2
      obtain ⟨k3, k4⟩ := ba k2
      cases n7 with
      | cons a r => cases k4
      | nil =>
        obtain ⟨k5, k6⟩ := ba k3
        exact ⟨_, ⟨oc, od, n8, n9, n10, n11, n12, n13, n14, osl, rfl, q, k1, dflB_ok k5, kwdB_ok k6⟩, kp⟩
    | _ => cases c2
theorem DefM.supD {P : Program} {K : PySem.W.Frag} {d : DefM} {D : Str} (hs : d.sup = some D) (e : fnM K (d.at_.a K) = d.val) (c : d.ok K P.main.file = true) (ht : Fm.top.ok K = true) (hp : (P.main.scope.names.lookup ("super" : Str)).isSome = false) :
    ∃ fd, SupG P K d.name d.qual d.params d.body d.scope d.dfl d.kwd (ga K D) (d.at_.a K) fd := by
  obtain ⟨t1, t2⟩ := fm_top ht
  obtain ⟨kp, c2⟩ := ba c
  unfold fnM at e
  cases q : K.lookup (d.at_.a K) with
  | none => rw [q] at c2; cases c2
  | some o =>
    obtain ⟨oc, od, dt, osl⟩ := o
    rw [q] at c2 e
    cases dt with
    | func fd =>
      obtain ⟨n1, n2, n3, n4, n5, n6, n7, n8, n9, n10, n11, n12, n13, n14, n15⟩ := fd
      have e2 : (some (n1, n2, n3, n4, n5, n6, n15) : FnM) = some (d.name, d.qual, d.params, .stmts d.body, d.scope, mainGlobals, builtinsNs) := e
      simp only [Option.some.injEq, Prod.mk.injEq] at e2
      obtain ⟨h1, h2, h3, h4, h5, h6, h8⟩ := e2
      subst h1 h2 h3 h4 h5 h6 h8
      rw [hs] at c2
      obtain ⟨k1, k2⟩ := ba c2
      obtain ⟨k3, k4⟩ := ba k2
      unfold cloB at k4
      cases n7 with
      | nil => cases k4
      | cons a r =>
        cases r with
        | cons _ _ => cases k4
        | nil =>
          obtain ⟨x, cc⟩ := a
          obtain ⟨j1, j2⟩ := ba k4
          obtain ⟨j3, j4⟩ := ba j2
          obtain ⟨j5, j6⟩ := ba j4
          have ex : x = "__class__" := of_decide_eq_true j1
          subst ex
          obtain ⟨k5, k6⟩ := ba k3
          cases n13 with
          | ref cda =>
            have j5' : (match K.lookup cda with | some ⟨_, _, .fields vs, _⟩ => strB P.main.file vs[2]? | _ => false) = true := j5
            refine ⟨_, ⟨oc, od, n8, n9, n10, n11, n12, cda, n14, osl, cc, rfl, q, k1, ⟨dflB_ok k5, kwdB_ok k6⟩, ?_, ?_⟩, kp, Option.isSome_iff_exists.mp j6, t1, t2, hp⟩
            · split at j3
              · rename_i hc
                have ed := of_decide_eq_true j3
                subst ed
                exact ⟨_, _, _, hc⟩
              · cases j3
            · split at j5'
              · rename_i hc
                obtain ⟨f, t, hv, hf⟩ := strB_ok j5'
                exact ⟨_, _, _, _, _, _, hc, hv, hf⟩
              · cases j5'
          | _ => cases k1
    | _ => cases c2
end Lx
namespace Lx
open PySem PySem.Spec L2 PyProof.Rows He
abbrev rLst1 (K : PySem.W.Frag) : List V → Hp → VK → Prop := fun xs H Q => ∃ p ys, xs = [.ref p] ∧ (SqL K H p ys ∨ SqT K H p ys) ∧ ∀ l, H l = none → Q (.ref l) (upd H l (.lst ys))
def t_pen (K : PySem.W.Frag) : TS := tRet (tDisp [(kk "cells", tCB (rLst1 K) (tCons (L2.tSl (rSlU K) (tVar 0) tNoPart (tPart (tC (.int 63)))) tNil)), (kk "turn", tC (.int 0)), (kk "left", tC (.int 0))])
def spPen (K : PySem.W.Frag) : Sp := fun vs H Q _ => ∃ (a : Addr) (ns : List Int), vs = [.ref a] ∧ SqL K H a (ns.map V.int) ∧
  ∀ (p l : Addr) (cs : List Int) (H' : Hp), H p = none → H l = none → cs.length ≤ 63 → (∀ b o, H b = some o → H' b = some o) → H' p = some (.dK (penKvs l 0 0)) → H' l = some (.lst (cs.map V.int)) → l ≠ p → Q (.ref p) H'
theorem spPen.len {K : PySem.W.Frag} (vs : List V) (H : Hp) (Q : VK) (E : XK) (h : spPen K vs H Q E) : vs.length = 1 := by
  obtain ⟨_, _, rfl, _⟩ := h
  rfl
theorem cut_ints (ns : List Int) : ∃ cs : List Int, cs.length ≤ 63 ∧ cutV (ns.map V.int) none (some 63) = cs.map V.int := by
  unfold cutV
  refine ⟨(ns.drop (HT.sIx (ns.map V.int).length 0 none)).take (HT.sIx (ns.map V.int).length (ns.map V.int).length (some 63) - HT.sIx (ns.map V.int).length 0 none), ?_, ?_⟩
  · rw [List.length_take]
    refine Nat.le_trans (Nat.min_le_left _ _) (Nat.le_trans (Nat.sub_le _ _) ?_)
    show HT.sIx _ _ (some 63) ≤ 63
    unfold HT.sIx
    simp only
    split
    · omega
    · exact Nat.min_le_left _ _
  · rw [List.map_take, List.map_drop]
theorem pen_pure {K : PySem.W.Frag} {N : List Str} {vs : List V} {H : Hp} {Q : VK} {E : XK} (h : spPen K vs H Q E) : t_pen K { nx := fun _ H' => Q .non H', rt := Q } (L2.start N vs) H := by
  obtain ⟨a, ns, rfl, hs, q⟩ := h
  obtain ⟨cs, hcs, ecs⟩ := cut_ints ns
  intro p hp
  have s1 : SqL K (upd H p (.dK [])) a (ns.map V.int) := Le.sqL (Le.up hp) hs
  refine ⟨.ref a, rfl, ⟨63, rfl, .inr (.inl ⟨a, _, rfl, s1, fun b hb => ?_⟩)⟩⟩
  rw [ecs]
  refine ⟨b, _, rfl, .inl (SqL.of upd_same), fun l hl => ?_⟩
  have hbp : b ≠ p := fun z => by rw [z, upd_same] at hb; cases hb
  have hlb : l ≠ b := fun z => by rw [z, upd_same] at hl; cases hl
  have hlp : l ≠ p := fun z => by rw [z, upd_ne hbp.symm, upd_same] at hl; cases hl
  have hb0 : H b = none := by rw [upd_ne hbp] at hb; exact hb
  have hl0 : H l = none := by rw [upd_ne hlb, upd_ne hlp] at hl; exact hl
  refine ⟨by rw [upd_ne hlp.symm, upd_ne hbp.symm, upd_same], penKvs l 0 0, rfl, (show 3 ≤ 15 by decide), ?_⟩
  refine q p l cs _ hp hl0 hcs (fun c o e => ?_) upd_same (by rw [upd_ne hlp, upd_same]) hlp
  rw [upd_ne (ne_of_none e hp), upd_ne (ne_of_none e hl0), upd_ne (ne_of_none e hb0), upd_ne (ne_of_none e hp)]
  exact e
theorem FnOk.up {P : Program} {w : World} {K : PySem.W.Frag} {mg : Str → Option Value} {base : Heap} {CX : CXT} {j k : Nat} {f : Addr} {fd : FuncData} {ps : List Str} {sp : Sp} (F : FnOk P w K mg base CX j f fd ps sp) (h : j ≤ k) : FnOk P w K mg base CX k f fd ps sp :=
  ⟨F.len, fun A outer s H args us vs Q E hr => F.run A outer s H args us vs Q E (hr.mono h)⟩
end Lx
namespace Lx
open PySem PySem.Spec L2 PyProof.Rows He CwR
section
variable {X : Cx}
theorem pe_gi {x : Str} {i : Int} {pos : Pos} (h : ∃ t, X.mg x = some (.int i t)) (hg : Gl X x) (hd : (x == ("__debug__" : Str)) = false := by decide) : PE X (.Name x pos) (tC (.int i)) := by
  obtain ⟨t, e⟩ := h
  exact pe_glob hg e ⟨t, rfl⟩ hd
theorem pe_gs {x z : Str} {pos : Pos} (h : ∃ t, X.mg x = some (.str z t)) (hg : Gl X x) (hd : (x == ("__debug__" : Str)) = false := by decide) : PE X (.Name x pos) (tC (.str z)) := by
  obtain ⟨t, e⟩ := h
  exact pe_glob hg e ⟨t, rfl⟩ hd
end
theorem fn_const {P : Program} {w : World} {K : PySem.W.Frag} {mg : Str → Option Value} {base : Heap} {x qual : Str} {params : Arguments} {scope : Scope} {f : Addr} {fd : FuncData} {N : List Str} {k j : Nat} {c : Str} {p1 p2 : Pos}
    (F : FunD K x qual params [.Return (some (.Constant (.str c) j p1)) p2] scope [] [] f fd) (S : FnScope N [] scope) {A : Around} {outer : List Env} {s : Shared} {H : Hp} (hr : Room (k + 1) A) (he : Env0 P w K mg base A outer s H) (hb : Binds K fd [] []) :
    codeAny (model P w) A (.call (.ref f) ⟨[], []⟩) (fun r s' => CR CX0 outer P w H s (fun v H' => v = .str c ∧ H' = H) E0 r s' ∧ 1 ≤ s'.toks) s := by
  obtain ⟨oc, od, dV, kV, doc, pm, an, cdv, ct, osl, rfl, lk, hcd, _, _⟩ := F.ex
  have st : ∀ b o, base.get? b = some o → s.heap.get? b = some o := fun b o e => (he.bs b o e).1
  have KX : K.In s.heap := he.mod.kin.keeps st
  refine codeAny_call_function hr.depth (KX _ _ lk) rfl S.co S.gen rfl (PySem.W.codeRec_of KX hcd) (hb s [] KX rfl _ _ _ _ (wpAny_newFunctionEnv_cells S.kind (fun y hy => by cases hy) fun env ee s1 ic => ?_))
  subst ee
  refine ⟨(he.mod.nolimit.keeps st).keeps ic.toInCall.keep, codeAny_func ?_⟩
  have I : Inv (cxOf CX0 P w K mg base N qual scope f cdv A outer s H E0) [] (L2.start N []) H s1 := inv_start (us := []) (vs := []) (ps := []) S hr.hd he rfl .nil ic
  refine wpAny_execs_cons (wpAny_Return_some (Calls.Constant_str ?_))
  have J := I.tok (s1.toks + 1)
  exact ⟨⟨.str c, H, J.os, J.bare, J.base, J.hok, ⟨_, rfl⟩, rfl, rfl⟩, Nat.succ_le_succ (Nat.zero_le _)⟩
section
variable {X : Cx}
theorem pe_crepl {x qual : Str} {params : Arguments} {scope : Scope} {f : Addr} {fd : FuncData} {N : List Str} {k j j2 j3 : Nat} {c y z g r : Str} {p1 p2 p3 p4 c0 c1 apos pos : Pos}
    (F : FunD X.K x qual params [.Return (some (.Constant (.str c) j p1)) p2] scope [] [] f fd) (S : FnScope N [] scope) (hb : Binds X.K fd [] []) (hr : Room (k + 1) X.A) (hg : Gl X g) (hm : X.mg g = some (.ref f))
    (hyz : (y == z) = false) (hz : c.length + (c.length + 1) * z.length ≤ 16777216) (he : Txt.replace c y z = r) (hdb : (g == ("__debug__" : Str)) = false := by decide)
    (hst : starEach [.Constant (.str y) j2 c0, .Constant (.str z) j3 c1] X.env = [(false, eval (.Constant (.str y) j2 c0) X.env), (false, eval (.Constant (.str z) j3 c1) X.env)] := by rfl)
    (hbase : attributeBase (.Call (.Name g p3) [] [] p4) "replace" X.env (eval (.Call (.Name g p3) [] [] p4) X.env) = eval (.Call (.Name g p3) [] [] p4) X.env := by rfl) (hline : (apos.endLine == pos.line) = true := by rfl) :
    PE X (.Call (.Attribute (.Call (.Name g p3) [] [] p4) "replace" apos) [.Constant (.str y) j2 c0, .Constant (.str z) j3 c1] [] pos) (tC (.str r)) := by
  refine ⟨fun pins s σ H Q I h => ?_⟩
  refine PySem.Call_method2 hbase hst hline ?_
  refine wpAny_Call_Name_kw (ld_glob I hg hm ?_ hdb)
  refine PySem.W.callWith_K0 I.kIn F.kp ?_
  refine wpAny_call (codeAny_mono (fn_const F S hr I.env0 hb) fun rr s1 h2 => ?_)
  obtain ⟨h2, h3⟩ := h2
  cases rr with
  | error e => exact h2.elim
  | ok fl => cases fl with
    | next => exact False.elim h2
    | brk => exact False.elim h2
    | cont => exact False.elim h2
    | ret u =>
      obtain ⟨v, H1, I1, rv, ev, eh⟩ := I.after h2
      subst ev eh
      obtain ⟨tx, rfl⟩ := rv
      refine ⟨"str", _, PySem.F.plainAttrs_str, PySem.F.slot_str_replace, PySem.F.type_str_replace, typeIs_str _ _ _, (fun _ e => nomatch e), Calls.callWith_builtin rfl (Calls.evalArgs_plain (Calls.spliced_cons ?_))⟩
      refine Calls.Constant_str (Calls.spliced_cons (Calls.Constant_str (Calls.spliced_nil ?_)))
      exact PySem.SC.replace (by show s1.toks ≠ 0; omega) (by show s1.toks + 1 ≠ 0; omega) (by show s1.toks ≠ s1.toks + 1; omega) hyz hz fun t' k => ⟨.str r, _, I1.tok k, ⟨t', by rw [he]⟩, h⟩
end
end Lx
namespace Lx
open PySem PySem.Spec L2 PyProof.Rows
def revS (x : Str) : Str := ⟨x.cps.toList.reverse.toArray⟩
def tRevS (te : TE) : TE := fun σ H Q => te σ H fun v H1 => ∃ x, v = .str x ∧ x.length ≤ sizeLine ∧ Q (.str (revS x)) H1
theorem rev_idx (n : Nat) : Builtin.Str.strSliceIndices none none (-1) n = (List.range n).reverse := by
  show sliceRange ((n : Int) - 1) (-1) (-1) = _
  rw [PySem.W.krv_sliceRange, PySem.W.krv_range]
theorem rev_pick (x : Str) : (Builtin.Str.strSliceIndices none none (-1) x.length).filterMap (x.cps[·]?) = x.cps.toList.reverse := by
  rw [rev_idx, List.filterMap_reverse]
  exact congrArg List.reverse (PySem.W.krv_all x.cps)
section
variable {X : Cx}
theorem pe_revS {e : Expr} {te : TE} {k : Nat} {p1 p2 p3 pos : Pos} (he : PE X e te) : PE X (.Subscript e (.Slice none none (some (.UnaryOp .USub (.Constant (.int 1) k p1) p2)) p3) pos) (tRevS te) := by
  refine ⟨fun pins s σ H Q I h => ?_⟩
  refine Subscript_ (thn (he.run pins s σ H _ I h) fun v s1 ⟨x, H1, I1, r1, q1⟩ => ?_)
  obtain ⟨y, ex, hz, q⟩ := q1
  subst ex
  obtain ⟨ty, rfl⟩ := r1
  have hst : PO X (some (.UnaryOp .USub (.Constant (.int 1) k p1) p2)) (tPart (tUn (rU fun i => .int (-i)) (tC (.int 1)))) := po_some (pe_un un_neg pe_int)
  refine wpAny_Slice (thn (po_none.run pins s1 σ H1 (fun o H2 => o = none ∧ H2 = H1) I1 ⟨rfl, rfl⟩) fun vl s2 ⟨l, H2, I2, pl, el, e2⟩ => ?_)
  subst el e2
  refine thn (po_none.run pins s2 σ H2 (fun o H3 => o = none ∧ H3 = H2) I2 ⟨rfl, rfl⟩) fun vu s3 ⟨u, H3, I3, pu, eu, e3⟩ => ?_
  subst eu e3
  refine thn (hst.run pins s3 σ H3 (fun o H4 => o = some (-1) ∧ H4 = H3) I3 ⟨1, rfl, -1, rfl, rfl, rfl⟩) fun vs s4 ⟨o, H4, I4, ps, eo, e4⟩ => ?_
  subst eo e4
  have I5 : Inv X pins σ H4 { s4 with heap := s4.heap.push { cls := .type "slice", data := .fields #[vl, vu, vs] } } := I4.kept (t' := s4.toks) fun b ob q => Heap.get?_push_of_some _ q
  obtain ⟨l, rfl, hl⟩ := IsPart.raw pl
  obtain ⟨u, rfl, hu⟩ := IsPart.raw pu
  obtain ⟨st, rfl, hst2⟩ := IsPart.raw ps
  cases l with
  | some z => cases hl
  | none => cases u with
    | some z => cases hu
    | none => cases st with
      | none => cases hst2
      | some z =>
        obtain ⟨zi, zt⟩ := z
        have ez : zi = (-1 : Int) := Option.some.inj hst2
        subst ez
        show wpAny (model X.prog X.w) X.A (subscriptTail e (.Slice none none (some (.UnaryOp .USub (.Constant (.int 1) k p1) p2)) p3) (.str y ty) (.ref s4.heap.objs.size)) (EP X pins σ Q) X.xe _
        refine tail_any (ops := [.str y ty, .ref s4.heap.objs.size]) (typeIs_str _ _ _) (PySem.F.slot_str_getitem.lookup) ?_ (by with_unfolding_all rfl)
        obtain ⟨os, hos, hcs, hds⟩ := Heap.IsSliceOf.new s4.heap (partValue none) (partValue none) (partValue (some (-1, zt)))
        refine wpAny_getItem_str_slice (l := none) (u := none) (st := some (-1, zt)) ⟨os, hos, hcs, hds⟩ rfl ?_
        show Made.post (if ((-1 : Int) == 1 && (Builtin.Str.strSliceIndices none none (-1) y.length).length == y.length) = true then Made.val (.str y ty) else Made.str ⟨((Builtin.Str.strSliceIndices none none (-1) y.length).filterMap (y.cps[·]?)).toArray⟩) (EP X pins σ Q) _
        have hc : (((-1 : Int) == 1) && (Builtin.Str.strSliceIndices none none (-1) y.length).length == y.length) = false := by rw [show ((-1 : Int) == 1) = false from rfl, Bool.false_and]
        rw [if_neg (by rw [hc]; decide), rev_pick]
        exact ⟨by show (⟨y.cps.toList.reverse.toArray⟩ : Str).length ≤ sizeLine; have : (⟨y.cps.toList.reverse.toArray⟩ : Str).length = y.length := (by simp [Str.length]); rw [this]; exact hz, .str (revS y), H4, I5.tok _, ⟨_, rfl⟩, q⟩
end
end Lx
namespace Lx
open PySem PySem.Spec L2 PyProof.Rows PySem.Froz
section
variable {P : Program} {w : World} {A : Around} {E : Value → Shared → Prop} {s : Shared}
theorem add_same {a : Addr} {T : String} {D : SD} {l : List Str} {k : Str} {u : Tok} {Q : Bool → Shared → Prop} (ho : s.heap.get? a = some (sObj T D)) (F : TxOk P w D l) (hk : k ∈ l) (hb : l.length + 1 < scanBound)
    (h : Q false s) : wpAny (model P w) A (setAddHashed a (.str k u) (hashStr w k)) Q E s := by
  obtain ⟨es, ep, t⟩ := D
  have hsz : es.size = l.length := F.sz
  unfold setAddHashed setAddHashedIn
  refine wpAny_holding (wpAny_bind (wpAny_setState_of ho rfl F.fit ?_))
  dsimp only
  rw [byScan_of (knd := PySem.strKind P w) rfl (by show es.size < scanBound; omega) F.el]
  simp only [↓reduceIte]
  unfold setAddByScan
  refine wpAny_bind (wpAny_bind (wpAny_rule (wpAny_bind (wpAny_setScan_of (knd := PySem.strKind P w) (k := k) (strKind_is _ _ _ _) ho rfl F.fit F.el ?_))))
  obtain ⟨e, he, hp⟩ := (F.mem k).mp hk
  cases hr : List.findIdx? (fun e => (PySem.strKind P w).is k e.2) es.toList with
  | none =>
    have := List.findIdx?_eq_none_iff.mp hr e he
    rw [hp] at this; cases this
  | some j =>
    dsimp only
    exact wpAny_pure (wpAny_pure h)
end
def Lai (w : World) (D : SD) : Prop := Ris D.2.2.place.toList ∧ (w.params.followText "set-order" = true ∨ D.2.2.led = true)
theorem lai_add {w : World} {D : SD} {h : Int} {v : Value} (L : Lai w D) : Lai w (addTx h v D) := by
  obtain ⟨es, ep, t⟩ := D
  obtain ⟨hr, hl⟩ := L
  have r1 := layNew_ris t es h v hr
  have l1 := layNew_led t es h v
  have key : ∀ (t2 : SetTable) (es1 : Array (Int × Value)) (wd : Bool), Ris t2.place.toList → (w.params.followText "set-order" = true ∨ t2.led = true) → Lai w (tailTx ep es1 t2 wd) := fun t2 es1 wd a b => by
    unfold tailTx
    split
    · exact ⟨relayAll_ris _ _ _, b.imp id fun z => by show (relayAll t2 es1 (SetTable.grown es1.size)).2.1.led = true; rw [relayAll_led]; exact z⟩
    · exact ⟨a, b⟩
  unfold addTx
  refine key _ _ _ ?_ ?_
  · dsimp only
    split
    · exact r1
    · exact r1
  · refine hl.imp id fun z => ?_
    dsimp only
    split
    · show (layNew t es h v).2.1.led = true
      rw [l1]; exact z
    · rw [l1]; exact z
section
variable {prog : Program} {w : World} {A : Around} {R : Result → Shared → Prop} {I : Addr} {fp wr : List Addr} {n : Nat} {St : Nat → Heap → Prop}
theorem set_loop2 {x : Str} (W : Walks prog w A.in1 I fp wr n (SignAt x) St) (hn : n = x.cps.size) (hfp : n < 4000) (S : Addr) (hSf : S ∉ fp) (hSw : S ∉ wr) : ∀ (cs : List Nat) (i : Nat) (acc : List Nat) (D : SD) (s : Shared), x.cps.toList.drop i = cs → i + cs.length = n → St i s.heap → acc.length ≤ i →
      s.heap.get? S = some (sObj "set" D) → TxOk prog w D (acc.map sgn) → Lai w D →
      (∀ h' tk D', (∀ b o, b ∉ S :: wr → s.heap.get? b = some o → h'.get? b = some o) → h'.get? S = some (sObj "set" D') → TxOk prog w D' ((uniq acc cs).map sgn) → Lai w D' → R (.ok (.ret .none)) { s with heap := h', toks := tk }) →
      codeAny (model prog w) A (.builtin "set.update.loop" ⟨[.ref S, .ref I], []⟩) R s
  | [], i, acc, D, s, hd, hi, hst, ha, hS, hF, hL, hR => by
    have hin : i = n := by simpa using hi
    subst hin
    refine codeAny_builtin PyProof.Rows.F.entry_set_update_loop ?_
    rw [Around.under_plainId PyProof.Rows.F.plain_set_update_loop _]
    show wpAny _ A.in1 (pyNext (.ref I) >>= _) _ _ s
    refine wpAny_bind (W.done s _ _ hst fun h' tk' hm => ?_)
    show wpAny _ A.in1 (ret Value.none) _ _ _
    exact wpAny_pure (hR _ _ D (fun b o hb e => hm b o (fun z => hb (List.mem_cons_of_mem _ z)) e) (hm S _ hSw hS) hF hL)
  | c :: r, i, acc, D, s, hd, hi, hst, ha, hS, hF, hL, hR => by
    have hlt : i < n := by simp at hi; omega
    obtain ⟨hx, hd2⟩ : x.cps[i]? = some c ∧ x.cps.toList.drop (i + 1) = r := by
      have h1 : x.cps.toList[i]? = some c := by
        have := congrArg (·[0]?) hd
        simpa using this
      refine ⟨by simpa using h1, ?_⟩
      have := congrArg (·.drop 1) hd
      simpa [List.drop_drop, Nat.add_comm] using this
    refine codeAny_builtin PyProof.Rows.F.entry_set_update_loop ?_
    rw [Around.under_plainId PyProof.Rows.F.plain_set_update_loop _]
    show wpAny _ A.in1 (pyNext (.ref I) >>= _) _ _ s
    refine wpAny_bind (W.item i s _ _ hlt hst fun v h1 tk hP hst' hm => ?_)
    obtain ⟨c', t, hc', rfl⟩ := hP
    rw [hx] at hc'
    cases hc'
    have hS' : h1.get? S = some (sObj "set" D) := hm S _ hSw hS
    show wpAny _ A.in1 (holding [Value.str (sgn c) t] (setAdd S (.str (sgn c) t)) >>= _) _ _ _
    refine wpAny_bind (wpAny_holding ?_)
    unfold setAdd
    refine wpAny_holding ?_
    refine wpAny_bind ((PySem.strKind prog w).pyHash (k := sgn c) (strKind_is _ _ _ _) ?_)
    have hb : (acc.map sgn).length + 1 < scanBound := by rw [List.length_map]; unfold scanBound; omega
    by_cases hc : c ∈ acc
    · have hu : uniq acc (c :: r) = uniq acc r := by simp [uniq, hc]
      refine add_same hS' hF (List.mem_map.mpr ⟨c, hc, rfl⟩) hb ?_
      refine wpAny_pure ⟨plainId_quiet PyProof.Rows.F.plain_set_update_loop _, set_loop2 W hn hfp S hSf hSw r (i + 1) acc D _ hd2 (by simp at hi; omega) hst' (by omega) hS' hF hL fun h'' tk'' D'' hm'' hS'' hF'' hL'' => ?_⟩
      rw [← hu] at hF''
      exact hR h'' tk'' D'' (fun b o hb e => hm'' b o hb (hm b o (fun z => hb (List.mem_cons_of_mem _ z)) e)) hS'' hF'' hL''
    · have hu : uniq acc (c :: r) = uniq (c :: acc) r := by simp [uniq, hc]
      refine add_x hS' hF (fun z => hc ?_) hb ?_
      · obtain ⟨d, hd, e⟩ := List.mem_map.mp z
        rw [← sgn_inj e]; exact hd
      have hget : (h1.update S fun _ => sObj "set" (addTx (hashStr w (sgn c)) (.str (sgn c) t) D)).get? S = some (sObj "set" (addTx (hashStr w (sgn c)) (.str (sgn c) t) D)) := Heap.get?_update_self _ hS' rfl
      refine wpAny_pure ⟨plainId_quiet PyProof.Rows.F.plain_set_update_loop _, set_loop2 W hn hfp S hSf hSw r (i + 1) (c :: acc) _ _ hd2 (by simp at hi; omega) (W.frame _ _ _ hst' fun b hb o e => ?_) (by rw [List.length_cons]; omega) hget (add_ok t hF) (lai_add hL) fun h'' tk'' D'' hm'' hS'' hF'' hL'' => ?_⟩
      · exact (Heap.get?_update_other _ _ (fun h : S = b => hSf (by rw [h]; exact hb))).trans e
      · rw [← hu] at hF''
        refine hR h'' tk'' D'' (fun b o hb e => hm'' b o hb ?_) hS'' hF'' hL''
        exact (Heap.get?_update_other _ _ (fun h : S = b => hb (by rw [h]; exact List.mem_cons_self))).trans (hm b o (fun z => hb (List.mem_cons_of_mem _ z)) e)
end
end Lx
namespace Lx
open PySem PySem.Spec L2 PyProof.Rows PySem.Froz
section
variable {prog : Program} {w : World} {A : Around} {E : Value → Shared → Prop} {s : Shared}
theorem call_set_text2 {x : Str} {u : Tok} {Q : Value → Shared → Prop} (hh : A.handled = none) (hn : x.cps.size < 4000)
    (h : ∀ (h' : Heap) (tk : Nat) (D : SD), h'.get? s.heap.objs.size = some (sObj "set" D) → TxOk prog w D ((uniq [] x.cps.toList).map sgn) → Lai w D →
      (∀ b o, b < s.heap.objs.size → s.heap.get? b = some o → h'.get? b = some o) → Q (.ref s.heap.objs.size) { s with heap := h', toks := tk }) :
    wpAny (model prog w) A (call (.type "set") [.str x u]) Q E s := by
  obtain ⟨c, tl, hmro⟩ := PySem.F.called_set.mro
  have hmade := PySem.F.called_set.made
  have hsub := PySem.F.called_set.sub
  refine wpAny_call (codeAny_of_tree ?_)
  show wpAny _ _ (callAny (.type "set") _) _ _ _
  refine wpAny_pure ⟨Code.quiet_builtin _ (by decide +kernel), codeAny_builtin PySem.F.entry_type_call ?_⟩
  rw [Around.under_plain (weight_type_call_type "set" [.str x u] []) rfl]
  have h1 := PySem.F.called_set.notType
  have h2 := PySem.F.called_set.canCreate
  have hct := PySem.F.typeCall_set_1 (.str x u)
  repeat (any_goals (first | assumption | wp_step))
  refine codeAny_mono (code_set_led1 (.str x u) (E := E) (Q₁ := fun obj s₁ => obj = .ref s.heap.objs.size ∧ s₁ = { s with heap := s.heap.push { cls := .type "set", dict := none, data := .set #[] 0 (.fresh 0 0 (!w.params.followText "set-order")) } }) ⟨rfl, rfl⟩) fun r s₁ hr => ?_
  cases r with
  | error e => exact hr
  | ok fl =>
    cases fl with
    | ret obj =>
      obtain ⟨rfl, rfl⟩ := hr
      generalize hled : (!w.params.followText "set-order") = led
      have hS : (s.heap.push { cls := .type "set", dict := none, data := .set #[] 0 (.fresh 0 0 led) }).get? s.heap.objs.size = some { cls := .type "set", dict := none, data := .set #[] 0 (.fresh 0 0 led) } := Heap.get?_push_size _ rfl
      have hT : Shared.TypeIs { s with heap := s.heap.push { cls := .type "set", dict := none, data := .set #[] 0 (.fresh 0 0 led) } } (.ref s.heap.objs.size) "set" := ⟨_, hS, rfl⟩
      have hli := PySem.F.called_set.init.lookup
      have hbi := PySem.F.called_set.init.bind (.ref s.heap.objs.size)
      repeat (any_goals (first | assumption | wp_step))
      refine codeAny_mono (codeAny_call_builtin (R := wants (fun r s₂ => r = .none ∧ ∃ h' tk D, s₂ = { s with heap := h', toks := tk } ∧
          h'.get? s.heap.objs.size = some (sObj "set" D) ∧ TxOk prog w D ((uniq [] x.cps.toList).map sgn) ∧ Lai w D ∧
          (∀ b o, b < s.heap.objs.size → s.heap.get? b = some o → h'.get? b = some o)) E) PySem.F.called_set.init.plain PySem.F.entry_set_init (check_set_init_1 hT ?_)) fun r₂ s₂ hr₂ => ?_
      · have hsls := PySem.F.sub_str_set
        have hslf := PySem.F.sub_str_frozenset
        have hne : (Value.type "str" == Value.type "dict") = false := by decide
        unfold Builtin.«set.__init__» noKeywords Builtin.Frozenset.updateFrom
        generalize hPI : pyIter = PI
        wp_walk
        subst hPI
        refine wpAny_pyIter_str fun o St hW hst => ?_
        refine wpAny_bind (wpAny_runValue ?_)
        have hh3 : A.in1.in1.in1.handled = none := by simp [hh]
        have hSf : s.heap.objs.size ∉ [(s.heap.push { cls := .type "set", dict := none, data := .set #[] 0 (.fresh 0 0 led) }).objs.size] := by
          rw [Heap.size_push]; simp
        refine set_loop2 (hW _ hh3) rfl hn s.heap.objs.size hSf hSf x.cps.toList 0 [] (#[], 0, .fresh 0 0 led) _ rfl (by simp) hst (Nat.zero_le _) (Heap.get?_push_of_some _ hS) (TxOk.nil rfl) ⟨List.Pairwise.nil, ?_⟩ fun h' tk' D' hm hS' hF' hL' => ?_
        · show _ ∨ led = true
          rw [← hled]
          cases w.params.followText "set-order"
          · exact .inr rfl
          · exact .inl rfl
        · show wpAny _ _ _ _ _ _
          refine wpAny_pure ?_
          show wpAny _ _ (ret Value.none) _ _ _
          refine wpAny_pure ⟨rfl, h', tk', D', rfl, hS', hF', hL', fun b o hb e => ?_⟩
          have hb1 : b ≠ s.heap.objs.size := Nat.ne_of_lt hb
          have hb2 : b ≠ (s.heap.push { cls := .type "set", dict := none, data := .set #[] 0 (.fresh 0 0 led) }).objs.size := by
            rw [Heap.size_push]; exact Nat.ne_of_lt (Nat.lt_succ_of_lt hb)
          exact hm b o (by simp only [List.mem_cons, List.mem_singleton, List.not_mem_nil, or_false, not_or]; exact ⟨hb1, hb2⟩) (Heap.get?_push_of_some _ (Heap.get?_push_of_some _ e))
      · cases r₂ with
        | error e => exact hr₂
        | ok fl₂ =>
          cases fl₂ with
          | ret r =>
            obtain ⟨rfl, h', tk, D, rfl, hS', hF', hL', hk'⟩ := hr₂
            repeat (any_goals (first | assumption | wp_step))
            exact h _ _ D hS' hF' hL' hk'
          | _ => exact hr₂.elim
    | _ => exact hr.elim
end
section
variable {P : Program} {w : World} {A : Around} {E : Value → Shared → Prop} {s : Shared}
theorem strs_of : ∀ (l : List Value), (∀ v ∈ l, ∃ k tk, v = Value.str k tk) → ∃ ss, StrsAre l ss
  | [], _ => ⟨[], .nil⟩
  | v :: l, h => by
    obtain ⟨k, tk, rfl⟩ := h v List.mem_cons_self
    obtain ⟨ss, hs⟩ := strs_of l fun u hu => h u (List.mem_cons_of_mem _ hu)
    exact ⟨k :: ss, .cons k tk hs⟩
theorem strs_vals : ∀ {l : List Value} {ss : List Str}, StrsAre l ss → Vals (ss.map V.str) l
  | _, _, .nil => .nil
  | _, _, .cons k t r => .cons ⟨t, rfl⟩ (strs_vals r)
theorem strs_mem : ∀ {l : List Value} {ss : List Str}, StrsAre l ss → ∀ k, k ∈ ss ↔ ∃ t, Value.str k t ∈ l
  | _, _, .nil, k => by simp
  | _, _, .cons x t r, k => by
    rw [List.mem_cons, strs_mem r k]
    constructor
    · rintro (rfl | ⟨u, h⟩)
      · exact ⟨t, List.mem_cons_self⟩
      · exact ⟨u, List.mem_cons_of_mem _ h⟩
    · rintro ⟨u, h⟩
      rcases List.mem_cons.mp h with h | h
      · cases h; exact .inl rfl
      · exact .inr ⟨u, h⟩
theorem strs_len : ∀ {l : List Value} {ss : List Str}, StrsAre l ss → ss.length = l.length
  | _, _, .nil => rfl
  | _, _, .cons x t r => congrArg (· + 1) (strs_len r)
theorem sorted_setS {a : Addr} {D : SD} {l : List Str} {Q : Value → Shared → Prop} (ho : s.heap.get? a = some (sObj "set" D)) (F : TxOk P w D l) (L : Lai w D) (hh : A.handled = none) (h64 : l.length < 64)
    (hQ : ∀ s' p (out : List Value) (c : Nat) (ss : List Str), (∀ b o, s.heap.get? b = some o → s'.heap.get? b = some o) → s'.gens = s.gens → s'.os = s.os → s.heap.objs.size ≤ p →
      s'.heap.get? p = some (seqObj "list" out.toArray c) → StrsAre out ss → ss.length = l.length → (∀ k, k ∈ ss ↔ k ∈ l) → Q (.ref p) s') :
    wpAny (model P w) A (call (.builtin "sorted") [.ref a]) Q E s := by
  obtain ⟨es, ep, t⟩ := D
  have hsz : es.size = l.length := F.sz
  refine Calls.call_function_entry kind_sorted plain_sorted entry_sorted (args_sorted1 _) ?_
  unfold Builtin.«sorted»
  refine wpAny_bind (m := checkCount "sorted" 1 1 _) (wpAny_pure ?_)
  refine wpAny_bind (collect_set (A := A.in1) hh ⟨_, ho, rfl, rfl⟩ F.fit (by show es.size < 4096; omega) L.1 L.2 fun s1 vs k1 hz g1 o1 pm => ?_)
  have hvl : vs.length = l.length := by rw [pm.length_eq, List.length_map, Array.length_toList]; exact hsz
  have hstr : ∀ e ∈ es.toList, ∃ k tk, e.2 = Value.str k tk := fun e he => by
    obtain ⟨⟨k, h, _⟩, _⟩ := F.el e he
    obtain ⟨t, q⟩ := Value.isStrOf_shape h
    exact ⟨k, t, q⟩
  obtain ⟨ss, hS⟩ := strs_of vs fun v hv => by
    obtain ⟨e, he, q⟩ := List.mem_map.mp (pm.mem_iff.mp hv)
    obtain ⟨k, tk, h1⟩ := hstr e he
    exact ⟨k, tk, by rw [← q]; exact h1⟩
  refine wpAny_bind (wpAny_newList ?_ (by rw [hvl, sizeLine_eq]; omega))
  have hoL : (s1.heap.push (seqObj "list" vs.toArray 0)).get? s1.heap.objs.size = some (seqObj "list" vs.toArray 0) := Heap.get?_push_size _ rfl
  refine wpAny_bind (wpAny_holding (wpAny_call_entry slot_list_sort ⟨_, hoL, rfl⟩ entry_list_sort (list_sort_treeK strKind_oneLt hoL hS.keysOf (fun v₁ v₂ rest e => keyKind_strs (by rw [← e]; exact hS)) (by rw [hvl]; exact h64) fun st' hp hs => ⟨_, rfl, ?_⟩) (args_list_sort _)))
  obtain ⟨ss', a1, a2, _⟩ := sorted_out_str hS hp hs
  obtain ⟨c, hc⟩ := sortedHeap_at (vs := vs) (out := (arrOf st').map (·.2)) hoL
  refine wpAny_pure ⟨_, rfl, hQ _ s1.heap.objs.size ((arrOf st').map (·.2)).toList c ss' (fun b u e => ?_) g1 o1 hz (by rw [Array.toArray_toList]; exact hc) a1 ?_ ?_⟩
  · have q := k1 b u e
    have hlt := Heap.lt_size q
    show (sortedHeap (s1.heap.push (seqObj "list" vs.toArray 0)) s1.heap.objs.size vs _).get? b = some u
    rw [sortedHeap_old (Nat.ne_of_lt hlt) (by rw [Heap.size_push]; exact Nat.lt_succ_of_lt hlt)]
    exact Heap.get?_push_of_some _ q
  · rw [a2.length_eq, strs_len hS, hvl]
  · intro k
    rw [a2.mem_iff, strs_mem hS, F.mem k]
    constructor
    · rintro ⟨t, h⟩
      obtain ⟨e, he, q⟩ := List.mem_map.mp (pm.mem_iff.mp h)
      exact ⟨e, he, by rw [q]; exact strKind_is _ _ _ _⟩
    · rintro ⟨e, he, h⟩
      obtain ⟨k2, tk, e2⟩ := hstr e he
      rw [e2] at h
      have : k = k2 := (PySem.strKind P w).inj _ k k2 h (strKind_is _ _ _ _)
      exact ⟨tk, pm.mem_iff.mpr (List.mem_map.mpr ⟨e, he, by rw [e2, this]⟩)⟩
end
def tSortSet (ta : TE) : TE := fun σ H Q => ta σ H fun x H1 => ∃ y, x = .str y ∧ y.cps.size < 60 ∧ ∀ p (cs : List Nat), H1 p = none → cs.length = (uniq [] y.cps.toList).length → (∀ c, c ∈ cs ↔ c ∈ uniq [] y.cps.toList) → Q (.ref p) (upd H1 p (.lst (cs.map fun c => .str (sgn c))))
theorem uniq_le : ∀ (l acc : List Nat), (uniq acc l).length ≤ acc.length + l.length
  | [], acc => Nat.le_refl _
  | c :: r, acc => by
    unfold uniq
    split
    · have := uniq_le r acc; rw [List.length_cons]; omega
    · have := uniq_le r (c :: acc); rw [List.length_cons] at this ⊢; omega
theorem signs_of : ∀ (ss : List Str) (l : List Nat), (∀ k ∈ ss, ∃ c ∈ l, k = sgn c) → ∃ cs : List Nat, ss = cs.map sgn
  | [], _, _ => ⟨[], rfl⟩
  | k :: r, l, h => by
    obtain ⟨c, _, rfl⟩ := h k List.mem_cons_self
    obtain ⟨cs, rfl⟩ := signs_of r l fun z hz => h z (List.mem_cons_of_mem _ hz)
    exact ⟨c :: cs, rfl⟩
section
variable {X : Cx}
theorem pe_sortSet {a : Expr} {ta : TE} {p p2 q pos : Pos} (hc : X.calm = true) (hg : Gl X "sorted") (hm : X.mg "sorted" = none) (hg2 : Gl X "set") (hm2 : X.mg "set" = none) (ha : PE X a ta)
    (na : starEach [a] X.env = (false, eval a X.env) :: starEach [] X.env := by rfl) : PE X (.Call (.Name "sorted" p) [.Call (.Name "set" p2) [a] [] q] [] pos) (tSortSet ta) := by
  refine ⟨fun pins s σ H Q I h => ?_⟩
  refine Call_ (ld_blt I hg hm boot_sorted ?_)
  refine PyProof.Rows.callWith_builtin1 (PyProof.Rows.args_cons ?_ rfl) rfl rfl
  refine Call_ (ld_blt I hg2 hm2 boot_set ?_)
  refine PyProof.Rows.callWith_type1 (PyProof.Rows.args_cons (thn (ha.run pins s σ H _ I h) fun v s1 ⟨x, H1, I1, r1, q1⟩ => PyProof.Rows.args_nil ?_) na) na rfl
  obtain ⟨y, rfl, hy, q1⟩ := q1
  obtain ⟨u, rfl⟩ := r1
  refine call_set_text2 (I1.ok.hd hc) (by omega) fun h' tk D hS hF hL hk => ?_
  refine PyProof.Rows.args_nil ?_
  have I2 : Inv X pins σ H1 { s1 with heap := h', toks := tk } := I1.kept fun b o e => hk b o (Heap.lt_size e) e
  have hul := uniq_le y.cps.toList []
  have h60 : (uniq [] y.cps.toList).length < 64 := by simp at hul; omega
  refine sorted_setS hS hF hL (I2.ok.hd hc) (by rw [List.length_map]; exact h60) fun s' pp out c ss k1 g1 o1 hz ho hA hl hm => ?_
  obtain ⟨cs, rfl⟩ := signs_of ss (uniq [] y.cps.toList) fun k hk => by
    obtain ⟨c, hc, e⟩ := List.mem_map.mp ((hm k).mp hk)
    exact ⟨c, hc, e.symm⟩
  rw [List.length_map, List.length_map] at hl
  have hmem : ∀ c, c ∈ cs ↔ c ∈ uniq [] y.cps.toList := fun c => by
    have := hm (sgn c)
    constructor
    · intro h
      obtain ⟨d, hd, e⟩ := List.mem_map.mp (this.mp (List.mem_map.mpr ⟨c, h, rfl⟩))
      rw [← sgn_inj e]; exact hd
    · intro h
      obtain ⟨d, hd, e⟩ := List.mem_map.mp (this.mpr (List.mem_map.mpr ⟨c, h, rfl⟩))
      rw [← sgn_inj e]; exact hd
  have hv := strs_vals hA
  rw [List.map_map] at hv
  have hzz : (cs.map fun c => V.str (sgn c)).length ≤ sizeLine := by rw [List.length_map, sizeLine_eq, hl]; omega
  have hn : H1 pp = none := I2.hok.fresh hz
  have J : Inv X pins σ (upd H1 pp (.lst (cs.map fun c => V.str (sgn c)))) { ({ s1 with heap := h', toks := tk } : Shared) with heap := s'.heap, gens := s'.gens, drawn := s'.drawn, toks := s'.toks } :=
    I2.call (ch := []) (Un.laid k1 hz hn) (I2.hok.laid k1 hz ⟨hzz, out, c, hv, ho⟩) (by rw [g1]; exact I2.bare) (fun _ z => nomatch z)
  have e : s' = { ({ s1 with heap := h', toks := tk } : Shared) with heap := s'.heap, gens := s'.gens, drawn := s'.drawn, toks := s'.toks } := by
    cases s'
    have o1 : _ = s1.os := o1
    subst o1
    rfl
  rw [e]
  exact ⟨.ref pp, _, J, rfl, q1 pp cs hn hl hmem⟩
end
end Lx
set_option maxHeartbeats 2000000
namespace Ly
open PySem L2
open Lx (Le)
inductive D where
  | non | bl (b : Bool) | int (i : Int) | str (x : Str)
  | lst (xs : List D) | tup (xs : List D) | dct (kvs : List (Key × D)) | obj (c : Str) (fs : List (Str × D)) | pen | sct (ns : List Int) | mu (i : Nat) | err (c : Str) (fs : List (Str × D)) | slo (c : Str) (fs : List (Str × D)) | cls (c : Str) | gt (ds : List D) (y z : Str)
inductive MO where
  | lst (xs : List D) | dct (kvs : List (Key × D)) | ins (c : Str) (fs : List (Str × D)) | gone
structure S where
  n : Nat
  st : List MO
structure Xn where
  cls : Str
  fs : List (Str × D)
structure W (A : Type) where
  wp : S → (S → A → Prop) → (S → Xn → Prop) → Prop
  mono : ∀ {s : S} {Q R : S → A → Prop} {E G : S → Xn → Prop}, (∀ t a, Q t a → R t a) → (∀ t x, E t x → G t x) → wp s Q E → wp s R G
namespace W
variable {A B : Type}
@[reducible] def ret (a : A) : W A := ⟨fun s Q _ => Q s a, fun h _ p => h _ _ p⟩
@[reducible] def bind (m : W A) (f : A → W B) : W B := ⟨fun s Q E => m.wp s (fun t a => (f a).wp t Q E) E, fun h g p => m.mono (fun _ a q => (f a).mono h g q) g p⟩
@[reducible] def stuck : W A := ⟨fun _ _ _ => False, fun _ _ p => p⟩
@[reducible] def need (c : Prop) (m : W A) : W A := ⟨fun s Q E => c ∧ m.wp s Q E, fun h g p => ⟨p.1, m.mono h g p.2⟩⟩
@[reducible] def any (c : Nat) (P : A → Prop) : W A := ⟨fun s Q _ => ∃ k, s.n = k + c ∧ ∀ a, P a → Q ⟨k, s.st⟩ a, fun h _ ⟨k, e, p⟩ => ⟨k, e, fun a q => h _ _ (p a q)⟩⟩
@[reducible] def new (o : MO) : W Nat := ⟨fun s Q _ => Q ⟨s.n, s.st ++ [o]⟩ s.st.length, fun h _ p => h _ _ p⟩
@[reducible] def get (i : Nat) : W MO := ⟨fun s Q _ => ∃ o, s.st[i]? = some o ∧ Q s o, fun h _ ⟨o, e, p⟩ => ⟨o, e, h _ _ p⟩⟩
@[reducible] def put (i : Nat) (o : MO) : W Unit := ⟨fun s Q _ => Q ⟨s.n, s.st.set i o⟩ (), fun h _ p => h _ _ p⟩
end W
structure Cg where
  pn : Addr
structure Wd where
  al : List Addr
  F : Hp
  H : Hp
def GtAt (H : Hp) (a : Addr) (vs : List V) (y z : Str) (t u : Tok) : Prop := ∃ (us : List Value) (n : Nat) (o : Obj), H a = some (.frz o (.tup (vs ++ [V.str y, V.str z]))) ∧ o.data = .seq (us ++ [Value.str y t, Value.str z u]).toArray n ∧ us.length = vs.length ∧ 1 ≤ t ∧ 1 ≤ u ∧ (t = u → y = z)
mutual
inductive Rep (K : PySem.W.Frag) (c : Cg) (al : List Addr) (F : Hp) : V → D → Prop
  | non : Rep K c al F .non .non
  | bl (b : Bool) : Rep K c al F (.bl b) (.bl b)
  | int (i : Int) : Rep K c al F (.int i) (.int i)
  | str (x : Str) : Rep K c al F (.str x) (.str x)
  | lst {a : Addr} {vs : List V} {ds : List D} : F a = some (.lst vs) → RepL K c al F vs ds → Rep K c al F (.ref a) (.lst ds)
  | tup {a : Addr} {vs : List V} {ds : List D} : F a = some (.tup vs) → RepL K c al F vs ds → Rep K c al F (.ref a) (.tup ds)
  | dct {a : Addr} {vs : List (Key × V)} {ds : List (Key × D)} : F a = some (.dK vs) → RepK K c al F vs ds → Rep K c al F (.ref a) (.dct ds)
  | obj {a dx : Addr} {cl : Str} {fs : List (Str × V)} {gs : List (Str × D)} : F a = some (.ins (He.ga K cl) dx fs) → Cls K (He.ga K cl) → (∀ x ∈ gs.map (·.1), NoAttr K (He.ga K cl) x) → RepF K c al F fs gs → Rep K c al F (.ref a) (.obj cl gs)
  | pen : Rep K c al F (.ref c.pn) .pen
  | sct {a : Addr} {ns : List Int} : SqL K F a (ns.map V.int) → Rep K c al F (.ref a) (.sct ns)
  | mu {i : Nat} {a : Addr} : al[i]? = some a → Rep K c al F (.ref a) (.mu i)
  | err {a dx : Addr} {cl : Str} {fs : List (Str × V)} {gs : List (Str × D)} : F a = some (exo a (He.ga K cl) (some dx)) → F dx = some (exd dx fs) → RepF K c al F fs gs → Rep K c al F (.ref a) (.err cl gs)
  | err0 {a : Addr} {cl : Str} : F a = some (exo a (He.ga K cl) none) → Rep K c al F (.ref a) (.err cl [])
  | slo {a dx : Addr} {cl : Str} {vs : List (Option V)} {gs : List (Str × D)} : F a = some (SlX.SlO a (He.ga K cl) dx vs) → F dx = some (.xd []) → SlX.SCls K (He.ga K cl) → RepS K c al F (He.ga K cl) vs gs → Rep K c al F (.ref a) (.slo cl gs)
  | cls {x : Str} {a : Addr} : a = He.ga K x → Rep K c al F (.ref a) (.cls x)
  | gt {a : Addr} {vs : List V} {ds : List D} {y z : Str} {t u : Tok} : GtAt F a vs y z t u → RepL K c al F vs ds → Rep K c al F (.ref a) (.gt ds y z)
/-- the slots of an instance of the class at C -/
inductive RepS (K : PySem.W.Frag) (c : Cg) (al : List Addr) (F : Hp) : Addr → List (Option V) → List (Str × D) → Prop
  | nil {C : Addr} {vs : List (Option V)} : RepS K c al F C vs []
  | cons {C : Addr} {vs : List (Option V)} {x : Str} {p : Addr} {i : Nat} {v : V} {d : D} {ds : List (Str × D)} : SlX.Slot1 K C x p i → vs[i]? = some (some v) → Rep K c al F v d → RepS K c al F C vs ds → RepS K c al F C vs ((x, d) :: ds)
inductive RepL (K : PySem.W.Frag) (c : Cg) (al : List Addr) (F : Hp) : List V → List D → Prop
  | nil : RepL K c al F [] []
  | cons {v : V} {vs : List V} {d : D} {ds : List D} : Rep K c al F v d → RepL K c al F vs ds → RepL K c al F (v :: vs) (d :: ds)
inductive RepF (K : PySem.W.Frag) (c : Cg) (al : List Addr) (F : Hp) : List (Str × V) → List (Str × D) → Prop
  | nil : RepF K c al F [] []
  | cons {x : Str} {v : V} {vs : List (Str × V)} {d : D} {ds : List (Str × D)} : Rep K c al F v d → RepF K c al F vs ds → RepF K c al F ((x, v) :: vs) ((x, d) :: ds)
inductive RepK (K : PySem.W.Frag) (c : Cg) (al : List Addr) (F : Hp) : List (Key × V) → List (Key × D) → Prop
  | nil : RepK K c al F [] []
  | cons {x : Key} {v : V} {vs : List (Key × V)} {d : D} {ds : List (Key × D)} : Rep K c al F v d → RepK K c al F vs ds → RepK K c al F ((x, v) :: vs) ((x, d) :: ds)
end
structure Sub (al : List Addr) (F : Hp) (al' : List Addr) (F' : Hp) : Prop where
  pre : al <+: al'
  le : Le F F'
theorem Sub.refl (al : List Addr) (F : Hp) : Sub al F al F := ⟨List.prefix_refl _, Le.refl F⟩
theorem Sub.trans {al al1 al2 : List Addr} {F F1 F2 : Hp} (a : Sub al F al1 F1) (b : Sub al1 F1 al2 F2) : Sub al F al2 F2 := ⟨a.pre.trans b.pre, a.le.trans b.le⟩
theorem Sub.at {al al1 : List Addr} {F F1 : Hp} (e : Sub al F al1 F1) {i : Nat} {a : Addr} (h : al[i]? = some a) : al1[i]? = some a := by
  obtain ⟨t, ht⟩ := e.pre
  have hl := (List.getElem?_eq_some_iff.mp h).1
  rw [← ht, List.getElem?_append_left hl]; exact h
section
variable {K : PySem.W.Frag} {c : Cg} {al al1 : List Addr} {F G : Hp}
mutual
theorem Rep.up (e : Sub al F al1 G) : ∀ {v : V} {d : D}, Rep K c al F v d → Rep K c al1 G v d
  | _, _, .non => .non
  | _, _, .bl b => .bl b
  | _, _, .int i => .int i
  | _, _, .str x => .str x
  | _, _, .lst h r => .lst (e.le _ _ h) (RepL.up e r)
  | _, _, .tup h r => .tup (e.le _ _ h) (RepL.up e r)
  | _, _, .dct h r => .dct (e.le _ _ h) (RepK.up e r)
  | _, _, .obj h q n r => .obj (e.le _ _ h) q n (RepF.up e r)
  | _, _, .pen => .pen
  | _, _, .sct h => .sct (e.le.sqL h)
  | _, _, .mu h => .mu (e.at h)
  | _, _, .err h k r => .err (e.le _ _ h) (e.le _ _ k) (RepF.up e r)
  | _, _, .err0 h => .err0 (e.le _ _ h)
  | _, _, .slo h k q r => .slo (e.le _ _ h) (e.le _ _ k) q (RepS.up e r)
  | _, _, .cls h => .cls h
  | _, _, .gt ⟨us, n, o, h, q⟩ r => .gt ⟨us, n, o, e.le _ _ h, q⟩ (RepL.up e r)
theorem RepS.up (e : Sub al F al1 G) : ∀ {C : Addr} {vs : List (Option V)} {ds : List (Str × D)}, RepS K c al F C vs ds → RepS K c al1 G C vs ds
  | _, _, _, .nil => .nil
  | _, _, _, .cons a b h r => .cons a b (Rep.up e h) (RepS.up e r)
theorem RepL.up (e : Sub al F al1 G) : ∀ {vs : List V} {ds : List D}, RepL K c al F vs ds → RepL K c al1 G vs ds
  | _, _, .nil => .nil
  | _, _, .cons h r => .cons (Rep.up e h) (RepL.up e r)
theorem RepF.up (e : Sub al F al1 G) : ∀ {vs : List (Str × V)} {ds : List (Str × D)}, RepF K c al F vs ds → RepF K c al1 G vs ds
  | _, _, .nil => .nil
  | _, _, .cons h r => .cons (Rep.up e h) (RepF.up e r)
theorem RepK.up (e : Sub al F al1 G) : ∀ {vs : List (Key × V)} {ds : List (Key × D)}, RepK K c al F vs ds → RepK K c al1 G vs ds
  | _, _, .nil => .nil
  | _, _, .cons h r => .cons (Rep.up e h) (RepK.up e r)
end
theorem RepL.len : ∀ {vs : List V} {ds : List D}, RepL K c al F vs ds → vs.length = ds.length
  | _, _, .nil => rfl
  | _, _, .cons _ r => congrArg (· + 1) r.len
theorem RepF.len : ∀ {vs : List (Str × V)} {ds : List (Str × D)}, RepF K c al F vs ds → vs.length = ds.length
  | _, _, .nil => rfl
  | _, _, .cons _ r => congrArg (· + 1) r.len
theorem RepL.get : ∀ {vs : List V} {ds : List D} {i : Nat} {d : D}, RepL K c al F vs ds → ds[i]? = some d → ∃ v, vs[i]? = some v ∧ Rep K c al F v d
  | _, _, _, _, .nil, e => by simp at e
  | _, _, 0, _, .cons h _, e => by simp at e; subst e; exact ⟨_, rfl, h⟩
  | _, _, i + 1, d, .cons _ r, e => by
    obtain ⟨v, h1, h2⟩ := RepL.get (i := i) (d := d) r (by simpa using e)
    exact ⟨v, by simpa using h1, h2⟩
theorem RepL.app : ∀ {vs ws : List V} {ds es : List D}, RepL K c al F vs ds → RepL K c al F ws es → RepL K c al F (vs ++ ws) (ds ++ es)
  | _, _, _, _, .nil, s => s
  | _, _, _, _, .cons h r, s => .cons h (r.app s)
theorem RepL.take : ∀ {vs : List V} {ds : List D} (n : Nat), RepL K c al F vs ds → RepL K c al F (vs.take n) (ds.take n)
  | _, _, 0, _ => .nil
  | _, _, _ + 1, .nil => .nil
  | _, _, n + 1, .cons h r => .cons h (RepL.take n r)
theorem RepL.drop : ∀ {vs : List V} {ds : List D} (n : Nat), RepL K c al F vs ds → RepL K c al F (vs.drop n) (ds.drop n)
  | _, _, 0, r => r
  | _, _, _ + 1, .nil => .nil
  | _, _, n + 1, .cons _ r => RepL.drop n r
theorem RepF.look : ∀ {vs : List (Str × V)} {ds : List (Str × D)} {x : Str} {d : D}, RepF K c al F vs ds → ds.lookup x = some d → ∃ v, vs.lookup x = some v ∧ Rep K c al F v d
  | _, _, _, _, .nil, e => by simp at e
  | _, _, x, d, .cons (x := y) h r, e => by
    rw [List.lookup_cons] at e ⊢
    cases q : (x == y) with
    | true => rw [q] at e; cases e; exact ⟨_, rfl, h⟩
    | false => rw [q] at e; exact RepF.look r e
theorem RepF.noLook : ∀ {vs : List (Str × V)} {ds : List (Str × D)} {x : Str}, RepF K c al F vs ds → ds.lookup x = none → vs.lookup x = none
  | _, _, _, .nil, _ => rfl
  | _, _, x, .cons (x := y) h r, e => by
    rw [List.lookup_cons] at e ⊢
    cases q : (x == y) with
    | true => rw [q] at e; cases e
    | false => rw [q] at e; exact RepF.noLook r e
theorem RepL.one {vs : List V} {d : D} (r : RepL K c al F vs [d]) : ∃ v, vs = [v] ∧ Rep K c al F v d := by
  cases r with
  | cons a b => cases b; exact ⟨_, rfl, a⟩
theorem RepL.two {vs : List V} {d e : D} (r : RepL K c al F vs [d, e]) : ∃ v w, vs = [v, w] ∧ Rep K c al F v d ∧ Rep K c al F w e := by
  cases r with
  | cons a b => obtain ⟨w, rfl, rw⟩ := b.one; exact ⟨_, w, rfl, a, rw⟩
theorem isE {vs : List V} {ds : List D} (r : RepL K c al F vs ds) : vs.isEmpty = ds.isEmpty := by cases r <;> rfl
end
def PenOk (K : PySem.W.Frag) (c : Cg) (F H : Hp) (n : Nat) : Prop :=
  ∃ (l : Addr) (cs : List Int) (t lf : Int), H c.pn = some (.dK (Lx.penKvs l t lf)) ∧ SqL K F l (cs.map V.int) ∧ cs.length ≤ 63 ∧ 0 ≤ t ∧ t + n ≤ 2 ^ 60 ∧ 0 ≤ lf
def RepM (K : PySem.W.Frag) (c : Cg) (w : Wd) (a : Addr) : MO → Prop
  | .lst ds => w.F a = none ∧ ∃ vs, w.H a = some (.lst vs) ∧ RepL K c w.al w.F vs ds
  | .dct kvs => w.F a = none ∧ ∃ kws, w.H a = some (.dK kws) ∧ RepK K c w.al w.F kws kvs
  | .ins cl fs => w.F a = none ∧ ∃ dx vs, w.H a = some (.ins (He.ga K cl) dx vs) ∧ Cls K (He.ga K cl) ∧ (∀ x ∈ fs.map (·.1), NoAttr K (He.ga K cl) x) ∧ RepF K c w.al w.F vs fs ∧ fs.length ≤ 900
  | .gone => True
structure Ok (K : PySem.W.Frag) (c : Cg) (w : Wd) (s : S) : Prop where
  fro : Le w.F w.H
  fpn : w.F c.pn = none
  pna : c.pn ∉ w.al
  nd : w.al.Nodup
  len : w.al.length = s.st.length
  occ : ∀ a ∈ w.al, w.H a ≠ none
  pen : PenOk K c w.F w.H s.n
  tab : LamX.Tabs (tabsOf K) w.H
  ftb : ∀ a ps, w.F a ≠ some (.tbl ps)
  atb : ∀ a ∈ w.al, ∀ ps, w.H a ≠ some (.tbl ps)
  aco : ∀ a ∈ w.al, ∀ φ, w.H a ≠ some (.ext φ)
  sto : ∀ (i : Nat) (a : Addr) (o : MO), w.al[i]? = some a → s.st[i]? = some o → RepM K c w a o
def Wd.fre (w : Wd) (a : Addr) : Prop := ∀ u, w.H a = some u → ∃ ps, u = .tbl ps
theorem Wd.fre_none {w : Wd} {a : Addr} (h : w.H a = none) : w.fre a := fun u e => by rw [h] at e; cases e
structure Go (c : Cg) (w w' : Wd) : Prop where
  keep : ∀ a o, a ≠ c.pn → a ∉ w.al → (∀ ps, o ≠ .tbl ps) → w.H a = some o → w'.H a = some o
  sub : Sub w.al w.F w'.al w'.F
  new : ∀ a o, w'.F a = some o → w.F a = none → w.fre a ∨ a ∈ w.al
  newA : ∀ a, a ∈ w'.al → a ∈ w.al ∨ w.fre a
theorem Go.refl (c : Cg) (w : Wd) : Go c w w := ⟨fun _ _ _ _ _ h => h, Sub.refl _ _, fun a o h n => (by rw [n] at h; cases h), fun a h => .inl h⟩
theorem Go.back {c : Cg} {w w' : Wd} (g : Go c w w') {a : Addr} (h : w'.fre a) (np : a ≠ c.pn) : a ∈ w.al ∨ w.fre a := by
  by_cases ha : a ∈ w.al
  · exact .inl ha
  · refine .inr fun u q => ?_
    by_cases ht : ∃ ps, u = .tbl ps
    · exact ht
    · exact h u (g.keep a u np ha (fun ps z => ht ⟨ps, z⟩) q)
theorem Go.trans {K : PySem.W.Frag} {c : Cg} {w w1 w2 : Wd} {s : S} (a : Go c w w1) (b : Go c w1 w2) (o : Ok K c w2 s) : Go c w w2 where
  keep := fun x u np na nt h => b.keep x u np (fun z => (a.newA x z).elim na fun y => let ⟨ps, e⟩ := y u h; nt ps e) nt (a.keep x u np na nt h)
  sub := a.sub.trans b.sub
  new := fun x u h n => by
    have np : x ≠ c.pn := by rintro rfl; rw [o.fpn] at h; cases h
    cases q : w1.F x with
    | some y => exact a.new x y q n
    | none =>
      rcases b.new x u h q with z | z
      · exact (a.back z np).symm
      · exact (a.newA x z).symm
  newA := fun x h => by
    have np : x ≠ c.pn := by rintro rfl; exact o.pna h
    rcases b.newA x h with z | z
    · exact a.newA x z
    · exact a.back z np
abbrev Sl := Option D
structure Slo (K : PySem.W.Frag) (c : Cg) (w : Wd) (σ : L2.St) (δ : List Sl) : Prop where
  len : σ.length = δ.length
  val : ∀ (i : Nat) (d : D), δ[i]? = some (some d) → ∃ v, σ[i]? = some (some v) ∧ Rep K c w.al w.F v d
theorem Slo.go {K : PySem.W.Frag} {c : Cg} {w w' : Wd} {σ : L2.St} {δ : List Sl} (s : Slo K c w σ δ) (g : Go c w w') : Slo K c w' σ δ :=
  ⟨s.len, fun i d e => let ⟨v, q, r⟩ := s.val i d e; ⟨v, q, r.up g.sub⟩⟩
theorem Slo.set {K : PySem.W.Frag} {c : Cg} {w : Wd} {σ : L2.St} {δ : List Sl} {i : Nat} {v : V} {d : D} (s : Slo K c w σ δ) (r : Rep K c w.al w.F v d) : Slo K c w (σ.set i (some v)) (δ.set i (some d)) := by
  refine ⟨by simpa using s.len, fun j d' e => ?_⟩
  by_cases hj : j = i
  · subst hj
    have hl : j < δ.length := by
      have := (List.getElem?_eq_some_iff.mp e).1
      simpa using this
    rw [List.getElem?_set_self hl] at e
    cases e
    exact ⟨v, List.getElem?_set_self (by rw [s.len]; exact hl), r⟩
  · rw [List.getElem?_set_ne (Ne.symm hj)] at e
    rw [List.getElem?_set_ne (Ne.symm hj)]
    exact s.val j d' e
theorem Slo.forget {K : PySem.W.Frag} {c : Cg} {w : Wd} {σ : L2.St} {δ : List Sl} {i : Nat} {o : Option V} (s : Slo K c w σ δ) : Slo K c w (σ.set i o) (δ.set i none) := by
  refine ⟨by simpa using s.len, fun j d' e => ?_⟩
  by_cases hj : j = i
  · subst hj
    by_cases hl : j < δ.length
    · rw [List.getElem?_set_self hl] at e; cases e
    · rw [List.getElem?_eq_none (by simpa using hl)] at e; cases e
  · rw [List.getElem?_set_ne (Ne.symm hj)] at e
    rw [List.getElem?_set_ne (Ne.symm hj)]
    exact s.val j d' e
def Den (K : PySem.W.Frag) (c : Cg) {A : Type} (m : W A) (w : Wd) (s : S) (Q : A → Wd → S → Prop) (E : Xn → Wd → S → Prop) : Prop :=
  m.wp s (fun t a => ∀ w', Go c w w' → Ok K c w' t → Q a w' t) (fun t x => ∀ w', Go c w w' → Ok K c w' t → E x w' t)
section
variable {K : PySem.W.Frag} {c : Cg} {A B : Type} {w : Wd} {s : S} {m : W A} {f : A → W B} {a : A} {Q R : A → Wd → S → Prop} {QB : B → Wd → S → Prop} {E G : Xn → Wd → S → Prop} {p : Prop}
theorem Den.mono (h : Den K c m w s Q E) (q : ∀ a w' t, Go c w w' → Ok K c w' t → Q a w' t → R a w' t) : Den K c m w s R E := m.mono (fun t a z w' g o => q a w' t g o (z w' g o)) (fun _ _ z => z) h
theorem Den.ret (h : Den K c (W.ret a) w s Q E) (o : Ok K c w s) : Q a w s := h w (Go.refl ..) o
theorem Den.bind (h : Den K c (m.bind f) w s QB E) : Den K c m w s (fun a w1 s1 => Den K c (f a) w1 s1 QB E) E :=
  m.mono (fun t a z w1 g1 o1 => (f a).mono (fun t2 b y w2 g2 o2 => y w2 (g1.trans g2 o2) o2) (fun t2 x y w2 g2 o2 => y w2 (g1.trans g2 o2) o2) z) (fun _ _ z => z) h
theorem Den.on {w0 : Wd} {s0 : S} (h : m.wp s (fun t a => ∀ w', Go c w0 w' → Ok K c w' t → Q a w' t) (fun t x => ∀ w', Go c w0 w' → Ok K c w' t → E x w' t)) (g : Go c w0 w) : Den K c m w s Q E :=
  m.mono (fun t a z w' g' o' => z w' (g.trans g' o') o') (fun t x z w' g' o' => z w' (g.trans g' o') o') h
end
def RepX (K : PySem.W.Frag) (c : Cg) (w : Wd) (cls : Value) (d : Option Addr) (x : Xn) : Prop :=
  cls = .ref (He.ga K x.cls) ∧ match x.fs with
    | [] => d = none
    | g :: gs => ∃ dx fs, d = some dx ∧ w.H dx = some (.xd fs) ∧ RepF K c w.al w.F fs (g :: gs)
abbrev xE (K : PySem.W.Frag) (c : Cg) (E : XK) : Xn → Wd → S → Prop := fun x w' _ => ∀ cls d, RepX K c w' cls d x → E cls d w'.H
abbrev qV (K : PySem.W.Frag) (c : Cg) (Q : VK) : D → Wd → S → Prop := fun d w' _ => ∀ v, Rep K c w'.al w'.F v d → Q v w'.H
def LE (K : PySem.W.Frag) (te : XK → TE) (f : List Sl → W D) : Prop := ∀ (c : Cg) (w : Wd) (s : S) (σ : L2.St) (δ : List Sl) (Q : VK) (E : XK), Ok K c w s → Slo K c w σ δ → Den K c (f δ) w s (qV K c Q) (xE K c E) → te E σ w.H Q
def LT (K : PySem.W.Frag) (tt : XK → TT) (f : List Sl → W Bool) : Prop := ∀ (c : Cg) (w : Wd) (s : S) (σ : L2.St) (δ : List Sl) (Q : Bool → Hp → Prop) (E : XK), Ok K c w s → Slo K c w σ δ → Den K c (f δ) w s (fun b w' _ => Q b w'.H) (xE K c E) → tt E σ w.H Q
def LA (K : PySem.W.Frag) (ta : XK → TA) (f : List Sl → W (List D)) : Prop := ∀ (c : Cg) (w : Wd) (s : S) (σ : L2.St) (δ : List Sl) (Q : List V → Hp → Prop) (E : XK), Ok K c w s → Slo K c w σ δ →
  Den K c (f δ) w s (fun ds w' _ => ∀ vs, RepL K c w'.al w'.F vs ds → Q vs w'.H) (xE K c E) → ta E σ w.H Q
def LO2 (K : PySem.W.Frag) (r : R2) (g : D → D → W D) : Prop := ∀ (c : Cg) (w : Wd) (s : S) (v u : V) (x y : D) (Q : VK) (E : Xn → Wd → S → Prop), Ok K c w s → Rep K c w.al w.F v x → Rep K c w.al w.F u y → Den K c (g x y) w s (qV K c Q) E → r v u w.H Q
def LOn (K : PySem.W.Frag) (r : List V → Hp → VK → Prop) (g : List D → W D) : Prop := ∀ (c : Cg) (w : Wd) (s : S) (vs : List V) (xs : List D) (Q : VK) (E : Xn → Wd → S → Prop), Ok K c w s → RepL K c w.al w.F vs xs → Den K c (g xs) w s (qV K c Q) E → r vs w.H Q
theorem Ok.ne {K : PySem.W.Frag} {c : Cg} {w : Wd} {s : S} {p : Addr} (o : Ok K c w s) (h : w.H p = none) : p ≠ c.pn := by
  rintro rfl
  obtain ⟨_, _, _, _, e, _⟩ := o.pen
  rw [h] at e; cases e
theorem Ok.free {K : PySem.W.Frag} {c : Cg} {w : Wd} {s : S} {p : Addr} (o : Ok K c w s) (h : w.H p = none) : w.F p = none := by
  cases e : w.F p with
  | none => rfl
  | some u => rw [o.fro _ _ e] at h; cases h
theorem Ok.out {K : PySem.W.Frag} {c : Cg} {w : Wd} {s : S} {p : Addr} (o : Ok K c w s) (h : w.H p = none) : p ∉ w.al := fun z => o.occ p z h
theorem RepM.of {K : PySem.W.Frag} {c : Cg} {w w' : Wd} {a : Addr} {o : MO} (r : RepM K c w a o) (e : Sub w.al w.F w'.al w'.F) (hH : w'.H a = w.H a) (hF : w.F a = none → w'.F a = none) : RepM K c w' a o := by
  cases o with
  | lst ds => obtain ⟨h0, vs, h1, h2⟩ := r; exact ⟨hF h0, vs, hH.trans h1, h2.up e⟩
  | dct kvs => obtain ⟨h0, vs, h1, h2⟩ := r; exact ⟨hF h0, vs, hH.trans h1, h2.up e⟩
  | ins cl fs => obtain ⟨h0, dx, vs, h1, h2, h3, h4, h5⟩ := r; exact ⟨hF h0, dx, vs, hH.trans h1, h2, h3, h4.up e, h5⟩
  | gone => trivial
theorem PenOk.of {K : PySem.W.Frag} {c : Cg} {F H F' H' : Hp} {n : Nat} (p : PenOk K c F H n) (e : Le F F') (h : H' c.pn = H c.pn) : PenOk K c F' H' n := by
  obtain ⟨l, cs, t, lf, h1, h2, r⟩ := p
  exact ⟨l, cs, t, lf, h.trans h1, e.sqL h2, r⟩
@[reducible] def Wd.lay (w : Wd) (p : Addr) (o : HO) : Wd := ⟨w.al, upd w.F p o, upd w.H p o⟩
theorem Ok.lay {K : PySem.W.Frag} {c : Cg} {w : Wd} {s : S} {p : Addr} {o : HO} (k : Ok K c w s) (h : w.H p = none) (nt : ∀ ps, o ≠ .tbl ps) : Ok K c (w.lay p o) s ∧ Go c w (w.lay p o) := by
  have hp := k.ne h
  have hF := k.free h
  have ha := k.out h
  have nh : ∀ {a : Addr} {u : HO}, w.H a = some u → a ≠ p := fun e => ne_of_none e h
  have sb : Sub w.al w.F w.al (upd w.F p o) := ⟨List.prefix_refl _, Le.up hF⟩
  have na : ∀ a ∈ w.al, a ≠ p := fun a z e => ha (e ▸ z)
  refine ⟨⟨fun a u e => ?_, ?_, k.pna, k.nd, k.len, fun a z => ?_, k.pen.of (Le.up hF) (upd_ne hp.symm), k.tab.ext fun b u e => ?_, fun a ps => ?_, fun a z ps => ?_, fun a z φ => ?_, fun i a u e1 e2 => ?_⟩, fun a u _ _ _ e => ?_, sb, fun a u e n => ?_, fun a z => .inl z⟩
  · show upd w.H p o a = some u
    have e : upd w.F p o a = some u := e
    by_cases e2 : a = p
    · subst e2; rw [upd_same] at e ⊢; exact e
    · rw [upd_ne e2] at e ⊢; exact k.fro a u e
  · show upd w.F p o c.pn = none
    rw [upd_ne hp.symm]; exact k.fpn
  · show upd w.H p o a ≠ none
    rw [upd_ne (na a z)]; exact k.occ a z
  · show upd w.H p o b = some u
    rw [upd_ne (nh e)]; exact e
  · show upd w.F p o a ≠ some (.tbl ps)
    by_cases e2 : a = p
    · subst e2; rw [upd_same]; exact fun z => nt ps (Option.some.inj z)
    · rw [upd_ne e2]; exact k.ftb a ps
  · show upd w.H p o a ≠ some (.tbl ps)
    rw [upd_ne (na a z)]; exact k.atb a z ps
  · show upd w.H p o a ≠ some (.ext φ)
    rw [upd_ne (na a z)]; exact k.aco a z φ
  · have hm := List.mem_of_getElem? e1
    exact (k.sto i a u e1 e2).of sb (upd_ne (na a hm)) fun z => by show upd w.F p o a = none; rw [upd_ne (na a hm)]; exact z
  · show upd w.H p o a = some u
    rw [upd_ne (nh e)]; exact e
  · have e : upd w.F p o a = some u := e
    by_cases e2 : a = p
    · subst e2; exact .inl (Wd.fre_none h)
    · rw [upd_ne e2, n] at e; cases e
@[reducible] def dVar (i : Nat) : List Sl → W D := fun δ => match δ[i]? with
  | some (some d) => W.ret d
  | _ => W.stuck
@[reducible] def dC (d : D) : List Sl → W D := fun _ => W.ret d
@[reducible] def dOp2 (g : D → D → W D) (fa fb : List Sl → W D) : List Sl → W D := fun δ => (fa δ).bind fun x => (fb δ).bind fun y => g x y
@[reducible] def dOp1 (g : D → W D) (fa : List Sl → W D) : List Sl → W D := fun δ => (fa δ).bind g
@[reducible] def dOpn (g : List D → W D) (fa : List Sl → W (List D)) : List Sl → W D := fun δ => (fa δ).bind g
@[reducible] def dNil : List Sl → W (List D) := fun _ => W.ret []
@[reducible] def dCons (fa : List Sl → W D) (fr : List Sl → W (List D)) : List Sl → W (List D) := fun δ => (fa δ).bind fun x => (fr δ).bind fun xs => W.ret (x :: xs)
section
variable {K : PySem.W.Frag} {ta tb : XK → TE} {fa fb : List Sl → W D}
theorem le_var {i : Nat} : LE K (fun _ => tVar i) (dVar i) := fun c w s σ δ Q E o sl h => by
  unfold dVar at h
  cases e : δ[i]? with
  | none => rw [e] at h; exact h.elim
  | some x =>
    rw [e] at h
    cases x with
    | none => exact h.elim
    | some d =>
      obtain ⟨v, q, r⟩ := sl.val i d e
      exact ⟨v, q, h.ret o v r⟩
theorem le_c {v : V} {d : D} (h : ∀ c al F, Rep K c al F v d) : LE K (fun _ => tC v) (dC d) := fun c w s σ δ Q E o sl q => q.ret o v (h c _ _)
theorem le_int {i : Int} : LE K (fun _ => tC (.int i)) (dC (.int i)) := le_c fun _ _ _ => .int i
theorem le_str {x : Str} : LE K (fun _ => tC (.str x)) (dC (.str x)) := le_c fun _ _ _ => .str x
theorem le_bl {b : Bool} : LE K (fun _ => tC (.bl b)) (dC (.bl b)) := le_c fun _ _ _ => .bl b
theorem le_non : LE K (fun _ => tC .non) (dC .non) := le_c fun _ _ _ => .non
theorem le_op2 {r : R2} {g : D → D → W D} (hr : LO2 K r g) (ha : LE K ta fa) (hb : LE K tb fb) : LE K (fun E => tOp r (ta E) (tb E)) (dOp2 g fa fb) := fun c w s σ δ Q E o sl h =>
  ha c w s σ δ _ E o sl (h.bind.mono fun x w1 s1 g1 o1 q v r1 => hb c w1 s1 σ δ _ E o1 (sl.go g1) (q.bind.mono fun y w2 s2 g2 o2 q2 u r2 => hr c w2 s2 v u x y Q _ o2 (r1.up g2.sub) r2 q2))
theorem la_nil : LA K (fun _ => tNil) dNil := fun c w s σ δ Q E o sl h => h.ret o [] .nil
theorem la_cons {tr : XK → TA} {fr : List Sl → W (List D)} (ha : LE K ta fa) (hr : LA K tr fr) : LA K (fun E => tCons (ta E) (tr E)) (dCons fa fr) := fun c w s σ δ Q E o sl h =>
  ha c w s σ δ _ E o sl (h.bind.mono fun x w1 s1 g1 o1 q v r1 => hr c w1 s1 σ δ _ E o1 (sl.go g1) (q.bind.mono fun ys w2 s2 g2 o2 q2 us r2 => q2.ret o2 (v :: us) (.cons (r1.up g2.sub) r2)))
theorem le_opn {t : XK → TA} {f : List Sl → W (List D)} {r : List V → Hp → VK → Prop} {g : List D → W D} (hr : LOn K r g) (ha : LA K t f) : LE K (fun E => tCB r (t E)) (dOpn g f) := fun c w s σ δ Q E o sl h =>
  ha c w s σ δ _ E o sl (h.bind.mono fun x w1 s1 g1 o1 q vs r1 => hr c w1 s1 vs x Q _ o1 r1 q)
@[reducible] def dTup (f : List Sl → W (List D)) : List Sl → W D := fun δ => (f δ).bind fun xs => W.need (xs.length ≤ sizeLine) (W.ret (.tup xs))
@[reducible] def dLst (f : List Sl → W (List D)) : List Sl → W D := fun δ => (f δ).bind fun xs => W.need (xs.length ≤ sizeLine) (W.ret (.lst xs))
theorem le_tup {t : XK → TA} {f : List Sl → W (List D)} (ha : LA K t f) : LE K (fun E => tTup (t E)) (dTup f) := fun c w s σ δ Q E o sl h =>
  ha c w s σ δ _ E o sl (h.bind.mono fun xs w1 s1 g1 o1 q vs r1 => ⟨by rw [r1.len]; exact q.1, fun p hp => by
    obtain ⟨o2, g2⟩ := o1.lay (o := .tup vs) hp (fun _ z => by cases z)
    exact q.2 _ g2 o2 (.ref p) (.tup upd_same (r1.up g2.sub))⟩)
theorem le_lst {t : XK → TA} {f : List Sl → W (List D)} (ha : LA K t f) : LE K (fun E => tLst (t E)) (dLst f) := fun c w s σ δ Q E o sl h =>
  ha c w s σ δ _ E o sl (h.bind.mono fun xs w1 s1 g1 o1 q vs r1 => ⟨by rw [r1.len]; exact q.1, fun p hp => by
    obtain ⟨o2, g2⟩ := o1.lay (o := .lst vs) hp (fun _ z => by cases z)
    exact q.2 _ g2 o2 (.ref p) (.lst upd_same (r1.up g2.sub))⟩)
end
end Ly
namespace Ly
open PySem L2
open Lx (Le)
@[reducible] def W.calm {A : Type} (m : W A) : W A := ⟨fun s Q _ => m.wp s Q fun _ _ => False, fun h _ p => m.mono h (fun _ _ z => z) p⟩
theorem Den.calm {K : PySem.W.Frag} {c : Cg} {A : Type} {m : W A} {w : Wd} {s : S} {Q : A → Wd → S → Prop} {E G : Xn → Wd → S → Prop} (h : Den K c m.calm w s Q E) : Den K c m w s Q G := m.mono (fun _ _ z => z) (fun _ _ z => z.elim) h
@[reducible] def truD : D → W Bool
  | .non => W.ret false
  | .bl b => W.ret b
  | .int i => W.ret (i != 0)
  | .str y => W.need (y.length ≤ sizeLine) (W.ret ((y.length : Int) != 0))
  | .lst xs => W.ret (!xs.isEmpty)
  | .tup xs => W.ret (!xs.isEmpty)
  | _ => W.stuck
@[reducible] def blD : D → W Bool
  | .bl b => W.ret b
  | _ => W.stuck
section
variable {K : PySem.W.Frag} {ta tb : XK → TE} {fa fb : List Sl → W D} {tt tu : XK → TT} {ft fu : List Sl → W Bool}
theorem truV_of {c : Cg} {w : Wd} {s : S} {v : V} {d : D} {A : Type} {f : Bool → W A} {Q : A → Wd → S → Prop} {E : Xn → Wd → S → Prop} (o : Ok K c w s) (r : Rep K c w.al w.F v d) (h : Den K c ((truD d).bind f) w s Q E) : ∃ k, TruV K v w.H k ∧ Den K c (f k) w s Q E := by
  cases r with
  | non => exact ⟨_, rfl, h⟩
  | bl b => exact ⟨_, rfl, h⟩
  | int i => exact ⟨_, rfl, h⟩
  | str x => exact ⟨_, ⟨h.1, rfl⟩, h.2⟩
  | lst a b => exact ⟨_, .inl ⟨_, SqL.of (o.fro _ _ a), rfl⟩, by rw [isE b]; exact h⟩
  | tup a b => exact ⟨_, .inr (.inl ⟨_, SqT.of (o.fro _ _ a), rfl⟩), by rw [isE b]; exact h⟩
  | dct a b => exact h.elim
  | obj a _ _ b => exact h.elim
  | pen => exact h.elim
  | sct a => exact h.elim
  | mu a => exact h.elim
  | err _ _ _ => exact h.elim
  | err0 _ => exact h.elim
  | slo _ _ _ _ => exact h.elim
  | cls _ => exact h.elim
  | gt _ _ => exact h.elim
@[reducible] def dTru (fa : List Sl → W D) : List Sl → W Bool := fun δ => (fa δ).bind fun x => (truD x).bind W.ret
@[reducible] def dTest (fa : List Sl → W D) : List Sl → W Bool := fun δ => (fa δ).bind blD
@[reducible] def dAnd (a b : List Sl → W Bool) : List Sl → W Bool := fun δ => (a δ).bind fun k => match k with | true => b δ | false => W.ret false
@[reducible] def dOr (a b : List Sl → W Bool) : List Sl → W Bool := fun δ => (a δ).bind fun k => match k with | true => W.ret true | false => b δ
@[reducible] def dNot (a : List Sl → W Bool) : List Sl → W Bool := fun δ => (a δ).bind fun k => W.ret (!k)
theorem lt_tru (ha : LE K ta fa) : LT K (fun E σ H Q => ta E σ H fun x H1 => ∃ k, TruV K x H1 k ∧ Q k H1) (dTru fa) := fun c w s σ δ Q E o sl h =>
  ha c w s σ δ _ E o sl (h.bind.mono fun x w1 s1 g1 o1 q v r1 => let ⟨k, t, q⟩ := truV_of o1 r1 q; ⟨k, t, q.ret o1⟩)
theorem lt_test (ha : LE K ta fa) : LT K (fun E => tTest (ta E)) (dTest fa) := fun c w s σ δ Q E o sl h =>
  ha c w s σ δ _ E o sl (h.bind.mono fun x w1 s1 g1 o1 q v r1 => by
    cases r1 with
    | bl b => exact ⟨b, rfl, q.ret o1⟩
    | _ => exact q.elim)
theorem lt_and (ha : LT K tt ft) (hb : LT K tu fu) : LT K (fun E => tAnd (tt E) (tu E)) (dAnd ft fu) := fun c w s σ δ Q E o sl h =>
  ha c w s σ δ _ E o sl (h.bind.mono fun k w1 s1 g1 o1 q => by
    cases k with
    | false => exact iteF (q.ret o1)
    | true => exact iteT (hb c w1 s1 σ δ _ E o1 (sl.go g1) q))
theorem lt_or (ha : LT K tt ft) (hb : LT K tu fu) : LT K (fun E => tOr (tt E) (tu E)) (dOr ft fu) := fun c w s σ δ Q E o sl h =>
  ha c w s σ δ _ E o sl (h.bind.mono fun k w1 s1 g1 o1 q => by
    cases k with
    | true => exact iteT (q.ret o1)
    | false => exact iteF (hb c w1 s1 σ δ _ E o1 (sl.go g1) q))
theorem lt_not (ha : LT K tt ft) : LT K (fun E => tNot (tt E)) (dNot ft) := fun c w s σ δ Q E o sl h =>
  ha c w s σ δ _ E o sl (h.bind.mono fun k w1 s1 g1 o1 q => q.ret o1)
@[reducible] def dAndV (fa fb : List Sl → W D) : List Sl → W D := fun δ => (fa δ).bind fun x => (truD x).bind fun k => match k with | true => fb δ | false => W.ret x
@[reducible] def dNotV (fa : List Sl → W D) : List Sl → W D := fun δ => (fa δ).bind fun x => (truD x).bind fun k => W.ret (.bl (!k))
@[reducible] def dIfE (ft : List Sl → W Bool) (fa fb : List Sl → W D) : List Sl → W D := fun δ => (ft δ).bind fun k => match k with | true => fa δ | false => fb δ
theorem le_and (ha : LE K ta fa) (hb : LE K tb fb) : LE K (fun E => tAndT K (ta E) (tb E)) (dAndV fa fb) := fun c w s σ δ Q E o sl h =>
  ha c w s σ δ _ E o sl (h.bind.mono fun x w1 s1 g1 o1 q v r1 => by
    obtain ⟨k, t, q⟩ := truV_of o1 r1 q
    refine ⟨k, t, ?_⟩
    cases k with
    | true => exact iteT (hb c w1 s1 σ δ _ E o1 (sl.go g1) q)
    | false => exact iteF (q.ret o1 v r1))
theorem le_notT (ha : LE K ta fa) : LE K (fun E => tNotT K (ta E)) (dNotV fa) := fun c w s σ δ Q E o sl h =>
  ha c w s σ δ _ E o sl (h.bind.mono fun x w1 s1 g1 o1 q v r1 => by
    obtain ⟨k, t, q⟩ := truV_of o1 r1 q
    exact ⟨k, t, q.ret o1 _ (.bl _)⟩)
theorem le_if (ht : LT K tt ft) (ha : LE K ta fa) (hb : LE K tb fb) : LE K (fun E => tIf (tt E) (ta E) (tb E)) (dIfE ft fa fb) := fun c w s σ δ Q E o sl h =>
  ht c w s σ δ _ E o sl (h.bind.mono fun k w1 s1 g1 o1 q => by
    cases k with
    | true => exact iteT (ha c w1 s1 σ δ _ E o1 (sl.go g1) q)
    | false => exact iteF (hb c w1 s1 σ δ _ E o1 (sl.go g1) q))
@[reducible] def dChain (g g2 : D → D → W D) (fa fb fc : List Sl → W D) : List Sl → W D := fun δ => (fa δ).bind fun x => (fb δ).bind fun y => (g x y).bind fun z => (blD z).bind fun k =>
  match k with | true => (fc δ).bind fun u => g2 y u | false => W.ret (.bl false)
theorem le_chain {r r2 : R2} {g g2 : D → D → W D} {tc : XK → TE} {fc : List Sl → W D} (hr : LO2 K r g) (hr2 : LO2 K r2 g2) (ha : LE K ta fa) (hb : LE K tb fb) (hc : LE K tc fc) : LE K (fun E => tChain r r2 (ta E) (tb E) (tc E)) (dChain g g2 fa fb fc) := fun c w s σ δ Q E o sl h =>
  ha c w s σ δ _ E o sl (h.bind.mono fun x w1 s1 g1 o1 q v r1 => hb c w1 s1 σ δ _ E o1 (sl.go g1) (q.bind.mono fun y w2 s2 k2 o2 q2 u r22 => hr c w2 s2 v u x y _ (xE K c E) o2 (r1.up k2.sub) r22 (q2.bind.mono fun z w3 s3 k3 o3 q3 zv r3 => by
    have g3 := (g1.trans k2 o2).trans k3 o3
    cases r3 with
    | bl b =>
      refine ⟨b, rfl, ?_⟩
      cases b with
      | false => exact iteF (q3.ret o3 _ (.bl _))
      | true => exact iteT (hc c w3 s3 σ δ _ E o3 (sl.go g3) ((show Den K c ((fc δ).bind fun u => g2 y u) w3 s3 (qV K c Q) (xE K c E) from q3).bind.mono fun u4 w4 s4 k4 o4 q4 uv r4 => hr2 c w4 s4 u uv y u4 Q _ o4 ((r22.up k3.sub).up k4.sub) r4 q4))
    | _ => exact q3.elim)))
end
def LG (K : PySem.W.Frag) (vs : List Nat) (g : TG) (dg : D → List Sl → W (List Sl)) : Prop := ∀ (c : Cg) (w : Wd) (s : S) (σ : L2.St) (δ : List Sl) (v : V) (d : D) (Q : L2.St → Hp → Prop) (E : Xn → Wd → S → Prop), Ok K c w s → Slo K c w σ δ → Rep K c w.al w.F v d →
  Den K c (dg d δ) w s (fun ε w' _ => ∀ σ1, Slo K c w' σ1 ε → (∀ j : Nat, j ∉ vs → σ1[j]? = σ[j]?) → σ1.length = σ.length → Q σ1 w'.H) E → g v σ w.H Q
@[reducible] def dName (i : Nat) : D → List Sl → W (List Sl) := fun d δ => W.ret (δ.set i (some d))
theorem lg_name {K : PySem.W.Frag} {i : Nat} : LG K [i] (gName i) (dName i) := fun c w s σ δ v d Q E o sl r h =>
  h.ret o _ (sl.set r) (fun j hj => List.getElem?_set_ne (by simpa using fun e => hj (by simp [e]))) (by simp)
def LGs (K : PySem.W.Frag) (vs : List Nat) (g : TGs) (dg : List D → List Sl → W (List Sl)) : Prop := ∀ (c : Cg) (w : Wd) (s : S) (σ : L2.St) (δ : List Sl) (us : List V) (ds : List D) (Q : L2.St → Hp → Prop) (E : Xn → Wd → S → Prop), Ok K c w s → Slo K c w σ δ → RepL K c w.al w.F us ds →
  Den K c (dg ds δ) w s (fun ε w' _ => ∀ σ1, Slo K c w' σ1 ε → (∀ j : Nat, j ∉ vs → σ1[j]? = σ[j]?) → σ1.length = σ.length → Q σ1 w'.H) E → g us σ w.H Q
@[reducible] def dGNil : List D → List Sl → W (List Sl) := fun ds δ => match ds with | [] => W.ret δ | _ => W.stuck
@[reducible] def dGCons (a : D → List Sl → W (List Sl)) (b : List D → List Sl → W (List Sl)) : List D → List Sl → W (List Sl) := fun ds δ => match ds with | d :: r => (a d δ).bind fun ε => b r ε | _ => W.stuck
@[reducible] def dGTup (n : Nat) (b : List D → List Sl → W (List Sl)) : D → List Sl → W (List Sl) := fun d δ => match d with | .tup ds => W.need (ds.length = n) (b ds δ) | _ => W.stuck
@[reducible] def dGLst (n : Nat) (b : List D → List Sl → W (List Sl)) : D → List Sl → W (List Sl) := fun d δ => match d with | .lst ds => W.need (ds.length = n) (b ds δ) | _ => W.stuck
section
variable {K : PySem.W.Frag} {vs us : List Nat}
theorem lgs_nil : LGs K [] gNil dGNil := fun c w s σ δ ws ds Q E o sl r h => by
  cases r with
  | nil => exact ⟨rfl, h.ret o _ sl (fun _ _ => rfl) rfl⟩
  | cons _ _ => exact h.elim
theorem lgs_cons {t : TG} {u : TGs} {a : D → List Sl → W (List Sl)} {b : List D → List Sl → W (List Sl)} (ha : LG K vs t a) (hb : LGs K us u b) : LGs K (vs ++ us) (gCons t u) (dGCons a b) := fun c w s σ δ ws ds Q E o sl r h => by
  cases r with
  | nil => exact h.elim
  | @cons v ws d ds rv rr =>
    refine ⟨v, ws, rfl, ha c w s σ δ v d _ E o sl rv ((show Den K c ((a d δ).bind fun ε => b ds ε) w s _ E from h).bind.mono fun ε w1 s1 g1 o1 q σ1 s1' e1 l1 => ?_)⟩
    exact hb c w1 s1 σ1 ε ws ds _ E o1 s1' (rr.up g1.sub) (q.mono fun ε2 w2 s2 g2 o2 q2 σ2 s2' e2 l2 => q2 σ2 s2' (fun j hj => (e2 j fun z => hj (List.mem_append_right _ z)).trans (e1 j fun z => hj (List.mem_append_left _ z))) (l2.trans l1))
theorem lg_tup {k : Nat} {t : TGs} {b : List D → List Sl → W (List Sl)} (hb : LGs K vs t b) : LG K vs (gTup K k t) (dGTup k b) := fun c w s σ δ v d Q E o sl r h => by
  cases r with
  | tup a r => exact ⟨_, _, rfl, SqT.of (o.fro _ _ a), (r.len.trans h.1), hb c w s σ δ _ _ Q E o sl r h.2⟩
  | _ => exact h.elim
theorem lg_lst {k : Nat} {t : TGs} {b : List D → List Sl → W (List Sl)} (hb : LGs K vs t b) : LG K vs (gLst K k t) (dGLst k b) := fun c w s σ δ v d Q E o sl r h => by
  cases r with
  | lst a r => exact ⟨_, _, rfl, SqL.of (o.fro _ _ a), (r.len.trans h.1), hb c w s σ δ _ _ Q E o sl r h.2⟩
  | _ => exact h.elim
end
inductive Out where
  | nx (δ : List Sl) | rt (d : D) | bk (δ : List Sl) | ct (δ : List Sl)
@[reducible] def qS (K : PySem.W.Frag) (c : Cg) (D : Ends) : Out → Wd → S → Prop := fun o w' _ => match o with
  | .nx δ => ∀ σ, Slo K c w' σ δ → D.nx σ w'.H
  | .rt d => ∀ v, Rep K c w'.al w'.F v d → D.rt v w'.H
  | .bk δ => ∀ σ, Slo K c w' σ δ → D.bk σ w'.H
  | .ct δ => ∀ σ, Slo K c w' σ δ → D.ct σ w'.H
def LS (K : PySem.W.Frag) (ts : XK → TS) (g : List Sl → W Out) : Prop := ∀ (c : Cg) (w : Wd) (s : S) (σ : L2.St) (δ : List Sl) (D : Ends) (E : XK), Ok K c w s → Slo K c w σ δ → Den K c (g δ) w s (qS K c D) (xE K c E) → ts E D σ w.H
@[reducible] def dSeq (g h : List Sl → W Out) : List Sl → W Out := fun δ => (g δ).bind fun o => match o with | .nx ε => h ε | o => W.ret o
@[reducible] def dNext : List Sl → W Out := fun δ => W.ret (.nx δ)
@[reducible] def dAsg (f : List Sl → W D) (dg : D → List Sl → W (List Sl)) : List Sl → W Out := fun δ => (f δ).bind fun d => (dg d δ).bind fun ε => W.ret (.nx ε)
@[reducible] def dRet (f : List Sl → W D) : List Sl → W Out := fun δ => (f δ).bind fun d => W.ret (.rt d)
@[reducible] def dIf (t : List Sl → W Bool) (a b : List Sl → W Out) : List Sl → W Out := fun δ => (t δ).bind fun k => match k with | true => a δ | false => b δ
@[reducible] def dNever : List Sl → W Out := fun _ => W.stuck
@[reducible] def dPar (i j : Nat) (f : List Sl → W (List D)) : List Sl → W Out := fun δ => (f δ).bind fun ds => match ds with | [x, y] => W.ret (.nx ((δ.set i (some x)).set j (some y))) | _ => W.stuck
@[reducible] def dPar3 (i j l : Nat) (f : List Sl → W (List D)) : List Sl → W Out := fun δ => (f δ).bind fun ds => match ds with | [x, y, z] => W.ret (.nx (((δ.set i (some x)).set j (some y)).set l (some z))) | _ => W.stuck
section
variable {K : PySem.W.Frag} {ts tu : XK → TS} {g h : List Sl → W Out} {te : XK → TE} {f : List Sl → W D}
theorem ls_next : LS K (fun _ => tNext) dNext := fun c w s σ δ D E o sl q => q.ret o σ sl
theorem ls_never : LS K (fun _ => tNever) dNever := fun c w s σ δ D E o sl q => q
theorem ls_seq (ha : LS K ts g) (hb : LS K tu h) : LS K (fun E => tSeq (ts E) (tu E)) (dSeq g h) := fun c w s σ δ D E o sl q =>
  ha c w s σ δ _ E o sl (q.bind.mono fun u w1 s1 g1 o1 p => by
    cases u with
    | nx ε => exact fun σ1 s1' => hb c w1 s1 σ1 ε D E o1 s1' p
    | rt d => exact p.ret o1
    | bk ε => exact p.ret o1
    | ct ε => exact p.ret o1)
theorem ls_asg {vs : List Nat} {tg : TG} {dg : D → List Sl → W (List Sl)} (he : LE K te f) (hg : LG K vs tg dg) : LS K (fun E => tAsg (te E) tg) (dAsg f dg) := fun c w s σ δ D E o sl q =>
  he c w s σ δ _ E o sl (q.bind.mono fun d w1 s1 g1 o1 p v r1 => hg c w1 s1 σ δ v d _ (xE K c E) o1 (sl.go g1) r1 (p.bind.mono fun ε w2 s2 g2 o2 p2 σ2 s2' _ _ => p2.ret o2 σ2 s2'))
theorem ls_ret (he : LE K te f) : LS K (fun E => tRet (te E)) (dRet f) := fun c w s σ δ D E o sl q =>
  he c w s σ δ _ E o sl (q.bind.mono fun d w1 s1 g1 o1 p v r1 => p.ret o1 v r1)
theorem ls_if {tt : XK → TT} {ft : List Sl → W Bool} (ht : LT K tt ft) (ha : LS K ts g) (hb : LS K tu h) : LS K (fun E => tIfS (tt E) (ts E) (tu E)) (dIf ft g h) := fun c w s σ δ D E o sl q =>
  ht c w s σ δ _ E o sl (q.bind.mono fun k w1 s1 g1 o1 p => by
    cases k with
    | true => exact iteT (ha c w1 s1 σ δ D E o1 (sl.go g1) p)
    | false => exact iteF (hb c w1 s1 σ δ D E o1 (sl.go g1) p))
theorem ls_par {t : XK → TA} {f : List Sl → W (List D)} {i j : Nat} (ha : LA K t f) : LS K (fun E => tPar i j (t E)) (dPar i j f) := fun c w s σ δ D E o sl q =>
  ha c w s σ δ _ E o sl (q.bind.mono fun ds w1 s1 g1 o1 p vs r1 => by
    split at p
    · obtain ⟨v, u, rfl, rv, ru⟩ := r1.two
      exact ⟨v, u, rfl, p.ret o1 _ (((sl.go g1).set rv).set ru)⟩
    · exact p.elim)
theorem ls_par3 {t : XK → TA} {f : List Sl → W (List D)} {i j l : Nat} (ha : LA K t f) : LS K (fun E => tPar3 i j l (t E)) (dPar3 i j l f) := fun c w s σ δ D E o sl q =>
  ha c w s σ δ _ E o sl (q.bind.mono fun ds w1 s1 g1 o1 p vs r1 => by
    split at p
    · cases r1 with
      | cons ra rr => obtain ⟨v, u, rfl, rv, ru⟩ := rr.two; exact ⟨_, v, u, rfl, p.ret o1 _ ((((sl.go g1).set ra).set rv).set ru)⟩
    · exact p.elim)
end
def Yie (K : PySem.W.Frag) (c : Cg) (w : Wd) (J : It) (ds : List D) : Prop := ∀ (i : Nat) (w1 : Wd) (s : S), Sub w.al w.F w1.al w1.F → Ok K c w1 s →
  (∀ d, ds[i]? = some d → J.go i w1.H ∧ ∀ x H2, J.yld i w1.H x H2 → ∃ w2, w2.H = H2 ∧ Go c w1 w2 ∧ Ok K c w2 s ∧ Rep K c w2.al w2.F x d) ∧ (ds.length ≤ i → J.stop i w1.H)
def LI (K : PySem.W.Frag) (wi : XK → TI) (f : List Sl → W (List D)) : Prop := ∀ (c : Cg) (w : Wd) (s : S) (σ : L2.St) (δ : List Sl) (R : It → Hp → Prop) (E : XK), Ok K c w s → Slo K c w σ δ →
  Den K c (f δ) w s (fun ds w1 _ => ∀ J, Yie K c w1 J ds → R J w1.H) (xE K c E) → wi E σ w.H R
@[reducible] def dIL (f : List Sl → W D) : List Sl → W (List D) := fun δ => (f δ).bind fun d => match d with | .lst xs => W.ret xs | _ => W.stuck
@[reducible] def dIT (f : List Sl → W D) : List Sl → W (List D) := fun δ => (f δ).bind fun d => match d with | .tup xs => W.ret xs | _ => W.stuck
def rangeD (lo : Int) : Nat → List D
  | 0 => []
  | n + 1 => .int lo :: rangeD (lo + 1) n
theorem rangeD_len : ∀ (n : Nat) (lo : Int), (rangeD lo n).length = n
  | 0, _ => rfl
  | n + 1, lo => congrArg (· + 1) (rangeD_len n (lo + 1))
theorem rangeD_get : ∀ (n : Nat) (lo : Int) (i : Nat), i < n → (rangeD lo n)[i]? = some (.int (lo + i))
  | 0, _, _, h => absurd h (Nat.not_lt_zero _)
  | n + 1, lo, 0, _ => by show some (D.int lo) = _; congr 2; omega
  | n + 1, lo, i + 1, h => by
    show (rangeD (lo + 1) n)[i]? = _
    rw [rangeD_get n (lo + 1) i (by omega)]
    congr 2; omega
@[reducible] def dIR1 (f : List Sl → W (List D)) : List Sl → W (List D) := fun δ => (f δ).bind fun ds => match ds with | [.int j] => W.need (-(2 ^ 62) ≤ j ∧ j < 2 ^ 62) (W.ret (rangeD 0 j.toNat)) | _ => W.stuck
section
variable {K : PySem.W.Frag} {c : Cg} {w : Wd} {a : Addr} {vs : List V} {ds : List D}
theorem yie_list (q : SqL K w.F a vs) (r : RepL K c w.al w.F vs ds) : Yie K c w (Itl K a) ds := fun i w1 s g o => by
  have q1 : SqL K w1.H a vs := o.fro.sqL (g.le.sqL q)
  refine ⟨fun d hd => ?_, fun h => ⟨vs, q1, by rw [r.len]; exact h⟩⟩
  obtain ⟨v, hv, rv⟩ := r.get hd
  refine ⟨⟨vs, v, q1, hv⟩, fun x H2 y => ?_⟩
  obtain ⟨rfl, y⟩ := y
  have hx := y vs q1
  rw [hv] at hx
  cases hx
  exact ⟨w1, rfl, Go.refl .., o, rv.up g⟩
theorem yie_tup (q : SqT K w.F a vs) (r : RepL K c w.al w.F vs ds) : Yie K c w (Itt K a) ds := fun i w1 s g o => by
  have q1 : SqT K w1.H a vs := o.fro.sqT (g.le.sqT q)
  refine ⟨fun d hd => ?_, fun h => ⟨vs, q1, by rw [r.len]; exact h⟩⟩
  obtain ⟨v, hv, rv⟩ := r.get hd
  refine ⟨⟨vs, v, q1, hv⟩, fun x H2 y => ?_⟩
  obtain ⟨rfl, y⟩ := y
  have hx := y vs q1
  rw [hv] at hx
  cases hx
  exact ⟨w1, rfl, Go.refl .., o, rv.up g⟩
theorem yie_range {lo : Int} {n : Nat} : Yie K c w (Itr lo n) (rangeD lo n) := fun i w1 s g o => by
  refine ⟨fun d hd => ?_, fun h => by rw [rangeD_len] at h; exact h⟩
  have hi : i < n := by
    have := (List.getElem?_eq_some_iff.mp hd).1
    rw [rangeD_len] at this; exact this
  rw [rangeD_get n lo i hi] at hd
  cases hd
  refine ⟨hi, fun x H2 y => ?_⟩
  obtain ⟨rfl, rfl⟩ := y
  exact ⟨w1, rfl, Go.refl .., o, .int _⟩
end
section
variable {K : PySem.W.Frag} {te : XK → TE} {f : List Sl → W D}
theorem li_list (he : LE K te f) : LI K (fun E => iList K (te E)) (dIL f) := fun c w s σ δ R E o sl h =>
  he c w s σ δ _ E o sl (h.bind.mono fun d w1 s1 g1 o1 p v r1 => by
    cases r1 with
    | lst q r => exact ⟨_, rfl, ⟨_, SqL.of (o1.fro _ _ q)⟩, p.ret o1 _ (yie_list (SqL.of q) r)⟩
    | _ => exact p.elim)
theorem li_tup (he : LE K te f) : LI K (fun E => iTup K (te E)) (dIT f) := fun c w s σ δ R E o sl h =>
  he c w s σ δ _ E o sl (h.bind.mono fun d w1 s1 g1 o1 p v r1 => by
    cases r1 with
    | tup q r => exact ⟨_, rfl, ⟨_, SqT.of (o1.fro _ _ q)⟩, p.ret o1 _ (yie_tup (SqT.of q) r)⟩
    | _ => exact p.elim)
theorem RepL.int1 {c : Cg} {al : List Addr} {F : Hp} {vs : List V} {j : Int} (r : RepL K c al F vs [.int j]) : vs = [.int j] := by
  cases r with
  | cons a b => cases a; cases b; rfl
theorem RepL.int2 {c : Cg} {al : List Addr} {F : Hp} {vs : List V} {i j : Int} (r : RepL K c al F vs [.int i, .int j]) : vs = [.int i, .int j] := by
  cases r with
  | cons a b => cases a; rw [b.int1]
theorem li_range1 {ta : XK → TA} {fa : List Sl → W (List D)} (ha : LA K ta fa) : LI K (fun E => iRng1 (ta E)) (dIR1 fa) := fun c w s σ δ R E o sl h =>
  ha c w s σ δ _ E o sl (h.bind.mono fun ds w1 s1 g1 o1 p vs r1 => by
    split at p
    · rename_i j
      exact ⟨j, r1.int1, p.1.1, p.1.2, Den.ret (K := K) (c := c) p.2 o1 _ yie_range⟩
    · exact p.elim)
end
def forD (dg : D → List Sl → W (List Sl)) (gb : List Sl → W Out) : List D → List Sl → W Out
  | [], δ => W.ret (.nx δ)
  | d :: ds, δ => (dg d δ).bind fun ε => (gb ε).bind fun o => match o with
    | .nx ε => forD dg gb ds ε
    | .ct ε => forD dg gb ds ε
    | .bk ε => W.ret (.nx ε)
    | .rt d => W.ret (.rt d)
@[reducible] def dFor (fi : List Sl → W (List D)) (dg : D → List Sl → W (List Sl)) (gb : List Sl → W Out) : List Sl → W Out := fun δ => (fi δ).bind fun ds => forD dg gb ds δ
theorem ls_for {K : PySem.W.Frag} {wi : XK → TI} {fi : List Sl → W (List D)} {vs : List Nat} {tg : TG} {dg : D → List Sl → W (List Sl)} {tb : XK → TS} {gb : List Sl → W Out} (hi : LI K wi fi) (hg : LG K vs tg dg) (hb : LS K tb gb) :
    LS K (fun E => tFor (wi E) tg (tb E)) (dFor fi dg gb) := fun c w s σ δ D E o sl q => by
  refine hi c w s σ δ _ E o sl (q.bind.mono fun ds w1 s1 g1 o1 p J y => ?_)
  refine ⟨fun i m σ H => m = ds.length - i ∧ i ≤ ds.length ∧ ∃ w2 s2 δ, w2.H = H ∧ Go c w1 w2 ∧ Ok K c w2 s2 ∧ Slo K c w2 σ δ ∧ Den K c (forD dg gb (ds.drop i) δ) w2 s2 (qS K c D) (xE K c E),
    ⟨ds.length, by simp, Nat.zero_le _, w1, s1, δ, rfl, Go.refl .., o1, sl.go g1, p⟩, ?_⟩
  rintro i m2 σ2 H2 ⟨rfl, hi2, w2, s2, δ2, rfl, k2, o2, sl2, p2⟩
  by_cases hlt : i < ds.length
  · refine .inr ?_
    have ed : ds[i]? = some ds[i] := List.getElem?_eq_getElem hlt
    obtain ⟨go, yl⟩ := (y i w2 s2 k2.sub o2).1 _ ed
    refine ⟨go, fun σ' H' => i + 1 ≤ ds.length ∧ ∃ w2 s2 δ, w2.H = H' ∧ Go c w1 w2 ∧ Ok K c w2 s2 ∧ Slo K c w2 σ' δ ∧ Den K c (forD dg gb (ds.drop (i + 1)) δ) w2 s2 (qS K c D) (xE K c E), ?_, ?_⟩
    · rintro σ' H' ⟨h1, h2⟩
      exact ⟨ds.length - (i + 1), by omega, rfl, h1, h2⟩
    · intro x H3 yx
      obtain ⟨w3, rfl, k3, o3, r3⟩ := yl x H3 yx
      rw [List.drop_eq_getElem_cons hlt] at p2
      have p3 : Den K c (forD dg gb (ds[i] :: ds.drop (i + 1)) δ2) w3 s2 (qS K c D) (xE K c E) := Den.on (s0 := s2) p2 k3
      refine hg c w3 s2 σ2 δ2 x _ _ (xE K c E) o3 (sl2.go k3) r3 (p3.bind.mono fun ε w4 s4 k4 o4 p4 σ4 sl4 _ _ => ?_)
      refine hb c w4 s4 σ4 ε _ E o4 sl4 (p4.bind.mono fun u w5 s5 k5 o5 p5 => ?_)
      have k15 := ((k2.trans k3 o3).trans k4 o4).trans k5 o5
      cases u with
      | nx ε5 => exact fun σ5 sl5 => ⟨hlt, w5, s5, ε5, rfl, k15, o5, sl5, p5⟩
      | ct ε5 => exact fun σ5 sl5 => ⟨hlt, w5, s5, ε5, rfl, k15, o5, sl5, p5⟩
      | bk ε5 => exact fun σ5 sl5 => p5.ret o5 σ5 sl5
      | rt d => exact fun v rv => p5.ret o5 v rv
  · have e : i = ds.length := by omega
    subst e
    rw [List.drop_length] at p2
    exact .inl ⟨(y ds.length w2 s2 k2.sub o2).2 (Nat.le_refl _), Den.ret p2 o2 σ2 sl2⟩
def whileD (ft : List Sl → W Bool) (gb : List Sl → W Out) : Nat → List Sl → W Out
  | 0, _ => W.stuck
  | m + 1, δ => (ft δ).bind fun k => match k with
    | false => W.ret (.nx δ)
    | true => (gb δ).bind fun o => match o with
      | .nx ε => whileD ft gb m ε
      | .ct ε => whileD ft gb m ε
      | .bk ε => W.ret (.nx ε)
      | .rt d => W.ret (.rt d)
@[reducible] def dWhile (ft : List Sl → W Bool) (gb : List Sl → W Out) : List Sl → W Out := fun δ => ⟨fun s Q E => ∃ m, (whileD ft gb m δ).wp s Q E, fun h g ⟨m, p⟩ => ⟨m, (whileD ft gb m δ).mono h g p⟩⟩
theorem ls_while {K : PySem.W.Frag} {tt : XK → TT} {ft : List Sl → W Bool} {tb : XK → TS} {gb : List Sl → W Out} (ht : LT K tt ft) (hb : LS K tb gb) : LS K (fun E => tWhile (tt E) (tb E)) (dWhile ft gb) := fun c w s σ δ D E o sl q => by
  obtain ⟨m0, q⟩ := q
  refine ⟨fun m σ H => ∃ w1 s1 δ, w1.H = H ∧ Ok K c w1 s1 ∧ Slo K c w1 σ δ ∧ Den K c (whileD ft gb m δ) w1 s1 (qS K c D) (xE K c E), ⟨m0, w, s, δ, rfl, o, sl, q⟩, ?_⟩
  rintro m σ1 H1 ⟨w1, s1, δ1, rfl, o1, sl1, p1⟩
  cases m with
  | zero => exact p1.elim
  | succ m =>
    refine ht c w1 s1 σ1 δ1 _ E o1 sl1 ((show Den K c ((ft δ1).bind _) w1 s1 _ _ from p1).bind.mono fun k w2 s2 g2 o2 p2 => ?_)
    cases k with
    | false => exact iteF (p2.ret o2 σ1 (sl1.go g2))
    | true =>
      refine iteT ⟨fun σ' H' => ∃ w1 s1 δ, w1.H = H' ∧ Ok K c w1 s1 ∧ Slo K c w1 σ' δ ∧ Den K c (whileD ft gb m δ) w1 s1 (qS K c D) (xE K c E), fun σ' H' h => ⟨m, Nat.lt_succ_self m, h⟩, ?_⟩
      refine hb c w2 s2 σ1 δ1 _ E o2 (sl1.go g2) ((show Den K c ((gb δ1).bind _) w2 s2 _ _ from p2).bind.mono fun u w3 s3 g3 o3 p3 => ?_)
      cases u with
      | nx ε => exact fun σ5 sl5 => ⟨w3, s3, ε, rfl, o3, sl5, p3⟩
      | ct ε => exact fun σ5 sl5 => ⟨w3, s3, ε, rfl, o3, sl5, p3⟩
      | bk ε => exact fun σ5 sl5 => p3.ret o3 σ5 sl5
      | rt d => exact fun v rv => p3.ret o3 v rv
end Ly
namespace Ly
open PySem L2 PyProof.Rows
open Lx (Le)
section
variable {K : PySem.W.Frag} {c : Cg} {w w1 : Wd} {s : S} {p : Addr} {o u : HO}
theorem tabs_upd {T : List (Addr × Str)} {H : Hp} (t : LamX.Tabs T H) (hx : ∀ u, H p = some u → (∀ ps, u ≠ .tbl ps) ∧ ∀ φ, u ≠ .ext φ) : LamX.Tabs T (upd H p o) := fun q hq => by
  obtain ⟨ps, h1, h2, h3⟩ := t q hq
  have n1 : q.1 ≠ p := fun z => by rw [z] at h1; exact (hx _ h1).1 ps rfl
  refine ⟨ps, by rw [upd_ne n1]; exact h1, h2, fun pos cv hc => ?_⟩
  obtain ⟨d, e1, e2⟩ := h3 pos cv hc
  have n2 : d ≠ p := fun z => by rw [z] at e2; exact (hx _ e2).2 _ rfl
  exact ⟨d, e1, by rw [upd_ne n2]; exact e2⟩
theorem Ok.upH (k : Ok K c w s) (hp : p ≠ c.pn) (hF : w.F p = none) (ha : p ∉ w.al) (hx : ∀ u, w.H p = some u → (∀ ps, u ≠ .tbl ps) ∧ ∀ φ, u ≠ .ext φ) : Ok K c ⟨w.al, w.F, upd w.H p o⟩ s := by
  have na : ∀ a ∈ w.al, a ≠ p := fun a z e => ha (e ▸ z)
  refine ⟨fun a u e => ?_, k.fpn, k.pna, k.nd, k.len, fun a z => ?_, k.pen.of (Le.refl _) (upd_ne hp.symm), tabs_upd k.tab hx, k.ftb, fun a z ps => ?_, fun a z φ => ?_, fun i a m e1 e2 => ?_⟩
  · show upd w.H p o a = some u
    rw [upd_ne (ne_of_none e hF)]; exact k.fro a u e
  · show upd w.H p o a ≠ none
    rw [upd_ne (na a z)]; exact k.occ a z
  · show upd w.H p o a ≠ _
    rw [upd_ne (na a z)]; exact k.atb a z ps
  · show upd w.H p o a ≠ _
    rw [upd_ne (na a z)]; exact k.aco a z φ
  · exact (k.sto i a m e1 e2).of (Sub.refl _ _) (upd_ne (na a (List.mem_of_getElem? e1))) fun z => z
theorem Go.upH (g : Go c w w1) (h : w.H p = none) : Go c w ⟨w1.al, w1.F, upd w1.H p o⟩ := by
  refine ⟨fun a u np na nt e => ?_, g.sub, g.new, g.newA⟩
  show upd w1.H p o a = some u
  rw [upd_ne (ne_of_none e h)]; exact g.keep a u np na nt e
theorem Ok.frz (k : Ok K c w s) (hp : p ≠ c.pn) (ha : p ∉ w.al) (hF : w.F p = none) (h : w.H p = some u) (nt : ∀ ps, u ≠ .tbl ps) : Ok K c ⟨w.al, upd w.F p u, w.H⟩ s := by
  have sb : Sub w.al w.F w.al (upd w.F p u) := ⟨List.prefix_refl _, Le.up hF⟩
  refine ⟨fun a v e => ?_, ?_, k.pna, k.nd, k.len, k.occ, k.pen.of (Le.up hF) rfl, k.tab, fun a ps => ?_, k.atb, k.aco, fun i a m e1 e2 => ?_⟩
  · have e : upd w.F p u a = some v := e
    by_cases e2 : a = p
    · subst e2; rw [upd_same] at e; cases e; exact h
    · rw [upd_ne e2] at e; exact k.fro a v e
  · show upd w.F p u c.pn = none
    rw [upd_ne hp.symm]; exact k.fpn
  · show upd w.F p u a ≠ _
    by_cases e2 : a = p
    · subst e2; rw [upd_same]; exact fun z => nt ps (Option.some.inj z)
    · rw [upd_ne e2]; exact k.ftb a ps
  · have ne : a ≠ p := fun z => ha (z ▸ List.mem_of_getElem? e1)
    exact (k.sto i a m e1 e2).of sb rfl fun z => by show upd w.F p u a = none; rw [upd_ne ne]; exact z
theorem Go.frz (g : Go c w w1) (hF : w1.F p = none) (h : w.fre p ∨ p ∈ w.al) : Go c w ⟨w1.al, upd w1.F p u, w1.H⟩ := by
  refine ⟨g.keep, ⟨g.sub.pre, g.sub.le.trans (Le.up hF)⟩, fun a v e z => ?_, g.newA⟩
  have e : upd w1.F p u a = some v := e
  by_cases e2 : a = p
  · subst e2; exact h
  · rw [upd_ne e2] at e; exact g.new a v e z
theorem Go.none {xs : List V} (g : Go c w w1) (hF : w.F p = none) (h : w.H p = some (.lst xs)) (ha : p ∉ w.al) : w1.F p = none := by
  cases q : w1.F p with
  | none => rfl
  | some v => exact ((g.new p v q hF).elim (fun z => by obtain ⟨ps, e⟩ := z _ h; cases e) ha).elim
theorem Go.out {xs : List V} (g : Go c w w1) (h : w.H p = some (.lst xs)) (ha : p ∉ w.al) : p ∉ w1.al := fun z => (g.newA p z).elim ha fun y => by obtain ⟨ps, e⟩ := y _ h; cases e
theorem notOwn {xs : List V} : (∀ ps, HO.lst xs ≠ .tbl ps) ∧ ∀ φ, HO.lst xs ≠ .ext φ := ⟨fun _ z => (by cases z), fun _ z => (by cases z)⟩
end
theorem Den.rawC {K : PySem.W.Frag} {c : Cg} {A B : Type} {m : W A} {f : A → W B} {w : Wd} {s : S} {P : S → B → Prop} {G : Xn → Wd → S → Prop} (h : (m.bind f).wp s P fun _ _ => False) :
    Den K c m w s (fun a _ t => (f a).wp t P fun _ _ => False) G := m.mono (fun t a z w' g' o' => z) (fun t x z => z.elim) h
def wipeD (δ : List Sl) : List Nat → List Sl
  | [] => δ
  | v :: vs => (wipeD δ vs).set v none
theorem Slo.wipe {K : PySem.W.Frag} {c : Cg} {w : Wd} {σ : L2.St} {δ : List Sl} (s : Slo K c w σ δ) : ∀ vs : List Nat, Slo K c w (L2.wipe σ vs) (wipeD δ vs)
  | [] => s
  | v :: vs => (Slo.wipe s vs).forget
def lcD (dg : D → List Sl → W (List Sl)) (ft : List Sl → W Bool) (fe : List Sl → W D) (δ : List Sl) : List D → Nat → W (List D)
  | [], _ => W.ret []
  | d :: ds, k => (dg d δ).bind fun ε => (ft ε).bind fun b => match b with
    | false => lcD dg ft fe δ ds k
    | true => (fe ε).bind fun y => W.need (k < sizeLine) ((lcD dg ft fe δ ds (k + 1)).bind fun ys => W.ret (y :: ys))
@[reducible] def dLc (fi : List Sl → W (List D)) (dg : D → List Sl → W (List Sl)) (ft : List Sl → W Bool) (fe : List Sl → W D) (vs : List Nat) : List Sl → W D := fun δ => (fi δ).bind fun ds => ((lcD dg ft fe (wipeD δ vs) ds 0).calm).bind fun l => W.ret (.lst l)
@[reducible] def dYes : List Sl → W Bool := fun _ => W.ret true
theorem lt_yes {K : PySem.W.Frag} : LT K (fun _ => tYes) dYes := fun c w s σ δ Q E o sl h => h.ret o
theorem le_lc {K : PySem.W.Frag} {wi : XK → TI} {fi : List Sl → W (List D)} {us vs : List Nat} {tg : TG} {dg : D → List Sl → W (List Sl)} {tt : XK → TT} {ft : List Sl → W Bool} {te : XK → TE} {fe : List Sl → W D}
    (hi : LI K wi fi) (hg : LG K us tg dg) (ht : LT K tt ft) (he : LE K te fe) (hu : ∀ j, j ∈ us → j ∈ vs) : LE K (fun E => tLc (wi E) tg (tt E0) (te E0) vs) (dLc fi dg ft fe vs) := fun c w s σ δ Q E o sl q => by
  refine hi c w s σ δ _ E o sl (q.bind.mono fun ds w1 s1 g1 o1 p J y D0 hD => ?_)
  have nD := o1.ne hD
  have o1' : Ok K c ⟨w1.al, w1.F, upd w1.H D0 (.lst [])⟩ s1 := o1.upH nD (o1.free hD) (o1.out hD) (fun u z => by rw [hD] at z; cases z)
  have k1' : Go c w1 ⟨w1.al, w1.F, upd w1.H D0 (.lst [])⟩ := (Go.refl c w1).upH hD
  let PQ : S → List D → Prop := fun t l => ∀ w', Go c w1 w' → Ok K c w' t → ∀ v, Rep K c w'.al w'.F v (.lst l) → Q v w'.H
  have p0 : (lcD dg ft fe (wipeD δ vs) ds 0).wp s1 PQ fun _ _ => False := p
  refine ⟨fun i m H2 => m = ds.length - i ∧ i ≤ ds.length ∧ ∃ w2 s2 acc ws, w2.H = H2 ∧ Go c w1 w2 ∧ Ok K c w2 s2 ∧ w2.F D0 = none ∧ D0 ∉ w2.al ∧ H2 D0 = some (.lst ws) ∧ RepL K c w2.al w2.F ws acc ∧
      (lcD dg ft fe (wipeD δ vs) (ds.drop i) acc.length).wp s2 (fun t ys => PQ t (acc ++ ys)) fun _ _ => False,
    ⟨ds.length, by simp, Nat.zero_le _, _, s1, [], [], rfl, k1', o1', o1.free hD, o1.out hD, upd_same, .nil, p0⟩, ?_⟩
  rintro i m2 H2 ⟨rfl, hi2, w2, s2, acc, ws, rfl, k2, o2, fD, aD, hD2, rw2, p2⟩
  by_cases hlt : i < ds.length
  · refine .inr ?_
    have ed : ds[i]? = some ds[i] := List.getElem?_eq_getElem hlt
    obtain ⟨go, yl⟩ := (y i w2 s2 k2.sub o2).1 _ ed
    refine ⟨go, fun H2 => i + 1 ≤ ds.length ∧ ∃ w2 s2 acc ws, w2.H = H2 ∧ Go c w1 w2 ∧ Ok K c w2 s2 ∧ w2.F D0 = none ∧ D0 ∉ w2.al ∧ H2 D0 = some (.lst ws) ∧ RepL K c w2.al w2.F ws acc ∧
      (lcD dg ft fe (wipeD δ vs) (ds.drop (i + 1)) acc.length).wp s2 (fun t ys => PQ t (acc ++ ys)) fun _ _ => False, ?_, ?_⟩
    · rintro H' ⟨h1, h2⟩
      exact ⟨ds.length - (i + 1), by omega, rfl, h1, h2⟩
    · intro x H3 yx
      obtain ⟨w3, rfl, k3, o3, r3⟩ := yl x H3 yx
      rw [List.drop_eq_getElem_cons hlt] at p2
      have k03 := k2.trans k3 o3
      refine hg c w3 s2 (L2.wipe σ vs) (wipeD δ vs) x _ _ (fun _ _ _ => False) o3 ((sl.go (g1.trans k03 o3)).wipe vs) r3 ((Den.rawC (K := K) (c := c) (w := w3) p2).mono fun ε w4 s4 k4 o4 p4 σ4 sl4 e4 l4 => ?_)
      refine ⟨Lx.wipe_eq (fun j hj => e4 j fun z => hj (hu j z)) l4, ?_⟩
      refine ht c w4 s4 σ4 ε _ E0 o4 sl4 ((Den.rawC (K := K) (c := c) (w := w4) p4).mono fun b w5 s5 k5 o5 p5 => ?_)
      have nt : ∀ ps, HO.lst ws ≠ .tbl ps := notOwn.1
      have f3 := k3.none fD hD2 aD
      have a3 := k3.out hD2 aD
      have h3 := k3.keep _ _ nD aD nt hD2
      have f4 := k4.none f3 h3 a3
      have a4 := k4.out h3 a3
      have h4 := k4.keep _ _ nD a3 nt h3
      have f5 := k5.none f4 h4 a4
      have a5 := k5.out h4 a4
      have h5 := k5.keep _ _ nD a4 nt h4
      have k05 := (k03.trans k4 o4).trans k5 o5
      have rw5 := ((rw2.up k3.sub).up k4.sub).up k5.sub
      cases b with
      | false => exact iteF ⟨hlt, w5, s5, acc, ws, rfl, k05, o5, f5, a5, h5, rw5, p5⟩
      | true =>
        refine iteT (he c w5 s5 σ4 ε _ E0 o5 (sl4.go k5) ((Den.rawC (K := K) (c := c) (w := w5) p5).mono fun z w6 s6 k6 o6 p6 v r6 => ?_))
        have f6 := k6.none f5 h5 a5
        have a6 := k6.out h5 a5
        have h6 := k6.keep _ _ nD a5 nt h5
        refine ⟨ws, h6, by rw [rw5.len]; exact p6.1, hlt, ⟨w6.al, w6.F, upd w6.H D0 (.lst (ws ++ [v]))⟩, s6, acc ++ [z], ws ++ [v], rfl, (k05.trans k6 o6).upH hD, o6.upH nD f6 a6 (fun u z => by rw [h6] at z; cases z; exact notOwn), f6, a6, upd_same, (rw5.up k6.sub).app (.cons r6 .nil), ?_⟩
        rw [List.length_append, List.length_singleton]
        refine (lcD dg ft fe (wipeD δ vs) (ds.drop (i + 1)) (acc.length + 1)).mono (fun t ys p7 => ?_) (fun _ _ z => z) p6.2
        rw [List.append_assoc]
        exact p7
  · have e : i = ds.length := by omega
    subst e
    rw [List.drop_length] at p2
    refine .inl ⟨(y ds.length w2 s2 k2.sub o2).2 (Nat.le_refl _), ?_⟩
    have p2' : PQ s2 (acc ++ []) := p2
    rw [List.append_nil] at p2'
    exact p2' ⟨w2.al, upd w2.F D0 (.lst ws), w2.H⟩ (k2.frz fD (.inl (Wd.fre_none hD))) (o2.frz nD aD fD hD2 notOwn.1) (.ref D0) (.lst upd_same (rw2.up ⟨List.prefix_refl _, Le.up fD⟩))
end Ly
namespace Ly
open PySem L2
open Lx (Le inS cutL rAddU op_addU rEqU rNeU op_eqU op_neU rInU op_inU op_notInU rSlU sl_U vdec_int vdec_str vdec_bl)
mutual
def toP : D → Option PyData
  | .non => some .none
  | .bl b => some (.bool b)
  | .int i => some (.int i)
  | .str x => some (.str x)
  | .lst xs => (toPs xs).map .list
  | .tup xs => (toPs xs).map .tuple
  | .obj _ _ => none
  | .pen => none
  | .sct _ => none
  | .dct _ => none
  | .mu _ => none
  | .err _ _ => none
  | .slo _ _ => none
  | .cls _ => none
  | .gt ds y z => (toPs ds).map fun ps => .tuple (ps ++ [.str y, .str z])
def toPs : List D → Option (List PyData)
  | [] => some []
  | d :: ds => (toP d).bind fun p => (toPs ds).map fun ps => p :: ps
end
section
variable {K : PySem.W.Frag} {c : Cg} {al : List Addr} {F H : Hp}
theorem dpAll_app : ∀ {vs us : List V} {ps qs : List PyData}, DpAll K H vs ps → DpAll K H us qs → DpAll K H (vs ++ us) (ps ++ qs)
  | _, _, _, _, .nil, s => s
  | _, _, _, _, .cons h r, s => .cons h (dpAll_app r s)
mutual
theorem Rep.dp (e : Le F H) : ∀ {v : V} {d : D} {p : PyData}, Rep K c al F v d → toP d = some p → Dp K H v p
  | _, _, _, .non, h => by unfold toP at h; cases h; exact .non
  | _, _, _, .bl b, h => by unfold toP at h; cases h; exact .bl b
  | _, _, _, .int i, h => by unfold toP at h; cases h; exact .int i
  | _, _, _, .str x, h => by unfold toP at h; cases h; exact .str x
  | _, _, _, .lst (ds := ds) q r, h => by
    unfold toP at h
    cases e1 : toPs ds with
    | none => rw [e1] at h; cases h
    | some ps => rw [e1] at h; cases h; exact .lst (SqL.of (e _ _ q)) (RepL.dp e r e1)
  | _, _, _, .tup (ds := ds) q r, h => by
    unfold toP at h
    cases e1 : toPs ds with
    | none => rw [e1] at h; cases h
    | some ps => rw [e1] at h; cases h; exact .tup (SqT.of (e _ _ q)) (RepL.dp e r e1)
  | _, _, _, .obj _ _ _ _, h => by unfold toP at h; cases h
  | _, _, _, .dct _ _, h => by unfold toP at h; cases h
  | _, _, _, .mu _, h => by unfold toP at h; cases h
  | _, _, _, .pen, h => by unfold toP at h; cases h
  | _, _, _, .sct _, h => by unfold toP at h; cases h
  | _, _, _, .err _ _ _, h => by unfold toP at h; cases h
  | _, _, _, .err0 _, h => by unfold toP at h; cases h
  | _, _, _, .slo _ _ _ _, h => by unfold toP at h; cases h
  | _, _, _, .cls _, h => by unfold toP at h; cases h
  | _, _, _, .gt (ds := ds) q r, h => by
    unfold toP at h
    cases e1 : toPs ds with
    | none => rw [e1] at h; cases h
    | some ps =>
      rw [e1] at h
      cases h
      obtain ⟨_, _, o, q, _⟩ := q
      exact .tup (.inl (.inr ⟨o, e _ _ q⟩)) (dpAll_app (RepL.dp e r e1) (.cons (.str _) (.cons (.str _) .nil)))
theorem RepL.dp (e : Le F H) : ∀ {vs : List V} {ds : List D} {ps : List PyData}, RepL K c al F vs ds → toPs ds = some ps → DpAll K H vs ps
  | _, _, _, .nil, h => by unfold toPs at h; cases h; exact .nil
  | _, _, _, .cons (d := d) (ds := ds) a r, h => by
    unfold toPs at h
    cases e1 : toP d with
    | none => rw [e1] at h; cases h
    | some p =>
      rw [e1] at h
      cases e2 : toPs ds with
      | none => rw [e2] at h; cases h
      | some ps => rw [e2] at h; cases h; exact .cons (Rep.dp e a e1) (RepL.dp e r e2)
end
end
@[reducible] def addD : D → D → W D
  | .int i, .int j => W.ret (.int (i + j))
  | .str x, .str y => W.need (x.length + y.length ≤ sizeLine) (W.ret (.str (x ++ y)))
  | .lst xs, .lst ys => W.need (xs.length + ys.length ≤ sizeLine) (W.ret (.lst (xs ++ ys)))
  | _, _ => W.stuck
@[reducible] def subD : D → D → W D
  | .int i, .int j => W.ret (.int (i - j))
  | _, _ => W.stuck
@[reducible] def modD : D → D → W D
  | .int i, .int j => W.need (0 < j) (W.ret (.int (i % j)))
  | _, _ => W.stuck
@[reducible] def fdivD : D → D → W D
  | .int i, .int j => W.need (CDiv i j) (W.ret (.int (i / j)))
  | _, _ => W.stuck
section
variable {X : Cx} {K : PySem.W.Frag}
theorem lo_add : LO2 K rAddU addD := fun c w s v u x y Q E o rx ry h => by
  cases rx with
  | int i => cases ry with
    | int j => exact .inl ⟨i, j, rfl, rfl, h _ (Go.refl ..) o _ (.int _)⟩
    | _ => exact h.elim
  | str i => cases ry with
    | str j => exact .inr (.inl ⟨i, j, rfl, rfl, h.1, h.2 _ (Go.refl ..) o _ (.str _)⟩)
    | _ => exact h.elim
  | lst a r => cases ry with
    | lst b q =>
      refine .inr (.inr ⟨_, _, _, _, rfl, rfl, o.fro _ _ a, o.fro _ _ b, by rw [r.len, q.len]; exact h.1, fun p hp => ?_⟩)
      obtain ⟨o2, g2⟩ := o.lay (o := .lst (_ ++ _)) hp notOwn.1
      exact h.2 _ g2 o2 (.ref p) (.lst upd_same ((r.up g2.sub).app (q.up g2.sub)))
    | _ => exact h.elim
  | _ => exact h.elim
theorem lo_sub : LO2 K (rI0 fun i j => .int (i - j)) subD := fun c w s v u x y Q E o rx ry h => by
  cases rx with
  | int i => cases ry with
    | int j => exact ⟨i, j, rfl, rfl, h _ (Go.refl ..) o _ (.int _)⟩
    | _ => exact h.elim
  | _ => exact h.elim
theorem lo_mod : LO2 K (rI (fun _ j => 0 < j) fun i j => .int (i % j)) modD := fun c w s v u x y Q E o rx ry h => by
  cases rx with
  | int i => cases ry with
    | int j => exact ⟨i, j, rfl, rfl, h.1, h.2 _ (Go.refl ..) o _ (.int _)⟩
    | _ => exact h.elim
  | _ => exact h.elim
theorem lo_fdiv : LO2 K (rI CDiv fun i j => .int (i / j)) fdivD := fun c w s v u x y Q E o rx ry h => by
  cases rx with
  | int i => cases ry with
    | int j => exact ⟨i, j, rfl, rfl, h.1, h.2 _ (Go.refl ..) o _ (.int _)⟩
    | _ => exact h.elim
  | _ => exact h.elim
@[reducible] def eqD : D → D → W D
  | .int i, .int j => W.ret (.bl (decide (i = j)))
  | .str x, .str y => W.ret (.bl (decide (x = y)))
  | .bl a, .bl b => W.ret (.bl (decide (a = b)))
  | x, y => match toP x, toP y with
    | some a, some b => W.need (SeqAt.shaped a = true ∧ SeqAt.shaped b = true) (W.ret (.bl (PyData.eqv a b)))
    | _, _ => W.stuck
@[reducible] def neD : D → D → W D
  | .int i, .int j => W.ret (.bl (!decide (i = j)))
  | .str x, .str y => W.ret (.bl (!decide (x = y)))
  | .bl a, .bl b => W.ret (.bl (!decide (a = b)))
  | x, y => match toP x, toP y with
    | some a, some b => W.need (SeqAt.shaped a = true ∧ SeqAt.shaped b = true) (W.ret (.bl (!PyData.eqv a b)))
    | _, _ => W.stuck
theorem eq_gen {c : Cg} {w : Wd} {s : S} {v u : V} {x y : D} {Q : VK} {E : Xn → Wd → S → Prop} (o : Ok K c w s) (rx : Rep K c w.al w.F v x) (ry : Rep K c w.al w.F u y)
    (h : Den K c (match toP x, toP y with | some a, some b => W.need (SeqAt.shaped a = true ∧ SeqAt.shaped b = true) (W.ret (D.bl (PyData.eqv a b))) | _, _ => (W.stuck : W D)) w s (qV K c Q) E) : rEqU K v u w.H Q := by
  cases ex : toP x with
  | none => rw [ex] at h; exact h.elim
  | some a => cases ey : toP y with
    | none => rw [ex, ey] at h; exact h.elim
    | some b =>
      rw [ex, ey] at h
      exact .inr ⟨a, b, rx.dp o.fro ex, ry.dp o.fro ey, h.1.1, h.1.2, h.2 _ (Go.refl ..) o _ (.bl _)⟩
theorem ne_gen {c : Cg} {w : Wd} {s : S} {v u : V} {x y : D} {Q : VK} {E : Xn → Wd → S → Prop} (o : Ok K c w s) (rx : Rep K c w.al w.F v x) (ry : Rep K c w.al w.F u y)
    (h : Den K c (match toP x, toP y with | some a, some b => W.need (SeqAt.shaped a = true ∧ SeqAt.shaped b = true) (W.ret (D.bl (!PyData.eqv a b))) | _, _ => (W.stuck : W D)) w s (qV K c Q) E) : rNeU K v u w.H Q := by
  cases ex : toP x with
  | none => rw [ex] at h; exact h.elim
  | some a => cases ey : toP y with
    | none => rw [ex, ey] at h; exact h.elim
    | some b =>
      rw [ex, ey] at h
      exact .inr ⟨a, b, rx.dp o.fro ex, ry.dp o.fro ey, h.1.1, h.1.2, h.2 _ (Go.refl ..) o _ (.bl _)⟩
theorem lo_eq : LO2 K (rEqU K) eqD := fun c w s v u x y Q E o rx ry h => by
  have r2 := ry
  cases rx with
  | int i => cases ry with
    | int j => exact .inl ⟨rfl, by rw [vdec_int]; exact h _ (Go.refl ..) o _ (.bl _)⟩
    | _ => exact eq_gen o (.int i) r2 h
  | str i => cases ry with
    | str j => exact .inl ⟨rfl, by rw [vdec_str]; exact h _ (Go.refl ..) o _ (.bl _)⟩
    | _ => exact eq_gen o (.str i) r2 h
  | bl i => cases ry with
    | bl j => exact .inl ⟨rfl, by rw [vdec_bl]; exact h _ (Go.refl ..) o _ (.bl _)⟩
    | _ => exact eq_gen o (.bl i) r2 h
  | non => exact eq_gen o .non ry (by cases ry <;> exact h)
  | lst a r => exact eq_gen o (.lst a r) ry (by cases ry <;> exact h)
  | tup a r => exact eq_gen o (.tup a r) ry (by cases ry <;> exact h)
  | obj a u z r => exact eq_gen o (.obj a u z r) ry (by cases ry <;> exact h)
  | dct a r => exact eq_gen o (.dct a r) ry (by cases ry <;> exact h)
  | mu a => exact eq_gen o (.mu a) ry (by cases ry <;> exact h)
  | pen => exact eq_gen o .pen ry (by cases ry <;> exact h)
  | sct a => exact eq_gen o (.sct a) ry (by cases ry <;> exact h)
  | err a k r => exact eq_gen o (.err a k r) ry (by cases ry <;> exact h)
  | err0 a => exact eq_gen o (.err0 a) ry (by cases ry <;> exact h)
  | slo a b q r => exact eq_gen o (.slo a b q r) ry (by cases ry <;> exact h)
  | cls a => exact eq_gen o (.cls a) ry (by cases ry <;> exact h)
  | gt a b => exact eq_gen o (.gt a b) ry (by cases ry <;> exact h)
theorem lo_ne : LO2 K (rNeU K) neD := fun c w s v u x y Q E o rx ry h => by
  have r2 := ry
  cases rx with
  | int i => cases ry with
    | int j => exact .inl ⟨rfl, by rw [vdec_int]; exact h _ (Go.refl ..) o _ (.bl _)⟩
    | _ => exact ne_gen o (.int i) r2 h
  | str i => cases ry with
    | str j => exact .inl ⟨rfl, by rw [vdec_str]; exact h _ (Go.refl ..) o _ (.bl _)⟩
    | _ => exact ne_gen o (.str i) r2 h
  | bl i => cases ry with
    | bl j => exact .inl ⟨rfl, by rw [vdec_bl]; exact h _ (Go.refl ..) o _ (.bl _)⟩
    | _ => exact ne_gen o (.bl i) r2 h
  | non => exact ne_gen o .non ry (by cases ry <;> exact h)
  | lst a r => exact ne_gen o (.lst a r) ry (by cases ry <;> exact h)
  | tup a r => exact ne_gen o (.tup a r) ry (by cases ry <;> exact h)
  | obj a u z r => exact ne_gen o (.obj a u z r) ry (by cases ry <;> exact h)
  | dct a r => exact ne_gen o (.dct a r) ry (by cases ry <;> exact h)
  | mu a => exact ne_gen o (.mu a) ry (by cases ry <;> exact h)
  | pen => exact ne_gen o .pen ry (by cases ry <;> exact h)
  | sct a => exact ne_gen o (.sct a) ry (by cases ry <;> exact h)
  | err a k r => exact ne_gen o (.err a k r) ry (by cases ry <;> exact h)
  | err0 a => exact ne_gen o (.err0 a) ry (by cases ry <;> exact h)
  | slo a b q r => exact ne_gen o (.slo a b q r) ry (by cases ry <;> exact h)
  | cls a => exact ne_gen o (.cls a) ry (by cases ry <;> exact h)
  | gt a b => exact ne_gen o (.gt a b) ry (by cases ry <;> exact h)
@[reducible] def cmpD (c : Int → Int → Bool) : D → D → W D
  | .int i, .int j => W.ret (.bl (c i j))
  | _, _ => W.stuck
@[reducible] def ltD : D → D → W D := cmpD fun i j => decide (i < j)
@[reducible] def leD : D → D → W D := cmpD fun i j => decide (i ≤ j)
@[reducible] def gtD : D → D → W D := cmpD fun i j => decide (j < i)
theorem lo_cmp {c : Int → Int → Bool} : LO2 K (rI0 fun i j => .bl (c i j)) (cmpD c) := fun c w s v u x y Q E o rx ry h => by
  cases rx with
  | int i => cases ry with
    | int j => exact ⟨i, j, rfl, rfl, h _ (Go.refl ..) o _ (.bl _)⟩
    | _ => exact h.elim
  | _ => exact h.elim
@[reducible] def isND : D → D → W D
  | .non, .non => W.ret (.bl true)
  | _, .non => W.ret (.bl false)
  | _, _ => W.stuck
@[reducible] def notND : D → D → W D
  | .non, .non => W.ret (.bl false)
  | _, .non => W.ret (.bl true)
  | _, _ => W.stuck
theorem lo_isN : LO2 K (fun x y H Q => y = .non ∧ Q (.bl (decide (x = .non))) H) isND := fun c w s v u x y Q E o rx ry h => by
  cases ry with
  | non => cases rx <;> first
    | exact ⟨rfl, by rw [decide_eq_true (by rfl)]; exact h _ (Go.refl ..) o _ (.bl _)⟩
    | exact ⟨rfl, by rw [decide_eq_false (by intro z; cases z)]; exact h _ (Go.refl ..) o _ (.bl _)⟩
  | _ => cases rx <;> exact h.elim
theorem lo_notN : LO2 K (fun x y H Q => y = .non ∧ Q (.bl (!decide (x = .non))) H) notND := fun c w s v u x y Q E o rx ry h => by
  cases ry with
  | non => cases rx <;> first
    | exact ⟨rfl, by rw [decide_eq_true (by rfl)]; exact h _ (Go.refl ..) o _ (.bl _)⟩
    | exact ⟨rfl, by rw [decide_eq_false (by intro z; cases z)]; exact h _ (Go.refl ..) o _ (.bl _)⟩
  | _ => cases rx <;> exact h.elim
def flatD : D → Bool
  | .non => true | .bl _ => true | .int _ => true | .str _ => true
  | _ => false
def eqF : D → D → Bool
  | .non, .non => true
  | .bl a, .bl b => a == b
  | .bl a, .int b => (if a then 1 else 0) == b
  | .int a, .bl b => a == (if b then 1 else 0)
  | .int a, .int b => a == b
  | .str a, .str b => a == b
  | _, _ => false
def inF (x : D) (ys : List D) : Bool := ys.any fun y => eqF y x
@[reducible] def inD (neg : Bool) : D → D → W D
  | .str x, .str y => W.ret (.bl (if neg then !inS x y else inS x y))
  | x, .lst ys => W.need (flatD x = true ∧ ys.all flatD = true) (W.ret (.bl (if neg then !inF x ys else inF x ys)))
  | x, .tup ys => W.need (flatD x = true ∧ ys.all flatD = true) (W.ret (.bl (if neg then !inF x ys else inF x ys)))
  | _, _ => W.stuck
theorem flat_of {c : Cg} {al : List Addr} {F : Hp} {v : V} {d : D} (r : Rep K c al F v d) (h : flatD d = true) : flatV v = true := by
  cases r <;> first | rfl | cases h
theorem flats_of {c : Cg} {al : List Addr} {F : Hp} : ∀ {vs : List V} {ds : List D}, RepL K c al F vs ds → ds.all flatD = true → vs.all flatV = true
  | _, _, .nil, _ => rfl
  | _, _, .cons a r, h => by
    rw [List.all_cons, Bool.and_eq_true] at h ⊢
    exact ⟨flat_of a h.1, flats_of r h.2⟩
theorem eqF_of {c : Cg} {al : List Addr} {F : Hp} {v w : V} {x y : D} (rx : Rep K c al F v x) (ry : Rep K c al F w y) (hx : flatD x = true) (hy : flatD y = true) : eqV v w = eqF x y := by
  cases rx <;> first | (cases ry <;> first | rfl | cases hy) | cases hx
theorem inF_of {c : Cg} {al : List Addr} {F : Hp} {v : V} {x : D} (rx : Rep K c al F v x) (hx : flatD x = true) : ∀ {vs : List V} {ds : List D}, RepL K c al F vs ds → ds.all flatD = true → inV v vs = inF x ds
  | _, _, .nil, _ => rfl
  | _, _, .cons a r, h => by
    rw [List.all_cons, Bool.and_eq_true] at h
    unfold inV inF
    rw [List.any_cons, List.any_cons, eqF_of a rx h.1 hx]
    exact congrArg _ (inF_of rx hx r h.2)
theorem lo_in {neg : Bool} : LO2 K (rInU K neg) (inD neg) := fun c w s v u x y Q E o rx ry h => by
  cases ry with
  | str j => cases rx with
    | str i => exact .inl ⟨i, j, rfl, rfl, h _ (Go.refl ..) o _ (.bl _)⟩
    | _ => exact h.elim
  | @lst _ _ ys b q =>
    have h' : Den K c (W.need (flatD x = true ∧ ys.all flatD = true) (W.ret (D.bl (if neg then !inF x ys else inF x ys)))) w s (qV K c Q) E := by cases rx <;> exact h
    exact .inr ⟨_, _, rfl, .inl (SqL.of (o.fro _ _ b)), flat_of rx h'.1.1, flats_of q h'.1.2, by rw [inF_of rx h'.1.1 q h'.1.2]; exact h'.2 _ (Go.refl ..) o _ (.bl _)⟩
  | @tup _ _ ys b q =>
    have h' : Den K c (W.need (flatD x = true ∧ ys.all flatD = true) (W.ret (D.bl (if neg then !inF x ys else inF x ys)))) w s (qV K c Q) E := by cases rx <;> exact h
    exact .inr ⟨_, _, rfl, .inr (SqT.of (o.fro _ _ b)), flat_of rx h'.1.1, flats_of q h'.1.2, by rw [inF_of rx h'.1.1 q h'.1.2]; exact h'.2 _ (Go.refl ..) o _ (.bl _)⟩
  | _ => cases rx <;> exact h.elim
@[reducible] def ixD : D → D → W D
  | .lst xs, .int i => match atI xs i with | some d => W.ret d | none => W.stuck
  | .tup xs, .int i => match atI xs i with | some d => W.ret d | none => W.stuck
  | .str z, .int i => W.need (z.length ≤ sizeLine) (match atI z.cps.toList i with | some c => W.ret (.str ⟨#[c]⟩) | none => W.stuck)
  | .gt xs y z, .int i => match atI (xs ++ [D.str y, D.str z]) i with | some d => W.ret d | none => W.stuck
  | _, _ => W.stuck
theorem RepL.atI {c : Cg} {al : List Addr} {F : Hp} {vs : List V} {ds : List D} {i : Int} {d : D} (r : RepL K c al F vs ds) (h : L2.atI ds i = some d) : ∃ v, L2.atI vs i = some v ∧ Rep K c al F v d := by
  unfold L2.atI at h ⊢
  rw [r.len]
  cases e : ixN ds.length i with
  | none => rw [e] at h; cases h
  | some j => rw [e] at h; exact r.get h
theorem RepL.gt2 {c : Cg} {al : List Addr} {F : Hp} {vs : List V} {ds : List D} (r : RepL K c al F vs ds) (y z : Str) : RepL K c al F (vs ++ [V.str y, V.str z]) (ds ++ [D.str y, D.str z]) := r.app (.cons (.str y) (.cons (.str z) .nil))
theorem GtAt.sqT {F H : Hp} {a : Addr} {vs : List V} {y z : Str} {t u : Tok} (h : GtAt F a vs y z t u) (e : Le F H) : SqT K H a (vs ++ [V.str y, V.str z]) := by
  obtain ⟨_, _, o, h, _⟩ := h
  exact .inl (.inr ⟨o, e _ _ h⟩)
theorem lo_ix : LO2 K (rIx K) ixD := fun c w s v u x y Q E o rx ry h => by
  cases ry with
  | int i => cases rx with
    | lst a r =>
      simp only [ixD] at h
      split at h
      · rename_i d e
        obtain ⟨z, hu, ru⟩ := r.atI e
        exact .inl ⟨_, _, i, z, rfl, rfl, SqL.of (o.fro _ _ a), hu, h _ (Go.refl ..) o _ ru⟩
      · exact h.elim
    | tup a r =>
      simp only [ixD] at h
      split at h
      · rename_i d e
        obtain ⟨z, hu, ru⟩ := r.atI e
        exact .inr (.inl ⟨_, _, i, z, rfl, rfl, SqT.of (o.fro _ _ a), hu, h _ (Go.refl ..) o _ ru⟩)
      · exact h.elim
    | str z =>
      obtain ⟨h1, h⟩ := h
      split at h
      · rename_i c e
        exact .inr (.inr ⟨z, i, c, rfl, rfl, h1, e, h _ (Go.refl ..) o _ (.str _)⟩)
      · exact h.elim
    | gt a r =>
      simp only [ixD] at h
      split at h
      · rename_i d e
        obtain ⟨z, hu, ru⟩ := (r.gt2 _ _).atI e
        exact .inr (.inl ⟨_, _, i, z, rfl, rfl, a.sqT o.fro, hu, h _ (Go.refl ..) o _ ru⟩)
      · exact h.elim
    | _ => exact h.elim
  | _ => cases rx <;> exact h.elim
theorem RepL.cut {c : Cg} {al : List Addr} {F : Hp} {vs : List V} {ds : List D} (r : RepL K c al F vs ds) (lo hi : Option Int) : RepL K c al F (cutV vs lo hi) (cutL ds lo hi) := by
  unfold cutV cutL
  rw [r.len]
  exact (r.drop _).take _
@[reducible] def slD : D → Option Int → Option Int → W D
  | .str z, lo, hi => W.need (z.length ≤ sizeLine) (W.ret (.str (cutS z lo hi)))
  | .lst xs, lo, hi => W.ret (.lst (cutL xs lo hi))
  | .tup xs, lo, hi => W.need (¬ (HT.sIx xs.length 0 lo = 0 ∧ HT.sIx xs.length xs.length hi = xs.length)) (W.ret (.tup (cutL xs lo hi)))
  | .gt ds y z, lo, hi => W.need (¬ (HT.sIx (ds ++ [D.str y, D.str z]).length 0 lo = 0 ∧ HT.sIx (ds ++ [D.str y, D.str z]).length (ds ++ [D.str y, D.str z]).length hi = (ds ++ [D.str y, D.str z]).length)) (W.ret (.tup (cutL (ds ++ [D.str y, D.str z]) lo hi)))
  | _, _, _ => W.stuck
def LP (K : PySem.W.Frag) (to : XK → TO) (f : List Sl → W (Option Int)) : Prop := ∀ (c : Cg) (w : Wd) (s : S) (σ : L2.St) (δ : List Sl) (Q : Option Int → Hp → Prop) (E : XK), Ok K c w s → Slo K c w σ δ →
  Den K c (f δ) w s (fun b w' _ => Q b w'.H) (xE K c E) → to E σ w.H Q
@[reducible] def dNoPart : List Sl → W (Option Int) := fun _ => W.ret none
@[reducible] def dPart (f : List Sl → W D) : List Sl → W (Option Int) := fun δ => (f δ).bind fun d => match d with | .int i => W.ret (some i) | _ => W.stuck
theorem lp_none : LP K (fun _ => tNoPart) dNoPart := fun c w s σ δ Q E o sl h => h.ret o
theorem lp_some {te : XK → TE} {f : List Sl → W D} (he : LE K te f) : LP K (fun E => tPart (te E)) (dPart f) := fun c w s σ δ Q E o sl h =>
  he c w s σ δ _ E o sl (h.bind.mono fun x w1 s1 g1 o1 q v r1 => by
    cases r1 with
    | int i => exact ⟨i, rfl, q.ret o1⟩
    | _ => exact q.elim)
@[reducible] def dSl (f : List Sl → W D) (a b : List Sl → W (Option Int)) : List Sl → W D := fun δ => (f δ).bind fun x => (a δ).bind fun lo => (b δ).bind fun hi => slD x lo hi
theorem le_sl {te : XK → TE} {ta tb : XK → TO} {f : List Sl → W D} {a b : List Sl → W (Option Int)} (he : LE K te f) (ha : LP K ta a) (hb : LP K tb b) : LE K (fun E => tSl (rSlU K) (te E) (ta E) (tb E)) (dSl f a b) := fun c w s σ δ Q E o sl h =>
  he c w s σ δ _ E o sl (h.bind.mono fun x w1 s1 g1 o1 q v r1 => ha c w1 s1 σ δ _ E o1 (sl.go g1) (q.bind.mono fun lo w2 s2 g2 o2 q2 => hb c w2 s2 σ δ _ E o2 ((sl.go g1).go g2) (q2.bind.mono fun hi w3 s3 g3 o3 q3 => by
    have r3 := (r1.up g2.sub).up g3.sub
    cases r3 with
    | str z => exact .inl ⟨z, rfl, q3.1, q3.2 _ (Go.refl ..) o3 _ (.str _)⟩
    | lst e r =>
      refine .inr (.inl ⟨_, _, rfl, SqL.of (o3.fro _ _ e), fun p hp => ?_⟩)
      obtain ⟨o4, g4⟩ := o3.lay (o := .lst (cutV _ lo hi)) hp notOwn.1
      exact q3 _ g4 o4 (.ref p) (.lst upd_same ((r.cut lo hi).up g4.sub))
    | tup e r =>
      refine .inr (.inr ⟨_, _, rfl, SqT.of (o3.fro _ _ e), by rw [r.len]; exact q3.1, fun p hp => ?_⟩)
      obtain ⟨o4, g4⟩ := o3.lay (o := .tup (cutV _ lo hi)) hp (fun _ z => by cases z)
      exact q3.2 _ g4 o4 (.ref p) (.tup upd_same ((r.cut lo hi).up g4.sub))
    | @gt _ _ _ y z _ _ e r =>
      have r := r.gt2 y z
      refine .inr (.inr ⟨_, _, rfl, e.sqT o3.fro, by rw [r.len]; exact q3.1, fun p hp => ?_⟩)
      obtain ⟨o4, g4⟩ := o3.lay (o := .tup (cutV _ lo hi)) hp (fun _ z => by cases z)
      exact q3.2 _ g4 o4 (.ref p) (.tup upd_same ((r.cut lo hi).up g4.sub))
    | _ => exact q3.elim)))
@[reducible] def lenD : List D → W D
  | [.str z] => W.need (z.length ≤ sizeLine) (W.ret (.int z.length))
  | [.lst xs] => W.ret (.int xs.length)
  | [.tup xs] => W.ret (.int xs.length)
  | [.sct xs] => W.ret (.int xs.length)
  | _ => W.stuck
theorem lo_len : LOn K (fun xs H Q => ∃ x n, xs = [x] ∧ LenV K x H n ∧ Q (.int n) H) lenD := fun c w s vs xs Q E o r h => by
  unfold lenD at h
  split at h
  · obtain ⟨v, rfl, rv⟩ := r.one
    cases rv
    exact ⟨_, _, rfl, ⟨h.1, rfl⟩, h.2 _ (Go.refl ..) o _ (.int _)⟩
  · obtain ⟨v, rfl, rv⟩ := r.one
    cases rv with
    | lst a q => exact ⟨_, _, rfl, .inl ⟨_, SqL.of (o.fro _ _ a), q.len.symm⟩, h _ (Go.refl ..) o _ (.int _)⟩
  · obtain ⟨v, rfl, rv⟩ := r.one
    cases rv with
    | tup a q => exact ⟨_, _, rfl, .inr ⟨_, SqT.of (o.fro _ _ a), q.len.symm⟩, h _ (Go.refl ..) o _ (.int _)⟩
  · obtain ⟨v, rfl, rv⟩ := r.one
    cases rv with
    | sct a => exact ⟨_, _, rfl, .inl ⟨_, o.fro.sqL a, by simp⟩, h _ (Go.refl ..) o _ (.int _)⟩
  · exact h.elim
@[reducible] def listD : List D → W D
  | [.lst xs] => W.ret (.lst xs)
  | [.tup xs] => W.ret (.lst xs)
  | _ => W.stuck
theorem lo_list : LOn K (fun xs H Q => ∃ p ys, xs = [.ref p] ∧ (SqL K H p ys ∨ SqT K H p ys) ∧ ∀ l, H l = none → Q (.ref l) (upd H l (.lst ys))) listD := fun c w s vs xs Q E o r h => by
  unfold listD at h
  split at h
  · obtain ⟨v, rfl, rv⟩ := r.one
    cases rv with
    | lst a q =>
      refine ⟨_, _, rfl, .inl (SqL.of (o.fro _ _ a)), fun l hl => ?_⟩
      obtain ⟨o4, g4⟩ := o.lay (o := .lst _) hl notOwn.1
      exact h _ g4 o4 (.ref l) (.lst upd_same (q.up g4.sub))
  · obtain ⟨v, rfl, rv⟩ := r.one
    cases rv with
    | tup a q =>
      refine ⟨_, _, rfl, .inr (SqT.of (o.fro _ _ a)), fun l hl => ?_⟩
      obtain ⟨o4, g4⟩ := o.lay (o := .lst _) hl notOwn.1
      exact h _ g4 o4 (.ref l) (.lst upd_same (q.up g4.sub))
  · exact h.elim
def bools : List D → Option (List Bool)
  | [] => some []
  | .bl b :: r => (bools r).map (b :: ·)
  | _ => none
theorem bools_rep {c : Cg} {al : List Addr} {F : Hp} : ∀ {vs : List V} {ds : List D} {bs : List Bool}, RepL K c al F vs ds → bools ds = some bs → vs = bs.map V.bl
  | _, _, _, .nil, h => by cases h; rfl
  | _, _, _, .cons (d := d) (ds := ds) a r, h => by
    cases a with
    | bl b =>
      unfold bools at h
      cases e : bools ds with
      | none => rw [e] at h; cases h
      | some bs => rw [e] at h; cases h; rw [bools_rep r e]; rfl
    | _ => unfold bools at h; cases h
@[reducible] def allD : List D → W D
  | [.lst xs] => match bools xs with | some bs => W.ret (.bl (bs.all id)) | none => W.stuck
  | _ => W.stuck
theorem lo_all : LOn K (rAll K) allD := fun c w s vs xs Q E o r h => by
  unfold allD at h
  split at h
  · obtain ⟨v, rfl, rv⟩ := r.one
    split at h
    · rename_i bs e
      cases rv with
      | lst a q => exact ⟨_, bs, rfl, by rw [← bools_rep q e]; exact SqL.of (o.fro _ _ a), h _ (Go.refl ..) o _ (.bl _)⟩
    · exact h.elim
  · exact h.elim
def LOm (K : PySem.W.Frag) (r : V → List V → Hp → VK → Prop) (g : Str → List D → W D) : Prop := ∀ (c : Cg) (w : Wd) (s : S) (z : Str) (vs : List V) (xs : List D) (Q : VK) (E : Xn → Wd → S → Prop), Ok K c w s → RepL K c w.al w.F vs xs → Den K c (g z xs) w s (qV K c Q) E → r (.str z) vs w.H Q
@[reducible] def dMs (g : Str → List D → W D) (fo : List Sl → W D) (f : List Sl → W (List D)) : List Sl → W D := fun δ => (fo δ).bind fun x => match x with | .str z => (f δ).bind (g z) | _ => W.stuck
theorem le_ms {r : V → List V → Hp → VK → Prop} {g : Str → List D → W D} {to : XK → TE} {t : XK → TA} {fo : List Sl → W D} {f : List Sl → W (List D)} (hr : LOm K r g) (ho : LE K to fo) (ha : LA K t f) : LE K (fun E => tBM K "str" r (to E) (t E)) (dMs g fo f) := fun c w s σ δ Q E o sl h =>
  ho c w s σ δ _ E o sl (h.bind.mono fun x w1 s1 g1 o1 q v r1 => by
    cases r1 with
    | str z => exact ⟨rfl, ha c w1 s1 σ δ _ E o1 (sl.go g1) ((show Den K c ((f δ).bind (g z)) w1 s1 _ _ from q).bind.mono fun ys w2 s2 g2 o2 q2 ws r2 => hr c w2 s2 z ws ys Q _ o2 r2 q2)⟩
    | _ => exact q.elim)
def txts : List D → Option (List Str)
  | [] => some []
  | .str b :: r => (txts r).map (b :: ·)
  | _ => none
theorem txts_rep {c : Cg} {al : List Addr} {F : Hp} : ∀ {vs : List V} {ds : List D} {bs : List Str}, RepL K c al F vs ds → txts ds = some bs → vs = bs.map V.str
  | _, _, _, .nil, h => by cases h; rfl
  | _, _, _, .cons (d := d) (ds := ds) a r, h => by
    cases a with
    | str b =>
      unfold txts at h
      cases e : txts ds with
      | none => rw [e] at h; cases h
      | some bs => rw [e] at h; cases h; rw [txts_rep r e]; rfl
    | _ => unfold txts at h; cases h
@[reducible] def joinD : Str → List D → W D := fun z xs => match xs with
  | [.lst ds] => match txts ds with
    | some ys => W.need ((ys.map (·.length)).sum + ys.length * z.length ≤ 16777216) (W.ret (.str (Txt.join z ys)))
    | none => W.stuck
  | _ => W.stuck
theorem lo_join : LOm K (fun x xs H Q => ∃ a p, ∃ ys : List Str, x = .str a ∧ xs = [.ref p] ∧ (SqL K H p (ys.map V.str) ∨ SqT K H p (ys.map V.str)) ∧ (ys.map (·.length)).sum + ys.length * a.length ≤ 16777216 ∧ Q (.str (Txt.join a ys)) H) joinD := fun c w s z vs xs Q E o r h => by
  unfold joinD at h
  split at h
  · obtain ⟨v, rfl, rv⟩ := r.one
    split at h
    · rename_i bs e
      cases rv with
      | lst a q => exact ⟨z, _, bs, rfl, rfl, .inl (by rw [← txts_rep q e]; exact SqL.of (o.fro _ _ a)), h.1, h.2 _ (Go.refl ..) o _ (.str _)⟩
    · exact h.elim
  · exact h.elim
end
end Ly
namespace Ly
open PySem L2 PyProof.Rows
open Lx (Le)
def Pr (K : PySem.W.Frag) (m : Nat) (g : List D → W D) : Sp := fun vs H Q E => ∃ c w s ds, w.H = H ∧ Ok K c w s ∧ RepL K c w.al w.F vs ds ∧ ds.length = m ∧ Den K c (g ds) w s (qV K c Q) (xE K c E)
theorem Pr.len {K : PySem.W.Frag} {m : Nat} {g : List D → W D} (vs : List V) (H : Hp) (Q : VK) (E : XK) (h : Pr K m g vs H Q E) : vs.length = m := by
  obtain ⟨_, _, _, _, _, _, r, e, _⟩ := h
  rw [r.len, e]
@[reducible] def dCall (m : Nat) (g : List D → W D) (f : List Sl → W (List D)) : List Sl → W D := fun δ => (f δ).bind fun ds => W.need (ds.length = m) (g ds)
theorem le_call {K : PySem.W.Frag} {m : Nat} {g : List D → W D} {t : XK → TA} {f : List Sl → W (List D)} (ha : LA K t f) : LE K (fun E => tCall (Pr K m g) [] E (t E)) (dCall m g f) := fun c w s σ δ Q E o sl h =>
  ha c w s σ δ _ E o sl (h.bind.mono fun ds w1 s1 g1 o1 p vs r1 => ⟨c, w1, s1, ds, rfl, o1, by rw [List.append_nil]; exact r1, p.1, p.2⟩)
def startD (N : List Str) (ds : List D) : List Sl := ds.map some ++ List.replicate (N.length - ds.length) none
@[reducible] def dBody (N : List Str) (b : List Sl → W Out) : List D → W D := fun ds => (b (startD N ds)).bind fun o => match o with
  | .nx _ => W.ret .non
  | .rt d => W.ret d
  | _ => W.stuck
theorem Slo.start {K : PySem.W.Frag} {c : Cg} {w : Wd} {N : List Str} {vs : List V} {ds : List D} (r : RepL K c w.al w.F vs ds) : Slo K c w (L2.start N vs) (startD N ds) := by
  refine ⟨?_, fun j d e => ?_⟩
  · unfold L2.start startD
    rw [List.length_append, List.length_append, List.length_map, List.length_map, List.length_replicate, List.length_replicate, r.len]
  · unfold startD at e
    by_cases hj : j < (ds.map some).length
    · rw [List.getElem?_append_left hj, List.getElem?_map] at e
      cases q : ds[j]? with
      | none => rw [q] at e; cases e
      | some d' =>
        rw [q] at e; cases e
        obtain ⟨v, hv, rv⟩ := r.get q
        refine ⟨v, ?_, rv⟩
        unfold L2.start
        have hl : j < vs.length := (List.getElem?_eq_some_iff.mp hv).1
        rw [List.getElem?_append_left (by simpa using hl), List.getElem?_map, hv]
        rfl
    · rw [List.getElem?_append_right (by omega), List.getElem?_replicate] at e
      split at e <;> cases e
abbrev Tk (X : Cx) (E : XK) : Prop := Takes X (fun cls d _ H => E cls d H)
theorem px {X : Cx} {E : XK} (tk : Tk X E) : Passes (L2.CX X.prog X.w) X E := fun pins σ H s e s' I h => passes_call tk (fun _ _ _ _ z => z) pins σ H s e s' I h
theorem px0 {X : Cx} : Passes (L2.CX X.prog X.w) X E0 := fun pins σ H s e s' I h => by
  obtain ⟨_, _, _, _, _, _, _, _, _, _, _, _, z⟩ := h
  exact z.elim
section
variable {P : Program} {w : World} {K : PySem.W.Frag} {mg : Str → Option Value} {base : Heap} {x qual : Str} {params : Arguments} {body : List Stmt} {scope : Scope} {dvs : List V} {kws : List (Str × V)} {f : Addr} {fd : FuncData}
theorem body_ly {N : List Str} {t : XK → TS} {b : List Sl → W Out} (hl : LS K t b) {m : Nat} {vs : List V} {H : Hp} {Q : VK} {E : XK} (h : Pr K m (dBody N b) vs H Q E) : t E { nx := fun _ H' => Q .non H', rt := Q } (L2.start N vs) H := by
  obtain ⟨c, w, s, ds, rfl, o, r, e, q⟩ := h
  refine hl c w s (L2.start N vs) (startD N ds) _ E o (.start r) (q.bind.mono fun u w1 s1 g1 o1 p => ?_)
  cases u with
  | nx δ => exact fun σ _ => p.ret o1 .non .non
  | rt d => exact fun v r1 => p.ret o1 v r1
  | bk δ => exact p.elim
  | ct δ => exact p.elim
theorem tk_of {N : List Str} {cdv : Value} {A : Around} {outer : List Env} {s : Shared} {H : Hp} {E : XK} : Tk (cxOf (L2.CX P w) P w K mg base N qual scope f cdv A outer s H E) E := takes_of rfl rfl rfl rfl
theorem fn_ly {N ps : List Str} {k : Nat} {t : XK → TS} {b : List Sl → W Out} (F : FunD K x qual params body scope dvs kws f fd) (S : FnScope N ps scope) (hl : LS K t b)
    (hb : ∀ (cdv : Value) (A : Around) (outer : List Env) (s : Shared) (H : Hp) (E : XK), Room k (A.deeper (envOfC qual scope s.heap.objs.size f cdv)) → Tk (cxOf (L2.CX P w) P w K mg base N qual scope f cdv A outer s H E) E → PSs (cxOf (L2.CX P w) P w K mg base N qual scope f cdv A outer s H E) body (t E)) :
    FnOk P w K mg base (L2.CX P w) (k + 1) f fd ps (Pr K ps.length (dBody N b)) :=
  F.ok S Pr.len fun cdv A outer s H vs Q E hr h => ⟨t E, hb cdv A outer s H E hr tk_of, body_ly hl h⟩
end
structure Fk (P : Program) (w : World) (K : PySem.W.Frag) (mg : Str → Option Value) (base : Heap) (k : Nat) (f : Addr) (sp : Sp) : Prop where
  ex : ∃ (fd : FuncData) (ps : List Str), FnOk P w K mg base (L2.CX P w) k f fd ps sp ∧ Binds K fd ps [] ∧ PySem.W.keepIn K (.ref f) = true
structure FkG (P : Program) (w : World) (K : PySem.W.Frag) (mg : Str → Option Value) (base : Heap) (k : Nat) (f : Addr) (sp : Sp) : Prop where
  ex : ∃ (fd : FuncData) (ps : List Str), Lx.FnG P w K mg base (L2.CX P w) k f fd ps sp ∧ Binds K fd ps [] ∧ PySem.W.keepIn K (.ref f) = true
section
variable {P : Program} {w : World} {K : PySem.W.Frag} {mg : Str → Option Value} {base : Heap} {k : Nat} {f : Addr} {sp : Sp}
theorem Fk.up {j : Nat} (F : Fk P w K mg base k f sp) (h : k ≤ j) : Fk P w K mg base j f sp := by
  obtain ⟨fd, ps, G, r⟩ := F.ex
  exact ⟨fd, ps, Lx.FnOk.up G h, r⟩
end
section
variable {X : Cx} {E : XK} {k : Nat} {f : Addr} {sp : Sp} {x m : Str} {p pos apos : Pos} {e o : Expr} {es : List Expr} {t : TA} {ta : TE}
theorem pe_fk (F : Fk X.prog X.w X.K X.mg X.base k f sp) (hr : Room k X.A) (hx : Passes (L2.CX X.prog X.w) X E) (hg : Gl X x) (hm : X.mg x = some (.ref f)) (ha : PA X (e :: es) t)
    (hdb : (x == ("__debug__" : Str)) = false := by decide) (he : starEach (e :: es) X.env = (false, eval e X.env) :: starEach es X.env := by rfl) (hpl : (backTo pos (starEach es X.env)).any (·.1) = false := by rfl) :
    PE X (.Call (.Name x p) (e :: es) [] pos) (tCall sp [] E t) := by
  obtain ⟨fd, ps, G, hb, hk⟩ := F.ex
  exact pe_call G hr hg hm hk hb .nil hx ha hdb he hpl
theorem pe_fkG (hgd : X.A.guards = some []) (F : FkG X.prog X.w X.K X.mg X.base k f sp) (hr : Room k X.A) (hx : Passes (L2.CX X.prog X.w) X E) (hg : Gl X x) (hm : X.mg x = some (.ref f)) (ha : PA X (e :: es) t)
    (hdb : (x == ("__debug__" : Str)) = false := by decide) (he : starEach (e :: es) X.env = (false, eval e X.env) :: starEach es X.env := by rfl) (hpl : (backTo pos (starEach es X.env)).any (·.1) = false := by rfl) :
    PE X (.Call (.Name x p) (e :: es) [] pos) (tCall sp [] E t) := by
  obtain ⟨fd, ps, G, hb, hk⟩ := F.ex
  exact Lx.pe_callG hgd G hr hg hm hk hb hx ha hdb he hpl
end
section
variable {K : PySem.W.Frag} {c : Cg} {w : Wd} {s : S} {p : Addr} {i : Nat} {o u : HO} {mo mo' : MO}
@[reducible] def Wd.add (w : Wd) (p : Addr) (o : HO) : Wd := ⟨w.al ++ [p], w.F, upd w.H p o⟩
theorem Ok.add (k : Ok K c w s) (h : w.H p = none) (nt : ∀ ps, o ≠ .tbl ps) (nx : ∀ φ, o ≠ .ext φ) (r : RepM K c (w.add p o) p mo) : Ok K c (w.add p o) ⟨s.n, s.st ++ [mo]⟩ ∧ Go c w (w.add p o) := by
  have hp := k.ne h
  have hF := k.free h
  have ha := k.out h
  have nh : ∀ {a : Addr} {u : HO}, w.H a = some u → a ≠ p := fun e => ne_of_none e h
  have na : ∀ a ∈ w.al, a ≠ p := fun a z e => ha (e ▸ z)
  have sb : Sub w.al w.F (w.al ++ [p]) w.F := ⟨⟨[p], rfl⟩, Le.refl _⟩
  have kp : ∀ {a : Addr} {u : HO}, w.H a = some u → upd w.H p o a = some u := fun e => by rw [upd_ne (nh e)]; exact e
  refine ⟨⟨fun a u e => kp (k.fro a u e), k.fpn, fun z => ?_, ?_, ?_, fun a z => ?_, k.pen.of (Le.refl _) (upd_ne hp.symm), k.tab.ext fun b u e => kp e, k.ftb, fun a z ps => ?_, fun a z φ => ?_, fun j a m e1 e2 => ?_⟩, fun a u _ _ _ e => kp e, sb, fun a u e n => (by have e : w.F a = some u := e; rw [n] at e; cases e), fun a z => ?_⟩
  · rcases List.mem_append.mp z with z | z
    · exact k.pna z
    · exact hp (List.mem_singleton.mp z).symm
  · refine List.nodup_append.mpr ⟨k.nd, by simp, fun a h1 b h2 e => ?_⟩
    rw [List.mem_singleton.mp h2] at e
    exact ha (e ▸ h1)
  · show (w.al ++ [p]).length = (s.st ++ [mo]).length
    rw [List.length_append, List.length_append, k.len]; rfl
  · show upd w.H p o a ≠ none
    rcases List.mem_append.mp z with z | z
    · rw [upd_ne (na a z)]; exact k.occ a z
    · rw [List.mem_singleton.mp z, upd_same]; exact fun y => by cases y
  · show upd w.H p o a ≠ _
    rcases List.mem_append.mp z with z | z
    · rw [upd_ne (na a z)]; exact k.atb a z ps
    · rw [List.mem_singleton.mp z, upd_same]; exact fun y => nt ps (Option.some.inj y)
  · show upd w.H p o a ≠ _
    rcases List.mem_append.mp z with z | z
    · rw [upd_ne (na a z)]; exact k.aco a z φ
    · rw [List.mem_singleton.mp z, upd_same]; exact fun y => nx φ (Option.some.inj y)
  · by_cases hj : j < w.al.length
    · have e1 : w.al[j]? = some a := by rw [← e1]; exact (List.getElem?_append_left hj).symm
      have e2 : s.st[j]? = some m := by rw [← e2]; exact (List.getElem?_append_left (by rw [← k.len]; exact hj)).symm
      exact (k.sto j a m e1 e2).of sb (upd_ne (na a (List.mem_of_getElem? e1))) fun z => z
    · have hj2 : j = w.al.length := by
        have := (List.getElem?_eq_some_iff.mp e1).1
        simp at this; omega
      subst hj2
      have e1 : (w.al ++ [p])[w.al.length]? = some a := e1
      have e2 : (s.st ++ [mo])[w.al.length]? = some m := e2
      rw [k.len] at e2
      simp at e1 e2
      subst e1 e2
      exact r
  · rcases List.mem_append.mp z with z | z
    · exact .inl z
    · exact .inr (by rw [List.mem_singleton.mp z]; exact Wd.fre_none h)
@[reducible] def Wd.ch (w : Wd) (p : Addr) (o : HO) : Wd := ⟨w.al, w.F, upd w.H p o⟩
theorem Ok.ch (k : Ok K c w s) (hi : w.al[i]? = some p) (hF : w.F p = none) (nt : ∀ ps, o ≠ .tbl ps) (nx : ∀ φ, o ≠ .ext φ) (r : RepM K c (w.ch p o) p mo) : Ok K c (w.ch p o) ⟨s.n, s.st.set i mo⟩ ∧ Go c w (w.ch p o) := by
  have hm := List.mem_of_getElem? hi
  have hp : p ≠ c.pn := fun z => k.pna (z ▸ hm)
  have inj : ∀ {j : Nat}, w.al[j]? = some p → j = i := fun {j} e => by
    have hj := (List.getElem?_eq_some_iff.mp e).1
    have hi' := (List.getElem?_eq_some_iff.mp hi).1
    exact (List.getElem?_inj hj k.nd).mp (e.trans hi.symm)
  have hx : ∀ u, w.H p = some u → (∀ ps, u ≠ .tbl ps) ∧ ∀ φ, u ≠ .ext φ := fun u e => ⟨fun ps z => k.atb p hm ps (by rw [e, z]), fun φ z => k.aco p hm φ (by rw [e, z])⟩
  refine ⟨⟨fun a u e => ?_, k.fpn, k.pna, k.nd, ?_, fun a z => ?_, k.pen.of (Le.refl _) (upd_ne hp.symm), tabs_upd k.tab hx, k.ftb, fun a z ps => ?_, fun a z φ => ?_, fun j a m e1 e2 => ?_⟩, fun a u np na _ e => ?_, Sub.refl _ _, fun a u e n => (by have e : w.F a = some u := e; rw [n] at e; cases e), fun a z => .inl z⟩
  · show upd w.H p o a = some u
    have e : w.F a = some u := e
    rw [upd_ne (ne_of_none e hF)]; exact k.fro a u e
  · show w.al.length = (s.st.set i mo).length
    rw [List.length_set]; exact k.len
  · show upd w.H p o a ≠ none
    by_cases e : a = p
    · rw [e, upd_same]; exact fun y => by cases y
    · rw [upd_ne e]; exact k.occ a z
  · show upd w.H p o a ≠ _
    by_cases e : a = p
    · rw [e, upd_same]; exact fun y => nt ps (Option.some.inj y)
    · rw [upd_ne e]; exact k.atb a z ps
  · show upd w.H p o a ≠ _
    by_cases e : a = p
    · rw [e, upd_same]; exact fun y => nx φ (Option.some.inj y)
    · rw [upd_ne e]; exact k.aco a z φ
  · have e1 : w.al[j]? = some a := e1
    have e2 : (s.st.set i mo)[j]? = some m := e2
    by_cases hj : j = i
    · subst hj
      rw [hi] at e1; cases e1
      rw [List.getElem?_set_self (by rw [← k.len]; exact (List.getElem?_eq_some_iff.mp hi).1)] at e2
      cases e2
      exact r
    · rw [List.getElem?_set_ne (Ne.symm hj)] at e2
      have ne : a ≠ p := fun z => hj (inj (z ▸ e1))
      exact (k.sto j a m e1 e2).of (Sub.refl _ _) (upd_ne ne) fun z => z
  · show upd w.H p o a = some u
    rw [upd_ne (by rintro rfl; exact na hm)]; exact e
theorem Ok.ice (k : Ok K c w s) (hi : w.al[i]? = some p) (hF : w.F p = none) (h : w.H p = some u) : Ok K c ⟨w.al, upd w.F p u, w.H⟩ ⟨s.n, s.st.set i .gone⟩ ∧ Go c w ⟨w.al, upd w.F p u, w.H⟩ := by
  have hm := List.mem_of_getElem? hi
  have hp : p ≠ c.pn := fun z => k.pna (z ▸ hm)
  have sb : Sub w.al w.F w.al (upd w.F p u) := ⟨List.prefix_refl _, Le.up hF⟩
  have inj : ∀ {j : Nat}, w.al[j]? = some p → j = i := fun {j} e => by
    have hj := (List.getElem?_eq_some_iff.mp e).1
    exact (List.getElem?_inj hj k.nd).mp (e.trans hi.symm)
  refine ⟨⟨fun a v e => ?_, ?_, k.pna, k.nd, ?_, k.occ, k.pen.of (Le.up hF) rfl, k.tab, fun a ps => ?_, k.atb, k.aco, fun j a m e1 e2 => ?_⟩, (Go.refl c w).frz hF (.inr hm)⟩
  · have e : upd w.F p u a = some v := e
    by_cases e2 : a = p
    · subst e2; rw [upd_same] at e; cases e; exact h
    · rw [upd_ne e2] at e; exact k.fro a v e
  · show upd w.F p u c.pn = none
    rw [upd_ne hp.symm]; exact k.fpn
  · show w.al.length = (s.st.set i MO.gone).length
    rw [List.length_set]; exact k.len
  · show upd w.F p u a ≠ _
    by_cases e2 : a = p
    · subst e2; rw [upd_same]; exact fun z => k.atb _ hm ps (by rw [h, Option.some.inj z])
    · rw [upd_ne e2]; exact k.ftb a ps
  · have e1 : w.al[j]? = some a := e1
    have e2 : (s.st.set i MO.gone)[j]? = some m := e2
    by_cases hj : j = i
    · subst hj
      rw [List.getElem?_set_self (by rw [← k.len]; exact (List.getElem?_eq_some_iff.mp hi).1)] at e2
      cases e2
      trivial
    · rw [List.getElem?_set_ne (Ne.symm hj)] at e2
      have ne : a ≠ p := fun z => hj (inj (z ▸ e1))
      exact (k.sto j a m e1 e2).of sb rfl fun z => by show upd w.F p u a = none; rw [upd_ne ne]; exact z
theorem notIns {C dx : Addr} {fs : List (Str × V)} : (∀ ps, HO.ins C dx fs ≠ .tbl ps) ∧ ∀ φ, HO.ins C dx fs ≠ .ext φ := ⟨fun _ z => (by cases z), fun _ z => (by cases z)⟩
end
section
variable {K : PySem.W.Frag}
theorem mem_lookup {f : Str} {d : D} : ∀ {gs : List (Str × D)}, gs.lookup f = some d → f ∈ gs.map (·.1)
  | [], h => by cases h
  | (g, y) :: r, h => by
    rw [List.lookup_cons] at h
    cases q : (f == g) with
    | true => rw [eq_of_beq q]; exact List.mem_cons_self
    | false => rw [q] at h; exact List.mem_cons_of_mem _ (mem_lookup h)
@[reducible] def insD : D → W (Str × List (Str × D))
  | .obj cl gs => W.ret (cl, gs)
  | .mu i => (W.get i).bind fun o => match o with | .ins cl gs => W.ret (cl, gs) | _ => W.stuck
  | _ => W.stuck
theorem ins_of {c : Cg} {w : Wd} {s : S} {v : V} {d : D} {A : Type} {f : Str × List (Str × D) → W A} {Q : A → Wd → S → Prop} {E : Xn → Wd → S → Prop} (o : Ok K c w s) (r : Rep K c w.al w.F v d) (h : Den K c ((insD d).bind f) w s Q E) :
    ∃ a cl dx fs gs, v = .ref a ∧ w.H a = some (.ins (He.ga K cl) dx fs) ∧ Cls K (He.ga K cl) ∧ (∀ x ∈ gs.map (·.1), NoAttr K (He.ga K cl) x) ∧ RepF K c w.al w.F fs gs ∧ Den K c (f (cl, gs)) w s Q E := by
  cases r with
  | @obj a dx cl fs gs hf hC hn rf => exact ⟨a, cl, dx, fs, gs, rfl, o.fro _ _ hf, hC, hn, rf, h⟩
  | @mu i a hi =>
    obtain ⟨mo, e, h⟩ := h
    have rm := o.sto i a mo hi e
    cases mo with
    | ins cl gs =>
      obtain ⟨_, dx, fs, h1, h2, h3, h4, _⟩ := rm
      exact ⟨a, cl, dx, fs, gs, rfl, h1, h2, h3, h4, h⟩
    | _ => exact h.elim
  | _ => exact h.elim
@[reducible] def dFld (f : Str) (fa : List Sl → W D) : List Sl → W D := fun δ => (fa δ).bind fun x => (insD x).bind fun p => match p.2.lookup f with | some d => W.ret d | none => W.stuck
theorem le_fld {ta : XK → TE} {fa : List Sl → W D} {f : Str} (ha : LE K ta fa) : LE K (fun E => tFld K (ta E) f) (dFld f fa) := fun c w s σ δ Q E o sl h =>
  ha c w s σ δ _ E o sl (h.bind.mono fun x w1 s1 g1 o1 p v r1 => by
    obtain ⟨a, cl, dx, fs, gs, rfl, hH, hC, hn, rf, p⟩ := ins_of o1 r1 p
    cases e : gs.lookup f with
    | none => simp only [e] at p; exact p.elim
    | some d =>
      simp only [e] at p
      obtain ⟨u, hu, ru⟩ := rf.look e
      exact ⟨a, _, dx, fs, u, rfl, hH, hC, hn f (mem_lookup e), hu, p.ret o1 u ru⟩)
abbrev Tb := List (Str × (List D → W D))
def tPropU (K : PySem.W.Frag) (tb : Tb) (E : XK) (ta : TE) : TE := fun σ H Q => ta σ H fun x H1 => ∃ a cl dx fs g, x = .ref a ∧ H1 a = some (.ins (He.ga K cl) dx fs) ∧ tb.lookup cl = some g ∧ Pr K 1 g [.ref a] H1 Q E
@[reducible] def dProp (tb : Tb) (fa : List Sl → W D) : List Sl → W D := fun δ => (fa δ).bind fun x => (insD x).bind fun p => match tb.lookup p.1 with | some g => (g [x]).calm | none => W.stuck
theorem le_prop {ta : XK → TE} {fa : List Sl → W D} {tb : Tb} (ha : LE K ta fa) : LE K (fun E => tPropU K tb E0 (ta E)) (dProp tb fa) := fun c w s σ δ Q E o sl h =>
  ha c w s σ δ _ E o sl (h.bind.mono fun x w1 s1 g1 o1 p v r1 => by
    obtain ⟨a, cl, dx, fs, gs, rfl, hH, hC, hn, rf, p⟩ := ins_of o1 r1 p
    cases e : tb.lookup cl with
    | none => simp only [e] at p; exact p.elim
    | some g =>
      simp only [e] at p
      exact ⟨a, cl, dx, fs, g, rfl, hH, e, c, w1, s1, _, rfl, o1, .cons r1 .nil, rfl, p.calm⟩)
def tMethU (K : PySem.W.Frag) (m : Str) (n : Nat) (tb : Tb) (E : XK) (ta : TE) (t : TA) : TE := fun σ H Q => ta σ H fun x H1 => ∃ a cl dx fs g, x = .ref a ∧ H1 a = some (.ins (He.ga K cl) dx fs) ∧ fs.lookup m = none ∧ tb.lookup cl = some g ∧
  t σ H1 fun vs H2 => Pr K (n + 1) g (.ref a :: vs) H2 Q E
@[reducible] def dMeth (m : Str) (n : Nat) (tb : Tb) (fa : List Sl → W D) (f : List Sl → W (List D)) : List Sl → W D := fun δ => (fa δ).bind fun x => (insD x).bind fun p => W.need (p.2.lookup m = none) (match tb.lookup p.1 with | some g => (f δ).bind fun ds => W.need (ds.length = n) (g (x :: ds)) | none => W.stuck)
theorem le_meth {ta : XK → TE} {fa : List Sl → W D} {t : XK → TA} {f : List Sl → W (List D)} {m : Str} {j : Nat} {tb : Tb} (ha : LE K ta fa) (hb : LA K t f) : LE K (fun E => tMethU K m j tb E (ta E) (t E)) (dMeth m j tb fa f) := fun c w s σ δ Q E o sl h =>
  ha c w s σ δ _ E o sl (h.bind.mono fun x w1 s1 g1 o1 p v r1 => by
    obtain ⟨a, cl, dx, fs, gs, rfl, hH, hC, hn, rf, p1, p⟩ := ins_of o1 r1 p
    cases e : tb.lookup cl with
    | none => rw [show (tb.lookup (cl, gs).1) = none from e] at p; exact p.elim
    | some g =>
      simp only [e] at p
      refine ⟨a, cl, dx, fs, g, rfl, hH, rf.noLook p1, e, hb c w1 s1 σ δ _ E o1 (sl.go g1) ((show Den K c ((f δ).bind fun ds => W.need (ds.length = j) (g (x :: ds))) w1 s1 (qV K c Q) (xE K c E) from p).bind.mono fun ds w2 s2 g2 o2 p2 vs r2 => ?_)⟩
      exact ⟨c, w2, s2, _, rfl, o2, .cons (r1.up g2.sub) r2, by rw [List.length_cons, p2.1], p2.2⟩)
end
section
variable {X : Cx}
structure MEnt (X : Cx) (E : XK) (m : Str) (n : Nat) (cl : Str) (g : List D → W D) : Prop where
  ex : ∃ (CX : CXT) (k : Nat) (f : Addr) (fd : FuncData) (ps : List Str), Cls X.K (He.ga X.K cl) ∧ Meth X.K (He.ga X.K cl) m f ∧ FnOk X.prog X.w X.K X.mg X.base CX k f fd ps (Pr X.K (n + 1) g) ∧ Room k X.A ∧ Binds X.K fd ps [] ∧ Passes CX X E
inductive MTab (X : Cx) (E : XK) (m : Str) (n : Nat) : Tb → Prop
  | nil : MTab X E m n []
  | cons {cl : Str} {g : List D → W D} {tb : Tb} : MEnt X E m n cl g → MTab X E m n tb → MTab X E m n ((cl, g) :: tb)
theorem MTab.get {E : XK} {m : Str} {n : Nat} {cl : Str} {g : List D → W D} : ∀ {tb : Tb}, MTab X E m n tb → tb.lookup cl = some g → MEnt X E m n cl g
  | _, .nil, h => by cases h
  | _, .cons (cl := d) a r, h => by
    rw [List.lookup_cons] at h
    cases q : (cl == d) with
    | true => rw [q] at h; cases h; rw [eq_of_beq q]; exact a
    | false => rw [q] at h; exact r.get h
theorem pe_methU {E : XK} {m : Str} {n : Nat} {tb : Tb} {o e : Expr} {es : List Expr} {ta : TE} {t : TA} {apos pos : Pos} {pl : Sem Bool} (T : MTab X E m n tb) (he : PE X o ta) (ha : PA X (e :: es) t)
    (hst : starEach (e :: es) X.env = (false, eval e X.env) :: starEach es X.env := by rfl) (hpl : (backTo pos (starEach es X.env)).any (·.1) = false := by rfl)
    (ht : eval (.Call (.Attribute o m apos) (e :: es) [] pos) X.env = (do
      let ov ← eval o X.env
      standAt apos.atName
      let (f, first) ← holding [ov] (getMethod ov m pl)
      callWith pos f first (backTo pos (starEach (e :: es) X.env)) (backToKw pos (keywordEach [] X.env))) := by rfl) : PE X (.Call (.Attribute o m apos) (e :: es) [] pos) (tMethU X.K m n tb E ta t) := by
  refine ⟨fun pins s σ H Q I h => ?_⟩
  refine PySem.W.methodCall_KW (pl := pl) (thn (he.run pins s σ H _ I h) fun u s1 ⟨x, H1, I1, rx, a, cl, dx, fs, g, ex, ea, l, eg, q⟩ => ?_) ht
  subst ex
  obtain rfl : u = Value.ref a := rx
  obtain ⟨CX, k, f, fd, ps, hC, hm, F, hr, hb, hx⟩ := (T.get eg).ex
  refine getmeth_ok I1 ea hC hm l ?_
  refine PySem.W.callWith_K (first := [.ref a]) (h₀ := X.base) I.ok.mod.kin hm.kp (thn (ha.run pos pins s1 σ H1 _ I1 q) fun us s2 ⟨vs, H2, I2, r, q2⟩ => ⟨I2.kIn, ?_⟩) hst hpl
  exact run_fn (us := .ref a :: us) (vs := .ref a :: vs) (dvs := []) F hr hb .nil hx I2 (.cons rfl r) (by rw [List.append_nil]; exact q2)
structure PEnt (X : Cx) (f : Str) (cl : Str) (g : List D → W D) : Prop where
  ex : ∃ (CX : CXT) (k : Nat) (p fa : Addr) (fd : FuncData) (ps : List Str), Cls X.K (He.ga X.K cl) ∧ PropOf X.K (He.ga X.K cl) f p fa ∧ FnOk X.prog X.w X.K X.mg X.base CX k fa fd ps (Pr X.K 1 g) ∧ Room (k + 1) X.A ∧ Binds X.K fd ps [] ∧ Passes CX X.nox E0
inductive PTab (X : Cx) (f : Str) : Tb → Prop
  | nil : PTab X f []
  | cons {cl : Str} {g : List D → W D} {tb : Tb} : PEnt X f cl g → PTab X f tb → PTab X f ((cl, g) :: tb)
theorem PTab.get {f : Str} {cl : Str} {g : List D → W D} : ∀ {tb : Tb}, PTab X f tb → tb.lookup cl = some g → PEnt X f cl g
  | _, .nil, h => by cases h
  | _, .cons (cl := d) a r, h => by
    rw [List.lookup_cons] at h
    cases q : (cl == d) with
    | true => rw [q] at h; cases h; rw [eq_of_beq q]; exact a
    | false => rw [q] at h; exact r.get h
theorem pe_propU {f : Str} {tb : Tb} {e : Expr} {ta : TE} {pos : Pos} (T : PTab X f tb) (he : PE X e ta) (hab : attributeBase e f X.env (eval e X.env) = eval e X.env := by rfl) : PE X (.Attribute e f pos) (tPropU X.K tb E0 ta) := by
  refine ⟨fun pins s σ H Q I h => ?_⟩
  refine attr_of hab (thn (he.run pins s σ H _ I h) fun u s1 ⟨x, H1, I1, rx, a, cl, dx, fs, g, ex, ea, eg, q⟩ => ?_)
  subst ex
  obtain rfl : u = Value.ref a := rx
  obtain ⟨CX, k, p, fa, fd, ps, hC, hp, F, hr, hb, hx⟩ := (T.get eg).ex
  exact getprop_ok (dvs := []) (ds := []) I1 ea hC hp F hr hb .nil hx q
end
section
variable (P : Program) (w : World) (K : PySem.W.Frag) (mg : Str → Option Value) (base : Heap)
inductive TabK (k : Nat) (m : Str) (n : Nat) : Tb → Prop
  | nil : TabK k m n []
  | cons {cl : Str} {g : List D → W D} {tb : Tb} {f : Addr} : Cls K (He.ga K cl) → Meth K (He.ga K cl) m f → Fk P w K mg base k f (Pr K (n + 1) g) → TabK k m n tb → TabK k m n ((cl, g) :: tb)
inductive TabP (k : Nat) (x : Str) : Tb → Prop
  | nil : TabP k x []
  | cons {cl : Str} {g : List D → W D} {tb : Tb} {p f : Addr} : Cls K (He.ga K cl) → PropOf K (He.ga K cl) x p f → Fk P w K mg base k f (Pr K 1 g) → TabP k x tb → TabP k x ((cl, g) :: tb)
end
section
variable {X : Cx} {E : XK} {k n : Nat} {m : Str} {tb : Tb}
theorem TabK.mt (T : TabK X.prog X.w X.K X.mg X.base k m n tb) (hr : Room k X.A) (hx : Passes (L2.CX X.prog X.w) X E) : MTab X E m n tb := by
  induction T with
  | nil => exact .nil
  | cons a b c _ ih =>
    obtain ⟨fd, ps, G, hb, hk⟩ := c.ex
    exact .cons ⟨_, _, _, _, _, a, b, G, hr, hb, hx⟩ ih
theorem TabP.pt (T : TabP X.prog X.w X.K X.mg X.base k m tb) (hr : Room (k + 1) X.A) : PTab X m tb := by
  induction T with
  | nil => exact .nil
  | cons a b c _ ih =>
    obtain ⟨fd, ps, G, hb, hk⟩ := c.ex
    exact .cons ⟨_, _, _, _, _, _, a, b, G, hr, hb, px0⟩ ih
end
section
variable {K : PySem.W.Frag}
@[reducible] def mkObj (cl : Str) (g : List D → W D) (ds : List D) : W D := (W.new (.ins cl [])).bind fun i => (g (.mu i :: ds)).bind fun v => W.need (v = .non) ((W.get i).bind fun o => match o with
  | .ins cl' gs => (W.put i .gone).bind fun _ => W.ret (.obj cl' gs)
  | _ => W.stuck)
@[reducible] def dMake (cl : Str) (m : Nat) (g : List D → W D) (f : List Sl → W (List D)) : List Sl → W D := fun δ => (f δ).bind fun ds => W.need (ds.length = m) (mkObj cl g ds)
theorem made {c : Cg} {w : Wd} {s : S} {x dx : Addr} {cl : Str} (o : Ok K c w s) (hC : Cls K (He.ga K cl)) (hx : w.H x = none) (hdx : w.H dx = none) (hne : dx ≠ x) :
    ∃ w', w'.H = upd (upd w.H dx (.own x)) x (.ins (He.ga K cl) dx []) ∧ Ok K c w' ⟨s.n, s.st ++ [.ins cl []]⟩ ∧ Go c w w' ∧ w'.al[s.st.length]? = some x := by
  have o1 : Ok K c ⟨w.al, w.F, upd w.H dx (.own x)⟩ s := o.upH (o.ne hdx) (o.free hdx) (o.out hdx) (fun u z => by rw [hdx] at z; cases z)
  have g1 : Go c w ⟨w.al, w.F, upd w.H dx (.own x)⟩ := (Go.refl c w).upH hdx
  have hx2 : upd w.H dx (.own x) x = none := by rw [upd_ne hne.symm]; exact hx
  obtain ⟨o2, g2⟩ := o1.add (p := x) (o := .ins (He.ga K cl) dx []) (mo := .ins cl []) hx2 notIns.1 notIns.2 ⟨o.free hx, dx, [], upd_same, hC, fun y hy => by simp at hy, .nil, by decide⟩
  refine ⟨_, rfl, o2, g1.trans g2 o2, ?_⟩
  show (w.al ++ [x])[s.st.length]? = some x
  rw [← o.len]; simp
theorem le_make {cl : Str} {m : Nat} {g : List D → W D} {t : XK → TA} {f : List Sl → W (List D)} (hC : Cls K (He.ga K cl)) (ha : LA K t f) : LE K (fun E => tMake (He.ga K cl) (Pr K (m + 1) g) [] E (t E)) (dMake cl m g f) := fun c w s σ δ Q E o sl h =>
  ha c w s σ δ _ E o sl (h.bind.mono fun ds w1 s1 g1 o1 p vs r1 x dx hx hdx hne => by
    obtain ⟨p1, p2⟩ := p
    obtain ⟨w2, e2, o2, g2, a2⟩ := made o1 hC hx hdx hne
    have p3 : (((g (.mu s1.st.length :: ds)).bind fun v => W.need (v = .non) ((W.get s1.st.length).bind fun o => match o with
      | .ins cl' gs => (W.put s1.st.length .gone).bind fun _ => W.ret (D.obj cl' gs)
      | _ => W.stuck))).wp ⟨s1.n, s1.st ++ [.ins cl []]⟩ _ _ := p2
    have p4 := (Den.on (s0 := s1) p3 g2).bind
    refine ⟨c, w2, ⟨s1.n, s1.st ++ [.ins cl []]⟩, .mu s1.st.length :: ds, e2, o2, .cons (.mu a2) (by rw [List.append_nil]; exact r1.up g2.sub), by rw [List.length_cons, p1], p4.mono fun d w3 s3 g3 o3 q v rv => ?_⟩
    obtain ⟨q0, q⟩ := q
    subst q0
    cases rv
    refine ⟨rfl, ?_⟩
    have a3 := g3.sub.at a2
    obtain ⟨mo, em, q⟩ := q
    have rm := o3.sto _ _ _ a3 em
    cases mo with
    | ins cl' gs =>
      obtain ⟨hF, dx', vs', h1, h2, h3, h4, h5⟩ := rm
      obtain ⟨o4, g4⟩ := o3.ice a3 hF h1
      exact q _ g4 o4 (.ref x) (.obj upd_same h2 h3 (h4.up g4.sub))
    | _ => exact q.elim)
def putG (f : Str) (v : D) : List (Str × D) → List (Str × D)
  | [] => [(f, v)]
  | (g, x) :: r => if g = f then (g, v) :: r else (g, x) :: putG f v r
theorem putG_len (f : Str) (v : D) : ∀ gs, (putG f v gs).length ≤ gs.length + 1
  | [] => Nat.le_refl _
  | (g, x) :: r => by
    unfold putG
    split
    · exact Nat.le_succ _
    · exact Nat.succ_le_succ (putG_len f v r)
theorem putG_names (f : Str) (v : D) : ∀ {gs : List (Str × D)} {y : Str}, y ∈ (putG f v gs).map (·.1) → y = f ∨ y ∈ gs.map (·.1)
  | [], y, h => by simp [putG] at h; exact .inl h
  | (g, x) :: r, y, h => by
    unfold putG at h
    split at h
    · exact .inr h
    · rw [List.map_cons, List.mem_cons] at h
      rcases h with h | h
      · exact .inr (by rw [h]; exact List.mem_cons_self)
      · rcases putG_names f v h with h | h
        · exact .inl h
        · exact .inr (List.mem_cons_of_mem _ h)
theorem RepF.put {c : Cg} {al : List Addr} {F : Hp} {f : Str} {v : V} {d : D} (r : Rep K c al F v d) : ∀ {fs : List (Str × V)} {gs : List (Str × D)}, RepF K c al F fs gs → RepF K c al F (putF f v fs) (putG f d gs)
  | _, _, .nil => .cons r .nil
  | _, _, .cons (x := x) a q => by
    unfold putF putG
    split
    · exact .cons r q
    · exact .cons a (RepF.put r q)
@[reducible] def dSetF (cl : List Str) (f : Str) (fo fe : List Sl → W D) : List Sl → W Out := fun δ => (fe δ).bind fun d => (fo δ).bind fun x => match x with
  | .mu i => (W.get i).bind fun o => (match o with
    | .ins c gs => W.need (c ∈ cl ∧ gs.length < 900) ((W.put i (.ins c (putG f d gs))).bind fun _ => W.ret (.nx δ))
    | _ => W.stuck)
  | _ => W.stuck
theorem ls_setF {cl : List Str} {to te : XK → TE} {fo fe : List Sl → W D} {f : Str} (hc : ∀ c ∈ cl, NoAttr K (He.ga K c) f) (ho : LE K to fo) (he : LE K te fe) : LS K (fun E => sFld K (to E) (te E) f) (dSetF cl f fo fe) := fun c w s σ δ D E o sl q =>
  he c w s σ δ _ E o sl (q.bind.mono fun d w1 s1 g1 o1 p y ry => ho c w1 s1 σ δ _ E o1 (sl.go g1) (p.bind.mono fun x w2 s2 g2 o2 p2 v rv => by
    cases rv with
    | @mu i a hi =>
      obtain ⟨mo, em, p3⟩ := p2
      have rm := o2.sto i a mo hi em
      cases mo with
      | ins k gs =>
        obtain ⟨⟨hk, hl⟩, p3⟩ := p3
        obtain ⟨hF, dx, fs, h1, h2, h3, h4, h5⟩ := rm
        refine ⟨a, _, dx, fs, rfl, h1, h2, hc k hk, by rw [h4.len]; omega, ?_⟩
        have hl2 := putG_len f d gs
        obtain ⟨o3, g3⟩ := o2.ch (p := a) (o := .ins (He.ga K k) dx (putF f y fs)) (mo := .ins k (putG f d gs)) hi hF notIns.1 notIns.2 ⟨hF, dx, _, upd_same, h2, fun z hz => by
          rcases putG_names f d hz with e | e
          · rw [e]; exact hc k hk
          · exact h3 z e, h4.put (ry.up g2.sub), by omega⟩
        exact p3 _ g3 o3 σ (((sl.go g1).go g2).go g3)
      | _ => exact p3.elim
    | _ => exact p2.elim))
end
end Ly
namespace Ly
open PySem L2 PyProof.Rows
open Lx (Le SupScope SupD SupG SupC cxS inv_super at_app with_bound)
section
variable {P : Program} {w : World} {K : PySem.W.Frag} {mg : Str → Option Value} {base : Heap} {nm qual : Str} {params : Arguments} {body : List Stmt} {scope : Scope} {dvs : List V} {kws : List (Str × V)} {DC f f2 : Addr} {fd fd2 : FuncData}
theorem tk_sup {N : List Str} {cd : Value} {cc : Addr} {A : Around} {outer : List Env} {s : Shared} {H : Hp} {E : XK} : Tk (cxS (L2.CX P w) P w K mg base N qual scope f cd cc A outer s H E) E := takes_of rfl rfl rfl rfl
end
end Ly
namespace Ly
open PySem PySem.Spec L2 PyProof.Rows He
open Lx (Le Ky vTy IsTb IsOk OwnC rSumL tMaxD tLenSetS tSortSet tRevS revS uniq sgn)
section
variable {K : PySem.W.Frag}
@[reducible] def tyW : D → W Ky
  | .non => W.ret (.t "NoneType") | .bl _ => W.ret (.t "bool") | .int _ => W.ret (.t "int") | .str _ => W.ret (.t "str")
  | .lst _ => W.ret (.t "list") | .tup _ => W.ret (.t "tuple") | .dct _ => W.ret (.t "dict") | .obj c _ => W.ret (.c c)
  | .mu i => (W.get i).bind fun o => match o with | .lst _ => W.ret (.t "list") | .dct _ => W.ret (.t "dict") | .ins c _ => W.ret (.c c) | .gone => W.stuck
  | _ => W.stuck
@[reducible] def isiD (tb : IsTb) (x : D) : W D := (tyW x).bind fun t => match tb.lookup t with | some b => W.ret (.bl b) | none => W.stuck
theorem le_isi {cv : V} {u : Value} {tb : IsTb} {ta : XK → TE} {fa : List Sl → W D} (hc : ClsV cv u) (ht : IsOk K u tb) (ha : LE K ta fa) : LE K (fun E => tCB (rIsi K) (tCons (ta E) (tCons (tC cv) tNil))) (dOp1 (isiD tb) fa) := fun c w s σ δ Q E o sl h =>
  ha c w s σ δ _ E o sl (h.bind.mono fun x w1 s1 g1 o1 q v r1 => by
    have key : ∀ t : Ky, ((∀ cc, t = .c cc → OwnC K cc) → TyX K w1.H v (vTy K t)) → Den K c (match tb.lookup t with | some b => W.ret (D.bl b) | none => W.stuck) w1 s1 (qV K c Q) (xE K c E) → ∃ (x c : V) (t u : Value) (b : Bool), [v, cv] = [x, c] ∧ ClsV c u ∧ TyX K w1.H x t ∧ PySem.W.kitOne K t u = some b ∧ Q (.bl b) w1.H := fun t hty p => by
      cases e2 : tb.lookup t with
      | none => rw [e2] at p; exact p.elim
      | some b =>
        rw [e2] at p
        obtain ⟨k1, k2⟩ := ht.get e2
        exact ⟨v, cv, vTy K t, u, b, rfl, hc, hty k2, k1, p.ret o1 _ (.bl _)⟩
    cases r1 with
    | non => exact key (.t "NoneType") (fun _ => .base .non) q
    | bl b => exact key (.t "bool") (fun _ => .base (.bl b)) q
    | int i => exact key (.t "int") (fun _ => .base (.int i)) q
    | str x => exact key (.t "str") (fun _ => .base (.str x)) q
    | lst a r => exact key (.t "list") (fun _ => .base (.lst (o1.fro _ _ a))) q
    | tup a r =>
      refine key (.t "tuple") (fun _ => ?_) q
      rcases (SqT.of (o1.fro _ _ a) : SqT K _ _ _) with (z | ⟨ob, z⟩) | ⟨ob, its, n', z, zc, _⟩
      · exact .base (.tup z)
      · exact .fTuple z
      · exact .kTuple z zc
    | dct a r => exact key (.t "dict") (fun _ => .base (.dK (o1.fro _ _ a))) q
    | @obj a dx cl fs gs hf _ _ _ => exact key (.c cl) (fun k => (k _ rfl).ok _ _ _ _ (o1.fro _ _ hf)) q
    | @mu i a hi =>
      obtain ⟨mo, em, q⟩ := q
      have rm := o1.sto i a mo hi em
      cases mo with
      | lst xs => obtain ⟨_, vs, h1, _⟩ := rm; exact key (.t "list") (fun _ => .base (.lst h1)) q
      | dct xs => obtain ⟨_, vs, h1, _⟩ := rm; exact key (.t "dict") (fun _ => .base (.dK h1)) q
      | ins cl gs => obtain ⟨_, dx, vs, h1, _⟩ := rm; exact key (.c cl) (fun k => (k _ rfl).ok _ _ _ _ h1) q
      | gone => exact q.elim
    | pen => exact q.elim
    | err _ _ _ => exact q.elim
    | err0 _ => exact q.elim
    | slo _ _ _ _ => exact q.elim
    | cls _ => exact q.elim
    | gt _ _ => exact q.elim
    | sct _ => exact q.elim)
def lstsD : List D → Option (List (List D))
  | [] => some []
  | .lst xs :: r => (lstsD r).map (xs :: ·)
  | _ => none
def intsD : List D → Option (List Int)
  | [] => some []
  | .int i :: r => (intsD r).map (i :: ·)
  | _ => none
@[reducible] def sumD : List D → W D
  | [.lst xs, .lst acc] => (match lstsD xs with
    | some yss => W.need ((acc ++ yss.flatten).length ≤ sizeLine) (W.ret (.lst (acc ++ yss.flatten)))
    | none => W.stuck)
  | _ => W.stuck
theorem lsts_rep {c : Cg} {al : List Addr} {F : Hp} : ∀ {vs : List V} {ds : List D} {yss : List (List D)}, RepL K c al F vs ds → lstsD ds = some yss → ∃ ws : List (Addr × List V), vs = ws.map (fun w => V.ref w.1) ∧ (∀ w ∈ ws, F w.1 = some (.lst w.2)) ∧ RepL K c al F (ws.flatMap (·.2)) yss.flatten
  | _, _, _, .nil, h => by cases h; exact ⟨[], rfl, (fun w z => nomatch z), .nil⟩
  | _, _, _, .cons (d := d) (ds := ds) a r, h => by
    cases a with
    | @lst b vs xs hf rf =>
      unfold lstsD at h
      cases e : lstsD ds with
      | none => rw [e] at h; cases h
      | some yss =>
        rw [e] at h; cases h
        obtain ⟨ws, h1, h2, h3⟩ := lsts_rep r e
        refine ⟨(b, vs) :: ws, by rw [h1]; rfl, fun w hw => ?_, by rw [List.flatMap_cons, List.flatten_cons]; exact rf.app h3⟩
        rcases List.mem_cons.mp hw with rfl | hw
        · exact hf
        · exact h2 w hw
    | _ => cases h
theorem lo_sum : LOn K (rSumL K) sumD := fun c w s vs xs Q E o r h => by
  unfold sumD at h
  split at h
  · rename_i xs acc
    obtain ⟨v, u, rfl, rv, ru⟩ := r.two
    cases rv with
    | @lst a vs ds hf rf =>
      cases ru with
      | @lst p us es hg rg =>
        cases e : lstsD xs with
        | none => rw [e] at h; exact h.elim
        | some yss =>
          rw [e] at h
          obtain ⟨ws, h1, h2, h3⟩ := lsts_rep rf e
          have hall := rg.app h3
          refine ⟨a, p, ws, us, rfl, by rw [← h1]; exact SqL.of (o.fro _ _ hf), fun w hw => o.fro _ _ (h2 w hw), o.fro _ _ hg, by rw [hall.len]; exact h.1, fun hws => ?_, fun hws q hq => ?_⟩
          · subst hws
            have e0 : yss.flatten = [] := List.eq_nil_of_length_eq_zero (by rw [← h3.len]; rfl)
            have h2 := h.2
            rw [e0, List.append_nil] at h2
            exact h2 _ (Go.refl ..) o _ (.lst hg rg)
          · obtain ⟨o2, g2⟩ := o.lay (o := .lst (us ++ ws.flatMap (·.2))) hq notOwn.1
            exact h.2 _ g2 o2 (.ref q) (.lst upd_same (hall.up g2.sub))
  · exact h.elim
theorem ints_rep {c : Cg} {al : List Addr} {F : Hp} : ∀ {vs : List V} {ds : List D} {ns : List Int}, RepL K c al F vs ds → intsD ds = some ns → vs = ns.map V.int
  | _, _, _, .nil, h => by cases h; rfl
  | _, _, _, .cons (d := d) (ds := ds) a r, h => by
    cases a with
    | int i =>
      unfold intsD at h
      cases e : intsD ds with
      | none => rw [e] at h; cases h
      | some ns => rw [e] at h; cases h; rw [ints_rep r e]; rfl
    | _ => cases h
@[reducible] def dLenSet (fa : List Sl → W D) : List Sl → W D := fun δ => (fa δ).bind fun x => match x with
  | .str y => W.need (y.cps.size < 4000) (W.ret (.int (uniq [] y.cps.toList).length))
  | _ => W.stuck
@[reducible] def dIS (f : List Sl → W D) : List Sl → W (List D) := fun δ => (f δ).bind fun d => match d with | .str x => W.ret (x.cps.toList.map fun c => D.str ⟨#[c]⟩) | _ => W.stuck
theorem li_str {te : XK → TE} {f : List Sl → W D} (he : LE K te f) : LI K (fun E => iStr (te E)) (dIS f) := fun c w s σ δ R E o sl h =>
  he c w s σ δ _ E o sl (h.bind.mono fun d w1 s1 g1 o1 p v r1 => by
    cases r1 with
    | str x =>
      refine ⟨x, rfl, p.ret o1 _ fun i w2 s2 l2 o2 => ⟨fun d hd => ?_, fun hl => ?_⟩⟩
      · rw [List.getElem?_map] at hd
        cases e : x.cps.toList[i]? with
        | none => rw [e] at hd; cases hd
        | some k =>
          rw [e] at hd; cases hd
          have e2 : x.cps[i]? = some k := by simpa using e
          refine ⟨(Array.getElem?_eq_some_iff.mp e2).1, fun y H3 hy => ?_⟩
          obtain ⟨rfl, c', hc', rfl⟩ := hy
          rw [e2] at hc'; cases hc'
          exact ⟨w2, rfl, Go.refl .., o2, .str _⟩
      · show x.cps.size ≤ i
        simpa using hl
    | _ => exact p.elim)
@[reducible] def reprD : List D → W D
  | [x] => match toP x with
    | some d => W.need (d.showable = true ∧ d.depth ≤ 60 ∧ d.hasDict = false ∧ d.shown.length ≤ sizeLine) (W.ret (.str d.shown))
    | none => W.stuck
  | _ => W.stuck
theorem lo_repr : LOn K (Lx.rRepr K) reprD := fun c w s vs xs Q E o r h => by
  unfold reprD at h
  split at h
  · obtain ⟨v, rfl, rv⟩ := r.one
    split at h
    · rename_i d e
      exact ⟨v, d, rfl, rv.dp o.fro e, h.1.1, h.1.2.1, h.1.2.2.1, h.1.2.2.2, h.2 _ (Go.refl ..) o _ (.str _)⟩
    · exact h.elim
  · exact h.elim
@[reducible] def powD : D → D → W D
  | .int i, .int j => W.need (CPow i j) (W.ret (.int (i ^ j.toNat)))
  | _, _ => W.stuck
theorem lo_pow : LO2 K (rI CPow fun i j => .int (i ^ j.toNat)) powD := fun c w s v u x y Q E o rx ry h => by
  cases rx with
  | int i => cases ry with
    | int j => exact ⟨i, j, rfl, rfl, h.1, h.2 _ (Go.refl ..) o _ (.int _)⟩
    | _ => exact h.elim
  | _ => exact h.elim
def rMulU : R2 := fun x y H Q => (∃ i j, x = .str i ∧ y = .int j ∧ PySem.MulOk i j ∧ Q (.str (Txt.mul i j)) H) ∨ (rI CMul fun i j => .int (i * j)) x y H Q
theorem op_mulS {X : Cx} : OpR X (binaryOp .Mult) (fun x y H Q => ∃ i j, x = .str i ∧ y = .int j ∧ PySem.MulOk i j ∧ Q (.str (Txt.mul i j)) H) := by
  intro pins s σ H x y u v Q I rx ry h
  obtain ⟨i, j, rfl, rfl, hm, q⟩ := h
  obtain ⟨t1, rfl⟩ := rx
  obtain ⟨t2, rfl⟩ := ry
  exact PySem.SB.mul hm fun t' k => ⟨.str (Txt.mul i j), H, I.tok k, ⟨t', rfl⟩, q⟩
theorem op_mulU {X : Cx} : OpR X (binaryOp .Mult) rMulU := op_mulS.or op_mul
@[reducible] def mulUD : D → D → W D
  | .str i, .int j => W.need (PySem.MulOk i j) (W.ret (.str (Txt.mul i j)))
  | .int i, .int j => W.need (CMul i j) (W.ret (.int (i * j)))
  | _, _ => W.stuck
theorem lo_mulU : LO2 K rMulU mulUD := fun c w s v u x y Q E o rx ry h => by
  cases rx with
  | int i => cases ry with
    | int j => exact .inr ⟨i, j, rfl, rfl, h.1, h.2 _ (Go.refl ..) o _ (.int _)⟩
    | _ => exact h.elim
  | str i => cases ry with
    | int j => exact .inl ⟨i, j, rfl, rfl, h.1, h.2 _ (Go.refl ..) o _ (.str _)⟩
    | _ => exact h.elim
  | _ => exact h.elim
end
@[reducible] def drawD : List D → W D
  | [.pen, .int m] => W.need (0 < m ∧ m < 1073741824) (W.any 1 fun d => ∃ i : Int, d = .int i ∧ 0 ≤ i ∧ i < m)
  | _ => W.stuck
def noTbl (F : Hp) : Hp := fun a => match F a with | some (.tbl _) => none | o => o
theorem noTbl_le {F H : Hp} (e : Le F H) : Le (noTbl F) H := fun a o h => by
  unfold noTbl at h
  split at h
  · cases h
  · exact e a o h
theorem noTbl_get {F : Hp} {a : Addr} {o : HO} (h : F a = some o) (nt : ∀ ps, o ≠ .tbl ps) : noTbl F a = some o := by
  unfold noTbl
  rw [h]
  split
  · rename_i ps e; cases e; exact absurd rfl (nt ps)
  · rfl
theorem noTbl_none {F : Hp} {a : Addr} (h : F a = none) : noTbl F a = none := by unfold noTbl; rw [h]
theorem noTbl_sq {K : PySem.W.Frag} {F : Hp} {a : Addr} {xs : List V} (h : SqL K F a xs) : SqL K (noTbl F) a xs := by
  rcases h with (h | ⟨o, h⟩) | h
  · exact .inl (.inl (noTbl_get h fun _ z => by cases z))
  · exact .inl (.inr ⟨o, noTbl_get h fun _ z => by cases z⟩)
  · exact .inr h
theorem draw_pure {K : PySem.W.Frag} {vs : List V} {H : Hp} {Q : VK} {E : XK} (h : Pr K 2 drawD vs H Q E) : Lx.Pr K 2 Lx.drawD vs H Q E := by
  obtain ⟨c, w, s, ds, rfl, o, r, dl, q⟩ := h
  match ds, r, q with
  | [.pen, .int m], r, q =>
    obtain ⟨v, u, rfl, rv, ru⟩ := r.two
    cases rv
    cases ru
    obtain ⟨hm, k, hk, q⟩ := q
    refine ⟨c.pn, w.F, [.pen, .int m], s.n, ⟨o.fro, o.fpn, o.pen⟩, .cons .pen (.cons (.int m) .nil), rfl, hm, k, hk, fun a ha v2 F' H' g' o' r' => ?_⟩
    obtain ⟨i, rfl, i0, i1⟩ := ha
    have np : ∀ {a : Addr} {u : HO}, w.H a = some u → (∀ l t lf, u ≠ .dK (Lx.penKvs l t lf)) → a ≠ c.pn := fun {a u} e n z => by
      subst z
      obtain ⟨l, cs, t, lf, hp, _⟩ := o.pen
      rw [e] at hp
      exact n l t lf (Option.some.inj hp)
    have na : ∀ a ∈ w.al, a ≠ c.pn := fun a z e => o.pna (e ▸ z)
    have same : ∀ a ∈ w.al, H' a = w.H a := fun a z => by
      cases q2 : w.H a with
      | none => exact absurd q2 (o.occ a z)
      | some u => exact g'.keep a u (na a z) q2
    have sb : Sub w.al w.F w.al (noTbl F') := ⟨List.prefix_refl _, fun a u e => noTbl_get (g'.sub a u e) fun ps z => o.ftb a ps (by rw [e, z])⟩
    have o2 : Ok K c ⟨w.al, noTbl F', H'⟩ ⟨k, s.st⟩ := by
      refine ⟨noTbl_le o'.fro, noTbl_none o'.fpn, o.pna, o.nd, o.len, fun a z => ?_, ?_, fun p hp => ?_, fun a ps e => ?_, fun a z ps => ?_, fun a z φ => ?_, fun j a m2 e1 e2 => ?_⟩
      · show H' a ≠ none
        rw [same a z]; exact o.occ a z
      · obtain ⟨l, cs, t, lf, h1, h2, h3⟩ := o'.pen
        exact ⟨l, cs, t, lf, h1, noTbl_sq h2, h3⟩
      · obtain ⟨ps, h1, h2, h3⟩ := o.tab p hp
        refine ⟨ps, g'.keep _ _ (np h1 fun _ _ _ z => by cases z) h1, h2, fun pos cv hc => ?_⟩
        obtain ⟨d, e1, e2⟩ := h3 pos cv hc
        exact ⟨d, e1, g'.keep _ _ (np e2 fun _ _ _ z => by unfold LamX.CodeO at z; cases z) e2⟩
      · have e : noTbl F' a = some (.tbl ps) := e
        unfold noTbl at e
        split at e
        · cases e
        · rename_i hn; exact hn ps e
      · show H' a ≠ _
        rw [same a z]; exact o.atb a z ps
      · show H' a ≠ _
        rw [same a z]; exact o.aco a z φ
      · have hm2 := List.mem_of_getElem? e1
        refine (o.sto j a m2 e1 e2).of sb (same a hm2) fun z => noTbl_none ?_
        cases q3 : F' a with
        | none => rfl
        | some u => exact absurd (g'.new a u q3 z) (o.occ a hm2)
    have g2 : Go c w ⟨w.al, noTbl F', H'⟩ := by
      refine ⟨fun a u n1 _ _ e => g'.keep a u n1 e, sb, fun a u e n => .inl (Wd.fre_none ?_), fun a z => .inl z⟩
      have e : noTbl F' a = some u := e
      cases q3 : F' a with
      | none => rw [noTbl_none q3] at e; cases e
      | some u2 => exact g'.new a u2 q3 n
    cases r'
    exact q (.int i) ⟨i, rfl, i0, i1⟩ _ g2 o2 _ (.int i)
end Ly
set_option maxHeartbeats 4000000
namespace Ly
open PySem PySem.Spec L2 PyProof.Rows He
open Lx (Le Ky vTy rEqU rNeU op_eqU op_neU)
section
variable {prog : Program} {w : World} {A : Around} {E : Value → Shared → Prop} {s : Shared} {K : PySem.W.Frag} {x C f L : Addr} {ox : Obj} {od : Option Obj} {b tb : Value} {h₀ : Heap} {m : Str → Option Value}
theorem ifBound_slot {M : Model} {name : Str} {id : String} {args : List Value} {Q : Option Value → Shared → Prop} (X : K.In s.heap) (I : PySem.W.InstAt s.heap x ox C od) (hs : PySem.W.findIn K (.ref C) name = some (some (.builtin id))) (S : Slot "object" name id)
    (h : wpAny M A (call (.builtin id) (.ref x :: args)) (fun v => Q (some v)) E s) : wpAny M A (callSpecialIfBound? (.ref x) name args) Q E s := by
  simp only [callSpecialIfBound?, bindSpecialIfBound?]
  refine wpAny_holding (wpAny_bind (wpAny_bind (wpAny_bind (I.type.here ((PySem.W.looks_findIn X hs).here ?_)))))
  refine wpAny_bind (wpAny_askSetting (wpAny_ite ?_))
  have last : wpAny M A (call (.builtin id) ([.ref x] ++ args) >>= fun v => pure (some v)) Q E s := wpAny_bind (wpAny_mono h (fun v s' h' => wpAny_pure h') fun _ _ h' => h')
  simp only [S.bind]
  split
  · exact wpAny_bind (wpAny_pure (wpAny_pure (by exact last)))
  · exact wpAny_tryCatch (wpAny_bind (wpAny_pure (wpAny_pure (by exact last))))
theorem ne_own {Q : Value → Shared → Prop} (hu : A.units + 1 < cLine) (F0 : Fr h₀ L s.heap m) (X₀ : K.In h₀) (I : PySem.W.InstAt s.heap x ox C od) (hb : PySem.W.Looks (model prog w) s.heap (typeOf b) tb) (hn : PySem.W.notFirst K C tb = true)
    (hne : PySem.W.findIn K (.ref C) "__ne__" = some (some (.builtin "object.__ne__"))) (hs : PySem.W.findIn K (.ref C) "__eq__" = some (some (.ref f))) (hf : PySem.W.isFn K (.ref f) = true) (ho : PySem.W.subIn K (.ref C) (.type "object") = some true)
    (h : wpAny (model prog w) A.in1 (call (.ref f) [.ref x, b]) (fun v s' => ∃ r, v = .bool r ∧ Q (.bool (!r)) s') E s) : wpAny (model prog w) A (richCompare .NotEq (.ref x) b) Q E s := by
  have X := X₀.keeps F0.keep
  have one : wpAny (model prog w) A (tryCompare (.ref x) "__ne__" b) (fun r s' => ∃ v, r = some v ∧ Q v s') E s := by
    unfold tryCompare
    refine wpAny_bind (ifBound_slot X I hne F.cmp_object.ne ?_)
    have sub : PySem.W.Looks (model prog w) s.heap (isInstance (.ref x) (.type "object")) true := I.type.andThen (PySem.W.looks_subIn X ho)
    refine wpAny_call (codeAny_call_builtin F.cmp_object.ne.plain F.cmpEntry_ne ?_)
    refine @PySem.W.check_slot (model prog w) _ _ s "object.__ne__" "object" "__ne__" (.ref x) [b] [] _ F.cmpKind_ne F.cmpSplit_ne sub (F.cmpArgs_ne _ _) ?_
    unfold Builtin.«object.__ne__»
    refine wpAny_bind (wpAny_of_eq (a := ((Value.ref x : Value), [b])) (by first | rfl | (simp only [slotArgs]; rfl)) ?_)
    refine wpAny_bind (wpAny_cRoomFor hu ?_)
    refine wpAny_bind (PySem.W.ifBound_K X I hs hf (wpAny_mono h (fun v s' hv => ?_) fun _ _ e => e))
    obtain ⟨r, rfl, q⟩ := hv
    refine wpAny_bind (wpAny_truthy_bool ?_)
    exact wpAny_pure (wpAny_pure ⟨_, rfl, q⟩)
  unfold richCompare
  simp only [oneThing_ref]
  refine wpAny_holding (wpAny_bind (wpAny_cRoomFor (Nat.lt_of_succ_lt hu) ?_))
  refine wpAny_bind (I.type.here (wpAny_bind (hb.here ?_)))
  split
  · rename_i q
    have e : PySem.W.subIn K tb (.ref C) = some false := by
      rcases Bool.or_eq_true_iff.mp hn with e | e
      · rw [beq_iff_eq.mp e] at q; simp at q
      · exact beq_iff_eq.mp e
    refine wpAny_bind ((PySem.W.looks_subIn X e).here ?_)
    simp only [Bool.false_eq_true, if_false]
    refine wpAny_bind (wpAny_mono one (fun r s' z => ?_) fun _ _ e => e)
    obtain ⟨v, rfl, hq⟩ := z
    exact wpAny_pure hq
  · refine wpAny_bind (wpAny_pure ?_)
    simp only [Bool.false_eq_true, if_false]
    refine wpAny_bind (wpAny_mono one (fun r s' z => ?_) fun _ _ e => e)
    obtain ⟨v, rfl, hq⟩ := z
    exact wpAny_pure hq
end
structure EEnt (X : Cx) (E : XK) (tys : List Ky) (cl : Str) (g : List D → W D) : Prop where
  ex : ∃ (CX : CXT) (k : Nat) (f : Addr) (fd : FuncData) (ps : List Str), Cls X.K (ga X.K cl) ∧ PySem.W.findIn X.K (.ref (ga X.K cl)) "__eq__" = some (some (.ref f)) ∧ PySem.W.isFn X.K (.ref f) = true ∧ PySem.W.findIn X.K (.ref (ga X.K cl)) "__ne__" = some (some (.builtin "object.__ne__")) ∧
    PySem.W.subIn X.K (.ref (ga X.K cl)) (.type "object") = some true ∧ (∀ t ∈ tys, PySem.W.notFirst X.K (ga X.K cl) (vTy X.K t) = true) ∧ FnOk X.prog X.w X.K X.mg X.base CX k f fd ps (Pr X.K 2 g) ∧ Room (k + 1) X.A ∧ Binds X.K fd ps [] ∧ Passes CX X E
inductive ETab (X : Cx) (E : XK) (tys : List Ky) : Tb → Prop
  | nil : ETab X E tys []
  | cons {cl : Str} {g : List D → W D} {tb : Tb} : EEnt X E tys cl g → ETab X E tys tb → ETab X E tys ((cl, g) :: tb)
theorem ETab.get {X : Cx} {E : XK} {tys : List Ky} {cl : Str} {g : List D → W D} : ∀ {tb : Tb}, ETab X E tys tb → tb.lookup cl = some g → EEnt X E tys cl g
  | _, .nil, h => by cases h
  | _, .cons (cl := d) a r, h => by
    rw [List.lookup_cons] at h
    cases q : (cl == d) with
    | true => rw [q] at h; cases h; rw [eq_of_beq q]; exact a
    | false => rw [q] at h; exact r.get h
def rOwn (K : PySem.W.Frag) (tb : Tb) (tys : List Ky) (E : XK) (neg : Bool) : R2 := fun x y H Q => ∃ a cl dx fs g t, x = .ref a ∧ H a = some (.ins (ga K cl) dx fs) ∧ tb.lookup cl = some g ∧ t ∈ tys ∧ TyX K H y (vTy K t) ∧
  Pr K 2 g [.ref a, y] H (fun v H' => ∃ b, v = .bl b ∧ Q (.bl (if neg then !b else b)) H') E
section
variable {X : Cx} {E : XK} {tb : Tb} {tys : List Ky}
theorem op_ownEq (T : ETab X E tys tb) : OpR X (compareOp .Eq) (rOwn X.K tb tys E false) := by
  intro pins s σ H x y u v Q I rx ry h
  obtain ⟨a, cl, dx, fs, g, t, rfl, ha, eg, ht, ty, q⟩ := h
  obtain rfl : u = Value.ref a := rx
  obtain ⟨CX, k, f, fd, ps, hC, h1, h2, h3, h4, h5, F, hr, hb, hx⟩ := (T.get eg).ex
  obtain ⟨P, Z, pz, nz⟩ := kit_of I ry ty
  obtain ⟨mA, J, _⟩ := ins_get I.hok ha
  obtain ⟨od, J, _⟩ := J.look
  obtain ⟨m, hF⟩ := I.fr
  show wpAny (model X.prog X.w) X.A (richCompare .Eq (.ref a) v) (EP X pins σ Q) X.xe s
  refine PySem.W.cmp_K (op := .Eq) (tb := vTy X.K t) hr.units0 hF I.ok.mod.kin J (Z.ty _ _ I.kIn pz) (h5 t ht) h1 h2 ?_
  have hl := F.len _ _ _ _ q
  have r2 : Vals [V.ref a, y] [Value.ref a, v] := .cons rfl (.cons ry .nil)
  have bd := hb s [.ref a, v] I.kIn (by simpa using hl)
  rw [List.append_nil] at bd
  refine wpAny_call (codeAny_mono (F.run X.A X.stack s H ⟨[.ref a, v], []⟩ [.ref a, v] [.ref a, y] _ E (hr.mono (Nat.le_succ _)) I.env0 bd r2 q) fun r s' hq => ?_)
  cases r with
  | error e => exact hx pins σ H s e s' I hq
  | ok fl =>
    cases fl with
    | ret w =>
      obtain ⟨z, H', I', rz, b, ez, q2⟩ := I.after hq
      subst ez
      cases rz
      exact ⟨.bl b, H', I', rfl, q2⟩
    | next => exact False.elim hq
    | brk => exact False.elim hq
    | cont => exact False.elim hq
theorem op_ownNe (T : ETab X E tys tb) : OpR X (compareOp .NotEq) (rOwn X.K tb tys E true) := by
  intro pins s σ H x y u v Q I rx ry h
  obtain ⟨a, cl, dx, fs, g, t, rfl, ha, eg, ht, ty, q⟩ := h
  obtain rfl : u = Value.ref a := rx
  obtain ⟨CX, k, f, fd, ps, hC, h1, h2, h3, h4, h5, F, hr, hb, hx⟩ := (T.get eg).ex
  obtain ⟨P, Z, pz, nz⟩ := kit_of I ry ty
  obtain ⟨mA, J, _⟩ := ins_get I.hok ha
  obtain ⟨od, J, _⟩ := J.look
  obtain ⟨m, hF⟩ := I.fr
  show wpAny (model X.prog X.w) X.A (richCompare .NotEq (.ref a) v) (EP X pins σ Q) X.xe s
  refine ne_own (tb := vTy X.K t) (by have := hr.units; omega) hF I.ok.mod.kin J (Z.ty _ _ I.kIn pz) (h5 t ht) h3 h1 h2 h4 ?_
  have hl := F.len _ _ _ _ q
  have r2 : Vals [V.ref a, y] [Value.ref a, v] := .cons rfl (.cons ry .nil)
  have bd := hb s [.ref a, v] I.kIn (by simpa using hl)
  rw [List.append_nil] at bd
  have e0 : Env0 X.prog X.w X.K X.mg X.base X.A.in1 X.stack s H := by
    have e := I.env0
    exact ⟨e.frames, e.mod, e.bs, e.bsz, e.funs, e.frf, e.hok, e.bare⟩
  refine wpAny_call (codeAny_mono (F.run X.A.in1 X.stack s H ⟨[.ref a, v], []⟩ [.ref a, v] [.ref a, y] _ E hr.in1 e0 bd r2 q) fun r s' hq => ?_)
  cases r with
  | error e => exact hx pins σ H s e s' I hq
  | ok fl =>
    cases fl with
    | ret w =>
      obtain ⟨z, H', I', rz, b, ez, q2⟩ := I.after hq
      subst ez
      cases rz
      exact ⟨b, rfl, .bl (!b), H', I', rfl, q2⟩
    | next => exact False.elim hq
    | brk => exact False.elim hq
    | cont => exact False.elim hq
end
@[reducible] def eqO (tb : Tb) (tys : List Ky) (neg : Bool) (x y : D) : W D := match x with
  | .obj cl _ => (match tb.lookup cl with
    | some g => (tyW y).bind fun t => W.need (t ∈ tys) (((g [x, y]).calm).bind fun v => (blD v).bind fun b => W.ret (.bl (if neg then !b else b)))
    | none => W.stuck)
  | _ => if neg then neD x y else eqD x y
def rEqO (K : PySem.W.Frag) (tb : Tb) (tys : List Ky) (neg : Bool) : R2 := fun x y H Q => (if neg then rNeU K x y H Q else rEqU K x y H Q) ∨ rOwn K tb tys E0 neg x y H Q
theorem op_eqO {X : Cx} {tb : Tb} {tys : List Ky} (hu : X.A.units + 64 < cLine) (T : ETab X E0 tys tb) : OpR X (compareOp .Eq) (rEqO X.K tb tys false) := (op_eqU hu).or (op_ownEq T)
theorem op_neO {X : Cx} {tb : Tb} {tys : List Ky} (hu : X.A.units + 64 < cLine) (T : ETab X E0 tys tb) : OpR X (compareOp .NotEq) (rEqO X.K tb tys true) := (op_neU hu).or (op_ownNe T)
theorem ty_of {K : PySem.W.Frag} {c : Cg} {w : Wd} {s : S} {v : V} {y : D} {A : Type} {f : Ky → W A} {Q : A → Wd → S → Prop} {E : Xn → Wd → S → Prop} (o : Ok K c w s) (r : Rep K c w.al w.F v y) (h : Den K c ((tyW y).bind f) w s Q E) :
    ∃ t, ((∀ cl, t = .c cl → Lx.OwnC K cl) → TyX K w.H v (vTy K t)) ∧ Den K c (f t) w s Q E := by
  cases r with
  | non => exact ⟨.t "NoneType", fun _ => .base .non, h⟩
  | bl b => exact ⟨.t "bool", fun _ => .base (.bl b), h⟩
  | int i => exact ⟨.t "int", fun _ => .base (.int i), h⟩
  | str x => exact ⟨.t "str", fun _ => .base (.str x), h⟩
  | lst a r => exact ⟨.t "list", fun _ => .base (.lst (o.fro _ _ a)), h⟩
  | tup a r =>
    refine ⟨.t "tuple", fun _ => ?_, h⟩
    rcases (SqT.of (o.fro _ _ a) : SqT K _ _ _) with (z | ⟨ob, z⟩) | ⟨ob, its, n', z, zc, _⟩
    · exact .base (.tup z)
    · exact .fTuple z
    · exact .kTuple z zc
  | dct a r => exact ⟨.t "dict", fun _ => .base (.dK (o.fro _ _ a)), h⟩
  | @obj a dx cl fs gs hf _ _ _ => exact ⟨.c cl, fun k => (k _ rfl).ok _ _ _ _ (o.fro _ _ hf), h⟩
  | @mu i a hi =>
    obtain ⟨mo, em, q⟩ := h
    have rm := o.sto i a mo hi em
    cases mo with
    | lst xs => obtain ⟨_, vs, h1, _⟩ := rm; exact ⟨.t "list", fun _ => .base (.lst h1), q⟩
    | dct xs => obtain ⟨_, vs, h1, _⟩ := rm; exact ⟨.t "dict", fun _ => .base (.dK h1), q⟩
    | ins cl gs => obtain ⟨_, dx, vs, h1, _⟩ := rm; exact ⟨.c cl, fun k => (k _ rfl).ok _ _ _ _ h1, q⟩
    | gone => exact q.elim
  | pen => exact h.elim
  | err _ _ _ => exact h.elim
  | err0 _ => exact h.elim
  | slo _ _ _ _ => exact h.elim
  | cls _ => exact h.elim
  | gt _ _ => exact h.elim
  | sct _ => exact h.elim
theorem lo_eqO {K : PySem.W.Frag} {tb : Tb} {tys : List Ky} {neg : Bool} (hown : ∀ cl, Ky.c cl ∈ tys → Lx.OwnC K cl) : LO2 K (rEqO K tb tys neg) (eqO tb tys neg) := fun c w s v u x y Q E o rx ry h => by
  have gen : (Den K c (if neg then neD x y else eqD x y) w s (qV K c Q) E) → rEqO K tb tys neg v u w.H Q := fun h => by
    refine .inl ?_
    cases neg with
    | true => exact lo_ne c w s v u x y Q E o rx ry h
    | false => exact lo_eq c w s v u x y Q E o rx ry h
  have rx0 := rx
  cases rx with
  | @obj a dx cl fs gs hf hC hn rf =>
    refine .inr ?_
    have h : Den K c (match tb.lookup cl with
      | some g => (tyW y).bind fun t => W.need (t ∈ tys) (((g [.obj cl gs, y]).calm).bind fun v => (blD v).bind fun b => W.ret (D.bl (if neg then !b else b)))
      | none => W.stuck) w s (qV K c Q) E := h
    cases e : tb.lookup cl with
    | none => rw [e] at h; exact h.elim
    | some g =>
      rw [e] at h
      obtain ⟨t, ty, ht, h⟩ := ty_of o ry h
      refine ⟨a, cl, dx, fs, g, t, rfl, o.fro _ _ hf, e, ht, ty fun k e2 => hown k (e2 ▸ ht), c, w, s, [.obj cl gs, y], rfl, o, .cons rx0 (.cons ry .nil), rfl, (Den.bind h).calm.mono fun d w1 s1 g1 o1 q v1 r1 => ?_⟩
      cases r1 with
      | bl b => exact ⟨b, rfl, q.ret o1 _ (.bl _)⟩
      | _ => exact q.elim
  | non => exact gen h
  | bl b => exact gen h
  | int i => exact gen h
  | str z => exact gen h
  | lst a r => exact gen h
  | tup a r => exact gen h
  | dct a r => exact gen h
  | pen => exact gen h
  | sct a => exact gen h
  | mu a => exact gen h
  | err a k r => exact gen h
  | err0 a => exact gen h
  | slo a b d r => exact gen h
  | cls a => exact gen h
  | gt a b => exact gen h
inductive TabE (P : Program) (w : World) (K : PySem.W.Frag) (mg : Str → Option Value) (base : Heap) (k : Nat) (tys : List Ky) : Tb → Prop
  | nil : TabE P w K mg base k tys []
  | cons {cl : Str} {g : List D → W D} {tb : Tb} {f : Addr} : Cls K (ga K cl) → PySem.W.findIn K (.ref (ga K cl)) "__eq__" = some (some (.ref f)) → PySem.W.isFn K (.ref f) = true → PySem.W.findIn K (.ref (ga K cl)) "__ne__" = some (some (.builtin "object.__ne__")) → PySem.W.subIn K (.ref (ga K cl)) (.type "object") = some true →
    (∀ t ∈ tys, PySem.W.notFirst K (ga K cl) (vTy K t) = true) → Fk P w K mg base k f (Pr K 2 g) → TabE P w K mg base k tys tb → TabE P w K mg base k tys ((cl, g) :: tb)
theorem TabE.et {X : Cx} {k : Nat} {tys : List Ky} {tb : Tb} (T : TabE X.prog X.w X.K X.mg X.base k tys tb) (hr : Room (k + 1) X.A) : ETab X E0 tys tb := by
  induction T with
  | nil => exact .nil
  | cons a b c d e f g _ ih =>
    obtain ⟨fd, ps, G, hb, hk⟩ := g.ex
    exact .cons ⟨_, _, _, _, _, a, b, c, d, e, f, G, hr, hb, px0⟩ ih
end Ly
namespace Ly
open PySem PySem.Spec L2 PyProof.Rows He
open Lx (Le)
section
variable {K : PySem.W.Frag}
@[reducible] def dNewL (f : List Sl → W (List D)) (i : Nat) : List Sl → W Out := fun δ => (f δ).bind fun xs => W.need (xs.length ≤ sizeLine) ((W.new (.lst xs)).bind fun j => W.ret (.nx (δ.set i (some (.mu j)))))
theorem ls_newL {t : XK → TA} {f : List Sl → W (List D)} {i : Nat} (ha : LA K t f) : LS K (fun E => tAsg (tLst (t E)) (gName i)) (dNewL f i) := fun c w s σ δ D E o sl q =>
  ha c w s σ δ _ E o sl (q.bind.mono fun xs w1 s1 g1 o1 p vs r1 => ⟨by rw [r1.len]; exact p.1, fun l hl => by
    obtain ⟨o2, g2⟩ := o1.add (p := l) (o := .lst vs) (mo := .lst xs) hl notOwn.1 notOwn.2 ⟨o1.free hl, vs, upd_same, r1.up ⟨⟨[l], rfl⟩, Le.refl _⟩⟩
    refine p.2 _ g2 o2 _ (((sl.go g1).go g2).set (.mu ?_))
    show (w1.al ++ [l])[s1.st.length]? = some l
    rw [← o1.len]; simp⟩)
@[reducible] def dApp (i : Nat) (f : List Sl → W D) : List Sl → W Out := fun δ => (dVar i δ).bind fun x => match x with
  | .mu j => (W.get j).bind fun o => (match o with
    | .lst _ => (f δ).bind fun y => (W.get j).bind fun o => (match o with
      | .lst xs => W.need (xs.length < sizeLine) ((W.put j (.lst (xs ++ [y]))).bind fun _ => W.ret (.nx δ))
      | _ => W.stuck)
    | _ => W.stuck)
  | _ => W.stuck
theorem ls_app {te : XK → TE} {f : List Sl → W D} {i : Nat} (he : LE K te f) : LS K (fun E => tDrop (tBM K "list" rAppend (tVar i) (tCons (te E) tNil))) (dApp i f) := fun c w s σ δ D E o sl q => by
  have q := q.bind
  unfold dVar at q
  cases e : δ[i]? with
  | none => rw [e] at q; exact (show False from q).elim
  | some x => cases x with
    | none => rw [e] at q; exact (show False from q).elim
    | some d =>
      rw [e] at q
      have q := Den.ret q o
      obtain ⟨v, hv, rv⟩ := sl.val i d e
      cases rv with
      | @mu j a hj =>
        obtain ⟨mo, em, q⟩ := q
        have rm := o.sto j a mo hj em
        cases mo with
        | lst xs0 =>
          obtain ⟨hF0, vs0, h0, _⟩ := rm
          refine ⟨.ref a, hv, .inl ⟨rfl, vs0, SqL.of h0⟩, he c w s σ δ _ E o sl ((Den.bind q).mono fun y w1 s1 g1 o1 p u ru => ?_)⟩
          obtain ⟨mo1, em1, p⟩ := p
          have hj1 := g1.sub.at hj
          have rm1 := o1.sto j a mo1 hj1 em1
          cases mo1 with
          | lst xs =>
            obtain ⟨hF, vs, h1, rl⟩ := rm1
            obtain ⟨p1, p2⟩ := p
            refine ⟨a, vs, u, rfl, rfl, h1, by rw [rl.len]; exact p1, ?_⟩
            obtain ⟨o2, g2⟩ := o1.ch (p := a) (o := .lst (vs ++ [u])) (mo := .lst (xs ++ [y])) hj1 hF notOwn.1 notOwn.2 ⟨hF, _, upd_same, rl.app (.cons ru .nil)⟩
            exact p2 _ g2 o2 σ ((sl.go g1).go g2)
          | _ => exact p.elim
        | _ => exact q.elim
      | _ => exact (show False from q).elim
@[reducible] def iceD (i : Nat) : List Sl → W (List Sl) := fun δ => match δ[i]? with
  | some (some (.mu j)) => (W.get j).bind fun o => (match o with
    | .lst xs => (W.put j .gone).bind fun _ => W.ret (δ.set i (some (.lst xs)))
    | _ => W.stuck)
  | _ => W.ret δ
theorem ls_ice {ts : XK → TS} {g : List Sl → W Out} (i : Nat) (h : LS K ts g) : LS K ts (fun δ => (iceD i δ).bind g) := fun c w s σ δ D E o sl q => by
  have q := q.bind
  unfold iceD at q
  split at q
  · rename_i j e
    obtain ⟨mo, em, q⟩ := q
    obtain ⟨v, hv, rv⟩ := sl.val i _ e
    cases rv with
    | @mu _ a hj =>
      have rm := o.sto j a mo hj em
      cases mo with
      | lst xs =>
        obtain ⟨hF, vs, h1, rl⟩ := rm
        obtain ⟨o2, g2⟩ := o.ice hj hF h1
        have sl2 := (sl.go g2).set (i := i) (v := .ref a) (d := .lst xs) (.lst upd_same (rl.up g2.sub))
        have e1 : σ.set i (some (.ref a)) = σ := by
          apply List.ext_getElem?
          intro k
          by_cases hk : k = i
          · subst hk
            rw [List.getElem?_set_self (List.getElem?_eq_some_iff.mp hv).1, hv]
          · rw [List.getElem?_set_ne (Ne.symm hk)]
        rw [e1] at sl2
        exact h c ⟨w.al, upd w.F a (.lst vs), w.H⟩ ⟨s.n, s.st.set j .gone⟩ σ _ D E o2 sl2 (q ⟨w.al, upd w.F a (.lst vs), w.H⟩ g2 o2)
      | _ => exact q.elim
  · exact h c w s σ δ D E o sl (Den.ret q o)
end
def pick {α : Type} (is : List Nat) (zs : List α) : List α := is.filterMap fun i => zs[i]?
theorem vals_pick : ∀ (is : List Nat) {zs : List V} {ws : List Value}, Vals zs ws → Vals (pick is zs) (pick is ws)
  | [], _, _, _ => .nil
  | i :: is, zs, ws, r => by
    unfold pick
    rw [List.filterMap_cons, List.filterMap_cons]
    cases e : zs[i]? with
    | none => rw [r.none_of e]; exact vals_pick is r
    | some z => obtain ⟨u, hu, ru⟩ := r.get e; rw [hu]; exact .cons ru (vals_pick is r)
theorem RepL.pick {K : PySem.W.Frag} {c : Cg} {al : List Addr} {F : Hp} : ∀ (is : List Nat) {vs : List V} {ds : List D}, RepL K c al F vs ds → RepL K c al F (pick is vs) (pick is ds)
  | [], _, _, _ => .nil
  | i :: is, vs, ds, r => by
    unfold Ly.pick
    rw [List.filterMap_cons, List.filterMap_cons]
    cases e : ds[i]? with
    | none =>
      have : vs[i]? = none := by
        rw [List.getElem?_eq_none_iff] at e ⊢
        rw [r.len]; exact e
      rw [this]; exact RepL.pick is r
    | some d => obtain ⟨v, hv, rv⟩ := r.get e; rw [hv]; exact .cons rv (RepL.pick is r)
section
variable {X : Cx} {E : XK} {k : Nat} {f C : Addr} {sp : Sp} {x : Str} {p pos : Pos} {e : Expr} {es : List Expr} {t : TA}
theorem pe_mk (M : Mk X.K C f) (F : Fk X.prog X.w X.K X.mg X.base k f sp) (hr : Room (k + 1) X.A) (hx : Passes (L2.CX X.prog X.w) X E) (hg : Gl X x) (hm : X.mg x = some (.ref C)) (ha : PA X (e :: es) t)
    (hdb : (x == ("__debug__" : Str)) = false := by decide) (he : starEach (e :: es) X.env = (false, eval e X.env) :: starEach es X.env := by rfl) (hpl : (backTo pos (starEach es X.env)).any (·.1) = false := by rfl) :
    PE X (.Call (.Name x p) (e :: es) [] pos) (tMake C sp [] E t) := by
  obtain ⟨fd, ps, G, hb, hk⟩ := F.ex
  exact pe_make M G hr hg hm hb .nil hx ha hdb he hpl
end
theorem FunD.code {K : PySem.W.Frag} {x qual : Str} {params : Arguments} {body : List Stmt} {scope : Scope} {dvs : List V} {kws : List (Str × V)} {f : Addr} {fd : FuncData} (F : FunD K x qual params body scope dvs kws f fd) : fd.code = .ref (coA K f) := by
  obtain ⟨oc, od, dV, kV, doc, pm, an, cdv, ct, osl, rfl, lk, hcd, _, _⟩ := F.ex
  cases cdv with
  | ref c =>
    unfold coA
    rw [lk]
  | _ => cases hcd
section
variable {P : Program} {w : World} {K : PySem.W.Frag} {mg : Str → Option Value} {base : Heap} {x qual : Str} {params : Arguments} {body : List Stmt} {scope : Scope} {dvs : List V} {kws : List (Str × V)} {f : Addr} {fd : FuncData}
theorem fnG_ofC {CX : CXT} {N ps : List Str} {k : Nat} {sp : Sp} (F : FunD K x qual params body scope dvs kws f fd) (S : FnScope N ps scope) (len : ∀ vs H Q E, sp vs H Q E → vs.length = ps.length)
    (hb : ∀ (cdv : Value) (A : Around) (outer : List Env) (s : Shared) (H : Hp) (vs : List V) (Q : VK) (E : XK), cdv = .ref (coA K f) → (A.deeper (envOfC qual scope s.heap.objs.size f cdv)).guards = some [] → Room k (A.deeper (envOfC qual scope s.heap.objs.size f cdv)) → sp vs H Q E →
      ∃ t, PSs (cxOf CX P w K mg base N qual scope f cdv A outer s H E) body t ∧ t { nx := fun _ H' => Q .non H', rt := Q } (L2.start N vs) H) : Lx.FnG P w K mg base CX (k + 1) f fd ps sp := by
  refine ⟨len, fun A outer s H args us vs Q E hg hr he hbd hv hs => ?_⟩
  have hco := FunD.code F
  obtain ⟨oc, od, dV, kV, doc, pm, an, cdv, ct, osl, rfl, lk, hcd, _, _⟩ := F.ex
  have hl := len _ _ _ _ hs
  have st : ∀ b o, base.get? b = some o → s.heap.get? b = some o := fun b o e => (he.bs b o e).1
  have KX : K.In s.heap := he.mod.kin.keeps st
  have kinds : ∀ y ∈ ps.zip us, scope.names.lookup y.1 = some .local ∨ (scope.names.lookup y.1 = some .cell ∧ ((cellsFrom (s.heap.objs.size + 1) scope.names []).lookup y.1).isSome = true) := fun y hy => by
    have hm := (List.of_mem_zip (a := y.1) (b := y.2) hy).1
    exact (S.par y.1 hm).imp id fun q => ⟨q, PySem.W.cellsFrom_some _ _ _ (.inl q)⟩
  refine codeAny_call_function hr.depth (KX _ _ lk) rfl S.co S.gen rfl (PySem.W.codeRec_of KX hcd) (hbd _ _ _ _ (wpAny_newFunctionEnv_cells S.kind kinds fun env ee s1 ic => ?_))
  subst ee
  refine ⟨(he.mod.nolimit.keeps st).keeps ic.toInCall.keep, codeAny_func ?_⟩
  obtain ⟨t, ht, hq⟩ := hb cdv A outer s H vs Q E hco hg (hr.deeper _) hs
  have I := inv_start (CX := CX) (E := E) S hr.hd he hl hv ic
  refine wpAny_mono (ht.run [] s1 (L2.start N vs) H _ I hq) (fun fl s2 h2 => ?_) fun _ _ z => z
  cases fl with
  | ret u => obtain ⟨v, σ2, H2, J, rv, q⟩ := h2; exact ⟨v, H2, J.os, J.bare, J.base, J.hok, rv, q⟩
  | next => obtain ⟨σ2, H2, J, q⟩ := h2; exact ⟨.non, H2, J.os, J.bare, J.base, J.hok, rfl, q⟩
  | brk => obtain ⟨_, _, _, q⟩ := h2; exact False.elim q
  | cont => obtain ⟨_, _, _, q⟩ := h2; exact False.elim q
theorem fnG_lyC {N ps : List Str} {k : Nat} {t : XK → TS} {b : List Sl → W Out} (F : FunD K x qual params body scope dvs kws f fd) (S : FnScope N ps scope) (hl : LS K t b)
    (hb : ∀ (cdv : Value) (A : Around) (outer : List Env) (s : Shared) (H : Hp) (E : XK), cdv = .ref (coA K f) → (A.deeper (envOfC qual scope s.heap.objs.size f cdv)).guards = some [] → Room k (A.deeper (envOfC qual scope s.heap.objs.size f cdv)) → Tk (cxOf (L2.CX P w) P w K mg base N qual scope f cdv A outer s H E) E → PSs (cxOf (L2.CX P w) P w K mg base N qual scope f cdv A outer s H E) body (t E)) :
    Lx.FnG P w K mg base (L2.CX P w) (k + 1) f fd ps (Pr K ps.length (dBody N b)) :=
  fnG_ofC F S Pr.len fun cdv A outer s H vs Q E hc hg hr h => ⟨t E, hb cdv A outer s H E hc hg hr tk_of, body_ly hl h⟩
end
end Ly
namespace Ly
open PySem PySem.Spec L2 PyProof.Rows He
open PySem.W (Looks readsIn findIn subIn clsIn isFn looks_findIn looks_subIn looks_clsIn looks_typeIn looks_opaque looks_hook check_slot)
section
variable {prog : Program} {w : World} {A : Around} {E : Value → Shared → Prop} {s : Shared} {K : PySem.W.Frag}
theorem miss_cls {C : Addr} {name : Str} {t : Tok} {Q : Option Value → Shared → Prop} (hh : A.handled = none) (X : K.In s.heap) (hm : missB K C name = true)
    (h : ∀ h' tk, (∀ b o, s.heap.get? b = some o → h'.get? b = some o) → Q none { s with heap := h', toks := tk }) : wpAny (model prog w) A (getAttrBy? (.ref C) (.str name t)) Q E s := by
  unfold missB at hm
  simp only [Bool.and_eq_true, beq_iff_eq] at hm
  obtain ⟨_, hr, e1, e2, hm⟩ := hm
  cases hc : clsIn K C with
  | none => rw [hc] at hm; cases hm
  | some cd =>
    rw [hc] at hm
    simp only [Bool.and_eq_true, decide_eq_true_eq] at hm
    obtain ⟨n1, n2⟩ := hm
    simp only [readsIn, Bool.and_eq_true, beq_iff_eq] at hr
    obtain ⟨⟨⟨⟨a, b⟩, c'⟩, d⟩, f⟩ := hr
    obtain ⟨hk, d⟩ := Option.isSome_iff_exists.mp d
    have ht : Looks (model prog w) s.heap (typeOf (.ref C)) (.type "type") := looks_typeIn X b
    have hb := looks_hook (M := model prog w) X d
    have ho := looks_opaque (M := model prog w) (C := C) X a
    unfold getAttrBy?
    refine wpAny_bind (wpAny_attempt (wpAny_holding (wpAny_bind (ht _ _ _ _ (fun _ _ e => e) (wpAny_bind (looks_findIn X c' _ _ _ _ (fun _ _ e => e) ?_))))))
    dsimp only
    rw [show (onTheHeap (Value.type "type") && Value.builtin "type.__getattribute__" == Value.builtin "object.__getattribute__") = false from rfl, if_neg (by decide)]
    unfold getAttrByItsOwn
    refine wpAny_bind (hb _ _ _ _ (fun _ _ e => e) (wpAny_bind (wpAny_attempt (wpAny_holding ?_))))
    unfold callGetattribute
    rw [show (false && onTheHeap (Value.builtin "type.__getattribute__")) = false from rfl, if_neg (by decide)]
    unfold boundAndCalled
    rw [PySem.W.KF.slot_tga.bind]
    refine wpAny_bind (wpAny_pure ?_)
    show wpAny _ _ (call (.builtin "type.__getattribute__") [.ref C, .str name t]) _ _ _
    refine wpAny_call ?_
    refine codeAny_call_builtin PySem.W.KF.slot_tga.plain PySem.W.KF.entry_tga ?_
    refine @check_slot (model prog w) _ _ s "type.__getattribute__" "type" "__getattribute__" (.ref C) [.str name t] [] _ (by decide +kernel) (by decide +kernel) (ht.andThen (looks_subIn X f)) (PySem.W.KF.args_tga (.ref C) (.str name t)) ?_
    obtain ⟨hp, g, dd, tt, os⟩ := s
    dsimp only at X ho ht
    unfold Builtin.«type.__getattribute__»
    refine wpAny_bind (wpAny_pure (wpAny_bind (ho.at (wpAny_bind (ht.at (wpAny_bind ((looks_findIn X e1).at ?_)))))))
    refine wpAny_bind (wpAny_pure ?_)
    refine wpAny_bind ((looks_findIn X e2).at ?_)
    dsimp only
    refine wpAny_bind (wpAny_rule ?_)
    unfold typeNameCut
    dsimp only
    refine wpAny_bind (wpAny_bind ((looks_clsIn X hc).at ?_))
    rw [if_pos n1]
    refine wpAny_pure ?_
    unfold raiseErrorStr
    refine wpAny_bind (wpAny_mkStr (wpAny_bind ?_) n2)
    unfold newExc newTuple
    refine wpAny_bind (wpAny_newObj_type ?_ (by size_fits))
    refine wpAny_bind (m := firstArgMember _ _) (wpAny_of_eq (a := Value.none) (by unfold firstArgMember; rfl) ?_)
    refine wpAny_newObj_type ?_ (by size_fits)
    unfold raiseNew
    refine wpAny_bind (wpAny_handled ?_)
    rw [show A.in1.handled = none from hh]
    refine wpAny_bind (wpAny_pure (wpAny_throw ?_))
    have hT : ({ heap := ((hp.push { cls := .type "tuple", data := .seq #[.str ((s!"type object '{cd.name.toString}' has no attribute '" : Str) ++ name ++ "'") tt] }).push { cls := .type "AttributeError", data := .fields #[.ref hp.objs.size, .none, .none, .none, .bool false, .none, unsetMember, unsetMember] }), gens := g, drawn := dd, toks := tt + 1, os := os } : Shared).TypeIs (.ref (hp.push { cls := .type "tuple", data := .seq #[.str ((s!"type object '{cd.name.toString}' has no attribute '" : Str) ++ name ++ "'") tt] }).objs.size) "AttributeError" := ⟨_, Heap.get?_push_size _ rfl, rfl⟩
    have is1 : isSubtype (.type "AttributeError") (.type "AttributeError") = pure true := by rw [isSubtype_type]; kernel_rfl
    unfold getattributeRaised
    refine wpAny_bind (wpAny_isInstance hT is1 ?_)
    rw [if_pos rfl]
    unfold hookBehind
    rw [if_neg (show ¬ onTheHeap (Value.type "type") = true by decide)]
    refine wpAny_bind (wpAny_of_eq (a := none) (by rw [typeLookup_type, builtinLookup_eq_fast]; kernel_rfl) ?_)
    unfold hookOrError attributeErrorLeaves
    dsimp only
    rw [if_pos (by decide)]
    refine wpAny_throw ?_
    refine wpAny_bind (wpAny_isInstance hT is1 ?_)
    rw [if_pos rfl]
    refine wpAny_pure (h _ _ fun b o hb => ?_)
    exact Heap.get?_push_of_some _ (Heap.get?_push_of_some _ hb)
theorem looks_fills {M : Model} {C f : Addr} {nm : String} (X : K.In s.heap) (h : opB K C f nm = true) : Looks M s.heap (fillsNumberSlot (.ref C) nm) true := by
  unfold opB at h
  simp only [Bool.and_eq_true, beq_iff_eq] at h
  obtain ⟨h1, h2, h3⟩ := h
  cases hc : clsIn K C with
  | none => rw [hc] at h3; cases h3
  | some cd =>
    rw [hc] at h3
    obtain ⟨cm, hm⟩ : ∃ r, cd.mro = .ref C :: r := by
      have h3 := eq_of_beq h3
      cases e : cd.mro with
      | nil => rw [e] at h3; cases h3
      | cons a r => rw [e] at h3; cases h3; exact ⟨r, rfl⟩
    intro A Q E s' e q
    unfold fillsNumberSlot mroOf
    refine wpAny_bind (wpAny_bind ((looks_clsIn X hc) A _ E s' e (wpAny_pure ?_)))
    rw [hm]
    unfold List.anyM
    refine wpAny_bind ?_
    dsimp only
    unfold List.anyM
    refine wpAny_bind (wpAny_bind ((looks_findIn X h1) A _ E s' e ?_))
    refine wpAny_bind (wpAny_pure ?_)
    exact wpAny_pure (wpAny_pure (wpAny_pure q))
theorem looks_numPy {M : Model} {C f : Addr} {nm : String} (X : K.In s.heap) (h : opB K C f nm = true) : Looks M s.heap (numberSlotInPython (.ref C) nm) true := by
  unfold opB at h
  simp only [Bool.and_eq_true, beq_iff_eq] at h
  obtain ⟨h1, h2, h3⟩ := h
  intro A Q E s' e q
  unfold numberSlotInPython
  refine wpAny_bind ((looks_findIn X h1) A _ E s' e (wpAny_bind (wpAny_pure ?_)))
  refine wpAny_bind ((looks_findIn X h2) A _ E s' e (wpAny_bind (wpAny_pure ?_)))
  rw [if_pos (show (true || false) = true from rfl)]
  exact wpAny_pure q
theorem binop_own {op : Operator} {nm : String} {C D f f2 x : Addr} {b : Value} {Q : Value → Shared → Prop} (hop : op.info.2 = nm) (hh : A.handled = none) (X : K.In s.heap) (It : Looks (model prog w) s.heap (typeOf (.ref x)) (.ref C)) (hb : Looks (model prog w) s.heap (typeOf b) (.ref D))
    (hC : opB K C f nm = true) (hD : opB K D f2 nm = true) (hR : rightB K C D nm = true) (hf : isFn K (.ref f) = true)
    (h : ∀ h' tk, (∀ b o, s.heap.get? b = some o → h'.get? b = some o) → wpAny (model prog w) A (call (.ref f) [.ref x, b]) (PySem.W.CmpBack Q) E { s with heap := h', toks := tk }) : wpAny (model prog w) A (binaryOp op (.ref x) b) Q E s := by
  have h1 : findIn K (.ref C) (dunder nm) = some (some (.ref f)) := by
    unfold opB at hC
    simp only [Bool.and_eq_true, beq_iff_eq] at hC
    exact hC.1
  -- the method's call, at any later state
  have one : ∀ h' tk, (∀ b o, s.heap.get? b = some o → h'.get? b = some o) → wpAny (model prog w) A (tryMethod (.ref x) (dunder nm) b) (fun r s' => ∃ v, r = some v ∧ Q v s') E { s with heap := h', toks := tk } := by
    intro h' tk hk
    have X' : K.In h' := X.keeps hk
    unfold tryMethod callSpecial? specialOf
    refine wpAny_bind (wpAny_bind (wpAny_bind ((It.keeps hk).here ((looks_findIn X' h1).here ?_))))
    dsimp only
    refine wpAny_holding (wpAny_bind ((PySem.W.bind_fn X' _ (beq_iff_eq.mp hf)).here (wpAny_bind (wpAny_mono (h h' tk hk) (fun v s' hv => wpAny_pure ?_) fun _ _ e => e))))
    cases v <;> first | exact hv.elim | exact wpAny_pure ⟨_, rfl, hv⟩
  have L1 := looks_fills (M := model prog w) X hC
  have L2 := looks_fills (M := model prog w) X hD
  have N1 := looks_numPy (M := model prog w) X hC
  have N2 := looks_numPy (M := model prog w) X hD
  have fin : ∀ h' tk, (∀ b o, s.heap.get? b = some o → h'.get? b = some o) → wpAny (model prog w) A (tryMethod (.ref x) (dunder nm) b) (fun r s' => ∃ v, r = some v ∧ Q v s') E { s with heap := h', toks := tk } := one
  unfold binaryOp
  refine wpAny_holding ?_
  rw [show op.info = (op.info.1, nm) from by rw [← hop]]
  dsimp only
  refine wpAny_bind ?_
  unfold binaryOp1
  dsimp only
  refine wpAny_bind (It.here (wpAny_bind (hb.here (wpAny_bind (L1.here ?_)))))
  unfold rightB at hR
  simp only [Bool.or_eq_true, Bool.and_eq_true, beq_iff_eq] at hR
  have hR : D = C ∨ D ≠ C ∧ (subIn K (.ref D) (.ref C) = some false ∨ (subIn K (.ref D) (.ref C) = some true ∧ missB K D (dunderR nm) = true)) := by
    by_cases e : D = C
    · exact .inl e
    · exact .inr ⟨e, hR.resolve_left e⟩
  rcases hR with rfl | ⟨ne, hR | ⟨hR, hM⟩⟩
  · rw [if_pos (by simp)]
    refine wpAny_bind (wpAny_pure ?_)
    simp only [Bool.and_false, Bool.false_and, Bool.true_and, Bool.and_self, Bool.not_false, Bool.not_true, Bool.false_eq_true, ↓reduceIte, pure_bind]
    refine wpAny_bind (wpAny_mono (one _ _ fun _ _ e => e) (fun r s' z => ?_) fun _ _ e => e)
    obtain ⟨v, rfl, q⟩ := z
    exact wpAny_pure (wpAny_pure q)
  · rw [if_neg (by simp only [beq_iff_eq]; exact fun z => ne (Value.ref.inj z).symm)]
    refine wpAny_bind (L2.here ?_)
    simp only [Bool.and_false, Bool.false_and, Bool.true_and, Bool.and_self, Bool.not_false, Bool.not_true, Bool.false_eq_true, ↓reduceIte, pure_bind]
    refine wpAny_bind ((looks_subIn X hR).here ?_)
    simp only [Bool.and_false, Bool.false_and, Bool.true_and, Bool.and_self, Bool.not_false, Bool.not_true, Bool.false_eq_true, ↓reduceIte, pure_bind]
    refine wpAny_bind (N1.here ?_)
    simp only [↓reduceIte]
    refine wpAny_bind (N2.here ?_)
    simp only [Bool.not_false, Bool.not_true, Bool.false_eq_true, ↓reduceIte]
    refine wpAny_bind (wpAny_mono (one _ _ fun _ _ e => e) (fun r s' z => ?_) fun _ _ e => e)
    obtain ⟨v, rfl, q⟩ := z
    exact wpAny_pure (wpAny_pure q)
  · rw [if_neg (by simp only [beq_iff_eq]; exact fun z => ne (Value.ref.inj z).symm)]
    refine wpAny_bind (L2.here ?_)
    simp only [Bool.and_false, Bool.false_and, Bool.true_and, Bool.and_self, Bool.not_false, Bool.not_true, Bool.false_eq_true, ↓reduceIte, pure_bind]
    refine wpAny_bind ((looks_subIn X hR).here ?_)
    simp only [Bool.and_false, Bool.false_and, Bool.true_and, Bool.and_self, Bool.not_false, Bool.not_true, Bool.false_eq_true, ↓reduceIte, pure_bind]
    refine wpAny_bind ?_
    unfold reflectedDiffers
    dsimp only
    refine wpAny_bind (N1.here ?_)
    simp only [Bool.not_false, Bool.not_true, Bool.false_eq_true, ↓reduceIte]
    refine wpAny_bind (N2.here ?_)
    simp only [Bool.not_false, Bool.not_true, Bool.false_eq_true, ↓reduceIte]
    have hl : (dunderR nm).length ≤ sizeLine := by
      unfold missB at hM
      simp only [Bool.and_eq_true, decide_eq_true_eq] at hM
      exact hM.1
    refine wpAny_bind (wpAny_mkStr ?_ hl)
    refine wpAny_bind (miss_cls hh X hM fun h' tk hk => ?_)
    refine wpAny_pure ?_
    simp only [Bool.and_false, Bool.false_and, Bool.true_and, Bool.and_self, Bool.not_false, Bool.not_true, Bool.false_eq_true, ↓reduceIte, pure_bind]
    refine wpAny_bind (((N1.keeps hk)).here ?_)
    simp only [↓reduceIte]
    refine wpAny_bind ((N2.keeps hk).here ?_)
    simp only [Bool.not_false, Bool.not_true, Bool.false_eq_true, ↓reduceIte]
    refine wpAny_bind (wpAny_mono (one _ _ hk) (fun r s' z => ?_) fun _ _ e => e)
    obtain ⟨v, rfl, q⟩ := z
    exact wpAny_pure (wpAny_pure q)
end
end Ly
namespace Ly
open PySem PySem.Spec L2 PyProof.Rows He
open Lx (Le Ky vTy Fm DefM FnM fnM eqB)
section
variable {K : PySem.W.Frag}
theorem fy_nf {cs : List Str} {ts : List Ky} (h : (Fy.nf cs ts).ok K = true) {x : Str} (hx : x ∈ cs) : ∀ t ∈ ts, PySem.W.notFirst K (ga K x) (vTy K t) = true := fun t ht => List.all_eq_true.mp (List.all_eq_true.mp h x hx) t ht
theorem fy_eq {x y : Str} (h : (Fy.eq x y).ok K = true) : PySem.W.findIn K (.ref (ga K x)) "__eq__" = some (some (.ref (ma K (ga K y) "__eq__"))) ∧ PySem.W.isFn K (.ref (ma K (ga K y) "__eq__")) = true ∧ PySem.W.findIn K (.ref (ga K x)) "__ne__" = some (some (.builtin "object.__ne__")) ∧ PySem.W.subIn K (.ref (ga K x)) (.type "object") = some true := by
  obtain ⟨h1, h⟩ := ba h
  obtain ⟨h2, h⟩ := ba h
  obtain ⟨h3, h4⟩ := ba h
  exact ⟨eqO_ok h1, h2, eqO_ok h3, of_decide_eq_true h4⟩
end
theorem obsYG_eq {n : Nat} {file : Str} {fa : List Fy} {fn : List DefM} {g : Addr → Option Obj} {s : Shared} (h : ∀ a, g a = s.heap.get? a) : obsYG n file fa fn g = (hookY n file fa fn).obs s := by
  have e : g = s.heap.get? := funext h
  rw [e] <;> rfl
section
variable {file : Str} {fa : List Fy} {fn : List DefM} {K : PySem.W.Frag}
theorem SaysY.fact (c : SaysY file fa fn K) {f : Fy} (i : Nat) (h : fa[i]? = some f) : f.ok K = true := List.all_eq_true.mp c.fa f (List.mem_of_getElem? h)
theorem SaysY.fm (c : SaysY file fa fn K) {f : Fm} (i : Nat) (h : fa[i]? = some (.m f)) : f.ok K = true := c.fact i h
theorem SaysY.def_ (c : SaysY file fa fn K) (i : Nat) {d : DefM} (h : fn[i]? = some d) : fnM K (d.at_.a K) = d.val ∧ d.ok K file = true := by
  have e2 : (fn.map fun d => fnM K (d.at_.a K))[i]? = (fn.map DefM.val)[i]? := by rw [c.fn]
  rw [List.getElem?_map, List.getElem?_map, h] at e2
  exact ⟨Option.some.inj e2, List.all_eq_true.mp c.ok d (List.mem_of_getElem? h)⟩
end
def spLaw (K : PySem.W.Frag) : Sp := fun vs H Q _ => ∃ (a : Addr) (ns : List Int), vs = [.ref a] ∧ SqL K H a (ns.map V.int) ∧ (∀ p ∈ tabsOf K, H p.1 = some (.tbl #[])) ∧ ∀ H', Q (.bl true) H'
theorem law_ly {P : Program} {w : World} {K : PySem.W.Frag} {mg : Str → Option Value} {base : Heap} {x qual : Str} {params : Arguments} {body : List Stmt} {scope : Scope} {f : Addr} {fd : FuncData} {N ps : List Str} {k r : Nat} {t : XK → TS} {b : List Sl → W Out}
    (F : FunD K x qual params body scope [] [] f fd) (S : FnScope N ps scope) (hps : ps.length = 1) (hN : N.length = r + 2) (hl : LS K t b)
    (hb : ∀ (cdv : Value) (A : Around) (outer : List Env) (s : Shared) (H : Hp) (E : XK), cdv = .ref (coA K f) → (A.deeper (envOfC qual scope s.heap.objs.size f cdv)).guards = some [] → Room k (A.deeper (envOfC qual scope s.heap.objs.size f cdv)) → Tk (cxOf (L2.CX P w) P w K mg base N qual scope f cdv A outer s H E) E →
      PSs (cxOf (L2.CX P w) P w K mg base N qual scope f cdv A outer s H E) body (tSeq (tAsg (tCall (Lx.spPen K) [] E (tCons (tVar 0) tNil)) (gName 1)) (t E)))
    (hw : ∀ ns : List Int, (b (some (.sct ns) :: some .pen :: List.replicate r none)).wp ⟨2 ^ 60, []⟩ (fun _ o => o = .rt (.bl true)) (fun _ _ => False)) : Lx.FnG P w K mg base (L2.CX P w) (k + 1) f fd ps (spLaw K) := by
  refine fnG_ofC F S (fun vs H Q E h => by obtain ⟨_, _, rfl, _⟩ := h; exact hps.symm) fun cdv A outer s H vs Q E hc hg hr h => ⟨_, hb cdv A outer s H E hc hg hr tk_of, ?_⟩
  obtain ⟨a, ns, rfl, hs, ht, q⟩ := h
  have est : L2.start N [V.ref a] = some (.ref a) :: none :: List.replicate r none := by
    unfold L2.start
    rw [hN]
    rfl
  rw [est]
  refine ⟨.ref a, rfl, a, ns, rfl, hs, fun p l cs H' hp hl0 hcs hk hp' hl' hlp => ?_⟩
  let w0 : Wd := ⟨[], upd (noTbl H) l (.lst (cs.map V.int)), H'⟩
  have lF : Le (upd (noTbl H) l (.lst (cs.map V.int))) H' := fun d o e => by
    by_cases hd : d = l
    · subst hd; rw [upd_same] at e; cases e; exact hl'
    · rw [upd_ne hd] at e; exact hk d o (noTbl_le (Le.refl H) d o e)
  have ok : Ok K ⟨p⟩ w0 ⟨2 ^ 60, []⟩ := by
    refine ⟨lF, ?_, List.not_mem_nil, List.nodup_nil, rfl, fun a z => absurd z List.not_mem_nil, ⟨l, cs, 0, 0, hp', SqL.of upd_same, hcs, by decide, by decide, by decide⟩, fun pq hpq => LamX.TabS.nil (hk _ _ (ht pq hpq)), fun d ps e => ?_, fun a z => absurd z List.not_mem_nil, fun a z => absurd z List.not_mem_nil, fun i a o e => by cases e⟩
    · show upd (noTbl H) l (.lst (cs.map V.int)) p = none
      rw [upd_ne hlp.symm]; exact noTbl_none hp
    · have e : upd (noTbl H) l (.lst (cs.map V.int)) d = some (.tbl ps) := e
      by_cases hd : d = l
      · subst hd; rw [upd_same] at e; cases e
      · rw [upd_ne hd] at e
        unfold noTbl at e
        split at e
        · cases e
        · rename_i hn; exact hn ps e
  have slo : Slo K ⟨p⟩ w0 (some (.ref a) :: some (.ref p) :: List.replicate r none) (some (.sct ns) :: some .pen :: List.replicate r none) := by
    refine ⟨by simp, fun i d e => ?_⟩
    match i, e with
    | 0, e => cases e; exact ⟨_, rfl, .sct (Le.sqL (Le.up (noTbl_none hl0)) (noTbl_sq hs))⟩
    | 1, e => cases e; exact ⟨_, rfl, .pen⟩
    | i + 2, e =>
      have e : (List.replicate r (none : Sl))[i]? = some (some d) := e
      rw [List.getElem?_replicate] at e
      split at e <;> cases e
  refine hl ⟨p⟩ w0 ⟨2 ^ 60, []⟩ _ _ _ E ok slo ((b _).mono (fun n o z w' g' o' => ?_) (fun _ _ z => z.elim) (hw ns))
  subst z
  intro v r1
  cases r1
  exact q w'.H
end Ly
set_option maxHeartbeats 0
namespace Lw
open PySem PySem.Spec PyProof.Rows L2 He Ly
theorem ob_eq (s : PySem.W.SharedT) : ob s = hk.obs s.abs := obsYG_eq (HandSHeadRun.getT_eq s)
end Lw
set_option maxHeartbeats 4000000
namespace Ly
open PySem PySem.Spec L2 PyProof.Rows He
theorem law_endT {P : Program} {w : World} {K : PySem.W.Frag} {mg mb : Str → Option Value} {CX : CXT} {k : Nat} {fa a : Addr} {cs : List (Addr × Addr)} {fd : FuncData} {x : Str} {sp : Sp} {s1 : Shared} {vs : List Value} {ns : List Int}
    (KX : K.In s1.heap) (hns : s1.heap.Ns mainGlobals mg) (hb : s1.heap.Ns builtinsNs mb) (hbb : ∀ x : Str, x ≠ "__name__" → mb x = bootBuiltins x) (hlim : s1.heap.NoLimit) (hg : s1.gens = #[])
    (hT : ∀ p ∈ cs, s1.heap.get? p.2 = some { cls := .none, data := .fields #[] }) (nT : ∀ p ∈ cs, K.lookup p.2 = none) (hC : ∀ p ∈ cs, PySem.W.CodeHd s1.heap p.1 p.2) (hsm : SmY s1.heap)
    (hbm : ∃ (bm : Addr) (ob : Obj), mg "__builtins__" = some (.ref bm) ∧ bm ≠ builtinsNs ∧ s1.heap.get? bm = some ob ∧ ob.cls = .type "module" ∧ ob.dict = some builtinsNs ∧ ob.data = .plain)
    (ha : s1.heap.get? a = some { cls := .type "list", data := .seq vs.toArray }) (hi : IntsAre vs ns) (hl : ns.length ≤ sizeLine) (hr : Room k callerA)
    (F : ∀ base : Heap, K.In base → base.Ns mainGlobals mg → (∀ p ∈ cs, LamX.TabB base mg p.1 p.2) → (∃ o, base.get? sysModules = some o) → Lx.FnG P w K mg base CX k fa fd [x] sp) (hbind : ∀ (s : Shared) (u : Value), BindsTo s fd ⟨[u], []⟩ [(x, u)])
    (hsp : ∀ H : Hp, (∀ p ∈ cs, H p.2 = some (.tbl #[])) → SqL K H a (ns.map V.int) → sp [.ref a] H (fun v _ => v = .bl true) fun _ _ _ => False)
    (hCX : ∀ H e s', CX [] H s1 (fun _ _ _ => False) e s' → False) :
    codeAny (model P w) callerA (.call (.ref fa) ⟨[.ref a], []⟩) (fun r s' => r = .ok (.ret (.bool true)) ∧ OldK s1.heap s'.heap ∧ s'.os = s1.os ∧ AllBare s'.gens) s1 := by
  classical
  let TT : List Addr := cs.map (·.2)
  have tabAt : ∀ b : Addr, b ∈ TT → s1.heap.get? b = some { cls := .none, data := .fields #[] } := fun b z => by
    obtain ⟨p, hp, e⟩ := List.mem_map.mp z
    rw [← e]; exact hT p hp
  have aOut : a ∉ TT := fun z => by
    have y := tabAt a z
    rw [ha] at y
    cases congrArg Obj.data (Option.some.inj y)
  have main : ∀ H : Hp, (∀ b, b ∈ TT → H b = some (.tbl #[])) → (∀ b, b ∉ TT → H b = none ∨ ∃ o xs, H b = some (.frz o (.lst xs))) → (∀ b, b ∉ TT → H b ≠ none → b = a) → (H a ≠ none → K.lookup a = none) → SqL K H a (ns.map V.int) → HOk P w H s1.heap →
      codeAny (model P w) callerA (.call (.ref fa) ⟨[.ref a], []⟩) (fun r s' => r = .ok (.ret (.bool true)) ∧ OldK s1.heap s'.heap ∧ s'.os = s1.os ∧ AllBare s'.gens) s1 := by
    intro H h1 h2 h3 h4 hS hok
    -- what is neither a list nor a table is not tracked
    have away : ∀ {b : Addr} {o : Obj}, s1.heap.get? b = some o → (∀ us n, o.data ≠ .seq us n) → o.data ≠ .fields #[] → H b = none := fun {b o} e n1 n2 => by
      by_cases z : b ∈ TT
      · rw [tabAt b z] at e
        cases e
        exact absurd rfl n2
      · by_cases y : H b = none
        · exact y
        · have e2 := h3 b z y
          subst e2
          rw [ha] at e
          cases e
          exact absurd rfl (n1 _ _)
    have ns_ : ∀ {b : Addr} {m : Str → Option Value}, s1.heap.Ns b m → (hidT s1.heap H).Ns b m := fun {b m} z => by
      obtain ⟨o, es, ep, e, d, r⟩ := z
      exact ⟨o, es, ep, hidT_get e (away e (fun us n y => by rw [d] at y; cases y) fun y => by rw [d] at y; cases y), d, r⟩
    have kin : K.In (hidT s1.heap H) := fun b o e => hidT_get (KX b o e) (by
      by_cases z : b ∈ TT
      · obtain ⟨p, hp, ep⟩ := List.mem_map.mp z
        rw [← ep, nT p hp] at e
        cases e
      · by_cases y : H b = none
        · exact y
        · have e2 := h3 b z y
          subst e2
          rw [h4 y] at e
          cases e)
    have md : L2.Mod K mg (hidT s1.heap H) := by
      obtain ⟨mc, l1, l2⟩ := hlim
      exact ⟨kin, ns_ hns, ⟨mb, ns_ hb, hbb⟩, ⟨mc, ns_ l1, l2⟩⟩
    have tbs : ∀ p ∈ cs, LamX.TabB (hidT s1.heap H) mg p.1 p.2 := fun p hp => by
      have ht := hT p hp
      refine ⟨?_, ?_, fun z => ?_⟩
      · obtain ⟨o, us, f1, f2, f3, f4, f5, f6, f7, e1, r1, r2, r3, rest⟩ := hC p hp
        refine ⟨o, us, f1, f2, f3, f4, f5, f6, f7, hidT_get e1 (away e1 (fun us n y => by rw [r2] at y; cases y) fun y => ?_), r1, r2, r3, rest⟩
        rw [r2] at y
        cases y
        simp at r3
      · obtain ⟨bm, ob, b1, b2, b3, b4, b5, b6⟩ := hbm
        refine ⟨bm, ob, b1, b2, fun z => ?_, fun z => ?_, hidT_get b3 (away b3 (fun us n y => by rw [b6] at y; cases y) fun y => by rw [b6] at y; cases y), b4, b5, b6⟩
        · obtain ⟨o, es, ep, e, hd, _⟩ := hns
          rw [z, e] at b3
          cases b3
          rw [hd] at b6
          cases b6
        · rw [z, ht] at b3
          cases b3
          cases b6
      · obtain ⟨o, es, ep, e, hd, _⟩ := hns
        rw [z, ht] at e
        cases e
        cases hd
    have smb : ∃ o, (hidT s1.heap H).get? sysModules = some o := by
      obtain ⟨o, e1, e2⟩ := hsm
      refine ⟨o, hidT_get e1 ?_⟩
      by_cases z : sysModules ∈ TT
      · rw [tabAt _ z] at e1; cases e1; cases e2
      · by_cases y : H sysModules = none
        · exact y
        · have e3 := h3 _ z y
          rw [e3, ha] at e1
          cases e1
          exact absurd e2 (show ¬ (Value.type "list" = Value.type "dict") by decide)
    have e0 : Env0 P w K mg (hidT s1.heap H) callerA [] s1 H := ⟨rfl, md, fun b o e => of_hidT e, Nat.le_of_eq (hidT_size _ _), trivial, fun b z => absurd (show b ∈ ([] : List Addr) from z) (by simp), hok, .of_eq hg⟩
    refine codeAny_mono ((F _ kin (ns_ hns) tbs smb).run callerA [] s1 H ⟨[.ref a], []⟩ [.ref a] [.ref a] _ _ rfl hr e0 (hbind s1 (.ref a)) (.cons rfl .nil) (hsp H (fun p hp => h1 p.2 (List.mem_map.mpr ⟨p, hp, rfl⟩)) hS)) fun r s2 z2 => ?_
    cases r with
    | error e => exact (hCX H e s2 z2).elim
    | ok fl => cases fl with
      | next => exact False.elim z2
      | brk => exact False.elim z2
      | cont => exact False.elim z2
      | ret u =>
        obtain ⟨v, H2, os, bare, un, hok2, r2, q⟩ := z2
        have q2 : v = .bl true := q
        subst q2
        have r3 : u = Value.bool true := r2
        subst r3
        have stays : ∀ b o, b ∉ TT → s1.heap.get? b = some o → s2.heap.get? b = some o := fun b o nb e => by
          rcases h2 b nb with z | ⟨ob, xs, z⟩
          · exact un.keep b o e z (fun y => absurd (show b ∈ ([] : List Addr) from y) (by simp)) (by simp)
          · have y := un.frzs b ob _ z
            have e1 := (hok b _ z).1
            rw [e] at e1
            cases e1
            exact (hok2 b _ y).1
        have more : ∀ b, b ∈ TT → ∃ us : Array Value, s2.heap.get? b = some { cls := .none, data := .fields us } := fun b hb2 => by
          obtain ⟨us, z⟩ := un.tbls b #[] (h1 b hb2)
          exact ⟨_, hok2 b _ z⟩
        refine ⟨rfl, ⟨fun b o e => ?_, fun b o e => ?_⟩, os, bare⟩
        · by_cases hb2 : b ∈ TT
          · obtain ⟨us, hus⟩ := more b hb2
            obtain ⟨p, hp, ep⟩ := List.mem_map.mp hb2
            subst ep
            rw [hT p hp] at e
            cases e
            exact .inr (.inl ⟨((hC p hp).tab (hT p hp)).isCodeTable, rfl, #[], us, rfl, by rw [Array.empty_append]; exact hus⟩)
          · exact .inl (stays b o hb2 e)
        · by_cases hb2 : b ∈ TT
          · obtain ⟨us, hus⟩ := more b hb2
            exact ⟨_, hus⟩
          · exact ⟨o, stays b o hb2 e⟩
  have rv := vals_ints hi
  cases hk : K.lookup a with
  | some o =>
    have e := KX a o hk
    rw [ha] at e
    cases e
    let H : Hp := fun b => if b ∈ TT then some (.tbl #[]) else none
    have on : ∀ b, b ∈ TT → H b = some (.tbl #[]) := fun b z => if_pos z
    have off : ∀ b, b ∉ TT → H b = none := fun b z => if_neg z
    refine main H on (fun b z => .inl (off b z)) (fun b z y => absurd (off b z) y) (fun y => absurd (off a aOut) y) (.inr ⟨_, vs.toArray, _, hk, rfl, rfl, rfl, by rw [List.size_toArray, hi.length]; exact hl, by simpa using rv⟩) fun b u z => ?_
    by_cases hb2 : b ∈ TT
    · rw [on b hb2] at z; cases z; exact tabAt b hb2
    · rw [off b hb2] at z; cases z
  | none =>
    let H : Hp := fun b => if b = a then some (.frz { cls := .type "list", data := .seq vs.toArray } (.lst (ns.map V.int))) else if b ∈ TT then some (.tbl #[]) else none
    have at_ : H a = some (.frz { cls := .type "list", data := .seq vs.toArray } (.lst (ns.map V.int))) := if_pos rfl
    have on : ∀ b, b ∈ TT → H b = some (.tbl #[]) := fun b z => (if_neg fun (e : b = a) => aOut (e ▸ z)).trans (if_pos z)
    have off : ∀ b, b ∉ TT → b ≠ a → H b = none := fun b z y => (if_neg y).trans (if_neg z)
    refine main H on (fun b z => ?_) (fun b z y => ?_) (fun _ => hk) (.inl (.inr ⟨_, at_⟩)) fun b u z => ?_
    · by_cases e : b = a
      · subst e; exact .inr ⟨_, _, at_⟩
      · exact .inl (off b z e)
    · by_cases e : b = a
      · exact e
      · exact absurd (off b z e) y
    · by_cases e : b = a
      · subst e
        rw [at_] at z
        cases z
        exact ⟨ha, by rw [List.length_map]; exact hl, vs, _, rv, ha⟩
      · by_cases hb2 : b ∈ TT
        · rw [on b hb2] at z; cases z; exact tabAt b hb2
        · rw [off b hb2 e] at z; cases z
theorem walk_T {l : PySem.W.OpenLaw} {n k : Nat} {q : Program} {loose : List Str} {XP : (Str → Option Value) → Heap → Prop} {YP : World → Heap → Prop} {d : DefRec} {CX : World → CXT} {x : Str}
    (hn : l.most = some n) (hn2 : n ≤ sizeLine) (hdf : d.params.defaults = []) (hr : Room k callerA)
    (F : ∀ (w : World) (mg : Str → Option Value) (fa : Addr) (h : Heap), YP w h → h.Ns mainGlobals mg → mg d.name = some (.ref fa) →
      ∃ (K : PySem.W.Frag) (fd : FuncData) (sp : Sp), K.In h ∧ TabsY K h ∧ SmY h ∧ (∀ (s : Shared) (u : Value), BindsTo s fd ⟨[u], []⟩ [(x, u)]) ∧
        (∀ (H : Hp) (a : Addr) (ns : List Int), ns.length ≤ n → (∀ p ∈ tabsOf K, H p.1 = some (.tbl #[])) → SqL K H a (ns.map V.int) → sp [.ref a] H (fun v _ => v = .bl true) fun _ _ _ => False) ∧
        ∀ base : Heap, K.In base → base.Ns mainGlobals mg → (∀ t ∈ tabs3 K, LamX.TabB base mg t.1 t.2.1) → (∃ o, base.get? sysModules = some o) → Lx.FnG l.prog w K mg base (CX w) k fa fd [x] sp)
    (hCX : ∀ (w : World) (H : Hp) (s : Shared) (e : Value) (s' : Shared), CX w [] H s (fun _ _ _ => False) e s' → False) :
    PySem.W.WalkO q loose XP YP l.row.toRowW d [] (fun f vs => PySem.call f vs) := by
  refine Att.attach_call hn hdf fun w s0 s1 mg mb fa o pm cd doc a vs ns G Y ho hd hcd hmg hobj hints hlen hg => ?_
  obtain ⟨K, fd, sp, KX, tY, hsm, hb, hsp, hF⟩ := F w mg fa _ Y G.T.g hmg
  have ht : ∀ p ∈ (tabs3 K).map (fun t => (t.1, t.2.1)), ∃ t ∈ tabs3 K, p = (t.1, t.2.1) := fun p hp => by
    obtain ⟨t, h1, h2⟩ := List.mem_map.mp hp
    exact ⟨t, h1, h2.symm⟩
  refine law_endT (cs := (tabs3 K).map fun t => (t.1, t.2.1)) KX G.T.g G.T.b G.T.builtins G.T.nolimit hg (fun p hp => ?_) (fun p hp => ?_) (fun p hp => ?_) hsm G.T.bmain hobj hints (Nat.le_trans hlen hn2) hr (fun base k1 k2 k3 k4 => hF base k1 k2 (fun t h1 => k3 (t.1, t.2.1) (List.mem_map.mpr ⟨t, h1, rfl⟩)) k4) hb (fun H hH hS => hsp H a ns hlen (fun p hp => ?_) hS) fun H e s' => hCX w H s1 e s'
  · obtain ⟨t, h1, rfl⟩ := ht p hp; exact (tY t h1).1
  · obtain ⟨t, h1, rfl⟩ := ht p hp; exact (tY t h1).2.2
  · obtain ⟨t, h1, rfl⟩ := ht p hp; exact (tY t h1).2.1
  · obtain ⟨t, h1, h2⟩ := List.mem_map.mp hp
    rw [← h2]
    exact hH (t.1, t.2.1) (List.mem_map.mpr ⟨t, h1, rfl⟩)
end Ly
set_option maxHeartbeats 2000000
namespace Ly
open PySem PySem.Spec L2 PyProof.Rows He
open Lx (Le)
section
variable {K : PySem.W.Frag}
@[reducible] def minD : List D → W D
  | [.int i, .int j] => W.ret (.int (if j < i then j else i))
  | _ => W.stuck
theorem lo_min : LOn K (fun xs H Q => ∃ i j, xs = [.int i, .int j] ∧ Q (.int (if j < i then j else i)) H) minD := fun c w s vs xs Q E o r h => by
  unfold minD at h
  split at h
  · rename_i i j
    rw [r.int2]
    exact ⟨i, j, rfl, h _ (Go.refl ..) o _ (.int _)⟩
  · exact h.elim
end
end Ly
set_option maxHeartbeats 4000000
namespace Ly
open PySem L2
def Rt {A : Type} (m : W A) (a : A) : Prop := ∀ (s : S) (Q : S → A → Prop) (E : S → Xn → Prop), (∀ t : S, t.n = s.n → s.st <+: t.st → Q t a) → m.wp s Q E
def Rx {A : Type} (m : W A) (x : Xn) : Prop := ∀ (s : S) (Q : S → A → Prop) (E : S → Xn → Prop), (∀ t : S, t.n = s.n → s.st <+: t.st → E t x) → m.wp s Q E
def Tm {A : Type} (B : Nat) (m : W A) (Q : A → Prop) : Prop := ∀ (s : S) (E : S → Xn → Prop), B ≤ s.n → m.wp s (fun t a => s.n ≤ t.n + B ∧ s.st <+: t.st ∧ Q a) E
section
variable {A C : Type} {m : W A} {a : A} {f : A → W C} {b : C} {B B1 B2 : Nat} {Q : A → Prop} {R : C → Prop} {x : Xn}
theorem Rt.ret : Rt (W.ret a) a := fun s _ _ q => q s rfl (List.prefix_refl _)
theorem Rt.bind (h : Rt m a) (g : Rt (f a) b) : Rt (m.bind f) b := fun s Q E q => h s _ E fun t e p => g t Q E fun u e2 p2 => q u (e2.trans e) (p.trans p2)
theorem Rt.need {c : Prop} (h : c) (g : Rt m a) : Rt (W.need c m) a := fun n Q E q => ⟨h, g n Q E q⟩
theorem Rt.cast {a' : A} (h : Rt m a) (e : a = a') : Rt m a' := e ▸ h
theorem Rt.calm (h : Rt m a) : Rt m.calm a := fun s Q _ q => h s Q _ q
theorem Tm.ret (h : Q a) : Tm B (W.ret a) Q := fun s E _ => ⟨Nat.le_add_right _ _, List.prefix_refl _, h⟩
theorem Tm.of (h : Rt m a) (q : Q a) : Tm B m Q := fun s E _ => h s _ E fun t e p => ⟨by omega, p, q⟩
theorem Tm.bind (h : Tm B1 m Q) (g : ∀ a, Q a → Tm B2 (f a) R) (hb : B1 + B2 ≤ B) : Tm B (m.bind f) R := fun s E hn =>
  m.mono (fun k a ⟨h1, hp, h2⟩ => (f a).mono (fun j c ⟨h3, hp2, h4⟩ => ⟨by omega, hp.trans hp2, h4⟩) (fun _ _ z => z) (g a h2 k E (by omega))) (fun _ _ z => z) (h s E (by omega))
theorem Tm.bindR (h : Rt m a) (g : Tm B (f a) R) : Tm B (m.bind f) R := fun s E hn => h s _ E fun t e p => (f a).mono (fun j c ⟨h3, hp2, h4⟩ => ⟨by omega, p.trans hp2, h4⟩) (fun _ _ z => z) (g t E (by omega))
theorem Tm.need {c : Prop} (h : c) (g : Tm B m Q) : Tm B (W.need c m) Q := fun n E hn => ⟨h, g n E hn⟩
theorem Tm.mono {Q' : A → Prop} (h : Tm B1 m Q) (hb : B1 ≤ B) (hq : ∀ a, Q a → Q' a) : Tm B m Q' := fun s E hn => m.mono (fun k a ⟨h1, hp, h2⟩ => ⟨by omega, hp, hq a h2⟩) (fun _ _ z => z) (h s E (by omega))
theorem Tm.calm (h : Tm B m Q) : Tm B m.calm Q := fun s _ hn => h s _ hn
theorem Tm.any {P : A → Prop} : Tm 1 (W.any 1 P) P := fun s E hn => ⟨s.n - 1, by omega, fun a q => ⟨by show s.n ≤ s.n - 1 + 1; omega, List.prefix_refl _, q⟩⟩
theorem Tm.wp (h : Tm B m Q) {s : S} {E : S → Xn → Prop} (hb : B ≤ s.n) : m.wp s (fun _ a => Q a) E := m.mono (fun k a z => z.2.2) (fun _ _ z => z) (h s E hb)
end
theorem draw_t {m : Int} (h0 : 0 < m) (h1 : m < 1073741824) : Tm 1 (drawD [.pen, .int m]) (fun d => ∃ i : Int, d = .int i ∧ 0 ≤ i ∧ i < m) := Tm.need ⟨h0, h1⟩ Tm.any
theorem pre_get {α : Type} {l r : List α} {i : Nat} {a : α} (h : l <+: r) (e : l[i]? = some a) : r[i]? = some a := by
  obtain ⟨t, rfl⟩ := h
  rw [List.getElem?_append_left (List.getElem?_eq_some_iff.mp e).1]; exact e
theorem pre_set {α : Type} {l r : List α} {i : Nat} {a b : α} (h : l <+: r) (e : l[i]? = some a) : l.set i b <+: r.set i b := by
  obtain ⟨t, rfl⟩ := h
  rw [List.set_append_left _ _ (List.getElem?_eq_some_iff.mp e).1]
  exact List.prefix_append _ _
def In (g : List D → W D) (c : Str) (gs0 gs1 : List (Str × D)) (ds : List D) : Prop := ∀ (s : S) (i : Nat) (Q : S → D → Prop) (E : S → Xn → Prop), s.st[i]? = some (.ins c gs0) → (∀ t : S, t.n = s.n → s.st.set i (.ins c gs1) <+: t.st → Q t .non) → (g (.mu i :: ds)).wp s Q E
section
variable {c : Str} {g : List D → W D} {ds : List D} {gs gs0 gs1 : List (Str × D)} {δ : List Sl} {f : List Sl → W (List D)} {m : Nat} {x : Xn}
theorem new_get {l : List MO} {o : MO} : (l ++ [o])[l.length]? = some o := by simp
theorem mk_r (h : In g c [] gs ds) : Rt (mkObj c g ds) (.obj c gs) := fun s Q E q => by
  show (g (.mu s.st.length :: ds)).wp ⟨s.n, s.st ++ [.ins c []]⟩ (fun t v => (W.need (v = .non) ((W.get s.st.length).bind fun o => match o with
  | .ins cl' gs => (W.put s.st.length .gone).bind fun _ => W.ret (D.obj cl' gs)
  | _ => W.stuck)).wp t Q E) E
  refine h ⟨s.n, s.st ++ [.ins c []]⟩ s.st.length _ E new_get ?_
  intro t e p
  refine ⟨rfl, ?_⟩
  have p : (s.st ++ [MO.ins c []]).set s.st.length (.ins c gs) <+: t.st := p
  have e0 : (s.st ++ [MO.ins c []]).set s.st.length (.ins c gs) = s.st ++ [.ins c gs] := by simp
  rw [e0] at p
  refine ⟨.ins c gs, pre_get p new_get, q ⟨t.n, t.st.set s.st.length .gone⟩ e ?_⟩
  refine List.IsPrefix.trans ?_ (pre_set (b := .gone) p new_get)
  simp
theorem make_r (hf : Rt (f δ) ds) (hm : ds.length = m) (h : In g c [] gs ds) : Rt (dMake c m g f δ) (.obj c gs) := Rt.bind hf (Rt.need hm (mk_r h))
end
section
variable {i : Nat} {ft : List Sl → W Bool} {fe : List Sl → W D} {δ : List Sl}
theorem lcD_t {B : Nat} {P : D → Prop} : ∀ (ds : List D) (k : Nat), k + ds.length ≤ sizeLine → (∀ d ∈ ds, Rt (ft (δ.set i (some d))) true) → (∀ d ∈ ds, Tm B (fe (δ.set i (some d))) P) → Tm (B * ds.length) (lcD (dName i) ft fe δ ds k) (fun ys => ys.length = ds.length ∧ ∀ y ∈ ys, P y)
  | [], _, _, _, _ => Tm.ret ⟨rfl, fun y z => nomatch z⟩
  | d :: ds, k, hk, h1, h2 => by
    have hk2 : k + 1 + ds.length ≤ sizeLine := by rw [List.length_cons] at hk; omega
    refine Tm.bindR Rt.ret (Tm.bindR (h1 d List.mem_cons_self) ?_)
    refine Tm.bind (h2 d List.mem_cons_self) (fun y hy => Tm.need (by omega) (Tm.bind (lcD_t ds (k + 1) hk2 (fun x hx => h1 x (List.mem_cons_of_mem _ hx)) fun x hx => h2 x (List.mem_cons_of_mem _ hx)) (fun ys hys => Tm.ret (B := 0) ?_) (Nat.le_refl _))) (by rw [List.length_cons, Nat.mul_succ, Nat.add_zero, Nat.add_comm]; exact Nat.le_refl _)
    refine ⟨by rw [List.length_cons, List.length_cons, hys.1], fun z hz => ?_⟩
    rcases List.mem_cons.mp hz with rfl | hz
    · exact hy
    · exact hys.2 z hz
theorem forD_t {B : Nat} {dg : D → List Sl → W (List Sl)} {gb : List Sl → W Out} {I : List D → List Sl → Prop} : ∀ (ds : List D) (δ : List Sl), I ds δ → (∀ d r δ, I (d :: r) δ → Tm B ((dg d δ).bind gb) (fun o => ∃ ε, o = .nx ε ∧ I r ε)) → Tm (B * ds.length) (forD dg gb ds δ) (fun o => ∃ ε, o = .nx ε ∧ I [] ε)
  | [], δ, h, _ => Tm.ret ⟨δ, rfl, h⟩
  | d :: ds, δ, h, hs => by
    have e : forD dg gb (d :: ds) δ = ((dg d δ).bind gb).bind fun o => match o with | .nx ε => forD dg gb ds ε | .ct ε => forD dg gb ds ε | .bk ε => W.ret (.nx ε) | .rt d => W.ret (.rt d) := rfl
    rw [e]
    refine Tm.bind (hs d ds δ h) (fun o ho => ?_) (by rw [List.length_cons, Nat.mul_succ, Nat.add_comm]; exact Nat.le_refl _)
    obtain ⟨ε, rfl, hI⟩ := ho
    exact forD_t ds ε hI hs
end
section
variable {δ ε : List Sl} {d x y z : D} {ds : List D} {i j mm : Nat} {f fa fb fc : List Sl → W D} {t ta tb : List Sl → W Bool} {fl fr' : List Sl → W (List D)} {g h : List Sl → W Out} {b c : Bool} {o u : Out}
theorem Rt.var (e : δ[i]? = some (some d)) : Rt (dVar i δ) d := by unfold dVar; rw [e]; exact Rt.ret
theorem Rt.cC : Rt (dC d δ) d := Rt.ret
theorem Rt.op2 {g : D → D → W D} (ha : Rt (fa δ) x) (hb : Rt (fb δ) y) (hg : Rt (g x y) z) : Rt (dOp2 g fa fb δ) z := Rt.bind ha (Rt.bind hb hg)
theorem Rt.op1 {g : D → W D} (ha : Rt (fa δ) x) (hg : Rt (g x) z) : Rt (dOp1 g fa δ) z := Rt.bind ha hg
theorem Rt.opn {g : List D → W D} (ha : Rt (fl δ) ds) (hg : Rt (g ds) z) : Rt (dOpn g fl δ) z := Rt.bind ha hg
theorem Rt.nil : Rt (dNil δ) [] := Rt.ret
theorem Rt.cons (ha : Rt (fa δ) x) (hr : Rt (fl δ) ds) : Rt (dCons fa fl δ) (x :: ds) := Rt.bind ha (Rt.bind hr Rt.ret)
theorem Rt.tup (ha : Rt (fl δ) ds) (hz : ds.length ≤ sizeLine) : Rt (dTup fl δ) (.tup ds) := Rt.bind ha (Rt.need hz Rt.ret)
theorem Rt.lst (ha : Rt (fl δ) ds) (hz : ds.length ≤ sizeLine) : Rt (dLst fl δ) (.lst ds) := Rt.bind ha (Rt.need hz Rt.ret)
theorem Rt.test (ha : Rt (fa δ) (.bl b)) : Rt (dTest fa δ) b := Rt.bind ha Rt.ret
theorem Rt.tru (ha : Rt (fa δ) x) (hb : Rt (truD x) b) : Rt (dTru fa δ) b := Rt.bind ha hb
theorem Rt.andF (ha : Rt (ta δ) false) : Rt (dAnd ta tb δ) false := Rt.bind ha Rt.ret
theorem Rt.andT (ha : Rt (ta δ) true) (hb : Rt (tb δ) b) : Rt (dAnd ta tb δ) b := Rt.bind ha hb
theorem Rt.orT (ha : Rt (ta δ) true) : Rt (dOr ta tb δ) true := Rt.bind ha Rt.ret
theorem Rt.orF (ha : Rt (ta δ) false) (hb : Rt (tb δ) b) : Rt (dOr ta tb δ) b := Rt.bind ha hb
theorem Rt.not (ha : Rt (ta δ) b) : Rt (dNot ta δ) (!b) := Rt.bind ha Rt.ret
theorem Rt.andV (ha : Rt (fa δ) (.bl b)) (hb : b = true → Rt (fb δ) (.bl c)) : Rt (dAndV fa fb δ) (.bl (b && c)) := by
  refine Rt.bind ha (Rt.bind Rt.ret ?_)
  cases b with
  | true => exact hb rfl
  | false => exact Rt.ret
theorem Rt.notV (ha : Rt (fa δ) (.bl b)) : Rt (dNotV fa δ) (.bl (!b)) := Rt.bind ha (Rt.bind Rt.ret Rt.ret)
theorem Rt.ifE (ht : Rt (t δ) b) (h : Rt (match b with | true => fa δ | false => fb δ) d) : Rt (dIfE t fa fb δ) d := Rt.bind ht h
theorem Rt.seq (hg : Rt (g δ) (.nx ε)) (hh : Rt (h ε) o) : Rt (dSeq g h δ) o := Rt.bind hg hh
theorem Rt.seqR (hg : Rt (g δ) (.rt d)) : Rt (dSeq g h δ) (.rt d) := Rt.bind hg Rt.ret
theorem Rt.next : Rt (dNext δ) (.nx δ) := Rt.ret
theorem Rt.asg (hf : Rt (f δ) d) : Rt (dAsg f (dName i) δ) (.nx (δ.set i (some d))) := Rt.bind hf (Rt.bind Rt.ret Rt.ret)
theorem Rt.rets (hf : Rt (f δ) d) : Rt (dRet f δ) (.rt d) := Rt.bind hf Rt.ret
theorem Rt.ifT (ht : Rt (t δ) true) (hg : Rt (g δ) o) : Rt (dIf t g h δ) o := Rt.bind ht hg
theorem Rt.ifF (ht : Rt (t δ) false) (hg : Rt (h δ) o) : Rt (dIf t g h δ) o := Rt.bind ht hg
theorem Rt.call {G : List D → W D} (hf : Rt (fl δ) ds) (hm : ds.length = mm) (hg : Rt (G ds) d) : Rt (dCall mm G fl δ) d := Rt.bind hf (Rt.need hm hg)
theorem Rt.eqT {a : Str} : Rt (eqD (.str a) (.str a)) (.bl true) := Rt.ret.cast (by simp)
theorem Rt.bodyR {N : List Str} {bd : List Sl → W Out} (hb : Rt (bd (startD N ds)) (.rt d)) : Rt (dBody N bd ds) d := Rt.bind hb Rt.ret
theorem Rt.ixT {xs : List D} {k : Int} (e : atI xs k = some d) : Rt (ixD (.tup xs) (.int k)) d := by show Rt (match atI xs k with | some d => W.ret d | none => W.stuck) d; rw [e]; exact Rt.ret
theorem Rt.ixL {xs : List D} {k : Int} (e : atI xs k = some d) : Rt (ixD (.lst xs) (.int k)) d := by show Rt (match atI xs k with | some d => W.ret d | none => W.stuck) d; rw [e]; exact Rt.ret
theorem Rt.fld {c : Str} {gs : List (Str × D)} {x : Str} (ha : Rt (fa δ) (.obj c gs)) (e : gs.lookup x = some d) : Rt (dFld x fa δ) d := Rt.bind ha (Rt.bind Rt.ret (by dsimp only; rw [e]; exact Rt.ret))
theorem Rt.prop {c : Str} {gs : List (Str × D)} {tb : Tb} {G : List D → W D} (ha : Rt (fa δ) (.obj c gs)) (e : tb.lookup c = some G) (hg : Rt (G [.obj c gs]) d) : Rt (dProp tb fa δ) d := Rt.bind ha (Rt.bind Rt.ret (by dsimp only; rw [e]; exact hg.calm))
theorem Rt.meth {c m : Str} {gs : List (Str × D)} {tb : Tb} {G : List D → W D} (ha : Rt (fa δ) (.obj c gs)) (hn : gs.lookup m = none) (e : tb.lookup c = some G) (hf : Rt (fl δ) ds) (hm : ds.length = mm) (hg : Rt (G (.obj c gs :: ds)) d) : Rt (dMeth m mm tb fa fl δ) d :=
  Rt.bind ha (Rt.bind Rt.ret (Rt.need hn (by dsimp only; rw [e]; exact Rt.bind hf (Rt.need hm hg))))
theorem Rt.ms {G : Str → List D → W D} {a : Str} (ho : Rt (fa δ) (.str a)) (hf : Rt (fl δ) ds) (hg : Rt (G a ds) d) : Rt (dMs G fa fl δ) d := Rt.bind ho (Rt.bind hf hg)
theorem Rt.par (hf : Rt (fl δ) [x, y]) : Rt (dPar i j fl δ) (.nx ((δ.set i (some x)).set j (some y))) := Rt.bind hf Rt.ret
theorem Rt.noPart : Rt (dNoPart δ) none := Rt.ret
theorem Rt.part {k : Int} (hf : Rt (f δ) (.int k)) : Rt (dPart f δ) (some k) := Rt.bind hf Rt.ret
theorem Rt.sl {lo hi : List Sl → W (Option Int)} {l k : Option Int} (ha : Rt (fa δ) x) (hl : Rt (lo δ) l) (hh : Rt (hi δ) k) (hg : Rt (slD x l k) d) : Rt (dSl fa lo hi δ) d := Rt.bind ha (Rt.bind hl (Rt.bind hh hg))
theorem Rt.chT {g g2 : D → D → W D} (ha : Rt (fa δ) x) (hb : Rt (fb δ) y) (hg : Rt (g x y) (.bl true)) (hc : Rt (fc δ) z) (hg2 : Rt (g2 y z) d) : Rt (dChain g g2 fa fb fc δ) d := Rt.bind ha (Rt.bind hb (Rt.bind hg (Rt.bind Rt.ret (Rt.bind hc hg2))))
end
section
variable {δ : List Sl} {f fa fb : List Sl → W D} {fi : List Sl → W (List D)} {ds l : List D} {i : Nat} {ft : List Sl → W Bool} {fe : List Sl → W D} {dg : D → List Sl → W (List Sl)} {vs : List Nat}
theorem rLc (hi : Rt (fi δ) ds) (hl : Rt (lcD dg ft fe (wipeD δ vs) ds 0) l) : Rt (dLc fi dg ft fe vs δ) (.lst l) := Rt.bind hi (Rt.bind hl.calm Rt.ret)
theorem rIS {x : Str} (h : Rt (f δ) (.str x)) : Rt (dIS f δ) (x.cps.toList.map fun c => .str ⟨#[c]⟩) := Rt.bind h Rt.ret
theorem rIT {xs : List D} (h : Rt (f δ) (.tup xs)) : Rt (dIT f δ) xs := Rt.bind h Rt.ret
theorem rIL {xs : List D} (h : Rt (f δ) (.lst xs)) : Rt (dIL f δ) xs := Rt.bind h Rt.ret
theorem rIR {k : Int} (h : Rt (fi δ) [.int k]) (h0 : 0 ≤ k) (h1 : k < 2 ^ 60) : Rt (dIR1 fi δ) (rangeD 0 k.toNat) := Rt.bind h (Rt.need ⟨by omega, by omega⟩ Rt.ret)
theorem Rt.eqO {tb : Tb} {tys : List Lx.Ky} {neg b : Bool} {c : Str} {gs : List (Str × D)} {g : List D → W D} {y : D} {t : Lx.Ky} (e : tb.lookup c = some g) (ht : Rt (tyW y) t) (hm : t ∈ tys) (h : Rt (g [.obj c gs, y]) (.bl b)) : Rt (eqO tb tys neg (.obj c gs) y) (.bl (if neg then !b else b)) := by
  unfold Ly.eqO
  dsimp only
  rw [e]
  exact Rt.bind ht (Rt.need hm (Rt.bind h.calm (Rt.bind Rt.ret Rt.ret)))
end
end Ly
namespace Ly
open PySem L2
open Lx (atI_in shaped_ints inS cutL revS uniq)
theorem bools_map {α : Type} (q : α → Bool) : ∀ l : List α, bools (l.map fun a => D.bl (q a)) = some (l.map q)
  | [] => rfl
  | a :: r => by
    show (bools (r.map fun a => D.bl (q a))).map (q a :: ·) = _
    rw [bools_map q r]; rfl
abbrev LET : Str := " !\"#$&'()*+,-./0123456789:;<=>?@ABCDEFGHIJKLMNOPQRSTUVWXYZ[\\]^_`abcdefghijklmnopqrstuvwxyz{|}~"
def lets (x : Str) : Prop := ∀ c ∈ x.cps.toList, c ∈ LET.cps.toList
theorem len_cps (x : Str) : x.length = x.cps.toList.length := by simp [Str.length]
theorem inS_one (c : Nat) (y : Str) : inS ⟨#[c]⟩ y = decide (c ∈ y.cps.toList) := PySem.StrLaws.found_one y c
theorem small {n : Nat} (h : n ≤ 4000) : n ≤ sizeLine := by rw [sizeLine_eq]; omega
theorem inD_s {x y : Str} : Rt (inD false (.str x) (.str y)) (.bl (inS x y)) := Rt.ret
theorem len_s {x : Str} (h : x.length ≤ 4000) : Rt (lenD [.str x]) (.int x.length) := Rt.need (small h) Rt.ret
theorem lcM {α : Type} {i : Nat} {δ : List Sl} {ft : List Sl → W Bool} {fe : List Sl → W D} (φ : α → D) (p : α → Bool) (g : α → D) : ∀ (hs : List α) (k : Nat), k + hs.length ≤ sizeLine → (∀ h ∈ hs, Rt (ft (δ.set i (some (φ h)))) (p h)) → (∀ h ∈ hs, p h = true → Rt (fe (δ.set i (some (φ h)))) (g h)) → Rt (lcD (dName i) ft fe δ (hs.map φ) k) ((hs.filter p).map g)
  | [], _, _, _, _ => Rt.ret
  | d :: ds, k, hk, h1, h2 => by
    have hk2 : k + 1 + ds.length ≤ sizeLine := by rw [List.length_cons] at hk; omega
    refine Rt.bind Rt.ret (Rt.bind (h1 d List.mem_cons_self) ?_)
    cases e : p d with
    | false =>
      rw [List.filter_cons_of_neg (by rw [e]; decide)]
      exact lcM φ p g ds k (by omega) (fun x hx => h1 x (List.mem_cons_of_mem _ hx)) fun x hx => h2 x (List.mem_cons_of_mem _ hx)
    | true =>
      rw [List.filter_cons_of_pos e, List.map_cons]
      refine Rt.bind (h2 d List.mem_cons_self e) (Rt.need (by omega) (Rt.bind (lcM φ p g ds (k + 1) hk2 (fun x hx => h1 x (List.mem_cons_of_mem _ hx)) fun x hx => h2 x (List.mem_cons_of_mem _ hx)) Rt.ret))
theorem lcY {α : Type} {i : Nat} {δ : List Sl} {fe : List Sl → W D} (φ : α → D) (g : α → D) (hs : List α) (hl : hs.length ≤ 4000) (h : ∀ h ∈ hs, Rt (fe (δ.set i (some (φ h)))) (g h)) : Rt (lcD (dName i) dYes fe δ (hs.map φ) 0) (hs.map g) :=
  (lcM φ (fun _ => true) g hs 0 (small (by omega)) (fun _ _ => Rt.ret) fun x hx _ => h x hx).cast (by rw [List.filter_eq_self.mpr (fun _ _ => rfl)])
theorem toPs_str : ∀ ns : List Str, toPs (ns.map D.str) = some (ns.map PyData.str)
  | [] => by simp only [List.map_nil]; rw [toPs]
  | n :: r => by simp only [List.map_cons]; rw [toPs, toPs_str r, toP]; rfl
theorem toP_nil : toP (.lst []) = some (.list []) := by rw [toP, toPs]; rfl
def asc (x : Str) : Prop := ∀ c ∈ x.cps.toList, c < 128
theorem rangeD_eq : ∀ (n : Nat) (lo : Int), rangeD lo n = (List.range n).map fun (i : Nat) => D.int (lo + i)
  | 0, _ => rfl
  | n + 1, lo => by
    rw [List.range_succ_eq_map, List.map_cons, List.map_map]
    show D.int lo :: rangeD (lo + 1) n = _
    rw [rangeD_eq n (lo + 1)]
    congr 1
    · simp
    · apply List.map_congr_left
      intro i _
      show D.int (lo + 1 + (i : Int)) = D.int (lo + ((i + 1 : Nat) : Int))
      congr 1; omega
section
variable {δ ε : List Sl} {d x y : D} {ds : List D} {i mm B B1 B2 : Nat} {f fa fb : List Sl → W D} {fl : List Sl → W (List D)} {g h : List Sl → W Out} {P : D → Prop} {Q : Out → Prop} {R : List D → Prop}
theorem tAsg {S : Out → Prop} (hf : Tm B1 (f δ) P) (hh : ∀ d, P d → Tm B2 (h (δ.set i (some d))) S) (hb : B1 + B2 ≤ B) : Tm B (dSeq (dAsg f (dName i)) h δ) S :=
  Tm.bind (Q := fun o => ∃ d, P d ∧ o = .nx (δ.set i (some d))) (Tm.bind (B2 := 0) hf (fun d hd => Tm.bindR Rt.ret (Tm.ret ⟨d, hd, rfl⟩)) (Nat.le_refl _)) (fun o ho => by obtain ⟨d, hd, rfl⟩ := ho; exact hh d hd) hb
theorem tAsgR {S : Out → Prop} (hf : Rt (f δ) d) (hh : Tm B (h (δ.set i (some d))) S) : Tm B (dSeq (dAsg f (dName i)) h δ) S := Tm.bindR (Rt.asg hf) hh
theorem tRet {S : Out → Prop} (hf : Tm B (f δ) P) (hs : ∀ d, P d → S (.rt d)) : Tm B (dRet f δ) S := Tm.bind (B2 := 0) hf (fun d hd => Tm.ret (hs d hd)) (Nat.le_refl _)
theorem tBody {N : List Str} {bd : List Sl → W Out} (hb : Tm B (bd (startD N ds)) (fun o => ∃ d, o = .rt d ∧ P d)) : Tm B (dBody N bd ds) P := Tm.bind (B2 := 0) hb (fun o ho => by obtain ⟨d, rfl, hd⟩ := ho; exact Tm.ret hd) (Nat.le_refl _)
theorem tCall {G : List D → W D} (hf : Rt (fl δ) ds) (hm : ds.length = mm) (hg : Tm B (G ds) P) : Tm B (dCall mm G fl δ) P := Tm.bindR hf (Tm.need hm hg)
theorem tCons {P2 : List D → Prop} (ha : Tm B1 (fa δ) P) (hr : Tm B2 (fl δ) P2) (hb : B1 + B2 ≤ B) : Tm B (dCons fa fl δ) (fun ds => ∃ x r, ds = x :: r ∧ P x ∧ P2 r) :=
  Tm.bind ha (fun x hx => Tm.bind (B2 := 0) hr (fun r hr => Tm.ret ⟨x, r, rfl, hx, hr⟩) (Nat.le_refl _)) hb
theorem tNil : Tm B (dNil δ) (fun ds => ds = []) := Tm.of Rt.nil rfl
theorem tIfT {t : List Sl → W Bool} {S : Out → Prop} (ht : Rt (t δ) true) (hg : Tm B (g δ) S) : Tm B (dIf t g h δ) S := Tm.bindR ht hg
theorem tSeqF {t : List Sl → W Bool} {S : Out → Prop} (ht : Rt (t δ) false) (hh : Tm B (h δ) S) : Tm B (dSeq (dIf t g dNext) h δ) S := Tm.bindR (Rt.ifF ht Rt.next) hh
theorem tSeqT' {t : List Sl → W Bool} {S : Out → Prop} (ht : Rt (t δ) true) (hg : Tm B (g δ) (fun o => ∃ d, o = .rt d ∧ S o)) : Tm B (dSeq (dIf t g dNext) h δ) S :=
  Tm.bind (B2 := 0) (tIfT ht hg) (fun o ho => by obtain ⟨d, rfl, hs⟩ := ho; exact Tm.ret hs) (Nat.le_refl _)
end
theorem ixS {x : Str} {k : Int} {c : Nat} (h : x.length ≤ 4000) (e : atI x.cps.toList k = some c) : Rt (ixD (.str x) (.int k)) (.str ⟨#[c]⟩) := Rt.need (small h) (by rw [e]; exact Rt.ret)
def sgns (x : Str) (S : List Nat) : Prop := ∀ c ∈ x.cps.toList, c ∈ S
theorem txts_map (l : List Str) : txts (l.map D.str) = some l := by
  induction l with
  | nil => rfl
  | cons x r ih => show (txts (r.map D.str)).map (x :: ·) = _; rw [ih]; rfl
theorem fold_cps : ∀ (l : List Str) (acc : Array Nat), (l.foldl (fun acc p => acc ++ (#[] : Array Nat) ++ p.cps) acc).toList = acc.toList ++ l.flatMap fun x => x.cps.toList
  | [], acc => by simp
  | x :: r, acc => by rw [List.foldl_cons, fold_cps r]; simp
theorem glued_cps (l : List Str) : (Txt.join "" l).cps.toList = l.flatMap fun x => x.cps.toList := by
  have h0 : ("" : Str).cps = #[] := by decide +kernel
  show ((l.drop 1).foldl (fun acc p => acc ++ ("" : Str).cps ++ p.cps) (l.headD Str.empty).cps).toList = _
  rw [h0, fold_cps]
  cases l with
  | nil => rfl
  | cons x r => simp
theorem singles {ys : List D} {S : List Nat} (h : ∀ y ∈ ys, ∃ c ∈ S, y = .str ⟨#[c]⟩) : ∃ cs : List Nat, ys = cs.map (fun c => .str ⟨#[c]⟩) ∧ ∀ c ∈ cs, c ∈ S := by
  induction ys with
  | nil => exact ⟨[], rfl, fun c z => nomatch z⟩
  | cons y r ih =>
    obtain ⟨c, hc, rfl⟩ := h y List.mem_cons_self
    obtain ⟨cs, rfl, hcs⟩ := ih fun z hz => h z (List.mem_cons_of_mem _ hz)
    refine ⟨c :: cs, rfl, fun z hz => ?_⟩
    rcases List.mem_cons.mp hz with rfl | hz
    · exact hc
    · exact hcs z hz
theorem join_r {cs : List Nat} (h : cs.length ≤ 4000) : Rt (joinD "" [.lst (cs.map fun c => .str ⟨#[c]⟩)]) (.str ⟨cs.toArray⟩) := by
  have e : (cs.map fun c => D.str ⟨#[c]⟩) = (cs.map fun c => (⟨#[c]⟩ : Str)).map D.str := by rw [List.map_map]; rfl
  rw [e]
  show Rt (match txts ((cs.map fun c => (⟨#[c]⟩ : Str)).map D.str) with | some ys => W.need ((ys.map (·.length)).sum + ys.length * ("" : Str).length ≤ 16777216) (W.ret (D.str (Txt.join "" ys))) | none => W.stuck) _
  rw [txts_map]
  have hs : ((cs.map fun c => (⟨#[c]⟩ : Str)).map (·.length)).sum = cs.length := by
    rw [List.map_map]
    induction cs with
    | nil => rfl
    | cons c r ih => rw [List.map_cons, List.sum_cons, ih (by rw [List.length_cons] at h; omega) (by rw [List.map_map]; rfl)]; show 1 + r.length = _; rw [List.length_cons]; omega
  have h0 : ("" : Str).length = 0 := by decide +kernel
  refine Rt.need (by rw [hs, h0]; omega) (Rt.ret.cast (congrArg D.str ?_))
  have hg := glued_cps (cs.map fun c => (⟨#[c]⟩ : Str))
  have hc : ((cs.map fun c => (⟨#[c]⟩ : Str)).flatMap fun x => x.cps.toList) = cs := by
    rw [List.flatMap_map]
    simp
  rw [hc] at hg
  have : (Txt.join "" (cs.map fun c => (⟨#[c]⟩ : Str))).cps = cs.toArray := by
    apply Array.toList_inj.mp
    rw [hg]
  exact congrArg Str.mk this
structure good (s : Str) : Prop where
  one : 1 ≤ s.length
  few : s.length ≤ 3
  let_ : lets s
  nd : s.cps.toList.Nodup
theorem good_of (s : Str) (h : (decide (1 ≤ s.length) && (decide (s.length ≤ 3) && ((s.cps.toList.all fun c => decide (c ∈ LET.cps.toList)) && decide (s.cps.toList.Nodup)))) = true) : good s := by
  simp only [Bool.and_eq_true, decide_eq_true_eq, List.all_eq_true] at h
  exact ⟨h.1, h.2.1, h.2.2.1, h.2.2.2⟩
abbrev SQ : Str := " !\"#$&'()*+,-./0123456789:;<=>?@ABCDEFGHIJKLMNOPQRSTUVWXYZ[\\]^_`abcdefghijklmnoprstuvwxyz{|}~"
theorem SQ_ok : (SQ.cps.toList.all fun c => decide (c ∈ LET.cps.toList)) = true := by decide +kernel
theorem yz_ok : (("yz" : Str).cps.toList.all fun c => decide (c ∈ LET.cps.toList) && decide (c ≠ 40)) = true := by decide +kernel
theorem pa_ok : (("(" : Str).cps.toList.all fun c => decide (c = 40)) = true := by decide +kernel
theorem l40 : (40 : Nat) ∈ LET.cps.toList := by decide +kernel
def sg (c : Nat) : D := .str ⟨#[c]⟩
theorem sg_inj {a b : Nat} : ((⟨#[a]⟩ : Str) == ⟨#[b]⟩) = decide (a = b) := by
  rw [Bool.eq_iff_iff, beq_iff_eq, decide_eq_true_iff]
  constructor
  · intro h
    have : (#[a] : Array Nat) = #[b] := congrArg Str.cps h
    simpa using this
  · intro h; rw [h]
theorem notIn {x : Nat} {ys : List Nat} : Rt (inD true (sg x) (.lst (ys.map sg))) (.bl (!decide (x ∈ ys))) := by
  have e : (ys.map sg).all flatD = true := by rw [List.all_map]; exact List.all_eq_true.mpr fun _ _ => rfl
  refine Rt.need ⟨rfl, e⟩ (Rt.ret.cast (congrArg D.bl ?_))
  show (!inF (sg x) (ys.map sg)) = _
  congr 1
  unfold inF
  rw [List.any_map, Bool.eq_iff_iff, List.any_eq_true, decide_eq_true_iff]
  constructor
  · rintro ⟨y, hy, h⟩
    have h2 : ((⟨#[y]⟩ : Str) == ⟨#[x]⟩) = true := h
    rw [sg_inj, decide_eq_true_iff] at h2
    rw [← h2]; exact hy
  · intro h
    exact ⟨x, h, beq_self_eq_true (⟨#[x]⟩ : Str)⟩
theorem cutL_to {α : Type} (xs : List α) (m : Nat) : cutL xs none (some (m : Int)) = xs.take m := by
  unfold cutL
  rw [HT.sIx_none, HT.sIx_nat, Nat.sub_zero, List.drop_zero, List.take_eq_take_iff]
  omega
def rare (l : List Nat) : List Nat := ((List.range 3).filter fun i => !decide ((l[i]?).getD 0 ∈ l.take i)).map fun i => (l[i]?).getD 0
theorem rare_good {a b : Nat} (ha : a ∈ LET.cps.toList) (hb : b ∈ LET.cps.toList) (hb2 : b ≠ 40) : good ⟨(rare [a, b, 40]).toArray⟩ := by
  have e : rare [a, b, 40] = if a = b then [a, 40] else if a = 40 then [a, b] else [a, b, 40] := by
    unfold rare
    have hr : List.range 3 = [0, 1, 2] := rfl
    rw [hr]
    simp only [List.filter_cons, List.filter_nil, List.getElem?_cons_zero, List.getElem?_cons_succ, Option.getD_some, List.take_zero, List.take_succ_cons, List.mem_cons, List.not_mem_nil, or_false, decide_false, Bool.not_false, if_true]
    by_cases h1 : a = b
    · subst h1
      have h3 : ¬ (40 = a) := fun z => hb2 z.symm
      simp [h3]
    · have h1' : ¬ b = a := fun z => h1 z.symm
      have h3 : ¬ (40 = b) := fun z => hb2 z.symm
      by_cases h2 : a = 40
      · subst h2; simp [h1, h1']
      · have h2' : ¬ 40 = a := fun z => h2 z.symm
        simp [h1, h1', h2, h2', h3]
  have h40 := l40
  have hl : ∀ l : List Nat, (⟨l.toArray⟩ : Str).length = l.length := fun l => len_cps _
  rw [e]
  split
  · refine ⟨by rw [hl]; simp, by rw [hl]; simp, fun c hc => ?_, ?_⟩
    · have hc : c ∈ [a, 40] := hc
      simp only [List.mem_cons, List.not_mem_nil, or_false] at hc
      rcases hc with rfl | rfl
      · exact ha
      · exact h40
    · rename_i h; subst h
      show [a, 40].Nodup
      simp [hb2]
  · split
    · refine ⟨by rw [hl]; simp, by rw [hl]; simp, fun c hc => ?_, ?_⟩
      · have hc : c ∈ [a, b] := hc
        simp only [List.mem_cons, List.not_mem_nil, or_false] at hc
        rcases hc with rfl | rfl
        · exact ha
        · exact hb
      · show [a, b].Nodup
        rename_i h _
        simp [h]
    · refine ⟨by rw [hl]; simp, by rw [hl]; simp, fun c hc => ?_, ?_⟩
      · have hc : c ∈ [a, b, 40] := hc
        simp only [List.mem_cons, List.not_mem_nil, or_false] at hc
        rcases hc with rfl | rfl | rfl
        · exact ha
        · exact hb
        · exact h40
      · show [a, b, 40].Nodup
        rename_i h h2
        simp [h, h2, hb2]
theorem ok_asc {x : Str} (h : asc x) : PyData.strOk x = true := by
  show x.cps.all (· < 0x110000) = true
  rw [← Array.all_toList, List.all_eq_true]
  intro c hc
  have := h c hc
  exact decide_eq_true (by omega)
theorem shaped_strs {l : List Str} (h : ∀ x ∈ l, asc x) : SeqAt.shaped (.list (l.map .str)) = true := by
  have h1 : ∀ l : List Str, (∀ x ∈ l, asc x) → PyData.canLayAll0 (l.map .str) = true := fun l => by
    induction l with
    | nil => exact fun _ => rfl
    | cons c r ih =>
      intro h
      show (PyData.strOk c && PyData.canLayAll0 (r.map .str)) = true
      rw [ok_asc (h c List.mem_cons_self), ih fun d hd => h d (List.mem_cons_of_mem _ hd)]
      rfl
  have h3 : ∀ cs : List Str, PyData.depthAll (cs.map .str) = 0 := fun cs => by
    induction cs with
    | nil => rfl
    | cons c r ih =>
      show max (PyData.depth (.str c)) (PyData.depthAll (r.map PyData.str)) = 0
      rw [ih]; rfl
  have h2 : (PyData.list (l.map .str)).depth ≤ 64 := by
    show PyData.depthAll (l.map .str) + 1 ≤ 64
    rw [h3]
    decide
  exact Bool.and_eq_true_iff.mpr ⟨h1 l h, decide_eq_true h2⟩
theorem let_asc : (LET.cps.toList.all fun c => decide (c < 128)) = true := by decide +kernel
theorem lets_asc {x : Str} (h : lets x) : asc x := fun c hc => of_decide_eq_true (List.all_eq_true.mp let_asc c (h c hc))
end Ly
set_option maxHeartbeats 2000000
namespace Ly
open PySem PySem.SeqAt
open AutoSeq1 (wpAny_loadPart')
open MeetsSeq MeetsSeq2 MeetsSeq3 SeqRoads2 GQ
section
variable {prog : Program} {w : World} {A : Around} {R : Result → Shared → Prop}
def ListZ (l b : Addr) (i : Nat) (Z : Shared → Prop) (s : Shared) : Prop := ∃ (items items2 : Array Value) (n n2 : Nat), s.heap.get? l = some { cls := .type "list", data := .seq items n } ∧ s.heap.get? b = some { cls := .type "list", data := .seq items2 n2 } ∧ i < items.size ∧ i < items2.size ∧ Z s
def ListB (prog : Program) (w : World) (A : Around) (E : Value → Shared → Prop) (l b : Addr) (N : Nat) (I : Nat → Shared → Prop) (Z : Shared → Prop) : Prop :=
  ∀ i s, I i s → ∃ (items items2 : Array Value) (n n2 : Nat), s.heap.get? l = some { cls := .type "list", data := .seq items n } ∧ s.heap.get? b = some { cls := .type "list", data := .seq items2 n2 } ∧ items.size = N ∧ items2.size = N ∧
    ∀ (h1 : i < items.size) (h2 : i < items2.size), wpAny (model prog w) A.in1 (eqBool items[i] items2[i]) (fun r s' => if r = true then I (i + 1) s' else ListZ l b i Z s') E s
end
end Ly
namespace Ly
open PySem PySem.SeqAt PyProof.Rows
open AutoSeq1 (wpAny_loadPart')
open MeetsSeq MeetsSeq2 MeetsSeq3 SeqRoads2 GQ
section
variable {prog : Program} {w : World} {A : Around} {R : Result → Shared → Prop}
theorem ne_loopB (l b : Addr) (N : Nat) (I : Nat → Shared → Prop) (Z : Shared → Prop) (hl : ListB prog w A (fun e s' => R (.error e) s') l b N I Z)
    (fin : ∀ s, I N s → R (.ok (.ret (.bool false))) s) (finZ : ∀ s, Z s → R (.ok (.ret (.bool true))) s) (k : Nat) :
    ∀ i : Nat, N - i = k → i ≤ N → ∀ s, I i s →
      wpAny (model prog w) A.in1 (Builtin.«list.__eq__.loop» ⟨[.ref l, .ref b, rawInt i, rawInt 3], []⟩) (FinOf prog w A R) (fun e s' => R (.error e) s') s := by
  induction k with
  | zero =>
    intro i hk hi s h
    obtain ⟨items, items2, n, n2, hl1, hb1, hs1, hs2, _⟩ := hl _ _ h
    have hi' : i = N := by omega
    have hR : R (.ok (.ret (.bool false))) s := fin s (hi' ▸ h)
    obtain ⟨hp, g, d, tk, os⟩ := s
    wp_walk using wpAny_loadPart' hl1, wpAny_loadPart' hb1
    have hi1 : items[((i : Nat) : Int).toNat]? = none := by simp; omega
    have hi2 : items2[((i : Nat) : Int).toNat]? = none := by simp; omega
    rw [hi1, hi2]
    wp_walk using wpAny_loadPart' hl1, wpAny_loadPart' hb1
    show R (.ok (.ret (.bool (items.size != items2.size)))) _
    rw [hs1, hs2]
    simpa using hR
  | succ k ih =>
    intro i hk hi s h
    obtain ⟨items, items2, n, n2, hl1, hb1, hs1, hs2, turn⟩ := hl _ _ h
    have hlt : i < items.size := by omega
    have hlt2 : i < items2.size := by omega
    have ht := turn hlt hlt2
    obtain ⟨hp, g, d, tk, os⟩ := s
    wp_walk using wpAny_loadPart' hl1, wpAny_loadPart' hb1
    have hi1 : items[((i : Nat) : Int).toNat]? = some items[i] := by simp [hlt]
    have hi2 : items2[((i : Nat) : Int).toNat]? = some items2[i] := by simp [hlt2]
    have hc : ((i : Int) + 1) = ((i + 1 : Nat) : Int) := by omega
    rw [hi1, hi2]
    refine wpAny_bind (wpAny_mono ht (fun r s2 h2 => ?_) fun _ _ x => x)
    cases r with
    | true =>
      rw [if_pos rfl] at h2
      have hrec := ih (i + 1) (by omega) (by omega) s2 h2
      obtain ⟨hp2, g2, d2, tk2, os2⟩ := s2
      wp_walk
      rw [hc]
      exact ⟨plainId_quiet plain_eq_loop _, codeAny_builtin entry_eq_loop (by
        rw [Around.under_plainId plain_eq_loop _]
        exact hrec)⟩
    | false =>
      rw [if_neg (by decide)] at h2
      obtain ⟨its, its2, m, m2, hl2, hb2, hj1, hj2, hz⟩ := h2
      have hz := finZ _ hz
      obtain ⟨hp2, g2, d2, tk2, os2⟩ := s2
      wp_walk using wpAny_loadPart' hl2, wpAny_loadPart' hb2
      have hi3 : its[((i : Nat) : Int).toNat]? = some its[i] := by simp [hj1]
      have hi4 : its2[((i : Nat) : Int).toNat]? = some its2[i] := by simp [hj2]
      rw [hi3, hi4]
      wp_walk
      exact hz
theorem list_neB (l b : Addr) (N : Nat) (I : Nat → Shared → Prop) (Z : Shared → Prop) (hl : ListB prog w A (fun e s' => R (.error e) s') l b N I Z)
    (fin : ∀ s, I N s → R (.ok (.ret (.bool false))) s) (finZ : ∀ s, Z s → R (.ok (.ret (.bool true))) s) {s : Shared} (h : I 0 s) :
    wpAny (model prog w) A.in1 (Builtin.«list.__ne__» ⟨[.ref l, .ref b], []⟩) (FinOf prog w A R) (fun e s' => R (.error e) s') s := by
  obtain ⟨items, items2, n, n2, hl1, hb1, hs1, hs2, _⟩ := hl _ _ h
  have hrec := ne_loopB (A := A) (R := R) l b N I Z hl fin finZ _ 0 rfl (Nat.zero_le _) s h
  obtain ⟨hp, g, d, tk, os⟩ := s
  have f3 := AutoSeq1.sub_list_list
  have hne : ¬ (items.size != items2.size) = true := by simp [hs1, hs2]
  wp_walk using wpAny_loadPart' hl1, wpAny_loadPart' hb1
  exact ⟨plainId_quiet plain_eq_loop _, codeAny_builtin entry_eq_loop (by
    rw [Around.under_plainId plain_eq_loop _]
    exact hrec)⟩
end
section
variable {prog : Program} {w : World} {A : Around} {E : Value → Shared → Prop} {s : Shared}
theorem rc_listBn {l b : Addr} {N : Nat} {Q : Value → Shared → Prop} (hu : A.units < cLine) (I : Nat → Shared → Prop) (Z : Shared → Prop) (hl : ListB prog w A E l b N I Z)
    (fin : ∀ s, I N s → Q (.bool false) s) (finZ : ∀ s, Z s → Q (.bool true) s) (h : I 0 s) : wpAny (model prog w) A (richCompare .NotEq (.ref l) (.ref b)) Q E s := by
  obtain ⟨items, items2, n, n2, hl1, hb1, _, _, _⟩ := hl _ _ h
  refine wpAny_richCompare_same_room (op := .NotEq) ⟨_, hl1, rfl⟩ ⟨_, hb1, rfl⟩ F.slot_list_ne (call_here F.slot_list_ne ⟨_, hl1, rfl⟩ F.entry_list_ne (F.args_list_ne_2 _ _) ?_) hu
  exact list_neB (R := wants (fun v s' => v ≠ .notImplemented ∧ Q v s') E) l b N I Z hl (fun s' q => ⟨(fun x => nomatch x), fin s' q⟩) (fun s' q => ⟨(fun x => nomatch x), finZ s' q⟩) h
end
end Ly
set_option maxHeartbeats 4000000
namespace Ly
open PySem PySem.Spec L2 PyProof.Rows He
open Lx (Le Ky vTy SupG IsTb IsOk)
structure FkW (P : Program) (w : World) (K : PySem.W.Frag) (mg : Str → Option Value) (base : Heap) (k : Nat) (f : Addr) (n : Nat) (ks : List Str) (is : List Nat) (dvs : List V) (sp : Sp) : Prop where
  ex : ∃ (fd : FuncData) (ps : List Str) (dus : List Value), FnOk P w K mg base (L2.CX P w) k f fd ps sp ∧ KBn K fd ps (n + 1) ks (fun us ws => us ++ pick is (ws ++ dus)) (fun vs zs => vs ++ pick is (zs ++ dvs))
section
variable {P : Program} {K : PySem.W.Frag} {x qual : Str} {params : Arguments} {body : List Stmt} {scope : Scope} {dvs : List V} {kws : List (Str × V)} {DC f : Addr} {fd : FuncData} {ps ks : List Str} {is : List Nat}
theorem FunD.kbN (n : Nat) (F : FunD K x qual params body scope [] kws f fd)
    (h : ∀ (kV doc pm : Value) (an : Option Addr) (cdv ct : Value) (us ws : List Value), us.length = n + 1 → ws.length = ks.length → bindArgs (PySem.W.fnOf x qual params body scope .none kV doc pm an cdv ct) ⟨us, ks.zip ws⟩ = pure (ps.zip (us ++ pick is ws))) :
    KBn K fd ps (n + 1) ks (fun us ws => us ++ pick is (ws ++ [])) (fun vs zs => vs ++ pick is (zs ++ [])) := by
  obtain ⟨oc, od, dV, kV, doc, pm, an, cdv, ct, osl, rfl, lk, hcd, hD, hK⟩ := F.ex
  cases Lx.dfl_none hD
  refine ⟨fun s us ws _ l1 l2 => .of_eq (by rw [List.append_nil]; exact h kV doc pm an _ ct us ws l1 l2), fun r1 r2 => by rw [List.append_nil, List.append_nil]; exact r1.append (vals_pick is r2)⟩
end
end Ly
namespace Ly
open PySem PySem.Spec L2
open Lx (Ky IsTb inS cutL uniq)
inductive Rs (A : Type) where
  | ok (a : A) | ex (x : Xn)
abbrev Xc (A : Type) : Type := Option (Rs A)
namespace Xc
variable {A B : Type}
@[reducible] def ret (a : A) : Xc A := some (.ok a)
def bind (r : Xc A) (f : A → Xc B) : Xc B := match r with
  | some (.ok a) => f a
  | some (.ex x) => some (.ex x)
  | none => none
@[simp] theorem bind_ok (a : A) (f : A → Xc B) : bind (some (.ok a)) f = f a := rfl
@[simp] theorem bind_ex (x : Xn) (f : A → Xc B) : bind (some (.ex x)) f = some (.ex x) := rfl
@[simp] theorem bind_none (f : A → Xc B) : bind none f = none := rfl
def need (p : Prop) [Decidable p] (r : Xc A) : Xc A := if p then r else none
@[simp] theorem need_pos {p : Prop} [Decidable p] (h : p) (r : Xc A) : need p r = r := if_pos h
instance {i j : Int} : Decidable (CMul i j) := by unfold CMul; infer_instance
instance {i j : Int} : Decidable (CPow i j) := by unfold CPow; infer_instance
instance {i j : Int} : Decidable (CDiv i j) := by unfold CDiv; infer_instance
instance {x : Str} {n : Int} : Decidable (PySem.MulOk x n) := by unfold PySem.MulOk; infer_instance
instance {α : Type} {o : Option α} : Decidable (o = none) := match o with | none => .isTrue rfl | some _ => .isFalse (fun h => nomatch h)
@[simp] theorem need_true (r : Xc A) : need True r = r := need_pos trivial r
def calm (r : Xc A) : Xc A := match r with
  | some (.ok a) => some (.ok a)
  | _ => none
@[simp] theorem calm_ok (a : A) : calm (some (.ok a)) = some (.ok a) := rfl
end Xc
def Sx {A : Type} (m : W A) (r : Xc A) : Prop := match r with
  | none => True
  | some (.ok a) => Rt m a
  | some (.ex x) => Rx m x
def S1 (g : D → W D) (x : D → Xc D) : Prop := ∀ d, Sx (g d) (x d)
end Ly
namespace Ly
open PySem PySem.Spec L2
open Lx (Ky IsTb)
@[reducible] def sumID : List D → W D
  | [.lst xs] => (match intsD xs with | some ns => W.ret (.int ns.sum) | none => W.stuck)
  | _ => W.stuck
theorem lo_sumI {K : PySem.W.Frag} : LOn K (rSum K) sumID := fun c w s vs xs Q E o r h => by
  unfold sumID at h
  split at h
  · rename_i ds
    obtain ⟨v, rfl, rv⟩ := r.one
    cases rv with
    | lst a q =>
      cases e : intsD ds with
      | none => rw [e] at h; exact h.elim
      | some ns =>
        rw [e] at h
        have e2 := ints_rep q e
        subst e2
        exact ⟨_, ns, rfl, SqL.of (o.fro _ _ a), h.ret o _ (.int _)⟩
  · exact h.elim
end Ly
namespace Ly
open PySem PySem.Spec L2
section
variable {A C : Type} {B B1 B2 j : Nat} {c c' : List (Key × D)} {m : W A} {f : A → W C} {Q : A → Prop} {R : C → Prop} {a : A}
theorem take_pre {st t : List MO} {j : Nat} (h : st <+: t) : st.take j <+: t := (List.take_prefix _ _).trans h
theorem take_take {st t : List MO} {j : Nat} {o : MO} (hj : st[j]? = some o) (h : st.take j <+: t) : st.take j <+: t.take j := by
  obtain ⟨r, rfl⟩ := h
  have hl := (List.getElem?_eq_some_iff.mp hj).1
  have : (st.take j).length = j := by rw [List.length_take]; omega
  rw [List.take_append_of_le_length (by omega)]
  rw [List.take_of_length_le (l := st.take j) (by omega)]
  exact List.prefix_refl _
end
end Ly
namespace Ly
open PySem PySem.Spec L2 PyProof.Rows
@[reducible] def mulLD : D → D → W D
  | .lst xs, .int k => W.need (0 ≤ k ∧ k < 4000 ∧ xs.length * k.toNat ≤ sizeLine) (W.ret (.lst (List.replicate k.toNat xs).flatten))
  | _, _ => W.stuck
theorem RepL.rep {K : PySem.W.Frag} {c : Cg} {al : List Addr} {F : Hp} {vs : List V} {ds : List D} (h : RepL K c al F vs ds) : ∀ n : Nat, RepL K c al F (List.replicate n vs).flatten (List.replicate n ds).flatten
  | 0 => .nil
  | n + 1 => by rw [List.replicate_succ, List.replicate_succ, List.flatten_cons, List.flatten_cons]; exact h.app (h.rep n)
theorem lo_rep {K : PySem.W.Frag} : LO2 K rRep mulLD := fun c w s v u x y Q E o rx ry h => by
  cases rx with
  | lst a r => cases ry with
    | int k =>
      obtain ⟨⟨h1, h2, h3⟩, h⟩ := h
      refine ⟨_, k, _, rfl, rfl, o.fro _ _ a, by omega, by omega, by rw [r.len]; exact h3, fun p hp => ?_⟩
      obtain ⟨o2, g2⟩ := o.lay (o := .lst (List.replicate k.toNat _).flatten) hp notOwn.1
      exact h _ g2 o2 (.ref p) (.lst upd_same ((r.up g2.sub).rep _))
    | _ => exact h.elim
  | _ => exact h.elim
end Ly
namespace Ly
open PySem PySem.Spec L2 PyProof.Rows He
open Lx (Le)
theorem meets_enumT {v : Value} {o : Obj} {H : Heap → Prop} (B : Begins v o H) :
    Meets (Builtin.«enumerate.__new__» ⟨[.type "enumerate", v], []⟩) (fun _ R s => H s.heap ∧
      R (.ok (.ret (.ref (s.heap.push o).objs.size))) { s with heap := (s.heap.push o).push { cls := .type "enumerate", data := .fields #[.none, .bool false, .ref s.heap.objs.size, rawInt 0, .none, .none] } }) :=
  .of_wp fun prog w A R s h => by
    obtain ⟨hp, g, d, tk, os⟩ := s; obtain ⟨h1, h⟩ := h
    have hsub := sub_enumerate
    have q1 : ∀ {A' : Around} {E : Value → Shared → Prop} {Q : Value → Shared → Prop}, Q (.ref hp.objs.size) ⟨(hp.push o), g, d, tk, os⟩ → wpAny (model prog w) A' (pyIter v) Q E ⟨hp, g, d, tk, os⟩ :=
      fun q => B.iter prog w _ _ ⟨hp, g, d, tk, os⟩ _ (B.keeps _ _ h1 fun b o' e => e) q
    wp_walk using q1
    refine wpAny_stack_any fun st => wpAny_pure ?_
    split
    · rename_i c _ _ _ _ _
      cases (c == Value.type "enumerate")
      · wp_walk using q1
        exact ⟨_, rfl, h⟩
      · wp_walk using q1
        exact ⟨_, rfl, h⟩
    · wp_walk using q1
      exact ⟨_, rfl, h⟩
theorem call_enumT {prog : Program} {w : World} {A : Around} {E : Value → Shared → Prop} {s : Shared} {v : Value} {o : Obj} {H : Heap → Prop} {Q : Value → Shared → Prop} (B : Begins v o H) (h1 : H s.heap)
    (h : ∀ h', IsEnum h' (s.heap.objs.size + 1) s.heap.objs.size 0 .none → h'.get? s.heap.objs.size = some o → h'.objs.size = s.heap.objs.size + 2 →
      (∀ b o, s.heap.get? b = some o → h'.get? b = some o) → Q (.ref (s.heap.objs.size + 1)) { s with heap := h' }) :
    wpAny (model prog w) A (call (.type "enumerate") [v]) Q E s := by
  refine callType_new F.called_enumerate (by decide) (F.typeCall_enumerate_1 _) (F.newCall_enumerate_1 _) (fun obj => F.args_object_init_2 obj _) F.entry_enumerate_new
    (meets_enumT B) ⟨h1, ?_⟩
  have hz : (s.heap.push o).objs.size = s.heap.objs.size + 1 := Heap.size_push ..
  show _ ∧ _
  rw [hz]
  have he : IsEnum ((s.heap.push o).push { cls := .type "enumerate", data := .fields #[.none, .bool false, .ref s.heap.objs.size, rawInt 0, .none, .none] }) (s.heap.objs.size + 1) s.heap.objs.size 0 .none := by
    have := Heap.get?_push_size (s.heap.push o) (o := { cls := .type "enumerate", data := .fields #[.none, .bool false, .ref s.heap.objs.size, rawInt 0, .none, .none] }) rfl
    rw [hz] at this; exact this
  refine ⟨⟨_, he, rfl⟩, h _ he (Heap.get?_push_of_some _ (Heap.get?_push_size _ B.free)) (by rw [Heap.size_push, hz]) fun b o x => Heap.get?_push_of_some _ (Heap.get?_push_of_some _ x)⟩
theorem next_enumT_end {prog : Program} {w : World} {A : Around} {E : Value → Shared → Prop} {s : Shared} {e it l : Addr} {i : Nat} {items : Array Value} {old : Value} {Q : Option Value → Shared → Prop} (hh : A.handled = none)
    (he : IsEnum s.heap e it i old) (hit : s.heap.IsTupleIter it l i) (hl : s.heap.IsTuple l items) (hx : items[i]? = none)
    (hQ : ∀ h', Heap.ExtBut it s.heap h' → Q none { s with heap := h' }) : wpAny (model prog w) A (pyNext (.ref e)) Q E s := by
  have hT : s.TypeIs (.ref e) "enumerate" := ⟨_, he, rfl⟩
  unfold pyNext
  refine wpAny_bind (wpAny_attempt (wpAny_callSpecial?_slot (name := Str.ofString "__next__") hT F.slot_enumerate_next
    (wpAny_call_entry F.slot_enumerate_next hT F.entry_enumerate_next ?_ (F.args_enumerate_next_1 _))))
  show wpAny _ _ (field (.ref e) 2 >>= _) _ _ _
  refine wpAny_bind (wpAny_field he rfl (x := .ref it) rfl ?_)
  refine wpAny_bind (wpAny_nextOf_tuple_end hh hit hl hx fun h' x he' hx' => ?_)
  obtain ⟨o, ho, hc⟩ := hx'
  refine wpAny_bind (wpAny_isInstance (T := "StopIteration") (b := true) ⟨o, ho, hc⟩ isSubtype_stop ?_)
  exact wpAny_pure (hQ _ he')
def IteT (K : PySem.W.Frag) (a : Addr) : It :=
  ⟨fun i H => ∃ (xs : List V) (x : V), SqT K H a xs ∧ xs[i]? = some x, fun i H v H' => ∃ T x, v = .ref T ∧ H T = none ∧ H' = upd H T (.tup [.int (i : Nat), x]) ∧ ∀ xs, SqT K H a xs → xs[i]? = some x, fun i H => ∃ xs : List V, SqT K H a xs ∧ xs.length ≤ i⟩
theorem turn_enumT {P : Program} {w : World} {K : PySem.W.Frag} {elts : List Expr} {kk : Nat} {tpos : Pos} (a e it : Addr) :
    Turn P w K (.Tuple elts kk tpos) (IteT K a) [e, it] e (fun i h => (∃ old, IsEnum h e it ((i : Nat) : Int) old) ∧ h.IsTupleIter it a i ∧ e ≠ it) where
  mem := by simp
  obj := fun i h st b hb => by
    obtain ⟨⟨old, he⟩, ⟨o, ho, hc, hd⟩, _⟩ := st
    have e' : b = e ∨ b = it := by simpa using hb
    rcases e' with z | z
    · rw [z]; exact ⟨_, he, fun v q => nomatch q⟩
    · rw [z]; exact ⟨o, ho, fun v q => by rw [hd] at q; cases q⟩
  keep := fun i h h' st k => let ⟨⟨old, he⟩, hi, hne⟩ := st; ⟨⟨old, k e (by simp) _ he⟩, hi.at fun o q => k it (by simp) o q, hne⟩
  item := by
    intro X hP hw hK hc i pins s σ H E I hf st hg
    subst hP hw hK
    obtain ⟨⟨old, he⟩, hit, hne⟩ := st
    obtain ⟨xs, x, hq, hx⟩ := hg
    obtain ⟨its, rv, p, hz⟩ := I.tuple hq
    obtain ⟨u, hu, ru⟩ := rv.get hx
    have hT : s.heap.IsTuple a its.toArray := p
    have hel : e < s.heap.objs.size := Heap.lt_size he
    have hil : it < s.heap.objs.size := by obtain ⟨_, q, _⟩ := hit; exact Heap.lt_size q
    have hai : a ≠ it := fun z => by
      obtain ⟨o1, q1, c1, _⟩ := hT
      obtain ⟨o2, q2, c2, _⟩ := hit
      rw [z, q2] at q1; cases q1
      rw [c2] at c1; exact absurd (Value.type.inj c1) (by decide)
    have hae : e ≠ a := fun z => by
      obtain ⟨o1, q1, c1, _⟩ := hT
      rw [← z, show s.heap.get? e = some _ from he] at q1; cases q1
      exact absurd (Value.type.inj c1) (by decide)
    have hlt : i < its.toArray.size := by
      have := (List.getElem?_eq_some_iff.mp hu).1
      simpa using this
    refine wpAny_pyNext_enum_itemD (Draws.tuple (A := X.A.in1) (I.ok.hd hc) it a hai its.toArray) he ⟨hit, hT⟩ hlt hne (by simp [hne, hae]) fun x' h' tk hP ho hst hT' hsz hk => ?_
    obtain ⟨hit', hTT⟩ := hst
    have ex : x' = u := by
      have hP : its.toArray[i]? = some x' := hP
      rw [show its.toArray[i]? = some u by simpa using hu] at hP; cases hP; rfl
    subst ex
    refine ⟨_, rfl, wpAny_letOwnedTupleGo_enum (s := { s with heap := h', toks := tk + 1 }) ho fun h'' he' sb => ?_⟩
    have hT2 : h''.get? s.heap.objs.size = some { cls := .type "tuple", data := .seq #[.int i tk, x'] } := (sb.2 _ (Nat.ne_of_gt hel)).trans hT'
    have new : ObjOk X.prog X.w (upd H s.heap.objs.size (.tup [.int (i : Nat), x])) h'' s.heap.objs.size (.tup [.int (i : Nat), x]) :=
      ⟨by show 2 ≤ sizeLine; decide, [.int i tk, x'], .cons ⟨_, rfl⟩ (.cons ru .nil), ⟨_, hT2, rfl, _, rfl⟩⟩
    have I1 : Inv X pins σ (upd H s.heap.objs.size (.tup [.int (i : Nat), x])) { s with heap := h'', toks := tk + 1 } :=
      I.turnedNew (ch := [e, it]) (fun b ob hb q => (sb.2 b (fun z => hb (by simp [z]))).trans (hk b ob (fun z => hb (by simp [z])) (fun z => hb (by simp [z])) q)) hf (Nat.le_refl _) new
    refine ⟨.ref s.heap.objs.size, _, I1, rfl, ⟨_, x, rfl, I.hok.fresh (Nat.le_refl _), rfl, fun ys hy => by rw [I.tuple_inj hy hq]; exact hx⟩, ⟨⟨x', ?_⟩, hit'.at fun o q => (sb.2 it (Ne.symm hne)).trans q, hne⟩, fun b hb => ?_⟩
    · have e1 : ((i + 1 : Nat) : Int) = (i : Int) + 1 := by omega
      rw [e1]; exact he'
    · have hb' : b < s.heap.objs.size := by
        have e' : b = e ∨ b = it := by simpa using hb
        rcases e' with z | z
        · rw [z]; exact hel
        · rw [z]; exact hil
      rw [upd_ne (Nat.ne_of_lt hb')]
      exact (hf b hb).1
  done := by
    intro X hP hw hK hc i pins s σ H E I hf st hg
    subst hP hw hK
    obtain ⟨⟨old, he⟩, hit, hne⟩ := st
    obtain ⟨xs, hq, hx⟩ := hg
    obtain ⟨its, rv, p, hz⟩ := I.tuple hq
    have hT : s.heap.IsTuple a its.toArray := p
    obtain ⟨f0, f1, f2, f3, f4, f5⟩ := hf it (by simp)
    have hl := rv.length
    exact next_enumT_end (I.ok.hd hc) he hit hT (by simp; omega) fun h' eb => ⟨rfl, I.turned (t' := s.toks) (fun b o hb q => eb b o hb q) f0 f1 f3 f4 f5⟩
  self := fun A i s Q E st h => let ⟨⟨_, he⟩, _⟩ := st; wpAny_pyIter_enum he h
def iEnumT (K : PySem.W.Frag) (ta : TA) : TI := fun σ H R => ta σ H fun vs H1 => ∃ a xs, vs = [.ref a] ∧ SqT K H1 a xs ∧ R (IteT K a) H1
theorem pi_enumT {X : Cx} {e : Expr} {ta : TA} {p pos tpos : Pos} {elts : List Expr} {kk : Nat} (hg : Gl X "enumerate") (hm : X.mg "enumerate" = none) (ha : PA X [e] ta) (hs : starEach [e] X.env = [(false, eval e X.env)] := by rfl) :
    PI X (.Tuple elts kk tpos) (.Call (.Name "enumerate" p) [e] [] pos) (iEnumT X.K ta) := by
  refine ⟨fun pins s σ H R I h => ?_⟩
  refine Call_ (ld_blt I hg hm boot_enumerate (PyProof.Rows.callWith_type1 (thn (ha.run pos pins s σ H _ I h) fun us s1 ⟨vs, H1, I1, r1, q1⟩ => ?_) hs rfl))
  obtain ⟨a, xs, ex, hq, q⟩ := q1
  subst ex
  cases r1 with
  | cons r rr =>
    cases rr
    cases r
    obtain ⟨its, rv, p', hz⟩ := I1.tuple hq
    refine call_enumT (begins_tuple a its.toArray) p' fun h' he hit hsz hk => wpAny_pyIter_enum he ?_
    have I2 : Inv X pins σ H1 { s1 with heap := h' } := I1.kept (t' := s1.toks) hk
    refine ⟨s1.heap.objs.size + 1, [s1.heap.objs.size + 1, s1.heap.objs.size], _, _, H1, rfl, I2, turn_enumT a (s1.heap.objs.size + 1) s1.heap.objs.size, ⟨⟨.none, he⟩, ⟨_, hit, rfl, rfl⟩, Nat.succ_ne_self _⟩, fun b hb => ?_, q⟩
    have e' : b = s1.heap.objs.size + 1 ∨ b = s1.heap.objs.size := by simpa using hb
    have hle : s1.heap.objs.size ≤ b := by
      rcases e' with z | z
      · rw [z]; exact Nat.le_add_right _ _
      · rw [z]; exact Nat.le_refl _
    exact I1.fpOk hle (I1.hok.fresh hle)
def enumD (i : Nat) : List D → List D
  | [] => []
  | x :: xs => .tup [.int (i : Nat), x] :: enumD (i + 1) xs
theorem enumD_get : ∀ (xs : List D) (j i : Nat) (d : D), (enumD j xs)[i]? = some d → ∃ x, xs[i]? = some x ∧ d = .tup [.int ((j + i : Nat) : Int), x]
  | [], _, i, d, h => by simp [enumD] at h
  | x :: xs, j, 0, d, h => by simp [enumD] at h; exact ⟨x, rfl, by rw [← h]; rfl⟩
  | x :: xs, j, i + 1, d, h => by
    obtain ⟨y, h1, h2⟩ := enumD_get xs (j + 1) i d (by simpa [enumD] using h)
    exact ⟨y, by simpa using h1, by rw [h2, show j + 1 + i = j + (i + 1) by omega]⟩
theorem enumD_len : ∀ (xs : List D) (j : Nat), (enumD j xs).length = xs.length
  | [], _ => rfl
  | x :: xs, j => congrArg (· + 1) (enumD_len xs (j + 1))
@[reducible] def dEnum (f : List Sl → W (List D)) : List Sl → W (List D) := fun δ => (f δ).bind fun ds => match ds with | [.tup xs] => W.ret (enumD 0 xs) | _ => W.stuck
theorem yie_enum {K : PySem.W.Frag} {c : Cg} {w : Wd} {a : Addr} {vs : List V} {ds : List D} (q : w.F a = some (.tup vs)) (r : RepL K c w.al w.F vs ds) : Yie K c w (IteT K a) (enumD 0 ds) := fun i w1 s g o => by
  have h1 : SqT K w1.H a vs := SqT.of (o.fro _ _ (g.le _ _ q))
  refine ⟨fun d hd => ?_, fun h => ⟨vs, h1, by rw [r.len]; rw [enumD_len] at h; exact h⟩⟩
  obtain ⟨x, ex, rfl⟩ := enumD_get ds 0 i d hd
  obtain ⟨v, hv, rv⟩ := r.get ex
  refine ⟨⟨vs, v, h1, hv⟩, fun z H2 yl => ?_⟩
  obtain ⟨T, x', rfl, hT, rfl, k1⟩ := yl
  have e1 := k1 vs h1
  rw [hv] at e1
  cases e1
  rw [Nat.zero_add]
  obtain ⟨o2, g2⟩ := o.lay (p := T) (o := .tup [.int (i : Nat), v]) hT (fun ps z => by cases z)
  exact ⟨_, rfl, g2, o2, .tup upd_same (.cons (.int _) (.cons ((rv.up g).up g2.sub) .nil))⟩
theorem li_enum {K : PySem.W.Frag} {ta : XK → TA} {fa : List Sl → W (List D)} (ha : LA K ta fa) : LI K (fun E => iEnumT K (ta E)) (dEnum fa) := fun c w s σ δ R E o sl h =>
  ha c w s σ δ _ E o sl (h.bind.mono fun ds w1 s1 g1 o1 p vs r1 => by
    split at p
    · rename_i xs
      cases r1 with
      | cons ra rr =>
        cases rr
        cases ra with
        | @tup a us _ qa la => exact ⟨a, us, rfl, SqT.of (o1.fro _ _ qa), p.ret o1 _ (yie_enum qa la)⟩
    · exact p.elim)
end Ly
namespace Ly
open PySem PySem.Spec L2 PyProof.Rows He
open Lx (Le)
def FnS (P : Program) (w : World) (K : PySem.W.Frag) (mg : Str → Option Value) (base : Heap) (k : Nat) (f : Addr) (n : Nat) (ks : List Str) (dvs : List V) (sp : Sp) : Prop :=
  ∀ (A : Around) (outer : List Env) (s : Shared) (H : Hp) (u : Value) (us ws : List Value) (v : V) (vs zs : List V) (Q : VK) (E : XK), Room k A → Env0 P w K mg base A outer s H → RelV v u → Vals vs us → Vals zs ws → vs.length = n → zs.length = ks.length →
    (∀ p, H p = none → sp (v :: (zs ++ dvs) ++ [.ref p]) (upd H p (.tup vs)) Q E) → codeAny (model P w) A (.call (.ref f) ⟨u :: us, ks.zip ws⟩) (CR (L2.CX P w) outer P w H s Q E) s
def StarB (K : PySem.W.Frag) (x qual : Str) (params : Arguments) (body : List Stmt) (scope : Scope) (kws : List (Str × V)) (ps : List Str) (n : Nat) (ks : List Str) (dvs : List V) : Prop :=
  ∀ (kV doc pm : Value) (an : Option Addr) (cdv ct : Value), (∀ D, kV = .ref D → ∀ q ∈ kws, ∃ u, PySem.W.nsIn K D q.1 = some (some u) ∧ RelV q.2 u) → (kws = [] ∨ ∃ D, kV = .ref D) →
      ∃ ds, Vals dvs ds ∧ ∀ (M : Model) (A : Around) (Q : List (Str × Value) → Shared → Prop) (E : Value → Shared → Prop) (s : Shared) (u : Value) (us ws : List Value), K.In s.heap → us.length = n → ws.length = ks.length →
        wpAny M A (newTuple us >>= fun t => pure (ps.zip (u :: (ws ++ ds) ++ [t]))) Q E s → wpAny M A (bindArgs (PySem.W.fnOf x qual params body scope .none kV doc pm an cdv ct) ⟨u :: us, ks.zip ws⟩) Q E s
section
variable {P : Program} {w : World} {K : PySem.W.Frag} {mg : Str → Option Value} {base : Heap} {x qual : Str} {params : Arguments} {body : List Stmt} {scope : Scope} {kws : List (Str × V)} {f : Addr} {fd : FuncData}
theorem fn_star0 {N ps : List Str} {k n : Nat} {ks : List Str} {dvs : List V} {t : XK → TS} {b : List Sl → W Out} (F : FunD K x qual params body scope [] kws f fd) (S : FnScope N ps scope) (hps : ps.length = ks.length + dvs.length + 2) (hn : n ≤ sizeLine) (hl : LS K t b)
    (hb : ∀ (cdv : Value) (A : Around) (outer : List Env) (s : Shared) (H : Hp) (E : XK), Room k (A.deeper (envOfC qual scope s.heap.objs.size f cdv)) → Tk (cxOf (L2.CX P w) P w K mg base N qual scope f cdv A outer s H E) E → PSs (cxOf (L2.CX P w) P w K mg base N qual scope f cdv A outer s H E) body (t E))
    (hd : StarB K x qual params body scope kws ps n ks dvs) :
    FnS P w K mg base (k + 1) f n ks dvs (Pr K ps.length (dBody N b)) := by
  obtain ⟨oc, od, dV, kV, doc, pm, an, cdv, ct, osl, rfl, lk, hcd, hD, hK⟩ := F.ex
  cases Lx.dfl_none hD
  intro A outer s H u us ws v vs zs Q E hr e0 ru r rz l1 l2 hsp
  have hkD : ∀ D, kV = .ref D → ∀ q ∈ kws, ∃ u, PySem.W.nsIn K D q.1 = some (some u) ∧ RelV q.2 u := fun D e q hq => by
    rcases hK with z | ⟨D', e', z⟩
    · rw [z] at hq; cases hq
    · rw [e'] at e; cases e; exact z q hq
  have hkE : kws = [] ∨ ∃ D, kV = .ref D := hK.imp id fun ⟨D, e, _⟩ => ⟨D, e⟩
  obtain ⟨ds, rd, hbind⟩ := hd kV doc pm an cdv ct hkD hkE
  have hn0 : H s.heap.objs.size = Option.none := e0.hok.fresh (Nat.le_refl _)
  have hu : us.length = n := r.length.symm.trans l1
  have hw : ws.length = ks.length := rz.length.symm.trans l2
  refine StX.run_bnd (CX := L2.CX P w) lk hcd S hr e0 (G := fun xs H2 => ∃ p, H p = Option.none ∧ xs = v :: (zs ++ dvs) ++ [V.ref p] ∧ H2 = upd H p (.tup vs)) (fun A' Ex Q' h => ?_) fun s2 H2 xs ⟨p, hp, ex, eH⟩ hr' => ?_
  · refine hbind _ _ _ _ _ _ _ _ (e0.mod.kin.keeps fun b o e => (e0.bs b o e).1) hu hw ?_
    refine wpAny_bind (wpAny_newTuple (wpAny_pure ?_) (by rw [hu]; exact hn))
    have new : ObjOk P w (upd H s.heap.objs.size (.tup vs)) (s.heap.push ({ cls := .type "tuple", data := .seq us.toArray } : Obj)) s.heap.objs.size (.tup vs) := ⟨by rw [l1]; exact hn, us, r, ⟨_, Heap.get?_push_size _ rfl, rfl, _, rfl⟩⟩
    have un := StX.un_laid (fs := frs outer) (s := s) (o := ({ cls := .type "tuple", data := .seq us.toArray } : Obj)) (u := .tup vs) hn0
    exact h _ _ (v :: (zs ++ dvs) ++ [V.ref s.heap.objs.size]) (u :: (ws ++ ds) ++ [Value.ref s.heap.objs.size]) (StX.env0_laid e0 new) un rfl (fun e s' => StX.cxUp outer s H _ _ E e s' un (fun b o q => Heap.get?_push_of_some _ q) rfl)
      (Vals.append (Paired.cons ru (rz.append rd)) (.cons rfl .nil)) (by rw [hps]; simp [l2]; omega) ⟨_, hn0, rfl, rfl⟩
  · subst ex eH
    exact ⟨t E, hb cdv A outer s2 _ E hr' tk_of, body_ly hl (hsp p hp)⟩
theorem star_all {ps ks : List Str} {n : Nat}
    (h : ∀ (kV doc pm : Value) (an : Option Addr) (cdv ct u : Value) (us ws : List Value), us.length = n → ws.length = ks.length → bindArgs (PySem.W.fnOf x qual params body scope .none kV doc pm an cdv ct) ⟨u :: us, ks.zip ws⟩ = (newTuple us >>= fun t => pure (ps.zip (u :: ws ++ [t])))) : StarB K x qual params body scope kws ps n ks [] :=
  fun kV doc pm an cdv ct _ _ => ⟨[], .nil, fun M A Q E s u us ws _ l1 l2 hq => by
    rw [h kV doc pm an cdv ct u us ws l1 l2]
    rw [List.append_nil] at hq
    exact hq⟩
end
def tMakeS (C : Addr) (n m : Nat) (sp : Sp) (dvs : List V) (E : XK) (t tk : TA) : TE := fun σ H Q => t σ H fun vs H1 => tk σ H1 fun zs H2 => vs.length = n ∧ zs.length = m ∧ ∀ x dx p, H2 x = none → H2 dx = none → dx ≠ x →
  upd (upd H2 dx (.own x)) x (.ins C dx []) p = none → sp (.ref x :: (zs ++ dvs) ++ [.ref p]) (upd (upd (upd H2 dx (.own x)) x (.ins C dx [])) p (.tup vs)) (fun v H3 => v = .non ∧ Q (.ref x) H3) E
structure FkS (P : Program) (w : World) (K : PySem.W.Frag) (mg : Str → Option Value) (base : Heap) (k : Nat) (f : Addr) (n : Nat) (ks : List Str) (dvs : List V) (sp : Sp) : Prop where
  ex : FnS P w K mg base k f n ks dvs sp
section
variable {X : Cx} {k n : Nat} {f C : Addr} {ks : List Str} {sp : Sp} {E : XK} {x : Str} {p pos : Pos} {e : Expr} {es : List Expr} {kws : List Keyword} {t tk : TA} {dvs : List V}
theorem run_makeS {pins : List (Addr × Obj)} {σ : L2.St} {H : Hp} {s : Shared} {Q : VK} {us ws : List Value} {vs zs : List V} (M : Mk X.K C f) (F : FnS X.prog X.w X.K X.mg X.base k f n ks dvs sp) (hr : Room (k + 1) X.A) (hx : Passes (L2.CX X.prog X.w) X E)
    (I : Inv X pins σ H s) (r : Vals vs us) (rz : Vals zs ws) (l1 : vs.length = n) (l2 : zs.length = ks.length)
    (h : ∀ x dx p, H x = none → H dx = none → dx ≠ x → upd (upd H dx (.own x)) x (.ins C dx []) p = none → sp (.ref x :: (zs ++ dvs) ++ [.ref p]) (upd (upd (upd H dx (.own x)) x (.ins C dx [])) p (.tup vs)) (fun v H2 => v = .non ∧ Q (.ref x) H2) E) :
    wpAny (model X.prog X.w) X.A (call (.ref C) us (ks.zip ws)) (EP X pins σ Q) X.xe s := by
  have hq := fun p => h (s.heap.objs.size + 1) s.heap.objs.size p (I.hok.fresh (Nat.le_succ _)) (I.hok.fresh (Nat.le_refl _)) (Nat.ne_of_lt (Nat.lt_succ_self _))
  have I2 := Inv.made (C := C) I
  refine wpAny_call (make_map (f := f) I.kIn M.makes M.init (beq_iff_eq.mp M.fn) (codeAny_mono (F _ X.stack _ _ (Value.ref (s.heap.objs.size + 1)) us ws (V.ref (s.heap.objs.size + 1)) vs zs _ E (hr.make C us (ks.zip ws))
    (I2.env0.make C us (ks.zip ws)) rfl r rz l1 l2 hq) fun r s' hq' => ?_))
  cases r with
  | error e => exact hx pins σ _ _ e s' I2 hq'
  | ok fl =>
    cases fl with
    | ret u =>
      obtain ⟨v, H', I3, rv, ev, q3⟩ := I2.after hq'
      subst ev
      exact ⟨rv, ⟨V.ref (s.heap.objs.size + 1), H', I3, rfl, q3⟩⟩
    | next => exact False.elim hq'
    | brk => exact False.elim hq'
    | cont => exact False.elim hq'
end
@[reducible] def dMakeS (cl : Str) (n m : Nat) (dds : List D) (mm : Nat) (g : List D → W D) (f fk : List Sl → W (List D)) : List Sl → W D := fun δ => (f δ).bind fun ds => (fk δ).bind fun zs => W.need (ds.length = n ∧ zs.length = m ∧ (zs ++ dds).length + 2 = mm) (mkObj cl g (zs ++ dds ++ [.tup ds]))
section
variable {K : PySem.W.Frag}
theorem le_makeS {cl : Str} {n m mm : Nat} {dvs : List V} {dds : List D} {g : List D → W D} {t tk : XK → TA} {f fk : List Sl → W (List D)} (hC : Cls K (ga K cl)) (hd : ∀ c al F, RepL K c al F dvs dds) (ha : LA K t f) (hk : LA K tk fk) :
    LE K (fun E => tMakeS (ga K cl) n m (Pr K mm g) dvs E (t E) (tk E)) (dMakeS cl n m dds mm g f fk) := fun c w s σ δ Q E o sl h =>
  ha c w s σ δ _ E o sl (h.bind.mono fun ds w1 s1 g1 o1 p vs r1 => hk c w1 s1 σ δ _ E o1 (sl.go g1) (p.bind.mono fun zs w2 s2 g2 o2 p2 us r2 =>
    ⟨by rw [r1.len]; exact p2.1.1, by rw [r2.len]; exact p2.1.2.1, fun x dx q hx hdx hne hq => by
      obtain ⟨w3, e3, o3, g3, a3⟩ := made o2 hC hx hdx hne
      have hq3 : w3.H q = none := by rw [e3]; exact hq
      obtain ⟨o4, g4⟩ := o3.lay (p := q) (o := .tup vs) hq3 (fun ps z => by cases z)
      have g34 := g3.trans g4 o4
      have p3 : (((g (.mu s2.st.length :: (zs ++ dds ++ [.tup ds]))).bind fun v => W.need (v = .non) ((W.get s2.st.length).bind fun o => match o with
        | .ins cl' gs => (W.put s2.st.length .gone).bind fun _ => W.ret (D.obj cl' gs)
        | _ => W.stuck))).wp ⟨s2.n, s2.st ++ [.ins cl []]⟩ _ _ := p2.2
      have p4 := (Den.on (s0 := s2) p3 g34).bind
      refine ⟨c, w3.lay q (.tup vs), ⟨s2.n, s2.st ++ [.ins cl []]⟩, .mu s2.st.length :: (zs ++ dds ++ [.tup ds]), ?_, o4, ?_, ?_, p4.mono fun d w5 s5 g5 o5 z v rv => ?_⟩
      · show upd w3.H q _ = _
        rw [e3]
      · refine .cons (.mu (g4.sub.at a3)) ?_
        have r2' := ((r2.app (hd c _ _)).up g34.sub)
        exact r2'.app (.cons (.tup upd_same (((r1.up g2.sub).up g3.sub).up g4.sub)) .nil)
      · have := p2.1.2.2
        simp only [List.length_cons, List.length_append, List.length_nil] at this ⊢
        omega
      · obtain ⟨q0, z⟩ := z
        subst q0
        cases rv
        refine ⟨rfl, ?_⟩
        have a5 := g5.sub.at (g4.sub.at a3)
        obtain ⟨mo, em, z⟩ := z
        have rm := o5.sto _ _ _ a5 em
        cases mo with
        | ins cl' gs =>
          obtain ⟨hF, dx', vs', h1, h2, h3, h4, h5⟩ := rm
          obtain ⟨o6, g6⟩ := o5.ice a5 hF h1
          exact z _ g6 o6 (.ref x) (.obj upd_same h2 h3 (h4.up g6.sub))
        | _ => exact z.elim⟩))
end
end Ly
namespace Ly
open PySem PySem.Spec L2 PyProof.Rows He Builtin
open Lx (Le)
section
variable {X : Cx} {k n : Nat} {f C : Addr} {sp : Sp} {E : XK} {x : Str} {p pos : Pos} {e : Expr} {es : List Expr} {t : TA} {dvs : List V}
theorem pe_mkS0 (M : Mk X.K C f) (F : FkS X.prog X.w X.K X.mg X.base k f 0 [] dvs sp) (hr : Room (k + 1) X.A) (hx : Passes (L2.CX X.prog X.w) X E) (hg : Gl X x) (hm : X.mg x = some (.ref C)) (hdb : (x == ("__debug__" : Str)) = false := by decide) :
    PE X (.Call (.Name x p) [] [] pos) (tMakeS C 0 0 sp dvs E L2.tNil L2.tNil) := by
  refine ⟨fun pins s σ H Q I h => ?_⟩
  refine wpAny_Call_Name_kw (ld_glob I hg hm ?_ hdb)
  obtain ⟨l1, l2, h⟩ := h
  exact PySem.W.callWith_K0 I.kIn M.kp (run_makeS (us := []) (ws := []) (ks := []) (vs := []) (zs := []) M F.ex hr hx I .nil .nil rfl rfl h)
theorem pe_mkS (M : Mk X.K C f) (F : FkS X.prog X.w X.K X.mg X.base k f n [] dvs sp) (hr : Room (k + 1) X.A) (hx : Passes (L2.CX X.prog X.w) X E) (hg : Gl X x) (hm : X.mg x = some (.ref C)) (ha : PA X (e :: es) t)
    (hdb : (x == ("__debug__" : Str)) = false := by decide) (he : starEach (e :: es) X.env = (false, eval e X.env) :: starEach es X.env := by rfl) (hpl : (backTo pos (starEach es X.env)).any (·.1) = false := by rfl) :
    PE X (.Call (.Name x p) (e :: es) [] pos) (tMakeS C n 0 sp dvs E t L2.tNil) := by
  refine ⟨fun pins s σ H Q I h => ?_⟩
  refine wpAny_Call_Name_kw (ld_glob I hg hm ?_ hdb)
  refine PySem.W.callWith_K (h₀ := X.base) I.ok.mod.kin M.kp (thn (ha.run pos pins s σ H _ I h) fun us s1 ⟨vs, H1, I1, r, q⟩ => ⟨I1.kIn, ?_⟩) he hpl
  obtain ⟨l1, l2, q⟩ := q
  exact run_makeS (ws := []) (ks := []) (zs := []) M F.ex hr hx I1 r .nil l1 rfl q
end
end Ly
namespace Ly
open PySem PySem.Spec L2 PyProof.Rows He
open Lx (Le)
@[reducible] def intD : List D → W D
  | [.int i] => W.ret (.int i)
  | [.bl k] => W.ret (.int (if k then 1 else 0))
  | _ => W.stuck
theorem lo_int {K : PySem.W.Frag} : LOn K (fun xs H Q => (∃ i, xs = [V.int i] ∧ Q (.int i) H) ∨ ∃ k, xs = [V.bl k] ∧ Q (.int (if k then 1 else 0)) H) intD := fun c w s vs xs Q E o r h => by
  unfold intD at h
  split at h
  · obtain ⟨v, rfl, rv⟩ := r.one
    cases rv
    exact .inl ⟨_, rfl, h.ret o _ (.int _)⟩
  · obtain ⟨v, rfl, rv⟩ := r.one
    cases rv
    exact .inr ⟨_, rfl, h.ret o _ (.int _)⟩
  · exact h.elim
@[reducible] def tupleD : List D → W D
  | [.lst xs] => W.ret (.tup xs)
  | [.tup xs] => W.ret (.tup xs)
  | _ => W.stuck
theorem lo_tuple {K : PySem.W.Frag} : LOn K (fun xs H Q => ∃ p ys, xs = [V.ref p] ∧ ((SqL K H p ys ∧ ∀ l, H l = none → Q (.ref l) (upd H l (.tup ys))) ∨ (SqT K H p ys ∧ Q (.ref p) H))) tupleD := fun c w s vs xs Q E o r h => by
  unfold tupleD at h
  split at h
  · obtain ⟨v, rfl, rv⟩ := r.one
    cases rv with
    | @lst a us _ q l =>
      refine ⟨a, us, rfl, .inl ⟨SqL.of (o.fro _ _ q), fun t ht => ?_⟩⟩
      obtain ⟨o2, g2⟩ := o.lay (p := t) (o := .tup us) ht (fun ps z => by cases z)
      exact h _ g2 o2 _ (.tup upd_same (l.up g2.sub))
  · obtain ⟨v, rfl, rv⟩ := r.one
    cases rv with
    | @tup a us _ q l => exact ⟨a, us, rfl, .inr ⟨SqT.of (o.fro _ _ q), h.ret o _ (.tup q l)⟩⟩
  · exact h.elim
end Ly
namespace Ly
open PySem PySem.Spec L2 PyProof.Rows He
open Lx (Le cutL rSlU)
@[reducible] def seqW : D → W (List D)
  | .lst xs => W.ret xs
  | .tup xs => W.ret xs
  | .mu j => (W.get j).bind fun o => match o with | .lst xs => W.ret xs | _ => W.stuck
  | _ => W.stuck
@[reducible] def lstW : D → W (List D)
  | .lst xs => W.ret xs
  | .mu j => (W.get j).bind fun o => match o with | .lst xs => W.ret xs | _ => W.stuck
  | _ => W.stuck
section
variable {K : PySem.W.Frag} {c : Cg} {w : Wd} {s : S} {v : V} {d : D} {A : Type} {f : List D → W A} {Q : A → Wd → S → Prop} {E : Xn → Wd → S → Prop}
theorem lst_of (o : Ok K c w s) (r : Rep K c w.al w.F v d) (h : Den K c ((lstW d).bind f) w s Q E) : ∃ a vs xs, v = .ref a ∧ w.H a = some (.lst vs) ∧ RepL K c w.al w.F vs xs ∧ Den K c (f xs) w s Q E := by
  cases r with
  | lst hf r => exact ⟨_, _, _, rfl, o.fro _ _ hf, r, h⟩
  | @mu i a hi =>
    obtain ⟨mo, em, h⟩ := h
    have rm := o.sto i a mo hi em
    cases mo with
    | lst xs =>
      obtain ⟨_, vs, h1, rk⟩ := rm
      exact ⟨a, vs, xs, rfl, h1, rk, h⟩
    | _ => exact h.elim
  | _ => exact h.elim
theorem seq_of (o : Ok K c w s) (r : Rep K c w.al w.F v d) (h : Den K c ((seqW d).bind f) w s Q E) : ∃ a vs xs, v = .ref a ∧ (SqL K w.H a vs ∨ SqT K w.H a vs) ∧ RepL K c w.al w.F vs xs ∧ Den K c (f xs) w s Q E := by
  cases r with
  | lst hf r => exact ⟨_, _, _, rfl, .inl (SqL.of (o.fro _ _ hf)), r, h⟩
  | tup hf r => exact ⟨_, _, _, rfl, .inr (SqT.of (o.fro _ _ hf)), r, h⟩
  | @mu i a hi =>
    obtain ⟨mo, em, h⟩ := h
    have rm := o.sto i a mo hi em
    cases mo with
    | lst xs =>
      obtain ⟨_, vs, h1, rk⟩ := rm
      exact ⟨a, vs, xs, rfl, .inl (SqL.of h1), rk, h⟩
    | _ => exact h.elim
  | _ => exact h.elim
end
section
variable {K : PySem.W.Frag}
@[reducible] def newLW (xs : List D) : W D := (W.new (.lst xs)).bind fun j => W.ret (.mu j)
theorem newL_of {c : Cg} {w : Wd} {s : S} {vs : List V} {xs : List D} {Q : VK} {E : Xn → Wd → S → Prop} (o : Ok K c w s) (r : RepL K c w.al w.F vs xs) (h : Den K c (newLW xs) w s (qV K c Q) E) (l : Addr) (hl : w.H l = none) : Q (.ref l) (upd w.H l (.lst vs)) := by
  obtain ⟨o2, g2⟩ := o.add (p := l) (o := .lst vs) (mo := .lst xs) hl notOwn.1 notOwn.2 ⟨o.free hl, vs, upd_same, r.up ⟨⟨[l], rfl⟩, Le.refl _⟩⟩
  refine h _ g2 o2 (.ref l) (.mu ?_)
  show (w.al ++ [l])[s.st.length]? = some l
  rw [← o.len]; simp
@[reducible] def dLstM (f : List Sl → W (List D)) : List Sl → W D := fun δ => (f δ).bind fun xs => W.need (xs.length ≤ sizeLine) (newLW xs)
theorem le_lstM {t : XK → TA} {f : List Sl → W (List D)} (ha : LA K t f) : LE K (fun E => tLst (t E)) (dLstM f) := fun c w s σ δ Q E o sl h =>
  ha c w s σ δ _ E o sl (h.bind.mono fun xs w1 s1 g1 o1 p vs r1 => ⟨by rw [r1.len]; exact p.1, fun l hl => newL_of o1 r1 p.2 l hl⟩)
@[reducible] def lenMD : List D → W D
  | [x] => (seqW x).bind fun xs => W.ret (.int xs.length)
  | _ => W.stuck
@[reducible] def listMD : List D → W D
  | [x] => (seqW x).bind fun xs => newLW xs
  | _ => W.stuck
theorem lo_listM : LOn K (fun xs H Q => ∃ p ys, xs = [.ref p] ∧ (SqL K H p ys ∨ SqT K H p ys) ∧ ∀ l, H l = none → Q (.ref l) (upd H l (.lst ys))) listMD := fun c w s vs xs Q E o r h => by
  unfold listMD at h
  split at h
  · obtain ⟨v, rfl, rv⟩ := r.one
    obtain ⟨a, us, xs, rfl, hs, r, h⟩ := seq_of o rv h
    exact ⟨_, _, rfl, hs, fun l hl => newL_of o r h l hl⟩
  · exact h.elim
@[reducible] def muW : D → W (Nat × List D)
  | .mu j => (W.get j).bind fun o => match o with | .lst xs => W.ret (j, xs) | _ => W.stuck
  | _ => W.stuck
theorem mu_of {c : Cg} {w : Wd} {s : S} {v : V} {d : D} {A : Type} {f : Nat × List D → W A} {Q : A → Wd → S → Prop} {E : Xn → Wd → S → Prop} (o : Ok K c w s) (r : Rep K c w.al w.F v d) (h : Den K c ((muW d).bind f) w s Q E) :
    ∃ a j vs xs, v = .ref a ∧ w.al[j]? = some a ∧ w.F a = none ∧ w.H a = some (.lst vs) ∧ RepL K c w.al w.F vs xs ∧ Den K c (f (j, xs)) w s Q E := by
  cases r with
  | @mu i a hi =>
    obtain ⟨mo, em, h⟩ := h
    have rm := o.sto i a mo hi em
    cases mo with
    | lst xs =>
      obtain ⟨h0, vs, h1, rk⟩ := rm
      exact ⟨a, i, vs, xs, rfl, hi, h0, h1, rk, h⟩
    | _ => exact h.elim
  | _ => exact h.elim
theorem RepL.erase {c : Cg} {al : List Addr} {F : Hp} : ∀ {vs : List V} {ds : List D} (k : Nat), RepL K c al F vs ds → RepL K c al F (vs.eraseIdx k) (ds.eraseIdx k)
  | _, _, _, .nil => .nil
  | _, _, 0, .cons _ r => r
  | _, _, k + 1, .cons a r => .cons a (RepL.erase k r)
end
end Ly
namespace Ly
open PySem PySem.Spec L2 PyProof.Rows He
open Lx (Le Ky vTy IsTb IsOk OwnC)
section
variable {K : PySem.W.Frag}
theorem tyK_of {c : Cg} {w : Wd} {s : S} {v : V} {d : D} {A : Type} {f : Ky → W A} {Q : A → Wd → S → Prop} {E : Xn → Wd → S → Prop} (o : Ok K c w s) (r : Rep K c w.al w.F v d) (h : Den K c ((tyW d).bind f) w s Q E) :
    ∃ t : Ky, ((∀ cc, t = .c cc → OwnC K cc) → TyX K w.H v (vTy K t)) ∧ Den K c (f t) w s Q E := by
  cases r with
  | non => exact ⟨.t "NoneType", fun _ => .base .non, h⟩
  | bl b => exact ⟨.t "bool", fun _ => .base (.bl b), h⟩
  | int i => exact ⟨.t "int", fun _ => .base (.int i), h⟩
  | str x => exact ⟨.t "str", fun _ => .base (.str x), h⟩
  | lst a r => exact ⟨.t "list", fun _ => .base (.lst (o.fro _ _ a)), h⟩
  | tup a r =>
    refine ⟨.t "tuple", fun _ => ?_, h⟩
    rcases (SqT.of (o.fro _ _ a) : SqT K _ _ _) with (z | ⟨ob, z⟩) | ⟨ob, its, n', z, zc, _⟩
    · exact .base (.tup z)
    · exact .fTuple z
    · exact .kTuple z zc
  | dct a r => exact ⟨.t "dict", fun _ => .base (.dK (o.fro _ _ a)), h⟩
  | @obj a dx cl fs gs hf _ _ _ => exact ⟨.c cl, fun k => (k _ rfl).ok _ _ _ _ (o.fro _ _ hf), h⟩
  | @mu i a hi =>
    obtain ⟨mo, em, h⟩ := h
    have rm := o.sto i a mo hi em
    cases mo with
    | lst xs => obtain ⟨_, vs, h1, _⟩ := rm; exact ⟨.t "list", fun _ => .base (.lst h1), h⟩
    | dct xs => obtain ⟨_, vs, h1, _⟩ := rm; exact ⟨.t "dict", fun _ => .base (.dK h1), h⟩
    | ins cl gs => obtain ⟨_, dx, vs, h1, _⟩ := rm; exact ⟨.c cl, fun k => (k _ rfl).ok _ _ _ _ h1, h⟩
    | gone => exact h.elim
  | pen => exact h.elim
  | err _ _ _ => exact h.elim
  | err0 _ => exact h.elim
  | slo _ _ _ _ => exact h.elim
  | cls _ => exact h.elim
  | gt _ _ => exact h.elim
  | sct _ => exact h.elim
@[reducible] def clsTA : List V → TA
  | [] => L2.tNil
  | v :: r => L2.tCons (tC v) (clsTA r)
theorem clsTA_of : ∀ (cs : List V) {σ : L2.St} {H : Hp} {Q : List V → Hp → Prop}, Q cs H → clsTA cs σ H Q
  | [], _, _, _, h => h
  | v :: r, _, _, _, h => clsTA_of r h
def anyT (t : Ky) : List IsTb → Option Bool
  | [] => some false
  | tb :: r => match tb.lookup t with
    | some true => some true
    | some false => anyT t r
    | none => none
def chkT (tb : IsTb) (tbs : List IsTb) : Bool := !tbs.isEmpty && tb.all fun p => decide (anyT p.1 tbs = some p.2)
inductive IsOks (K : PySem.W.Frag) : List V → List Value → List IsTb → Prop
  | nil : IsOks K [] [] []
  | cons {v : V} {u : Value} {tb : IsTb} {vs : List V} {us : List Value} {tbs : List IsTb} : ClsV v u → IsOk K u tb → IsOks K vs us tbs → IsOks K (v :: vs) (u :: us) (tb :: tbs)
theorem IsOks.prd : ∀ {vs : List V} {us : List Value} {tbs : List IsTb}, IsOks K vs us tbs → Paired ClsV vs us
  | _, _, _, .nil => .nil
  | _, _, _, .cons a _ r => .cons a r.prd
theorem IsOks.any : ∀ {vs : List V} {us : List Value} {tbs : List IsTb} {t : Ky} {b : Bool}, IsOks K vs us tbs → anyT t tbs = some b → PySem.W.kitAny K (vTy K t) us = some b
  | _, _, _, _, _, .nil, e => by cases e; rfl
  | _, _, _, t, b, .cons (tb := tb) _ k r, e => by
    unfold anyT at e
    cases q : tb.lookup t with
    | none => rw [q] at e; cases e
    | some x =>
      rw [q] at e
      have h := (k.get q).1
      cases x with
      | true => cases e; unfold PySem.W.kitAny; rw [h]
      | false => unfold PySem.W.kitAny; rw [h]; exact r.any e
theorem IsOks.own : ∀ {vs : List V} {us : List Value} {tbs : List IsTb} {t : Ky} {b : Bool}, IsOks K vs us tbs → tbs.isEmpty = false → anyT t tbs = some b → ∀ c, t = .c c → OwnC K c
  | _, _, _, _, _, .nil, e, _ => by cases e
  | _, _, _, t, b, .cons (tb := tb) _ k r, _, e => by
    unfold anyT at e
    cases q : tb.lookup t with
    | none => rw [q] at e; cases e
    | some x => exact (k.get q).2
theorem look_memB {tb : IsTb} {t : Ky} {b : Bool} : tb.lookup t = some b → (t, b) ∈ tb := by
  induction tb with
  | nil => intro h; cases h
  | cons p r ih =>
    intro h
    obtain ⟨t2, b2⟩ := p
    rw [List.lookup_cons] at h
    cases q : (t == t2) with
    | true => rw [q] at h; cases h; rw [eq_of_beq q]; exact List.mem_cons_self
    | false => rw [q] at h; exact List.mem_cons_of_mem _ (ih h)
theorem le_isiT {vs : List V} {us : List Value} {tbs : List IsTb} {tb : IsTb} {ta : XK → TE} {fa : List Sl → W D} (ht : IsOks K vs us tbs) (hc : chkT tb tbs = true) (hn : vs.length ≤ 100) (ha : LE K ta fa) : LE K (fun E => tCB (rIsiT K) (L2.tCons (ta E) (L2.tCons (tTup (clsTA vs)) L2.tNil))) (dOp1 (isiD tb) fa) := fun c w s σ δ Q E o sl h =>
  ha c w s σ δ _ E o sl (h.bind.mono fun x w1 s1 g1 o1 q v r1 => by
    refine clsTA_of vs ⟨by rw [sizeLine_eq]; omega, fun p hp => ?_⟩
    obtain ⟨o2, g2⟩ := o1.lay (p := p) (o := .tup vs) hp (fun _ z => by cases z)
    have q2 : Den K c ((tyW x).bind fun t => match tb.lookup t with | some b => W.ret (D.bl b) | none => W.stuck) (w1.lay p (.tup vs)) s1 (qV K c Q) (xE K c E) := Den.on (s0 := s1) q g2
    obtain ⟨t, hty, q3⟩ := tyK_of o2 (r1.up g2.sub) q2
    cases e2 : tb.lookup t with
    | none => simp only [e2] at q3; exact q3.elim
    | some b =>
      simp only [e2] at q3
      unfold chkT at hc
      rw [Bool.and_eq_true, Bool.not_eq_true'] at hc
      have k := of_decide_eq_true (List.all_eq_true.mp hc.2 _ (look_memB e2))
      exact ⟨v, p, vs, vTy K t, us, b, rfl, upd_same, ht.prd, hty (ht.own hc.1 k), ht.any k, q3.ret o2 _ (.bl _)⟩)
end
end Ly
namespace Ly
open PySem PySem.Spec L2 PyProof.Rows He
open Lx (Le)
def rNe0 : R2 := fun x y H Q => ∃ a b vs, x = .ref a ∧ y = .ref b ∧ H a = some (.lst vs) ∧ H b = some (.lst []) ∧ Q (.bl (!vs.isEmpty)) H
section
variable {X : Cx}
theorem op_ne0 (hu : X.A.units + 64 < cLine) : OpR X (compareOp .NotEq) rNe0 := by
  intro pins s σ H x y v u Q I rx ry h
  obtain ⟨a, b, vs, rfl, rfl, ha, hb, q⟩ := h
  obtain rfl : v = Value.ref a := rx
  obtain rfl : u = Value.ref b := ry
  obtain ⟨_, its, k, r, e⟩ := (show ObjOk X.prog X.w H s.heap a (.lst vs) from I.hok a _ ha)
  obtain ⟨_, its2, k2, r2, e2⟩ := (show ObjOk X.prog X.w H s.heap b (.lst []) from I.hok b _ hb)
  show wpAny (model X.prog X.w) X.A (richCompare .NotEq (.ref a) (.ref b)) (EP X pins σ Q) X.xe s
  have hl := r.length
  have hl2 := r2.length
  rw [List.length_nil] at hl2
  cases vs with
  | nil =>
    rw [List.length_nil] at hl
    refine rc_listBn (N := 0) (by omega) (fun i s' => s' = s) (fun _ => False) (fun i s' es => ?_) (fun s' es => ?_) (fun s' z => z.elim) rfl
    · subst es
      exact ⟨its.toArray, its2.toArray, k, k2, e, e2, by rw [List.size_toArray]; omega, by rw [List.size_toArray]; omega, fun h1 _ => by rw [List.size_toArray] at h1; omega⟩
    · subst es
      exact ⟨.bl false, H, I, rfl, q⟩
  | cons x vs =>
    have hs : (its.toArray.size != its2.toArray.size) = true := by
      rw [List.size_toArray, List.size_toArray, ← hl2, ← hl, List.length_cons]
      simp
    exact SeqAt.RcNeAt.lists_lengths ⟨_, e, rfl, k, rfl⟩ ⟨_, e2, rfl, k2, rfl⟩ hs (by omega) X.prog X.w X.xe _ ⟨.bl true, H, I, rfl, q⟩
end
@[reducible] def ne0D (x y : D) : W D := match y with
  | .lst [] => (lstW x).bind fun xs => W.ret (.bl (!xs.isEmpty))
  | _ => W.stuck
theorem lo_ne0 {K : PySem.W.Frag} : LO2 K rNe0 ne0D := fun c w s v u x y Q E o rx ry h => by
  cases ry with
  | @lst b us ys hb rr =>
    cases ys with
    | cons => exact h.elim
    | nil =>
      cases rr
      obtain ⟨a, vs, xs, rfl, hs, r, q⟩ := lst_of o rx h
      have e : vs.isEmpty = xs.isEmpty := by
        have := r.len
        cases vs <;> cases xs <;> simp at this ⊢
      refine ⟨a, b, vs, rfl, rfl, hs, o.fro _ _ hb, ?_⟩
      rw [e]
      exact q.ret o _ (.bl _)
  | _ => exact h.elim
end Ly
namespace Ly
open PySem PySem.Spec L2 PyProof.Rows He
open Lx (Le)
@[reducible] def addTD (x y : D) : W D := match x, y with
  | .tup xs, .tup ys => W.need (xs.length + ys.length ≤ sizeLine) (W.ret (.tup (xs ++ ys)))
  | _, _ => W.stuck
theorem lo_addT {K : PySem.W.Frag} : LO2 K (rCatA K) addTD := fun c w s v u x y Q E o rx ry h => by
  cases rx with
  | @tup a vs xs hf r =>
    cases ry with
    | @tup b us ys hf2 r2 =>
      refine ⟨a, b, vs, us, rfl, rfl, SqT.of (o.fro _ _ hf), SqT.of (o.fro _ _ hf2), by rw [r.len, r2.len]; exact h.1, fun e => ?_, fun e e2 => ?_, fun e e2 p hp => ?_⟩
      · subst e
        cases r
        exact h.2 _ (Go.refl ..) o _ (.tup hf2 r2)
      · subst e2
        cases r2
        have z := h.2 _ (Go.refl ..) o (.ref a)
        rw [List.append_nil] at z
        exact z (.tup hf r)
      · obtain ⟨o2, g2⟩ := o.lay (o := .tup (vs ++ us)) hp (fun _ z => by cases z)
        exact h.2 _ g2 o2 (.ref p) (.tup upd_same ((r.up g2.sub).app (r2.up g2.sub)))
    | _ => exact h.elim
  | _ => exact h.elim
end Ly
namespace Ly
open PySem PySem.Spec L2
def Tgr {A : Type} (B j : Nat) (xs : List D) (m : W A) (P : A → List D → Prop) : Prop := ∀ (s : S) (E : S → Xn → Prop), B ≤ s.n → s.st[j]? = some (.lst xs) → m.wp s (fun t a => s.n ≤ t.n + B ∧ s.st.take j <+: t.st ∧ ∃ ys, t.st[j]? = some (.lst ys) ∧ P a ys) E
def Tgk {A : Type} (B j : Nat) (xs : List D) (m : W A) (Q : A → Prop) : Prop := ∀ (s : S) (E : S → Xn → Prop), B ≤ s.n → s.st[j]? = some (.lst xs) → m.wp s (fun t a => s.n ≤ t.n + B ∧ s.st.take j <+: t.st ∧ Q a) E
section
variable {A C : Type} {B B1 B2 j : Nat} {xs : List D} {m : W A} {f : A → W C} {Q : A → Prop} {P P' : A → List D → Prop} {R : C → List D → Prop} {R1 : C → Prop} {a : A} {δ : List Sl}
theorem Tgr.ofT (h : Tm B m Q) (k : ∀ a, Q a → P a xs) : Tgr B j xs m P := fun s E hn hj => m.mono (fun t a ⟨h1, h2, h3⟩ => ⟨h1, take_pre h2, xs, pre_get h2 hj, k a h3⟩) (fun _ _ z => z) (h s E hn)
theorem Tgr.ofR (h : Rt m a) (q : P a xs) : Tgr B j xs m P := Tgr.ofT (Tm.of (Q := fun b => b = a) h rfl) fun b e => by cases e; exact q
theorem Tgr.mono (h : Tgr B1 j xs m P) (hb : B1 ≤ B) (k : ∀ a c', P a c' → P' a c') : Tgr B j xs m P' := fun s E hn hj => m.mono (fun t a ⟨h1, h2, c', h3, h4⟩ => ⟨by omega, h2, c', h3, k a c' h4⟩) (fun _ _ z => z) (h s E (by omega) hj)
theorem Tgr.bind (h : Tgr B1 j xs m P) (g : ∀ a ys, P a ys → Tgr B2 j ys (f a) R) (hb : B1 + B2 ≤ B) : Tgr B j xs (m.bind f) R := fun s E hn hj =>
  m.mono (fun t a ⟨h1, h2, c', h3, h4⟩ => (f a).mono (fun u b ⟨k1, k2, c2, k3, k4⟩ => ⟨by omega, (take_take hj h2).trans k2, c2, k3, k4⟩) (fun _ _ z => z) (g a c' h4 t E (by omega) h3)) (fun _ _ z => z) (h s E (by omega) hj)
theorem Tgr.bindK (h : Tgr B1 j xs m P) (g : ∀ a ys, P a ys → Tgk B2 j ys (f a) R1) (hb : B1 + B2 ≤ B) : Tgk B j xs (m.bind f) R1 := fun s E hn hj =>
  m.mono (fun t a ⟨h1, h2, c', h3, h4⟩ => (f a).mono (fun u b ⟨k1, k2, k3⟩ => ⟨by omega, (take_take hj h2).trans k2, k3⟩) (fun _ _ z => z) (g a c' h4 t E (by omega) h3)) (fun _ _ z => z) (h s E (by omega) hj)
theorem Tgk.need {p : Prop} (h : p) (g : Tgk B j xs m Q) : Tgk B j xs (W.need p m) Q := fun s E hn hj => ⟨h, g s E hn hj⟩
theorem Tm.newL {fl : List Sl → W (List D)} {f : D → W C} (hl : Rt (fl δ) xs) (hx : xs.length ≤ 4000) (h : ∀ j, Tgk B j xs (f (.mu j)) R1) : Tm B ((dLstM fl δ).bind f) R1 := fun s E hn =>
  hl s _ E fun t e p => ⟨small hx, (f (.mu t.st.length)).mono (fun u a ⟨h1, h2, h3⟩ => ⟨by have h1 : t.n ≤ u.n + B := h1; omega, p.trans (by simpa using h2), h3⟩) (fun _ _ z => z) (h t.st.length ⟨t.n, t.st ++ [.lst xs]⟩ E (by show B ≤ t.n; omega) (by simp))⟩
theorem Tgr.app {i : Nat} {fe : List Sl → W D} {Qd : D → Prop} (h : δ[i]? = some (some (.mu j))) (hf : Tm B (fe δ) Qd) (hl : xs.length < 4000) : Tgr B j xs (dApp i fe δ) (fun o ys => o = .nx δ ∧ ∃ y, ys = xs ++ [y] ∧ Qd y) := fun s E hn hj => by
  have v0 : dVar i δ = W.ret (.mu j) := by unfold dVar; rw [h]
  unfold dApp
  rw [v0]
  refine ⟨.lst xs, hj, (fe δ).mono (fun t y ⟨h1, h2, h3⟩ => ?_) (fun _ _ z => z) (hf s E hn)⟩
  have hg := pre_get h2 hj
  have hlt := (List.getElem?_eq_some_iff.mp hg).1
  refine ⟨.lst xs, hg, by rw [sizeLine_eq]; omega, h1, ?_, xs ++ [y], List.getElem?_set_self hlt, rfl, y, rfl, h3⟩
  have p := take_pre (j := j) h2
  have e : (t.st.set j (MO.lst (xs ++ [y]))).take j = t.st.take j := by rw [List.take_set, List.set_eq_of_length_le (by rw [List.length_take]; omega)]
  have e2 : t.st.take j <+: (t.st.set j (MO.lst (xs ++ [y]))).take j := by rw [e]; exact List.prefix_refl _
  exact ((take_take hj p).trans e2).trans (List.take_prefix _ _)
theorem Tgk.ice {i : Nat} {rest : List Sl → W C} (h : δ[i]? = some (some (.mu j))) (hr : Tm B (rest (δ.set i (some (.lst xs)))) R1) : Tgk B j xs ((iceD i δ).bind rest) R1 := fun s E hn hj => by
  unfold iceD
  rw [h]
  refine ⟨.lst xs, hj, ?_⟩
  have hlt := (List.getElem?_eq_some_iff.mp hj).1
  have p : s.st.take j <+: s.st.set j .gone := by
    have e : (s.st.set j MO.gone).take j = s.st.take j := by rw [List.take_set, List.set_eq_of_length_le (by rw [List.length_take]; omega)]
    rw [← e]
    exact List.take_prefix _ _
  exact (rest _).mono (fun u b ⟨h1, h2, h3⟩ => ⟨h1, p.trans h2, h3⟩) (fun _ _ z => z) (hr ⟨s.n, s.st.set j .gone⟩ E hn)
variable {g h : List Sl → W Out} {S : Out → List D → Prop} {S1 : Out → Prop}
theorem tgAsg {fe : List Sl → W D} {Qd : D → Prop} {i : Nat} (hf : Tm B1 (fe δ) Qd) (hh : ∀ d, Qd d → Tgr B2 j xs (h (δ.set i (some d))) S) (hb : B1 + B2 ≤ B) : Tgr B j xs (dSeq (dAsg fe (dName i)) h δ) S :=
  (show Tgr B j xs ((fe δ).bind fun d => h (δ.set i (some d))) S from Tgr.bind (P := fun a ys => Qd a ∧ ys = xs) (Tgr.ofT hf fun a q => ⟨q, rfl⟩) (fun a ys e => by obtain ⟨q, rfl⟩ := e; exact hh a q) hb)
theorem forL {dg : D → List Sl → W (List Sl)} {gb : List Sl → W Out} {I : List D → List Sl → List D → Prop} : ∀ (ds : List D) (δ : List Sl) (xs : List D), I ds δ xs → (∀ d r δ xs, I (d :: r) δ xs → Tgr B j xs ((dg d δ).bind gb) (fun o ys => ∃ ε, o = .nx ε ∧ I r ε ys)) → Tgr (B * ds.length) j xs (forD dg gb ds δ) (fun o ys => ∃ ε, o = .nx ε ∧ I [] ε ys)
  | [], δ, xs, h, _ => Tgr.ofR (a := Out.nx δ) Rt.ret ⟨δ, rfl, h⟩
  | d :: ds, δ, xs, h, hs => by
    have e : forD dg gb (d :: ds) δ = ((dg d δ).bind gb).bind fun o => match o with | .nx ε => forD dg gb ds ε | .ct ε => forD dg gb ds ε | .bk ε => W.ret (.nx ε) | .rt d => W.ret (.rt d) := rfl
    rw [e]
    refine Tgr.bind (hs d ds δ xs h) (fun o ys ho => ?_) (by rw [List.length_cons, Nat.mul_succ, Nat.add_comm]; exact Nat.le_refl _)
    obtain ⟨ε, rfl, hI⟩ := ho
    exact forL ds ε ys hI hs
end
end Ly
namespace Ly
open PySem PySem.Spec L2 PyProof.Rows He
open Lx (Le)
section
variable {K : PySem.W.Frag}
@[reducible] def iceK (i : Nat) : List Sl → W (List Sl) := fun δ => match δ[i]? with
  | some (some (.mu j)) => (W.get j).bind fun o => (match o with
    | .dct xs => (W.put j .gone).bind fun _ => W.ret (δ.set i (some (.dct xs)))
    | _ => W.stuck)
  | _ => W.ret δ
@[reducible] def iceW (d : D) : W D := match d with
  | .mu j => (W.get j).bind fun o => (match o with
    | .lst xs => (W.put j .gone).bind fun _ => W.ret (.lst xs)
    | _ => W.stuck)
  | _ => W.stuck
@[reducible] def dIceE (f : List Sl → W D) : List Sl → W D := fun δ => (f δ).bind iceW
theorem le_iceE {te : XK → TE} {f : List Sl → W D} (he : LE K te f) : LE K te (dIceE f) := fun c w s σ δ Q E o sl h =>
  he c w s σ δ _ E o sl (h.bind.mono fun x w1 s1 g1 o1 q v r1 => by
    cases r1 with
    | @mu j a hj =>
      obtain ⟨mo, em, q⟩ := q
      have rm := o1.sto j a mo hj em
      cases mo with
      | lst xs =>
        obtain ⟨hF, vs, h1, rl⟩ := rm
        obtain ⟨o2, g2⟩ := o1.ice hj hF h1
        exact q ⟨w1.al, upd w1.F a (.lst vs), w1.H⟩ g2 o2 (.ref a) (.lst upd_same (rl.up g2.sub))
      | _ => exact q.elim
    | _ => exact q.elim)
end
end Ly
namespace Ly
open PySem PySem.Spec L2 PyProof.Rows He
open Lx (Le cutL rSlU rAddU)
section
variable {K : PySem.W.Frag}
@[reducible] def addLM : D → D → W D := fun x y => (lstW x).bind fun xs => (lstW y).bind fun ys => W.need (xs.length + ys.length ≤ sizeLine) (newLW (xs ++ ys))
theorem lo_addM : LO2 K rAddU addLM := fun c w s v u x y Q E o rx ry h => by
  obtain ⟨a, vs, xs, rfl, h1, r1, h⟩ := lst_of o rx h
  obtain ⟨b, us, ys, rfl, h2, r2, h⟩ := lst_of o ry h
  exact .inr (.inr ⟨a, b, vs, us, rfl, rfl, h1, h2, by rw [r1.len, r2.len]; exact h.1, fun l hl => newL_of o (r1.app r2) h.2 l hl⟩)
end
end Ly
namespace Ly
open PySem L2
open Lx (cutL)
abbrev Hm := Nat → Option MO
def hm0 : Hm := fun _ => none
def Hm.put (L : Hm) (i : Nat) (o : MO) : Hm := fun k => if k = i then some o else L k
theorem Hm.put_self {L : Hm} {i : Nat} {o : MO} : (L.put i o) i = some o := if_pos rfl
theorem Hm.put_ne {L : Hm} {i k : Nat} {o : MO} (h : k ≠ i) : (L.put i o) k = L k := if_neg h
structure HAt (I : List Nat) (base : List MO) (L : Hm) (st : List MO) : Prop where
  len : base.length ≤ st.length
  fr : ∀ k, k < base.length → k ∉ I → st[k]? = base[k]?
  lo : ∀ k o, L k = some o → base.length ≤ k ∨ k ∈ I
  has : ∀ k o, L k = some o → st[k]? = some o
section
variable {I : List Nat} {base st st' : List MO} {L L' L1 M2 : Hm} {i j : Nat} {o o' : MO}
theorem HAt.grow (h : HAt I base L st) (p : st <+: st') : HAt I base L st' := by
  obtain ⟨t, rfl⟩ := p
  refine ⟨by rw [List.length_append]; exact Nat.le_trans h.len (Nat.le_add_right _ _), fun k hk hi => ?_, h.lo, fun k o e => ?_⟩
  · rw [List.getElem?_append_left (Nat.lt_of_lt_of_le hk h.len)]; exact h.fr k hk hi
  · exact pre_get (List.prefix_append _ _) (h.has k o e)
theorem HAt.put (h : HAt I base L st) (e : L i = some o) : HAt I base (L.put i o') (st.set i o') := by
  refine ⟨by rw [List.length_set]; exact h.len, fun k hk hi => ?_, fun k x hx => ?_, fun k x hx => ?_⟩
  · have hne : i ≠ k := fun z => by
      subst z
      rcases h.lo _ _ e with h1 | h1
      · omega
      · exact hi h1
    rw [List.getElem?_set_ne hne]; exact h.fr k hk hi
  · by_cases z : k = i
    · subst z; exact h.lo _ _ e
    · rw [Hm.put_ne z] at hx; exact h.lo _ _ hx
  · by_cases z : k = i
    · subst z
      rw [Hm.put_self] at hx
      cases hx
      exact List.getElem?_set_self (List.getElem?_eq_some_iff.mp (h.has _ _ e)).1
    · rw [Hm.put_ne z] at hx
      rw [List.getElem?_set_ne (Ne.symm z)]
      exact h.has _ _ hx
theorem HAt.fresh (h : HAt I base L st) : L st.length = none := by
  cases e : L st.length with
  | none => rfl
  | some x =>
    have := (List.getElem?_eq_some_iff.mp (h.has _ _ e)).1
    omega
theorem HAt.new (h : HAt I base L st) : HAt I base (L.put st.length o) (st ++ [o]) := by
  refine ⟨by rw [List.length_append]; exact Nat.le_trans h.len (Nat.le_add_right _ _), fun k hk hi => ?_, fun k x hx => ?_, fun k x hx => ?_⟩
  · rw [List.getElem?_append_left (Nat.lt_of_lt_of_le hk h.len)]; exact h.fr k hk hi
  · by_cases z : k = st.length
    · subst z; exact .inl h.len
    · rw [Hm.put_ne z] at hx; exact h.lo _ _ hx
  · by_cases z : k = st.length
    · subst z
      rw [Hm.put_self] at hx
      cases hx
      simp
    · rw [Hm.put_ne z] at hx
      exact pre_get (List.prefix_append _ _) (h.has _ _ hx)
theorem HAt.weak (h : HAt I base L st) (hl : ∀ k o, L' k = some o → L k = some o) : HAt I base L' st := ⟨h.len, h.fr, fun k o e => h.lo k o (hl k o e), fun k o e => h.has k o (hl k o e)⟩
theorem HAt.pre (h : HAt [] base L st) : base <+: st := by
  refine List.prefix_iff_eq_take.mpr (List.ext_getElem? fun k => ?_)
  by_cases hk : k < base.length
  · rw [List.getElem?_take_of_lt hk]
    exact (h.fr k hk (fun z => by cases z)).symm
  · rw [List.getElem?_eq_none (by omega), List.getElem?_eq_none (by rw [List.length_take]; omega)]
theorem HAt.start : HAt [] st hm0 st := ⟨Nat.le_refl _, fun _ _ _ => rfl, fun _ _ z => (by cases z), fun _ _ z => (by cases z)⟩
theorem HAt.one (h : st[i]? = some o) : HAt [i] st (hm0.put i o) st := by
  refine ⟨Nat.le_refl _, fun _ _ _ => rfl, fun k x e => ?_, fun k x e => ?_⟩
  · by_cases z : k = i
    · subst z; exact .inr (List.mem_singleton.mpr rfl)
    · rw [Hm.put_ne z] at e; cases e
  · by_cases z : k = i
    · subst z; rw [Hm.put_self] at e; cases e; exact h
    · rw [Hm.put_ne z] at e; cases e
theorem HAt.set (h : HAt [i] base (hm0.put i o') st) (hb : base[i]? = some o) : base.set i o' <+: st := by
  have hi := (List.getElem?_eq_some_iff.mp hb).1
  refine List.prefix_iff_eq_take.mpr (List.ext_getElem? fun k => ?_)
  rw [List.length_set]
  by_cases hk : k < base.length
  · rw [List.getElem?_take_of_lt hk]
    by_cases z : k = i
    · subst z
      rw [List.getElem?_set_self hi, h.has k o' Hm.put_self]
    · rw [List.getElem?_set_ne (Ne.symm z)]
      exact (h.fr k hk (fun e => z (List.mem_singleton.mp e))).symm
  · rw [List.getElem?_eq_none (by rw [List.length_set]; omega), List.getElem?_eq_none (by rw [List.length_take]; omega)]
end
def Hd {A : Type} (I : List Nat) (L L' : Hm) (m : W A) (a : A) : Prop := ∀ base (s : S) (Q : S → A → Prop) (E : S → Xn → Prop), HAt I base L s.st → (∀ t : S, t.n = s.n → HAt I base L' t.st → Q t a) → m.wp s Q E
def Hw {A : Type} (I : List Nat) (B : Nat) (L : Hm) (m : W A) (R : A → Hm → Prop) : Prop := ∀ base (s : S) (E : S → Xn → Prop), B ≤ s.n → HAt I base L s.st → m.wp s (fun t a => s.n ≤ t.n + B ∧ ∃ L', HAt I base L' t.st ∧ R a L') E
section
variable {A C : Type} {I : List Nat} {L L' L1 M2 L3 : Hm} {i j v n : Nat} {o o' : MO} {m : W A} {a : A} {f : A → W C} {b : C} {δ ε η : List Sl}
theorem Hd.of (h : Rt m a) : Hd I L L m a := fun base s Q E ha q => h s Q E fun t e p => q t e (ha.grow p)
theorem Hd.ret : Hd I L L (W.ret a) a := Hd.of Rt.ret
theorem Hd.bind (h : Hd I L L1 m a) (k : Hd I L1 M2 (f a) b) : Hd I L M2 (m.bind f) b := fun base s Q E ha q => h base s _ E ha fun t e ha1 => k base t Q E ha1 fun u e2 ha2 => q u (e2.trans e) ha2
theorem Hd.need {c : Prop} (hc : c) (h : Hd I L L1 m a) : Hd I L L1 (W.need c m) a := fun base s Q E ha q => ⟨hc, h base s Q E ha q⟩
theorem Hd.cast {a' : A} (h : Hd I L L1 m a) (e : a = a') : Hd I L L1 m a' := e ▸ h
theorem Hd.castL (h : Hd I L L1 m a) (e : L1 = M2) : Hd I L M2 m a := e ▸ h
theorem Hd.calm (h : Hd I L L1 m a) : Hd I L L1 m.calm a := fun base s Q _ ha q => h base s Q _ ha q
theorem Hd.weak (h : Hd I L L1 m a) (hl : ∀ k o, M2 k = some o → L1 k = some o) : Hd I L M2 m a := fun base s Q E ha q => h base s Q E ha fun t e h1 => q t e (h1.weak hl)
theorem Hd.rt (h : Hd [] hm0 L1 m a) : Rt m a := fun s Q E q => h s.st s Q E HAt.start fun t e h1 => q t e h1.pre
theorem Hd.one (h : Hd [i] (hm0.put i o) (hm0.put i o') m a) {s : S} {Q : S → A → Prop} {E : S → Xn → Prop} (hs : s.st[i]? = some o) (q : ∀ t : S, t.n = s.n → s.st.set i o' <+: t.st → Q t a) : m.wp s Q E := h s.st s Q E (HAt.one hs) fun t e h1 => q t e (h1.set hs)
theorem Hd.ofOne (h : ∀ (s : S) (Q : S → A → Prop) (E : S → Xn → Prop), s.st[i]? = some o → (∀ t : S, t.n = s.n → s.st.set i o' <+: t.st → Q t a) → m.wp s Q E) (e : L i = some o) : Hd I L (L.put i o') m a := fun base s Q E ha q => h s Q E (ha.has _ _ e) fun t en p => q t en ((ha.put (o' := o') e).grow p)
theorem Hd.get (e : L i = some o) : Hd I L L (W.get i) o := fun base s Q E ha q => ⟨o, ha.has _ _ e, q s rfl ha⟩
theorem Hd.put (e : L i = some o) : Hd I L (L.put i o') (W.put i o') () := fun base s Q E ha q => q _ rfl (ha.put e)
theorem Hd.new {k : Nat → W C} (h : ∀ n, L n = none → Hd I (L.put n o) L1 (k n) b) : Hd I L L1 ((W.new o).bind k) b := fun base s Q E ha q => h s.st.length ha.fresh base ⟨s.n, s.st ++ [o]⟩ Q E ha.new q
theorem Hd.ins {g : Str × List (Str × D) → W C} {c : Str} {gs : List (Str × D)} (e : L i = some (.ins c gs)) (h : Hd I L L1 (g (c, gs)) b) : Hd I L L1 ((insD (.mu i)).bind g) b := Hd.bind (Hd.bind (Hd.get e) Hd.ret) h
theorem Hd.fld {c x : Str} {gs : List (Str × D)} {d : D} {fa : List Sl → W D} (ha : Hd I L L1 (fa δ) (.mu i)) (e : L1 i = some (.ins c gs)) (hd : gs.lookup x = some d) : Hd I L L1 (dFld x fa δ) d := Hd.bind ha (Hd.ins e (by dsimp only; rw [hd]; exact Hd.ret))
theorem Hd.var {d : D} (h : δ[v]? = some (some d)) : Hd I L L (dVar v δ) d := Hd.of (Rt.var h)
theorem Hd.fldV {c x : Str} {gs : List (Str × D)} {d : D} (h : δ[v]? = some (some (.mu i))) (e : L i = some (.ins c gs)) (hd : gs.lookup x = some d) : Hd I L L (dFld x (dVar v) δ) d := Hd.fld (Hd.var h) e hd
theorem Hd.setF {cl : List Str} {c x : Str} {gs : List (Str × D)} {d : D} {fe fo : List Sl → W D} (he : Hd I L L1 (fe δ) d) (ho : Hd I L1 L1 (fo δ) (.mu i)) (e : L1 i = some (.ins c gs)) (hc : c ∈ cl) (hl : gs.length < 900) : Hd I L (L1.put i (.ins c (putG x d gs))) (dSetF cl x fo fe δ) (.nx δ) :=
  Hd.bind he (Hd.bind ho (Hd.bind (Hd.get e) (Hd.need ⟨hc, hl⟩ (Hd.bind (Hd.put e) Hd.ret))))
theorem Hd.app {fe : List Sl → W D} {y : D} {xs ys : List D} (h : δ[v]? = some (some (.mu j))) (e0 : L j = some (.lst ys)) (he : Hd I L L1 (fe δ) y) (e : L1 j = some (.lst xs)) (hl : xs.length < 4000) : Hd I L (L1.put j (.lst (xs ++ [y]))) (dApp v fe δ) (.nx δ) := by
  unfold dApp
  refine Hd.bind (Hd.var h) (Hd.bind (Hd.get e0) (Hd.bind he (Hd.bind (Hd.get e) (Hd.need (by rw [sizeLine_eq]; omega) (Hd.bind (Hd.put e) Hd.ret)))))
theorem Hd.muW {g : Nat × List D → W C} {xs : List D} (e : L j = some (.lst xs)) (h : Hd I L L1 (g (j, xs)) b) : Hd I L L1 ((muW (.mu j)).bind g) b := Hd.bind (Hd.bind (Hd.get e) Hd.ret) h
theorem Hd.ice {rest : List Sl → W C} {xs : List D} (h : δ[v]? = some (some (.mu j))) (e : L j = some (.lst xs)) (hr : Hd I (L.put j .gone) L1 (rest (δ.set v (some (.lst xs)))) b) : Hd I L L1 ((iceD v δ).bind rest) b := by
  unfold iceD
  rw [h]
  exact Hd.bind (Hd.bind (Hd.get e) (Hd.bind (Hd.put e) Hd.ret)) hr
theorem Hd.nil : Hd I L L (dNil δ) [] := Hd.ret
theorem Hd.cons {fa : List Sl → W D} {fl : List Sl → W (List D)} {d : D} {ds : List D} (ha : Hd I L L1 (fa δ) d) (hl : Hd I L1 M2 (fl δ) ds) : Hd I L M2 (dCons fa fl δ) (d :: ds) := Hd.bind ha (Hd.bind hl Hd.ret)
theorem Hd.op2 {g : D → D → W D} {fa fb : List Sl → W D} {x y d : D} (ha : Hd I L L1 (fa δ) x) (hb : Hd I L1 M2 (fb δ) y) (hg : Rt (g x y) d) : Hd I L M2 (dOp2 g fa fb δ) d := Hd.bind ha (Hd.bind hb (Hd.of hg))
theorem Hd.lst {fl : List Sl → W (List D)} {ds : List D} (h : Hd I L L1 (fl δ) ds) (hn : ds.length ≤ 4000) : Hd I L L1 (dLst fl δ) (.lst ds) := Hd.bind h (Hd.need (small hn) Hd.ret)
theorem Hd.call {n : Nat} {g : List D → W D} {fl : List Sl → W (List D)} {ds : List D} {d : D} (hl : Hd I L L1 (fl δ) ds) (hn : ds.length = n) (hg : Hd I L1 M2 (g ds) d) : Hd I L M2 (dCall n g fl δ) d := Hd.bind hl (Hd.need hn hg)
theorem Hd.test {fe : List Sl → W D} {c : Bool} (h : Hd I L L1 (fe δ) (.bl c)) : Hd I L L1 (dTest fe δ) c := Hd.bind h Hd.ret
theorem Hd.and {t u : List Sl → W Bool} {x y : Bool} (ha : Hd I L L (t δ) x) (hb : x = true → Hd I L L (u δ) y) : Hd I L L (dAnd t u δ) (x && y) := by
  refine Hd.bind ha ?_
  cases x with
  | true => exact hb rfl
  | false => exact Hd.ret
variable {u : Out} {d : D} {ds : List D}
theorem Hd.seq {g h : List Sl → W Out} (hg : Hd I L L1 (g δ) (.nx ε)) (hh : Hd I L1 M2 (h ε) u) : Hd I L M2 (dSeq g h δ) u := Hd.bind hg hh
theorem Hd.next : Hd I L L (dNext δ) (.nx δ) := Hd.ret
theorem Hd.ite {t : List Sl → W Bool} {g h : List Sl → W Out} {k : Bool} (ht : Hd I L L1 (t δ) k) (hh : Hd I L1 M2 ((if k then g else h) δ) u) : Hd I L M2 (dIf t g h δ) u := Hd.bind ht (by cases k <;> exact hh)
theorem Hd.asg {fe : List Sl → W D} (h : Hd I L L1 (fe δ) d) : Hd I L L1 (dAsg fe (dName v) δ) (.nx (δ.set v (some d))) := Hd.bind h (Hd.bind Hd.ret Hd.ret)
theorem Hd.retv {fe : List Sl → W D} (h : Hd I L L1 (fe δ) d) : Hd I L L1 (dRet fe δ) (.rt d) := Hd.bind h Hd.ret
theorem Hd.bodyN {N : List Str} {g : List Sl → W Out} (h : Hd I L L1 (g (startD N ds)) (.nx ε)) : Hd I L L1 (dBody N g ds) .non := Hd.bind h Hd.ret
theorem Hd.for {fi : List Sl → W (List D)} {dg : D → List Sl → W (List Sl)} {gb : List Sl → W Out} (hi : Hd I L L1 (fi δ) ds) (h : Hd I L1 M2 (forD dg gb ds δ) u) : Hd I L M2 (dFor fi dg gb δ) u := Hd.bind hi h
theorem Hd.forN {dg : D → List Sl → W (List Sl)} {gb : List Sl → W Out} : Hd I L L (forD dg gb [] δ) (.nx δ) := Hd.ret
theorem Hd.forC {dg : D → List Sl → W (List Sl)} {gb : List Sl → W Out} (h1 : Rt (dg d δ) ε) (h2 : Hd I L L1 (gb ε) (.nx η)) (h3 : Hd I L1 M2 (forD dg gb ds η) u) : Hd I L M2 (forD dg gb (d :: ds) δ) u := Hd.bind (Hd.of h1) (Hd.bind h2 h3)
variable {B B1 B2 : Nat} {R : A → Hm → Prop} {T : C → Hm → Prop} {Q : A → Prop}
theorem Hw.ofD (h : Hd I L L1 m a) (q : R a L1) : Hw I B L m R := fun base s E hn ha => h base s _ E ha fun t e h1 => ⟨by omega, L1, h1, q⟩
theorem Hw.ret (q : R a L) : Hw I B L (W.ret a) R := Hw.ofD Hd.ret q
theorem Hw.bind (h : Hw I B1 L m R) (k : ∀ a L', R a L' → Hw I B2 L' (f a) T) (hb : B1 + B2 ≤ B) : Hw I B L (m.bind f) T := fun base s E hn ha =>
  m.mono (fun t a ⟨h1, L', h2, h3⟩ => (f a).mono (fun u c ⟨k1, L'', k2, k3⟩ => ⟨by omega, L'', k2, k3⟩) (fun _ _ z => z) (k a L' h3 base t E (by omega) h2)) (fun _ _ z => z) (h base s E (by omega) ha)
theorem Hw.bindD (h : Hd I L L1 m a) (k : Hw I B L1 (f a) T) : Hw I B L (m.bind f) T := Hw.bind (B1 := 0) (R := fun x L' => x = a ∧ L' = L1) (Hw.ofD h ⟨rfl, rfl⟩) (B2 := B) (fun x L' z => by obtain ⟨rfl, rfl⟩ := z; exact k) (by omega)
theorem Hw.bindR (h : Rt m a) (k : Hw I B L (f a) T) : Hw I B L (m.bind f) T := Hw.bindD (Hd.of h) k
theorem Hw.need {c : Prop} (hc : c) (h : Hw I B L m R) : Hw I B L (W.need c m) R := fun base s E hn ha => ⟨hc, h base s E hn ha⟩
theorem Hw.mono {R' : A → Hm → Prop} (h : Hw I B1 L m R) (hb : B1 ≤ B) (q : ∀ a L', R a L' → R' a L') : Hw I B L m R' := fun base s E hn ha => m.mono (fun t a ⟨h1, L', h2, h3⟩ => ⟨by omega, L', h2, q a L' h3⟩) (fun _ _ z => z) (h base s E (by omega) ha)
theorem Hw.tm (h : Hw [] B hm0 m fun a _ => Q a) : Tm B m Q := fun s E hn => m.mono (fun t a ⟨h1, L', h2, h3⟩ => ⟨h1, h2.pre, h3⟩) (fun _ _ z => z) (h s.st s E hn HAt.start)
theorem Hw.newL {fl : List Sl → W (List D)} {xs : List D} {rest : List Sl → W Out} {T : Out → Hm → Prop} (hl : Hd I L L1 (fl δ) xs) (hx : xs.length ≤ 4000) (h : ∀ n, L1 n = none → Hw I B (L1.put n (.lst xs)) (rest (δ.set v (some (.mu n)))) T) : Hw I B L (dSeq (dNewL fl v) rest δ) T := fun base s E hn ha =>
  hl base s _ E ha fun t et ha1 => ⟨small hx, (rest _).mono (fun w y ⟨h1, z⟩ => ⟨by have h1 : t.n ≤ w.n + B := h1; omega, z⟩) (fun _ _ z => z) (h t.st.length ha1.fresh base ⟨t.n, t.st ++ [.lst xs]⟩ E (by show B ≤ t.n; omega) ha1.new)⟩
theorem Hw.seq {g h : List Sl → W Out} {T : Out → Hm → Prop} (hg : Hd I L L1 (g δ) (.nx ε)) (hh : Hw I B L1 (h ε) T) : Hw I B L (dSeq g h δ) T := Hw.bindD hg hh
theorem Hw.ice {rest : List Sl → W C} {xs : List D} (h : δ[v]? = some (some (.mu j))) (e : L j = some (.lst xs)) (hr : Hw I B (L.put j .gone) (rest (δ.set v (some (.lst xs)))) T) : Hw I B L ((iceD v δ).bind rest) T := by
  unfold iceD
  rw [h]
  exact Hw.bindD (Hd.bind (Hd.get e) (Hd.bind (Hd.put e) Hd.ret)) hr
end
end Ly
namespace Ly
open PySem L2
def shw (d : D) : Str := match toP d with
  | some p => p.shown
  | none => ""
structure Shn (k w : Nat) (d : D) : Prop where
  ex : ∃ p, toP d = some p ∧ p.showable = true ∧ p.depth ≤ k ∧ p.hasDict = false ∧ p.leavesShort 13 = true ∧ p.weight ≤ w
structure ShnL (k w : Nat) (ds : List D) : Prop where
  ex : ∃ ps, toPs ds = some ps ∧ PyData.showableAll ps = true ∧ PyData.depthAll ps ≤ k ∧ PyData.hasDictAll ps = false ∧ PyData.leavesShortAll 13 ps = true ∧ PyData.weightAll ps ≤ w
section
variable {k k' w w' w2 n : Nat} {d : D} {ds : List D} {x : Str}
theorem ShnL.up (h : ShnL k w ds) (hk : k ≤ k') (hw : w ≤ w') : ShnL k' w' ds := by
  obtain ⟨p, h1, h2, h3, h4, h5, h6⟩ := h.ex
  exact ⟨p, h1, h2, Nat.le_trans h3 hk, h4, h5, Nat.le_trans h6 hw⟩
theorem ShnL.nil : ShnL k w [] := ⟨[], by rw [toPs], rfl, Nat.zero_le _, rfl, rfl, Nat.zero_le _⟩
theorem ShnL.cons (h : Shn k w d) (hs : ShnL k w2 ds) : ShnL k (w + 1 + w2) (d :: ds) := by
  obtain ⟨p, h1, h2, h3, h4, h5, h6⟩ := h.ex
  obtain ⟨ps, g1, g2, g3, g4, g5, g6⟩ := hs.ex
  refine ⟨p :: ps, by rw [toPs, h1, g1]; rfl, ?_, ?_, ?_, ?_, ?_⟩
  · show (p.showable && PyData.showableAll ps) = true
    rw [h2, g2]; rfl
  · show max p.depth (PyData.depthAll ps) ≤ k
    exact Nat.max_le.mpr ⟨h3, g3⟩
  · show (p.hasDict || PyData.hasDictAll ps) = false
    rw [h4, g4]; rfl
  · show (p.leavesShort 13 && PyData.leavesShortAll 13 ps) = true
    rw [h5, g5]; rfl
  · show p.weight + 1 + PyData.weightAll ps ≤ w + 1 + w2
    omega
theorem Shn.lst (h : ShnL k w ds) : Shn (k + 1) w (.lst ds) := by
  obtain ⟨ps, g1, g2, g3, g4, g5, g6⟩ := h.ex
  exact ⟨.list ps, by rw [toP, g1]; rfl, g2, Nat.succ_le_succ g3, g4, g5, g6⟩
theorem Shn.bl {b : Bool} : Shn 0 1 (.bl b) := ⟨.bool b, by rw [toP], rfl, Nat.le_refl _, rfl, rfl, by cases b <;> decide⟩
theorem Shn.rp (h : Shn k w d) (hk : k ≤ 60) (hw : w ≤ 1000000) : Rt (reprD [d]) (.str (shw d)) := by
  obtain ⟨p, h1, h2, h3, h4, h5, h6⟩ := h.ex
  have e : shw d = p.shown := by unfold shw; rw [h1]
  rw [e]
  show Rt (match toP d with | some d => W.need (d.showable = true ∧ d.depth ≤ 60 ∧ d.hasDict = false ∧ d.shown.length ≤ sizeLine) (W.ret (D.str d.shown)) | none => W.stuck) _
  rw [h1]
  exact Rt.need ⟨h2, Nat.le_trans h3 hk, h4, PyData.shown_fits (B := 13) (by decide) (by decide) h5 (Nat.le_trans h6 (Nat.le_trans hw (by decide)))⟩ Rt.ret
theorem ne_sameT {a : Str} : Rt (neD (.str a) (.str a)) (.bl false) := Rt.ret.cast (by simp)
end
end Ly
namespace Ly
open PySem PySem.Spec L2 PyProof.Rows He
open Lx (Le Ky vTy)
theorem fy_cm {K : PySem.W.Frag} {x m : Str} (h : (Fy.cm x m).ok K = true) : ClX.CRead K (ga K x) (.type "type") ∧ ClX.CMet K (ga K x) (.type "type") m (ma K (ga K x) m) (He5.wf K (ga K x) "classmethod" m) := by
  obtain ⟨h1, h⟩ := ba h
  obtain ⟨h2, h⟩ := ba h
  obtain ⟨h3, h4⟩ := ba h
  exact ⟨⟨h3, eqO_ok h4⟩, He5.cmet_of h1 h2⟩
def tCM (C : Addr) (sp : L2.Sp) (E : XK) (t : TA) : TE := fun σ H Q => t σ H fun vs H1 => sp (.ref C :: vs) H1 Q E
section
variable {X : Cx} {E : XK} {k n : Nat} {C q g : Addr} {mc : Value} {sp : L2.Sp} {x m : Str} {p pos apos : Pos} {e : Expr} {es : List Expr} {t tk : TA} {pl : Sem Bool} {dvs : List V} {ks : List Str} {is : List Nat} {kws : List Keyword}
theorem pe_cm (hg : Gl X x) (hm : X.mg x = some (.ref C)) (rc : ClX.CRead X.K C mc ∧ ClX.CMet X.K C mc m q g) (F : Fk X.prog X.w X.K X.mg X.base k g sp) (hr : Room k X.A) (hx : Passes (L2.CX X.prog X.w) X E) (ha : PA X (e :: es) t)
    (hdb : (x == ("__debug__" : Str)) = false := by decide)
    (hst : starEach (e :: es) X.env = (false, eval e X.env) :: starEach es X.env := by rfl) (hpl : (backTo pos (starEach es X.env)).any (·.1) = false := by rfl)
    (ht : eval (.Call (.Attribute (.Name x p) m apos) (e :: es) [] pos) X.env = (do
      let ov ← eval (.Name x p) X.env
      standAt apos.atName
      let (f, first) ← holding [ov] (getMethod ov m pl)
      callWith pos f first (backTo pos (starEach (e :: es) X.env)) (backToKw pos (keywordEach [] X.env))) := by rfl) :
    PE X (.Call (.Attribute (.Name x p) m apos) (e :: es) [] pos) (tCM C sp E t) := by
  obtain ⟨fd, ps, G, hb, hk⟩ := F.ex
  obtain ⟨r, cm⟩ := rc
  refine ⟨fun pins s σ H Q I h => ?_⟩
  refine PySem.W.methodCall_KW (pl := pl) (ld_glob I hg hm ?_ hdb) ht
  refine ClX.getmethcm_ok I r cm fun s2 I2 => ?_
  refine ClX.callwith_cm I2 (ClX.base_none I (Nat.le_refl _)) cm.fi (thn (ha.run pos _ s2 σ H _ I2 h) fun us s3 ⟨vs, H2, I3, rv, q2⟩ => ⟨⟨ClX.pin_at I3, I3.kIn⟩, ?_⟩) hst hpl
  refine ClX.run_cm (G.raw hb .nil) hr hx I3 rv ?_
  show sp ((V.ref C :: vs) ++ []) H2 Q E
  rw [List.append_nil]
  exact q2
end
@[reducible] def dCM (cl : Str) (m : Nat) (g : List D → W D) (f : List Sl → W (List D)) : List Sl → W D := fun δ => (f δ).bind fun ds => W.need ((D.cls cl :: ds).length = m) (g (.cls cl :: ds))
section
variable {K : PySem.W.Frag} {cl : Str} {m mm n : Nat} {is : List Nat} {g : List D → W D} {t tk : XK → TA} {f fk : List Sl → W (List D)}
theorem le_cm (ha : LA K t f) : LE K (fun E => tCM (ga K cl) (Pr K m g) E (t E)) (dCM cl m g f) := fun c w s σ δ Q E o sl h =>
  ha c w s σ δ _ E o sl (h.bind.mono fun ds w1 s1 g1 o1 p vs r1 => ⟨c, w1, s1, .cls cl :: ds, rfl, o1, .cons (.cls rfl) r1, p.1, p.2⟩)
end
end Ly
namespace Ly
open PySem PySem.Spec L2 PyProof.Rows He
open Lx (Le Ky vTy)
structure BEnt (X : Cx) (nm : String) (ds : List Str) (cl : Str) (g : List D → W D) : Prop where
  ex : ∃ (CX : CXT) (k : Nat) (f : Addr) (fd : FuncData) (ps : List Str), Cls X.K (ga X.K cl) ∧ opB X.K (ga X.K cl) f nm = true ∧ PySem.W.isFn X.K (.ref f) = true ∧
    (∀ d ∈ ds, (∃ f2, opB X.K (ga X.K d) f2 nm = true) ∧ rightB X.K (ga X.K cl) (ga X.K d) nm = true) ∧ FnOk X.prog X.w X.K X.mg X.base CX k f fd ps (Pr X.K 2 g) ∧ Room (k + 1) X.A ∧ Binds X.K fd ps [] ∧ Passes CX X E0
inductive BTab (X : Cx) (nm : String) (ds : List Str) : Tb → Prop
  | nil : BTab X nm ds []
  | cons {cl : Str} {g : List D → W D} {tb : Tb} : BEnt X nm ds cl g → BTab X nm ds tb → BTab X nm ds ((cl, g) :: tb)
theorem BTab.get {X : Cx} {nm : String} {ds : List Str} {cl : Str} {g : List D → W D} : ∀ {tb : Tb}, BTab X nm ds tb → tb.lookup cl = some g → BEnt X nm ds cl g
  | _, .nil, h => by cases h
  | _, .cons (cl := d) a r, h => by
    rw [List.lookup_cons] at h
    cases q : (cl == d) with
    | true => rw [q] at h; cases h; rw [eq_of_beq q]; exact a
    | false => rw [q] at h; exact r.get h
def rBin (K : PySem.W.Frag) (tb : Tb) (ds : List Str) : R2 := fun x y H Q => ∃ a cl dx fs g b dl dy gs, x = .ref a ∧ H a = some (.ins (ga K cl) dx fs) ∧ tb.lookup cl = some g ∧ y = .ref b ∧ H b = some (.ins (ga K dl) dy gs) ∧ dl ∈ ds ∧
  Pr K 2 g [.ref a, y] H (fun v H' => (∃ p, v = .ref p) ∧ Q v H') E0
section
variable {X : Cx} {tb : Tb} {ds : List Str} {nm : String} {op : Operator}
theorem op_bin (hop : op.info.2 = nm) (hh : X.A.handled = none) (T : BTab X nm ds tb) : OpR X (binaryOp op) (rBin X.K tb ds) := by
  intro pins s σ H x y u v Q I rx ry h
  obtain ⟨a, cl, dx, fs, g, b, dl, dy, gs, rfl, ha, eg, rfl, hb0, hd, q⟩ := h
  obtain rfl : u = Value.ref a := rx
  obtain rfl : v = Value.ref b := ry
  obtain ⟨CX, k, f, fd, ps, hC, h1, h2, h3, F, hr, hb, hx⟩ := (T.get eg).ex
  obtain ⟨⟨f2, h4⟩, h5⟩ := h3 dl hd
  obtain ⟨mA, J, _⟩ := ins_get I.hok ha
  obtain ⟨od, J, _⟩ := J.look
  obtain ⟨mB, J2, _⟩ := ins_get I.hok hb0
  obtain ⟨od2, J2, _⟩ := J2.look
  show wpAny (model X.prog X.w) X.A (binaryOp op (.ref a) (.ref b)) (EP X pins σ Q) X.xe s
  refine binop_own hop hh I.kIn J.type J2.type h1 h4 h5 h2 fun h' tk hk => ?_
  obtain ⟨hp0, g0, d0, t0, o0⟩ := s
  have I2 : Inv X pins σ H ⟨h', g0, d0, tk, o0⟩ := I.kept (t' := tk) hk
  have hl := F.len _ _ _ _ q
  have r2 : Vals [V.ref a, V.ref b] [Value.ref a, .ref b] := .cons rfl (.cons rfl .nil)
  have bd := hb ⟨h', g0, d0, tk, o0⟩ [.ref a, .ref b] I2.kIn (by simpa using hl)
  rw [List.append_nil] at bd
  refine wpAny_call (codeAny_mono (F.run X.A X.stack _ H ⟨[.ref a, .ref b], []⟩ [.ref a, .ref b] [.ref a, .ref b] _ E0 (hr.mono (Nat.le_succ _)) I2.env0 bd r2 q) fun r s' hq => ?_)
  cases r with
  | error e => exact hx pins σ H _ e s' I2 hq
  | ok fl =>
    cases fl with
    | ret w =>
      obtain ⟨z, H', I', rz, ⟨p, ez⟩, q2⟩ := I2.after hq
      subst ez
      cases rz
      exact ⟨.ref p, H', I', rfl, q2⟩
    | next => exact False.elim hq
    | brk => exact False.elim hq
    | cont => exact False.elim hq
end
@[reducible] def binO (tb : Tb) (ds : List Str) (x y : D) : W D := match x with
  | .obj cl fs => (match y with
    | .obj dl gs => (match tb.lookup cl with
      | some g => W.need (dl ∈ ds) (((g [.obj cl fs, .obj dl gs]).calm).bind fun d => (match d with
        | .obj c hs => W.ret (.obj c hs)
        | _ => W.stuck))
      | none => W.stuck)
    | _ => W.stuck)
  | _ => W.stuck
theorem lo_bin {K : PySem.W.Frag} {tb : Tb} {ds : List Str} : LO2 K (rBin K tb ds) (binO tb ds) := fun c w s v u x y Q E o rx ry h => by
  have rx0 := rx; have ry0 := ry
  cases rx with
  | @obj a dx cl fs gs hf hC hn rf =>
    cases ry with
    | @obj b dy dl fs2 gs2 hf2 hC2 hn2 rf2 =>
      have h : Den K c (match tb.lookup cl with
        | some g => W.need (dl ∈ ds) (((g [.obj cl gs, .obj dl gs2]).calm).bind fun d => (match d with
          | .obj c hs => W.ret (D.obj c hs)
          | _ => W.stuck))
        | none => W.stuck) w s (qV K c Q) E := h
      cases e : tb.lookup cl with
      | none => rw [e] at h; exact h.elim
      | some g =>
        rw [e] at h
        obtain ⟨hd, h⟩ := h
        refine ⟨a, cl, dx, fs, g, b, dl, dy, fs2, rfl, o.fro _ _ hf, e, rfl, o.fro _ _ hf2, hd, c, w, s, [.obj cl gs, .obj dl gs2], rfl, o, .cons rx0 (.cons ry0 .nil), rfl, (Den.bind h).calm.mono fun d w1 s1 g1 o1 q v1 r1 => ?_⟩
        have r10 := r1
        cases r1 with
        | obj _ _ _ _ => exact ⟨⟨_, rfl⟩, q.ret o1 _ r10⟩
        | _ => exact q.elim
    | _ => exact h.elim
  | _ => exact h.elim
inductive TabB (P : Program) (w : World) (K : PySem.W.Frag) (mg : Str → Option Value) (base : Heap) (k : Nat) (nm : String) (ds : List Str) : Tb → Prop
  | nil : TabB P w K mg base k nm ds []
  | cons {cl : Str} {g : List D → W D} {tb : Tb} {f : Addr} : Cls K (ga K cl) → opB K (ga K cl) f nm = true → PySem.W.isFn K (.ref f) = true → (∀ d ∈ ds, (∃ f2, opB K (ga K d) f2 nm = true) ∧ rightB K (ga K cl) (ga K d) nm = true) →
    Fk P w K mg base k f (Pr K 2 g) → TabB P w K mg base k nm ds tb → TabB P w K mg base k nm ds ((cl, g) :: tb)
theorem TabB.bt {X : Cx} {k : Nat} {nm : String} {ds : List Str} {tb : Tb} (T : TabB X.prog X.w X.K X.mg X.base k nm ds tb) (hr : Room (k + 1) X.A) : BTab X nm ds tb := by
  induction T with
  | nil => exact .nil
  | cons a b c d g _ ih =>
    obtain ⟨fd, ps, G, hb, hk⟩ := g.ex
    exact .cons ⟨_, _, _, _, _, a, b, c, d, G, hr, hb, px0⟩ ih
theorem pe_bin {X : Cx} {k : Nat} {op : Operator} {nm : String} {ds : List Str} {tb : Tb} {a b : Expr} {ta tb' : TE} {pos : Pos} (hop : op.info.2 = nm) (hh : X.A.handled = none) (T : TabB X.prog X.w X.K X.mg X.base k nm ds tb) (hr : Room (k + 1) X.A) (ha : PE X a ta) (hb : PE X b tb') :
    PE X (.BinOp a op b pos) (tOp (rBin X.K tb ds) ta tb') := pe_op (op_bin hop hh (T.bt hr)) ha hb
theorem fy_op {K : PySem.W.Frag} {x y m : Str} {nm : String} (h : (Fy.op x y nm m).ok K = true) : opB K (ga K x) (ma K (ga K y) m) nm = true ∧ PySem.W.isFn K (.ref (ma K (ga K y) m)) = true := by
  have h : (decide (m = dunder nm) && (opB K (ga K x) (ma K (ga K y) m) nm && PySem.W.isFn K (.ref (ma K (ga K y) m)))) = true := h
  simp only [Bool.and_eq_true] at h
  exact h.2
theorem fy_rop {K : PySem.W.Frag} {x z : Str} {nm : String} (h : (Fy.rop x z nm).ok K = true) : rightB K (ga K x) (ga K z) nm = true := h
end Ly
namespace Ly
open PySem PySem.Spec PyProof.Rows L2
abbrev set0 (w : World) : Obj := { cls := .type "set", dict := none, data := .set #[] 0 (.fresh 0 0 (!w.params.followText "set-order")) }
section
variable {P : Program} {w : World} {A : Around} {E : Value → Shared → Prop} {s : Shared}
theorem call_set_lstI {l : Addr} {xs : Array Value} (ns : List Int) {Q : Value → Shared → Prop} (hh : A.handled = none) (hl : s.heap.IsList l xs) (hit : IntsAre xs.toList ns) (hb : ns.length + 1 < scanBound)
    (h : ∀ (h' : Heap) (tk c : Nat), SetR w h' s.heap.objs.size (fun j => decide (j ∈ ns)) c → c ≤ ns.length → (∀ b o, s.heap.get? b = some o → h'.get? b = some o) → Q (.ref s.heap.objs.size) { s with heap := h', toks := tk }) :
    wpAny (model P w) A (call (.type "set") [.ref l]) Q E s := by
  have hisz : xs.size = ns.length := by
    have q := IntsAre.length hit
    rw [Array.length_toList] at q
    exact q
  obtain ⟨c, tl, hmro⟩ := F.called_set.mro
  have hmade := F.called_set.made
  have hsub := F.called_set.sub
  refine wpAny_call (codeAny_of_tree ?_)
  show wpAny _ _ (callAny (.type "set") _) _ _ _
  refine wpAny_pure ⟨Code.quiet_builtin _ (by decide +kernel), codeAny_builtin F.entry_type_call ?_⟩
  rw [Around.under_plain (weight_type_call_type "set" [.ref l] []) rfl]
  have h1 := F.called_set.notType
  have h2 := F.called_set.canCreate
  have hct := F.typeCall_set_1 (.ref l)
  repeat (any_goals (first | assumption | wp_step))
  refine codeAny_mono (code_set_led1 (.ref l) (E := E) (Q₁ := fun obj s₁ => obj = .ref s.heap.objs.size ∧ s₁ = { s with heap := s.heap.push (set0 w) }) ⟨rfl, rfl⟩) fun r s₁ hr => ?_
  cases r with
  | error e => exact hr
  | ok fl =>
    cases fl with
    | ret obj =>
      obtain ⟨rfl, rfl⟩ := hr
      have hS : (s.heap.push (set0 w)).get? s.heap.objs.size = some (set0 w) := Heap.get?_push_size _ rfl
      have hT : Shared.TypeIs { s with heap := s.heap.push (set0 w) } (.ref s.heap.objs.size) "set" := ⟨_, hS, rfl⟩
      have hli := F.called_set.init.lookup
      have hbi := F.called_set.init.bind (.ref s.heap.objs.size)
      repeat (any_goals (first | assumption | wp_step))
      refine codeAny_mono (codeAny_call_builtin (R := wants (fun r s₂ => r = .none ∧ ∃ h' tk c, s₂ = { s with heap := h', toks := tk } ∧ SetR w h' s.heap.objs.size (fun j => decide (j ∈ ns)) c ∧ c ≤ ns.length ∧
          (∀ b o, s.heap.get? b = some o → h'.get? b = some o)) E) F.called_set.init.plain F.entry_set_init (check_set_init_1 hT ?_)) fun r₂ s₂ hr₂ => ?_
      · obtain ⟨ol, hl0, hcl, nl, hdl⟩ := hl
        obtain ⟨ocls, odict, odata, oslots⟩ := ol
        simp only at hcl hdl
        subst hcl; subst hdl
        have hl0' : (s.heap.push (set0 w)).get? l = some { cls := .type "list", dict := odict, data := .seq xs nl, slots := oslots } := Heap.get?_push_of_some _ hl0
        have hsls := F.sub_list_set
        have hslf := F.sub_list_frozenset
        have hne : (Value.type "list" == Value.type "dict") = false := by decide
        have hl1 : (s.heap.push (set0 w)).IsList l xs := ⟨_, hl0', rfl, nl, rfl⟩
        unfold Builtin.«set.__init__» noKeywords Builtin.Frozenset.updateFrom
        generalize hPI : pyIter = PI
        wp_walk
        subst hPI
        refine wpAny_pyIter_list hl1 ?_
        refine wpAny_bind (wpAny_runValue ?_)
        have hlS : l < s.heap.objs.size := Heap.lt_size hl0
        have hh3 : A.in1.in1.in1.handled = none := by simp [hh]
        have hz1 : (s.heap.push (set0 w)).objs.size = s.heap.objs.size + 1 := Heap.size_push ..
        have hneI : l ≠ (s.heap.push (set0 w)).objs.size := by
          rw [Heap.size_push]; exact Nat.ne_of_lt (Nat.lt_succ_of_lt hlS)
        have hSf : s.heap.objs.size ∉ [(s.heap.push (set0 w)).objs.size, l] := by
          rw [Heap.size_push]; simp only [List.mem_cons, List.mem_singleton, List.not_mem_nil, or_false, not_or]
          exact ⟨Nat.ne_of_lt (Nat.lt_succ_self _), Nat.ne_of_gt hlS⟩
        have hval : ∀ (i : Nat) (v : Value), xs[i]? = some v → ∃ k t, ns[i]? = some k ∧ v = .int k t := fun i v hv => by
          have hi : i < ns.length := by rw [← hisz]; exact (Array.getElem?_eq_some_iff.mp hv).1
          obtain ⟨t, e⟩ := PyProof.Rows.IntsAre.int_at hit i v (by rw [Array.getElem?_toList]; exact hv)
          refine ⟨ns[i], t, List.getElem?_eq_getElem hi, ?_⟩
          rw [e, List.getD_eq_getElem?_getD, List.getElem?_eq_getElem hi] <;> rfl
        refine set_update_ints ((Walks.list hh3 _ l hneI xs).toS) s.heap.objs.size
          hSf ns hisz hb hval (xs.size - 0) 0 _ (by omega) (Nat.zero_le _)
          ⟨⟨_, Heap.get?_push_size _ rfl, rfl, rfl⟩, (hl1.push _)⟩ ?hS0 ?hR
        case hS0 =>
          have hget : ((s.heap.push (set0 w)).push { cls := .type "list_iterator", data := .fields #[.ref l, .int 0 0] }).get? s.heap.objs.size
              = some (set0 w) := Heap.get?_push_of_some _ hS
          exact ⟨0, Nat.le_refl 0, setR_new_at hget⟩
        case hR =>
          intro s' c' hm hc' hS'
          obtain ⟨h', g2, d', tk', os'⟩ := s'
          have eg : g2 = s.gens := hm.gens
          have ed : d' = s.drawn := hm.drawn
          have eo : os' = s.os := hm.os
          subst eg; subst ed; subst eo
          show wpAny _ _ _ _ _ _
          refine wpAny_pure ?_
          show wpAny _ _ (ret Value.none) _ _ _
          rw [hisz] at hc'
          refine wpAny_pure ⟨rfl, h', tk', c', rfl, hS', hc', fun b o e => ?_⟩
          have hb0 : b < s.heap.objs.size := Heap.lt_size e
          have hb1 : b ≠ s.heap.objs.size := Nat.ne_of_lt hb0
          have hb2 : b ≠ (s.heap.push (set0 w)).objs.size := by
            rw [Heap.size_push]; exact Nat.ne_of_lt (Nat.lt_succ_of_lt hb0)
          exact hm.heap b o (by simp only [List.mem_cons, List.mem_singleton, List.not_mem_nil, or_false, not_or]; exact ⟨hb1, hb2⟩) (Heap.get?_push_of_some _ (Heap.get?_push_of_some _ e))
      · cases r₂ with
        | error e => exact hr₂
        | ok fl₂ =>
          cases fl₂ with
          | ret r =>
            obtain ⟨rfl, h', tk, c', rfl, hS', hc', hk'⟩ := hr₂
            repeat (any_goals (first | assumption | wp_step))
            exact h _ _ _ hS' hc' hk'
          | _ => exact hr₂.elim
    | _ => exact hr.elim
end
def tSortSetI (K : PySem.W.Frag) (ta : TE) : TE := fun σ H Q => ta σ H fun x H1 => ∃ (a : Addr) (ns : List Int), x = .ref a ∧ H1 a = some (.lst (ns.map V.int)) ∧ ns.length < 60 ∧ ∀ (p : Addr) (ms : List Int), H1 p = none → ms.Pairwise (· < ·) → (∀ k, k ∈ ms ↔ k ∈ ns) → ms.length ≤ ns.length → Q (.ref p) (upd H1 p (.lst (ms.map V.int)))
section
variable {X : Cx}
theorem pe_sortSetI {a : Expr} {ta : TE} {p p2 q pos : Pos} (hc : X.calm = true) (hg : Gl X "sorted") (hm : X.mg "sorted" = none) (hg2 : Gl X "set") (hm2 : X.mg "set" = none) (ha : PE X a ta)
    (na : starEach [a] X.env = (false, eval a X.env) :: starEach [] X.env := by rfl) : PE X (.Call (.Name "sorted" p) [.Call (.Name "set" p2) [a] [] q] [] pos) (tSortSetI X.K ta) := by
  refine ⟨fun pins s σ H Q I h => ?_⟩
  refine Call_ (ld_blt I hg hm boot_sorted ?_)
  refine PyProof.Rows.callWith_builtin1 (PyProof.Rows.args_cons ?_ rfl) rfl rfl
  refine Call_ (ld_blt I hg2 hm2 boot_set ?_)
  refine PyProof.Rows.callWith_type1 (PyProof.Rows.args_cons (thn (ha.run pins s σ H _ I h) fun v s1 ⟨x, H1, I1, r1, q1⟩ => PyProof.Rows.args_nil ?_) na) na rfl
  obtain ⟨y, ns, rfl, hy, h60, q1⟩ := q1
  obtain rfl : v = Value.ref y := r1
  obtain ⟨its, c0, rv, ho⟩ : ∃ (its : Array Value) (c0 : Nat), Vals (ns.map V.int) its.toList ∧ s1.heap.get? y = some (seqObj "list" its c0) := by
    obtain ⟨_, its, c0, rv, ho⟩ := I1.hok y _ hy
    exact ⟨its.toArray, c0, rv, ho⟩
  have hi : IntsAre its.toList ns := ints_of_vals rv
  refine call_set_lstI ns (I1.ok.hd hc) (show s1.heap.IsList y its from ⟨_, ho, rfl, _, rfl⟩) hi (by unfold scanBound; omega) fun h' tk c R1 hcn hk => ?_
  refine PyProof.Rows.args_nil ?_
  have I2 : Inv X pins σ H1 { s1 with heap := h', toks := tk } := I1.kept hk
  refine sorted_set R1 (I2.ok.hd hc) (by omega) fun s' pp out c ms k1 g1 o1 hz ho2 hA hp hm hl => ?_
  have hv : Vals (ms.map V.int) out.toList := vals_of_ints hA
  have hzz : (ms.map V.int).length ≤ sizeLine := by rw [List.length_map, sizeLine_eq, hl]; omega
  have hn : H1 pp = none := I2.hok.fresh hz
  have J : Inv X pins σ (upd H1 pp (.lst (ms.map V.int))) { ({ s1 with heap := h', toks := tk } : Shared) with heap := s'.heap, gens := s'.gens, drawn := s'.drawn, toks := s'.toks } :=
    I2.call (ch := []) (Un.laid k1 hz hn) (I2.hok.laid k1 hz ⟨hzz, out.toList, c, hv, ho2⟩) (by rw [g1]; exact I2.bare) (fun _ z => nomatch z)
  have e : s' = { ({ s1 with heap := h', toks := tk } : Shared) with heap := s'.heap, gens := s'.gens, drawn := s'.drawn, toks := s'.toks } := by
    cases s'
    have o1 : _ = s1.os := o1
    subst o1
    rfl
  rw [e]
  exact ⟨.ref pp, _, J, rfl, q1 pp ms hn hp (fun k => by rw [hm k, decide_eq_true_eq]) (by omega)⟩
end
@[reducible] def dSortSetI (fa : List Sl → W D) : List Sl → W D := fun δ => (fa δ).bind fun x => match x with
  | .lst ds => W.need (∃ ns : List Int, ds = ns.map D.int ∧ ns.length < 60) (W.any 0 fun d => ∃ ns ms : List Int, ds = ns.map D.int ∧ d = .lst (ms.map D.int) ∧ ms.Pairwise (· < ·) ∧ (∀ k, k ∈ ms ↔ k ∈ ns) ∧ ms.length ≤ ns.length)
  | _ => W.stuck
theorem repL_intz {K : PySem.W.Frag} {c : Cg} {al : List Addr} {F : Hp} : ∀ ns : List Int, RepL K c al F (ns.map V.int) (ns.map D.int)
  | [] => .nil
  | n :: r => .cons (.int n) (repL_intz r)
theorem repL_int_inv {K : PySem.W.Frag} {c : Cg} {al : List Addr} {F : Hp} : ∀ {ns : List Int} {vs : List V}, RepL K c al F vs (ns.map D.int) → vs = ns.map V.int
  | [], _, .nil => rfl
  | n :: r, _, .cons a b => by cases a; rw [repL_int_inv b]; rfl
theorem le_sortSetI {K : PySem.W.Frag} {ta : XK → TE} {fa : List Sl → W D} (ha : LE K ta fa) : LE K (fun E => tSortSetI K (ta E)) (dSortSetI fa) := fun c w s σ δ Q E o sl h => by
  refine ha c w s σ δ _ E o sl (Den.bind h |>.mono fun x w1 s1 g1 o1 q v r1 => ?_)
  cases r1 with
  | @lst a vs ds hf rl =>
    obtain ⟨⟨ns, rfl, hl⟩, k, hk, q2⟩ := q
    obtain rfl := repL_int_inv rl
    refine ⟨a, ns, rfl, o1.fro _ _ hf, hl, fun p ms hp h1 h2 h3 => ?_⟩
    have ek : (⟨k, s1.st⟩ : S) = s1 := by
      have : s1.n = k := hk
      rw [← this]
    obtain ⟨o2, g2⟩ := o1.lay (o := .lst (ms.map V.int)) hp notOwn.1
    exact q2 _ ⟨ns, ms, rfl, rfl, h1, h2, h3⟩ _ g2 (by rw [ek]; exact o2) (.ref p) (.lst upd_same (repL_intz ms))
  | _ => exact q.elim
end Ly
namespace Ly
open PySem PySem.Spec L2 PyProof.Rows He
open Lx (Le)
@[reducible] def dPopV (fo f : List Sl → W D) : List Sl → W D := fun δ => (fo δ).bind fun x => (muW x).bind fun _ => (f δ).bind fun y => (muW x).bind fun p => match y with
  | .int i => W.need (0 ≤ i ∧ p.2.length ≤ sizeLine) (match p.2[i.toNat]? with
    | some d => (W.put p.1 (.lst (p.2.eraseIdx i.toNat))).bind fun _ => W.ret d
    | none => W.stuck)
  | _ => W.stuck
theorem le_popV {K : PySem.W.Frag} {to te : XK → TE} {fo f : List Sl → W D} (ho : LE K to fo) (he : LE K te f) : LE K (fun E => tBM K "list" rPopAt (to E) (L2.tCons (te E) L2.tNil)) (dPopV fo f) := fun c w s σ δ Q E o sl q =>
  ho c w s σ δ _ E o sl (q.bind.mono fun x w0 s0 g0 o0 q v r0 => by
    obtain ⟨a0, j0, vs0, xs0, rfl, _, _, h0, _, q⟩ := mu_of o0 r0 q
    refine ⟨.inl ⟨rfl, vs0, SqL.of h0⟩, he c w0 s0 σ δ _ E o0 (sl.go g0) ((Den.bind q).mono fun y w1 s1 g1 o1 p u ru => ?_)⟩
    obtain ⟨a, j, vs, xs, ea, hj, hF, h1, rl, p⟩ := mu_of o1 (r0.up g1.sub) p
    cases ea
    cases ru with
    | int i =>
      obtain ⟨⟨p0, pz⟩, p2⟩ := p
      cases e : xs[i.toNat]? with
      | none =>
        have p2 : Den K c (match xs[i.toNat]? with
          | some d => (W.put j (.lst (xs.eraseIdx i.toNat))).bind fun _ => W.ret d
          | none => W.stuck) w1 s1 (qV K c Q) (xE K c E) := p2
        rw [e] at p2; exact p2.elim
      | some d =>
        have p2 : Den K c (match xs[i.toNat]? with
          | some d => (W.put j (.lst (xs.eraseIdx i.toNat))).bind fun _ => W.ret d
          | none => W.stuck) w1 s1 (qV K c Q) (xE K c E) := p2
        rw [e] at p2
        obtain ⟨v, hv, rv⟩ := rl.get e
        have hlt : i.toNat < vs.length := (List.getElem?_eq_some_iff.mp hv).1
        have hsz : vs.length ≤ sizeLine := by rw [rl.len]; exact pz
        rw [sizeLine_eq] at hsz
        refine ⟨a0, vs, i, i.toNat, v, rfl, rfl, h1, by omega, by omega, ?_, hv, ?_⟩
        · unfold seqIndex?
          simp
          omega
        · obtain ⟨o2, g2⟩ := o1.ch (p := a0) (o := .lst (vs.eraseIdx i.toNat)) (mo := .lst (xs.eraseIdx i.toNat)) hj hF notOwn.1 notOwn.2 ⟨hF, _, upd_same, rl.erase i.toNat⟩
          exact p2 _ g2 o2 _ (rv.up g2.sub)
    | _ => exact p.elim)
end Ly
namespace Ly
open PySem L2 PyProof.Rows
open Lx (Le SupScope SupD SupG SupC cxS inv_super at_app)
@[reducible] def dInitF (N : List Str) (cl : List Str) (g2 : List D → W D) (b : List Sl → W Out) : List D → W D := fun ds => (dVar 0 (startD N ds)).bind fun x => (match x with
  | .mu i => (W.get i).bind fun mo => (match mo with
    | .ins c _ => W.need (c ∈ cl) (((g2 [.mu i, .tup []]).calm).bind fun _ => (b (startD N ds)).bind fun o => (match o with
      | .nx _ => W.ret .non
      | _ => W.stuck))
    | _ => W.stuck)
  | _ => W.stuck)
theorem with_bound0 {M : Model} {A : Around} {E : Value → Shared → Prop} {s : Shared} {K : PySem.W.Frag} {env : Env} {pos : Pos} {q g : Addr} {self : Value} {Q : Value → Shared → Prop} (hf : PySem.W.fnIn K g = true)
    (hm : PySem.W.MethP K q g self s.heap) (h : wpAny M A (call (.ref q) []) Q E s) : wpAny M A (callWith pos (.ref q) [] (backTo pos (starEach [] env)) []) Q E s := by
  have e : backTo pos (starEach [] env) = [] := by unfold starEach backTo; rfl
  rw [e]
  refine PySem.W.callWith_of (P := PySem.W.MethP K q g self) rfl (PySem.W.keeps_M hf) ?_
  unfold evalArgs
  exact wpAny_pure ⟨hm, h⟩
section
variable {P : Program} {w : World} {K : PySem.W.Frag} {mg : Str → Option Value} {base : Heap} {nm qual : Str} {params : Arguments} {body : List Stmt} {scope : Scope} {dvs : List V} {kws : List (Str × V)} {DC f f2 : Addr} {fd : FuncData}
theorem fn_superF {N ps : List Str} {k m : Nat} {cl : List Str} {t : XK → TS} {b : List Sl → W Out} {g2 : List D → W D} {rest : List Stmt} {p0 p1 apos pos pos2 : Pos} {slf : Str} {ar : Arg}
    (F : SupG P K nm qual params body scope dvs kws DC f fd) (S : SupScope N ps scope) (hN : N[0]? = some slf) (hps : ps.length = m + 1) (har : (params.posonlyargs ++ params.args).head? = some ar) (hslf : ar.arg = slf) (hloc : scope.names.lookup slf = some .local)
    (hb : body = .Expr (.Call (.Attribute (.Call (.Name "super" p0) [] [] p1) "__init__" apos) [] [] pos) pos2 :: rest)
    (hl : LS K t b)
    (hrest : ∀ (cd : Value) (cc : Addr) (A : Around) (outer : List Env) (s : Shared) (H : Hp) (E : XK), Room k (A.deeper (PySem.W.ksEnv qual scope s.heap.objs.size f cd cc)) → Tk (cxS (L2.CX P w) P w K mg base N qual scope f cd cc A outer s H E) E → PSs (cxS (L2.CX P w) P w K mg base N qual scope f cd cc A outer s H E) rest (t E))
    (G : FkS P w K mg base k f2 0 [] [] (Pr K 2 g2)) (hsub : ∀ c, c ∈ cl → SupC K (He.ga K c) DC f2) (hboot : bootBuiltins "super" = some (.type "super"))
    (hsw : ∀ env : Env, swapsWith (.Call (.Attribute (.Call (.Name "super" p0) [] [] p1) "__init__" apos) [] [] pos) none pos2.line env = pure false)
    (hev : ∀ env : Env, ∃ plS : Sem Bool, eval (.Call (.Attribute (.Call (.Name "super" p0) [] [] p1) "__init__" apos) [] [] pos) env = (do
      let ov ← attributeBase (.Call (.Name "super" p0) [] [] p1) "__init__" env (eval (.Call (.Name "super" p0) [] [] p1) env)
      standAt apos.atName
      let (f, first) ← holding [ov] (getMethod ov "__init__" plS)
      callWith pos f first (backTo pos (starEach [] env)) [])) :
    FnOk P w K mg base (L2.CX P w) (k + 1) f fd ps (Pr K (m + 1) (dInitF N cl g2 b)) := by
  obtain ⟨oc, od, dV, kV, doc, pm, an, cda, ct, osl, cc, rfl, lk, hcd, _, ⟨ccl, ccd, ccs, hcell⟩, ⟨kcl, kcd, kvs, kcs, file, tf, hcode, hvs, hfile⟩⟩ := F.ex
  refine ⟨fun vs H Q E h => by rw [Pr.len vs H Q E h, hps], fun A outer s H args us vs Q E hr e0 hbind r hsp => ?_⟩
  have hlen := Pr.len vs H Q E hsp
  have KB := e0.mod.kin
  have KX : K.In s.heap := e0.mod.kin.keeps fun b o e => (e0.bs b o e).1
  have lim : s.heap.NoLimit := e0.mod.nolimit.keeps fun b o e => (e0.bs b o e).1
  refine PySem.ks_codeAny_call_defAt (body := body) (binds := ps.zip us) hr.depth (KX _ _ lk) rfl lim (PySem.W.codeRec_of KX hcd) rfl hbind S.noc (fun y hy => S.par y.1 (List.of_mem_zip (a := y.1) (b := y.2) hy).1) (fun h1 hns hk => ?_) S.co S.gen S.kind
  let X : Cx := cxS (L2.CX P w) P w K mg base N qual scope f (.ref cda) cc A outer s H E
  have tk : Tk X E := tk_sup
  have I1 : Inv X [] (L2.start N vs) H { s with heap := h1, toks := s.toks + (ps.zip us).length } := inv_super S hr.hd e0 (by rw [hlen, hps]) r (KB _ _ hcell) rfl hns hk
  have hrd : Room k (A.deeper (PySem.W.ksEnv qual scope s.heap.objs.size f (.ref cda) cc)) := hr.deeper _
  obtain ⟨c, w0, s0, ds, rfl, ok, rl, dl, q⟩ := hsp
  have slo : Slo K c w0 (L2.start N vs) (startD N ds) := Slo.start rl
  rw [hb]
  generalize hs1 : ({ s with heap := h1, toks := s.toks + (ps.zip us).length } : Shared) = s1 at I1 ⊢
  have q1 := q
  unfold dInitF at q1
  have q1 := Den.bind q1
  unfold dVar at q1
  cases ev0 : (startD N ds)[0]? with
  | none => rw [ev0] at q1; exact (show False from q1).elim
  | some x0 => cases x0 with
    | none => rw [ev0] at q1; exact (show False from q1).elim
    | some d0 =>
      rw [ev0] at q1
      have q1 := Den.ret q1 ok
      obtain ⟨v0, hv0, r0⟩ := slo.val 0 _ ev0
      cases r0 with
      | @mu i0 x hi0 =>
        obtain ⟨mo, em, q1⟩ := q1
        have rm := ok.sto i0 x mo hi0 em
        cases mo with
        | ins c0 gs0 =>
          obtain ⟨hc0, q1⟩ := q1
          obtain ⟨hF0, dx, fs, hx1, _, _, _, _⟩ := rm
          have sc := hsub c0 hc0
          have KX1 : K.In s1.heap := I1.kIn
          obtain ⟨mA, OM, _⟩ := ins_get I1.hok hx1
          obtain ⟨odx, IA, _⟩ := OM.look
          obtain ⟨plS, hev1⟩ := hev (PySem.W.ksEnv qual scope s.heap.objs.size f (.ref cda) cc)
          refine PySem.ks_wpAt_execs_cons (PySem.ks_wpAt_Expr_any (PySem.ks_wpAt_MethodCall (pl := plS) ?_ hev1) I1.quiet (hsw _))
          obtain ⟨hh, gg, dd, tt, oo⟩ := s1
          refine PySem.ks_wpAt_super_base S.sup S.cls (by decide) rfl (KX1 _ _ lk) rfl har rfl (KX1 _ _ hcode) rfl hvs hfile F.top ?_
          obtain ⟨mb, hb1, hb2⟩ := I1.mod.blt
          refine PySem.W.ks_loadName_global S.kind S.sup (Calls.loadGlobal_builtin (env := PySem.W.ksEnv qual scope s.heap.objs.size f (.ref cda) cc) (I1.mod.glob.keeps I1.bk) (PySem.W.mg_none_of KB e0.mod.glob F.sup) (hb1.keeps I1.bk) ((hb2 "super" (by decide)).trans hboot) ⟨rfl, ?_⟩)
          refine wpAny_loadName_free S.kind S.cls rfl ⟨_, KX1 _ _ hcell, rfl⟩ ?_
          obtain ⟨ml, hn1, hl1⟩ := I1.loc
          obtain ⟨u0, ru0, lk0⟩ := hl1 0 slf (.ref x) hN hv0 (.inl hloc)
          have hml : ml slf = some (.ref x) := by
            have e0 : u0 = Value.ref x := ru0
            rw [e0] at lk0
            rcases lk0 with ⟨_, z⟩ | ⟨z, _⟩
            · exact z
            · have z1 : scope.names.lookup slf = some .cell ∨ scope.names.lookup slf = some .free := z
              rw [hloc] at z1
              rcases z1 with z1 | z1 <;> cases z1
          rw [hslf]
          refine wpAny_loadName_local S.kind hloc hn1 hml ?_
          obtain ⟨cdD, hcD⟩ := F.cls
          obtain ⟨oD, hD1, hD2⟩ : ∃ oD, hh.get? DC = some oD ∧ oD.data = .cls cdD := by
            unfold PySem.W.clsIn at hcD
            split at hcD
            · rename_i ho
              cases hcD
              exact ⟨_, KX1 _ _ ho, rfl⟩
            · cases hcD
          refine PySem.ks_wpAny_isType_cls hD1 hD2 ⟨rfl, ?_⟩
          refine PySem.ks_wpAny_call_super hD1 hD2 IA.at_ IA.cls (fun cz ez => ?_) (PySem.W.looks_mroIn KX1 sc.mro) (fun h2 hso hk2 => ?_)
          · have := IA.no
            unfold PySem.W.notCls at this
            rw [ez] at this
            exact Bool.noConfusion this
          have I2 : Inv X [] (L2.start N vs) w0.H ⟨h2, gg, dd, tt, oo⟩ := I1.kept (t' := tt) hk2
          have KX2 : K.In h2 := I2.kIn
          obtain ⟨cdC, hcC⟩ : ∃ cd, PySem.W.clsIn K (He.ga K c0) = some cd := by
            cases q2 : PySem.W.clsIn K (He.ga K c0) with
            | none =>
              have z := sc.at_
              unfold PySem.W.ks_superIn at z
              rw [q2] at z; cases z
            | some cd => exact ⟨cd, rfl⟩
          have hal := sc.at_
          unfold PySem.W.ks_superIn at hal
          rw [hcC] at hal
          obtain ⟨of2, hof, hofc⟩ : ∃ of2, h2.get? f2 = some of2 ∧ of2.cls = .type "function" := by
            have z : (K.lookup f2).map (·.cls) = some (.type "function") := sc.ty
            cases q2 : K.lookup f2 with
            | none => rw [q2] at z; cases z
            | some of2 => rw [q2] at z; exact ⟨of2, KX2 _ _ q2, Option.some.inj z⟩
          refine PySem.ks_wpAny_getMethod_super hso (PySem.W.looks_opaque KX2 F.op) (l₀ := cdC.mro) ?_ rfl KX2 hal hof hofc (PySem.W.ks_ne KX1 IA hcC) (by decide) ?_
          · exact fun A Q E s k q => wpAny_bind ((PySem.W.looks_clsIn KX2 hcC) A _ E s k (wpAny_pure q))
          have I3 : Inv X [] (L2.start N vs) w0.H ⟨h2.push { cls := .type "method", data := .fields #[.ref f2, .ref x] }, gg, dd, tt + 1, oo⟩ := I2.kept (t' := tt + 1) (fun b o e => Heap.get?_push_of_some _ e)
          have hbm : (h2.push { cls := .type "method", data := .fields #[.ref f2, .ref x] }).get? h2.objs.size = some { cls := .type "method", data := .fields #[.ref f2, .ref x] } := Heap.get?_push_at rfl rfl
          show wpAny (model P w) X.A (callWith pos (.ref h2.objs.size) [] (backTo pos (starEach [] X.env)) []) _ _ _
          refine with_bound0 (g := f2) (self := .ref x) sc.fn ⟨hbm, I3.kIn⟩ ?_
          have I4 := I3.pinned (fp := [h2.objs.size]) (fun b hb => by
            have eb : b = h2.objs.size := by simpa using hb
            subst eb
            exact I2.fpOk (Nat.le_refl _) (I2.hok.fresh (Nat.le_refl _))) (fun b hb => by
            have eb : b = h2.objs.size := by simpa using hb
            subst eb
            exact ⟨_, hbm, fun v z => by cases z⟩)
          have rd1 : ∀ p, w0.H p = none → Pr K 2 g2 (V.ref x :: (([] : List V) ++ []) ++ [.ref p]) (upd w0.H p (.tup [])) (fun _ H6 => ∃ w6 s6, w6.H = H6 ∧ Go c w0 w6 ∧ Ok K c w6 s6 ∧ Den K c ((b (startD N ds)).bind fun o => (match o with
              | .nx _ => W.ret D.non
              | _ => W.stuck)) w6 s6 (qV K c Q) (xE K c E)) E := fun p hp => by
            obtain ⟨o2, g2'⟩ := ok.lay (o := .tup []) hp (fun ps z => by cases z)
            refine ⟨c, w0.lay p (.tup []), s0, [.mu i0, .tup []], rfl, o2, .cons (.mu (g2'.sub.at hi0)) (.cons (.tup upd_same .nil) .nil), rfl, ?_⟩
            exact (Den.bind (Den.on (s0 := s0) q1 g2')).calm.mono fun d w6 s6 g6 o6 p6 v rv => ⟨w6, s6, rfl, g2'.trans g6 o6, o6, p6⟩
          refine wpAny_call (PySem.ks_codeAny_call_bound hbm (codeAny_mono (G.ex X.A X.stack _ w0.H (.ref x) [] [] (.ref x) [] [] _ E hrd I4.env0 rfl .nil .nil rfl rfl rd1) fun r6 s6 h6 => ?_))
          cases r6 with
          | error er => exact px tk _ _ _ _ er s6 I4 h6
          | ok fl =>
            cases fl with
            | ret u6 =>
              obtain ⟨v6, H6, I6, rv6, w6, s6', rfl, g6, o6, q6⟩ := I4.after h6
              have rd : t E { nx := fun _ H7 => Q .non H7, rt := fun _ _ => False } (L2.start N vs) w6.H :=
                hl c w6 s6' _ _ _ E o6 (slo.go g6) (q6.bind.mono fun u w7 s7 g7 o7 p => by
                  cases u with
                  | nx δ => exact fun σ1 s1' => p.ret o7 .non .non
                  | rt d => exact p.elim
                  | bk δ => exact p.elim
                  | ct δ => exact p.elim)
              refine PySem.wpAt_of_wpAny (wpAny_mono ((hrest (.ref cda) cc A outer s w0.H E hrd tk).run _ _ _ w6.H _ I6 rd) (fun fl s7 hs => ?_) (fun e s' hs => hs))
              cases fl with
              | ret u => obtain ⟨_, _, _, _, _, z⟩ := hs; exact z.elim
              | brk => obtain ⟨_, _, _, z⟩ := hs; exact z.elim
              | cont => obtain ⟨_, _, _, z⟩ := hs; exact z.elim
              | next =>
                obtain ⟨σ7, H7, I7, q7⟩ := hs
                exact ⟨.non, H7, I7.os, I7.bare, I7.base, I7.hok, rfl, q7⟩
            | next => exact False.elim h6
            | brk => exact False.elim h6
            | cont => exact False.elim h6
        | _ => exact q1.elim
      | _ => exact (show False from q1).elim
end
end Ly
namespace Ly
open PySem PySem.Spec L2 PyProof.Rows He
open Lx (Le)
@[reducible] def minLD : List D → W D
  | [.lst ds] => W.need (∃ ns : List Int, ds = ns.map D.int ∧ 0 < ns.length) (W.any 0 fun d => ∃ (ns : List Int) (m : Int), ds = ns.map D.int ∧ d = .int m ∧ m ∈ ns ∧ ∀ y ∈ ns, m ≤ y)
  | _ => W.stuck
theorem lo_minL {K : PySem.W.Frag} : LOn K (rMin K) minLD := fun c w s vs xs Q E o r h => by
  unfold minLD at h
  split at h
  · rename_i ds
    obtain ⟨v, rfl, rv⟩ := r.one
    cases rv with
    | @lst a us _ hf rl =>
      obtain ⟨⟨ns, rfl, hl⟩, k, hk, q⟩ := h
      obtain rfl := repL_int_inv rl
      refine ⟨a, ns, rfl, SqL.of (o.fro _ _ hf), hl, fun m h1 h2 => ?_⟩
      have ek : (⟨k, s.st⟩ : S) = s := by
        have : s.n = k := hk
        rw [← this]
      exact q _ ⟨ns, m, rfl, rfl, h1, h2⟩ _ (Go.refl ..) (by rw [ek]; exact o) _ (.int _)
  · exact h.elim
theorem FkS.up {P : Program} {w : World} {K : PySem.W.Frag} {mg : Str → Option Value} {base : Heap} {j k n : Nat} {f : Addr} {ks : List Str} {dvs : List V} {sp : L2.Sp} (h : FkS P w K mg base k f n ks dvs sp) (hk : k ≤ j) : FkS P w K mg base j f n ks dvs sp :=
  ⟨fun A outer s H u us ws v vs zs Q E hr => h.ex A outer s H u us ws v vs zs Q E (hr.mono hk)⟩
end Ly
namespace Ly
open PySem PySem.Spec L2 PyProof.Rows He
open Lx (Le)
structure NEnt (X : Cx) (E : XK) (m : Str) (ks : List Str) (is : List Nat) (mm : Nat) (cl : Str) (g : List D → W D) : Prop where
  ex : ∃ (k : Nat) (f : Addr), Cls X.K (ga X.K cl) ∧ Meth X.K (ga X.K cl) m f ∧ FkW X.prog X.w X.K X.mg X.base k f 0 ks is [] (Pr X.K mm g) ∧ Room k X.A ∧ Passes (L2.CX X.prog X.w) X E
inductive NTab (X : Cx) (E : XK) (m : Str) (ks : List Str) (is : List Nat) (mm : Nat) : Tb → Prop
  | nil : NTab X E m ks is mm []
  | cons {cl : Str} {g : List D → W D} {tb : Tb} : NEnt X E m ks is mm cl g → NTab X E m ks is mm tb → NTab X E m ks is mm ((cl, g) :: tb)
theorem NTab.get {X : Cx} {E : XK} {m : Str} {ks : List Str} {is : List Nat} {mm : Nat} {cl : Str} {g : List D → W D} : ∀ {tb : Tb}, NTab X E m ks is mm tb → tb.lookup cl = some g → NEnt X E m ks is mm cl g
  | _, .nil, h => by cases h
  | _, .cons (cl := d) a r, h => by
    rw [List.lookup_cons] at h
    cases q : (cl == d) with
    | true => rw [q] at h; cases h; rw [eq_of_beq q]; exact a
    | false => rw [q] at h; exact r.get h
def tMethN (K : PySem.W.Frag) (m : Str) (nk mm : Nat) (is : List Nat) (tb : Tb) (E : XK) (ta : TE) (tk : TA) : TE := fun σ H Q => ta σ H fun x H1 => ∃ a cl dx fs g, x = .ref a ∧ H1 a = some (.ins (He.ga K cl) dx fs) ∧ fs.lookup m = none ∧ tb.lookup cl = some g ∧
  tk σ H1 fun zs H2 => zs.length = nk ∧ Pr K mm g (.ref a :: pick is (zs ++ [])) H2 Q E
@[reducible] def dMethN (m : Str) (nk mm : Nat) (is : List Nat) (tb : Tb) (fa : List Sl → W D) (fk : List Sl → W (List D)) : List Sl → W D := fun δ => (fa δ).bind fun x => (insD x).bind fun p => W.need (p.2.lookup m = none) (match tb.lookup p.1 with | some g => (fk δ).bind fun zs => W.need (zs.length = nk ∧ (x :: pick is (zs ++ [])).length = mm) (g (x :: pick is (zs ++ []))) | none => W.stuck)
theorem le_methN {K : PySem.W.Frag} {ta : XK → TE} {fa : List Sl → W D} {t : XK → TA} {f : List Sl → W (List D)} {m : Str} {nk mm : Nat} {is : List Nat} {tb : Tb} (ha : LE K ta fa) (hb : LA K t f) : LE K (fun E => tMethN K m nk mm is tb E (ta E) (t E)) (dMethN m nk mm is tb fa f) := fun c w s σ δ Q E o sl h =>
  ha c w s σ δ _ E o sl (h.bind.mono fun x w1 s1 g1 o1 p v r1 => by
    obtain ⟨a, cl, dx, fs, gs, rfl, hH, hC, hn, rf, p1, p⟩ := ins_of o1 r1 p
    cases e : tb.lookup cl with
    | none => rw [show (tb.lookup (cl, gs).1) = none from e] at p; exact p.elim
    | some g =>
      simp only [e] at p
      refine ⟨a, cl, dx, fs, g, rfl, hH, rf.noLook p1, e, hb c w1 s1 σ δ _ E o1 (sl.go g1) ((show Den K c ((f δ).bind fun zs => W.need (zs.length = nk ∧ (x :: pick is (zs ++ [])).length = mm) (g (x :: pick is (zs ++ [])))) w1 s1 (qV K c Q) (xE K c E) from p).bind.mono fun zs w2 s2 g2 o2 p2 vs r2 => ?_)⟩
      exact ⟨by rw [r2.len]; exact p2.1.1, c, w2, s2, _, rfl, o2, .cons (r1.up g2.sub) (RepL.pick is (r2.app .nil)), p2.1.2, p2.2⟩)
section
variable {X : Cx} {E : XK} {m : Str} {mm : Nat} {ks : List Str} {is : List Nat} {tb : Tb} {o : Expr} {ta : TE} {tk : TA} {apos pos : Pos} {pl : Sem Bool} {kws : List Keyword}
theorem pe_methN (T : NTab X E m ks is mm tb) (he : PE X o ta) (hkw : PK X kws tk)
    (hall : (backToKw pos (keywordEach kws X.env)).all (·.1.isSome) = true := by rfl) (hks : (backToKw pos (keywordEach kws X.env)).filterMap (·.1) = ks := by rfl)
    (hpl : ((backTo pos (starEach [] X.env)).any (·.1) || (backToKw pos (keywordEach kws X.env)).any (·.1.isNone)) = false := by rfl)
    (ht : eval (.Call (.Attribute o m apos) [] kws pos) X.env = (do
      let ov ← eval o X.env
      standAt apos.atName
      let (f, first) ← holding [ov] (getMethod ov m pl)
      callWith pos f first (backTo pos (starEach [] X.env)) (backToKw pos (keywordEach kws X.env))) := by rfl) : PE X (.Call (.Attribute o m apos) [] kws pos) (tMethN X.K m ks.length mm is tb E ta tk) := by
  refine ⟨fun pins s σ H Q I h => ?_⟩
  refine PySem.W.methodCall_KW (pl := pl) (thn (he.run pins s σ H _ I h) fun u s1 ⟨x, H1, I1, rx, a, cl, dx, fs, g, ex, ea, l, eg, q⟩ => ?_) ht
  subst ex
  obtain rfl : u = Value.ref a := rx
  obtain ⟨k, f, hC, hm, F, hr, hx⟩ := (T.get eg).ex
  obtain ⟨fd, ps, dus, G, hb⟩ := F.ex
  refine getmeth_ok I1 ea hC hm l ?_
  refine PySem.W.callWith_KW0 (first := [.ref a]) (h₀ := X.base) I.ok.mod.kin hm.kp hall ?_ hpl
  refine thn (hkw.run pos pins s1 σ H1 _ I1 q) fun ws s2 ⟨zs, H2, I2, rz, l2, q2⟩ => ⟨I2.kIn, ?_⟩
  rw [hks]
  have r3 : Vals [V.ref a] [Value.ref a] := .cons rfl .nil
  have r4 := hb.rel r3 rz
  refine wpAny_call (codeAny_mono (G.run X.A X.stack s2 H2 ⟨[.ref a], ks.zip ws⟩ _ _ Q E hr I2.env0 (hb.to s2 [.ref a] ws I2.kIn rfl (rz.length.symm.trans l2)) r4 q2) fun r s' hq => ?_)
  cases r with
  | error e => exact hx _ σ H2 s2 e s' I2 hq
  | ok fl =>
    cases fl with
    | ret u => exact I2.after hq
    | next => exact False.elim hq
    | brk => exact False.elim hq
    | cont => exact False.elim hq
end
inductive TabN (P : Program) (w : World) (K : PySem.W.Frag) (mg : Str → Option Value) (base : Heap) (k : Nat) (m : Str) (ks : List Str) (is : List Nat) (mm : Nat) : Tb → Prop
  | nil : TabN P w K mg base k m ks is mm []
  | cons {cl : Str} {g : List D → W D} {tb : Tb} {f : Addr} : Cls K (ga K cl) → Meth K (ga K cl) m f → FkW P w K mg base k f 0 ks is [] (Pr K mm g) → TabN P w K mg base k m ks is mm tb → TabN P w K mg base k m ks is mm ((cl, g) :: tb)
theorem TabN.nt {X : Cx} {E : XK} {k : Nat} {m : Str} {ks : List Str} {is : List Nat} {mm : Nat} {tb : Tb} (T : TabN X.prog X.w X.K X.mg X.base k m ks is mm tb) (hr : Room k X.A) (hx : Passes (L2.CX X.prog X.w) X E) : NTab X E m ks is mm tb := by
  induction T with
  | nil => exact .nil
  | cons a b c _ ih => exact .cons ⟨_, _, a, b, c, hr, hx⟩ ih
end Ly
namespace Ly
open PySem PySem.Spec L2 PyProof.Rows He
open Lx (Le Ky vTy rEqU rNeU op_eqU op_neU)
abbrev Tqt := List (Str × List Ky × (List D → W D))
inductive TabQ (P : Program) (w : World) (K : PySem.W.Frag) (mg : Str → Option Value) (base : Heap) (k : Nat) : Tqt → Prop
  | nil : TabQ P w K mg base k []
  | cons {cl : Str} {tys : List Ky} {g : List D → W D} {tb : Tqt} : TabE P w K mg base k tys [(cl, g)] → TabQ P w K mg base k tb → TabQ P w K mg base k ((cl, tys, g) :: tb)
@[reducible] def eqQ (tb : Tqt) (neg : Bool) (x y : D) : W D := match x with
  | .obj cl fs => (match tb.lookup cl with
    | some p => eqO [(cl, p.2)] p.1 neg (.obj cl fs) y
    | none => W.stuck)
  | _ => W.stuck
def rEqQ (K : PySem.W.Frag) (tb : Tqt) (neg : Bool) : R2 := fun x y H Q => ∃ cl p, tb.lookup cl = some p ∧ rEqO K [(cl, p.2)] p.1 neg x y H Q
theorem TabQ.get {P : Program} {w : World} {K : PySem.W.Frag} {mg : Str → Option Value} {base : Heap} {k : Nat} {cl : Str} {p : List Ky × (List D → W D)} : ∀ {tb : Tqt}, TabQ P w K mg base k tb → tb.lookup cl = some p → TabE P w K mg base k p.1 [(cl, p.2)]
  | _, .nil, h => by cases h
  | _, .cons (cl := d) a r, h => by
    rw [List.lookup_cons] at h
    cases q : (cl == d) with
    | true => rw [q] at h; cases h; rw [eq_of_beq q]; exact a
    | false => rw [q] at h; exact r.get h
section
variable {X : Cx} {tb : Tqt} {k : Nat}
theorem op_eqQ (T : TabQ X.prog X.w X.K X.mg X.base k tb) (hr : Room (k + 1) X.A) : OpR X (compareOp .Eq) (rEqQ X.K tb false) := by
  intro pins s σ H x y u v Q I rx ry ⟨cl, p, e, h⟩
  exact op_eqO (by have := hr.un; omega) ((T.get e).et hr) pins s σ H x y u v Q I rx ry h
theorem op_neQ (T : TabQ X.prog X.w X.K X.mg X.base k tb) (hr : Room (k + 1) X.A) : OpR X (compareOp .NotEq) (rEqQ X.K tb true) := by
  intro pins s σ H x y u v Q I rx ry ⟨cl, p, e, h⟩
  exact op_neO (by have := hr.un; omega) ((T.get e).et hr) pins s σ H x y u v Q I rx ry h
end
theorem lk_mem {α : Type} {x : Str} {a : α} : ∀ {l : List (Str × α)}, l.lookup x = some a → (x, a) ∈ l
  | (y, b) :: r, h => by
    rw [List.lookup_cons] at h
    cases q : (x == y) with
    | true => rw [q] at h; cases h; rw [eq_of_beq q]; exact List.mem_cons_self ..
    | false => rw [q] at h; exact List.mem_cons_of_mem _ (lk_mem h)
theorem lo_eqQ {K : PySem.W.Frag} {tb : Tqt} {neg : Bool} (ho : ∀ q ∈ tb, ∀ c, Ky.c c ∈ q.2.1 → Lx.OwnC K c) : LO2 K (rEqQ K tb neg) (eqQ tb neg) := fun c w s v u x y Q E o rx ry h => by
  cases x with
  | obj cl fs =>
    have h : Den K c (match tb.lookup cl with
      | some p => eqO [(cl, p.2)] p.1 neg (.obj cl fs) y
      | none => W.stuck) w s (qV K c Q) E := h
    cases e : tb.lookup cl with
    | none => rw [e] at h; exact h.elim
    | some p =>
      rw [e] at h
      exact ⟨cl, p, e, lo_eqO (ho _ (lk_mem e)) c w s v u _ y Q E o rx ry h⟩
  | _ => exact h.elim
theorem eq_right {prog : Program} {w : World} {A : Around} {E : Value → Shared → Prop} {s : Shared} {K : PySem.W.Frag} {x y C D' f L : Addr} {ox oy : Obj} {od oe : Option Obj} {h₀ : Heap} {m : Str → Option Value} {Q : Value → Shared → Prop} (hu : A.units < cLine) (F0 : Fr h₀ L s.heap m) (X₀ : K.In h₀)
    (I : PySem.W.InstAt s.heap x ox C od) (J : PySem.W.InstAt s.heap y oy D' oe) (hs : PySem.W.subIn K (.ref D') (.ref C) = some true) (hne : C ≠ D') (hf : PySem.W.findIn K (.ref D') "__eq__" = some (some (.ref f))) (hi : PySem.W.isFn K (.ref f) = true)
    (h : wpAny (model prog w) A (call (.ref f) [.ref y, .ref x]) (PySem.W.CmpBack Q) E s) : wpAny (model prog w) A (richCompare .Eq (.ref x) (.ref y)) Q E s := by
  have X := X₀.keeps F0.keep
  have one : wpAny (model prog w) A (tryCompare (.ref y) "__eq__" (.ref x)) (fun r s' => ∃ v, r = some v ∧ Q v s') E s := by
    unfold tryCompare
    refine wpAny_bind (PySem.W.ifBound_K X J hf hi (wpAny_mono h (fun v s' hv => ?_) fun _ _ e => e))
    cases v <;> first | exact hv.elim | exact wpAny_pure ⟨_, rfl, hv⟩
  unfold richCompare
  simp only [oneThing_ref]
  refine wpAny_holding (wpAny_bind (wpAny_cRoomFor hu ?_))
  refine wpAny_bind (I.type.here (wpAny_bind (J.type.here ?_)))
  rw [if_pos (by simp [hne])]
  refine wpAny_bind ((PySem.W.looks_subIn X hs).here ?_)
  simp only [↓reduceIte]
  refine wpAny_bind (wpAny_mono one (fun r s' z => ?_) fun _ _ e => e)
  obtain ⟨v, rfl, hq⟩ := z
  exact wpAny_bind (wpAny_rule (wpAny_pure hq))
structure REqE (P : Program) (w : World) (K : PySem.W.Frag) (mg : Str → Option Value) (base : Heap) (k : Nat) (cl dl : Str) (g : List D → W D) : Prop where
  ex : ∃ f, PySem.W.subIn K (.ref (ga K dl)) (.ref (ga K cl)) = some true ∧ ga K cl ≠ ga K dl ∧ PySem.W.findIn K (.ref (ga K dl)) "__eq__" = some (some (.ref f)) ∧ PySem.W.isFn K (.ref f) = true ∧ Fk P w K mg base k f (Pr K 2 g)
def rEqR (K : PySem.W.Frag) (cl dl : Str) (g : List D → W D) : R2 := fun x y H Q => ∃ a dx fs b dy gs, x = .ref a ∧ H a = some (.ins (ga K cl) dx fs) ∧ y = .ref b ∧ H b = some (.ins (ga K dl) dy gs) ∧ Pr K 2 g [.ref b, .ref a] H (fun v H' => ∃ z, v = .bl z ∧ Q (.bl z) H') E0
theorem op_eqR {X : Cx} {k : Nat} {cl dl : Str} {g : List D → W D} (T : REqE X.prog X.w X.K X.mg X.base k cl dl g) (hr : Room (k + 1) X.A) : OpR X (compareOp .Eq) (rEqR X.K cl dl g) := by
  intro pins s σ H x y u v Q I rx ry h
  obtain ⟨a, dx, fs, b, dy, gs, rfl, ha, rfl, hb0, q⟩ := h
  obtain rfl : u = Value.ref a := rx
  obtain rfl : v = Value.ref b := ry
  obtain ⟨f, h1, h2, h3, h4, hF⟩ := T.ex
  obtain ⟨fd, ps, F, hb, hk⟩ := hF.ex
  obtain ⟨mA, J, _⟩ := ins_get I.hok ha
  obtain ⟨od, J, _⟩ := J.look
  obtain ⟨mB, J2, _⟩ := ins_get I.hok hb0
  obtain ⟨od2, J2, _⟩ := J2.look
  obtain ⟨m, hF0⟩ := I.fr
  show wpAny (model X.prog X.w) X.A (richCompare .Eq (.ref a) (.ref b)) (EP X pins σ Q) X.xe s
  refine eq_right (Nat.lt_of_le_of_lt (by omega) hr.un) hF0 I.ok.mod.kin J J2 h1 h2 h3 h4 ?_
  have hl := F.len _ _ _ _ q
  have r2 : Vals [V.ref b, V.ref a] [Value.ref b, .ref a] := .cons rfl (.cons rfl .nil)
  have bd := hb s [.ref b, .ref a] I.kIn (by simpa using hl)
  rw [List.append_nil] at bd
  refine wpAny_call (codeAny_mono (F.run X.A X.stack s H ⟨[.ref b, .ref a], []⟩ [.ref b, .ref a] [.ref b, .ref a] _ E0 (hr.mono (Nat.le_succ _)) I.env0 bd r2 q) fun r s' hq => ?_)
  cases r with
  | error e => exact (px0 (X := X)) pins σ H s e s' I hq
  | ok fl =>
    cases fl with
    | ret w =>
      obtain ⟨z, H', I', rz, bz, ez, q2⟩ := I.after hq
      subst ez
      cases rz
      exact ⟨.bl bz, H', I', rfl, q2⟩
    | next => exact False.elim hq
    | brk => exact False.elim hq
    | cont => exact False.elim hq
@[reducible] def eqR (cl dl : Str) (g : List D → W D) (x y : D) : W D := match x with
  | .obj c1 fs => (match y with
    | .obj c2 gs => W.need (c1 = cl ∧ c2 = dl) (((g [.obj c2 gs, .obj c1 fs]).calm).bind fun v => (blD v).bind fun b => W.ret (.bl b))
    | _ => W.stuck)
  | _ => W.stuck
theorem lo_eqR {K : PySem.W.Frag} {cl dl : Str} {g : List D → W D} : LO2 K (rEqR K cl dl g) (eqR cl dl g) := fun c w s v u x y Q E o rx ry h => by
  have rx0 := rx; have ry0 := ry
  cases rx with
  | @obj a dx c1 fs gs hf hC hn rf =>
    cases ry with
    | @obj b dy c2 fs2 gs2 hf2 hC2 hn2 rf2 =>
      obtain ⟨⟨rfl, rfl⟩, h⟩ := h
      refine ⟨a, dx, fs, b, dy, fs2, rfl, o.fro _ _ hf, rfl, o.fro _ _ hf2, c, w, s, [.obj _ gs2, .obj _ gs], rfl, o, .cons ry0 (.cons rx0 .nil), rfl, (Den.bind h).calm.mono fun d w1 s1 g1 o1 q v1 r1 => ?_⟩
      cases r1 with
      | bl b => exact ⟨b, rfl, q.ret o1 _ (.bl _)⟩
      | _ => exact q.elim
    | _ => exact h.elim
  | _ => exact h.elim
theorem fy_sub {K : PySem.W.Frag} {x y : Str} {b : Bool} (h : (Fy.sub x y b).ok K = true) : PySem.W.subIn K (.ref (ga K x)) (.ref (ga K y)) = some b := of_decide_eq_true h
end Ly
namespace Ly
open PySem PySem.Spec L2 PyProof.Rows He
theorem turn_longr {P : Program} {w : World} {K : PySem.W.Frag} {tg : Expr} (it : Addr) (lo : Int) (n : Nat) : Turn P w K tg (Itr lo n) [it] it (fun i h => IsLongIter h it (lo + (i : Nat) * 1) ((n : Int) - (i : Nat)) 1) where
  mem := by simp
  obj := fun i h st b hb => by
    have e : b = it := by simpa using hb
    subst e
    exact ⟨_, st, fun v z => by
      have z' : Data.fields _ = Data.cell v := z
      cases z'⟩
  keep := fun i h h' st k => k it (by simp) _ st
  item := by
    intro X hP hw hK hc i pins s σ H E I hf st hg
    subst hP hw hK
    obtain ⟨f0, f1, f2, f3, f4, f5⟩ := hf it (by simp)
    have W := Walks.longrange (prog := X.prog) (w := X.w) (I.ok.hd hc) it lo 1 n
    refine W.item i s _ _ hg st fun v h' tk hv st' kk => ?_
    obtain ⟨t, rfl⟩ := hv
    have I1 : Inv X pins σ H { s with heap := h', toks := tk } := I.turned (fun b o hb e => kk b o (by simpa using hb) e) f0 f1 f3 f4 f5
    refine ⟨_, rfl, go_of (s := { s with heap := h', toks := tk }) (n := "longrange_iterator") st' rfl rfl (by decide) ⟨.int (lo + i), H, I1, ⟨t, ?_⟩, ⟨rfl, rfl⟩, st', fun b hb => (hf b hb).1⟩⟩
    rw [Int.mul_one]
  done := by
    intro X hP hw hK hc i pins s σ H E I hf st hg
    subst hP hw hK
    obtain ⟨f0, f1, f2, f3, f4, f5⟩ := hf it (by simp)
    exact wpAny_pyNext_long_end (I.ok.hd hc) st (by have : n ≤ i := hg; omega) fun h' eb => ⟨rfl, I.turned (t' := s.toks) (fun b o hb e => eb b o hb e) f0 f1 f3 f4 f5⟩
  self := fun _ _ _ _ _ st h => wpAny_pyIter_longiter st h
section
variable {X : Cx} {tg : Expr}
theorem range_itL {pins : List (Addr × Obj)} {σ : L2.St} {H : Hp} {s : Shared} {R : It → Hp → Prop} {E : Value → Shared → Prop} {lo hi : Int} {t u v : Tok} {tk : Nat} (I : Inv X pins σ H s)
    (q : R (Itr lo (hi - lo).toNat) H) : wpAny (model X.prog X.w) X.A (pyIter (.ref s.heap.objs.size)) (PIE X pins σ tg R) E { s with heap := s.heap.push { cls := .type "range", data := .fields #[.int lo t, .int hi u, .int 1 v] }, toks := tk } := by
  have I1 : Inv X pins σ H { s with heap := s.heap.push { cls := .type "range", data := .fields #[.int lo t, .int hi u, .int 1 v] }, toks := tk } := I.kept fun b o e => Heap.get?_push_of_some _ e
  have e1 : lo + ((0 : Nat) : Int) * 1 = lo := by simp
  have e2 : (((hi - lo).toNat : Nat) : Int) - ((0 : Nat) : Int) = Builtin.Range.rangeSize lo hi 1 := by rw [rangeSize_one]; split <;> omega
  cases hs : Builtin.Range.small lo hi 1 with
  | true =>
    refine wpAny_pyIter_range (IsRange.new ..) hs ?_
    refine ⟨(s.heap.push { cls := .type "range", data := .fields #[.int lo t, .int hi u, .int 1 v] }).objs.size, [(s.heap.push { cls := .type "range", data := .fields #[.int lo t, .int hi u, .int 1 v] }).objs.size], _, _, H, rfl,
      I1.kept (t' := tk) fun b o e => Heap.get?_push_of_some _ e, turn_range _ lo (hi - lo).toNat, ?_, fun b hb => ?_, q⟩
    · show IsRangeIter _ _ (lo + ((0 : Nat) : Int) * 1) ((((hi - lo).toNat : Nat) : Int) - ((0 : Nat) : Int)) 1
      rw [e1, e2]
      exact Heap.get?_push_size _ rfl
    · have e : b = (s.heap.push { cls := .type "range", data := .fields #[.int lo t, .int hi u, .int 1 v] }).objs.size := by simpa using hb
      subst e
      exact I1.fpOk (Nat.le_refl _) (I1.hok.fresh (Nat.le_refl _))
  | false =>
    refine wpAny_pyIter_longrange (IsRange.new ..) hs ?_
    refine ⟨(s.heap.push { cls := .type "range", data := .fields #[.int lo t, .int hi u, .int 1 v] }).objs.size, [(s.heap.push { cls := .type "range", data := .fields #[.int lo t, .int hi u, .int 1 v] }).objs.size], _, _, H, rfl,
      I1.kept (t' := tk) fun b o e => Heap.get?_push_of_some _ e, turn_longr _ lo (hi - lo).toNat, ?_, fun b hb => ?_, q⟩
    · show IsLongIter _ _ (lo + ((0 : Nat) : Int) * 1) ((((hi - lo).toNat : Nat) : Int) - ((0 : Nat) : Int)) 1
      rw [e1, e2]
      exact Heap.get?_push_size _ rfl
    · have e : b = (s.heap.push { cls := .type "range", data := .fields #[.int lo t, .int hi u, .int 1 v] }).objs.size := by simpa using hb
      subst e
      exact I1.fpOk (Nat.le_refl _) (I1.hok.fresh (Nat.le_refl _))
def iRngL (ta : TA) : TI := fun σ H R => ta σ H fun vs H1 => ∃ i j : Int, vs = [.int i, .int j] ∧ R (Itr i (j - i).toNat) H1
theorem pi_rangeL {a b : Expr} {ta : TA} {p pos : Pos} (hg : Gl X "range") (hm : X.mg "range" = none) (ha : PA X [a, b] ta) (hs : starEach [a, b] X.env = [(false, eval a X.env), (false, eval b X.env)] := by rfl) (hs2 : starEach [b] X.env = [(false, eval b X.env)] := by rfl) :
    PI X tg (.Call (.Name "range" p) [a, b] [] pos) (iRngL ta) := by
  refine ⟨fun pins s σ H R I h => ?_⟩
  refine Call_ (ld_blt I hg hm boot_range (PyProof.Rows.callWith_type1 (thn (ha.run pos pins s σ H _ I h) fun us s1 ⟨vs, H1, I1, r1, q1⟩ => ?_) (by rw [hs, hs2]) (by rw [hs2]; rfl)))
  obtain ⟨i, j, e, q⟩ := q1
  subst e
  cases r1 with
  | cons r rr =>
    cases rr with
    | cons r' rr =>
      cases rr
      obtain ⟨t, rfl⟩ := r
      obtain ⟨t', rfl⟩ := r'
      exact call_range_2 (range_itL I1 q)
end
@[reducible] def dIRL (f : List Sl → W (List D)) : List Sl → W (List D) := fun δ => (f δ).bind fun ds => match ds with
  | [.int i, .int j] => W.ret (rangeD i (j - i).toNat) | _ => W.stuck
theorem li_rangeL {K : PySem.W.Frag} {ta : XK → TA} {fa : List Sl → W (List D)} (ha : LA K ta fa) : LI K (fun E => iRngL (ta E)) (dIRL fa) := fun c w s σ δ R E o sl h =>
  ha c w s σ δ _ E o sl (h.bind.mono fun ds w1 s1 g1 o1 p vs r1 => by
    split at p
    · rename_i i j
      exact ⟨i, j, r1.int2, Den.ret (K := K) (c := c) p o1 _ yie_range⟩
    · exact p.elim)
end Ly
namespace Lw
open PySem PySem.Spec L2 PyProof.Rows He Ly
open Lx (pe_gi pe_gs pe_revS sl_U pe_lenSetS pe_sortSet pe_maxD call_repr call_sumL op_addU op_eqU op_neU op_inU op_notInU pe_crepl fm_ini fm_sup fm_meth fm_prop fm_own fm_isi SupC SupD SupG SupScope DefM spPen t_pen pen_pure t_draw IsTb IsOk vTy pgA Fm Ky)
def is_LongText : IsTb := [(.t "NoneType", false), (.t "bool", false), (.t "int", false), (.t "str", false), (.t "list", false), (.t "tuple", false), (.t "dict", false), (.c "LongText", true), (.c "FreeLongText", true)]
def is_bool : IsTb := [(.t "NoneType", false), (.t "bool", true), (.t "int", false), (.t "str", false), (.t "list", false), (.t "tuple", false), (.t "dict", false), (.c "LongText", false), (.c "FreeLongText", false)]
def is_int : IsTb := [(.t "NoneType", false), (.t "bool", true), (.t "int", true), (.t "str", false), (.t "list", false), (.t "tuple", false), (.t "dict", false), (.c "LongText", false), (.c "FreeLongText", false)]
def is_list : IsTb := [(.t "NoneType", false), (.t "bool", false), (.t "int", false), (.t "str", false), (.t "list", true), (.t "tuple", false), (.t "dict", false), (.c "LongText", false), (.c "FreeLongText", false)]
def is_str : IsTb := [(.t "NoneType", false), (.t "bool", false), (.t "int", false), (.t "str", true), (.t "list", false), (.t "tuple", false), (.t "dict", false), (.c "LongText", false), (.c "FreeLongText", false)]
def is_tuple : IsTb := [(.t "NoneType", false), (.t "bool", false), (.t "int", false), (.t "str", false), (.t "list", false), (.t "tuple", true), (.t "dict", false), (.c "LongText", false), (.c "FreeLongText", false)]
def is_list_tuple : IsTb := [(.t "NoneType", false), (.t "bool", false), (.t "int", false), (.t "str", false), (.t "list", true), (.t "tuple", true), (.t "dict", false), (.c "LongText", false), (.c "FreeLongText", false)]
abbrev N_is_line : List Str := ["value", "letter"]
@[reducible] def b_is_line : List Sl → W Out := (dRet (dAndV (dOp1 (isiD is_str) (dVar 0)) (dOpn allD (dCons (dLc (dIS (dVar 0)) (dName 1) dYes (dOp2 (inD false) (dVar 1) (dC (.str (" !\"#$&'()*+,-./0123456789:;<=>?@ABCDEFGHIJKLMNOPQRSTUVWXYZ[\\]^_`abcdefghijklmnopqrstuvwxyz{|}~" : Str)))) [1]) dNil))))
def g_is_line : List D → W D := dBody N_is_line b_is_line
abbrev N_is_list : List Str := ["value"]
@[reducible] def b_is_list : List Sl → W Out := (dRet (dOp1 (isiD is_list_tuple) (dVar 0)))
def g_is_list : List D → W D := dBody N_is_list b_is_list
abbrev N_is_text : List Str := ["value", "line"]
@[reducible] def b_is_text : List Sl → W Out := (dRet (dAndV (dCall 1 g_is_list (dCons (dVar 0) dNil)) (dOpn allD (dCons (dLc (dIL (dVar 0)) (dName 1) dYes (dCall 1 g_is_line (dCons (dVar 1) dNil)) [1]) dNil))))
def g_is_text : List D → W D := dBody N_is_text b_is_text
abbrev N_length_of : List Str := ["blocks", "lines", "times"]
@[reducible] def b_length_of : List Sl → W Out := (dRet (dOpn sumID (dCons (dLc (dIT (dVar 0)) (dGTup 2 (dGCons (dName 1) (dGCons (dName 2) dGNil))) dYes (dOp2 mulUD (dOpn lenD (dCons (dVar 1) dNil)) (dVar 2)) [1, 2]) dNil)))
def g_length_of : List D → W D := dBody N_length_of b_length_of
abbrev N_is_integer : List Str := ["value"]
@[reducible] def b_is_integer : List Sl → W Out := (dRet (dAndV (dOp1 (isiD is_int) (dVar 0)) (dNotV (dOp1 (isiD is_bool) (dVar 0)))))
def g_is_integer : List D → W D := dBody N_is_integer b_is_integer
abbrev N_is_within : List Str := ["value", "least", "greatest"]
@[reducible] def b_is_within : List Sl → W Out := (dRet (dAndV (dCall 1 g_is_integer (dCons (dVar 0) dNil)) (dChain leD leD (dVar 1) (dVar 0) (dVar 2))))
def g_is_within : List D → W D := dBody N_is_within b_is_within
abbrev N_is_block : List Str := ["value"]
@[reducible] def b_is_block : List Sl → W Out := (dSeq (dIf (dOr (dNot (dTru (dOp1 (isiD is_tuple) (dVar 0)))) (dOr (dTest (dOp2 neD (dOpn lenD (dCons (dVar 0) dNil)) (dC (.int 2)))) (dOr (dNot (dTru (dCall 1 g_is_list (dCons (dOp2 ixD (dVar 0) (dC (.int 0))) dNil)))) (dNot (dTru (dCall 1 g_is_text (dCons (dOp2 ixD (dVar 0) (dC (.int 0))) dNil))))))) (dRet (dC (.bl false))) dNext)
  (dRet (dAndV (dChain leD leD (dC (.int 1)) (dOpn lenD (dCons (dOp2 ixD (dVar 0) (dC (.int 0))) dNil)) (dC (.int 4))) (dCall 3 g_is_within (dCons (dOp2 ixD (dVar 0) (dC (.int 1))) (dCons (dC (.int 1)) (dCons (dC (.int 1000000000000000000000000000000)) dNil)))))))
def g_is_block : List D → W D := dBody N_is_block b_is_block
abbrev N_LongText_init : List Str := ["self", "blocks", "index", "block", "lines", "times"]
def cl_LongText : List Str := ["LongText", "FreeLongText"]
@[reducible] def b_LongText_init : List Sl → W Out := (dSeq (dFor (dEnum (dCons (dVar 1) dNil)) (dGTup 2 (dGCons (dName 2) (dGCons (dName 3) dGNil))) (dIf (dNot (dTru (dCall 1 g_is_block (dCons (dVar 3) dNil)))) dNever dNext))
  (dSeq (dIf (dTest (dOp2 gtD (dOpn lenD (dCons (dVar 1) dNil)) (dC (.int 10)))) dNever dNext)
  (dSeq (dSetF cl_LongText "own_blocks" (dVar 0) (dOpn tupleD (dCons (dLc (dIT (dVar 1)) (dGTup 2 (dGCons (dName 4) (dGCons (dName 5) dGNil))) dYes (dTup (dCons (dOpn tupleD (dCons (dVar 4) dNil)) (dCons (dVar 5) dNil))) [4, 5]) dNil)))
  (dSetF cl_LongText "own_length" (dVar 0) (dCall 1 g_length_of (dCons (dFld "own_blocks" (dVar 0)) dNil))))))
def gi_LongText : List D → W D := dBody N_LongText_init b_LongText_init
abbrev N_FreeLongText_init : List Str := ["self", "blocks"]
def cl_FreeLongText : List Str := ["FreeLongText"]
@[reducible] def b_FreeLongText_init : List Sl → W Out := (dSeq (dSetF cl_FreeLongText "own_blocks" (dVar 0) (dVar 1))
  (dSetF cl_FreeLongText "own_length" (dVar 0) (dCall 1 g_length_of (dCons (dVar 1) dNil))))
def gi_FreeLongText : List D → W D := dInitF N_FreeLongText_init cl_FreeLongText gi_LongText b_FreeLongText_init
abbrev N_LongText_of : List Str := ["cls", "text"]
@[reducible] def b_LongText_of : List Sl → W Out := (dSeq (dIf (dNot (dTru (dCall 1 g_is_text (dCons (dVar 1) dNil)))) dNever dNext)
  (dRet (dMake "FreeLongText" 1 gi_FreeLongText (dCons (dIfE (dTest (dOp2 gtD (dOpn lenD (dCons (dVar 1) dNil)) (dC (.int 0)))) (dTup (dCons (dTup (dCons (dOpn tupleD (dCons (dVar 1) dNil)) (dCons (dC (.int 1)) dNil))) dNil)) (dTup dNil)) dNil))))
def g_cm_of : List D → W D := dBody N_LongText_of b_LongText_of
abbrev N_first_difference : List Str := ["one", "other", "place", "first", "second", "begin", "further", "mine", "yours", "left", "more"]
@[reducible] def b_first_difference : List Sl → W Out := (dSeq (dAsg (dTup (dCons (dC (.int 0)) (dCons (dC (.int 0)) (dCons (dC (.int 0)) (dCons (dC (.int 0)) (dCons (dC (.int 0)) dNil)))))) (dGTup 5 (dGCons (dName 2) (dGCons (dName 3) (dGCons (dName 4) (dGCons (dName 5) (dGCons (dName 6) dGNil)))))))
  (dSeq (dWhile (dAnd (dTest (dOp2 ltD (dVar 3) (dOpn lenD (dCons (dVar 0) dNil)))) (dTest (dOp2 ltD (dVar 4) (dOpn lenD (dCons (dVar 1) dNil))))) (dSeq (dPar 7 8 (dCons (dOp2 ixD (dOp2 ixD (dVar 0) (dVar 3)) (dC (.int 0))) (dCons (dOp2 ixD (dOp2 ixD (dVar 1) (dVar 4)) (dC (.int 0))) dNil)))
  (dSeq (dAsg (dOpn minD (dCons (dOp2 subD (dOp2 mulUD (dOpn lenD (dCons (dVar 7) dNil)) (dOp2 ixD (dOp2 ixD (dVar 0) (dVar 3)) (dC (.int 1)))) (dVar 5)) (dCons (dOp2 subD (dOp2 mulUD (dOpn lenD (dCons (dVar 8) dNil)) (dOp2 ixD (dOp2 ixD (dVar 1) (dVar 4)) (dC (.int 1)))) (dVar 6)) dNil))) (dName 9))
  (dSeq (dFor (dIR1 (dCons (dOpn minD (dCons (dVar 9) (dCons (dOp2 addD (dOpn lenD (dCons (dVar 7) dNil)) (dOpn lenD (dCons (dVar 8) dNil))) dNil))) dNil)) (dName 10) (dIf (dTest (dOp2 neD (dOp2 ixD (dVar 7) (dOp2 modD (dOp2 addD (dVar 5) (dVar 10)) (dOpn lenD (dCons (dVar 7) dNil)))) (dOp2 ixD (dVar 8) (dOp2 modD (dOp2 addD (dVar 6) (dVar 10)) (dOpn lenD (dCons (dVar 8) dNil)))))) (dRet (dOp2 addD (dOp2 addD (dVar 2) (dVar 10)) (dC (.int 1)))) dNext))
  (dSeq (dPar3 2 5 6 (dCons (dOp2 addD (dVar 2) (dVar 9)) (dCons (dOp2 addD (dVar 5) (dVar 9)) (dCons (dOp2 addD (dVar 6) (dVar 9)) dNil))))
  (dSeq (dIf (dTest (dOp2 eqD (dVar 5) (dOp2 mulUD (dOpn lenD (dCons (dVar 7) dNil)) (dOp2 ixD (dOp2 ixD (dVar 0) (dVar 3)) (dC (.int 1)))))) (dPar 3 5 (dCons (dOp2 addD (dVar 3) (dC (.int 1))) (dCons (dC (.int 0)) dNil))) dNext)
  (dIf (dTest (dOp2 eqD (dVar 6) (dOp2 mulUD (dOpn lenD (dCons (dVar 8) dNil)) (dOp2 ixD (dOp2 ixD (dVar 1) (dVar 4)) (dC (.int 1)))))) (dPar 4 6 (dCons (dOp2 addD (dVar 4) (dC (.int 1))) (dCons (dC (.int 0)) dNil))) dNext)))))))
  (dRet (dIfE (dOr (dTest (dOp2 ltD (dVar 3) (dOpn lenD (dCons (dVar 0) dNil)))) (dTest (dOp2 ltD (dVar 4) (dOpn lenD (dCons (dVar 1) dNil))))) (dOp2 addD (dVar 2) (dC (.int 1))) (dC .non)))))
def g_first_difference : List D → W D := dBody N_first_difference b_first_difference
abbrev N_LongText_eq : List Str := ["self", "other"]
@[reducible] def b_LongText_eq : List Sl → W Out := (dRet (dAndV (dOp1 (isiD is_LongText) (dVar 1)) (dOp2 isND (dCall 2 g_first_difference (dCons (dFld "own_blocks" (dVar 0)) (dCons (dFld "own_blocks" (dVar 1)) dNil))) (dC .non))))
def tys_eqq_LongText : List Ky := [.t "NoneType", .t "bool", .t "int", .t "str", .t "list", .t "tuple", .t "dict", .c "LongText"]
def tys_eqq_FreeLongText : List Ky := [.t "NoneType", .t "bool", .t "int", .t "str", .t "list", .t "tuple", .t "dict", .c "LongText", .c "FreeLongText"]
def tb_eqq : Tqt := [("LongText", tys_eqq_LongText, dBody N_LongText_eq b_LongText_eq), ("FreeLongText", tys_eqq_FreeLongText, dBody N_LongText_eq b_LongText_eq)]
abbrev N__law_lline : List Str := ["_law_blocks", "_law_slot", "_law_rows", "_law_times"]
@[reducible] def b__law_lline : List Sl → W Out := (dSeq (dAsg (dOp2 subD (dVar 1) (dC (.int 1))) (dName 1))
  (dSeq (dFor (dIL (dVar 0)) (dGTup 2 (dGCons (dName 2) (dGCons (dName 3) dGNil))) (dSeq (dIf (dTest (dOp2 ltD (dVar 1) (dOp2 mulUD (dOpn lenD (dCons (dVar 2) dNil)) (dVar 3)))) (dRet (dOp2 ixD (dVar 2) (dOp2 modD (dOpn intD (dCons (dVar 1) dNil)) (dOpn lenD (dCons (dVar 2) dNil))))) dNext)
  (dAsg (dOp2 subD (dVar 1) (dOp2 mulUD (dOpn lenD (dCons (dVar 2) dNil)) (dVar 3))) (dName 1))))
  (dRet (dC .non))))
def g__law_lline : List D → W D := dBody N__law_lline b__law_lline
abbrev N__law_lsize : List Str := ["_law_blocks", "_law_rows", "_law_times"]
@[reducible] def b__law_lsize : List Sl → W Out := (dRet (dOpn sumID (dCons (dLc (dIL (dVar 0)) (dGTup 2 (dGCons (dName 1) (dGCons (dName 2) dGNil))) dYes (dOp2 mulUD (dOpn lenD (dCons (dVar 1) dNil)) (dVar 2)) [1, 2]) dNil)))
def g__law_lsize : List D → W D := dBody N__law_lsize b__law_lsize
abbrev N__law_apart : List Str := ["_law_one", "_law_more", "_law_sizes", "_law_edges", "_law_done", "_law_blocks", "_law_rows", "_law_times", "_law_start", "_law_edge", "_law_number"]
@[reducible] def b__law_apart : List Sl → W Out := (dSeq (dAsg (dLst (dCons (dCall 1 g__law_lsize (dCons (dVar 0) dNil)) (dCons (dCall 1 g__law_lsize (dCons (dVar 1) dNil)) dNil))) (dName 2))
  (dSeq (dPar 3 4 (dCons (dLstM dNil) (dCons (dC (.int 0)) dNil)))
  (dSeq (dFor (dIT (dTup (dCons (dVar 0) (dCons (dVar 1) dNil)))) (dName 5) (dSeq (dAsg (dC (.int 0)) (dName 4))
  (dFor (dIL (dVar 5)) (dGTup 2 (dGCons (dName 6) (dGCons (dName 7) dGNil))) (dSeq (dAsg (dOp2 addD (dVar 4) (dOp2 mulUD (dOpn lenD (dCons (dVar 6) dNil)) (dVar 7))) (dName 4))
  (dApp 3 (dVar 4))))))
  (fun δ => (iceD 3 δ).bind (dSeq (dAsg (dC (.int 0)) (dName 8))
  (dSeq (dFor (dIL (dSortSetI (dVar 3))) (dName 9) (dSeq (dFor (dIRL (dCons (dOp2 addD (dVar 8) (dC (.int 1))) (dCons (dOp2 addD (dOpn minD (dCons (dVar 9) (dCons (dOp2 addD (dVar 8) (dC (.int 12))) dNil))) (dC (.int 1))) dNil))) (dName 10) (dIf (dOr (dTest (dOp2 gtD (dVar 10) (dOpn minLD (dCons (dVar 2) dNil)))) (dTest (dOp2 neD (dCall 2 g__law_lline (dCons (dVar 0) (dCons (dVar 10) dNil))) (dCall 2 g__law_lline (dCons (dVar 1) (dCons (dVar 10) dNil)))))) (dRet (dVar 10)) dNext))
  (dAsg (dVar 9) (dName 8))))
  (dRet (dC .non))))))))
def g__law_apart : List D → W D := dBody N__law_apart b__law_apart
abbrev N_LongText_op_add : List Str := ["self", "other"]
@[reducible] def b_LongText_op_add : List Sl → W Out := (dRet (dMake "FreeLongText" 1 gi_FreeLongText (dCons (dOp2 addTD (dFld "own_blocks" (dVar 0)) (dFld "own_blocks" (dVar 1))) dNil)))
def ds_op_add : List Str := ["LongText", "FreeLongText"]
def tb_op_add : Tb := [("LongText", dBody N_LongText_op_add b_LongText_op_add), ("FreeLongText", dBody N_LongText_op_add b_LongText_op_add)]
abbrev N__law_lmade : List Str := ["_law_blocks", "_law_found", "_law_one"]
@[reducible] def b__law_lmade : List Sl → W Out := (dSeq (dAsg (dMakeS "LongText" 0 0 [] 2 gi_LongText dNil dNil) (dName 1))
  (dSeq (dFor (dIL (dVar 0)) (dName 2) (dAsg (dOp2 (binO tb_op_add ds_op_add) (dVar 1) (dMakeS "LongText" 1 0 [] 2 gi_LongText (dCons (dVar 2) dNil) dNil)) (dName 1)))
  (dRet (dVar 1))))
def g__law_lmade : List D → W D := dBody N__law_lmade b__law_lmade
abbrev N__law_draw : List Str := ["_law_pen_here", "_law_span", "_law_digit", "_law_turn", "_law_cell", "_law_primes", "_law_prime", "_law_drawn"]
abbrev g__law_draw : List D → W D := drawD
abbrev N__law_great : List Str := ["_law_pen_here", "_law_digits", "_law_found", "_law_k"]
@[reducible] def b__law_great : List Sl → W Out := (dSeq (dAsg (dC (.int 0)) (dName 2))
  (dSeq (dFor (dIR1 (dCons (dVar 1) dNil)) (dName 3) (dAsg (dOp2 addD (dOp2 mulUD (dC (.int 10)) (dVar 2)) (dCall 2 g__law_draw (dCons (dVar 0) (dCons (dC (.int 10)) dNil)))) (dName 2)))
  (dRet (dVar 2))))
def g__law_great : List D → W D := dBody N__law_great b__law_great
abbrev N__law_lsplit : List Str := ["_law_pen_here", "_law_one", "_law_rows", "_law_times", "_law_way", "_law_few_here", "_law_k"]
@[reducible] def b__law_lsplit : List Sl → W Out := (dSeq (dAsg (dVar 1) (dGTup 2 (dGCons (dName 2) (dGCons (dName 3) dGNil))))
  (dSeq (dAsg (dCall 2 g__law_draw (dCons (dVar 0) (dCons (dC (.int 5)) dNil))) (dName 4))
  (dSeq (dIf (dAnd (dTest (dOp2 eqD (dVar 4) (dC (.int 0)))) (dTest (dOp2 gtD (dVar 3) (dC (.int 1))))) (dSeq (dAsg (dOp2 addD (dC (.int 1)) (dOp2 modD (dOpn intD (dCons (dCall 2 g__law_great (dCons (dVar 0) (dCons (dC (.int 30)) dNil))) dNil)) (dOp2 subD (dVar 3) (dC (.int 1))))) (dName 5))
  (dRet (dLst (dCons (dTup (dCons (dVar 2) (dCons (dVar 5) dNil))) (dCons (dTup (dCons (dVar 2) (dCons (dOp2 subD (dVar 3) (dVar 5)) dNil))) dNil))))) dNext)
  (dSeq (dIf (dAnd (dTest (dOp2 eqD (dVar 4) (dC (.int 1)))) (dAnd (dTest (dOp2 ltD (dOpn lenD (dCons (dVar 2) dNil)) (dC (.int 3)))) (dTest (dOp2 gtD (dVar 3) (dC (.int 1)))))) (dRet (dOp2 addD (dLst (dCons (dTup (dCons (dOp2 mulLD (dVar 2) (dC (.int 2))) (dCons (dOp2 fdivD (dVar 3) (dC (.int 2))) dNil))) dNil)) (dOp2 mulLD (dLst (dCons (dTup (dCons (dVar 2) (dCons (dC (.int 1)) dNil))) dNil)) (dOp2 modD (dOpn intD (dCons (dVar 3) dNil)) (dC (.int 2)))))) dNext)
  (dSeq (dIf (dAnd (dTest (dOp2 eqD (dVar 4) (dC (.int 2)))) (dAnd (dTest (dOp2 gtD (dOpn lenD (dCons (dVar 2) dNil)) (dC (.int 1)))) (dTest (dOp2 gtD (dVar 3) (dC (.int 1)))))) (dSeq (dAsg (dOp2 addD (dC (.int 1)) (dCall 2 g__law_draw (dCons (dVar 0) (dCons (dOp2 subD (dOpn lenD (dCons (dVar 2) dNil)) (dC (.int 1))) dNil)))) (dName 6))
  (dRet (dLst (dCons (dTup (dCons (dSl (dVar 2) dNoPart (dPart (dVar 6))) (dCons (dC (.int 1)) dNil))) (dCons (dTup (dCons (dOp2 addD (dSl (dVar 2) (dPart (dVar 6)) dNoPart) (dSl (dVar 2) dNoPart (dPart (dVar 6)))) (dCons (dOp2 subD (dVar 3) (dC (.int 1))) dNil))) (dCons (dTup (dCons (dSl (dVar 2) (dPart (dVar 6)) dNoPart) (dCons (dC (.int 1)) dNil))) dNil)))))) dNext)
  (dRet (dIfE (dAnd (dTest (dOp2 eqD (dVar 4) (dC (.int 3)))) (dTest (dOp2 gtD (dVar 3) (dC (.int 1))))) (dLst (dCons (dTup (dCons (dVar 2) (dCons (dC (.int 1)) dNil))) (dCons (dTup (dCons (dVar 2) (dCons (dOp2 subD (dVar 3) (dC (.int 1))) dNil))) dNil))) (dLst (dCons (dVar 1) dNil)))))))))
def g__law_lsplit : List D → W D := dBody N__law_lsplit b__law_lsplit
abbrev N_LongText_difference : List Str := ["self", "other"]
@[reducible] def b_LongText_difference : List Sl → W Out := (dRet (dCall 2 g_first_difference (dCons (dFld "own_blocks" (dVar 0)) (dCons (dFld "own_blocks" (dVar 1)) dNil))))
def tb_difference : Tb := [("LongText", dBody N_LongText_difference b_LongText_difference), ("FreeLongText", dBody N_LongText_difference b_LongText_difference)]
abbrev N_LongText_length : List Str := ["self"]
@[reducible] def b_LongText_length : List Sl → W Out := (dRet (dFld "own_length" (dVar 0)))
def tp_length : Tb := [("LongText", dBody N_LongText_length b_LongText_length), ("FreeLongText", dBody N_LongText_length b_LongText_length)]
abbrev N__law_cut_right : List Str := ["_law_pen_here", "_law_blocks", "_law_made", "_law_pieces", "_law_one", "_law_twin"]
@[reducible] def b__law_cut_right : List Sl → W Out := (dSeq (dAsg (dOpn sumD (dCons (dLc (dIL (dVar 1)) (dName 4) dYes (dCall 2 g__law_lsplit (dCons (dVar 0) (dCons (dVar 4) dNil))) [4]) (dCons (dLst dNil) dNil))) (dName 3))
  (dSeq (dAsg (dCall 1 g__law_lmade (dCons (dVar 3) dNil)) (dName 5))
  (dSeq (dIf (dTest (dOp2 neD (dOpn reprD (dCons (dLst (dCons (dOp2 (eqQ tb_eqq false) (dVar 2) (dVar 5)) (dCons (dOp2 (eqQ tb_eqq false) (dVar 5) (dVar 2)) (dCons (dOp2 (eqQ tb_eqq true) (dVar 2) (dVar 5)) dNil)))) dNil)) (dOpn reprD (dCons (dLst (dCons (dC (.bl true)) (dCons (dC (.bl true)) (dCons (dC (.bl false)) dNil)))) dNil)))) (dRet (dC (.bl false))) dNext)
  (dRet (dAndV (dOp2 isND (dMeth "difference" 1 tb_difference (dVar 2) (dCons (dVar 5) dNil)) (dC .non)) (dAndV (dOp2 isND (dMethN "difference" 1 2 [0] tb_difference (dVar 5) (dCons (dVar 2) dNil)) (dC .non)) (dOp2 eqD (dProp tp_length (dVar 5)) (dProp tp_length (dVar 2)))))))))
def g__law_cut_right : List D → W D := dBody N__law_cut_right b__law_cut_right
abbrev N__law_lwritten : List Str := ["_law_blocks", "_law_rows", "_law_times"]
@[reducible] def b__law_lwritten : List Sl → W Out := (dRet (dOpn sumD (dCons (dLc (dIL (dVar 0)) (dGTup 2 (dGCons (dName 1) (dGCons (dName 2) dGNil))) dYes (dOp2 mulLD (dOpn listD (dCons (dVar 1) dNil)) (dVar 2)) [1, 2]) (dCons (dLst dNil) dNil))))
def g__law_lwritten : List D → W D := dBody N__law_lwritten b__law_lwritten
abbrev N__law_rows_at : List Str := ["_law_blocks", "_law_spots", "_law_found", "_law_left", "_law_done", "_law_spot", "_law_piece", "_law_rows", "_law_times", "_law_room", "_law_whole", "_law_rest"]
@[reducible] def b__law_rows_at : List Sl → W Out := (dSeq (dPar3 2 3 4 (dCons (dLstM dNil) (dCons (dOpn listMD (dCons (dVar 0) dNil)) (dCons (dC (.int 0)) dNil))))
  (dSeq (dFor (dIL (dVar 1)) (dName 5) (dSeq (dNewL dNil 6)
  (dSeq (dWhile (dAnd (dTest (dOp2 ltD (dVar 4) (dVar 5))) (dTest (dOp2 ne0D (dVar 3) (dLst dNil)))) (dSeq (dAsg (dPopV (dVar 3) (dC (.int 0))) (dGTup 2 (dGCons (dName 7) (dGCons (dName 8) dGNil))))
  (dSeq (dAsg (dOp2 subD (dVar 5) (dVar 4)) (dName 9))
  (dSeq (dAsg (dOpn minD (dCons (dVar 8) (dCons (dOp2 fdivD (dVar 9) (dOpn lenD (dCons (dVar 7) dNil))) dNil))) (dName 10))
  (dSeq (dIf (dTest (dOp2 gtD (dVar 10) (dC (.int 0)))) (dApp 6 (dTup (dCons (dVar 7) (dCons (dVar 10) dNil)))) dNext)
  (dSeq (dIf (dAnd (dTest (dOp2 ltD (dVar 10) (dVar 8))) (dTest (dOp2 gtD (dOp2 subD (dVar 9) (dOp2 mulUD (dVar 10) (dOpn lenD (dCons (dVar 7) dNil)))) (dC (.int 0))))) (dSeq (dAsg (dOp2 subD (dVar 9) (dOp2 mulUD (dVar 10) (dOpn lenD (dCons (dVar 7) dNil)))) (dName 11))
  (dSeq (dApp 6 (dTup (dCons (dSl (dVar 7) dNoPart (dPart (dVar 11))) (dCons (dC (.int 1)) dNil))))
  (dAsg (dOp2 addLM (dOp2 addD (dLst (dCons (dTup (dCons (dSl (dVar 7) (dPart (dVar 11)) dNoPart) (dCons (dC (.int 1)) dNil))) dNil)) (dOp2 mulLD (dLst (dCons (dTup (dCons (dVar 7) (dCons (dOp2 subD (dOp2 subD (dVar 8) (dVar 10)) (dC (.int 1))) dNil))) dNil)) (dOpn intD (dCons (dOp2 gtD (dOp2 subD (dVar 8) (dVar 10)) (dC (.int 1))) dNil)))) (dVar 3)) (dName 3)))) (dIf (dTest (dOp2 ltD (dVar 10) (dVar 8))) (dAsg (dOp2 addLM (dLst (dCons (dTup (dCons (dVar 7) (dCons (dOp2 subD (dVar 8) (dVar 10)) dNil))) dNil)) (dVar 3)) (dName 3)) dNext))
  (dAsg (dOp2 addD (dVar 4) (dOpn minD (dCons (dOp2 mulUD (dOpn lenD (dCons (dVar 7) dNil)) (dVar 8)) (dCons (dVar 9) dNil)))) (dName 4))))))))
  (fun δ => (iceD 6 δ).bind (dApp 2 (dVar 6))))))
  (fun δ => (iceD 2 δ).bind (dRet (dOp2 addD (dVar 2) (dLst (dCons (dIceE (dVar 3)) dNil)))))))
def g__law_rows_at : List D → W D := dBody N__law_rows_at b__law_rows_at
abbrev N__law_exchanged_right : List Str := ["_law_pen_here", "_law_blocks", "_law_made", "_law_strange", "_law_size", "_law_number", "_law_ahead", "_law_here", "_law_behind", "_law_some", "_law_due", "_law_more", "_law_wanted", "_law_twin"]
@[reducible] def b__law_exchanged_right : List Sl → W Out := (dSeq (dAsg (dCall 1 g__law_lsize (dCons (dVar 1) dNil)) (dName 4))
  (dSeq (dAsg (dOp2 addD (dC (.int 1)) (dOp2 modD (dOpn intD (dCons (dCall 2 g__law_great (dCons (dVar 0) (dCons (dC (.int 31)) dNil))) dNil)) (dVar 4))) (dName 5))
  (dSeq (dAsg (dCall 2 g__law_rows_at (dCons (dVar 1) (dCons (dLst (dCons (dOp2 subD (dVar 5) (dC (.int 1))) (dCons (dVar 5) dNil))) dNil))) (dGLst 3 (dGCons (dName 6) (dGCons (dName 7) (dGCons (dName 8) dGNil)))))
  (dSeq (dIf (dOr (dTest (dOp2 neD (dCall 1 g__law_lsize (dCons (dVar 6) dNil)) (dOp2 subD (dVar 5) (dC (.int 1))))) (dTest (dOp2 neD (dCall 1 g__law_lwritten (dCons (dVar 7) dNil)) (dLst (dCons (dCall 2 g__law_lline (dCons (dVar 1) (dCons (dVar 5) dNil))) dNil))))) (dRet (dC (.bl false))) dNext)
  (dSeq (dFor (dIL (dLst (dCons (dTup (dCons (dLst (dCons (dTup (dCons (dLst (dCons (dOp2 addD (dC (.str ("q" : Str))) (dVar 3)) dNil)) (dCons (dC (.int 1)) dNil))) dNil)) (dCons (dVar 5) dNil))) (dCons (dTup (dCons (dVar 7) (dCons (dC .non) dNil))) (dCons (dTup (dCons (dOp2 addD (dVar 7) (dLst (dCons (dTup (dCons (dLst (dCons (dVar 3) dNil)) (dCons (dC (.int 1)) dNil))) dNil))) (dCons (dC (.str ("own" : Str))) dNil))) (dCons (dTup (dCons (dLst dNil) (dCons (dC (.str ("own" : Str))) dNil))) dNil)))))) (dGTup 2 (dGCons (dName 9) (dGCons (dName 10) dGNil))) (dSeq (dAsg (dOp2 addD (dOp2 addD (dVar 6) (dVar 9)) (dVar 8)) (dName 11))
  (dSeq (dAsg (dIfE (dTest (dOp2 eqD (dVar 10) (dC (.str ("own" : Str))))) (dCall 2 g__law_apart (dCons (dVar 1) (dCons (dVar 11) dNil))) (dVar 10)) (dName 12))
  (dSeq (dAsg (dCall 1 g__law_lmade (dCons (dVar 11) dNil)) (dName 13))
  (dSeq (dIf (dTest (dOp2 neD (dOpn reprD (dCons (dLst (dCons (dMeth "difference" 1 tb_difference (dVar 2) (dCons (dVar 13) dNil)) (dCons (dMeth "difference" 1 tb_difference (dVar 13) (dCons (dVar 2) dNil)) dNil))) dNil)) (dOpn reprD (dCons (dLst (dCons (dVar 12) (dCons (dVar 12) dNil))) dNil)))) (dRet (dC (.bl false))) dNext)
  (dIf (dTest (dOp2 neD (dOpn reprD (dCons (dLst (dCons (dOp2 (eqQ tb_eqq false) (dVar 2) (dVar 13)) (dCons (dOp2 (eqQ tb_eqq true) (dVar 2) (dVar 13)) dNil))) dNil)) (dOpn reprD (dCons (dLst (dCons (dOp2 isND (dVar 12) (dC .non)) (dCons (dOp2 notND (dVar 12) (dC .non)) dNil))) dNil)))) (dRet (dC (.bl false))) dNext))))))
  (dRet (dC (.bl true))))))))
def g__law_exchanged_right : List D → W D := dBody N__law_exchanged_right b__law_exchanged_right
abbrev N__law_pick : List Str := ["_law_pen_here", "_law_options"]
@[reducible] def b__law_pick : List Sl → W Out := (dRet (dOp2 ixD (dVar 1) (dCall 2 g__law_draw (dCons (dVar 0) (dCons (dOpn lenD (dCons (dVar 1) dNil)) dNil)))))
def g__law_pick : List D → W D := dBody N__law_pick b__law_pick
abbrev N__law_signs : List Str := []
abbrev N__law_few : List Str := ["_law_pen_here", "_law_some", "_law_rare", "_law_k"]
@[reducible] def b__law_few : List Sl → W Out := (dSeq (dAsg (dLst (dCons (dCall 2 g__law_pick (dCons (dVar 0) (dCons (dC (.str (" !\"#$&'()*+,-./0123456789:;<=>?@ABCDEFGHIJKLMNOPQRSTUVWXYZ[\\]^_`abcdefghijklmnoprstuvwxyz{|}~" : Str))) dNil))) (dCons (dCall 2 g__law_pick (dCons (dVar 0) (dCons (dC (.str ("yz" : Str))) dNil))) (dCons (dCall 2 g__law_pick (dCons (dVar 0) (dCons (dC (.str ("(" : Str))) dNil))) dNil)))) (dName 1))
  (dSeq (dAsg (dMs (joinD) (dC (.str ("" : Str))) (dCons (dLc (dIR1 (dCons (dC (.int 3)) dNil)) (dName 3) (dTest (dOp2 (inD true) (dOp2 ixD (dVar 1) (dVar 3)) (dSl (dVar 1) dNoPart (dPart (dVar 3))))) (dOp2 ixD (dVar 1) (dVar 3)) [3]) dNil)) (dName 2))
  (dRet (dCall 2 g__law_pick (dCons (dVar 0) (dCons (dLst (dCons (dC (.str ("ab" : Str))) (dCons (dC (.str ("ab" : Str))) (dCons (dC (.str ("abc" : Str))) (dCons (dC (.str ("abc" : Str))) (dCons (dC (.str ("a " : Str))) (dCons (dC (.str ("x~" : Str))) (dCons (dC (.str ("01" : Str))) (dCons (dC (.str ("\"\\" : Str))) (dCons (dVar 2) dNil)))))))))) dNil))))))
def g__law_few : List D → W D := dBody N__law_few b__law_few
abbrev N__law_row : List Str := ["_law_pen_here", "_law_signs_here", "_law_least", "_law_most_letters", "_law_span", "_law_k"]
@[reducible] def b__law_row : List Sl → W Out := (dSeq (dAsg (dOp2 addD (dVar 2) (dCall 2 g__law_draw (dCons (dVar 0) (dCons (dOp2 addD (dOp2 subD (dVar 3) (dVar 2)) (dC (.int 1))) dNil)))) (dName 4))
  (dRet (dMs (joinD) (dC (.str ("" : Str))) (dCons (dLc (dIR1 (dCons (dVar 4) dNil)) (dName 5) dYes (dCall 2 g__law_pick (dCons (dVar 0) (dCons (dVar 1) dNil))) [5]) dNil))))
def g__law_row : List D → W D := dBody N__law_row b__law_row
abbrev N__law_lblocks : List Str := ["_law_pen_here", "_law_signs_here", "_law_most_blocks", "_law_tops", "_law_pool", "_law_found", "_law_k", "_law_rows", "_law_j"]
@[reducible] def b__law_lblocks : List Sl → W Out := (dSeq (dAsg (dTup (dCons (dLc (dIR1 (dCons (dC (.int 3)) dNil)) (dName 6) dYes (dCall 4 g__law_row (dCons (dVar 0) (dCons (dVar 1) (dCons (dC (.int 0)) (dCons (dC (.int 2)) dNil))))) [6]) (dCons (dLstM dNil) dNil))) (dGTup 2 (dGCons (dName 4) (dGCons (dName 5) dGNil))))
  (dSeq (dFor (dIR1 (dCons (dCall 2 g__law_draw (dCons (dVar 0) (dCons (dOp2 addD (dVar 2) (dC (.int 1))) dNil))) dNil)) (dName 6) (dSeq (dAsg (dLc (dIR1 (dCons (dOp2 addD (dC (.int 1)) (dCall 2 g__law_draw (dCons (dVar 0) (dCons (dC (.int 4)) dNil)))) dNil)) (dName 8) dYes (dCall 2 g__law_pick (dCons (dVar 0) (dCons (dVar 4) dNil))) [8]) (dName 7))
  (dApp 5 (dTup (dCons (dVar 7) (dCons (dCall 2 g__law_pick (dCons (dVar 0) (dCons (dVar 3) dNil))) dNil))))))
  (fun δ => (iceD 5 δ).bind (dRet (dVar 5)))))
def g__law_lblocks : List D → W D := dBody N__law_lblocks b__law_lblocks
abbrev N__law_pen : List Str := ["_law_script"]
abbrev N_LongText_blocks : List Str := ["self"]
@[reducible] def b_LongText_blocks : List Sl → W Out := (dRet (dFld "own_blocks" (dVar 0)))
def tp_blocks : Tb := [("LongText", dBody N_LongText_blocks b_LongText_blocks), ("FreeLongText", dBody N_LongText_blocks b_LongText_blocks)]
abbrev N_law : List Str := ["_law_script", "_law_pen_here", "_law_turn", "_law_signs_here", "_law_blocks", "_law_made", "_law_strange", "_law_more", "_law_twin", "_law_both"]
@[reducible] def b_law : List Sl → W Out := (dSeq (dFor (dIR1 (dCons (dOp2 addD (dC (.int 4)) (dOpn minD (dCons (dC (.int 6)) (dCons (dOpn lenD (dCons (dVar 0) dNil)) dNil)))) dNil)) (dName 2) (dSeq (dAsg (dCall 1 g__law_few (dCons (dVar 1) dNil)) (dName 3))
  (dSeq (dAsg (dCall 4 g__law_lblocks (dCons (dVar 1) (dCons (dVar 3) (dCons (dC (.int 5)) (dCons (dLst (dCons (dC (.int 1)) (dCons (dC (.int 2)) (dCons (dC (.int 3)) (dCons (dC (.int 5)) (dCons (dOp2 powD (dC (.int 10)) (dC (.int 9))) (dCons (dOp2 addD (dC (.int 1)) (dCall 2 g__law_great (dCons (dVar 1) (dCons (dC (.int 29)) dNil)))) (dCons (dOp2 powD (dC (.int 10)) (dC (.int 30))) dNil)))))))) dNil))))) (dName 4))
  (dSeq (dPar 5 6 (dCons (dCall 1 g__law_lmade (dCons (dVar 4) dNil)) (dCons (dCall 4 g__law_row (dCons (dVar 1) (dCons (dVar 3) (dCons (dC (.int 0)) (dCons (dC (.int 2)) dNil))))) dNil)))
  (dSeq (dIf (dOr (dNot (dTru (dCall 3 g__law_cut_right (dCons (dVar 1) (dCons (dVar 4) (dCons (dVar 5) dNil)))))) (dNot (dTru (dCall 3 g__law_cut_right (dCons (dVar 1) (dCons (dVar 4) (dCons (dVar 5) dNil))))))) (dRet (dC (.bl false))) dNext)
  (dSeq (dIf (dAnd (dTest (dOp2 neD (dVar 4) (dLst dNil))) (dNot (dTru (dCall 4 g__law_exchanged_right (dCons (dVar 1) (dCons (dVar 4) (dCons (dVar 5) (dCons (dVar 6) dNil)))))))) (dRet (dC (.bl false))) dNext)
  (dSeq (dAsg (dCall 4 g__law_lblocks (dCons (dVar 1) (dCons (dVar 3) (dCons (dC (.int 3)) (dCons (dLst (dCons (dC (.int 1)) (dCons (dC (.int 2)) (dCons (dC (.int 6)) (dCons (dOp2 powD (dC (.int 10)) (dC (.int 9))) dNil))))) dNil))))) (dName 7))
  (dSeq (dAsg (dCall 1 g__law_lmade (dCons (dVar 7) dNil)) (dName 8))
  (dSeq (dIf (dTest (dOp2 neD (dOpn reprD (dCons (dMeth "difference" 1 tb_difference (dVar 5) (dCons (dVar 8) dNil)) dNil)) (dOpn reprD (dCons (dCall 2 g__law_apart (dCons (dVar 4) (dCons (dVar 7) dNil))) dNil)))) (dRet (dC (.bl false))) dNext)
  (dSeq (dAsg (dOp2 (binO tb_op_add ds_op_add) (dVar 5) (dVar 8)) (dName 9))
  (dSeq (dIf (dOr (dNot (dTest (dOp2 (eqQ tb_eqq false) (dVar 9) (dCall 1 g__law_lmade (dCons (dOp2 addD (dVar 4) (dVar 7)) dNil))))) (dTest (dOp2 neD (dProp tp_length (dVar 9)) (dOp2 addD (dProp tp_length (dVar 5)) (dProp tp_length (dVar 8)))))) (dRet (dC (.bl false))) dNext)
  (dIf (dOr (dTest (dOp2 (eqQ tb_eqq false) (dVar 5) (dProp tp_blocks (dVar 5)))) (dOr (dTest (dOp2 (eqQ tb_eqq false) (dVar 5) (dC (.str ("a" : Str))))) (dTest (dOp2 (eqQ tb_eqq false) (dVar 5) (dProp tp_length (dVar 5)))))) (dRet (dC (.bl false))) dNext))))))))))))
  (dRet (dAndV (dOp2 (eqQ tb_eqq false) (dMakeS "LongText" 1 0 [] 2 gi_LongText (dCons (dTup (dCons (dLst (dCons (dC (.str ("a" : Str))) (dCons (dC (.str ("a" : Str))) dNil))) (dCons (dC (.int 3)) dNil))) dNil) dNil) (dMakeS "LongText" 1 0 [] 2 gi_LongText (dCons (dTup (dCons (dLst (dCons (dC (.str ("a" : Str))) dNil)) (dCons (dC (.int 6)) dNil))) dNil) dNil)) (dOp2 (eqR "LongText" "FreeLongText" (dBody N_LongText_eq b_LongText_eq)) (dMakeS "LongText" 0 0 [] 2 gi_LongText dNil dNil) (dCM "LongText" 2 g_cm_of (dCons (dLst dNil) dNil))))))
end Lw
namespace Lw
open PySem PySem.Spec L2 PyProof.Rows He Ly
open Lx (pe_gi pe_gs pe_revS sl_U pe_lenSetS pe_sortSet pe_maxD call_repr call_sumL op_addU op_eqU op_neU op_inU op_notInU pe_crepl fm_ini fm_sup fm_meth fm_prop fm_own fm_isi SupC SupD SupG SupScope DefM spPen t_pen pen_pure t_draw IsTb IsOk vTy pgA Fm Ky)
structure En (K : PySem.W.Frag) (mg : Str → Option Value) (base : Heap) : Prop where
  c : SaysY file fa fn K
  x : ∃ h : Heap, K.In h ∧ h.Ns mainGlobals mg
  tb : ∀ t ∈ tabs3 K, LamX.TabB base mg t.1 t.2.1
  sm : ∃ o, base.get? sysModules = some o
section
variable {w : World} {K : PySem.W.Frag} {mg : Str → Option Value} {base : Heap}
theorem gl (e : En K mg base) (i : Nat) {x : Str} (h : fa[i]? = some (.m (.he (.glo x)))) : mg x = some (.ref (ga K x)) := by
  obtain ⟨hp, a, b⟩ := e.x
  exact glo_ok a b (e.c.fm i h)
theorem fr (e : En K mg base) (i : Nat) {x : Str} (h : fa[i]? = some (.m (.he (.free x)))) : mg x = none := by
  obtain ⟨hp, a, b⟩ := e.x
  exact free_ok a b (e.c.fm i h)
theorem gi (e : En K mg base) (i : Nat) {x : Str} {j : Int} (h : fa[i]? = some (.m (.he (.int x j)))) : ∃ t, mg x = some (.int j t) := by
  obtain ⟨hp, a, b⟩ := e.x
  exact int_ok a b (e.c.fm i h)
theorem gs (e : En K mg base) (i : Nat) {x z : Str} (h : fa[i]? = some (.m (.he (.str x z)))) : ∃ t, mg x = some (.str z t) := by
  obtain ⟨hp, a, b⟩ := e.x
  exact str_ok a b (e.c.fm i h)
theorem d_is_line (e : En K mg base) : ∃ fd, FunD K "is_line" "is_line" (defArgs s_is_line) (defBody s_is_line) (defScope s_is_line) [] [] (ga K "is_line") fd := DefM.funD (d := dm_is_line) rfl (e.c.def_ 0 rfl).1 (e.c.def_ 0 rfl).2
theorem d_is_list (e : En K mg base) : ∃ fd, FunD K "is_list" "is_list" (defArgs s_is_list) (defBody s_is_list) (defScope s_is_list) [] [] (ga K "is_list") fd := DefM.funD (d := dm_is_list) rfl (e.c.def_ 1 rfl).1 (e.c.def_ 1 rfl).2
theorem d_is_text (e : En K mg base) : ∃ fd, FunD K "is_text" "is_text" (defArgs s_is_text) (defBody s_is_text) (defScope s_is_text) [] [] (ga K "is_text") fd := DefM.funD (d := dm_is_text) rfl (e.c.def_ 2 rfl).1 (e.c.def_ 2 rfl).2
theorem d_length_of (e : En K mg base) : ∃ fd, FunD K "length_of" "length_of" (defArgs s_length_of) (defBody s_length_of) (defScope s_length_of) [] [] (ga K "length_of") fd := DefM.funD (d := dm_length_of) rfl (e.c.def_ 3 rfl).1 (e.c.def_ 3 rfl).2
theorem d_is_integer (e : En K mg base) : ∃ fd, FunD K "is_integer" "is_integer" (defArgs s_is_integer) (defBody s_is_integer) (defScope s_is_integer) [] [] (ga K "is_integer") fd := DefM.funD (d := dm_is_integer) rfl (e.c.def_ 4 rfl).1 (e.c.def_ 4 rfl).2
theorem d_is_within (e : En K mg base) : ∃ fd, FunD K "is_within" "is_within" (defArgs s_is_within) (defBody s_is_within) (defScope s_is_within) [] [] (ga K "is_within") fd := DefM.funD (d := dm_is_within) rfl (e.c.def_ 5 rfl).1 (e.c.def_ 5 rfl).2
theorem d_is_block (e : En K mg base) : ∃ fd, FunD K "is_block" "is_block" (defArgs s_is_block) (defBody s_is_block) (defScope s_is_block) [] [] (ga K "is_block") fd := DefM.funD (d := dm_is_block) rfl (e.c.def_ 6 rfl).1 (e.c.def_ 6 rfl).2
theorem d_LongText_init (e : En K mg base) : ∃ fd, FunD K "__init__" "LongText.__init__" (defArgs s_LongText_init) (defBody s_LongText_init) (defScope s_LongText_init) [] [] (ma K (ga K "LongText") "__init__") fd := DefM.funD (d := dm_LongText_init) rfl (e.c.def_ 7 rfl).1 (e.c.def_ 7 rfl).2
theorem d_FreeLongText_init (e : En K mg base) : ∃ fd, SupG PW K "__init__" "FreeLongText.__init__" (defArgs s_FreeLongText_init) (defBody s_FreeLongText_init) (defScope s_FreeLongText_init) [] [] (ga K "FreeLongText") (ma K (ga K "FreeLongText") "__init__") fd := DefM.supD (P := PW) (d := dm_FreeLongText_init) rfl (e.c.def_ 8 rfl).1 (e.c.def_ 8 rfl).2 (e.c.fm 25 rfl) (by decide +kernel)
theorem d_LongText_of (e : En K mg base) : ∃ fd, FunD K "of" "LongText.of" (defArgs s_LongText_of) (defBody s_LongText_of) (defScope s_LongText_of) [] [] (He5.wf K (ga K "LongText") "classmethod" "of") fd := DefM.funD (d := dm_LongText_of) rfl (e.c.def_ 9 rfl).1 (e.c.def_ 9 rfl).2
theorem d_first_difference (e : En K mg base) : ∃ fd, FunD K "first_difference" "first_difference" (defArgs s_first_difference) (defBody s_first_difference) (defScope s_first_difference) [] [] (ga K "first_difference") fd := DefM.funD (d := dm_first_difference) rfl (e.c.def_ 10 rfl).1 (e.c.def_ 10 rfl).2
theorem d_LongText_eq (e : En K mg base) : ∃ fd, FunD K "__eq__" "LongText.__eq__" (defArgs s_LongText_eq) (defBody s_LongText_eq) (defScope s_LongText_eq) [] [] (ma K (ga K "LongText") "__eq__") fd := DefM.funD (d := dm_LongText_eq) rfl (e.c.def_ 11 rfl).1 (e.c.def_ 11 rfl).2
theorem d__law_lline (e : En K mg base) : ∃ fd, FunD K "_law_lline" "_law_lline" (defArgs s__law_lline) (defBody s__law_lline) (defScope s__law_lline) [] [] (ga K "_law_lline") fd := DefM.funD (d := dm__law_lline) rfl (e.c.def_ 12 rfl).1 (e.c.def_ 12 rfl).2
theorem d__law_lsize (e : En K mg base) : ∃ fd, FunD K "_law_lsize" "_law_lsize" (defArgs s__law_lsize) (defBody s__law_lsize) (defScope s__law_lsize) [] [] (ga K "_law_lsize") fd := DefM.funD (d := dm__law_lsize) rfl (e.c.def_ 13 rfl).1 (e.c.def_ 13 rfl).2
theorem d__law_apart (e : En K mg base) : ∃ fd, FunD K "_law_apart" "_law_apart" (defArgs s__law_apart) (defBody s__law_apart) (defScope s__law_apart) [] [] (ga K "_law_apart") fd := DefM.funD (d := dm__law_apart) rfl (e.c.def_ 14 rfl).1 (e.c.def_ 14 rfl).2
theorem d_LongText_op_add (e : En K mg base) : ∃ fd, FunD K "__add__" "LongText.__add__" (defArgs s_LongText_op_add) (defBody s_LongText_op_add) (defScope s_LongText_op_add) [] [] (ma K (ga K "LongText") "__add__") fd := DefM.funD (d := dm_LongText_op_add) rfl (e.c.def_ 15 rfl).1 (e.c.def_ 15 rfl).2
theorem d__law_lmade (e : En K mg base) : ∃ fd, FunD K "_law_lmade" "_law_lmade" (defArgs s__law_lmade) (defBody s__law_lmade) (defScope s__law_lmade) [] [] (ga K "_law_lmade") fd := DefM.funD (d := dm__law_lmade) rfl (e.c.def_ 16 rfl).1 (e.c.def_ 16 rfl).2
theorem d__law_draw (e : En K mg base) : ∃ fd, FunD K "_law_draw" "_law_draw" (defArgs s__law_draw) (defBody s__law_draw) (defScope s__law_draw) [] [] (ga K "_law_draw") fd := DefM.funD (d := dm__law_draw) rfl (e.c.def_ 17 rfl).1 (e.c.def_ 17 rfl).2
theorem d__law_great (e : En K mg base) : ∃ fd, FunD K "_law_great" "_law_great" (defArgs s__law_great) (defBody s__law_great) (defScope s__law_great) [] [] (ga K "_law_great") fd := DefM.funD (d := dm__law_great) rfl (e.c.def_ 18 rfl).1 (e.c.def_ 18 rfl).2
theorem d__law_lsplit (e : En K mg base) : ∃ fd, FunD K "_law_lsplit" "_law_lsplit" (defArgs s__law_lsplit) (defBody s__law_lsplit) (defScope s__law_lsplit) [] [] (ga K "_law_lsplit") fd := DefM.funD (d := dm__law_lsplit) rfl (e.c.def_ 19 rfl).1 (e.c.def_ 19 rfl).2
theorem d_LongText_difference (e : En K mg base) : ∃ fd, FunD K "difference" "LongText.difference" (defArgs s_LongText_difference) (defBody s_LongText_difference) (defScope s_LongText_difference) [] [] (ma K (ga K "LongText") "difference") fd := DefM.funD (d := dm_LongText_difference) rfl (e.c.def_ 20 rfl).1 (e.c.def_ 20 rfl).2
theorem d_LongText_length (e : En K mg base) : ∃ fd, FunD K "length" "LongText.length" (defArgs s_LongText_length) (defBody s_LongText_length) (defScope s_LongText_length) [] [] (pgA K "LongText" "length") fd := DefM.funD (d := dm_LongText_length) rfl (e.c.def_ 21 rfl).1 (e.c.def_ 21 rfl).2
theorem d__law_cut_right (e : En K mg base) : ∃ fd, FunD K "_law_cut_right" "_law_cut_right" (defArgs s__law_cut_right) (defBody s__law_cut_right) (defScope s__law_cut_right) [] [] (ga K "_law_cut_right") fd := DefM.funD (d := dm__law_cut_right) rfl (e.c.def_ 22 rfl).1 (e.c.def_ 22 rfl).2
theorem d__law_lwritten (e : En K mg base) : ∃ fd, FunD K "_law_lwritten" "_law_lwritten" (defArgs s__law_lwritten) (defBody s__law_lwritten) (defScope s__law_lwritten) [] [] (ga K "_law_lwritten") fd := DefM.funD (d := dm__law_lwritten) rfl (e.c.def_ 23 rfl).1 (e.c.def_ 23 rfl).2
theorem d__law_rows_at (e : En K mg base) : ∃ fd, FunD K "_law_rows_at" "_law_rows_at" (defArgs s__law_rows_at) (defBody s__law_rows_at) (defScope s__law_rows_at) [] [] (ga K "_law_rows_at") fd := DefM.funD (d := dm__law_rows_at) rfl (e.c.def_ 24 rfl).1 (e.c.def_ 24 rfl).2
theorem d__law_exchanged_right (e : En K mg base) : ∃ fd, FunD K "_law_exchanged_right" "_law_exchanged_right" (defArgs s__law_exchanged_right) (defBody s__law_exchanged_right) (defScope s__law_exchanged_right) [] [] (ga K "_law_exchanged_right") fd := DefM.funD (d := dm__law_exchanged_right) rfl (e.c.def_ 25 rfl).1 (e.c.def_ 25 rfl).2
theorem d__law_pick (e : En K mg base) : ∃ fd, FunD K "_law_pick" "_law_pick" (defArgs s__law_pick) (defBody s__law_pick) (defScope s__law_pick) [] [] (ga K "_law_pick") fd := DefM.funD (d := dm__law_pick) rfl (e.c.def_ 26 rfl).1 (e.c.def_ 26 rfl).2
theorem d__law_signs (e : En K mg base) : ∃ fd, FunD K "_law_signs" "_law_signs" (defArgs s__law_signs) (defBody s__law_signs) (defScope s__law_signs) [] [] (ga K "_law_signs") fd := DefM.funD (d := dm__law_signs) rfl (e.c.def_ 27 rfl).1 (e.c.def_ 27 rfl).2
theorem d__law_few (e : En K mg base) : ∃ fd, FunD K "_law_few" "_law_few" (defArgs s__law_few) (defBody s__law_few) (defScope s__law_few) [] [] (ga K "_law_few") fd := DefM.funD (d := dm__law_few) rfl (e.c.def_ 28 rfl).1 (e.c.def_ 28 rfl).2
theorem d__law_row (e : En K mg base) : ∃ fd, FunD K "_law_row" "_law_row" (defArgs s__law_row) (defBody s__law_row) (defScope s__law_row) [] [] (ga K "_law_row") fd := DefM.funD (d := dm__law_row) rfl (e.c.def_ 29 rfl).1 (e.c.def_ 29 rfl).2
theorem d__law_lblocks (e : En K mg base) : ∃ fd, FunD K "_law_lblocks" "_law_lblocks" (defArgs s__law_lblocks) (defBody s__law_lblocks) (defScope s__law_lblocks) [] [] (ga K "_law_lblocks") fd := DefM.funD (d := dm__law_lblocks) rfl (e.c.def_ 30 rfl).1 (e.c.def_ 30 rfl).2
theorem d__law_pen (e : En K mg base) : ∃ fd, FunD K "_law_pen" "_law_pen" (defArgs s__law_pen) (defBody s__law_pen) (defScope s__law_pen) [] [] (ga K "_law_pen") fd := DefM.funD (d := dm__law_pen) rfl (e.c.def_ 31 rfl).1 (e.c.def_ 31 rfl).2
theorem d_LongText_blocks (e : En K mg base) : ∃ fd, FunD K "blocks" "LongText.blocks" (defArgs s_LongText_blocks) (defBody s_LongText_blocks) (defScope s_LongText_blocks) [] [] (pgA K "LongText" "blocks") fd := DefM.funD (d := dm_LongText_blocks) rfl (e.c.def_ 32 rfl).1 (e.c.def_ 32 rfl).2
theorem d_law0 (c : SaysY file fa fn K) : ∃ fd, FunD K "law" "law" (defArgs s_law) (defBody s_law) (defScope s_law) [] [] (ga K "law") fd := DefM.funD (d := dm_law) rfl (c.def_ 33 rfl).1 (c.def_ 33 rfl).2
theorem isok_LongText (e : En K mg base) : IsOk K (vTy K (.c "LongText")) is_LongText := (.cons (fm_isi (e.c.fm 87 rfl)) (fun c h => by cases h)
  (.cons (fm_isi (e.c.fm 86 rfl)) (fun c h => by cases h)
  (.cons (fm_isi (e.c.fm 85 rfl)) (fun c h => by cases h)
  (.cons (fm_isi (e.c.fm 84 rfl)) (fun c h => by cases h)
  (.cons (fm_isi (e.c.fm 83 rfl)) (fun c h => by cases h)
  (.cons (fm_isi (e.c.fm 82 rfl)) (fun c h => by cases h)
  (.cons (fm_isi (e.c.fm 81 rfl)) (fun c h => by cases h)
  (.cons (fm_isi (e.c.fm 80 rfl)) (fun c h => by cases h; exact fm_own (e.c.fm 34 rfl) (cls_ok (e.c.fm 35 rfl)))
  (.cons (fm_isi (e.c.fm 79 rfl)) (fun c h => by cases h; exact fm_own (e.c.fm 36 rfl) (cls_ok (e.c.fm 29 rfl)))
  .nil)))))))))
theorem isok_bool (e : En K mg base) : IsOk K (vTy K (.t "bool")) is_bool := (.cons (fm_isi (e.c.fm 96 rfl)) (fun c h => by cases h)
  (.cons (fm_isi (e.c.fm 95 rfl)) (fun c h => by cases h)
  (.cons (fm_isi (e.c.fm 94 rfl)) (fun c h => by cases h)
  (.cons (fm_isi (e.c.fm 93 rfl)) (fun c h => by cases h)
  (.cons (fm_isi (e.c.fm 92 rfl)) (fun c h => by cases h)
  (.cons (fm_isi (e.c.fm 91 rfl)) (fun c h => by cases h)
  (.cons (fm_isi (e.c.fm 90 rfl)) (fun c h => by cases h)
  (.cons (fm_isi (e.c.fm 89 rfl)) (fun c h => by cases h; exact fm_own (e.c.fm 34 rfl) (cls_ok (e.c.fm 35 rfl)))
  (.cons (fm_isi (e.c.fm 88 rfl)) (fun c h => by cases h; exact fm_own (e.c.fm 36 rfl) (cls_ok (e.c.fm 29 rfl)))
  .nil)))))))))
theorem isok_int (e : En K mg base) : IsOk K (vTy K (.t "int")) is_int := (.cons (fm_isi (e.c.fm 105 rfl)) (fun c h => by cases h)
  (.cons (fm_isi (e.c.fm 104 rfl)) (fun c h => by cases h)
  (.cons (fm_isi (e.c.fm 103 rfl)) (fun c h => by cases h)
  (.cons (fm_isi (e.c.fm 102 rfl)) (fun c h => by cases h)
  (.cons (fm_isi (e.c.fm 101 rfl)) (fun c h => by cases h)
  (.cons (fm_isi (e.c.fm 100 rfl)) (fun c h => by cases h)
  (.cons (fm_isi (e.c.fm 99 rfl)) (fun c h => by cases h)
  (.cons (fm_isi (e.c.fm 98 rfl)) (fun c h => by cases h; exact fm_own (e.c.fm 34 rfl) (cls_ok (e.c.fm 35 rfl)))
  (.cons (fm_isi (e.c.fm 97 rfl)) (fun c h => by cases h; exact fm_own (e.c.fm 36 rfl) (cls_ok (e.c.fm 29 rfl)))
  .nil)))))))))
theorem isok_list (e : En K mg base) : IsOk K (vTy K (.t "list")) is_list := (.cons (fm_isi (e.c.fm 114 rfl)) (fun c h => by cases h)
  (.cons (fm_isi (e.c.fm 113 rfl)) (fun c h => by cases h)
  (.cons (fm_isi (e.c.fm 112 rfl)) (fun c h => by cases h)
  (.cons (fm_isi (e.c.fm 111 rfl)) (fun c h => by cases h)
  (.cons (fm_isi (e.c.fm 110 rfl)) (fun c h => by cases h)
  (.cons (fm_isi (e.c.fm 109 rfl)) (fun c h => by cases h)
  (.cons (fm_isi (e.c.fm 108 rfl)) (fun c h => by cases h)
  (.cons (fm_isi (e.c.fm 107 rfl)) (fun c h => by cases h; exact fm_own (e.c.fm 34 rfl) (cls_ok (e.c.fm 35 rfl)))
  (.cons (fm_isi (e.c.fm 106 rfl)) (fun c h => by cases h; exact fm_own (e.c.fm 36 rfl) (cls_ok (e.c.fm 29 rfl)))
  .nil)))))))))
theorem isok_str (e : En K mg base) : IsOk K (vTy K (.t "str")) is_str := (.cons (fm_isi (e.c.fm 123 rfl)) (fun c h => by cases h)
  (.cons (fm_isi (e.c.fm 122 rfl)) (fun c h => by cases h)
  (.cons (fm_isi (e.c.fm 121 rfl)) (fun c h => by cases h)
  (.cons (fm_isi (e.c.fm 120 rfl)) (fun c h => by cases h)
  (.cons (fm_isi (e.c.fm 119 rfl)) (fun c h => by cases h)
  (.cons (fm_isi (e.c.fm 118 rfl)) (fun c h => by cases h)
  (.cons (fm_isi (e.c.fm 117 rfl)) (fun c h => by cases h)
  (.cons (fm_isi (e.c.fm 116 rfl)) (fun c h => by cases h; exact fm_own (e.c.fm 34 rfl) (cls_ok (e.c.fm 35 rfl)))
  (.cons (fm_isi (e.c.fm 115 rfl)) (fun c h => by cases h; exact fm_own (e.c.fm 36 rfl) (cls_ok (e.c.fm 29 rfl)))
  .nil)))))))))
theorem isok_tuple (e : En K mg base) : IsOk K (vTy K (.t "tuple")) is_tuple := (.cons (fm_isi (e.c.fm 132 rfl)) (fun c h => by cases h)
  (.cons (fm_isi (e.c.fm 131 rfl)) (fun c h => by cases h)
  (.cons (fm_isi (e.c.fm 130 rfl)) (fun c h => by cases h)
  (.cons (fm_isi (e.c.fm 129 rfl)) (fun c h => by cases h)
  (.cons (fm_isi (e.c.fm 128 rfl)) (fun c h => by cases h)
  (.cons (fm_isi (e.c.fm 127 rfl)) (fun c h => by cases h)
  (.cons (fm_isi (e.c.fm 126 rfl)) (fun c h => by cases h)
  (.cons (fm_isi (e.c.fm 125 rfl)) (fun c h => by cases h; exact fm_own (e.c.fm 34 rfl) (cls_ok (e.c.fm 35 rfl)))
  (.cons (fm_isi (e.c.fm 124 rfl)) (fun c h => by cases h; exact fm_own (e.c.fm 36 rfl) (cls_ok (e.c.fm 29 rfl)))
  .nil)))))))))
theorem sc_is_line : FnScope N_is_line ["value"] (defScope s_is_line) := ⟨rfl, rfl, rfl, by decide +kernel, rfl, by decide +kernel, by decide +kernel⟩
theorem fk_is_line (e : En K mg base) : Fk PW w K mg base 2 (ga K "is_line") (Pr K 1 g_is_line) := by
  obtain ⟨fd, F⟩ := d_is_line e
  exact ⟨fd, _, fn_ly (b := b_is_line) (k := 1) F sc_is_line (ls_ret (le_and (le_isi (.ty "str") (isok_str e) le_var) (le_opn lo_all (la_cons (le_lc (li_str le_var) lg_name lt_yes (le_op2 lo_in le_var le_str) (fun _ h => h)) la_nil)))) (fun cdv A outer s H E hr tk => (pss_one (ps_ret (pe_andT (pe_callB call_isi rfl (fr e 1 rfl) boot_isinstance (pa_cons (pv 0) (pa_cons (pe_bltn rfl (fr e 0 rfl) boot_str rfl) pa_nil))) (pe_one (pe_callB (cr_all rfl) rfl (fr e 3 rfl) boot_all (pa_cons (pe_lc (own := [("letter", 1)]) rfl sc_is_line.nd (pi_str (pv 0)) (blkOk_by (N := N_is_line) (sc := defScope s_is_line) (by decide +kernel)) (fun _ _ _ _ _ => (pg_name (i := 1) sc_is_line.nd rfl (by first | exact Or.inl rfl | exact Or.inr rfl))) (fun _ _ _ _ _ => pts_nil) (fun _ _ _ _ _ => (pe_cmpR op_inU (pv 1) (pe_gs (gs e 2 rfl) rfl) rfl))) pa_nil))))))), F.bindsN (fun _ _ _ _ _ _ us hl => match us, hl with | [_], _ => rfl), F.kp⟩
theorem sc_is_list : FnScope N_is_list ["value"] (defScope s_is_list) := ⟨rfl, rfl, rfl, by decide +kernel, rfl, by decide +kernel, by decide +kernel⟩
theorem fk_is_list (e : En K mg base) : Fk PW w K mg base 2 (ga K "is_list") (Pr K 1 g_is_list) := by
  obtain ⟨fd, F⟩ := d_is_list e
  exact ⟨fd, _, fn_ly (b := b_is_list) (k := 1) F sc_is_list (ls_ret (le_isiT (vs := [.ty "list", .ty "tuple"]) (tbs := [is_list, is_tuple]) (.cons (.ty "list") (isok_list e) (.cons (.ty "tuple") (isok_tuple e) .nil)) (by decide +kernel) (Nat.le_of_ble_eq_true rfl) le_var)) (fun cdv A outer s H E hr tk => (pss_one (ps_ret (pe_callB call_isiT rfl (fr e 1 rfl) boot_isinstance (pa_cons (pv 0) (pa_cons (pe_tup (pa_cons (pe_bltn rfl (fr e 5 rfl) boot_list rfl) (pa_cons (pe_bltn rfl (fr e 4 rfl) boot_tuple rfl) pa_nil))) pa_nil)))))), F.bindsN (fun _ _ _ _ _ _ us hl => match us, hl with | [_], _ => rfl), F.kp⟩
theorem sc_is_text : FnScope N_is_text ["value"] (defScope s_is_text) := ⟨rfl, rfl, rfl, by decide +kernel, rfl, by decide +kernel, by decide +kernel⟩
theorem fk_is_text (e : En K mg base) : Fk PW w K mg base 10 (ga K "is_text") (Pr K 1 g_is_text) := by
  obtain ⟨fd, F⟩ := d_is_text e
  exact ⟨fd, _, fn_ly (b := b_is_text) (k := 9) F sc_is_text (ls_ret (le_and (le_call (la_cons le_var la_nil)) (le_opn lo_all (la_cons (le_lc (li_list le_var) lg_name lt_yes (le_call (la_cons le_var la_nil)) (fun _ h => h)) la_nil)))) (fun cdv A outer s H E hr tk => (pss_one (ps_ret (pe_andT (pe_fk (fk_is_list e) (hr.mono (by omega)) (px tk) rfl (gl e 6 rfl) (pa_cons (pv 0) pa_nil)) (pe_one (pe_callB (cr_all rfl) rfl (fr e 3 rfl) boot_all (pa_cons (pe_lc (own := [("line", 1)]) rfl sc_is_text.nd (pi_list (pv 0)) (blkOk_by (N := N_is_text) (sc := defScope s_is_text) (by decide +kernel)) (fun _ _ _ _ _ => (pg_name (i := 1) sc_is_text.nd rfl (by first | exact Or.inl rfl | exact Or.inr rfl))) (fun _ _ _ _ _ => pts_nil) (fun _ _ _ _ _ => (pe_fk (fk_is_line e) (hr.mono (by omega)) px0 rfl (gl e 7 rfl) (pa_cons (pv 1) pa_nil)))) pa_nil))))))), F.bindsN (fun _ _ _ _ _ _ us hl => match us, hl with | [_], _ => rfl), F.kp⟩
theorem sc_length_of : FnScope N_length_of ["blocks"] (defScope s_length_of) := ⟨rfl, rfl, rfl, by decide +kernel, rfl, by decide +kernel, by decide +kernel⟩
theorem fk_length_of (e : En K mg base) : Fk PW w K mg base 2 (ga K "length_of") (Pr K 1 g_length_of) := by
  obtain ⟨fd, F⟩ := d_length_of e
  exact ⟨fd, _, fn_ly (b := b_length_of) (k := 1) F sc_length_of (ls_ret (le_opn lo_sumI (la_cons (le_lc (li_tup le_var) (lg_tup (lgs_cons lg_name (lgs_cons lg_name lgs_nil))) lt_yes (le_op2 lo_mulU (le_opn lo_len (la_cons le_var la_nil)) le_var) (fun _ h => h)) la_nil))) (fun cdv A outer s H E hr tk => (pss_one (ps_ret (pe_callB (cr_sum rfl) rfl (fr e 9 rfl) boot_sum (pa_cons (pe_lc (own := [("lines", 1), ("times", 2)]) rfl sc_length_of.nd (pi_tup (pv 0)) (blkOk_by (N := N_length_of) (sc := defScope s_length_of) (by decide +kernel)) (fun _ _ _ _ _ => (pg_tup (n := 2) rfl (pgs_cons (pg_name (i := 1) sc_length_of.nd rfl (by first | exact Or.inl rfl | exact Or.inr rfl)) (pgs_cons (pg_name (i := 2) sc_length_of.nd rfl (by first | exact Or.inl rfl | exact Or.inr rfl)) pgs_nil)))) (fun _ _ _ _ _ => pts_nil) (fun _ _ _ _ _ => (pe_op op_mulU (pe_callB call_len rfl (fr e 8 rfl) boot_len (pa_cons (pv 1) pa_nil)) (pv 2)))) pa_nil))))), F.bindsN (fun _ _ _ _ _ _ us hl => match us, hl with | [_], _ => rfl), F.kp⟩
theorem sc_is_integer : FnScope N_is_integer ["value"] (defScope s_is_integer) := ⟨rfl, rfl, rfl, by decide +kernel, rfl, by decide +kernel, by decide +kernel⟩
theorem fk_is_integer (e : En K mg base) : Fk PW w K mg base 2 (ga K "is_integer") (Pr K 1 g_is_integer) := by
  obtain ⟨fd, F⟩ := d_is_integer e
  exact ⟨fd, _, fn_ly (b := b_is_integer) (k := 1) F sc_is_integer (ls_ret (le_and (le_isi (.ty "int") (isok_int e) le_var) (le_notT (le_isi (.ty "bool") (isok_bool e) le_var)))) (fun cdv A outer s H E hr tk => (pss_one (ps_ret (pe_andT (pe_callB call_isi rfl (fr e 1 rfl) boot_isinstance (pa_cons (pv 0) (pa_cons (pe_bltn rfl (fr e 10 rfl) boot_int rfl) pa_nil))) (pe_one (pe_notT (pe_callB call_isi rfl (fr e 1 rfl) boot_isinstance (pa_cons (pv 0) (pa_cons (pe_bltn rfl (fr e 11 rfl) boot_bool rfl) pa_nil))))))))), F.bindsN (fun _ _ _ _ _ _ us hl => match us, hl with | [_], _ => rfl), F.kp⟩
theorem sc_is_within : FnScope N_is_within ["value", "least", "greatest"] (defScope s_is_within) := ⟨rfl, rfl, rfl, by decide +kernel, rfl, by decide +kernel, by decide +kernel⟩
theorem fk_is_within (e : En K mg base) : Fk PW w K mg base 10 (ga K "is_within") (Pr K 3 g_is_within) := by
  obtain ⟨fd, F⟩ := d_is_within e
  exact ⟨fd, _, fn_ly (b := b_is_within) (k := 9) F sc_is_within (ls_ret (le_and (le_call (la_cons le_var la_nil)) (le_chain lo_cmp lo_cmp le_var le_var le_var))) (fun cdv A outer s H E hr tk => (pss_one (ps_ret (pe_andT (pe_fk (fk_is_integer e) (hr.mono (by omega)) (px tk) rfl (gl e 12 rfl) (pa_cons (pv 0) pa_nil)) (pe_one (pe_chain op_le op_le (pv 1) (pv 0) (pv 2))))))), F.bindsN (fun _ _ _ _ _ _ us hl => match us, hl with | [_, _, _], _ => rfl), F.kp⟩
theorem sc_is_block : FnScope N_is_block ["value"] (defScope s_is_block) := ⟨rfl, rfl, rfl, by decide +kernel, rfl, by decide +kernel, by decide +kernel⟩
theorem fk_is_block (e : En K mg base) : Fk PW w K mg base 18 (ga K "is_block") (Pr K 1 g_is_block) := by
  obtain ⟨fd, F⟩ := d_is_block e
  exact ⟨fd, _, fn_ly (b := b_is_block) (k := 17) F sc_is_block (ls_seq (ls_if (lt_or (lt_not (lt_tru (le_isi (.ty "tuple") (isok_tuple e) le_var))) (lt_or (lt_test (le_op2 lo_ne (le_opn lo_len (la_cons le_var la_nil)) le_int)) (lt_or (lt_not (lt_tru (le_call (la_cons (le_op2 lo_ix le_var le_int) la_nil)))) (lt_not (lt_tru (le_call (la_cons (le_op2 lo_ix le_var le_int) la_nil))))))) (ls_ret le_bl) ls_next)
  (ls_ret (le_and (le_chain lo_cmp lo_cmp le_int (le_opn lo_len (la_cons (le_op2 lo_ix le_var le_int) la_nil)) le_int) (le_call (la_cons (le_op2 lo_ix le_var le_int) (la_cons le_int (la_cons le_int la_nil))))))) (fun cdv A outer s H E hr tk => (pss_cons (ps_if (PW.pt (pw_or (pt_not (pt_truth (pe_callB call_isi rfl (fr e 1 rfl) boot_isinstance (pa_cons (pv 0) (pa_cons (pe_bltn rfl (fr e 4 rfl) boot_tuple rfl) pa_nil))) (fun _ => rfl))) (pw_or (pt_cmpR (op_neU hr.units) (pe_callB call_len rfl (fr e 8 rfl) boot_len (pa_cons (pv 0) pa_nil)) pe_int (nomark _)) (pw_or (pt_not (pt_truth (pe_fk (fk_is_list e) (hr.mono (by omega)) (px tk) rfl (gl e 6 rfl) (pa_cons (pe_ix ix_seq (pv 0) pe_int (fun _ _ => rfl)) pa_nil)) (fun _ => rfl))) (pw_or1 (pt_not (pt_truth (pe_fk (fk_is_text e) (hr.mono (by omega)) (px tk) rfl (gl e 16 rfl) (pa_cons (pe_ix ix_seq (pv 0) pe_int (fun _ _ => rfl)) pa_nil)) (fun _ => rfl)))))))) (pss_one (ps_ret pe_bl)) pss_nil)
  (pss_one (ps_ret (pe_andT (pe_chain op_le op_le pe_int (pe_callB call_len rfl (fr e 8 rfl) boot_len (pa_cons (pe_ix ix_seq (pv 0) pe_int (fun _ _ => rfl)) pa_nil)) (pe_gi (gi e 13 rfl) rfl)) (pe_one (pe_fk (fk_is_within e) (hr.mono (by omega)) (px tk) rfl (gl e 15 rfl) (pa_cons (pe_ix ix_seq (pv 0) pe_int (fun _ _ => rfl)) (pa_cons pe_int (pa_cons (pe_gi (gi e 14 rfl) rfl) pa_nil)))))))))), F.bindsN (fun _ _ _ _ _ _ us hl => match us, hl with | [_], _ => rfl), F.kp⟩
theorem sc_LongText_init : FnScope N_LongText_init ["self", "blocks"] (defScope s_LongText_init) := ⟨rfl, rfl, rfl, by decide +kernel, rfl, by decide +kernel, by decide +kernel⟩
theorem fsg_LongText (e : En K mg base) {m : Nat} {ks : List Str} {dvs : List V} (hps : 2 = ks.length + dvs.length + 2) (hn : m ≤ sizeLine) (hd : StarB K "__init__" "LongText.__init__" (defArgs s_LongText_init) (defBody s_LongText_init) (defScope s_LongText_init) [] ["self", "blocks"] m ks dvs) : FkS PW w K mg base 26 (ma K (ga K "LongText") "__init__") m ks dvs (Pr K 2 gi_LongText) := by
  obtain ⟨fd, F⟩ := d_LongText_init e
  exact ⟨fn_star0 (b := b_LongText_init) (k := 25) F sc_LongText_init hps hn (ls_seq (ls_for (li_enum (la_cons le_var la_nil)) (lg_tup (lgs_cons lg_name (lgs_cons lg_name lgs_nil))) (ls_if (lt_not (lt_tru (le_call (la_cons le_var la_nil)))) ls_never ls_next))
  (ls_seq (ls_if (lt_test (le_op2 lo_cmp (le_opn lo_len (la_cons le_var la_nil)) le_int)) ls_never ls_next)
  (ls_seq (ls_setF (by
    intro c h
    have h : c ∈ (["LongText", "FreeLongText"] : List Str) := h
    simp only [List.mem_cons, List.not_mem_nil, or_false] at h
    rcases h with rfl | rfl
    · exact noat_ok (e.c.fm 20 rfl)
    · exact noat_ok (e.c.fm 21 rfl)) le_var (le_opn lo_tuple (la_cons (le_lc (li_tup le_var) (lg_tup (lgs_cons lg_name (lgs_cons lg_name lgs_nil))) lt_yes (le_tup (la_cons (le_opn lo_tuple (la_cons le_var la_nil)) (la_cons le_var la_nil))) (fun _ h => h)) la_nil)))
  (ls_setF (by
    intro c h
    have h : c ∈ (["LongText", "FreeLongText"] : List Str) := h
    simp only [List.mem_cons, List.not_mem_nil, or_false] at h
    rcases h with rfl | rfl
    · exact noat_ok (e.c.fm 18 rfl)
    · exact noat_ok (e.c.fm 19 rfl)) le_var (le_call (la_cons (le_fld le_var) la_nil)))))) (fun cdv A outer s H E hr tk => (pss_cons (ps_for (passes_of rfl) rfl (pi_enumT rfl (fr e 23 rfl) (pa_cons (pv 1) pa_nil)) (pg_tup (n := 2) rfl (pgs_cons (pg_name (i := 2) sc_LongText_init.nd rfl (by first | exact Or.inl rfl | exact Or.inr rfl)) (pgs_cons (pg_name (i := 3) sc_LongText_init.nd rfl (by first | exact Or.inl rfl | exact Or.inr rfl)) pgs_nil))) (pss_one (ps_if (pt_not (pt_truth (pe_fk (fk_is_block e) (hr.mono (by omega)) (px tk) rfl (gl e 24 rfl) (pa_cons (pv 3) pa_nil)) (fun _ => rfl))) (pss_one ps_never) pss_nil)))
  (pss_cons (ps_if (pt_cmpR op_gt (pe_callB call_len rfl (fr e 8 rfl) boot_len (pa_cons (pv 1) pa_nil)) (pe_gi (gi e 22 rfl) rfl) (nomark _)) (pss_one ps_never) pss_nil)
  (pss_cons (ps_fld (pv 0) (pe_callTy call_tuple_of rfl (fr e 4 rfl) boot_tuple (pa_cons (pe_lc (own := [("lines", 4), ("times", 5)]) rfl sc_LongText_init.nd (pi_tup (pv 1)) (blkOk_by (N := N_LongText_init) (sc := defScope s_LongText_init) (by decide +kernel)) (fun _ _ _ _ _ => (pg_tup (n := 2) rfl (pgs_cons (pg_name (i := 4) sc_LongText_init.nd rfl (by first | exact Or.inl rfl | exact Or.inr rfl)) (pgs_cons (pg_name (i := 5) sc_LongText_init.nd rfl (by first | exact Or.inl rfl | exact Or.inr rfl)) pgs_nil)))) (fun _ _ _ _ _ => pts_nil) (fun _ _ _ _ _ => (pe_tup (pa_cons (pe_callTy call_tuple_of rfl (fr e 4 rfl) boot_tuple (pa_cons (pv 4) pa_nil)) (pa_cons (pv 5) pa_nil))))) pa_nil)) rfl)
  (pss_one (ps_fld (pv 0) (pe_fk (fk_length_of e) (hr.mono (by omega)) (px tk) rfl (gl e 17 rfl) (pa_cons (pe_fld (pv 0) rfl) pa_nil)) rfl)))))) hd⟩
theorem fs_LongText_0_0 (e : En K mg base) : FkS PW w K mg base 26 (ma K (ga K "LongText") "__init__") 0 [] [] (Pr K 2 gi_LongText) := fsg_LongText e rfl (by decide) (star_all fun _ _ _ _ _ _ _ us ws l1 l2 => match us, ws, l1, l2 with | [], [], _, _ => rfl)
theorem fs_LongText_1_0 (e : En K mg base) : FkS PW w K mg base 26 (ma K (ga K "LongText") "__init__") 1 [] [] (Pr K 2 gi_LongText) := fsg_LongText e rfl (by decide) (star_all fun _ _ _ _ _ _ _ us ws l1 l2 => match us, ws, l1, l2 with | [_], [], _, _ => rfl)
theorem sc_FreeLongText_init : SupScope N_FreeLongText_init ["self", "blocks"] (defScope s_FreeLongText_init) := ⟨rfl, rfl, rfl, by decide +kernel, rfl, by decide +kernel, by decide +kernel, by decide +kernel, rfl, rfl⟩
theorem su_FreeLongText_init (e : En K mg base) : ∀ c, c ∈ cl_FreeLongText → SupC K (ga K c) (ga K "FreeLongText") (ma K (ga K "LongText") "__init__") := fun c h => by
    have h : c ∈ (["FreeLongText"] : List Str) := h
    simp only [List.mem_cons, List.not_mem_nil, or_false] at h
    rcases h with rfl
    · exact fm_sup (e.c.fm 26 rfl)
theorem fo_FreeLongText_init (e : En K mg base) {fd : FuncData} (F : SupG PW K "__init__" "FreeLongText.__init__" (defArgs s_FreeLongText_init) (defBody s_FreeLongText_init) (defScope s_FreeLongText_init) [] [] (ga K "FreeLongText") (ma K (ga K "FreeLongText") "__init__") fd) : FnOk PW w K mg base (L2.CX PW w) 34 (ma K (ga K "FreeLongText") "__init__") fd ["self", "blocks"] (Pr K 2 gi_FreeLongText) := fn_superF (b := b_FreeLongText_init) (k := 33) (cl := cl_FreeLongText) (rest := (defBody s_FreeLongText_init).drop 1) F sc_FreeLongText_init rfl rfl rfl rfl rfl rfl (ls_seq (ls_setF (by
    intro c h
    have h : c ∈ (["FreeLongText"] : List Str) := h
    simp only [List.mem_cons, List.not_mem_nil, or_false] at h
    rcases h with rfl
    · exact noat_ok (e.c.fm 21 rfl)) le_var le_var)
  (ls_setF (by
    intro c h
    have h : c ∈ (["FreeLongText"] : List Str) := h
    simp only [List.mem_cons, List.not_mem_nil, or_false] at h
    rcases h with rfl
    · exact noat_ok (e.c.fm 19 rfl)) le_var (le_call (la_cons le_var la_nil)))) (fun cd cc A outer s H E hr tk => (pss_cons (ps_fld (pv 0) (pv 1) rfl)
  (pss_one (ps_fld (pv 0) (pe_fk (fk_length_of e) (hr.mono (by omega)) (px tk) rfl (gl e 17 rfl) (pa_cons (pv 1) pa_nil)) rfl)))) (FkS.up (fs_LongText_0_0 e) (by omega)) (su_FreeLongText_init e) (by decide +kernel) (fun _ => rfl) (fun _ => ⟨_, rfl⟩)
theorem fi_FreeLongText (e : En K mg base) : Fk PW w K mg base 34 (ma K (ga K "FreeLongText") "__init__") (Pr K 2 gi_FreeLongText) := by
  obtain ⟨fd, F⟩ := d_FreeLongText_init e
  exact ⟨fd, _, fo_FreeLongText_init e F, Lx.SupD.bindsN F (fun _ _ _ _ _ _ _ us hl => match us, hl with | [_, _], _ => rfl), F.kp⟩
theorem sc_LongText_of : FnScope N_LongText_of ["cls", "text"] (defScope s_LongText_of) := ⟨rfl, rfl, rfl, by decide +kernel, rfl, by decide +kernel, by decide +kernel⟩
theorem fo_LongText_of (e : En K mg base) {fd : FuncData} (F : FunD K "of" "LongText.of" (defArgs s_LongText_of) (defBody s_LongText_of) (defScope s_LongText_of) [] [] (He5.wf K (ga K "LongText") "classmethod" "of") fd) : FnOk PW w K mg base (L2.CX PW w) 42 (He5.wf K (ga K "LongText") "classmethod" "of") fd ["cls", "text"] (Pr K 2 g_cm_of) := fn_ly (b := b_LongText_of) (k := 41) F sc_LongText_of (ls_seq (ls_if (lt_not (lt_tru (le_call (la_cons le_var la_nil)))) ls_never ls_next)
  (ls_ret (le_make (cls_ok (e.c.fm 29 rfl)) (la_cons (le_if (lt_test (le_op2 lo_cmp (le_opn lo_len (la_cons le_var la_nil)) le_int)) (le_tup (la_cons (le_tup (la_cons (le_opn lo_tuple (la_cons le_var la_nil)) (la_cons le_int la_nil))) la_nil)) (le_tup la_nil)) la_nil)))) (fun cdv A outer s H E hr tk => (pss_cons (ps_if (pt_not (pt_truth (pe_fk (fk_is_text e) (hr.mono (by omega)) (px tk) rfl (gl e 16 rfl) (pa_cons (pv 1) pa_nil)) (fun _ => rfl))) (pss_one ps_never) pss_nil)
  (pss_one (ps_ret (pe_mk (x := "FreeLongText") (fm_ini (e.c.fm 27 rfl)) (fi_FreeLongText e) (hr.mono (by omega)) (px tk) rfl (gl e 28 rfl) (pa_cons (pe_ifExp (pt_cmpR op_gt (pe_callB call_len rfl (fr e 8 rfl) boot_len (pa_cons (pv 1) pa_nil)) pe_int (nomark _)) (pe_tup (pa_cons (pe_tup (pa_cons (pe_callTy call_tuple_of rfl (fr e 4 rfl) boot_tuple (pa_cons (pv 1) pa_nil)) (pa_cons pe_int pa_nil))) pa_nil)) (pe_tup pa_nil)) pa_nil))))))
theorem fk_cm_of (e : En K mg base) : Fk PW w K mg base 42 (He5.wf K (ga K "LongText") "classmethod" "of") (Pr K 2 g_cm_of) := by
  obtain ⟨fd, F⟩ := d_LongText_of e
  exact ⟨fd, _, fo_LongText_of e F, F.bindsN (fun _ _ _ _ _ _ us hl => match us, hl with | [_, _], _ => rfl), F.kp⟩
theorem sc_first_difference : FnScope N_first_difference ["one", "other"] (defScope s_first_difference) := ⟨rfl, rfl, rfl, by decide +kernel, rfl, by decide +kernel, by decide +kernel⟩
theorem fk_first_difference (e : En K mg base) : Fk PW w K mg base 2 (ga K "first_difference") (Pr K 2 g_first_difference) := by
  obtain ⟨fd, F⟩ := d_first_difference e
  exact ⟨fd, _, fn_ly (b := b_first_difference) (k := 1) F sc_first_difference (ls_seq (ls_asg (le_tup (la_cons le_int (la_cons le_int (la_cons le_int (la_cons le_int (la_cons le_int la_nil)))))) (lg_tup (lgs_cons lg_name (lgs_cons lg_name (lgs_cons lg_name (lgs_cons lg_name (lgs_cons lg_name lgs_nil)))))))
  (ls_seq (ls_while (lt_and (lt_test (le_op2 lo_cmp le_var (le_opn lo_len (la_cons le_var la_nil)))) (lt_test (le_op2 lo_cmp le_var (le_opn lo_len (la_cons le_var la_nil))))) (ls_seq (ls_par (la_cons (le_op2 lo_ix (le_op2 lo_ix le_var le_var) le_int) (la_cons (le_op2 lo_ix (le_op2 lo_ix le_var le_var) le_int) la_nil)))
  (ls_seq (ls_asg (le_opn lo_min (la_cons (le_op2 lo_sub (le_op2 lo_mulU (le_opn lo_len (la_cons le_var la_nil)) (le_op2 lo_ix (le_op2 lo_ix le_var le_var) le_int)) le_var) (la_cons (le_op2 lo_sub (le_op2 lo_mulU (le_opn lo_len (la_cons le_var la_nil)) (le_op2 lo_ix (le_op2 lo_ix le_var le_var) le_int)) le_var) la_nil))) lg_name)
  (ls_seq (ls_for (li_range1 (la_cons (le_opn lo_min (la_cons le_var (la_cons (le_op2 lo_add (le_opn lo_len (la_cons le_var la_nil)) (le_opn lo_len (la_cons le_var la_nil))) la_nil))) la_nil)) lg_name (ls_if (lt_test (le_op2 lo_ne (le_op2 lo_ix le_var (le_op2 lo_mod (le_op2 lo_add le_var le_var) (le_opn lo_len (la_cons le_var la_nil)))) (le_op2 lo_ix le_var (le_op2 lo_mod (le_op2 lo_add le_var le_var) (le_opn lo_len (la_cons le_var la_nil)))))) (ls_ret (le_op2 lo_add (le_op2 lo_add le_var le_var) le_int)) ls_next))
  (ls_seq (ls_par3 (la_cons (le_op2 lo_add le_var le_var) (la_cons (le_op2 lo_add le_var le_var) (la_cons (le_op2 lo_add le_var le_var) la_nil))))
  (ls_seq (ls_if (lt_test (le_op2 lo_eq le_var (le_op2 lo_mulU (le_opn lo_len (la_cons le_var la_nil)) (le_op2 lo_ix (le_op2 lo_ix le_var le_var) le_int)))) (ls_par (la_cons (le_op2 lo_add le_var le_int) (la_cons le_int la_nil))) ls_next)
  (ls_if (lt_test (le_op2 lo_eq le_var (le_op2 lo_mulU (le_opn lo_len (la_cons le_var la_nil)) (le_op2 lo_ix (le_op2 lo_ix le_var le_var) le_int)))) (ls_par (la_cons (le_op2 lo_add le_var le_int) (la_cons le_int la_nil))) ls_next)))))))
  (ls_ret (le_if (lt_or (lt_test (le_op2 lo_cmp le_var (le_opn lo_len (la_cons le_var la_nil)))) (lt_test (le_op2 lo_cmp le_var (le_opn lo_len (la_cons le_var la_nil))))) (le_op2 lo_add le_var le_int) le_non)))) (fun cdv A outer s H E hr tk => (pss_cons (ps_asg (pe_tup (pa_cons pe_int (pa_cons pe_int (pa_cons pe_int (pa_cons pe_int (pa_cons pe_int pa_nil)))))) (pg_tup (n := 5) rfl (pgs_cons (pg_name (i := 2) sc_first_difference.nd rfl (by first | exact Or.inl rfl | exact Or.inr rfl)) (pgs_cons (pg_name (i := 3) sc_first_difference.nd rfl (by first | exact Or.inl rfl | exact Or.inr rfl)) (pgs_cons (pg_name (i := 4) sc_first_difference.nd rfl (by first | exact Or.inl rfl | exact Or.inr rfl)) (pgs_cons (pg_name (i := 5) sc_first_difference.nd rfl (by first | exact Or.inl rfl | exact Or.inr rfl)) (pgs_cons (pg_name (i := 6) sc_first_difference.nd rfl (by first | exact Or.inl rfl | exact Or.inr rfl)) pgs_nil)))))))
  (pss_cons (ps_while (passes_of rfl) (PW.pt (pw_and (pt_cmpR op_lt (pv 3) (pe_callB call_len rfl (fr e 8 rfl) boot_len (pa_cons (pv 0) pa_nil)) (nomark _)) (pw_and1 (pt_cmpR op_lt (pv 4) (pe_callB call_len rfl (fr e 8 rfl) boot_len (pa_cons (pv 1) pa_nil)) (nomark _))))) (pss_cons (ps_par (i := 7) (j := 8) rfl sc_first_difference.nd rfl rfl (by decide) rfl rfl (pa_cons (pe_ix ix_seq (pe_ix ix_seq (pv 0) (pv 3) (fun _ _ => rfl)) pe_int (fun _ _ => rfl)) (pa_cons (pe_ix ix_seq (pe_ix ix_seq (pv 1) (pv 4) (fun _ _ => rfl)) pe_int (fun _ _ => rfl)) pa_nil)) rfl)
  (pss_cons (ps_set (i := 9) sc_first_difference.nd rfl (by first | exact Or.inl rfl | exact Or.inr rfl) (pe_callB (call_min2 rfl) rfl (fr e 30 rfl) boot_min (pa_cons (pe_op op_sub (pe_op op_mulU (pe_callB call_len rfl (fr e 8 rfl) boot_len (pa_cons (pv 7) pa_nil)) (pe_ix ix_seq (pe_ix ix_seq (pv 0) (pv 3) (fun _ _ => rfl)) pe_int (fun _ _ => rfl))) (pv 5)) (pa_cons (pe_op op_sub (pe_op op_mulU (pe_callB call_len rfl (fr e 8 rfl) boot_len (pa_cons (pv 8) pa_nil)) (pe_ix ix_seq (pe_ix ix_seq (pv 1) (pv 4) (fun _ _ => rfl)) pe_int (fun _ _ => rfl))) (pv 6)) pa_nil))))
  (pss_cons (ps_for (passes_of rfl) rfl (pi_range1 rfl (fr e 31 rfl) (pa_cons (pe_callB (call_min2 rfl) rfl (fr e 30 rfl) boot_min (pa_cons (pv 9) (pa_cons (pe_op op_addU (pe_callB call_len rfl (fr e 8 rfl) boot_len (pa_cons (pv 7) pa_nil)) (pe_callB call_len rfl (fr e 8 rfl) boot_len (pa_cons (pv 8) pa_nil))) pa_nil))) pa_nil)) (pg_name (i := 10) sc_first_difference.nd rfl (by first | exact Or.inl rfl | exact Or.inr rfl)) (pss_one (ps_if (pt_cmpR (op_neU hr.units) (pe_ix ix_seq (pv 7) (pe_op op_mod (pe_op op_addU (pv 5) (pv 10)) (pe_callB call_len rfl (fr e 8 rfl) boot_len (pa_cons (pv 7) pa_nil))) (fun _ _ => rfl)) (pe_ix ix_seq (pv 8) (pe_op op_mod (pe_op op_addU (pv 6) (pv 10)) (pe_callB call_len rfl (fr e 8 rfl) boot_len (pa_cons (pv 8) pa_nil))) (fun _ _ => rfl)) (nomark _)) (pss_one (ps_ret (pe_op op_addU (pe_op op_addU (pv 2) (pv 10)) pe_int))) pss_nil)))
  (pss_cons (ps_par3 (i := 2) (j := 5) (l := 6) rfl sc_first_difference.nd rfl rfl rfl (by decide) (by decide) (by decide) rfl rfl rfl (pa_cons (pe_op op_addU (pv 2) (pv 9)) (pa_cons (pe_op op_addU (pv 5) (pv 9)) (pa_cons (pe_op op_addU (pv 6) (pv 9)) pa_nil))) rfl)
  (pss_cons (ps_if (pt_cmpR (op_eqU hr.units) (pv 5) (pe_op op_mulU (pe_callB call_len rfl (fr e 8 rfl) boot_len (pa_cons (pv 7) pa_nil)) (pe_ix ix_seq (pe_ix ix_seq (pv 0) (pv 3) (fun _ _ => rfl)) pe_int (fun _ _ => rfl))) (nomark _)) (pss_one (ps_par (i := 3) (j := 5) rfl sc_first_difference.nd rfl rfl (by decide) rfl rfl (pa_cons (pe_op op_addU (pv 3) pe_int) (pa_cons pe_int pa_nil)) rfl)) pss_nil)
  (pss_one (ps_if (pt_cmpR (op_eqU hr.units) (pv 6) (pe_op op_mulU (pe_callB call_len rfl (fr e 8 rfl) boot_len (pa_cons (pv 8) pa_nil)) (pe_ix ix_seq (pe_ix ix_seq (pv 1) (pv 4) (fun _ _ => rfl)) pe_int (fun _ _ => rfl))) (nomark _)) (pss_one (ps_par (i := 4) (j := 6) rfl sc_first_difference.nd rfl rfl (by decide) rfl rfl (pa_cons (pe_op op_addU (pv 4) pe_int) (pa_cons pe_int pa_nil)) rfl)) pss_nil))))))))
  (pss_one (ps_ret (pe_ifExp (PW.pt (pw_or (pt_cmpR op_lt (pv 3) (pe_callB call_len rfl (fr e 8 rfl) boot_len (pa_cons (pv 0) pa_nil)) (nomark _)) (pw_or1 (pt_cmpR op_lt (pv 4) (pe_callB call_len rfl (fr e 8 rfl) boot_len (pa_cons (pv 1) pa_nil)) (nomark _))))) (pe_op op_addU (pv 2) pe_int) pe_non)))))), F.bindsN (fun _ _ _ _ _ _ us hl => match us, hl with | [_, _], _ => rfl), F.kp⟩
theorem sc_LongText_eq : FnScope N_LongText_eq ["self", "other"] (defScope s_LongText_eq) := ⟨rfl, rfl, rfl, by decide +kernel, rfl, by decide +kernel, by decide +kernel⟩
theorem fk_LongText_eq (e : En K mg base) : Fk PW w K mg base 10 (ma K (ga K "LongText") "__eq__") (Pr K 2 (dBody N_LongText_eq b_LongText_eq)) := by
  obtain ⟨fd, F⟩ := d_LongText_eq e
  exact ⟨fd, _, fn_ly (b := b_LongText_eq) (k := 9) F sc_LongText_eq (ls_ret (le_and (le_isi (.own (ga K "LongText")) (isok_LongText e) le_var) (le_op2 lo_isN (le_call (la_cons (le_fld le_var) (la_cons (le_fld le_var) la_nil))) le_non))) (fun cdv A outer s H E hr tk => (pss_one (ps_ret (pe_andT (pe_callB call_isi rfl (fr e 1 rfl) boot_isinstance (pa_cons (pv 1) (pa_cons (pe_glob rfl (gl e 32 rfl) rfl) pa_nil))) (pe_one (pe_cmpR op_isN (pe_fk (fk_first_difference e) (hr.mono (by omega)) (px tk) rfl (gl e 33 rfl) (pa_cons (pe_fld (pv 0) rfl) (pa_cons (pe_fld (pv 1) rfl) pa_nil))) pe_non (nomark _))))))), F.bindsN (fun _ _ _ _ _ _ us hl => match us, hl with | [_, _], _ => rfl), F.kp⟩
theorem own_eqq (e : En K mg base) : ∀ z ∈ tb_eqq, ∀ c, Ky.c c ∈ z.2.1 → Lx.OwnC K c := by
  intro z hz
  simp only [tb_eqq, List.mem_cons, List.not_mem_nil, or_false] at hz
  rcases hz with rfl | rfl
  · intro c h
    have h : Ky.c c ∈ ([.t "NoneType", .t "bool", .t "int", .t "str", .t "list", .t "tuple", .t "dict", .c "LongText"] : List Ky) := h
    simp only [List.append_eq, List.mem_append, List.mem_cons, List.not_mem_nil, or_false, or_assoc, reduceCtorEq, false_or, Ky.c.injEq] at h
    rcases h with rfl
    · exact fm_own (e.c.fm 34 rfl) (cls_ok (e.c.fm 35 rfl))
  · intro c h
    have h : Ky.c c ∈ ([.t "NoneType", .t "bool", .t "int", .t "str", .t "list", .t "tuple", .t "dict", .c "LongText", .c "FreeLongText"] : List Ky) := h
    simp only [List.append_eq, List.mem_append, List.mem_cons, List.not_mem_nil, or_false, or_assoc, reduceCtorEq, false_or, Ky.c.injEq] at h
    rcases h with rfl | rfl
    · exact fm_own (e.c.fm 34 rfl) (cls_ok (e.c.fm 35 rfl))
    · exact fm_own (e.c.fm 36 rfl) (cls_ok (e.c.fm 29 rfl))
theorem tqq (e : En K mg base) : TabQ PW w K mg base 10 tb_eqq := (.cons (.cons (cls_ok (e.c.fm 35 rfl)) (fy_eq (e.c.fact 39 rfl)).1 (fy_eq (e.c.fact 39 rfl)).2.1 (fy_eq (e.c.fact 39 rfl)).2.2.1 (fy_eq (e.c.fact 39 rfl)).2.2.2 (fy_nf (e.c.fact 40 rfl) (List.mem_cons_self ..)) (fk_LongText_eq e) .nil)
  (.cons (.cons (cls_ok (e.c.fm 29 rfl)) (fy_eq (e.c.fact 37 rfl)).1 (fy_eq (e.c.fact 37 rfl)).2.1 (fy_eq (e.c.fact 37 rfl)).2.2.1 (fy_eq (e.c.fact 37 rfl)).2.2.2 (fy_nf (e.c.fact 38 rfl) (List.mem_cons_self ..)) (fk_LongText_eq e) .nil)
  .nil))
theorem tr_LongText_FreeLongText (e : En K mg base) : REqE PW w K mg base 10 "LongText" "FreeLongText" (dBody N_LongText_eq b_LongText_eq) := ⟨_, fy_sub (e.c.fact 41 rfl), (fun z => by have a := fy_sub (e.c.fact 41 rfl); have b := fy_sub (e.c.fact 42 rfl); rw [← z] at a; rw [← z, a] at b; cases b), (fy_eq (e.c.fact 37 rfl)).1, (fy_eq (e.c.fact 37 rfl)).2.1, fk_LongText_eq e⟩
theorem sc__law_lline : FnScope N__law_lline ["_law_blocks", "_law_slot"] (defScope s__law_lline) := ⟨rfl, rfl, rfl, by decide +kernel, rfl, by decide +kernel, by decide +kernel⟩
theorem fk__law_lline (e : En K mg base) : Fk PW w K mg base 2 (ga K "_law_lline") (Pr K 2 g__law_lline) := by
  obtain ⟨fd, F⟩ := d__law_lline e
  exact ⟨fd, _, fn_ly (b := b__law_lline) (k := 1) F sc__law_lline (ls_seq (ls_asg (le_op2 lo_sub le_var le_int) lg_name)
  (ls_seq (ls_for (li_list le_var) (lg_tup (lgs_cons lg_name (lgs_cons lg_name lgs_nil))) (ls_seq (ls_if (lt_test (le_op2 lo_cmp le_var (le_op2 lo_mulU (le_opn lo_len (la_cons le_var la_nil)) le_var))) (ls_ret (le_op2 lo_ix le_var (le_op2 lo_mod (le_opn lo_int (la_cons le_var la_nil)) (le_opn lo_len (la_cons le_var la_nil))))) ls_next)
  (ls_asg (le_op2 lo_sub le_var (le_op2 lo_mulU (le_opn lo_len (la_cons le_var la_nil)) le_var)) lg_name)))
  (ls_ret le_non))) (fun cdv A outer s H E hr tk => (pss_cons (ps_set (i := 1) sc__law_lline.nd rfl (by first | exact Or.inl rfl | exact Or.inr rfl) (pe_op op_sub (pv 1) pe_int))
  (pss_cons (ps_for (passes_of rfl) rfl (pi_list (pv 0)) (pg_tup (n := 2) rfl (pgs_cons (pg_name (i := 2) sc__law_lline.nd rfl (by first | exact Or.inl rfl | exact Or.inr rfl)) (pgs_cons (pg_name (i := 3) sc__law_lline.nd rfl (by first | exact Or.inl rfl | exact Or.inr rfl)) pgs_nil))) (pss_cons (ps_if (pt_cmpR op_lt (pv 1) (pe_op op_mulU (pe_callB call_len rfl (fr e 8 rfl) boot_len (pa_cons (pv 2) pa_nil)) (pv 3)) (nomark _)) (pss_one (ps_ret (pe_ix ix_seq (pv 2) (pe_op op_mod (pe_callTy call_int1 rfl (fr e 10 rfl) boot_int (pa_cons (pv 1) pa_nil)) (pe_callB call_len rfl (fr e 8 rfl) boot_len (pa_cons (pv 2) pa_nil))) (fun _ _ => rfl)))) pss_nil)
  (pss_one (ps_set (i := 1) sc__law_lline.nd rfl (by first | exact Or.inl rfl | exact Or.inr rfl) (pe_op op_sub (pv 1) (pe_op op_mulU (pe_callB call_len rfl (fr e 8 rfl) boot_len (pa_cons (pv 2) pa_nil)) (pv 3)))))))
  (pss_one (ps_ret pe_non))))), F.bindsN (fun _ _ _ _ _ _ us hl => match us, hl with | [_, _], _ => rfl), F.kp⟩
theorem sc__law_lsize : FnScope N__law_lsize ["_law_blocks"] (defScope s__law_lsize) := ⟨rfl, rfl, rfl, by decide +kernel, rfl, by decide +kernel, by decide +kernel⟩
theorem fk__law_lsize (e : En K mg base) : Fk PW w K mg base 2 (ga K "_law_lsize") (Pr K 1 g__law_lsize) := by
  obtain ⟨fd, F⟩ := d__law_lsize e
  exact ⟨fd, _, fn_ly (b := b__law_lsize) (k := 1) F sc__law_lsize (ls_ret (le_opn lo_sumI (la_cons (le_lc (li_list le_var) (lg_tup (lgs_cons lg_name (lgs_cons lg_name lgs_nil))) lt_yes (le_op2 lo_mulU (le_opn lo_len (la_cons le_var la_nil)) le_var) (fun _ h => h)) la_nil))) (fun cdv A outer s H E hr tk => (pss_one (ps_ret (pe_callB (cr_sum rfl) rfl (fr e 9 rfl) boot_sum (pa_cons (pe_lc (own := [("_law_rows", 1), ("_law_times", 2)]) rfl sc__law_lsize.nd (pi_list (pv 0)) (blkOk_by (N := N__law_lsize) (sc := defScope s__law_lsize) (by decide +kernel)) (fun _ _ _ _ _ => (pg_tup (n := 2) rfl (pgs_cons (pg_name (i := 1) sc__law_lsize.nd rfl (by first | exact Or.inl rfl | exact Or.inr rfl)) (pgs_cons (pg_name (i := 2) sc__law_lsize.nd rfl (by first | exact Or.inl rfl | exact Or.inr rfl)) pgs_nil)))) (fun _ _ _ _ _ => pts_nil) (fun _ _ _ _ _ => (pe_op op_mulU (pe_callB call_len rfl (fr e 8 rfl) boot_len (pa_cons (pv 1) pa_nil)) (pv 2)))) pa_nil))))), F.bindsN (fun _ _ _ _ _ _ us hl => match us, hl with | [_], _ => rfl), F.kp⟩
theorem sc__law_apart : FnScope N__law_apart ["_law_one", "_law_more"] (defScope s__law_apart) := ⟨rfl, rfl, rfl, by decide +kernel, rfl, by decide +kernel, by decide +kernel⟩
theorem fk__law_apart (e : En K mg base) : Fk PW w K mg base 10 (ga K "_law_apart") (Pr K 2 g__law_apart) := by
  obtain ⟨fd, F⟩ := d__law_apart e
  exact ⟨fd, _, fn_ly (b := b__law_apart) (k := 9) F sc__law_apart (ls_seq (ls_asg (le_lst (la_cons (le_call (la_cons le_var la_nil)) (la_cons (le_call (la_cons le_var la_nil)) la_nil))) lg_name)
  (ls_seq (ls_par (la_cons (le_lstM la_nil) (la_cons le_int la_nil)))
  (ls_seq (ls_for (li_tup (le_tup (la_cons le_var (la_cons le_var la_nil)))) lg_name (ls_seq (ls_asg le_int lg_name)
  (ls_for (li_list le_var) (lg_tup (lgs_cons lg_name (lgs_cons lg_name lgs_nil))) (ls_seq (ls_asg (le_op2 lo_add le_var (le_op2 lo_mulU (le_opn lo_len (la_cons le_var la_nil)) le_var)) lg_name)
  (ls_app le_var)))))
  (ls_ice 3 (ls_seq (ls_asg le_int lg_name)
  (ls_seq (ls_for (li_list (le_sortSetI le_var)) lg_name (ls_seq (ls_for (li_rangeL (la_cons (le_op2 lo_add le_var le_int) (la_cons (le_op2 lo_add (le_opn lo_min (la_cons le_var (la_cons (le_op2 lo_add le_var le_int) la_nil))) le_int) la_nil))) lg_name (ls_if (lt_or (lt_test (le_op2 lo_cmp le_var (le_opn lo_minL (la_cons le_var la_nil)))) (lt_test (le_op2 lo_ne (le_call (la_cons le_var (la_cons le_var la_nil))) (le_call (la_cons le_var (la_cons le_var la_nil)))))) (ls_ret le_var) ls_next))
  (ls_asg le_var lg_name)))
  (ls_ret le_non))))))) (fun cdv A outer s H E hr tk => (pss_cons (ps_set (i := 2) sc__law_apart.nd rfl (by first | exact Or.inl rfl | exact Or.inr rfl) (pe_lst (pa_cons (pe_fk (fk__law_lsize e) (hr.mono (by omega)) (px tk) rfl (gl e 46 rfl) (pa_cons (pv 0) pa_nil)) (pa_cons (pe_fk (fk__law_lsize e) (hr.mono (by omega)) (px tk) rfl (gl e 46 rfl) (pa_cons (pv 1) pa_nil)) pa_nil))))
  (pss_cons (ps_par (i := 3) (j := 4) rfl sc__law_apart.nd rfl rfl (by decide) rfl rfl (pa_cons (pe_lst pa_nil) (pa_cons pe_int pa_nil)) rfl)
  (pss_cons (ps_for (passes_of rfl) rfl (pi_tup (pe_tup (pa_cons (pv 0) (pa_cons (pv 1) pa_nil)))) (pg_name (i := 5) sc__law_apart.nd rfl (by first | exact Or.inl rfl | exact Or.inr rfl)) (pss_cons (ps_set (i := 4) sc__law_apart.nd rfl (by first | exact Or.inl rfl | exact Or.inr rfl) pe_int)
  (pss_one (ps_for (passes_of rfl) rfl (pi_list (pv 5)) (pg_tup (n := 2) rfl (pgs_cons (pg_name (i := 6) sc__law_apart.nd rfl (by first | exact Or.inl rfl | exact Or.inr rfl)) (pgs_cons (pg_name (i := 7) sc__law_apart.nd rfl (by first | exact Or.inl rfl | exact Or.inr rfl)) pgs_nil))) (pss_cons (ps_set (i := 4) sc__law_apart.nd rfl (by first | exact Or.inl rfl | exact Or.inr rfl) (pe_op op_addU (pv 4) (pe_op op_mulU (pe_callB call_len rfl (fr e 8 rfl) boot_len (pa_cons (pv 6) pa_nil)) (pv 7))))
  (pss_one (ps_expr (pe_bm PySem.F.plainAttrs_list PySem.F.slot_list_append PySem.F.type_list_append mt_append (pv 3) (pa_cons (pv 4) pa_nil)))))))))
  (pss_cons (ps_set (i := 8) sc__law_apart.nd rfl (by first | exact Or.inl rfl | exact Or.inr rfl) pe_int)
  (pss_cons (ps_for (passes_of rfl) rfl (pi_list (pe_sortSetI rfl rfl (fr e 43 rfl) rfl (fr e 44 rfl) (pv 3))) (pg_name (i := 9) sc__law_apart.nd rfl (by first | exact Or.inl rfl | exact Or.inr rfl)) (pss_cons (ps_for (passes_of rfl) rfl (pi_rangeL rfl (fr e 31 rfl) (pa_cons (pe_op op_addU (pv 8) pe_int) (pa_cons (pe_op op_addU (pe_callB (call_min2 rfl) rfl (fr e 30 rfl) boot_min (pa_cons (pv 9) (pa_cons (pe_op op_addU (pv 8) pe_int) pa_nil))) pe_int) pa_nil))) (pg_name (i := 10) sc__law_apart.nd rfl (by first | exact Or.inl rfl | exact Or.inr rfl)) (pss_one (ps_if (PW.pt (pw_or (pt_cmpR op_gt (pv 10) (pe_callB (cr_min rfl) rfl (fr e 30 rfl) boot_min (pa_cons (pv 2) pa_nil)) (nomark _)) (pw_or1 (pt_cmpR (op_neU hr.units) (pe_fk (fk__law_lline e) (hr.mono (by omega)) (px tk) rfl (gl e 45 rfl) (pa_cons (pv 0) (pa_cons (pv 10) pa_nil))) (pe_fk (fk__law_lline e) (hr.mono (by omega)) (px tk) rfl (gl e 45 rfl) (pa_cons (pv 1) (pa_cons (pv 10) pa_nil))) (nomark _))))) (pss_one (ps_ret (pv 10))) pss_nil)))
  (pss_one (ps_set (i := 8) sc__law_apart.nd rfl (by first | exact Or.inl rfl | exact Or.inr rfl) (pv 9)))))
  (pss_one (ps_ret pe_non)))))))), F.bindsN (fun _ _ _ _ _ _ us hl => match us, hl with | [_, _], _ => rfl), F.kp⟩
theorem sc_LongText_op_add : FnScope N_LongText_op_add ["self", "other"] (defScope s_LongText_op_add) := ⟨rfl, rfl, rfl, by decide +kernel, rfl, by decide +kernel, by decide +kernel⟩
theorem fk_LongText_op_add (e : En K mg base) : Fk PW w K mg base 42 (ma K (ga K "LongText") "__add__") (Pr K 2 (dBody N_LongText_op_add b_LongText_op_add)) := by
  obtain ⟨fd, F⟩ := d_LongText_op_add e
  exact ⟨fd, _, fn_ly (b := b_LongText_op_add) (k := 41) F sc_LongText_op_add (ls_ret (le_make (cls_ok (e.c.fm 29 rfl)) (la_cons (le_op2 lo_addT (le_fld le_var) (le_fld le_var)) la_nil))) (fun cdv A outer s H E hr tk => (pss_one (ps_ret (pe_mk (x := "FreeLongText") (fm_ini (e.c.fm 27 rfl)) (fi_FreeLongText e) (hr.mono (by omega)) (px tk) rfl (gl e 28 rfl) (pa_cons (pe_op op_catA (pe_fld (pv 0) rfl) (pe_fld (pv 1) rfl)) pa_nil))))), F.bindsN (fun _ _ _ _ _ _ us hl => match us, hl with | [_, _], _ => rfl), F.kp⟩
theorem to_add (e : En K mg base) : TabB PW w K mg base 42 "add" ds_op_add tb_op_add := (.cons (cls_ok (e.c.fm 35 rfl)) (fy_op (e.c.fact 47 rfl)).1 (fy_op (e.c.fact 47 rfl)).2 (by
      intro d h
      simp only [ds_op_add, List.mem_cons, List.not_mem_nil, or_false] at h
      rcases h with rfl | rfl
      · exact ⟨⟨_, (fy_op (e.c.fact 47 rfl)).1⟩, fy_rop (e.c.fact 51 rfl)⟩
      · exact ⟨⟨_, (fy_op (e.c.fact 48 rfl)).1⟩, fy_rop (e.c.fact 52 rfl)⟩) (fk_LongText_op_add e)
    (.cons (cls_ok (e.c.fm 29 rfl)) (fy_op (e.c.fact 48 rfl)).1 (fy_op (e.c.fact 48 rfl)).2 (by
      intro d h
      simp only [ds_op_add, List.mem_cons, List.not_mem_nil, or_false] at h
      rcases h with rfl | rfl
      · exact ⟨⟨_, (fy_op (e.c.fact 47 rfl)).1⟩, fy_rop (e.c.fact 49 rfl)⟩
      · exact ⟨⟨_, (fy_op (e.c.fact 48 rfl)).1⟩, fy_rop (e.c.fact 50 rfl)⟩) (fk_LongText_op_add e)
    .nil))
theorem sc__law_lmade : FnScope N__law_lmade ["_law_blocks"] (defScope s__law_lmade) := ⟨rfl, rfl, rfl, by decide +kernel, rfl, by decide +kernel, by decide +kernel⟩
theorem fk__law_lmade (e : En K mg base) : Fk PW w K mg base 50 (ga K "_law_lmade") (Pr K 1 g__law_lmade) := by
  obtain ⟨fd, F⟩ := d__law_lmade e
  exact ⟨fd, _, fn_ly (b := b__law_lmade) (k := 49) F sc__law_lmade (ls_seq (ls_asg (le_makeS (cls_ok (e.c.fm 35 rfl)) (fun _ _ _ => .nil) la_nil la_nil) lg_name)
  (ls_seq (ls_for (li_list le_var) lg_name (ls_asg (le_op2 lo_bin le_var (le_makeS (cls_ok (e.c.fm 35 rfl)) (fun _ _ _ => .nil) (la_cons le_var la_nil) la_nil)) lg_name))
  (ls_ret le_var))) (fun cdv A outer s H E hr tk => (pss_cons (ps_set (i := 1) sc__law_lmade.nd rfl (by first | exact Or.inl rfl | exact Or.inr rfl) (pe_mkS0 (x := "LongText") (fm_ini (e.c.fm 53 rfl)) (fs_LongText_0_0 e) (hr.mono (by omega)) (px tk) rfl (gl e 32 rfl)))
  (pss_cons (ps_for (passes_of rfl) rfl (pi_list (pv 0)) (pg_name (i := 2) sc__law_lmade.nd rfl (by first | exact Or.inl rfl | exact Or.inr rfl)) (pss_one (ps_set (i := 1) sc__law_lmade.nd rfl (by first | exact Or.inl rfl | exact Or.inr rfl) (pe_bin rfl hr.hd (to_add e) (hr.mono (by omega)) (pv 1) (by exact (pe_mkS (x := "LongText") (fm_ini (e.c.fm 53 rfl)) (fs_LongText_1_0 e) (hr.mono (by omega)) (px tk) rfl (gl e 32 rfl) (pa_cons (by exact pv 2) pa_nil)))))))
  (pss_one (ps_ret (pv 1)))))), F.bindsN (fun _ _ _ _ _ _ us hl => match us, hl with | [_], _ => rfl), F.kp⟩
theorem sc__law_draw : FnScope N__law_draw ["_law_pen_here", "_law_span"] (defScope s__law_draw) := ⟨rfl, rfl, rfl, by decide +kernel, rfl, by decide +kernel, by decide +kernel⟩
theorem fk__law_draw (e : En K mg base) : Fk PW w K mg base 2 (ga K "_law_draw") (Pr K 2 drawD) := by
  obtain ⟨fd, F⟩ := d__law_draw e
  refine ⟨fd, _, F.ok (CX := L2.CX PW w) (k := 1) sc__law_draw Pr.len fun cdv A outer s H vs Q E hr h => ⟨t_draw K, PSs.nox ?_, Lx.draw_pure (draw_pure h)⟩, F.bindsN (fun _ _ _ _ _ _ us hl => match us, hl with | [_, _], _ => rfl), F.kp⟩
  exact (pss_cons (ps_if (pt_cmpR op_gt (pe_dget (hu_of hr) (pv 0) pe_str (fun _ _ => rfl)) pe_int (nomark _)) (pss_cons (ps_set (i := 2) sc__law_draw.nd rfl (by first | exact Or.inl rfl | exact Or.inr rfl) (pe_op op_mod (pe_callTy call_int1 rfl (fr e 10 rfl) boot_int (pa_cons (pe_dget (hu_of hr) (pv 0) pe_str (fun _ _ => rfl)) pa_nil)) (pv 1))) (pss_cons (ps_dput (hu_of hr) (pv 0) pe_str (pe_op op_fdiv (pe_dget (hu_of hr) (pv 0) pe_str (fun _ _ => rfl)) (pv 1)) rfl) (pss_one (ps_ret (pv 2))))) pss_nil)
  (pss_cons (ps_set (i := 3) sc__law_draw.nd rfl (by first | exact Or.inl rfl | exact Or.inr rfl) (pe_dget (hu_of hr) (pv 0) pe_str (fun _ _ => rfl)))
  (pss_cons (ps_dput (hu_of hr) (pv 0) pe_str (pe_op op_add (pv 3) pe_int) rfl)
  (pss_cons (ps_set (i := 4) sc__law_draw.nd rfl (by first | exact Or.inl rfl | exact Or.inr rfl) (pe_op op_add (pe_op op_mul pe_int (pv 3)) pe_int))
  (pss_cons (ps_if (pt_cmpR (op_neU hr.units) (pe_dget (hu_of hr) (pv 0) pe_str (fun _ _ => rfl)) (pe_lst pa_nil) (nomark _)) (pss_one (ps_set (i := 4) sc__law_draw.nd rfl (by first | exact Or.inl rfl | exact Or.inr rfl) (pe_ix ix_seq (pe_dget (hu_of hr) (pv 0) pe_str (fun _ _ => rfl)) (pe_op op_mod (pe_callTy call_int1 rfl (fr e 10 rfl) boot_int (pa_cons (pv 3) pa_nil)) (pe_callB call_len rfl (fr e 8 rfl) boot_len (pa_cons (pe_dget (hu_of hr) (pv 0) pe_str (fun _ _ => rfl)) pa_nil))) (fun _ _ => rfl)))) pss_nil)
  (pss_cons (ps_if (PW.pt (pw_and (pt_cmpR op_lt (pv 3) (pe_callB call_len rfl (fr e 8 rfl) boot_len (pa_cons (pe_dget (hu_of hr) (pv 0) pe_str (fun _ _ => rfl)) pa_nil)) (nomark _)) (pw_and1 (pt_cmpR op_ge (pe_callB call_abs rfl (fr e 54 rfl) boot_abs (pa_cons (pv 4) pa_nil)) (pe_op op_pow pe_int pe_int) (nomark _))))) (pss_cons (ps_dput (hu_of hr) (pv 0) pe_str (pe_op op_fdiv (pe_op op_sub (pe_callB call_abs rfl (fr e 54 rfl) boot_abs (pa_cons (pv 4) pa_nil)) (pe_op op_pow pe_int pe_int)) (pv 1)) rfl) (pss_one (ps_ret (pe_op op_mod (pe_op op_sub (pe_callB call_abs rfl (fr e 54 rfl) boot_abs (pa_cons (pv 4) pa_nil)) (pe_op op_pow pe_int pe_int)) (pv 1))))) pss_nil)
  (pss_cons (ps_set (i := 5) sc__law_draw.nd rfl (by first | exact Or.inl rfl | exact Or.inr rfl) (pe_lst (pa_cons pe_int (pa_cons pe_int (pa_cons pe_int (pa_cons pe_int (pa_cons pe_int pa_nil)))))))
  (pss_cons (ps_set (i := 6) sc__law_draw.nd rfl (by first | exact Or.inl rfl | exact Or.inr rfl) (pe_ix ix_seq (pv 5) (pe_op op_mod (pe_callTy call_int1 rfl (fr e 10 rfl) boot_int (pa_cons (pv 3) pa_nil)) pe_int) (fun _ _ => rfl)))
  (pss_cons (ps_set (i := 7) sc__law_draw.nd rfl (by first | exact Or.inl rfl | exact Or.inr rfl) (pe_op op_mod (pe_callTy call_int1 rfl (fr e 10 rfl) boot_int (pa_cons (pe_op op_add (pe_op op_add (pe_op op_mul (pe_op op_mod (pe_callTy call_int1 rfl (fr e 10 rfl) boot_int (pa_cons (pv 4) pa_nil)) (pv 6)) pe_int) (pe_op op_mul (pv 3) (pe_op op_add (pe_op op_mul pe_int (pv 3)) pe_int))) pe_int) pa_nil)) (pv 6)))
  (pss_cons (ps_set (i := 7) sc__law_draw.nd rfl (by first | exact Or.inl rfl | exact Or.inr rfl) (pe_op op_mod (pe_callTy call_int1 rfl (fr e 10 rfl) boot_int (pa_cons (pe_op op_mul (pv 7) (pe_op op_add (pv 7) pe_int)) pa_nil)) (pe_ix ix_seq (pv 5) (pe_op op_mod (pe_callTy call_int1 rfl (fr e 10 rfl) boot_int (pa_cons (pe_op op_add (pv 3) pe_int) pa_nil)) pe_int) (fun _ _ => rfl))))
  (pss_one (ps_ret (pe_op op_mod (pe_callTy call_int1 rfl (fr e 10 rfl) boot_int (pa_cons (pe_op op_fdiv (pe_op op_mod (pe_callTy call_int1 rfl (fr e 10 rfl) boot_int (pa_cons (pe_op op_add (pe_op op_add (pe_op op_mul (pv 7) (pv 7)) (pe_op op_mul pe_int (pv 7))) (pv 3)) pa_nil)) pe_int) pe_int) pa_nil)) (pv 1))))))))))))))
theorem sc__law_great : FnScope N__law_great ["_law_pen_here", "_law_digits"] (defScope s__law_great) := ⟨rfl, rfl, rfl, by decide +kernel, rfl, by decide +kernel, by decide +kernel⟩
theorem fk__law_great (e : En K mg base) : Fk PW w K mg base 10 (ga K "_law_great") (Pr K 2 g__law_great) := by
  obtain ⟨fd, F⟩ := d__law_great e
  exact ⟨fd, _, fn_ly (b := b__law_great) (k := 9) F sc__law_great (ls_seq (ls_asg le_int lg_name)
  (ls_seq (ls_for (li_range1 (la_cons le_var la_nil)) lg_name (ls_asg (le_op2 lo_add (le_op2 lo_mulU le_int le_var) (le_call (la_cons le_var (la_cons le_int la_nil)))) lg_name))
  (ls_ret le_var))) (fun cdv A outer s H E hr tk => (pss_cons (ps_set (i := 2) sc__law_great.nd rfl (by first | exact Or.inl rfl | exact Or.inr rfl) pe_int)
  (pss_cons (ps_for (passes_of rfl) rfl (pi_range1 rfl (fr e 31 rfl) (pa_cons (pv 1) pa_nil)) (pg_name (i := 3) sc__law_great.nd rfl (by first | exact Or.inl rfl | exact Or.inr rfl)) (pss_one (ps_set (i := 2) sc__law_great.nd rfl (by first | exact Or.inl rfl | exact Or.inr rfl) (pe_op op_addU (pe_op op_mulU pe_int (pv 2)) (pe_fk (fk__law_draw e) (hr.mono (by omega)) (px tk) rfl (gl e 55 rfl) (pa_cons (pv 0) (pa_cons pe_int pa_nil)))))))
  (pss_one (ps_ret (pv 2)))))), F.bindsN (fun _ _ _ _ _ _ us hl => match us, hl with | [_, _], _ => rfl), F.kp⟩
theorem sc__law_lsplit : FnScope N__law_lsplit ["_law_pen_here", "_law_one"] (defScope s__law_lsplit) := ⟨rfl, rfl, rfl, by decide +kernel, rfl, by decide +kernel, by decide +kernel⟩
theorem fk__law_lsplit (e : En K mg base) : Fk PW w K mg base 18 (ga K "_law_lsplit") (Pr K 2 g__law_lsplit) := by
  obtain ⟨fd, F⟩ := d__law_lsplit e
  exact ⟨fd, _, fn_ly (b := b__law_lsplit) (k := 17) F sc__law_lsplit (ls_seq (ls_asg le_var (lg_tup (lgs_cons lg_name (lgs_cons lg_name lgs_nil))))
  (ls_seq (ls_asg (le_call (la_cons le_var (la_cons le_int la_nil))) lg_name)
  (ls_seq (ls_if (lt_and (lt_test (le_op2 lo_eq le_var le_int)) (lt_test (le_op2 lo_cmp le_var le_int))) (ls_seq (ls_asg (le_op2 lo_add le_int (le_op2 lo_mod (le_opn lo_int (la_cons (le_call (la_cons le_var (la_cons le_int la_nil))) la_nil)) (le_op2 lo_sub le_var le_int))) lg_name)
  (ls_ret (le_lst (la_cons (le_tup (la_cons le_var (la_cons le_var la_nil))) (la_cons (le_tup (la_cons le_var (la_cons (le_op2 lo_sub le_var le_var) la_nil))) la_nil))))) ls_next)
  (ls_seq (ls_if (lt_and (lt_test (le_op2 lo_eq le_var le_int)) (lt_and (lt_test (le_op2 lo_cmp (le_opn lo_len (la_cons le_var la_nil)) le_int)) (lt_test (le_op2 lo_cmp le_var le_int)))) (ls_ret (le_op2 lo_add (le_lst (la_cons (le_tup (la_cons (le_op2 lo_rep le_var le_int) (la_cons (le_op2 lo_fdiv le_var le_int) la_nil))) la_nil)) (le_op2 lo_rep (le_lst (la_cons (le_tup (la_cons le_var (la_cons le_int la_nil))) la_nil)) (le_op2 lo_mod (le_opn lo_int (la_cons le_var la_nil)) le_int)))) ls_next)
  (ls_seq (ls_if (lt_and (lt_test (le_op2 lo_eq le_var le_int)) (lt_and (lt_test (le_op2 lo_cmp (le_opn lo_len (la_cons le_var la_nil)) le_int)) (lt_test (le_op2 lo_cmp le_var le_int)))) (ls_seq (ls_asg (le_op2 lo_add le_int (le_call (la_cons le_var (la_cons (le_op2 lo_sub (le_opn lo_len (la_cons le_var la_nil)) le_int) la_nil)))) lg_name)
  (ls_ret (le_lst (la_cons (le_tup (la_cons (le_sl le_var lp_none (lp_some le_var)) (la_cons le_int la_nil))) (la_cons (le_tup (la_cons (le_op2 lo_add (le_sl le_var (lp_some le_var) lp_none) (le_sl le_var lp_none (lp_some le_var))) (la_cons (le_op2 lo_sub le_var le_int) la_nil))) (la_cons (le_tup (la_cons (le_sl le_var (lp_some le_var) lp_none) (la_cons le_int la_nil))) la_nil)))))) ls_next)
  (ls_ret (le_if (lt_and (lt_test (le_op2 lo_eq le_var le_int)) (lt_test (le_op2 lo_cmp le_var le_int))) (le_lst (la_cons (le_tup (la_cons le_var (la_cons le_int la_nil))) (la_cons (le_tup (la_cons le_var (la_cons (le_op2 lo_sub le_var le_int) la_nil))) la_nil))) (le_lst (la_cons le_var la_nil))))))))) (fun cdv A outer s H E hr tk => (pss_cons (ps_asg (pv 1) (pg_tup (n := 2) rfl (pgs_cons (pg_name (i := 2) sc__law_lsplit.nd rfl (by first | exact Or.inl rfl | exact Or.inr rfl)) (pgs_cons (pg_name (i := 3) sc__law_lsplit.nd rfl (by first | exact Or.inl rfl | exact Or.inr rfl)) pgs_nil))))
  (pss_cons (ps_set (i := 4) sc__law_lsplit.nd rfl (by first | exact Or.inl rfl | exact Or.inr rfl) (pe_fk (fk__law_draw e) (hr.mono (by omega)) (px tk) rfl (gl e 55 rfl) (pa_cons (pv 0) (pa_cons pe_int pa_nil))))
  (pss_cons (ps_if (PW.pt (pw_and (pt_cmpR (op_eqU hr.units) (pv 4) pe_int (nomark _)) (pw_and1 (pt_cmpR op_gt (pv 3) pe_int (nomark _))))) (pss_cons (ps_set (i := 5) sc__law_lsplit.nd rfl (by first | exact Or.inl rfl | exact Or.inr rfl) (pe_op op_addU pe_int (pe_op op_mod (pe_callTy call_int1 rfl (fr e 10 rfl) boot_int (pa_cons (pe_fk (fk__law_great e) (hr.mono (by omega)) (px tk) rfl (gl e 56 rfl) (pa_cons (pv 0) (pa_cons pe_int pa_nil))) pa_nil)) (pe_op op_sub (pv 3) pe_int))))
  (pss_one (ps_ret (pe_lst (pa_cons (pe_tup (pa_cons (pv 2) (pa_cons (pv 5) pa_nil))) (pa_cons (pe_tup (pa_cons (pv 2) (pa_cons (pe_op op_sub (pv 3) (pv 5)) pa_nil))) pa_nil)))))) pss_nil)
  (pss_cons (ps_if (PW.pt (pw_and (pt_cmpR (op_eqU hr.units) (pv 4) pe_int (nomark _)) (pw_and (pt_cmpR op_lt (pe_callB call_len rfl (fr e 8 rfl) boot_len (pa_cons (pv 2) pa_nil)) pe_int (nomark _)) (pw_and1 (pt_cmpR op_gt (pv 3) pe_int (nomark _)))))) (pss_one (ps_ret (pe_op op_addU (pe_lst (pa_cons (pe_tup (pa_cons (pe_op op_rep (pv 2) pe_int) (pa_cons (pe_op op_fdiv (pv 3) pe_int) pa_nil))) pa_nil)) (pe_op op_rep (pe_lst (pa_cons (pe_tup (pa_cons (pv 2) (pa_cons pe_int pa_nil))) pa_nil)) (pe_op op_mod (pe_callTy call_int1 rfl (fr e 10 rfl) boot_int (pa_cons (pv 3) pa_nil)) pe_int))))) pss_nil)
  (pss_cons (ps_if (PW.pt (pw_and (pt_cmpR (op_eqU hr.units) (pv 4) pe_int (nomark _)) (pw_and (pt_cmpR op_gt (pe_callB call_len rfl (fr e 8 rfl) boot_len (pa_cons (pv 2) pa_nil)) pe_int (nomark _)) (pw_and1 (pt_cmpR op_gt (pv 3) pe_int (nomark _)))))) (pss_cons (ps_set (i := 6) sc__law_lsplit.nd rfl (by first | exact Or.inl rfl | exact Or.inr rfl) (pe_op op_addU pe_int (pe_fk (fk__law_draw e) (hr.mono (by omega)) (px tk) rfl (gl e 55 rfl) (pa_cons (pv 0) (pa_cons (pe_op op_sub (pe_callB call_len rfl (fr e 8 rfl) boot_len (pa_cons (pv 2) pa_nil)) pe_int) pa_nil)))))
  (pss_one (ps_ret (pe_lst (pa_cons (pe_tup (pa_cons (pe_slice sl_U (pv 2) po_none (po_some (pv 6))) (pa_cons pe_int pa_nil))) (pa_cons (pe_tup (pa_cons (pe_op op_addU (pe_slice sl_U (pv 2) (po_some (pv 6)) po_none) (pe_slice sl_U (pv 2) po_none (po_some (pv 6)))) (pa_cons (pe_op op_sub (pv 3) pe_int) pa_nil))) (pa_cons (pe_tup (pa_cons (pe_slice sl_U (pv 2) (po_some (pv 6)) po_none) (pa_cons pe_int pa_nil))) pa_nil))))))) pss_nil)
  (pss_one (ps_ret (pe_ifExp (PW.pt (pw_and (pt_cmpR (op_eqU hr.units) (pv 4) pe_int (nomark _)) (pw_and1 (pt_cmpR op_gt (pv 3) pe_int (nomark _))))) (pe_lst (pa_cons (pe_tup (pa_cons (pv 2) (pa_cons pe_int pa_nil))) (pa_cons (pe_tup (pa_cons (pv 2) (pa_cons (pe_op op_sub (pv 3) pe_int) pa_nil))) pa_nil))) (pe_lst (pa_cons (pv 1) pa_nil))))))))))), F.bindsN (fun _ _ _ _ _ _ us hl => match us, hl with | [_, _], _ => rfl), F.kp⟩
theorem sc_LongText_difference : FnScope N_LongText_difference ["self", "other"] (defScope s_LongText_difference) := ⟨rfl, rfl, rfl, by decide +kernel, rfl, by decide +kernel, by decide +kernel⟩
theorem fo_LongText_difference (e : En K mg base) {fd : FuncData} (F : FunD K "difference" "LongText.difference" (defArgs s_LongText_difference) (defBody s_LongText_difference) (defScope s_LongText_difference) [] [] (ma K (ga K "LongText") "difference") fd) : FnOk PW w K mg base (L2.CX PW w) 10 (ma K (ga K "LongText") "difference") fd ["self", "other"] (Pr K 2 (dBody N_LongText_difference b_LongText_difference)) :=
  Lx.FnOk.up (fn_ly (b := b_LongText_difference) (k := 9) F sc_LongText_difference (ls_ret (le_call (la_cons (le_fld le_var) (la_cons (le_fld le_var) la_nil)))) (fun cdv A outer s H E hr tk => (pss_one (ps_ret (pe_fk (fk_first_difference e) (hr.mono (by omega)) (px tk) rfl (gl e 33 rfl) (pa_cons (pe_fld (pv 0) rfl) (pa_cons (pe_fld (pv 1) rfl) pa_nil))))))) (by omega)
theorem fk_LongText_difference (e : En K mg base) : Fk PW w K mg base 10 (ma K (ga K "LongText") "difference") (Pr K 2 (dBody N_LongText_difference b_LongText_difference)) := by
  obtain ⟨fd, F⟩ := d_LongText_difference e
  exact ⟨fd, _, fo_LongText_difference e F, F.bindsN (fun _ _ _ _ _ _ us hl => match us, hl with | [_, _], _ => rfl), F.kp⟩
theorem fn_LongText_difference_other (e : En K mg base) : FkW PW w K mg base 10 (ma K (ga K "LongText") "difference") 0 ["other"] [0] [] (Pr K 2 (dBody N_LongText_difference b_LongText_difference)) := by
  obtain ⟨fd, F⟩ := d_LongText_difference e
  exact ⟨fd, _, [], fo_LongText_difference e F, FunD.kbN 0 F (fun _ _ _ _ _ _ us ws h1 h2 => match us, ws, h1, h2 with | [_], [_], _, _ => rfl)⟩
theorem tkw_difference_other (e : En K mg base) : TabN PW w K mg base 10 "difference" ["other"] [0] 2 tb_difference := (.cons (cls_ok (e.c.fm 35 rfl)) (fm_meth (e.c.fm 58 rfl)) (fn_LongText_difference_other e) (.cons (cls_ok (e.c.fm 29 rfl)) (fm_meth (e.c.fm 57 rfl)) (fn_LongText_difference_other e) .nil))
theorem tk_difference (e : En K mg base) : TabK PW w K mg base 10 "difference" 1 tb_difference := (.cons (cls_ok (e.c.fm 35 rfl)) (fm_meth (e.c.fm 58 rfl)) (Fk.up (fk_LongText_difference e) (by omega)) (.cons (cls_ok (e.c.fm 29 rfl)) (fm_meth (e.c.fm 57 rfl)) (Fk.up (fk_LongText_difference e) (by omega)) .nil))
theorem sc_LongText_length : FnScope N_LongText_length ["self"] (defScope s_LongText_length) := ⟨rfl, rfl, rfl, by decide +kernel, rfl, by decide +kernel, by decide +kernel⟩
theorem fo_LongText_length (e : En K mg base) {fd : FuncData} (F : FunD K "length" "LongText.length" (defArgs s_LongText_length) (defBody s_LongText_length) (defScope s_LongText_length) [] [] (pgA K "LongText" "length") fd) : FnOk PW w K mg base (L2.CX PW w) 2 (pgA K "LongText" "length") fd ["self"] (Pr K 1 (dBody N_LongText_length b_LongText_length)) :=
  Lx.FnOk.up (fn_ly (b := b_LongText_length) (k := 1) F sc_LongText_length (ls_ret (le_fld le_var)) (fun cdv A outer s H E hr tk => (pss_one (ps_ret (pe_fld (pv 0) rfl))))) (by omega)
theorem fk_LongText_length (e : En K mg base) : Fk PW w K mg base 2 (pgA K "LongText" "length") (Pr K 1 (dBody N_LongText_length b_LongText_length)) := by
  obtain ⟨fd, F⟩ := d_LongText_length e
  exact ⟨fd, _, fo_LongText_length e F, F.bindsN (fun _ _ _ _ _ _ us hl => match us, hl with | [_], _ => rfl), F.kp⟩
theorem pk_length (e : En K mg base) : TabP PW w K mg base 2 "length" tp_length := (.cons (cls_ok (e.c.fm 35 rfl)) (fm_prop (e.c.fm 60 rfl)) (fk_LongText_length e) (.cons (cls_ok (e.c.fm 29 rfl)) (fm_prop (e.c.fm 59 rfl)) (fk_LongText_length e) .nil))
theorem sc__law_cut_right : FnScope N__law_cut_right ["_law_pen_here", "_law_blocks", "_law_made"] (defScope s__law_cut_right) := ⟨rfl, rfl, rfl, by decide +kernel, rfl, by decide +kernel, by decide +kernel⟩
theorem fk__law_cut_right (e : En K mg base) : FkG PW w K mg base 58 (ga K "_law_cut_right") (Pr K 3 g__law_cut_right) := by
  obtain ⟨fd, F⟩ := d__law_cut_right e
  exact ⟨fd, _, fnG_lyC (b := b__law_cut_right) (k := 57) F sc__law_cut_right (ls_seq (ls_asg (le_opn lo_sum (la_cons (le_lc (li_list le_var) lg_name lt_yes (le_call (la_cons le_var (la_cons le_var la_nil))) (fun _ h => h)) (la_cons (le_lst la_nil) la_nil))) lg_name)
  (ls_seq (ls_asg (le_call (la_cons le_var la_nil)) lg_name)
  (ls_seq (ls_if (lt_test (le_op2 lo_ne (le_opn lo_repr (la_cons (le_lst (la_cons (le_op2 (lo_eqQ (own_eqq e)) le_var le_var) (la_cons (le_op2 (lo_eqQ (own_eqq e)) le_var le_var) (la_cons (le_op2 (lo_eqQ (own_eqq e)) le_var le_var) la_nil)))) la_nil)) (le_opn lo_repr (la_cons (le_lst (la_cons le_bl (la_cons le_bl (la_cons le_bl la_nil)))) la_nil)))) (ls_ret le_bl) ls_next)
  (ls_ret (le_and (le_op2 lo_isN (le_meth le_var (la_cons le_var la_nil)) le_non) (le_and (le_op2 lo_isN (le_methN le_var (la_cons le_var la_nil)) le_non) (le_op2 lo_eq (le_prop le_var) (le_prop le_var)))))))) (fun cdv A outer s H E hco hgd hr tk => (pss_cons (ps_set (i := 3) sc__law_cut_right.nd rfl (by first | exact Or.inl rfl | exact Or.inr rfl) (pe_callB (call_sumL rfl) rfl (fr e 9 rfl) boot_sum (pa_cons (pe_lc (own := [("_law_one", 4)]) rfl sc__law_cut_right.nd (pi_list (pv 1)) (blkOk_by (N := N__law_cut_right) (sc := defScope s__law_cut_right) (by decide +kernel)) (fun _ _ _ _ _ => (pg_name (i := 4) sc__law_cut_right.nd rfl (by first | exact Or.inl rfl | exact Or.inr rfl))) (fun _ _ _ _ _ => pts_nil) (fun _ _ _ _ _ => (pe_fk (fk__law_lsplit e) (hr.mono (by omega)) px0 rfl (gl e 63 rfl) (pa_cons (pv 0) (pa_cons (pv 4) pa_nil))))) (pa_cons (pe_lst pa_nil) pa_nil))))
  (pss_cons (ps_set (i := 5) sc__law_cut_right.nd rfl (by first | exact Or.inl rfl | exact Or.inr rfl) (pe_fk (fk__law_lmade e) (hr.mono (by omega)) (px tk) rfl (gl e 62 rfl) (pa_cons (pv 3) pa_nil)))
  (pss_cons (ps_if (pt_cmpR (op_neU hr.units) (pe_callB (call_repr hgd hr.units) rfl (fr e 61 rfl) boot_repr (pa_cons (pe_lst (pa_cons (pe_cmpR (op_eqQ (tqq e) (hr.mono (by omega))) (pv 2) (pv 5) (nomark _)) (pa_cons (pe_cmpR (op_eqQ (tqq e) (hr.mono (by omega))) (pv 5) (pv 2) (nomark _)) (pa_cons (pe_cmpR (op_neQ (tqq e) (hr.mono (by omega))) (pv 2) (pv 5) (nomark _)) pa_nil)))) pa_nil)) (pe_callB (call_repr hgd hr.units) rfl (fr e 61 rfl) boot_repr (pa_cons (pe_lst (pa_cons pe_bl (pa_cons pe_bl (pa_cons pe_bl pa_nil)))) pa_nil)) (nomark _)) (pss_one (ps_ret pe_bl)) pss_nil)
  (pss_one (ps_ret (pe_andT (pe_cmpR op_isN (pe_methU ((tk_difference e).mt (hr.mono (by omega)) (px tk)) (pv 2) (pa_cons (pv 5) pa_nil)) pe_non (nomark _)) (pe_andT (pe_cmpR op_isN (pe_methN (ks := ["other"]) ((tkw_difference_other e).nt (hr.mono (by omega)) (px tk)) (pv 5) (pk_cons (pv 2) pk_nil)) pe_non (nomark _)) (pe_one (pe_cmpR (op_eqU hr.units) (pe_propU (((pk_length e) : TabP _ _ _ _ _ 2 _ _).pt (hr.mono (by omega))) (pv 5)) (pe_propU (((pk_length e) : TabP _ _ _ _ _ 2 _ _).pt (hr.mono (by omega))) (pv 2)) (nomark _))))))))))), F.bindsN (fun _ _ _ _ _ _ us hl => match us, hl with | [_, _, _], _ => rfl), F.kp⟩
theorem sc__law_lwritten : FnScope N__law_lwritten ["_law_blocks"] (defScope s__law_lwritten) := ⟨rfl, rfl, rfl, by decide +kernel, rfl, by decide +kernel, by decide +kernel⟩
theorem fk__law_lwritten (e : En K mg base) : Fk PW w K mg base 2 (ga K "_law_lwritten") (Pr K 1 g__law_lwritten) := by
  obtain ⟨fd, F⟩ := d__law_lwritten e
  exact ⟨fd, _, fn_ly (b := b__law_lwritten) (k := 1) F sc__law_lwritten (ls_ret (le_opn lo_sum (la_cons (le_lc (li_list le_var) (lg_tup (lgs_cons lg_name (lgs_cons lg_name lgs_nil))) lt_yes (le_op2 lo_rep (le_opn lo_list (la_cons le_var la_nil)) le_var) (fun _ h => h)) (la_cons (le_lst la_nil) la_nil)))) (fun cdv A outer s H E hr tk => (pss_one (ps_ret (pe_callB (call_sumL rfl) rfl (fr e 9 rfl) boot_sum (pa_cons (pe_lc (own := [("_law_rows", 1), ("_law_times", 2)]) rfl sc__law_lwritten.nd (pi_list (pv 0)) (blkOk_by (N := N__law_lwritten) (sc := defScope s__law_lwritten) (by decide +kernel)) (fun _ _ _ _ _ => (pg_tup (n := 2) rfl (pgs_cons (pg_name (i := 1) sc__law_lwritten.nd rfl (by first | exact Or.inl rfl | exact Or.inr rfl)) (pgs_cons (pg_name (i := 2) sc__law_lwritten.nd rfl (by first | exact Or.inl rfl | exact Or.inr rfl)) pgs_nil)))) (fun _ _ _ _ _ => pts_nil) (fun _ _ _ _ _ => (pe_op op_rep (pe_callTy call_list_of rfl (fr e 5 rfl) boot_list (pa_cons (pv 1) pa_nil)) (pv 2)))) (pa_cons (pe_lst pa_nil) pa_nil)))))), F.bindsN (fun _ _ _ _ _ _ us hl => match us, hl with | [_], _ => rfl), F.kp⟩
theorem sc__law_rows_at : FnScope N__law_rows_at ["_law_blocks", "_law_spots"] (defScope s__law_rows_at) := ⟨rfl, rfl, rfl, by decide +kernel, rfl, by decide +kernel, by decide +kernel⟩
theorem fk__law_rows_at (e : En K mg base) : Fk PW w K mg base 2 (ga K "_law_rows_at") (Pr K 2 g__law_rows_at) := by
  obtain ⟨fd, F⟩ := d__law_rows_at e
  exact ⟨fd, _, fn_ly (b := b__law_rows_at) (k := 1) F sc__law_rows_at (ls_seq (ls_par3 (la_cons (le_lstM la_nil) (la_cons (le_opn lo_listM (la_cons le_var la_nil)) (la_cons le_int la_nil))))
  (ls_seq (ls_for (li_list le_var) lg_name (ls_seq (ls_newL la_nil)
  (ls_seq (ls_while (lt_and (lt_test (le_op2 lo_cmp le_var le_var)) (lt_test (le_op2 lo_ne0 le_var (le_lst la_nil)))) (ls_seq (ls_asg (le_popV le_var le_int) (lg_tup (lgs_cons lg_name (lgs_cons lg_name lgs_nil))))
  (ls_seq (ls_asg (le_op2 lo_sub le_var le_var) lg_name)
  (ls_seq (ls_asg (le_opn lo_min (la_cons le_var (la_cons (le_op2 lo_fdiv le_var (le_opn lo_len (la_cons le_var la_nil))) la_nil))) lg_name)
  (ls_seq (ls_if (lt_test (le_op2 lo_cmp le_var le_int)) (ls_app (le_tup (la_cons le_var (la_cons le_var la_nil)))) ls_next)
  (ls_seq (ls_if (lt_and (lt_test (le_op2 lo_cmp le_var le_var)) (lt_test (le_op2 lo_cmp (le_op2 lo_sub le_var (le_op2 lo_mulU le_var (le_opn lo_len (la_cons le_var la_nil)))) le_int))) (ls_seq (ls_asg (le_op2 lo_sub le_var (le_op2 lo_mulU le_var (le_opn lo_len (la_cons le_var la_nil)))) lg_name)
  (ls_seq (ls_app (le_tup (la_cons (le_sl le_var lp_none (lp_some le_var)) (la_cons le_int la_nil))))
  (ls_asg (le_op2 lo_addM (le_op2 lo_add (le_lst (la_cons (le_tup (la_cons (le_sl le_var (lp_some le_var) lp_none) (la_cons le_int la_nil))) la_nil)) (le_op2 lo_rep (le_lst (la_cons (le_tup (la_cons le_var (la_cons (le_op2 lo_sub (le_op2 lo_sub le_var le_var) le_int) la_nil))) la_nil)) (le_opn lo_int (la_cons (le_op2 lo_cmp (le_op2 lo_sub le_var le_var) le_int) la_nil)))) le_var) lg_name))) (ls_if (lt_test (le_op2 lo_cmp le_var le_var)) (ls_asg (le_op2 lo_addM (le_lst (la_cons (le_tup (la_cons le_var (la_cons (le_op2 lo_sub le_var le_var) la_nil))) la_nil)) le_var) lg_name) ls_next))
  (ls_asg (le_op2 lo_add le_var (le_opn lo_min (la_cons (le_op2 lo_mulU (le_opn lo_len (la_cons le_var la_nil)) le_var) (la_cons le_var la_nil)))) lg_name)))))))
  (ls_ice 6 (ls_app le_var)))))
  (ls_ice 2 (ls_ret (le_op2 lo_add le_var (le_lst (la_cons (le_iceE le_var) la_nil))))))) (fun cdv A outer s H E hr tk => (pss_cons (ps_par3 (i := 2) (j := 3) (l := 4) rfl sc__law_rows_at.nd rfl rfl rfl (by decide) (by decide) (by decide) rfl rfl rfl (pa_cons (pe_lst pa_nil) (pa_cons (pe_callTy call_list_of rfl (fr e 5 rfl) boot_list (pa_cons (pv 0) pa_nil)) (pa_cons pe_int pa_nil))) rfl)
  (pss_cons (ps_for (passes_of rfl) rfl (pi_list (pv 1)) (pg_name (i := 5) sc__law_rows_at.nd rfl (by first | exact Or.inl rfl | exact Or.inr rfl)) (pss_cons (ps_set (i := 6) sc__law_rows_at.nd rfl (by first | exact Or.inl rfl | exact Or.inr rfl) (pe_lst pa_nil))
  (pss_cons (ps_while (passes_of rfl) (PW.pt (pw_and (pt_cmpR op_lt (pv 4) (pv 5) (nomark _)) (pw_and1 (pt_cmpR (op_ne0 hr.units) (pv 3) (pe_lst pa_nil) (nomark _))))) (pss_cons (ps_asg (pe_bm PySem.F.plainAttrs_list PySem.F.slot_list_pop PySem.F.type_list_pop mt_popAt (pv 3) (pa_cons pe_int pa_nil)) (pg_tup (n := 2) rfl (pgs_cons (pg_name (i := 7) sc__law_rows_at.nd rfl (by first | exact Or.inl rfl | exact Or.inr rfl)) (pgs_cons (pg_name (i := 8) sc__law_rows_at.nd rfl (by first | exact Or.inl rfl | exact Or.inr rfl)) pgs_nil))))
  (pss_cons (ps_set (i := 9) sc__law_rows_at.nd rfl (by first | exact Or.inl rfl | exact Or.inr rfl) (pe_op op_sub (pv 5) (pv 4)))
  (pss_cons (ps_set (i := 10) sc__law_rows_at.nd rfl (by first | exact Or.inl rfl | exact Or.inr rfl) (pe_callB (call_min2 rfl) rfl (fr e 30 rfl) boot_min (pa_cons (pv 8) (pa_cons (pe_op op_fdiv (pv 9) (pe_callB call_len rfl (fr e 8 rfl) boot_len (pa_cons (pv 7) pa_nil))) pa_nil))))
  (pss_cons (ps_if (pt_cmpR op_gt (pv 10) pe_int (nomark _)) (pss_one (ps_expr (pe_bm PySem.F.plainAttrs_list PySem.F.slot_list_append PySem.F.type_list_append mt_append (pv 6) (pa_cons (pe_tup (pa_cons (pv 7) (pa_cons (pv 10) pa_nil))) pa_nil)))) pss_nil)
  (pss_cons (ps_if (PW.pt (pw_and (pt_cmpR op_lt (pv 10) (pv 8) (nomark _)) (pw_and1 (pt_cmpR op_gt (pe_op op_sub (pv 9) (pe_op op_mulU (pv 10) (pe_callB call_len rfl (fr e 8 rfl) boot_len (pa_cons (pv 7) pa_nil)))) pe_int (nomark _))))) (pss_cons (ps_set (i := 11) sc__law_rows_at.nd rfl (by first | exact Or.inl rfl | exact Or.inr rfl) (pe_op op_sub (pv 9) (pe_op op_mulU (pv 10) (pe_callB call_len rfl (fr e 8 rfl) boot_len (pa_cons (pv 7) pa_nil)))))
  (pss_cons (ps_expr (pe_bm PySem.F.plainAttrs_list PySem.F.slot_list_append PySem.F.type_list_append mt_append (pv 6) (pa_cons (pe_tup (pa_cons (pe_slice sl_U (pv 7) po_none (po_some (pv 11))) (pa_cons pe_int pa_nil))) pa_nil)))
  (pss_one (ps_set (i := 3) sc__law_rows_at.nd rfl (by first | exact Or.inl rfl | exact Or.inr rfl) (pe_op op_addU (pe_op op_addU (pe_lst (pa_cons (pe_tup (pa_cons (pe_slice sl_U (pv 7) (po_some (pv 11)) po_none) (pa_cons pe_int pa_nil))) pa_nil)) (pe_op op_rep (pe_lst (pa_cons (pe_tup (pa_cons (pv 7) (pa_cons (pe_op op_sub (pe_op op_sub (pv 8) (pv 10)) pe_int) pa_nil))) pa_nil)) (pe_callTy call_int1 rfl (fr e 10 rfl) boot_int (pa_cons (pe_cmpR op_gt (pe_op op_sub (pv 8) (pv 10)) pe_int (nomark _)) pa_nil)))) (pv 3)))))) (pss_one (ps_if (pt_cmpR op_lt (pv 10) (pv 8) (nomark _)) (pss_one (ps_set (i := 3) sc__law_rows_at.nd rfl (by first | exact Or.inl rfl | exact Or.inr rfl) (pe_op op_addU (pe_lst (pa_cons (pe_tup (pa_cons (pv 7) (pa_cons (pe_op op_sub (pv 8) (pv 10)) pa_nil))) pa_nil)) (pv 3)))) pss_nil)))
  (pss_one (ps_set (i := 4) sc__law_rows_at.nd rfl (by first | exact Or.inl rfl | exact Or.inr rfl) (pe_op op_addU (pv 4) (pe_callB (call_min2 rfl) rfl (fr e 30 rfl) boot_min (pa_cons (pe_op op_mulU (pe_callB call_len rfl (fr e 8 rfl) boot_len (pa_cons (pv 7) pa_nil)) (pv 8)) (pa_cons (pv 9) pa_nil))))))))))))
  (pss_one (ps_expr (pe_bm PySem.F.plainAttrs_list PySem.F.slot_list_append PySem.F.type_list_append mt_append (pv 2) (pa_cons (pv 6) pa_nil)))))))
  (pss_one (ps_ret (pe_op op_addU (pv 2) (pe_lst (pa_cons (pv 3) pa_nil)))))))), F.bindsN (fun _ _ _ _ _ _ us hl => match us, hl with | [_, _], _ => rfl), F.kp⟩
theorem sc__law_exchanged_right : FnScope N__law_exchanged_right ["_law_pen_here", "_law_blocks", "_law_made", "_law_strange"] (defScope s__law_exchanged_right) := ⟨rfl, rfl, rfl, by decide +kernel, rfl, by decide +kernel, by decide +kernel⟩
theorem fk__law_exchanged_right (e : En K mg base) : FkG PW w K mg base 58 (ga K "_law_exchanged_right") (Pr K 4 g__law_exchanged_right) := by
  obtain ⟨fd, F⟩ := d__law_exchanged_right e
  exact ⟨fd, _, fnG_lyC (b := b__law_exchanged_right) (k := 57) F sc__law_exchanged_right (ls_seq (ls_asg (le_call (la_cons le_var la_nil)) lg_name)
  (ls_seq (ls_asg (le_op2 lo_add le_int (le_op2 lo_mod (le_opn lo_int (la_cons (le_call (la_cons le_var (la_cons le_int la_nil))) la_nil)) le_var)) lg_name)
  (ls_seq (ls_asg (le_call (la_cons le_var (la_cons (le_lst (la_cons (le_op2 lo_sub le_var le_int) (la_cons le_var la_nil))) la_nil))) (lg_lst (lgs_cons lg_name (lgs_cons lg_name (lgs_cons lg_name lgs_nil)))))
  (ls_seq (ls_if (lt_or (lt_test (le_op2 lo_ne (le_call (la_cons le_var la_nil)) (le_op2 lo_sub le_var le_int))) (lt_test (le_op2 lo_ne (le_call (la_cons le_var la_nil)) (le_lst (la_cons (le_call (la_cons le_var (la_cons le_var la_nil))) la_nil))))) (ls_ret le_bl) ls_next)
  (ls_seq (ls_for (li_list (le_lst (la_cons (le_tup (la_cons (le_lst (la_cons (le_tup (la_cons (le_lst (la_cons (le_op2 lo_add le_str le_var) la_nil)) (la_cons le_int la_nil))) la_nil)) (la_cons le_var la_nil))) (la_cons (le_tup (la_cons le_var (la_cons le_non la_nil))) (la_cons (le_tup (la_cons (le_op2 lo_add le_var (le_lst (la_cons (le_tup (la_cons (le_lst (la_cons le_var la_nil)) (la_cons le_int la_nil))) la_nil))) (la_cons le_str la_nil))) (la_cons (le_tup (la_cons (le_lst la_nil) (la_cons le_str la_nil))) la_nil)))))) (lg_tup (lgs_cons lg_name (lgs_cons lg_name lgs_nil))) (ls_seq (ls_asg (le_op2 lo_add (le_op2 lo_add le_var le_var) le_var) lg_name)
  (ls_seq (ls_asg (le_if (lt_test (le_op2 lo_eq le_var le_str)) (le_call (la_cons le_var (la_cons le_var la_nil))) le_var) lg_name)
  (ls_seq (ls_asg (le_call (la_cons le_var la_nil)) lg_name)
  (ls_seq (ls_if (lt_test (le_op2 lo_ne (le_opn lo_repr (la_cons (le_lst (la_cons (le_meth le_var (la_cons le_var la_nil)) (la_cons (le_meth le_var (la_cons le_var la_nil)) la_nil))) la_nil)) (le_opn lo_repr (la_cons (le_lst (la_cons le_var (la_cons le_var la_nil))) la_nil)))) (ls_ret le_bl) ls_next)
  (ls_if (lt_test (le_op2 lo_ne (le_opn lo_repr (la_cons (le_lst (la_cons (le_op2 (lo_eqQ (own_eqq e)) le_var le_var) (la_cons (le_op2 (lo_eqQ (own_eqq e)) le_var le_var) la_nil))) la_nil)) (le_opn lo_repr (la_cons (le_lst (la_cons (le_op2 lo_isN le_var le_non) (la_cons (le_op2 lo_notN le_var le_non) la_nil))) la_nil)))) (ls_ret le_bl) ls_next))))))
  (ls_ret le_bl)))))) (fun cdv A outer s H E hco hgd hr tk => (pss_cons (ps_set (i := 4) sc__law_exchanged_right.nd rfl (by first | exact Or.inl rfl | exact Or.inr rfl) (pe_fk (fk__law_lsize e) (hr.mono (by omega)) (px tk) rfl (gl e 46 rfl) (pa_cons (pv 1) pa_nil)))
  (pss_cons (ps_set (i := 5) sc__law_exchanged_right.nd rfl (by first | exact Or.inl rfl | exact Or.inr rfl) (pe_op op_addU pe_int (pe_op op_mod (pe_callTy call_int1 rfl (fr e 10 rfl) boot_int (pa_cons (pe_fk (fk__law_great e) (hr.mono (by omega)) (px tk) rfl (gl e 56 rfl) (pa_cons (pv 0) (pa_cons pe_int pa_nil))) pa_nil)) (pv 4))))
  (pss_cons (ps_asg (pe_fk (fk__law_rows_at e) (hr.mono (by omega)) (px tk) rfl (gl e 66 rfl) (pa_cons (pv 1) (pa_cons (pe_lst (pa_cons (pe_op op_sub (pv 5) pe_int) (pa_cons (pv 5) pa_nil))) pa_nil))) (pg_lst (n := 3) rfl (pgs_cons (pg_name (i := 6) sc__law_exchanged_right.nd rfl (by first | exact Or.inl rfl | exact Or.inr rfl)) (pgs_cons (pg_name (i := 7) sc__law_exchanged_right.nd rfl (by first | exact Or.inl rfl | exact Or.inr rfl)) (pgs_cons (pg_name (i := 8) sc__law_exchanged_right.nd rfl (by first | exact Or.inl rfl | exact Or.inr rfl)) pgs_nil)))))
  (pss_cons (ps_if (PW.pt (pw_or (pt_cmpR (op_neU hr.units) (pe_fk (fk__law_lsize e) (hr.mono (by omega)) (px tk) rfl (gl e 46 rfl) (pa_cons (pv 6) pa_nil)) (pe_op op_sub (pv 5) pe_int) (nomark _)) (pw_or1 (pt_cmpR (op_neU hr.units) (pe_fk (fk__law_lwritten e) (hr.mono (by omega)) (px tk) rfl (gl e 65 rfl) (pa_cons (pv 7) pa_nil)) (pe_lst (pa_cons (pe_fk (fk__law_lline e) (hr.mono (by omega)) (px tk) rfl (gl e 45 rfl) (pa_cons (pv 1) (pa_cons (pv 5) pa_nil))) pa_nil)) (nomark _))))) (pss_one (ps_ret pe_bl)) pss_nil)
  (pss_cons (ps_for (passes_of rfl) rfl (pi_list (pe_lst (pa_cons (pe_tup (pa_cons (pe_lst (pa_cons (pe_tup (pa_cons (pe_lst (pa_cons (pe_op op_addU pe_str (pv 3)) pa_nil)) (pa_cons pe_int pa_nil))) pa_nil)) (pa_cons (pv 5) pa_nil))) (pa_cons (pe_tup (pa_cons (pv 7) (pa_cons pe_non pa_nil))) (pa_cons (pe_tup (pa_cons (pe_op op_addU (pv 7) (pe_lst (pa_cons (pe_tup (pa_cons (pe_lst (pa_cons (pv 3) pa_nil)) (pa_cons pe_int pa_nil))) pa_nil))) (pa_cons pe_str pa_nil))) (pa_cons (pe_tup (pa_cons (pe_lst pa_nil) (pa_cons pe_str pa_nil))) pa_nil)))))) (pg_tup (n := 2) rfl (pgs_cons (pg_name (i := 9) sc__law_exchanged_right.nd rfl (by first | exact Or.inl rfl | exact Or.inr rfl)) (pgs_cons (pg_name (i := 10) sc__law_exchanged_right.nd rfl (by first | exact Or.inl rfl | exact Or.inr rfl)) pgs_nil))) (pss_cons (ps_set (i := 11) sc__law_exchanged_right.nd rfl (by first | exact Or.inl rfl | exact Or.inr rfl) (pe_op op_addU (pe_op op_addU (pv 6) (pv 9)) (pv 8)))
  (pss_cons (ps_set (i := 12) sc__law_exchanged_right.nd rfl (by first | exact Or.inl rfl | exact Or.inr rfl) (pe_ifExp (pt_cmpR (op_eqU hr.units) (pv 10) pe_str (nomark _)) (pe_fk (fk__law_apart e) (hr.mono (by omega)) (px tk) rfl (gl e 64 rfl) (pa_cons (pv 1) (pa_cons (pv 11) pa_nil))) (pv 10)))
  (pss_cons (ps_set (i := 13) sc__law_exchanged_right.nd rfl (by first | exact Or.inl rfl | exact Or.inr rfl) (pe_fk (fk__law_lmade e) (hr.mono (by omega)) (px tk) rfl (gl e 62 rfl) (pa_cons (pv 11) pa_nil)))
  (pss_cons (ps_if (pt_cmpR (op_neU hr.units) (pe_callB (call_repr hgd hr.units) rfl (fr e 61 rfl) boot_repr (pa_cons (pe_lst (pa_cons (pe_methU ((tk_difference e).mt (hr.mono (by omega)) (px tk)) (pv 2) (pa_cons (pv 13) pa_nil)) (pa_cons (pe_methU ((tk_difference e).mt (hr.mono (by omega)) (px tk)) (pv 13) (pa_cons (pv 2) pa_nil)) pa_nil))) pa_nil)) (pe_callB (call_repr hgd hr.units) rfl (fr e 61 rfl) boot_repr (pa_cons (pe_lst (pa_cons (pv 12) (pa_cons (pv 12) pa_nil))) pa_nil)) (nomark _)) (pss_one (ps_ret pe_bl)) pss_nil)
  (pss_one (ps_if (pt_cmpR (op_neU hr.units) (pe_callB (call_repr hgd hr.units) rfl (fr e 61 rfl) boot_repr (pa_cons (pe_lst (pa_cons (pe_cmpR (op_eqQ (tqq e) (hr.mono (by omega))) (pv 2) (pv 13) (nomark _)) (pa_cons (pe_cmpR (op_neQ (tqq e) (hr.mono (by omega))) (pv 2) (pv 13) (nomark _)) pa_nil))) pa_nil)) (pe_callB (call_repr hgd hr.units) rfl (fr e 61 rfl) boot_repr (pa_cons (pe_lst (pa_cons (pe_cmpR op_isN (pv 12) pe_non (nomark _)) (pa_cons (pe_cmpR op_notN (pv 12) pe_non (nomark _)) pa_nil))) pa_nil)) (nomark _)) (pss_one (ps_ret pe_bl)) pss_nil)))))))
  (pss_one (ps_ret pe_bl)))))))), F.bindsN (fun _ _ _ _ _ _ us hl => match us, hl with | [_, _, _, _], _ => rfl), F.kp⟩
theorem sc__law_pick : FnScope N__law_pick ["_law_pen_here", "_law_options"] (defScope s__law_pick) := ⟨rfl, rfl, rfl, by decide +kernel, rfl, by decide +kernel, by decide +kernel⟩
theorem fk__law_pick (e : En K mg base) : Fk PW w K mg base 10 (ga K "_law_pick") (Pr K 2 g__law_pick) := by
  obtain ⟨fd, F⟩ := d__law_pick e
  exact ⟨fd, _, fn_ly (b := b__law_pick) (k := 9) F sc__law_pick (ls_ret (le_op2 lo_ix le_var (le_call (la_cons le_var (la_cons (le_opn lo_len (la_cons le_var la_nil)) la_nil))))) (fun cdv A outer s H E hr tk => (pss_one (ps_ret (pe_ix ix_seq (pv 1) (pe_fk (fk__law_draw e) (hr.mono (by omega)) (px tk) rfl (gl e 55 rfl) (pa_cons (pv 0) (pa_cons (pe_callB call_len rfl (fr e 8 rfl) boot_len (pa_cons (pv 1) pa_nil)) pa_nil))) (fun _ _ => rfl))))), F.bindsN (fun _ _ _ _ _ _ us hl => match us, hl with | [_, _], _ => rfl), F.kp⟩
theorem sc__law_signs : FnScope N__law_signs [] (defScope s__law_signs) := ⟨rfl, rfl, rfl, by decide +kernel, rfl, by decide +kernel, by decide +kernel⟩
theorem choose_spec__law_signs (e : En K mg base) : FunD K "_law_signs" "_law_signs" (defArgs s__law_signs) (defBody s__law_signs) (defScope s__law_signs) [] [] (ga K "_law_signs") (Classical.choose (d__law_signs e)) := Classical.choose_spec (d__law_signs e)
theorem choose_b__law_signs (e : En K mg base) : Binds K (Classical.choose (d__law_signs e)) [] [] := (choose_spec__law_signs e).bindsN (fun _ _ _ _ _ _ us hl => match us, hl with | [], _ => rfl)
theorem sc__law_few : FnScope N__law_few ["_law_pen_here"] (defScope s__law_few) := ⟨rfl, rfl, rfl, by decide +kernel, rfl, by decide +kernel, by decide +kernel⟩
theorem fk__law_few (e : En K mg base) : Fk PW w K mg base 18 (ga K "_law_few") (Pr K 1 g__law_few) := by
  obtain ⟨fd, F⟩ := d__law_few e
  exact ⟨fd, _, fn_ly (b := b__law_few) (k := 17) F sc__law_few (ls_seq (ls_asg (le_lst (la_cons (le_call (la_cons le_var (la_cons le_str la_nil))) (la_cons (le_call (la_cons le_var (la_cons le_str la_nil))) (la_cons (le_call (la_cons le_var (la_cons le_str la_nil))) la_nil)))) lg_name)
  (ls_seq (ls_asg (le_ms lo_join le_str (la_cons (le_lc (li_range1 (la_cons le_int la_nil)) lg_name (lt_test (le_op2 lo_in (le_op2 lo_ix le_var le_var) (le_sl le_var lp_none (lp_some le_var)))) (le_op2 lo_ix le_var le_var) (fun _ h => h)) la_nil)) lg_name)
  (ls_ret (le_call (la_cons le_var (la_cons (le_lst (la_cons le_str (la_cons le_str (la_cons le_str (la_cons le_str (la_cons le_str (la_cons le_str (la_cons le_str (la_cons le_str (la_cons le_var la_nil)))))))))) la_nil)))))) (fun cdv A outer s H E hr tk => (pss_cons (ps_set (i := 1) sc__law_few.nd rfl (by first | exact Or.inl rfl | exact Or.inr rfl) (pe_lst (pa_cons (pe_fk (fk__law_pick e) (hr.mono (by omega)) (px tk) rfl (gl e 67 rfl) (pa_cons (pv 0) (pa_cons (pe_crepl (k := 0) (choose_spec__law_signs e) sc__law_signs (choose_b__law_signs e) (hr.mono (by omega)) rfl (gl e 68 rfl) (by decide) (by decide +kernel) (by decide +kernel)) pa_nil))) (pa_cons (pe_fk (fk__law_pick e) (hr.mono (by omega)) (px tk) rfl (gl e 67 rfl) (pa_cons (pv 0) (pa_cons pe_str pa_nil))) (pa_cons (pe_fk (fk__law_pick e) (hr.mono (by omega)) (px tk) rfl (gl e 67 rfl) (pa_cons (pv 0) (pa_cons pe_str pa_nil))) pa_nil)))))
  (pss_cons (ps_set (i := 2) sc__law_few.nd rfl (by first | exact Or.inl rfl | exact Or.inr rfl) (pe_bm PySem.F.plainAttrs_str PySem.F.slot_str_join PySem.F.type_str_join mt_join pe_str (pa_cons (pe_lc (own := [("_law_k", 3)]) rfl sc__law_few.nd (pi_range1 rfl (fr e 31 rfl) (pa_cons pe_int pa_nil)) (blkOk_by (N := N__law_few) (sc := defScope s__law_few) (by decide +kernel)) (fun _ _ _ _ _ => (pg_name (i := 3) sc__law_few.nd rfl (by first | exact Or.inl rfl | exact Or.inr rfl))) (fun _ _ _ _ _ => (pts_one (pt_cmpR op_notInU (pe_ix ix_seq (pv 1) (pv 3) (fun _ _ => rfl)) (pe_slice sl_U (pv 1) po_none (po_some (pv 3))) rfl))) (fun _ _ _ _ _ => (pe_ix ix_seq (pv 1) (pv 3) (fun _ _ => rfl)))) pa_nil)))
  (pss_one (ps_ret (pe_fk (fk__law_pick e) (hr.mono (by omega)) (px tk) rfl (gl e 67 rfl) (pa_cons (pv 0) (pa_cons (pe_lst (pa_cons pe_str (pa_cons pe_str (pa_cons pe_str (pa_cons pe_str (pa_cons pe_str (pa_cons pe_str (pa_cons pe_str (pa_cons pe_str (pa_cons (pv 2) pa_nil)))))))))) pa_nil)))))))), F.bindsN (fun _ _ _ _ _ _ us hl => match us, hl with | [_], _ => rfl), F.kp⟩
theorem sc__law_row : FnScope N__law_row ["_law_pen_here", "_law_signs_here", "_law_least", "_law_most_letters"] (defScope s__law_row) := ⟨rfl, rfl, rfl, by decide +kernel, rfl, by decide +kernel, by decide +kernel⟩
theorem fk__law_row (e : En K mg base) : Fk PW w K mg base 18 (ga K "_law_row") (Pr K 4 g__law_row) := by
  obtain ⟨fd, F⟩ := d__law_row e
  exact ⟨fd, _, fn_ly (b := b__law_row) (k := 17) F sc__law_row (ls_seq (ls_asg (le_op2 lo_add le_var (le_call (la_cons le_var (la_cons (le_op2 lo_add (le_op2 lo_sub le_var le_var) le_int) la_nil)))) lg_name)
  (ls_ret (le_ms lo_join le_str (la_cons (le_lc (li_range1 (la_cons le_var la_nil)) lg_name lt_yes (le_call (la_cons le_var (la_cons le_var la_nil))) (fun _ h => h)) la_nil)))) (fun cdv A outer s H E hr tk => (pss_cons (ps_set (i := 4) sc__law_row.nd rfl (by first | exact Or.inl rfl | exact Or.inr rfl) (pe_op op_addU (pv 2) (pe_fk (fk__law_draw e) (hr.mono (by omega)) (px tk) rfl (gl e 55 rfl) (pa_cons (pv 0) (pa_cons (pe_op op_addU (pe_op op_sub (pv 3) (pv 2)) pe_int) pa_nil)))))
  (pss_one (ps_ret (pe_bm PySem.F.plainAttrs_str PySem.F.slot_str_join PySem.F.type_str_join mt_join pe_str (pa_cons (pe_lc (own := [("_law_k", 5)]) rfl sc__law_row.nd (pi_range1 rfl (fr e 31 rfl) (pa_cons (pv 4) pa_nil)) (blkOk_by (N := N__law_row) (sc := defScope s__law_row) (by decide +kernel)) (fun _ _ _ _ _ => (pg_name (i := 5) sc__law_row.nd rfl (by first | exact Or.inl rfl | exact Or.inr rfl))) (fun _ _ _ _ _ => pts_nil) (fun _ _ _ _ _ => (pe_fk (fk__law_pick e) (hr.mono (by omega)) px0 rfl (gl e 67 rfl) (pa_cons (pv 0) (pa_cons (pv 1) pa_nil))))) pa_nil)))))), F.bindsN (fun _ _ _ _ _ _ us hl => match us, hl with | [_, _, _, _], _ => rfl), F.kp⟩
theorem sc__law_lblocks : FnScope N__law_lblocks ["_law_pen_here", "_law_signs_here", "_law_most_blocks", "_law_tops"] (defScope s__law_lblocks) := ⟨rfl, rfl, rfl, by decide +kernel, rfl, by decide +kernel, by decide +kernel⟩
theorem fk__law_lblocks (e : En K mg base) : Fk PW w K mg base 26 (ga K "_law_lblocks") (Pr K 4 g__law_lblocks) := by
  obtain ⟨fd, F⟩ := d__law_lblocks e
  exact ⟨fd, _, fn_ly (b := b__law_lblocks) (k := 25) F sc__law_lblocks (ls_seq (ls_asg (le_tup (la_cons (le_lc (li_range1 (la_cons le_int la_nil)) lg_name lt_yes (le_call (la_cons le_var (la_cons le_var (la_cons le_int (la_cons le_int la_nil))))) (fun _ h => h)) (la_cons (le_lstM la_nil) la_nil))) (lg_tup (lgs_cons lg_name (lgs_cons lg_name lgs_nil))))
  (ls_seq (ls_for (li_range1 (la_cons (le_call (la_cons le_var (la_cons (le_op2 lo_add le_var le_int) la_nil))) la_nil)) lg_name (ls_seq (ls_asg (le_lc (li_range1 (la_cons (le_op2 lo_add le_int (le_call (la_cons le_var (la_cons le_int la_nil)))) la_nil)) lg_name lt_yes (le_call (la_cons le_var (la_cons le_var la_nil))) (fun _ h => h)) lg_name)
  (ls_app (le_tup (la_cons le_var (la_cons (le_call (la_cons le_var (la_cons le_var la_nil))) la_nil))))))
  (ls_ice 5 (ls_ret le_var)))) (fun cdv A outer s H E hr tk => (pss_cons (ps_asg (by exact (pe_tup (pa_cons (pe_lc (own := [("_law_k", 6)]) rfl sc__law_lblocks.nd (pi_range1 rfl (fr e 31 rfl) (pa_cons pe_int pa_nil)) (blkOk_by (N := N__law_lblocks) (sc := defScope s__law_lblocks) (by decide +kernel)) (fun _ _ _ _ _ => (pg_name (i := 6) sc__law_lblocks.nd rfl (by first | exact Or.inl rfl | exact Or.inr rfl))) (fun _ _ _ _ _ => pts_nil) (fun _ _ _ _ _ => (pe_fk (fk__law_row e) (hr.mono (by omega)) px0 rfl (gl e 69 rfl) (pa_cons (pv 0) (pa_cons (pv 1) (pa_cons pe_int (pa_cons pe_int pa_nil))))))) (pa_cons (pe_lst pa_nil) pa_nil)))) (pg_tup (n := 2) rfl (pgs_cons (pg_name (i := 4) sc__law_lblocks.nd rfl (by first | exact Or.inl rfl | exact Or.inr rfl)) (pgs_cons (pg_name (i := 5) sc__law_lblocks.nd rfl (by first | exact Or.inl rfl | exact Or.inr rfl)) pgs_nil))))
  (pss_cons (ps_for (passes_of rfl) rfl (pi_range1 rfl (fr e 31 rfl) (pa_cons (pe_fk (fk__law_draw e) (hr.mono (by omega)) (px tk) rfl (gl e 55 rfl) (pa_cons (pv 0) (pa_cons (pe_op op_addU (pv 2) pe_int) pa_nil))) pa_nil)) (pg_name (i := 6) sc__law_lblocks.nd rfl (by first | exact Or.inl rfl | exact Or.inr rfl)) (pss_cons (by first | exact (ps_setLc (i := 7) (own := [("_law_j", 8)]) rfl sc__law_lblocks.nd rfl rfl (sw_true rfl rfl rfl (by decide +kernel)) (pi_range1 rfl (fr e 31 rfl) (pa_cons (pe_op op_addU pe_int (pe_fk (fk__law_draw e) (hr.mono (by omega)) (px tk) rfl (gl e 55 rfl) (pa_cons (pv 0) (pa_cons pe_int pa_nil)))) pa_nil)) (blkOk_by (N := N__law_lblocks) (sc := defScope s__law_lblocks) (by decide +kernel)) (fun _ _ _ _ _ => (pg_name (i := 8) sc__law_lblocks.nd rfl (by first | exact Or.inl rfl | exact Or.inr rfl))) (fun _ _ _ _ _ => pts_nil) (fun _ _ _ _ _ => (pe_fk (fk__law_pick e) (hr.mono (by omega)) px0 rfl (gl e 67 rfl) (pa_cons (pv 0) (pa_cons (pv 4) pa_nil))))) | exact (ps_set (i := 7) sc__law_lblocks.nd rfl (by first | exact Or.inl rfl | exact Or.inr rfl) (pe_lc (own := [("_law_j", 8)]) rfl sc__law_lblocks.nd (pi_range1 rfl (fr e 31 rfl) (pa_cons (pe_op op_addU pe_int (pe_fk (fk__law_draw e) (hr.mono (by omega)) (px tk) rfl (gl e 55 rfl) (pa_cons (pv 0) (pa_cons pe_int pa_nil)))) pa_nil)) (blkOk_by (N := N__law_lblocks) (sc := defScope s__law_lblocks) (by decide +kernel)) (fun _ _ _ _ _ => (pg_name (i := 8) sc__law_lblocks.nd rfl (by first | exact Or.inl rfl | exact Or.inr rfl))) (fun _ _ _ _ _ => pts_nil) (fun _ _ _ _ _ => (pe_fk (fk__law_pick e) (hr.mono (by omega)) px0 rfl (gl e 67 rfl) (pa_cons (pv 0) (pa_cons (pv 4) pa_nil)))))))
  (pss_one (ps_expr (pe_bm PySem.F.plainAttrs_list PySem.F.slot_list_append PySem.F.type_list_append mt_append (pv 5) (pa_cons (pe_tup (pa_cons (pv 7) (pa_cons (pe_fk (fk__law_pick e) (hr.mono (by omega)) (px tk) rfl (gl e 67 rfl) (pa_cons (pv 0) (pa_cons (pv 3) pa_nil))) pa_nil))) pa_nil))))))
  (pss_one (ps_ret (pv 5)))))), F.bindsN (fun _ _ _ _ _ _ us hl => match us, hl with | [_, _, _, _], _ => rfl), F.kp⟩
theorem sc__law_pen : FnScope N__law_pen ["_law_script"] (defScope s__law_pen) := ⟨rfl, rfl, rfl, by decide +kernel, rfl, by decide +kernel, by decide +kernel⟩
theorem fk__law_pen (e : En K mg base) : Fk PW w K mg base 2 (ga K "_law_pen") (spPen K) := by
  obtain ⟨fd, F⟩ := d__law_pen e
  refine ⟨fd, _, F.ok (CX := L2.CX PW w) (k := 1) sc__law_pen spPen.len fun cdv A outer s H vs Q E hr h => ⟨t_pen K, PSs.nox ?_, pen_pure h⟩, F.bindsN (fun _ _ _ _ _ _ us hl => match us, hl with | [_], _ => rfl), F.kp⟩
  exact pss_one (ps_ret (pe_disp (pps_cons pe_str (pe_callTy call_list_of rfl (fr e 5 rfl) boot_list (pa_cons (pe_slice sl_U (pv 0) po_none (po_some pe_int)) pa_nil)) (pps_cons pe_str pe_int (pps_cons pe_str pe_int pps_nil))) rfl rfl (by decide) (by decide)))
theorem sc_LongText_blocks : FnScope N_LongText_blocks ["self"] (defScope s_LongText_blocks) := ⟨rfl, rfl, rfl, by decide +kernel, rfl, by decide +kernel, by decide +kernel⟩
theorem fo_LongText_blocks (e : En K mg base) {fd : FuncData} (F : FunD K "blocks" "LongText.blocks" (defArgs s_LongText_blocks) (defBody s_LongText_blocks) (defScope s_LongText_blocks) [] [] (pgA K "LongText" "blocks") fd) : FnOk PW w K mg base (L2.CX PW w) 2 (pgA K "LongText" "blocks") fd ["self"] (Pr K 1 (dBody N_LongText_blocks b_LongText_blocks)) :=
  Lx.FnOk.up (fn_ly (b := b_LongText_blocks) (k := 1) F sc_LongText_blocks (ls_ret (le_fld le_var)) (fun cdv A outer s H E hr tk => (pss_one (ps_ret (pe_fld (pv 0) rfl))))) (by omega)
theorem fk_LongText_blocks (e : En K mg base) : Fk PW w K mg base 2 (pgA K "LongText" "blocks") (Pr K 1 (dBody N_LongText_blocks b_LongText_blocks)) := by
  obtain ⟨fd, F⟩ := d_LongText_blocks e
  exact ⟨fd, _, fo_LongText_blocks e F, F.bindsN (fun _ _ _ _ _ _ us hl => match us, hl with | [_], _ => rfl), F.kp⟩
theorem pk_blocks (e : En K mg base) : TabP PW w K mg base 2 "blocks" tp_blocks := (.cons (cls_ok (e.c.fm 35 rfl)) (fm_prop (e.c.fm 71 rfl)) (fk_LongText_blocks e) (.cons (cls_ok (e.c.fm 29 rfl)) (fm_prop (e.c.fm 70 rfl)) (fk_LongText_blocks e) .nil))
theorem sc_law : FnScope N_law ["_law_script"] (defScope s_law) := ⟨rfl, rfl, rfl, by decide +kernel, rfl, by decide +kernel, by decide +kernel⟩
theorem fg_law (e : En K mg base) {fd : FuncData} (F : FunD K "law" "law" (defArgs s_law) (defBody s_law) (defScope s_law) [] [] (ga K "law") fd) (hw : ∀ ns : List Int, (b_law (some (.sct ns) :: some .pen :: List.replicate 8 none)).wp ⟨2 ^ 60, []⟩ (fun _ o => o = .rt (.bl true)) (fun _ _ => False)) : Lx.FnG PW w K mg base (L2.CX PW w) 66 (ga K "law") fd ["_law_script"] (Ly.spLaw K) := by
  exact law_ly (b := b_law) (k := 65) F sc_law rfl rfl (ls_seq (ls_for (li_range1 (la_cons (le_op2 lo_add le_int (le_opn lo_min (la_cons le_int (la_cons (le_opn lo_len (la_cons le_var la_nil)) la_nil)))) la_nil)) lg_name (ls_seq (ls_asg (le_call (la_cons le_var la_nil)) lg_name)
  (ls_seq (ls_asg (le_call (la_cons le_var (la_cons le_var (la_cons le_int (la_cons (le_lst (la_cons le_int (la_cons le_int (la_cons le_int (la_cons le_int (la_cons (le_op2 lo_pow le_int le_int) (la_cons (le_op2 lo_add le_int (le_call (la_cons le_var (la_cons le_int la_nil)))) (la_cons (le_op2 lo_pow le_int le_int) la_nil)))))))) la_nil))))) lg_name)
  (ls_seq (ls_par (la_cons (le_call (la_cons le_var la_nil)) (la_cons (le_call (la_cons le_var (la_cons le_var (la_cons le_int (la_cons le_int la_nil))))) la_nil)))
  (ls_seq (ls_if (lt_or (lt_not (lt_tru (le_call (la_cons le_var (la_cons le_var (la_cons le_var la_nil)))))) (lt_not (lt_tru (le_call (la_cons le_var (la_cons le_var (la_cons le_var la_nil))))))) (ls_ret le_bl) ls_next)
  (ls_seq (ls_if (lt_and (lt_test (le_op2 lo_ne le_var (le_lst la_nil))) (lt_not (lt_tru (le_call (la_cons le_var (la_cons le_var (la_cons le_var (la_cons le_var la_nil)))))))) (ls_ret le_bl) ls_next)
  (ls_seq (ls_asg (le_call (la_cons le_var (la_cons le_var (la_cons le_int (la_cons (le_lst (la_cons le_int (la_cons le_int (la_cons le_int (la_cons (le_op2 lo_pow le_int le_int) la_nil))))) la_nil))))) lg_name)
  (ls_seq (ls_asg (le_call (la_cons le_var la_nil)) lg_name)
  (ls_seq (ls_if (lt_test (le_op2 lo_ne (le_opn lo_repr (la_cons (le_meth le_var (la_cons le_var la_nil)) la_nil)) (le_opn lo_repr (la_cons (le_call (la_cons le_var (la_cons le_var la_nil))) la_nil)))) (ls_ret le_bl) ls_next)
  (ls_seq (ls_asg (le_op2 lo_bin le_var le_var) lg_name)
  (ls_seq (ls_if (lt_or (lt_not (lt_test (le_op2 (lo_eqQ (own_eqq e)) le_var (le_call (la_cons (le_op2 lo_add le_var le_var) la_nil))))) (lt_test (le_op2 lo_ne (le_prop le_var) (le_op2 lo_add (le_prop le_var) (le_prop le_var))))) (ls_ret le_bl) ls_next)
  (ls_if (lt_or (lt_test (le_op2 (lo_eqQ (own_eqq e)) le_var (le_prop le_var))) (lt_or (lt_test (le_op2 (lo_eqQ (own_eqq e)) le_var le_str)) (lt_test (le_op2 (lo_eqQ (own_eqq e)) le_var (le_prop le_var))))) (ls_ret le_bl) ls_next))))))))))))
  (ls_ret (le_and (le_op2 (lo_eqQ (own_eqq e)) (le_makeS (cls_ok (e.c.fm 35 rfl)) (fun _ _ _ => .nil) (la_cons (le_tup (la_cons (le_lst (la_cons le_str (la_cons le_str la_nil))) (la_cons le_int la_nil))) la_nil) la_nil) (le_makeS (cls_ok (e.c.fm 35 rfl)) (fun _ _ _ => .nil) (la_cons (le_tup (la_cons (le_lst (la_cons le_str la_nil)) (la_cons le_int la_nil))) la_nil) la_nil)) (le_op2 lo_eqR (le_makeS (cls_ok (e.c.fm 35 rfl)) (fun _ _ _ => .nil) la_nil la_nil) (le_cm (la_cons (le_lst la_nil) la_nil)))))) (fun cdv A outer s H E hco hgd hr tk => pss_cons (ps_set (i := 1) sc_law.nd rfl (by first | exact Or.inl rfl | exact Or.inr rfl) (pe_fk (fk__law_pen e) (hr.mono (by omega)) (px tk) rfl (gl e 77 rfl) (pa_cons (pv 0) pa_nil)))
  (pss_cons (ps_for (passes_of rfl) rfl (pi_range1 rfl (fr e 31 rfl) (pa_cons (pe_op op_addU pe_int (pe_callB (call_min2 rfl) rfl (fr e 30 rfl) boot_min (pa_cons pe_int (pa_cons (pe_callB call_len rfl (fr e 8 rfl) boot_len (pa_cons (pv 0) pa_nil)) pa_nil)))) pa_nil)) (pg_name (i := 2) sc_law.nd rfl (by first | exact Or.inl rfl | exact Or.inr rfl)) (pss_cons (ps_set (i := 3) sc_law.nd rfl (by first | exact Or.inl rfl | exact Or.inr rfl) (pe_fk (fk__law_few e) (hr.mono (by omega)) (px tk) rfl (gl e 76 rfl) (pa_cons (pv 1) pa_nil)))
  (pss_cons (ps_set (i := 4) sc_law.nd rfl (by first | exact Or.inl rfl | exact Or.inr rfl) (pe_fk (fk__law_lblocks e) (hr.mono (by omega)) (px tk) rfl (gl e 73 rfl) (pa_cons (pv 1) (pa_cons (pv 3) (pa_cons pe_int (pa_cons (pe_lst (pa_cons pe_int (pa_cons pe_int (pa_cons pe_int (pa_cons pe_int (pa_cons (pe_op op_pow pe_int pe_int) (pa_cons (pe_op op_addU pe_int (pe_fk (fk__law_great e) (hr.mono (by omega)) (px tk) rfl (gl e 56 rfl) (pa_cons (pv 1) (pa_cons pe_int pa_nil)))) (pa_cons (pe_op op_pow pe_int pe_int) pa_nil)))))))) pa_nil))))))
  (pss_cons (ps_par (i := 5) (j := 6) rfl sc_law.nd rfl rfl (by decide) rfl rfl (pa_cons (pe_fk (fk__law_lmade e) (hr.mono (by omega)) (px tk) rfl (gl e 62 rfl) (pa_cons (pv 4) pa_nil)) (pa_cons (pe_fk (fk__law_row e) (hr.mono (by omega)) (px tk) rfl (gl e 69 rfl) (pa_cons (pv 1) (pa_cons (pv 3) (pa_cons pe_int (pa_cons pe_int pa_nil))))) pa_nil)) rfl)
  (pss_cons (ps_if (PW.pt (pw_or (pt_not (pt_truth (pe_fkG hgd (fk__law_cut_right e) (hr.mono (by omega)) (px tk) rfl (gl e 75 rfl) (pa_cons (pv 1) (pa_cons (pv 4) (pa_cons (pv 5) pa_nil)))) (fun _ => rfl))) (pw_or1 (pt_not (pt_truth (pe_fkG hgd (fk__law_cut_right e) (hr.mono (by omega)) (px tk) rfl (gl e 75 rfl) (pa_cons (pv 1) (pa_cons (pv 4) (pa_cons (pv 5) pa_nil)))) (fun _ => rfl)))))) (pss_one (ps_ret pe_bl)) pss_nil)
  (pss_cons (ps_if (PW.pt (pw_and (pt_cmpR (op_neU hr.units) (pv 4) (pe_lst pa_nil) (nomark _)) (pw_and1 (pt_not (pt_truth (pe_fkG hgd (fk__law_exchanged_right e) (hr.mono (by omega)) (px tk) rfl (gl e 74 rfl) (pa_cons (pv 1) (pa_cons (pv 4) (pa_cons (pv 5) (pa_cons (pv 6) pa_nil))))) (fun _ => rfl)))))) (pss_one (ps_ret pe_bl)) pss_nil)
  (pss_cons (ps_set (i := 7) sc_law.nd rfl (by first | exact Or.inl rfl | exact Or.inr rfl) (pe_fk (fk__law_lblocks e) (hr.mono (by omega)) (px tk) rfl (gl e 73 rfl) (pa_cons (pv 1) (pa_cons (pv 3) (pa_cons pe_int (pa_cons (pe_lst (pa_cons pe_int (pa_cons pe_int (pa_cons pe_int (pa_cons (pe_op op_pow pe_int pe_int) pa_nil))))) pa_nil))))))
  (pss_cons (ps_set (i := 8) sc_law.nd rfl (by first | exact Or.inl rfl | exact Or.inr rfl) (pe_fk (fk__law_lmade e) (hr.mono (by omega)) (px tk) rfl (gl e 62 rfl) (pa_cons (pv 7) pa_nil)))
  (pss_cons (ps_if (pt_cmpR (op_neU hr.units) (pe_callB (call_repr hgd hr.units) rfl (fr e 61 rfl) boot_repr (pa_cons (pe_methU ((tk_difference e).mt (hr.mono (by omega)) (px tk)) (pv 5) (pa_cons (pv 8) pa_nil)) pa_nil)) (pe_callB (call_repr hgd hr.units) rfl (fr e 61 rfl) boot_repr (pa_cons (pe_fk (fk__law_apart e) (hr.mono (by omega)) (px tk) rfl (gl e 64 rfl) (pa_cons (pv 4) (pa_cons (pv 7) pa_nil))) pa_nil)) (nomark _)) (pss_one (ps_ret pe_bl)) pss_nil)
  (pss_cons (ps_set (i := 9) sc_law.nd rfl (by first | exact Or.inl rfl | exact Or.inr rfl) (pe_bin rfl hr.hd (to_add e) (hr.mono (by omega)) (pv 5) (pv 8)))
  (pss_cons (ps_if (PW.pt (pw_or (pt_not (pt_cmpR (op_eqQ (tqq e) (hr.mono (by omega))) (pv 9) (pe_fk (fk__law_lmade e) (hr.mono (by omega)) (px tk) rfl (gl e 62 rfl) (pa_cons (pe_op op_addU (pv 4) (pv 7)) pa_nil)) (nomark _))) (pw_or1 (pt_cmpR (op_neU hr.units) (pe_propU (((pk_length e) : TabP _ _ _ _ _ 2 _ _).pt (hr.mono (by omega))) (pv 9)) (pe_op op_addU (pe_propU (((pk_length e) : TabP _ _ _ _ _ 2 _ _).pt (hr.mono (by omega))) (pv 5)) (pe_propU (((pk_length e) : TabP _ _ _ _ _ 2 _ _).pt (hr.mono (by omega))) (pv 8))) (nomark _))))) (pss_one (ps_ret pe_bl)) pss_nil)
  (pss_one (ps_if (PW.pt (pw_or (pt_cmpR (op_eqQ (tqq e) (hr.mono (by omega))) (pv 5) (pe_propU (((pk_blocks e) : TabP _ _ _ _ _ 2 _ _).pt (hr.mono (by omega))) (pv 5)) (nomark _)) (pw_or (pt_cmpR (op_eqQ (tqq e) (hr.mono (by omega))) (pv 5) pe_str (nomark _)) (pw_or1 (pt_cmpR (op_eqQ (tqq e) (hr.mono (by omega))) (pv 5) (pe_propU (((pk_length e) : TabP _ _ _ _ _ 2 _ _).pt (hr.mono (by omega))) (pv 5)) (nomark _)))))) (pss_one (ps_ret pe_bl)) pss_nil)))))))))))))
  (pss_one (ps_ret (pe_andT (pe_cmpR (op_eqQ (tqq e) (hr.mono (by omega))) (pe_mkS (x := "LongText") (fm_ini (e.c.fm 53 rfl)) (fs_LongText_1_0 e) (hr.mono (by omega)) (px tk) rfl (gl e 32 rfl) (pa_cons (pe_tup (pa_cons (pe_lst (pa_cons pe_str (pa_cons pe_str pa_nil))) (pa_cons pe_int pa_nil))) pa_nil)) (pe_mkS (x := "LongText") (fm_ini (e.c.fm 53 rfl)) (fs_LongText_1_0 e) (hr.mono (by omega)) (px tk) rfl (gl e 32 rfl) (pa_cons (pe_tup (pa_cons (pe_lst (pa_cons pe_str pa_nil)) (pa_cons pe_int pa_nil))) pa_nil)) (nomark _)) (pe_one (pe_cmpR (op_eqR (tr_LongText_FreeLongText e) (hr.mono (by omega))) (pe_mkS0 (x := "LongText") (fm_ini (e.c.fm 53 rfl)) (fs_LongText_0_0 e) (hr.mono (by omega)) (px tk) rfl (gl e 32 rfl)) (pe_cm rfl (gl e 32 rfl) (fy_cm (e.c.fact 72 rfl)) (fk_cm_of e) (hr.mono (by omega)) (px tk) (pa_cons (pe_lst pa_nil) pa_nil)) (nomark _)))))))) hw
theorem gl_law (c : SaysY file fa fn K) (x : ∃ h : Heap, K.In h ∧ h.Ns mainGlobals mg) : mg "law" = some (.ref (ga K "law")) := by
  obtain ⟨hp, a, b⟩ := x
  exact glo_ok a b (c.fm 78 rfl)
end
end Lw
namespace Lw
open PySem L2 Ly
abbrev Bk := List Str × Nat
def szB (b : Bk) : Nat := b.1.length * b.2
def szs : List Bk → Nat
  | [] => 0
  | b :: r => szB b + szs r
def at0 : List Bk → Nat → Option Str
  | [], _ => none
  | b :: r, n => if n < szB b then b.1[n % b.1.length]? else at0 r (n - szB b)
def Vb (b : Bk) : Prop := 1 ≤ b.1.length ∧ 1 ≤ b.2
def Vbs (bs : List Bk) : Prop := ∀ b ∈ bs, Vb b
theorem Vb.sz {b : Bk} (h : Vb b) : 1 ≤ szB b := Nat.le_trans (by omega) (Nat.mul_le_mul h.1 h.2)
theorem at0_lt : ∀ {bs : List Bk} {n : Nat}, Vbs bs → n < szs bs → ∃ r, at0 bs n = some r
  | [], n, _, h => absurd h (Nat.not_lt_zero _)
  | b :: r, n, v, h => by
    unfold at0
    split
    · have hb := v b (List.mem_cons_self ..)
      have : n % b.1.length < b.1.length := Nat.mod_lt _ hb.1
      exact ⟨_, List.getElem?_eq_getElem this⟩
    · rename_i hn
      exact at0_lt (fun c hc => v c (List.mem_cons_of_mem _ hc)) (by unfold szs at h; omega)
theorem at0_ge : ∀ {bs : List Bk} {n : Nat}, szs bs ≤ n → at0 bs n = none
  | [], _, _ => rfl
  | b :: r, n, h => by
    unfold szs at h
    unfold at0
    rw [if_neg (by omega)]
    exact at0_ge (by omega)
theorem szs_app : ∀ (a b : List Bk), szs (a ++ b) = szs a + szs b
  | [], b => by simp [szs]
  | x :: r, b => by simp only [List.cons_append, szs, szs_app r b]; omega
theorem at0_app : ∀ (a b : List Bk) (n : Nat), at0 (a ++ b) n = if n < szs a then at0 a n else at0 b (n - szs a)
  | [], b, n => by simp [szs]
  | x :: r, b, n => by
    have e : szs (x :: r) = szB x + szs r := rfl
    by_cases h : n < szB x
    · rw [if_pos (show n < szs (x :: r) by omega)]
      simp only [List.cons_append, at0]
      rw [if_pos h, if_pos h]
    · by_cases h2 : n - szB x < szs r
      · rw [if_pos (show n < szs (x :: r) by omega)]
        simp only [List.cons_append, at0]
        rw [if_neg h, if_neg h, at0_app r b, if_pos h2]
      · rw [if_neg (show ¬ n < szs (x :: r) by omega)]
        simp only [List.cons_append, at0]
        rw [if_neg h, at0_app r b, if_neg h2, e, Nat.sub_sub]
def Sm (a b : List Bk) : Prop := ∀ n, at0 a n = at0 b n
theorem Sm.refl (a : List Bk) : Sm a a := fun _ => rfl
theorem Sm.symm {a b : List Bk} (h : Sm a b) : Sm b a := fun n => (h n).symm
theorem Sm.trans {a b c : List Bk} (h : Sm a b) (g : Sm b c) : Sm a c := fun n => (h n).trans (g n)
theorem Sm.size {a b : List Bk} (h : Sm a b) (va : Vbs a) (vb : Vbs b) : szs a = szs b := by
  rcases Nat.lt_trichotomy (szs a) (szs b) with z | z | z
  · obtain ⟨r, e⟩ := at0_lt vb z
    rw [← h, at0_ge (Nat.le_refl _)] at e; cases e
  · exact z
  · obtain ⟨r, e⟩ := at0_lt va z
    rw [h, at0_ge (Nat.le_refl _)] at e; cases e
theorem Sm.app {a b c d : List Bk} (h : Sm a b) (g : Sm c d) (e : szs a = szs b) : Sm (a ++ c) (b ++ d) := fun n => by
  rw [at0_app, at0_app, e, h n, g]
def LD (a b : List Bk) : Option Nat → Prop
  | none => Sm a b
  | some k => 1 ≤ k ∧ at0 a (k - 1) ≠ at0 b (k - 1) ∧ ∀ n, n < k - 1 → at0 a n = at0 b n
theorem LD.symm {a b : List Bk} : ∀ {d : Option Nat}, LD a b d → LD b a d
  | none, h => Sm.symm h
  | some k, ⟨h1, h2, h3⟩ => ⟨h1, fun z => h2 z.symm, fun n hn => (h3 n hn).symm⟩
theorem LD.uniq {a b : List Bk} : ∀ {d e : Option Nat}, LD a b d → LD a b e → d = e
  | none, none, _, _ => rfl
  | none, some k, h, ⟨_, g, _⟩ => absurd (h _) g
  | some k, none, ⟨_, g, _⟩, h => absurd (h _) g
  | some j, some k, ⟨h1, h2, h3⟩, ⟨g1, g2, g3⟩ => by
    have : ¬ j < k := fun z => h2 (g3 _ (by omega))
    have : ¬ k < j := fun z => g2 (h3 _ (by omega))
    congr 1; omega
theorem two_periods {α : Type} {u v : Nat → α} {p q L : Nat} (hp : 1 ≤ p) (hq : 1 ≤ q) (hu : ∀ i, u (i + p) = u i) (hv : ∀ i, v (i + q) = v i) (h : ∀ i, i < L → i < p + q → u i = v i) : ∀ i, i < L → u i = v i := fun i => by
  induction i using Nat.strongRecOn with
  | _ i ih =>
    intro hi
    by_cases hs : i < p + q
    · exact h i hi hs
    · have e1 : u i = u (i - p) := by rw [← hu (i - p)]; congr 1; omega
      have e2 := ih (i - p) (by omega) (by omega)
      have e3 : v (i - p) = v (i - p - q) := by rw [← hv (i - p - q)]; congr 1; omega
      have e4 := ih (i - p - q) (by omega) (by omega)
      have e5 : u (i - q) = u (i - p - q) := by rw [← hu (i - p - q)]; congr 1; omega
      have e6 := ih (i - q) (by omega) (by omega)
      have e7 : v i = v (i - q) := by rw [← hv (i - q)]; congr 1; omega
      rw [e1, e2, e3, ← e4, ← e5, e6, ← e7]
theorem two_blocks {m y : List Str} {b f L : Nat} (hm : 1 ≤ m.length) (hy : 1 ≤ y.length) (h : ∀ i, i < L → i < m.length + y.length → m[(b + i) % m.length]? = y[(f + i) % y.length]?) : ∀ i, i < L → m[(b + i) % m.length]? = y[(f + i) % y.length]? :=
  two_periods (u := fun i => m[(b + i) % m.length]?) (v := fun i => y[(f + i) % y.length]?) hm hy (fun i => by show m[(b + (i + m.length)) % m.length]? = _; rw [← Nat.add_assoc, Nat.add_mod_right]) (fun i => by show y[(f + (i + y.length)) % y.length]? = _; rw [← Nat.add_assoc, Nat.add_mod_right]) h
theorem at0_drop {bs : List Bk} {k : Nat} {b : Bk} (h : bs[k]? = some b) (n : Nat) : at0 (bs.drop k) n = if n < szB b then b.1[n % b.1.length]? else at0 (bs.drop (k + 1)) (n - szB b) := by
  have e : bs.drop k = b :: bs.drop (k + 1) := by
    obtain ⟨hl, e⟩ := List.getElem?_eq_some_iff.mp h
    rw [← e]; exact List.drop_eq_getElem_cons hl
  rw [e]; rfl
structure Gs where
  place : Nat
  first : Nat
  second : Nat
  begin_ : Nat
  further : Nat
structure GI (a b : List Bk) (g : Gs) : Prop where
  h1 : ∀ n, at0 a (g.place + n) = at0 (a.drop g.first) (g.begin_ + n)
  h2 : ∀ n, at0 b (g.place + n) = at0 (b.drop g.second) (g.further + n)
  h3 : ∀ n, n < g.place → at0 a n = at0 b n
  l1 : g.first ≤ a.length
  l2 : g.second ≤ b.length
  b1 : ∀ x, a[g.first]? = some x → g.begin_ < szB x
  b2 : ∀ x, b[g.second]? = some x → g.further < szB x
  z1 : g.first = a.length → g.begin_ = 0
  z2 : g.second = b.length → g.further = 0
theorem GI.start {a b : List Bk} (va : Vbs a) (vb : Vbs b) : GI a b ⟨0, 0, 0, 0, 0⟩ where
  h1 := fun n => by simp
  h2 := fun n => by simp
  h3 := fun n h => absurd h (Nat.not_lt_zero _)
  l1 := Nat.zero_le _
  l2 := Nat.zero_le _
  b1 := fun x h => (va x (List.mem_of_getElem? h)).sz
  b2 := fun x h => (vb x (List.mem_of_getElem? h)).sz
  z1 := fun _ => rfl
  z2 := fun _ => rfl
def stepL (x y : Bk) (g : Gs) : Nat := min (szB x - g.begin_) (szB y - g.further)
def stepG (x y : Bk) (g : Gs) : Gs :=
  let l := stepL x y g
  ⟨g.place + l, if g.begin_ + l = szB x then g.first + 1 else g.first, if g.further + l = szB y then g.second + 1 else g.second, if g.begin_ + l = szB x then 0 else g.begin_ + l, if g.further + l = szB y then 0 else g.further + l⟩
section
variable {a b : List Bk} {g : Gs} {x y : Bk}
theorem GI.rowA (h : GI a b g) (e : a[g.first]? = some x) {i : Nat} (hi : i < stepL x y g) : at0 a (g.place + i) = x.1[(g.begin_ + i) % x.1.length]? := by
  rw [h.h1, at0_drop e, if_pos]
  have := h.b1 x e
  unfold stepL at hi
  omega
theorem GI.rowB (h : GI a b g) (e : b[g.second]? = some y) {i : Nat} (hi : i < stepL x y g) : at0 b (g.place + i) = y.1[(g.further + i) % y.1.length]? := by
  rw [h.h2, at0_drop e, if_pos]
  have := h.b2 y e
  unfold stepL at hi
  omega
theorem GI.found (h : GI a b g) (e1 : a[g.first]? = some x) (e2 : b[g.second]? = some y) {i : Nat} (hi : i < stepL x y g) (hb : ∀ j, j < i → x.1[(g.begin_ + j) % x.1.length]? = y.1[(g.further + j) % y.1.length]?) (hn : x.1[(g.begin_ + i) % x.1.length]? ≠ y.1[(g.further + i) % y.1.length]?) : LD a b (some (g.place + i + 1)) := by
  refine ⟨by omega, ?_, fun n hn2 => ?_⟩
  · rw [Nat.add_sub_cancel, h.rowA e1 hi, h.rowB e2 hi]; exact hn
  · rw [Nat.add_sub_cancel] at hn2
    by_cases z : n < g.place
    · exact h.h3 n z
    · obtain ⟨j, rfl⟩ : ∃ j, n = g.place + j := ⟨n - g.place, by omega⟩
      rw [h.rowA e1 (i := j) (y := y) (by omega), h.rowB e2 (i := j) (x := x) (by omega)]
      exact hb j (by omega)
theorem GI.next (h : GI a b g) (va : Vbs a) (vb : Vbs b) (e1 : a[g.first]? = some x) (e2 : b[g.second]? = some y) (hs : ∀ i, i < stepL x y g → i < x.1.length + y.1.length → x.1[(g.begin_ + i) % x.1.length]? = y.1[(g.further + i) % y.1.length]?) : GI a b (stepG x y g) := by
  have vx := va x (List.mem_of_getElem? e1)
  have vy := vb y (List.mem_of_getElem? e2)
  have hb1 := h.b1 x e1
  have hb2 := h.b2 y e2
  have hl1 : stepL x y g ≤ szB x - g.begin_ := Nat.min_le_left ..
  have hl2 : stepL x y g ≤ szB y - g.further := Nat.min_le_right ..
  have all := two_blocks vx.1 vy.1 hs
  have la := (List.getElem?_eq_some_iff.mp e1).1
  have lb := (List.getElem?_eq_some_iff.mp e2).1
  have nA : ∀ n, at0 a (g.place + stepL x y g + n) = at0 (a.drop (stepG x y g).first) ((stepG x y g).begin_ + n) := fun n => by
    rw [Nat.add_assoc, h.h1]
    show _ = at0 (a.drop (if g.begin_ + stepL x y g = szB x then g.first + 1 else g.first)) ((if g.begin_ + stepL x y g = szB x then 0 else g.begin_ + stepL x y g) + n)
    split
    · rename_i z
      rw [at0_drop e1, if_neg (by omega)]
      congr 1; omega
    · rw [Nat.add_assoc]
  have nB : ∀ n, at0 b (g.place + stepL x y g + n) = at0 (b.drop (stepG x y g).second) ((stepG x y g).further + n) := fun n => by
    rw [Nat.add_assoc, h.h2]
    show _ = at0 (b.drop (if g.further + stepL x y g = szB y then g.second + 1 else g.second)) ((if g.further + stepL x y g = szB y then 0 else g.further + stepL x y g) + n)
    split
    · rename_i z
      rw [at0_drop e2, if_neg (by omega)]
      congr 1; omega
    · rw [Nat.add_assoc]
  refine ⟨nA, nB, fun n hn => ?_, ?_, ?_, fun z hz => ?_, fun z hz => ?_, fun hz => ?_, fun hz => ?_⟩
  · have hn : n < g.place + stepL x y g := hn
    by_cases z : n < g.place
    · exact h.h3 n z
    · obtain ⟨j, rfl⟩ : ∃ j, n = g.place + j := ⟨n - g.place, by omega⟩
      rw [h.rowA e1 (i := j) (y := y) (by omega), h.rowB e2 (i := j) (x := x) (by omega)]
      exact all j (by omega)
  · show (if g.begin_ + stepL x y g = szB x then g.first + 1 else g.first) ≤ _
    split <;> omega
  · show (if g.further + stepL x y g = szB y then g.second + 1 else g.second) ≤ _
    split <;> omega
  · have hz : a[if g.begin_ + stepL x y g = szB x then g.first + 1 else g.first]? = some z := hz
    show (if g.begin_ + stepL x y g = szB x then 0 else g.begin_ + stepL x y g) < _
    split
    · rename_i q; exact (va z (List.mem_of_getElem? hz)).sz
    · rename_i q; rw [if_neg q, e1] at hz; cases hz; omega
  · have hz : b[if g.further + stepL x y g = szB y then g.second + 1 else g.second]? = some z := hz
    show (if g.further + stepL x y g = szB y then 0 else g.further + stepL x y g) < _
    split
    · rename_i q; exact (vb z (List.mem_of_getElem? hz)).sz
    · rename_i q; rw [if_neg q, e2] at hz; cases hz; omega
  · have hz : (if g.begin_ + stepL x y g = szB x then g.first + 1 else g.first) = a.length := hz
    show (if g.begin_ + stepL x y g = szB x then 0 else g.begin_ + stepL x y g) = 0
    split
    · rfl
    · rename_i q; rw [if_neg q] at hz; omega
  · have hz : (if g.further + stepL x y g = szB y then g.second + 1 else g.second) = b.length := hz
    show (if g.further + stepL x y g = szB y then 0 else g.further + stepL x y g) = 0
    split
    · rfl
    · rename_i q; rw [if_neg q] at hz; omega
theorem step_less (hb1 : g.begin_ < szB x) (hb2 : g.further < szB y) : g.first + g.second < (stepG x y g).first + (stepG x y g).second := by
  have : g.begin_ + stepL x y g = szB x ∨ g.further + stepL x y g = szB y := by unfold stepL; omega
  show _ < (if g.begin_ + stepL x y g = szB x then g.first + 1 else g.first) + (if g.further + stepL x y g = szB y then g.second + 1 else g.second)
  rcases this with z | z
  · rw [if_pos z]; split <;> omega
  · rw [if_pos z]; split <;> omega
theorem GI.ended (h : GI a b g) (va : Vbs a) (vb : Vbs b) (e : g.first = a.length ∨ g.second = b.length) : LD a b (if g.first < a.length ∨ g.second < b.length then some (g.place + 1) else none) := by
  have eA : g.first = a.length → ∀ n, at0 a (g.place + n) = none := fun z n => by rw [h.h1, z, List.drop_length]; rfl
  have eB : g.second = b.length → ∀ n, at0 b (g.place + n) = none := fun z n => by rw [h.h2, z, List.drop_length]; rfl
  have nA : g.first < a.length → at0 a g.place ≠ none := fun z => by
    have e1 := List.getElem?_eq_getElem z
    have := h.h1 0
    rw [Nat.add_zero, Nat.add_zero, at0_drop e1, if_pos (h.b1 _ e1)] at this
    rw [this]
    have v := va _ (List.mem_of_getElem? e1)
    rw [List.getElem?_eq_getElem (Nat.mod_lt _ v.1)]
    exact fun z => by cases z
  have nB : g.second < b.length → at0 b g.place ≠ none := fun z => by
    have e1 := List.getElem?_eq_getElem z
    have := h.h2 0
    rw [Nat.add_zero, Nat.add_zero, at0_drop e1, if_pos (h.b2 _ e1)] at this
    rw [this]
    have v := vb _ (List.mem_of_getElem? e1)
    rw [List.getElem?_eq_getElem (Nat.mod_lt _ v.1)]
    exact fun z => by cases z
  split
  · rename_i q
    refine ⟨by omega, ?_, fun n hn => h.h3 n (by omega)⟩
    rw [Nat.add_sub_cancel]
    by_cases z : g.first < a.length
    · have z2 : g.second = b.length := e.resolve_left (by omega)
      have := eB z2 0
      rw [Nat.add_zero] at this
      rw [this]; exact nA z
    · have z1 : g.first = a.length := by have := h.l1; omega
      have := eA z1 0
      rw [Nat.add_zero] at this
      rw [this]; exact fun w => nB (by omega) w.symm
  · rename_i q
    intro n
    by_cases z : n < g.place
    · exact h.h3 n z
    · obtain ⟨j, rfl⟩ : ∃ j, n = g.place + j := ⟨n - g.place, by omega⟩
      have := h.l1
      have := h.l2
      rw [eA (by omega), eB (by omega)]
end
end Lw
namespace Lw
open PySem L2 Ly
open Lx (inS cutL Ky IsTb)
def blkT (b : Bk) : D := .tup [.tup (b.1.map .str), .int (b.2 : Nat)]
def blkL (b : Bk) : D := .tup [.lst (b.1.map .str), .int (b.2 : Nat)]
def tD (bs : List Bk) : D := .tup (bs.map blkT)
def lD (bs : List Bk) : D := .lst (bs.map blkL)
def optD : Option Nat → D
  | none => .non
  | some k => .int (k : Nat)
def Sh (bs : List Bk) : Prop := bs.length ≤ 1000 ∧ ∀ b ∈ bs, b.1.length ≤ 1000
theorem atI_nat' {α : Type} {xs : List α} {k : Nat} {d : α} (h : xs[k]? = some d) : atI xs (k : Int) = some d := by
  have hl := (List.getElem?_eq_some_iff.mp h).1
  obtain ⟨v, h1, h2⟩ := Lx.atI_in (xs := xs) (i := (k : Int)) (by omega) (by omega)
  rw [Int.toNat_natCast, h] at h2
  cases h2
  exact h1
theorem atI_map {α β : Type} (f : α → β) {xs : List α} {n : Nat} {x : α} (h : xs[n]? = some x) : atI (xs.map f) (n : Int) = some (f x) := atI_nat' (by rw [List.getElem?_map, h]; rfl)
section
variable {δ : List Sl}
theorem Rt.forN {dg : D → List Sl → W (List Sl)} {gb : List Sl → W Out} : Rt (forD dg gb [] δ) (.nx δ) := Rt.ret
theorem Rt.forC {i : Nat} {d : D} {ds : List D} {gb : List Sl → W Out} {ε : List Sl} {o : Out} (h : Rt (gb (δ.set i (some d))) (.nx ε)) (g : Rt (forD (dName i) gb ds ε) o) : Rt (forD (dName i) gb (d :: ds) δ) o := Rt.bind Rt.ret (Rt.bind h g)
theorem Rt.forR {i : Nat} {d e : D} {ds : List D} {gb : List Sl → W Out} (h : Rt (gb (δ.set i (some d))) (.rt e)) : Rt (forD (dName i) gb (d :: ds) δ) (.rt e) := Rt.bind Rt.ret (Rt.bind h Rt.ret)
theorem Rt.par3 {fl : List Sl → W (List D)} {i j k : Nat} {x y z : D} (hf : Rt (fl δ) [x, y, z]) : Rt (dPar3 i j k fl δ) (.nx (((δ.set i (some x)).set j (some y)).set k (some z))) := Rt.bind hf Rt.ret
theorem Rt.whF {ft : List Sl → W Bool} {gb : List Sl → W Out} {m : Nat} (h : Rt (ft δ) false) : Rt (whileD ft gb (m + 1) δ) (.nx δ) := Rt.bind h Rt.ret
theorem Rt.whT {ft : List Sl → W Bool} {gb : List Sl → W Out} {m : Nat} {ε : List Sl} {o : Out} (h : Rt (ft δ) true) (hb : Rt (gb δ) (.nx ε)) (g : Rt (whileD ft gb m ε) o) : Rt (whileD ft gb (m + 1) δ) o := Rt.bind h (Rt.bind hb g)
theorem Rt.whR {ft : List Sl → W Bool} {gb : List Sl → W Out} {m : Nat} {d : D} (h : Rt (ft δ) true) (hb : Rt (gb δ) (.rt d)) : Rt (whileD ft gb (m + 1) δ) (.rt d) := Rt.bind h (Rt.bind hb Rt.ret)
theorem Rt.wh {ft : List Sl → W Bool} {gb : List Sl → W Out} {o : Out} {f : Nat} (h : Rt (whileD ft gb f δ) o) : Rt (dWhile ft gb δ) o := fun s Q E q => ⟨f, h s Q E q⟩
theorem Rt.and {t u : List Sl → W Bool} {x y : Bool} (ha : Rt (t δ) x) (hb : x = true → Rt (u δ) y) : Rt (dAnd t u δ) (x && y) := by
  cases x with
  | true => exact (Rt.andT ha (hb rfl)).cast (by simp)
  | false => exact (Rt.andF ha).cast (by simp)
theorem Rt.or {t u : List Sl → W Bool} {x y : Bool} (ha : Rt (t δ) x) (hb : x = false → Rt (u δ) y) : Rt (dOr t u δ) (x || y) := by
  cases x with
  | true => exact (Rt.orT ha).cast (by simp)
  | false => exact (Rt.orF ha (hb rfl)).cast (by simp)
end
@[reducible] def fdT : List Sl → W Bool := (dAnd (dTest (dOp2 ltD (dVar 3) (dOpn lenD (dCons (dVar 0) dNil)))) (dTest (dOp2 ltD (dVar 4) (dOpn lenD (dCons (dVar 1) dNil)))))
@[reducible] def fdF : List Sl → W Out := (dIf (dTest (dOp2 neD (dOp2 ixD (dVar 7) (dOp2 modD (dOp2 addD (dVar 5) (dVar 10)) (dOpn lenD (dCons (dVar 7) dNil)))) (dOp2 ixD (dVar 8) (dOp2 modD (dOp2 addD (dVar 6) (dVar 10)) (dOpn lenD (dCons (dVar 8) dNil)))))) (dRet (dOp2 addD (dOp2 addD (dVar 2) (dVar 10)) (dC (.int 1)))) dNext)
@[reducible] def fdL : List Sl → W D := (dOpn minD (dCons (dOp2 subD (dOp2 mulUD (dOpn lenD (dCons (dVar 7) dNil)) (dOp2 ixD (dOp2 ixD (dVar 0) (dVar 3)) (dC (.int 1)))) (dVar 5)) (dCons (dOp2 subD (dOp2 mulUD (dOpn lenD (dCons (dVar 8) dNil)) (dOp2 ixD (dOp2 ixD (dVar 1) (dVar 4)) (dC (.int 1)))) (dVar 6)) dNil)))
section
variable {δ : List Sl} {i : Nat} {gb : List Sl → W Out}
theorem range_nat (n : Nat) : rangeD 0 n = (List.range' 0 n).map fun k : Nat => D.int k := by
  rw [rangeD_eq, List.range_eq_range']
  refine List.map_congr_left fun k _ => ?_
  rw [Int.zero_add]
theorem scanN : ∀ (l m : Nat) (s : Sl), (∀ k : Nat, m ≤ k → k < m + l → Rt (gb (δ.set i (some (.int k)))) (.nx (δ.set i (some (.int k))))) → ∃ t, Rt (forD (dName i) gb ((List.range' m l).map fun k : Nat => D.int k) (δ.set i s)) (.nx (δ.set i t))
  | 0, m, s, _ => ⟨s, Rt.forN⟩
  | l + 1, m, s, h => by
    obtain ⟨t, ht⟩ := scanN l (m + 1) (some (.int m)) (fun k h1 h2 => h k (by omega) (by omega))
    refine ⟨t, ?_⟩
    rw [List.range'_succ, List.map_cons]
    exact Rt.forC (by rw [List.set_set]; exact h m (Nat.le_refl _) (by omega)) ht
theorem scanR {d : D} : ∀ (l m : Nat) (s : Sl) (k : Nat), m ≤ k → k < m + l → (∀ j : Nat, m ≤ j → j < k → Rt (gb (δ.set i (some (.int j)))) (.nx (δ.set i (some (.int j))))) → Rt (gb (δ.set i (some (.int k)))) (.rt d) → Rt (forD (dName i) gb ((List.range' m l).map fun k : Nat => D.int k) (δ.set i s)) (.rt d)
  | 0, m, s, k, h1, h2, _, _ => absurd h2 (by omega)
  | l + 1, m, s, k, h1, h2, h, hk => by
    rw [List.range'_succ, List.map_cons]
    by_cases e : m = k
    · subst e
      exact Rt.forR (by rw [List.set_set]; exact hk)
    · exact Rt.forC (by rw [List.set_set]; exact h m (Nat.le_refl _) (by omega)) (scanR l (m + 1) (some (.int m)) k (by omega) (by omega) (fun j h1 h2 => h j (by omega) h2) hk)
end
abbrev fδ (a b : List Bk) (g : Gs) (m y l k : Sl) : List Sl := [some (tD a), some (tD b), some (.int (g.place : Nat)), some (.int (g.first : Nat)), some (.int (g.second : Nat)), some (.int (g.begin_ : Nat)), some (.int (g.further : Nat)), m, y, l, k]
section
variable {a b : List Bk} {g : Gs} {m y l k : Sl} {x z : Bk}
theorem min_nat (i j : Nat) : (if (j : Int) < (i : Int) then (j : Int) else (i : Int)) = ((min i j : Nat) : Int) := by split <;> omega
theorem blk_r {i v : Nat} {δ : List Sl} (h0 : δ[v]? = some (some (tD a))) (h1 : δ[i]? = some (some (.int (g.first : Nat)))) (e : a[g.first]? = some x) : Rt (dOp2 ixD (dVar v) (dVar i) δ) (blkT x) :=
  Rt.op2 (Rt.var h0) (Rt.var h1) (Rt.ixT (atI_map blkT e))
theorem fst_r {f : List Sl → W D} {δ : List Sl} (h : Rt (f δ) (blkT x)) : Rt (dOp2 ixD f (dC (.int 0)) δ) (.tup (x.1.map .str)) := Rt.op2 h Rt.cC (Rt.ixT rfl)
theorem snd_r {f : List Sl → W D} {δ : List Sl} (h : Rt (f δ) (blkT x)) : Rt (dOp2 ixD f (dC (.int 1)) δ) (.int (x.2 : Nat)) := Rt.op2 h Rt.cC (Rt.ixT rfl)
theorem lenT_r {v : Nat} {δ : List Sl} (h : δ[v]? = some (some (.tup (x.1.map .str)))) : Rt (dOpn lenD (dCons (dVar v) dNil) δ) (.int (x.1.length : Nat)) := Rt.opn (Rt.cons (Rt.var h) Rt.nil) (Rt.ret.cast (by rw [List.length_map]))
theorem size_r {v : Nat} {δ : List Sl} {f : List Sl → W D} (h : δ[v]? = some (some (.tup (x.1.map .str)))) (hf : Rt (f δ) (blkT x)) (hx : x.1.length ≤ 1000) : Rt (dOp2 mulUD (dOpn lenD (dCons (dVar v) dNil)) (dOp2 ixD f (dC (.int 1))) δ) (.int (szB x : Nat)) :=
  Rt.op2 (lenT_r h) (snd_r hf) ((Rt.need (.inl ⟨by omega, by omega⟩) Rt.ret).cast (by unfold szB; rw [Int.natCast_mul]))
theorem left_r (ha : Sh a) (hb : Sh b) (hg : GI a b g) (e1 : a[g.first]? = some x) (e2 : b[g.second]? = some z) : Rt (fdL (fδ a b g (some (.tup (x.1.map .str))) (some (.tup (z.1.map .str))) l k)) (.int (stepL x z g : Nat)) := by
  have h1 := hg.b1 x e1
  have h2 := hg.b2 z e2
  refine Rt.opn (Rt.cons (Rt.op2 (size_r rfl (Rt.op2 (Rt.var rfl) (Rt.var rfl) (Rt.ixT (atI_map blkT e1))) (ha.2 x (List.mem_of_getElem? e1))) (Rt.var rfl) Rt.ret) (Rt.cons (Rt.op2 (size_r rfl (Rt.op2 (Rt.var rfl) (Rt.var rfl) (Rt.ixT (atI_map blkT e2))) (hb.2 z (List.mem_of_getElem? e2))) (Rt.var rfl) Rt.ret) Rt.nil)) (Rt.ret.cast ?_)
  unfold stepL
  rw [← Int.ofNat_sub (by omega), ← Int.ofNat_sub (by omega), min_nat]
theorem row_r {v w p : Nat} {δ : List Sl} {n i : Nat} (hx : 1 ≤ x.1.length) (h : δ[v]? = some (some (.tup (x.1.map .str)))) (h1 : δ[w]? = some (some (.int n))) (h2 : δ[p]? = some (some (.int i))) : Rt (dOp2 ixD (dVar v) (dOp2 modD (dOp2 addD (dVar w) (dVar p)) (dOpn lenD (dCons (dVar v) dNil))) δ) (.str ((x.1[(n + i) % x.1.length]?).getD "")) := by
  have hl : (n + i) % x.1.length < x.1.length := Nat.mod_lt _ hx
  refine Rt.op2 (Rt.var h) (Rt.op2 (Rt.op2 (Rt.var h1) (Rt.var h2) Rt.ret) (lenT_r h) (Rt.need (by omega) Rt.ret)) (Rt.ixT ?_)
  have e : ((n : Int) + (i : Int)) % (x.1.length : Int) = (((n + i) % x.1.length : Nat) : Int) := by rw [Int.natCast_emod, Int.natCast_add]
  rw [e, atI_map D.str (List.getElem?_eq_getElem hl), List.getElem?_eq_getElem hl]
  rfl
end
end Lw
namespace Lw
open PySem L2 Ly
open Lx (inS cutL Ky IsTb)
@[reducible] def fdB : List Sl → W Out := (dSeq (dPar 7 8 (dCons (dOp2 ixD (dOp2 ixD (dVar 0) (dVar 3)) (dC (.int 0))) (dCons (dOp2 ixD (dOp2 ixD (dVar 1) (dVar 4)) (dC (.int 0))) dNil)))
  (dSeq (dAsg (dOpn minD (dCons (dOp2 subD (dOp2 mulUD (dOpn lenD (dCons (dVar 7) dNil)) (dOp2 ixD (dOp2 ixD (dVar 0) (dVar 3)) (dC (.int 1)))) (dVar 5)) (dCons (dOp2 subD (dOp2 mulUD (dOpn lenD (dCons (dVar 8) dNil)) (dOp2 ixD (dOp2 ixD (dVar 1) (dVar 4)) (dC (.int 1)))) (dVar 6)) dNil))) (dName 9))
  (dSeq (dFor (dIR1 (dCons (dOpn minD (dCons (dVar 9) (dCons (dOp2 addD (dOpn lenD (dCons (dVar 7) dNil)) (dOpn lenD (dCons (dVar 8) dNil))) dNil))) dNil)) (dName 10) (dIf (dTest (dOp2 neD (dOp2 ixD (dVar 7) (dOp2 modD (dOp2 addD (dVar 5) (dVar 10)) (dOpn lenD (dCons (dVar 7) dNil)))) (dOp2 ixD (dVar 8) (dOp2 modD (dOp2 addD (dVar 6) (dVar 10)) (dOpn lenD (dCons (dVar 8) dNil)))))) (dRet (dOp2 addD (dOp2 addD (dVar 2) (dVar 10)) (dC (.int 1)))) dNext))
  (dSeq (dPar3 2 5 6 (dCons (dOp2 addD (dVar 2) (dVar 9)) (dCons (dOp2 addD (dVar 5) (dVar 9)) (dCons (dOp2 addD (dVar 6) (dVar 9)) dNil))))
  (dSeq (dIf (dTest (dOp2 eqD (dVar 5) (dOp2 mulUD (dOpn lenD (dCons (dVar 7) dNil)) (dOp2 ixD (dOp2 ixD (dVar 0) (dVar 3)) (dC (.int 1)))))) (dPar 3 5 (dCons (dOp2 addD (dVar 3) (dC (.int 1))) (dCons (dC (.int 0)) dNil))) dNext)
  (dIf (dTest (dOp2 eqD (dVar 6) (dOp2 mulUD (dOpn lenD (dCons (dVar 8) dNil)) (dOp2 ixD (dOp2 ixD (dVar 1) (dVar 4)) (dC (.int 1)))))) (dPar 4 6 (dCons (dOp2 addD (dVar 4) (dC (.int 1))) (dCons (dC (.int 0)) dNil))) dNext))))))
@[reducible] def fdR : List Sl → W (List D) := (dIR1 (dCons (dOpn minD (dCons (dVar 9) (dCons (dOp2 addD (dOpn lenD (dCons (dVar 7) dNil)) (dOpn lenD (dCons (dVar 8) dNil))) dNil))) dNil))
section
variable {a b : List Bk} {g : Gs} {m y l k : Sl} {x z : Bk}
def Req (x z : Bk) (g : Gs) (i : Nat) : Prop := x.1[(g.begin_ + i) % x.1.length]? = z.1[(g.further + i) % z.1.length]?
theorem getD_eq {r s : List Str} {i j : Nat} (hi : i < r.length) (hj : j < s.length) : ((r[i]?).getD "" = (s[j]?).getD "") ↔ r[i]? = s[j]? := by
  rw [List.getElem?_eq_getElem hi, List.getElem?_eq_getElem hj]
  simp
abbrev fμ (x : Bk) : Sl := some (.tup (x.1.map .str))
theorem one_ne {L : Nat} (vx : Vb x) (vz : Vb z) (i : Nat) : Rt (dTest (dOp2 neD (dOp2 ixD (dVar 7) (dOp2 modD (dOp2 addD (dVar 5) (dVar 10)) (dOpn lenD (dCons (dVar 7) dNil)))) (dOp2 ixD (dVar 8) (dOp2 modD (dOp2 addD (dVar 6) (dVar 10)) (dOpn lenD (dCons (dVar 8) dNil))))) (fδ a b g (fμ x) (fμ z) l (some (.int i)))) (!decide (((x.1[(g.begin_ + i) % x.1.length]?).getD "" : Str) = (z.1[(g.further + i) % z.1.length]?).getD "")) :=
  Rt.test (Rt.op2 (row_r vx.1 rfl rfl rfl) (row_r vz.1 rfl rfl rfl) Rt.ret)
theorem body_eq (vx : Vb x) (vz : Vb z) {i : Nat} (h : Req x z g i) : Rt (fdF (fδ a b g (fμ x) (fμ z) l (some (.int i)))) (.nx (fδ a b g (fμ x) (fμ z) l (some (.int i)))) := by
  refine Rt.ifF ((one_ne (L := 0) vx vz i).cast ?_) Rt.next
  rw [decide_eq_true ((getD_eq (Nat.mod_lt _ vx.1) (Nat.mod_lt _ vz.1)).mpr h)]; rfl
theorem body_ne (vx : Vb x) (vz : Vb z) {i : Nat} (h : ¬ Req x z g i) : Rt (fdF (fδ a b g (fμ x) (fμ z) l (some (.int i)))) (.rt (.int ((g.place + i + 1 : Nat) : Int))) := by
  refine Rt.ifT ((one_ne (L := 0) vx vz i).cast ?_) (Rt.rets (Rt.op2 (Rt.op2 (Rt.var rfl) (Rt.var rfl) Rt.ret) Rt.cC (Rt.ret.cast (by simp))))
  rw [decide_eq_false (fun q => h ((getD_eq (Nat.mod_lt _ vx.1) (Nat.mod_lt _ vz.1)).mp q))]; rfl
theorem range_r {n : Nat} (hx : x.1.length ≤ 1000) (hz : z.1.length ≤ 1000) : Rt (fdR (fδ a b g (fμ x) (fμ z) (some (.int n)) k)) ((List.range' 0 (min n (x.1.length + z.1.length))).map fun k : Nat => D.int k) := by
  rw [← range_nat]
  refine (rIR (k := ((min n (x.1.length + z.1.length) : Nat) : Int)) (Rt.cons (Rt.opn (Rt.cons (Rt.var rfl) (Rt.cons (Rt.op2 (lenT_r rfl) (lenT_r rfl) Rt.ret) Rt.nil)) (Rt.ret.cast ?_)) Rt.nil) (by omega) (by omega)).cast ?_
  · rw [← Int.natCast_add, min_nat]
  · rw [Int.toNat_natCast]
theorem rows_r (e1 : a[g.first]? = some x) (e2 : b[g.second]? = some z) : Rt (dPar 7 8 (dCons (dOp2 ixD (dOp2 ixD (dVar 0) (dVar 3)) (dC (.int 0))) (dCons (dOp2 ixD (dOp2 ixD (dVar 1) (dVar 4)) (dC (.int 0))) dNil)) (fδ a b g m y l k)) (.nx (fδ a b g (fμ x) (fμ z) l k)) :=
  Rt.par (Rt.cons (fst_r (blk_r rfl rfl e1)) (Rt.cons (fst_r (Rt.op2 (Rt.var rfl) (Rt.var rfl) (Rt.ixT (atI_map blkT e2)))) Rt.nil))
theorem turn_rt (ha : Sh a) (hb : Sh b) (va : Vbs a) (vb : Vbs b) (hg : GI a b g) (e1 : a[g.first]? = some x) (e2 : b[g.second]? = some z) {i : Nat} (h1 : i < stepL x z g) (h2 : i < x.1.length + z.1.length) (h3 : ∀ j, j < i → Req x z g j) (h4 : ¬ Req x z g i) :
    Rt (fdB (fδ a b g m y l k)) (.rt (.int ((g.place + i + 1 : Nat) : Int))) := by
  have mx := List.mem_of_getElem? e1
  have mz := List.mem_of_getElem? e2
  refine Rt.seq (rows_r e1 e2) (Rt.seq (Rt.asg (left_r ha hb hg e1 e2)) (Rt.seqR (Rt.bind (range_r (ha.2 x mx) (hb.2 z mz)) ?_)))
  exact scanR (δ := fδ a b g (fμ x) (fμ z) (some (.int (stepL x z g : Nat))) k) (i := 10) _ 0 k i (Nat.zero_le _) (by omega) (fun j _ hj => body_eq (va x mx) (vb z mz) (h3 j hj)) (body_ne (va x mx) (vb z mz) h4)
theorem turn_nx (ha : Sh a) (hb : Sh b) (va : Vbs a) (vb : Vbs b) (hg : GI a b g) (e1 : a[g.first]? = some x) (e2 : b[g.second]? = some z) (h : ∀ i, i < stepL x z g → i < x.1.length + z.1.length → Req x z g i) :
    ∃ l' k', Rt (fdB (fδ a b g m y l k)) (.nx (fδ a b (stepG x z g) (fμ x) (fμ z) l' k')) := by
  have mx := List.mem_of_getElem? e1
  have mz := List.mem_of_getElem? e2
  obtain ⟨t, ht⟩ := scanN (δ := fδ a b g (fμ x) (fμ z) (some (.int (stepL x z g : Nat))) k) (i := 10) (gb := fdF) (min (stepL x z g) (x.1.length + z.1.length)) 0 k (fun j _ hj => body_eq (va x mx) (vb z mz) (h j (by omega) (by omega)))
  refine ⟨some (.int (stepL x z g : Nat)), t, ?_⟩
  refine Rt.seq (rows_r e1 e2) (Rt.seq (Rt.asg (left_r ha hb hg e1 e2)) (Rt.seq (Rt.bind (range_r (ha.2 x mx) (hb.2 z mz)) ht) (Rt.seq (Rt.par3 (Rt.cons (Rt.op2 (Rt.var rfl) (Rt.var rfl) Rt.ret) (Rt.cons (Rt.op2 (Rt.var rfl) (Rt.var rfl) Rt.ret) (Rt.cons (Rt.op2 (Rt.var rfl) (Rt.var rfl) Rt.ret) Rt.nil)))) ?_)))
  have c1 : ∀ {δ : List Sl}, δ[5]? = some (some (.int ((g.begin_ : Int) + (stepL x z g : Int)))) → δ[7]? = some (fμ x) → δ[0]? = some (some (tD a)) → δ[3]? = some (some (.int (g.first : Nat))) → Rt (dTest (dOp2 eqD (dVar 5) (dOp2 mulUD (dOpn lenD (dCons (dVar 7) dNil)) (dOp2 ixD (dOp2 ixD (dVar 0) (dVar 3)) (dC (.int 1))))) δ) (decide (g.begin_ + stepL x z g = szB x)) := fun h5 h7 h0 h3 => by
    refine (Rt.test (Rt.op2 (Rt.var h5) (size_r h7 (blk_r h0 h3 e1) (ha.2 x mx)) Rt.ret)).cast ?_
    apply decide_eq_decide.mpr
    omega
  have c2 : ∀ {δ : List Sl}, δ[6]? = some (some (.int ((g.further : Int) + (stepL x z g : Int)))) → δ[8]? = some (fμ z) → δ[1]? = some (some (tD b)) → δ[4]? = some (some (.int (g.second : Nat))) → Rt (dTest (dOp2 eqD (dVar 6) (dOp2 mulUD (dOpn lenD (dCons (dVar 8) dNil)) (dOp2 ixD (dOp2 ixD (dVar 1) (dVar 4)) (dC (.int 1))))) δ) (decide (g.further + stepL x z g = szB z)) := fun h5 h7 h0 h3 => by
    refine (Rt.test (Rt.op2 (Rt.var h5) (size_r h7 (Rt.op2 (Rt.var h0) (Rt.var h3) (Rt.ixT (atI_map blkT e2))) (hb.2 z mz)) Rt.ret)).cast ?_
    apply decide_eq_decide.mpr
    omega
  by_cases q1 : g.begin_ + stepL x z g = szB x
  · have d1 := decide_eq_true q1
    by_cases q2 : g.further + stepL x z g = szB z
    · have d2 := decide_eq_true q2
      refine (Rt.seq (Rt.ifT ((c1 rfl rfl rfl rfl).cast d1) (Rt.par (Rt.cons (Rt.op2 (Rt.var rfl) Rt.cC Rt.ret) (Rt.cons Rt.cC Rt.nil)))) (Rt.ifT ((c2 rfl rfl rfl rfl).cast d2) (Rt.par (Rt.cons (Rt.op2 (Rt.var rfl) Rt.cC Rt.ret) (Rt.cons Rt.cC Rt.nil))))).cast ?_
      unfold stepG
      simp only [q1, q2, if_true]
      rfl
    · have d2 := decide_eq_false q2
      refine (Rt.seq (Rt.ifT ((c1 rfl rfl rfl rfl).cast d1) (Rt.par (Rt.cons (Rt.op2 (Rt.var rfl) Rt.cC Rt.ret) (Rt.cons Rt.cC Rt.nil)))) (Rt.ifF ((c2 rfl rfl rfl rfl).cast d2) Rt.next)).cast ?_
      unfold stepG
      simp only [q1, q2, if_true, if_false]
      rfl
  · have d1 := decide_eq_false q1
    by_cases q2 : g.further + stepL x z g = szB z
    · have d2 := decide_eq_true q2
      refine (Rt.seq (Rt.ifF ((c1 rfl rfl rfl rfl).cast d1) Rt.next) (Rt.ifT ((c2 rfl rfl rfl rfl).cast d2) (Rt.par (Rt.cons (Rt.op2 (Rt.var rfl) Rt.cC Rt.ret) (Rt.cons Rt.cC Rt.nil))))).cast ?_
      unfold stepG
      simp only [q1, q2, if_true, if_false]
      rfl
    · have d2 := decide_eq_false q2
      refine (Rt.seq (Rt.ifF ((c1 rfl rfl rfl rfl).cast d1) Rt.next) (Rt.ifF ((c2 rfl rfl rfl rfl).cast d2) Rt.next)).cast ?_
      unfold stepG
      simp only [q1, q2, if_false]
      rfl
theorem test_r : Rt (fdT (fδ a b g m y l k)) (decide (g.first < a.length) && decide (g.second < b.length)) := by
  refine Rt.and (Rt.test (Rt.op2 (Rt.var rfl) (Rt.opn (Rt.cons (Rt.var rfl) Rt.nil) Rt.ret) (Rt.ret.cast ?_))) (fun _ => Rt.test (Rt.op2 (Rt.var rfl) (Rt.opn (Rt.cons (Rt.var rfl) Rt.nil) Rt.ret) (Rt.ret.cast ?_)))
  · rw [List.length_map]; congr 1; apply decide_eq_decide.mpr; omega
  · rw [List.length_map]; congr 1; apply decide_eq_decide.mpr; omega
end
theorem turns {a b : List Bk} (ha : Sh a) (hb : Sh b) (va : Vbs a) (vb : Vbs b) : ∀ (n : Nat) (g : Gs) (m y l k : Sl), GI a b g → a.length + b.length - (g.first + g.second) ≤ n →
    (∃ d : Nat, LD a b (some d) ∧ Rt (whileD fdT fdB (n + 1) (fδ a b g m y l k)) (.rt (.int d))) ∨ (∃ g' m' y' l' k', GI a b g' ∧ (g'.first = a.length ∨ g'.second = b.length) ∧ Rt (whileD fdT fdB (n + 1) (fδ a b g m y l k)) (.nx (fδ a b g' m' y' l' k')))
  | n, g, m, y, l, k, hg, hn => by
    have l1 := hg.l1
    have l2 := hg.l2
    by_cases c : g.first < a.length ∧ g.second < b.length
    · have e1 := List.getElem?_eq_getElem c.1
      have e2 := List.getElem?_eq_getElem c.2
      have tt : Rt (fdT (fδ a b g m y l k)) true := test_r.cast (by simp [c])
      by_cases h : ∃ i, i < stepL a[g.first] b[g.second] g ∧ i < a[g.first].1.length + b[g.second].1.length ∧ ¬ Req a[g.first] b[g.second] g i
      · -- the least one
        obtain ⟨i, h1, h2, h3, h4⟩ : ∃ i, i < stepL a[g.first] b[g.second] g ∧ i < a[g.first].1.length + b[g.second].1.length ∧ ¬ Req a[g.first] b[g.second] g i ∧ ∀ j, j < i → Req a[g.first] b[g.second] g j := by
          obtain ⟨i0, z⟩ := h
          revert z
          induction i0 using Nat.strongRecOn with
          | _ i0 ih =>
            intro z
            by_cases q : ∃ j, j < i0 ∧ ¬ Req a[g.first] b[g.second] g j
            · obtain ⟨j, hj, hq⟩ := q
              exact ih j hj ⟨by omega, by omega, hq⟩
            · exact ⟨i0, z.1, z.2.1, z.2.2, fun j hj => Classical.byContradiction fun w => q ⟨j, hj, w⟩⟩
        exact .inl ⟨g.place + i + 1, hg.found e1 e2 h1 h4 h3, Rt.whR tt (turn_rt ha hb va vb hg e1 e2 h1 h2 h4 h3)⟩
      · have hs : ∀ i, i < stepL a[g.first] b[g.second] g → i < a[g.first].1.length + b[g.second].1.length → Req a[g.first] b[g.second] g i := fun i h1 h2 => Classical.byContradiction fun w => h ⟨i, h1, h2, w⟩
        obtain ⟨l', k', ht⟩ := turn_nx (m := m) (y := y) (l := l) (k := k) ha hb va vb hg e1 e2 hs
        have hg' := hg.next va vb e1 e2 hs
        have hless := step_less (g := g) (hg.b1 _ e1) (hg.b2 _ e2)
        cases n with
        | zero => exact absurd hn (by omega)
        | succ n =>
          have hl1 := hg'.l1
          have hl2 := hg'.l2
          rcases turns ha hb va vb n (stepG a[g.first] b[g.second] g) (fμ a[g.first]) (fμ b[g.second]) l' k' hg' (by omega) with ⟨d, h1, h2⟩ | ⟨g', m', y', l2', k2', h1, h2, h3⟩
          · exact .inl ⟨d, h1, Rt.whT tt ht h2⟩
          · exact .inr ⟨g', m', y', l2', k2', h1, h2, Rt.whT tt ht h3⟩
    · refine .inr ⟨g, m, y, l, k, hg, by omega, Rt.whF (test_r.cast ?_)⟩
      by_cases q : g.first < a.length
      · simp [q]; omega
      · simp [q]
theorem fd_r {a b : List Bk} (ha : Sh a) (hb : Sh b) (va : Vbs a) (vb : Vbs b) : ∃ d, LD a b d ∧ Rt (g_first_difference [tD a, tD b]) (optD d) := by
  have st : Rt ((dAsg (dTup (dCons (dC (.int 0)) (dCons (dC (.int 0)) (dCons (dC (.int 0)) (dCons (dC (.int 0)) (dCons (dC (.int 0)) dNil)))))) (dGTup 5 (dGCons (dName 2) (dGCons (dName 3) (dGCons (dName 4) (dGCons (dName 5) (dGCons (dName 6) dGNil))))))) (startD N_first_difference [tD a, tD b])) (.nx (fδ a b ⟨0, 0, 0, 0, 0⟩ none none none none)) :=
    Rt.bind (Rt.tup (Rt.cons Rt.cC (Rt.cons Rt.cC (Rt.cons Rt.cC (Rt.cons Rt.cC (Rt.cons Rt.cC Rt.nil))))) (small (show 5 ≤ 4000 by decide))) (Rt.bind (Rt.need rfl (Rt.bind Rt.ret (Rt.bind Rt.ret (Rt.bind Rt.ret (Rt.bind Rt.ret (Rt.bind Rt.ret Rt.ret)))))) Rt.ret)
  rcases turns ha hb va vb (a.length + b.length) ⟨0, 0, 0, 0, 0⟩ none none none none (GI.start va vb) (by simp) with ⟨d, h1, h2⟩ | ⟨g, m, y, l, k, h1, h2, h3⟩
  · exact ⟨some d, h1, Rt.bodyR (Rt.seq st (Rt.seqR (Rt.wh h2)))⟩
  · refine ⟨_, h1.ended va vb h2, Rt.bodyR (Rt.seq st (Rt.seq (Rt.wh h3) (Rt.rets (Rt.ifE (b := decide (g.first < a.length) || decide (g.second < b.length)) ?_ ?_))))⟩
    · refine Rt.or (Rt.test (Rt.op2 (Rt.var rfl) (Rt.opn (Rt.cons (Rt.var rfl) Rt.nil) Rt.ret) (Rt.ret.cast ?_))) (fun _ => Rt.test (Rt.op2 (Rt.var rfl) (Rt.opn (Rt.cons (Rt.var rfl) Rt.nil) Rt.ret) (Rt.ret.cast ?_)))
      · rw [List.length_map]; congr 1; apply decide_eq_decide.mpr; omega
      · rw [List.length_map]; congr 1; apply decide_eq_decide.mpr; omega
    · by_cases q : g.first < a.length ∨ g.second < b.length
      · rw [if_pos q]
        have e : (decide (g.first < a.length) || decide (g.second < b.length)) = true := by simpa using q
        rw [e]
        exact Rt.op2 (Rt.var rfl) Rt.cC (Rt.ret.cast (by simp [optD]))
      · rw [if_neg q]
        have e : (decide (g.first < a.length) || decide (g.second < b.length)) = false := by simpa using q
        rw [e]
        exact Rt.cC
end Lw
namespace Lw
open PySem L2 Ly
open Lx (inS cutL Ky IsTb)
section
variable {δ : List Sl}
theorem in_hd {g : List D → W D} {c : Str} {gs0 gs1 : List (Str × D)} {ds : List D} (h : ∀ i, Hd [i] (hm0.put i (.ins c gs0)) (hm0.put i (.ins c gs1)) (g (.mu i :: ds)) .non) : In g c gs0 gs1 ds := fun s i Q E hs q => (h i).one hs q
theorem lcG {α : Type} {dg : D → List Sl → W (List Sl)} {fe : List Sl → W D} (φ : α → D) (ε : α → List Sl) (g : α → D) : ∀ (hs : List α) (k : Nat), (∀ h ∈ hs, Rt (dg (φ h) δ) (ε h)) → (∀ h ∈ hs, Rt (fe (ε h)) (g h)) → k + hs.length ≤ sizeLine → Rt (lcD dg dYes fe δ (hs.map φ) k) (hs.map g)
  | [], k, _, _, _ => Rt.ret
  | h :: r, k, h1, h2, hk => by
    rw [List.length_cons] at hk
    exact Rt.bind (h1 h List.mem_cons_self) (Rt.bind (a := true) Rt.ret (Rt.bind (h2 h List.mem_cons_self) (Rt.need (by omega) (Rt.bind (lcG φ ε g r (k + 1) (fun x hx => h1 x (List.mem_cons_of_mem _ hx)) (fun x hx => h2 x (List.mem_cons_of_mem _ hx)) (by omega)) Rt.ret))))
theorem two_g {i j : Nat} {x y : D} : Rt (dGTup 2 (dGCons (dName i) (dGCons (dName j) dGNil)) (.tup [x, y]) δ) ((δ.set i (some x)).set j (some y)) := Rt.need rfl (Rt.bind Rt.ret (Rt.bind Rt.ret Rt.ret))
theorem intsD_map : ∀ ns : List Int, intsD (ns.map D.int) = some ns
  | [] => rfl
  | n :: r => by rw [List.map_cons, intsD, intsD_map r]; rfl
theorem isi_v {tb : IsTb} {d : D} {t : Ky} {b : Bool} (ht : Rt (tyW d) t) (e : tb.lookup t = some b) : Rt (isiD tb d) (.bl b) := Rt.bind ht (by rw [e]; exact Rt.ret)
end
def Vr (r : Str) : Prop := lets r ∧ r.length ≤ 100
structure OkB (b : Bk) : Prop where
  v : Vb b
  l : b.1.length ≤ 4
  t : b.2 ≤ 10 ^ 30
  r : ∀ r ∈ b.1, Vr r
def OkBs (bs : List Bk) : Prop := bs.length ≤ 1000 ∧ ∀ b ∈ bs, OkB b
theorem OkBs.vb {bs : List Bk} (h : OkBs bs) : Vbs bs := fun b hb => (h.2 b hb).v
theorem OkBs.sh {bs : List Bk} (h : OkBs bs) : Sh bs := ⟨h.1, fun b hb => Nat.le_trans (h.2 b hb).l (by omega)⟩
theorem is_line_s {s : Str} (h : lets s) (hl : s.length ≤ 4000) : Rt (g_is_line [.str s]) (.bl true) := by
  refine Rt.bodyR (Rt.rets ((Rt.andV (b := true) (c := true) (Rt.op1 (Rt.var rfl) (isi_v Rt.ret (by decide +kernel))) fun _ => ?_).cast rfl))
  refine Rt.opn (Rt.cons (rLc (rIS (Rt.var rfl)) (lcY (fun c => D.str ⟨#[c]⟩) (fun c => D.bl (decide (c ∈ LET.cps.toList))) s.cps.toList (by rw [← len_cps]; exact hl) (fun c hc => (Rt.op2 (Rt.var rfl) Rt.cC inD_s).cast (by rw [inS_one])))) Rt.nil) ?_
  show Rt (match bools _ with | some bs => W.ret (D.bl (bs.all id)) | none => W.stuck) _
  rw [bools_map (fun c => decide (c ∈ LET.cps.toList))]
  refine Rt.ret.cast (congrArg D.bl ?_)
  rw [List.all_map, List.all_eq_true]
  exact fun c hc => decide_eq_true (h c hc)
theorem is_text_s {rs : List Str} (h : ∀ r ∈ rs, Vr r) (hl : rs.length ≤ 4000) : Rt (g_is_text [.lst (rs.map .str)]) (.bl true) := by
  refine Rt.bodyR (Rt.rets ((Rt.andV (b := true) (c := true) (Rt.call (Rt.cons (Rt.var rfl) Rt.nil) rfl (Rt.bodyR (Rt.rets (Rt.op1 (Rt.var rfl) (isi_v Rt.ret (by decide +kernel)))))) fun _ => ?_).cast rfl))
  refine Rt.opn (Rt.cons (rLc (rIL (Rt.var rfl)) (lcY (fun r => D.str r) (fun _ => D.bl true) rs hl (fun r hr => Rt.call (Rt.cons (Rt.var rfl) Rt.nil) rfl (is_line_s (h r hr).1 (by have := (h r hr).2; omega))))) Rt.nil) ?_
  show Rt (match bools _ with | some bs => W.ret (D.bl (bs.all id)) | none => W.stuck) _
  rw [bools_map (fun _ => true)]
  refine Rt.ret.cast (congrArg D.bl ?_)
  rw [List.all_map, List.all_eq_true]
  exact fun _ _ => rfl
theorem is_block_r {b : Bk} (h : OkB b) : Rt (g_is_block [blkL b]) (.bl true) := by
  have ix0 : ∀ {δ : List Sl}, δ[0]? = some (some (blkL b)) → Rt (dOp2 ixD (dVar 0) (dC (.int 0)) δ) (.lst (b.1.map .str)) := fun e => Rt.op2 (Rt.var e) Rt.cC (Rt.ixT rfl)
  have hl := h.l
  have hv := h.v
  refine Rt.bodyR (Rt.seq (Rt.ifF (Rt.orF (Rt.not (b := true) (Rt.tru (Rt.op1 (Rt.var rfl) (isi_v Rt.ret (by decide +kernel))) Rt.ret)) (Rt.orF (Rt.test (Rt.op2 (Rt.opn (Rt.cons (Rt.var rfl) Rt.nil) Rt.ret) Rt.cC Rt.ret)) (Rt.orF (Rt.not (b := true) (Rt.tru (Rt.call (Rt.cons (ix0 rfl) Rt.nil) rfl (Rt.bodyR (Rt.rets (Rt.op1 (Rt.var rfl) (isi_v Rt.ret (by decide +kernel)))))) Rt.ret)) (Rt.not (b := true) (Rt.tru (Rt.call (Rt.cons (ix0 rfl) Rt.nil) rfl (is_text_s h.r (by omega))) Rt.ret))))) Rt.next) ?_)
  refine Rt.rets ((Rt.andV (b := true) (c := true) (Rt.chT Rt.cC (Rt.opn (Rt.cons (ix0 rfl) Rt.nil) Rt.ret) (Rt.ret.cast (congrArg D.bl (decide_eq_true ?_))) Rt.cC (Rt.ret.cast (congrArg D.bl (decide_eq_true ?_)))) fun _ => ?_).cast rfl)
  · rw [List.length_map]; have := hv.1; omega
  · rw [List.length_map]; omega
  · refine Rt.call (Rt.cons (Rt.op2 (Rt.var rfl) Rt.cC (Rt.ixT rfl)) (Rt.cons Rt.cC (Rt.cons Rt.cC Rt.nil))) rfl ?_
    refine Rt.bodyR (Rt.rets ((Rt.andV (b := true) (c := true) (Rt.call (Rt.cons (Rt.var rfl) Rt.nil) rfl (Rt.bodyR (Rt.rets ((Rt.andV (b := true) (c := true) (Rt.op1 (Rt.var rfl) (isi_v Rt.ret (by decide +kernel))) fun _ => (Rt.notV (Rt.op1 (Rt.var rfl) (isi_v (b := false) Rt.ret (by decide +kernel)))).cast rfl).cast rfl)))) fun _ => ?_).cast rfl))
    have ht := h.t
    exact Rt.chT (Rt.var rfl) (Rt.var rfl) (Rt.ret.cast (congrArg D.bl (decide_eq_true (by have := hv.2; omega)))) (Rt.var rfl) (Rt.ret.cast (congrArg D.bl (decide_eq_true (by omega))))
theorem length_r {bs : List Bk} (h : Sh bs) : Rt (g_length_of [tD bs]) (.int (szs bs : Nat)) := by
  refine Rt.bodyR (Rt.rets (Rt.opn (Rt.cons (rLc (rIT (Rt.var rfl)) (lcG blkT (fun b => ([some (tD bs), some (.tup (b.1.map .str)), some (.int (b.2 : Nat))] : List Sl)) (fun b => D.int (szB b : Nat)) bs 0 (fun b _ => two_g) (fun b hb => ?_) (by have := h.1; rw [sizeLine_eq]; omega))) Rt.nil) ?_))
  · have := h.2 b hb
    exact Rt.op2 (lenT_r rfl) (Rt.var rfl) ((Rt.need (.inl ⟨by omega, by omega⟩) Rt.ret).cast (by unfold szB; rw [Int.natCast_mul]))
  · show Rt (match intsD _ with | some ns => W.ret (D.int ns.sum) | none => W.stuck) _
    have e : (bs.map fun b => D.int (szB b : Nat)) = (bs.map fun b => ((szB b : Nat) : Int)).map D.int := by rw [List.map_map]; rfl
    rw [e, intsD_map]
    refine Rt.ret.cast (congrArg D.int ?_)
    clear h e
    induction bs with
    | nil => rfl
    | cons b r ih => rw [List.map_cons, List.sum_cons, ih]; show _ = ((szB b + szs r : Nat) : Int); omega
abbrev ofl (bs : List Bk) : List (Str × D) := [("own_blocks", tD bs), ("own_length", .int (szs bs : Nat))]
def oD (c : Str) (bs : List Bk) : D := .obj c (ofl bs)
abbrev lT (bs : List Bk) : D := .tup (bs.map blkL)
theorem enum_ok {i : Nat} {bs0 : List Bk} : ∀ (bs : List Bk) (k : Nat) (y z u v : Sl), (∀ b ∈ bs, OkB b) → ∃ y' z', Rt (forD (dGTup 2 (dGCons (dName 2) (dGCons (dName 3) dGNil))) (dIf (dNot (dTru (dCall 1 g_is_block (dCons (dVar 3) dNil)))) dNever dNext) (enumD k (bs.map blkL)) [some (.mu i), some (lT bs0), y, z, u, v]) (.nx [some (.mu i), some (lT bs0), y', z', u, v])
  | [], k, y, z, u, v, _ => ⟨y, z, Rt.ret⟩
  | b :: r, k, y, z, u, v, h => by
    obtain ⟨y', z', q⟩ := enum_ok r (k + 1) (some (.int k)) (some (blkL b)) u v (fun x hx => h x (List.mem_cons_of_mem _ hx))
    refine ⟨y', z', ?_⟩
    rw [List.map_cons]
    exact Rt.bind two_g (Rt.bind (Rt.ifF (Rt.not (b := true) (Rt.tru (Rt.call (Rt.cons (Rt.var rfl) Rt.nil) rfl (is_block_r (h b List.mem_cons_self))) Rt.ret)) Rt.next) q)
theorem Hd.fldM {I : List Nat} {L : Hm} {δ : List Sl} {i v : Nat} {c x : Str} {gs : List (Str × D)} {d : D} (h : δ[v]? = some (some (.mu i))) (e : L i = some (.ins c gs)) (hd : gs.lookup x = some d) : Hd I L L (dFld x (dVar v) δ) d := Hd.fldV h e hd
theorem long_in {c : Str} (hc : c ∈ cl_LongText) {bs : List Bk} (h : OkBs bs) (hl : bs.length ≤ 10) : In gi_LongText c [] (ofl bs) [lT bs] := in_hd fun i => by
  obtain ⟨y, z, q⟩ := enum_ok (i := i) (bs0 := bs) bs 0 none none none none h.2
  refine Hd.bodyN (ε := [some (.mu i), some (lT bs), y, z, none, none]) (Hd.seq (Hd.of (Rt.bind (Rt.bind (Rt.cons (Rt.var rfl) Rt.nil) Rt.ret) q)) (Hd.seq (Hd.of (Rt.ifF (Rt.test (Rt.op2 (Rt.opn (Rt.cons (Rt.var rfl) Rt.nil) Rt.ret) Rt.cC (Rt.ret.cast (congrArg D.bl (decide_eq_false (by rw [List.length_map]; omega)))))) Rt.next)) (Hd.seq (Hd.setF (L1 := hm0.put i (.ins c [])) (c := c) (gs := []) (d := tD bs) ?_ (Hd.of (Rt.var rfl)) Hm.put_self hc (by decide)) ?_)))
  · refine Hd.of (Rt.opn (Rt.cons (rLc (rIT (Rt.var rfl)) (lcG blkL (fun b => ([some (.mu i), some (lT bs), y, z, some (.lst (b.1.map .str)), some (.int (b.2 : Nat))] : List Sl)) blkT bs 0 (fun b _ => two_g) (fun b hb => ?_) (by rw [sizeLine_eq]; omega))) Rt.nil) Rt.ret)
    exact Rt.tup (Rt.cons (Rt.opn (Rt.cons (Rt.var rfl) Rt.nil) Rt.ret) (Rt.cons (Rt.var rfl) Rt.nil)) (small (show 2 ≤ 4000 by decide))
  · refine (Hd.setF (L1 := (hm0.put i (.ins c [])).put i (.ins c (putG "own_blocks" (tD bs) []))) (c := c) (gs := putG "own_blocks" (tD bs) []) (d := .int (szs bs : Nat)) (Hd.call (Hd.cons (Hd.fldM rfl Hm.put_self rfl) Hd.nil) rfl (Hd.of (length_r h.sh))) (Hd.of (Rt.var rfl)) Hm.put_self hc (show 1 < 900 by decide)).castL ?_
    funext k
    by_cases e : k = i
    · subst e; rw [Hm.put_self, Hm.put_self]; rfl
    · rw [Hm.put_ne e, Hm.put_ne e, Hm.put_ne e, Hm.put_ne e]
end Lw
namespace Lw
open PySem L2 Ly
open Lx (inS cutL Ky IsTb)
theorem put_put {L : Hm} {i : Nat} {a b : MO} : (L.put i a).put i b = L.put i b := by
  funext k
  by_cases e : k = i
  · subst e; rw [Hm.put_self, Hm.put_self]
  · rw [Hm.put_ne e, Hm.put_ne e, Hm.put_ne e]
theorem free_in {bs : List Bk} (h : Sh bs) : In gi_FreeLongText "FreeLongText" [] (ofl bs) [tD bs] := in_hd fun i => by
  have base : Hd [i] (hm0.put i (.ins "FreeLongText" [])) (hm0.put i (.ins "FreeLongText" (ofl []))) (gi_LongText [.mu i, .tup []]) .non := by
    refine (Hd.ofOne (i := i) (o := .ins "FreeLongText" []) (o' := .ins "FreeLongText" (ofl [])) (fun s Q E hs q => long_in (c := "FreeLongText") (bs := []) (by decide +kernel) ⟨by decide, fun _ z => nomatch z⟩ (by decide) s i Q E hs q) Hm.put_self).castL put_put
  show Hd [i] _ _ (W.bind (dVar 0 (startD N_FreeLongText_init [.mu i, tD bs])) _) D.non
  refine Hd.bind (Hd.of (Rt.var rfl)) (Hd.bind (Hd.get Hm.put_self) (Hd.need (by decide +kernel) (Hd.bind (Hd.calm base) ?_)))
  refine Hd.bind (a := Out.nx (startD N_FreeLongText_init [.mu i, tD bs])) (L1 := hm0.put i (.ins "FreeLongText" (ofl bs))) ?_ Hd.ret
  refine Hd.seq (Hd.setF (L1 := hm0.put i (.ins "FreeLongText" (ofl []))) (c := "FreeLongText") (gs := ofl []) (d := tD bs) (Hd.of (Rt.var rfl)) (Hd.of (Rt.var rfl)) Hm.put_self (by decide +kernel) (by decide)) ?_
  refine (Hd.setF (L1 := (hm0.put i (.ins "FreeLongText" (ofl []))).put i (.ins "FreeLongText" (putG "own_blocks" (tD bs) (ofl [])))) (c := "FreeLongText") (gs := putG "own_blocks" (tD bs) (ofl [])) (d := .int (szs bs : Nat)) (Hd.of (Rt.call (Rt.cons (Rt.var rfl) Rt.nil) rfl (length_r h))) (Hd.of (Rt.var rfl)) Hm.put_self (by decide +kernel) (show 2 < 900 by decide)).castL ?_
  rw [put_put, put_put]
  have e : putG "own_length" (.int (szs bs : Nat)) (putG "own_blocks" (tD bs) (ofl [])) = ofl bs := by
    have n1 : ¬ (("own_blocks" : Str) = "own_length") := by decide +kernel
    simp only [putG, if_neg n1, if_true, if_pos]
  rw [e]
section
variable {δ : List Sl}
theorem mk0 : Rt (dMakeS "LongText" 0 0 [] 2 gi_LongText dNil dNil δ) (oD "LongText" []) :=
  Rt.bind Rt.nil (Rt.bind Rt.nil (Rt.need (by decide) (mk_r (long_in (c := "LongText") (bs := []) (by decide +kernel) ⟨by decide, fun _ z => nomatch z⟩ (by decide)))))
theorem mk1 {f : List Sl → W D} {b : Bk} (hf : Rt (f δ) (blkL b)) (h : OkB b) : Rt (dMakeS "LongText" 1 0 [] 2 gi_LongText (dCons f dNil) dNil δ) (oD "LongText" [b]) :=
  Rt.bind (Rt.cons hf Rt.nil) (Rt.bind Rt.nil (Rt.need ⟨rfl, rfl, rfl⟩ (mk_r (long_in (c := "LongText") (bs := [b]) (by decide +kernel) ⟨by simp, fun x hx => by rw [List.mem_singleton.mp hx]; exact h⟩ (by simp)))))
theorem mkF {f : List Sl → W D} {bs : List Bk} (hf : Rt (f δ) (tD bs)) (h : Sh bs) : Rt (dMake "FreeLongText" 1 gi_FreeLongText (dCons f dNil) δ) (oD "FreeLongText" bs) := make_r (Rt.cons hf Rt.nil) rfl (free_in h)
end
def Cn (c : Str) : Prop := c = "LongText" ∨ c = "FreeLongText"
theorem bl_fld {δ : List Sl} {v : Nat} {c : Str} {bs : List Bk} (h : δ[v]? = some (some (oD c bs))) : Rt (dFld "own_blocks" (dVar v) δ) (tD bs) := Rt.fld (Rt.var h) rfl
theorem add_r {c d : Str} {a b : List Bk} (hc : Cn c) (hd : Cn d) (h : Sh (a ++ b)) : Rt (binO tb_op_add ds_op_add (oD c a) (oD d b)) (oD "FreeLongText" (a ++ b)) := by
  have hds : d ∈ ds_op_add := by rcases hd with rfl | rfl <;> decide +kernel
  have e : tb_op_add.lookup c = some (dBody N_LongText_op_add b_LongText_op_add) := by
    rcases hc with rfl | rfl
    · rfl
    · rfl
  show Rt (match tb_op_add.lookup c with
    | some g => W.need (d ∈ ds_op_add) (((g [oD c a, oD d b]).calm).bind fun x => (match x with
      | .obj c hs => W.ret (D.obj c hs)
      | _ => W.stuck))
    | none => W.stuck) _
  rw [e]
  refine Rt.need hds (Rt.bind (Rt.calm (Rt.bodyR (Rt.rets (mkF (bs := a ++ b) (Rt.op2 (bl_fld rfl) (bl_fld rfl) ?_) h)))) Rt.ret)
  have := h.1
  rw [List.length_append] at this
  refine Rt.need (by rw [List.length_map, List.length_map, sizeLine_eq]; omega) (Rt.ret.cast ?_)
  show D.tup (a.map blkT ++ b.map blkT) = _
  rw [← List.map_append]; rfl
abbrev clD (bs : List Bk) : Str := if bs = [] then "LongText" else "FreeLongText"
theorem clD_cn (bs : List Bk) : Cn (clD bs) := by unfold clD; split; exact .inl rfl; exact .inr rfl
theorem lmade_for : ∀ (r p : List Bk) (y : Sl), OkBs (p ++ r) → ∃ y', Rt (forD (dName 2) (dAsg (dOp2 (binO tb_op_add ds_op_add) (dVar 1) (dMakeS "LongText" 1 0 [] 2 gi_LongText (dCons (dVar 2) dNil) dNil)) (dName 1)) (r.map blkL) [some (lD (p ++ r)), some (oD (clD p) p), y]) (.nx [some (lD (p ++ r)), some (oD (clD (p ++ r)) (p ++ r)), y'])
  | [], p, y, _ => ⟨y, by rw [List.append_nil]; exact Rt.ret⟩
  | b :: r, p, y, h => by
    have e : p ++ b :: r = (p ++ [b]) ++ r := by simp
    obtain ⟨y', q⟩ := lmade_for r (p ++ [b]) (some (blkL b)) (e ▸ h)
    refine ⟨y', ?_⟩
    rw [List.map_cons, e]
    refine Rt.forC (Rt.asg (Rt.op2 (Rt.var rfl) (mk1 (Rt.var rfl) (h.2 b (by simp))) (add_r (clD_cn p) (.inl rfl) ?_))) ?_
    · refine ⟨?_, fun x hx => ?_⟩
      · have := h.1; rw [e, List.length_append] at this; omega
      · exact Nat.le_trans (h.2 x (by rw [e]; exact List.mem_append_left _ hx)).l (by omega)
    · have ec : clD (p ++ [b]) = "FreeLongText" := by unfold clD; rw [if_neg (by simp)]
      rw [ec] at q
      exact q
theorem lmade_r {bs : List Bk} (h : OkBs bs) : Rt (g__law_lmade [lD bs]) (oD (clD bs) bs) := by
  obtain ⟨y, q⟩ := lmade_for bs [] none h
  exact Rt.bodyR (Rt.seq (Rt.asg mk0) (Rt.seq (Rt.bind (rIL (Rt.var rfl)) q) (Rt.rets (Rt.var rfl))))
section
variable {c d : Str} {a b : List Bk} {δ : List Sl}
theorem diff_g (hc : Cn c) (ha : OkBs a) (hb : OkBs b) : ∃ e, LD a b e ∧ Rt (dBody N_LongText_difference b_LongText_difference [oD c a, oD d b]) (optD e) := by
  obtain ⟨e, h1, h2⟩ := fd_r ha.sh hb.sh ha.vb hb.vb
  exact ⟨e, h1, Rt.bodyR (Rt.rets (Rt.call (Rt.cons (bl_fld rfl) (Rt.cons (bl_fld rfl) Rt.nil)) rfl h2))⟩
theorem diff_r {fa fb : List Sl → W D} (hc : Cn c) (ha : OkBs a) (hb : OkBs b) (h1 : Rt (fa δ) (oD c a)) (h2 : Rt (fb δ) (oD d b)) : ∃ e, LD a b e ∧ Rt (dMeth "difference" 1 tb_difference fa (dCons fb dNil) δ) (optD e) := by
  obtain ⟨e, q1, q2⟩ := diff_g (d := d) hc ha hb
  refine ⟨e, q1, Rt.meth h1 rfl (G := dBody N_LongText_difference b_LongText_difference) ?_ (Rt.cons h2 Rt.nil) rfl q2⟩
  rcases hc with rfl | rfl <;> rfl
theorem diffN_r {fa fb : List Sl → W D} (hc : Cn c) (ha : OkBs a) (hb : OkBs b) (h1 : Rt (fa δ) (oD c a)) (h2 : Rt (fb δ) (oD d b)) : ∃ e, LD a b e ∧ Rt (dMethN "difference" 1 2 [0] tb_difference fa (dCons fb dNil) δ) (optD e) := by
  obtain ⟨e, q1, q2⟩ := diff_g (d := d) hc ha hb
  refine ⟨e, q1, Rt.bind h1 (Rt.bind Rt.ret (Rt.need rfl ?_))⟩
  have z : tb_difference.lookup c = some (dBody N_LongText_difference b_LongText_difference) := by rcases hc with rfl | rfl <;> rfl
  show Rt (match tb_difference.lookup c with
    | some g => _
    | none => W.stuck) _
  rw [z]
  exact Rt.bind (Rt.cons h2 Rt.nil) (Rt.need ⟨rfl, rfl⟩ q2)
theorem eq_g (hc : Cn c) (hd : Cn d) (ha : OkBs a) (hb : OkBs b) : ∃ e : Option Nat, LD a b e ∧ Rt (dBody N_LongText_eq b_LongText_eq [oD c a, oD d b]) (.bl e.isNone) := by
  obtain ⟨e, h1, h2⟩ := fd_r ha.sh hb.sh ha.vb hb.vb
  refine ⟨e, h1, Rt.bodyR (Rt.rets ((Rt.andV (b := true) (c := e.isNone) (Rt.op1 (Rt.var rfl) (isi_v (t := .c d) Rt.ret ?_)) fun _ => Rt.op2 (Rt.call (Rt.cons (bl_fld rfl) (Rt.cons (bl_fld rfl) Rt.nil)) rfl h2) Rt.cC ?_).cast rfl))⟩
  · rcases hd with rfl | rfl <;> decide +kernel
  · cases e <;> exact Rt.ret
theorem eqQ_r {neg : Bool} (hc : Cn c) (hd : Cn d) (hcd : c = "FreeLongText" ∨ d = "LongText") (ha : OkBs a) (hb : OkBs b) : ∃ e : Option Nat, LD a b e ∧ Rt (eqQ tb_eqq neg (oD c a) (oD d b)) (.bl (if neg then !e.isNone else e.isNone)) := by
  obtain ⟨e, h1, h2⟩ := eq_g hc hd ha hb
  refine ⟨e, h1, ?_⟩
  rcases hc with rfl | rfl
  · have hd' : d = "LongText" := hcd.resolve_left (by decide +kernel)
    subst hd'
    show Rt (eqO [("LongText", dBody N_LongText_eq b_LongText_eq)] tys_eqq_LongText neg (oD "LongText" a) (oD "LongText" b)) _
    exact Rt.eqO (t := .c "LongText") (g := dBody N_LongText_eq b_LongText_eq) rfl Rt.ret (by decide +kernel) h2
  · show Rt (eqO [("FreeLongText", dBody N_LongText_eq b_LongText_eq)] tys_eqq_FreeLongText neg (oD "FreeLongText" a) (oD d b)) _
    refine Rt.eqO (t := .c d) (g := dBody N_LongText_eq b_LongText_eq) rfl Rt.ret ?_ h2
    rcases hd with rfl | rfl <;> decide +kernel
theorem eqQ_no {x : D} {t : Ky} (hc : Cn c) (ht : Rt (tyW x) t) (hm : t = .t "tuple" ∨ t = .t "str" ∨ t = .t "int") : Rt (eqQ tb_eqq false (oD c a) x) (.bl false) := by
  have h2 : Rt (dBody N_LongText_eq b_LongText_eq [oD c a, x]) (.bl false) := Rt.bodyR (Rt.rets ((Rt.andV (b := false) (c := false) (Rt.op1 (Rt.var rfl) (isi_v ht (by rcases hm with rfl | rfl | rfl <;> decide +kernel))) fun z => by cases z).cast rfl))
  rcases hc with rfl | rfl
  · show Rt (eqO [("LongText", dBody N_LongText_eq b_LongText_eq)] tys_eqq_LongText false (oD "LongText" a) x) _
    exact Rt.eqO (neg := false) (g := dBody N_LongText_eq b_LongText_eq) rfl ht (by rcases hm with rfl | rfl | rfl <;> decide +kernel) h2
  · show Rt (eqO [("FreeLongText", dBody N_LongText_eq b_LongText_eq)] tys_eqq_FreeLongText false (oD "FreeLongText" a) x) _
    exact Rt.eqO (neg := false) (g := dBody N_LongText_eq b_LongText_eq) rfl ht (by rcases hm with rfl | rfl | rfl <;> decide +kernel) h2
end
end Lw
namespace Lw
open PySem L2 Ly
open Lx (atI_in shaped_ints inS cutL revS uniq)
theorem pick_s {x : Str} (h1 : 1 ≤ x.length) (h : x.length ≤ 4000) : Tm 1 (g__law_pick [.pen, .str x]) (fun d => ∃ c ∈ x.cps.toList, d = .str ⟨#[c]⟩) := by
  refine tBody (tRet (P := fun d => ∃ c ∈ x.cps.toList, d = .str ⟨#[c]⟩) ?_ fun d hd => ⟨d, rfl, hd⟩)
  refine Tm.bindR (Rt.var rfl) (Tm.bind (B2 := 0) (tCall (Rt.cons (Rt.var rfl) (Rt.cons (Rt.opn (Rt.cons (Rt.var rfl) Rt.nil) (len_s h)) Rt.nil)) rfl (draw_t (by omega) (by omega))) (fun d hd => ?_) (Nat.le_refl _))
  obtain ⟨i, rfl, i0, i1⟩ := hd
  obtain ⟨c, hc, hc2⟩ := atI_in (xs := x.cps.toList) i0 (by rw [← len_cps]; exact i1)
  exact Tm.of (ixS h hc) ⟨c, List.mem_of_getElem? hc2, rfl⟩
theorem pick_l {xs : List D} (h1 : 1 ≤ xs.length) (h : xs.length ≤ 4000) : Tm 1 (g__law_pick [.pen, .lst xs]) (fun d => d ∈ xs) := by
  refine tBody (tRet (P := fun d => d ∈ xs) ?_ fun d hd => ⟨d, rfl, hd⟩)
  refine Tm.bindR (Rt.var rfl) (Tm.bind (B2 := 0) (tCall (Rt.cons (Rt.var rfl) (Rt.cons (Rt.opn (Rt.cons (Rt.var rfl) Rt.nil) Rt.ret) Rt.nil)) rfl (draw_t (by omega) (by omega))) (fun d hd => ?_) (Nat.le_refl _))
  obtain ⟨i, rfl, i0, i1⟩ := hd
  obtain ⟨c, hc, hc2⟩ := atI_in (xs := xs) i0 i1
  exact Tm.of (Rt.ixL hc) (List.mem_of_getElem? hc2)
theorem row_t {s : Str} {lo hi : Nat} (h1 : 1 ≤ s.length) (hs : s.length ≤ 100) (hl : lo ≤ hi) (hh : hi ≤ 100) : Tm (1 + hi) (g__law_row [.pen, .str s, .int lo, .int hi]) (fun d => ∃ x : Str, d = .str x ∧ lo ≤ x.length ∧ x.length ≤ hi ∧ sgns x s.cps.toList) := by
  refine tBody (tAsg (P := fun d => ∃ n : Nat, d = .int n ∧ lo ≤ n ∧ n ≤ hi) (B1 := 1) (B2 := hi) ?_ (fun d hd => ?_) (Nat.le_refl _))
  · refine Tm.bindR (Rt.var rfl) (Tm.bind (B2 := 0) (tCall (Rt.cons (Rt.var rfl) (Rt.cons (Rt.op2 (Rt.op2 (Rt.var rfl) (Rt.var rfl) Rt.ret) Rt.cC Rt.ret) Rt.nil)) rfl (draw_t (by omega) (by omega))) (fun d hd => ?_) (Nat.le_refl _))
    obtain ⟨i, rfl, i0, i1⟩ := hd
    exact Tm.of Rt.ret ⟨lo + i.toNat, congrArg D.int (by omega), by omega, by omega⟩
  · obtain ⟨n, rfl, n0, n1⟩ := hd
    refine tRet (P := fun d => ∃ x : Str, d = .str x ∧ lo ≤ x.length ∧ x.length ≤ hi ∧ sgns x s.cps.toList) ?_ fun d hd => ⟨d, rfl, hd⟩
    refine Tm.bindR Rt.cC (Tm.bind (B1 := hi) (B2 := 0) (Q := fun ds => ∃ cs : List Nat, ds = [.lst (cs.map fun c => .str ⟨#[c]⟩)] ∧ cs.length = n ∧ ∀ c ∈ cs, c ∈ s.cps.toList) ?_ (fun ds hds => ?_) (Nat.le_refl _))
    · refine Tm.bind (B1 := hi) (B2 := 0) (Q := fun d => ∃ cs : List Nat, d = .lst (cs.map fun c => .str ⟨#[c]⟩) ∧ cs.length = n ∧ ∀ c ∈ cs, c ∈ s.cps.toList) ?_ (fun d hd => ?_) (Nat.le_refl _)
      · refine Tm.bindR (rIR (Rt.cons (Rt.var rfl) Rt.nil) (by omega) (by omega)) ?_
        refine Tm.bind (B2 := 0) ((Tm.calm (lcD_t (B := 1) (P := fun d => ∃ c ∈ s.cps.toList, d = .str ⟨#[c]⟩) _ 0 ?_ (fun _ _ => Rt.ret) (fun d hd => ?_))).mono ?_ (fun _ z => z)) (fun ys hys => ?_) (Nat.le_refl _)
        · rw [rangeD_len]; exact small (by omega)
        · exact tCall (Rt.cons (Rt.var rfl) (Rt.cons (Rt.var rfl) Rt.nil)) rfl (pick_s h1 (by omega))
        · rw [rangeD_len]; omega
        · obtain ⟨cs, rfl, hcs⟩ := singles hys.2
          rw [rangeD_len, List.length_map] at hys
          exact Tm.ret ⟨cs, rfl, by omega, hcs⟩
      · obtain ⟨cs, rfl, h2, h3⟩ := hd
        exact Tm.of (Rt.bind Rt.nil Rt.ret) ⟨cs, rfl, h2, h3⟩
    · obtain ⟨cs, rfl, h2, h3⟩ := hds
      refine Tm.of (join_r (by omega)) ⟨⟨cs.toArray⟩, rfl, ?_, ?_, h3⟩
      · show lo ≤ (⟨cs.toArray⟩ : Str).length; rw [len_cps]; show lo ≤ cs.length; omega
      · show (⟨cs.toArray⟩ : Str).length ≤ hi; rw [len_cps]; show cs.length ≤ hi; omega
theorem rare_r (a b c : Nat) : Rt (dMs joinD (dC (.str ("" : Str))) (dCons (dLc (dIR1 (dCons (dC (.int 3)) dNil)) (dName 3) (dTest (dOp2 (inD true) (dOp2 ixD (dVar 1) (dVar 3)) (dSl (dVar 1) dNoPart (dPart (dVar 3))))) (dOp2 ixD (dVar 1) (dVar 3)) [3]) dNil) [some .pen, some (.lst ([a, b, c].map sg)), none, none]) (.str ⟨(rare [a, b, c]).toArray⟩) := by
  have at_ : ∀ i : Nat, i < 3 → atI ([a, b, c].map sg) (0 + (i : Int)) = some (sg (([a, b, c][i]?).getD 0)) := fun i hi => by
    have : i = 0 ∨ i = 1 ∨ i = 2 := by omega
    rcases this with rfl | rfl | rfl <;> rfl
  have lc : Rt (lcD (dName 3) (dTest (dOp2 (inD true) (dOp2 ixD (dVar 1) (dVar 3)) (dSl (dVar 1) dNoPart (dPart (dVar 3))))) (dOp2 ixD (dVar 1) (dVar 3)) (wipeD [some .pen, some (.lst ([a, b, c].map sg)), none, none] [3]) (rangeD 0 (3 : Int).toNat) 0) ((rare [a, b, c]).map sg) := by
    rw [rangeD_eq]
    refine (lcM (fun (i : Nat) => D.int (0 + i)) (fun i => !decide (([a, b, c][i]?).getD 0 ∈ [a, b, c].take i)) (fun i => sg (([a, b, c][i]?).getD 0)) (List.range 3) 0 (small (show 0 + 3 ≤ 4000 by decide)) (fun i hi => ?_) (fun i hi _ => ?_)).cast (by unfold rare; rw [List.map_map]; rfl)
    · have hi : i < 3 := List.mem_range.mp hi
      refine Rt.test (Rt.op2 (Rt.op2 (Rt.var rfl) (Rt.var rfl) (Rt.ixL (at_ i hi))) ((Rt.sl (Rt.var rfl) Rt.noPart (Rt.part (Rt.var rfl)) Rt.ret).cast ?_) notIn)
      rw [show (0 : Int) + (i : Int) = (i : Int) by omega, cutL_to, List.map_take]
    · have hi : i < 3 := List.mem_range.mp hi
      exact Rt.op2 (Rt.var rfl) (Rt.var rfl) (Rt.ixL (at_ i hi))
  have hlen : (rare [a, b, c]).length ≤ 3 := by
    unfold rare
    rw [List.length_map]
    exact Nat.le_trans (List.length_filter_le _ _) (Nat.le_of_eq (by rfl))
  exact Rt.ms Rt.cC (Rt.cons (rLc (rIR (Rt.cons Rt.cC Rt.nil) (by decide) (by decide)) lc) Rt.nil) (join_r (by omega))
theorem rare_two {a b : Nat} (hb2 : b ≠ 40) : 2 ≤ (⟨(rare [a, b, 40]).toArray⟩ : Str).length := by
  have hl : ∀ l : List Nat, (⟨l.toArray⟩ : Str).length = l.length := fun l => len_cps _
  rw [hl]
  unfold rare
  have hr : List.range 3 = [0, 1, 2] := rfl
  rw [hr]
  simp only [List.filter_cons, List.filter_nil, List.getElem?_cons_zero, List.getElem?_cons_succ, Option.getD_some, List.take_zero, List.take_succ_cons, List.mem_cons, List.not_mem_nil, or_false, decide_false, Bool.not_false, if_true]
  by_cases h1 : a = b
  · subst h1
    have h3 : ¬ (40 = a) := fun z => hb2 z.symm
    simp [h3]
  · have h1' : ¬ b = a := fun z => h1 z.symm
    have h3 : ¬ (40 = b) := fun z => hb2 z.symm
    by_cases h2 : a = 40
    · subst h2; simp [h1, h1']
    · have h2' : ¬ 40 = a := fun z => h2 z.symm
      simp [h1, h1', h2, h2', h3]
theorem SQ_q : (SQ.cps.toList.all fun c => decide (c ≠ 113)) = true := by decide +kernel
theorem yz_q : (("yz" : Str).cps.toList.all fun c => decide (c ≠ 113)) = true := by decide +kernel
def noq (s : Str) : Prop := ∀ c ∈ s.cps.toList, c ≠ 113
theorem noq_of {s : Str} (h : (s.cps.toList.all fun c => decide (c ≠ 113)) = true) : noq s := fun c hc => of_decide_eq_true (List.all_eq_true.mp h c hc)
theorem rare_q {a b : Nat} (ha : a ≠ 113) (hb : b ≠ 113) : noq ⟨(rare [a, b, 40]).toArray⟩ := fun c hc => by
  have hc : c ∈ rare [a, b, 40] := by simpa using hc
  unfold rare at hc
  obtain ⟨i, hi, rfl⟩ := List.mem_map.mp hc
  have hi := List.mem_range.mp (List.mem_filter.mp hi).1
  have : i = 0 ∨ i = 1 ∨ i = 2 := by omega
  rcases this with rfl | rfl | rfl
  · exact ha
  · exact hb
  · show (40 : Nat) ≠ 113; decide
def good2 (s : Str) : Prop := (good s ∧ 2 ≤ s.length) ∧ noq s
theorem few_t : Tm 4 (g__law_few [.pen]) (fun d => ∃ s : Str, d = .str s ∧ good2 s) := by
  refine tBody (tAsg (P := fun d => ∃ a b : Nat, d = .lst ([a, b, 40].map sg) ∧ a ∈ LET.cps.toList ∧ b ∈ LET.cps.toList ∧ b ≠ 40 ∧ a ≠ 113 ∧ b ≠ 113) (B1 := 3) (B2 := 1) ?_ (fun d hd => ?_) (Nat.le_refl _))
  · have pk : ∀ {δ : List Sl} {x : Str}, δ[0]? = some (some .pen) → 1 ≤ x.length → x.length ≤ 4000 → Tm 1 (dCall 2 g__law_pick (dCons (dVar 0) (dCons (dC (.str x)) dNil)) δ) (fun d => ∃ c ∈ x.cps.toList, d = .str ⟨#[c]⟩) := fun e h1 h2 => tCall (Rt.cons (Rt.var e) (Rt.cons Rt.cC Rt.nil)) rfl (pick_s h1 h2)
    refine Tm.bind (B2 := 0) (tCons (B1 := 1) (B2 := 2) (pk rfl (by decide +kernel) (by decide +kernel)) (tCons (B1 := 1) (B2 := 1) (pk rfl (by decide +kernel) (by decide +kernel)) (tCons (B1 := 1) (B2 := 0) (pk rfl (by decide +kernel) (by decide +kernel)) tNil (Nat.le_refl _)) (Nat.le_refl _)) (Nat.le_refl _)) (fun ds hds => ?_) (Nat.le_refl _)
    obtain ⟨_, _, rfl, ⟨a, ha, rfl⟩, _, _, rfl, ⟨b, hb, rfl⟩, _, _, rfl, ⟨c, hc, rfl⟩, rfl⟩ := hds
    have h1 := of_decide_eq_true (List.all_eq_true.mp SQ_ok a ha)
    have h2 := List.all_eq_true.mp yz_ok b hb
    rw [Bool.and_eq_true, decide_eq_true_eq, decide_eq_true_eq] at h2
    have h3 := of_decide_eq_true (List.all_eq_true.mp pa_ok c hc)
    subst h3
    exact Tm.need (small (show 3 ≤ 4000 by decide)) (Tm.ret ⟨a, b, rfl, h1, h2.1, h2.2, of_decide_eq_true (List.all_eq_true.mp SQ_q a ha), of_decide_eq_true (List.all_eq_true.mp yz_q b hb)⟩)
  · obtain ⟨a, b, rfl, ha, hb, hb2, qa, qb⟩ := hd
    refine tAsgR (rare_r a b 40) (tRet (P := fun d => ∃ s : Str, d = .str s ∧ good2 s) ?_ fun d hd => ⟨d, rfl, hd⟩)
    refine (tCall (Rt.cons (Rt.var rfl) (Rt.cons (Rt.lst (Rt.cons Rt.cC (Rt.cons Rt.cC (Rt.cons Rt.cC (Rt.cons Rt.cC (Rt.cons Rt.cC (Rt.cons Rt.cC (Rt.cons Rt.cC (Rt.cons Rt.cC (Rt.cons (Rt.var rfl) Rt.nil))))))))) (small (show 9 ≤ 4000 by decide))) Rt.nil)) rfl (pick_l (show 1 ≤ 9 by decide) (show 9 ≤ 4000 by decide))).mono (Nat.le_refl _) fun d hd => ?_
    simp only [List.mem_cons, List.not_mem_nil, or_false] at hd
    rcases hd with rfl | rfl | rfl | rfl | rfl | rfl | rfl | rfl | rfl
    · exact ⟨_, rfl, ⟨good_of _ (by decide +kernel), by decide +kernel⟩, noq_of (by decide +kernel)⟩
    · exact ⟨_, rfl, ⟨good_of _ (by decide +kernel), by decide +kernel⟩, noq_of (by decide +kernel)⟩
    · exact ⟨_, rfl, ⟨good_of _ (by decide +kernel), by decide +kernel⟩, noq_of (by decide +kernel)⟩
    · exact ⟨_, rfl, ⟨good_of _ (by decide +kernel), by decide +kernel⟩, noq_of (by decide +kernel)⟩
    · exact ⟨_, rfl, ⟨good_of _ (by decide +kernel), by decide +kernel⟩, noq_of (by decide +kernel)⟩
    · exact ⟨_, rfl, ⟨good_of _ (by decide +kernel), by decide +kernel⟩, noq_of (by decide +kernel)⟩
    · exact ⟨_, rfl, ⟨good_of _ (by decide +kernel), by decide +kernel⟩, noq_of (by decide +kernel)⟩
    · exact ⟨_, rfl, ⟨good_of _ (by decide +kernel), by decide +kernel⟩, noq_of (by decide +kernel)⟩
    · exact ⟨_, rfl, ⟨rare_good ha hb hb2, rare_two hb2⟩, rare_q qa qb⟩
end Lw
namespace Lw
open PySem L2 Ly
open Lx (inS cutL Ky IsTb atI_in)
section
variable {δ : List Sl} {B B1 B2 : Nat}
theorem parNew {C : Type} {fb : List Sl → W D} {fl : List Sl → W (List D)} {xs : List D} {a b : Nat} {P : D → Prop} {rest : List Sl → W Out} {R : Out → Prop} (hf : Tm B1 (fb δ) P) (hl : Rt (fl δ) xs) (hx : xs.length ≤ 4000)
    (h : ∀ x, P x → ∀ j, Tgk B2 j xs (rest ((δ.set a (some x)).set b (some (.mu j)))) R) (hB : B1 + B2 ≤ B) : Tm B (dSeq (dAsg (dTup (dCons fb (dCons (dLstM fl) dNil))) (dGTup 2 (dGCons (dName a) (dGCons (dName b) dGNil)))) rest δ) R :=
  show Tm B ((fb δ).bind fun x => (dLstM fl δ).bind fun y => W.need ([x, y].length ≤ sizeLine) (W.need ([x, y].length = 2) (rest ((δ.set a (some x)).set b (some y))))) R from
    Tm.bind hf (fun x px => Tm.newL hl hx fun j => Tgk.need (small (show 2 ≤ 4000 by decide)) (Tgk.need rfl (h x px j))) hB
theorem draw_r {m : Nat} {f : List Sl → W D} (h0 : δ[0]? = some (some .pen)) (hf : Rt (f δ) (.int (m : Nat))) (h1 : 1 ≤ m) (h2 : m ≤ 4000) : Tm 1 (dCall 2 g__law_draw (dCons (dVar 0) (dCons f dNil)) δ) (fun d => ∃ i : Nat, d = .int i ∧ i < m) :=
  (tCall (Rt.cons (Rt.var h0) (Rt.cons hf Rt.nil)) rfl (draw_t (by omega) (by omega))).mono (Nat.le_refl _) fun d ⟨i, e, h3, h4⟩ => ⟨i.toNat, by rw [e]; exact congrArg D.int (by omega), by omega⟩
end
theorem great_t {n : Nat} (hn : n ≤ 40) : Tm n (g__law_great [.pen, .int n]) (fun d => ∃ v : Nat, d = .int v ∧ v < 10 ^ n) := by
  refine tBody (tAsgR Rt.cC ?_)
  refine Tm.bind (B1 := n) (B2 := 0) (Q := fun o => ∃ (v : Nat) (y : Sl), o = .nx [some .pen, some (.int n), some (.int v), y] ∧ v < 10 ^ n) (Tm.bindR (rIR (k := (n : Int)) (Rt.cons (Rt.var rfl) Rt.nil) (by omega) (by omega)) ?_) (fun o ho => ?_) (Nat.le_refl _)
  · refine ((forD_t (B := 1) (I := fun r δ => ∃ (v : Nat) (y : Sl), δ = [some .pen, some (.int n), some (.int v), y] ∧ v < 10 ^ (n - r.length) ∧ r.length ≤ n) _ _ ⟨0, none, rfl, by rw [rangeD_len]; simp, by rw [rangeD_len]; simp⟩ fun d r δ h => ?_).mono (by rw [rangeD_len]; simp) fun o ⟨ε, e, v, y, e2, h, _⟩ => ⟨v, y, by rw [e, e2], by simpa using h⟩)
    obtain ⟨v, y, rfl, h1, h2⟩ := h
    rw [List.length_cons] at h1 h2
    refine Tm.bindR Rt.ret ?_
    refine Tm.bind (B1 := 1) (B2 := 0) (Q := fun x => ∃ w : Nat, x = .int w ∧ w < 10 ^ (n - r.length)) ?_ (fun x ⟨w, e, hw⟩ => Tm.of (Rt.bind Rt.ret Rt.ret) ⟨_, rfl, w, some d, by rw [e]; rfl, hw, by omega⟩) (Nat.le_refl _)
    refine Tm.bindR (Rt.op2 Rt.cC (Rt.var rfl) ((Rt.need (.inl ⟨by decide, by decide⟩) Rt.ret))) (Tm.bind (B2 := 0) (draw_r (m := 10) rfl Rt.cC (by decide) (by decide)) (fun x ⟨i, e, hi⟩ => ?_) (Nat.le_refl _))
    subst e
    refine Tm.of Rt.ret ⟨10 * v + i, congrArg D.int (by push_cast; rfl), ?_⟩
    have : n - r.length = (n - (r.length + 1)) + 1 := by omega
    rw [this, Nat.pow_succ]
    omega
  · obtain ⟨v, y, rfl, h⟩ := ho
    exact tRet (P := fun d => ∃ v : Nat, d = .int v ∧ v < 10 ^ n) (Tm.of (Rt.var rfl) ⟨v, rfl, h⟩) fun d hd => ⟨d, rfl, hd⟩
structure Dr (b : Bk) : Prop where
  ok : OkB b
  q : ∀ r ∈ b.1, noq r
def Drs (bs : List Bk) : Prop := ∀ b ∈ bs, Dr b
theorem rows_strs {P : Str → Prop} : ∀ {ys : List D}, (∀ y ∈ ys, ∃ x, y = .str x ∧ P x) → ∃ rs : List Str, ys = rs.map D.str ∧ ∀ r ∈ rs, P r
  | [], _ => ⟨[], rfl, fun _ z => nomatch z⟩
  | y :: r, h => by
    obtain ⟨x, rfl, hx⟩ := h y List.mem_cons_self
    obtain ⟨rs, rfl, hr⟩ := rows_strs (ys := r) fun z hz => h z (List.mem_cons_of_mem _ hz)
    exact ⟨x :: rs, rfl, fun z hz => by rcases List.mem_cons.mp hz with rfl | hz; exact hx; exact hr z hz⟩
def Rw (r : Str) : Prop := Vr r ∧ noq r
theorem rowG {s : Str} (hs : good2 s) {hi : Nat} (hh : hi ≤ 2) : Tm 3 (g__law_row [.pen, .str s, .int 0, .int hi]) (fun d => ∃ x, d = .str x ∧ Rw x) :=
  (row_t (lo := 0) (hi := hi) hs.1.1.one (by have := hs.1.1.few; omega) (Nat.zero_le _) (by omega)).mono (by omega) fun d ⟨x, e, h1, h2, h3⟩ => ⟨x, e, ⟨fun c hc => hs.1.1.let_ c (h3 c hc), by omega⟩, fun c hc => hs.2 c (h3 c hc)⟩
def Tops (ts : List D) : Prop := 1 ≤ ts.length ∧ ts.length ≤ 100 ∧ ∀ d ∈ ts, ∃ t : Nat, d = .int t ∧ 1 ≤ t ∧ t ≤ 10 ^ 30
@[reducible] def lbR : List Sl → W D := (dLc (dIR1 (dCons (dOp2 addD (dC (.int 1)) (dCall 2 g__law_draw (dCons (dVar 0) (dCons (dC (.int 4)) dNil)))) dNil)) (dName 8) dYes (dCall 2 g__law_pick (dCons (dVar 0) (dCons (dVar 4) dNil))) [8])
abbrev lbδ (s : Str) (m : Nat) (ts pl : List D) (j : Nat) (x y z : Sl) : List Sl := [some .pen, some (.str s), some (.int m), some (.lst ts), some (.lst pl), some (.mu j), x, y, z]
theorem lbR_t {s : Str} {m j : Nat} {ts : List D} {ps : List Str} {x y z : Sl} (h1 : 1 ≤ ps.length) (h2 : ps.length ≤ 100) (hp : ∀ r ∈ ps, Rw r) : Tm 5 (lbR (lbδ s m ts (ps.map .str) j x y z)) (fun d => ∃ rs : List Str, d = .lst (rs.map .str) ∧ 1 ≤ rs.length ∧ rs.length ≤ 4 ∧ ∀ r ∈ rs, Rw r) := by
  refine Tm.bind (B1 := 1) (B2 := 4) (Q := fun ds => ∃ n : Nat, ds = rangeD 0 n ∧ 1 ≤ n ∧ n ≤ 4) ?_ (fun ds hds => ?_) (by decide)
  · refine Tm.bind (B1 := 1) (B2 := 0) (Q := fun ds => ∃ n : Nat, ds = [.int n] ∧ 1 ≤ n ∧ n ≤ 4) ?_ (fun ds ⟨n, e, a, b⟩ => ?_) (by decide)
    · refine Tm.bind (B1 := 1) (B2 := 0) (Q := fun d => ∃ n : Nat, d = .int n ∧ 1 ≤ n ∧ n ≤ 4) ?_ (fun d ⟨n, e, a, b⟩ => Tm.of (Rt.bind Rt.nil Rt.ret) ⟨n, by rw [e], a, b⟩) (by decide)
      refine Tm.bindR Rt.cC (Tm.bind (B2 := 0) (draw_r (m := 4) rfl Rt.cC (by decide) (by decide)) (fun d ⟨i, e, hi⟩ => ?_) (Nat.le_refl _))
      subst e
      exact Tm.of Rt.ret ⟨1 + i, congrArg D.int (by push_cast; rfl), by omega, by omega⟩
    · subst e
      exact Tm.need ⟨by omega, by omega⟩ (Tm.ret ⟨n, by rw [Int.toNat_natCast], a, b⟩)
  · obtain ⟨n, rfl, n1, n2⟩ := hds
    refine Tm.bind (B1 := 4) (B2 := 0) ((Tm.calm (lcD_t (B := 1) (P := fun d => ∃ r, d = .str r ∧ Rw r) _ 0 ?_ (fun _ _ => Rt.ret) (fun d hd => ?_))).mono ?_ (fun _ z => z)) (fun ys hys => ?_) (Nat.le_refl _)
    · rw [rangeD_len]; exact small (by omega)
    · refine (tCall (Rt.cons (Rt.var rfl) (Rt.cons (Rt.var rfl) Rt.nil)) rfl (pick_l (by rw [List.length_map]; exact h1) (by rw [List.length_map]; omega))).mono (Nat.le_refl _) fun d hd => ?_
      obtain ⟨r, hr, rfl⟩ := List.mem_map.mp hd
      exact ⟨r, rfl, hp r hr⟩
    · rw [rangeD_len]; omega
    · obtain ⟨rs, rfl, hr⟩ := rows_strs hys.2
      rw [rangeD_len, List.length_map] at hys
      exact Tm.ret ⟨rs, rfl, by omega, by omega, hr⟩
theorem lblocks_t {s : Str} (hs : good2 s) {m : Nat} (hm : m ≤ 10) {ts : List D} (ht : Tops ts) : Tm (10 + 6 * m) (g__law_lblocks [.pen, .str s, .int m, .lst ts]) (fun d => ∃ bs, d = lD bs ∧ Drs bs ∧ bs.length ≤ m) := by
  refine tBody (parNew (C := D) (B1 := 9) (B2 := 1 + 6 * m) (P := fun d => ∃ ps : List Str, d = .lst (ps.map .str) ∧ ps.length = 3 ∧ ∀ r ∈ ps, Rw r) (xs := []) ?_ Rt.nil (by decide) (fun x hx j => ?_) (by omega))
  · refine Tm.bindR (rIR (k := 3) (Rt.cons Rt.cC Rt.nil) (by decide) (by decide)) (Tm.bind (B1 := 9) (B2 := 0) ((Tm.calm (lcD_t (B := 3) (P := fun d => ∃ r, d = .str r ∧ Rw r) _ 0 (by rw [rangeD_len]; exact small (by decide)) (fun _ _ => Rt.ret) (fun d hd => ?_))).mono (by rw [rangeD_len]; decide) (fun _ z => z)) (fun ys hys => ?_) (Nat.le_refl _))
    · exact tCall (Rt.cons (Rt.var rfl) (Rt.cons (Rt.var rfl) (Rt.cons Rt.cC (Rt.cons Rt.cC Rt.nil)))) rfl (rowG (hi := 2) hs (Nat.le_refl _))
    · obtain ⟨rs, rfl, hr⟩ := rows_strs hys.2
      rw [rangeD_len, List.length_map] at hys
      exact Tm.ret ⟨rs, rfl, hys.1, hr⟩
  · obtain ⟨ps, rfl, hp3, hp⟩ := hx
    refine Tgr.bindK (B1 := 1 + 6 * m) (B2 := 0) (P := fun o xs => ∃ bs x y z, o = .nx (lbδ s m ts (ps.map .str) j x y z) ∧ xs = bs.map blkL ∧ Drs bs ∧ bs.length ≤ m) ?_ (fun o ys ho => ?_) (by omega)
    · refine Tgr.bind (B1 := 1) (B2 := 6 * m) (P := fun ds ys => ∃ n : Nat, ds = rangeD 0 n ∧ n ≤ m ∧ ys = []) (Tgr.ofT (Q := fun ds => ∃ n : Nat, ds = rangeD 0 n ∧ n ≤ m) ?_ fun ds ⟨n, e, h⟩ => ⟨n, e, h, rfl⟩) (fun ds ys hd => ?_) (by omega)
      · refine Tm.bind (B1 := 1) (B2 := 0) (Q := fun ds => ∃ n : Nat, ds = [.int n] ∧ n ≤ m) ?_ (fun ds ⟨n, e, a⟩ => ?_) (by decide)
        · refine Tm.bind (B1 := 1) (B2 := 0) (draw_r (m := m + 1) rfl (Rt.op2 (Rt.var rfl) Rt.cC (Rt.ret.cast (by push_cast; rfl))) (by omega) (by omega)) (fun d ⟨n, e, a⟩ => Tm.of (Rt.bind Rt.nil Rt.ret) ⟨n, by rw [e], by omega⟩) (by decide)
        · subst e
          exact Tm.need ⟨by omega, by omega⟩ (Tm.ret ⟨n, by rw [Int.toNat_natCast], a⟩)
      · obtain ⟨n, rfl, hn, rfl⟩ := hd
        refine (forL (B := 6) (I := fun r δ xs => ∃ bs x y z, δ = lbδ s m ts (ps.map .str) j x y z ∧ xs = bs.map blkL ∧ Drs bs ∧ bs.length + r.length ≤ m) _ _ [] ⟨[], none, none, none, rfl, rfl, fun _ z => (nomatch z), by rw [rangeD_len]; simpa using hn⟩ fun d r δ xs hI => ?_).mono (by rw [rangeD_len]; exact Nat.mul_le_mul_left 6 hn) fun o c ⟨ε, e, bs, x, y, z, e2, e3, h1, h2⟩ => ⟨bs, x, y, z, by rw [e, e2], e3, h1, by simpa using h2⟩
        obtain ⟨bs, x, y, z, rfl, rfl, hb, hl⟩ := hI
        rw [List.length_cons] at hl
        refine Tgr.bind (B1 := 0) (P := fun ε ys => ε = lbδ s m ts (ps.map .str) j (some d) y z ∧ ys = bs.map blkL) (Tgr.ofR Rt.ret ⟨rfl, rfl⟩) (fun ε ys he => ?_) (B2 := 6) (by omega)
        obtain ⟨rfl, rfl⟩ := he
        refine tgAsg (B1 := 5) (B2 := 1) (lbR_t (by omega) (by omega) hp) (fun d2 h2 => ?_) (by decide)
        obtain ⟨rs, rfl, r1, r2, r3⟩ := h2
        refine (Tgr.app (i := 5) (Qd := fun d => ∃ t : Nat, d = blkL (rs, t) ∧ 1 ≤ t ∧ t ≤ 10 ^ 30) rfl ?_ (by rw [List.length_map]; omega)).mono (Nat.le_refl _) fun o ys ho => ?_
        · refine Tm.bind (B1 := 1) (B2 := 0) (Q := fun ds => ∃ t : Nat, ds = [.lst (rs.map .str), .int t] ∧ 1 ≤ t ∧ t ≤ 10 ^ 30) ?_ (fun ds ⟨t, e, a, b⟩ => Tm.need (by rw [e]; exact small (show 2 ≤ 4000 by decide)) (Tm.ret ⟨t, by rw [e]; rfl, a, b⟩)) (by decide)
          refine Tm.bindR (Rt.var rfl) (Tm.bind (B1 := 1) (B2 := 0) (Q := fun ds => ∃ t : Nat, ds = [.int t] ∧ 1 ≤ t ∧ t ≤ 10 ^ 30) ?_ (fun ds ⟨t, e, a, b⟩ => Tm.of Rt.ret ⟨t, by rw [e], a, b⟩) (by decide))
          refine Tm.bind (B1 := 1) (B2 := 0) (tCall (Rt.cons (Rt.var rfl) (Rt.cons (Rt.var rfl) Rt.nil)) rfl (pick_l ht.1 (by have := ht.2.1; omega))) (fun d hd => ?_) (by decide)
          obtain ⟨t, rfl, a, b⟩ := ht.2.2 d hd
          exact Tm.of (Rt.bind Rt.nil Rt.ret) ⟨t, rfl, a, b⟩
        · obtain ⟨rfl, y2, rfl, t, rfl, a, b⟩ := ho
          refine ⟨_, rfl, bs ++ [(rs, t)], some d, some (.lst (rs.map .str)), z, rfl, by simp, fun c hc => ?_, by simp; omega⟩
          rcases List.mem_append.mp hc with hc | hc
          · exact hb c hc
          · rw [List.mem_singleton.mp hc]
            exact ⟨⟨⟨r1, a⟩, r2, b, fun r hr => (r3 r hr).1⟩, fun r hr => (r3 r hr).2⟩
    · obtain ⟨bs, x, y, z, rfl, rfl, h1, h2⟩ := ho
      exact Tgk.ice (i := 5) rfl (tRet (P := fun d => ∃ bs, d = lD bs ∧ Drs bs ∧ bs.length ≤ m) (Tm.of (Rt.var rfl) ⟨bs, rfl, h1, h2⟩) fun d hd => ⟨d, rfl, hd⟩)
end Lw
namespace Lw
open PySem L2 Ly
def Pd (rs : List Str) (o : Nat) (bs : List Bk) : Prop := ∀ n, n < szs bs → at0 bs n = rs[(o + n) % rs.length]?
theorem Pd.nil {rs : List Str} {o : Nat} : Pd rs o [] := fun n h => absurd h (Nat.not_lt_zero _)
theorem Pd.cons {rs : List Str} {o : Nat} {b : Bk} {r : List Bk} (h1 : ∀ n, n < szB b → b.1[n % b.1.length]? = rs[(o + n) % rs.length]?) (h2 : Pd rs (o + szB b) r) : Pd rs o (b :: r) := fun n hn => by
  have hn : n < szB b + szs r := hn
  unfold at0
  split
  · rename_i z; exact h1 n z
  · rename_i z
    rw [h2 _ (by omega)]
    congr 2; omega
theorem Pd.one {rs : List Str} {o : Nat} {b : Bk} (hl : ∀ i, i < b.1.length → b.1[i]? = rs[(o + i) % rs.length]?) (hc : b.2 ≤ 1 ∨ b.1.length % rs.length = 0) (hb : 1 ≤ b.1.length) : ∀ n, n < szB b → b.1[n % b.1.length]? = rs[(o + n) % rs.length]? := fun n hn => by
  rcases hc with hc | hc
  · have hs : szB b ≤ b.1.length := Nat.le_trans (Nat.mul_le_mul_left _ hc) (by omega)
    rw [Nat.mod_eq_of_lt (by omega)]
    exact hl n (by omega)
  · rw [hl _ (Nat.mod_lt _ hb)]
    congr 1
    have e : n = b.1.length * (n / b.1.length) + n % b.1.length := (Nat.div_add_mod _ _).symm
    have z : (b.1.length * (n / b.1.length)) % rs.length = 0 := by rw [Nat.mul_mod, hc, Nat.zero_mul, Nat.zero_mod]
    conv => rhs; rw [e]
    rw [show o + (b.1.length * (n / b.1.length) + n % b.1.length) = b.1.length * (n / b.1.length) + (o + n % b.1.length) by omega, Nat.add_mod (b.1.length * (n / b.1.length)), z, Nat.zero_add, Nat.mod_mod]
theorem Pd.sm {rs : List Str} {t : Nat} {bs : List Bk} (h : Pd rs 0 bs) (e : szs bs = rs.length * t) : Sm [(rs, t)] bs := fun n => by
  show (if n < szB (rs, t) then rs[n % rs.length]? else none) = _
  split
  · rename_i z
    have z : n < rs.length * t := z
    rw [h n (by omega), Nat.zero_add]
  · rename_i z
    have z : ¬ n < rs.length * t := z
    rw [at0_ge (by omega)]
theorem Pd.whole {rs : List Str} {o t : Nat} (ho : o % rs.length = 0) (hb : 1 ≤ rs.length) : ∀ n, n < szB (rs, t) → rs[n % rs.length]? = rs[(o + n) % rs.length]? :=
  Pd.one (b := (rs, t)) (fun i hi => by rw [Nat.add_mod, ho, Nat.zero_add, Nat.mod_mod, Nat.mod_eq_of_lt hi]) (.inr (Nat.mod_self _)) hb
theorem Pd.front {rs : List Str} {o k : Nat} (ho : o % rs.length = 0) (hk : 1 ≤ k) (hl : k ≤ rs.length) : ∀ n, n < szB (rs.take k, 1) → (rs.take k)[n % (rs.take k).length]? = rs[(o + n) % rs.length]? :=
  Pd.one (b := (rs.take k, 1)) (fun i hi => by
    have hi : i < (rs.take k).length := hi
    rw [List.length_take] at hi
    rw [Nat.add_mod, ho, Nat.zero_add, Nat.mod_mod, Nat.mod_eq_of_lt (by omega)]
    show (rs.take k)[i]? = _
    rw [List.getElem?_take_of_lt (by omega)]) (.inl (Nat.le_refl _)) (by show 1 ≤ (rs.take k).length; rw [List.length_take]; omega)
theorem Pd.back {rs : List Str} {o k : Nat} (ho : o % rs.length = k) (hl : k < rs.length) : ∀ n, n < szB (rs.drop k, 1) → (rs.drop k)[n % (rs.drop k).length]? = rs[(o + n) % rs.length]? :=
  Pd.one (b := (rs.drop k, 1)) (fun i hi => by
    have hi : i < (rs.drop k).length := hi
    rw [List.length_drop] at hi
    rw [Nat.add_mod, ho, Nat.mod_eq_of_lt (show i < rs.length by omega), Nat.mod_eq_of_lt (by omega)]
    show (rs.drop k)[i]? = _
    rw [List.getElem?_drop]) (.inl (Nat.le_refl _)) (by show 1 ≤ (rs.drop k).length; rw [List.length_drop]; omega)
theorem Pd.turned {rs : List Str} {o k t : Nat} (ho : o % rs.length = k) (hl : k < rs.length) : ∀ n, n < szB (rs.drop k ++ rs.take k, t) → (rs.drop k ++ rs.take k)[n % (rs.drop k ++ rs.take k).length]? = rs[(o + n) % rs.length]? := by
  have e : (rs.drop k ++ rs.take k).length = rs.length := by rw [List.length_append, List.length_drop, List.length_take]; omega
  refine Pd.one (b := (rs.drop k ++ rs.take k, t)) (fun i hi => ?_) (.inr (by show (rs.drop k ++ rs.take k).length % _ = 0; rw [e, Nat.mod_self])) (by show 1 ≤ (rs.drop k ++ rs.take k).length; omega)
  have hi : i < (rs.drop k ++ rs.take k).length := hi
  rw [e] at hi
  rw [Nat.add_mod, ho, Nat.mod_eq_of_lt hi]
  show (rs.drop k ++ rs.take k)[i]? = _
  by_cases z : k + i < rs.length
  · rw [Nat.mod_eq_of_lt z, List.getElem?_append_left (by rw [List.length_drop]; omega), List.getElem?_drop]
  · rw [List.getElem?_append_right (by rw [List.length_drop]; omega), List.length_drop, List.getElem?_take_of_lt (by omega)]
    congr 1
    rw [Nat.mod_eq_sub_mod (by omega), Nat.mod_eq_of_lt (by omega)]
    omega
theorem Pd.twice {rs : List Str} {o t : Nat} (ho : o % rs.length = 0) (hb : 1 ≤ rs.length) : ∀ n, n < szB (rs ++ rs, t) → (rs ++ rs)[n % (rs ++ rs).length]? = rs[(o + n) % rs.length]? := by
  refine Pd.one (b := (rs ++ rs, t)) (fun i hi => ?_) (.inr (by show (rs ++ rs).length % _ = 0; rw [List.length_append, Nat.add_mod_right, Nat.mod_self])) (by show 1 ≤ (rs ++ rs).length; rw [List.length_append]; omega)
  have hi : i < (rs ++ rs).length := hi
  rw [List.length_append] at hi
  rw [Nat.add_mod, ho, Nat.zero_add, Nat.mod_mod]
  show (rs ++ rs)[i]? = _
  by_cases z : i < rs.length
  · rw [Nat.mod_eq_of_lt z, List.getElem?_append_left z]
  · rw [List.getElem?_append_right (by omega), Nat.mod_eq_sub_mod (by omega), Nat.mod_eq_of_lt (by omega)]
theorem OkB.front {b : Bk} (h : OkB b) {k t : Nat} (hk : 1 ≤ k) (h1 : 1 ≤ t) (h2 : t ≤ b.2) : OkB (b.1.take k, t) := ⟨⟨by have := h.v.1; show 1 ≤ (b.1.take k).length; rw [List.length_take]; omega, h1⟩, by have := h.l; show (b.1.take k).length ≤ 4; rw [List.length_take]; omega, Nat.le_trans h2 h.t, fun r hr => h.r r (List.mem_of_mem_take hr)⟩
theorem OkB.back {b : Bk} (h : OkB b) {k t : Nat} (hk : k < b.1.length) (h1 : 1 ≤ t) (h2 : t ≤ b.2) : OkB (b.1.drop k, t) := ⟨⟨by show 1 ≤ (b.1.drop k).length; rw [List.length_drop]; omega, h1⟩, by have := h.l; show (b.1.drop k).length ≤ 4; rw [List.length_drop]; omega, Nat.le_trans h2 h.t, fun r hr => h.r r (List.mem_of_mem_drop hr)⟩
theorem OkB.times {b : Bk} (h : OkB b) {t : Nat} (h1 : 1 ≤ t) (h2 : t ≤ b.2) : OkB (b.1, t) := ⟨⟨h.v.1, h1⟩, h.l, Nat.le_trans h2 h.t, h.r⟩
def cutP (b : Bk) (m : Nat) : List Bk := (if 0 < m / b.1.length then [(b.1, m / b.1.length)] else []) ++ (if 0 < m % b.1.length then [(b.1.take (m % b.1.length), 1)] else [])
def cutR (b : Bk) (m : Nat) : List Bk := if 0 < m % b.1.length then (b.1.drop (m % b.1.length), 1) :: (if 1 < b.2 - m / b.1.length then [(b.1, b.2 - m / b.1.length - 1)] else []) else [(b.1, b.2 - m / b.1.length)]
section
variable {b : Bk} {m : Nat}
theorem cut_div (hb : 1 ≤ b.1.length) (hm : m < szB b) : m / b.1.length < b.2 := Nat.div_lt_of_lt_mul hm
theorem cutP_sz (h : OkB b) : szs (cutP b m) = m := by
  have hv := h.v.1
  have e := Nat.div_add_mod m b.1.length
  have hr := Nat.mod_lt m hv
  unfold cutP
  rw [szs_app]
  have e1 : szs (if 0 < m / b.1.length then [(b.1, m / b.1.length)] else []) = b.1.length * (m / b.1.length) := by
    split
    · rfl
    · rename_i z
      rw [Nat.le_zero.mp (Nat.not_lt.mp z)]; rfl
  have e2 : szs (if 0 < m % b.1.length then [(b.1.take (m % b.1.length), 1)] else []) = m % b.1.length := by
    split
    · show (b.1.take (m % b.1.length)).length * 1 + 0 = _
      rw [List.length_take]; omega
    · rename_i z
      rw [show m % b.1.length = 0 by omega]; rfl
  rw [e1, e2, e]
theorem cutP_ok (h : OkB b) (hm : m < szB b) : ∀ c ∈ cutP b m, OkB c := fun c hc => by
  have hv := h.v.1
  have hd := cut_div hv hm
  unfold cutP at hc
  rcases List.mem_append.mp hc with hc | hc
  · split at hc
    · rw [List.mem_singleton.mp hc]; exact h.times (by omega) (by omega)
    · cases hc
  · split at hc
    · rw [List.mem_singleton.mp hc]; exact h.front (by omega) (Nat.le_refl _) h.v.2
    · cases hc
theorem cutR_ok (h : OkB b) (hm : m < szB b) : ∀ c ∈ cutR b m, OkB c := fun c hc => by
  have hv := h.v.1
  have hd := cut_div hv hm
  have hr := Nat.mod_lt m hv
  unfold cutR at hc
  split at hc
  · rcases List.mem_cons.mp hc with rfl | hc
    · exact h.back hr (Nat.le_refl _) h.v.2
    · split at hc
      · rw [List.mem_singleton.mp hc]; exact h.times (by generalize m / b.1.length = q at *; omega) (Nat.le_trans (Nat.sub_le ..) (by first | exact Nat.sub_le .. | exact Nat.le_refl _))
      · cases hc
  · rw [List.mem_singleton.mp hc]; exact h.times (by generalize m / b.1.length = q at *; omega) (Nat.le_trans (Nat.sub_le ..) (by first | exact Nat.sub_le .. | exact Nat.le_refl _))
theorem cut_sm (h : OkB b) (hm : m < szB b) : Sm [b] (cutP b m ++ cutR b m) := by
  have hv := h.v.1
  have hd := cut_div hv hm
  have hr := Nat.mod_lt m hv
  have e := Nat.div_add_mod m b.1.length
  have q0 : (b.1.length * (m / b.1.length)) % b.1.length = 0 := Nat.mul_mod_right ..
  have tail : Pd b.1 m (cutR b m) ∧ m + szs (cutR b m) = b.1.length * b.2 := by
    unfold cutR
    split
    · rename_i z
      have l1 : szB (b.1.drop (m % b.1.length), 1) = b.1.length - m % b.1.length := by show (b.1.drop _).length * 1 = _; rw [List.length_drop]; omega
      have mo : (m + (b.1.length - m % b.1.length)) = b.1.length * (m / b.1.length + 1) := by rw [Nat.mul_add]; omega
      split
      · rename_i y
        refine ⟨Pd.cons (Pd.back rfl hr) (Pd.cons (Pd.whole (by rw [l1, mo]; exact Nat.mul_mod_right ..) hv) Pd.nil), ?_⟩
        show m + (szB (b.1.drop (m % b.1.length), 1) + (b.1.length * (b.2 - m / b.1.length - 1) + 0)) = _
        rw [l1, Nat.add_zero, ← Nat.add_assoc, mo, ← Nat.mul_add]
        clear mo e q0
        generalize m / b.1.length = q at *
        congr 1; omega
      · rename_i y
        refine ⟨Pd.cons (Pd.back rfl hr) Pd.nil, ?_⟩
        show m + (szB (b.1.drop (m % b.1.length), 1) + 0) = _
        rw [l1, Nat.add_zero, mo]
        clear mo e q0
        generalize m / b.1.length = q at *
        congr 1; omega
    · rename_i z
      refine ⟨Pd.cons (Pd.whole (by omega) hv) Pd.nil, ?_⟩
      show m + (b.1.length * (b.2 - m / b.1.length) + 0) = _
      have em : m = b.1.length * (m / b.1.length) := by omega
      rw [Nat.add_zero]
      conv => lhs; lhs; rw [em]
      rw [← Nat.mul_add]
      congr 1; omega
  have all : Pd b.1 0 (cutP b m ++ cutR b m) := by
    have hs := cutP_sz (m := m) h
    intro n hn
    rw [szs_app, hs] at hn
    rw [at0_app, hs]
    split
    · rename_i z
      have hp : Pd b.1 0 (cutP b m) := by
        unfold cutP
        split
        · split
          · refine Pd.cons (Pd.whole (Nat.zero_mod _) hv) (Pd.cons (Pd.front ?_ (by omega) (by omega)) Pd.nil)
            rw [Nat.zero_add]; exact q0
          · exact Pd.cons (Pd.whole (Nat.zero_mod _) hv) Pd.nil
        · split
          · exact Pd.cons (Pd.front (Nat.zero_mod _) (by omega) (by omega)) Pd.nil
          · exact Pd.nil
      exact hp n (by rw [hs]; exact z)
    · rename_i z
      rw [tail.1 _ (by omega)]
      congr 2; omega
  exact Pd.sm all (by rw [szs_app, cutP_sz h]; exact tail.2)
end
def edg (acc : Nat) : List Bk → List Nat
  | [] => []
  | b :: r => (acc + szB b) :: edg (acc + szB b) r
theorem edg_len : ∀ (bs : List Bk) (acc : Nat), (edg acc bs).length = bs.length
  | [], _ => rfl
  | b :: r, acc => congrArg (· + 1) (edg_len r _)
theorem edg_le : ∀ (bs : List Bk) (acc e : Nat), Vbs bs → e ∈ edg acc bs → acc < e ∧ e ≤ acc + szs bs
  | [], _, _, _, h => nomatch h
  | b :: r, acc, e, v, h => by
    have vb := (v b List.mem_cons_self).sz
    show acc < e ∧ e ≤ acc + (szB b + szs r)
    rcases List.mem_cons.mp h with rfl | h
    · omega
    · have := edg_le r (acc + szB b) e (fun c hc => v c (List.mem_cons_of_mem _ hc)) h
      omega
theorem edg_last : ∀ (bs : List Bk) (acc : Nat), bs ≠ [] → acc + szs bs ∈ edg acc bs
  | [], _, h => absurd rfl h
  | [b], acc, _ => by show acc + (szB b + 0) ∈ [acc + szB b]; rw [Nat.add_zero]; exact List.mem_singleton.mpr rfl
  | b :: c :: r, acc, _ => by
    have := edg_last (c :: r) (acc + szB b) (by simp)
    rw [show acc + szs (b :: c :: r) = acc + szB b + szs (c :: r) by show acc + (szB b + szs (c :: r)) = _; omega]
    exact List.mem_cons_of_mem _ this
theorem blk_at : ∀ (bs : List Bk) (acc s t : Nat), acc ≤ s → s < t → t ≤ acc + szs bs → (∀ e ∈ edg acc bs, e ≤ s ∨ t ≤ e) → ∃ x ∈ bs, ∃ f, ∀ i, s + i < t → at0 bs (s - acc + i) = x.1[(f + i) % x.1.length]?
  | [], acc, s, t, h1, h2, h3, _ => absurd h3 (by show ¬ t ≤ acc + 0; omega)
  | b :: r, acc, s, t, h1, h2, h3, h4 => by
    have h3 : t ≤ acc + (szB b + szs r) := h3
    rcases h4 (acc + szB b) List.mem_cons_self with z | z
    · obtain ⟨x, hx, f, hf⟩ := blk_at r (acc + szB b) s t z h2 (by omega) (fun e he => h4 e (List.mem_cons_of_mem _ he))
      refine ⟨x, List.mem_cons_of_mem _ hx, f, fun i hi => ?_⟩
      unfold at0
      rw [if_neg (by omega), ← hf i hi]
      congr 1; omega
    · refine ⟨b, List.mem_cons_self, s - acc, fun i hi => ?_⟩
      unfold at0
      rw [if_pos (by omega)]
theorem edge_step {a b : List Bk} (ha : OkBs a) (hb : OkBs b) {s t : Nat} (hs : s < t) (ta : t ≤ szs a) (tb : t ≤ szs b) (ea : ∀ e ∈ edg 0 a, e ≤ s ∨ t ≤ e) (eb : ∀ e ∈ edg 0 b, e ≤ s ∨ t ≤ e) (h : ∀ n, s ≤ n → n < t → n < s + 12 → at0 a n = at0 b n) : ∀ n, s ≤ n → n < t → at0 a n = at0 b n := by
  obtain ⟨x, hx, f, hf⟩ := blk_at a 0 s t (Nat.zero_le _) hs (by omega) ea
  obtain ⟨y, hy, g, hg⟩ := blk_at b 0 s t (Nat.zero_le _) hs (by omega) eb
  have vx := ha.2 x hx
  have vy := hb.2 y hy
  have all := two_blocks (m := x.1) (y := y.1) (b := f) (f := g) (L := t - s) vx.v.1 vy.v.1 (fun i h1 h2 => by
    have := vx.l
    have := vy.l
    rw [← hf i (by omega), ← hg i (by omega), Nat.sub_zero]
    exact h (s + i) (by omega) (by omega) (by omega))
  intro n h1 h2
  have e1 := hf (n - s) (by omega)
  have e2 := hg (n - s) (by omega)
  rw [Nat.sub_zero, show s + (n - s) = n by omega] at e1 e2
  rw [e1, e2]
  exact all (n - s) (by omega)
def insN (k : Nat) : List Nat → List Nat
  | [] => [k]
  | m :: r => if k < m then k :: m :: r else if k = m then m :: r else m :: insN k r
theorem mem_ins {k j : Nat} : ∀ {l : List Nat}, j ∈ insN k l ↔ j = k ∨ j ∈ l
  | [] => by simp [insN]
  | m :: r => by
    unfold insN
    split
    · simp
    · split
      · rename_i e; subst e; simp
      · rw [List.mem_cons, mem_ins, List.mem_cons]
        constructor
        · rintro (h | h | h)
          · exact .inr (.inl h)
          · exact .inl h
          · exact .inr (.inr h)
        · rintro (h | h | h)
          · exact .inr (.inl h)
          · exact .inl h
          · exact .inr (.inr h)
theorem pw_ins {k : Nat} : ∀ {l : List Nat}, l.Pairwise (· < ·) → (insN k l).Pairwise (· < ·)
  | [], _ => by unfold insN; exact List.pairwise_singleton ..
  | m :: r, h => by
    obtain ⟨h1, h2⟩ := List.pairwise_cons.mp h
    unfold insN
    split
    · rename_i z
      refine List.pairwise_cons.mpr ⟨fun x hx => ?_, h⟩
      rcases List.mem_cons.mp hx with rfl | hx
      · exact z
      · exact Nat.lt_trans z (h1 x hx)
    · split
      · exact h
      · refine List.pairwise_cons.mpr ⟨fun x hx => ?_, pw_ins h2⟩
        rcases mem_ins.mp hx with rfl | hx
        · omega
        · exact h1 x hx
def sortN (ns : List Nat) : List Nat := ns.foldr insN []
theorem mem_sort {j : Nat} : ∀ {ns : List Nat}, j ∈ sortN ns ↔ j ∈ ns
  | [] => Iff.rfl
  | n :: r => by
    show j ∈ insN n (sortN r) ↔ _
    rw [mem_ins, mem_sort, List.mem_cons]
theorem pw_sort : ∀ {ns : List Nat}, (sortN ns).Pairwise (· < ·)
  | [] => List.Pairwise.nil
  | n :: r => pw_ins (l := sortN r) pw_sort
theorem pw_eq : ∀ {a b : List Int}, a.Pairwise (· < ·) → b.Pairwise (· < ·) → (∀ k, k ∈ a ↔ k ∈ b) → a = b
  | [], [], _, _, _ => rfl
  | [], y :: r, _, _, h => absurd ((h y).mpr List.mem_cons_self) (fun z => nomatch z)
  | x :: r, [], _, _, h => absurd ((h x).mp List.mem_cons_self) (fun z => nomatch z)
  | x :: r, y :: q, ha, hb, h => by
    obtain ⟨a1, a2⟩ := List.pairwise_cons.mp ha
    obtain ⟨b1, b2⟩ := List.pairwise_cons.mp hb
    have e : x = y := by
      rcases List.mem_cons.mp ((h x).mp List.mem_cons_self) with z | z
      · exact z
      · rcases List.mem_cons.mp ((h y).mpr List.mem_cons_self) with w | w
        · exact w.symm
        · have := b1 x z
          have := a1 y w
          omega
    subst e
    congr 1
    refine pw_eq a2 b2 fun k => ⟨fun hk => ?_, fun hk => ?_⟩
    · rcases List.mem_cons.mp ((h k).mp (List.mem_cons_of_mem _ hk)) with z | z
      · subst z; exact absurd (a1 k hk) (by omega)
      · exact z
    · rcases List.mem_cons.mp ((h k).mpr (List.mem_cons_of_mem _ hk)) with z | z
      · subst z; exact absurd (b1 k hk) (by omega)
      · exact z
end Lw
namespace Lw
open PySem L2 Ly
open Lx (inS cutL Ky IsTb atI_in)
theorem at0_mem : ∀ {bs : List Bk} {n : Nat} {r : Str}, at0 bs n = some r → ∃ b ∈ bs, r ∈ b.1
  | [], n, r, h => by cases h
  | b :: q, n, r, h => by
    unfold at0 at h
    split at h
    · exact ⟨b, List.mem_cons_self, List.mem_of_getElem? h⟩
    · obtain ⟨c, hc, hr⟩ := at0_mem h
      exact ⟨c, List.mem_cons_of_mem _ hc, hr⟩
def rowD : Option Str → D
  | none => .non
  | some r => .str r
section
variable {δ : List Sl}
theorem lenL_r {rs : List Str} {v : Nat} (h1 : δ[v]? = some (some (.lst (rs.map .str)))) : Rt (dOpn lenD (dCons (dVar v) dNil) δ) (.int (rs.length : Nat)) := Rt.opn (Rt.cons (Rt.var h1) Rt.nil) (Rt.ret.cast (by rw [List.length_map]))
theorem szL_r {rs : List Str} {t v w : Nat} (h1 : δ[v]? = some (some (.lst (rs.map .str)))) (h2 : δ[w]? = some (some (.int t))) (hl : rs.length ≤ 4000) : Rt (dOp2 mulUD (dOpn lenD (dCons (dVar v) dNil)) (dVar w) δ) (.int (szB (rs, t) : Nat)) :=
  Rt.op2 (lenL_r h1) (Rt.var h2) ((Rt.need (.inl ⟨by omega, by omega⟩) Rt.ret).cast (by show _ = D.int ((rs.length * t : Nat) : Int); rw [Int.natCast_mul]))
theorem lsize_r {bs : List Bk} (h : Sh bs) : Rt (g__law_lsize [lD bs]) (.int (szs bs : Nat)) := by
  refine Rt.bodyR (Rt.rets (Rt.opn (Rt.cons (rLc (rIL (Rt.var rfl)) (lcG blkL (fun b => ([some (lD bs), some (.lst (b.1.map .str)), some (.int (b.2 : Nat))] : List Sl)) (fun b => D.int (szB b : Nat)) bs 0 (fun b _ => two_g) (fun b hb => szL_r rfl rfl (by have := h.2 b hb; omega)) (by have := h.1; rw [sizeLine_eq]; omega))) Rt.nil) ?_))
  show Rt (match intsD _ with | some ns => W.ret (D.int ns.sum) | none => W.stuck) _
  have e : (bs.map fun b => D.int (szB b : Nat)) = (bs.map fun b => ((szB b : Nat) : Int)).map D.int := by rw [List.map_map]; rfl
  rw [e, intsD_map]
  refine Rt.ret.cast (congrArg D.int ?_)
  clear h e
  induction bs with
  | nil => rfl
  | cons b r ih => rw [List.map_cons, List.sum_cons, ih]; show _ = ((szB b + szs r : Nat) : Int); omega
@[reducible] def llF : List Sl → W Out := (dSeq (dIf (dTest (dOp2 ltD (dVar 1) (dOp2 mulUD (dOpn lenD (dCons (dVar 2) dNil)) (dVar 3)))) (dRet (dOp2 ixD (dVar 2) (dOp2 modD (dOpn intD (dCons (dVar 1) dNil)) (dOpn lenD (dCons (dVar 2) dNil))))) dNext)
  (dAsg (dOp2 subD (dVar 1) (dOp2 mulUD (dOpn lenD (dCons (dVar 2) dNil)) (dVar 3))) (dName 1)))
theorem lline_for {b0 : D} : ∀ (bs : List Bk) (n : Nat) (y z : Sl), (∀ b ∈ bs, Vb b ∧ b.1.length ≤ 1000) → (∃ r, at0 bs n = some r ∧ Rt (forD (dGTup 2 (dGCons (dName 2) (dGCons (dName 3) dGNil))) llF (bs.map blkL) [some b0, some (.int n), y, z]) (.rt (.str r))) ∨ (at0 bs n = none ∧ ∃ ε, Rt (forD (dGTup 2 (dGCons (dName 2) (dGCons (dName 3) dGNil))) llF (bs.map blkL) [some b0, some (.int n), y, z]) (.nx ε))
  | [], n, y, z, _ => .inr ⟨rfl, _, Rt.ret⟩
  | b :: r, n, y, z, h => by
    obtain ⟨hv, hl⟩ := h b List.mem_cons_self
    have ht : ∀ {c : Bool}, c = decide (n < szB b) → Rt (dTest (dOp2 ltD (dVar 1) (dOp2 mulUD (dOpn lenD (dCons (dVar 2) dNil)) (dVar 3))) [some b0, some (.int n), some (.lst (b.1.map .str)), some (.int (b.2 : Nat))]) c := fun e => (Rt.test (Rt.op2 (Rt.var rfl) (szL_r (rs := b.1) (t := b.2) rfl rfl (by omega)) Rt.ret)).cast (by rw [e]; exact decide_eq_decide.mpr (by show ((n : Nat) : Int) < ((szB b : Nat) : Int) ↔ _; omega))
    rw [List.map_cons]
    by_cases c : n < szB b
    · have hm := Nat.mod_lt n hv.1
      refine .inl ⟨b.1[n % b.1.length], ?_, Rt.bind two_g (Rt.bind (Rt.seqR (Rt.ifT (ht (by rw [decide_eq_true c])) (Rt.rets (Rt.op2 (Rt.var rfl) (Rt.op2 (Rt.opn (Rt.cons (Rt.var rfl) Rt.nil) Rt.ret) (Rt.opn (Rt.cons (Rt.var rfl) Rt.nil) Rt.ret) (Rt.need (by rw [List.length_map]; have := hv.1; omega) Rt.ret)) (Rt.ixL ?_))))) Rt.ret)⟩
      · unfold at0
        rw [if_pos c, List.getElem?_eq_getElem hm]
      · rw [List.length_map, show ((n : Int) % (b.1.length : Int)) = ((n % b.1.length : Nat) : Int) by rw [Int.natCast_emod]]
        exact atI_map D.str (List.getElem?_eq_getElem hm)
    · have step : ∀ {o : Out}, Rt (forD (dGTup 2 (dGCons (dName 2) (dGCons (dName 3) dGNil))) llF (r.map blkL) [some b0, some (.int (n - szB b : Nat)), some (.lst (b.1.map .str)), some (.int (b.2 : Nat))]) o → Rt (forD (dGTup 2 (dGCons (dName 2) (dGCons (dName 3) dGNil))) llF (blkL b :: r.map blkL) [some b0, some (.int n), y, z]) o := fun q =>
        Rt.bind two_g (Rt.bind (Rt.seq (Rt.ifF (ht (by rw [decide_eq_false c])) Rt.next) (Rt.asg (d := .int (n - szB b : Nat)) (Rt.op2 (Rt.var rfl) (szL_r (rs := b.1) (t := b.2) rfl rfl (by omega)) (Rt.ret.cast (congrArg D.int (by show ((n : Nat) : Int) - ((szB b : Nat) : Int) = _; omega)))))) q)
      have e : at0 (b :: r) n = at0 r (n - szB b) := by
        show (if n < szB b then _ else _) = _
        rw [if_neg c]
      rw [e]
      rcases lline_for r (n - szB b) (some (.lst (b.1.map .str))) (some (.int (b.2 : Nat))) (fun x hx => h x (List.mem_cons_of_mem _ hx)) with ⟨x, h1, h2⟩ | ⟨h1, ε, h2⟩
      · exact .inl ⟨x, h1, step h2⟩
      · exact .inr ⟨h1, ε, step h2⟩
theorem lline_r {bs : List Bk} (h : OkBs bs) {k : Nat} (hk : 1 ≤ k) : Rt (g__law_lline [lD bs, .int k]) (rowD (at0 bs (k - 1))) := by
  refine Rt.bodyR (Rt.seq (Rt.asg (d := .int (k - 1 : Nat)) (Rt.op2 (Rt.var rfl) Rt.cC (Rt.ret.cast (congrArg D.int (by omega))))) ?_)
  rcases lline_for (b0 := lD bs) bs (k - 1) none none (fun b hb => ⟨(h.2 b hb).v, by have := (h.2 b hb).l; omega⟩) with ⟨x, h1, h2⟩ | ⟨h1, ε, h2⟩
  · rw [h1]; exact Rt.seqR (Rt.bind (rIL (Rt.var rfl)) h2)
  · rw [h1]; exact Rt.seq (Rt.bind (rIL (Rt.var rfl)) h2) (Rt.rets Rt.cC)
theorem lwritten_r {r : Str} : Rt (g__law_lwritten [lD [([r], 1)]]) (.lst [.str r]) := by
  refine Rt.bodyR (Rt.rets (Rt.opn (Rt.cons (rLc (rIL (Rt.var rfl)) (lcG blkL (fun b => ([some (lD [([r], 1)]), some (.lst (b.1.map .str)), some (.int (b.2 : Nat))] : List Sl)) (fun _ => D.lst [.str r]) [([r], 1)] 0 (fun b _ => two_g) (fun b hb => ?_) (small (show 1 ≤ 4000 by decide)))) (Rt.cons (Rt.lst Rt.nil (small (Nat.zero_le _))) Rt.nil)) (Rt.need (small (show 1 ≤ 4000 by decide)) Rt.ret)))
  rw [List.mem_singleton.mp hb]
  exact Rt.op2 (Rt.opn (Rt.cons (Rt.var rfl) Rt.nil) Rt.ret) (Rt.var rfl) (Rt.need ⟨Int.le_of_lt Int.one_pos, by show (1 : Int) < 4000; decide, small (show 1 ≤ 4000 by decide)⟩ Rt.ret)
end
section
variable {I : List Nat} {L L1 : Hm} {δ ε : List Sl} {v j : Nat} {B B1 B2 : Nat}
theorem Hd.popV {d : D} {xs : List D} (h : δ[v]? = some (some (.mu j))) (e : L j = some (.lst (d :: xs))) (hl : xs.length < 4000) : Hd I L (L.put j (.lst xs)) (dPopV (dVar v) (dC (.int 0)) δ) d :=
  Hd.bind (Hd.var h) (Hd.muW e (Hd.bind (Hd.of Rt.cC) (Hd.muW e (Hd.need ⟨by decide, small (show xs.length + 1 ≤ 4000 by omega)⟩ (Hd.bind (Hd.put e) Hd.ret)))))
theorem Hd.asgG {fe : List Sl → W D} {dg : D → List Sl → W (List Sl)} {d : D} (h : Hd I L L1 (fe δ) d) (g : Rt (dg d δ) ε) : Hd I L L1 (dAsg fe dg δ) (.nx ε) := Hd.bind h (Hd.bind (Hd.of g) Hd.ret)
theorem Hw.new {C : Type} {o : MO} {k : Nat → W C} {T : C → Hm → Prop} (h : ∀ n, L n = none → Hw I B (L.put n o) (k n) T) : Hw I B L ((W.new o).bind k) T := fun base s E hn ha => h s.st.length ha.fresh base ⟨s.n, s.st ++ [o]⟩ E hn ha.new
theorem asgAdd {fa : List Sl → W D} {w : Nat} {xs ys : List D} (ha : Rt (fa δ) (.lst xs)) (h : δ[w]? = some (some (.mu j))) (e : L j = some (.lst ys)) (hl : xs.length + ys.length ≤ 4000) : Hw I 0 L (dAsg (dOp2 addLM fa (dVar w)) (dName v) δ) (fun o L' => ∃ n, L n = none ∧ L' = L.put n (.lst (xs ++ ys)) ∧ o = .nx (δ.set v (some (.mu n)))) :=
  show Hw I 0 L ((fa δ).bind fun x => (dVar w δ).bind fun y => (lstW x).bind fun xs => (lstW y).bind fun ys => W.need (xs.length + ys.length ≤ sizeLine) ((W.new (.lst (xs ++ ys))).bind fun n => W.ret (Out.nx (δ.set v (some (.mu n)))))) _ from
    Hw.bindR ha (Hw.bindR (Rt.var h) (Hw.bindR Rt.ret (Hw.bindD (Hd.bind (Hd.get e) Hd.ret) (Hw.need (small hl) (Hw.new fun n hn => Hw.ret ⟨n, hn, rfl, rfl⟩)))))
theorem ne0M {xs : List D} (h : δ[v]? = some (some (.mu j))) (e : L j = some (.lst xs)) : Hd I L L (dTest (dOp2 ne0D (dVar v) (dLst dNil)) δ) (!xs.isEmpty) :=
  Hd.test (Hd.bind (Hd.var h) (Hd.bind (Hd.of (Rt.lst Rt.nil (small (Nat.zero_le _)))) (Hd.bind (Hd.bind (Hd.get e) Hd.ret) Hd.ret)))
theorem Hm.put_id {o : MO} (h : L j = some o) : L.put j o = L := by
  funext k
  by_cases e : k = j
  · subst e; rw [Hm.put_self, h]
  · rw [Hm.put_ne e]
theorem Hw.forC {dg : D → List Sl → W (List Sl)} {gb : List Sl → W Out} {d : D} {ds : List D} {P T : Out → Hm → Prop} (h1 : Rt (dg d δ) ε) (h2 : Hw I B1 L (gb ε) P) (h3 : ∀ o L', P o L' → ∃ η, o = .nx η ∧ Hw I B2 L' (forD dg gb ds η) T) (hB : B1 + B2 ≤ B) : Hw I B L (forD dg gb (d :: ds) δ) T :=
  show Hw I B L ((dg d δ).bind fun ε => (gb ε).bind fun o => match o with | .nx ε => forD dg gb ds ε | .ct ε => forD dg gb ds ε | .bk ε => W.ret (.nx ε) | .rt d => W.ret (.rt d)) T from
    Hw.bindR h1 (Hw.bind h2 (fun o L' p => by obtain ⟨η, rfl, z⟩ := h3 o L' p; exact z) hB)
theorem Hw.wh {ft : List Sl → W Bool} {gb : List Sl → W Out} {T : Out → Hm → Prop} {f : Nat} (h : Hw I B L (whileD ft gb f δ) T) : Hw I B L (dWhile ft gb δ) T := fun base s E hn ha => ⟨f, h base s E hn ha⟩
theorem Hw.whF {ft : List Sl → W Bool} {gb : List Sl → W Out} {T : Out → Hm → Prop} {f : Nat} (ht : Hd I L L (ft δ) false) (h : T (.nx δ) L) : Hw I B L (whileD ft gb (f + 1) δ) T := Hw.bindD ht (Hw.ret h)
theorem Hw.whT {ft : List Sl → W Bool} {gb : List Sl → W Out} {P T : Out → Hm → Prop} {f : Nat} (ht : Hd I L L (ft δ) true) (hb : Hw I B1 L (gb δ) P) (h : ∀ o L', P o L' → ∃ η, o = .nx η ∧ Hw I B2 L' (whileD ft gb f η) T) (hB : B1 + B2 ≤ B) : Hw I B L (whileD ft gb (f + 1) δ) T :=
  Hw.bindD ht (Hw.bind hb (fun o L' p => by obtain ⟨η, rfl, z⟩ := h o L' p; exact z) hB)
end
@[reducible] def raB : List Sl → W Out := (dSeq (dAsg (dPopV (dVar 3) (dC (.int 0))) (dGTup 2 (dGCons (dName 7) (dGCons (dName 8) dGNil))))
  (dSeq (dAsg (dOp2 subD (dVar 5) (dVar 4)) (dName 9))
  (dSeq (dAsg (dOpn minD (dCons (dVar 8) (dCons (dOp2 fdivD (dVar 9) (dOpn lenD (dCons (dVar 7) dNil))) dNil))) (dName 10))
  (dSeq (dIf (dTest (dOp2 gtD (dVar 10) (dC (.int 0)))) (dApp 6 (dTup (dCons (dVar 7) (dCons (dVar 10) dNil)))) dNext)
  (dSeq (dIf (dAnd (dTest (dOp2 ltD (dVar 10) (dVar 8))) (dTest (dOp2 gtD (dOp2 subD (dVar 9) (dOp2 mulUD (dVar 10) (dOpn lenD (dCons (dVar 7) dNil)))) (dC (.int 0))))) (dSeq (dAsg (dOp2 subD (dVar 9) (dOp2 mulUD (dVar 10) (dOpn lenD (dCons (dVar 7) dNil)))) (dName 11))
  (dSeq (dApp 6 (dTup (dCons (dSl (dVar 7) dNoPart (dPart (dVar 11))) (dCons (dC (.int 1)) dNil))))
  (dAsg (dOp2 addLM (dOp2 addD (dLst (dCons (dTup (dCons (dSl (dVar 7) (dPart (dVar 11)) dNoPart) (dCons (dC (.int 1)) dNil))) dNil)) (dOp2 mulLD (dLst (dCons (dTup (dCons (dVar 7) (dCons (dOp2 subD (dOp2 subD (dVar 8) (dVar 10)) (dC (.int 1))) dNil))) dNil)) (dOpn intD (dCons (dOp2 gtD (dOp2 subD (dVar 8) (dVar 10)) (dC (.int 1))) dNil)))) (dVar 3)) (dName 3)))) (dIf (dTest (dOp2 ltD (dVar 10) (dVar 8))) (dAsg (dOp2 addLM (dLst (dCons (dTup (dCons (dVar 7) (dCons (dOp2 subD (dVar 8) (dVar 10)) dNil))) dNil)) (dVar 3)) (dName 3)) dNext))
  (dAsg (dOp2 addD (dVar 4) (dOpn minD (dCons (dOp2 mulUD (dOpn lenD (dCons (dVar 7) dNil)) (dVar 8)) (dCons (dVar 9) dNil)))) (dName 4)))))))
@[reducible] def raT : List Sl → W Bool := (dAnd (dTest (dOp2 ltD (dVar 4) (dVar 5))) (dTest (dOp2 ne0D (dVar 3) (dLst dNil))))
@[reducible] def raS : List Sl → W Out := (dSeq (dNewL dNil 6)
  (dSeq (dWhile (dAnd (dTest (dOp2 ltD (dVar 4) (dVar 5))) (dTest (dOp2 ne0D (dVar 3) (dLst dNil)))) (dSeq (dAsg (dPopV (dVar 3) (dC (.int 0))) (dGTup 2 (dGCons (dName 7) (dGCons (dName 8) dGNil))))
  (dSeq (dAsg (dOp2 subD (dVar 5) (dVar 4)) (dName 9))
  (dSeq (dAsg (dOpn minD (dCons (dVar 8) (dCons (dOp2 fdivD (dVar 9) (dOpn lenD (dCons (dVar 7) dNil))) dNil))) (dName 10))
  (dSeq (dIf (dTest (dOp2 gtD (dVar 10) (dC (.int 0)))) (dApp 6 (dTup (dCons (dVar 7) (dCons (dVar 10) dNil)))) dNext)
  (dSeq (dIf (dAnd (dTest (dOp2 ltD (dVar 10) (dVar 8))) (dTest (dOp2 gtD (dOp2 subD (dVar 9) (dOp2 mulUD (dVar 10) (dOpn lenD (dCons (dVar 7) dNil)))) (dC (.int 0))))) (dSeq (dAsg (dOp2 subD (dVar 9) (dOp2 mulUD (dVar 10) (dOpn lenD (dCons (dVar 7) dNil)))) (dName 11))
  (dSeq (dApp 6 (dTup (dCons (dSl (dVar 7) dNoPart (dPart (dVar 11))) (dCons (dC (.int 1)) dNil))))
  (dAsg (dOp2 addLM (dOp2 addD (dLst (dCons (dTup (dCons (dSl (dVar 7) (dPart (dVar 11)) dNoPart) (dCons (dC (.int 1)) dNil))) dNil)) (dOp2 mulLD (dLst (dCons (dTup (dCons (dVar 7) (dCons (dOp2 subD (dOp2 subD (dVar 8) (dVar 10)) (dC (.int 1))) dNil))) dNil)) (dOpn intD (dCons (dOp2 gtD (dOp2 subD (dVar 8) (dVar 10)) (dC (.int 1))) dNil)))) (dVar 3)) (dName 3)))) (dIf (dTest (dOp2 ltD (dVar 10) (dVar 8))) (dAsg (dOp2 addLM (dLst (dCons (dTup (dCons (dVar 7) (dCons (dOp2 subD (dVar 8) (dVar 10)) dNil))) dNil)) (dVar 3)) (dName 3)) dNext))
  (dAsg (dOp2 addD (dVar 4) (dOpn minD (dCons (dOp2 mulUD (dOpn lenD (dCons (dVar 7) dNil)) (dVar 8)) (dCons (dVar 9) dNil)))) (dName 4))))))))
  (fun δ => (iceD 6 δ).bind (dApp 2 (dVar 6)))))
abbrev rδ (bs : List Bk) (sp : List D) (jf jl dn : Nat) (s5 s6 s7 s8 s9 s10 s11 : Sl) : List Sl := [some (lD bs), some (.lst sp), some (.mu jf), some (.mu jl), some (.int dn), s5, s6, s7, s8, s9, s10, s11]
structure St (L : Hm) (jf jl jp : Nat) (F : List D) (lf pc : List Bk) : Prop where
  f : L jf = some (.lst F)
  l : L jl = some (.lst (lf.map blkL))
  p : L jp = some (.lst (pc.map blkL))
  n1 : jf ≠ jl
  n2 : jf ≠ jp
  n3 : jl ≠ jp
section
variable {I : List Nat} {L : Hm} {jf jl jp : Nat} {F : List D} {lf pc : List Bk}
theorem St.putL (h : St L jf jl jp F lf pc) (q : List Bk) : St (L.put jl (.lst (q.map blkL))) jf jl jp F q pc := ⟨by rw [Hm.put_ne h.n1]; exact h.f, Hm.put_self, by rw [Hm.put_ne (Ne.symm h.n3)]; exact h.p, h.n1, h.n2, h.n3⟩
theorem St.putP (h : St L jf jl jp F lf pc) {q : List Bk} {xs : List D} (e : xs = q.map blkL) : St (L.put jp (.lst xs)) jf jl jp F lf q := by
  subst e
  exact ⟨by rw [Hm.put_ne h.n2]; exact h.f, by rw [Hm.put_ne h.n3]; exact h.l, Hm.put_self, h.n1, h.n2, h.n3⟩
theorem St.newL (h : St L jf jl jp F lf pc) {n : Nat} (hn : L n = none) {q : List Bk} {xs : List D} (e : xs = q.map blkL) : St (L.put n (.lst xs)) jf n jp F q pc := by
  subst e
  have a : jf ≠ n := fun z => by subst z; rw [h.f] at hn; cases hn
  have b : jp ≠ n := fun z => by subst z; rw [h.p] at hn; cases hn
  exact ⟨by rw [Hm.put_ne a]; exact h.f, Hm.put_self, by rw [Hm.put_ne b]; exact h.p, a, h.n2, Ne.symm b⟩
end
def tkP (b : Bk) (m : Nat) : List Bk := if szB b ≤ m then [b] else cutP b m
def tkR (b : Bk) (m : Nat) : List Bk := if szB b ≤ m then [] else cutR b m
theorem whole_min {b : Bk} {m : Nat} (hb : 1 ≤ b.1.length) : min b.2 (m / b.1.length) = if szB b ≤ m then b.2 else m / b.1.length := by
  split
  · rename_i h
    exact Nat.min_eq_left ((Nat.le_div_iff_mul_le hb).mpr (by rw [Nat.mul_comm]; exact h))
  · rename_i h
    exact Nat.min_eq_right (Nat.le_of_lt (Nat.div_lt_of_lt_mul (by show m < szB b; omega)))
theorem cutL_from {α : Type} (xs : List α) (m : Nat) : cutL xs (some (m : Int)) none = xs.drop m := by
  unfold cutL
  rw [HT.sIx_none, HT.sIx_nat]
  by_cases h : m ≤ xs.length
  · rw [Nat.min_eq_left h, List.take_of_length_le (by rw [List.length_drop]; exact Nat.le_refl _)]
  · rw [Nat.min_eq_right (by omega), List.drop_length, List.take_nil, List.drop_eq_nil_of_le (by omega)]
theorem Hw.ifT {I : List Nat} {B : Nat} {L L1 : Hm} {δ : List Sl} {t : List Sl → W Bool} {g h : List Sl → W Out} {T : Out → Hm → Prop} (ht : Hd I L L1 (t δ) true) (k : Hw I B L1 (g δ) T) : Hw I B L (dIf t g h δ) T := Hw.bindD ht k
theorem Hw.ifF {I : List Nat} {B : Nat} {L L1 : Hm} {δ : List Sl} {t : List Sl → W Bool} {g h : List Sl → W Out} {T : Out → Hm → Prop} (ht : Hd I L L1 (t δ) false) (k : Hw I B L1 (h δ) T) : Hw I B L (dIf t g h δ) T := Hw.bindD ht k
theorem cut_rs {δ : List Sl} {rs : List Str} {v w k : Nat} (h : δ[v]? = some (some (.lst (rs.map .str)))) (h2 : δ[w]? = some (some (.int k))) : Rt (dSl (dVar v) dNoPart (dPart (dVar w)) δ) (.lst ((rs.take k).map .str)) ∧ Rt (dSl (dVar v) (dPart (dVar w)) dNoPart δ) (.lst ((rs.drop k).map .str)) := by
  refine ⟨Rt.sl (Rt.var h) Rt.noPart (Rt.part (Rt.var h2)) (Rt.ret.cast ?_), Rt.sl (Rt.var h) (Rt.part (Rt.var h2)) Rt.noPart (Rt.ret.cast ?_)⟩
  · rw [cutL_to, List.map_take]
  · rw [cutL_from, List.map_drop]
theorem blk_mk {δ : List Sl} {rs : List Str} {t : Nat} {fa fb : List Sl → W D} (h1 : Rt (fa δ) (.lst (rs.map .str))) (h2 : Rt (fb δ) (.int t)) : Rt (dTup (dCons fa (dCons fb dNil)) δ) (blkL (rs, t)) := Rt.tup (Rt.cons h1 (Rt.cons h2 Rt.nil)) (small (show 2 ≤ 4000 by decide))
theorem one_l {δ : List Sl} {f : List Sl → W D} {b : Bk} (h : Rt (f δ) (blkL b)) : Rt (dLst (dCons f dNil) δ) (lD [b]) := Rt.lst (Rt.cons h Rt.nil) (small (show 1 ≤ 4000 by decide))
theorem add_l {δ : List Sl} {fa fb : List Sl → W D} {a b : List Bk} (h1 : Rt (fa δ) (lD a)) (h2 : Rt (fb δ) (lD b)) (hl : a.length + b.length ≤ 4000) : Rt (dOp2 addD fa fb δ) (lD (a ++ b)) :=
  Rt.op2 h1 h2 (Rt.need (small (by rw [List.length_map, List.length_map]; exact hl)) (Rt.ret.cast (by show D.lst (a.map blkL ++ b.map blkL) = _; rw [← List.map_append]; rfl)))
theorem mul_l {δ : List Sl} {fa fb : List Sl → W D} {b : Bk} {k : Nat} (h1 : Rt (fa δ) (lD [b])) (h2 : Rt (fb δ) (.int k)) (hl : k < 4000) : Rt (dOp2 mulLD fa fb δ) (lD (List.replicate k b)) := by
  refine Rt.op2 h1 h2 (Rt.need ⟨by omega, by omega, small (by show 1 * (k : Int).toNat ≤ 4000; rw [Int.toNat_natCast]; omega)⟩ (Rt.ret.cast ?_))
  show D.lst (List.replicate (k : Int).toNat [blkL b]).flatten = D.lst ((List.replicate k b).map blkL)
  rw [Int.toNat_natCast, List.map_replicate]
  congr 1
  clear h1 h2 hl
  induction k with
  | zero => rfl
  | succ k ih => rw [List.replicate_succ, List.replicate_succ, List.flatten_cons, ih]; rfl
section
variable {I : List Nat} {L : Hm} {jf jl jp dn n : Nat} {F sp : List D} {bs r pc : List Bk} {b : Bk} {s5 s6 s7 s8 s9 s10 s11 : Sl}
abbrev TurnR (bs : List Bk) (sp : List D) (jf jp dn n : Nat) (F : List D) (lf pc : List Bk) (o : Out) (L : Hm) : Prop := ∃ jl t7 t8 t9 t10 t11, o = .nx (rδ bs sp jf jl dn (some (.int n)) (some (.mu jp)) t7 t8 t9 t10 t11) ∧ St L jf jl jp F lf pc
theorem turn_t (hb : OkB b) (st : St L jf jl jp F (b :: r) pc) (hd : dn < n) (hl : pc.length + r.length + 3 ≤ 3000) : Hw I 0 L (raB (rδ bs sp jf jl dn (some (.int n)) (some (.mu jp)) s7 s8 s9 s10 s11)) (TurnR bs sp jf jp (dn + min (szB b) (n - dn)) n F (tkR b (n - dn) ++ r) (pc ++ tkP b (n - dn))) := by
  obtain ⟨rs, t⟩ := b
  have hv := hb.v
  have hv1 : 1 ≤ rs.length := hv.1
  have hv2 : 1 ≤ t := hv.2
  have hl4 : rs.length ≤ 4 := hb.l
  have hq := whole_min (b := (rs, t)) (m := n - dn) hv1
  have st1 := st.putL r
  refine Hw.seq (Hd.asgG (Hd.popV rfl st.l (by rw [List.length_map]; omega)) two_g) ?_
  refine Hw.seq (Hd.asg (d := .int (n - dn : Nat)) (Hd.of (Rt.op2 (Rt.var rfl) (Rt.var rfl) (Rt.ret.cast (congrArg D.int (by omega)))))) ?_
  refine Hw.seq (Hd.asg (d := .int (min t ((n - dn) / rs.length) : Nat)) (Hd.of (Rt.opn (Rt.cons (Rt.var rfl) (Rt.cons (Rt.op2 (Rt.var rfl) (lenL_r rfl) (Rt.need (show CDiv _ (rs.length : Int) from ⟨by omega, by omega⟩) Rt.ret)) Rt.nil)) (Rt.ret.cast (congrArg D.int (by rw [← Int.natCast_ediv, min_nat])))))) ?_
  rw [show min t ((n - dn) / rs.length) = if szB (rs, t) ≤ n - dn then t else (n - dn) / rs.length from hq]
  have last : ∀ {L1 : Hm} {jl' : Nat} {lf pc' : List Bk} {t9 t10 t11 : Sl}, St L1 jf jl' jp F lf pc' → t9 = some (.int (n - dn : Nat)) → Hw I 0 L1 (dAsg (dOp2 addD (dVar 4) (dOpn minD (dCons (dOp2 mulUD (dOpn lenD (dCons (dVar 7) dNil)) (dVar 8)) (dCons (dVar 9) dNil)))) (dName 4) (rδ bs sp jf jl' dn (some (.int n)) (some (.mu jp)) (some (.lst (rs.map .str))) (some (.int t)) t9 t10 t11)) (TurnR bs sp jf jp (dn + min (szB (rs, t)) (n - dn)) n F lf pc') := fun {L1 jl' lf pc' t9 t10 t11} s e => by
    subst e
    refine Hw.ofD (Hd.asg (d := .int (dn + min (szB (rs, t)) (n - dn) : Nat)) (Hd.of (Rt.op2 (Rt.var rfl) (Rt.opn (Rt.cons (szL_r (rs := rs) (t := t) rfl rfl (by omega)) (Rt.cons (Rt.var rfl) Rt.nil)) Rt.ret) (Rt.ret.cast (congrArg D.int ?_))))) ⟨jl', _, _, _, _, _, rfl, s⟩
    rw [min_nat]; push_cast; rfl
  by_cases c : szB (rs, t) ≤ n - dn
  · rw [if_pos c]
    have e1 : tkP (rs, t) (n - dn) = [(rs, t)] := if_pos c
    have e2 : tkR (rs, t) (n - dn) = [] := if_pos c
    rw [e1, e2, List.nil_append]
    refine Hw.seq (Hd.ite (k := true) (Hd.test (Hd.of (Rt.op2 (Rt.var rfl) Rt.cC (Rt.ret.cast (congrArg D.bl (decide_eq_true (by omega))))))) (Hd.app rfl st1.p (Hd.of (blk_mk (rs := rs) (t := t) (Rt.var rfl) (Rt.var rfl))) st1.p (by rw [List.length_map]; omega))) ?_
    have st2 := st1.putP (q := pc ++ [(rs, t)]) (xs := pc.map blkL ++ [blkL (rs, t)]) (by rw [List.map_append]; rfl)
    have lt : ∀ {L : Hm} {δ : List Sl}, δ[10]? = some (some (.int t)) → δ[8]? = some (some (.int t)) → Hd I L L (dTest (dOp2 ltD (dVar 10) (dVar 8)) δ) false := fun h1 h2 => Hd.test (Hd.of (Rt.op2 (Rt.var h1) (Rt.var h2) (Rt.ret.cast (congrArg D.bl (decide_eq_false (by omega))))))
    refine Hw.seq (Hd.ite (k := false) (Hd.and (x := false) (y := false) (lt rfl rfl) (fun z => by cases z)) (Hd.ite (k := false) (lt rfl rfl) Hd.next)) ?_
    exact last st2 rfl
  · rw [if_neg c]
    have e1 : tkP (rs, t) (n - dn) = cutP (rs, t) (n - dn) := if_neg c
    have e2 : tkR (rs, t) (n - dn) = cutR (rs, t) (n - dn) := if_neg c
    rw [e1, e2]
    have hw : (n - dn) / rs.length < t := cut_div (b := (rs, t)) hv1 (by omega)
    have hm := Nat.div_add_mod (n - dn) rs.length
    have hr := Nat.mod_lt (n - dn) hv1
    unfold cutP cutR
    dsimp only
    generalize hW : (n - dn) / rs.length = w at hw hm ⊢
    generalize hR : (n - dn) % rs.length = k at hm hr ⊢
    have q3 : ∃ L2, St L2 jf jl jp F r (pc ++ if 0 < w then [(rs, w)] else []) ∧ Hd I (L.put jl (.lst (r.map blkL))) L2 (dIf (dTest (dOp2 gtD (dVar 10) (dC (.int 0)))) (dApp 6 (dTup (dCons (dVar 7) (dCons (dVar 10) dNil)))) dNext (rδ bs sp jf jl dn (some (.int n)) (some (.mu jp)) (some (.lst (rs.map .str))) (some (.int t)) (some (.int (n - dn : Nat))) (some (.int w)) s11)) (.nx (rδ bs sp jf jl dn (some (.int n)) (some (.mu jp)) (some (.lst (rs.map .str))) (some (.int t)) (some (.int (n - dn : Nat))) (some (.int w)) s11)) := by
      by_cases z : 0 < w
      · rw [if_pos z]
        exact ⟨_, st1.putP (q := pc ++ [(rs, w)]) (xs := pc.map blkL ++ [blkL (rs, w)]) (by rw [List.map_append]; rfl), Hd.ite (k := true) (Hd.test (Hd.of (Rt.op2 (Rt.var rfl) Rt.cC (Rt.ret.cast (congrArg D.bl (decide_eq_true (by omega))))))) (Hd.app rfl st1.p (Hd.of (blk_mk (rs := rs) (t := w) (Rt.var rfl) (Rt.var rfl))) st1.p (by rw [List.length_map]; omega))⟩
      · rw [if_neg z, List.append_nil]
        exact ⟨_, st1, Hd.ite (k := false) (Hd.test (Hd.of (Rt.op2 (Rt.var rfl) Rt.cC (Rt.ret.cast (congrArg D.bl (decide_eq_false (by omega))))))) Hd.next⟩
    obtain ⟨L2, st2, h3⟩ := q3
    refine Hw.seq h3 ?_
    have lt : ∀ {L : Hm} {δ : List Sl}, δ[10]? = some (some (.int w)) → δ[8]? = some (some (.int t)) → Hd I L L (dTest (dOp2 ltD (dVar 10) (dVar 8)) δ) true := fun h1 h2 => Hd.test (Hd.of (Rt.op2 (Rt.var h1) (Rt.var h2) (Rt.ret.cast (congrArg D.bl (decide_eq_true (by omega))))))
    have rest : ∀ {L : Hm} {δ : List Sl}, δ[9]? = some (some (.int (n - dn : Nat))) → δ[10]? = some (some (.int w)) → δ[7]? = some (some (.lst (rs.map .str))) → Hd I L L (dOp2 subD (dVar 9) (dOp2 mulUD (dVar 10) (dOpn lenD (dCons (dVar 7) dNil))) δ) (.int k) := fun h1 h2 h3 => Hd.of (Rt.op2 (Rt.var h1) (Rt.op2 (Rt.var h2) (lenL_r h3) (Rt.need (.inr ⟨by omega, by omega⟩) Rt.ret)) (Rt.ret.cast (congrArg D.int (by
      have e : ((n - dn : Nat) : Int) = (rs.length : Int) * (w : Int) + (k : Int) := by rw [← hm]; push_cast; rfl
      rw [e, Int.mul_comm]; omega))))
    have lp : (pc ++ if 0 < w then [(rs, w)] else []).length ≤ pc.length + 1 := by split <;> simp
    by_cases z : 0 < k
    · have hgt := (Hd.and (x := true) (y := true) (lt (L := L2) (δ := rδ bs sp jf jl dn (some (.int n)) (some (.mu jp)) (some (.lst (rs.map .str))) (some (.int t)) (some (.int (n - dn : Nat))) (some (.int w)) s11) rfl rfl) (fun _ => Hd.test (Hd.op2 (g := gtD) (x := .int k) (y := .int 0) (rest rfl rfl rfl) (Hd.of Rt.cC) (Rt.ret.cast (congrArg D.bl (decide_eq_true (by omega)))))))
      rw [if_pos z, if_pos z]
      have st3 := st2.putP (q := (pc ++ if 0 < w then [(rs, w)] else []) ++ [(rs.take k, 1)]) (xs := (pc ++ if 0 < w then [(rs, w)] else []).map blkL ++ [blkL (rs.take k, 1)]) (by rw [List.map_append (l₂ := [(rs.take k, 1)])]; rfl)
      have sl := fun (δ : List Sl) (h : δ[7]? = some (some (.lst (rs.map .str)))) (h2 : δ[11]? = some (some (.int k))) => cut_rs h h2
      refine Hw.bind (B1 := 0) (B2 := 0) (Hw.ifT hgt (Hw.seq (Hd.asg (rest rfl rfl rfl)) (Hw.seq (Hd.app rfl st2.p (Hd.of (blk_mk (rs := rs.take k) (t := 1) (sl _ rfl rfl).1 Rt.cC)) st2.p (by rw [List.length_map]; omega)) (asgAdd (xs := ((rs.drop k, 1) :: if 1 < t - w then [(rs, t - w - 1)] else []).map blkL) (ys := r.map blkL) ?_ rfl st3.l ?_)))) (fun o L' h => ?_) (Nat.le_refl _)
      · have h1 := one_l (b := (rs.drop k, 1)) (blk_mk (fb := dC (.int 1)) (sl (rδ bs sp jf jl dn (some (.int n)) (some (.mu jp)) (some (.lst (rs.map .str))) (some (.int t)) (some (.int (n - dn : Nat))) (some (.int w)) (some (.int k))) rfl rfl).2 Rt.cC)
        have ht : Rt (dOp2 subD (dVar 8) (dVar 10) (rδ bs sp jf jl dn (some (.int n)) (some (.mu jp)) (some (.lst (rs.map .str))) (some (.int t)) (some (.int (n - dn : Nat))) (some (.int w)) (some (.int k)))) (.int (t - w : Nat)) := Rt.op2 (x := .int t) (y := .int w) (Rt.var rfl) (Rt.var rfl) (Rt.ret.cast (congrArg D.int (by omega)))
        have h2 := mul_l (fb := dOpn intD (dCons (dOp2 gtD (dOp2 subD (dVar 8) (dVar 10)) (dC (.int 1))) dNil)) (k := if 1 < t - w then 1 else 0) (one_l (b := (rs, t - w - 1)) (blk_mk (fa := dVar 7) (fb := dOp2 subD (dOp2 subD (dVar 8) (dVar 10)) (dC (.int 1))) (Rt.var rfl) (Rt.op2 (x := .int (t - w : Nat)) (y := .int 1) ht Rt.cC (Rt.ret.cast (congrArg D.int (by omega)))))) (Rt.opn (Rt.cons (Rt.op2 (g := gtD) (y := .int 1) ht Rt.cC Rt.ret) Rt.nil) (Rt.ret.cast (congrArg D.int (by
          show (if decide ((1 : Int) < ((t - w : Nat) : Int)) = true then (1 : Int) else 0) = _
          by_cases y : 1 < t - w
          · rw [if_pos y, decide_eq_true (by omega)]; rfl
          · rw [if_neg y, decide_eq_false (by omega)]; rfl)))) (by split <;> omega)
        refine (add_l h1 h2 (by rw [List.length_replicate]; split <;> simp)).cast ?_
        by_cases y : 1 < t - w
        · rw [if_pos y, if_pos y]; rfl
        · rw [if_neg y, if_neg y]; rfl
      · rw [List.length_map, List.length_map, List.length_cons]
        have : (if 1 < t - w then [(rs, t - w - 1)] else ([] : List Bk)).length ≤ 1 := by split <;> simp
        omega
      · obtain ⟨m, hm, rfl, rfl⟩ := h
        rw [← List.append_assoc]
        exact last (st3.newL hm (by rw [List.map_append])) rfl
    · have hgt := (Hd.and (x := true) (y := false) (lt (L := L2) (δ := rδ bs sp jf jl dn (some (.int n)) (some (.mu jp)) (some (.lst (rs.map .str))) (some (.int t)) (some (.int (n - dn : Nat))) (some (.int w)) s11) rfl rfl) (fun _ => Hd.test (Hd.op2 (g := gtD) (x := .int k) (y := .int 0) (rest rfl rfl rfl) (Hd.of Rt.cC) (Rt.ret.cast (congrArg D.bl (decide_eq_false (by omega)))))))
      rw [if_neg z, if_neg z, List.append_nil]
      refine Hw.bind (B1 := 0) (B2 := 0) (Hw.ifF hgt (Hw.ifT (lt rfl rfl) (asgAdd (xs := [(rs, t - w)].map blkL) (ys := r.map blkL) (one_l (b := (rs, t - w)) (blk_mk (Rt.var rfl) (Rt.op2 (Rt.var rfl) (Rt.var rfl) (Rt.ret.cast (congrArg D.int (by omega)))))) rfl st2.l (by rw [List.length_map, List.length_map]; show 1 + _ ≤ _; omega)))) (fun o L' h => ?_) (Nat.le_refl _)
      obtain ⟨m, hm, rfl, rfl⟩ := h
      exact last (st2.newL hm (by rw [← List.map_append])) rfl
theorem tk_ok (hb : OkB b) {m : Nat} : (∀ c ∈ tkP b m, OkB c) ∧ (∀ c ∈ tkR b m, OkB c) ∧ Sm [b] (tkP b m ++ tkR b m) ∧ szs (tkP b m) = min (szB b) m ∧ (tkP b m).length ≤ 2 ∧ (tkR b m).length ≤ 2 ∧ (szB b ≤ m → tkR b m = [] ∧ tkP b m = [b]) := by
  unfold tkP tkR
  by_cases c : szB b ≤ m
  · rw [if_pos c, if_pos c]
    refine ⟨fun x hx => by rw [List.mem_singleton.mp hx]; exact hb, fun x hx => (nomatch hx), Sm.refl _, by show szB b + 0 = _; omega, by simp, by simp, fun _ => ⟨rfl, rfl⟩⟩
  · rw [if_neg c, if_neg c]
    refine ⟨cutP_ok hb (by omega), cutR_ok hb (by omega), cut_sm hb (by omega), by rw [cutP_sz hb]; omega, ?_, ?_, fun z => absurd z c⟩
    · unfold cutP
      rw [List.length_append]
      split <;> split <;> simp
    · unfold cutR
      split
      · split <;> simp
      · simp
structure Kct (lf p l : List Bk) (m : Nat) : Prop where
  pk : ∀ c ∈ p, OkB c
  lk : ∀ c ∈ l, OkB c
  sm : Sm lf (p ++ l)
  sz : szs p = min (szs lf) m
  n1 : p.length ≤ lf.length + 1
  n2 : l.length ≤ lf.length + 1
abbrev WhR (bs : List Bk) (sp : List D) (jf jp dn n : Nat) (F : List D) (lf pc : List Bk) (o : Out) (L : Hm) : Prop := ∃ p l, Kct lf p l (n - dn) ∧ TurnR bs sp jf jp (dn + min (szs lf) (n - dn)) n F l (pc ++ p) o L
theorem test_ra (st : St L jf jl jp F lf pc) : Hd I L L (raT (rδ bs sp jf jl dn (some (.int n)) (some (.mu jp)) s7 s8 s9 s10 s11)) (decide (dn < n) && !(lf.map blkL).isEmpty) :=
  Hd.and (Hd.test (Hd.of (Rt.op2 (Rt.var rfl) (Rt.var rfl) (Rt.ret.cast (congrArg D.bl (decide_eq_decide.mpr (by omega))))))) (fun _ => ne0M rfl st.l)
theorem Kct.none {lf : List Bk} (h : ∀ c ∈ lf, OkB c) {m : Nat} (e : min (szs lf) m = 0) : Kct lf [] lf m := ⟨fun _ z => (nomatch z), h, Sm.refl _, e.symm, Nat.zero_le _, Nat.le_succ _⟩
theorem wh_t : ∀ (lf : List Bk) (L : Hm) (jl dn : Nat) (pc : List Bk) (s7 s8 s9 s10 s11 : Sl) (f : Nat), lf.length < f → (∀ c ∈ lf, OkB c) → St L jf jl jp F lf pc → dn ≤ n → pc.length + lf.length + 3 ≤ 3000 → Hw I 0 L (whileD raT raB f (rδ bs sp jf jl dn (some (.int n)) (some (.mu jp)) s7 s8 s9 s10 s11)) (WhR bs sp jf jp dn n F lf pc)
  | lf, L, jl, dn, pc, s7, s8, s9, s10, s11, 0, hf, hok, st, hd, hl => absurd hf (Nat.not_lt_zero _)
  | [], L, jl, dn, pc, s7, s8, s9, s10, s11, f + 1, hf, hok, st, hd, hl => by
    refine Hw.whF ((test_ra st).cast (by simp)) ⟨[], [], Kct.none hok (by show min 0 _ = 0; omega), jl, s7, s8, s9, s10, s11, ?_, by rw [List.append_nil]; exact st⟩
    rw [show min (szs []) (n - dn) = 0 by show min 0 _ = 0; omega, Nat.add_zero]
  | b :: r, L, jl, dn, pc, s7, s8, s9, s10, s11, f + 1, hf, hok, st, hd, hl => by
    have hb := hok b List.mem_cons_self
    have hs := hb.v.sz
    rw [List.length_cons] at hf hl
    by_cases c : dn < n
    · obtain ⟨k1, k2, k3, k4, k5, k6, k7⟩ := tk_ok hb (m := n - dn)
      refine Hw.whT (B1 := 0) (B2 := 0) ((test_ra st).cast (by rw [decide_eq_true c]; rfl)) (turn_t hb st c (by omega)) (fun o L' h => ?_) (Nat.le_refl _)
      obtain ⟨jl', t7, t8, t9, t10, t11, rfl, st'⟩ := h
      refine ⟨_, rfl, ?_⟩
      by_cases z : szB b ≤ n - dn
      · obtain ⟨e1, e2⟩ := k7 z
        rw [e1, List.nil_append, e2] at st'
        refine (wh_t r L' jl' (dn + min (szB b) (n - dn)) (pc ++ [b]) t7 t8 t9 t10 t11 f (by omega) (fun x hx => hok x (List.mem_cons_of_mem _ hx)) st' (by omega) (by rw [List.length_append]; show pc.length + 1 + _ + _ ≤ _; omega)).mono (Nat.le_refl _) fun o L'' h => ?_
        obtain ⟨p, l, cu, h⟩ := h
        refine ⟨b :: p, l, ⟨fun x hx => ?_, cu.lk, ?_, ?_, by have := cu.n1; simp only [List.length_cons]; omega, by have := cu.n2; simp only [List.length_cons]; omega⟩, ?_⟩
        · rcases List.mem_cons.mp hx with rfl | hx
          · exact hb
          · exact cu.pk x hx
        · exact Sm.app (a := [b]) (b := [b]) (Sm.refl _) cu.sm rfl
        · have := cu.sz
          show szB b + szs p = min (szB b + szs r) _
          omega
        · obtain ⟨jl2, u7, u8, u9, u10, u11, rfl, st2⟩ := h
          refine ⟨jl2, u7, u8, u9, u10, u11, ?_, by rw [List.append_assoc] at st2; exact st2⟩
          rw [show dn + min (szB b) (n - dn) + min (szs r) (n - (dn + min (szB b) (n - dn))) = dn + min (szs (b :: r)) (n - dn) by show _ = dn + min (szB b + szs r) _; omega]
      · have e : dn + min (szB b) (n - dn) = n := by omega
        rw [e]
        obtain ⟨g, rfl⟩ : ∃ g, f = g + 1 := ⟨f - 1, by omega⟩
        refine Hw.whF ((test_ra st').cast (by rw [decide_eq_false (Nat.lt_irrefl _)]; rfl)) ⟨tkP b (n - dn), tkR b (n - dn) ++ r, ⟨k1, fun x hx => ?_, ?_, ?_, by simp only [List.length_cons]; omega, by rw [List.length_append, List.length_cons]; omega⟩, jl', t7, t8, t9, t10, t11, ?_, st'⟩
        · rcases List.mem_append.mp hx with hx | hx
          · exact k2 x hx
          · exact hok x (List.mem_cons_of_mem _ hx)
        · rw [← List.append_assoc]
          exact Sm.app (a := [b]) k3 (Sm.refl r) (by
            have := Sm.size k3 (fun x hx => by rw [List.mem_singleton.mp hx]; exact hb.v) (fun x hx => by
              rcases List.mem_append.mp hx with hx | hx
              · exact (k1 x hx).v
              · exact (k2 x hx).v)
            exact this)
        · show _ = min (szB b + szs r) _
          omega
        · rw [show dn + min (szs (b :: r)) (n - dn) = n by show dn + min (szB b + szs r) _ = n; omega]
    · refine Hw.whF ((test_ra st).cast (by rw [decide_eq_false c]; rfl)) ⟨[], b :: r, Kct.none hok (by omega), jl, s7, s8, s9, s10, s11, ?_, by rw [List.append_nil]; exact st⟩
      rw [show min (szs (b :: r)) (n - dn) = 0 by omega, Nat.add_zero]
end
end Lw
namespace Lw
open PySem L2 Ly
open Lx (inS cutL Ky IsTb atI_in)
section
variable {I : List Nat} {L : Hm} {δ : List Sl} {B : Nat}
theorem Hd.iceE {fe : List Sl → W D} {j : Nat} {xs : List D} (h : Hd I L L (fe δ) (.mu j)) (e : L j = some (.lst xs)) : Hd I L (L.put j .gone) (dIceE fe δ) (.lst xs) := Hd.bind h (Hd.bind (Hd.get e) (Hd.bind (Hd.put e) Hd.ret))
theorem rowsNew {xs : List D} {rest : List Sl → W Out} {T : Out → Hm → Prop} (h0 : δ[0]? = some (some (.lst xs))) (h : ∀ i j, i ≠ j → Hw I B ((L.put i (.lst [])).put j (.lst xs)) (rest (((δ.set 2 (some (.mu i))).set 3 (some (.mu j))).set 4 (some (.int 0)))) T) : Hw I B L (dSeq (dPar3 2 3 4 (dCons (dLstM dNil) (dCons (dOpn listMD (dCons (dVar 0) dNil)) (dCons (dC (.int 0)) dNil)))) rest δ) T :=
  show Hw I B L (W.need (([] : List D).length ≤ sizeLine) ((W.new (.lst [])).bind fun i => (dVar 0 δ).bind fun x => (seqW x).bind fun ys => (W.new (.lst ys)).bind fun j => rest (((δ.set 2 (some (.mu i))).set 3 (some (.mu j))).set 4 (some (.int 0))))) T from
    Hw.need (small (Nat.zero_le _)) (Hw.new fun i hi => Hw.bindR (Rt.var h0) (Hw.bindR Rt.ret (Hw.new fun j hj => h i j (fun z => by subst z; rw [Hm.put_self] at hj; cases hj))))
end
section
variable {I : List Nat} {L : Hm} {jf jl jp dn n : Nat} {F sp : List D} {bs lf : List Bk} {s6 s7 s8 s9 s10 s11 : Sl}
abbrev SpR (bs : List Bk) (sp : List D) (jf dn n : Nat) (F : List D) (lf : List Bk) (o : Out) (L : Hm) : Prop := ∃ p l, Kct lf p l (n - dn) ∧ ∃ jl t6 t7 t8 t9 t10 t11, o = .nx (rδ bs sp jf jl (dn + min (szs lf) (n - dn)) (some (.int n)) t6 t7 t8 t9 t10 t11) ∧ L jf = some (.lst (F ++ [lD p])) ∧ L jl = some (.lst (l.map blkL)) ∧ jf ≠ jl
theorem spot_t (h1 : L jf = some (.lst F)) (h2 : L jl = some (.lst (lf.map blkL))) (hn : jf ≠ jl) (hok : ∀ c ∈ lf, OkB c) (hd : dn ≤ n) (hl : lf.length + 3 ≤ 3000) (hF : F.length ≤ 100) : Hw I 0 L (raS (rδ bs sp jf jl dn (some (.int n)) s6 s7 s8 s9 s10 s11)) (SpR bs sp jf dn n F lf) := by
  refine Hw.newL Hd.nil (Nat.zero_le _) fun jp hj => ?_
  have a1 : jf ≠ jp := fun z => by subst z; rw [h1] at hj; cases hj
  have a2 : jl ≠ jp := fun z => by subst z; rw [h2] at hj; cases hj
  have st : St (L.put jp (.lst [])) jf jl jp F lf [] := ⟨by rw [Hm.put_ne a1]; exact h1, by rw [Hm.put_ne a2]; exact h2, Hm.put_self, hn, a1, a2⟩
  refine Hw.bind (B1 := 0) (B2 := 0) (Hw.wh (wh_t (n := n) (bs := bs) (sp := sp) lf _ jl dn [] s7 s8 s9 s10 s11 (lf.length + 1) (by omega) hok st hd (by show 0 + _ + _ ≤ _; omega))) (fun o L' h => ?_) (Nat.le_refl _)
  obtain ⟨p, l, cu, jl', t7, t8, t9, t10, t11, rfl, st'⟩ := h
  rw [List.nil_append] at st'
  refine Hw.ice (j := jp) rfl st'.p (Hw.ofD (Hd.app (j := jf) (xs := F) (y := lD p) rfl (by rw [Hm.put_ne a1]; exact st'.f) (Hd.var rfl) (by rw [Hm.put_ne a1]; exact st'.f) (by omega)) ⟨p, l, cu, jl', some (lD p), t7, t8, t9, t10, t11, rfl, Hm.put_self, ?_, st'.n1⟩)
  rw [Hm.put_ne (Ne.symm st'.n1), Hm.put_ne st'.n3]
  exact st'.l
end
theorem one_row : ∀ {p : List Bk}, (∀ c ∈ p, OkB c) → szs p = 1 → ∃ r, p = [([r], 1)] ∧ Vr r
  | [], _, h => by cases h
  | b :: q, hok, h => by
    have hb := hok b List.mem_cons_self
    have hs := hb.v.sz
    have h : szB b + szs q = 1 := h
    cases q with
    | cons c q =>
      have := (hok c (List.mem_cons_of_mem _ List.mem_cons_self)).v.sz
      have h : szB b + (szB c + szs q) = 1 := h
      omega
    | nil =>
      obtain ⟨rs, t⟩ := b
      have h : rs.length * t + 0 = 1 := h
      have hv1 : 1 ≤ rs.length := hb.v.1
      have hv2 : 1 ≤ t := hb.v.2
      have l1 : rs.length ≤ rs.length * t := Nat.le_mul_of_pos_right _ hv2
      have l2 : t ≤ rs.length * t := Nat.le_mul_of_pos_left _ hv1
      match rs, hb, (show rs.length = 1 by omega) with
      | [r], hb, _ => exact ⟨r, by rw [show t = 1 by omega], hb.r r List.mem_cons_self⟩
theorem rows_at_t {bs : List Bk} (h : OkBs bs) (hl : bs.length ≤ 900) {k : Nat} (h1 : 1 ≤ k) (h2 : k ≤ szs bs) : Tm 0 (g__law_rows_at [lD bs, .lst [.int (k - 1 : Nat), .int k]]) (fun d => ∃ A r R, d = .lst [lD A, lD [([r], 1)], lD R] ∧ Sm bs (A ++ ([([r], 1)] ++ R)) ∧ szs A = k - 1 ∧ (∀ c ∈ A, OkB c) ∧ (∀ c ∈ R, OkB c) ∧ A.length ≤ bs.length + 1 ∧ R.length ≤ bs.length + 2 ∧ Vr r) := by
  refine tBody (Hw.tm (rowsNew (xs := bs.map blkL) rfl fun jf jl hne => ?_))
  refine Hw.bind (B1 := 0) (B2 := 0) (R := fun o L => ∃ A r R, Sm bs (A ++ ([([r], 1)] ++ R)) ∧ szs A = k - 1 ∧ (∀ c ∈ A, OkB c) ∧ (∀ c ∈ R, OkB c) ∧ A.length ≤ bs.length + 1 ∧ R.length ≤ bs.length + 2 ∧ Vr r ∧ ∃ jl dn s5 s6 s7 s8 s9 s10 s11, o = .nx (rδ bs [.int (k - 1 : Nat), .int k] jf jl dn s5 s6 s7 s8 s9 s10 s11) ∧ L jf = some (.lst [lD A, lD [([r], 1)]]) ∧ L jl = some (.lst (R.map blkL)) ∧ jf ≠ jl) ?_ (fun o L ho => ?_) (Nat.le_refl _)
  · refine Hw.bindR (rIL (Rt.var rfl)) (Hw.forC (B1 := 0) (B2 := 0) Rt.ret (spot_t (bs := bs) (sp := [.int (k - 1 : Nat), .int k]) (jf := jf) (jl := jl) (dn := 0) (n := k - 1) (F := []) (lf := bs) (s6 := none) (s7 := none) (s8 := none) (s9 := none) (s10 := none) (s11 := none) ?_ Hm.put_self hne h.2 (Nat.zero_le _) (by omega) (Nat.zero_le _)) (fun o L' ho => ?_) (Nat.le_refl _))
    · rw [Hm.put_ne hne]; exact Hm.put_self
    · obtain ⟨A, l, cu, jl', t6, t7, t8, t9, t10, t11, rfl, q1, q2, q3⟩ := ho
      have sA : szs A = k - 1 := by have := cu.sz; omega
      have sz := Sm.size cu.sm h.vb (fun x hx => by
        rcases List.mem_append.mp hx with hx | hx
        · exact (cu.pk x hx).v
        · exact (cu.lk x hx).v)
      rw [szs_app] at sz
      refine ⟨_, rfl, Hw.forC (B1 := 0) (B2 := 0) Rt.ret (spot_t (bs := bs) (sp := [.int (k - 1 : Nat), .int k]) (jf := jf) (jl := jl') (dn := 0 + min (szs bs) (k - 1 - 0)) (n := k) (F := [lD A]) (lf := l) (s6 := t6) (s7 := t7) (s8 := t8) (s9 := t9) (s10 := t10) (s11 := t11) q1 q2 q3 cu.lk (by omega) (by have := cu.n2; omega) (show 1 ≤ 100 by decide)) (fun o L' ho => ?_) (Nat.le_refl _)⟩
      obtain ⟨H, R, cu2, jl2, u6, u7, u8, u9, u10, u11, rfl, r1, r2, r3⟩ := ho
      obtain ⟨r, rfl, hr⟩ := one_row cu2.pk (by have := cu2.sz; omega)
      have n1 := cu.n1
      have n2 := cu.n2
      have n3 := cu2.n2
      exact ⟨_, rfl, Hw.ret ⟨A, r, R, cu.sm.trans (Sm.app (Sm.refl A) cu2.sm rfl), sA, cu.pk, cu2.lk, n1, by omega, hr, jl2, _, _, u6, u7, u8, u9, u10, u11, rfl, r1, r2, r3⟩⟩
  · obtain ⟨A, r, R, e1, e2, e3, e4, e5, e6, e7, jl', dn, s5, s6, s7, s8, s9, s10, s11, rfl, q1, q2, q3⟩ := ho
    refine Hw.ice (j := jf) rfl q1 (Hw.ofD (Hd.retv (d := .lst [lD A, lD [([r], 1)], lD R]) (Hd.op2 (x := .lst [lD A, lD [([r], 1)]]) (y := .lst [lD R]) (Hd.var rfl) (Hd.lst (Hd.cons (Hd.iceE (Hd.var rfl) (by rw [Hm.put_ne (Ne.symm q3)]; exact q2)) Hd.nil) (show 1 ≤ 4000 by decide)) (Rt.need (small (show 3 ≤ 4000 by decide)) Rt.ret))) ⟨_, rfl, A, r, R, rfl, e1, e2, e3, e4, e5, e6, e7⟩)
end Lw
namespace Lw
open PySem L2 Ly
open Lx (inS cutL Ky IsTb atI_in)
theorem Rt.any0 {A : Type} {P : A → Prop} {a : A} (h : ∀ x, P x → x = a) : Rt (W.any 0 P) a := fun s Q E q => ⟨s.n, rfl, fun x hx => by rw [h x hx]; exact q ⟨s.n, s.st⟩ rfl (List.prefix_refl _)⟩
abbrev natD (n : Nat) : D := .int (n : Nat)
theorem natD_ints (ns : List Nat) : ns.map natD = (ns.map fun n : Nat => (n : Int)).map D.int := by rw [List.map_map]; rfl
theorem ints_inj : ∀ {a b : List Int}, a.map D.int = b.map D.int → a = b
  | [], [], _ => rfl
  | [], _ :: _, h => by cases h
  | _ :: _, [], h => by cases h
  | x :: r, y :: q, h => by
    rw [List.map_cons, List.map_cons, List.cons.injEq, D.int.injEq] at h
    rw [h.1, ints_inj h.2]
section
variable {δ : List Sl}
theorem sort_r {v : Nat} {ns : List Nat} (h : δ[v]? = some (some (.lst (ns.map natD)))) (hl : ns.length < 60) : Rt (dSortSetI (dVar v) δ) (.lst ((sortN ns).map natD)) := by
  refine Rt.bind (Rt.var h) (Rt.need ⟨ns.map fun n : Nat => (n : Int), natD_ints ns, by rw [List.length_map]; exact hl⟩ (Rt.any0 ?_))
  rintro d ⟨xs, ms, e1, rfl, h1, h2, _⟩
  rw [natD_ints] at e1
  obtain rfl := ints_inj e1
  rw [natD_ints]
  congr 2
  refine pw_eq h1 ?_ fun k => ?_
  · exact List.pairwise_map.mpr (pw_sort.imp fun h => Int.ofNat_lt.mpr h)
  · rw [h2, List.mem_map, List.mem_map]
    exact ⟨fun ⟨n, a, b⟩ => ⟨n, mem_sort.mpr a, b⟩, fun ⟨n, a, b⟩ => ⟨n, mem_sort.mp a, b⟩⟩
theorem minL_r {i j : Nat} : Rt (minLD [.lst [natD i, natD j]]) (natD (min i j)) := by
  refine Rt.need ⟨[(i : Int), (j : Int)], rfl, Nat.zero_lt_succ _⟩ (Rt.any0 ?_)
  rintro d ⟨ns, m, e, rfl, h1, h2⟩
  obtain rfl := ints_inj (a := [(i : Int), (j : Int)]) e
  have a := h2 _ (List.mem_cons_self ..)
  have b := h2 _ (List.mem_cons_of_mem _ (List.mem_cons_self ..))
  refine congrArg D.int ?_
  rcases List.mem_cons.mp h1 with z | z
  · omega
  · have := List.mem_singleton.mp z
    omega
theorem row_data {x : Option Str} (h : ∀ r, x = some r → asc r) : ∃ p, toP (rowD x) = some p ∧ SeqAt.shaped p = true := by
  cases x with
  | none => exact ⟨.none, by unfold rowD; rw [toP], rfl⟩
  | some r =>
    refine ⟨.str r, by unfold rowD; rw [toP], ?_⟩
    have q := shaped_strs (l := [r]) (fun y hy => by rw [List.mem_singleton.mp hy]; exact h r rfl)
    have q := SeqAt.canLay_of_shaped q
    have q : (PyData.canLay0 (.str r) && PyData.canLayAll0 []) = true := q
    rw [Bool.and_eq_true] at q
    show (PyData.canLay0 (.str r) && decide (PyData.depth (.str r) ≤ 64)) = true
    rw [q.1]; rfl
theorem ne_row {x y : Option Str} (hx : ∀ r, x = some r → asc r) (hy : ∀ r, y = some r → asc r) : Rt (neD (rowD x) (rowD y)) (.bl (!decide (x = y))) := by
  cases x with
  | none =>
    cases y with
    | none =>
      show Rt (match toP .non, toP .non with | some a, some b => W.need (SeqAt.shaped a = true ∧ SeqAt.shaped b = true) (W.ret (D.bl (!PyData.eqv a b))) | _, _ => W.stuck) _
      rw [toP]
      exact Rt.need ⟨rfl, rfl⟩ Rt.ret
    | some r =>
      obtain ⟨p, e1, e2⟩ := row_data hy
      have e0 : toP (rowD (some r)) = some (.str r) := by unfold rowD; rw [toP]
      rw [e0] at e1; cases e1
      show Rt (match toP .non, toP (.str r) with | some a, some b => W.need (SeqAt.shaped a = true ∧ SeqAt.shaped b = true) (W.ret (D.bl (!PyData.eqv a b))) | _, _ => W.stuck) _
      rw [toP, toP]
      exact Rt.need ⟨rfl, e2⟩ (Rt.ret.cast (by simp [PyData.eqv]))
  | some q =>
    cases y with
    | none =>
      obtain ⟨p, e1, e2⟩ := row_data hx
      have e0 : toP (rowD (some q)) = some (.str q) := by unfold rowD; rw [toP]
      rw [e0] at e1; cases e1
      show Rt (match toP (.str q), toP .non with | some a, some b => W.need (SeqAt.shaped a = true ∧ SeqAt.shaped b = true) (W.ret (D.bl (!PyData.eqv a b))) | _, _ => W.stuck) _
      rw [toP, toP]
      exact Rt.need ⟨e2, rfl⟩ (Rt.ret.cast (by simp [PyData.eqv]))
    | some r => exact Rt.ret.cast (congrArg D.bl (congrArg not (decide_eq_decide.mpr (by simp))))
end
theorem OkBs.row {bs : List Bk} (h : OkBs bs) {n : Nat} {r : Str} (e : at0 bs n = some r) : Vr r := by
  obtain ⟨b, hb, hr⟩ := at0_mem e
  exact (h.2 b hb).r r hr
@[reducible] def apE : List Sl → W Out := (dSeq (dAsg (dOp2 addD (dVar 4) (dOp2 mulUD (dOpn lenD (dCons (dVar 6) dNil)) (dVar 7))) (dName 4))
  (dApp 3 (dVar 4)))
@[reducible] def apO : List Sl → W Out := (dSeq (dAsg (dC (.int 0)) (dName 4))
  (dFor (dIL (dVar 5)) (dGTup 2 (dGCons (dName 6) (dGCons (dName 7) dGNil))) (dSeq (dAsg (dOp2 addD (dVar 4) (dOp2 mulUD (dOpn lenD (dCons (dVar 6) dNil)) (dVar 7))) (dName 4))
  (dApp 3 (dVar 4)))))
@[reducible] def apN : List Sl → W Out := (dIf (dOr (dTest (dOp2 gtD (dVar 10) (dOpn minLD (dCons (dVar 2) dNil)))) (dTest (dOp2 neD (dCall 2 g__law_lline (dCons (dVar 0) (dCons (dVar 10) dNil))) (dCall 2 g__law_lline (dCons (dVar 1) (dCons (dVar 10) dNil)))))) (dRet (dVar 10)) dNext)
@[reducible] def apF : List Sl → W Out := (dSeq (dFor (dIRL (dCons (dOp2 addD (dVar 8) (dC (.int 1))) (dCons (dOp2 addD (dOpn minD (dCons (dVar 9) (dCons (dOp2 addD (dVar 8) (dC (.int 12))) dNil))) (dC (.int 1))) dNil))) (dName 10) (dIf (dOr (dTest (dOp2 gtD (dVar 10) (dOpn minLD (dCons (dVar 2) dNil)))) (dTest (dOp2 neD (dCall 2 g__law_lline (dCons (dVar 0) (dCons (dVar 10) dNil))) (dCall 2 g__law_lline (dCons (dVar 1) (dCons (dVar 10) dNil)))))) (dRet (dVar 10)) dNext))
  (dAsg (dVar 9) (dName 8)))
@[reducible] def apRng : List Sl → W (List D) := (dIRL (dCons (dOp2 addD (dVar 8) (dC (.int 1))) (dCons (dOp2 addD (dOpn minD (dCons (dVar 9) (dCons (dOp2 addD (dVar 8) (dC (.int 12))) dNil))) (dC (.int 1))) dNil)))
abbrev pδ (a b : List Bk) (s3 s4 s5 s6 s7 s8 s9 s10 : Sl) : List Sl := [some (lD a), some (lD b), some (.lst [natD (szs a), natD (szs b)]), s3, s4, s5, s6, s7, s8, s9, s10]
section
variable {I : List Nat} {a b : List Bk} {j : Nat} {s5 s6 s7 s8 s9 s10 : Sl}
theorem edge_for : ∀ (bs : List Bk) (acc : Nat) (es : List Nat) (L : Hm) (s6 s7 : Sl), L j = some (.lst (es.map natD)) → Sh bs → es.length + bs.length ≤ 3000 → ∃ t6 t7, Hd I L (L.put j (.lst ((es ++ edg acc bs).map natD))) (forD (dGTup 2 (dGCons (dName 6) (dGCons (dName 7) dGNil))) apE (bs.map blkL) (pδ a b (some (.mu j)) (some (natD acc)) s5 s6 s7 s8 s9 s10)) (.nx (pδ a b (some (.mu j)) (some (natD (acc + szs bs))) s5 t6 t7 s8 s9 s10))
  | [], acc, es, L, s6, s7, h, hs, hl => ⟨s6, s7, by
    show Hd I L _ (W.ret _) _
    rw [show es ++ edg acc [] = es from List.append_nil _, Hm.put_id h]
    exact Hd.ret⟩
  | c :: r, acc, es, L, s6, s7, h, hs, hl => by
    rw [List.length_cons] at hl
    obtain ⟨t6, t7, q⟩ := edge_for r (acc + szB c) (es ++ [acc + szB c]) (L.put j (.lst ((es ++ [acc + szB c]).map natD))) (some (.lst (c.1.map .str))) (some (.int (c.2 : Nat))) Hm.put_self ⟨by have := hs.1; rw [List.length_cons] at this; omega, fun x hx => hs.2 x (List.mem_cons_of_mem _ hx)⟩ (by rw [List.length_append]; show es.length + 1 + _ ≤ _; omega)
    refine ⟨t6, t7, ?_⟩
    have hc := hs.2 c List.mem_cons_self
    refine Hd.forC (η := pδ a b (some (.mu j)) (some (natD (acc + szB c))) s5 (some (.lst (c.1.map .str))) (some (.int (c.2 : Nat))) s8 s9 s10) two_g (Hd.seq (Hd.asg (d := natD (acc + szB c)) (Hd.of (Rt.op2 (Rt.var rfl) (szL_r (rs := c.1) (t := c.2) rfl rfl (by omega)) (Rt.ret.cast (congrArg D.int (by show (acc : Int) + ((szB c : Nat) : Int) = _; omega)))))) ((Hd.app (j := j) (xs := es.map natD) (y := natD (acc + szB c)) rfl h (Hd.var rfl) h (by rw [List.length_map]; omega)).castL (M2 := L.put j (.lst ((es ++ [acc + szB c]).map natD))) (by rw [List.map_append]; rfl))) ?_
    rw [put_put, List.append_assoc] at q
    rw [show acc + szs (c :: r) = acc + szB c + szs r by show acc + (szB c + szs r) = _; omega]
    exact q
theorem edges_t (h : Sh a) (g : Sh b) {L : Hm} {s4 : Sl} (e : L j = some (.lst ([] : List D))) : ∃ t5 t6 t7 t4, Hd I L (L.put j (.lst ((edg 0 a ++ edg 0 b).map natD))) (dFor (dIT (dTup (dCons (dVar 0) (dCons (dVar 1) dNil)))) (dName 5) apO (pδ a b (some (.mu j)) s4 s5 s6 s7 s8 s9 s10)) (.nx (pδ a b (some (.mu j)) t4 t5 t6 t7 s8 s9 s10)) := by
  obtain ⟨u6, u7, q1⟩ := edge_for (I := I) (a := a) (b := b) (j := j) (s5 := some (lD a)) (s8 := s8) (s9 := s9) (s10 := s10) a 0 [] L s6 s7 e h (by have := h.1; show 0 + _ ≤ _; omega)
  obtain ⟨t6, t7, q2⟩ := edge_for (I := I) (a := a) (b := b) (j := j) (s5 := some (lD b)) (s8 := s8) (s9 := s9) (s10 := s10) b 0 ([] ++ edg 0 a) (L.put j (.lst (([] ++ edg 0 a).map natD))) u6 u7 Hm.put_self g (by have := h.1; have := g.1; rw [List.nil_append, edg_len]; omega)
  rw [put_put] at q2
  refine ⟨_, t6, t7, _, Hd.for (Hd.of (rIT (Rt.tup (Rt.cons (Rt.var rfl) (Rt.cons (Rt.var rfl) Rt.nil)) (small (show 2 ≤ 4000 by decide))))) (Hd.forC Rt.ret (Hd.seq (Hd.asg (Hd.of Rt.cC)) (Hd.for (Hd.of (rIL (Rt.var rfl))) q1)) (Hd.forC Rt.ret (Hd.seq (Hd.asg (Hd.of Rt.cC)) (Hd.for (Hd.of (rIL (Rt.var rfl))) q2)) Hd.forN))⟩
end
section
variable {a b : List Bk} {s3 s4 s5 s6 s7 s8 s9 s10 : Sl}
def bad (a b : List Bk) (n : Nat) : Prop := min (szs a) (szs b) < n + 1 ∨ at0 a n ≠ at0 b n
theorem bad_t (ha : OkBs a) (hb : OkBs b) (n : Nat) : ∃ c : Bool, (c = true ↔ bad a b n) ∧ Rt (dOr (dTest (dOp2 gtD (dVar 10) (dOpn minLD (dCons (dVar 2) dNil)))) (dTest (dOp2 neD (dCall 2 g__law_lline (dCons (dVar 0) (dCons (dVar 10) dNil))) (dCall 2 g__law_lline (dCons (dVar 1) (dCons (dVar 10) dNil))))) (pδ a b s3 s4 s5 s6 s7 s8 s9 (some (natD (n + 1))))) c := by
  have t1 : Rt (dTest (dOp2 gtD (dVar 10) (dOpn minLD (dCons (dVar 2) dNil))) (pδ a b s3 s4 s5 s6 s7 s8 s9 (some (natD (n + 1))))) (decide (min (szs a) (szs b) < n + 1)) :=
    (Rt.test (Rt.op2 (Rt.var rfl) (Rt.opn (Rt.cons (Rt.var rfl) Rt.nil) minL_r) Rt.ret)).cast (decide_eq_decide.mpr (by omega))
  have t2 : Rt (dTest (dOp2 neD (dCall 2 g__law_lline (dCons (dVar 0) (dCons (dVar 10) dNil))) (dCall 2 g__law_lline (dCons (dVar 1) (dCons (dVar 10) dNil)))) (pδ a b s3 s4 s5 s6 s7 s8 s9 (some (natD (n + 1))))) (!decide (at0 a n = at0 b n)) :=
    Rt.test (Rt.op2 (Rt.call (Rt.cons (Rt.var rfl) (Rt.cons (Rt.var rfl) Rt.nil)) rfl (lline_r ha (Nat.succ_le_succ (Nat.zero_le _)))) (Rt.call (Rt.cons (Rt.var rfl) (Rt.cons (Rt.var rfl) Rt.nil)) rfl (lline_r hb (Nat.succ_le_succ (Nat.zero_le _)))) (ne_row (fun r e => lets_asc (ha.row e).1) (fun r e => lets_asc (hb.row e).1)))
  refine ⟨decide (min (szs a) (szs b) < n + 1) || !decide (at0 a n = at0 b n), ?_, Rt.or t1 fun _ => t2⟩
  unfold bad
  simp
theorem num_ok (ha : OkBs a) (hb : OkBs b) {n : Nat} (h : ¬ bad a b n) : Rt (apN (pδ a b s3 s4 s5 s6 s7 s8 s9 (some (natD (n + 1))))) (.nx (pδ a b s3 s4 s5 s6 s7 s8 s9 (some (natD (n + 1))))) := by
  obtain ⟨c, e, q⟩ := bad_t (s3 := s3) (s4 := s4) (s5 := s5) (s6 := s6) (s7 := s7) (s8 := s8) (s9 := s9) ha hb n
  cases c with
  | true => exact absurd (e.mp rfl) h
  | false => exact Rt.ifF q Rt.next
theorem num_bad (ha : OkBs a) (hb : OkBs b) {n : Nat} (h : bad a b n) : Rt (apN (pδ a b s3 s4 s5 s6 s7 s8 s9 (some (natD (n + 1))))) (.rt (natD (n + 1))) := by
  obtain ⟨c, e, q⟩ := bad_t (s3 := s3) (s4 := s4) (s5 := s5) (s6 := s6) (s7 := s7) (s8 := s8) (s9 := s9) ha hb n
  cases c with
  | true => exact Rt.ifT q (Rt.rets (Rt.var rfl))
  | false => exact absurd (e.mpr h) (by decide)
theorem range_from : ∀ (l m : Nat), rangeD (m : Int) l = (List.range' m l).map fun k : Nat => D.int k
  | 0, m => rfl
  | l + 1, m => by
    rw [List.range'_succ, List.map_cons, ← range_from l (m + 1)]
    show D.int m :: rangeD ((m : Int) + 1) l = _
    rw [Int.natCast_add]; rfl
theorem rng_r {s t : Nat} (h : s < t) : Rt (apRng (pδ a b s3 s4 s5 s6 s7 (some (natD s)) (some (natD t)) s10)) ((List.range' (s + 1) (min t (s + 12) - s)).map fun k : Nat => D.int k) := by
  rw [← range_from]
  refine Rt.bind (a := [natD (s + 1), natD (min t (s + 12) + 1)]) (Rt.cons (Rt.op2 (Rt.var rfl) Rt.cC (Rt.ret.cast (congrArg D.int (by omega)))) (Rt.cons (Rt.op2 (x := natD (min t (s + 12))) (Rt.opn (Rt.cons (Rt.var rfl) (Rt.cons (Rt.op2 (z := natD (s + 12)) (Rt.var rfl) Rt.cC (Rt.ret.cast (congrArg D.int (by omega)))) Rt.nil)) (Rt.ret.cast (congrArg D.int (min_nat _ _)))) Rt.cC (Rt.ret.cast (congrArg D.int (by omega)))) Rt.nil)) (Rt.ret.cast ?_)
  congr 1
  omega
theorem last_edge {bs : List Bk} {s : Nat} (h : ∀ e ∈ edg 0 bs, e ≤ s) : szs bs ≤ s := by
  by_cases z : bs = []
  · subst z; exact Nat.zero_le _
  · have := h _ (edg_last bs 0 z)
    omega
theorem least {P : Nat → Prop} : ∀ N : Nat, (∃ i, i < N ∧ P i) → ∃ i, i < N ∧ P i ∧ ∀ j, j < i → ¬ P j
  | 0, ⟨i, h, _⟩ => absurd h (Nat.not_lt_zero _)
  | N + 1, ⟨i, h, p⟩ => by
    by_cases z : ∃ i, i < N ∧ P i
    · obtain ⟨j, h1, h2, h3⟩ := least N z
      exact ⟨j, by omega, h2, h3⟩
    · exact ⟨i, h, p, fun j hj q => z ⟨j, by omega, q⟩⟩
theorem scan_r (ha : OkBs a) (hb : OkBs b) : ∀ (es : List Nat) (s : Nat) (s9 s10 : Sl), es.Pairwise (· < ·) → (∀ e ∈ es, s < e ∧ (e ∈ edg 0 a ∨ e ∈ edg 0 b)) → (∀ e, e ∈ edg 0 a ∨ e ∈ edg 0 b → e ≤ s ∨ e ∈ es) → (∀ n, n < s → at0 a n = at0 b n) →
    (∃ k, LD a b (some k) ∧ Rt (forD (dName 9) apF (es.map natD) (pδ a b s3 s4 s5 s6 s7 (some (natD s)) s9 s10)) (.rt (natD k))) ∨ (LD a b none ∧ ∃ ε, Rt (forD (dName 9) apF (es.map natD) (pδ a b s3 s4 s5 s6 s7 (some (natD s)) s9 s10)) (.nx ε))
  | [], s, s9, s10, h1, h2, h3, h4 => by
    have la := last_edge (bs := a) (s := s) fun e he => (h3 e (.inl he)).resolve_right (fun z => nomatch z)
    have lb := last_edge (bs := b) (s := s) fun e he => (h3 e (.inr he)).resolve_right (fun z => nomatch z)
    refine .inr ⟨fun n => ?_, _, Rt.ret⟩
    by_cases z : n < s
    · exact h4 n z
    · rw [at0_ge (by omega), at0_ge (by omega)]
  | t :: es, s, s9, s10, h1, h2, h3, h4 => by
    obtain ⟨p1, p2⟩ := List.pairwise_cons.mp h1
    obtain ⟨st, ht⟩ := h2 t List.mem_cons_self
    have tmax : t ≤ szs a ∨ t ≤ szs b := by
      rcases ht with z | z
      · have := (edg_le a 0 t ha.vb z).2; exact .inl (by omega)
      · have := (edg_le b 0 t hb.vb z).2; exact .inr (by omega)
    rw [List.map_cons]
    by_cases hbad : ∃ i, i < min t (s + 12) - s ∧ bad a b (s + i)
    · obtain ⟨i, i1, i2, hmin⟩ := least (P := fun i => bad a b (s + i)) _ hbad
      refine .inl ⟨s + i + 1, ⟨Nat.succ_le_succ (Nat.zero_le _), ?_, fun n hn => ?_⟩, ?_⟩
      · rw [Nat.add_sub_cancel]
        rcases i2 with z | z
        · intro w
          rcases Nat.lt_or_ge (s + i) (szs a) with q | q
          · obtain ⟨r, e⟩ := at0_lt ha.vb q
            rw [e, at0_ge (by omega)] at w; cases w
          · rcases Nat.lt_or_ge (s + i) (szs b) with q2 | q2
            · obtain ⟨r, e⟩ := at0_lt hb.vb q2
              rw [e, at0_ge (by omega)] at w; cases w
            · omega
        · exact z
      · rw [Nat.add_sub_cancel] at hn
        by_cases z : n < s
        · exact h4 n z
        · have q := hmin (n - s) (by omega)
          rw [show s + (n - s) = n by omega] at q
          exact Classical.byContradiction fun w => q (.inr w)
      · refine Rt.forR (Rt.seqR (Rt.bind (rng_r st) ?_))
        exact scanR (δ := pδ a b s3 s4 s5 s6 s7 (some (natD s)) (some (natD t)) s10) (i := 10) (gb := apN) _ (s + 1) s10 (s + i + 1) (by omega) (by omega) (fun j j1 j2 => by
          obtain ⟨m, rfl⟩ : ∃ m, j = s + m + 1 := ⟨j - s - 1, by omega⟩
          exact num_ok ha hb (hmin m (by omega))) (num_bad ha hb i2)
    · have hok : ∀ i, i < min t (s + 12) - s → ¬ bad a b (s + i) := fun i hi z => hbad ⟨i, hi, z⟩
      have h0 := hok 0 (by omega)
      have hmin : s < min (szs a) (szs b) := by
        rcases Nat.lt_or_ge s (min (szs a) (szs b)) with z | z
        · exact z
        · exact absurd (.inl (by omega)) h0
      have ta : t ≤ szs a := by
        by_cases z : a = []
        · subst z; have hmin : s < min 0 _ := hmin; omega
        · rcases h3 _ (.inl (edg_last a 0 z)) with w | w
          · omega
          · rcases List.mem_cons.mp w with w | w
            · omega
            · have := p1 _ w; omega
      have tb : t ≤ szs b := by
        by_cases z : b = []
        · subst z; have hmin : s < min _ 0 := hmin; omega
        · rcases h3 _ (.inr (edg_last b 0 z)) with w | w
          · omega
          · rcases List.mem_cons.mp w with w | w
            · omega
            · have := p1 _ w; omega
      have out : ∀ e, e ∈ edg 0 a ∨ e ∈ edg 0 b → e ≤ s ∨ t ≤ e := fun e he => (h3 e he).imp id fun w => by
        rcases List.mem_cons.mp w with w | w
        · omega
        · have := p1 _ w; omega
      have same := edge_step ha hb st ta tb (fun e he => out e (.inl he)) (fun e he => out e (.inr he)) (fun n n1 n2 n3 => by
        have q := hok (n - s) (by omega)
        rw [show s + (n - s) = n by omega] at q
        exact Classical.byContradiction fun w => q (.inr w))
      obtain ⟨u10, sc⟩ := scanN (δ := pδ a b s3 s4 s5 s6 s7 (some (natD s)) (some (natD t)) s10) (i := 10) (gb := apN) (min t (s + 12) - s) (s + 1) s10 (fun j j1 j2 => by
        obtain ⟨m, rfl⟩ : ∃ m, j = s + m + 1 := ⟨j - s - 1, by omega⟩
        exact num_ok ha hb (hok m (by omega)))
      have one : Rt (apF (pδ a b s3 s4 s5 s6 s7 (some (natD s)) (some (natD t)) s10)) (.nx (pδ a b s3 s4 s5 s6 s7 (some (natD t)) (some (natD t)) u10)) := Rt.seq (Rt.bind (rng_r st) sc) (Rt.asg (Rt.var rfl))
      rcases scan_r ha hb es t (some (natD t)) u10 p2 (fun e he => ⟨p1 e he, (h2 e (List.mem_cons_of_mem _ he)).2⟩) (fun e he => by
        rcases h3 e he with w | w
        · exact .inl (by omega)
        · rcases List.mem_cons.mp w with w | w
          · exact .inl (by omega)
          · exact .inr w) (fun n hn => by
        by_cases z : n < s
        · exact h4 n z
        · exact same n (by omega) hn) with ⟨k, q1, q2⟩ | ⟨q1, ε, q2⟩
      · exact .inl ⟨k, q1, Rt.forC one q2⟩
      · exact .inr ⟨q1, ε, Rt.forC one q2⟩
end
theorem parNewD {I : List Nat} {L L1 : Hm} {δ : List Sl} {rest : List Sl → W Out} {u : Out} (h : ∀ j, Hd I (L.put j (.lst [])) L1 (rest ((δ.set 3 (some (.mu j))).set 4 (some (.int 0)))) u) : Hd I L L1 (dSeq (dPar 3 4 (dCons (dLstM dNil) (dCons (dC (.int 0)) dNil))) rest δ) u :=
  show Hd I L L1 (W.need (([] : List D).length ≤ sizeLine) ((W.new (.lst [])).bind fun j => rest ((δ.set 3 (some (.mu j))).set 4 (some (.int 0))))) u from Hd.need (small (Nat.zero_le _)) (Hd.new fun j _ => h j)
theorem apart_r {a b : List Bk} (ha : OkBs a) (hb : OkBs b) (hl : a.length + b.length < 60) : ∃ e, LD a b e ∧ Rt (g__law_apart [lD a, lD b]) (optD e) := by
  have fin : ∀ (δ4 : Sl) (δ5 δ6 δ7 : Sl), ∃ e, LD a b e ∧ Rt (dSeq (dAsg (dC (.int 0)) (dName 8)) (dSeq (dFor (dIL (dSortSetI (dVar 3))) (dName 9) apF) (dRet (dC .non))) (pδ a b (some (.lst ((edg 0 a ++ edg 0 b).map natD))) δ4 δ5 δ6 δ7 none none none)) (.rt (optD e)) := fun δ4 δ5 δ6 δ7 => by
    have srt : Rt (dIL (dSortSetI (dVar 3)) (pδ a b (some (.lst ((edg 0 a ++ edg 0 b).map natD))) δ4 δ5 δ6 δ7 (some (natD 0)) none none)) ((sortN (edg 0 a ++ edg 0 b)).map natD) := rIL (sort_r rfl (by rw [List.length_append, edg_len, edg_len]; exact hl))
    rcases scan_r (s3 := some (.lst ((edg 0 a ++ edg 0 b).map natD))) (s4 := δ4) (s5 := δ5) (s6 := δ6) (s7 := δ7) ha hb (sortN (edg 0 a ++ edg 0 b)) 0 none none pw_sort (fun e he => by
      rcases List.mem_append.mp (mem_sort.mp he) with z | z
      · exact ⟨(edg_le a 0 e ha.vb z).1, .inl z⟩
      · exact ⟨(edg_le b 0 e hb.vb z).1, .inr z⟩) (fun e he => .inr (mem_sort.mpr (List.mem_append.mpr he))) (fun n hn => absurd hn (Nat.not_lt_zero _)) with ⟨k, q1, q2⟩ | ⟨q1, ε, q2⟩
    · exact ⟨some k, q1, Rt.seq (Rt.asg (d := natD 0) Rt.cC) (Rt.seqR (Rt.bind srt q2))⟩
    · exact ⟨none, q1, Rt.seq (Rt.asg (d := natD 0) Rt.cC) (Rt.seq (Rt.bind srt q2) (Rt.rets Rt.cC))⟩
  obtain ⟨e, he, _⟩ := fin none none none none
  refine ⟨e, he, Rt.bodyR (Hd.rt (L1 := hm0) ?_)⟩
  refine Hd.seq (Hd.asg (d := .lst [natD (szs a), natD (szs b)]) (Hd.of (Rt.lst (Rt.cons (Rt.call (Rt.cons (Rt.var rfl) Rt.nil) rfl (lsize_r ha.sh)) (Rt.cons (Rt.call (Rt.cons (Rt.var rfl) Rt.nil) rfl (lsize_r hb.sh)) Rt.nil)) (small (show 2 ≤ 4000 by decide))))) (parNewD fun j => ?_)
  obtain ⟨t5, t6, t7, t4, q⟩ := edges_t (I := []) (a := a) (b := b) (j := j) (s5 := none) (s6 := none) (s7 := none) (s8 := none) (s9 := none) (s10 := none) ha.sh hb.sh (L := hm0.put j (.lst [])) (s4 := some (.int 0)) Hm.put_self
  obtain ⟨e', he', q'⟩ := fin t4 t5 t6 t7
  rw [LD.uniq he he']
  exact Hd.weak (Hd.seq q (Hd.ice (j := j) rfl Hm.put_self (Hd.of q'))) (fun k o z => by cases z)
end Lw
namespace Lw
open PySem L2 Ly
open Lx (inS cutL Ky IsTb atI_in)
def Sp (b : Bk) (ps : List Bk) : Prop := Sm [b] ps ∧ (∀ c ∈ ps, OkB c) ∧ 1 ≤ ps.length ∧ ps.length ≤ 3
section
variable {b : Bk}
theorem ok2 {x y : Bk} (h1 : OkB x) (h2 : OkB y) : ∀ c ∈ [x, y], OkB c := fun c hc => by
  rcases List.mem_cons.mp hc with rfl | hc
  · exact h1
  · rw [List.mem_singleton.mp hc]; exact h2
theorem sp_two (h : OkB b) {f : Nat} (h1 : 1 ≤ f) (h2 : f < b.2) : Sp b [(b.1, f), (b.1, b.2 - f)] := by
  have hv := h.v.1
  refine ⟨Pd.sm (Pd.cons (Pd.whole (Nat.zero_mod _) hv) (Pd.cons (Pd.whole ?_ hv) Pd.nil)) ?_, ok2 (h.times h1 (by omega)) (h.times (by omega) (by omega)), by simp, by simp⟩
  · rw [Nat.zero_add]; exact Nat.mul_mod_right ..
  · show b.1.length * f + (b.1.length * (b.2 - f) + 0) = _
    rw [Nat.add_zero, ← Nat.mul_add]
    congr 1; omega
theorem sp_twice (h : OkB b) (hl : b.1.length < 3) (h2 : 1 < b.2) : Sp b ((b.1 ++ b.1, b.2 / 2) :: List.replicate (b.2 % 2) (b.1, 1)) := by
  have hv := h.v.1
  have e := Nat.div_add_mod b.2 2
  have sz : szB (b.1 ++ b.1, b.2 / 2) = b.1.length * (2 * (b.2 / 2)) := by
    show (b.1 ++ b.1).length * (b.2 / 2) = _
    rw [List.length_append, ← Nat.mul_assoc]
    congr 1; omega
  have okd : OkB (b.1 ++ b.1, b.2 / 2) := ⟨⟨by show 1 ≤ (b.1 ++ b.1).length; rw [List.length_append]; omega, by show 1 ≤ b.2 / 2; omega⟩, by show (b.1 ++ b.1).length ≤ 4; rw [List.length_append]; omega, by have := h.t; show b.2 / 2 ≤ _; omega, fun r hr => by
    rcases List.mem_append.mp hr with hr | hr <;> exact h.r r hr⟩
  have p0 : Pd b.1 0 [(b.1 ++ b.1, b.2 / 2)] := Pd.cons (Pd.twice (Nat.zero_mod _) hv) Pd.nil
  rcases Nat.mod_two_eq_zero_or_one b.2 with z | z
  · rw [z, List.replicate_zero]
    refine ⟨Pd.sm (Pd.cons (Pd.twice (Nat.zero_mod _) hv) Pd.nil) ?_, fun c hc => by rw [List.mem_singleton.mp hc]; exact okd, by simp, by simp⟩
    show szB (b.1 ++ b.1, b.2 / 2) + 0 = _
    rw [sz, Nat.add_zero]
    congr 1; omega
  · rw [z, List.replicate_one]
    refine ⟨Pd.sm (Pd.cons (Pd.twice (Nat.zero_mod _) hv) (Pd.cons (Pd.whole ?_ hv) Pd.nil)) ?_, ok2 okd (h.times (Nat.le_refl _) (by omega)), by simp, by simp⟩
    · rw [sz, Nat.zero_add]; exact Nat.mul_mod_right ..
    · show szB (b.1 ++ b.1, b.2 / 2) + (b.1.length * 1 + 0) = _
      rw [sz, Nat.add_zero, ← Nat.mul_add]
      congr 1; omega
theorem sp_turned (h : OkB b) {k : Nat} (h1 : 1 ≤ k) (h2 : k < b.1.length) (h3 : 1 < b.2) : Sp b [(b.1.take k, 1), (b.1.drop k ++ b.1.take k, b.2 - 1), (b.1.drop k, 1)] := by
  have hv := h.v.1
  have s1 : szB (b.1.take k, 1) = k := by show (b.1.take k).length * 1 = k; rw [List.length_take]; omega
  have l2 : (b.1.drop k ++ b.1.take k).length = b.1.length := by rw [List.length_append, List.length_drop, List.length_take]; omega
  have s2 : szB (b.1.drop k ++ b.1.take k, b.2 - 1) = b.1.length * (b.2 - 1) := by show (b.1.drop k ++ b.1.take k).length * _ = _; rw [l2]
  refine ⟨Pd.sm (Pd.cons (Pd.front (Nat.zero_mod _) h1 (by omega)) (Pd.cons (Pd.turned (k := k) ?_ h2) (Pd.cons (Pd.back ?_ h2) Pd.nil))) ?_, fun c hc => ?_, by simp, by simp⟩
  · rw [s1, Nat.zero_add, Nat.mod_eq_of_lt h2]
  · rw [s1, s2, Nat.zero_add, Nat.add_mul_mod_self_left, Nat.mod_eq_of_lt h2]
  · show szB (b.1.take k, 1) + (szB (b.1.drop k ++ b.1.take k, b.2 - 1) + ((b.1.drop k).length * 1 + 0)) = _
    rw [s1, s2, List.length_drop]
    have : b.1.length * b.2 = b.1.length * (b.2 - 1) + b.1.length := by
      rw [← Nat.mul_succ]; congr 1; omega
    omega
  · rcases List.mem_cons.mp hc with rfl | hc
    · exact h.front h1 (Nat.le_refl _) (by omega)
    · refine ok2 ⟨⟨by show 1 ≤ (b.1.drop k ++ b.1.take k).length; omega, by show 1 ≤ b.2 - 1; omega⟩, by show (b.1.drop k ++ b.1.take k).length ≤ 4; rw [l2]; exact h.l, by have := h.t; show b.2 - 1 ≤ _; omega, fun r hr => ?_⟩ (h.back h2 (Nat.le_refl _) (by omega)) c hc
      rcases List.mem_append.mp hr with hr | hr
      · exact h.r r (List.mem_of_mem_drop hr)
      · exact h.r r (List.mem_of_mem_take hr)
theorem sp_one (h : OkB b) : Sp b [b] := ⟨Sm.refl _, fun c hc => by rw [List.mem_singleton.mp hc]; exact h, by simp, by simp⟩
end
section
variable {δ : List Sl}
theorem two_l {f g : List Sl → W D} {x y : Bk} (h1 : Rt (f δ) (blkL x)) (h2 : Rt (g δ) (blkL y)) : Rt (dLst (dCons f (dCons g dNil)) δ) (lD [x, y]) := Rt.lst (Rt.cons h1 (Rt.cons h2 Rt.nil)) (small (show 2 ≤ 4000 by decide))
theorem three_l {f g k : List Sl → W D} {x y z : Bk} (h1 : Rt (f δ) (blkL x)) (h2 : Rt (g δ) (blkL y)) (h3 : Rt (k δ) (blkL z)) : Rt (dLst (dCons f (dCons g (dCons k dNil))) δ) (lD [x, y, z]) := Rt.lst (Rt.cons h1 (Rt.cons h2 (Rt.cons h3 Rt.nil))) (small (show 3 ≤ 4000 by decide))
theorem eqn_r {v i j : Nat} (h : δ[v]? = some (some (.int i))) : Rt (dTest (dOp2 eqD (dVar v) (dC (.int j))) δ) (decide (i = j)) := (Rt.test (Rt.op2 (Rt.var h) Rt.cC Rt.ret)).cast (decide_eq_decide.mpr (by omega))
theorem gtn_r {v i j : Nat} (h : δ[v]? = some (some (.int i))) : Rt (dTest (dOp2 gtD (dVar v) (dC (.int j))) δ) (decide (j < i)) := (Rt.test (Rt.op2 (Rt.var h) Rt.cC Rt.ret)).cast (decide_eq_decide.mpr (by omega))
end
abbrev lsδ (b : Bk) (w : Nat) (s5 s6 : Sl) : List Sl := [some .pen, some (blkL b), some (.lst (b.1.map .str)), some (.int (b.2 : Nat)), some (.int w), s5, s6]
theorem lsplit_t {b : Bk} (h : OkB b) : Tm 32 (g__law_lsplit [.pen, blkL b]) (fun d => ∃ ps, d = lD ps ∧ Sp b ps) := by
  have hv := h.v
  have hl := h.l
  refine tBody (Tm.bindR (Rt.bind (Rt.var rfl) (Rt.bind two_g Rt.ret)) (tAsg (B1 := 1) (B2 := 31) (draw_r (m := 5) rfl Rt.cC (by decide) (by decide)) (fun d hd => ?_) (by decide)))
  obtain ⟨w, rfl, hw⟩ := hd
  have fin : ∀ {f : List Sl → W D} {s5 s6 : Sl} {ps : List Bk}, Rt (f (lsδ b w s5 s6)) (lD ps) → Sp b ps → ∀ {B : Nat}, Tm B (dRet f (lsδ b w s5 s6)) (fun o => ∃ d, o = .rt d ∧ ∃ d', o = .rt d' ∧ ∃ ps, d' = lD ps ∧ Sp b ps) := fun {f s5 s6 ps} q s {B} => Tm.of (Rt.rets q) ⟨_, rfl, _, rfl, _, rfl, s⟩
  have fin' : ∀ {f : List Sl → W D} {s5 s6 : Sl} {ps : List Bk}, Rt (f (lsδ b w s5 s6)) (lD ps) → Sp b ps → ∀ {B : Nat}, Tm B (dRet f (lsδ b w s5 s6)) (fun o => ∃ d', o = .rt d' ∧ ∃ ps, d' = lD ps ∧ Sp b ps) := fun {f s5 s6 ps} q s {B} => Tm.of (Rt.rets q) ⟨_, rfl, _, rfl, s⟩
  have gt1 : ∀ {s5 s6 : Sl}, Rt (dTest (dOp2 gtD (dVar 3) (dC (.int 1))) (lsδ b w s5 s6)) (decide (1 < b.2)) := gtn_r (j := 1) rfl
  by_cases c0 : w = 0 ∧ 1 < b.2
  · refine tSeqT' (((Rt.and (eqn_r (j := 0) rfl) fun _ => gt1)).cast (by rw [decide_eq_true c0.1, decide_eq_true c0.2]; rfl)) ?_
    refine tAsg (B1 := 31) (B2 := 0) (P := fun d => ∃ f : Nat, d = .int f ∧ 1 ≤ f ∧ f < b.2) ?_ (fun d hd => ?_) (Nat.le_refl _)
    · refine Tm.bindR Rt.cC (Tm.bind (B1 := 31) (B2 := 0) (Q := fun d => ∃ f : Nat, d = .int f ∧ f < b.2 - 1) ?_ (fun d hd => ?_) (Nat.le_refl _))
      · refine Tm.bind (B1 := 31) (B2 := 0) (Q := fun d => ∃ v : Nat, d = .int v) ?_ (fun d hd => ?_) (Nat.le_refl _)
        · refine Tm.bind (B1 := 31) (B2 := 0) (Q := fun ds => ∃ v : Nat, ds = [.int v]) ?_ (fun ds hd => ?_) (Nat.le_refl _)
          · refine Tm.bind (B1 := 31) (B2 := 0) ((tCall (Rt.cons (Rt.var rfl) (Rt.cons Rt.cC Rt.nil)) rfl (great_t (n := 30) (by decide))).mono (show 30 ≤ 31 by decide) (fun _ z => z)) (fun d hd => ?_) (Nat.le_refl _)
            obtain ⟨v, rfl, _⟩ := hd
            exact Tm.of (Rt.bind Rt.nil Rt.ret) ⟨v, rfl⟩
          · obtain ⟨v, rfl⟩ := hd
            exact Tm.of Rt.ret ⟨v, rfl⟩
        · obtain ⟨v, rfl⟩ := hd
          refine Tm.bindR (Rt.op2 (z := .int (b.2 - 1 : Nat)) (Rt.var rfl) Rt.cC (Rt.ret.cast (congrArg D.int (by omega)))) (Tm.of (Rt.need (by omega) Rt.ret) ⟨v % (b.2 - 1), congrArg D.int (by rw [Int.natCast_emod]), Nat.mod_lt _ (by omega)⟩)
      · obtain ⟨f, rfl, hf⟩ := hd
        exact Tm.of Rt.ret ⟨1 + f, congrArg D.int (by push_cast; rfl), by omega, by omega⟩
    · obtain ⟨f, rfl, f1, f2⟩ := hd
      exact fin (s5 := some (.int f)) (s6 := none) (two_l (blk_mk (rs := b.1) (t := f) (Rt.var rfl) (Rt.var rfl)) (blk_mk (rs := b.1) (t := b.2 - f) (Rt.var rfl) (Rt.op2 (Rt.var rfl) (Rt.var rfl) (Rt.ret.cast (congrArg D.int (by omega)))))) (sp_two h f1 f2)
  refine tSeqF (((Rt.and (eqn_r (j := 0) rfl) fun _ => gt1)).cast (by rw [← Bool.decide_and, decide_eq_false c0])) ?_
  by_cases c1 : w = 1 ∧ b.1.length < 3 ∧ 1 < b.2
  · refine tSeqT' (((Rt.and (eqn_r (j := 1) rfl) fun _ => Rt.and (x := decide (b.1.length < 3)) ((Rt.test (Rt.op2 (lenL_r rfl) Rt.cC Rt.ret)).cast (decide_eq_decide.mpr (by omega))) fun _ => gt1)).cast (by rw [decide_eq_true c1.1, decide_eq_true c1.2.1, decide_eq_true c1.2.2]; rfl)) ?_
    refine fin (s5 := none) (s6 := none) (add_l (a := [(b.1 ++ b.1, b.2 / 2)]) (b := List.replicate (b.2 % 2) (b.1, 1)) (one_l (blk_mk (rs := b.1 ++ b.1) (t := b.2 / 2) (Rt.op2 (Rt.var rfl) Rt.cC (Rt.need ⟨by decide, by decide, small (by rw [List.length_map]; show b.1.length * 2 ≤ _; omega)⟩ (Rt.ret.cast ?_))) (Rt.op2 (Rt.var rfl) Rt.cC (Rt.need ⟨by decide, by decide⟩ (Rt.ret.cast (congrArg D.int (by rw [Int.natCast_ediv]; rfl))))))) (mul_l (k := b.2 % 2) (one_l (blk_mk (rs := b.1) (t := 1) (Rt.var rfl) Rt.cC)) (Rt.op2 (Rt.opn (Rt.cons (Rt.var rfl) Rt.nil) Rt.ret) Rt.cC (Rt.need (by decide) (Rt.ret.cast (congrArg D.int (by rw [Int.natCast_emod]; rfl))))) (by omega)) (by rw [List.length_replicate]; show 1 + _ ≤ _; omega)) (sp_twice h c1.2.1 c1.2.2)
    show D.lst (List.replicate 2 (b.1.map D.str)).flatten = _
    rw [List.map_append]
    simp [List.replicate]
  refine tSeqF (((Rt.and (eqn_r (j := 1) rfl) fun _ => Rt.and (x := decide (b.1.length < 3)) ((Rt.test (Rt.op2 (lenL_r rfl) Rt.cC Rt.ret)).cast (decide_eq_decide.mpr (by omega))) fun _ => gt1)).cast (by rw [← Bool.decide_and, ← Bool.decide_and, decide_eq_false c1])) ?_
  by_cases c2 : w = 2 ∧ 1 < b.1.length ∧ 1 < b.2
  · refine tSeqT' (((Rt.and (eqn_r (j := 2) rfl) fun _ => Rt.and (x := decide (1 < b.1.length)) ((Rt.test (Rt.op2 (lenL_r rfl) Rt.cC Rt.ret)).cast (decide_eq_decide.mpr (by omega))) fun _ => gt1)).cast (by rw [decide_eq_true c2.1, decide_eq_true c2.2.1, decide_eq_true c2.2.2]; rfl)) ?_
    refine tAsg (B1 := 1) (B2 := 0) (P := fun d => ∃ k : Nat, d = .int k ∧ 1 ≤ k ∧ k < b.1.length) ?_ (fun d hd => ?_) (by decide)
    · refine Tm.bindR Rt.cC (Tm.bind (B1 := 1) (B2 := 0) (draw_r (m := b.1.length - 1) rfl (Rt.op2 (lenL_r rfl) Rt.cC (Rt.ret.cast (congrArg D.int (by omega)))) (by omega) (by omega)) (fun d hd => ?_) (Nat.le_refl _))
      obtain ⟨f, rfl, hf⟩ := hd
      exact Tm.of Rt.ret ⟨1 + f, congrArg D.int (by push_cast; rfl), by omega, by omega⟩
    · obtain ⟨k, rfl, k1, k2⟩ := hd
      have sl := fun (δ : List Sl) (h : δ[2]? = some (some (.lst (b.1.map .str)))) (h2 : δ[6]? = some (some (.int k))) => cut_rs h h2
      refine fin (s5 := none) (s6 := some (.int k)) (three_l (blk_mk (rs := b.1.take k) (t := 1) (sl _ rfl rfl).1 Rt.cC) (blk_mk (rs := b.1.drop k ++ b.1.take k) (t := b.2 - 1) (Rt.op2 (sl _ rfl rfl).2 (sl _ rfl rfl).1 (Rt.need (small ?_) (Rt.ret.cast (by rw [List.map_append])))) (Rt.op2 (Rt.var rfl) Rt.cC (Rt.ret.cast (congrArg D.int (by omega))))) (blk_mk (rs := b.1.drop k) (t := 1) (sl _ rfl rfl).2 Rt.cC)) (sp_turned h k1 k2 c2.2.2)
      rw [List.length_map, List.length_map, List.length_drop, List.length_take]; omega
  refine tSeqF (((Rt.and (eqn_r (j := 2) rfl) fun _ => Rt.and (x := decide (1 < b.1.length)) ((Rt.test (Rt.op2 (lenL_r rfl) Rt.cC Rt.ret)).cast (decide_eq_decide.mpr (by omega))) fun _ => gt1)).cast (by rw [← Bool.decide_and, ← Bool.decide_and, decide_eq_false c2])) ?_
  by_cases c3 : w = 3 ∧ 1 < b.2
  · exact fin' (s5 := none) (s6 := none) (Rt.ifE (b := true) (((Rt.and (eqn_r (j := 3) rfl) fun _ => gt1)).cast (by rw [decide_eq_true c3.1, decide_eq_true c3.2]; rfl)) (two_l (blk_mk (rs := b.1) (t := 1) (Rt.var rfl) Rt.cC) (blk_mk (rs := b.1) (t := b.2 - 1) (Rt.var rfl) (Rt.op2 (Rt.var rfl) Rt.cC (Rt.ret.cast (congrArg D.int (by omega))))))) (sp_two h (Nat.le_refl _) c3.2)
  · exact fin' (s5 := none) (s6 := none) (Rt.ifE (b := false) (((Rt.and (eqn_r (j := 3) rfl) fun _ => gt1)).cast (by rw [← Bool.decide_and, decide_eq_false c3])) (one_l (b := b) (Rt.var rfl))) (sp_one h)
end Lw
namespace Lw
open PySem L2 Ly
open Lx (inS cutL Ky IsTb atI_in)
theorem rpB {d : D} {p : PyData} (h : toP d = some p) (h1 : p.showable = true) (h2 : p.depth ≤ 60) (h3 : p.hasDict = false) (h4 : p.leavesShort 41 = true) (h5 : p.weight ≤ 10000) : Rt (reprD [d]) (.str (shw d)) := by
  have e : shw d = p.shown := by unfold shw; rw [h]
  rw [e]
  show Rt (match toP d with | some d => W.need (d.showable = true ∧ d.depth ≤ 60 ∧ d.hasDict = false ∧ d.shown.length ≤ sizeLine) (W.ret (D.str d.shown)) | none => W.stuck) _
  rw [h]
  have q := PyData.shown_le 41 (by decide) p h4
  have q2 : (41 + 2) * p.weight ≤ 43 * 10000 := Nat.mul_le_mul_left _ h5
  exact Rt.need ⟨h1, h2, h3, by rw [sizeLine_eq]; omega⟩ Rt.ret
def optP : Option Nat → PyData
  | none => .none
  | some k => .int (k : Nat)
theorem toP_opt : ∀ e : Option Nat, toP (optD e) = some (optP e)
  | none => by unfold optD; rw [toP]; rfl
  | some k => by unfold optD; rw [toP]; rfl
structure Few (e : Option Nat) : Prop where
  lt : ∀ k, e = some k → k < 10 ^ 40
theorem Few.all {e : Option Nat} (h : Few e) : (optP e).showable = true ∧ (optP e).depth = 0 ∧ (optP e).hasDict = false ∧ (optP e).leavesShort 41 = true ∧ (optP e).weight ≤ 2000 := by
  cases e with
  | none => exact ⟨rfl, rfl, rfl, rfl, by decide⟩
  | some k =>
    have hk := h.lt k rfl
    have hl : k.log2 < 1920 := by
      by_cases z : k = 0
      · subst z; decide
      · exact (Nat.log2_lt z).mpr (Nat.lt_of_lt_of_le hk (by decide +kernel))
    have hs : (PyData.shown (.int (k : Nat))).length ≤ 41 := by
      have e := int_text_length_le10 (a := (k : Nat)) (k := 40) (by decide) (by rw [Int.natAbs_natCast]; exact hk)
      show (Str.ofString (toString ((k : Nat) : Int))).length ≤ 41
      rw [ofString_length]; exact e
    refine ⟨?_, rfl, rfl, ?_, ?_⟩
    · show decide ((((k : Nat) : Int)).natAbs.log2 < 1920) = true
      rw [Int.natAbs_natCast]; exact decide_eq_true hl
    · show decide _ = true
      exact decide_eq_true hs
    · show (if ((k : Nat) : Int) == 0 then 0 else (((k : Nat) : Int)).natAbs.log2 + 1) ≤ 2000
      rw [Int.natAbs_natCast]
      split <;> omega
theorem rp_one {e : Option Nat} (h : Few e) : Rt (reprD [optD e]) (.str (shw (optD e))) := by
  obtain ⟨h1, h2, h3, h4, h5⟩ := h.all
  exact rpB (toP_opt e) h1 (by omega) h3 h4 (by omega)
theorem rp_two {e : Option Nat} (h : Few e) : Rt (reprD [.lst [optD e, optD e]]) (.str (shw (.lst [optD e, optD e]))) := by
  obtain ⟨h1, h2, h3, h4, h5⟩ := h.all
  refine rpB (p := .list [optP e, optP e]) (by rw [toP, toPs, toPs, toPs, toP_opt]; rfl) ?_ ?_ ?_ ?_ ?_
  · show ((optP e).showable && ((optP e).showable && true)) = true
    rw [h1]; rfl
  · show max (optP e).depth (max (optP e).depth 0) + 1 ≤ 60
    rw [h2]; decide
  · show ((optP e).hasDict || ((optP e).hasDict || false)) = false
    rw [h3]; rfl
  · show ((optP e).leavesShort 41 && ((optP e).leavesShort 41 && true)) = true
    rw [h4]; rfl
  · show (optP e).weight + 1 + ((optP e).weight + 1 + 0) ≤ 10000
    omega
theorem rp_bools {bs : List Bool} (hl : bs.length ≤ 100) : Rt (reprD [.lst (bs.map .bl)]) (.str (shw (.lst (bs.map .bl)))) := by
  have q : ∀ bs : List Bool, ShnL 0 (2 * bs.length) (bs.map D.bl) := fun bs => by
    induction bs with
    | nil => exact .nil
    | cons b r ih => exact (ShnL.cons Shn.bl ih).up (Nat.le_refl _) (by rw [List.length_cons]; omega)
  exact (Shn.lst (q bs)).rp (by decide) (by omega)
theorem szs_le : ∀ {bs : List Bk}, (∀ b ∈ bs, OkB b) → szs bs ≤ bs.length * (4 * 10 ^ 30)
  | [], _ => Nat.zero_le _
  | b :: r, h => by
    have h1 := szs_le (bs := r) fun x hx => h x (List.mem_cons_of_mem _ hx)
    have hb := h b List.mem_cons_self
    have h2 : szB b ≤ 4 * 10 ^ 30 := Nat.mul_le_mul hb.l hb.t
    show szB b + szs r ≤ (r.length + 1) * (4 * 10 ^ 30)
    rw [Nat.add_mul, Nat.one_mul]
    omega
theorem LD.few {a b : List Bk} (ha : OkBs a) (hb : OkBs b) {e : Option Nat} (h : LD a b e) : Few e := ⟨fun k hk => by
  subst hk
  obtain ⟨h1, h2, _⟩ := h
  have sa := szs_le ha.2
  have sb := szs_le hb.2
  have la : a.length * (4 * 10 ^ 30) ≤ 1000 * (4 * 10 ^ 30) := Nat.mul_le_mul_right _ ha.1
  have lb : b.length * (4 * 10 ^ 30) ≤ 1000 * (4 * 10 ^ 30) := Nat.mul_le_mul_right _ hb.1
  rcases Nat.lt_or_ge (k - 1) (szs a) with z | z
  · omega
  · rcases Nat.lt_or_ge (k - 1) (szs b) with w | w
    · omega
    · rw [at0_ge z, at0_ge w] at h2
      exact absurd rfl h2⟩
theorem len_p {δ : List Sl} {c : Str} {bs : List Bk} {f : List Sl → W D} (hc : Cn c) (h : Rt (f δ) (oD c bs)) : Rt (dProp tp_length f δ) (.int (szs bs : Nat)) :=
  Rt.prop h (G := dBody N_LongText_length b_LongText_length) (by rcases hc with rfl | rfl <;> rfl) (Rt.bodyR (Rt.rets (Rt.fld (Rt.var rfl) rfl)))
theorem blk_p {δ : List Sl} {c : Str} {bs : List Bk} {f : List Sl → W D} (hc : Cn c) (h : Rt (f δ) (oD c bs)) : Rt (dProp tp_blocks f δ) (tD bs) :=
  Rt.prop h (G := dBody N_LongText_blocks b_LongText_blocks) (by rcases hc with rfl | rfl <;> rfl) (Rt.bodyR (Rt.rets (Rt.fld (Rt.var rfl) rfl)))
abbrev kδ (bs : List Bk) (c : Str) (s3 s4 s5 : Sl) : List Sl := [some .pen, some (lD bs), some (oD c bs), s3, s4, s5]
theorem pieces_t {bs0 : List Bk} {c : Str} : ∀ (bs : List Bk) (k : Nat) (s4 : Sl), (∀ b ∈ bs, OkB b) → k + bs.length ≤ 4000 → Tm (32 * bs.length) (lcD (dName 4) dYes (dCall 2 g__law_lsplit (dCons (dVar 0) (dCons (dVar 4) dNil))) (kδ bs0 c none s4 none) (bs.map blkL) k) (fun ys => ∃ pss : List (List Bk), ys = pss.map lD ∧ Sm bs pss.flatten ∧ (∀ x ∈ pss.flatten, OkB x) ∧ pss.flatten.length ≤ 3 * bs.length ∧ (bs ≠ [] → pss.flatten ≠ []))
  | [], k, s4, _, _ => Tm.of Rt.ret ⟨[], rfl, Sm.refl _, fun _ z => (nomatch z), Nat.le_refl _, fun z => absurd rfl z⟩
  | b :: r, k, s4, h, hl => by
    rw [List.length_cons] at hl
    have hb := h b List.mem_cons_self
    refine Tm.bindR Rt.ret (Tm.bindR (a := true) Rt.ret (Tm.bind (B1 := 32) (B2 := 32 * r.length) (tCall (Rt.cons (Rt.var rfl) (Rt.cons (Rt.var rfl) Rt.nil)) rfl (lsplit_t hb)) (fun d hd => ?_) (by rw [List.length_cons, Nat.mul_succ]; omega)))
    obtain ⟨ps, rfl, p1, p2, p3, p4⟩ := hd
    refine Tm.need (small (by omega)) (Tm.bind (B2 := 0) (pieces_t r (k + 1) s4 (fun x hx => h x (List.mem_cons_of_mem _ hx)) (by omega)) (fun ys hy => ?_) (Nat.le_refl _))
    obtain ⟨pss, rfl, q1, q2, q3, q4⟩ := hy
    refine Tm.of Rt.ret ⟨ps :: pss, rfl, ?_, fun x hx => ?_, ?_, fun _ => ?_⟩
    · rw [List.flatten_cons]
      exact Sm.app (a := [b]) p1 q1 (Sm.size p1 (fun x hx => by rw [List.mem_singleton.mp hx]; exact hb.v) fun x hx => (p2 x hx).v)
    · rw [List.flatten_cons] at hx
      rcases List.mem_append.mp hx with hx | hx
      · exact p2 x hx
      · exact q2 x hx
    · rw [List.flatten_cons, List.length_append, List.length_cons]; omega
    · rw [List.flatten_cons]
      intro z
      have := (List.append_eq_nil_iff.mp z).1
      subst this
      exact absurd p3 (by decide)
theorem lsts_lD : ∀ pss : List (List Bk), lstsD (pss.map lD) = some (pss.map fun ps => ps.map blkL)
  | [] => rfl
  | p :: r => by
    show (lstsD (r.map lD)).map _ = _
    rw [lsts_lD r]; rfl
theorem flat_lD (pss : List (List Bk)) : (pss.map fun ps => ps.map blkL).flatten = pss.flatten.map blkL := by rw [List.map_flatten]
theorem cut_right_t {bs : List Bk} (h : OkBs bs) (hl : bs.length ≤ 300) : Tm (32 * bs.length) (g__law_cut_right [.pen, lD bs, oD (clD bs) bs]) (fun d => d = .bl true) := by
  refine tBody (tAsg (B1 := 32 * bs.length) (B2 := 0) (P := fun d => ∃ ps, d = lD ps ∧ OkBs ps ∧ Sm bs ps ∧ (bs ≠ [] → ps ≠ [])) ?_ (fun d hd => ?_) (Nat.le_refl _))
  · refine Tm.bind (B1 := 32 * bs.length) (B2 := 0) (Q := fun ds => ∃ pss : List (List Bk), ds = [.lst (pss.map lD), .lst []] ∧ Sm bs pss.flatten ∧ (∀ x ∈ pss.flatten, OkB x) ∧ pss.flatten.length ≤ 3 * bs.length ∧ (bs ≠ [] → pss.flatten ≠ [])) ?_ (fun ds hd => ?_) (Nat.le_refl _)
    · refine Tm.bind (B1 := 32 * bs.length) (B2 := 0) (Q := fun d => ∃ pss : List (List Bk), d = .lst (pss.map lD) ∧ Sm bs pss.flatten ∧ (∀ x ∈ pss.flatten, OkB x) ∧ pss.flatten.length ≤ 3 * bs.length ∧ (bs ≠ [] → pss.flatten ≠ [])) ?_ (fun d hd => ?_) (Nat.le_refl _)
      · refine Tm.bindR (rIL (Rt.var rfl)) (Tm.bind (B1 := 32 * bs.length) (B2 := 0) (Tm.calm (pieces_t (bs0 := bs) (c := clD bs) bs 0 none h.2 (by omega))) (fun ys hy => ?_) (Nat.le_refl _))
        obtain ⟨pss, rfl, q⟩ := hy
        exact Tm.of Rt.ret ⟨pss, rfl, q⟩
      · obtain ⟨pss, rfl, q⟩ := hd
        exact Tm.of (Rt.bind (Rt.cons (Rt.lst Rt.nil (small (Nat.zero_le _))) Rt.nil) Rt.ret) ⟨pss, rfl, q⟩
    · obtain ⟨pss, rfl, q1, q2, q3, q4⟩ := hd
      refine Tm.of (a := lD pss.flatten) ?_ ⟨pss.flatten, rfl, ⟨by omega, q2⟩, q1, q4⟩
      show Rt (match lstsD (pss.map lD) with
        | some yss => W.need (([] ++ yss.flatten).length ≤ sizeLine) (W.ret (D.lst ([] ++ yss.flatten)))
        | none => W.stuck) _
      rw [lsts_lD]
      dsimp only
      rw [List.nil_append, flat_lD]
      exact Rt.need (small (by rw [List.length_map]; omega)) Rt.ret
  · obtain ⟨ps, rfl, hp, hs, hn⟩ := hd
    have c1 := clD_cn bs
    have c2 := clD_cn ps
    have same : clD bs = clD ps := by
      unfold clD
      by_cases z : bs = []
      · subst z
        have : ps = [] := by
          cases ps with
          | nil => rfl
          | cons x r =>
            have e := Sm.size hs h.vb hp.vb
            have := (hp.2 x List.mem_cons_self).v.sz
            have e : 0 = szB x + szs r := e
            omega
        rw [this]
      · rw [if_neg z, if_neg (hn z)]
    have eq : ∀ {neg : Bool} {x y : List Bk}, OkBs x → OkBs y → Sm x y → clD x = clD y → Rt (eqQ tb_eqq neg (oD (clD x) x) (oD (clD y) y)) (.bl (!neg)) := fun {neg x y} hx hy hs hc => by
      obtain ⟨e, q1, q2⟩ := eqQ_r (neg := neg) (clD_cn x) (clD_cn y) (by
        rw [← hc]
        rcases clD_cn x with z | z
        · exact .inr z
        · exact .inl z) hx hy
      have : e = none := LD.uniq q1 (e := none) hs
      subst this
      exact q2.cast (by cases neg <;> rfl)
    have rp := rp_bools (bs := [true, true, false]) (by decide)
    refine Tm.of (Rt.seq (Rt.asg (Rt.call (Rt.cons (Rt.var rfl) Rt.nil) rfl (lmade_r hp))) (Rt.seq (Rt.ifF ((Rt.test (Rt.op2 (Rt.opn (Rt.cons (Rt.lst (Rt.cons (Rt.op2 (Rt.var rfl) (Rt.var rfl) (eq h hp hs same)) (Rt.cons (Rt.op2 (Rt.var rfl) (Rt.var rfl) (eq hp h hs.symm same.symm)) (Rt.cons (Rt.op2 (Rt.var rfl) (Rt.var rfl) (eq (neg := true) h hp hs same)) Rt.nil))) (small (show 3 ≤ 4000 by decide))) Rt.nil) rp) (Rt.opn (Rt.cons (Rt.lst (Rt.cons Rt.cC (Rt.cons Rt.cC (Rt.cons Rt.cC Rt.nil))) (small (show 3 ≤ 4000 by decide))) Rt.nil) rp) ne_sameT))) Rt.next) (Rt.rets ((Rt.andV (b := true) (c := true) ?_ fun _ => (Rt.andV (b := true) (c := true) ?_ fun _ => ?_).cast rfl).cast rfl)))) ⟨_, rfl, rfl⟩
    · obtain ⟨e, q1, q2⟩ := diff_r (δ := kδ bs (clD bs) (some (lD ps)) none (some (oD (clD ps) ps))) (fa := dVar 2) (fb := dVar 5) c1 h hp (Rt.var rfl) (Rt.var rfl)
      have : e = none := LD.uniq q1 (e := none) hs
      subst this
      exact Rt.op2 q2 Rt.cC Rt.ret
    · obtain ⟨e, q1, q2⟩ := diffN_r (δ := kδ bs (clD bs) (some (lD ps)) none (some (oD (clD ps) ps))) (fa := dVar 5) (fb := dVar 2) c2 hp h (Rt.var rfl) (Rt.var rfl)
      have : e = none := LD.uniq q1 (e := none) hs.symm
      subst this
      exact Rt.op2 q2 Rt.cC Rt.ret
    · have e := Sm.size hs h.vb hp.vb
      refine Rt.op2 (len_p c2 (Rt.var rfl)) (len_p c1 (Rt.var rfl)) (Rt.ret.cast (congrArg D.bl (decide_eq_true (by rw [e]))))
end Lw
namespace Lw
open PySem L2 Ly
open Lx (inS cutL Ky IsTb atI_in)
abbrev Bo (x : Str) : List Bk := [([x], 1)]
theorem at0_mid {A R : List Bk} {x : Str} : at0 (A ++ Bo x ++ R) (szs A) = some x := by
  rw [List.append_assoc, at0_app, if_neg (Nat.lt_irrefl _), Nat.sub_self]
  exact (if_pos (show 0 < szB ([x], 1) by show 0 < 1 * 1; decide)).trans rfl
theorem at0_ahead {A R X Y : List Bk} {m : Nat} (h : m < szs A) : at0 (A ++ X ++ R) m = at0 (A ++ Y ++ R) m := by
  rw [List.append_assoc, List.append_assoc, at0_app A, if_pos h, at0_app A, if_pos h]
theorem q_cps (s : Str) : ("q" ++ s : Str).cps.toList = 113 :: s.cps.toList := by
  show (("q" : Str).cps ++ s.cps).toList = _
  rw [Array.toList_append]; rfl
theorem vr_q {s : Str} (h : Vr s) (hl : s.length ≤ 50) : Vr ("q" ++ s) := by
  refine ⟨fun c hc => ?_, ?_⟩
  · rw [q_cps] at hc
    rcases List.mem_cons.mp hc with rfl | hc
    · decide +kernel
    · exact h.1 c hc
  · rw [len_cps, q_cps, List.length_cons, ← len_cps]; omega
theorem ok_bo {x : Str} (h : Vr x) : ∀ c ∈ Bo x, OkB c := fun c hc => by
  rw [List.mem_singleton.mp hc]
  exact ⟨⟨Nat.le_refl _, Nat.le_refl _⟩, by show 1 ≤ 4; decide, by show 1 ≤ 10 ^ 30; decide, fun r hr => by rw [List.mem_singleton.mp hr]; exact h⟩
theorem ok_app {a b : List Bk} (ha : ∀ c ∈ a, OkB c) (hb : ∀ c ∈ b, OkB c) : ∀ c ∈ a ++ b, OkB c := fun c hc => by
  rcases List.mem_append.mp hc with hc | hc
  · exact ha c hc
  · exact hb c hc
@[reducible] def exB : List Sl → W Out := (dSeq (dAsg (dOp2 addD (dOp2 addD (dVar 6) (dVar 9)) (dVar 8)) (dName 11))
  (dSeq (dAsg (dIfE (dTest (dOp2 eqD (dVar 10) (dC (.str ("own" : Str))))) (dCall 2 g__law_apart (dCons (dVar 1) (dCons (dVar 11) dNil))) (dVar 10)) (dName 12))
  (dSeq (dAsg (dCall 1 g__law_lmade (dCons (dVar 11) dNil)) (dName 13))
  (dSeq (dIf (dTest (dOp2 neD (dOpn reprD (dCons (dLst (dCons (dMeth "difference" 1 tb_difference (dVar 2) (dCons (dVar 13) dNil)) (dCons (dMeth "difference" 1 tb_difference (dVar 13) (dCons (dVar 2) dNil)) dNil))) dNil)) (dOpn reprD (dCons (dLst (dCons (dVar 12) (dCons (dVar 12) dNil))) dNil)))) (dRet (dC (.bl false))) dNext)
  (dIf (dTest (dOp2 neD (dOpn reprD (dCons (dLst (dCons (dOp2 (eqQ tb_eqq false) (dVar 2) (dVar 13)) (dCons (dOp2 (eqQ tb_eqq true) (dVar 2) (dVar 13)) dNil))) dNil)) (dOpn reprD (dCons (dLst (dCons (dOp2 isND (dVar 12) (dC .non)) (dCons (dOp2 notND (dVar 12) (dC .non)) dNil))) dNil)))) (dRet (dC (.bl false))) dNext)))))
@[reducible] def exL : List Sl → W D := (dLst (dCons (dTup (dCons (dLst (dCons (dTup (dCons (dLst (dCons (dOp2 addD (dC (.str ("q" : Str))) (dVar 3)) dNil)) (dCons (dC (.int 1)) dNil))) dNil)) (dCons (dVar 5) dNil))) (dCons (dTup (dCons (dVar 7) (dCons (dC .non) dNil))) (dCons (dTup (dCons (dOp2 addD (dVar 7) (dLst (dCons (dTup (dCons (dLst (dCons (dVar 3) dNil)) (dCons (dC (.int 1)) dNil))) dNil))) (dCons (dC (.str ("own" : Str))) dNil))) (dCons (dTup (dCons (dLst dNil) (dCons (dC (.str ("own" : Str))) dNil))) dNil)))))
abbrev xδ (bs : List Bk) (s : Str) (sz n : Nat) (A H R : List Bk) (s9 s10 s11 s12 s13 : Sl) : List Sl := [some .pen, some (lD bs), some (oD (clD bs) bs), some (.str s), some (.int sz), some (.int n), some (lD A), some (lD H), some (lD R), s9, s10, s11, s12, s13]
theorem own_no (e : Option Nat) : Rt (eqD (optD e) (.str "own")) (.bl false) := by
  have hs : SeqAt.shaped (.str "own") = true := by decide +kernel
  cases e with
  | none =>
    show Rt (match toP .non, toP (.str "own") with | some a, some b => W.need (SeqAt.shaped a = true ∧ SeqAt.shaped b = true) (W.ret (D.bl (PyData.eqv a b))) | _, _ => W.stuck) _
    rw [toP, toP]
    exact Rt.need ⟨rfl, hs⟩ (Rt.ret.cast (by simp [PyData.eqv]))
  | some k =>
    show Rt (match toP (.int (k : Nat)), toP (.str "own") with | some a, some b => W.need (SeqAt.shaped a = true ∧ SeqAt.shaped b = true) (W.ret (D.bl (PyData.eqv a b))) | _, _ => W.stuck) _
    rw [toP, toP]
    exact Rt.need ⟨rfl, hs⟩ (Rt.ret.cast (by simp [PyData.eqv]))
theorem isN_opt (e : Option Nat) : Rt (isND (optD e) .non) (.bl e.isNone) := by cases e <;> exact Rt.ret
theorem notN_opt (e : Option Nat) : Rt (notND (optD e) .non) (.bl (!e.isNone)) := by cases e <;> exact Rt.ret
section
variable {bs A H R sm : List Bk} {s : Str} {sz n : Nat} {due : D} {e : Option Nat} {s11 s12 s13 : Sl}
theorem ex_turn (h : OkBs bs) (hne : bs ≠ []) (hm : OkBs (A ++ sm ++ R)) (hl : bs.length + (A ++ sm ++ R).length < 60) (he : LD bs (A ++ sm ++ R) e) (hd : due = .str "own" ∨ due = optD e) : ∃ t11 t12 t13, Rt (exB (xδ bs s sz n A H R (some (lD sm)) (some due) s11 s12 s13)) (.nx (xδ bs s sz n A H R (some (lD sm)) (some due) t11 t12 t13)) := by
  have cF : clD bs = "FreeLongText" := if_neg hne
  have c1 := clD_cn bs
  have c2 := clD_cn (A ++ sm ++ R)
  have fe := he.few h hm
  have hw : Rt (dIfE (dTest (dOp2 eqD (dVar 10) (dC (.str ("own" : Str))))) (dCall 2 g__law_apart (dCons (dVar 1) (dCons (dVar 11) dNil))) (dVar 10) (xδ bs s sz n A H R (some (lD sm)) (some due) (some (lD (A ++ sm ++ R))) s12 s13)) (optD e) := by
    rcases hd with rfl | rfl
    · obtain ⟨e', q1, q2⟩ := apart_r h hm hl
      have : e' = e := LD.uniq q1 he
      subst this
      exact Rt.ifE (b := true) (Rt.test (Rt.op2 (Rt.var rfl) Rt.cC Rt.eqT)) (Rt.call (Rt.cons (Rt.var rfl) (Rt.cons (Rt.var rfl) Rt.nil)) rfl q2)
    · exact Rt.ifE (b := false) (Rt.test (Rt.op2 (Rt.var rfl) Rt.cC (own_no e))) (Rt.var rfl)
  have d1 : Rt (dMeth "difference" 1 tb_difference (dVar 2) (dCons (dVar 13) dNil) (xδ bs s sz n A H R (some (lD sm)) (some due) (some (lD (A ++ sm ++ R))) (some (optD e)) (some (oD (clD (A ++ sm ++ R)) (A ++ sm ++ R))))) (optD e) := by
    obtain ⟨e', q1, q2⟩ := diff_r (δ := xδ bs s sz n A H R (some (lD sm)) (some due) (some (lD (A ++ sm ++ R))) (some (optD e)) (some (oD (clD (A ++ sm ++ R)) (A ++ sm ++ R)))) (fa := dVar 2) (fb := dVar 13) c1 h hm (Rt.var rfl) (Rt.var rfl)
    rw [LD.uniq he q1]; exact q2
  have d2 : Rt (dMeth "difference" 1 tb_difference (dVar 13) (dCons (dVar 2) dNil) (xδ bs s sz n A H R (some (lD sm)) (some due) (some (lD (A ++ sm ++ R))) (some (optD e)) (some (oD (clD (A ++ sm ++ R)) (A ++ sm ++ R))))) (optD e) := by
    obtain ⟨e', q1, q2⟩ := diff_r (δ := xδ bs s sz n A H R (some (lD sm)) (some due) (some (lD (A ++ sm ++ R))) (some (optD e)) (some (oD (clD (A ++ sm ++ R)) (A ++ sm ++ R)))) (fa := dVar 13) (fb := dVar 2) c2 hm h (Rt.var rfl) (Rt.var rfl)
    rw [LD.uniq he.symm q1]; exact q2
  have eq : ∀ {neg : Bool}, Rt (eqQ tb_eqq neg (oD (clD bs) bs) (oD (clD (A ++ sm ++ R)) (A ++ sm ++ R))) (.bl (if neg then !e.isNone else e.isNone)) := fun {neg} => by
    obtain ⟨e', q1, q2⟩ := eqQ_r (neg := neg) c1 c2 (.inl cF) h hm
    rw [LD.uniq he q1]; exact q2
  have rp := rp_bools (bs := [e.isNone, !e.isNone]) (show 2 ≤ 100 by decide)
  refine ⟨_, _, _, Rt.seq (Rt.asg (add_l (add_l (Rt.var rfl) (Rt.var rfl) ?_) (Rt.var rfl) ?_)) (Rt.seq (Rt.asg hw) (Rt.seq (Rt.asg (Rt.call (Rt.cons (Rt.var rfl) Rt.nil) rfl (lmade_r hm))) (Rt.seq (Rt.ifF (Rt.test (Rt.op2 (Rt.opn (Rt.cons (Rt.lst (Rt.cons d1 (Rt.cons d2 Rt.nil)) (small (show 2 ≤ 4000 by decide))) Rt.nil) (rp_two fe)) (Rt.opn (Rt.cons (Rt.lst (Rt.cons (Rt.var rfl) (Rt.cons (Rt.var rfl) Rt.nil)) (small (show 2 ≤ 4000 by decide))) Rt.nil) (rp_two fe)) ne_sameT)) Rt.next)
    (Rt.ifF (Rt.test (Rt.op2 (Rt.opn (Rt.cons (Rt.lst (Rt.cons (Rt.op2 (Rt.var rfl) (Rt.var rfl) (eq (neg := false))) (Rt.cons (Rt.op2 (Rt.var rfl) (Rt.var rfl) (eq (neg := true))) Rt.nil)) (small (show 2 ≤ 4000 by decide))) Rt.nil) rp) (Rt.opn (Rt.cons (Rt.lst (Rt.cons (Rt.op2 (Rt.var rfl) Rt.cC (isN_opt e)) (Rt.cons (Rt.op2 (Rt.var rfl) Rt.cC (notN_opt e)) Rt.nil)) (small (show 2 ≤ 4000 by decide))) Rt.nil) rp) ne_sameT)) Rt.next))))⟩
  · rw [List.length_append, List.length_append] at hl; omega
  · rw [List.length_append] at hl; omega
end
theorem three_l' {i j k : Nat} {x y z : D} {δ : List Sl} : Rt (dGLst 3 (dGCons (dName i) (dGCons (dName j) (dGCons (dName k) dGNil))) (.lst [x, y, z]) δ) (((δ.set i (some x)).set j (some y)).set k (some z)) := Rt.need rfl (Rt.bind Rt.ret (Rt.bind Rt.ret (Rt.bind Rt.ret Rt.ret)))
theorem ne_one {r : Str} (h : asc r) : Rt (neD (.lst [.str r]) (.lst [.str r])) (.bl false) := by
  have hs : SeqAt.shaped (.list [.str r]) = true := shaped_strs (l := [r]) (fun y hy => by rw [List.mem_singleton.mp hy]; exact h)
  have e : toP (.lst [.str r]) = some (.list [.str r]) := by rw [toP, toPs, toPs, toP]; rfl
  show Rt (match toP (.lst [.str r]), toP (.lst [.str r]) with | some a, some b => W.need (SeqAt.shaped a = true ∧ SeqAt.shaped b = true) (W.ret (D.bl (!PyData.eqv a b))) | _, _ => W.stuck) _
  rw [e]
  exact Rt.need ⟨hs, hs⟩ (Rt.ret.cast (by rw [SeqAt.eqv_refl _ (SeqAt.canLay_of_shaped hs)]; rfl))
theorem exchanged_right_t {bs : List Bk} {s : Str} (h : OkBs bs) (hq : Drs bs) (hl : bs.length ≤ 10) (hne : bs ≠ []) (hs : Rw s) (hsl : s.length ≤ 50) : Tm 31 (g__law_exchanged_right [.pen, lD bs, oD (clD bs) bs, .str s]) (fun d => d = .bl true) := by
  have h1 : 1 ≤ szs bs := by
    cases bs with
    | nil => exact absurd rfl hne
    | cons b r => have := (h.2 b List.mem_cons_self).v.sz; show 1 ≤ szB b + szs r; omega
  refine tBody (tAsgR (Rt.call (Rt.cons (Rt.var rfl) Rt.nil) rfl (lsize_r h.sh)) (tAsg (B1 := 31) (B2 := 0) (P := fun d => ∃ n : Nat, d = .int n ∧ 1 ≤ n ∧ n ≤ szs bs) ?_ (fun d hd => ?_) (Nat.le_refl _)))
  · refine Tm.bindR Rt.cC (Tm.bind (B1 := 31) (B2 := 0) (Q := fun d => ∃ f : Nat, d = .int f ∧ f < szs bs) ?_ (fun d hd => ?_) (Nat.le_refl _))
    · refine Tm.bind (B1 := 31) (B2 := 0) (Q := fun d => ∃ v : Nat, d = .int v) ?_ (fun d hd => ?_) (Nat.le_refl _)
      · refine Tm.bind (B1 := 31) (B2 := 0) (Q := fun ds => ∃ v : Nat, ds = [.int v]) ?_ (fun ds hd => ?_) (Nat.le_refl _)
        · refine Tm.bind (B1 := 31) (B2 := 0) (tCall (Rt.cons (Rt.var rfl) (Rt.cons Rt.cC Rt.nil)) rfl (great_t (n := 31) (by decide))) (fun d hd => ?_) (Nat.le_refl _)
          obtain ⟨v, rfl, _⟩ := hd
          exact Tm.of (Rt.bind Rt.nil Rt.ret) ⟨v, rfl⟩
        · obtain ⟨v, rfl⟩ := hd
          exact Tm.of Rt.ret ⟨v, rfl⟩
      · obtain ⟨v, rfl⟩ := hd
        refine Tm.bindR (Rt.var rfl) (Tm.of (Rt.need (by omega) Rt.ret) ⟨v % szs bs, congrArg D.int (by rw [Int.natCast_emod]), Nat.mod_lt _ (by omega)⟩)
    · obtain ⟨f, rfl, hf⟩ := hd
      exact Tm.of Rt.ret ⟨1 + f, congrArg D.int (by push_cast; rfl), by omega, by omega⟩
  · obtain ⟨n, rfl, n1, n2⟩ := hd
    refine Tm.bind (B1 := 0) (B2 := 0) (Q := fun o => ∃ A r R, o = .nx (xδ bs s (szs bs) n A (Bo r) R none none none none none) ∧ Sm bs (A ++ (Bo r ++ R)) ∧ szs A = n - 1 ∧ (∀ c ∈ A, OkB c) ∧ (∀ c ∈ R, OkB c) ∧ A.length ≤ bs.length + 1 ∧ R.length ≤ bs.length + 2 ∧ Vr r) ?_ (fun o ho => ?_) (Nat.le_refl _)
    · refine Tm.bind (B1 := 0) (B2 := 0) (tCall (Rt.cons (Rt.var rfl) (Rt.cons (Rt.lst (Rt.cons (Rt.op2 (z := .int (n - 1 : Nat)) (Rt.var rfl) Rt.cC (Rt.ret.cast (congrArg D.int (by omega)))) (Rt.cons (Rt.var rfl) Rt.nil)) (small (show 2 ≤ 4000 by decide))) Rt.nil)) rfl (rows_at_t h (by omega) n1 n2)) (fun d hd => ?_) (Nat.le_refl _)
      obtain ⟨A, r, R, rfl, q⟩ := hd
      exact Tm.of (Rt.bind three_l' Rt.ret) ⟨A, r, R, rfl, q⟩
    · obtain ⟨A, r, R, rfl, e1, e2, e3, e4, e5, e6, e7⟩ := ho
      have e1' : Sm bs (A ++ Bo r ++ R) := by rw [List.append_assoc]; exact e1
      have row : at0 bs (n - 1) = some r := by rw [e1', ← e2]; exact at0_mid
      have rq : noq r := by
        obtain ⟨b, hb, hr⟩ := at0_mem row
        exact (hq b hb).q r hr
      have sA : Sh A := ⟨by omega, fun b hb => Nat.le_trans (e3 b hb).l (by omega)⟩
      have okm : ∀ {sm : List Bk}, (∀ c ∈ sm, OkB c) → sm.length ≤ 2 → OkBs (A ++ sm ++ R) ∧ bs.length + (A ++ sm ++ R).length < 60 := fun {sm} hc hl2 => by
        refine ⟨⟨by rw [List.length_append, List.length_append]; omega, ok_app (ok_app e3 hc) e4⟩, by rw [List.length_append, List.length_append]; omega⟩
      have o1 := okm (ok_bo (vr_q hs.1 hsl)) (show 1 ≤ 2 by decide)
      have o2 := okm (ok_bo e7) (show 1 ≤ 2 by decide)
      have o3 := okm (sm := Bo r ++ Bo s) (ok_app (ok_bo e7) (ok_bo hs.1)) (show 2 ≤ 2 by decide)
      have o4 := okm (sm := []) (fun _ z => (nomatch z)) (Nat.zero_le _)
      have l1 : LD bs (A ++ Bo ("q" ++ s) ++ R) (some n) := by
        refine ⟨n1, ?_, fun m hm => ?_⟩
        · rw [row, ← e2, at0_mid]
          intro z
          have z : r = "q" ++ s := by injection z
          rw [z] at rq
          exact rq 113 (by rw [q_cps]; exact List.mem_cons_self) rfl
        · rw [e1', at0_ahead (by omega)]
      have l2 : LD bs (A ++ Bo r ++ R) none := e1'
      obtain ⟨e3', l3, _⟩ := apart_r h o3.1 o3.2
      obtain ⟨e4', l4, _⟩ := apart_r h o4.1 o4.2
      obtain ⟨a1, a2, a3, r1⟩ := ex_turn (s := s) (sz := szs bs) (n := n) (H := Bo r) (s11 := none) (s12 := none) (s13 := none) (due := .int n) h hne o1.1 o1.2 l1 (.inr rfl)
      obtain ⟨b1, b2, b3, r2⟩ := ex_turn (s := s) (sz := szs bs) (n := n) (H := Bo r) (s11 := a1) (s12 := a2) (s13 := a3) (due := .non) h hne o2.1 o2.2 l2 (.inr rfl)
      obtain ⟨c1, c2, c3, r3⟩ := ex_turn (s := s) (sz := szs bs) (n := n) (H := Bo r) (s11 := b1) (s12 := b2) (s13 := b3) (due := .str "own") h hne o3.1 o3.2 l3 (.inl rfl)
      obtain ⟨d1, d2, d3, r4⟩ := ex_turn (s := s) (sz := szs bs) (n := n) (H := Bo r) (s11 := c1) (s12 := c2) (s13 := c3) (due := .str "own") h hne o4.1 o4.2 l4 (.inl rfl)
      have lst : Rt (exL (xδ bs s (szs bs) n A (Bo r) R none none none none none)) (.lst [.tup [lD (Bo ("q" ++ s)), .int n], .tup [lD (Bo r), .non], .tup [lD (Bo r ++ Bo s), .str "own"], .tup [lD [], .str "own"]]) := by
        have two : ∀ {δ : List Sl} {fa fb : List Sl → W D} {x y : D}, Rt (fa δ) x → Rt (fb δ) y → Rt (dTup (dCons fa (dCons fb dNil)) δ) (.tup [x, y]) := fun a b => Rt.tup (Rt.cons a (Rt.cons b Rt.nil)) (small (show 2 ≤ 4000 by decide))
        have bo : ∀ {δ : List Sl} {f : List Sl → W D} {x : Str}, Rt (f δ) (.str x) → Rt (dLst (dCons (dTup (dCons (dLst (dCons f dNil)) (dCons (dC (.int 1)) dNil))) dNil) δ) (lD (Bo x)) := fun q => one_l (blk_mk (rs := [_]) (t := 1) (Rt.lst (Rt.cons q Rt.nil) (small (show 1 ≤ 4000 by decide))) Rt.cC)
        refine Rt.lst (Rt.cons (two (bo (Rt.op2 Rt.cC (Rt.var rfl) (Rt.need (small ?_) Rt.ret))) (Rt.var rfl)) (Rt.cons (two (Rt.var rfl) Rt.cC) (Rt.cons (two (add_l (Rt.var rfl) (bo (Rt.var rfl)) (show 2 ≤ 4000 by decide)) Rt.cC) (Rt.cons (two (Rt.lst Rt.nil (small (Nat.zero_le _))) Rt.cC) Rt.nil)))) (small (show 4 ≤ 4000 by decide))
        show 1 + s.length ≤ 4000
        omega
      refine Tm.of (Rt.seq (Rt.ifF (Rt.orF (Rt.test (b := false) (Rt.op2 (Rt.call (Rt.cons (Rt.var rfl) Rt.nil) rfl (lsize_r sA)) (Rt.op2 (z := .int (n - 1 : Nat)) (Rt.var rfl) Rt.cC (Rt.ret.cast (congrArg D.int (by omega)))) (Rt.ret.cast (congrArg D.bl (by rw [e2]; simp))))) (Rt.test (b := false) (Rt.op2 (Rt.call (Rt.cons (Rt.var rfl) Rt.nil) rfl lwritten_r) (Rt.lst (Rt.cons ((Rt.call (Rt.cons (Rt.var rfl) (Rt.cons (Rt.var rfl) Rt.nil)) rfl (lline_r h n1)).cast (by rw [row]; rfl)) Rt.nil) (small (show 1 ≤ 4000 by decide))) (ne_one (lets_asc e7.1))))) Rt.next)
        (Rt.seq (Rt.bind (rIL lst) (Rt.bind two_g (Rt.bind r1 (Rt.bind two_g (Rt.bind r2 (Rt.bind two_g (Rt.bind r3 (Rt.bind two_g (Rt.bind r4 Rt.ret))))))))) (Rt.rets Rt.cC))) ⟨_, rfl, rfl⟩
end Lw
namespace Lw
open PySem L2 Ly
open Lx (inS cutL Ky IsTb atI_in)
section
variable {δ : List Sl} {B B1 B2 : Nat}
theorem tConsR {fa : List Sl → W D} {fl : List Sl → W (List D)} {x : D} {P : List D → Prop} (ha : Rt (fa δ) x) (hr : Tm B (fl δ) P) : Tm B (dCons fa fl δ) (fun ds => ∃ r, ds = x :: r ∧ P r) :=
  Tm.bindR ha (Tm.bind (B2 := 0) hr (fun r p => Tm.ret ⟨r, rfl, p⟩) (Nat.le_refl _))
theorem tConsE {fa : List Sl → W D} {fl : List Sl → W (List D)} {r : List D} {P : D → Prop} (ha : Tm B (fa δ) P) (hr : Rt (fl δ) r) : Tm B (dCons fa fl δ) (fun ds => ∃ x, ds = x :: r ∧ P x) :=
  Tm.bind (B1 := B) (B2 := 0) ha (fun x p => Tm.of (Rt.bind hr Rt.ret) ⟨x, rfl, p⟩) (Nat.le_refl _)
theorem tNotF {f : List Sl → W D} (h : Tm B (f δ) (fun d => d = .bl true)) : Tm B (dNot (dTru f) δ) (fun b => b = false) := by
  refine Tm.bind (B1 := B) (B2 := 0) (Q := fun b : Bool => b = true) (Tm.bind (B1 := B) (B2 := 0) h (fun d hd => ?_) (Nat.le_refl _)) (fun b hb => ?_) (Nat.le_refl _)
  · subst hd; exact Tm.of Rt.ret rfl
  · subst hb; exact Tm.of Rt.ret rfl
theorem tOrF {t u : List Sl → W Bool} (h : Tm B1 (t δ) (fun b => b = false)) (g : Tm B2 (u δ) (fun b => b = false)) (hB : B1 + B2 ≤ B) : Tm B (dOr t u δ) (fun b => b = false) :=
  Tm.bind h (fun b hb => by subst hb; exact g) hB
theorem tAndT {t u : List Sl → W Bool} (h : Rt (t δ) true) (g : Tm B (u δ) (fun b => b = false)) : Tm B (dAnd t u δ) (fun b => b = false) := Tm.bindR h g
theorem tSkip {t : List Sl → W Bool} {g h : List Sl → W Out} {S : Out → Prop} (ht : Tm B1 (t δ) (fun b => b = false)) (hh : Tm B2 (h δ) S) (hB : B1 + B2 ≤ B) : Tm B (dSeq (dIf t g dNext) h δ) S := by
  refine Tm.bind (B1 := B1) (B2 := B2) (Q := fun o : Out => o = .nx δ) (Tm.bind (B1 := B1) (B2 := 0) ht (fun b hb => ?_) (Nat.le_refl _)) (fun o ho => ?_) hB
  · subst hb; exact Tm.of Rt.ret rfl
  · subst ho; exact hh
end
def blkP (b : Bk) : PyData := .tuple [.list (b.1.map .str), .int (b.2 : Nat)]
theorem toPs_blk : ∀ bs : List Bk, toPs (bs.map blkL) = some (bs.map blkP)
  | [] => by rw [List.map_nil, toPs]; rfl
  | b :: r => by
    rw [List.map_cons, toPs, toPs_blk r]
    have e : toP (blkL b) = some (blkP b) := by
      unfold blkL
      rw [toP, toPs, toPs, toPs, toP, toP, toPs_str]; rfl
    rw [e]; rfl
theorem shaped_blk {bs : List Bk} (h : ∀ b ∈ bs, OkB b) : SeqAt.shaped (.list (bs.map blkP)) = true := by
  have one : ∀ b : Bk, OkB b → (blkP b).canLay0 = true ∧ (blkP b).depth ≤ 10 := fun b hb => by
    have hs : SeqAt.shaped (.list (b.1.map .str)) = true := shaped_strs (l := b.1) (fun y hy => lets_asc (hb.r y hy).1)
    have h1 := SeqAt.canLay_of_shaped hs
    have hd : ∀ l : List Str, PyData.depthAll (l.map .str) = 0 := fun l => by
      induction l with
      | nil => rfl
      | cons x r ih => show max 0 (PyData.depthAll (r.map .str)) = 0; rw [ih]; rfl
    refine ⟨?_, ?_⟩
    · show (PyData.canLay0 (.list (b.1.map .str)) && (true && true)) = true
      rw [h1]; rfl
    · show max (PyData.depthAll (b.1.map .str) + 1) (max 0 0) + 1 ≤ 10
      rw [hd]; decide
  have all : ∀ bs : List Bk, (∀ b ∈ bs, OkB b) → PyData.canLayAll0 (bs.map blkP) = true ∧ PyData.depthAll (bs.map blkP) ≤ 10 := fun bs => by
    induction bs with
    | nil => exact fun _ => ⟨rfl, Nat.zero_le _⟩
    | cons b r ih =>
      intro h
      obtain ⟨a1, a2⟩ := one b (h b List.mem_cons_self)
      obtain ⟨b1, b2⟩ := ih fun x hx => h x (List.mem_cons_of_mem _ hx)
      refine ⟨?_, ?_⟩
      · show ((blkP b).canLay0 && PyData.canLayAll0 (r.map blkP)) = true
        rw [a1, b1]; rfl
      · show max (blkP b).depth (PyData.depthAll (r.map blkP)) ≤ 10
        exact Nat.max_le.mpr ⟨a2, b2⟩
  obtain ⟨c1, c2⟩ := all bs h
  show (PyData.canLayAll0 (bs.map blkP) && decide (PyData.depthAll (bs.map blkP) + 1 ≤ 64)) = true
  rw [c1, decide_eq_true (by omega)]; rfl
theorem ne_nil {bs : List Bk} (h : ∀ b ∈ bs, OkB b) : Rt (neD (lD bs) (.lst [])) (.bl (!decide (bs = []))) := by
  have e : toP (lD bs) = some (.list (bs.map blkP)) := by unfold lD; rw [toP, toPs_blk]; rfl
  show Rt (match toP (lD bs), toP (.lst []) with | some a, some b => W.need (SeqAt.shaped a = true ∧ SeqAt.shaped b = true) (W.ret (D.bl (!PyData.eqv a b))) | _, _ => W.stuck) _
  rw [e, toP_nil]
  refine Rt.need ⟨shaped_blk h, rfl⟩ (Rt.ret.cast ?_)
  cases bs with
  | nil => rfl
  | cons b r => rfl
theorem Drs.ok {bs : List Bk} (h : Drs bs) (hl : bs.length ≤ 1000) : OkBs bs := ⟨hl, fun b hb => (h b hb).ok⟩
theorem row2 {s : Str} (hs : good2 s) : Tm 3 (g__law_row [.pen, .str s, .int 0, .int 2]) (fun d => ∃ x, d = .str x ∧ Rw x ∧ x.length ≤ 2) :=
  (row_t (lo := 0) (hi := 2) hs.1.1.one (by have := hs.1.1.few; omega) (Nat.zero_le _) (by omega)).mono (by omega) fun d ⟨x, e, h1, h2, h3⟩ => ⟨x, e, ⟨⟨fun c hc => hs.1.1.let_ c (h3 c hc), by omega⟩, fun c hc => hs.2 c (h3 c hc)⟩, h2⟩
abbrev lδ (ns : List Int) (s2 s3 s4 s5 s6 s7 s8 s9 : Sl) : List Sl := [some (.sct ns), some .pen, s2, s3, s4, s5, s6, s7, s8, s9]
def Il (ns : List Int) (δ : List Sl) : Prop := ∃ s2 s3 s4 s5 s6 s7 s8 s9, δ = lδ ns s2 s3 s4 s5 s6 s7 s8 s9
@[reducible] def lawF : List Sl → W Out := (dSeq (dAsg (dCall 1 g__law_few (dCons (dVar 1) dNil)) (dName 3))
  (dSeq (dAsg (dCall 4 g__law_lblocks (dCons (dVar 1) (dCons (dVar 3) (dCons (dC (.int 5)) (dCons (dLst (dCons (dC (.int 1)) (dCons (dC (.int 2)) (dCons (dC (.int 3)) (dCons (dC (.int 5)) (dCons (dOp2 powD (dC (.int 10)) (dC (.int 9))) (dCons (dOp2 addD (dC (.int 1)) (dCall 2 g__law_great (dCons (dVar 1) (dCons (dC (.int 29)) dNil)))) (dCons (dOp2 powD (dC (.int 10)) (dC (.int 30))) dNil)))))))) dNil))))) (dName 4))
  (dSeq (dPar 5 6 (dCons (dCall 1 g__law_lmade (dCons (dVar 4) dNil)) (dCons (dCall 4 g__law_row (dCons (dVar 1) (dCons (dVar 3) (dCons (dC (.int 0)) (dCons (dC (.int 2)) dNil))))) dNil)))
  (dSeq (dIf (dOr (dNot (dTru (dCall 3 g__law_cut_right (dCons (dVar 1) (dCons (dVar 4) (dCons (dVar 5) dNil)))))) (dNot (dTru (dCall 3 g__law_cut_right (dCons (dVar 1) (dCons (dVar 4) (dCons (dVar 5) dNil))))))) (dRet (dC (.bl false))) dNext)
  (dSeq (dIf (dAnd (dTest (dOp2 neD (dVar 4) (dLst dNil))) (dNot (dTru (dCall 4 g__law_exchanged_right (dCons (dVar 1) (dCons (dVar 4) (dCons (dVar 5) (dCons (dVar 6) dNil)))))))) (dRet (dC (.bl false))) dNext)
  (dSeq (dAsg (dCall 4 g__law_lblocks (dCons (dVar 1) (dCons (dVar 3) (dCons (dC (.int 3)) (dCons (dLst (dCons (dC (.int 1)) (dCons (dC (.int 2)) (dCons (dC (.int 6)) (dCons (dOp2 powD (dC (.int 10)) (dC (.int 9))) dNil))))) dNil))))) (dName 7))
  (dSeq (dAsg (dCall 1 g__law_lmade (dCons (dVar 7) dNil)) (dName 8))
  (dSeq (dIf (dTest (dOp2 neD (dOpn reprD (dCons (dMeth "difference" 1 tb_difference (dVar 5) (dCons (dVar 8) dNil)) dNil)) (dOpn reprD (dCons (dCall 2 g__law_apart (dCons (dVar 4) (dCons (dVar 7) dNil))) dNil)))) (dRet (dC (.bl false))) dNext)
  (dSeq (dAsg (dOp2 (binO tb_op_add ds_op_add) (dVar 5) (dVar 8)) (dName 9))
  (dSeq (dIf (dOr (dNot (dTest (dOp2 (eqQ tb_eqq false) (dVar 9) (dCall 1 g__law_lmade (dCons (dOp2 addD (dVar 4) (dVar 7)) dNil))))) (dTest (dOp2 neD (dProp tp_length (dVar 9)) (dOp2 addD (dProp tp_length (dVar 5)) (dProp tp_length (dVar 8)))))) (dRet (dC (.bl false))) dNext)
  (dIf (dOr (dTest (dOp2 (eqQ tb_eqq false) (dVar 5) (dProp tp_blocks (dVar 5)))) (dOr (dTest (dOp2 (eqQ tb_eqq false) (dVar 5) (dC (.str ("a" : Str))))) (dTest (dOp2 (eqQ tb_eqq false) (dVar 5) (dProp tp_length (dVar 5)))))) (dRet (dC (.bl false))) dNext)))))))))))
@[reducible] def lawR : List Sl → W (List D) := (dIR1 (dCons (dOp2 addD (dC (.int 4)) (dOpn minD (dCons (dC (.int 6)) (dCons (dOpn lenD (dCons (dVar 0) dNil)) dNil)))) dNil))
@[reducible] def lawB1 : List Sl → W D := (dCall 4 g__law_lblocks (dCons (dVar 1) (dCons (dVar 3) (dCons (dC (.int 5)) (dCons (dLst (dCons (dC (.int 1)) (dCons (dC (.int 2)) (dCons (dC (.int 3)) (dCons (dC (.int 5)) (dCons (dOp2 powD (dC (.int 10)) (dC (.int 9))) (dCons (dOp2 addD (dC (.int 1)) (dCall 2 g__law_great (dCons (dVar 1) (dCons (dC (.int 29)) dNil)))) (dCons (dOp2 powD (dC (.int 10)) (dC (.int 30))) dNil)))))))) dNil)))))
@[reducible] def lawB2 : List Sl → W D := (dCall 4 g__law_lblocks (dCons (dVar 1) (dCons (dVar 3) (dCons (dC (.int 3)) (dCons (dLst (dCons (dC (.int 1)) (dCons (dC (.int 2)) (dCons (dC (.int 6)) (dCons (dOp2 powD (dC (.int 10)) (dC (.int 9))) dNil))))) dNil)))))
section
variable {ns : List Int} {s2 s3 s4 s5 s6 s7 s8 s9 : Sl} {s : Str}
theorem pow_r {k : Nat} {δ : List Sl} (h : k ≤ 100) : Rt (dOp2 powD (dC (.int 10)) (dC (.int k)) δ) (.int (10 ^ k : Nat)) := by
  refine Rt.op2 Rt.cC Rt.cC (Rt.need (show CPow 10 (k : Nat) from ⟨by omega, by omega, by decide⟩) (Rt.ret.cast (congrArg D.int ?_)))
  rw [Int.toNat_natCast, Int.natCast_pow]; rfl
theorem b1_t (hs : good2 s) : Tm 69 (lawB1 (lδ ns s2 (some (.str s)) s4 s5 s6 s7 s8 s9)) (fun d => ∃ bs, d = lD bs ∧ Drs bs ∧ bs.length ≤ 5) := by
  refine Tm.bind (B1 := 29) (B2 := 40) (Q := fun ds => ∃ v : Nat, v < 10 ^ 29 ∧ ds = [.pen, .str s, .int 5, .lst [.int 1, .int 2, .int 3, .int 5, natD (10 ^ 9), natD (1 + v), natD (10 ^ 30)]]) ?_ (fun ds hd => ?_) (Nat.le_refl _)
  · refine (tConsR (Rt.var rfl) (tConsR (Rt.var rfl) (tConsR Rt.cC (tConsE (P := fun d => ∃ v : Nat, v < 10 ^ 29 ∧ d = .lst [.int 1, .int 2, .int 3, .int 5, natD (10 ^ 9), natD (1 + v), natD (10 ^ 30)]) ?_ Rt.nil)))).mono (Nat.le_refl _) fun ds ⟨r, e, r2, e2, r3, e3, x, e4, v, hv, e5⟩ => ⟨v, hv, by rw [e, e2, e3, e4, e5]⟩
    refine Tm.bind (B1 := 29) (B2 := 0) (Q := fun ds => ∃ v : Nat, v < 10 ^ 29 ∧ ds = [.int 1, .int 2, .int 3, .int 5, natD (10 ^ 9), natD (1 + v), natD (10 ^ 30)]) ?_ (fun ds hd => ?_) (Nat.le_refl _)
    · refine (tConsR Rt.cC (tConsR Rt.cC (tConsR Rt.cC (tConsR Rt.cC (tConsR (pow_r (k := 9) (by decide)) (tConsE (P := fun d => ∃ v : Nat, v < 10 ^ 29 ∧ d = natD (1 + v)) ?_ (Rt.cons (pow_r (k := 30) (by decide)) Rt.nil))))))).mono (Nat.le_refl _) fun ds ⟨r, e, r2, e2, r3, e3, r4, e4, r5, e5, x, e6, v, hv, e7⟩ => ⟨v, hv, by rw [e, e2, e3, e4, e5, e6, e7]⟩
      refine Tm.bindR Rt.cC (Tm.bind (B1 := 29) (B2 := 0) (tCall (Rt.cons (Rt.var rfl) (Rt.cons Rt.cC Rt.nil)) rfl (great_t (n := 29) (by decide))) (fun d hd => ?_) (Nat.le_refl _))
      obtain ⟨v, rfl, hv⟩ := hd
      exact Tm.of Rt.ret ⟨v, hv, congrArg D.int (by push_cast; rfl)⟩
    · obtain ⟨v, hv, rfl⟩ := hd
      exact Tm.need (small (show 7 ≤ 4000 by decide)) (Tm.ret ⟨v, hv, rfl⟩)
  · obtain ⟨v, hv, rfl⟩ := hd
    refine Tm.need rfl (lblocks_t hs (m := 5) (by decide) ⟨Nat.succ_le_succ (Nat.zero_le _), (show 7 ≤ 100 by decide), fun d hd => ?_⟩)
    have hv2 : 1 + v ≤ 10 ^ 30 := by
      have : (10 : Nat) ^ 29 + 1 ≤ 10 ^ 30 := by decide
      omega
    simp only [List.mem_cons, List.not_mem_nil, or_false] at hd
    rcases hd with rfl | rfl | rfl | rfl | rfl | rfl | rfl
    · exact ⟨1, rfl, by decide, by decide⟩
    · exact ⟨2, rfl, by decide, by decide⟩
    · exact ⟨3, rfl, by decide, by decide⟩
    · exact ⟨5, rfl, by decide, by decide⟩
    · exact ⟨10 ^ 9, rfl, by decide, by decide⟩
    · exact ⟨1 + v, rfl, by omega, hv2⟩
    · exact ⟨10 ^ 30, rfl, by decide, by decide⟩
theorem b2_t (hs : good2 s) : Tm 28 (lawB2 (lδ ns s2 (some (.str s)) s4 s5 s6 s7 s8 s9)) (fun d => ∃ bs, d = lD bs ∧ Drs bs ∧ bs.length ≤ 3) := by
  refine tCall (Rt.cons (Rt.var rfl) (Rt.cons (Rt.var rfl) (Rt.cons Rt.cC (Rt.cons (Rt.lst (Rt.cons Rt.cC (Rt.cons Rt.cC (Rt.cons Rt.cC (Rt.cons (pow_r (k := 9) (by decide)) Rt.nil)))) (small (show 4 ≤ 4000 by decide))) Rt.nil)))) rfl (lblocks_t hs (m := 3) (by decide) ⟨Nat.succ_le_succ (Nat.zero_le _), (show 4 ≤ 100 by decide), fun d hd => ?_⟩)
  simp only [List.mem_cons, List.not_mem_nil, or_false] at hd
  rcases hd with rfl | rfl | rfl | rfl
  · exact ⟨1, rfl, by decide, by decide⟩
  · exact ⟨2, rfl, by decide, by decide⟩
  · exact ⟨6, rfl, by decide, by decide⟩
  · exact ⟨10 ^ 9, rfl, by decide, by decide⟩
theorem law_turn : Tm 500 (lawF (lδ ns s2 s3 s4 s5 s6 s7 s8 s9)) (fun o => ∃ ε, o = .nx ε ∧ Il ns ε) := by
  refine tAsg (B1 := 4) (B2 := 496) (tCall (Rt.cons (Rt.var rfl) Rt.nil) rfl few_t) (fun d hd => ?_) (by decide)
  obtain ⟨s, rfl, hs⟩ := hd
  refine tAsg (B1 := 69) (B2 := 427) (b1_t hs) (fun d hd => ?_) (by decide)
  obtain ⟨bs, rfl, hq, hl⟩ := hd
  have hb := hq.ok (by omega)
  refine Tm.bind (B1 := 3) (B2 := 424) (Q := fun o => ∃ x, o = .nx (lδ ns s2 (some (.str s)) (some (lD bs)) (some (oD (clD bs) bs)) (some (.str x)) s7 s8 s9) ∧ Rw x ∧ x.length ≤ 2) ?_ (fun o ho => ?_) (by decide)
  · refine Tm.bind (B1 := 3) (B2 := 0) (tConsR (Rt.call (Rt.cons (Rt.var rfl) Rt.nil) rfl (lmade_r hb)) (tConsE (tCall (Rt.cons (Rt.var rfl) (Rt.cons (Rt.var rfl) (Rt.cons Rt.cC (Rt.cons Rt.cC Rt.nil)))) rfl (row2 hs)) Rt.nil)) (fun ds hd => ?_) (Nat.le_refl _)
    obtain ⟨r, rfl, x, rfl, y, rfl, hy⟩ := hd
    exact Tm.of Rt.ret ⟨y, rfl, hy⟩
  obtain ⟨x, rfl, hx, hxl⟩ := ho
  have cut : ∀ {δ : List Sl}, δ = lδ ns s2 (some (.str s)) (some (lD bs)) (some (oD (clD bs) bs)) (some (.str x)) s7 s8 s9 → Tm 160 (dNot (dTru (dCall 3 g__law_cut_right (dCons (dVar 1) (dCons (dVar 4) (dCons (dVar 5) dNil))))) δ) (fun b => b = false) := fun e => by
    subst e
    exact tNotF ((tCall (Rt.cons (Rt.var rfl) (Rt.cons (Rt.var rfl) (Rt.cons (Rt.var rfl) Rt.nil))) rfl (cut_right_t hb (by omega))).mono (by omega) (fun _ z => z))
  refine tSkip (B1 := 320) (B2 := 104) (tOrF (cut rfl) (cut rfl) (by decide)) ?_ (by decide)
  have nn : ∀ {c : Bool}, c = !decide (bs = []) → Rt (dTest (dOp2 neD (dVar 4) (dLst dNil)) (lδ ns s2 (some (.str s)) (some (lD bs)) (some (oD (clD bs) bs)) (some (.str x)) s7 s8 s9)) c := fun e => (Rt.test (Rt.op2 (Rt.var rfl) (Rt.lst Rt.nil (small (Nat.zero_le _))) (ne_nil hb.2))).cast e.symm
  refine tSkip (B1 := 31) (B2 := 73) ?_ ?_ (by decide)
  · by_cases z : bs = []
    · exact Tm.of (Rt.andF (nn (by rw [decide_eq_true z]; rfl))) rfl
    · exact tAndT (nn (by rw [decide_eq_false z]; rfl)) (tNotF (tCall (Rt.cons (Rt.var rfl) (Rt.cons (Rt.var rfl) (Rt.cons (Rt.var rfl) (Rt.cons (Rt.var rfl) Rt.nil)))) rfl (exchanged_right_t hb hq (by omega) z hx (by omega))))
  refine tAsg (B1 := 28) (B2 := 45) (b2_t hs) (fun d hd => ?_) (by decide)
  obtain ⟨ms, rfl, mq, ml⟩ := hd
  have hm := mq.ok (by omega)
  have c1 := clD_cn bs
  have c2 := clD_cn ms
  have hbm : OkBs (bs ++ ms) := ⟨by rw [List.length_append]; omega, ok_app hb.2 hm.2⟩
  refine tAsgR (Rt.call (Rt.cons (Rt.var rfl) Rt.nil) rfl (lmade_r hm)) ?_
  obtain ⟨e, e1, e2⟩ := apart_r hb hm (by omega)
  have fe := e1.few hb hm
  have d1 : Rt (dMeth "difference" 1 tb_difference (dVar 5) (dCons (dVar 8) dNil) (lδ ns s2 (some (.str s)) (some (lD bs)) (some (oD (clD bs) bs)) (some (.str x)) (some (lD ms)) (some (oD (clD ms) ms)) s9)) (optD e) := by
    obtain ⟨e', q1, q2⟩ := diff_r (δ := lδ ns s2 (some (.str s)) (some (lD bs)) (some (oD (clD bs) bs)) (some (.str x)) (some (lD ms)) (some (oD (clD ms) ms)) s9) (fa := dVar 5) (fb := dVar 8) c1 hb hm (Rt.var rfl) (Rt.var rfl)
    rw [LD.uniq e1 q1]; exact q2
  have eqb : Rt (eqQ tb_eqq false (oD "FreeLongText" (bs ++ ms)) (oD (clD (bs ++ ms)) (bs ++ ms))) (.bl true) := by
    obtain ⟨e', q1, q2⟩ := eqQ_r (neg := false) (.inr rfl) (clD_cn (bs ++ ms)) (.inl rfl) hbm hbm
    have : e' = none := LD.uniq q1 (e := none) (Sm.refl _)
    subst this
    exact q2
  have no : ∀ {δ : List Sl} {f : List Sl → W D} {v : D} {t : Ky}, δ[5]? = some (some (oD (clD bs) bs)) → Rt (f δ) v → Rt (tyW v) t → (t = .t "tuple" ∨ t = .t "str" ∨ t = .t "int") → Rt (dTest (dOp2 (eqQ tb_eqq false) (dVar 5) f) δ) false := fun h hf ht hm => Rt.test (Rt.op2 (Rt.var h) hf (eqQ_no c1 ht hm))
  refine Tm.of (Rt.seq (Rt.ifF (Rt.test (Rt.op2 (Rt.opn (Rt.cons d1 Rt.nil) (rp_one fe)) (Rt.opn (Rt.cons (Rt.call (Rt.cons (Rt.var rfl) (Rt.cons (Rt.var rfl) Rt.nil)) rfl e2) Rt.nil) (rp_one fe)) ne_sameT)) Rt.next) (Rt.seq (Rt.asg (Rt.op2 (Rt.var rfl) (Rt.var rfl) (add_r c1 c2 hbm.sh))) (Rt.seq (Rt.ifF (Rt.orF (Rt.not (b := true) (Rt.test (Rt.op2 (Rt.var rfl) (Rt.call (Rt.cons (add_l (Rt.var rfl) (Rt.var rfl) (by omega)) Rt.nil) rfl (lmade_r hbm)) eqb))) (Rt.test (b := false) (Rt.op2 (len_p (.inr rfl) (Rt.var rfl)) (Rt.op2 (len_p c1 (Rt.var rfl)) (len_p c2 (Rt.var rfl)) Rt.ret) (Rt.ret.cast (congrArg D.bl ?_))))) Rt.next)
    (Rt.ifF (Rt.orF (no rfl (blk_p c1 (Rt.var rfl)) (t := .t "tuple") Rt.ret (.inl rfl)) (Rt.orF (no rfl Rt.cC (t := .t "str") Rt.ret (.inr (.inl rfl))) (no rfl (len_p c1 (Rt.var rfl)) (t := .t "int") Rt.ret (.inr (.inr rfl))))) Rt.next)))) ⟨_, rfl, s2, some (.str s), some (lD bs), some (oD (clD bs) bs), some (.str x), some (lD ms), some (oD (clD ms) ms), some (oD "FreeLongText" (bs ++ ms)), rfl⟩
  rw [szs_app, decide_eq_true (by push_cast; rfl)]; rfl
end
theorem last_a {δ : List Sl} : Rt (dOp2 (eqQ tb_eqq false) (dMakeS "LongText" 1 0 [] 2 gi_LongText (dCons (dTup (dCons (dLst (dCons (dC (.str ("a" : Str))) (dCons (dC (.str ("a" : Str))) dNil))) (dCons (dC (.int 3)) dNil))) dNil) dNil) (dMakeS "LongText" 1 0 [] 2 gi_LongText (dCons (dTup (dCons (dLst (dCons (dC (.str ("a" : Str))) dNil)) (dCons (dC (.int 6)) dNil))) dNil) dNil) δ) (.bl true) := by
  have va : Vr "a" := by
    have q : (("a" : Str).cps.toList.all fun c => decide (c ∈ LET.cps.toList)) = true := by decide +kernel
    exact ⟨fun c hc => of_decide_eq_true (List.all_eq_true.mp q c hc), by decide +kernel⟩
  have o1 : OkB (["a", "a"], 3) := ⟨⟨by show 1 ≤ 2; decide, by show 1 ≤ 3; decide⟩, by show 2 ≤ 4; decide, by show 3 ≤ 10 ^ 30; decide, fun r hr => by
    rcases List.mem_cons.mp hr with rfl | hr
    · exact va
    · rw [List.mem_singleton.mp hr]; exact va⟩
  have o2 : OkB (["a"], 6) := ⟨⟨by show 1 ≤ 1; decide, by show 1 ≤ 6; decide⟩, by show 1 ≤ 4; decide, by show 6 ≤ 10 ^ 30; decide, fun r hr => by rw [List.mem_singleton.mp hr]; exact va⟩
  have k1 : OkBs [(["a", "a"], 3)] := ⟨by show 1 ≤ 1000; decide, fun b hb => by rw [List.mem_singleton.mp hb]; exact o1⟩
  have k2 : OkBs [(["a"], 6)] := ⟨by show 1 ≤ 1000; decide, fun b hb => by rw [List.mem_singleton.mp hb]; exact o2⟩
  have sm : Sm [(["a"], 6)] [(["a", "a"], 3)] := (sp_twice o2 (by show 1 < 3; decide) (by show 1 < 6; decide)).1
  obtain ⟨e, q1, q2⟩ := eqQ_r (neg := false) (c := "LongText") (d := "LongText") (.inl rfl) (.inl rfl) (.inr rfl) k1 k2
  have : e = none := LD.uniq q1 (e := none) sm.symm
  subst this
  exact Rt.op2 (mk1 (blk_mk (rs := ["a", "a"]) (t := 3) (Rt.lst (Rt.cons Rt.cC (Rt.cons Rt.cC Rt.nil)) (small (show 2 ≤ 4000 by decide))) Rt.cC) o1) (mk1 (blk_mk (rs := ["a"]) (t := 6) (Rt.lst (Rt.cons Rt.cC Rt.nil) (small (show 1 ≤ 4000 by decide))) Rt.cC) o2) q2
theorem of_nil {δ : List Sl} : Rt (dCM "LongText" 2 g_cm_of (dCons (dLst dNil) dNil) δ) (oD "FreeLongText" []) := by
  refine Rt.bind (Rt.cons (Rt.lst Rt.nil (small (Nat.zero_le _))) Rt.nil) (Rt.need rfl (Rt.bodyR (Rt.seq (Rt.ifF (Rt.not (b := true) (Rt.tru (Rt.call (Rt.cons (Rt.var rfl) Rt.nil) rfl (is_text_s (rs := []) (fun _ z => nomatch z) (Nat.zero_le _))) Rt.ret)) Rt.next) (Rt.rets (mkF (bs := []) (Rt.ifE (b := false) (Rt.test (Rt.op2 (Rt.opn (Rt.cons (Rt.var rfl) Rt.nil) Rt.ret) Rt.cC Rt.ret)) (Rt.tup Rt.nil (small (Nat.zero_le _)))) ⟨Nat.zero_le _, fun _ z => nomatch z⟩)))))
theorem last_b {δ : List Sl} : Rt (dOp2 (eqR "LongText" "FreeLongText" (dBody N_LongText_eq b_LongText_eq)) (dMakeS "LongText" 0 0 [] 2 gi_LongText dNil dNil) (dCM "LongText" 2 g_cm_of (dCons (dLst dNil) dNil)) δ) (.bl true) := by
  have k : OkBs [] := ⟨Nat.zero_le _, fun _ z => nomatch z⟩
  obtain ⟨e, q1, q2⟩ := eq_g (c := "FreeLongText") (d := "LongText") (.inr rfl) (.inl rfl) k k
  have : e = none := LD.uniq q1 (e := none) (Sm.refl _)
  subst this
  exact Rt.op2 mk0 of_nil (Rt.need ⟨rfl, rfl⟩ (Rt.bind (Rt.calm q2) (Rt.bind (a := true) Rt.ret Rt.ret)))
theorem law_t (ns : List Int) : Tm 5000 (b_law (some (.sct ns) :: some .pen :: List.replicate 8 none)) (fun o => o = .rt (.bl true)) := by
  have hi : Rt (lawR (some (.sct ns) :: some .pen :: List.replicate 8 none)) (rangeD 0 ((4 : Int) + (if (ns.length : Int) < 6 then (ns.length : Int) else 6)).toNat) := by
    refine rIR (Rt.cons (Rt.op2 Rt.cC (Rt.opn (Rt.cons Rt.cC (Rt.cons (Rt.opn (Rt.cons (Rt.var rfl) Rt.nil) Rt.ret) Rt.nil)) Rt.ret) Rt.ret) Rt.nil) ?_ ?_ <;> (split <;> omega)
  refine Tm.bind (B1 := 5000) (B2 := 0) (Q := fun o => ∃ ε, o = .nx ε ∧ Il ns ε) (Tm.bindR hi ((forD_t (B := 500) (I := fun _ δ => Il ns δ) _ _ ⟨_, _, _, _, _, _, _, _, rfl⟩ fun d r δ hI => ?_).mono ?_ fun _ h => h)) (fun o ho => ?_) (by decide)
  · obtain ⟨s2, s3, s4, s5, s6, s7, s8, s9, rfl⟩ := hI
    refine Tm.bindR Rt.ret ?_
    exact law_turn (s2 := some d)
  · rw [rangeD_len]
    split <;> omega
  · obtain ⟨ε, rfl, hI⟩ := ho
    exact Tm.of (Rt.rets ((Rt.andV (b := true) (c := true) last_a fun _ => last_b).cast rfl)) rfl
theorem plain (ns : List Int) : (b_law (some (.sct ns) :: some .pen :: List.replicate 8 none)).wp ⟨2 ^ 60, []⟩ (fun _ o => o = .rt (.bl true)) (fun _ _ => False) := (law_t ns).wp (by show 5000 ≤ 2 ^ 60; decide)
end Lw
set_option maxHeartbeats 0
open PySem PySem.W PySem.Calls PyProof.Rows
theorem PySem.Challenge.cw_linestream_k47_whole_long_texts_cut_holds : PySem.Challenge.rw_linestream_k47_whole_long_texts_cut.Holds := by
  w_on; o_law
  refine HandSHeadRun.head_any (r := OpenLaw.row PySem.Challenge.rw_linestream_k47_whole_long_texts_cut) (q := view (OpenLaw.row PySem.Challenge.rw_linestream_k47_whole_long_texts_cut).prog [40]) (H := Lw.hk) (ob := Lw.ob) (M := 8000) (loose := Lw.names) (d := HandSHeadRun.topDef (OpenLaw.row PySem.Challenge.rw_linestream_k47_whole_long_texts_cut).prog 40) (kwd := []) Lw.ob_eq
    (by kernel_rfl) (fun s => by kernel_rfl) Lw.run (by kernel_rfl) (by kernel_rfl) (by kernel_rfl) (by rfl) (by first | assumption | decide +kernel) (by decide +kernel) ⟨rfl, rfl, rfl, rfl, rfl, by decide +kernel⟩ ?hw ?hc
  case hw => w_witness2
  case hc =>
    refine Ly.walk_T (l := PySem.Challenge.rw_linestream_k47_whole_long_texts_cut) (n := 63) (k := 66) (x := "_law_script") (CX := fun w => L2.CX PySem.Challenge.pw_linestream_k47_whole_long_texts_cut w) rfl (by decide) (by kernel_rfl) ⟨rfl, by decide, by decide⟩ ?F (fun _ _ _ _ _ ⟨_, _, _, _, _, _, _, _, _, _, _, _, z⟩ => z)
    intro w mg fa h Y G hmg0
    obtain ⟨K, KX, c, tY, smY⟩ := Y
    have hmg : mg ("law" : PySem.Str) = some (.ref fa) := by
      have e : (HandSHeadRun.topDef (OpenLaw.row PySem.Challenge.rw_linestream_k47_whole_long_texts_cut).prog 40).name = ("law" : PySem.Str) := by kernel_rfl
      rw [← e]
      exact hmg0
    obtain ⟨fd, F⟩ := Lw.d_law0 c
    have e := hmg.symm.trans (Lw.gl_law c ⟨h, KX, G⟩)
    cases e
    have b := L2.FunD.bindsA (ps := ["_law_script"]) F fun _ _ _ _ _ _ us hl => match us, hl with | [_], _ => rfl
    exact ⟨K, fd, Ly.spLaw K, KX, tY, smY, fun s v => b s [v] rfl, fun H a ns hl hT hS => ⟨a, ns, rfl, hS, hT, fun _ => rfl⟩, fun base _ _ tb sm => Lw.fg_law ⟨c, ⟨h, KX, G⟩, tb, sm⟩ F Lw.plain⟩
