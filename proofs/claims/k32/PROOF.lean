import PyProof.Rows.All
import Wide.All
import OpenK.AllK
import Wide.FinOn
import KE.KStateDown
import Lean
import HandS.Base
import HandS.Call
import HandS.Ends
import HandS.More
import HandS.Words
import HandS.WordsExc
import KE.KNestM
import HandS.Defaults
import HandS.Head0
import HandS.Head1
import HandS.Head2
import HandS.HeadEnd
import HandS.HeadHook1
import HandS.HeadHook2
import HandS.Property
import HandS.Exc
import HandS.ExcInit
import HandS.ExcField
import KE.KSuper
import KE.KTryMore
import KE.DataEq
import HandS.ForMost
import HandS.Wide
import HandS.IsInst
import HandS.TupAny
import HandS.Flow
import HandS.Zip
import HandS.Lambda
import KE.KDflt
import HandS.Star
import HandS.Style
import KE.KOpsOwn
import HandS.OwnEq
import HandS.Text
import HandS.ClsMeth
import KE.GoesMore
import KE.KExcSuper
import HandS.HotCalls
import HandS.MakeKwOnly
import HandS.FStr
import KE.GoesEnumKw
import HandS.Dict
import HandS.List
import HandS.RaiseMore
import KE.IntTextLaws
import PyProof.CollectStr
import HandS.SetTxt0
import HandS.Set
import HandS.Strs
import HandS.TupSets
import HandS.EndTab
import HandS.EndOwn
import PySem.Challenge.RW_evenpicks_k32_names_and_forms_told
set_option Elab.async false
set_option linter.all false
set_option maxRecDepth 100000
set_option maxHeartbeats 4000000
set_option autoImplicit false
namespace Hx
open PySem PySem.Spec L2
/-- a global's address; a class's method; what a property, a static method of a class holds -/
def gA (x : Str) : PySem.W.Frag → Addr := fun K => He.ga K x
def mA (c m : Str) : PySem.W.Frag → Addr := fun K => He.ma K (He.ga K c) m
def rA (kind : String) (c m : Str) : PySem.W.Frag → Addr := fun K => match PySem.W.recIn K (He.ma K (He.ga K c) m) kind with
  | some (.ref g :: _) => g
  | _ => 0
structure DefX where
  ad : PySem.W.Frag → Addr
  name : Str
  qual : Str
  params : Arguments
  body : List Stmt
  scope : Scope
  dfl : List He.Dv := []
  kwd : List (Str × He.Dv) := []
  /-- a def that says super(): its class, the program's file -/
  sup : Option (Str × Str) := none
/-- the cell of a class is told apart (supB) -/
def cloX (l : List (Str × Addr)) : List (Str × Addr) := match l with
  | [(n, c)] => if n = "__class__" then [] else [(n, c)]
  | l => l
def fnX (K : PySem.W.Frag) (a : Addr) : He.FnW := match K.lookup a with
  | some ⟨_, _, .func fd, _⟩ => some (fd.name, fd.qualname, fd.params, fd.body, fd.scope, fd.globals, cloX fd.closure, fd.builtins)
  | _ => none
/-- the cell holds the class C, the code is of this file -/
def supB (K : PySem.W.Frag) (C : Addr) (fl : Str) (clo : List (Str × Addr)) (code : Value) : Bool := match clo, code with
  | [(n, cc)], .ref cda => decide (n = "__class__") && ((match K.lookup cc with
      | some ⟨_, _, .cell (some (.ref D)), _⟩ => decide (D = C)
      | _ => false) && ((match K.lookup cda with
      | some ⟨_, _, .fields vs, _⟩ => (match (vs[2]? : Option Value) with
          | some (Value.str file _) => fl == file
          | _ => false)
      | _ => false) && (PySem.W.clsIn K C).isSome))
  | _, _ => false
def cloB (K : PySem.W.Frag) (sup : Option (Str × Str)) (clo : List (Str × Addr)) (code : Value) : Bool := match sup with
  | none => clo.isEmpty
  | some (c, fl) => supB K (He.ga K c) fl clo code
def DefX.val (d : DefX) : He.FnW := some (d.name, d.qual, d.params, .stmts d.body, d.scope, mainGlobals, [], builtinsNs)
def DefX.dvs (K : PySem.W.Frag) (d : DefX) : List V := d.dfl.map (He.Dv.v K)
def DefX.kws (K : PySem.W.Frag) (d : DefX) : List (Str × V) := d.kwd.map fun q => (q.1, q.2.v K)
def DefX.ok (K : PySem.W.Frag) (d : DefX) : Bool := PySem.W.keepIn K (.ref (d.ad K)) && (match K.lookup (d.ad K) with
  | some ⟨_, _, .func fd, _⟩ => (PySem.W.codeIn K fd.code d.qual && (He.dflB K fd.defaults (d.dvs K) && He.kwdB K fd.kwdefaults (d.kws K))) && cloB K d.sup fd.closure fd.code
  | _ => false)
theorem DefX.funD {K : PySem.W.Frag} {d : DefX} (e : fnX K (d.ad K) = d.val) (c : d.ok K = true) (hs : d.sup = none) : ∃ fd, FunD K d.name d.qual d.params d.body d.scope (d.dvs K) (d.kws K) (d.ad K) fd := by
  obtain ⟨kp, c2⟩ := He.ba c
  unfold fnX at e
  cases q : K.lookup (d.ad K) with
  | none =>
    rw [q] at c2
    cases c2
  | some o =>
    obtain ⟨oc, od, dt, osl⟩ := o
    rw [q] at c2 e
    cases dt with
    | func fd =>
      obtain ⟨n1, n2, n3, n4, n5, n6, n7, n8, n9, n10, n11, n12, n13, n14, n15⟩ := fd
      have c9 : ((PySem.W.codeIn K n13 d.qual && (He.dflB K n8 (d.dvs K) && He.kwdB K n9 (d.kws K))) && cloB K d.sup n7 n13) = true := c2
      obtain ⟨c3, c4⟩ := He.ba c9
      have c5 : n7 = [] := by
        rw [hs] at c4
        exact List.isEmpty_iff.mp c4
      subst c5
      have e2 : (some (n1, n2, n3, n4, n5, n6, ([] : List (Str × Addr)), n15) : He.FnW) = some (d.name, d.qual, d.params, .stmts d.body, d.scope, mainGlobals, [], builtinsNs) := e
      simp only [Option.some.injEq, Prod.mk.injEq] at e2
      obtain ⟨h1, h2, h3, h4, h5, h6, h7, h8⟩ := e2
      subst h1 h2 h3 h4 h5 h6 h8
      obtain ⟨k1, k2⟩ := He.ba c3
      obtain ⟨k3, k4⟩ := He.ba k2
      exact ⟨_, ⟨oc, od, n8, n9, n10, n11, n12, n13, n14, osl, rfl, q, k1, He.dflB_ok k3, He.kwdB_ok k4⟩, kp⟩
    | _ => cases c2
def obsX (fx : List (PySem.W.Frag → Bool)) (fn : List DefX) (K : PySem.W.Frag) : He.AlD := ((fx.all fun f => f K) && fn.all fun d => d.ok K, fn.map fun d => fnX K (d.ad K))
def valX (fn : List DefX) : He.AlD := (true, fn.map DefX.val)
def SaysX (fx : List (PySem.W.Frag → Bool)) (fn : List DefX) (K : PySem.W.Frag) : Prop := obsX fx fn K = valX fn
section
variable {fx : List (PySem.W.Frag → Bool)} {fn : List DefX} {K : PySem.W.Frag}
theorem SaysX.fact (c : SaysX fx fn K) (i : Nat) {f : PySem.W.Frag → Bool} (h : fx[i]? = some f := by rfl) : f K = true := by
  have c1 := (He.ba (show ((fx.all fun f => f K) && fn.all fun d => d.ok K) = true from congrArg (fun z : He.AlD => z.1) c)).1
  exact List.all_eq_true.mp c1 f (List.mem_of_getElem? h)
theorem SaysX.def_ (c : SaysX fx fn K) (i : Nat) {d : DefX} (h : fn[i]? = some d := by rfl) (hs : d.sup = none := by rfl) : ∃ fd, FunD K d.name d.qual d.params d.body d.scope (d.dvs K) (d.kws K) (d.ad K) fd := by
  have c2 := (He.ba (show ((fx.all fun f => f K) && fn.all fun d => d.ok K) = true from congrArg (fun z : He.AlD => z.1) c)).2
  have e : fn.map (fun d => fnX K (d.ad K)) = fn.map DefX.val := congrArg (fun z : He.AlD => z.2) c
  have e2 : (fn.map fun d => fnX K (d.ad K))[i]? = (fn.map DefX.val)[i]? := by rw [e]
  rw [List.getElem?_map, List.getElem?_map, h] at e2
  exact DefX.funD (Option.some.inj e2) (List.all_eq_true.mp c2 d (List.mem_of_getElem? h)) hs
end
def fGlo (x : Str) : PySem.W.Frag → Bool := fun K => (He.Fa.glo x).ok K
def fFree (x : Str) : PySem.W.Frag → Bool := fun K => (He.Fa.free x).ok K
def fInt (x : Str) (i : Int) : PySem.W.Frag → Bool := fun K => (He.Fa.int x i).ok K
def fStr (x z : Str) : PySem.W.Frag → Bool := fun K => (He.Fa.str x z).ok K
def fCls (x : Str) : PySem.W.Frag → Bool := fun K => (He.Fa.cls x).ok K
def fMkr (x : Str) : PySem.W.Frag → Bool := fun K => (He.Fa.mkr x).ok K
def fMeth (x m : Str) : PySem.W.Frag → Bool := fun K => (He.Fa.meth x m).ok K
def fNoat (x f : Str) : PySem.W.Frag → Bool := fun K => (He.Fa.noat x f).ok K
/-- a property f of the class x -/
def fProp (x f : Str) : PySem.W.Frag → Bool := fun K => let C := He.ga K x; let p := He.ma K C f
  He.eqO (PySem.W.findIn K (.ref C) f) (some (some (.ref p))) && (decide (PySem.W.specialIn K (.ref p) "__get__" = some (some (.builtin "property.__get__"))) && (decide (PySem.W.takesIn K (.ref p) = some true) &&
    (match PySem.W.recIn K p "property" with
      | some (.ref g :: _) => true
      | _ => false)))
theorem prop_ok {K : PySem.W.Frag} {x f : Str} (h : fProp x f K = true) : PropOf K (He.ga K x) f (He.ma K (He.ga K x) f) (rA "property" x f K) := by
  obtain ⟨h1, h2⟩ := He.ba h
  obtain ⟨h3, h4⟩ := He.ba h2
  obtain ⟨h5, h6⟩ := He.ba h4
  refine ⟨He.eqO_ok h1, of_decide_eq_true h3, of_decide_eq_true h5, ?_⟩
  unfold rA
  split at h6
  · rename_i g rest e
    exact ⟨rest, by rw [e]⟩
  · cases h6
end Hx
namespace Hx
open PySem PySem.Spec L2
/-- the class x has its own def m (an operator) -/
structure Own (K : PySem.W.Frag) (C : Addr) (m : Str) (g : Addr) : Prop where
  first : PySem.W.selfFirst K C = true
  at_ : PySem.W.findIn K (.ref C) m = some (some (.ref g))
  fn : PySem.W.isFn K (.ref g) = true
def fOwn (x m : Str) : PySem.W.Frag → Bool := fun K => let C := He.ga K x; let g := He.ma K C m
  PySem.W.selfFirst K C && (He.eqO (PySem.W.findIn K (.ref C) m) (some (some (.ref g))) && PySem.W.isFn K (.ref g))
theorem own_ok {K : PySem.W.Frag} {x m : Str} (h : fOwn x m K = true) : Own K (He.ga K x) m (He.ma K (He.ga K x) m) := by
  obtain ⟨h1, h2⟩ := He.ba h
  obtain ⟨h3, h4⟩ := He.ba h2
  exact ⟨h1, He.eqO_ok h3, h4⟩
/-- .. with a value of a built-in type to the right -/
def rights : List String := ["int", "NoneType", "bool", "str", "list", "tuple"]
structure OwnI (K : PySem.W.Frag) (C : Addr) (m r : Str) : Prop where
  no : PySem.W.findIn K (.ref C) r = some none
  all : ∀ T ∈ rights, (∃ fo, PySem.W.findIn K (.type T) m = some fo) ∧ (∃ ro, PySem.W.findIn K (.type T) r = some ro) ∧ PySem.W.subIn K (.type T) (.ref C) = some false
def fOwnI (x m r : Str) : PySem.W.Frag → Bool := fun K => let C := He.ga K x
  He.eqO (PySem.W.findIn K (.ref C) r) (some none) && rights.all fun T => (PySem.W.findIn K (.type T) m).isSome && ((PySem.W.findIn K (.type T) r).isSome && decide (PySem.W.subIn K (.type T) (.ref C) = some false))
theorem ownI_ok {K : PySem.W.Frag} {x m r : Str} (h : fOwnI x m r K = true) : OwnI K (He.ga K x) m r := by
  obtain ⟨h1, h2⟩ := He.ba h
  refine ⟨He.eqO_ok h1, fun T hT => ?_⟩
  obtain ⟨h3, h4⟩ := He.ba (List.all_eq_true.mp h2 T hT)
  obtain ⟨h5, h6⟩ := He.ba h4
  exact ⟨Option.isSome_iff_exists.mp h3, Option.isSome_iff_exists.mp h5, of_decide_eq_true h6⟩
/-- isinstance(v, x): instances of it, values of the built-in types -/
structure Isi (K : PySem.W.Frag) (C : Addr) : Prop where
  yes : PySem.W.kitOne K (.ref C) (.ref C) = some true
  no : ∀ t ∈ (["NoneType", "bool", "int", "str", "list", "tuple"] : List String), PySem.W.kitOne K (.type t) (.ref C) = some false
def fIsi (x : Str) : PySem.W.Frag → Bool := fun K => let C := He.ga K x
  decide (PySem.W.kitOne K (.ref C) (.ref C) = some true) && (["NoneType", "bool", "int", "str", "list", "tuple"] : List String).all fun t => decide (PySem.W.kitOne K (.type t) (.ref C) = some false)
theorem isi_ok {K : PySem.W.Frag} {x : Str} (h : fIsi x K = true) : Isi K (He.ga K x) := by
  obtain ⟨h1, h2⟩ := He.ba h
  exact ⟨of_decide_eq_true h1, fun t ht => of_decide_eq_true (List.all_eq_true.mp h2 t ht)⟩
end Hx
namespace Hx
open PySem PySem.Spec L2
/-- what isinstance asks of an instance's class -/
structure Isc (K : PySem.W.Frag) (C : Addr) : Prop where
  ca : PySem.W.findIn K (.ref C) "__class__" = some (some (.builtin "object.__class__"))
  cn : PySem.W.specialIn K (.builtin "object.__class__") "__get__" = some (some (.builtin "getset_descriptor.__get__"))
  ct : PySem.W.takesIn K (.builtin "object.__class__") = some true
  cm : PySem.W.mroIn K C (.type "object") = some true
def fIsc (x : Str) : PySem.W.Frag → Bool := fun K => let C := He.ga K x
  He.eqO (PySem.W.findIn K (.ref C) "__class__") (some (some (.builtin "object.__class__"))) && (decide (PySem.W.specialIn K (.builtin "object.__class__") "__get__" = some (some (.builtin "getset_descriptor.__get__"))) && (decide (PySem.W.takesIn K (.builtin "object.__class__") = some true) && decide (PySem.W.mroIn K C (.type "object") = some true)))
theorem isc_ok {K : PySem.W.Frag} {x : Str} (h : fIsc x K = true) : Isc K (He.ga K x) := by
  obtain ⟨h1, h2⟩ := He.ba h
  obtain ⟨h3, h4⟩ := He.ba h2
  obtain ⟨h5, h6⟩ := He.ba h4
  exact ⟨He.eqO_ok h1, of_decide_eq_true h3, of_decide_eq_true h5, of_decide_eq_true h6⟩
end Hx
namespace Hx
open PySem PySem.Spec L2
end Hx
namespace Hx
open PySem PySem.Spec L2
def oexB (K : PySem.W.Frag) (C : Addr) : Bool := match K.lookup C with
  | some ⟨.type "type", _, .cls cd, sl⟩ => (match cd.mro, sl.toList with
      | .ref C' :: bm, [_, _, _, _, some (.builtin n), _] => decide (C' = C) && (decide (n = "ValueError.__new__") && (!cd.hasDel && (cd.hasDict && HandSPX.refsVE bm)))
      | _, _ => false)
  | _ => false
theorem oexB_ok {K : PySem.W.Frag} {C : Addr} (h : oexB K C = true) : ∃ nm q N bs bm sn sub ab col dd k0 k1 k2 k3 k5, K.lookup C = some (excClassObj nm q C N bs bm true sn sub ab col dd k0 k1 k2 k3 k5 "ValueError.__new__") ∧ PySem.HandSPX.refsVE bm = true := by
  unfold oexB at h
  split at h
  · rename_i dd cd sl ho
    split at h
    · rename_i C' bm k0 k1 k2 k3 n k5 hm hs
      obtain ⟨h1, h⟩ := He.ba h
      obtain ⟨h2, h⟩ := He.ba h
      obtain ⟨h3, h⟩ := He.ba h
      obtain ⟨h4, h5⟩ := He.ba h
      have h1 := of_decide_eq_true h1
      have h2 := of_decide_eq_true h2
      subst h1 h2
      obtain ⟨nm, bs, mro, ns, qn, hd, sn, sub, ab, col, del⟩ := cd
      dsimp only at hm h3 h4
      subst hm h4
      have h3 : del = false := by simpa using h3
      subst h3
      have hsl : sl = #[k0, k1, k2, k3, some (.builtin "ValueError.__new__"), k5] := by
        obtain ⟨l⟩ := sl
        simp only at hs
        subst hs
        rfl
      subst hsl
      exact ⟨_, _, _, _, _, _, _, _, _, _, _, _, _, _, _, ho, h5⟩
    · cases h
  · cases h
def errNames : List Str := ["code", "at", "most", "name", "user", "limit", "line", "given"]
/-- all that raising and catching such an exception asks of its class -/
def fErr (x : Str) : PySem.W.Frag → Bool := fun K => let C := He.ga K x; let f := He.ma K C "__init__"
  oexB K C && (He.eqO (PySem.W.findIn K (.ref C) "__setattr__") (some (some (.builtin "object.__setattr__"))) && (decide (PySem.W.subIn K (.ref C) (.type "BaseException") = some true) && (decide (PySem.W.typeIn K (.ref C) = some (.type "type")) && (PySem.W.keepIn K (.ref C) &&
  (decide (PySem.W.nsIn K PySem.cStatics "thirdparty.any" = some none) && (He.eqO (PySem.W.ks_superIn K C C "__init__") (some (some (.builtin "ValueError.__init__"))) && (decide (PySem.W.mroIn K C (.ref C) = some true) && (decide (PySem.W.subIn K (.ref C) (.type "ValueError") = some true) &&
  (He.eqO (PySem.W.findIn K (.ref C) "__init__") (some (some (.ref f))) && (decide (PySem.W.typeIn K (.ref f) = some (.type "function")) && (L2.xfB K C && (errNames.all fun n => He.eqO (PySem.W.findIn K (.ref C) n) (some none)))))))))))))
structure ErrX (K : PySem.W.Frag) (C f : Addr) : Prop where
  ox : OexC K C
  st : PySem.W.nsIn K PySem.cStatics "thirdparty.any" = some none
  su : PySem.W.ks_superIn K C C "__init__" = some (some (.builtin "ValueError.__init__"))
  mr : PySem.W.mroIn K C (.ref C) = some true
  ve : PySem.W.subIn K (.ref C) (.type "ValueError") = some true
  iC : PySem.W.findIn K (.ref C) "__init__" = some (some (.ref f))
  tI : PySem.W.typeIn K (.ref f) = some (.type "function")
  xf : XfC K C
  na : ∀ n ∈ errNames, PySem.W.findIn K (.ref C) n = some none
theorem err_ok {K : PySem.W.Frag} {x : Str} (h : fErr x K = true) : ErrX K (He.ga K x) (He.ma K (He.ga K x) "__init__") := by
  obtain ⟨h1, h⟩ := He.ba h
  obtain ⟨h2, h⟩ := He.ba h
  obtain ⟨h3, h⟩ := He.ba h
  obtain ⟨h4, h⟩ := He.ba h
  obtain ⟨h5, h⟩ := He.ba h
  obtain ⟨h6, h⟩ := He.ba h
  obtain ⟨h7, h⟩ := He.ba h
  obtain ⟨h8, h⟩ := He.ba h
  obtain ⟨h9, h⟩ := He.ba h
  obtain ⟨h10, h⟩ := He.ba h
  obtain ⟨h11, h⟩ := He.ba h
  obtain ⟨h12, h13⟩ := He.ba h
  exact ⟨⟨oexB_ok h1, He.eqO_ok h2, of_decide_eq_true h3, of_decide_eq_true h4, h5⟩, of_decide_eq_true h6, He.eqO_ok h7, of_decide_eq_true h8, of_decide_eq_true h9, He.eqO_ok h10, of_decide_eq_true h11, xfB_ok h12, fun n hn => He.eqO_ok (List.all_eq_true.mp h13 n hn)⟩
end Hx
namespace Hx
open PySem PySem.Spec L2
end Hx
namespace Hx
open PySem PySem.Spec L2
end Hx
namespace Hx
open PySem PySem.Spec L2
def relB : V → Value → Bool
  | .str a, .str b _ => decide (a = b)
  | .int a, .int b _ => decide (a = b)
  | .bl a, .bool b => decide (a = b)
  | .non, .none => true
  | _, _ => false
/-- a constant read off the class itself: C.f -/
def fCv (x f : Str) (v : V) : PySem.W.Frag → Bool := fun K => let C := He.ga K x
  PySem.W.readsIn K C (.type "type") && (He.eqO (PySem.W.specialIn K (.ref C) "__getattribute__") (some (some (.builtin "type.__getattribute__"))) && (match PySem.W.findCls K (.ref C) (.type "type") f with
    | some (.val u) => relB v u
    | _ => false))
end Hx
namespace Hx
open PySem PySem.Spec L2
/-- a tuple of texts of the module -/
def strsB : List Str → List Value → Bool
  | [], [] => true
  | s :: ss, .str z _ :: vs => decide (s = z) && strsB ss vs
  | _, _ => false
def fTup (x : Str) (ss : List Str) : PySem.W.Frag → Bool := fun K => (He.Fa.glo x).ok K && match K.lookup (He.ga K x) with
  | some ⟨.type t, _, .seq its _, _⟩ => decide (t = "tuple") && (decide (its.size ≤ 1000) && strsB ss its.toList)
  | _ => false
end Hx
namespace Hx
open PySem PySem.Spec L2
end Hx
namespace Hx
open PySem PySem.Spec L2
def fTabM (c m : Str) : PySem.W.Frag → Bool := fun K => match K.lookup (He.ma K (He.ga K c) m) with
  | some ⟨_, _, .func fd, _⟩ => (match fd.code with
    | .ref c => (match K.lookup c with
      | some ⟨_, _, .fields vs, _⟩ => (match (vs[11]? : Option Value) with
        | some (.ref P) => PySem.W.codeHdIn K c P && (K.lookup P).isNone
        | _ => false)
      | _ => false)
    | _ => false)
  | _ => false
def tabMA (c m : Str) (K : PySem.W.Frag) : Option Value := match K.lookup (He.ma K (He.ga K c) m) with
  | some ⟨_, _, .func fd, _⟩ => (match fd.code with
    | .ref c => (match K.lookup c with
      | some ⟨_, _, .fields vs, _⟩ => vs[11]?
      | _ => none)
    | _ => none)
  | _ => none
theorem tabM_ok {K : PySem.W.Frag} {x m : Str} (h : fTabM x m K = true) : ∃ (o : Obj) (fd : FuncData) (c P : Addr) (e : Value) (dd : Option Addr) (vs : Array Value) (sl : Array (Option Value)),
    K.lookup (He.ma K (He.ga K x) m) = some o ∧ o.data = .func fd ∧ fd.code = .ref c ∧ K.lookup c = some ⟨e, dd, .fields vs, sl⟩ ∧ vs[11]? = some (.ref P) ∧ PySem.W.codeHdIn K c P = true ∧ K.lookup P = none ∧ tabMA x m K = some (.ref P) := by
  unfold fTabM at h
  unfold tabMA
  split at h
  · rename_i o1 o2 fd o4 e1
    rw [e1]
    split at h
    · rename_i c e2
      split at h
      · rename_i e dd vs sl e3
        split at h
        · rename_i P e4
          obtain ⟨h1, h2⟩ := He.ba h
          refine ⟨_, fd, c, P, e, dd, vs, sl, rfl, rfl, e2, e3, e4, h1, Option.isNone_iff_eq_none.mp h2, ?_⟩
          exact e4
        · cases h
      · cases h
    · cases h
  · cases h
def emptyO : Obj := { cls := .none, data := .fields #[] }
/-- the table of the method stands empty -/
def emptyTab (g : Addr → Option Obj) (K : PySem.W.Frag) (p : Str × Str) : Bool := match tabMA p.1 p.2 K with
  | some (.ref P) => (match g P with
    | some ⟨.none, none, .fields ⟨[]⟩, ⟨[]⟩⟩ => true
    | _ => false)
  | _ => false
theorem emptyTab_ok {g : Addr → Option Obj} {K : PySem.W.Frag} {p : Str × Str} (h : emptyTab g K p = true) {P : Addr} (e : tabMA p.1 p.2 K = some (.ref P)) : g P = some emptyO := by
  unfold emptyTab at h
  rw [e] at h
  dsimp only at h
  split at h
  · rename_i z
    exact z
  · cases h
def obsYG (n : (Addr → Option Obj) → List Addr) (fx : List (PySem.W.Frag → Bool)) (fn : List DefX) (ms : List (Str × Str)) (g : Addr → Option Obj) : He.AlD := let K := He.frG g (n g); let o := obsX fx fn K; (o.1 && ms.all (emptyTab g K), o.2)
def hookY (n : (Addr → Option Obj) → List Addr) (fx : List (PySem.W.Frag → Bool)) (fn : List DefX) (ms : List (Str × Str)) : PySem.W.Hook where
  α := He.AlD
  obs := fun s => obsYG n fx fn ms s.heap.get?
  val := fun _ => valX fn
  says := fun _ h => ∃ K : PySem.W.Frag, K.In h ∧ SaysX fx fn K ∧ ∀ p ∈ ms, ∀ P : Addr, tabMA p.1 p.2 K = some (.ref P) → h.get? P = some emptyO
  of := fun _ s e => by
    obtain ⟨e1, e2⟩ := Prod.mk.inj (show ((obsX fx fn (He.frG s.heap.get? (n s.heap.get?))).1 && ms.all (emptyTab s.heap.get? (He.frG s.heap.get? (n s.heap.get?))), (obsX fx fn (He.frG s.heap.get? (n s.heap.get?))).2) = (true, (valX fn).2) from e)
    obtain ⟨h1, h2⟩ := He.ba e1
    exact ⟨_, He.frG_in, Prod.ext h1 e2, fun p hp P eP => emptyTab_ok (List.all_eq_true.mp h2 p hp) eP⟩
  keeps := fun _ _ _ ⟨K, hK, c, t⟩ k => ⟨K, PySem.W.Frag.In.keeps hK k, c, fun p hp P e => k _ _ (t p hp P e)⟩
theorem obsYG_eq {n : (Addr → Option Obj) → List Addr} {fx : List (PySem.W.Frag → Bool)} {fn : List DefX} {ms : List (Str × Str)} {g : Addr → Option Obj} {s : Shared} (h : ∀ a, g a = s.heap.get? a) : obsYG n fx fn ms g = (hookY n fx fn ms).obs s := by
  have e : g = s.heap.get? := funext h
  rw [e] <;> rfl
end Hx
set_option maxHeartbeats 0
namespace Hd
open PySem PySem.Spec PyProof.Rows L2
def top (i : Nat) : Stmt := PySem.Challenge.pw_evenpicks_k32_names_and_forms_told.main.body.getD i (.Pass ⟨0, 0, 0, 0⟩)
abbrev s_is_number : Stmt := top 8
def d_is_number : Hx.DefX := ⟨Hx.gA "is_number", "is_number", "is_number", defArgs s_is_number, defBody s_is_number, defScope s_is_number, [], [], none⟩
abbrev s_check_hands : Stmt := top 10
def d_check_hands : Hx.DefX := ⟨Hx.gA "check_hands", "check_hands", "check_hands", defArgs s_check_hands, defBody s_check_hands, defScope s_check_hands, [], [], none⟩
abbrev s_is_name : Stmt := top 23
def d_is_name : Hx.DefX := ⟨Hx.gA "is_name", "is_name", "is_name", defArgs s_is_name, defBody s_is_name, defScope s_is_name, [], [], none⟩
abbrev s_taken : Stmt := top 25
def d_taken : Hx.DefX := ⟨Hx.gA "taken", "taken", "taken", defArgs s_taken, defBody s_taken, defScope s_taken, [], [], none⟩
abbrev s_head_at : Stmt := top 26
def d_head_at : Hx.DefX := ⟨Hx.gA "head_at", "head_at", "head_at", defArgs s_head_at, defBody s_head_at, defScope s_head_at, [], [], none⟩
abbrev s_run_at : Stmt := top 27
def d_run_at : Hx.DefX := ⟨Hx.gA "run_at", "run_at", "run_at", defArgs s_run_at, defBody s_run_at, defScope s_run_at, [], [], none⟩
abbrev s_count_at : Stmt := top 28
def d_count_at : Hx.DefX := ⟨Hx.gA "count_at", "count_at", "count_at", defArgs s_count_at, defBody s_count_at, defScope s_count_at, [], [], none⟩
abbrev s_first_at : Stmt := top 29
def d_first_at : Hx.DefX := ⟨Hx.gA "first_at", "first_at", "first_at", defArgs s_first_at, defBody s_first_at, defScope s_first_at, [], [], none⟩
abbrev s_form_at : Stmt := top 30
def d_form_at : Hx.DefX := ⟨Hx.gA "form_at", "form_at", "form_at", defArgs s_form_at, defBody s_form_at, defScope s_form_at, [], [], none⟩
abbrev s_tree_in : Stmt := top 31
def d_tree_in : Hx.DefX := ⟨Hx.gA "tree_in", "tree_in", "tree_in", defArgs s_tree_in, defBody s_tree_in, defScope s_tree_in, [], [], none⟩
abbrev s_parts_of : Stmt := top 32
def d_parts_of : Hx.DefX := ⟨Hx.gA "parts_of", "parts_of", "parts_of", defArgs s_parts_of, defBody s_parts_of, defScope s_parts_of, [], [], none⟩
abbrev s_text_of : Stmt := top 33
def d_text_of : Hx.DefX := ⟨Hx.gA "text_of", "text_of", "text_of", defArgs s_text_of, defBody s_text_of, defScope s_text_of, [], [], none⟩
abbrev s_depth_of : Stmt := top 34
def d_depth_of : Hx.DefX := ⟨Hx.gA "depth_of", "depth_of", "depth_of", defArgs s_depth_of, defBody s_depth_of, defScope s_depth_of, [], [], none⟩
abbrev s_found_in : Stmt := top 35
def d_found_in : Hx.DefX := ⟨Hx.gA "found_in", "found_in", "found_in", defArgs s_found_in, defBody s_found_in, defScope s_found_in, [], [], none⟩
abbrev s_Form___init__ : Stmt := inClass (top 36) 2
def d_Form___init__ : Hx.DefX := ⟨Hx.mA "Form" "__init__", "__init__", "Form.__init__", defArgs s_Form___init__, defBody s_Form___init__, defScope s_Form___init__, [], [], none⟩
abbrev s_Form_text : Stmt := inClass (top 36) 4
def d_Form_text : Hx.DefX := ⟨Hx.rA "property" "Form" "text", "text", "Form.text", defArgs s_Form_text, defBody s_Form_text, defScope s_Form_text, [], [], none⟩
abbrev s_Form_depth : Stmt := inClass (top 36) 5
def d_Form_depth : Hx.DefX := ⟨Hx.rA "property" "Form" "depth", "depth", "Form.depth", defArgs s_Form_depth, defBody s_Form_depth, defScope s_Form_depth, [], [], none⟩
abbrev s_Form_kind : Stmt := inClass (top 36) 6
def d_Form_kind : Hx.DefX := ⟨Hx.rA "property" "Form" "kind", "kind", "Form.kind", defArgs s_Form_kind, defBody s_Form_kind, defScope s_Form_kind, [], [], none⟩
abbrev s_Form_parts : Stmt := inClass (top 36) 7
def d_Form_parts : Hx.DefX := ⟨Hx.mA "Form" "parts", "parts", "Form.parts", defArgs s_Form_parts, defBody s_Form_parts, defScope s_Form_parts, [], [], none⟩
abbrev s_Form_names : Stmt := inClass (top 36) 8
def d_Form_names : Hx.DefX := ⟨Hx.mA "Form" "names", "names", "Form.names", defArgs s_Form_names, defBody s_Form_names, defScope s_Form_names, [], [], none⟩
abbrev s_Form_counts : Stmt := inClass (top 36) 9
def d_Form_counts : Hx.DefX := ⟨Hx.mA "Form" "counts", "counts", "Form.counts", defArgs s_Form_counts, defBody s_Form_counts, defScope s_Form_counts, [], [], none⟩
abbrev s_Form___eq__ : Stmt := inClass (top 36) 15
def d_Form___eq__ : Hx.DefX := ⟨Hx.mA "Form" "__eq__", "__eq__", "Form.__eq__", defArgs s_Form___eq__, defBody s_Form___eq__, defScope s_Form___eq__, [], [], none⟩
abbrev s_Form___repr__ : Stmt := inClass (top 36) 16
def d_Form___repr__ : Hx.DefX := ⟨Hx.mA "Form" "__repr__", "__repr__", "Form.__repr__", defArgs s_Form___repr__, defBody s_Form___repr__, defScope s_Form___repr__, [], [], none⟩
abbrev s__law_bag : Stmt := top 38
def d__law_bag : Hx.DefX := ⟨Hx.gA "_law_bag", "_law_bag", "_law_bag", defArgs s__law_bag, defBody s__law_bag, defScope s__law_bag, [], [], none⟩
abbrev s__law_pull : Stmt := top 39
def d__law_pull : Hx.DefX := ⟨Hx.gA "_law_pull", "_law_pull", "_law_pull", defArgs s__law_pull, defBody s__law_pull, defScope s__law_pull, [], [], none⟩
abbrev s__law_pick : Stmt := top 40
def d__law_pick : Hx.DefX := ⟨Hx.gA "_law_pick", "_law_pick", "_law_pick", defArgs s__law_pick, defBody s__law_pick, defScope s__law_pick, [], [], none⟩
abbrev s__law_same : Stmt := top 41
def d__law_same : Hx.DefX := ⟨Hx.gA "_law_same", "_law_same", "_law_same", defArgs s__law_same, defBody s__law_same, defScope s__law_same, [], [], none⟩
abbrev s__law_hands : Stmt := top 42
def d__law_hands : Hx.DefX := ⟨Hx.gA "_law_hands", "_law_hands", "_law_hands", defArgs s__law_hands, defBody s__law_hands, defScope s__law_hands, [], [], none⟩
abbrev s__law_digits : Stmt := top 43
def d__law_digits : Hx.DefX := ⟨Hx.gA "_law_digits", "_law_digits", "_law_digits", defArgs s__law_digits, defBody s__law_digits, defScope s__law_digits, [], [], none⟩
abbrev s__law_tree : Stmt := top 44
def d__law_tree : Hx.DefX := ⟨Hx.gA "_law_tree", "_law_tree", "_law_tree", defArgs s__law_tree, defBody s__law_tree, defScope s__law_tree, [], [], none⟩
abbrev s__law_text : Stmt := top 45
def d__law_text : Hx.DefX := ⟨Hx.gA "_law_text", "_law_text", "_law_text", defArgs s__law_text, defBody s__law_text, defScope s__law_text, [], [], none⟩
abbrev s__law_depth : Stmt := top 46
def d__law_depth : Hx.DefX := ⟨Hx.gA "_law_depth", "_law_depth", "_law_depth", defArgs s__law_depth, defBody s__law_depth, defScope s__law_depth, [], [], none⟩
abbrev s__law_marks : Stmt := top 47
def d__law_marks : Hx.DefX := ⟨Hx.gA "_law_marks", "_law_marks", "_law_marks", defArgs s__law_marks, defBody s__law_marks, defScope s__law_marks, [], [], none⟩
abbrev s_law : Stmt := top 48
def d_law : Hx.DefX := ⟨Hx.gA "law", "law", "law", defArgs s_law, defBody s_law, defScope s_law, [], [], none⟩
abbrev s_InvalidHands___init__ : Stmt := inClass (top 3) 0
def d_InvalidHands___init__ : Hx.DefX := ⟨Hx.mA "InvalidHands" "__init__", "__init__", "InvalidHands.__init__", defArgs s_InvalidHands___init__, defBody s_InvalidHands___init__, defScope s_InvalidHands___init__, [], [], some ("InvalidHands", PySem.Challenge.pw_evenpicks_k32_names_and_forms_told.main.file)⟩
abbrev s_InvalidForm___init__ : Stmt := inClass (top 5) 0
def d_InvalidForm___init__ : Hx.DefX := ⟨Hx.mA "InvalidForm" "__init__", "__init__", "InvalidForm.__init__", defArgs s_InvalidForm___init__, defBody s_InvalidForm___init__, defScope s_InvalidForm___init__, [], [], some ("InvalidForm", PySem.Challenge.pw_evenpicks_k32_names_and_forms_told.main.file)⟩
def fn0 : List Hx.DefX := [d_is_number, d_check_hands, d_is_name, d_taken, d_head_at, d_run_at, d_count_at, d_first_at, d_form_at, d_tree_in, d_parts_of, d_text_of, d_depth_of, d_found_in, d_Form___init__, d_Form_text, d_Form_depth, d_Form_kind, d_Form_parts, d_Form_names, d_Form_counts, d_Form___eq__, d_Form___repr__, d__law_bag, d__law_pull, d__law_pick, d__law_same, d__law_hands, d__law_digits, d__law_tree]
def fn1 : List Hx.DefX := [d__law_text, d__law_depth, d__law_marks, d_law, d_InvalidHands___init__, d_InvalidForm___init__]
def fn : List Hx.DefX := fn0 ++ fn1
def fx0 : List (PySem.W.Frag → Bool) := [Hx.fGlo "PickError", Hx.fGlo "InvalidHands", Hx.fGlo "InvalidForm", Hx.fGlo "is_number", Hx.fGlo "check_hands", Hx.fStr "LETTERS" "abcdefghijklmnopqrstuvwxyz", Hx.fStr "FIGURES" "0123456789", Hx.fInt "MOST_NAME" 8, Hx.fInt "MOST_WORD" 60, Hx.fInt "MOST_THEN" 6, Hx.fInt "MOST_FIGURES" 30, Hx.fInt "MOST_DOUBLE" 8, Hx.fInt "DEEPEST" 8, Hx.fInt "LONGEST" 400, Hx.fTup "COUNTS" ["m", "n"], Hx.fTup "HEADS" ["then(", "again(", "back(", "turned(", "double(", "with(", "use("], Hx.fGlo "is_name", Hx.fGlo "taken", Hx.fGlo "head_at", Hx.fGlo "run_at", Hx.fGlo "count_at", Hx.fGlo "first_at", Hx.fGlo "form_at", Hx.fGlo "tree_in", Hx.fGlo "parts_of", Hx.fGlo "text_of", Hx.fGlo "depth_of", Hx.fGlo "found_in", Hx.fGlo "Form", Hx.fGlo "_law_bag"]
def fx1 : List (PySem.W.Frag → Bool) := [Hx.fGlo "_law_pull", Hx.fGlo "_law_pick", Hx.fGlo "_law_same", Hx.fGlo "_law_hands", Hx.fGlo "_law_digits", Hx.fGlo "_law_tree", Hx.fGlo "_law_text", Hx.fGlo "_law_depth", Hx.fGlo "_law_marks", Hx.fGlo "law", Hx.fFree "isinstance", Hx.fFree "int", Hx.fFree "bool", Hx.fFree "str", Hx.fFree "list", Hx.fFree "tuple", Hx.fFree "len", Hx.fFree "range", Hx.fFree "zip", Hx.fFree "min", Hx.fFree "max", Hx.fFree "all", Hx.fFree "set", Hx.fFree "sorted", Hx.fFree "super", Hx.fFree "repr", Hx.fErr "InvalidHands", Hx.fErr "InvalidForm", Hx.fCls "Form", Hx.fIsi "Form"]
def fx2 : List (PySem.W.Frag → Bool) := [Hx.fIsc "Form", Hx.fMkr "Form", Hx.fCv "Form" "MOST_DEPTH" (.int 8), Hx.fCv "Form" "MOST_LENGTH" (.int 400), Hx.fNoat "Form" "tree", Hx.fNoat "Form" "hands", Hx.fNoat "Form" "own_text", Hx.fProp "Form" "text", Hx.fProp "Form" "depth", Hx.fProp "Form" "kind", Hx.fMeth "Form" "parts", Hx.fMeth "Form" "names", Hx.fMeth "Form" "counts", Hx.fOwnI "Form" "__add__" "__radd__", Hx.fOwn "Form" "__eq__", Hx.fOwn "Form" "__repr__", Hx.fTabM "Form" "counts"]
def fx : List (PySem.W.Frag → Bool) := fx0 ++ fx1 ++ fx2
def names0 : List PySem.Str := [("_wall" : PySem.Str), ("PickError" : PySem.Str), ("InvalidHands" : PySem.Str), ("InvalidCount" : PySem.Str), ("InvalidForm" : PySem.Str), ("Unlike" : PySem.Str), ("is_number" : PySem.Str), ("check_hands" : PySem.Str), ("LETTERS" : PySem.Str), ("FIGURES" : PySem.Str), ("MOST_NAME" : PySem.Str), ("MOST_WORD" : PySem.Str), ("MOST_THEN" : PySem.Str), ("MOST_FIGURES" : PySem.Str), ("MOST_DOUBLE" : PySem.Str), ("DEEPEST" : PySem.Str), ("LONGEST" : PySem.Str), ("COUNTS" : PySem.Str), ("HEADS" : PySem.Str), ("is_name" : PySem.Str), ("is_count" : PySem.Str), ("taken" : PySem.Str), ("head_at" : PySem.Str), ("run_at" : PySem.Str), ("count_at" : PySem.Str), ("first_at" : PySem.Str), ("form_at" : PySem.Str), ("tree_in" : PySem.Str), ("parts_of" : PySem.Str), ("text_of" : PySem.Str)]
def names1 : List PySem.Str := [("depth_of" : PySem.Str), ("found_in" : PySem.Str), ("Form" : PySem.Str), ("_law_bag" : PySem.Str), ("_law_pull" : PySem.Str), ("_law_pick" : PySem.Str), ("_law_same" : PySem.Str), ("_law_hands" : PySem.Str), ("_law_digits" : PySem.Str), ("_law_tree" : PySem.Str), ("_law_text" : PySem.Str), ("_law_depth" : PySem.Str), ("_law_marks" : PySem.Str)]
def names : List PySem.Str := names0 ++ names1
abbrev R : PySem.W.OpenRow := PySem.W.OpenLaw.row PySem.Challenge.rw_evenpicks_k32_names_and_forms_told
def as0 : List Addr := [3, 2, 6, 4, 21, 31, 53, 74, 95, 116, 125, 132, 133, 134, 139, 146, 153, 158, 165, 172, 179, 184, 191, 196, 201, 206, 213, 332, 341, 348, 355, 360, 367, 372, 377, 382, 387, 394, 399, 0, 20, 30, 52, 73, 94, 115, 124, 131, 138, 145, 152, 157, 164, 171, 178, 183, 190, 195, 200, 205]
def as1 : List Addr := [212, 331, 340, 347, 354, 359, 366, 371, 376, 381, 386, 393, 398, 15, 17, 18, 19, 29, 32, 50, 51, 71, 72, 92, 93, 113, 114, 119, 121, 122, 123, 126, 128, 129, 130, 135, 137, 140, 142, 143, 144, 147, 149, 150, 151, 154, 156, 159, 161, 162, 163, 166, 168, 169, 170, 173, 175, 176, 177, 180]
def as2 : List Addr := [182, 185, 187, 188, 189, 192, 194, 197, 199, 202, 204, 207, 209, 210, 211, 227, 236, 245, 253, 261, 266, 273, 280, 287, 294, 301, 308, 315, 322, 329, 330, 333, 334, 337, 339, 342, 344, 345, 346, 349, 351, 352, 353, 356, 358, 361, 363, 364, 365, 368, 370, 373, 375, 378, 380, 383, 385, 388, 390, 391]
def as3 : List Addr := [392, 395, 397, 49, 38, 70, 59, 91, 80, 112, 101, 226, 234, 235, 244, 252, 260, 265, 272, 279, 286, 293, 300, 307, 314, 321, 328, 44, 46, 47, 48, 65, 67, 68, 69, 86, 88, 89, 90, 107, 109, 110, 111, 221, 223, 224, 225, 233, 237, 243, 251, 259, 262, 264, 267, 269, 270, 271, 274, 276]
def as4 : List Addr := [277, 278, 281, 283, 284, 285, 288, 290, 291, 292, 295, 297, 298, 299, 302, 304, 305, 306, 309, 311, 312, 313, 316, 318, 319, 320, 323, 325, 326, 327]
def asl : List Addr := as0 ++ (as1 ++ (as2 ++ (as3 ++ (as4))))
def lms : List (Str × Str) := [("Form", "counts")]
abbrev hk : PySem.W.Hook := Hx.hookY (fun _ => asl) fx fn lms
def ob (s : PySem.W.SharedT) : He.AlD := Hx.obsYG (fun _ => asl) fx fn lms (HandSHeadRun.getT s)
theorem ob_eq (s : PySem.W.SharedT) : ob s = hk.obs s.abs := Hx.obsYG_eq (HandSHeadRun.getT_eq s)
theorem run (w : World) : HandSHeadRun.RunEq R (PySem.W.view R.prog [48]) hk ob 10100 names w := by
  intro os
  kernel_rfl
end Hd
set_option maxHeartbeats 4000000
namespace DL
open PySem PySem.Spec L2
/-- a lambda of the text: what its making is given; its defaults (whole numbers) -/
structure LamQ where
  qual : Str
  params : Arguments
  body : Expr
  scope : Scope
  dfl : List Int
/-- the tables of code objects that lambdas are entered into; the lambdas of the text -/
class TbC where
  ts : List (Addr × Str)
  lq : Nat → LamQ
inductive D where
  | non | bl (b : Bool) | int (i : Int) | str (s : Str) | ty (n : String) | adr (a : Addr) | bag
  | fn (i : Nat) (cl : List (Str × Addr)) (z : Option (Option Addr × Hp))
  | lst (xs : List D) | tup (xs : List D) | obj (C : Addr) (ks : List Str) (xs : List D) | exc (a dx C : Addr) (ks : List Str) (xs : List D)
  | dct (ks : List Key) (xs : List D) | dcT (ks : List (List Key)) (xs : List D)
variable [TbC]
/-- a lambda's function object at f -/
def LamO (f : Addr) (i : Nat) (cl : List (Str × Addr)) (dV : Value) (c' : Addr) : HO := .ext fun h => ∃ doc pm ctv : Value,
  h.get? f = some (PySem.W.kdv_obj "<lambda>" (TbC.lq i).qual (TbC.lq i).params (.expr (TbC.lq i).body) (TbC.lq i).scope (L2.cloFrom cl (TbC.lq i).scope.names []) dV doc pm c' ctv)
def DfOk (S : Hp) (dV : Value) (ns : List Int) : Prop := (ns = [] ∧ dV = .none) ∨ ns ≠ [] ∧ ∃ t, dV = .ref t ∧ S t = some (.tup (ns.map V.int))
theorem DfOk.mono {S S' : Hp} {dV : Value} {ns : List Int} (h : Same S S') (d : DfOk S dV ns) : DfOk S' dV ns := d.imp id fun ⟨n, t, e, q⟩ => ⟨n, t, e, h _ _ q⟩
mutual
def Rep (B : Option Addr) (S : Hp) : D → V → Prop
  | .non, v => v = .non
  | .bl b, v => v = .bl b
  | .int i, v => v = .int i
  | .str s, v => v = .str s
  | .ty n, v => v = .ty n
  | .adr a, v => v = .ref a
  | .bag, v => ∃ b, B = some b ∧ v = .ref b
  | .fn i cl z, v => ∃ f dV c', v = .ref f ∧ S f = some (LamO f i cl dV c') ∧ S c' = some (LamX.CodeO c' (TbC.lq i).qual) ∧ DfOk S dV (TbC.lq i).dfl ∧ ∀ q, z = some q → B = q.1 ∧ Same q.2 S
  | .lst ds, v => ∃ a vs, v = .ref a ∧ S a = some (.lst vs) ∧ RepL B S ds vs
  | .tup ds, v => ∃ a vs, v = .ref a ∧ S a = some (.tup vs) ∧ RepL B S ds vs
  | .obj C ks ds, v => ∃ a dx vs, v = .ref a ∧ S a = some (.ins C dx (ks.zip vs)) ∧ S dx = some (.own a) ∧ ds.length = ks.length ∧ RepL B S ds vs
  | .exc a dx C ks ds, v => ∃ vs, v = .ref a ∧ S dx = some (.xd (ks.zip vs)) ∧ ds.length = ks.length ∧ RepL B S ds vs
  | .dct ks ds, v => ∃ a vs, v = .ref a ∧ S a = some (.dK (ks.zip vs)) ∧ ds.length = ks.length ∧ RepL B S ds vs
  | .dcT ks ds, v => ∃ a vs, v = .ref a ∧ S a = some (.dT (ks.zip vs)) ∧ ds.length = ks.length ∧ RepL B S ds vs
def RepL (B : Option Addr) (S : Hp) : List D → List V → Prop
  | [], vs => vs = []
  | d :: ds, vs => ∃ v ws, vs = v :: ws ∧ Rep B S d v ∧ RepL B S ds ws
end
mutual
theorem rep_mono {B : Option Addr} {S S' : Hp} (h : Same S S') : ∀ (d : D) (v : V), Rep B S d v → Rep B S' d v
  | .non, _, r => r
  | .bl _, _, r => r
  | .int _, _, r => r
  | .str _, _, r => r
  | .ty _, _, r => r
  | .adr _, _, r => r
  | .bag, _, r => r
  | .fn i cl z, v, r => by
    rw [Rep] at r ⊢
    obtain ⟨f, dV, c', e, q, q2, df, n⟩ := r
    exact ⟨f, dV, c', e, h _ _ q, h _ _ q2, df.mono h, fun y hy => ⟨(n y hy).1, (n y hy).2.trans h⟩⟩
  | .lst ds, v, r => by
    rw [Rep] at r ⊢
    obtain ⟨a, vs, e, q, l⟩ := r
    exact ⟨a, vs, e, h _ _ q, repL_mono h ds vs l⟩
  | .tup ds, v, r => by
    rw [Rep] at r ⊢
    obtain ⟨a, vs, e, q, l⟩ := r
    exact ⟨a, vs, e, h _ _ q, repL_mono h ds vs l⟩
  | .obj C ks ds, v, r => by
    rw [Rep] at r ⊢
    obtain ⟨a, dx, vs, e, q, q2, n, l⟩ := r
    exact ⟨a, dx, vs, e, h _ _ q, h _ _ q2, n, repL_mono h ds vs l⟩
  | .exc a dx C ks ds, v, r => by
    rw [Rep] at r ⊢
    obtain ⟨vs, e, q, n, l⟩ := r
    exact ⟨vs, e, h _ _ q, n, repL_mono h ds vs l⟩
  | .dct ks ds, v, r => by
    rw [Rep] at r ⊢
    obtain ⟨a, vs, e, q, n, l⟩ := r
    exact ⟨a, vs, e, h _ _ q, n, repL_mono h ds vs l⟩
  | .dcT ks ds, v, r => by
    rw [Rep] at r ⊢
    obtain ⟨a, vs, e, q, n, l⟩ := r
    exact ⟨a, vs, e, h _ _ q, n, repL_mono h ds vs l⟩
theorem repL_mono {B : Option Addr} {S S' : Hp} (h : Same S S') : ∀ (ds : List D) (vs : List V), RepL B S ds vs → RepL B S' ds vs
  | [], _, r => r
  | d :: ds, vs, r => by
    rw [RepL] at r ⊢
    obtain ⟨v, ws, e, q, l⟩ := r
    exact ⟨v, ws, e, rep_mono h d v q, repL_mono h ds ws l⟩
end
section
variable {B : Option Addr} {S S' : Hp} {d : D} {ds es : List D} {v : V} {vs ws : List V}
theorem repL_nil : RepL B S [] [] := rfl
theorem repL_cons (h : Rep B S d v) (t : RepL B S ds vs) : RepL B S (d :: ds) (v :: vs) := ⟨v, vs, rfl, h, t⟩
theorem repL_nil_of (h : RepL B S [] vs) : vs = [] := h
theorem repL_cons_of (h : RepL B S (d :: ds) vs) : ∃ v ws, vs = v :: ws ∧ Rep B S d v ∧ RepL B S ds ws := h
theorem RepL.length : ∀ {ds : List D} {vs : List V}, RepL B S ds vs → vs.length = ds.length
  | [], vs, h => by rw [repL_nil_of h]; rfl
  | d :: ds, vs, h => by
    obtain ⟨v, ws, rfl, _, t⟩ := repL_cons_of h
    rw [List.length_cons, List.length_cons, RepL.length t]
theorem RepL.app : ∀ {ds : List D} {vs : List V}, RepL B S ds vs → RepL B S es ws → RepL B S (ds ++ es) (vs ++ ws)
  | [], vs, h, k => by rw [repL_nil_of h]; exact k
  | d :: ds, vs, h, k => by
    obtain ⟨v, us, rfl, r, t⟩ := repL_cons_of h
    exact repL_cons r (RepL.app t k)
theorem RepL.get : ∀ {ds : List D} {vs : List V} {i : Nat} {d : D}, RepL B S ds vs → ds[i]? = some d → ∃ v, vs[i]? = some v ∧ Rep B S d v
  | [], _, _, _, _, e => by simp at e
  | d :: ds, vs, 0, _, h, e => by
    obtain ⟨v, ws, rfl, r, t⟩ := repL_cons_of h
    simp at e
    subst e
    exact ⟨v, rfl, r⟩
  | d :: ds, vs, i + 1, _, h, e => by
    obtain ⟨v, ws, rfl, r, t⟩ := repL_cons_of h
    obtain ⟨u, q, r2⟩ := RepL.get (i := i) t (by simpa using e)
    exact ⟨u, by simpa using q, r2⟩
theorem RepL.set : ∀ {ds : List D} {vs : List V} (i : Nat), RepL B S ds vs → Rep B S d v → RepL B S (ds.set i d) (vs.set i v)
  | [], vs, i, h, r => by rw [repL_nil_of h]; exact repL_nil
  | d :: ds, vs, 0, h, r => by
    obtain ⟨u, ws, rfl, r1, t⟩ := repL_cons_of h
    exact repL_cons r t
  | d :: ds, vs, i + 1, h, r => by
    obtain ⟨u, ws, rfl, r1, t⟩ := repL_cons_of h
    exact repL_cons r1 (RepL.set i t r)
theorem RepL.take : ∀ {ds : List D} {vs : List V} (i : Nat), RepL B S ds vs → RepL B S (ds.take i) (vs.take i)
  | _, _, 0, _ => by simpa using repL_nil
  | [], vs, i + 1, h => by rw [repL_nil_of h]; exact repL_nil
  | d :: ds, vs, i + 1, h => by
    obtain ⟨u, ws, rfl, r1, t⟩ := repL_cons_of h
    exact repL_cons r1 (RepL.take i t)
theorem RepL.drop : ∀ {ds : List D} {vs : List V} (i : Nat), RepL B S ds vs → RepL B S (ds.drop i) (vs.drop i)
  | _, _, 0, h => h
  | [], vs, i + 1, h => by rw [repL_nil_of h]; exact repL_nil
  | d :: ds, vs, i + 1, h => by
    obtain ⟨u, ws, rfl, r1, t⟩ := repL_cons_of h
    exact RepL.drop i t
theorem RepL.rev (h : RepL B S ds vs) : RepL B S ds.reverse vs.reverse := by
  induction ds generalizing vs with
  | nil => rw [repL_nil_of h]; exact repL_nil
  | cons d ds ih =>
    obtain ⟨u, ws, rfl, r1, t⟩ := repL_cons_of h
    rw [List.reverse_cons, List.reverse_cons]
    exact (ih t).app (repL_cons r1 repL_nil)
theorem RepL.rep (h : RepL B S ds vs) : ∀ k : Nat, RepL B S (List.replicate k ds).flatten (List.replicate k vs).flatten
  | 0 => repL_nil
  | k + 1 => by
    rw [List.replicate_succ, List.replicate_succ, List.flatten_cons, List.flatten_cons]
    exact h.app (RepL.rep h k)
theorem RepL.ints {ns : List Int} : ∀ {vs : List V}, RepL B S (ns.map D.int) vs → vs = ns.map V.int := by
  induction ns with
  | nil => intro vs h; exact repL_nil_of h
  | cons n ns ih =>
    intro vs h
    obtain ⟨u, ws, rfl, r1, t⟩ := repL_cons_of h
    rw [ih t, show u = V.int n from r1]
    rfl
end
structure Fm where
  B : Option Addr
  C : Addr
  H0 : Hp
  S0 : Hp
/-- the law's bag: its cells, the next one, what is left of a great cell, the mixed number, the number of draws -/
def BagAt (b ca : Addr) (S H : Hp) : Prop := S b = none ∧ ∃ (cs : List Int) (i g st n : Int), H b = some (.lst [.ref ca, .int i, .int g, .int st, .int n]) ∧ S ca = some (.lst (cs.map V.int)) ∧ 0 ≤ i ∧ 0 ≤ g ∧ 0 ≤ st ∧ st < 2147483549
/-- the tables of code objects as they stand -/
def TabAll (S H : Hp) : Prop := ∀ p ∈ TbC.ts, LamX.TabS H p.1 p.2 ∧ S p.1 = none
/-- what may change though others know it: the bag, the tables -/
def Ex (B : Option Addr) (a : Addr) : Prop := B = some a ∨ ∃ p ∈ TbC.ts, p.1 = a
/-- a code object, a lambda's function object: they stay -/
def Fx (o : HO) : Prop := (∃ c q, o = LamX.CodeO c q) ∨ ∃ f i cl dV c', o = LamO f i cl dV c'
theorem fx_not {o : HO} (h : ∀ φ, o ≠ .ext φ) : ¬ Fx o := fun z => by
  rcases z with ⟨c, q, z⟩ | ⟨f, i, cl, dV, c', z⟩
  · exact h _ z
  · exact h _ z
/-- an object that may change -/
def Mu (x : Option HO) : Prop := x ≠ none ∧ ∀ o, x = some o → ¬ Fx o
theorem mu_ofF {x : Option HO} {o : HO} (e : x = some o) (h : ¬ Fx o) : Mu x := ⟨(by rw [e]; exact fun z => nomatch z), fun u z y => h (by rw [e] at z; cases z; exact y)⟩
theorem mu_of {x : Option HO} {o : HO} (e : x = some o) (h : ∀ φ, o ≠ .ext φ) : Mu x := mu_ofF e (fx_not h)
theorem mu_lst {x : Option HO} {vs : List V} (e : x = some (.lst vs)) : Mu x := mu_of e fun _ z => nomatch z
structure Kf (c : Fm) (H S : Hp) : Prop where
  sub : Same S H
  s0 : Same c.S0 S
  old : ∀ a o, c.H0 a = some o → ¬ Ex c.B a → H a = some o
  new : ∀ a, c.S0 a = none → Mu (c.H0 a) → S a = none
  bag : ∀ b, c.B = some b → BagAt b c.C S H ∧ c.H0 b ≠ none
  tab : TabAll S H ∧ ∀ p ∈ TbC.ts, c.H0 p.1 ≠ none
/-- what a name holds: data, or a list of its own that may change -/
inductive T where
  | dat (d : D)
  | lst (ts : List T)
  | tup (ts : List T)
  | obj (C : Addr) (ks : List Str) (ts : List T)
inductive DV where
  | val (d : D)
  | own (ds : List D)
  | tre (t : T) (as : List Addr)
abbrev En := List (Option DV)
mutual
/-- a tree of lists and objects that stand for nobody else, at the addresses as; its leaves stay as they are -/
def RepT (B : Option Addr) (S H : Hp) : T → V → List Addr → Prop
  | .dat d, v, as => Rep B S d v ∧ as = []
  | .lst ts, v, as => ∃ a vs bs, v = .ref a ∧ H a = some (.lst vs) ∧ RepTL B S H ts vs bs ∧ as = a :: bs
  | .tup ts, v, as => ∃ a vs, v = .ref a ∧ S a = some (.tup vs) ∧ RepTL B S H ts vs as
  | .obj C ks ts, v, as => ∃ a dx vs bs, v = .ref a ∧ H a = some (.ins C dx (ks.zip vs)) ∧ H dx = some (.own a) ∧ ts.length = ks.length ∧ RepTL B S H ts vs bs ∧ as = a :: dx :: bs
def RepTL (B : Option Addr) (S H : Hp) : List T → List V → List Addr → Prop
  | [], vs, as => vs = [] ∧ as = []
  | t :: ts, vs, as => ∃ v ws bs cs, vs = v :: ws ∧ RepT B S H t v bs ∧ RepTL B S H ts ws cs ∧ as = bs ++ cs
end
mutual
theorem repT_mono {B : Option Addr} {S S' H H' : Hp} (h : Same S S') : ∀ (t : T) (v : V) (as : List Addr), (∀ a ∈ as, ∀ o, H a = some o → H' a = some o) → RepT B S H t v as → RepT B S' H' t v as
  | .dat d, v, as, _, r => by
    rw [RepT] at r ⊢
    exact ⟨rep_mono h d v r.1, r.2⟩
  | .lst ts, v, as, q, r => by
    rw [RepT] at r ⊢
    obtain ⟨a, vs, bs, e, e2, l, rfl⟩ := r
    exact ⟨a, vs, bs, e, q a (List.mem_cons_self ..) _ e2, repTL_mono h ts vs bs (fun b hb => q b (List.mem_cons_of_mem _ hb)) l, rfl⟩
  | .tup ts, v, as, q, r => by
    rw [RepT] at r ⊢
    obtain ⟨a, vs, e, e2, l⟩ := r
    exact ⟨a, vs, e, h _ _ e2, repTL_mono h ts vs as q l⟩
  | .obj C ks ts, v, as, q, r => by
    rw [RepT] at r ⊢
    obtain ⟨a, dx, vs, bs, e, e2, e3, n, l, rfl⟩ := r
    exact ⟨a, dx, vs, bs, e, q a (List.mem_cons_self ..) _ e2, q dx (List.mem_cons_of_mem _ (List.mem_cons_self ..)) _ e3, n, repTL_mono h ts vs bs (fun b hb => q b (List.mem_cons_of_mem _ (List.mem_cons_of_mem _ hb))) l, rfl⟩
theorem repTL_mono {B : Option Addr} {S S' H H' : Hp} (h : Same S S') : ∀ (ts : List T) (vs : List V) (as : List Addr), (∀ a ∈ as, ∀ o, H a = some o → H' a = some o) → RepTL B S H ts vs as → RepTL B S' H' ts vs as
  | [], _, _, _, r => r
  | t :: ts, vs, as, q, r => by
    rw [RepTL] at r ⊢
    obtain ⟨v, ws, bs, cs, e, r1, r2, rfl⟩ := r
    exact ⟨v, ws, bs, cs, e, repT_mono h t v bs (fun b hb => q b (List.mem_append_left _ hb)) r1, repTL_mono h ts ws cs (fun b hb => q b (List.mem_append_right _ hb)) r2, rfl⟩
end
mutual
theorem RepT.mu {B : Option Addr} {S H : Hp} : ∀ {t : T} {v : V} {as : List Addr}, RepT B S H t v as → ∀ a ∈ as, Mu (H a)
  | .dat d, v, as, r, a, m => by
    rw [RepT] at r
    rw [r.2] at m
    cases m
  | .lst ts, v, as, r, a, m => by
    rw [RepT] at r
    obtain ⟨a0, vs, bs, e, e2, l, rfl⟩ := r
    rcases List.mem_cons.mp m with rfl | m
    · exact mu_lst e2
    · exact RepTL.mu l a m
  | .tup ts, v, as, r, a, m => by
    rw [RepT] at r
    obtain ⟨a0, vs, e, e2, l⟩ := r
    exact RepTL.mu l a m
  | .obj C ks ts, v, as, r, a, m => by
    rw [RepT] at r
    obtain ⟨a0, dx, vs, bs, e, e2, e3, n, l, rfl⟩ := r
    rcases List.mem_cons.mp m with rfl | m
    · exact mu_of e2 fun _ z => nomatch z
    rcases List.mem_cons.mp m with rfl | m
    · exact mu_of e3 fun _ z => nomatch z
    · exact RepTL.mu l a m
theorem RepTL.mu {B : Option Addr} {S H : Hp} : ∀ {ts : List T} {vs : List V} {as : List Addr}, RepTL B S H ts vs as → ∀ a ∈ as, Mu (H a)
  | [], _, _, r, a, m => by
    rw [RepTL] at r
    rw [r.2] at m
    cases m
  | t :: ts, vs, as, r, a, m => by
    rw [RepTL] at r
    obtain ⟨v, ws, bs, cs, e, r1, r2, rfl⟩ := r
    rcases List.mem_append.mp m with m | m
    · exact RepT.mu r1 a m
    · exact RepTL.mu r2 a m
end
mutual
/-- a tree looked at as a value -/
def T.d : T → D
  | .dat d => d
  | .lst ts => .lst (T.ds ts)
  | .tup ts => .tup (T.ds ts)
  | .obj C ks ts => .obj C ks (T.ds ts)
def T.ds : List T → List D
  | [] => []
  | t :: ts => t.d :: T.ds ts
end
theorem T.ds_length : ∀ {ts : List T}, (T.ds ts).length = ts.length
  | [] => rfl
  | t :: ts => by rw [T.ds, List.length_cons, List.length_cons, T.ds_length]
mutual
theorem rep_tree {B : Option Addr} {S S' H : Hp} (s : Same S S') : ∀ (t : T) (v : V) (as : List Addr), (∀ a ∈ as, S' a = H a) → RepT B S H t v as → Rep B S' t.d v
  | .dat d, v, as, _, r => by
    rw [RepT] at r
    exact rep_mono s d v r.1
  | .lst ts, v, as, q, r => by
    rw [RepT] at r
    obtain ⟨a, vs, bs, e, e2, l, rfl⟩ := r
    rw [T.d, Rep]
    exact ⟨a, vs, e, (q a (List.mem_cons_self ..)).trans e2, repL_tree s ts vs bs (fun b hb => q b (List.mem_cons_of_mem _ hb)) l⟩
  | .tup ts, v, as, q, r => by
    rw [RepT] at r
    obtain ⟨a, vs, e, e2, l⟩ := r
    rw [T.d, Rep]
    exact ⟨a, vs, e, s _ _ e2, repL_tree s ts vs as q l⟩
  | .obj C ks ts, v, as, q, r => by
    rw [RepT] at r
    obtain ⟨a, dx, vs, bs, e, e2, e3, n, l, rfl⟩ := r
    rw [T.d, Rep]
    exact ⟨a, dx, vs, e, (q a (List.mem_cons_self ..)).trans e2, (q dx (List.mem_cons_of_mem _ (List.mem_cons_self ..))).trans e3, by rw [T.ds_length]; exact n, repL_tree s ts vs bs (fun b hb => q b (List.mem_cons_of_mem _ (List.mem_cons_of_mem _ hb))) l⟩
theorem repL_tree {B : Option Addr} {S S' H : Hp} (s : Same S S') : ∀ (ts : List T) (vs : List V) (as : List Addr), (∀ a ∈ as, S' a = H a) → RepTL B S H ts vs as → RepL B S' (T.ds ts) vs
  | [], _, _, _, r => by
    rw [RepTL] at r
    rw [r.1]
    exact repL_nil
  | t :: ts, vs, as, q, r => by
    rw [RepTL] at r
    obtain ⟨v, ws, bs, cs, rfl, r1, r2, rfl⟩ := r
    rw [T.ds]
    exact repL_cons (rep_tree s t v bs (fun b hb => q b (List.mem_append_left _ hb)) r1) (repL_tree s ts ws cs (fun b hb => q b (List.mem_append_right _ hb)) r2)
end
mutual
/-- a value whose lists are all its own -/
def D.tr : D → T
  | .lst xs => .lst (D.trs xs)
  | .tup xs => .tup (D.trs xs)
  | .non => .dat .non | .bl b => .dat (.bl b) | .int i => .dat (.int i) | .str s => .dat (.str s) | .ty n => .dat (.ty n) | .adr a => .dat (.adr a) | .bag => .dat .bag
  | .fn i cl z => .dat (.fn i cl z) | .obj C ks xs => .dat (.obj C ks xs) | .exc a dx C ks xs => .dat (.exc a dx C ks xs) | .dct ks xs => .dat (.dct ks xs) | .dcT ks xs => .dat (.dcT ks xs)
def D.trs : List D → List T
  | [] => []
  | d :: ds => d.tr :: D.trs ds
end
mutual
theorem tr_d : ∀ d : D, d.tr.d = d
  | .lst xs => by rw [D.tr, T.d, trs_ds xs]
  | .tup xs => by rw [D.tr, T.d, trs_ds xs]
  | .non | .bl _ | .int _ | .str _ | .ty _ | .adr _ | .bag | .fn _ _ _ | .obj _ _ _ | .exc _ _ _ _ _ | .dct _ _ | .dcT _ _ => by rw [D.tr, T.d]
theorem trs_ds : ∀ ds : List D, T.ds (D.trs ds) = ds
  | [] => rfl
  | d :: ds => by rw [D.trs, T.ds, tr_d d, trs_ds ds]
end
theorem trs_length : ∀ ds : List D, (D.trs ds).length = ds.length
  | [] => rfl
  | d :: ds => by rw [D.trs, List.length_cons, List.length_cons, trs_length ds]
def DvR (c : Fm) (S H : Hp) : DV → V → Prop
  | .val d, v => Rep c.B S d v
  | .own ds, v => ∃ p vs, v = .ref p ∧ S p = none ∧ c.H0 p = none ∧ H p = some (.lst vs) ∧ RepL c.B S ds vs
  | .tre t as, v => RepT c.B S H t v as ∧ as.Nodup ∧ ∀ a ∈ as, S a = none ∧ c.H0 a = none
/-- what a name holds for itself -/
def Foot : DV → V → Addr → Prop
  | .val _, _, _ => False
  | .own _, v, a => v = .ref a
  | .tre _ as, _, a => a ∈ as
theorem DvR.foot {c : Fm} {S H : Hp} : ∀ {x : DV} {v : V}, DvR c S H x v → ∀ a, Foot x v a → S a = none ∧ c.H0 a = none ∧ Mu (H a)
  | .val _, _, _, _, f => f.elim
  | .own ds, v, r, a, f => by
    obtain ⟨p, vs, e, h1, h2, h3, _⟩ := r
    have f : v = .ref a := f
    rw [e] at f
    cases f
    exact ⟨h1, h2, mu_lst h3⟩
  | .tre t as, v, r, a, f => ⟨(r.2.2 a f).1, (r.2.2 a f).2, r.1.mu a f⟩
/-- what is told of a name stays, if the frozen things grow and what the name holds for itself is as it was -/
theorem DvR.keep {c c' : Fm} {S S' H H' : Hp} (hB : c'.B = c.B) (hs : Same S S') : ∀ {x : DV} {v : V}, DvR c S H x v → (∀ a, Foot x v a → S' a = none ∧ c'.H0 a = none ∧ ∀ o, H a = some o → H' a = some o) → DvR c' S' H' x v
  | .val d, v, r, _ => by
    show Rep c'.B S' d v
    rw [hB]
    exact rep_mono hs d v r
  | .own ds, v, r, q => by
    obtain ⟨p, vs, rfl, h1, h2, h3, h4⟩ := r
    obtain ⟨q1, q2, q3⟩ := q p rfl
    refine ⟨p, vs, rfl, q1, q2, q3 _ h3, ?_⟩
    rw [hB]
    exact repL_mono hs ds vs h4
  | .tre t as, v, r, q => by
    obtain ⟨h1, h2, h3⟩ := r
    refine ⟨?_, h2, fun a m => ⟨(q a m).1, (q a m).2.1⟩⟩
    rw [hB]
    exact repT_mono hs t v as (fun a m => (q a m).2.2) h1
structure Kn (c : Fm) (σ : St) (H S : Hp) (env : En) : Prop where
  kf : Kf c H S
  len : env.length = σ.length
  sl : ∀ (i : Nat) (x : DV), env[i]? = some (some x) → ∃ v, σ[i]? = some (some v) ∧ DvR c S H x v
  apart : ∀ (i j : Nat) (x y : DV) (v u : V) (a : Addr), i ≠ j → env[i]? = some (some x) → env[j]? = some (some y) → σ[i]? = some (some v) → σ[j]? = some (some u) → Foot x v a → ¬ Foot y u a
section
variable {c : Fm} {σ : St} {H H' S S' : Hp} {env : En} {a p : Addr} {o : HO}
/-- an object that is no table and no code object may change -/
theorem TabAll.of (t : TabAll S H) (hH : ∀ a o, H a = some o → ((∃ ps, o = .tbl ps) ∨ Fx o) → H' a = some o) (hn : ∀ p ∈ TbC.ts, S p.1 = none → S' p.1 = none) : TabAll S' H' := fun p hp => by
  obtain ⟨⟨ps, h1, h2, h3⟩, h4⟩ := t p hp
  refine ⟨⟨ps, hH _ _ h1 (.inl ⟨_, rfl⟩), h2, fun pos cv hc => ?_⟩, hn p hp h4⟩
  obtain ⟨c1, e1, e2⟩ := h3 pos cv hc
  exact ⟨c1, e1, hH _ _ e2 (.inr (.inl ⟨_, _, rfl⟩))⟩
theorem TabAll.ne (t : TabAll S H) {p : Addr × Str} (hp : p ∈ TbC.ts) : H p.1 ≠ none := fun z => by
  obtain ⟨⟨ps, h1, _⟩, _⟩ := t p hp
  rw [z] at h1
  cases h1
theorem TabAll.same (t : TabAll S H) (hH : Same H H') (hn : ∀ a, S a = none → Mu (H a) → S' a = none) : TabAll S' H' :=
  t.of (fun a o e _ => hH a o e) fun p hp e => hn _ e (by
    obtain ⟨⟨ps, h1, _⟩, _⟩ := t p hp
    exact mu_of h1 fun _ z => nomatch z)
/-- a list (or anything else that is no table, no code object) at p is told anew -/
theorem TabAll.updHF {u : HO} (t : TabAll S H) (hp : ∀ v, H p = some v → (∀ ps, v ≠ .tbl ps) ∧ ¬ Fx v) (hn : ∀ q ∈ TbC.ts, S q.1 = none → S' q.1 = none) : TabAll S' (upd H p u) :=
  t.of (fun a o e ty => by
    by_cases z : a = p
    · subst z
      obtain ⟨n1, n2⟩ := hp _ e
      rcases ty with ⟨ps, y⟩ | y
      · exact (n1 ps y).elim
      · exact (n2 y).elim
    · rw [upd_ne z]
      exact e) hn
theorem TabAll.updH {u : HO} (t : TabAll S H) (hp : ∀ v, H p = some v → (∀ ps, v ≠ .tbl ps) ∧ ∀ φ, v ≠ .ext φ) (hn : ∀ q ∈ TbC.ts, S q.1 = none → S' q.1 = none) : TabAll S' (upd H p u) := t.updHF (fun v e => ⟨(hp v e).1, fx_not (hp v e).2⟩) hn
theorem lst_ne {vs : List V} : (∀ ps, HO.lst vs ≠ .tbl ps) ∧ ∀ φ, HO.lst vs ≠ .ext φ := ⟨fun ps z => (nomatch z), fun φ z => (nomatch z)⟩
theorem TabAll.lst {vs : List V} {u : HO} (t : TabAll S H) (h : H p = some (.lst vs)) : TabAll S (upd H p u) := t.updH (fun v e => by rw [h] at e; cases e; exact lst_ne) fun _ _ e => e
theorem TabAll.not {vs : List V} (t : TabAll S H) (h : H p = some (.lst vs)) {q : Addr × Str} (hq : q ∈ TbC.ts) : q.1 ≠ p := fun z => by
  obtain ⟨⟨ps, h1, _⟩, _⟩ := t q hq
  rw [z, h] at h1
  cases h1
theorem TabAll.frz {vs : List V} {u : HO} (t : TabAll S H) (h : H p = some (.lst vs)) : TabAll (upd S p u) H := fun q hq => ⟨(t q hq).1, by rw [upd_ne (t.not h hq)]; exact (t q hq).2⟩
theorem Kf.b_ne (k : Kf c H S) (h : H p = none) : c.B ≠ some p := fun e => by
  obtain ⟨⟨_, cs, i, g, st, n, q, _⟩, _⟩ := k.bag p e
  rw [h] at q
  cases q
theorem Kf.x_ne (k : Kf c H S) (h : H p = none) : ¬ Ex c.B p := fun e => by
  rcases e with e | ⟨q, hq, e⟩
  · exact k.b_ne h e
  · exact k.tab.1.ne hq (by rw [e]; exact h)
theorem Kf.x_ne0 (k : Kf c H S) (h : c.H0 p = none) : ¬ Ex c.B p := fun e => by
  rcases e with e | ⟨q, hq, e⟩
  · exact (k.bag p e).2 h
  · exact k.tab.2 q hq (by rw [e]; exact h)
theorem Kf.s_none (k : Kf c H S) (h : H p = none) : S p = none := k.sub.free h
theorem Kf.h0_none (k : Kf c H S) (h : H p = none) : c.H0 p = none := by
  cases e : c.H0 p with
  | none => rfl
  | some o =>
    have q := k.old p o e (k.x_ne h)
    rw [h] at q
    cases q
theorem Kf.back (k : Kf c H S) (q : Mu (c.H0 a)) : Mu (H a) := by
  by_cases x : Ex c.B a
  · rcases x with e | ⟨p, hp, e⟩
    · obtain ⟨⟨_, cs, i, g, st, n, q, _⟩, _⟩ := k.bag a e
      exact mu_lst q
    · obtain ⟨⟨ps, h1, _⟩, _⟩ := k.tab.1 p hp
      rw [← e]
      exact mu_of h1 fun _ z => nomatch z
  · cases e : c.H0 a with
    | none => exact (q.1 e).elim
    | some o => exact mu_ofF (k.old a o e x) (q.2 o e)
/-- the general step -/
theorem Kf.step (k : Kf c H S) (hs : Same S S') (hsub : Same S' H') (hH : ∀ a o, H a = some o → ¬ Ex c.B a → H' a = some o) (hn : ∀ a, S a = none → Mu (H a) → S' a = none) (hb : ∀ b, c.B = some b → BagAt b c.C S' H') (ht : TabAll S' H') : Kf c H' S' :=
  ⟨hsub, k.s0.trans hs, fun a o e n => hH a o (k.old a o e n) n, fun a e n => hn a (k.new a e n) (k.back n), fun b e => ⟨hb b e, (k.bag b e).2⟩, ht, k.tab.2⟩
theorem Kn.step (k : Kn c σ H S env) (hs : Same S S') (hsub : Same S' H') (hH : ∀ a o, H a = some o → ¬ Ex c.B a → H' a = some o) (hn : ∀ a, S a = none → Mu (H a) → S' a = none) (hb : ∀ b, c.B = some b → BagAt b c.C S' H') (ht : TabAll S' H') : Kn c σ H' S' env := by
  refine ⟨k.kf.step hs hsub hH hn hb ht, k.len, fun i x e => ?_, k.apart⟩
  obtain ⟨v, e1, r⟩ := k.sl i x e
  refine ⟨v, e1, r.keep rfl hs fun a f => ?_⟩
  obtain ⟨f1, f2, f3⟩ := r.foot a f
  exact ⟨hn a f1 f3, f2, fun o e5 => hH a o e5 (k.kf.x_ne0 f2)⟩
theorem Kf.bagSame (k : Kf c H S) (hs : Same S S') (hH : Same H H') (hn : ∀ a, S a = none → Mu (H a) → S' a = none) : ∀ b, c.B = some b → BagAt b c.C S' H' := fun b e => by
  obtain ⟨⟨e1, cs, i, g, st, n, q, q2, q3⟩, _⟩ := k.bag b e
  exact ⟨hn b e1 (mu_lst q), cs, i, g, st, n, hH _ _ q, hs _ _ q2, q3⟩
/-- nothing of H has changed -/
theorem Kn.grow (k : Kn c σ H S env) (hs : Same S S') (hsub : Same S' H') (hH : Same H H') (hn : ∀ a, S a = none → Mu (H a) → S' a = none) : Kn c σ H' S' env :=
  k.step hs hsub (fun a o e _ => hH a o e) hn (k.kf.bagSame hs hH hn) (k.kf.tab.1.same hH hn)
theorem same_upd (h : H p = none) : Same H (upd H p o) := fun b u e => by
  rw [upd_ne (ne_of_none e h)]
  exact e
theorem same_upd2 (hs : Same S H) (h : H p = none) : Same (upd S p o) (upd H p o) := fun b u e => by
  by_cases z : b = p
  · subst z
    rw [upd_same] at e ⊢
    exact e
  · rw [upd_ne z] at e ⊢
    exact hs b u e
/-- a new object that stays as it is -/
theorem Kn.new (k : Kn c σ H S env) (h : H p = none) : Kn c σ (upd H p o) (upd S p o) env :=
  k.grow (same_upd (k.kf.s_none h)) (same_upd2 k.kf.sub h) (same_upd h) fun a e n => by
    have z : a ≠ p := fun z => n.1 (by rw [z]; exact h)
    rw [upd_ne z]
    exact e
/-- a new object that may change: known to nobody yet -/
theorem Kn.new0 (k : Kn c σ H S env) (h : H p = none) : Kn c σ (upd H p o) S env :=
  k.grow (Same.refl S) (k.kf.sub.trans (same_upd h)) (same_upd h) fun a e n => e
end
structure Er where
  cls : Addr
  ks : List Str
  ds : List D
def XOk (c : Fm) (E : XK) (Rx : Er → Prop) : Prop := ∀ (er : Er) (d : Addr) (vs : List V) (H S : Hp), Kf c H S → RepL c.B S er.ds vs → er.ds.length = er.ks.length → H d = some (.xd (er.ks.zip vs)) → c.H0 d = none → S d = none → Rx er → E (.ref er.cls) (some d) H
abbrev DT := En → (D → Prop) → (Er → Prop) → Prop
abbrev DTT := En → (Bool → Prop) → (Er → Prop) → Prop
abbrev DTA := En → (List D → Prop) → (Er → Prop) → Prop
/-- a result: of all that stays; made here alone; made here alone, its lists its own -/
inductive Rk where
  | old | nw | tr
structure DEnds where
  nx : En → Prop
  rt : Rk → D → Prop
  bk : En → Prop := fun _ => False
  ct : En → Prop := fun _ => False
  ex : Er → Prop
abbrev DTS := DEnds → En → Prop
/-- an expression's reading t is told by T -/
def Sm (E : XK) (t : TE) (T : DT) : Prop := ∀ (c : Fm) (σ : St) (H S : Hp) (env : En) (R : D → Prop) (Rx : Er → Prop), XOk c E Rx → Kn c σ H S env → T env R Rx →
  ∀ Q : VK, (∀ v H' S' d, Kn c σ H' S' env → Same S S' → Rep c.B S' d v → R d → Q v H') → t σ H Q
def SmT (E : XK) (t : TT) (T : DTT) : Prop := ∀ (c : Fm) (σ : St) (H S : Hp) (env : En) (R : Bool → Prop) (Rx : Er → Prop), XOk c E Rx → Kn c σ H S env → T env R Rx →
  ∀ Q : Bool → Hp → Prop, (∀ b H' S', Kn c σ H' S' env → Same S S' → R b → Q b H') → t σ H Q
def SmA (E : XK) (t : TA) (T : DTA) : Prop := ∀ (c : Fm) (σ : St) (H S : Hp) (env : En) (R : List D → Prop) (Rx : Er → Prop), XOk c E Rx → Kn c σ H S env → T env R Rx →
  ∀ Q : List V → Hp → Prop, (∀ vs H' S' ds, Kn c σ H' S' env → Same S S' → RepL c.B S' ds vs → R ds → Q vs H') → t σ H Q
/-- what is new since H -/
def newH (H S : Hp) : Hp := fun a => match H a with
  | none => S a
  | some _ => none
theorem newH_of {H S : Hp} {a : Addr} (h : H a = none) : newH H S a = S a := by unfold newH; rw [h]
theorem newH_some {H S : Hp} {a : Addr} {o : HO} (e : newH H S a = some o) : H a = none ∧ S a = some o := by
  unfold newH at e
  split at e
  · exact ⟨by assumption, e⟩
  · cases e
theorem newH_sub {H S : Hp} : Same (newH H S) S := fun a o e => (newH_some e).2
open Classical in
noncomputable def frzS (as : List Addr) (H S : Hp) : Hp := fun a => if a ∈ as then H a else S a
theorem frzS_in {as : List Addr} {H S : Hp} {a : Addr} (h : a ∈ as) : frzS as H S a = H a := if_pos h
theorem frzS_out {as : List Addr} {H S : Hp} {a : Addr} (h : a ∉ as) : frzS as H S a = S a := if_neg h
theorem frzS_same {as : List Addr} {H S : Hp} (h : ∀ a ∈ as, S a = none) : Same S (frzS as H S) := fun a o e => by
  by_cases z : a ∈ as
  · rw [h a z] at e
    cases e
  · rw [frzS_out z]
    exact e
theorem Kf.frzT {c : Fm} {H S : Hp} {as : List Addr} (k : Kf c H S) (q : ∀ a ∈ as, S a = none ∧ c.H0 a = none) : Kf c H (frzS as H S) := by
  have s := frzS_same (H := H) fun a m => (q a m).1
  refine ⟨fun a o e => ?_, k.s0.trans s, k.old, fun a e n => ?_, fun b e => ?_, ⟨fun p hp => ⟨(k.tab.1 p hp).1, ?_⟩, k.tab.2⟩⟩
  · by_cases z : a ∈ as
    · rw [frzS_in z] at e
      exact e
    · rw [frzS_out z] at e
      exact k.sub a o e
  · rw [frzS_out fun z => n.1 (q a z).2]
    exact k.new a e n
  · obtain ⟨⟨b1, cs, i, g, st, n, b2, b3, b4⟩, b5⟩ := k.bag b e
    exact ⟨⟨by rw [frzS_out fun z => b5 (q b z).2]; exact b1, cs, i, g, st, n, b2, s _ _ b3, b4⟩, b5⟩
  · rw [frzS_out fun z => k.tab.2 p hp (q _ z).2]
    exact (k.tab.1 p hp).2
theorem repT_frz {c : Fm} {H S : Hp} {t : T} {v : V} {as : List Addr} (r : RepT c.B S H t v as) (q : ∀ a ∈ as, S a = none) : Rep c.B (frzS as H S) t.d v := rep_tree (frzS_same q) t v as (fun _ m => frzS_in m) r
def RepN (c : Fm) (H S : Hp) : Rk → D → V → Prop
  | .old, d, v => Rep c.B S d v
  | .nw, d, v => Rep c.B (newH c.H0 S) d v
  | .tr, d, v => ∃ as, RepT c.B S H d.tr v as ∧ as.Nodup ∧ ∀ a ∈ as, S a = none ∧ c.H0 a = none
theorem RepN.old {c : Fm} {H S : Hp} {n : Rk} {d : D} {v : V} (k : Kf c H S) (r : RepN c H S n d v) : ∃ S', Kf c H S' ∧ Same S S' ∧ Rep c.B S' d v := by
  cases n with
  | old => exact ⟨S, k, Same.refl S, r⟩
  | nw => exact ⟨S, k, Same.refl S, rep_mono newH_sub d v r⟩
  | tr =>
    obtain ⟨as, r, _, q⟩ := r
    refine ⟨_, k.frzT q, frzS_same fun a m => (q a m).1, ?_⟩
    have := repT_frz r fun a m => (q a m).1
    rw [tr_d] at this
    exact this
def mk (c : Fm) (S : Hp) (Q : DEnds) (D : Ends) : Prop :=
  (∀ σ H S' env, Kn c σ H S' env → Same S S' → Q.nx env → D.nx σ H) ∧ (∀ n v H S' d, Kf c H S' → Same S S' → RepN c H S' n d v → Q.rt n d → D.rt v H) ∧
  (∀ σ H S' env, Kn c σ H S' env → Same S S' → Q.bk env → D.bk σ H) ∧ (∀ σ H S' env, Kn c σ H S' env → Same S S' → Q.ct env → D.ct σ H)
def SmS (E : XK) (t : TS) (T : DTS) : Prop := ∀ (c : Fm) (σ : St) (H S : Hp) (env : En) (Q : DEnds), XOk c E Q.ex → Kn c σ H S env → T Q env →
  ∀ D : Ends, mk c S Q D → t D σ H
theorem mk.mono {c : Fm} {S S' : Hp} {Q : DEnds} {D : Ends} (m : mk c S Q D) (h : Same S S') : mk c S' Q D :=
  ⟨fun σ H S2 env k s q => m.1 σ H S2 env k (h.trans s) q, fun n v H S2 d k s r q => m.2.1 n v H S2 d k (h.trans s) r q, fun σ H S2 env k s q => m.2.2.1 σ H S2 env k (h.trans s) q, fun σ H S2 env k s q => m.2.2.2 σ H S2 env k (h.trans s) q⟩
def DE (X : Cx) (E : XK) (e : Expr) (T : DT) : Prop := ∃ t, PE X e t ∧ Sm E t T
def DTe (X : Cx) (E : XK) (e : Expr) (T : DTT) : Prop := ∃ t, PT X e t ∧ SmT E t T
def DWe (X : Cx) (E : XK) (e : Expr) (T : DTT) : Prop := ∃ t, PW X e t ∧ SmT E t T
def DA (X : Cx) (E : XK) (es : List Expr) (T : DTA) : Prop := ∃ t, PA X es t ∧ SmA E t T
def DS (X : Cx) (E : XK) (st : Stmt) (T : DTS) : Prop := ∃ t, PS X st t ∧ SmS E t T
def DSs (X : Cx) (E : XK) (st : List Stmt) (T : DTS) : Prop := ∃ t, PSs X st t ∧ SmS E t T
section
variable {X : Cx} {E : XK} {pos : Pos}
def xVar (i : Nat) : DT := fun env R _ => ∃ d, env[i]? = some (some (.val d)) ∧ R d
def xC (d : D) : DT := fun _ R _ => R d
theorem sm_var (i : Nat) : Sm E (tVar i) (xVar i) := fun c σ H S env R Rx _ k t Q q => by
  obtain ⟨d, e, r⟩ := t
  obtain ⟨v, e1, r1⟩ := k.sl i _ e
  exact ⟨v, e1, q v H S d k (Same.refl S) r1 r⟩
theorem sm_c {v : V} {d : D} (h : ∀ B S, Rep B S d v) : Sm E (tC v) (xC d) := fun c σ H S env R Rx _ k t Q q => q v H S d k (Same.refl S) (h _ _) t
theorem d_var (i : Nat) {x : Str} (hN : X.N[i]? = some x := by rfl) (hv : Vis X.env.scope x := by first | exact Or.inl rfl | exact Or.inr (Or.inl rfl) | exact Or.inr (Or.inr rfl)) (hd : (x == ("__debug__" : Str)) = false := by decide)
    (hcd : (x == ("__classdict__" : Str)) = false := by decide) : DE X E (.Name x pos) (xVar i) := ⟨_, pv i hN hv hd hcd, sm_var i⟩
theorem d_int {i : Int} {j} : DE X E (.Constant (.int i) j pos) (xC (.int i)) := ⟨_, pe_int, sm_c fun _ _ => rfl⟩
theorem d_bl {b : Bool} {j} : DE X E (.Constant (.bool b) j pos) (xC (.bl b)) := ⟨_, pe_bl, sm_c fun _ _ => rfl⟩
theorem d_non {j} : DE X E (.Constant .none j pos) (xC .non) := ⟨_, pe_non, sm_c fun _ _ => rfl⟩
theorem d_str {s : Str} {j} : DE X E (.Constant (.str s) j pos) (xC (.str s)) := ⟨_, pe_str, sm_c fun _ _ => rfl⟩
theorem d_gint {x : Str} {i : Int} (hm : ∃ t, X.mg x = some (.int i t)) (hg : Gl X x := by rfl) (hd : (x == ("__debug__" : Str)) = false := by decide) : DE X E (.Name x pos) (xC (.int i)) := by
  obtain ⟨t, e⟩ := hm
  exact ⟨_, pe_glob (v := .int i) hg e ⟨t, rfl⟩ hd, sm_c fun _ _ => rfl⟩
theorem d_gstr {x s : Str} (hm : ∃ t, X.mg x = some (.str s t)) (hg : Gl X x := by rfl) (hd : (x == ("__debug__" : Str)) = false := by decide) : DE X E (.Name x pos) (xC (.str s)) := by
  obtain ⟨t, e⟩ := hm
  exact ⟨_, pe_glob (v := .str s) hg e ⟨t, rfl⟩ hd, sm_c fun _ _ => rfl⟩
end
abbrev DOp := D → D → (D → Prop) → Prop
def SmOp (r : R2) (op : DOp) : Prop := ∀ (c : Fm) (σ : St) (H S : Hp) (env : En) (x y : D) (v u : V) (R : D → Prop), Kn c σ H S env → Rep c.B S x v → Rep c.B S y u → op x y R →
  ∀ Q : VK, (∀ z H' S' d, Kn c σ H' S' env → Same S S' → Rep c.B S' d z → R d → Q z H') → r v u H Q
def xOp (op : DOp) (Ta Tb : DT) : DT := fun env R Rx => Ta env (fun x => Tb env (fun y => op x y R) Rx) Rx
section
variable {X : Cx} {E : XK} {pos : Pos} {a b : Expr} {Ta Tb : DT} {ta tb : TE}
theorem sm_op {r : R2} {op : DOp} (ho : SmOp r op) (ha : Sm E ta Ta) (hb : Sm E tb Tb) : Sm E (tOp r ta tb) (xOp op Ta Tb) := fun c σ H S env R Rx x k t Q q =>
  ha c σ H S env _ Rx x k t _ fun v H1 S1 d1 k1 s1 r1 t1 => hb c σ H1 S1 env _ Rx x k1 t1 _ fun u H2 S2 d2 k2 s2 r2 t2 =>
    ho c σ H2 S2 env d1 d2 v u R k2 (rep_mono s2 d1 v r1) r2 t2 Q fun z H3 S3 d3 k3 s3 r3 t3 => q z H3 S3 d3 k3 ((s1.trans s2).trans s3) r3 t3
theorem d_op {op : Operator} {r : R2} {dop : DOp} (h : OpR X (binaryOp op) r) (ho : SmOp r dop) (ha : DE X E a Ta) (hb : DE X E b Tb) : DE X E (.BinOp a op b pos) (xOp dop Ta Tb) := by
  obtain ⟨ta, p1, s1⟩ := ha
  obtain ⟨tb, p2, s2⟩ := hb
  exact ⟨_, pe_op h p1 p2, sm_op ho s1 s2⟩
def opAdd : DOp
  | .int i, .int j, R => R (.int (i + j))
  | .str s, .str t, R => s.length + t.length ≤ sizeLine ∧ R (.str (s ++ t))
  | .lst xs, .lst ys, R => xs.length + ys.length ≤ sizeLine ∧ R (.lst (xs ++ ys))
  | .tup xs, .tup ys, R => xs.length + ys.length ≤ sizeLine ∧ R (.tup (xs ++ ys))
  | _, _, _ => False
def opSub : DOp
  | .int i, .int j, R => R (.int (i - j))
  | _, _, _ => False
/-- what a product of ints asks -/
def MulOk (i j : Int) : Prop := CMul i j ∨ CMulW i j
/-- a text, so many times -/
def mulS (s : Str) (n : Nat) : Str := ⟨(List.replicate n s.cps.toList).flatten.toArray⟩
def opMul : DOp
  | .int i, .int j, R => MulOk i j ∧ R (.int (i * j))
  | .lst xs, .int k, R => -(2 ^ 63) ≤ k ∧ k < 2 ^ 63 ∧ xs.length * k.toNat ≤ sizeLine ∧ R (.lst (List.replicate k.toNat xs).flatten)
  | .str s, .int k, R => -(2 ^ 63) ≤ k ∧ k < 2 ^ 63 ∧ s.length * k.toNat ≤ sizeLine ∧ R (.str (mulS s k.toNat))
  | _, _, _ => False
def DivOk (j : Int) : Prop := (j ≠ 0 ∧ j.natAbs < 1073741824) ∨ (0 < j ∧ j.natAbs.log2 < 9000)
def opFdiv : DOp
  | .int i, .int j, R => DivOk j ∧ R (.int (i.fdiv j))
  | _, _, _ => False
def opMod : DOp
  | .int i, .int j, R => j ≠ 0 ∧ R (.int (i.fmod j))
  | _, _, _ => False
def opPow : DOp
  | .int i, .int j, R => (0 ≤ j ∧ j ≤ 1000000 ∧ i.natAbs < 2 ^ 64) ∧ R (.int (i ^ j.toNat))
  | _, _, _ => False
theorem smOp_int0 {g : Int → Int → V} {f : Int → Int → D} {op : DOp} (hr : ∀ i j B S, Rep B S (f i j) (g i j)) (h : ∀ x y R, op x y R → ∃ i j, x = .int i ∧ y = .int j ∧ R (f i j)) : SmOp (rI0 g) op :=
  fun c σ H S env x y v u R k r1 r2 t Q q => by
    obtain ⟨i, j, rfl, rfl, t2⟩ := h x y R t
    exact ⟨i, j, r1, r2, q _ H S _ k (Same.refl S) (hr i j _ _) t2⟩
theorem lst_of {c : Fm} {σ : St} {H S : Hp} {env : En} {xs : List D} {v : V} (k : Kn c σ H S env) (r : Rep c.B S (.lst xs) v) : ∃ a vs, v = .ref a ∧ H a = some (.lst vs) ∧ S a = some (.lst vs) ∧ RepL c.B S xs vs := by
  obtain ⟨a, vs, e, q, l⟩ := r
  exact ⟨a, vs, e, k.kf.sub _ _ q, q, l⟩
theorem tup_of {c : Fm} {σ : St} {H S : Hp} {env : En} {xs : List D} {v : V} (k : Kn c σ H S env) (r : Rep c.B S (.tup xs) v) : ∃ a vs, v = .ref a ∧ H a = some (.tup vs) ∧ S a = some (.tup vs) ∧ RepL c.B S xs vs := by
  obtain ⟨a, vs, e, q, l⟩ := r
  exact ⟨a, vs, e, k.kf.sub _ _ q, q, l⟩
/-- a new list, a new tuple of known items -/
theorem put_lst {c : Fm} {σ : St} {H S : Hp} {env : En} {ds : List D} {vs : List V} {p : Addr} (k : Kn c σ H S env) (l : RepL c.B S ds vs) (h : H p = none) :
    Kn c σ (upd H p (.lst vs)) (upd S p (.lst vs)) env ∧ Same S (upd S p (.lst vs)) ∧ Rep c.B (upd S p (.lst vs)) (.lst ds) (.ref p) := by
  have s : Same S (upd S p (.lst vs)) := same_upd (k.kf.s_none h)
  exact ⟨k.new h, s, p, vs, rfl, upd_same, repL_mono s ds vs l⟩
theorem put_tup {c : Fm} {σ : St} {H S : Hp} {env : En} {ds : List D} {vs : List V} {p : Addr} (k : Kn c σ H S env) (l : RepL c.B S ds vs) (h : H p = none) :
    Kn c σ (upd H p (.tup vs)) (upd S p (.tup vs)) env ∧ Same S (upd S p (.tup vs)) ∧ Rep c.B (upd S p (.tup vs)) (.tup ds) (.ref p) := by
  have s : Same S (upd S p (.tup vs)) := same_upd (k.kf.s_none h)
  exact ⟨k.new h, s, p, vs, rfl, upd_same, repL_mono s ds vs l⟩
abbrev rAddS0 : R2 := fun x y H Q => ∃ i j, x = .str i ∧ y = .str j ∧ i.length + j.length ≤ sizeLine ∧ Q (.str (i ++ j)) H
abbrev rAddAll (K : PySem.W.Frag) : R2 := fun x y H Q => rI0 (fun i j => .int (i + j)) x y H Q ∨ (fun x y H Q => rAddS0 x y H Q ∨ (fun x y H Q => rCat x y H Q ∨ rCatA K x y H Q) x y H Q) x y H Q
theorem op_addAll : OpR X (binaryOp .Add) (rAddAll X.K) := op_add.or (op_add_str.or (op_cat.or op_catA))
theorem smOp_add {K : PySem.W.Frag} : SmOp (rAddAll K) opAdd := by
  intro c σ H S env x y v u R k r1 r2 t Q q
  cases x <;> cases y <;> try exact (show False from t).elim
  · exact .inl ⟨_, _, r1, r2, q _ H S (.int _) k (Same.refl S) rfl t⟩
  · exact .inr (.inl ⟨_, _, r1, r2, t.1, q _ H S (.str _) k (Same.refl S) rfl t.2⟩)
  · obtain ⟨a, vs, e1, h1, _, l1⟩ := lst_of k r1
    obtain ⟨b, ws, e2, h2, _, l2⟩ := lst_of k r2
    obtain ⟨hz, t⟩ := t
    refine .inr (.inr (.inl ⟨a, b, vs, ws, e1, e2, h1, h2, by rw [l1.length, l2.length]; exact hz, fun p hp => ?_⟩))
    obtain ⟨k', s', r'⟩ := put_lst k (l1.app l2) hp
    exact q _ _ _ _ k' s' r' t
  · obtain ⟨a, vs, e1, h1, hS1, l1⟩ := tup_of k r1
    obtain ⟨b, ws, e2, h2, hS2, l2⟩ := tup_of k r2
    obtain ⟨hz, t⟩ := t
    refine .inr (.inr (.inr ⟨a, b, vs, ws, e1, e2, SqT.of h1, SqT.of h2, by rw [l1.length, l2.length]; exact hz, fun z => ?_, fun z z2 => ?_, fun z z2 p hp => ?_⟩))
    · subst z
      have e0 : ∀ {ds : List D}, RepL c.B S ds [] → ds = [] := fun {ds} l => by
        have := l.length
        exact List.length_eq_zero_iff.mp (by simpa using this.symm)
      have e3 := e0 l1
      subst e3
      exact q _ H S _ k (Same.refl S) (show Rep c.B S (.tup ([] ++ _)) (.ref b) from ⟨b, ws, rfl, hS2, l2⟩) t
    · subst z2
      have e0 : ∀ {ds : List D}, RepL c.B S ds [] → ds = [] := fun {ds} l => by
        have := l.length
        exact List.length_eq_zero_iff.mp (by simpa using this.symm)
      have e3 := e0 l2
      subst e3
      rw [List.append_nil] at t
      exact q _ H S (.tup _) k (Same.refl S) ⟨a, vs, rfl, hS1, l1⟩ t
    · obtain ⟨k', s', r'⟩ := put_tup k (l1.app l2) hp
      exact q _ _ _ _ k' s' r' t
theorem d_add (ha : DE X E a Ta) (hb : DE X E b Tb) : DE X E (.BinOp a .Add b pos) (xOp opAdd Ta Tb) := d_op op_addAll smOp_add ha hb
theorem d_sub (ha : DE X E a Ta) (hb : DE X E b Tb) : DE X E (.BinOp a .Sub b pos) (xOp opSub Ta Tb) := d_op op_sub (smOp_int0 (f := fun i j => .int (i - j)) (fun _ _ _ _ => rfl) fun x y R t => by
  cases x <;> cases y <;> first | exact (show False from t).elim | exact ⟨_, _, rfl, rfl, t⟩) ha hb
def xUn (f : D → (D → Prop) → Prop) (Ta : DT) : DT := fun env R Rx => Ta env (fun x => f x R) Rx
def opNeg : D → (D → Prop) → Prop
  | .int i, R => R (.int (-i))
  | _, _ => False
theorem d_neg (ha : DE X E a Ta) : DE X E (.UnaryOp .USub a pos) (xUn opNeg Ta) := by
  obtain ⟨ta, p1, s1⟩ := ha
  refine ⟨_, pe_un un_neg p1, fun c σ H S env R Rx x k t Q q => s1 c σ H S env _ Rx x k t _ fun v H1 S1 d k1 s1 r1 t1 => ?_⟩
  cases d <;> try exact (show False from t1).elim
  exact ⟨_, r1, q _ H1 S1 (.int _) k1 s1 rfl t1⟩
end
end DL
namespace DL
open PySem PySem.Spec L2
variable [TbC]
mutual
def D.py : D → PyData
  | .bl b => .bool b
  | .int i => .int i
  | .str s => .str s
  | .lst xs => .list (pyL xs)
  | .tup xs => .tuple (pyL xs)
  | .non | .ty _ | .adr _ | .bag | .fn _ _ _ | .exc _ _ _ _ _ | .dct _ _ | .dcT _ _ | .obj _ _ _ => .none
def pyL : List D → List PyData
  | [] => []
  | x :: xs => x.py :: pyL xs
end
mutual
def D.dat : D → Bool
  | .non | .bl _ | .int _ | .str _ => true
  | .lst xs | .tup xs => datL xs
  | .ty _ | .adr _ | .bag | .fn _ _ _ | .exc _ _ _ _ _ | .dct _ _ | .dcT _ _ | .obj _ _ _ => false
def datL : List D → Bool
  | [] => true
  | x :: xs => x.dat && datL xs
end
mutual
def D.dep : D → Nat
  | .lst xs | .tup xs => 1 + depL xs
  | .non | .bl _ | .int _ | .str _ | .ty _ | .adr _ | .bag | .fn _ _ _ | .exc _ _ _ _ _ | .dct _ _ | .dcT _ _ | .obj _ _ _ => 1
def depL : List D → Nat
  | [] => 0
  | x :: xs => max x.dep (depL xs)
end
mutual
theorem py_plain : ∀ d : D, d.py.plain = true
  | .non | .bl _ | .int _ | .str _ | .ty _ | .adr _ | .bag | .fn _ _ _ | .exc _ _ _ _ _ | .dct _ _ | .dcT _ _ | .obj _ _ _ => rfl
  | .lst xs => py_plainL xs
  | .tup xs => py_plainL xs
theorem py_plainL : ∀ xs : List D, PyData.plainAll (pyL xs) = true
  | [] => rfl
  | x :: xs => by
    show (x.py.plain && PyData.plainAll (pyL xs)) = true
    rw [py_plain x, py_plainL xs]
    rfl
end
section
variable {B : Option Addr} {S H : Hp} {K : PySem.W.Frag}
mutual
theorem rep_dp (h : Same S H) : ∀ (d : D) (v : V), d.dat = true → Rep B S d v → Dp K H v d.py
  | .non, v, _, r => by rw [show v = .non from r]; exact .non
  | .bl b, v, _, r => by rw [show v = .bl b from r]; exact .bl b
  | .int i, v, _, r => by rw [show v = .int i from r]; exact .int i
  | .str s, v, _, r => by rw [show v = .str s from r]; exact .str s
  | .lst ds, v, t, r => by
    rw [Rep] at r
    obtain ⟨a, vs, e, q, l⟩ := r
    subst e
    exact .lst (SqL.of (h _ _ q)) (repL_dp h ds vs t l)
  | .tup ds, v, t, r => by
    rw [Rep] at r
    obtain ⟨a, vs, e, q, l⟩ := r
    subst e
    exact .tup (SqT.of (h _ _ q)) (repL_dp h ds vs t l)
  | .ty _, _, t, _ => nomatch (show false = true from t)
  | .adr _, _, t, _ => nomatch (show false = true from t)
  | .bag, _, t, _ => nomatch (show false = true from t)
  | .fn _ _ _, _, t, _ => nomatch (show false = true from t)
  | .exc _ _ _ _ _, _, t, _ => nomatch (show false = true from t)
  | .dct _ _, _, t, _ => nomatch (show false = true from t)
  | .dcT _ _, _, t, _ => nomatch (show false = true from t)
  | .obj _ _ _, _, t, _ => nomatch (show false = true from t)
theorem repL_dp (h : Same S H) : ∀ (ds : List D) (vs : List V), datL ds = true → RepL B S ds vs → DpAll K H vs (pyL ds)
  | [], vs, _, l => by rw [repL_nil_of l]; exact .nil
  | d :: ds, vs, t, l => by
    obtain ⟨v, ws, e, r, l2⟩ := repL_cons_of l
    subst e
    have t2 : (d.dat && datL ds) = true := t
    rw [Bool.and_eq_true] at t2
    exact .cons (rep_dp h d v t2.1 r) (repL_dp h ds ws t2.2 l2)
end
end
mutual
theorem py_depth : ∀ d : D, d.py.depth ≤ d.dep
  | .non | .bl _ | .int _ | .str _ | .ty _ | .adr _ | .bag | .fn _ _ _ | .exc _ _ _ _ _ | .dct _ _ | .dcT _ _ | .obj _ _ _ => by simp [D.py, D.dep, PyData.depth]
  | .lst xs => by
    have := py_depthL xs
    simp only [D.py, D.dep, PyData.depth]
    omega
  | .tup xs => by
    have := py_depthL xs
    simp only [D.py, D.dep, PyData.depth]
    omega
theorem py_depthL : ∀ xs : List D, PyData.depthAll (pyL xs) ≤ depL xs
  | [] => by simp [pyL, depL, PyData.depthAll]
  | x :: xs => by
    have h1 := py_depth x
    have h2 := py_depthL xs
    simp only [pyL, depL, PyData.depthAll]
    omega
end
section
variable {X : Cx} {E : XK} {pos : Pos} {a b c : Expr} {Ta Tb Tc : DT} {ta tb tc : TE}
def rEqP (K : PySem.W.Frag) : R2 := fun x y H Q => ∃ d e, Dp K H x d ∧ Dp K H y e ∧ d.plain = true ∧ e.plain = true ∧ d.depth ≤ 64 ∧ Q (.bl (PyData.eqv d e)) H
def rNeP (K : PySem.W.Frag) : R2 := fun x y H Q => ∃ d e, Dp K H x d ∧ Dp K H y e ∧ d.plain = true ∧ e.plain = true ∧ d.depth ≤ 64 ∧ Q (.bl (!PyData.eqv d e)) H
theorem op_eqP (hu : X.A.units + 64 < cLine) : OpR X (compareOp .Eq) (rEqP X.K) := by
  intro pins s σ H x y v u Q I rx ry h
  obtain ⟨d, e, hd, he, pd, pe, hz, q⟩ := h
  obtain ⟨as, r1⟩ := Dp.reads I d x v hd rx
  obtain ⟨bs, r2⟩ := Dp.reads I e y u he ry
  exact SeqAt.eq_plain r1 r2 pd pe (by have := Nat.min_le_left d.depth e.depth; omega) ⟨.bl _, H, I, rfl, q⟩
theorem op_neP (hu : X.A.units + 64 < cLine) : OpR X (compareOp .NotEq) (rNeP X.K) := by
  intro pins s σ H x y v u Q I rx ry h
  obtain ⟨d, e, hd, he, pd, pe, hz, q⟩ := h
  obtain ⟨as, r1⟩ := Dp.reads I d x v hd rx
  obtain ⟨bs, r2⟩ := Dp.reads I e y u he ry
  exact SeqAt.ne_plain r1 r2 pd pe (by have := Nat.min_le_left d.depth e.depth; omega) ⟨.bl _, H, I, rfl, q⟩
def opEq : DOp := fun x y R => x.dat = true ∧ y.dat = true ∧ x.dep ≤ 64 ∧ R (.bl (PyData.eqv x.py y.py))
def opNe : DOp := fun x y R => x.dat = true ∧ y.dat = true ∧ x.dep ≤ 64 ∧ R (.bl (!PyData.eqv x.py y.py))
def CmpOk (X : Cx) (op : CmpOp) (dop : DOp) : Prop := ∃ r, OpR X (compareOp op) r ∧ SmOp r dop
theorem c_eq (hu : X.A.units + 64 < cLine) : CmpOk X .Eq opEq := ⟨_, op_eqP hu, fun c σ H S env x y v u R k r1 r2 t Q q => by
  obtain ⟨t1, t2, t3, t⟩ := t
  exact ⟨x.py, y.py, rep_dp k.kf.sub x v t1 r1, rep_dp k.kf.sub y u t2 r2, py_plain x, py_plain y, Nat.le_trans (py_depth x) t3, q _ H S (.bl _) k (Same.refl S) rfl t⟩⟩
theorem c_ne (hu : X.A.units + 64 < cLine) : CmpOk X .NotEq opNe := ⟨_, op_neP hu, fun c σ H S env x y v u R k r1 r2 t Q q => by
  obtain ⟨t1, t2, t3, t⟩ := t
  exact ⟨x.py, y.py, rep_dp k.kf.sub x v t1 r1, rep_dp k.kf.sub y u t2 r2, py_plain x, py_plain y, Nat.le_trans (py_depth x) t3, q _ H S (.bl _) k (Same.refl S) rfl t⟩⟩
def opLt : DOp
  | .int i, .int j, R => R (.bl (decide (i < j)))
  | _, _, _ => False
def opLe : DOp
  | .int i, .int j, R => R (.bl (decide (i ≤ j)))
  | _, _, _ => False
def opGt : DOp
  | .int i, .int j, R => R (.bl (decide (j < i)))
  | _, _, _ => False
def opGe : DOp
  | .int i, .int j, R => R (.bl (decide (j ≤ i)))
  | _, _, _ => False
theorem c_lt : CmpOk X .Lt opLt := ⟨_, op_lt, smOp_int0 (f := fun i j => .bl (decide (i < j))) (fun _ _ _ _ => rfl) fun x y R t => by
  cases x <;> cases y <;> first | exact (show False from t).elim | exact ⟨_, _, rfl, rfl, t⟩⟩
theorem c_le : CmpOk X .LtE opLe := ⟨_, op_le, smOp_int0 (f := fun i j => .bl (decide (i ≤ j))) (fun _ _ _ _ => rfl) fun x y R t => by
  cases x <;> cases y <;> first | exact (show False from t).elim | exact ⟨_, _, rfl, rfl, t⟩⟩
theorem c_ge : CmpOk X .GtE opGe := ⟨_, op_ge, smOp_int0 (f := fun i j => .bl (decide (j ≤ i))) (fun _ _ _ _ => rfl) fun x y R t => by
  cases x <;> cases y <;> first | exact (show False from t).elim | exact ⟨_, _, rfl, rfl, t⟩⟩
/-- is None -/
def D.isN : D → Bool
  | .non => true
  | _ => false
theorem rep_isN {B : Option Addr} {S : Hp} {d : D} {v : V} (r : Rep B S d v) : decide (v = .non) = d.isN := by
  cases d with
  | non => rw [show v = .non from r]; rfl
  | bl _ => rw [show v = _ from r]; rfl
  | int _ => rw [show v = _ from r]; rfl
  | str _ => rw [show v = _ from r]; rfl
  | ty _ => rw [show v = _ from r]; rfl
  | adr _ => rw [show v = _ from r]; rfl
  | bag => obtain ⟨b, _, e⟩ := r; rw [e]; rfl
  | fn _ _ _ => rw [Rep] at r; obtain ⟨_, _, _, e, _⟩ := r; rw [e]; rfl
  | exc _ _ _ _ _ => rw [Rep] at r; obtain ⟨_, e, _⟩ := r; rw [e]; rfl
  | lst _ => rw [Rep] at r; obtain ⟨_, _, e, _⟩ := r; rw [e]; rfl
  | tup _ => rw [Rep] at r; obtain ⟨_, _, e, _⟩ := r; rw [e]; rfl
  | obj _ _ _ => rw [Rep] at r; obtain ⟨_, _, _, e, _⟩ := r; rw [e]; rfl
  | dct _ _ => rw [Rep] at r; obtain ⟨_, _, e, _⟩ := r; rw [e]; rfl
  | dcT _ _ => rw [Rep] at r; obtain ⟨_, _, e, _⟩ := r; rw [e]; rfl
def opIs : DOp := fun x y R => y.isN = true ∧ R (.bl x.isN)
def opIsNot : DOp := fun x y R => y.isN = true ∧ R (.bl (!x.isN))
theorem isN_eq {B : Option Addr} {S : Hp} {d : D} {v : V} (r : Rep B S d v) (h : d.isN = true) : v = .non := by
  rw [← rep_isN r] at h
  exact of_decide_eq_true h
theorem c_is : CmpOk X .Is opIs := ⟨_, op_isN, fun c σ H S env x y v u R k r1 r2 t Q q => ⟨isN_eq r2 t.1, by
  rw [rep_isN r1]
  exact q _ H S (.bl _) k (Same.refl S) rfl t.2⟩⟩
/-- in: scalars in a list, a tuple -/
def D.sc : D → Bool
  | .non | .bl _ | .int _ | .str _ => true
  | _ => false
def D.v : D → V
  | .bl b => .bl b
  | .int i => .int i
  | .str s => .str s
  | _ => .non
theorem rep_v {B : Option Addr} {S : Hp} {d : D} {v : V} (r : Rep B S d v) (h : d.sc = true) : v = d.v ∧ flatV d.v = true := by
  cases d <;> first | exact ⟨r, rfl⟩ | exact nomatch (show false = true from h)
theorem repL_v {B : Option Addr} {S : Hp} : ∀ {ds : List D} {vs : List V}, RepL B S ds vs → ds.all D.sc = true → vs = ds.map D.v ∧ (ds.map D.v).all flatV = true
  | [], vs, r, _ => ⟨repL_nil_of r, rfl⟩
  | d :: ds, vs, r, h => by
    obtain ⟨v, ws, e, r1, l⟩ := repL_cons_of r
    subst e
    rw [List.all_cons, Bool.and_eq_true] at h
    obtain ⟨e1, f1⟩ := rep_v r1 h.1
    obtain ⟨e2, f2⟩ := repL_v l h.2
    subst e1
    subst e2
    exact ⟨rfl, by rw [List.map_cons, List.all_cons, f1, f2]; rfl⟩
/-- one sign in a text -/
def oneSign (s : Str) : Option Nat := match s.cps.toList with
  | [c] => some c
  | _ => none
theorem oneSign_eq {s : Str} {c : Nat} (h : oneSign s = some c) : s = ⟨#[c]⟩ := by
  obtain ⟨⟨l⟩⟩ := s
  unfold oneSign at h
  cases l with
  | nil => cases h
  | cons x r => cases r with
    | nil => cases h; rfl
    | cons y r => cases h
def opIn : DOp := fun x y R => match y with
  | .lst ys | .tup ys => x.sc = true ∧ ys.all D.sc = true ∧ R (.bl (inV x.v (ys.map D.v)))
  | .str z => ∃ s c, x = .str s ∧ oneSign s = some c ∧ R (.bl (decide (c ∈ z.cps.toList)))
  | _ => False
def opNotIn : DOp := fun x y R => opIn x y fun d => match d with
  | .bl b => R (.bl (!b))
  | _ => False
theorem c_in : CmpOk X .In opIn := by
  refine ⟨_, op_in_seq.or op_in_sign, fun c σ H S env x y v u R k r1 r2 t Q q => ?_⟩
  cases y <;> try exact (show False from t).elim
  · obtain ⟨s, c, rfl, e, t⟩ := t
    refine .inr ⟨c, _, ?_, r2, q _ H S (.bl _) k (Same.refl S) rfl t⟩
    rw [← oneSign_eq e]
    exact r1
  · obtain ⟨t1, t2, t⟩ := t
    obtain ⟨a, vs, e, h, _, l⟩ := lst_of k r2
    obtain ⟨e1, f1⟩ := rep_v r1 t1
    obtain ⟨e2, f2⟩ := repL_v l t2
    subst e1
    subst e2
    exact .inl ⟨a, _, e, .inl (SqL.of h), f1, f2, q _ H S (.bl _) k (Same.refl S) rfl t⟩
  · obtain ⟨t1, t2, t⟩ := t
    obtain ⟨a, vs, e, h, _, l⟩ := tup_of k r2
    obtain ⟨e1, f1⟩ := rep_v r1 t1
    obtain ⟨e2, f2⟩ := repL_v l t2
    subst e1
    subst e2
    exact .inl ⟨a, _, e, .inr (SqT.of h), f1, f2, q _ H S (.bl _) k (Same.refl S) rfl t⟩
theorem c_notin : CmpOk X .NotIn opNotIn := by
  refine ⟨_, op_notIn_seq.or op_notIn_sign, fun c σ H S env x y v u R k r1 r2 t Q q => ?_⟩
  cases y <;> try exact (show False from t).elim
  · obtain ⟨s, c, rfl, e, t⟩ := t
    refine .inr ⟨c, _, ?_, r2, q _ H S (.bl _) k (Same.refl S) rfl t⟩
    rw [← oneSign_eq e]
    exact r1
  · obtain ⟨t1, t2, t⟩ := t
    obtain ⟨a, vs, e, h, _, l⟩ := lst_of k r2
    obtain ⟨e1, f1⟩ := rep_v r1 t1
    obtain ⟨e2, f2⟩ := repL_v l t2
    subst e1
    subst e2
    exact .inl ⟨a, _, e, .inl (SqL.of h), f1, f2, q _ H S (.bl _) k (Same.refl S) rfl t⟩
  · obtain ⟨t1, t2, t⟩ := t
    obtain ⟨a, vs, e, h, _, l⟩ := tup_of k r2
    obtain ⟨e1, f1⟩ := rep_v r1 t1
    obtain ⟨e2, f2⟩ := repL_v l t2
    subst e1
    subst e2
    exact .inl ⟨a, _, e, .inr (SqT.of h), f1, f2, q _ H S (.bl _) k (Same.refl S) rfl t⟩
theorem d_cmp {op : CmpOp} {dop : DOp} (h : CmpOk X op dop) (ha : DE X E a Ta) (hb : DE X E b Tb) (hm : behindInMarks op b = false) : DE X E (.Compare a [op] [b] pos) (xOp dop Ta Tb) := by
  obtain ⟨r, h1, h2⟩ := h
  obtain ⟨ta, p1, s1⟩ := ha
  obtain ⟨tb, p2, s2⟩ := hb
  exact ⟨_, pe_cmpR h1 p1 p2 hm, sm_op h2 s1 s2⟩
/-- a value's truth that is a bool -/
def asB (R : Bool → Prop) : D → Prop
  | .bl b => R b
  | _ => False
def xTest (T : DT) : DTT := fun env R Rx => T env (asB R) Rx
theorem smT_test {t : TE} {T : DT} (h : Sm E t T) : SmT E (tTest t) (xTest T) := fun c σ H S env R Rx x k t Q q =>
  h c σ H S env _ Rx x k t _ fun v H1 S1 d k1 s1 r1 t1 => by
    cases d <;> try exact (show False from t1).elim
    exact ⟨_, r1, q _ H1 S1 k1 s1 t1⟩
theorem dt_cmp {op : CmpOp} {dop : DOp} (h : CmpOk X op dop) (ha : DE X E a Ta) (hb : DE X E b Tb) (hm : behindInMarks op b = false) : DTe X E (.Compare a [op] [b] pos) (xTest (xOp dop Ta Tb)) := by
  obtain ⟨r, h1, h2⟩ := h
  obtain ⟨ta, p1, s1⟩ := ha
  obtain ⟨tb, p2, s2⟩ := hb
  exact ⟨_, pt_cmpR h1 p1 p2 hm, smT_test (sm_op h2 s1 s2)⟩
def xChain (o o' : DOp) (Ta Tb Tc : DT) : DT := fun env R Rx => Ta env (fun x => Tb env (fun y => o x y (asB fun k => (k = true → Tc env (fun z => o' y z R) Rx) ∧ (k = false → R (.bl false)))) Rx) Rx
theorem sm_chain {r r' : R2} {o o' : DOp} (h : SmOp r o) (h' : SmOp r' o') (ha : Sm E ta Ta) (hb : Sm E tb Tb) (hc : Sm E tc Tc) : Sm E (tChain r r' ta tb tc) (xChain o o' Ta Tb Tc) := fun c σ H S env R Rx x k t Q q =>
  ha c σ H S env _ Rx x k t _ fun v H1 S1 d1 k1 s1 r1 t1 => hb c σ H1 S1 env _ Rx x k1 t1 _ fun u H2 S2 d2 k2 s2 r2 t2 =>
    h c σ H2 S2 env d1 d2 v u _ k2 (rep_mono s2 d1 v r1) r2 t2 _ fun z H3 S3 d3 k3 s3 r3 t3 => by
      cases d3 <;> try exact (show False from t3).elim
      rename_i kk
      refine ⟨kk, r3, ?_⟩
      obtain ⟨q1, q2⟩ := t3
      cases kk with
      | true =>
        refine iteT ?_
        exact hc c σ H3 S3 env _ Rx x k3 (q1 rfl) _ fun w' H4 S4 d4 k4 s4 r4 t4 => h' c σ H4 S4 env d2 d4 u w' R k4 (rep_mono (s3.trans s4) d2 u r2) r4 t4 Q fun z H5 S5 d5 k5 s5 r5 t5 => q z H5 S5 d5 k5 ((((s1.trans s2).trans s3).trans s4).trans s5) r5 t5
      | false =>
        refine iteF ?_
        exact q _ H3 S3 (.bl false) k3 ((s1.trans s2).trans s3) rfl (q2 rfl)
theorem d_chain {op op' : CmpOp} {o o' : DOp} (h : CmpOk X op o) (h' : CmpOk X op' o') (ha : DE X E a Ta) (hb : DE X E b Tb) (hc : DE X E c Tc) (hm : lastMarks [op, op'] [b, c] = false := by with_unfolding_all rfl) :
    DE X E (.Compare a [op, op'] [b, c] pos) (xChain o o' Ta Tb Tc) := by
  obtain ⟨r, h1, h2⟩ := h
  obtain ⟨r', h1', h2'⟩ := h'
  obtain ⟨ta, p1, s1⟩ := ha
  obtain ⟨tb, p2, s2⟩ := hb
  obtain ⟨tc, p3, s3⟩ := hc
  exact ⟨_, pe_chain h1 h1' p1 p2 p3 hm, sm_chain h2 h2' s1 s2 s3⟩
variable {TA TB : DTT} {rest : List Expr}
def xAnd (T U : DTT) : DTT := fun env R Rx => T env (fun b => (b = true → U env R Rx) ∧ (b = false → R false)) Rx
def xOr (T U : DTT) : DTT := fun env R Rx => T env (fun b => (b = true → R true) ∧ (b = false → U env R Rx)) Rx
def xNot (T : DTT) : DTT := fun env R Rx => T env (fun b => R (!b)) Rx
theorem dw_pt {e : Expr} {T : DTT} (h : DWe X E e T) : DTe X E e T := by
  obtain ⟨t, p, s⟩ := h
  exact ⟨t, p.pt, s⟩
theorem dw_and1 (h : DTe X E a TA) : DWe X E (.BoolOp .And [a] pos) TA := by
  obtain ⟨t, p, s⟩ := h
  exact ⟨t, pw_and1 p, s⟩
theorem dw_or1 (h : DTe X E a TA) : DWe X E (.BoolOp .Or [a] pos) TA := by
  obtain ⟨t, p, s⟩ := h
  exact ⟨t, pw_or1 p, s⟩
theorem dw_and (h : DTe X E a TA) (h2 : DWe X E (.BoolOp .And (b :: rest) pos) TB) : DWe X E (.BoolOp .And (a :: b :: rest) pos) (xAnd TA TB) := by
  obtain ⟨t, p, s⟩ := h
  obtain ⟨u, p2, s2⟩ := h2
  refine ⟨_, pw_and p p2, fun c σ H S env R Rx x k t Q q => s c σ H S env _ Rx x k t _ fun bb H1 S1 k1 s1 t1 => ?_⟩
  cases bb with
  | true => exact iteT (s2 c σ H1 S1 env R Rx x k1 (t1.1 rfl) Q fun b H2 S2 k2 s3 r => q b H2 S2 k2 (s1.trans s3) r)
  | false => exact iteF (q false H1 S1 k1 s1 (t1.2 rfl))
theorem dw_or (h : DTe X E a TA) (h2 : DWe X E (.BoolOp .Or (b :: rest) pos) TB) : DWe X E (.BoolOp .Or (a :: b :: rest) pos) (xOr TA TB) := by
  obtain ⟨t, p, s⟩ := h
  obtain ⟨u, p2, s2⟩ := h2
  refine ⟨_, pw_or p p2, fun c σ H S env R Rx x k t Q q => s c σ H S env _ Rx x k t _ fun bb H1 S1 k1 s1 t1 => ?_⟩
  cases bb with
  | true => exact iteT (q true H1 S1 k1 s1 (t1.1 rfl))
  | false => exact iteF (s2 c σ H1 S1 env R Rx x k1 (t1.2 rfl) Q fun b H2 S2 k2 s3 r => q b H2 S2 k2 (s1.trans s3) r)
theorem dt_not (h : DTe X E a TA) : DTe X E (.UnaryOp .Not a pos) (xNot TA) := by
  obtain ⟨t, p, s⟩ := h
  exact ⟨_, pt_not p, fun c σ H S env R Rx x k t Q q => s c σ H S env _ Rx x k t _ fun bb H1 S1 k1 s1 t1 => q _ H1 S1 k1 s1 t1⟩
/-- as values -/
def xAndV (Ta Tb : DT) : DT := fun env R Rx => Ta env (asB fun b => (b = true → Tb env R Rx) ∧ (b = false → R (.bl false))) Rx
def xOrV (Ta Tb : DT) : DT := fun env R Rx => Ta env (asB fun b => (b = true → R (.bl true)) ∧ (b = false → Tb env R Rx)) Rx
def xNotV (Ta : DT) : DT := fun env R Rx => Ta env (asB fun b => R (.bl (!b))) Rx
theorem d_one {op : BoolOp} (h : DE X E a Ta) : DE X E (.BoolOp op [a] pos) Ta := by
  obtain ⟨t, p, s⟩ := h
  exact ⟨t, pe_one p, s⟩
theorem d_and (h : DE X E a Ta) (h2 : DE X E (.BoolOp .And (b :: rest) pos) Tb) : DE X E (.BoolOp .And (a :: b :: rest) pos) (xAndV Ta Tb) := by
  obtain ⟨t, p, s⟩ := h
  obtain ⟨u, p2, s2⟩ := h2
  refine ⟨_, pe_and p p2, fun c σ H S env R Rx x k t Q q => s c σ H S env _ Rx x k t _ fun v H1 S1 d k1 s1 r1 t1 => ?_⟩
  cases d <;> try exact (show False from t1).elim
  rename_i bb
  refine ⟨bb, r1, ?_⟩
  have t1 : (bb = true → Tb env R Rx) ∧ (bb = false → R (.bl false)) := t1
  cases bb with
  | true => exact iteT (s2 c σ H1 S1 env R Rx x k1 (t1.1 rfl) Q fun b H2 S2 d2 k2 s3 r => q b H2 S2 d2 k2 (s1.trans s3) r)
  | false => exact iteF (q _ H1 S1 (.bl false) k1 s1 rfl (t1.2 rfl))
theorem d_not (h : DE X E a Ta) : DE X E (.UnaryOp .Not a pos) (xNotV Ta) := by
  obtain ⟨t, p, s⟩ := h
  refine ⟨_, pe_not p, fun c σ H S env R Rx x k t Q q => s c σ H S env _ Rx x k t _ fun v H1 S1 d k1 s1 r1 t1 => ?_⟩
  cases d <;> try exact (show False from t1).elim
  exact ⟨_, r1, q _ H1 S1 (.bl _) k1 s1 rfl t1⟩
def xIf (T : DTT) (Ta Tb : DT) : DT := fun env R Rx => T env (fun b => (b = true → Ta env R Rx) ∧ (b = false → Tb env R Rx)) Rx
theorem d_if {T : DTT} (h : DTe X E c T) (ha : DE X E a Ta) (hb : DE X E b Tb) : DE X E (.IfExp c a b pos) (xIf T Ta Tb) := by
  obtain ⟨t, p, s⟩ := h
  obtain ⟨ta, p1, s1⟩ := ha
  obtain ⟨tb, p2, s2⟩ := hb
  refine ⟨_, pe_ifExp p p1 p2, fun c σ H S env R Rx x k t Q q => s c σ H S env _ Rx x k t _ fun bb H1 S1 k1 s3 t1 => ?_⟩
  cases bb with
  | true => exact iteT (s1 c σ H1 S1 env R Rx x k1 (t1.1 rfl) Q fun v H2 S2 d k2 s4 r => q v H2 S2 d k2 (s3.trans s4) r)
  | false => exact iteF (s2 c σ H1 S1 env R Rx x k1 (t1.2 rfl) Q fun v H2 S2 d k2 s4 r => q v H2 S2 d k2 (s3.trans s4) r)
/-- truth of a value of any kind -/
def D.tru : D → Option Bool
  | .non => some false
  | .bl b => some b
  | .int i => some (i != 0)
  | .str s => if s.length ≤ sizeLine then some ((s.length : Int) != 0) else none
  | .lst xs => some (!xs.isEmpty)
  | .tup xs => some (!xs.isEmpty)
  | _ => none
def xTru (Ta : DT) : DTT := fun env R Rx => Ta env (fun x => ∃ b, x.tru = some b ∧ R b) Rx
theorem dt_tru (h : DE X E a Ta) (he : ∀ whole, isTrue a X.env whole = (do let v ← whole; standAt a.pos; holding [v] (truthy v)) := by intro _; rfl) : DTe X E a (xTru Ta) := by
  obtain ⟨t, p, s⟩ := h
  refine ⟨_, pt_truth p he, fun c σ H S env R Rx x k t Q q => s c σ H S env _ Rx x k t _ fun v H1 S1 d k1 s1 r1 t1 => ?_⟩
  obtain ⟨bb, e, t1⟩ := t1
  refine ⟨bb, ?_, q bb H1 S1 k1 s1 t1⟩
  cases d with
  | non => rw [show v = .non from r1]; cases e; rfl
  | bl _ => rw [show v = _ from r1]; cases e; rfl
  | int _ => rw [show v = _ from r1]; cases e; rfl
  | str z =>
    rw [show v = _ from r1]
    have e : (if z.length ≤ sizeLine then some ((z.length : Int) != 0) else none) = some bb := e
    by_cases hz : z.length ≤ sizeLine
    · rw [if_pos hz] at e
      cases e
      exact ⟨hz, rfl⟩
    · rw [if_neg hz] at e
      cases e
  | lst xs =>
    obtain ⟨a, vs, e1, h1, _, l1⟩ := lst_of k1 r1
    subst e1
    cases e
    refine .inl ⟨vs, SqL.of h1, ?_⟩
    have := l1.length
    cases xs <;> cases vs <;> simp_all
  | tup xs =>
    obtain ⟨a, vs, e1, h1, _, l1⟩ := tup_of k1 r1
    subst e1
    cases e
    refine .inr (.inl ⟨vs, SqT.of h1, ?_⟩)
    have := l1.length
    cases xs <;> cases vs <;> simp_all
  | _ => cases e
variable {es : List Expr} {Tl : DTA}
def xNil : DTA := fun _ R _ => R []
def xCons (Ta : DT) (Tl : DTA) : DTA := fun env R Rx => Ta env (fun x => Tl env (fun xs => R (x :: xs)) Rx) Rx
theorem da_nil : DA X E [] xNil := ⟨_, pa_nil, fun c σ H S env R Rx x k t Q q => q [] H S [] k (Same.refl S) repL_nil t⟩
theorem smA_cons {t : L2.TA} (ha : Sm E ta Ta) (hl : SmA E t Tl) : SmA E (tCons ta t) (xCons Ta Tl) := fun c σ H S env R Rx x k t Q q =>
  ha c σ H S env _ Rx x k t _ fun v H1 S1 d k1 s1 r1 t1 => hl c σ H1 S1 env _ Rx x k1 t1 _ fun vs H2 S2 ds k2 s2 r2 t2 => q _ H2 S2 _ k2 (s1.trans s2) (repL_cons (rep_mono s2 d v r1) r2) t2
theorem da_cons (ha : DE X E a Ta) (hl : DA X E es Tl) (hs : starEach (a :: es) X.env = (false, eval a X.env) :: starEach es X.env := by rfl) : DA X E (a :: es) (xCons Ta Tl) := by
  obtain ⟨ta, p, s⟩ := ha
  obtain ⟨t, p2, s2⟩ := hl
  exact ⟨_, pa_cons p p2 hs, smA_cons s s2⟩
def xLst (Tl : DTA) : DT := fun env R Rx => Tl env (fun xs => xs.length ≤ sizeLine ∧ R (.lst xs)) Rx
def xTup (Tl : DTA) : DT := fun env R Rx => Tl env (fun xs => xs.length ≤ sizeLine ∧ R (.tup xs)) Rx
theorem sm_tup {t : L2.TA} (h : SmA E t Tl) : Sm E (tTup t) (xTup Tl) := fun c σ H S env R Rx x k t Q q =>
  h c σ H S env _ Rx x k t _ fun vs H1 S1 ds k1 s1 r1 t1 => ⟨by rw [r1.length]; exact t1.1, fun p hp => by
    obtain ⟨k', s', r'⟩ := put_tup k1 r1 hp
    exact q _ _ _ _ k' (s1.trans s') r' t1.2⟩
theorem d_tup {x1} (h : DA X E es Tl) : DE X E (.Tuple es x1 pos) (xTup Tl) := by
  obtain ⟨t, p, s⟩ := h
  exact ⟨_, pe_tup p, sm_tup s⟩
def opIx : DOp
  | .lst xs, .int i, R => ∃ d, atI xs i = some d ∧ R d
  | .tup xs, .int i, R => ∃ d, atI xs i = some d ∧ R d
  | .str s, .int i, R => s.length ≤ sizeLine ∧ ∃ c, atI s.cps.toList i = some c ∧ R (.str ⟨#[c]⟩)
  | _, _, _ => False
theorem atI_rep {B : Option Addr} {S : Hp} {xs : List D} {vs : List V} {i : Int} {d : D} (l : RepL B S xs vs) (h : atI xs i = some d) : ∃ v, atI vs i = some v ∧ Rep B S d v := by
  unfold atI at h ⊢
  rw [l.length]
  cases e : ixN xs.length i with
  | none => rw [e] at h; cases h
  | some j =>
    rw [e] at h
    exact l.get h
theorem smOp_ix {K : PySem.W.Frag} : SmOp (rIx K) opIx := by
  intro c σ H S env x y v u R k r1 r2 t Q q
  cases x <;> cases y <;> try exact (show False from t).elim
  · obtain ⟨hz, ch, e, t⟩ := t
    exact .inr (.inr ⟨_, _, ch, r1, r2, hz, e, q _ H S (.str _) k (Same.refl S) rfl t⟩)
  · obtain ⟨d, e, t⟩ := t
    obtain ⟨a, vs, e1, h1, _, l1⟩ := lst_of k r1
    obtain ⟨w', e2, r3⟩ := atI_rep l1 e
    exact .inl ⟨a, vs, _, w', e1, r2, SqL.of h1, e2, q _ H S d k (Same.refl S) r3 t⟩
  · obtain ⟨d, e, t⟩ := t
    obtain ⟨a, vs, e1, h1, _, l1⟩ := tup_of k r1
    obtain ⟨w', e2, r3⟩ := atI_rep l1 e
    exact .inr (.inl ⟨a, vs, _, w', e1, r2, SqT.of h1, e2, q _ H S d k (Same.refl S) r3 t⟩)
theorem d_ix (ha : DE X E a Ta) (hb : DE X E b Tb) (hs : PlainIx b := by exact fun _ _ => rfl) : DE X E (.Subscript a b pos) (xOp opIx Ta Tb) := by
  obtain ⟨ta, p1, s1⟩ := ha
  obtain ⟨tb, p2, s2⟩ := hb
  exact ⟨_, pe_ix ix_seq p1 p2 hs, sm_op smOp_ix s1 s2⟩
/-- xs[e], xs a list of the frame's own in slot i -/
def xIxO (i : Nat) (Tb : DT) : DT := fun env R Rx => ∃ xs, env[i]? = some (some (.own xs)) ∧ Tb env (fun y => match y with
  | .int j => ∃ d, atI xs j = some d ∧ R d
  | _ => False) Rx
theorem own_of {c : Fm} {σ : St} {H S : Hp} {env : En} {i : Nat} {xs : List D} (k : Kn c σ H S env) (e : env[i]? = some (some (.own xs))) : ∃ p vs, σ[i]? = some (some (.ref p)) ∧ S p = none ∧ c.H0 p = none ∧ H p = some (.lst vs) ∧ RepL c.B S xs vs := by
  obtain ⟨v, e1, p, vs, rfl, h⟩ := k.sl i _ e
  exact ⟨p, vs, e1, h⟩
abbrev DTO := En → (Option Int → Prop) → (Er → Prop) → Prop
def SmO (E : XK) (t : TO) (T : DTO) : Prop := ∀ (c : Fm) (σ : St) (H S : Hp) (env : En) (R : Option Int → Prop) (Rx : Er → Prop), XOk c E Rx → Kn c σ H S env → T env R Rx →
  ∀ Q : Option Int → Hp → Prop, (∀ o H' S', Kn c σ H' S' env → Same S S' → R o → Q o H') → t σ H Q
def DO (X : Cx) (E : XK) (e : Option Expr) (T : DTO) : Prop := ∃ t, PO X e t ∧ SmO E t T
def xNoPart : DTO := fun _ R _ => R none
def asI (R : Int → Prop) : D → Prop
  | .int i => R i
  | _ => False
def xPart (Ta : DT) : DTO := fun env R Rx => Ta env (asI fun i => R (some i)) Rx
theorem do_none : DO X E none xNoPart := ⟨_, po_none, fun c σ H S env R Rx x k t Q q => q none H S k (Same.refl S) t⟩
theorem do_some (h : DE X E a Ta) : DO X E (some a) (xPart Ta) := by
  obtain ⟨t, p, s⟩ := h
  refine ⟨_, po_some p, fun c σ H S env R Rx x k t Q q => s c σ H S env _ Rx x k t _ fun v H1 S1 d k1 s1 r1 t1 => ?_⟩
  cases d <;> try exact (show False from t1).elim
  exact ⟨_, r1, q _ H1 S1 k1 s1 t1⟩
def cutD (xs : List D) (lo hi : Option Int) : List D := (xs.drop (HT.sIx xs.length 0 lo)).take (HT.sIx xs.length xs.length hi - HT.sIx xs.length 0 lo)
theorem cut_rep {B : Option Addr} {S : Hp} {xs : List D} {vs : List V} {lo hi : Option Int} (l : RepL B S xs vs) : RepL B S (cutD xs lo hi) (cutV vs lo hi) := by
  unfold cutD cutV
  rw [l.length]
  exact (l.drop _).take _
def opSl (x : D) (lo hi : Option Int) (R : D → Prop) : Prop := match x with
  | .lst xs => R (.lst (cutD xs lo hi))
  | .tup xs => R (.tup (cutD xs lo hi))
  | .str z => z.length ≤ sizeLine ∧ R (.str (cutS z lo hi))
  | _ => False
def xSl (Ta : DT) (Tl Th : DTO) : DT := fun env R Rx => Ta env (fun x => Tl env (fun lo => Th env (fun hi => opSl x lo hi R) Rx) Rx) Rx
theorem cutD_all {xs : List D} {lo hi : Option Int} (h : HT.sIx xs.length 0 lo = 0 ∧ HT.sIx xs.length xs.length hi = xs.length) : cutD xs lo hi = xs := by
  unfold cutD
  rw [h.1, h.2]
  simp
theorem d_slice {lo hi : Option Expr} {Tl Th : DTO} {p2 : Pos} (ha : DE X E a Ta) (hl : DO X E lo Tl) (hh : DO X E hi Th) : DE X E (.Subscript a (.Slice lo hi none p2) pos) (xSl Ta Tl Th) := by
  obtain ⟨ta, pa, sa⟩ := ha
  obtain ⟨tl, pl, sl⟩ := hl
  obtain ⟨th, ph, sh⟩ := hh
  refine ⟨_, pe_slice (sl_list.or (sl_tupA.or sl_str)) pa pl ph, fun c σ H S env R Rx x k t Q q => sa c σ H S env _ Rx x k t _ fun v H1 S1 d k1 s1 r1 t1 => ?_⟩
  refine sl c σ H1 S1 env _ Rx x k1 t1 _ fun lo H2 S2 k2 s2 t2 => sh c σ H2 S2 env _ Rx x k2 t2 _ fun hi H3 S3 k3 s3 t3 => ?_
  have r3 := rep_mono (s2.trans s3) d v r1
  have ss := (s1.trans s2).trans s3
  cases d <;> try exact (show False from t3).elim
  · exact .inr (.inr ⟨_, r3, t3.1, q _ H3 S3 (.str _) k3 ss rfl t3.2⟩)
  · obtain ⟨a, vs, e1, h1, _, l1⟩ := lst_of k3 r3
    refine .inl ⟨a, vs, e1, SqL.of h1, fun p hp => ?_⟩
    obtain ⟨k', s', r'⟩ := put_lst k3 (cut_rep l1) hp
    exact q _ _ _ _ k' (ss.trans s') r' t3
  · obtain ⟨a, vs, e1, h1, hS, l1⟩ := tup_of k3 r3
    refine .inr (.inl ⟨a, vs, e1, SqT.of h1, fun hw => ?_, fun _ p hp => ?_⟩)
    · rw [l1.length] at hw
      have t4 : R (.tup (cutD _ lo hi)) := t3
      rw [cutD_all hw] at t4
      exact q _ H3 S3 (.tup _) k3 ss ⟨a, vs, rfl, hS, l1⟩ t4
    · obtain ⟨k', s', r'⟩ := put_tup k3 (cut_rep l1) hp
      exact q _ _ _ _ k' (ss.trans s') r' t3
end
end DL
namespace DL
open PySem PySem.Spec L2
variable [TbC]
section
variable {c : Fm} {σ : St} {H H' S S' : Hp} {env : En} {i : Nat} {d : D} {v : V} {p : Addr} {vs : List V} {ds xs : List D}
/-- p is nothing of the frame's own -/
def Free (σ : St) (env : En) (p : Addr) : Prop := ∀ (j : Nat) (x : DV) (v : V), env[j]? = some (some x) → σ[j]? = some (some v) → ¬ Foot x v p
theorem get_set {env : En} {i j : Nat} {o : Option DV} {x : DV} (e : (env.set i o)[j]? = some (some x)) : (i = j ∧ o = some x ∧ i < env.length) ∨ (i ≠ j ∧ env[j]? = some (some x)) := by
  by_cases z : i = j
  · subst z
    rw [List.getElem?_set] at e
    simp only [if_true] at e
    split at e
    · rename_i hi
      exact .inl ⟨rfl, Option.some.inj e, hi⟩
    · cases e
  · rw [List.getElem?_set_ne z] at e
    exact .inr ⟨z, e⟩
theorem Free.set (f : Free σ env p) {o : Option DV} (h : ∀ x v, o = some x → σ[i]? = some (some v) → ¬ Foot x v p) : Free σ (env.set i o) p := fun j x v e e2 => by
  rcases get_set e with ⟨rfl, q, _⟩ | ⟨_, e⟩
  · exact h x v q e2
  · exact f j x v e e2
theorem Free.clear (f : Free σ env p) : Free σ (env.set i none) p := f.set fun _ _ q => nomatch q
theorem Kn.put (k : Kn c σ H S env) {x : DV} (r : DvR c S H x v) (f : ∀ a, Foot x v a → Free σ (env.set i none) a) : Kn c (σ.set i (some v)) H S (env.set i (some x)) := by
  refine ⟨k.kf, by rw [List.length_set, List.length_set]; exact k.len, fun j y e => ?_, fun m n y z u w a hmn e1 e2 e3 e4 f1 f2 => ?_⟩
  · rcases get_set e with ⟨rfl, q, hi⟩ | ⟨z, e⟩
    · cases q
      have hi2 : i < σ.length := by rw [← k.len]; exact hi
      exact ⟨v, by rw [List.getElem?_set]; simp [hi2], r⟩
    · rw [List.getElem?_set_ne z]
      exact k.sl j y e
  · have at_i : ∀ {o : V}, (σ.set i (some v))[i]? = some (some o) → o = v := fun {o} q => by
      rw [List.getElem?_set] at q
      simp only [if_true] at q
      split at q <;> cases q
      rfl
    rcases get_set e1 with ⟨rfl, q, _⟩ | ⟨z1, e1⟩
    · cases q
      obtain rfl := at_i e3
      rw [List.getElem?_set_ne hmn] at e4
      exact f a f1 n z w (by rw [List.getElem?_set_ne hmn] at e2 ⊢; exact e2) e4 f2
    · rw [List.getElem?_set_ne z1] at e3
      rcases get_set e2 with ⟨rfl, q, _⟩ | ⟨z2, e2⟩
      · cases q
        obtain rfl := at_i e4
        exact f a f2 m y u (by rw [List.getElem?_set_ne z1]; exact e1) e3 f1
      · rw [List.getElem?_set_ne z2] at e4
        exact k.apart m n y z u w a hmn e1 e2 e3 e4 f1 f2
theorem Kn.set (k : Kn c σ H S env) (r : Rep c.B S d v) : Kn c (σ.set i (some v)) H S (env.set i (some (.val d))) := k.put (x := .val d) r fun _ f => f.elim
theorem Kn.free (k : Kn c σ H S env) (h : H p = none) : Free σ env p := fun j x v e e2 f => by
  obtain ⟨u, e1, r⟩ := k.sl j _ e
  rw [e1] at e2
  cases e2
  exact (r.foot p f).2.2.1 h
theorem Kn.setOwn (k : Kn c σ H S env) (h1 : S p = none) (h2 : c.H0 p = none) (h3 : H p = some (.lst vs)) (l : RepL c.B S ds vs) (f : Free σ env p) : Kn c (σ.set i (some (.ref p))) H S (env.set i (some (.own ds))) :=
  k.put (x := .own ds) ⟨p, vs, rfl, h1, h2, h3, l⟩ fun a e => by
    cases e
    exact f.clear
theorem set_id {α : Type} : ∀ {l : List α} {i : Nat} {x : α}, l[i]? = some x → l.set i x = l
  | [], _, _, e => by simp at e
  | a :: l, 0, x, e => by simp at e; subst e; rfl
  | a :: l, i + 1, x, e => by
    rw [List.set_cons_succ, set_id (by simpa using e)]
/-- what a name holds is forgotten -/
theorem Kn.clear (k : Kn c σ H S env) : Kn c σ H S (env.set i none) :=
  ⟨k.kf, by rw [List.length_set]; exact k.len, fun j x ej => by
    rcases get_set ej with ⟨_, q, _⟩ | ⟨_, ej⟩
    · cases q
    · exact k.sl j x ej, fun m n y z u w a hmn e1 e2 e3 e4 => by
    rcases get_set e1 with ⟨_, q, _⟩ | ⟨_, e1⟩
    · cases q
    rcases get_set e2 with ⟨_, q, _⟩ | ⟨_, e2⟩
    · cases q
    exact k.apart m n y z u w a hmn e1 e2 e3 e4⟩
/-- what a name holds for itself is nothing of the other names' -/
theorem Kn.mine (k : Kn c σ H S env) {x : DV} (e : env[i]? = some (some x)) (e1 : σ[i]? = some (some v)) {a : Addr} (f : Foot x v a) : Free σ (env.set i none) a := fun j y u ej e4 f2 => by
  rcases get_set ej with ⟨_, q, _⟩ | ⟨z, ej⟩
  · cases q
  · exact k.apart i j x y v u a z e ej e1 e4 f f2
theorem Kf.updFF {o0 o : HO} (k : Kf c H S) (h1 : S p = none) (h2 : c.H0 p = none) (h3 : H p = some o0) (h4 : (∀ ps, o0 ≠ .tbl ps) ∧ ¬ Fx o0) : Kf c (upd H p o) S := by
  have nb : c.B ≠ some p := fun z => (k.bag p z).2 h2
  refine ⟨fun a u ea => ?_, k.s0, fun a u ea nea => ?_, k.new, fun b eb => ?_, ⟨k.tab.1.updHF (fun v e => by rw [h3] at e; cases e; exact h4) fun _ _ e => e, k.tab.2⟩⟩
  · rw [upd_ne (ne_of_none ea h1)]
    exact k.sub a u ea
  · rw [upd_ne (ne_of_none ea h2)]
    exact k.old a u ea nea
  · obtain ⟨⟨b1, cs, i, g, st, n, b2, b3⟩, b4⟩ := k.bag b eb
    refine ⟨⟨b1, cs, i, g, st, n, ?_, b3⟩, b4⟩
    rw [upd_ne (fun z => nb (by rw [← z]; exact eb))]
    exact b2
/-- a thing that no name holds changes -/
theorem Kn.updFF {o0 o : HO} (k : Kn c σ H S env) (h1 : S p = none) (h2 : c.H0 p = none) (h3 : H p = some o0) (h4 : (∀ ps, o0 ≠ .tbl ps) ∧ ¬ Fx o0) (f : Free σ env p) : Kn c σ (upd H p o) S env := by
  refine ⟨k.kf.updFF h1 h2 h3 h4, k.len, fun j x ej => ?_, k.apart⟩
  obtain ⟨v, ev, r⟩ := k.sl j x ej
  refine ⟨v, ev, r.keep rfl (Same.refl S) fun a fa => ?_⟩
  obtain ⟨f1, f2, _⟩ := r.foot a fa
  refine ⟨f1, f2, fun u e => ?_⟩
  rw [upd_ne (fun z => f j x v ej ev (by rw [← z]; exact fa))]
  exact e
theorem Kf.updF {o0 o : HO} (k : Kf c H S) (h1 : S p = none) (h2 : c.H0 p = none) (h3 : H p = some o0) (h4 : (∀ ps, o0 ≠ .tbl ps) ∧ ∀ φ, o0 ≠ .ext φ) : Kf c (upd H p o) S := k.updFF h1 h2 h3 ⟨h4.1, fx_not h4.2⟩
theorem Kn.updF {o0 o : HO} (k : Kn c σ H S env) (h1 : S p = none) (h2 : c.H0 p = none) (h3 : H p = some o0) (h4 : (∀ ps, o0 ≠ .tbl ps) ∧ ∀ φ, o0 ≠ .ext φ) (f : Free σ env p) : Kn c σ (upd H p o) S env := k.updFF h1 h2 h3 ⟨h4.1, fx_not h4.2⟩ f
/-- a list of the frame's own changes -/
theorem Kn.change (k : Kn c σ H S env) (e : env[i]? = some (some (.own xs))) (e1 : σ[i]? = some (some (.ref p))) (l : RepL c.B S ds vs) : Kn c σ (upd H p (.lst vs)) S (env.set i (some (.own ds))) := by
  obtain ⟨v, e2, q, ws, rfl, h1, h2, h3, _⟩ := k.sl i _ e
  rw [e1] at e2
  cases e2
  have f : Free σ (env.set i none) p := k.mine e e1 rfl
  have k3 := ((k.clear (i := i)).updF (o := .lst vs) h1 h2 h3 lst_ne f).setOwn (i := i) h1 h2 upd_same l f
  rw [List.set_set, set_id e1] at k3
  exact k3
/-- .. stays as it is from now on -/
theorem Kn.freeze (k : Kn c σ H S env) (h1 : S p = none) (h2 : c.H0 p = none) (h3 : H p = some (.lst vs)) (l : RepL c.B S ds vs) (f : Free σ env p) :
    Kn c σ H (upd S p (.lst vs)) env ∧ Same S (upd S p (.lst vs)) ∧ Rep c.B (upd S p (.lst vs)) (.lst ds) (.ref p) := by
  have s : Same S (upd S p (.lst vs)) := same_upd h1
  refine ⟨⟨⟨fun a o e => ?_, k.kf.s0.trans s, k.kf.old, fun a e n => ?_, fun b eb => ?_, ⟨k.kf.tab.1.frz h3, k.kf.tab.2⟩⟩, k.len, fun j x e => ?_, k.apart⟩, s, p, vs, rfl, upd_same, repL_mono s ds vs l⟩
  · by_cases z : a = p
    · subst z
      rw [upd_same] at e
      rw [h3]
      exact e
    · rw [upd_ne z] at e
      exact k.kf.sub a o e
  · rw [upd_ne (fun z => n.1 (by rw [z]; exact h2))]
    exact k.kf.new a e n
  · obtain ⟨⟨b1, cs, i, g, st, n, b2, b3, b4⟩, b5⟩ := k.kf.bag b eb
    refine ⟨⟨?_, cs, i, g, st, n, b2, s _ _ b3, b4⟩, b5⟩
    rw [upd_ne (fun z => b5 (by rw [z]; exact h2))]
    exact b1
  · obtain ⟨v, ev, r⟩ := k.sl j x e
    refine ⟨v, ev, r.keep rfl s fun a fa => ?_⟩
    obtain ⟨f1, f2, _⟩ := r.foot a fa
    refine ⟨?_, f2, fun _ e => e⟩
    rw [upd_ne (fun z => f j x v e ev (by rw [← z]; exact fa))]
    exact f1
theorem Kn.frz (k : Kn c σ H S env) (e : env[i]? = some (some (.own xs))) : ∃ S', Kn c σ H S' (env.set i (some (.val (.lst xs)))) ∧ Same S S' := by
  obtain ⟨v, e2, p, vs, rfl, h1, h2, h3, l⟩ := k.sl i _ e
  have f : Free σ (env.set i none) p := k.mine e e2 rfl
  obtain ⟨k2, s2, r2⟩ := (k.clear (i := i)).freeze h1 h2 h3 l f
  have k3 := k2.set (i := i) r2
  rw [List.set_set, set_id e2] at k3
  exact ⟨_, k3, s2⟩
end
abbrev DTF := En → (List D → Prop) → (Er → Prop) → Prop
def SmF (E : XK) (t : TE) (T : DTF) : Prop := ∀ (c : Fm) (σ : St) (H S : Hp) (env : En) (R : List D → Prop) (Rx : Er → Prop), XOk c E Rx → Kn c σ H S env → T env R Rx →
  ∀ Q : VK, (∀ p vs H' S' ds, Kn c σ H' S' env → Same S S' → c.H0 p = none → Free σ env p → S' p = none → H' p = some (.lst vs) → RepL c.B S' ds vs → R ds → Q (.ref p) H') → t σ H Q
def DF (X : Cx) (E : XK) (e : Expr) (T : DTF) : Prop := ∃ t, PE X e t ∧ SmF E t T
def xF (T : DTF) : DT := fun env R Rx => T env (fun xs => R (.lst xs)) Rx
section
variable {X : Cx} {E : XK} {pos : Pos} {a b e : Expr} {Ta Tb : DT} {Tl : DTA} {T : DTF} {es : List Expr}
theorem d_ofF (h : DF X E a T) : DE X E a (xF T) := by
  obtain ⟨t, p, s⟩ := h
  refine ⟨t, p, fun c σ H S env R Rx x k t Q q => s c σ H S env _ Rx x k t Q fun p vs H1 S1 ds k1 s1 n0 f n2 e1 l1 r1 => ?_⟩
  obtain ⟨k2, s2, r2⟩ := k1.freeze n2 n0 e1 l1 f
  exact q _ H1 _ _ k2 (s1.trans s2) r2 r1
end
abbrev DFn := List D → (D → Prop) → Prop
def SmC (r : List V → Hp → VK → Prop) (F : DFn) : Prop := ∀ (c : Fm) (σ : St) (H S : Hp) (env : En) (xs : List D) (vs : List V) (R : D → Prop), Kn c σ H S env → RepL c.B S xs vs → F xs R →
  ∀ Q : VK, (∀ z H' S' d, Kn c σ H' S' env → Same S S' → Rep c.B S' d z → R d → Q z H') → r vs H Q
def CallOk (X : Cx) (f : Value) (F : DFn) : Prop := ∃ r, CallR X f r ∧ SmC r F
def xCB (F : DFn) (Tl : DTA) : DT := fun env R Rx => Tl env (fun xs => F xs R) Rx
section
variable {X : Cx} {E : XK} {p pos : Pos} {x : Str} {id ty : String} {a b e : Expr} {Ta Tb : DT} {Tl : DTA} {es : List Expr} {F : DFn}
theorem sm_cb {r : List V → Hp → VK → Prop} {t : L2.TA} (h : SmC r F) (hl : SmA E t Tl) : Sm E (tCB r t) (xCB F Tl) := fun c σ H S env R Rx x k t Q q =>
  hl c σ H S env _ Rx x k t _ fun vs H1 S1 ds k1 s1 r1 t1 => h c σ H1 S1 env ds vs R k1 r1 t1 Q fun z H2 S2 d k2 s2 r2 t2 => q z H2 S2 d k2 (s1.trans s2) r2 t2
theorem d_callB (h : CallOk X (.builtin id) F) (hm : X.mg x = none) (hv : bootBuiltins x = some (.builtin id)) (ha : DA X E (e :: es) Tl) (hg : Gl X x := by rfl) (hn : x ≠ "__name__" := by decide) (hdb : (x == ("__debug__" : Str)) = false := by decide)
    (he : starEach (e :: es) X.env = (false, eval e X.env) :: starEach es X.env := by rfl) (hpl : (backTo pos (starEach es X.env)).any (·.1) = false := by rfl) : DE X E (.Call (.Name x p) (e :: es) [] pos) (xCB F Tl) := by
  obtain ⟨r, h1, h2⟩ := h
  obtain ⟨t, pa, sa⟩ := ha
  exact ⟨_, pe_callB h1 hg hm hv pa hn hdb he hpl, sm_cb h2 sa⟩
theorem d_callT (h : CallOk X (.type ty) F) (hm : X.mg x = none) (hv : bootBuiltins x = some (.type ty)) (ha : DA X E (e :: es) Tl) (hg : Gl X x := by rfl) (hn : x ≠ "__name__" := by decide) (hdb : (x == ("__debug__" : Str)) = false := by decide)
    (he : starEach (e :: es) X.env = (false, eval e X.env) :: starEach es X.env := by rfl) (hpl : (backTo pos (starEach es X.env)).any (·.1) = false := by rfl) : DE X E (.Call (.Name x p) (e :: es) [] pos) (xCB F Tl) := by
  obtain ⟨r, h1, h2⟩ := h
  obtain ⟨t, pa, sa⟩ := ha
  exact ⟨_, pe_callTy h1 hg hm hv pa hn hdb he hpl, sm_cb h2 sa⟩
/-- a built-in type as a value -/
theorem d_bty (hm : X.mg x = none) (hv : bootBuiltins x = some (.type ty)) (hg : Gl X x := by rfl) (hn : x ≠ "__name__" := by decide) (hdb : (x == ("__debug__" : Str)) = false := by decide) : DE X E (.Name x pos) (xC (.ty ty)) :=
  ⟨_, pe_bltn (v := .ty ty) hg hm hv rfl hn hdb, sm_c fun _ _ => rfl⟩
/-- a class, a def of the module as a value -/
theorem d_gadr {f : Addr} (hm : X.mg x = some (.ref f)) (hg : Gl X x := by rfl) (hd : (x == ("__debug__" : Str)) = false := by decide) : DE X E (.Name x pos) (xC (.adr f)) :=
  ⟨_, pe_glob (v := .ref f) hg hm rfl hd, sm_c fun _ _ => rfl⟩
theorem rep1 {B : Option Addr} {S : Hp} {d : D} {vs : List V} (r : RepL B S [d] vs) : ∃ v, vs = [v] ∧ Rep B S d v := by
  obtain ⟨v, ws, e, r1, t⟩ := repL_cons_of r
  rw [repL_nil_of t] at e
  exact ⟨v, e, r1⟩
theorem rep2 {B : Option Addr} {S : Hp} {d d' : D} {vs : List V} (r : RepL B S [d, d'] vs) : ∃ v v', vs = [v, v'] ∧ Rep B S d v ∧ Rep B S d' v' := by
  obtain ⟨v, ws, e, r1, t⟩ := repL_cons_of r
  obtain ⟨v', ws', e', r2, t2⟩ := repL_cons_of t
  rw [repL_nil_of t2] at e'
  rw [e'] at e
  exact ⟨v, v', e, r1, r2⟩
/-- len -/
def fLen : DFn
  | [.str s], R => s.length ≤ sizeLine ∧ R (.int s.length)
  | [.lst xs], R => R (.int xs.length)
  | [.tup xs], R => R (.int xs.length)
  | _, _ => False
theorem b_len : CallOk X (.builtin "len") fLen := by
  refine ⟨_, call_len, fun c σ H S env xs vs R k r t Q q => ?_⟩
  unfold fLen at t
  split at t <;> try exact t.elim
  · obtain ⟨v, rfl, r1⟩ := rep1 r
    exact ⟨v, _, rfl, by rw [show v = _ from r1]; exact ⟨t.1, rfl⟩, q _ H S (.int _) k (Same.refl S) rfl t.2⟩
  · obtain ⟨v, rfl, r1⟩ := rep1 r
    obtain ⟨a, vs, rfl, h1, _, l1⟩ := lst_of k r1
    exact ⟨_, _, rfl, .inl ⟨vs, SqL.of h1, rfl⟩, q _ H S (.int _) k (Same.refl S) (by rw [l1.length]; rfl) t⟩
  · obtain ⟨v, rfl, r1⟩ := rep1 r
    obtain ⟨a, vs, rfl, h1, _, l1⟩ := tup_of k r1
    exact ⟨_, _, rfl, .inr ⟨vs, SqT.of h1, rfl⟩, q _ H S (.int _) k (Same.refl S) (by rw [l1.length]; rfl) t⟩
/-- len(xs), xs of the frame's own -/
def xLenO (i : Nat) : DT := fun env R _ => ∃ xs, env[i]? = some (some (.own xs)) ∧ R (.int (xs.length : Nat))
/-- isinstance against built-in types -/
def D.isi : D → String → Option Bool
  | .non, n => some (n == "NoneType")
  | .bl _, n => some (n == "bool" || n == "int")
  | .int _, n => some (n == "int")
  | .str _, n => some (n == "str")
  | .lst _, n => some (n == "list")
  | .tup _, n => some (n == "tuple")
  | _, _ => none
def tys : List String := ["int", "bool", "str", "list", "tuple"]
def fIsi : DFn
  | [x, .ty n], R => n ∈ tys ∧ ∃ b, x.isi n = some b ∧ R (.bl b)
  | [x, .tup [.ty n, .ty m]], R => n ∈ tys ∧ m ∈ tys ∧ ∃ b b', x.isi n = some b ∧ x.isi m = some b' ∧ R (.bl (b || b'))
  | _, _ => False
theorem isi_ok {c : Fm} {σ : St} {H S : Hp} {env : En} {K : PySem.W.Frag} {d : D} {v : V} (k : Kn c σ H S env) (r : Rep c.B S d v) : (∀ n, d.isi n = none) ∨ ∃ t, TyX K H v t ∧ ∀ n ∈ tys, ∃ b, d.isi n = some b ∧ PySem.W.kitOne K t (.type n) = some b := by
  cases d with
  | non => exact .inr ⟨_, by rw [show v = _ from r]; exact .base .non, by intro n hn; simp only [tys, List.mem_cons, List.not_mem_nil, or_false] at hn; rcases hn with rfl | rfl | rfl | rfl | rfl <;> exact ⟨_, rfl, kit_ty (by decide +kernel)⟩⟩
  | bl b => exact .inr ⟨_, by rw [show v = _ from r]; exact .base (.bl b), by intro n hn; simp only [tys, List.mem_cons, List.not_mem_nil, or_false] at hn; rcases hn with rfl | rfl | rfl | rfl | rfl <;> exact ⟨_, rfl, kit_ty (by decide +kernel)⟩⟩
  | int i => exact .inr ⟨_, by rw [show v = _ from r]; exact .base (.int i), by intro n hn; simp only [tys, List.mem_cons, List.not_mem_nil, or_false] at hn; rcases hn with rfl | rfl | rfl | rfl | rfl <;> exact ⟨_, rfl, kit_ty (by decide +kernel)⟩⟩
  | str s => exact .inr ⟨_, by rw [show v = _ from r]; exact .base (.str s), by intro n hn; simp only [tys, List.mem_cons, List.not_mem_nil, or_false] at hn; rcases hn with rfl | rfl | rfl | rfl | rfl <;> exact ⟨_, rfl, kit_ty (by decide +kernel)⟩⟩
  | lst xs =>
    obtain ⟨a, vs, rfl, h1, _, l1⟩ := lst_of k r
    exact .inr ⟨_, .base (.lst h1), by intro n hn; simp only [tys, List.mem_cons, List.not_mem_nil, or_false] at hn; rcases hn with rfl | rfl | rfl | rfl | rfl <;> exact ⟨_, rfl, kit_ty (by decide +kernel)⟩⟩
  | tup xs =>
    obtain ⟨a, vs, rfl, h1, _, l1⟩ := tup_of k r
    exact .inr ⟨_, .base (.tup h1), by intro n hn; simp only [tys, List.mem_cons, List.not_mem_nil, or_false] at hn; rcases hn with rfl | rfl | rfl | rfl | rfl <;> exact ⟨_, rfl, kit_ty (by decide +kernel)⟩⟩
  | _ => exact .inl fun _ => rfl
theorem b_isi : CallOk X (.builtin "isinstance") fIsi := by
  refine ⟨_, call_isi.or call_isiT, fun c σ H S env xs vs R k r t Q q => ?_⟩
  unfold fIsi at t
  split at t <;> try exact t.elim
  · obtain ⟨hn, bb, eb, t⟩ := t
    obtain ⟨v, v', rfl, r1, r2⟩ := rep2 r
    rcases isi_ok (K := X.K) k r1 with z | ⟨ty, tx, kk⟩
    · rw [z] at eb; cases eb
    · obtain ⟨b2, e2, e3⟩ := kk _ hn
      rw [eb] at e2
      cases e2
      exact .inl ⟨v, v', ty, _, bb, rfl, by rw [show v' = _ from r2]; exact .ty _, tx, e3, q _ H S (.bl _) k (Same.refl S) rfl t⟩
  · obtain ⟨hn, hm, bb, bb', eb, eb', t⟩ := t
    obtain ⟨v, v', rfl, r1, r2⟩ := rep2 r
    obtain ⟨a, us, rfl, h1, _, l1⟩ := tup_of k r2
    obtain ⟨w1, w2, rfl, q1, q2⟩ := rep2 l1
    cases (show w1 = _ from q1)
    cases (show w2 = _ from q2)
    rcases isi_ok (K := X.K) k r1 with z | ⟨ty, tx, kk⟩
    · rw [z] at eb; cases eb
    · obtain ⟨b2, e2, e3⟩ := kk _ hn
      obtain ⟨b3, e4, e5⟩ := kk _ hm
      rw [eb] at e2
      cases e2
      rw [eb'] at e4
      cases e4
      refine .inr ⟨v, a, _, ty, _, _, rfl, h1, .cons (.ty _) (.cons (.ty _) .nil), tx, kitAny_cons e3 (fun z => ?_) (fun z => by rw [z]; rfl), q _ H S (.bl (bb || bb')) k (Same.refl S) rfl t⟩
      subst z
      rw [Bool.false_or]
      refine kitAny_cons e5 (fun z => ?_) (fun z => z)
      rw [z]
      exact kitAny_nil
/-- int -/
def fInt : DFn
  | [.int i], R => R (.int i)
  | [.bl b], R => R (.int (if b then 1 else 0))
  | _, _ => False
def fAbs : DFn
  | [.int i], R => R (.int (if i < 0 then -i else i))
  | _, _ => False
def fMin2 : DFn
  | [.int i, .int j], R => R (.int (if j < i then j else i))
  | _, _ => False
theorem b_min2 (hc : X.calm = true) : CallOk X (.builtin "min") fMin2 := by
  refine ⟨_, call_min2 hc, fun c σ H S env xs vs R k r t Q q => ?_⟩
  unfold fMin2 at t
  split at t <;> try exact t.elim
  obtain ⟨v, v', rfl, r1, r2⟩ := rep2 r
  exact ⟨_, _, by rw [show v = _ from r1, show v' = _ from r2], q _ H S (.int _) k (Same.refl S) rfl t⟩
def fMax2 : DFn
  | [.int i, .int j], R => R (.int (if j > i then j else i))
  | _, _ => False
/-- the ints, the bools of a list -/
def asInts : List D → Option (List Int)
  | [] => some []
  | .int i :: r => (asInts r).map (i :: ·)
  | _ :: _ => none
def asBls : List D → Option (List Bool)
  | [] => some []
  | .bl i :: r => (asBls r).map (i :: ·)
  | _ :: _ => none
theorem asInts_eq : ∀ {ds : List D} {ns : List Int}, asInts ds = some ns → ds = ns.map D.int
  | [], _, e => by cases e; rfl
  | .int i :: r, ns, e => by
    have e : (asInts r).map (i :: ·) = some ns := e
    cases h : asInts r with
    | none => rw [h] at e; cases e
    | some ms =>
      rw [h] at e
      cases e
      rw [asInts_eq h]
      rfl
  | .non :: _, _, e | .bl _ :: _, _, e | .str _ :: _, _, e | .ty _ :: _, _, e | .adr _ :: _, _, e | .fn _ _ _ :: _, _, e | .exc _ _ _ _ _ :: _, _, e | .dct _ _ :: _, _, e | .dcT _ _ :: _, _, e | .bag :: _, _, e | .lst _ :: _, _, e | .tup _ :: _, _, e | .obj _ _ _ :: _, _, e => nomatch e
theorem asBls_eq : ∀ {ds : List D} {ns : List Bool}, asBls ds = some ns → ds = ns.map D.bl
  | [], _, e => by cases e; rfl
  | .bl i :: r, ns, e => by
    have e : (asBls r).map (i :: ·) = some ns := e
    cases h : asBls r with
    | none => rw [h] at e; cases e
    | some ms =>
      rw [h] at e
      cases e
      rw [asBls_eq h]
      rfl
  | .non :: _, _, e | .int _ :: _, _, e | .str _ :: _, _, e | .ty _ :: _, _, e | .adr _ :: _, _, e | .fn _ _ _ :: _, _, e | .exc _ _ _ _ _ :: _, _, e | .dct _ _ :: _, _, e | .dcT _ _ :: _, _, e | .bag :: _, _, e | .lst _ :: _, _, e | .tup _ :: _, _, e | .obj _ _ _ :: _, _, e => nomatch e
theorem asInts_map (ns : List Int) : asInts (ns.map D.int) = some ns := by
  induction ns with
  | nil => rfl
  | cons n ns ih => show (asInts (ns.map D.int)).map (n :: ·) = _; rw [ih]; rfl
theorem asBls_map (ns : List Bool) : asBls (ns.map D.bl) = some ns := by
  induction ns with
  | nil => rfl
  | cons n ns ih => show (asBls (ns.map D.bl)).map (n :: ·) = _; rw [ih]; rfl
theorem RepL.bls {B : Option Addr} {S : Hp} {ns : List Bool} : ∀ {vs : List V}, RepL B S (ns.map D.bl) vs → vs = ns.map V.bl := by
  induction ns with
  | nil => intro vs h; exact repL_nil_of h
  | cons n ns ih =>
    intro vs h
    obtain ⟨u, ws, rfl, r1, t⟩ := repL_cons_of h
    rw [ih t, show u = V.bl n from r1]
    rfl
def fSum : DFn
  | [.lst xs], R => ∃ ns, asInts xs = some ns ∧ R (.int ns.sum)
  | _, _ => False
def fAny : DFn
  | [.lst xs], R => ∃ ns, asBls xs = some ns ∧ R (.bl (ns.any _root_.id))
  | _, _ => False
def fAll : DFn
  | [.lst xs], R => ∃ ns, asBls xs = some ns ∧ R (.bl (ns.all _root_.id))
  | _, _ => False
theorem b_all (hc : X.calm = true) : CallOk X (.builtin "all") fAll := by
  refine ⟨_, cr_all hc, fun c σ H S env xs vs R k r t Q q => ?_⟩
  unfold fAll at t
  split at t <;> try exact t.elim
  obtain ⟨ns, e, t⟩ := t
  obtain ⟨v, rfl, r1⟩ := rep1 r
  obtain ⟨a, vs, rfl, h1, _, l1⟩ := lst_of k r1
  rw [asBls_eq e] at l1
  rw [l1.bls] at h1
  exact ⟨a, ns, rfl, SqL.of h1, q _ H S (.bl _) k (Same.refl S) rfl t⟩
/-- tuple(xs), list(xs) -/
def fTuple : DFn
  | [.lst xs], R => R (.tup xs)
  | [.tup xs], R => R (.tup xs)
  | _, _ => False
theorem b_tuple : CallOk X (.type "tuple") fTuple := by
  refine ⟨_, call_tuple_of, fun c σ H S env xs vs R k r t Q q => ?_⟩
  unfold fTuple at t
  split at t <;> try exact t.elim
  · obtain ⟨v, rfl, r1⟩ := rep1 r
    obtain ⟨a, vs, rfl, h1, _, l1⟩ := lst_of k r1
    refine ⟨a, vs, rfl, .inl ⟨SqL.of h1, fun l hl => ?_⟩⟩
    obtain ⟨k', s', r'⟩ := put_tup k l1 hl
    exact q _ _ _ _ k' s' r' t
  · obtain ⟨v, rfl, r1⟩ := rep1 r
    obtain ⟨a, vs, rfl, h1, hS, l1⟩ := tup_of k r1
    exact ⟨a, vs, rfl, .inr ⟨SqT.of h1, q _ H S (.tup _) k (Same.refl S) ⟨a, vs, rfl, hS, l1⟩ t⟩⟩
/-- a new list of what nobody else holds: a display, list(xs), a slice, xs + ys, xs * k -/
def xNew (Tl : DTA) : DTF := fun env R Rx => Tl env (fun xs => xs.length ≤ sizeLine ∧ R xs) Rx
theorem putO {c : Fm} {σ : St} {H S : Hp} {env : En} {ds : List D} {vs : List V} {p : Addr} (k : Kn c σ H S env) (l : RepL c.B S ds vs) (h : H p = none) :
    Kn c σ (upd H p (.lst vs)) S env ∧ S p = none ∧ c.H0 p = none ∧ Free σ env p := ⟨k.new0 h, k.kf.s_none h, k.kf.h0_none h, k.free h⟩
end
end DL
namespace DL
open PySem PySem.Spec L2
variable [TbC]
section
variable {X : Cx} {E : XK} {p pos : Pos} {a b e : Expr} {Ta Tb : DT} {Tl : DTA} {es : List Expr}
theorem f_lst (h : DA X E es Tl) : DF X E (.List es pos) (xNew Tl) := by
  obtain ⟨t, p, s⟩ := h
  refine ⟨_, pe_lst p, fun c σ H S env R Rx x k t Q q => s c σ H S env _ Rx x k t _ fun vs H1 S1 ds k1 s1 r1 t1 => ⟨by rw [r1.length]; exact t1.1, fun p hp => ?_⟩⟩
  obtain ⟨k2, n2, n0, f⟩ := putO k1 r1 hp
  exact q p vs _ S1 ds k2 s1 n0 f n2 upd_same r1 t1.2
/-- xs + ys -/
def asL (R : List D → Prop) : D → Prop
  | .lst xs => R xs
  | _ => False
def xCatF (Ta Tb : DT) : DTF := fun env R Rx => Ta env (asL fun xs => Tb env (asL fun ys => xs.length + ys.length ≤ sizeLine ∧ R (xs ++ ys)) Rx) Rx
/-- xs * k -/
def xRepF (Ta Tb : DT) : DTF := fun env R Rx => Ta env (asL fun xs => Tb env (asI fun k => -(2 ^ 63) ≤ k ∧ k < 2 ^ 63 ∧ xs.length * k.toNat ≤ sizeLine ∧ R (List.replicate k.toNat xs).flatten) Rx) Rx
/-- list(xs) -/
def asLT (R : List D → Prop) : D → Prop
  | .lst xs => R xs
  | .tup xs => R xs
  | _ => False
def xListF (Ta : DT) : DTF := fun env R Rx => Ta env (asLT R) Rx
/-- xs[lo:hi], xs a list -/
def xSlF (Ta : DT) (Tl Th : DTO) : DTF := fun env R Rx => Ta env (asL fun xs => Tl env (fun lo => Th env (fun hi => R (cutD xs lo hi)) Rx) Rx) Rx
end
abbrev DG := D → En → (En → Prop) → Prop
/-- only the slots js change -/
def Wip (js : List Nat) (σ σ' : St) : Prop := ∀ ws : List Nat, (∀ j ∈ js, j ∈ ws) → wipe σ' ws = wipe σ ws
theorem wipe_set {σ : St} {i : Nat} {o : Option V} : ∀ {ws : List Nat}, i ∈ ws → wipe (σ.set i o) ws = wipe σ ws
  | [], h => nomatch h
  | w :: ws, h => by
    show (wipe (σ.set i o) ws).set w none = (wipe σ ws).set w none
    by_cases z : i ∈ ws
    · rw [wipe_set z]
    · have e : i = w := by
        rcases List.mem_cons.mp h with e | e
        · exact e
        · exact absurd e z
      subst e
      have go : ∀ us : List Nat, (wipe (σ.set i o) us).set i none = (wipe σ us).set i none := fun us => by
        induction us with
        | nil => show (σ.set i o).set i none = σ.set i none; rw [List.set_set]
        | cons u us ih =>
          show ((wipe (σ.set i o) us).set u none).set i none = ((wipe σ us).set u none).set i none
          by_cases hu : u = i
          · subst hu; rw [List.set_set, List.set_set]; exact ih
          · rw [List.set_comm _ _ hu, ih, List.set_comm _ _ (Ne.symm hu)]
      exact go ws
def SmG (g : TG) (G : DG) (js : List Nat) : Prop := ∀ (c : Fm) (σ : St) (H S : Hp) (env : En) (d : D) (v : V) (N : En → Prop), Kn c σ H S env → Rep c.B S d v → G d env N →
  ∀ P : St → Hp → Prop, (∀ σ' H' S' env', Kn c σ' H' S' env' → Same S S' → Wip js σ σ' → N env' → P σ' H') → g v σ H P
def DGt (X : Cx) (e : Expr) (G : DG) (js : List Nat) : Prop := ∃ g, PG X e g ∧ SmG g G js
abbrev DGs := List D → En → (En → Prop) → Prop
def SmGs (g : TGs) (G : DGs) (js : List Nat) : Prop := ∀ (c : Fm) (σ : St) (H S : Hp) (env : En) (ds : List D) (vs : List V) (N : En → Prop), Kn c σ H S env → RepL c.B S ds vs → G ds env N →
  ∀ P : St → Hp → Prop, (∀ σ' H' S' env', Kn c σ' H' S' env' → Same S S' → Wip js σ σ' → N env' → P σ' H') → g vs σ H P
def DGts (X : Cx) (es : List Expr) (G : DGs) (js : List Nat) : Prop := ∃ g, PGs X es g ∧ SmGs g G js
def put (i : Nat) (d : D) (env : En) : En := env.set i (some (.val d))
def putO' (i : Nat) (ds : List D) (env : En) : En := env.set i (some (.own ds))
def yName (i : Nat) : DG := fun d env N => N (put i d env)
def yNil : DGs := fun ds env N => ds = [] ∧ N env
def yCons (G : DG) (Gs : DGs) : DGs := fun ds env N => match ds with
  | [] => False
  | d :: r => G d env fun env' => Gs r env' N
def yTup (n : Nat) (Gs : DGs) : DG := fun d env N => match d with
  | .tup ds => ds.length = n ∧ Gs ds env N
  | _ => False
section
variable {X : Cx} {pos : Pos} {e : Expr} {es : List Expr} {G : DG} {Gs : DGs}
theorem smG_name (i : Nat) : SmG (gName i) (yName i) [i] := fun c σ H S env d v N k r t P q => q _ H S _ (k.set r) (Same.refl S) (fun ws h => wipe_set (h i (List.mem_singleton.mpr rfl))) t
theorem g_name {i : Nat} {x : Str} (hN : X.N.Nodup) (hi : X.N[i]? = some x := by rfl) (hx : Loc X.env.scope x := by first | exact Or.inl rfl | exact Or.inr rfl) (hf : X.fn x = true ∨ X.env.scope.names.lookup x = some .local := by first | exact .inl rfl | exact .inr rfl) : DGt X (.Name x pos) (yName i) [i] :=
  ⟨_, pg_name hN hi hx hf, smG_name i⟩
theorem gs_nil : DGts X [] yNil [] := ⟨_, pgs_nil, fun c σ H S env ds vs N k r t P q => by
  obtain ⟨e, t⟩ := t
  subst e
  exact ⟨repL_nil_of r, q σ H S env k (Same.refl S) (fun ws _ => rfl) t⟩⟩
theorem gs_cons {js js' : List Nat} (h1 : DGt X e G js) (h2 : DGts X es Gs js') (hs : (assignEach (e :: es) X.env).map (·.2) = assign e X.env :: (assignEach es X.env).map (·.2) := by rfl) : DGts X (e :: es) (yCons G Gs) (js ++ js') := by
  obtain ⟨g, p1, s1⟩ := h1
  obtain ⟨gs, p2, s2⟩ := h2
  refine ⟨_, pgs_cons p1 p2 hs, fun c σ H S env ds vs N k r t P q => ?_⟩
  cases ds with
  | nil => exact (show False from t).elim
  | cons d ds =>
    obtain ⟨v, ws, rfl, r1, l⟩ := repL_cons_of r
    exact ⟨v, ws, rfl, s1 c σ H S env d v _ k r1 t _ fun σ1 H1 S1 env1 k1 s w1 t1 => s2 c σ1 H1 S1 env1 ds ws N k1 (repL_mono s ds ws l) t1 P fun σ2 H2 S2 env2 k2 s3 w2 t2 => q σ2 H2 S2 env2 k2 (s.trans s3)
      (fun us h => (w2 us fun j hj => h j (List.mem_append_right _ hj)).trans (w1 us fun j hj => h j (List.mem_append_left _ hj))) t2⟩
theorem g_tup {n k : Nat} {js : List Nat} (hc : X.calm = true) (h : DGts X es Gs js) (hn : (assignEach es X.env).length = n := by rfl) (hst : (assignEach es X.env).findIdx? (·.1) = none := by rfl) : DGt X (.Tuple es k pos) (yTup n Gs) js := by
  obtain ⟨gs, p1, s1⟩ := h
  refine ⟨_, pg_tup hc p1 hn hst, fun c σ H S env d v N k r t P q => ?_⟩
  cases d <;> try exact (show False from t).elim
  obtain ⟨a, vs, e1, h1, _, l1⟩ := tup_of k r
  obtain ⟨hl, t⟩ := t
  exact ⟨a, vs, e1, SqT.of h1, by rw [l1.length]; exact hl, s1 c σ H S env _ vs N k l1 t P q⟩
end
section
variable {X : Cx} {E : XK} {pos p1 : Pos} {a b e tg : Expr} {Ta Tb : DT} {T U : DTS} {TF : DTF} {st : Stmt} {rest sts us : List Stmt} {G : DG}
def zNext : DTS := fun Q env => Q.nx env
def zSeq (T U : DTS) : DTS := fun Q env => T { Q with nx := U Q } env
theorem mk_nx {c : Fm} {S S' : Hp} {Q : DEnds} {D : Ends} {N : St → Hp → Prop} {M : En → Prop} (m : mk c S Q D) (s : Same S S') (h : ∀ σ H S2 env, Kn c σ H S2 env → Same S' S2 → M env → N σ H) : mk c S' { Q with nx := M } { D with nx := N } :=
  ⟨h, (m.mono s).2.1, (m.mono s).2.2.1, (m.mono s).2.2.2⟩
theorem ds_nil : DSs X E [] zNext := ⟨_, pss_nil, fun c σ H S env Q x k t D m => m.1 σ H S env k (Same.refl S) t⟩
theorem ds_cons (h1 : DS X E st T) (h2 : DSs X E rest U) : DSs X E (st :: rest) (zSeq T U) := by
  obtain ⟨t, p1, s1⟩ := h1
  obtain ⟨u, p2, s2⟩ := h2
  refine ⟨_, pss_cons p1 p2, fun c σ H S env Q x k t D m => ?_⟩
  exact s1 c σ H S env { Q with nx := U Q } x k t _ (mk_nx m (Same.refl S) fun σ1 H1 S1 env1 k1 s t1 => s2 c σ1 H1 S1 env1 Q x k1 t1 D (m.mono s))
theorem ds_one (h1 : DS X E st T) : DSs X E [st] T := by
  obtain ⟨t, p1, s1⟩ := h1
  exact ⟨_, pss_one p1, s1⟩
def zBreak : DTS := fun Q env => Q.bk env
def zCont : DTS := fun Q env => Q.ct env
theorem s_break : DS X E (.Break pos) zBreak := ⟨_, ps_break, fun c σ H S env Q x k t D m => m.2.2.1 σ H S env k (Same.refl S) t⟩
def zRet (Ta : DT) : DTS := fun Q env => Ta env (Q.rt .old) Q.ex
theorem s_ret (h : DE X E a Ta) : DS X E (.Return (some a) pos) (zRet Ta) := by
  obtain ⟨t, p, s⟩ := h
  exact ⟨_, ps_ret p, fun c σ H S env Q x k t D m => s c σ H S env _ _ x k t _ fun v H1 S1 d k1 s1 r1 t1 => m.2.1 .old v H1 S1 d k1.kf s1 r1 t1⟩
def zExpr (Ta : DT) : DTS := fun Q env => Ta env (fun _ => Q.nx env) Q.ex
theorem s_expr (h : DE X E a Ta) (hs : swapsWith a none pos.line X.env = pure false := by rfl) : DS X E (.Expr a pos) (zExpr Ta) := by
  obtain ⟨t, p, s⟩ := h
  exact ⟨_, ps_expr p hs, fun c σ H S env Q x k t D m => s c σ H S env _ _ x k t _ fun v H1 S1 d k1 s1 r1 t1 => m.1 σ H1 S1 env k1 s1 t1⟩
def zIf (T : DTT) (U W : DTS) : DTS := fun Q env => T env (fun b => (b = true → U Q env) ∧ (b = false → W Q env)) Q.ex
theorem s_if {cnd : Expr} {Tc : DTT} {x1 x2 : List Stmt} (hc : DTe X E cnd Tc) (h1 : DSs X E x1 T) (h2 : DSs X E x2 U) : DS X E (.If cnd x1 x2 pos) (zIf Tc T U) := by
  obtain ⟨tc, p, s⟩ := hc
  obtain ⟨t, p1, s1⟩ := h1
  obtain ⟨u, p2, s2⟩ := h2
  refine ⟨_, ps_if p p1 p2, fun c σ H S env Q x k t D m => s c σ H S env _ _ x k t _ fun bb H1 S1 k1 s3 t1 => ?_⟩
  cases bb with
  | true => exact iteT (s1 c σ H1 S1 env Q x k1 (t1.1 rfl) D (m.mono s3))
  | false => exact iteF (s2 c σ H1 S1 env Q x k1 (t1.2 rfl) D (m.mono s3))
def zAsg (Ta : DT) (G : DG) : DTS := fun Q env => Ta env (fun d => G d env Q.nx) Q.ex
theorem smS_asg {t : TE} {g : TG} {js : List Nat} (h : Sm E t Ta) (hg : SmG g G js) : SmS E (tAsg t g) (zAsg Ta G) := fun c σ H S env Q x k t D m =>
  h c σ H S env _ _ x k t _ fun v H1 S1 d k1 s1 r1 t1 => hg c σ H1 S1 env d v _ k1 r1 t1 _ fun σ2 H2 S2 env2 k2 s2 _ t2 => m.1 σ2 H2 S2 env2 k2 (s1.trans s2) t2
theorem s_set {i : Nat} {x : Str} (hN : X.N.Nodup) (h : DE X E e Ta) (hi : X.N[i]? = some x := by rfl) (hx : Loc X.env.scope x := by first | exact Or.inl rfl | exact Or.inr rfl) (hs : swapsWith e (some (.Name x p1)) pos.line X.env = pure false := by rfl)
    (hf : X.fn x = true ∨ X.env.scope.names.lookup x = some .local := by first | exact .inl rfl | exact .inr rfl) : DS X E (.Assign [.Name x p1] e pos) (zAsg Ta (yName i)) := by
  obtain ⟨t, p, s⟩ := h
  exact ⟨_, ps_set hN hi hx p hs hf, smS_asg s (smG_name i)⟩
theorem s_asg {js : List Nat} (h : DE X E e Ta) (hg : DGt X tg G js) (hs : swapsWithSole [tg] e pos.line X.env = pure false := by rfl) (hw : swappedStores [tg] e X.env = pure none := by rfl) (h1 : (assignEach [tg] X.env).map (·.2) = [assign tg X.env] := by rfl) :
    DS X E (.Assign [tg] e pos) (zAsg Ta G) := by
  obtain ⟨t, p, s⟩ := h
  obtain ⟨g, p2, s2⟩ := hg
  exact ⟨_, ps_asg p p2 hs hw h1, smS_asg s s2⟩
/-- name = a new list, from now on of the frame's own -/
def zSetO (i : Nat) (T : DTF) : DTS := fun Q env => T env (fun ds => Q.nx (putO' i ds env)) Q.ex
theorem smS_setO {t : TE} {i : Nat} (h : SmF E t TF) : SmS E (tAsg t (gName i)) (zSetO i TF) := fun c σ H S env Q x k t D m =>
  h c σ H S env _ _ x k t _ fun p vs H1 S1 ds k1 s1 n0 f n2 e1 l1 t1 => m.1 _ H1 S1 _ (k1.setOwn n2 n0 e1 l1 f) s1 t1
theorem s_setO {i : Nat} {x : Str} (hN : X.N.Nodup) (h : DF X E e TF) (hi : X.N[i]? = some x := by rfl) (hx : Loc X.env.scope x := by first | exact Or.inl rfl | exact Or.inr rfl) (hs : swapsWith e (some (.Name x p1)) pos.line X.env = pure false := by rfl)
    (hf : X.fn x = true ∨ X.env.scope.names.lookup x = some .local := by first | exact .inl rfl | exact .inr rfl) : DS X E (.Assign [.Name x p1] e pos) (zSetO i TF) := by
  obtain ⟨t, p, s⟩ := h
  exact ⟨_, ps_set hN hi hx p hs hf, smS_setO s⟩
/-- a, b = x, y -/
def zPar (i j : Nat) (Tl : DTA) : DTS := fun Q env => Tl env (fun ds => match ds with
  | [d, d'] => Q.nx (put j d' (put i d env))
  | _ => False) Q.ex
/-- the list at slot i stays as it is from here on -/
def zFrz (i : Nat) (T : DTS) : DTS := fun Q env => ∃ xs, env[i]? = some (some (.own xs)) ∧ T Q (put i (.lst xs) env)
/-- xs.append(e), xs of the frame's own -/
def zApp (i : Nat) (Ta : DT) : DTS := fun Q env => ∃ xs, env[i]? = some (some (.own xs)) ∧ Ta env (fun d => xs.length < sizeLine ∧ Q.nx (putO' i (xs ++ [d]) env)) Q.ex
/-- xs[e] = v, xs of the frame's own -/
def zStO (i : Nat) (Tv Ti : DT) : DTS := fun Q env => Tv env (fun d => ∃ xs, env[i]? = some (some (.own xs)) ∧ Ti env (asI fun k => ∃ j, ixN xs.length k = some j ∧ Q.nx (putO' i (xs.set j d) env)) Q.ex) Q.ex
/-- name += e of ints -/
def zAug (i : Nat) (f : Int → Int → Int) (Ta : DT) : DTS := fun Q env => ∃ n, env[i]? = some (some (.val (.int n))) ∧ Ta env (asI fun j => Q.nx (put i (.int (f n j)) env)) Q.ex
/-- never reached -/
def zNever : DTS := fun _ _ => False
end
abbrev DTI := En → (List D → Prop) → (Er → Prop) → Prop
def ItOk (B : Option Addr) (J : It) (S0 : Hp) (xs : List D) : Prop := ∀ (c : Fm), c.B = B → ∀ (i : Nat) (σ : St) (H S : Hp) (env : En), Kn c σ H S env → Same S0 S →
  (∀ d, xs[i]? = some d → J.go i H ∧ ∀ x H', J.yld i H x H' → ∃ S', Kn c σ H' S' env ∧ Same S S' ∧ Rep c.B S' d x) ∧ (xs.length ≤ i → J.stop i H)
def SmI (E : XK) (wi : TI) (T : DTI) : Prop := ∀ (c : Fm) (σ : St) (H S : Hp) (env : En) (R : List D → Prop) (Rx : Er → Prop), XOk c E Rx → Kn c σ H S env → T env R Rx →
  ∀ Rr : It → Hp → Prop, (∀ J H' S' xs, Kn c σ H' S' env → Same S S' → ItOk c.B J S' xs → R xs → Rr J H') → wi σ H Rr
def DI (X : Cx) (E : XK) (tg e : Expr) (T : DTI) : Prop := ∃ wi, PI X tg e wi ∧ SmI E wi T
theorem ItOk.mono {B : Option Addr} {J : It} {S0 S1 : Hp} {xs : List D} (h : ItOk B J S0 xs) (s : Same S0 S1) : ItOk B J S1 xs := fun c hB i σ H S env k s1 => h c hB i σ H S env k (s.trans s1)
section
variable {X : Cx} {E : XK} {pos p : Pos} {a b e tg : Expr} {Ta Tb : DT} {Tl : DTA}
theorem itl_ok {B : Option Addr} {K : PySem.W.Frag} {S : Hp} {a : Addr} {vs : List V} {xs : List D} (h : S a = some (.lst vs)) (l : RepL B S xs vs) : ItOk B (Itl K a) S xs := fun c hB i σ H S1 env k s => by
  subst hB
  have hH : H a = some (.lst vs) := k.kf.sub _ _ (s _ _ h)
  refine ⟨fun d e => ?_, fun hl => ⟨vs, SqL.of hH, by rw [l.length]; exact hl⟩⟩
  obtain ⟨v, ev, r⟩ := l.get e
  exact ⟨⟨vs, v, SqL.of hH, ev⟩, fun x H' y => by
    obtain ⟨e1, y⟩ := y
    subst e1
    have e2 := y vs (SqL.of hH)
    rw [ev] at e2
    cases e2
    exact ⟨S1, k, Same.refl S1, rep_mono s d v r⟩⟩
theorem itt_ok {B : Option Addr} {K : PySem.W.Frag} {S : Hp} {a : Addr} {vs : List V} {xs : List D} (h : S a = some (.tup vs)) (l : RepL B S xs vs) : ItOk B (Itt K a) S xs := fun c hB i σ H S1 env k s => by
  subst hB
  have hH : H a = some (.tup vs) := k.kf.sub _ _ (s _ _ h)
  refine ⟨fun d e => ?_, fun hl => ⟨vs, SqT.of hH, by rw [l.length]; exact hl⟩⟩
  obtain ⟨v, ev, r⟩ := l.get e
  exact ⟨⟨vs, v, SqT.of hH, ev⟩, fun x H' y => by
    obtain ⟨e1, y⟩ := y
    subst e1
    have e2 := y vs (SqT.of hH)
    rw [ev] at e2
    cases e2
    exact ⟨S1, k, Same.refl S1, rep_mono s d v r⟩⟩
def xItL (Ta : DT) : DTI := fun env R Rx => Ta env (asL R) Rx
def xItT (Ta : DT) : DTI := fun env R Rx => Ta env (fun d => match d with
  | .tup xs => R xs
  | _ => False) Rx
theorem i_list (h : DE X E a Ta) : DI X E tg a (xItL Ta) := by
  obtain ⟨t, p, s⟩ := h
  refine ⟨_, pi_list p, fun c σ H S env R Rx x k t Rr q => s c σ H S env _ Rx x k t _ fun v H1 S1 d k1 s1 r1 t1 => ?_⟩
  cases d <;> try exact (show False from t1).elim
  obtain ⟨a, vs, e, h1, hS, l⟩ := lst_of k1 r1
  exact ⟨a, e, ⟨vs, SqL.of h1⟩, q _ H1 S1 _ k1 s1 (itl_ok hS l) t1⟩
theorem i_tup (h : DE X E a Ta) : DI X E tg a (xItT Ta) := by
  obtain ⟨t, p, s⟩ := h
  refine ⟨_, pi_tup p, fun c σ H S env R Rx x k t Rr q => s c σ H S env _ Rx x k t _ fun v H1 S1 d k1 s1 r1 t1 => ?_⟩
  cases d <;> try exact (show False from t1).elim
  obtain ⟨a, vs, e, h1, hS, l⟩ := tup_of k1 r1
  exact ⟨a, e, ⟨vs, SqT.of h1⟩, q _ H1 S1 _ k1 s1 (itt_ok hS l) t1⟩
/-- lo, lo + 1, .. -/
def ups (lo : Int) : Nat → List D
  | 0 => []
  | n + 1 => .int lo :: ups (lo + 1) n
theorem ups_get : ∀ (n i : Nat) (lo : Int), (ups lo n)[i]? = if i < n then some (.int (lo + i)) else none
  | 0, i, lo => by simp [ups]
  | n + 1, 0, lo => by simp [ups]
  | n + 1, i + 1, lo => by
    show (ups (lo + 1) n)[i]? = _
    rw [ups_get n i (lo + 1)]
    by_cases h : i < n
    · rw [if_pos h, if_pos (by omega)]
      congr 2
      omega
    · rw [if_neg h, if_neg (by omega)]
theorem ups_length : ∀ (n : Nat) (lo : Int), (ups lo n).length = n
  | 0, _ => rfl
  | n + 1, lo => by
    show (ups (lo + 1) n).length + 1 = _
    rw [ups_length]
theorem itr_ok {B : Option Addr} {S : Hp} {lo : Int} {n : Nat} : ItOk B (Itr lo n) S (ups lo n) := fun c hB i σ H S1 env k s => by
  refine ⟨fun d e => ?_, fun hl => by rw [ups_length] at hl; exact hl⟩
  rw [ups_get] at e
  split at e
  · rename_i hi
    cases e
    exact ⟨hi, fun x H' y => by
      obtain ⟨e1, e2⟩ := y
      subst e1
      subst e2
      exact ⟨S1, k, Same.refl S1, rfl⟩⟩
  · cases e
def xRg1 (Tl : DTA) : DTI := fun env R Rx => Tl env (fun ds => match ds with
  | [.int j] => -(2 ^ 62) ≤ j ∧ j < 2 ^ 62 ∧ R (ups 0 j.toNat)
  | _ => False) Rx
def xRg2 (Tl : DTA) : DTI := fun env R Rx => Tl env (fun ds => match ds with
  | [.int i, .int j] => (-(2 ^ 62) ≤ i ∧ i < 2 ^ 62 ∧ -(2 ^ 62) ≤ j ∧ j < 2 ^ 62) ∧ R (ups i (j - i).toNat)
  | _ => False) Rx
theorem i_rg1 (ha : DA X E [a] Tl) (hm : X.mg "range" = none) (hg : Gl X "range" := by rfl) (hs : starEach [a] X.env = [(false, eval a X.env)] := by rfl) : DI X E tg (.Call (.Name "range" p) [a] [] pos) (xRg1 Tl) := by
  obtain ⟨t, pa, s⟩ := ha
  refine ⟨_, pi_range1 hg hm pa hs, fun c σ H S env R Rx x k t Rr q => s c σ H S env _ Rx x k t _ fun vs H1 S1 ds k1 s1 r1 t1 => ?_⟩
  match ds, t1 with
  | [.int j], t1 =>
    obtain ⟨v, rfl, r2⟩ := rep1 r1
    exact ⟨j, by rw [show v = _ from r2], t1.1, t1.2.1, q _ H1 S1 _ k1 s1 itr_ok t1.2.2⟩
/-- zip -/
def pairs : List D → List D → List D
  | x :: xs, y :: ys => .tup [x, y] :: pairs xs ys
  | _, _ => []
theorem pairs_get : ∀ (xs ys : List D) (i : Nat) (d : D), (pairs xs ys)[i]? = some d → ∃ x y, xs[i]? = some x ∧ ys[i]? = some y ∧ d = .tup [x, y]
  | [], _, i, d, h => by simp [pairs] at h
  | _ :: _, [], i, d, h => by simp [pairs] at h
  | x :: xs, y :: ys, 0, d, h => by simp [pairs] at h; exact ⟨x, y, rfl, rfl, h.symm⟩
  | x :: xs, y :: ys, i + 1, d, h => by
    obtain ⟨a, b, e1, e2, e3⟩ := pairs_get xs ys i d (by simpa [pairs] using h)
    exact ⟨a, b, by simpa using e1, by simpa using e2, e3⟩
theorem pairs_length : ∀ (xs ys : List D), (pairs xs ys).length = min xs.length ys.length
  | [], ys => by simp [pairs]
  | _ :: _, [] => by simp [pairs]
  | x :: xs, y :: ys => by
    show (pairs xs ys).length + 1 = _
    rw [pairs_length xs ys, List.length_cons, List.length_cons]
    omega
theorem itz_ok {B : Option Addr} {K : PySem.W.Frag} {S : Hp} {a b : Addr} {vs ws : List V} {xs ys : List D} (h : S a = some (.lst vs)) (h2 : S b = some (.lst ws)) (l : RepL B S xs vs) (l2 : RepL B S ys ws) : ItOk B (Itz K a b) S (pairs xs ys) := fun c hB i σ H S1 env k s => by
  subst hB
  have hH : H a = some (.lst vs) := k.kf.sub _ _ (s _ _ h)
  have hH2 : H b = some (.lst ws) := k.kf.sub _ _ (s _ _ h2)
  refine ⟨fun d e => ?_, fun hl => ⟨vs, ws, SqL.of hH, SqL.of hH2, by rw [pairs_length] at hl; rw [l.length, l2.length]; omega⟩⟩
  obtain ⟨x, y, ex, ey, rfl⟩ := pairs_get _ _ _ _ e
  obtain ⟨v, ev, r⟩ := l.get ex
  obtain ⟨w, ew, r2⟩ := l2.get ey
  refine ⟨⟨vs, ws, v, w, SqL.of hH, SqL.of hH2, ev, ew⟩, fun z H' yl => ?_⟩
  obtain ⟨T, x', y', rfl, hT, rfl, hx, hy⟩ := yl
  have e1 := hx vs (SqL.of hH)
  rw [ev] at e1
  cases e1
  have e2 := hy ws (SqL.of hH2)
  rw [ew] at e2
  cases e2
  obtain ⟨k', s', r'⟩ := put_tup k (repL_cons (rep_mono s _ _ r) (repL_cons (rep_mono s _ _ r2) repL_nil)) hT
  exact ⟨_, k', s', r'⟩
theorem itzT_ok {B : Option Addr} {K : PySem.W.Frag} {S : Hp} {a b : Addr} {vs ws : List V} {xs ys : List D} (h : S a = some (.tup vs)) (h2 : S b = some (.tup ws)) (l : RepL B S xs vs) (l2 : RepL B S ys ws) : ItOk B (RZ.ItzT K a b) S (pairs xs ys) := fun c hB i σ H S1 env k s => by
  subst hB
  have hH : H a = some (.tup vs) := k.kf.sub _ _ (s _ _ h)
  have hH2 : H b = some (.tup ws) := k.kf.sub _ _ (s _ _ h2)
  refine ⟨fun d e => ?_, fun hl => ⟨vs, ws, SqT.of hH, SqT.of hH2, by rw [pairs_length] at hl; rw [l.length, l2.length]; omega⟩⟩
  obtain ⟨x, y, ex, ey, rfl⟩ := pairs_get _ _ _ _ e
  obtain ⟨v, ev, r⟩ := l.get ex
  obtain ⟨w, ew, r2⟩ := l2.get ey
  refine ⟨⟨vs, ws, v, w, SqT.of hH, SqT.of hH2, ev, ew⟩, fun z H' yl => ?_⟩
  obtain ⟨T, x', y', rfl, hT, rfl, hx, hy⟩ := yl
  have e1 := hx vs (SqT.of hH)
  rw [ev] at e1
  cases e1
  have e2 := hy ws (SqT.of hH2)
  rw [ew] at e2
  cases e2
  obtain ⟨k', s', r'⟩ := put_tup k (repL_cons (rep_mono s _ _ r) (repL_cons (rep_mono s _ _ r2) repL_nil)) hT
  exact ⟨_, k', s', r'⟩
def fZip (R : List D → Prop) : List D → Prop
  | [.lst xs, .lst ys] => R (pairs xs ys)
  | [.tup xs, .tup ys] => R (pairs xs ys)
  | _ => False
def xZip (Tl : DTA) : DTI := fun env R Rx => Tl env (fZip R) Rx
theorem i_zip {tpos : Pos} {elts : List Expr} {kk : Nat} (ha : DA X E [a, b] Tl) (hm : X.mg "zip" = none) (hg : Gl X "zip" := by rfl)
    (hs : starEach [a, b] X.env = (false, eval a X.env) :: starEach [b] X.env := by rfl) (hpl : (backTo pos (starEach [b] X.env)).any (·.1) = false := by rfl) :
    DI X E (.Tuple elts kk tpos) (.Call (.Name "zip" p) [a, b] [] pos) (xZip Tl) := by
  obtain ⟨t, pa, s⟩ := ha
  refine ⟨_, RZ.pi_zipA hg hm pa hs hpl, fun c σ H S env R Rx x k t Rr q => s c σ H S env _ Rx x k t _ fun vs H1 S1 ds k1 s1 r1 t1 => ?_⟩
  unfold fZip at t1
  split at t1 <;> try exact t1.elim
  · obtain ⟨v, w, rfl, r2, r3⟩ := rep2 r1
    obtain ⟨a, us, rfl, h1, hS, l⟩ := lst_of k1 r2
    obtain ⟨b, ws, rfl, h2, hS2, l2⟩ := lst_of k1 r3
    exact ⟨a, b, us, ws, rfl, .inl ⟨SqL.of h1, SqL.of h2, q _ H1 S1 _ k1 s1 (itz_ok hS hS2 l l2) t1⟩⟩
  · obtain ⟨v, w, rfl, r2, r3⟩ := rep2 r1
    obtain ⟨a, us, rfl, h1, hS, l⟩ := tup_of k1 r2
    obtain ⟨b, ws, rfl, h2, hS2, l2⟩ := tup_of k1 r3
    exact ⟨a, b, us, ws, rfl, .inr ⟨SqT.of h1, SqT.of h2, q _ H1 S1 _ k1 s1 (itzT_ok hS hS2 l l2) t1⟩⟩
theorem fZip_lst {R : List D → Prop} {xs ys : List D} : fZip R [.lst xs, .lst ys] = R (pairs xs ys) := rfl
theorem fZip_tup {R : List D → Prop} {xs ys : List D} : fZip R [.tup xs, .tup ys] = R (pairs xs ys) := rfl
/-- enumerate -/
def nums (lo : Int) : List D → List D
  | [] => []
  | x :: xs => .tup [.int lo, x] :: nums (lo + 1) xs
def xEnum (Tl : DTA) : DTI := fun env R Rx => Tl env (fun ds => match ds with
  | [.lst xs] => R (nums 0 xs)
  | _ => False) Rx
/-- the signs of a text -/
def signs (s : Str) : List D := s.cps.toList.map fun c => .str ⟨#[c]⟩
theorem its_ok {B : Option Addr} {S : Hp} {s : Str} : ItOk B (Its s) S (signs s) := fun c hB i σ H S1 env k _ => by
  unfold signs
  refine ⟨fun d e => ?_, fun hl => by
    rw [List.length_map] at hl
    show s.cps.size ≤ i
    simpa using hl⟩
  rw [List.getElem?_map] at e
  cases h : s.cps.toList[i]? with
  | none => rw [h] at e; cases e
  | some ch =>
    rw [h] at e
    cases e
    have h2 : s.cps[i]? = some ch := by rw [← Array.getElem?_toList]; exact h
    refine ⟨(Array.getElem?_eq_some_iff.mp h2).1, fun x H' y => ?_⟩
    obtain ⟨rfl, c', e1, rfl⟩ := y
    rw [h2] at e1
    cases e1
    exact ⟨S1, k, Same.refl S1, rfl⟩
def xItS (Ta : DT) : DTI := fun env R Rx => Ta env (fun d => match d with
  | .str s => R (signs s)
  | _ => False) Rx
theorem i_str (h : DE X E a Ta) : DI X E tg a (xItS Ta) := by
  obtain ⟨t, p, s⟩ := h
  refine ⟨_, pi_str p, fun c σ H S env R Rx x k t Rr q => s c σ H S env _ Rx x k t _ fun v H1 S1 d k1 s1 r1 t1 => ?_⟩
  cases d <;> try exact (show False from t1).elim
  exact ⟨_, r1, q _ H1 S1 _ k1 s1 its_ok t1⟩
end
def zFor (Ti : DTI) (G : DG) (Tb : DTS) : DTS := fun Q env => Ti env (fun xs => ∃ I : Nat → En → Prop, I 0 env ∧ (∀ i d env, xs[i]? = some d → I i env → G d env fun env' => Tb { Q with nx := I (i + 1), ct := I (i + 1), bk := Q.nx } env') ∧ ∀ env, I xs.length env → Q.nx env) Q.ex
def zWhile (Tc : DTT) (Tb : DTS) : DTS := fun Q env => ∃ (I : Nat → En → Prop) (m : Nat), I m env ∧ ∀ m env, I m env → Tc env (fun b => (b = true → Tb { Q with nx := fun e => ∃ m', m' < m ∧ I m' e, ct := fun e => ∃ m', m' < m ∧ I m' e, bk := Q.nx } env) ∧ (b = false → Q.nx env)) Q.ex
section
variable {X : Cx} {E : XK} {pos : Pos} {tg iter : Expr} {body : List Stmt} {Ti : DTI} {G : DG} {Tb : DTS}
theorem s_for {js : List Nat} (hp : PassesOwn (model X.prog X.w) X.A X.env X.xe) (hc : X.calm = true) (hi : DI X E tg iter Ti) (hg : DGt X tg G js) (hb : DSs X E body Tb) (hs : ∀ x, foldedSetIterable iter X.env x = pure x := by intro _; rfl) :
    DS X E (.For tg iter body [] pos) (zFor Ti G Tb) := by
  obtain ⟨wi, p1, s1⟩ := hi
  obtain ⟨g, p2, s2⟩ := hg
  obtain ⟨tb, p3, s3⟩ := hb
  refine ⟨_, ps_for hp hc p1 p2 p3 hs, fun c σ H S env Q x k t D m => s1 c σ H S env _ _ x k t _ fun J H1 S1 xs k1 s4 it t1 => ?_⟩
  obtain ⟨I, h0, hstep, hend⟩ := t1
  have m1 := m.mono s4
  refine ⟨fun i n σ H => n = xs.length - i ∧ i ≤ xs.length ∧ ∃ S env, Kn c σ H S env ∧ Same S1 S ∧ I i env, ⟨_, rfl, Nat.zero_le _, S1, env, k1, Same.refl S1, h0⟩, ?_⟩
  rintro i n σ H ⟨rfl, hi, S, env, k, s, hI⟩
  obtain ⟨go, stop⟩ := it c rfl i σ H S env k s
  by_cases hlt : i < xs.length
  · have e : xs[i]? = some xs[i] := by simp [hlt]
    obtain ⟨g1, g2⟩ := go _ e
    refine .inr ⟨g1, fun σ H => ∃ S env, Kn c σ H S env ∧ Same S1 S ∧ I (i + 1) env, fun σ' H' ⟨S', env', k', s', h'⟩ => ⟨_, by omega, rfl, hlt, S', env', k', s', h'⟩, fun v H' y => ?_⟩
    obtain ⟨S', k', s', r'⟩ := g2 v H' y
    refine s2 c σ H' S' env _ v _ k' r' (hstep i _ env e hI) _ fun σ2 H2 S2 env2 k2 s5 _ t2 => ?_
    have s6 : Same S1 S2 := (s.trans s').trans s5
    refine s3 c σ2 H2 S2 env2 { Q with nx := I (i + 1), ct := I (i + 1), bk := Q.nx } x k2 t2 _ ⟨fun σ3 H3 S3 env3 k3 s7 t3 => ⟨S3, env3, k3, s6.trans s7, t3⟩, (m1.mono s6).2.1, fun σ3 H3 S3 env3 k3 s7 t3 => m1.1 σ3 H3 S3 env3 k3 (s6.trans s7) t3, fun σ3 H3 S3 env3 k3 s7 t3 => ⟨S3, env3, k3, s6.trans s7, t3⟩⟩
  · have e : i = xs.length := by omega
    subst e
    exact .inl ⟨stop (Nat.le_refl _), m1.1 σ H S env k s (hend env hI)⟩
theorem s_while {cnd : Expr} {Tc : DTT} (hp : PassesOwn (model X.prog X.w) X.A X.env X.xe) (hc : DTe X E cnd Tc) (hb : DSs X E body Tb) : DS X E (.While cnd body [] pos) (zWhile Tc Tb) := by
  obtain ⟨tc, p1, s1⟩ := hc
  obtain ⟨tb, p3, s3⟩ := hb
  refine ⟨_, ps_while hp p1 p3, fun c σ H S env Q x k t D m => ?_⟩
  obtain ⟨I, m0, h0, hstep⟩ := t
  refine ⟨fun n σ H => ∃ S' env, Kn c σ H S' env ∧ Same S S' ∧ I n env, ⟨m0, S, env, k, Same.refl S, h0⟩, ?_⟩
  rintro n σ H ⟨S', env, k, s, hI⟩
  refine s1 c σ H S' env _ _ x k (hstep n env hI) _ fun b H1 S1 k1 s4 t1 => ?_
  have s5 := s.trans s4
  cases b with
  | true =>
    refine iteT ⟨fun σ H => ∃ m', m' < n ∧ ∃ S' env, Kn c σ H S' env ∧ Same S S' ∧ I m' env, fun σ' H' h => h, ?_⟩
    exact s3 c σ H1 S1 env { Q with nx := fun e => ∃ m', m' < n ∧ I m' e, ct := fun e => ∃ m', m' < n ∧ I m' e, bk := Q.nx } x k1 (t1.1 rfl) _ ⟨fun σ3 H3 S3 env3 k3 s7 ⟨m', hm, t3⟩ => ⟨m', hm, S3, env3, k3, s5.trans s7, t3⟩, (m.mono s5).2.1, fun σ3 H3 S3 env3 k3 s7 t3 => m.1 σ3 H3 S3 env3 k3 (s5.trans s7) t3, fun σ3 H3 S3 env3 k3 s7 ⟨m', hm, t3⟩ => ⟨m', hm, S3, env3, k3, s5.trans s7, t3⟩⟩
  | false => exact iteF (m.1 σ H1 S1 env k1 s5 (t1.2 rfl))
end
end DL
namespace DL
open PySem PySem.Spec L2
variable [TbC]
def canE (E : XK) (T : DT) : TE := fun σ H Q => ∃ (c : Fm) (S : Hp) (env : En) (R : D → Prop) (Rx : Er → Prop), XOk c E Rx ∧ Kn c σ H S env ∧ T env R Rx ∧ ∀ v H' S' d, Kn c σ H' S' env → Same S S' → Rep c.B S' d v → R d → Q v H'
theorem sm_can {E : XK} {T : DT} : Sm E (canE E T) T := fun c σ H S env R Rx x k t Q q => ⟨c, S, env, R, Rx, x, k, t, q⟩
theorem pe_can {X : Cx} {E : XK} {e : Expr} {T : DT} (h : DE X E e T) : PE X e (canE E T) := by
  obtain ⟨t, p, s⟩ := h
  exact ⟨fun pins st σ H Q I ⟨c, S, env, R, Rx, x, k, t, q⟩ => p.run pins st σ H Q I (s c σ H S env R Rx x k t Q q)⟩
def canT (E : XK) (T : DTT) : TT := fun σ H Q => ∃ (c : Fm) (S : Hp) (env : En) (R : Bool → Prop) (Rx : Er → Prop), XOk c E Rx ∧ Kn c σ H S env ∧ T env R Rx ∧ ∀ b H' S', Kn c σ H' S' env → Same S S' → R b → Q b H'
theorem smT_can {E : XK} {T : DTT} : SmT E (canT E T) T := fun c σ H S env R Rx x k t Q q => ⟨c, S, env, R, Rx, x, k, t, q⟩
def DTs (X : Cx) (E : XK) (es : List Expr) (T : DTT) : Prop := ∃ t, PTs X es t ∧ SmT E t T
theorem pts_can {X : Cx} {E : XK} {e : List Expr} {T : DTT} (h : DTs X E e T) : PTs X e (canT E T) := by
  obtain ⟨t, p, s⟩ := h
  exact ⟨fun pins st σ H Q I ⟨c, S, env, R, Rx, x, k, t, q⟩ => p.run pins st σ H Q I (s c σ H S env R Rx x k t Q q)⟩
def canG (G : DG) (js : List Nat) : TG := fun v σ H P => ∃ (c : Fm) (S : Hp) (env : En) (d : D) (N : En → Prop), Kn c σ H S env ∧ Rep c.B S d v ∧ G d env N ∧ ∀ σ' H' S' env', Kn c σ' H' S' env' → Same S S' → Wip js σ σ' → N env' → P σ' H'
theorem smG_can {G : DG} {js : List Nat} : SmG (canG G js) G js := fun c σ H S env d v N k r t P q => ⟨c, S, env, d, N, k, r, t, q⟩
theorem pg_can {X : Cx} {e : Expr} {G : DG} {js : List Nat} (h : DGt X e G js) : PG X e (canG G js) := by
  obtain ⟨g, p, s⟩ := h
  exact ⟨fun pins st σ H v u Q I r ⟨c, S, env, d, N, k, r2, t, q⟩ => p.run pins st σ H v u Q I r (s c σ H S env d v N k r2 t Q q)⟩
def xYes : DTT := fun _ R _ => R true
section
variable {X : Cx} {E : XK} {a : Expr} {T : DTT}
theorem dts_nil : DTs X E [] xYes := ⟨_, pts_nil, fun c σ H S env R Rx x k t Q q => q true H S k (Same.refl S) t⟩
theorem dts_one (h : DTe X E a T) : DTs X E [a] T := by
  obtain ⟨t, p, s⟩ := h
  exact ⟨_, pts_one p, s⟩
end
abbrev noX : Er → Prop := fun _ => False
theorem xok0 {c : Fm} {E : XK} : XOk c E noX := fun er d vs H S k r l h _ _ z => z.elim
def Fm.at (c : Fm) (H S : Hp) : Fm := ⟨c.B, c.C, H, S⟩
section
variable {c : Fm} {σ : St} {H H' S S' : Hp} {env : En}
theorem Kf.at (k : Kf c H S) : Kf (c.at H S) H S := ⟨k.sub, Same.refl S, fun _ _ e _ => e, fun a e _ => e, fun b e => ⟨(k.bag b e).1, by
  obtain ⟨⟨_, cs, i, g, st, n, q, _⟩, _⟩ := k.bag b e
  show H b ≠ none
  rw [q]
  exact fun z => nomatch z⟩, ⟨k.tab.1, fun p hp => k.tab.1.ne hp⟩⟩
theorem Kn.back (k : Kn c σ H S env) (k' : Kf (c.at H S) H' S') : Kn c σ H' S' env := k.step k'.s0 k'.sub (fun a o e n => k'.old a o e n) (fun a e n => k'.new a e n) (fun b e => (k'.bag b e).1) k'.tab.1
theorem Kf.back' (k : Kf c H S) (k' : Kf (c.at H S) H' S') : Kf c H' S' := k.step k'.s0 k'.sub (fun a o e n => k'.old a o e n) (fun a e n => k'.new a e n) (fun b e => (k'.bag b e).1) k'.tab.1
theorem XOk.at {E : XK} {Rx : Er → Prop} (x : XOk c E Rx) (k : Kf c H S) : XOk (c.at H S) E Rx := fun er d vs H1 S1 k1 r l h n0 n1 z => x er d vs H1 S1 (k.back' k1) r l h (k.h0_none n0) n1 z
end
def inner : List Nat → En → En
  | [], env => env.map fun o => match o with
    | some (.val d) => some (.val d)
    | _ => none
  | i :: vs, env => (inner vs env).set i none
theorem inner_len {env : En} : ∀ vs : List Nat, (inner vs env).length = env.length
  | [] => by simp [inner]
  | i :: vs => by simp [inner, inner_len vs]
theorem inner_get {env : En} {i : Nat} {x : DV} : ∀ {vs : List Nat}, (inner vs env)[i]? = some (some x) → (∃ d, x = .val d ∧ env[i]? = some (some (.val d))) ∧ i ∉ vs
  | [], h => by
    refine ⟨?_, by simp⟩
    simp only [inner, List.getElem?_map] at h
    cases e : env[i]? with
    | none => rw [e] at h; cases h
    | some o =>
      rw [e] at h
      cases o with
      | none => cases h
      | some y =>
        cases y with
        | val d => cases h; exact ⟨d, rfl, rfl⟩
        | own _ => cases h
        | tre _ _ => cases h
  | v :: vs, h => by
    show _ ∧ i ∉ v :: vs
    simp only [inner] at h
    by_cases z : v = i
    · subst z
      rw [List.getElem?_set] at h
      simp only [if_true] at h
      split at h <;> cases h
    · rw [List.getElem?_set_ne z] at h
      obtain ⟨a, b⟩ := inner_get h
      exact ⟨a, by simp only [List.mem_cons, not_or]; exact ⟨fun e => z e.symm, b⟩⟩
theorem wipe_get {σ : St} {i : Nat} : ∀ {vs : List Nat}, i ∉ vs → (wipe σ vs)[i]? = σ[i]?
  | [], _ => rfl
  | v :: vs, h => by
    simp only [List.mem_cons, not_or] at h
    show ((wipe σ vs).set v none)[i]? = _
    rw [List.getElem?_set_ne (Ne.symm h.1), wipe_get h.2]
theorem wipe_in {j : Nat} : ∀ {us : List Nat} {τ : St}, j ∈ us → (wipe τ us)[j]? = if j < τ.length then some none else none
  | [], _, h => nomatch h
  | u :: us, τ, h => by
    show ((wipe τ us).set u none)[j]? = _
    by_cases hu : u = j
    · subst hu
      rw [List.getElem?_set]
      simp only [if_true, wipe_length]
    · rw [List.getElem?_set_ne hu]
      refine wipe_in ?_
      rcases List.mem_cons.mp h with e | e
      · exact absurd e.symm hu
      · exact e
theorem wipe_wipe (σ : St) (us : List Nat) : wipe (wipe σ us) us = wipe σ us := by
  apply List.ext_getElem?
  intro j
  by_cases hj : j ∈ us
  · rw [wipe_in hj, wipe_in hj, wipe_length]
  · rw [wipe_get hj, wipe_get hj]
theorem Kn.inner {c : Fm} {σ : St} {H S : Hp} {env : En} (k : Kn c σ H S env) (vs : List Nat) : Kn (c.at H S) (wipe σ vs) H S (inner vs env) := by
  refine ⟨k.kf.at, by rw [inner_len, wipe_length]; exact k.len, fun i x e => ?_, fun i j x y v u a _ e _ _ _ f _ => ?_⟩
  · obtain ⟨⟨d, rfl, e1⟩, hi⟩ := inner_get e
    obtain ⟨v, e2, r⟩ := k.sl i _ e1
    exact ⟨v, by rw [wipe_get hi]; exact e2, r⟩
  · obtain ⟨⟨d, rfl, _⟩, _⟩ := inner_get e
    exact f
def xLcF (Ti : DTI) (G : DG) (Tt : DTT) (Te : DT) (vs : List Nat) : DTF := fun env R Rx => Ti env (fun xs => ∃ I : Nat → List D → Prop, I 0 [] ∧
  (∀ i d acc, xs[i]? = some d → I i acc → G d (inner vs env) fun env' => Tt env' (fun b => (b = true → Te env' (fun y => acc.length < sizeLine ∧ I (i + 1) (acc ++ [y])) noX) ∧ (b = false → I (i + 1) acc)) noX) ∧
  ∀ acc, I xs.length acc → R acc) Rx
section
variable {X : Cx} {E : XK} {elt tg iter : Expr} {ifs : List Expr} {scope : Scope} {own : List (Str × Nat)} {pos : Pos} {Ti : DTI} {G : DG} {Tt : DTT} {Te : DT} {js : List Nat}
theorem smF_lc {wi : TI} (hsub : ∀ j ∈ js, j ∈ own.map (·.2)) (hi : SmI E wi Ti) : SmF E (tLc wi (canG G js) (canT E0 Tt) (canE E0 Te) (own.map (·.2))) (xLcF Ti G Tt Te (own.map (·.2))) := fun c σ H S env R Rx x k t Q q =>
  hi c σ H S env _ Rx x k t _ fun J H1 S1 xs k1 s1 it t1 => by
    obtain ⟨I, h0, hstep, hend⟩ := t1
    intro D hD
    have n0 := k1.kf.h0_none hD
    have fD := k1.free hD
    refine ⟨fun i m H => m = xs.length - i ∧ i ≤ xs.length ∧ ∃ S vs acc, Kn c σ H S env ∧ Same S1 S ∧ S D = none ∧ H D = some (.lst vs) ∧ RepL c.B S acc vs ∧ I i acc,
      ⟨_, rfl, Nat.zero_le _, S1, [], [], k1.new0 hD, Same.refl S1, k1.kf.s_none hD, upd_same, repL_nil, h0⟩, ?_⟩
    rintro i m H ⟨rfl, hil, S, vs, acc, k, s, nD, eD, l, hI⟩
    have ki := k.inner (own.map (·.2))
    obtain ⟨go, stop⟩ := it (c.at H S) rfl i _ H S _ ki s
    by_cases hlt : i < xs.length
    · have e : xs[i]? = some xs[i] := by simp [hlt]
      obtain ⟨g1, g2⟩ := go _ e
      refine .inr ⟨g1, fun H => i + 1 ≤ xs.length ∧ ∃ S vs acc, Kn c σ H S env ∧ Same S1 S ∧ S D = none ∧ H D = some (.lst vs) ∧ RepL c.B S acc vs ∧ I (i + 1) acc, fun H' h => ⟨_, by omega, rfl, h⟩, fun v H' y => ?_⟩
      obtain ⟨S', k', s', r'⟩ := g2 v H' y
      refine smG_can (c.at H S) _ H' S' _ _ v _ k' r' (hstep i _ acc e hI) _ fun σ2 H2 S2 env2 k2 s2 w2 t2 => ?_
      refine ⟨?_, ?_⟩
      · have := w2 (own.map (·.2)) hsub
        rw [this]
        exact wipe_wipe _ _
      · refine smT_can (c.at H S) σ2 H2 S2 env2 _ noX xok0 k2 t2 _ fun b H3 S3 k3 s3 t3 => ?_
        have fin : ∀ {H4 S4 : Hp}, Kf (c.at H S) H4 S4 → Kn c σ H4 S4 env ∧ H4 D = some (.lst vs) ∧ S4 D = none ∧ RepL c.B S4 acc vs ∧ Same S1 S4 := fun {H4 S4} kf => by
          refine ⟨k.back kf, kf.old D _ eD (k.kf.x_ne0 n0), kf.new D nD (mu_lst eD), repL_mono kf.s0 acc vs l, s.trans kf.s0⟩
        cases b with
        | true =>
          refine iteT ?_
          refine sm_can (c.at H S) σ2 H3 S3 env2 _ noX xok0 k3 (t3.1 rfl) _ fun u H4 S4 d4 k4 s4 r4 t4 => ?_
          obtain ⟨kn, eD4, nD4, l4, ss⟩ := fin k4.kf
          have l5 := l4.app (repL_cons r4 repL_nil)
          refine ⟨vs, eD4, by rw [l4.length]; exact t4.1, hlt, S4, _, _, ?_, ss, nD4, upd_same, l5, t4.2⟩
          -- the list at D changes: nobody knows it
          exact kn.updF nD4 n0 eD4 lst_ne fD
        | false =>
          refine iteF ?_
          obtain ⟨kn, eD4, nD4, l4, ss⟩ := fin k3.kf
          exact ⟨hlt, S3, vs, acc, kn, ss, nD4, eD4, l4, t3.2 rfl⟩
    · have e : i = xs.length := by omega
      subst e
      exact .inl ⟨stop (Nat.le_refl _), q D vs H S acc k (s1.trans s) n0 fD nD eD l (hend acc hI)⟩
theorem f_lc (hc : X.calm = true) (hN : X.N.Nodup) (hi : DI X E tg iter Ti) (ok : BlkOk X.N X.env.scope scope own) (hsub : ∀ j ∈ js, j ∈ own.map (·.2))
    (hg : ∀ (s : Shared) (H : Hp) (C : Addr) (cl : List (Str × Addr)) (fp : List Addr), DGt (X.blk s H scope (compEnvC scope cl C X.env) fp) tg G js)
    (ht : ∀ (s : Shared) (H : Hp) (C : Addr) (cl : List (Str × Addr)) (fp : List Addr), DTs (X.blk s H scope (compEnvC scope cl C X.env) fp) E0 ifs Tt)
    (he : ∀ (s : Shared) (H : Hp) (C : Addr) (cl : List (Str × Addr)) (fp : List Addr), DE (X.blk s H scope (compEnvC scope cl C X.env) fp) E0 elt Te)
    (hs : ∀ x, foldedSetIterable iter X.env x = pure x := by intro _; rfl) : DF X E (.ListComp elt [⟨tg, iter, ifs, 0⟩] scope pos) (xLcF Ti G Tt Te (own.map (·.2))) := by
  obtain ⟨wi, p, s⟩ := hi
  exact ⟨_, pe_lc hc hN p ok (fun s H C cl fp => pg_can (hg s H C cl fp)) (fun s H C cl fp => pts_can (ht s H C cl fp)) (fun s H C cl fp => pe_can (he s H C cl fp)) hs, smF_lc hsub s⟩
end
abbrev Spec := List D → (D → Prop) → (Er → Prop) → Prop
def spD (F : Spec) : Sp := fun vs H Q E => ∃ (c : Fm) (S : Hp) (ds : List D) (R : D → Prop) (Rx : Er → Prop), c.H0 = H ∧ c.S0 = S ∧ Kf c H S ∧ RepL c.B S ds vs ∧ F ds R Rx ∧ (∀ v H' S' d, Kf c H' S' → Rep c.B S' d v → R d → Q v H') ∧ XOk c E Rx
def xCall (F : Spec) (dds : List D) (Tl : DTA) : DT := fun env R Rx => Tl env (fun xs => F (xs ++ dds) R Rx) Rx
def DfR (dds : List D) (dvs : List V) : Prop := ∀ B S, RepL B S dds dvs
theorem dfR_nil : DfR [] [] := fun _ _ => repL_nil
section
variable {X : Cx} {E : XK} {CX : CXT} {k n : Nat} {f : Addr} {fd : FuncData} {ps ks : List Str} {F : Spec} {dvs : List V} {dds : List D} {ds : List Value} {x : Str} {p pos : Pos} {e : Expr} {es : List Expr} {Tl Tk : DTA} {kws : List Keyword}
theorem sp_call {c : Fm} {σ : St} {H S : Hp} {env : En} {vs : List V} {xs : List D} {R : D → Prop} {Rx : Er → Prop} {Q : VK} (kn : Kn c σ H S env) (x : XOk c E Rx) (l : RepL c.B S xs vs) (t : F xs R Rx)
    (q : ∀ v H' S' d, Kn c σ H' S' env → Same S S' → Rep c.B S' d v → R d → Q v H') : spD F vs H Q E :=
  ⟨c.at H S, S, xs, R, Rx, rfl, rfl, kn.kf.at, l, t, fun v H' S' d k' r z => q v H' S' d (kn.back k') k'.s0 r z, x.at kn.kf⟩
theorem d_call (G : FnOk X.prog X.w X.K X.mg X.base CX k f fd ps (spD F)) (hr : Room k X.A) (hm : X.mg x = some (.ref f)) (hk : PySem.W.keepIn X.K (.ref f) = true) (hb : Binds X.K fd ps ds) (hd : Vals dvs ds) (hdd : DfR dds dvs) (hx : Passes CX X E) (ha : DA X E (e :: es) Tl)
    (hg : Gl X x := by rfl) (hdb : (x == ("__debug__" : Str)) = false := by decide) (he : starEach (e :: es) X.env = (false, eval e X.env) :: starEach es X.env := by rfl) (hpl : (backTo pos (starEach es X.env)).any (·.1) = false := by rfl) :
    DE X E (.Call (.Name x p) (e :: es) [] pos) (xCall F dds Tl) := by
  obtain ⟨t, pa, s⟩ := ha
  refine ⟨_, pe_call G hr hg hm hk hb hd hx pa hdb he hpl, fun c σ H S env R Rx x k t Q q => s c σ H S env _ Rx x k t _ fun vs H1 S1 xs k1 s1 l1 t1 => ?_⟩
  exact sp_call k1 x (l1.app (hdd _ _)) t1 fun v H' S' d k' s' r' t' => q v H' S' d k' (s1.trans s') r' t'
/-- f(.., k = v, ..) -/
def DK (X : Cx) (E : XK) (kws : List Keyword) (T : DTA) : Prop := ∃ t, PK X kws t ∧ SmA E t T
theorem dk_nil : DK X E [] xNil := ⟨_, pk_nil, fun c σ H S env R Rx x k t Q q => q [] H S [] k (Same.refl S) repL_nil t⟩
theorem dk_cons {nm : Option Str} {kpos : Pos} {Ta : DT} (ha : DE X E e Ta) (hl : DK X E kws Tk) : DK X E (⟨nm, e, kpos⟩ :: kws) (xCons Ta Tk) := by
  obtain ⟨ta, p, s⟩ := ha
  obtain ⟨t, p2, s2⟩ := hl
  exact ⟨_, pk_cons p p2, smA_cons s s2⟩
def xCallK (F : Spec) (g : List D → List D → List D) (Tl Tk : DTA) : DT := fun env R Rx => Tl env (fun xs => Tk env (fun zs => F (g xs zs) R Rx) Rx) Rx
/-- the values in the parameters' order -/
structure KBd (K : PySem.W.Frag) (fd : FuncData) (ps ks : List Str) (g : {α : Type} → List α → List α → List α) : Prop where
  to : ∀ (s : Shared) (us ws : List Value), K.In s.heap → (g us ws).length = ps.length → BindsTo s fd ⟨us, ks.zip ws⟩ (ps.zip (g us ws))
  rel : ∀ {vs : List V} {us : List Value} {zs : List V} {ws : List Value}, Vals vs us → Vals zs ws → Vals (g vs zs) (g us ws)
  rep : ∀ {B : Option Addr} {S : Hp} {xs zs : List D} {vs ws : List V}, RepL B S xs vs → RepL B S zs ws → RepL B S (g xs zs) (g vs ws)
theorem pe_callK0 {sp : Sp} {t : TA} {kw : Keyword} {gg : List Value → List Value → List Value} {gV : List V → List V → List V} (G : FnOk X.prog X.w X.K X.mg X.base CX k f fd ps sp) (hr : Room k X.A) (hg : Gl X x) (hm : X.mg x = some (.ref f)) (hk : PySem.W.keepIn X.K (.ref f) = true) (hb : KBinds X.K fd ps ks gg gV) (hx : Passes CX X E)
    (hkw : PK X (kw :: kws) t) (hall : (backToKw pos (keywordEach (kw :: kws) X.env)).all (·.1.isSome) = true := by rfl) (hks : (backToKw pos (keywordEach (kw :: kws) X.env)).filterMap (·.1) = ks := by rfl)
    (hdb : (x == ("__debug__" : Str)) = false := by decide)
    (hpl : ((backTo pos (starEach [] X.env)).any (·.1) || (backToKw pos (keywordEach (kw :: kws) X.env)).any (·.1.isNone)) = false := by rfl) :
    PE X (.Call (.Name x p) [] (kw :: kws) pos) (tCallK sp gV E tNil t) := by
  refine ⟨fun pins s σ H Q I h => ?_⟩
  refine wpAny_Call_Name_kw (ld_glob I hg hm ?_ hdb)
  refine PySem.W.callWith_KW0 (h₀ := X.base) I.ok.mod.kin hk hall ?_ hpl
  refine thn (hkw.run pos pins s σ H _ I h) fun ws s2 ⟨zs, H2, I2, rz, q2⟩ => ⟨I2.kIn, ?_⟩
  rw [hks]
  exact run_fnk G hr hb hx I2 .nil rz q2
theorem d_callK0 {g : {α : Type} → List α → List α → List α} {kw : Keyword} (G : FnOk X.prog X.w X.K X.mg X.base CX k f fd ps (spD F)) (hr : Room k X.A) (hm : X.mg x = some (.ref f)) (hk : PySem.W.keepIn X.K (.ref f) = true) (hb : KBd X.K fd ps ks g) (hx : Passes CX X E)
    (hkw : DK X E (kw :: kws) Tk) (hg : Gl X x := by rfl) (hall : (backToKw pos (keywordEach (kw :: kws) X.env)).all (·.1.isSome) = true := by rfl) (hks : (backToKw pos (keywordEach (kw :: kws) X.env)).filterMap (·.1) = ks := by rfl)
    (hdb : (x == ("__debug__" : Str)) = false := by decide)
    (hpl : ((backTo pos (starEach [] X.env)).any (·.1) || (backToKw pos (keywordEach (kw :: kws) X.env)).any (·.1.isNone)) = false := by rfl) :
    DE X E (.Call (.Name x p) [] (kw :: kws) pos) (xCallK F g xNil Tk) := by
  obtain ⟨tk, pk, sk⟩ := hkw
  refine ⟨_, pe_callK0 G hr hg hm hk ⟨hb.to, hb.rel⟩ hx pk hall hks hdb hpl, fun c σ H S env R Rx x k t Q q => ?_⟩
  refine sk c σ H S env _ Rx x k t _ fun ws H2 S2 zs k2 s2 l2 t2 => ?_
  exact sp_call k2 x (hb.rep repL_nil l2) t2 fun v H' S' d k' s' r' t' => q v H' S' d k' (s2.trans s') r' t'
end
/-- the names at the entry -/
def startE (N : List Str) (ds : List D) : En := ds.map (fun d => some (.val d)) ++ List.replicate (N.length - ds.length) none
theorem kn_start {c : Fm} {N : List Str} {ds : List D} {vs : List V} {H S : Hp} (k : Kf c H S) (l : RepL c.B S ds vs) : Kn c (L2.start N vs) H S (startE N ds) := by
  have hl := l.length
  refine ⟨k, by unfold startE L2.start; simp [hl], fun i x e => ?_, fun i j x y v u a _ e _ _ _ f _ => ?_⟩
  · unfold startE at e
    unfold L2.start
    by_cases hi : i < ds.length
    · rw [List.getElem?_append_left (by simpa using hi), List.getElem?_map] at e
      cases ed : ds[i]? with
      | none => rw [ed] at e; cases e
      | some d =>
        rw [ed] at e
        cases e
        obtain ⟨v, ev, r⟩ := l.get ed
        exact ⟨v, by rw [List.getElem?_append_left (by simp; omega), List.getElem?_map, ev]; rfl, r⟩
    · rw [List.getElem?_append_right (by simpa using hi), List.getElem?_replicate] at e
      split at e <;> cases e
  · unfold startE at e
    by_cases hi : i < ds.length
    · rw [List.getElem?_append_left (by simpa using hi), List.getElem?_map] at e
      cases ed : ds[i]? with
      | none => rw [ed] at e; cases e
      | some d =>
        rw [ed] at e
        cases e
        exact f
    · rw [List.getElem?_append_right (by simpa using hi), List.getElem?_replicate] at e
      split at e <;> cases e
section
variable {P : Program} {w : World} {K : PySem.W.Frag} {mg : Str → Option Value} {base : Heap} {x qual : Str} {st : Stmt} {dvs : List V} {kws : List (Str × V)} {f : Addr} {fd : FuncData} {N ps : List Str} {k : Nat} {F : Spec}
abbrev FnS (K : PySem.W.Frag) (x qual : Str) (st : Stmt) (dvs : List V) (kws : List (Str × V)) (f : Addr) (fd : FuncData) : Prop := FunD K x qual (defArgs st) (defBody st) (defScope st) dvs kws f fd
/-- THE RULE for a def: its body told by T, and what T says -/
theorem fn_d {T : DTS} (Fd : FnS K x qual st dvs kws f fd) (S : FnScope N ps (defScope st)) (len : ∀ ds R Rx, F ds R Rx → ds.length = ps.length)
    (hbody : ∀ (cdv : Value) (A : Around) (outer : List Env) (s : Shared) (H : Hp) (E : XK), Room k (A.deeper (PyProof.Rows.envOfC qual (defScope st) s.heap.objs.size f cdv)) →
      DSs (cxOf (L2.CX P w) P w K mg base N qual (defScope st) f cdv A outer s H E) E (defBody st) T)
    (hT : ∀ ds R Rx, F ds R Rx → T { nx := fun _ => R .non, rt := fun _ => R, ex := Rx } (startE N ds)) : FnOk P w K mg base (L2.CX P w) (k + 1) f fd ps (spD F) := by
  refine FunD.ok Fd S (fun vs H Q E ⟨c, S, ds, R, Rx, _, _, _, l, h, _⟩ => by rw [l.length]; exact len _ _ _ h) fun cdv A outer s H vs Q E hr hsp => ?_
  obtain ⟨c, Sh, ds, R, Rx, h0, hs0, kf, l, h, q, xo⟩ := hsp
  obtain ⟨t, p, sm⟩ := hbody cdv A outer s H E hr
  refine ⟨t, p, sm c _ H Sh _ _ xo (kn_start kf l) (hT ds R Rx h) _ ⟨fun σ H1 S1 env k1 s1 r1 => ?_, fun n v H1 S1 d k1 s1 r1 t1 => by
    obtain ⟨S2, k2, _, r2⟩ := r1.old k1
    exact q v H1 S2 d k2 r2 t1, fun σ H1 S1 env k1 s1 r1 => r1, fun σ H1 S1 env k1 s1 r1 => r1⟩⟩
  exact q .non H1 S1 .non k1.kf rfl r1
end
end DL
namespace DL
open PySem PySem.Spec L2
variable [TbC]
theorem pass_d {P : Program} {w : World} {K : PySem.W.Frag} {mg : Str → Option Value} {base : Heap} {N : List Str} {qual : Str} {scope : Scope} {f : Addr} {cd : Value} {A : Around} {outer : List Env} {s : Shared} {H : Hp} {E : XK} :
    Passes (L2.CX P w) (cxOf (L2.CX P w) P w K mg base N qual scope f cd A outer s H E) E := passes_call (takes_of rfl rfl rfl rfl) fun _ _ _ _ h => h
/-- a def of the module's top without defaults -/
structure Df (K : PySem.W.Frag) (mg : Str → Option Value) (x : Str) (st : Stmt) where
  f : Addr
  fd : FuncData
  F : FnS K x x st [] [] f fd
  g : mg x = some (.ref f)
section
variable {R : D → Prop} {i j : Int} {b : Bool} {s t : Str} {xs ys : List D} {x y d : D} {env : En} {Rx : Er → Prop}
theorem opAdd_int : opAdd (.int i) (.int j) R = R (.int (i + j)) := rfl
theorem opAdd_str : opAdd (.str s) (.str t) R = (s.length + t.length ≤ sizeLine ∧ R (.str (s ++ t))) := rfl
theorem opAdd_lst : opAdd (.lst xs) (.lst ys) R = (xs.length + ys.length ≤ sizeLine ∧ R (.lst (xs ++ ys))) := rfl
theorem opAdd_tup : opAdd (.tup xs) (.tup ys) R = (xs.length + ys.length ≤ sizeLine ∧ R (.tup (xs ++ ys))) := rfl
theorem opSub_int : opSub (.int i) (.int j) R = R (.int (i - j)) := rfl
theorem opMul_int : opMul (.int i) (.int j) R = (MulOk i j ∧ R (.int (i * j))) := rfl
theorem opMul_lst : opMul (.lst xs) (.int j) R = (-(2 ^ 63) ≤ j ∧ j < 2 ^ 63 ∧ xs.length * j.toNat ≤ sizeLine ∧ R (.lst (List.replicate j.toNat xs).flatten)) := rfl
theorem opMul_str : opMul (.str s) (.int j) R = (-(2 ^ 63) ≤ j ∧ j < 2 ^ 63 ∧ s.length * j.toNat ≤ sizeLine ∧ R (.str (mulS s j.toNat))) := rfl
theorem opFdiv_int : opFdiv (.int i) (.int j) R = (DivOk j ∧ R (.int (i.fdiv j))) := rfl
theorem opMod_int : opMod (.int i) (.int j) R = (j ≠ 0 ∧ R (.int (i.fmod j))) := rfl
theorem opPow_int : opPow (.int i) (.int j) R = ((0 ≤ j ∧ j ≤ 1000000 ∧ i.natAbs < 2 ^ 64) ∧ R (.int (i ^ j.toNat))) := rfl
theorem opNeg_int : opNeg (.int i) R = R (.int (-i)) := rfl
theorem opLt_int : opLt (.int i) (.int j) R = R (.bl (decide (i < j))) := rfl
theorem opLe_int : opLe (.int i) (.int j) R = R (.bl (decide (i ≤ j))) := rfl
theorem opGt_int : opGt (.int i) (.int j) R = R (.bl (decide (j < i))) := rfl
theorem opGe_int : opGe (.int i) (.int j) R = R (.bl (decide (j ≤ i))) := rfl
theorem opIx_lst : opIx (.lst xs) (.int i) R = ∃ d, atI xs i = some d ∧ R d := rfl
theorem opIx_tup : opIx (.tup xs) (.int i) R = ∃ d, atI xs i = some d ∧ R d := rfl
theorem opIx_str : opIx (.str s) (.int i) R = (s.length ≤ sizeLine ∧ ∃ c, atI s.cps.toList i = some c ∧ R (.str ⟨#[c]⟩)) := rfl
theorem opSl_lst {lo hi : Option Int} : opSl (.lst xs) lo hi R = R (.lst (cutD xs lo hi)) := rfl
theorem opSl_tup {lo hi : Option Int} : opSl (.tup xs) lo hi R = R (.tup (cutD xs lo hi)) := rfl
theorem opSl_str {lo hi : Option Int} : opSl (.str s) lo hi R = (s.length ≤ sizeLine ∧ R (.str (cutS s lo hi))) := rfl
theorem asB_bl {Q : Bool → Prop} : asB Q (.bl b) = Q b := rfl
theorem asI_int {Q : Int → Prop} : asI Q (.int i) = Q i := rfl
theorem asL_lst {Q : List D → Prop} : asL Q (.lst xs) = Q xs := rfl
theorem asLT_lst {Q : List D → Prop} : asLT Q (.lst xs) = Q xs := rfl
theorem asLT_tup {Q : List D → Prop} : asLT Q (.tup xs) = Q xs := rfl
theorem fLen_lst : fLen [.lst xs] R = R (.int (xs.length : Nat)) := rfl
theorem fLen_tup : fLen [.tup xs] R = R (.int (xs.length : Nat)) := rfl
theorem fLen_str : fLen [.str s] R = (s.length ≤ sizeLine ∧ R (.int (s.length : Nat))) := rfl
theorem fInt_int : fInt [.int i] R = R (.int i) := rfl
theorem fInt_bl : fInt [.bl b] R = R (.int (if b then 1 else 0)) := rfl
theorem fAbs_int : fAbs [.int i] R = R (.int (if i < 0 then -i else i)) := rfl
theorem fMin2_int : fMin2 [.int i, .int j] R = R (.int (if j < i then j else i)) := rfl
theorem fMax2_int : fMax2 [.int i, .int j] R = R (.int (if j > i then j else i)) := rfl
theorem fSum_lst : fSum [.lst xs] R = ∃ ns, asInts xs = some ns ∧ R (.int ns.sum) := rfl
theorem fAny_lst : fAny [.lst xs] R = ∃ ns, asBls xs = some ns ∧ R (.bl (ns.any _root_.id)) := rfl
theorem fAll_lst : fAll [.lst xs] R = ∃ ns, asBls xs = some ns ∧ R (.bl (ns.all _root_.id)) := rfl
theorem fTuple_lst : fTuple [.lst xs] R = R (.tup xs) := rfl
theorem fTuple_tup : fTuple [.tup xs] R = R (.tup xs) := rfl
/-- isinstance of built-in types, answered -/
theorem fIsi_1 {n : String} {bb : Bool} (h : n ∈ tys) (e : x.isi n = some bb) : fIsi [x, .ty n] R = R (.bl bb) := by
  refine propext ⟨fun t => ?_, fun t => ⟨h, bb, e, t⟩⟩
  obtain ⟨_, b2, e2, t⟩ := t
  rw [e] at e2
  cases e2
  exact t
theorem fIsi_2 {n m : String} {bb bc : Bool} (h : n ∈ tys) (h2 : m ∈ tys) (e : x.isi n = some bb) (e2 : x.isi m = some bc) : fIsi [x, .tup [.ty n, .ty m]] R = R (.bl (bb || bc)) := by
  refine propext ⟨fun t => ?_, fun t => ⟨h, h2, bb, bc, e, e2, t⟩⟩
  obtain ⟨_, _, b2, b3, e3, e4, t⟩ := t
  rw [e] at e3
  rw [e2] at e4
  cases e3
  cases e4
  exact t
theorem xVar_at {n : Nat} (h : env[n]? = some (some (.val d))) : xVar n env R Rx = R d := by
  refine propext ⟨fun ⟨d', e, t⟩ => ?_, fun t => ⟨d, h, t⟩⟩
  rw [h] at e
  cases e
  exact t
theorem xVar_0 {l : En} : xVar 0 (some (.val d) :: l) R Rx = R d := xVar_at rfl
theorem xVar_s {n : Nat} {o : Option DV} {l : En} : xVar (n + 1) (o :: l) R Rx = xVar n l R Rx := rfl
theorem put_0 {o : Option DV} {l : En} : put 0 d (o :: l) = some (.val d) :: l := rfl
theorem put_s {n : Nat} {o : Option DV} {l : En} : put (n + 1) d (o :: l) = o :: put n d l := rfl
theorem putO_0 {o : Option DV} {l : En} : putO' 0 xs (o :: l) = some (.own xs) :: l := rfl
theorem putO_s {n : Nat} {o : Option DV} {l : En} : putO' (n + 1) xs (o :: l) = o :: putO' n xs l := rfl
end
section
variable {R : D → Prop} {i : Int} {b : Bool} {s : Str} {xs : List D}
theorem isi_non_int : fIsi [.non, .ty "int"] R = R (.bl false) := fIsi_1 (by decide) rfl
theorem isi_non_bool : fIsi [.non, .ty "bool"] R = R (.bl false) := fIsi_1 (by decide) rfl
theorem isi_non_str : fIsi [.non, .ty "str"] R = R (.bl false) := fIsi_1 (by decide) rfl
theorem isi_non_list : fIsi [.non, .ty "list"] R = R (.bl false) := fIsi_1 (by decide) rfl
theorem isi_non_tuple : fIsi [.non, .ty "tuple"] R = R (.bl false) := fIsi_1 (by decide) rfl
theorem isi_non_lt : fIsi [.non, .tup [.ty "list", .ty "tuple"]] R = R (.bl false) := fIsi_2 (bb := false) (bc := false) (n := "list") (m := "tuple") (by decide) (by decide) rfl rfl
theorem isi_bl_int : fIsi [(.bl b), .ty "int"] R = R (.bl true) := fIsi_1 (by decide) rfl
theorem isi_bl_bool : fIsi [(.bl b), .ty "bool"] R = R (.bl true) := fIsi_1 (by decide) rfl
theorem isi_bl_str : fIsi [(.bl b), .ty "str"] R = R (.bl false) := fIsi_1 (by decide) rfl
theorem isi_bl_list : fIsi [(.bl b), .ty "list"] R = R (.bl false) := fIsi_1 (by decide) rfl
theorem isi_bl_tuple : fIsi [(.bl b), .ty "tuple"] R = R (.bl false) := fIsi_1 (by decide) rfl
theorem isi_bl_lt : fIsi [(.bl b), .tup [.ty "list", .ty "tuple"]] R = R (.bl false) := fIsi_2 (bb := false) (bc := false) (n := "list") (m := "tuple") (by decide) (by decide) rfl rfl
theorem isi_int_int : fIsi [(.int i), .ty "int"] R = R (.bl true) := fIsi_1 (by decide) rfl
theorem isi_int_bool : fIsi [(.int i), .ty "bool"] R = R (.bl false) := fIsi_1 (by decide) rfl
theorem isi_int_str : fIsi [(.int i), .ty "str"] R = R (.bl false) := fIsi_1 (by decide) rfl
theorem isi_int_list : fIsi [(.int i), .ty "list"] R = R (.bl false) := fIsi_1 (by decide) rfl
theorem isi_int_tuple : fIsi [(.int i), .ty "tuple"] R = R (.bl false) := fIsi_1 (by decide) rfl
theorem isi_int_lt : fIsi [(.int i), .tup [.ty "list", .ty "tuple"]] R = R (.bl false) := fIsi_2 (bb := false) (bc := false) (n := "list") (m := "tuple") (by decide) (by decide) rfl rfl
theorem isi_str_int : fIsi [(.str s), .ty "int"] R = R (.bl false) := fIsi_1 (by decide) rfl
theorem isi_str_bool : fIsi [(.str s), .ty "bool"] R = R (.bl false) := fIsi_1 (by decide) rfl
theorem isi_str_str : fIsi [(.str s), .ty "str"] R = R (.bl true) := fIsi_1 (by decide) rfl
theorem isi_str_list : fIsi [(.str s), .ty "list"] R = R (.bl false) := fIsi_1 (by decide) rfl
theorem isi_str_tuple : fIsi [(.str s), .ty "tuple"] R = R (.bl false) := fIsi_1 (by decide) rfl
theorem isi_str_lt : fIsi [(.str s), .tup [.ty "list", .ty "tuple"]] R = R (.bl false) := fIsi_2 (bb := false) (bc := false) (n := "list") (m := "tuple") (by decide) (by decide) rfl rfl
theorem isi_lst_int : fIsi [(.lst xs), .ty "int"] R = R (.bl false) := fIsi_1 (by decide) rfl
theorem isi_lst_bool : fIsi [(.lst xs), .ty "bool"] R = R (.bl false) := fIsi_1 (by decide) rfl
theorem isi_lst_str : fIsi [(.lst xs), .ty "str"] R = R (.bl false) := fIsi_1 (by decide) rfl
theorem isi_lst_list : fIsi [(.lst xs), .ty "list"] R = R (.bl true) := fIsi_1 (by decide) rfl
theorem isi_lst_tuple : fIsi [(.lst xs), .ty "tuple"] R = R (.bl false) := fIsi_1 (by decide) rfl
theorem isi_lst_lt : fIsi [(.lst xs), .tup [.ty "list", .ty "tuple"]] R = R (.bl true) := fIsi_2 (bb := true) (bc := false) (n := "list") (m := "tuple") (by decide) (by decide) rfl rfl
theorem isi_tup_int : fIsi [(.tup xs), .ty "int"] R = R (.bl false) := fIsi_1 (by decide) rfl
theorem isi_tup_bool : fIsi [(.tup xs), .ty "bool"] R = R (.bl false) := fIsi_1 (by decide) rfl
theorem isi_tup_str : fIsi [(.tup xs), .ty "str"] R = R (.bl false) := fIsi_1 (by decide) rfl
theorem isi_tup_list : fIsi [(.tup xs), .ty "list"] R = R (.bl false) := fIsi_1 (by decide) rfl
theorem isi_tup_tuple : fIsi [(.tup xs), .ty "tuple"] R = R (.bl true) := fIsi_1 (by decide) rfl
theorem isi_tup_lt : fIsi [(.tup xs), .tup [.ty "list", .ty "tuple"]] R = R (.bl true) := fIsi_2 (bb := false) (bc := true) (n := "list") (m := "tuple") (by decide) (by decide) rfl rfl
end
/-- data of at most n levels, each list within bounds -/
def Good : Nat → D → Prop
  | n + 1, .lst xs => xs.length ≤ 100000 ∧ ∀ x ∈ xs, Good n x
  | n + 1, .tup xs => xs.length ≤ 100000 ∧ ∀ x ∈ xs, Good n x
  | _ + 1, .non => True
  | _ + 1, .bl _ => True
  | _ + 1, .int _ => True
  | _ + 1, .str _ => True
  | _, _ => False
theorem datL_of {xs : List D} (h : ∀ x ∈ xs, x.dat = true) : datL xs = true := by
  induction xs with
  | nil => rfl
  | cons x xs ih =>
    show (x.dat && datL xs) = true
    rw [h x (List.mem_cons_self ..), ih fun y hy => h y (List.mem_cons_of_mem _ hy)]
    rfl
theorem depL_of {n : Nat} {xs : List D} (h : ∀ x ∈ xs, x.dep ≤ n) : depL xs ≤ n := by
  induction xs with
  | nil => exact Nat.zero_le _
  | cons x xs ih =>
    show max x.dep (depL xs) ≤ n
    have h1 := h x (List.mem_cons_self ..)
    have h2 := ih fun y hy => h y (List.mem_cons_of_mem _ hy)
    omega
theorem good_dat : ∀ {n : Nat} {d : D}, Good n d → d.dat = true ∧ d.dep ≤ n
  | 0, d, h => by cases d <;> exact (show False from h).elim
  | n + 1, d, h => by
    cases d <;> first
      | exact (show False from h).elim
      | exact ⟨rfl, by simp [D.dep]⟩
      | exact ⟨datL_of fun x hx => (good_dat (h.2 x hx)).1, by
          have : depL _ ≤ n := depL_of fun x hx => (good_dat (h.2 x hx)).2
          simp only [D.dep]
          omega⟩
theorem good_non {n : Nat} : Good (n + 1) .non = True := rfl
theorem good_bl {n : Nat} {b : Bool} : Good (n + 1) (.bl b) = True := rfl
theorem good_int {n : Nat} {i : Int} : Good (n + 1) (.int i) = True := rfl
theorem good_str {n : Nat} {s : Str} : Good (n + 1) (.str s) = True := rfl
/-- the words of comprehensions -/
def LcP (xs : List D) (G : DG) (Tt : DTT) (Te : DT) (vs : List Nat) (env : En) (R : List D → Prop) : Prop := ∃ I : Nat → List D → Prop, I 0 [] ∧
  (∀ i d acc, xs[i]? = some d → I i acc → G d (inner vs env) fun env' => Tt env' (fun b => (b = true → Te env' (fun y => acc.length < sizeLine ∧ I (i + 1) (acc ++ [y])) noX) ∧ (b = false → I (i + 1) acc)) noX) ∧
  ∀ acc, I xs.length acc → R acc
theorem xLcF_is {Ti : DTI} {G : DG} {Tt : DTT} {Te : DT} {vs : List Nat} {env : En} {R : List D → Prop} {Rx : Er → Prop} : xLcF Ti G Tt Te vs env R Rx = Ti env (fun xs => LcP xs G Tt Te vs env R) Rx := rfl
theorem take_succ_map {α β : Type} {xs : List α} {i : Nat} {d : α} (f : α → β) (e : xs[i]? = some d) : (xs.take (i + 1)).map f = (xs.take i).map f ++ [f d] := by
  rw [List.take_succ, e]
  simp
theorem LcP.map {xs : List D} {G : DG} {Te : DT} {vs : List Nat} {env : En} {R : List D → Prop} (f : D → D) (hz : xs.length ≤ sizeLine) (h : ∀ (i : Nat) (d : D) (N : D → Prop), xs[i]? = some d → N (f d) → G d (inner vs env) fun env' => Te env' N noX) (k : R (xs.map f)) :
    LcP xs G xYes Te vs env R := by
  refine ⟨fun i acc => acc = (xs.take i).map f, by simp, fun i d acc e hI => ?_, fun acc hI => by rw [hI, List.take_length]; exact k⟩
  have hi := (List.getElem?_eq_some_iff.mp e).1
  have key := h i d (fun y => acc.length < sizeLine ∧ acc ++ [y] = (xs.take (i + 1)).map f) e ⟨by rw [hI, List.length_map, List.length_take]; omega, by rw [hI, take_succ_map f e]⟩
  have e1 : (fun env' => xYes env' (fun b => (b = true → Te env' (fun y => acc.length < sizeLine ∧ acc ++ [y] = (xs.take (i + 1)).map f) noX) ∧ (b = false → acc = (xs.take (i + 1)).map f)) noX) = fun env' => Te env' (fun y => acc.length < sizeLine ∧ acc ++ [y] = (xs.take (i + 1)).map f) noX := by
    funext env'
    refine propext ⟨fun t => t.1 rfl, fun t => ⟨fun _ => t, fun z => nomatch z⟩⟩
  rw [e1]
  exact key
theorem LcP.filter {xs : List D} {G : DG} {Tt : DTT} {Te : DT} {vs : List Nat} {env : En} {R : List D → Prop} (p : D → Bool) (f : D → D) (hz : xs.length ≤ sizeLine)
    (h : ∀ (i : Nat) (d : D) (N : D → Prop) (M : Prop), xs[i]? = some d → (p d = true → N (f d)) → (p d = false → M) → G d (inner vs env) fun env' => Tt env' (fun b => (b = true → Te env' N noX) ∧ (b = false → M)) noX) (k : R ((xs.filter p).map f)) : LcP xs G Tt Te vs env R := by
  refine ⟨fun i acc => acc = ((xs.take i).filter p).map f, by simp, fun i d acc e hI => ?_, fun acc hI => by rw [hI, List.take_length]; exact k⟩
  have hi := (List.getElem?_eq_some_iff.mp e).1
  have e2 : xs.take (i + 1) = xs.take i ++ [d] := by rw [List.take_succ, e]; rfl
  refine h i d _ _ e (fun hp => ⟨?_, ?_⟩) fun hp => ?_
  · rw [hI, List.length_map]
    have := List.length_filter_le p (xs.take i)
    rw [List.length_take] at this
    omega
  · show acc ++ [f d] = ((xs.take (i + 1)).filter p).map f
    rw [hI, e2, List.filter_append]
    simp [hp]
  · show acc = ((xs.take (i + 1)).filter p).map f
    rw [hI, e2, List.filter_append]
    simp [hp]
/-- the items are not told, but what is true of them -/
theorem LcP.all {xs : List D} {G : DG} {Te : DT} {vs : List Nat} {env : En} {R : List D → Prop} (Pd : D → Prop) (hz : xs.length ≤ sizeLine) (h : ∀ (i : Nat) (d : D) (N : D → Prop), xs[i]? = some d → (∀ y, Pd y → N y) → G d (inner vs env) fun env' => Te env' N noX)
    (k : ∀ acc : List D, acc.length = xs.length → (∀ y ∈ acc, Pd y) → R acc) : LcP xs G xYes Te vs env R := by
  refine ⟨fun i acc => acc.length = i ∧ ∀ y ∈ acc, Pd y, ⟨rfl, fun y hy => nomatch hy⟩, fun i d acc e ⟨h1, h2⟩ => ?_, fun acc ⟨h1, h2⟩ => k acc h1 h2⟩
  have hi := (List.getElem?_eq_some_iff.mp e).1
  have key := h i d (fun y => acc.length < sizeLine ∧ (acc ++ [y]).length = i + 1 ∧ ∀ z ∈ acc ++ [y], Pd z) e fun y hy => ⟨by omega, by simp [h1], fun z hz => by
    rcases List.mem_append.mp hz with q | q
    · exact h2 z q
    · rw [List.mem_singleton.mp q]; exact hy⟩
  have e1 : (fun env' => xYes env' (fun b => (b = true → Te env' (fun y => acc.length < sizeLine ∧ (acc ++ [y]).length = i + 1 ∧ ∀ z ∈ acc ++ [y], Pd z) noX) ∧ (b = false → acc.length = i + 1 ∧ ∀ y ∈ acc, Pd y)) noX) = fun env' => Te env' (fun y => acc.length < sizeLine ∧ (acc ++ [y]).length = i + 1 ∧ ∀ z ∈ acc ++ [y], Pd z) noX := by
    funext env'
    refine propext ⟨fun t => t.1 rfl, fun t => ⟨fun _ => t, fun z => nomatch z⟩⟩
  rw [e1]
  exact key
/-- a word for a loop -/
theorem sm_ofF {E : XK} {t : TE} {T : DTF} (s : SmF E t T) : Sm E t (xF T) := fun c σ H S env R Rx x k t Q q => s c σ H S env _ Rx x k t Q fun p vs H1 S1 ds k1 s1 n0 f n2 e1 l1 r1 => by
  obtain ⟨k2, s2, r2⟩ := k1.freeze n2 n0 e1 l1 f
  exact q _ H1 _ _ k2 (s1.trans s2) r2 r1
section
variable {X : Cx} {E : XK} {elt tg iter : Expr} {ifs : List Expr} {scope : Scope} {own : List (Str × Nat)} {pos : Pos} {Ti : DTI} {G : DG} {Tt : DTT} {Te : DT} {js : List Nat}
theorem s_setLc {i : Nat} {y : Str} {py spos : Pos} (hc : X.calm = true) (hN : X.N.Nodup) (hi : DI X E tg iter Ti) (ok : BlkOk X.N X.env.scope scope own) (hsub : ∀ j ∈ js, j ∈ own.map (·.2))
    (hg : ∀ (s : Shared) (H : Hp) (C : Addr) (cl : List (Str × Addr)) (fp : List Addr), DGt (X.blk s H scope (compEnvC scope cl C X.env) fp) tg G js)
    (ht : ∀ (s : Shared) (H : Hp) (C : Addr) (cl : List (Str × Addr)) (fp : List Addr), DTs (X.blk s H scope (compEnvC scope cl C X.env) fp) E0 ifs Tt)
    (he : ∀ (s : Shared) (H : Hp) (C : Addr) (cl : List (Str × Addr)) (fp : List Addr), DE (X.blk s H scope (compEnvC scope cl C X.env) fp) E0 elt Te)
    (hy : X.N[i]? = some y := by rfl) (hyl : X.env.scope.names.lookup y = some .local := by rfl)
    (hsw : swapsWith (.ListComp elt [⟨tg, iter, ifs, 0⟩] scope pos) (some (.Name y py)) spos.line X.env = pure true := by exact sw_true rfl rfl rfl (by decide +kernel))
    (hs : ∀ x, foldedSetIterable iter X.env x = pure x := by intro _; rfl) : DS X E (.Assign [.Name y py] (.ListComp elt [⟨tg, iter, ifs, 0⟩] scope pos) spos) (zAsg (xF (xLcF Ti G Tt Te (own.map (·.2)))) (yName i)) := by
  obtain ⟨wi, p, s⟩ := hi
  exact ⟨_, ps_setLc hc hN hy hyl hsw p ok (fun s H C cl fp => pg_can (hg s H C cl fp)) (fun s H C cl fp => pts_can (ht s H C cl fp)) (fun s H C cl fp => pe_can (he s H C cl fp)) hs, smS_asg (sm_ofF (smF_lc hsub s)) (smG_name i)⟩
end
end DL
namespace DL
open PySem PySem.Spec L2
variable [TbC]
def gPerm (n m : Nat) (idx : List Nat) {α : Type} (us ws : List α) : List α := if us.length = n ∧ ws.length = m then idx.filterMap (fun i => (us ++ ws)[i]?) else []
theorem vals_pick {vs : List V} {us : List Value} (r : Vals vs us) : ∀ idx : List Nat, Vals (idx.filterMap fun i => vs[i]?) (idx.filterMap fun i => us[i]?)
  | [] => .nil
  | i :: idx => by
    cases e : vs[i]? with
    | none =>
      have e2 := Vals.none_of r e
      rw [List.filterMap_cons, List.filterMap_cons, e, e2]
      exact vals_pick r idx
    | some v =>
      obtain ⟨u, e2, q⟩ := Vals.get r e
      rw [List.filterMap_cons, List.filterMap_cons, e, e2]
      exact .cons q (vals_pick r idx)
theorem rep_pick {B : Option Addr} {S : Hp} {ds : List D} {vs : List V} (r : RepL B S ds vs) : ∀ idx : List Nat, RepL B S (idx.filterMap fun i => ds[i]?) (idx.filterMap fun i => vs[i]?)
  | [] => repL_nil
  | i :: idx => by
    cases e : ds[i]? with
    | none =>
      have hl := r.length
      have e2 : vs[i]? = none := by
        rw [List.getElem?_eq_none_iff] at e ⊢
        omega
      rw [List.filterMap_cons, List.filterMap_cons, e, e2]
      exact rep_pick r idx
    | some v =>
      obtain ⟨u, e2, q⟩ := RepL.get r e
      rw [List.filterMap_cons, List.filterMap_cons, e, e2]
      exact repL_cons q (rep_pick r idx)
theorem Df.kb {K : PySem.W.Frag} {mg : Str → Option Value} {x : Str} {st : Stmt} (Dx : Df K mg x st) {ps ks : List Str} (n m : Nat) (idx : List Nat) (hi : ps ≠ [])
    (h : ∀ (kV doc pm : Value) (an : Option Addr) (cdv ct : Value) (us ws : List Value), us.length = n → ws.length = m → bindArgs (PySem.W.fnOf x x (defArgs st) (defBody st) (defScope st) .none kV doc pm an cdv ct) ⟨us, ks.zip ws⟩ = pure (ps.zip (gPerm n m idx us ws))) :
    KBd K Dx.fd ps ks (gPerm n m idx) where
  to := fun s us ws X hl => by
    obtain ⟨oc, od, dV, kV, doc, pm, an, cdv, ct, osl, e, lk, hcd, hD, hK⟩ := Dx.F.ex
    rcases hD with ⟨_, rfl⟩ | ⟨z, _⟩
    · rw [e]
      by_cases hz : us.length = n ∧ ws.length = m
      · exact .of_eq (h _ _ _ _ _ _ us ws hz.1 hz.2)
      · unfold gPerm at hl
        rw [if_neg hz] at hl
        exact absurd (List.length_eq_zero_iff.mp hl.symm) hi
    · exact absurd rfl z
  rel := fun {vs us zs ws} r1 r2 => by
    unfold gPerm
    rw [r1.length, r2.length]
    split
    · exact vals_pick (r1.append r2) idx
    · exact .nil
  rep := fun {B S xs zs vs ws} r1 r2 => by
    unfold gPerm
    rw [r1.length, r2.length]
    split
    · exact rep_pick (r1.app r2) idx
    · exact repL_nil
end DL
namespace DL
open PySem PySem.Spec L2
variable [TbC]
def D.flat : D → Bool
  | .non | .bl _ | .int _ | .str _ | .ty _ => true
  | _ => false
def flatL (ds : List D) : Bool := ds.all D.flat
theorem flat_rep {B : Option Addr} {S S' : Hp} {d : D} {v : V} (h : d.flat = true) (r : Rep B S d v) : Rep B S' d v := by
  cases d <;> first | exact (Bool.false_ne_true h).elim | exact r
theorem flatL_rep {B : Option Addr} {S S' : Hp} : ∀ {ds : List D} {vs : List V}, flatL ds = true → RepL B S ds vs → RepL B S' ds vs
  | [], _, _, r => r
  | d :: ds, _, h, r => by
    obtain ⟨v, ws, rfl, r1, l⟩ := repL_cons_of r
    have h : (d.flat && flatL ds) = true := h
    rw [Bool.and_eq_true] at h
    exact repL_cons (flat_rep h.1 r1) (flatL_rep h.2 l)
theorem flatL_nil : flatL [] = true := rfl
theorem flatL_cons {d : D} {ds : List D} : flatL (d :: ds) = (d.flat && flatL ds) := rfl
theorem flatL_app {xs ys : List D} : flatL (xs ++ ys) = (flatL xs && flatL ys) := List.all_append
theorem flatL_of {ds : List D} (h : ∀ d ∈ ds, d.flat = true) : flatL ds = true := List.all_eq_true.mpr h
theorem flatL_map {α : Type} {f : α → D} {xs : List α} (h : ∀ x, (f x).flat = true) : flatL (xs.map f) = true := flatL_of fun d hd => by
  obtain ⟨x, _, rfl⟩ := List.mem_map.mp hd
  exact h x
/-- N: parts of H that are not of S, not of the frame's past, no name's own -/
def Reg (c : Fm) (σ : St) (env : En) (H S N : Hp) : Prop := ∀ a o, N a = some o → H a = some o ∧ S a = none ∧ c.H0 a = none ∧ Free σ env a
def uni (S N : Hp) : Hp := fun a => match S a with
  | some o => some o
  | none => N a
theorem uni_l {S N : Hp} : Same S (uni S N) := fun a o e => by unfold uni; rw [e]
theorem uni_r {c : Fm} {σ : St} {env : En} {H S N : Hp} (g : Reg c σ env H S N) : Same N (uni S N) := fun a o e => by
  unfold uni
  rw [(g a o e).2.1]
  exact e
theorem uni_of {S N : Hp} {a : Addr} {o : HO} (e : uni S N a = some o) : S a = some o ∨ (S a = none ∧ N a = some o) := by
  unfold uni at e
  split at e
  · exact .inl (by rw [← e]; assumption)
  · exact .inr ⟨by assumption, e⟩
section
variable {c : Fm} {σ : St} {H H' S S' N : Hp} {env : En} {p : Addr} {vs : List V} {ds : List D}
theorem Kn.uni (k : Kn c σ H S env) (g : Reg c σ env H S N) : Kn c σ H (uni S N) env := by
  have hs : ∀ a, S a = none → N a = none → DL.uni S N a = none := fun a e e2 => by unfold DL.uni; rw [e]; exact e2
  refine ⟨⟨fun a o e => ?_, k.kf.s0.trans uni_l, k.kf.old, fun a e n => ?_, fun b eb => ?_, ⟨fun p hp => ⟨(k.kf.tab.1 p hp).1, hs _ (k.kf.tab.1 p hp).2 (by
    cases en : N p.1 with
    | none => rfl
    | some o => exact absurd (g _ o en).2.2.1 (k.kf.tab.2 p hp))⟩, k.kf.tab.2⟩⟩, k.len, fun j x e => ?_, k.apart⟩
  · rcases uni_of e with e | ⟨_, e⟩
    · exact k.kf.sub a o e
    · exact (g a o e).1
  · refine hs a (k.kf.new a e n) ?_
    cases en : N a with
    | none => rfl
    | some o => exact absurd (g a o en).2.2.1 n.1
  · obtain ⟨⟨b1, cs, i, gg, st, n, b2, b3, b4⟩, b5⟩ := k.kf.bag b eb
    refine ⟨⟨hs b b1 ?_, cs, i, gg, st, n, b2, uni_l _ _ b3, b4⟩, b5⟩
    cases en : N b with
    | none => rfl
    | some o => exact absurd (g b o en).2.2.1 b5
  · obtain ⟨v, ev, r⟩ := k.sl j x e
    refine ⟨v, ev, r.keep rfl uni_l fun a fa => ?_⟩
    obtain ⟨f1, f2, _⟩ := r.foot a fa
    refine ⟨hs a f1 ?_, f2, fun _ e => e⟩
    cases en : N a with
    | none => rfl
    | some o => exact absurd fa ((g a o en).2.2.2 j x v e ev)
theorem Reg.nil : Reg c σ env H S (fun _ => none) := fun a o e => nomatch e
theorem Reg.new {c : Fm} (g : Reg c σ env H S N) : Same N (newH c.H0 (DL.uni S N)) := fun a o e => by
  rw [newH_of (g a o e).2.2.1]
  exact uni_r g a o e
end
/-- an expression whose value is made of new parts -/
def SmN (E : XK) (t : TE) (T : DT) : Prop := ∀ (c : Fm) (σ : St) (H S : Hp) (env : En) (R : D → Prop) (Rx : Er → Prop), XOk c E Rx → Kn c σ H S env → T env R Rx →
  ∀ Q : VK, (∀ v H' S' N d, Kn c σ H' S' env → Same S S' → Reg c σ env H' S' N → Rep c.B N d v → R d → Q v H') → t σ H Q
def DN (X : Cx) (E : XK) (e : Expr) (T : DT) : Prop := ∃ t, PE X e t ∧ SmN E t T
section
variable {X : Cx} {E : XK} {e a b : Expr} {es : List Expr} {T Ta Tb : DT} {TF : DTF} {Tl : DTA} {p pos : Pos}
theorem sm_ofN {t : TE} (s : SmN E t T) : Sm E t T := fun c σ H S env R Rx x k h Q q => s c σ H S env R Rx x k h Q fun v H1 S1 N d k1 s1 g r t1 =>
  q v H1 (uni S1 N) d (k1.uni g) (s1.trans uni_l) (rep_mono (uni_r g) d v r) t1
theorem d_ofN (h : DN X E e T) : DE X E e T := by
  obtain ⟨t, p, s⟩ := h
  exact ⟨t, p, sm_ofN s⟩
/-- .. a list of its own -/
def xNF (T : DT) : DTF := fun env R Rx => T env (fun d => match d with
  | .lst ds => flatL ds = true ∧ R ds
  | _ => False) Rx
theorem f_ofN (h : DN X E e T) : DF X E e (xNF T) := by
  obtain ⟨t, p, s⟩ := h
  refine ⟨t, p, fun c σ H S env R Rx x k h Q q => s c σ H S env _ Rx x k h Q fun v H1 S1 N d k1 s1 g r t1 => ?_⟩
  cases d <;> try exact (show False from t1).elim
  obtain ⟨a, vs, rfl, e, l⟩ := r
  obtain ⟨g1, g2, g3, g4⟩ := g a _ e
  exact q a vs H1 S1 _ k1 s1 g3 g4 g2 g1 (flatL_rep t1.1 l) t1.2
/-- a new list of flat data -/
def xFN (T : DTF) : DT := fun env R Rx => T env (fun ds => flatL ds = true ∧ R (.lst ds)) Rx
theorem n_ofF (h : DF X E e TF) : DN X E e (xFN TF) := by
  obtain ⟨t, p, s⟩ := h
  refine ⟨t, p, fun c σ H S env R Rx x k h Q q => s c σ H S env _ Rx x k h Q fun p vs H1 S1 ds k1 s1 n0 f n2 e1 l1 r1 => ?_⟩
  refine q _ H1 S1 (upd (fun _ => none) p (.lst vs)) (.lst ds) k1 s1 (fun a o e => ?_) ⟨p, vs, rfl, upd_same, flatL_rep r1.1 l1⟩ r1.2
  by_cases z : a = p
  · subst z
    rw [upd_same] at e
    cases e
    exact ⟨e1, n2, n0, f⟩
  · rw [upd_ne z] at e
    cases e
/-- flat data -/
def xFl (T : DT) : DT := fun env R Rx => T env (fun d => d.flat = true ∧ R d) Rx
def zRetNew (T : DT) : DTS := fun Q env => T env (Q.rt .nw) Q.ex
theorem s_retNew (h : DN X E e T) : DS X E (.Return (some e) pos) (zRetNew T) := by
  obtain ⟨t, p, s⟩ := h
  exact ⟨_, ps_ret p, fun c σ H S env Q x k t D m => s c σ H S env _ _ x k t _ fun v H1 S1 N d k1 s1 g r t1 => m.2.1 .nw v H1 (uni S1 N) d (k1.uni g).kf (s1.trans uni_l) (rep_mono g.new d v r) t1⟩
def zRetO (i : Nat) : DTS := fun Q env => ∃ xs, env[i]? = some (some (.own xs)) ∧ flatL xs = true ∧ Q.rt .nw (.lst xs)
end
def spN (F : Spec) : Sp := fun vs H Q E => ∃ (c : Fm) (S : Hp) (ds : List D) (R : D → Prop) (Rx : Er → Prop), c.H0 = H ∧ c.S0 = S ∧ Kf c H S ∧ RepL c.B S ds vs ∧ F ds R Rx ∧ (∀ v H' S' d, Kf c H' S' → Rep c.B (newH H S') d v → R d → Q v H') ∧ XOk c E Rx
section
variable {P : Program} {w : World} {K : PySem.W.Frag} {mg : Str → Option Value} {base : Heap} {x qual : Str} {st : Stmt} {dvs : List V} {kws : List (Str × V)} {f : Addr} {fd : FuncData} {N ps : List Str} {k : Nat} {F : Spec} {CX : CXT}
theorem fn_n {T : DTS} (Fd : FnS K x qual st dvs kws f fd) (S : FnScope N ps (defScope st)) (len : ∀ ds R Rx, F ds R Rx → ds.length = ps.length)
    (hbody : ∀ (cdv : Value) (A : Around) (outer : List Env) (s : Shared) (H : Hp) (E : XK), Room k (A.deeper (PyProof.Rows.envOfC qual (defScope st) s.heap.objs.size f cdv)) →
      DSs (cxOf (L2.CX P w) P w K mg base N qual (defScope st) f cdv A outer s H E) E (defBody st) T)
    (hT : ∀ ds R Rx, F ds R Rx → T { nx := fun _ => R .non, rt := fun n d => (n = .nw ∨ d.flat = true) ∧ R d, ex := Rx } (startE N ds)) : FnOk P w K mg base (L2.CX P w) (k + 1) f fd ps (spN F) := by
  refine FunD.ok Fd S (fun vs H Q E ⟨c, S, ds, R, Rx, _, _, _, l, h, _⟩ => by rw [l.length]; exact len _ _ _ h) fun cdv A outer s H vs Q E hr hsp => ?_
  obtain ⟨c, Sh, ds, R, Rx, h0, hs0, kf, l, h, q, xo⟩ := hsp
  obtain ⟨t, p, sm⟩ := hbody cdv A outer s H E hr
  refine ⟨t, p, sm c _ H Sh _ _ xo (kn_start kf l) (hT ds R Rx h) _ ⟨fun σ H1 S1 env k1 s1 r1 => ?_, fun n v H1 S1 d k1 s1 r1 t1 => q v H1 S1 d k1 ?_ t1.2, fun σ H1 S1 env k1 s1 r1 => r1, fun σ H1 S1 env k1 s1 r1 => r1⟩⟩
  · exact q .non H1 S1 .non k1.kf rfl r1
  · cases n with
    | nw => rw [← h0]; exact r1
    | old => exact flat_rep (t1.1.resolve_left (fun z => nomatch z)) (show Rep _ _ d v from r1)
    | tr =>
      obtain ⟨S2, _, _, r2⟩ := r1.old k1
      exact flat_rep (t1.1.resolve_left (fun z => nomatch z)) r2
end
section
variable {X : Cx} {E : XK} {CX : CXT} {k n : Nat} {f : Addr} {fd : FuncData} {ps ks : List Str} {F : Spec} {dvs : List V} {dds : List D} {ds : List Value} {x : Str} {p pos : Pos} {e : Expr} {es : List Expr} {Tl Tk : DTA} {kws : List Keyword}
theorem sp_callN {c : Fm} {σ : St} {H S : Hp} {env : En} {vs : List V} {xs : List D} {R : D → Prop} {Rx : Er → Prop} {Q : VK} (kn : Kn c σ H S env) (x : XOk c E Rx) (l : RepL c.B S xs vs) (t : F xs R Rx)
    (q : ∀ v H' N d, Kn c σ H' S env → Reg c σ env H' S N → Rep c.B N d v → R d → Q v H') : spN F vs H Q E := by
  refine ⟨c.at H S, S, xs, R, Rx, rfl, rfl, kn.kf.at, l, t, fun v H' S' d k' r z => ?_, x.at kn.kf⟩
  have kS : Kf (c.at H S) H' S := ⟨k'.s0.trans k'.sub, Same.refl S, k'.old, fun a e _ => e, fun b eb => by
    obtain ⟨⟨b1, cs, i, g, st, n, b2, b3, b4⟩, b5⟩ := k'.bag b eb
    obtain ⟨⟨d1, cs', _, _, _, _, _, d3, _⟩, _⟩ := kn.kf.bag b eb
    have e3 : cs' = cs := by
      have z := k'.s0 _ _ d3
      have z2 : some (HO.lst (cs'.map V.int)) = some (HO.lst (cs.map V.int)) := z.symm.trans b3
      injection z2 with z2
      injection z2 with z2
      exact List.map_inj_right (fun _ _ h => by injection h) |>.mp z2
    subst e3
    exact ⟨⟨d1, cs', i, g, st, n, b2, d3, b4⟩, b5⟩, ⟨fun p hp => ⟨(k'.tab.1 p hp).1, (kn.kf.tab.1 p hp).2⟩, k'.tab.2⟩⟩
  refine q v H' (newH H S') d (kn.back kS) (fun a o e => ?_) r z
  obtain ⟨e1, e2⟩ := newH_some e
  exact ⟨k'.sub _ _ e2, kn.kf.s_none e1, kn.kf.h0_none e1, kn.free e1⟩
end
section
variable {X : Cx} {E : XK} {e : Expr} {es : List Expr} {Te : DT} {Tl : DTA} {p : Pos}
def xStar (Te : DT) (Tl : DTA) : DTA := fun env R Rx => Te env (asLT fun xs => Tl env (fun ys => R (xs ++ ys)) Rx) Rx
theorem da_star (he : DE X E e Te) (hl : DA X E es Tl) (hs : starEach (.Starred e p :: es) X.env = (true, eval e X.env) :: starEach es X.env := by rfl) : DA X E (.Starred e p :: es) (xStar Te Tl) := by
  obtain ⟨t, p1, s1⟩ := he
  obtain ⟨tl, p2, s2⟩ := hl
  refine ⟨_, StX.pa_star p1 p2 hs, fun c σ H S env R Rx x k t Q q => s1 c σ H S env _ Rx x k t _ fun v H1 S1 d k1 s3 r1 t1 => ?_⟩
  cases d <;> try exact (show False from t1).elim
  · obtain ⟨a, vs, rfl, h1, _, l1⟩ := lst_of k1 r1
    refine ⟨a, vs, rfl, .inr (SqL.of h1), s2 c σ H1 S1 env _ Rx x k1 t1 _ fun us H2 S2 ds k2 s4 l2 t2 => ?_⟩
    exact q _ H2 S2 _ k2 (s3.trans s4) ((repL_mono s4 _ _ l1).app l2) t2
  · obtain ⟨a, vs, rfl, h1, _, l1⟩ := tup_of k1 r1
    refine ⟨a, vs, rfl, .inl (SqT.of h1), s2 c σ H1 S1 env _ Rx x k1 t1 _ fun us H2 S2 ds k2 s4 l2 t2 => ?_⟩
    exact q _ H2 S2 _ k2 (s3.trans s4) ((repL_mono s4 _ _ l1).app l2) t2
end
/-- the places of a slice -/
def pls (n : Nat) (lo hi st : Option Int) : List Nat := PySem.sliceRange (PySem.sliceBounds lo hi st n).1 (PySem.sliceBounds lo hi st n).2.1 (PySem.sliceBounds lo hi st n).2.2
def cut3 (xs : List D) (lo hi st : Option Int) : List D := (pls xs.length lo hi st).filterMap fun i => xs[i]?
section
variable {X : Cx} {E : XK} {e a : Expr} {te : TE} {tl th ts : TO} {lo hi : Option Expr} {st : Expr} {p2 pos : Pos} {Ta : DT} {Tl Th Ts : DTO}
def xSl3 (Ta : DT) (Tl Th Ts : DTO) : DTF := fun env R Rx => Ta env (asL fun xs => Tl env (fun lo => Th env (fun hi => Ts env (fun st => st ≠ some 0 ∧ (pls xs.length lo hi st).length ≤ sizeLine ∧ R (cut3 xs lo hi st)) Rx) Rx) Rx) Rx
end
/-- backwards down to the place m -/
theorem pls_down {n : Nat} {hi : Option Int} {m : Nat} (hm : (PySem.sliceBounds none hi (some (-1)) n).2.1 = (m : Int) - 1) (hle : m ≤ n) : pls n none hi (some (-1)) = (List.range (n - m)).map fun k => n - 1 - k := by
  have b1 : (PySem.sliceBounds none hi (some (-1)) n).1 = (n : Int) - 1 := rfl
  have b3 : (PySem.sliceBounds none hi (some (-1)) n).2.2 = -1 := rfl
  unfold pls PySem.sliceRange
  rw [hm, b1, b3]
  have c1 : ¬ ((-1 : Int) > 0) := by decide
  simp only [c1, if_false]
  by_cases z : m = n
  · subst z
    simp
  · have c2 : (n : Int) - 1 > (m : Int) - 1 := by omega
    have c3 : (((n : Int) - 1 - ((m : Int) - 1) - -1 - 1) / - -1).toNat = n - m := by
      rw [show (- -1 : Int) = 1 by decide, Int.ediv_one]
      omega
    simp only [c2, if_true, c3]
    apply List.map_congr_left
    intro k hk
    have := List.mem_range.mp hk
    omega
theorem cut3_down {xs : List D} {hi : Option Int} {m : Nat} (hm : (PySem.sliceBounds none hi (some (-1)) xs.length).2.1 = (m : Int) - 1) (hle : m ≤ xs.length) : cut3 xs none hi (some (-1)) = (xs.drop m).reverse := by
  unfold cut3
  rw [pls_down hm hle, List.filterMap_map]
  apply List.ext_getElem?
  intro i
  have go : ∀ q : Nat, q ≤ xs.length → ((List.range q).filterMap ((fun i => xs[i]?) ∘ fun k => xs.length - 1 - k)) = (xs.drop (xs.length - q)).reverse := fun q => by
    induction q with
    | zero => intro _; simp
    | succ q ih =>
      intro hq
      rw [List.range_succ, List.filterMap_append, ih (by omega)]
      have hd : xs.drop (xs.length - (q + 1)) = xs[xs.length - (q + 1)] :: xs.drop (xs.length - q) := by
        rw [List.drop_eq_getElem_cons (by omega)]
        congr 2
        omega
      rw [hd, List.reverse_cons]
      congr 1
      have e : xs.length - 1 - q = xs.length - (q + 1) := by omega
      have e2 : ((fun i => xs[i]?) ∘ fun k => xs.length - 1 - k) q = some xs[xs.length - (q + 1)] := by
        show xs[xs.length - 1 - q]? = _
        rw [e]
        exact List.getElem?_eq_getElem (by omega)
      rw [List.filterMap_cons_some e2, List.filterMap_nil]
  rw [go _ (by omega)]
  congr 3
  omega
theorem cut3_rev (xs : List D) : cut3 xs none none (some (-1)) = xs.reverse := cut3_down (m := 0) rfl (Nat.zero_le _)
theorem cut3_rev0 {xs : List D} : cut3 xs none (some 0) (some (-1)) = (xs.drop 1).reverse := by
  by_cases z : xs.length = 0
  · have e : xs = [] := List.length_eq_zero_iff.mp z
    subst e
    rfl
  · refine cut3_down (m := 1) ?_ (by omega)
    show max (-1) (min (if (0 : Int) < 0 then _ else 0) ((xs.length : Int) - 1)) = _
    rw [if_neg (by decide)]
    omega
theorem pls_down_le {n : Nat} {hi : Option Int} {m : Nat} (hm : (PySem.sliceBounds none hi (some (-1)) n).2.1 = (m : Int) - 1) (hle : m ≤ n) : (pls n none hi (some (-1))).length = n - m := by
  rw [pls_down hm hle]
  simp
theorem pls_rev (n : Nat) : (pls n none none (some (-1))).length = n := pls_down_le (m := 0) rfl (Nat.zero_le _)
theorem pls_rev0 (n : Nat) : (pls n none (some 0) (some (-1))).length = n - 1 := by
  by_cases z : n = 0
  · subst z; rfl
  · refine pls_down_le (m := 1) ?_ (by omega)
    show max (-1) (min (if (0 : Int) < 0 then _ else 0) ((n : Int) - 1)) = _
    rw [if_neg (by decide)]
    omega
section
variable {X : Cx} {E : XK} {pos p1 : Pos} {a b : Expr} {T : DTF}
def zParC (i j : Nat) (T : DTF) (d : D) : DTS := fun Q env => T env (fun ds => Q.nx (put j d (putO' i ds env))) Q.ex
def zParV (i j : Nat) (Ta : DT) (T : DTF) : DTS := fun Q env => Ta env (fun d => T env (fun ds => Q.nx (putO' j ds (put i d env))) Q.ex) Q.ex
end
end DL
namespace DL
open PySem PySem.Spec L2
variable [TbC]
def fld : List Str → List D → Str → Option D
  | k :: ks, x :: xs, f => if f = k then some x else fld ks xs f
  | _, _, _ => none
theorem fld_some {B : Option Addr} {S : Hp} {f : Str} : ∀ {ks : List Str} {xs : List D} {vs : List V} {x : D}, RepL B S xs vs → fld ks xs f = some x → ∃ v, (ks.zip vs).lookup f = some v ∧ Rep B S x v
  | [], _, _, _, _, e => nomatch e
  | _ :: _, [], _, _, _, e => nomatch e
  | k :: ks, y :: ys, _, x, l, e => by
    obtain ⟨v, ws, rfl, r, t⟩ := repL_cons_of l
    have e : (if f = k then some y else fld ks ys f) = some x := e
    show ∃ u, List.lookup f ((k, v) :: ks.zip ws) = some u ∧ _
    by_cases z : f = k
    · rw [if_pos z] at e
      cases e
      exact ⟨v, by rw [List.lookup_cons, z]; simp, r⟩
    · rw [if_neg z] at e
      obtain ⟨u, e2, r2⟩ := fld_some t e
      refine ⟨u, ?_, r2⟩
      rw [List.lookup_cons]
      have : (f == k) = false := by simpa using z
      rw [this]
      exact e2
theorem fld_none {B : Option Addr} {S : Hp} {f : Str} : ∀ {ks : List Str} {xs : List D} {vs : List V}, RepL B S xs vs → xs.length = ks.length → fld ks xs f = none → (ks.zip vs).lookup f = none
  | [], _, _, _, _, _ => rfl
  | _ :: _, [], _, _, hl, _ => nomatch hl
  | k :: ks, y :: ys, _, l, hl, e => by
    obtain ⟨v, ws, rfl, r, t⟩ := repL_cons_of l
    have e : (if f = k then some y else fld ks ys f) = none := e
    show List.lookup f ((k, v) :: ks.zip ws) = none
    by_cases z : f = k
    · rw [if_pos z] at e
      cases e
    · rw [if_neg z] at e
      rw [List.lookup_cons]
      have : (f == k) = false := by simpa using z
      rw [this]
      exact fld_none t (by simpa using hl) e
theorem obj_of {c : Fm} {σ : St} {H S : Hp} {env : En} {C : Addr} {ks : List Str} {xs : List D} {v : V} (k : Kn c σ H S env) (r : Rep c.B S (.obj C ks xs) v) : ∃ a dx vs, v = .ref a ∧ H a = some (.ins C dx (ks.zip vs)) ∧ xs.length = ks.length ∧ RepL c.B S xs vs := by
  rw [Rep] at r
  obtain ⟨a, dx, vs, e, q, q2, n, l⟩ := r
  exact ⟨a, dx, vs, e, k.kf.sub _ _ q, n, l⟩
def asO (C : Addr) (R : List Str → List D → Prop) : D → Prop
  | .obj C' ks xs => C' = C ∧ R ks xs
  | _ => False
def xFld (C : Addr) (f : Str) (Te : DT) : DT := fun env R Rx => Te env (asO C fun ks xs => ∃ x, fld ks xs f = some x ∧ R x) Rx
section
variable {X : Cx} {E : XK} {CX : CXT} {k : Nat} {C f : Addr} {fd : FuncData} {ps : List Str} {F : Spec} {m : Str} {o e : Expr} {es : List Expr} {To : DT} {Tl : DTA} {pos apos p : Pos}
theorem d_fld {f : Str} (he : DE X E e To) (c : Cls X.K C) (n : NoAttr X.K C f) (hb : attributeBase e f X.env (eval e X.env) = eval e X.env := by rfl) : DE X E (.Attribute e f pos) (xFld C f To) := by
  obtain ⟨t, p1, s⟩ := he
  refine ⟨_, pe_fld p1 hb, fun c0 σ H S env R Rx x k t Q q => s c0 σ H S env _ Rx x k t _ fun v H1 S1 d k1 s1 r1 t1 => ?_⟩
  cases d <;> try exact (show False from t1).elim
  obtain ⟨rfl, y, e1, t1⟩ := t1
  obtain ⟨a, dx, vs, e2, h1, _, l1⟩ := obj_of k1 r1
  obtain ⟨u, e3, r3⟩ := fld_some l1 e1
  exact ⟨a, _, dx, _, u, e2, h1, c, n, e3, q u H1 S1 y k1 s1 r3 t1⟩
def xMeth (C : Addr) (m : Str) (F : Spec) (To : DT) (Tl : DTA) : DT := fun env R Rx => To env (fun d => asO C (fun ks xs => fld ks xs m = none) d ∧ Tl env (fun ds => F (d :: ds) R Rx) Rx) Rx
theorem d_methN0 {pl : Sem Bool} (he : DE X E o To) (c : Cls X.K C) (hm : Meth X.K C m f) (G : FnOk X.prog X.w X.K X.mg X.base CX k f fd ps (spN F)) (hr : Room k X.A) (hb : Binds X.K fd ps []) (hx : Passes CX X E)
    (ht : eval (.Call (.Attribute o m apos) [] [] pos) X.env = (do
      let ov ← eval o X.env
      standAt apos.atName
      let (f, first) ← holding [ov] (getMethod ov m pl)
      callWith pos f first (backTo pos (starEach [] X.env)) (backToKw pos (keywordEach [] X.env))) := by rfl) :
    DN X E (.Call (.Attribute o m apos) [] [] pos) (xMeth C m F To xNil) := by
  obtain ⟨t, p1, s⟩ := he
  refine ⟨_, pe_meth0 p1 c hm G hr hb .nil hx ht, fun c0 σ H S env R Rx x k t Q q => s c0 σ H S env _ Rx x k t _ fun v H1 S1 d k1 s1 r1 t1 => ?_⟩
  obtain ⟨t0, t1⟩ := t1
  cases d <;> try exact (show False from t0).elim
  obtain ⟨rfl, e1⟩ := t0
  obtain ⟨a, dx, vs, e2, h1, hn, l1⟩ := obj_of k1 r1
  refine ⟨a, dx, _, e2, h1, fld_none l1 hn e1, ?_⟩
  exact sp_callN k1 x (repL_cons r1 repL_nil) t1 fun v H' N d k' g' r' t' => q v H' S1 N d k' s1 g' r' t'
def xProp (C : Addr) (F : Spec) (To : DT) : DT := fun env R Rx => To env (fun d => asO C (fun _ _ => True) d ∧ F [d] R noX) Rx
theorem d_prop {f : Str} {pa g : Addr} {fd : FuncData} {ps : List Str} (he : DE X E e To) (c : Cls X.K C) (hp : PropOf X.K C f pa g) (G : FnOk X.prog X.w X.K X.mg X.base CX k g fd ps (spD F)) (hr : Room (k + 1) X.A) (hb : Binds X.K fd ps []) (hx : Passes CX X.nox E0)
    (hab : attributeBase e f X.env (eval e X.env) = eval e X.env := by rfl) : DE X E (.Attribute e f pos) (xProp C F To) := by
  obtain ⟨t, p1, s⟩ := he
  refine ⟨_, pe_prop p1 c hp G hr hb .nil hx hab, fun c0 σ H S env R Rx x k t Q q => s c0 σ H S env _ Rx x k t _ fun v H1 S1 d k1 s1 r1 t1 => ?_⟩
  obtain ⟨t0, t1⟩ := t1
  cases d <;> try exact (show False from t0).elim
  obtain ⟨rfl, _⟩ := t0
  obtain ⟨a, dx, vs, rfl, h1, hn, l1⟩ := obj_of k1 r1
  exact ⟨a, dx, _, rfl, h1, sp_call k1 xok0 (repL_cons r1 repL_nil) t1 fun v H' S' d k' s' r' t' => q v H' S' d k' (s1.trans s') r' t'⟩
end
end DL
namespace DL
open PySem PySem.Spec L2
variable [TbC]
theorem putF_end {f : Str} {v : V} : ∀ {ks : List Str} {vs : List V}, f ∉ ks → vs.length = ks.length → putF f v (ks.zip vs) = (ks ++ [f]).zip (vs ++ [v])
  | [], [], _, _ => rfl
  | [], _ :: _, _, h => nomatch h
  | _ :: _, [], _, h => nomatch h
  | k :: ks, u :: us, hf, hl => by
    have ne : ¬ k = f := fun z => hf (by rw [z]; exact List.mem_cons_self)
    show (if k = f then _ else (k, u) :: putF f v (ks.zip us)) = (k, u) :: (ks ++ [f]).zip (us ++ [v])
    rw [if_neg ne, putF_end (fun z => hf (List.mem_cons_of_mem _ z)) (by simpa using hl)]
/-- the tuples of S -/
def tpC (S : Hp) : Hp := fun a => match S a with
  | some (.tup vs) => some (.tup vs)
  | _ => none
theorem tpC_of {S : Hp} {a : Addr} {o : HO} (e : tpC S a = some o) : ∃ vs, o = .tup vs ∧ S a = some (.tup vs) := by
  unfold tpC at e
  split at e
  · rename_i vs h
    cases e
    exact ⟨vs, rfl, h⟩
  · cases e
theorem tpC_tup {S : Hp} {a : Addr} {vs : List V} (e : S a = some (.tup vs)) : tpC S a = some (.tup vs) := by
  unfold tpC
  rw [e]
/-- what is new since H, and tuples -/
def newT (H S : Hp) : Hp := DL.uni (newH H S) (tpC S)
theorem newT_tup {H S : Hp} {a : Addr} {vs : List V} (e : S a = some (.tup vs)) : newT H S a = some (.tup vs) := by
  cases z : newH H S a with
  | none =>
    unfold newT DL.uni
    rw [z]
    exact tpC_tup e
  | some o =>
    have := (newH_some z).2
    rw [e] at this
    cases this
    exact uni_l a _ z
theorem newT_of {H S : Hp} {a : Addr} {o : HO} (e : newT H S a = some o) : (H a = none ∧ S a = some o) ∨ ∃ vs, o = .tup vs ∧ S a = some (.tup vs) := by
  rcases uni_of e with e | ⟨_, e⟩
  · exact .inl (newH_some e)
  · exact .inr (tpC_of e)
theorem newT_mono {c : Fm} {S S' : Hp} (h : Same S S') : Same (newT c.H0 S) (newT c.H0 S') := fun a o e => by
  rcases newT_of e with ⟨e1, e2⟩ | ⟨vs, rfl, e2⟩
  · exact uni_l a o (by rw [newH_of e1]; exact h a o e2)
  · exact newT_tup (h _ _ e2)
/-- what is left of a body that fills the object at p: the attributes so far, the names -/
abbrev ITS := (Bool → List Str → List D → Prop) → (Er → Prop) → Bool → List Str → List D → En → Prop
/-- the frame, the object at p as told -/
def Fm.put (c : Fm) (p : Addr) (o : HO) : Fm := ⟨c.B, c.C, upd c.H0 p o, c.S0⟩
def SmIn (E : XK) (p dx C : Addr) (t : TS) (T : ITS) : Prop := ∀ (c : Fm) (σ : St) (H S : Hp) (env : En) (nf : Bool) (ks : List Str) (xs : List D) (vs : List V) (R : Bool → List Str → List D → Prop) (Rx : Er → Prop),
  XOk c E Rx → Kn c σ H S env → c.H0 p = some (.ins C dx (ks.zip vs)) → ¬ Ex c.B p → S p = none → xs.length = ks.length → RepL c.B S xs vs → (nf = true → RepL c.B (newT c.H0 S) xs vs) → T R Rx nf ks xs env →
  ∀ D : Ends, (∀ σ' H' S' nf' ks' xs' vs', Kf (c.put p (.ins C dx (ks'.zip vs'))) H' S' → Same S S' → xs'.length = ks'.length → RepL c.B S' xs' vs' → (nf' = true → RepL c.B (newT c.H0 S') xs' vs') → R nf' ks' xs' → D.nx σ' H') → t D σ H
def DIs (X : Cx) (E : XK) (p dx C : Addr) (sts : List Stmt) (T : ITS) : Prop := ∃ t, PSs X sts t ∧ SmIn E p dx C t T
theorem Fm.put_self {c : Fm} {p : Addr} {o : HO} (h : c.H0 p = some o) : c.put p o = c := by
  unfold Fm.put
  have : upd c.H0 p o = c.H0 := by
    funext a
    by_cases z : a = p
    · subst z
      rw [upd_same, h]
    · rw [upd_ne z]
  rw [this]
theorem newH_put {c : Fm} {S : Hp} {p : Addr} {o o0 : HO} (h : c.H0 p = some o0) : newH (c.put p o).H0 S = newH c.H0 S := by
  funext a
  have go : ∀ x y : Option HO, (x = none ↔ y = none) → (match x with
    | none => S a
    | some _ => none) = (match y with
    | none => S a
    | some _ => none) := fun x y e => by
    cases x with
    | none => rw [e.mp rfl]
    | some u =>
      cases y with
      | none => exact absurd (e.mpr rfl) (fun z => nomatch z)
      | some w => rfl
  refine go (upd c.H0 p o a) (c.H0 a) ?_
  by_cases z : a = p
  · subst z
    rw [upd_same, h]
    exact ⟨(fun z => nomatch z), (fun z => nomatch z)⟩
  · rw [upd_ne z]
theorem newT_put {c : Fm} {S : Hp} {p : Addr} {o o0 : HO} (h : c.H0 p = some o0) : newT (c.put p o).H0 S = newT c.H0 S := by
  unfold newT
  rw [newH_put h]
/-- values whose lists are new, with the tuples they hang on -/
def SmW (E : XK) (t : TE) (T : DT) : Prop := ∀ (c : Fm) (σ : St) (H S : Hp) (env : En) (R : D → Prop) (Rx : Er → Prop), XOk c E Rx → Kn c σ H S env → T env R Rx →
  ∀ Q : VK, (∀ v H' S' d, Kn c σ H' S' env → Same S S' → Rep c.B S' d v → Rep c.B (newT c.H0 S') d v → R d → Q v H') → t σ H Q
def DWn (X : Cx) (E : XK) (e : Expr) (T : DT) : Prop := ∃ t, PE X e t ∧ SmW E t T
section
variable {X : Cx} {E : XK} {p dx C : Addr} {st : Stmt} {rest : List Stmt} {T : DTS} {U : ITS} {e : Expr} {Te : DT} {pos p1 p2 : Pos}
def jNil : ITS := fun R _ nf ks xs _ => R nf ks xs
theorem is_nil : DIs X E p dx C [] jNil := ⟨_, pss_nil, fun c σ H S env nf ks xs vs R Rx x k h0 np hS hl l ln t D q => q σ H S nf ks xs vs (by rw [Fm.put_self h0]; exact k.kf) (Same.refl S) hl l ln t⟩
/-- a statement that does not touch the object -/
def jSt (T : DTS) (U : ITS) : ITS := fun R Rx nf ks xs env => T { nx := fun env' => U R Rx nf ks xs env', rt := fun _ _ => False, ex := Rx } env
theorem is_st (h1 : DS X E st T) (h2 : DIs X E p dx C rest U) : DIs X E p dx C (st :: rest) (jSt T U) := by
  obtain ⟨t, p1, s1⟩ := h1
  obtain ⟨u, p2, s2⟩ := h2
  refine ⟨_, pss_cons p1 p2, fun c σ H S env nf ks xs vs R Rx x k h0 np hS hl l ln t D q => ?_⟩
  refine s1 c σ H S env { nx := fun env' => U R Rx nf ks xs env', rt := fun _ _ => False, ex := Rx } x k t _ ⟨fun σ1 H1 S1 env1 k1 s t1 => ?_, fun _ _ _ _ _ _ _ _ z => z.elim, fun _ _ _ _ _ _ z => z.elim, fun _ _ _ _ _ _ z => z.elim⟩
  refine s2 c σ1 H1 S1 env1 nf ks xs vs R Rx x k1 h0 np ?_ hl (repL_mono s xs vs l) (fun z => repL_mono (newT_mono s) xs vs (ln z)) t1 D fun σ' H' S' nf' ks' xs' vs' k' s' => q σ' H' S' nf' ks' xs' vs' k' (s.trans s')
  cases z : c.S0 p with
  | none => exact k1.kf.new p z (mu_of h0 fun _ z => nomatch z)
  | some o =>
    have := k.kf.s0 p o z
    rw [hS] at this
    cases this
/-- self.f = e -/
def jSet (p : Addr) (f : Str) (Te : DT) (U : ITS) : ITS := fun R Rx nf ks xs env => Te env (fun d => env[0]? = some (some (.val (.adr p))) ∧ f ∉ ks ∧ ks.length < 1000 ∧ U R noX (nf && d.flat) (ks ++ [f]) (xs ++ [d]) env) Rx
theorem is_set {f : Str} {x0 : Str} (h : DE X E e Te) (h2 : DIs X E p dx C rest U) (c0 : Cls X.K C) (n : NoAttr X.K C f) (hN : X.N[0]? = some x0 := by rfl) (hv : Vis X.env.scope x0 := by first | exact Or.inl rfl | exact Or.inr (Or.inl rfl) | exact Or.inr (Or.inr rfl)) (hd : (x0 == ("__debug__" : Str)) = false := by decide)
    (hcd : (x0 == ("__classdict__" : Str)) = false := by decide) (hs : swapsWith e (some (.Attribute (.Name x0 p1) f p2)) pos.line X.env = pure false := by rfl) : DIs X E p dx C (.Assign [.Attribute (.Name x0 p1) f p2] e pos :: rest) (jSet p f Te U) := by
  obtain ⟨t, pe, s⟩ := h
  obtain ⟨u, pr, sr⟩ := h2
  refine ⟨_, pss_cons (ps_fld (pv 0 hN hv hd hcd) pe hs) pr, fun c σ H S env nf ks xs vs R Rx x k h0 np hS hl l ln t D q => ?_⟩
  refine s c σ H S env _ Rx x k t _ fun v H1 S1 d k1 s1 r1 t1 => ?_
  obtain ⟨e0, hf, hk, t1⟩ := t1
  obtain ⟨w, ew, rw0⟩ := k1.sl 0 _ e0
  cases (show w = .ref p from rw0)
  have hp : H1 p = some (.ins C dx (ks.zip vs)) := k1.kf.old p _ h0 np
  refine ⟨_, ew, p, C, dx, ks.zip vs, rfl, hp, c0, n, ?_, ?_⟩
  · rw [List.length_zip]
    omega
  · have hS0 : c.S0 p = none := by
      cases y : c.S0 p with
      | none => rfl
      | some o => have := k.kf.s0 p o y; rw [hS] at this; cases this
    have hS1 : S1 p = none := k1.kf.new p hS0 (mu_of h0 fun _ z => nomatch z)
    have hvl : vs.length = ks.length := by rw [l.length]; exact hl
    rw [putF_end hf hvl]
    refine sr (c.put p (.ins C dx ((ks ++ [f]).zip (vs ++ [v])))) σ _ S1 env (nf && d.flat) (ks ++ [f]) (xs ++ [d]) (vs ++ [v]) R noX xok0 ⟨⟨fun a o ea => ?_, k1.kf.s0, fun a o ea na => ?_, fun a ea na => ?_, fun b eb => ?_, ⟨k1.kf.tab.1.updH (fun v e => by rw [hp] at e; cases e; exact ⟨fun _ z => (nomatch z), fun _ z => (nomatch z)⟩) (fun _ _ e => e), fun q hq => by
      show upd c.H0 p _ q.1 ≠ none
      by_cases z : q.1 = p
      · rw [z, upd_same]
        exact fun y => nomatch y
      · rw [upd_ne z]
        exact k1.kf.tab.2 q hq⟩⟩, k1.len, fun j x ej => ?_, k1.apart⟩ upd_same np hS1 (by simp [hl]) ((repL_mono s1 xs vs l).app (repL_cons r1 repL_nil)) (fun z => by
      rw [Bool.and_eq_true] at z
      rw [newT_put h0]
      exact (repL_mono (newT_mono s1) xs vs (ln z.1)).app (repL_cons (flat_rep z.2 r1) repL_nil)) t1 D fun σ' H' S' nf' ks' xs' vs' k' s' hl' l' ln' r' => ?_
    · rw [upd_ne (fun z => by rw [z, hS1] at ea; cases ea)]
      exact k1.kf.sub a o ea
    · by_cases z : a = p
      · subst z
        have ea : upd c.H0 a (.ins C dx ((ks ++ [f]).zip (vs ++ [v]))) a = some o := ea
        rw [upd_same] at ea ⊢
        exact ea
      · have ea : upd c.H0 p (.ins C dx ((ks ++ [f]).zip (vs ++ [v]))) a = some o := ea
        rw [upd_ne z] at ea ⊢
        exact k1.kf.old a o ea na
    · by_cases z : a = p
      · rw [z]
        exact hS1
      · have na : Mu (upd c.H0 p (.ins C dx ((ks ++ [f]).zip (vs ++ [v]))) a) := na
        rw [upd_ne z] at na
        exact k1.kf.new a ea na
    · have nb : b ≠ p := fun z => np (.inl (by rw [← z]; exact eb))
      obtain ⟨⟨b1, cs, i, g, st, n, b2, b3⟩, b4⟩ := k1.kf.bag b eb
      refine ⟨⟨b1, cs, i, g, st, n, by rw [upd_ne nb]; exact b2, b3⟩, ?_⟩
      show upd c.H0 p _ b ≠ none
      rw [upd_ne nb]
      exact b4
    · obtain ⟨u, eu, r⟩ := k1.sl j x ej
      refine ⟨u, eu, DvR.keep (c := c) (c' := c.put p (.ins C dx ((ks ++ [f]).zip (vs ++ [v])))) rfl (Same.refl _) r fun q1 fa => ?_⟩
      obtain ⟨q2, q3, _⟩ := r.foot q1 fa
      have nq : q1 ≠ p := fun z => by rw [z, h0] at q3; cases q3
      refine ⟨q2, ?_, fun o e => by rw [upd_ne nq]; exact e⟩
      show upd c.H0 p _ q1 = none
      rw [upd_ne nq]
      exact q3
    · have e9 : (c.put p (.ins C dx ((ks ++ [f]).zip (vs ++ [v])))).put p (.ins C dx (ks'.zip vs')) = c.put p (.ins C dx (ks'.zip vs')) := by
        unfold Fm.put
        rw [upd_upd]
      rw [e9] at k'
      rw [newT_put h0] at ln'
      exact q σ' H' S' nf' ks' xs' vs' k' (s1.trans s') hl' l' ln' r'
/-- .. made new -/
def jSetN (p : Addr) (f : Str) (Te : DT) (U : ITS) : ITS := fun R Rx nf ks xs env => Te env (fun d => env[0]? = some (some (.val (.adr p))) ∧ f ∉ ks ∧ ks.length < 1000 ∧ U R noX nf (ks ++ [f]) (xs ++ [d]) env) Rx
end
def spIg (n : Bool) (C : Addr) (F : Spec) : Sp := fun vs H Q E => ∃ (c : Fm) (S : Hp) (p dx : Addr) (us : List V) (ds : List D) (R : D → Prop) (Rx : Er → Prop), vs = .ref p :: us ∧ c.H0 = H ∧ c.S0 = S ∧ Kf c H S ∧ H p = some (.ins C dx []) ∧ ¬ Ex c.B p ∧ S p = none ∧ RepL c.B S ds us ∧ F ds R Rx ∧
  (∀ H' S' ks xs vs', Kf (c.put p (.ins C dx (ks.zip vs'))) H' S' → xs.length = ks.length → RepL c.B S' xs vs' → (n = true → RepL c.B (newT H S') xs vs') → R (.obj C ks xs) → Q .non H') ∧ XOk c E Rx
abbrev spI (C : Addr) (F : Spec) : Sp := spIg false C F
section
variable {P : Program} {w : World} {K : PySem.W.Frag} {mg : Str → Option Value} {base : Heap} {x qual : Str} {st : Stmt} {dvs : List V} {kws : List (Str × V)} {f C : Addr} {fd : FuncData} {N ps : List Str} {k : Nat} {F : Spec}
theorem fn_i {T : Addr → ITS} (Fd : FnS K x qual st dvs kws f fd) (S : FnScope N ps (defScope st)) (len : ∀ ds R Rx, F ds R Rx → ds.length + 1 = ps.length)
    (hbody : ∀ (p dx : Addr) (cdv : Value) (A : Around) (outer : List Env) (s : Shared) (H : Hp) (E : XK), Room k (A.deeper (PyProof.Rows.envOfC qual (defScope st) s.heap.objs.size f cdv)) →
      DIs (cxOf (L2.CX P w) P w K mg base N qual (defScope st) f cdv A outer s H E) E p dx C (defBody st) (T p))
    (hT : ∀ p ds R Rx, F ds R Rx → T p (fun _ ks xs => R (.obj C ks xs)) Rx true [] [] (startE N (.adr p :: ds))) : FnOk P w K mg base (L2.CX P w) (k + 1) f fd ps (spI C F) := by
  refine FunD.ok Fd S (fun vs H Q E ⟨c, S, p, dx, us, ds, R, Rx, e, _, _, _, _, _, _, l, h, _⟩ => by rw [e, List.length_cons, l.length]; exact len _ _ _ h) fun cdv A outer s H vs Q E hr hsp => ?_
  obtain ⟨c, Sh, p, dx, us, ds, R, Rx, e, h0, hs0, kf, hp, np, hS, l, h, q, xo⟩ := hsp
  subst e
  obtain ⟨t, pp, sm⟩ := hbody p dx cdv A outer s H E hr
  refine ⟨t, pp, sm c _ H Sh (startE N (.adr p :: ds)) true [] [] [] _ Rx xo (kn_start kf (repL_cons rfl l)) (by rw [h0]; exact hp) np hS rfl repL_nil (fun _ => repL_nil) (hT p ds R Rx h) _ fun σ' H' S' nf' ks' xs' vs' k' _ hl' l' ln' r' => ?_⟩
  exact q H' S' ks' xs' vs' k' hl' l' (fun z => nomatch z) r'
end
section
variable {X : Cx} {E : XK} {CX : CXT} {k : Nat} {C f : Addr} {fd : FuncData} {ps : List Str} {F : Spec} {x : Str} {e : Expr} {es : List Expr} {Tl : DTA} {pos p : Pos}
def xMake (F : Spec) (Tl : DTA) : DT := fun env R Rx => Tl env (fun ds => F ds R Rx) Rx
theorem sp_make {c : Fm} {σ : St} {H S : Hp} {env : En} {vs : List V} {xs : List D} {R : D → Prop} {Rx : Er → Prop} {Q : VK} {a dx : Addr} (kn : Kn c σ H S env) (x : XOk c E Rx) (l : RepL c.B S xs vs) (t : F xs R Rx) (ha : H a = none) (hdx : H dx = none) (ne : dx ≠ a)
    (q : ∀ v H' S' d, Kn c σ H' S' env → Same S S' → Rep c.B S' d v → R d → Q v H') : spI C F (.ref a :: vs) (upd (upd H dx (.own a)) a (.ins C dx [])) (fun v H2 => v = .non ∧ Q (.ref a) H2) E := by
  have k1 := (kn.new0 (o := .own a) hdx)
  have ha1 : upd H dx (.own a) a = none := by rw [upd_ne (Ne.symm ne)]; exact ha
  have k2 := k1.new0 (o := .ins C dx []) ha1
  refine ⟨c.at _ S, S, a, dx, vs, xs, R, Rx, rfl, rfl, rfl, k2.kf.at, upd_same, kn.kf.x_ne ha, kn.kf.s_none ha, l, t, fun H' S' ks ys us k' hl l' _ r' => ⟨rfl, ?_⟩, x.at k2.kf⟩
  have h2 : ∀ b o, b ≠ a → b ≠ dx → H b = some o → upd (upd (upd H dx (.own a)) a (.ins C dx [])) a (.ins C dx (ks.zip us)) b = some o := fun b o n1 n2 e => by rw [upd_ne n1, upd_ne n1, upd_ne n2]; exact e
  have hda : H' dx = some (.own a) := k'.old dx _ (by show upd (upd (upd H dx (.own a)) a (.ins C dx [])) a _ dx = _; rw [upd_ne ne, upd_ne ne, upd_same]) (kn.kf.x_ne hdx)
  have haa : H' a = some (.ins C dx (ks.zip us)) := k'.old a _ upd_same (kn.kf.x_ne ha)
  have sa : S' a = none := k'.new a (kn.kf.s_none ha) (by show Mu (upd _ a _ a); rw [upd_same]; exact mu_of rfl fun _ z => nomatch z)
  have sdx : S' dx = none := k'.new dx (kn.kf.s_none hdx) (by show Mu (upd (upd (upd H dx (.own a)) a (.ins C dx [])) a _ dx); rw [upd_ne ne, upd_ne ne, upd_same]; exact mu_of rfl fun _ z => nomatch z)
  have sd1 : upd S' dx (.own a) a = none := by rw [upd_ne (Ne.symm ne)]; exact sa
  have s3 : Same S' (upd (upd S' dx (.own a)) a (.ins C dx (ks.zip us))) := (same_upd sdx).trans (same_upd sd1)
  have kn2 : Kn c σ H' (upd (upd S' dx (.own a)) a (.ins C dx (ks.zip us))) env := by
    refine kn.step (k'.s0.trans s3) (fun b o eb => ?_) (fun b o eb nb => ?_) (fun b eb nb => ?_) (fun b eb => ?_) (fun q hq => ⟨(k'.tab.1 q hq).1, by rw [upd_ne (fun z => kn.kf.x_ne ha (.inr ⟨q, hq, z⟩)), upd_ne (fun z => kn.kf.x_ne hdx (.inr ⟨q, hq, z⟩))]; exact (k'.tab.1 q hq).2⟩)
    · by_cases z : b = a
      · subst z
        rw [upd_same] at eb
        rw [haa]
        exact eb
      · rw [upd_ne z] at eb
        by_cases y : b = dx
        · subst y
          rw [upd_same] at eb
          rw [hda]
          exact eb
        · rw [upd_ne y] at eb
          exact k'.sub b o eb
    · exact k'.old b o (h2 b o (fun z => by rw [z, ha] at eb; cases eb) (fun z => by rw [z, hdx] at eb; cases eb) eb) nb
    · have n1 : b ≠ a := fun z => nb.1 (by rw [z]; exact ha)
      have n2 : b ≠ dx := fun z => nb.1 (by rw [z]; exact hdx)
      rw [upd_ne n1, upd_ne n2]
      refine k'.new b eb ?_
      show Mu (upd (upd (upd H dx (.own a)) a (.ins C dx [])) a _ b)
      rw [upd_ne n1, upd_ne n1, upd_ne n2]
      exact nb
    · obtain ⟨⟨b1, cs, i, g, st, n, b2, b3, b4⟩, b5⟩ := k'.bag b eb
      have n1 : b ≠ a := fun z => kn.kf.b_ne ha (by rw [← z]; exact eb)
      have n2 : b ≠ dx := fun z => kn.kf.b_ne hdx (by rw [← z]; exact eb)
      refine ⟨?_, cs, i, g, st, n, b2, s3 _ _ b3, b4⟩
      rw [upd_ne n1, upd_ne n2]
      exact b1
  refine q (.ref a) H' _ (.obj C ks ys) kn2 (k'.s0.trans s3) ?_ r'
  rw [Rep]
  exact ⟨a, dx, us, rfl, upd_same, by rw [upd_ne ne, upd_same], hl, repL_mono s3 ys us l'⟩
theorem d_make (M : Mk X.K C f) (G : FnOk X.prog X.w X.K X.mg X.base CX k f fd ps (spI C F)) (hr : Room (k + 1) X.A) (hm : X.mg x = some (.ref C)) (hb : Binds X.K fd ps []) (hx : Passes CX X E) (ha : DA X E (e :: es) Tl)
    (hg : Gl X x := by rfl) (hdb : (x == ("__debug__" : Str)) = false := by decide) (he : starEach (e :: es) X.env = (false, eval e X.env) :: starEach es X.env := by rfl) (hpl : (backTo pos (starEach es X.env)).any (·.1) = false := by rfl) :
    DE X E (.Call (.Name x p) (e :: es) [] pos) (xMake F Tl) := by
  obtain ⟨t, p1, s⟩ := ha
  refine ⟨_, pe_make M G hr hg hm hb .nil hx p1 hdb he hpl, fun c σ H S env R Rx x k t Q q => s c σ H S env _ Rx x k t _ fun vs H1 S1 xs k1 s1 l1 t1 a dx hxa hxd ne => ?_⟩
  rw [List.append_nil]
  exact sp_make k1 x l1 t1 hxa hxd ne fun v H' S' d k' s' r' z => q v H' S' d k' (s1.trans s') r' z
end
end DL
namespace DL
open PySem PySem.Spec L2
variable [TbC]
theorem back_of {P : Value → Shared → Prop} {z : V} {v : Value} {s' : Shared} (r : RelV z v) (h : P v s') : PySem.W.CmpBack P v s' := by
  cases z with
  | non => cases (show v = Value.none from r); exact h
  | bl b => cases (show v = Value.bool b from r); exact h
  | int i =>
    obtain ⟨t, e⟩ := (show ∃ t, v = Value.int i t from r)
    cases e
    exact h
  | str i =>
    obtain ⟨t, e⟩ := (show ∃ t, v = Value.str i t from r)
    cases e
    exact h
  | byt b =>
    obtain ⟨t, e⟩ := (show ∃ t, v = Value.bytes b t from r)
    cases e
    exact h
  | flt b =>
    obtain ⟨t, e⟩ := (show ∃ t, v = Value.float b t from r)
    cases e
    exact h
  | ref a => cases (show v = Value.ref a from r); exact h
  | ty n => cases (show v = Value.type n from r); exact h
section
variable {X : Cx} {CX : CXT} {n : Nat} {C g : Addr} {fd : FuncData} {ps : List Str} {sp : Sp} {E : XK}
/-- x op y, both instances of the class at C, whose def for op is at g -/
def rOB (C : Addr) (sp : Sp) (E : XK) : R2 := fun x y H Q => ∃ a dx fs b dy gs, x = .ref a ∧ y = .ref b ∧ H a = some (.ins C dx fs) ∧ H b = some (.ins C dy gs) ∧ sp [x, y] H Q E
/-- x == y, x an instance of the class at C with an own __eq__, y another instance of it -/
theorem op_ownEq {op : CmpOp} (hop : ∀ a b, compareOp op a b = richCompare op a b) (hs : PySem.W.findIn X.K (.ref C) (cmpInfo op).2.1 = some (some (.ref g))) (hf : PySem.W.isFn X.K (.ref g) = true) (F : FnOk X.prog X.w X.K X.mg X.base CX n g fd ps sp)
    (hb : Binds X.K fd ps []) (hr : Room n X.A) (hx : Passes CX X E) : OpR X (compareOp op) (rOB C sp E) := by
  intro pins s σ H x y v u Q I rx ry h
  obtain ⟨a, dx, fs, b, dy, gs, rfl, rfl, ha, hb2, q⟩ := h
  cases (show v = Value.ref a from rx)
  cases (show u = Value.ref b from ry)
  obtain ⟨mA, J, _⟩ := ins_get I.hok ha
  obtain ⟨mB, J', _⟩ := ins_get I.hok hb2
  obtain ⟨od, J, _⟩ := J.look
  obtain ⟨od', J', _⟩ := J'.look
  obtain ⟨m, hF⟩ := I.fr
  rw [hop]
  refine PySem.W.cmp_K (op := op) (tb := .ref C) hr.units0 hF I.ok.mod.kin J J'.type (by simp [PySem.W.notFirst]) hs hf ?_
  refine thn (run_fn (us := [.ref a, .ref b]) (vs := [.ref a, .ref b]) (dvs := []) F hr hb .nil hx I (.cons rfl (.cons rfl .nil)) (by rw [List.append_nil]; exact q)) fun w s' z => ?_
  obtain ⟨z', H', I', rz, qz⟩ := z
  exact back_of rz ⟨z', H', I', rz, qz⟩
end
section
variable {X : Cx} {CX : CXT} {k : Nat} {C g : Addr} {fd : FuncData} {ps : List Str} {F : Spec} {E : XK} {a b : Expr} {Ta Tb : DT} {pos : Pos}
def xOB (C : Addr) (F : Spec) (Ta Tb : DT) : DT := fun env R Rx => Ta env (fun x => Tb env (fun y => asO C (fun _ _ => True) x ∧ asO C (fun _ _ => True) y ∧ F [x, y] R Rx) Rx) Rx
def xOBi (C : Addr) (F : Spec) (Ta Tb : DT) : DT := fun env R Rx => Ta env (fun x => Tb env (fun y => asO C (fun _ _ => True) x ∧ asI (fun _ => True) y ∧ F [x, y] R Rx) Rx) Rx
def xInv (C : Addr) (F : Spec) (Ta : DT) : DT := fun env R Rx => Ta env (fun x => asO C (fun _ _ => True) x ∧ F [x] R Rx) Rx
end
end DL
namespace DL
open PySem PySem.Spec L2
variable [TbC]
/-- a method, a getter: its function -/
structure Dm (K : PySem.W.Frag) (x qual : Str) (st : Stmt) where
  f : Addr
  fd : FuncData
  F : FnS K x qual st [] [] f fd
section
end
end DL
namespace DL
open PySem PySem.Spec L2
variable [TbC]
/-- isinstance(x, C), C an own class -/
def isO (C : Addr) : D → Option Bool
  | .obj C' _ _ => if C' = C then some true else none
  | .non | .bl _ | .int _ | .str _ | .lst _ | .tup _ => some false
  | _ => none
def fIsiO (C : Addr) : DFn
  | [x, .adr c], R => c = C ∧ ∃ b, isO C x = some b ∧ R (.bl b)
  | _, _ => False
structure IsiC (K : PySem.W.Frag) (C : Addr) : Prop where
  isi : Hx.Isi K C
  cls : Cls K C
  isc : Hx.Isc K C
theorem b_isiO {X : Cx} {C : Addr} (i : IsiC X.K C) : CallOk X (.builtin "isinstance") (fIsiO C) := by
  refine ⟨_, call_isi, fun c σ H S env xs vs R k r t Q q => ?_⟩
  unfold fIsiO at t
  split at t <;> try exact t.elim
  obtain ⟨rfl, b, eb, t⟩ := t
  obtain ⟨v, v', rfl, r1, r2⟩ := rep2 r
  have fin : ∀ ty, TyX X.K H v ty → PySem.W.kitOne X.K ty (.ref _) = some b → _ := fun ty tx e => (⟨v, v', ty, _, b, rfl, by rw [show v' = _ from r2]; exact .own _, tx, e, q _ H S (.bl b) k (Same.refl S) rfl t⟩ : rIsi X.K [v, v'] H Q)
  rename_i x cc
  cases x with
  | non =>
    cases eb
    exact fin _ (by rw [show v = _ from r1]; exact .base .non) (i.isi.no "NoneType" (by decide))
  | bl y =>
    cases eb
    exact fin _ (by rw [show v = _ from r1]; exact .base (.bl y)) (i.isi.no "bool" (by decide))
  | int y =>
    cases eb
    exact fin _ (by rw [show v = _ from r1]; exact .base (.int y)) (i.isi.no "int" (by decide))
  | str y =>
    cases eb
    exact fin _ (by rw [show v = _ from r1]; exact .base (.str y)) (i.isi.no "str" (by decide))
  | lst ys =>
    cases eb
    obtain ⟨a, us, rfl, h1, _, l1⟩ := lst_of k r1
    exact fin _ (.base (.lst h1)) (i.isi.no "list" (by decide))
  | tup ys =>
    cases eb
    obtain ⟨a, us, rfl, h1, _, l1⟩ := tup_of k r1
    exact fin _ (.base (.tup h1)) (i.isi.no "tuple" (by decide))
  | obj C' ks ys =>
    have eb : (if C' = cc then some true else none) = some b := eb
    by_cases z : C' = cc
    · subst z
      rw [if_pos rfl] at eb
      cases eb
      obtain ⟨a, dx, us, rfl, h1, _, l1⟩ := obj_of k r1
      exact fin _ (.base (.ins h1 i.cls i.isc.ca i.isc.cn i.isc.ct i.isc.cm)) i.isi.yes
    · rw [if_neg z] at eb
      cases eb
  | _ => cases eb
end DL
namespace DL
open PySem PySem.Spec L2
variable [TbC]
/-- x == y, two objects of the class at C with an own == -/
def opOwn (C : Addr) (F : Spec) : DOp := fun x y R => asO C (fun _ _ => True) x ∧ asO C (fun _ _ => True) y ∧ F [x, y] R noX
theorem c_ownEq {X : Cx} {k : Nat} {C g : Addr} {fd : FuncData} {ps : List Str} {F : Spec} (o : Hx.Own X.K C "__eq__" g) (G : FnOk X.prog X.w X.K X.mg X.base (L2.CX X.prog X.w) k g fd ps (spD F)) (hb : Binds X.K fd ps []) (hr : Room k X.A) : CmpOk X .Eq (opOwn C F) := by
  refine ⟨_, op_ownEq (op := .Eq) (fun _ _ => rfl) o.at_ o.fn G hb hr passL, fun c σ H S env x y v u R kn r1 r2 t Q q => ?_⟩
  obtain ⟨o1, o2, t⟩ := t
  cases x <;> try exact (show False from o1).elim
  cases y <;> try exact (show False from o2).elim
  obtain ⟨rfl, _⟩ := o1
  obtain ⟨e2, _⟩ := o2
  subst e2
  obtain ⟨a1, dx, vs, e1, h1, _, l1⟩ := obj_of kn r1
  obtain ⟨a2, dy, ws, e2, h2, _, l2⟩ := obj_of kn r2
  exact ⟨a1, dx, _, a2, dy, _, e1, e2, h1, h2, sp_call kn xok0 (repL_cons r1 (repL_cons r2 repL_nil)) t fun v H' S' d k' s' r' t' => q v H' S' d k' s' r' t'⟩
end DL
namespace DL
open PySem PySem.Spec L2
variable [TbC]
def xMethK (C : Addr) (m : Str) (F : Spec) (g : List D → List D → List D) (To : DT) (Tk : DTA) : DT := fun env R Rx => To env (fun d => asO C (fun ks xs => fld ks xs m = none) d ∧ Tk env (fun zs => F (g [d] zs) R Rx) Rx) Rx
end DL
namespace DL
open PySem PySem.Spec L2
section
end
end DL
namespace DL
open PySem PySem.Spec L2
section
end
end DL
namespace DL
open PySem PySem.Spec L2
variable [TbC]
theorem Dm.kb {K : PySem.W.Frag} {x qual : Str} {st : Stmt} (Dx : Dm K x qual st) {ps ks : List Str} (n m : Nat) (idx : List Nat) (hi : ps ≠ [])
    (h : ∀ (kV doc pm : Value) (an : Option Addr) (cdv ct : Value) (us ws : List Value), us.length = n → ws.length = m → bindArgs (PySem.W.fnOf x qual (defArgs st) (defBody st) (defScope st) .none kV doc pm an cdv ct) ⟨us, ks.zip ws⟩ = pure (ps.zip (gPerm n m idx us ws))) :
    KBd K Dx.fd ps ks (gPerm n m idx) where
  to := fun s us ws X hl => by
    obtain ⟨oc, od, dV, kV, doc, pm, an, cdv, ct, osl, e, lk, hcd, hD, hK⟩ := Dx.F.ex
    rcases hD with ⟨_, rfl⟩ | ⟨z, _⟩
    · rw [e]
      by_cases hz : us.length = n ∧ ws.length = m
      · exact .of_eq (h _ _ _ _ _ _ us ws hz.1 hz.2)
      · unfold gPerm at hl
        rw [if_neg hz] at hl
        exact absurd (List.length_eq_zero_iff.mp hl.symm) hi
    · exact absurd rfl z
  rel := fun {vs us zs ws} r1 r2 => by
    unfold gPerm
    rw [r1.length, r2.length]
    split
    · exact vals_pick (r1.append r2) idx
    · exact .nil
  rep := fun {B S xs zs vs ws} r1 r2 => by
    unfold gPerm
    rw [r1.length, r2.length]
    split
    · exact rep_pick (r1.app r2) idx
    · exact repL_nil
end DL
namespace DL
open PySem PySem.Spec L2
variable [TbC]
section
variable {α : Type} {G : DG} {Te : DT} {Tt : DTT} {vs : List Nat} {env : En} {R : List D → Prop}
theorem LcP.of {as : List α} {g : α → D} (f : α → D) (hz : as.length ≤ sizeLine) (h : ∀ (i : Nat) (a : α) (N : D → Prop), as[i]? = some a → N (f a) → G (g a) (inner vs env) fun env' => Te env' N noX) (k : R (as.map f)) :
    LcP (as.map g) G xYes Te vs env R := by
  refine ⟨fun i acc => acc = (as.take i).map f, by simp, fun i d acc e hI => ?_, fun acc hI => by rw [hI, List.length_map, List.take_length]; exact k⟩
  rw [List.getElem?_map] at e
  cases q : as[i]? with
  | none => rw [q] at e; cases e
  | some a =>
    rw [q] at e
    cases e
    have hi := (List.getElem?_eq_some_iff.mp q).1
    have key := h i a (fun y => acc.length < sizeLine ∧ acc ++ [y] = (as.take (i + 1)).map f) q ⟨by rw [hI, List.length_map, List.length_take]; omega, by rw [hI, take_succ_map f q]⟩
    have e1 : (fun env' => xYes env' (fun b => (b = true → Te env' (fun y => acc.length < sizeLine ∧ acc ++ [y] = (as.take (i + 1)).map f) noX) ∧ (b = false → acc = (as.take (i + 1)).map f)) noX) = fun env' => Te env' (fun y => acc.length < sizeLine ∧ acc ++ [y] = (as.take (i + 1)).map f) noX := by
      funext env'
      refine propext ⟨fun t => t.1 rfl, fun t => ⟨fun _ => t, fun z => nomatch z⟩⟩
    rw [e1]
    exact key
theorem LcP.filt {as : List α} {g : α → D} (p : α → Bool) (f : α → D) (hz : as.length ≤ sizeLine)
    (h : ∀ (i : Nat) (a : α) (N : D → Prop) (M : Prop), as[i]? = some a → (p a = true → N (f a)) → (p a = false → M) → G (g a) (inner vs env) fun env' => Tt env' (fun b => (b = true → Te env' N noX) ∧ (b = false → M)) noX) (k : R ((as.filter p).map f)) :
    LcP (as.map g) G Tt Te vs env R := by
  refine ⟨fun i acc => acc = ((as.take i).filter p).map f, by simp, fun i d acc e hI => ?_, fun acc hI => by rw [hI, List.length_map, List.take_length]; exact k⟩
  rw [List.getElem?_map] at e
  cases q : as[i]? with
  | none => rw [q] at e; cases e
  | some a =>
    rw [q] at e
    cases e
    have hi := (List.getElem?_eq_some_iff.mp q).1
    have e2 : as.take (i + 1) = as.take i ++ [a] := by rw [List.take_succ, q]; rfl
    refine h i a _ _ q (fun hp => ⟨?_, ?_⟩) fun hp => ?_
    · rw [hI, List.length_map]
      have := List.length_filter_le p (as.take i)
      rw [List.length_take] at this
      omega
    · show acc ++ [f a] = ((as.take (i + 1)).filter p).map f
      rw [hI, e2, List.filter_append]
      simp [hp]
    · show acc = ((as.take (i + 1)).filter p).map f
      rw [hI, e2, List.filter_append]
      simp [hp]
/-- items drawn: of them only P is known -/
theorem mapped_of (g : α → D) {P : α → Prop} : ∀ {acc : List D}, (∀ y ∈ acc, ∃ a, y = g a ∧ P a) → ∃ as : List α, acc = as.map g ∧ ∀ a ∈ as, P a
  | [], _ => ⟨[], rfl, fun n h => nomatch h⟩
  | y :: acc, h => by
    obtain ⟨n, rfl, hp⟩ := h y (List.mem_cons_self ..)
    obtain ⟨ns, rfl, hn⟩ := mapped_of g (acc := acc) fun z hz => h z (List.mem_cons_of_mem _ hz)
    exact ⟨n :: ns, rfl, fun m hm => by
      rcases List.mem_cons.mp hm with e | e
      · rw [e]; exact hp
      · exact hn m e⟩
theorem LcP.draw {xs : List D} (g : α → D) (P : α → Prop) (hz : xs.length ≤ sizeLine) (h : ∀ (i : Nat) (d : D) (N : D → Prop), xs[i]? = some d → (∀ a, P a → N (g a)) → G d (inner vs env) fun env' => Te env' N noX)
    (k : ∀ as : List α, as.length = xs.length → (∀ a ∈ as, P a) → R (as.map g)) : LcP xs G xYes Te vs env R := by
  refine LcP.all (fun y => ∃ a, y = g a ∧ P a) hz (fun i d N e hN => h i d N e fun a ha => hN _ ⟨a, rfl, ha⟩) fun acc hl hacc => ?_
  obtain ⟨as, rfl, has⟩ := mapped_of g hacc
  exact k as (by rw [List.length_map] at hl; exact hl) has
end
section
variable {x0 x1 x2 x3 x4 x5 x6 x7 : D} {r : List D}
theorem w_at0 : atI (x0 :: r) 0 = some x0 := by simp [atI, ixN]
theorem w_at1 : atI (x0 :: x1 :: r) 1 = some x1 := by
  unfold atI ixN
  rw [if_pos (by decide), if_pos (by simp only [List.length_cons]; omega)]
  rfl
theorem w_at2 : atI (x0 :: x1 :: x2 :: r) 2 = some x2 := by
  unfold atI ixN
  rw [if_pos (by decide), if_pos (by simp only [List.length_cons]; omega)]
  rfl
theorem w_at3 : atI (x0 :: x1 :: x2 :: x3 :: r) 3 = some x3 := by
  unfold atI ixN
  rw [if_pos (by decide), if_pos (by simp only [List.length_cons]; omega)]
  rfl
theorem w_at4 : atI (x0 :: x1 :: x2 :: x3 :: x4 :: r) 4 = some x4 := by
  unfold atI ixN
  rw [if_pos (by decide), if_pos (by simp only [List.length_cons]; omega)]
  rfl
theorem w_at5 : atI (x0 :: x1 :: x2 :: x3 :: x4 :: x5 :: r) 5 = some x5 := by
  unfold atI ixN
  rw [if_pos (by decide), if_pos (by simp only [List.length_cons]; omega)]
  rfl
end
end DL
namespace DL
open PySem PySem.Spec L2
variable [TbC]
section
variable {X : Cx} {pins : List (Addr × Obj)} {σ : St} {H : Hp} {s : Shared} {k : Nat} {f g C : Addr} {fd : FuncData} {ps : List Str} {sp : Sp} {F : Spec}
theorem run_in1 {Q : VK} {us : List Value} {vs : List V} {E' : Value → Shared → Prop} (G : FnOk X.prog X.w X.K X.mg X.base (L2.CX X.prog X.w) k f fd ps sp) (hr : Room (k + 1) X.A) (hb : Binds X.K fd ps []) (I : Inv X pins σ H s) (r : Vals vs us) (h : sp vs H Q E0) :
    wpAny (model X.prog X.w) X.A.in1 (call (.ref f) us) (EP X pins σ Q) E' s := by
  have hl : (us ++ []).length = ps.length := by rw [List.append_nil, ← r.length]; exact G.len _ _ _ _ h
  have hb2 := hb s us I.kIn hl
  rw [List.append_nil] at hb2
  refine wpAny_call (codeAny_mono (G.run X.A.in1 X.stack s H ⟨us, []⟩ us vs Q E0 hr.in1 I.env0.in1 hb2 r h) fun r s' hq => ?_)
  cases r with
  | error er => exact False.elim ((passL (X := X.nox)) pins σ H s er s' (I.wish _) hq)
  | ok fl =>
    cases fl with
    | ret u => exact I.after hq
    | next => exact False.elim hq
    | brk => exact False.elim hq
    | cont => exact False.elim hq
def natR (R : D → Prop) : D → Prop
  | .int n => 0 ≤ n ∧ n < 2 ^ 63 ∧ R (.int n)
  | _ => False
theorem w_natR {R : D → Prop} {n : Int} : natR R (.int n) = (0 ≤ n ∧ n < 2 ^ 63 ∧ R (.int n)) := rfl
def fLenOw (C : Addr) (F : Spec) : DFn
  | [x], R => asO C (fun _ _ => True) x ∧ F [x] (natR R) noX
  | _, _ => False
theorem w_fLenOw {C : Addr} {F : Spec} {x : D} {R : D → Prop} : fLenOw C F [x] R = (asO C (fun _ _ => True) x ∧ F [x] (natR R) noX) := rfl
end
section
variable {X : Cx} {E : XK} {a b c : Expr} {pos : Pos}
def zPar3 (i j l : Nat) (Tl : DTA) : DTS := fun Q env => Tl env (fun ds => match ds with
  | [d, d', d''] => Q.nx (put l d'' (put j d' (put i d env)))
  | _ => False) Q.ex
end
end DL
namespace DL
open PySem PySem.Spec L2
section
end
end DL
namespace DL
open PySem PySem.Spec L2
variable [TbC]
section
end
def xLc2F (Ti : DTI) (G : DG) (Tt : DTT) (Ti1 : DTI) (G1 : DG) (Tt1 : DTT) (Te : DT) (vs vs1 : List Nat) : DTF := fun env R Rx => Ti env (fun xs => ∃ I : Nat → List D → Prop, I 0 [] ∧
  (∀ i d acc, xs[i]? = some d → I i acc → G d (inner vs env) fun env' => Tt env' (fun b => (b = true → Ti1 env' (fun ys => ∃ I1 : Nat → List D → Prop, I1 0 acc ∧
      (∀ j e acc, ys[j]? = some e → I1 j acc → G1 e (inner vs1 env') fun env'' => Tt1 env'' (fun b => (b = true → Te env'' (fun y => acc.length < sizeLine ∧ I1 (j + 1) (acc ++ [y])) noX) ∧ (b = false → I1 (j + 1) acc)) noX) ∧
      ∀ acc, I1 ys.length acc → I (i + 1) acc) noX) ∧ (b = false → I (i + 1) acc)) noX) ∧
  ∀ acc, I xs.length acc → R acc) Rx
section
end
/-- the word: typed lists both -/
def Lc2P (xs : List D) (G : DG) (Tt : DTT) (Ti1 : DTI) (G1 : DG) (Tt1 : DTT) (Te : DT) (vs vs1 : List Nat) (env : En) (R : List D → Prop) : Prop := ∃ I : Nat → List D → Prop, I 0 [] ∧
  (∀ i d acc, xs[i]? = some d → I i acc → G d (inner vs env) fun env' => Tt env' (fun b => (b = true → Ti1 env' (fun ys => ∃ I1 : Nat → List D → Prop, I1 0 acc ∧
      (∀ j e acc, ys[j]? = some e → I1 j acc → G1 e (inner vs1 env') fun env'' => Tt1 env'' (fun b => (b = true → Te env'' (fun y => acc.length < sizeLine ∧ I1 (j + 1) (acc ++ [y])) noX) ∧ (b = false → I1 (j + 1) acc)) noX) ∧
      ∀ acc, I1 ys.length acc → I (i + 1) acc) noX) ∧ (b = false → I (i + 1) acc)) noX) ∧
  ∀ acc, I xs.length acc → R acc
theorem w_lc2 {Ti Ti1 : DTI} {G G1 : DG} {Tt Tt1 : DTT} {Te : DT} {vs vs1 : List Nat} {env : En} {R : List D → Prop} {Rx : Er → Prop} : xLc2F Ti G Tt Ti1 G1 Tt1 Te vs vs1 env R Rx = Ti env (fun xs => Lc2P xs G Tt Ti1 G1 Tt1 Te vs vs1 env R) Rx := rfl
/-- no tests: all f a b, in order -/
theorem Lc2P.of {α β : Type} {as : List α} {g : α → D} {Ti1 : DTI} {G G1 : DG} {Te : DT} {vs vs1 : List Nat} {env : En} {R : List D → Prop} (bs : List β) (g1 : β → D) (f : α → β → D) (hz : as.length * bs.length ≤ sizeLine)
    (h2 : ∀ (i : Nat) (a : α) (R1 : En → Prop), as[i]? = some a → (∀ env' : En, (∀ M : List D → Prop, M (bs.map g1) → Ti1 env' M noX) → (∀ (j : Nat) (b : β) (N : D → Prop), bs[j]? = some b → N (f a b) → G1 (g1 b) (inner vs1 env') fun env'' => Te env'' N noX) → R1 env') → G (g a) (inner vs env) R1)
    (k : R (as.flatMap fun a => bs.map (f a))) : Lc2P (as.map g) G xYes Ti1 G1 xYes Te vs vs1 env R := by
  refine ⟨fun i acc => acc = (as.take i).flatMap fun a => bs.map (f a), by simp, fun i d acc e hI => ?_, fun acc hI => by rw [hI, List.length_map, List.take_length]; exact k⟩
  rw [List.getElem?_map] at e
  cases q : as[i]? with
  | none => rw [q] at e; cases e
  | some a =>
    rw [q] at e
    cases e
    have hi := (List.getElem?_eq_some_iff.mp q).1
    have eacc : acc.length = i * bs.length := by
      rw [hI, List.length_flatMap]
      have : (as.take i).map (fun a => (bs.map (f a)).length) = List.replicate i bs.length := by
        apply List.ext_getElem
        · simp; omega
        · intro n h1 h2
          simp
      rw [this, List.sum_replicate_nat]
    have et : as.take (i + 1) = as.take i ++ [a] := by rw [List.take_succ, q]; rfl
    refine h2 i a _ q fun env' hT hE => ⟨fun _ => hT _ ⟨fun j acc2 => acc2 = acc ++ (bs.take j).map (f a), by simp, fun j d acc2 e2 hI2 => ?_, fun acc2 hI2 => ?_⟩, fun z => nomatch z⟩
    · rw [List.getElem?_map] at e2
      cases q2 : bs[j]? with
      | none => rw [q2] at e2; cases e2
      | some b =>
        rw [q2] at e2
        cases e2
        have hj := (List.getElem?_eq_some_iff.mp q2).1
        have key := hE j b (fun y => acc2.length < sizeLine ∧ acc2 ++ [y] = acc ++ (bs.take (j + 1)).map (f a)) q2 ⟨by
          rw [hI2, List.length_append, List.length_map, List.length_take, eacc]
          have : (i + 1) * bs.length ≤ as.length * bs.length := Nat.mul_le_mul_right _ hi
          rw [Nat.succ_mul] at this
          omega, by rw [hI2, take_succ_map (f a) q2, List.append_assoc]⟩
        have e1 : (fun env'' => xYes env'' (fun b => (b = true → Te env'' (fun y => acc2.length < sizeLine ∧ acc2 ++ [y] = acc ++ (bs.take (j + 1)).map (f a)) noX) ∧ (b = false → acc2 = acc ++ (bs.take (j + 1)).map (f a))) noX) = fun env'' => Te env'' (fun y => acc2.length < sizeLine ∧ acc2 ++ [y] = acc ++ (bs.take (j + 1)).map (f a)) noX := by
          funext env''
          refine propext ⟨fun t => t.1 rfl, fun t => ⟨fun _ => t, fun z => nomatch z⟩⟩
        rw [e1]
        exact key
    · show acc2 = (as.take (i + 1)).flatMap fun a => bs.map (f a)
      rw [hI2, List.length_map, List.take_length, et, List.flatMap_append, hI]
      simp
def asStrs : List D → Option (List Str)
  | [] => some []
  | .str i :: r => (asStrs r).map (i :: ·)
  | _ :: _ => none
theorem asStrs_eq : ∀ {ds : List D} {ns : List Str}, asStrs ds = some ns → ds = ns.map D.str
  | [], _, e => by cases e; rfl
  | .str i :: r, ns, e => by
    have e : (asStrs r).map (i :: ·) = some ns := e
    cases h : asStrs r with
    | none => rw [h] at e; cases e
    | some ms =>
      rw [h] at e
      cases e
      rw [asStrs_eq h]
      rfl
  | .non :: _, _, e | .bl _ :: _, _, e | .int _ :: _, _, e | .ty _ :: _, _, e | .adr _ :: _, _, e | .fn _ _ _ :: _, _, e | .exc _ _ _ _ _ :: _, _, e | .dct _ _ :: _, _, e | .dcT _ _ :: _, _, e | .bag :: _, _, e | .lst _ :: _, _, e | .tup _ :: _, _, e | .obj _ _ _ :: _, _, e => nomatch e
theorem w_asStrs (ns : List Str) : asStrs (ns.map D.str) = some ns := by
  induction ns with
  | nil => rfl
  | cons n ns ih => show (asStrs (ns.map D.str)).map (n :: ·) = _; rw [ih]; rfl
theorem RepL.strs {B : Option Addr} {S : Hp} {ns : List Str} : ∀ {vs : List V}, RepL B S (ns.map D.str) vs → vs = ns.map V.str := by
  induction ns with
  | nil => intro vs h; exact repL_nil_of h
  | cons n ns ih =>
    intro vs h
    obtain ⟨u, ws, rfl, r1, t⟩ := repL_cons_of h
    rw [ih t, show u = V.str n from r1]
    rfl
def asS (R : Str → Prop) : D → Prop
  | .str s => R s
  | _ => False
theorem w_asS {Q : Str → Prop} {s : Str} : asS Q (.str s) = Q s := rfl
def opJoin (a : Str) : D → (D → Prop) → Prop
  | .lst xs, R => ∃ ys : List Str, asStrs xs = some ys ∧ (ys.map (·.length)).sum + ys.length * a.length ≤ 16777216 ∧ R (.str (Txt.join a ys))
  | _, _ => False
theorem w_join {a : Str} {xs : List D} {R : D → Prop} : opJoin a (.lst xs) R = ∃ ys : List Str, asStrs xs = some ys ∧ (ys.map (·.length)).sum + ys.length * a.length ≤ 16777216 ∧ R (.str (Txt.join a ys)) := rfl
def opFind (a : Str) : D → (D → Prop) → Prop
  | .str b, R => R (.int (Txt.find a b))
  | _, _ => False
theorem w_find {a b : Str} {R : D → Prop} : opFind a (.str b) R = R (.int (Txt.find a b)) := rfl
def xM1 (op : Str → D → (D → Prop) → Prop) (To Te : DT) : DT := fun env R Rx => To env (asS fun a => Te env (fun y => op a y R) Rx) Rx
theorem w_m1 {op : Str → D → (D → Prop) → Prop} {To Te : DT} {env : En} {R : D → Prop} {Rx : Er → Prop} : xM1 op To Te env R Rx = To env (asS fun a => Te env (fun y => op a y R) Rx) Rx := rfl
section
variable {X : Cx} {E : XK} {o e : Expr} {To Te : DT} {apos pos : Pos}
theorem d_join (ho : DE X E o To) (he : DE X E e Te) (hs : starEach [e] X.env = [(false, eval e X.env)] := by rfl) (hbase : attributeBase o "join" X.env (eval o X.env) = eval o X.env := by rfl) (hline : (apos.endLine == pos.line) = true := by rfl) :
    DE X E (.Call (.Attribute o "join" apos) [e] [] pos) (xM1 opJoin To Te) := by
  obtain ⟨to, p1, s1⟩ := ho
  obtain ⟨te, p2, s2⟩ := he
  refine ⟨_, pe_join p1 p2 hs hbase hline, fun c σ H S env R Rx x k t Q q => s1 c σ H S env _ Rx x k t _ fun v H1 S1 d k1 s3 r1 t1 => ?_⟩
  cases d <;> try exact (show False from t1).elim
  refine ⟨⟨_, r1⟩, s2 c σ H1 S1 env _ Rx x k1 t1 _ fun u H2 S2 d2 k2 s4 r2 t2 => ?_⟩
  cases d2 <;> try exact (show False from t2).elim
  obtain ⟨ys, e1, hz, t2⟩ := t2
  obtain ⟨a, vs, rfl, h1, _, l1⟩ := lst_of k2 r2
  rw [asStrs_eq e1] at l1
  rw [l1.strs] at h1
  exact ⟨_, a, ys, r1, rfl, .inl (SqL.of h1), hz, q _ H2 S2 (.str _) k2 (s3.trans s4) rfl t2⟩
def fStrI : DFn
  | [.int i], R => i.natAbs.log2 < 1920 ∧ R (.str (toString i))
  | _, _ => False
theorem w_fStrI {i : Int} {R : D → Prop} : fStrI [.int i] R = (i.natAbs.log2 < 1920 ∧ R (.str (toString i))) := rfl
theorem b_str : CallOk X (.type "str") fStrI := by
  refine ⟨_, call_str_int, fun c σ H S env xs vs R k r t Q q => ?_⟩
  unfold fStrI at t
  split at t <;> try exact t.elim
  obtain ⟨v, rfl, r1⟩ := rep1 r
  exact ⟨_, by rw [show v = _ from r1], t.1, q _ H S (.str _) k (Same.refl S) rfl t.2⟩
end
end DL
namespace DL
open PySem PySem.Spec L2 PyProof.Rows
variable [TbC]
section
variable {X : Cx} {E : XK} {a b e ix : Expr} {pos p1 p2 : Pos} {Ti Tv : DT}
/-- xs[k] op= e -/
def zAugO (i : Nat) (f : Int → Int → Int) (Ti Tv : DT) : DTS := fun Q env => ∃ xs, env[i]? = some (some (.own xs)) ∧ Ti env (asI fun k => ∃ j n, ixN xs.length k = some j ∧ xs[j]? = some (.int n) ∧ Tv env (asI fun m => Q.nx (putO' i (xs.set j (.int (f n m))) env)) Q.ex) Q.ex
theorem w_zAugO {i : Nat} {f : Int → Int → Int} {Q : DEnds} {env : En} : zAugO i f Ti Tv Q env = ∃ xs, env[i]? = some (some (.own xs)) ∧ Ti env (asI fun k => ∃ j n, ixN xs.length k = some j ∧ xs[j]? = some (.int n) ∧ Tv env (asI fun m => Q.nx (putO' i (xs.set j (.int (f n m))) env)) Q.ex) Q.ex := rfl
end
end DL
namespace DL
open PySem PySem.Spec L2
variable [TbC]
def thaw1 : Option DV → Option DV
  | some (.own xs) => some (.val (.lst xs))
  | some (.tre t _) => some (.val t.d)
  | o => o
def thaw (env : En) : En := env.map thaw1
theorem w_thaw_nil : thaw [] = [] := rfl
theorem w_thaw_cons {o : Option DV} {l : En} : thaw (o :: l) = thaw1 o :: thaw l := rfl
theorem w_thaw_own {xs : List D} : thaw1 (some (.own xs)) = some (.val (.lst xs)) := rfl
theorem w_thaw_val {d : D} : thaw1 (some (.val d)) = some (.val d) := rfl
theorem w_thaw_none : thaw1 none = none := rfl
theorem w_thaw_tre {t : T} {as : List Addr} : thaw1 (some (.tre t as)) = some (.val t.d) := rfl
theorem thaw_get {env : En} {j : Nat} {x : DV} (e : (thaw env)[j]? = some (some x)) : (∃ d, x = .val d ∧ env[j]? = some (some (.val d))) ∨ (∃ xs, x = .val (.lst xs) ∧ env[j]? = some (some (.own xs))) ∨ ∃ t as, x = .val t.d ∧ env[j]? = some (some (.tre t as)) := by
  unfold thaw at e
  rw [List.getElem?_map] at e
  cases q : env[j]? with
  | none => rw [q] at e; cases e
  | some o =>
    rw [q] at e
    cases o with
    | none => cases e
    | some y =>
      cases y with
      | val d => cases e; exact .inl ⟨d, rfl, rfl⟩
      | own xs => cases e; exact .inr (.inl ⟨xs, rfl, rfl⟩)
      | tre t as => cases e; exact .inr (.inr ⟨t, as, rfl, rfl⟩)
/-- a is the address of a thing of the frame's own -/
def OwnA (σ : St) (env : En) (a : Addr) : Prop := ∃ (j : Nat) (x : DV) (v : V), env[j]? = some (some x) ∧ σ[j]? = some (some v) ∧ Foot x v a
open Classical in
noncomputable def lendS (σ : St) (env : En) (H S : Hp) : Hp := fun a => if OwnA σ env a then H a else S a
open Classical in
noncomputable def backS (σ : St) (env : En) (S : Hp) : Hp := fun a => if OwnA σ env a then none else S a
section
variable {c : Fm} {σ : St} {H H' S S' : Hp} {env : En} {a : Addr}
theorem lend_own (o : OwnA σ env a) : lendS σ env H S a = H a := if_pos o
theorem lend_not (o : ¬ OwnA σ env a) : lendS σ env H S a = S a := if_neg o
theorem back_own (o : OwnA σ env a) : backS σ env S a = none := if_pos o
theorem back_not (o : ¬ OwnA σ env a) : backS σ env S a = S a := if_neg o
theorem ownA_at (k : Kn c σ H S env) (o : OwnA σ env a) : S a = none ∧ c.H0 a = none ∧ Mu (H a) := by
  obtain ⟨j, x, v, e, e1, f⟩ := o
  obtain ⟨u, e2, r⟩ := k.sl j _ e
  rw [e1] at e2
  cases e2
  exact r.foot a f
theorem not_own (k : Kn c σ H S env) {o : HO} (e : S a = some o) : ¬ OwnA σ env a := fun z => by
  rw [(ownA_at k z).1] at e
  cases e
theorem same_lend (k : Kn c σ H S env) : Same S (lendS σ env H S) := fun a o e => by
  rw [lend_not (not_own k e)]
  exact e
theorem Kn.lend (k : Kn c σ H S env) : Kn (c.at H (lendS σ env H S)) σ H (lendS σ env H S) (thaw env) := by
  refine ⟨⟨fun a o e => ?_, Same.refl _, fun _ _ e _ => e, fun a e _ => e, fun b e => ?_, ⟨fun p hp => ⟨(k.kf.tab.1 p hp).1, by rw [lend_not fun z => k.kf.tab.2 p hp (ownA_at k z).2.1]; exact (k.kf.tab.1 p hp).2⟩, fun p hp => k.kf.tab.1.ne hp⟩⟩, ?_, fun j x e => ?_, fun i j x y v u a _ e _ _ _ f _ => ?_⟩
  · by_cases z : OwnA σ env a
    · rw [lend_own z] at e
      exact e
    · rw [lend_not z] at e
      exact k.kf.sub a o e
  · obtain ⟨⟨b1, cs, i, g, st, n, b2, b3, b4⟩, b5⟩ := k.kf.bag b e
    have nb : ¬ OwnA σ env b := fun z => b5 (ownA_at k z).2.1
    refine ⟨⟨by rw [lend_not nb]; exact b1, cs, i, g, st, n, b2, same_lend k _ _ b3, b4⟩, ?_⟩
    show H b ≠ none
    rw [b2]
    exact fun z => nomatch z
  · unfold thaw
    rw [List.length_map]
    exact k.len
  · rcases thaw_get e with ⟨d, rfl, e2⟩ | ⟨xs, rfl, e2⟩ | ⟨t, as, rfl, e2⟩
    · obtain ⟨v, e3, r⟩ := k.sl j _ e2
      exact ⟨v, e3, rep_mono (same_lend k) d v r⟩
    · obtain ⟨v, e3, p, vs, rfl, h1, h2, h3, h4⟩ := k.sl j _ e2
      refine ⟨_, e3, ?_⟩
      show Rep c.B _ (.lst xs) (.ref p)
      rw [Rep]
      exact ⟨p, vs, rfl, by rw [lend_own ⟨j, _, _, e2, e3, rfl⟩]; exact h3, repL_mono (same_lend k) _ _ h4⟩
    · obtain ⟨v, e3, r⟩ := k.sl j _ e2
      exact ⟨v, e3, rep_tree (same_lend k) t v as (fun a m => lend_own ⟨j, _, _, e2, e3, m⟩) r.1⟩
  · rcases thaw_get e with ⟨d, rfl, _⟩ | ⟨xs, rfl, _⟩ | ⟨t, as, rfl, _⟩ <;> exact f
theorem Kf.lendX (k : Kn c σ H S env) (k' : Kf (c.at H (lendS σ env H S)) H' S') : Kf c H' S' := by
  refine ⟨k'.sub, (k.kf.s0.trans (same_lend k)).trans k'.s0, fun a o e n => k'.old a o (k.kf.old a o e n) n, fun a e n => ?_, fun b e => ⟨(k'.bag b e).1, (k.kf.bag b e).2⟩, ⟨k'.tab.1, k.kf.tab.2⟩⟩
  refine k'.new a ?_ (k.kf.back n)
  show lendS σ env H S a = none
  rw [lend_not fun z => n.1 (ownA_at k z).2.1]
  exact k.kf.new a e n
theorem XOk.lend {E : XK} {Rx : Er → Prop} (x : XOk c E Rx) (k : Kn c σ H S env) : XOk (c.at H (lendS σ env H S)) E Rx := fun er d vs H1 S1 k1 r l h n0 n1 z => x er d vs H1 S1 (Kf.lendX k k1) r l h (k.kf.h0_none n0) n1 z
theorem Kn.unlend (k : Kn c σ H S env) (k' : Kf (c.at H (lendS σ env H S)) H' S') : Kn c σ H' (backS σ env S') env ∧ Same S (backS σ env S') := by
  have ss : Same S (backS σ env S') := fun a o e => by
    rw [back_not (not_own k e)]
    exact k'.s0 _ _ (same_lend k _ _ e)
  have kx := Kf.lendX k k'
  have bs : Same (backS σ env S') S' := fun a o e => by
    by_cases z : OwnA σ env a
    · rw [back_own z] at e
      cases e
    · rw [back_not z] at e
      exact e
  refine ⟨⟨⟨fun a o e => kx.sub a o (bs a o e), k.kf.s0.trans ss, kx.old, fun a e n => ?_, fun b e => ?_, ⟨fun p hp => ⟨(kx.tab.1 p hp).1, by
    by_cases z : OwnA σ env p.1
    · exact back_own z
    · rw [back_not z]
      exact (kx.tab.1 p hp).2⟩, k.kf.tab.2⟩⟩, k.len, fun j x e => ?_, k.apart⟩, ss⟩
  · have := kx.new a e n
    by_cases z : OwnA σ env a
    · exact back_own z
    · rw [back_not z]
      exact this
  · obtain ⟨⟨b1, cs, i, g, st, n, b2, b3, b4⟩, b5⟩ := kx.bag b e
    obtain ⟨⟨_, cs0, _, _, _, _, _, b3', _⟩, _⟩ := k.kf.bag b e
    refine ⟨⟨?_, cs, i, g, st, n, b2, ?_, b4⟩, b5⟩
    · by_cases z : OwnA σ env b
      · exact back_own z
      · rw [back_not z]
        exact b1
    · rw [back_not (not_own k b3')]
      exact b3
  · obtain ⟨v, e3, r⟩ := k.sl j x e
    refine ⟨v, e3, r.keep rfl ss fun a fa => ?_⟩
    obtain ⟨f1, f2, _⟩ := r.foot a fa
    exact ⟨back_own ⟨j, x, v, e, e3, fa⟩, f2, fun o e4 => k'.old a o e4 (k.kf.x_ne0 f2)⟩
end
section
variable {X : Cx} {E : XK} {e : Expr}
def xLendT (T : DTT) : DTT := fun env R Rx => T (thaw env) R Rx
theorem w_lendT {T : DTT} {env : En} {R : Bool → Prop} {Rx : Er → Prop} : xLendT T env R Rx = T (thaw env) R Rx := rfl
theorem dt_lend {T : DTT} (h : DTe X E e T) : DTe X E e (xLendT T) := by
  obtain ⟨t, p, s⟩ := h
  refine ⟨t, p, fun c σ H S env R Rx x k t Q q => s _ σ H _ _ R Rx (x.lend k) k.lend t Q fun b H1 S1 k1 s1 r1 => ?_⟩
  obtain ⟨k2, s2⟩ := k.unlend k1.kf
  exact q b H1 _ k2 s2 r1
def xLend (T : DT) : DT := fun env R Rx => T (thaw env) (fun d => d.flat = true ∧ R d) Rx
theorem w_lend {T : DT} {env : En} {R : D → Prop} {Rx : Er → Prop} : xLend T env R Rx = T (thaw env) (fun d => d.flat = true ∧ R d) Rx := rfl
def xLendN (T : DT) : DT := fun env R Rx => T (thaw env) R Rx
theorem w_lendN {T : DT} {env : En} {R : D → Prop} {Rx : Er → Prop} : xLendN T env R Rx = T (thaw env) R Rx := rfl
end
end DL
namespace DL
open PySem PySem.Spec L2 PyProof.Rows
variable [TbC]
def xEnumS (Tl : DTA) : DTI := fun env R Rx => Tl env (fun ds => match ds with
  | [.str s] => R (nums 0 (signs s))
  | _ => False) Rx
section
variable {X : Cx} {E : XK} {p pos : Pos} {a : Expr} {Tl : DTA}
theorem w_enumS {env : En} {R : List D → Prop} {Rx : Er → Prop} : xEnumS Tl env R Rx = Tl env (fun ds => match ds with
  | [.str s] => R (nums 0 (signs s))
  | _ => False) Rx := rfl
end
end DL
namespace DL
open PySem PySem.Spec L2
variable [TbC]
section
variable {X : Cx} {E : XK} {pos p1 : Pos} {a : Expr} {T : DTF}
def zParN (i j l : Nat) (T : DTF) : DTS := fun Q env => T env (fun ds => ∃ d, env[l]? = some (some (.val d)) ∧ Q.nx (put j d (putO' i ds env))) Q.ex
theorem w_zParN {i j l : Nat} {Q : DEnds} {env : En} : zParN i j l T Q env = T env (fun ds => ∃ d, env[l]? = some (some (.val d)) ∧ Q.nx (put j d (putO' i ds env))) Q.ex := rfl
end
end DL
namespace EXS
open PySem PySem.Spec L2 PyProof.Rows
section
open PySem.W
variable {prog : Program} {w : World} {A : Around} {E : Value → Shared → Prop} {h : Heap} {g : Array GenState} {d : Drawn} {t : Nat} {os : OsState}
variable {nm q : Str} {C N : Addr} {bs bm : List Value} {hdct : Bool} {sn : List Str} {sub : List Value} {ab : Bool} {col : Option Bool} {dd : Option Addr} {k0 k1 k2 k3 k5 : Option Value} {newId : String}
theorem call_mw {B i : String} {bmB : List Value} (F : ExcBaseFacts B newId i bmB) {u e t0 : Addr} {rest : List Value} {Q : Value → Shared → Prop}
    (hC : h.get? C = some (excClassObj nm q C N bs bm hdct sn sub ab col dd k0 k1 k2 k3 k5 newId)) (he : h.get? e = some (PySem.HandSPX.excO C t0)) (hu : h.get? u = some (PySem.W.kxs_mw i e)) (hrest : rest.length ≤ sizeLine)
    (hq : ∀ h' t1, (∀ b o, b ≠ e → h.get? b = some o → h'.get? b = some o) → h'.get? e = some (PySem.HandSPX.excO C t1) → Q .none ⟨h', g, d, t, os⟩) :
    wpAny (model prog w) A (call (.ref u) rest) Q E ⟨h, g, d, t, os⟩ := by
  refine wpAny_call (codeAny_of_tree ?_)
  show wpAny _ A.in1 (callAny (.ref u) ⟨rest, []⟩) _ _ _
  simp only [callAny]
  refine wpAny_bind (wpAny_load hu ?_)
  simp only [PySem.W.kxs_mw, show (Value.type "method-wrapper" == Value.type "method" || Value.type "method-wrapper" == Value.type "builtin_function_or_method" || Value.type "method-wrapper" == Value.type "method-wrapper") = true by decide, if_true]
  refine PySem.W.KFB.if_so (by decide) ?_
  refine wpAny_bind (PySem.W.check_bound_init F.toExcCallFacts hC he rfl ?_)
  refine wpAny_bind (wpAny_pure (wpAny_pure ?_))
  refine ⟨by first | exact plainId_quiet F.init.plain _ | exact PySem.plainId_quiet F.init.plain _ | exact PySem.Calls.plainId_quiet F.init.plain _, codeAny_builtin F.initEntry ?_⟩
  rw [Around.under_plainId F.init.plain _]
  wp_walk
  refine hq _ h.objs.size (fun b o hb ho => ?_) ?_
  · rw [Heap.get?_update_other _ _ (Ne.symm hb)]
    exact Heap.get?_push_of_some _ ho
  · rw [Heap.get?_update_self _ (Heap.get?_push_of_some _ he) rfl]
    rfl
end
/-- the context of its body -/
def cxC (CX : CXT) (P : Program) (w : World) (K : PySem.W.Frag) (mg : Str → Option Value) (base : Heap) (N : List Str) (qual : Str) (scope : Scope) (f cc : Addr) (cd : Value) (A : Around) (outer : List Env) (s : Shared) (H : Hp) (E : XK) : Cx where
  prog := P
  w := w
  K := K
  mg := mg
  base := base
  A := A.deeper (PySem.W.ksEnv qual scope s.heap.objs.size f cd cc)
  N := N
  s_0 := s
  H_0 := H
  env := PySem.W.ksEnv qual scope s.heap.objs.size f cd cc
  outer := outer
  stack := PySem.W.ksEnv qual scope s.heap.objs.size f cd cc :: outer
  ex := []
  calm := true
  fn := fun x => !decide (x = "__class__")
  pn := []
  xe := fun e s' => wpAny (model P w) (A.deeper (PySem.W.ksEnv qual scope s.heap.objs.size f cd cc)) (leaving (PySem.W.ksEnv qual scope s.heap.objs.size f cd cc) e) (fun _ s'' => CX outer H s E e s'') (fun e' s'' => CX outer H s E e' s'') s'
/-- its names: parameters local, no cell of its own, of outer names only __class__ -/
structure SScope (N P : List Str) (sc : Scope) : Prop where
  kind : sc.kind = .function
  co : sc.isCoroutine = false
  gen : sc.isGenerator = false
  nd : N.Nodup
  pre : N.take P.length = P
  par : ∀ x ∈ P, sc.names.lookup x = some .local
  nocell : ∀ y ∈ sc.names, y.2 ≠ .cell
  free : ∀ y ∈ sc.names, y.2 = .free → y.1 = "__class__"
  sup : sc.names.lookup ("super" : Str) = some .globalImplicit
  cls : sc.names.lookup ("__class__" : Str) = some .free
theorem lookup_rev : ∀ {ps : List Str} {us : List Value} {i : Nat} {y : Str} {u : Value}, ps.Nodup → ps[i]? = some y → us[i]? = some u → (ps.zip us).reverse.lookup y = some u
  | [], _, _, _, _, _, h, _ => by simp at h
  | p :: ps, [], i, _, _, _, _, h => by simp at h
  | p :: ps, u0 :: us, 0, y, u, nd, h1, h2 => by
    simp at h1 h2
    subst h1
    subst h2
    rw [List.zip_cons_cons, List.reverse_cons, List.lookup_append]
    have hn : (ps.zip us).reverse.lookup p = none := by
      rw [List.lookup_eq_none_iff]
      intro q hq
      have hq2 := (List.of_mem_zip (List.mem_reverse.mp hq)).1
      have : p ∉ ps := (List.nodup_cons.mp nd).1
      simp
      exact fun z => this (z ▸ hq2)
    rw [hn]
    simp
  | p :: ps, u0 :: us, i + 1, y, u, nd, h1, h2 => by
    rw [List.zip_cons_cons, List.reverse_cons, List.lookup_append, lookup_rev (List.nodup_cons.mp nd).2 (by simpa using h1) (by simpa using h2)]
    rfl
theorem cell_of {K : PySem.W.Frag} {cc Cd : Addr} {h : Heap} (X : K.In h) (e : ∃ cl cld csl, K.lookup cc = some ⟨cl, cld, .cell (some (.ref Cd)), csl⟩) : h.IsCell cc (some (.ref Cd)) := by
  obtain ⟨cl, cld, csl, e⟩ := e
  exact ⟨_, X _ _ e, rfl⟩
theorem inv_startC {CX : CXT} {P : Program} {w : World} {K : PySem.W.Frag} {mg : Str → Option Value} {base : Heap} {N ps : List Str} {qual : Str} {scope : Scope} {f cc Cd : Addr} {cd : Value} {A : Around} {outer : List Env} {s : Shared} {h₁ : Heap} {tk : Nat} {H : Hp} {E : XK} {us : List Value} {vs : List V}
    (S : SScope N ps scope) (hd : A.handled = none) (e0 : Env0 P w K mg base A outer s H) (hl : vs.length = ps.length) (r : Vals vs us) (hcc : ∃ cl cld csl, K.lookup cc = some ⟨cl, cld, .cell (some (.ref Cd)), csl⟩)
    (hns : h₁.Ns s.heap.objs.size fun y => (ps.zip us).reverse.lookup y) (kp : ∀ b o, s.heap.get? b = some o → h₁.get? b = some o) :
    Inv (cxC CX P w K mg base N qual scope f cc cd A outer s H E) [] (L2.start N vs) H { s with heap := h₁, toks := tk } := by
  have hpl : ps.length ≤ N.length := by have := congrArg List.length S.pre; rw [List.length_take] at this; omega
  have noA : ∀ b : Addr, b ∉ (cxC CX P w K mg base N qual scope f cc cd A outer s H E).ex := fun b z => absurd (show b ∈ ([] : List Addr) from z) (by simp)
  have look : ∀ {y c}, ([(("__class__" : Str), cc)] : List (Str × Addr)).lookup y = some c → y = "__class__" ∧ c = cc := fun {y c} e => by
    simp only [List.lookup] at e
    split at e
    · rename_i q
      cases e
      exact ⟨by simpa using q, rfl⟩
    · cases e
  have X : K.In s.heap := e0.mod.kin.keeps fun b o e => (e0.bs b o e).1
  have Xb : K.In base := e0.mod.kin
  have hcn : H cc = none := by
    obtain ⟨cl, cld, csl, e⟩ := hcc
    exact (e0.bs cc _ (Xb _ _ e)).2
  refine ⟨⟨e0.mod, S.kind, rfl, rfl, Nat.le_refl _, fun y z c h1 h2 => ?_, fun y hy => ?_, fun y c z h => ?_, fun _ => hd, Around.frames_deeper e0.frames, .inr ⟨rfl, rfl⟩, fun b z => absurd z (noA b), e0.bs, e0.bsz, fun b _ _ => noA b, fun b z => absurd z (noA b), e0.funs, e0.frf⟩,
    rfl, e0.bare, Un.kept kp, ⟨_, hns, fun i y v h1 h2 h3 => ?_⟩, fun y c h => ?_, e0.hok.fresh (Nat.le_refl _), fun y c h => ?_, fun p hp => absurd (show p ∈ ([] : List (Addr × Obj)) from hp) (by simp), e0.hok.kept kp, ?_⟩
  · exact (look h1).1.trans (look h2).1.symm
  · have hy : scope.names.lookup y = some .cell ∨ scope.names.lookup y = some .free := hy
    rcases hy with hy | hy
    · exact absurd rfl (S.nocell _ (PySem.mem_of_lookup hy))
    · have e := S.free _ (PySem.mem_of_lookup hy) rfl
      have e : y = "__class__" := e
      subst e
      exact ⟨cc, rfl⟩
  · have e := (look h).1
    subst e
    exact nomatch (show (!decide (("__class__" : Str) = "__class__")) = true from z)
  · have hi : i < vs.length := by
      unfold L2.start at h2
      by_cases hi : i < vs.length
      · exact hi
      · rw [List.getElem?_append_right (by simpa using hi)] at h2
        rw [List.getElem?_replicate] at h2
        split at h2 <;> cases h2
    have ha : vs[i]? = some v := by
      unfold L2.start at h2
      rw [List.getElem?_append_left (by simpa using hi), List.getElem?_map] at h2
      cases e : vs[i]? with
      | none => rw [e] at h2; cases h2
      | some a => rw [e] at h2; cases h2; rfl
    obtain ⟨u, hu, rv⟩ := r.get ha
    have hp : ps[i]? = some y := by
      rw [← S.pre, List.getElem?_take_of_lt (by omega)]; exact h1
    have ndP : ps.Nodup := by rw [← S.pre]; exact S.nd.sublist (List.take_sublist _ _)
    exact ⟨u, rv, .inl ⟨S.par y (List.mem_of_getElem? hp), lookup_rev ndP hp hu⟩⟩
  · obtain ⟨e1, e2⟩ := look h
    subst e2
    obtain ⟨o, ho, hdd⟩ := cell_of X hcc
    exact ⟨_, _, kp _ _ ho, hdd⟩
  · obtain ⟨e1, e2⟩ := look h
    rw [e2]
    exact hcn
  · unfold L2.start
    show _ = N.length
    rw [List.length_append, List.length_map, List.length_replicate]
    omega
end EXS
namespace EXS
open PySem PySem.Spec L2 PyProof.Rows
section
variable {X : Cx} {pins : List (Addr × Obj)} {σ : List (Option V)} {H : Hp} {s : Shared}
theorem at_super {body : List Stmt} {qual : Str} {scope : Scope} {L f cc cda D x C : Addr} {p0 p1 : Pos} {attr : Str} {whole : Sem Value} {fd : FuncData} {ar : Arg} {vs : Array Value} {file : Str} {tf : Tok} {oc ccl cl : Value} {od cdd cld : Option Addr} {osl ccs csl : Array (Option Value)} {cdD : ClassData} {ox : Obj} {Q : Value → Shared → Prop} {E : Value → Shared → Prop}
    (I : Inv X pins σ H s) (heq : X.env = PySem.W.ksEnv qual scope L f (.ref cda) cc)
    (hf : X.K.lookup f = some ⟨oc, od, .func fd, osl⟩) (hp : (fd.params.posonlyargs ++ fd.params.args).head? = some ar)
    (hcode : X.K.lookup cda = some ⟨ccl, cdd, .fields vs, ccs⟩) (hvs : vs[2]? = some (.str file tf)) (hfile : ((X.prog.main.file : Str) == file) = true)
    (hcell : X.K.lookup cc = some ⟨cl, cld, .cell (some (.ref D)), csl⟩) (hD : PySem.W.clsIn X.K D = some cdD) (hsub : PySem.W.mroIn X.K C (.ref D) = some true) (hsuper : X.mg "super" = none)
    (hat : (attr == ("__class__" : Str)) = false) (hks : scope.names.lookup ("super" : Str) = some .globalImplicit) (hkc : scope.names.lookup ("__class__" : Str) = some .free) (hka : scope.names.lookup ar.arg = some .local)
    (htop : (X.prog.main.scope.names.lookup ("super" : Str)).isSome = false)
    (hv : ∃ i : Nat, X.N[i]? = some ar.arg ∧ σ[i]? = some (some (V.ref x))) (hx : s.heap.get? x = some ox) (hxc : ox.cls = .ref C) (hnc : ∀ c, ox.data ≠ .cls c)
    (h : ∀ h', h'.get? s.heap.objs.size = some (PySem.W.ks_superObj D x C) → (∀ b o, s.heap.get? b = some o → h'.get? b = some o) → Q (.ref s.heap.objs.size) { s with heap := h' }) :
    PySem.wpAt (model X.prog X.w) X.A (.func body X.env) (attributeBase (.Call (.Name "super" p0) [] [] p1) attr X.env whole) Q E s := by
  have XK : X.K.In s.heap := I.kIn
  have hk : X.env.scope.kind = .function := I.ok.kind
  have hk2 : scope.kind = .function := by rw [heq] at hk; exact hk
  obtain ⟨m, hns, hlk⟩ := I.loc
  obtain ⟨i, hN, hσ⟩ := hv
  have hval : m ar.arg = some (.ref x) := by
    obtain ⟨u, ru, lu⟩ := hlk i _ _ hN hσ (.inl (by rw [heq]; exact hka))
    obtain rfl : u = Value.ref x := ru
    rcases lu with ⟨_, e⟩ | ⟨e, _⟩
    · exact e
    · rw [heq] at e
      have e : scope.names.lookup ar.arg = some .cell ∨ scope.names.lookup ar.arg = some .free := e
      rw [hka] at e
      rcases e with e | e <;> cases e
  obtain ⟨mb, hb1, hb2⟩ := I.mod.blt
  obtain ⟨oD, hD1, hD2⟩ : ∃ oD, s.heap.get? D = some oD ∧ oD.data = .cls cdD := by
    unfold PySem.W.clsIn at hD
    split at hD
    · rename_i c d cd' sl ho
      cases hD
      exact ⟨_, XK _ _ ho, rfl⟩
    · cases hD
  have hglob := I.ok.glob
  have hblt := I.ok.blt
  have g1 : s.heap.Ns X.env.globals X.mg := by rw [hglob]; exact I.mod.glob.keeps I.bk
  have g2 : s.heap.Ns X.env.builtins mb := by rw [hblt]; exact hb1.keeps I.bk
  rw [heq] at hns g1 g2 ⊢
  obtain ⟨hh, g, d, t, os⟩ := s
  refine PySem.ks_wpAt_super_base (env := PySem.W.ksEnv qual scope L f (.ref cda) cc) hks hkc hat rfl (XK _ _ hf) rfl hp rfl (XK _ _ hcode) rfl hvs hfile htop ?_
  refine PySem.W.ks_loadName_global hk2 hks (PySem.Calls.loadGlobal_builtin g1 hsuper g2 ((hb2 _ (by decide)).trans (show bootBuiltins "super" = some (.type "super") by first | boot_by_name | rfl | kernel_rfl)) ⟨rfl, ?_⟩)
  refine PySem.wpAny_loadName_free hk2 hkc rfl ⟨_, XK _ _ hcell, rfl⟩ ?_
  refine PySem.wpAny_loadName_local hk2 hka hns hval ?_
  refine PySem.ks_wpAny_isType_cls hD1 hD2 ⟨rfl, ?_⟩
  exact PySem.ks_wpAny_call_super hD1 hD2 hx hxc hnc (PySem.W.looks_mroIn XK hsub) (fun h' e k => h h' e k)
end
end EXS
namespace EXS
open PySem PySem.Spec L2 PyProof.Rows
structure SupFn (K : PySem.W.Frag) (fl : Str) (name qual : Str) (params : Arguments) (body : List Stmt) (scope : Scope) (D : Addr) (f cc cda : Addr) (fd : FuncData) : Prop where
  ex : ∃ (oc ccl cl dV kV doc pm ct : Value) (an od cdd cld : Option Addr) (osl ccs csl : Array (Option Value)) (vs : Array Value) (file : Str) (tf : Tok) (cdD : ClassData),
    fd = PySem.W.ksFn name qual params body scope dV kV doc pm an (.ref cda) ct cc ∧ K.lookup f = some ⟨oc, od, .func fd, osl⟩ ∧ PySem.W.codeIn K (.ref cda) qual = true ∧
    K.lookup cda = some ⟨ccl, cdd, .fields vs, ccs⟩ ∧ vs[2]? = some (.str file tf) ∧ (fl == file) = true ∧ K.lookup cc = some ⟨cl, cld, .cell (some (.ref D)), csl⟩ ∧ PySem.W.clsIn K D = some cdD ∧ dV = .none
  keep : PySem.W.keepIn K (.ref f) = true
/-- what it says of the class D whose __init__ this is: an exception over ValueError -/
structure ExcD (K : PySem.W.Frag) (D : Addr) : Prop where
  ox : OexC K D
  st : PySem.W.nsIn K PySem.cStatics "thirdparty.any" = some none
  su : PySem.W.ks_superIn K D D "__init__" = some (some (.builtin "ValueError.__init__"))
  mr : PySem.W.mroIn K D (.ref D) = some true
  ve : PySem.W.subIn K (.ref D) (.type "ValueError") = some true
section
variable {CX : CXT} {P : Program} {w : World} {K : PySem.W.Frag} {mg : Str → Option Value} {base : Heap} {k : Nat} {name qual : Str} {params : Arguments} {rest : List Stmt} {scope : Scope} {D f cc cda : Addr} {fd : FuncData} {N ps : List Str} {sp : Sp} {e : Expr} {es : List Expr} {p0 p1 p2 p3 p4 : Pos} {x0 : Str} {ar : Arg}
theorem fn_exc (F : SupFn K P.main.file name qual params (.Expr (.Call (.Attribute (.Call (.Name "super" p0) [] [] p1) "__init__" p2) (e :: es) [] p3) p4 :: rest) scope D f cc cda fd) (G : ExcD K D) (S : SScope N ps scope)
    (hsup : mg "super" = none) (htop : (P.main.scope.names.lookup ("super" : Str)).isSome = false) (hps : ps.head? = some x0) (hN : N[0]? = some x0) (hp : (params.posonlyargs ++ params.args).head? = some ar) (hx0 : ar.arg = x0)
    (len : ∀ vs H Q E, sp vs H Q E → vs.length = ps.length)
    (hobj : ∀ vs H Q E, sp vs H Q E → ∃ a ws, vs = .ref a :: ws ∧ H a = some (exo a D none))
    (hbody : ∀ (A : Around) (outer : List Env) (s : Shared) (H : Hp) (vs : List V) (Q : VK) (E : XK) (a : Addr) (ws : List V), Room k (A.deeper (PySem.W.ksEnv qual scope s.heap.objs.size f (.ref cda) cc)) → sp vs H Q E → vs = .ref a :: ws →
      ∃ ta t, PA (cxC CX P w K mg base N qual scope f cc (.ref cda) A outer s H E) (e :: es) ta ∧ PSs (cxC CX P w K mg base N qual scope f cc (.ref cda) A outer s H E) rest t ∧
        ta (L2.start N vs) H fun us H1 => us.length ≤ 1000 ∧ H1 a = some (exo a D none) ∧ t { nx := fun _ H' => Q .non H', rt := Q } (L2.start N vs) H1)
    (he : ∀ env, starEach (e :: es) env = (false, eval e env) :: starEach es env) (hpl : ∀ env, (backTo p3 (starEach es env)).any (·.1) = false) {pl : Env → Sem Bool}
    (hcl : ∀ env, eval (.Call (.Attribute (.Call (.Name "super" p0) [] [] p1) "__init__" p2) (e :: es) [] p3) env = (do
      let ov ← attributeBase (.Call (.Name "super" p0) [] [] p1) "__init__" env (eval (.Call (.Name "super" p0) [] [] p1) env)
      standAt p2.atName
      let (f, first) ← holding [ov] (getMethod ov "__init__" (pl env))
      callWith p3 f first (backTo p3 (starEach (e :: es) env)) [])) :
    FnOk P w K mg base CX (k + 1) f fd ps sp := by
  refine ⟨len, fun A outer s H args us vs Q E hr e0 hb r hsp => ?_⟩
  obtain ⟨oc, ccl, cl, dV, kV, doc, pm, ct, an, od, cdd, cld, osl, ccs, csl, vs2, file, tf, cdD, hfd, lk, hcd, lcd, hvs, hfile, lcc, hcD, _⟩ := F.ex
  have hl := len _ _ _ _ hsp
  have KX : K.In s.heap := e0.mod.kin.keeps fun b o e => (e0.bs b o e).1
  have lim : s.heap.NoLimit := e0.mod.nolimit.keeps fun b o e => (e0.bs b o e).1
  obtain ⟨a, ws, hvs0, hHa⟩ := hobj _ _ _ _ hsp
  subst hfd
  refine PySem.ks_codeAny_call_defAt (fd := PySem.W.ksFn name qual params _ scope dV kV doc pm an (.ref cda) ct cc) hr.depth (KX _ _ lk) rfl lim (PySem.W.codeRec_of KX hcd) rfl hb S.nocell (fun x hx => S.par x.1 (List.of_mem_zip hx).1) (fun h1 hns kp => ?_) S.co S.gen S.kind
  show PySem.wpAt (model P w) (A.deeper (PySem.W.ksEnv qual scope s.heap.objs.size f (.ref cda) cc)) _ _ _ _ _
  obtain ⟨ta, t, hPA, hPSs, hq⟩ := hbody A outer s H vs Q E a ws (hr.deeper _) hsp hvs0
  generalize hX : cxC CX P w K mg base N qual scope f cc (.ref cda) A outer s H E = X at hPA hPSs
  have I : Inv X [] (L2.start N vs) H { s with heap := h1, toks := s.toks + (ps.zip us).length } := by
    rw [← hX]
    exact inv_startC S hr.hd e0 hl r ⟨_, _, _, lcc⟩ hns kp
  have hXp : X.prog = P := by rw [← hX]; rfl
  have hXw : X.w = w := by rw [← hX]; rfl
  have hXK : X.K = K := by rw [← hX]; rfl
  have hXmg : X.mg = mg := by rw [← hX]; rfl
  have hXA : X.A = A.deeper (PySem.W.ksEnv qual scope s.heap.objs.size f (.ref cda) cc) := by rw [← hX]; rfl
  have hXe : X.env = PySem.W.ksEnv qual scope s.heap.objs.size f (.ref cda) cc := by rw [← hX]; rfl
  have hXN : X.N = N := by rw [← hX]; rfl
  have hXxe : X.xe = fun e s' => wpAny (model P w) (A.deeper (PySem.W.ksEnv qual scope s.heap.objs.size f (.ref cda) cc)) (leaving (PySem.W.ksEnv qual scope s.heap.objs.size f (.ref cda) cc) e) (fun _ s'' => CX outer H s E e s'') (fun e' s'' => CX outer H s E e' s'') s' := by rw [← hX]; rfl
  have oX : OexC X.K D := by rw [hXK]; exact G.ox
  have fin : ∀ {σ' : L2.St} {H' : Hp} {v : V} {u : Value} {s' : Shared}, Inv X [] σ' H' s' → RelV v u → Q v H' → CE outer P w H s Q u s' := by
    intro σ' H' v u s' J rv q
    subst hX
    exact ⟨v, H', J.os, J.bare, J.base, J.hok, rv, q⟩
  have go : PySem.wpAt (model X.prog X.w) X.A (.func (.Expr (.Call (.Attribute (.Call (.Name "super" p0) [] [] p1) "__init__" p2) (e :: es) [] p3) p4 :: rest) X.env) (execs (.Expr (.Call (.Attribute (.Call (.Name "super" p0) [] [] p1) "__init__" p2) (e :: es) [] p3) p4 :: rest) X.env)
      (SP X [] { nx := fun _ H' => Q .non H', rt := Q }) X.xe { s with heap := h1, toks := s.toks + (ps.zip us).length } := by
    have hint : interactive X.env = false := I.quiet
    refine PySem.ks_wpAt_execs_cons (PySem.ks_wpAt_Expr_any (PySem.ks_wpAt_MethodCall (pl := pl X.env) ?_ (hcl X.env)) hint)
    obtain ⟨t1, hex⟩ := exo_at I.hok hHa
    have hps0 : (0 : Nat) < ps.length := by cases ps with | nil => cases hps | cons _ _ => exact Nat.zero_lt_succ _
    have hxin : x0 ∈ ps := by cases ps with | nil => cases hps | cons z _ => cases (Option.some.inj hps); exact List.mem_cons_self
    refine at_super (D := D) (x := a) (C := D) I hXe (by rw [hXK]; exact lk) hp (by rw [hXK]; exact lcd) hvs (by rw [hXp]; exact hfile) (by rw [hXK]; exact lcc) (by rw [hXK]; exact hcD) (by rw [hXK]; exact G.mr) (by rw [hXmg]; exact hsup) (by decide) S.sup S.cls (by rw [hx0]; exact S.par x0 hxin) (by rw [hXp]; exact htop)
      ⟨0, by rw [hXN, hx0]; cases N with | nil => cases hN | cons z _ => exact hN, by rw [hvs0]; rfl⟩ hex rfl (fun c z => by cases z) (fun h2 so k2 => ?_)
    -- the wrapper
    have I2 : Inv X [] (L2.start N vs) H { s with heap := h2, toks := s.toks + (ps.zip us).length } := I.kept (t' := s.toks + (ps.zip us).length) k2
    have XK2 : X.K.In h2 := I2.kIn
    have hexo := k2 _ _ hex
    have hsu : PySem.W.ks_superIn X.K D D "__init__" = some (some (.builtin "ValueError.__init__")) := by rw [hXK]; exact G.su
    cases hc : PySem.W.clsIn X.K D with
    | none => unfold PySem.W.ks_superIn at hsu; rw [hc] at hsu; cases hsu
    | some cd =>
    unfold PySem.W.ks_superIn at hsu
    rw [hc] at hsu
    have hse : ∀ (u : Addr) (o : Obj), h2.get? u = some o → u ≠ h2.objs.size := fun u o z => Nat.ne_of_lt (Heap.lt_size z)
    have haD : a ≠ D := by
      intro z
      unfold PySem.W.clsIn at hc
      split at hc
      · rename_i c d cd' sl ho
        have q := XK2 _ _ ho
        rw [← z, hexo] at q
        cases q
      · cases hc
    have hty : PySem.W.Looks (model X.prog X.w) h2 (isInstance (.ref a) (.type "ValueError")) true := by
      have II : PySem.W.InstAt h2 a _ D none := ⟨hexo, rfl, rfl, trivial⟩
      exact II.type.andThen (PySem.W.looks_subIn XK2 (by rw [hXK]; exact G.ve))
    refine PySem.W.kxs_getMethod PySem.W.kxs_ValueError (l₀ := cd.mro) so (PySem.W.looks_opaque XK2 (by rw [hXK]; exact G.st)) ?_ rfl XK2 hsu hty haD (by decide) ?_
    · exact fun A Q E s k q => wpAny_bind ((PySem.W.looks_clsIn XK2 hc) A _ E s k (wpAny_pure q))
    have hmw : (h2.push (PySem.W.kxs_mw "ValueError.__init__" a)).get? h2.objs.size = some (PySem.W.kxs_mw "ValueError.__init__" a) := Heap.get?_push_at rfl rfl
    have I3 : Inv X [] (L2.start N vs) H { s with heap := h2.push (PySem.W.kxs_mw "ValueError.__init__" a), toks := s.toks + (ps.zip us).length + 1 } := I2.kept (t' := s.toks + (ps.zip us).length + 1) (fun b u z => Heap.get?_push_of_some _ z)
    have hHn : H h2.objs.size = none := I2.hok.fresh (Nat.le_refl _)
    have I4 : Inv X [(h2.objs.size, PySem.W.kxs_mw "ValueError.__init__" a)] (L2.start N vs) H { s with heap := h2.push (PySem.W.kxs_mw "ValueError.__init__" a), toks := s.toks + (ps.zip us).length + 1 } := by
      refine I3.pins_of fun p hp => ?_
      cases hp with
      | tail _ z => cases z
      | head =>
      refine ⟨hmw, hHn, fun z => ?_, I2.nofs (Nat.le_refl _), fun v z => by cases z⟩
      have := I2.lt
      rw [← z] at this
      exact absurd this (Nat.lt_irrefl _)
    rw [he X.env]
    refine PySem.W.kxs_callWith (i := "ValueError.__init__") (x := a) (by show (false || (backTo p3 (starEach es X.env)).any (·.1)) = false; rw [hpl]; rfl) (PySem.Calls.evalArgs_plain ?_)
    have h5 := hPA.run p3 _ _ _ H _ I4 hq
    rw [he X.env] at h5
    refine thn h5 fun us2 s5 ⟨vs5, H5, I5, r5, hz5, ea5, q5⟩ => ?_
    have hmw5 : s5.heap.get? h2.objs.size = some (PySem.W.kxs_mw "ValueError.__init__" a) := (I5.pin _ (List.mem_append_right _ List.mem_cons_self)).1
    refine ⟨hmw5, ?_⟩
    obtain ⟨nm, qq, N1, bs, bm, sn, sub, ab, col, dd, k0, k1, k22, k3, k5, hC, hbm⟩ := oX.cls
    obtain ⟨t5, hex5⟩ := exo_at I5.hok ea5
    obtain ⟨hp5, g5, d5, tk5, os5⟩ := s5
    have hlen : us2.length ≤ sizeLine := by
      rw [← Paired.length r5, sizeLine_eq]
      omega
    refine call_mw PySem.F.excBase_ValueError (I5.kIn _ _ hC) hex5 hmw5 hlen fun h6 t6 k6 hx6 => ?_
    have J := I5.write (t' := tk5) (x := a) (e := a) (o := exo a D none) (by rw [ea5]; exact True.intro) (.inl rfl) k6 ⟨_, hx6⟩ (exo_ok hx6)
    have eu : upd H5 a (exo a D none) = H5 := by
      funext b
      by_cases hb : b = a
      · rw [hb, upd_same, ea5]
      · rw [upd_ne hb]
    rw [eu] at J
    exact wpAt_of_wpAny (hPSs.run [] _ _ H5 _ (J.pins_of fun p hp => by cases hp) q5)
  rw [hXp, hXw, hXA, hXxe, hXe] at go
  refine PySem.ks_wpAt_mono go (fun fl s' hs => ?_) fun e s' z => z
  cases fl with
  | ret u =>
    obtain ⟨v, σ', H', J, rv, q⟩ := hs
    exact fin J rv q
  | next =>
    obtain ⟨σ', H', J, q⟩ := hs
    exact fin (v := V.non) (u := Value.none) J rfl q
  | brk =>
    obtain ⟨_, _, _, q⟩ := hs
    exact False.elim q
  | cont =>
    obtain ⟨_, _, _, q⟩ := hs
    exact False.elim q
end
end EXS
namespace L2
open PySem PySem.Spec PyProof.Rows
theorem _root_.PySem.HandSPX.FlyingZ.keeps {base h h' : Heap} {l : List Env} {e : Addr} {Z : Obj → Prop} (f : HandSPX.FlyingZ base l e Z h) (k : ∀ b o, h.get? b = some o → h'.get? b = some o) : HandSPX.FlyingZ base l e Z h' := by
  obtain ⟨f1, f2, f3, oe, vs, T, oT, ts, e1, e2, e3, e4, e5, e6, e7, e8, e9⟩ := f
  exact ⟨fun b o z => k b o (f1 b o z), f2, Heap.FunFrames.of_keeps (fun b o z _ => ⟨o, k b o z, rfl⟩) f3, oe, vs, T, oT, ts, k _ _ e1, e2, e3, e4, e5, e6, k _ _ e7, e8, e9⟩
section
end
end L2
namespace DL
open PySem PySem.Spec L2
variable [TbC]
/-- what a field is set to: a text, a parameter (behind self) -/
inductive Src where
  | str (s : Str) | par (i : Nat)
def Src.v (ws : List V) : Src → V
  | .str s => .str s
  | .par i => ws[i]?.getD .non
def Src.d (ds : List D) : Src → D
  | .str s => .str s
  | .par i => ds[i]?.getD .non
def Src.t : Src → TE
  | .str s => tC (.str s)
  | .par i => tVar (i + 1)
def Src.fits (n : Nat) : Src → Bool
  | .str _ => true
  | .par i => decide (i < n)
abbrev FL := List (Str × Src)
def fsV (l : FL) (ws : List V) : List (Str × V) := (l.map fun p => (p.1, p.2.v ws)).reverse
def fsK (l : FL) : List Str := (l.map (·.1)).reverse
def fsD (l : FL) (ds : List D) : List D := (l.map fun p => p.2.d ds).reverse
def fsW (l : FL) (ws : List V) : List V := (l.map fun p => p.2.v ws).reverse
theorem zip_map2 {α β γ : Type} (f : α → β) (g : α → γ) : ∀ l : List α, (l.map f).zip (l.map g) = l.map fun a => (f a, g a)
  | [] => rfl
  | a :: l => by rw [List.map_cons, List.map_cons, List.zip_cons_cons, zip_map2 f g l, List.map_cons]
theorem fs_zip (l : FL) (ws : List V) : (fsK l).zip (fsW l ws) = fsV l ws := by
  unfold fsK fsW fsV
  rw [← List.map_reverse, ← List.map_reverse, ← List.map_reverse, zip_map2]
theorem fs_rep {B : Option Addr} {S : Hp} {ds : List D} {ws : List V} {n : Nat} (r : RepL B S ds ws) (hn : ds.length = n) : ∀ (l : FL), l.all (fun p => p.2.fits n) = true → RepL B S (l.map fun p => p.2.d ds) (l.map fun p => p.2.v ws)
  | [], _ => repL_nil
  | (f, s) :: l, h => by
    rw [List.all_cons, Bool.and_eq_true] at h
    refine repL_cons ?_ (fs_rep r hn l h.2)
    cases s with
    | str s => exact rfl
    | par i =>
      have hi : i < ds.length := by rw [hn]; exact of_decide_eq_true h.1
      obtain ⟨v, e, q⟩ := r.get (i := i) (d := ds[i]) (by simp [hi])
      show Rep B S (ds[i]?.getD .non) (ws[i]?.getD .non)
      rw [e, List.getElem?_eq_getElem hi]
      exact q
def tCh (K : PySem.W.Frag) : FL → TS
  | [] => tNext
  | p :: l => tSeq (tOst K p.1 (tVar 0) p.2.t) (tCh K l)
section
variable {K : PySem.W.Frag} {C a dx : Addr} {σ : St} {H : Hp} {ws : List V} {n : Nat} {fs : List (Str × V)} {D0 : Ends}
theorem src_run {s : Src} {Q : VK} (h0 : ∀ i, i < n → σ[i + 1]? = some (some (ws[i]?.getD .non))) (hs : s.fits n = true) (q : Q (s.v ws) H) : s.t σ H Q := by
  cases s with
  | str s => exact q
  | par i => exact ⟨_, h0 i (of_decide_eq_true hs), q⟩
theorem chain_go (ox : OexC K C) (e0 : σ[0]? = some (some (.ref a))) (h0 : ∀ i, i < n → σ[i + 1]? = some (some (ws[i]?.getD .non))) : ∀ (l : FL) (fs : List (Str × V)) (H : Hp), (∀ p ∈ l, PySem.W.findIn K (.ref C) p.1 = some none) → l.all (fun p => p.2.fits n) = true → fs.length + l.length ≤ 900 →
    H a = some (exo a C (some dx)) → H dx = some (exd dx fs) → dx ≠ a → D0.nx σ (upd H dx (exd dx (fsV l ws ++ fs))) → tCh K l D0 σ H
  | [], fs, H, _, _, _, ea, ed, ne, q => by
    show D0.nx σ H
    have : upd H dx (exd dx (fsV [] ws ++ fs)) = H := by
      funext b
      by_cases z : b = dx
      · subst z
        rw [upd_same, ed]
        rfl
      · rw [upd_ne z]
    rw [this] at q
    exact q
  | p :: l, fs, H, na, hf, hl, ea, ed, ne, q => by
    rw [List.all_cons, Bool.and_eq_true] at hf
    refine src_run h0 hf.1 ?_
    refine ⟨_, e0, a, C, rfl, ox, na p List.mem_cons_self, .inr ⟨dx, fs, ea, ed, by rw [List.length_cons] at hl; omega, ?_⟩⟩
    refine chain_go ox e0 h0 l ((p.1, p.2.v ws) :: fs) _ (fun r hr => na r (List.mem_cons_of_mem _ hr)) hf.2 (by rw [List.length_cons] at hl ⊢; omega) (by rw [upd_ne ne.symm]; exact ea) upd_same ne ?_
    rw [upd_upd]
    have e : fsV (p :: l) ws ++ fs = fsV l ws ++ (p.1, p.2.v ws) :: fs := by
      unfold fsV
      rw [List.map_cons, List.reverse_cons, List.append_assoc]
      rfl
    rw [e] at q
    exact q
theorem chain_start (ox : OexC K C) (e0 : σ[0]? = some (some (.ref a))) (h0 : ∀ i, i < n → σ[i + 1]? = some (some (ws[i]?.getD .non))) {p : Str × Src} {l : FL} (na : ∀ r ∈ p :: l, PySem.W.findIn K (.ref C) r.1 = some none) (hf : (p :: l).all (fun p => p.2.fits n) = true) (hl : (p :: l).length ≤ 900)
    (ea : H a = some (exo a C none)) (q : ∀ d, H d = none → d ≠ a → D0.nx σ (upd (upd H d (exd d (fsV (p :: l) ws))) a (exo a C (some d)))) : tCh K (p :: l) D0 σ H := by
  have hf' := hf
  rw [List.all_cons, Bool.and_eq_true] at hf'
  refine src_run h0 hf'.1 ?_
  refine ⟨_, e0, a, C, rfl, ox, na p List.mem_cons_self, .inl ⟨ea, fun d hd ne => ?_⟩⟩
  have h1 : upd (upd H d (exd d [(p.1, p.2.v ws)])) a (exo a C (some d)) d = some (exd d [(p.1, p.2.v ws)]) := by rw [upd_ne ne, upd_same]
  refine chain_go (dx := d) ox e0 h0 l [(p.1, p.2.v ws)] _ (fun r hr => na r (List.mem_cons_of_mem _ hr)) hf'.2 (by rw [List.length_cons] at hl; simp; omega) upd_same h1 ne ?_
  have e : fsV l ws ++ [(p.1, p.2.v ws)] = fsV (p :: l) ws := by
    unfold fsV
    rw [List.map_cons, List.reverse_cons]
  rw [e]
  have e2 : upd (upd (upd H d (exd d [(p.1, p.2.v ws)])) a (exo a C (some d))) d (exd d (fsV (p :: l) ws)) = upd (upd H d (exd d (fsV (p :: l) ws))) a (exo a C (some d)) := by
    funext b
    by_cases z : b = d
    · subst z
      rw [upd_same, upd_ne ne, upd_same]
    · rw [upd_ne z]
      by_cases y : b = a
      · subst y
        rw [upd_same, upd_same]
      · rw [upd_ne y, upd_ne z, upd_ne y, upd_ne z]
  rw [e2]
  exact q d hd ne
end
/-- the promise of such an __init__ -/
def spX (C : Addr) (n : Nat) (l : FL) : Sp := fun vs H Q _ => ∃ (a : Addr) (ws : List V), vs = .ref a :: ws ∧ ws.length = n ∧ H a = some (exo a C none) ∧ ∀ d, H d = none → d ≠ a → Q .non (upd (upd H d (exd d (fsV l ws))) a (exo a C (some d)))
section
variable {P : Program} {w : World} {K : PySem.W.Frag} {mg : Str → Option Value} {base : Heap} {k : Nat} {name qual : Str} {params : Arguments} {rest : List Stmt} {scope : Scope} {C f cc cda : Addr} {fd : FuncData} {N ps : List Str} {txt : Str} {kk : Nat} {p0 p1 p2 p3 p4 p5 : Pos} {x0 : Str} {ar : Arg} {n : Nat} {l : FL} {pf : Str × Src}
theorem fn_x (F : EXS.SupFn K P.main.file name qual params (.Expr (.Call (.Attribute (.Call (.Name "super" p0) [] [] p1) "__init__" p2) [.Constant (.str txt) kk p5] [] p3) p4 :: rest) scope C f cc cda fd) (G : EXS.ExcD K C) (S : EXS.SScope N ps scope)
    (hsup : mg "super" = none) (htop : (P.main.scope.names.lookup ("super" : Str)).isSome = false) (hps : ps.head? = some x0) (hN : N[0]? = some x0) (hp : (params.posonlyargs ++ params.args).head? = some ar) (hx0 : ar.arg = x0) (hn : ps.length = n + 1)
    (na : ∀ r ∈ pf :: l, PySem.W.findIn K (.ref C) r.1 = some none) (hf : (pf :: l).all (fun p => p.2.fits n) = true) (hl : (pf :: l).length ≤ 900)
    {pl : Env → Sem Bool} (hcl : ∀ env, eval (.Call (.Attribute (.Call (.Name "super" p0) [] [] p1) "__init__" p2) [.Constant (.str txt) kk p5] [] p3) env = (do
      let ov ← attributeBase (.Call (.Name "super" p0) [] [] p1) "__init__" env (eval (.Call (.Name "super" p0) [] [] p1) env)
      standAt p2.atName
      let (f, first) ← holding [ov] (getMethod ov "__init__" (pl env))
      callWith p3 f first (backTo p3 (starEach [.Constant (.str txt) kk p5] env)) []))
    (hbody : ∀ (A : Around) (outer : List Env) (s : Shared) (H : Hp) (E : XK), PSs (EXS.cxC (L2.CX P w) P w K mg base N qual scope f cc (.ref cda) A outer s H E) rest (tCh K (pf :: l))) :
    FnOk P w K mg base (L2.CX P w) (k + 1) f fd ps (spX C n (pf :: l)) := by
  refine EXS.fn_exc (hcl := hcl) F G S hsup htop hps hN hp hx0 (fun vs H Q E ⟨a, ws, e, hw, _⟩ => by rw [e, List.length_cons, hw, hn]) (fun vs H Q E ⟨a, ws, e, hw, ha, _⟩ => ⟨a, ws, e, ha⟩) (fun A outer s H vs Q E a ws hr hsp ev => ?_) (fun env => rfl) (fun env => rfl)
  · obtain ⟨a', ws', e', hw, ha, q⟩ := hsp
    rw [ev] at e'
    cases e'
    refine ⟨_, _, pa_cons pe_str pa_nil, hbody A outer s H E, ?_⟩
    refine ⟨Nat.le_of_ble_eq_true rfl, ha, ?_⟩
    rw [ev]
    refine chain_start (n := n) (ws := ws) G.ox rfl (fun i hi => ?_) na hf hl ha fun d hd ne => q d hd ne
    unfold L2.start
    have hi2 : i < ws.length := by rw [hw]; exact hi
    show ((V.ref a :: ws).map some ++ _)[i + 1]? = _
    rw [List.getElem?_append_left (by simp; omega), List.getElem?_map, List.getElem?_cons_succ, List.getElem?_eq_getElem hi2]
    rfl
end
section
variable {X : Cx} {E : XK} {CX : CXT} {x : Str} {C fI : Addr} {k n : Nat} {fd : FuncData} {ps : List Str} {l : FL} {e : Expr} {es : List Expr} {Tl : DTA} {p pos pos2 : Pos}
/-- raise of an exception of the class C with these fields -/
def zRaise (C : Addr) (n : Nat) (l : FL) (Tl : DTA) : DTS := fun Q env => Tl env (fun ds => ds.length = n ∧ Q.ex ⟨C, fsK l, fsD l ds⟩) Q.ex
theorem exo_gone {H1 : Hp} {a d : Addr} {C : Addr} {fs : List (Str × V)} (ha : H1 a = none) (ne : d ≠ a) : upd (del (upd (upd (upd H1 a (exo a C none)) d (exd d fs)) a (exo a C (some d))) a) d (.xd fs) = upd H1 d (.xd fs) := by
  funext b
  by_cases z : b = d
  · subst z
    rw [upd_same, upd_same]
  · rw [upd_ne z, upd_ne z]
    by_cases y : b = a
    · subst y
      rw [del_same, ha]
    · rw [del_ne y, upd_ne y, upd_ne z, upd_ne y]
theorem raise_end {c : Fm} {σ : St} {H S : Hp} {env : En} {Rx : Er → Prop} {vs : List V} {ds : List D} (hfit : l.all (fun p => p.2.fits n) = true) (x : XOk c E Rx) (k : Kn c σ H S env) (r : RepL c.B S ds vs) (hn : ds.length = n) (q : Rx ⟨C, fsK l, fsD l ds⟩) {a : Addr} (ha : H a = none) :
    spX C n l (.ref a :: (vs ++ [])) (upd H a (exo a C none)) (fun v H2 => v = .non ∧ ∃ (d : Addr) (fs : List (Str × V)), H2 a = some (exo a C (some d)) ∧ H2 d = some (exd d fs) ∧ H d = none ∧ E (.ref C) (some d) (upd (del H2 a) d (.xd fs))) (fun _ _ _ => False) := by
  rw [List.append_nil]
  refine ⟨a, vs, rfl, by rw [r.length]; exact hn, upd_same, fun d hd ne => ⟨rfl, d, fsV l vs, upd_same, by rw [upd_ne ne, upd_same], by rw [upd_ne ne] at hd; exact hd, ?_⟩⟩
  rw [upd_ne ne] at hd
  rw [exo_gone ha ne]
  have k2 := k.new0 (o := .xd (fsV l vs)) hd
  refine x ⟨C, fsK l, fsD l ds⟩ d (fsW l vs) _ S k2.kf (RepL.rev (fs_rep r hn l hfit)) ?_ ?_ (k.kf.h0_none hd) (k.kf.s_none hd) q
  · show (fsD l ds).length = (fsK l).length
    unfold fsD fsK
    rw [List.length_reverse, List.length_reverse, List.length_map, List.length_map]
  · show upd H d (.xd (fsV l vs)) d = some (.xd ((fsK l).zip (fsW l vs)))
    rw [upd_same, fs_zip]
theorem s_raise (T : OexC X.K C) (iC : PySem.W.findIn X.K (.ref C) "__init__" = some (some (.ref fI))) (tI : PySem.W.typeIn X.K (.ref fI) = some (.type "function")) (hfit : l.all (fun p => p.2.fits n) = true) (hn : n ≤ 900)
    (G : FnOk X.prog X.w X.K X.mg X.base CX k fI fd ps (spX C n l)) (hr : Room (k + 1) X.A) (hb : L2.Binds X.K fd ps []) (hx : Passes CX X (fun _ _ _ => False)) (hm : X.mg x = some (.ref C)) (hc : X.calm = true) (tk : Takes X (fun cls d _ H => E cls d H)) (ha : DA X E (e :: es) Tl)
    (hg : Gl X x := by rfl) (hdb : (x == ("__debug__" : Str)) = false := by decide) (he : starEach (e :: es) X.env = (false, eval e X.env) :: starEach es X.env := by rfl) (hpl : (backTo pos (starEach es X.env)).any (·.1) = false := by rfl) :
    DS X E (.Raise (some (.Call (.Name x p) (e :: es) [] pos)) none pos2) (zRaise C n l Tl) := by
  obtain ⟨t, pa, s⟩ := ha
  refine ⟨_, ps_raise hc tk (pmk_oex T iC tI G hr hb .nil hx hg hm pa hdb he hpl), fun c σ H S env Q x k t1 D m => s c σ H S env _ _ x k t1 _ fun vs H1 S1 ds k1 s1 r1 t2 => ⟨by rw [r1.length, t2.1]; omega, fun a ha => ?_⟩⟩
  exact raise_end hfit x k1 r1 t2.1 t2.2 ha
end
end DL
namespace DL
open PySem PySem.Spec L2 PyProof.Rows LamX
variable [TbC]
section
variable {X : Cx} {pins : List (Addr × Obj)} {σ : List (Option V)} {H : Hp} {s : Shared} {E : Value → Shared → Prop} {Q : Value → Shared → Prop}
/-- what the making leaves: the function object at f, the code object at c' known; all but the table at P stays -/
structure LamMade (H H1 : Hp) (P : Addr) (q : Str) (f c' : Addr) (i : Nat) (cl : List (Str × Addr)) (dV : Value) : Prop where
  fn : H f = none
  at_ : H1 f = some (LamO f i cl dV c')
  code : H1 c' = some (CodeO c' q)
  old : H c' = none ∨ H c' = some (CodeO c' q)
  ne : c' ≠ f
  keep : ∀ b o, b ≠ P → H b = some o → H1 b = some o
  tab : TabS H1 P q
theorem lam_tail {i : Nat} {c P : Addr} {params : Arguments} {body : Expr} {scope : Scope} {dfl : List Int} {dV : Value} {pos : Pos} {fl : Nat} (I : Inv X pins σ H s) (TB : TabB X.base X.mg c P) (hcode : X.env.code = .ref c) (hT : TabS H P (X.env.qual ++ "<lambda>"))
    (hq : TbC.lq i = ⟨X.env.qual ++ "<lambda>", params, body, scope, dfl⟩) (hfree : ∀ y ∈ scope.names, y.2 = .free → ∃ c, X.env.cells.lookup y.1 = some c)
    (h : ∀ (f c' : Addr) (H1 : Hp) (s' : Shared), Inv X pins σ H1 s' → LamMade H H1 P (X.env.qual ++ "<lambda>") f c' i X.env.cells dV → Q (.ref f) s') :
    wpAny (model X.prog X.w) X.A (makeTail "<lambda>" (X.env.qual ++ "<lambda>") params (.expr body) scope X.env dV .none none pos fl) Q E s := by
  obtain ⟨ps, hP, ht, ha⟩ := hT
  have bP : s.heap.BuiltinsAt X.mg P := TB.bm.keeps I.bk
  have hP' : s.heap.get? P = some { cls := .none, data := .fields ps } := I.hok P _ hP
  have LO : ∀ (f c' : Addr) (cl : List (Str × Addr)), LamO f i cl dV c' = .ext fun h => ∃ doc pm ctv : Value, h.get? f = some (PySem.W.kdv_obj "<lambda>" (X.env.qual ++ "<lambda>") params (.expr body) scope (cloFrom cl scope.names []) dV doc pm c' ctv) := fun f c' cl => by
    unfold LamO
    rw [hq]
  -- the function object is laid
  have lay : ∀ {H1 : Hp} {h' : Heap} {f c' : Addr} {doc pm ctv : Value} {tk : Nat}, Inv X pins σ H1 { s with heap := h', toks := tk } → f = h'.objs.size →
      Inv X pins σ (upd H1 f (LamO f i X.env.cells dV c')) { s with heap := h'.push (PySem.W.kdv_obj "<lambda>" (X.env.qual ++ "<lambda>") params (.expr body) scope (cloFrom X.env.cells scope.names []) dV doc pm c' ctv), toks := tk } := by
    intro H1 h' f c' doc pm ctv tk I1 ef
    subst ef
    have hg : (h'.push (PySem.W.kdv_obj "<lambda>" (X.env.qual ++ "<lambda>") params (.expr body) scope (cloFrom X.env.cells scope.names []) dV doc pm c' ctv)).get? h'.objs.size = some (PySem.W.kdv_obj "<lambda>" (X.env.qual ++ "<lambda>") params (.expr body) scope (cloFrom X.env.cells scope.names []) dV doc pm c' ctv) := Heap.get?_push_size _ rfl
    refine I1.laid (t' := tk) (fun b u z => Heap.get?_push_of_some _ z) (Nat.le_refl _) ?_
    rw [LO]
    exact ⟨⟨doc, pm, ctv, hg⟩, ⟨_, hg⟩, fun h1 h2 ⟨doc, pm, ctv, e⟩ k => ⟨doc, pm, ctv, k _ e⟩⟩
  cases hc : codeAmong pos ps.toList with
  | none =>
    refine PySem.W.kdv_makeTail (mg := X.mg) (c := c) (P := P) (ps := ps) (closure_ok hfree) I.ok.glob (I.mod.glob.keeps I.bk) hcode (TB.code.keeps I.bk) hP' ht hc TB.gP bP fun c' ctv doc h' tk hx hge hlt hrec htb => ?_
    obtain ⟨c2, oc, vs, t, e2, hoc, hd, hv⟩ := hrec
    cases e2
    have nC : H c' = none := I.hok.fresh hge
    have nF : H h'.objs.size = none := I.hok.fresh (Nat.le_trans hge (Nat.le_of_lt hlt))
    have I1 := inv_table (t' := tk) (more := #[rawInt pos.line, rawInt pos.col, .ref c']) (h' := h') (q := X.env.qual ++ "<lambda>") I hP (fun b o hb e => hx b o hb e) htb hge ⟨oc, vs, t, hoc, hd, hv⟩
    have I2 := lay (tk := tk) (doc := doc) (pm := (X.mg "__name__").getD .none) (ctv := ctv) (c' := c') I1 rfl
    have n1 : c' ≠ h'.objs.size := Nat.ne_of_lt hlt
    have n2 : P ≠ h'.objs.size := ne_of_none hP nF
    have n3 : P ≠ c' := ne_of_none hP nC
    have kp : ∀ b o, b ≠ P → H b = some o → upd (upd (upd H P (.tbl (ps ++ #[rawInt pos.line, rawInt pos.col, .ref c']))) c' (CodeO c' (X.env.qual ++ "<lambda>"))) h'.objs.size (LamO h'.objs.size i X.env.cells dV c') b = some o := fun b o hb e => by
      rw [upd_ne (ne_of_none e nF), upd_ne (ne_of_none e nC), upd_ne hb]
      exact e
    refine h h'.objs.size c' _ _ I2 ⟨nF, upd_same, by rw [upd_ne n1, upd_same], .inl nC, n1, kp, ?_⟩
    have eL : (ps ++ #[rawInt pos.line, rawInt pos.col, .ref c']).toList = ps.toList ++ [rawInt pos.line, rawInt pos.col, .ref c'] := by simp
    refine ⟨_, by rw [upd_ne n2, upd_ne n3, upd_same], by rw [eL]; exact PySem.TriplesOk_snoc _ _ _ _ ht, fun p' cv hcv => ?_⟩
    rw [eL] at hcv
    rcases among_app _ ht hcv with z | z
    · obtain ⟨c0, e1, e2⟩ := ha p' cv z
      exact ⟨c0, e1, kp _ _ (fun y => by rw [y, hP] at e2; exact codeO_ne _ (Option.some.inj e2).symm) e2⟩
    · exact ⟨c', z, by rw [upd_ne n1, upd_same]⟩
  | some cv =>
    obtain ⟨c', e, hco⟩ := ha pos cv hc
    subst e
    refine PySem.W.kdv_makeTailHit (mg := X.mg) (c := c) (P := P) (ps := ps) (closure_ok hfree) I.ok.glob (I.mod.glob.keeps I.bk) hcode (TB.code.keeps I.bk) hP' ht hc bP fun ctv doc h' tk hx hsz => ?_
    have nF : H h'.objs.size = none := I.hok.fresh hsz
    have I1 : Inv X pins σ H { s with heap := h', toks := tk } := I.kept (t' := tk) hx
    have I2 := lay (tk := tk) (doc := doc) (pm := (X.mg "__name__").getD .none) (ctv := ctv) (c' := c') I1 rfl
    have kp : ∀ b o, b ≠ P → H b = some o → upd H h'.objs.size (LamO h'.objs.size i X.env.cells dV c') b = some o := fun b o _ e => by
      rw [upd_ne (ne_of_none e nF)]
      exact e
    have n1 : c' ≠ h'.objs.size := ne_of_none hco nF
    refine h h'.objs.size c' _ _ I2 ⟨nF, upd_same, by rw [upd_ne n1]; exact hco, .inr hco, n1, kp, ps, by rw [upd_ne (ne_of_none hP nF)]; exact hP, ht, fun p' cv' hcv => ?_⟩
    obtain ⟨c0, e1, e2⟩ := ha p' cv' hcv
    exact ⟨c0, e1, by rw [upd_ne (ne_of_none e2 nF)]; exact e2⟩
end
section
variable {c : Fm} {σ : L2.St} {H H1 S : Hp} {env : En} {P f c' : Addr} {q : Str} {i : Nat} {cl : List (Str × Addr)} {dV : Value}
theorem kn_lam (k : Kn c σ H S env) (m : LamMade H H1 P q f c' i cl dV) (hP : (P, q) ∈ TbC.ts) (hu : ∀ p ∈ TbC.ts, p.1 = P → p.2 = q) :
    ∃ S1, Kn c σ H1 S1 env ∧ Same S S1 ∧ S1 f = some (LamO f i cl dV c') ∧ S1 c' = some (CodeO c' q) := by
  have sf : S f = none := k.kf.s_none m.fn
  have xP : ∀ b, ¬ Ex c.B b → b ≠ P := fun b x z => x (.inr ⟨_, hP, z.symm⟩)
  have sP : S P = none := (k.kf.tab.1 _ hP).2
  have hTP : ∃ ps, H P = some (.tbl ps) := by
    obtain ⟨⟨ps, h1, _⟩, _⟩ := k.kf.tab.1 _ hP
    exact ⟨ps, h1⟩
  have sc : ∀ o, S c' = some o → o = CodeO c' q := fun o e => by
    have e2 := k.kf.sub _ _ e
    rcases m.old with z | z
    · rw [z] at e2
      cases e2
    · rw [z] at e2
      exact (Option.some.inj e2).symm
  refine ⟨fun b => if b = f then some (LamO f i cl dV c') else if b = c' then some (CodeO c' q) else S b, ?_, fun b o e => ?_, if_pos rfl, (if_neg m.ne).trans (if_pos rfl)⟩
  · have ss : Same S (fun b => if b = f then some (LamO f i cl dV c') else if b = c' then some (CodeO c' q) else S b) := fun b o e => by
      by_cases z : b = f
      · rw [z, sf] at e
        cases e
      · show (if b = f then _ else _) = _
        rw [if_neg z]
        by_cases y : b = c'
        · rw [if_pos y]
          rw [y] at e
          rw [sc o e]
        · rw [if_neg y]
          exact e
    have sn : ∀ b, S b = none → Mu (H b) → (fun b => if b = f then some (LamO f i cl dV c') else if b = c' then some (CodeO c' q) else S b) b = none := fun b e n => by
      have z : b ≠ f := fun z => n.1 (by rw [z]; exact m.fn)
      have y : b ≠ c' := fun y => by
        rcases m.old with x | x
        · exact n.1 (by rw [y]; exact x)
        · exact n.2 _ (by rw [y, x]) (.inl ⟨_, _, rfl⟩)
      show (if b = f then _ else _) = _
      rw [if_neg z, if_neg y]
      exact e
    refine k.step ss (fun b o e => ?_) (fun b o e x => m.keep b o (xP b x) e) sn (fun b e => ?_) (fun p hp => ?_)
    · have e : (if b = f then some (LamO f i cl dV c') else if b = c' then some (CodeO c' q) else S b) = some o := e
      by_cases z : b = f
      · rw [if_pos z] at e
        rw [z, m.at_]
        exact e
      · rw [if_neg z] at e
        by_cases y : b = c'
        · rw [if_pos y] at e
          rw [y, m.code]
          exact e
        · rw [if_neg y] at e
          exact m.keep b o (fun w => by rw [w, sP] at e; cases e) (k.kf.sub b o e)
    · obtain ⟨⟨b1, cs, i', g, st, n, b2, b3, b4⟩, b5⟩ := k.kf.bag b e
      have bP : b ≠ P := fun z => by
        obtain ⟨ps, h1⟩ := hTP
        rw [z, h1] at b2
        cases b2
      exact ⟨sn b b1 (mu_lst b2), cs, i', g, st, n, m.keep _ _ bP b2, ss _ _ b3, b4⟩
    · obtain ⟨⟨ps, h1, h2, h3⟩, h4⟩ := k.kf.tab.1 p hp
      refine ⟨?_, sn p.1 h4 (mu_of h1 fun _ z => nomatch z)⟩
      by_cases z : p.1 = P
      · rw [hu p hp z, z]
        exact m.tab
      · refine ⟨ps, m.keep _ _ z h1, h2, fun pos cv hc => ?_⟩
        obtain ⟨c0, e1, e2⟩ := h3 pos cv hc
        refine ⟨c0, e1, m.keep _ _ (fun y => ?_) e2⟩
        obtain ⟨ps', h1'⟩ := hTP
        rw [y, h1'] at e2
        exact codeO_ne _ (Option.some.inj e2).symm
  · show (if b = f then _ else _) = _
    by_cases z : b = f
    · rw [z, sf] at e
      cases e
    · rw [if_neg z]
      by_cases y : b = c'
      · rw [if_pos y]
        rw [y] at e
        rw [sc o e]
      · rw [if_neg y]
        exact e
end
section
variable {X : Cx} {E : XK} {i : Nat} {c P : Addr} {params : Arguments} {body : Expr} {scope : Scope} {pos : Pos}
/-- lambda: .. : the value is told with the maker's cells -/
def xLam (i : Nat) (cl : List (Str × Addr)) : DT := fun _ R _ => R (.fn i cl none)
end
end DL
namespace DL
open PySem PySem.Spec L2 PyProof.Rows LamX
variable [TbC]
section
end
abbrev lamEnvB (q : LamQ) (cl : List (Str × Addr)) (L f c' : Addr) : Env := PySem.W.envX q.qual q.scope L f (.ref c') (cloFrom cl q.scope.names [])
def lamCxB (P : Program) (w : World) (K : PySem.W.Frag) (mg : Str → Option Value) (base : Heap) (A : Around) (outer : List Env) (s : Shared) (H : Hp) (E : XK) (N : List Str) (q : LamQ) (cl : List (Str × Addr)) (f c' : Addr) : Cx where
  prog := P
  w := w
  K := K
  mg := mg
  base := base
  A := A.deeper (lamEnvB q cl s.heap.objs.size f c')
  N := N
  s_0 := s
  H_0 := H
  env := lamEnvB q cl s.heap.objs.size f c'
  outer := outer
  stack := lamEnvB q cl s.heap.objs.size f c' :: outer
  ex := []
  fn := fun _ => false
  calm := true
  pn := []
  xe := fun e s' => wpAny (model P w) (A.deeper (lamEnvB q cl s.heap.objs.size f c')) (leaving (lamEnvB q cl s.heap.objs.size f c') e) (fun _ s'' => L2.CX P w outer H s E e s'') (fun e' s'' => L2.CX P w outer H s E e' s'') s'
abbrev Zf := Nat → (D → Prop) → (Er → Prop) → Prop
/-- the captured values -/
def pickE (js : List Nat) (env : En) : En := js.map fun j => match (env[j]? : Option (Option DV)) with
  | some (some (DV.val d)) => some (DV.val d)
  | _ => none
/-- lambda i's reading by the maker's names -/
def ZL (LT : Nat → Option (List Nat × DT)) (env : En) : Zf := fun i R Rx => match LT i with
  | some (js, T) => T (pickE js env) R Rx
  | none => False
section
end
end DL
namespace DL
open PySem PySem.Spec L2 PyProof.Rows LamX
variable [TbC]
section
end
mutual
def closeD (z : Option Addr × Hp) : D → D
  | .fn i cl none => .fn i cl (some z)
  | .lst ds => .lst (closeL z ds)
  | .tup ds => .tup (closeL z ds)
  | d => d
def closeL (z : Option Addr × Hp) : List D → List D
  | [] => []
  | d :: ds => closeD z d :: closeL z ds
end
section
variable {X : Cx} {E : XK} {k kk : Nat} {f : Addr} {fd : FuncData} {ps : List Str} {x : Str} {p pos : Pos} {e : Expr} {es : List Expr} {Tl : DTA} {cl : List (Str × Addr)} {F : Option Addr × Hp → Zf → Spec} {LT : Nat → Option (List Nat × DT)}
def xCallZ (F : Option Addr × Hp → Zf → Spec) (LT : Nat → Option (List Nat × DT)) (Tl : DTA) : DT := fun env R Rx => Tl env (fun ds => ∀ z, F z (ZL LT env) (closeL z ds) R Rx) Rx
end
end DL
namespace DL
open PySem PySem.Spec L2 PyProof.Rows LamX
variable [TbC]
section
end
/-- the names that hold data -/
def valE (env : En) : En := env.map fun x => match x with
  | some (DV.val d) => some (DV.val d)
  | _ => none
theorem valE_get {env : En} {j : Nat} {y : DV} (e : (valE env)[j]? = some (some y)) : ∃ d, y = .val d ∧ env[j]? = some (some (.val d)) := by
  unfold valE at e
  rw [List.getElem?_map] at e
  obtain ⟨x, ex, e2⟩ := Option.map_eq_some_iff.mp e
  split at e2
  · rename_i d
    cases e2
    exact ⟨d, rfl, ex⟩
  · cases e2
theorem Kn.vals {c : Fm} {σ : L2.St} {H S : Hp} {env : En} (k : Kn c σ H S env) : Kn (c.at H S) σ H S (valE env) := by
  refine ⟨k.kf.at, by unfold valE; rw [List.length_map]; exact k.len, fun j y e => ?_, fun j1 j2 x y v u a _ e _ _ _ f _ => ?_⟩
  · obtain ⟨d, rfl, e2⟩ := valE_get e
    exact k.sl j _ e2
  · obtain ⟨d, rfl, _⟩ := valE_get e
    exact f
theorem RepN.at {c : Fm} {H S H' S' : Hp} {d : D} {v : V} (k : Kf c H S) {b : Rk} (r : RepN (c.at H S) H' S' b d v) : RepN c H' S' b d v := by
  cases b with
  | old => exact r
  | nw =>
    refine rep_mono (fun a o e => ?_) d v r
    obtain ⟨e1, e2⟩ := newH_some e
    show newH c.H0 S' a = some o
    rw [newH_of (k.h0_none e1)]
    exact e2
  | tr =>
    obtain ⟨as, r, n, q⟩ := r
    exact ⟨as, r, n, fun a m => ⟨(q a m).1, k.h0_none (q a m).2⟩⟩
section
end
end DL
namespace DL
open PySem PySem.Spec L2 PyProof.Rows LamX
section
end
section
end
section
end
end DL
namespace Hx
open PySem PySem.Spec L2
theorem sup_ok {K : PySem.W.Frag} {C : Addr} {fl : Str} {clo : List (Str × Addr)} {code : Value} (h : supB K C fl clo code = true) : ∃ (cc cda : Addr) (ccl cl : Value) (cdd cld : Option Addr) (ccs csl : Array (Option Value)) (vs : Array Value) (file : Str) (tf : Tok) (cdD : ClassData),
    clo = [(("__class__" : Str), cc)] ∧ code = .ref cda ∧ K.lookup cda = some ⟨ccl, cdd, .fields vs, ccs⟩ ∧ vs[2]? = some (.str file tf) ∧ (fl == file) = true ∧ K.lookup cc = some ⟨cl, cld, .cell (some (.ref C)), csl⟩ ∧ PySem.W.clsIn K C = some cdD := by
  unfold supB at h
  split at h
  · rename_i n cc cda
    obtain ⟨h1, h⟩ := He.ba h
    obtain ⟨h2, h⟩ := He.ba h
    obtain ⟨h3, h4⟩ := He.ba h
    have h1 := of_decide_eq_true h1
    subst h1
    split at h2
    · rename_i cl cld D csl e2
      have h2 := of_decide_eq_true h2
      subst h2
      split at h3
      · rename_i ccl cdd vs ccs e3
        split at h3
        · rename_i file tf e4
          obtain ⟨cdD, hD⟩ := Option.isSome_iff_exists.mp h4
          exact ⟨cc, cda, ccl, cl, cdd, cld, ccs, csl, vs, file, tf, cdD, rfl, rfl, e3, e4, h3, e2, hD⟩
        · cases h3
      · cases h3
    · cases h2
  · cases h
theorem DefX.supF {K : PySem.W.Frag} {d : DefX} {x fl : Str} (e : fnX K (d.ad K) = d.val) (c : d.ok K = true) (hs : d.sup = some (x, fl)) (hd : d.dfl = []) : ∃ (cc cda : Addr) (fd : FuncData), EXS.SupFn K fl d.name d.qual d.params d.body d.scope (He.ga K x) (d.ad K) cc cda fd := by
  obtain ⟨kp, c2⟩ := He.ba c
  unfold fnX at e
  cases q : K.lookup (d.ad K) with
  | none =>
    rw [q] at c2
    cases c2
  | some o =>
    obtain ⟨oc, od, dt, osl⟩ := o
    rw [q] at c2 e
    cases dt with
    | func fd =>
      obtain ⟨n1, n2, n3, n4, n5, n6, n7, n8, n9, n10, n11, n12, n13, n14, n15⟩ := fd
      have c9 : ((PySem.W.codeIn K n13 d.qual && (He.dflB K n8 (d.dvs K) && He.kwdB K n9 (d.kws K))) && cloB K d.sup n7 n13) = true := c2
      obtain ⟨c3, c4⟩ := He.ba c9
      rw [hs] at c4
      have c5 : supB K (He.ga K x) fl n7 n13 = true := c4
      obtain ⟨cc, cda, ccl, cl, cdd, cld, ccs, csl, vs, file, tf, cdD, r1, r2, r3, r4, r5, r6, r7⟩ := sup_ok c5
      subst r1 r2
      have e2 : (some (n1, n2, n3, n4, n5, n6, ([] : List (Str × Addr)), n15) : He.FnW) = some (d.name, d.qual, d.params, .stmts d.body, d.scope, mainGlobals, [], builtinsNs) := e
      simp only [Option.some.injEq, Prod.mk.injEq] at e2
      obtain ⟨h1, h2, h3, h4, h5, h6, _, h8⟩ := e2
      subst h1 h2 h3 h4 h5 h6 h8
      obtain ⟨k1, k2⟩ := He.ba c3
      obtain ⟨k3, _⟩ := He.ba k2
      have k4 := He.dflB_ok k3
      have hdv : d.dvs K = [] := by unfold DefX.dvs; rw [hd]; rfl
      rw [hdv] at k4
      have k5 : n8 = .none := by
        rcases k4 with ⟨_, z⟩ | ⟨z, _⟩
        · exact z
        · exact absurd rfl z
      exact ⟨cc, cda, _, ⟨oc, ccl, cl, n8, n9, n10, n11, n14, n12, od, cdd, cld, osl, ccs, csl, vs, file, tf, cdD, rfl, q, k1, r3, r4, r5, r6, r7, k5⟩, kp⟩
    | _ => cases c2
theorem SaysX.sup_ {fx : List (PySem.W.Frag → Bool)} {fn : List DefX} {K : PySem.W.Frag} (c : SaysX fx fn K) (i : Nat) {d : DefX} {x fl : Str} (h : fn[i]? = some d := by rfl) (hs : d.sup = some (x, fl) := by rfl) (hd : d.dfl = [] := by rfl) : ∃ (cc cda : Addr) (fd : FuncData), EXS.SupFn K fl d.name d.qual d.params d.body d.scope (He.ga K x) (d.ad K) cc cda fd := by
  have c2 := (He.ba (show ((fx.all fun f => f K) && fn.all fun d => d.ok K) = true from congrArg (fun z : He.AlD => z.1) c)).2
  have e : fn.map (fun d => fnX K (d.ad K)) = fn.map DefX.val := congrArg (fun z : He.AlD => z.2) c
  have e2 : (fn.map fun d => fnX K (d.ad K))[i]? = (fn.map DefX.val)[i]? := by rw [e]
  rw [List.getElem?_map, List.getElem?_map, h] at e2
  exact DefX.supF (Option.some.inj e2) (List.all_eq_true.mp c2 d (List.mem_of_getElem? h)) hs hd
theorem ErrX.excD {K : PySem.W.Frag} {C f : Addr} (h : ErrX K C f) : EXS.ExcD K C := ⟨h.ox, h.st, h.su, h.mr, h.ve⟩
end Hx
namespace DL
open PySem PySem.Spec L2
/-- an own error class of the text, known by its name -/
structure Xe (K : PySem.W.Frag) (mg : Str → Option Value) (fl : Str) (x : Str) (st : Stmt) where
  C : Addr
  f : Addr
  cc : Addr
  cda : Addr
  fd : FuncData
  g : mg x = some (.ref C)
  e : Hx.ErrX K C f
  F : EXS.SupFn K fl "__init__" (x ++ ".__init__") (defArgs st) (defBody st) (defScope st) C f cc cda fd
theorem Xe.binds {K : PySem.W.Frag} {mg : Str → Option Value} {fl x : Str} {st : Stmt} {ps : List Str} (D : Xe K mg fl x st)
    (h : ∀ (kV doc pm cdv ct : Value) (an : Option Addr) (cc : Addr) (us : List Value), us.length = ps.length → bindArgs (PySem.W.ksFn "__init__" (x ++ ".__init__") (defArgs st) (defBody st) (defScope st) .none kV doc pm an cdv ct cc) ⟨us, []⟩ = pure (ps.zip us)) : Binds K D.fd ps [] := by
  obtain ⟨_, _, _, dV, _, _, _, _, _, _, _, _, _, _, _, _, _, _, _, e, _, _, _, _, _, _, _, e2⟩ := D.F.ex
  rw [e, e2]
  exact Binds.all (h _ _ _ _ _ _ _)
end DL
namespace DL
open PySem PySem.Spec L2
def noPos : Pos := ⟨0, 0, 0, 0⟩
def noEx : Expr := .Constant .none 0 noPos
/-- an expression's i-th part -/
def kid : Expr → Nat → Expr
  | .Call f _ _ _, 0 => f
  | .Call _ as _ _, i + 1 => as.getD i noEx
  | .List es _, i => es.getD i noEx
  | .Tuple es _ _, i => es.getD i noEx
  | .BoolOp _ es _, i => es.getD i noEx
  | .BinOp l _ _ _, 0 => l
  | .BinOp _ _ r _, _ + 1 => r
  | .UnaryOp _ x _, _ => x
  | .Compare l _ _ _, 0 => l
  | .Compare _ _ cs _, i + 1 => cs.getD i noEx
  | .Attribute v _ _, _ => v
  | .Subscript v _ _, 0 => v
  | .Subscript _ s _, _ + 1 => s
  | .IfExp t _ _ _, 0 => t
  | .IfExp _ b _ _, 1 => b
  | .IfExp _ _ o _, _ => o
  | _, _ => noEx
/-- a statement's expression -/
def sEx : Stmt → Expr
  | .Assign _ v _ => v
  | .Return (some v) _ => v
  | .Expr v _ => v
  | .If t _ _ _ => t
  | .For _ it _ _ _ => it
  | .While t _ _ _ => t
  | _ => noEx
def lamQ (qual : Str) (dfl : List Int) : Expr → LamQ
  | .Lambda ps b sc _ => ⟨qual, ps, b, sc, dfl⟩
  | e => ⟨qual, defArgs (.Pass noPos), e, defScope (.Pass noPos), dfl⟩
end DL
namespace DL
open PySem PySem.Spec L2
variable [TbC]
section
open PySem.W
end
section
variable {X : Cx} {k : Nat} {C g : Addr} {fd : FuncData} {ps : List Str} {sp : Sp} {F : Spec}
def negR (R : D → Prop) : D → Prop
  | .bl b => R (.bl (!b))
  | _ => False
theorem w_negR {R : D → Prop} {b : Bool} : negR R (.bl b) = R (.bl (!b)) := rfl
def opOwnN (C : Addr) (F : Spec) : DOp := fun x y R => asO C (fun _ _ => True) x ∧ asO C (fun _ _ => True) y ∧ F [x, y] (negR R) noX
theorem w_opOwnN {C : Addr} {F : Spec} {x y : D} {R : D → Prop} : opOwnN C F x y R = (asO C (fun _ _ => True) x ∧ asO C (fun _ _ => True) y ∧ F [x, y] (negR R) noX) := rfl
end
theorem w_par3 {i j l : Nat} {Tl : DTA} {Q : DEnds} {env : En} : zPar3 i j l Tl Q env = Tl env (fun ds => match ds with
  | [d, d', d''] => Q.nx (put l d'' (put j d' (put i d env)))
  | _ => False) Q.ex := rfl
end DL
namespace DL
open PySem PySem.Spec L2 PyProof.Rows LamX
variable [TbC]
/-- i-th statement of a def's body -/
def dSub (st : Stmt) (i : Nat) : Stmt := (defBody st).getD i (.Pass noPos)
def lamQual (qual : Str) (sc : Scope) : Str := (PyProof.Rows.envOfC qual sc 0 0 .none).qual ++ "<lambda>"
section
end
/-- free names of a lambda are cells of its maker -/
def lamFB (sc scope : Scope) : Bool := scope.names.all fun y => !decide (y.2 = .free) || decide (sc.names.lookup y.1 = some .cell) || decide (sc.names.lookup y.1 = some .free)
theorem lamF_by {sc scope : Scope} (h : lamFB sc scope = true) : ∀ y ∈ scope.names, y.2 = .free → sc.names.lookup y.1 = some .cell ∨ sc.names.lookup y.1 = some .free := by
  unfold lamFB at h
  simp only [Bool.or_eq_true, Bool.not_eq_true', decide_eq_true_eq, decide_eq_false_iff_not, List.all_eq_true] at h
  intro y hy e
  rcases h y hy with (z | z) | z
  · exact absurd e z
  · exact .inl z
  · exact .inr z
section
end
end DL
namespace DL
open PySem PySem.Spec L2
variable [TbC]
theorem seq_step {A B : DTS} {Q : DEnds} {env : En} (h : ∀ N : En → Prop, (∀ e, B Q e → N e) → A { Q with nx := N } env) : zSeq A B Q env := h _ fun _ h => h
theorem for_step {Ti : DTI} {G : DG} {Tb : DTS} {Q : DEnds} {env : En} (h : ∀ B : DEnds → En → Prop, (∀ Q e, Tb Q e → B Q e) → zFor Ti G B Q env) : zFor Ti G Tb Q env := h _ fun _ _ h => h
/-- both ways behind a test -/
theorem if_step {T : DTT} {U W : DTS} {Q : DEnds} {env : En} (h : ∀ U' W' : DEnds → En → Prop, (∀ Q e, U Q e → U' Q e) → (∀ Q e, W Q e → W' Q e) → zIf T U' W' Q env) : zIf T U W Q env := h _ _ (fun _ _ h => h) fun _ _ h => h
section
end
def pk : Option (Option DV) → Option DV
  | some (some (.val d)) => some (.val d)
  | _ => none
theorem w_pk {d : D} : pk (some (some (.val d))) = some (.val d) := rfl
theorem w_pickE_nil {env : En} : pickE [] env = [] := rfl
theorem w_pickE_cons {j : Nat} {js : List Nat} {env : En} : pickE (j :: js) env = pk env[j]? :: pickE js env := rfl
theorem w_xLam {i : Nat} {cl : List (Str × Addr)} {env : En} {R : D → Prop} {Rx : Er → Prop} : xLam i cl env R Rx = R (.fn i cl none) := rfl
theorem w_callZ {F : Option Addr × Hp → Zf → Spec} {LT : Nat → Option (List Nat × DT)} {Tl : DTA} {env : En} {R : D → Prop} {Rx : Er → Prop} : xCallZ F LT Tl env R Rx = Tl env (fun ds => ∀ z, F z (ZL LT env) (closeL z ds) R Rx) Rx := rfl
theorem repN_0 : List.replicate 0 (none : Option DV) = [] := rfl
theorem repN_s {n : Nat} : List.replicate (n + 1) (none : Option DV) = none :: List.replicate n none := rfl
end DL
namespace DL
open PySem PySem.Spec L2
variable [TbC]
section
open PySem.W
end
/-- data of the built-in types -/
def D.bty : D → Option String
  | .non => some "NoneType"
  | .bl _ => some "bool"
  | .int _ => some "int"
  | .str _ => some "str"
  | .lst _ => some "list"
  | .tup _ => some "tuple"
  | _ => none
def asA (d : D) : Prop := d.bty ≠ none
theorem w_asA_int {i : Int} : asA (.int i) = True := eq_true fun z => nomatch z
theorem w_asA_non : asA .non = True := eq_true fun z => nomatch z
theorem w_asA_bl {b : Bool} : asA (.bl b) = True := eq_true fun z => nomatch z
theorem w_asA_str {s : Str} : asA (.str s) = True := eq_true fun z => nomatch z
theorem w_asA_lst {xs : List D} : asA (.lst xs) = True := eq_true fun z => nomatch z
theorem w_asA_tup {xs : List D} : asA (.tup xs) = True := eq_true fun z => nomatch z
section
variable {X : Cx} {CX : CXT} {k : Nat} {C g : Addr} {fd : FuncData} {ps : List Str} {F : Spec} {E : XK} {a b : Expr} {Ta Tb : DT} {pos : Pos}
theorem bty_in {d : D} {T : String} (h : d.bty = some T) : T ∈ Hx.rights := by
  cases d <;> cases h <;> decide
theorem bty_looks {c : Fm} {σ σ' : L2.St} {pins : List (Addr × Obj)} {H S : Hp} {env : En} {s : Shared} {d : D} {v : V} {u : Value} {T : String} {M : Model} (k : Kn c σ H S env) (r : Rep c.B S d v) (I : Inv X pins σ' H s) (ru : RelV v u) (h : d.bty = some T) : PySem.W.Looks M s.heap (typeOf u) (.type T) := by
  cases d with
  | non =>
    cases h
    rw [show v = .non from r] at ru
    obtain rfl : u = Value.none := ru
    exact PySem.W.Looks.of_pure rfl
  | bl b =>
    cases h
    rw [show v = .bl b from r] at ru
    obtain rfl : u = Value.bool b := ru
    exact PySem.W.Looks.of_pure rfl
  | int i =>
    cases h
    rw [show v = .int i from r] at ru
    obtain ⟨t, rfl⟩ := ru
    exact PySem.W.Looks.of_pure rfl
  | str z =>
    cases h
    rw [show v = .str z from r] at ru
    obtain ⟨t, rfl⟩ := ru
    exact PySem.W.Looks.of_pure rfl
  | lst xs =>
    cases h
    obtain ⟨p, vs, rfl, h1, _, _⟩ := lst_of k r
    obtain rfl : u = Value.ref p := ru
    obtain ⟨its, rv, hti, hz⟩ := I.list (SqL.of h1)
    obtain ⟨o, ho, hco, _⟩ := hti.isList
    exact fun A Q E s' kk qq => wpAny_typeOf_ref (kk _ _ ho) (by rw [hco]; exact qq)
  | tup xs =>
    cases h
    obtain ⟨p, vs, rfl, h1, _, _⟩ := tup_of k r
    obtain rfl : u = Value.ref p := ru
    obtain ⟨its, rv, ⟨o, ho, hco, _⟩, hz⟩ := I.tuple (SqT.of h1)
    exact fun A Q E s' kk qq => wpAny_typeOf_ref (kk _ _ ho) (by rw [hco]; exact qq)
  | _ => cases h
def xOBa (C : Addr) (F : Spec) (Ta Tb : DT) : DT := fun env R Rx => Ta env (fun x => Tb env (fun y => asO C (fun _ _ => True) x ∧ asA y ∧ F [x, y] R Rx) Rx) Rx
theorem w_xOBa {C : Addr} {F : Spec} {Ta Tb : DT} {env : En} {R : D → Prop} {Rx : Er → Prop} : xOBa C F Ta Tb env R Rx = Ta env (fun x => Tb env (fun y => asO C (fun _ _ => True) x ∧ asA y ∧ F [x, y] R Rx) Rx) Rx := rfl
def rOBa (c0 : Addr) (sp : Sp) (E : XK) : R2 := fun x y H Q => ∃ (a : Addr) (dx : Addr) (fs : List (Str × V)) (c : Fm) (σ : L2.St) (S : Hp) (env : En) (d : D) (T : String), x = .ref a ∧ H a = some (.ins c0 dx fs) ∧ Kn c σ H S env ∧ Rep c.B S d y ∧ d.bty = some T ∧ sp [x, y] H Q E
end
end DL
namespace DL
open PySem PySem.Spec L2
end DL
namespace DL
open PySem PySem.Spec L2
variable [TbC]
/-- the text with these signs -/
def tx (l : List Nat) : Str := ⟨⟨l⟩⟩
theorem tx_of (s : Str) : s = tx s.cps.toList := rfl
theorem w_tx_len {l : List Nat} : (tx l).length = l.length := rfl
theorem w_tx_size {l : List Nat} : (tx l).cps.size = l.length := rfl
theorem w_tx_cps {l : List Nat} : (tx l).cps.toList = l := rfl
theorem w_tx_app {a b : List Nat} : tx a ++ tx b = tx (a ++ b) := by
  show Str.mk _ = Str.mk _
  congr 1
  show (⟨a⟩ : Array Nat) ++ (⟨b⟩ : Array Nat) = ⟨a ++ b⟩
  simp
theorem tx_inj {a b : List Nat} (h : tx a = tx b) : a = b := by
  have := congrArg (fun s : Str => s.cps.toList) h
  exact this
theorem w_tx_eq {a b : List Nat} : (tx a = tx b) = (a = b) := propext ⟨tx_inj, fun h => by rw [h]⟩
theorem w_tx_beq {a b : List Nat} : (tx a == tx b) = decide (a = b) := by
  rw [Bool.eq_iff_iff, beq_iff_eq, decide_eq_true_eq]
  exact ⟨tx_inj, fun h => by rw [h]⟩
theorem w_tx_mul {a : List Nat} {n : Nat} : mulS (tx a) n = tx (List.replicate n a).flatten := rfl
theorem w_tx_signs {l : List Nat} : signs (tx l) = l.map fun c => .str (tx [c]) := rfl
theorem tx_cut_from {l : List Nat} {a : Nat} : cutS (tx l) (some (a : Int)) none = tx (l.drop a) := by
  show tx _ = tx _
  congr 1
  show ((l.drop (HT.sIx l.length 0 (some (a : Int)))).take (HT.sIx l.length l.length none - HT.sIx l.length 0 (some (a : Int)))) = _
  rw [HT.sIx_nat, HT.sIx_none, List.take_of_length_le (by rw [List.length_drop]; exact Nat.le_refl _)]
  by_cases h : a ≤ l.length
  · rw [Nat.min_eq_left h]
  · rw [List.drop_eq_nil_of_le (by omega), List.drop_eq_nil_of_le (by omega)]
theorem tx_cut_to {l : List Nat} {b : Nat} : cutS (tx l) none (some (b : Int)) = tx (l.take b) := by
  show tx _ = tx _
  congr 1
  show ((l.drop (HT.sIx l.length 0 none)).take (HT.sIx l.length l.length (some (b : Int)) - HT.sIx l.length 0 none)) = _
  rw [HT.sIx_nat, HT.sIx_none, List.drop_zero, Nat.sub_zero]
  by_cases h : b ≤ l.length
  · rw [Nat.min_eq_left h]
  · rw [Nat.min_eq_right (by omega), List.take_length, List.take_of_length_le (by omega)]
theorem tx_cut_nn {l : List Nat} {a b : Nat} : cutS (tx l) (some (a : Int)) (some (b : Int)) = tx ((l.drop a).take (b - a)) := by
  show tx _ = tx _
  congr 1
  show ((l.drop (HT.sIx l.length 0 (some (a : Int)))).take (HT.sIx l.length l.length (some (b : Int)) - HT.sIx l.length 0 (some (a : Int)))) = _
  rw [HT.sIx_nat, HT.sIx_nat]
  by_cases h : a ≤ l.length
  · rw [Nat.min_eq_left h]
    by_cases h2 : b ≤ l.length
    · rw [Nat.min_eq_left h2]
    · rw [Nat.min_eq_right (by omega), List.take_of_length_le (by rw [List.length_drop]; omega), List.take_of_length_le (by rw [List.length_drop]; omega)]
  · rw [List.drop_eq_nil_of_le (by omega), List.drop_eq_nil_of_le (by omega)]
    simp
theorem tx_join (xs : List (List Nat)) : Txt.join (tx []) (xs.map tx) = tx xs.flatten := by
  show Builtin.Str.glued (tx []) (xs.map tx) = _
  rw [StrLaws.glued_eq_join]
  have e0 : ∀ a : Str, a ++ tx [] = a := fun a => by rw [tx_of a, w_tx_app, List.append_nil]
  induction xs with
  | nil => rfl
  | cons a r ih =>
    cases r with
    | nil => show tx a = _; simp
    | cons b r =>
      show tx a ++ tx [] ++ Str.join (tx []) ((b :: r).map tx) = _
      rw [ih, e0, w_tx_app]
      rfl
theorem tx_join_sep (s : List Nat) (xs : List (List Nat)) : Txt.join (tx s) (xs.map tx) = tx (List.intercalate s xs) := by
  show Builtin.Str.glued (tx s) (xs.map tx) = _
  rw [StrLaws.glued_eq_join]
  induction xs with
  | nil => rfl
  | cons a r ih =>
    cases r with
    | nil => show tx a = _; simp [List.intercalate]
    | cons b r =>
      show tx a ++ tx s ++ Str.join (tx s) ((b :: r).map tx) = _
      rw [ih, w_tx_app, w_tx_app]
      simp [List.intercalate, List.intersperse]
/-- the signs of a digit -/
theorem tx_digit {n : Int} (h0 : 0 ≤ n) (h1 : n < 10) : ((toString n : String) : Str) = tx [(48 + n).toNat] := by
  have : n = 0 ∨ n = 1 ∨ n = 2 ∨ n = 3 ∨ n = 4 ∨ n = 5 ∨ n = 6 ∨ n = 7 ∨ n = 8 ∨ n = 9 := by omega
  rcases this with rfl | rfl | rfl | rfl | rfl | rfl | rfl | rfl | rfl | rfl <;> decide +kernel
theorem w_tx_emp : (Str.ofString "") = tx [] := by decide +kernel
theorem w_tx_one {c : Nat} : (Str.mk #[c]) = tx [c] := rfl
end DL
namespace DL
open PySem PySem.Spec L2
variable [TbC]
def xCallM (F : Spec) (n m : Nat) (gD : List D → List D → List D) (Tl Tk : DTA) : DT := fun env R Rx => Tl env (fun xs => Tk env (fun zs => xs.length = n ∧ zs.length = m ∧ F (gD xs zs) R Rx) Rx) Rx
theorem w_callM {F : Spec} {n m : Nat} {gD : List D → List D → List D} {Tl Tk : DTA} {env : En} {R : D → Prop} {Rx : Er → Prop} : xCallM F n m gD Tl Tk env R Rx = Tl env (fun xs => Tk env (fun zs => xs.length = n ∧ zs.length = m ∧ F (gD xs zs) R Rx) Rx) Rx := rfl
section
end
end DL
namespace SUPX
open PySem PySem.Spec L2 PyProof.Rows
section
end
end SUPX
namespace DL
open PySem PySem.Spec L2
variable [TbC]
section
variable {P : Program} {w : World} {K : PySem.W.Frag} {mg : Str → Option Value} {base : Heap} {k : Nat} {name qual : Str} {params : Arguments} {rest : List Stmt} {scope : Scope} {C Dd f cc cda g2 : Addr} {fd : FuncData} {N ps : List Str} {e : Expr} {es : List Expr} {p0 p1 p2 p3 p4 : Pos} {x0 : Str} {ar : Arg} {Fs Fb : Spec}
/-- what the base's __init__ leaves, handed to the rest of the body -/
def toRest (C : Addr) (U : List Str → List D → Prop) : D → Prop
  | .obj C' ks xs => C' = C ∧ U ks xs
  | _ => False
end
end DL
namespace DL
open PySem PySem.Spec L2
variable [TbC]
/-- {x}: a text or an int, as a text -/
def fFmt (R : Str → Prop) : D → Prop
  | .str y => y.length ≤ sizeLine ∧ R y
  | .int i => i.natAbs.log2 < 1920 ∧ R (toString i)
  | _ => False
theorem w_fFmtS {R : Str → Prop} {y : Str} : fFmt R (.str y) = (y.length ≤ sizeLine ∧ R y) := rfl
theorem w_fFmtI {R : Str → Prop} {i : Int} : fFmt R (.int i) = (i.natAbs.log2 < 1920 ∧ R (toString i)) := rfl
/-- the parts of an f-string: what is joined so far, what follows -/
abbrev DTJ := Str → En → (Str → Prop) → (Er → Prop) → Prop
def jfNil : DTJ := fun acc _ R _ => R acc
def jfCons (T : DT) (U : DTJ) : DTJ := fun acc env R Rx => T env (fun d => match d with
  | .str y => (acc ++ y).length ≤ sizeLine ∧ U (acc ++ y) env R Rx
  | _ => False) Rx
theorem w_jfNil {acc : Str} {env : En} {R : Str → Prop} {Rx : Er → Prop} : jfNil acc env R Rx = R acc := rfl
def asTx (R : Str → Prop) : D → Prop
  | .str y => R y
  | _ => False
theorem w_asTx {R : Str → Prop} {y : Str} : asTx R (.str y) = R y := rfl
theorem w_jfCons {T : DT} {U : DTJ} {acc : Str} {env : En} {R : Str → Prop} {Rx : Er → Prop} : jfCons T U acc env R Rx = T env (asTx fun y => (acc ++ y).length ≤ sizeLine ∧ U (acc ++ y) env R Rx) Rx := by
  unfold jfCons asTx
  rfl
section
variable {X : Cx} {E : XK} {e : Expr} {es : List Expr} {T : DT} {U : DTJ} {pos : Pos}
def xFmt (T : DT) : DT := fun env R Rx => T env (fFmt fun y => R (.str y)) Rx
theorem w_xFmt {T : DT} {env : En} {R : D → Prop} {Rx : Er → Prop} : xFmt T env R Rx = T env (fFmt fun y => R (.str y)) Rx := rfl
theorem d_fmt (h : DE X E e T) : DE X E (.FormattedValue e (-1) none pos) (xFmt T) := by
  obtain ⟨t, p, s⟩ := h
  refine ⟨_, pe_fmt p, fun c σ H S env R Rx x k h Q q => s c σ H S env _ Rx x k h _ fun v H1 S1 d k1 s1 r1 t1 => ?_⟩
  cases d <;> try exact (show False from t1).elim
  · exact .inr ⟨_, r1, t1.1, q _ H1 S1 (.str _) k1 s1 rfl t1.2⟩
  · exact .inl ⟨_, r1, t1.1, q _ H1 S1 (.str _) k1 s1 rfl t1.2⟩
def DJ (X : Cx) (E : XK) (es : List Expr) (U : DTJ) : Prop := ∃ ts, PJ X es ts ∧ ∀ (c : Fm) (σ : St) (H S : Hp) (env : En) (acc : Str) (R : Str → Prop) (Rx : Er → Prop), XOk c E Rx → Kn c σ H S env → U acc env R Rx →
  ∀ Q : Str → Hp → Prop, (∀ out H' S', Kn c σ H' S' env → Same S S' → R out → Q out H') → tJs ts acc σ H Q
theorem dj_nil : DJ X E [] jfNil := ⟨[], .nil, fun c σ H S env acc R Rx x k h Q q => q acc H S k (Same.refl S) h⟩
theorem dj_cons (h : DE X E e T) (r : DJ X E es U) : DJ X E (e :: es) (jfCons T U) := by
  obtain ⟨t, p, s⟩ := h
  obtain ⟨ts, ps, ss⟩ := r
  refine ⟨t :: ts, .cons p ps, fun c σ H S env acc R Rx x k h Q q => s c σ H S env _ Rx x k h _ fun v H1 S1 d k1 s1 r1 t1 => ?_⟩
  cases d <;> try exact (show False from t1).elim
  exact ⟨_, r1, t1.1, ss c σ H1 S1 env _ R Rx x k1 t1.2 Q fun out H2 S2 k2 s2 r2 => q out H2 S2 k2 (s1.trans s2) r2⟩
def xJoined (U : DTJ) : DT := fun env R Rx => U Str.empty env (fun out => R (.str out)) Rx
theorem w_xJoined {U : DTJ} {env : En} {R : D → Prop} {Rx : Er → Prop} : xJoined U env R Rx = U Str.empty env (fun out => R (.str out)) Rx := rfl
theorem d_joined {v1 v2 : Expr} {rest : List Expr} (h : DJ X E (v1 :: v2 :: rest) U) : DE X E (.JoinedStr (v1 :: v2 :: rest) pos) (xJoined U) := by
  obtain ⟨ts, p, s⟩ := h
  exact ⟨_, pe_joined p, fun c σ H S env R Rx x k h Q q => s c σ H S env Str.empty _ Rx x k h _ fun out H1 S1 k1 s1 r1 => q _ H1 S1 (.str out) k1 s1 rfl r1⟩
end
end DL
namespace SUPX
open PySem PySem.Spec L2 PyProof.Rows
section
end
end SUPX
namespace DL
open PySem PySem.Spec L2
variable [TbC]
section
end
section
variable {X : Cx} {E : XK} {e : Expr} {st : Stmt} {sts : List Stmt} {T U : DT}
def xAlt (T U : DT) : DT := fun env R Rx => T env R Rx ∨ U env R Rx
theorem d_alt (h : DE X E e T) (h2 : DE X E e U) : DE X E e (xAlt T U) := by
  obtain ⟨t, p, s⟩ := h
  obtain ⟨t2, p2, s2⟩ := h2
  refine ⟨fun σ H Q => t σ H Q ∨ t2 σ H Q, ⟨fun pins s0 σ H Q I q => ?_⟩, fun c σ H S env R Rx x k q Q hq => ?_⟩
  · rcases q with q | q
    · exact p.run pins s0 σ H Q I q
    · exact p2.run pins s0 σ H Q I q
  · rcases q with q | q
    · exact .inl (s c σ H S env R Rx x k q Q hq)
    · exact .inr (s2 c σ H S env R Rx x k q Q hq)
end
section
variable {X : Cx} {E : XK} {e : Expr} {f : Str} {pos : Pos} {C : Addr} {u : Value} {d0 : D} {To : DT}
def xCon (C : Addr) (f : Str) (d0 : D) (Te : DT) : DT := fun env R Rx => Te env (asO C fun ks xs => fld ks xs f = none ∧ R d0) Rx
end
end DL
namespace PySem
open Sem (wp)
section
end
end PySem
namespace DL
open PySem PySem.Spec L2
variable [TbC]
section
variable {X : Cx} {pins : List (Addr × Obj)} {σ : St} {H : Hp} {s : Shared} {k : Nat} {f g C : Addr} {fd : FuncData} {ps : List Str} {sp : Sp} {F : Spec}
def blR (R : D → Prop) : D → Prop
  | .bl n => R (.bl n)
  | _ => False
theorem w_blR {R : D → Prop} {n : Bool} : blR R (.bl n) = R (.bl n) := rfl
def fBoolOw (C : Addr) (F : Spec) : DFn
  | [x], R => asO C (fun _ _ => True) x ∧ F [x] (blR R) noX
  | _, _ => False
theorem w_fBoolOw {C : Addr} {F : Spec} {x : D} {R : D → Prop} : fBoolOw C F [x] R = (asO C (fun _ _ => True) x ∧ F [x] (blR R) noX) := rfl
def rReprOw (C : Addr) (sp : Sp) : List V → Hp → VK → Prop := fun xs H Q => ∃ a dx fs, xs = [.ref a] ∧ H a = some (.ins C dx fs) ∧ sp [.ref a] H (fun v H' => ∃ b : Str, v = .str b ∧ Q (.str b) H') E0
theorem call_reprOw (hu : X.A.units + 64 < cLine) (o : Hx.Own X.K C "__repr__" g) (G : FnOk X.prog X.w X.K X.mg X.base (L2.CX X.prog X.w) k g fd ps sp) (hb : Binds X.K fd ps []) (hr : Room (k + 1) X.A) : CallR X (.builtin "repr") (rReprOw C sp) := by
  intro pins s σ H xs us Q I r h
  obtain ⟨a, dx, fs, rfl, ha, q⟩ := h
  obtain ⟨u, rfl, ru⟩ := vals1 r
  obtain rfl : u = Value.ref a := ru
  obtain ⟨mA, J, _⟩ := ins_get I.hok ha
  obtain ⟨od, J, _⟩ := J.look
  obtain ⟨m, hF⟩ := I.fr
  refine PySem.W.repr_K (by show X.A.units + 1 < cLine; omega) hF I.ok.mod.kin J o.at_ o.fn (wpAny_mono (run_in1 (us := [.ref a]) (vs := [.ref a]) G hr hb I (.cons rfl .nil) q) (fun u s' hq => ?_) fun _ _ z => z)
  obtain ⟨v, H', I', rv, b, rfl, q2⟩ := hq
  obtain ⟨t, rfl⟩ := rv
  exact ⟨.str b, H', I', ⟨_, rfl⟩, q2⟩
def stR (R : D → Prop) : D → Prop
  | .str n => R (.str n)
  | _ => False
theorem w_stR {R : D → Prop} {n : Str} : stR R (.str n) = R (.str n) := rfl
def fReprOw (C : Addr) (F : Spec) : DFn
  | [x], R => asO C (fun _ _ => True) x ∧ F [x] (stR R) noX
  | _, _ => False
theorem w_fReprOw {C : Addr} {F : Spec} {x : D} {R : D → Prop} : fReprOw C F [x] R = (asO C (fun _ _ => True) x ∧ F [x] (stR R) noX) := rfl
theorem b_reprOw (hu : X.A.units + 64 < cLine) (o : Hx.Own X.K C "__repr__" g) (G : FnOk X.prog X.w X.K X.mg X.base (L2.CX X.prog X.w) k g fd ps (spD F)) (hb : Binds X.K fd ps []) (hr : Room (k + 1) X.A) : CallOk X (.builtin "repr") (fReprOw C F) := by
  refine ⟨_, call_reprOw hu o G hb hr, fun c σ H S env xs vs R kn r t Q q => ?_⟩
  match xs, t with
  | [x], t2 =>
  obtain ⟨t0, t3⟩ := t2
  obtain ⟨v, rfl, r1⟩ := rep1 r
  cases x <;> try exact (show False from t0).elim
  obtain ⟨rfl, _⟩ := t0
  obtain ⟨a, dx, vs, rfl, h1, hn, l1⟩ := obj_of kn r1
  refine ⟨a, dx, _, rfl, h1, sp_call kn xok0 (repL_cons r1 repL_nil) t3 fun v H' S' d k' s' r' t' => ?_⟩
  cases d <;> try exact (show False from t').elim
  exact ⟨_, r', q _ H' S' (.str _) k' s' rfl t'⟩
def xTruOw (C : Addr) (F : Spec) (Ta : DT) : DTT := fun env R Rx => Ta env (fun x => asO C (fun _ _ => True) x ∧ F [x] (asB R) noX) Rx
def fBool : DFn
  | [.bl b], R => R (.bl b)
  | [.int i], R => R (.bl (i != 0))
  | _, _ => False
theorem w_fBoolB {b : Bool} {R : D → Prop} : fBool [.bl b] R = R (.bl b) := rfl
theorem w_fBoolI {i : Int} {R : D → Prop} : fBool [.int i] R = R (.bl (i != 0)) := rfl
end
end DL
namespace Hx
open PySem PySem.Spec L2
theorem relB_ok {v : V} {u : Value} (h : relB v u = true) : RelV v u := by
  unfold relB at h
  split at h
  · obtain rfl := of_decide_eq_true h
    exact ⟨_, rfl⟩
  · obtain rfl := of_decide_eq_true h
    exact ⟨_, rfl⟩
  · obtain rfl := of_decide_eq_true h
    rfl
  · rfl
  · cases h
end Hx
namespace DL
open PySem PySem.Spec L2
variable [TbC]
/-- a def that says super(): its function -/
structure Dsup (K : PySem.W.Frag) (fl x qual : Str) (st : Stmt) (D : Addr) where
  f : Addr
  cc : Addr
  cda : Addr
  fd : FuncData
  F : EXS.SupFn K fl x qual (defArgs st) (defBody st) (defScope st) D f cc cda fd
theorem Dsup.binds {K : PySem.W.Frag} {fl x qual : Str} {st : Stmt} {C : Addr} {ps : List Str} (D : Dsup K fl x qual st C)
    (h : ∀ (kV doc pm cdv ct : Value) (an : Option Addr) (cc : Addr) (us : List Value), us.length = ps.length → bindArgs (PySem.W.ksFn x qual (defArgs st) (defBody st) (defScope st) .none kV doc pm an cdv ct cc) ⟨us, []⟩ = pure (ps.zip us)) : Binds K D.fd ps [] := by
  obtain ⟨_, _, _, dV, _, _, _, _, _, _, _, _, _, _, _, _, _, _, _, e, _, _, _, _, _, _, _, e2⟩ := D.F.ex
  rw [e, e2]
  exact Binds.all (h _ _ _ _ _ _ _)
theorem w_toRest {C C' : Addr} {U : List Str → List D → Prop} {ks : List Str} {xs : List D} : toRest C U (.obj C' ks xs) = (C' = C ∧ U ks xs) := rfl
theorem w_xCon {C : Addr} {f : Str} {d0 : D} {Te : DT} {env : En} {R : D → Prop} {Rx : Er → Prop} : xCon C f d0 Te env R Rx = Te env (asO C fun ks xs => fld ks xs f = none ∧ R d0) Rx := rfl
theorem w_xAlt {T U : DT} {env : En} {R : D → Prop} {Rx : Er → Prop} : xAlt T U env R Rx = (T env R Rx ∨ U env R Rx) := rfl
section
end
end DL
namespace ENK
open PySem PySem.Spec PyProof.Rows L2
end ENK
namespace DL
open PySem PySem.Spec L2
variable [TbC]
section
variable {X : Cx} {E : XK} {a : Expr} {p pos : Pos} {Tl Tk : DTA}
def fEnumK (R : List D → Prop) (ds : List D) : List D → Prop
  | [.int k] => match ds with
    | [.lst xs] => -(2 ^ 63) ≤ k ∧ k < 2 ^ 63 ∧ R (nums k xs)
    | _ => False
  | _ => False
def xEnumK (Tl Tk : DTA) : DTI := fun env R Rx => Tl env (fun ds => Tk env (fun es => fEnumK R ds es) Rx) Rx
theorem w_xEnumK {Tl Tk : DTA} {env : En} {R : List D → Prop} {Rx : Er → Prop} : xEnumK Tl Tk env R Rx = Tl env (fun ds => Tk env (fun es => fEnumK R ds es) Rx) Rx := rfl
theorem w_fEnumK {R : List D → Prop} {xs : List D} {k : Int} : fEnumK R [.lst xs] [.int k] = (-(2 ^ 63) ≤ k ∧ k < 2 ^ 63 ∧ R (nums k xs)) := rfl
end
end DL
namespace DL
open PySem PySem.Spec L2 PyProof.Rows
variable [TbC]
section
variable {X : Cx}
def fAnyI : DFn
  | [.lst xs], R => ∃ ns, asInts xs = some ns ∧ R (.bl (ns.any fun n => n != 0))
  | [.tup xs], R => ∃ ns, asInts xs = some ns ∧ R (.bl (ns.any fun n => n != 0))
  | _, _ => False
theorem w_fAnyI {xs : List D} {R : D → Prop} : fAnyI [.lst xs] R = ∃ ns, asInts xs = some ns ∧ R (.bl (ns.any fun n => n != 0)) := rfl
theorem w_fAnyIT {xs : List D} {R : D → Prop} : fAnyI [.tup xs] R = ∃ ns, asInts xs = some ns ∧ R (.bl (ns.any fun n => n != 0)) := rfl
end
end DL
namespace DL
open PySem PySem.Spec L2 PyProof.Rows
variable [TbC]
def fLenSetL (R : D → Prop) : D → Prop
  | .lst xs => ∃ ns, asInts xs = some ns ∧ ns.length ≤ 60 ∧ ∀ out : List Int, out.Nodup → (∀ k, k ∈ out ↔ k ∈ ns) → R (.int (out.length : Nat))
  | _ => False
def xLenSetL (Ta : DT) : DT := fun env R Rx => Ta env (fLenSetL R) Rx
theorem w_xLenSetL {Ta : DT} {env : En} {R : D → Prop} {Rx : Er → Prop} : xLenSetL Ta env R Rx = Ta env (fLenSetL R) Rx := rfl
theorem w_fLenSetL {xs : List D} {R : D → Prop} : fLenSetL R (.lst xs) = ∃ ns, asInts xs = some ns ∧ ns.length ≤ 60 ∧ ∀ out : List Int, out.Nodup → (∀ k, k ∈ out ↔ k ∈ ns) → R (.int (out.length : Nat)) := rfl
end DL
namespace DL
open PySem PySem.Spec L2
variable [TbC]
def xItAlt (T U : DTI) : DTI := fun env R Rx => T env R Rx ∨ U env R Rx
theorem w_xItAlt {T U : DTI} {env : En} {R : List D → Prop} {Rx : Er → Prop} : xItAlt T U env R Rx = (T env R Rx ∨ U env R Rx) := rfl
theorem i_alt {X : Cx} {E : XK} {tg e : Expr} {T U : DTI} (h : DI X E tg e T) (h2 : DI X E tg e U) : DI X E tg e (xItAlt T U) := by
  obtain ⟨t, p, s⟩ := h
  obtain ⟨t2, p2, s2⟩ := h2
  refine ⟨fun σ H Q => t σ H Q ∨ t2 σ H Q, ⟨fun pins s0 σ H Q I q => ?_⟩, fun c σ H S env R Rx x k q Q hq => ?_⟩
  · rcases q with q | q
    · exact p.run pins s0 σ H Q I q
    · exact p2.run pins s0 σ H Q I q
  · rcases q with q | q
    · exact .inl (s c σ H S env R Rx x k q Q hq)
    · exact .inr (s2 c σ H S env R Rx x k q Q hq)
end DL
namespace DL
open PySem PySem.Spec L2
end DL
namespace DL
open PySem PySem.Spec L2
variable [TbC]
theorem fIsiO_same {C a : Addr} {ks : List Str} {xs : List D} {R : D → Prop} : fIsiO C [.obj C ks xs, .adr a] R = (a = C ∧ R (.bl true)) := by
  unfold fIsiO
  simp [isO]
end DL
namespace DL
open PySem PySem.Spec L2
variable [TbC]
theorem perm_rep {B : Option Addr} {S : Hp} {m : Nat} {xs : List D} {vs : List V} (l : RepL B S xs vs) (idx : List Nat) : RepL B S (gPerm 0 m idx [] xs) (gPerm 0 m idx [] vs) := by
  have hl := l.length
  unfold gPerm
  by_cases z : xs.length = m
  · rw [if_pos ⟨rfl, z⟩, if_pos ⟨rfl, hl.trans z⟩]
    exact rep_pick l idx
  · rw [if_neg fun y => z y.2, if_neg fun y => z (hl.symm.trans y.2)]
    exact repL_nil
def xMakeK (F : Spec) (m : Nat) (idx : List Nat) (Tk : DTA) : DT := fun env R Rx => Tk env (fun zs => zs.length = m ∧ F (gPerm 0 m idx [] zs) R Rx) Rx
theorem w_xMakeK {F : Spec} {m : Nat} {idx : List Nat} {Tk : DTA} {env : En} {R : D → Prop} {Rx : Er → Prop} : xMakeK F m idx Tk env R Rx = Tk env (fun zs => zs.length = m ∧ F (gPerm 0 m idx [] zs) R Rx) Rx := rfl
section
variable {X : Cx} {E : XK} {CX : CXT} {k m : Nat} {C f : Addr} {fd : FuncData} {ps ks : List Str} {F : Spec} {x : Str} {kws : List Keyword} {Tk : DTA} {pos p : Pos} {idx idx0 : List Nat}
theorem d_makeK0 (M : Mk X.K C f) (G : FnOk X.prog X.w X.K X.mg X.base CX k f fd ps (spI C F)) (hr : Room (k + 1) X.A) (hm : X.mg x = some (.ref C)) (hb : KBd X.K fd ps ks (gPerm 1 m idx0)) (hx : Passes CX X E) (hkw : DK X E kws Tk)
    (hk : ks.length = m) (hs : ∀ {α : Type} (y : α) (zs : List α), zs.length = m → gPerm 1 m idx0 [y] zs = y :: gPerm 0 m idx [] zs) (hp : ∀ {α : Type} (y : α) (zs : List α), zs.length = m → (gPerm 1 m idx0 [y] zs).length = ps.length)
    (hg : Gl X x := by rfl) (hall : (backToKw pos (keywordEach kws X.env)).all (·.1.isSome) = true := by rfl) (hks : (backToKw pos (keywordEach kws X.env)).filterMap (·.1) = ks := by rfl) (hdb : (x == ("__debug__" : Str)) = false := by decide)
    (hpl : ((backTo pos (starEach [] X.env)).any (·.1) || (backToKw pos (keywordEach kws X.env)).any (·.1.isNone)) = false := by rfl) :
    DE X E (.Call (.Name x p) [] kws pos) (xMakeK F m idx Tk) := by
  obtain ⟨tk, pk, sk⟩ := hkw
  have hb2 : KBn X.K fd ps 1 ks (gPerm 1 m idx0) (gPerm 1 m idx0) := ⟨fun s us ws X0 l1 l2 => hb.to s us ws X0 (by
    match us, l1 with
    | [y], _ => exact hp y ws (l2.trans hk)), hb.rel⟩
  refine ⟨_, pe_makeK0 M G hr hg hm hb2 hx pk hall hks hdb hpl, fun c σ H S env R Rx x k t Q q => sk c σ H S env _ Rx x k t _ fun ws H1 S1 zs k1 s1 l1 t1 => ?_⟩
  obtain ⟨hz, t1⟩ := t1
  have hw : ws.length = m := by rw [l1.length, hz]
  refine ⟨rfl, by rw [hw, hk], fun a dx hxa hxd ne => ?_⟩
  rw [hs _ ws hw]
  exact sp_make k1 x (perm_rep l1 idx) t1 hxa hxd ne fun v H' S' d k' s' r' z => q v H' S' d k' (s1.trans s') r' z
end
end DL
namespace DL
open PySem PySem.Spec L2
variable [TbC]
section
variable {X : Cx} {E : XK} {e : Expr} {T U : DTT}
def xAltT (T U : DTT) : DTT := fun env R Rx => T env R Rx ∨ U env R Rx
theorem w_xAltT {T U : DTT} {env : En} {R : Bool → Prop} {Rx : Er → Prop} : xAltT T U env R Rx = (T env R Rx ∨ U env R Rx) := rfl
theorem w_xTruOw {C : Addr} {F : Spec} {Ta : DT} {env : En} {R : Bool → Prop} {Rx : Er → Prop} : xTruOw C F Ta env R Rx = Ta env (fun x => asO C (fun _ _ => True) x ∧ F [x] (asB R) noX) Rx := rfl
end
end DL
namespace DL
open PySem PySem.Spec L2
variable [TbC]
theorem w_valE_nil : valE [] = [] := rfl
theorem w_valE_val {d : D} {l : En} : valE (some (.val d) :: l) = some (.val d) :: valE l := rfl
theorem w_valE_own {xs : List D} {l : En} : valE (some (.own xs) :: l) = none :: valE l := rfl
theorem w_valE_tre {t : T} {as : List Addr} {l : En} : valE (some (.tre t as) :: l) = none :: valE l := rfl
theorem w_valE_none {l : En} : valE (none :: l) = none :: valE l := rfl
/-- addresses known to nobody else -/
def New (c : Fm) (σ : St) (S : Hp) (env : En) (as : List Addr) : Prop := ∀ a ∈ as, S a = none ∧ c.H0 a = none ∧ Free σ env a
section
variable {c : Fm} {σ : St} {H H' S S' : Hp} {env : En} {as bs : List Addr} {t : T} {ts : List T} {v : V} {vs : List V} {i : Nat}
theorem New.nil : New c σ S env [] := fun a m => nomatch m
theorem Kn.frzT (k : Kn c σ H S env) (q : New c σ S env as) : Kn c σ H (frzS as H S) env ∧ Same S (frzS as H S) := by
  have s := frzS_same (H := H) fun a m => (q a m).1
  refine ⟨⟨k.kf.frzT fun a m => ⟨(q a m).1, (q a m).2.1⟩, k.len, fun j x e => ?_, k.apart⟩, s⟩
  obtain ⟨u, eu, r⟩ := k.sl j x e
  refine ⟨u, eu, r.keep rfl s fun a fa => ?_⟩
  obtain ⟨f1, f2, _⟩ := r.foot a fa
  exact ⟨by rw [frzS_out fun z => (q a z).2.2 j x u e eu fa]; exact f1, f2, fun _ e => e⟩
/-- what stood at H stands behind what the frame at H has done -/
theorem New.keep (k : Kn c σ H S env) (k' : Kf (c.at H S) H' S') (q : New c σ S env as) (mu : ∀ a ∈ as, Mu (H a)) : New c σ S' env as ∧ ∀ a ∈ as, ∀ o, H a = some o → H' a = some o :=
  ⟨fun a m => ⟨k'.new a (q a m).1 (mu a m), (q a m).2.1, (q a m).2.2⟩, fun a m o e => k'.old a o e (k.kf.x_ne0 (q a m).2.1)⟩
theorem New.app (q1 : New c σ S env as) (q2 : New c σ S env bs) : New c σ S env (as ++ bs) := fun a m => by
  rcases List.mem_append.mp m with m | m
  · exact q1 a m
  · exact q2 a m
end
def SmU (E : XK) (t : TE) (T : DT) : Prop := ∀ (c : Fm) (σ : St) (H S : Hp) (env : En) (R : D → Prop) (Rx : Er → Prop), XOk c E Rx → Kn c σ H S env → T env R Rx →
  ∀ Q : VK, (∀ v H' S' as d, Kn c σ H' S' env → Same S S' → RepT c.B S' H' d.tr v as → as.Nodup → New c σ S' env as → R d → Q v H') → t σ H Q
def DU (X : Cx) (E : XK) (e : Expr) (T : DT) : Prop := ∃ t, PE X e t ∧ SmU E t T
theorem RepTL.app {B : Option Addr} {S H : Hp} {us : List T} {ws : List V} {bs : List Addr} : ∀ {ts : List T} {vs : List V} {as : List Addr}, RepTL B S H ts vs as → RepTL B S H us ws bs → RepTL B S H (ts ++ us) (vs ++ ws) (as ++ bs)
  | [], vs, as, r, q => by
    rw [RepTL] at r
    rw [r.1, r.2]
    exact q
  | t :: ts, vs, as, r, q => by
    rw [RepTL] at r
    obtain ⟨v, us2, b1, b2, rfl, r1, r2, rfl⟩ := r
    rw [List.cons_append, RepTL]
    exact ⟨v, us2 ++ ws, b1, b2 ++ bs, rfl, r1, RepTL.app r2 q, by rw [List.append_assoc]⟩
theorem RepTL.len {B : Option Addr} {S H : Hp} : ∀ {ts : List T} {vs : List V} {as : List Addr}, RepTL B S H ts vs as → vs.length = ts.length
  | [], vs, as, r => by
    rw [RepTL] at r
    rw [r.1]
    rfl
  | t :: ts, vs, as, r => by
    rw [RepTL] at r
    obtain ⟨v, us2, b1, b2, rfl, r1, r2, rfl⟩ := r
    rw [List.length_cons, List.length_cons, RepTL.len r2]
section
variable {X : Cx} {E : XK} {e a b : Expr} {es : List Expr} {T Ta Tb : DT} {TF : DTF} {Tl : DTA} {p pos : Pos}
def xConsU (Ta : DT) (Tl : DTA) : DTA := fun env R Rx => Ta env (fun x => Tl (valE env) (fun xs => R (x :: xs)) Rx) Rx
theorem w_consU {env : En} {R : List D → Prop} {Rx : Er → Prop} : xConsU Ta Tl env R Rx = Ta env (fun x => Tl (valE env) (fun xs => R (x :: xs)) Rx) Rx := rfl
end
section
end
section
end
def putT (i : Nat) (t : T) (as : List Addr) (env : En) : En := env.set i (some (.tre t as))
theorem w_putT_0 {t : T} {as : List Addr} {o : Option DV} {l : En} : putT 0 t as (o :: l) = some (.tre t as) :: l := rfl
theorem w_putT_s {n : Nat} {t : T} {as : List Addr} {o : Option DV} {l : En} : putT (n + 1) t as (o :: l) = o :: putT n t as l := rfl
def zSetU (i : Nat) (T : DT) : DTS := fun Q env => T env (fun d => ∀ as, Q.nx (putT i d.tr as env)) Q.ex
theorem w_setU {i : Nat} {T : DT} {Q : DEnds} {env : En} : zSetU i T Q env = T env (fun d => ∀ as, Q.nx (putT i d.tr as env)) Q.ex := rfl
section
end
end DL
namespace DL
open PySem PySem.Spec L2
variable [TbC]
def T.at' : List Nat → T → Option T
  | [], t => some t
  | j :: r, t => match t with
    | .lst ts => (ts[j]?).bind (T.at' r)
    | .tup ts => (ts[j]?).bind (T.at' r)
    | _ => none
def T.setAt : List Nat → T → T → T
  | [], _, u => u
  | j :: r, t, u => match t with
    | .lst ts => match ts[j]? with
      | some t => .lst (ts.set j (T.setAt r t u))
      | none => .lst ts
    | .tup ts => match ts[j]? with
      | some t => .tup (ts.set j (T.setAt r t u))
      | none => .tup ts
    | t => t
theorem w_at_nil {t : T} : T.at' [] t = some t := rfl
theorem w_at_lst {j : Nat} {r : List Nat} {ts : List T} : T.at' (j :: r) (.lst ts) = (ts[j]?).bind (T.at' r) := rfl
theorem w_at_tup {j : Nat} {r : List Nat} {ts : List T} : T.at' (j :: r) (.tup ts) = (ts[j]?).bind (T.at' r) := rfl
theorem w_setAt_nil {t u : T} : T.setAt [] t u = u := rfl
theorem w_setAt_l0 {r : List Nat} {ts : List T} {t u : T} : T.setAt (0 :: r) (.lst (t :: ts)) u = .lst (T.setAt r t u :: ts) := rfl
/-- what stands at a place -/
def VAt (H : Hp) : List Nat → V → V → Prop
  | [], v, u => u = v
  | j :: r, v, u => ∃ a vs w, v = .ref a ∧ (H a = some (.lst vs) ∨ H a = some (.tup vs)) ∧ vs[j]? = some w ∧ VAt H r w u
theorem RepTL.at {B : Option Addr} {S H : Hp} : ∀ {ts : List T} {vs : List V} {bs : List Addr} {j : Nat} {tj : T}, RepTL B S H ts vs bs → ts[j]? = some tj →
    ∃ w A bj C, vs[j]? = some w ∧ RepT B S H tj w bj ∧ bs = A ++ (bj ++ C) ∧ ∀ (t' : T) (b' : List Addr) (H' : Hp), (∀ a, a ∈ A ∨ a ∈ C → ∀ o, H a = some o → H' a = some o) → RepT B S H' t' w b' → RepTL B S H' (ts.set j t') vs (A ++ (b' ++ C))
  | [], _, _, j, tj, _, e => by simp at e
  | t :: ts, vs, bs, 0, tj, r, e => by
    rw [RepTL] at r
    obtain ⟨v, ws, b1, b2, rfl, r1, r2, rfl⟩ := r
    simp at e
    subst e
    refine ⟨v, [], b1, b2, rfl, r1, rfl, fun t' b' H' q r' => ?_⟩
    rw [List.set_cons_zero, List.nil_append, RepTL]
    exact ⟨v, ws, b', b2, rfl, r', repTL_mono (Same.refl S) _ _ _ (fun a m => q a (.inr m)) r2, rfl⟩
  | t :: ts, vs, bs, j + 1, tj, r, e => by
    rw [RepTL] at r
    obtain ⟨v, ws, b1, b2, rfl, r1, r2, rfl⟩ := r
    obtain ⟨w, A, bj, C, e1, e2, rfl, e4⟩ := RepTL.at (j := j) r2 (by simpa using e)
    refine ⟨w, b1 ++ A, bj, C, by simpa using e1, e2, by rw [List.append_assoc], fun t' b' H' q r' => ?_⟩
    rw [List.set_cons_succ, List.append_assoc, RepTL]
    exact ⟨v, ws, b1, A ++ (b' ++ C), rfl, repT_mono (Same.refl S) _ _ _ (fun a m => q a (.inl (List.mem_append_left _ m))) r1, e4 t' b' H' (fun a m => q a (m.imp (List.mem_append_right _) id)) r', rfl⟩
/-- .. stays, where the frame at H has gone on -/
theorem VAt.keep {B : Option Addr} {S H H' S' : Hp} (sub : Same S H) (s : Same S S') (sub' : Same S' H') : ∀ (path : List Nat) {t : T} {v : V} {as : List Addr} {u : V}, RepT B S H t v as → T.at' path t ≠ none → (∀ a ∈ as, ∀ o, H a = some o → H' a = some o) → VAt H path v u → VAt H' path v u
  | [], t, v, as, u, r, _, _, q => q
  | j :: rr, t, v, as, u, r, ne, k, q => by
    obtain ⟨a, vs, w, rfl, ea, ew, q⟩ := q
    cases t with
    | dat d => exact (ne rfl).elim
    | obj C ks us => exact (ne rfl).elim
    | lst us =>
      rw [RepT] at r
      obtain ⟨a2, vs2, bs, e0, e1, l, rfl⟩ := r
      cases e0
      rcases ea with ea | ea <;> rw [e1] at ea <;> cases ea
      rw [w_at_lst] at ne
      cases ej : us[j]? with
      | none => rw [ej] at ne; exact (ne rfl).elim
      | some tj =>
        rw [ej] at ne
        obtain ⟨w', A, bj, C, ew', rj, rfl, _⟩ := l.at ej
        rw [ew] at ew'
        cases ew'
        exact ⟨a, vs, w, rfl, .inl (k a List.mem_cons_self _ e1), ew, VAt.keep sub s sub' rr rj ne (fun b m => k b (List.mem_cons_of_mem _ (List.mem_append_right _ (List.mem_append_left _ m)))) q⟩
    | tup us =>
      rw [RepT] at r
      obtain ⟨a2, vs2, e0, e1, l⟩ := r
      cases e0
      have e1h := sub _ _ e1
      rcases ea with ea | ea <;> rw [e1h] at ea <;> cases ea
      rw [w_at_tup] at ne
      cases ej : us[j]? with
      | none => rw [ej] at ne; exact (ne rfl).elim
      | some tj =>
        rw [ej] at ne
        obtain ⟨w', A, bj, C, ew', rj, rfl, _⟩ := l.at ej
        rw [ew] at ew'
        cases ew'
        exact ⟨a, vs, w, rfl, .inr (sub' _ _ (s _ _ e1)), ew, VAt.keep sub s sub' rr rj ne (fun b m => k b (List.mem_append_right _ (List.mem_append_left _ m))) q⟩
end DL
namespace DL
open PySem PySem.Spec L2
variable [TbC]
theorem w_tre_inj {t u : T} {as bs : List Addr} : (DV.tre t as = DV.tre u bs) = (t = u ∧ as = bs) := by rw [DV.tre.injEq]
def isTre (i : Nat) (env : En) (P : T → List Addr → Prop) : Prop := ∃ t as, env[i]? = some (some (.tre t as)) ∧ P t as
theorem isTre_at {i : Nat} {env : En} {t : T} {as : List Addr} {P : T → List Addr → Prop} (h : env[i]? = some (some (.tre t as))) : isTre i env P = P t as := by
  refine propext ⟨fun ⟨t', as', e, q⟩ => ?_, fun q => ⟨t, as, h, q⟩⟩
  rw [h] at e
  cases e
  exact q
theorem w_isTre_0 {t : T} {as : List Addr} {l : En} {P : T → List Addr → Prop} : isTre 0 (some (.tre t as) :: l) P = P t as := isTre_at rfl
theorem w_isTre_s {n : Nat} {o : Option DV} {l : En} {P : T → List Addr → Prop} : isTre (n + 1) (o :: l) P = isTre n l P := rfl
theorem VAt.inj {H : Hp} : ∀ {path : List Nat} {v u w : V}, VAt H path v u → VAt H path v w → u = w
  | [], _, _, _, q, q2 => by cases q; cases q2; rfl
  | j :: r, v, u, w, q, q2 => by
    obtain ⟨a, vs, x, rfl, ea, ex, q⟩ := q
    obtain ⟨a2, vs2, x2, e, ea2, ex2, q2⟩ := q2
    cases e
    have ev : vs2 = vs := by rcases ea with ea | ea <;> rcases ea2 with ea2 | ea2 <;> rw [ea] at ea2 <;> cases ea2 <;> rfl
    subst ev
    rw [ex] at ex2
    cases ex2
    exact VAt.inj q q2
section
end
abbrev DTP := En → (List Nat → Prop) → (Er → Prop) → Prop
def xPlN (i : Nat) : DTP := fun env R _ => isTre i env fun _ _ => R []
theorem w_plN {i : Nat} {env : En} {R : List Nat → Prop} {Rx : Er → Prop} : xPlN i env R Rx = isTre i env fun _ _ => R [] := rfl
/-- one step further -/
def ixAt (path : List Nat) (tt : T) (k : Int) (R : List Nat → Prop) : Prop := ∃ ts j, (T.at' path tt = some (.lst ts) ∨ T.at' path tt = some (.tup ts)) ∧ ixN ts.length k = some j ∧ R (path ++ [j])
theorem ixAt_lst {path : List Nat} {tt : T} {k : Int} {ts : List T} {R : List Nat → Prop} (h : T.at' path tt = some (.lst ts)) : ixAt path tt k R = ∃ j, ixN ts.length k = some j ∧ R (path ++ [j]) := by
  refine propext ⟨fun ⟨us, j, e, ej, q⟩ => ?_, fun ⟨j, ej, q⟩ => ⟨ts, j, .inl h, ej, q⟩⟩
  rcases e with e | e <;> rw [h] at e <;> cases e
  exact ⟨j, ej, q⟩
theorem w_ixAt_0 {k : Int} {ts : List T} {R : List Nat → Prop} : ixAt [] (.lst ts) k R = ∃ j, ixN ts.length k = some j ∧ R ([] ++ [j]) := ixAt_lst rfl
def xPlI (i : Nat) (Tp : DTP) (Tb : DT) : DTP := fun env R Rx => Tp env (fun path => Tb (thaw env) (asI fun k => isTre i env fun tt _ => ixAt path tt k R) Rx) Rx
theorem w_plI {i : Nat} {Tp : DTP} {Tb : DT} {env : En} {R : List Nat → Prop} {Rx : Er → Prop} : xPlI i Tp Tb env R Rx = Tp env (fun path => Tb (thaw env) (asI fun k => isTre i env fun tt _ => ixAt path tt k R) Rx) Rx := rfl
section
variable {X : Cx} {E : XK} {pos p1 : Pos} {a b e : Expr} {Ta Tb Tv Ti : DT} {Tp : DTP} {i : Nat}
def zAppL (i : Nat) (Tp : DTP) (Ta : DT) : DTS := fun Q env => Tp env (fun path => isTre i env fun tt _ => ∃ us, T.at' path tt = some (.lst us) ∧ Ta (valE env) (fun d => us.length < sizeLine ∧ ∀ as', Q.nx (putT i (T.setAt path tt (.lst (us ++ [d.tr]))) as' env)) Q.ex) Q.ex
theorem w_appL {Q : DEnds} {env : En} : zAppL i Tp Ta Q env = Tp env (fun path => isTre i env fun tt _ => ∃ us, T.at' path tt = some (.lst us) ∧ Ta (valE env) (fun d => us.length < sizeLine ∧ ∀ as', Q.nx (putT i (T.setAt path tt (.lst (us ++ [d.tr]))) as' env)) Q.ex) Q.ex := rfl
def zClrL (i : Nat) (Tp : DTP) : DTS := fun Q env => Tp env (fun path => isTre i env fun tt _ => ∃ us, T.at' path tt = some (.lst us) ∧ ∀ as', Q.nx (putT i (T.setAt path tt (.lst [])) as' env)) Q.ex
theorem w_clrL {Q : DEnds} {env : En} : zClrL i Tp Q env = Tp env (fun path => isTre i env fun tt _ => ∃ us, T.at' path tt = some (.lst us) ∧ ∀ as', Q.nx (putT i (T.setAt path tt (.lst [])) as' env)) Q.ex := rfl
def zStL (i : Nat) (Tv : DT) (Tp : DTP) (Ti : DT) : DTS := fun Q env => Tv env (fun d => Tp env (fun path => Ti (thaw env) (asI fun k => isTre i env fun tt _ => ∃ us j, T.at' path tt = some (.lst us) ∧ ixN us.length k = some j ∧ ∀ as', Q.nx (putT i (T.setAt path tt (.lst (us.set j d.tr))) as' env)) Q.ex) Q.ex) Q.ex
theorem w_stL {Q : DEnds} {env : En} : zStL i Tv Tp Ti Q env = Tv env (fun d => Tp env (fun path => Ti (thaw env) (asI fun k => isTre i env fun tt _ => ∃ us j, T.at' path tt = some (.lst us) ∧ ixN us.length k = some j ∧ ∀ as', Q.nx (putT i (T.setAt path tt (.lst (us.set j d.tr))) as' env)) Q.ex) Q.ex) Q.ex := rfl
end
end DL
namespace DL
open PySem PySem.Spec L2
variable [TbC]
section
end
section
end
theorem w_trs_ds {ds : List D} : T.ds (D.trs ds) = ds := trs_ds ds
theorem w_tr_d {d : D} : d.tr.d = d := tr_d d
theorem w_trs_length {ds : List D} : (D.trs ds).length = ds.length := trs_length ds
theorem w_tr_int {i : Int} : (D.int i).tr = .dat (.int i) := rfl
mutual
theorem RepT.nt {B : Option Addr} {S H : Hp} : ∀ {t : T} {v : V} {as : List Addr}, RepT B S H t v as → ∀ a ∈ as, ∀ vs, H a ≠ some (.tup vs)
  | .dat d, v, as, r, a, m => by
    rw [RepT] at r
    rw [r.2] at m
    cases m
  | .lst ts, v, as, r, a, m => by
    rw [RepT] at r
    obtain ⟨a0, vs, bs, e, e2, l, rfl⟩ := r
    rcases List.mem_cons.mp m with rfl | m
    · rw [e2]
      exact fun vs z => nomatch z
    · exact RepTL.nt l a m
  | .tup ts, v, as, r, a, m => by
    rw [RepT] at r
    obtain ⟨a0, vs, e, e2, l⟩ := r
    exact RepTL.nt l a m
  | .obj C ks ts, v, as, r, a, m => by
    rw [RepT] at r
    obtain ⟨a0, dx, vs, bs, e, e2, e3, n, l, rfl⟩ := r
    rcases List.mem_cons.mp m with rfl | m
    · rw [e2]
      exact fun vs z => nomatch z
    rcases List.mem_cons.mp m with rfl | m
    · rw [e3]
      exact fun vs z => nomatch z
    · exact RepTL.nt l a m
theorem RepTL.nt {B : Option Addr} {S H : Hp} : ∀ {ts : List T} {vs : List V} {as : List Addr}, RepTL B S H ts vs as → ∀ a ∈ as, ∀ vs, H a ≠ some (.tup vs)
  | [], _, _, r, a, m => by
    rw [RepTL] at r
    rw [r.2] at m
    cases m
  | t :: ts, vs, as, r, a, m => by
    rw [RepTL] at r
    obtain ⟨v, ws, bs, cs, e, r1, r2, rfl⟩ := r
    rcases List.mem_append.mp m with m | m
    · exact RepT.nt r1 a m
    · exact RepTL.nt r2 a m
end
section
variable {X : Cx} {E : XK} {e a b : Expr} {T Ta : DT} {TF : DTF} {p pos : Pos}
def xLendU (T : DT) : DT := fun env R Rx => T (thaw env) (fun d => d.dat = true ∧ R d) Rx
theorem w_lendU {env : En} {R : D → Prop} {Rx : Er → Prop} : xLendU T env R Rx = T (thaw env) (fun d => d.dat = true ∧ R d) Rx := rfl
def xLendF (TF : DTF) : DTF := fun env R Rx => TF (thaw env) (fun ds => flatL ds = true ∧ R ds) Rx
theorem w_lendF {env : En} {R : List D → Prop} {Rx : Er → Prop} : xLendF TF env R Rx = TF (thaw env) (fun ds => flatL ds = true ∧ R ds) Rx := rfl
end
section
variable {X : Cx} {E : XK} {pos p1 : Pos} {e b a : Expr} {st : Stmt} {sts : List Stmt} {T : DTS} {Tu Ta : DT} {TF : DTF}
def zFrzU (i : Nat) (T : DTS) : DTS := fun Q env => isTre i env fun tt _ => T Q (put i tt.d env)
theorem w_frzU {i : Nat} {Q : DEnds} {env : En} : zFrzU i T Q env = isTre i env fun tt _ => T Q (put i tt.d env) := rfl
def zRetU (i : Nat) : DTS := fun Q env => isTre i env fun tt _ => ∃ d : D, tt = d.tr ∧ Q.rt .tr d
theorem w_retU {i : Nat} {Q : DEnds} {env : En} : zRetU i Q env = isTre i env fun tt _ => ∃ d : D, tt = d.tr ∧ Q.rt .tr d := rfl
def zRetUe (Tu : DT) : DTS := fun Q env => Tu env (Q.rt .tr) Q.ex
theorem w_retUe {Q : DEnds} {env : En} : zRetUe Tu Q env = Tu env (Q.rt .tr) Q.ex := rfl
def zAppF (TF : DTF) (Ta : DT) : DTS := fun Q env => TF env (fun ds => Ta (valE env) (fun d => ds.length < sizeLine ∧ Q.nx env) Q.ex) Q.ex
theorem w_appF {Q : DEnds} {env : En} : zAppF TF Ta Q env = TF env (fun ds => Ta (valE env) (fun d => ds.length < sizeLine ∧ Q.nx env) Q.ex) Q.ex := rfl
theorem s_appF {apos p2 : Pos} (hb : DF X E b TF) (h : DE X E a Ta)
    (hp : ∀ {to te : TE}, PE X b to → PE X a te → PE X (.Call (.Attribute b "append" apos) [a] [] p2) (tBM X.K "list" rAppend to (tCons te tNil)))
    (hs : swapsWith (.Call (.Attribute b "append" apos) [a] [] p2) none pos.line X.env = pure false := by rfl) :
    DS X E (.Expr (.Call (.Attribute b "append" apos) [a] [] p2) pos) (zAppF TF Ta) := by
  obtain ⟨to, po, so⟩ := hb
  obtain ⟨te, pe, se⟩ := h
  refine ⟨_, ps_expr (hp po pe) hs, fun c σ H S env Q x k t D m => so c σ H S env _ _ x k t _ fun p vs H1 S1 ds k1 s1 n0 f n2 e1 l1 t1 => ?_⟩
  refine ⟨.inl ⟨rfl, vs, SqL.of e1⟩, se (c.at H1 S1) σ H1 S1 (valE env) _ _ (x.at k1.kf) k1.vals t1 _ fun w H2 S2 d k2 s2 r2 t2 => ?_⟩
  have k3 := k1.back k2.kf
  have e2 := k2.kf.old p _ e1 (k1.kf.x_ne0 n0)
  have n3 : S2 p = none := k2.kf.new p n2 (mu_lst e1)
  exact ⟨p, vs, w, rfl, rfl, e2, by rw [l1.length]; exact t2.1, m.1 σ _ S2 env (k3.updF n3 n0 e2 lst_ne f) (s1.trans s2) t2.2⟩
def zClrF (TF : DTF) : DTS := fun Q env => TF env (fun _ => Q.nx env) Q.ex
theorem w_clrF {Q : DEnds} {env : En} : zClrF TF Q env = TF env (fun _ => Q.nx env) Q.ex := rfl
/-- xs.clear(), xs of the frame's own -/
def zClrO (i : Nat) : DTS := fun Q env => ∃ xs, env[i]? = some (some (.own xs)) ∧ Q.nx (putO' i [] env)
theorem w_clrO_0 {xs : List D} {l : En} {Q : DEnds} : zClrO 0 Q (some (.own xs) :: l) = Q.nx (some (.own []) :: l) := by
  refine propext ⟨fun ⟨_, _, q⟩ => q, fun q => ⟨xs, rfl, q⟩⟩
theorem w_clrO {i : Nat} {Q : DEnds} {env : En} : zClrO i Q env = ∃ xs, env[i]? = some (some (.own xs)) ∧ Q.nx (putO' i [] env) := rfl
theorem s_clrO (i : Nat) {x : Str} {apos p2 : Pos} (hp : ∀ {to : TE}, PE X (.Name x p1) to → PE X (.Call (.Attribute (.Name x p1) "clear" apos) [] [] p2) (tBM0 X.K "list" rClear to)) (hN : X.N[i]? = some x := by rfl) (hv : Vis X.env.scope x := by first | exact Or.inl rfl | exact Or.inr (Or.inl rfl) | exact Or.inr (Or.inr rfl))
    (hd : (x == ("__debug__" : Str)) = false := by decide) (hcd : (x == ("__classdict__" : Str)) = false := by decide)
    (hs : swapsWith (.Call (.Attribute (.Name x p1) "clear" apos) [] [] p2) none pos.line X.env = pure false := by rfl) :
    DS X E (.Expr (.Call (.Attribute (.Name x p1) "clear" apos) [] [] p2) pos) (zClrO i) := by
  refine ⟨_, ps_expr (hp (pv i hN hv hd hcd)) hs, fun c σ H S env Q x k t D m => ?_⟩
  obtain ⟨xs, e, t⟩ := t
  obtain ⟨q, vs, e1, h0, h1, h2, l⟩ := own_of k e
  exact ⟨_, e1, .inl ⟨rfl, vs, SqL.of h2⟩, q, vs, rfl, rfl, h2, m.1 _ _ S _ (k.change e e1 repL_nil) (Same.refl S) t⟩
end
end DL
namespace DL
open PySem PySem.Spec L2
variable [TbC]
theorem w_setN {p : Addr} {f : Str} {Te : DT} {U : ITS} {R : Bool → List Str → List D → Prop} {Rx : Er → Prop} {nf : Bool} {ks : List Str} {xs : List D} {env : En} : jSetN p f Te U R Rx nf ks xs env = Te env (fun d => env[0]? = some (some (.val (.adr p))) ∧ f ∉ ks ∧ ks.length < 1000 ∧ U R noX nf (ks ++ [f]) (xs ++ [d]) env) Rx := rfl
mutual
/-- without tuples and objects -/
def D.nt : D → Bool
  | .lst xs => ntL xs
  | .non | .bl _ | .int _ | .str _ | .ty _ => true
  | .tup _ | .adr _ | .bag | .fn _ _ _ | .exc _ _ _ _ _ | .dct _ _ | .dcT _ _ | .obj _ _ _ => false
def ntL : List D → Bool
  | [] => true
  | x :: xs => x.nt && ntL xs
end
theorem w_nt_lst {xs : List D} : (D.lst xs).nt = ntL xs := rfl
theorem w_nt_int {i : Int} : (D.int i).nt = true := rfl
theorem w_nt_non : D.non.nt = true := rfl
theorem w_nt_bl {b : Bool} : (D.bl b).nt = true := rfl
theorem w_nt_str {s : Str} : (D.str s).nt = true := rfl
theorem w_ntL_nil : ntL [] = true := rfl
theorem w_ntL_cons {x : D} {xs : List D} : ntL (x :: xs) = (x.nt && ntL xs) := rfl
theorem w_ntL_ints {ns : List Int} : ntL (ns.map D.int) = true := by
  induction ns with
  | nil => rfl
  | cons n ns ih => rw [List.map_cons, w_ntL_cons, ih]; rfl
section
variable {X : Cx} {E : XK} {e : Expr} {T : DT}
def xNT (T : DT) : DT := fun env R Rx => T env (fun d => d.nt = true ∧ R d) Rx
theorem w_xNT {env : En} {R : D → Prop} {Rx : Er → Prop} : xNT T env R Rx = T env (fun d => d.nt = true ∧ R d) Rx := rfl
end
section
end
mutual
theorem rep_dat2 {B : Option Addr} {S H N : Hp} (sub : ∀ a vs, S a = some (.tup vs) → N a = some (.tup vs)) : ∀ (d : D) (v : V) (as : List Addr), d.dat = true → (∀ a ∈ as, N a = H a) → RepT B S H d.tr v as → Rep B N d v
  | .lst xs, v, as, q, h, r => by
    rw [D.tr, RepT] at r
    obtain ⟨a, vs, bs, e, e2, l, rfl⟩ := r
    rw [Rep]
    exact ⟨a, vs, e, (h a List.mem_cons_self).trans e2, repL_dat2 sub xs vs bs q (fun b m => h b (List.mem_cons_of_mem _ m)) l⟩
  | .tup xs, v, as, q, h, r => by
    rw [D.tr, RepT] at r
    obtain ⟨a, vs, e, e2, l⟩ := r
    rw [Rep]
    exact ⟨a, vs, e, sub _ _ e2, repL_dat2 sub xs vs as q h l⟩
  | .non, v, as, _, _, r | .bl _, v, as, _, _, r | .int _, v, as, _, _, r | .str _, v, as, _, _, r => by
    rw [D.tr, RepT] at r
    exact flat_rep rfl r.1
  | .ty _, _, _, q, _, _ | .adr _, _, _, q, _, _ | .bag, _, _, q, _, _ | .fn _ _ _, _, _, q, _, _ | .obj _ _ _, _, _, q, _, _ | .exc _ _ _ _ _, _, _, q, _, _ | .dct _ _, _, _, q, _, _ | .dcT _ _, _, _, q, _, _ => nomatch (show false = true from q)
theorem repL_dat2 {B : Option Addr} {S H N : Hp} (sub : ∀ a vs, S a = some (.tup vs) → N a = some (.tup vs)) : ∀ (ds : List D) (vs : List V) (as : List Addr), datL ds = true → (∀ a ∈ as, N a = H a) → RepTL B S H (D.trs ds) vs as → RepL B N ds vs
  | [], vs, as, _, _, r => by
    rw [D.trs, RepTL] at r
    rw [r.1]
    exact repL_nil
  | d :: ds, vs, as, q, h, r => by
    rw [D.trs, RepTL] at r
    obtain ⟨v, ws, bs, cs, rfl, r1, r2, rfl⟩ := r
    have q : (d.dat && datL ds) = true := q
    rw [Bool.and_eq_true] at q
    exact repL_cons (rep_dat2 sub d v bs q.1 (fun a m => h a (List.mem_append_left _ m)) r1) (repL_dat2 sub ds ws cs q.2 (fun a m => h a (List.mem_append_right _ m)) r2)
end
section
variable {X : Cx} {E : XK} {p dx C : Addr} {rest : List Stmt} {U : ITS} {T : DT} {pos p1 p2 : Pos}
/-- a tree as a value of new lists -/
def xDatU (T : DT) : DT := fun env R Rx => T env (fun d => d.dat = true ∧ R d) Rx
theorem w_xDatU {env : En} {R : D → Prop} {Rx : Er → Prop} : xDatU T env R Rx = T env (fun d => d.dat = true ∧ R d) Rx := rfl
theorem w_ofU {e : Expr} {T : DT} (h : DU X E e T) : DWn X E e (xDatU T) := by
  obtain ⟨t, p, s⟩ := h
  refine ⟨t, p, fun c σ H S env R Rx x k h Q q => s c σ H S env _ Rx x k h Q fun v H1 S1 as d k1 s1 r n g t1 => ?_⟩
  obtain ⟨k2, s2⟩ := k1.frzT g
  have r1 := repT_frz r fun a m => (g a m).1
  rw [tr_d] at r1
  refine q v H1 _ d k2 (s1.trans s2) r1 ?_ t1.2
  have sub : ∀ a vs, S1 a = some (.tup vs) → newT c.H0 (frzS as H1 S1) a = some (.tup vs) := fun a vs e => newT_tup (s2 _ _ e)
  refine rep_dat2 sub d v as t1.1 (fun a m => ?_) r
  cases e : H1 a with
  | none => exact absurd e (r.mu a m).1
  | some o => exact uni_l a o (by rw [newH_of (g a m).2.1, frzS_in m]; exact e)
end
section
variable {X : Cx} {E : XK} {a b c : Expr} {Ta Tb : DT} {TFa TFb : DTF} {TT : DTT} {pos : Pos}
/-- a, b = new lists, both of the frame's own -/
def zParOO (i j : Nat) (Ta : DTF) (Tb : DTF) : DTS := fun Q env => Ta env (fun ds => Tb (valE env) (fun es => Q.nx (putO' j es (putO' i ds env))) Q.ex) Q.ex
theorem w_parOO {i j : Nat} {Q : DEnds} {env : En} : zParOO i j TFa TFb Q env = TFa env (fun ds => TFb (valE env) (fun es => Q.nx (putO' j es (putO' i ds env))) Q.ex) Q.ex := rfl
end
end DL
namespace DL
open PySem PySem.Spec L2
variable [TbC]
section
variable {X : Cx}
def opIsNotB : DOp := fun x y R => ∃ b c, x = .bl b ∧ y = .bl c ∧ R (.bl (!decide (b = c)))
theorem w_isNotB {b c : Bool} {R : D → Prop} : opIsNotB (.bl b) (.bl c) R = R (.bl (!decide (b = c))) := by
  refine propext ⟨fun ⟨b2, c2, e1, e2, q⟩ => ?_, fun q => ⟨b, c, rfl, rfl, q⟩⟩
  cases e1
  cases e2
  exact q
end
end DL
namespace DL
open PySem PySem.Spec L2
variable [TbC]
section
variable {X : Cx} {E : XK} {o e : Expr} {To Te : DT} {apos pos : Pos}
def opStarts (a : Str) : D → (D → Prop) → Prop
  | .str b, R => R (.bl (Txt.startswith a b))
  | _, _ => False
theorem w_starts {a b : Str} {R : D → Prop} : opStarts a (.str b) R = R (.bl (Txt.startswith a b)) := rfl
theorem d_starts (ho : DE X E o To) (he : DE X E e Te) (hs : starEach [e] X.env = [(false, eval e X.env)] := by rfl) (hbase : attributeBase o "startswith" X.env (eval o X.env) = eval o X.env := by rfl) (hline : (apos.endLine == pos.line) = true := by rfl) :
    DE X E (.Call (.Attribute o "startswith" apos) [e] [] pos) (xM1 opStarts To Te) := by
  obtain ⟨to, p1, s1⟩ := ho
  obtain ⟨te, p2, s2⟩ := he
  refine ⟨_, pe_m1 PySem.F.slot_str_startswith PySem.F.type_str_startswith mt_startswith p1 p2 hs hbase hline, fun c σ H S env R Rx x k t Q q => s1 c σ H S env _ Rx x k t _ fun v H1 S1 d k1 s3 r1 t1 => ?_⟩
  cases d <;> try exact (show False from t1).elim
  refine ⟨⟨_, r1⟩, s2 c σ H1 S1 env _ Rx x k1 t1 _ fun u H2 S2 d2 k2 s4 r2 t2 => ?_⟩
  cases d2 <;> try exact (show False from t2).elim
  exact ⟨_, _, r1, by rw [show u = _ from r2], q _ H2 S2 (.bl _) k2 (s3.trans s4) rfl t2⟩
def fIntS : DFn
  | [.str s], R => ∃ n, PySem.intText? s = some n ∧ s.length ≤ 640 ∧ R (.int n)
  | _, _ => False
theorem w_fIntS {s : Str} {R : D → Prop} : fIntS [.str s] R = ∃ n, PySem.intText? s = some n ∧ s.length ≤ 640 ∧ R (.int n) := rfl
theorem b_intS : CallOk X (.type "int") fIntS := by
  refine ⟨_, call_int_str, fun c σ H S env xs vs R k r t Q q => ?_⟩
  unfold fIntS at t
  split at t <;> try exact t.elim
  obtain ⟨n, h1, h2, t⟩ := t
  obtain ⟨v, rfl, r1⟩ := rep1 r
  exact ⟨_, n, by rw [show v = _ from r1], h1, h2, q _ H S (.int _) k (Same.refl S) rfl t⟩
def fStrA : DFn
  | [.int i], R => i.natAbs.log2 < 1920 ∧ R (.str (toString i))
  | [.str s], R => R (.str s)
  | _, _ => False
theorem w_fStrAi {i : Int} {R : D → Prop} : fStrA [.int i] R = (i.natAbs.log2 < 1920 ∧ R (.str (toString i))) := rfl
theorem w_fStrAs {s : Str} {R : D → Prop} : fStrA [.str s] R = R (.str s) := rfl
theorem b_strA : CallOk X (.type "str") fStrA := by
  refine ⟨fun xs H Q => (∃ i, xs = [.int i] ∧ i.natAbs.log2 < 1920 ∧ Q (.str (toString i)) H) ∨ (∃ a, xs = [.str a] ∧ Q (.str a) H), fun pins s σ H xs us Q I r h => h.elim (call_str_int pins s σ H xs us Q I r) (SkE.call_str_str pins s σ H xs us Q I r), fun c σ H S env xs vs R k r t Q q => ?_⟩
  unfold fStrA at t
  split at t <;> try exact t.elim
  · obtain ⟨v, rfl, r1⟩ := rep1 r
    exact .inl ⟨_, by rw [show v = _ from r1], t.1, q _ H S (.str _) k (Same.refl S) rfl t.2⟩
  · obtain ⟨v, rfl, r1⟩ := rep1 r
    exact .inr ⟨_, by rw [show v = _ from r1], q _ H S (.str _) k (Same.refl S) rfl t⟩
def fMax1 : DFn
  | [.lst xs], R => ∃ ns, asInts xs = some ns ∧ 0 < ns.length ∧ ∀ m, m ∈ ns → (∀ y, y ∈ ns → y ≤ m) → R (.int m)
  | _, _ => False
theorem w_fMax1 {xs : List D} {R : D → Prop} : fMax1 [.lst xs] R = ∃ ns, asInts xs = some ns ∧ 0 < ns.length ∧ ∀ m, m ∈ ns → (∀ y, y ∈ ns → y ≤ m) → R (.int m) := rfl
theorem b_max1 (hc : X.calm = true) : CallOk X (.builtin "max") fMax1 := by
  refine ⟨_, cr_max hc, fun c σ H S env xs vs R k r t Q q => ?_⟩
  unfold fMax1 at t
  split at t <;> try exact t.elim
  obtain ⟨ns, e, h0, t⟩ := t
  obtain ⟨v, rfl, r1⟩ := rep1 r
  obtain ⟨a, vs, rfl, h1, _, l1⟩ := lst_of k r1
  rw [asInts_eq e] at l1
  rw [l1.ints] at h1
  exact ⟨a, ns, rfl, SqL.of h1, h0, fun m h2 h3 => q _ H S (.int _) k (Same.refl S) rfl (t m h2 h3)⟩
end
section
variable {c : Fm} {σ : St} {H S : Hp} {env : En} {p : Addr} {u : HO}
def Fm.pin (c : Fm) (p : Addr) (u : HO) : Fm := { c with H0 := upd c.H0 p u }
theorem Kf.pin (k : Kf c H S) (h : H p = none) : Kf (c.pin p u) (upd H p u) S := by
  have k1 : Kf c (upd H p u) S := k.step (Same.refl S) (k.sub.trans (same_upd h)) (fun a o e _ => same_upd h a o e) (fun a e _ => e) (k.bagSame (Same.refl S) (same_upd h) fun a e _ => e) (k.tab.1.same (same_upd h) fun a e _ => e)
  refine ⟨k1.sub, k1.s0, fun a o e nx => ?_, fun a e n => ?_, fun b e => ⟨(k1.bag b e).1, ?_⟩, ⟨k1.tab.1, fun q hq => ?_⟩⟩
  · by_cases z : a = p
    · subst z
      have e : upd c.H0 a u a = some o := e
      rw [upd_same] at e ⊢
      exact e
    · have e : upd c.H0 p u a = some o := e
      rw [upd_ne z] at e
      exact k1.old a o e nx
  · by_cases z : a = p
    · rw [z]
      exact k.s_none h
    · have n : Mu (upd c.H0 p u a) := n
      rw [upd_ne z] at n
      exact k1.new a e n
  · show upd c.H0 p u b ≠ none
    by_cases z : b = p
    · rw [z, upd_same]
      exact fun y => nomatch y
    · rw [upd_ne z]
      exact (k1.bag b e).2
  · show upd c.H0 p u q.1 ≠ none
    by_cases z : q.1 = p
    · rw [z, upd_same]
      exact fun y => nomatch y
    · rw [upd_ne z]
      exact k1.tab.2 q hq
theorem Kn.pin (k : Kn c σ H S env) (h : H p = none) : Kn (c.pin p u) σ (upd H p u) S env := by
  refine ⟨k.kf.pin h, k.len, fun i x e => ?_, k.apart⟩
  obtain ⟨v, ev, r⟩ := k.sl i x e
  refine ⟨v, ev, DvR.keep (c := c) (c' := c.pin p u) rfl (Same.refl S) r fun a fa => ?_⟩
  obtain ⟨f1, f2, f3⟩ := r.foot a fa
  have z : a ≠ p := fun z => f3.1 (by rw [z]; exact h)
  refine ⟨f1, ?_, fun o e => ?_⟩
  · show upd c.H0 p u a = none
    rw [upd_ne z]
    exact f2
  · rw [upd_ne z]
    exact e
theorem Kf.unpin (n0 : c.H0 p = none) (nx : ¬ Ex c.B p) (k : Kf (c.pin p u) H S) : Kf c H S := by
  refine ⟨k.sub, k.s0, fun a o e n => k.old a o ?_ n, fun a e n => k.new a e ?_, fun b e => ⟨(k.bag b e).1, ?_⟩, ⟨k.tab.1, fun q hq => ?_⟩⟩
  · show upd c.H0 p u a = some o
    rw [upd_ne (fun z => by rw [z, n0] at e; cases e)]
    exact e
  · show Mu (upd c.H0 p u a)
    rw [upd_ne (fun z => n.1 (by rw [z]; exact n0))]
    exact n
  · have y : upd c.H0 p u b ≠ none := (k.bag b e).2
    rwa [upd_ne (fun z => nx (.inl (by rw [← z]; exact e)))] at y
  · have y : upd c.H0 p u q.1 ≠ none := k.tab.2 q hq
    rwa [upd_ne (fun z => nx (.inr ⟨q, hq, z⟩))] at y
theorem Kn.unpin (n0 : c.H0 p = none) (nx : ¬ Ex c.B p) (k : Kn (c.pin p u) σ H S env) : Kn c σ H S env := by
  refine ⟨k.kf.unpin n0 nx, k.len, fun i x e => ?_, k.apart⟩
  obtain ⟨v, ev, r⟩ := k.sl i x e
  refine ⟨v, ev, DvR.keep (c := c.pin p u) (c' := c) rfl (Same.refl S) r fun a fa => ?_⟩
  obtain ⟨f1, f2, f3⟩ := r.foot a fa
  refine ⟨f1, ?_, fun o e => e⟩
  have f2 : upd c.H0 p u a = none := f2
  by_cases z : a = p
  · rw [z]
    exact n0
  · rwa [upd_ne z] at f2
theorem XOk.pin {E : XK} {Rx : Er → Prop} (x : XOk c E Rx) (n0 : c.H0 p = none) (nx : ¬ Ex c.B p) : XOk (c.pin p u) E Rx := fun er d vs H1 S1 k1 r l h m0 m1 z => x er d vs H1 S1 (k1.unpin n0 nx) r l h (by
  have m0 : upd c.H0 p u d = none := m0
  by_cases y : d = p
  · rw [y]
    exact n0
  · rwa [upd_ne y] at m0) m1 z
/-- an object that nobody knows stays as it is from now on -/
theorem Kn.frzO {o : HO} (k : Kn c σ H S env) (h1 : S p = none) (h2 : c.H0 p = none) (h3 : H p = some o) (ht : ∀ ps, o ≠ .tbl ps) (f : Free σ env p) : Kn c σ H (upd S p o) env ∧ Same S (upd S p o) := by
  have s : Same S (upd S p o) := same_upd h1
  refine ⟨⟨⟨fun a u e => ?_, k.kf.s0.trans s, k.kf.old, fun a e n => ?_, fun b eb => ?_, ⟨fun q hq => ?_, k.kf.tab.2⟩⟩, k.len, fun j x e => ?_, k.apart⟩, s⟩
  · by_cases z : a = p
    · subst z
      rw [upd_same] at e
      rw [h3]
      exact e
    · rw [upd_ne z] at e
      exact k.kf.sub a u e
  · rw [upd_ne (fun z => n.1 (by rw [z]; exact h2))]
    exact k.kf.new a e n
  · obtain ⟨⟨b1, cs, i, g, st, n, b2, b3, b4⟩, b5⟩ := k.kf.bag b eb
    refine ⟨⟨?_, cs, i, g, st, n, b2, s _ _ b3, b4⟩, b5⟩
    rw [upd_ne (fun z => b5 (by rw [z]; exact h2))]
    exact b1
  · obtain ⟨t1, t2⟩ := k.kf.tab.1 q hq
    refine ⟨t1, ?_⟩
    rw [upd_ne fun z => ?_]
    · exact t2
    · obtain ⟨ps, e1, _⟩ := t1
      rw [z, h3] at e1
      exact ht ps (Option.some.inj e1)
  · obtain ⟨v, ev, r⟩ := k.sl j x e
    refine ⟨v, ev, r.keep rfl s fun a fa => ?_⟩
    obtain ⟨f1, f2, _⟩ := r.foot a fa
    refine ⟨?_, f2, fun _ e => e⟩
    rw [upd_ne (fun z => f j x v e ev (by rw [← z]; exact fa))]
    exact f1
end
def SmPx (E : XK) (trs : List (TE × TE)) (ks : List Str) (T : DTA) : Prop := ∀ (c : Fm) (σ : St) (H S : Hp) (env : En) (R : List D → Prop) (Rx : Er → Prop), XOk c E Rx → Kn c σ H S env → T env R Rx →
  ∀ Q : List (V × V) → Hp → Prop, (∀ vs H' S' xs, Kn c σ H' S' env → Same S S' → RepL c.B S' xs vs → vs.length = ks.length → R xs → Q ((ks.map V.str).zip vs) H') → tPairs trs σ H Q
def DPs (X : Cx) (E : XK) (pos : Pos) (keys : List (Option Expr)) (values : List Expr) (ks : List Str) (Tl : DTA) : Prop :=
  ∃ (trs : List (TE × TE)), PPs X pos keys values trs ∧ SmPx E trs ks Tl
theorem putK_new {κ : Type} [DecidableEq κ] {acc : List (κ × V)} {k : κ} {v : V} (h : k ∉ acc.map (·.1)) : putK acc k v = acc ++ [(k, v)] := by
  unfold putK
  rw [if_neg]
  intro z
  obtain ⟨y, hy, e⟩ := List.any_eq_true.mp z
  exact h (List.mem_map.mpr ⟨y, hy, of_decide_eq_true e⟩)
theorem mergeK_app : ∀ (kvs acc : List (Key × V)), ((acc ++ kvs).map (·.1)).Nodup → mergeK acc kvs = acc ++ kvs
  | [], acc, _ => by rw [List.append_nil]; rfl
  | kv :: kvs, acc, h => by
    show mergeK (putK acc kv.1 kv.2) kvs = _
    have hn : kv.1 ∉ acc.map (·.1) := by
      rw [List.map_append, List.map_cons] at h
      intro z
      exact (List.nodup_append.mp h).2.2 _ z _ (List.mem_cons_self ..) rfl
    rw [putK_new hn, mergeK_app kvs (acc ++ [(kv.1, kv.2)]) (by rw [List.append_assoc]; exact h), List.append_assoc]
    rfl
section
variable {X : Cx} {E : XK} {pos : Pos} {keys : List (Option Expr)} {values : List Expr} {v : Expr} {ks : List Str} {Tl : DTA} {Tv : DT}
theorem dps_nil : DPs X E pos [] [] [] xNil := ⟨[], pps_nil, fun c σ H S env R Rx x k t Q q => q [] H S [] k (Same.refl S) repL_nil rfl t⟩
theorem dps_cons {k : Str} {j} {p : Pos} (hv : DE X E v Tv) (hr : DPs X E pos keys values ks Tl) : DPs X E pos (some (.Constant (.str k) j p) :: keys) (v :: values) (k :: ks) (xCons Tv Tl) := by
  obtain ⟨trs, pp, sa⟩ := hr
  obtain ⟨tv, pv, sv⟩ := hv
  refine ⟨(tC (.str k), tv) :: trs, pps_cons pe_str pv pp, fun c σ H S env R Rx x kn t Q q => ?_⟩
  show tv σ H fun y H2 => tPairs trs σ H2 fun ps H3 => Q ((V.str k, y) :: ps) H3
  exact sv c σ H S env _ Rx x kn t _ fun y H1 S1 d k1 s1 r1 t1 => sa c σ H1 S1 env _ Rx x k1 t1 _ fun vs H2 S2 xs k2 s2 l2 n2 t2 =>
    q (y :: vs) H2 S2 (d :: xs) k2 (s1.trans s2) (repL_cons (rep_mono s2 _ _ r1) l2) (by rw [List.length_cons, List.length_cons, n2]) t2
def xDct (ks : List Str) (Tl : DTA) : DT := fun env R Rx => Tl env (fun xs => R (.dct (ks.map Sum.inr) xs)) Rx
theorem w_dct {env : En} {R : D → Prop} {Rx : Er → Prop} : xDct ks Tl env R Rx = Tl env (fun xs => R (.dct (ks.map Sum.inr) xs)) Rx := rfl
theorem d_disp (h : DPs X E pos keys values ks Tl) (hd : ks.Nodup := by decide) (hk : ks.length ≤ 15 := by decide) (hall : keys.all (·.isSome) = true := by rfl) (hl : keys.length = values.length := by rfl) (h0 : keys ≠ [] := by exact List.cons_ne_nil _ _) (h15 : keys.length ≤ 15 := by exact Nat.le_of_ble_eq_true rfl) :
    DE X E (.Dict keys values pos) (xDct ks Tl) := by
  obtain ⟨trs, pp, sa⟩ := h
  refine ⟨_, pe_disp pp hall hl h0 h15, fun c σ H S env R Rx x k t Q q p hn => ?_⟩
  have nx : ¬ Ex c.B p := k.kf.x_ne hn
  have n0 : c.H0 p = none := k.kf.h0_none hn
  refine sa (c.pin p (.dK [])) σ _ S env _ Rx (x.pin n0 nx) (k.pin hn) t _ fun vs H2 S2 xs k3 s3 l3 len t3 => ?_
  have e2 : H2 p = some (.dK []) := k3.kf.old p _ upd_same nx
  have s2p : S2 p = none := k3.kf.new p (k.kf.s0.free (k.kf.s_none hn)) (mu_of (o := .dK []) upd_same fun _ z => nomatch z)
  have f : Free σ env p := k.free hn
  have k4 := k3.unpin n0 nx
  have hz : ((ks.map Sum.inr).zip vs : List (Key × V)).map (·.1) = ks.map Sum.inr := List.map_fst_zip (by rw [List.length_map, len]; exact Nat.le_refl _)
  have em : mergeK [] ((ks.map Sum.inr).zip vs) = (ks.map Sum.inr).zip vs := by
    rw [mergeK_app _ [] (by
      rw [List.nil_append, hz]
      exact List.Pairwise.map _ (fun a b e z => e (Sum.inr.inj z)) hd)]
    rfl
  refine ⟨e2, (ks.map Sum.inr).zip vs, ?_, ?_, ?_⟩
  · rw [List.zip_map_left, List.zip_map_left, List.map_map]
    rfl
  · rw [List.length_zip, List.length_map]
    omega
  · rw [em]
    have k5 := k4.updF (o := .dK ((ks.map Sum.inr).zip vs)) s2p n0 e2 ⟨(fun ps z => nomatch z), fun φ z => nomatch z⟩ f
    obtain ⟨k6, s6⟩ := k5.frzO s2p n0 upd_same (fun ps z => nomatch z) f
    refine q (.ref p) _ _ (.dct (ks.map Sum.inr) xs) k6 (s3.trans s6) ?_ t3
    rw [Rep]
    have l3 : RepL c.B S2 xs vs := l3
    exact ⟨p, vs, rfl, upd_same, by rw [List.length_map, ← len, l3.length], repL_mono s6 _ _ l3⟩
end
def dctGet (ks : List Key) (xs : List D) (k : Key) : Option D := ((ks.zip xs).find? fun kv => decide (kv.1 = k)).map (·.2)
theorem dctGet_rep {B : Option Addr} {S : Hp} {k : Key} {z : D} {u : V} (rz : Rep B S z u) : ∀ {ks : List Key} {xs : List D} {vs : List V}, RepL B S xs vs → Rep B S ((dctGet ks xs k).getD z) ((valV (ks.zip vs) k).getD u)
  | [], xs, vs, _ => by
    simp only [dctGet, valV, List.zip_nil_left, List.find?_nil, Option.map_none, Option.getD_none]
    exact rz
  | k0 :: ks, [], vs, h => by
    rw [repL_nil_of h]
    simp only [dctGet, valV, List.zip_nil_right, List.find?_nil, Option.map_none, Option.getD_none]
    exact rz
  | k0 :: ks, x :: xs, vs, h => by
    obtain ⟨v, ws, rfl, r, l⟩ := repL_cons_of h
    have ih := dctGet_rep (k := k) rz (ks := ks) l
    unfold dctGet valV at ih ⊢
    rw [List.zip_cons_cons, List.zip_cons_cons, List.find?_cons, List.find?_cons]
    by_cases e : k0 = k
    · simp only [e, decide_true, Option.map_some, Option.getD_some]
      exact r
    · simp only [e, decide_false]
      exact ih
def opGet2 (x y z : D) (R : D → Prop) : Prop := match x, y with
  | .dct ks xs, .str s => R ((dctGet ks xs (Sum.inr s)).getD z)
  | .dct ks xs, .int i => R ((dctGet ks xs (Sum.inl i)).getD z)
  | _, _ => False
theorem w_get2s {ks : List Key} {xs : List D} {s : Str} {z : D} {R : D → Prop} : opGet2 (.dct ks xs) (.str s) z R = R ((dctGet ks xs (Sum.inr s)).getD z) := rfl
theorem w_get2i {ks : List Key} {xs : List D} {s : Int} {z : D} {R : D → Prop} : opGet2 (.dct ks xs) (.int s) z R = R ((dctGet ks xs (Sum.inl s)).getD z) := rfl
def D.isDct : D → Bool
  | .dct _ _ => true
  | _ => false
def xGet2 (Td Ty Tz : DT) : DT := fun env R Rx => Td env (fun x => x.isDct = true ∧ Ty env (fun y => Tz env (fun z => opGet2 x y z R) Rx) Rx) Rx
theorem w_get2 {Td Ty Tz : DT} {env : En} {R : D → Prop} {Rx : Er → Prop} : xGet2 Td Ty Tz env R Rx = Td env (fun x => x.isDct = true ∧ Ty env (fun y => Tz env (fun z => opGet2 x y z R) Rx) Rx) Rx := rfl
theorem w_isDct {ks : List Key} {xs : List D} : (D.dct ks xs).isDct = true := rfl
theorem dct_of {c : Fm} {σ : St} {H S : Hp} {env : En} {ks : List Key} {xs : List D} {v : V} (k : Kn c σ H S env) (r : Rep c.B S (.dct ks xs) v) : ∃ a vs, v = .ref a ∧ H a = some (.dK (ks.zip vs)) ∧ RepL c.B S xs vs := by
  rw [Rep] at r
  obtain ⟨a, vs, e, h, _, l⟩ := r
  exact ⟨a, vs, e, k.kf.sub _ _ h, l⟩
section
variable {X : Cx} {E : XK} {o e f : Expr} {Td Ty Tz : DT} {apos cpos : Pos}
theorem d_get2 (hu : X.A.units + 1 < cLine) (ho : DE X E o Td) (he : DE X E e Ty) (hf : DE X E f Tz) (m : M2 X o "get" apos e f cpos := by exact ⟨rfl, rfl, rfl, rfl⟩) : DE X E (.Call (.Attribute o "get" apos) [e, f] [] cpos) (xGet2 Td Ty Tz) := by
  obtain ⟨td, p1, s1⟩ := ho
  obtain ⟨ty, p2, s2⟩ := he
  obtain ⟨tz, p3, s3⟩ := hf
  refine ⟨_, pe_dget2 hu p1 p2 p3 m, fun c σ H S env R Rx x k t Q q => s1 c σ H S env _ Rx x k t _ fun v H1 S1 d k1 q1 r1 t1 => ?_⟩
  obtain ⟨hd, t1⟩ := t1
  cases d <;> try exact (Bool.false_ne_true hd).elim
  rename_i ks xs
  obtain ⟨a, vs, rfl, h1, l1⟩ := dct_of k1 r1
  refine ⟨a, rfl, .inl ⟨_, .inl h1⟩, s2 c σ H1 S1 env _ Rx x k1 t1 _ fun u H2 S2 d2 k2 q2 r2 t2 => s3 c σ H2 S2 env _ Rx x k2 t2 _ fun z H3 S3 d3 k3 q3 r3 t3 => ?_⟩
  have r1' := rep_mono (q2.trans q3) _ _ r1
  obtain ⟨a', vs', e', h3, l3⟩ := dct_of k3 r1'
  cases e'
  cases d2 <;> try exact (show False from t3).elim
  · rename_i i
    refine ⟨valV (ks.zip vs') (Sum.inl i), ?_, q _ H3 S3 _ k3 ((q1.trans q2).trans q3) (dctGet_rep r3 l3) t3⟩
    rw [show u = V.int i from r2]
    exact DGet.k (k := Sum.inl i) h3
  · rename_i s
    refine ⟨valV (ks.zip vs') (Sum.inr s), ?_, q _ H3 S3 _ k3 ((q1.trans q2).trans q3) (dctGet_rep r3 l3) t3⟩
    rw [show u = V.str s from r2]
    exact DGet.k (k := Sum.inr s) h3
end
section
variable {X : Cx} {pins : List (Addr × Obj)} {σ : L2.St} {H : Hp} {s : Shared}
def signsV (x : Str) : List V := x.cps.toList.map fun c => V.str ⟨#[c]⟩
theorem signs_vals {x : Str} {acc : Array Value} (h : PySem.ItemsOf (PySem.SignAt x) acc x.cps.size) : Vals (signsV x) acc.toList := by
  obtain ⟨h1, h2⟩ := h
  have go : ∀ (l : List Nat) (vs : List Value), l.length = vs.length → (∀ (j : Nat) (v : Value), vs[j]? = some v → ∃ c u, l[j]? = some c ∧ v = .str ⟨#[c]⟩ u) → Vals (l.map fun c => V.str ⟨#[c]⟩) vs := by
    intro l
    induction l with
    | nil =>
      intro vs e _
      cases vs with
      | nil => exact .nil
      | cons v vs => cases e
    | cons c l ih =>
      intro vs e q
      cases vs with
      | nil => cases e
      | cons v vs =>
        obtain ⟨c', u, e1, e2⟩ := q 0 v rfl
        cases e1
        exact .cons ⟨u, e2⟩ (ih vs (Nat.succ.inj e) fun j v' e3 => q (j + 1) v' e3)
  refine go x.cps.toList acc.toList ?_ fun j v e => ?_
  · rw [Array.length_toList, Array.length_toList, h1]
  · obtain ⟨c, u, e1, e2⟩ := h2 j v (by rw [← Array.getElem?_toList]; exact e)
    exact ⟨c, u, by rw [Array.getElem?_toList]; exact e1, e2⟩
theorem star_str {x : Str} {t : Tok} {E : Value → Shared → Prop} {Q : List Value → Shared → Prop} (hc : X.calm = true) (I : Inv X pins σ H s) (hn : x.cps.size ≤ sizeLine) (hQ : ∀ us s', Inv X pins σ H s' → Vals (signsV x) us → Q us s') : PySem.W.StarOf (model X.prog X.w) X.A E (.str x t) Q s := by
  have z : wpAny (model X.prog X.w) X.A (collect (.str x t)) Q E s := by
    refine wpAny_collect_str (I.ok.hd hc) x t (fun s' acc hk hg hd ho hi => ?_) hn
    refine hQ _ s' ?_ (signs_vals hi)
    have e : s' = { s with heap := s'.heap, toks := s'.toks } := by
      obtain ⟨a, b, c, d, e⟩ := s'
      cases hg
      cases hd
      cases ho
      rfl
    rw [e]
    exact I.kept hk
  unfold PySem.W.StarOf notIterableAtAll
  exact wpAny_bind (wpAny_specialOf (PySem.typeIs_str _ _ _) PySem.F.slot_str_iter.lookup (wpAny_pure ⟨rfl, z⟩))
end
/-- *e, e a text -/
def tStarS (te : TE) (t : L2.TA) : L2.TA := fun σ H Q => te σ H fun x H1 => ∃ s, x = V.str s ∧ s.cps.size ≤ sizeLine ∧ t σ H1 fun ys H2 => Q (signsV s ++ ys) H2
section
variable {X : Cx} {E : XK} {e : Expr} {es : List Expr} {p : Pos} {te : TE} {t : L2.TA} {Te : DT} {Tl : DTA}
theorem pa_starS (hc : X.calm = true) (he : PE X e te) (hr : PA X es t) (hs : starEach (.Starred e p :: es) X.env = (true, eval e X.env) :: starEach es X.env := by rfl) : PA X (.Starred e p :: es) (tStarS te t) := by
  refine ⟨fun pos pins s σ H Q I h => ?_⟩
  refine PySem.W.items_star (thn (he.run pins s σ H _ I h) fun v s1 ⟨y, H1, I1, ry, a, ey, hx, q⟩ => ?_) hs
  subst ey
  obtain ⟨tk, rfl⟩ := ry
  refine star_str hc I1 hx fun us s2 I2 rv => ?_
  exact thn (hr.run pos pins s2 σ H1 _ I2 q) fun ws s3 ⟨vs, H3, I3, r3, q3⟩ => ⟨signsV a ++ vs, H3, I3, rv.append r3, q3⟩
theorem repL_signs {B : Option Addr} {S : Hp} {s : Str} : RepL B S (signs s) (signsV s) := by
  unfold signs signsV
  generalize s.cps.toList = l
  induction l with
  | nil => exact repL_nil
  | cons c l ih => exact repL_cons rfl ih
def xStarS (Te : DT) (Tl : DTA) : DTA := fun env R Rx => Te env (asS fun s => s.length ≤ 16777216 ∧ Tl env (fun ys => R (signs s ++ ys)) Rx) Rx
theorem w_starS {env : En} {R : List D → Prop} {Rx : Er → Prop} : xStarS Te Tl env R Rx = Te env (asS fun s => s.length ≤ 16777216 ∧ Tl env (fun ys => R (signs s ++ ys)) Rx) Rx := rfl
theorem da_starS (hc : X.calm = true) (he : DE X E e Te) (hl : DA X E es Tl) (hs : starEach (.Starred e p :: es) X.env = (true, eval e X.env) :: starEach es X.env := by rfl) : DA X E (.Starred e p :: es) (xStarS Te Tl) := by
  obtain ⟨te, p1, s1⟩ := he
  obtain ⟨tl, p2, s2⟩ := hl
  refine ⟨_, pa_starS hc p1 p2 hs, fun c σ H S env R Rx x k t Q q => s1 c σ H S env _ Rx x k t _ fun v H1 S1 d k1 s3 r1 t1 => ?_⟩
  cases d <;> try exact (show False from t1).elim
  obtain ⟨hz, t1⟩ := t1
  rename_i z
  refine ⟨z, r1, by rw [sizeLine_eq]; exact hz, s2 c σ H1 S1 env _ Rx x k1 t1 _ fun vs H2 S2 ds k2 s4 l2 t2 => ?_⟩
  exact q _ H2 S2 _ k2 (s3.trans s4) (repL_signs.app l2) t2
end
def TupK (K : PySem.W.Frag) (a : Addr) (ss : List Str) : Prop := ∃ (o : Obj) (its : Array Value) (n : Nat), K.lookup a = some o ∧ o.cls = .type "tuple" ∧ o.data = .seq its n ∧ its.size ≤ sizeLine ∧ Vals (ss.map V.str) its.toList
structure Gt (K : PySem.W.Frag) (mg : Str → Option Value) (x : Str) (ss : List Str) where
  a : Addr
  m : mg x = some (.ref a)
  at_ : TupK K a ss
theorem TupK.sq {K : PySem.W.Frag} {a : Addr} {ss : List Str} {H : Hp} (h : TupK K a ss) : SqT K H a (ss.map V.str) := .inr h
theorem flat_strs (ss : List Str) : (ss.map V.str).all flatV = true := List.all_eq_true.mpr fun x hx => by
  obtain ⟨s, _, rfl⟩ := List.mem_map.mp hx
  rfl
def opInG (a : Addr) (ss : List Str) : DOp := fun x y R => match y with
  | .adr b => b = a ∧ x.sc = true ∧ R (.bl (inV x.v (ss.map V.str)))
  | .tup ys => opIn x (.tup ys) R
  | .lst ys => opIn x (.lst ys) R
  | _ => False
def opNotInG (a : Addr) (ss : List Str) : DOp := fun x y R => opInG a ss x y fun d => match d with
  | .bl b => R (.bl (!b))
  | _ => False
theorem w_inG_adr {a : Addr} {ss : List Str} {s : Str} {R : D → Prop} : opInG a ss (.str s) (.adr a) R = R (.bl (decide (s ∈ ss))) := by
  have e : inV (V.str s) (ss.map V.str) = decide (s ∈ ss) := by
    unfold inV
    rw [Bool.eq_iff_iff]
    simp only [List.any_map, List.any_eq_true, Function.comp, eqV, beq_iff_eq, decide_eq_true_eq]
    constructor
    · rintro ⟨y, h1, h2⟩
      rw [← h2]
      exact h1
    · exact fun h => ⟨s, h, rfl⟩
  show (a = a ∧ true = true ∧ R (.bl (inV (V.str s) (ss.map V.str)))) = _
  rw [e]
  simp only [true_and]
theorem w_inG_tup {a : Addr} {ss : List Str} {x : D} {ys : List D} {R : D → Prop} : opInG a ss x (.tup ys) R = opIn x (.tup ys) R := rfl
theorem notInG_eq {a : Addr} {ss : List Str} {x y : D} {R : D → Prop} : opNotInG a ss x y R = opInG a ss x y (fun d => match d with
  | .bl b => R (.bl (!b))
  | _ => False) := rfl
section
variable {X : Cx} {a : Addr} {ss : List Str}
theorem c_inG (h : TupK X.K a ss) : CmpOk X .In (opInG a ss) := by
  obtain ⟨r0, o0, s0⟩ := c_in (X := X)
  refine ⟨_, op_in_seq.or o0, fun c σ H S env x y v u R k r1 r2 t Q q => ?_⟩
  cases y <;> try exact (show False from t).elim
  · obtain ⟨rfl, t1, t⟩ := t
    obtain ⟨e1, f1⟩ := rep_v r1 t1
    subst e1
    refine .inl ⟨_, ss.map V.str, r2, .inr h.sq, f1, flat_strs ss, q _ H S (.bl _) k (Same.refl S) rfl t⟩
  · exact .inr (s0 c σ H S env _ _ v u R k r1 r2 t Q q)
  · exact .inr (s0 c σ H S env _ _ v u R k r1 r2 t Q q)
theorem c_notinG (h : TupK X.K a ss) : CmpOk X .NotIn (opNotInG a ss) := by
  obtain ⟨r0, o0, s0⟩ := c_notin (X := X)
  refine ⟨_, op_notIn_seq.or o0, fun c σ H S env x y v u R k r1 r2 t Q q => ?_⟩
  cases y <;> try exact (show False from t).elim
  · obtain ⟨rfl, t1, t⟩ := t
    obtain ⟨e1, f1⟩ := rep_v r1 t1
    subst e1
    refine .inl ⟨_, ss.map V.str, r2, .inr h.sq, f1, flat_strs ss, q _ H S (.bl _) k (Same.refl S) rfl t⟩
  · exact .inr (s0 c σ H S env _ _ v u R k r1 r2 t Q q)
  · exact .inr (s0 c σ H S env _ _ v u R k r1 r2 t Q q)
end
/-- walking one of the module's tuples, or any tuple -/
def itG (a : Addr) (ss : List Str) (R : List D → Prop) : D → Prop
  | .adr b => b = a ∧ R (ss.map D.str)
  | .tup xs => R xs
  | _ => False
def xItG (a : Addr) (ss : List Str) (Ta : DT) : DTI := fun env R Rx => Ta env (itG a ss R) Rx
theorem w_itG {a : Addr} {ss : List Str} {Ta : DT} {env : En} {R : List D → Prop} {Rx : Er → Prop} : xItG a ss Ta env R Rx = Ta env (itG a ss R) Rx := rfl
theorem ittK_ok {B : Option Addr} {K : PySem.W.Frag} {S : Hp} {a : Addr} {ss : List Str} (h : TupK K a ss) : ItOk B (Itt K a) S (ss.map D.str) := fun c hB i σ H S1 env k s => by
  subst hB
  refine ⟨fun d e => ?_, fun hl => ⟨ss.map V.str, h.sq, by rw [List.length_map] at hl ⊢; exact hl⟩⟩
  rw [List.getElem?_map] at e
  obtain ⟨x, ex, rfl⟩ := Option.map_eq_some_iff.mp e
  have ev : (ss.map V.str)[i]? = some (V.str x) := by rw [List.getElem?_map, ex]; rfl
  exact ⟨⟨ss.map V.str, .str x, h.sq, ev⟩, fun x' H' y => by
    obtain ⟨e1, y⟩ := y
    subst e1
    have e2 := y (ss.map V.str) h.sq
    rw [ev] at e2
    cases e2
    exact ⟨S1, k, Same.refl S1, rfl⟩⟩
theorem i_tupG {X : Cx} {E : XK} {tg e : Expr} {Ta : DT} {a : Addr} {ss : List Str} (hk : TupK X.K a ss) (h : DE X E e Ta) : DI X E tg e (xItG a ss Ta) := by
  obtain ⟨t, p, s⟩ := h
  refine ⟨_, pi_tup p, fun c σ H S env R Rx x k t Rr q => s c σ H S env _ Rx x k t _ fun v H1 S1 d k1 s1 r1 t1 => ?_⟩
  cases d <;> try exact (show False from t1).elim
  · obtain ⟨rfl, t1⟩ := t1
    exact ⟨_, r1, ⟨_, hk.sq⟩, q _ H1 S1 _ k1 s1 (ittK_ok hk) t1⟩
  · obtain ⟨a, vs, e, h1, hS, l⟩ := tup_of k1 r1
    exact ⟨a, e, ⟨vs, SqT.of h1⟩, q _ H1 S1 _ k1 s1 (itt_ok hS l) t1⟩
end DL
namespace Hx
open PySem PySem.Spec L2
theorem strsB_ok : ∀ {ss : List Str} {vs : List Value}, strsB ss vs = true → Vals (ss.map V.str) vs
  | [], [], _ => .nil
  | [], _ :: _, h => nomatch (show false = true from h)
  | s :: ss, [], h => nomatch (show false = true from h)
  | s :: ss, v :: vs, h => by
    cases v <;> try exact nomatch (show false = true from h)
    rename_i z t
    obtain ⟨h1, h2⟩ := He.ba h
    have h1 := of_decide_eq_true h1
    subst h1
    exact .cons ⟨t, rfl⟩ (strsB_ok h2)
theorem tup_ok {K : PySem.W.Frag} {x : Str} {ss : List Str} (h : fTup x ss K = true) : (He.Fa.glo x).ok K = true ∧ DL.TupK K (He.ga K x) ss := by
  obtain ⟨h0, h⟩ := He.ba h
  refine ⟨h0, ?_⟩
  split at h
  · rename_i t d its n sl e
    obtain ⟨h1, h2⟩ := He.ba h
    obtain ⟨h3, h4⟩ := He.ba h2
    have h1 := of_decide_eq_true h1
    subst h1
    exact ⟨_, its, n, e, rfl, rfl, Nat.le_trans (of_decide_eq_true h3) (by rw [sizeLine_eq]; decide), strsB_ok h4⟩
  · cases h
end Hx
noncomputable section
namespace SX
open PySem PySem.Spec PyProof.Rows PySem.Froz L2
section
variable {P : Program} {w : World} {A : Around} {E : Value → Shared → Prop} {s : Shared} {a : Addr} {l : List Str}
/-- the set of texts at a: its table rises and can be walked -/
def SetX (P : Program) (w : World) (h : Heap) (a : Addr) (l : List Str) : Prop :=
  ∃ D : SD, h.get? a = some (sObj "set" D) ∧ TxOk P w D l ∧ Ris D.2.2.place.toList ∧ (w.params.followText "set-order" = true ∨ D.2.2.led = true)
theorem SetX.at {h h' : Heap} (R : SetX P w h a l) (k : ∀ o, h.get? a = some o → h'.get? a = some o) : SetX P w h' a l := by
  obtain ⟨D, ho, r⟩ := R
  exact ⟨D, k _ ho, r⟩
theorem tail_ris {ep : Nat} {es1 : Array (Int × Value)} {t2 : SetTable} {b : Bool} (r : Ris t2.place.toList) : Ris (tailTx ep es1 t2 b).2.2.place.toList := by
  unfold tailTx
  split
  · exact relayAll_ris _ _ _
  · exact r
theorem tail_led {ep : Nat} {es1 : Array (Int × Value)} {t2 : SetTable} {b : Bool} : (tailTx ep es1 t2 b).2.2.led = t2.led := by
  unfold tailTx
  split
  · exact relayAll_led _ _ _
  · rfl
theorem addTx_ris {D : SD} (h : Int) (v : Value) (r : Ris D.2.2.place.toList) : Ris (addTx h v D).2.2.place.toList := by
  have h1 := layNew_ris D.2.2 D.1 h v r
  unfold addTx
  refine tail_ris ?_
  split <;> exact h1
theorem addTx_led {D : SD} (h : Int) (v : Value) : (addTx h v D).2.2.led = D.2.2.led := by
  have h1 := layNew_led D.2.2 D.1 h v
  unfold addTx
  refine tail_led.trans ?_
  split <;> exact h1
theorem same_x {D : SD} {k : Str} {u : Tok} {Q : Bool → Shared → Prop} (ho : s.heap.get? a = some (sObj "set" D)) (F : TxOk P w D l) (hk : k ∈ l) (hb : l.length < scanBound)
    (h : Q false s) : wpAny (model P w) A (setAddHashed a (.str k u) (hashStr w k)) Q E s := by
  obtain ⟨es, ep, t⟩ := D
  have hd : (sObj "set" (es, ep, t)).data = .set es ep t := rfl
  have hf : t.fits es.size = true := F.fit
  have hel : ElemsOf (PySem.strKind P w) es.toList := F.el
  have hsz : es.size = l.length := F.sz
  have hb0 : es.size < scanBound := by omega
  have hkey : (PySem.strKind P w).is k (.str k u) = true := is_str k u
  unfold setAddHashed setAddHashedIn
  refine wpAny_holding (wpAny_bind (wpAny_setState_of ho hd hf ?_))
  dsimp only
  rw [byScan_of rfl hb0 hel]
  simp only [↓reduceIte]
  unfold setAddByScan
  refine wpAny_bind ?_
  refine wpAny_bind (wpAny_rule ?_)
  refine wpAny_bind (wpAny_setScan_of (knd := PySem.strKind P w) (k := k) hkey ho hd hf hel ?_)
  cases hfi : List.findIdx? (fun e => (PySem.strKind P w).is k e.2) es.toList with
  | some j =>
    dsimp only
    exact wpAny_pure (wpAny_pure h)
  | none =>
    obtain ⟨e, he, q⟩ := (F.mem k).mp hk
    have c := List.findIdx?_eq_none_iff.mp hfi e he
    rw [q] at c
    cases c
theorem setX_add {k : Str} {u : Tok} {Q : Bool → Shared → Prop} (R : SetX P w s.heap a l) (room : l.length + 1 < scanBound)
    (hQ : ∀ h' l' b, (∀ c, c ≠ a → h'.get? c = s.heap.get? c) → SetX P w h' a l' → (∀ x, x ∈ l' ↔ x ∈ l ∨ x = k) → (l.Nodup → l'.Nodup) → l'.length ≤ l.length + 1 → Q b { s with heap := h' }) :
    wpAny (model P w) A (setAddHashed a (.str k u) (hashStr w k)) Q E s := by
  obtain ⟨D, ho, F, r, hl⟩ := R
  by_cases hk : k ∈ l
  · refine same_x ho F hk (by omega) (hQ s.heap l false (fun c _ => rfl) ⟨D, ho, F, r, hl⟩ (fun x => ⟨.inl, fun z => z.elim id fun e => e ▸ hk⟩) id (by omega))
  · refine add_x ho F hk room (hQ _ (k :: l) true (fun c hc => Heap.get?_update_other _ _ (Ne.symm hc)) ⟨_, get_upd _ ho rfl, add_ok u F, addTx_ris _ _ r, hl.imp id fun z => by rw [addTx_led]; exact z⟩ (fun x => ?_) (fun z => List.nodup_cons.mpr ⟨hk, z⟩) (Nat.le_refl _))
    rw [List.mem_cons, or_comm]
end
section
variable {prog : Program} {w : World} {A : Around} {R : Result → Shared → Prop} {I : Addr} {fp wr : List Addr} {G : Array GenState → Array GenState → Prop} {n : Nat} {P : Nat → Value → Prop} {St : Nat → Shared → Prop}
theorem loopX (W : WalksS prog w A.in1 I fp wr G n P St) (S : Addr) (hSf : S ∉ fp) (xs : List Str) (hsz : xs.length = n) (hn1 : n < 64)
    (hval : ∀ i v, P i v → ∃ t, v = .str (xs.getD i Str.empty) t) :
    ∀ (k i : Nat) (s : Shared) (l : List Str), n - i = k → i ≤ n → St i s →
      SetX prog w s.heap S l → (∀ x, x ∈ l ↔ x ∈ xs.take i) → l.Nodup → l.length ≤ i →
      (∀ s' l', Moved (S :: wr) G s s' → SetX prog w s'.heap S l' → (∀ x, x ∈ l' ↔ x ∈ xs) → l'.Nodup → l'.length ≤ n → R (.ok (.ret .none)) s') →
      codeAny (model prog w) A (.builtin "set.update.loop" ⟨[.ref S, .ref I], []⟩) R s := by
  have hSw : S ∉ wr := fun h => hSf (W.sub _ h)
  have hsub : ∀ b ∈ wr, b ∈ S :: wr := fun b hb => List.mem_cons_of_mem _ hb
  intro k
  induction k with
  | zero =>
    intro i s l hk hi hst hS hm hnd hle hR
    have hin : i = n := by omega
    subst hin
    refine codeAny_builtin PyProof.Rows.F.entry_set_update_loop ?_
    rw [Around.under_plainId PyProof.Rows.F.plain_set_update_loop _]
    show wpAny _ A.in1 (pyNext (.ref I) >>= _) _ _ s
    refine wpAny_bind (W.done s _ _ hst fun s' hmv => ?_)
    show wpAny _ A.in1 (ret Value.none) _ _ s'
    exact wpAny_pure (hR s' l (hmv.mono hsub) (hS.at fun o ho => hmv.heap S _ hSw ho) (fun x => by rw [hm x, ← hsz, List.take_length]) hnd hle)
  | succ k ih =>
    intro i s l hk hi hst hS hm hnd hle hR
    have hlt : i < n := by omega
    refine codeAny_builtin PyProof.Rows.F.entry_set_update_loop ?_
    rw [Around.under_plainId PyProof.Rows.F.plain_set_update_loop _]
    show wpAny _ A.in1 (pyNext (.ref I) >>= _) _ _ s
    refine wpAny_bind (W.item i s _ _ hlt hst fun v s' hP hst' hmv => ?_)
    obtain ⟨t, rfl⟩ := hval i v hP
    have hS' : SetX prog w s'.heap S l := hS.at fun o ho => hmv.heap S _ hSw ho
    show wpAny _ A.in1 (holding [Value.str (xs.getD i Str.empty) t] (setAdd S (.str (xs.getD i Str.empty) t)) >>= _) _ _ s'
    refine wpAny_bind (wpAny_holding ?_)
    unfold setAdd
    refine wpAny_holding ?_
    refine wpAny_bind ((PySem.strKind prog w).pyHash (k := xs.getD i Str.empty) (strKind_is _ _ _ _) ?_)
    refine setX_add (s := { s' with toks := s'.toks + 1 }) (l := l) hS' (by unfold scanBound; omega) fun h' l' b hsb hS2 hm2 hnd2 hle2 => ?_
    refine wpAny_pure ⟨plainId_quiet PyProof.Rows.F.plain_set_update_loop _, ih (i + 1) _ l' (by omega) hlt (W.frame _ s' _ _ hst' (Nat.le_succ _) fun b hb o e => ?_) hS2 (fun x => ?_) (hnd2 hnd) (by omega) fun s'' l'' hm'' hS'' => ?_⟩
    · exact (hsb b (fun h : b = S => hSf (by rw [← h]; exact hb))).trans e
    · have ex : xs.take (i + 1) = xs.take i ++ [xs.getD i Str.empty] := by
        rw [List.take_succ, List.getD, List.getElem?_eq_getElem (by omega)]
        rfl
      rw [hm2 x, hm x, ex, List.mem_append, List.mem_singleton]
    · refine hR s'' l'' (Moved.trans W.gtrans ((hmv.mono hsub).then_heap (Nat.le_succ _) fun b o hb e => ?_) hm'') hS''
      exact (hsb b (fun h : b = S => hb (by rw [h]; exact List.mem_cons_self))).trans e
end
section
variable {prog : Program} {w : World} {A : Around} {E : Value → Shared → Prop} {s : Shared}
theorem call_set_listX {l : Addr} {items : Array Value} {xs : List Str} {Q : Value → Shared → Prop}
    (hh : A.handled = none) (hl : s.heap.IsList l items) (hi : PyProof.Rows.StrsAre items.toList xs) (hn1 : xs.length < 64)
    (h : ∀ (h' : Heap) (tk : Nat) (l' : List Str), SetX prog w h' s.heap.objs.size l' → (∀ x, x ∈ l' ↔ x ∈ xs) → l'.Nodup → l'.length ≤ xs.length →
      (∀ b o, b < s.heap.objs.size → s.heap.get? b = some o → h'.get? b = some o) → Q (.ref s.heap.objs.size) { s with heap := h', toks := tk }) :
    wpAny (model prog w) A (call (.type "set") [.ref l]) Q E s := by
  obtain ⟨c, tl, hmro⟩ := PySem.F.called_set.mro
  have hmade := PySem.F.called_set.made
  have hsub := PySem.F.called_set.sub
  refine wpAny_call (codeAny_of_tree ?_)
  show wpAny _ _ (callAny (.type "set") _) _ _ _
  refine wpAny_pure ⟨Code.quiet_builtin _ (by decide +kernel), codeAny_builtin PySem.F.entry_type_call ?_⟩
  rw [Around.under_plain (weight_type_call_type "set" [.ref l] []) rfl]
  have h1 := PySem.F.called_set.notType
  have h2 := PySem.F.called_set.canCreate
  have hct := PySem.F.typeCall_set_1 (.ref l)
  repeat (any_goals (first | assumption | wp_step))

  refine codeAny_mono (code_set_led1 (.ref l) (E := E) (Q₁ := fun obj s₁ => obj = .ref s.heap.objs.size ∧ s₁ = { s with heap := s.heap.push { cls := .type "set", dict := none, data := .set #[] 0 (.fresh 0 0 (!w.params.followText "set-order")) } }) ⟨rfl, rfl⟩) fun r s₁ hr => ?_
  cases r with
  | error e => exact hr
  | ok fl =>
    cases fl with
    | ret obj =>
      obtain ⟨rfl, rfl⟩ := hr
      have hS : (s.heap.push { cls := .type "set", dict := none, data := .set #[] 0 (.fresh 0 0 (!w.params.followText "set-order")) }).get? s.heap.objs.size = some { cls := .type "set", dict := none, data := .set #[] 0 (.fresh 0 0 (!w.params.followText "set-order")) } := Heap.get?_push_size _ rfl
      have hT : Shared.TypeIs { s with heap := s.heap.push { cls := .type "set", dict := none, data := .set #[] 0 (.fresh 0 0 (!w.params.followText "set-order")) } } (.ref s.heap.objs.size) "set" := ⟨_, hS, rfl⟩
      have hli := PySem.F.called_set.init.lookup
      have hbi := PySem.F.called_set.init.bind (.ref s.heap.objs.size)
      repeat (any_goals (first | assumption | wp_step))

      refine codeAny_mono (codeAny_call_builtin (R := wants (fun r s₂ => r = .none ∧ ∃ h' tk, s₂ = { s with heap := h', toks := tk } ∧
          (∃ l' : List Str, SetX prog w h' s.heap.objs.size l' ∧ (∀ x, x ∈ l' ↔ x ∈ xs) ∧ l'.Nodup ∧ l'.length ≤ xs.length) ∧
          (∀ b o, b < s.heap.objs.size → s.heap.get? b = some o → h'.get? b = some o)) E) PySem.F.called_set.init.plain PySem.F.entry_set_init (check_set_init_1 hT ?_)) fun r₂ s₂ hr₂ => ?_
      · obtain ⟨ol, hol, hcl, nl, hdl⟩ := hl
        obtain ⟨ocls, odict, odata, oslots⟩ := ol
        simp only at hcl hdl
        subst hcl; subst hdl
        have hol' : (s.heap.push { cls := .type "set", dict := none, data := .set #[] 0 (.fresh 0 0 (!w.params.followText "set-order")) }).get? l = some { cls := .type "list", dict := odict, data := .seq items nl, slots := oslots } := Heap.get?_push_of_some _ hol
        have hsls := PySem.F.sub_list_set
        have hslf := PySem.F.sub_list_frozenset
        have hne : (Value.type "list" == Value.type "dict") = false := by decide
        have hl1 : (s.heap.push { cls := .type "set", dict := none, data := .set #[] 0 (.fresh 0 0 (!w.params.followText "set-order")) }).IsList l items := ⟨_, hol', rfl, nl, rfl⟩
        unfold Builtin.«set.__init__» noKeywords Builtin.Frozenset.updateFrom
        generalize hPI : pyIter = PI
        wp_walk
        subst hPI

        refine wpAny_pyIter_list hl1 ?_
        refine wpAny_bind (wpAny_runValue ?_)
        have hlS : l < s.heap.objs.size := Heap.lt_size hol
        have hh3 : A.in1.in1.in1.handled = none := by simp [hh]
        have hneI : l ≠ (s.heap.push { cls := .type "set", dict := none, data := .set #[] 0 (.fresh 0 0 (!w.params.followText "set-order")) }).objs.size := by
          rw [Heap.size_push]; exact Nat.ne_of_lt (Nat.lt_succ_of_lt hlS)
        have hSf : s.heap.objs.size ∉ [(s.heap.push { cls := .type "set", dict := none, data := .set #[] 0 (.fresh 0 0 (!w.params.followText "set-order")) }).objs.size, l] := by
          rw [Heap.size_push]; simp only [List.mem_cons, List.mem_singleton, List.not_mem_nil, or_false, not_or]
          exact ⟨Nat.ne_of_lt (Nat.lt_succ_self _), Nat.ne_of_gt hlS⟩
        have hsz : xs.length = items.size := by rw [← StrsAre.len_eq hi, Array.length_toList]
        have hval : ∀ (i : Nat) (v : Value), items[i]? = some v → ∃ t, v = .str (xs.getD i Str.empty) t := fun i v hv => SS.strs_at hi i v (by rw [Array.getElem?_toList]; exact hv)
        refine loopX ((Walks.list hh3 _ l hneI items).toS) s.heap.objs.size
          hSf xs hsz (by rw [← hsz]; exact hn1) hval (items.size - 0) 0 _ [] (by omega) (Nat.zero_le _)
          ⟨⟨_, Heap.get?_push_size _ rfl, rfl, rfl⟩, (hl1.push _)⟩ ?hS0 (fun x => by simp) List.nodup_nil (Nat.le_refl _) ?hR
        case hS0 =>
          have hget : ((s.heap.push { cls := .type "set", dict := none, data := .set #[] 0 (.fresh 0 0 (!w.params.followText "set-order")) }).push { cls := .type "list_iterator", data := .fields #[.ref l, .int 0 0] }).get? s.heap.objs.size
              = some { cls := .type "set", dict := none, data := .set #[] 0 (.fresh 0 0 (!w.params.followText "set-order")) } := Heap.get?_push_of_some _ hS
          exact ⟨(#[], 0, .fresh 0 0 (!w.params.followText "set-order")), hget, TxOk.nil rfl, List.Pairwise.nil, by cases w.params.followText "set-order" <;> simp [SetTable.fresh]⟩
        case hR =>
          intro s' l' hm hS' hmem hnd hle
          obtain ⟨h', g', d', tk', os'⟩ := s'
          have eg : g' = s.gens := hm.gens
          have ed : d' = s.drawn := hm.drawn
          have eo : os' = s.os := hm.os
          subst eg; subst ed; subst eo
          show wpAny _ _ _ _ _ _
          refine wpAny_pure ?_
          show wpAny _ _ (ret Value.none) _ _ _
          refine wpAny_pure ⟨rfl, h', tk', rfl, ⟨l', hS', hmem, hnd, by rw [hsz]; exact hle⟩, fun b o hb e => ?_⟩
          have hb1 : b ≠ s.heap.objs.size := Nat.ne_of_lt hb
          have hb2 : b ≠ (s.heap.push { cls := .type "set", dict := none, data := .set #[] 0 (.fresh 0 0 (!w.params.followText "set-order")) }).objs.size := by
            rw [Heap.size_push]; exact Nat.ne_of_lt (Nat.lt_succ_of_lt hb)
          exact hm.heap b o (by simp only [List.mem_cons, List.mem_singleton, List.not_mem_nil, or_false, not_or]; exact ⟨hb1, hb2⟩) (Heap.get?_push_of_some _ (Heap.get?_push_of_some _ e))

      · cases r₂ with
        | error e => exact hr₂
        | ok fl₂ =>
          cases fl₂ with
          | ret r =>
            obtain ⟨rfl, h', tk, rfl, ⟨l', hS', q1, q2, q3⟩, hk'⟩ := hr₂
            repeat (any_goals (first | assumption | wp_step))
            exact h _ _ l' hS' q1 q2 q3 hk'
          | _ => exact hr₂.elim
    | _ => exact hr.elim
theorem perm_full : ∀ {l m : List Str}, l.Nodup → (∀ x ∈ l, x ∈ m) → m.length = l.length → m.Perm l
  | [], m, _, _, e => by rw [List.eq_nil_of_length_eq_zero e]
  | x :: l, m, nd, h, e => by
    obtain ⟨n1, n2⟩ := List.nodup_cons.mp nd
    have p := List.perm_cons_erase (h x List.mem_cons_self)
    have q := p.length_eq
    rw [List.length_cons] at q e
    exact p.trans ((perm_full n2 (fun y hy => (List.mem_erase_of_ne (fun z => n1 (by rw [← z]; exact hy))).mpr (h y (List.mem_cons_of_mem _ hy))) (by omega)).cons x)
theorem is_of {P : Program} {k : Str} {v : Value} (h : (PySem.strKind P w).is k v = true) : ∃ t, v = .str k t := by
  exact Value.isStrOf_shape h
/-- sorted(a set of texts) -/
theorem sorted_setX {a : Addr} {l : List Str} {Q : Value → Shared → Prop} (R : SetX prog w s.heap a l) (hh : A.handled = none) (h64 : l.length < 64) (hnd : l.Nodup)
    (hQ : ∀ s' p (out : Array Value) (c : Nat) (ys : List Str), (∀ b o, s.heap.get? b = some o → s'.heap.get? b = some o) → s'.gens = s.gens → s'.os = s.os → s.heap.objs.size ≤ p →
      s'.heap.get? p = some (seqObj "list" out c) → StrsAre out.toList ys → ys.Perm l → sortedS ys = true → Q (.ref p) s') :
    wpAny (model prog w) A (call (.builtin "sorted") [.ref a]) Q E s := by
  obtain ⟨⟨es, ep, t⟩, ho, F, hr, hl⟩ := R
  have hsz : es.size = l.length := F.sz
  refine Calls.call_function_entry kind_sorted plain_sorted entry_sorted (args_sorted1 _) ?_
  unfold Builtin.«sorted»
  refine wpAny_bind (m := checkCount "sorted" 1 1 _) (wpAny_pure ?_)
  refine wpAny_bind (collect_set (A := A.in1) hh ⟨_, ho, rfl, rfl⟩ F.fit (by show es.size < _; unfold scanBound; omega) hr hl fun s1 vs k1 hz g1 o1 pm => ?_)
  obtain ⟨ys0, hS, pm0⟩ : ∃ ys0, StrsAre vs ys0 ∧ ys0.Perm l := by
    have hv : ∀ v ∈ vs, ∃ e ∈ es.toList, e.2 = v := fun v hv => List.mem_map.mp (pm.mem_iff.mp hv)
    refine ⟨vs.map strOf, strsAre_map vs fun v h => ?_, perm_full hnd (fun x hx => ?_) ?_⟩
    · obtain ⟨e, he, rfl⟩ := hv v h
      obtain ⟨⟨k, hk, _⟩, _⟩ := F.el e he
      obtain ⟨t, e2⟩ := is_of hk
      exact ⟨k, t, e2⟩
    · obtain ⟨e, he, hk⟩ := (F.mem x).mp hx
      obtain ⟨t, e2⟩ := is_of hk
      refine List.mem_map.mpr ⟨e.2, pm.mem_iff.mpr (List.mem_map_of_mem he), ?_⟩
      rw [e2]
      rfl
    · rw [List.length_map, pm.length_eq, List.length_map, Array.length_toList]
      exact hsz
  have hvl : vs.length < 64 := by rw [hS.length, pm0.length_eq]; exact h64
  refine wpAny_bind (wpAny_newList ?_ (by rw [sizeLine_eq]; omega))
  have hoL : (s1.heap.push (seqObj "list" vs.toArray 0)).get? s1.heap.objs.size = some (seqObj "list" vs.toArray 0) := Heap.get?_push_size _ rfl
  refine wpAny_bind (wpAny_holding (wpAny_call_entry slot_list_sort ⟨_, hoL, rfl⟩ entry_list_sort (list_sort_treeK strKind_oneLt hoL hS.keysOf (fun v₁ v₂ rest e => keyKind_strs (by rw [← e]; exact hS)) hvl fun st' hp hs => ⟨_, rfl, ?_⟩) (args_list_sort _)))
  obtain ⟨ys, a1, a2, a3⟩ := sorted_out_str hS hp hs
  obtain ⟨c, hc⟩ := sortedHeap_at (vs := vs) (out := (arrOf st').map (·.2)) hoL
  refine wpAny_pure ⟨_, rfl, hQ _ s1.heap.objs.size _ c ys (fun b u e => ?_) g1 o1 hz hc a1 (a2.trans pm0) a3⟩
  have q := k1 b u e
  have hlt := Heap.lt_size q
  show (sortedHeap (s1.heap.push (seqObj "list" vs.toArray 0)) s1.heap.objs.size vs _).get? b = some u
  rw [sortedHeap_old (Nat.ne_of_lt hlt) (by rw [size_push']; exact Nat.lt_succ_of_lt hlt)]
  exact Heap.get?_push_of_some _ q
end
end SX
namespace L2
open PySem PySem.Spec PyProof.Rows
section
variable {X : Cx}
theorem nodup_of_perm' {l m : List Str} (p : l.Perm m) (h : m.Nodup) : l.Nodup := p.nodup_iff.mpr h
/-- sorted(set(xs)), xs a list of fewer than 64 texts -/
def tSortSet (K : PySem.W.Frag) (ta : TE) : TE := fun σ H Q => ta σ H fun x H1 => ∃ l, ∃ xs : List Str, x = .ref l ∧ SqL K H1 l (xs.map V.str) ∧ xs.length < 64 ∧
  ∀ (ys : List Str) (p : Addr), sortedS ys = true → ys.Nodup → (∀ k, k ∈ ys ↔ k ∈ xs) → ys.length ≤ xs.length → H1 p = none → Q (.ref p) (upd H1 p (.lst (ys.map V.str)))
theorem pe_sortSet {a : Expr} {ta : TE} {p p2 q pos : Pos} (hc : X.calm = true) (hg : Gl X "sorted") (hm : X.mg "sorted" = none) (hg2 : Gl X "set") (hm2 : X.mg "set" = none) (ha : PE X a ta)
    (na : starEach [a] X.env = (false, eval a X.env) :: starEach [] X.env := by rfl) : PE X (.Call (.Name "sorted" p) [.Call (.Name "set" p2) [a] [] q] [] pos) (tSortSet X.K ta) := by
  refine ⟨fun pins s σ H Q I h => ?_⟩
  refine Call_ (ld_blt I hg hm boot_sorted ?_)
  refine PyProof.Rows.callWith_builtin1 (PyProof.Rows.args_cons ?_ rfl) rfl rfl
  refine Call_ (ld_blt I hg2 hm2 boot_set ?_)
  refine PyProof.Rows.callWith_type1 (PyProof.Rows.args_cons (thn (ha.run pins s σ H _ I h) fun v s1 ⟨x, H1, I1, r1, q1⟩ => PyProof.Rows.args_nil ?_) na) na rfl
  obtain ⟨l, xs, rfl, hq, h64, q1⟩ := q1
  cases r1
  obtain ⟨its, r, pl, hz⟩ := I1.list hq
  refine SX.call_set_listX (I1.ok.hd hc) pl.isList (by simpa using strsAre_of r) h64 fun h' tk l' hS hmem hnd hle hk => PyProof.Rows.args_nil ?_
  have I2 : Inv X pins σ H1 { s1 with heap := h', toks := tk } := I1.kept fun b o e => hk b o (Heap.lt_size e) e
  refine SX.sorted_setX (s := { s1 with heap := h', toks := tk }) hS (I2.ok.hd hc) (by omega) hnd fun s' p0 out c ys k g o hp hgt hi pm so => ?_
  have hlen : (ys.map V.str).length ≤ sizeLine := by
    rw [List.length_map, pm.length_eq, sizeLine_eq]
    omega
  have hn : H1 p0 = none := I2.hok.fresh hp
  have J : Inv X pins σ (upd H1 p0 (.lst (ys.map V.str))) { ({ s1 with heap := h', toks := tk } : Shared) with heap := s'.heap, gens := s'.gens, drawn := s'.drawn, toks := s'.toks } :=
    I2.call (ch := []) (Un.laid k hp hn) (I2.hok.laid k hp ⟨hlen, out.toList, c, vals_of_strs hi, hgt⟩) (by rw [g]; exact I2.bare) (fun _ z => nomatch z)
  have e : s' = { s1 with heap := s'.heap, gens := s'.gens, drawn := s'.drawn, toks := s'.toks } := by
    cases s'
    cases s1
    cases o
    rfl
  rw [e]
  exact ⟨.ref p0, _, J, rfl, q1 ys p0 so (nodup_of_perm' pm hnd) (fun x => pm.mem_iff.trans (hmem x)) (by rw [pm.length_eq]; exact hle) hn⟩
end
end L2
namespace DL
open PySem PySem.Spec L2
variable [TbC]
section
variable {X : Cx} {E : XK} {a : Expr} {Ta : DT} {p p2 q pos : Pos}
theorem strs_repL (B : Option Addr) (S : Hp) : ∀ ys : List Str, RepL B S (ys.map D.str) (ys.map V.str)
  | [] => repL_nil
  | y :: ys => repL_cons rfl (strs_repL B S ys)
/-- what sorted(set(xs)) asks and gives: xs a list of fewer than 64 texts -/
def asSS (R : List D → Prop) : D → Prop
  | .lst xs => ∃ ss : List Str, xs = ss.map D.str ∧ ss.length < 64 ∧ ∀ ys : List Str, PyProof.Rows.sortedS ys = true → ys.Nodup → (∀ k, k ∈ ys ↔ k ∈ ss) → ys.length ≤ ss.length → R (ys.map D.str)
  | _ => False
theorem w_asSS {xs : List D} {R : List D → Prop} : asSS R (.lst xs) = ∃ ss : List Str, xs = ss.map D.str ∧ ss.length < 64 ∧ ∀ ys : List Str, PyProof.Rows.sortedS ys = true → ys.Nodup → (∀ k, k ∈ ys ↔ k ∈ ss) → ys.length ≤ ss.length → R (ys.map D.str) := rfl
def xSortSet (Ta : DT) : DTF := fun env R Rx => Ta env (asSS R) Rx
theorem w_sortSet {env : En} {R : List D → Prop} {Rx : Er → Prop} : xSortSet Ta env R Rx = Ta env (asSS R) Rx := rfl
theorem f_sortSet (hc : X.calm = true) (ha : DE X E a Ta) (hm : X.mg "sorted" = none) (hm2 : X.mg "set" = none) (hg : Gl X "sorted" := by rfl) (hg2 : Gl X "set" := by rfl)
    (na : starEach [a] X.env = (false, eval a X.env) :: starEach [] X.env := by rfl) : DF X E (.Call (.Name "sorted" p) [.Call (.Name "set" p2) [a] [] q] [] pos) (xSortSet Ta) := by
  obtain ⟨ta, p1, s1⟩ := ha
  refine ⟨_, pe_sortSet hc hg hm hg2 hm2 p1 na, fun c σ H S env R Rx x k t Q q => s1 c σ H S env _ Rx x k t _ fun v H1 S1 d k1 s3 r1 t1 => ?_⟩
  cases d <;> try exact (show False from t1).elim
  rename_i xs
  obtain ⟨ss, rfl, h64, t1⟩ := t1
  obtain ⟨a, vs, rfl, h1, _, l1⟩ := lst_of k1 r1
  have ev := l1.strs
  subst ev
  refine ⟨a, ss, rfl, SqL.of h1, h64, fun ys p so nd hmem hle hp => ?_⟩
  obtain ⟨k3, n2, n0, f⟩ := putO k1 (strs_repL (c.B) S1 ys) hp
  exact q p _ _ S1 _ k3 s3 n0 f n2 upd_same (strs_repL _ _ ys) (t1 ys so nd hmem hle)
end
end DL
namespace L2
open PySem PySem.Spec PyProof.Rows
section
variable {X : Cx} {CX : CXT} {k : Nat} {f : Addr} {fd : FuncData} {ps : List Str} {sp : Sp} {dvs : List V} {ds : List Value} {E : XK} {x : Str} {p pos : Pos} {e : Expr} {es : List Expr} {t : TA}
/-- the local i holds the def at f -/
def tCallV (i : Nat) (f : Addr) (sp : Sp) (dvs : List V) (E : XK) (t : TA) : TE := fun σ H Q => σ[i]? = some (some (.ref f)) ∧ t σ H fun vs H1 => sp (vs ++ dvs) H1 Q E
theorem pe_callV (i : Nat) (F : FnOk X.prog X.w X.K X.mg X.base CX k f fd ps sp) (hr : Room k X.A) (hk : PySem.W.keepIn X.K (.ref f) = true) (hb : Binds X.K fd ps ds) (hd : Vals dvs ds) (hx : Passes CX X E)
    (ha : PA X (e :: es) t) (hN : X.N[i]? = some x) (hv : Vis X.env.scope x) (hdb : (x == ("__debug__" : Str)) = false) (hcd : (x == ("__classdict__" : Str)) = false)
    (he : starEach (e :: es) X.env = (false, eval e X.env) :: starEach es X.env := by rfl) (hpl : (backTo pos (starEach es X.env)).any (·.1) = false := by rfl) :
    PE X (.Call (.Name x p) (e :: es) [] pos) (tCallV i f sp dvs E t) := by
  refine ⟨fun pins s σ H Q I ⟨hs, h⟩ => ?_⟩
  refine wpAny_Call_Name_kw (thn ((pe_var hN hv hdb hcd).run pins s σ H (fun v H1 => v = .ref f ∧ H1 = H) I ⟨_, hs, rfl, rfl⟩) fun u s1 ⟨v, H1, I1, r, e1, e2⟩ => ?_)
  subst e1 e2
  have r : u = .ref f := r
  subst r
  refine PySem.W.callWith_K (h₀ := X.base) I1.ok.mod.kin hk (thn (ha.run pos pins s1 σ H1 _ I1 h) fun us s2 ⟨vs, H2, I2, r2, q⟩ => ⟨I2.kIn, ?_⟩) he hpl
  exact run_fn F hr hb hd hx I2 r2 q
end
end L2
namespace DL
open PySem PySem.Spec L2
variable [TbC]
section
variable {X : Cx} {E : XK} {CX : CXT} {k n : Nat} {f : Addr} {fd : FuncData} {ps ks : List Str} {F : Spec} {x : Str} {p pos : Pos} {e : Expr} {es : List Expr} {Tl : DTA}
def xCallV (i : Nat) (f : Addr) (F : Spec) (Tl : DTA) : DT := fun env R Rx => env[i]? = some (some (.val (.adr f))) ∧ Tl env (fun xs => F xs R Rx) Rx
theorem w_callV {i : Nat} {env : En} {R : D → Prop} {Rx : Er → Prop} : xCallV i f F Tl env R Rx = (env[i]? = some (some (.val (.adr f))) ∧ Tl env (fun xs => F xs R Rx) Rx) := rfl
theorem d_callV (i : Nat) (G : FnOk X.prog X.w X.K X.mg X.base CX k f fd ps (spD F)) (hr : Room k X.A) (hk : PySem.W.keepIn X.K (.ref f) = true) (hb : Binds X.K fd ps []) (hx : Passes CX X E) (ha : DA X E (e :: es) Tl)
    (hN : X.N[i]? = some x := by rfl) (hv : Vis X.env.scope x := by first | exact Or.inl rfl | exact Or.inr (Or.inl rfl) | exact Or.inr (Or.inr rfl)) (hdb : (x == ("__debug__" : Str)) = false := by decide) (hcd : (x == ("__classdict__" : Str)) = false := by decide)
    (he : starEach (e :: es) X.env = (false, eval e X.env) :: starEach es X.env := by rfl) (hpl : (backTo pos (starEach es X.env)).any (·.1) = false := by rfl) :
    DE X E (.Call (.Name x p) (e :: es) [] pos) (xCallV i f F Tl) := by
  obtain ⟨t, pa, s⟩ := ha
  refine ⟨_, pe_callV i G hr hk hb .nil hx pa hN hv hdb hcd he hpl, fun c σ H S env R Rx x k t Q q => ?_⟩
  obtain ⟨e1, t⟩ := t
  obtain ⟨v, e2, r⟩ := k.sl i _ e1
  have r : v = .ref f := r
  subst r
  refine ⟨e2, s c σ H S env _ Rx x k t _ fun vs H1 S1 xs k1 s1 l1 t1 => ?_⟩
  rw [List.append_nil]
  exact sp_call k1 x l1 t1 fun v H' S' d k' s' r' t' => q v H' S' d k' (s1.trans s') r' t'
end
end DL
namespace Hx
open PySem PySem.Spec L2
structure CvV (K : PySem.W.Frag) (C : Addr) (f : Str) (v : V) : Prop where
  rd : ClX.CRead K C (.type "type")
  vl : ∃ u, ClX.CVal K C (.type "type") f v u
theorem cv_ok {K : PySem.W.Frag} {x f : Str} {v : V} (h : fCv x f v K = true) : CvV K (He.ga K x) f v := by
  obtain ⟨h1, h⟩ := He.ba h
  obtain ⟨h2, h3⟩ := He.ba h
  refine ⟨⟨h1, He.eqO_ok h2⟩, ?_⟩
  split at h3
  · rename_i u e
    exact ⟨u, e, relB_ok h3⟩
  · cases h3
end Hx
namespace DL
open PySem PySem.Spec L2
variable [TbC]
def xCv (d : D) : DT := fun _ R _ => R d
theorem w_xCv {d : D} {env : En} {R : D → Prop} {Rx : Er → Prop} : xCv d env R Rx = R d := rfl
/-- C.f, a whole number -/
theorem d_cvI {X : Cx} {E : XK} {C : Addr} {c f : Str} {i : Int} {p pos : Pos} (h : Hx.CvV X.K C f (.int i)) (hm : X.mg c = some (.ref C)) (hg : Gl X c := by rfl) (hd : (c == ("__debug__" : Str)) = false := by decide)
    (hb : attributeBase (.Name c p) f X.env (eval (.Name c p) X.env) = eval (.Name c p) X.env := by rfl) : DE X E (.Attribute (.Name c p) f pos) (xCv (.int i)) := by
  obtain ⟨u, hv⟩ := h.vl
  obtain ⟨t, pe, sm⟩ := (d_gadr (E := E) (pos := p) hm hg hd)
  refine ⟨_, ClX.pe_cval pe hb, fun c σ H S env R Rx x k t Q q => ?_⟩
  refine sm c σ H S env (fun d => d = .adr C ∧ R (.int i)) Rx x k ⟨rfl, t⟩ _ fun v H1 S1 d k1 s1 r1 t1 => ?_
  obtain ⟨rfl, t1⟩ := t1
  exact ⟨C, _, .int i, u, r1, h.rd, hv, q _ H1 S1 (.int i) k1 s1 rfl t1⟩
/-- x == y, x an own object, y a list -/
def opOwnL (C : Addr) (F : Spec) : DOp := fun x y R => asO C (fun _ _ => True) x ∧ (∃ ys, y = .lst ys) ∧ F [x, y] R noX
theorem w_opOwnL {C : Addr} {F : Spec} {x : D} {ys : List D} {R : D → Prop} : opOwnL C F x (.lst ys) R = (asO C (fun _ _ => True) x ∧ F [x, .lst ys] R noX) := by
  apply propext
  exact ⟨fun ⟨a, _, b⟩ => ⟨a, b⟩, fun ⟨a, b⟩ => ⟨a, ⟨_, rfl⟩, b⟩⟩
section
open PySem.W
end
def xTruLen (C : Addr) (F : Spec) (Ta : DT) : DTT := fun env R Rx => Ta env (fun x => asO C (fun _ _ => True) x ∧ F [x] (natR fun d => match d with | .int n => R (n != 0) | _ => False) noX) Rx
theorem w_xTruLen {C : Addr} {F : Spec} {Ta : DT} {env : En} {R : Bool → Prop} {Rx : Er → Prop} : xTruLen C F Ta env R Rx = Ta env (fun x => asO C (fun _ _ => True) x ∧ F [x] (natR fun d => match d with | .int n => R (n != 0) | _ => False) noX) Rx := rfl
end DL
namespace DL
open PySem PySem.Spec L2 PyProof.Rows LamX
variable [TbC]
/-- lambda i of the text: closed, its parameters ps, no defaults -/
structure LamC (i : Nat) (ps : List Str) : Prop where
  kind : (TbC.lq i).scope.kind = .function
  co : (TbC.lq i).scope.isCoroutine = false
  gen : (TbC.lq i).scope.isGenerator = false
  names : ∀ y ∈ (TbC.lq i).scope.names, y.2 ≠ .cell ∧ y.2 ≠ .free
  par : ∀ y ∈ ps, (TbC.lq i).scope.names.lookup y = some .local
  nd : ps.Nodup
  dfl : (TbC.lq i).dfl = []
  bind : ∀ (cl : List (Str × Addr)) (doc pm cdv ctv : Value) (s : Shared) (us : List Value), us.length = ps.length →
    BindsTo s (PySem.W.kdv_fn "<lambda>" (TbC.lq i).qual (TbC.lq i).params (.expr (TbC.lq i).body) (TbC.lq i).scope cl .none doc pm cdv ctv) ⟨us, []⟩ (ps.zip us)
theorem lamC_start {P : Program} {w : World} {K : PySem.W.Frag} {mg : Str → Option Value} {base : Heap} {A : Around} {outer : List Env} {s1 : Shared} {HZ : Hp} {E : XK} {ps : List Str} {i : Nat} {cl : List (Str × Addr)} {f c' : Addr} {vs : List V} {us : List Value} {h₁ : Heap} {tk : Nat}
    (L : LamC i ps) (e0 : Env0 P w K mg base A outer s1 HZ) (hd : A.handled = none) (hl : vs.length = ps.length) (r : Vals vs us)
    (hns : h₁.Ns s1.heap.objs.size fun y => (ps.zip us).reverse.lookup y) (kp : ∀ b o, s1.heap.get? b = some o → h₁.get? b = some o) :
    L2.Inv (lamCxB P w K mg base A outer s1 HZ E ps (TbC.lq i) cl f c') [] (vs.map some) HZ { s1 with heap := h₁, toks := tk } := by
  have cm : ∀ {y c}, (cloFrom cl (TbC.lq i).scope.names []).lookup y = some c → False := fun {y c} e => by
    rcases cloFrom_mem (PySem.mem_of_lookup e) with hm | ⟨h1, h2⟩
    · cases hm
    · exact (L.names _ h1).2 rfl
  have noA : ∀ b : Addr, b ∉ (lamCxB P w K mg base A outer s1 HZ E ps (TbC.lq i) cl f c').ex := fun b z => absurd (show b ∈ ([] : List Addr) from z) (by simp)
  refine ⟨⟨e0.mod, L.kind, rfl, rfl, Nat.le_refl _, fun y z c e1 e2 => (cm e1).elim, fun y hy => ?_, fun y c z _ => ?_, fun _ => hd, Around.frames_deeper e0.frames, .inr ⟨rfl, rfl⟩, fun b z => absurd z (noA b), e0.bs, e0.bsz, fun b _ _ => noA b,
      fun b z => absurd z (noA b), e0.funs, e0.frf⟩,
    rfl, e0.bare, Un.kept kp, ⟨_, hns, fun t y v e1 e2 e3 => ?_⟩, fun y c e => ?_, e0.hok.fresh (Nat.le_refl _), fun y c e => ?_, fun q hq => absurd (show q ∈ ([] : List (Addr × Obj)) ++ [] from hq) (by simp), e0.hok.kept kp, ?_⟩
  · have hy : (TbC.lq i).scope.names.lookup y = some .cell ∨ (TbC.lq i).scope.names.lookup y = some .free := hy
    rcases hy with hy | hy
    · exact absurd rfl (L.names _ (PySem.mem_of_lookup hy)).1
    · exact absurd rfl (L.names _ (PySem.mem_of_lookup hy)).2
  · have z : false = true := z
    cases z
  · have e1 : ps[t]? = some y := e1
    rw [List.getElem?_map] at e2
    cases e4 : vs[t]? with
    | none => rw [e4] at e2; cases e2
    | some a =>
      rw [e4] at e2
      cases e2
      obtain ⟨u, hu, rv⟩ := r.get e4
      exact ⟨u, rv, .inl ⟨L.par y (List.mem_of_getElem? e1), EXS.lookup_rev L.nd e1 hu⟩⟩
  · exact (cm e).elim
  · exact (cm e).elim
  · show (vs.map some).length = ps.length
    rw [List.length_map, hl]
section
variable {X : Cx} {E : XK} {kl : Nat} {ps : List Str} {x : Str} {p pos : Pos} {e : Expr} {es : List Expr} {Tl : DTA} {T : DT}
theorem repL_at {B : Option Addr} {S : Hp} : ∀ {ds : List D} {vs : List V} {t : Nat} {d : D}, RepL B S ds vs → ds[t]? = some d → ∃ v, vs[t]? = some v ∧ Rep B S d v
  | [], _, t, d, _, e => by simp at e
  | d0 :: ds, vs, t, d, r, e => by
    obtain ⟨v, ws, e2, r1, r2⟩ := repL_cons_of r
    subst e2
    cases t with
    | zero =>
      cases e
      exact ⟨v, rfl, r1⟩
    | succ t => exact repL_at (ds := ds) (t := t) r2 (by simpa using e)
def argE (xs : List D) : En := xs.map fun d => some (.val d)
theorem w_argE {d : D} {ds : List D} : argE (d :: ds) = some (.val d) :: argE ds := rfl
theorem w_argE0 : argE [] = [] := rfl
/-- slot j holds lambda i -/
def xCallFn (j i n : Nat) (Tl : DTA) (T : DT) : DT := fun env R Rx => (∃ cl z, env[j]? = some (some (.val (.fn i cl z)))) ∧ Tl env (fun xs => xs.length = n ∧ T (argE xs) R Rx) Rx
theorem w_callFn {j i n : Nat} {env : En} {R : D → Prop} {Rx : Er → Prop} : xCallFn j i n Tl T env R Rx = ((∃ cl z, env[j]? = some (some (.val (.fn i cl z)))) ∧ Tl env (fun xs => xs.length = n ∧ T (argE xs) R Rx) Rx) := rfl
theorem d_callFn (j i : Nat) (L : LamC i ps)
    (hT : ∀ (A : Around) (outer : List Env) (s : Shared) (H : Hp) (E : XK) (f c' : Addr) (cl : List (Str × Addr)), Room kl (A.deeper (lamEnvB (TbC.lq i) cl s.heap.objs.size f c')) → DE (lamCxB X.prog X.w X.K X.mg X.base A outer s H E ps (TbC.lq i) cl f c') E (TbC.lq i).body T)
    (hr : Room (kl + 1) X.A) (hx : Passes (L2.CX X.prog X.w) X E) (ha : DA X E (e :: es) Tl)
    (hN : X.N[j]? = some x := by rfl) (hv : Vis X.env.scope x := by first | exact Or.inl rfl | exact Or.inr (Or.inl rfl) | exact Or.inr (Or.inr rfl)) (hdb : (x == ("__debug__" : Str)) = false := by decide) (hcd : (x == ("__classdict__" : Str)) = false := by decide)
    (he : starEach (e :: es) X.env = (false, eval e X.env) :: starEach es X.env := by rfl) (hpl : (backTo pos (starEach es X.env)).any (·.1) = false := by rfl) :
    DE X E (.Call (.Name x p) (e :: es) [] pos) (xCallFn j i ps.length Tl T) := by
  obtain ⟨t, pa, sm⟩ := ha
  refine ⟨fun σ H Q => ∃ f, σ[j]? = some (some (.ref f)) ∧ (∃ cl dV c', H f = some (LamO f i cl dV c')) ∧ t σ H fun vs H1 => ∃ (cl : List (Str × Addr)) (dV : Value) (c' : Addr) (c : Fm) (S : Hp) (xs : List D) (R : D → Prop) (Rx : Er → Prop),
      c.H0 = H1 ∧ c.S0 = S ∧ Kf c H1 S ∧ H1 f = some (LamO f i cl dV c') ∧ H1 c' = some (CodeO c' (TbC.lq i).qual) ∧ DfOk S dV (TbC.lq i).dfl ∧ RepL c.B S xs vs ∧ xs.length = ps.length ∧ T (argE xs) R Rx ∧
      (∀ v H' S' d, Kf c H' S' → Rep c.B S' d v → R d → Q v H') ∧ XOk c E Rx, ⟨fun pins s σ H Q I h => ?_⟩, fun c σ H S env R Rx x k t Q q => ?_⟩
  · obtain ⟨f, hs, ⟨cl0, dV0, c0, hf0⟩, h⟩ := h
    refine wpAny_Call_Name_kw (thn ((pe_var (pos := p) (i := j) hN hv hdb hcd).run pins s σ H (fun v H1 => v = .ref f ∧ H1 = H) I ⟨.ref f, hs, rfl, rfl⟩) fun u s1 ⟨v, H1, I1, r1, q1⟩ => ?_)
    obtain ⟨ev, eH⟩ := q1
    subst ev
    rw [eH] at I1
    obtain rfl : u = Value.ref f := r1
    have fnAt : ∀ {s : Shared} {H : Hp} {cl dV c'}, L2.Inv X pins σ H s → H f = some (LamO f i cl dV c') → PySem.W.FnAt f s.heap := fun {s H cl dV c'} I hf => by
      have of0 := I.hok f _ hf
      unfold LamO at of0
      obtain ⟨⟨doc, pm, ctv, of1⟩, _, _⟩ := of0
      exact ⟨_, _, _, _, of1⟩
    refine PySem.W.callWith_F (fnAt I1 hf0) (thn (pa.run pos pins s1 σ H _ I1 h) fun us s2 ⟨vs, H2, I2, r2, cl, dV, c', c, S, xs, R, Rx, h0, hs0, kf, hf, hc, hdf, rl, hlen, hz, hq, xo⟩ => ⟨fnAt I2 hf, ?_⟩) he hpl
    have e0 := I2.env0
    have hlv : vs.length = ps.length := by rw [← hlen]; exact rl.length
    have hlu : us.length = ps.length := by rw [← hlv]; exact (Vals.length r2).symm
    have of0 := I2.hok f _ hf
    unfold LamO at of0
    obtain ⟨⟨doc, pm, ctv, of1⟩, _, _⟩ := of0
    obtain ⟨⟨oc, vs5, t5, hoc, hdc, hvc⟩, _, _⟩ := I2.hok c' _ hc
    have edV : dV = .none := by
      rcases hdf with ⟨_, e2⟩ | ⟨nn, _⟩
      · exact e2
      · exact absurd L.dfl nn
    subst edV
    have hb := L.bind (cloFrom cl (TbC.lq i).scope.names []) doc pm (.ref c') ctv s2 us hlu
    have KX : X.K.In s2.heap := I2.kIn
    have lim : s2.heap.NoLimit := e0.mod.nolimit.keeps fun b o e => (e0.bs b o e).1
    refine wpAny_call (codeAny_mono (R := CR (L2.CX X.prog X.w) X.stack X.prog X.w H2 s2 Q E) ?_ fun r s' hq' => ?_)
    · refine PySem.W.kla_callFunE hr.depth of1 rfl L.co L.gen rfl ⟨c', oc, vs5, t5, rfl, hoc, hdc, hvc⟩ (hb _ _ _ _ ?_)
      refine wpAny_newFunctionEnv (fun y hy => (L.names y hy).1) (fun y hy => L.par y.1 (List.of_mem_zip hy).1) (fun h₁ hns hsb => ⟨lim.fresh _ hsb, ?_⟩) L.kind
      show codeAny _ _ (.expr (TbC.lq i).body (lamEnvB (TbC.lq i) cl s2.heap.objs.size f c')) _ _
      have kp : ∀ b o, s2.heap.get? b = some o → h₁.get? b = some o := fun b o e => hsb.extBut b o (Nat.ne_of_lt (Heap.lt_size e)) (Heap.get?_push_of_some _ e)
      have J : L2.Inv (lamCxB X.prog X.w X.K X.mg X.base X.A X.stack s2 H2 E ps (TbC.lq i) cl f c') [] (vs.map some) H2 { s2 with heap := h₁, toks := s2.toks + (ps.zip us).length } := lamC_start L e0 hr.hd hlv r2 hns kp
      obtain ⟨tb, pb, sb⟩ := hT X.A X.stack s2 H2 E f c' cl (hr.deeper _)
      have kn : Kn c (vs.map some) H2 S (argE xs) := by
        refine ⟨kf, by unfold argE; rw [List.length_map, List.length_map]; exact rl.length.symm, fun t x e => ?_, fun a b x y v u a2 _ e _ _ _ f _ => ?_⟩
        · unfold argE at e
          rw [List.getElem?_map] at e
          obtain ⟨d, ed, e2⟩ := Option.map_eq_some_iff.mp e
          cases e2
          obtain ⟨v, ev, rv⟩ := repL_at rl ed
          refine ⟨v, by rw [List.getElem?_map, ev]; rfl, rv⟩
        · unfold argE at e
          rw [List.getElem?_map] at e
          obtain ⟨d, ed, e2⟩ := Option.map_eq_some_iff.mp e
          cases e2
          exact f
      refine PySem.W.kla_codeExpr (wpAny_mono (pb.run [] _ _ H2 Q J (sb c _ H2 S _ R Rx xo kn hz Q fun v H' S' d k' s' r' z => hq v H' S' d k'.kf r' z)) (fun v s' hq' => ?_) fun e s' hq' => hq')
      obtain ⟨w', H', J', rv, q⟩ := hq'
      exact ⟨w', H', J'.os, J'.bare, J'.base, J'.hok, rv, q⟩
    · cases r with
      | error e => exact hx pins σ H2 s2 e s' I2 hq'
      | ok fl =>
        cases fl with
        | ret u => exact I2.after hq'
        | next => exact False.elim hq'
        | brk => exact False.elim hq'
        | cont => exact False.elim hq'
  · obtain ⟨⟨cl, z, e⟩, t⟩ := t
    obtain ⟨v, ev, r⟩ := k.sl j _ e
    have r : Rep c.B S (.fn i cl z) v := r
    rw [Rep] at r
    obtain ⟨f, dV, c', rfl, e1, e2, hdf, hn⟩ := r
    refine ⟨f, ev, ⟨cl, dV, c', k.kf.sub _ _ e1⟩, sm c σ H S env _ Rx x k t _ fun vs H1 S1 xs k1 s1 l1 t1 => ?_⟩
    exact ⟨cl, dV, c', c.at H1 S1, S1, xs, R, Rx, rfl, rfl, k1.kf.at, k1.kf.sub _ _ (s1 _ _ e1), k1.kf.sub _ _ (s1 _ _ e2), hdf.mono s1, l1, t1.1, t1.2, fun v H' S' d k' r' y => q v H' S' d (k1.back k') (s1.trans k'.s0) r' y,
      fun er d vs H2 S2 k2 r2 l2 h2 n0 n1 y => x.at k1.kf er d vs H2 S2 k2 r2 l2 h2 n0 n1 y⟩
theorem d_callFnQ (j i : Nat) {q : LamQ} (hq : TbC.lq i = q) (L : LamC i ps)
    (hT : ∀ (A : Around) (outer : List Env) (s : Shared) (H : Hp) (E : XK) (f c' : Addr) (cl : List (Str × Addr)), Room kl (A.deeper (lamEnvB q cl s.heap.objs.size f c')) → DE (lamCxB X.prog X.w X.K X.mg X.base A outer s H E ps q cl f c') E q.body T)
    (hr : Room (kl + 1) X.A) (hx : Passes (L2.CX X.prog X.w) X E) (ha : DA X E (e :: es) Tl)
    (hN : X.N[j]? = some x := by rfl) (hv : Vis X.env.scope x := by first | exact Or.inl rfl | exact Or.inr (Or.inl rfl) | exact Or.inr (Or.inr rfl)) (hdb : (x == ("__debug__" : Str)) = false := by decide) (hcd : (x == ("__classdict__" : Str)) = false := by decide)
    (he : starEach (e :: es) X.env = (false, eval e X.env) :: starEach es X.env := by rfl) (hpl : (backTo pos (starEach es X.env)).any (·.1) = false := by rfl) :
    DE X E (.Call (.Name x p) (e :: es) [] pos) (xCallFn j i ps.length Tl T) := by
  subst hq
  exact d_callFn j i L hT hr hx ha hN hv hdb hcd he hpl
end
/-- what is asked of lambda i, by reckoning -/
def lamCB (q : LamQ) (ps : List Str) : Bool :=
  decide (q.scope.kind = .function) && !q.scope.isCoroutine && !q.scope.isGenerator && (q.scope.names.all fun y => !decide (y.2 = .cell) && !decide (y.2 = .free)) && (ps.all fun y => decide (q.scope.names.lookup y = some .local)) && decide ps.Nodup && decide (q.dfl = [])
theorem lamC_of {i : Nat} {q : LamQ} {ps : List Str} (hq : TbC.lq i = q) (h : lamCB q ps = true)
    (hb : ∀ (cl : List (Str × Addr)) (doc pm cdv ctv : Value) (us : List Value), us.length = ps.length → bindArgs (PySem.W.kdv_fn "<lambda>" q.qual q.params (.expr q.body) q.scope cl .none doc pm cdv ctv) ⟨us, []⟩ = pure (ps.zip us)) : LamC i ps := by
  unfold lamCB at h
  simp only [Bool.and_eq_true, Bool.not_eq_true', decide_eq_true_eq, decide_eq_false_iff_not, List.all_eq_true] at h
  obtain ⟨⟨⟨⟨⟨⟨h1, h2⟩, h3⟩, h4⟩, h5⟩, h6⟩, h7⟩ := h
  subst hq
  exact ⟨h1, h2, h3, h4, h5, h6, h7, fun cl doc pm cdv ctv s us hl => BindsTo.of_eq (hb cl doc pm cdv ctv us hl)⟩
section
variable {X : Cx} {E : XK} {i : Nat} {c P : Addr} {params : Arguments} {body : Expr} {scope : Scope} {pos : Pos} {q : Str}
theorem d_lamP0 (hqe : X.env.qual ++ "<lambda>" = q) (TB : TabB X.base X.mg c P) (hcode : X.env.code = .ref c) (hP : (P, q) ∈ TbC.ts) (hu : ∀ p ∈ TbC.ts, p.1 = P → p.2 = q)
    (hq : TbC.lq i = ⟨q, params, body, scope, []⟩) (hfree : ∀ y ∈ scope.names, y.2 = .free → X.env.scope.names.lookup y.1 = some .cell ∨ X.env.scope.names.lookup y.1 = some .free) (hdef : defaultsOf params X.env = ([], [])) {cl : List (Str × Addr)} (hcl : X.env.cells = cl) : DE X E (.Lambda params body scope pos) (xLam i cl) := by
  subst hqe
  subst hcl
  refine ⟨fun σ H Q => TabS H P (X.env.qual ++ "<lambda>") ∧ ∀ f c' H1, LamMade H H1 P (X.env.qual ++ "<lambda>") f c' i X.env.cells .none → Q (.ref f) H1, ⟨fun pins s σ H Q I h => ?_⟩, fun c0 σ H S env R Rx x k t Q q => ⟨(k.kf.tab.1 _ hP).1, fun f c' H1 m => ?_⟩⟩
  · refine PySem.W.kla_eval hdef ?_
    rw [makeFunction_eq]
    simp only [List.zip_nil_right, List.filterMap_nil, List.isEmpty_nil, if_true, pure_bind]
    exact lam_tail I TB hcode h.1 hq (fun y hy e => by
      rcases hfree y hy e with z | z
      · exact I.ok.has _ (.inl z)
      · exact I.ok.has _ (.inr z)) fun f c' H1 s' I1 m => ⟨.ref f, H1, I1, rfl, h.2 f c' H1 m⟩
  · obtain ⟨S1, k1, ss, e1, e2⟩ := kn_lam k m hP hu
    refine q _ H1 S1 (.fn i X.env.cells none) k1 ss ?_ t
    rw [Rep]
    refine ⟨f, _, c', rfl, e1, by rw [hq]; exact e2, .inl ⟨by rw [hq], rfl⟩, fun y hy => by cases hy⟩
end
section
variable {P : Program} {w : World} {K : PySem.W.Frag} {mg : Str → Option Value} {base : Heap}
theorem funD_okC {CX : CXT} {x qual : Str} {params : Arguments} {body : List Stmt} {scope : Scope} {dvs : List V} {kws : List (Str × V)} {f : Addr} {fd : FuncData} {N ps : List Str} {k : Nat} {sp : Sp} (F : FunD K x qual params body scope dvs kws f fd) (S : FnScope N ps scope) (len : ∀ vs H Q E, sp vs H Q E → vs.length = ps.length)
    (hbody : ∀ (A : Around) (outer : List Env) (s : Shared) (H : Hp) (vs : List V) (Q : VK) (E : XK), Room k (A.deeper (PyProof.Rows.envOfC qual scope s.heap.objs.size f fd.code)) → sp vs H Q E →
      ∃ t, PSs (cxOf CX P w K mg base N qual scope f fd.code A outer s H E) body t ∧ t { nx := fun _ H' => Q .non H', rt := Q } (L2.start N vs) H) : FnOk P w K mg base CX (k + 1) f fd ps sp := by
  obtain ⟨oc, od, dV, kV, doc, pm, an, cdv, ct, osl, rfl, lk, hcd, _, _⟩ := F.ex
  exact fn_of lk hcd S len fun A outer s H vs Q E hr hsp => hbody A outer s H vs Q E hr hsp
/-- a def with lambdas in it, its result made new -/
theorem fn_nL {T : List (Str × Addr) → DTS} {x qual : Str} {st : Stmt} {dvs : List V} {kws : List (Str × V)} {f : Addr} {fd : FuncData} {N ps : List Str} {k : Nat} {F : Spec} (Fd : FnS K x qual st dvs kws f fd) (S : FnScope N ps (defScope st)) (len : ∀ ds R Rx, F ds R Rx → ds.length = ps.length)
    (hbody : ∀ (cl : List (Str × Addr)) (A : Around) (outer : List Env) (s : Shared) (H : Hp) (E : XK), Room k (A.deeper (PyProof.Rows.envOfC qual (defScope st) s.heap.objs.size f fd.code)) → (cxOf (L2.CX P w) P w K mg base N qual (defScope st) f fd.code A outer s H E).env.cells = cl →
      DSs (cxOf (L2.CX P w) P w K mg base N qual (defScope st) f fd.code A outer s H E) E (defBody st) (T cl))
    (hT : ∀ cl ds R Rx, F ds R Rx → T cl { nx := fun _ => R .non, rt := fun n d => (n = .nw ∨ d.flat = true) ∧ R d, ex := Rx } (startE N ds)) : FnOk P w K mg base (L2.CX P w) (k + 1) f fd ps (spN F) := by
  refine funD_okC Fd S (fun vs H Q E ⟨c, S, ds, R, Rx, _, _, _, l, h, _⟩ => by rw [l.length]; exact len _ _ _ h) fun A outer s H vs Q E hr hsp => ?_
  obtain ⟨c, Sh, ds, R, Rx, h0, hs0, kf, l, h, q, xo⟩ := hsp
  obtain ⟨t, p, sm⟩ := hbody _ A outer s H E hr rfl
  refine ⟨t, p, sm c _ H Sh _ _ xo (kn_start kf l) (hT _ ds R Rx h) _ ⟨fun σ H1 S1 env k1 s1 r1 => ?_, fun n v H1 S1 d k1 s1 r1 t1 => q v H1 S1 d k1 ?_ t1.2, fun σ H1 S1 env k1 s1 r1 => r1, fun σ H1 S1 env k1 s1 r1 => r1⟩⟩
  · exact q .non H1 S1 .non k1.kf rfl r1
  · cases n with
    | nw => rw [← h0]; exact r1
    | old => exact flat_rep (t1.1.resolve_left (fun z => nomatch z)) (show Rep _ _ d v from r1)
    | tr =>
      obtain ⟨S2, _, _, r2⟩ := r1.old k1
      exact flat_rep (t1.1.resolve_left (fun z => nomatch z)) r2
end
end DL
namespace DL
open PySem PySem.Spec L2
variable [TbC]
def spF (F : Spec) : Sp := fun vs H Q E => ∃ (c : Fm) (S : Hp) (ds : List D) (R : D → Prop) (Rx : Er → Prop), c.H0 = H ∧ c.S0 = S ∧ Kf c H S ∧ RepL c.B S ds vs ∧ F ds R Rx ∧ (∀ p us H' S' xs, Kf c H' S' → H p = none → S' p = none → H' p = some (.lst us) → RepL c.B S' xs us → R (.lst xs) → Q (.ref p) H') ∧ XOk c E Rx
section
variable {P : Program} {w : World} {K : PySem.W.Frag} {mg : Str → Option Value} {base : Heap} {x qual : Str} {st : Stmt} {dvs : List V} {kws : List (Str × V)} {f : Addr} {fd : FuncData} {N ps : List Str} {k : Nat} {F : Spec}
theorem fn_f {e : Expr} {pos : Pos} {T : DTF} (Fd : FnS K x qual st dvs kws f fd) (S : FnScope N ps (defScope st)) (len : ∀ ds R Rx, F ds R Rx → ds.length = ps.length) (hst : defBody st = [.Return (some e) pos])
    (hbody : ∀ (cdv : Value) (A : Around) (outer : List Env) (s : Shared) (H : Hp) (E : XK), Room k (A.deeper (PyProof.Rows.envOfC qual (defScope st) s.heap.objs.size f cdv)) →
      DF (cxOf (L2.CX P w) P w K mg base N qual (defScope st) f cdv A outer s H E) E e T)
    (hT : ∀ ds R Rx, F ds R Rx → T (startE N ds) (fun xs => R (.lst xs)) Rx) : FnOk P w K mg base (L2.CX P w) (k + 1) f fd ps (spF F) := by
  refine FunD.ok Fd S (fun vs H Q E ⟨c, S, ds, R, Rx, _, _, _, l, h, _⟩ => by rw [l.length]; exact len _ _ _ h) fun cdv A outer s H vs Q E hr hsp => ?_
  obtain ⟨c, Sh, ds, R, Rx, h0, hs0, kf, l, h, q, xo⟩ := hsp
  obtain ⟨t, p, sm⟩ := hbody cdv A outer s H E hr
  rw [hst]
  refine ⟨_, pss_one (ps_ret p), ?_⟩
  exact sm c _ H Sh _ _ _ xo (kn_start kf l) (hT ds R Rx h) _ fun p us H' S' xs k1 s1 n0 fr n2 e1 l1 r1 => q p us H' S' xs k1.kf (by rw [← h0]; exact n0) n2 e1 l1 r1
end
section
variable {X : Cx} {E : XK} {CX : CXT} {k n : Nat} {f C : Addr} {fd : FuncData} {ps ks : List Str} {F : Spec} {m : Str} {o : Expr} {To : DT} {pos apos : Pos} {e : Expr} {es : List Expr} {Tl : DTA}
theorem sp_callF {c : Fm} {σ : St} {H S : Hp} {env : En} {vs : List V} {xs : List D} {R : D → Prop} {Rx : Er → Prop} {Q : VK} (kn : Kn c σ H S env) (x : XOk c E Rx) (l : RepL c.B S xs vs) (t : F xs R Rx)
    (q : ∀ p us H' S' ys, Kn c σ H' S' env → Same S S' → c.H0 p = none → Free σ env p → S' p = none → H' p = some (.lst us) → RepL c.B S' ys us → R (.lst ys) → Q (.ref p) H') : spF F vs H Q E :=
  ⟨c.at H S, S, xs, R, Rx, rfl, rfl, kn.kf.at, l, t, fun p us H' S' ys k' hp np e1 l1 r1 => q p us H' S' ys (kn.back k') k'.s0 (kn.kf.h0_none hp) (kn.free hp) np e1 l1 r1, x.at kn.kf⟩
def xMethF (C : Addr) (m : Str) (F : Spec) (To : DT) : DTF := fun env R Rx => To env (fun d => asO C (fun ks xs => fld ks xs m = none) d ∧ F [d] (fun r => match r with
  | .lst ys => R ys
  | _ => False) Rx) Rx
theorem w_xMethF {env : En} {R : List D → Prop} {Rx : Er → Prop} : xMethF C m F To env R Rx = To env (fun d => asO C (fun ks xs => fld ks xs m = none) d ∧ F [d] (fun r => match r with
  | .lst ys => R ys
  | _ => False) Rx) Rx := rfl
theorem f_methF0 {pl : Sem Bool} (he : DE X E o To) (c : Cls X.K C) (hm : Meth X.K C m f) (G : FnOk X.prog X.w X.K X.mg X.base CX k f fd ps (spF F)) (hr : Room k X.A) (hb : Binds X.K fd ps []) (hx : Passes CX X E)
    (ht : eval (.Call (.Attribute o m apos) [] [] pos) X.env = (do
      let ov ← eval o X.env
      standAt apos.atName
      let (f, first) ← holding [ov] (getMethod ov m pl)
      callWith pos f first (backTo pos (starEach [] X.env)) (backToKw pos (keywordEach [] X.env))) := by rfl) :
    DF X E (.Call (.Attribute o m apos) [] [] pos) (xMethF C m F To) := by
  obtain ⟨t, p1, s⟩ := he
  refine ⟨_, pe_meth0 p1 c hm G hr hb .nil hx ht, fun c0 σ H S env R Rx x k t Q q => s c0 σ H S env _ Rx x k t _ fun v H1 S1 d k1 s1 r1 t1 => ?_⟩
  obtain ⟨t0, t1⟩ := t1
  cases d <;> try exact (show False from t0).elim
  obtain ⟨rfl, e1⟩ := t0
  obtain ⟨a, dx, vs, e2, h1, hn, l1⟩ := obj_of k1 r1
  refine ⟨a, dx, _, e2, h1, fld_none l1 hn e1, ?_⟩
  exact sp_callF k1 x (repL_cons r1 repL_nil) t1 fun p us H' S' ys k' s' n0 fr np e3 l3 r3 => q p us H' S' ys k' (s1.trans s') n0 fr np e3 l3 r3
end
section
variable {X : Cx} {CX : CXT} {k n : Nat} {C g : Addr} {fd : FuncData} {ps : List Str} {sp : Sp} {E : XK}
theorem op_ownEqA {op : CmpOp} {m1 m2 : Str} (hop : ∀ a b, compareOp op a b = richCompare op a b) (hs : PySem.W.findIn X.K (.ref C) (cmpInfo op).2.1 = some (some (.ref g))) (hf : PySem.W.isFn X.K (.ref g) = true) (i : Hx.OwnI X.K C m1 m2)
    (F : FnOk X.prog X.w X.K X.mg X.base CX n g fd ps sp) (hb : Binds X.K fd ps []) (hr : Room n X.A) (hx : Passes CX X E) : OpR X (compareOp op) (rOBa C sp E) := by
  intro pins s σ H x y v u Q I rx ry h
  obtain ⟨a, dx, fs, c, σ', S, env, d, T, rfl, ha, kn, rd, hT, q⟩ := h
  cases (show v = Value.ref a from rx)
  obtain ⟨mA, J, _⟩ := ins_get I.hok ha
  obtain ⟨od, J, _⟩ := J.look
  obtain ⟨m, hF⟩ := I.fr
  have hsub := (i.all T (bty_in hT)).2.2
  rw [hop]
  refine PySem.W.cmp_K (op := op) (tb := .type T) hr.units0 hF I.ok.mod.kin J (bty_looks kn rd I ry hT) (by simp [PySem.W.notFirst, hsub]) hs hf ?_
  refine thn (run_fn (us := [.ref a, u]) (vs := [.ref a, y]) (dvs := []) F hr hb .nil hx I (.cons rfl (.cons ry .nil)) (by rw [List.append_nil]; exact q)) fun w s' z => ?_
  obtain ⟨z', H', I', rz, qz⟩ := z
  exact back_of rz ⟨z', H', I', rz, qz⟩
end
def opOwnA (C : Addr) (F : Spec) : DOp := fun x y R => asO C (fun _ _ => True) x ∧ asA y ∧ F [x, y] R noX
theorem w_opOwnA {C : Addr} {F : Spec} {x y : D} {R : D → Prop} : opOwnA C F x y R = (asO C (fun _ _ => True) x ∧ asA y ∧ F [x, y] R noX) := rfl
theorem c_ownEqA {X : Cx} {k : Nat} {C g : Addr} {fd : FuncData} {ps : List Str} {F : Spec} {n m : Str} (i : Hx.OwnI X.K C n m) (o : Hx.Own X.K C "__eq__" g) (G : FnOk X.prog X.w X.K X.mg X.base (L2.CX X.prog X.w) k g fd ps (spD F)) (hb : Binds X.K fd ps []) (hr : Room k X.A) : CmpOk X .Eq (opOwnA C F) := by
  refine ⟨_, op_ownEqA (op := .Eq) (fun _ _ => rfl) o.at_ o.fn i G hb hr passL, fun c σ H S env x y v u R kn r1 r2 t Q q => ?_⟩
  obtain ⟨o1, o2, t⟩ := t
  cases x <;> try exact (show False from o1).elim
  obtain ⟨rfl, _⟩ := o1
  obtain ⟨a1, dx, vs, e1, h1, _, l1⟩ := obj_of kn r1
  cases hT : y.bty with
  | none => exact absurd hT o2
  | some T => exact ⟨a1, dx, _, c, σ, S, env, y, T, e1, h1, kn, r2, hT, sp_call kn xok0 (repL_cons r1 (repL_cons r2 repL_nil)) t fun v H' S' d k' s' r' t' => q v H' S' d k' s' r' t'⟩
end DL
namespace DL
open PySem PySem.Spec L2 Hd
section
variable [TbC] {P : Program} {w : World} {K : PySem.W.Frag} {mg : Str → Option Value} {base : Heap}
theorem tru_non : D.tru .non = some false := rfl
theorem tru_bl {b : Bool} : D.tru (.bl b) = some b := rfl
theorem tru_int {i : Int} : D.tru (.int i) = some (i != 0) := rfl
theorem tru_str {s : Str} : D.tru (.str s) = if s.length ≤ sizeLine then some ((s.length : Int) != 0) else none := rfl
theorem tru_lst {xs : List D} : D.tru (.lst xs) = some (!xs.isEmpty) := rfl
theorem tru_tup {xs : List D} : D.tru (.tup xs) = some (!xs.isEmpty) := rfl
theorem isN_non : D.isN .non = true := rfl
theorem isN_bl {b : Bool} : D.isN (.bl b) = false := rfl
theorem isN_int {i : Int} : D.isN (.int i) = false := rfl
theorem isN_str {s : Str} : D.isN (.str s) = false := rfl
theorem isN_lst {xs : List D} : D.isN (.lst xs) = false := rfl
theorem isN_tup {xs : List D} : D.isN (.tup xs) = false := rfl
theorem isN_obj {C : Addr} {ks : List Str} {xs : List D} : D.isN (.obj C ks xs) = false := rfl
theorem dat_non : D.dat .non = true := rfl
theorem dat_bl {b : Bool} : D.dat (.bl b) = true := rfl
theorem dat_int {i : Int} : D.dat (.int i) = true := rfl
theorem dat_str {s : Str} : D.dat (.str s) = true := rfl
theorem dat_lst {xs : List D} : D.dat (.lst xs) = datL xs := rfl
theorem dat_tup {xs : List D} : D.dat (.tup xs) = datL xs := rfl
theorem datL_nil : datL [] = true := rfl
theorem datL_cons {x : D} {xs : List D} : datL (x :: xs) = (x.dat && datL xs) := rfl
theorem dep_non : D.dep .non = 1 := rfl
theorem dep_bl {b : Bool} : D.dep (.bl b) = 1 := rfl
theorem dep_int {i : Int} : D.dep (.int i) = 1 := rfl
theorem dep_str {s : Str} : D.dep (.str s) = 1 := rfl
theorem dep_lst {xs : List D} : D.dep (.lst xs) = 1 + depL xs := rfl
theorem dep_tup {xs : List D} : D.dep (.tup xs) = 1 + depL xs := rfl
theorem depL_nil : depL [] = 0 := rfl
theorem depL_cons {x : D} {xs : List D} : depL (x :: xs) = max x.dep (depL xs) := rfl
theorem py_non : D.py .non = .none := rfl
theorem py_bl {b : Bool} : D.py (.bl b) = .bool b := rfl
theorem py_int {i : Int} : D.py (.int i) = .int i := rfl
theorem py_str {s : Str} : D.py (.str s) = .str s := rfl
theorem py_lst {xs : List D} : D.py (.lst xs) = .list (pyL xs) := rfl
theorem py_tup {xs : List D} : D.py (.tup xs) = .tuple (pyL xs) := rfl
theorem pyL_nil : pyL [] = [] := rfl
theorem pyL_cons {x : D} {xs : List D} : pyL (x :: xs) = x.py :: pyL xs := rfl
theorem eqv_self (d : D) : PyData.eqv d.py d.py = true := SeqAt.eqv_refl_plain d.py (py_plain d)
def GoodL (n : Nat) (xs : List D) : Prop := ∀ x ∈ xs, Good n x
theorem goodL_nil {n : Nat} : GoodL n [] = True := by simp [GoodL]
theorem goodL_cons {n : Nat} {x : D} {xs : List D} : GoodL n (x :: xs) = (Good n x ∧ GoodL n xs) := by simp [GoodL]
theorem goodl_lst {n : Nat} {xs : List D} : Good (n + 1) (.lst xs) = (xs.length ≤ 100000 ∧ GoodL n xs) := rfl
theorem goodl_tup {n : Nat} {xs : List D} : Good (n + 1) (.tup xs) = (xs.length ≤ 100000 ∧ GoodL n xs) := rfl
theorem flat_non : D.flat .non = true := rfl
theorem flat_bl {b : Bool} : D.flat (.bl b) = true := rfl
theorem flat_int {i : Int} : D.flat (.int i) = true := rfl
theorem flat_str {s : Str} : D.flat (.str s) = true := rfl
theorem flatL_ints {ns : List Int} : flatL (ns.map D.int) = true := flatL_map fun _ => rfl
theorem asInts_nil : asInts [] = some [] := rfl
theorem asInts_cons {i : Int} {xs : List D} : asInts (.int i :: xs) = (asInts xs).map (i :: ·) := by
  rw [asInts]
theorem goodL_ints {n : Nat} {ns : List Int} : GoodL (n + 1) (ns.map D.int) = True := by
  simp only [eq_iff_iff, iff_true]
  exact fun x hx => by
    obtain ⟨i, _, rfl⟩ := List.mem_map.mp hx
    trivial
theorem eqv_nn : PyData.eqv .none .none = true := rfl
theorem eqv_bb {a b : Bool} : PyData.eqv (.bool a) (.bool b) = decide (a = b) := by simp only [PyData.eqv]; cases a <;> cases b <;> rfl
theorem eqv_ii {a b : Int} : PyData.eqv (.int a) (.int b) = decide (a = b) := by simp only [PyData.eqv]; exact Bool.beq_eq_decide_eq a b
theorem eqv_ss {a b : Str} : PyData.eqv (.str a) (.str b) = (a == b) := by simp only [PyData.eqv]
theorem eqv_ll {a b : List PyData} : PyData.eqv (.list a) (.list b) = PyData.eqvAll a b := by simp only [PyData.eqv]
theorem eqv_tt {a b : List PyData} : PyData.eqv (.tuple a) (.tuple b) = PyData.eqvAll a b := by simp only [PyData.eqv]
theorem eqv_lt {a b : List PyData} : PyData.eqv (.list a) (.tuple b) = false := by simp only [PyData.eqv]
theorem eqv_tl {a b : List PyData} : PyData.eqv (.tuple a) (.list b) = false := by simp only [PyData.eqv]
theorem eqv_nb {b : Bool} : PyData.eqv .none (.bool b) = false := by simp only [PyData.eqv]
theorem eqv_bn {b : Bool} : PyData.eqv (.bool b) .none = false := by simp only [PyData.eqv]
theorem eqv_ni {i : Int} : PyData.eqv .none (.int i) = false := by simp only [PyData.eqv]
theorem eqv_in {i : Int} : PyData.eqv (.int i) .none = false := by simp only [PyData.eqv]
theorem eqv_ns {s : Str} : PyData.eqv .none (.str s) = false := by simp only [PyData.eqv]
theorem eqv_sn {s : Str} : PyData.eqv (.str s) .none = false := by simp only [PyData.eqv]
theorem eqv_nl {l : List PyData} : PyData.eqv .none (.list l) = false := by simp only [PyData.eqv]
theorem eqv_ln {l : List PyData} : PyData.eqv (.list l) .none = false := by simp only [PyData.eqv]
theorem eqvAll_nn : PyData.eqvAll [] [] = true := by simp only [PyData.eqvAll]
theorem eqvAll_nc {x : PyData} {xs : List PyData} : PyData.eqvAll [] (x :: xs) = false := by simp only [PyData.eqvAll]
theorem eqvAll_cn {x : PyData} {xs : List PyData} : PyData.eqvAll (x :: xs) [] = false := by simp only [PyData.eqvAll]
theorem eqvAll_cc {x y : PyData} {xs ys : List PyData} : PyData.eqvAll (x :: xs) (y :: ys) = (PyData.eqv x y && PyData.eqvAll xs ys) := by simp only [PyData.eqvAll]
theorem eqvAll_self {xs : List D} : PyData.eqvAll (pyL xs) (pyL xs) = true := by
  have h := eqv_self (.lst xs)
  rw [py_lst, eqv_ll] at h
  exact h
theorem eqvAll_ints : ∀ {xs ys : List Int}, PyData.eqvAll (pyL (xs.map D.int)) (pyL (ys.map D.int)) = decide (xs = ys)
  | [], [] => by simp only [List.map_nil, pyL_nil, eqvAll_nn, decide_true]
  | [], y :: ys => by simp [pyL_nil, pyL_cons, eqvAll_nc]
  | x :: xs, [] => by simp [pyL_nil, pyL_cons, eqvAll_cn]
  | x :: xs, y :: ys => by
    rw [List.map_cons, List.map_cons, pyL_cons, pyL_cons, eqvAll_cc, eqvAll_ints, py_int, py_int, eqv_ii]
    simp
theorem asO_obj {C C' : Addr} {ks : List Str} {xs : List D} {R : List Str → List D → Prop} : asO C R (.obj C' ks xs) = (C' = C ∧ R ks xs) := rfl
def dgN1 : Array Lean.Name := #[`zRaise, `xFld, `xMeth, `xMethK, `opOwn, `xProp, `xMake, `xOB, `xOBi, `xInv, `asO_obj, `xNF, `xFN, `xFl, `zRetNew, `zRetO, `xStar, `xSl3, `zNever, `zParC, `zParV, `flat_non, `flat_bl, `flat_int, `flat_str, `flatL_nil, `flatL_cons, `flatL_app, `cut3_rev, `cut3_rev0, `pls_rev, `pls_rev0, `List.length_reverse, `asLT_lst, `asLT_tup, `true_or, `or_true, `startE, `inner, `zSeq, `zIf, `zNext, `zRet, `zAsg, `zSetO, `zPar, `zFrz, `zApp, `zStO, `zAug, `zExpr, `zFor, `zWhile, `zBreak, `zCont, `xTest, `xAnd, `xOr, `xNot, `xAndV, `xOrV, `xNotV, `xIf, `xTru, `xOp, `xUn, `xC, `xNil, `xCons, `xLst, `xTup, `xIxO, `xLenO, `xNoPart, `xPart, `xSl, `xChain, `xF, `xNew, `xCatF, `xRepF, `xListF, `xSlF, `xCB, `xCall, `xCallK, `xItL, `xItT, `xRg1, `xRg2, `xZip, `fZip_lst, `fZip_tup, `xEnum, `xItS, `xLcF_is, `xYes, `yName, `yNil, `yCons, `yTup, `put_0, `put_s, `putO_0, `putO_s, `xVar_0, `xVar_s, `opAdd_int, `opAdd_str, `opAdd_lst, `opAdd_tup, `opSub_int, `opMul_int, `opMul_lst, `opMul_str, `opFdiv_int, `opMod_int, `opPow_int, `opNeg_int, `opLt_int, `opLe_int, `opGt_int, `opGe_int, `opIx_lst, `opIx_tup, `opIx_str, `opSl_lst, `opSl_tup, `opSl_str, `opEq, `opNe, `opIs, `opIsNot, `isN_non, `isN_bl, `isN_int, `isN_str, `isN_lst, `isN_tup, `isN_obj, `dat_non, `dat_bl, `dat_int, `dat_str, `dat_lst, `dat_tup, `datL_nil, `datL_cons, `dep_non, `dep_bl, `dep_int, `dep_str, `dep_lst, `dep_tup, `depL_nil, `depL_cons, `tru_non, `tru_bl, `tru_int, `tru_str, `tru_lst, `tru_tup, `asB_bl, `asI_int, `asL_lst, `asLT_lst, `asLT_tup, `fLen_lst, `fLen_tup, `fLen_str, `fInt_int, `fInt_bl, `fAbs_int, `fMin2_int, `fMax2_int, `fSum_lst, `fAny_lst, `fAll_lst, `fTuple_lst, `fTuple_tup, `py_non, `py_bl, `py_int, `py_str, `py_lst, `py_tup, `pyL_nil, `pyL_cons, `eqv_self, `eqvAll_self, `eqvAll_ints, `eqv_nn, `eqv_bb, `eqv_ii, `eqv_ss, `eqv_ll, `eqv_tt, `eqv_lt, `eqv_tl, `eqv_nb, `eqv_bn, `eqv_ni, `eqv_in, `eqv_ns, `eqv_sn, `eqv_nl, `eqv_ln, `eqvAll_nn, `eqvAll_nc, `eqvAll_cn, `eqvAll_cc, `Bool.and_true, `Bool.true_and, `Bool.and_false, `Bool.false_and, `Bool.or_true, `Bool.true_or, `Bool.or_false, `Bool.false_or, `Bool.not_true, `Bool.not_false, `bne_self_eq_false, `beq_self_eq_true, `Bool.beq_eq_decide_eq, `List.map_cons, `List.map_nil, `List.length_cons, `List.length_nil, `List.length_append, `List.length_map, `Nat.reduceAdd, `Nat.reduceSub, `repN_0, `repN_s, `List.cons_append, `List.nil_append, `List.append_nil, `List.set_cons_zero, `List.set_cons_succ, `List.all_cons, `List.all_nil, `Option.some.injEq, `DV.own.injEq, `DV.val.injEq, `D.int.injEq, `D.bl.injEq, `D.lst.injEq, `D.tup.injEq, `D.str.injEq, `List.cons.injEq, `exists_eq_left', `exists_eq_left, `exists_eq_right, `exists_eq_right', `decide_eq_true_eq, `decide_eq_false_iff_not, `reduceCtorEq, `true_implies, `false_implies, `implies_true, `forall_const, `eq_self, `and_true, `true_and, `and_self, `if_true, `if_false, `decide_true, `decide_false, `Bool.false_eq_true, `ite_true, `ite_false, `goodl_lst, `goodl_tup, `good_non, `good_bl, `good_int, `good_str, `goodL_nil, `goodL_cons, `sizeLine_eq, `Nat.reduceLeDiff, `Nat.reduceLT, `isi_non_int, `isi_non_bool, `isi_non_str, `isi_non_list, `isi_non_tuple, `isi_non_lt, `isi_bl_int, `isi_bl_bool, `isi_bl_str, `isi_bl_list, `isi_bl_tuple, `isi_bl_lt, `isi_int_int, `isi_int_bool, `isi_int_str, `isi_int_list, `isi_int_tuple, `isi_int_lt, `isi_str_int, `isi_str_bool, `isi_str_str, `isi_str_list, `isi_str_tuple, `isi_str_lt, `isi_lst_int, `isi_lst_bool, `isi_lst_str, `isi_lst_list, `isi_lst_tuple, `isi_lst_lt, `isi_tup_int, `isi_tup_bool, `isi_tup_str, `isi_tup_list, `isi_tup_tuple, `isi_tup_lt, `Nat.max_self, `Bool.not_eq_true', `Bool.not_eq_false', `Bool.or_eq_true, `Bool.and_eq_true]
local macro_rules | `(tactic| walk_at "dl") => do let xs ← dgN1.mapM fun n => `(Lean.Parser.Tactic.simpLemma| $(Lean.mkIdent n):term); `(tactic| simp only [$xs,*, List.getElem?_cons_zero, List.getElem?_cons_succ])
def spBag (K : PySem.W.Frag) : Sp := fun vs H Q _ => ∃ (a : Addr) (ns : List Int), vs = [.ref a] ∧ SqL K H a (ns.map V.int) ∧ ns.length ≤ 63 ∧
  ∀ (b ca : Addr) (H' : Hp) (st : Int), b ≠ ca → Same H H' → H' b = some (.lst [.ref ca, .int 0, .int 0, .int st, .int 0]) → H' ca = some (.lst (ns.map V.int)) → 0 ≤ st → st < 2147483549 → Q (.ref b) H'
def n__law_bag : List Str := ["_law_script", "_law_state", "_law_cell"]
theorem sc__law_bag : FnScope n__law_bag ["_law_script"] (defScope s__law_bag) := ⟨rfl, rfl, rfl, by decide +kernel, rfl, by decide +kernel, by decide +kernel⟩
theorem cut63 {ns : List Int} (h : ns.length ≤ 63) : cutV (ns.map V.int) none (some 63) = ns.map V.int := by
  unfold cutV
  rw [HT.sIx_none]
  have e : HT.sIx (ns.map V.int).length (ns.map V.int).length (some 63) = ns.length := by
    have := HT.sIx_nat (ns.map V.int).length (ns.map V.int).length 63
    rw [List.length_map] at this ⊢
    exact this.trans (by omega)
  rw [e, List.drop_zero, Nat.sub_zero]
  have := List.take_length (l := ns.map V.int)
  rw [List.length_map] at this
  exact this
theorem ok__law_bag (D__law_bag : Df K mg "_law_bag" s__law_bag) (m_int : mg "int" = none) : FnOk P w K mg base (L2.CX P w) 1 D__law_bag.f D__law_bag.fd ["_law_script"] (spBag K) := by
  refine FunD.ok D__law_bag.F sc__law_bag (fun vs H Q E h => ?_) (fun cdv A outer s H vs Q E hr h => ?_)
  · obtain ⟨a, ns, rfl, _⟩ := h
    rfl
  · obtain ⟨a, ns, rfl, hS, hlen, k⟩ := h
    refine ⟨_, PSs.nox (pss_cons (ps_set (i := 1) sc__law_bag.nd rfl (.inl rfl) pe_int)
      (pss_cons (ps_for PassesOwn.never rfl (pi_list (pe_slice sl_list (pv 0) po_none (po_some pe_int))) (pg_name (i := 2) sc__law_bag.nd rfl (.inl rfl))
        (pss_one (ps_set (i := 1) sc__law_bag.nd rfl (.inl rfl) (pe_op op_mod (pe_callTy call_int1 (by rfl) m_int PyProof.Rows.boot_int (pa_cons (pe_op op_add (pe_op op_add (pe_op op_mul (pv 1) pe_int) (pe_op op_mod (pe_callTy call_int1 (by rfl) m_int PyProof.Rows.boot_int (pa_cons (pv 2) pa_nil)) pe_int)) pe_int) pa_nil)) pe_int))))
      (pss_one (ps_ret (pe_lst (pa_cons (pe_lc (own := [("_law_cell", 2)]) rfl sc__law_bag.nd (pi_list (pe_slice sl_list (pv 0) po_none (po_some pe_int))) (blkOk_by (own := [("_law_cell", 2)]) (N := n__law_bag) (sc := defScope s__law_bag) (by decide +kernel)) (fun _ _ _ _ _ => pg_name (i := 2) sc__law_bag.nd rfl (.inl rfl)) (fun _ _ _ _ _ => pts_nil)
        (fun _ _ _ _ _ => pe_callTy call_int1 (by rfl) m_int PyProof.Rows.boot_int (pa_cons (pv 2) pa_nil))) (pa_cons pe_int (pa_cons pe_int (pa_cons (pv 1) (pa_cons pe_int pa_nil)))))))))), ?_⟩
    refine ⟨_, rfl, 63, rfl, a, _, rfl, hS, fun p hp => ?_⟩
    rw [cut63 hlen]
    refine ⟨p, rfl, ⟨_, SqL.of upd_same⟩, for_list (K := K) (a := p) (xs := ns.map V.int) (fun i σ H2 => H2 = upd H p (.lst (ns.map V.int)) ∧ ∃ (st : Int) (v : Option V), σ = [some (.ref a), some (.int st), v] ∧ 0 ≤ st ∧ st < 2147483549)
      ⟨rfl, 10001, none, rfl, by decide, by decide⟩ (fun i σ H2 _ ⟨e, _⟩ => by rw [e]; exact SqL.of upd_same) ?_ ?_⟩
    · rintro i x σ H2 hx ⟨rfl, st, v, rfl, h0, h1⟩
      rw [List.getElem?_map] at hx
      obtain ⟨z, hz, rfl⟩ := Option.map_eq_some_iff.mp hx
      refine ⟨_, rfl, st, 50123, rfl, rfl, .inr ⟨by decide, by decide⟩, _, rfl, .inl ⟨z, rfl, ?_⟩⟩
      refine ⟨_, _, rfl, rfl, by show (0 : Int) < 2147483587; decide, _, _, rfl, rfl, _, _, rfl, rfl, .inl ⟨_, rfl, ?_⟩⟩
      refine ⟨_, _, rfl, rfl, by show (0 : Int) < 2147483549; decide, rfl, _, _, rfl, ?_, ?_⟩
      · exact Int.emod_nonneg _ (by decide)
      · exact Int.emod_lt_of_pos _ (by decide)
    · rintro σ H2 ⟨rfl, st, v, rfl, h0, h1⟩
      have s1 : Same H (upd H p (.lst (ns.map V.int))) := fun b o e => by rw [upd_ne (ne_of_none e hp)]; exact e
      refine ⟨_, rfl, 63, rfl, a, _, rfl, s1.seq hS, fun p2 hp2 => ?_⟩
      rw [cut63 hlen]
      refine ⟨p2, rfl, ⟨_, SqL.of upd_same⟩, fun ca hca => ?_⟩
      have n2 : ca ≠ p2 := fun z => by
        subst z
        rw [upd_same] at hca
        cases hca
      refine lc_list (K := K) (a := p2) (xs := ns.map V.int) (fun i H3 => Same (upd (upd H p (.lst (ns.map V.int))) p2 (.lst (ns.map V.int))) H3 ∧ H3 ca = some (.lst ((ns.take i).map V.int))) ⟨fun b o e => by
        rw [upd_ne (ne_of_none e hca)]
        exact e, by rw [upd_same]; simp⟩ (fun i H3 _ ⟨sm, _⟩ => SqL.of (sm _ _ upd_same)) ?_ ?_
      · rintro i x H3 hx ⟨sm, e3⟩
        rw [List.getElem?_map] at hx
        obtain ⟨z, hz, rfl⟩ := Option.map_eq_some_iff.mp hx
        have hi := (List.getElem?_eq_some_iff.mp hz).1
        refine ⟨rfl, ?_⟩
        simp only [tYes, if_true]
        refine ⟨_, rfl, .inl ⟨z, rfl, _, e3, ?_, ?_, ?_⟩⟩
        · rw [List.length_map, List.length_take]
          exact Nat.lt_of_le_of_lt (Nat.min_le_right _ _) (Nat.lt_of_le_of_lt hlen (by decide))
        · intro b o e
          have nb : b ≠ ca := ne_of_none e hca
          rw [upd_ne nb]
          exact sm b o e
        · rw [upd_same, List.take_succ, hz]
          simp
      · rintro H3 ⟨sm, e3⟩
        rw [List.length_map, List.take_length] at e3
        refine ⟨_, rfl, by show 5 ≤ sizeLine; decide, fun b hb => ?_⟩
        have nb : b ≠ ca := fun z => by
          subst z
          rw [e3] at hb
          cases hb
        refine k b ca _ st nb (fun c o e => ?_) upd_same (by rw [upd_ne nb.symm]; exact e3) h0 h1
        have h2 := s1 c o e
        have h3 : upd (upd H p (.lst (ns.map V.int))) p2 (.lst (ns.map V.int)) c = some o := by rw [upd_ne (ne_of_none h2 hp2)]; exact h2
        have h4 := sm c o h3
        rw [upd_ne (ne_of_none h4 hb)]
        exact h4
def F__law_pull : Spec
  | [.bag, .int n], R, _ => 0 < n ∧ n.natAbs.log2 < 9000 ∧ ∀ r : Int, 0 ≤ r → r < n → R (.int r)
  | _, _, _ => False
theorem F__law_pull_is {n : Int} {R : D → Prop} {Rx : Er → Prop} : F__law_pull [.bag, .int n] R Rx = (0 < n ∧ n.natAbs.log2 < 9000 ∧ ∀ r : Int, 0 ≤ r → r < n → R (.int r)) := rfl
theorem F__law_pull_of {ds : List D} {R : D → Prop} {Rx : Er → Prop} (h : F__law_pull ds R Rx) : ∃ n : Int, ds = [.bag, .int n] ∧ 0 < n ∧ n.natAbs.log2 < 9000 ∧ ∀ r : Int, 0 ≤ r → r < n → R (.int r) := by
  unfold F__law_pull at h
  split at h
  · exact ⟨_, rfl, h⟩
  · exact h.elim
def n__law_pull : List Str := ["_law_bag_here", "_law_many", "_law_cell", "_law_digit", "_law_state"]
theorem sc__law_pull : FnScope n__law_pull ["_law_bag_here", "_law_many"] (defScope s__law_pull) := ⟨rfl, rfl, rfl, by decide +kernel, rfl, by decide +kernel, by decide +kernel⟩
def bagL (ca : Addr) (i g st n : Int) : HO := .lst [.ref ca, .int i, .int g, .int st, .int n]
theorem ok__law_pull (D__law_pull : Df K mg "_law_pull" s__law_pull) (m_int : mg "int" = none) (m_len : mg "len" = none) : FnOk P w K mg base (L2.CX P w) 1 D__law_pull.f D__law_pull.fd ["_law_bag_here", "_law_many"] (spD F__law_pull) := by
  refine FunD.ok D__law_pull.F sc__law_pull (fun vs H Q E ⟨c, S, ds, R, Rx, _, _, _, l, h, _⟩ => ?_) (fun cdv A outer s H vs Q E hr hsp => ?_)
  · obtain ⟨n, rfl, _⟩ := F__law_pull_of h
    exact l.length
  obtain ⟨c, S, ds, R, Rx, h0, hs0, kf, l, h, q, _⟩ := hsp
  obtain ⟨n, rfl, hn, hn9, hR⟩ := F__law_pull_of h
  obtain ⟨v1, v2, rfl, r1, r2⟩ := rep2 l
  obtain ⟨b, eB, rfl⟩ := r1
  cases (show v2 = .int n from r2)
  obtain ⟨⟨nb, cs, i0, g0, st0, cnt0, eb, eca, i0n, g0n, st0n, st0l⟩, hb0⟩ := kf.bag b eB
  have hca : H c.C = some (.lst (cs.map V.int)) := kf.sub _ _ eca
  have nca : c.C ≠ b := fun z => by subst z; rw [nb] at eca; cases eca
  -- the end: any result, any right bag
  have fin : ∀ (r : Int) (i g st cnt : Int), 0 ≤ r → r < n → 0 ≤ i → 0 ≤ g → 0 ≤ st → st < 2147483549 → Q (.int r) (upd H b (bagL c.C i g st cnt)) := fun r i g st cnt h1 h2 h3 h4 h5 h6 => by
    refine q _ _ S (.int r) ⟨fun a o e => ?_, kf.s0, fun a o e ne => ?_, kf.new, fun b' e => ?_, ⟨kf.tab.1.lst eb, kf.tab.2⟩⟩ rfl (hR r h1 h2)
    · rw [upd_ne (fun z => by subst z; rw [nb] at e; cases e)]
      exact kf.sub a o e
    · rw [upd_ne (fun z => ne (.inl (by rw [z]; exact eB)))]
      exact kf.old a o e ne
    · rw [eB] at e
      cases e
      exact ⟨⟨nb, cs, i, g, st, cnt, upd_same, eca, h3, h4, h5, h6⟩, hb0⟩
  have hl : ∀ (o : HO), (upd H b o) c.C = some (.lst (cs.map V.int)) := fun o => by rw [upd_ne nca]; exact hca
  -- behind the first if
  obtain ⟨t2, p2, h2⟩ : ∃ t2, PSs (cxOf (L2.CX P w) P w K mg base n__law_pull "_law_pull" (defScope s__law_pull) D__law_pull.f cdv A outer s H E).nox ((defBody s__law_pull).drop 2) t2 ∧
      ∀ (v : Option V) (i g st cnt : Int), 0 ≤ i → 0 ≤ g → 0 ≤ st → st < 2147483549 → t2 { nx := fun _ H' => Q .non H', rt := Q } [some (.ref b), some (.int n), v, none, none] (upd H b (bagL c.C i g st cnt)) := by
    refine ⟨_, pss_cons (ps_if (pt_cmpR op_gt (pe_ix ix_list (pv 0) pe_int (fun _ _ => rfl)) pe_int (nomark _))
        (pss_cons (ps_set (i := 3) sc__law_pull.nd rfl (.inl rfl) (pe_op op_mod (pe_callTy call_int1 (by rfl) m_int PyProof.Rows.boot_int (pa_cons (pe_ix ix_list (pv 0) pe_int (fun _ _ => rfl)) pa_nil)) (pv 1)))
        (pss_cons (ps_asg (pe_op op_fdivW (pe_callTy call_int1 (by rfl) m_int PyProof.Rows.boot_int (pa_cons (pe_ix ix_list (pv 0) pe_int (fun _ _ => rfl)) pa_nil)) (pv 1)) (pg_sub (pv 0) pe_int set_list))
        (pss_one (ps_ret (pv 3))))) pss_nil)
      (pss_cons (ps_set (i := 4) sc__law_pull.nd rfl (.inl rfl) (pe_ix ix_list (pv 0) pe_int (fun _ _ => rfl)))
      (pss_cons (ps_asg (pe_op op_mod (pe_callTy call_int1 (by rfl) m_int PyProof.Rows.boot_int (pa_cons (pe_op op_add (pe_op op_add (pe_op op_add (pe_op op_pow (pv 4) pe_int) (pe_op op_mul (pv 4) pe_int)) (pe_op op_mul (pe_ix ix_list (pv 0) pe_int (fun _ _ => rfl)) pe_int)) pe_int) pa_nil)) pe_int) (pg_sub (pv 0) pe_int set_list))
      (pss_one (ps_ret (pe_op op_mod (pe_callTy call_int1 (by rfl) m_int PyProof.Rows.boot_int (pa_cons (pe_op op_add (pe_op op_fdiv (pe_ix ix_list (pv 0) pe_int (fun _ _ => rfl)) pe_int) (pe_op op_mul (pe_op op_mod (pe_callTy call_int1 (by rfl) m_int PyProof.Rows.boot_int (pa_cons (pe_ix ix_list (pv 0) pe_int (fun _ _ => rfl)) pa_nil)) pe_int) pe_int)) pa_nil)) (pv 1)))))), fun v i g st cnt hi hg hst hst2 => ?_⟩
    refine ⟨_, rfl, b, _, 2, .int g, rfl, rfl, SqL.of upd_same, rfl, g, 0, rfl, rfl, _, rfl, ?_⟩
    by_cases hgp : 0 < g
    · rw [decide_eq_true hgp]
      refine iteT ?_
      refine ⟨_, rfl, b, _, 2, .int g, rfl, rfl, SqL.of upd_same, rfl, .inl ⟨g, rfl, ?_⟩⟩
      refine ⟨_, rfl, g, n, rfl, rfl, hn, ?_⟩
      refine ⟨_, rfl, b, _, 2, .int g, rfl, rfl, SqL.of upd_same, rfl, .inl ⟨g, rfl, ?_⟩⟩
      refine ⟨_, rfl, g, n, rfl, rfl, ⟨hn, hn9⟩, ?_⟩
      refine ⟨_, rfl, b, _, 2, 2, rfl, rfl, upd_same, rfl, ?_⟩
      refine ⟨_, rfl, ?_⟩
      rw [upd_upd]
      exact fin (g % n) i (g / n) st cnt (Int.emod_nonneg _ (by omega)) (Int.emod_lt_of_pos _ hn) hi (Int.ediv_nonneg hg (by omega)) hst hst2
    · rw [decide_eq_false hgp]
      refine iteF ?_
      refine ⟨_, rfl, b, _, 3, .int st, rfl, rfl, SqL.of upd_same, rfl, ?_⟩
      refine ⟨_, rfl, st, 3, rfl, rfl, ⟨by decide, by decide, by omega⟩, ?_⟩
      refine ⟨_, rfl, st, 40427, rfl, rfl, .inr ⟨by decide, by decide⟩, ?_⟩
      refine ⟨_, _, rfl, rfl, ?_⟩
      refine ⟨_, rfl, b, _, 4, .int cnt, rfl, rfl, SqL.of upd_same, rfl, ?_⟩
      refine ⟨cnt, 1299709, rfl, rfl, .inr ⟨by decide, by decide⟩, ?_⟩
      refine ⟨_, _, rfl, rfl, ?_⟩
      refine ⟨_, _, rfl, rfl, .inl ⟨_, rfl, ?_⟩⟩
      refine ⟨_, _, rfl, rfl, by show (0 : Int) < 2147483549; decide, ?_⟩
      refine ⟨_, rfl, b, _, 3, 3, rfl, rfl, upd_same, rfl, ?_⟩
      rw [upd_upd]
      refine ⟨_, rfl, b, _, 3, _, rfl, rfl, SqL.of upd_same, rfl, ?_⟩
      refine ⟨_, 83, rfl, rfl, ⟨by decide, by decide⟩, ?_⟩
      refine ⟨_, rfl, b, _, 3, _, rfl, rfl, SqL.of upd_same, rfl, .inl ⟨_, rfl, ?_⟩⟩
      refine ⟨_, 7901, rfl, rfl, by show (0 : Int) < 7901; decide, ?_⟩
      refine ⟨_, 67, rfl, rfl, .inr ⟨by decide, by decide⟩, ?_⟩
      refine ⟨_, _, rfl, rfl, .inl ⟨_, rfl, ?_⟩⟩
      refine ⟨_, rfl, _, n, rfl, rfl, hn, ?_⟩
      exact fin _ i g _ cnt (Int.emod_nonneg _ (by omega)) (Int.emod_lt_of_pos _ hn) hi hg (Int.emod_nonneg _ (by decide)) (Int.emod_lt_of_pos _ (by decide))
  refine ⟨_, PSs.nox (pss_cons (ps_asg (pe_op op_add (pe_ix ix_list (pv 0) pe_int (fun _ _ => rfl)) pe_int) (pg_sub (pv 0) pe_int set_list))
    (pss_cons (ps_if (PW.pt (pw_and (pt_cmpR op_eq (pe_ix ix_list (pv 0) pe_int (fun _ _ => rfl)) pe_int (nomark _)) (pw_and1 (pt_cmpR op_lt (pe_ix ix_list (pv 0) pe_int (fun _ _ => rfl)) (pe_callB call_len (by rfl) m_len boot_len (pa_cons (pe_ix ix_list (pv 0) pe_int (fun _ _ => rfl)) pa_nil)) (nomark _)))))
      (pss_cons (ps_set (i := 2) sc__law_pull.nd rfl (.inl rfl) (pe_ix ix_list (pe_ix ix_list (pv 0) pe_int (fun _ _ => rfl)) (pe_ix ix_list (pv 0) pe_int (fun _ _ => rfl)) (fun _ _ => rfl)))
      (pss_cons (ps_asg (pe_op op_add (pe_ix ix_list (pv 0) pe_int (fun _ _ => rfl)) pe_int) (pg_sub (pv 0) pe_int set_list))
      (pss_cons (ps_if (pt_cmpR op_ge (pv 2) (pe_op op_pow pe_int pe_int) (nomark _)) (pss_one (ps_asg (pv 2) (pg_sub (pv 0) pe_int set_list))) pss_nil)
      (pss_one (ps_asg (pe_op op_mod (pe_callTy call_int1 (by rfl) m_int PyProof.Rows.boot_int (pa_cons (pe_op op_add (pe_op op_add (pe_op op_mul (pe_ix ix_list (pv 0) pe_int (fun _ _ => rfl)) pe_int) (pe_op op_mul (pe_op op_mod (pe_callTy call_int1 (by rfl) m_int PyProof.Rows.boot_int (pa_cons (pv 2) pa_nil)) pe_int) pe_int)) pe_int) pa_nil)) pe_int) (pg_sub (pv 0) pe_int set_list)))))) pss_nil) p2)), ?_⟩
  refine ⟨_, rfl, b, _, 4, .int cnt0, rfl, rfl, SqL.of eb, rfl, cnt0, 1, rfl, rfl, ?_⟩
  refine ⟨_, rfl, b, _, 4, 4, rfl, rfl, eb, rfl, ?_⟩
  refine ⟨_, rfl, b, _, 2, .int g0, rfl, rfl, SqL.of upd_same, rfl, rfl, _, rfl, ?_⟩
  by_cases hg0 : g0 = 0
  · subst hg0
    rw [show decide (V.int 0 = V.int 0) = true from decide_eq_true rfl]
    refine iteT ?_
    refine ⟨_, rfl, b, _, 1, .int i0, rfl, rfl, SqL.of upd_same, rfl, ?_⟩
    refine ⟨_, rfl, b, _, 0, .ref c.C, rfl, rfl, SqL.of upd_same, rfl, ?_⟩
    refine ⟨_, (cs.map V.int).length, rfl, .inl ⟨_, SqL.of (hl _), rfl⟩, ?_⟩
    refine ⟨_, _, rfl, rfl, _, rfl, ?_⟩
    by_cases hlt : i0 < ((cs.map V.int).length : Nat)
    · rw [decide_eq_true hlt]
      refine iteT ?_
      obtain ⟨z, eat⟩ : ∃ z, atI (cs.map V.int) i0 = some (.int z) := by
        obtain ⟨kk, ek⟩ : ∃ kk : Nat, i0 = (kk : Int) := ⟨i0.toNat, by omega⟩
        subst ek
        have hin : kk < cs.length := by rw [List.length_map] at hlt; omega
        exact ⟨cs[kk], atI_nat (by rw [List.getElem?_map]; simp [hin])⟩
      refine ⟨_, rfl, b, _, 0, .ref c.C, rfl, rfl, SqL.of upd_same, rfl, ?_⟩
      refine ⟨_, rfl, b, _, 1, .int i0, rfl, rfl, SqL.of upd_same, rfl, ?_⟩
      refine ⟨c.C, _, i0, .int z, rfl, rfl, SqL.of (hl _), eat, ?_⟩
      refine ⟨_, rfl, b, _, 1, .int i0, rfl, rfl, SqL.of upd_same, rfl, i0, 1, rfl, rfl, ?_⟩
      refine ⟨_, rfl, b, _, 1, 1, rfl, rfl, upd_same, rfl, ?_⟩
      rw [upd_upd]
      refine ⟨_, rfl, 10, 18, rfl, rfl, ⟨by decide, by decide, by decide⟩, ?_⟩
      refine ⟨z, _, rfl, rfl, _, rfl, ?_⟩
      by_cases hz : (10 : Int) ^ (18 : Int).toNat ≤ z
      · rw [decide_eq_true hz]
        refine iteT ?_
        refine ⟨_, rfl, _, rfl, b, _, 2, 2, rfl, rfl, upd_same, rfl, ?_⟩
        rw [upd_upd]
        have zp : 0 ≤ z := by
          have : (0 : Int) ≤ (10 : Int) ^ (18 : Int).toNat := by decide
          omega
        refine ⟨_, rfl, b, _, 3, .int st0, rfl, rfl, SqL.of upd_same, rfl, ?_⟩
        refine ⟨st0, 39989, rfl, rfl, .inr ⟨by decide, by decide⟩, ?_⟩
        refine ⟨_, rfl, .inl ⟨z, rfl, ?_⟩⟩
        refine ⟨z, 2147483489, rfl, rfl, by show (0 : Int) < 2147483489; decide, ?_⟩
        refine ⟨_, 40787, rfl, rfl, .inr ⟨by decide, by decide⟩, ?_⟩
        refine ⟨_, _, rfl, rfl, ?_⟩
        refine ⟨_, _, rfl, rfl, .inl ⟨_, rfl, ?_⟩⟩
        refine ⟨_, _, rfl, rfl, by show (0 : Int) < 2147483549; decide, ?_⟩
        refine ⟨_, rfl, b, _, 3, 3, rfl, rfl, upd_same, rfl, ?_⟩
        rw [upd_upd]
        exact h2 _ (i0 + 1) z _ (cnt0 + 1) (by omega) zp (Int.emod_nonneg _ (by decide)) (Int.emod_lt_of_pos _ (by decide))
      · rw [decide_eq_false hz]
        refine iteF ?_
        refine ⟨_, rfl, b, _, 3, .int st0, rfl, rfl, SqL.of upd_same, rfl, ?_⟩
        refine ⟨st0, 39989, rfl, rfl, .inr ⟨by decide, by decide⟩, ?_⟩
        refine ⟨_, rfl, .inl ⟨z, rfl, ?_⟩⟩
        refine ⟨z, 2147483489, rfl, rfl, by show (0 : Int) < 2147483489; decide, ?_⟩
        refine ⟨_, 40787, rfl, rfl, .inr ⟨by decide, by decide⟩, ?_⟩
        refine ⟨_, _, rfl, rfl, ?_⟩
        refine ⟨_, _, rfl, rfl, .inl ⟨_, rfl, ?_⟩⟩
        refine ⟨_, _, rfl, rfl, by show (0 : Int) < 2147483549; decide, ?_⟩
        refine ⟨_, rfl, b, _, 3, 3, rfl, rfl, upd_same, rfl, ?_⟩
        rw [upd_upd]
        exact h2 _ (i0 + 1) 0 _ (cnt0 + 1) (by omega) (by decide) (Int.emod_nonneg _ (by decide)) (Int.emod_lt_of_pos _ (by decide))
    · rw [decide_eq_false hlt]
      refine iteF ?_
      exact h2 none i0 0 st0 (cnt0 + 1) i0n (by decide) st0n st0l
  · rw [show decide (V.int g0 = V.int 0) = false from decide_eq_false (fun z => hg0 (V.int.inj z))]
    refine iteF (iteF ?_)
    exact h2 none i0 g0 st0 (cnt0 + 1) i0n g0n st0n st0l
theorem log_lt {n : Int} {k : Nat} (h : n.natAbs < 2 ^ k) (hk : k ≤ 9000) (k0 : 0 < k) : n.natAbs.log2 < 9000 := by
  by_cases z : n.natAbs = 0
  · rw [z]; decide
  · exact Nat.lt_of_lt_of_le ((Nat.log2_lt z).mpr h) hk
def b__law_pull (Dx : Df K mg "_law_pull" s__law_pull) : Binds K Dx.fd ["_law_bag_here", "_law_many"] [] := Dx.F.bindsN fun _ _ _ _ _ _ us hl => match us, hl with | [_, _], _ => rfl
def F__law_pick : Spec
  | [.bag, .lst rows], R, _ => 0 < rows.length ∧ rows.length ≤ 100000 ∧ ∀ d ∈ rows, R d
  | [.bag, .str s], R, _ => ∃ l : List Nat, s = tx l ∧ 0 < l.length ∧ l.length ≤ 100000 ∧ ∀ c ∈ l, R (.str (tx [c]))
  | _, _, _ => False
theorem w_law_picks {s : Str} {R : D → Prop} {Rx : Er → Prop} : F__law_pick [.bag, .str s] R Rx = (∃ l : List Nat, s = tx l ∧ 0 < l.length ∧ l.length ≤ 100000 ∧ ∀ c ∈ l, R (.str (tx [c]))) := rfl
theorem F__law_pick_is {rows : List D} {R : D → Prop} {Rx : Er → Prop} : F__law_pick [.bag, .lst rows] R Rx = (0 < rows.length ∧ rows.length ≤ 100000 ∧ ∀ d ∈ rows, R d) := rfl
theorem F__law_pick_of {ds : List D} {R : D → Prop} {Rx : Er → Prop} (h : F__law_pick ds R Rx) : (∃ rows, ds = [.bag, .lst rows] ∧ 0 < rows.length ∧ rows.length ≤ 100000 ∧ ∀ d ∈ rows, R d) ∨ ∃ s : Str, ds = [.bag, .str s] ∧ ∃ l : List Nat, s = tx l ∧ 0 < l.length ∧ l.length ≤ 100000 ∧ ∀ c ∈ l, R (.str (tx [c])) := by
  unfold F__law_pick at h
  split at h
  · exact .inl ⟨_, rfl, h⟩
  · exact .inr ⟨_, rfl, h⟩
  · exact h.elim
def n__law_pick : List Str := ["_law_bag_here", "_law_rows"]
theorem sc__law_pick : FnScope n__law_pick ["_law_bag_here", "_law_rows"] (defScope s__law_pick) := ⟨rfl, rfl, rfl, by decide +kernel, rfl, by decide +kernel, by decide +kernel⟩
theorem ok__law_pick (D__law_pick : Df K mg "_law_pick" s__law_pick) (D__law_pull : Df K mg "_law_pull" s__law_pull) (m_int : mg "int" = none) (m_len : mg "len" = none) : FnOk P w K mg base (L2.CX P w) 2 D__law_pick.f D__law_pick.fd ["_law_bag_here", "_law_rows"] (spD F__law_pick) := by
  have G__law_pull := ok__law_pull (P := P) (w := w) (base := base) D__law_pull m_int m_len
  refine fn_d D__law_pick.F sc__law_pick (fun ds R Rx h => ?_) (fun cdv A outer s H E hr =>
    (ds_one (s_ret (d_ix (d_var 1) (d_call G__law_pull (hr.mono (by decide)) D__law_pull.g D__law_pull.F.kp (b__law_pull D__law_pull) .nil dfR_nil pass_d (da_cons (d_var 0) (da_cons (d_callB b_len m_len boot_len (da_cons (d_var 1) da_nil)) da_nil))))))) fun ds R Rx h => ?_
  · obtain ⟨rows, rfl, _⟩ | ⟨s, rfl, _⟩ := F__law_pick_of h <;> rfl
  · obtain ⟨rows, rfl, h0, h1, h⟩ | ⟨s, rfl, l, rfl, h0, h1, h⟩ := F__law_pick_of h
    · walk_at "dl"
      simp only [n__law_pick, F__law_pull_is]
      walk_at "dl"
      refine ⟨by omega, log_lt (k := 20) (by omega) (by decide) (by decide), fun r hr0 hr1 => ?_⟩
      obtain ⟨j, rfl⟩ : ∃ j : Nat, r = (j : Int) := ⟨r.toNat, by omega⟩
      have hj : j < rows.length := by omega
      exact ⟨rows[j], atI_nat (by simp [hj]), h _ (List.getElem_mem hj)⟩
    · walk_at "dl"
      simp only [n__law_pick, F__law_pull_is]
      walk_at "dl"
      show l.length ≤ 16777216 ∧ 0 < (l.length : Int) ∧ (l.length : Int).natAbs.log2 < 9000 ∧ ∀ r : Int, 0 ≤ r → r < (l.length : Int) → l.length ≤ 16777216 ∧ ∃ c, atI l r = some c ∧ R (.str (tx [c]))
      refine ⟨by omega, by omega, log_lt (k := 20) (by omega) (by decide) (by decide), fun r hr0 hr1 => ⟨by omega, ?_⟩⟩
      obtain ⟨j, rfl⟩ : ∃ j : Nat, r = (j : Int) := ⟨r.toNat, by omega⟩
      have hj : j < l.length := by omega
      exact ⟨l[j], atI_nat (List.getElem?_eq_getElem hj), h _ (List.getElem_mem hj)⟩
def b__law_pick (Dx : Df K mg "_law_pick" s__law_pick) : Binds K Dx.fd ["_law_bag_here", "_law_rows"] [] := Dx.F.bindsN fun _ _ _ _ _ _ us hl => match us, hl with | [_, _], _ => rfl
theorem fn_false {x : Str} {st : Stmt} {F : Spec} {ps : List Str} (D0 : Df K mg x st) (h : ∀ ds R Rx, ¬ F ds R Rx) : FnOk P w K mg base (L2.CX P w) 0 D0.f D0.fd ps (spD F) :=
  ⟨fun vs H Q E ⟨_, _, ds, R, Rx, _, _, _, _, z, _⟩ => (h ds R Rx z).elim, fun A outer s H args us vs Q E _ _ _ _ ⟨_, _, ds, R, Rx, _, _, _, _, z, _⟩ => (h ds R Rx z).elim⟩
def F__law_same (n : Nat) : Spec
  | [x, y], R, _ => x = y ∧ Good n x ∧ R (.bl true)
  | _, _, _ => False
theorem F__law_same_is {n : Nat} {x y : D} {R : D → Prop} {Rx : Er → Prop} : F__law_same n [x, y] R Rx = (x = y ∧ Good n x ∧ R (.bl true)) := rfl
theorem F__law_same_of {n : Nat} {ds : List D} {R : D → Prop} {Rx : Er → Prop} (h : F__law_same n ds R Rx) : ∃ x, ds = [x, x] ∧ Good n x ∧ R (.bl true) := by
  unfold F__law_same at h
  split at h
  · obtain ⟨rfl, h⟩ := h
    exact ⟨_, rfl, h⟩
  · exact h.elim
theorem pairs_self {xs : List D} {i : Nat} {d : D} (h : (pairs xs xs)[i]? = some d) : ∃ x, x ∈ xs ∧ d = .tup [x, x] := by
  obtain ⟨a, b, e1, e2, e3⟩ := pairs_get _ _ _ _ h
  rw [e1] at e2
  cases e2
  exact ⟨a, List.mem_of_getElem? e1, e3⟩
theorem trues (xs : List D) : asBls (xs.map fun _ => D.bl true) = some (xs.map fun _ => true) := by
  have := asBls_map (xs.map fun _ => true)
  rw [List.map_map] at this
  exact this
theorem trues_all (xs : List D) : (xs.map fun _ => true).all _root_.id = true := by
  induction xs with
  | nil => rfl
  | cons x xs ih => exact ih
def b__law_same (Dx : Df K mg "_law_same" s__law_same) : Binds K Dx.fd ["_law_found", "_law_due"] [] := Dx.F.bindsN fun _ _ _ _ _ _ us hl => match us, hl with | [_, _], _ => rfl
def n__law_same : List Str := ["_law_found", "_law_due", "_law_one", "_law_two"]
theorem sc__law_same : FnScope n__law_same ["_law_found", "_law_due"] (defScope s__law_same) := ⟨rfl, rfl, rfl, by decide +kernel, rfl, by decide +kernel, by decide +kernel⟩
structure TSame (mg : Str → Option Value) : Prop where
  m_isinstance : mg "isinstance" = none
  m_list : mg "list" = none
  m_tuple : mg "tuple" = none
  m_bool : mg "bool" = none
  m_int : mg "int" = none
  m_str : mg "str" = none
  m_len : mg "len" = none
  m_all : mg "all" = none
  m_zip : mg "zip" = none
theorem ok__law_same (T : TSame mg) (D__law_same : Df K mg "_law_same" s__law_same) : ∀ n : Nat, FnOk P w K mg base (L2.CX P w) n D__law_same.f D__law_same.fd ["_law_found", "_law_due"] (spD (F__law_same n))
  | 0 => fn_false D__law_same fun ds R Rx h => by
    obtain ⟨x, _, z, _⟩ := F__law_same_of h
    cases x <;> exact (show False from z).elim
  | n + 1 => by
    have G__law_same := ok__law_same T D__law_same n
    refine fn_d D__law_same.F sc__law_same (fun ds R Rx h => ?_) (fun cdv A outer s H E hr =>
      have hu := hr.units
      (ds_cons (s_if (dt_tru (d_callB b_isi T.m_isinstance PyProof.Rows.boot_isinstance (da_cons (d_var 1) (da_cons (d_tup (da_cons (d_bty T.m_list PyProof.Rows.boot_list) (da_cons (d_bty T.m_tuple PyProof.Rows.boot_tuple) da_nil))) da_nil)))) (ds_cons (s_if (dt_cmp (c_ne hu) (d_callB b_isi T.m_isinstance PyProof.Rows.boot_isinstance (da_cons (d_var 0) (da_cons (d_bty T.m_list PyProof.Rows.boot_list) da_nil))) (d_callB b_isi T.m_isinstance PyProof.Rows.boot_isinstance (da_cons (d_var 1) (da_cons (d_bty T.m_list PyProof.Rows.boot_list) da_nil))) (nomark _)) (ds_one (s_ret d_bl)) ds_nil)
          (ds_cons (s_if (dt_cmp (c_ne hu) (d_callB b_isi T.m_isinstance PyProof.Rows.boot_isinstance (da_cons (d_var 0) (da_cons (d_bty T.m_tuple PyProof.Rows.boot_tuple) da_nil))) (d_callB b_isi T.m_isinstance PyProof.Rows.boot_isinstance (da_cons (d_var 1) (da_cons (d_bty T.m_tuple PyProof.Rows.boot_tuple) da_nil))) (nomark _)) (ds_one (s_ret d_bl)) ds_nil)
          (ds_one (s_ret (d_and (d_cmp (c_eq hu) (d_callB b_len T.m_len boot_len (da_cons (d_var 0) da_nil)) (d_callB b_len T.m_len boot_len (da_cons (d_var 1) da_nil)) (nomark _)) (d_one (d_callB (b_all rfl) T.m_all PyProof.Rows.boot_all (da_cons (d_ofF (f_lc rfl sc__law_same.nd (i_zip (da_cons (d_var 0) (da_cons (d_var 1) da_nil)) T.m_zip) (blkOk_by (own := [("_law_one", 2), ("_law_two", 3)]) (N := n__law_same) (sc := defScope s__law_same) (by decide +kernel)) (by decide) (fun _ _ _ _ _ => (g_tup (n := 2) rfl (gs_cons (g_name (i := 2) sc__law_same.nd) (gs_cons (g_name (i := 3) sc__law_same.nd) gs_nil)))) (fun _ _ _ _ _ => dts_nil) (fun _ _ _ _ _ => (d_call G__law_same hr D__law_same.g D__law_same.F.kp (b__law_same D__law_same) .nil dfR_nil passL (da_cons (d_var 2) (da_cons (d_var 3) da_nil)))))) da_nil)))))))) ds_nil)
      (ds_cons (s_if (dw_pt (dw_or (dt_cmp c_is (d_var 1) d_non (nomark _)) (dw_or1 (dt_cmp c_is (d_var 0) d_non (nomark _))))) (ds_one (s_ret (d_and (d_cmp c_is (d_var 1) d_non (nomark _)) (d_one (d_cmp c_is (d_var 0) d_non (nomark _)))))) ds_nil)
      (ds_cons (s_if (dt_cmp (c_ne hu) (d_callB b_isi T.m_isinstance PyProof.Rows.boot_isinstance (da_cons (d_var 1) (da_cons (d_bty T.m_bool PyProof.Rows.boot_bool) da_nil))) (d_callB b_isi T.m_isinstance PyProof.Rows.boot_isinstance (da_cons (d_var 0) (da_cons (d_bty T.m_bool PyProof.Rows.boot_bool) da_nil))) (nomark _)) (ds_one (s_ret d_bl)) ds_nil)
      (ds_cons (s_if (dt_cmp (c_ne hu) (d_callB b_isi T.m_isinstance PyProof.Rows.boot_isinstance (da_cons (d_var 1) (da_cons (d_bty T.m_int PyProof.Rows.boot_int) da_nil))) (d_callB b_isi T.m_isinstance PyProof.Rows.boot_isinstance (da_cons (d_var 0) (da_cons (d_bty T.m_int PyProof.Rows.boot_int) da_nil))) (nomark _)) (ds_one (s_ret d_bl)) ds_nil)
      (ds_one (s_ret (d_and (d_cmp (c_eq hu) (d_callB b_isi T.m_isinstance PyProof.Rows.boot_isinstance (da_cons (d_var 1) (da_cons (d_bty T.m_str PyProof.Rows.boot_str) da_nil))) (d_callB b_isi T.m_isinstance PyProof.Rows.boot_isinstance (da_cons (d_var 0) (da_cons (d_bty T.m_str PyProof.Rows.boot_str) da_nil))) (nomark _)) (d_one (d_cmp (c_eq hu) (d_var 0) (d_var 1) (nomark _))))))))))) fun ds R Rx h => ?_
    · obtain ⟨x, rfl, _⟩ := F__law_same_of h
      rfl
    · obtain ⟨x, rfl, hg, hR⟩ := F__law_same_of h
      clear h
      obtain ⟨hd, hn⟩ := good_dat hg
      cases x <;> try exact (Bool.false_ne_true hd).elim
      all_goals
        simp only [n__law_same]
        walk_at "dl"
        try exact hR
      all_goals
        refine LcP.map (fun _ => .bl true) ?_ (fun i d N e hN => ?_) ?_
        · have := hg.1
          rw [pairs_length, sizeLine_eq]
          omega
        · obtain ⟨x, hx, rfl⟩ := pairs_self e
          walk_at "dl"
          exact ⟨rfl, hg.2 x hx, hN⟩
        · exact ⟨_, trues _, by rw [trues_all]; exact hR⟩
def isNum : D → Int → Int → Bool
  | .int i, lo, hi => decide (lo ≤ i) && decide (i ≤ hi)
  | _, _, _ => false
def F_is_number : Spec
  | [x, .int lo, .int hi], R, _ => x.dat = true ∧ R (.bl (isNum x lo hi))
  | _, _, _ => False
theorem F_is_number_is {x : D} {lo hi : Int} {R : D → Prop} {Rx : Er → Prop} : F_is_number [x, .int lo, .int hi] R Rx = (x.dat = true ∧ R (.bl (isNum x lo hi))) := rfl
theorem F_is_number_of {ds : List D} {R : D → Prop} {Rx : Er → Prop} (h : F_is_number ds R Rx) : ∃ x lo hi, ds = [x, .int lo, .int hi] ∧ x.dat = true ∧ R (.bl (isNum x lo hi)) := by
  unfold F_is_number at h
  split at h
  · exact ⟨_, _, _, rfl, h⟩
  · exact h.elim
def b_is_number (Dx : Df K mg "is_number" s_is_number) : Binds K Dx.fd ["value", "least", "most"] [] := Dx.F.bindsN fun _ _ _ _ _ _ us hl => match us, hl with | [_, _, _], _ => rfl
def n_is_number : List Str := ["value", "least", "most"]
theorem sc_is_number : FnScope n_is_number ["value", "least", "most"] (defScope s_is_number) := ⟨rfl, rfl, rfl, by decide +kernel, rfl, by decide +kernel, by decide +kernel⟩
theorem ok_is_number (D_is_number : Df K mg "is_number" s_is_number) (m_isinstance : mg "isinstance" = none) (m_int : mg "int" = none) (m_bool : mg "bool" = none) : FnOk P w K mg base (L2.CX P w) 1 D_is_number.f D_is_number.fd ["value", "least", "most"] (spD F_is_number) := by
  refine fn_d D_is_number.F sc_is_number (fun ds R Rx h => ?_) (fun cdv A outer s H E hr =>
    (ds_one (s_ret (d_and (d_callB b_isi m_isinstance PyProof.Rows.boot_isinstance (da_cons (d_var 0) (da_cons (d_bty m_int PyProof.Rows.boot_int) da_nil))) (d_and (d_not (d_callB b_isi m_isinstance PyProof.Rows.boot_isinstance (da_cons (d_var 0) (da_cons (d_bty m_bool PyProof.Rows.boot_bool) da_nil)))) (d_one (d_chain c_le c_le (d_var 1) (d_var 0) (d_var 2)))))))) fun ds R Rx h => ?_
  · obtain ⟨x, lo, hi, rfl, _⟩ := F_is_number_of h
    rfl
  · obtain ⟨x, lo, hi, rfl, hd, hR⟩ := F_is_number_of h
    clear h
    simp only [n_is_number]
    cases x <;> try exact (Bool.false_ne_true hd).elim
    all_goals
      simp only [isNum] at hR
      walk_at "dl"
      try exact hR
    rename_i i
    refine ⟨fun z => ?_, fun z => ?_⟩
    · rw [decide_eq_true z, Bool.true_and] at hR
      exact hR
    · rw [decide_eq_false z, Bool.false_and] at hR
      exact hR
def spLaw (K : PySem.W.Frag) : Sp := fun vs H Q _ => ∃ (a : Addr) (ns : List Int), vs = [.ref a] ∧ SqL K H a (ns.map V.int) ∧ ns.length ≤ 63 ∧ (∀ p ∈ TbC.ts, H p.1 = some (.tbl #[])) ∧ ∀ H', Q (.bl true) H'
def b__law_bag (Dx : Df K mg "_law_bag" s__law_bag) : Binds K Dx.fd ["_law_script"] [] := Dx.F.bindsN fun _ _ _ _ _ _ us hl => match us, hl with | [_], _ => rfl
def lawEn (a : Addr) (n : Nat) : En := some (.val (.adr a)) :: some (.val .bag) :: List.replicate n none
theorem law_d {T : DTS} {N : List Str} {n k : Nat} {rest : List Stmt} {p1 p2 p3 p4 : Pos} {ps : Pos} (D_law : Df K mg "law" s_law) (S : FnScope N ["_law_script"] (defScope s_law)) (hN : N[1]? = some ("_law_bag_here" : Str)) (hN0 : N[0]? = some ("_law_script" : Str)) (hn : N.length = n + 2) (D__law_bag : Df K mg "_law_bag" s__law_bag) (m_int : mg "int" = none)
    (hb : defBody s_law = .Assign [.Name "_law_bag_here" p1] (.Call (.Name "_law_bag" p2) [.Name "_law_script" p3] [] p4) ps :: rest)
    (hx : Loc (defScope s_law) "_law_bag_here") (hg : (defScope s_law).names.lookup ("_law_bag" : Str) = some .globalImplicit) (hv : Vis (defScope s_law) "_law_script")
    (hbody : ∀ (cdv : Value) (A : Around) (outer : List Env) (s : Shared) (H : Hp) (E : XK), Room (k + 1) (A.deeper (PyProof.Rows.envOfC "law" (defScope s_law) s.heap.objs.size D_law.f cdv)) → DSs (cxOf (L2.CX P w) P w K mg base N "law" (defScope s_law) D_law.f cdv A outer s H E) E rest T)
    (hT : ∀ a, T { nx := fun _ => False, rt := fun _ d => d = .bl true, ex := noX } (lawEn a n)) : FnOk P w K mg base (L2.CX P w) (k + 2) D_law.f D_law.fd ["_law_script"] (spLaw K) := by
  have G := ok__law_bag (P := P) (w := w) (base := base) D__law_bag m_int
  refine FunD.ok D_law.F S (fun vs H Q E ⟨a, ns, z, _⟩ => by rw [z]; rfl) fun cdv A outer s H vs Q E hr h => ?_
  obtain ⟨a, ns, rfl, hS, hlen, hTb, q⟩ := h
  obtain ⟨t, p, sm⟩ := hbody cdv A outer s H E hr
  have hf : (cxOf (L2.CX P w) P w K mg base N "law" (defScope s_law) D_law.f cdv A outer s H E).fn ("_law_bag_here" : Str) = true := rfl
  rw [hb]
  refine ⟨_, pss_cons (ps_set (i := 1) S.nd hN hx (pe_call G (hr.mono (by omega)) hg D__law_bag.g D__law_bag.F.kp (b__law_bag D__law_bag) .nil passL (pa_cons (pe_var (i := 0) hN0 hv) pa_nil)) rfl (.inl hf)) p, ?_⟩
  have e0 : (L2.start N [.ref a])[0]? = some (some (V.ref a)) := rfl
  refine ⟨_, e0, a, ns, rfl, hS, hlen, fun b ca H' st nb same eb eca h0 h1 => ?_⟩
  -- from here on only the cells are known to stay
  refine sm ⟨some b, ca, H', fun x => if x = ca then some (.lst (ns.map V.int)) else none⟩ _ H' (fun x => if x = ca then some (.lst (ns.map V.int)) else none) (lawEn a n) { nx := fun _ => False, rt := fun _ d => d = .bl true, ex := noX } xok0 ?_ (hT a) _
    ⟨fun _ _ _ _ _ _ z => z.elim, fun n v H1 S1 d k1 s1 r1 z => ?_, fun _ _ _ _ _ _ z => z.elim, fun _ _ _ _ _ _ z => z.elim⟩
  · refine ⟨⟨fun x o e => ?_, Same.refl _, fun _ _ e _ => e, fun x e _ => e, fun b' e => ?_, ⟨fun p hp => ⟨LamX.TabS.nil (same _ _ (hTb p hp)), if_neg fun z => by
      have e := same _ _ (hTb p hp)
      rw [z, eca] at e
      cases e⟩, fun p hp => by
      show H' p.1 ≠ none
      rw [same _ _ (hTb p hp)]
      exact fun z => nomatch z⟩⟩, ?_, fun i x e => ?_, fun i j x1 x2 v1 v2 a2 _ e _ _ _ f _ => ?_⟩
    · by_cases z : x = ca
      · subst z
        have e2 : some (HO.lst (ns.map V.int)) = some o := by rw [← e]; exact (if_pos rfl).symm
        rw [eca]
        exact e2
      · have e2 : (none : Option HO) = some o := by rw [← e]; exact (if_neg z).symm
        cases e2
    · cases e
      refine ⟨⟨if_neg nb, ns, 0, 0, st, 0, eb, if_pos rfl, by decide, by decide, h0, h1⟩, ?_⟩
      show H' b ≠ none
      rw [eb]
      exact fun z => nomatch z
    · unfold lawEn L2.start
      simp [hn]
    · match i, e with
      | 0, e =>
        cases e
        refine ⟨.ref a, ?_, rfl⟩
        rw [List.getElem?_set_ne (by decide)]
        exact e0
      | 1, e =>
        cases e
        refine ⟨.ref b, ?_, b, rfl, rfl⟩
        rw [List.getElem?_set_self (by unfold L2.start; simp [hn])]
      | i + 2, e =>
        have e : (List.replicate n (none : Option DV))[i]? = some (some x) := e
        rw [List.getElem?_replicate] at e
        split at e <;> cases e
    · match i, e with
      | 0, e => cases e; exact f
      | 1, e => cases e; exact f
      | i + 2, e =>
        have e : (List.replicate n (none : Option DV))[i]? = some (some x1) := e
        rw [List.getElem?_replicate] at e
        split at e <;> cases e
  · have z : d = .bl true := z
    subst z
    obtain ⟨_, _, _, r2⟩ := r1.old k1
    rw [show v = .bl true from r2]
    exact q H1
structure Tx (mg : Str → Option Value) : Prop where
  m_isinstance : mg "isinstance" = none
  m_int : mg "int" = none
  m_bool : mg "bool" = none
  m_str : mg "str" = none
  m_list : mg "list" = none
  m_tuple : mg "tuple" = none
  m_len : mg "len" = none
  m_range : mg "range" = none
  m_zip : mg "zip" = none
  m_min : mg "min" = none
  m_max : mg "max" = none
  m_all : mg "all" = none
  m_set : mg "set" = none
  m_sorted : mg "sorted" = none
  m_super : mg "super" = none
  m_repr : mg "repr" = none
  c_MOST_NAME : ∃ t, mg "MOST_NAME" = some (.int 8 t)
  c_MOST_WORD : ∃ t, mg "MOST_WORD" = some (.int 60 t)
  c_MOST_THEN : ∃ t, mg "MOST_THEN" = some (.int 6 t)
  c_MOST_FIGURES : ∃ t, mg "MOST_FIGURES" = some (.int 30 t)
  c_MOST_DOUBLE : ∃ t, mg "MOST_DOUBLE" = some (.int 8 t)
  c_DEEPEST : ∃ t, mg "DEEPEST" = some (.int 8 t)
  c_LONGEST : ∃ t, mg "LONGEST" = some (.int 400 t)
  c_LETTERS : ∃ t, mg "LETTERS" = some (.str "abcdefghijklmnopqrstuvwxyz" t)
  c_FIGURES : ∃ t, mg "FIGURES" = some (.str "0123456789" t)
def xf_InvalidHands : FL := [("code", .str "InvalidHands"), ("given", .par 0)]
def n_InvalidHands___init__ : List Str := ["self", "given"]
theorem sc_InvalidHands___init__ : EXS.SScope n_InvalidHands___init__ ["self", "given"] (defScope s_InvalidHands___init__) := ⟨rfl, rfl, rfl, by decide +kernel, rfl, by decide +kernel, by decide +kernel, by decide +kernel, rfl, rfl⟩
theorem ok_InvalidHands___init__ (D : Xe K mg P.main.file "InvalidHands" s_InvalidHands___init__) (hsup : mg "super" = none) (htop : (P.main.scope.names.lookup ("super" : Str)).isSome = false) : FnOk P w K mg base (L2.CX P w) 1 D.f D.fd ["self", "given"] (spX D.C 1 xf_InvalidHands) :=
  fn_x (ar := (defArgs s_InvalidHands___init__).args.getD 0 default) D.F D.e.excD sc_InvalidHands___init__ hsup htop rfl rfl rfl rfl rfl (fun r hr => D.e.na _ (by revert hr; revert r; decide)) (by decide) (by decide) (hcl := fun env => rfl) (fun A outer s H E => (pss_cons (ps_ost (pv 0) pe_str) (pss_cons (ps_ost (pv 0) (pv 1)) pss_nil)))
theorem b_InvalidHands___init__ (D : Xe K mg P.main.file "InvalidHands" s_InvalidHands___init__) : Binds K D.fd ["self", "given"] [] := D.binds fun _ _ _ _ _ _ _ us hl => match us, hl with | [_, _], _ => rfl
theorem w_fk_InvalidHands : fsK xf_InvalidHands = (["given", "code"] : List Str) := rfl
theorem w_fd_InvalidHands {a0 : D} : fsD xf_InvalidHands [a0] = [a0, D.str "InvalidHands"] := rfl
def xf_InvalidForm : FL := [("code", .str "InvalidForm"), ("at", .par 0)]
def n_InvalidForm___init__ : List Str := ["self", "at"]
theorem sc_InvalidForm___init__ : EXS.SScope n_InvalidForm___init__ ["self", "at"] (defScope s_InvalidForm___init__) := ⟨rfl, rfl, rfl, by decide +kernel, rfl, by decide +kernel, by decide +kernel, by decide +kernel, rfl, rfl⟩
theorem ok_InvalidForm___init__ (D : Xe K mg P.main.file "InvalidForm" s_InvalidForm___init__) (hsup : mg "super" = none) (htop : (P.main.scope.names.lookup ("super" : Str)).isSome = false) : FnOk P w K mg base (L2.CX P w) 1 D.f D.fd ["self", "at"] (spX D.C 1 xf_InvalidForm) :=
  fn_x (ar := (defArgs s_InvalidForm___init__).args.getD 0 default) D.F D.e.excD sc_InvalidForm___init__ hsup htop rfl rfl rfl rfl rfl (fun r hr => D.e.na _ (by revert hr; revert r; decide)) (by decide) (by decide) (hcl := fun env => rfl) (fun A outer s H E => (pss_cons (ps_ost (pv 0) pe_str) (pss_cons (ps_ost (pv 0) (pv 1)) pss_nil)))
theorem b_InvalidForm___init__ (D : Xe K mg P.main.file "InvalidForm" s_InvalidForm___init__) : Binds K D.fd ["self", "at"] [] := D.binds fun _ _ _ _ _ _ _ us hl => match us, hl with | [_, _], _ => rfl
theorem w_fk_InvalidForm : fsK xf_InvalidForm = (["at", "code"] : List Str) := rfl
theorem w_fd_InvalidForm {a0 : D} : fsD xf_InvalidForm [a0] = [a0, D.str "InvalidForm"] := rfl
structure Kx_Form (K : PySem.W.Frag) (mg : Str → Option Value) where
  C : Addr
  g : mg "Form" = some (.ref C)
  cls : Cls K C
  isi : Hx.Isi K C
  isc : Hx.Isc K C
  n_tree : NoAttr K C "tree"
  n_hands : NoAttr K C "hands"
  n_own_text : NoAttr K C "own_text"
  D___init__ : Dm K "__init__" "Form.__init__" s_Form___init__
  mkr : Mk K C D___init__.f
  D_parts : Dm K "parts" "Form.parts" s_Form_parts
  h_parts : Meth K C "parts" D_parts.f
  D_names : Dm K "names" "Form.names" s_Form_names
  h_names : Meth K C "names" D_names.f
  D_counts : Dm K "counts" "Form.counts" s_Form_counts
  h_counts : Meth K C "counts" D_counts.f
  i___add__ : Hx.OwnI K C "__add__" "__radd__"
  D___eq__ : Dm K "__eq__" "Form.__eq__" s_Form___eq__
  o___eq__ : Hx.Own K C "__eq__" D___eq__.f
  D___repr__ : Dm K "__repr__" "Form.__repr__" s_Form___repr__
  o___repr__ : Hx.Own K C "__repr__" D___repr__.f
  D_text : Dm K "text" "Form.text" s_Form_text
  q_text : Addr
  p_text : PropOf K C "text" q_text D_text.f
  D_depth : Dm K "depth" "Form.depth" s_Form_depth
  q_depth : Addr
  p_depth : PropOf K C "depth" q_depth D_depth.f
  D_kind : Dm K "kind" "Form.kind" s_Form_kind
  q_kind : Addr
  p_kind : PropOf K C "kind" q_kind D_kind.f
  cv_MOST_DEPTH : Hx.CvV K C "MOST_DEPTH" (.int 8)
  cv_MOST_LENGTH : Hx.CvV K C "MOST_LENGTH" (.int 400)
abbrev ksRow : List Str := ["hands", "own_turns"]
abbrev row (C : Addr) (h : Int) (ts : List Int) : D := .obj C ksRow [.int h, .lst (ts.map D.int)]
theorem fld_hands {x y : D} : fld ksRow [x, y] "hands" = some x := rfl
theorem fld_turns {x y : D} : fld ksRow [x, y] "own_turns" = some y := rfl
theorem fld_m_turns {x y : D} : fld ksRow [x, y] "turns" = none := rfl
theorem fld_m_turned {x y : D} : fld ksRow [x, y] "turned" = none := rfl
theorem fld_m_with_turns {x y : D} : fld ksRow [x, y] "with_turns" = none := rfl
theorem fld_m_need_like {x y : D} : fld ksRow [x, y] "need_like" = none := rfl
def eIH (C : Addr) (v : D) : Er := ⟨C, ["given", "code"], [v, .str "InvalidHands"]⟩
def dgN2 : Array Lean.Name := dgN1 ++ #[`ups_length, `exists_eq, `exists_eq', `Int.reduceToNat, `Int.reduceLE, `Int.reduceLT, `Int.reducePow, `Int.reduceNeg, `Int.reduceSub, `Int.reduceAdd, `Int.reduceMul, `List.length_range, `Option.map_some, `ne_eq, `not_true_eq_false, `not_false_eq_true, `goodL_ints, `asInts_map, `asInts_nil, `asInts_cons, `exists_and_left, `exists_and_right, `Int.zero_add, `Nat.reducePow, `w_at0, `w_at1, `w_at2, `w_at3, `w_at4, `w_at5, `w_natR, `w_fLenOw, `w_lc2, `w_asStrs, `w_asS, `w_join, `w_find, `w_m1, `w_fStrI, `w_zAugO, `w_thaw_nil, `w_thaw_cons, `w_thaw_own, `w_thaw_val, `w_thaw_none, `w_thaw_tre, `w_lendT, `w_lend, `w_lendN, `w_enumS, `w_zParN, `w_negR, `w_opOwnN, `w_par3, `w_pk, `w_pickE_nil, `w_pickE_cons, `w_xLam, `w_callZ, `w_asA_int, `w_asA_non, `w_asA_bl, `w_asA_str, `w_asA_lst, `w_asA_tup, `w_xOBa, `w_tx_len, `w_tx_size, `w_tx_cps, `w_tx_app, `w_tx_eq, `w_tx_beq, `w_tx_mul, `w_tx_signs, `w_tx_emp, `w_tx_one, `w_callM, `w_fFmtS, `w_fFmtI, `w_jfNil, `w_asTx, `w_jfCons, `w_xFmt, `w_xJoined, `w_blR, `w_fBoolOw, `w_stR, `w_fReprOw, `w_fBoolB, `w_fBoolI, `w_toRest, `w_xCon, `w_xAlt, `w_xEnumK, `w_fEnumK, `w_fAnyI, `w_fAnyIT, `w_xLenSetL, `w_fLenSetL, `w_xItAlt, `fIsiO_same, `w_xMakeK, `w_xAltT, `w_xTruOw, `w_valE_nil, `w_valE_val, `w_valE_own, `w_valE_tre, `w_valE_none, `w_consU, `w_putT_0, `w_putT_s, `w_setU, `w_at_nil, `w_at_lst, `w_at_tup, `w_setAt_nil, `w_setAt_l0, `w_tre_inj, `w_isTre_0, `w_isTre_s, `w_plN, `w_ixAt_0, `w_plI, `w_appL, `w_clrL, `w_stL, `w_trs_ds, `w_tr_d, `w_trs_length, `w_tr_int, `w_lendU, `w_lendF, `w_frzU, `w_retU, `w_retUe, `w_appF, `w_clrF, `w_clrO_0, `w_clrO, `w_setN, `w_nt_lst, `w_nt_int, `w_nt_non, `w_nt_bl, `w_nt_str, `w_ntL_nil, `w_ntL_cons, `w_ntL_ints, `w_xNT, `w_xDatU, `w_ofU, `w_parOO, `w_isNotB, `w_starts, `w_fIntS, `w_fStrAi, `w_fStrAs, `w_fMax1, `w_dct, `w_get2s, `w_get2i, `w_get2, `w_isDct, `w_starS, `w_inG_adr, `w_inG_tup, `w_itG, `w_asSS, `w_sortSet, `w_callV, `w_xCv, `w_opOwnL, `w_xTruLen, `w_argE, `w_argE0, `w_callFn, `w_xMethF, `w_opOwnA, `flatL_ints, `F__law_pull_is, `w_law_picks, `F__law_pick_is, `F__law_same_is, `F_is_number_is, `w_fk_InvalidHands, `w_fd_InvalidHands, `w_fk_InvalidForm, `w_fd_InvalidForm, `fld_hands, `fld_turns, `fld_m_turns, `fld_m_turned, `fld_m_with_turns, `fld_m_need_like]
local macro_rules | `(tactic| walk_at "dg") => do let xs ← dgN2.mapM fun n => `(Lean.Parser.Tactic.simpLemma| $(Lean.mkIdent n):term); `(tactic| simp only [$xs,*, List.getElem?_cons_zero, List.getElem?_cons_succ])
def F_check_hands (CH : Addr) : Spec
  | [v], R, Rx => v.dat = true ∧ (isNum v 2 4 = true → R .non) ∧ (isNum v 2 4 = false → Rx (eIH CH v))
  | _, _, _ => False
theorem F_check_hands_is {CH : Addr} {v : D} {R : D → Prop} {Rx : Er → Prop} : F_check_hands CH [v] R Rx = (v.dat = true ∧ (isNum v 2 4 = true → R .non) ∧ (isNum v 2 4 = false → Rx (eIH CH v))) := rfl
def b_check_hands (Dx : Df K mg "check_hands" s_check_hands) : Binds K Dx.fd ["hands"] [] := Dx.F.bindsN fun _ _ _ _ _ _ us hl => match us, hl with | [_], _ => rfl
def n_check_hands : List Str := ["hands"]
theorem sc_check_hands : FnScope n_check_hands ["hands"] (defScope s_check_hands) := ⟨rfl, rfl, rfl, by decide +kernel, rfl, by decide +kernel, by decide +kernel⟩
def dgN3 : Array Lean.Name := dgN2 ++ #[`F_check_hands_is]
local macro_rules | `(tactic| walk_at "dg") => do let xs ← dgN3.mapM fun n => `(Lean.Parser.Tactic.simpLemma| $(Lean.mkIdent n):term); `(tactic| simp only [$xs,*, List.getElem?_cons_zero, List.getElem?_cons_succ])
theorem ok_check_hands (T : Tx mg) (D_check_hands : Df K mg "check_hands" s_check_hands) (D_is_number : Df K mg "is_number" s_is_number) (X_InvalidHands : Xe K mg P.main.file "InvalidHands" s_InvalidHands___init__) (hsup : mg "super" = none) (htop : (P.main.scope.names.lookup ("super" : Str)).isSome = false) : FnOk P w K mg base (L2.CX P w) 3 D_check_hands.f D_check_hands.fd ["hands"] (spD (F_check_hands X_InvalidHands.C)) := by
  have GX_InvalidHands := ok_InvalidHands___init__ (P := P) (w := w) (base := base) X_InvalidHands hsup htop
  have G_is_number := ok_is_number (P := P) (w := w) (base := base) D_is_number T.m_isinstance T.m_int T.m_bool
  refine fn_d D_check_hands.F sc_check_hands (fun ds R Rx h => ?_) (fun cdv A outer s H E hr => (ds_one (s_if (dt_not (dt_tru (d_call G_is_number (hr.mono (by decide)) D_is_number.g D_is_number.F.kp (b_is_number D_is_number) .nil dfR_nil pass_d (da_cons (d_var 0) (da_cons d_int (da_cons d_int da_nil)))))) (ds_one (s_raise X_InvalidHands.e.ox X_InvalidHands.e.iC X_InvalidHands.e.tI (by decide) (by decide) GX_InvalidHands (hr.mono (by decide)) (b_InvalidHands___init__ X_InvalidHands) passL X_InvalidHands.g rfl (takes_of rfl rfl rfl rfl) (da_cons (d_var 0) da_nil))) ds_nil)) ) fun ds R Rx h => ?_
  · match ds, h with
    | [v], _ => rfl
  · match ds, h with
    | [v], hh =>
      obtain ⟨h1, h2, h3⟩ := hh
      simp only [n_check_hands]
      walk_at "dg"
      cases e : isNum v 2 4 with
      | true =>
        walk_at "dg"
        exact ⟨h1, h2 e⟩
      | false =>
        walk_at "dg"
        exact ⟨h1, h3 e⟩
theorem isNum_of {x : D} {lo hi : Int} (h : isNum x lo hi = true) : ∃ n, x = .int n ∧ lo ≤ n ∧ n ≤ hi := by
  cases x <;> simp only [isNum, Bool.false_eq_true, Bool.and_eq_true, decide_eq_true_eq] at h
  exact ⟨_, rfl, h⟩
local macro_rules | `(tactic| walk_at "rk") => `(tactic| first
  | assumption
  | (refine rok_app ?_ ?_ ?_ <;> first | walk_at "rk" | (simp only [List.length_append, List.length_reverse, List.length_map, List.length_replicate]; omega))
  | (refine rok_rev ?_; walk_at "rk")
  | (refine rok_map ?_ _ (fun t => fmod_in (by assumption)); walk_at "rk")
  | omega
  | decide
  | (refine log_lt (k := 80) ?_ (by decide) (by decide); omega))
local macro_rules | `(tactic| walk_at "fin") => `(tactic| ((repeat' (first | (with_reducible assumption) | (with_reducible refine And.intro ?_ ?_) | (with_reducible intro _))); all_goals first | (with_reducible assumption) | omega | contradiction | trivial))
local macro_rules | `(tactic| walk_at "cj") => `(tactic| repeat' (refine And.intro (by walk_at "rk") ?_))
abbrev Cs := List Nat
def exR {α : Type} (r : Except Nat α) (N : α → Prop) (X : Nat → Prop) : Prop := match r with
  | .ok v => N v
  | .error i => X i
theorem w_exR_ok {α : Type} {v : α} {N : α → Prop} {X : Nat → Prop} : exR (.ok v) N X = N v := rfl
theorem w_exR_er {α : Type} {i : Nat} {N : α → Prop} {X : Nat → Prop} : exR (.error i) N X = X i := rfl
theorem exR_mono {α : Type} {r : Except Nat α} {N N' : α → Prop} {X : Nat → Prop} (h : exR r N X) (m : ∀ v, r = .ok v → N v → N' v) : exR r N' X := by
  cases r with
  | ok v => exact m v rfl h
  | error i => exact h
def eIF (C : Addr) (i : Int) : Er := ⟨C, ["at", "code"], [.int i, .str "InvalidForm"]⟩
/-- the signs that are wanted: a text, a list of texts of one sign -/
def Wants (d : D) (ws : Cs) : Prop := d = .str (tx ws) ∨ d = .lst (ws.map fun c => .str (tx [c]))
theorem wants_in {d : D} {ws : Cs} {c : Nat} {R : D → Prop} (h : Wants d ws) : opIn (.str (tx [c])) d R = R (.bl (decide (c ∈ ws))) := by
  rcases h with rfl | rfl
  · show (∃ s c', D.str (tx [c]) = .str s ∧ oneSign s = some c' ∧ R (.bl (decide (c' ∈ (tx ws).cps.toList)))) = _
    refine propext ⟨fun ⟨s, c', e1, e2, q⟩ => ?_, fun q => ⟨_, c, rfl, rfl, q⟩⟩
    cases e1
    cases e2
    exact q
  · have e : inV (V.str (tx [c])) ((ws.map fun c => D.str (tx [c])).map D.v) = decide (c ∈ ws) := by
      unfold inV
      rw [Bool.eq_iff_iff, List.map_map]
      simp only [List.any_map, List.any_eq_true, Function.comp, D.v, eqV, beq_iff_eq, decide_eq_true_eq]
      constructor
      · rintro ⟨y, h1, h2⟩
        have := tx_inj h2
        cases this
        exact h1
      · exact fun h => ⟨c, h, rfl⟩
    have e2 : (ws.map fun c => D.str (tx [c])).all D.sc = true := List.all_eq_true.mpr fun x hx => by
      obtain ⟨y, _, rfl⟩ := List.mem_map.mp hx
      rfl
    show (true = true ∧ (ws.map fun c => D.str (tx [c])).all D.sc = true ∧ R (.bl (inV (V.str (tx [c])) ((ws.map fun c => D.str (tx [c])).map D.v)))) = _
    rw [e, e2]
    simp only [true_and]
theorem wants_notin {d : D} {ws : Cs} {c : Nat} {R : D → Prop} (h : Wants d ws) : opNotIn (.str (tx [c])) d R = R (.bl (!decide (c ∈ ws))) := by
  unfold opNotIn
  rw [wants_in h]
def tak (t : Cs) (i : Nat) (ws : Cs) : Except Nat Nat := match t[i]? with
  | some c => if i < 400 ∧ c ∈ ws then .ok c else .error i
  | none => .error i
theorem min4 {n i : Nat} {q : Decidable ((400 : Int) < (n : Int))} : (@ite Int ((400 : Int) < (n : Int)) q 400 (n : Int) ≤ (i : Int)) ↔ (400 ≤ i ∨ n ≤ i) := by split <;> omega
def dgN4 : Array Lean.Name := dgN3 ++ #[`w_exR_ok, `w_exR_er]
local macro_rules | `(tactic| walk_at "dg") => do let xs ← dgN4.mapM fun n => `(Lean.Parser.Tactic.simpLemma| $(Lean.mkIdent n):term); `(tactic| simp only [$xs,*, List.getElem?_cons_zero, List.getElem?_cons_succ])
def F_taken (CF : Addr) : Spec
  | [.str s, .int a, d], R, Rx => ∃ (t : Cs) (i : Nat) (ws : Cs), s = tx t ∧ a = i ∧ Wants d ws ∧ t.length ≤ 1000000 ∧ exR (tak t i ws) (fun c => R (.str (tx [c]))) (fun i => Rx (eIF CF i))
  | _, _, _ => False
theorem F_taken_is {CF : Addr} {s : Str} {a : Int} {d : D} {R : D → Prop} {Rx : Er → Prop} : F_taken CF [.str s, .int a, d] R Rx = (∃ (t : Cs) (i : Nat) (ws : Cs), s = tx t ∧ a = i ∧ Wants d ws ∧ t.length ≤ 1000000 ∧ exR (tak t i ws) (fun c => R (.str (tx [c]))) (fun i => Rx (eIF CF i))) := rfl
theorem F_taken_of {CF : Addr} {ds : List D} {R : D → Prop} {Rx : Er → Prop} (z : F_taken CF ds R Rx) : ∃ (s : Str) (a : Int) (d : D), ds = [.str s, .int a, d] ∧ (∃ (t : Cs) (i : Nat) (ws : Cs), s = tx t ∧ a = i ∧ Wants d ws ∧ t.length ≤ 1000000 ∧ exR (tak t i ws) (fun c => R (.str (tx [c]))) (fun i => Rx (eIF CF i))) := by
  unfold F_taken at z
  split at z
  · exact ⟨_, _, _, rfl, z⟩
  · exact z.elim
def b_taken (Dx : Df K mg "taken" s_taken) : Binds K Dx.fd ["text", "at", "wanted"] [] := Dx.F.bindsN fun _ _ _ _ _ _ us hl => match us, hl with | [_, _, _], _ => rfl
def n_taken : List Str := ["text", "at", "wanted"]
theorem sc_taken : FnScope n_taken ["text", "at", "wanted"] (defScope s_taken) := ⟨rfl, rfl, rfl, by decide +kernel, rfl, by decide +kernel, by decide +kernel⟩
theorem ok_taken (T : Tx mg) (X_InvalidForm : Xe K mg P.main.file "InvalidForm" s_InvalidForm___init__) (D_taken : Df K mg "taken" s_taken) (hsup : mg "super" = none) (htop : (P.main.scope.names.lookup ("super" : Str)).isSome = false) : FnOk P w K mg base (L2.CX P w) 3 D_taken.f D_taken.fd ["text", "at", "wanted"] (spD (F_taken X_InvalidForm.C)) := by
  have GX_InvalidForm := ok_InvalidForm___init__ (P := P) (w := w) (base := base) X_InvalidForm hsup htop
  refine fn_d D_taken.F sc_taken (fun ds R Rx hs0 => ?_) (fun cdv A outer s H E hr => have hu := hr.units
    (ds_cons (s_if (dw_pt (dw_or (dt_cmp c_ge (d_var 1) (d_callB (b_min2 rfl) T.m_min PyProof.Rows.boot_min (da_cons (d_callB b_len T.m_len boot_len (da_cons (d_var 0) da_nil)) (da_cons (d_gint T.c_LONGEST) da_nil))) (nomark _)) (dw_or1 (dt_cmp c_notin (d_ix (d_var 0) (d_var 1)) (d_var 2) rfl)))) (ds_one (s_raise X_InvalidForm.e.ox X_InvalidForm.e.iC X_InvalidForm.e.tI (by decide) (by decide) GX_InvalidForm (hr.mono (by decide)) (b_InvalidForm___init__ X_InvalidForm) passL X_InvalidForm.g rfl (takes_of rfl rfl rfl rfl) (da_cons (d_var 1) da_nil))) ds_nil)
    (ds_one (s_ret (d_ix (d_var 0) (d_var 1))))) ) fun ds R Rx hs0 => ?_
  · obtain ⟨_, _, _, rfl, _⟩ := F_taken_of hs0
    rfl
  · obtain ⟨s, a, d, rfl, hs⟩ := F_taken_of hs0
    clear hs0
    simp only [n_taken]
    walk_at "dg"
    obtain ⟨t, i, ws, rfl, rfl, hd, hl, hR⟩ := hs
    walk_at "dg"
    unfold tak at hR
    refine ⟨by omega, fun z => ?_, fun z => ⟨by omega, ?_⟩⟩
    · have z := min4.mp z
      cases e : t[i]? with
      | none =>
        rw [e] at hR
        exact hR
      | some c =>
        rw [e] at hR
        have := (List.getElem?_eq_some_iff.mp e).1
        have hR : exR (if i < 400 ∧ c ∈ ws then Except.ok c else .error i) _ _ := hR
        rw [if_neg (by omega)] at hR
        exact hR
    · have z := fun y => z (min4.mpr y)
      have hi : i < t.length := by omega
      have e : t[i]? = some t[i] := List.getElem?_eq_getElem hi
      rw [e] at hR
      generalize t[i] = c at hR e
      have hR : exR (if i < 400 ∧ c ∈ ws then Except.ok c else .error i) _ _ := hR
      refine ⟨c, atI_nat e, ?_⟩
      rw [wants_notin hd]
      walk_at "dg"
      refine ⟨fun y => ?_, fun y => ⟨by omega, c, atI_nat e, ?_⟩⟩
      · rw [if_neg (fun q => y q.2)] at hR
        exact hR
      · rw [if_pos ⟨by omega, y⟩] at hR
        exact hR
def runL (t : Cs) (i : Nat) (ws : Cs) (m : Nat) : Cs := ((t.drop i).take (min (i + m) 400 - i)).takeWhile fun c => decide (c ∈ ws)
def runP (t : Cs) (i : Nat) (ws : Cs) (m : Nat) : Except Nat Cs := if runL t i ws m = [] then .error i else .ok (runL t i ws m)
theorem takeWhile_stop {p : Nat → Bool} : ∀ {l : Cs} {k : Nat} {c : Nat}, (∀ x ∈ l.take k, p x = true) → l[k]? = some c → p c = false → l.takeWhile p = l.take k
  | [], k, c, _, e, _ => by simp at e
  | x :: l, 0, c, _, e, h => by
    simp at e
    subst e
    rw [List.takeWhile_cons, h]
    rfl
  | x :: l, k + 1, c, a, e, h => by
    rw [List.takeWhile_cons, a x (by simp), List.take_succ_cons, if_pos rfl, takeWhile_stop (fun y hy => a y (by rw [List.take_succ_cons]; exact List.mem_cons_of_mem _ hy)) (by simpa using e) h]
theorem takeWhile_all {p : Nat → Bool} : ∀ {l : Cs}, (∀ x ∈ l, p x = true) → l.takeWhile p = l
  | [], _ => rfl
  | x :: l, a => by rw [List.takeWhile_cons, a x (by simp), if_pos rfl, takeWhile_all fun y hy => a y (List.mem_cons_of_mem _ hy)]
theorem drop_at {t : Cs} {i c : Nat} (e : t[i]? = some c) : t.drop i = c :: t.drop (i + 1) := by
  obtain ⟨h, rfl⟩ := List.getElem?_eq_some_iff.mp e
  exact List.drop_eq_getElem_cons h
theorem runL_cons {t ws : Cs} {i m c : Nat} (e : t[i]? = some c) (h : i < 400) (hc : c ∈ ws) (hm : 1 ≤ m) : runL t i ws m = c :: ((t.drop (i + 1)).take (min (i + m) 400 - (i + 1))).takeWhile fun c => decide (c ∈ ws) := by
  unfold runL
  rw [drop_at e, show min (i + m) 400 - i = (min (i + m) 400 - (i + 1)) + 1 by omega, List.take_succ_cons, List.takeWhile_cons, if_pos (decide_eq_true hc)]
theorem tak_ok {t ws : Cs} {i c : Nat} (h : tak t i ws = .ok c) : t[i]? = some c ∧ i < 400 ∧ c ∈ ws := by
  unfold tak at h
  split at h
  · rename_i c2 e
    split at h
    · rename_i q
      cases h
      exact ⟨e, q⟩
    · cases h
  · cases h
theorem tak_er {t ws : Cs} {i j : Nat} (h : tak t i ws = .error j) : j = i ∧ ∀ c, t[i]? = some c → i < 400 → c ∉ ws := by
  unfold tak at h
  split at h
  · rename_i c2 e
    split at h
    · cases h
    · rename_i q
      cases h
      refine ⟨rfl, fun c ec h1 h2 => q ?_⟩
      rw [e] at ec
      cases ec
      exact ⟨h1, h2⟩
  · rename_i e
    cases h
    exact ⟨rfl, fun c ec => by rw [e] at ec; cases ec⟩
theorem runL_nil {t ws : Cs} {i m : Nat} (h : ∀ c, t[i]? = some c → i < 400 → c ∉ ws) : runL t i ws m = [] := by
  unfold runL
  cases e : t[i]? with
  | none =>
    rw [List.drop_eq_nil_of_le (List.getElem?_eq_none_iff.mp e), List.take_nil, List.takeWhile_nil]
  | some c =>
    rw [drop_at e]
    cases q : min (i + m) 400 - i with
    | zero => rfl
    | succ k =>
      rw [List.take_succ_cons, List.takeWhile_cons, if_neg]
      rw [decide_eq_true_eq]
      exact h c e (by omega)
def dgN5 : Array Lean.Name := dgN4 ++ #[`F_taken_is]
local macro_rules | `(tactic| walk_at "dg") => do let xs ← dgN5.mapM fun n => `(Lean.Parser.Tactic.simpLemma| $(Lean.mkIdent n):term); `(tactic| simp only [$xs,*, List.getElem?_cons_zero, List.getElem?_cons_succ])
def F_run_at (CF : Addr) : Spec
  | [.str s, .int a, d, .int b], R, Rx => ∃ (t : Cs) (i : Nat) (ws : Cs) (m : Nat), s = tx t ∧ a = i ∧ d = .str (tx ws) ∧ b = m ∧ 1 ≤ m ∧ m ≤ 1000 ∧ t.length ≤ 1000000 ∧ exR (runP t i ws m) (fun l => R (.str (tx l))) (fun i => Rx (eIF CF i))
  | _, _, _ => False
theorem F_run_at_is {CF : Addr} {s : Str} {a : Int} {d : D} {b : Int} {R : D → Prop} {Rx : Er → Prop} : F_run_at CF [.str s, .int a, d, .int b] R Rx = (∃ (t : Cs) (i : Nat) (ws : Cs) (m : Nat), s = tx t ∧ a = i ∧ d = .str (tx ws) ∧ b = m ∧ 1 ≤ m ∧ m ≤ 1000 ∧ t.length ≤ 1000000 ∧ exR (runP t i ws m) (fun l => R (.str (tx l))) (fun i => Rx (eIF CF i))) := rfl
theorem F_run_at_of {CF : Addr} {ds : List D} {R : D → Prop} {Rx : Er → Prop} (z : F_run_at CF ds R Rx) : ∃ (s : Str) (a : Int) (d : D) (b : Int), ds = [.str s, .int a, d, .int b] ∧ (∃ (t : Cs) (i : Nat) (ws : Cs) (m : Nat), s = tx t ∧ a = i ∧ d = .str (tx ws) ∧ b = m ∧ 1 ≤ m ∧ m ≤ 1000 ∧ t.length ≤ 1000000 ∧ exR (runP t i ws m) (fun l => R (.str (tx l))) (fun i => Rx (eIF CF i))) := by
  unfold F_run_at at z
  split at z
  · exact ⟨_, _, _, _, rfl, z⟩
  · exact z.elim
def b_run_at (Dx : Df K mg "run_at" s_run_at) : Binds K Dx.fd ["text", "at", "wanted", "most"] [] := Dx.F.bindsN fun _ _ _ _ _ _ us hl => match us, hl with | [_, _, _, _], _ => rfl
def n_run_at : List Str := ["text", "at", "wanted", "most", "found", "sign"]
theorem sc_run_at : FnScope n_run_at ["text", "at", "wanted", "most"] (defScope s_run_at) := ⟨rfl, rfl, rfl, by decide +kernel, rfl, by decide +kernel, by decide +kernel⟩
theorem ok_run_at (T : Tx mg) (X_InvalidForm : Xe K mg P.main.file "InvalidForm" s_InvalidForm___init__) (D_run_at : Df K mg "run_at" s_run_at) (D_taken : Df K mg "taken" s_taken) (hsup : mg "super" = none) (htop : (P.main.scope.names.lookup ("super" : Str)).isSome = false) : FnOk P w K mg base (L2.CX P w) 4 D_run_at.f D_run_at.fd ["text", "at", "wanted", "most"] (spD (F_run_at X_InvalidForm.C)) := by
  have G_taken := ok_taken (P := P) (w := w) (base := base) T X_InvalidForm D_taken hsup htop
  refine fn_d D_run_at.F sc_run_at (fun ds R Rx hs0 => ?_) (fun cdv A outer s H E hr => have hu := hr.units
    (ds_cons (s_set (i := 4) sc_run_at.nd (d_call G_taken (hr.mono (by decide)) D_taken.g D_taken.F.kp (b_taken D_taken) .nil dfR_nil pass_d (da_cons (d_var 0) (da_cons (d_var 1) (da_cons (d_var 2) da_nil)))))
    (ds_cons (s_for (passes_of rfl) rfl (i_str (d_slice (d_var 0) (do_some (d_add (d_var 1) d_int)) (do_some (d_callB (b_min2 rfl) T.m_min PyProof.Rows.boot_min (da_cons (d_add (d_var 1) (d_var 3)) (da_cons (d_gint T.c_LONGEST) da_nil)))))) (g_name (i := 5) sc_run_at.nd)
      (ds_cons (s_if (dt_cmp c_notin (d_var 5) (d_var 2) rfl) (ds_one s_break) ds_nil)
        (ds_one (s_set (i := 4) sc_run_at.nd (d_add (d_var 4) (d_var 5))))))
    (ds_one (s_ret (d_var 4))))) ) fun ds R Rx hs0 => ?_
  · obtain ⟨_, _, _, _, rfl, _⟩ := F_run_at_of hs0
    rfl
  · obtain ⟨s, a, d, b, rfl, hs⟩ := F_run_at_of hs0
    clear hs0
    simp only [n_run_at]
    walk_at "dg"
    obtain ⟨t, i, ws, m, rfl, rfl, rfl, rfl, hm, hm2, hl, hR⟩ := hs
    walk_at "dg"
    refine ⟨i, rfl, ws, .inl rfl, hl, ?_⟩
    cases e : tak t i ws with
    | error j =>
      obtain ⟨rfl, h⟩ := tak_er e
      unfold runP at hR
      rw [runL_nil h, if_pos rfl] at hR
      exact hR
    | ok c =>
      obtain ⟨e1, h4, hc⟩ := tak_ok e
      unfold runP at hR
      rw [runL_cons e1 h4 hc hm, if_neg (List.cons_ne_nil _ _)] at hR
      rw [w_exR_ok]
      have em : (if (400 : Int) < (i : Int) + (m : Int) then 400 else (i : Int) + (m : Int)) = ((min (i + m) 400 : Nat) : Int) := by split <;> omega
      rw [em, show ((i : Int) + 1) = ((i + 1 : Nat) : Int) from rfl, tx_cut_nn, w_tx_signs]
      have hz : ((t.drop (i + 1)).take (min (i + m) 400 - (i + 1))).length ≤ 400 := by
        rw [List.length_take]
        omega
      generalize (t.drop (i + 1)).take (min (i + m) 400 - (i + 1)) = seg at hR hz
      refine ⟨by omega, fun k env => k ≤ seg.length ∧ (∀ x ∈ seg.take k, x ∈ ws) ∧ ∃ e5 : Option DV, env = [some (.val (.str (tx t))), some (.val (.int (i : Int))), some (.val (.str (tx ws))), some (.val (.int (m : Int))), some (.val (.str (tx (c :: seg.take k)))), e5], ⟨Nat.zero_le _, (fun x hx => by simp at hx), _, rfl⟩, ?_, ?_⟩
      · rintro k d env ek ⟨hk, ha, e5, rfl⟩
        rw [List.getElem?_map] at ek
        obtain ⟨x, ex, rfl⟩ := Option.map_eq_some_iff.mp ek
        walk_at "dg"
        rw [wants_notin (.inl rfl)]
        walk_at "dg"
        refine ⟨fun y => ?_, fun y => ?_⟩
        · rw [takeWhile_stop (k := k) (c := x) (fun z hz => decide_eq_true (ha z hz)) ex (decide_eq_false y)] at hR
          exact hR
        · have hk2 := (List.getElem?_eq_some_iff.mp ex).1
          have et : seg.take (k + 1) = seg.take k ++ [x] := by rw [List.take_succ, ex]; rfl
          refine ⟨by rw [List.length_take]; omega, by omega, ?_, ?_⟩
          · intro z hz
            rw [et] at hz
            rcases List.mem_append.mp hz with hz | hz
            · exact ha z hz
            · rw [List.mem_singleton.mp hz]
              exact y
          · exact et.symm
      · rintro env ⟨_, ha, e5, rfl⟩
        rw [List.length_map, List.take_length] at ha ⊢
        walk_at "dg"
        rw [takeWhile_all fun z hz => decide_eq_true (ha z hz)] at hR
        exact hR
def cThen : Cs := [116, 104, 101, 110, 40]
def cAgain : Cs := [97, 103, 97, 105, 110, 40]
def cBack : Cs := [98, 97, 99, 107, 40]
def cTurned : Cs := [116, 117, 114, 110, 101, 100, 40]
def cDouble : Cs := [100, 111, 117, 98, 108, 101, 40]
def cWith : Cs := [119, 105, 116, 104, 40]
def cUse : Cs := [117, 115, 101, 40]
def HD7 : List Cs := [cThen, cAgain, cBack, cTurned, cDouble, cWith, cUse]
theorem HD7_eq : (["then(", "again(", "back(", "turned(", "double(", "with(", "use("] : List Str) = HD7.map tx := by decide +kernel
theorem use_eq : ("use(" : Str) = tx cUse := by decide +kernel
def lcp : Cs → Cs → Nat
  | a :: as, b :: bs => if a = b then lcp as bs + 1 else 0
  | _, _ => 0
def best (hs : List Cs) (s : Cs) : Nat := hs.foldr (fun h m => max (lcp h s) m) 0
def seen (t : Cs) (i : Nat) : Cs := (t.drop i).take (400 - i)
def headP (hs : List Cs) (t : Cs) (i : Nat) : Except Nat Cs := match hs.find? fun h => h.isPrefixOf (seen t i) with
  | some h => .ok h
  | none => .error (i + best hs (seen t i))
def fitL (hs : List Cs) (f : Cs) : Cs := (hs.filter fun h => f.isPrefixOf h).map fun h => h.getD f.length 0
/-- the heads: none begins another one, all are of at most seven signs -/
structure HdOk (hs : List Cs) : Prop where
  free : ∀ h ∈ hs, ∀ g ∈ hs, h <+: g → h = g
  len : ∀ h ∈ hs, h.length ≤ 7
  ne : hs ≠ []
theorem hd7_ok : HdOk HD7 := ⟨by decide, by decide, by decide⟩
theorem use_ok : HdOk [cUse] := ⟨by decide, by decide, by decide⟩
theorem best_le {hs : List Cs} {s : Cs} {k : Nat} (h : ∀ g ∈ hs, lcp g s ≤ k) : best hs s ≤ k := by
  induction hs with
  | nil => exact Nat.zero_le _
  | cons g hs ih => exact Nat.max_le.mpr ⟨h g List.mem_cons_self, ih fun x hx => h x (List.mem_cons_of_mem _ hx)⟩
theorem best_ge {hs : List Cs} {s g : Cs} (h : g ∈ hs) : lcp g s ≤ best hs s := by
  induction hs with
  | nil => cases h
  | cons x hs ih =>
    rcases List.mem_cons.mp h with rfl | h
    · exact Nat.le_max_left _ _
    · exact Nat.le_trans (ih h) (Nat.le_max_right _ _)
theorem lcp_ge : ∀ {f g s : Cs}, f <+: g → f <+: s → f.length ≤ lcp g s
  | [], _, _, _, _ => Nat.zero_le _
  | a :: f, [], _, h, _ => by simp at h
  | a :: f, _, [], _, h => by simp at h
  | a :: f, b :: g, c :: s, h1, h2 => by
    rw [List.cons_prefix_cons] at h1 h2
    obtain ⟨rfl, h1⟩ := h1
    obtain ⟨rfl, h2⟩ := h2
    show (a :: f).length ≤ if a = a then lcp g s + 1 else 0
    rw [if_pos rfl, List.length_cons]
    exact Nat.succ_le_succ (lcp_ge h1 h2)
theorem lcp_take : ∀ {g s : Cs} {k : Nat}, k ≤ lcp g s → g.take k = s.take k ∧ k ≤ g.length ∧ k ≤ s.length
  | _, _, 0, _ => ⟨by simp, Nat.zero_le _, Nat.zero_le _⟩
  | [], s, k + 1, h => by simp [lcp] at h
  | _ :: _, [], k + 1, h => by simp [lcp] at h
  | a :: g, b :: s, k + 1, h => by
    have h : k + 1 ≤ if a = b then lcp g s + 1 else 0 := h
    split at h
    · rename_i e
      subst e
      obtain ⟨h1, h2, h3⟩ := lcp_take (g := g) (s := s) (k := k) (by omega)
      exact ⟨by rw [List.take_succ_cons, List.take_succ_cons, h1], by rw [List.length_cons]; omega, by rw [List.length_cons]; omega⟩
    · omega
theorem pre_two {a b s : Cs} (h1 : a <+: s) (h2 : b <+: s) (h : a.length ≤ b.length) : a <+: b := by
  rw [List.prefix_iff_eq_take] at h1 h2 ⊢
  rw [h2, List.take_take, Nat.min_eq_left h]
  exact h1
theorem headP_ok {hs : List Cs} (ok : HdOk hs) {t h : Cs} {i : Nat} (hh : h ∈ hs) (hp : h <+: seen t i) : headP hs t i = .ok h := by
  unfold headP
  cases e : hs.find? (fun h => h.isPrefixOf (seen t i)) with
  | none =>
    have := List.find?_eq_none.mp e h hh
    exact absurd (List.isPrefixOf_iff_prefix.mpr hp) this
  | some g =>
    have g1 := List.mem_of_find?_eq_some e
    have g2 := List.isPrefixOf_iff_prefix.mp (List.find?_some (p := fun h => List.isPrefixOf h (seen t i)) e)
    have : g = h := by
      rcases Nat.le_total g.length h.length with z | z
      · exact ok.free g g1 h hh (pre_two g2 hp z)
      · exact (ok.free h hh g g1 (pre_two hp g2 z)).symm
    rw [this]
theorem headP_er {hs : List Cs} (ok : HdOk hs) {t f : Cs} {i : Nat} (hf : f <+: seen t i) (hg : ∃ g ∈ hs, f <+: g) (nf : f ∉ hs) (he : ∀ c, (seen t i)[f.length]? = some c → c ∉ fitL hs f) : headP hs t i = .error (i + f.length) := by
  have key : ∀ g ∈ hs, lcp g (seen t i) ≤ f.length := fun g hg2 => by
    refine Nat.le_of_not_lt fun z => ?_
    obtain ⟨e1, e2, e3⟩ := lcp_take (k := f.length + 1) z
    have e4 : (seen t i)[f.length]? = some (seen t i)[f.length] := List.getElem?_eq_getElem e3
    have fg : f <+: g := by
      have : g.take f.length = (seen t i).take f.length := by
        have := congrArg (List.take f.length) e1
        rwa [List.take_take, List.take_take, Nat.min_eq_left (Nat.le_succ _)] at this
      rw [List.prefix_iff_eq_take] at hf ⊢
      rw [this]
      exact hf
    refine he _ e4 ?_
    have e5 : g[f.length]? = (seen t i)[f.length]? := by
      have := congrArg (fun l : Cs => l[f.length]?) e1
      rwa [List.getElem?_take_of_lt (Nat.lt_succ_self _), List.getElem?_take_of_lt (Nat.lt_succ_self _)] at this
    refine List.mem_map.mpr ⟨g, List.mem_filter.mpr ⟨hg2, List.isPrefixOf_iff_prefix.mpr fg⟩, ?_⟩
    rw [List.getD, e5, e4]
    rfl
  unfold headP
  cases e : hs.find? (fun h => h.isPrefixOf (seen t i)) with
  | some g =>
    have g1 := List.mem_of_find?_eq_some e
    have g2 := List.isPrefixOf_iff_prefix.mp (List.find?_some (p := fun h => List.isPrefixOf h (seen t i)) e)
    have := key g g1
    have l := lcp_ge (List.prefix_refl g) g2
    obtain ⟨g', hg1, hg2⟩ := hg
    have gf : g <+: f := pre_two g2 hf (by omega)
    have := ok.free g g1 g' hg1 (gf.trans hg2)
    subst this
    have : g = f := gf.eq_of_length (Nat.le_antisymm gf.length_le hg2.length_le)
    exact absurd (this ▸ g1) nf
  | none =>
    obtain ⟨g', hg1, hg2⟩ := hg
    have h1 := best_le key
    have h2 := best_ge (s := seen t i) hg1
    have h3 := lcp_ge hg2 hf
    show Except.error (i + best hs (seen t i)) = _
    rw [show best hs (seen t i) = f.length by omega]
theorem tx_starts {a b : Cs} : Txt.startswith (tx a) (tx b) = b.isPrefixOf a := by
  show (decide (0 + b.length ≤ a.length) && Builtin.Str.subAt (tx a) (tx b) 0) = _
  rw [PySem.StrLaws.subAt_eq]
  show (decide (0 + b.length ≤ a.length) && ((a.drop 0).take b.length == b)) = _
  rw [Bool.eq_iff_iff, Bool.and_eq_true, decide_eq_true_eq, beq_iff_eq, List.drop_zero, List.isPrefixOf_iff_prefix, List.prefix_iff_eq_take]
  constructor
  · exact fun h => h.2.symm
  · intro h
    refine ⟨?_, h.symm⟩
    have := congrArg List.length h
    rw [List.length_take] at this
    omega
theorem seen_at {t : Cs} {i k : Nat} : (seen t i)[k]? = if i + k < 400 then t[i + k]? else none := by
  unfold seen
  rw [List.getElem?_take, List.getElem?_drop]
  by_cases h : i + k < 400
  · rw [if_pos h, if_pos (by omega)]
  · rw [if_neg h, if_neg (by omega)]
theorem pre_snoc {f s : Cs} {c : Nat} (h : f <+: s) (e : s[f.length]? = some c) : f ++ [c] <+: s := by
  rw [List.prefix_iff_eq_take] at h ⊢
  rw [List.length_append, List.length_singleton, List.take_succ, e, ← h]
  rfl
theorem pre_lt {f h : Cs} {hs : List Cs} (hf : f <+: h) (hh : h ∈ hs) (n : f ∉ hs) : f.length < h.length := by
  rcases Nat.lt_or_ge f.length h.length with z | z
  · exact z
  · exact absurd (hf.eq_of_length (Nat.le_antisymm hf.length_le z) ▸ hh) n
/-- the heads as they are handed about -/
def HsD (a : Addr) (d : D) (hs : List Cs) : Prop := (d = .adr a ∧ hs = HD7) ∨ (d = .tup [.str (tx cUse)] ∧ hs = [cUse])
theorem mem_tx {f : Cs} {hs : List Cs} : (tx f ∈ hs.map tx) = (f ∈ hs) := propext ⟨fun h => by
  obtain ⟨g, hg, e⟩ := List.mem_map.mp h
  rwa [← tx_inj e], fun h => List.mem_map_of_mem h⟩
theorem hs_notin {a : Addr} {d : D} {hs : List Cs} {f : Cs} {R : D → Prop} (h : HsD a d hs) : opNotInG a ["then(", "again(", "back(", "turned(", "double(", "with(", "use("] (.str (tx f)) d R = R (.bl (!decide (f ∈ hs))) := by
  rw [notInG_eq]
  rcases h with ⟨rfl, rfl⟩ | ⟨rfl, rfl⟩
  · rw [w_inG_adr, HD7_eq]
    simp only [mem_tx]
  · rw [w_inG_tup]
    have e : inV (V.str (tx f)) [V.str (tx cUse)] = decide (f ∈ [cUse]) := by
      unfold inV
      rw [Bool.eq_iff_iff]
      simp only [List.any_cons, List.any_nil, eqV, Bool.or_false, beq_iff_eq, List.mem_singleton, decide_eq_true_eq, eq_comm (a := tx cUse), w_tx_eq]
    show (true = true ∧ true = true ∧ R (.bl (!inV (V.str (tx f)) [V.str (tx cUse)]))) = _
    rw [e]
    simp only [true_and]
theorem hs_walk {a : Addr} {d : D} {hs : List Cs} {R : List D → Prop} (h : HsD a d hs) : itG a ["then(", "again(", "back(", "turned(", "double(", "with(", "use("] R d = R (hs.map fun h => .str (tx h)) := by
  rcases h with ⟨rfl, rfl⟩ | ⟨rfl, rfl⟩
  · show (a = a ∧ R ((["then(", "again(", "back(", "turned(", "double(", "with(", "use("] : List Str).map D.str)) = _
    rw [HD7_eq, List.map_map]
    simp only [true_and]
    rfl
  · rfl
def dgN6 : Array Lean.Name := dgN5 ++ #[`F_run_at_is]
local macro_rules | `(tactic| walk_at "dg") => do let xs ← dgN6.mapM fun n => `(Lean.Parser.Tactic.simpLemma| $(Lean.mkIdent n):term); `(tactic| simp only [$xs,*, List.getElem?_cons_zero, List.getElem?_cons_succ])
def F_head_at (CF : Addr) : Spec
  | [.str s, .int a, .int b], R, Rx => ∃ (t : Cs) (i k : Nat), s = tx t ∧ a = i ∧ b = k ∧ t.length ≤ 1000000 ∧ exR (headP (if k < 8 then HD7 else [cUse]) t i) (fun l => R (.str (tx l))) (fun i => Rx (eIF CF i))
  | _, _, _ => False
theorem F_head_at_is {CF : Addr} {s : Str} {a : Int} {b : Int} {R : D → Prop} {Rx : Er → Prop} : F_head_at CF [.str s, .int a, .int b] R Rx = (∃ (t : Cs) (i k : Nat), s = tx t ∧ a = i ∧ b = k ∧ t.length ≤ 1000000 ∧ exR (headP (if k < 8 then HD7 else [cUse]) t i) (fun l => R (.str (tx l))) (fun i => Rx (eIF CF i))) := rfl
theorem F_head_at_of {CF : Addr} {ds : List D} {R : D → Prop} {Rx : Er → Prop} (z : F_head_at CF ds R Rx) : ∃ (s : Str) (a : Int) (b : Int), ds = [.str s, .int a, .int b] ∧ (∃ (t : Cs) (i k : Nat), s = tx t ∧ a = i ∧ b = k ∧ t.length ≤ 1000000 ∧ exR (headP (if k < 8 then HD7 else [cUse]) t i) (fun l => R (.str (tx l))) (fun i => Rx (eIF CF i))) := by
  unfold F_head_at at z
  split at z
  · exact ⟨_, _, _, rfl, z⟩
  · exact z.elim
def b_head_at (Dx : Df K mg "head_at" s_head_at) : Binds K Dx.fd ["text", "at", "depth"] [] := Dx.F.bindsN fun _ _ _ _ _ _ us hl => match us, hl with | [_, _, _], _ => rfl
def n_head_at : List Str := ["text", "at", "depth", "heads", "found", "fitting", "late"]
theorem sc_head_at : FnScope n_head_at ["text", "at", "depth"] (defScope s_head_at) := ⟨rfl, rfl, rfl, by decide +kernel, rfl, by decide +kernel, by decide +kernel⟩
theorem ok_head_at (T : Tx mg) (X_InvalidForm : Xe K mg P.main.file "InvalidForm" s_InvalidForm___init__) (D_head_at : Df K mg "head_at" s_head_at) (D_taken : Df K mg "taken" s_taken) (hsup : mg "super" = none) (htop : (P.main.scope.names.lookup ("super" : Str)).isSome = false) (U_HEADS : Gt K mg "HEADS" ["then(", "again(", "back(", "turned(", "double(", "with(", "use("]) : FnOk P w K mg base (L2.CX P w) 4 D_head_at.f D_head_at.fd ["text", "at", "depth"] (spD (F_head_at X_InvalidForm.C)) := by
  have G_taken := ok_taken (P := P) (w := w) (base := base) T X_InvalidForm D_taken hsup htop
  refine fn_d D_head_at.F sc_head_at (fun ds R Rx hs0 => ?_) (fun cdv A outer s H E hr => have hu := hr.units
    (ds_cons (s_set (i := 3) sc_head_at.nd (d_if (dt_cmp c_lt (d_var 2) (d_gint T.c_DEEPEST) (nomark _)) (d_gadr U_HEADS.m) (d_tup (da_cons d_str da_nil))))
    (ds_cons (s_set (i := 4) sc_head_at.nd d_str)
    (ds_cons (s_while (passes_of rfl) (dt_cmp (c_notinG U_HEADS.at_) (d_var 4) (d_var 3) rfl)
      (ds_cons (s_setLc (i := 5) rfl sc_head_at.nd (i_tupG U_HEADS.at_ (d_var 3)) (blkOk_by (own := [("late", 6)]) (N := n_head_at) (sc := defScope s_head_at) (by decide +kernel)) (by decide) (fun _ _ _ _ _ => (g_name (i := 6) sc_head_at.nd)) (fun _ _ _ _ _ => (dts_one (dt_tru (d_starts (d_var 6) (d_var 4))))) (fun _ _ _ _ _ => (d_ix (d_var 6) (d_callB b_len T.m_len boot_len (da_cons (d_var 4) da_nil)))))
        (ds_one (s_set (i := 4) sc_head_at.nd (d_add (d_var 4) (d_call G_taken (hr.mono (by decide)) D_taken.g D_taken.F.kp (b_taken D_taken) .nil dfR_nil pass_d (da_cons (d_var 0) (da_cons (d_add (d_var 1) (d_callB b_len T.m_len boot_len (da_cons (d_var 4) da_nil))) (da_cons (d_var 5) da_nil)))))))))
    (ds_one (s_ret (d_var 4)))))) ) fun ds R Rx hs0 => ?_
  · obtain ⟨_, _, _, rfl, _⟩ := F_head_at_of hs0
    rfl
  · obtain ⟨s, a, b, rfl, hs⟩ := F_head_at_of hs0
    clear hs0
    simp only [n_head_at]
    obtain ⟨t, i, k, rfl, rfl, rfl, hl, hR⟩ := hs
    refine seq_step fun N1 hN1 => ?_
    walk_at "dg"
    have go : ∀ (d : D) (hs : List Cs), HsD U_HEADS.a d hs → HdOk hs → exR (headP hs t i) (fun l => R (.str (tx l))) (fun i => Rx (eIF X_InvalidForm.C i)) → N1 [some (.val (.str (tx t))), some (.val (.int (i : Int))), some (.val (.int (k : Int))), some (.val d), none, none, none] := by
      intro d hs hd ok hR
      refine hN1 _ ?_
      clear hN1 N1
      walk_at "dg"
      refine ⟨fun m env => ∃ (f : Cs) (e5 e6 : Option DV), f <+: seen t i ∧ (∃ g ∈ hs, f <+: g) ∧ m + f.length = 8 ∧ env = [some (.val (.str (tx t))), some (.val (.int (i : Int))), some (.val (.int (k : Int))), some (.val d), some (.val (.str (tx f))), e5, e6], ⟨8, ?_⟩, ?_⟩
      · exact ⟨[], none, none, List.nil_prefix, (by
          cases hs with
          | nil => exact absurd rfl ok.ne
          | cons g hs => exact ⟨g, List.mem_cons_self, List.nil_prefix⟩), rfl, rfl⟩
      · rintro m env ⟨f, e5, e6, hf, hg, hm, rfl⟩
        walk_at "dg"
        rw [hs_notin hd]
        walk_at "dg"
        refine ⟨fun z => ?_, fun z => ?_⟩
        · rw [hs_walk hd]
          refine LcP.filt (fun h => f.isPrefixOf h) (fun h => .str (tx [h.getD f.length 0])) (by
            rcases hd with ⟨_, rfl⟩ | ⟨_, rfl⟩
            · exact Nat.le_trans (show 7 ≤ 100 by decide) (by rw [sizeLine_eq]; decide)
            · exact Nat.le_trans (show 1 ≤ 100 by decide) (by rw [sizeLine_eq]; decide)) (fun j h N M ej g1 g2 => ?_) ?_
          · have hh := List.mem_of_getElem? ej
            have h7 := ok.len h hh
            walk_at "dg"
            rw [tx_starts]
            refine ⟨fun y => ?_, fun y => g2 y⟩
            have y2 := pre_lt (List.isPrefixOf_iff_prefix.mp y) hh z
            refine ⟨by omega, by omega, h[f.length], atI_nat (List.getElem?_eq_getElem y2), ?_⟩
            have := g1 y
            rwa [List.getD, List.getElem?_eq_getElem y2] at this
          · have ex : ((hs.filter fun h => f.isPrefixOf h).map fun h => D.str (tx [h.getD f.length 0])) = (fitL hs f).map fun c => D.str (tx [c]) := by
              unfold fitL
              rw [List.map_map]
              rfl
            rw [ex]
            refine ⟨by omega, i + f.length, rfl, fitL hs f, .inr rfl, hl, ?_⟩
            cases e : tak t (i + f.length) (fitL hs f) with
            | error j =>
              obtain ⟨rfl, h⟩ := tak_er e
              rw [headP_er ok hf hg z fun c ec => ?_] at hR
              · exact hR
              · rw [seen_at] at ec
                split at ec
                · rename_i y
                  exact h c ec y
                · cases ec
            | ok c =>
              obtain ⟨e1, h4, hc⟩ := tak_ok e
              have e2 : (seen t i)[f.length]? = some c := by rw [seen_at, if_pos h4]; exact e1
              obtain ⟨g, hgm, eg⟩ := List.mem_map.mp hc
              obtain ⟨hg1, hg2⟩ := List.mem_filter.mp hgm
              have hg2 := List.isPrefixOf_iff_prefix.mp hg2
              have y2 := pre_lt hg2 hg1 z
              have eg2 : g[f.length]? = some c := by
                rw [List.getD, List.getElem?_eq_getElem y2] at eg
                rw [List.getElem?_eq_getElem y2]
                exact congrArg some eg
              have := ok.len g hg1
              rw [w_exR_ok]
              refine ⟨by omega, m - 1, by omega, f ++ [c], pre_snoc hf e2, ⟨g, hg1, pre_snoc hg2 eg2⟩, ?_, rfl⟩
              rw [List.length_append, List.length_singleton]
              omega
        · rw [headP_ok ok z hf] at hR
          exact hR
    refine ⟨fun z => ?_, fun z => ?_⟩
    · rw [if_pos (by omega)] at hR
      exact go _ _ (.inl ⟨rfl, rfl⟩) hd7_ok hR
    · rw [if_neg (by omega)] at hR
      rw [use_eq]
      exact go _ _ (.inr ⟨rfl, rfl⟩) use_ok hR
def FIG : Cs := [48, 49, 50, 51, 52, 53, 54, 55, 56, 57]
def LET : Cs := [97, 98, 99, 100, 101, 102, 103, 104, 105, 106, 107, 108, 109, 110, 111, 112, 113, 114, 115, 116, 117, 118, 119, 120, 121, 122]
def CNT : Cs := [109, 110, 49, 50, 51, 52, 53, 54, 55, 56, 57]
theorem fig_eq : ("0123456789" : Str) = tx FIG := by decide +kernel
theorem let_eq : ("abcdefghijklmnopqrstuvwxyz" : Str) = tx LET := by decide +kernel
theorem m_eq : ("m" : Str) = tx [109] := by decide +kernel
theorem n_eq : ("n" : Str) = tx [110] := by decide +kernel
def countP (t : Cs) (i : Nat) : Except Nat (D × Nat) := match tak t i CNT with
  | .error j => .error j
  | .ok c => if c = 109 ∨ c = 110 then .ok (.str (tx [c]), i + 1) else .ok (.int (NumText.digitsVal (runL t i FIG 30)), i + (runL t i FIG 30).length)
theorem runL_mem {t ws : Cs} {i m : Nat} : ∀ c ∈ runL t i ws m, c ∈ ws := fun c h => of_decide_eq_true (List.all_eq_true.mp List.all_takeWhile c h)
theorem runL_len {t ws : Cs} {i m : Nat} : (runL t i ws m).length ≤ m := by
  refine Nat.le_trans (List.takeWhile_prefix _).length_le ?_
  rw [List.length_take]
  omega
theorem int_digits {l : Cs} (h : ∀ c ∈ l, c ∈ FIG) (h1 : l ≠ []) (h2 : l.length ≤ 600) : PySem.intText? (tx l) = some ((NumText.digitsVal l : Nat) : Int) :=
  intText_digits (x := tx l) (fun c hc => by
    have := h c hc
    simp only [FIG, List.mem_cons, List.not_mem_nil, or_false] at this
    omega) h1 (Nat.le_trans h2 (by decide))
def dgN7 : Array Lean.Name := dgN6 ++ #[`F_head_at_is]
local macro_rules | `(tactic| walk_at "dg") => do let xs ← dgN7.mapM fun n => `(Lean.Parser.Tactic.simpLemma| $(Lean.mkIdent n):term); `(tactic| simp only [$xs,*, List.getElem?_cons_zero, List.getElem?_cons_succ])
def F_count_at (CF : Addr) : Spec
  | [.str s, .int a], R, Rx => ∃ (t : Cs) (i : Nat), s = tx t ∧ a = i ∧ t.length ≤ 1000000 ∧ exR (countP t i) (fun p => R (.tup [p.1, .int (p.2 : Nat)])) (fun i => Rx (eIF CF i))
  | _, _, _ => False
theorem F_count_at_is {CF : Addr} {s : Str} {a : Int} {R : D → Prop} {Rx : Er → Prop} : F_count_at CF [.str s, .int a] R Rx = (∃ (t : Cs) (i : Nat), s = tx t ∧ a = i ∧ t.length ≤ 1000000 ∧ exR (countP t i) (fun p => R (.tup [p.1, .int (p.2 : Nat)])) (fun i => Rx (eIF CF i))) := rfl
theorem F_count_at_of {CF : Addr} {ds : List D} {R : D → Prop} {Rx : Er → Prop} (z : F_count_at CF ds R Rx) : ∃ (s : Str) (a : Int), ds = [.str s, .int a] ∧ (∃ (t : Cs) (i : Nat), s = tx t ∧ a = i ∧ t.length ≤ 1000000 ∧ exR (countP t i) (fun p => R (.tup [p.1, .int (p.2 : Nat)])) (fun i => Rx (eIF CF i))) := by
  unfold F_count_at at z
  split at z
  · exact ⟨_, _, rfl, z⟩
  · exact z.elim
def b_count_at (Dx : Df K mg "count_at" s_count_at) : Binds K Dx.fd ["text", "at"] [] := Dx.F.bindsN fun _ _ _ _ _ _ us hl => match us, hl with | [_, _], _ => rfl
def n_count_at : List Str := ["text", "at", "figures"]
theorem sc_count_at : FnScope n_count_at ["text", "at"] (defScope s_count_at) := ⟨rfl, rfl, rfl, by decide +kernel, rfl, by decide +kernel, by decide +kernel⟩
theorem ok_count_at (T : Tx mg) (X_InvalidForm : Xe K mg P.main.file "InvalidForm" s_InvalidForm___init__) (D_count_at : Df K mg "count_at" s_count_at) (D_taken : Df K mg "taken" s_taken) (D_run_at : Df K mg "run_at" s_run_at) (hsup : mg "super" = none) (htop : (P.main.scope.names.lookup ("super" : Str)).isSome = false) (U_COUNTS : Gt K mg "COUNTS" ["m", "n"]) : FnOk P w K mg base (L2.CX P w) 5 D_count_at.f D_count_at.fd ["text", "at"] (spD (F_count_at X_InvalidForm.C)) := by
  have G_taken := ok_taken (P := P) (w := w) (base := base) T X_InvalidForm D_taken hsup htop
  have G_run_at := ok_run_at (P := P) (w := w) (base := base) T X_InvalidForm D_run_at D_taken hsup htop
  refine fn_d D_count_at.F sc_count_at (fun ds R Rx hs0 => ?_) (fun cdv A outer s H E hr => have hu := hr.units
    (ds_cons (s_if (dt_cmp (c_inG U_COUNTS.at_) (d_call G_taken (hr.mono (by decide)) D_taken.g D_taken.F.kp (b_taken D_taken) .nil dfR_nil pass_d (da_cons (d_var 0) (da_cons (d_var 1) (da_cons (d_ofF (f_lst (da_cons d_str (da_cons d_str (da_starS rfl (d_slice (d_gstr T.c_FIGURES) (do_some d_int) do_none) da_nil))))) da_nil)))) (d_gadr U_COUNTS.m) rfl) (ds_one (s_ret (d_tup (da_cons (d_ix (d_var 0) (d_var 1)) (da_cons (d_add (d_var 1) d_int) da_nil))))) ds_nil)
    (ds_cons (s_set (i := 2) sc_count_at.nd (d_call G_run_at (hr.mono (by decide)) D_run_at.g D_run_at.F.kp (b_run_at D_run_at) .nil dfR_nil pass_d (da_cons (d_var 0) (da_cons (d_var 1) (da_cons (d_gstr T.c_FIGURES) (da_cons (d_gint T.c_MOST_FIGURES) da_nil))))))
    (ds_one (s_ret (d_tup (da_cons (d_callT b_intS T.m_int PyProof.Rows.boot_int (da_cons (d_var 2) da_nil)) (da_cons (d_add (d_var 1) (d_callB b_len T.m_len boot_len (da_cons (d_var 2) da_nil))) da_nil))))))) ) fun ds R Rx hs0 => ?_
  · obtain ⟨_, _, rfl, _⟩ := F_count_at_of hs0
    rfl
  · obtain ⟨s, a, rfl, hs⟩ := F_count_at_of hs0
    clear hs0
    simp only [n_count_at]
    walk_at "dg"
    obtain ⟨t, i, rfl, rfl, hl, hR⟩ := hs
    walk_at "dg"
    rw [fig_eq, m_eq, n_eq, show (some (1 : Int)) = some ((1 : Nat) : Int) from rfl, tx_cut_from, w_tx_signs]
    have eC : D.str (tx [109]) :: D.str (tx [110]) :: ((FIG.drop 1).map fun c => D.str (tx [c])) = CNT.map fun c => D.str (tx [c]) := rfl
    rw [eC]
    refine ⟨by decide, by decide, by decide, i, rfl, CNT, .inr rfl, hl, ?_⟩
    unfold countP at hR
    cases e : tak t i CNT with
    | error j =>
      rw [e] at hR
      exact hR
    | ok c =>
      rw [e] at hR
      obtain ⟨e1, h4, hc⟩ := tak_ok e
      rw [w_exR_ok]
      have hR : exR (if c = 109 ∨ c = 110 then Except.ok (D.str (tx [c]), i + 1) else .ok (.int (NumText.digitsVal (runL t i FIG 30)), i + (runL t i FIG 30).length)) _ _ := hR
      have em : (tx [c] ∈ [tx [109], tx [110]]) ↔ (c = 109 ∨ c = 110) := by
        simp only [List.mem_cons, List.not_mem_nil, or_false, w_tx_eq, List.cons.injEq, and_true]
      rw [em]
      refine ⟨fun z => ?_, fun z => ?_⟩
      · rw [if_pos z] at hR
        exact ⟨by omega, c, atI_nat e1, hR⟩
      · rw [if_neg z] at hR
        have hf : c ∈ FIG := by
          simp only [CNT, FIG, List.mem_cons, List.not_mem_nil, or_false] at hc ⊢
          omega
        refine ⟨i, rfl, FIG, rfl, 30, rfl, by decide, by decide, hl, ?_⟩
        have hn : runL t i FIG 30 ≠ [] := by
          rw [runL_cons e1 h4 hf (by decide)]
          exact List.cons_ne_nil _ _
        have hz := runL_len (t := t) (ws := FIG) (i := i) (m := 30)
        unfold runP
        rw [if_neg hn, w_exR_ok]
        refine ⟨_, int_digits runL_mem hn (by omega), by omega, by omega, ?_⟩
        exact hR
def hThen : Cs := [116, 104, 101, 110]
def hAgain : Cs := [97, 103, 97, 105, 110]
def hBack : Cs := [98, 97, 99, 107]
def hTurned : Cs := [116, 117, 114, 110, 101, 100]
def hDouble : Cs := [100, 111, 117, 98, 108, 101]
def hWith : Cs := [119, 105, 116, 104]
def hUse : Cs := [117, 115, 101]
theorem hd_use : ("use" : Str) = tx hUse := by decide +kernel
theorem hd_again : ("again" : Str) = tx hAgain := by decide +kernel
theorem hd_back : ("back" : Str) = tx hBack := by decide +kernel
theorem hd_turned : ("turned" : Str) = tx hTurned := by decide +kernel
theorem hd_double : ("double" : Str) = tx hDouble := by decide +kernel
theorem hd_with : ("with" : Str) = tx hWith := by decide +kernel
theorem hd_then : ("then" : Str) = tx hThen := by decide +kernel
def digitP (ws : Cs) (t : Cs) (i : Nat) : Except Nat (D × Nat) := match tak t i ws with
  | .error j => .error j
  | .ok c => .ok (.int ((c : Int) - 48), i + 1)
def firstP (n : Nat) (t : Cs) (i : Nat) (h : Cs) : Except Nat (D × Nat) :=
  if h = hUse then (match runP t i LET 8 with
    | .error j => .error j
    | .ok l => .ok (.str (tx l), i + l.length))
  else if h = hAgain then countP t i
  else digitP (FIG.take (if h = hTurned then n else 9)) t i
theorem int_digit {c : Nat} (h : c ∈ FIG) : PySem.intText? (tx [c]) = some ((c : Int) - 48) := by
  rw [int_digits (fun d hd => by rw [List.mem_singleton.mp hd]; exact h) (List.cons_ne_nil _ _) (by rw [List.length_singleton]; decide)]
  simp only [FIG, List.mem_cons, List.not_mem_nil, or_false] at h
  rcases h with rfl | rfl | rfl | rfl | rfl | rfl | rfl | rfl | rfl | rfl <;> rfl
def dgN8 : Array Lean.Name := dgN7 ++ #[`F_count_at_is]
local macro_rules | `(tactic| walk_at "dg") => do let xs ← dgN8.mapM fun n => `(Lean.Parser.Tactic.simpLemma| $(Lean.mkIdent n):term); `(tactic| simp only [$xs,*, List.getElem?_cons_zero, List.getElem?_cons_succ])
def F_first_at (CF : Addr) : Spec
  | [.str s, .int a, .int b, .str x], R, Rx => ∃ (t : Cs) (i n : Nat) (h : Cs), s = tx t ∧ a = i ∧ b = n ∧ x = tx h ∧ h ∈ [hUse, hAgain, hTurned, hDouble] ∧ t.length ≤ 1000000 ∧ n ≤ 10 ∧ exR (firstP n t i h) (fun p => R (.tup [p.1, .int (p.2 : Nat)])) (fun i => Rx (eIF CF i))
  | _, _, _ => False
theorem F_first_at_is {CF : Addr} {s : Str} {a : Int} {b : Int} {x : Str} {R : D → Prop} {Rx : Er → Prop} : F_first_at CF [.str s, .int a, .int b, .str x] R Rx = (∃ (t : Cs) (i n : Nat) (h : Cs), s = tx t ∧ a = i ∧ b = n ∧ x = tx h ∧ h ∈ [hUse, hAgain, hTurned, hDouble] ∧ t.length ≤ 1000000 ∧ n ≤ 10 ∧ exR (firstP n t i h) (fun p => R (.tup [p.1, .int (p.2 : Nat)])) (fun i => Rx (eIF CF i))) := rfl
theorem F_first_at_of {CF : Addr} {ds : List D} {R : D → Prop} {Rx : Er → Prop} (z : F_first_at CF ds R Rx) : ∃ (s : Str) (a : Int) (b : Int) (x : Str), ds = [.str s, .int a, .int b, .str x] ∧ (∃ (t : Cs) (i n : Nat) (h : Cs), s = tx t ∧ a = i ∧ b = n ∧ x = tx h ∧ h ∈ [hUse, hAgain, hTurned, hDouble] ∧ t.length ≤ 1000000 ∧ n ≤ 10 ∧ exR (firstP n t i h) (fun p => R (.tup [p.1, .int (p.2 : Nat)])) (fun i => Rx (eIF CF i))) := by
  unfold F_first_at at z
  split at z
  · exact ⟨_, _, _, _, rfl, z⟩
  · exact z.elim
def b_first_at (Dx : Df K mg "first_at" s_first_at) : Binds K Dx.fd ["text", "at", "hands", "head"] [] := Dx.F.bindsN fun _ _ _ _ _ _ us hl => match us, hl with | [_, _, _, _], _ => rfl
def n_first_at : List Str := ["text", "at", "hands", "head", "name", "most"]
theorem sc_first_at : FnScope n_first_at ["text", "at", "hands", "head"] (defScope s_first_at) := ⟨rfl, rfl, rfl, by decide +kernel, rfl, by decide +kernel, by decide +kernel⟩
theorem ok_first_at (T : Tx mg) (X_InvalidForm : Xe K mg P.main.file "InvalidForm" s_InvalidForm___init__) (D_first_at : Df K mg "first_at" s_first_at) (D_run_at : Df K mg "run_at" s_run_at) (D_taken : Df K mg "taken" s_taken) (D_count_at : Df K mg "count_at" s_count_at) (hsup : mg "super" = none) (htop : (P.main.scope.names.lookup ("super" : Str)).isSome = false) (U_COUNTS : Gt K mg "COUNTS" ["m", "n"]) : FnOk P w K mg base (L2.CX P w) 6 D_first_at.f D_first_at.fd ["text", "at", "hands", "head"] (spD (F_first_at X_InvalidForm.C)) := by
  have G_run_at := ok_run_at (P := P) (w := w) (base := base) T X_InvalidForm D_run_at D_taken hsup htop
  have G_count_at := ok_count_at (P := P) (w := w) (base := base) T X_InvalidForm D_count_at D_taken D_run_at hsup htop U_COUNTS
  have G_taken := ok_taken (P := P) (w := w) (base := base) T X_InvalidForm D_taken hsup htop
  refine fn_d D_first_at.F sc_first_at (fun ds R Rx hs0 => ?_) (fun cdv A outer s H E hr => have hu := hr.units
    (ds_cons (s_if (dt_cmp (c_eq hu) (d_var 3) d_str (nomark _)) (ds_cons (s_set (i := 4) sc_first_at.nd (d_call G_run_at (hr.mono (by decide)) D_run_at.g D_run_at.F.kp (b_run_at D_run_at) .nil dfR_nil pass_d (da_cons (d_var 0) (da_cons (d_var 1) (da_cons (d_gstr T.c_LETTERS) (da_cons (d_gint T.c_MOST_NAME) da_nil))))))
        (ds_one (s_ret (d_tup (da_cons (d_var 4) (da_cons (d_add (d_var 1) (d_callB b_len T.m_len boot_len (da_cons (d_var 4) da_nil))) da_nil)))))) ds_nil)
    (ds_cons (s_if (dt_cmp (c_eq hu) (d_var 3) d_str (nomark _)) (ds_one (s_ret (d_call G_count_at (hr.mono (by decide)) D_count_at.g D_count_at.F.kp (b_count_at D_count_at) .nil dfR_nil pass_d (da_cons (d_var 0) (da_cons (d_var 1) da_nil))))) ds_nil)
    (ds_cons (s_set (i := 5) sc_first_at.nd (d_if (dt_cmp (c_eq hu) (d_var 3) d_str (nomark _)) (d_var 2) (d_add (d_gint T.c_MOST_DOUBLE) d_int)))
    (ds_one (s_ret (d_tup (da_cons (d_callT b_intS T.m_int PyProof.Rows.boot_int (da_cons (d_call G_taken (hr.mono (by decide)) D_taken.g D_taken.F.kp (b_taken D_taken) .nil dfR_nil pass_d (da_cons (d_var 0) (da_cons (d_var 1) (da_cons (d_slice (d_gstr T.c_FIGURES) do_none (do_some (d_var 5))) da_nil)))) da_nil)) (da_cons (d_add (d_var 1) d_int) da_nil)))))))) ) fun ds R Rx hs0 => ?_
  · obtain ⟨_, _, _, _, rfl, _⟩ := F_first_at_of hs0
    rfl
  · obtain ⟨s, a, b, x, rfl, hs⟩ := F_first_at_of hs0
    clear hs0
    simp only [n_first_at]
    walk_at "dg"
    obtain ⟨t, i, n, h, rfl, rfl, rfl, rfl, hh, hl, hn, hR⟩ := hs
    walk_at "dg"
    rw [hd_use, hd_again, hd_turned]
    simp only [w_tx_eq]
    rw [fig_eq, let_eq]
    have dig : ∀ ws : Cs, (∀ c ∈ ws, c ∈ FIG) → exR (digitP ws t i) (fun p => R (.tup [p.1, .int (p.2 : Nat)])) (fun i => Rx (eIF X_InvalidForm.C i)) → ∀ d : D, d = .str (tx ws) → ∃ x : Nat, (i : Int) = x ∧ ∃ y, Wants d y ∧ t.length ≤ 1000000 ∧ exR (tak t x y) (fun c => ∃ n, PySem.intText? (tx [c]) = some n ∧ R (.tup [.int n, .int ((i : Int) + 1)])) (fun i => Rx (eIF X_InvalidForm.C i)) := by
      rintro ws hw hR d rfl
      refine ⟨i, rfl, ws, .inl rfl, hl, ?_⟩
      unfold digitP at hR
      cases e : tak t i ws with
      | error j =>
        rw [e] at hR
        exact hR
      | ok c =>
        rw [e] at hR
        obtain ⟨e1, h4, hc⟩ := tak_ok e
        exact ⟨_, int_digit (hw c hc), hR⟩
    have htk : ∀ k, ∀ c ∈ FIG.take k, c ∈ FIG := fun k c hc => List.mem_of_mem_take hc
    unfold firstP at hR
    refine ⟨fun z => ?_, fun z => ⟨fun y => ?_, fun y => ⟨fun x => ⟨by decide, ?_⟩, fun x => ⟨by decide, ?_⟩⟩⟩⟩
    · rw [if_pos z] at hR
      refine ⟨i, rfl, LET, rfl, 8, rfl, by decide, by decide, hl, ?_⟩
      have hz := runL_len (t := t) (ws := LET) (i := i) (m := 8)
      unfold runP at hR ⊢
      split
      · rename_i q
        rw [if_pos q] at hR
        exact hR
      · rename_i q
        rw [if_neg q] at hR
        exact ⟨by omega, hR⟩
    · rw [if_neg z, if_pos y] at hR
      exact ⟨i, rfl, hl, hR⟩
    · rw [if_neg z, if_neg y, if_pos x] at hR
      exact dig _ (htk n) hR _ (by rw [tx_cut_to])
    · rw [if_neg z, if_neg y, if_neg x] at hR
      exact dig _ (htk 9) hR _ (by rw [show (some (9 : Int)) = some ((9 : Nat) : Int) from rfl, tx_cut_to])
def bnd {α β : Type} (r : Except Nat α) (f : α → Except Nat β) : Except Nat β := match r with
  | .ok v => f v
  | .error i => .error i
theorem exR_bnd {α β : Type} {r : Except Nat α} {f : α → Except Nat β} {N : β → Prop} {X : Nat → Prop} : exR (bnd r f) N X = exR r (fun v => exR (f v) N X) X := by
  cases r <;> rfl
abbrev Sub := Nat → Except Nat (D × Nat)
def onePart (sub : Sub) (t : Cs) (i : Nat) : Except Nat (D × Nat) := bnd (tak t i [44]) fun _ => sub (i + 1)
def mayP (sub : Sub) (t : Cs) : Nat → Nat → List D → Except Nat (List D × Nat)
  | 0, i, acc => .ok (acc, i)
  | m + 1, i, acc => if t[i]? = some 41 then .ok (acc, i) else bnd (onePart sub t i) fun p => mayP sub t m p.2 (acc ++ [p.1])
def needP (sub : Sub) (t : Cs) (may : Nat) : Nat → Nat → List D → Except Nat (List D × Nat)
  | 0, i, acc => mayP sub t may i acc
  | n + 1, i, acc => bnd (onePart sub t i) fun p => needP sub t may n p.2 (acc ++ [p.1])
def needOf (h : Cs) : Nat := if h = hUse ∨ h = hBack then 0 else 1
def mayOf (h : Cs) : Nat := if h = hThen then 4 else 0
def hdItem (h : Cs) : Bool := decide (h ∈ [hUse, hAgain, hTurned, hDouble])
def wordD (l : Cs) : D := .tup [.str "word", .tup (l.map fun (c : Nat) => D.int ((c : Int) - 48))]
def atDigit (n : Nat) (t : Cs) (i : Nat) : Bool := match t[i]? with
  | some c => decide (i < 400 ∧ c ∈ FIG.take n)
  | none => false
def formS (hs : List Cs) (sub : Sub) (n : Nat) (t : Cs) (i : Nat) : Except Nat (D × Nat) :=
  if atDigit n t i = true then .ok (wordD (runL t i (FIG.take n) 60), i + (runL t i (FIG.take n) 60).length)
  else bnd (headP hs t i) fun hp => bnd (if hdItem hp.dropLast = true then firstP n t (i + hp.length) hp.dropLast else sub (i + hp.length)) fun p =>
    bnd (needP sub t (mayOf hp.dropLast) (needOf hp.dropLast) p.2 []) fun q => bnd (tak t q.2 [41]) fun _ => .ok (.tup (.str (tx hp.dropLast) :: p.1 :: q.1), q.2 + 1)
def formP (n : Nat) (t : Cs) : Nat → Sub
  | 0 => formS [cUse] (fun _ => .error 0) n t
  | m + 1 => formS HD7 (formP n t m) n t
def subOf (n : Nat) (t : Cs) : Nat → Sub
  | 0 => fun _ => .error 0
  | m + 1 => formP n t m
def hsOf (k : Nat) : List Cs := if 8 - k < 8 then HD7 else [cUse]
theorem formP_eq {n : Nat} {t : Cs} {k i : Nat} : formP n t k i = formS (hsOf k) (subOf n t k) n t i := by
  cases k with
  | zero => rfl
  | succ k =>
    unfold hsOf
    rw [if_pos (by omega)]
    rfl
theorem headP_mem {hs : List Cs} {t : Cs} {i : Nat} {h : Cs} (e : headP hs t i = .ok h) : h ∈ hs := by
  unfold headP at e
  split at e
  · rename_i g eg
    cases e
    exact List.mem_of_find?_eq_some eg
  · cases e
theorem hs_hd7 {k : Nat} {h : Cs} (e : h ∈ hsOf k) : h ∈ HD7 ∧ (k = 0 → h = cUse) := by
  unfold hsOf at e
  split at e
  · exact ⟨e, fun z => by omega⟩
  · rw [List.mem_singleton] at e
    subst e
    exact ⟨by decide, fun _ => rfl⟩
theorem atDigit_t {n : Nat} {t : Cs} {i : Nat} (h : atDigit n t i = true) : ∃ c, t[i]? = some c ∧ i < 400 ∧ c ∈ FIG.take n := by
  unfold atDigit at h
  split at h
  · rename_i c e
    exact ⟨c, e, of_decide_eq_true h⟩
  · cases h
theorem atDigit_f {n : Nat} {t : Cs} {i : Nat} (h : atDigit n t i = false) {c : Nat} (e : t[i]? = some c) (h4 : i < 400) : c ∉ FIG.take n := fun z => by
  unfold atDigit at h
  rw [e] at h
  exact absurd ⟨h4, z⟩ (of_decide_eq_false h)
theorem in_T {s : Str} {ss : List Str} {R : D → Prop} : opIn (.str s) (.tup (ss.map D.str)) R = R (.bl (decide (s ∈ ss))) := by
  have e := w_inG_adr (a := 0) (ss := ss) (s := s) (R := R)
  rw [← e]
  have h1 : (ss.map D.str).all D.sc = true := List.all_eq_true.mpr fun x hx => by
    obtain ⟨y, _, rfl⟩ := List.mem_map.mp hx
    rfl
  have h2 : (ss.map D.str).map D.v = ss.map V.str := by
    rw [List.map_map]
    rfl
  show (true = true ∧ (ss.map D.str).all D.sc = true ∧ R (.bl (inV (V.str s) ((ss.map D.str).map D.v)))) = ((0 : Addr) = 0 ∧ true = true ∧ R (.bl (inV (V.str s) (ss.map V.str))))
  rw [h1, h2]
  simp only [true_and]
theorem least_is {h : Cs} : (dctGet ([("use" : Str), "back", "then"].map Sum.inr) [.int 2, .int 2, .int 3] (Sum.inr (tx h))).getD (.int 3) = .int ((2 + needOf h : Nat) : Int) := by
  unfold dctGet needOf
  rw [hd_use, hd_back, hd_then]
  simp only [List.map_cons, List.map_nil, List.zip_cons_cons, List.zip_nil_left, List.find?_cons, List.find?_nil, Sum.inr.injEq, w_tx_eq]
  by_cases h1 : h = hUse
  · subst h1
    rfl
  · by_cases h2 : h = hBack
    · subst h2
      rfl
    · by_cases h3 : h = hThen
      · subst h3
        rfl
      · rw [decide_eq_false (Ne.symm h1), decide_eq_false (Ne.symm h2), decide_eq_false (Ne.symm h3), if_neg (fun z => z.elim h1 h2)]
        rfl
theorem tx_cut_last {l : Cs} (h : l ≠ []) : cutS (tx l) none (some (-1)) = tx l.dropLast := by
  have hl : 0 < l.length := List.length_pos_iff.mpr h
  show tx _ = tx _
  congr 1
  show ((l.drop 0).take ((if (-1 : Int) < 0 then ((-1 : Int) + (l.length : Int)).toNat else min (-1 : Int).toNat l.length) - 0)) = _
  rw [if_pos (by decide), List.drop_zero, List.dropLast_eq_take, show ((-1 : Int) + (l.length : Int)).toNat - 0 = l.length - 1 by omega]
def dgN9 : Array Lean.Name := dgN8 ++ #[`F_first_at_is]
local macro_rules | `(tactic| walk_at "dg") => do let xs ← dgN9.mapM fun n => `(Lean.Parser.Tactic.simpLemma| $(Lean.mkIdent n):term); `(tactic| simp only [$xs,*, List.getElem?_cons_zero, List.getElem?_cons_succ])
def F_form_at (m : Nat) (CF : Addr) : Spec
  | [.str s, .int a, .int b, .int e], R, Rx => ∃ (k : Nat) (t : Cs) (i n : Nat), m = k + 1 ∧ s = tx t ∧ a = i ∧ b = n ∧ 2 ≤ n ∧ n ≤ 4 ∧ k ≤ 7 ∧ e = 8 - (k : Int) ∧ t.length ≤ 1000000 ∧ exR (formP n t k i) (fun p => R (.tup [p.1, .int (p.2 : Nat)])) (fun i => Rx (eIF CF i))
  | _, _, _ => False
theorem F_form_at_is {m : Nat} {CF : Addr} {s : Str} {a : Int} {b : Int} {e : Int} {R : D → Prop} {Rx : Er → Prop} : F_form_at m CF [.str s, .int a, .int b, .int e] R Rx = (∃ (k : Nat) (t : Cs) (i n : Nat), m = k + 1 ∧ s = tx t ∧ a = i ∧ b = n ∧ 2 ≤ n ∧ n ≤ 4 ∧ k ≤ 7 ∧ e = 8 - (k : Int) ∧ t.length ≤ 1000000 ∧ exR (formP n t k i) (fun p => R (.tup [p.1, .int (p.2 : Nat)])) (fun i => Rx (eIF CF i))) := rfl
theorem F_form_at_of {m : Nat} {CF : Addr} {ds : List D} {R : D → Prop} {Rx : Er → Prop} (z : F_form_at m CF ds R Rx) : ∃ (s : Str) (a : Int) (b : Int) (e : Int), ds = [.str s, .int a, .int b, .int e] ∧ (∃ (k : Nat) (t : Cs) (i n : Nat), m = k + 1 ∧ s = tx t ∧ a = i ∧ b = n ∧ 2 ≤ n ∧ n ≤ 4 ∧ k ≤ 7 ∧ e = 8 - (k : Int) ∧ t.length ≤ 1000000 ∧ exR (formP n t k i) (fun p => R (.tup [p.1, .int (p.2 : Nat)])) (fun i => Rx (eIF CF i))) := by
  unfold F_form_at at z
  split at z
  · exact ⟨_, _, _, _, rfl, z⟩
  · exact z.elim
theorem z0_form_at {CF : Addr} {ds : List D} {R : D → Prop} {Rx : Er → Prop} : ¬ F_form_at 0 CF ds R Rx := fun h => by
  obtain ⟨s, a, b, e, _, k, t, i, n, z, _⟩ := F_form_at_of h
  cases z
def b_form_at (Dx : Df K mg "form_at" s_form_at) : Binds K Dx.fd ["text", "at", "hands", "depth"] [] := Dx.F.bindsN fun _ _ _ _ _ _ us hl => match us, hl with | [_, _, _, _], _ => rfl
def n_form_at : List Str := ["text", "at", "hands", "depth", "digits", "word", "head", "item", "tree", "least", "most", "sign"]
theorem sc_form_at : FnScope n_form_at ["text", "at", "hands", "depth"] (defScope s_form_at) := ⟨rfl, rfl, rfl, by decide +kernel, rfl, by decide +kernel, by decide +kernel⟩
def dgN10 : Array Lean.Name := dgN9 ++ #[`F_form_at_is]
local macro_rules | `(tactic| walk_at "dg") => do let xs ← dgN10.mapM fun n => `(Lean.Parser.Tactic.simpLemma| $(Lean.mkIdent n):term); `(tactic| simp only [$xs,*, List.getElem?_cons_zero, List.getElem?_cons_succ])
theorem ok_form_at (T : Tx mg) (X_InvalidForm : Xe K mg P.main.file "InvalidForm" s_InvalidForm___init__) (D_form_at : Df K mg "form_at" s_form_at) (D_run_at : Df K mg "run_at" s_run_at) (D_taken : Df K mg "taken" s_taken) (D_head_at : Df K mg "head_at" s_head_at) (D_first_at : Df K mg "first_at" s_first_at) (D_count_at : Df K mg "count_at" s_count_at) (hsup : mg "super" = none) (htop : (P.main.scope.names.lookup ("super" : Str)).isSome = false) (U_HEADS : Gt K mg "HEADS" ["then(", "again(", "back(", "turned(", "double(", "with(", "use("]) (U_COUNTS : Gt K mg "COUNTS" ["m", "n"]) : ∀ m : Nat, FnOk P w K mg base (L2.CX P w) (6 + m) D_form_at.f D_form_at.fd ["text", "at", "hands", "depth"] (spD (F_form_at m X_InvalidForm.C))
| 0 => FnOk.mono (fn_false D_form_at fun ds R Rx h => z0_form_at h) (by omega)
| m + 1 => by
  have G_form_at := ok_form_at T X_InvalidForm D_form_at D_run_at D_taken D_head_at D_first_at D_count_at hsup htop U_HEADS U_COUNTS m
  have G_run_at := ok_run_at (P := P) (w := w) (base := base) T X_InvalidForm D_run_at D_taken hsup htop
  have G_head_at := ok_head_at (P := P) (w := w) (base := base) T X_InvalidForm D_head_at D_taken hsup htop U_HEADS
  have G_first_at := ok_first_at (P := P) (w := w) (base := base) T X_InvalidForm D_first_at D_run_at D_taken D_count_at hsup htop U_COUNTS
  have G_taken := ok_taken (P := P) (w := w) (base := base) T X_InvalidForm D_taken hsup htop
  refine fn_d D_form_at.F sc_form_at (fun ds R Rx hs0 => ?_) (fun cdv A outer s H E hr => have hu := hr.units
    (ds_cons (s_set (i := 4) sc_form_at.nd (d_slice (d_gstr T.c_FIGURES) do_none (do_some (d_var 2))))
    (ds_cons (s_if (dw_pt (dw_and (dt_cmp c_lt (d_var 1) (d_callB (b_min2 rfl) T.m_min PyProof.Rows.boot_min (da_cons (d_callB b_len T.m_len boot_len (da_cons (d_var 0) da_nil)) (da_cons (d_gint T.c_LONGEST) da_nil))) (nomark _)) (dw_and1 (dt_cmp c_in (d_ix (d_var 0) (d_var 1)) (d_var 4) rfl)))) (ds_cons (s_set (i := 5) sc_form_at.nd (d_call G_run_at (hr.mono (by first | exact Nat.le_refl _ | exact Nat.le_succ _ | exact Nat.le_trans (show _ ≤ 6 by decide) (Nat.le_add_right 6 _))) D_run_at.g D_run_at.F.kp (b_run_at D_run_at) .nil dfR_nil pass_d (da_cons (d_var 0) (da_cons (d_var 1) (da_cons (d_var 4) (da_cons (d_gint T.c_MOST_WORD) da_nil))))))
        (ds_one (s_ret (d_tup (da_cons (d_tup (da_cons d_str (da_cons (d_callT b_tuple T.m_tuple PyProof.Rows.boot_tuple (da_cons (d_ofF (f_lc rfl sc_form_at.nd (i_str (d_var 5)) (blkOk_by (own := [("sign", 11)]) (N := n_form_at) (sc := defScope s_form_at) (by decide +kernel)) (by decide) (fun _ _ _ _ _ => (g_name (i := 11) sc_form_at.nd)) (fun _ _ _ _ _ => dts_nil) (fun _ _ _ _ _ => (d_callT b_intS T.m_int PyProof.Rows.boot_int (da_cons (d_var 11) da_nil))))) da_nil)) da_nil))) (da_cons (d_add (d_var 1) (d_callB b_len T.m_len boot_len (da_cons (d_var 5) da_nil))) da_nil)))))) ds_nil)
    (ds_cons (s_set (i := 6) sc_form_at.nd (d_call G_head_at (hr.mono (by first | exact Nat.le_refl _ | exact Nat.le_succ _ | exact Nat.le_trans (show _ ≤ 6 by decide) (Nat.le_add_right 6 _))) D_head_at.g D_head_at.F.kp (b_head_at D_head_at) .nil dfR_nil pass_d (da_cons (d_var 0) (da_cons (d_var 1) (da_cons (d_var 3) da_nil)))))
    (ds_cons (s_set (i := 1) sc_form_at.nd (d_add (d_var 1) (d_callB b_len T.m_len boot_len (da_cons (d_var 6) da_nil))))
    (ds_cons (s_set (i := 6) sc_form_at.nd (d_slice (d_var 6) do_none (do_some (d_neg d_int))))
    (ds_cons (s_if (dt_cmp c_in (d_var 6) (d_tup (da_cons d_str (da_cons d_str (da_cons d_str (da_cons d_str da_nil))))) rfl) (ds_one (s_asg (d_call G_first_at (hr.mono (by first | exact Nat.le_refl _ | exact Nat.le_succ _ | exact Nat.le_trans (show _ ≤ 6 by decide) (Nat.le_add_right 6 _))) D_first_at.g D_first_at.F.kp (b_first_at D_first_at) .nil dfR_nil pass_d (da_cons (d_var 0) (da_cons (d_var 1) (da_cons (d_var 2) (da_cons (d_var 6) da_nil))))) (g_tup (n := 2) rfl (gs_cons (g_name (i := 7) sc_form_at.nd) (gs_cons (g_name (i := 1) sc_form_at.nd) gs_nil))))) (ds_one (s_asg (d_call G_form_at (hr.mono (by first | exact Nat.le_refl _ | exact Nat.le_succ _ | exact Nat.le_trans (show _ ≤ 6 by decide) (Nat.le_add_right 6 _))) D_form_at.g D_form_at.F.kp (b_form_at D_form_at) .nil dfR_nil pass_d (da_cons (d_var 0) (da_cons (d_var 1) (da_cons (d_var 2) (da_cons (d_add (d_var 3) d_int) da_nil))))) (g_tup (n := 2) rfl (gs_cons (g_name (i := 7) sc_form_at.nd) (gs_cons (g_name (i := 1) sc_form_at.nd) gs_nil))))))
    (ds_cons (s_set (i := 8) sc_form_at.nd (d_tup (da_cons (d_var 6) (da_cons (d_var 7) da_nil))))
    (ds_cons (s_set (i := 9) sc_form_at.nd (d_get2 (Nat.lt_of_le_of_lt (Nat.add_le_add_left (show 1 ≤ 64 by decide) _) hu) (d_disp (dps_cons d_int (dps_cons d_int (dps_cons d_int dps_nil)))) (d_var 6) d_int))
    (ds_cons (s_set (i := 10) sc_form_at.nd (d_if (dt_cmp (c_eq hu) (d_var 6) d_str (nomark _)) (d_add (d_gint T.c_MOST_THEN) d_int) (d_var 9)))
    (ds_cons (s_while (passes_of rfl) (dw_pt (dw_or (dt_cmp c_lt (d_callB b_len T.m_len boot_len (da_cons (d_var 8) da_nil)) (d_var 9) (nomark _)) (dw_or1 (dw_pt (dw_and (dt_cmp c_lt (d_callB b_len T.m_len boot_len (da_cons (d_var 8) da_nil)) (d_var 10) (nomark _)) (dw_and1 (dt_cmp (c_ne hu) (d_slice (d_var 0) (do_some (d_var 1)) (do_some (d_add (d_var 1) d_int))) d_str (nomark _))))))))
      (ds_cons (s_expr (d_call G_taken (hr.mono (by first | exact Nat.le_refl _ | exact Nat.le_succ _ | exact Nat.le_trans (show _ ≤ 6 by decide) (Nat.le_add_right 6 _))) D_taken.g D_taken.F.kp (b_taken D_taken) .nil dfR_nil pass_d (da_cons (d_var 0) (da_cons (d_var 1) (da_cons d_str da_nil)))))
        (ds_cons (s_asg (d_call G_form_at (hr.mono (by first | exact Nat.le_refl _ | exact Nat.le_succ _ | exact Nat.le_trans (show _ ≤ 6 by decide) (Nat.le_add_right 6 _))) D_form_at.g D_form_at.F.kp (b_form_at D_form_at) .nil dfR_nil pass_d (da_cons (d_var 0) (da_cons (d_add (d_var 1) d_int) (da_cons (d_var 2) (da_cons (d_add (d_var 3) d_int) da_nil))))) (g_tup (n := 2) rfl (gs_cons (g_name (i := 7) sc_form_at.nd) (gs_cons (g_name (i := 1) sc_form_at.nd) gs_nil))))
        (ds_one (s_set (i := 8) sc_form_at.nd (d_tup (da_star (d_var 8) (da_cons (d_var 7) da_nil))))))))
    (ds_cons (s_expr (d_call G_taken (hr.mono (by first | exact Nat.le_refl _ | exact Nat.le_succ _ | exact Nat.le_trans (show _ ≤ 6 by decide) (Nat.le_add_right 6 _))) D_taken.g D_taken.F.kp (b_taken D_taken) .nil dfR_nil pass_d (da_cons (d_var 0) (da_cons (d_var 1) (da_cons d_str da_nil)))))
    (ds_one (s_ret (d_tup (da_cons (d_var 8) (da_cons (d_add (d_var 1) d_int) da_nil)))))))))))))))) ) fun ds R Rx hs0 => ?_
  · obtain ⟨_, _, _, _, rfl, _⟩ := F_form_at_of hs0
    rfl
  · obtain ⟨s, a, b, e, rfl, hs⟩ := F_form_at_of hs0
    clear hs0
    simp only [n_form_at]
    obtain ⟨k, t, i, n, hk, rfl, rfl, rfl, hn, hn2, hk7, rfl, hl, hR⟩ := hs
    obtain rfl : k = m := (Nat.succ.inj hk).symm
    refine seq_step fun N1 hN1 => ?_
    walk_at "dg"
    rw [fig_eq, tx_cut_to]
    refine ⟨by decide, hN1 _ ?_⟩
    clear hN1 N1
    refine seq_step fun N1 hN1 => ?_
    refine if_step fun U W hU hW => ?_
    walk_at "dg"
    rw [formP_eq] at hR
    unfold formS at hR
    have lt4 : ∀ {q : Decidable ((400 : Int) < (t.length : Int))}, ((i : Int) < @ite Int ((400 : Int) < (t.length : Int)) q 400 (t.length : Int)) ↔ (i < 400 ∧ i < t.length) := by
      intro q
      split <;> omega
    cases ed : atDigit n t i with
    | true =>
      rw [if_pos ed] at hR
      obtain ⟨c, e1, h4, hc⟩ := atDigit_t ed
      have hi := (List.getElem?_eq_some_iff.mp e1).1
      refine ⟨by omega, fun _ => ⟨by omega, c, atI_nat e1, ?_⟩, fun z => absurd (lt4.mpr ⟨h4, hi⟩) z⟩
      rw [wants_in (.inl rfl)]
      walk_at "dg"
      refine ⟨fun _ => hU _ _ ?_, fun z => absurd hc z⟩
      walk_at "dg"
      have hn0 : runL t i (FIG.take n) 60 ≠ [] := by
        rw [runL_cons e1 h4 hc (by decide)]
        exact List.cons_ne_nil _ _
      have hz := runL_len (t := t) (ws := FIG.take n) (i := i) (m := 60)
      refine ⟨i, rfl, 60, rfl, by decide, by decide, hl, ?_⟩
      unfold runP
      rw [if_neg hn0, w_exR_ok]
      refine LcP.of (as := runL t i (FIG.take n) 60) (g := fun c => .str (tx [c])) (fun (c : Nat) => .int ((c : Int) - 48)) (by rw [sizeLine_eq]; omega) (fun j c N ej hN => ?_) ⟨by omega, hR⟩
      walk_at "dg"
      exact ⟨_, int_digit (List.mem_of_mem_take (runL_mem c (List.mem_of_getElem? ej))), hN⟩
    | false =>
      rw [if_neg (by rw [ed]; decide)] at hR
      refine (fun (w : W _ _) => ⟨by omega, fun z => ?wa, fun _ => w⟩) (hW _ _ ?wb)
      case wa =>
        obtain ⟨h4, hi⟩ := lt4.mp z
        have e1 : t[i]? = some t[i] := List.getElem?_eq_getElem hi
        refine ⟨by omega, _, atI_nat e1, ?_⟩
        rw [wants_in (.inl rfl)]
        walk_at "dg"
        exact ⟨fun y => absurd y (atDigit_f ed e1 h4), fun _ => w⟩
      case wb =>
        clear hU hW U W
        walk_at "dg"
        refine hN1 _ ?_
        clear hN1 N1
        refine seq_step fun N1 hN1 => ?_
        walk_at "dg"
        rw [exR_bnd] at hR
        refine ⟨i, rfl, 8 - k, by omega, hl, exR_mono hR fun hp ep hR => ?_⟩
        obtain ⟨hm, hk0⟩ := hs_hd7 (headP_mem ep)
        refine hN1 _ ?_
        clear hN1 N1
        refine seq_step fun N1 hN1 => ?_
        walk_at "dg"
        have hpl : hp.length ≤ 7 := hd7_ok.len hp hm
        refine ⟨by omega, hN1 _ ?_⟩
        clear hN1 N1
        refine seq_step fun N1 hN1 => ?_
        walk_at "dg"
        rw [tx_cut_last (fun z => by subst z; exact absurd hm (by decide))]
        refine ⟨by omega, hN1 _ ?_⟩
        clear hN1 N1
        refine seq_step fun N1 hN1 => ?_
        refine if_step fun U W hU hW => ?_
        walk_at "dg"
        rw [exR_bnd] at hR
        have item : ∀ it : D × Nat, exR (bnd (needP (subOf n t k) t (mayOf hp.dropLast) (needOf hp.dropLast) it.2 []) fun q => bnd (tak t q.2 [41]) fun _ => .ok (D.tup (.str (tx hp.dropLast) :: it.1 :: q.1), q.2 + 1)) (fun p => R (D.tup [p.1, .int (p.2 : Nat)])) (fun i => Rx (eIF X_InvalidForm.C i)) →
            N1 [some (.val (.str (tx t))), some (.val (.int (it.2 : Int))), some (.val (.int (n : Int))), some (.val (.int (8 - (k : Int)))), some (.val (.str (tx (FIG.take n)))), none, some (.val (.str (tx hp.dropLast))), some (.val it.1), none, none, none, none] := by
          clear hU hW hR
          intro it hR
          refine hN1 _ ?_
          clear hN1 N1
          refine seq_step fun N1 hN1 => ?_
          walk_at "dg"
          refine hN1 _ ?_
          clear hN1 N1
          refine seq_step fun N1 hN1 => ?_
          walk_at "dg"
          have li := least_is (h := hp.dropLast)
          simp only [List.map_cons, List.map_nil] at li
          first | rw [li] | trace_state
          refine hN1 _ ?_
          clear hN1 N1
          refine seq_step fun N1 hN1 => ?_
          walk_at "dg"
          have most : N1 [some (.val (.str (tx t))), some (.val (.int (it.2 : Int))), some (.val (.int (n : Int))), some (.val (.int (8 - (k : Int)))), some (.val (.str (tx (FIG.take n)))), none, some (.val (.str (tx hp.dropLast))), some (.val it.1), some (.val (.tup [.str (tx hp.dropLast), it.1])), some (.val (.int ((2 + needOf hp.dropLast : Nat) : Int))), some (.val (.int ((2 + needOf hp.dropLast + mayOf hp.dropLast : Nat) : Int))), none] := by
            have kpos : 0 < needOf hp.dropLast + mayOf hp.dropLast → 0 < k := fun z => by
              rcases Nat.eq_zero_or_pos k with y | y
              · rw [hk0 y] at z
                exact absurd z (by decide)
              · exact y
            have nb : needOf hp.dropLast ≤ 1 := by unfold needOf; split <;> omega
            have mb : mayOf hp.dropLast ≤ 4 := by unfold mayOf; split <;> omega
            clear li ep hm hk0 hpl
            generalize needOf hp.dropLast = nd0 at *
            generalize mayOf hp.dropLast = my0 at *
            generalize hp.dropLast = H at *
            refine hN1 _ ?_
            clear hN1 N1
            refine seq_step fun N1 hN1 => ?_
            walk_at "dg"
            refine ⟨fun m env => ∃ (nd my j : Nat) (acc : List D) (e7 : D), m = nd + my ∧ acc.length + nd + my = nd0 + my0 ∧ nd + acc.length = max nd0 acc.length ∧ (nd = 0 ∨ my = my0) ∧ exR (bnd (needP (subOf n t k) t my nd j acc) fun q => bnd (tak t q.2 [41]) fun _ => .ok (D.tup (.str (tx H) :: it.1 :: q.1), q.2 + 1)) (fun p => R (D.tup [p.1, .int (p.2 : Nat)])) (fun i => Rx (eIF X_InvalidForm.C i)) ∧
              env = [some (.val (.str (tx t))), some (.val (.int (j : Int))), some (.val (.int (n : Int))), some (.val (.int (8 - (k : Int)))), some (.val (.str (tx (FIG.take n)))), none, some (.val (.str (tx H))), some (.val e7), some (.val (.tup (.str (tx H) :: it.1 :: acc))), some (.val (.int ((2 + nd0 : Nat) : Int))), some (.val (.int ((2 + nd0 + my0 : Nat) : Int))), none],
              ⟨nd0 + my0, nd0, my0, it.2, [], it.1, rfl, by simp, by simp, .inr rfl, hR, rfl⟩, ?_⟩
            rintro m env ⟨nd, my, j, acc, e7, rfl, h1, h2, h3, hR, rfl⟩
            walk_at "dg"
            refine ⟨fun z1 => ?_, fun z1 => ⟨fun z2 => ⟨by omega, fun z3 => ?_, fun z3 => ?_⟩, fun z2 => ?_⟩⟩
            · obtain ⟨nd2, rfl⟩ : ∃ q, nd = q + 1 := ⟨nd - 1, by omega⟩
              obtain ⟨my2, e2⟩ : ∃ q, q = my := ⟨my, rfl⟩
              have hR2 : exR (bnd (bnd (onePart (subOf n t k) t j) fun p => needP (subOf n t k) t my nd2 p.2 (acc ++ [p.1])) _) _ _ := hR
              subst e2
              obtain ⟨k', rfl⟩ : ∃ k', k = k' + 1 := ⟨k - 1, by have := kpos (by omega); omega⟩
              refine ⟨j, rfl, [44], .inl (congrArg D.str (show ("," : Str) = tx [44] by decide +kernel)), hl, ?_⟩
              unfold onePart at hR2
              rw [exR_bnd, exR_bnd, exR_bnd] at hR2
              refine exR_mono hR2 fun c _ hR3 => ⟨k', rfl, j + 1, rfl, n, rfl, hn, hn2, by omega, by omega, hl, exR_mono hR3 fun p _ hR4 => ?_⟩
              refine ⟨by omega, nd2 + my2, by omega, nd2, my2, rfl, p.2, acc ++ [p.1], by rw [List.length_append, List.length_singleton]; omega, by rw [List.length_append, List.length_singleton]; omega, by omega, ?_, rfl, rfl⟩
              rw [exR_bnd]
              exact hR4
            · obtain rfl : nd = 0 := by omega
              obtain ⟨my2, rfl⟩ : ∃ q, my = q + 1 := ⟨my - 1, by omega⟩
              have z4 : ¬ t[j]? = some 41 := fun y => z3 (by
                rw [show ((j : Int) + 1) = ((j + 1 : Nat) : Int) from rfl, tx_cut_nn, drop_at y, show j + 1 - j = 1 by omega, show (")" : Str) = tx [41] by decide +kernel]
                rfl)
              have hR2 : exR (bnd (if t[j]? = some 41 then .ok (acc, j) else bnd (onePart (subOf n t k) t j) fun p => needP (subOf n t k) t my2 0 p.2 (acc ++ [p.1])) _) _ _ := hR
              rw [if_neg z4] at hR2
              obtain ⟨k', rfl⟩ : ∃ k', k = k' + 1 := ⟨k - 1, by have := kpos (by omega); omega⟩
              refine ⟨j, rfl, [44], .inl (congrArg D.str (show ("," : Str) = tx [44] by decide +kernel)), hl, ?_⟩
              unfold onePart at hR2
              rw [exR_bnd, exR_bnd, exR_bnd] at hR2
              refine exR_mono hR2 fun c _ hR3 => ⟨k', rfl, j + 1, rfl, n, rfl, hn, hn2, by omega, by omega, hl, exR_mono hR3 fun p _ hR4 => ?_⟩
              refine ⟨by omega, my2, by omega, 0, my2, by omega, p.2, acc ++ [p.1], by rw [List.length_append, List.length_singleton]; omega, by rw [List.length_append, List.length_singleton]; omega, by omega, ?_, rfl, rfl⟩
              rw [exR_bnd]
              exact hR4
            · obtain rfl : nd = 0 := by omega
              obtain ⟨my2, rfl⟩ : ∃ q, my = q + 1 := ⟨my - 1, by omega⟩
              have z4 : t[j]? = some 41 := by
                rw [show ((j : Int) + 1) = ((j + 1 : Nat) : Int) from rfl, tx_cut_nn, show j + 1 - j = 1 by omega, show (")" : Str) = tx [41] by decide +kernel, w_tx_eq] at z3
                have := congrArg (fun l : Cs => l[0]?) z3
                simpa using this
              have hR2 : exR (bnd (if t[j]? = some 41 then .ok (acc, j) else bnd (onePart (subOf n t k) t j) fun p => needP (subOf n t k) t my2 0 p.2 (acc ++ [p.1])) _) _ _ := hR
              rw [if_pos z4] at hR2
              refine hN1 _ ?_
              clear hN1 N1
              walk_at "dg"
              refine ⟨j, rfl, [41], .inl (congrArg D.str (show (")" : Str) = tx [41] by decide +kernel)), hl, ?_⟩
              have hR2 : exR (bnd (tak t j [41]) fun _ => .ok (D.tup (.str (tx H) :: it.1 :: acc), j + 1)) (fun p => R (D.tup [p.1, .int (p.2 : Nat)])) (fun i => Rx (eIF X_InvalidForm.C i)) := hR2
              rw [exR_bnd] at hR2
              exact exR_mono hR2 fun c _ h => h
            · obtain rfl : nd = 0 := by omega
              obtain rfl : my = 0 := by omega
              have hR2 := hR
              refine hN1 _ ?_
              clear hN1 N1
              walk_at "dg"
              refine ⟨j, rfl, [41], .inl (congrArg D.str (show (")" : Str) = tx [41] by decide +kernel)), hl, ?_⟩
              have hR2 : exR (bnd (tak t j [41]) fun _ => .ok (D.tup (.str (tx H) :: it.1 :: acc), j + 1)) (fun p => R (D.tup [p.1, .int (p.2 : Nat)])) (fun i => Rx (eIF X_InvalidForm.C i)) := hR2
              rw [exR_bnd] at hR2
              exact exR_mono hR2 fun c _ h => h
          refine ⟨fun z => ?_, fun z => ?_⟩
          · rw [hd_then, w_tx_eq] at z
            rw [z] at most ⊢
            exact most
          · rw [hd_then, w_tx_eq] at z
            have : mayOf hp.dropLast = 0 := if_neg z
            rw [this] at most
            exact most
        clear hN1
        have e4 : D.tup [.str "use", .str "again", .str "turned", .str "double"] = .tup (([("use" : Str), "again", "turned", "double"]).map D.str) := rfl
        rw [e4, in_T, hd_use, hd_again, hd_turned, hd_double]
        have e5 : decide (tx hp.dropLast ∈ [tx hUse, tx hAgain, tx hTurned, tx hDouble]) = hdItem hp.dropLast := by
          unfold hdItem
          simp only [List.mem_cons, List.not_mem_nil, or_false, w_tx_eq]
        rw [e5]
        walk_at "dg"
        refine ⟨fun ei => hU _ _ ?_, fun ei => hW _ _ ?_⟩
        · rw [if_pos ei] at hR
          walk_at "dg"
          refine ⟨i + hp.length, rfl, n, rfl, of_decide_eq_true ei, hl, by omega, exR_mono hR fun p _ h => item p h⟩
        · rw [if_neg (by rw [ei]; decide)] at hR
          walk_at "dg"
          cases k with
          | zero =>
            rw [hk0 rfl] at ei
            exact absurd ei (by decide)
          | succ k =>
            refine ⟨k, rfl, i + hp.length, rfl, n, rfl, hn, hn2, by omega, by omega, hl, exR_mono hR fun p _ h => item p h⟩
local macro_rules | `(tactic| walk_at "rk") => `(tactic| first
  | assumption
  | (refine rok_app ?_ ?_ ?_ <;> first | walk_at "rk" | (simp only [List.length_append, List.length_reverse, List.length_map, List.length_replicate]; omega))
  | (refine rok_rev ?_; walk_at "rk")
  | (refine rok_map ?_ _ (fun t => fmod_in (by assumption)); walk_at "rk")
  | omega
  | decide
  | (refine log_lt (k := 80) ?_ (by decide) (by decide); omega))
local macro_rules | `(tactic| walk_at "fin") => `(tactic| ((repeat' (first | (with_reducible assumption) | (with_reducible refine And.intro ?_ ?_) | (with_reducible intro _))); all_goals first | (with_reducible assumption) | omega | contradiction | trivial))
local macro_rules | `(tactic| walk_at "cj") => `(tactic| repeat' (refine And.intro (by walk_at "rk") ?_))
def readP (n : Nat) (t : Cs) : Except Nat D := bnd (formP n t 7 0) fun p => if p.2 < t.length then .error p.2 else .ok p.1
def isS : D → Bool
  | .str _ => true
  | _ => false
def formX (CF : Addr) (n : Nat) (v : D) (R : Cs → D → Prop) (Rx : Er → Prop) : Prop := v.dat = true ∧ (isS v = false → Rx (eIF CF 0)) ∧ ∀ t, v = .str (tx t) → t.length ≤ 1000000 ∧ exR (readP n t) (R t) (fun i => Rx (eIF CF i))
local macro_rules | `(tactic| walk_at "dg") => do let xs ← dgN10.mapM fun n => `(Lean.Parser.Tactic.simpLemma| $(Lean.mkIdent n):term); `(tactic| simp only [$xs,*, List.getElem?_cons_zero, List.getElem?_cons_succ])
def F_tree_in (CF : Addr) : Spec
  | [.int b, v], R, Rx => ∃ n : Nat, b = n ∧ 2 ≤ n ∧ n ≤ 4 ∧ formX CF n v (fun _ => R) Rx
  | _, _, _ => False
theorem F_tree_in_is {CF : Addr} {b : Int} {v : D} {R : D → Prop} {Rx : Er → Prop} : F_tree_in CF [.int b, v] R Rx = (∃ n : Nat, b = n ∧ 2 ≤ n ∧ n ≤ 4 ∧ formX CF n v (fun _ => R) Rx) := rfl
theorem F_tree_in_of {CF : Addr} {ds : List D} {R : D → Prop} {Rx : Er → Prop} (z : F_tree_in CF ds R Rx) : ∃ (b : Int) (v : D), ds = [.int b, v] ∧ (∃ n : Nat, b = n ∧ 2 ≤ n ∧ n ≤ 4 ∧ formX CF n v (fun _ => R) Rx) := by
  unfold F_tree_in at z
  split at z
  · exact ⟨_, _, rfl, z⟩
  · exact z.elim
def b_tree_in (Dx : Df K mg "tree_in" s_tree_in) : Binds K Dx.fd ["hands", "text"] [] := Dx.F.bindsN fun _ _ _ _ _ _ us hl => match us, hl with | [_, _], _ => rfl
def n_tree_in : List Str := ["hands", "text", "tree", "at"]
theorem sc_tree_in : FnScope n_tree_in ["hands", "text"] (defScope s_tree_in) := ⟨rfl, rfl, rfl, by decide +kernel, rfl, by decide +kernel, by decide +kernel⟩
theorem ok_tree_in (T : Tx mg) (X_InvalidForm : Xe K mg P.main.file "InvalidForm" s_InvalidForm___init__) (D_tree_in : Df K mg "tree_in" s_tree_in) (D_form_at : Df K mg "form_at" s_form_at) (D_run_at : Df K mg "run_at" s_run_at) (D_taken : Df K mg "taken" s_taken) (D_head_at : Df K mg "head_at" s_head_at) (D_first_at : Df K mg "first_at" s_first_at) (D_count_at : Df K mg "count_at" s_count_at) (hsup : mg "super" = none) (htop : (P.main.scope.names.lookup ("super" : Str)).isSome = false) (U_HEADS : Gt K mg "HEADS" ["then(", "again(", "back(", "turned(", "double(", "with(", "use("]) (U_COUNTS : Gt K mg "COUNTS" ["m", "n"]) : FnOk P w K mg base (L2.CX P w) 15 D_tree_in.f D_tree_in.fd ["hands", "text"] (spD (F_tree_in X_InvalidForm.C)) := by
  have G_form_at := ok_form_at (P := P) (w := w) (base := base) T X_InvalidForm D_form_at D_run_at D_taken D_head_at D_first_at D_count_at hsup htop U_HEADS U_COUNTS 8
  have GX_InvalidForm := ok_InvalidForm___init__ (P := P) (w := w) (base := base) X_InvalidForm hsup htop
  refine fn_d D_tree_in.F sc_tree_in (fun ds R Rx hs0 => ?_) (fun cdv A outer s H E hr => have hu := hr.units
    (ds_cons (s_if (dt_not (dt_tru (d_callB b_isi T.m_isinstance PyProof.Rows.boot_isinstance (da_cons (d_var 1) (da_cons (d_bty T.m_str PyProof.Rows.boot_str) da_nil))))) (ds_one (s_raise X_InvalidForm.e.ox X_InvalidForm.e.iC X_InvalidForm.e.tI (by decide) (by decide) GX_InvalidForm (hr.mono (by decide)) (b_InvalidForm___init__ X_InvalidForm) passL X_InvalidForm.g rfl (takes_of rfl rfl rfl rfl) (da_cons d_int da_nil))) ds_nil)
    (ds_cons (s_asg (d_call G_form_at (hr.mono (by decide)) D_form_at.g D_form_at.F.kp (b_form_at D_form_at) .nil dfR_nil pass_d (da_cons (d_var 1) (da_cons d_int (da_cons (d_var 0) (da_cons d_int da_nil))))) (g_tup (n := 2) rfl (gs_cons (g_name (i := 2) sc_tree_in.nd) (gs_cons (g_name (i := 3) sc_tree_in.nd) gs_nil))))
    (ds_cons (s_if (dt_cmp c_lt (d_var 3) (d_callB b_len T.m_len boot_len (da_cons (d_var 1) da_nil)) (nomark _)) (ds_one (s_raise X_InvalidForm.e.ox X_InvalidForm.e.iC X_InvalidForm.e.tI (by decide) (by decide) GX_InvalidForm (hr.mono (by decide)) (b_InvalidForm___init__ X_InvalidForm) passL X_InvalidForm.g rfl (takes_of rfl rfl rfl rfl) (da_cons (d_var 3) da_nil))) ds_nil)
    (ds_one (s_ret (d_var 2)))))) ) fun ds R Rx hs0 => ?_
  · obtain ⟨_, _, rfl, _⟩ := F_tree_in_of hs0
    rfl
  · obtain ⟨b, v, rfl, hs⟩ := F_tree_in_of hs0
    clear hs0
    simp only [n_tree_in]
    walk_at "dg"
    obtain ⟨n, rfl, hn, hn2, hv, h0, h1⟩ := hs
    cases v <;> try exact (Bool.false_ne_true hv).elim
    all_goals walk_at "dg"
    all_goals try exact h0 rfl
    rename_i s
    obtain ⟨hl, hR⟩ := h1 s.cps.toList rfl
    have es : s = tx s.cps.toList := rfl
    generalize s.cps.toList = t at es hl hR
    subst es
    unfold readP at hR
    rw [exR_bnd] at hR
    walk_at "dg"
    refine ⟨7, rfl, 0, rfl, n, rfl, hn, hn2, Nat.le_refl _, rfl, hl, exR_mono hR fun p _ h => ?_⟩
    refine ⟨by omega, fun z => ?_, fun z => ?_⟩
    · rw [if_pos (by omega)] at h
      exact h
    · rw [if_neg (by omega)] at h
      exact h
abbrev ksForm : List Str := ["tree", "hands", "own_text"]
abbrev formO (C : Addr) (d : D) (n : Int) (s : Str) : D := .obj C ksForm [d, .int n, .str s]
theorem fld_f_tree {x y z : D} : fld ksForm [x, y, z] "tree" = some x := rfl
theorem fld_f_hands {x y z : D} : fld ksForm [x, y, z] "hands" = some y := rfl
theorem fld_f_text {x y z : D} : fld ksForm [x, y, z] "own_text" = some z := rfl
theorem fld_fm_need_like {x y z : D} : fld ksForm [x, y, z] "need_like" = none := rfl
theorem fld_fm_names {x y z : D} : fld ksForm [x, y, z] "names" = none := rfl
theorem fld_fm_counts {x y z : D} : fld ksForm [x, y, z] "counts" = none := rfl
theorem fld_fm_parts {x y z : D} : fld ksForm [x, y, z] "parts" = none := rfl
def asForm (C : Addr) (R : D → Int → Str → Prop) : D → Prop
  | .obj C' ks [d, .int h, .str s] => C' = C ∧ ks = ksForm ∧ R d h s
  | _ => False
theorem w_asForm {C : Addr} {R : D → Int → Str → Prop} {d : D} {h : Int} {s : Str} : asForm C R (.obj C ksForm [d, .int h, .str s]) = R d h s := by
  simp [asForm]
theorem asForm_of {C : Addr} {R : D → Int → Str → Prop} {x : D} (h : asForm C R x) : ∃ d n s, x = formO C d n s ∧ R d n s := by
  unfold asForm at h
  split at h
  · obtain ⟨rfl, rfl, h⟩ := h
    exact ⟨_, _, _, rfl, h⟩
  · exact h.elim
/-- making a form -/
def mkForm (C CF : Addr) (n : Nat) (t : Cs) (R : D → Prop) (Rx : Er → Prop) : Prop := t.length ≤ 1000000 ∧ exR (readP n t) (fun d => R (formO C d n (tx t))) (fun i => Rx (eIF CF i))
def dgN11 : Array Lean.Name := dgN10 ++ #[`F_tree_in_is, `fld_f_tree, `fld_f_hands, `fld_f_text, `fld_fm_need_like, `fld_fm_names, `fld_fm_counts, `fld_fm_parts, `w_asForm]
local macro_rules | `(tactic| walk_at "dg") => do let xs ← dgN11.mapM fun n => `(Lean.Parser.Tactic.simpLemma| $(Lean.mkIdent n):term); `(tactic| simp only [$xs,*, List.getElem?_cons_zero, List.getElem?_cons_succ])
def F_Form___init__ (C CH CF : Addr) : Spec
  | [hv, v], R, Rx => hv.dat = true ∧ v.dat = true ∧ (isNum hv 2 4 = false → Rx (eIH CH hv)) ∧ ∀ n : Nat, hv = .int n → 2 ≤ n → n ≤ 4 → (isS v = false → Rx (eIF CF 0)) ∧ ∀ t, v = .str (tx t) → mkForm C CF n t R Rx
  | _, _, _ => False
theorem F_Form___init___is {C CH CF : Addr} {hv : D} {v : D} {R : D → Prop} {Rx : Er → Prop} : F_Form___init__ C CH CF [hv, v] R Rx = (hv.dat = true ∧ v.dat = true ∧ (isNum hv 2 4 = false → Rx (eIH CH hv)) ∧ ∀ n : Nat, hv = .int n → 2 ≤ n → n ≤ 4 → (isS v = false → Rx (eIF CF 0)) ∧ ∀ t, v = .str (tx t) → mkForm C CF n t R Rx) := rfl
theorem F_Form___init___of {C CH CF : Addr} {ds : List D} {R : D → Prop} {Rx : Er → Prop} (z : F_Form___init__ C CH CF ds R Rx) : ∃ (hv : D) (v : D), ds = [hv, v] ∧ (hv.dat = true ∧ v.dat = true ∧ (isNum hv 2 4 = false → Rx (eIH CH hv)) ∧ ∀ n : Nat, hv = .int n → 2 ≤ n → n ≤ 4 → (isS v = false → Rx (eIF CF 0)) ∧ ∀ t, v = .str (tx t) → mkForm C CF n t R Rx) := by
  unfold F_Form___init__ at z
  split at z
  · exact ⟨_, _, rfl, z⟩
  · exact z.elim
def b_Form___init__ (Dx : Dm K "__init__" "Form.__init__" s_Form___init__) : Binds K Dx.fd ["self", "hands", "text"] [] := Dx.F.bindsN fun _ _ _ _ _ _ us hl => match us, hl with | [_, _, _], _ => rfl
def n_Form___init__ : List Str := ["self", "hands", "text"]
theorem sc_Form___init__ : FnScope n_Form___init__ ["self", "hands", "text"] (defScope s_Form___init__) := ⟨rfl, rfl, rfl, by decide +kernel, rfl, by decide +kernel, by decide +kernel⟩
theorem ok_Form___init__ (T : Tx mg) (K_Form : Kx_Form K mg) (X_InvalidHands : Xe K mg P.main.file "InvalidHands" s_InvalidHands___init__) (X_InvalidForm : Xe K mg P.main.file "InvalidForm" s_InvalidForm___init__) (D_check_hands : Df K mg "check_hands" s_check_hands) (D_is_number : Df K mg "is_number" s_is_number) (D_tree_in : Df K mg "tree_in" s_tree_in) (D_form_at : Df K mg "form_at" s_form_at) (D_run_at : Df K mg "run_at" s_run_at) (D_taken : Df K mg "taken" s_taken) (D_head_at : Df K mg "head_at" s_head_at) (D_first_at : Df K mg "first_at" s_first_at) (D_count_at : Df K mg "count_at" s_count_at) (hsup : mg "super" = none) (htop : (P.main.scope.names.lookup ("super" : Str)).isSome = false) (U_HEADS : Gt K mg "HEADS" ["then(", "again(", "back(", "turned(", "double(", "with(", "use("]) (U_COUNTS : Gt K mg "COUNTS" ["m", "n"]) : FnOk P w K mg base (L2.CX P w) 16 K_Form.D___init__.f K_Form.D___init__.fd ["self", "hands", "text"] (spI K_Form.C (F_Form___init__ K_Form.C X_InvalidHands.C X_InvalidForm.C)) := by
  have G_check_hands := ok_check_hands (P := P) (w := w) (base := base) T D_check_hands D_is_number X_InvalidHands hsup htop
  have G_tree_in := ok_tree_in (P := P) (w := w) (base := base) T X_InvalidForm D_tree_in D_form_at D_run_at D_taken D_head_at D_first_at D_count_at hsup htop U_HEADS U_COUNTS
  refine fn_i K_Form.D___init__.F sc_Form___init__ (fun ds R Rx hs0 => ?_) (fun p dx cdv A outer s H E hr => have hu := hr.units
    (is_st (s_expr (d_call G_check_hands (hr.mono (by decide)) D_check_hands.g D_check_hands.F.kp (b_check_hands D_check_hands) .nil dfR_nil pass_d (da_cons (d_var 1) da_nil)))
    (is_set (d_call G_tree_in (hr.mono (by decide)) D_tree_in.g D_tree_in.F.kp (b_tree_in D_tree_in) .nil dfR_nil pass_d (da_cons (d_var 1) (da_cons (d_var 2) da_nil)))
    (is_set (d_var 1)
    (is_set (d_var 2)
    is_nil K_Form.cls K_Form.n_own_text) K_Form.cls K_Form.n_hands) K_Form.cls K_Form.n_tree)) ) fun p ds R Rx hs0 => ?_
  · obtain ⟨_, _, rfl, _⟩ := F_Form___init___of hs0
    rfl
  · obtain ⟨hv, v, rfl, hs⟩ := F_Form___init___of hs0
    clear hs0
    simp only [n_Form___init__, jSt, jSet, jNil]
    walk_at "dg"
    obtain ⟨h1, h2, hH, hx⟩ := hs
    refine ⟨h1, fun z => ?_, hH⟩
    obtain ⟨n, rfl, n0, n1⟩ := isNum_of z
    obtain ⟨m, rfl⟩ : ∃ m : Nat, n = (m : Int) := ⟨n.toNat, by omega⟩
    obtain ⟨h3, h4⟩ := hx m rfl (by omega) (by omega)
    walk_at "dg"
    refine ⟨m, rfl, by omega, by omega, h2, h3, fun t e => ?_⟩
    subst e
    obtain ⟨h5, h6⟩ := h4 t rfl
    refine ⟨h5, exR_mono h6 fun d _ h => ?_⟩
    walk_at "dg"
    exact ⟨by decide, by decide, by decide, h⟩
/-- .. a right one -/
theorem mkForm_good {C CF : Addr} {n : Nat} {t : Cs} {d : D} {R : D → Prop} {Rx : Er → Prop} (hl : t.length ≤ 1000000) (h : readP n t = .ok d) (hR : R (formO C d n (tx t))) : mkForm C CF n t R Rx := by
  unfold mkForm
  rw [h]
  exact ⟨hl, hR⟩
def formI (C CH CF : Addr) (hv v : D) (R : D → Prop) (Rx : Er → Prop) : Prop := hv.dat = true ∧ v.dat = true ∧ (isNum hv 2 4 = false → Rx (eIH CH hv)) ∧ ∀ n : Nat, hv = .int n → 2 ≤ n → n ≤ 4 → (isS v = false → Rx (eIF CF 0)) ∧ ∀ t, v = .str (tx t) → mkForm C CF n t R Rx
theorem formI_mk {C CH CF : Addr} {n : Nat} {t : Cs} {R : D → Prop} {Rx : Er → Prop} (h2 : 2 ≤ n) (h4 : n ≤ 4) (h : mkForm C CF n t R Rx) : formI C CH CF (.int (n : Int)) (.str (tx t)) R Rx := by
  refine ⟨rfl, rfl, fun z => ?_, fun m e _ _ => ⟨fun z => (by cases z), fun u e2 => ?_⟩⟩
  · have : isNum (.int (n : Int)) 2 4 = true := by simp [isNum]; omega
    rw [this] at z
    cases z
  · have e : (n : Int) = (m : Int) := by injection e
    have : m = n := by omega
    subst this
    have e2 : tx t = tx u := by injection e2
    have := tx_inj e2
    subst this
    exact h
theorem formI_t {C CH CF : Addr} {n : Nat} {t : Cs} {R : D → Prop} {Rx : Er → Prop} (h2 : 2 ≤ n) (h4 : n ≤ 4) (h : mkForm C CF n t R Rx) :
    (isNum (.int (n : Int)) 2 4 = false → Rx (eIH CH (.int (n : Int)))) ∧ ∀ k : Nat, (n : Int) = k → 2 ≤ k → k ≤ 4 → (isS (.str (tx t)) = false → Rx (eIF CF 0)) ∧ ∀ u, t = u → mkForm C CF k u R Rx := by
  obtain ⟨_, _, a, b⟩ := formI_mk (CH := CH) h2 h4 h
  refine ⟨a, fun k e k2 k4 => ?_⟩
  obtain ⟨c, d⟩ := b k (by rw [e]) k2 k4
  exact ⟨c, fun u e => d u (by rw [e])⟩
theorem tx_emp : (Str.empty : Str) = tx [] := rfl
theorem tx_back : ("back(" : Str) = tx cBack := by decide +kernel
theorem tx_comma : ("," : Str) = tx [44] := by decide +kernel
theorem tx_close : (")" : Str) = tx [41] := by decide +kernel
def dgN12 : Array Lean.Name := dgN11 ++ #[`F_Form___init___is]
local macro_rules | `(tactic| walk_at "dg") => do let xs ← dgN12.mapM fun n => `(Lean.Parser.Tactic.simpLemma| $(Lean.mkIdent n):term); `(tactic| simp only [$xs,*, List.getElem?_cons_zero, List.getElem?_cons_succ])
def F_Form_text (C : Addr) : Spec
  | [x], R, Rx => asForm C (fun _ _ s => R (.str s)) x
  | _, _, _ => False
theorem F_Form_text_is {C : Addr} {x : D} {R : D → Prop} {Rx : Er → Prop} : F_Form_text C [x] R Rx = (asForm C (fun _ _ s => R (.str s)) x) := rfl
theorem F_Form_text_of {C : Addr} {ds : List D} {R : D → Prop} {Rx : Er → Prop} (z : F_Form_text C ds R Rx) : ∃ (x : D), ds = [x] ∧ (asForm C (fun _ _ s => R (.str s)) x) := by
  unfold F_Form_text at z
  split at z
  · exact ⟨_, rfl, z⟩
  · exact z.elim
def b_Form_text (Dx : Dm K "text" "Form.text" s_Form_text) : Binds K Dx.fd ["self"] [] := Dx.F.bindsN fun _ _ _ _ _ _ us hl => match us, hl with | [_], _ => rfl
def n_Form_text : List Str := ["self"]
theorem sc_Form_text : FnScope n_Form_text ["self"] (defScope s_Form_text) := ⟨rfl, rfl, rfl, by decide +kernel, rfl, by decide +kernel, by decide +kernel⟩
theorem ok_Form_text (T : Tx mg) (K_Form : Kx_Form K mg) : FnOk P w K mg base (L2.CX P w) 1 K_Form.D_text.f K_Form.D_text.fd ["self"] (spD (F_Form_text K_Form.C)) := by

  refine fn_d K_Form.D_text.F sc_Form_text (fun ds R Rx hs0 => ?_) (fun cdv A outer s H E hr => have hu := hr.units
    (ds_one (s_ret (d_fld (d_var 0) K_Form.cls K_Form.n_own_text))) ) fun ds R Rx hs0 => ?_
  · obtain ⟨_, rfl, _⟩ := F_Form_text_of hs0
    rfl
  · obtain ⟨x, rfl, hs⟩ := F_Form_text_of hs0
    clear hs0
    simp only [n_Form_text]
    walk_at "dg"
    obtain ⟨d, n, s, rfl, hR⟩ := asForm_of hs
    walk_at "dg"
    exact hR
theorem num_tx {i : Int} (h : 0 ≤ i) : (Str.ofString (toString i)) = tx (TL.numL i.toNat) := by
  have e := TL.tl_num i.toNat
  have e2 : ((i.toNat : Nat) : Int) = i := Int.toNat_of_nonneg h
  rw [e2] at e
  rw [← e]
  rfl
inductive FT where
  | word (l : Cs)
  | node (h : Cs) (it : Option D) (n : Nat) (f : Nat → FT)
def itTx : D → Cs
  | .str s => s.cps.toList
  | .int i => TL.numL i.toNat
  | _ => []
def glue : List Cs → Cs
  | [] => []
  | x :: xs => x ++ (xs.map fun y => 44 :: y).flatten
def FT.d : FT → D
  | .word l => wordD l
  | .node h it n f => .tup (.str (tx h) :: (it.toList ++ (List.range n).map fun i => (f i).d))
def FT.text : FT → Cs
  | .word l => l
  | .node h it n f => h ++ 40 :: (glue ((it.map itTx).toList ++ (List.range n).map fun i => (f i).text) ++ [41])
/-- what stands behind a head -/
def ItmOk (n : Nat) (h : Cs) (it : Option D) (m : Nat) : Prop :=
  (h = hUse ∧ m = 0 ∧ ∃ l : Cs, it = some (.str (tx l)) ∧ l ≠ [] ∧ l.length ≤ 8 ∧ ∀ c ∈ l, c ∈ LET) ∨
  (h = hAgain ∧ m = 1 ∧ ∃ x, it = some x ∧ (x = .str (tx [109]) ∨ x = .str (tx [110]) ∨ ∃ i : Int, x = .int i ∧ 1 ≤ i ∧ i ≤ 999999999999999999999999999999)) ∨
  (h = hTurned ∧ m = 1 ∧ ∃ i : Nat, it = some (.int (i : Int)) ∧ i < n) ∨ (h = hDouble ∧ m = 1 ∧ ∃ i : Nat, it = some (.int (i : Int)) ∧ i < 9) ∨
  (h = hBack ∧ m = 1 ∧ it = none) ∨ (h = hWith ∧ m = 2 ∧ it = none) ∨ (h = hThen ∧ 2 ≤ m ∧ m ≤ 6 ∧ it = none)
/-- a form of so many hands, at most k + 1 deep -/
def Vf (n : Nat) : Nat → FT → Prop
  | _, .word l => l ≠ [] ∧ l.length ≤ 60 ∧ ∀ c ∈ l, c ∈ FIG.take n
  | k, .node h it m f => ItmOk n h it m ∧ (k = 0 → m = 0) ∧ ∀ i, i < m → Vf n (k - 1) (f i)
theorem runL_is {t l rest ws : Cs} {i m : Nat} (e : t.drop i = l ++ rest) (hw : ∀ c ∈ l, c ∈ ws) (hm : l.length ≤ m) (h4 : i + l.length ≤ 400) (hr : ∀ c, rest.head? = some c → c ∉ ws ∨ l.length = m) : runL t i ws m = l := by
  unfold runL
  rw [e]
  obtain ⟨q, hq⟩ : ∃ q, min (i + m) 400 - i = l.length + q := ⟨min (i + m) 400 - i - l.length, by omega⟩
  have e2 : (l ++ rest).take (l.length + q) = l ++ rest.take q := by
    simp [List.take_append]
    exact List.take_of_length_le (by omega)
  rw [hq, e2, List.takeWhile_append_of_pos fun c hc => decide_eq_true (hw c hc)]
  have : (rest.take q).takeWhile (fun c => decide (c ∈ ws)) = [] := by
    cases rest with
    | nil => simp
    | cons c rest =>
      cases q with
      | zero => simp
      | succ q =>
        rw [List.take_succ_cons, List.takeWhile_cons]
        rcases hr c rfl with z | z
        · rw [if_neg (by rw [decide_eq_true_eq]; exact z)]
        · omega
  rw [this, List.append_nil]
theorem tak_is {t rest ws : Cs} {i c : Nat} (e : t.drop i = c :: rest) (hc : c ∈ ws) (h4 : i < 400) : tak t i ws = .ok c := by
  have e2 : t[i]? = some c := by
    have := congrArg (fun l : Cs => l[0]?) e
    simpa using this
  unfold tak
  rw [e2]
  exact if_pos ⟨h4, hc⟩
theorem drop_more {t a b : Cs} {i : Nat} (e : t.drop i = a ++ b) : t.drop (i + a.length) = b := by
  rw [← List.drop_drop, e, List.drop_left]
theorem seen_pre {t a b : Cs} {i : Nat} (e : t.drop i = a ++ b) (h4 : i + a.length ≤ 400) : a <+: seen t i := by
  unfold seen
  rw [e]
  obtain ⟨q, hq⟩ : ∃ q, 400 - i = a.length + q := ⟨400 - i - a.length, by omega⟩
  rw [hq]
  exact ⟨b.take q, by
    simp [List.take_append]
    exact (List.take_of_length_le (by omega)).symm⟩
theorem num_fig {i : Nat} : ∀ c ∈ TL.numL i, c ∈ FIG := fun c hc => by
  have := TL.numL_digits i c hc
  simp only [FIG, List.mem_cons, List.not_mem_nil, or_false]
  omega
theorem num_one {i : Nat} (h : i < 10) : TL.numL i = [48 + i] := TL.numL_lt h
/-- a number does not begin with 0 -/
theorem num_head {i : Nat} (h : 1 ≤ i) : ∃ c l, TL.numL i = c :: l ∧ c ∈ CNT ∧ c ≠ 109 ∧ c ≠ 110 := by
  induction i using Nat.strongRecOn with
  | ind i ih =>
    by_cases h9 : i < 10
    · refine ⟨48 + i, [], num_one h9, ?_, by omega, by omega⟩
      simp only [CNT, List.mem_cons, List.not_mem_nil, or_false]
      omega
    · obtain ⟨c, l, e, h2⟩ := ih (i / 10) (by omega) (by omega)
      exact ⟨c, l ++ [48 + i % 10], by rw [TL.numL_step (by omega), e]; rfl, h2⟩
theorem cnt_num {t rest : Cs} {i : Nat} {x : Int} (h1 : 1 ≤ x) (h2 : x ≤ 999999999999999999999999999999) (e : t.drop i = TL.numL x.toNat ++ rest) (h4 : i + (TL.numL x.toNat).length ≤ 400) (hr : ∀ c, rest.head? = some c → c ∉ FIG) :
    countP t i = .ok (.int x, i + (TL.numL x.toNat).length) := by
  have hz : (TL.numL x.toNat).length ≤ 30 := TL.numL_len (by decide) (by
    have : (10 : Nat) ^ 30 = 1000000000000000000000000000000 := by decide
    omega)
  have hrun := runL_is e num_fig hz h4 fun c hc => .inl (hr c hc)
  obtain ⟨c, l, ec, hc, n1, n2⟩ := num_head (i := x.toNat) (by omega)
  unfold countP
  rw [tak_is (c := c) (rest := l ++ rest) (by rw [e, ec]; rfl) hc (by rw [ec, List.length_cons] at h4; omega)]
  show (if c = 109 ∨ c = 110 then _ else _) = _
  rw [if_neg (by omega), hrun, TL.numL_val]
  congr 3
  omega
theorem cnt_name {t rest : Cs} {i c : Nat} (hc : c = 109 ∨ c = 110) (e : t.drop i = c :: rest) (h4 : i < 400) : countP t i = .ok (.str (tx [c]), i + 1) := by
  unfold countP
  rw [tak_is e (by simp only [CNT, List.mem_cons]; omega) h4]
  exact if_pos hc
/-- reading the first item -/
theorem first_ok {n m i : Nat} {h : Cs} {x : D} {t rest : Cs} (ok : ItmOk n h (some x) m) (hn : n ≤ 4) (e : t.drop i = itTx x ++ rest) (h4 : i + (itTx x).length ≤ 400) (hr : ∀ c, rest.head? = some c → c ∉ FIG ∧ c ∉ LET) : firstP n t i h = .ok (x, i + (itTx x).length) := by
  have figt : ∀ k j : Nat, j < k → k ≤ 10 → 48 + j ∈ FIG.take k := fun k j hj hk => by
    have : k = 0 ∨ k = 1 ∨ k = 2 ∨ k = 3 ∨ k = 4 ∨ k = 5 ∨ k = 6 ∨ k = 7 ∨ k = 8 ∨ k = 9 ∨ k = 10 := by omega
    rcases this with rfl | rfl | rfl | rfl | rfl | rfl | rfl | rfl | rfl | rfl | rfl <;> simp [FIG] <;> omega
  rcases ok with ⟨rfl, _, l, el, l1, l2, l3⟩ | ⟨rfl, _, y, ey, hy⟩ | ⟨rfl, _, j, ej, hj⟩ | ⟨rfl, _, j, ej, hj⟩ | ⟨_, _, z⟩ | ⟨_, _, z⟩ | ⟨_, _, _, z⟩
  · cases el
    have e : t.drop i = l ++ rest := e
    have h4 : i + l.length ≤ 400 := h4
    unfold firstP runP
    rw [if_pos rfl, runL_is e l3 l2 h4 fun c hc => .inl (hr c hc).2, if_neg l1]
    rfl
  · cases ey
    unfold firstP
    rw [if_neg (by decide), if_pos rfl]
    rcases hy with rfl | rfl | ⟨q, rfl, q1, q2⟩
    · exact cnt_name (.inl rfl) e (by have : i + 1 ≤ 400 := h4; omega)
    · exact cnt_name (.inr rfl) e (by have : i + 1 ≤ 400 := h4; omega)
    · exact cnt_num q1 q2 e h4 fun c hc => (hr c hc).1
  · cases ej
    have e0 : itTx (.int (j : Int)) = [48 + j] := by
      show TL.numL (j : Int).toNat = _
      rw [Int.toNat_natCast, num_one (by omega)]
    rw [e0] at e h4 ⊢
    have h4 : i + 1 ≤ 400 := h4
    unfold firstP digitP
    rw [if_neg (by decide), if_neg (by decide), if_pos rfl, tak_is e (figt n j hj (by omega)) (by omega)]
    show Except.ok _ = _
    congr 3
    omega
  · cases ej
    have e0 : itTx (.int (j : Int)) = [48 + j] := by
      show TL.numL (j : Int).toNat = _
      rw [Int.toNat_natCast, num_one (by omega)]
    rw [e0] at e h4 ⊢
    have h4 : i + 1 ≤ 400 := h4
    unfold firstP digitP
    rw [if_neg (by decide), if_neg (by decide), if_neg (by decide), tak_is e (figt 9 j hj (by omega)) (by omega)]
    show Except.ok _ = _
    congr 3
    omega
  all_goals cases z
def partsTx (ps : List FT) : Cs := (ps.map fun p => 44 :: p.text).flatten
/-- a tree is read where its text stands -/
def Reads (sub : Sub) (t : Cs) (p : FT) : Prop := ∀ i rest, t.drop i = p.text ++ rest → i + p.text.length ≤ 400 → (∀ c, rest.head? = some c → c ∉ FIG) → sub i = .ok (p.d, i + p.text.length)
theorem parts_head {ps : List FT} {rest : Cs} : ∀ c, (partsTx ps ++ 41 :: rest).head? = some c → c ∉ FIG ∧ c ∉ LET := fun c hc => by
  cases ps with
  | nil =>
    have hc : some 41 = some c := hc
    cases hc
    decide
  | cons p ps =>
    have hc : some 44 = some c := hc
    cases hc
    decide
theorem one_ok {sub : Sub} {t rest : Cs} {p : FT} {i : Nat} {ps : List FT} (hp : Reads sub t p) (e : t.drop i = partsTx (p :: ps) ++ 41 :: rest) (h4 : i + (partsTx (p :: ps)).length < 400) :
    onePart sub t i = .ok (p.d, i + 1 + p.text.length) ∧ t.drop (i + 1 + p.text.length) = partsTx ps ++ 41 :: rest ∧ i + (partsTx (p :: ps)).length = i + 1 + p.text.length + (partsTx ps).length := by
  have e0 : partsTx (p :: ps) = 44 :: (p.text ++ partsTx ps) := rfl
  have el : (partsTx (p :: ps)).length = 1 + p.text.length + (partsTx ps).length := by
    rw [e0, List.length_cons, List.length_append]
    omega
  have e1 : t.drop i = [44] ++ (p.text ++ (partsTx ps ++ 41 :: rest)) := by
    rw [e, e0]
    simp
  have e2 := drop_more e1
  refine ⟨?_, drop_more e2, by omega⟩
  unfold onePart
  rw [tak_is (c := 44) e1 (by simp) (by omega)]
  exact hp _ _ e2 (by show i + 1 + _ ≤ 400; omega) fun c hc => (parts_head c hc).1
theorem may_ok {sub : Sub} {t rest : Cs} : ∀ (ps : List FT) (m i : Nat) (acc : List D), ps.length ≤ m → t.drop i = partsTx ps ++ 41 :: rest → i + (partsTx ps).length < 400 → (∀ p ∈ ps, Reads sub t p) → mayP sub t m i acc = .ok (acc ++ ps.map FT.d, i + (partsTx ps).length)
  | [], 0, i, acc, _, _, _, _ => by
    show Except.ok (acc, i) = _
    simp [partsTx]
  | [], m + 1, i, acc, _, e, _, _ => by
    have e2 : t[i]? = some 41 := by
      have := congrArg (fun l : Cs => l[0]?) e
      simpa [partsTx] using this
    show (if t[i]? = some 41 then _ else _) = _
    rw [if_pos e2]
    simp [partsTx]
  | p :: ps, 0, i, acc, h, _, _, _ => by simp at h
  | p :: ps, m + 1, i, acc, h, e, h4, hp => by
    have e2 : t[i]? = some 44 := by
      have := congrArg (fun l : Cs => l[0]?) e
      simpa [partsTx] using this
    obtain ⟨a1, a2, a3⟩ := one_ok (hp p List.mem_cons_self) e h4
    show (if t[i]? = some 41 then _ else bnd (onePart sub t i) fun p => mayP sub t m p.2 (acc ++ [p.1])) = _
    rw [if_neg (by rw [e2]; decide), a1]
    show mayP sub t m _ (acc ++ [p.d]) = _
    rw [may_ok ps m _ _ (by simp at h; omega) a2 (by omega) fun q hq => hp q (List.mem_cons_of_mem _ hq), a3]
    simp
theorem need_ok {sub : Sub} {t rest : Cs} {my : Nat} : ∀ (nd : Nat) (ps : List FT) (i : Nat) (acc : List D), nd ≤ ps.length → ps.length ≤ nd + my → t.drop i = partsTx ps ++ 41 :: rest → i + (partsTx ps).length < 400 → (∀ p ∈ ps, Reads sub t p) → needP sub t my nd i acc = .ok (acc ++ ps.map FT.d, i + (partsTx ps).length)
  | 0, ps, i, acc, _, h, e, h4, hp => may_ok ps my i acc (by omega) e h4 hp
  | nd + 1, [], i, acc, h, _, _, _, _ => by simp at h
  | nd + 1, p :: ps, i, acc, h1, h, e, h4, hp => by
    obtain ⟨a1, a2, a3⟩ := one_ok (hp p List.mem_cons_self) e h4
    show bnd (onePart sub t i) (fun p => needP sub t my nd p.2 (acc ++ [p.1])) = _
    rw [a1]
    show needP sub t my nd _ (acc ++ [p.d]) = _
    rw [need_ok nd ps _ _ (by simp at h1; omega) (by simp at h; omega) a2 (by omega) fun q hq => hp q (List.mem_cons_of_mem _ hq), a3]
    simp
theorem list_two {α : Type} {n : Nat} (f : Nat → α) (h : 0 < n) : (List.range n).map f = f 0 :: (List.range (n - 1)).map fun i => f (i + 1) := by
  obtain ⟨m, rfl⟩ : ∃ m, n = m + 1 := ⟨n - 1, by omega⟩
  rw [List.range_succ_eq_map, List.map_cons, List.map_map]
  rfl
theorem glue_parts {x : Cs} {m : Nat} {f : Nat → FT} : glue (x :: (List.range m).map fun i => (f i).text) = x ++ partsTx ((List.range m).map f) := by
  show x ++ (((List.range m).map fun i => (f i).text).map fun y => 44 :: y).flatten = _
  unfold partsTx
  rw [List.map_map, List.map_map]
  rfl
theorem itm_head {n m : Nat} {h : Cs} {it : Option D} (ok : ItmOk n h it m) : (h ++ [40]) ∈ HD7 ∧ (h ++ [40]).dropLast = h ∧ (h = hUse → m = 0) ∧ (hdItem h = it.isSome) := by
  rcases ok with ⟨rfl, e, l, el, _⟩ | ⟨rfl, _, y, ey, _⟩ | ⟨rfl, _, j, ej, _⟩ | ⟨rfl, _, j, ej, _⟩ | ⟨rfl, _, e⟩ | ⟨rfl, _, e⟩ | ⟨rfl, _, _, e⟩
  · subst el; exact ⟨by decide, by decide, fun _ => e, (show hdItem hUse = true by decide)⟩
  · subst ey; exact ⟨by decide, by decide, fun z => absurd z (by decide), (show hdItem hAgain = true by decide)⟩
  · subst ej; exact ⟨by decide, by decide, fun z => absurd z (by decide), (show hdItem hTurned = true by decide)⟩
  · subst ej; exact ⟨by decide, by decide, fun z => absurd z (by decide), (show hdItem hDouble = true by decide)⟩
  · subst e; exact ⟨by decide, by decide, fun z => absurd z (by decide), (show hdItem hBack = false by decide)⟩
  · subst e; exact ⟨by decide, by decide, fun z => absurd z (by decide), (show hdItem hWith = false by decide)⟩
  · subst e; exact ⟨by decide, by decide, fun z => absurd z (by decide), (show hdItem hThen = false by decide)⟩
/-- how many parts are wanted behind the first thing -/
theorem itm_need {n m : Nat} {h : Cs} {it : Option D} (ok : ItmOk n h it m) : (it.isSome = true → needOf h ≤ m ∧ m ≤ needOf h + mayOf h) ∧ (it.isSome = false → 0 < m ∧ needOf h ≤ m - 1 ∧ m - 1 ≤ needOf h + mayOf h) := by
  rcases ok with ⟨rfl, e, l, el, _⟩ | ⟨rfl, e, y, ey, _⟩ | ⟨rfl, e, j, ej, _⟩ | ⟨rfl, e, j, ej, _⟩ | ⟨rfl, e, e2⟩ | ⟨rfl, e, e2⟩ | ⟨rfl, e, e3, e2⟩
  · subst el e; exact ⟨fun _ => (by decide), fun z => by cases z⟩
  · subst ey e; exact ⟨fun _ => (by decide), fun z => by cases z⟩
  · subst ej e; exact ⟨fun _ => (by decide), fun z => by cases z⟩
  · subst ej e; exact ⟨fun _ => (by decide), fun z => by cases z⟩
  · subst e2 e; exact ⟨fun z => (by cases z), fun _ => by decide⟩
  · subst e2 e; exact ⟨fun z => (by cases z), fun _ => by decide⟩
  · subst e2
    refine ⟨fun z => (by cases z), fun _ => ?_⟩
    have n1 : needOf hThen = 1 := by decide
    have n2 : mayOf hThen = 4 := by decide
    rw [n1, n2]
    omega
theorem fig_take {n c : Nat} (h : c ∈ FIG.take n) : c ∈ FIG := List.mem_of_mem_take h
theorem no_digit {h rest t : Cs} {i n m : Nat} {it : Option D} (ok : ItmOk n h it m) (e : t.drop i = h ++ 40 :: rest) : atDigit n t i = false := by
  have key : ∃ c u, h = c :: u ∧ c ∉ FIG := by
    rcases ok with ⟨rfl, _⟩ | ⟨rfl, _⟩ | ⟨rfl, _⟩ | ⟨rfl, _⟩ | ⟨rfl, _⟩ | ⟨rfl, _⟩ | ⟨rfl, _⟩ <;> exact ⟨_, _, rfl, by decide⟩
  obtain ⟨c, u, rfl, hc⟩ := key
  have e2 : t[i]? = some c := by
    have := congrArg (fun l : Cs => l[0]?) e
    simpa using this
  unfold atDigit
  rw [e2]
  exact decide_eq_false fun z => hc (fig_take z.2)
theorem parse_ok {n : Nat} (hn : n ≤ 4) {t : Cs} : ∀ (p : FT) (k : Nat), Vf n k p → Reads (formP n t k) t p
  | .word l, k, v => by
    obtain ⟨v1, v2, v3⟩ := v
    intro i rest e h4 hr
    have e : t.drop i = l ++ rest := e
    have h4 : i + l.length ≤ 400 := h4
    have hrun := runL_is (m := 60) e v3 v2 h4 fun c hc => .inl fun z => hr c hc (fig_take z)
    have hd : atDigit n t i = true := by
      cases l with
      | nil => exact absurd rfl v1
      | cons c l =>
        have e2 : t[i]? = some c := by
          have := congrArg (fun l : Cs => l[0]?) e
          simpa using this
        unfold atDigit
        rw [e2]
        exact decide_eq_true ⟨by rw [List.length_cons] at h4; omega, v3 c List.mem_cons_self⟩
    rw [formP_eq]
    unfold formS
    rw [if_pos hd, hrun]
    rfl
  | .node h it m f, k, v => by
    obtain ⟨ok, hk, hf⟩ := v
    intro i rest e h4 hr
    have et : (FT.node h it m f).text = h ++ 40 :: (glue ((it.map itTx).toList ++ (List.range m).map fun i => (f i).text) ++ [41]) := rfl
    obtain ⟨i1, i2, i3, i4⟩ := itm_head ok
    obtain ⟨j1, j2⟩ := itm_need ok
    rw [et] at e h4 ⊢
    have hnd : atDigit n t i = false := no_digit ok (rest := (glue ((it.map itTx).toList ++ (List.range m).map fun i => (f i).text) ++ [41]) ++ rest) (by rw [e]; simp)
    have e1 : t.drop i = (h ++ [40]) ++ (glue ((it.map itTx).toList ++ (List.range m).map fun i => (f i).text) ++ 41 :: rest) := by rw [e]; simp
    have hl : (h ++ 40 :: (glue ((it.map itTx).toList ++ (List.range m).map fun i => (f i).text) ++ [41])).length = (h ++ [40]).length + (glue ((it.map itTx).toList ++ (List.range m).map fun i => (f i).text)).length + 1 := by simp; omega
    rw [hl] at h4 ⊢
    have hmem : (h ++ [40]) ∈ hsOf k := by
      unfold hsOf
      split
      · exact i1
      · have hk0 := hk (by omega)
        have hu : h = hUse := by
          rcases ok with ⟨z, _⟩ | ⟨_, z, _⟩ | ⟨_, z, _⟩ | ⟨_, z, _⟩ | ⟨_, z, _⟩ | ⟨_, z, _⟩ | ⟨_, z, _⟩
          · exact z
          all_goals omega
        subst hu
        exact List.mem_singleton.mpr rfl
    have hh := headP_ok (t := t) (i := i) (by unfold hsOf; split; exact hd7_ok; exact use_ok) hmem (seen_pre e1 (by omega))
    have sub : ∀ j, j < m → Reads (subOf n t k) t (f j) := fun j hj => by
      cases k with
      | zero => rw [hk rfl] at hj; omega
      | succ k => exact parse_ok hn (f j) k (hf j hj)
    have e2 := drop_more e1
    rw [formP_eq]
    unfold formS
    rw [if_neg (by rw [hnd]; decide), hh]
    show bnd (if hdItem (h ++ [40]).dropLast = true then firstP n t (i + (h ++ [40]).length) (h ++ [40]).dropLast else subOf n t k (i + (h ++ [40]).length)) (fun p =>
      bnd (needP (subOf n t k) t (mayOf (h ++ [40]).dropLast) (needOf (h ++ [40]).dropLast) p.2 []) fun q => bnd (tak t q.2 [41]) fun _ => .ok (D.tup (.str (tx (h ++ [40]).dropLast) :: p.1 :: q.1), q.2 + 1)) = _
    rw [i2]
    clear hl hh hmem e1 hnd e
    generalize (h ++ [40]).length = L at *
    cases it with
    | some x =>
      have e3 : glue (((some x).map itTx).toList ++ (List.range m).map fun i => (f i).text) = itTx x ++ partsTx ((List.range m).map f) := glue_parts
      rw [e3] at e2 h4 ⊢
      have e2 : t.drop (i + L) = itTx x ++ (partsTx ((List.range m).map f) ++ 41 :: rest) := by rw [e2, List.append_assoc]
      rw [List.length_append] at h4 ⊢
      rw [if_pos (by rw [i4]; rfl), first_ok ok hn e2 (by omega) parts_head]
      obtain ⟨q1, q2⟩ := j1 rfl
      have e4 := drop_more e2
      show bnd (needP (subOf n t k) t (mayOf h) (needOf h) (i + L + (itTx x).length) []) _ = _
      rw [need_ok (needOf h) _ _ [] (by simpa using q1) (by simpa using q2) e4 (by omega) (by
        intro p hp
        obtain ⟨j, hj, rfl⟩ := List.mem_map.mp hp
        exact sub j (List.mem_range.mp hj))]
      have e5 := drop_more e4
      show bnd (tak t _ [41]) _ = _
      rw [tak_is e5 (by simp) (by omega)]
      show Except.ok _ = Except.ok _
      congr 2
      · simp [FT.d]
      · omega
    | none =>
      obtain ⟨q0, q1, q2⟩ := j2 rfl
      have e3 : glue ((none.map itTx).toList ++ (List.range m).map fun i => (f i).text) = (f 0).text ++ partsTx ((List.range (m - 1)).map fun i => f (i + 1)) := by
        have : (none.map itTx).toList ++ ((List.range m).map fun i => (f i).text) = (f 0).text :: (List.range (m - 1)).map fun i => (f (i + 1)).text := by
          rw [list_two _ q0]
          rfl
        rw [this]
        exact glue_parts
      rw [e3] at e2 h4 ⊢
      have e2 : t.drop (i + L) = (f 0).text ++ (partsTx ((List.range (m - 1)).map fun i => f (i + 1)) ++ 41 :: rest) := by rw [e2, List.append_assoc]
      rw [List.length_append] at h4 ⊢
      rw [if_neg (by rw [i4]; decide), sub 0 q0 _ _ e2 (by omega) fun c hc => (parts_head c hc).1]
      have e4 := drop_more e2
      show bnd (needP (subOf n t k) t (mayOf h) (needOf h) (i + L + (f 0).text.length) []) _ = _
      rw [need_ok (needOf h) _ _ [] (by simpa using q1) (by simpa using q2) e4 (by omega) (by
        intro p hp
        obtain ⟨j, hj, rfl⟩ := List.mem_map.mp hp
        exact sub (j + 1) (by have := List.mem_range.mp hj; omega))]
      have e5 := drop_more e4
      show bnd (tak t _ [41]) _ = _
      rw [tak_is e5 (by simp) (by omega)]
      show Except.ok _ = Except.ok _
      congr 2
      · simp only [FT.d]
        rw [list_two _ q0, List.map_map]
        rfl
      · omega
theorem read_ok {n : Nat} (hn : n ≤ 4) {p : FT} (v : Vf n 7 p) (h4 : p.text.length ≤ 400) : readP n p.text = .ok p.d := by
  have h := parse_ok (t := p.text) hn p 7 v 0 [] (by simp) (by omega) fun c hc => by cases hc
  unfold readP
  rw [h]
  show (if 0 + p.text.length < p.text.length then _ else _) = _
  rw [if_neg (by omega)]
local macro_rules | `(tactic| walk_at "rk") => `(tactic| first
  | assumption
  | (refine rok_app ?_ ?_ ?_ <;> first | walk_at "rk" | (simp only [List.length_append, List.length_reverse, List.length_map, List.length_replicate]; omega))
  | (refine rok_rev ?_; walk_at "rk")
  | (refine rok_map ?_ _ (fun t => fmod_in (by assumption)); walk_at "rk")
  | omega
  | decide
  | (refine log_lt (k := 80) ?_ (by decide) (by decide); omega))
local macro_rules | `(tactic| walk_at "fin") => `(tactic| ((repeat' (first | (with_reducible assumption) | (with_reducible refine And.intro ?_ ?_) | (with_reducible intro _))); all_goals first | (with_reducible assumption) | omega | contradiction | trivial))
local macro_rules | `(tactic| walk_at "cj") => `(tactic| repeat' (refine And.intro (by walk_at "rk") ?_))
theorem fld_m_text {x y : D} : fld ksRow [x, y] "text" = none := rfl
/-- turns as digits -/
def digC (ts : List Int) : List Nat := ts.map fun t => (48 + t).toNat
theorem digC_length {ts : List Int} : (digC ts).length = ts.length := by unfold digC; rw [List.length_map]
/-- turns that are signs of one figure -/
def Figs (ts : List Int) : Prop := ∀ t ∈ ts, 0 ≤ t ∧ t < 10
theorem figs_join {ts : List Int} (f : Figs ts) : Txt.join (tx []) (ts.map fun t => ((toString t : String) : Str)) = tx (digC ts) := by
  have e : (ts.map fun t => ((toString t : String) : Str)) = (ts.map fun t => [(48 + t).toNat]).map tx := by
    rw [List.map_map]
    exact List.map_congr_left fun t m => tx_digit (f t m).1 (f t m).2
  rw [e, tx_join]
  congr 1
  unfold digC
  rw [← List.flatMap_def]
  clear e f
  induction ts with
  | nil => rfl
  | cons t ts ih => rw [List.flatMap_cons, List.map_cons, ih]; rfl
theorem figs_log {t : Int} (h0 : 0 ≤ t) (h1 : t < 10) : t.natAbs.log2 < 1920 := by
  have : t.natAbs < 10 := by omega
  have : t.natAbs.log2 < 4 := by
    by_cases z : t.natAbs = 0
    · rw [z]; decide
    · exact (Nat.log2_lt z).mpr (by omega)
  omega
theorem figs_len {ts : List Int} (f : Figs ts) : ((ts.map fun t => ((toString t : String) : Str)).map (·.length)).sum = ts.length := by
  induction ts with
  | nil => rfl
  | cons t ts ih =>
    rw [List.map_cons, List.map_cons, List.sum_cons, ih fun u m => f u (List.mem_cons_of_mem _ m), tx_digit (f t List.mem_cons_self).1 (f t List.mem_cons_self).2, List.length_cons]
    show 1 + _ = _
    omega
def dgN13 : Array Lean.Name := dgN12 ++ #[`F_Form_text_is, `fld_m_text]
local macro_rules | `(tactic| walk_at "dg") => do let xs ← dgN13.mapM fun n => `(Lean.Parser.Tactic.simpLemma| $(Lean.mkIdent n):term); `(tactic| simp only [$xs,*, List.getElem?_cons_zero, List.getElem?_cons_succ])
def F__law_digits : Spec
  | [x], R, Rx => ∃ ts : List Int, (x = .lst (ts.map .int) ∨ x = .tup (ts.map .int)) ∧ Figs ts ∧ ts.length ≤ 100000 ∧ R (.str (tx (digC ts)))
  | _, _, _ => False
theorem F__law_digits_is {x : D} {R : D → Prop} {Rx : Er → Prop} : F__law_digits [x] R Rx = (∃ ts : List Int, (x = .lst (ts.map .int) ∨ x = .tup (ts.map .int)) ∧ Figs ts ∧ ts.length ≤ 100000 ∧ R (.str (tx (digC ts)))) := rfl
theorem F__law_digits_of {ds : List D} {R : D → Prop} {Rx : Er → Prop} (z : F__law_digits ds R Rx) : ∃ (x : D), ds = [x] ∧ (∃ ts : List Int, (x = .lst (ts.map .int) ∨ x = .tup (ts.map .int)) ∧ Figs ts ∧ ts.length ≤ 100000 ∧ R (.str (tx (digC ts)))) := by
  unfold F__law_digits at z
  split at z
  · exact ⟨_, rfl, z⟩
  · exact z.elim
def b__law_digits (Dx : Df K mg "_law_digits" s__law_digits) : Binds K Dx.fd ["_law_row"] [] := Dx.F.bindsN fun _ _ _ _ _ _ us hl => match us, hl with | [_], _ => rfl
def n__law_digits : List Str := ["_law_row", "_law_hand"]
theorem sc__law_digits : FnScope n__law_digits ["_law_row"] (defScope s__law_digits) := ⟨rfl, rfl, rfl, by decide +kernel, rfl, by decide +kernel, by decide +kernel⟩
theorem ok__law_digits (T : Tx mg) (D__law_digits : Df K mg "_law_digits" s__law_digits) : FnOk P w K mg base (L2.CX P w) 1 D__law_digits.f D__law_digits.fd ["_law_row"] (spD F__law_digits) := by

  refine fn_d D__law_digits.F sc__law_digits (fun ds R Rx hs0 => ?_) (fun cdv A outer s H E hr => have hu := hr.units
    (ds_one (s_ret (d_join d_str (d_ofF (f_lc rfl sc__law_digits.nd (i_alt (i_list (d_var 0)) (i_tup (d_var 0))) (blkOk_by (own := [("_law_hand", 1)]) (N := n__law_digits) (sc := defScope s__law_digits) (by decide +kernel)) (by decide) (fun _ _ _ _ _ => (g_name (i := 1) sc__law_digits.nd)) (fun _ _ _ _ _ => dts_nil) (fun _ _ _ _ _ => (d_callT b_str T.m_str PyProof.Rows.boot_str (da_cons (d_var 1) da_nil)))))))) ) fun ds R Rx hs0 => ?_
  · obtain ⟨_, rfl, _⟩ := F__law_digits_of hs0
    rfl
  · obtain ⟨x, rfl, hs⟩ := F__law_digits_of hs0
    clear hs0
    simp only [n__law_digits]
    walk_at "dg"
    obtain ⟨ts, e, f, hl, hR⟩ := hs
    have key : ∀ env : En, LcP (ts.map D.int) (yName 1) xYes (xCB fStrI (xCons (xVar 1) xNil)) [1] [env.headD none, none] fun xs => ∃ ys : List Str, asStrs xs = some ys ∧ (ys.map (·.length)).sum + ys.length * 0 ≤ 16777216 ∧ R (.str (Txt.join (tx []) ys)) := by
      intro env
      refine LcP.of (fun t : Int => .str (toString t)) (by rw [sizeLine_eq]; omega) (fun i t N e hN => ?_) ?_
      · walk_at "dg"
        exact ⟨figs_log (f t (List.mem_of_getElem? e)).1 (f t (List.mem_of_getElem? e)).2, hN⟩
      · rw [show (ts.map fun t : Int => D.str (toString t)) = (ts.map fun t : Int => ((toString t : String) : Str)).map D.str by rw [List.map_map]; rfl]
        refine ⟨_, w_asStrs _, ?_, ?_⟩
        · rw [figs_len f]
          show _ + _ * 0 ≤ 16777216
          omega
        · rw [figs_join f]
          exact hR
    rcases e with rfl | rfl
    · exact .inl (key [_])
    · exact .inr (key [_])
def leafU (u : Cs) : FT := .node hUse (some (.str (tx u))) 0 fun _ => .word []
def nd1 (h : Cs) (it : Option D) (a : FT) : FT := .node h it 1 fun _ => a
def nd2 (h : Cs) (a b : FT) : FT := .node h none 2 fun i => if i = 0 then a else b
def nd3 (h : Cs) (a b c : FT) : FT := .node h none 3 fun i => if i = 0 then a else if i = 1 then b else c
def Leaf (n : Nat) (us : List Cs) (t : FT) : Prop := (∃ l, t = .word l ∧ l ≠ [] ∧ l.length ≤ 4 ∧ ∀ c ∈ l, c ∈ FIG.take n) ∨ ∃ u ∈ us, t = leafU u
/-- what may stand behind again( -/
def AgOk (ms : List Cs) (x : D) : Prop := (∃ m ∈ ms, x = .str (tx m)) ∨ ∃ i : Int, x = .int i ∧ 1 ≤ i ∧ i ≤ 4
def Comp (n : Nat) (ms : List Cs) (S : FT → Prop) (t : FT) : Prop := ∃ a, S a ∧ (t = nd1 hBack none a ∨ (∃ i : Nat, i < n ∧ t = nd1 hTurned (some (.int (i : Int))) a) ∨ (∃ i : Nat, i < 3 ∧ t = nd1 hDouble (some (.int (i : Int))) a) ∨ (∃ x, AgOk ms x ∧ t = nd1 hAgain (some x) a) ∨
  ∃ b, S b ∧ (t = nd2 hWith a b ∨ t = nd2 hThen a b ∨ t = nd3 hThen a b a))
def Tr (n : Nat) (ms us : List Cs) : Nat → FT → Prop
  | 0, t => Leaf n us t
  | 1, t => Leaf n us t
  | d + 2, t => Leaf n us t ∨ Comp n ms (Tr n ms us (d + 1)) t
theorem Tr_leaf {n : Nat} {ms us : List Cs} {t : FT} (h : Leaf n us t) : ∀ k, Tr n ms us k t
  | 0 => h
  | 1 => h
  | k + 2 => .inl h
theorem Tr_comp {n k : Nat} {ms us : List Cs} {t : FT} (h : Comp n ms (Tr n ms us (k + 1)) t) : Tr n ms us (k + 2) t := .inr h
theorem word_of {n : Nat} {as : List Int} (hn : n ≤ 4) (h : ∀ a ∈ as, 0 ≤ a ∧ a < n) : (FT.word (digC as)).d = .tup [.str "word", .tup (as.map D.int)] ∧ ∀ c ∈ digC as, c ∈ FIG.take n := by
  refine ⟨?_, fun c hc => ?_⟩
  · show wordD (digC as) = _
    unfold wordD digC
    rw [List.map_map]
    congr 3
    refine congrArg D.tup (List.map_congr_left fun a ha => ?_)
    have := h a ha
    show D.int (((48 + a).toNat : Int) - 48) = D.int a
    congr 1
    omega
  · obtain ⟨a, ha, rfl⟩ := List.mem_map.mp hc
    have := h a ha
    have hn4 : n = 0 ∨ n = 1 ∨ n = 2 ∨ n = 3 ∨ n = 4 := by omega
    rcases hn4 with rfl | rfl | rfl | rfl | rfl <;> simp [FIG] <;> omega
theorem in_I2 {x a b : Int} {R : D → Prop} : opIn (.int x) (.tup [.int a, .int b]) R = R (.bl (decide (x = a ∨ x = b))) := by
  have e : inV (V.int x) [V.int a, V.int b] = decide (x = a ∨ x = b) := by
    unfold inV
    rw [Bool.eq_iff_iff]
    simp only [List.any_cons, List.any_nil, eqV, Bool.or_false, Bool.or_eq_true, beq_iff_eq, decide_eq_true_eq, eq_comm (a := x)]
  show (true = true ∧ true = true ∧ R (.bl (inV (V.int x) [V.int a, V.int b]))) = _
  rw [e]
  simp only [true_and]
theorem strs_dat (us : List Cs) : datL (us.map fun l => D.str (tx l)) = true ∧ depL (us.map fun l => D.str (tx l)) ≤ 1 := by
  refine ⟨datL_of fun x hx => ?_, depL_of fun x hx => ?_⟩
  · obtain ⟨l, _, rfl⟩ := List.mem_map.mp hx
    rfl
  · obtain ⟨l, _, rfl⟩ := List.mem_map.mp hx
    exact Nat.le_refl _
def dgN14 : Array Lean.Name := dgN13 ++ #[`F__law_digits_is]
local macro_rules | `(tactic| walk_at "dg") => do let xs ← dgN14.mapM fun n => `(Lean.Parser.Tactic.simpLemma| $(Lean.mkIdent n):term); `(tactic| simp only [$xs,*, List.getElem?_cons_zero, List.getElem?_cons_succ])
def F__law_tree (m : Nat) : Spec
  | [.bag, .int a, .int b, .lst xs, .lst ys], R, Rx => ∃ (k n : Nat) (ms us : List Cs), k < m ∧ a = n ∧ b = k ∧ 2 ≤ n ∧ n ≤ 4 ∧ xs = ms.map (fun l => .str (tx l)) ∧ ys = us.map (fun l => .str (tx l)) ∧ ms.length ≤ 100 ∧ us.length ≤ 100 ∧ ∀ t, Tr n ms us k t → R t.d
  | _, _, _ => False
theorem F__law_tree_is {m : Nat} {a : Int} {b : Int} {xs : List D} {ys : List D} {R : D → Prop} {Rx : Er → Prop} : F__law_tree m [.bag, .int a, .int b, .lst xs, .lst ys] R Rx = (∃ (k n : Nat) (ms us : List Cs), k < m ∧ a = n ∧ b = k ∧ 2 ≤ n ∧ n ≤ 4 ∧ xs = ms.map (fun l => .str (tx l)) ∧ ys = us.map (fun l => .str (tx l)) ∧ ms.length ≤ 100 ∧ us.length ≤ 100 ∧ ∀ t, Tr n ms us k t → R t.d) := rfl
theorem F__law_tree_of {m : Nat} {ds : List D} {R : D → Prop} {Rx : Er → Prop} (z : F__law_tree m ds R Rx) : ∃ (a : Int) (b : Int) (xs : List D) (ys : List D), ds = [.bag, .int a, .int b, .lst xs, .lst ys] ∧ (∃ (k n : Nat) (ms us : List Cs), k < m ∧ a = n ∧ b = k ∧ 2 ≤ n ∧ n ≤ 4 ∧ xs = ms.map (fun l => .str (tx l)) ∧ ys = us.map (fun l => .str (tx l)) ∧ ms.length ≤ 100 ∧ us.length ≤ 100 ∧ ∀ t, Tr n ms us k t → R t.d) := by
  unfold F__law_tree at z
  split at z
  · exact ⟨_, _, _, _, rfl, z⟩
  · exact z.elim
theorem z0__law_tree {ds : List D} {R : D → Prop} {Rx : Er → Prop} : ¬ F__law_tree 0 ds R Rx := fun h => by
  obtain ⟨_, _, _, _, _, k, n, ms, us, z, _⟩ := F__law_tree_of h
  omega
def b__law_tree (Dx : Df K mg "_law_tree" s__law_tree) : Binds K Dx.fd ["_law_bag_here", "_law_hands_z", "_law_deep", "_law_marks_here", "_law_usable"] [] := Dx.F.bindsN fun _ _ _ _ _ _ us hl => match us, hl with | [_, _, _, _, _], _ => rfl
def n__law_tree : List Str := ["_law_bag_here", "_law_hands_z", "_law_deep", "_law_marks_here", "_law_usable", "_law_way", "_law_one", "_law_two", "_law_k"]
theorem sc__law_tree : FnScope n__law_tree ["_law_bag_here", "_law_hands_z", "_law_deep", "_law_marks_here", "_law_usable"] (defScope s__law_tree) := ⟨rfl, rfl, rfl, by decide +kernel, rfl, by decide +kernel, by decide +kernel⟩
def dgN15 : Array Lean.Name := dgN14 ++ #[`F__law_tree_is]
local macro_rules | `(tactic| walk_at "dg") => do let xs ← dgN15.mapM fun n => `(Lean.Parser.Tactic.simpLemma| $(Lean.mkIdent n):term); `(tactic| simp only [$xs,*, List.getElem?_cons_zero, List.getElem?_cons_succ])
theorem ok__law_tree (T : Tx mg) (D__law_tree : Df K mg "_law_tree" s__law_tree) (D__law_pull : Df K mg "_law_pull" s__law_pull) (D__law_pick : Df K mg "_law_pick" s__law_pick) : ∀ m : Nat, FnOk P w K mg base (L2.CX P w) (4 + m) D__law_tree.f D__law_tree.fd ["_law_bag_here", "_law_hands_z", "_law_deep", "_law_marks_here", "_law_usable"] (spD (F__law_tree m))
| 0 => FnOk.mono (fn_false D__law_tree fun ds R Rx h => z0__law_tree h) (by omega)
| m + 1 => by
  have G__law_tree := ok__law_tree T D__law_tree D__law_pull D__law_pick m
  have G__law_pull := ok__law_pull (P := P) (w := w) (base := base) D__law_pull T.m_int T.m_len
  have G__law_pick := ok__law_pick (P := P) (w := w) (base := base) D__law_pick D__law_pull T.m_int T.m_len
  refine fn_d D__law_tree.F sc__law_tree (fun ds R Rx hs0 => ?_) (fun cdv A outer s H E hr => have hu := hr.units
    (ds_cons (s_set (i := 5) sc__law_tree.nd (d_call G__law_pull (hr.mono (by first | exact Nat.le_refl _ | exact Nat.le_succ _ | exact Nat.le_trans (show _ ≤ 4 by decide) (Nat.le_add_right 4 _))) D__law_pull.g D__law_pull.F.kp (b__law_pull D__law_pull) .nil dfR_nil pass_d (da_cons (d_var 0) (da_cons d_int da_nil))))
    (ds_cons (s_if (dw_pt (dw_or (dt_cmp c_lt (d_var 2) d_int (nomark _)) (dw_or1 (dt_cmp c_lt (d_var 5) d_int (nomark _))))) (ds_cons (s_if (dw_pt (dw_and (dt_cmp (c_ne hu) (d_var 4) (d_ofF (f_lst da_nil)) (nomark _)) (dw_and1 (dt_cmp (c_eq hu) (d_call G__law_pull (hr.mono (by first | exact Nat.le_refl _ | exact Nat.le_succ _ | exact Nat.le_trans (show _ ≤ 4 by decide) (Nat.le_add_right 4 _))) D__law_pull.g D__law_pull.F.kp (b__law_pull D__law_pull) .nil dfR_nil pass_d (da_cons (d_var 0) (da_cons d_int da_nil))) d_int (nomark _))))) (ds_one (s_ret (d_tup (da_cons d_str (da_cons (d_call G__law_pick (hr.mono (by first | exact Nat.le_refl _ | exact Nat.le_succ _ | exact Nat.le_trans (show _ ≤ 4 by decide) (Nat.le_add_right 4 _))) D__law_pick.g D__law_pick.F.kp (b__law_pick D__law_pick) .nil dfR_nil pass_d (da_cons (d_var 0) (da_cons (d_var 4) da_nil))) da_nil))))) ds_nil)
        (ds_one (s_ret (d_tup (da_cons d_str (da_cons (d_callT b_tuple T.m_tuple PyProof.Rows.boot_tuple (da_cons (d_ofF (f_lc rfl sc__law_tree.nd (i_rg1 (da_cons (d_add d_int (d_call G__law_pull (hr.mono (by first | exact Nat.le_refl _ | exact Nat.le_succ _ | exact Nat.le_trans (show _ ≤ 4 by decide) (Nat.le_add_right 4 _))) D__law_pull.g D__law_pull.F.kp (b__law_pull D__law_pull) .nil dfR_nil pass_d (da_cons (d_var 0) (da_cons d_int da_nil)))) da_nil) T.m_range) (blkOk_by (own := [("_law_k", 8)]) (N := n__law_tree) (sc := defScope s__law_tree) (by decide +kernel)) (by decide) (fun _ _ _ _ _ => (g_name (i := 8) sc__law_tree.nd)) (fun _ _ _ _ _ => dts_nil) (fun _ _ _ _ _ => (d_call G__law_pull (hr.mono (by first | exact Nat.le_refl _ | exact Nat.le_succ _ | exact Nat.le_trans (show _ ≤ 4 by decide) (Nat.le_add_right 4 _))) D__law_pull.g D__law_pull.F.kp (b__law_pull D__law_pull) .nil dfR_nil passL (da_cons (d_var 0) (da_cons (d_var 1) da_nil)))))) da_nil)) da_nil)))))) ds_nil)
    (ds_cons (s_set (i := 6) sc__law_tree.nd (d_call G__law_tree (hr.mono (by first | exact Nat.le_refl _ | exact Nat.le_succ _ | exact Nat.le_trans (show _ ≤ 4 by decide) (Nat.le_add_right 4 _))) D__law_tree.g D__law_tree.F.kp (b__law_tree D__law_tree) .nil dfR_nil pass_d (da_cons (d_var 0) (da_cons (d_var 1) (da_cons (d_sub (d_var 2) d_int) (da_cons (d_var 3) (da_cons (d_var 4) da_nil)))))))
    (ds_cons (s_if (dt_cmp (c_eq hu) (d_var 5) d_int (nomark _)) (ds_one (s_ret (d_tup (da_cons d_str (da_cons (d_var 6) da_nil))))) ds_nil)
    (ds_cons (s_if (dt_cmp (c_eq hu) (d_var 5) d_int (nomark _)) (ds_one (s_ret (d_tup (da_cons d_str (da_cons (d_call G__law_pull (hr.mono (by first | exact Nat.le_refl _ | exact Nat.le_succ _ | exact Nat.le_trans (show _ ≤ 4 by decide) (Nat.le_add_right 4 _))) D__law_pull.g D__law_pull.F.kp (b__law_pull D__law_pull) .nil dfR_nil pass_d (da_cons (d_var 0) (da_cons (d_var 1) da_nil))) (da_cons (d_var 6) da_nil)))))) ds_nil)
    (ds_cons (s_if (dt_cmp (c_eq hu) (d_var 5) d_int (nomark _)) (ds_one (s_ret (d_tup (da_cons d_str (da_cons (d_call G__law_pull (hr.mono (by first | exact Nat.le_refl _ | exact Nat.le_succ _ | exact Nat.le_trans (show _ ≤ 4 by decide) (Nat.le_add_right 4 _))) D__law_pull.g D__law_pull.F.kp (b__law_pull D__law_pull) .nil dfR_nil pass_d (da_cons (d_var 0) (da_cons d_int da_nil))) (da_cons (d_var 6) da_nil)))))) ds_nil)
    (ds_cons (s_if (dt_cmp c_in (d_var 5) (d_tup (da_cons d_int (da_cons d_int da_nil))) rfl) (ds_one (s_ret (d_tup (da_cons d_str (da_cons (d_call G__law_pick (hr.mono (by first | exact Nat.le_refl _ | exact Nat.le_succ _ | exact Nat.le_trans (show _ ≤ 4 by decide) (Nat.le_add_right 4 _))) D__law_pick.g D__law_pick.F.kp (b__law_pick D__law_pick) .nil dfR_nil pass_d (da_cons (d_var 0) (da_cons (d_add (d_var 3) (d_ofF (f_lst (da_cons (d_add d_int (d_call G__law_pull (hr.mono (by first | exact Nat.le_refl _ | exact Nat.le_succ _ | exact Nat.le_trans (show _ ≤ 4 by decide) (Nat.le_add_right 4 _))) D__law_pull.g D__law_pull.F.kp (b__law_pull D__law_pull) .nil dfR_nil pass_d (da_cons (d_var 0) (da_cons d_int da_nil)))) da_nil)))) da_nil))) (da_cons (d_var 6) da_nil)))))) ds_nil)
    (ds_cons (s_set (i := 7) sc__law_tree.nd (d_call G__law_tree (hr.mono (by first | exact Nat.le_refl _ | exact Nat.le_succ _ | exact Nat.le_trans (show _ ≤ 4 by decide) (Nat.le_add_right 4 _))) D__law_tree.g D__law_tree.F.kp (b__law_tree D__law_tree) .nil dfR_nil pass_d (da_cons (d_var 0) (da_cons (d_var 1) (da_cons (d_sub (d_var 2) d_int) (da_cons (d_var 3) (da_cons (d_var 4) da_nil)))))))
    (ds_cons (s_if (dt_cmp (c_eq hu) (d_var 5) d_int (nomark _)) (ds_one (s_ret (d_tup (da_cons d_str (da_cons (d_var 6) (da_cons (d_var 7) da_nil)))))) ds_nil)
    (ds_one (s_ret (d_add (d_tup (da_cons d_str (da_cons (d_var 6) (da_cons (d_var 7) da_nil)))) (d_if (dt_cmp (c_eq hu) (d_call G__law_pull (hr.mono (by first | exact Nat.le_refl _ | exact Nat.le_succ _ | exact Nat.le_trans (show _ ≤ 4 by decide) (Nat.le_add_right 4 _))) D__law_pull.g D__law_pull.F.kp (b__law_pull D__law_pull) .nil dfR_nil pass_d (da_cons (d_var 0) (da_cons d_int da_nil))) d_int (nomark _)) (d_tup da_nil) (d_tup (da_cons (d_var 6) da_nil))))))))))))))) ) fun ds R Rx hs0 => ?_
  · obtain ⟨_, _, _, _, rfl, _⟩ := F__law_tree_of hs0
    rfl
  · obtain ⟨a, b, xs, ys, rfl, hs⟩ := F__law_tree_of hs0
    clear hs0
    simp only [n__law_tree]
    obtain ⟨k, n, ms, us, hk, rfl, rfl, hn, hn2, rfl, rfl, hms, hus, hR⟩ := hs
    refine seq_step fun N1 hN1 => ?_
    walk_at "dg"
    refine ⟨by decide +kernel, fun way w0 w1 => hN1 _ ?_⟩
    clear hN1 N1
    refine seq_step fun N1 hN1 => ?_
    refine if_step fun U W hU hW => ?_
    walk_at "dg"
    have lg : ∀ j : Nat, j ≤ 100 → (j : Int).natAbs.log2 < 9000 := fun j hj => log_lt (k := 7) (by omega) (by decide) (by decide)
    refine (fun (u : U _ _) => ⟨fun _ => u, fun z => ⟨fun _ => u, fun y => hW _ _ ?wb⟩⟩) (hU _ _ ?wa)
    case wa =>
      have hL : ∀ t, Leaf n us t → R t.d := fun t ht => hR t (Tr_leaf ht k)
      clear hU hW hN1
      walk_at "dg"
      obtain ⟨d1, d2⟩ := strs_dat us
      have wd : ∀ (E : En), (4 : Int).natAbs.log2 < 9000 ∧ ∀ r : Int, 0 ≤ r → r < 4 → -4611686018427387904 ≤ 1 + r ∧ 1 + r < 4611686018427387904 ∧ LcP (ups 0 (1 + r).toNat) (yName 8) xYes (xCall F__law_pull [] (xCons (xVar 0) (xCons (xVar 1) xNil))) [8] [some (.val .bag), some (.val (.int (n : Int))), some (.val (.int (k : Int))), some (.val (.lst (ms.map fun l => D.str (tx l)))), some (.val (.lst (us.map fun l => D.str (tx l)))), some (.val (.int way)), none, none, none] fun xs => R (.tup [.str "word", .tup xs]) := by
        intro E
        refine ⟨by decide +kernel, fun r r0 r1 => ⟨by omega, by omega, ?_⟩⟩
        refine LcP.draw D.int (fun a => 0 ≤ a ∧ a < n) (by rw [ups_length, sizeLine_eq]; omega) (fun i d N e hN => ?_) fun as la hP => ?_
        · walk_at "dg"
          exact ⟨by omega, lg n (by omega), fun a a0 a1 => hN a ⟨a0, a1⟩⟩
        · rw [ups_length] at la
          obtain ⟨w1, w2⟩ := word_of (as := as) hn2 hP
          rw [← w1]
          have hl : (digC as).length = as.length := digC_length
          refine hL _ (.inl ⟨_, rfl, fun z => ?_, by omega, w2⟩)
          rw [z] at hl
          simp at hl
          omega
      refine ⟨d1, Nat.le_trans (Nat.add_le_add_left d2 1) (by decide), fun z => ⟨by decide +kernel, fun r r0 r1 => ⟨fun z2 => ⟨?_, by omega, fun d hd => ?_⟩, fun _ => wd []⟩⟩, fun _ => wd []⟩
      · cases us with
        | nil => exact absurd z (by decide)
        | cons u us => simp
      · obtain ⟨u, hu, rfl⟩ := List.mem_map.mp hd
        rw [hd_use]
        exact hL _ (.inr ⟨u, hu, rfl⟩)
    case wb =>
      clear u
      walk_at "dg"
      refine hN1 _ ?_
      clear hU hW hN1 U W N1
      obtain ⟨d, rfl⟩ : ∃ d, k = d + 2 := ⟨k - 2, by omega⟩
      have hC : ∀ t, Comp n ms (Tr n ms us (d + 1)) t → R t.d := fun t ht => hR t (Tr_comp ht)
      refine seq_step fun N1 hN1 => ?_
      walk_at "dg"
      refine ⟨d + 1, by omega, n, rfl, by omega, hn, hn2, ms, rfl, us, rfl, hms, hus, fun a ha => hN1 _ ?_⟩
      clear hN1 N1
      refine seq_step fun N1 hN1 => ?_
      walk_at "dg"
      refine ⟨fun q => ?_, fun q2 => hN1 _ ?_⟩
      · rw [hd_back]
        exact hC _ ⟨a, ha, .inl rfl⟩
      clear hN1 N1
      refine seq_step fun N1 hN1 => ?_
      walk_at "dg"
      refine ⟨fun q => ⟨by omega, lg n (by omega), fun r r0 r1 => ?_⟩, fun q3 => hN1 _ ?_⟩
      · rw [hd_turned]
        obtain ⟨i, rfl⟩ : ∃ i : Nat, r = (i : Int) := ⟨r.toNat, by omega⟩
        exact hC _ ⟨a, ha, .inr (.inl ⟨i, by omega, rfl⟩)⟩
      clear hN1 N1
      refine seq_step fun N1 hN1 => ?_
      walk_at "dg"
      refine ⟨fun q => ⟨by decide +kernel, fun r r0 r1 => ?_⟩, fun q4 => hN1 _ ?_⟩
      · rw [hd_double]
        obtain ⟨i, rfl⟩ : ∃ i : Nat, r = (i : Int) := ⟨r.toNat, by omega⟩
        exact hC _ ⟨a, ha, .inr (.inr (.inl ⟨i, by omega, rfl⟩))⟩
      clear hN1 N1
      refine seq_step fun N1 hN1 => ?_
      walk_at "dg"
      rw [in_I2]
      walk_at "dg"
      refine ⟨fun q => ⟨by decide +kernel, fun r r0 r1 => ⟨by omega, by omega, by omega, fun x hx => ?_⟩⟩, fun q5 => hN1 _ ?_⟩
      · rw [hd_again]
        have hx : AgOk ms x := by
          rcases List.mem_append.mp hx with hx | hx
          · obtain ⟨l, hl, rfl⟩ := List.mem_map.mp hx
            exact .inl ⟨l, hl, rfl⟩
          · rw [List.mem_singleton.mp hx]
            exact .inr ⟨1 + r, rfl, by omega, by omega⟩
        exact hC _ ⟨a, ha, .inr (.inr (.inr (.inl ⟨x, hx, rfl⟩)))⟩
      clear hN1 N1
      refine seq_step fun N1 hN1 => ?_
      walk_at "dg"
      refine ⟨d + 1, by omega, n, rfl, by omega, hn, hn2, ms, rfl, us, rfl, hms, hus, fun b hb => hN1 _ ?_⟩
      clear hN1 N1
      refine seq_step fun N1 hN1 => ?_
      walk_at "dg"
      refine ⟨fun q => ?_, fun q7 => hN1 _ ?_⟩
      · rw [hd_with]
        exact hC _ ⟨a, ha, .inr (.inr (.inr (.inr ⟨b, hb, .inl rfl⟩)))⟩
      clear hN1 N1
      walk_at "dg"
      rw [hd_then]
      refine ⟨by decide +kernel, fun r r0 r1 => ⟨fun _ => ?_, fun _ => ?_⟩⟩
      · exact hC _ ⟨a, ha, .inr (.inr (.inr (.inr ⟨b, hb, .inr (.inl rfl)⟩)))⟩
      · exact hC _ ⟨a, ha, .inr (.inr (.inr (.inr ⟨b, hb, .inr (.inr rfl)⟩)))⟩
theorem Vf.mono {n : Nat} : ∀ {t : FT} {k j : Nat}, Vf n k t → k ≤ j → Vf n j t
  | .word l, _, _, h, _ => h
  | .node h it m f, k, j, ⟨h1, h2, h3⟩, hj => ⟨h1, fun z => h2 (by omega), fun i hi => Vf.mono (h3 i hi) (by omega)⟩
structure MsOk (ms us : List Cs) : Prop where
  ms : ∀ m ∈ ms, m = [109] ∨ m = [110]
  us : ∀ u ∈ us, u ≠ [] ∧ u.length ≤ 8 ∧ ∀ c ∈ u, c ∈ LET
theorem ag_itm {ms us : List Cs} (ok : MsOk ms us) {x : D} (h : AgOk ms x) (n : Nat) : ItmOk n hAgain (some x) 1 ∧ (itTx x).length = 1 := by
  rcases h with ⟨m, hm, rfl⟩ | ⟨i, rfl, i1, i2⟩
  · rcases ok.ms m hm with rfl | rfl
    · exact ⟨.inr (.inl ⟨rfl, rfl, _, rfl, .inl rfl⟩), rfl⟩
    · exact ⟨.inr (.inl ⟨rfl, rfl, _, rfl, .inr (.inl rfl)⟩), rfl⟩
  · refine ⟨.inr (.inl ⟨rfl, rfl, _, rfl, .inr (.inr ⟨i, rfl, i1, by omega⟩)⟩), ?_⟩
    show (TL.numL i.toNat).length = 1
    rw [num_one (by omega)]
    rfl
/-- at most so many signs -/
def mostL : Nat → Nat
  | 0 => 13
  | k + 1 => 3 * mostL k + 8
theorem mostL_ge : ∀ k, 13 ≤ mostL k
  | 0 => Nat.le_refl _
  | k + 1 => by
    have := mostL_ge k
    show 13 ≤ 3 * mostL k + 8
    omega
theorem itTx_nat {i : Nat} (h : i < 10) : (itTx (.int (i : Int))).length = 1 := by
  show (TL.numL (i : Int).toNat).length = 1
  rw [Int.toNat_natCast, num_one h]
  rfl
theorem text_nd1 {h : Cs} {x : D} {a : FT} : (nd1 h (some x) a).text.length = h.length + 3 + (itTx x).length + a.text.length := by
  show (h ++ 40 :: (glue ([itTx x] ++ [a.text]) ++ [41])).length = _
  simp [glue]
  omega
theorem text_nd0 {h : Cs} {a : FT} : (nd1 h none a).text.length = h.length + 2 + a.text.length := by
  show (h ++ 40 :: (glue ([] ++ [a.text]) ++ [41])).length = _
  simp [glue]
  omega
theorem text_nd2 {h : Cs} {a b : FT} : (nd2 h a b).text.length = h.length + 3 + a.text.length + b.text.length := by
  show (h ++ 40 :: (glue ([] ++ [a.text, b.text]) ++ [41])).length = _
  simp [glue]
  omega
theorem text_nd3 {h : Cs} {a b c : FT} : (nd3 h a b c).text.length = h.length + 4 + a.text.length + b.text.length + c.text.length := by
  show (h ++ 40 :: (glue ([] ++ [a.text, b.text, c.text]) ++ [41])).length = _
  simp [glue]
  omega
theorem leaf_ok {n : Nat} {ms us : List Cs} (ok : MsOk ms us) {t : FT} (h : Leaf n us t) (k : Nat) : Vf n k t ∧ t.text.length ≤ 13 := by
  rcases h with ⟨l, rfl, l1, l2, l3⟩ | ⟨u, hu, rfl⟩
  · exact ⟨⟨l1, by omega, l3⟩, by show l.length ≤ 13; omega⟩
  · obtain ⟨u1, u2, u3⟩ := ok.us u hu
    refine ⟨⟨.inl ⟨rfl, rfl, u, rfl, u1, u2, u3⟩, fun _ => rfl, fun i hi => by omega⟩, ?_⟩
    show (hUse ++ 40 :: (glue ([u] ++ []) ++ [41])).length ≤ 13
    simp [glue, hUse]
    omega
theorem comp_ok {n k : Nat} {ms us : List Cs} (ok : MsOk ms us) {S : FT → Prop} {t : FT} (hn : n ≤ 4) (hS : ∀ a, S a → Vf n k a ∧ a.text.length ≤ mostL k) (h : Comp n ms S t) : Vf n (k + 1) t ∧ t.text.length ≤ mostL (k + 1) := by
  have hm := mostL_ge k
  have em : mostL (k + 1) = 3 * mostL k + 8 := rfl
  have one : ∀ {h : Cs} {it : Option D} {a : FT}, Vf n k a → ItmOk n h it 1 → Vf n (k + 1) (nd1 h it a) := fun va hi => ⟨hi, fun z => by omega, fun i _ => va⟩
  obtain ⟨a, sa, q⟩ := h
  obtain ⟨va, la⟩ := hS a sa
  rw [em]
  rcases q with rfl | ⟨i, hi, rfl⟩ | ⟨i, hi, rfl⟩ | ⟨x, hx, rfl⟩ | ⟨b, sb, q⟩
  · exact ⟨one va (.inr (.inr (.inr (.inr (.inl ⟨rfl, rfl, rfl⟩))))), by rw [text_nd0]; simp [hBack]; omega⟩
  · exact ⟨one va (.inr (.inr (.inl ⟨rfl, rfl, i, rfl, hi⟩))), by rw [text_nd1, itTx_nat (by omega)]; simp [hTurned]; omega⟩
  · exact ⟨one va (.inr (.inr (.inr (.inl ⟨rfl, rfl, i, rfl, by omega⟩)))), by rw [text_nd1, itTx_nat (by omega)]; simp [hDouble]; omega⟩
  · obtain ⟨h1, h2⟩ := ag_itm ok hx n
    exact ⟨one va h1, by rw [text_nd1, h2]; simp [hAgain]; omega⟩
  · obtain ⟨vb, lb⟩ := hS b sb
    rcases q with rfl | rfl | rfl
    · refine ⟨⟨.inr (.inr (.inr (.inr (.inr (.inl ⟨rfl, rfl, rfl⟩))))), fun z => by omega, fun i hi => ?_⟩, by rw [text_nd2]; simp [hWith]; omega⟩
      show Vf n k (if i = 0 then a else b)
      split <;> assumption
    · refine ⟨⟨.inr (.inr (.inr (.inr (.inr (.inr ⟨rfl, by omega, by omega, rfl⟩))))), fun z => by omega, fun i hi => ?_⟩, by rw [text_nd2]; simp [hThen]; omega⟩
      show Vf n k (if i = 0 then a else b)
      split <;> assumption
    · refine ⟨⟨.inr (.inr (.inr (.inr (.inr (.inr ⟨rfl, by omega, by omega, rfl⟩))))), fun z => by omega, fun i hi => ?_⟩, by rw [text_nd3]; simp [hThen]; omega⟩
      show Vf n k (if i = 0 then a else if i = 1 then b else a)
      split
      · assumption
      · split <;> assumption
theorem tr_ok {n : Nat} {ms us : List Cs} (ok : MsOk ms us) (hn : n ≤ 4) : ∀ (k : Nat) {t : FT}, Tr n ms us k t → Vf n (k - 1) t ∧ t.text.length ≤ mostL (k - 1)
  | 0, t, h => leaf_ok ok h 0
  | 1, t, h => leaf_ok ok h 0
  | k + 2, t, h => by
    rcases h with h | h
    · obtain ⟨h1, h2⟩ := leaf_ok ok h (k + 1)
      exact ⟨h1, Nat.le_trans h2 (mostL_ge _)⟩
    · exact comp_ok ok hn (fun a ha => tr_ok ok hn (k + 1) ha) h
theorem cut_tail {x : D} {xs : List D} : cutD (x :: xs) (some 1) none = xs := by
  show ((x :: xs).drop (HT.sIx (x :: xs).length 0 (some ((1 : Nat) : Int)))).take (HT.sIx (x :: xs).length (x :: xs).length none - HT.sIx (x :: xs).length 0 (some ((1 : Nat) : Int))) = _
  rw [HT.sIx_nat, HT.sIx_none, List.length_cons, Nat.min_eq_left (by omega), List.drop_succ_cons, List.drop_zero, List.take_of_length_le (by omega)]
theorem glue_cons {x y : Cs} {xs : List Cs} : glue (x :: y :: xs) = x ++ 44 :: glue (y :: xs) := by
  simp [glue]
theorem glue_join : ∀ xs : List Cs, Txt.join (tx [44]) (xs.map tx) = tx (glue xs) := fun xs => by
  rw [tx_join_sep]
  congr 1
  induction xs with
  | nil => rfl
  | cons x xs ih =>
    cases xs with
    | nil => simp [glue, List.intercalate]
    | cons y ys =>
      rw [glue_cons, ← ih]
      simp [List.intercalate, List.intersperse]
theorem glue_len : ∀ xs : List Cs, (xs.map List.length).sum ≤ (glue xs).length ∧ xs.length ≤ (glue xs).length + 1
  | [] => ⟨Nat.le_refl _, by simp⟩
  | [x] => by simp [glue]
  | x :: y :: xs => by
    obtain ⟨h1, h2⟩ := glue_len (y :: xs)
    rw [glue_cons]
    simp only [List.map_cons, List.sum_cons, List.length_cons, List.length_append] at h1 h2 ⊢
    omega
theorem tx_lens : ∀ xs : List Cs, ((xs.map tx).map (·.length)).sum = (xs.map List.length).sum
  | [] => rfl
  | x :: xs => by
    rw [List.map_cons, List.map_cons, List.map_cons, List.sum_cons, List.sum_cons, tx_lens xs]
    rfl
theorem mem_le_sum : ∀ {l : List Nat} {x : Nat}, x ∈ l → x ≤ l.sum
  | y :: l, x, h => by
    rw [List.sum_cons]
    rcases List.mem_cons.mp h with rfl | h
    · omega
    · have := mem_le_sum h
      omega
theorem itm_kind {n m : Nat} {h : Cs} {x : D} (hn : n ≤ 4) (ok : ItmOk n h (some x) m) : (∃ l, x = .str (tx l)) ∨ ∃ i : Int, x = .int i ∧ 0 ≤ i ∧ i ≤ 999999999999999999999999999999 := by
  rcases ok with ⟨_, _, l, e, _⟩ | ⟨_, _, y, e, q⟩ | ⟨_, _, j, e, q⟩ | ⟨_, _, j, e, q⟩ | ⟨_, _, e⟩ | ⟨_, _, e⟩ | ⟨_, _, _, e⟩
  · cases e; exact .inl ⟨l, rfl⟩
  · cases e
    rcases q with rfl | rfl | ⟨i, rfl, i1, i2⟩
    · exact .inl ⟨_, rfl⟩
    · exact .inl ⟨_, rfl⟩
    · exact .inr ⟨i, rfl, by omega, i2⟩
  · cases e; exact .inr ⟨j, rfl, by omega, by omega⟩
  · cases e; exact .inr ⟨j, rfl, by omega, by omega⟩
  all_goals cases e
theorem log_30 {i : Int} (h0 : 0 ≤ i) (h : i ≤ 999999999999999999999999999999) : i.natAbs.log2 < 1920 := by
  by_cases z : i.natAbs = 0
  · rw [z]
    decide
  refine Nat.lt_of_lt_of_le ((Nat.log2_lt z).mpr (show i.natAbs < 2 ^ 100 from ?_)) (by decide)
  have : (2 : Nat) ^ 100 = 1267650600228229401496703205376 := by decide
  omega
theorem tx_open : ("(" : Str) = tx [40] := by decide +kernel
theorem tx_word : ("word" : Str) = tx [119, 111, 114, 100] := by decide +kernel
theorem itm_word {n m : Nat} {h : Cs} {it : Option D} (ok : ItmOk n h it m) : tx h ≠ ("word" : Str) := fun z => by
  rw [tx_word, w_tx_eq] at z
  rcases ok with ⟨rfl, _⟩ | ⟨rfl, _⟩ | ⟨rfl, _⟩ | ⟨rfl, _⟩ | ⟨rfl, _⟩ | ⟨rfl, _⟩ | ⟨rfl, _⟩ <;> exact absurd z (by decide)
def F__law_text (m : Nat) : Spec
  | [x], R, Rx => ∃ (k n : Nat) (t : FT), m = k + 1 ∧ x = t.d ∧ Vf n k t ∧ n ≤ 4 ∧ t.text.length ≤ 100000 ∧ R (.str (tx t.text))
  | _, _, _ => False
theorem F__law_text_is {m : Nat} {x : D} {R : D → Prop} {Rx : Er → Prop} : F__law_text m [x] R Rx = (∃ (k n : Nat) (t : FT), m = k + 1 ∧ x = t.d ∧ Vf n k t ∧ n ≤ 4 ∧ t.text.length ≤ 100000 ∧ R (.str (tx t.text))) := rfl
theorem F__law_text_of {m : Nat} {ds : List D} {R : D → Prop} {Rx : Er → Prop} (z : F__law_text m ds R Rx) : ∃ (x : D), ds = [x] ∧ (∃ (k n : Nat) (t : FT), m = k + 1 ∧ x = t.d ∧ Vf n k t ∧ n ≤ 4 ∧ t.text.length ≤ 100000 ∧ R (.str (tx t.text))) := by
  unfold F__law_text at z
  split at z
  · exact ⟨_, rfl, z⟩
  · exact z.elim
theorem z0__law_text {ds : List D} {R : D → Prop} {Rx : Er → Prop} : ¬ F__law_text 0 ds R Rx := fun h => by
  obtain ⟨_, _, k, n, t, z, _⟩ := F__law_text_of h
  cases z
def b__law_text (Dx : Df K mg "_law_text" s__law_text) : Binds K Dx.fd ["_law_tree_here"] [] := Dx.F.bindsN fun _ _ _ _ _ _ us hl => match us, hl with | [_], _ => rfl
def n__law_text : List Str := ["_law_tree_here", "_law_items", "_law_part"]
theorem sc__law_text : FnScope n__law_text ["_law_tree_here"] (defScope s__law_text) := ⟨rfl, rfl, rfl, by decide +kernel, rfl, by decide +kernel, by decide +kernel⟩
def dgN16 : Array Lean.Name := dgN15 ++ #[`F__law_text_is]
local macro_rules | `(tactic| walk_at "dg") => do let xs ← dgN16.mapM fun n => `(Lean.Parser.Tactic.simpLemma| $(Lean.mkIdent n):term); `(tactic| simp only [$xs,*, List.getElem?_cons_zero, List.getElem?_cons_succ])
theorem ok__law_text (T : Tx mg) (D__law_text : Df K mg "_law_text" s__law_text) (D__law_digits : Df K mg "_law_digits" s__law_digits) : ∀ m : Nat, FnOk P w K mg base (L2.CX P w) (2 + m) D__law_text.f D__law_text.fd ["_law_tree_here"] (spD (F__law_text m))
| 0 => FnOk.mono (fn_false D__law_text fun ds R Rx h => z0__law_text h) (by omega)
| m + 1 => by
  have G__law_text := ok__law_text T D__law_text D__law_digits m
  have G__law_digits := ok__law_digits (P := P) (w := w) (base := base) T D__law_digits
  refine fn_d D__law_text.F sc__law_text (fun ds R Rx hs0 => ?_) (fun cdv A outer s H E hr => have hu := hr.units
    (ds_cons (s_if (dt_cmp (c_eq hu) (d_ix (d_var 0) d_int) d_str (nomark _)) (ds_one (s_ret (d_call G__law_digits (hr.mono (by first | exact Nat.le_refl _ | exact Nat.le_succ _ | exact Nat.le_trans (show _ ≤ 2 by decide) (Nat.le_add_right 2 _))) D__law_digits.g D__law_digits.F.kp (b__law_digits D__law_digits) .nil dfR_nil pass_d (da_cons (d_ix (d_var 0) d_int) da_nil)))) ds_nil)
    (ds_cons (s_setLc (i := 1) rfl sc__law_text.nd (i_tup (d_slice (d_var 0) (do_some d_int) do_none)) (blkOk_by (own := [("_law_part", 2)]) (N := n__law_text) (sc := defScope s__law_text) (by decide +kernel)) (by decide) (fun _ _ _ _ _ => (g_name (i := 2) sc__law_text.nd)) (fun _ _ _ _ _ => dts_nil) (fun _ _ _ _ _ => (d_if (dt_tru (d_callB b_isi T.m_isinstance PyProof.Rows.boot_isinstance (da_cons (d_var 2) (da_cons (d_bty T.m_tuple PyProof.Rows.boot_tuple) da_nil)))) (d_call G__law_text (hr.mono (by first | exact Nat.le_refl _ | exact Nat.le_succ _ | exact Nat.le_trans (show _ ≤ 2 by decide) (Nat.le_add_right 2 _))) D__law_text.g D__law_text.F.kp (b__law_text D__law_text) .nil dfR_nil passL (da_cons (d_var 2) da_nil)) (d_callT b_strA T.m_str PyProof.Rows.boot_str (da_cons (d_var 2) da_nil)))))
    (ds_one (s_ret (d_add (d_add (d_add (d_ix (d_var 0) d_int) d_str) (d_join d_str (d_var 1))) d_str))))) ) fun ds R Rx hs0 => ?_
  · obtain ⟨_, rfl, _⟩ := F__law_text_of hs0
    rfl
  · obtain ⟨x, rfl, hs⟩ := F__law_text_of hs0
    clear hs0
    simp only [n__law_text]
    obtain ⟨k, n, t, hk, rfl, hv, hn, hl, hR⟩ := hs
    obtain rfl : k = m := (Nat.succ.inj hk).symm
    cases t with
    | word l =>
      obtain ⟨v1, v2, v3⟩ := hv
      simp only [FT.d, wordD]
      refine seq_step fun N1 hN1 => ?_
      walk_at "dg"
      have hf : ∀ c ∈ l, 48 ≤ c ∧ c ≤ 57 := fun c hc => by
        have := fig_take (v3 c hc)
        simp only [FIG, List.mem_cons, List.not_mem_nil, or_false] at this
        omega
      refine ⟨l.map fun (c : Nat) => (c : Int) - 48, .inr (by rw [List.map_map]; rfl), fun y hy => ?_, by rw [List.length_map]; omega, ?_⟩
      · obtain ⟨c, hc, rfl⟩ := List.mem_map.mp hy
        have := hf c hc
        omega
      · have : digC (l.map fun (c : Nat) => (c : Int) - 48) = l := by
          unfold digC
          rw [List.map_map]
          conv => rhs; rw [← List.map_id l]
          refine List.map_congr_left fun c hc => ?_
          have := hf c hc
          show (48 + ((c : Int) - 48)).toNat = c
          omega
        rw [this]
        exact hR
    | node h it j f =>
      obtain ⟨ok, hk0, hf⟩ := hv
      simp only [FT.d]
      refine seq_step fun N1 hN1 => ?_
      walk_at "dg"
      refine ⟨fun z => absurd z (itm_word ok), fun _ => hN1 _ ?_⟩
      clear hN1 N1
      refine seq_step fun N1 hN1 => ?_
      walk_at "dg"
      rw [cut_tail]
      have ed : it.toList ++ (List.range j).map (fun i => (f i).d) = (it.toList.map Sum.inl ++ (List.range j).map fun i => Sum.inr (f i)).map (Sum.elim _root_.id FT.d) := by
        rw [List.map_append, List.map_map, List.map_map]
        congr 1
        exact (List.map_id _).symm
      have hj : it.toList.length ≤ 1 ∧ j ≤ 6 := by
        refine ⟨by cases it <;> simp, ?_⟩
        rcases ok with ⟨_, z, _⟩ | ⟨_, z, _⟩ | ⟨_, z, _⟩ | ⟨_, z, _⟩ | ⟨_, z, _⟩ | ⟨_, z, _⟩ | ⟨_, _, z, _⟩ <;> omega
      have et : (FT.node h it j f).text = h ++ 40 :: (glue ((it.map itTx).toList ++ (List.range j).map fun i => (f i).text) ++ [41]) := rfl
      have lt : ∀ i, i < j → (f i).text.length ≤ 100000 := fun i hi => by
        have g := (glue_len ((it.map itTx).toList ++ (List.range j).map fun i => (f i).text)).1
        have m : (f i).text.length ∈ (((it.map itTx).toList ++ (List.range j).map fun i => (f i).text).map List.length) := List.mem_map.mpr ⟨_, List.mem_append_right _ (List.mem_map.mpr ⟨i, List.mem_range.mpr hi, rfl⟩), rfl⟩
        have s := mem_le_sum m
        rw [et] at hl
        simp only [List.length_append, List.length_cons] at hl g
        omega
      rw [ed]
      refine LcP.of (fun z => Sum.elim (fun x => D.str (tx (itTx x))) (fun t => D.str (tx t.text)) z) (by simp only [List.length_append, List.length_map, List.length_range]; rw [sizeLine_eq]; omega) (fun i z N ei hN => ?_) ?_
      · rcases List.mem_append.mp (List.mem_of_getElem? ei) with hz | hz
        · obtain ⟨x, hx, rfl⟩ := List.mem_map.mp hz
          cases it with
          | none => cases hx
          | some y =>
            obtain rfl := List.mem_singleton.mp hx
            rcases itm_kind hn ok with ⟨l, rfl⟩ | ⟨q, rfl, q0, q1⟩
            · have hN : N (.str (tx l)) := hN
              show yName 2 (D.str (tx l)) _ _
              walk_at "dg"
              exact hN
            · have hN : N (.str (tx (TL.numL q.toNat))) := hN
              show yName 2 (D.int q) _ _
              walk_at "dg"
              rw [num_tx q0]
              exact ⟨log_30 q0 q1, hN⟩
        · obtain ⟨i2, hi2, rfl⟩ := List.mem_map.mp hz
          have hi2 := List.mem_range.mp hi2
          have hN : N (.str (tx (f i2).text)) := hN
          show yName 2 (f i2).d _ _
          have hv2 := hf i2 hi2
          have hl2 := lt i2 hi2
          obtain ⟨k', rfl⟩ : ∃ k', k = k' + 1 := ⟨k - 1, by omega⟩
          have fin : F__law_text (k' + 1) [(f i2).d] N noX := ⟨k', n, f i2, rfl, rfl, hv2, hn, hl2, hN⟩
          have istup : ∃ xs, (f i2).d = .tup xs := by
            cases f i2 with
            | word l => exact ⟨_, rfl⟩
            | node h2 it2 n2 f2 => exact ⟨_, rfl⟩
          obtain ⟨xs, exs⟩ := istup
          rw [exs]
          walk_at "dg"
          exact ⟨k', rfl, n, f i2, exs.symm, hv2, hn, hl2, hN⟩
      · refine hN1 _ ?_
        clear hN1 N1
        have e2 : (it.toList.map Sum.inl ++ (List.range j).map fun i => Sum.inr (f i)).map (fun (z : D ⊕ FT) => Sum.elim (fun x => D.str (tx (itTx x))) (fun (t : FT) => D.str (tx t.text)) z) = ((((it.map itTx).toList ++ (List.range j).map fun i => (f i).text)).map tx).map D.str := by
          rw [List.map_append, List.map_append, List.map_append, List.map_map, List.map_map, List.map_map, List.map_map, List.map_map]
          congr 1
          cases it <;> rfl
        rw [e2]
        rw [et] at hl hR
        clear e2 ed et lt ok hf hk0
        generalize (it.map itTx).toList ++ ((List.range j).map fun i => (f i).text) = L at *
        obtain ⟨g1, g2⟩ := glue_len L
        have lx := tx_lens L
        simp only [List.length_append, List.length_cons, List.length_nil] at hl
        have ln : (L.map tx).length = L.length := List.length_map ..
        walk_at "dg"
        rw [tx_open, tx_comma, tx_close, glue_join]
        walk_at "dg"
        refine ⟨by omega, by rw [lx]; omega, by omega, by omega, ?_⟩
        have : h ++ [40] ++ glue L ++ [41] = h ++ 40 :: (glue L ++ [41]) := by simp
        rw [this]
        exact hR
local macro_rules | `(tactic| walk_at "rk") => `(tactic| first
  | assumption
  | (refine rok_app ?_ ?_ ?_ <;> first | walk_at "rk" | (simp only [List.length_append, List.length_reverse, List.length_map, List.length_replicate]; omega))
  | (refine rok_rev ?_; walk_at "rk")
  | (refine rok_map ?_ _ (fun t => fmod_in (by assumption)); walk_at "rk")
  | omega
  | decide
  | (refine log_lt (k := 80) ?_ (by decide) (by decide); omega))
local macro_rules | `(tactic| walk_at "fin") => `(tactic| ((repeat' (first | (with_reducible assumption) | (with_reducible refine And.intro ?_ ?_) | (with_reducible intro _))); all_goals first | (with_reducible assumption) | omega | contradiction | trivial))
local macro_rules | `(tactic| walk_at "cj") => `(tactic| repeat' (refine And.intro (by walk_at "rk") ?_))
def FT.subs : FT → List FT
  | .word _ => []
  | .node _ _ q f => (List.range q).map f
theorem d_tup_of : ∀ t : FT, ∃ xs, t.d = .tup xs
  | .word _ => ⟨_, rfl⟩
  | .node _ _ _ _ => ⟨_, rfl⟩
theorem filter_inl (l : List D) : (l.map (Sum.inl : D → D ⊕ FT)).filter (fun z => z.isRight) = [] := by
  induction l with
  | nil => rfl
  | cons a l ih => exact ih
theorem filter_inr {j : Nat} {f : Nat → FT} : ((List.range j).map fun i => (Sum.inr (f i) : D ⊕ FT)).filter (fun z => z.isRight) = (List.range j).map fun i => (Sum.inr (f i) : D ⊕ FT) := by
  rw [List.filter_eq_self]
  intro z hz
  obtain ⟨i, _, rfl⟩ := List.mem_map.mp hz
  rfl
local macro_rules | `(tactic| walk_at "dg") => do let xs ← dgN16.mapM fun n => `(Lean.Parser.Tactic.simpLemma| $(Lean.mkIdent n):term); `(tactic| simp only [$xs,*, List.getElem?_cons_zero, List.getElem?_cons_succ])
def F_parts_of : Spec
  | [x], R, Rx => ∃ (k n : Nat) (t : FT), x = t.d ∧ Vf n k t ∧ n ≤ 4 ∧ R (.lst (t.subs.map FT.d))
  | _, _, _ => False
theorem F_parts_of_is {x : D} {R : D → Prop} {Rx : Er → Prop} : F_parts_of [x] R Rx = (∃ (k n : Nat) (t : FT), x = t.d ∧ Vf n k t ∧ n ≤ 4 ∧ R (.lst (t.subs.map FT.d))) := rfl
theorem F_parts_of_of {ds : List D} {R : D → Prop} {Rx : Er → Prop} (z : F_parts_of ds R Rx) : ∃ (x : D), ds = [x] ∧ (∃ (k n : Nat) (t : FT), x = t.d ∧ Vf n k t ∧ n ≤ 4 ∧ R (.lst (t.subs.map FT.d))) := by
  unfold F_parts_of at z
  split at z
  · exact ⟨_, rfl, z⟩
  · exact z.elim
def b_parts_of (Dx : Df K mg "parts_of" s_parts_of) : Binds K Dx.fd ["tree"] [] := Dx.F.bindsN fun _ _ _ _ _ _ us hl => match us, hl with | [_], _ => rfl
def n_parts_of : List Str := ["tree", "part"]
theorem sc_parts_of : FnScope n_parts_of ["tree"] (defScope s_parts_of) := ⟨rfl, rfl, rfl, by decide +kernel, rfl, by decide +kernel, by decide +kernel⟩
theorem ok_parts_of (T : Tx mg) (D_parts_of : Df K mg "parts_of" s_parts_of) : FnOk P w K mg base (L2.CX P w) 1 D_parts_of.f D_parts_of.fd ["tree"] (spD F_parts_of) := by

  refine fn_d D_parts_of.F sc_parts_of (fun ds R Rx hs0 => ?_) (fun cdv A outer s H E hr => have hu := hr.units
    (ds_one (s_ret (d_if (dt_cmp (c_ne hu) (d_ix (d_var 0) d_int) d_str (nomark _)) (d_ofF (f_lc rfl sc_parts_of.nd (i_tup (d_slice (d_var 0) (do_some d_int) do_none)) (blkOk_by (own := [("part", 1)]) (N := n_parts_of) (sc := defScope s_parts_of) (by decide +kernel)) (by decide) (fun _ _ _ _ _ => (g_name (i := 1) sc_parts_of.nd)) (fun _ _ _ _ _ => (dts_one (dt_tru (d_callB b_isi T.m_isinstance PyProof.Rows.boot_isinstance (da_cons (d_var 1) (da_cons (d_bty T.m_tuple PyProof.Rows.boot_tuple) da_nil)))))) (fun _ _ _ _ _ => (d_var 1)))) (d_ofF (f_lst da_nil))))) ) fun ds R Rx hs0 => ?_
  · obtain ⟨_, rfl, _⟩ := F_parts_of_of hs0
    rfl
  · obtain ⟨x, rfl, hs⟩ := F_parts_of_of hs0
    clear hs0
    simp only [n_parts_of]
    obtain ⟨k, n, t, rfl, hv, hn, hR⟩ := hs
    cases t with
    | word l =>
      simp only [FT.d, wordD]
      walk_at "dg"
      exact hR
    | node h it j f =>
      obtain ⟨ok, hk0, hf⟩ := hv
      simp only [FT.d]
      walk_at "dg"
      rw [cut_tail]
      have ed : it.toList ++ (List.range j).map (fun i => (f i).d) = (it.toList.map Sum.inl ++ (List.range j).map fun i => Sum.inr (f i)).map (Sum.elim _root_.id FT.d) := by
        rw [List.map_append, List.map_map, List.map_map]
        congr 1
        exact (List.map_id _).symm
      have hj : it.toList.length ≤ 1 ∧ j ≤ 6 := by
        refine ⟨by cases it <;> simp, ?_⟩
        rcases ok with ⟨_, z, _⟩ | ⟨_, z, _⟩ | ⟨_, z, _⟩ | ⟨_, z, _⟩ | ⟨_, z, _⟩ | ⟨_, z, _⟩ | ⟨_, _, z, _⟩ <;> omega
      refine ⟨fun _ => ?_, fun z => absurd z (itm_word ok)⟩
      rw [ed]
      refine LcP.filt (as := it.toList.map Sum.inl ++ (List.range j).map fun i => Sum.inr (f i)) (fun z => z.isRight) (Sum.elim _root_.id FT.d) (by simp only [List.length_append, List.length_map, List.length_range]; rw [sizeLine_eq]; omega) (fun i z N M ei g1 g2 => ?_) ?_
      · rcases List.mem_append.mp (List.mem_of_getElem? ei) with hz | hz
        · obtain ⟨x, hx, rfl⟩ := List.mem_map.mp hz
          have gm : M := g2 rfl
          cases it with
          | none => cases hx
          | some y =>
            obtain rfl := List.mem_singleton.mp hx
            rcases itm_kind hn ok with ⟨l, rfl⟩ | ⟨q, rfl, q0, q1⟩
            · show yName 1 (D.str (tx l)) _ _
              walk_at "dg"
              exact gm
            · show yName 1 (D.int q) _ _
              walk_at "dg"
              exact gm
        · obtain ⟨i2, hi2, rfl⟩ := List.mem_map.mp hz
          have g1 : N (f i2).d := g1 rfl
          obtain ⟨xs, exs⟩ := d_tup_of (f i2)
          show yName 1 (f i2).d _ _
          rw [exs] at g1 ⊢
          walk_at "dg"
          exact g1
      · have e2 : ((it.toList.map Sum.inl ++ (List.range j).map fun i => (Sum.inr (f i) : D ⊕ FT)).filter fun (z : D ⊕ FT) => z.isRight).map (Sum.elim _root_.id FT.d) = (FT.node h it j f).subs.map FT.d := by
          rw [List.filter_append, filter_inl, List.nil_append, filter_inr, List.map_map]
          show _ = ((List.range j).map f).map FT.d
          rw [List.map_map]
          rfl
        rw [e2]
        exact hR
theorem subs_len {n k : Nat} : ∀ {t : FT}, Vf n k t → t.subs.length ≤ 6
  | .word _, _ => Nat.zero_le 6
  | .node h it q f, ⟨ok, _, _⟩ => by
    show ((List.range q).map f).length ≤ 6
    rw [List.length_map, List.length_range]
    rcases ok with ⟨_, z, _⟩ | ⟨_, z, _⟩ | ⟨_, z, _⟩ | ⟨_, z, _⟩ | ⟨_, z, _⟩ | ⟨_, z, _⟩ | ⟨_, _, z, _⟩ <;> omega
theorem subs_vf {n k : Nat} : ∀ {t s : FT}, Vf n k t → s ∈ t.subs → 1 ≤ k ∧ Vf n (k - 1) s
  | .word _, _, _, h => by cases h
  | .node _ _ q f, s, ⟨_, h0, hf⟩, h => by
    obtain ⟨i, hi, rfl⟩ := List.mem_map.mp h
    have hi := List.mem_range.mp hi
    exact ⟨Nat.pos_of_ne_zero fun z => by have := h0 z; omega, hf i hi⟩
theorem foldr_max : ∀ l : List Nat, (l.foldr max 0 = 0 ∨ l.foldr max 0 ∈ l) ∧ ∀ x ∈ l, x ≤ l.foldr max 0
  | [] => ⟨.inl rfl, fun x h => by cases h⟩
  | a :: l => by
    obtain ⟨h1, h2⟩ := foldr_max l
    refine ⟨?_, fun x h => ?_⟩
    · show max a (l.foldr max 0) = 0 ∨ max a (l.foldr max 0) ∈ a :: l
      rcases Nat.le_total a (l.foldr max 0) with z | z
      · rw [Nat.max_eq_right z]
        exact h1.imp id fun q => List.mem_cons_of_mem _ q
      · rw [Nat.max_eq_left z]
        exact .inr List.mem_cons_self
    · show x ≤ max a (l.foldr max 0)
      rcases List.mem_cons.mp h with rfl | h
      · exact Nat.le_max_left _ _
      · exact Nat.le_trans (h2 x h) (Nat.le_max_right _ _)
theorem max_is {l : List Nat} {m : Int} (h : m ∈ (0 : Int) :: l.map (fun x : Nat => (x : Int)) ∧ ∀ y ∈ (0 : Int) :: l.map (fun x : Nat => (x : Int)), y ≤ m) : m = (l.foldr max 0 : Nat) := by
  obtain ⟨h1, h2⟩ := h
  obtain ⟨g1, g2⟩ := foldr_max l
  have a : ((l.foldr max 0 : Nat) : Int) ≤ m := by
    rcases g1 with z | z
    · rw [z]
      exact h2 0 List.mem_cons_self
    · exact h2 _ (List.mem_cons_of_mem _ (List.mem_map_of_mem z))
  rcases List.mem_cons.mp h1 with rfl | h1
  · omega
  · obtain ⟨x, hx, rfl⟩ := List.mem_map.mp h1
    have := g2 x hx
    omega
/-- the depth of a tree -/
def FT.dep : FT → Nat
  | .word _ => 1
  | .node _ _ q f => 1 + ((List.range q).map fun i => (f i).dep).foldr max 0
theorem dep_is : ∀ {t : FT}, t.dep = 1 + (t.subs.map FT.dep).foldr max 0
  | .word _ => rfl
  | .node _ _ q f => by
    show 1 + ((List.range q).map fun i => (f i).dep).foldr max 0 = 1 + (((List.range q).map f).map FT.dep).foldr max 0
    rw [List.map_map]
    rfl
theorem asInts_dep {l : List FT} : asInts (l.map fun t => D.int (t.dep : Nat)) = some (l.map fun t => ((t.dep : Nat) : Int)) := by
  have := asInts_map (l.map fun t => ((t.dep : Nat) : Int))
  rwa [List.map_map] at this
def dgN17 : Array Lean.Name := dgN16 ++ #[`F_parts_of_is]
local macro_rules | `(tactic| walk_at "dg") => do let xs ← dgN17.mapM fun n => `(Lean.Parser.Tactic.simpLemma| $(Lean.mkIdent n):term); `(tactic| simp only [$xs,*, List.getElem?_cons_zero, List.getElem?_cons_succ])
def F_depth_of (m : Nat) : Spec
  | [x], R, Rx => ∃ (k n : Nat) (t : FT), m = k + 1 ∧ x = t.d ∧ Vf n k t ∧ n ≤ 4 ∧ R (.int (t.dep : Nat))
  | _, _, _ => False
theorem F_depth_of_is {m : Nat} {x : D} {R : D → Prop} {Rx : Er → Prop} : F_depth_of m [x] R Rx = (∃ (k n : Nat) (t : FT), m = k + 1 ∧ x = t.d ∧ Vf n k t ∧ n ≤ 4 ∧ R (.int (t.dep : Nat))) := rfl
theorem F_depth_of_of {m : Nat} {ds : List D} {R : D → Prop} {Rx : Er → Prop} (z : F_depth_of m ds R Rx) : ∃ (x : D), ds = [x] ∧ (∃ (k n : Nat) (t : FT), m = k + 1 ∧ x = t.d ∧ Vf n k t ∧ n ≤ 4 ∧ R (.int (t.dep : Nat))) := by
  unfold F_depth_of at z
  split at z
  · exact ⟨_, rfl, z⟩
  · exact z.elim
theorem z0_depth_of {ds : List D} {R : D → Prop} {Rx : Er → Prop} : ¬ F_depth_of 0 ds R Rx := fun h => by
  obtain ⟨_, _, k, n, t, z, _⟩ := F_depth_of_of h
  cases z
def b_depth_of (Dx : Df K mg "depth_of" s_depth_of) : Binds K Dx.fd ["tree"] [] := Dx.F.bindsN fun _ _ _ _ _ _ us hl => match us, hl with | [_], _ => rfl
def n_depth_of : List Str := ["tree", "part"]
theorem sc_depth_of : FnScope n_depth_of ["tree"] (defScope s_depth_of) := ⟨rfl, rfl, rfl, by decide +kernel, rfl, by decide +kernel, by decide +kernel⟩
def dgN18 : Array Lean.Name := dgN17 ++ #[`F_depth_of_is]
local macro_rules | `(tactic| walk_at "dg") => do let xs ← dgN18.mapM fun n => `(Lean.Parser.Tactic.simpLemma| $(Lean.mkIdent n):term); `(tactic| simp only [$xs,*, List.getElem?_cons_zero, List.getElem?_cons_succ])
theorem ok_depth_of (T : Tx mg) (D_depth_of : Df K mg "depth_of" s_depth_of) (D_parts_of : Df K mg "parts_of" s_parts_of) : ∀ m : Nat, FnOk P w K mg base (L2.CX P w) (3 + m) D_depth_of.f D_depth_of.fd ["tree"] (spD (F_depth_of m))
| 0 => FnOk.mono (fn_false D_depth_of fun ds R Rx h => z0_depth_of h) (by omega)
| m + 1 => by
  have G_depth_of := ok_depth_of T D_depth_of D_parts_of m
  have G_parts_of := ok_parts_of (P := P) (w := w) (base := base) T D_parts_of
  refine fn_d D_depth_of.F sc_depth_of (fun ds R Rx hs0 => ?_) (fun cdv A outer s H E hr => have hu := hr.units
    (ds_one (s_ret (d_add d_int (d_callB (b_max1 rfl) T.m_max PyProof.Rows.boot_max (da_cons (d_ofF (f_lst (da_cons d_int (da_star (d_ofF (f_lc rfl sc_depth_of.nd (i_list (d_call G_parts_of (hr.mono (by first | exact Nat.le_refl _ | exact Nat.le_succ _ | exact Nat.le_trans (show _ ≤ 3 by decide) (Nat.le_add_right 3 _))) D_parts_of.g D_parts_of.F.kp (b_parts_of D_parts_of) .nil dfR_nil pass_d (da_cons (d_var 0) da_nil))) (blkOk_by (own := [("part", 1)]) (N := n_depth_of) (sc := defScope s_depth_of) (by decide +kernel)) (by decide) (fun _ _ _ _ _ => (g_name (i := 1) sc_depth_of.nd)) (fun _ _ _ _ _ => dts_nil) (fun _ _ _ _ _ => (d_call G_depth_of (hr.mono (by first | exact Nat.le_refl _ | exact Nat.le_succ _ | exact Nat.le_trans (show _ ≤ 3 by decide) (Nat.le_add_right 3 _))) D_depth_of.g D_depth_of.F.kp (b_depth_of D_depth_of) .nil dfR_nil passL (da_cons (d_var 1) da_nil))))) da_nil)))) da_nil))))) ) fun ds R Rx hs0 => ?_
  · obtain ⟨_, rfl, _⟩ := F_depth_of_of hs0
    rfl
  · obtain ⟨x, rfl, hs⟩ := F_depth_of_of hs0
    clear hs0
    simp only [n_depth_of]
    obtain ⟨k, n, t, hk, rfl, hv, hn, hR⟩ := hs
    obtain rfl : k = m := (Nat.succ.inj hk).symm
    walk_at "dg"
    refine ⟨k, n, t, rfl, hv, hn, ?_⟩
    refine LcP.of (as := t.subs) (g := FT.d) (fun t => .int (t.dep : Nat)) (by have := subs_len hv; rw [sizeLine_eq]; omega) (fun i s N ei hN => ?_) ?_
    · obtain ⟨k1, hv1⟩ := subs_vf hv (List.mem_of_getElem? ei)
      obtain ⟨k', rfl⟩ : ∃ k', k = k' + 1 := ⟨k - 1, by omega⟩
      walk_at "dg"
      exact ⟨k', rfl, n, s, rfl, hv1, hn, hN⟩
    · have h6 := subs_len hv
      refine ⟨by rw [List.length_map]; omega, 0 :: t.subs.map (fun s => ((s.dep : Nat) : Int)), by rw [asInts_dep]; rfl, by simp, fun m hm hm2 => ?_⟩
      rw [dep_is] at hR
      have : m = ((t.subs.map FT.dep).foldr max 0 : Nat) := max_is (by
        have e : t.subs.map (fun s => ((s.dep : Nat) : Int)) = (t.subs.map FT.dep).map (fun x : Nat => (x : Int)) := by rw [List.map_map]; rfl
        rw [← e]
        exact ⟨hm, hm2⟩)
      rw [this]
      have e : (1 + ((t.subs.map FT.dep).foldr max 0 : Nat) : Int) = ((1 + (t.subs.map FT.dep).foldr max 0 : Nat) : Int) := by omega
      rw [e]
      exact hR
def F_Form_depth (C : Addr) : Spec
  | [r], R, Rx => ∃ (k n : Nat) (t : FT) (s : Str), r = formO C t.d n s ∧ Vf n k t ∧ n ≤ 4 ∧ k ≤ 7 ∧ R (.int (t.dep : Nat))
  | _, _, _ => False
theorem F_Form_depth_is {C : Addr} {r : D} {R : D → Prop} {Rx : Er → Prop} : F_Form_depth C [r] R Rx = (∃ (k n : Nat) (t : FT) (s : Str), r = formO C t.d n s ∧ Vf n k t ∧ n ≤ 4 ∧ k ≤ 7 ∧ R (.int (t.dep : Nat))) := rfl
theorem F_Form_depth_of {C : Addr} {ds : List D} {R : D → Prop} {Rx : Er → Prop} (z : F_Form_depth C ds R Rx) : ∃ (r : D), ds = [r] ∧ (∃ (k n : Nat) (t : FT) (s : Str), r = formO C t.d n s ∧ Vf n k t ∧ n ≤ 4 ∧ k ≤ 7 ∧ R (.int (t.dep : Nat))) := by
  unfold F_Form_depth at z
  split at z
  · exact ⟨_, rfl, z⟩
  · exact z.elim
def b_Form_depth (Dx : Dm K "depth" "Form.depth" s_Form_depth) : Binds K Dx.fd ["self"] [] := Dx.F.bindsN fun _ _ _ _ _ _ us hl => match us, hl with | [_], _ => rfl
def n_Form_depth : List Str := ["self"]
theorem sc_Form_depth : FnScope n_Form_depth ["self"] (defScope s_Form_depth) := ⟨rfl, rfl, rfl, by decide +kernel, rfl, by decide +kernel, by decide +kernel⟩
theorem ok_Form_depth (T : Tx mg) (K_Form : Kx_Form K mg) (D_depth_of : Df K mg "depth_of" s_depth_of) (D_parts_of : Df K mg "parts_of" s_parts_of) : FnOk P w K mg base (L2.CX P w) 12 K_Form.D_depth.f K_Form.D_depth.fd ["self"] (spD (F_Form_depth K_Form.C)) := by
  have G_depth_of := ok_depth_of (P := P) (w := w) (base := base) T D_depth_of D_parts_of 8
  refine fn_d K_Form.D_depth.F sc_Form_depth (fun ds R Rx hs0 => ?_) (fun cdv A outer s H E hr => have hu := hr.units
    (ds_one (s_ret (d_call G_depth_of (hr.mono (by decide)) D_depth_of.g D_depth_of.F.kp (b_depth_of D_depth_of) .nil dfR_nil pass_d (da_cons (d_fld (d_var 0) K_Form.cls K_Form.n_tree) da_nil)))) ) fun ds R Rx hs0 => ?_
  · obtain ⟨_, rfl, _⟩ := F_Form_depth_of hs0
    rfl
  · obtain ⟨r, rfl, hs⟩ := F_Form_depth_of hs0
    clear hs0
    simp only [n_Form_depth]
    obtain ⟨k, n, t, s, rfl, hv, hn, hk, hR⟩ := hs
    walk_at "dg"
    exact ⟨7, rfl, n, t, rfl, hv.mono hk, hn, hR⟩
def FT.kindS : FT → Cs
  | .word _ => [119, 111, 114, 100]
  | .node h _ _ _ => h
def dgN19 : Array Lean.Name := dgN18 ++ #[`F_Form_depth_is]
local macro_rules | `(tactic| walk_at "dg") => do let xs ← dgN19.mapM fun n => `(Lean.Parser.Tactic.simpLemma| $(Lean.mkIdent n):term); `(tactic| simp only [$xs,*, List.getElem?_cons_zero, List.getElem?_cons_succ])
def F_Form_kind (C : Addr) : Spec
  | [r], R, Rx => ∃ (n : Int) (t : FT) (s : Str), r = formO C t.d n s ∧ R (.str (tx t.kindS))
  | _, _, _ => False
theorem F_Form_kind_is {C : Addr} {r : D} {R : D → Prop} {Rx : Er → Prop} : F_Form_kind C [r] R Rx = (∃ (n : Int) (t : FT) (s : Str), r = formO C t.d n s ∧ R (.str (tx t.kindS))) := rfl
theorem F_Form_kind_of {C : Addr} {ds : List D} {R : D → Prop} {Rx : Er → Prop} (z : F_Form_kind C ds R Rx) : ∃ (r : D), ds = [r] ∧ (∃ (n : Int) (t : FT) (s : Str), r = formO C t.d n s ∧ R (.str (tx t.kindS))) := by
  unfold F_Form_kind at z
  split at z
  · exact ⟨_, rfl, z⟩
  · exact z.elim
def b_Form_kind (Dx : Dm K "kind" "Form.kind" s_Form_kind) : Binds K Dx.fd ["self"] [] := Dx.F.bindsN fun _ _ _ _ _ _ us hl => match us, hl with | [_], _ => rfl
def n_Form_kind : List Str := ["self"]
theorem sc_Form_kind : FnScope n_Form_kind ["self"] (defScope s_Form_kind) := ⟨rfl, rfl, rfl, by decide +kernel, rfl, by decide +kernel, by decide +kernel⟩
theorem ok_Form_kind (T : Tx mg) (K_Form : Kx_Form K mg) : FnOk P w K mg base (L2.CX P w) 1 K_Form.D_kind.f K_Form.D_kind.fd ["self"] (spD (F_Form_kind K_Form.C)) := by

  refine fn_d K_Form.D_kind.F sc_Form_kind (fun ds R Rx hs0 => ?_) (fun cdv A outer s H E hr => have hu := hr.units
    (ds_one (s_ret (d_ix (d_fld (d_var 0) K_Form.cls K_Form.n_tree) d_int))) ) fun ds R Rx hs0 => ?_
  · obtain ⟨_, rfl, _⟩ := F_Form_kind_of hs0
    rfl
  · obtain ⟨r, rfl, hs⟩ := F_Form_kind_of hs0
    clear hs0
    simp only [n_Form_kind]
    obtain ⟨n, t, s, rfl, hR⟩ := hs
    cases t with
    | word l =>
      simp only [FT.d, wordD]
      walk_at "dg"
      rw [tx_word]
      exact hR
    | node h it j f =>
      simp only [FT.d]
      walk_at "dg"
      exact hR
theorem figs_of {n : Nat} {l : Cs} (h : ∀ c ∈ l, c ∈ FIG.take n) : ∀ c ∈ l, 48 ≤ c ∧ c ≤ 57 := fun c hc => by
  have := fig_take (h c hc)
  simp only [FIG, List.mem_cons, List.not_mem_nil, or_false] at this
  omega
theorem flat_one : ∀ l : Cs, (l.map fun c => [c]).flatten = l
  | [] => rfl
  | c :: l => by rw [List.map_cons, List.flatten_cons, flat_one l]; rfl
def dgN20 : Array Lean.Name := dgN19 ++ #[`F_Form_kind_is]
local macro_rules | `(tactic| walk_at "dg") => do let xs ← dgN20.mapM fun n => `(Lean.Parser.Tactic.simpLemma| $(Lean.mkIdent n):term); `(tactic| simp only [$xs,*, List.getElem?_cons_zero, List.getElem?_cons_succ])
def F_text_of (m : Nat) : Spec
  | [x], R, Rx => ∃ (k n : Nat) (t : FT), m = k + 1 ∧ x = t.d ∧ Vf n k t ∧ n ≤ 4 ∧ t.text.length ≤ 100000 ∧ R (.str (tx t.text))
  | _, _, _ => False
theorem F_text_of_is {m : Nat} {x : D} {R : D → Prop} {Rx : Er → Prop} : F_text_of m [x] R Rx = (∃ (k n : Nat) (t : FT), m = k + 1 ∧ x = t.d ∧ Vf n k t ∧ n ≤ 4 ∧ t.text.length ≤ 100000 ∧ R (.str (tx t.text))) := rfl
theorem F_text_of_of {m : Nat} {ds : List D} {R : D → Prop} {Rx : Er → Prop} (z : F_text_of m ds R Rx) : ∃ (x : D), ds = [x] ∧ (∃ (k n : Nat) (t : FT), m = k + 1 ∧ x = t.d ∧ Vf n k t ∧ n ≤ 4 ∧ t.text.length ≤ 100000 ∧ R (.str (tx t.text))) := by
  unfold F_text_of at z
  split at z
  · exact ⟨_, rfl, z⟩
  · exact z.elim
theorem z0_text_of {ds : List D} {R : D → Prop} {Rx : Er → Prop} : ¬ F_text_of 0 ds R Rx := fun h => by
  obtain ⟨_, _, k, n, t, z, _⟩ := F_text_of_of h
  cases z
def b_text_of (Dx : Df K mg "text_of" s_text_of) : Binds K Dx.fd ["tree"] [] := Dx.F.bindsN fun _ _ _ _ _ _ us hl => match us, hl with | [_], _ => rfl
def n_text_of : List Str := ["tree", "items", "hand", "part"]
theorem sc_text_of : FnScope n_text_of ["tree"] (defScope s_text_of) := ⟨rfl, rfl, rfl, by decide +kernel, rfl, by decide +kernel, by decide +kernel⟩
def dgN21 : Array Lean.Name := dgN20 ++ #[`F_text_of_is]
local macro_rules | `(tactic| walk_at "dg") => do let xs ← dgN21.mapM fun n => `(Lean.Parser.Tactic.simpLemma| $(Lean.mkIdent n):term); `(tactic| simp only [$xs,*, List.getElem?_cons_zero, List.getElem?_cons_succ])
theorem ok_text_of (T : Tx mg) (D_text_of : Df K mg "text_of" s_text_of) : ∀ m : Nat, FnOk P w K mg base (L2.CX P w) (1 + m) D_text_of.f D_text_of.fd ["tree"] (spD (F_text_of m))
| 0 => FnOk.mono (fn_false D_text_of fun ds R Rx h => z0_text_of h) (by omega)
| m + 1 => by
  have G_text_of := ok_text_of T D_text_of m

  refine fn_d D_text_of.F sc_text_of (fun ds R Rx hs0 => ?_) (fun cdv A outer s H E hr => have hu := hr.units
    (ds_cons (s_if (dt_cmp (c_eq hu) (d_ix (d_var 0) d_int) d_str (nomark _)) (ds_one (s_ret (d_join d_str (d_ofF (f_lc rfl sc_text_of.nd (i_tup (d_ix (d_var 0) d_int)) (blkOk_by (own := [("hand", 2)]) (N := n_text_of) (sc := defScope s_text_of) (by decide +kernel)) (by decide) (fun _ _ _ _ _ => (g_name (i := 2) sc_text_of.nd)) (fun _ _ _ _ _ => dts_nil) (fun _ _ _ _ _ => (d_callT b_strA T.m_str PyProof.Rows.boot_str (da_cons (d_var 2) da_nil)))))))) ds_nil)
    (ds_cons (s_setLc (i := 1) rfl sc_text_of.nd (i_tup (d_slice (d_var 0) (do_some d_int) do_none)) (blkOk_by (own := [("part", 3)]) (N := n_text_of) (sc := defScope s_text_of) (by decide +kernel)) (by decide) (fun _ _ _ _ _ => (g_name (i := 3) sc_text_of.nd)) (fun _ _ _ _ _ => dts_nil) (fun _ _ _ _ _ => (d_if (dt_tru (d_callB b_isi T.m_isinstance PyProof.Rows.boot_isinstance (da_cons (d_var 3) (da_cons (d_bty T.m_tuple PyProof.Rows.boot_tuple) da_nil)))) (d_call G_text_of (hr.mono (by first | exact Nat.le_refl _ | exact Nat.le_succ _ | exact Nat.le_trans (show _ ≤ 1 by decide) (Nat.le_add_right 1 _))) D_text_of.g D_text_of.F.kp (b_text_of D_text_of) .nil dfR_nil passL (da_cons (d_var 3) da_nil)) (d_callT b_strA T.m_str PyProof.Rows.boot_str (da_cons (d_var 3) da_nil)))))
    (ds_one (s_ret (d_joined (dj_cons (d_fmt (d_ix (d_var 0) d_int)) (dj_cons d_str (dj_cons (d_fmt (d_join d_str (d_var 1))) (dj_cons d_str dj_nil))))))))) ) fun ds R Rx hs0 => ?_
  · obtain ⟨_, rfl, _⟩ := F_text_of_of hs0
    rfl
  · obtain ⟨x, rfl, hs⟩ := F_text_of_of hs0
    clear hs0
    simp only [n_text_of]
    obtain ⟨k, n, t, hk, rfl, hv, hn, hl, hR⟩ := hs
    obtain rfl : k = m := (Nat.succ.inj hk).symm
    cases t with
    | word l =>
      obtain ⟨v1, v2, v3⟩ := hv
      simp only [FT.d, wordD]
      refine seq_step fun N1 hN1 => ?_
      walk_at "dg"
      have hf := figs_of v3
      refine LcP.of (as := l) (g := fun (c : Nat) => D.int ((c : Int) - 48)) (fun c => .str (tx [c])) (by rw [sizeLine_eq]; omega) (fun i c N ei hN => ?_) ?_
      · have := hf c (List.mem_of_getElem? ei)
        walk_at "dg"
        rw [tx_digit (by omega) (by omega)]
        rw [show (48 + ((c : Int) - 48)).toNat = c by omega]
        exact ⟨log_30 (by omega) (by omega), hN⟩
      · rw [show (l.map fun c => D.str (tx [c])) = ((l.map fun c => [c]).map tx).map D.str by rw [List.map_map, List.map_map]; rfl]
        refine ⟨_, w_asStrs _, ?_, ?_⟩
        · rw [tx_lens, List.map_map, show (List.length ∘ fun c : Nat => [c]) = fun _ => 1 from rfl, List.map_const', List.sum_replicate_nat, List.length_map, List.length_map]
          show _ + _ * 0 ≤ _
          omega
        · rw [tx_join, flat_one]
          exact hR
    | node h it j f =>
      obtain ⟨ok, hk0, hf⟩ := hv
      simp only [FT.d]
      refine seq_step fun N1 hN1 => ?_
      walk_at "dg"
      refine ⟨fun z => absurd z (itm_word ok), fun _ => hN1 _ ?_⟩
      clear hN1 N1
      refine seq_step fun N1 hN1 => ?_
      walk_at "dg"
      rw [cut_tail]
      have ed : it.toList ++ (List.range j).map (fun i => (f i).d) = (it.toList.map Sum.inl ++ (List.range j).map fun i => Sum.inr (f i)).map (Sum.elim _root_.id FT.d) := by
        rw [List.map_append, List.map_map, List.map_map]
        congr 1
        exact (List.map_id _).symm
      have hj : it.toList.length ≤ 1 ∧ j ≤ 6 := by
        refine ⟨by cases it <;> simp, ?_⟩
        rcases ok with ⟨_, z, _⟩ | ⟨_, z, _⟩ | ⟨_, z, _⟩ | ⟨_, z, _⟩ | ⟨_, z, _⟩ | ⟨_, z, _⟩ | ⟨_, _, z, _⟩ <;> omega
      have et : (FT.node h it j f).text = h ++ 40 :: (glue ((it.map itTx).toList ++ (List.range j).map fun i => (f i).text) ++ [41]) := rfl
      have lt : ∀ i, i < j → (f i).text.length ≤ 100000 := fun i hi => by
        have g := (glue_len ((it.map itTx).toList ++ (List.range j).map fun i => (f i).text)).1
        have m : (f i).text.length ∈ (((it.map itTx).toList ++ (List.range j).map fun i => (f i).text).map List.length) := List.mem_map.mpr ⟨_, List.mem_append_right _ (List.mem_map.mpr ⟨i, List.mem_range.mpr hi, rfl⟩), rfl⟩
        have s := mem_le_sum m
        rw [et] at hl
        simp only [List.length_append, List.length_cons] at hl g
        omega
      rw [ed]
      refine LcP.of (fun z => Sum.elim (fun x => D.str (tx (itTx x))) (fun t => D.str (tx t.text)) z) (by simp only [List.length_append, List.length_map, List.length_range]; rw [sizeLine_eq]; omega) (fun i z N ei hN => ?_) ?_
      · rcases List.mem_append.mp (List.mem_of_getElem? ei) with hz | hz
        · obtain ⟨x, hx, rfl⟩ := List.mem_map.mp hz
          cases it with
          | none => cases hx
          | some y =>
            obtain rfl := List.mem_singleton.mp hx
            rcases itm_kind hn ok with ⟨l, rfl⟩ | ⟨q, rfl, q0, q1⟩
            · have hN : N (.str (tx l)) := hN
              show yName 3 (D.str (tx l)) _ _
              walk_at "dg"
              exact hN
            · have hN : N (.str (tx (TL.numL q.toNat))) := hN
              show yName 3 (D.int q) _ _
              walk_at "dg"
              rw [num_tx q0]
              exact ⟨log_30 q0 q1, hN⟩
        · obtain ⟨i2, hi2, rfl⟩ := List.mem_map.mp hz
          have hi2 := List.mem_range.mp hi2
          have hN : N (.str (tx (f i2).text)) := hN
          show yName 3 (f i2).d _ _
          have hv2 := hf i2 hi2
          have hl2 := lt i2 hi2
          obtain ⟨k', rfl⟩ : ∃ k', k = k' + 1 := ⟨k - 1, by omega⟩
          obtain ⟨xs, exs⟩ := d_tup_of (f i2)
          rw [exs]
          walk_at "dg"
          exact ⟨k', rfl, n, f i2, exs.symm, hv2, hn, hl2, hN⟩
      · refine hN1 _ ?_
        clear hN1 N1
        have e2 : (it.toList.map Sum.inl ++ (List.range j).map fun i => Sum.inr (f i)).map (fun (z : D ⊕ FT) => Sum.elim (fun x => D.str (tx (itTx x))) (fun (t : FT) => D.str (tx t.text)) z) = ((((it.map itTx).toList ++ (List.range j).map fun i => (f i).text)).map tx).map D.str := by
          rw [List.map_append, List.map_append, List.map_append, List.map_map, List.map_map, List.map_map, List.map_map, List.map_map]
          congr 1
          cases it <;> rfl
        rw [e2]
        rw [et] at hl hR
        clear e2 ed et lt ok hf hk0
        generalize (it.map itTx).toList ++ ((List.range j).map fun i => (f i).text) = L at *
        obtain ⟨g1, g2⟩ := glue_len L
        have lx := tx_lens L
        simp only [List.length_append, List.length_cons, List.length_nil] at hl
        have ln : (L.map tx).length = L.length := List.length_map ..
        walk_at "dg"
        rw [tx_emp, tx_open, tx_comma, tx_close, glue_join]
        walk_at "dg"
        refine ⟨by omega, by omega, by omega, by rw [lx]; omega, by omega, by omega, ?_⟩
        have : h ++ [40] ++ glue L ++ [41] = h ++ 40 :: (glue L ++ [41]) := by simp
        try rw [this]
        exact ⟨by omega, hR⟩
/-- whether a value is a name -/
def isName : D → Bool
  | .str s => decide (1 ≤ s.length) && decide (s.length ≤ 8) && s.cps.toList.all fun c => decide (c ∈ LET)
  | _ => false
def F_is_name : Spec
  | [v], R, Rx => v.dat = true ∧ (∀ s, v = .str s → s.length ≤ 100000) ∧ R (.bl (isName v))
  | _, _, _ => False
theorem F_is_name_is {v : D} {R : D → Prop} {Rx : Er → Prop} : F_is_name [v] R Rx = (v.dat = true ∧ (∀ s, v = .str s → s.length ≤ 100000) ∧ R (.bl (isName v))) := rfl
theorem F_is_name_of {ds : List D} {R : D → Prop} {Rx : Er → Prop} (z : F_is_name ds R Rx) : ∃ (v : D), ds = [v] ∧ (v.dat = true ∧ (∀ s, v = .str s → s.length ≤ 100000) ∧ R (.bl (isName v))) := by
  unfold F_is_name at z
  split at z
  · exact ⟨_, rfl, z⟩
  · exact z.elim
def b_is_name (Dx : Df K mg "is_name" s_is_name) : Binds K Dx.fd ["value"] [] := Dx.F.bindsN fun _ _ _ _ _ _ us hl => match us, hl with | [_], _ => rfl
def n_is_name : List Str := ["value", "sign"]
theorem sc_is_name : FnScope n_is_name ["value"] (defScope s_is_name) := ⟨rfl, rfl, rfl, by decide +kernel, rfl, by decide +kernel, by decide +kernel⟩
theorem ok_is_name (T : Tx mg) (D_is_name : Df K mg "is_name" s_is_name) : FnOk P w K mg base (L2.CX P w) 1 D_is_name.f D_is_name.fd ["value"] (spD F_is_name) := by

  refine fn_d D_is_name.F sc_is_name (fun ds R Rx hs0 => ?_) (fun cdv A outer s H E hr => have hu := hr.units
    (ds_one (s_ret (d_and (d_callB b_isi T.m_isinstance PyProof.Rows.boot_isinstance (da_cons (d_var 0) (da_cons (d_bty T.m_str PyProof.Rows.boot_str) da_nil))) (d_and (d_chain c_le c_le d_int (d_callB b_len T.m_len boot_len (da_cons (d_var 0) da_nil)) (d_gint T.c_MOST_NAME)) (d_one (d_callB (b_all rfl) T.m_all PyProof.Rows.boot_all (da_cons (d_ofF (f_lc rfl sc_is_name.nd (i_str (d_var 0)) (blkOk_by (own := [("sign", 1)]) (N := n_is_name) (sc := defScope s_is_name) (by decide +kernel)) (by decide) (fun _ _ _ _ _ => (g_name (i := 1) sc_is_name.nd)) (fun _ _ _ _ _ => dts_nil) (fun _ _ _ _ _ => (d_cmp c_in (d_var 1) (d_gstr T.c_LETTERS) rfl)))) da_nil))))))) ) fun ds R Rx hs0 => ?_
  · obtain ⟨_, rfl, _⟩ := F_is_name_of hs0
    rfl
  · obtain ⟨v, rfl, hs⟩ := F_is_name_of hs0
    clear hs0
    simp only [n_is_name]
    obtain ⟨hd, hl, hR⟩ := hs
    cases v <;> try exact (Bool.false_ne_true hd).elim
    all_goals walk_at "dg"
    all_goals try exact hR
    rename_i s
    obtain ⟨l, rfl⟩ : ∃ l, s = tx l := ⟨_, rfl⟩
    have h1 := hl _ rfl
    have h1 : l.length ≤ 100000 := h1
    have e0 : isName (.str (tx l)) = (decide (1 ≤ l.length) && decide (l.length ≤ 8) && l.all fun c => decide (c ∈ LET)) := rfl
    rw [e0] at hR
    rw [let_eq]
    walk_at "dg"
    refine ⟨by omega, fun z1 => ⟨fun z2 => ?_, fun z2 => ?_⟩, fun z1 => ?_⟩
    · rw [decide_eq_true (by omega), decide_eq_true (by omega)] at hR
      refine LcP.of (as := l) (g := fun (c : Nat) => D.str (tx [c])) (fun c => .bl (decide (c ∈ LET))) (by rw [sizeLine_eq]; omega) (fun i c N ei hN => ?_) ?_
      · walk_at "dg"
        rw [wants_in (.inl rfl)]
        exact hN
      · refine ⟨l.map fun c => decide (c ∈ LET), ?_, ?_⟩
        · rw [show (l.map fun c => D.bl (decide (c ∈ LET))) = (l.map fun c => decide (c ∈ LET)).map D.bl by rw [List.map_map]; rfl]
          exact asBls_map _
        · rw [List.all_map]
          exact hR
    · rw [decide_eq_false (p := l.length ≤ 8) (by omega), Bool.and_false, Bool.false_and] at hR
      exact hR
    · rw [decide_eq_false (p := 1 ≤ l.length) (by omega), Bool.false_and, Bool.false_and] at hR
      exact hR
/-- the names or the counts in a tree, as they stand -/
def selIt (g h : Cs) (it : Option D) : List Cs := if h = g then (match it with | some (.str s) => [s.cps.toList] | _ => []) else []
def FT.sel (g : Cs) : FT → List Cs
  | .word _ => []
  | .node h it q f => selIt g h it ++ ((List.range q).map fun i => (f i).sel g).flatten
def FT.sel0 (g : Cs) : FT → List Cs
  | .word _ => []
  | .node h it q f => selIt g h it
theorem sel_is {g : Cs} : ∀ {t : FT}, t.sel g = t.sel0 g ++ (t.subs.map (FT.sel g)).flatten
  | .word _ => rfl
  | .node h it q f => by
    show selIt g h it ++ ((List.range q).map fun i => (f i).sel g).flatten = selIt g h it ++ (((List.range q).map f).map (FT.sel g)).flatten
    rw [List.map_map]
    rfl
theorem mem_glue {x : Cs} : ∀ {xs : List Cs}, x ∈ xs → x.length ≤ (glue xs).length := fun {xs} hx => by
  have g := (glue_len xs).1
  have s := mem_le_sum (List.mem_map.mpr ⟨x, hx, rfl⟩ : x.length ∈ xs.map List.length)
  omega
theorem sub_text : ∀ {t s : FT}, s ∈ t.subs → s.text.length ≤ t.text.length
  | .word _, _, h => by cases h
  | .node h it q f, s, hs => by
    obtain ⟨i, hi, rfl⟩ := List.mem_map.mp hs
    have m := mem_glue (x := (f i).text) (xs := (it.map itTx).toList ++ (List.range q).map fun i => (f i).text) (List.mem_append_right _ (List.mem_map.mpr ⟨i, hi, rfl⟩))
    have et : (FT.node h it q f).text = h ++ 40 :: (glue ((it.map itTx).toList ++ (List.range q).map fun i => (f i).text) ++ [41]) := rfl
    rw [et, List.length_append, List.length_cons, List.length_append]
    omega
theorem glue_sum : ∀ {xs : List Cs}, xs ≠ [] → (xs.map fun x => x.length + 1).sum = (glue xs).length + 1
  | [], h => absurd rfl h
  | [x], _ => by simp [glue]
  | x :: y :: xs, _ => by
    rw [glue_cons, List.map_cons, List.sum_cons, glue_sum (xs := y :: xs) (by simp), List.length_append, List.length_cons]
    omega
theorem flat_le {α : Type} {w : α → Nat} {g : α → List Cs} : ∀ {l : List α}, (∀ a ∈ l, 7 * (g a).length ≤ w a) → 7 * ((l.map g).flatten).length ≤ (l.map w).sum
  | [], _ => Nat.le_refl _
  | a :: l, h => by
    have h1 := h a List.mem_cons_self
    have h2 := flat_le (l := l) fun b hb => h b (List.mem_cons_of_mem _ hb)
    rw [List.map_cons, List.flatten_cons, List.length_append, List.map_cons, List.sum_cons]
    omega
theorem flat_take {α β : Type} {g : α → List β} (l : List α) (i : Nat) : (((l.take i).map g).flatten).length ≤ ((l.map g).flatten).length := by
  conv => rhs; rw [← List.take_append_drop i l, List.map_append, List.flatten_append, List.length_append]
  omega
/-- an item that is told: a name, or a count -/
theorem sel0_vf {n : Nat} {g h : Cs} {it : Option D} {q : Nat} {f : Nat → FT} (ok : ItmOk n h it q) (e : h = g) (hg : g = hUse ∨ g = hAgain) :
    (∃ l : Cs, it = some (.str (tx l)) ∧ l ≠ [] ∧ l.length ≤ 8 ∧ (FT.node h it q f).sel0 g = [l] ∧ (g = hUse ∧ q = 0 ∧ isName (.str (tx l)) = true ∨ g = hAgain ∧ q = 1 ∧ (l = [109] ∨ l = [110]))) ∨ g = hAgain ∧ ∃ i : Int, it = some (.int i) ∧ q = 1 ∧ (FT.node h it q f).sel0 g = [] := by
  subst e
  have si : ∀ l : Cs, (FT.node h (some (.str (tx l))) q f).sel0 h = [l] := fun l => by
    show selIt h h (some (.str (tx l))) = [l]
    unfold selIt
    rw [if_pos rfl]
    rfl
  rcases hg with hg | hg
  · rcases ok with ⟨_, e, l, e2, l1, l2, l3⟩ | ⟨z, _⟩ | ⟨z, _⟩ | ⟨z, _⟩ | ⟨z, _⟩ | ⟨z, _⟩ | ⟨z, _⟩
    · subst e2
      refine .inl ⟨l, rfl, l1, l2, si l, .inl ⟨hg, e, ?_⟩⟩
      have : 0 < l.length := List.length_pos_iff.mpr l1
      show (decide (1 ≤ l.length) && decide (l.length ≤ 8) && l.all fun c => decide (c ∈ LET)) = true
      rw [decide_eq_true (by omega), decide_eq_true (by omega), Bool.true_and, Bool.true_and, List.all_eq_true]
      exact fun c hc => decide_eq_true (l3 c hc)
    all_goals rw [hg] at z; exact absurd z (by decide)
  · rcases ok with ⟨z, _⟩ | ⟨_, e, x, e2, q2⟩ | ⟨z, _⟩ | ⟨z, _⟩ | ⟨z, _⟩ | ⟨z, _⟩ | ⟨z, _⟩
    · rw [hg] at z; exact absurd z (by decide)
    · subst e2
      rcases q2 with rfl | rfl | ⟨i, rfl, _⟩
      · exact .inl ⟨[109], rfl, by decide, by decide, si _, .inr ⟨hg, e, .inl rfl⟩⟩
      · exact .inl ⟨[110], rfl, by decide, by decide, si _, .inr ⟨hg, e, .inr rfl⟩⟩
      · refine .inr ⟨hg, i, rfl, e, ?_⟩
        show selIt h h (some (.int i)) = []
        unfold selIt
        rw [if_pos rfl]
    all_goals rw [hg] at z; exact absurd z (by decide)
theorem sel_len {n : Nat} {g_ : Cs} (hg : g_ = hUse ∨ g_ = hAgain) : ∀ {t : FT} {k : Nat}, Vf n k t → 7 * (t.sel g_).length ≤ t.text.length + 1
  | .word l, _, _ => by show 7 * 0 ≤ _; omega
  | .node h it q f, k, ⟨ok, h0, hf⟩ => by
    have et : (FT.node h it q f).text = h ++ 40 :: (glue ((it.map itTx).toList ++ (List.range q).map fun i => (f i).text) ++ [41]) := rfl
    have eu : (FT.node h it q f).sel g_ = (FT.node h it q f).sel0 g_ ++ ((List.range q).map fun i => (f i).sel g_).flatten := rfl
    have key : 7 * (((List.range q).map fun i => (f i).sel g_).flatten).length ≤ ((List.range q).map fun i => (f i).text.length + 1).sum := flat_le (w := fun i => (f i).text.length + 1) fun i hi => sel_len hg (hf i (List.mem_range.mp hi))
    have gl : (it.map itTx).toList ++ ((List.range q).map fun i => (f i).text) ≠ [] → ((it.map itTx).toList.map fun x : Cs => x.length + 1).sum + ((List.range q).map fun i => (f i).text.length + 1).sum = (glue ((it.map itTx).toList ++ (List.range q).map fun i => (f i).text)).length + 1 := fun ne => by
      have g := glue_sum ne
      rw [List.map_append, List.sum_append, List.map_map] at g
      exact g
    have hq : it = none → 0 < q := fun e => by
      subst e
      rcases ok with ⟨_, _, l, z, _⟩ | ⟨_, _, x, z, _⟩ | ⟨_, z, _⟩ | ⟨_, z, _⟩ | ⟨_, z, _⟩ | ⟨_, z, _⟩ | ⟨_, z, _⟩
      · cases z
      · cases z
      all_goals omega
    have ne : (it.map itTx).toList ++ ((List.range q).map fun i => (f i).text) ≠ [] := fun y => by
      have := congrArg List.length y
      cases it with
      | none => have := hq rfl; simp at *; omega
      | some x => simp at this
    have g := gl ne
    rw [eu, et, List.length_append, List.length_append, List.length_cons, List.length_append]
    have h1 : 1 ≤ h.length := by
      rcases ok with ⟨z, _⟩ | ⟨z, _⟩ | ⟨z, _⟩ | ⟨z, _⟩ | ⟨z, _⟩ | ⟨z, _⟩ | ⟨z, _⟩ <;> rw [z] <;> decide
    by_cases e : h = g_
    · rcases sel0_vf (f := f) ok e hg with ⟨l, rfl, l1, l2, e0, z⟩ | ⟨_, i, rfl, _, e0⟩
      · rw [e0]
        have : 0 < l.length := List.length_pos_iff.mpr l1
        have g2 : ((Option.map itTx (some (D.str (tx l)))).toList.map fun x : Cs => x.length + 1).sum = l.length + 1 := rfl
        rw [g2] at g
        rcases z with ⟨rfl, rfl, _⟩ | ⟨rfl, rfl, _⟩
        · have h3 : h.length = 3 := by rw [e]; rfl
          simp at *
          omega
        · have h5 : h.length = 5 := by rw [e]; rfl
          simp only [List.length_singleton] at *
          omega
      · rw [e0]
        simp only [List.length_nil, List.length_singleton] at *
        omega
    · have e0 : (FT.node h it q f).sel0 g_ = [] := if_neg e
      rw [e0]
      simp only [List.length_nil, List.length_singleton] at *
      omega
local macro_rules | `(tactic| walk_at "rk") => `(tactic| first
  | assumption
  | (refine rok_app ?_ ?_ ?_ <;> first | walk_at "rk" | (simp only [List.length_append, List.length_reverse, List.length_map, List.length_replicate]; omega))
  | (refine rok_rev ?_; walk_at "rk")
  | (refine rok_map ?_ _ (fun t => fmod_in (by assumption)); walk_at "rk")
  | omega
  | decide
  | (refine log_lt (k := 80) ?_ (by decide) (by decide); omega))
local macro_rules | `(tactic| walk_at "fin") => `(tactic| ((repeat' (first | (with_reducible assumption) | (with_reducible refine And.intro ?_ ?_) | (with_reducible intro _))); all_goals first | (with_reducible assumption) | omega | contradiction | trivial))
local macro_rules | `(tactic| walk_at "cj") => `(tactic| repeat' (refine And.intro (by walk_at "rk") ?_))
def lq_Form_counts : Str := lamQual "Form.counts" (defScope s_Form_counts)
theorem lqe_Form_counts (n : Nat) (a : Addr) (v : Value) : (PyProof.Rows.envOfC "Form.counts" (defScope s_Form_counts) n a v).qual ++ "<lambda>" = lq_Form_counts := by unfold lq_Form_counts lamQual; rfl
def lam_0 : LamQ := lamQ lq_Form_counts [] (kid (kid (kid (sEx (dSub s_Form_counts 0)) 1) 1) 3)
theorem lls_0 : lamFB (defScope s_Form_counts) lam_0.scope = true := by decide +kernel
def lamTab : List LamQ := [lam_0]
theorem useh_eq : ("use" : Str) = tx hUse := by decide +kernel
theorem agh_eq : ("again" : Str) = tx hAgain := by decide +kernel
/-- what is wanted of a tree -/
def Want (fw : Addr) (hd : Str) (g : D) (gs : Cs) : Prop := hd = tx gs ∧ (gs = hUse ∧ g = .adr fw ∨ gs = hAgain ∧ ∃ cl z, g = .fn 0 cl z)
theorem Want.or {fw : Addr} {hd : Str} {g : D} {gs : Cs} (h : Want fw hd g gs) : gs = hUse ∨ gs = hAgain := h.2.imp (fun z => z.1) fun z => z.1
def dgN22 : Array Lean.Name := dgN21 ++ #[`F_is_name_is]
local macro_rules | `(tactic| walk_at "dg") => do let xs ← dgN22.mapM fun n => `(Lean.Parser.Tactic.simpLemma| $(Lean.mkIdent n):term); `(tactic| simp only [$xs,*, List.getElem?_cons_zero, List.getElem?_cons_succ])
def F_found_in (fw : Addr) (m : Nat) : Spec
  | [x, .str hd, g], R, Rx => ∃ (k n : Nat) (t : FT) (gs : Cs), m = k + 1 ∧ x = t.d ∧ Vf n k t ∧ n ≤ 4 ∧ t.text.length ≤ 100000 ∧ Want fw hd g gs ∧ R (.lst ((t.sel gs).map fun l => .str (tx l)))
  | _, _, _ => False
theorem F_found_in_is {fw : Addr} {m : Nat} {x : D} {hd : Str} {g : D} {R : D → Prop} {Rx : Er → Prop} : F_found_in fw m [x, .str hd, g] R Rx = (∃ (k n : Nat) (t : FT) (gs : Cs), m = k + 1 ∧ x = t.d ∧ Vf n k t ∧ n ≤ 4 ∧ t.text.length ≤ 100000 ∧ Want fw hd g gs ∧ R (.lst ((t.sel gs).map fun l => .str (tx l)))) := rfl
theorem F_found_in_of {fw : Addr} {m : Nat} {ds : List D} {R : D → Prop} {Rx : Er → Prop} (z : F_found_in fw m ds R Rx) : ∃ (x : D) (hd : Str) (g : D), ds = [x, .str hd, g] ∧ (∃ (k n : Nat) (t : FT) (gs : Cs), m = k + 1 ∧ x = t.d ∧ Vf n k t ∧ n ≤ 4 ∧ t.text.length ≤ 100000 ∧ Want fw hd g gs ∧ R (.lst ((t.sel gs).map fun l => .str (tx l)))) := by
  unfold F_found_in at z
  split at z
  · exact ⟨_, _, _, rfl, z⟩
  · exact z.elim
theorem z0_found_in {fw : Addr} {ds : List D} {R : D → Prop} {Rx : Er → Prop} : ¬ F_found_in fw 0 ds R Rx := fun h => by
  obtain ⟨_, _, _, _, k, n, t, gs, z, _⟩ := F_found_in_of h
  cases z
def b_found_in (Dx : Df K mg "found_in" s_found_in) : Binds K Dx.fd ["tree", "head", "wanted"] [] := Dx.F.bindsN fun _ _ _ _ _ _ us hl => match us, hl with | [_, _, _], _ => rfl
def n_found_in : List Str := ["tree", "head", "wanted", "found", "part"]
theorem sc_found_in : FnScope n_found_in ["tree", "head", "wanted"] (defScope s_found_in) := ⟨rfl, rfl, rfl, by decide +kernel, rfl, by decide +kernel, by decide +kernel⟩
def dgN23 : Array Lean.Name := dgN22 ++ #[`F_found_in_is]
local macro_rules | `(tactic| walk_at "dg") => do let xs ← dgN23.mapM fun n => `(Lean.Parser.Tactic.simpLemma| $(Lean.mkIdent n):term); `(tactic| simp only [$xs,*, List.getElem?_cons_zero, List.getElem?_cons_succ])
theorem ok_found_in (T : Tx mg) (D_found_in : Df K mg "found_in" s_found_in) (D_is_name : Df K mg "is_name" s_is_name) (D_parts_of : Df K mg "parts_of" s_parts_of) (U_COUNTS : Gt K mg "COUNTS" ["m", "n"]) (hlq : ∀ (i : Nat) (q : LamQ), lamTab[i]? = some q → TbC.lq i = q) : ∀ m : Nat, FnOk P w K mg base (L2.CX P w) (3 + m) D_found_in.f D_found_in.fd ["tree", "head", "wanted"] (spD (F_found_in D_is_name.f m))
| 0 => FnOk.mono (fn_false D_found_in fun ds R Rx h => z0_found_in h) (by omega)
| m + 1 => by
  have G_found_in := ok_found_in T D_found_in D_is_name D_parts_of U_COUNTS hlq m
  have G_is_name := ok_is_name (P := P) (w := w) (base := base) T D_is_name
  have G_parts_of := ok_parts_of (P := P) (w := w) (base := base) T D_parts_of
  refine fn_d D_found_in.F sc_found_in (fun ds R Rx hs0 => ?_) (fun cdv A outer s H E hr => have hu := hr.units
    (ds_cons (s_set (i := 3) sc_found_in.nd (d_if (dw_pt (dw_and (dt_cmp (c_eq hu) (d_ix (d_var 0) d_int) (d_var 1) (nomark _)) (dw_and1 (dt_tru (d_alt (d_callV 2 G_is_name (hr.mono (by first | exact Nat.le_refl _ | exact Nat.le_succ _ | exact Nat.le_trans (show _ ≤ 3 by decide) (Nat.le_add_right 3 _))) D_is_name.F.kp (b_is_name D_is_name) pass_d (da_cons (d_ix (d_var 0) d_int) da_nil)) (d_callFnQ (kl := 0) 2 0 (hlq 0 _ rfl) (lamC_of (hlq 0 _ rfl) (by decide +kernel) (fun _ _ _ _ _ us hl => match us, hl with | [_], _ => rfl)) (ps := ["count"]) (fun A outer s H E f c' cl hr => have hu := hr.units; (d_cmp (c_inG U_COUNTS.at_) (d_var 0) (d_gadr U_COUNTS.m) rfl)) (hr.mono (by first | exact Nat.le_refl _ | exact Nat.le_succ _ | exact Nat.le_trans (show _ ≤ 3 by decide) (Nat.le_add_right 3 _))) pass_d (da_cons (d_ix (d_var 0) d_int) da_nil))))))) (d_ofF (f_lst (da_cons (d_ix (d_var 0) d_int) da_nil))) (d_ofF (f_lst da_nil))))
    (ds_cons (s_for (passes_of rfl) rfl (i_list (d_call G_parts_of (hr.mono (by first | exact Nat.le_refl _ | exact Nat.le_succ _ | exact Nat.le_trans (show _ ≤ 3 by decide) (Nat.le_add_right 3 _))) D_parts_of.g D_parts_of.F.kp (b_parts_of D_parts_of) .nil dfR_nil pass_d (da_cons (d_var 0) da_nil))) (g_name (i := 4) sc_found_in.nd)
      (ds_one (s_set (i := 3) sc_found_in.nd (d_add (d_var 3) (d_call G_found_in (hr.mono (by first | exact Nat.le_refl _ | exact Nat.le_succ _ | exact Nat.le_trans (show _ ≤ 3 by decide) (Nat.le_add_right 3 _))) D_found_in.g D_found_in.F.kp (b_found_in D_found_in) .nil dfR_nil pass_d (da_cons (d_var 4) (da_cons (d_var 1) (da_cons (d_var 2) da_nil))))))))
    (ds_one (s_ret (d_var 3))))) ) fun ds R Rx hs0 => ?_
  · obtain ⟨_, _, _, rfl, _⟩ := F_found_in_of hs0
    rfl
  · obtain ⟨x, hd, g, rfl, hs⟩ := F_found_in_of hs0
    clear hs0
    simp only [n_found_in]
    obtain ⟨k, n, t, gs, hk, rfl, hv, hn, hlt, hw, hR⟩ := hs
    obtain rfl : k = m := (Nat.succ.inj hk).symm
    obtain ⟨rfl, hg⟩ := hw
    have hgo : gs = hUse ∨ gs = hAgain := hg.imp (fun z => z.1) fun z => z.1
    refine seq_step fun N1 hN1 => ?_
    have fin : N1 [some (.val t.d), some (.val (.str (tx gs))), some (.val g), some (.val (.lst ((t.sel0 gs).map fun l => .str (tx l)))), none] := by
      refine hN1 _ ?_
      clear hN1 N1
      refine seq_step fun N1 hN1 => for_step fun B1 hB1 => ?_
      walk_at "dg"
      refine ⟨k, n, t, rfl, hv, hn, ?_⟩
      have hl6 := subs_len hv
      have hul := sel_len hgo hv
      refine ⟨fun i env => ∃ e4 : Option DV, env = [some (.val t.d), some (.val (.str (tx gs))), some (.val g), some (.val (.lst ((t.sel0 gs ++ ((t.subs.take i).map (FT.sel gs)).flatten).map fun l => .str (tx l)))), e4], ⟨none, by simp⟩, ?_, ?_⟩
      · rintro i d env ed ⟨e4, rfl⟩
        rw [List.getElem?_map] at ed
        obtain ⟨s, es, rfl⟩ := Option.map_eq_some_iff.mp ed
        obtain ⟨k1, hv1⟩ := subs_vf hv (List.mem_of_getElem? es)
        obtain ⟨k', rfl⟩ : ∃ k', k = k' + 1 := ⟨k - 1, by omega⟩
        refine hB1 _ _ ?_
        clear hB1
        walk_at "dg"
        have e1 : t.subs.take (i + 1) = t.subs.take i ++ [s] := by rw [List.take_succ, es]; rfl
        have hle : (t.sel0 gs ++ ((t.subs.take (i + 1)).map (FT.sel gs)).flatten).length ≤ (t.sel gs).length := by
          rw [sel_is, List.length_append, List.length_append]
          exact Nat.add_le_add_left (flat_take _ _) _
        rw [e1, List.map_append, List.flatten_append, List.length_append, List.length_append] at hle
        have e3 : ([s].map (FT.sel gs)).flatten = s.sel gs := by simp
        rw [e3] at hle
        refine ⟨k', rfl, n, s, rfl, hv1, hn, Nat.le_trans (sub_text (List.mem_of_getElem? es)) hlt, gs, ⟨rfl, hg⟩, by omega, ?_⟩
        rw [e1]
        simp
      · rintro env ⟨e4, rfl⟩
        refine hN1 _ ?_
        rw [List.take_length, ← sel_is]
        walk_at "dg"
        exact hR
    clear hN1
    cases t with
    | word l =>
      simp only [FT.d, wordD] at fin ⊢
      walk_at "dg"
      refine ⟨fun z => ?_, fun _ => fin⟩
      rcases hgo with rfl | rfl <;> exact absurd z (by decide +kernel)
    | node h it q f =>
      obtain ⟨ok, h0, hf⟩ := hv
      simp only [FT.d] at fin ⊢
      walk_at "dg"
      refine ⟨fun z => ?_, fun z => ?_⟩
      · rcases sel0_vf (f := f) ok z hgo with ⟨l, rfl, l1, l2, e0, y⟩ | ⟨rfl, i, rfl, _, e0⟩
        · rw [e0] at fin
          have e1 : atI (D.str (tx h) :: (Option.toList (some (D.str (tx l))) ++ List.map (fun i => (f i).d) (List.range q))) 1 = some (.str (tx l)) := atI_nat (j := 1) rfl
          rw [e1]
          rcases y with ⟨rfl, rfl, en⟩ | ⟨rfl, rfl, y⟩
          · have hg : g = .adr D_is_name.f := by
              rcases hg with ⟨_, e⟩ | ⟨e, _⟩
              · exact e
              · exact absurd e (by decide)
            refine .inl ⟨hg, ?_⟩
            walk_at "dg"
            have l4 : (tx l).length = l.length := rfl
            refine ⟨fun s e => by rw [← e]; omega, fun _ => fin, fun y => absurd en (by rw [y]; decide)⟩
          · have hg : ∃ cl z, g = .fn 0 cl z := by
              rcases hg with ⟨e, _⟩ | ⟨_, e⟩
              · exact absurd e (by decide)
              · exact e
            refine .inr ⟨hg, ?_⟩
            walk_at "dg"
            refine ⟨fun _ => fin, fun ne => absurd ?_ ne⟩
            rcases y with rfl | rfl <;> decide +kernel
        · have e1 : atI (D.str (tx h) :: (Option.toList (some (D.int i)) ++ List.map (fun i => (f i).d) (List.range q))) 1 = some (.int i) := atI_nat (j := 1) rfl
          rw [e1]
          have hg : ∃ cl z, g = .fn 0 cl z := by
            rcases hg with ⟨e, _⟩ | ⟨_, e⟩
            · exact absurd e (by decide)
            · exact e
          rw [e0] at fin
          refine .inr ⟨hg, ?_⟩
          walk_at "dg"
          refine ⟨rfl, rfl, false, rfl, fun z => (by cases z), fun _ => fin⟩
      · have e0 : (FT.node h it q f).sel0 gs = [] := if_neg z
        rw [e0] at fin
        exact fin
/-- a list of texts that is sorted, each of L once -/
def Sorted (ys : List Str) (L : List Cs) : Prop := PyProof.Rows.sortedS ys = true ∧ ys.Nodup ∧ (∀ x, x ∈ ys ↔ ∃ l ∈ L, x = tx l) ∧ ys.length ≤ L.length
theorem rising_all : ∀ {r : List Str} {p : Str}, PyProof.Rows.risingS p r = true → ∀ x ∈ r, p.cps.toList ≤ x.cps.toList
  | [], _, _, x, hx => by cases hx
  | y :: r, p, h, x, hx => by
    have h0 : (!PySem.Spec.ltCps y.cps.toList p.cps.toList && PyProof.Rows.risingS y r) = true := h
    rw [Bool.and_eq_true, Bool.not_eq_true', PyProof.Rows.ltCps_eq, decide_eq_false_iff_not] at h0
    have h1 : p.cps.toList ≤ y.cps.toList := List.not_lt.mp h0.1
    rcases List.mem_cons.mp hx with rfl | hx
    · exact h1
    · exact List.le_trans h1 (rising_all h0.2 x hx)
theorem sorted_tail {y : Str} {r : List Str} (h : PyProof.Rows.sortedS (y :: r) = true) : PyProof.Rows.sortedS r = true := by
  cases r with
  | nil => rfl
  | cons x r =>
    have h0 : (!PySem.Spec.ltCps x.cps.toList y.cps.toList && PyProof.Rows.risingS x r) = true := h
    exact (Bool.and_eq_true _ _ ▸ h0).2
theorem str_ext {a b : Str} (h : a.cps.toList = b.cps.toList) : a = b := by
  obtain ⟨⟨a⟩⟩ := a
  obtain ⟨⟨b⟩⟩ := b
  have h : a = b := h
  rw [h]
theorem sorted_uniq : ∀ {ys zs : List Str}, PyProof.Rows.sortedS ys = true → PyProof.Rows.sortedS zs = true → ys.Nodup → zs.Nodup → (∀ x, x ∈ ys ↔ x ∈ zs) → ys = zs
  | [], [], _, _, _, _, _ => rfl
  | [], z :: zs, _, _, _, _, h => by have := (h z).mpr List.mem_cons_self; cases this
  | y :: ys, [], _, _, _, _, h => by have := (h y).mp List.mem_cons_self; cases this
  | y :: ys, z :: zs, s1, s2, n1, n2, h => by
    have e : y = z := by
      have a1 : z.cps.toList ≤ y.cps.toList := by
        rcases List.mem_cons.mp ((h y).mp List.mem_cons_self) with rfl | hm
        · exact List.le_refl _
        · exact rising_all s2 y hm
      have a2 : y.cps.toList ≤ z.cps.toList := by
        rcases List.mem_cons.mp ((h z).mpr List.mem_cons_self) with rfl | hm
        · exact List.le_refl _
        · exact rising_all s1 z hm
      exact str_ext (List.le_antisymm a2 a1)
    subst e
    obtain ⟨n1a, n1b⟩ := List.nodup_cons.mp n1
    obtain ⟨n2a, n2b⟩ := List.nodup_cons.mp n2
    rw [sorted_uniq (sorted_tail s1) (sorted_tail s2) n1b n2b fun x => ?_]
    have hx := h x
    rw [List.mem_cons, List.mem_cons] at hx
    constructor
    · intro hm
      rcases hx.mp (.inr hm) with rfl | z
      · exact absurd hm n1a
      · exact z
    · intro hm
      rcases hx.mpr (.inr hm) with rfl | z
      · exact absurd hm n2a
      · exact z
theorem Sorted.uniq {ys zs : List Str} {L : List Cs} (h1 : Sorted ys L) (h2 : Sorted zs L) : ys = zs := sorted_uniq h1.1 h2.1 h1.2.1 h2.2.1 fun x => (h1.2.2.1 x).trans (h2.2.2.1 x).symm
theorem Sorted.of {ys : List Str} {L : List Cs} (so : PyProof.Rows.sortedS ys = true) (nd : ys.Nodup) (hm : ∀ x, x ∈ ys ↔ x ∈ L.map tx) (hl : ys.length ≤ (L.map tx).length) : Sorted ys L :=
  ⟨so, nd, fun x => (hm x).trans (by rw [List.mem_map]; exact ⟨fun ⟨l, h1, h2⟩ => ⟨l, h1, h2.symm⟩, fun ⟨l, h1, h2⟩ => ⟨l, h1, h2.symm⟩⟩), by rw [List.length_map] at hl; exact hl⟩
def F_Form_names (C : Addr) : Spec
  | [r], R, Rx => ∃ (k n : Nat) (t : FT) (s : Str), r = formO C t.d n s ∧ Vf n k t ∧ n ≤ 4 ∧ k ≤ 7 ∧ t.text.length ≤ 400 ∧ ∀ ys : List Str, Sorted ys (t.sel hUse) → R (.lst (ys.map D.str))
  | _, _, _ => False
theorem F_Form_names_is {C : Addr} {r : D} {R : D → Prop} {Rx : Er → Prop} : F_Form_names C [r] R Rx = (∃ (k n : Nat) (t : FT) (s : Str), r = formO C t.d n s ∧ Vf n k t ∧ n ≤ 4 ∧ k ≤ 7 ∧ t.text.length ≤ 400 ∧ ∀ ys : List Str, Sorted ys (t.sel hUse) → R (.lst (ys.map D.str))) := rfl
theorem F_Form_names_of {C : Addr} {ds : List D} {R : D → Prop} {Rx : Er → Prop} (z : F_Form_names C ds R Rx) : ∃ (r : D), ds = [r] ∧ (∃ (k n : Nat) (t : FT) (s : Str), r = formO C t.d n s ∧ Vf n k t ∧ n ≤ 4 ∧ k ≤ 7 ∧ t.text.length ≤ 400 ∧ ∀ ys : List Str, Sorted ys (t.sel hUse) → R (.lst (ys.map D.str))) := by
  unfold F_Form_names at z
  split at z
  · exact ⟨_, rfl, z⟩
  · exact z.elim
def b_Form_names (Dx : Dm K "names" "Form.names" s_Form_names) : Binds K Dx.fd ["self"] [] := Dx.F.bindsN fun _ _ _ _ _ _ us hl => match us, hl with | [_], _ => rfl
def n_Form_names : List Str := ["self"]
theorem sc_Form_names : FnScope n_Form_names ["self"] (defScope s_Form_names) := ⟨rfl, rfl, rfl, by decide +kernel, rfl, by decide +kernel, by decide +kernel⟩
theorem ok_Form_names (T : Tx mg) (K_Form : Kx_Form K mg) (D_found_in : Df K mg "found_in" s_found_in) (D_is_name : Df K mg "is_name" s_is_name) (D_parts_of : Df K mg "parts_of" s_parts_of) (U_COUNTS : Gt K mg "COUNTS" ["m", "n"]) (hlq : ∀ (i : Nat) (q : LamQ), lamTab[i]? = some q → TbC.lq i = q) : FnOk P w K mg base (L2.CX P w) 12 K_Form.D_names.f K_Form.D_names.fd ["self"] (spN (F_Form_names K_Form.C)) := by
  have G_found_in := ok_found_in (P := P) (w := w) (base := base) T D_found_in D_is_name D_parts_of U_COUNTS hlq 8
  refine fn_n K_Form.D_names.F sc_Form_names (fun ds R Rx hs0 => ?_) (fun cdv A outer s H E hr => have hu := hr.units
    (ds_one (s_retNew (n_ofF (f_sortSet rfl (d_call G_found_in (hr.mono (by decide)) D_found_in.g D_found_in.F.kp (b_found_in D_found_in) .nil dfR_nil pass_d (da_cons (d_fld (d_var 0) K_Form.cls K_Form.n_tree) (da_cons d_str (da_cons (d_gadr D_is_name.g) da_nil)))) T.m_sorted T.m_set)))) ) fun ds R Rx hs0 => ?_
  · obtain ⟨_, rfl, _⟩ := F_Form_names_of hs0
    rfl
  · obtain ⟨r, rfl, hs⟩ := F_Form_names_of hs0
    clear hs0
    simp only [n_Form_names]
    obtain ⟨k, n, t, s, rfl, hv, hn, hk, hl, hR⟩ := hs
    walk_at "dg"
    have := sel_len (.inl rfl : hUse = hUse ∨ hUse = hAgain) hv
    refine ⟨7, rfl, n, t, rfl, hv.mono hk, hn, by omega, hUse, ⟨useh_eq, .inl ⟨rfl, rfl⟩⟩, (t.sel hUse).map tx, by rw [List.map_map]; rfl, by rw [List.length_map]; omega, fun ys so nd hm hl => ⟨flatL_map fun _ => rfl, hR ys (.of so nd hm hl)⟩⟩
def dgN24 : Array Lean.Name := dgN23 ++ #[`F_Form_names_is]
local macro_rules | `(tactic| walk_at "dg") => do let xs ← dgN24.mapM fun n => `(Lean.Parser.Tactic.simpLemma| $(Lean.mkIdent n):term); `(tactic| simp only [$xs,*, List.getElem?_cons_zero, List.getElem?_cons_succ])
def F_Form_counts (C : Addr) : Spec
  | [r], R, Rx => ∃ (k n : Nat) (t : FT) (s : Str), r = formO C t.d n s ∧ Vf n k t ∧ n ≤ 4 ∧ k ≤ 7 ∧ t.text.length ≤ 400 ∧ ∀ ys : List Str, Sorted ys (t.sel hAgain) → R (.lst (ys.map D.str))
  | _, _, _ => False
theorem F_Form_counts_is {C : Addr} {r : D} {R : D → Prop} {Rx : Er → Prop} : F_Form_counts C [r] R Rx = (∃ (k n : Nat) (t : FT) (s : Str), r = formO C t.d n s ∧ Vf n k t ∧ n ≤ 4 ∧ k ≤ 7 ∧ t.text.length ≤ 400 ∧ ∀ ys : List Str, Sorted ys (t.sel hAgain) → R (.lst (ys.map D.str))) := rfl
theorem F_Form_counts_of {C : Addr} {ds : List D} {R : D → Prop} {Rx : Er → Prop} (z : F_Form_counts C ds R Rx) : ∃ (r : D), ds = [r] ∧ (∃ (k n : Nat) (t : FT) (s : Str), r = formO C t.d n s ∧ Vf n k t ∧ n ≤ 4 ∧ k ≤ 7 ∧ t.text.length ≤ 400 ∧ ∀ ys : List Str, Sorted ys (t.sel hAgain) → R (.lst (ys.map D.str))) := by
  unfold F_Form_counts at z
  split at z
  · exact ⟨_, rfl, z⟩
  · exact z.elim
def b_Form_counts (Dx : Dm K "counts" "Form.counts" s_Form_counts) : Binds K Dx.fd ["self"] [] := Dx.F.bindsN fun _ _ _ _ _ _ us hl => match us, hl with | [_], _ => rfl
def n_Form_counts : List Str := ["self"]
theorem sc_Form_counts : FnScope n_Form_counts ["self"] (defScope s_Form_counts) := ⟨rfl, rfl, rfl, by decide +kernel, rfl, by decide +kernel, by decide +kernel⟩
theorem ok_Form_counts (T : Tx mg) (K_Form : Kx_Form K mg) (D_found_in : Df K mg "found_in" s_found_in) (D_is_name : Df K mg "is_name" s_is_name) (D_parts_of : Df K mg "parts_of" s_parts_of) (U_COUNTS : Gt K mg "COUNTS" ["m", "n"]) {cd_Form_counts tb_Form_counts : Addr} (hcd_Form_counts : K_Form.D_counts.fd.code = .ref cd_Form_counts) (hTB_Form_counts : LamX.TabB base mg cd_Form_counts tb_Form_counts) (hmem_Form_counts : (tb_Form_counts, lq_Form_counts) ∈ TbC.ts) (hmu_Form_counts : ∀ p ∈ TbC.ts, p.1 = tb_Form_counts → p.2 = lq_Form_counts) (hlq : ∀ (i : Nat) (q : LamQ), lamTab[i]? = some q → TbC.lq i = q) : FnOk P w K mg base (L2.CX P w) 12 K_Form.D_counts.f K_Form.D_counts.fd ["self"] (spN (F_Form_counts K_Form.C)) := by
  have G_found_in := ok_found_in (P := P) (w := w) (base := base) T D_found_in D_is_name D_parts_of U_COUNTS hlq 8
  refine fn_nL K_Form.D_counts.F sc_Form_counts (fun ds R Rx hs0 => ?_) (fun cl A outer s H E hr hcl => have hu := hr.units
    (ds_one (s_retNew (n_ofF (f_sortSet rfl (d_call G_found_in (hr.mono (by decide)) D_found_in.g D_found_in.F.kp (b_found_in D_found_in) .nil dfR_nil pass_d (da_cons (d_fld (d_var 0) K_Form.cls K_Form.n_tree) (da_cons d_str (da_cons (d_lamP0 (i := 0) (q := lq_Form_counts) (by exact lqe_Form_counts _ _ _) hTB_Form_counts hcd_Form_counts hmem_Form_counts hmu_Form_counts (hlq 0 _ rfl) (lamF_by (by exact lls_0)) rfl hcl) da_nil)))) T.m_sorted T.m_set)))) ) fun cl ds R Rx hs0 => ?_
  · obtain ⟨_, rfl, _⟩ := F_Form_counts_of hs0
    rfl
  · obtain ⟨r, rfl, hs⟩ := F_Form_counts_of hs0
    clear hs0
    simp only [n_Form_counts]
    obtain ⟨k, n, t, s, rfl, hv, hn, hk, hl, hR⟩ := hs
    walk_at "dg"
    have := sel_len (.inr rfl : hAgain = hUse ∨ hAgain = hAgain) hv
    refine ⟨7, rfl, n, t, rfl, hv.mono hk, hn, by omega, hAgain, ⟨agh_eq, .inr ⟨rfl, cl, none, rfl⟩⟩, (t.sel hAgain).map tx, by rw [List.map_map]; rfl, by rw [List.length_map]; omega, fun ys so nd hm hl => ⟨flatL_map fun _ => rfl, hR ys (.of so nd hm hl)⟩⟩
def dgN25 : Array Lean.Name := dgN24 ++ #[`F_Form_counts_is]
local macro_rules | `(tactic| walk_at "dg") => do let xs ← dgN25.mapM fun n => `(Lean.Parser.Tactic.simpLemma| $(Lean.mkIdent n):term); `(tactic| simp only [$xs,*, List.getElem?_cons_zero, List.getElem?_cons_succ])
def F_Form_parts (C : Addr) : Spec
  | [r], R, Rx => ∃ (k n : Nat) (t : FT) (s : Str), r = formO C t.d n s ∧ Vf n k t ∧ 2 ≤ n ∧ n ≤ 4 ∧ k ≤ 7 ∧ t.text.length ≤ 400 ∧ R (.lst (t.subs.map fun q => formO C q.d n (tx q.text)))
  | _, _, _ => False
theorem F_Form_parts_is {C : Addr} {r : D} {R : D → Prop} {Rx : Er → Prop} : F_Form_parts C [r] R Rx = (∃ (k n : Nat) (t : FT) (s : Str), r = formO C t.d n s ∧ Vf n k t ∧ 2 ≤ n ∧ n ≤ 4 ∧ k ≤ 7 ∧ t.text.length ≤ 400 ∧ R (.lst (t.subs.map fun q => formO C q.d n (tx q.text)))) := rfl
theorem F_Form_parts_of {C : Addr} {ds : List D} {R : D → Prop} {Rx : Er → Prop} (z : F_Form_parts C ds R Rx) : ∃ (r : D), ds = [r] ∧ (∃ (k n : Nat) (t : FT) (s : Str), r = formO C t.d n s ∧ Vf n k t ∧ 2 ≤ n ∧ n ≤ 4 ∧ k ≤ 7 ∧ t.text.length ≤ 400 ∧ R (.lst (t.subs.map fun q => formO C q.d n (tx q.text)))) := by
  unfold F_Form_parts at z
  split at z
  · exact ⟨_, rfl, z⟩
  · exact z.elim
def b_Form_parts (Dx : Dm K "parts" "Form.parts" s_Form_parts) : Binds K Dx.fd ["self"] [] := Dx.F.bindsN fun _ _ _ _ _ _ us hl => match us, hl with | [_], _ => rfl
def n_Form_parts : List Str := ["self", "part"]
theorem sc_Form_parts : FnScope n_Form_parts ["self"] (defScope s_Form_parts) := ⟨rfl, rfl, rfl, by decide +kernel, rfl, by decide +kernel, by decide +kernel⟩
theorem ok_Form_parts (T : Tx mg) (K_Form : Kx_Form K mg) (X_InvalidHands : Xe K mg P.main.file "InvalidHands" s_InvalidHands___init__) (X_InvalidForm : Xe K mg P.main.file "InvalidForm" s_InvalidForm___init__) (D_parts_of : Df K mg "parts_of" s_parts_of) (D_check_hands : Df K mg "check_hands" s_check_hands) (D_is_number : Df K mg "is_number" s_is_number) (D_tree_in : Df K mg "tree_in" s_tree_in) (D_form_at : Df K mg "form_at" s_form_at) (D_run_at : Df K mg "run_at" s_run_at) (D_taken : Df K mg "taken" s_taken) (D_head_at : Df K mg "head_at" s_head_at) (D_first_at : Df K mg "first_at" s_first_at) (D_count_at : Df K mg "count_at" s_count_at) (D_text_of : Df K mg "text_of" s_text_of) (hsup : mg "super" = none) (htop : (P.main.scope.names.lookup ("super" : Str)).isSome = false) (U_HEADS : Gt K mg "HEADS" ["then(", "again(", "back(", "turned(", "double(", "with(", "use("]) (U_COUNTS : Gt K mg "COUNTS" ["m", "n"]) : FnOk P w K mg base (L2.CX P w) 18 K_Form.D_parts.f K_Form.D_parts.fd ["self"] (spF (F_Form_parts K_Form.C)) := by
  have G_parts_of := ok_parts_of (P := P) (w := w) (base := base) T D_parts_of
  have G_Form___init__ := ok_Form___init__ (P := P) (w := w) (base := base) T K_Form X_InvalidHands X_InvalidForm D_check_hands D_is_number D_tree_in D_form_at D_run_at D_taken D_head_at D_first_at D_count_at hsup htop U_HEADS U_COUNTS
  have G_text_of := ok_text_of (P := P) (w := w) (base := base) T D_text_of 8
  refine fn_f K_Form.D_parts.F sc_Form_parts (fun ds R Rx hs0 => ?_) rfl (fun cdv A outer s H E hr => have hu := hr.units
    (f_lc rfl sc_Form_parts.nd (i_list (d_call G_parts_of (hr.mono (by decide)) D_parts_of.g D_parts_of.F.kp (b_parts_of D_parts_of) .nil dfR_nil pass_d (da_cons (d_fld (d_var 0) K_Form.cls K_Form.n_tree) da_nil))) (blkOk_by (own := [("part", 1)]) (N := n_Form_parts) (sc := defScope s_Form_parts) (by decide +kernel)) (by decide) (fun _ _ _ _ _ => (g_name (i := 1) sc_Form_parts.nd)) (fun _ _ _ _ _ => dts_nil) (fun _ _ _ _ _ => (d_make K_Form.mkr G_Form___init__ (hr.mono (by decide)) K_Form.g (b_Form___init__ K_Form.D___init__) passL (da_cons (d_fld (d_var 0) K_Form.cls K_Form.n_hands) (da_cons (d_call G_text_of (hr.mono (by decide)) D_text_of.g D_text_of.F.kp (b_text_of D_text_of) .nil dfR_nil passL (da_cons (d_var 1) da_nil)) da_nil))))) ) fun ds R Rx hs0 => ?_
  · obtain ⟨_, rfl, _⟩ := F_Form_parts_of hs0
    rfl
  · obtain ⟨r, rfl, hs⟩ := F_Form_parts_of hs0
    clear hs0
    simp only [n_Form_parts]
    obtain ⟨k, n, t, s, rfl, hv, h2, hn, hk, hl, hR⟩ := hs
    walk_at "dg"
    have h6 := subs_len hv
    refine ⟨k, n, t, rfl, hv, hn, LcP.of (as := t.subs) (g := FT.d) (fun q => formO K_Form.C q.d n (tx q.text)) (by rw [sizeLine_eq]; omega) (fun i q N ei hN => ?_) hR⟩
    have hm := List.mem_of_getElem? ei
    obtain ⟨k1, hv1⟩ := subs_vf hv hm
    have hq : q.text.length ≤ 400 := Nat.le_trans (sub_text hm) hl
    walk_at "dg"
    refine ⟨7, rfl, n, q, rfl, hv1.mono (by omega), hn, by omega, ?_⟩
    exact formI_t h2 hn (mkForm_good (by omega) (read_ok hn (hv1.mono (by omega)) hq) hN)
theorem w_fIsiO_str {C : Addr} {s : Str} {R : D → Prop} : fIsiO C [.str s, .adr C] R = R (.bl false) := by
  simp [fIsiO, isO]
theorem fo_eq : ("Form(" : Str) = tx [70, 111, 114, 109, 40] := by decide +kernel
theorem co_eq : (": " : Str) = tx [58, 32] := by decide +kernel
theorem dig_eq {n : Nat} (h : n ≤ 9) : ((toString (n : Int) : String) : Str) = tx [48 + n] := by
  rw [tx_digit (by omega) (by omega)]
  congr 2
def repF (n : Nat) (s : Cs) : Cs := [70, 111, 114, 109, 40] ++ [48 + n] ++ [58, 32] ++ s ++ [41]
def dgN26 : Array Lean.Name := dgN25 ++ #[`F_Form_parts_is, `w_fIsiO_str]
local macro_rules | `(tactic| walk_at "dg") => do let xs ← dgN26.mapM fun n => `(Lean.Parser.Tactic.simpLemma| $(Lean.mkIdent n):term); `(tactic| simp only [$xs,*, List.getElem?_cons_zero, List.getElem?_cons_succ])
def F_Form___eq__ (C : Addr) : Spec
  | [x, y], R, Rx => ∃ (n : Int) (t : D) (s : Str) (b : Bool), x = formO C t n s ∧ ((∃ (m : Int) (t2 : D) (s2 : Str), y = formO C t2 m s2 ∧ b = (decide (n = m) && decide (s = s2))) ∨ (∃ z, y = .str z) ∧ b = false) ∧ R (.bl b)
  | _, _, _ => False
theorem F_Form___eq___is {C : Addr} {x : D} {y : D} {R : D → Prop} {Rx : Er → Prop} : F_Form___eq__ C [x, y] R Rx = (∃ (n : Int) (t : D) (s : Str) (b : Bool), x = formO C t n s ∧ ((∃ (m : Int) (t2 : D) (s2 : Str), y = formO C t2 m s2 ∧ b = (decide (n = m) && decide (s = s2))) ∨ (∃ z, y = .str z) ∧ b = false) ∧ R (.bl b)) := rfl
theorem F_Form___eq___of {C : Addr} {ds : List D} {R : D → Prop} {Rx : Er → Prop} (z : F_Form___eq__ C ds R Rx) : ∃ (x : D) (y : D), ds = [x, y] ∧ (∃ (n : Int) (t : D) (s : Str) (b : Bool), x = formO C t n s ∧ ((∃ (m : Int) (t2 : D) (s2 : Str), y = formO C t2 m s2 ∧ b = (decide (n = m) && decide (s = s2))) ∨ (∃ z, y = .str z) ∧ b = false) ∧ R (.bl b)) := by
  unfold F_Form___eq__ at z
  split at z
  · exact ⟨_, _, rfl, z⟩
  · exact z.elim
def b_Form___eq__ (Dx : Dm K "__eq__" "Form.__eq__" s_Form___eq__) : Binds K Dx.fd ["self", "other"] [] := Dx.F.bindsN fun _ _ _ _ _ _ us hl => match us, hl with | [_, _], _ => rfl
def n_Form___eq__ : List Str := ["self", "other"]
theorem sc_Form___eq__ : FnScope n_Form___eq__ ["self", "other"] (defScope s_Form___eq__) := ⟨rfl, rfl, rfl, by decide +kernel, rfl, by decide +kernel, by decide +kernel⟩
theorem ok_Form___eq__ (T : Tx mg) (K_Form : Kx_Form K mg) : FnOk P w K mg base (L2.CX P w) 2 K_Form.D___eq__.f K_Form.D___eq__.fd ["self", "other"] (spD (F_Form___eq__ K_Form.C)) := by

  refine fn_d K_Form.D___eq__.F sc_Form___eq__ (fun ds R Rx hs0 => ?_) (fun cdv A outer s H E hr => have hu := hr.units
    (ds_one (s_ret (d_and (d_callB (b_isiO ⟨K_Form.isi, K_Form.cls, K_Form.isc⟩) T.m_isinstance PyProof.Rows.boot_isinstance (da_cons (d_var 1) (da_cons (d_gadr K_Form.g) da_nil))) (d_and (d_cmp (c_eq hu) (d_fld (d_var 0) K_Form.cls K_Form.n_hands) (d_fld (d_var 1) K_Form.cls K_Form.n_hands) (nomark _)) (d_one (d_cmp (c_eq hu) (d_fld (d_var 0) K_Form.cls K_Form.n_own_text) (d_fld (d_var 1) K_Form.cls K_Form.n_own_text) (nomark _))))))) ) fun ds R Rx hs0 => ?_
  · obtain ⟨_, _, rfl, _⟩ := F_Form___eq___of hs0
    rfl
  · obtain ⟨x, y, rfl, hs⟩ := F_Form___eq___of hs0
    clear hs0
    simp only [n_Form___eq__]
    obtain ⟨n, t, s, b, rfl, hs, hR⟩ := hs
    rcases hs with ⟨m, t2, s2, rfl, rfl⟩ | ⟨⟨z, rfl⟩, rfl⟩
    · walk_at "dg"
      refine ⟨fun e => ?_, fun e => ?_⟩
      · rw [decide_eq_true e, Bool.true_and] at hR
        exact hR
      · rw [decide_eq_false e, Bool.false_and] at hR
        exact hR
    · walk_at "dg"
      exact hR
def dgN27 : Array Lean.Name := dgN26 ++ #[`F_Form___eq___is]
local macro_rules | `(tactic| walk_at "dg") => do let xs ← dgN27.mapM fun n => `(Lean.Parser.Tactic.simpLemma| $(Lean.mkIdent n):term); `(tactic| simp only [$xs,*, List.getElem?_cons_zero, List.getElem?_cons_succ])
def F_Form___repr__ (C : Addr) : Spec
  | [x], R, Rx => ∃ (n : Nat) (t : D) (s : Cs), x = formO C t n (tx s) ∧ n ≤ 4 ∧ s.length ≤ 400 ∧ R (.str (tx (repF n s)))
  | _, _, _ => False
theorem F_Form___repr___is {C : Addr} {x : D} {R : D → Prop} {Rx : Er → Prop} : F_Form___repr__ C [x] R Rx = (∃ (n : Nat) (t : D) (s : Cs), x = formO C t n (tx s) ∧ n ≤ 4 ∧ s.length ≤ 400 ∧ R (.str (tx (repF n s)))) := rfl
theorem F_Form___repr___of {C : Addr} {ds : List D} {R : D → Prop} {Rx : Er → Prop} (z : F_Form___repr__ C ds R Rx) : ∃ (x : D), ds = [x] ∧ (∃ (n : Nat) (t : D) (s : Cs), x = formO C t n (tx s) ∧ n ≤ 4 ∧ s.length ≤ 400 ∧ R (.str (tx (repF n s)))) := by
  unfold F_Form___repr__ at z
  split at z
  · exact ⟨_, rfl, z⟩
  · exact z.elim
def b_Form___repr__ (Dx : Dm K "__repr__" "Form.__repr__" s_Form___repr__) : Binds K Dx.fd ["self"] [] := Dx.F.bindsN fun _ _ _ _ _ _ us hl => match us, hl with | [_], _ => rfl
def n_Form___repr__ : List Str := ["self"]
theorem sc_Form___repr__ : FnScope n_Form___repr__ ["self"] (defScope s_Form___repr__) := ⟨rfl, rfl, rfl, by decide +kernel, rfl, by decide +kernel, by decide +kernel⟩
theorem ok_Form___repr__ (T : Tx mg) (K_Form : Kx_Form K mg) : FnOk P w K mg base (L2.CX P w) 2 K_Form.D___repr__.f K_Form.D___repr__.fd ["self"] (spD (F_Form___repr__ K_Form.C)) := by

  refine fn_d K_Form.D___repr__.F sc_Form___repr__ (fun ds R Rx hs0 => ?_) (fun cdv A outer s H E hr => have hu := hr.units
    (ds_one (s_ret (d_joined (dj_cons d_str (dj_cons (d_fmt (d_fld (d_var 0) K_Form.cls K_Form.n_hands)) (dj_cons d_str (dj_cons (d_fmt (d_fld (d_var 0) K_Form.cls K_Form.n_own_text)) (dj_cons d_str dj_nil)))))))) ) fun ds R Rx hs0 => ?_
  · obtain ⟨_, rfl, _⟩ := F_Form___repr___of hs0
    rfl
  · obtain ⟨x, rfl, hs⟩ := F_Form___repr___of hs0
    clear hs0
    simp only [n_Form___repr__]
    obtain ⟨n, t, s, rfl, hn, hl, hR⟩ := hs
    walk_at "dg"
    rw [dig_eq (by omega), fo_eq, co_eq, tx_close, tx_emp]
    walk_at "dg"
    have e : [70, 111, 114, 109, 40] ++ [48 + n] ++ [58, 32] ++ s ++ [41] = repF n s := rfl
    have hl2 : (repF n s).length ≤ 1000 := by unfold repF; simp; omega
    have ln : (n : Int).natAbs.log2 < 1920 := log_30 (by omega) (by omega)
    exact ⟨ln, by omega, by omega, by omega, hR⟩
local macro_rules | `(tactic| walk_at "rk") => `(tactic| first
  | assumption
  | (refine rok_app ?_ ?_ ?_ <;> first | walk_at "rk" | (simp only [List.length_append, List.length_reverse, List.length_map, List.length_replicate]; omega))
  | (refine rok_rev ?_; walk_at "rk")
  | (refine rok_map ?_ _ (fun t => fmod_in (by assumption)); walk_at "rk")
  | omega
  | decide
  | (refine log_lt (k := 80) ?_ (by decide) (by decide); omega))
local macro_rules | `(tactic| walk_at "fin") => `(tactic| ((repeat' (first | (with_reducible assumption) | (with_reducible refine And.intro ?_ ?_) | (with_reducible intro _))); all_goals first | (with_reducible assumption) | omega | contradiction | trivial))
local macro_rules | `(tactic| walk_at "cj") => `(tactic| repeat' (refine And.intro (by walk_at "rk") ?_))
theorem word_eq : ("word" : Str) = tx [119, 111, 114, 100] := by decide +kernel
theorem max_pos {l : List Nat} {m : Int} (h : m ∈ l.map (fun x : Nat => (x : Int)) ∧ ∀ y ∈ l.map (fun x : Nat => (x : Int)), y ≤ m) : m = (l.foldr max 0 : Nat) := by
  refine max_is ⟨List.mem_cons_of_mem _ h.1, fun y hy => ?_⟩
  rcases List.mem_cons.mp hy with rfl | hy
  · obtain ⟨x, _, rfl⟩ := List.mem_map.mp h.1
    omega
  · exact h.2 y hy
theorem in_wu {h : Cs} {R : D → Prop} : opIn (.str (tx h)) (.tup [.str "word", .str "use"]) R = R (.bl (decide (h = [119, 111, 114, 100] ∨ h = hUse))) := by
  rw [show (D.tup [D.str "word", D.str "use"]) = D.tup (([("word" : Str), "use"]).map D.str) from rfl, in_T, word_eq, useh_eq]
  congr 2
  simp only [List.mem_cons, List.not_mem_nil, or_false, w_tx_eq]
theorem in_ww {R : D → Prop} : opIn (.str "word") (.tup [.str "word", .str "use"]) R = R (.bl true) := by
  rw [word_eq, ← word_eq, show (D.tup [D.str "word", D.str "use"]) = D.tup (([("word" : Str), "use"]).map D.str) from rfl, in_T]
  rw [decide_eq_true (List.mem_cons_self)]
/-- what an item brings -/
def selN (g : Cs) : D ⊕ FT → List Cs := Sum.elim (fun _ => []) (FT.sel g)
theorem selN_all {g : Cs} {it : Option D} {q : Nat} {f : Nat → FT} : ((it.toList.map Sum.inl ++ (List.range q).map fun i => (Sum.inr (f i) : D ⊕ FT)).map (selN g)).flatten = ((List.range q).map fun i => (f i).sel g).flatten := by
  rw [List.map_append, List.flatten_append, List.map_map, List.map_map]
  cases it <;> rfl
theorem items_d {it : Option D} {j : Nat} {f : Nat → FT} : it.toList ++ (List.range j).map (fun i => (f i).d) = (it.toList.map Sum.inl ++ (List.range j).map fun i => Sum.inr (f i)).map (Sum.elim _root_.id FT.d) := by
  rw [List.map_append, List.map_map, List.map_map]
  congr 1
  exact (List.map_id _).symm
theorem items_len {n j : Nat} {h : Cs} {it : Option D} (ok : ItmOk n h it j) : it.toList.length ≤ 1 ∧ j ≤ 6 := by
  refine ⟨by cases it <;> simp, ?_⟩
  rcases ok with ⟨_, z, _⟩ | ⟨_, z, _⟩ | ⟨_, z, _⟩ | ⟨_, z, _⟩ | ⟨_, z, _⟩ | ⟨_, z, _⟩ | ⟨_, _, z, _⟩ <;> omega
theorem asInts_depL {l : List FT} : asInts (l.map fun t => D.int (t.dep : Nat)) = some ((l.map FT.dep).map fun x : Nat => (x : Int)) := by
  rw [asInts_dep, List.map_map]
  rfl
def dgN28 : Array Lean.Name := dgN27 ++ #[`F_Form___repr___is]
local macro_rules | `(tactic| walk_at "dg") => do let xs ← dgN28.mapM fun n => `(Lean.Parser.Tactic.simpLemma| $(Lean.mkIdent n):term); `(tactic| simp only [$xs,*, List.getElem?_cons_zero, List.getElem?_cons_succ])
def F__law_depth (m : Nat) : Spec
  | [x], R, Rx => ∃ (k n : Nat) (t : FT), m = k + 1 ∧ x = t.d ∧ Vf n k t ∧ n ≤ 4 ∧ R (.int (t.dep : Nat))
  | _, _, _ => False
theorem F__law_depth_is {m : Nat} {x : D} {R : D → Prop} {Rx : Er → Prop} : F__law_depth m [x] R Rx = (∃ (k n : Nat) (t : FT), m = k + 1 ∧ x = t.d ∧ Vf n k t ∧ n ≤ 4 ∧ R (.int (t.dep : Nat))) := rfl
theorem F__law_depth_of {m : Nat} {ds : List D} {R : D → Prop} {Rx : Er → Prop} (z : F__law_depth m ds R Rx) : ∃ (x : D), ds = [x] ∧ (∃ (k n : Nat) (t : FT), m = k + 1 ∧ x = t.d ∧ Vf n k t ∧ n ≤ 4 ∧ R (.int (t.dep : Nat))) := by
  unfold F__law_depth at z
  split at z
  · exact ⟨_, rfl, z⟩
  · exact z.elim
theorem z0__law_depth {ds : List D} {R : D → Prop} {Rx : Er → Prop} : ¬ F__law_depth 0 ds R Rx := fun h => by
  obtain ⟨_, _, k, n, t, z, _⟩ := F__law_depth_of h
  cases z
def b__law_depth (Dx : Df K mg "_law_depth" s__law_depth) : Binds K Dx.fd ["_law_tree_here"] [] := Dx.F.bindsN fun _ _ _ _ _ _ us hl => match us, hl with | [_], _ => rfl
def n__law_depth : List Str := ["_law_tree_here", "_law_part"]
theorem sc__law_depth : FnScope n__law_depth ["_law_tree_here"] (defScope s__law_depth) := ⟨rfl, rfl, rfl, by decide +kernel, rfl, by decide +kernel, by decide +kernel⟩
def dgN29 : Array Lean.Name := dgN28 ++ #[`F__law_depth_is]
local macro_rules | `(tactic| walk_at "dg") => do let xs ← dgN29.mapM fun n => `(Lean.Parser.Tactic.simpLemma| $(Lean.mkIdent n):term); `(tactic| simp only [$xs,*, List.getElem?_cons_zero, List.getElem?_cons_succ])
theorem ok__law_depth (T : Tx mg) (D__law_depth : Df K mg "_law_depth" s__law_depth) : ∀ m : Nat, FnOk P w K mg base (L2.CX P w) (2 + m) D__law_depth.f D__law_depth.fd ["_law_tree_here"] (spD (F__law_depth m))
| 0 => FnOk.mono (fn_false D__law_depth fun ds R Rx h => z0__law_depth h) (by omega)
| m + 1 => by
  have G__law_depth := ok__law_depth T D__law_depth m

  refine fn_d D__law_depth.F sc__law_depth (fun ds R Rx hs0 => ?_) (fun cdv A outer s H E hr => have hu := hr.units
    (ds_cons (s_if (dt_cmp c_in (d_ix (d_var 0) d_int) (d_tup (da_cons d_str (da_cons d_str da_nil))) rfl) (ds_one (s_ret d_int)) ds_nil)
    (ds_one (s_ret (d_add d_int (d_callB (b_max1 rfl) T.m_max PyProof.Rows.boot_max (da_cons (d_ofF (f_lc rfl sc__law_depth.nd (i_tup (d_slice (d_var 0) (do_some d_int) do_none)) (blkOk_by (own := [("_law_part", 1)]) (N := n__law_depth) (sc := defScope s__law_depth) (by decide +kernel)) (by decide) (fun _ _ _ _ _ => (g_name (i := 1) sc__law_depth.nd)) (fun _ _ _ _ _ => (dts_one (dt_tru (d_callB b_isi T.m_isinstance PyProof.Rows.boot_isinstance (da_cons (d_var 1) (da_cons (d_bty T.m_tuple PyProof.Rows.boot_tuple) da_nil)))))) (fun _ _ _ _ _ => (d_call G__law_depth (hr.mono (by first | exact Nat.le_refl _ | exact Nat.le_succ _ | exact Nat.le_trans (show _ ≤ 2 by decide) (Nat.le_add_right 2 _))) D__law_depth.g D__law_depth.F.kp (b__law_depth D__law_depth) .nil dfR_nil passL (da_cons (d_var 1) da_nil))))) da_nil)))))) ) fun ds R Rx hs0 => ?_
  · obtain ⟨_, rfl, _⟩ := F__law_depth_of hs0
    rfl
  · obtain ⟨x, rfl, hs⟩ := F__law_depth_of hs0
    clear hs0
    simp only [n__law_depth]
    obtain ⟨k, n, t, hk, rfl, hv, hn, hR⟩ := hs
    obtain rfl : k = m := (Nat.succ.inj hk).symm
    cases t with
    | word l =>
      simp only [FT.d, wordD]
      refine seq_step fun N1 hN1 => ?_
      walk_at "dg"
      rw [in_ww]
      walk_at "dg"
      exact hR
    | node h it j f =>
      have hv0 := hv
      obtain ⟨ok, hk0, hf⟩ := hv
      simp only [FT.d]
      refine seq_step fun N1 hN1 => ?_
      walk_at "dg"
      rw [in_wu]
      walk_at "dg"
      have hw : h ≠ [119, 111, 114, 100] := fun z => itm_word ok (by rw [z, word_eq])
      refine ⟨fun z => ?_, fun z => hN1 _ ?_⟩
      · have z : h = hUse := z.resolve_left hw
        rcases sel0_vf (f := f) ok z (.inl rfl) with ⟨l, rfl, l1, l2, e0, y⟩ | ⟨z2, _⟩
        · rcases y with ⟨_, rfl, _⟩ | ⟨y, _⟩
          · exact hR
          · exact absurd y (by decide)
        · exact absurd z2 (by decide)
      clear hN1 N1
      walk_at "dg"
      obtain ⟨hj1, hj6⟩ := items_len ok
      rw [cut_tail, items_d]
      refine LcP.filt (as := it.toList.map Sum.inl ++ (List.range j).map fun i => Sum.inr (f i)) (fun z => z.isRight) (fun z => Sum.elim (fun _ => D.int 0) (fun q : FT => .int (q.dep : Nat)) z) (by simp only [List.length_append, List.length_map, List.length_range]; rw [sizeLine_eq]; omega) (fun i z N M ei g1 g2 => ?_) ?_
      · rcases List.mem_append.mp (List.mem_of_getElem? ei) with hz | hz
        · obtain ⟨x, hx, rfl⟩ := List.mem_map.mp hz
          have gm : M := g2 rfl
          cases it with
          | none => cases hx
          | some y =>
            obtain rfl := List.mem_singleton.mp hx
            rcases itm_kind hn ok with ⟨l, rfl⟩ | ⟨q, rfl, q0, q1⟩
            · show yName 1 (D.str (tx l)) _ _
              walk_at "dg"
              exact gm
            · show yName 1 (D.int q) _ _
              walk_at "dg"
              exact gm
        · obtain ⟨i2, hi2, rfl⟩ := List.mem_map.mp hz
          have g1 : N (.int ((f i2).dep : Nat)) := g1 rfl
          obtain ⟨xs, exs⟩ := d_tup_of (f i2)
          have hs2 : f i2 ∈ (FT.node h it j f).subs := List.mem_map.mpr ⟨i2, hi2, rfl⟩
          obtain ⟨k1, hv1⟩ := subs_vf hv0 hs2
          obtain ⟨k', rfl⟩ : ∃ k', k = k' + 1 := ⟨k - 1, by omega⟩
          show yName 1 (f i2).d _ _
          rw [exs]
          walk_at "dg"
          exact ⟨k', rfl, n, f i2, exs.symm, hv1, hn, g1⟩
      · have e2 : ((it.toList.map Sum.inl ++ (List.range j).map fun i => (Sum.inr (f i) : D ⊕ FT)).filter fun (z : D ⊕ FT) => z.isRight).map (fun z => Sum.elim (fun _ => D.int 0) (fun q : FT => .int (q.dep : Nat)) z) = (FT.node h it j f).subs.map fun q => D.int (q.dep : Nat) := by
          rw [List.filter_append, filter_inl, List.nil_append, filter_inr, List.map_map]
          show _ = ((List.range j).map f).map _
          rw [List.map_map]
          rfl
        rw [e2]
        have hj0 : 0 < j := by
          rcases ok with ⟨z2, _⟩ | ⟨_, z2, _⟩ | ⟨_, z2, _⟩ | ⟨_, z2, _⟩ | ⟨_, z2, _⟩ | ⟨_, z2, _⟩ | ⟨_, z2, _⟩
          · exact absurd (.inr z2) z
          all_goals omega
        have hS1 : 0 < (FT.node h it j f).subs.length := by show 0 < ((List.range j).map f).length; simpa using hj0
        rw [dep_is] at hR
        rw [asInts_depL]
        refine ⟨_, rfl, by simpa using hS1, fun m h1 h2 => ?_⟩
        rw [max_pos ⟨h1, h2⟩]
        have e : (1 + (((FT.node h it j f).subs.map FT.dep).foldr max 0 : Nat) : Int) = ((1 + ((FT.node h it j f).subs.map FT.dep).foldr max 0 : Nat) : Int) := by omega
        rw [e]
        exact hR
def F__law_marks (m : Nat) : Spec
  | [x, .str s], R, Rx => ∃ (k n : Nat) (t : FT) (gs : Cs), m = k + 1 ∧ x = t.d ∧ Vf n k t ∧ n ≤ 4 ∧ t.text.length ≤ 400 ∧ s = tx gs ∧ (gs = hUse ∨ gs = hAgain) ∧ ∀ ys : List Str, Sorted ys (t.sel gs) → R (.lst (ys.map D.str))
  | _, _, _ => False
theorem F__law_marks_is {m : Nat} {x : D} {s : Str} {R : D → Prop} {Rx : Er → Prop} : F__law_marks m [x, .str s] R Rx = (∃ (k n : Nat) (t : FT) (gs : Cs), m = k + 1 ∧ x = t.d ∧ Vf n k t ∧ n ≤ 4 ∧ t.text.length ≤ 400 ∧ s = tx gs ∧ (gs = hUse ∨ gs = hAgain) ∧ ∀ ys : List Str, Sorted ys (t.sel gs) → R (.lst (ys.map D.str))) := rfl
theorem F__law_marks_of {m : Nat} {ds : List D} {R : D → Prop} {Rx : Er → Prop} (z : F__law_marks m ds R Rx) : ∃ (x : D) (s : Str), ds = [x, .str s] ∧ (∃ (k n : Nat) (t : FT) (gs : Cs), m = k + 1 ∧ x = t.d ∧ Vf n k t ∧ n ≤ 4 ∧ t.text.length ≤ 400 ∧ s = tx gs ∧ (gs = hUse ∨ gs = hAgain) ∧ ∀ ys : List Str, Sorted ys (t.sel gs) → R (.lst (ys.map D.str))) := by
  unfold F__law_marks at z
  split at z
  · exact ⟨_, _, rfl, z⟩
  · exact z.elim
theorem z0__law_marks {ds : List D} {R : D → Prop} {Rx : Er → Prop} : ¬ F__law_marks 0 ds R Rx := fun h => by
  obtain ⟨_, _, _, k, n, t, gs, z, _⟩ := F__law_marks_of h
  cases z
def b__law_marks (Dx : Df K mg "_law_marks" s__law_marks) : Binds K Dx.fd ["_law_tree_here", "_law_head"] [] := Dx.F.bindsN fun _ _ _ _ _ _ us hl => match us, hl with | [_, _], _ => rfl
def n__law_marks : List Str := ["_law_tree_here", "_law_head", "_law_found", "_law_part"]
theorem sc__law_marks : FnScope n__law_marks ["_law_tree_here", "_law_head"] (defScope s__law_marks) := ⟨rfl, rfl, rfl, by decide +kernel, rfl, by decide +kernel, by decide +kernel⟩
def dgN30 : Array Lean.Name := dgN29 ++ #[`F__law_marks_is]
local macro_rules | `(tactic| walk_at "dg") => do let xs ← dgN30.mapM fun n => `(Lean.Parser.Tactic.simpLemma| $(Lean.mkIdent n):term); `(tactic| simp only [$xs,*, List.getElem?_cons_zero, List.getElem?_cons_succ])
theorem ok__law_marks (T : Tx mg) (D__law_marks : Df K mg "_law_marks" s__law_marks) : ∀ m : Nat, FnOk P w K mg base (L2.CX P w) (2 + m) D__law_marks.f D__law_marks.fd ["_law_tree_here", "_law_head"] (spD (F__law_marks m))
| 0 => FnOk.mono (fn_false D__law_marks fun ds R Rx h => z0__law_marks h) (by omega)
| m + 1 => by
  have G__law_marks := ok__law_marks T D__law_marks m

  refine fn_d D__law_marks.F sc__law_marks (fun ds R Rx hs0 => ?_) (fun cdv A outer s H E hr => have hu := hr.units
    (ds_cons (s_set (i := 2) sc__law_marks.nd (d_if (dw_pt (dw_and (dt_cmp (c_eq hu) (d_ix (d_var 0) d_int) (d_var 1) (nomark _)) (dw_and1 (dt_tru (d_callB b_isi T.m_isinstance PyProof.Rows.boot_isinstance (da_cons (d_ix (d_var 0) d_int) (da_cons (d_bty T.m_str PyProof.Rows.boot_str) da_nil))))))) (d_ofF (f_lst (da_cons (d_ix (d_var 0) d_int) da_nil))) (d_ofF (f_lst da_nil))))
    (ds_cons (s_if (dt_cmp (c_ne hu) (d_ix (d_var 0) d_int) d_str (nomark _)) (ds_one (s_for (passes_of rfl) rfl (i_tup (d_slice (d_var 0) (do_some d_int) do_none)) (g_name (i := 3) sc__law_marks.nd)
          (ds_one (s_if (dt_tru (d_callB b_isi T.m_isinstance PyProof.Rows.boot_isinstance (da_cons (d_var 3) (da_cons (d_bty T.m_tuple PyProof.Rows.boot_tuple) da_nil)))) (ds_one (s_set (i := 2) sc__law_marks.nd (d_add (d_var 2) (d_call G__law_marks (hr.mono (by first | exact Nat.le_refl _ | exact Nat.le_succ _ | exact Nat.le_trans (show _ ≤ 2 by decide) (Nat.le_add_right 2 _))) D__law_marks.g D__law_marks.F.kp (b__law_marks D__law_marks) .nil dfR_nil pass_d (da_cons (d_var 3) (da_cons (d_var 1) da_nil)))))) ds_nil)))) ds_nil)
    (ds_one (s_ret (d_ofF (f_sortSet rfl (d_var 2) T.m_sorted T.m_set)))))) ) fun ds R Rx hs0 => ?_
  · obtain ⟨_, _, rfl, _⟩ := F__law_marks_of hs0
    rfl
  · obtain ⟨x, s, rfl, hs⟩ := F__law_marks_of hs0
    clear hs0
    simp only [n__law_marks]
    obtain ⟨k, n, t, gs, hk, rfl, hv, hn, hlt, rfl, hgo, hR⟩ := hs
    obtain rfl : k = m := (Nat.succ.inj hk).symm
    have hul := sel_len hgo hv
    refine seq_step fun N1 hN1 => ?_
    have fin : N1 [some (.val t.d), some (.val (.str (tx gs))), some (.val (.lst ((t.sel0 gs).map fun l => .str (tx l)))), none] := by
      refine hN1 _ ?_
      clear hN1 N1
      refine seq_step fun N2 hN2 => ?_
      have ret : ∀ (fs : List Str) (e4 : Option DV), (∀ x, x ∈ fs ↔ ∃ l ∈ t.sel gs, x = tx l) → fs.length ≤ (t.sel gs).length → N2 [some (.val t.d), some (.val (.str (tx gs))), some (.val (.lst (fs.map D.str))), e4] := by
        intro fs e4 h1 h2
        refine hN2 _ ?_
        walk_at "dg"
        exact ⟨fs, rfl, by omega, fun ys so nd hm hl => hR ys ⟨so, nd, fun x => (hm x).trans (h1 x), Nat.le_trans hl h2⟩⟩
      clear hN2
      refine if_step fun U W hU hW => ?_
      cases t with
      | word l =>
        simp only [FT.d, wordD] at ret ⊢
        walk_at "dg"
        refine hW _ _ ?_
        walk_at "dg"
        exact ret [] none (fun x => ⟨fun z => (by cases z), fun ⟨l, z, _⟩ => (by cases z)⟩) (Nat.zero_le _)
      | node h it q f =>
        have hv0 := hv
        obtain ⟨ok, h0, hf⟩ := hv
        simp only [FT.d] at ret ⊢
        walk_at "dg"
        refine ⟨fun z => hU _ _ ?_, fun z => absurd z (itm_word ok)⟩
        clear hU hW U W
        refine for_step fun B1 hB1 => ?_
        walk_at "dg"
        obtain ⟨hj1, hj6⟩ := items_len ok
        rw [cut_tail]
        have eS : (FT.node h it q f).sel gs = (FT.node h it q f).sel0 gs ++ ((it.toList.map Sum.inl ++ (List.range q).map fun i => (Sum.inr (f i) : D ⊕ FT)).map (selN gs)).flatten := by rw [selN_all]; rfl
        have ei : it.toList ++ (List.range q).map (fun i => (f i).d) = _ := items_d
        rw [ei] at ret ⊢
        have hsub : ∀ s, s ∈ (FT.node h it q f).subs ↔ Sum.inr s ∈ it.toList.map (Sum.inl : D → D ⊕ FT) ++ (List.range q).map fun i => (Sum.inr (f i) : D ⊕ FT) := fun s => by
          rw [List.mem_append, List.mem_map, List.mem_map]
          constructor
          · intro hs
            obtain ⟨i, hi, rfl⟩ := List.mem_map.mp hs
            exact .inr ⟨i, hi, rfl⟩
          · rintro (⟨_, _, z⟩ | ⟨i, hi, z⟩)
            · cases z
            · cases z
              exact List.mem_map.mpr ⟨i, hi, rfl⟩
        have hint : ∀ d, Sum.inl d ∈ it.toList.map (Sum.inl : D → D ⊕ FT) ++ (List.range q).map (fun i => (Sum.inr (f i) : D ⊕ FT)) → (∃ l, d = .str (tx l)) ∨ ∃ i, d = .int i := fun d hd => by
          rcases List.mem_append.mp hd with hd | hd
          · obtain ⟨x, hx, z⟩ := List.mem_map.mp hd
            cases z
            cases it with
            | none => cases hx
            | some y =>
              obtain rfl := List.mem_singleton.mp hx
              rcases itm_kind hn ok with ⟨l, rfl⟩ | ⟨q, rfl, _⟩
              · exact .inl ⟨l, rfl⟩
              · exact .inr ⟨q, rfl⟩
          · obtain ⟨_, _, z⟩ := List.mem_map.mp hd
            cases z
        generalize (it.toList.map Sum.inl ++ (List.range q).map fun i => (Sum.inr (f i) : D ⊕ FT)) = as at *
        generalize hT : D.tup (D.str (tx h) :: List.map (Sum.elim _root_.id FT.d) as) = T at *
        generalize hS0 : (FT.node h it q f).sel0 gs = S0 at *
        refine ⟨fun i env => ∃ (fs : List Str) (e4 : Option DV), env = [some (.val T), some (.val (.str (tx gs))), some (.val (.lst (fs.map D.str))), e4] ∧ (∀ x, x ∈ fs ↔ ∃ l ∈ S0 ++ ((as.take i).map (selN gs)).flatten, x = tx l) ∧ fs.length ≤ (S0 ++ ((as.take i).map (selN gs)).flatten).length, ⟨S0.map tx, none, by rw [List.map_map]; rfl, fun x => ?_, by simp⟩, ?_, ?_⟩
        · rw [List.mem_map]
          simp only [List.take_zero, List.map_nil, List.flatten_nil, List.append_nil]
          exact ⟨fun ⟨l, a, b⟩ => ⟨l, a, b.symm⟩, fun ⟨l, a, b⟩ => ⟨l, a, b.symm⟩⟩
        · rintro i d env ed ⟨fs, e4, rfl, hm, hl⟩
          rw [List.getElem?_map] at ed
          obtain ⟨z, ez, rfl⟩ := Option.map_eq_some_iff.mp ed
          have e1 : as.take (i + 1) = as.take i ++ [z] := by rw [List.take_succ, ez]; rfl
          have hz := List.mem_of_getElem? ez
          cases z with
          | inl d =>
            have e2 : S0 ++ ((as.take (i + 1)).map (selN gs)).flatten = S0 ++ ((as.take i).map (selN gs)).flatten := by
              rw [e1, List.map_append, List.flatten_append]
              show S0 ++ (_ ++ ([] ++ [])) = _
              rw [List.append_nil, List.append_nil]
            rcases hint d hz with ⟨l, rfl⟩ | ⟨j, rfl⟩
            · show B1 _ (put 3 (D.str (tx l)) _)
              refine hB1 _ _ ?_
              clear hB1
              walk_at "dg"
              exact ⟨fs, rfl, by rw [e2]; exact hm, by rw [← List.length_append, e2]; exact hl⟩
            · show B1 _ (put 3 (D.int j) _)
              refine hB1 _ _ ?_
              clear hB1
              walk_at "dg"
              exact ⟨fs, rfl, by rw [e2]; exact hm, by rw [← List.length_append, e2]; exact hl⟩
          | inr s =>
            show B1 _ (put 3 s.d _)
            refine hB1 _ _ ?_
            clear hB1
            have hs2 := (hsub s).mpr hz
            obtain ⟨k1, hv1⟩ := subs_vf hv0 hs2
            obtain ⟨k', rfl⟩ : ∃ k', k = k' + 1 := ⟨k - 1, by omega⟩
            obtain ⟨xs, exs⟩ := d_tup_of s
            have e2 : S0 ++ ((as.take (i + 1)).map (selN gs)).flatten = (S0 ++ ((as.take i).map (selN gs)).flatten) ++ s.sel gs := by
              rw [e1, List.map_append, List.flatten_append, List.append_assoc]
              congr 2
              show s.sel gs ++ [] = _
              rw [List.append_nil]
            have hle : (S0 ++ ((as.take (i + 1)).map (selN gs)).flatten).length ≤ ((FT.node h it q f).sel gs).length := by
              rw [eS, List.length_append, List.length_append]
              exact Nat.add_le_add_left (flat_take _ _) _
            rw [e2, List.length_append] at hle
            rw [exs]
            walk_at "dg"
            refine ⟨k', rfl, n, s, exs.symm, hv1, hn, Nat.le_trans (sub_text hs2) hlt, hgo, fun ys hy => ?_⟩
            have hyl := hy.2.2.2
            have hl2 := hl
            rw [List.length_append] at hl2 hle
            refine ⟨by omega, fs ++ ys, by rw [List.map_append], fun x => ?_, ?_⟩
            · rw [e2, List.mem_append, hm x, hy.2.2.1 x]
              simp only [List.mem_append, or_and_right, exists_or]
            · rw [← List.length_append, e2, List.length_append, List.length_append]
              rw [List.length_append]
              omega
        · rintro env ⟨fs, e4, rfl, hm, hl⟩
          rw [List.length_map, List.take_length, ← eS] at hm hl
          exact ret fs e4 hm hl
    clear hN1
    cases t with
    | word l =>
      simp only [FT.d, wordD] at fin ⊢
      walk_at "dg"
      exact ⟨fun _ => fin, fun _ => fin⟩
    | node h it q f =>
      obtain ⟨ok, h0, hf⟩ := hv
      simp only [FT.d] at fin ⊢
      walk_at "dg"
      refine ⟨fun z => ?_, fun z => ?_⟩
      · rcases sel0_vf (f := f) ok z hgo with ⟨l, rfl, l1, l2, e0, y⟩ | ⟨rfl, i, rfl, _, e0⟩
        · rw [e0] at fin
          refine ⟨.str (tx l), atI_nat (j := 1) rfl, ?_⟩
          walk_at "dg"
          exact ⟨_, atI_nat (j := 1) rfl, fin⟩
        · rw [e0] at fin
          refine ⟨.int i, atI_nat (j := 1) rfl, ?_⟩
          walk_at "dg"
          exact fin
      · have e0 : (FT.node h it q f).sel0 gs = [] := if_neg z
        rw [e0] at fin
        exact fin
local macro_rules | `(tactic| walk_at "rk") => `(tactic| first
  | assumption
  | (refine rok_app ?_ ?_ ?_ <;> first | walk_at "rk" | (simp only [List.length_append, List.length_reverse, List.length_map, List.length_replicate]; omega))
  | (refine rok_rev ?_; walk_at "rk")
  | (refine rok_map ?_ _ (fun t => fmod_in (by assumption)); walk_at "rk")
  | omega
  | decide
  | (refine log_lt (k := 80) ?_ (by decide) (by decide); omega))
local macro_rules | `(tactic| walk_at "fin") => `(tactic| ((repeat' (first | (with_reducible assumption) | (with_reducible refine And.intro ?_ ?_) | (with_reducible intro _))); all_goals first | (with_reducible assumption) | omega | contradiction | trivial))
local macro_rules | `(tactic| walk_at "cj") => `(tactic| repeat' (refine And.intro (by walk_at "rk") ?_))
local macro_rules | `(tactic| walk_at "dg") => do let xs ← dgN30.mapM fun n => `(Lean.Parser.Tactic.simpLemma| $(Lean.mkIdent n):term); `(tactic| simp only [$xs,*, List.getElem?_cons_zero, List.getElem?_cons_succ])
def F__law_hands : Spec
  | [.bag], R, _ => ∀ h : Int, 2 ≤ h → h ≤ 4 → R (.int h)
  | _, _, _ => False
theorem F__law_hands_is {R : D → Prop} {Rx : Er → Prop} : F__law_hands [.bag] R Rx = ∀ h : Int, 2 ≤ h → h ≤ 4 → R (.int h) := rfl
theorem F__law_hands_of {ds : List D} {R : D → Prop} {Rx : Er → Prop} (h : F__law_hands ds R Rx) : ds = [.bag] ∧ ∀ h : Int, 2 ≤ h → h ≤ 4 → R (.int h) := by
  unfold F__law_hands at h
  split at h
  · exact ⟨rfl, h⟩
  · exact h.elim
def b__law_hands (Dx : Df K mg "_law_hands" s__law_hands) : Binds K Dx.fd ["_law_bag_here"] [] := Dx.F.bindsN fun _ _ _ _ _ _ us hl => match us, hl with | [_], _ => rfl
def n__law_hands : List Str := ["_law_bag_here"]
theorem sc__law_hands : FnScope n__law_hands ["_law_bag_here"] (defScope s__law_hands) := ⟨rfl, rfl, rfl, by decide +kernel, rfl, by decide +kernel, by decide +kernel⟩
def dgN31 : Array Lean.Name := dgN30 ++ #[`F__law_hands_is]
local macro_rules | `(tactic| walk_at "dg") => do let xs ← dgN31.mapM fun n => `(Lean.Parser.Tactic.simpLemma| $(Lean.mkIdent n):term); `(tactic| simp only [$xs,*, List.getElem?_cons_zero, List.getElem?_cons_succ])
theorem ok__law_hands (T : Tx mg) (D__law_hands : Df K mg "_law_hands" s__law_hands) (D__law_pull : Df K mg "_law_pull" s__law_pull) : FnOk P w K mg base (L2.CX P w) 2 D__law_hands.f D__law_hands.fd ["_law_bag_here"] (spD F__law_hands) := by
  have G__law_pull := ok__law_pull (P := P) (w := w) (base := base) D__law_pull T.m_int T.m_len
  refine fn_d D__law_hands.F sc__law_hands (fun ds R Rx h => ?_) (fun cdv A outer s H E hr => (ds_one (s_ret (d_add d_int (d_call G__law_pull (hr.mono (by decide)) D__law_pull.g D__law_pull.F.kp (b__law_pull D__law_pull) .nil dfR_nil pass_d (da_cons (d_var 0) (da_cons d_int da_nil)))))) ) fun ds R Rx h => ?_
  · obtain ⟨rfl, _⟩ := F__law_hands_of h
    rfl
  · obtain ⟨rfl, hR⟩ := F__law_hands_of h
    simp only [n__law_hands]
    walk_at "dg"
    exact ⟨log_lt (k := 20) (by decide) (by decide) (by decide), fun r h1 h2 => hR _ (by omega) (by omega)⟩
theorem Vf.hands {n m : Nat} (hm : n ≤ m) : ∀ {t : FT} {k : Nat}, Vf n k t → Vf m k t
  | .word l, k, ⟨h1, h2, h3⟩ => ⟨h1, h2, fun c hc => by
    have := h3 c hc
    exact (List.take_subset_take_left FIG hm) this⟩
  | .node h it q f, k, ⟨h1, h2, h3⟩ => ⟨by
    rcases h1 with z | z | ⟨z1, z2, j, z3, z4⟩ | z | z | z | z
    · exact .inl z
    · exact .inr (.inl z)
    · exact .inr (.inr (.inl ⟨z1, z2, j, z3, by omega⟩))
    · exact .inr (.inr (.inr (.inl z)))
    · exact .inr (.inr (.inr (.inr (.inl z))))
    · exact .inr (.inr (.inr (.inr (.inr (.inl z)))))
    · exact .inr (.inr (.inr (.inr (.inr (.inr z))))), h2, fun i hi => Vf.hands hm (h3 i hi)⟩
/-- a form's text that is put together is read -/
theorem mkForm_ft {C CF : Addr} {n : Nat} {u : Cs} {p : FT} {R : D → Prop} {Rx : Er → Prop} (hn : n ≤ 4) (e : u = p.text) (v : Vf n 7 p) (l : p.text.length ≤ 400) (hR : R (formO C p.d n (tx p.text))) : mkForm C CF n u R Rx := by
  subst e
  exact mkForm_good (by omega) (read_ok hn v l) hR
theorem Vf.bck {n k : Nat} {a : FT} (va : Vf n k a) : Vf n (k + 1) (nd1 hBack none a) := ⟨.inr (.inr (.inr (.inr (.inl ⟨rfl, rfl, rfl⟩)))), fun z => by omega, fun i _ => va⟩
theorem eq_back {a : FT} : cBack ++ a.text ++ [41] = (nd1 hBack none a).text := by
  show _ = hBack ++ 40 :: (glue ([] ++ [a.text]) ++ [41])
  simp [glue, cBack, hBack]
theorem ab3_eq : [D.str "ab", D.str "x", D.str "zzzzzzzz"] = ([[97, 98], [120], List.replicate 8 122] : List Cs).map fun l => .str (tx l) := by
  rw [show ("ab" : Str) = tx [97, 98] by decide +kernel, show ("x" : Str) = tx [120] by decide +kernel, show ("zzzzzzzz" : Str) = tx (List.replicate 8 122) by decide +kernel]
  rfl
theorem mn2_eq : [D.str "m", D.str "n"] = ([[109], [110]] : List Cs).map fun l => .str (tx l) := by
  rw [m_eq, n_eq]
  rfl
theorem tu0_eq : ("turned(0," : Str) = tx (hTurned ++ [40, 48, 44]) := by decide +kernel
def tur0 (t : FT) : FT := nd1 hTurned (some (.int ((0 : Nat) : Int))) t
theorem tur0_text {t : FT} : hTurned ++ [40, 48, 44] ++ t.text ++ [41] = (tur0 t).text := by
  have e : itTx (.int ((0 : Nat) : Int)) = [48] := by decide +kernel
  show _ = hTurned ++ 40 :: (glue ([itTx (.int ((0 : Nat) : Int))] ++ [t.text]) ++ [41])
  rw [e]
  simp [glue]
theorem tur0_vf {n k : Nat} {t : FT} (h : 2 ≤ n) (v : Vf n k t) : Vf n (k + 1) (tur0 t) := ⟨.inr (.inr (.inl ⟨rfl, rfl, 0, rfl, by omega⟩)), fun z => by omega, fun i _ => v⟩
def AB6 : Cs := [97, 98, 99, 120, 121, 122]
theorem ab6_eq : ("abcxyz" : Str) = tx AB6 := by decide +kernel
theorem ab6_let {c : Nat} (h : c ∈ AB6) : c ∈ LET := by
  simp only [AB6, List.mem_cons, List.not_mem_nil, or_false] at h
  rcases h with rfl | rfl | rfl | rfl | rfl | rfl <;> decide
theorem name_ab {cs : Cs} (h : ∀ c ∈ cs, c ∈ AB6) : isName (.str (tx cs)) = (decide (1 ≤ cs.length) && decide (cs.length ≤ 8)) := by
  have e0 : isName (.str (tx cs)) = (decide (1 ≤ cs.length) && decide (cs.length ≤ 8) && cs.all fun c => decide (c ∈ LET)) := rfl
  rw [e0, show (cs.all fun c => decide (c ∈ LET)) = true from List.all_eq_true.mpr fun c hc => decide_eq_true (ab6_let (h c hc)), Bool.and_true]
def n_law : List Str := ["_law_script", "_law_bag_here", "_law_turn", "_law_hands_z", "_law_tree_here", "_law_text_z", "_law_form", "_law_inner", "_law_again", "_law_found", "_law_due", "_law_parts", "_law_other", "_law_name_y", "_law_bad", "_law_part", "_law_k"]
theorem sc_law : FnScope n_law ["_law_script"] (defScope s_law) := ⟨rfl, rfl, rfl, by decide +kernel, rfl, by decide +kernel, by decide +kernel⟩
theorem kb_Form___init___1_text_hands (Dx : Dm K "__init__" "Form.__init__" s_Form___init__) : KBd K Dx.fd ["self", "hands", "text"] ["text", "hands"] (gPerm 1 2 [0, 2, 1]) := Dx.kb 1 2 [0, 2, 1] (by simp) fun _ _ _ _ _ _ us ws h1 h2 => match us, ws, h1, h2 with | [_], [_, _], _, _ => rfl
theorem kp_Form___init___1_text_hands {x0 x1 x2 : D} : gPerm 1 2 [0, 2, 1] [x0] [x1, x2] = [x0, x2, x1] := rfl
theorem kb_is_name_0_value (Dx : Df K mg "is_name" s_is_name) : KBd K Dx.fd ["value"] ["value"] (gPerm 0 1 [0]) := Dx.kb 0 1 [0] (by simp) fun _ _ _ _ _ _ us ws h1 h2 => match us, ws, h1, h2 with | [], [_], _, _ => rfl
theorem kp_is_name_0_value {x0 : D} : gPerm 0 1 [0] [] [x0] = [x0] := rfl
def dgN32 : Array Lean.Name := dgN31 ++ #[`kp_Form___init___1_text_hands, `kp_is_name_0_value]
local macro_rules | `(tactic| walk_at "dg") => do let xs ← dgN32.mapM fun n => `(Lean.Parser.Tactic.simpLemma| $(Lean.mkIdent n):term); `(tactic| simp only [$xs,*, List.getElem?_cons_zero, List.getElem?_cons_succ])
theorem good_strs {n : Nat} {ys : List Str} : GoodL (n + 1) (ys.map D.str) := fun x hx => by
  obtain ⟨s, _, rfl⟩ := List.mem_map.mp hx
  exact trivial
theorem ix0_d {t : FT} {R : D → Prop} (h : R (.str (tx t.kindS))) : opIx t.d (.int 0) R := by
  cases t with
  | word l =>
    simp only [FT.d, wordD]
    walk_at "dg"
    rw [tx_word]
    exact h
  | node h2 it j f =>
    simp only [FT.d]
    walk_at "dg"
    exact h
theorem ok_law (T : Tx mg) (K_Form : Kx_Form K mg) (X_InvalidHands : Xe K mg P.main.file "InvalidHands" s_InvalidHands___init__) (X_InvalidForm : Xe K mg P.main.file "InvalidForm" s_InvalidForm___init__) (D_law : Df K mg "law" s_law) (D__law_bag : Df K mg "_law_bag" s__law_bag) (D__law_hands : Df K mg "_law_hands" s__law_hands) (D__law_pull : Df K mg "_law_pull" s__law_pull) (D__law_tree : Df K mg "_law_tree" s__law_tree) (D__law_pick : Df K mg "_law_pick" s__law_pick) (D__law_text : Df K mg "_law_text" s__law_text) (D__law_digits : Df K mg "_law_digits" s__law_digits) (D_check_hands : Df K mg "check_hands" s_check_hands) (D_is_number : Df K mg "is_number" s_is_number) (D_tree_in : Df K mg "tree_in" s_tree_in) (D_form_at : Df K mg "form_at" s_form_at) (D_run_at : Df K mg "run_at" s_run_at) (D_taken : Df K mg "taken" s_taken) (D_head_at : Df K mg "head_at" s_head_at) (D_first_at : Df K mg "first_at" s_first_at) (D_count_at : Df K mg "count_at" s_count_at) (D_depth_of : Df K mg "depth_of" s_depth_of) (D_parts_of : Df K mg "parts_of" s_parts_of) (D_found_in : Df K mg "found_in" s_found_in) (D_is_name : Df K mg "is_name" s_is_name) (D__law_depth : Df K mg "_law_depth" s__law_depth) (D__law_marks : Df K mg "_law_marks" s__law_marks) (D__law_same : Df K mg "_law_same" s__law_same) (D_text_of : Df K mg "text_of" s_text_of) (hsup : mg "super" = none) (htop : (P.main.scope.names.lookup ("super" : Str)).isSome = false) (U_HEADS : Gt K mg "HEADS" ["then(", "again(", "back(", "turned(", "double(", "with(", "use("]) (U_COUNTS : Gt K mg "COUNTS" ["m", "n"]) {cd_Form_counts tb_Form_counts : Addr} (hcd_Form_counts : K_Form.D_counts.fd.code = .ref cd_Form_counts) (hTB_Form_counts : LamX.TabB base mg cd_Form_counts tb_Form_counts) (hmem_Form_counts : (tb_Form_counts, lq_Form_counts) ∈ TbC.ts) (hmu_Form_counts : ∀ p ∈ TbC.ts, p.1 = tb_Form_counts → p.2 = lq_Form_counts) (hlq : ∀ (i : Nat) (q : LamQ), lamTab[i]? = some q → TbC.lq i = q) :
    FnOk P w K mg base (L2.CX P w) 32 D_law.f D_law.fd ["_law_script"] (spLaw K) := by
  have G__law_hands := ok__law_hands (P := P) (w := w) (base := base) T D__law_hands D__law_pull
  have G__law_tree := ok__law_tree (P := P) (w := w) (base := base) T D__law_tree D__law_pull D__law_pick 5
  have G__law_pull := ok__law_pull (P := P) (w := w) (base := base) D__law_pull T.m_int T.m_len
  have G__law_text := ok__law_text (P := P) (w := w) (base := base) T D__law_text D__law_digits 8
  have G_Form___init__ := ok_Form___init__ (P := P) (w := w) (base := base) T K_Form X_InvalidHands X_InvalidForm D_check_hands D_is_number D_tree_in D_form_at D_run_at D_taken D_head_at D_first_at D_count_at hsup htop U_HEADS U_COUNTS
  have G_Form_text := ok_Form_text (P := P) (w := w) (base := base) T K_Form
  have G_Form_depth := ok_Form_depth (P := P) (w := w) (base := base) T K_Form D_depth_of D_parts_of
  have G_Form_kind := ok_Form_kind (P := P) (w := w) (base := base) T K_Form
  have G_Form_names := ok_Form_names (P := P) (w := w) (base := base) T K_Form D_found_in D_is_name D_parts_of U_COUNTS hlq
  have G_Form_counts := ok_Form_counts (P := P) (w := w) (base := base) T K_Form D_found_in D_is_name D_parts_of U_COUNTS hcd_Form_counts hTB_Form_counts hmem_Form_counts hmu_Form_counts hlq
  have G_Form___repr__ := ok_Form___repr__ (P := P) (w := w) (base := base) T K_Form
  have G__law_depth := ok__law_depth (P := P) (w := w) (base := base) T D__law_depth 8
  have G__law_marks := ok__law_marks (P := P) (w := w) (base := base) T D__law_marks 8
  have G__law_same := ok__law_same (P := P) (w := w) (base := base) ⟨T.m_isinstance, T.m_list, T.m_tuple, T.m_bool, T.m_int, T.m_str, T.m_len, T.m_all, T.m_zip⟩ D__law_same 6
  have G_Form_parts := ok_Form_parts (P := P) (w := w) (base := base) T K_Form X_InvalidHands X_InvalidForm D_parts_of D_check_hands D_is_number D_tree_in D_form_at D_run_at D_taken D_head_at D_first_at D_count_at D_text_of hsup htop U_HEADS U_COUNTS
  have G_Form___eq__ := ok_Form___eq__ (P := P) (w := w) (base := base) T K_Form
  have G__law_pick := ok__law_pick (P := P) (w := w) (base := base) D__law_pick D__law_pull T.m_int T.m_len
  have G_is_name := ok_is_name (P := P) (w := w) (base := base) T D_is_name
  refine law_d (n := 15) D_law sc_law rfl rfl rfl D__law_bag T.m_int rfl (by first | exact .inl rfl | exact .inr rfl) rfl (by first | exact .inl rfl | exact .inr rfl) (fun cdv A outer s H E hr =>
    have hu := hr.units
    (ds_cons (s_for (passes_of rfl) rfl (i_rg1 (da_cons d_int da_nil) T.m_range) (g_name (i := 2) sc_law.nd)
        (ds_cons (s_set (i := 3) sc_law.nd (d_call G__law_hands (hr.mono (by decide)) D__law_hands.g D__law_hands.F.kp (b__law_hands D__law_hands) .nil dfR_nil pass_d (da_cons (d_var 1) da_nil)))
          (ds_cons (s_set (i := 4) sc_law.nd (d_call G__law_tree (hr.mono (by decide)) D__law_tree.g D__law_tree.F.kp (b__law_tree D__law_tree) .nil dfR_nil pass_d (da_cons (d_var 1) (da_cons (d_var 3) (da_cons (d_add d_int (d_call G__law_pull (hr.mono (by decide)) D__law_pull.g D__law_pull.F.kp (b__law_pull D__law_pull) .nil dfR_nil pass_d (da_cons (d_var 1) (da_cons d_int da_nil)))) (da_cons (d_ofF (f_lst (da_cons d_str (da_cons d_str da_nil)))) (da_cons (d_ofF (f_lst (da_cons d_str (da_cons d_str (da_cons d_str da_nil))))) da_nil)))))))
          (ds_cons (s_set (i := 5) sc_law.nd (d_call G__law_text (hr.mono (by decide)) D__law_text.g D__law_text.F.kp (b__law_text D__law_text) .nil dfR_nil pass_d (da_cons (d_var 4) da_nil)))
          (ds_cons (s_set (i := 6) sc_law.nd (d_make K_Form.mkr G_Form___init__ (hr.mono (by decide)) K_Form.g (b_Form___init__ K_Form.D___init__) pass_d (da_cons (d_var 3) (da_cons (d_var 5) da_nil))))
          (ds_cons (s_set (i := 7) sc_law.nd (d_if (dt_cmp (c_ne hu) (d_ix (d_var 4) d_int) d_str (nomark _)) (d_ofF (f_lc rfl sc_law.nd (i_tup (d_slice (d_var 4) (do_some d_int) do_none)) (blkOk_by (own := [("_law_part", 15)]) (N := n_law) (sc := defScope s_law) (by decide +kernel)) (by decide) (fun _ _ _ _ _ => (g_name (i := 15) sc_law.nd)) (fun _ _ _ _ _ => (dts_one (dt_tru (d_callB b_isi T.m_isinstance PyProof.Rows.boot_isinstance (da_cons (d_var 15) (da_cons (d_bty T.m_tuple PyProof.Rows.boot_tuple) da_nil)))))) (fun _ _ _ _ _ => (d_var 15)))) (d_ofF (f_lst da_nil))))
          (ds_cons (s_for (passes_of rfl) rfl (i_rg1 (da_cons d_int da_nil) T.m_range) (g_name (i := 8) sc_law.nd)
            (ds_cons (s_set (i := 9) sc_law.nd (d_ofF (f_lst (da_cons (d_fld (d_var 6) K_Form.cls K_Form.n_hands) (da_cons (d_prop (d_var 6) K_Form.cls K_Form.p_text G_Form_text (hr.mono (by decide)) (b_Form_text K_Form.D_text) passL) (da_cons (d_prop (d_var 6) K_Form.cls K_Form.p_depth G_Form_depth (hr.mono (by decide)) (b_Form_depth K_Form.D_depth) passL) (da_cons (d_prop (d_var 6) K_Form.cls K_Form.p_kind G_Form_kind (hr.mono (by decide)) (b_Form_kind K_Form.D_kind) passL) (da_cons (d_ofN (d_methN0 (d_var 6) K_Form.cls K_Form.h_names G_Form_names (hr.mono (by decide)) (b_Form_names K_Form.D_names) pass_d)) (da_cons (d_ofN (d_methN0 (d_var 6) K_Form.cls K_Form.h_counts G_Form_counts (hr.mono (by decide)) (b_Form_counts K_Form.D_counts) pass_d)) (da_cons (d_callB (b_reprOw hu K_Form.o___repr__ G_Form___repr__ (b_Form___repr__ K_Form.D___repr__) (hr.mono (by decide))) T.m_repr (by decide +kernel) (da_cons (d_var 6) da_nil)) da_nil))))))))))
              (ds_cons (s_set (i := 10) sc_law.nd (d_ofF (f_lst (da_cons (d_var 3) (da_cons (d_var 5) (da_cons (d_call G__law_depth (hr.mono (by decide)) D__law_depth.g D__law_depth.F.kp (b__law_depth D__law_depth) .nil dfR_nil pass_d (da_cons (d_var 4) da_nil)) (da_cons (d_ix (d_var 4) d_int) (da_cons (d_call G__law_marks (hr.mono (by decide)) D__law_marks.g D__law_marks.F.kp (b__law_marks D__law_marks) .nil dfR_nil pass_d (da_cons (d_var 4) (da_cons d_str da_nil))) (da_cons (d_call G__law_marks (hr.mono (by decide)) D__law_marks.g D__law_marks.F.kp (b__law_marks D__law_marks) .nil dfR_nil pass_d (da_cons (d_var 4) (da_cons d_str da_nil))) da_nil)))))))))
              (ds_cons (s_if (dt_not (dt_tru (d_call G__law_same (hr.mono (by decide)) D__law_same.g D__law_same.F.kp (b__law_same D__law_same) .nil dfR_nil pass_d (da_cons (d_var 9) (da_cons (d_add (d_var 10) (d_ofF (f_lst (da_cons (d_add (d_add (d_add (d_add d_str (d_callT b_str T.m_str PyProof.Rows.boot_str (da_cons (d_var 3) da_nil))) d_str) (d_var 5)) d_str) da_nil)))) da_nil))))) (ds_one (s_ret d_bl)) ds_nil)
              (ds_cons (s_setO (i := 11) sc_law.nd (f_methF0 (d_var 6) K_Form.cls K_Form.h_parts G_Form_parts (hr.mono (by decide)) (b_Form_parts K_Form.D_parts) pass_d))
              (ds_cons (s_if (dt_lend (dt_not (dt_tru (d_call G__law_same (hr.mono (by decide)) D__law_same.g D__law_same.F.kp (b__law_same D__law_same) .nil dfR_nil pass_d (da_cons (d_ofF (f_lc rfl sc_law.nd (i_list (d_var 11)) (blkOk_by (own := [("_law_part", 15)]) (N := n_law) (sc := defScope s_law) (by decide +kernel)) (by decide) (fun _ _ _ _ _ => (g_name (i := 15) sc_law.nd)) (fun _ _ _ _ _ => dts_nil) (fun _ _ _ _ _ => (d_prop (d_var 15) K_Form.cls K_Form.p_text G_Form_text (hr.mono (by decide)) (b_Form_text K_Form.D_text) passL)))) (da_cons (d_ofF (f_lc rfl sc_law.nd (i_list (d_var 7)) (blkOk_by (own := [("_law_part", 15)]) (N := n_law) (sc := defScope s_law) (by decide +kernel)) (by decide) (fun _ _ _ _ _ => (g_name (i := 15) sc_law.nd)) (fun _ _ _ _ _ => dts_nil) (fun _ _ _ _ _ => (d_call G__law_text (hr.mono (by decide)) D__law_text.g D__law_text.F.kp (b__law_text D__law_text) .nil dfR_nil passL (da_cons (d_var 15) da_nil))))) da_nil)))))) (ds_one (s_ret d_bl)) ds_nil)
              (ds_cons (s_if (dt_lend (dt_cmp (c_ne hu) (d_ofF (f_lc rfl sc_law.nd (i_list (d_var 11)) (blkOk_by (own := [("_law_part", 15)]) (N := n_law) (sc := defScope s_law) (by decide +kernel)) (by decide) (fun _ _ _ _ _ => (g_name (i := 15) sc_law.nd)) (fun _ _ _ _ _ => (dts_one (dt_cmp (c_ne hu) (d_fld (d_var 15) K_Form.cls K_Form.n_hands) (d_var 3) (nomark _)))) (fun _ _ _ _ _ => (d_var 15)))) (d_ofF (f_lst da_nil)) (nomark _))) (ds_one (s_ret d_bl)) ds_nil)
              (ds_cons (s_clrO 11 (hp := fun ho => pe_bm0 PySem.F.plainAttrs_list PySem.F.slot_list_clear PySem.F.type_list_clear mt_clear ho))
              (ds_cons (s_appF (f_ofN (d_methN0 (d_var 6) K_Form.cls K_Form.h_names G_Form_names (hr.mono (by decide)) (b_Form_names K_Form.D_names) pass_d)) d_str (hp := fun ho h => pe_bm PySem.F.plainAttrs_list PySem.F.slot_list_append PySem.F.type_list_append mt_append ho (pa_cons h pa_nil)))
              (ds_one (s_appF (f_ofN (d_methN0 (d_var 6) K_Form.cls K_Form.h_counts G_Form_counts (hr.mono (by decide)) (b_Form_counts K_Form.D_counts) pass_d)) d_str (hp := fun ho h => pe_bm PySem.F.plainAttrs_list PySem.F.slot_list_append PySem.F.type_list_append mt_append ho (pa_cons h pa_nil)))))))))))))
          (ds_cons (s_set (i := 12) sc_law.nd (d_add (d_add d_str (d_var 5)) d_str))
          (ds_cons (s_set (i := 9) sc_law.nd (d_ofF (f_lst (da_cons (d_cmp (c_ownEq K_Form.o___eq__ G_Form___eq__ (b_Form___eq__ K_Form.D___eq__) (hr.mono (by decide))) (d_var 6) (d_makeK0 (m := 2) (idx := [1, 0]) (idx0 := [0, 2, 1]) K_Form.mkr G_Form___init__ (hr.mono (by decide)) K_Form.g (kb_Form___init___1_text_hands K_Form.D___init__) pass_d (dk_cons (d_var 5) (dk_cons (d_var 3) dk_nil)) rfl (fun _ zs h => match zs, h with | [_, _], _ => rfl) (fun _ zs h => match zs, h with | [_, _], _ => rfl)) (nomark _)) (da_cons (d_cmp (c_ownEqA K_Form.i___add__ K_Form.o___eq__ G_Form___eq__ (b_Form___eq__ K_Form.D___eq__) (hr.mono (by decide))) (d_var 6) (d_var 5) (nomark _)) (da_cons (d_cmp (c_ownEq K_Form.o___eq__ G_Form___eq__ (b_Form___eq__ K_Form.D___eq__) (hr.mono (by decide))) (d_var 6) (d_make K_Form.mkr G_Form___init__ (hr.mono (by decide)) K_Form.g (b_Form___init__ K_Form.D___init__) pass_d (da_cons (d_var 3) (da_cons (d_add (d_add d_str (d_var 5)) d_str) da_nil))) (nomark _)) (da_cons (d_and (d_cmp c_lt (d_var 3) d_int (nomark _)) (d_one (d_cmp (c_ownEq K_Form.o___eq__ G_Form___eq__ (b_Form___eq__ K_Form.D___eq__) (hr.mono (by decide))) (d_var 6) (d_make K_Form.mkr G_Form___init__ (hr.mono (by decide)) K_Form.g (b_Form___init__ K_Form.D___init__) pass_d (da_cons (d_add (d_var 3) d_int) (da_cons (d_var 5) da_nil))) (nomark _)))) (da_cons (d_cmp (c_ownEq K_Form.o___eq__ G_Form___eq__ (b_Form___eq__ K_Form.D___eq__) (hr.mono (by decide))) (d_ix (d_ofF (f_methF0 (d_make K_Form.mkr G_Form___init__ (hr.mono (by decide)) K_Form.g (b_Form___init__ K_Form.D___init__) pass_d (da_cons (d_var 3) (da_cons (d_var 12) da_nil))) K_Form.cls K_Form.h_parts G_Form_parts (hr.mono (by decide)) (b_Form_parts K_Form.D_parts) pass_d)) d_int) (d_var 6) (nomark _)) da_nil))))))))
          (ds_cons (s_if (dt_not (dt_tru (d_call G__law_same (hr.mono (by decide)) D__law_same.g D__law_same.F.kp (b__law_same D__law_same) .nil dfR_nil pass_d (da_cons (d_var 9) (da_cons (d_ofF (f_lst (da_cons d_bl (da_cons d_bl (da_cons d_bl (da_cons d_bl (da_cons d_bl da_nil))))))) da_nil))))) (ds_one (s_ret d_bl)) ds_nil)
          (ds_cons (s_set (i := 13) sc_law.nd (d_join d_str (d_ofF (f_lc rfl sc_law.nd (i_rg1 (da_cons (d_call G__law_pull (hr.mono (by decide)) D__law_pull.g D__law_pull.F.kp (b__law_pull D__law_pull) .nil dfR_nil pass_d (da_cons (d_var 1) (da_cons d_int da_nil))) da_nil) T.m_range) (blkOk_by (own := [("_law_k", 16)]) (N := n_law) (sc := defScope s_law) (by decide +kernel)) (by decide) (fun _ _ _ _ _ => (g_name (i := 16) sc_law.nd)) (fun _ _ _ _ _ => dts_nil) (fun _ _ _ _ _ => (d_call G__law_pick (hr.mono (by decide)) D__law_pick.g D__law_pick.F.kp (b__law_pick D__law_pick) .nil dfR_nil passL (da_cons (d_var 1) (da_cons d_str da_nil))))))))
          (ds_cons (s_set (i := 14) sc_law.nd (d_call G__law_pick (hr.mono (by decide)) D__law_pick.g D__law_pick.F.kp (b__law_pick D__law_pick) .nil dfR_nil pass_d (da_cons (d_var 1) (da_cons (d_ofF (f_lst (da_cons d_non (da_cons d_int (da_cons d_str (da_cons d_str (da_cons d_str (da_cons d_str (da_cons (d_ofF (f_lst (da_cons d_str da_nil))) (da_cons (d_tup (da_cons d_str da_nil)) (da_cons d_str (da_cons d_bl da_nil)))))))))))) da_nil))))
          (ds_one (s_if (dt_not (dt_tru (d_call G__law_same (hr.mono (by decide)) D__law_same.g D__law_same.F.kp (b__law_same D__law_same) .nil dfR_nil pass_d (da_cons (d_ofF (f_lst (da_cons (d_call G_is_name (hr.mono (by decide)) D_is_name.g D_is_name.F.kp (b_is_name D_is_name) .nil dfR_nil pass_d (da_cons (d_var 13) da_nil)) (da_cons (d_callK0 G_is_name (hr.mono (by decide)) D_is_name.g D_is_name.F.kp (kb_is_name_0_value D_is_name) pass_d (dk_cons (d_var 14) dk_nil)) da_nil)))) (da_cons (d_ofF (f_lst (da_cons (d_chain c_le c_le d_int (d_callB b_len T.m_len boot_len (da_cons (d_var 13) da_nil)) d_int) (da_cons d_bl da_nil)))) da_nil))))) (ds_one (s_ret d_bl)) ds_nil))))))))))))))
      (ds_one (s_ret (d_call G__law_same (hr.mono (by decide)) D__law_same.g D__law_same.F.kp (b__law_same D__law_same) .nil dfR_nil pass_d (da_cons (d_ofF (f_lst (da_cons (d_cvI K_Form.cv_MOST_DEPTH K_Form.g) (da_cons (d_cvI K_Form.cv_MOST_LENGTH K_Form.g) da_nil)))) (da_cons (d_ofF (f_lst (da_cons d_int (da_cons d_int da_nil)))) da_nil))))))) fun a => ?_
  simp only [lawEn, List.replicate]
  have lg : ∀ n : Int, 0 ≤ n → n < 2 ^ 60 → n.natAbs.log2 < 9000 := fun n h0 h1 => log_lt (k := 60) (by omega) (by decide) (by decide)
  refine seq_step fun N hN => for_step fun B hB => ?_
  walk_at "dg"
  refine ⟨fun i env => ∃ e2 e3 e4 e5 e6 e7 e8 e9 e10 e11 e12 e13 e14 e15 e16 : Option DV, env = [some (.val (.adr a)), some (.val .bag), e2, e3, e4, e5, e6, e7, e8, e9, e10, e11, e12, e13, e14, e15, e16], ⟨_, _, _, _, _, _, _, _, _, _, _, _, _, _, _, rfl⟩, ?_, ?_⟩
  rotate_left
  · rintro env ⟨e2, e3, e4, e5, e6, e7, e8, e9, e10, e11, e12, e13, e14, e15, e16, rfl⟩
    refine hN _ ?_
    walk_at "dg"
  rintro i d env _ ⟨e2, e3, e4, e5, e6, e7, e8, e9, e10, e11, e12, e13, e14, e15, e16, rfl⟩
  walk_at "dg"
  refine hB _ _ ?_
  clear hB hN
  refine seq_step fun N1 hN1 => ?_
  walk_at "dg"
  intro h h2 h4
  obtain ⟨n, rfl⟩ : ∃ n : Nat, h = (n : Int) := ⟨h.toNat, by omega⟩
  have n2 : 2 ≤ n := by omega
  have n4 : n ≤ 4 := by omega
  clear h2 h4
  refine hN1 _ ?_
  clear hN1 N1
  refine seq_step fun N1 hN1 => ?_
  walk_at "dg"
  refine ⟨by decide +kernel, fun r r0 r1 => ⟨(1 + r).toNat, by omega, n, rfl, by omega, n2, n4, [[109], [110]], mn2_eq, [[97, 98], [120], List.replicate 8 122], ab3_eq, by decide, by decide, fun t ht => ?_⟩⟩
  have mok : MsOk [[109], [110]] [[97, 98], [120], List.replicate 8 122] := ⟨by decide, by decide⟩
  obtain ⟨v, hl⟩ := tr_ok mok n4 _ ht
  have hk : (1 + r).toNat - 1 = 0 ∨ (1 + r).toNat - 1 = 1 ∨ (1 + r).toNat - 1 = 2 := by omega
  have l2 : t.text.length ≤ 149 := by
    rcases hk with z | z | z <;> rw [z] at hl <;> exact Nat.le_trans hl (by decide)
  have v2 : Vf n 2 t := v.mono (by omega)
  have v7 : Vf n 7 t := v.mono (by omega)
  clear hk hl v ht r0 r1
  refine hN1 _ ?_
  clear hN1 N1
  refine seq_step fun N1 hN1 => ?_
  walk_at "dg"
  have mk : ∀ {R : D → Prop} {Rx : Er → Prop}, R (formO K_Form.C t.d n (tx t.text)) → mkForm K_Form.C X_InvalidForm.C n t.text R Rx := fun hR => mkForm_ft n4 rfl v7 (by omega) hR
  refine ⟨7, rfl, n, t, rfl, v7, n4, by omega, ?_⟩
  refine hN1 _ ?_
  clear hN1 N1
  refine seq_step fun N1 hN1 => ?_
  walk_at "dg"
  refine formI_t n2 n4 (mk ?_)
  refine hN1 _ ?_
  clear hN1 N1
  refine seq_step fun N1 hN1 => ?_
  walk_at "dg"
  have fin : N1 [some (.val (.adr a)), some (.val .bag), some (.val d), some (.val (.int (n : Int))), some (.val t.d), some (.val (.str (tx t.text))), some (.val (formO K_Form.C t.d n (tx t.text))), some (.val (.lst (t.subs.map FT.d))), e8, e9, e10, e11, e12, e13, e14, e15, e16] := by
    refine hN1 _ ?_
    clear hN1 N1
    refine seq_step fun N1 hN1 => for_step fun B hB => ?_
    walk_at "dg"
    have rest : ∀ e8 e9 e10 e11 e12 e13 e14 e15 e16 : Option DV, N1 [some (.val (.adr a)), some (.val .bag), some (.val d), some (.val (.int (n : Int))), some (.val t.d), some (.val (.str (tx t.text))), some (.val (formO K_Form.C t.d n (tx t.text))), some (.val (.lst (t.subs.map FT.d))), e8, e9, e10, e11, e12, e13, e14, e15, e16] := by
      intro e8 e9 e10 e11 e12 e13 e14 e15 e16
      refine hN1 _ ?_
      clear hN1 hB
      refine seq_step fun N1 hN1 => ?_
      walk_at "dg"
      rw [tx_back, tx_close]
      walk_at "dg"
      have bl : cBack.length = 5 := rfl
      refine ⟨by omega, by omega, ?_⟩
      refine hN1 _ ?_
      clear hN1
      have bk1 : (cBack ++ t.text ++ [41]).length ≤ 160 := by simp; omega
      have bv : Vf n 7 (nd1 hBack none t) := (Vf.bck v2).mono (by decide)
      have bl2 : (nd1 hBack none t).text.length ≤ 400 := by rw [← eq_back]; omega
      have tl2 : (tur0 t).text.length ≤ 170 := by rw [← tur0_text]; simp [hTurned]; omega
      have tv : Vf n 7 (tur0 t) := (tur0_vf n2 v2).mono (by decide)
      have bsub : (nd1 hBack none t).subs = [t] := rfl
      refine seq_step fun N1 hN1 => ?_
      have last : N1 [some (.val (.adr a)), some (.val .bag), some (.val d), some (.val (.int (n : Int))), some (.val t.d), some (.val (.str (tx t.text))), some (.val (formO K_Form.C t.d n (tx t.text))), some (.val (.lst (t.subs.map FT.d))), e8, some (.val (.lst [.bl true, .bl false, .bl false, .bl false, .bl true])), e10, e11, some (.val (.str (tx (cBack ++ t.text ++ [41])))), e13, e14, e15, e16] := by
        refine hN1 _ ?_
        clear hN1
        refine seq_step fun N1 hN1 => ?_
        refine if_step fun U W hU hW => ?_
        walk_at "dg"
        refine hW _ _ ?_
        clear hU hW U W
        walk_at "dg"
        refine hN1 _ ?_
        clear hN1 N1
        refine seq_step fun N1 hN1 => ?_
        walk_at "dg"
        refine ⟨by decide +kernel, fun q q0 q1 => ⟨by omega, by omega, ?_⟩⟩
        refine LcP.draw (fun c : Nat => .str (tx [c])) (fun c => c ∈ AB6) (by rw [ups_length, sizeLine_eq]; omega) (fun i3 d3 N ed hN => ?_) fun cs lt hP => ?_
        · walk_at "dg"
          exact ⟨AB6, ab6_eq, by decide, by decide, fun c hc => hN c hc⟩
        rw [ups_length] at lt
        rw [show (cs.map fun c => D.str (tx [c])) = ((cs.map fun c => [c]).map tx).map D.str by rw [List.map_map, List.map_map]; rfl]
        refine ⟨_, w_asStrs _, ?_, ?_⟩
        · rw [tx_lens, List.map_map, show (List.length ∘ fun c : Nat => [c]) = fun _ => 1 from rfl, List.map_const', List.sum_replicate_nat, List.length_map, List.length_map]
          omega
        rw [tx_join, flat_one]
        refine hN1 _ ?_
        clear hN1 N1
        refine seq_step fun N1 hN1 => ?_
        walk_at "dg"
        intro b hb
        obtain ⟨b1, b2, b3⟩ : b.dat = true ∧ (∀ s, b = .str s → s.length ≤ 100000) ∧ isName b = false := by
          simp only [List.mem_cons, List.not_mem_nil, or_false] at hb
          rcases hb with rfl | rfl | rfl | rfl | rfl | rfl | rfl | rfl | rfl | rfl
          all_goals refine ⟨rfl, fun s e => ?_, by decide +kernel⟩
          all_goals first | (cases e; decide +kernel) | cases e
        clear hb
        refine hN1 _ ?_
        clear hN1 N1
        refine if_step fun U W hU hW => ?_
        walk_at "dg"
        have lc : cs.length ≤ 10 := by omega
        refine ⟨fun s e => (by rw [← e]; show cs.length ≤ _; omega), b1, b2, by omega, fun z => ⟨⟨?_, b3⟩, hW _ _ ?_⟩, fun z => ⟨⟨?_, b3⟩, hW _ _ ?_⟩⟩
        · rw [name_ab hP, decide_eq_true (by omega), Bool.true_and, Bool.eq_iff_iff, decide_eq_true_eq, decide_eq_true_eq]
          omega
        · clear hU hW U W
          walk_at "dg"
        · rw [name_ab hP, decide_eq_false (by omega), Bool.false_and]
        · clear hU hW U W
          walk_at "dg"
      clear hN1
      walk_at "dg"
      refine formI_mk n2 n4 (mk ?_)
      refine ⟨⟨rfl, trivial⟩, n, t.d, tx t.text, rfl, true, .inl ⟨n, t.d, tx t.text, rfl, by simp⟩, n, t.d, tx t.text, rfl, false, .inr rfl, ?_⟩
      rw [tu0_eq, tx_close]
      walk_at "dg"
      have ht5 : hTurned.length = 6 := rfl
      have ne : ¬ tx t.text = tx (tur0 t).text := fun e => by
        rw [w_tx_eq] at e
        have := congrArg List.length e
        rw [← tur0_text] at this
        simp only [List.length_append, List.length_cons, List.length_nil] at this
        omega
      refine ⟨by omega, by omega, formI_t n2 n4 (mkForm_ft n4 tur0_text tv (by omega) ?_)⟩
      refine ⟨⟨rfl, trivial⟩, n, t.d, tx t.text, rfl, false, .inl ⟨n, (tur0 t).d, tx (tur0 t).text, rfl, by rw [decide_eq_false ne, Bool.and_false]⟩, fun z => ?_, fun z => ?_⟩
      · rw [show (n : Int) + 1 = ((n + 1 : Nat) : Int) by omega]
        refine formI_t (n := n + 1) (by omega) (by omega) (mkForm_ft (by omega) rfl (Vf.hands (by omega) v7) (by omega) ?_)
        refine ⟨⟨rfl, trivial⟩, n, t.d, tx t.text, rfl, false, .inl ⟨((n + 1 : Nat) : Int), t.d, tx t.text, rfl, by rw [decide_eq_false (by omega), Bool.false_and]⟩, ?_⟩
        refine formI_t n2 n4 (mkForm_ft n4 eq_back bv bl2 ?_)
        refine ⟨⟨rfl, rfl⟩, 7, n, nd1 hBack none t, ⟨_, rfl⟩, bv, n2, n4, by decide, bl2, formO K_Form.C t.d n (tx t.text), ?_, ⟨rfl, trivial⟩, n, t.d, tx t.text, rfl, true, .inl ⟨n, t.d, tx t.text, rfl, by simp⟩, last⟩
        rw [bsub]
        exact atI_nat (j := 0) rfl
      · refine formI_t n2 n4 (mkForm_ft n4 eq_back bv bl2 ?_)
        refine ⟨⟨rfl, rfl⟩, 7, n, nd1 hBack none t, ⟨_, rfl⟩, bv, n2, n4, by decide, bl2, formO K_Form.C t.d n (tx t.text), ?_, ⟨rfl, trivial⟩, n, t.d, tx t.text, rfl, true, .inl ⟨n, t.d, tx t.text, rfl, by simp⟩, last⟩
        rw [bsub]
        exact atI_nat (j := 0) rfl
    clear hN1
    refine ⟨fun _ env => ∃ e8 e9 e10 e11 e12 e13 e14 e15 e16 : Option DV, env = [some (.val (.adr a)), some (.val .bag), some (.val d), some (.val (.int (n : Int))), some (.val t.d), some (.val (.str (tx t.text))), some (.val (formO K_Form.C t.d n (tx t.text))), some (.val (.lst (t.subs.map FT.d))), e8, e9, e10, e11, e12, e13, e14, e15, e16], ⟨_, _, _, _, _, _, _, _, _, rfl⟩, ?_, ?_⟩
    · rintro i2 d2 env ed ⟨e8, e9, e10, e11, e12, e13, e14, e15, e16, rfl⟩
      walk_at "dg"
      refine hB _ _ ?_
      clear hB rest
      refine seq_step fun N1 hN1 => ?_
      walk_at "dg"
      refine ⟨7, n, t, ⟨_, rfl⟩, v7, n4, by decide, (n : Int), t, ⟨_, rfl⟩, 7, n, t, ⟨_, rfl⟩, v7, n4, by decide, by omega, fun ys hy => ⟨7, n, t, ⟨_, rfl⟩, v7, n4, by decide, by omega, fun zs hz => ⟨n, t.d, t.text, rfl, n4, by omega, ?_⟩⟩⟩
      refine hN1 _ ?_
      clear hN1 N1
      refine seq_step fun N1 hN1 => ?_
      walk_at "dg"
      refine ⟨7, rfl, n, t, rfl, v7, n4, ix0_d ?_⟩
      refine ⟨7, rfl, n, t, rfl, v7, n4, by omega, hUse, useh_eq, .inl rfl, fun ys2 hy2 => ⟨7, rfl, n, t, rfl, v7, n4, by omega, hAgain, agh_eq, .inr rfl, fun zs2 hz2 => ?_⟩⟩
      obtain rfl := hy.uniq hy2
      obtain rfl := hz.uniq hz2
      refine hN1 _ ?_
      clear hN1 N1
      refine seq_step fun N1 hN1 => ?_
      refine if_step fun U W hU hW => ?_
      walk_at "dg"
      rw [dig_eq (by omega), fo_eq, co_eq, tx_close]
      walk_at "dg"
      have sl1 := sel_len (.inl rfl : hUse = hUse ∨ hUse = hAgain) v7
      have sl2 := sel_len (.inr rfl : hAgain = hUse ∨ hAgain = hAgain) v7
      have yl := hy.2.2.2
      have zl := hz.2.2.2
      refine ⟨log_30 (by omega) (by omega), by omega, by omega, rfl, ⟨⟨by omega, good_strs⟩, by omega, good_strs⟩, hW _ _ ?_⟩
      clear hU hW U W
      walk_at "dg"
      refine hN1 _ ?_
      clear hN1 N1
      refine seq_step fun N1 hN1 => ?_
      walk_at "dg"
      refine ⟨7, n, t, ⟨_, rfl⟩, v7, n2, n4, by decide, by omega, ?_⟩
      have h6 := subs_len v7
      refine hN1 _ ?_
      clear hN1 N1
      refine seq_step fun N1 hN1 => ?_
      refine if_step fun U W hU hW => ?_
      walk_at "dg"
      refine LcP.of (as := t.subs) (g := fun q : FT => formO K_Form.C q.d n (tx q.text)) (fun q => .str (tx q.text)) (by rw [sizeLine_eq]; omega) (fun i3 q N ei hN => ?_) ?_
      · walk_at "dg"
        exact hN
      refine LcP.of (as := t.subs) (g := FT.d) (fun q => .str (tx q.text)) (by rw [sizeLine_eq]; omega) (fun i3 q N ei hN => ?_) ?_
      · have hm := List.mem_of_getElem? ei
        obtain ⟨k1, hv1⟩ := subs_vf v7 hm
        have hq : q.text.length ≤ 400 := Nat.le_trans (sub_text hm) (by omega)
        walk_at "dg"
        exact ⟨7, rfl, n, q, rfl, hv1.mono (by omega), n4, by omega, hN⟩
      refine ⟨rfl, ⟨by rw [List.length_map]; omega, fun x hx => (by obtain ⟨q, _, rfl⟩ := List.mem_map.mp hx; exact trivial)⟩, hW _ _ ?_⟩
      clear hU hW U W
      walk_at "dg"
      refine hN1 _ ?_
      clear hN1 N1
      refine seq_step fun N1 hN1 => ?_
      refine if_step fun U W hU hW => ?_
      walk_at "dg"
      refine LcP.filt (as := t.subs) (g := fun q : FT => formO K_Form.C q.d n (tx q.text)) (fun _ => false) (fun _ => D.non) (by rw [sizeLine_eq]; omega) (fun i3 q N M ei g1 g2 => ?_) ?_
      · have gm : M := g2 rfl
        walk_at "dg"
        exact gm
      rw [show t.subs.filter (fun _ => false) = [] by simp, List.map_nil]
      refine ⟨rfl, by decide, fun z => absurd z (by decide), fun _ => hW _ _ ?_⟩
      clear hU hW U W
      walk_at "dg"
      refine hN1 _ ?_
      clear hN1 N1
      refine seq_step fun N1 hN1 => ?_
      walk_at "dg"
      refine hN1 _ ?_
      clear hN1 N1
      refine seq_step fun N1 hN1 => ?_
      walk_at "dg"
      refine ⟨7, n, t, ⟨_, rfl⟩, v7, n4, by decide, by omega, fun us hus => ⟨flatL_map fun _ => rfl, (by have := hus.2.2.2; omega), ?_⟩⟩
      clear us hus
      refine hN1 _ ?_
      clear hN1
      walk_at "dg"
      exact ⟨7, n, t, ⟨_, rfl⟩, v7, n4, by decide, by omega, fun us hus => ⟨flatL_map fun _ => rfl, (by have := hus.2.2.2; omega)⟩⟩
    · rintro env ⟨e8, e9, e10, e11, e12, e13, e14, e15, e16, rfl⟩
      exact rest _ _ _ _ _ _ _ _ _
  clear hN1 mk
  cases t with
  | word l =>
    simp only [FT.d, wordD] at fin ⊢
    walk_at "dg"
    exact fin
  | node h it j f =>
    obtain ⟨ok, hk0, hf⟩ := v7
    simp only [FT.d] at fin ⊢
    walk_at "dg"
    rw [cut_tail]
    obtain ⟨hj1, hj6⟩ := items_len ok
    refine ⟨fun _ => ?_, fun z => absurd z (itm_word ok)⟩
    have ed : it.toList ++ (List.range j).map (fun i => (f i).d) = _ := items_d
    rw [ed] at fin ⊢
    refine LcP.filt (as := it.toList.map Sum.inl ++ (List.range j).map fun i => Sum.inr (f i)) (fun z => z.isRight) (Sum.elim _root_.id FT.d) (by simp only [List.length_append, List.length_map, List.length_range]; rw [sizeLine_eq]; omega) (fun i z N M ei g1 g2 => ?_) ?_
    · rcases List.mem_append.mp (List.mem_of_getElem? ei) with hz | hz
      · obtain ⟨x, hx, rfl⟩ := List.mem_map.mp hz
        have gm : M := g2 rfl
        cases it with
        | none => cases hx
        | some y =>
          obtain rfl := List.mem_singleton.mp hx
          rcases itm_kind n4 ok with ⟨l, rfl⟩ | ⟨q, rfl, q0, q1⟩
          · show yName 15 (D.str (tx l)) _ _
            walk_at "dg"
            exact gm
          · show yName 15 (D.int q) _ _
            walk_at "dg"
            exact gm
      · obtain ⟨i2, hi2, rfl⟩ := List.mem_map.mp hz
        have g1 : N (f i2).d := g1 rfl
        obtain ⟨xs, exs⟩ := d_tup_of (f i2)
        show yName 15 (f i2).d _ _
        rw [exs] at g1 ⊢
        walk_at "dg"
        exact g1
    · have e2 : ((it.toList.map Sum.inl ++ (List.range j).map fun i => (Sum.inr (f i) : D ⊕ FT)).filter fun (z : D ⊕ FT) => z.isRight).map (Sum.elim _root_.id FT.d) = (FT.node h it j f).subs.map FT.d := by
        rw [List.filter_append, filter_inl, List.nil_append, filter_inr, List.map_map]
        show _ = ((List.range j).map f).map FT.d
        rw [List.map_map]
        rfl
      rw [e2]
      exact fin
end
end DL
set_option maxHeartbeats 0
namespace Hd
open PySem PySem.Spec L2 DL
theorem facts {P : Program} {w : World} {K : PySem.W.Frag} {h : Heap} {mg : Str → Option Value} {f : Addr} (X : K.In h) (G : h.Ns mainGlobals mg) (hfa : mg ("law" : Str) = some (.ref f)) (hfile : P.main.file = PySem.Challenge.pw_evenpicks_k32_names_and_forms_told.main.file) (htop : (P.main.scope.names.lookup ("super" : Str)).isSome = false) (own : ∀ (K : PySem.W.Frag) (y : Str) (a : Addr), K.In h → y ∈ ([] : List Str) → mg y = some (.ref a) → LamX.OwnTab K a h) (oT : ∀ p ∈ ([("Form", "counts")] : List (Str × Str)), ∀ P : Addr, Hx.tabMA p.1 p.2 K = some (.ref P) → h.get? P = some Hx.emptyO) (c : Hx.SaysX fx fn K) :
    ∃ (cs : List (Addr × Addr)) (fd : FuncData) (sp : Sp), (∀ p ∈ cs, h.get? p.2 = some { cls := .none, data := .fields #[] }) ∧ (∀ p ∈ cs, K.lookup p.2 = none) ∧ (∀ p ∈ cs, PySem.W.CodeHd h p.1 p.2) ∧ (∀ (s : Shared) (v : Value), BindsTo s fd ⟨[v], []⟩ [("_law_script", v)]) ∧
      (∀ (H : Hp) (a : Addr) (ns : List Int), ns.length ≤ 63 → (∀ p ∈ cs, H p.2 = some (.tbl #[])) → SqL K H a (ns.map V.int) → sp [.ref a] H (fun v _ => v = .bl true) fun _ _ _ => False) ∧
      ∀ base : Heap, K.In base → base.Ns mainGlobals mg → (∀ p ∈ cs, LamX.TabB base mg p.1 p.2) → FnOk P w K mg base (L2.CX P w) 32 f fd ["_law_script"] sp := by
  obtain ⟨fd_law, F_law⟩ := c.def_ 33 (d := Hd.d_law) rfl
  obtain ⟨fd__law_bag, F__law_bag⟩ := c.def_ 23 (d := Hd.d__law_bag) rfl
  obtain ⟨fd__law_hands, F__law_hands⟩ := c.def_ 27 (d := Hd.d__law_hands) rfl
  obtain ⟨fd__law_pull, F__law_pull⟩ := c.def_ 24 (d := Hd.d__law_pull) rfl
  obtain ⟨fd__law_tree, F__law_tree⟩ := c.def_ 29 (d := Hd.d__law_tree) rfl
  obtain ⟨fd__law_pick, F__law_pick⟩ := c.def_ 25 (d := Hd.d__law_pick) rfl
  obtain ⟨fd__law_text, F__law_text⟩ := c.def_ 30 (d := Hd.d__law_text) rfl
  obtain ⟨fd__law_digits, F__law_digits⟩ := c.def_ 28 (d := Hd.d__law_digits) rfl
  obtain ⟨fd_check_hands, F_check_hands⟩ := c.def_ 1 (d := Hd.d_check_hands) rfl
  obtain ⟨fd_is_number, F_is_number⟩ := c.def_ 0 (d := Hd.d_is_number) rfl
  obtain ⟨fd_tree_in, F_tree_in⟩ := c.def_ 9 (d := Hd.d_tree_in) rfl
  obtain ⟨fd_form_at, F_form_at⟩ := c.def_ 8 (d := Hd.d_form_at) rfl
  obtain ⟨fd_run_at, F_run_at⟩ := c.def_ 5 (d := Hd.d_run_at) rfl
  obtain ⟨fd_taken, F_taken⟩ := c.def_ 3 (d := Hd.d_taken) rfl
  obtain ⟨fd_head_at, F_head_at⟩ := c.def_ 4 (d := Hd.d_head_at) rfl
  obtain ⟨fd_first_at, F_first_at⟩ := c.def_ 7 (d := Hd.d_first_at) rfl
  obtain ⟨fd_count_at, F_count_at⟩ := c.def_ 6 (d := Hd.d_count_at) rfl
  obtain ⟨fd_depth_of, F_depth_of⟩ := c.def_ 12 (d := Hd.d_depth_of) rfl
  obtain ⟨fd_parts_of, F_parts_of⟩ := c.def_ 10 (d := Hd.d_parts_of) rfl
  obtain ⟨fd_found_in, F_found_in⟩ := c.def_ 13 (d := Hd.d_found_in) rfl
  obtain ⟨fd_is_name, F_is_name⟩ := c.def_ 2 (d := Hd.d_is_name) rfl
  obtain ⟨fd__law_depth, F__law_depth⟩ := c.def_ 31 (d := Hd.d__law_depth) rfl
  obtain ⟨fd__law_marks, F__law_marks⟩ := c.def_ 32 (d := Hd.d__law_marks) rfl
  obtain ⟨fd__law_same, F__law_same⟩ := c.def_ 26 (d := Hd.d__law_same) rfl
  obtain ⟨fd_text_of, F_text_of⟩ := c.def_ 11 (d := Hd.d_text_of) rfl
  obtain ⟨cc_InvalidHands, cda_InvalidHands, fd_InvalidHands, F_InvalidHands⟩ := c.sup_ 34 (d := Hd.d_InvalidHands___init__) rfl rfl rfl
  let X_InvalidHands : Xe K mg P.main.file "InvalidHands" s_InvalidHands___init__ := { C := He.ga K "InvalidHands", f := He.ma K (He.ga K "InvalidHands") "__init__", cc := cc_InvalidHands, cda := cda_InvalidHands, fd := fd_InvalidHands, g := He.glo_ok X G (c.fact 1 (f := Hx.fGlo "InvalidHands") rfl), e := Hx.err_ok (c.fact 56 (f := Hx.fErr "InvalidHands") rfl), F := by rw [hfile]; exact F_InvalidHands }
  obtain ⟨cc_InvalidForm, cda_InvalidForm, fd_InvalidForm, F_InvalidForm⟩ := c.sup_ 35 (d := Hd.d_InvalidForm___init__) rfl rfl rfl
  let X_InvalidForm : Xe K mg P.main.file "InvalidForm" s_InvalidForm___init__ := { C := He.ga K "InvalidForm", f := He.ma K (He.ga K "InvalidForm") "__init__", cc := cc_InvalidForm, cda := cda_InvalidForm, fd := fd_InvalidForm, g := He.glo_ok X G (c.fact 2 (f := Hx.fGlo "InvalidForm") rfl), e := Hx.err_ok (c.fact 57 (f := Hx.fErr "InvalidForm") rfl), F := by rw [hfile]; exact F_InvalidForm }
  obtain ⟨fd_Form___init__, F_Form___init__⟩ := c.def_ 14 (d := Hd.d_Form___init__) rfl
  obtain ⟨fd_Form_parts, F_Form_parts⟩ := c.def_ 18 (d := Hd.d_Form_parts) rfl
  obtain ⟨fd_Form_names, F_Form_names⟩ := c.def_ 19 (d := Hd.d_Form_names) rfl
  obtain ⟨fd_Form_counts, F_Form_counts⟩ := c.def_ 20 (d := Hd.d_Form_counts) rfl
  obtain ⟨fd_Form___eq__, F_Form___eq__⟩ := c.def_ 21 (d := Hd.d_Form___eq__) rfl
  obtain ⟨fd_Form___repr__, F_Form___repr__⟩ := c.def_ 22 (d := Hd.d_Form___repr__) rfl
  obtain ⟨fd_Form_text, F_Form_text⟩ := c.def_ 15 (d := Hd.d_Form_text) rfl
  obtain ⟨fd_Form_depth, F_Form_depth⟩ := c.def_ 16 (d := Hd.d_Form_depth) rfl
  obtain ⟨fd_Form_kind, F_Form_kind⟩ := c.def_ 17 (d := Hd.d_Form_kind) rfl
  let K_Form : Kx_Form K mg := { C := He.ga K "Form", g := He.glo_ok X G (c.fact 28 (f := Hx.fGlo "Form") rfl), cls := He.cls_ok (c.fact 58 (f := Hx.fCls "Form") rfl), isi := Hx.isi_ok (c.fact 59 (f := Hx.fIsi "Form") rfl), isc := Hx.isc_ok (c.fact 60 (f := Hx.fIsc "Form") rfl), n_tree := He.noat_ok (c.fact 64 (f := Hx.fNoat "Form" "tree") rfl), n_hands := He.noat_ok (c.fact 65 (f := Hx.fNoat "Form" "hands") rfl), n_own_text := He.noat_ok (c.fact 66 (f := Hx.fNoat "Form" "own_text") rfl), D___init__ := ⟨He.ma K (He.ga K "Form") "__init__", fd_Form___init__, F_Form___init__⟩, mkr := He.mkr_ok (c.fact 61 (f := Hx.fMkr "Form") rfl), D_parts := ⟨He.ma K (He.ga K "Form") "parts", fd_Form_parts, F_Form_parts⟩, h_parts := He.meth_ok (c.fact 70 (f := Hx.fMeth "Form" "parts") rfl), D_names := ⟨He.ma K (He.ga K "Form") "names", fd_Form_names, F_Form_names⟩, h_names := He.meth_ok (c.fact 71 (f := Hx.fMeth "Form" "names") rfl), D_counts := ⟨He.ma K (He.ga K "Form") "counts", fd_Form_counts, F_Form_counts⟩, h_counts := He.meth_ok (c.fact 72 (f := Hx.fMeth "Form" "counts") rfl), i___add__ := Hx.ownI_ok (c.fact 73 (f := Hx.fOwnI "Form" "__add__" "__radd__") rfl), D___eq__ := ⟨He.ma K (He.ga K "Form") "__eq__", fd_Form___eq__, F_Form___eq__⟩, o___eq__ := Hx.own_ok (c.fact 74 (f := Hx.fOwn "Form" "__eq__") rfl), D___repr__ := ⟨He.ma K (He.ga K "Form") "__repr__", fd_Form___repr__, F_Form___repr__⟩, o___repr__ := Hx.own_ok (c.fact 75 (f := Hx.fOwn "Form" "__repr__") rfl), D_text := ⟨Hx.rA "property" "Form" "text" K, fd_Form_text, F_Form_text⟩, q_text := He.ma K (He.ga K "Form") "text", p_text := Hx.prop_ok (c.fact 67 (f := Hx.fProp "Form" "text") rfl), D_depth := ⟨Hx.rA "property" "Form" "depth" K, fd_Form_depth, F_Form_depth⟩, q_depth := He.ma K (He.ga K "Form") "depth", p_depth := Hx.prop_ok (c.fact 68 (f := Hx.fProp "Form" "depth") rfl), D_kind := ⟨Hx.rA "property" "Form" "kind" K, fd_Form_kind, F_Form_kind⟩, q_kind := He.ma K (He.ga K "Form") "kind", p_kind := Hx.prop_ok (c.fact 69 (f := Hx.fProp "Form" "kind") rfl), cv_MOST_DEPTH := Hx.cv_ok (c.fact 62 (f := Hx.fCv "Form" "MOST_DEPTH" (.int 8)) rfl), cv_MOST_LENGTH := Hx.cv_ok (c.fact 63 (f := Hx.fCv "Form" "MOST_LENGTH" (.int 400)) rfl) }
  have e := hfa.symm.trans (He.glo_ok X G (c.fact 39 (f := Hx.fGlo "law") rfl))
  cases e
  have b := FunD.bindsA (ps := ["_law_script"]) F_law fun _ _ _ _ _ _ us hl => match us, hl with | [_], _ => rfl
  obtain ⟨o_Form_counts, fdt_Form_counts, cd_Form_counts, tb_Form_counts, e_Form_counts, dd_Form_counts, vs_Form_counts, sl_Form_counts, t1_Form_counts, t2_Form_counts, t3_Form_counts, t4_Form_counts, t5_Form_counts, t6_Form_counts, t7_Form_counts, t8_Form_counts⟩ := Hx.tabM_ok (c.fact 76 (f := Hx.fTabM "Form" "counts") rfl)
  have hcd_Form_counts : fd_Form_counts.code = .ref cd_Form_counts := by
    obtain ⟨_, _, _, _, _, _, _, _, _, _, _, z, _⟩ := F_Form_counts.ex
    have y := t1_Form_counts.symm.trans z
    cases y
    cases t2_Form_counts
    exact t3_Form_counts
  have hP_Form_counts : h.get? tb_Form_counts = some { cls := .none, data := .fields #[] } := oT ("Form", "counts") (by simp) _ t8_Form_counts
  let tb : TbC := ⟨[(tb_Form_counts, lq_Form_counts)], fun i => lamTab.getD i lam_0⟩
  refine ⟨[(cd_Form_counts, tb_Form_counts)], fd_law, @spLaw tb K, fun p hp => by have hp2 : p ∈ ([(cd_Form_counts, tb_Form_counts)] : List (Addr × Addr)) := hp; simp only [List.mem_cons, List.not_mem_nil, or_false] at hp2; rcases hp2 with rfl <;> first | exact hP_Form_counts, fun p hp => by have hp2 : p ∈ ([(cd_Form_counts, tb_Form_counts)] : List (Addr × Addr)) := hp; simp only [List.mem_cons, List.not_mem_nil, or_false] at hp2; rcases hp2 with rfl <;> first | exact t7_Form_counts, fun p hp => by have hp2 : p ∈ ([(cd_Form_counts, tb_Form_counts)] : List (Addr × Addr)) := hp; simp only [List.mem_cons, List.not_mem_nil, or_false] at hp2; rcases hp2 with rfl <;> first | exact PySem.W.codeHd_of_K X t6_Form_counts, fun s v => b s [v] rfl, fun H a ns hl hT hS => ⟨a, ns, rfl, hS, hl, fun p hp => by have hp2 : p ∈ ([(tb_Form_counts, lq_Form_counts)] : List (Addr × Str)) := hp; simp only [List.mem_cons, List.not_mem_nil, or_false] at hp2; rcases hp2 with rfl <;> first | exact hT (cd_Form_counts, tb_Form_counts) (List.mem_cons_self), fun _ => rfl⟩, fun base _ _ hB => ?_⟩
  exact ok_law (T := ⟨He.free_ok X G (c.fact 40 (f := Hx.fFree "isinstance") rfl), He.free_ok X G (c.fact 41 (f := Hx.fFree "int") rfl), He.free_ok X G (c.fact 42 (f := Hx.fFree "bool") rfl), He.free_ok X G (c.fact 43 (f := Hx.fFree "str") rfl), He.free_ok X G (c.fact 44 (f := Hx.fFree "list") rfl), He.free_ok X G (c.fact 45 (f := Hx.fFree "tuple") rfl), He.free_ok X G (c.fact 46 (f := Hx.fFree "len") rfl), He.free_ok X G (c.fact 47 (f := Hx.fFree "range") rfl), He.free_ok X G (c.fact 48 (f := Hx.fFree "zip") rfl), He.free_ok X G (c.fact 49 (f := Hx.fFree "min") rfl), He.free_ok X G (c.fact 50 (f := Hx.fFree "max") rfl), He.free_ok X G (c.fact 51 (f := Hx.fFree "all") rfl), He.free_ok X G (c.fact 52 (f := Hx.fFree "set") rfl), He.free_ok X G (c.fact 53 (f := Hx.fFree "sorted") rfl), He.free_ok X G (c.fact 54 (f := Hx.fFree "super") rfl), He.free_ok X G (c.fact 55 (f := Hx.fFree "repr") rfl), He.int_ok X G (c.fact 7 (f := Hx.fInt "MOST_NAME" 8) rfl), He.int_ok X G (c.fact 8 (f := Hx.fInt "MOST_WORD" 60) rfl), He.int_ok X G (c.fact 9 (f := Hx.fInt "MOST_THEN" 6) rfl), He.int_ok X G (c.fact 10 (f := Hx.fInt "MOST_FIGURES" 30) rfl), He.int_ok X G (c.fact 11 (f := Hx.fInt "MOST_DOUBLE" 8) rfl), He.int_ok X G (c.fact 12 (f := Hx.fInt "DEEPEST" 8) rfl), He.int_ok X G (c.fact 13 (f := Hx.fInt "LONGEST" 400) rfl), He.str_ok X G (c.fact 5 (f := Hx.fStr "LETTERS" "abcdefghijklmnopqrstuvwxyz") rfl), He.str_ok X G (c.fact 6 (f := Hx.fStr "FIGURES" "0123456789") rfl)⟩) (K_Form := K_Form) (X_InvalidHands := X_InvalidHands) (X_InvalidForm := X_InvalidForm) (U_HEADS := ⟨He.ga K "HEADS", He.glo_ok X G (Hx.tup_ok (c.fact 15 (f := Hx.fTup "HEADS" ["then(", "again(", "back(", "turned(", "double(", "with(", "use("]) rfl)).1, (Hx.tup_ok (c.fact 15 (f := Hx.fTup "HEADS" ["then(", "again(", "back(", "turned(", "double(", "with(", "use("]) rfl)).2⟩) (U_COUNTS := ⟨He.ga K "COUNTS", He.glo_ok X G (Hx.tup_ok (c.fact 14 (f := Hx.fTup "COUNTS" ["m", "n"]) rfl)).1, (Hx.tup_ok (c.fact 14 (f := Hx.fTup "COUNTS" ["m", "n"]) rfl)).2⟩) (D_law := ⟨Hx.gA "law" K, fd_law, F_law, He.glo_ok X G (c.fact 39 (f := Hx.fGlo "law") rfl)⟩) (D__law_bag := ⟨Hx.gA "_law_bag" K, fd__law_bag, F__law_bag, He.glo_ok X G (c.fact 29 (f := Hx.fGlo "_law_bag") rfl)⟩) (D__law_hands := ⟨Hx.gA "_law_hands" K, fd__law_hands, F__law_hands, He.glo_ok X G (c.fact 33 (f := Hx.fGlo "_law_hands") rfl)⟩) (D__law_pull := ⟨Hx.gA "_law_pull" K, fd__law_pull, F__law_pull, He.glo_ok X G (c.fact 30 (f := Hx.fGlo "_law_pull") rfl)⟩) (D__law_tree := ⟨Hx.gA "_law_tree" K, fd__law_tree, F__law_tree, He.glo_ok X G (c.fact 35 (f := Hx.fGlo "_law_tree") rfl)⟩) (D__law_pick := ⟨Hx.gA "_law_pick" K, fd__law_pick, F__law_pick, He.glo_ok X G (c.fact 31 (f := Hx.fGlo "_law_pick") rfl)⟩) (D__law_text := ⟨Hx.gA "_law_text" K, fd__law_text, F__law_text, He.glo_ok X G (c.fact 36 (f := Hx.fGlo "_law_text") rfl)⟩) (D__law_digits := ⟨Hx.gA "_law_digits" K, fd__law_digits, F__law_digits, He.glo_ok X G (c.fact 34 (f := Hx.fGlo "_law_digits") rfl)⟩) (D_check_hands := ⟨Hx.gA "check_hands" K, fd_check_hands, F_check_hands, He.glo_ok X G (c.fact 4 (f := Hx.fGlo "check_hands") rfl)⟩) (D_is_number := ⟨Hx.gA "is_number" K, fd_is_number, F_is_number, He.glo_ok X G (c.fact 3 (f := Hx.fGlo "is_number") rfl)⟩) (D_tree_in := ⟨Hx.gA "tree_in" K, fd_tree_in, F_tree_in, He.glo_ok X G (c.fact 23 (f := Hx.fGlo "tree_in") rfl)⟩) (D_form_at := ⟨Hx.gA "form_at" K, fd_form_at, F_form_at, He.glo_ok X G (c.fact 22 (f := Hx.fGlo "form_at") rfl)⟩) (D_run_at := ⟨Hx.gA "run_at" K, fd_run_at, F_run_at, He.glo_ok X G (c.fact 19 (f := Hx.fGlo "run_at") rfl)⟩) (D_taken := ⟨Hx.gA "taken" K, fd_taken, F_taken, He.glo_ok X G (c.fact 17 (f := Hx.fGlo "taken") rfl)⟩) (D_head_at := ⟨Hx.gA "head_at" K, fd_head_at, F_head_at, He.glo_ok X G (c.fact 18 (f := Hx.fGlo "head_at") rfl)⟩) (D_first_at := ⟨Hx.gA "first_at" K, fd_first_at, F_first_at, He.glo_ok X G (c.fact 21 (f := Hx.fGlo "first_at") rfl)⟩) (D_count_at := ⟨Hx.gA "count_at" K, fd_count_at, F_count_at, He.glo_ok X G (c.fact 20 (f := Hx.fGlo "count_at") rfl)⟩) (D_depth_of := ⟨Hx.gA "depth_of" K, fd_depth_of, F_depth_of, He.glo_ok X G (c.fact 26 (f := Hx.fGlo "depth_of") rfl)⟩) (D_parts_of := ⟨Hx.gA "parts_of" K, fd_parts_of, F_parts_of, He.glo_ok X G (c.fact 24 (f := Hx.fGlo "parts_of") rfl)⟩) (D_found_in := ⟨Hx.gA "found_in" K, fd_found_in, F_found_in, He.glo_ok X G (c.fact 27 (f := Hx.fGlo "found_in") rfl)⟩) (D_is_name := ⟨Hx.gA "is_name" K, fd_is_name, F_is_name, He.glo_ok X G (c.fact 16 (f := Hx.fGlo "is_name") rfl)⟩) (D__law_depth := ⟨Hx.gA "_law_depth" K, fd__law_depth, F__law_depth, He.glo_ok X G (c.fact 37 (f := Hx.fGlo "_law_depth") rfl)⟩) (D__law_marks := ⟨Hx.gA "_law_marks" K, fd__law_marks, F__law_marks, He.glo_ok X G (c.fact 38 (f := Hx.fGlo "_law_marks") rfl)⟩) (D__law_same := ⟨Hx.gA "_law_same" K, fd__law_same, F__law_same, He.glo_ok X G (c.fact 32 (f := Hx.fGlo "_law_same") rfl)⟩) (D_text_of := ⟨Hx.gA "text_of" K, fd_text_of, F_text_of, He.glo_ok X G (c.fact 25 (f := Hx.fGlo "text_of") rfl)⟩) (hsup := He.free_ok X G (c.fact 54 (f := Hx.fFree "super") rfl)) (htop := htop) (hcd_Form_counts := hcd_Form_counts) (hTB_Form_counts := hB (cd_Form_counts, tb_Form_counts) (List.mem_cons_self)) (hmem_Form_counts := List.mem_cons_self) (hmu_Form_counts := fun p hp hp2 => by have hp3 : p ∈ ([(tb_Form_counts, lq_Form_counts)] : List (Addr × Str)) := hp; simp only [List.mem_cons, List.not_mem_nil, or_false] at hp3; rcases hp3 with rfl <;> first  | rfl) (hlq := fun i q e => by show lamTab.getD i lam_0 = q; rw [List.getD, e]; rfl)
end Hd
namespace DL
open PySem PySem.Spec PyProof.Rows L2
/-- the end for a law with lambdas: its tables of code objects are empty at first -/
theorem walk_ofL {l : PySem.W.OpenLaw} {n k : Nat} {q : Program} {loose : List Str} {XP : (Str → Option Value) → Heap → Prop} {YP : World → Heap → Prop} {d : DefRec} {CX : World → CXT} {x : Str} {fs : List Str}
    (hn : l.most = some n) (hn2 : n ≤ sizeLine) (hdf : d.params.defaults = []) (hr : Room k callerA) (hrec : fs.all (fun y => (recsOf q).any fun e => e.name == y) = true)
    (hF : ∀ (w : World) (mg : Str → Option Value) (fa : Addr) (h : Heap), YP w h → h.Ns mainGlobals mg → mg d.name = some (.ref fa) → (∀ (K : PySem.W.Frag) (y : Str) (a : Addr), K.In h → y ∈ fs → mg y = some (.ref a) → LamX.OwnTab K a h) →
      ∃ (K : PySem.W.Frag) (cs : List (Addr × Addr)) (fd : FuncData) (sp : Sp), K.In h ∧ (∀ p ∈ cs, h.get? p.2 = some { cls := .none, data := .fields #[] }) ∧ (∀ p ∈ cs, K.lookup p.2 = none) ∧ (∀ p ∈ cs, PySem.W.CodeHd h p.1 p.2) ∧ (∀ (s : Shared) (u : Value), BindsTo s fd ⟨[u], []⟩ [(x, u)]) ∧
        (∀ (H : Hp) (a : Addr) (ns : List Int), ns.length ≤ n → (∀ p ∈ cs, H p.2 = some (.tbl #[])) → SqL K H a (ns.map V.int) → sp [.ref a] H (fun v _ => v = .bl true) fun _ _ _ => False) ∧
        ∀ base : Heap, K.In base → base.Ns mainGlobals mg → (∀ p ∈ cs, LamX.TabB base mg p.1 p.2) → FnOk l.prog w K mg base (CX w) k fa fd [x] sp)
    (hCX : ∀ (w : World) (H : Hp) (s : Shared) (e : Value) (s' : Shared), CX w [] H s (fun _ _ _ => False) e s' → False) :
    PySem.W.WalkO q loose XP YP l.row.toRowW d [] (fun f vs => PySem.call f vs) := by
  refine Att.attach_callB hn hdf fun w s0 s1 mg mb fa o pm cd doc a vs ns G Y ho hd hcd hmg hobj hints hlen hbits hg => ?_
  have own : ∀ (K : PySem.W.Frag) (y : Str) (b : Addr), K.In s1.heap → y ∈ fs → mg y = some (.ref b) → LamX.OwnTab K b s1.heap := fun K y b hK hy hb c P o1 fd1 e dd vs1 sl k1 k2 k3 k4 k5 => by
    obtain ⟨dL, hm, hn1⟩ := List.any_eq_true.mp (List.all_eq_true.mp hrec y hy)
    obtain ⟨a', o', fd', c', P', h1, h2, h3, h4, h5, h6⟩ := G.T.tab dL hm
    have en : dL.name = y := beq_iff_eq.mp hn1
    have hb2 : mg dL.name = some (.ref b) := by rw [en]; exact hb
    have z1 := h1.symm.trans hb2
    cases z1
    have z2 := h2.symm.trans (hK _ _ k1)
    cases z2
    have z3 := h3.symm.trans k2
    cases z3
    have z4 := h4.symm.trans k3
    cases z4
    obtain ⟨⟨oc, vc, e1, _, e3, e4⟩, hP⟩ := h6
    have z5 := e1.symm.trans (hK _ _ k4)
    cases z5
    cases e3
    have z6 := e4.symm.trans k5
    cases z6
    exact hP
  obtain ⟨K, cs, fd, sp, KX, hT, nT, hC, hb, hsp, hok⟩ := hF w mg fa _ Y G.T.g hmg own
  exact LamX.law_callTs KX G.T.g G.T.b G.T.builtins G.T.nolimit hg hT nT hC G.T.bmain hobj hints (Nat.le_trans hlen hn2) hr hok hb (fun H hH hS => hsp H a ns hlen hH hS) fun H e s' => hCX w H s1 e s'
end DL
open PySem PySem.W PySem.Calls PyProof.Rows
set_option maxHeartbeats 0
theorem PySem.Challenge.cw_evenpicks_k32_names_and_forms_told_holds : PySem.Challenge.rw_evenpicks_k32_names_and_forms_told.Holds := by
  w_on; o_law
  refine HandSHeadRun.head_any (r := OpenLaw.row PySem.Challenge.rw_evenpicks_k32_names_and_forms_told) (q := view (OpenLaw.row PySem.Challenge.rw_evenpicks_k32_names_and_forms_told).prog [48]) (H := Hd.hk) (ob := Hd.ob) (M := 10100) (loose := Hd.names) (d := HandSHeadRun.topDef (OpenLaw.row PySem.Challenge.rw_evenpicks_k32_names_and_forms_told).prog 48) (kwd := []) Hd.ob_eq
    (by kernel_rfl) (fun s => by kernel_rfl) Hd.run (by kernel_rfl) (by kernel_rfl) (by kernel_rfl) (by rfl) (by first | assumption | decide +kernel) (by decide +kernel) ⟨rfl, rfl, rfl, rfl, rfl, by decide +kernel⟩ ?hw ?hc
  case hw => w_witness2
  case hc =>
    refine DL.walk_ofL (l := PySem.Challenge.rw_evenpicks_k32_names_and_forms_told) (n := 63) (k := 32) (x := "_law_script") (fs := []) (CX := fun w => L2.CX (PySem.Challenge.rw_evenpicks_k32_names_and_forms_told).prog w) rfl (by decide) (by kernel_rfl) ⟨rfl, by decide, by decide⟩ (by kernel_rfl) ?F (fun w H s e s' z => by obtain ⟨_, _, _, _, _, _, _, _, _, _, _, _, z⟩ := z; exact z.elim)
    intro w mg fa h Y G hmg0 own
    obtain ⟨K, KX, c, oT⟩ := Y
    have hmg : mg ("law" : PySem.Str) = some (.ref fa) := by
      have e : (HandSHeadRun.topDef (OpenLaw.row PySem.Challenge.rw_evenpicks_k32_names_and_forms_told).prog 48).name = ("law" : PySem.Str) := by kernel_rfl
      rw [← e]
      exact hmg0
    obtain ⟨cs, fd, sp, h1, h2, h3, h4, h5, h6⟩ := Hd.facts (P := (PySem.Challenge.rw_evenpicks_k32_names_and_forms_told).prog) (w := w) KX G hmg (by kernel_rfl) (by kernel_rfl) own oT c
    exact ⟨K, cs, fd, sp, KX, h1, h2, h3, h4, h5, h6⟩
