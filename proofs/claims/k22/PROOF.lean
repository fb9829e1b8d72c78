import PyProof.Rows.All
import Wide.All
import OpenK.AllK
import Wide.FinOn
import KE.KStateDown
import Lean
import HandS.Base
import HandS.Call
import HandS.Ends
import HandS.More
import HandS.Words
import HandS.WordsExc
import KE.KNestM
import HandS.Defaults
import HandS.Head0
import HandS.Head1
import HandS.Head2
import HandS.HeadEnd
import HandS.HeadHook1
import HandS.HeadHook2
import HandS.Property
import HandS.Exc
import HandS.ExcInit
import HandS.ExcField
import KE.KSuper
import KE.KTryMore
import KE.DataEq
import HandS.ForMost
import HandS.Wide
import HandS.IsInst
import HandS.TupAny
import HandS.Flow
import HandS.Zip
import HandS.Lambda
import KE.KDflt
import HandS.Star
import HandS.Style
import KE.KOpsOwn
import HandS.OwnEq
import HandS.Text
import HandS.ClsMeth
import KE.GoesMore
import KE.KExcSuper
import HandS.HotCalls
import HandS.MakeKwOnly
import HandS.FStr
import KE.GoesEnumKw
import HandS.TupMul
import HandS.List
import HandS.Strs
import KE.KeyNested
import HandS.EndTab
import HandS.EndOwn
import PySem.Challenge.RW_evenpicks_k22_papers_told
set_option Elab.async false
set_option linter.all false
set_option maxRecDepth 100000
set_option maxHeartbeats 4000000
set_option autoImplicit false
namespace Hx
open PySem PySem.Spec L2
/-- a global's address; a class's method; what a property, a static method of a class holds -/
def gA (x : Str) : PySem.W.Frag → Addr := fun K => He.ga K x
def mA (c m : Str) : PySem.W.Frag → Addr := fun K => He.ma K (He.ga K c) m
def rA (kind : String) (c m : Str) : PySem.W.Frag → Addr := fun K => match PySem.W.recIn K (He.ma K (He.ga K c) m) kind with
  | some (.ref g :: _) => g
  | _ => 0
structure DefX where
  ad : PySem.W.Frag → Addr
  name : Str
  qual : Str
  params : Arguments
  body : List Stmt
  scope : Scope
  dfl : List He.Dv := []
  kwd : List (Str × He.Dv) := []
  /-- a def that says super(): its class, the program's file -/
  sup : Option (Str × Str) := none
/-- the cell of a class is told apart (supB) -/
def cloX (l : List (Str × Addr)) : List (Str × Addr) := match l with
  | [(n, c)] => if n = "__class__" then [] else [(n, c)]
  | l => l
def fnX (K : PySem.W.Frag) (a : Addr) : He.FnW := match K.lookup a with
  | some ⟨_, _, .func fd, _⟩ => some (fd.name, fd.qualname, fd.params, fd.body, fd.scope, fd.globals, cloX fd.closure, fd.builtins)
  | _ => none
/-- the cell holds the class C, the code is of this file -/
def supB (K : PySem.W.Frag) (C : Addr) (fl : Str) (clo : List (Str × Addr)) (code : Value) : Bool := match clo, code with
  | [(n, cc)], .ref cda => decide (n = "__class__") && ((match K.lookup cc with
      | some ⟨_, _, .cell (some (.ref D)), _⟩ => decide (D = C)
      | _ => false) && ((match K.lookup cda with
      | some ⟨_, _, .fields vs, _⟩ => (match (vs[2]? : Option Value) with
          | some (Value.str file _) => fl == file
          | _ => false)
      | _ => false) && (PySem.W.clsIn K C).isSome))
  | _, _ => false
def cloB (K : PySem.W.Frag) (sup : Option (Str × Str)) (clo : List (Str × Addr)) (code : Value) : Bool := match sup with
  | none => clo.isEmpty
  | some (c, fl) => supB K (He.ga K c) fl clo code
def DefX.val (d : DefX) : He.FnW := some (d.name, d.qual, d.params, .stmts d.body, d.scope, mainGlobals, [], builtinsNs)
def DefX.dvs (K : PySem.W.Frag) (d : DefX) : List V := d.dfl.map (He.Dv.v K)
def DefX.kws (K : PySem.W.Frag) (d : DefX) : List (Str × V) := d.kwd.map fun q => (q.1, q.2.v K)
def DefX.ok (K : PySem.W.Frag) (d : DefX) : Bool := PySem.W.keepIn K (.ref (d.ad K)) && (match K.lookup (d.ad K) with
  | some ⟨_, _, .func fd, _⟩ => (PySem.W.codeIn K fd.code d.qual && (He.dflB K fd.defaults (d.dvs K) && He.kwdB K fd.kwdefaults (d.kws K))) && cloB K d.sup fd.closure fd.code
  | _ => false)
theorem DefX.funD {K : PySem.W.Frag} {d : DefX} (e : fnX K (d.ad K) = d.val) (c : d.ok K = true) (hs : d.sup = none) : ∃ fd, FunD K d.name d.qual d.params d.body d.scope (d.dvs K) (d.kws K) (d.ad K) fd := by
  obtain ⟨kp, c2⟩ := He.ba c
  unfold fnX at e
  cases q : K.lookup (d.ad K) with
  | none =>
    rw [q] at c2
    cases c2
  | some o =>
    obtain ⟨oc, od, dt, osl⟩ := o
    rw [q] at c2 e
    cases dt with
    | func fd =>
      obtain ⟨n1, n2, n3, n4, n5, n6, n7, n8, n9, n10, n11, n12, n13, n14, n15⟩ := fd
      have c9 : ((PySem.W.codeIn K n13 d.qual && (He.dflB K n8 (d.dvs K) && He.kwdB K n9 (d.kws K))) && cloB K d.sup n7 n13) = true := c2
      obtain ⟨c3, c4⟩ := He.ba c9
      have c5 : n7 = [] := by
        rw [hs] at c4
        exact List.isEmpty_iff.mp c4
      subst c5
      have e2 : (some (n1, n2, n3, n4, n5, n6, ([] : List (Str × Addr)), n15) : He.FnW) = some (d.name, d.qual, d.params, .stmts d.body, d.scope, mainGlobals, [], builtinsNs) := e
      simp only [Option.some.injEq, Prod.mk.injEq] at e2
      obtain ⟨h1, h2, h3, h4, h5, h6, h7, h8⟩ := e2
      subst h1 h2 h3 h4 h5 h6 h8
      obtain ⟨k1, k2⟩ := He.ba c3
      obtain ⟨k3, k4⟩ := He.ba k2
      exact ⟨_, ⟨oc, od, n8, n9, n10, n11, n12, n13, n14, osl, rfl, q, k1, He.dflB_ok k3, He.kwdB_ok k4⟩, kp⟩
    | _ => cases c2
def obsX (fx : List (PySem.W.Frag → Bool)) (fn : List DefX) (K : PySem.W.Frag) : He.AlD := ((fx.all fun f => f K) && fn.all fun d => d.ok K, fn.map fun d => fnX K (d.ad K))
def valX (fn : List DefX) : He.AlD := (true, fn.map DefX.val)
def SaysX (fx : List (PySem.W.Frag → Bool)) (fn : List DefX) (K : PySem.W.Frag) : Prop := obsX fx fn K = valX fn
def obsXG (n : (Addr → Option Obj) → List Addr) (fx : List (PySem.W.Frag → Bool)) (fn : List DefX) (g : Addr → Option Obj) : He.AlD := obsX fx fn (He.frG g (n g))
def hookX (n : (Addr → Option Obj) → List Addr) (fx : List (PySem.W.Frag → Bool)) (fn : List DefX) : PySem.W.Hook where
  α := He.AlD
  obs := fun s => obsXG n fx fn s.heap.get?
  val := fun _ => valX fn
  says := fun _ h => ∃ K : PySem.W.Frag, K.In h ∧ SaysX fx fn K
  of := fun _ _ e => ⟨_, He.frG_in, e⟩
  keeps := fun _ _ _ ⟨K, hK, c⟩ k => ⟨K, PySem.W.Frag.In.keeps hK k, c⟩
theorem obsXG_eq {n : (Addr → Option Obj) → List Addr} {fx : List (PySem.W.Frag → Bool)} {fn : List DefX} {g : Addr → Option Obj} {s : Shared} (h : ∀ a, g a = s.heap.get? a) : obsXG n fx fn g = (hookX n fx fn).obs s := by
  have e : g = s.heap.get? := funext h
  rw [e] <;> rfl
section
variable {fx : List (PySem.W.Frag → Bool)} {fn : List DefX} {K : PySem.W.Frag}
theorem SaysX.fact (c : SaysX fx fn K) (i : Nat) {f : PySem.W.Frag → Bool} (h : fx[i]? = some f := by rfl) : f K = true := by
  have c1 := (He.ba (show ((fx.all fun f => f K) && fn.all fun d => d.ok K) = true from congrArg (fun z : He.AlD => z.1) c)).1
  exact List.all_eq_true.mp c1 f (List.mem_of_getElem? h)
theorem SaysX.def_ (c : SaysX fx fn K) (i : Nat) {d : DefX} (h : fn[i]? = some d := by rfl) (hs : d.sup = none := by rfl) : ∃ fd, FunD K d.name d.qual d.params d.body d.scope (d.dvs K) (d.kws K) (d.ad K) fd := by
  have c2 := (He.ba (show ((fx.all fun f => f K) && fn.all fun d => d.ok K) = true from congrArg (fun z : He.AlD => z.1) c)).2
  have e : fn.map (fun d => fnX K (d.ad K)) = fn.map DefX.val := congrArg (fun z : He.AlD => z.2) c
  have e2 : (fn.map fun d => fnX K (d.ad K))[i]? = (fn.map DefX.val)[i]? := by rw [e]
  rw [List.getElem?_map, List.getElem?_map, h] at e2
  exact DefX.funD (Option.some.inj e2) (List.all_eq_true.mp c2 d (List.mem_of_getElem? h)) hs
end
def fGlo (x : Str) : PySem.W.Frag → Bool := fun K => (He.Fa.glo x).ok K
def fFree (x : Str) : PySem.W.Frag → Bool := fun K => (He.Fa.free x).ok K
def fInt (x : Str) (i : Int) : PySem.W.Frag → Bool := fun K => (He.Fa.int x i).ok K
def fStr (x z : Str) : PySem.W.Frag → Bool := fun K => (He.Fa.str x z).ok K
def fCls (x : Str) : PySem.W.Frag → Bool := fun K => (He.Fa.cls x).ok K
def fMkr (x : Str) : PySem.W.Frag → Bool := fun K => (He.Fa.mkr x).ok K
def fMeth (x m : Str) : PySem.W.Frag → Bool := fun K => (He.Fa.meth x m).ok K
def fNoat (x f : Str) : PySem.W.Frag → Bool := fun K => (He.Fa.noat x f).ok K
/-- a property f of the class x -/
def fProp (x f : Str) : PySem.W.Frag → Bool := fun K => let C := He.ga K x; let p := He.ma K C f
  He.eqO (PySem.W.findIn K (.ref C) f) (some (some (.ref p))) && (decide (PySem.W.specialIn K (.ref p) "__get__" = some (some (.builtin "property.__get__"))) && (decide (PySem.W.takesIn K (.ref p) = some true) &&
    (match PySem.W.recIn K p "property" with
      | some (.ref g :: _) => true
      | _ => false)))
theorem prop_ok {K : PySem.W.Frag} {x f : Str} (h : fProp x f K = true) : PropOf K (He.ga K x) f (He.ma K (He.ga K x) f) (rA "property" x f K) := by
  obtain ⟨h1, h2⟩ := He.ba h
  obtain ⟨h3, h4⟩ := He.ba h2
  obtain ⟨h5, h6⟩ := He.ba h4
  refine ⟨He.eqO_ok h1, of_decide_eq_true h3, of_decide_eq_true h5, ?_⟩
  unfold rA
  split at h6
  · rename_i g rest e
    exact ⟨rest, by rw [e]⟩
  · cases h6
end Hx
namespace Hx
open PySem PySem.Spec L2
/-- the class x has its own def m (an operator) -/
structure Own (K : PySem.W.Frag) (C : Addr) (m : Str) (g : Addr) : Prop where
  first : PySem.W.selfFirst K C = true
  at_ : PySem.W.findIn K (.ref C) m = some (some (.ref g))
  fn : PySem.W.isFn K (.ref g) = true
def fOwn (x m : Str) : PySem.W.Frag → Bool := fun K => let C := He.ga K x; let g := He.ma K C m
  PySem.W.selfFirst K C && (He.eqO (PySem.W.findIn K (.ref C) m) (some (some (.ref g))) && PySem.W.isFn K (.ref g))
theorem own_ok {K : PySem.W.Frag} {x m : Str} (h : fOwn x m K = true) : Own K (He.ga K x) m (He.ma K (He.ga K x) m) := by
  obtain ⟨h1, h2⟩ := He.ba h
  obtain ⟨h3, h4⟩ := He.ba h2
  exact ⟨h1, He.eqO_ok h3, h4⟩
end Hx
namespace Hx
open PySem PySem.Spec L2
/-- what isinstance asks of an instance's class -/
structure Isc (K : PySem.W.Frag) (C : Addr) : Prop where
  ca : PySem.W.findIn K (.ref C) "__class__" = some (some (.builtin "object.__class__"))
  cn : PySem.W.specialIn K (.builtin "object.__class__") "__get__" = some (some (.builtin "getset_descriptor.__get__"))
  ct : PySem.W.takesIn K (.builtin "object.__class__") = some true
  cm : PySem.W.mroIn K C (.type "object") = some true
def fIsc (x : Str) : PySem.W.Frag → Bool := fun K => let C := He.ga K x
  He.eqO (PySem.W.findIn K (.ref C) "__class__") (some (some (.builtin "object.__class__"))) && (decide (PySem.W.specialIn K (.builtin "object.__class__") "__get__" = some (some (.builtin "getset_descriptor.__get__"))) && (decide (PySem.W.takesIn K (.builtin "object.__class__") = some true) && decide (PySem.W.mroIn K C (.type "object") = some true)))
theorem isc_ok {K : PySem.W.Frag} {x : Str} (h : fIsc x K = true) : Isc K (He.ga K x) := by
  obtain ⟨h1, h2⟩ := He.ba h
  obtain ⟨h3, h4⟩ := He.ba h2
  obtain ⟨h5, h6⟩ := He.ba h4
  exact ⟨He.eqO_ok h1, of_decide_eq_true h3, of_decide_eq_true h5, of_decide_eq_true h6⟩
end Hx
namespace Hx
open PySem PySem.Spec L2
def oexB (K : PySem.W.Frag) (C : Addr) : Bool := match K.lookup C with
  | some ⟨.type "type", _, .cls cd, sl⟩ => (match cd.mro, sl.toList with
      | .ref C' :: bm, [_, _, _, _, some (.builtin n), _] => decide (C' = C) && (decide (n = "ValueError.__new__") && (!cd.hasDel && (cd.hasDict && HandSPX.refsVE bm)))
      | _, _ => false)
  | _ => false
theorem oexB_ok {K : PySem.W.Frag} {C : Addr} (h : oexB K C = true) : ∃ nm q N bs bm sn sub ab col dd k0 k1 k2 k3 k5, K.lookup C = some (excClassObj nm q C N bs bm true sn sub ab col dd k0 k1 k2 k3 k5 "ValueError.__new__") ∧ PySem.HandSPX.refsVE bm = true := by
  unfold oexB at h
  split at h
  · rename_i dd cd sl ho
    split at h
    · rename_i C' bm k0 k1 k2 k3 n k5 hm hs
      obtain ⟨h1, h⟩ := He.ba h
      obtain ⟨h2, h⟩ := He.ba h
      obtain ⟨h3, h⟩ := He.ba h
      obtain ⟨h4, h5⟩ := He.ba h
      have h1 := of_decide_eq_true h1
      have h2 := of_decide_eq_true h2
      subst h1 h2
      obtain ⟨nm, bs, mro, ns, qn, hd, sn, sub, ab, col, del⟩ := cd
      dsimp only at hm h3 h4
      subst hm h4
      have h3 : del = false := by simpa using h3
      subst h3
      have hsl : sl = #[k0, k1, k2, k3, some (.builtin "ValueError.__new__"), k5] := by
        obtain ⟨l⟩ := sl
        simp only at hs
        subst hs
        rfl
      subst hsl
      exact ⟨_, _, _, _, _, _, _, _, _, _, _, _, _, _, _, ho, h5⟩
    · cases h
  · cases h
def errNames : List Str := ["code", "at", "most", "name", "user", "limit", "line", "given"]
/-- all that raising and catching such an exception asks of its class -/
def fErr (x : Str) : PySem.W.Frag → Bool := fun K => let C := He.ga K x; let f := He.ma K C "__init__"
  oexB K C && (He.eqO (PySem.W.findIn K (.ref C) "__setattr__") (some (some (.builtin "object.__setattr__"))) && (decide (PySem.W.subIn K (.ref C) (.type "BaseException") = some true) && (decide (PySem.W.typeIn K (.ref C) = some (.type "type")) && (PySem.W.keepIn K (.ref C) &&
  (decide (PySem.W.nsIn K PySem.cStatics "thirdparty.any" = some none) && (He.eqO (PySem.W.ks_superIn K C C "__init__") (some (some (.builtin "ValueError.__init__"))) && (decide (PySem.W.mroIn K C (.ref C) = some true) && (decide (PySem.W.subIn K (.ref C) (.type "ValueError") = some true) &&
  (He.eqO (PySem.W.findIn K (.ref C) "__init__") (some (some (.ref f))) && (decide (PySem.W.typeIn K (.ref f) = some (.type "function")) && (L2.xfB K C && (errNames.all fun n => He.eqO (PySem.W.findIn K (.ref C) n) (some none)))))))))))))
structure ErrX (K : PySem.W.Frag) (C f : Addr) : Prop where
  ox : OexC K C
  st : PySem.W.nsIn K PySem.cStatics "thirdparty.any" = some none
  su : PySem.W.ks_superIn K C C "__init__" = some (some (.builtin "ValueError.__init__"))
  mr : PySem.W.mroIn K C (.ref C) = some true
  ve : PySem.W.subIn K (.ref C) (.type "ValueError") = some true
  iC : PySem.W.findIn K (.ref C) "__init__" = some (some (.ref f))
  tI : PySem.W.typeIn K (.ref f) = some (.type "function")
  xf : XfC K C
  na : ∀ n ∈ errNames, PySem.W.findIn K (.ref C) n = some none
theorem err_ok {K : PySem.W.Frag} {x : Str} (h : fErr x K = true) : ErrX K (He.ga K x) (He.ma K (He.ga K x) "__init__") := by
  obtain ⟨h1, h⟩ := He.ba h
  obtain ⟨h2, h⟩ := He.ba h
  obtain ⟨h3, h⟩ := He.ba h
  obtain ⟨h4, h⟩ := He.ba h
  obtain ⟨h5, h⟩ := He.ba h
  obtain ⟨h6, h⟩ := He.ba h
  obtain ⟨h7, h⟩ := He.ba h
  obtain ⟨h8, h⟩ := He.ba h
  obtain ⟨h9, h⟩ := He.ba h
  obtain ⟨h10, h⟩ := He.ba h
  obtain ⟨h11, h⟩ := He.ba h
  obtain ⟨h12, h13⟩ := He.ba h
  exact ⟨⟨oexB_ok h1, He.eqO_ok h2, of_decide_eq_true h3, of_decide_eq_true h4, h5⟩, of_decide_eq_true h6, He.eqO_ok h7, of_decide_eq_true h8, of_decide_eq_true h9, He.eqO_ok h10, of_decide_eq_true h11, xfB_ok h12, fun n hn => He.eqO_ok (List.all_eq_true.mp h13 n hn)⟩
end Hx
namespace Hx
open PySem PySem.Spec L2
/-- the def that super().m finds, of an object of the class c, in the text of c -/
def sA (c m : Str) : PySem.W.Frag → Addr := fun K => let C := He.ga K c; match PySem.W.ks_superIn K C C m with
  | some (some (.ref g)) => g
  | _ => 0
def fSup (x m : Str) : PySem.W.Frag → Bool := fun K => let C := He.ga K x; let g := sA x m K
  decide (PySem.W.nsIn K PySem.cStatics "thirdparty.any" = some none) && ((PySem.W.clsIn K C).isSome && (decide (PySem.W.mroIn K C (.ref C) = some true) && (He.eqO (PySem.W.ks_superIn K C C m) (some (some (.ref g))) && (decide (PySem.W.typeIn K (.ref g) = some (.type "function")) && PySem.W.fnIn K g))))
def relB : V → Value → Bool
  | .str a, .str b _ => decide (a = b)
  | .int a, .int b _ => decide (a = b)
  | .bl a, .bool b => decide (a = b)
  | .non, .none => true
  | _, _ => false
def fCon (x f : Str) (v : V) : PySem.W.Frag → Bool := fun K => match PySem.W.findIn K (.ref (He.ga K x)) f with
  | some (some u) => relB v u && (decide (PySem.W.specialIn K u "__get__" = some none) && (PySem.W.handedIn u && !PySem.W.copiedNames.contains f))
  | _ => false
/-- a constant read off the class itself: C.f -/
def fCv (x f : Str) (v : V) : PySem.W.Frag → Bool := fun K => let C := He.ga K x
  PySem.W.readsIn K C (.type "type") && (He.eqO (PySem.W.specialIn K (.ref C) "__getattribute__") (some (some (.builtin "type.__getattribute__"))) && (match PySem.W.findCls K (.ref C) (.type "type") f with
    | some (.val u) => relB v u
    | _ => false))
end Hx
namespace Hx
open PySem PySem.Spec L2
/-- a class without an own __init__ -/
structure Mk0 (K : PySem.W.Frag) (C : Addr) : Prop where
  makes : PySem.W.makesIn K C = true
  init : PySem.W.findIn K (.ref C) "__init__" = some (some (.builtin "object.__init__"))
  kp : PySem.W.keepIn K (.ref C) = true
def fMkr0 (x : Str) : PySem.W.Frag → Bool := fun K => let C := He.ga K x
  decide (PySem.W.makesIn K C = true) && (He.eqO (PySem.W.findIn K (.ref C) "__init__") (some (some (.builtin "object.__init__"))) && decide (PySem.W.keepIn K (.ref C) = true))
theorem mkr0_ok {K : PySem.W.Frag} {x : Str} (h : fMkr0 x K = true) : Mk0 K (He.ga K x) := by
  obtain ⟨h1, h2⟩ := He.ba h
  obtain ⟨h3, h4⟩ := He.ba h2
  exact ⟨of_decide_eq_true h1, He.eqO_ok h3, of_decide_eq_true h4⟩
/-- whether instances of the one class are instances of the other -/
def fKit (x y : Str) (b : Bool) : PySem.W.Frag → Bool := fun K => decide (PySem.W.kitOne K (.ref (He.ga K x)) (.ref (He.ga K y)) = some b)
theorem kit_ok {K : PySem.W.Frag} {x y : Str} {b : Bool} (h : fKit x y b K = true) : PySem.W.kitOne K (.ref (He.ga K x)) (.ref (He.ga K y)) = some b := of_decide_eq_true h
end Hx
set_option maxHeartbeats 0
namespace Hd
open PySem PySem.Spec PyProof.Rows L2
def top (i : Nat) : Stmt := PySem.Challenge.pw_evenpicks_k22_papers_told.main.body.getD i (.Pass ⟨0, 0, 0, 0⟩)
abbrev s_is_number : Stmt := top 11
def d_is_number : Hx.DefX := ⟨Hx.gA "is_number", "is_number", "is_number", defArgs s_is_number, defBody s_is_number, defScope s_is_number, [], [], none⟩
abbrev s_are_numbers : Stmt := top 12
def d_are_numbers : Hx.DefX := ⟨Hx.gA "are_numbers", "are_numbers", "are_numbers", defArgs s_are_numbers, defBody s_are_numbers, defScope s_are_numbers, [], [], none⟩
abbrev s_differences : Stmt := top 13
def d_differences : Hx.DefX := ⟨Hx.gA "differences", "differences", "differences", defArgs s_differences, defBody s_differences, defScope s_differences, [], [], none⟩
abbrev s_times_step : Stmt := top 14
def d_times_step : Hx.DefX := ⟨Hx.gA "times_step", "times_step", "times_step", defArgs s_times_step, defBody s_times_step, defScope s_times_step, [], [], none⟩
abbrev s_as_list : Stmt := top 15
def d_as_list : Hx.DefX := ⟨Hx.gA "as_list", "as_list", "as_list", defArgs s_as_list, defBody s_as_list, defScope s_as_list, [], [], none⟩
abbrev s_copied : Stmt := top 16
def d_copied : Hx.DefX := ⟨Hx.gA "copied", "copied", "copied", defArgs s_copied, defBody s_copied, defScope s_copied, [], [], none⟩
abbrev s_check_hands : Stmt := top 20
def d_check_hands : Hx.DefX := ⟨Hx.gA "check_hands", "check_hands", "check_hands", defArgs s_check_hands, defBody s_check_hands, defScope s_check_hands, [], [], none⟩
abbrev s_Row___init__ : Stmt := inClass (top 22) 1
def d_Row___init__ : Hx.DefX := ⟨Hx.mA "Row" "__init__", "__init__", "Row.__init__", defArgs s_Row___init__, defBody s_Row___init__, defScope s_Row___init__, [], [], none⟩
abbrev s_Row_turns : Stmt := inClass (top 22) 4
def d_Row_turns : Hx.DefX := ⟨Hx.mA "Row" "turns", "turns", "Row.turns", defArgs s_Row_turns, defBody s_Row_turns, defScope s_Row_turns, [], [], none⟩
abbrev s_Row_totals : Stmt := inClass (top 22) 7
def d_Row_totals : Hx.DefX := ⟨Hx.mA "Row" "totals", "totals", "Row.totals", defArgs s_Row_totals, defBody s_Row_totals, defScope s_Row_totals, [], [], none⟩
abbrev s_Row___len__ : Stmt := inClass (top 22) 20
def d_Row___len__ : Hx.DefX := ⟨Hx.mA "Row" "__len__", "__len__", "Row.__len__", defArgs s_Row___len__, defBody s_Row___len__, defScope s_Row___len__, [], [], none⟩
abbrev s_Paper_told : Stmt := inClass (top 24) 2
def d_Paper_told : Hx.DefX := ⟨Hx.mA "Paper" "told", "told", "Paper.told", defArgs s_Paper_told, defBody s_Paper_told, defScope s_Paper_told, [], [], none⟩
abbrev s_Paper_holds : Stmt := inClass (top 24) 3
def d_Paper_holds : Hx.DefX := ⟨Hx.mA "Paper" "holds", "holds", "Paper.holds", defArgs s_Paper_holds, defBody s_Paper_holds, defScope s_Paper_holds, [], [], none⟩
abbrev s_Paper___bool__ : Stmt := inClass (top 24) 4
def d_Paper___bool__ : Hx.DefX := ⟨Hx.mA "Paper" "__bool__", "__bool__", "Paper.__bool__", defArgs s_Paper___bool__, defBody s_Paper___bool__, defScope s_Paper___bool__, [], [], none⟩
abbrev s_Paper___repr__ : Stmt := inClass (top 24) 5
def d_Paper___repr__ : Hx.DefX := ⟨Hx.mA "Paper" "__repr__", "__repr__", "Paper.__repr__", defArgs s_Paper___repr__, defBody s_Paper___repr__, defScope s_Paper___repr__, [], [], none⟩
abbrev s_parting : Stmt := top 25
def d_parting : Hx.DefX := ⟨Hx.gA "parting", "parting", "parting", defArgs s_parting, defBody s_parting, defScope s_parting, [], [], none⟩
abbrev s_Even___init__ : Stmt := inClass (top 26) 2
def d_Even___init__ : Hx.DefX := ⟨Hx.mA "Even" "__init__", "__init__", "Even.__init__", defArgs s_Even___init__, defBody s_Even___init__, defScope s_Even___init__, [], [], none⟩
abbrev s_Even_wanted : Stmt := inClass (top 26) 3
def d_Even_wanted : Hx.DefX := ⟨Hx.rA "property" "Even" "wanted", "wanted", "Even.wanted", defArgs s_Even_wanted, defBody s_Even_wanted, defScope s_Even_wanted, [], [], none⟩
abbrev s_Even_quotients : Stmt := inClass (top 26) 4
def d_Even_quotients : Hx.DefX := ⟨Hx.mA "Even" "quotients", "quotients", "Even.quotients", defArgs s_Even_quotients, defBody s_Even_quotients, defScope s_Even_quotients, [], [], none⟩
abbrev s_Even_holds : Stmt := inClass (top 26) 6
def d_Even_holds : Hx.DefX := ⟨Hx.mA "Even" "holds", "holds", "Even.holds", defArgs s_Even_holds, defBody s_Even_holds, defScope s_Even_holds, [], [], none⟩
abbrev s_Uneven___init__ : Stmt := inClass (top 27) 1
def d_Uneven___init__ : Hx.DefX := ⟨Hx.mA "Uneven" "__init__", "__init__", "Uneven.__init__", defArgs s_Uneven___init__, defBody s_Uneven___init__, defScope s_Uneven___init__, [], [], none⟩
abbrev s_Uneven_power : Stmt := inClass (top 27) 2
def d_Uneven_power : Hx.DefX := ⟨Hx.rA "property" "Uneven" "power", "power", "Uneven.power", defArgs s_Uneven_power, defBody s_Uneven_power, defScope s_Uneven_power, [], [], none⟩
abbrev s_Uneven_worths : Stmt := inClass (top 27) 3
def d_Uneven_worths : Hx.DefX := ⟨Hx.mA "Uneven" "worths", "worths", "Uneven.worths", defArgs s_Uneven_worths, defBody s_Uneven_worths, defScope s_Uneven_worths, [], [], none⟩
abbrev s_Uneven_holds : Stmt := inClass (top 27) 5
def d_Uneven_holds : Hx.DefX := ⟨Hx.mA "Uneven" "holds", "holds", "Uneven.holds", defArgs s_Uneven_holds, defBody s_Uneven_holds, defScope s_Uneven_holds, [], [], none⟩
abbrev s__law_bag : Stmt := top 29
def d__law_bag : Hx.DefX := ⟨Hx.gA "_law_bag", "_law_bag", "_law_bag", defArgs s__law_bag, defBody s__law_bag, defScope s__law_bag, [], [], none⟩
abbrev s__law_pull : Stmt := top 30
def d__law_pull : Hx.DefX := ⟨Hx.gA "_law_pull", "_law_pull", "_law_pull", defArgs s__law_pull, defBody s__law_pull, defScope s__law_pull, [], [], none⟩
abbrev s__law_pick : Stmt := top 31
def d__law_pick : Hx.DefX := ⟨Hx.gA "_law_pick", "_law_pick", "_law_pick", defArgs s__law_pick, defBody s__law_pick, defScope s__law_pick, [], [], none⟩
abbrev s__law_same : Stmt := top 32
def d__law_same : Hx.DefX := ⟨Hx.gA "_law_same", "_law_same", "_law_same", defArgs s__law_same, defBody s__law_same, defScope s__law_same, [], [], none⟩
abbrev s__law_number : Stmt := top 33
def d__law_number : Hx.DefX := ⟨Hx.gA "_law_number", "_law_number", "_law_number", defArgs s__law_number, defBody s__law_number, defScope s__law_number, [], [], none⟩
abbrev s__law_value : Stmt := top 34
def d__law_value : Hx.DefX := ⟨Hx.gA "_law_value", "_law_value", "_law_value", defArgs s__law_value, defBody s__law_value, defScope s__law_value, [], [], none⟩
abbrev s_law : Stmt := top 35
def d_law : Hx.DefX := ⟨Hx.gA "law", "law", "law", defArgs s_law, defBody s_law, defScope s_law, [], [], none⟩
abbrev s_Even_told : Stmt := inClass (top 26) 5
def d_Even_told : Hx.DefX := ⟨Hx.mA "Even" "told", "told", "Even.told", defArgs s_Even_told, defBody s_Even_told, defScope s_Even_told, [], [], some ("Even", PySem.Challenge.pw_evenpicks_k22_papers_told.main.file)⟩
abbrev s_Even_sup_told : Stmt := inClass (top 24) 2
def d_Even_sup_told : Hx.DefX := ⟨Hx.sA "Even" "told", "told", "Paper.told", defArgs s_Even_sup_told, defBody s_Even_sup_told, defScope s_Even_sup_told, [], [], none⟩
abbrev s_Even___bool__ : Stmt := inClass (top 24) 4
def d_Even___bool__ : Hx.DefX := ⟨Hx.mA "Even" "__bool__", "__bool__", "Paper.__bool__", defArgs s_Even___bool__, defBody s_Even___bool__, defScope s_Even___bool__, [], [], none⟩
abbrev s_Even___repr__ : Stmt := inClass (top 24) 5
def d_Even___repr__ : Hx.DefX := ⟨Hx.mA "Even" "__repr__", "__repr__", "Paper.__repr__", defArgs s_Even___repr__, defBody s_Even___repr__, defScope s_Even___repr__, [], [], none⟩
abbrev s_Uneven_told : Stmt := inClass (top 27) 4
def d_Uneven_told : Hx.DefX := ⟨Hx.mA "Uneven" "told", "told", "Uneven.told", defArgs s_Uneven_told, defBody s_Uneven_told, defScope s_Uneven_told, [], [], some ("Uneven", PySem.Challenge.pw_evenpicks_k22_papers_told.main.file)⟩
abbrev s_Uneven_sup_told : Stmt := inClass (top 24) 2
def d_Uneven_sup_told : Hx.DefX := ⟨Hx.sA "Uneven" "told", "told", "Paper.told", defArgs s_Uneven_sup_told, defBody s_Uneven_sup_told, defScope s_Uneven_sup_told, [], [], none⟩
abbrev s_Uneven___bool__ : Stmt := inClass (top 24) 4
def d_Uneven___bool__ : Hx.DefX := ⟨Hx.mA "Uneven" "__bool__", "__bool__", "Paper.__bool__", defArgs s_Uneven___bool__, defBody s_Uneven___bool__, defScope s_Uneven___bool__, [], [], none⟩
abbrev s_Uneven___repr__ : Stmt := inClass (top 24) 5
def d_Uneven___repr__ : Hx.DefX := ⟨Hx.mA "Uneven" "__repr__", "__repr__", "Paper.__repr__", defArgs s_Uneven___repr__, defBody s_Uneven___repr__, defScope s_Uneven___repr__, [], [], none⟩
abbrev s_InvalidHands___init__ : Stmt := inClass (top 3) 0
def d_InvalidHands___init__ : Hx.DefX := ⟨Hx.mA "InvalidHands" "__init__", "__init__", "InvalidHands.__init__", defArgs s_InvalidHands___init__, defBody s_InvalidHands___init__, defScope s_InvalidHands___init__, [], [], some ("InvalidHands", PySem.Challenge.pw_evenpicks_k22_papers_told.main.file)⟩
abbrev s_InvalidTurn___init__ : Stmt := inClass (top 5) 0
def d_InvalidTurn___init__ : Hx.DefX := ⟨Hx.mA "InvalidTurn" "__init__", "__init__", "InvalidTurn.__init__", defArgs s_InvalidTurn___init__, defBody s_InvalidTurn___init__, defScope s_InvalidTurn___init__, [], [], some ("InvalidTurn", PySem.Challenge.pw_evenpicks_k22_papers_told.main.file)⟩
abbrev s_InvalidWorths___init__ : Stmt := inClass (top 7) 0
def d_InvalidWorths___init__ : Hx.DefX := ⟨Hx.mA "InvalidWorths" "__init__", "__init__", "InvalidWorths.__init__", defArgs s_InvalidWorths___init__, defBody s_InvalidWorths___init__, defScope s_InvalidWorths___init__, [], [], some ("InvalidWorths", PySem.Challenge.pw_evenpicks_k22_papers_told.main.file)⟩
def fn0 : List Hx.DefX := [d_is_number, d_are_numbers, d_differences, d_times_step, d_as_list, d_copied, d_check_hands, d_Row___init__, d_Row_turns, d_Row_totals, d_Row___len__, d_Paper_told, d_Paper_holds, d_Paper___bool__, d_Paper___repr__, d_parting, d_Even___init__, d_Even_wanted, d_Even_quotients, d_Even_holds, d_Uneven___init__, d_Uneven_power, d_Uneven_worths, d_Uneven_holds, d__law_bag, d__law_pull, d__law_pick, d__law_same, d__law_number, d__law_value]
def fn1 : List Hx.DefX := [d_law, d_Even_told, d_Even_sup_told, d_Even___bool__, d_Even___repr__, d_Uneven_told, d_Uneven_sup_told, d_Uneven___bool__, d_Uneven___repr__, d_InvalidHands___init__, d_InvalidTurn___init__, d_InvalidWorths___init__]
def fn : List Hx.DefX := fn0 ++ fn1
def fx0 : List (PySem.W.Frag → Bool) := [Hx.fGlo "InvalidHands", Hx.fGlo "InvalidTurn", Hx.fGlo "InvalidWorths", Hx.fGlo "is_number", Hx.fGlo "are_numbers", Hx.fGlo "differences", Hx.fGlo "times_step", Hx.fGlo "as_list", Hx.fGlo "copied", Hx.fInt "MOST_TURNS" 2000, Hx.fStr "DIGITS" "0123", Hx.fGlo "check_hands", Hx.fGlo "Row", Hx.fGlo "Paper", Hx.fGlo "parting", Hx.fGlo "Even", Hx.fGlo "Uneven", Hx.fGlo "_law_bag", Hx.fGlo "_law_pull", Hx.fGlo "_law_pick", Hx.fGlo "_law_same", Hx.fGlo "_law_number", Hx.fGlo "_law_value", Hx.fGlo "law", Hx.fFree "isinstance", Hx.fFree "int", Hx.fFree "bool", Hx.fFree "str", Hx.fFree "list", Hx.fFree "tuple"]
def fx1 : List (PySem.W.Frag → Bool) := [Hx.fFree "len", Hx.fFree "range", Hx.fFree "zip", Hx.fFree "enumerate", Hx.fFree "min", Hx.fFree "all", Hx.fFree "any", Hx.fFree "set", Hx.fFree "super", Hx.fFree "repr", Hx.fErr "InvalidHands", Hx.fErr "InvalidTurn", Hx.fErr "InvalidWorths", Hx.fCls "Row", Hx.fMkr "Row", Hx.fNoat "Row" "hands", Hx.fNoat "Row" "own_turns", Hx.fMeth "Row" "turns", Hx.fMeth "Row" "totals", Hx.fOwn "Row" "__len__", Hx.fCls "Paper", Hx.fIsc "Paper", Hx.fMkr0 "Paper", Hx.fKit "Paper" "Even" false, Hx.fCon "Paper" "KIND" (.str "open"), Hx.fCv "Paper" "KIND" (.str "open"), Hx.fCon "Paper" "GOOD" (.bl false), Hx.fCv "Paper" "GOOD" (.bl false), Hx.fMeth "Paper" "told", Hx.fMeth "Paper" "holds"]
def fx2 : List (PySem.W.Frag → Bool) := [Hx.fOwn "Paper" "__bool__", Hx.fOwn "Paper" "__repr__", Hx.fCls "Even", Hx.fIsc "Even", Hx.fMkr "Even", Hx.fKit "Even" "Paper" true, Hx.fCon "Even" "KIND" (.str "even"), Hx.fCon "Even" "GOOD" (.bl true), Hx.fSup "Even" "told", Hx.fNoat "Even" "own_wanted", Hx.fNoat "Even" "own_quotients", Hx.fProp "Even" "wanted", Hx.fMeth "Even" "quotients", Hx.fMeth "Even" "told", Hx.fMeth "Even" "holds", Hx.fOwn "Even" "__bool__", Hx.fOwn "Even" "__repr__", Hx.fCls "Uneven", Hx.fIsc "Uneven", Hx.fMkr "Uneven", Hx.fKit "Uneven" "Paper" true, Hx.fCon "Uneven" "KIND" (.str "uneven"), Hx.fCon "Uneven" "GOOD" (.bl false), Hx.fSup "Uneven" "told", Hx.fNoat "Uneven" "own_power", Hx.fNoat "Uneven" "own_worths", Hx.fProp "Uneven" "power", Hx.fMeth "Uneven" "worths", Hx.fMeth "Uneven" "told", Hx.fMeth "Uneven" "holds"]
def fx3 : List (PySem.W.Frag → Bool) := [Hx.fOwn "Uneven" "__bool__", Hx.fOwn "Uneven" "__repr__"]
def fx : List (PySem.W.Frag → Bool) := fx0 ++ fx1 ++ fx2 ++ fx3
def names0 : List PySem.Str := [("_wall" : PySem.Str), ("PickError" : PySem.Str), ("InvalidHands" : PySem.Str), ("InvalidHand" : PySem.Str), ("InvalidTurn" : PySem.Str), ("InvalidNumber" : PySem.Str), ("InvalidWorths" : PySem.Str), ("Unlike" : PySem.Str), ("TooLong" : PySem.Str), ("is_number" : PySem.Str), ("are_numbers" : PySem.Str), ("differences" : PySem.Str), ("times_step" : PySem.Str), ("as_list" : PySem.Str), ("copied" : PySem.Str), ("MOST_TURNS" : PySem.Str), ("DIGITS" : PySem.Str), ("check_hands" : PySem.Str), ("check_hand" : PySem.Str), ("Row" : PySem.Str), ("Paper" : PySem.Str), ("parting" : PySem.Str), ("Even" : PySem.Str), ("Uneven" : PySem.Str), ("_law_bag" : PySem.Str), ("_law_pull" : PySem.Str), ("_law_pick" : PySem.Str), ("_law_same" : PySem.Str), ("_law_number" : PySem.Str), ("_law_value" : PySem.Str)]
def names : List PySem.Str := names0
abbrev R : PySem.W.OpenRow := PySem.W.OpenLaw.row PySem.Challenge.rw_evenpicks_k22_papers_told
def as0 : List Addr := [3, 2, 6, 4, 21, 31, 53, 74, 95, 116, 137, 158, 179, 188, 193, 198, 203, 208, 213, 220, 227, 388, 430, 439, 487, 535, 542, 549, 556, 561, 568, 575, 580, 0, 20, 30, 52, 73, 94, 115, 136, 157, 178, 187, 192, 197, 202, 207, 212, 219, 226, 387, 429, 438, 486, 534, 541, 548, 555, 560]
def as1 : List Addr := [567, 574, 579, 15, 17, 18, 19, 29, 32, 50, 51, 71, 72, 92, 93, 113, 114, 134, 135, 155, 156, 176, 177, 182, 184, 185, 186, 189, 191, 194, 196, 199, 201, 204, 206, 209, 211, 214, 216, 217, 218, 221, 223, 224, 225, 241, 249, 256, 263, 268, 275, 282, 289, 296, 303, 310, 317, 324, 331, 338]
def as2 : List Addr := [343, 350, 357, 364, 371, 378, 385, 386, 389, 390, 406, 413, 420, 427, 428, 431, 432, 435, 437, 454, 462, 469, 477, 484, 485, 504, 512, 519, 527, 532, 533, 538, 540, 543, 545, 546, 547, 550, 552, 553, 554, 557, 559, 562, 564, 565, 566, 569, 571, 572, 573, 576, 578, 49, 38, 70, 59, 91, 80, 112]
def as3 : List Addr := [101, 133, 122, 154, 143, 175, 164, 240, 247, 248, 255, 262, 267, 274, 281, 288, 295, 302, 309, 316, 323, 330, 337, 342, 349, 356, 363, 370, 377, 384, 405, 412, 419, 426, 453, 461, 468, 476, 443, 483, 503, 511, 518, 526, 493, 531, 44, 46, 47, 48, 65, 67, 68, 69, 86, 88, 89, 90, 107, 109]
def as4 : List Addr := [110, 111, 128, 130, 131, 132, 149, 151, 152, 153, 170, 172, 173, 174, 235, 237, 238, 239, 246, 242, 250, 254, 257, 259, 260, 261, 264, 266, 269, 271, 272, 273, 276, 278, 279, 280, 283, 285, 286, 287, 290, 292, 293, 294, 297, 299, 300, 301, 304, 306, 307, 308, 311, 313, 314, 315, 318, 320, 321, 322]
def as5 : List Addr := [325, 327, 328, 329, 332, 334, 335, 336, 339, 341, 344, 346, 347, 348, 351, 353, 354, 355, 358, 360, 361, 362, 365, 367, 368, 369, 372, 374, 375, 376, 379, 381, 382, 383, 400, 402, 403, 404, 407, 409, 410, 411, 414, 416, 417, 418, 421, 423, 424, 425, 448, 450, 451, 452, 460, 463, 465, 466, 467, 471]
def as6 : List Addr := [473, 474, 475, 478, 480, 481, 482, 498, 500, 501, 502, 510, 513, 515, 516, 517, 521, 523, 524, 525, 528, 530]
def asl : List Addr := as0 ++ (as1 ++ (as2 ++ (as3 ++ (as4 ++ (as5 ++ (as6))))))
abbrev hk : PySem.W.Hook := Hx.hookX (fun _ => asl) fx fn
def ob (s : PySem.W.SharedT) : He.AlD := Hx.obsXG (fun _ => asl) fx fn (HandSHeadRun.getT s)
theorem ob_eq (s : PySem.W.SharedT) : ob s = hk.obs s.abs := Hx.obsXG_eq (HandSHeadRun.getT_eq s)
theorem run (w : World) : HandSHeadRun.RunEq R (PySem.W.view R.prog [35]) hk ob 11600 names w := by
  intro os
  kernel_rfl
end Hd
set_option maxHeartbeats 4000000
namespace DL
open PySem PySem.Spec L2
/-- a lambda of the text: what its making is given; its defaults (whole numbers) -/
structure LamQ where
  qual : Str
  params : Arguments
  body : Expr
  scope : Scope
  dfl : List Int
/-- the tables of code objects that lambdas are entered into; the lambdas of the text -/
class TbC where
  ts : List (Addr × Str)
  lq : Nat → LamQ
inductive D where
  | non | bl (b : Bool) | int (i : Int) | str (s : Str) | ty (n : String) | adr (a : Addr) | bag
  | fn (i : Nat) (cl : List (Str × Addr)) (z : Option (Option Addr × Hp))
  | lst (xs : List D) | tup (xs : List D) | obj (C : Addr) (ks : List Str) (xs : List D) | exc (a dx C : Addr) (ks : List Str) (xs : List D)
  | dct (ks : List Key) (xs : List D) | dcT (ks : List (List Key)) (xs : List D)
variable [TbC]
/-- a lambda's function object at f -/
def LamO (f : Addr) (i : Nat) (cl : List (Str × Addr)) (dV : Value) (c' : Addr) : HO := .ext fun h => ∃ doc pm ctv : Value,
  h.get? f = some (PySem.W.kdv_obj "<lambda>" (TbC.lq i).qual (TbC.lq i).params (.expr (TbC.lq i).body) (TbC.lq i).scope (L2.cloFrom cl (TbC.lq i).scope.names []) dV doc pm c' ctv)
def DfOk (S : Hp) (dV : Value) (ns : List Int) : Prop := (ns = [] ∧ dV = .none) ∨ ns ≠ [] ∧ ∃ t, dV = .ref t ∧ S t = some (.tup (ns.map V.int))
theorem DfOk.mono {S S' : Hp} {dV : Value} {ns : List Int} (h : Same S S') (d : DfOk S dV ns) : DfOk S' dV ns := d.imp id fun ⟨n, t, e, q⟩ => ⟨n, t, e, h _ _ q⟩
mutual
def Rep (B : Option Addr) (S : Hp) : D → V → Prop
  | .non, v => v = .non
  | .bl b, v => v = .bl b
  | .int i, v => v = .int i
  | .str s, v => v = .str s
  | .ty n, v => v = .ty n
  | .adr a, v => v = .ref a
  | .bag, v => ∃ b, B = some b ∧ v = .ref b
  | .fn i cl z, v => ∃ f dV c', v = .ref f ∧ S f = some (LamO f i cl dV c') ∧ S c' = some (LamX.CodeO c' (TbC.lq i).qual) ∧ DfOk S dV (TbC.lq i).dfl ∧ ∀ q, z = some q → B = q.1 ∧ Same q.2 S
  | .lst ds, v => ∃ a vs, v = .ref a ∧ S a = some (.lst vs) ∧ RepL B S ds vs
  | .tup ds, v => ∃ a vs, v = .ref a ∧ S a = some (.tup vs) ∧ RepL B S ds vs
  | .obj C ks ds, v => ∃ a dx vs, v = .ref a ∧ S a = some (.ins C dx (ks.zip vs)) ∧ S dx = some (.own a) ∧ ds.length = ks.length ∧ RepL B S ds vs
  | .exc a dx C ks ds, v => ∃ vs, v = .ref a ∧ S dx = some (.xd (ks.zip vs)) ∧ ds.length = ks.length ∧ RepL B S ds vs
  | .dct ks ds, v => ∃ a vs, v = .ref a ∧ S a = some (.dK (ks.zip vs)) ∧ ds.length = ks.length ∧ RepL B S ds vs
  | .dcT ks ds, v => ∃ a vs, v = .ref a ∧ S a = some (.dT (ks.zip vs)) ∧ ds.length = ks.length ∧ RepL B S ds vs
def RepL (B : Option Addr) (S : Hp) : List D → List V → Prop
  | [], vs => vs = []
  | d :: ds, vs => ∃ v ws, vs = v :: ws ∧ Rep B S d v ∧ RepL B S ds ws
end
mutual
theorem rep_mono {B : Option Addr} {S S' : Hp} (h : Same S S') : ∀ (d : D) (v : V), Rep B S d v → Rep B S' d v
  | .non, _, r => r
  | .bl _, _, r => r
  | .int _, _, r => r
  | .str _, _, r => r
  | .ty _, _, r => r
  | .adr _, _, r => r
  | .bag, _, r => r
  | .fn i cl z, v, r => by
    rw [Rep] at r ⊢
    obtain ⟨f, dV, c', e, q, q2, df, n⟩ := r
    exact ⟨f, dV, c', e, h _ _ q, h _ _ q2, df.mono h, fun y hy => ⟨(n y hy).1, (n y hy).2.trans h⟩⟩
  | .lst ds, v, r => by
    rw [Rep] at r ⊢
    obtain ⟨a, vs, e, q, l⟩ := r
    exact ⟨a, vs, e, h _ _ q, repL_mono h ds vs l⟩
  | .tup ds, v, r => by
    rw [Rep] at r ⊢
    obtain ⟨a, vs, e, q, l⟩ := r
    exact ⟨a, vs, e, h _ _ q, repL_mono h ds vs l⟩
  | .obj C ks ds, v, r => by
    rw [Rep] at r ⊢
    obtain ⟨a, dx, vs, e, q, q2, n, l⟩ := r
    exact ⟨a, dx, vs, e, h _ _ q, h _ _ q2, n, repL_mono h ds vs l⟩
  | .exc a dx C ks ds, v, r => by
    rw [Rep] at r ⊢
    obtain ⟨vs, e, q, n, l⟩ := r
    exact ⟨vs, e, h _ _ q, n, repL_mono h ds vs l⟩
  | .dct ks ds, v, r => by
    rw [Rep] at r ⊢
    obtain ⟨a, vs, e, q, n, l⟩ := r
    exact ⟨a, vs, e, h _ _ q, n, repL_mono h ds vs l⟩
  | .dcT ks ds, v, r => by
    rw [Rep] at r ⊢
    obtain ⟨a, vs, e, q, n, l⟩ := r
    exact ⟨a, vs, e, h _ _ q, n, repL_mono h ds vs l⟩
theorem repL_mono {B : Option Addr} {S S' : Hp} (h : Same S S') : ∀ (ds : List D) (vs : List V), RepL B S ds vs → RepL B S' ds vs
  | [], _, r => r
  | d :: ds, vs, r => by
    rw [RepL] at r ⊢
    obtain ⟨v, ws, e, q, l⟩ := r
    exact ⟨v, ws, e, rep_mono h d v q, repL_mono h ds ws l⟩
end
section
variable {B : Option Addr} {S S' : Hp} {d : D} {ds es : List D} {v : V} {vs ws : List V}
theorem repL_nil : RepL B S [] [] := rfl
theorem repL_cons (h : Rep B S d v) (t : RepL B S ds vs) : RepL B S (d :: ds) (v :: vs) := ⟨v, vs, rfl, h, t⟩
theorem repL_nil_of (h : RepL B S [] vs) : vs = [] := h
theorem repL_cons_of (h : RepL B S (d :: ds) vs) : ∃ v ws, vs = v :: ws ∧ Rep B S d v ∧ RepL B S ds ws := h
theorem RepL.length : ∀ {ds : List D} {vs : List V}, RepL B S ds vs → vs.length = ds.length
  | [], vs, h => by rw [repL_nil_of h]; rfl
  | d :: ds, vs, h => by
    obtain ⟨v, ws, rfl, _, t⟩ := repL_cons_of h
    rw [List.length_cons, List.length_cons, RepL.length t]
theorem RepL.app : ∀ {ds : List D} {vs : List V}, RepL B S ds vs → RepL B S es ws → RepL B S (ds ++ es) (vs ++ ws)
  | [], vs, h, k => by rw [repL_nil_of h]; exact k
  | d :: ds, vs, h, k => by
    obtain ⟨v, us, rfl, r, t⟩ := repL_cons_of h
    exact repL_cons r (RepL.app t k)
theorem RepL.get : ∀ {ds : List D} {vs : List V} {i : Nat} {d : D}, RepL B S ds vs → ds[i]? = some d → ∃ v, vs[i]? = some v ∧ Rep B S d v
  | [], _, _, _, _, e => by simp at e
  | d :: ds, vs, 0, _, h, e => by
    obtain ⟨v, ws, rfl, r, t⟩ := repL_cons_of h
    simp at e
    subst e
    exact ⟨v, rfl, r⟩
  | d :: ds, vs, i + 1, _, h, e => by
    obtain ⟨v, ws, rfl, r, t⟩ := repL_cons_of h
    obtain ⟨u, q, r2⟩ := RepL.get (i := i) t (by simpa using e)
    exact ⟨u, by simpa using q, r2⟩
theorem RepL.set : ∀ {ds : List D} {vs : List V} (i : Nat), RepL B S ds vs → Rep B S d v → RepL B S (ds.set i d) (vs.set i v)
  | [], vs, i, h, r => by rw [repL_nil_of h]; exact repL_nil
  | d :: ds, vs, 0, h, r => by
    obtain ⟨u, ws, rfl, r1, t⟩ := repL_cons_of h
    exact repL_cons r t
  | d :: ds, vs, i + 1, h, r => by
    obtain ⟨u, ws, rfl, r1, t⟩ := repL_cons_of h
    exact repL_cons r1 (RepL.set i t r)
theorem RepL.take : ∀ {ds : List D} {vs : List V} (i : Nat), RepL B S ds vs → RepL B S (ds.take i) (vs.take i)
  | _, _, 0, _ => by simpa using repL_nil
  | [], vs, i + 1, h => by rw [repL_nil_of h]; exact repL_nil
  | d :: ds, vs, i + 1, h => by
    obtain ⟨u, ws, rfl, r1, t⟩ := repL_cons_of h
    exact repL_cons r1 (RepL.take i t)
theorem RepL.drop : ∀ {ds : List D} {vs : List V} (i : Nat), RepL B S ds vs → RepL B S (ds.drop i) (vs.drop i)
  | _, _, 0, h => h
  | [], vs, i + 1, h => by rw [repL_nil_of h]; exact repL_nil
  | d :: ds, vs, i + 1, h => by
    obtain ⟨u, ws, rfl, r1, t⟩ := repL_cons_of h
    exact RepL.drop i t
theorem RepL.rev (h : RepL B S ds vs) : RepL B S ds.reverse vs.reverse := by
  induction ds generalizing vs with
  | nil => rw [repL_nil_of h]; exact repL_nil
  | cons d ds ih =>
    obtain ⟨u, ws, rfl, r1, t⟩ := repL_cons_of h
    rw [List.reverse_cons, List.reverse_cons]
    exact (ih t).app (repL_cons r1 repL_nil)
theorem RepL.rep (h : RepL B S ds vs) : ∀ k : Nat, RepL B S (List.replicate k ds).flatten (List.replicate k vs).flatten
  | 0 => repL_nil
  | k + 1 => by
    rw [List.replicate_succ, List.replicate_succ, List.flatten_cons, List.flatten_cons]
    exact h.app (RepL.rep h k)
theorem RepL.ints {ns : List Int} : ∀ {vs : List V}, RepL B S (ns.map D.int) vs → vs = ns.map V.int := by
  induction ns with
  | nil => intro vs h; exact repL_nil_of h
  | cons n ns ih =>
    intro vs h
    obtain ⟨u, ws, rfl, r1, t⟩ := repL_cons_of h
    rw [ih t, show u = V.int n from r1]
    rfl
end
structure Fm where
  B : Option Addr
  C : Addr
  H0 : Hp
  S0 : Hp
/-- the law's bag: its cells, the next one, what is left of a great cell, the mixed number, the number of draws -/
def BagAt (b ca : Addr) (S H : Hp) : Prop := S b = none ∧ ∃ (cs : List Int) (i g st n : Int), H b = some (.lst [.ref ca, .int i, .int g, .int st, .int n]) ∧ S ca = some (.lst (cs.map V.int)) ∧ 0 ≤ i ∧ 0 ≤ g ∧ 0 ≤ st ∧ st < 2147483549
/-- the tables of code objects as they stand -/
def TabAll (S H : Hp) : Prop := ∀ p ∈ TbC.ts, LamX.TabS H p.1 p.2 ∧ S p.1 = none
/-- what may change though others know it: the bag, the tables -/
def Ex (B : Option Addr) (a : Addr) : Prop := B = some a ∨ ∃ p ∈ TbC.ts, p.1 = a
/-- a code object, a lambda's function object: they stay -/
def Fx (o : HO) : Prop := (∃ c q, o = LamX.CodeO c q) ∨ ∃ f i cl dV c', o = LamO f i cl dV c'
theorem fx_not {o : HO} (h : ∀ φ, o ≠ .ext φ) : ¬ Fx o := fun z => by
  rcases z with ⟨c, q, z⟩ | ⟨f, i, cl, dV, c', z⟩
  · exact h _ z
  · exact h _ z
/-- an object that may change -/
def Mu (x : Option HO) : Prop := x ≠ none ∧ ∀ o, x = some o → ¬ Fx o
theorem mu_ofF {x : Option HO} {o : HO} (e : x = some o) (h : ¬ Fx o) : Mu x := ⟨(by rw [e]; exact fun z => nomatch z), fun u z y => h (by rw [e] at z; cases z; exact y)⟩
theorem mu_of {x : Option HO} {o : HO} (e : x = some o) (h : ∀ φ, o ≠ .ext φ) : Mu x := mu_ofF e (fx_not h)
theorem mu_lst {x : Option HO} {vs : List V} (e : x = some (.lst vs)) : Mu x := mu_of e fun _ z => nomatch z
structure Kf (c : Fm) (H S : Hp) : Prop where
  sub : Same S H
  s0 : Same c.S0 S
  old : ∀ a o, c.H0 a = some o → ¬ Ex c.B a → H a = some o
  new : ∀ a, c.S0 a = none → Mu (c.H0 a) → S a = none
  bag : ∀ b, c.B = some b → BagAt b c.C S H ∧ c.H0 b ≠ none
  tab : TabAll S H ∧ ∀ p ∈ TbC.ts, c.H0 p.1 ≠ none
/-- what a name holds: data, or a list of its own that may change -/
inductive T where
  | dat (d : D)
  | lst (ts : List T)
  | tup (ts : List T)
  | obj (C : Addr) (ks : List Str) (ts : List T)
inductive DV where
  | val (d : D)
  | own (ds : List D)
  | tre (t : T) (as : List Addr)
abbrev En := List (Option DV)
mutual
/-- a tree of lists and objects that stand for nobody else, at the addresses as; its leaves stay as they are -/
def RepT (B : Option Addr) (S H : Hp) : T → V → List Addr → Prop
  | .dat d, v, as => Rep B S d v ∧ as = []
  | .lst ts, v, as => ∃ a vs bs, v = .ref a ∧ H a = some (.lst vs) ∧ RepTL B S H ts vs bs ∧ as = a :: bs
  | .tup ts, v, as => ∃ a vs, v = .ref a ∧ S a = some (.tup vs) ∧ RepTL B S H ts vs as
  | .obj C ks ts, v, as => ∃ a dx vs bs, v = .ref a ∧ H a = some (.ins C dx (ks.zip vs)) ∧ H dx = some (.own a) ∧ ts.length = ks.length ∧ RepTL B S H ts vs bs ∧ as = a :: dx :: bs
def RepTL (B : Option Addr) (S H : Hp) : List T → List V → List Addr → Prop
  | [], vs, as => vs = [] ∧ as = []
  | t :: ts, vs, as => ∃ v ws bs cs, vs = v :: ws ∧ RepT B S H t v bs ∧ RepTL B S H ts ws cs ∧ as = bs ++ cs
end
mutual
theorem repT_mono {B : Option Addr} {S S' H H' : Hp} (h : Same S S') : ∀ (t : T) (v : V) (as : List Addr), (∀ a ∈ as, ∀ o, H a = some o → H' a = some o) → RepT B S H t v as → RepT B S' H' t v as
  | .dat d, v, as, _, r => by
    rw [RepT] at r ⊢
    exact ⟨rep_mono h d v r.1, r.2⟩
  | .lst ts, v, as, q, r => by
    rw [RepT] at r ⊢
    obtain ⟨a, vs, bs, e, e2, l, rfl⟩ := r
    exact ⟨a, vs, bs, e, q a (List.mem_cons_self ..) _ e2, repTL_mono h ts vs bs (fun b hb => q b (List.mem_cons_of_mem _ hb)) l, rfl⟩
  | .tup ts, v, as, q, r => by
    rw [RepT] at r ⊢
    obtain ⟨a, vs, e, e2, l⟩ := r
    exact ⟨a, vs, e, h _ _ e2, repTL_mono h ts vs as q l⟩
  | .obj C ks ts, v, as, q, r => by
    rw [RepT] at r ⊢
    obtain ⟨a, dx, vs, bs, e, e2, e3, n, l, rfl⟩ := r
    exact ⟨a, dx, vs, bs, e, q a (List.mem_cons_self ..) _ e2, q dx (List.mem_cons_of_mem _ (List.mem_cons_self ..)) _ e3, n, repTL_mono h ts vs bs (fun b hb => q b (List.mem_cons_of_mem _ (List.mem_cons_of_mem _ hb))) l, rfl⟩
theorem repTL_mono {B : Option Addr} {S S' H H' : Hp} (h : Same S S') : ∀ (ts : List T) (vs : List V) (as : List Addr), (∀ a ∈ as, ∀ o, H a = some o → H' a = some o) → RepTL B S H ts vs as → RepTL B S' H' ts vs as
  | [], _, _, _, r => r
  | t :: ts, vs, as, q, r => by
    rw [RepTL] at r ⊢
    obtain ⟨v, ws, bs, cs, e, r1, r2, rfl⟩ := r
    exact ⟨v, ws, bs, cs, e, repT_mono h t v bs (fun b hb => q b (List.mem_append_left _ hb)) r1, repTL_mono h ts ws cs (fun b hb => q b (List.mem_append_right _ hb)) r2, rfl⟩
end
mutual
theorem RepT.mu {B : Option Addr} {S H : Hp} : ∀ {t : T} {v : V} {as : List Addr}, RepT B S H t v as → ∀ a ∈ as, Mu (H a)
  | .dat d, v, as, r, a, m => by
    rw [RepT] at r
    rw [r.2] at m
    cases m
  | .lst ts, v, as, r, a, m => by
    rw [RepT] at r
    obtain ⟨a0, vs, bs, e, e2, l, rfl⟩ := r
    rcases List.mem_cons.mp m with rfl | m
    · exact mu_lst e2
    · exact RepTL.mu l a m
  | .tup ts, v, as, r, a, m => by
    rw [RepT] at r
    obtain ⟨a0, vs, e, e2, l⟩ := r
    exact RepTL.mu l a m
  | .obj C ks ts, v, as, r, a, m => by
    rw [RepT] at r
    obtain ⟨a0, dx, vs, bs, e, e2, e3, n, l, rfl⟩ := r
    rcases List.mem_cons.mp m with rfl | m
    · exact mu_of e2 fun _ z => nomatch z
    rcases List.mem_cons.mp m with rfl | m
    · exact mu_of e3 fun _ z => nomatch z
    · exact RepTL.mu l a m
theorem RepTL.mu {B : Option Addr} {S H : Hp} : ∀ {ts : List T} {vs : List V} {as : List Addr}, RepTL B S H ts vs as → ∀ a ∈ as, Mu (H a)
  | [], _, _, r, a, m => by
    rw [RepTL] at r
    rw [r.2] at m
    cases m
  | t :: ts, vs, as, r, a, m => by
    rw [RepTL] at r
    obtain ⟨v, ws, bs, cs, e, r1, r2, rfl⟩ := r
    rcases List.mem_append.mp m with m | m
    · exact RepT.mu r1 a m
    · exact RepTL.mu r2 a m
end
mutual
/-- a tree looked at as a value -/
def T.d : T → D
  | .dat d => d
  | .lst ts => .lst (T.ds ts)
  | .tup ts => .tup (T.ds ts)
  | .obj C ks ts => .obj C ks (T.ds ts)
def T.ds : List T → List D
  | [] => []
  | t :: ts => t.d :: T.ds ts
end
theorem T.ds_length : ∀ {ts : List T}, (T.ds ts).length = ts.length
  | [] => rfl
  | t :: ts => by rw [T.ds, List.length_cons, List.length_cons, T.ds_length]
mutual
theorem rep_tree {B : Option Addr} {S S' H : Hp} (s : Same S S') : ∀ (t : T) (v : V) (as : List Addr), (∀ a ∈ as, S' a = H a) → RepT B S H t v as → Rep B S' t.d v
  | .dat d, v, as, _, r => by
    rw [RepT] at r
    exact rep_mono s d v r.1
  | .lst ts, v, as, q, r => by
    rw [RepT] at r
    obtain ⟨a, vs, bs, e, e2, l, rfl⟩ := r
    rw [T.d, Rep]
    exact ⟨a, vs, e, (q a (List.mem_cons_self ..)).trans e2, repL_tree s ts vs bs (fun b hb => q b (List.mem_cons_of_mem _ hb)) l⟩
  | .tup ts, v, as, q, r => by
    rw [RepT] at r
    obtain ⟨a, vs, e, e2, l⟩ := r
    rw [T.d, Rep]
    exact ⟨a, vs, e, s _ _ e2, repL_tree s ts vs as q l⟩
  | .obj C ks ts, v, as, q, r => by
    rw [RepT] at r
    obtain ⟨a, dx, vs, bs, e, e2, e3, n, l, rfl⟩ := r
    rw [T.d, Rep]
    exact ⟨a, dx, vs, e, (q a (List.mem_cons_self ..)).trans e2, (q dx (List.mem_cons_of_mem _ (List.mem_cons_self ..))).trans e3, by rw [T.ds_length]; exact n, repL_tree s ts vs bs (fun b hb => q b (List.mem_cons_of_mem _ (List.mem_cons_of_mem _ hb))) l⟩
theorem repL_tree {B : Option Addr} {S S' H : Hp} (s : Same S S') : ∀ (ts : List T) (vs : List V) (as : List Addr), (∀ a ∈ as, S' a = H a) → RepTL B S H ts vs as → RepL B S' (T.ds ts) vs
  | [], _, _, _, r => by
    rw [RepTL] at r
    rw [r.1]
    exact repL_nil
  | t :: ts, vs, as, q, r => by
    rw [RepTL] at r
    obtain ⟨v, ws, bs, cs, rfl, r1, r2, rfl⟩ := r
    rw [T.ds]
    exact repL_cons (rep_tree s t v bs (fun b hb => q b (List.mem_append_left _ hb)) r1) (repL_tree s ts ws cs (fun b hb => q b (List.mem_append_right _ hb)) r2)
end
mutual
/-- a value whose lists are all its own -/
def D.tr : D → T
  | .lst xs => .lst (D.trs xs)
  | .tup xs => .tup (D.trs xs)
  | .non => .dat .non | .bl b => .dat (.bl b) | .int i => .dat (.int i) | .str s => .dat (.str s) | .ty n => .dat (.ty n) | .adr a => .dat (.adr a) | .bag => .dat .bag
  | .fn i cl z => .dat (.fn i cl z) | .obj C ks xs => .dat (.obj C ks xs) | .exc a dx C ks xs => .dat (.exc a dx C ks xs) | .dct ks xs => .dat (.dct ks xs) | .dcT ks xs => .dat (.dcT ks xs)
def D.trs : List D → List T
  | [] => []
  | d :: ds => d.tr :: D.trs ds
end
mutual
theorem tr_d : ∀ d : D, d.tr.d = d
  | .lst xs => by rw [D.tr, T.d, trs_ds xs]
  | .tup xs => by rw [D.tr, T.d, trs_ds xs]
  | .non | .bl _ | .int _ | .str _ | .ty _ | .adr _ | .bag | .fn _ _ _ | .obj _ _ _ | .exc _ _ _ _ _ | .dct _ _ | .dcT _ _ => by rw [D.tr, T.d]
theorem trs_ds : ∀ ds : List D, T.ds (D.trs ds) = ds
  | [] => rfl
  | d :: ds => by rw [D.trs, T.ds, tr_d d, trs_ds ds]
end
theorem trs_length : ∀ ds : List D, (D.trs ds).length = ds.length
  | [] => rfl
  | d :: ds => by rw [D.trs, List.length_cons, List.length_cons, trs_length ds]
theorem trs_app : ∀ xs ys : List D, D.trs (xs ++ ys) = D.trs xs ++ D.trs ys
  | [], ys => rfl
  | x :: xs, ys => by rw [List.cons_append, D.trs, D.trs, trs_app xs ys, List.cons_append]
theorem trs_map (ds : List D) : D.trs ds = ds.map D.tr := by
  induction ds with
  | nil => rfl
  | cons d ds ih => rw [D.trs, ih, List.map_cons]
def DvR (c : Fm) (S H : Hp) : DV → V → Prop
  | .val d, v => Rep c.B S d v
  | .own ds, v => ∃ p vs, v = .ref p ∧ S p = none ∧ c.H0 p = none ∧ H p = some (.lst vs) ∧ RepL c.B S ds vs
  | .tre t as, v => RepT c.B S H t v as ∧ as.Nodup ∧ ∀ a ∈ as, S a = none ∧ c.H0 a = none
/-- what a name holds for itself -/
def Foot : DV → V → Addr → Prop
  | .val _, _, _ => False
  | .own _, v, a => v = .ref a
  | .tre _ as, _, a => a ∈ as
theorem DvR.foot {c : Fm} {S H : Hp} : ∀ {x : DV} {v : V}, DvR c S H x v → ∀ a, Foot x v a → S a = none ∧ c.H0 a = none ∧ Mu (H a)
  | .val _, _, _, _, f => f.elim
  | .own ds, v, r, a, f => by
    obtain ⟨p, vs, e, h1, h2, h3, _⟩ := r
    have f : v = .ref a := f
    rw [e] at f
    cases f
    exact ⟨h1, h2, mu_lst h3⟩
  | .tre t as, v, r, a, f => ⟨(r.2.2 a f).1, (r.2.2 a f).2, r.1.mu a f⟩
/-- what is told of a name stays, if the frozen things grow and what the name holds for itself is as it was -/
theorem DvR.keep {c c' : Fm} {S S' H H' : Hp} (hB : c'.B = c.B) (hs : Same S S') : ∀ {x : DV} {v : V}, DvR c S H x v → (∀ a, Foot x v a → S' a = none ∧ c'.H0 a = none ∧ ∀ o, H a = some o → H' a = some o) → DvR c' S' H' x v
  | .val d, v, r, _ => by
    show Rep c'.B S' d v
    rw [hB]
    exact rep_mono hs d v r
  | .own ds, v, r, q => by
    obtain ⟨p, vs, rfl, h1, h2, h3, h4⟩ := r
    obtain ⟨q1, q2, q3⟩ := q p rfl
    refine ⟨p, vs, rfl, q1, q2, q3 _ h3, ?_⟩
    rw [hB]
    exact repL_mono hs ds vs h4
  | .tre t as, v, r, q => by
    obtain ⟨h1, h2, h3⟩ := r
    refine ⟨?_, h2, fun a m => ⟨(q a m).1, (q a m).2.1⟩⟩
    rw [hB]
    exact repT_mono hs t v as (fun a m => (q a m).2.2) h1
structure Kn (c : Fm) (σ : St) (H S : Hp) (env : En) : Prop where
  kf : Kf c H S
  len : env.length = σ.length
  sl : ∀ (i : Nat) (x : DV), env[i]? = some (some x) → ∃ v, σ[i]? = some (some v) ∧ DvR c S H x v
  apart : ∀ (i j : Nat) (x y : DV) (v u : V) (a : Addr), i ≠ j → env[i]? = some (some x) → env[j]? = some (some y) → σ[i]? = some (some v) → σ[j]? = some (some u) → Foot x v a → ¬ Foot y u a
section
variable {c : Fm} {σ : St} {H H' S S' : Hp} {env : En} {a p : Addr} {o : HO}
/-- an object that is no table and no code object may change -/
theorem TabAll.of (t : TabAll S H) (hH : ∀ a o, H a = some o → ((∃ ps, o = .tbl ps) ∨ Fx o) → H' a = some o) (hn : ∀ p ∈ TbC.ts, S p.1 = none → S' p.1 = none) : TabAll S' H' := fun p hp => by
  obtain ⟨⟨ps, h1, h2, h3⟩, h4⟩ := t p hp
  refine ⟨⟨ps, hH _ _ h1 (.inl ⟨_, rfl⟩), h2, fun pos cv hc => ?_⟩, hn p hp h4⟩
  obtain ⟨c1, e1, e2⟩ := h3 pos cv hc
  exact ⟨c1, e1, hH _ _ e2 (.inr (.inl ⟨_, _, rfl⟩))⟩
theorem TabAll.ne (t : TabAll S H) {p : Addr × Str} (hp : p ∈ TbC.ts) : H p.1 ≠ none := fun z => by
  obtain ⟨⟨ps, h1, _⟩, _⟩ := t p hp
  rw [z] at h1
  cases h1
theorem TabAll.same (t : TabAll S H) (hH : Same H H') (hn : ∀ a, S a = none → Mu (H a) → S' a = none) : TabAll S' H' :=
  t.of (fun a o e _ => hH a o e) fun p hp e => hn _ e (by
    obtain ⟨⟨ps, h1, _⟩, _⟩ := t p hp
    exact mu_of h1 fun _ z => nomatch z)
/-- a list (or anything else that is no table, no code object) at p is told anew -/
theorem TabAll.updHF {u : HO} (t : TabAll S H) (hp : ∀ v, H p = some v → (∀ ps, v ≠ .tbl ps) ∧ ¬ Fx v) (hn : ∀ q ∈ TbC.ts, S q.1 = none → S' q.1 = none) : TabAll S' (upd H p u) :=
  t.of (fun a o e ty => by
    by_cases z : a = p
    · subst z
      obtain ⟨n1, n2⟩ := hp _ e
      rcases ty with ⟨ps, y⟩ | y
      · exact (n1 ps y).elim
      · exact (n2 y).elim
    · rw [upd_ne z]
      exact e) hn
theorem TabAll.updH {u : HO} (t : TabAll S H) (hp : ∀ v, H p = some v → (∀ ps, v ≠ .tbl ps) ∧ ∀ φ, v ≠ .ext φ) (hn : ∀ q ∈ TbC.ts, S q.1 = none → S' q.1 = none) : TabAll S' (upd H p u) := t.updHF (fun v e => ⟨(hp v e).1, fx_not (hp v e).2⟩) hn
theorem lst_ne {vs : List V} : (∀ ps, HO.lst vs ≠ .tbl ps) ∧ ∀ φ, HO.lst vs ≠ .ext φ := ⟨fun ps z => (nomatch z), fun φ z => (nomatch z)⟩
theorem TabAll.lst {vs : List V} {u : HO} (t : TabAll S H) (h : H p = some (.lst vs)) : TabAll S (upd H p u) := t.updH (fun v e => by rw [h] at e; cases e; exact lst_ne) fun _ _ e => e
theorem TabAll.not {vs : List V} (t : TabAll S H) (h : H p = some (.lst vs)) {q : Addr × Str} (hq : q ∈ TbC.ts) : q.1 ≠ p := fun z => by
  obtain ⟨⟨ps, h1, _⟩, _⟩ := t q hq
  rw [z, h] at h1
  cases h1
theorem TabAll.frz {vs : List V} {u : HO} (t : TabAll S H) (h : H p = some (.lst vs)) : TabAll (upd S p u) H := fun q hq => ⟨(t q hq).1, by rw [upd_ne (t.not h hq)]; exact (t q hq).2⟩
theorem Kf.b_ne (k : Kf c H S) (h : H p = none) : c.B ≠ some p := fun e => by
  obtain ⟨⟨_, cs, i, g, st, n, q, _⟩, _⟩ := k.bag p e
  rw [h] at q
  cases q
theorem Kf.x_ne (k : Kf c H S) (h : H p = none) : ¬ Ex c.B p := fun e => by
  rcases e with e | ⟨q, hq, e⟩
  · exact k.b_ne h e
  · exact k.tab.1.ne hq (by rw [e]; exact h)
theorem Kf.x_ne0 (k : Kf c H S) (h : c.H0 p = none) : ¬ Ex c.B p := fun e => by
  rcases e with e | ⟨q, hq, e⟩
  · exact (k.bag p e).2 h
  · exact k.tab.2 q hq (by rw [e]; exact h)
theorem Kf.s_none (k : Kf c H S) (h : H p = none) : S p = none := k.sub.free h
theorem Kf.h0_none (k : Kf c H S) (h : H p = none) : c.H0 p = none := by
  cases e : c.H0 p with
  | none => rfl
  | some o =>
    have q := k.old p o e (k.x_ne h)
    rw [h] at q
    cases q
theorem Kf.back (k : Kf c H S) (q : Mu (c.H0 a)) : Mu (H a) := by
  by_cases x : Ex c.B a
  · rcases x with e | ⟨p, hp, e⟩
    · obtain ⟨⟨_, cs, i, g, st, n, q, _⟩, _⟩ := k.bag a e
      exact mu_lst q
    · obtain ⟨⟨ps, h1, _⟩, _⟩ := k.tab.1 p hp
      rw [← e]
      exact mu_of h1 fun _ z => nomatch z
  · cases e : c.H0 a with
    | none => exact (q.1 e).elim
    | some o => exact mu_ofF (k.old a o e x) (q.2 o e)
/-- the general step -/
theorem Kf.step (k : Kf c H S) (hs : Same S S') (hsub : Same S' H') (hH : ∀ a o, H a = some o → ¬ Ex c.B a → H' a = some o) (hn : ∀ a, S a = none → Mu (H a) → S' a = none) (hb : ∀ b, c.B = some b → BagAt b c.C S' H') (ht : TabAll S' H') : Kf c H' S' :=
  ⟨hsub, k.s0.trans hs, fun a o e n => hH a o (k.old a o e n) n, fun a e n => hn a (k.new a e n) (k.back n), fun b e => ⟨hb b e, (k.bag b e).2⟩, ht, k.tab.2⟩
theorem Kn.step (k : Kn c σ H S env) (hs : Same S S') (hsub : Same S' H') (hH : ∀ a o, H a = some o → ¬ Ex c.B a → H' a = some o) (hn : ∀ a, S a = none → Mu (H a) → S' a = none) (hb : ∀ b, c.B = some b → BagAt b c.C S' H') (ht : TabAll S' H') : Kn c σ H' S' env := by
  refine ⟨k.kf.step hs hsub hH hn hb ht, k.len, fun i x e => ?_, k.apart⟩
  obtain ⟨v, e1, r⟩ := k.sl i x e
  refine ⟨v, e1, r.keep rfl hs fun a f => ?_⟩
  obtain ⟨f1, f2, f3⟩ := r.foot a f
  exact ⟨hn a f1 f3, f2, fun o e5 => hH a o e5 (k.kf.x_ne0 f2)⟩
theorem Kf.bagSame (k : Kf c H S) (hs : Same S S') (hH : Same H H') (hn : ∀ a, S a = none → Mu (H a) → S' a = none) : ∀ b, c.B = some b → BagAt b c.C S' H' := fun b e => by
  obtain ⟨⟨e1, cs, i, g, st, n, q, q2, q3⟩, _⟩ := k.bag b e
  exact ⟨hn b e1 (mu_lst q), cs, i, g, st, n, hH _ _ q, hs _ _ q2, q3⟩
/-- nothing of H has changed -/
theorem Kn.grow (k : Kn c σ H S env) (hs : Same S S') (hsub : Same S' H') (hH : Same H H') (hn : ∀ a, S a = none → Mu (H a) → S' a = none) : Kn c σ H' S' env :=
  k.step hs hsub (fun a o e _ => hH a o e) hn (k.kf.bagSame hs hH hn) (k.kf.tab.1.same hH hn)
theorem same_upd (h : H p = none) : Same H (upd H p o) := fun b u e => by
  rw [upd_ne (ne_of_none e h)]
  exact e
theorem same_upd2 (hs : Same S H) (h : H p = none) : Same (upd S p o) (upd H p o) := fun b u e => by
  by_cases z : b = p
  · subst z
    rw [upd_same] at e ⊢
    exact e
  · rw [upd_ne z] at e ⊢
    exact hs b u e
/-- a new object that stays as it is -/
theorem Kn.new (k : Kn c σ H S env) (h : H p = none) : Kn c σ (upd H p o) (upd S p o) env :=
  k.grow (same_upd (k.kf.s_none h)) (same_upd2 k.kf.sub h) (same_upd h) fun a e n => by
    have z : a ≠ p := fun z => n.1 (by rw [z]; exact h)
    rw [upd_ne z]
    exact e
/-- a new object that may change: known to nobody yet -/
theorem Kn.new0 (k : Kn c σ H S env) (h : H p = none) : Kn c σ (upd H p o) S env :=
  k.grow (Same.refl S) (k.kf.sub.trans (same_upd h)) (same_upd h) fun a e n => e
end
structure Er where
  cls : Addr
  ks : List Str
  ds : List D
def XOk (c : Fm) (E : XK) (Rx : Er → Prop) : Prop := ∀ (er : Er) (d : Addr) (vs : List V) (H S : Hp), Kf c H S → RepL c.B S er.ds vs → er.ds.length = er.ks.length → H d = some (.xd (er.ks.zip vs)) → c.H0 d = none → S d = none → Rx er → E (.ref er.cls) (some d) H
abbrev DT := En → (D → Prop) → (Er → Prop) → Prop
abbrev DTT := En → (Bool → Prop) → (Er → Prop) → Prop
abbrev DTA := En → (List D → Prop) → (Er → Prop) → Prop
/-- a result: of all that stays; made here alone; made here alone, its lists its own -/
inductive Rk where
  | old | nw | tr
structure DEnds where
  nx : En → Prop
  rt : Rk → D → Prop
  bk : En → Prop := fun _ => False
  ct : En → Prop := fun _ => False
  ex : Er → Prop
abbrev DTS := DEnds → En → Prop
/-- an expression's reading t is told by T -/
def Sm (E : XK) (t : TE) (T : DT) : Prop := ∀ (c : Fm) (σ : St) (H S : Hp) (env : En) (R : D → Prop) (Rx : Er → Prop), XOk c E Rx → Kn c σ H S env → T env R Rx →
  ∀ Q : VK, (∀ v H' S' d, Kn c σ H' S' env → Same S S' → Rep c.B S' d v → R d → Q v H') → t σ H Q
def SmT (E : XK) (t : TT) (T : DTT) : Prop := ∀ (c : Fm) (σ : St) (H S : Hp) (env : En) (R : Bool → Prop) (Rx : Er → Prop), XOk c E Rx → Kn c σ H S env → T env R Rx →
  ∀ Q : Bool → Hp → Prop, (∀ b H' S', Kn c σ H' S' env → Same S S' → R b → Q b H') → t σ H Q
def SmA (E : XK) (t : TA) (T : DTA) : Prop := ∀ (c : Fm) (σ : St) (H S : Hp) (env : En) (R : List D → Prop) (Rx : Er → Prop), XOk c E Rx → Kn c σ H S env → T env R Rx →
  ∀ Q : List V → Hp → Prop, (∀ vs H' S' ds, Kn c σ H' S' env → Same S S' → RepL c.B S' ds vs → R ds → Q vs H') → t σ H Q
/-- what is new since H -/
def newH (H S : Hp) : Hp := fun a => match H a with
  | none => S a
  | some _ => none
theorem newH_of {H S : Hp} {a : Addr} (h : H a = none) : newH H S a = S a := by unfold newH; rw [h]
theorem newH_some {H S : Hp} {a : Addr} {o : HO} (e : newH H S a = some o) : H a = none ∧ S a = some o := by
  unfold newH at e
  split at e
  · exact ⟨by assumption, e⟩
  · cases e
theorem newH_sub {H S : Hp} : Same (newH H S) S := fun a o e => (newH_some e).2
open Classical in
noncomputable def frzS (as : List Addr) (H S : Hp) : Hp := fun a => if a ∈ as then H a else S a
theorem frzS_in {as : List Addr} {H S : Hp} {a : Addr} (h : a ∈ as) : frzS as H S a = H a := if_pos h
theorem frzS_out {as : List Addr} {H S : Hp} {a : Addr} (h : a ∉ as) : frzS as H S a = S a := if_neg h
theorem frzS_same {as : List Addr} {H S : Hp} (h : ∀ a ∈ as, S a = none) : Same S (frzS as H S) := fun a o e => by
  by_cases z : a ∈ as
  · rw [h a z] at e
    cases e
  · rw [frzS_out z]
    exact e
theorem Kf.frzT {c : Fm} {H S : Hp} {as : List Addr} (k : Kf c H S) (q : ∀ a ∈ as, S a = none ∧ c.H0 a = none) : Kf c H (frzS as H S) := by
  have s := frzS_same (H := H) fun a m => (q a m).1
  refine ⟨fun a o e => ?_, k.s0.trans s, k.old, fun a e n => ?_, fun b e => ?_, ⟨fun p hp => ⟨(k.tab.1 p hp).1, ?_⟩, k.tab.2⟩⟩
  · by_cases z : a ∈ as
    · rw [frzS_in z] at e
      exact e
    · rw [frzS_out z] at e
      exact k.sub a o e
  · rw [frzS_out fun z => n.1 (q a z).2]
    exact k.new a e n
  · obtain ⟨⟨b1, cs, i, g, st, n, b2, b3, b4⟩, b5⟩ := k.bag b e
    exact ⟨⟨by rw [frzS_out fun z => b5 (q b z).2]; exact b1, cs, i, g, st, n, b2, s _ _ b3, b4⟩, b5⟩
  · rw [frzS_out fun z => k.tab.2 p hp (q _ z).2]
    exact (k.tab.1 p hp).2
theorem repT_frz {c : Fm} {H S : Hp} {t : T} {v : V} {as : List Addr} (r : RepT c.B S H t v as) (q : ∀ a ∈ as, S a = none) : Rep c.B (frzS as H S) t.d v := rep_tree (frzS_same q) t v as (fun _ m => frzS_in m) r
def RepN (c : Fm) (H S : Hp) : Rk → D → V → Prop
  | .old, d, v => Rep c.B S d v
  | .nw, d, v => Rep c.B (newH c.H0 S) d v
  | .tr, d, v => ∃ as, RepT c.B S H d.tr v as ∧ as.Nodup ∧ ∀ a ∈ as, S a = none ∧ c.H0 a = none
theorem RepN.old {c : Fm} {H S : Hp} {n : Rk} {d : D} {v : V} (k : Kf c H S) (r : RepN c H S n d v) : ∃ S', Kf c H S' ∧ Same S S' ∧ Rep c.B S' d v := by
  cases n with
  | old => exact ⟨S, k, Same.refl S, r⟩
  | nw => exact ⟨S, k, Same.refl S, rep_mono newH_sub d v r⟩
  | tr =>
    obtain ⟨as, r, _, q⟩ := r
    refine ⟨_, k.frzT q, frzS_same fun a m => (q a m).1, ?_⟩
    have := repT_frz r fun a m => (q a m).1
    rw [tr_d] at this
    exact this
def mk (c : Fm) (S : Hp) (Q : DEnds) (D : Ends) : Prop :=
  (∀ σ H S' env, Kn c σ H S' env → Same S S' → Q.nx env → D.nx σ H) ∧ (∀ n v H S' d, Kf c H S' → Same S S' → RepN c H S' n d v → Q.rt n d → D.rt v H) ∧
  (∀ σ H S' env, Kn c σ H S' env → Same S S' → Q.bk env → D.bk σ H) ∧ (∀ σ H S' env, Kn c σ H S' env → Same S S' → Q.ct env → D.ct σ H)
def SmS (E : XK) (t : TS) (T : DTS) : Prop := ∀ (c : Fm) (σ : St) (H S : Hp) (env : En) (Q : DEnds), XOk c E Q.ex → Kn c σ H S env → T Q env →
  ∀ D : Ends, mk c S Q D → t D σ H
theorem mk.mono {c : Fm} {S S' : Hp} {Q : DEnds} {D : Ends} (m : mk c S Q D) (h : Same S S') : mk c S' Q D :=
  ⟨fun σ H S2 env k s q => m.1 σ H S2 env k (h.trans s) q, fun n v H S2 d k s r q => m.2.1 n v H S2 d k (h.trans s) r q, fun σ H S2 env k s q => m.2.2.1 σ H S2 env k (h.trans s) q, fun σ H S2 env k s q => m.2.2.2 σ H S2 env k (h.trans s) q⟩
def DE (X : Cx) (E : XK) (e : Expr) (T : DT) : Prop := ∃ t, PE X e t ∧ Sm E t T
def DTe (X : Cx) (E : XK) (e : Expr) (T : DTT) : Prop := ∃ t, PT X e t ∧ SmT E t T
def DWe (X : Cx) (E : XK) (e : Expr) (T : DTT) : Prop := ∃ t, PW X e t ∧ SmT E t T
def DA (X : Cx) (E : XK) (es : List Expr) (T : DTA) : Prop := ∃ t, PA X es t ∧ SmA E t T
def DS (X : Cx) (E : XK) (st : Stmt) (T : DTS) : Prop := ∃ t, PS X st t ∧ SmS E t T
def DSs (X : Cx) (E : XK) (st : List Stmt) (T : DTS) : Prop := ∃ t, PSs X st t ∧ SmS E t T
section
variable {X : Cx} {E : XK} {pos : Pos}
def xVar (i : Nat) : DT := fun env R _ => ∃ d, env[i]? = some (some (.val d)) ∧ R d
def xC (d : D) : DT := fun _ R _ => R d
theorem sm_var (i : Nat) : Sm E (tVar i) (xVar i) := fun c σ H S env R Rx _ k t Q q => by
  obtain ⟨d, e, r⟩ := t
  obtain ⟨v, e1, r1⟩ := k.sl i _ e
  exact ⟨v, e1, q v H S d k (Same.refl S) r1 r⟩
theorem sm_c {v : V} {d : D} (h : ∀ B S, Rep B S d v) : Sm E (tC v) (xC d) := fun c σ H S env R Rx _ k t Q q => q v H S d k (Same.refl S) (h _ _) t
theorem d_var (i : Nat) {x : Str} (hN : X.N[i]? = some x := by rfl) (hv : Vis X.env.scope x := by first | exact Or.inl rfl | exact Or.inr (Or.inl rfl) | exact Or.inr (Or.inr rfl)) (hd : (x == ("__debug__" : Str)) = false := by decide)
    (hcd : (x == ("__classdict__" : Str)) = false := by decide) : DE X E (.Name x pos) (xVar i) := ⟨_, pv i hN hv hd hcd, sm_var i⟩
theorem d_int {i : Int} {j} : DE X E (.Constant (.int i) j pos) (xC (.int i)) := ⟨_, pe_int, sm_c fun _ _ => rfl⟩
theorem d_bl {b : Bool} {j} : DE X E (.Constant (.bool b) j pos) (xC (.bl b)) := ⟨_, pe_bl, sm_c fun _ _ => rfl⟩
theorem d_non {j} : DE X E (.Constant .none j pos) (xC .non) := ⟨_, pe_non, sm_c fun _ _ => rfl⟩
theorem d_str {s : Str} {j} : DE X E (.Constant (.str s) j pos) (xC (.str s)) := ⟨_, pe_str, sm_c fun _ _ => rfl⟩
theorem d_gint {x : Str} {i : Int} (hm : ∃ t, X.mg x = some (.int i t)) (hg : Gl X x := by rfl) (hd : (x == ("__debug__" : Str)) = false := by decide) : DE X E (.Name x pos) (xC (.int i)) := by
  obtain ⟨t, e⟩ := hm
  exact ⟨_, pe_glob (v := .int i) hg e ⟨t, rfl⟩ hd, sm_c fun _ _ => rfl⟩
end
abbrev DOp := D → D → (D → Prop) → Prop
def SmOp (r : R2) (op : DOp) : Prop := ∀ (c : Fm) (σ : St) (H S : Hp) (env : En) (x y : D) (v u : V) (R : D → Prop), Kn c σ H S env → Rep c.B S x v → Rep c.B S y u → op x y R →
  ∀ Q : VK, (∀ z H' S' d, Kn c σ H' S' env → Same S S' → Rep c.B S' d z → R d → Q z H') → r v u H Q
def xOp (op : DOp) (Ta Tb : DT) : DT := fun env R Rx => Ta env (fun x => Tb env (fun y => op x y R) Rx) Rx
section
variable {X : Cx} {E : XK} {pos : Pos} {a b : Expr} {Ta Tb : DT} {ta tb : TE}
theorem sm_op {r : R2} {op : DOp} (ho : SmOp r op) (ha : Sm E ta Ta) (hb : Sm E tb Tb) : Sm E (tOp r ta tb) (xOp op Ta Tb) := fun c σ H S env R Rx x k t Q q =>
  ha c σ H S env _ Rx x k t _ fun v H1 S1 d1 k1 s1 r1 t1 => hb c σ H1 S1 env _ Rx x k1 t1 _ fun u H2 S2 d2 k2 s2 r2 t2 =>
    ho c σ H2 S2 env d1 d2 v u R k2 (rep_mono s2 d1 v r1) r2 t2 Q fun z H3 S3 d3 k3 s3 r3 t3 => q z H3 S3 d3 k3 ((s1.trans s2).trans s3) r3 t3
theorem d_op {op : Operator} {r : R2} {dop : DOp} (h : OpR X (binaryOp op) r) (ho : SmOp r dop) (ha : DE X E a Ta) (hb : DE X E b Tb) : DE X E (.BinOp a op b pos) (xOp dop Ta Tb) := by
  obtain ⟨ta, p1, s1⟩ := ha
  obtain ⟨tb, p2, s2⟩ := hb
  exact ⟨_, pe_op h p1 p2, sm_op ho s1 s2⟩
def opAdd : DOp
  | .int i, .int j, R => R (.int (i + j))
  | .str s, .str t, R => s.length + t.length ≤ sizeLine ∧ R (.str (s ++ t))
  | .lst xs, .lst ys, R => xs.length + ys.length ≤ sizeLine ∧ R (.lst (xs ++ ys))
  | .tup xs, .tup ys, R => xs.length + ys.length ≤ sizeLine ∧ R (.tup (xs ++ ys))
  | _, _, _ => False
def opSub : DOp
  | .int i, .int j, R => R (.int (i - j))
  | _, _, _ => False
/-- what a product of ints asks -/
def MulOk (i j : Int) : Prop := CMul i j ∨ CMulW i j
/-- a text, so many times -/
def mulS (s : Str) (n : Nat) : Str := ⟨(List.replicate n s.cps.toList).flatten.toArray⟩
def opMul : DOp
  | .int i, .int j, R => MulOk i j ∧ R (.int (i * j))
  | .lst xs, .int k, R => -(2 ^ 63) ≤ k ∧ k < 2 ^ 63 ∧ xs.length * k.toNat ≤ sizeLine ∧ R (.lst (List.replicate k.toNat xs).flatten)
  | .str s, .int k, R => -(2 ^ 63) ≤ k ∧ k < 2 ^ 63 ∧ s.length * k.toNat ≤ sizeLine ∧ R (.str (mulS s k.toNat))
  | _, _, _ => False
def DivOk (j : Int) : Prop := (j ≠ 0 ∧ j.natAbs < 1073741824) ∨ (0 < j ∧ j.natAbs.log2 < 9000)
def opFdiv : DOp
  | .int i, .int j, R => DivOk j ∧ R (.int (i.fdiv j))
  | _, _, _ => False
def opMod : DOp
  | .int i, .int j, R => j ≠ 0 ∧ R (.int (i.fmod j))
  | _, _, _ => False
def opPow : DOp
  | .int i, .int j, R => (0 ≤ j ∧ j ≤ 1000000 ∧ i.natAbs < 2 ^ 64) ∧ R (.int (i ^ j.toNat))
  | _, _, _ => False
theorem smOp_int {C : Int → Int → Prop} {g : Int → Int → V} {f : Int → Int → D} {op : DOp} (hr : ∀ i j B S, Rep B S (f i j) (g i j)) (h : ∀ x y R, op x y R → ∃ i j, x = .int i ∧ y = .int j ∧ C i j ∧ R (f i j)) : SmOp (rI C g) op :=
  fun c σ H S env x y v u R k r1 r2 t Q q => by
    obtain ⟨i, j, rfl, rfl, hc, t⟩ := h x y R t
    exact ⟨i, j, r1, r2, hc, q _ H S _ k (Same.refl S) (hr i j _ _) t⟩
theorem smOp_int0 {g : Int → Int → V} {f : Int → Int → D} {op : DOp} (hr : ∀ i j B S, Rep B S (f i j) (g i j)) (h : ∀ x y R, op x y R → ∃ i j, x = .int i ∧ y = .int j ∧ R (f i j)) : SmOp (rI0 g) op :=
  fun c σ H S env x y v u R k r1 r2 t Q q => by
    obtain ⟨i, j, rfl, rfl, t2⟩ := h x y R t
    exact ⟨i, j, r1, r2, q _ H S _ k (Same.refl S) (hr i j _ _) t2⟩
theorem lst_of {c : Fm} {σ : St} {H S : Hp} {env : En} {xs : List D} {v : V} (k : Kn c σ H S env) (r : Rep c.B S (.lst xs) v) : ∃ a vs, v = .ref a ∧ H a = some (.lst vs) ∧ S a = some (.lst vs) ∧ RepL c.B S xs vs := by
  obtain ⟨a, vs, e, q, l⟩ := r
  exact ⟨a, vs, e, k.kf.sub _ _ q, q, l⟩
theorem tup_of {c : Fm} {σ : St} {H S : Hp} {env : En} {xs : List D} {v : V} (k : Kn c σ H S env) (r : Rep c.B S (.tup xs) v) : ∃ a vs, v = .ref a ∧ H a = some (.tup vs) ∧ S a = some (.tup vs) ∧ RepL c.B S xs vs := by
  obtain ⟨a, vs, e, q, l⟩ := r
  exact ⟨a, vs, e, k.kf.sub _ _ q, q, l⟩
/-- a new list, a new tuple of known items -/
theorem put_lst {c : Fm} {σ : St} {H S : Hp} {env : En} {ds : List D} {vs : List V} {p : Addr} (k : Kn c σ H S env) (l : RepL c.B S ds vs) (h : H p = none) :
    Kn c σ (upd H p (.lst vs)) (upd S p (.lst vs)) env ∧ Same S (upd S p (.lst vs)) ∧ Rep c.B (upd S p (.lst vs)) (.lst ds) (.ref p) := by
  have s : Same S (upd S p (.lst vs)) := same_upd (k.kf.s_none h)
  exact ⟨k.new h, s, p, vs, rfl, upd_same, repL_mono s ds vs l⟩
theorem put_tup {c : Fm} {σ : St} {H S : Hp} {env : En} {ds : List D} {vs : List V} {p : Addr} (k : Kn c σ H S env) (l : RepL c.B S ds vs) (h : H p = none) :
    Kn c σ (upd H p (.tup vs)) (upd S p (.tup vs)) env ∧ Same S (upd S p (.tup vs)) ∧ Rep c.B (upd S p (.tup vs)) (.tup ds) (.ref p) := by
  have s : Same S (upd S p (.tup vs)) := same_upd (k.kf.s_none h)
  exact ⟨k.new h, s, p, vs, rfl, upd_same, repL_mono s ds vs l⟩
abbrev rAddS0 : R2 := fun x y H Q => ∃ i j, x = .str i ∧ y = .str j ∧ i.length + j.length ≤ sizeLine ∧ Q (.str (i ++ j)) H
abbrev rAddAll (K : PySem.W.Frag) : R2 := fun x y H Q => rI0 (fun i j => .int (i + j)) x y H Q ∨ (fun x y H Q => rAddS0 x y H Q ∨ (fun x y H Q => rCat x y H Q ∨ rCatA K x y H Q) x y H Q) x y H Q
theorem op_addAll : OpR X (binaryOp .Add) (rAddAll X.K) := op_add.or (op_add_str.or (op_cat.or op_catA))
theorem smOp_add {K : PySem.W.Frag} : SmOp (rAddAll K) opAdd := by
  intro c σ H S env x y v u R k r1 r2 t Q q
  cases x <;> cases y <;> try exact (show False from t).elim
  · exact .inl ⟨_, _, r1, r2, q _ H S (.int _) k (Same.refl S) rfl t⟩
  · exact .inr (.inl ⟨_, _, r1, r2, t.1, q _ H S (.str _) k (Same.refl S) rfl t.2⟩)
  · obtain ⟨a, vs, e1, h1, _, l1⟩ := lst_of k r1
    obtain ⟨b, ws, e2, h2, _, l2⟩ := lst_of k r2
    obtain ⟨hz, t⟩ := t
    refine .inr (.inr (.inl ⟨a, b, vs, ws, e1, e2, h1, h2, by rw [l1.length, l2.length]; exact hz, fun p hp => ?_⟩))
    obtain ⟨k', s', r'⟩ := put_lst k (l1.app l2) hp
    exact q _ _ _ _ k' s' r' t
  · obtain ⟨a, vs, e1, h1, hS1, l1⟩ := tup_of k r1
    obtain ⟨b, ws, e2, h2, hS2, l2⟩ := tup_of k r2
    obtain ⟨hz, t⟩ := t
    refine .inr (.inr (.inr ⟨a, b, vs, ws, e1, e2, SqT.of h1, SqT.of h2, by rw [l1.length, l2.length]; exact hz, fun z => ?_, fun z z2 => ?_, fun z z2 p hp => ?_⟩))
    · subst z
      have e0 : ∀ {ds : List D}, RepL c.B S ds [] → ds = [] := fun {ds} l => by
        have := l.length
        exact List.length_eq_zero_iff.mp (by simpa using this.symm)
      have e3 := e0 l1
      subst e3
      exact q _ H S _ k (Same.refl S) (show Rep c.B S (.tup ([] ++ _)) (.ref b) from ⟨b, ws, rfl, hS2, l2⟩) t
    · subst z2
      have e0 : ∀ {ds : List D}, RepL c.B S ds [] → ds = [] := fun {ds} l => by
        have := l.length
        exact List.length_eq_zero_iff.mp (by simpa using this.symm)
      have e3 := e0 l2
      subst e3
      rw [List.append_nil] at t
      exact q _ H S (.tup _) k (Same.refl S) ⟨a, vs, rfl, hS1, l1⟩ t
    · obtain ⟨k', s', r'⟩ := put_tup k (l1.app l2) hp
      exact q _ _ _ _ k' s' r' t
theorem d_add (ha : DE X E a Ta) (hb : DE X E b Tb) : DE X E (.BinOp a .Add b pos) (xOp opAdd Ta Tb) := d_op op_addAll smOp_add ha hb
theorem d_sub (ha : DE X E a Ta) (hb : DE X E b Tb) : DE X E (.BinOp a .Sub b pos) (xOp opSub Ta Tb) := d_op op_sub (smOp_int0 (f := fun i j => .int (i - j)) (fun _ _ _ _ => rfl) fun x y R t => by
  cases x <;> cases y <;> first | exact (show False from t).elim | exact ⟨_, _, rfl, rfl, t⟩) ha hb
theorem d_pow (ha : DE X E a Ta) (hb : DE X E b Tb) : DE X E (.BinOp a .Pow b pos) (xOp opPow Ta Tb) := d_op op_pow (smOp_int (f := fun i j => .int (i ^ j.toNat)) (fun _ _ _ _ => rfl) fun x y R t => by
  cases x <;> cases y <;> first | exact (show False from t).elim | exact ⟨_, _, rfl, rfl, t⟩) ha hb
def xUn (f : D → (D → Prop) → Prop) (Ta : DT) : DT := fun env R Rx => Ta env (fun x => f x R) Rx
def opNeg : D → (D → Prop) → Prop
  | .int i, R => R (.int (-i))
  | _, _ => False
end
end DL
namespace DL
open PySem PySem.Spec L2
variable [TbC]
mutual
def D.py : D → PyData
  | .bl b => .bool b
  | .int i => .int i
  | .str s => .str s
  | .lst xs => .list (pyL xs)
  | .tup xs => .tuple (pyL xs)
  | .non | .ty _ | .adr _ | .bag | .fn _ _ _ | .exc _ _ _ _ _ | .dct _ _ | .dcT _ _ | .obj _ _ _ => .none
def pyL : List D → List PyData
  | [] => []
  | x :: xs => x.py :: pyL xs
end
mutual
def D.dat : D → Bool
  | .non | .bl _ | .int _ | .str _ => true
  | .lst xs | .tup xs => datL xs
  | .ty _ | .adr _ | .bag | .fn _ _ _ | .exc _ _ _ _ _ | .dct _ _ | .dcT _ _ | .obj _ _ _ => false
def datL : List D → Bool
  | [] => true
  | x :: xs => x.dat && datL xs
end
mutual
def D.dep : D → Nat
  | .lst xs | .tup xs => 1 + depL xs
  | .non | .bl _ | .int _ | .str _ | .ty _ | .adr _ | .bag | .fn _ _ _ | .exc _ _ _ _ _ | .dct _ _ | .dcT _ _ | .obj _ _ _ => 1
def depL : List D → Nat
  | [] => 0
  | x :: xs => max x.dep (depL xs)
end
mutual
theorem py_plain : ∀ d : D, d.py.plain = true
  | .non | .bl _ | .int _ | .str _ | .ty _ | .adr _ | .bag | .fn _ _ _ | .exc _ _ _ _ _ | .dct _ _ | .dcT _ _ | .obj _ _ _ => rfl
  | .lst xs => py_plainL xs
  | .tup xs => py_plainL xs
theorem py_plainL : ∀ xs : List D, PyData.plainAll (pyL xs) = true
  | [] => rfl
  | x :: xs => by
    show (x.py.plain && PyData.plainAll (pyL xs)) = true
    rw [py_plain x, py_plainL xs]
    rfl
end
section
variable {B : Option Addr} {S H : Hp} {K : PySem.W.Frag}
mutual
theorem rep_dp (h : Same S H) : ∀ (d : D) (v : V), d.dat = true → Rep B S d v → Dp K H v d.py
  | .non, v, _, r => by rw [show v = .non from r]; exact .non
  | .bl b, v, _, r => by rw [show v = .bl b from r]; exact .bl b
  | .int i, v, _, r => by rw [show v = .int i from r]; exact .int i
  | .str s, v, _, r => by rw [show v = .str s from r]; exact .str s
  | .lst ds, v, t, r => by
    rw [Rep] at r
    obtain ⟨a, vs, e, q, l⟩ := r
    subst e
    exact .lst (SqL.of (h _ _ q)) (repL_dp h ds vs t l)
  | .tup ds, v, t, r => by
    rw [Rep] at r
    obtain ⟨a, vs, e, q, l⟩ := r
    subst e
    exact .tup (SqT.of (h _ _ q)) (repL_dp h ds vs t l)
  | .ty _, _, t, _ => nomatch (show false = true from t)
  | .adr _, _, t, _ => nomatch (show false = true from t)
  | .bag, _, t, _ => nomatch (show false = true from t)
  | .fn _ _ _, _, t, _ => nomatch (show false = true from t)
  | .exc _ _ _ _ _, _, t, _ => nomatch (show false = true from t)
  | .dct _ _, _, t, _ => nomatch (show false = true from t)
  | .dcT _ _, _, t, _ => nomatch (show false = true from t)
  | .obj _ _ _, _, t, _ => nomatch (show false = true from t)
theorem repL_dp (h : Same S H) : ∀ (ds : List D) (vs : List V), datL ds = true → RepL B S ds vs → DpAll K H vs (pyL ds)
  | [], vs, _, l => by rw [repL_nil_of l]; exact .nil
  | d :: ds, vs, t, l => by
    obtain ⟨v, ws, e, r, l2⟩ := repL_cons_of l
    subst e
    have t2 : (d.dat && datL ds) = true := t
    rw [Bool.and_eq_true] at t2
    exact .cons (rep_dp h d v t2.1 r) (repL_dp h ds ws t2.2 l2)
end
end
mutual
theorem py_depth : ∀ d : D, d.py.depth ≤ d.dep
  | .non | .bl _ | .int _ | .str _ | .ty _ | .adr _ | .bag | .fn _ _ _ | .exc _ _ _ _ _ | .dct _ _ | .dcT _ _ | .obj _ _ _ => by simp [D.py, D.dep, PyData.depth]
  | .lst xs => by
    have := py_depthL xs
    simp only [D.py, D.dep, PyData.depth]
    omega
  | .tup xs => by
    have := py_depthL xs
    simp only [D.py, D.dep, PyData.depth]
    omega
theorem py_depthL : ∀ xs : List D, PyData.depthAll (pyL xs) ≤ depL xs
  | [] => by simp [pyL, depL, PyData.depthAll]
  | x :: xs => by
    have h1 := py_depth x
    have h2 := py_depthL xs
    simp only [pyL, depL, PyData.depthAll]
    omega
end
section
variable {X : Cx} {E : XK} {pos : Pos} {a b c : Expr} {Ta Tb Tc : DT} {ta tb tc : TE}
def rEqP (K : PySem.W.Frag) : R2 := fun x y H Q => ∃ d e, Dp K H x d ∧ Dp K H y e ∧ d.plain = true ∧ e.plain = true ∧ d.depth ≤ 64 ∧ Q (.bl (PyData.eqv d e)) H
def rNeP (K : PySem.W.Frag) : R2 := fun x y H Q => ∃ d e, Dp K H x d ∧ Dp K H y e ∧ d.plain = true ∧ e.plain = true ∧ d.depth ≤ 64 ∧ Q (.bl (!PyData.eqv d e)) H
theorem op_eqP (hu : X.A.units + 64 < cLine) : OpR X (compareOp .Eq) (rEqP X.K) := by
  intro pins s σ H x y v u Q I rx ry h
  obtain ⟨d, e, hd, he, pd, pe, hz, q⟩ := h
  obtain ⟨as, r1⟩ := Dp.reads I d x v hd rx
  obtain ⟨bs, r2⟩ := Dp.reads I e y u he ry
  exact SeqAt.eq_plain r1 r2 pd pe (by have := Nat.min_le_left d.depth e.depth; omega) ⟨.bl _, H, I, rfl, q⟩
theorem op_neP (hu : X.A.units + 64 < cLine) : OpR X (compareOp .NotEq) (rNeP X.K) := by
  intro pins s σ H x y v u Q I rx ry h
  obtain ⟨d, e, hd, he, pd, pe, hz, q⟩ := h
  obtain ⟨as, r1⟩ := Dp.reads I d x v hd rx
  obtain ⟨bs, r2⟩ := Dp.reads I e y u he ry
  exact SeqAt.ne_plain r1 r2 pd pe (by have := Nat.min_le_left d.depth e.depth; omega) ⟨.bl _, H, I, rfl, q⟩
def opEq : DOp := fun x y R => x.dat = true ∧ y.dat = true ∧ x.dep ≤ 64 ∧ R (.bl (PyData.eqv x.py y.py))
def opNe : DOp := fun x y R => x.dat = true ∧ y.dat = true ∧ x.dep ≤ 64 ∧ R (.bl (!PyData.eqv x.py y.py))
def CmpOk (X : Cx) (op : CmpOp) (dop : DOp) : Prop := ∃ r, OpR X (compareOp op) r ∧ SmOp r dop
theorem c_eq (hu : X.A.units + 64 < cLine) : CmpOk X .Eq opEq := ⟨_, op_eqP hu, fun c σ H S env x y v u R k r1 r2 t Q q => by
  obtain ⟨t1, t2, t3, t⟩ := t
  exact ⟨x.py, y.py, rep_dp k.kf.sub x v t1 r1, rep_dp k.kf.sub y u t2 r2, py_plain x, py_plain y, Nat.le_trans (py_depth x) t3, q _ H S (.bl _) k (Same.refl S) rfl t⟩⟩
theorem c_ne (hu : X.A.units + 64 < cLine) : CmpOk X .NotEq opNe := ⟨_, op_neP hu, fun c σ H S env x y v u R k r1 r2 t Q q => by
  obtain ⟨t1, t2, t3, t⟩ := t
  exact ⟨x.py, y.py, rep_dp k.kf.sub x v t1 r1, rep_dp k.kf.sub y u t2 r2, py_plain x, py_plain y, Nat.le_trans (py_depth x) t3, q _ H S (.bl _) k (Same.refl S) rfl t⟩⟩
def opLt : DOp
  | .int i, .int j, R => R (.bl (decide (i < j)))
  | _, _, _ => False
def opLe : DOp
  | .int i, .int j, R => R (.bl (decide (i ≤ j)))
  | _, _, _ => False
def opGt : DOp
  | .int i, .int j, R => R (.bl (decide (j < i)))
  | _, _, _ => False
def opGe : DOp
  | .int i, .int j, R => R (.bl (decide (j ≤ i)))
  | _, _, _ => False
theorem c_lt : CmpOk X .Lt opLt := ⟨_, op_lt, smOp_int0 (f := fun i j => .bl (decide (i < j))) (fun _ _ _ _ => rfl) fun x y R t => by
  cases x <;> cases y <;> first | exact (show False from t).elim | exact ⟨_, _, rfl, rfl, t⟩⟩
theorem c_le : CmpOk X .LtE opLe := ⟨_, op_le, smOp_int0 (f := fun i j => .bl (decide (i ≤ j))) (fun _ _ _ _ => rfl) fun x y R t => by
  cases x <;> cases y <;> first | exact (show False from t).elim | exact ⟨_, _, rfl, rfl, t⟩⟩
theorem c_gt : CmpOk X .Gt opGt := ⟨_, op_gt, smOp_int0 (f := fun i j => .bl (decide (j < i))) (fun _ _ _ _ => rfl) fun x y R t => by
  cases x <;> cases y <;> first | exact (show False from t).elim | exact ⟨_, _, rfl, rfl, t⟩⟩
theorem c_ge : CmpOk X .GtE opGe := ⟨_, op_ge, smOp_int0 (f := fun i j => .bl (decide (j ≤ i))) (fun _ _ _ _ => rfl) fun x y R t => by
  cases x <;> cases y <;> first | exact (show False from t).elim | exact ⟨_, _, rfl, rfl, t⟩⟩
/-- is None -/
def D.isN : D → Bool
  | .non => true
  | _ => false
theorem rep_isN {B : Option Addr} {S : Hp} {d : D} {v : V} (r : Rep B S d v) : decide (v = .non) = d.isN := by
  cases d with
  | non => rw [show v = .non from r]; rfl
  | bl _ => rw [show v = _ from r]; rfl
  | int _ => rw [show v = _ from r]; rfl
  | str _ => rw [show v = _ from r]; rfl
  | ty _ => rw [show v = _ from r]; rfl
  | adr _ => rw [show v = _ from r]; rfl
  | bag => obtain ⟨b, _, e⟩ := r; rw [e]; rfl
  | fn _ _ _ => rw [Rep] at r; obtain ⟨_, _, _, e, _⟩ := r; rw [e]; rfl
  | exc _ _ _ _ _ => rw [Rep] at r; obtain ⟨_, e, _⟩ := r; rw [e]; rfl
  | lst _ => rw [Rep] at r; obtain ⟨_, _, e, _⟩ := r; rw [e]; rfl
  | tup _ => rw [Rep] at r; obtain ⟨_, _, e, _⟩ := r; rw [e]; rfl
  | obj _ _ _ => rw [Rep] at r; obtain ⟨_, _, _, e, _⟩ := r; rw [e]; rfl
  | dct _ _ => rw [Rep] at r; obtain ⟨_, _, e, _⟩ := r; rw [e]; rfl
  | dcT _ _ => rw [Rep] at r; obtain ⟨_, _, e, _⟩ := r; rw [e]; rfl
def opIs : DOp := fun x y R => y.isN = true ∧ R (.bl x.isN)
def opIsNot : DOp := fun x y R => y.isN = true ∧ R (.bl (!x.isN))
theorem isN_eq {B : Option Addr} {S : Hp} {d : D} {v : V} (r : Rep B S d v) (h : d.isN = true) : v = .non := by
  rw [← rep_isN r] at h
  exact of_decide_eq_true h
theorem c_is : CmpOk X .Is opIs := ⟨_, op_isN, fun c σ H S env x y v u R k r1 r2 t Q q => ⟨isN_eq r2 t.1, by
  rw [rep_isN r1]
  exact q _ H S (.bl _) k (Same.refl S) rfl t.2⟩⟩
def D.v : D → V
  | .bl b => .bl b
  | .int i => .int i
  | .str s => .str s
  | _ => .non
theorem d_cmp {op : CmpOp} {dop : DOp} (h : CmpOk X op dop) (ha : DE X E a Ta) (hb : DE X E b Tb) (hm : behindInMarks op b = false) : DE X E (.Compare a [op] [b] pos) (xOp dop Ta Tb) := by
  obtain ⟨r, h1, h2⟩ := h
  obtain ⟨ta, p1, s1⟩ := ha
  obtain ⟨tb, p2, s2⟩ := hb
  exact ⟨_, pe_cmpR h1 p1 p2 hm, sm_op h2 s1 s2⟩
/-- a value's truth that is a bool -/
def asB (R : Bool → Prop) : D → Prop
  | .bl b => R b
  | _ => False
def xTest (T : DT) : DTT := fun env R Rx => T env (asB R) Rx
theorem smT_test {t : TE} {T : DT} (h : Sm E t T) : SmT E (tTest t) (xTest T) := fun c σ H S env R Rx x k t Q q =>
  h c σ H S env _ Rx x k t _ fun v H1 S1 d k1 s1 r1 t1 => by
    cases d <;> try exact (show False from t1).elim
    exact ⟨_, r1, q _ H1 S1 k1 s1 t1⟩
theorem dt_cmp {op : CmpOp} {dop : DOp} (h : CmpOk X op dop) (ha : DE X E a Ta) (hb : DE X E b Tb) (hm : behindInMarks op b = false) : DTe X E (.Compare a [op] [b] pos) (xTest (xOp dop Ta Tb)) := by
  obtain ⟨r, h1, h2⟩ := h
  obtain ⟨ta, p1, s1⟩ := ha
  obtain ⟨tb, p2, s2⟩ := hb
  exact ⟨_, pt_cmpR h1 p1 p2 hm, smT_test (sm_op h2 s1 s2)⟩
def xChain (o o' : DOp) (Ta Tb Tc : DT) : DT := fun env R Rx => Ta env (fun x => Tb env (fun y => o x y (asB fun k => (k = true → Tc env (fun z => o' y z R) Rx) ∧ (k = false → R (.bl false)))) Rx) Rx
theorem sm_chain {r r' : R2} {o o' : DOp} (h : SmOp r o) (h' : SmOp r' o') (ha : Sm E ta Ta) (hb : Sm E tb Tb) (hc : Sm E tc Tc) : Sm E (tChain r r' ta tb tc) (xChain o o' Ta Tb Tc) := fun c σ H S env R Rx x k t Q q =>
  ha c σ H S env _ Rx x k t _ fun v H1 S1 d1 k1 s1 r1 t1 => hb c σ H1 S1 env _ Rx x k1 t1 _ fun u H2 S2 d2 k2 s2 r2 t2 =>
    h c σ H2 S2 env d1 d2 v u _ k2 (rep_mono s2 d1 v r1) r2 t2 _ fun z H3 S3 d3 k3 s3 r3 t3 => by
      cases d3 <;> try exact (show False from t3).elim
      rename_i kk
      refine ⟨kk, r3, ?_⟩
      obtain ⟨q1, q2⟩ := t3
      cases kk with
      | true =>
        refine iteT ?_
        exact hc c σ H3 S3 env _ Rx x k3 (q1 rfl) _ fun w' H4 S4 d4 k4 s4 r4 t4 => h' c σ H4 S4 env d2 d4 u w' R k4 (rep_mono (s3.trans s4) d2 u r2) r4 t4 Q fun z H5 S5 d5 k5 s5 r5 t5 => q z H5 S5 d5 k5 ((((s1.trans s2).trans s3).trans s4).trans s5) r5 t5
      | false =>
        refine iteF ?_
        exact q _ H3 S3 (.bl false) k3 ((s1.trans s2).trans s3) rfl (q2 rfl)
theorem d_chain {op op' : CmpOp} {o o' : DOp} (h : CmpOk X op o) (h' : CmpOk X op' o') (ha : DE X E a Ta) (hb : DE X E b Tb) (hc : DE X E c Tc) (hm : lastMarks [op, op'] [b, c] = false := by with_unfolding_all rfl) :
    DE X E (.Compare a [op, op'] [b, c] pos) (xChain o o' Ta Tb Tc) := by
  obtain ⟨r, h1, h2⟩ := h
  obtain ⟨r', h1', h2'⟩ := h'
  obtain ⟨ta, p1, s1⟩ := ha
  obtain ⟨tb, p2, s2⟩ := hb
  obtain ⟨tc, p3, s3⟩ := hc
  exact ⟨_, pe_chain h1 h1' p1 p2 p3 hm, sm_chain h2 h2' s1 s2 s3⟩
variable {TA TB : DTT} {rest : List Expr}
def xAnd (T U : DTT) : DTT := fun env R Rx => T env (fun b => (b = true → U env R Rx) ∧ (b = false → R false)) Rx
def xOr (T U : DTT) : DTT := fun env R Rx => T env (fun b => (b = true → R true) ∧ (b = false → U env R Rx)) Rx
def xNot (T : DTT) : DTT := fun env R Rx => T env (fun b => R (!b)) Rx
theorem dw_pt {e : Expr} {T : DTT} (h : DWe X E e T) : DTe X E e T := by
  obtain ⟨t, p, s⟩ := h
  exact ⟨t, p.pt, s⟩
theorem dw_or1 (h : DTe X E a TA) : DWe X E (.BoolOp .Or [a] pos) TA := by
  obtain ⟨t, p, s⟩ := h
  exact ⟨t, pw_or1 p, s⟩
theorem dw_or (h : DTe X E a TA) (h2 : DWe X E (.BoolOp .Or (b :: rest) pos) TB) : DWe X E (.BoolOp .Or (a :: b :: rest) pos) (xOr TA TB) := by
  obtain ⟨t, p, s⟩ := h
  obtain ⟨u, p2, s2⟩ := h2
  refine ⟨_, pw_or p p2, fun c σ H S env R Rx x k t Q q => s c σ H S env _ Rx x k t _ fun bb H1 S1 k1 s1 t1 => ?_⟩
  cases bb with
  | true => exact iteT (q true H1 S1 k1 s1 (t1.1 rfl))
  | false => exact iteF (s2 c σ H1 S1 env R Rx x k1 (t1.2 rfl) Q fun b H2 S2 k2 s3 r => q b H2 S2 k2 (s1.trans s3) r)
theorem dt_not (h : DTe X E a TA) : DTe X E (.UnaryOp .Not a pos) (xNot TA) := by
  obtain ⟨t, p, s⟩ := h
  exact ⟨_, pt_not p, fun c σ H S env R Rx x k t Q q => s c σ H S env _ Rx x k t _ fun bb H1 S1 k1 s1 t1 => q _ H1 S1 k1 s1 t1⟩
/-- as values -/
def xAndV (Ta Tb : DT) : DT := fun env R Rx => Ta env (asB fun b => (b = true → Tb env R Rx) ∧ (b = false → R (.bl false))) Rx
def xOrV (Ta Tb : DT) : DT := fun env R Rx => Ta env (asB fun b => (b = true → R (.bl true)) ∧ (b = false → Tb env R Rx)) Rx
def xNotV (Ta : DT) : DT := fun env R Rx => Ta env (asB fun b => R (.bl (!b))) Rx
theorem d_one {op : BoolOp} (h : DE X E a Ta) : DE X E (.BoolOp op [a] pos) Ta := by
  obtain ⟨t, p, s⟩ := h
  exact ⟨t, pe_one p, s⟩
theorem d_and (h : DE X E a Ta) (h2 : DE X E (.BoolOp .And (b :: rest) pos) Tb) : DE X E (.BoolOp .And (a :: b :: rest) pos) (xAndV Ta Tb) := by
  obtain ⟨t, p, s⟩ := h
  obtain ⟨u, p2, s2⟩ := h2
  refine ⟨_, pe_and p p2, fun c σ H S env R Rx x k t Q q => s c σ H S env _ Rx x k t _ fun v H1 S1 d k1 s1 r1 t1 => ?_⟩
  cases d <;> try exact (show False from t1).elim
  rename_i bb
  refine ⟨bb, r1, ?_⟩
  have t1 : (bb = true → Tb env R Rx) ∧ (bb = false → R (.bl false)) := t1
  cases bb with
  | true => exact iteT (s2 c σ H1 S1 env R Rx x k1 (t1.1 rfl) Q fun b H2 S2 d2 k2 s3 r => q b H2 S2 d2 k2 (s1.trans s3) r)
  | false => exact iteF (q _ H1 S1 (.bl false) k1 s1 rfl (t1.2 rfl))
theorem d_not (h : DE X E a Ta) : DE X E (.UnaryOp .Not a pos) (xNotV Ta) := by
  obtain ⟨t, p, s⟩ := h
  refine ⟨_, pe_not p, fun c σ H S env R Rx x k t Q q => s c σ H S env _ Rx x k t _ fun v H1 S1 d k1 s1 r1 t1 => ?_⟩
  cases d <;> try exact (show False from t1).elim
  exact ⟨_, r1, q _ H1 S1 (.bl _) k1 s1 rfl t1⟩
def xIf (T : DTT) (Ta Tb : DT) : DT := fun env R Rx => T env (fun b => (b = true → Ta env R Rx) ∧ (b = false → Tb env R Rx)) Rx
/-- truth of a value of any kind -/
def D.tru : D → Option Bool
  | .non => some false
  | .bl b => some b
  | .int i => some (i != 0)
  | .str s => if s.length ≤ sizeLine then some ((s.length : Int) != 0) else none
  | .lst xs => some (!xs.isEmpty)
  | .tup xs => some (!xs.isEmpty)
  | _ => none
def xTru (Ta : DT) : DTT := fun env R Rx => Ta env (fun x => ∃ b, x.tru = some b ∧ R b) Rx
theorem dt_tru (h : DE X E a Ta) (he : ∀ whole, isTrue a X.env whole = (do let v ← whole; standAt a.pos; holding [v] (truthy v)) := by intro _; rfl) : DTe X E a (xTru Ta) := by
  obtain ⟨t, p, s⟩ := h
  refine ⟨_, pt_truth p he, fun c σ H S env R Rx x k t Q q => s c σ H S env _ Rx x k t _ fun v H1 S1 d k1 s1 r1 t1 => ?_⟩
  obtain ⟨bb, e, t1⟩ := t1
  refine ⟨bb, ?_, q bb H1 S1 k1 s1 t1⟩
  cases d with
  | non => rw [show v = .non from r1]; cases e; rfl
  | bl _ => rw [show v = _ from r1]; cases e; rfl
  | int _ => rw [show v = _ from r1]; cases e; rfl
  | str z =>
    rw [show v = _ from r1]
    have e : (if z.length ≤ sizeLine then some ((z.length : Int) != 0) else none) = some bb := e
    by_cases hz : z.length ≤ sizeLine
    · rw [if_pos hz] at e
      cases e
      exact ⟨hz, rfl⟩
    · rw [if_neg hz] at e
      cases e
  | lst xs =>
    obtain ⟨a, vs, e1, h1, _, l1⟩ := lst_of k1 r1
    subst e1
    cases e
    refine .inl ⟨vs, SqL.of h1, ?_⟩
    have := l1.length
    cases xs <;> cases vs <;> simp_all
  | tup xs =>
    obtain ⟨a, vs, e1, h1, _, l1⟩ := tup_of k1 r1
    subst e1
    cases e
    refine .inr (.inl ⟨vs, SqT.of h1, ?_⟩)
    have := l1.length
    cases xs <;> cases vs <;> simp_all
  | _ => cases e
variable {es : List Expr} {Tl : DTA}
def xNil : DTA := fun _ R _ => R []
def xCons (Ta : DT) (Tl : DTA) : DTA := fun env R Rx => Ta env (fun x => Tl env (fun xs => R (x :: xs)) Rx) Rx
theorem da_nil : DA X E [] xNil := ⟨_, pa_nil, fun c σ H S env R Rx x k t Q q => q [] H S [] k (Same.refl S) repL_nil t⟩
theorem smA_cons {t : L2.TA} (ha : Sm E ta Ta) (hl : SmA E t Tl) : SmA E (tCons ta t) (xCons Ta Tl) := fun c σ H S env R Rx x k t Q q =>
  ha c σ H S env _ Rx x k t _ fun v H1 S1 d k1 s1 r1 t1 => hl c σ H1 S1 env _ Rx x k1 t1 _ fun vs H2 S2 ds k2 s2 r2 t2 => q _ H2 S2 _ k2 (s1.trans s2) (repL_cons (rep_mono s2 d v r1) r2) t2
theorem da_cons (ha : DE X E a Ta) (hl : DA X E es Tl) (hs : starEach (a :: es) X.env = (false, eval a X.env) :: starEach es X.env := by rfl) : DA X E (a :: es) (xCons Ta Tl) := by
  obtain ⟨ta, p, s⟩ := ha
  obtain ⟨t, p2, s2⟩ := hl
  exact ⟨_, pa_cons p p2 hs, smA_cons s s2⟩
def xLst (Tl : DTA) : DT := fun env R Rx => Tl env (fun xs => xs.length ≤ sizeLine ∧ R (.lst xs)) Rx
def xTup (Tl : DTA) : DT := fun env R Rx => Tl env (fun xs => xs.length ≤ sizeLine ∧ R (.tup xs)) Rx
theorem sm_tup {t : L2.TA} (h : SmA E t Tl) : Sm E (tTup t) (xTup Tl) := fun c σ H S env R Rx x k t Q q =>
  h c σ H S env _ Rx x k t _ fun vs H1 S1 ds k1 s1 r1 t1 => ⟨by rw [r1.length]; exact t1.1, fun p hp => by
    obtain ⟨k', s', r'⟩ := put_tup k1 r1 hp
    exact q _ _ _ _ k' (s1.trans s') r' t1.2⟩
theorem d_tup {x1} (h : DA X E es Tl) : DE X E (.Tuple es x1 pos) (xTup Tl) := by
  obtain ⟨t, p, s⟩ := h
  exact ⟨_, pe_tup p, sm_tup s⟩
def opIx : DOp
  | .lst xs, .int i, R => ∃ d, atI xs i = some d ∧ R d
  | .tup xs, .int i, R => ∃ d, atI xs i = some d ∧ R d
  | .str s, .int i, R => s.length ≤ sizeLine ∧ ∃ c, atI s.cps.toList i = some c ∧ R (.str ⟨#[c]⟩)
  | _, _, _ => False
theorem atI_rep {B : Option Addr} {S : Hp} {xs : List D} {vs : List V} {i : Int} {d : D} (l : RepL B S xs vs) (h : atI xs i = some d) : ∃ v, atI vs i = some v ∧ Rep B S d v := by
  unfold atI at h ⊢
  rw [l.length]
  cases e : ixN xs.length i with
  | none => rw [e] at h; cases h
  | some j =>
    rw [e] at h
    exact l.get h
theorem smOp_ix {K : PySem.W.Frag} : SmOp (rIx K) opIx := by
  intro c σ H S env x y v u R k r1 r2 t Q q
  cases x <;> cases y <;> try exact (show False from t).elim
  · obtain ⟨hz, ch, e, t⟩ := t
    exact .inr (.inr ⟨_, _, ch, r1, r2, hz, e, q _ H S (.str _) k (Same.refl S) rfl t⟩)
  · obtain ⟨d, e, t⟩ := t
    obtain ⟨a, vs, e1, h1, _, l1⟩ := lst_of k r1
    obtain ⟨w', e2, r3⟩ := atI_rep l1 e
    exact .inl ⟨a, vs, _, w', e1, r2, SqL.of h1, e2, q _ H S d k (Same.refl S) r3 t⟩
  · obtain ⟨d, e, t⟩ := t
    obtain ⟨a, vs, e1, h1, _, l1⟩ := tup_of k r1
    obtain ⟨w', e2, r3⟩ := atI_rep l1 e
    exact .inr (.inl ⟨a, vs, _, w', e1, r2, SqT.of h1, e2, q _ H S d k (Same.refl S) r3 t⟩)
theorem d_ix (ha : DE X E a Ta) (hb : DE X E b Tb) (hs : PlainIx b := by exact fun _ _ => rfl) : DE X E (.Subscript a b pos) (xOp opIx Ta Tb) := by
  obtain ⟨ta, p1, s1⟩ := ha
  obtain ⟨tb, p2, s2⟩ := hb
  exact ⟨_, pe_ix ix_seq p1 p2 hs, sm_op smOp_ix s1 s2⟩
/-- xs[e], xs a list of the frame's own in slot i -/
def xIxO (i : Nat) (Tb : DT) : DT := fun env R Rx => ∃ xs, env[i]? = some (some (.own xs)) ∧ Tb env (fun y => match y with
  | .int j => ∃ d, atI xs j = some d ∧ R d
  | _ => False) Rx
theorem own_of {c : Fm} {σ : St} {H S : Hp} {env : En} {i : Nat} {xs : List D} (k : Kn c σ H S env) (e : env[i]? = some (some (.own xs))) : ∃ p vs, σ[i]? = some (some (.ref p)) ∧ S p = none ∧ c.H0 p = none ∧ H p = some (.lst vs) ∧ RepL c.B S xs vs := by
  obtain ⟨v, e1, p, vs, rfl, h⟩ := k.sl i _ e
  exact ⟨p, vs, e1, h⟩
abbrev DTO := En → (Option Int → Prop) → (Er → Prop) → Prop
def SmO (E : XK) (t : TO) (T : DTO) : Prop := ∀ (c : Fm) (σ : St) (H S : Hp) (env : En) (R : Option Int → Prop) (Rx : Er → Prop), XOk c E Rx → Kn c σ H S env → T env R Rx →
  ∀ Q : Option Int → Hp → Prop, (∀ o H' S', Kn c σ H' S' env → Same S S' → R o → Q o H') → t σ H Q
def DO (X : Cx) (E : XK) (e : Option Expr) (T : DTO) : Prop := ∃ t, PO X e t ∧ SmO E t T
def xNoPart : DTO := fun _ R _ => R none
def asI (R : Int → Prop) : D → Prop
  | .int i => R i
  | _ => False
def xPart (Ta : DT) : DTO := fun env R Rx => Ta env (asI fun i => R (some i)) Rx
theorem do_none : DO X E none xNoPart := ⟨_, po_none, fun c σ H S env R Rx x k t Q q => q none H S k (Same.refl S) t⟩
theorem do_some (h : DE X E a Ta) : DO X E (some a) (xPart Ta) := by
  obtain ⟨t, p, s⟩ := h
  refine ⟨_, po_some p, fun c σ H S env R Rx x k t Q q => s c σ H S env _ Rx x k t _ fun v H1 S1 d k1 s1 r1 t1 => ?_⟩
  cases d <;> try exact (show False from t1).elim
  exact ⟨_, r1, q _ H1 S1 k1 s1 t1⟩
def cutD (xs : List D) (lo hi : Option Int) : List D := (xs.drop (HT.sIx xs.length 0 lo)).take (HT.sIx xs.length xs.length hi - HT.sIx xs.length 0 lo)
theorem cut_rep {B : Option Addr} {S : Hp} {xs : List D} {vs : List V} {lo hi : Option Int} (l : RepL B S xs vs) : RepL B S (cutD xs lo hi) (cutV vs lo hi) := by
  unfold cutD cutV
  rw [l.length]
  exact (l.drop _).take _
def opSl (x : D) (lo hi : Option Int) (R : D → Prop) : Prop := match x with
  | .lst xs => R (.lst (cutD xs lo hi))
  | .tup xs => R (.tup (cutD xs lo hi))
  | .str z => z.length ≤ sizeLine ∧ R (.str (cutS z lo hi))
  | _ => False
def xSl (Ta : DT) (Tl Th : DTO) : DT := fun env R Rx => Ta env (fun x => Tl env (fun lo => Th env (fun hi => opSl x lo hi R) Rx) Rx) Rx
theorem cutD_all {xs : List D} {lo hi : Option Int} (h : HT.sIx xs.length 0 lo = 0 ∧ HT.sIx xs.length xs.length hi = xs.length) : cutD xs lo hi = xs := by
  unfold cutD
  rw [h.1, h.2]
  simp
theorem d_slice {lo hi : Option Expr} {Tl Th : DTO} {p2 : Pos} (ha : DE X E a Ta) (hl : DO X E lo Tl) (hh : DO X E hi Th) : DE X E (.Subscript a (.Slice lo hi none p2) pos) (xSl Ta Tl Th) := by
  obtain ⟨ta, pa, sa⟩ := ha
  obtain ⟨tl, pl, sl⟩ := hl
  obtain ⟨th, ph, sh⟩ := hh
  refine ⟨_, pe_slice (sl_list.or (sl_tupA.or sl_str)) pa pl ph, fun c σ H S env R Rx x k t Q q => sa c σ H S env _ Rx x k t _ fun v H1 S1 d k1 s1 r1 t1 => ?_⟩
  refine sl c σ H1 S1 env _ Rx x k1 t1 _ fun lo H2 S2 k2 s2 t2 => sh c σ H2 S2 env _ Rx x k2 t2 _ fun hi H3 S3 k3 s3 t3 => ?_
  have r3 := rep_mono (s2.trans s3) d v r1
  have ss := (s1.trans s2).trans s3
  cases d <;> try exact (show False from t3).elim
  · exact .inr (.inr ⟨_, r3, t3.1, q _ H3 S3 (.str _) k3 ss rfl t3.2⟩)
  · obtain ⟨a, vs, e1, h1, _, l1⟩ := lst_of k3 r3
    refine .inl ⟨a, vs, e1, SqL.of h1, fun p hp => ?_⟩
    obtain ⟨k', s', r'⟩ := put_lst k3 (cut_rep l1) hp
    exact q _ _ _ _ k' (ss.trans s') r' t3
  · obtain ⟨a, vs, e1, h1, hS, l1⟩ := tup_of k3 r3
    refine .inr (.inl ⟨a, vs, e1, SqT.of h1, fun hw => ?_, fun _ p hp => ?_⟩)
    · rw [l1.length] at hw
      have t4 : R (.tup (cutD _ lo hi)) := t3
      rw [cutD_all hw] at t4
      exact q _ H3 S3 (.tup _) k3 ss ⟨a, vs, rfl, hS, l1⟩ t4
    · obtain ⟨k', s', r'⟩ := put_tup k3 (cut_rep l1) hp
      exact q _ _ _ _ k' (ss.trans s') r' t3
end
end DL
namespace DL
open PySem PySem.Spec L2
variable [TbC]
section
variable {c : Fm} {σ : St} {H H' S S' : Hp} {env : En} {i : Nat} {d : D} {v : V} {p : Addr} {vs : List V} {ds xs : List D}
/-- p is nothing of the frame's own -/
def Free (σ : St) (env : En) (p : Addr) : Prop := ∀ (j : Nat) (x : DV) (v : V), env[j]? = some (some x) → σ[j]? = some (some v) → ¬ Foot x v p
theorem get_set {env : En} {i j : Nat} {o : Option DV} {x : DV} (e : (env.set i o)[j]? = some (some x)) : (i = j ∧ o = some x ∧ i < env.length) ∨ (i ≠ j ∧ env[j]? = some (some x)) := by
  by_cases z : i = j
  · subst z
    rw [List.getElem?_set] at e
    simp only [if_true] at e
    split at e
    · rename_i hi
      exact .inl ⟨rfl, Option.some.inj e, hi⟩
    · cases e
  · rw [List.getElem?_set_ne z] at e
    exact .inr ⟨z, e⟩
theorem Free.set (f : Free σ env p) {o : Option DV} (h : ∀ x v, o = some x → σ[i]? = some (some v) → ¬ Foot x v p) : Free σ (env.set i o) p := fun j x v e e2 => by
  rcases get_set e with ⟨rfl, q, _⟩ | ⟨_, e⟩
  · exact h x v q e2
  · exact f j x v e e2
theorem Free.clear (f : Free σ env p) : Free σ (env.set i none) p := f.set fun _ _ q => nomatch q
theorem Kn.put (k : Kn c σ H S env) {x : DV} (r : DvR c S H x v) (f : ∀ a, Foot x v a → Free σ (env.set i none) a) : Kn c (σ.set i (some v)) H S (env.set i (some x)) := by
  refine ⟨k.kf, by rw [List.length_set, List.length_set]; exact k.len, fun j y e => ?_, fun m n y z u w a hmn e1 e2 e3 e4 f1 f2 => ?_⟩
  · rcases get_set e with ⟨rfl, q, hi⟩ | ⟨z, e⟩
    · cases q
      have hi2 : i < σ.length := by rw [← k.len]; exact hi
      exact ⟨v, by rw [List.getElem?_set]; simp [hi2], r⟩
    · rw [List.getElem?_set_ne z]
      exact k.sl j y e
  · have at_i : ∀ {o : V}, (σ.set i (some v))[i]? = some (some o) → o = v := fun {o} q => by
      rw [List.getElem?_set] at q
      simp only [if_true] at q
      split at q <;> cases q
      rfl
    rcases get_set e1 with ⟨rfl, q, _⟩ | ⟨z1, e1⟩
    · cases q
      obtain rfl := at_i e3
      rw [List.getElem?_set_ne hmn] at e4
      exact f a f1 n z w (by rw [List.getElem?_set_ne hmn] at e2 ⊢; exact e2) e4 f2
    · rw [List.getElem?_set_ne z1] at e3
      rcases get_set e2 with ⟨rfl, q, _⟩ | ⟨z2, e2⟩
      · cases q
        obtain rfl := at_i e4
        exact f a f2 m y u (by rw [List.getElem?_set_ne z1]; exact e1) e3 f1
      · rw [List.getElem?_set_ne z2] at e4
        exact k.apart m n y z u w a hmn e1 e2 e3 e4 f1 f2
theorem Kn.set (k : Kn c σ H S env) (r : Rep c.B S d v) : Kn c (σ.set i (some v)) H S (env.set i (some (.val d))) := k.put (x := .val d) r fun _ f => f.elim
theorem Kn.free (k : Kn c σ H S env) (h : H p = none) : Free σ env p := fun j x v e e2 f => by
  obtain ⟨u, e1, r⟩ := k.sl j _ e
  rw [e1] at e2
  cases e2
  exact (r.foot p f).2.2.1 h
theorem Kn.setOwn (k : Kn c σ H S env) (h1 : S p = none) (h2 : c.H0 p = none) (h3 : H p = some (.lst vs)) (l : RepL c.B S ds vs) (f : Free σ env p) : Kn c (σ.set i (some (.ref p))) H S (env.set i (some (.own ds))) :=
  k.put (x := .own ds) ⟨p, vs, rfl, h1, h2, h3, l⟩ fun a e => by
    cases e
    exact f.clear
theorem set_id {α : Type} : ∀ {l : List α} {i : Nat} {x : α}, l[i]? = some x → l.set i x = l
  | [], _, _, e => by simp at e
  | a :: l, 0, x, e => by simp at e; subst e; rfl
  | a :: l, i + 1, x, e => by
    rw [List.set_cons_succ, set_id (by simpa using e)]
/-- what a name holds is forgotten -/
theorem Kn.clear (k : Kn c σ H S env) : Kn c σ H S (env.set i none) :=
  ⟨k.kf, by rw [List.length_set]; exact k.len, fun j x ej => by
    rcases get_set ej with ⟨_, q, _⟩ | ⟨_, ej⟩
    · cases q
    · exact k.sl j x ej, fun m n y z u w a hmn e1 e2 e3 e4 => by
    rcases get_set e1 with ⟨_, q, _⟩ | ⟨_, e1⟩
    · cases q
    rcases get_set e2 with ⟨_, q, _⟩ | ⟨_, e2⟩
    · cases q
    exact k.apart m n y z u w a hmn e1 e2 e3 e4⟩
/-- what a name holds for itself is nothing of the other names' -/
theorem Kn.mine (k : Kn c σ H S env) {x : DV} (e : env[i]? = some (some x)) (e1 : σ[i]? = some (some v)) {a : Addr} (f : Foot x v a) : Free σ (env.set i none) a := fun j y u ej e4 f2 => by
  rcases get_set ej with ⟨_, q, _⟩ | ⟨z, ej⟩
  · cases q
  · exact k.apart i j x y v u a z e ej e1 e4 f f2
theorem Kf.updFF {o0 o : HO} (k : Kf c H S) (h1 : S p = none) (h2 : c.H0 p = none) (h3 : H p = some o0) (h4 : (∀ ps, o0 ≠ .tbl ps) ∧ ¬ Fx o0) : Kf c (upd H p o) S := by
  have nb : c.B ≠ some p := fun z => (k.bag p z).2 h2
  refine ⟨fun a u ea => ?_, k.s0, fun a u ea nea => ?_, k.new, fun b eb => ?_, ⟨k.tab.1.updHF (fun v e => by rw [h3] at e; cases e; exact h4) fun _ _ e => e, k.tab.2⟩⟩
  · rw [upd_ne (ne_of_none ea h1)]
    exact k.sub a u ea
  · rw [upd_ne (ne_of_none ea h2)]
    exact k.old a u ea nea
  · obtain ⟨⟨b1, cs, i, g, st, n, b2, b3⟩, b4⟩ := k.bag b eb
    refine ⟨⟨b1, cs, i, g, st, n, ?_, b3⟩, b4⟩
    rw [upd_ne (fun z => nb (by rw [← z]; exact eb))]
    exact b2
/-- a thing that no name holds changes -/
theorem Kn.updFF {o0 o : HO} (k : Kn c σ H S env) (h1 : S p = none) (h2 : c.H0 p = none) (h3 : H p = some o0) (h4 : (∀ ps, o0 ≠ .tbl ps) ∧ ¬ Fx o0) (f : Free σ env p) : Kn c σ (upd H p o) S env := by
  refine ⟨k.kf.updFF h1 h2 h3 h4, k.len, fun j x ej => ?_, k.apart⟩
  obtain ⟨v, ev, r⟩ := k.sl j x ej
  refine ⟨v, ev, r.keep rfl (Same.refl S) fun a fa => ?_⟩
  obtain ⟨f1, f2, _⟩ := r.foot a fa
  refine ⟨f1, f2, fun u e => ?_⟩
  rw [upd_ne (fun z => f j x v ej ev (by rw [← z]; exact fa))]
  exact e
theorem Kf.updF {o0 o : HO} (k : Kf c H S) (h1 : S p = none) (h2 : c.H0 p = none) (h3 : H p = some o0) (h4 : (∀ ps, o0 ≠ .tbl ps) ∧ ∀ φ, o0 ≠ .ext φ) : Kf c (upd H p o) S := k.updFF h1 h2 h3 ⟨h4.1, fx_not h4.2⟩
theorem Kn.updF {o0 o : HO} (k : Kn c σ H S env) (h1 : S p = none) (h2 : c.H0 p = none) (h3 : H p = some o0) (h4 : (∀ ps, o0 ≠ .tbl ps) ∧ ∀ φ, o0 ≠ .ext φ) (f : Free σ env p) : Kn c σ (upd H p o) S env := k.updFF h1 h2 h3 ⟨h4.1, fx_not h4.2⟩ f
/-- a list of the frame's own changes -/
theorem Kn.change (k : Kn c σ H S env) (e : env[i]? = some (some (.own xs))) (e1 : σ[i]? = some (some (.ref p))) (l : RepL c.B S ds vs) : Kn c σ (upd H p (.lst vs)) S (env.set i (some (.own ds))) := by
  obtain ⟨v, e2, q, ws, rfl, h1, h2, h3, _⟩ := k.sl i _ e
  rw [e1] at e2
  cases e2
  have f : Free σ (env.set i none) p := k.mine e e1 rfl
  have k3 := ((k.clear (i := i)).updF (o := .lst vs) h1 h2 h3 lst_ne f).setOwn (i := i) h1 h2 upd_same l f
  rw [List.set_set, set_id e1] at k3
  exact k3
/-- .. stays as it is from now on -/
theorem Kn.freeze (k : Kn c σ H S env) (h1 : S p = none) (h2 : c.H0 p = none) (h3 : H p = some (.lst vs)) (l : RepL c.B S ds vs) (f : Free σ env p) :
    Kn c σ H (upd S p (.lst vs)) env ∧ Same S (upd S p (.lst vs)) ∧ Rep c.B (upd S p (.lst vs)) (.lst ds) (.ref p) := by
  have s : Same S (upd S p (.lst vs)) := same_upd h1
  refine ⟨⟨⟨fun a o e => ?_, k.kf.s0.trans s, k.kf.old, fun a e n => ?_, fun b eb => ?_, ⟨k.kf.tab.1.frz h3, k.kf.tab.2⟩⟩, k.len, fun j x e => ?_, k.apart⟩, s, p, vs, rfl, upd_same, repL_mono s ds vs l⟩
  · by_cases z : a = p
    · subst z
      rw [upd_same] at e
      rw [h3]
      exact e
    · rw [upd_ne z] at e
      exact k.kf.sub a o e
  · rw [upd_ne (fun z => n.1 (by rw [z]; exact h2))]
    exact k.kf.new a e n
  · obtain ⟨⟨b1, cs, i, g, st, n, b2, b3, b4⟩, b5⟩ := k.kf.bag b eb
    refine ⟨⟨?_, cs, i, g, st, n, b2, s _ _ b3, b4⟩, b5⟩
    rw [upd_ne (fun z => b5 (by rw [z]; exact h2))]
    exact b1
  · obtain ⟨v, ev, r⟩ := k.sl j x e
    refine ⟨v, ev, r.keep rfl s fun a fa => ?_⟩
    obtain ⟨f1, f2, _⟩ := r.foot a fa
    refine ⟨?_, f2, fun _ e => e⟩
    rw [upd_ne (fun z => f j x v e ev (by rw [← z]; exact fa))]
    exact f1
theorem Kn.frz (k : Kn c σ H S env) (e : env[i]? = some (some (.own xs))) : ∃ S', Kn c σ H S' (env.set i (some (.val (.lst xs)))) ∧ Same S S' := by
  obtain ⟨v, e2, p, vs, rfl, h1, h2, h3, l⟩ := k.sl i _ e
  have f : Free σ (env.set i none) p := k.mine e e2 rfl
  obtain ⟨k2, s2, r2⟩ := (k.clear (i := i)).freeze h1 h2 h3 l f
  have k3 := k2.set (i := i) r2
  rw [List.set_set, set_id e2] at k3
  exact ⟨_, k3, s2⟩
end
abbrev DTF := En → (List D → Prop) → (Er → Prop) → Prop
def SmF (E : XK) (t : TE) (T : DTF) : Prop := ∀ (c : Fm) (σ : St) (H S : Hp) (env : En) (R : List D → Prop) (Rx : Er → Prop), XOk c E Rx → Kn c σ H S env → T env R Rx →
  ∀ Q : VK, (∀ p vs H' S' ds, Kn c σ H' S' env → Same S S' → c.H0 p = none → Free σ env p → S' p = none → H' p = some (.lst vs) → RepL c.B S' ds vs → R ds → Q (.ref p) H') → t σ H Q
def DF (X : Cx) (E : XK) (e : Expr) (T : DTF) : Prop := ∃ t, PE X e t ∧ SmF E t T
def xF (T : DTF) : DT := fun env R Rx => T env (fun xs => R (.lst xs)) Rx
section
variable {X : Cx} {E : XK} {pos : Pos} {a b e : Expr} {Ta Tb : DT} {Tl : DTA} {T : DTF} {es : List Expr}
theorem d_ofF (h : DF X E a T) : DE X E a (xF T) := by
  obtain ⟨t, p, s⟩ := h
  refine ⟨t, p, fun c σ H S env R Rx x k t Q q => s c σ H S env _ Rx x k t Q fun p vs H1 S1 ds k1 s1 n0 f n2 e1 l1 r1 => ?_⟩
  obtain ⟨k2, s2, r2⟩ := k1.freeze n2 n0 e1 l1 f
  exact q _ H1 _ _ k2 (s1.trans s2) r2 r1
end
abbrev DFn := List D → (D → Prop) → Prop
def SmC (r : List V → Hp → VK → Prop) (F : DFn) : Prop := ∀ (c : Fm) (σ : St) (H S : Hp) (env : En) (xs : List D) (vs : List V) (R : D → Prop), Kn c σ H S env → RepL c.B S xs vs → F xs R →
  ∀ Q : VK, (∀ z H' S' d, Kn c σ H' S' env → Same S S' → Rep c.B S' d z → R d → Q z H') → r vs H Q
def CallOk (X : Cx) (f : Value) (F : DFn) : Prop := ∃ r, CallR X f r ∧ SmC r F
def xCB (F : DFn) (Tl : DTA) : DT := fun env R Rx => Tl env (fun xs => F xs R) Rx
section
variable {X : Cx} {E : XK} {p pos : Pos} {x : Str} {id ty : String} {a b e : Expr} {Ta Tb : DT} {Tl : DTA} {es : List Expr} {F : DFn}
theorem sm_cb {r : List V → Hp → VK → Prop} {t : L2.TA} (h : SmC r F) (hl : SmA E t Tl) : Sm E (tCB r t) (xCB F Tl) := fun c σ H S env R Rx x k t Q q =>
  hl c σ H S env _ Rx x k t _ fun vs H1 S1 ds k1 s1 r1 t1 => h c σ H1 S1 env ds vs R k1 r1 t1 Q fun z H2 S2 d k2 s2 r2 t2 => q z H2 S2 d k2 (s1.trans s2) r2 t2
theorem d_callB (h : CallOk X (.builtin id) F) (hm : X.mg x = none) (hv : bootBuiltins x = some (.builtin id)) (ha : DA X E (e :: es) Tl) (hg : Gl X x := by rfl) (hn : x ≠ "__name__" := by decide) (hdb : (x == ("__debug__" : Str)) = false := by decide)
    (he : starEach (e :: es) X.env = (false, eval e X.env) :: starEach es X.env := by rfl) (hpl : (backTo pos (starEach es X.env)).any (·.1) = false := by rfl) : DE X E (.Call (.Name x p) (e :: es) [] pos) (xCB F Tl) := by
  obtain ⟨r, h1, h2⟩ := h
  obtain ⟨t, pa, sa⟩ := ha
  exact ⟨_, pe_callB h1 hg hm hv pa hn hdb he hpl, sm_cb h2 sa⟩
theorem d_callT (h : CallOk X (.type ty) F) (hm : X.mg x = none) (hv : bootBuiltins x = some (.type ty)) (ha : DA X E (e :: es) Tl) (hg : Gl X x := by rfl) (hn : x ≠ "__name__" := by decide) (hdb : (x == ("__debug__" : Str)) = false := by decide)
    (he : starEach (e :: es) X.env = (false, eval e X.env) :: starEach es X.env := by rfl) (hpl : (backTo pos (starEach es X.env)).any (·.1) = false := by rfl) : DE X E (.Call (.Name x p) (e :: es) [] pos) (xCB F Tl) := by
  obtain ⟨r, h1, h2⟩ := h
  obtain ⟨t, pa, sa⟩ := ha
  exact ⟨_, pe_callTy h1 hg hm hv pa hn hdb he hpl, sm_cb h2 sa⟩
/-- a built-in type as a value -/
theorem d_bty (hm : X.mg x = none) (hv : bootBuiltins x = some (.type ty)) (hg : Gl X x := by rfl) (hn : x ≠ "__name__" := by decide) (hdb : (x == ("__debug__" : Str)) = false := by decide) : DE X E (.Name x pos) (xC (.ty ty)) :=
  ⟨_, pe_bltn (v := .ty ty) hg hm hv rfl hn hdb, sm_c fun _ _ => rfl⟩
/-- a class, a def of the module as a value -/
theorem d_gadr {f : Addr} (hm : X.mg x = some (.ref f)) (hg : Gl X x := by rfl) (hd : (x == ("__debug__" : Str)) = false := by decide) : DE X E (.Name x pos) (xC (.adr f)) :=
  ⟨_, pe_glob (v := .ref f) hg hm rfl hd, sm_c fun _ _ => rfl⟩
theorem rep1 {B : Option Addr} {S : Hp} {d : D} {vs : List V} (r : RepL B S [d] vs) : ∃ v, vs = [v] ∧ Rep B S d v := by
  obtain ⟨v, ws, e, r1, t⟩ := repL_cons_of r
  rw [repL_nil_of t] at e
  exact ⟨v, e, r1⟩
theorem rep2 {B : Option Addr} {S : Hp} {d d' : D} {vs : List V} (r : RepL B S [d, d'] vs) : ∃ v v', vs = [v, v'] ∧ Rep B S d v ∧ Rep B S d' v' := by
  obtain ⟨v, ws, e, r1, t⟩ := repL_cons_of r
  obtain ⟨v', ws', e', r2, t2⟩ := repL_cons_of t
  rw [repL_nil_of t2] at e'
  rw [e'] at e
  exact ⟨v, v', e, r1, r2⟩
/-- len -/
def fLen : DFn
  | [.str s], R => s.length ≤ sizeLine ∧ R (.int s.length)
  | [.lst xs], R => R (.int xs.length)
  | [.tup xs], R => R (.int xs.length)
  | _, _ => False
theorem b_len : CallOk X (.builtin "len") fLen := by
  refine ⟨_, call_len, fun c σ H S env xs vs R k r t Q q => ?_⟩
  unfold fLen at t
  split at t <;> try exact t.elim
  · obtain ⟨v, rfl, r1⟩ := rep1 r
    exact ⟨v, _, rfl, by rw [show v = _ from r1]; exact ⟨t.1, rfl⟩, q _ H S (.int _) k (Same.refl S) rfl t.2⟩
  · obtain ⟨v, rfl, r1⟩ := rep1 r
    obtain ⟨a, vs, rfl, h1, _, l1⟩ := lst_of k r1
    exact ⟨_, _, rfl, .inl ⟨vs, SqL.of h1, rfl⟩, q _ H S (.int _) k (Same.refl S) (by rw [l1.length]; rfl) t⟩
  · obtain ⟨v, rfl, r1⟩ := rep1 r
    obtain ⟨a, vs, rfl, h1, _, l1⟩ := tup_of k r1
    exact ⟨_, _, rfl, .inr ⟨vs, SqT.of h1, rfl⟩, q _ H S (.int _) k (Same.refl S) (by rw [l1.length]; rfl) t⟩
/-- len(xs), xs of the frame's own -/
def xLenO (i : Nat) : DT := fun env R _ => ∃ xs, env[i]? = some (some (.own xs)) ∧ R (.int (xs.length : Nat))
/-- isinstance against built-in types -/
def D.isi : D → String → Option Bool
  | .non, n => some (n == "NoneType")
  | .bl _, n => some (n == "bool" || n == "int")
  | .int _, n => some (n == "int")
  | .str _, n => some (n == "str")
  | .lst _, n => some (n == "list")
  | .tup _, n => some (n == "tuple")
  | _, _ => none
def tys : List String := ["int", "bool", "str", "list", "tuple"]
def fIsi : DFn
  | [x, .ty n], R => n ∈ tys ∧ ∃ b, x.isi n = some b ∧ R (.bl b)
  | [x, .tup [.ty n, .ty m]], R => n ∈ tys ∧ m ∈ tys ∧ ∃ b b', x.isi n = some b ∧ x.isi m = some b' ∧ R (.bl (b || b'))
  | _, _ => False
theorem isi_ok {c : Fm} {σ : St} {H S : Hp} {env : En} {K : PySem.W.Frag} {d : D} {v : V} (k : Kn c σ H S env) (r : Rep c.B S d v) : (∀ n, d.isi n = none) ∨ ∃ t, TyX K H v t ∧ ∀ n ∈ tys, ∃ b, d.isi n = some b ∧ PySem.W.kitOne K t (.type n) = some b := by
  cases d with
  | non => exact .inr ⟨_, by rw [show v = _ from r]; exact .base .non, by intro n hn; simp only [tys, List.mem_cons, List.not_mem_nil, or_false] at hn; rcases hn with rfl | rfl | rfl | rfl | rfl <;> exact ⟨_, rfl, kit_ty (by decide +kernel)⟩⟩
  | bl b => exact .inr ⟨_, by rw [show v = _ from r]; exact .base (.bl b), by intro n hn; simp only [tys, List.mem_cons, List.not_mem_nil, or_false] at hn; rcases hn with rfl | rfl | rfl | rfl | rfl <;> exact ⟨_, rfl, kit_ty (by decide +kernel)⟩⟩
  | int i => exact .inr ⟨_, by rw [show v = _ from r]; exact .base (.int i), by intro n hn; simp only [tys, List.mem_cons, List.not_mem_nil, or_false] at hn; rcases hn with rfl | rfl | rfl | rfl | rfl <;> exact ⟨_, rfl, kit_ty (by decide +kernel)⟩⟩
  | str s => exact .inr ⟨_, by rw [show v = _ from r]; exact .base (.str s), by intro n hn; simp only [tys, List.mem_cons, List.not_mem_nil, or_false] at hn; rcases hn with rfl | rfl | rfl | rfl | rfl <;> exact ⟨_, rfl, kit_ty (by decide +kernel)⟩⟩
  | lst xs =>
    obtain ⟨a, vs, rfl, h1, _, l1⟩ := lst_of k r
    exact .inr ⟨_, .base (.lst h1), by intro n hn; simp only [tys, List.mem_cons, List.not_mem_nil, or_false] at hn; rcases hn with rfl | rfl | rfl | rfl | rfl <;> exact ⟨_, rfl, kit_ty (by decide +kernel)⟩⟩
  | tup xs =>
    obtain ⟨a, vs, rfl, h1, _, l1⟩ := tup_of k r
    exact .inr ⟨_, .base (.tup h1), by intro n hn; simp only [tys, List.mem_cons, List.not_mem_nil, or_false] at hn; rcases hn with rfl | rfl | rfl | rfl | rfl <;> exact ⟨_, rfl, kit_ty (by decide +kernel)⟩⟩
  | _ => exact .inl fun _ => rfl
theorem b_isi : CallOk X (.builtin "isinstance") fIsi := by
  refine ⟨_, call_isi.or call_isiT, fun c σ H S env xs vs R k r t Q q => ?_⟩
  unfold fIsi at t
  split at t <;> try exact t.elim
  · obtain ⟨hn, bb, eb, t⟩ := t
    obtain ⟨v, v', rfl, r1, r2⟩ := rep2 r
    rcases isi_ok (K := X.K) k r1 with z | ⟨ty, tx, kk⟩
    · rw [z] at eb; cases eb
    · obtain ⟨b2, e2, e3⟩ := kk _ hn
      rw [eb] at e2
      cases e2
      exact .inl ⟨v, v', ty, _, bb, rfl, by rw [show v' = _ from r2]; exact .ty _, tx, e3, q _ H S (.bl _) k (Same.refl S) rfl t⟩
  · obtain ⟨hn, hm, bb, bb', eb, eb', t⟩ := t
    obtain ⟨v, v', rfl, r1, r2⟩ := rep2 r
    obtain ⟨a, us, rfl, h1, _, l1⟩ := tup_of k r2
    obtain ⟨w1, w2, rfl, q1, q2⟩ := rep2 l1
    cases (show w1 = _ from q1)
    cases (show w2 = _ from q2)
    rcases isi_ok (K := X.K) k r1 with z | ⟨ty, tx, kk⟩
    · rw [z] at eb; cases eb
    · obtain ⟨b2, e2, e3⟩ := kk _ hn
      obtain ⟨b3, e4, e5⟩ := kk _ hm
      rw [eb] at e2
      cases e2
      rw [eb'] at e4
      cases e4
      refine .inr ⟨v, a, _, ty, _, _, rfl, h1, .cons (.ty _) (.cons (.ty _) .nil), tx, kitAny_cons e3 (fun z => ?_) (fun z => by rw [z]; rfl), q _ H S (.bl (bb || bb')) k (Same.refl S) rfl t⟩
      subst z
      rw [Bool.false_or]
      refine kitAny_cons e5 (fun z => ?_) (fun z => z)
      rw [z]
      exact kitAny_nil
/-- int -/
def fInt : DFn
  | [.int i], R => R (.int i)
  | [.bl b], R => R (.int (if b then 1 else 0))
  | _, _ => False
theorem b_int : CallOk X (.type "int") fInt := by
  refine ⟨_, call_int1, fun c σ H S env xs vs R k r t Q q => ?_⟩
  unfold fInt at t
  split at t <;> try exact t.elim
  · obtain ⟨v, rfl, r1⟩ := rep1 r
    exact .inl ⟨_, by rw [show v = _ from r1], q _ H S (.int _) k (Same.refl S) rfl t⟩
  · obtain ⟨v, rfl, r1⟩ := rep1 r
    exact .inr ⟨_, by rw [show v = _ from r1], q _ H S (.int _) k (Same.refl S) rfl t⟩
def fAbs : DFn
  | [.int i], R => R (.int (if i < 0 then -i else i))
  | _, _ => False
def fMin2 : DFn
  | [.int i, .int j], R => R (.int (if j < i then j else i))
  | _, _ => False
theorem b_min2 (hc : X.calm = true) : CallOk X (.builtin "min") fMin2 := by
  refine ⟨_, call_min2 hc, fun c σ H S env xs vs R k r t Q q => ?_⟩
  unfold fMin2 at t
  split at t <;> try exact t.elim
  obtain ⟨v, v', rfl, r1, r2⟩ := rep2 r
  exact ⟨_, _, by rw [show v = _ from r1, show v' = _ from r2], q _ H S (.int _) k (Same.refl S) rfl t⟩
def fMax2 : DFn
  | [.int i, .int j], R => R (.int (if j > i then j else i))
  | _, _ => False
/-- the ints, the bools of a list -/
def asInts : List D → Option (List Int)
  | [] => some []
  | .int i :: r => (asInts r).map (i :: ·)
  | _ :: _ => none
def asBls : List D → Option (List Bool)
  | [] => some []
  | .bl i :: r => (asBls r).map (i :: ·)
  | _ :: _ => none
theorem asInts_eq : ∀ {ds : List D} {ns : List Int}, asInts ds = some ns → ds = ns.map D.int
  | [], _, e => by cases e; rfl
  | .int i :: r, ns, e => by
    have e : (asInts r).map (i :: ·) = some ns := e
    cases h : asInts r with
    | none => rw [h] at e; cases e
    | some ms =>
      rw [h] at e
      cases e
      rw [asInts_eq h]
      rfl
  | .non :: _, _, e | .bl _ :: _, _, e | .str _ :: _, _, e | .ty _ :: _, _, e | .adr _ :: _, _, e | .fn _ _ _ :: _, _, e | .exc _ _ _ _ _ :: _, _, e | .dct _ _ :: _, _, e | .dcT _ _ :: _, _, e | .bag :: _, _, e | .lst _ :: _, _, e | .tup _ :: _, _, e | .obj _ _ _ :: _, _, e => nomatch e
theorem asBls_eq : ∀ {ds : List D} {ns : List Bool}, asBls ds = some ns → ds = ns.map D.bl
  | [], _, e => by cases e; rfl
  | .bl i :: r, ns, e => by
    have e : (asBls r).map (i :: ·) = some ns := e
    cases h : asBls r with
    | none => rw [h] at e; cases e
    | some ms =>
      rw [h] at e
      cases e
      rw [asBls_eq h]
      rfl
  | .non :: _, _, e | .int _ :: _, _, e | .str _ :: _, _, e | .ty _ :: _, _, e | .adr _ :: _, _, e | .fn _ _ _ :: _, _, e | .exc _ _ _ _ _ :: _, _, e | .dct _ _ :: _, _, e | .dcT _ _ :: _, _, e | .bag :: _, _, e | .lst _ :: _, _, e | .tup _ :: _, _, e | .obj _ _ _ :: _, _, e => nomatch e
theorem asInts_map (ns : List Int) : asInts (ns.map D.int) = some ns := by
  induction ns with
  | nil => rfl
  | cons n ns ih => show (asInts (ns.map D.int)).map (n :: ·) = _; rw [ih]; rfl
theorem asBls_map (ns : List Bool) : asBls (ns.map D.bl) = some ns := by
  induction ns with
  | nil => rfl
  | cons n ns ih => show (asBls (ns.map D.bl)).map (n :: ·) = _; rw [ih]; rfl
theorem RepL.bls {B : Option Addr} {S : Hp} {ns : List Bool} : ∀ {vs : List V}, RepL B S (ns.map D.bl) vs → vs = ns.map V.bl := by
  induction ns with
  | nil => intro vs h; exact repL_nil_of h
  | cons n ns ih =>
    intro vs h
    obtain ⟨u, ws, rfl, r1, t⟩ := repL_cons_of h
    rw [ih t, show u = V.bl n from r1]
    rfl
def fSum : DFn
  | [.lst xs], R => ∃ ns, asInts xs = some ns ∧ R (.int ns.sum)
  | _, _ => False
def fAny : DFn
  | [.lst xs], R => ∃ ns, asBls xs = some ns ∧ R (.bl (ns.any _root_.id))
  | _, _ => False
theorem b_any (hc : X.calm = true) : CallOk X (.builtin "any") fAny := by
  refine ⟨_, cr_any hc, fun c σ H S env xs vs R k r t Q q => ?_⟩
  unfold fAny at t
  split at t <;> try exact t.elim
  obtain ⟨ns, e, t⟩ := t
  obtain ⟨v, rfl, r1⟩ := rep1 r
  obtain ⟨a, vs, rfl, h1, _, l1⟩ := lst_of k r1
  rw [asBls_eq e] at l1
  rw [l1.bls] at h1
  exact ⟨a, ns, rfl, SqL.of h1, q _ H S (.bl _) k (Same.refl S) rfl t⟩
def fAll : DFn
  | [.lst xs], R => ∃ ns, asBls xs = some ns ∧ R (.bl (ns.all _root_.id))
  | _, _ => False
theorem b_all (hc : X.calm = true) : CallOk X (.builtin "all") fAll := by
  refine ⟨_, cr_all hc, fun c σ H S env xs vs R k r t Q q => ?_⟩
  unfold fAll at t
  split at t <;> try exact t.elim
  obtain ⟨ns, e, t⟩ := t
  obtain ⟨v, rfl, r1⟩ := rep1 r
  obtain ⟨a, vs, rfl, h1, _, l1⟩ := lst_of k r1
  rw [asBls_eq e] at l1
  rw [l1.bls] at h1
  exact ⟨a, ns, rfl, SqL.of h1, q _ H S (.bl _) k (Same.refl S) rfl t⟩
/-- tuple(xs), list(xs) -/
def fTuple : DFn
  | [.lst xs], R => R (.tup xs)
  | [.tup xs], R => R (.tup xs)
  | _, _ => False
/-- a new list of what nobody else holds: a display, list(xs), a slice, xs + ys, xs * k -/
def xNew (Tl : DTA) : DTF := fun env R Rx => Tl env (fun xs => xs.length ≤ sizeLine ∧ R xs) Rx
theorem putO {c : Fm} {σ : St} {H S : Hp} {env : En} {ds : List D} {vs : List V} {p : Addr} (k : Kn c σ H S env) (l : RepL c.B S ds vs) (h : H p = none) :
    Kn c σ (upd H p (.lst vs)) S env ∧ S p = none ∧ c.H0 p = none ∧ Free σ env p := ⟨k.new0 h, k.kf.s_none h, k.kf.h0_none h, k.free h⟩
end
end DL
namespace DL
open PySem PySem.Spec L2
variable [TbC]
section
variable {X : Cx} {E : XK} {p pos : Pos} {a b e : Expr} {Ta Tb : DT} {Tl : DTA} {es : List Expr}
theorem f_lst (h : DA X E es Tl) : DF X E (.List es pos) (xNew Tl) := by
  obtain ⟨t, p, s⟩ := h
  refine ⟨_, pe_lst p, fun c σ H S env R Rx x k t Q q => s c σ H S env _ Rx x k t _ fun vs H1 S1 ds k1 s1 r1 t1 => ⟨by rw [r1.length]; exact t1.1, fun p hp => ?_⟩⟩
  obtain ⟨k2, n2, n0, f⟩ := putO k1 r1 hp
  exact q p vs _ S1 ds k2 s1 n0 f n2 upd_same r1 t1.2
/-- xs + ys -/
def asL (R : List D → Prop) : D → Prop
  | .lst xs => R xs
  | _ => False
def xCatF (Ta Tb : DT) : DTF := fun env R Rx => Ta env (asL fun xs => Tb env (asL fun ys => xs.length + ys.length ≤ sizeLine ∧ R (xs ++ ys)) Rx) Rx
/-- xs * k -/
def xRepF (Ta Tb : DT) : DTF := fun env R Rx => Ta env (asL fun xs => Tb env (asI fun k => -(2 ^ 63) ≤ k ∧ k < 2 ^ 63 ∧ xs.length * k.toNat ≤ sizeLine ∧ R (List.replicate k.toNat xs).flatten) Rx) Rx
theorem f_mul (ha : DE X E a Ta) (hb : DE X E b Tb) : DF X E (.BinOp a .Mult b pos) (xRepF Ta Tb) := by
  obtain ⟨ta, p1, s1⟩ := ha
  obtain ⟨tb, p2, s2⟩ := hb
  refine ⟨_, pe_op op_rep p1 p2, fun c σ H S env R Rx x k t Q q => s1 c σ H S env _ Rx x k t _ fun v H1 S1 d1 k1 s3 r1 t1 => ?_⟩
  cases d1 <;> try exact (show False from t1).elim
  refine s2 c σ H1 S1 env _ Rx x k1 t1 _ fun u H2 S2 d2 k2 s4 r2 t2 => ?_
  cases d2 <;> try exact (show False from t2).elim
  obtain ⟨a, vs, e1, h1, _, l1⟩ := lst_of k2 (rep_mono s4 _ v r1)
  obtain ⟨t3, t4, t5, t6⟩ := t2
  refine ⟨a, _, vs, e1, r2, h1, t3, t4, by rw [l1.length]; exact t5, fun p hp => ?_⟩
  obtain ⟨k3, n2, n0, f⟩ := putO k2 (l1.rep _) hp
  exact q p _ _ S2 _ k3 (s3.trans s4) n0 f n2 upd_same (l1.rep _) t6
/-- list(xs) -/
def asLT (R : List D → Prop) : D → Prop
  | .lst xs => R xs
  | .tup xs => R xs
  | _ => False
def xListF (Ta : DT) : DTF := fun env R Rx => Ta env (asLT R) Rx
theorem f_list (ha : DE X E a Ta) (hm : X.mg "list" = none) (hg : Gl X "list" := by rfl) (he : starEach [a] X.env = (false, eval a X.env) :: starEach [] X.env := by rfl) (hpl : (backTo pos (starEach [] X.env)).any (·.1) = false := by rfl) :
    DF X E (.Call (.Name "list" p) [a] [] pos) (xListF Ta) := by
  obtain ⟨ta, p1, s1⟩ := ha
  refine ⟨_, pe_callTy call_list_of hg hm PyProof.Rows.boot_list (pa_cons p1 pa_nil he) (by decide) (by decide) he hpl, fun c σ H S env R Rx x k t Q q => s1 c σ H S env _ Rx x k t _ fun v H1 S1 d k1 s3 r1 t1 => ?_⟩
  cases d <;> try exact (show False from t1).elim
  · obtain ⟨a, vs, rfl, h1, _, l1⟩ := lst_of k1 r1
    refine ⟨a, vs, rfl, .inl (SqL.of h1), fun p hp => ?_⟩
    obtain ⟨k3, n2, n0, f⟩ := putO k1 l1 hp
    exact q p _ _ S1 _ k3 s3 n0 f n2 upd_same l1 t1
  · obtain ⟨a, vs, rfl, h1, _, l1⟩ := tup_of k1 r1
    refine ⟨a, vs, rfl, .inr (SqT.of h1), fun p hp => ?_⟩
    obtain ⟨k3, n2, n0, f⟩ := putO k1 l1 hp
    exact q p _ _ S1 _ k3 s3 n0 f n2 upd_same l1 t1
/-- xs[lo:hi], xs a list -/
def xSlF (Ta : DT) (Tl Th : DTO) : DTF := fun env R Rx => Ta env (asL fun xs => Tl env (fun lo => Th env (fun hi => R (cutD xs lo hi)) Rx) Rx) Rx
end
abbrev DG := D → En → (En → Prop) → Prop
/-- only the slots js change -/
def Wip (js : List Nat) (σ σ' : St) : Prop := ∀ ws : List Nat, (∀ j ∈ js, j ∈ ws) → wipe σ' ws = wipe σ ws
theorem wipe_set {σ : St} {i : Nat} {o : Option V} : ∀ {ws : List Nat}, i ∈ ws → wipe (σ.set i o) ws = wipe σ ws
  | [], h => nomatch h
  | w :: ws, h => by
    show (wipe (σ.set i o) ws).set w none = (wipe σ ws).set w none
    by_cases z : i ∈ ws
    · rw [wipe_set z]
    · have e : i = w := by
        rcases List.mem_cons.mp h with e | e
        · exact e
        · exact absurd e z
      subst e
      have go : ∀ us : List Nat, (wipe (σ.set i o) us).set i none = (wipe σ us).set i none := fun us => by
        induction us with
        | nil => show (σ.set i o).set i none = σ.set i none; rw [List.set_set]
        | cons u us ih =>
          show ((wipe (σ.set i o) us).set u none).set i none = ((wipe σ us).set u none).set i none
          by_cases hu : u = i
          · subst hu; rw [List.set_set, List.set_set]; exact ih
          · rw [List.set_comm _ _ hu, ih, List.set_comm _ _ (Ne.symm hu)]
      exact go ws
def SmG (g : TG) (G : DG) (js : List Nat) : Prop := ∀ (c : Fm) (σ : St) (H S : Hp) (env : En) (d : D) (v : V) (N : En → Prop), Kn c σ H S env → Rep c.B S d v → G d env N →
  ∀ P : St → Hp → Prop, (∀ σ' H' S' env', Kn c σ' H' S' env' → Same S S' → Wip js σ σ' → N env' → P σ' H') → g v σ H P
def DGt (X : Cx) (e : Expr) (G : DG) (js : List Nat) : Prop := ∃ g, PG X e g ∧ SmG g G js
abbrev DGs := List D → En → (En → Prop) → Prop
def SmGs (g : TGs) (G : DGs) (js : List Nat) : Prop := ∀ (c : Fm) (σ : St) (H S : Hp) (env : En) (ds : List D) (vs : List V) (N : En → Prop), Kn c σ H S env → RepL c.B S ds vs → G ds env N →
  ∀ P : St → Hp → Prop, (∀ σ' H' S' env', Kn c σ' H' S' env' → Same S S' → Wip js σ σ' → N env' → P σ' H') → g vs σ H P
def DGts (X : Cx) (es : List Expr) (G : DGs) (js : List Nat) : Prop := ∃ g, PGs X es g ∧ SmGs g G js
def put (i : Nat) (d : D) (env : En) : En := env.set i (some (.val d))
def putO' (i : Nat) (ds : List D) (env : En) : En := env.set i (some (.own ds))
def yName (i : Nat) : DG := fun d env N => N (put i d env)
def yNil : DGs := fun ds env N => ds = [] ∧ N env
def yCons (G : DG) (Gs : DGs) : DGs := fun ds env N => match ds with
  | [] => False
  | d :: r => G d env fun env' => Gs r env' N
def yTup (n : Nat) (Gs : DGs) : DG := fun d env N => match d with
  | .tup ds => ds.length = n ∧ Gs ds env N
  | _ => False
section
variable {X : Cx} {pos : Pos} {e : Expr} {es : List Expr} {G : DG} {Gs : DGs}
theorem smG_name (i : Nat) : SmG (gName i) (yName i) [i] := fun c σ H S env d v N k r t P q => q _ H S _ (k.set r) (Same.refl S) (fun ws h => wipe_set (h i (List.mem_singleton.mpr rfl))) t
theorem g_name {i : Nat} {x : Str} (hN : X.N.Nodup) (hi : X.N[i]? = some x := by rfl) (hx : Loc X.env.scope x := by first | exact Or.inl rfl | exact Or.inr rfl) (hf : X.fn x = true ∨ X.env.scope.names.lookup x = some .local := by first | exact .inl rfl | exact .inr rfl) : DGt X (.Name x pos) (yName i) [i] :=
  ⟨_, pg_name hN hi hx hf, smG_name i⟩
theorem gs_nil : DGts X [] yNil [] := ⟨_, pgs_nil, fun c σ H S env ds vs N k r t P q => by
  obtain ⟨e, t⟩ := t
  subst e
  exact ⟨repL_nil_of r, q σ H S env k (Same.refl S) (fun ws _ => rfl) t⟩⟩
theorem gs_cons {js js' : List Nat} (h1 : DGt X e G js) (h2 : DGts X es Gs js') (hs : (assignEach (e :: es) X.env).map (·.2) = assign e X.env :: (assignEach es X.env).map (·.2) := by rfl) : DGts X (e :: es) (yCons G Gs) (js ++ js') := by
  obtain ⟨g, p1, s1⟩ := h1
  obtain ⟨gs, p2, s2⟩ := h2
  refine ⟨_, pgs_cons p1 p2 hs, fun c σ H S env ds vs N k r t P q => ?_⟩
  cases ds with
  | nil => exact (show False from t).elim
  | cons d ds =>
    obtain ⟨v, ws, rfl, r1, l⟩ := repL_cons_of r
    exact ⟨v, ws, rfl, s1 c σ H S env d v _ k r1 t _ fun σ1 H1 S1 env1 k1 s w1 t1 => s2 c σ1 H1 S1 env1 ds ws N k1 (repL_mono s ds ws l) t1 P fun σ2 H2 S2 env2 k2 s3 w2 t2 => q σ2 H2 S2 env2 k2 (s.trans s3)
      (fun us h => (w2 us fun j hj => h j (List.mem_append_right _ hj)).trans (w1 us fun j hj => h j (List.mem_append_left _ hj))) t2⟩
theorem g_tup {n k : Nat} {js : List Nat} (hc : X.calm = true) (h : DGts X es Gs js) (hn : (assignEach es X.env).length = n := by rfl) (hst : (assignEach es X.env).findIdx? (·.1) = none := by rfl) : DGt X (.Tuple es k pos) (yTup n Gs) js := by
  obtain ⟨gs, p1, s1⟩ := h
  refine ⟨_, pg_tup hc p1 hn hst, fun c σ H S env d v N k r t P q => ?_⟩
  cases d <;> try exact (show False from t).elim
  obtain ⟨a, vs, e1, h1, _, l1⟩ := tup_of k r
  obtain ⟨hl, t⟩ := t
  exact ⟨a, vs, e1, SqT.of h1, by rw [l1.length]; exact hl, s1 c σ H S env _ vs N k l1 t P q⟩
end
section
variable {X : Cx} {E : XK} {pos p1 : Pos} {a b e tg : Expr} {Ta Tb : DT} {T U : DTS} {TF : DTF} {st : Stmt} {rest sts us : List Stmt} {G : DG}
def zNext : DTS := fun Q env => Q.nx env
def zSeq (T U : DTS) : DTS := fun Q env => T { Q with nx := U Q } env
theorem mk_nx {c : Fm} {S S' : Hp} {Q : DEnds} {D : Ends} {N : St → Hp → Prop} {M : En → Prop} (m : mk c S Q D) (s : Same S S') (h : ∀ σ H S2 env, Kn c σ H S2 env → Same S' S2 → M env → N σ H) : mk c S' { Q with nx := M } { D with nx := N } :=
  ⟨h, (m.mono s).2.1, (m.mono s).2.2.1, (m.mono s).2.2.2⟩
theorem ds_nil : DSs X E [] zNext := ⟨_, pss_nil, fun c σ H S env Q x k t D m => m.1 σ H S env k (Same.refl S) t⟩
theorem ds_cons (h1 : DS X E st T) (h2 : DSs X E rest U) : DSs X E (st :: rest) (zSeq T U) := by
  obtain ⟨t, p1, s1⟩ := h1
  obtain ⟨u, p2, s2⟩ := h2
  refine ⟨_, pss_cons p1 p2, fun c σ H S env Q x k t D m => ?_⟩
  exact s1 c σ H S env { Q with nx := U Q } x k t _ (mk_nx m (Same.refl S) fun σ1 H1 S1 env1 k1 s t1 => s2 c σ1 H1 S1 env1 Q x k1 t1 D (m.mono s))
theorem ds_one (h1 : DS X E st T) : DSs X E [st] T := by
  obtain ⟨t, p1, s1⟩ := h1
  exact ⟨_, pss_one p1, s1⟩
def zBreak : DTS := fun Q env => Q.bk env
def zCont : DTS := fun Q env => Q.ct env
def zRet (Ta : DT) : DTS := fun Q env => Ta env (Q.rt .old) Q.ex
theorem s_ret (h : DE X E a Ta) : DS X E (.Return (some a) pos) (zRet Ta) := by
  obtain ⟨t, p, s⟩ := h
  exact ⟨_, ps_ret p, fun c σ H S env Q x k t D m => s c σ H S env _ _ x k t _ fun v H1 S1 d k1 s1 r1 t1 => m.2.1 .old v H1 S1 d k1.kf s1 r1 t1⟩
def zExpr (Ta : DT) : DTS := fun Q env => Ta env (fun _ => Q.nx env) Q.ex
theorem s_expr (h : DE X E a Ta) (hs : swapsWith a none pos.line X.env = pure false := by rfl) : DS X E (.Expr a pos) (zExpr Ta) := by
  obtain ⟨t, p, s⟩ := h
  exact ⟨_, ps_expr p hs, fun c σ H S env Q x k t D m => s c σ H S env _ _ x k t _ fun v H1 S1 d k1 s1 r1 t1 => m.1 σ H1 S1 env k1 s1 t1⟩
def zIf (T : DTT) (U W : DTS) : DTS := fun Q env => T env (fun b => (b = true → U Q env) ∧ (b = false → W Q env)) Q.ex
theorem s_if {cnd : Expr} {Tc : DTT} {x1 x2 : List Stmt} (hc : DTe X E cnd Tc) (h1 : DSs X E x1 T) (h2 : DSs X E x2 U) : DS X E (.If cnd x1 x2 pos) (zIf Tc T U) := by
  obtain ⟨tc, p, s⟩ := hc
  obtain ⟨t, p1, s1⟩ := h1
  obtain ⟨u, p2, s2⟩ := h2
  refine ⟨_, ps_if p p1 p2, fun c σ H S env Q x k t D m => s c σ H S env _ _ x k t _ fun bb H1 S1 k1 s3 t1 => ?_⟩
  cases bb with
  | true => exact iteT (s1 c σ H1 S1 env Q x k1 (t1.1 rfl) D (m.mono s3))
  | false => exact iteF (s2 c σ H1 S1 env Q x k1 (t1.2 rfl) D (m.mono s3))
def zAsg (Ta : DT) (G : DG) : DTS := fun Q env => Ta env (fun d => G d env Q.nx) Q.ex
theorem smS_asg {t : TE} {g : TG} {js : List Nat} (h : Sm E t Ta) (hg : SmG g G js) : SmS E (tAsg t g) (zAsg Ta G) := fun c σ H S env Q x k t D m =>
  h c σ H S env _ _ x k t _ fun v H1 S1 d k1 s1 r1 t1 => hg c σ H1 S1 env d v _ k1 r1 t1 _ fun σ2 H2 S2 env2 k2 s2 _ t2 => m.1 σ2 H2 S2 env2 k2 (s1.trans s2) t2
theorem s_set {i : Nat} {x : Str} (hN : X.N.Nodup) (h : DE X E e Ta) (hi : X.N[i]? = some x := by rfl) (hx : Loc X.env.scope x := by first | exact Or.inl rfl | exact Or.inr rfl) (hs : swapsWith e (some (.Name x p1)) pos.line X.env = pure false := by rfl)
    (hf : X.fn x = true ∨ X.env.scope.names.lookup x = some .local := by first | exact .inl rfl | exact .inr rfl) : DS X E (.Assign [.Name x p1] e pos) (zAsg Ta (yName i)) := by
  obtain ⟨t, p, s⟩ := h
  exact ⟨_, ps_set hN hi hx p hs hf, smS_asg s (smG_name i)⟩
/-- name = a new list, from now on of the frame's own -/
def zSetO (i : Nat) (T : DTF) : DTS := fun Q env => T env (fun ds => Q.nx (putO' i ds env)) Q.ex
theorem smS_setO {t : TE} {i : Nat} (h : SmF E t TF) : SmS E (tAsg t (gName i)) (zSetO i TF) := fun c σ H S env Q x k t D m =>
  h c σ H S env _ _ x k t _ fun p vs H1 S1 ds k1 s1 n0 f n2 e1 l1 t1 => m.1 _ H1 S1 _ (k1.setOwn n2 n0 e1 l1 f) s1 t1
theorem s_setO {i : Nat} {x : Str} (hN : X.N.Nodup) (h : DF X E e TF) (hi : X.N[i]? = some x := by rfl) (hx : Loc X.env.scope x := by first | exact Or.inl rfl | exact Or.inr rfl) (hs : swapsWith e (some (.Name x p1)) pos.line X.env = pure false := by rfl)
    (hf : X.fn x = true ∨ X.env.scope.names.lookup x = some .local := by first | exact .inl rfl | exact .inr rfl) : DS X E (.Assign [.Name x p1] e pos) (zSetO i TF) := by
  obtain ⟨t, p, s⟩ := h
  exact ⟨_, ps_set hN hi hx p hs hf, smS_setO s⟩
/-- a, b = x, y -/
def zPar (i j : Nat) (Tl : DTA) : DTS := fun Q env => Tl env (fun ds => match ds with
  | [d, d'] => Q.nx (put j d' (put i d env))
  | _ => False) Q.ex
theorem s_par {i j : Nat} {x y : Str} {px py pt : Pos} {kt k2 pt2} {Tl : DTA} (hc : X.calm = true) (hN : X.N.Nodup) (ha : DA X E [a, b] Tl) (hi : X.N[i]? = some x := by rfl) (hj : X.N[j]? = some y := by rfl) (hij : i ≠ j := by decide)
    (hx : X.env.scope.names.lookup x = some .local := by rfl) (hy : X.env.scope.names.lookup y = some .local := by rfl)
    (hw : swappedStores [.Tuple [.Name x px, .Name y py] kt pt] (.Tuple [a, b] k2 pt2) X.env = pure (some [x, y]) := by rfl)
    (hs : swapsWithSole [.Tuple [.Name x px, .Name y py] kt pt] (.Tuple [a, b] k2 pt2) pos.line X.env = pure false := by rfl) :
    DS X E (.Assign [.Tuple [.Name x px, .Name y py] kt pt] (.Tuple [a, b] k2 pt2) pos) (zPar i j Tl) := by
  obtain ⟨t, p, s⟩ := ha
  refine ⟨_, ps_par hc hN hi hj hij hx hy p hw hs, fun c σ H S env Q x k t D m => s c σ H S env _ _ x k t _ fun vs H1 S1 ds k1 s1 r1 t1 => ?_⟩
  match ds, t1 with
  | [d, d'], t1 =>
    obtain ⟨v, v', rfl, r2, r3⟩ := rep2 r1
    exact ⟨v, v', rfl, m.1 _ H1 S1 _ ((k1.set r2).set r3) s1 t1⟩
/-- the list at slot i stays as it is from here on -/
def zFrz (i : Nat) (T : DTS) : DTS := fun Q env => ∃ xs, env[i]? = some (some (.own xs)) ∧ T Q (put i (.lst xs) env)
/-- xs.append(e), xs of the frame's own -/
def zApp (i : Nat) (Ta : DT) : DTS := fun Q env => ∃ xs, env[i]? = some (some (.own xs)) ∧ Ta env (fun d => xs.length < sizeLine ∧ Q.nx (putO' i (xs ++ [d]) env)) Q.ex
/-- xs[e] = v, xs of the frame's own -/
def zStO (i : Nat) (Tv Ti : DT) : DTS := fun Q env => Tv env (fun d => ∃ xs, env[i]? = some (some (.own xs)) ∧ Ti env (asI fun k => ∃ j, ixN xs.length k = some j ∧ Q.nx (putO' i (xs.set j d) env)) Q.ex) Q.ex
/-- name += e of ints -/
def zAug (i : Nat) (f : Int → Int → Int) (Ta : DT) : DTS := fun Q env => ∃ n, env[i]? = some (some (.val (.int n))) ∧ Ta env (asI fun j => Q.nx (put i (.int (f n j)) env)) Q.ex
/-- never reached -/
def zNever : DTS := fun _ _ => False
end
abbrev DTI := En → (List D → Prop) → (Er → Prop) → Prop
def ItOk (B : Option Addr) (J : It) (S0 : Hp) (xs : List D) : Prop := ∀ (c : Fm), c.B = B → ∀ (i : Nat) (σ : St) (H S : Hp) (env : En), Kn c σ H S env → Same S0 S →
  (∀ d, xs[i]? = some d → J.go i H ∧ ∀ x H', J.yld i H x H' → ∃ S', Kn c σ H' S' env ∧ Same S S' ∧ Rep c.B S' d x) ∧ (xs.length ≤ i → J.stop i H)
def SmI (E : XK) (wi : TI) (T : DTI) : Prop := ∀ (c : Fm) (σ : St) (H S : Hp) (env : En) (R : List D → Prop) (Rx : Er → Prop), XOk c E Rx → Kn c σ H S env → T env R Rx →
  ∀ Rr : It → Hp → Prop, (∀ J H' S' xs, Kn c σ H' S' env → Same S S' → ItOk c.B J S' xs → R xs → Rr J H') → wi σ H Rr
def DI (X : Cx) (E : XK) (tg e : Expr) (T : DTI) : Prop := ∃ wi, PI X tg e wi ∧ SmI E wi T
theorem ItOk.mono {B : Option Addr} {J : It} {S0 S1 : Hp} {xs : List D} (h : ItOk B J S0 xs) (s : Same S0 S1) : ItOk B J S1 xs := fun c hB i σ H S env k s1 => h c hB i σ H S env k (s.trans s1)
section
variable {X : Cx} {E : XK} {pos p : Pos} {a b e tg : Expr} {Ta Tb : DT} {Tl : DTA}
theorem itl_ok {B : Option Addr} {K : PySem.W.Frag} {S : Hp} {a : Addr} {vs : List V} {xs : List D} (h : S a = some (.lst vs)) (l : RepL B S xs vs) : ItOk B (Itl K a) S xs := fun c hB i σ H S1 env k s => by
  subst hB
  have hH : H a = some (.lst vs) := k.kf.sub _ _ (s _ _ h)
  refine ⟨fun d e => ?_, fun hl => ⟨vs, SqL.of hH, by rw [l.length]; exact hl⟩⟩
  obtain ⟨v, ev, r⟩ := l.get e
  exact ⟨⟨vs, v, SqL.of hH, ev⟩, fun x H' y => by
    obtain ⟨e1, y⟩ := y
    subst e1
    have e2 := y vs (SqL.of hH)
    rw [ev] at e2
    cases e2
    exact ⟨S1, k, Same.refl S1, rep_mono s d v r⟩⟩
theorem itt_ok {B : Option Addr} {K : PySem.W.Frag} {S : Hp} {a : Addr} {vs : List V} {xs : List D} (h : S a = some (.tup vs)) (l : RepL B S xs vs) : ItOk B (Itt K a) S xs := fun c hB i σ H S1 env k s => by
  subst hB
  have hH : H a = some (.tup vs) := k.kf.sub _ _ (s _ _ h)
  refine ⟨fun d e => ?_, fun hl => ⟨vs, SqT.of hH, by rw [l.length]; exact hl⟩⟩
  obtain ⟨v, ev, r⟩ := l.get e
  exact ⟨⟨vs, v, SqT.of hH, ev⟩, fun x H' y => by
    obtain ⟨e1, y⟩ := y
    subst e1
    have e2 := y vs (SqT.of hH)
    rw [ev] at e2
    cases e2
    exact ⟨S1, k, Same.refl S1, rep_mono s d v r⟩⟩
def xItL (Ta : DT) : DTI := fun env R Rx => Ta env (asL R) Rx
def xItT (Ta : DT) : DTI := fun env R Rx => Ta env (fun d => match d with
  | .tup xs => R xs
  | _ => False) Rx
theorem i_list (h : DE X E a Ta) : DI X E tg a (xItL Ta) := by
  obtain ⟨t, p, s⟩ := h
  refine ⟨_, pi_list p, fun c σ H S env R Rx x k t Rr q => s c σ H S env _ Rx x k t _ fun v H1 S1 d k1 s1 r1 t1 => ?_⟩
  cases d <;> try exact (show False from t1).elim
  obtain ⟨a, vs, e, h1, hS, l⟩ := lst_of k1 r1
  exact ⟨a, e, ⟨vs, SqL.of h1⟩, q _ H1 S1 _ k1 s1 (itl_ok hS l) t1⟩
theorem i_tup (h : DE X E a Ta) : DI X E tg a (xItT Ta) := by
  obtain ⟨t, p, s⟩ := h
  refine ⟨_, pi_tup p, fun c σ H S env R Rx x k t Rr q => s c σ H S env _ Rx x k t _ fun v H1 S1 d k1 s1 r1 t1 => ?_⟩
  cases d <;> try exact (show False from t1).elim
  obtain ⟨a, vs, e, h1, hS, l⟩ := tup_of k1 r1
  exact ⟨a, e, ⟨vs, SqT.of h1⟩, q _ H1 S1 _ k1 s1 (itt_ok hS l) t1⟩
/-- lo, lo + 1, .. -/
def ups (lo : Int) : Nat → List D
  | 0 => []
  | n + 1 => .int lo :: ups (lo + 1) n
theorem ups_get : ∀ (n i : Nat) (lo : Int), (ups lo n)[i]? = if i < n then some (.int (lo + i)) else none
  | 0, i, lo => by simp [ups]
  | n + 1, 0, lo => by simp [ups]
  | n + 1, i + 1, lo => by
    show (ups (lo + 1) n)[i]? = _
    rw [ups_get n i (lo + 1)]
    by_cases h : i < n
    · rw [if_pos h, if_pos (by omega)]
      congr 2
      omega
    · rw [if_neg h, if_neg (by omega)]
theorem ups_length : ∀ (n : Nat) (lo : Int), (ups lo n).length = n
  | 0, _ => rfl
  | n + 1, lo => by
    show (ups (lo + 1) n).length + 1 = _
    rw [ups_length]
theorem itr_ok {B : Option Addr} {S : Hp} {lo : Int} {n : Nat} : ItOk B (Itr lo n) S (ups lo n) := fun c hB i σ H S1 env k s => by
  refine ⟨fun d e => ?_, fun hl => by rw [ups_length] at hl; exact hl⟩
  rw [ups_get] at e
  split at e
  · rename_i hi
    cases e
    exact ⟨hi, fun x H' y => by
      obtain ⟨e1, e2⟩ := y
      subst e1
      subst e2
      exact ⟨S1, k, Same.refl S1, rfl⟩⟩
  · cases e
def xRg1 (Tl : DTA) : DTI := fun env R Rx => Tl env (fun ds => match ds with
  | [.int j] => -(2 ^ 62) ≤ j ∧ j < 2 ^ 62 ∧ R (ups 0 j.toNat)
  | _ => False) Rx
def xRg2 (Tl : DTA) : DTI := fun env R Rx => Tl env (fun ds => match ds with
  | [.int i, .int j] => (-(2 ^ 62) ≤ i ∧ i < 2 ^ 62 ∧ -(2 ^ 62) ≤ j ∧ j < 2 ^ 62) ∧ R (ups i (j - i).toNat)
  | _ => False) Rx
theorem i_rg1 (ha : DA X E [a] Tl) (hm : X.mg "range" = none) (hg : Gl X "range" := by rfl) (hs : starEach [a] X.env = [(false, eval a X.env)] := by rfl) : DI X E tg (.Call (.Name "range" p) [a] [] pos) (xRg1 Tl) := by
  obtain ⟨t, pa, s⟩ := ha
  refine ⟨_, pi_range1 hg hm pa hs, fun c σ H S env R Rx x k t Rr q => s c σ H S env _ Rx x k t _ fun vs H1 S1 ds k1 s1 r1 t1 => ?_⟩
  match ds, t1 with
  | [.int j], t1 =>
    obtain ⟨v, rfl, r2⟩ := rep1 r1
    exact ⟨j, by rw [show v = _ from r2], t1.1, t1.2.1, q _ H1 S1 _ k1 s1 itr_ok t1.2.2⟩
/-- zip -/
def pairs : List D → List D → List D
  | x :: xs, y :: ys => .tup [x, y] :: pairs xs ys
  | _, _ => []
theorem pairs_get : ∀ (xs ys : List D) (i : Nat) (d : D), (pairs xs ys)[i]? = some d → ∃ x y, xs[i]? = some x ∧ ys[i]? = some y ∧ d = .tup [x, y]
  | [], _, i, d, h => by simp [pairs] at h
  | _ :: _, [], i, d, h => by simp [pairs] at h
  | x :: xs, y :: ys, 0, d, h => by simp [pairs] at h; exact ⟨x, y, rfl, rfl, h.symm⟩
  | x :: xs, y :: ys, i + 1, d, h => by
    obtain ⟨a, b, e1, e2, e3⟩ := pairs_get xs ys i d (by simpa [pairs] using h)
    exact ⟨a, b, by simpa using e1, by simpa using e2, e3⟩
theorem pairs_length : ∀ (xs ys : List D), (pairs xs ys).length = min xs.length ys.length
  | [], ys => by simp [pairs]
  | _ :: _, [] => by simp [pairs]
  | x :: xs, y :: ys => by
    show (pairs xs ys).length + 1 = _
    rw [pairs_length xs ys, List.length_cons, List.length_cons]
    omega
theorem itz_ok {B : Option Addr} {K : PySem.W.Frag} {S : Hp} {a b : Addr} {vs ws : List V} {xs ys : List D} (h : S a = some (.lst vs)) (h2 : S b = some (.lst ws)) (l : RepL B S xs vs) (l2 : RepL B S ys ws) : ItOk B (Itz K a b) S (pairs xs ys) := fun c hB i σ H S1 env k s => by
  subst hB
  have hH : H a = some (.lst vs) := k.kf.sub _ _ (s _ _ h)
  have hH2 : H b = some (.lst ws) := k.kf.sub _ _ (s _ _ h2)
  refine ⟨fun d e => ?_, fun hl => ⟨vs, ws, SqL.of hH, SqL.of hH2, by rw [pairs_length] at hl; rw [l.length, l2.length]; omega⟩⟩
  obtain ⟨x, y, ex, ey, rfl⟩ := pairs_get _ _ _ _ e
  obtain ⟨v, ev, r⟩ := l.get ex
  obtain ⟨w, ew, r2⟩ := l2.get ey
  refine ⟨⟨vs, ws, v, w, SqL.of hH, SqL.of hH2, ev, ew⟩, fun z H' yl => ?_⟩
  obtain ⟨T, x', y', rfl, hT, rfl, hx, hy⟩ := yl
  have e1 := hx vs (SqL.of hH)
  rw [ev] at e1
  cases e1
  have e2 := hy ws (SqL.of hH2)
  rw [ew] at e2
  cases e2
  obtain ⟨k', s', r'⟩ := put_tup k (repL_cons (rep_mono s _ _ r) (repL_cons (rep_mono s _ _ r2) repL_nil)) hT
  exact ⟨_, k', s', r'⟩
theorem itzT_ok {B : Option Addr} {K : PySem.W.Frag} {S : Hp} {a b : Addr} {vs ws : List V} {xs ys : List D} (h : S a = some (.tup vs)) (h2 : S b = some (.tup ws)) (l : RepL B S xs vs) (l2 : RepL B S ys ws) : ItOk B (RZ.ItzT K a b) S (pairs xs ys) := fun c hB i σ H S1 env k s => by
  subst hB
  have hH : H a = some (.tup vs) := k.kf.sub _ _ (s _ _ h)
  have hH2 : H b = some (.tup ws) := k.kf.sub _ _ (s _ _ h2)
  refine ⟨fun d e => ?_, fun hl => ⟨vs, ws, SqT.of hH, SqT.of hH2, by rw [pairs_length] at hl; rw [l.length, l2.length]; omega⟩⟩
  obtain ⟨x, y, ex, ey, rfl⟩ := pairs_get _ _ _ _ e
  obtain ⟨v, ev, r⟩ := l.get ex
  obtain ⟨w, ew, r2⟩ := l2.get ey
  refine ⟨⟨vs, ws, v, w, SqT.of hH, SqT.of hH2, ev, ew⟩, fun z H' yl => ?_⟩
  obtain ⟨T, x', y', rfl, hT, rfl, hx, hy⟩ := yl
  have e1 := hx vs (SqT.of hH)
  rw [ev] at e1
  cases e1
  have e2 := hy ws (SqT.of hH2)
  rw [ew] at e2
  cases e2
  obtain ⟨k', s', r'⟩ := put_tup k (repL_cons (rep_mono s _ _ r) (repL_cons (rep_mono s _ _ r2) repL_nil)) hT
  exact ⟨_, k', s', r'⟩
def fZip (R : List D → Prop) : List D → Prop
  | [.lst xs, .lst ys] => R (pairs xs ys)
  | [.tup xs, .tup ys] => R (pairs xs ys)
  | _ => False
def xZip (Tl : DTA) : DTI := fun env R Rx => Tl env (fZip R) Rx
theorem i_zip {tpos : Pos} {elts : List Expr} {kk : Nat} (ha : DA X E [a, b] Tl) (hm : X.mg "zip" = none) (hg : Gl X "zip" := by rfl)
    (hs : starEach [a, b] X.env = (false, eval a X.env) :: starEach [b] X.env := by rfl) (hpl : (backTo pos (starEach [b] X.env)).any (·.1) = false := by rfl) :
    DI X E (.Tuple elts kk tpos) (.Call (.Name "zip" p) [a, b] [] pos) (xZip Tl) := by
  obtain ⟨t, pa, s⟩ := ha
  refine ⟨_, RZ.pi_zipA hg hm pa hs hpl, fun c σ H S env R Rx x k t Rr q => s c σ H S env _ Rx x k t _ fun vs H1 S1 ds k1 s1 r1 t1 => ?_⟩
  unfold fZip at t1
  split at t1 <;> try exact t1.elim
  · obtain ⟨v, w, rfl, r2, r3⟩ := rep2 r1
    obtain ⟨a, us, rfl, h1, hS, l⟩ := lst_of k1 r2
    obtain ⟨b, ws, rfl, h2, hS2, l2⟩ := lst_of k1 r3
    exact ⟨a, b, us, ws, rfl, .inl ⟨SqL.of h1, SqL.of h2, q _ H1 S1 _ k1 s1 (itz_ok hS hS2 l l2) t1⟩⟩
  · obtain ⟨v, w, rfl, r2, r3⟩ := rep2 r1
    obtain ⟨a, us, rfl, h1, hS, l⟩ := tup_of k1 r2
    obtain ⟨b, ws, rfl, h2, hS2, l2⟩ := tup_of k1 r3
    exact ⟨a, b, us, ws, rfl, .inr ⟨SqT.of h1, SqT.of h2, q _ H1 S1 _ k1 s1 (itzT_ok hS hS2 l l2) t1⟩⟩
theorem fZip_lst {R : List D → Prop} {xs ys : List D} : fZip R [.lst xs, .lst ys] = R (pairs xs ys) := rfl
theorem fZip_tup {R : List D → Prop} {xs ys : List D} : fZip R [.tup xs, .tup ys] = R (pairs xs ys) := rfl
/-- enumerate -/
def nums (lo : Int) : List D → List D
  | [] => []
  | x :: xs => .tup [.int lo, x] :: nums (lo + 1) xs
theorem nums_get : ∀ (xs : List D) (i : Nat) (lo : Int) (d : D), (nums lo xs)[i]? = some d → ∃ x, xs[i]? = some x ∧ d = .tup [.int (lo + i), x]
  | [], i, lo, d, h => by simp [nums] at h
  | x :: xs, 0, lo, d, h => by simp [nums] at h; exact ⟨x, rfl, by simpa using h.symm⟩
  | x :: xs, i + 1, lo, d, h => by
    obtain ⟨a, e1, e2⟩ := nums_get xs i (lo + 1) d (by simpa [nums] using h)
    refine ⟨a, by simpa using e1, ?_⟩
    rw [e2]
    congr 3
    show (lo + 1) + (i : Int) = lo + ((i + 1 : Nat) : Int)
    omega
theorem nums_length : ∀ (xs : List D) (lo : Int), (nums lo xs).length = xs.length
  | [], _ => rfl
  | x :: xs, lo => by
    show (nums (lo + 1) xs).length + 1 = _
    rw [nums_length xs]
    rfl
theorem ite_ok {B : Option Addr} {K : PySem.W.Frag} {S : Hp} {a : Addr} {vs : List V} {xs : List D} (h : S a = some (.lst vs)) (l : RepL B S xs vs) : ItOk B (Ite K a) S (nums 0 xs) := fun c hB i σ H S1 env k s => by
  subst hB
  have hH : H a = some (.lst vs) := k.kf.sub _ _ (s _ _ h)
  refine ⟨fun d e => ?_, fun hl => ⟨vs, SqL.of hH, by rw [nums_length] at hl; rw [l.length]; exact hl⟩⟩
  obtain ⟨x, ex, rfl⟩ := nums_get _ _ _ _ e
  obtain ⟨v, ev, r⟩ := l.get ex
  refine ⟨⟨vs, v, SqL.of hH, ev⟩, fun z H' yl => ?_⟩
  obtain ⟨T, x', rfl, hT, rfl, hx⟩ := yl
  have e1 := hx vs (SqL.of hH)
  rw [ev] at e1
  cases e1
  obtain ⟨k', s', r'⟩ := put_tup (ds := [.int i, x]) k (repL_cons rfl (repL_cons (rep_mono s _ _ r) repL_nil)) hT
  rw [Int.zero_add]
  exact ⟨_, k', s', r'⟩
def xEnum (Tl : DTA) : DTI := fun env R Rx => Tl env (fun ds => match ds with
  | [.lst xs] => R (nums 0 xs)
  | _ => False) Rx
theorem i_enum {tpos : Pos} {elts : List Expr} {kk : Nat} (ha : DA X E [a] Tl) (hm : X.mg "enumerate" = none) (hg : Gl X "enumerate" := by rfl) (hs : starEach [a] X.env = [(false, eval a X.env)] := by rfl) :
    DI X E (.Tuple elts kk tpos) (.Call (.Name "enumerate" p) [a] [] pos) (xEnum Tl) := by
  obtain ⟨t, pa, s⟩ := ha
  refine ⟨_, pi_enum hg hm pa hs, fun c σ H S env R Rx x k t Rr q => s c σ H S env _ Rx x k t _ fun vs H1 S1 ds k1 s1 r1 t1 => ?_⟩
  match ds, t1 with
  | [.lst xs], t1 =>
    obtain ⟨v, rfl, r2⟩ := rep1 r1
    obtain ⟨a, us, rfl, h1, hS, l⟩ := lst_of k1 r2
    exact ⟨a, us, rfl, SqL.of h1, q _ H1 S1 _ k1 s1 (ite_ok hS l) t1⟩
/-- the signs of a text -/
def signs (s : Str) : List D := s.cps.toList.map fun c => .str ⟨#[c]⟩
def xItS (Ta : DT) : DTI := fun env R Rx => Ta env (fun d => match d with
  | .str s => R (signs s)
  | _ => False) Rx
end
def zFor (Ti : DTI) (G : DG) (Tb : DTS) : DTS := fun Q env => Ti env (fun xs => ∃ I : Nat → En → Prop, I 0 env ∧ (∀ i d env, xs[i]? = some d → I i env → G d env fun env' => Tb { Q with nx := I (i + 1), ct := I (i + 1), bk := Q.nx } env') ∧ ∀ env, I xs.length env → Q.nx env) Q.ex
def zWhile (Tc : DTT) (Tb : DTS) : DTS := fun Q env => ∃ (I : Nat → En → Prop) (m : Nat), I m env ∧ ∀ m env, I m env → Tc env (fun b => (b = true → Tb { Q with nx := fun e => ∃ m', m' < m ∧ I m' e, ct := fun e => ∃ m', m' < m ∧ I m' e, bk := Q.nx } env) ∧ (b = false → Q.nx env)) Q.ex
section
variable {X : Cx} {E : XK} {pos : Pos} {tg iter : Expr} {body : List Stmt} {Ti : DTI} {G : DG} {Tb : DTS}
theorem s_for {js : List Nat} (hp : PassesOwn (model X.prog X.w) X.A X.env X.xe) (hc : X.calm = true) (hi : DI X E tg iter Ti) (hg : DGt X tg G js) (hb : DSs X E body Tb) (hs : ∀ x, foldedSetIterable iter X.env x = pure x := by intro _; rfl) :
    DS X E (.For tg iter body [] pos) (zFor Ti G Tb) := by
  obtain ⟨wi, p1, s1⟩ := hi
  obtain ⟨g, p2, s2⟩ := hg
  obtain ⟨tb, p3, s3⟩ := hb
  refine ⟨_, ps_for hp hc p1 p2 p3 hs, fun c σ H S env Q x k t D m => s1 c σ H S env _ _ x k t _ fun J H1 S1 xs k1 s4 it t1 => ?_⟩
  obtain ⟨I, h0, hstep, hend⟩ := t1
  have m1 := m.mono s4
  refine ⟨fun i n σ H => n = xs.length - i ∧ i ≤ xs.length ∧ ∃ S env, Kn c σ H S env ∧ Same S1 S ∧ I i env, ⟨_, rfl, Nat.zero_le _, S1, env, k1, Same.refl S1, h0⟩, ?_⟩
  rintro i n σ H ⟨rfl, hi, S, env, k, s, hI⟩
  obtain ⟨go, stop⟩ := it c rfl i σ H S env k s
  by_cases hlt : i < xs.length
  · have e : xs[i]? = some xs[i] := by simp [hlt]
    obtain ⟨g1, g2⟩ := go _ e
    refine .inr ⟨g1, fun σ H => ∃ S env, Kn c σ H S env ∧ Same S1 S ∧ I (i + 1) env, fun σ' H' ⟨S', env', k', s', h'⟩ => ⟨_, by omega, rfl, hlt, S', env', k', s', h'⟩, fun v H' y => ?_⟩
    obtain ⟨S', k', s', r'⟩ := g2 v H' y
    refine s2 c σ H' S' env _ v _ k' r' (hstep i _ env e hI) _ fun σ2 H2 S2 env2 k2 s5 _ t2 => ?_
    have s6 : Same S1 S2 := (s.trans s').trans s5
    refine s3 c σ2 H2 S2 env2 { Q with nx := I (i + 1), ct := I (i + 1), bk := Q.nx } x k2 t2 _ ⟨fun σ3 H3 S3 env3 k3 s7 t3 => ⟨S3, env3, k3, s6.trans s7, t3⟩, (m1.mono s6).2.1, fun σ3 H3 S3 env3 k3 s7 t3 => m1.1 σ3 H3 S3 env3 k3 (s6.trans s7) t3, fun σ3 H3 S3 env3 k3 s7 t3 => ⟨S3, env3, k3, s6.trans s7, t3⟩⟩
  · have e : i = xs.length := by omega
    subst e
    exact .inl ⟨stop (Nat.le_refl _), m1.1 σ H S env k s (hend env hI)⟩
end
end DL
namespace DL
open PySem PySem.Spec L2
variable [TbC]
def canE (E : XK) (T : DT) : TE := fun σ H Q => ∃ (c : Fm) (S : Hp) (env : En) (R : D → Prop) (Rx : Er → Prop), XOk c E Rx ∧ Kn c σ H S env ∧ T env R Rx ∧ ∀ v H' S' d, Kn c σ H' S' env → Same S S' → Rep c.B S' d v → R d → Q v H'
theorem sm_can {E : XK} {T : DT} : Sm E (canE E T) T := fun c σ H S env R Rx x k t Q q => ⟨c, S, env, R, Rx, x, k, t, q⟩
theorem pe_can {X : Cx} {E : XK} {e : Expr} {T : DT} (h : DE X E e T) : PE X e (canE E T) := by
  obtain ⟨t, p, s⟩ := h
  exact ⟨fun pins st σ H Q I ⟨c, S, env, R, Rx, x, k, t, q⟩ => p.run pins st σ H Q I (s c σ H S env R Rx x k t Q q)⟩
def canT (E : XK) (T : DTT) : TT := fun σ H Q => ∃ (c : Fm) (S : Hp) (env : En) (R : Bool → Prop) (Rx : Er → Prop), XOk c E Rx ∧ Kn c σ H S env ∧ T env R Rx ∧ ∀ b H' S', Kn c σ H' S' env → Same S S' → R b → Q b H'
theorem smT_can {E : XK} {T : DTT} : SmT E (canT E T) T := fun c σ H S env R Rx x k t Q q => ⟨c, S, env, R, Rx, x, k, t, q⟩
def DTs (X : Cx) (E : XK) (es : List Expr) (T : DTT) : Prop := ∃ t, PTs X es t ∧ SmT E t T
theorem pts_can {X : Cx} {E : XK} {e : List Expr} {T : DTT} (h : DTs X E e T) : PTs X e (canT E T) := by
  obtain ⟨t, p, s⟩ := h
  exact ⟨fun pins st σ H Q I ⟨c, S, env, R, Rx, x, k, t, q⟩ => p.run pins st σ H Q I (s c σ H S env R Rx x k t Q q)⟩
def canG (G : DG) (js : List Nat) : TG := fun v σ H P => ∃ (c : Fm) (S : Hp) (env : En) (d : D) (N : En → Prop), Kn c σ H S env ∧ Rep c.B S d v ∧ G d env N ∧ ∀ σ' H' S' env', Kn c σ' H' S' env' → Same S S' → Wip js σ σ' → N env' → P σ' H'
theorem smG_can {G : DG} {js : List Nat} : SmG (canG G js) G js := fun c σ H S env d v N k r t P q => ⟨c, S, env, d, N, k, r, t, q⟩
theorem pg_can {X : Cx} {e : Expr} {G : DG} {js : List Nat} (h : DGt X e G js) : PG X e (canG G js) := by
  obtain ⟨g, p, s⟩ := h
  exact ⟨fun pins st σ H v u Q I r ⟨c, S, env, d, N, k, r2, t, q⟩ => p.run pins st σ H v u Q I r (s c σ H S env d v N k r2 t Q q)⟩
def xYes : DTT := fun _ R _ => R true
section
variable {X : Cx} {E : XK} {a : Expr} {T : DTT}
theorem dts_nil : DTs X E [] xYes := ⟨_, pts_nil, fun c σ H S env R Rx x k t Q q => q true H S k (Same.refl S) t⟩
end
abbrev noX : Er → Prop := fun _ => False
theorem xok0 {c : Fm} {E : XK} : XOk c E noX := fun er d vs H S k r l h _ _ z => z.elim
def Fm.at (c : Fm) (H S : Hp) : Fm := ⟨c.B, c.C, H, S⟩
section
variable {c : Fm} {σ : St} {H H' S S' : Hp} {env : En}
theorem Kf.at (k : Kf c H S) : Kf (c.at H S) H S := ⟨k.sub, Same.refl S, fun _ _ e _ => e, fun a e _ => e, fun b e => ⟨(k.bag b e).1, by
  obtain ⟨⟨_, cs, i, g, st, n, q, _⟩, _⟩ := k.bag b e
  show H b ≠ none
  rw [q]
  exact fun z => nomatch z⟩, ⟨k.tab.1, fun p hp => k.tab.1.ne hp⟩⟩
theorem Kn.back (k : Kn c σ H S env) (k' : Kf (c.at H S) H' S') : Kn c σ H' S' env := k.step k'.s0 k'.sub (fun a o e n => k'.old a o e n) (fun a e n => k'.new a e n) (fun b e => (k'.bag b e).1) k'.tab.1
theorem Kf.back' (k : Kf c H S) (k' : Kf (c.at H S) H' S') : Kf c H' S' := k.step k'.s0 k'.sub (fun a o e n => k'.old a o e n) (fun a e n => k'.new a e n) (fun b e => (k'.bag b e).1) k'.tab.1
theorem XOk.at {E : XK} {Rx : Er → Prop} (x : XOk c E Rx) (k : Kf c H S) : XOk (c.at H S) E Rx := fun er d vs H1 S1 k1 r l h n0 n1 z => x er d vs H1 S1 (k.back' k1) r l h (k.h0_none n0) n1 z
end
def inner : List Nat → En → En
  | [], env => env.map fun o => match o with
    | some (.val d) => some (.val d)
    | _ => none
  | i :: vs, env => (inner vs env).set i none
theorem inner_len {env : En} : ∀ vs : List Nat, (inner vs env).length = env.length
  | [] => by simp [inner]
  | i :: vs => by simp [inner, inner_len vs]
theorem inner_get {env : En} {i : Nat} {x : DV} : ∀ {vs : List Nat}, (inner vs env)[i]? = some (some x) → (∃ d, x = .val d ∧ env[i]? = some (some (.val d))) ∧ i ∉ vs
  | [], h => by
    refine ⟨?_, by simp⟩
    simp only [inner, List.getElem?_map] at h
    cases e : env[i]? with
    | none => rw [e] at h; cases h
    | some o =>
      rw [e] at h
      cases o with
      | none => cases h
      | some y =>
        cases y with
        | val d => cases h; exact ⟨d, rfl, rfl⟩
        | own _ => cases h
        | tre _ _ => cases h
  | v :: vs, h => by
    show _ ∧ i ∉ v :: vs
    simp only [inner] at h
    by_cases z : v = i
    · subst z
      rw [List.getElem?_set] at h
      simp only [if_true] at h
      split at h <;> cases h
    · rw [List.getElem?_set_ne z] at h
      obtain ⟨a, b⟩ := inner_get h
      exact ⟨a, by simp only [List.mem_cons, not_or]; exact ⟨fun e => z e.symm, b⟩⟩
theorem wipe_get {σ : St} {i : Nat} : ∀ {vs : List Nat}, i ∉ vs → (wipe σ vs)[i]? = σ[i]?
  | [], _ => rfl
  | v :: vs, h => by
    simp only [List.mem_cons, not_or] at h
    show ((wipe σ vs).set v none)[i]? = _
    rw [List.getElem?_set_ne (Ne.symm h.1), wipe_get h.2]
theorem wipe_in {j : Nat} : ∀ {us : List Nat} {τ : St}, j ∈ us → (wipe τ us)[j]? = if j < τ.length then some none else none
  | [], _, h => nomatch h
  | u :: us, τ, h => by
    show ((wipe τ us).set u none)[j]? = _
    by_cases hu : u = j
    · subst hu
      rw [List.getElem?_set]
      simp only [if_true, wipe_length]
    · rw [List.getElem?_set_ne hu]
      refine wipe_in ?_
      rcases List.mem_cons.mp h with e | e
      · exact absurd e.symm hu
      · exact e
theorem wipe_wipe (σ : St) (us : List Nat) : wipe (wipe σ us) us = wipe σ us := by
  apply List.ext_getElem?
  intro j
  by_cases hj : j ∈ us
  · rw [wipe_in hj, wipe_in hj, wipe_length]
  · rw [wipe_get hj, wipe_get hj]
theorem Kn.inner {c : Fm} {σ : St} {H S : Hp} {env : En} (k : Kn c σ H S env) (vs : List Nat) : Kn (c.at H S) (wipe σ vs) H S (inner vs env) := by
  refine ⟨k.kf.at, by rw [inner_len, wipe_length]; exact k.len, fun i x e => ?_, fun i j x y v u a _ e _ _ _ f _ => ?_⟩
  · obtain ⟨⟨d, rfl, e1⟩, hi⟩ := inner_get e
    obtain ⟨v, e2, r⟩ := k.sl i _ e1
    exact ⟨v, by rw [wipe_get hi]; exact e2, r⟩
  · obtain ⟨⟨d, rfl, _⟩, _⟩ := inner_get e
    exact f
def xLcF (Ti : DTI) (G : DG) (Tt : DTT) (Te : DT) (vs : List Nat) : DTF := fun env R Rx => Ti env (fun xs => ∃ I : Nat → List D → Prop, I 0 [] ∧
  (∀ i d acc, xs[i]? = some d → I i acc → G d (inner vs env) fun env' => Tt env' (fun b => (b = true → Te env' (fun y => acc.length < sizeLine ∧ I (i + 1) (acc ++ [y])) noX) ∧ (b = false → I (i + 1) acc)) noX) ∧
  ∀ acc, I xs.length acc → R acc) Rx
section
variable {X : Cx} {E : XK} {elt tg iter : Expr} {ifs : List Expr} {scope : Scope} {own : List (Str × Nat)} {pos : Pos} {Ti : DTI} {G : DG} {Tt : DTT} {Te : DT} {js : List Nat}
theorem smF_lc {wi : TI} (hsub : ∀ j ∈ js, j ∈ own.map (·.2)) (hi : SmI E wi Ti) : SmF E (tLc wi (canG G js) (canT E0 Tt) (canE E0 Te) (own.map (·.2))) (xLcF Ti G Tt Te (own.map (·.2))) := fun c σ H S env R Rx x k t Q q =>
  hi c σ H S env _ Rx x k t _ fun J H1 S1 xs k1 s1 it t1 => by
    obtain ⟨I, h0, hstep, hend⟩ := t1
    intro D hD
    have n0 := k1.kf.h0_none hD
    have fD := k1.free hD
    refine ⟨fun i m H => m = xs.length - i ∧ i ≤ xs.length ∧ ∃ S vs acc, Kn c σ H S env ∧ Same S1 S ∧ S D = none ∧ H D = some (.lst vs) ∧ RepL c.B S acc vs ∧ I i acc,
      ⟨_, rfl, Nat.zero_le _, S1, [], [], k1.new0 hD, Same.refl S1, k1.kf.s_none hD, upd_same, repL_nil, h0⟩, ?_⟩
    rintro i m H ⟨rfl, hil, S, vs, acc, k, s, nD, eD, l, hI⟩
    have ki := k.inner (own.map (·.2))
    obtain ⟨go, stop⟩ := it (c.at H S) rfl i _ H S _ ki s
    by_cases hlt : i < xs.length
    · have e : xs[i]? = some xs[i] := by simp [hlt]
      obtain ⟨g1, g2⟩ := go _ e
      refine .inr ⟨g1, fun H => i + 1 ≤ xs.length ∧ ∃ S vs acc, Kn c σ H S env ∧ Same S1 S ∧ S D = none ∧ H D = some (.lst vs) ∧ RepL c.B S acc vs ∧ I (i + 1) acc, fun H' h => ⟨_, by omega, rfl, h⟩, fun v H' y => ?_⟩
      obtain ⟨S', k', s', r'⟩ := g2 v H' y
      refine smG_can (c.at H S) _ H' S' _ _ v _ k' r' (hstep i _ acc e hI) _ fun σ2 H2 S2 env2 k2 s2 w2 t2 => ?_
      refine ⟨?_, ?_⟩
      · have := w2 (own.map (·.2)) hsub
        rw [this]
        exact wipe_wipe _ _
      · refine smT_can (c.at H S) σ2 H2 S2 env2 _ noX xok0 k2 t2 _ fun b H3 S3 k3 s3 t3 => ?_
        have fin : ∀ {H4 S4 : Hp}, Kf (c.at H S) H4 S4 → Kn c σ H4 S4 env ∧ H4 D = some (.lst vs) ∧ S4 D = none ∧ RepL c.B S4 acc vs ∧ Same S1 S4 := fun {H4 S4} kf => by
          refine ⟨k.back kf, kf.old D _ eD (k.kf.x_ne0 n0), kf.new D nD (mu_lst eD), repL_mono kf.s0 acc vs l, s.trans kf.s0⟩
        cases b with
        | true =>
          refine iteT ?_
          refine sm_can (c.at H S) σ2 H3 S3 env2 _ noX xok0 k3 (t3.1 rfl) _ fun u H4 S4 d4 k4 s4 r4 t4 => ?_
          obtain ⟨kn, eD4, nD4, l4, ss⟩ := fin k4.kf
          have l5 := l4.app (repL_cons r4 repL_nil)
          refine ⟨vs, eD4, by rw [l4.length]; exact t4.1, hlt, S4, _, _, ?_, ss, nD4, upd_same, l5, t4.2⟩
          -- the list at D changes: nobody knows it
          exact kn.updF nD4 n0 eD4 lst_ne fD
        | false =>
          refine iteF ?_
          obtain ⟨kn, eD4, nD4, l4, ss⟩ := fin k3.kf
          exact ⟨hlt, S3, vs, acc, kn, ss, nD4, eD4, l4, t3.2 rfl⟩
    · have e : i = xs.length := by omega
      subst e
      exact .inl ⟨stop (Nat.le_refl _), q D vs H S acc k (s1.trans s) n0 fD nD eD l (hend acc hI)⟩
theorem f_lc (hc : X.calm = true) (hN : X.N.Nodup) (hi : DI X E tg iter Ti) (ok : BlkOk X.N X.env.scope scope own) (hsub : ∀ j ∈ js, j ∈ own.map (·.2))
    (hg : ∀ (s : Shared) (H : Hp) (C : Addr) (cl : List (Str × Addr)) (fp : List Addr), DGt (X.blk s H scope (compEnvC scope cl C X.env) fp) tg G js)
    (ht : ∀ (s : Shared) (H : Hp) (C : Addr) (cl : List (Str × Addr)) (fp : List Addr), DTs (X.blk s H scope (compEnvC scope cl C X.env) fp) E0 ifs Tt)
    (he : ∀ (s : Shared) (H : Hp) (C : Addr) (cl : List (Str × Addr)) (fp : List Addr), DE (X.blk s H scope (compEnvC scope cl C X.env) fp) E0 elt Te)
    (hs : ∀ x, foldedSetIterable iter X.env x = pure x := by intro _; rfl) : DF X E (.ListComp elt [⟨tg, iter, ifs, 0⟩] scope pos) (xLcF Ti G Tt Te (own.map (·.2))) := by
  obtain ⟨wi, p, s⟩ := hi
  exact ⟨_, pe_lc hc hN p ok (fun s H C cl fp => pg_can (hg s H C cl fp)) (fun s H C cl fp => pts_can (ht s H C cl fp)) (fun s H C cl fp => pe_can (he s H C cl fp)) hs, smF_lc hsub s⟩
end
abbrev Spec := List D → (D → Prop) → (Er → Prop) → Prop
def spD (F : Spec) : Sp := fun vs H Q E => ∃ (c : Fm) (S : Hp) (ds : List D) (R : D → Prop) (Rx : Er → Prop), c.H0 = H ∧ c.S0 = S ∧ Kf c H S ∧ RepL c.B S ds vs ∧ F ds R Rx ∧ (∀ v H' S' d, Kf c H' S' → Rep c.B S' d v → R d → Q v H') ∧ XOk c E Rx
def xCall (F : Spec) (dds : List D) (Tl : DTA) : DT := fun env R Rx => Tl env (fun xs => F (xs ++ dds) R Rx) Rx
def DfR (dds : List D) (dvs : List V) : Prop := ∀ B S, RepL B S dds dvs
theorem dfR_nil : DfR [] [] := fun _ _ => repL_nil
section
variable {X : Cx} {E : XK} {CX : CXT} {k n : Nat} {f : Addr} {fd : FuncData} {ps ks : List Str} {F : Spec} {dvs : List V} {dds : List D} {ds : List Value} {x : Str} {p pos : Pos} {e : Expr} {es : List Expr} {Tl Tk : DTA} {kws : List Keyword}
theorem sp_call {c : Fm} {σ : St} {H S : Hp} {env : En} {vs : List V} {xs : List D} {R : D → Prop} {Rx : Er → Prop} {Q : VK} (kn : Kn c σ H S env) (x : XOk c E Rx) (l : RepL c.B S xs vs) (t : F xs R Rx)
    (q : ∀ v H' S' d, Kn c σ H' S' env → Same S S' → Rep c.B S' d v → R d → Q v H') : spD F vs H Q E :=
  ⟨c.at H S, S, xs, R, Rx, rfl, rfl, kn.kf.at, l, t, fun v H' S' d k' r z => q v H' S' d (kn.back k') k'.s0 r z, x.at kn.kf⟩
theorem d_call (G : FnOk X.prog X.w X.K X.mg X.base CX k f fd ps (spD F)) (hr : Room k X.A) (hm : X.mg x = some (.ref f)) (hk : PySem.W.keepIn X.K (.ref f) = true) (hb : Binds X.K fd ps ds) (hd : Vals dvs ds) (hdd : DfR dds dvs) (hx : Passes CX X E) (ha : DA X E (e :: es) Tl)
    (hg : Gl X x := by rfl) (hdb : (x == ("__debug__" : Str)) = false := by decide) (he : starEach (e :: es) X.env = (false, eval e X.env) :: starEach es X.env := by rfl) (hpl : (backTo pos (starEach es X.env)).any (·.1) = false := by rfl) :
    DE X E (.Call (.Name x p) (e :: es) [] pos) (xCall F dds Tl) := by
  obtain ⟨t, pa, s⟩ := ha
  refine ⟨_, pe_call G hr hg hm hk hb hd hx pa hdb he hpl, fun c σ H S env R Rx x k t Q q => s c σ H S env _ Rx x k t _ fun vs H1 S1 xs k1 s1 l1 t1 => ?_⟩
  exact sp_call k1 x (l1.app (hdd _ _)) t1 fun v H' S' d k' s' r' t' => q v H' S' d k' (s1.trans s') r' t'
/-- f(.., k = v, ..) -/
def DK (X : Cx) (E : XK) (kws : List Keyword) (T : DTA) : Prop := ∃ t, PK X kws t ∧ SmA E t T
theorem dk_nil : DK X E [] xNil := ⟨_, pk_nil, fun c σ H S env R Rx x k t Q q => q [] H S [] k (Same.refl S) repL_nil t⟩
theorem dk_cons {nm : Option Str} {kpos : Pos} {Ta : DT} (ha : DE X E e Ta) (hl : DK X E kws Tk) : DK X E (⟨nm, e, kpos⟩ :: kws) (xCons Ta Tk) := by
  obtain ⟨ta, p, s⟩ := ha
  obtain ⟨t, p2, s2⟩ := hl
  exact ⟨_, pk_cons p p2, smA_cons s s2⟩
def xCallK (F : Spec) (g : List D → List D → List D) (Tl Tk : DTA) : DT := fun env R Rx => Tl env (fun xs => Tk env (fun zs => F (g xs zs) R Rx) Rx) Rx
end
/-- the names at the entry -/
def startE (N : List Str) (ds : List D) : En := ds.map (fun d => some (.val d)) ++ List.replicate (N.length - ds.length) none
theorem kn_start {c : Fm} {N : List Str} {ds : List D} {vs : List V} {H S : Hp} (k : Kf c H S) (l : RepL c.B S ds vs) : Kn c (L2.start N vs) H S (startE N ds) := by
  have hl := l.length
  refine ⟨k, by unfold startE L2.start; simp [hl], fun i x e => ?_, fun i j x y v u a _ e _ _ _ f _ => ?_⟩
  · unfold startE at e
    unfold L2.start
    by_cases hi : i < ds.length
    · rw [List.getElem?_append_left (by simpa using hi), List.getElem?_map] at e
      cases ed : ds[i]? with
      | none => rw [ed] at e; cases e
      | some d =>
        rw [ed] at e
        cases e
        obtain ⟨v, ev, r⟩ := l.get ed
        exact ⟨v, by rw [List.getElem?_append_left (by simp; omega), List.getElem?_map, ev]; rfl, r⟩
    · rw [List.getElem?_append_right (by simpa using hi), List.getElem?_replicate] at e
      split at e <;> cases e
  · unfold startE at e
    by_cases hi : i < ds.length
    · rw [List.getElem?_append_left (by simpa using hi), List.getElem?_map] at e
      cases ed : ds[i]? with
      | none => rw [ed] at e; cases e
      | some d =>
        rw [ed] at e
        cases e
        exact f
    · rw [List.getElem?_append_right (by simpa using hi), List.getElem?_replicate] at e
      split at e <;> cases e
section
variable {P : Program} {w : World} {K : PySem.W.Frag} {mg : Str → Option Value} {base : Heap} {x qual : Str} {st : Stmt} {dvs : List V} {kws : List (Str × V)} {f : Addr} {fd : FuncData} {N ps : List Str} {k : Nat} {F : Spec}
abbrev FnS (K : PySem.W.Frag) (x qual : Str) (st : Stmt) (dvs : List V) (kws : List (Str × V)) (f : Addr) (fd : FuncData) : Prop := FunD K x qual (defArgs st) (defBody st) (defScope st) dvs kws f fd
/-- THE RULE for a def: its body told by T, and what T says -/
theorem fn_d {T : DTS} (Fd : FnS K x qual st dvs kws f fd) (S : FnScope N ps (defScope st)) (len : ∀ ds R Rx, F ds R Rx → ds.length = ps.length)
    (hbody : ∀ (cdv : Value) (A : Around) (outer : List Env) (s : Shared) (H : Hp) (E : XK), Room k (A.deeper (PyProof.Rows.envOfC qual (defScope st) s.heap.objs.size f cdv)) →
      DSs (cxOf (L2.CX P w) P w K mg base N qual (defScope st) f cdv A outer s H E) E (defBody st) T)
    (hT : ∀ ds R Rx, F ds R Rx → T { nx := fun _ => R .non, rt := fun _ => R, ex := Rx } (startE N ds)) : FnOk P w K mg base (L2.CX P w) (k + 1) f fd ps (spD F) := by
  refine FunD.ok Fd S (fun vs H Q E ⟨c, S, ds, R, Rx, _, _, _, l, h, _⟩ => by rw [l.length]; exact len _ _ _ h) fun cdv A outer s H vs Q E hr hsp => ?_
  obtain ⟨c, Sh, ds, R, Rx, h0, hs0, kf, l, h, q, xo⟩ := hsp
  obtain ⟨t, p, sm⟩ := hbody cdv A outer s H E hr
  refine ⟨t, p, sm c _ H Sh _ _ xo (kn_start kf l) (hT ds R Rx h) _ ⟨fun σ H1 S1 env k1 s1 r1 => ?_, fun n v H1 S1 d k1 s1 r1 t1 => by
    obtain ⟨S2, k2, _, r2⟩ := r1.old k1
    exact q v H1 S2 d k2 r2 t1, fun σ H1 S1 env k1 s1 r1 => r1, fun σ H1 S1 env k1 s1 r1 => r1⟩⟩
  exact q .non H1 S1 .non k1.kf rfl r1
end
end DL
namespace DL
open PySem PySem.Spec L2
variable [TbC]
theorem pass_d {P : Program} {w : World} {K : PySem.W.Frag} {mg : Str → Option Value} {base : Heap} {N : List Str} {qual : Str} {scope : Scope} {f : Addr} {cd : Value} {A : Around} {outer : List Env} {s : Shared} {H : Hp} {E : XK} :
    Passes (L2.CX P w) (cxOf (L2.CX P w) P w K mg base N qual scope f cd A outer s H E) E := passes_call (takes_of rfl rfl rfl rfl) fun _ _ _ _ h => h
/-- a def of the module's top without defaults -/
structure Df (K : PySem.W.Frag) (mg : Str → Option Value) (x : Str) (st : Stmt) where
  f : Addr
  fd : FuncData
  F : FnS K x x st [] [] f fd
  g : mg x = some (.ref f)
section
variable {R : D → Prop} {i j : Int} {b : Bool} {s t : Str} {xs ys : List D} {x y d : D} {env : En} {Rx : Er → Prop}
theorem opAdd_int : opAdd (.int i) (.int j) R = R (.int (i + j)) := rfl
theorem opAdd_str : opAdd (.str s) (.str t) R = (s.length + t.length ≤ sizeLine ∧ R (.str (s ++ t))) := rfl
theorem opAdd_lst : opAdd (.lst xs) (.lst ys) R = (xs.length + ys.length ≤ sizeLine ∧ R (.lst (xs ++ ys))) := rfl
theorem opAdd_tup : opAdd (.tup xs) (.tup ys) R = (xs.length + ys.length ≤ sizeLine ∧ R (.tup (xs ++ ys))) := rfl
theorem opSub_int : opSub (.int i) (.int j) R = R (.int (i - j)) := rfl
theorem opMul_int : opMul (.int i) (.int j) R = (MulOk i j ∧ R (.int (i * j))) := rfl
theorem opMul_lst : opMul (.lst xs) (.int j) R = (-(2 ^ 63) ≤ j ∧ j < 2 ^ 63 ∧ xs.length * j.toNat ≤ sizeLine ∧ R (.lst (List.replicate j.toNat xs).flatten)) := rfl
theorem opMul_str : opMul (.str s) (.int j) R = (-(2 ^ 63) ≤ j ∧ j < 2 ^ 63 ∧ s.length * j.toNat ≤ sizeLine ∧ R (.str (mulS s j.toNat))) := rfl
theorem opFdiv_int : opFdiv (.int i) (.int j) R = (DivOk j ∧ R (.int (i.fdiv j))) := rfl
theorem opMod_int : opMod (.int i) (.int j) R = (j ≠ 0 ∧ R (.int (i.fmod j))) := rfl
theorem opPow_int : opPow (.int i) (.int j) R = ((0 ≤ j ∧ j ≤ 1000000 ∧ i.natAbs < 2 ^ 64) ∧ R (.int (i ^ j.toNat))) := rfl
theorem opNeg_int : opNeg (.int i) R = R (.int (-i)) := rfl
theorem opLt_int : opLt (.int i) (.int j) R = R (.bl (decide (i < j))) := rfl
theorem opLe_int : opLe (.int i) (.int j) R = R (.bl (decide (i ≤ j))) := rfl
theorem opGt_int : opGt (.int i) (.int j) R = R (.bl (decide (j < i))) := rfl
theorem opGe_int : opGe (.int i) (.int j) R = R (.bl (decide (j ≤ i))) := rfl
theorem opIx_lst : opIx (.lst xs) (.int i) R = ∃ d, atI xs i = some d ∧ R d := rfl
theorem opIx_tup : opIx (.tup xs) (.int i) R = ∃ d, atI xs i = some d ∧ R d := rfl
theorem opIx_str : opIx (.str s) (.int i) R = (s.length ≤ sizeLine ∧ ∃ c, atI s.cps.toList i = some c ∧ R (.str ⟨#[c]⟩)) := rfl
theorem opSl_lst {lo hi : Option Int} : opSl (.lst xs) lo hi R = R (.lst (cutD xs lo hi)) := rfl
theorem opSl_tup {lo hi : Option Int} : opSl (.tup xs) lo hi R = R (.tup (cutD xs lo hi)) := rfl
theorem opSl_str {lo hi : Option Int} : opSl (.str s) lo hi R = (s.length ≤ sizeLine ∧ R (.str (cutS s lo hi))) := rfl
theorem asB_bl {Q : Bool → Prop} : asB Q (.bl b) = Q b := rfl
theorem asI_int {Q : Int → Prop} : asI Q (.int i) = Q i := rfl
theorem asL_lst {Q : List D → Prop} : asL Q (.lst xs) = Q xs := rfl
theorem asLT_lst {Q : List D → Prop} : asLT Q (.lst xs) = Q xs := rfl
theorem asLT_tup {Q : List D → Prop} : asLT Q (.tup xs) = Q xs := rfl
theorem fLen_lst : fLen [.lst xs] R = R (.int (xs.length : Nat)) := rfl
theorem fLen_tup : fLen [.tup xs] R = R (.int (xs.length : Nat)) := rfl
theorem fLen_str : fLen [.str s] R = (s.length ≤ sizeLine ∧ R (.int (s.length : Nat))) := rfl
theorem fInt_int : fInt [.int i] R = R (.int i) := rfl
theorem fInt_bl : fInt [.bl b] R = R (.int (if b then 1 else 0)) := rfl
theorem fAbs_int : fAbs [.int i] R = R (.int (if i < 0 then -i else i)) := rfl
theorem fMin2_int : fMin2 [.int i, .int j] R = R (.int (if j < i then j else i)) := rfl
theorem fMax2_int : fMax2 [.int i, .int j] R = R (.int (if j > i then j else i)) := rfl
theorem fSum_lst : fSum [.lst xs] R = ∃ ns, asInts xs = some ns ∧ R (.int ns.sum) := rfl
theorem fAny_lst : fAny [.lst xs] R = ∃ ns, asBls xs = some ns ∧ R (.bl (ns.any _root_.id)) := rfl
theorem fAll_lst : fAll [.lst xs] R = ∃ ns, asBls xs = some ns ∧ R (.bl (ns.all _root_.id)) := rfl
theorem fTuple_lst : fTuple [.lst xs] R = R (.tup xs) := rfl
theorem fTuple_tup : fTuple [.tup xs] R = R (.tup xs) := rfl
/-- isinstance of built-in types, answered -/
theorem fIsi_1 {n : String} {bb : Bool} (h : n ∈ tys) (e : x.isi n = some bb) : fIsi [x, .ty n] R = R (.bl bb) := by
  refine propext ⟨fun t => ?_, fun t => ⟨h, bb, e, t⟩⟩
  obtain ⟨_, b2, e2, t⟩ := t
  rw [e] at e2
  cases e2
  exact t
theorem fIsi_2 {n m : String} {bb bc : Bool} (h : n ∈ tys) (h2 : m ∈ tys) (e : x.isi n = some bb) (e2 : x.isi m = some bc) : fIsi [x, .tup [.ty n, .ty m]] R = R (.bl (bb || bc)) := by
  refine propext ⟨fun t => ?_, fun t => ⟨h, h2, bb, bc, e, e2, t⟩⟩
  obtain ⟨_, _, b2, b3, e3, e4, t⟩ := t
  rw [e] at e3
  rw [e2] at e4
  cases e3
  cases e4
  exact t
theorem xVar_at {n : Nat} (h : env[n]? = some (some (.val d))) : xVar n env R Rx = R d := by
  refine propext ⟨fun ⟨d', e, t⟩ => ?_, fun t => ⟨d, h, t⟩⟩
  rw [h] at e
  cases e
  exact t
theorem xVar_0 {l : En} : xVar 0 (some (.val d) :: l) R Rx = R d := xVar_at rfl
theorem xVar_s {n : Nat} {o : Option DV} {l : En} : xVar (n + 1) (o :: l) R Rx = xVar n l R Rx := rfl
theorem put_0 {o : Option DV} {l : En} : put 0 d (o :: l) = some (.val d) :: l := rfl
theorem put_s {n : Nat} {o : Option DV} {l : En} : put (n + 1) d (o :: l) = o :: put n d l := rfl
theorem putO_0 {o : Option DV} {l : En} : putO' 0 xs (o :: l) = some (.own xs) :: l := rfl
theorem putO_s {n : Nat} {o : Option DV} {l : En} : putO' (n + 1) xs (o :: l) = o :: putO' n xs l := rfl
end
section
variable {R : D → Prop} {i : Int} {b : Bool} {s : Str} {xs : List D}
theorem isi_non_int : fIsi [.non, .ty "int"] R = R (.bl false) := fIsi_1 (by decide) rfl
theorem isi_non_bool : fIsi [.non, .ty "bool"] R = R (.bl false) := fIsi_1 (by decide) rfl
theorem isi_non_str : fIsi [.non, .ty "str"] R = R (.bl false) := fIsi_1 (by decide) rfl
theorem isi_non_list : fIsi [.non, .ty "list"] R = R (.bl false) := fIsi_1 (by decide) rfl
theorem isi_non_tuple : fIsi [.non, .ty "tuple"] R = R (.bl false) := fIsi_1 (by decide) rfl
theorem isi_non_lt : fIsi [.non, .tup [.ty "list", .ty "tuple"]] R = R (.bl false) := fIsi_2 (bb := false) (bc := false) (n := "list") (m := "tuple") (by decide) (by decide) rfl rfl
theorem isi_bl_int : fIsi [(.bl b), .ty "int"] R = R (.bl true) := fIsi_1 (by decide) rfl
theorem isi_bl_bool : fIsi [(.bl b), .ty "bool"] R = R (.bl true) := fIsi_1 (by decide) rfl
theorem isi_bl_str : fIsi [(.bl b), .ty "str"] R = R (.bl false) := fIsi_1 (by decide) rfl
theorem isi_bl_list : fIsi [(.bl b), .ty "list"] R = R (.bl false) := fIsi_1 (by decide) rfl
theorem isi_bl_tuple : fIsi [(.bl b), .ty "tuple"] R = R (.bl false) := fIsi_1 (by decide) rfl
theorem isi_bl_lt : fIsi [(.bl b), .tup [.ty "list", .ty "tuple"]] R = R (.bl false) := fIsi_2 (bb := false) (bc := false) (n := "list") (m := "tuple") (by decide) (by decide) rfl rfl
theorem isi_int_int : fIsi [(.int i), .ty "int"] R = R (.bl true) := fIsi_1 (by decide) rfl
theorem isi_int_bool : fIsi [(.int i), .ty "bool"] R = R (.bl false) := fIsi_1 (by decide) rfl
theorem isi_int_str : fIsi [(.int i), .ty "str"] R = R (.bl false) := fIsi_1 (by decide) rfl
theorem isi_int_list : fIsi [(.int i), .ty "list"] R = R (.bl false) := fIsi_1 (by decide) rfl
theorem isi_int_tuple : fIsi [(.int i), .ty "tuple"] R = R (.bl false) := fIsi_1 (by decide) rfl
theorem isi_int_lt : fIsi [(.int i), .tup [.ty "list", .ty "tuple"]] R = R (.bl false) := fIsi_2 (bb := false) (bc := false) (n := "list") (m := "tuple") (by decide) (by decide) rfl rfl
theorem isi_str_int : fIsi [(.str s), .ty "int"] R = R (.bl false) := fIsi_1 (by decide) rfl
theorem isi_str_bool : fIsi [(.str s), .ty "bool"] R = R (.bl false) := fIsi_1 (by decide) rfl
theorem isi_str_str : fIsi [(.str s), .ty "str"] R = R (.bl true) := fIsi_1 (by decide) rfl
theorem isi_str_list : fIsi [(.str s), .ty "list"] R = R (.bl false) := fIsi_1 (by decide) rfl
theorem isi_str_tuple : fIsi [(.str s), .ty "tuple"] R = R (.bl false) := fIsi_1 (by decide) rfl
theorem isi_str_lt : fIsi [(.str s), .tup [.ty "list", .ty "tuple"]] R = R (.bl false) := fIsi_2 (bb := false) (bc := false) (n := "list") (m := "tuple") (by decide) (by decide) rfl rfl
theorem isi_lst_int : fIsi [(.lst xs), .ty "int"] R = R (.bl false) := fIsi_1 (by decide) rfl
theorem isi_lst_bool : fIsi [(.lst xs), .ty "bool"] R = R (.bl false) := fIsi_1 (by decide) rfl
theorem isi_lst_str : fIsi [(.lst xs), .ty "str"] R = R (.bl false) := fIsi_1 (by decide) rfl
theorem isi_lst_list : fIsi [(.lst xs), .ty "list"] R = R (.bl true) := fIsi_1 (by decide) rfl
theorem isi_lst_tuple : fIsi [(.lst xs), .ty "tuple"] R = R (.bl false) := fIsi_1 (by decide) rfl
theorem isi_lst_lt : fIsi [(.lst xs), .tup [.ty "list", .ty "tuple"]] R = R (.bl true) := fIsi_2 (bb := true) (bc := false) (n := "list") (m := "tuple") (by decide) (by decide) rfl rfl
theorem isi_tup_int : fIsi [(.tup xs), .ty "int"] R = R (.bl false) := fIsi_1 (by decide) rfl
theorem isi_tup_bool : fIsi [(.tup xs), .ty "bool"] R = R (.bl false) := fIsi_1 (by decide) rfl
theorem isi_tup_str : fIsi [(.tup xs), .ty "str"] R = R (.bl false) := fIsi_1 (by decide) rfl
theorem isi_tup_list : fIsi [(.tup xs), .ty "list"] R = R (.bl false) := fIsi_1 (by decide) rfl
theorem isi_tup_tuple : fIsi [(.tup xs), .ty "tuple"] R = R (.bl true) := fIsi_1 (by decide) rfl
theorem isi_tup_lt : fIsi [(.tup xs), .tup [.ty "list", .ty "tuple"]] R = R (.bl true) := fIsi_2 (bb := false) (bc := true) (n := "list") (m := "tuple") (by decide) (by decide) rfl rfl
end
/-- data of at most n levels, each list within bounds -/
def Good : Nat → D → Prop
  | n + 1, .lst xs => xs.length ≤ 100000 ∧ ∀ x ∈ xs, Good n x
  | n + 1, .tup xs => xs.length ≤ 100000 ∧ ∀ x ∈ xs, Good n x
  | _ + 1, .non => True
  | _ + 1, .bl _ => True
  | _ + 1, .int _ => True
  | _ + 1, .str _ => True
  | _, _ => False
theorem datL_of {xs : List D} (h : ∀ x ∈ xs, x.dat = true) : datL xs = true := by
  induction xs with
  | nil => rfl
  | cons x xs ih =>
    show (x.dat && datL xs) = true
    rw [h x (List.mem_cons_self ..), ih fun y hy => h y (List.mem_cons_of_mem _ hy)]
    rfl
theorem depL_of {n : Nat} {xs : List D} (h : ∀ x ∈ xs, x.dep ≤ n) : depL xs ≤ n := by
  induction xs with
  | nil => exact Nat.zero_le _
  | cons x xs ih =>
    show max x.dep (depL xs) ≤ n
    have h1 := h x (List.mem_cons_self ..)
    have h2 := ih fun y hy => h y (List.mem_cons_of_mem _ hy)
    omega
theorem good_dat : ∀ {n : Nat} {d : D}, Good n d → d.dat = true ∧ d.dep ≤ n
  | 0, d, h => by cases d <;> exact (show False from h).elim
  | n + 1, d, h => by
    cases d <;> first
      | exact (show False from h).elim
      | exact ⟨rfl, by simp [D.dep]⟩
      | exact ⟨datL_of fun x hx => (good_dat (h.2 x hx)).1, by
          have : depL _ ≤ n := depL_of fun x hx => (good_dat (h.2 x hx)).2
          simp only [D.dep]
          omega⟩
theorem good_non {n : Nat} : Good (n + 1) .non = True := rfl
theorem good_bl {n : Nat} {b : Bool} : Good (n + 1) (.bl b) = True := rfl
theorem good_int {n : Nat} {i : Int} : Good (n + 1) (.int i) = True := rfl
theorem good_str {n : Nat} {s : Str} : Good (n + 1) (.str s) = True := rfl
theorem good_ints {n : Nat} {ns : List Int} (h : ns.length ≤ 100000) : Good (n + 2) (.lst (ns.map D.int)) := ⟨by rw [List.length_map]; exact h, fun x hx => by
  obtain ⟨i, _, rfl⟩ := List.mem_map.mp hx
  trivial⟩
theorem good_mono : ∀ {n m : Nat} {d : D}, Good n d → n ≤ m → Good m d
  | 0, _, d, h, _ => by cases d <;> exact (show False from h).elim
  | n + 1, 0, _, _, h => absurd h (by omega)
  | n + 1, m + 1, d, h, hm => by
    cases d <;> first
      | exact (show False from h).elim
      | trivial
      | exact ⟨h.1, fun x hx => good_mono (h.2 x hx) (by omega)⟩
/-- the words of comprehensions -/
def LcP (xs : List D) (G : DG) (Tt : DTT) (Te : DT) (vs : List Nat) (env : En) (R : List D → Prop) : Prop := ∃ I : Nat → List D → Prop, I 0 [] ∧
  (∀ i d acc, xs[i]? = some d → I i acc → G d (inner vs env) fun env' => Tt env' (fun b => (b = true → Te env' (fun y => acc.length < sizeLine ∧ I (i + 1) (acc ++ [y])) noX) ∧ (b = false → I (i + 1) acc)) noX) ∧
  ∀ acc, I xs.length acc → R acc
theorem xLcF_is {Ti : DTI} {G : DG} {Tt : DTT} {Te : DT} {vs : List Nat} {env : En} {R : List D → Prop} {Rx : Er → Prop} : xLcF Ti G Tt Te vs env R Rx = Ti env (fun xs => LcP xs G Tt Te vs env R) Rx := rfl
theorem take_succ_map {α β : Type} {xs : List α} {i : Nat} {d : α} (f : α → β) (e : xs[i]? = some d) : (xs.take (i + 1)).map f = (xs.take i).map f ++ [f d] := by
  rw [List.take_succ, e]
  simp
theorem LcP.map {xs : List D} {G : DG} {Te : DT} {vs : List Nat} {env : En} {R : List D → Prop} (f : D → D) (hz : xs.length ≤ sizeLine) (h : ∀ (i : Nat) (d : D) (N : D → Prop), xs[i]? = some d → N (f d) → G d (inner vs env) fun env' => Te env' N noX) (k : R (xs.map f)) :
    LcP xs G xYes Te vs env R := by
  refine ⟨fun i acc => acc = (xs.take i).map f, by simp, fun i d acc e hI => ?_, fun acc hI => by rw [hI, List.take_length]; exact k⟩
  have hi := (List.getElem?_eq_some_iff.mp e).1
  have key := h i d (fun y => acc.length < sizeLine ∧ acc ++ [y] = (xs.take (i + 1)).map f) e ⟨by rw [hI, List.length_map, List.length_take]; omega, by rw [hI, take_succ_map f e]⟩
  have e1 : (fun env' => xYes env' (fun b => (b = true → Te env' (fun y => acc.length < sizeLine ∧ acc ++ [y] = (xs.take (i + 1)).map f) noX) ∧ (b = false → acc = (xs.take (i + 1)).map f)) noX) = fun env' => Te env' (fun y => acc.length < sizeLine ∧ acc ++ [y] = (xs.take (i + 1)).map f) noX := by
    funext env'
    refine propext ⟨fun t => t.1 rfl, fun t => ⟨fun _ => t, fun z => nomatch z⟩⟩
  rw [e1]
  exact key
/-- the items are not told, but what is true of them -/
theorem LcP.all {xs : List D} {G : DG} {Te : DT} {vs : List Nat} {env : En} {R : List D → Prop} (Pd : D → Prop) (hz : xs.length ≤ sizeLine) (h : ∀ (i : Nat) (d : D) (N : D → Prop), xs[i]? = some d → (∀ y, Pd y → N y) → G d (inner vs env) fun env' => Te env' N noX)
    (k : ∀ acc : List D, acc.length = xs.length → (∀ y ∈ acc, Pd y) → R acc) : LcP xs G xYes Te vs env R := by
  refine ⟨fun i acc => acc.length = i ∧ ∀ y ∈ acc, Pd y, ⟨rfl, fun y hy => nomatch hy⟩, fun i d acc e ⟨h1, h2⟩ => ?_, fun acc ⟨h1, h2⟩ => k acc h1 h2⟩
  have hi := (List.getElem?_eq_some_iff.mp e).1
  have key := h i d (fun y => acc.length < sizeLine ∧ (acc ++ [y]).length = i + 1 ∧ ∀ z ∈ acc ++ [y], Pd z) e fun y hy => ⟨by omega, by simp [h1], fun z hz => by
    rcases List.mem_append.mp hz with q | q
    · exact h2 z q
    · rw [List.mem_singleton.mp q]; exact hy⟩
  have e1 : (fun env' => xYes env' (fun b => (b = true → Te env' (fun y => acc.length < sizeLine ∧ (acc ++ [y]).length = i + 1 ∧ ∀ z ∈ acc ++ [y], Pd z) noX) ∧ (b = false → acc.length = i + 1 ∧ ∀ y ∈ acc, Pd y)) noX) = fun env' => Te env' (fun y => acc.length < sizeLine ∧ (acc ++ [y]).length = i + 1 ∧ ∀ z ∈ acc ++ [y], Pd z) noX := by
    funext env'
    refine propext ⟨fun t => t.1 rfl, fun t => ⟨fun _ => t, fun z => nomatch z⟩⟩
  rw [e1]
  exact key
end DL
namespace DL
open PySem PySem.Spec L2
variable [TbC]
def gPerm (n m : Nat) (idx : List Nat) {α : Type} (us ws : List α) : List α := if us.length = n ∧ ws.length = m then idx.filterMap (fun i => (us ++ ws)[i]?) else []
end DL
namespace DL
open PySem PySem.Spec L2
variable [TbC]
def D.flat : D → Bool
  | .non | .bl _ | .int _ | .str _ | .ty _ => true
  | _ => false
def flatL (ds : List D) : Bool := ds.all D.flat
theorem flat_rep {B : Option Addr} {S S' : Hp} {d : D} {v : V} (h : d.flat = true) (r : Rep B S d v) : Rep B S' d v := by
  cases d <;> first | exact (Bool.false_ne_true h).elim | exact r
theorem flatL_rep {B : Option Addr} {S S' : Hp} : ∀ {ds : List D} {vs : List V}, flatL ds = true → RepL B S ds vs → RepL B S' ds vs
  | [], _, _, r => r
  | d :: ds, _, h, r => by
    obtain ⟨v, ws, rfl, r1, l⟩ := repL_cons_of r
    have h : (d.flat && flatL ds) = true := h
    rw [Bool.and_eq_true] at h
    exact repL_cons (flat_rep h.1 r1) (flatL_rep h.2 l)
theorem flatL_nil : flatL [] = true := rfl
theorem flatL_cons {d : D} {ds : List D} : flatL (d :: ds) = (d.flat && flatL ds) := rfl
theorem flatL_app {xs ys : List D} : flatL (xs ++ ys) = (flatL xs && flatL ys) := List.all_append
theorem flatL_of {ds : List D} (h : ∀ d ∈ ds, d.flat = true) : flatL ds = true := List.all_eq_true.mpr h
theorem flatL_map {α : Type} {f : α → D} {xs : List α} (h : ∀ x, (f x).flat = true) : flatL (xs.map f) = true := flatL_of fun d hd => by
  obtain ⟨x, _, rfl⟩ := List.mem_map.mp hd
  exact h x
/-- N: parts of H that are not of S, not of the frame's past, no name's own -/
def Reg (c : Fm) (σ : St) (env : En) (H S N : Hp) : Prop := ∀ a o, N a = some o → H a = some o ∧ S a = none ∧ c.H0 a = none ∧ Free σ env a
def uni (S N : Hp) : Hp := fun a => match S a with
  | some o => some o
  | none => N a
theorem uni_l {S N : Hp} : Same S (uni S N) := fun a o e => by unfold uni; rw [e]
theorem uni_r {c : Fm} {σ : St} {env : En} {H S N : Hp} (g : Reg c σ env H S N) : Same N (uni S N) := fun a o e => by
  unfold uni
  rw [(g a o e).2.1]
  exact e
theorem uni_of {S N : Hp} {a : Addr} {o : HO} (e : uni S N a = some o) : S a = some o ∨ (S a = none ∧ N a = some o) := by
  unfold uni at e
  split at e
  · exact .inl (by rw [← e]; assumption)
  · exact .inr ⟨by assumption, e⟩
section
variable {c : Fm} {σ : St} {H H' S S' N : Hp} {env : En} {p : Addr} {vs : List V} {ds : List D}
theorem Kn.uni (k : Kn c σ H S env) (g : Reg c σ env H S N) : Kn c σ H (uni S N) env := by
  have hs : ∀ a, S a = none → N a = none → DL.uni S N a = none := fun a e e2 => by unfold DL.uni; rw [e]; exact e2
  refine ⟨⟨fun a o e => ?_, k.kf.s0.trans uni_l, k.kf.old, fun a e n => ?_, fun b eb => ?_, ⟨fun p hp => ⟨(k.kf.tab.1 p hp).1, hs _ (k.kf.tab.1 p hp).2 (by
    cases en : N p.1 with
    | none => rfl
    | some o => exact absurd (g _ o en).2.2.1 (k.kf.tab.2 p hp))⟩, k.kf.tab.2⟩⟩, k.len, fun j x e => ?_, k.apart⟩
  · rcases uni_of e with e | ⟨_, e⟩
    · exact k.kf.sub a o e
    · exact (g a o e).1
  · refine hs a (k.kf.new a e n) ?_
    cases en : N a with
    | none => rfl
    | some o => exact absurd (g a o en).2.2.1 n.1
  · obtain ⟨⟨b1, cs, i, gg, st, n, b2, b3, b4⟩, b5⟩ := k.kf.bag b eb
    refine ⟨⟨hs b b1 ?_, cs, i, gg, st, n, b2, uni_l _ _ b3, b4⟩, b5⟩
    cases en : N b with
    | none => rfl
    | some o => exact absurd (g b o en).2.2.1 b5
  · obtain ⟨v, ev, r⟩ := k.sl j x e
    refine ⟨v, ev, r.keep rfl uni_l fun a fa => ?_⟩
    obtain ⟨f1, f2, _⟩ := r.foot a fa
    refine ⟨hs a f1 ?_, f2, fun _ e => e⟩
    cases en : N a with
    | none => rfl
    | some o => exact absurd fa ((g a o en).2.2.2 j x v e ev)
theorem Reg.nil : Reg c σ env H S (fun _ => none) := fun a o e => nomatch e
theorem Reg.new {c : Fm} (g : Reg c σ env H S N) : Same N (newH c.H0 (DL.uni S N)) := fun a o e => by
  rw [newH_of (g a o e).2.2.1]
  exact uni_r g a o e
end
/-- an expression whose value is made of new parts -/
def SmN (E : XK) (t : TE) (T : DT) : Prop := ∀ (c : Fm) (σ : St) (H S : Hp) (env : En) (R : D → Prop) (Rx : Er → Prop), XOk c E Rx → Kn c σ H S env → T env R Rx →
  ∀ Q : VK, (∀ v H' S' N d, Kn c σ H' S' env → Same S S' → Reg c σ env H' S' N → Rep c.B N d v → R d → Q v H') → t σ H Q
def DN (X : Cx) (E : XK) (e : Expr) (T : DT) : Prop := ∃ t, PE X e t ∧ SmN E t T
section
variable {X : Cx} {E : XK} {e a b : Expr} {es : List Expr} {T Ta Tb : DT} {TF : DTF} {Tl : DTA} {p pos : Pos}
theorem sm_ofN {t : TE} (s : SmN E t T) : Sm E t T := fun c σ H S env R Rx x k h Q q => s c σ H S env R Rx x k h Q fun v H1 S1 N d k1 s1 g r t1 =>
  q v H1 (uni S1 N) d (k1.uni g) (s1.trans uni_l) (rep_mono (uni_r g) d v r) t1
theorem d_ofN (h : DN X E e T) : DE X E e T := by
  obtain ⟨t, p, s⟩ := h
  exact ⟨t, p, sm_ofN s⟩
/-- .. a list of its own -/
def xNF (T : DT) : DTF := fun env R Rx => T env (fun d => match d with
  | .lst ds => flatL ds = true ∧ R ds
  | _ => False) Rx
/-- a new list of flat data -/
def xFN (T : DTF) : DT := fun env R Rx => T env (fun ds => flatL ds = true ∧ R (.lst ds)) Rx
theorem n_ofF (h : DF X E e TF) : DN X E e (xFN TF) := by
  obtain ⟨t, p, s⟩ := h
  refine ⟨t, p, fun c σ H S env R Rx x k h Q q => s c σ H S env _ Rx x k h Q fun p vs H1 S1 ds k1 s1 n0 f n2 e1 l1 r1 => ?_⟩
  refine q _ H1 S1 (upd (fun _ => none) p (.lst vs)) (.lst ds) k1 s1 (fun a o e => ?_) ⟨p, vs, rfl, upd_same, flatL_rep r1.1 l1⟩ r1.2
  by_cases z : a = p
  · subst z
    rw [upd_same] at e
    cases e
    exact ⟨e1, n2, n0, f⟩
  · rw [upd_ne z] at e
    cases e
/-- flat data -/
def xFl (T : DT) : DT := fun env R Rx => T env (fun d => d.flat = true ∧ R d) Rx
def zRetNew (T : DT) : DTS := fun Q env => T env (Q.rt .nw) Q.ex
theorem s_retNew (h : DN X E e T) : DS X E (.Return (some e) pos) (zRetNew T) := by
  obtain ⟨t, p, s⟩ := h
  exact ⟨_, ps_ret p, fun c σ H S env Q x k t D m => s c σ H S env _ _ x k t _ fun v H1 S1 N d k1 s1 g r t1 => m.2.1 .nw v H1 (uni S1 N) d (k1.uni g).kf (s1.trans uni_l) (rep_mono g.new d v r) t1⟩
def zRetO (i : Nat) : DTS := fun Q env => ∃ xs, env[i]? = some (some (.own xs)) ∧ flatL xs = true ∧ Q.rt .nw (.lst xs)
theorem s_retO (i : Nat) {x : Str} {p2 : Pos} (hN : X.N[i]? = some x := by rfl) (hv : Vis X.env.scope x := by first | exact Or.inl rfl | exact Or.inr (Or.inl rfl) | exact Or.inr (Or.inr rfl)) (hd : (x == ("__debug__" : Str)) = false := by decide)
    (hcd : (x == ("__classdict__" : Str)) = false := by decide) : DS X E (.Return (some (.Name x p2)) pos) (zRetO i) := by
  refine ⟨_, ps_ret (pv i hN hv hd hcd), fun c σ H S env Q x k t D m => ?_⟩
  obtain ⟨xs, e, hf, t⟩ := t
  obtain ⟨p, vs, e1, h1, h2, h3, l⟩ := own_of k e
  refine ⟨_, e1, ?_⟩
  have hs : Same S (upd S p (.lst vs)) := same_upd h1
  have kf : Kf c H (upd S p (.lst vs)) := by
    refine ⟨fun a o ea => ?_, k.kf.s0.trans hs, k.kf.old, fun a ea n => ?_, fun b eb => ?_, ⟨k.kf.tab.1.frz h3, k.kf.tab.2⟩⟩
    · by_cases z : a = p
      · subst z
        rw [upd_same] at ea
        rw [h3]
        exact ea
      · rw [upd_ne z] at ea
        exact k.kf.sub a o ea
    · rw [upd_ne (fun z => n.1 (by rw [z]; exact h2))]
      exact k.kf.new a ea n
    · obtain ⟨⟨b1, cs, i, g, st, n, b2, b3, b4⟩, b5⟩ := k.kf.bag b eb
      refine ⟨⟨?_, cs, i, g, st, n, b2, hs _ _ b3, b4⟩, b5⟩
      rw [upd_ne (fun z => b5 (by rw [z]; exact h2))]
      exact b1
  exact m.2.1 .nw (.ref p) H _ (.lst xs) kf hs ⟨p, vs, rfl, by show newH c.H0 _ p = _; rw [newH_of h2, upd_same], flatL_rep hf l⟩ t
end
def spN (F : Spec) : Sp := fun vs H Q E => ∃ (c : Fm) (S : Hp) (ds : List D) (R : D → Prop) (Rx : Er → Prop), c.H0 = H ∧ c.S0 = S ∧ Kf c H S ∧ RepL c.B S ds vs ∧ F ds R Rx ∧ (∀ v H' S' d, Kf c H' S' → Rep c.B (newH H S') d v → R d → Q v H') ∧ XOk c E Rx
section
variable {P : Program} {w : World} {K : PySem.W.Frag} {mg : Str → Option Value} {base : Heap} {x qual : Str} {st : Stmt} {dvs : List V} {kws : List (Str × V)} {f : Addr} {fd : FuncData} {N ps : List Str} {k : Nat} {F : Spec} {CX : CXT}
theorem fn_n {T : DTS} (Fd : FnS K x qual st dvs kws f fd) (S : FnScope N ps (defScope st)) (len : ∀ ds R Rx, F ds R Rx → ds.length = ps.length)
    (hbody : ∀ (cdv : Value) (A : Around) (outer : List Env) (s : Shared) (H : Hp) (E : XK), Room k (A.deeper (PyProof.Rows.envOfC qual (defScope st) s.heap.objs.size f cdv)) →
      DSs (cxOf (L2.CX P w) P w K mg base N qual (defScope st) f cdv A outer s H E) E (defBody st) T)
    (hT : ∀ ds R Rx, F ds R Rx → T { nx := fun _ => R .non, rt := fun n d => (n = .nw ∨ d.flat = true) ∧ R d, ex := Rx } (startE N ds)) : FnOk P w K mg base (L2.CX P w) (k + 1) f fd ps (spN F) := by
  refine FunD.ok Fd S (fun vs H Q E ⟨c, S, ds, R, Rx, _, _, _, l, h, _⟩ => by rw [l.length]; exact len _ _ _ h) fun cdv A outer s H vs Q E hr hsp => ?_
  obtain ⟨c, Sh, ds, R, Rx, h0, hs0, kf, l, h, q, xo⟩ := hsp
  obtain ⟨t, p, sm⟩ := hbody cdv A outer s H E hr
  refine ⟨t, p, sm c _ H Sh _ _ xo (kn_start kf l) (hT ds R Rx h) _ ⟨fun σ H1 S1 env k1 s1 r1 => ?_, fun n v H1 S1 d k1 s1 r1 t1 => q v H1 S1 d k1 ?_ t1.2, fun σ H1 S1 env k1 s1 r1 => r1, fun σ H1 S1 env k1 s1 r1 => r1⟩⟩
  · exact q .non H1 S1 .non k1.kf rfl r1
  · cases n with
    | nw => rw [← h0]; exact r1
    | old => exact flat_rep (t1.1.resolve_left (fun z => nomatch z)) (show Rep _ _ d v from r1)
    | tr =>
      obtain ⟨S2, _, _, r2⟩ := r1.old k1
      exact flat_rep (t1.1.resolve_left (fun z => nomatch z)) r2
end
section
variable {X : Cx} {E : XK} {CX : CXT} {k n : Nat} {f : Addr} {fd : FuncData} {ps ks : List Str} {F : Spec} {dvs : List V} {dds : List D} {ds : List Value} {x : Str} {p pos : Pos} {e : Expr} {es : List Expr} {Tl Tk : DTA} {kws : List Keyword}
theorem sp_callN {c : Fm} {σ : St} {H S : Hp} {env : En} {vs : List V} {xs : List D} {R : D → Prop} {Rx : Er → Prop} {Q : VK} (kn : Kn c σ H S env) (x : XOk c E Rx) (l : RepL c.B S xs vs) (t : F xs R Rx)
    (q : ∀ v H' N d, Kn c σ H' S env → Reg c σ env H' S N → Rep c.B N d v → R d → Q v H') : spN F vs H Q E := by
  refine ⟨c.at H S, S, xs, R, Rx, rfl, rfl, kn.kf.at, l, t, fun v H' S' d k' r z => ?_, x.at kn.kf⟩
  have kS : Kf (c.at H S) H' S := ⟨k'.s0.trans k'.sub, Same.refl S, k'.old, fun a e _ => e, fun b eb => by
    obtain ⟨⟨b1, cs, i, g, st, n, b2, b3, b4⟩, b5⟩ := k'.bag b eb
    obtain ⟨⟨d1, cs', _, _, _, _, _, d3, _⟩, _⟩ := kn.kf.bag b eb
    have e3 : cs' = cs := by
      have z := k'.s0 _ _ d3
      have z2 : some (HO.lst (cs'.map V.int)) = some (HO.lst (cs.map V.int)) := z.symm.trans b3
      injection z2 with z2
      injection z2 with z2
      exact List.map_inj_right (fun _ _ h => by injection h) |>.mp z2
    subst e3
    exact ⟨⟨d1, cs', i, g, st, n, b2, d3, b4⟩, b5⟩, ⟨fun p hp => ⟨(k'.tab.1 p hp).1, (kn.kf.tab.1 p hp).2⟩, k'.tab.2⟩⟩
  refine q v H' (newH H S') d (kn.back kS) (fun a o e => ?_) r z
  obtain ⟨e1, e2⟩ := newH_some e
  exact ⟨k'.sub _ _ e2, kn.kf.s_none e1, kn.kf.h0_none e1, kn.free e1⟩
theorem d_callN (G : FnOk X.prog X.w X.K X.mg X.base CX k f fd ps (spN F)) (hr : Room k X.A) (hm : X.mg x = some (.ref f)) (hk : PySem.W.keepIn X.K (.ref f) = true) (hb : Binds X.K fd ps ds) (hd : Vals dvs ds) (hdd : DfR dds dvs) (hx : Passes CX X E) (ha : DA X E (e :: es) Tl)
    (hg : Gl X x := by rfl) (hdb : (x == ("__debug__" : Str)) = false := by decide) (he : starEach (e :: es) X.env = (false, eval e X.env) :: starEach es X.env := by rfl) (hpl : (backTo pos (starEach es X.env)).any (·.1) = false := by rfl) :
    DN X E (.Call (.Name x p) (e :: es) [] pos) (xCall F dds Tl) := by
  obtain ⟨t, pa, s⟩ := ha
  refine ⟨_, pe_call G hr hg hm hk hb hd hx pa hdb he hpl, fun c σ H S env R Rx x k t Q q => s c σ H S env _ Rx x k t _ fun vs H1 S1 xs k1 s1 l1 t1 => ?_⟩
  exact sp_callN k1 x (l1.app (hdd _ _)) t1 fun v H' N d k' g' r' t' => q v H' S1 N d k' s1 g' r' t'
end
section
variable {X : Cx} {E : XK} {e : Expr} {es : List Expr} {Te : DT} {Tl : DTA} {p : Pos}
def xStar (Te : DT) (Tl : DTA) : DTA := fun env R Rx => Te env (asLT fun xs => Tl env (fun ys => R (xs ++ ys)) Rx) Rx
theorem da_star (he : DE X E e Te) (hl : DA X E es Tl) (hs : starEach (.Starred e p :: es) X.env = (true, eval e X.env) :: starEach es X.env := by rfl) : DA X E (.Starred e p :: es) (xStar Te Tl) := by
  obtain ⟨t, p1, s1⟩ := he
  obtain ⟨tl, p2, s2⟩ := hl
  refine ⟨_, StX.pa_star p1 p2 hs, fun c σ H S env R Rx x k t Q q => s1 c σ H S env _ Rx x k t _ fun v H1 S1 d k1 s3 r1 t1 => ?_⟩
  cases d <;> try exact (show False from t1).elim
  · obtain ⟨a, vs, rfl, h1, _, l1⟩ := lst_of k1 r1
    refine ⟨a, vs, rfl, .inr (SqL.of h1), s2 c σ H1 S1 env _ Rx x k1 t1 _ fun us H2 S2 ds k2 s4 l2 t2 => ?_⟩
    exact q _ H2 S2 _ k2 (s3.trans s4) ((repL_mono s4 _ _ l1).app l2) t2
  · obtain ⟨a, vs, rfl, h1, _, l1⟩ := tup_of k1 r1
    refine ⟨a, vs, rfl, .inl (SqT.of h1), s2 c σ H1 S1 env _ Rx x k1 t1 _ fun us H2 S2 ds k2 s4 l2 t2 => ?_⟩
    exact q _ H2 S2 _ k2 (s3.trans s4) ((repL_mono s4 _ _ l1).app l2) t2
end
/-- the places of a slice -/
def pls (n : Nat) (lo hi st : Option Int) : List Nat := PySem.sliceRange (PySem.sliceBounds lo hi st n).1 (PySem.sliceBounds lo hi st n).2.1 (PySem.sliceBounds lo hi st n).2.2
def cut3 (xs : List D) (lo hi st : Option Int) : List D := (pls xs.length lo hi st).filterMap fun i => xs[i]?
section
variable {X : Cx} {E : XK} {e a : Expr} {te : TE} {tl th ts : TO} {lo hi : Option Expr} {st : Expr} {p2 pos : Pos} {Ta : DT} {Tl Th Ts : DTO}
def xSl3 (Ta : DT) (Tl Th Ts : DTO) : DTF := fun env R Rx => Ta env (asL fun xs => Tl env (fun lo => Th env (fun hi => Ts env (fun st => st ≠ some 0 ∧ (pls xs.length lo hi st).length ≤ sizeLine ∧ R (cut3 xs lo hi st)) Rx) Rx) Rx) Rx
end
/-- backwards down to the place m -/
theorem pls_down {n : Nat} {hi : Option Int} {m : Nat} (hm : (PySem.sliceBounds none hi (some (-1)) n).2.1 = (m : Int) - 1) (hle : m ≤ n) : pls n none hi (some (-1)) = (List.range (n - m)).map fun k => n - 1 - k := by
  have b1 : (PySem.sliceBounds none hi (some (-1)) n).1 = (n : Int) - 1 := rfl
  have b3 : (PySem.sliceBounds none hi (some (-1)) n).2.2 = -1 := rfl
  unfold pls PySem.sliceRange
  rw [hm, b1, b3]
  have c1 : ¬ ((-1 : Int) > 0) := by decide
  simp only [c1, if_false]
  by_cases z : m = n
  · subst z
    simp
  · have c2 : (n : Int) - 1 > (m : Int) - 1 := by omega
    have c3 : (((n : Int) - 1 - ((m : Int) - 1) - -1 - 1) / - -1).toNat = n - m := by
      rw [show (- -1 : Int) = 1 by decide, Int.ediv_one]
      omega
    simp only [c2, if_true, c3]
    apply List.map_congr_left
    intro k hk
    have := List.mem_range.mp hk
    omega
theorem cut3_down {xs : List D} {hi : Option Int} {m : Nat} (hm : (PySem.sliceBounds none hi (some (-1)) xs.length).2.1 = (m : Int) - 1) (hle : m ≤ xs.length) : cut3 xs none hi (some (-1)) = (xs.drop m).reverse := by
  unfold cut3
  rw [pls_down hm hle, List.filterMap_map]
  apply List.ext_getElem?
  intro i
  have go : ∀ q : Nat, q ≤ xs.length → ((List.range q).filterMap ((fun i => xs[i]?) ∘ fun k => xs.length - 1 - k)) = (xs.drop (xs.length - q)).reverse := fun q => by
    induction q with
    | zero => intro _; simp
    | succ q ih =>
      intro hq
      rw [List.range_succ, List.filterMap_append, ih (by omega)]
      have hd : xs.drop (xs.length - (q + 1)) = xs[xs.length - (q + 1)] :: xs.drop (xs.length - q) := by
        rw [List.drop_eq_getElem_cons (by omega)]
        congr 2
        omega
      rw [hd, List.reverse_cons]
      congr 1
      have e : xs.length - 1 - q = xs.length - (q + 1) := by omega
      have e2 : ((fun i => xs[i]?) ∘ fun k => xs.length - 1 - k) q = some xs[xs.length - (q + 1)] := by
        show xs[xs.length - 1 - q]? = _
        rw [e]
        exact List.getElem?_eq_getElem (by omega)
      rw [List.filterMap_cons_some e2, List.filterMap_nil]
  rw [go _ (by omega)]
  congr 3
  omega
theorem cut3_rev (xs : List D) : cut3 xs none none (some (-1)) = xs.reverse := cut3_down (m := 0) rfl (Nat.zero_le _)
theorem cut3_rev0 {xs : List D} : cut3 xs none (some 0) (some (-1)) = (xs.drop 1).reverse := by
  by_cases z : xs.length = 0
  · have e : xs = [] := List.length_eq_zero_iff.mp z
    subst e
    rfl
  · refine cut3_down (m := 1) ?_ (by omega)
    show max (-1) (min (if (0 : Int) < 0 then _ else 0) ((xs.length : Int) - 1)) = _
    rw [if_neg (by decide)]
    omega
theorem pls_down_le {n : Nat} {hi : Option Int} {m : Nat} (hm : (PySem.sliceBounds none hi (some (-1)) n).2.1 = (m : Int) - 1) (hle : m ≤ n) : (pls n none hi (some (-1))).length = n - m := by
  rw [pls_down hm hle]
  simp
theorem pls_rev (n : Nat) : (pls n none none (some (-1))).length = n := pls_down_le (m := 0) rfl (Nat.zero_le _)
theorem pls_rev0 (n : Nat) : (pls n none (some 0) (some (-1))).length = n - 1 := by
  by_cases z : n = 0
  · subst z; rfl
  · refine pls_down_le (m := 1) ?_ (by omega)
    show max (-1) (min (if (0 : Int) < 0 then _ else 0) ((n : Int) - 1)) = _
    rw [if_neg (by decide)]
    omega
section
variable {X : Cx} {E : XK} {pos p1 : Pos} {a b : Expr} {T : DTF}
def zParC (i j : Nat) (T : DTF) (d : D) : DTS := fun Q env => T env (fun ds => Q.nx (put j d (putO' i ds env))) Q.ex
def zParV (i j : Nat) (Ta : DT) (T : DTF) : DTS := fun Q env => Ta env (fun d => T env (fun ds => Q.nx (putO' j ds (put i d env))) Q.ex) Q.ex
end
end DL
namespace DL
open PySem PySem.Spec L2
variable [TbC]
def fld : List Str → List D → Str → Option D
  | k :: ks, x :: xs, f => if f = k then some x else fld ks xs f
  | _, _, _ => none
theorem fld_some {B : Option Addr} {S : Hp} {f : Str} : ∀ {ks : List Str} {xs : List D} {vs : List V} {x : D}, RepL B S xs vs → fld ks xs f = some x → ∃ v, (ks.zip vs).lookup f = some v ∧ Rep B S x v
  | [], _, _, _, _, e => nomatch e
  | _ :: _, [], _, _, _, e => nomatch e
  | k :: ks, y :: ys, _, x, l, e => by
    obtain ⟨v, ws, rfl, r, t⟩ := repL_cons_of l
    have e : (if f = k then some y else fld ks ys f) = some x := e
    show ∃ u, List.lookup f ((k, v) :: ks.zip ws) = some u ∧ _
    by_cases z : f = k
    · rw [if_pos z] at e
      cases e
      exact ⟨v, by rw [List.lookup_cons, z]; simp, r⟩
    · rw [if_neg z] at e
      obtain ⟨u, e2, r2⟩ := fld_some t e
      refine ⟨u, ?_, r2⟩
      rw [List.lookup_cons]
      have : (f == k) = false := by simpa using z
      rw [this]
      exact e2
theorem fld_none {B : Option Addr} {S : Hp} {f : Str} : ∀ {ks : List Str} {xs : List D} {vs : List V}, RepL B S xs vs → xs.length = ks.length → fld ks xs f = none → (ks.zip vs).lookup f = none
  | [], _, _, _, _, _ => rfl
  | _ :: _, [], _, _, hl, _ => nomatch hl
  | k :: ks, y :: ys, _, l, hl, e => by
    obtain ⟨v, ws, rfl, r, t⟩ := repL_cons_of l
    have e : (if f = k then some y else fld ks ys f) = none := e
    show List.lookup f ((k, v) :: ks.zip ws) = none
    by_cases z : f = k
    · rw [if_pos z] at e
      cases e
    · rw [if_neg z] at e
      rw [List.lookup_cons]
      have : (f == k) = false := by simpa using z
      rw [this]
      exact fld_none t (by simpa using hl) e
theorem obj_of {c : Fm} {σ : St} {H S : Hp} {env : En} {C : Addr} {ks : List Str} {xs : List D} {v : V} (k : Kn c σ H S env) (r : Rep c.B S (.obj C ks xs) v) : ∃ a dx vs, v = .ref a ∧ H a = some (.ins C dx (ks.zip vs)) ∧ xs.length = ks.length ∧ RepL c.B S xs vs := by
  rw [Rep] at r
  obtain ⟨a, dx, vs, e, q, q2, n, l⟩ := r
  exact ⟨a, dx, vs, e, k.kf.sub _ _ q, n, l⟩
def asO (C : Addr) (R : List Str → List D → Prop) : D → Prop
  | .obj C' ks xs => C' = C ∧ R ks xs
  | _ => False
def xFld (C : Addr) (f : Str) (Te : DT) : DT := fun env R Rx => Te env (asO C fun ks xs => ∃ x, fld ks xs f = some x ∧ R x) Rx
section
variable {X : Cx} {E : XK} {CX : CXT} {k : Nat} {C f : Addr} {fd : FuncData} {ps : List Str} {F : Spec} {m : Str} {o e : Expr} {es : List Expr} {To : DT} {Tl : DTA} {pos apos p : Pos}
theorem d_fld {f : Str} (he : DE X E e To) (c : Cls X.K C) (n : NoAttr X.K C f) (hb : attributeBase e f X.env (eval e X.env) = eval e X.env := by rfl) : DE X E (.Attribute e f pos) (xFld C f To) := by
  obtain ⟨t, p1, s⟩ := he
  refine ⟨_, pe_fld p1 hb, fun c0 σ H S env R Rx x k t Q q => s c0 σ H S env _ Rx x k t _ fun v H1 S1 d k1 s1 r1 t1 => ?_⟩
  cases d <;> try exact (show False from t1).elim
  obtain ⟨rfl, y, e1, t1⟩ := t1
  obtain ⟨a, dx, vs, e2, h1, _, l1⟩ := obj_of k1 r1
  obtain ⟨u, e3, r3⟩ := fld_some l1 e1
  exact ⟨a, _, dx, _, u, e2, h1, c, n, e3, q u H1 S1 y k1 s1 r3 t1⟩
def xMeth (C : Addr) (m : Str) (F : Spec) (To : DT) (Tl : DTA) : DT := fun env R Rx => To env (fun d => asO C (fun ks xs => fld ks xs m = none) d ∧ Tl env (fun ds => F (d :: ds) R Rx) Rx) Rx
theorem d_meth {pl : Sem Bool} (he : DE X E o To) (c : Cls X.K C) (hm : Meth X.K C m f) (G : FnOk X.prog X.w X.K X.mg X.base CX k f fd ps (spD F)) (hr : Room k X.A) (hb : Binds X.K fd ps []) (hx : Passes CX X E) (ha : DA X E (e :: es) Tl)
    (hst : starEach (e :: es) X.env = (false, eval e X.env) :: starEach es X.env := by rfl) (hpl : (backTo pos (starEach es X.env)).any (·.1) = false := by rfl)
    (ht : eval (.Call (.Attribute o m apos) (e :: es) [] pos) X.env = (do
      let ov ← eval o X.env
      standAt apos.atName
      let (f, first) ← holding [ov] (getMethod ov m pl)
      callWith pos f first (backTo pos (starEach (e :: es) X.env)) (backToKw pos (keywordEach [] X.env))) := by rfl) :
    DE X E (.Call (.Attribute o m apos) (e :: es) [] pos) (xMeth C m F To Tl) := by
  obtain ⟨t, p1, s⟩ := he
  obtain ⟨tl, p2, sl⟩ := ha
  refine ⟨_, pe_meth p1 c hm G hr hb .nil hx p2 hst hpl ht, fun c0 σ H S env R Rx x k t Q q => s c0 σ H S env _ Rx x k t _ fun v H1 S1 d k1 s1 r1 t1 => ?_⟩
  obtain ⟨t0, t1⟩ := t1
  cases d <;> try exact (show False from t0).elim
  obtain ⟨rfl, e1⟩ := t0
  obtain ⟨a, dx, vs, e2, h1, hn, l1⟩ := obj_of k1 r1
  refine ⟨a, dx, _, e2, h1, fld_none l1 hn e1, sl c0 σ H1 S1 env _ Rx x k1 t1 _ fun us H2 S2 ds k2 s2 l2 t2 => ?_⟩
  rw [List.append_nil]
  exact sp_call k2 x (repL_cons (rep_mono s2 _ v r1) l2) t2 fun v H' S' d k' s' r' t' => q v H' S' d k' ((s1.trans s2).trans s') r' t'
theorem d_meth0 {pl : Sem Bool} (he : DE X E o To) (c : Cls X.K C) (hm : Meth X.K C m f) (G : FnOk X.prog X.w X.K X.mg X.base CX k f fd ps (spD F)) (hr : Room k X.A) (hb : Binds X.K fd ps []) (hx : Passes CX X E)
    (ht : eval (.Call (.Attribute o m apos) [] [] pos) X.env = (do
      let ov ← eval o X.env
      standAt apos.atName
      let (f, first) ← holding [ov] (getMethod ov m pl)
      callWith pos f first (backTo pos (starEach [] X.env)) (backToKw pos (keywordEach [] X.env))) := by rfl) :
    DE X E (.Call (.Attribute o m apos) [] [] pos) (xMeth C m F To xNil) := by
  obtain ⟨t, p1, s⟩ := he
  refine ⟨_, pe_meth0 p1 c hm G hr hb .nil hx ht, fun c0 σ H S env R Rx x k t Q q => s c0 σ H S env _ Rx x k t _ fun v H1 S1 d k1 s1 r1 t1 => ?_⟩
  obtain ⟨t0, t1⟩ := t1
  cases d <;> try exact (show False from t0).elim
  obtain ⟨rfl, e1⟩ := t0
  obtain ⟨a, dx, vs, e2, h1, hn, l1⟩ := obj_of k1 r1
  refine ⟨a, dx, _, e2, h1, fld_none l1 hn e1, ?_⟩
  exact sp_call k1 x (repL_cons r1 repL_nil) t1 fun v H' S' d k' s' r' t' => q v H' S' d k' (s1.trans s') r' t'
/-- .. whose result is made new -/
theorem d_methN {pl : Sem Bool} (he : DE X E o To) (c : Cls X.K C) (hm : Meth X.K C m f) (G : FnOk X.prog X.w X.K X.mg X.base CX k f fd ps (spN F)) (hr : Room k X.A) (hb : Binds X.K fd ps []) (hx : Passes CX X E) (ha : DA X E (e :: es) Tl)
    (hst : starEach (e :: es) X.env = (false, eval e X.env) :: starEach es X.env := by rfl) (hpl : (backTo pos (starEach es X.env)).any (·.1) = false := by rfl)
    (ht : eval (.Call (.Attribute o m apos) (e :: es) [] pos) X.env = (do
      let ov ← eval o X.env
      standAt apos.atName
      let (f, first) ← holding [ov] (getMethod ov m pl)
      callWith pos f first (backTo pos (starEach (e :: es) X.env)) (backToKw pos (keywordEach [] X.env))) := by rfl) :
    DN X E (.Call (.Attribute o m apos) (e :: es) [] pos) (xMeth C m F To Tl) := by
  obtain ⟨t, p1, s⟩ := he
  obtain ⟨tl, p2, sl⟩ := ha
  refine ⟨_, pe_meth p1 c hm G hr hb .nil hx p2 hst hpl ht, fun c0 σ H S env R Rx x k t Q q => s c0 σ H S env _ Rx x k t _ fun v H1 S1 d k1 s1 r1 t1 => ?_⟩
  obtain ⟨t0, t1⟩ := t1
  cases d <;> try exact (show False from t0).elim
  obtain ⟨rfl, e1⟩ := t0
  obtain ⟨a, dx, vs, e2, h1, hn, l1⟩ := obj_of k1 r1
  refine ⟨a, dx, _, e2, h1, fld_none l1 hn e1, sl c0 σ H1 S1 env _ Rx x k1 t1 _ fun us H2 S2 ds k2 s2 l2 t2 => ?_⟩
  rw [List.append_nil]
  exact sp_callN k2 x (repL_cons (rep_mono s2 _ v r1) l2) t2 fun v H' N d k' g' r' t' => q v H' S2 N d k' (s1.trans s2) g' r' t'
theorem d_methN0 {pl : Sem Bool} (he : DE X E o To) (c : Cls X.K C) (hm : Meth X.K C m f) (G : FnOk X.prog X.w X.K X.mg X.base CX k f fd ps (spN F)) (hr : Room k X.A) (hb : Binds X.K fd ps []) (hx : Passes CX X E)
    (ht : eval (.Call (.Attribute o m apos) [] [] pos) X.env = (do
      let ov ← eval o X.env
      standAt apos.atName
      let (f, first) ← holding [ov] (getMethod ov m pl)
      callWith pos f first (backTo pos (starEach [] X.env)) (backToKw pos (keywordEach [] X.env))) := by rfl) :
    DN X E (.Call (.Attribute o m apos) [] [] pos) (xMeth C m F To xNil) := by
  obtain ⟨t, p1, s⟩ := he
  refine ⟨_, pe_meth0 p1 c hm G hr hb .nil hx ht, fun c0 σ H S env R Rx x k t Q q => s c0 σ H S env _ Rx x k t _ fun v H1 S1 d k1 s1 r1 t1 => ?_⟩
  obtain ⟨t0, t1⟩ := t1
  cases d <;> try exact (show False from t0).elim
  obtain ⟨rfl, e1⟩ := t0
  obtain ⟨a, dx, vs, e2, h1, hn, l1⟩ := obj_of k1 r1
  refine ⟨a, dx, _, e2, h1, fld_none l1 hn e1, ?_⟩
  exact sp_callN k1 x (repL_cons r1 repL_nil) t1 fun v H' N d k' g' r' t' => q v H' S1 N d k' s1 g' r' t'
def xProp (C : Addr) (F : Spec) (To : DT) : DT := fun env R Rx => To env (fun d => asO C (fun _ _ => True) d ∧ F [d] R noX) Rx
theorem d_prop {f : Str} {pa g : Addr} {fd : FuncData} {ps : List Str} (he : DE X E e To) (c : Cls X.K C) (hp : PropOf X.K C f pa g) (G : FnOk X.prog X.w X.K X.mg X.base CX k g fd ps (spD F)) (hr : Room (k + 1) X.A) (hb : Binds X.K fd ps []) (hx : Passes CX X.nox E0)
    (hab : attributeBase e f X.env (eval e X.env) = eval e X.env := by rfl) : DE X E (.Attribute e f pos) (xProp C F To) := by
  obtain ⟨t, p1, s⟩ := he
  refine ⟨_, pe_prop p1 c hp G hr hb .nil hx hab, fun c0 σ H S env R Rx x k t Q q => s c0 σ H S env _ Rx x k t _ fun v H1 S1 d k1 s1 r1 t1 => ?_⟩
  obtain ⟨t0, t1⟩ := t1
  cases d <;> try exact (show False from t0).elim
  obtain ⟨rfl, _⟩ := t0
  obtain ⟨a, dx, vs, rfl, h1, hn, l1⟩ := obj_of k1 r1
  exact ⟨a, dx, _, rfl, h1, sp_call k1 xok0 (repL_cons r1 repL_nil) t1 fun v H' S' d k' s' r' t' => q v H' S' d k' (s1.trans s') r' t'⟩
end
end DL
namespace DL
open PySem PySem.Spec L2
variable [TbC]
theorem putF_end {f : Str} {v : V} : ∀ {ks : List Str} {vs : List V}, f ∉ ks → vs.length = ks.length → putF f v (ks.zip vs) = (ks ++ [f]).zip (vs ++ [v])
  | [], [], _, _ => rfl
  | [], _ :: _, _, h => nomatch h
  | _ :: _, [], _, h => nomatch h
  | k :: ks, u :: us, hf, hl => by
    have ne : ¬ k = f := fun z => hf (by rw [z]; exact List.mem_cons_self)
    show (if k = f then _ else (k, u) :: putF f v (ks.zip us)) = (k, u) :: (ks ++ [f]).zip (us ++ [v])
    rw [if_neg ne, putF_end (fun z => hf (List.mem_cons_of_mem _ z)) (by simpa using hl)]
/-- the tuples of S -/
def tpC (S : Hp) : Hp := fun a => match S a with
  | some (.tup vs) => some (.tup vs)
  | _ => none
theorem tpC_of {S : Hp} {a : Addr} {o : HO} (e : tpC S a = some o) : ∃ vs, o = .tup vs ∧ S a = some (.tup vs) := by
  unfold tpC at e
  split at e
  · rename_i vs h
    cases e
    exact ⟨vs, rfl, h⟩
  · cases e
theorem tpC_tup {S : Hp} {a : Addr} {vs : List V} (e : S a = some (.tup vs)) : tpC S a = some (.tup vs) := by
  unfold tpC
  rw [e]
/-- what is new since H, and tuples -/
def newT (H S : Hp) : Hp := DL.uni (newH H S) (tpC S)
theorem newT_tup {H S : Hp} {a : Addr} {vs : List V} (e : S a = some (.tup vs)) : newT H S a = some (.tup vs) := by
  cases z : newH H S a with
  | none =>
    unfold newT DL.uni
    rw [z]
    exact tpC_tup e
  | some o =>
    have := (newH_some z).2
    rw [e] at this
    cases this
    exact uni_l a _ z
theorem newT_of {H S : Hp} {a : Addr} {o : HO} (e : newT H S a = some o) : (H a = none ∧ S a = some o) ∨ ∃ vs, o = .tup vs ∧ S a = some (.tup vs) := by
  rcases uni_of e with e | ⟨_, e⟩
  · exact .inl (newH_some e)
  · exact .inr (tpC_of e)
theorem newT_mono {c : Fm} {S S' : Hp} (h : Same S S') : Same (newT c.H0 S) (newT c.H0 S') := fun a o e => by
  rcases newT_of e with ⟨e1, e2⟩ | ⟨vs, rfl, e2⟩
  · exact uni_l a o (by rw [newH_of e1]; exact h a o e2)
  · exact newT_tup (h _ _ e2)
/-- what is left of a body that fills the object at p: the attributes so far, the names -/
abbrev ITS := (Bool → List Str → List D → Prop) → (Er → Prop) → Bool → List Str → List D → En → Prop
/-- the frame, the object at p as told -/
def Fm.put (c : Fm) (p : Addr) (o : HO) : Fm := ⟨c.B, c.C, upd c.H0 p o, c.S0⟩
def SmIn (E : XK) (p dx C : Addr) (t : TS) (T : ITS) : Prop := ∀ (c : Fm) (σ : St) (H S : Hp) (env : En) (nf : Bool) (ks : List Str) (xs : List D) (vs : List V) (R : Bool → List Str → List D → Prop) (Rx : Er → Prop),
  XOk c E Rx → Kn c σ H S env → c.H0 p = some (.ins C dx (ks.zip vs)) → ¬ Ex c.B p → S p = none → xs.length = ks.length → RepL c.B S xs vs → (nf = true → RepL c.B (newT c.H0 S) xs vs) → T R Rx nf ks xs env →
  ∀ D : Ends, (∀ σ' H' S' nf' ks' xs' vs', Kf (c.put p (.ins C dx (ks'.zip vs'))) H' S' → Same S S' → xs'.length = ks'.length → RepL c.B S' xs' vs' → (nf' = true → RepL c.B (newT c.H0 S') xs' vs') → R nf' ks' xs' → D.nx σ' H') → t D σ H
def DIs (X : Cx) (E : XK) (p dx C : Addr) (sts : List Stmt) (T : ITS) : Prop := ∃ t, PSs X sts t ∧ SmIn E p dx C t T
theorem Fm.put_self {c : Fm} {p : Addr} {o : HO} (h : c.H0 p = some o) : c.put p o = c := by
  unfold Fm.put
  have : upd c.H0 p o = c.H0 := by
    funext a
    by_cases z : a = p
    · subst z
      rw [upd_same, h]
    · rw [upd_ne z]
  rw [this]
theorem newH_put {c : Fm} {S : Hp} {p : Addr} {o o0 : HO} (h : c.H0 p = some o0) : newH (c.put p o).H0 S = newH c.H0 S := by
  funext a
  have go : ∀ x y : Option HO, (x = none ↔ y = none) → (match x with
    | none => S a
    | some _ => none) = (match y with
    | none => S a
    | some _ => none) := fun x y e => by
    cases x with
    | none => rw [e.mp rfl]
    | some u =>
      cases y with
      | none => exact absurd (e.mpr rfl) (fun z => nomatch z)
      | some w => rfl
  refine go (upd c.H0 p o a) (c.H0 a) ?_
  by_cases z : a = p
  · subst z
    rw [upd_same, h]
    exact ⟨(fun z => nomatch z), (fun z => nomatch z)⟩
  · rw [upd_ne z]
theorem newT_put {c : Fm} {S : Hp} {p : Addr} {o o0 : HO} (h : c.H0 p = some o0) : newT (c.put p o).H0 S = newT c.H0 S := by
  unfold newT
  rw [newH_put h]
/-- values whose lists are new, with the tuples they hang on -/
def SmW (E : XK) (t : TE) (T : DT) : Prop := ∀ (c : Fm) (σ : St) (H S : Hp) (env : En) (R : D → Prop) (Rx : Er → Prop), XOk c E Rx → Kn c σ H S env → T env R Rx →
  ∀ Q : VK, (∀ v H' S' d, Kn c σ H' S' env → Same S S' → Rep c.B S' d v → Rep c.B (newT c.H0 S') d v → R d → Q v H') → t σ H Q
def DWn (X : Cx) (E : XK) (e : Expr) (T : DT) : Prop := ∃ t, PE X e t ∧ SmW E t T
section
variable {X : Cx} {E : XK} {p dx C : Addr} {st : Stmt} {rest : List Stmt} {T : DTS} {U : ITS} {e : Expr} {Te : DT} {pos p1 p2 : Pos}
def jNil : ITS := fun R _ nf ks xs _ => R nf ks xs
theorem is_nil : DIs X E p dx C [] jNil := ⟨_, pss_nil, fun c σ H S env nf ks xs vs R Rx x k h0 np hS hl l ln t D q => q σ H S nf ks xs vs (by rw [Fm.put_self h0]; exact k.kf) (Same.refl S) hl l ln t⟩
/-- a statement that does not touch the object -/
def jSt (T : DTS) (U : ITS) : ITS := fun R Rx nf ks xs env => T { nx := fun env' => U R Rx nf ks xs env', rt := fun _ _ => False, ex := Rx } env
theorem is_st (h1 : DS X E st T) (h2 : DIs X E p dx C rest U) : DIs X E p dx C (st :: rest) (jSt T U) := by
  obtain ⟨t, p1, s1⟩ := h1
  obtain ⟨u, p2, s2⟩ := h2
  refine ⟨_, pss_cons p1 p2, fun c σ H S env nf ks xs vs R Rx x k h0 np hS hl l ln t D q => ?_⟩
  refine s1 c σ H S env { nx := fun env' => U R Rx nf ks xs env', rt := fun _ _ => False, ex := Rx } x k t _ ⟨fun σ1 H1 S1 env1 k1 s t1 => ?_, fun _ _ _ _ _ _ _ _ z => z.elim, fun _ _ _ _ _ _ z => z.elim, fun _ _ _ _ _ _ z => z.elim⟩
  refine s2 c σ1 H1 S1 env1 nf ks xs vs R Rx x k1 h0 np ?_ hl (repL_mono s xs vs l) (fun z => repL_mono (newT_mono s) xs vs (ln z)) t1 D fun σ' H' S' nf' ks' xs' vs' k' s' => q σ' H' S' nf' ks' xs' vs' k' (s.trans s')
  cases z : c.S0 p with
  | none => exact k1.kf.new p z (mu_of h0 fun _ z => nomatch z)
  | some o =>
    have := k.kf.s0 p o z
    rw [hS] at this
    cases this
/-- self.f = e -/
def jSet (p : Addr) (f : Str) (Te : DT) (U : ITS) : ITS := fun R Rx nf ks xs env => Te env (fun d => env[0]? = some (some (.val (.adr p))) ∧ f ∉ ks ∧ ks.length < 1000 ∧ U R noX (nf && d.flat) (ks ++ [f]) (xs ++ [d]) env) Rx
theorem is_set {f : Str} {x0 : Str} (h : DE X E e Te) (h2 : DIs X E p dx C rest U) (c0 : Cls X.K C) (n : NoAttr X.K C f) (hN : X.N[0]? = some x0 := by rfl) (hv : Vis X.env.scope x0 := by first | exact Or.inl rfl | exact Or.inr (Or.inl rfl) | exact Or.inr (Or.inr rfl)) (hd : (x0 == ("__debug__" : Str)) = false := by decide)
    (hcd : (x0 == ("__classdict__" : Str)) = false := by decide) (hs : swapsWith e (some (.Attribute (.Name x0 p1) f p2)) pos.line X.env = pure false := by rfl) : DIs X E p dx C (.Assign [.Attribute (.Name x0 p1) f p2] e pos :: rest) (jSet p f Te U) := by
  obtain ⟨t, pe, s⟩ := h
  obtain ⟨u, pr, sr⟩ := h2
  refine ⟨_, pss_cons (ps_fld (pv 0 hN hv hd hcd) pe hs) pr, fun c σ H S env nf ks xs vs R Rx x k h0 np hS hl l ln t D q => ?_⟩
  refine s c σ H S env _ Rx x k t _ fun v H1 S1 d k1 s1 r1 t1 => ?_
  obtain ⟨e0, hf, hk, t1⟩ := t1
  obtain ⟨w, ew, rw0⟩ := k1.sl 0 _ e0
  cases (show w = .ref p from rw0)
  have hp : H1 p = some (.ins C dx (ks.zip vs)) := k1.kf.old p _ h0 np
  refine ⟨_, ew, p, C, dx, ks.zip vs, rfl, hp, c0, n, ?_, ?_⟩
  · rw [List.length_zip]
    omega
  · have hS0 : c.S0 p = none := by
      cases y : c.S0 p with
      | none => rfl
      | some o => have := k.kf.s0 p o y; rw [hS] at this; cases this
    have hS1 : S1 p = none := k1.kf.new p hS0 (mu_of h0 fun _ z => nomatch z)
    have hvl : vs.length = ks.length := by rw [l.length]; exact hl
    rw [putF_end hf hvl]
    refine sr (c.put p (.ins C dx ((ks ++ [f]).zip (vs ++ [v])))) σ _ S1 env (nf && d.flat) (ks ++ [f]) (xs ++ [d]) (vs ++ [v]) R noX xok0 ⟨⟨fun a o ea => ?_, k1.kf.s0, fun a o ea na => ?_, fun a ea na => ?_, fun b eb => ?_, ⟨k1.kf.tab.1.updH (fun v e => by rw [hp] at e; cases e; exact ⟨fun _ z => (nomatch z), fun _ z => (nomatch z)⟩) (fun _ _ e => e), fun q hq => by
      show upd c.H0 p _ q.1 ≠ none
      by_cases z : q.1 = p
      · rw [z, upd_same]
        exact fun y => nomatch y
      · rw [upd_ne z]
        exact k1.kf.tab.2 q hq⟩⟩, k1.len, fun j x ej => ?_, k1.apart⟩ upd_same np hS1 (by simp [hl]) ((repL_mono s1 xs vs l).app (repL_cons r1 repL_nil)) (fun z => by
      rw [Bool.and_eq_true] at z
      rw [newT_put h0]
      exact (repL_mono (newT_mono s1) xs vs (ln z.1)).app (repL_cons (flat_rep z.2 r1) repL_nil)) t1 D fun σ' H' S' nf' ks' xs' vs' k' s' hl' l' ln' r' => ?_
    · rw [upd_ne (fun z => by rw [z, hS1] at ea; cases ea)]
      exact k1.kf.sub a o ea
    · by_cases z : a = p
      · subst z
        have ea : upd c.H0 a (.ins C dx ((ks ++ [f]).zip (vs ++ [v]))) a = some o := ea
        rw [upd_same] at ea ⊢
        exact ea
      · have ea : upd c.H0 p (.ins C dx ((ks ++ [f]).zip (vs ++ [v]))) a = some o := ea
        rw [upd_ne z] at ea ⊢
        exact k1.kf.old a o ea na
    · by_cases z : a = p
      · rw [z]
        exact hS1
      · have na : Mu (upd c.H0 p (.ins C dx ((ks ++ [f]).zip (vs ++ [v]))) a) := na
        rw [upd_ne z] at na
        exact k1.kf.new a ea na
    · have nb : b ≠ p := fun z => np (.inl (by rw [← z]; exact eb))
      obtain ⟨⟨b1, cs, i, g, st, n, b2, b3⟩, b4⟩ := k1.kf.bag b eb
      refine ⟨⟨b1, cs, i, g, st, n, by rw [upd_ne nb]; exact b2, b3⟩, ?_⟩
      show upd c.H0 p _ b ≠ none
      rw [upd_ne nb]
      exact b4
    · obtain ⟨u, eu, r⟩ := k1.sl j x ej
      refine ⟨u, eu, DvR.keep (c := c) (c' := c.put p (.ins C dx ((ks ++ [f]).zip (vs ++ [v])))) rfl (Same.refl _) r fun q1 fa => ?_⟩
      obtain ⟨q2, q3, _⟩ := r.foot q1 fa
      have nq : q1 ≠ p := fun z => by rw [z, h0] at q3; cases q3
      refine ⟨q2, ?_, fun o e => by rw [upd_ne nq]; exact e⟩
      show upd c.H0 p _ q1 = none
      rw [upd_ne nq]
      exact q3
    · have e9 : (c.put p (.ins C dx ((ks ++ [f]).zip (vs ++ [v])))).put p (.ins C dx (ks'.zip vs')) = c.put p (.ins C dx (ks'.zip vs')) := by
        unfold Fm.put
        rw [upd_upd]
      rw [e9] at k'
      rw [newT_put h0] at ln'
      exact q σ' H' S' nf' ks' xs' vs' k' (s1.trans s') hl' l' ln' r'
/-- .. made new -/
def jSetN (p : Addr) (f : Str) (Te : DT) (U : ITS) : ITS := fun R Rx nf ks xs env => Te env (fun d => env[0]? = some (some (.val (.adr p))) ∧ f ∉ ks ∧ ks.length < 1000 ∧ U R noX nf (ks ++ [f]) (xs ++ [d]) env) Rx
theorem is_setW {f : Str} {x0 : Str} (h : DWn X E e Te) (h2 : DIs X E p dx C rest U) (c0 : Cls X.K C) (n : NoAttr X.K C f) (hN : X.N[0]? = some x0 := by rfl) (hv : Vis X.env.scope x0 := by first | exact Or.inl rfl | exact Or.inr (Or.inl rfl) | exact Or.inr (Or.inr rfl)) (hd : (x0 == ("__debug__" : Str)) = false := by decide)
    (hcd : (x0 == ("__classdict__" : Str)) = false := by decide) (hs : swapsWith e (some (.Attribute (.Name x0 p1) f p2)) pos.line X.env = pure false := by rfl) : DIs X E p dx C (.Assign [.Attribute (.Name x0 p1) f p2] e pos :: rest) (jSetN p f Te U) := by
  obtain ⟨t, pe, s⟩ := h
  obtain ⟨u, pr, sr⟩ := h2
  refine ⟨_, pss_cons (ps_fld (pv 0 hN hv hd hcd) pe hs) pr, fun c σ H S env nf ks xs vs R Rx x k h0 np hS hl l ln t D q => ?_⟩
  refine s c σ H S env _ Rx x k t _ fun v H1 S1 d k1 s1 r1 r2 t1 => ?_
  obtain ⟨e0, hf, hk, t1⟩ := t1
  obtain ⟨w, ew, rw0⟩ := k1.sl 0 _ e0
  cases (show w = .ref p from rw0)
  have hp : H1 p = some (.ins C dx (ks.zip vs)) := k1.kf.old p _ h0 np
  refine ⟨_, ew, p, C, dx, ks.zip vs, rfl, hp, c0, n, ?_, ?_⟩
  · rw [List.length_zip]
    omega
  · have hS0 : c.S0 p = none := by
      cases y : c.S0 p with
      | none => rfl
      | some o => have := k.kf.s0 p o y; rw [hS] at this; cases this
    have hS1 : S1 p = none := k1.kf.new p hS0 (mu_of h0 fun _ z => nomatch z)
    have hvl : vs.length = ks.length := by rw [l.length]; exact hl
    rw [putF_end hf hvl]
    refine sr (c.put p (.ins C dx ((ks ++ [f]).zip (vs ++ [v])))) σ _ S1 env nf (ks ++ [f]) (xs ++ [d]) (vs ++ [v]) R noX xok0 ⟨⟨fun a o ea => ?_, k1.kf.s0, fun a o ea na => ?_, fun a ea na => ?_, fun b eb => ?_, ⟨k1.kf.tab.1.updH (fun v e => by rw [hp] at e; cases e; exact ⟨fun _ z => (nomatch z), fun _ z => (nomatch z)⟩) (fun _ _ e => e), fun q hq => by
      show upd c.H0 p _ q.1 ≠ none
      by_cases z : q.1 = p
      · rw [z, upd_same]
        exact fun y => nomatch y
      · rw [upd_ne z]
        exact k1.kf.tab.2 q hq⟩⟩, k1.len, fun j x ej => ?_, k1.apart⟩ upd_same np hS1 (by simp [hl]) ((repL_mono s1 xs vs l).app (repL_cons r1 repL_nil)) (fun z => by
      rw [newT_put h0]
      exact (repL_mono (newT_mono s1) xs vs (ln z)).app (repL_cons (r2) repL_nil)) t1 D fun σ' H' S' nf' ks' xs' vs' k' s' hl' l' ln' r' => ?_
    · rw [upd_ne (fun z => by rw [z, hS1] at ea; cases ea)]
      exact k1.kf.sub a o ea
    · by_cases z : a = p
      · subst z
        have ea : upd c.H0 a (.ins C dx ((ks ++ [f]).zip (vs ++ [v]))) a = some o := ea
        rw [upd_same] at ea ⊢
        exact ea
      · have ea : upd c.H0 p (.ins C dx ((ks ++ [f]).zip (vs ++ [v]))) a = some o := ea
        rw [upd_ne z] at ea ⊢
        exact k1.kf.old a o ea na
    · by_cases z : a = p
      · rw [z]
        exact hS1
      · have na : Mu (upd c.H0 p (.ins C dx ((ks ++ [f]).zip (vs ++ [v]))) a) := na
        rw [upd_ne z] at na
        exact k1.kf.new a ea na
    · have nb : b ≠ p := fun z => np (.inl (by rw [← z]; exact eb))
      obtain ⟨⟨b1, cs, i, g, st, n, b2, b3⟩, b4⟩ := k1.kf.bag b eb
      refine ⟨⟨b1, cs, i, g, st, n, by rw [upd_ne nb]; exact b2, b3⟩, ?_⟩
      show upd c.H0 p _ b ≠ none
      rw [upd_ne nb]
      exact b4
    · obtain ⟨u, eu, r⟩ := k1.sl j x ej
      refine ⟨u, eu, DvR.keep (c := c) (c' := c.put p (.ins C dx ((ks ++ [f]).zip (vs ++ [v])))) rfl (Same.refl _) r fun q1 fa => ?_⟩
      obtain ⟨q2, q3, _⟩ := r.foot q1 fa
      have nq : q1 ≠ p := fun z => by rw [z, h0] at q3; cases q3
      refine ⟨q2, ?_, fun o e => by rw [upd_ne nq]; exact e⟩
      show upd c.H0 p _ q1 = none
      rw [upd_ne nq]
      exact q3
    · have e9 : (c.put p (.ins C dx ((ks ++ [f]).zip (vs ++ [v])))).put p (.ins C dx (ks'.zip vs')) = c.put p (.ins C dx (ks'.zip vs')) := by
        unfold Fm.put
        rw [upd_upd]
      rw [e9] at k'
      rw [newT_put h0] at ln'
      exact q σ' H' S' nf' ks' xs' vs' k' (s1.trans s') hl' l' ln' r'
end
def spIg (n : Bool) (C : Addr) (F : Spec) : Sp := fun vs H Q E => ∃ (c : Fm) (S : Hp) (p dx : Addr) (us : List V) (ds : List D) (R : D → Prop) (Rx : Er → Prop), vs = .ref p :: us ∧ c.H0 = H ∧ c.S0 = S ∧ Kf c H S ∧ H p = some (.ins C dx []) ∧ ¬ Ex c.B p ∧ S p = none ∧ RepL c.B S ds us ∧ F ds R Rx ∧
  (∀ H' S' ks xs vs', Kf (c.put p (.ins C dx (ks.zip vs'))) H' S' → xs.length = ks.length → RepL c.B S' xs vs' → (n = true → RepL c.B (newT H S') xs vs') → R (.obj C ks xs) → Q .non H') ∧ XOk c E Rx
abbrev spI (C : Addr) (F : Spec) : Sp := spIg false C F
abbrev spIN (C : Addr) (F : Spec) : Sp := spIg true C F
section
variable {P : Program} {w : World} {K : PySem.W.Frag} {mg : Str → Option Value} {base : Heap} {x qual : Str} {st : Stmt} {dvs : List V} {kws : List (Str × V)} {f C : Addr} {fd : FuncData} {N ps : List Str} {k : Nat} {F : Spec}
theorem fn_i {T : Addr → ITS} (Fd : FnS K x qual st dvs kws f fd) (S : FnScope N ps (defScope st)) (len : ∀ ds R Rx, F ds R Rx → ds.length + 1 = ps.length)
    (hbody : ∀ (p dx : Addr) (cdv : Value) (A : Around) (outer : List Env) (s : Shared) (H : Hp) (E : XK), Room k (A.deeper (PyProof.Rows.envOfC qual (defScope st) s.heap.objs.size f cdv)) →
      DIs (cxOf (L2.CX P w) P w K mg base N qual (defScope st) f cdv A outer s H E) E p dx C (defBody st) (T p))
    (hT : ∀ p ds R Rx, F ds R Rx → T p (fun _ ks xs => R (.obj C ks xs)) Rx true [] [] (startE N (.adr p :: ds))) : FnOk P w K mg base (L2.CX P w) (k + 1) f fd ps (spI C F) := by
  refine FunD.ok Fd S (fun vs H Q E ⟨c, S, p, dx, us, ds, R, Rx, e, _, _, _, _, _, _, l, h, _⟩ => by rw [e, List.length_cons, l.length]; exact len _ _ _ h) fun cdv A outer s H vs Q E hr hsp => ?_
  obtain ⟨c, Sh, p, dx, us, ds, R, Rx, e, h0, hs0, kf, hp, np, hS, l, h, q, xo⟩ := hsp
  subst e
  obtain ⟨t, pp, sm⟩ := hbody p dx cdv A outer s H E hr
  refine ⟨t, pp, sm c _ H Sh (startE N (.adr p :: ds)) true [] [] [] _ Rx xo (kn_start kf (repL_cons rfl l)) (by rw [h0]; exact hp) np hS rfl repL_nil (fun _ => repL_nil) (hT p ds R Rx h) _ fun σ' H' S' nf' ks' xs' vs' k' _ hl' l' ln' r' => ?_⟩
  exact q H' S' ks' xs' vs' k' hl' l' (fun z => nomatch z) r'
theorem fn_iN {T : Addr → ITS} (Fd : FnS K x qual st dvs kws f fd) (S : FnScope N ps (defScope st)) (len : ∀ ds R Rx, F ds R Rx → ds.length + 1 = ps.length)
    (hbody : ∀ (p dx : Addr) (cdv : Value) (A : Around) (outer : List Env) (s : Shared) (H : Hp) (E : XK), Room k (A.deeper (PyProof.Rows.envOfC qual (defScope st) s.heap.objs.size f cdv)) →
      DIs (cxOf (L2.CX P w) P w K mg base N qual (defScope st) f cdv A outer s H E) E p dx C (defBody st) (T p))
    (hT : ∀ p ds R Rx, F ds R Rx → T p (fun nf ks xs => nf = true ∧ R (.obj C ks xs)) Rx true [] [] (startE N (.adr p :: ds))) : FnOk P w K mg base (L2.CX P w) (k + 1) f fd ps (spIN C F) := by
  refine FunD.ok Fd S (fun vs H Q E ⟨c, S, p, dx, us, ds, R, Rx, e, _, _, _, _, _, _, l, h, _⟩ => by rw [e, List.length_cons, l.length]; exact len _ _ _ h) fun cdv A outer s H vs Q E hr hsp => ?_
  obtain ⟨c, Sh, p, dx, us, ds, R, Rx, e, h0, hs0, kf, hp, np, hS, l, h, q, xo⟩ := hsp
  subst e
  obtain ⟨t, pp, sm⟩ := hbody p dx cdv A outer s H E hr
  refine ⟨t, pp, sm c _ H Sh (startE N (.adr p :: ds)) true [] [] [] _ Rx xo (kn_start kf (repL_cons rfl l)) (by rw [h0]; exact hp) np hS rfl repL_nil (fun _ => repL_nil) (hT p ds R Rx h) _ fun σ' H' S' nf' ks' xs' vs' k' _ hl' l' ln' r' => ?_⟩
  exact q H' S' ks' xs' vs' k' hl' l' (fun _ => by rw [← h0]; exact ln' r'.1) r'.2
end
section
variable {X : Cx} {E : XK} {CX : CXT} {k : Nat} {C f : Addr} {fd : FuncData} {ps : List Str} {F : Spec} {x : Str} {e : Expr} {es : List Expr} {Tl : DTA} {pos p : Pos}
def xMake (F : Spec) (Tl : DTA) : DT := fun env R Rx => Tl env (fun ds => F ds R Rx) Rx
theorem sp_make {c : Fm} {σ : St} {H S : Hp} {env : En} {vs : List V} {xs : List D} {R : D → Prop} {Rx : Er → Prop} {Q : VK} {a dx : Addr} (kn : Kn c σ H S env) (x : XOk c E Rx) (l : RepL c.B S xs vs) (t : F xs R Rx) (ha : H a = none) (hdx : H dx = none) (ne : dx ≠ a)
    (q : ∀ v H' S' d, Kn c σ H' S' env → Same S S' → Rep c.B S' d v → R d → Q v H') : spI C F (.ref a :: vs) (upd (upd H dx (.own a)) a (.ins C dx [])) (fun v H2 => v = .non ∧ Q (.ref a) H2) E := by
  have k1 := (kn.new0 (o := .own a) hdx)
  have ha1 : upd H dx (.own a) a = none := by rw [upd_ne (Ne.symm ne)]; exact ha
  have k2 := k1.new0 (o := .ins C dx []) ha1
  refine ⟨c.at _ S, S, a, dx, vs, xs, R, Rx, rfl, rfl, rfl, k2.kf.at, upd_same, kn.kf.x_ne ha, kn.kf.s_none ha, l, t, fun H' S' ks ys us k' hl l' _ r' => ⟨rfl, ?_⟩, x.at k2.kf⟩
  have h2 : ∀ b o, b ≠ a → b ≠ dx → H b = some o → upd (upd (upd H dx (.own a)) a (.ins C dx [])) a (.ins C dx (ks.zip us)) b = some o := fun b o n1 n2 e => by rw [upd_ne n1, upd_ne n1, upd_ne n2]; exact e
  have hda : H' dx = some (.own a) := k'.old dx _ (by show upd (upd (upd H dx (.own a)) a (.ins C dx [])) a _ dx = _; rw [upd_ne ne, upd_ne ne, upd_same]) (kn.kf.x_ne hdx)
  have haa : H' a = some (.ins C dx (ks.zip us)) := k'.old a _ upd_same (kn.kf.x_ne ha)
  have sa : S' a = none := k'.new a (kn.kf.s_none ha) (by show Mu (upd _ a _ a); rw [upd_same]; exact mu_of rfl fun _ z => nomatch z)
  have sdx : S' dx = none := k'.new dx (kn.kf.s_none hdx) (by show Mu (upd (upd (upd H dx (.own a)) a (.ins C dx [])) a _ dx); rw [upd_ne ne, upd_ne ne, upd_same]; exact mu_of rfl fun _ z => nomatch z)
  have sd1 : upd S' dx (.own a) a = none := by rw [upd_ne (Ne.symm ne)]; exact sa
  have s3 : Same S' (upd (upd S' dx (.own a)) a (.ins C dx (ks.zip us))) := (same_upd sdx).trans (same_upd sd1)
  have kn2 : Kn c σ H' (upd (upd S' dx (.own a)) a (.ins C dx (ks.zip us))) env := by
    refine kn.step (k'.s0.trans s3) (fun b o eb => ?_) (fun b o eb nb => ?_) (fun b eb nb => ?_) (fun b eb => ?_) (fun q hq => ⟨(k'.tab.1 q hq).1, by rw [upd_ne (fun z => kn.kf.x_ne ha (.inr ⟨q, hq, z⟩)), upd_ne (fun z => kn.kf.x_ne hdx (.inr ⟨q, hq, z⟩))]; exact (k'.tab.1 q hq).2⟩)
    · by_cases z : b = a
      · subst z
        rw [upd_same] at eb
        rw [haa]
        exact eb
      · rw [upd_ne z] at eb
        by_cases y : b = dx
        · subst y
          rw [upd_same] at eb
          rw [hda]
          exact eb
        · rw [upd_ne y] at eb
          exact k'.sub b o eb
    · exact k'.old b o (h2 b o (fun z => by rw [z, ha] at eb; cases eb) (fun z => by rw [z, hdx] at eb; cases eb) eb) nb
    · have n1 : b ≠ a := fun z => nb.1 (by rw [z]; exact ha)
      have n2 : b ≠ dx := fun z => nb.1 (by rw [z]; exact hdx)
      rw [upd_ne n1, upd_ne n2]
      refine k'.new b eb ?_
      show Mu (upd (upd (upd H dx (.own a)) a (.ins C dx [])) a _ b)
      rw [upd_ne n1, upd_ne n1, upd_ne n2]
      exact nb
    · obtain ⟨⟨b1, cs, i, g, st, n, b2, b3, b4⟩, b5⟩ := k'.bag b eb
      have n1 : b ≠ a := fun z => kn.kf.b_ne ha (by rw [← z]; exact eb)
      have n2 : b ≠ dx := fun z => kn.kf.b_ne hdx (by rw [← z]; exact eb)
      refine ⟨?_, cs, i, g, st, n, b2, s3 _ _ b3, b4⟩
      rw [upd_ne n1, upd_ne n2]
      exact b1
  refine q (.ref a) H' _ (.obj C ks ys) kn2 (k'.s0.trans s3) ?_ r'
  rw [Rep]
  exact ⟨a, dx, us, rfl, upd_same, by rw [upd_ne ne, upd_same], hl, repL_mono s3 ys us l'⟩
theorem d_make (M : Mk X.K C f) (G : FnOk X.prog X.w X.K X.mg X.base CX k f fd ps (spI C F)) (hr : Room (k + 1) X.A) (hm : X.mg x = some (.ref C)) (hb : Binds X.K fd ps []) (hx : Passes CX X E) (ha : DA X E (e :: es) Tl)
    (hg : Gl X x := by rfl) (hdb : (x == ("__debug__" : Str)) = false := by decide) (he : starEach (e :: es) X.env = (false, eval e X.env) :: starEach es X.env := by rfl) (hpl : (backTo pos (starEach es X.env)).any (·.1) = false := by rfl) :
    DE X E (.Call (.Name x p) (e :: es) [] pos) (xMake F Tl) := by
  obtain ⟨t, p1, s⟩ := ha
  refine ⟨_, pe_make M G hr hg hm hb .nil hx p1 hdb he hpl, fun c σ H S env R Rx x k t Q q => s c σ H S env _ Rx x k t _ fun vs H1 S1 xs k1 s1 l1 t1 a dx hxa hxd ne => ?_⟩
  rw [List.append_nil]
  exact sp_make k1 x l1 t1 hxa hxd ne fun v H' S' d k' s' r' z => q v H' S' d k' (s1.trans s') r' z
end
end DL
namespace DL
open PySem PySem.Spec L2
variable [TbC]
section
variable {X : Cx} {CX : CXT} {k : Nat} {C g : Addr} {fd : FuncData} {ps : List Str} {F : Spec} {E : XK} {a b : Expr} {Ta Tb : DT} {pos : Pos}
def xOB (C : Addr) (F : Spec) (Ta Tb : DT) : DT := fun env R Rx => Ta env (fun x => Tb env (fun y => asO C (fun _ _ => True) x ∧ asO C (fun _ _ => True) y ∧ F [x, y] R Rx) Rx) Rx
def xOBi (C : Addr) (F : Spec) (Ta Tb : DT) : DT := fun env R Rx => Ta env (fun x => Tb env (fun y => asO C (fun _ _ => True) x ∧ asI (fun _ => True) y ∧ F [x, y] R Rx) Rx) Rx
def xInv (C : Addr) (F : Spec) (Ta : DT) : DT := fun env R Rx => Ta env (fun x => asO C (fun _ _ => True) x ∧ F [x] R Rx) Rx
end
end DL
namespace DL
open PySem PySem.Spec L2
variable [TbC]
/-- a method, a getter: its function -/
structure Dm (K : PySem.W.Frag) (x qual : Str) (st : Stmt) where
  f : Addr
  fd : FuncData
  F : FnS K x qual st [] [] f fd
end DL
namespace DL
open PySem PySem.Spec L2
variable [TbC]
/-- isinstance(x, C), C an own class -/
def isO (C : Addr) : D → Option Bool
  | .obj C' _ _ => if C' = C then some true else none
  | .non | .bl _ | .int _ | .str _ | .lst _ | .tup _ => some false
  | _ => none
def fIsiO (C : Addr) : DFn
  | [x, .adr c], R => c = C ∧ ∃ b, isO C x = some b ∧ R (.bl b)
  | _, _ => False
end DL
namespace DL
open PySem PySem.Spec L2
variable [TbC]
/-- x == y, two objects of the class at C with an own == -/
def opOwn (C : Addr) (F : Spec) : DOp := fun x y R => asO C (fun _ _ => True) x ∧ asO C (fun _ _ => True) y ∧ F [x, y] R noX
end DL
namespace DL
open PySem PySem.Spec L2
variable [TbC]
def xMethK (C : Addr) (m : Str) (F : Spec) (g : List D → List D → List D) (To : DT) (Tk : DTA) : DT := fun env R Rx => To env (fun d => asO C (fun ks xs => fld ks xs m = none) d ∧ Tk env (fun zs => F (g [d] zs) R Rx) Rx) Rx
end DL
namespace DL
open PySem PySem.Spec L2
end DL
namespace DL
open PySem PySem.Spec L2
end DL
namespace DL
open PySem PySem.Spec L2
end DL
namespace DL
open PySem PySem.Spec L2
variable [TbC]
section
variable {α : Type} {G : DG} {Te : DT} {Tt : DTT} {vs : List Nat} {env : En} {R : List D → Prop}
theorem LcP.of {as : List α} {g : α → D} (f : α → D) (hz : as.length ≤ sizeLine) (h : ∀ (i : Nat) (a : α) (N : D → Prop), as[i]? = some a → N (f a) → G (g a) (inner vs env) fun env' => Te env' N noX) (k : R (as.map f)) :
    LcP (as.map g) G xYes Te vs env R := by
  refine ⟨fun i acc => acc = (as.take i).map f, by simp, fun i d acc e hI => ?_, fun acc hI => by rw [hI, List.length_map, List.take_length]; exact k⟩
  rw [List.getElem?_map] at e
  cases q : as[i]? with
  | none => rw [q] at e; cases e
  | some a =>
    rw [q] at e
    cases e
    have hi := (List.getElem?_eq_some_iff.mp q).1
    have key := h i a (fun y => acc.length < sizeLine ∧ acc ++ [y] = (as.take (i + 1)).map f) q ⟨by rw [hI, List.length_map, List.length_take]; omega, by rw [hI, take_succ_map f q]⟩
    have e1 : (fun env' => xYes env' (fun b => (b = true → Te env' (fun y => acc.length < sizeLine ∧ acc ++ [y] = (as.take (i + 1)).map f) noX) ∧ (b = false → acc = (as.take (i + 1)).map f)) noX) = fun env' => Te env' (fun y => acc.length < sizeLine ∧ acc ++ [y] = (as.take (i + 1)).map f) noX := by
      funext env'
      refine propext ⟨fun t => t.1 rfl, fun t => ⟨fun _ => t, fun z => nomatch z⟩⟩
    rw [e1]
    exact key
/-- items drawn: of them only P is known -/
theorem mapped_of (g : α → D) {P : α → Prop} : ∀ {acc : List D}, (∀ y ∈ acc, ∃ a, y = g a ∧ P a) → ∃ as : List α, acc = as.map g ∧ ∀ a ∈ as, P a
  | [], _ => ⟨[], rfl, fun n h => nomatch h⟩
  | y :: acc, h => by
    obtain ⟨n, rfl, hp⟩ := h y (List.mem_cons_self ..)
    obtain ⟨ns, rfl, hn⟩ := mapped_of g (acc := acc) fun z hz => h z (List.mem_cons_of_mem _ hz)
    exact ⟨n :: ns, rfl, fun m hm => by
      rcases List.mem_cons.mp hm with e | e
      · rw [e]; exact hp
      · exact hn m e⟩
theorem LcP.draw {xs : List D} (g : α → D) (P : α → Prop) (hz : xs.length ≤ sizeLine) (h : ∀ (i : Nat) (d : D) (N : D → Prop), xs[i]? = some d → (∀ a, P a → N (g a)) → G d (inner vs env) fun env' => Te env' N noX)
    (k : ∀ as : List α, as.length = xs.length → (∀ a ∈ as, P a) → R (as.map g)) : LcP xs G xYes Te vs env R := by
  refine LcP.all (fun y => ∃ a, y = g a ∧ P a) hz (fun i d N e hN => h i d N e fun a ha => hN _ ⟨a, rfl, ha⟩) fun acc hl hacc => ?_
  obtain ⟨as, rfl, has⟩ := mapped_of g hacc
  exact k as (by rw [List.length_map] at hl; exact hl) has
end
section
variable {x0 x1 x2 x3 x4 x5 x6 x7 : D} {r : List D}
theorem w_at0 : atI (x0 :: r) 0 = some x0 := by simp [atI, ixN]
theorem w_at1 : atI (x0 :: x1 :: r) 1 = some x1 := by
  unfold atI ixN
  rw [if_pos (by decide), if_pos (by simp only [List.length_cons]; omega)]
  rfl
theorem w_at2 : atI (x0 :: x1 :: x2 :: r) 2 = some x2 := by
  unfold atI ixN
  rw [if_pos (by decide), if_pos (by simp only [List.length_cons]; omega)]
  rfl
theorem w_at3 : atI (x0 :: x1 :: x2 :: x3 :: r) 3 = some x3 := by
  unfold atI ixN
  rw [if_pos (by decide), if_pos (by simp only [List.length_cons]; omega)]
  rfl
theorem w_at4 : atI (x0 :: x1 :: x2 :: x3 :: x4 :: r) 4 = some x4 := by
  unfold atI ixN
  rw [if_pos (by decide), if_pos (by simp only [List.length_cons]; omega)]
  rfl
theorem w_at5 : atI (x0 :: x1 :: x2 :: x3 :: x4 :: x5 :: r) 5 = some x5 := by
  unfold atI ixN
  rw [if_pos (by decide), if_pos (by simp only [List.length_cons]; omega)]
  rfl
end
end DL
namespace DL
open PySem PySem.Spec L2
variable [TbC]
section
variable {X : Cx} {pins : List (Addr × Obj)} {σ : St} {H : Hp} {s : Shared} {k : Nat} {f g C : Addr} {fd : FuncData} {ps : List Str} {sp : Sp} {F : Spec}
theorem run_in1 {Q : VK} {us : List Value} {vs : List V} {E' : Value → Shared → Prop} (G : FnOk X.prog X.w X.K X.mg X.base (L2.CX X.prog X.w) k f fd ps sp) (hr : Room (k + 1) X.A) (hb : Binds X.K fd ps []) (I : Inv X pins σ H s) (r : Vals vs us) (h : sp vs H Q E0) :
    wpAny (model X.prog X.w) X.A.in1 (call (.ref f) us) (EP X pins σ Q) E' s := by
  have hl : (us ++ []).length = ps.length := by rw [List.append_nil, ← r.length]; exact G.len _ _ _ _ h
  have hb2 := hb s us I.kIn hl
  rw [List.append_nil] at hb2
  refine wpAny_call (codeAny_mono (G.run X.A.in1 X.stack s H ⟨us, []⟩ us vs Q E0 hr.in1 I.env0.in1 hb2 r h) fun r s' hq => ?_)
  cases r with
  | error er => exact False.elim ((passL (X := X.nox)) pins σ H s er s' (I.wish _) hq)
  | ok fl =>
    cases fl with
    | ret u => exact I.after hq
    | next => exact False.elim hq
    | brk => exact False.elim hq
    | cont => exact False.elim hq
def rLenOw (C : Addr) (sp : Sp) : List V → Hp → VK → Prop := fun xs H Q => ∃ a dx fs, xs = [.ref a] ∧ H a = some (.ins C dx fs) ∧ sp [.ref a] H (fun v H' => ∃ n : Int, v = .int n ∧ 0 ≤ n ∧ n < 2 ^ 63 ∧ Q (.int n) H') E0
theorem call_lenOw (o : Hx.Own X.K C "__len__" g) (G : FnOk X.prog X.w X.K X.mg X.base (L2.CX X.prog X.w) k g fd ps sp) (hb : Binds X.K fd ps []) (hr : Room (k + 1) X.A) : CallR X (.builtin "len") (rLenOw C sp) := by
  intro pins s σ H xs us Q I r h
  obtain ⟨a, dx, fs, rfl, ha, q⟩ := h
  obtain ⟨u, rfl, ru⟩ := vals1 r
  obtain rfl : u = Value.ref a := ru
  obtain ⟨mA, J, _⟩ := ins_get I.hok ha
  obtain ⟨od, J, _⟩ := J.look
  obtain ⟨m, hF⟩ := I.fr
  refine PySem.W.len_K hF I.ok.mod.kin J o.at_ o.fn (wpAny_mono (run_in1 (us := [.ref a]) (vs := [.ref a]) G hr hb I (.cons rfl .nil) q) (fun u s' hq => ?_) fun _ _ z => z)
  obtain ⟨v, H', I', rv, n, rfl, h0, h1, q2⟩ := hq
  obtain ⟨t, rfl⟩ := rv
  exact ⟨⟨h0, h1⟩, .int n, H', I'.tok _, ⟨_, rfl⟩, q2⟩
def natR (R : D → Prop) : D → Prop
  | .int n => 0 ≤ n ∧ n < 2 ^ 63 ∧ R (.int n)
  | _ => False
theorem w_natR {R : D → Prop} {n : Int} : natR R (.int n) = (0 ≤ n ∧ n < 2 ^ 63 ∧ R (.int n)) := rfl
def fLenOw (C : Addr) (F : Spec) : DFn
  | [x], R => asO C (fun _ _ => True) x ∧ F [x] (natR R) noX
  | _, _ => False
theorem w_fLenOw {C : Addr} {F : Spec} {x : D} {R : D → Prop} : fLenOw C F [x] R = (asO C (fun _ _ => True) x ∧ F [x] (natR R) noX) := rfl
theorem b_lenOw (o : Hx.Own X.K C "__len__" g) (G : FnOk X.prog X.w X.K X.mg X.base (L2.CX X.prog X.w) k g fd ps (spD F)) (hb : Binds X.K fd ps []) (hr : Room (k + 1) X.A) : CallOk X (.builtin "len") (fLenOw C F) := by
  refine ⟨_, call_lenOw o G hb hr, fun c σ H S env xs vs R kn r t Q q => ?_⟩
  match xs, t with
  | [x], t2 =>
  obtain ⟨t0, t3⟩ := t2
  obtain ⟨v, rfl, r1⟩ := rep1 r
  cases x <;> try exact (show False from t0).elim
  obtain ⟨rfl, _⟩ := t0
  obtain ⟨a, dx, vs, rfl, h1, hn, l1⟩ := obj_of kn r1
  refine ⟨a, dx, _, rfl, h1, sp_call kn xok0 (repL_cons r1 repL_nil) t3 fun v H' S' d k' s' r' t' => ?_⟩
  cases d <;> try exact (show False from t').elim
  obtain ⟨n0, n1, t'⟩ := t'
  exact ⟨_, r', n0, n1, q _ H' S' (.int _) k' s' rfl t'⟩
end
section
variable {X : Cx} {E : XK} {a b c : Expr} {pos : Pos}
def zPar3 (i j l : Nat) (Tl : DTA) : DTS := fun Q env => Tl env (fun ds => match ds with
  | [d, d', d''] => Q.nx (put l d'' (put j d' (put i d env)))
  | _ => False) Q.ex
theorem rep3 {B : Option Addr} {S : Hp} {d d' d'' : D} {vs : List V} (r : RepL B S [d, d', d''] vs) : ∃ v v' v'', vs = [v, v', v''] ∧ Rep B S d v ∧ Rep B S d' v' ∧ Rep B S d'' v'' := by
  obtain ⟨v, ws, e, r1, t⟩ := repL_cons_of r
  obtain ⟨v', v'', e', r2, r3⟩ := rep2 t
  rw [e'] at e
  exact ⟨v, v', v'', e, r1, r2, r3⟩
end
end DL
namespace DL
open PySem PySem.Spec L2
end DL
namespace DL
open PySem PySem.Spec L2
variable [TbC]
def xLc2F (Ti : DTI) (G : DG) (Tt : DTT) (Ti1 : DTI) (G1 : DG) (Tt1 : DTT) (Te : DT) (vs vs1 : List Nat) : DTF := fun env R Rx => Ti env (fun xs => ∃ I : Nat → List D → Prop, I 0 [] ∧
  (∀ i d acc, xs[i]? = some d → I i acc → G d (inner vs env) fun env' => Tt env' (fun b => (b = true → Ti1 env' (fun ys => ∃ I1 : Nat → List D → Prop, I1 0 acc ∧
      (∀ j e acc, ys[j]? = some e → I1 j acc → G1 e (inner vs1 env') fun env'' => Tt1 env'' (fun b => (b = true → Te env'' (fun y => acc.length < sizeLine ∧ I1 (j + 1) (acc ++ [y])) noX) ∧ (b = false → I1 (j + 1) acc)) noX) ∧
      ∀ acc, I1 ys.length acc → I (i + 1) acc) noX) ∧ (b = false → I (i + 1) acc)) noX) ∧
  ∀ acc, I xs.length acc → R acc) Rx
/-- the word: typed lists both -/
def Lc2P (xs : List D) (G : DG) (Tt : DTT) (Ti1 : DTI) (G1 : DG) (Tt1 : DTT) (Te : DT) (vs vs1 : List Nat) (env : En) (R : List D → Prop) : Prop := ∃ I : Nat → List D → Prop, I 0 [] ∧
  (∀ i d acc, xs[i]? = some d → I i acc → G d (inner vs env) fun env' => Tt env' (fun b => (b = true → Ti1 env' (fun ys => ∃ I1 : Nat → List D → Prop, I1 0 acc ∧
      (∀ j e acc, ys[j]? = some e → I1 j acc → G1 e (inner vs1 env') fun env'' => Tt1 env'' (fun b => (b = true → Te env'' (fun y => acc.length < sizeLine ∧ I1 (j + 1) (acc ++ [y])) noX) ∧ (b = false → I1 (j + 1) acc)) noX) ∧
      ∀ acc, I1 ys.length acc → I (i + 1) acc) noX) ∧ (b = false → I (i + 1) acc)) noX) ∧
  ∀ acc, I xs.length acc → R acc
theorem w_lc2 {Ti Ti1 : DTI} {G G1 : DG} {Tt Tt1 : DTT} {Te : DT} {vs vs1 : List Nat} {env : En} {R : List D → Prop} {Rx : Er → Prop} : xLc2F Ti G Tt Ti1 G1 Tt1 Te vs vs1 env R Rx = Ti env (fun xs => Lc2P xs G Tt Ti1 G1 Tt1 Te vs vs1 env R) Rx := rfl
/-- no tests: all f a b, in order -/
theorem Lc2P.of {α β : Type} {as : List α} {g : α → D} {Ti1 : DTI} {G G1 : DG} {Te : DT} {vs vs1 : List Nat} {env : En} {R : List D → Prop} (bs : List β) (g1 : β → D) (f : α → β → D) (hz : as.length * bs.length ≤ sizeLine)
    (h2 : ∀ (i : Nat) (a : α) (R1 : En → Prop), as[i]? = some a → (∀ env' : En, (∀ M : List D → Prop, M (bs.map g1) → Ti1 env' M noX) → (∀ (j : Nat) (b : β) (N : D → Prop), bs[j]? = some b → N (f a b) → G1 (g1 b) (inner vs1 env') fun env'' => Te env'' N noX) → R1 env') → G (g a) (inner vs env) R1)
    (k : R (as.flatMap fun a => bs.map (f a))) : Lc2P (as.map g) G xYes Ti1 G1 xYes Te vs vs1 env R := by
  refine ⟨fun i acc => acc = (as.take i).flatMap fun a => bs.map (f a), by simp, fun i d acc e hI => ?_, fun acc hI => by rw [hI, List.length_map, List.take_length]; exact k⟩
  rw [List.getElem?_map] at e
  cases q : as[i]? with
  | none => rw [q] at e; cases e
  | some a =>
    rw [q] at e
    cases e
    have hi := (List.getElem?_eq_some_iff.mp q).1
    have eacc : acc.length = i * bs.length := by
      rw [hI, List.length_flatMap]
      have : (as.take i).map (fun a => (bs.map (f a)).length) = List.replicate i bs.length := by
        apply List.ext_getElem
        · simp; omega
        · intro n h1 h2
          simp
      rw [this, List.sum_replicate_nat]
    have et : as.take (i + 1) = as.take i ++ [a] := by rw [List.take_succ, q]; rfl
    refine h2 i a _ q fun env' hT hE => ⟨fun _ => hT _ ⟨fun j acc2 => acc2 = acc ++ (bs.take j).map (f a), by simp, fun j d acc2 e2 hI2 => ?_, fun acc2 hI2 => ?_⟩, fun z => nomatch z⟩
    · rw [List.getElem?_map] at e2
      cases q2 : bs[j]? with
      | none => rw [q2] at e2; cases e2
      | some b =>
        rw [q2] at e2
        cases e2
        have hj := (List.getElem?_eq_some_iff.mp q2).1
        have key := hE j b (fun y => acc2.length < sizeLine ∧ acc2 ++ [y] = acc ++ (bs.take (j + 1)).map (f a)) q2 ⟨by
          rw [hI2, List.length_append, List.length_map, List.length_take, eacc]
          have : (i + 1) * bs.length ≤ as.length * bs.length := Nat.mul_le_mul_right _ hi
          rw [Nat.succ_mul] at this
          omega, by rw [hI2, take_succ_map (f a) q2, List.append_assoc]⟩
        have e1 : (fun env'' => xYes env'' (fun b => (b = true → Te env'' (fun y => acc2.length < sizeLine ∧ acc2 ++ [y] = acc ++ (bs.take (j + 1)).map (f a)) noX) ∧ (b = false → acc2 = acc ++ (bs.take (j + 1)).map (f a))) noX) = fun env'' => Te env'' (fun y => acc2.length < sizeLine ∧ acc2 ++ [y] = acc ++ (bs.take (j + 1)).map (f a)) noX := by
          funext env''
          refine propext ⟨fun t => t.1 rfl, fun t => ⟨fun _ => t, fun z => nomatch z⟩⟩
        rw [e1]
        exact key
    · show acc2 = (as.take (i + 1)).flatMap fun a => bs.map (f a)
      rw [hI2, List.length_map, List.take_length, et, List.flatMap_append, hI]
      simp
def asStrs : List D → Option (List Str)
  | [] => some []
  | .str i :: r => (asStrs r).map (i :: ·)
  | _ :: _ => none
theorem w_asStrs (ns : List Str) : asStrs (ns.map D.str) = some ns := by
  induction ns with
  | nil => rfl
  | cons n ns ih => show (asStrs (ns.map D.str)).map (n :: ·) = _; rw [ih]; rfl
def asS (R : Str → Prop) : D → Prop
  | .str s => R s
  | _ => False
theorem w_asS {Q : Str → Prop} {s : Str} : asS Q (.str s) = Q s := rfl
def opJoin (a : Str) : D → (D → Prop) → Prop
  | .lst xs, R => ∃ ys : List Str, asStrs xs = some ys ∧ (ys.map (·.length)).sum + ys.length * a.length ≤ 16777216 ∧ R (.str (Txt.join a ys))
  | _, _ => False
theorem w_join {a : Str} {xs : List D} {R : D → Prop} : opJoin a (.lst xs) R = ∃ ys : List Str, asStrs xs = some ys ∧ (ys.map (·.length)).sum + ys.length * a.length ≤ 16777216 ∧ R (.str (Txt.join a ys)) := rfl
def opFind (a : Str) : D → (D → Prop) → Prop
  | .str b, R => R (.int (Txt.find a b))
  | _, _ => False
theorem w_find {a b : Str} {R : D → Prop} : opFind a (.str b) R = R (.int (Txt.find a b)) := rfl
def xM1 (op : Str → D → (D → Prop) → Prop) (To Te : DT) : DT := fun env R Rx => To env (asS fun a => Te env (fun y => op a y R) Rx) Rx
theorem w_m1 {op : Str → D → (D → Prop) → Prop} {To Te : DT} {env : En} {R : D → Prop} {Rx : Er → Prop} : xM1 op To Te env R Rx = To env (asS fun a => Te env (fun y => op a y R) Rx) Rx := rfl
section
variable {X : Cx} {E : XK} {o e : Expr} {To Te : DT} {apos pos : Pos}
def fStrI : DFn
  | [.int i], R => i.natAbs.log2 < 1920 ∧ R (.str (toString i))
  | _, _ => False
theorem w_fStrI {i : Int} {R : D → Prop} : fStrI [.int i] R = (i.natAbs.log2 < 1920 ∧ R (.str (toString i))) := rfl
theorem b_str : CallOk X (.type "str") fStrI := by
  refine ⟨_, call_str_int, fun c σ H S env xs vs R k r t Q q => ?_⟩
  unfold fStrI at t
  split at t <;> try exact t.elim
  obtain ⟨v, rfl, r1⟩ := rep1 r
  exact ⟨_, by rw [show v = _ from r1], t.1, q _ H S (.str _) k (Same.refl S) rfl t.2⟩
end
end DL
namespace DL
open PySem PySem.Spec L2 PyProof.Rows
variable [TbC]
section
variable {X : Cx} {E : XK} {a b e ix : Expr} {pos p1 p2 : Pos} {Ti Tv : DT}
theorem get_list : PGet X (rIxL X.K) := by
  intro pins s σ H x y v u Q I rx ry h
  obtain ⟨p, xs, i, z, rfl, rfl, hq, he, q⟩ := h
  cases rx
  obtain ⟨t, rfl⟩ := ry
  obtain ⟨its, r, pl, hz⟩ := I.list hq
  obtain ⟨j, h1, h2, h3, h4, h5⟩ := atI_get he
  obtain ⟨w, ew, rw'⟩ := r.get h2
  have hl := r.length
  have hn := line63
  have fin : EP X pins σ Q w s := ⟨z, H, I, rw', q⟩
  by_cases h0 : 0 ≤ i
  · have hj : i.toNat = j := by
      rw [seqIndex_of h0 h5] at h1
      exact Option.some.inj h1
    exact wpAny_getItem_list pl.isList h0 (by omega) (by rw [hj]; simpa using ew) fin
  · have hj : (i + (its.toArray.size : Int)).toNat = j := by
      rw [seqIndex_neg (by omega) h4] at h1
      rw [List.size_toArray, ← hl]
      exact Option.some.inj h1
    exact wpAny_getItem_list_neg pl.isList (by omega) (by rw [List.size_toArray] <;> omega) (by omega) (by rw [hj]; simpa using ew) fin
theorem atI_ixN {α : Type} {xs : List α} {k : Int} {j : Nat} (h : ixN xs.length k = some j) : atI xs k = xs[j]? := by
  unfold atI
  rw [h]
  rfl
/-- xs[k] op= e -/
def zAugO (i : Nat) (f : Int → Int → Int) (Ti Tv : DT) : DTS := fun Q env => ∃ xs, env[i]? = some (some (.own xs)) ∧ Ti env (asI fun k => ∃ j n, ixN xs.length k = some j ∧ xs[j]? = some (.int n) ∧ Tv env (asI fun m => Q.nx (putO' i (xs.set j (.int (f n m))) env)) Q.ex) Q.ex
theorem w_zAugO {i : Nat} {f : Int → Int → Int} {Q : DEnds} {env : En} : zAugO i f Ti Tv Q env = ∃ xs, env[i]? = some (some (.own xs)) ∧ Ti env (asI fun k => ∃ j n, ixN xs.length k = some j ∧ xs[j]? = some (.int n) ∧ Tv env (asI fun m => Q.nx (putO' i (xs.set j (.int (f n m))) env)) Q.ex) Q.ex := rfl
theorem s_augO (i : Nat) {x : Str} {op : Operator} {f : Int → Int → Int} (ho : PIp X op (ipI f)) (hi : DE X E ix Ti) (hv : DE X E e Tv) (hN : X.N[i]? = some x := by rfl) (hvi : Vis X.env.scope x := by first | exact Or.inl rfl | exact Or.inr (Or.inl rfl) | exact Or.inr (Or.inr rfl))
    (hd : (x == ("__debug__" : Str)) = false := by decide) (hcd : (x == ("__classdict__" : Str)) = false := by decide)
    (ha : ∀ ov iv new, augStore ix ov iv new = (do holding [new, ov, iv] (setItem ov iv new); release [new, ov, iv] []; pure .next) := by intros; rfl) :
    DS X E (.AugAssign (.Subscript (.Name x p1) ix p2) op e pos) (zAugO i f Ti Tv) := by
  obtain ⟨ti, pi1, si⟩ := hi
  obtain ⟨tv, pv1, sv⟩ := hv
  refine ⟨_, ps_augS (pv i hN hvi hd hcd) pi1 get_list pv1 ho set_list ha, fun c σ H S env Q x k t Dn m => ?_⟩
  obtain ⟨xs, exs, t⟩ := t
  obtain ⟨p, vs0, ep, _⟩ := own_of k exs
  refine ⟨_, ep, si c σ H S env _ _ x k t _ fun u H1 S1 d k1 s1 r1 t1 => ?_⟩
  cases d <;> try exact (show False from t1).elim
  rename_i kk
  obtain ⟨j, n, ej, en, t1⟩ := t1
  obtain ⟨q, vs, e1, _, _, h2, l⟩ := own_of k1 exs
  rw [ep] at e1
  cases e1
  obtain ⟨w, ew, rw'⟩ := l.get en
  have hj : ixN vs.length kk = some j := by rw [l.length]; exact ej
  refine ⟨p, vs, kk, w, rfl, r1, SqL.of h2, by rw [atI_ixN hj]; exact ew, ?_⟩
  refine sv c σ H1 S1 env _ _ x k1 t1 _ fun v2 H4 S4 d4 k4 s4 r4 t4 => ?_
  cases d4 <;> try exact (show False from t4).elim
  rename_i mm
  obtain ⟨q', vs', e1', _, _, h2', l'⟩ := own_of k4 exs
  rw [ep] at e1'
  cases e1'

  refine ⟨n, mm, rw', r4, p, vs', kk, j, rfl, r1, h2', by rw [l'.length]; exact ej, ?_⟩
  have l2 := l'.set j (d := .int (f n mm)) (v := .int (f n mm)) rfl
  exact m.1 _ _ S4 _ (k4.change exs ep l2) (s1.trans s4) t4
end
end DL
namespace DL
open PySem PySem.Spec L2
variable [TbC]
def thaw1 : Option DV → Option DV
  | some (.own xs) => some (.val (.lst xs))
  | some (.tre t _) => some (.val t.d)
  | o => o
def thaw (env : En) : En := env.map thaw1
theorem w_thaw_nil : thaw [] = [] := rfl
theorem w_thaw_cons {o : Option DV} {l : En} : thaw (o :: l) = thaw1 o :: thaw l := rfl
theorem w_thaw_own {xs : List D} : thaw1 (some (.own xs)) = some (.val (.lst xs)) := rfl
theorem w_thaw_val {d : D} : thaw1 (some (.val d)) = some (.val d) := rfl
theorem w_thaw_none : thaw1 none = none := rfl
theorem w_thaw_tre {t : T} {as : List Addr} : thaw1 (some (.tre t as)) = some (.val t.d) := rfl
theorem thaw_get {env : En} {j : Nat} {x : DV} (e : (thaw env)[j]? = some (some x)) : (∃ d, x = .val d ∧ env[j]? = some (some (.val d))) ∨ (∃ xs, x = .val (.lst xs) ∧ env[j]? = some (some (.own xs))) ∨ ∃ t as, x = .val t.d ∧ env[j]? = some (some (.tre t as)) := by
  unfold thaw at e
  rw [List.getElem?_map] at e
  cases q : env[j]? with
  | none => rw [q] at e; cases e
  | some o =>
    rw [q] at e
    cases o with
    | none => cases e
    | some y =>
      cases y with
      | val d => cases e; exact .inl ⟨d, rfl, rfl⟩
      | own xs => cases e; exact .inr (.inl ⟨xs, rfl, rfl⟩)
      | tre t as => cases e; exact .inr (.inr ⟨t, as, rfl, rfl⟩)
/-- a is the address of a thing of the frame's own -/
def OwnA (σ : St) (env : En) (a : Addr) : Prop := ∃ (j : Nat) (x : DV) (v : V), env[j]? = some (some x) ∧ σ[j]? = some (some v) ∧ Foot x v a
open Classical in
noncomputable def lendS (σ : St) (env : En) (H S : Hp) : Hp := fun a => if OwnA σ env a then H a else S a
section
variable {c : Fm} {σ : St} {H H' S S' : Hp} {env : En} {a : Addr}
theorem lend_own (o : OwnA σ env a) : lendS σ env H S a = H a := if_pos o
theorem lend_not (o : ¬ OwnA σ env a) : lendS σ env H S a = S a := if_neg o
theorem ownA_at (k : Kn c σ H S env) (o : OwnA σ env a) : S a = none ∧ c.H0 a = none ∧ Mu (H a) := by
  obtain ⟨j, x, v, e, e1, f⟩ := o
  obtain ⟨u, e2, r⟩ := k.sl j _ e
  rw [e1] at e2
  cases e2
  exact r.foot a f
theorem not_own (k : Kn c σ H S env) {o : HO} (e : S a = some o) : ¬ OwnA σ env a := fun z => by
  rw [(ownA_at k z).1] at e
  cases e
theorem same_lend (k : Kn c σ H S env) : Same S (lendS σ env H S) := fun a o e => by
  rw [lend_not (not_own k e)]
  exact e
theorem Kn.lend (k : Kn c σ H S env) : Kn (c.at H (lendS σ env H S)) σ H (lendS σ env H S) (thaw env) := by
  refine ⟨⟨fun a o e => ?_, Same.refl _, fun _ _ e _ => e, fun a e _ => e, fun b e => ?_, ⟨fun p hp => ⟨(k.kf.tab.1 p hp).1, by rw [lend_not fun z => k.kf.tab.2 p hp (ownA_at k z).2.1]; exact (k.kf.tab.1 p hp).2⟩, fun p hp => k.kf.tab.1.ne hp⟩⟩, ?_, fun j x e => ?_, fun i j x y v u a _ e _ _ _ f _ => ?_⟩
  · by_cases z : OwnA σ env a
    · rw [lend_own z] at e
      exact e
    · rw [lend_not z] at e
      exact k.kf.sub a o e
  · obtain ⟨⟨b1, cs, i, g, st, n, b2, b3, b4⟩, b5⟩ := k.kf.bag b e
    have nb : ¬ OwnA σ env b := fun z => b5 (ownA_at k z).2.1
    refine ⟨⟨by rw [lend_not nb]; exact b1, cs, i, g, st, n, b2, same_lend k _ _ b3, b4⟩, ?_⟩
    show H b ≠ none
    rw [b2]
    exact fun z => nomatch z
  · unfold thaw
    rw [List.length_map]
    exact k.len
  · rcases thaw_get e with ⟨d, rfl, e2⟩ | ⟨xs, rfl, e2⟩ | ⟨t, as, rfl, e2⟩
    · obtain ⟨v, e3, r⟩ := k.sl j _ e2
      exact ⟨v, e3, rep_mono (same_lend k) d v r⟩
    · obtain ⟨v, e3, p, vs, rfl, h1, h2, h3, h4⟩ := k.sl j _ e2
      refine ⟨_, e3, ?_⟩
      show Rep c.B _ (.lst xs) (.ref p)
      rw [Rep]
      exact ⟨p, vs, rfl, by rw [lend_own ⟨j, _, _, e2, e3, rfl⟩]; exact h3, repL_mono (same_lend k) _ _ h4⟩
    · obtain ⟨v, e3, r⟩ := k.sl j _ e2
      exact ⟨v, e3, rep_tree (same_lend k) t v as (fun a m => lend_own ⟨j, _, _, e2, e3, m⟩) r.1⟩
  · rcases thaw_get e with ⟨d, rfl, _⟩ | ⟨xs, rfl, _⟩ | ⟨t, as, rfl, _⟩ <;> exact f
theorem Kf.lendX (k : Kn c σ H S env) (k' : Kf (c.at H (lendS σ env H S)) H' S') : Kf c H' S' := by
  refine ⟨k'.sub, (k.kf.s0.trans (same_lend k)).trans k'.s0, fun a o e n => k'.old a o (k.kf.old a o e n) n, fun a e n => ?_, fun b e => ⟨(k'.bag b e).1, (k.kf.bag b e).2⟩, ⟨k'.tab.1, k.kf.tab.2⟩⟩
  refine k'.new a ?_ (k.kf.back n)
  show lendS σ env H S a = none
  rw [lend_not fun z => n.1 (ownA_at k z).2.1]
  exact k.kf.new a e n
theorem XOk.lend {E : XK} {Rx : Er → Prop} (x : XOk c E Rx) (k : Kn c σ H S env) : XOk (c.at H (lendS σ env H S)) E Rx := fun er d vs H1 S1 k1 r l h n0 n1 z => x er d vs H1 S1 (Kf.lendX k k1) r l h (k.kf.h0_none n0) n1 z
end
section
variable {X : Cx} {E : XK} {e : Expr}
def xLendT (T : DTT) : DTT := fun env R Rx => T (thaw env) R Rx
theorem w_lendT {T : DTT} {env : En} {R : Bool → Prop} {Rx : Er → Prop} : xLendT T env R Rx = T (thaw env) R Rx := rfl
def xLend (T : DT) : DT := fun env R Rx => T (thaw env) (fun d => d.flat = true ∧ R d) Rx
theorem w_lend {T : DT} {env : En} {R : D → Prop} {Rx : Er → Prop} : xLend T env R Rx = T (thaw env) (fun d => d.flat = true ∧ R d) Rx := rfl
def xLendN (T : DT) : DT := fun env R Rx => T (thaw env) R Rx
theorem w_lendN {T : DT} {env : En} {R : D → Prop} {Rx : Er → Prop} : xLendN T env R Rx = T (thaw env) R Rx := rfl
end
end DL
namespace DL
open PySem PySem.Spec L2 PyProof.Rows
variable [TbC]
def xEnumS (Tl : DTA) : DTI := fun env R Rx => Tl env (fun ds => match ds with
  | [.str s] => R (nums 0 (signs s))
  | _ => False) Rx
section
variable {X : Cx} {E : XK} {p pos : Pos} {a : Expr} {Tl : DTA}
theorem w_enumS {env : En} {R : List D → Prop} {Rx : Er → Prop} : xEnumS Tl env R Rx = Tl env (fun ds => match ds with
  | [.str s] => R (nums 0 (signs s))
  | _ => False) Rx := rfl
end
end DL
namespace DL
open PySem PySem.Spec L2
variable [TbC]
section
variable {X : Cx} {E : XK} {pos p1 : Pos} {a : Expr} {T : DTF}
def zParN (i j l : Nat) (T : DTF) : DTS := fun Q env => T env (fun ds => ∃ d, env[l]? = some (some (.val d)) ∧ Q.nx (put j d (putO' i ds env))) Q.ex
theorem w_zParN {i j l : Nat} {Q : DEnds} {env : En} : zParN i j l T Q env = T env (fun ds => ∃ d, env[l]? = some (some (.val d)) ∧ Q.nx (put j d (putO' i ds env))) Q.ex := rfl
end
end DL
namespace EXS
open PySem PySem.Spec L2 PyProof.Rows
section
open PySem.W
variable {prog : Program} {w : World} {A : Around} {E : Value → Shared → Prop} {h : Heap} {g : Array GenState} {d : Drawn} {t : Nat} {os : OsState}
variable {nm q : Str} {C N : Addr} {bs bm : List Value} {hdct : Bool} {sn : List Str} {sub : List Value} {ab : Bool} {col : Option Bool} {dd : Option Addr} {k0 k1 k2 k3 k5 : Option Value} {newId : String}
theorem call_mw {B i : String} {bmB : List Value} (F : ExcBaseFacts B newId i bmB) {u e t0 : Addr} {rest : List Value} {Q : Value → Shared → Prop}
    (hC : h.get? C = some (excClassObj nm q C N bs bm hdct sn sub ab col dd k0 k1 k2 k3 k5 newId)) (he : h.get? e = some (PySem.HandSPX.excO C t0)) (hu : h.get? u = some (PySem.W.kxs_mw i e)) (hrest : rest.length ≤ sizeLine)
    (hq : ∀ h' t1, (∀ b o, b ≠ e → h.get? b = some o → h'.get? b = some o) → h'.get? e = some (PySem.HandSPX.excO C t1) → Q .none ⟨h', g, d, t, os⟩) :
    wpAny (model prog w) A (call (.ref u) rest) Q E ⟨h, g, d, t, os⟩ := by
  refine wpAny_call (codeAny_of_tree ?_)
  show wpAny _ A.in1 (callAny (.ref u) ⟨rest, []⟩) _ _ _
  simp only [callAny]
  refine wpAny_bind (wpAny_load hu ?_)
  simp only [PySem.W.kxs_mw, show (Value.type "method-wrapper" == Value.type "method" || Value.type "method-wrapper" == Value.type "builtin_function_or_method" || Value.type "method-wrapper" == Value.type "method-wrapper") = true by decide, if_true]
  refine PySem.W.KFB.if_so (by decide) ?_
  refine wpAny_bind (PySem.W.check_bound_init F.toExcCallFacts hC he rfl ?_)
  refine wpAny_bind (wpAny_pure (wpAny_pure ?_))
  refine ⟨by first | exact plainId_quiet F.init.plain _ | exact PySem.plainId_quiet F.init.plain _ | exact PySem.Calls.plainId_quiet F.init.plain _, codeAny_builtin F.initEntry ?_⟩
  rw [Around.under_plainId F.init.plain _]
  wp_walk
  refine hq _ h.objs.size (fun b o hb ho => ?_) ?_
  · rw [Heap.get?_update_other _ _ (Ne.symm hb)]
    exact Heap.get?_push_of_some _ ho
  · rw [Heap.get?_update_self _ (Heap.get?_push_of_some _ he) rfl]
    rfl
end
/-- the context of its body -/
def cxC (CX : CXT) (P : Program) (w : World) (K : PySem.W.Frag) (mg : Str → Option Value) (base : Heap) (N : List Str) (qual : Str) (scope : Scope) (f cc : Addr) (cd : Value) (A : Around) (outer : List Env) (s : Shared) (H : Hp) (E : XK) : Cx where
  prog := P
  w := w
  K := K
  mg := mg
  base := base
  A := A.deeper (PySem.W.ksEnv qual scope s.heap.objs.size f cd cc)
  N := N
  s_0 := s
  H_0 := H
  env := PySem.W.ksEnv qual scope s.heap.objs.size f cd cc
  outer := outer
  stack := PySem.W.ksEnv qual scope s.heap.objs.size f cd cc :: outer
  ex := []
  calm := true
  fn := fun x => !decide (x = "__class__")
  pn := []
  xe := fun e s' => wpAny (model P w) (A.deeper (PySem.W.ksEnv qual scope s.heap.objs.size f cd cc)) (leaving (PySem.W.ksEnv qual scope s.heap.objs.size f cd cc) e) (fun _ s'' => CX outer H s E e s'') (fun e' s'' => CX outer H s E e' s'') s'
/-- its names: parameters local, no cell of its own, of outer names only __class__ -/
structure SScope (N P : List Str) (sc : Scope) : Prop where
  kind : sc.kind = .function
  co : sc.isCoroutine = false
  gen : sc.isGenerator = false
  nd : N.Nodup
  pre : N.take P.length = P
  par : ∀ x ∈ P, sc.names.lookup x = some .local
  nocell : ∀ y ∈ sc.names, y.2 ≠ .cell
  free : ∀ y ∈ sc.names, y.2 = .free → y.1 = "__class__"
  sup : sc.names.lookup ("super" : Str) = some .globalImplicit
  cls : sc.names.lookup ("__class__" : Str) = some .free
theorem lookup_rev : ∀ {ps : List Str} {us : List Value} {i : Nat} {y : Str} {u : Value}, ps.Nodup → ps[i]? = some y → us[i]? = some u → (ps.zip us).reverse.lookup y = some u
  | [], _, _, _, _, _, h, _ => by simp at h
  | p :: ps, [], i, _, _, _, _, h => by simp at h
  | p :: ps, u0 :: us, 0, y, u, nd, h1, h2 => by
    simp at h1 h2
    subst h1
    subst h2
    rw [List.zip_cons_cons, List.reverse_cons, List.lookup_append]
    have hn : (ps.zip us).reverse.lookup p = none := by
      rw [List.lookup_eq_none_iff]
      intro q hq
      have hq2 := (List.of_mem_zip (List.mem_reverse.mp hq)).1
      have : p ∉ ps := (List.nodup_cons.mp nd).1
      simp
      exact fun z => this (z ▸ hq2)
    rw [hn]
    simp
  | p :: ps, u0 :: us, i + 1, y, u, nd, h1, h2 => by
    rw [List.zip_cons_cons, List.reverse_cons, List.lookup_append, lookup_rev (List.nodup_cons.mp nd).2 (by simpa using h1) (by simpa using h2)]
    rfl
theorem cell_of {K : PySem.W.Frag} {cc Cd : Addr} {h : Heap} (X : K.In h) (e : ∃ cl cld csl, K.lookup cc = some ⟨cl, cld, .cell (some (.ref Cd)), csl⟩) : h.IsCell cc (some (.ref Cd)) := by
  obtain ⟨cl, cld, csl, e⟩ := e
  exact ⟨_, X _ _ e, rfl⟩
theorem inv_startC {CX : CXT} {P : Program} {w : World} {K : PySem.W.Frag} {mg : Str → Option Value} {base : Heap} {N ps : List Str} {qual : Str} {scope : Scope} {f cc Cd : Addr} {cd : Value} {A : Around} {outer : List Env} {s : Shared} {h₁ : Heap} {tk : Nat} {H : Hp} {E : XK} {us : List Value} {vs : List V}
    (S : SScope N ps scope) (hd : A.handled = none) (e0 : Env0 P w K mg base A outer s H) (hl : vs.length = ps.length) (r : Vals vs us) (hcc : ∃ cl cld csl, K.lookup cc = some ⟨cl, cld, .cell (some (.ref Cd)), csl⟩)
    (hns : h₁.Ns s.heap.objs.size fun y => (ps.zip us).reverse.lookup y) (kp : ∀ b o, s.heap.get? b = some o → h₁.get? b = some o) :
    Inv (cxC CX P w K mg base N qual scope f cc cd A outer s H E) [] (L2.start N vs) H { s with heap := h₁, toks := tk } := by
  have hpl : ps.length ≤ N.length := by have := congrArg List.length S.pre; rw [List.length_take] at this; omega
  have noA : ∀ b : Addr, b ∉ (cxC CX P w K mg base N qual scope f cc cd A outer s H E).ex := fun b z => absurd (show b ∈ ([] : List Addr) from z) (by simp)
  have look : ∀ {y c}, ([(("__class__" : Str), cc)] : List (Str × Addr)).lookup y = some c → y = "__class__" ∧ c = cc := fun {y c} e => by
    simp only [List.lookup] at e
    split at e
    · rename_i q
      cases e
      exact ⟨by simpa using q, rfl⟩
    · cases e
  have X : K.In s.heap := e0.mod.kin.keeps fun b o e => (e0.bs b o e).1
  have Xb : K.In base := e0.mod.kin
  have hcn : H cc = none := by
    obtain ⟨cl, cld, csl, e⟩ := hcc
    exact (e0.bs cc _ (Xb _ _ e)).2
  refine ⟨⟨e0.mod, S.kind, rfl, rfl, Nat.le_refl _, fun y z c h1 h2 => ?_, fun y hy => ?_, fun y c z h => ?_, fun _ => hd, Around.frames_deeper e0.frames, .inr ⟨rfl, rfl⟩, fun b z => absurd z (noA b), e0.bs, e0.bsz, fun b _ _ => noA b, fun b z => absurd z (noA b), e0.funs, e0.frf⟩,
    rfl, e0.bare, Un.kept kp, ⟨_, hns, fun i y v h1 h2 h3 => ?_⟩, fun y c h => ?_, e0.hok.fresh (Nat.le_refl _), fun y c h => ?_, fun p hp => absurd (show p ∈ ([] : List (Addr × Obj)) from hp) (by simp), e0.hok.kept kp, ?_⟩
  · exact (look h1).1.trans (look h2).1.symm
  · have hy : scope.names.lookup y = some .cell ∨ scope.names.lookup y = some .free := hy
    rcases hy with hy | hy
    · exact absurd rfl (S.nocell _ (PySem.mem_of_lookup hy))
    · have e := S.free _ (PySem.mem_of_lookup hy) rfl
      have e : y = "__class__" := e
      subst e
      exact ⟨cc, rfl⟩
  · have e := (look h).1
    subst e
    exact nomatch (show (!decide (("__class__" : Str) = "__class__")) = true from z)
  · have hi : i < vs.length := by
      unfold L2.start at h2
      by_cases hi : i < vs.length
      · exact hi
      · rw [List.getElem?_append_right (by simpa using hi)] at h2
        rw [List.getElem?_replicate] at h2
        split at h2 <;> cases h2
    have ha : vs[i]? = some v := by
      unfold L2.start at h2
      rw [List.getElem?_append_left (by simpa using hi), List.getElem?_map] at h2
      cases e : vs[i]? with
      | none => rw [e] at h2; cases h2
      | some a => rw [e] at h2; cases h2; rfl
    obtain ⟨u, hu, rv⟩ := r.get ha
    have hp : ps[i]? = some y := by
      rw [← S.pre, List.getElem?_take_of_lt (by omega)]; exact h1
    have ndP : ps.Nodup := by rw [← S.pre]; exact S.nd.sublist (List.take_sublist _ _)
    exact ⟨u, rv, .inl ⟨S.par y (List.mem_of_getElem? hp), lookup_rev ndP hp hu⟩⟩
  · obtain ⟨e1, e2⟩ := look h
    subst e2
    obtain ⟨o, ho, hdd⟩ := cell_of X hcc
    exact ⟨_, _, kp _ _ ho, hdd⟩
  · obtain ⟨e1, e2⟩ := look h
    rw [e2]
    exact hcn
  · unfold L2.start
    show _ = N.length
    rw [List.length_append, List.length_map, List.length_replicate]
    omega
end EXS
namespace EXS
open PySem PySem.Spec L2 PyProof.Rows
section
variable {X : Cx} {pins : List (Addr × Obj)} {σ : List (Option V)} {H : Hp} {s : Shared}
theorem at_super {body : List Stmt} {qual : Str} {scope : Scope} {L f cc cda D x C : Addr} {p0 p1 : Pos} {attr : Str} {whole : Sem Value} {fd : FuncData} {ar : Arg} {vs : Array Value} {file : Str} {tf : Tok} {oc ccl cl : Value} {od cdd cld : Option Addr} {osl ccs csl : Array (Option Value)} {cdD : ClassData} {ox : Obj} {Q : Value → Shared → Prop} {E : Value → Shared → Prop}
    (I : Inv X pins σ H s) (heq : X.env = PySem.W.ksEnv qual scope L f (.ref cda) cc)
    (hf : X.K.lookup f = some ⟨oc, od, .func fd, osl⟩) (hp : (fd.params.posonlyargs ++ fd.params.args).head? = some ar)
    (hcode : X.K.lookup cda = some ⟨ccl, cdd, .fields vs, ccs⟩) (hvs : vs[2]? = some (.str file tf)) (hfile : ((X.prog.main.file : Str) == file) = true)
    (hcell : X.K.lookup cc = some ⟨cl, cld, .cell (some (.ref D)), csl⟩) (hD : PySem.W.clsIn X.K D = some cdD) (hsub : PySem.W.mroIn X.K C (.ref D) = some true) (hsuper : X.mg "super" = none)
    (hat : (attr == ("__class__" : Str)) = false) (hks : scope.names.lookup ("super" : Str) = some .globalImplicit) (hkc : scope.names.lookup ("__class__" : Str) = some .free) (hka : scope.names.lookup ar.arg = some .local)
    (htop : (X.prog.main.scope.names.lookup ("super" : Str)).isSome = false)
    (hv : ∃ i : Nat, X.N[i]? = some ar.arg ∧ σ[i]? = some (some (V.ref x))) (hx : s.heap.get? x = some ox) (hxc : ox.cls = .ref C) (hnc : ∀ c, ox.data ≠ .cls c)
    (h : ∀ h', h'.get? s.heap.objs.size = some (PySem.W.ks_superObj D x C) → (∀ b o, s.heap.get? b = some o → h'.get? b = some o) → Q (.ref s.heap.objs.size) { s with heap := h' }) :
    PySem.wpAt (model X.prog X.w) X.A (.func body X.env) (attributeBase (.Call (.Name "super" p0) [] [] p1) attr X.env whole) Q E s := by
  have XK : X.K.In s.heap := I.kIn
  have hk : X.env.scope.kind = .function := I.ok.kind
  have hk2 : scope.kind = .function := by rw [heq] at hk; exact hk
  obtain ⟨m, hns, hlk⟩ := I.loc
  obtain ⟨i, hN, hσ⟩ := hv
  have hval : m ar.arg = some (.ref x) := by
    obtain ⟨u, ru, lu⟩ := hlk i _ _ hN hσ (.inl (by rw [heq]; exact hka))
    obtain rfl : u = Value.ref x := ru
    rcases lu with ⟨_, e⟩ | ⟨e, _⟩
    · exact e
    · rw [heq] at e
      have e : scope.names.lookup ar.arg = some .cell ∨ scope.names.lookup ar.arg = some .free := e
      rw [hka] at e
      rcases e with e | e <;> cases e
  obtain ⟨mb, hb1, hb2⟩ := I.mod.blt
  obtain ⟨oD, hD1, hD2⟩ : ∃ oD, s.heap.get? D = some oD ∧ oD.data = .cls cdD := by
    unfold PySem.W.clsIn at hD
    split at hD
    · rename_i c d cd' sl ho
      cases hD
      exact ⟨_, XK _ _ ho, rfl⟩
    · cases hD
  have hglob := I.ok.glob
  have hblt := I.ok.blt
  have g1 : s.heap.Ns X.env.globals X.mg := by rw [hglob]; exact I.mod.glob.keeps I.bk
  have g2 : s.heap.Ns X.env.builtins mb := by rw [hblt]; exact hb1.keeps I.bk
  rw [heq] at hns g1 g2 ⊢
  obtain ⟨hh, g, d, t, os⟩ := s
  refine PySem.ks_wpAt_super_base (env := PySem.W.ksEnv qual scope L f (.ref cda) cc) hks hkc hat rfl (XK _ _ hf) rfl hp rfl (XK _ _ hcode) rfl hvs hfile htop ?_
  refine PySem.W.ks_loadName_global hk2 hks (PySem.Calls.loadGlobal_builtin g1 hsuper g2 ((hb2 _ (by decide)).trans (show bootBuiltins "super" = some (.type "super") by first | boot_by_name | rfl | kernel_rfl)) ⟨rfl, ?_⟩)
  refine PySem.wpAny_loadName_free hk2 hkc rfl ⟨_, XK _ _ hcell, rfl⟩ ?_
  refine PySem.wpAny_loadName_local hk2 hka hns hval ?_
  refine PySem.ks_wpAny_isType_cls hD1 hD2 ⟨rfl, ?_⟩
  exact PySem.ks_wpAny_call_super hD1 hD2 hx hxc hnc (PySem.W.looks_mroIn XK hsub) (fun h' e k => h h' e k)
end
end EXS
namespace EXS
open PySem PySem.Spec L2 PyProof.Rows
structure SupFn (K : PySem.W.Frag) (fl : Str) (name qual : Str) (params : Arguments) (body : List Stmt) (scope : Scope) (D : Addr) (f cc cda : Addr) (fd : FuncData) : Prop where
  ex : ∃ (oc ccl cl dV kV doc pm ct : Value) (an od cdd cld : Option Addr) (osl ccs csl : Array (Option Value)) (vs : Array Value) (file : Str) (tf : Tok) (cdD : ClassData),
    fd = PySem.W.ksFn name qual params body scope dV kV doc pm an (.ref cda) ct cc ∧ K.lookup f = some ⟨oc, od, .func fd, osl⟩ ∧ PySem.W.codeIn K (.ref cda) qual = true ∧
    K.lookup cda = some ⟨ccl, cdd, .fields vs, ccs⟩ ∧ vs[2]? = some (.str file tf) ∧ (fl == file) = true ∧ K.lookup cc = some ⟨cl, cld, .cell (some (.ref D)), csl⟩ ∧ PySem.W.clsIn K D = some cdD ∧ dV = .none
  keep : PySem.W.keepIn K (.ref f) = true
/-- what it says of the class D whose __init__ this is: an exception over ValueError -/
structure ExcD (K : PySem.W.Frag) (D : Addr) : Prop where
  ox : OexC K D
  st : PySem.W.nsIn K PySem.cStatics "thirdparty.any" = some none
  su : PySem.W.ks_superIn K D D "__init__" = some (some (.builtin "ValueError.__init__"))
  mr : PySem.W.mroIn K D (.ref D) = some true
  ve : PySem.W.subIn K (.ref D) (.type "ValueError") = some true
section
variable {CX : CXT} {P : Program} {w : World} {K : PySem.W.Frag} {mg : Str → Option Value} {base : Heap} {k : Nat} {name qual : Str} {params : Arguments} {rest : List Stmt} {scope : Scope} {D f cc cda : Addr} {fd : FuncData} {N ps : List Str} {sp : Sp} {e : Expr} {es : List Expr} {p0 p1 p2 p3 p4 : Pos} {x0 : Str} {ar : Arg}
theorem fn_exc (F : SupFn K P.main.file name qual params (.Expr (.Call (.Attribute (.Call (.Name "super" p0) [] [] p1) "__init__" p2) (e :: es) [] p3) p4 :: rest) scope D f cc cda fd) (G : ExcD K D) (S : SScope N ps scope)
    (hsup : mg "super" = none) (htop : (P.main.scope.names.lookup ("super" : Str)).isSome = false) (hps : ps.head? = some x0) (hN : N[0]? = some x0) (hp : (params.posonlyargs ++ params.args).head? = some ar) (hx0 : ar.arg = x0)
    (len : ∀ vs H Q E, sp vs H Q E → vs.length = ps.length)
    (hobj : ∀ vs H Q E, sp vs H Q E → ∃ a ws, vs = .ref a :: ws ∧ H a = some (exo a D none))
    (hbody : ∀ (A : Around) (outer : List Env) (s : Shared) (H : Hp) (vs : List V) (Q : VK) (E : XK) (a : Addr) (ws : List V), Room k (A.deeper (PySem.W.ksEnv qual scope s.heap.objs.size f (.ref cda) cc)) → sp vs H Q E → vs = .ref a :: ws →
      ∃ ta t, PA (cxC CX P w K mg base N qual scope f cc (.ref cda) A outer s H E) (e :: es) ta ∧ PSs (cxC CX P w K mg base N qual scope f cc (.ref cda) A outer s H E) rest t ∧
        ta (L2.start N vs) H fun us H1 => us.length ≤ 1000 ∧ H1 a = some (exo a D none) ∧ t { nx := fun _ H' => Q .non H', rt := Q } (L2.start N vs) H1)
    (he : ∀ env, starEach (e :: es) env = (false, eval e env) :: starEach es env) (hpl : ∀ env, (backTo p3 (starEach es env)).any (·.1) = false) {pl : Env → Sem Bool}
    (hcl : ∀ env, eval (.Call (.Attribute (.Call (.Name "super" p0) [] [] p1) "__init__" p2) (e :: es) [] p3) env = (do
      let ov ← attributeBase (.Call (.Name "super" p0) [] [] p1) "__init__" env (eval (.Call (.Name "super" p0) [] [] p1) env)
      standAt p2.atName
      let (f, first) ← holding [ov] (getMethod ov "__init__" (pl env))
      callWith p3 f first (backTo p3 (starEach (e :: es) env)) [])) :
    FnOk P w K mg base CX (k + 1) f fd ps sp := by
  refine ⟨len, fun A outer s H args us vs Q E hr e0 hb r hsp => ?_⟩
  obtain ⟨oc, ccl, cl, dV, kV, doc, pm, ct, an, od, cdd, cld, osl, ccs, csl, vs2, file, tf, cdD, hfd, lk, hcd, lcd, hvs, hfile, lcc, hcD, _⟩ := F.ex
  have hl := len _ _ _ _ hsp
  have KX : K.In s.heap := e0.mod.kin.keeps fun b o e => (e0.bs b o e).1
  have lim : s.heap.NoLimit := e0.mod.nolimit.keeps fun b o e => (e0.bs b o e).1
  obtain ⟨a, ws, hvs0, hHa⟩ := hobj _ _ _ _ hsp
  subst hfd
  refine PySem.ks_codeAny_call_defAt (fd := PySem.W.ksFn name qual params _ scope dV kV doc pm an (.ref cda) ct cc) hr.depth (KX _ _ lk) rfl lim (PySem.W.codeRec_of KX hcd) rfl hb S.nocell (fun x hx => S.par x.1 (List.of_mem_zip hx).1) (fun h1 hns kp => ?_) S.co S.gen S.kind
  show PySem.wpAt (model P w) (A.deeper (PySem.W.ksEnv qual scope s.heap.objs.size f (.ref cda) cc)) _ _ _ _ _
  obtain ⟨ta, t, hPA, hPSs, hq⟩ := hbody A outer s H vs Q E a ws (hr.deeper _) hsp hvs0
  generalize hX : cxC CX P w K mg base N qual scope f cc (.ref cda) A outer s H E = X at hPA hPSs
  have I : Inv X [] (L2.start N vs) H { s with heap := h1, toks := s.toks + (ps.zip us).length } := by
    rw [← hX]
    exact inv_startC S hr.hd e0 hl r ⟨_, _, _, lcc⟩ hns kp
  have hXp : X.prog = P := by rw [← hX]; rfl
  have hXw : X.w = w := by rw [← hX]; rfl
  have hXK : X.K = K := by rw [← hX]; rfl
  have hXmg : X.mg = mg := by rw [← hX]; rfl
  have hXA : X.A = A.deeper (PySem.W.ksEnv qual scope s.heap.objs.size f (.ref cda) cc) := by rw [← hX]; rfl
  have hXe : X.env = PySem.W.ksEnv qual scope s.heap.objs.size f (.ref cda) cc := by rw [← hX]; rfl
  have hXN : X.N = N := by rw [← hX]; rfl
  have hXxe : X.xe = fun e s' => wpAny (model P w) (A.deeper (PySem.W.ksEnv qual scope s.heap.objs.size f (.ref cda) cc)) (leaving (PySem.W.ksEnv qual scope s.heap.objs.size f (.ref cda) cc) e) (fun _ s'' => CX outer H s E e s'') (fun e' s'' => CX outer H s E e' s'') s' := by rw [← hX]; rfl
  have oX : OexC X.K D := by rw [hXK]; exact G.ox
  have fin : ∀ {σ' : L2.St} {H' : Hp} {v : V} {u : Value} {s' : Shared}, Inv X [] σ' H' s' → RelV v u → Q v H' → CE outer P w H s Q u s' := by
    intro σ' H' v u s' J rv q
    subst hX
    exact ⟨v, H', J.os, J.bare, J.base, J.hok, rv, q⟩
  have go : PySem.wpAt (model X.prog X.w) X.A (.func (.Expr (.Call (.Attribute (.Call (.Name "super" p0) [] [] p1) "__init__" p2) (e :: es) [] p3) p4 :: rest) X.env) (execs (.Expr (.Call (.Attribute (.Call (.Name "super" p0) [] [] p1) "__init__" p2) (e :: es) [] p3) p4 :: rest) X.env)
      (SP X [] { nx := fun _ H' => Q .non H', rt := Q }) X.xe { s with heap := h1, toks := s.toks + (ps.zip us).length } := by
    have hint : interactive X.env = false := I.quiet
    refine PySem.ks_wpAt_execs_cons (PySem.ks_wpAt_Expr_any (PySem.ks_wpAt_MethodCall (pl := pl X.env) ?_ (hcl X.env)) hint)
    obtain ⟨t1, hex⟩ := exo_at I.hok hHa
    have hps0 : (0 : Nat) < ps.length := by cases ps with | nil => cases hps | cons _ _ => exact Nat.zero_lt_succ _
    have hxin : x0 ∈ ps := by cases ps with | nil => cases hps | cons z _ => cases (Option.some.inj hps); exact List.mem_cons_self
    refine at_super (D := D) (x := a) (C := D) I hXe (by rw [hXK]; exact lk) hp (by rw [hXK]; exact lcd) hvs (by rw [hXp]; exact hfile) (by rw [hXK]; exact lcc) (by rw [hXK]; exact hcD) (by rw [hXK]; exact G.mr) (by rw [hXmg]; exact hsup) (by decide) S.sup S.cls (by rw [hx0]; exact S.par x0 hxin) (by rw [hXp]; exact htop)
      ⟨0, by rw [hXN, hx0]; cases N with | nil => cases hN | cons z _ => exact hN, by rw [hvs0]; rfl⟩ hex rfl (fun c z => by cases z) (fun h2 so k2 => ?_)
    -- the wrapper
    have I2 : Inv X [] (L2.start N vs) H { s with heap := h2, toks := s.toks + (ps.zip us).length } := I.kept (t' := s.toks + (ps.zip us).length) k2
    have XK2 : X.K.In h2 := I2.kIn
    have hexo := k2 _ _ hex
    have hsu : PySem.W.ks_superIn X.K D D "__init__" = some (some (.builtin "ValueError.__init__")) := by rw [hXK]; exact G.su
    cases hc : PySem.W.clsIn X.K D with
    | none => unfold PySem.W.ks_superIn at hsu; rw [hc] at hsu; cases hsu
    | some cd =>
    unfold PySem.W.ks_superIn at hsu
    rw [hc] at hsu
    have hse : ∀ (u : Addr) (o : Obj), h2.get? u = some o → u ≠ h2.objs.size := fun u o z => Nat.ne_of_lt (Heap.lt_size z)
    have haD : a ≠ D := by
      intro z
      unfold PySem.W.clsIn at hc
      split at hc
      · rename_i c d cd' sl ho
        have q := XK2 _ _ ho
        rw [← z, hexo] at q
        cases q
      · cases hc
    have hty : PySem.W.Looks (model X.prog X.w) h2 (isInstance (.ref a) (.type "ValueError")) true := by
      have II : PySem.W.InstAt h2 a _ D none := ⟨hexo, rfl, rfl, trivial⟩
      exact II.type.andThen (PySem.W.looks_subIn XK2 (by rw [hXK]; exact G.ve))
    refine PySem.W.kxs_getMethod PySem.W.kxs_ValueError (l₀ := cd.mro) so (PySem.W.looks_opaque XK2 (by rw [hXK]; exact G.st)) ?_ rfl XK2 hsu hty haD (by decide) ?_
    · exact fun A Q E s k q => wpAny_bind ((PySem.W.looks_clsIn XK2 hc) A _ E s k (wpAny_pure q))
    have hmw : (h2.push (PySem.W.kxs_mw "ValueError.__init__" a)).get? h2.objs.size = some (PySem.W.kxs_mw "ValueError.__init__" a) := Heap.get?_push_at rfl rfl
    have I3 : Inv X [] (L2.start N vs) H { s with heap := h2.push (PySem.W.kxs_mw "ValueError.__init__" a), toks := s.toks + (ps.zip us).length + 1 } := I2.kept (t' := s.toks + (ps.zip us).length + 1) (fun b u z => Heap.get?_push_of_some _ z)
    have hHn : H h2.objs.size = none := I2.hok.fresh (Nat.le_refl _)
    have I4 : Inv X [(h2.objs.size, PySem.W.kxs_mw "ValueError.__init__" a)] (L2.start N vs) H { s with heap := h2.push (PySem.W.kxs_mw "ValueError.__init__" a), toks := s.toks + (ps.zip us).length + 1 } := by
      refine I3.pins_of fun p hp => ?_
      cases hp with
      | tail _ z => cases z
      | head =>
      refine ⟨hmw, hHn, fun z => ?_, I2.nofs (Nat.le_refl _), fun v z => by cases z⟩
      have := I2.lt
      rw [← z] at this
      exact absurd this (Nat.lt_irrefl _)
    rw [he X.env]
    refine PySem.W.kxs_callWith (i := "ValueError.__init__") (x := a) (by show (false || (backTo p3 (starEach es X.env)).any (·.1)) = false; rw [hpl]; rfl) (PySem.Calls.evalArgs_plain ?_)
    have h5 := hPA.run p3 _ _ _ H _ I4 hq
    rw [he X.env] at h5
    refine thn h5 fun us2 s5 ⟨vs5, H5, I5, r5, hz5, ea5, q5⟩ => ?_
    have hmw5 : s5.heap.get? h2.objs.size = some (PySem.W.kxs_mw "ValueError.__init__" a) := (I5.pin _ (List.mem_append_right _ List.mem_cons_self)).1
    refine ⟨hmw5, ?_⟩
    obtain ⟨nm, qq, N1, bs, bm, sn, sub, ab, col, dd, k0, k1, k22, k3, k5, hC, hbm⟩ := oX.cls
    obtain ⟨t5, hex5⟩ := exo_at I5.hok ea5
    obtain ⟨hp5, g5, d5, tk5, os5⟩ := s5
    have hlen : us2.length ≤ sizeLine := by
      rw [← Paired.length r5, sizeLine_eq]
      omega
    refine call_mw PySem.F.excBase_ValueError (I5.kIn _ _ hC) hex5 hmw5 hlen fun h6 t6 k6 hx6 => ?_
    have J := I5.write (t' := tk5) (x := a) (e := a) (o := exo a D none) (by rw [ea5]; exact True.intro) (.inl rfl) k6 ⟨_, hx6⟩ (exo_ok hx6)
    have eu : upd H5 a (exo a D none) = H5 := by
      funext b
      by_cases hb : b = a
      · rw [hb, upd_same, ea5]
      · rw [upd_ne hb]
    rw [eu] at J
    exact wpAt_of_wpAny (hPSs.run [] _ _ H5 _ (J.pins_of fun p hp => by cases hp) q5)
  rw [hXp, hXw, hXA, hXxe, hXe] at go
  refine PySem.ks_wpAt_mono go (fun fl s' hs => ?_) fun e s' z => z
  cases fl with
  | ret u =>
    obtain ⟨v, σ', H', J, rv, q⟩ := hs
    exact fin J rv q
  | next =>
    obtain ⟨σ', H', J, q⟩ := hs
    exact fin (v := V.non) (u := Value.none) J rfl q
  | brk =>
    obtain ⟨_, _, _, q⟩ := hs
    exact False.elim q
  | cont =>
    obtain ⟨_, _, _, q⟩ := hs
    exact False.elim q
end
end EXS
namespace L2
open PySem PySem.Spec PyProof.Rows
theorem _root_.PySem.HandSPX.FlyingZ.keeps {base h h' : Heap} {l : List Env} {e : Addr} {Z : Obj → Prop} (f : HandSPX.FlyingZ base l e Z h) (k : ∀ b o, h.get? b = some o → h'.get? b = some o) : HandSPX.FlyingZ base l e Z h' := by
  obtain ⟨f1, f2, f3, oe, vs, T, oT, ts, e1, e2, e3, e4, e5, e6, e7, e8, e9⟩ := f
  exact ⟨fun b o z => k b o (f1 b o z), f2, Heap.FunFrames.of_keeps (fun b o z _ => ⟨o, k b o z, rfl⟩) f3, oe, vs, T, oT, ts, k _ _ e1, e2, e3, e4, e5, e6, k _ _ e7, e8, e9⟩
end L2
namespace DL
open PySem PySem.Spec L2
variable [TbC]
/-- what a field is set to: a text, a parameter (behind self) -/
inductive Src where
  | str (s : Str) | par (i : Nat)
def Src.v (ws : List V) : Src → V
  | .str s => .str s
  | .par i => ws[i]?.getD .non
def Src.d (ds : List D) : Src → D
  | .str s => .str s
  | .par i => ds[i]?.getD .non
def Src.t : Src → TE
  | .str s => tC (.str s)
  | .par i => tVar (i + 1)
def Src.fits (n : Nat) : Src → Bool
  | .str _ => true
  | .par i => decide (i < n)
abbrev FL := List (Str × Src)
def fsV (l : FL) (ws : List V) : List (Str × V) := (l.map fun p => (p.1, p.2.v ws)).reverse
def fsK (l : FL) : List Str := (l.map (·.1)).reverse
def fsD (l : FL) (ds : List D) : List D := (l.map fun p => p.2.d ds).reverse
def fsW (l : FL) (ws : List V) : List V := (l.map fun p => p.2.v ws).reverse
theorem zip_map2 {α β γ : Type} (f : α → β) (g : α → γ) : ∀ l : List α, (l.map f).zip (l.map g) = l.map fun a => (f a, g a)
  | [] => rfl
  | a :: l => by rw [List.map_cons, List.map_cons, List.zip_cons_cons, zip_map2 f g l, List.map_cons]
theorem fs_zip (l : FL) (ws : List V) : (fsK l).zip (fsW l ws) = fsV l ws := by
  unfold fsK fsW fsV
  rw [← List.map_reverse, ← List.map_reverse, ← List.map_reverse, zip_map2]
theorem fs_rep {B : Option Addr} {S : Hp} {ds : List D} {ws : List V} {n : Nat} (r : RepL B S ds ws) (hn : ds.length = n) : ∀ (l : FL), l.all (fun p => p.2.fits n) = true → RepL B S (l.map fun p => p.2.d ds) (l.map fun p => p.2.v ws)
  | [], _ => repL_nil
  | (f, s) :: l, h => by
    rw [List.all_cons, Bool.and_eq_true] at h
    refine repL_cons ?_ (fs_rep r hn l h.2)
    cases s with
    | str s => exact rfl
    | par i =>
      have hi : i < ds.length := by rw [hn]; exact of_decide_eq_true h.1
      obtain ⟨v, e, q⟩ := r.get (i := i) (d := ds[i]) (by simp [hi])
      show Rep B S (ds[i]?.getD .non) (ws[i]?.getD .non)
      rw [e, List.getElem?_eq_getElem hi]
      exact q
def tCh (K : PySem.W.Frag) : FL → TS
  | [] => tNext
  | p :: l => tSeq (tOst K p.1 (tVar 0) p.2.t) (tCh K l)
section
variable {K : PySem.W.Frag} {C a dx : Addr} {σ : St} {H : Hp} {ws : List V} {n : Nat} {fs : List (Str × V)} {D0 : Ends}
theorem src_run {s : Src} {Q : VK} (h0 : ∀ i, i < n → σ[i + 1]? = some (some (ws[i]?.getD .non))) (hs : s.fits n = true) (q : Q (s.v ws) H) : s.t σ H Q := by
  cases s with
  | str s => exact q
  | par i => exact ⟨_, h0 i (of_decide_eq_true hs), q⟩
theorem chain_go (ox : OexC K C) (e0 : σ[0]? = some (some (.ref a))) (h0 : ∀ i, i < n → σ[i + 1]? = some (some (ws[i]?.getD .non))) : ∀ (l : FL) (fs : List (Str × V)) (H : Hp), (∀ p ∈ l, PySem.W.findIn K (.ref C) p.1 = some none) → l.all (fun p => p.2.fits n) = true → fs.length + l.length ≤ 900 →
    H a = some (exo a C (some dx)) → H dx = some (exd dx fs) → dx ≠ a → D0.nx σ (upd H dx (exd dx (fsV l ws ++ fs))) → tCh K l D0 σ H
  | [], fs, H, _, _, _, ea, ed, ne, q => by
    show D0.nx σ H
    have : upd H dx (exd dx (fsV [] ws ++ fs)) = H := by
      funext b
      by_cases z : b = dx
      · subst z
        rw [upd_same, ed]
        rfl
      · rw [upd_ne z]
    rw [this] at q
    exact q
  | p :: l, fs, H, na, hf, hl, ea, ed, ne, q => by
    rw [List.all_cons, Bool.and_eq_true] at hf
    refine src_run h0 hf.1 ?_
    refine ⟨_, e0, a, C, rfl, ox, na p List.mem_cons_self, .inr ⟨dx, fs, ea, ed, by rw [List.length_cons] at hl; omega, ?_⟩⟩
    refine chain_go ox e0 h0 l ((p.1, p.2.v ws) :: fs) _ (fun r hr => na r (List.mem_cons_of_mem _ hr)) hf.2 (by rw [List.length_cons] at hl ⊢; omega) (by rw [upd_ne ne.symm]; exact ea) upd_same ne ?_
    rw [upd_upd]
    have e : fsV (p :: l) ws ++ fs = fsV l ws ++ (p.1, p.2.v ws) :: fs := by
      unfold fsV
      rw [List.map_cons, List.reverse_cons, List.append_assoc]
      rfl
    rw [e] at q
    exact q
theorem chain_start (ox : OexC K C) (e0 : σ[0]? = some (some (.ref a))) (h0 : ∀ i, i < n → σ[i + 1]? = some (some (ws[i]?.getD .non))) {p : Str × Src} {l : FL} (na : ∀ r ∈ p :: l, PySem.W.findIn K (.ref C) r.1 = some none) (hf : (p :: l).all (fun p => p.2.fits n) = true) (hl : (p :: l).length ≤ 900)
    (ea : H a = some (exo a C none)) (q : ∀ d, H d = none → d ≠ a → D0.nx σ (upd (upd H d (exd d (fsV (p :: l) ws))) a (exo a C (some d)))) : tCh K (p :: l) D0 σ H := by
  have hf' := hf
  rw [List.all_cons, Bool.and_eq_true] at hf'
  refine src_run h0 hf'.1 ?_
  refine ⟨_, e0, a, C, rfl, ox, na p List.mem_cons_self, .inl ⟨ea, fun d hd ne => ?_⟩⟩
  have h1 : upd (upd H d (exd d [(p.1, p.2.v ws)])) a (exo a C (some d)) d = some (exd d [(p.1, p.2.v ws)]) := by rw [upd_ne ne, upd_same]
  refine chain_go (dx := d) ox e0 h0 l [(p.1, p.2.v ws)] _ (fun r hr => na r (List.mem_cons_of_mem _ hr)) hf'.2 (by rw [List.length_cons] at hl; simp; omega) upd_same h1 ne ?_
  have e : fsV l ws ++ [(p.1, p.2.v ws)] = fsV (p :: l) ws := by
    unfold fsV
    rw [List.map_cons, List.reverse_cons]
  rw [e]
  have e2 : upd (upd (upd H d (exd d [(p.1, p.2.v ws)])) a (exo a C (some d))) d (exd d (fsV (p :: l) ws)) = upd (upd H d (exd d (fsV (p :: l) ws))) a (exo a C (some d)) := by
    funext b
    by_cases z : b = d
    · subst z
      rw [upd_same, upd_ne ne, upd_same]
    · rw [upd_ne z]
      by_cases y : b = a
      · subst y
        rw [upd_same, upd_same]
      · rw [upd_ne y, upd_ne z, upd_ne y, upd_ne z]
  rw [e2]
  exact q d hd ne
end
/-- the promise of such an __init__ -/
def spX (C : Addr) (n : Nat) (l : FL) : Sp := fun vs H Q _ => ∃ (a : Addr) (ws : List V), vs = .ref a :: ws ∧ ws.length = n ∧ H a = some (exo a C none) ∧ ∀ d, H d = none → d ≠ a → Q .non (upd (upd H d (exd d (fsV l ws))) a (exo a C (some d)))
section
variable {P : Program} {w : World} {K : PySem.W.Frag} {mg : Str → Option Value} {base : Heap} {k : Nat} {name qual : Str} {params : Arguments} {rest : List Stmt} {scope : Scope} {C f cc cda : Addr} {fd : FuncData} {N ps : List Str} {txt : Str} {kk : Nat} {p0 p1 p2 p3 p4 p5 : Pos} {x0 : Str} {ar : Arg} {n : Nat} {l : FL} {pf : Str × Src}
theorem fn_x (F : EXS.SupFn K P.main.file name qual params (.Expr (.Call (.Attribute (.Call (.Name "super" p0) [] [] p1) "__init__" p2) [.Constant (.str txt) kk p5] [] p3) p4 :: rest) scope C f cc cda fd) (G : EXS.ExcD K C) (S : EXS.SScope N ps scope)
    (hsup : mg "super" = none) (htop : (P.main.scope.names.lookup ("super" : Str)).isSome = false) (hps : ps.head? = some x0) (hN : N[0]? = some x0) (hp : (params.posonlyargs ++ params.args).head? = some ar) (hx0 : ar.arg = x0) (hn : ps.length = n + 1)
    (na : ∀ r ∈ pf :: l, PySem.W.findIn K (.ref C) r.1 = some none) (hf : (pf :: l).all (fun p => p.2.fits n) = true) (hl : (pf :: l).length ≤ 900)
    {pl : Env → Sem Bool} (hcl : ∀ env, eval (.Call (.Attribute (.Call (.Name "super" p0) [] [] p1) "__init__" p2) [.Constant (.str txt) kk p5] [] p3) env = (do
      let ov ← attributeBase (.Call (.Name "super" p0) [] [] p1) "__init__" env (eval (.Call (.Name "super" p0) [] [] p1) env)
      standAt p2.atName
      let (f, first) ← holding [ov] (getMethod ov "__init__" (pl env))
      callWith p3 f first (backTo p3 (starEach [.Constant (.str txt) kk p5] env)) []))
    (hbody : ∀ (A : Around) (outer : List Env) (s : Shared) (H : Hp) (E : XK), PSs (EXS.cxC (L2.CX P w) P w K mg base N qual scope f cc (.ref cda) A outer s H E) rest (tCh K (pf :: l))) :
    FnOk P w K mg base (L2.CX P w) (k + 1) f fd ps (spX C n (pf :: l)) := by
  refine EXS.fn_exc (hcl := hcl) F G S hsup htop hps hN hp hx0 (fun vs H Q E ⟨a, ws, e, hw, _⟩ => by rw [e, List.length_cons, hw, hn]) (fun vs H Q E ⟨a, ws, e, hw, ha, _⟩ => ⟨a, ws, e, ha⟩) (fun A outer s H vs Q E a ws hr hsp ev => ?_) (fun env => rfl) (fun env => rfl)
  · obtain ⟨a', ws', e', hw, ha, q⟩ := hsp
    rw [ev] at e'
    cases e'
    refine ⟨_, _, pa_cons pe_str pa_nil, hbody A outer s H E, ?_⟩
    refine ⟨Nat.le_of_ble_eq_true rfl, ha, ?_⟩
    rw [ev]
    refine chain_start (n := n) (ws := ws) G.ox rfl (fun i hi => ?_) na hf hl ha fun d hd ne => q d hd ne
    unfold L2.start
    have hi2 : i < ws.length := by rw [hw]; exact hi
    show ((V.ref a :: ws).map some ++ _)[i + 1]? = _
    rw [List.getElem?_append_left (by simp; omega), List.getElem?_map, List.getElem?_cons_succ, List.getElem?_eq_getElem hi2]
    rfl
end
section
variable {X : Cx} {E : XK} {CX : CXT} {x : Str} {C fI : Addr} {k n : Nat} {fd : FuncData} {ps : List Str} {l : FL} {e : Expr} {es : List Expr} {Tl : DTA} {p pos pos2 : Pos}
/-- raise of an exception of the class C with these fields -/
def zRaise (C : Addr) (n : Nat) (l : FL) (Tl : DTA) : DTS := fun Q env => Tl env (fun ds => ds.length = n ∧ Q.ex ⟨C, fsK l, fsD l ds⟩) Q.ex
theorem exo_gone {H1 : Hp} {a d : Addr} {C : Addr} {fs : List (Str × V)} (ha : H1 a = none) (ne : d ≠ a) : upd (del (upd (upd (upd H1 a (exo a C none)) d (exd d fs)) a (exo a C (some d))) a) d (.xd fs) = upd H1 d (.xd fs) := by
  funext b
  by_cases z : b = d
  · subst z
    rw [upd_same, upd_same]
  · rw [upd_ne z, upd_ne z]
    by_cases y : b = a
    · subst y
      rw [del_same, ha]
    · rw [del_ne y, upd_ne y, upd_ne z, upd_ne y]
theorem raise_end {c : Fm} {σ : St} {H S : Hp} {env : En} {Rx : Er → Prop} {vs : List V} {ds : List D} (hfit : l.all (fun p => p.2.fits n) = true) (x : XOk c E Rx) (k : Kn c σ H S env) (r : RepL c.B S ds vs) (hn : ds.length = n) (q : Rx ⟨C, fsK l, fsD l ds⟩) {a : Addr} (ha : H a = none) :
    spX C n l (.ref a :: (vs ++ [])) (upd H a (exo a C none)) (fun v H2 => v = .non ∧ ∃ (d : Addr) (fs : List (Str × V)), H2 a = some (exo a C (some d)) ∧ H2 d = some (exd d fs) ∧ H d = none ∧ E (.ref C) (some d) (upd (del H2 a) d (.xd fs))) (fun _ _ _ => False) := by
  rw [List.append_nil]
  refine ⟨a, vs, rfl, by rw [r.length]; exact hn, upd_same, fun d hd ne => ⟨rfl, d, fsV l vs, upd_same, by rw [upd_ne ne, upd_same], by rw [upd_ne ne] at hd; exact hd, ?_⟩⟩
  rw [upd_ne ne] at hd
  rw [exo_gone ha ne]
  have k2 := k.new0 (o := .xd (fsV l vs)) hd
  refine x ⟨C, fsK l, fsD l ds⟩ d (fsW l vs) _ S k2.kf (RepL.rev (fs_rep r hn l hfit)) ?_ ?_ (k.kf.h0_none hd) (k.kf.s_none hd) q
  · show (fsD l ds).length = (fsK l).length
    unfold fsD fsK
    rw [List.length_reverse, List.length_reverse, List.length_map, List.length_map]
  · show upd H d (.xd (fsV l vs)) d = some (.xd ((fsK l).zip (fsW l vs)))
    rw [upd_same, fs_zip]
theorem s_raise (T : OexC X.K C) (iC : PySem.W.findIn X.K (.ref C) "__init__" = some (some (.ref fI))) (tI : PySem.W.typeIn X.K (.ref fI) = some (.type "function")) (hfit : l.all (fun p => p.2.fits n) = true) (hn : n ≤ 900)
    (G : FnOk X.prog X.w X.K X.mg X.base CX k fI fd ps (spX C n l)) (hr : Room (k + 1) X.A) (hb : L2.Binds X.K fd ps []) (hx : Passes CX X (fun _ _ _ => False)) (hm : X.mg x = some (.ref C)) (hc : X.calm = true) (tk : Takes X (fun cls d _ H => E cls d H)) (ha : DA X E (e :: es) Tl)
    (hg : Gl X x := by rfl) (hdb : (x == ("__debug__" : Str)) = false := by decide) (he : starEach (e :: es) X.env = (false, eval e X.env) :: starEach es X.env := by rfl) (hpl : (backTo pos (starEach es X.env)).any (·.1) = false := by rfl) :
    DS X E (.Raise (some (.Call (.Name x p) (e :: es) [] pos)) none pos2) (zRaise C n l Tl) := by
  obtain ⟨t, pa, s⟩ := ha
  refine ⟨_, ps_raise hc tk (pmk_oex T iC tI G hr hb .nil hx hg hm pa hdb he hpl), fun c σ H S env Q x k t1 D m => s c σ H S env _ _ x k t1 _ fun vs H1 S1 ds k1 s1 r1 t2 => ⟨by rw [r1.length, t2.1]; omega, fun a ha => ?_⟩⟩
  exact raise_end hfit x k1 r1 t2.1 t2.2 ha
end
end DL
namespace DL
open PySem PySem.Spec L2 PyProof.Rows LamX
variable [TbC]
section
variable {X : Cx} {E : XK} {i : Nat} {c P : Addr} {params : Arguments} {body : Expr} {scope : Scope} {pos : Pos}
/-- lambda: .. : the value is told with the maker's cells -/
def xLam (i : Nat) (cl : List (Str × Addr)) : DT := fun _ R _ => R (.fn i cl none)
end
end DL
namespace DL
open PySem PySem.Spec L2 PyProof.Rows LamX
variable [TbC]
abbrev Zf := Nat → (D → Prop) → (Er → Prop) → Prop
/-- the captured values -/
def pickE (js : List Nat) (env : En) : En := js.map fun j => match (env[j]? : Option (Option DV)) with
  | some (some (DV.val d)) => some (DV.val d)
  | _ => none
/-- lambda i's reading by the maker's names -/
def ZL (LT : Nat → Option (List Nat × DT)) (env : En) : Zf := fun i R Rx => match LT i with
  | some (js, T) => T (pickE js env) R Rx
  | none => False
end DL
namespace DL
open PySem PySem.Spec L2 PyProof.Rows LamX
variable [TbC]
mutual
def closeD (z : Option Addr × Hp) : D → D
  | .fn i cl none => .fn i cl (some z)
  | .lst ds => .lst (closeL z ds)
  | .tup ds => .tup (closeL z ds)
  | d => d
def closeL (z : Option Addr × Hp) : List D → List D
  | [] => []
  | d :: ds => closeD z d :: closeL z ds
end
section
variable {X : Cx} {E : XK} {k kk : Nat} {f : Addr} {fd : FuncData} {ps : List Str} {x : Str} {p pos : Pos} {e : Expr} {es : List Expr} {Tl : DTA} {cl : List (Str × Addr)} {F : Option Addr × Hp → Zf → Spec} {LT : Nat → Option (List Nat × DT)}
def xCallZ (F : Option Addr × Hp → Zf → Spec) (LT : Nat → Option (List Nat × DT)) (Tl : DTA) : DT := fun env R Rx => Tl env (fun ds => ∀ z, F z (ZL LT env) (closeL z ds) R Rx) Rx
end
end DL
namespace DL
open PySem PySem.Spec L2 PyProof.Rows LamX
variable [TbC]
/-- the names that hold data -/
def valE (env : En) : En := env.map fun x => match x with
  | some (DV.val d) => some (DV.val d)
  | _ => none
theorem valE_get {env : En} {j : Nat} {y : DV} (e : (valE env)[j]? = some (some y)) : ∃ d, y = .val d ∧ env[j]? = some (some (.val d)) := by
  unfold valE at e
  rw [List.getElem?_map] at e
  obtain ⟨x, ex, e2⟩ := Option.map_eq_some_iff.mp e
  split at e2
  · rename_i d
    cases e2
    exact ⟨d, rfl, ex⟩
  · cases e2
theorem Kn.vals {c : Fm} {σ : L2.St} {H S : Hp} {env : En} (k : Kn c σ H S env) : Kn (c.at H S) σ H S (valE env) := by
  refine ⟨k.kf.at, by unfold valE; rw [List.length_map]; exact k.len, fun j y e => ?_, fun j1 j2 x y v u a _ e _ _ _ f _ => ?_⟩
  · obtain ⟨d, rfl, e2⟩ := valE_get e
    exact k.sl j _ e2
  · obtain ⟨d, rfl, _⟩ := valE_get e
    exact f
theorem RepN.at {c : Fm} {H S H' S' : Hp} {d : D} {v : V} (k : Kf c H S) {b : Rk} (r : RepN (c.at H S) H' S' b d v) : RepN c H' S' b d v := by
  cases b with
  | old => exact r
  | nw =>
    refine rep_mono (fun a o e => ?_) d v r
    obtain ⟨e1, e2⟩ := newH_some e
    show newH c.H0 S' a = some o
    rw [newH_of (k.h0_none e1)]
    exact e2
  | tr =>
    obtain ⟨as, r, n, q⟩ := r
    exact ⟨as, r, n, fun a m => ⟨(q a m).1, k.h0_none (q a m).2⟩⟩
end DL
namespace DL
open PySem PySem.Spec L2 PyProof.Rows LamX
end DL
namespace Hx
open PySem PySem.Spec L2
theorem sup_ok {K : PySem.W.Frag} {C : Addr} {fl : Str} {clo : List (Str × Addr)} {code : Value} (h : supB K C fl clo code = true) : ∃ (cc cda : Addr) (ccl cl : Value) (cdd cld : Option Addr) (ccs csl : Array (Option Value)) (vs : Array Value) (file : Str) (tf : Tok) (cdD : ClassData),
    clo = [(("__class__" : Str), cc)] ∧ code = .ref cda ∧ K.lookup cda = some ⟨ccl, cdd, .fields vs, ccs⟩ ∧ vs[2]? = some (.str file tf) ∧ (fl == file) = true ∧ K.lookup cc = some ⟨cl, cld, .cell (some (.ref C)), csl⟩ ∧ PySem.W.clsIn K C = some cdD := by
  unfold supB at h
  split at h
  · rename_i n cc cda
    obtain ⟨h1, h⟩ := He.ba h
    obtain ⟨h2, h⟩ := He.ba h
    obtain ⟨h3, h4⟩ := He.ba h
    have h1 := of_decide_eq_true h1
    subst h1
    split at h2
    · rename_i cl cld D csl e2
      have h2 := of_decide_eq_true h2
      subst h2
      split at h3
      · rename_i ccl cdd vs ccs e3
        split at h3
        · rename_i file tf e4
          obtain ⟨cdD, hD⟩ := Option.isSome_iff_exists.mp h4
          exact ⟨cc, cda, ccl, cl, cdd, cld, ccs, csl, vs, file, tf, cdD, rfl, rfl, e3, e4, h3, e2, hD⟩
        · cases h3
      · cases h3
    · cases h2
  · cases h
theorem DefX.supF {K : PySem.W.Frag} {d : DefX} {x fl : Str} (e : fnX K (d.ad K) = d.val) (c : d.ok K = true) (hs : d.sup = some (x, fl)) (hd : d.dfl = []) : ∃ (cc cda : Addr) (fd : FuncData), EXS.SupFn K fl d.name d.qual d.params d.body d.scope (He.ga K x) (d.ad K) cc cda fd := by
  obtain ⟨kp, c2⟩ := He.ba c
  unfold fnX at e
  cases q : K.lookup (d.ad K) with
  | none =>
    rw [q] at c2
    cases c2
  | some o =>
    obtain ⟨oc, od, dt, osl⟩ := o
    rw [q] at c2 e
    cases dt with
    | func fd =>
      obtain ⟨n1, n2, n3, n4, n5, n6, n7, n8, n9, n10, n11, n12, n13, n14, n15⟩ := fd
      have c9 : ((PySem.W.codeIn K n13 d.qual && (He.dflB K n8 (d.dvs K) && He.kwdB K n9 (d.kws K))) && cloB K d.sup n7 n13) = true := c2
      obtain ⟨c3, c4⟩ := He.ba c9
      rw [hs] at c4
      have c5 : supB K (He.ga K x) fl n7 n13 = true := c4
      obtain ⟨cc, cda, ccl, cl, cdd, cld, ccs, csl, vs, file, tf, cdD, r1, r2, r3, r4, r5, r6, r7⟩ := sup_ok c5
      subst r1 r2
      have e2 : (some (n1, n2, n3, n4, n5, n6, ([] : List (Str × Addr)), n15) : He.FnW) = some (d.name, d.qual, d.params, .stmts d.body, d.scope, mainGlobals, [], builtinsNs) := e
      simp only [Option.some.injEq, Prod.mk.injEq] at e2
      obtain ⟨h1, h2, h3, h4, h5, h6, _, h8⟩ := e2
      subst h1 h2 h3 h4 h5 h6 h8
      obtain ⟨k1, k2⟩ := He.ba c3
      obtain ⟨k3, _⟩ := He.ba k2
      have k4 := He.dflB_ok k3
      have hdv : d.dvs K = [] := by unfold DefX.dvs; rw [hd]; rfl
      rw [hdv] at k4
      have k5 : n8 = .none := by
        rcases k4 with ⟨_, z⟩ | ⟨z, _⟩
        · exact z
        · exact absurd rfl z
      exact ⟨cc, cda, _, ⟨oc, ccl, cl, n8, n9, n10, n11, n14, n12, od, cdd, cld, osl, ccs, csl, vs, file, tf, cdD, rfl, q, k1, r3, r4, r5, r6, r7, k5⟩, kp⟩
    | _ => cases c2
theorem SaysX.sup_ {fx : List (PySem.W.Frag → Bool)} {fn : List DefX} {K : PySem.W.Frag} (c : SaysX fx fn K) (i : Nat) {d : DefX} {x fl : Str} (h : fn[i]? = some d := by rfl) (hs : d.sup = some (x, fl) := by rfl) (hd : d.dfl = [] := by rfl) : ∃ (cc cda : Addr) (fd : FuncData), EXS.SupFn K fl d.name d.qual d.params d.body d.scope (He.ga K x) (d.ad K) cc cda fd := by
  have c2 := (He.ba (show ((fx.all fun f => f K) && fn.all fun d => d.ok K) = true from congrArg (fun z : He.AlD => z.1) c)).2
  have e : fn.map (fun d => fnX K (d.ad K)) = fn.map DefX.val := congrArg (fun z : He.AlD => z.2) c
  have e2 : (fn.map fun d => fnX K (d.ad K))[i]? = (fn.map DefX.val)[i]? := by rw [e]
  rw [List.getElem?_map, List.getElem?_map, h] at e2
  exact DefX.supF (Option.some.inj e2) (List.all_eq_true.mp c2 d (List.mem_of_getElem? h)) hs hd
theorem ErrX.excD {K : PySem.W.Frag} {C f : Addr} (h : ErrX K C f) : EXS.ExcD K C := ⟨h.ox, h.st, h.su, h.mr, h.ve⟩
end Hx
namespace DL
open PySem PySem.Spec L2
/-- an own error class of the text, known by its name -/
structure Xe (K : PySem.W.Frag) (mg : Str → Option Value) (fl : Str) (x : Str) (st : Stmt) where
  C : Addr
  f : Addr
  cc : Addr
  cda : Addr
  fd : FuncData
  g : mg x = some (.ref C)
  e : Hx.ErrX K C f
  F : EXS.SupFn K fl "__init__" (x ++ ".__init__") (defArgs st) (defBody st) (defScope st) C f cc cda fd
theorem Xe.binds {K : PySem.W.Frag} {mg : Str → Option Value} {fl x : Str} {st : Stmt} {ps : List Str} (D : Xe K mg fl x st)
    (h : ∀ (kV doc pm cdv ct : Value) (an : Option Addr) (cc : Addr) (us : List Value), us.length = ps.length → bindArgs (PySem.W.ksFn "__init__" (x ++ ".__init__") (defArgs st) (defBody st) (defScope st) .none kV doc pm an cdv ct cc) ⟨us, []⟩ = pure (ps.zip us)) : Binds K D.fd ps [] := by
  obtain ⟨_, _, _, dV, _, _, _, _, _, _, _, _, _, _, _, _, _, _, _, e, _, _, _, _, _, _, _, e2⟩ := D.F.ex
  rw [e, e2]
  exact Binds.all (h _ _ _ _ _ _ _)
end DL
namespace DL
open PySem PySem.Spec L2
end DL
namespace DL
open PySem PySem.Spec L2
variable [TbC]
section
variable {X : Cx} {k : Nat} {C g : Addr} {fd : FuncData} {ps : List Str} {sp : Sp} {F : Spec}
def negR (R : D → Prop) : D → Prop
  | .bl b => R (.bl (!b))
  | _ => False
theorem w_negR {R : D → Prop} {b : Bool} : negR R (.bl b) = R (.bl (!b)) := rfl
def opOwnN (C : Addr) (F : Spec) : DOp := fun x y R => asO C (fun _ _ => True) x ∧ asO C (fun _ _ => True) y ∧ F [x, y] (negR R) noX
theorem w_opOwnN {C : Addr} {F : Spec} {x y : D} {R : D → Prop} : opOwnN C F x y R = (asO C (fun _ _ => True) x ∧ asO C (fun _ _ => True) y ∧ F [x, y] (negR R) noX) := rfl
end
theorem w_par3 {i j l : Nat} {Tl : DTA} {Q : DEnds} {env : En} : zPar3 i j l Tl Q env = Tl env (fun ds => match ds with
  | [d, d', d''] => Q.nx (put l d'' (put j d' (put i d env)))
  | _ => False) Q.ex := rfl
end DL
namespace DL
open PySem PySem.Spec L2 PyProof.Rows LamX
end DL
namespace DL
open PySem PySem.Spec L2
variable [TbC]
theorem seq_step {A B : DTS} {Q : DEnds} {env : En} (h : ∀ N : En → Prop, (∀ e, B Q e → N e) → A { Q with nx := N } env) : zSeq A B Q env := h _ fun _ h => h
theorem for_step {Ti : DTI} {G : DG} {Tb : DTS} {Q : DEnds} {env : En} (h : ∀ B : DEnds → En → Prop, (∀ Q e, Tb Q e → B Q e) → zFor Ti G B Q env) : zFor Ti G Tb Q env := h _ fun _ _ h => h
/-- both ways behind a test -/
theorem if_step {T : DTT} {U W : DTS} {Q : DEnds} {env : En} (h : ∀ U' W' : DEnds → En → Prop, (∀ Q e, U Q e → U' Q e) → (∀ Q e, W Q e → W' Q e) → zIf T U' W' Q env) : zIf T U W Q env := h _ _ (fun _ _ h => h) fun _ _ h => h
def pk : Option (Option DV) → Option DV
  | some (some (.val d)) => some (.val d)
  | _ => none
theorem w_pk {d : D} : pk (some (some (.val d))) = some (.val d) := rfl
theorem w_pickE_nil {env : En} : pickE [] env = [] := rfl
theorem w_pickE_cons {j : Nat} {js : List Nat} {env : En} : pickE (j :: js) env = pk env[j]? :: pickE js env := rfl
theorem w_xLam {i : Nat} {cl : List (Str × Addr)} {env : En} {R : D → Prop} {Rx : Er → Prop} : xLam i cl env R Rx = R (.fn i cl none) := rfl
theorem w_callZ {F : Option Addr × Hp → Zf → Spec} {LT : Nat → Option (List Nat × DT)} {Tl : DTA} {env : En} {R : D → Prop} {Rx : Er → Prop} : xCallZ F LT Tl env R Rx = Tl env (fun ds => ∀ z, F z (ZL LT env) (closeL z ds) R Rx) Rx := rfl
theorem repN_0 : List.replicate 0 (none : Option DV) = [] := rfl
theorem repN_s {n : Nat} : List.replicate (n + 1) (none : Option DV) = none :: List.replicate n none := rfl
end DL
namespace DL
open PySem PySem.Spec L2
variable [TbC]
/-- data of the built-in types -/
def D.bty : D → Option String
  | .non => some "NoneType"
  | .bl _ => some "bool"
  | .int _ => some "int"
  | .str _ => some "str"
  | .lst _ => some "list"
  | .tup _ => some "tuple"
  | _ => none
def asA (d : D) : Prop := d.bty ≠ none
theorem w_asA_int {i : Int} : asA (.int i) = True := eq_true fun z => nomatch z
theorem w_asA_non : asA .non = True := eq_true fun z => nomatch z
theorem w_asA_bl {b : Bool} : asA (.bl b) = True := eq_true fun z => nomatch z
theorem w_asA_str {s : Str} : asA (.str s) = True := eq_true fun z => nomatch z
theorem w_asA_lst {xs : List D} : asA (.lst xs) = True := eq_true fun z => nomatch z
theorem w_asA_tup {xs : List D} : asA (.tup xs) = True := eq_true fun z => nomatch z
section
variable {X : Cx} {CX : CXT} {k : Nat} {C g : Addr} {fd : FuncData} {ps : List Str} {F : Spec} {E : XK} {a b : Expr} {Ta Tb : DT} {pos : Pos}
def xOBa (C : Addr) (F : Spec) (Ta Tb : DT) : DT := fun env R Rx => Ta env (fun x => Tb env (fun y => asO C (fun _ _ => True) x ∧ asA y ∧ F [x, y] R Rx) Rx) Rx
theorem w_xOBa {C : Addr} {F : Spec} {Ta Tb : DT} {env : En} {R : D → Prop} {Rx : Er → Prop} : xOBa C F Ta Tb env R Rx = Ta env (fun x => Tb env (fun y => asO C (fun _ _ => True) x ∧ asA y ∧ F [x, y] R Rx) Rx) Rx := rfl
end
end DL
namespace DL
open PySem PySem.Spec L2
end DL
namespace DL
open PySem PySem.Spec L2
variable [TbC]
/-- the text with these signs -/
def tx (l : List Nat) : Str := ⟨⟨l⟩⟩
theorem w_tx_len {l : List Nat} : (tx l).length = l.length := rfl
theorem w_tx_size {l : List Nat} : (tx l).cps.size = l.length := rfl
theorem w_tx_cps {l : List Nat} : (tx l).cps.toList = l := rfl
theorem w_tx_app {a b : List Nat} : tx a ++ tx b = tx (a ++ b) := by
  show Str.mk _ = Str.mk _
  congr 1
  show (⟨a⟩ : Array Nat) ++ (⟨b⟩ : Array Nat) = ⟨a ++ b⟩
  simp
theorem tx_inj {a b : List Nat} (h : tx a = tx b) : a = b := by
  have := congrArg (fun s : Str => s.cps.toList) h
  exact this
theorem w_tx_eq {a b : List Nat} : (tx a = tx b) = (a = b) := propext ⟨tx_inj, fun h => by rw [h]⟩
theorem w_tx_beq {a b : List Nat} : (tx a == tx b) = decide (a = b) := by
  rw [Bool.eq_iff_iff, beq_iff_eq, decide_eq_true_eq]
  exact ⟨tx_inj, fun h => by rw [h]⟩
theorem w_tx_mul {a : List Nat} {n : Nat} : mulS (tx a) n = tx (List.replicate n a).flatten := rfl
theorem w_tx_signs {l : List Nat} : signs (tx l) = l.map fun c => .str (tx [c]) := rfl
theorem w_tx_emp : (Str.ofString "") = tx [] := by decide +kernel
theorem w_tx_one {c : Nat} : (Str.mk #[c]) = tx [c] := rfl
end DL
namespace DL
open PySem PySem.Spec L2
variable [TbC]
def xCallM (F : Spec) (n m : Nat) (gD : List D → List D → List D) (Tl Tk : DTA) : DT := fun env R Rx => Tl env (fun xs => Tk env (fun zs => xs.length = n ∧ zs.length = m ∧ F (gD xs zs) R Rx) Rx) Rx
theorem w_callM {F : Spec} {n m : Nat} {gD : List D → List D → List D} {Tl Tk : DTA} {env : En} {R : D → Prop} {Rx : Er → Prop} : xCallM F n m gD Tl Tk env R Rx = Tl env (fun xs => Tk env (fun zs => xs.length = n ∧ zs.length = m ∧ F (gD xs zs) R Rx) Rx) Rx := rfl
end DL
namespace SUPX
open PySem PySem.Spec L2 PyProof.Rows
section
variable {X : Cx} {pins : List (Addr × Obj)} {σ : List (Option V)} {H : Hp} {s : Shared}
/-- .. without arguments -/
theorem at_supm0 {body : List Stmt} {qual : Str} {scope : Scope} {L f cc cda D x C g2 : Addr} {p0 p1 p2 p3 : Pos} {m : Str} {fd : FuncData} {ar : Arg} {vs : Array Value} {file : Str} {tf : Tok} {oc ccl cl : Value} {od cdd cld : Option Addr} {osl ccs csl : Array (Option Value)} {cdD cdC : ClassData} {ox : Obj} {odx : Option Obj} {CX : CXT} {k : Nat} {sp : Sp} {E : XK} {Q : VK} {pl : Sem Bool}
    (I : Inv X pins σ H s) (heq : X.env = PySem.W.ksEnv qual scope L f (.ref cda) cc)
    (hf : X.K.lookup f = some ⟨oc, od, .func fd, osl⟩) (hp : (fd.params.posonlyargs ++ fd.params.args).head? = some ar)
    (hcode : X.K.lookup cda = some ⟨ccl, cdd, .fields vs, ccs⟩) (hvs : vs[2]? = some (.str file tf)) (hfile : ((X.prog.main.file : Str) == file) = true)
    (hcell : X.K.lookup cc = some ⟨cl, cld, .cell (some (.ref D)), csl⟩) (hD : PySem.W.clsIn X.K D = some cdD) (hC : PySem.W.clsIn X.K C = some cdC) (hsub : PySem.W.mroIn X.K C (.ref D) = some true) (hsuper : X.mg "super" = none)
    (hat : (m == ("__class__" : Str)) = false) (hks : scope.names.lookup ("super" : Str) = some .globalImplicit) (hkc : scope.names.lookup ("__class__" : Str) = some .free) (hka : scope.names.lookup ar.arg = some .local)
    (htop : (X.prog.main.scope.names.lookup ("super" : Str)).isSome = false)
    (hv : ∃ i : Nat, X.N[i]? = some ar.arg ∧ σ[i]? = some (some (V.ref x))) (J : PySem.W.InstAt s.heap x ox C odx)
    (hst : PySem.W.nsIn X.K PySem.cStatics "thirdparty.any" = some none) (hm : PySem.W.ks_superIn X.K C D m = some (some (.ref g2))) (ht : PySem.W.typeIn X.K (.ref g2) = some (.type "function")) (hfi : PySem.W.fnIn X.K g2 = true)
    (G : FnR X.prog X.w X.K X.mg X.base CX k g2 sp) (hr : Room k X.A) (hx : Passes CX X E)
    (h : sp [.ref x] H Q E)
    (hcl : eval (.Call (.Attribute (.Call (.Name "super" p0) [] [] p1) m p2) [] [] p3) X.env = (do
      let ov ← attributeBase (.Call (.Name "super" p0) [] [] p1) m X.env (eval (.Call (.Name "super" p0) [] [] p1) X.env)
      standAt p2.atName
      let (f, first) ← holding [ov] (getMethod ov m pl)
      callWith p3 f first (backTo p3 (starEach [] X.env)) [])) :
    PySem.wpAt (model X.prog X.w) X.A (.func body X.env) (eval (.Call (.Attribute (.Call (.Name "super" p0) [] [] p1) m p2) [] [] p3) X.env) (EP X pins σ Q) X.xe s := by
  refine PySem.ks_wpAt_MethodCall (pl := pl) ?_ hcl
  refine EXS.at_super (D := D) (x := x) (C := C) I heq hf hp hcode hvs hfile hcell hD hsub hsuper hat hks hkc hka htop hv J.at_ J.cls (fun c z => ?_) (fun h2 so k2 => ?_)
  · have := J.no
    unfold PySem.W.notCls at this
    rw [z] at this
    exact Bool.noConfusion this
  have I2 : Inv X pins σ H { s with heap := h2 } := I.kept (t' := s.toks) k2
  have XK2 : X.K.In h2 := I2.kIn
  obtain ⟨of, hof, hofc⟩ : ∃ of, h2.get? g2 = some of ∧ of.cls = .type "function" := by
    have ht' : (X.K.lookup g2).map (·.cls) = some (.type "function") := ht
    cases z : X.K.lookup g2 with
    | none => rw [z] at ht'; cases ht'
    | some of => rw [z] at ht'; exact ⟨of, XK2 _ _ z, Option.some.inj ht'⟩
  have J2 : PySem.W.InstAt h2 x ox C odx := ⟨k2 _ _ J.at_, J.cls, J.no, by
    have hd := J.dict
    revert hd
    cases ox.dict <;> cases odx <;> intro hd <;> first | exact hd | exact k2 _ _ hd⟩
  have hm2 : PySem.W.alongIn X.K m ((cdC.mro.dropWhile (· != .ref D)).drop 1) = some (some (.ref g2)) := by
    unfold PySem.W.ks_superIn at hm
    rw [hC] at hm
    exact hm
  obtain ⟨hh, gg, dd, tt, oo⟩ := s
  refine PySem.ks_wpAny_getMethod_super so (PySem.W.looks_opaque XK2 hst) (l₀ := cdC.mro) ?_ rfl XK2 hm2 hof hofc (PySem.W.ks_ne XK2 J2 hC) hat ?_
  · exact fun A Q E s k q => wpAny_bind ((PySem.W.looks_clsIn XK2 hC) A _ E s k (wpAny_pure q))
  have I3 := ClX.met_new (g := g2) (C := x) I2
  refine PySem.W.callWith_M0 (K := X.K) ⟨ClX.pin_at I3, I3.kIn⟩ hfi ?_
  rw [List.append_nil]
  exact ClX.run_cm G hr hx I3 .nil h
end
end SUPX
namespace DL
open PySem PySem.Spec L2
variable [TbC]
theorem pass_c {P : Program} {w : World} {K : PySem.W.Frag} {mg : Str → Option Value} {base : Heap} {N : List Str} {qual : Str} {scope : Scope} {f cc : Addr} {cd : Value} {A : Around} {outer : List Env} {s : Shared} {H : Hp} {E : XK} :
    Passes (L2.CX P w) (EXS.cxC (L2.CX P w) P w K mg base N qual scope f cc cd A outer s H E) E := passes_call (takes_of rfl rfl rfl rfl) fun _ _ _ _ h => h
/-- what is known of the class C of an object and of the class D of the text: the method m behind D -/
structure SupM (K : PySem.W.Frag) (C D : Addr) (m : Str) (g2 : Addr) : Prop where
  st : PySem.W.nsIn K PySem.cStatics "thirdparty.any" = some none
  c : ∃ cdC, PySem.W.clsIn K C = some cdC
  sub : PySem.W.mroIn K C (.ref D) = some true
  m : PySem.W.ks_superIn K C D m = some (some (.ref g2))
  ty : PySem.W.typeIn K (.ref g2) = some (.type "function")
  fi : PySem.W.fnIn K g2 = true
section
variable {P : Program} {w : World} {K : PySem.W.Frag} {mg : Str → Option Value} {base : Heap} {k : Nat} {name qual : Str} {params : Arguments} {rest : List Stmt} {scope : Scope} {C Dd f cc cda g2 : Addr} {fd : FuncData} {N ps : List Str} {e : Expr} {es : List Expr} {p0 p1 p2 p3 p4 : Pos} {x0 : Str} {ar : Arg} {Fs Fb : Spec}
/-- what the base's __init__ leaves, handed to the rest of the body -/
def toRest (C : Addr) (U : List Str → List D → Prop) : D → Prop
  | .obj C' ks xs => C' = C ∧ U ks xs
  | _ => False
end
end DL
namespace DL
open PySem PySem.Spec L2
variable [TbC]
/-- {x}: a text or an int, as a text -/
def fFmt (R : Str → Prop) : D → Prop
  | .str y => y.length ≤ sizeLine ∧ R y
  | .int i => i.natAbs.log2 < 1920 ∧ R (toString i)
  | _ => False
theorem w_fFmtS {R : Str → Prop} {y : Str} : fFmt R (.str y) = (y.length ≤ sizeLine ∧ R y) := rfl
theorem w_fFmtI {R : Str → Prop} {i : Int} : fFmt R (.int i) = (i.natAbs.log2 < 1920 ∧ R (toString i)) := rfl
/-- the parts of an f-string: what is joined so far, what follows -/
abbrev DTJ := Str → En → (Str → Prop) → (Er → Prop) → Prop
def jfNil : DTJ := fun acc _ R _ => R acc
def jfCons (T : DT) (U : DTJ) : DTJ := fun acc env R Rx => T env (fun d => match d with
  | .str y => (acc ++ y).length ≤ sizeLine ∧ U (acc ++ y) env R Rx
  | _ => False) Rx
theorem w_jfNil {acc : Str} {env : En} {R : Str → Prop} {Rx : Er → Prop} : jfNil acc env R Rx = R acc := rfl
def asTx (R : Str → Prop) : D → Prop
  | .str y => R y
  | _ => False
theorem w_asTx {R : Str → Prop} {y : Str} : asTx R (.str y) = R y := rfl
theorem w_jfCons {T : DT} {U : DTJ} {acc : Str} {env : En} {R : Str → Prop} {Rx : Er → Prop} : jfCons T U acc env R Rx = T env (asTx fun y => (acc ++ y).length ≤ sizeLine ∧ U (acc ++ y) env R Rx) Rx := by
  unfold jfCons asTx
  rfl
section
variable {X : Cx} {E : XK} {e : Expr} {es : List Expr} {T : DT} {U : DTJ} {pos : Pos}
def xFmt (T : DT) : DT := fun env R Rx => T env (fFmt fun y => R (.str y)) Rx
theorem w_xFmt {T : DT} {env : En} {R : D → Prop} {Rx : Er → Prop} : xFmt T env R Rx = T env (fFmt fun y => R (.str y)) Rx := rfl
theorem d_fmt (h : DE X E e T) : DE X E (.FormattedValue e (-1) none pos) (xFmt T) := by
  obtain ⟨t, p, s⟩ := h
  refine ⟨_, pe_fmt p, fun c σ H S env R Rx x k h Q q => s c σ H S env _ Rx x k h _ fun v H1 S1 d k1 s1 r1 t1 => ?_⟩
  cases d <;> try exact (show False from t1).elim
  · exact .inr ⟨_, r1, t1.1, q _ H1 S1 (.str _) k1 s1 rfl t1.2⟩
  · exact .inl ⟨_, r1, t1.1, q _ H1 S1 (.str _) k1 s1 rfl t1.2⟩
def DJ (X : Cx) (E : XK) (es : List Expr) (U : DTJ) : Prop := ∃ ts, PJ X es ts ∧ ∀ (c : Fm) (σ : St) (H S : Hp) (env : En) (acc : Str) (R : Str → Prop) (Rx : Er → Prop), XOk c E Rx → Kn c σ H S env → U acc env R Rx →
  ∀ Q : Str → Hp → Prop, (∀ out H' S', Kn c σ H' S' env → Same S S' → R out → Q out H') → tJs ts acc σ H Q
theorem dj_nil : DJ X E [] jfNil := ⟨[], .nil, fun c σ H S env acc R Rx x k h Q q => q acc H S k (Same.refl S) h⟩
theorem dj_cons (h : DE X E e T) (r : DJ X E es U) : DJ X E (e :: es) (jfCons T U) := by
  obtain ⟨t, p, s⟩ := h
  obtain ⟨ts, ps, ss⟩ := r
  refine ⟨t :: ts, .cons p ps, fun c σ H S env acc R Rx x k h Q q => s c σ H S env _ Rx x k h _ fun v H1 S1 d k1 s1 r1 t1 => ?_⟩
  cases d <;> try exact (show False from t1).elim
  exact ⟨_, r1, t1.1, ss c σ H1 S1 env _ R Rx x k1 t1.2 Q fun out H2 S2 k2 s2 r2 => q out H2 S2 k2 (s1.trans s2) r2⟩
def xJoined (U : DTJ) : DT := fun env R Rx => U Str.empty env (fun out => R (.str out)) Rx
theorem w_xJoined {U : DTJ} {env : En} {R : D → Prop} {Rx : Er → Prop} : xJoined U env R Rx = U Str.empty env (fun out => R (.str out)) Rx := rfl
theorem d_joined {v1 v2 : Expr} {rest : List Expr} (h : DJ X E (v1 :: v2 :: rest) U) : DE X E (.JoinedStr (v1 :: v2 :: rest) pos) (xJoined U) := by
  obtain ⟨ts, p, s⟩ := h
  exact ⟨_, pe_joined p, fun c σ H S env R Rx x k h Q q => s c σ H S env Str.empty _ Rx x k h _ fun out H1 S1 k1 s1 r1 => q _ H1 S1 (.str out) k1 s1 rfl r1⟩
end
end DL
namespace SUPX
open PySem PySem.Spec L2 PyProof.Rows
section
variable {prog : Program} {w : World} {A : Around} {c : Code} {E : Value → Shared → Prop} {s : Shared} {env : Env}
theorem at_fmt {value : Expr} {pos : Pos} {Q : Value → Shared → Prop} (h : PySem.wpAt (model prog w) A c (eval value env) (fun v s₁ => wpAny (model prog w) A (formatField v Str.empty) Q E s₁) E s) :
    PySem.wpAt (model prog w) A c (eval (.FormattedValue value (-1) none pos) env) Q E s := by
  rw [arm_eval_FormattedValue]
  refine PySem.wpAt_bind (PySem.ks_wpAt_mono h (fun v s₁ h₁ => ?_) fun _ _ x => x)
  refine PySem.wpAt_of_wpAny (wpAny_bind (wpAny_standAt ?_))
  show wpAny _ _ (do let v' ← holding [v] (pure v); formatField v' Str.empty) Q E s₁
  exact wpAny_bind (wpAny_holding (wpAny_pure h₁))
theorem at_joined {v₁ v₂ : Expr} {rest : List Expr} {pos : Pos} {Q : Value → Shared → Prop}
    (h : PySem.wpAt (model prog w) A c (eval v₁ env) (fun v s₁ => ∃ (y : Str) (tk : Tok), v = .str y tk ∧ y.length ≤ sizeLine ∧ Joins (model prog w) A E (evalEach (v₂ :: rest) env) y (fun out s₂ => out.length ≤ sizeLine ∧ Q (.str out s₂.toks) { s₂ with toks := s₂.toks + 1 }) s₁) E s) :
    PySem.wpAt (model prog w) A c (eval (.JoinedStr (v₁ :: v₂ :: rest) pos) env) Q E s := by
  rw [arm_eval_JoinedStr]
  have e0 : evalEach (v₁ :: v₂ :: rest) env = eval v₁ env :: evalEach (v₂ :: rest) env := by first | rfl | simp [evalEach]
  rw [e0]
  show PySem.wpAt _ _ _ (joinParts Str.empty (eval v₁ env :: evalEach (v₂ :: rest) env)) Q E s
  rw [joinParts]
  refine PySem.wpAt_bind (PySem.ks_wpAt_mono h (fun v s₁ h₁ => ?_) fun _ _ x => x)
  obtain ⟨y, tk, rfl, hy, hj⟩ := h₁
  have hz : (Str.empty ++ y).length ≤ sizeLine := by rw [strLen_append]; show 0 + y.length ≤ _; omega
  have hz' : ¬ (Str.empty.length + y.length > sizeLine) := by rw [← strLen_append]; exact Nat.not_lt.mpr hz
  have ey : Str.empty ++ y = y := by
    obtain ⟨a⟩ := y
    show (⟨#[] ++ a⟩ : Str) = ⟨a⟩
    rw [Array.empty_append]
  refine PySem.wpAt_bind (PySem.wpAt_of_wpAny (wpAny_pure (PySem.wpAt_of_wpAny ?_)))
  show wpAny _ A (if Str.empty.length + y.length > sizeLine then _ else _) Q E s₁
  rw [if_neg hz', ey]
  first
    | exact wpAny_joinPartsRec _ y Q s₁ hj
    | exact wpAny_bind (wpAny_pure (wpAny_joinPartsRec _ y Q s₁ hj))
end
end SUPX
namespace DL
open PySem PySem.Spec L2
variable [TbC]
section
variable {P : Program} {w : World} {K : PySem.W.Frag} {mg : Str → Option Value} {base : Heap} {k : Nat} {name qual m : Str} {params : Arguments} {rest : List Expr} {v2 : Expr} {scope : Scope} {C Dd f cc cda g2 : Addr} {fd : FuncData} {N ps : List Str} {p0 p1 p2 p3 p4 p5 p6 : Pos} {x0 : Str} {ar : Arg} {Ft Fb : Spec} {U : DTJ}
theorem fn_fS (F : EXS.SupFn K P.main.file name qual params [.Return (some (.JoinedStr (.FormattedValue (.Call (.Attribute (.Call (.Name "super" p0) [] [] p1) m p2) [] [] p3) (-1) none p4 :: v2 :: rest) p5)) p6] scope Dd f cc cda fd)
    (M : SupM K C Dd m g2) (S : EXS.SScope N ps scope)
    (hsup : mg "super" = none) (htop : (P.main.scope.names.lookup ("super" : Str)).isSome = false) (hps : ps.head? = some x0) (hN : N[0]? = some x0) (hp : (params.posonlyargs ++ params.args).head? = some ar) (hx0 : ar.arg = x0) (hm : (m == ("__class__" : Str)) = false)
    (G : FnR P w K mg base (L2.CX P w) k g2 (spD Fb))
    (len : ∀ ds R Rx, Ft ds R Rx → ds.length = ps.length)
    (hbody : ∀ (A : Around) (outer : List Env) (s : Shared) (H : Hp) (E : XK), Room k (A.deeper (PySem.W.ksEnv qual scope s.heap.objs.size f (.ref cda) cc)) →
      DJ (EXS.cxC (L2.CX P w) P w K mg base N qual scope f cc (.ref cda) A outer s H E) E (v2 :: rest) U)
    (hT : ∀ ds R Rx, Ft ds R Rx → ∃ ks xs more, ds = .obj C ks xs :: more ∧ Fb [.obj C ks xs] (asTx fun y => y.length ≤ sizeLine ∧ U y (startE N ds) (fun out => R (.str out)) Rx) Rx)
    {pl : Env → Sem Bool}
    (hcl : ∀ env, eval (.Call (.Attribute (.Call (.Name "super" p0) [] [] p1) m p2) [] [] p3) env = (do
      let ov ← attributeBase (.Call (.Name "super" p0) [] [] p1) m env (eval (.Call (.Name "super" p0) [] [] p1) env)
      standAt p2.atName
      let (f, first) ← holding [ov] (getMethod ov m (pl env))
      callWith p3 f first (backTo p3 (starEach [] env)) [])) :
    FnOk P w K mg base (L2.CX P w) (k + 1) f fd ps (spD Ft) := by
  refine ⟨fun vs H Q E ⟨c, S, ds, R, Rx, _, _, _, l, h, _⟩ => by rw [l.length]; exact len _ _ _ h, fun A outer s H args us vs Q E hr e0 hb r hsp => ?_⟩
  obtain ⟨oc, ccl, cl, dV, kV, doc, pm, ct, an, od, cdd, cld, osl, ccs, csl, vs2, file, tf, cdD, hfd, lk, hcd, lcd, hvs, hfile, lcc, hcD, _⟩ := F.ex
  obtain ⟨cdC, hcC⟩ := M.c
  have KX : K.In s.heap := e0.mod.kin.keeps fun b o e => (e0.bs b o e).1
  have lim : s.heap.NoLimit := e0.mod.nolimit.keeps fun b o e => (e0.bs b o e).1
  obtain ⟨c, S0, ds, R, Rx, h0, hs0, kf, l, hF, q, xo⟩ := hsp
  have hl : vs.length = ps.length := by rw [l.length]; exact len _ _ _ hF
  obtain ⟨ks, xs, more, rfl, hT⟩ := hT ds R Rx hF
  obtain ⟨v0, vs0, rfl, r0, l0⟩ := repL_cons_of l
  have r00 := r0
  rw [Rep] at r0
  obtain ⟨a, dx, wl, rfl, hSa, hSd, hn, lw⟩ := r0
  have hHa : H a = some (.ins C dx (ks.zip wl)) := kf.sub _ _ hSa
  subst hfd
  refine PySem.ks_codeAny_call_defAt (fd := PySem.W.ksFn name qual params _ scope dV kV doc pm an (.ref cda) ct cc) hr.depth (KX _ _ lk) rfl lim (PySem.W.codeRec_of KX hcd) rfl hb S.nocell (fun x hx => S.par x.1 (List.of_mem_zip hx).1) (fun h1 hns kp => ?_) S.co S.gen S.kind
  show PySem.wpAt (model P w) (A.deeper (PySem.W.ksEnv qual scope s.heap.objs.size f (.ref cda) cc)) _ _ _ _ _
  have hPJ := hbody A outer s H E (hr.deeper _)
  have hpass := pass_c (P := P) (w := w) (K := K) (mg := mg) (base := base) (N := N) (qual := qual) (scope := scope) (f := f) (cc := cc) (cd := .ref cda) (A := A) (outer := outer) (s := s) (H := H) (E := E)
  have hroom : Room k (A.deeper (PySem.W.ksEnv qual scope s.heap.objs.size f (.ref cda) cc)) := hr.deeper _
  generalize hX : EXS.cxC (L2.CX P w) P w K mg base N qual scope f cc (.ref cda) A outer s H E = X at hPJ hpass
  have I : Inv X [] (L2.start N (.ref a :: vs0)) H { s with heap := h1, toks := s.toks + (ps.zip us).length } := by
    rw [← hX]
    exact EXS.inv_startC S hr.hd e0 hl r ⟨_, _, _, lcc⟩ hns kp
  have hXp : X.prog = P := by rw [← hX]; rfl
  have hXw : X.w = w := by rw [← hX]; rfl
  have hXK : X.K = K := by rw [← hX]; rfl
  have hXmg : X.mg = mg := by rw [← hX]; rfl
  have hXb : X.base = base := by rw [← hX]; rfl
  have hXA : X.A = A.deeper (PySem.W.ksEnv qual scope s.heap.objs.size f (.ref cda) cc) := by rw [← hX]; rfl
  have hXe : X.env = PySem.W.ksEnv qual scope s.heap.objs.size f (.ref cda) cc := by rw [← hX]; rfl
  have hXN : X.N = N := by rw [← hX]; rfl
  have hXxe : X.xe = fun e s' => wpAny (model P w) (A.deeper (PySem.W.ksEnv qual scope s.heap.objs.size f (.ref cda) cc)) (leaving (PySem.W.ksEnv qual scope s.heap.objs.size f (.ref cda) cc) e) (fun _ s'' => L2.CX P w outer H s E e s'') (fun e' s'' => L2.CX P w outer H s E e' s'') s' := by rw [← hX]; rfl
  have fin : ∀ {σ' : L2.St} {H' : Hp} {v : V} {u : Value} {s' : Shared}, Inv X [] σ' H' s' → RelV v u → Q v H' → CE outer P w H s Q u s' := by
    intro σ' H' v u s' J rv q
    subst hX
    exact ⟨v, H', J.os, J.bare, J.base, J.hok, rv, q⟩
  obtain ⟨tj, pj, sj⟩ := hPJ
  obtain ⟨mA, hJ, _⟩ := ins_get I.hok hHa
  obtain ⟨odx, hJ, _⟩ := hJ.look
  have go : PySem.wpAt (model X.prog X.w) X.A (.func [.Return (some (.JoinedStr (.FormattedValue (.Call (.Attribute (.Call (.Name "super" p0) [] [] p1) m p2) [] [] p3) (-1) none p4 :: v2 :: rest) p5)) p6] X.env) (execs [.Return (some (.JoinedStr (.FormattedValue (.Call (.Attribute (.Call (.Name "super" p0) [] [] p1) m p2) [] [] p3) (-1) none p4 :: v2 :: rest) p5)) p6] X.env)
      (SP X [] { nx := fun _ H' => Q .non H', rt := Q }) X.xe { s with heap := h1, toks := s.toks + (ps.zip us).length } := by
    have hps0 : (0 : Nat) < ps.length := by cases ps with | nil => cases hps | cons _ _ => exact Nat.zero_lt_succ _
    have hxin : x0 ∈ ps := by cases ps with | nil => cases hps | cons z _ => cases (Option.some.inj hps); exact List.mem_cons_self
    refine PySem.ks_wpAt_execs_cons (PySem.ks_wpAt_Return_some (SUPX.at_joined (SUPX.at_fmt (PySem.ks_wpAt_mono (SUPX.at_supm0 (D := Dd) (x := a) (C := C) (k := k) (CX := L2.CX P w) (sp := spD Fb)
      (Q := fun v H' => ∃ y : Str, v = .str y ∧ y.length ≤ sizeLine ∧ tJs tj y (L2.start N (.ref a :: vs0)) H' (fun out H2 => Q (.str out) H2)) (E := E) (pl := pl X.env) I hXe
      (by rw [hXK]; exact lk) hp (by rw [hXK]; exact lcd) hvs (by rw [hXp]; exact hfile) (by rw [hXK]; exact lcc) (by rw [hXK]; exact hcD) (by rw [hXK]; exact hcC) (by rw [hXK]; exact M.sub) (by rw [hXmg]; exact hsup) hm S.sup S.cls (by rw [hx0]; exact S.par x0 hxin) (by rw [hXp]; exact htop)
      ⟨0, by rw [hXN, hx0]; cases N with | nil => cases hN | cons z _ => exact hN, rfl⟩ hJ (by rw [hXK]; exact M.st) (by rw [hXK]; exact M.m) (by rw [hXK]; exact M.ty) (by rw [hXK]; exact M.fi) (by rw [hXp, hXw, hXK, hXmg, hXb]; exact G) (by rw [hXA]; exact hroom) hpass ?_ (hcl X.env))
      (fun v s' hh => ?_) fun _ _ z => z))))
    · refine ⟨c, S0, [.obj C ks xs], _, Rx, h0, hs0, kf, repL_cons r00 repL_nil, hT, fun v H' S' d k' r' t' => ?_, xo⟩
      cases d <;> try exact (show False from t').elim
      obtain ⟨t1, t2⟩ := t'
      have hs : Same S0 S' := by rw [← hs0]; exact k'.s0
      exact ⟨_, r', t1, sj c _ H' S' (startE N (.obj C ks xs :: more)) _ _ Rx xo (kn_start k' (repL_mono hs _ _ l)) t2 _ fun out H2 S2 k2 s2 r2 => q _ H2 S2 (.str out) k2.kf rfl r2⟩
    · obtain ⟨v', H', I', rv, y, rfl, hz, q'⟩ := hh
      obtain ⟨tk, rfl⟩ := rv
      refine wpAny_formatField_str ⟨y, tk, rfl, hz, pj_run pj y _ H' (fun out H2 => Q (.str out) H2) _ hz I' q' fun out s2 H2 hz2 J2 q2 => ⟨hz2, ?_⟩⟩ ⟨y, _, rfl, hz, pj_run pj y _ H' (fun out H2 => Q (.str out) H2) _ hz (I'.tok _) q' fun out s2 H2 hz2 J2 q2 => ⟨hz2, ?_⟩⟩ hz
      · exact ⟨.str out, _, H2, J2.tok _, ⟨_, rfl⟩, q2⟩
      · exact ⟨.str out, _, H2, J2.tok _, ⟨_, rfl⟩, q2⟩
  rw [hXp, hXw, hXA, hXxe, hXe] at go
  refine PySem.ks_wpAt_mono go (fun fl s' hs => ?_) fun e s' z => z
  cases fl with
  | ret u =>
    obtain ⟨v, σ', H', J, rv, q⟩ := hs
    exact fin J rv q
  | next =>
    obtain ⟨σ', H', J, q⟩ := hs
    exact fin (v := V.non) (u := Value.none) J rfl q
  | brk =>
    obtain ⟨_, _, _, q⟩ := hs
    exact False.elim q
  | cont =>
    obtain ⟨_, _, _, q⟩ := hs
    exact False.elim q
end
section
variable {X : Cx} {E : XK} {e : Expr} {st : Stmt} {sts : List Stmt} {T U : DT}
def xAlt (T U : DT) : DT := fun env R Rx => T env R Rx ∨ U env R Rx
end
structure ConI (K : PySem.W.Frag) (C : Addr) (f : Str) (u : Value) : Prop where
  at_ : PySem.W.findIn K (.ref C) f = some (some u)
  ng : PySem.W.specialIn K u "__get__" = some none
  hd : PySem.W.handedIn u = true
  cp : PySem.W.copiedNames.contains f = false
section
variable {X : Cx} {E : XK} {e : Expr} {f : Str} {pos : Pos} {C : Addr} {u : Value} {d0 : D} {To : DT}
def xCon (C : Addr) (f : Str) (d0 : D) (Te : DT) : DT := fun env R Rx => Te env (asO C fun ks xs => fld ks xs f = none ∧ R d0) Rx
theorem d_con {v0 : V} (he : DE X E e To) (c : Cls X.K C) (n : ConI X.K C f u) (hv : RelV v0 u) (hr : ∀ B S, Rep B S d0 v0) (hb : attributeBase e f X.env (eval e X.env) = eval e X.env := by rfl) : DE X E (.Attribute e f pos) (xCon C f d0 To) := by
  obtain ⟨t, p1, s⟩ := he
  refine ⟨fun σ H Q => t σ H fun x H1 => ∃ a dx fs, x = .ref a ∧ H1 a = some (.ins C dx fs) ∧ fs.lookup f = none ∧ Q v0 H1, ⟨fun pins s0 σ H Q I h => ?_⟩, fun c0 σ H S env R Rx x k t Q q => s c0 σ H S env _ Rx x k t _ fun v H1 S1 d k1 s1 r1 t1 => ?_⟩
  · refine attr_of hb (thn (p1.run pins s0 σ H _ I h) fun w s1 ⟨x, H1, I1, rx, a, dx, fs, ex, ea, hl, q⟩ => ?_)
    subst ex
    obtain rfl : w = Value.ref a := rx
    obtain ⟨mA, O, rel, _⟩ := ins_get I1.hok ea
    obtain ⟨od, J, lk⟩ := O.look
    have hl2 : PySem.W.lookIn f od = some none := by
      have hz := rel f
      rw [hl] at hz
      rw [lk f]
      cases z : mA f with
      | none => rfl
      | some y => rw [z] at hz; exact hz.elim
    exact PySem.W.get_value I1.kIn J (PySem.W.plainGet_of (c.get f)).1 (PySem.W.findObj_cls c.hd n.at_ n.ng n.hd n.cp hl2) n.hd ⟨v0, H1, I1.tok _, hv, q⟩
  · cases d <;> try exact (show False from t1).elim
    obtain ⟨rfl, e1, t1⟩ := t1
    obtain ⟨a, dx, vs, e2, h1, hn, l1⟩ := obj_of k1 r1
    exact ⟨a, dx, _, e2, h1, fld_none l1 hn e1, q v0 H1 S1 d0 k1 s1 (hr _ _) t1⟩
end
end DL
namespace PySem
open Sem (wp)
section
variable {prog : Program} {w : World} {A : Around} {E : Value → Shared → Prop} {s : Shared}
/-- T(..) where what T.__new__ does is told for this very program -/
theorem own_newType {T nid : String} {B0 : Builtin} {as : List Value} {Q : Value → Shared → Prop} (tc : TypeCalled T nid "object.__init__") (ne : (some nid != some "object.__new__") = true) (c1 : checkTypeCall T ⟨as, []⟩ = pure ()) (c2 : checkBuiltinCall nid ⟨.type T :: as, []⟩ = pure ())
    (ok : ∀ o, argsOk "object.__init__" ⟨o :: as, []⟩) (en : entryFor table nid = some B0)
    (h : wpAny (model prog w) A.in1.in1 (B0 ⟨.type T :: as, []⟩) (fun fin s' => match fin with | .done f => wants (fun o s₁ => s₁.TypeIs o T ∧ Q o s₁) E (.ok f) s' | .again c' => c'.quiet = true ∧ codeAny (model prog w) A.in1 c' (wants (fun o s₁ => s₁.TypeIs o T ∧ Q o s₁) E) s')
      (fun e s' => wants (fun o s₁ => s₁.TypeIs o T ∧ Q o s₁) E (.error e) s') s) : wpAny (model prog w) A (call (.type T) as) Q E s := by
  obtain ⟨c0, t0, hm⟩ := tc.mro
  have hd := tc.made
  have hb := tc.sub
  refine wpAny_call (codeAny_of_tree ?_)
  show wpAny _ _ (callAny (.type T) ⟨as, []⟩) _ _ _
  refine wpAny_pure ⟨Code.quiet_builtin _ (by decide +kernel), codeAny_builtin F.entry_type_call ?_⟩
  rw [Around.under_plain (weight_type_call_type T as []) (units_type_call_type T as [])]
  have z1 := tc.notType
  have z2 := tc.canCreate
  repeat any_goals (first | assumption | wp_step)
  refine codeAny_mono (codeAny_call_builtin tc.plain en (wpAny_of_eq c2 h)) fun r s₁ hr => ?_
  rcases r with e | fl
  · exact hr
  cases fl with
  | ret o =>
    obtain ⟨hT, hq⟩ := hr
    have y1 := tc.init.lookup
    have y2 := tc.init.bind o
    repeat any_goals (first | assumption | wp_step)
    refine codeAny_mono (codeAny_call_builtin tc.init.plain F.entry_object_init (tc.init.check _ _ _ _ _ _ _ _ hT (ok o) (object_init_meets tc.init.lookup tc.made ne prog w A.in1 (wants (fun r s₂ => r = .none ∧ Q o s₂) E) s₁ ⟨hT, rfl, hq⟩))) fun r2 s2 hr2 => ?_
    rcases r2 with e2 | fl2
    · exact hr2
    cases fl2 with
    | ret r =>
      obtain ⟨rfl, q2⟩ := hr2
      repeat any_goals (first | assumption | wp_step)
    | _ => exact hr2.elim
  | _ => exact hr.elim
theorem own_boolOf {v : Value} {Q : Value → Shared → Prop} (h : wpAny (model prog w) A.in1.in1 (truthy v) (fun b s1 => Q (.bool b) s1) E s) : wpAny (model prog w) A (call (.type "bool") [v]) Q E s := by
  refine own_newType F.called_bool F.newNe_bool (F.typeCall_bool_1 v) (F.newCall_bool_1 v) (fun o => F.args_object_init_2 o v) F.entry_bool_new ?_
  obtain ⟨hp, g, d, tk, os⟩ := s
  have y1 := F.conv_sub_bool
  repeat any_goals (first | assumption | (with_reducible refine wpAny_mono h (fun b s1 hq => ?_) fun _ _ z => z) | wp_step)
  exact ⟨PyProof.Rows.typeIs_bool _ _, hq⟩
end
end PySem
namespace DL
open PySem PySem.Spec L2
variable [TbC]
section
variable {X : Cx} {pins : List (Addr × Obj)} {σ : St} {H : Hp} {s : Shared} {k : Nat} {f g C : Addr} {fd : FuncData} {ps : List Str} {sp : Sp} {F : Spec}
theorem run_in2 {Q : VK} {us : List Value} {vs : List V} {E' : Value → Shared → Prop} (G : FnOk X.prog X.w X.K X.mg X.base (L2.CX X.prog X.w) k f fd ps sp) (hr : Room (k + 2) X.A) (hb : Binds X.K fd ps []) (I : Inv X pins σ H s) (r : Vals vs us) (h : sp vs H Q E0) :
    wpAny (model X.prog X.w) X.A.in1.in1 (call (.ref f) us) (EP X pins σ Q) E' s := by
  have hl : (us ++ []).length = ps.length := by rw [List.append_nil, ← r.length]; exact G.len _ _ _ _ h
  have hb2 := hb s us I.kIn hl
  rw [List.append_nil] at hb2
  refine wpAny_call (codeAny_mono (G.run X.A.in1.in1 X.stack s H ⟨us, []⟩ us vs Q E0 hr.in1.in1 I.env0.in1.in1 hb2 r h) fun r s' hq => ?_)
  cases r with
  | error er => exact False.elim ((passL (X := X.nox)) pins σ H s er s' (I.wish _) hq)
  | ok fl =>
    cases fl with
    | ret u => exact I.after hq
    | next => exact False.elim hq
    | brk => exact False.elim hq
    | cont => exact False.elim hq
def rBoolOw (C : Addr) (sp : Sp) : List V → Hp → VK → Prop := fun xs H Q => ∃ a dx fs, xs = [.ref a] ∧ H a = some (.ins C dx fs) ∧ sp [.ref a] H (fun v H' => ∃ b : Bool, v = .bl b ∧ Q (.bl b) H') E0
theorem call_boolOw (o : Hx.Own X.K C "__bool__" g) (G : FnOk X.prog X.w X.K X.mg X.base (L2.CX X.prog X.w) k g fd ps sp) (hb : Binds X.K fd ps []) (hr : Room (k + 2) X.A) : CallR X (.type "bool") (rBoolOw C sp) := by
  intro pins s σ H xs us Q I r h
  obtain ⟨a, dx, fs, rfl, ha, q⟩ := h
  obtain ⟨u, rfl, ru⟩ := vals1 r
  obtain rfl : u = Value.ref a := ru
  obtain ⟨mA, J, _⟩ := ins_get I.hok ha
  obtain ⟨od, J, _⟩ := J.look
  obtain ⟨m, hF⟩ := I.fr
  refine own_boolOf (PySem.W.truthy_K hF I.ok.mod.kin J o.at_ o.fn (wpAny_mono (run_in2 (us := [.ref a]) (vs := [.ref a]) G hr hb I (.cons rfl .nil) q) (fun u s' hq => ?_) fun _ _ z => z))
  obtain ⟨v, H', I', rv, b, rfl, q2⟩ := hq
  cases rv
  exact ⟨.bl b, H', I', rfl, q2⟩
def blR (R : D → Prop) : D → Prop
  | .bl n => R (.bl n)
  | _ => False
theorem w_blR {R : D → Prop} {n : Bool} : blR R (.bl n) = R (.bl n) := rfl
def fBoolOw (C : Addr) (F : Spec) : DFn
  | [x], R => asO C (fun _ _ => True) x ∧ F [x] (blR R) noX
  | _, _ => False
theorem w_fBoolOw {C : Addr} {F : Spec} {x : D} {R : D → Prop} : fBoolOw C F [x] R = (asO C (fun _ _ => True) x ∧ F [x] (blR R) noX) := rfl
theorem b_boolOw (o : Hx.Own X.K C "__bool__" g) (G : FnOk X.prog X.w X.K X.mg X.base (L2.CX X.prog X.w) k g fd ps (spD F)) (hb : Binds X.K fd ps []) (hr : Room (k + 2) X.A) : CallOk X (.type "bool") (fBoolOw C F) := by
  refine ⟨_, call_boolOw o G hb hr, fun c σ H S env xs vs R kn r t Q q => ?_⟩
  match xs, t with
  | [x], t2 =>
  obtain ⟨t0, t3⟩ := t2
  obtain ⟨v, rfl, r1⟩ := rep1 r
  cases x <;> try exact (show False from t0).elim
  obtain ⟨rfl, _⟩ := t0
  obtain ⟨a, dx, vs, rfl, h1, hn, l1⟩ := obj_of kn r1
  refine ⟨a, dx, _, rfl, h1, sp_call kn xok0 (repL_cons r1 repL_nil) t3 fun v H' S' d k' s' r' t' => ?_⟩
  cases d <;> try exact (show False from t').elim
  exact ⟨_, r', q _ H' S' (.bl _) k' s' rfl t'⟩
def rReprOw (C : Addr) (sp : Sp) : List V → Hp → VK → Prop := fun xs H Q => ∃ a dx fs, xs = [.ref a] ∧ H a = some (.ins C dx fs) ∧ sp [.ref a] H (fun v H' => ∃ b : Str, v = .str b ∧ Q (.str b) H') E0
theorem call_reprOw (hu : X.A.units + 64 < cLine) (o : Hx.Own X.K C "__repr__" g) (G : FnOk X.prog X.w X.K X.mg X.base (L2.CX X.prog X.w) k g fd ps sp) (hb : Binds X.K fd ps []) (hr : Room (k + 1) X.A) : CallR X (.builtin "repr") (rReprOw C sp) := by
  intro pins s σ H xs us Q I r h
  obtain ⟨a, dx, fs, rfl, ha, q⟩ := h
  obtain ⟨u, rfl, ru⟩ := vals1 r
  obtain rfl : u = Value.ref a := ru
  obtain ⟨mA, J, _⟩ := ins_get I.hok ha
  obtain ⟨od, J, _⟩ := J.look
  obtain ⟨m, hF⟩ := I.fr
  refine PySem.W.repr_K (by show X.A.units + 1 < cLine; omega) hF I.ok.mod.kin J o.at_ o.fn (wpAny_mono (run_in1 (us := [.ref a]) (vs := [.ref a]) G hr hb I (.cons rfl .nil) q) (fun u s' hq => ?_) fun _ _ z => z)
  obtain ⟨v, H', I', rv, b, rfl, q2⟩ := hq
  obtain ⟨t, rfl⟩ := rv
  exact ⟨.str b, H', I', ⟨_, rfl⟩, q2⟩
def stR (R : D → Prop) : D → Prop
  | .str n => R (.str n)
  | _ => False
theorem w_stR {R : D → Prop} {n : Str} : stR R (.str n) = R (.str n) := rfl
def fReprOw (C : Addr) (F : Spec) : DFn
  | [x], R => asO C (fun _ _ => True) x ∧ F [x] (stR R) noX
  | _, _ => False
theorem w_fReprOw {C : Addr} {F : Spec} {x : D} {R : D → Prop} : fReprOw C F [x] R = (asO C (fun _ _ => True) x ∧ F [x] (stR R) noX) := rfl
theorem b_reprOw (hu : X.A.units + 64 < cLine) (o : Hx.Own X.K C "__repr__" g) (G : FnOk X.prog X.w X.K X.mg X.base (L2.CX X.prog X.w) k g fd ps (spD F)) (hb : Binds X.K fd ps []) (hr : Room (k + 1) X.A) : CallOk X (.builtin "repr") (fReprOw C F) := by
  refine ⟨_, call_reprOw hu o G hb hr, fun c σ H S env xs vs R kn r t Q q => ?_⟩
  match xs, t with
  | [x], t2 =>
  obtain ⟨t0, t3⟩ := t2
  obtain ⟨v, rfl, r1⟩ := rep1 r
  cases x <;> try exact (show False from t0).elim
  obtain ⟨rfl, _⟩ := t0
  obtain ⟨a, dx, vs, rfl, h1, hn, l1⟩ := obj_of kn r1
  refine ⟨a, dx, _, rfl, h1, sp_call kn xok0 (repL_cons r1 repL_nil) t3 fun v H' S' d k' s' r' t' => ?_⟩
  cases d <;> try exact (show False from t').elim
  exact ⟨_, r', q _ H' S' (.str _) k' s' rfl t'⟩
def xTruOw (C : Addr) (F : Spec) (Ta : DT) : DTT := fun env R Rx => Ta env (fun x => asO C (fun _ _ => True) x ∧ F [x] (asB R) noX) Rx
def fBool : DFn
  | [.bl b], R => R (.bl b)
  | [.int i], R => R (.bl (i != 0))
  | _, _ => False
theorem w_fBoolB {b : Bool} {R : D → Prop} : fBool [.bl b] R = R (.bl b) := rfl
theorem w_fBoolI {i : Int} {R : D → Prop} : fBool [.int i] R = R (.bl (i != 0)) := rfl
theorem b_bool : CallOk X (.type "bool") fBool := by
  refine ⟨_, call_bool1, fun c σ H S env xs vs R kn r t Q q => ?_⟩
  match xs, t with
  | [.bl b], t =>
    obtain ⟨v, rfl, r1⟩ := rep1 r
    exact .inr ⟨b, by rw [show v = V.bl b from r1], q _ H S (.bl _) kn (Same.refl S) rfl t⟩
  | [.int b], t =>
    obtain ⟨v, rfl, r1⟩ := rep1 r
    exact .inl ⟨b, by rw [show v = V.int b from r1], q _ H S (.bl _) kn (Same.refl S) rfl t⟩
end
end DL
namespace Hx
open PySem PySem.Spec L2
theorem supM_ok {K : PySem.W.Frag} {x m : Str} (h : fSup x m K = true) : DL.SupM K (He.ga K x) (He.ga K x) m (sA x m K) := by
  obtain ⟨h1, h⟩ := He.ba h
  obtain ⟨h2, h⟩ := He.ba h
  obtain ⟨h3, h⟩ := He.ba h
  obtain ⟨h4, h⟩ := He.ba h
  obtain ⟨h5, h6⟩ := He.ba h
  exact ⟨of_decide_eq_true h1, Option.isSome_iff_exists.mp h2, of_decide_eq_true h3, He.eqO_ok h4, of_decide_eq_true h5, h6⟩
theorem relB_ok {v : V} {u : Value} (h : relB v u = true) : RelV v u := by
  unfold relB at h
  split at h
  · obtain rfl := of_decide_eq_true h
    exact ⟨_, rfl⟩
  · obtain rfl := of_decide_eq_true h
    exact ⟨_, rfl⟩
  · obtain rfl := of_decide_eq_true h
    rfl
  · rfl
  · cases h
/-- the class x (or one above it) has the constant f -/
def ConV (K : PySem.W.Frag) (C : Addr) (f : Str) (v : V) : Prop := ∃ u, DL.ConI K C f u ∧ RelV v u
theorem con_ok {K : PySem.W.Frag} {x f : Str} {v : V} (h : fCon x f v K = true) : ConV K (He.ga K x) f v := by
  unfold fCon at h
  split at h
  · rename_i u e
    obtain ⟨h1, h⟩ := He.ba h
    obtain ⟨h2, h⟩ := He.ba h
    obtain ⟨h3, h4⟩ := He.ba h
    exact ⟨u, ⟨e, of_decide_eq_true h2, h3, by simpa using h4⟩, relB_ok h1⟩
  · cases h
end Hx
namespace DL
open PySem PySem.Spec L2
variable [TbC]
/-- a def that says super(): its function -/
structure Dsup (K : PySem.W.Frag) (fl x qual : Str) (st : Stmt) (D : Addr) where
  f : Addr
  cc : Addr
  cda : Addr
  fd : FuncData
  F : EXS.SupFn K fl x qual (defArgs st) (defBody st) (defScope st) D f cc cda fd
theorem Dsup.binds {K : PySem.W.Frag} {fl x qual : Str} {st : Stmt} {C : Addr} {ps : List Str} (D : Dsup K fl x qual st C)
    (h : ∀ (kV doc pm cdv ct : Value) (an : Option Addr) (cc : Addr) (us : List Value), us.length = ps.length → bindArgs (PySem.W.ksFn x qual (defArgs st) (defBody st) (defScope st) .none kV doc pm an cdv ct cc) ⟨us, []⟩ = pure (ps.zip us)) : Binds K D.fd ps [] := by
  obtain ⟨_, _, _, dV, _, _, _, _, _, _, _, _, _, _, _, _, _, _, _, e, _, _, _, _, _, _, _, e2⟩ := D.F.ex
  rw [e, e2]
  exact Binds.all (h _ _ _ _ _ _ _)
theorem FnOk_r0 {P : Program} {w : World} {K : PySem.W.Frag} {mg : Str → Option Value} {base : Heap} {CX : CXT} {k : Nat} {f : Addr} {fd : FuncData} {ps : List Str} {sp : Sp} (G : FnOk P w K mg base CX k f fd ps sp) (hb : Binds K fd ps []) : FnR P w K mg base CX k f sp := by
  have h := G.raw hb .nil
  have e : (fun vs H Q E => sp (vs ++ []) H Q E) = sp := by
    funext vs H Q E
    rw [List.append_nil]
  first
    | exact e ▸ h
    | (rw [e] at h; exact h)
theorem w_toRest {C C' : Addr} {U : List Str → List D → Prop} {ks : List Str} {xs : List D} : toRest C U (.obj C' ks xs) = (C' = C ∧ U ks xs) := rfl
theorem w_xCon {C : Addr} {f : Str} {d0 : D} {Te : DT} {env : En} {R : D → Prop} {Rx : Er → Prop} : xCon C f d0 Te env R Rx = Te env (asO C fun ks xs => fld ks xs f = none ∧ R d0) Rx := rfl
theorem w_xAlt {T U : DT} {env : En} {R : D → Prop} {Rx : Er → Prop} : xAlt T U env R Rx = (T env R Rx ∨ U env R Rx) := rfl
section
variable {X : Cx} {E : XK} {e : Expr} {f : Str} {pos : Pos} {C : Addr} {To : DT}
theorem d_conX {v0 : V} {d0 : D} (he : DE X E e To) (c : Cls X.K C) (n : Hx.ConV X.K C f v0) (hr : ∀ B S, Rep B S d0 v0) (hb : attributeBase e f X.env (eval e X.env) = eval e X.env := by rfl) : DE X E (.Attribute e f pos) (xCon C f d0 To) := by
  obtain ⟨u, n1, n2⟩ := n
  exact d_con he c n1 n2 hr hb
theorem d_conS {y : Str} (he : DE X E e To) (c : Cls X.K C) (n : Hx.ConV X.K C f (.str y)) (hb : attributeBase e f X.env (eval e X.env) = eval e X.env := by rfl) : DE X E (.Attribute e f pos) (xCon C f (.str y) To) := d_conX he c n (fun _ _ => rfl) hb
theorem d_conB {y : Bool} (he : DE X E e To) (c : Cls X.K C) (n : Hx.ConV X.K C f (.bl y)) (hb : attributeBase e f X.env (eval e X.env) = eval e X.env := by rfl) : DE X E (.Attribute e f pos) (xCon C f (.bl y) To) := d_conX he c n (fun _ _ => rfl) hb
end
end DL
namespace ENK
open PySem PySem.Spec PyProof.Rows L2
theorem wpAny_pyNext_enumK_end {prog : Program} {w : World} {A : Around} {E : Value → Shared → Prop} {s : Shared} {q j l : Addr} {i : Nat} {k : Int} {items : Array Value} {old : Value} {Q : Option Value → Shared → Prop} (h0 : A.handled = none) (z1 : IsEnum s.heap q j k old) (z2 : s.heap.IsListIter j l i) (z3 : s.heap.IsList l items) (z4 : items[i]? = none)
    (hQ : ∀ h', Heap.ExtBut j s.heap h' → Q none { s with heap := h' }) : wpAny (model prog w) A (pyNext (.ref q)) Q E s := by
  have ty : s.TypeIs (.ref q) "enumerate" := ⟨_, z1, rfl⟩
  unfold pyNext
  refine wpAny_bind (wpAny_attempt (wpAny_callSpecial?_slot (name := Str.ofString "__next__") ty F.slot_enumerate_next (wpAny_call_entry F.slot_enumerate_next ty F.entry_enumerate_next ?_ (F.args_enumerate_next_1 _))))
  show wpAny _ _ (field (.ref q) 2 >>= _) _ _ _
  refine wpAny_bind (wpAny_field z1 rfl (x := .ref j) rfl (wpAny_bind (wpAny_nextOf_list_end h0 z2 z3 z4 fun h' x e1 e2 => ?_)))
  obtain ⟨o, ho, oc⟩ := e2
  exact wpAny_bind (wpAny_isInstance (T := "StopIteration") (b := true) ⟨o, ho, oc⟩ isSubtype_stop (wpAny_pure (hQ _ e1)))
/-- the pairs of k + i and the items of the list at a -/
def IteK (K : PySem.W.Frag) (a : Addr) (k : Int) : It :=
  ⟨fun i H => ∃ (zs : List V) (y : V), SqL K H a zs ∧ zs[i]? = some y, fun i H v H' => ∃ p y, v = .ref p ∧ H p = none ∧ H' = upd H p (.tup [.int (k + (i : Nat)), y]) ∧ ∀ zs, SqL K H a zs → zs[i]? = some y, fun i H => ∃ zs : List V, SqL K H a zs ∧ zs.length ≤ i⟩
theorem turn_enumK {P : Program} {w : World} {K : PySem.W.Frag} {elts : List Expr} {kk : Nat} {tpos : Pos} (a q j : Addr) (k : Int) (items : Array Value) :
    Turn P w K (.Tuple elts kk tpos) (IteK K a k) [q, j] q (fun i h => (∃ old, IsEnum h q j (k + (i : Nat)) old) ∧ h.IsListIter j a i ∧ q ≠ j) := by
  refine ⟨by simp, fun i h st b hb => ?_, fun i h h' st kp => ?_, ?_, ?_, fun A i s Q E st hh => ?_⟩
  · obtain ⟨⟨old, z1⟩, ⟨o, z2, _, z3⟩, _⟩ := st
    simp only [List.mem_cons, List.not_mem_nil, or_false] at hb
    rcases hb with rfl | rfl
    · exact ⟨_, z1, fun v y => nomatch y⟩
    · exact ⟨o, z2, fun v y => by rw [z3] at y; cases y⟩
  · obtain ⟨⟨old, z1⟩, z2, z3⟩ := st
    exact ⟨⟨old, kp q (by simp) _ z1⟩, z2.at fun o y => kp j (by simp) o y, z3⟩
  · intro X e1 e2 e3 hc i pins s σ H E I hf st hg
    subst e1 e2 e3
    obtain ⟨⟨old, z1⟩, z2, z3⟩ := st
    obtain ⟨zs, y, hq, hy⟩ := hg
    obtain ⟨its, rv, pl, hz⟩ := I.list hq
    obtain ⟨u, hu, ru⟩ := rv.get hy
    have l1 : q < s.heap.objs.size := Heap.lt_size z1
    have l2 : j < s.heap.objs.size := by obtain ⟨_, y, _⟩ := z2; exact Heap.lt_size y
    have lv : a ≠ j := fun y => by
      obtain ⟨o1, y1, y2, y3⟩ := z2
      have pl1 := pl.isList
      obtain ⟨o2, y4, y5, _⟩ := pl1
      rw [y, y1] at y4
      cases y4
      rw [y2] at y5
      injection y5 with y6
      exact absurd y6 (by decide)
    have D := Draws.list (prog := X.prog) (w := X.w) (A := X.A.in1) (I.ok.hd hc) j a lv its.toArray
    have lt : i < its.toArray.size := by
      obtain ⟨y1, _⟩ := List.getElem?_eq_some_iff.mp hu
      simpa using y1
    have qa : q ∉ [j, a] := fun y => by
      simp only [List.mem_cons, List.not_mem_nil, or_false] at y
      rcases y with y | y
      · exact z3 y
      · have pl1 := pl.isList
        obtain ⟨o2, y4, y5, _⟩ := pl1
        rw [← y, show s.heap.get? q = _ from z1] at y4
        cases y4
        injection y5 with y6
        exact absurd y6 (by decide)
    refine wpAny_pyNext_enum_itemC D z1 ⟨z2, pl.isList⟩ lt z3 qa fun x h' tk hx ho hit hT hsz hk => ?_
    have hx2 : x = u := by
      have y1 : its.toArray[i]? = some x := hx
      rw [List.getElem?_toArray, hu] at y1
      exact (Option.some.inj y1).symm
    subst hx2
    refine ⟨_, rfl, wpAny_letOwnedTupleGo_enum (s := { s with heap := h', toks := tk + 1 }) ho fun h'' he' sb => ?_⟩
    have t2 : h''.get? s.heap.objs.size = some { cls := .type "tuple", data := .seq #[.int (k + (i : Nat)) tk, x] } := (sb.2 _ (Nat.ne_of_gt l1)).trans hT
    have nw : ObjOk X.prog X.w (upd H s.heap.objs.size (.tup [.int (k + (i : Nat)), y])) h'' s.heap.objs.size (.tup [.int (k + (i : Nat)), y]) :=
      ⟨by show 2 ≤ sizeLine; decide, [.int (k + (i : Nat)) tk, x], .cons ⟨_, rfl⟩ (.cons ru .nil), ⟨_, t2, rfl, _, rfl⟩⟩
    have I1 : Inv X pins σ (upd H s.heap.objs.size (.tup [.int (k + (i : Nat)), y])) { s with heap := h'', toks := tk + 1 } :=
      I.turnedNew (ch := [q, j]) (fun b ob hb e => (sb.2 b (fun z => hb (by simp [z]))).trans (hk b ob (fun z => hb (by simp [z])) (fun z => hb (by simp [z])) e)) hf (Nat.le_refl _) nw
    refine ⟨.ref s.heap.objs.size, _, I1, rfl, ⟨_, y, rfl, I.hok.fresh (Nat.le_refl _), rfl, fun ys h1 => by rw [I.list_inj h1 hq]; exact hy⟩, ⟨⟨x, ?_⟩, hit.1.at fun o e => (sb.2 j (Ne.symm z3)).trans e, z3⟩, fun b hb => ?_⟩
    · have e1 : (k + ((i + 1 : Nat) : Int)) = k + (i : Int) + 1 := by omega
      rw [e1]
      exact he'
    · have hb2 : b < s.heap.objs.size := by
        simp only [List.mem_cons, List.not_mem_nil, or_false] at hb
        rcases hb with rfl | rfl
        · exact l1
        · exact l2
      rw [upd_ne (Nat.ne_of_lt hb2)]
      exact (hf b hb).1
  · intro X e1 e2 e3 hc i pins s σ H E I hf st hg
    subst e1 e2 e3
    obtain ⟨⟨old, z1⟩, z2, z3⟩ := st
    obtain ⟨zs, hq, hx⟩ := hg
    obtain ⟨its, rv, pl, hz⟩ := I.list hq
    obtain ⟨f0, f1, f2, f3, f4, f5⟩ := hf j (by simp)
    have hl := rv.length
    have lv : a ≠ j := fun y => by
      obtain ⟨o1, y1, y2, y3⟩ := z2
      have pl1 := pl.isList
      obtain ⟨o2, y4, y5, _⟩ := pl1
      rw [y, y1] at y4
      cases y4
      rw [y2] at y5
      injection y5 with y6
      exact absurd y6 (by decide)
    refine wpAny_pyNext_enumK_end (l := a) (items := its.toArray) (I.ok.hd hc) z1 z2 pl.isList (by simp; omega) fun h' eb => ⟨rfl, I.turned (t' := s.toks) (fun b o hb e => eb b o hb e) f0 f1 f3 f4 f5⟩
  · obtain ⟨⟨_, z1⟩, _⟩ := st
    exact wpAny_pyIter_enum z1 hh
/-- a built-in class called with keywords -/
theorem callWith_typeKW {M : Model} {A : Around} {E : Value → Shared → Prop} {s : Shared} {env : Env} {pos : Pos} {T : String} {e : Expr} {es : List Expr} {kws : List Keyword} {Q : Value → Shared → Prop}
    (h : wpAny M A (spliced (backTo pos (starEach (e :: es) env))) (fun vs s₁ => wpAny M A (evalAll ((backToKw pos (keywordEach kws env)).map (·.2))) (fun zs s₂ => wpAny M A (call (.type T) vs (((backToKw pos (keywordEach kws env)).filterMap (·.1)).zip zs)) Q E s₂) E s₁) E s)
    (he : backTo pos (starEach (e :: es) env) = (false, eval e env) :: backTo pos (starEach es env)) (h1 : (backToKw pos (keywordEach kws env)).all (·.1.isSome) = true)
    (h3 : ((backTo pos (starEach (e :: es) env)).any (·.1) || (backToKw pos (keywordEach kws env)).any (·.1.isNone)) = false) :
    wpAny M A (callWith pos (.type T) [] (backTo pos (starEach (e :: es) env)) (backToKw pos (keywordEach kws env))) Q E s := by
  have h2 : wpAny M A (evalArgs (.type T) true (backTo pos (starEach (e :: es) env)) (backToKw pos (keywordEach kws env))) (fun a s₁ => wpAny M A (call (.type T) ([] ++ a.pos) a.kw) Q E s₁) E s := by
    rw [he] at h ⊢
    exact evalArgs_kwB h1 h
  unfold callWith
  refine wpAny_bind (wpAny_holding (wpAny_mono h2 (fun a s₁ y => wpAny_bind (wpAny_standAt ?_)) fun _ _ z => z))
  simp only [h3]
  refine wpAny_bind (wpAny_pure ?_)
  exact wpAny_bind (wpAny_mono y (fun r s₂ hr => wpAny_bind (wpAny_holding (wpAny_point (wpAny_pure hr)))) fun _ _ z => z)
def iEnumK (K : PySem.W.Frag) (ta tk : TA) : TI := fun σ H R => ta σ H fun vs H1 => tk σ H1 fun ws H2 => ∃ (a : Addr) (xs : List V) (k : Int), vs = [.ref a] ∧ ws = [.int k] ∧ -(2 ^ 63) ≤ k ∧ k < 2 ^ 63 ∧ SqL K H2 a xs ∧ R (IteK K a k) H2
theorem pi_enumK {X : Cx} {e e2 : Expr} {ta tk : TA} {p pos tpos kp : Pos} {elts : List Expr} {kk : Nat} (hg : Gl X "enumerate") (hm : X.mg "enumerate" = none) (ha : PA X [e] ta) (hk : PK X [⟨some "start", e2, kp⟩] tk)
    (hs : backTo pos (starEach [e] X.env) = (false, eval e X.env) :: backTo pos (starEach [] X.env) := by rfl) (h1 : (backToKw pos (keywordEach [⟨some "start", e2, kp⟩] X.env)).all (·.1.isSome) = true := by rfl) (h2 : (backToKw pos (keywordEach [⟨some "start", e2, kp⟩] X.env)).filterMap (·.1) = [("start" : Str)] := by rfl)
    (h3 : ((backTo pos (starEach [e] X.env)).any (·.1) || (backToKw pos (keywordEach [⟨some "start", e2, kp⟩] X.env)).any (·.1.isNone)) = false := by rfl) :
    PI X (.Tuple elts kk tpos) (.Call (.Name "enumerate" p) [e] [⟨some "start", e2, kp⟩] pos) (iEnumK X.K ta tk) := by
  refine ⟨fun pins s σ H R I h => ?_⟩
  refine wpAny_Call_Name_kw (ld_blt I hg hm boot_enumerate (callWith_typeKW ?_ hs h1 h3))
  refine thn (ha.run pos pins s σ H _ I h) fun us s1 ⟨vs, H1, I1, r1, q1⟩ => thn (hk.run pos pins s1 σ H1 _ I1 q1) fun ws s2 ⟨zs, H2, I2, rz, a, xs, k, ev, ez, k0, k1, hq, q⟩ => ?_
  subst ev ez
  obtain rfl := Vals.ref1 r1
  obtain ⟨u2, rfl, tt, rfl⟩ := vals1 rz
  rw [h2]
  obtain ⟨its, rv, pl, hz⟩ := I2.list hq
  show wpAny _ _ (call (.type "enumerate") [.ref a] [(("start" : Str), .int k tt)]) _ _ _
  refine enum_begins_start (begins_list a its.toArray) pl.isList k0 k1 fun h' he hit hsz hkp => wpAny_pyIter_enum he ?_
  have I3 : Inv X pins σ H2 { s2 with heap := h' } := I2.kept (t' := s2.toks) hkp
  have ha2 : a < s2.heap.objs.size := by
    have pl1 := pl.isList
    obtain ⟨o, y, _⟩ := pl1
    exact Heap.lt_size y
  refine ⟨s2.heap.objs.size + 1, [s2.heap.objs.size + 1, s2.heap.objs.size], _, _, H2, rfl, I3, turn_enumK a (s2.heap.objs.size + 1) s2.heap.objs.size k its.toArray, ⟨⟨.none, by simpa using he⟩, ⟨_, hit, rfl, rfl⟩, Nat.succ_ne_self _⟩, fun b hb => ?_, q⟩
  have lb : s2.heap.objs.size ≤ b := by
    simp only [List.mem_cons, List.not_mem_nil, or_false] at hb
    rcases hb with rfl | rfl
    · exact Nat.le_succ _
    · exact Nat.le_refl _
  exact I2.fpOk lb (I2.hok.fresh lb)
end ENK
namespace DL
open PySem PySem.Spec L2
variable [TbC]
theorem iteK_ok {B : Option Addr} {K : PySem.W.Frag} {S : Hp} {a : Addr} {vs : List V} {xs : List D} {m : Int} (h : S a = some (.lst vs)) (l : RepL B S xs vs) : ItOk B (ENK.IteK K a m) S (nums m xs) := fun c hB i σ H S1 env k s => by
  subst hB
  have hH : H a = some (.lst vs) := k.kf.sub _ _ (s _ _ h)
  refine ⟨fun d e => ?_, fun hl => ⟨vs, SqL.of hH, by have := l.length; rw [nums_length] at hl; omega⟩⟩
  obtain ⟨x, ex, rfl⟩ := nums_get _ _ _ _ e
  obtain ⟨v, ev, r⟩ := l.get ex
  refine ⟨⟨vs, v, SqL.of hH, ev⟩, fun z H' yl => ?_⟩
  obtain ⟨q, x', rfl, hT, rfl, hx⟩ := yl
  have e1 := hx vs (SqL.of hH)
  rw [ev] at e1
  cases e1
  obtain ⟨k', s', r'⟩ := put_tup (ds := [.int (m + i), x]) k (repL_cons rfl (repL_cons (rep_mono s _ _ r) repL_nil)) hT
  exact ⟨_, k', s', r'⟩
section
variable {X : Cx} {E : XK} {a : Expr} {p pos : Pos} {Tl Tk : DTA}
def fEnumK (R : List D → Prop) (ds : List D) : List D → Prop
  | [.int k] => match ds with
    | [.lst xs] => -(2 ^ 63) ≤ k ∧ k < 2 ^ 63 ∧ R (nums k xs)
    | _ => False
  | _ => False
def xEnumK (Tl Tk : DTA) : DTI := fun env R Rx => Tl env (fun ds => Tk env (fun es => fEnumK R ds es) Rx) Rx
theorem w_xEnumK {Tl Tk : DTA} {env : En} {R : List D → Prop} {Rx : Er → Prop} : xEnumK Tl Tk env R Rx = Tl env (fun ds => Tk env (fun es => fEnumK R ds es) Rx) Rx := rfl
theorem w_fEnumK {R : List D → Prop} {xs : List D} {k : Int} : fEnumK R [.lst xs] [.int k] = (-(2 ^ 63) ≤ k ∧ k < 2 ^ 63 ∧ R (nums k xs)) := rfl
theorem i_enumK {e2 : Expr} {kp tpos : Pos} {elts : List Expr} {kk : Nat} (ha : DA X E [a] Tl) (hk : DK X E [⟨some "start", e2, kp⟩] Tk) (hm : X.mg "enumerate" = none) (hg : Gl X "enumerate" := by rfl)
    (hs : backTo pos (starEach [a] X.env) = (false, eval a X.env) :: backTo pos (starEach [] X.env) := by rfl) (h1 : (backToKw pos (keywordEach [⟨some "start", e2, kp⟩] X.env)).all (·.1.isSome) = true := by rfl) (h2 : (backToKw pos (keywordEach [⟨some "start", e2, kp⟩] X.env)).filterMap (·.1) = [("start" : Str)] := by rfl)
    (h3 : ((backTo pos (starEach [a] X.env)).any (·.1) || (backToKw pos (keywordEach [⟨some "start", e2, kp⟩] X.env)).any (·.1.isNone)) = false := by rfl) :
    DI X E (.Tuple elts kk tpos) (.Call (.Name "enumerate" p) [a] [⟨some "start", e2, kp⟩] pos) (xEnumK Tl Tk) := by
  obtain ⟨t, pa, s⟩ := ha
  obtain ⟨tk, pk, sk⟩ := hk
  refine ⟨_, ENK.pi_enumK hg hm pa pk hs h1 h2 h3, fun c σ H S env R Rx x k t Rr q => s c σ H S env _ Rx x k t _ fun vs H1 S1 ds k1 s1 r1 t1 => sk c σ H1 S1 env _ Rx x k1 t1 _ fun ws H2 S2 es k2 s2 r2 t2 => ?_⟩
  unfold fEnumK at t2
  split at t2 <;> try exact t2.elim
  split at t2 <;> try exact t2.elim
  obtain ⟨b0, b1, t2⟩ := t2
  obtain ⟨v, rfl, r3⟩ := rep1 (repL_mono s2 _ _ r1)
  obtain ⟨u, rfl, r4⟩ := rep1 r2
  obtain ⟨a, us, rfl, h1, hS, l⟩ := lst_of k2 r3
  exact ⟨a, us, _, rfl, by rw [show u = V.int _ from r4], b0, b1, SqL.of h1, q _ H2 S2 _ k2 (s1.trans s2) (iteK_ok hS l) t2⟩
end
end DL
namespace DL
open PySem PySem.Spec L2 PyProof.Rows
variable [TbC]
theorem truth_intsD {prog : Program} {w : World} {A : Around} {ns : List Int} {its : List Value} (h : Vals (ns.map V.int) its) :
    TruthOf prog w A (fun i v => its.toArray[i]? = some v) (fun i => (ns.map fun n => n != 0).getD i false) := fun i v s Q E hv hq => by
  have h1 : its[i]? = some v := by simpa using hv
  obtain ⟨y, hy, ry⟩ : ∃ y, (ns.map V.int)[i]? = some y ∧ RelV y v := by
    obtain ⟨hi, e⟩ := List.getElem?_eq_some_iff.mp h1
    have hl := h.length
    rw [List.length_map] at hl
    have h2 : (ns.map V.int)[i]? = some (.int (ns[i]'(by omega))) := by simp [List.getElem?_map, List.getElem?_eq_getElem (show i < ns.length by omega)]
    obtain ⟨u, hu, ru⟩ := h.get h2
    rw [h1] at hu
    cases hu
    exact ⟨_, h2, ru⟩
  rw [List.getElem?_map] at hy
  obtain ⟨n, hn, rfl⟩ := Option.map_eq_some_iff.mp hy
  obtain ⟨t, rfl⟩ := ry
  have e2 : (ns.map fun n => n != 0).getD i false = (n != 0) := by rw [List.getD, List.getElem?_map, hn]; rfl
  have hq2 : Q ((ns.map fun n => n != 0).getD i false) s := hq
  rw [e2] at hq2
  exact PySem.P.truthy_int hq2
section
variable {X : Cx}
def rAnyI (K : PySem.W.Frag) : List V → Hp → VK → Prop := fun vs H Q => ∃ (a : Addr) (ns : List Int), vs = [V.ref a] ∧ (SqL K H a (ns.map V.int) ∨ SqT K H a (ns.map V.int)) ∧ Q (.bl (ns.any fun n => n != 0)) H
theorem cr_anyI (hc : X.calm = true) : CallR X (.builtin "any") (rAnyI X.K) := by
  intro pins s σ H vs us Q I r h
  obtain ⟨a, ns, rfl, hs, q⟩ := h
  rw [Vals.ref1 r]
  have eq : ∀ m : Nat, m = ns.length → (List.range m).any (fun i => (ns.map fun n => n != 0).getD i false) = ns.any fun n => n != 0 := fun m hm => by
    have := L2.any_range (ns.map fun n => n != 0)
    rw [List.length_map] at this
    rw [hm, this, List.any_map]
    rfl
  rcases hs with hs | hs
  · obtain ⟨its, rv, hl, _⟩ := I.list hs
    have hn : its.toArray.size = ns.length := by rw [List.size_toArray, ← rv.length, List.length_map]
    refine call_any_walk (iter_any hl.isList fun s₂ e2 st hne => ?_)
    subst e2
    refine ⟨_, _, _, _, _, _, _, rfl, Walks.list (A := X.A.in1) (I.ok.hd hc) _ a hne its.toArray, st, truth_intsD rv, fun h' tk hk => ?_⟩
    refine ⟨.bl _, H, I.kept fun b o eo => hk b o (fun hmem => ?_) (Heap.get?_push_of_some _ eo), ?_, q⟩
    · rcases List.mem_cons.mp hmem with e1 | hmem
      · exact absurd (e1 ▸ Heap.lt_size eo) (Nat.lt_irrefl _)
      · cases hmem
    · show Value.bool _ = Value.bool _
      rw [eq _ hn]
  · obtain ⟨its, rv, ⟨oT, eT, cT, nT, dT⟩, _⟩ := I.tuple hs
    have hn : its.toArray.size = ns.length := by rw [List.size_toArray, ← rv.length, List.length_map]
    have ht : s.heap.IsTuple a its.toArray := ⟨oT, eT, cT, nT, dT⟩
    have hlt : a < s.heap.objs.size := Heap.lt_size eT
    refine call_any_walk (wpAny_pyIter_tuple ht ?_)
    refine ⟨_, _, _, _, _, _, _, rfl, Walks.tuple (A := X.A.in1) (I.ok.hd hc) _ a (Nat.ne_of_lt hlt) its.toArray, ⟨⟨_, Heap.get?_push_size _ rfl, rfl, rfl⟩, ht.at fun o e => Heap.get?_push_of_some _ e⟩, truth_intsD rv, fun h' tk hk => ?_⟩
    refine ⟨.bl _, H, I.kept fun b o eo => hk b o (fun hmem => ?_) (Heap.get?_push_of_some _ eo), ?_, q⟩
    · rcases List.mem_cons.mp hmem with e1 | hmem
      · exact absurd (e1 ▸ Heap.lt_size eo) (Nat.lt_irrefl _)
      · cases hmem
    · show Value.bool _ = Value.bool _
      rw [eq _ hn]
def fAnyI : DFn
  | [.lst xs], R => ∃ ns, asInts xs = some ns ∧ R (.bl (ns.any fun n => n != 0))
  | [.tup xs], R => ∃ ns, asInts xs = some ns ∧ R (.bl (ns.any fun n => n != 0))
  | _, _ => False
theorem w_fAnyI {xs : List D} {R : D → Prop} : fAnyI [.lst xs] R = ∃ ns, asInts xs = some ns ∧ R (.bl (ns.any fun n => n != 0)) := rfl
theorem w_fAnyIT {xs : List D} {R : D → Prop} : fAnyI [.tup xs] R = ∃ ns, asInts xs = some ns ∧ R (.bl (ns.any fun n => n != 0)) := rfl
theorem b_anyI (hc : X.calm = true) : CallOk X (.builtin "any") fAnyI := by
  refine ⟨_, cr_anyI hc, fun c σ H S env xs vs R k r t Q q => ?_⟩
  match xs, t with
  | [.lst xs], t =>
    obtain ⟨ns, e, t⟩ := t
    obtain ⟨v, rfl, r1⟩ := rep1 r
    obtain ⟨a, vs, rfl, h1, _, l1⟩ := lst_of k r1
    rw [asInts_eq e] at l1
    rw [l1.ints] at h1
    exact ⟨a, ns, rfl, .inl (SqL.of h1), q _ H S (.bl _) k (Same.refl S) rfl t⟩
  | [.tup xs], t =>
    obtain ⟨ns, e, t⟩ := t
    obtain ⟨v, rfl, r1⟩ := rep1 r
    obtain ⟨a, vs, rfl, h1, _, l1⟩ := tup_of k r1
    rw [asInts_eq e] at l1
    rw [l1.ints] at h1
    exact ⟨a, ns, rfl, .inr (SqT.of h1), q _ H S (.bl _) k (Same.refl S) rfl t⟩
end
end DL
namespace DL
open PySem PySem.Spec L2 PyProof.Rows
variable [TbC]
theorem met_nodup (f : Nat → Int) : ∀ i, (firstMet f i).Nodup
  | 0 => List.nodup_nil
  | i + 1 => by
    have ih := met_nodup f i
    rw [firstMet_succ]
    unfold step_dedup
    split
    · exact ih
    · rename_i z
      rw [List.nodup_append]
      refine ⟨ih, by simp, fun a ha b hb e => z ?_⟩
      rw [List.mem_singleton] at hb
      subst e hb
      exact List.any_eq_true.mpr ⟨_, ha, beq_self_eq_true _⟩
theorem met_mem (ns : List Int) (k : Int) : k ∈ firstMet (fun i => ns.getD i 0) ns.length ↔ k ∈ ns := by
  have h := firstMet_any (fun i => ns.getD i 0) ns.length k
  have e : (List.range ns.length).map (fun i => ns.getD i 0) = ns := by
    apply List.ext_getElem?
    intro i
    by_cases hi : i < ns.length
    · rw [List.getElem?_map, List.getElem?_range hi]
      simp [List.getD, hi]
    · rw [List.getElem?_eq_none (by simp; omega), List.getElem?_eq_none (by omega)]
  rw [e] at h
  have m : ∀ l : List Int, l.any (· == k) = true ↔ k ∈ l := fun l => by
    rw [List.any_eq_true]
    constructor
    · rintro ⟨x, hx, e⟩
      rw [beq_iff_eq] at e
      exact e ▸ hx
    · exact fun hx => ⟨k, hx, beq_self_eq_true _⟩
  rw [← m, ← m, h]
def tLenSetL (K : PySem.W.Frag) (ta : TE) : TE := fun σ H Q => ta σ H fun x H1 => ∃ (l : Addr) (ns : List Int), x = .ref l ∧ SqL K H1 l (ns.map V.int) ∧ ns.length ≤ 60 ∧ ∀ out : List Int, out.Nodup → (∀ k, k ∈ out ↔ k ∈ ns) → Q (.int (out.length : Nat)) H1
theorem pe_lenSetL {X : Cx} {a : Expr} {ta : TE} {p p2 q pos : Pos} (hg : Gl X "len") (hm : X.mg "len" = none) (hg2 : Gl X "set") (hm2 : X.mg "set" = none) (ha : PE X a ta) (hc : X.calm = true := by rfl)
    (na : starEach [a] X.env = (false, eval a X.env) :: starEach [] X.env := by rfl) : PE X (.Call (.Name "len" p) [.Call (.Name "set" p2) [a] [] q] [] pos) (tLenSetL X.K ta) := by
  refine ⟨fun pins s σ H Q I h => ?_⟩
  refine Call_ (ld_blt I hg hm boot_len (callWith_builtin1 (args_cons ?_ rfl) rfl rfl))
  refine Call_ (ld_blt I hg2 hm2 boot_set (callWith_type1 (args_cons (thn (ha.run pins s σ H _ I h) fun v s1 ⟨x, H1, I1, r1, q1⟩ => args_nil ?_) na) na rfl))
  obtain ⟨l, ns, rfl, hq, hl, q1⟩ := q1
  cases r1
  obtain ⟨its, r, pl, _⟩ := I1.list hq
  have hn : its.toArray.size = ns.length := by rw [List.size_toArray, ← r.length, List.length_map]
  refine call_set_list (ns := ns) (I1.ok.hd hc) pl.isList (by simpa using RZ.intsAre_vals r) (by rw [hn]; unfold scanBound; omega) fun h' tk hS hk => ?_
  refine args_nil ?_
  rw [hn] at hS
  obtain ⟨o, es, ep, t, ho, hex, hd, _, _, hsb, hf, hz⟩ := hS
  have I2 : Inv X pins σ H1 { s1 with heap := h', toks := tk } := I1.kept fun b o e => hk b o (Heap.lt_size e) e
  have q2 := q1 _ (met_nodup (fun i => ns.getD i 0) ns.length) (met_mem ns)
  rw [← hz] at q2
  exact call_len_set ho hex hd hf (by unfold scanBound at hsb; omega) ⟨.int es.size, H1, I2.tok _, ⟨_, rfl⟩, q2⟩
def fLenSetL (R : D → Prop) : D → Prop
  | .lst xs => ∃ ns, asInts xs = some ns ∧ ns.length ≤ 60 ∧ ∀ out : List Int, out.Nodup → (∀ k, k ∈ out ↔ k ∈ ns) → R (.int (out.length : Nat))
  | _ => False
def xLenSetL (Ta : DT) : DT := fun env R Rx => Ta env (fLenSetL R) Rx
theorem w_xLenSetL {Ta : DT} {env : En} {R : D → Prop} {Rx : Er → Prop} : xLenSetL Ta env R Rx = Ta env (fLenSetL R) Rx := rfl
theorem w_fLenSetL {xs : List D} {R : D → Prop} : fLenSetL R (.lst xs) = ∃ ns, asInts xs = some ns ∧ ns.length ≤ 60 ∧ ∀ out : List Int, out.Nodup → (∀ k, k ∈ out ↔ k ∈ ns) → R (.int (out.length : Nat)) := rfl
theorem d_lenSetL {X : Cx} {E : XK} {a : Expr} {Ta : DT} {p p2 q pos : Pos} (ha : DE X E a Ta) (hm : X.mg "len" = none) (hm2 : X.mg "set" = none) (hc : X.calm = true := by rfl) (hg : Gl X "len" := by rfl) (hg2 : Gl X "set" := by rfl)
    (na : starEach [a] X.env = (false, eval a X.env) :: starEach [] X.env := by rfl) : DE X E (.Call (.Name "len" p) [.Call (.Name "set" p2) [a] [] q] [] pos) (xLenSetL Ta) := by
  obtain ⟨t, pe, sm⟩ := ha
  refine ⟨_, pe_lenSetL hg hm hg2 hm2 pe hc na, fun c σ H S env R Rx x k h Q qq => sm c σ H S env _ Rx x k h _ fun v H1 S1 d k1 s1 r1 t1 => ?_⟩
  cases d <;> try exact (show False from t1).elim
  obtain ⟨ns, e, hl, hR⟩ := t1
  obtain ⟨l, vs, rfl, h1, _, r⟩ := lst_of k1 r1
  rw [asInts_eq e] at r
  rw [r.ints] at h1
  exact ⟨l, ns, rfl, SqL.of h1, hl, fun out h2 h3 => qq _ H1 S1 (.int _) k1 s1 rfl (hR out h2 h3)⟩
end DL
namespace DL
open PySem PySem.Spec L2
variable [TbC]
def xItAlt (T U : DTI) : DTI := fun env R Rx => T env R Rx ∨ U env R Rx
theorem w_xItAlt {T U : DTI} {env : En} {R : List D → Prop} {Rx : Er → Prop} : xItAlt T U env R Rx = (T env R Rx ∨ U env R Rx) := rfl
theorem i_alt {X : Cx} {E : XK} {tg e : Expr} {T U : DTI} (h : DI X E tg e T) (h2 : DI X E tg e U) : DI X E tg e (xItAlt T U) := by
  obtain ⟨t, p, s⟩ := h
  obtain ⟨t2, p2, s2⟩ := h2
  refine ⟨fun σ H Q => t σ H Q ∨ t2 σ H Q, ⟨fun pins s0 σ H Q I q => ?_⟩, fun c σ H S env R Rx x k q Q hq => ?_⟩
  · rcases q with q | q
    · exact p.run pins s0 σ H Q I q
    · exact p2.run pins s0 σ H Q I q
  · rcases q with q | q
    · exact .inl (s c σ H S env R Rx x k q Q hq)
    · exact .inr (s2 c σ H S env R Rx x k q Q hq)
end DL
namespace DL
open PySem PySem.Spec L2
theorem tlen {i : Int} (h : i.natAbs.log2 < 1920) : ((toString i : String) : Str).length ≤ 1930 := by
  have e := int_text_length_le (k := 1920) (by decide) h
  show (Str.ofString (toString i)).length ≤ 1930
  rw [ofString_length]
  omega
end DL
namespace DL
open PySem PySem.Spec L2
variable [TbC]
theorem fIsiO_same {C a : Addr} {ks : List Str} {xs : List D} {R : D → Prop} : fIsiO C [.obj C ks xs, .adr a] R = (a = C ∧ R (.bl true)) := by
  unfold fIsiO
  simp [isO]
end DL
namespace DL
open PySem PySem.Spec L2
variable [TbC]
def xMakeK (F : Spec) (m : Nat) (idx : List Nat) (Tk : DTA) : DT := fun env R Rx => Tk env (fun zs => zs.length = m ∧ F (gPerm 0 m idx [] zs) R Rx) Rx
theorem w_xMakeK {F : Spec} {m : Nat} {idx : List Nat} {Tk : DTA} {env : En} {R : D → Prop} {Rx : Er → Prop} : xMakeK F m idx Tk env R Rx = Tk env (fun zs => zs.length = m ∧ F (gPerm 0 m idx [] zs) R Rx) Rx := rfl
end DL
namespace DL
open PySem PySem.Spec L2
variable [TbC]
section
variable {X : Cx} {E : XK} {e : Expr} {T U : DTT}
def xAltT (T U : DTT) : DTT := fun env R Rx => T env R Rx ∨ U env R Rx
theorem w_xAltT {T U : DTT} {env : En} {R : Bool → Prop} {Rx : Er → Prop} : xAltT T U env R Rx = (T env R Rx ∨ U env R Rx) := rfl
theorem w_xTruOw {C : Addr} {F : Spec} {Ta : DT} {env : En} {R : Bool → Prop} {Rx : Er → Prop} : xTruOw C F Ta env R Rx = Ta env (fun x => asO C (fun _ _ => True) x ∧ F [x] (asB R) noX) Rx := rfl
end
end DL
namespace DL
open PySem PySem.Spec L2
variable [TbC]
theorem w_valE_nil : valE [] = [] := rfl
theorem w_valE_val {d : D} {l : En} : valE (some (.val d) :: l) = some (.val d) :: valE l := rfl
theorem w_valE_own {xs : List D} {l : En} : valE (some (.own xs) :: l) = none :: valE l := rfl
theorem w_valE_tre {t : T} {as : List Addr} {l : En} : valE (some (.tre t as) :: l) = none :: valE l := rfl
theorem w_valE_none {l : En} : valE (none :: l) = none :: valE l := rfl
/-- addresses known to nobody else -/
def New (c : Fm) (σ : St) (S : Hp) (env : En) (as : List Addr) : Prop := ∀ a ∈ as, S a = none ∧ c.H0 a = none ∧ Free σ env a
section
variable {c : Fm} {σ : St} {H H' S S' : Hp} {env : En} {as bs : List Addr} {t : T} {ts : List T} {v : V} {vs : List V} {i : Nat}
theorem New.nil : New c σ S env [] := fun a m => nomatch m
theorem Kn.frzT (k : Kn c σ H S env) (q : New c σ S env as) : Kn c σ H (frzS as H S) env ∧ Same S (frzS as H S) := by
  have s := frzS_same (H := H) fun a m => (q a m).1
  refine ⟨⟨k.kf.frzT fun a m => ⟨(q a m).1, (q a m).2.1⟩, k.len, fun j x e => ?_, k.apart⟩, s⟩
  obtain ⟨u, eu, r⟩ := k.sl j x e
  refine ⟨u, eu, r.keep rfl s fun a fa => ?_⟩
  obtain ⟨f1, f2, _⟩ := r.foot a fa
  exact ⟨by rw [frzS_out fun z => (q a z).2.2 j x u e eu fa]; exact f1, f2, fun _ e => e⟩
/-- what stood at H stands behind what the frame at H has done -/
theorem New.keep (k : Kn c σ H S env) (k' : Kf (c.at H S) H' S') (q : New c σ S env as) (mu : ∀ a ∈ as, Mu (H a)) : New c σ S' env as ∧ ∀ a ∈ as, ∀ o, H a = some o → H' a = some o :=
  ⟨fun a m => ⟨k'.new a (q a m).1 (mu a m), (q a m).2.1, (q a m).2.2⟩, fun a m o e => k'.old a o e (k.kf.x_ne0 (q a m).2.1)⟩
theorem New.app (q1 : New c σ S env as) (q2 : New c σ S env bs) : New c σ S env (as ++ bs) := fun a m => by
  rcases List.mem_append.mp m with m | m
  · exact q1 a m
  · exact q2 a m
end
def SmU (E : XK) (t : TE) (T : DT) : Prop := ∀ (c : Fm) (σ : St) (H S : Hp) (env : En) (R : D → Prop) (Rx : Er → Prop), XOk c E Rx → Kn c σ H S env → T env R Rx →
  ∀ Q : VK, (∀ v H' S' as d, Kn c σ H' S' env → Same S S' → RepT c.B S' H' d.tr v as → as.Nodup → New c σ S' env as → R d → Q v H') → t σ H Q
def DU (X : Cx) (E : XK) (e : Expr) (T : DT) : Prop := ∃ t, PE X e t ∧ SmU E t T
def SmUA (E : XK) (t : L2.TA) (T : DTA) : Prop := ∀ (c : Fm) (σ : St) (H S : Hp) (env : En) (R : List D → Prop) (Rx : Er → Prop), XOk c E Rx → Kn c σ H S env → T env R Rx →
  ∀ Q : List V → Hp → Prop, (∀ vs H' S' as ds, Kn c σ H' S' env → Same S S' → RepTL c.B S' H' (D.trs ds) vs as → as.Nodup → New c σ S' env as → R ds → Q vs H') → t σ H Q
def DUA (X : Cx) (E : XK) (es : List Expr) (T : DTA) : Prop := ∃ t, PA X es t ∧ SmUA E t T
/-- flat data are trees without lists -/
theorem flat_tr {B : Option Addr} {S S' H : Hp} {d : D} {v : V} (h : d.flat = true) (r : Rep B S d v) : RepT B S' H d.tr v [] := by
  have : d.tr = .dat d := by cases d <;> first | rfl | exact (Bool.false_ne_true h).elim
  rw [this, RepT]
  exact ⟨flat_rep h r, rfl⟩
theorem flat_trs {B : Option Addr} {S S' H : Hp} : ∀ {ds : List D} {vs : List V}, flatL ds = true → RepL B S ds vs → RepTL B S' H (D.trs ds) vs []
  | [], vs, _, r => by
    rw [repL_nil_of r, D.trs, RepTL]
    exact ⟨rfl, rfl⟩
  | d :: ds, vs, h, r => by
    obtain ⟨v, ws, rfl, r1, l⟩ := repL_cons_of r
    have h : (d.flat && flatL ds) = true := h
    rw [Bool.and_eq_true] at h
    rw [D.trs, RepTL]
    exact ⟨v, ws, [], [], rfl, flat_tr h.1 r1, flat_trs h.2 l, rfl⟩
theorem RepTL.app {B : Option Addr} {S H : Hp} {us : List T} {ws : List V} {bs : List Addr} : ∀ {ts : List T} {vs : List V} {as : List Addr}, RepTL B S H ts vs as → RepTL B S H us ws bs → RepTL B S H (ts ++ us) (vs ++ ws) (as ++ bs)
  | [], vs, as, r, q => by
    rw [RepTL] at r
    rw [r.1, r.2]
    exact q
  | t :: ts, vs, as, r, q => by
    rw [RepTL] at r
    obtain ⟨v, us2, b1, b2, rfl, r1, r2, rfl⟩ := r
    rw [List.cons_append, RepTL]
    exact ⟨v, us2 ++ ws, b1, b2 ++ bs, rfl, r1, RepTL.app r2 q, by rw [List.append_assoc]⟩
theorem RepTL.len {B : Option Addr} {S H : Hp} : ∀ {ts : List T} {vs : List V} {as : List Addr}, RepTL B S H ts vs as → vs.length = ts.length
  | [], vs, as, r => by
    rw [RepTL] at r
    rw [r.1]
    rfl
  | t :: ts, vs, as, r => by
    rw [RepTL] at r
    obtain ⟨v, us2, b1, b2, rfl, r1, r2, rfl⟩ := r
    rw [List.length_cons, List.length_cons, RepTL.len r2]
section
variable {X : Cx} {E : XK} {e a b : Expr} {es : List Expr} {T Ta Tb : DT} {TF : DTF} {Tl : DTA} {p pos : Pos}
theorem sm_ofU {t : TE} (s : SmU E t T) : Sm E t T := fun c σ H S env R Rx x k h Q q => s c σ H S env R Rx x k h Q fun v H1 S1 as d k1 s1 r n g t1 => by
  obtain ⟨k2, s2⟩ := k1.frzT g
  have := repT_frz r fun a m => (g a m).1
  rw [tr_d] at this
  exact q v H1 _ d k2 (s1.trans s2) this t1
theorem d_ofU (h : DU X E e T) : DE X E e T := by
  obtain ⟨t, p, s⟩ := h
  exact ⟨t, p, sm_ofU s⟩
theorem u_flat (h : DE X E e T) : DU X E e (xFl T) := by
  obtain ⟨t, p, s⟩ := h
  exact ⟨t, p, fun c σ H S env R Rx x k h Q q => s c σ H S env _ Rx x k h Q fun v H1 S1 d k1 s1 r t1 => q v H1 S1 [] d k1 s1 (flat_tr t1.1 r) List.nodup_nil New.nil t1.2⟩
/-- a new list of flat data -/
theorem u_ofF (h : DF X E e TF) : DU X E e (xFN TF) := by
  obtain ⟨t, p, s⟩ := h
  refine ⟨t, p, fun c σ H S env R Rx x k h Q q => s c σ H S env _ Rx x k h Q fun p vs H1 S1 ds k1 s1 n0 f n2 e1 l1 r1 => ?_⟩
  refine q _ H1 S1 [p] (.lst ds) k1 s1 ?_ (List.nodup_cons.mpr ⟨by simp, List.nodup_nil⟩) (fun a m => ?_) r1.2
  · rw [D.tr, RepT]
    exact ⟨p, vs, [], rfl, e1, flat_trs r1.1 l1, rfl⟩
  · rw [List.mem_singleton.mp m]
    exact ⟨n2, n0, f⟩
/-- .. of its own -/
theorem f_ofU (h : DU X E e T) : DF X E e (xNF T) := by
  obtain ⟨t, p, s⟩ := h
  refine ⟨t, p, fun c σ H S env R Rx x k h Q q => s c σ H S env _ Rx x k h Q fun v H1 S1 as d k1 s1 r n g t1 => ?_⟩
  cases d <;> try exact (show False from t1).elim
  rename_i xs
  rw [D.tr, RepT] at r
  obtain ⟨a, vs, bs, rfl, e, l, rfl⟩ := r
  obtain ⟨g1, g2, g3⟩ := g a (List.mem_cons_self ..)
  have go : ∀ {xs : List D} {vs : List V} {bs : List Addr}, flatL xs = true → RepTL c.B S1 H1 (D.trs xs) vs bs → RepL c.B S1 xs vs := fun {xs} => by
    induction xs with
    | nil => intro vs bs _ l; rw [D.trs, RepTL] at l; rw [l.1]; exact repL_nil
    | cons x xs ih =>
      intro vs bs h l
      rw [D.trs, RepTL] at l
      obtain ⟨v, ws, b1, b2, rfl, l1, l2, rfl⟩ := l
      have h : (x.flat && flatL xs) = true := h
      rw [Bool.and_eq_true] at h
      refine repL_cons ?_ (ih h.2 l2)
      have : x.tr = .dat x := by cases x <;> first | rfl | exact (Bool.false_ne_true h.1).elim
      rw [this, RepT] at l1
      exact l1.1
  exact q a vs H1 S1 _ k1 s1 g2 g3 g1 e (go t1.1 l) t1.2
theorem da_uNil : DUA X E [] xNil := ⟨_, pa_nil, fun c σ H S env R Rx x k t Q q => q [] H S [] [] k (Same.refl S) (by rw [D.trs, RepTL]; exact ⟨rfl, rfl⟩) List.nodup_nil New.nil t⟩
def xConsU (Ta : DT) (Tl : DTA) : DTA := fun env R Rx => Ta env (fun x => Tl (valE env) (fun xs => R (x :: xs)) Rx) Rx
theorem w_consU {env : En} {R : List D → Prop} {Rx : Er → Prop} : xConsU Ta Tl env R Rx = Ta env (fun x => Tl (valE env) (fun xs => R (x :: xs)) Rx) Rx := rfl
theorem da_uCons (ha : DU X E a Ta) (hl : DUA X E es Tl) (hs : starEach (a :: es) X.env = (false, eval a X.env) :: starEach es X.env := by rfl) : DUA X E (a :: es) (xConsU Ta Tl) := by
  obtain ⟨ta, p, s⟩ := ha
  obtain ⟨t, p2, s2⟩ := hl
  refine ⟨_, pa_cons p p2 hs, fun c σ H S env R Rx x k t Q q => s c σ H S env _ Rx x k t _ fun v H1 S1 as d k1 s1 r1 n1 g1 t1 => ?_⟩
  refine s2 (c.at H1 S1) σ H1 S1 (valE env) _ Rx (x.at k1.kf) k1.vals t1 _ fun vs H2 S2 bs ds k2 s3 l2 n2 g2 t2 => ?_
  have mu : ∀ a ∈ as, Mu (H1 a) := r1.mu
  obtain ⟨g1', old⟩ := g1.keep k1 k2.kf mu
  have k3 := k1.back k2.kf
  refine q (v :: vs) H2 S2 (as ++ bs) (d :: ds) k3 (s1.trans s3) ?_ ?_ (g1'.app fun a m => ?_) t2
  · rw [D.trs, RepTL]
    exact ⟨v, vs, as, bs, rfl, repT_mono s3 _ _ _ old r1, l2, rfl⟩
  · refine List.nodup_append.mpr ⟨n1, n2, fun a m b m2 z => ?_⟩
    subst z
    exact (mu a m).1 (g2 a m2).2.1
  · obtain ⟨q1, q2, _⟩ := g2 a m
    exact ⟨q1, k1.kf.h0_none q2, k1.free q2⟩
/-- [a, b, ..] -/
theorem u_lst (h : DUA X E es Tl) : DU X E (.List es pos) (xLst Tl) := by
  obtain ⟨t, p, s⟩ := h
  refine ⟨_, pe_lst p, fun c σ H S env R Rx x k t Q q => s c σ H S env _ Rx x k t _ fun vs H1 S1 as ds k1 s1 r1 n1 g1 t1 => ⟨by rw [r1.len, trs_length]; exact t1.1, fun p hp => ?_⟩⟩
  obtain ⟨k2, n2, n0, f⟩ := (⟨k1.new0 hp, k1.kf.s_none hp, k1.kf.h0_none hp, k1.free hp⟩ : Kn c σ (upd H1 p (.lst vs)) S1 env ∧ S1 p = none ∧ c.H0 p = none ∧ Free σ env p)
  have np : p ∉ as := fun m => (r1.mu p m).1 hp
  refine q _ _ S1 (p :: as) (.lst ds) k2 s1 ?_ (List.nodup_cons.mpr ⟨np, n1⟩) (fun a m => ?_) t1.2
  · rw [D.tr, RepT]
    exact ⟨p, vs, as, rfl, upd_same, repTL_mono (Same.refl _) _ _ _ (fun a m o e => by rw [upd_ne (fun z => np (by rw [← z]; exact m))]; exact e) r1, rfl⟩
  · rcases List.mem_cons.mp m with rfl | m
    · exact ⟨n2, n0, f⟩
    · exact g1 a m
end
def spU (F : Spec) : Sp := fun vs H Q E => ∃ (c : Fm) (S : Hp) (ds : List D) (R : D → Prop) (Rx : Er → Prop), c.H0 = H ∧ c.S0 = S ∧ Kf c H S ∧ RepL c.B S ds vs ∧ F ds R Rx ∧
  (∀ v H' S' d as, Kf c H' S' → RepT c.B S' H' d.tr v as → as.Nodup → (∀ a ∈ as, S' a = none ∧ H a = none) → R d → Q v H') ∧ XOk c E Rx
section
variable {P : Program} {w : World} {K : PySem.W.Frag} {mg : Str → Option Value} {base : Heap} {x qual : Str} {st : Stmt} {dvs : List V} {kws : List (Str × V)} {f : Addr} {fd : FuncData} {N ps : List Str} {k : Nat} {F : Spec} {CX : CXT}
theorem fn_u {T : DTS} (Fd : FnS K x qual st dvs kws f fd) (S : FnScope N ps (defScope st)) (len : ∀ ds R Rx, F ds R Rx → ds.length = ps.length)
    (hbody : ∀ (cdv : Value) (A : Around) (outer : List Env) (s : Shared) (H : Hp) (E : XK), Room k (A.deeper (PyProof.Rows.envOfC qual (defScope st) s.heap.objs.size f cdv)) →
      DSs (cxOf (L2.CX P w) P w K mg base N qual (defScope st) f cdv A outer s H E) E (defBody st) T)
    (hT : ∀ ds R Rx, F ds R Rx → T { nx := fun _ => R .non, rt := fun n d => (n = .tr ∨ d.flat = true) ∧ R d, ex := Rx } (startE N ds)) : FnOk P w K mg base (L2.CX P w) (k + 1) f fd ps (spU F) := by
  refine FunD.ok Fd S (fun vs H Q E ⟨c, S, ds, R, Rx, _, _, _, l, h, _⟩ => by rw [l.length]; exact len _ _ _ h) fun cdv A outer s H vs Q E hr hsp => ?_
  obtain ⟨c, Sh, ds, R, Rx, h0, hs0, kf, l, h, q, xo⟩ := hsp
  obtain ⟨t, p, sm⟩ := hbody cdv A outer s H E hr
  refine ⟨t, p, sm c _ H Sh _ _ xo (kn_start kf l) (hT ds R Rx h) _ ⟨fun σ H1 S1 env k1 s1 r1 => ?_, fun n v H1 S1 d k1 s1 r1 t1 => ?_, fun σ H1 S1 env k1 s1 r1 => r1, fun σ H1 S1 env k1 s1 r1 => r1⟩⟩
  · exact q .non H1 S1 .non [] k1.kf (flat_tr (S := S1) rfl rfl) List.nodup_nil (fun a m => nomatch m) r1
  · have fl : d.flat = true → Q v H1 := fun z => by
      obtain ⟨S2, _, _, r2⟩ := r1.old k1
      exact q v H1 S1 d [] k1 (flat_tr z r2) List.nodup_nil (fun a m => nomatch m) t1.2
    rcases t1.1 with z | z
    · subst z
      obtain ⟨as, r, n, g⟩ := r1
      exact q v H1 S1 d as k1 r n (fun a m => ⟨(g a m).1, by rw [← h0]; exact (g a m).2⟩) t1.2
    · exact fl z
end
section
variable {X : Cx} {E : XK} {CX : CXT} {k n : Nat} {f : Addr} {fd : FuncData} {ps ks : List Str} {F : Spec} {dvs : List V} {dds : List D} {ds : List Value} {x : Str} {p pos : Pos} {e : Expr} {es : List Expr} {Tl Tk : DTA} {kws : List Keyword}
theorem sp_callU {c : Fm} {σ : St} {H S : Hp} {env : En} {vs : List V} {xs : List D} {R : D → Prop} {Rx : Er → Prop} {Q : VK} (kn : Kn c σ H S env) (x : XOk c E Rx) (l : RepL c.B S xs vs) (t : F xs R Rx)
    (q : ∀ v H' S' as d, Kn c σ H' S' env → Same S S' → RepT c.B S' H' d.tr v as → as.Nodup → New c σ S' env as → R d → Q v H') : spU F vs H Q E :=
  ⟨c.at H S, S, xs, R, Rx, rfl, rfl, kn.kf.at, l, t, fun v H' S' d as k' r n g z => q v H' S' as d (kn.back k') k'.s0 r n (fun a m => ⟨(g a m).1, kn.kf.h0_none (g a m).2, kn.free (g a m).2⟩) z, x.at kn.kf⟩
theorem d_callU (G : FnOk X.prog X.w X.K X.mg X.base CX k f fd ps (spU F)) (hr : Room k X.A) (hm : X.mg x = some (.ref f)) (hk : PySem.W.keepIn X.K (.ref f) = true) (hb : Binds X.K fd ps ds) (hd : Vals dvs ds) (hdd : DfR dds dvs) (hx : Passes CX X E) (ha : DA X E (e :: es) Tl)
    (hg : Gl X x := by rfl) (hdb : (x == ("__debug__" : Str)) = false := by decide) (he : starEach (e :: es) X.env = (false, eval e X.env) :: starEach es X.env := by rfl) (hpl : (backTo pos (starEach es X.env)).any (·.1) = false := by rfl) :
    DU X E (.Call (.Name x p) (e :: es) [] pos) (xCall F dds Tl) := by
  obtain ⟨t, pa, s⟩ := ha
  refine ⟨_, pe_call G hr hg hm hk hb hd hx pa hdb he hpl, fun c σ H S env R Rx x k t Q q => s c σ H S env _ Rx x k t _ fun vs H1 S1 xs k1 s1 l1 t1 => ?_⟩
  exact sp_callU k1 x (l1.app (hdd _ _)) t1 fun v H' S' as d k' s' r' n' g' t' => q v H' S' as d k' (s1.trans s') r' n' g' t'
end
def putT (i : Nat) (t : T) (as : List Addr) (env : En) : En := env.set i (some (.tre t as))
theorem w_putT_0 {t : T} {as : List Addr} {o : Option DV} {l : En} : putT 0 t as (o :: l) = some (.tre t as) :: l := rfl
theorem w_putT_s {n : Nat} {t : T} {as : List Addr} {o : Option DV} {l : En} : putT (n + 1) t as (o :: l) = o :: putT n t as l := rfl
def zSetU (i : Nat) (T : DT) : DTS := fun Q env => T env (fun d => ∀ as, Q.nx (putT i d.tr as env)) Q.ex
theorem w_setU {i : Nat} {T : DT} {Q : DEnds} {env : En} : zSetU i T Q env = T env (fun d => ∀ as, Q.nx (putT i d.tr as env)) Q.ex := rfl
end DL
namespace DL
open PySem PySem.Spec L2
variable [TbC]
def T.at' : List Nat → T → Option T
  | [], t => some t
  | j :: r, t => match t with
    | .lst ts => (ts[j]?).bind (T.at' r)
    | .tup ts => (ts[j]?).bind (T.at' r)
    | _ => none
def T.setAt : List Nat → T → T → T
  | [], _, u => u
  | j :: r, t, u => match t with
    | .lst ts => match ts[j]? with
      | some t => .lst (ts.set j (T.setAt r t u))
      | none => .lst ts
    | .tup ts => match ts[j]? with
      | some t => .tup (ts.set j (T.setAt r t u))
      | none => .tup ts
    | t => t
theorem w_at_nil {t : T} : T.at' [] t = some t := rfl
theorem w_at_lst {j : Nat} {r : List Nat} {ts : List T} : T.at' (j :: r) (.lst ts) = (ts[j]?).bind (T.at' r) := rfl
theorem w_at_tup {j : Nat} {r : List Nat} {ts : List T} : T.at' (j :: r) (.tup ts) = (ts[j]?).bind (T.at' r) := rfl
theorem w_setAt_nil {t u : T} : T.setAt [] t u = u := rfl
theorem w_setAt_l0 {r : List Nat} {ts : List T} {t u : T} : T.setAt (0 :: r) (.lst (t :: ts)) u = .lst (T.setAt r t u :: ts) := rfl
/-- what stands at a place -/
def VAt (H : Hp) : List Nat → V → V → Prop
  | [], v, u => u = v
  | j :: r, v, u => ∃ a vs w, v = .ref a ∧ (H a = some (.lst vs) ∨ H a = some (.tup vs)) ∧ vs[j]? = some w ∧ VAt H r w u
theorem RepTL.at {B : Option Addr} {S H : Hp} : ∀ {ts : List T} {vs : List V} {bs : List Addr} {j : Nat} {tj : T}, RepTL B S H ts vs bs → ts[j]? = some tj →
    ∃ w A bj C, vs[j]? = some w ∧ RepT B S H tj w bj ∧ bs = A ++ (bj ++ C) ∧ ∀ (t' : T) (b' : List Addr) (H' : Hp), (∀ a, a ∈ A ∨ a ∈ C → ∀ o, H a = some o → H' a = some o) → RepT B S H' t' w b' → RepTL B S H' (ts.set j t') vs (A ++ (b' ++ C))
  | [], _, _, j, tj, _, e => by simp at e
  | t :: ts, vs, bs, 0, tj, r, e => by
    rw [RepTL] at r
    obtain ⟨v, ws, b1, b2, rfl, r1, r2, rfl⟩ := r
    simp at e
    subst e
    refine ⟨v, [], b1, b2, rfl, r1, rfl, fun t' b' H' q r' => ?_⟩
    rw [List.set_cons_zero, List.nil_append, RepTL]
    exact ⟨v, ws, b', b2, rfl, r', repTL_mono (Same.refl S) _ _ _ (fun a m => q a (.inr m)) r2, rfl⟩
  | t :: ts, vs, bs, j + 1, tj, r, e => by
    rw [RepTL] at r
    obtain ⟨v, ws, b1, b2, rfl, r1, r2, rfl⟩ := r
    obtain ⟨w, A, bj, C, e1, e2, rfl, e4⟩ := RepTL.at (j := j) r2 (by simpa using e)
    refine ⟨w, b1 ++ A, bj, C, by simpa using e1, e2, by rw [List.append_assoc], fun t' b' H' q r' => ?_⟩
    rw [List.set_cons_succ, List.append_assoc, RepTL]
    exact ⟨v, ws, b1, A ++ (b' ++ C), rfl, repT_mono (Same.refl S) _ _ _ (fun a m => q a (.inl (List.mem_append_left _ m))) r1, e4 t' b' H' (fun a m => q a (m.imp (List.mem_append_right _) id)) r', rfl⟩
/-- .. stays, where the frame at H has gone on -/
theorem VAt.keep {B : Option Addr} {S H H' S' : Hp} (sub : Same S H) (s : Same S S') (sub' : Same S' H') : ∀ (path : List Nat) {t : T} {v : V} {as : List Addr} {u : V}, RepT B S H t v as → T.at' path t ≠ none → (∀ a ∈ as, ∀ o, H a = some o → H' a = some o) → VAt H path v u → VAt H' path v u
  | [], t, v, as, u, r, _, _, q => q
  | j :: rr, t, v, as, u, r, ne, k, q => by
    obtain ⟨a, vs, w, rfl, ea, ew, q⟩ := q
    cases t with
    | dat d => exact (ne rfl).elim
    | obj C ks us => exact (ne rfl).elim
    | lst us =>
      rw [RepT] at r
      obtain ⟨a2, vs2, bs, e0, e1, l, rfl⟩ := r
      cases e0
      rcases ea with ea | ea <;> rw [e1] at ea <;> cases ea
      rw [w_at_lst] at ne
      cases ej : us[j]? with
      | none => rw [ej] at ne; exact (ne rfl).elim
      | some tj =>
        rw [ej] at ne
        obtain ⟨w', A, bj, C, ew', rj, rfl, _⟩ := l.at ej
        rw [ew] at ew'
        cases ew'
        exact ⟨a, vs, w, rfl, .inl (k a List.mem_cons_self _ e1), ew, VAt.keep sub s sub' rr rj ne (fun b m => k b (List.mem_cons_of_mem _ (List.mem_append_right _ (List.mem_append_left _ m)))) q⟩
    | tup us =>
      rw [RepT] at r
      obtain ⟨a2, vs2, e0, e1, l⟩ := r
      cases e0
      have e1h := sub _ _ e1
      rcases ea with ea | ea <;> rw [e1h] at ea <;> cases ea
      rw [w_at_tup] at ne
      cases ej : us[j]? with
      | none => rw [ej] at ne; exact (ne rfl).elim
      | some tj =>
        rw [ej] at ne
        obtain ⟨w', A, bj, C, ew', rj, rfl, _⟩ := l.at ej
        rw [ew] at ew'
        cases ew'
        exact ⟨a, vs, w, rfl, .inr (sub' _ _ (s _ _ e1)), ew, VAt.keep sub s sub' rr rj ne (fun b m => k b (List.mem_append_right _ (List.mem_append_left _ m))) q⟩
end DL
namespace DL
open PySem PySem.Spec L2
variable [TbC]
theorem w_tre_inj {t u : T} {as bs : List Addr} : (DV.tre t as = DV.tre u bs) = (t = u ∧ as = bs) := by rw [DV.tre.injEq]
def isTre (i : Nat) (env : En) (P : T → List Addr → Prop) : Prop := ∃ t as, env[i]? = some (some (.tre t as)) ∧ P t as
theorem isTre_at {i : Nat} {env : En} {t : T} {as : List Addr} {P : T → List Addr → Prop} (h : env[i]? = some (some (.tre t as))) : isTre i env P = P t as := by
  refine propext ⟨fun ⟨t', as', e, q⟩ => ?_, fun q => ⟨t, as, h, q⟩⟩
  rw [h] at e
  cases e
  exact q
theorem w_isTre_0 {t : T} {as : List Addr} {l : En} {P : T → List Addr → Prop} : isTre 0 (some (.tre t as) :: l) P = P t as := isTre_at rfl
theorem w_isTre_s {n : Nat} {o : Option DV} {l : En} {P : T → List Addr → Prop} : isTre (n + 1) (o :: l) P = isTre n l P := rfl
theorem VAt.inj {H : Hp} : ∀ {path : List Nat} {v u w : V}, VAt H path v u → VAt H path v w → u = w
  | [], _, _, _, q, q2 => by cases q; cases q2; rfl
  | j :: r, v, u, w, q, q2 => by
    obtain ⟨a, vs, x, rfl, ea, ex, q⟩ := q
    obtain ⟨a2, vs2, x2, e, ea2, ex2, q2⟩ := q2
    cases e
    have ev : vs2 = vs := by rcases ea with ea | ea <;> rcases ea2 with ea2 | ea2 <;> rw [ea] at ea2 <;> cases ea2 <;> rfl
    subst ev
    rw [ex] at ex2
    cases ex2
    exact VAt.inj q q2
abbrev DTP := En → (List Nat → Prop) → (Er → Prop) → Prop
def xPlN (i : Nat) : DTP := fun env R _ => isTre i env fun _ _ => R []
theorem w_plN {i : Nat} {env : En} {R : List Nat → Prop} {Rx : Er → Prop} : xPlN i env R Rx = isTre i env fun _ _ => R [] := rfl
/-- one step further -/
def ixAt (path : List Nat) (tt : T) (k : Int) (R : List Nat → Prop) : Prop := ∃ ts j, (T.at' path tt = some (.lst ts) ∨ T.at' path tt = some (.tup ts)) ∧ ixN ts.length k = some j ∧ R (path ++ [j])
theorem ixAt_lst {path : List Nat} {tt : T} {k : Int} {ts : List T} {R : List Nat → Prop} (h : T.at' path tt = some (.lst ts)) : ixAt path tt k R = ∃ j, ixN ts.length k = some j ∧ R (path ++ [j]) := by
  refine propext ⟨fun ⟨us, j, e, ej, q⟩ => ?_, fun ⟨j, ej, q⟩ => ⟨ts, j, .inl h, ej, q⟩⟩
  rcases e with e | e <;> rw [h] at e <;> cases e
  exact ⟨j, ej, q⟩
theorem w_ixAt_0 {k : Int} {ts : List T} {R : List Nat → Prop} : ixAt [] (.lst ts) k R = ∃ j, ixN ts.length k = some j ∧ R ([] ++ [j]) := ixAt_lst rfl
def xPlI (i : Nat) (Tp : DTP) (Tb : DT) : DTP := fun env R Rx => Tp env (fun path => Tb (thaw env) (asI fun k => isTre i env fun tt _ => ixAt path tt k R) Rx) Rx
theorem w_plI {i : Nat} {Tp : DTP} {Tb : DT} {env : En} {R : List Nat → Prop} {Rx : Er → Prop} : xPlI i Tp Tb env R Rx = Tp env (fun path => Tb (thaw env) (asI fun k => isTre i env fun tt _ => ixAt path tt k R) Rx) Rx := rfl
section
variable {X : Cx} {E : XK} {pos p1 : Pos} {a b e : Expr} {Ta Tb Tv Ti : DT} {Tp : DTP} {i : Nat}
def zAppL (i : Nat) (Tp : DTP) (Ta : DT) : DTS := fun Q env => Tp env (fun path => isTre i env fun tt _ => ∃ us, T.at' path tt = some (.lst us) ∧ Ta (valE env) (fun d => us.length < sizeLine ∧ ∀ as', Q.nx (putT i (T.setAt path tt (.lst (us ++ [d.tr]))) as' env)) Q.ex) Q.ex
theorem w_appL {Q : DEnds} {env : En} : zAppL i Tp Ta Q env = Tp env (fun path => isTre i env fun tt _ => ∃ us, T.at' path tt = some (.lst us) ∧ Ta (valE env) (fun d => us.length < sizeLine ∧ ∀ as', Q.nx (putT i (T.setAt path tt (.lst (us ++ [d.tr]))) as' env)) Q.ex) Q.ex := rfl
def zClrL (i : Nat) (Tp : DTP) : DTS := fun Q env => Tp env (fun path => isTre i env fun tt _ => ∃ us, T.at' path tt = some (.lst us) ∧ ∀ as', Q.nx (putT i (T.setAt path tt (.lst [])) as' env)) Q.ex
theorem w_clrL {Q : DEnds} {env : En} : zClrL i Tp Q env = Tp env (fun path => isTre i env fun tt _ => ∃ us, T.at' path tt = some (.lst us) ∧ ∀ as', Q.nx (putT i (T.setAt path tt (.lst [])) as' env)) Q.ex := rfl
def zStL (i : Nat) (Tv : DT) (Tp : DTP) (Ti : DT) : DTS := fun Q env => Tv env (fun d => Tp env (fun path => Ti (thaw env) (asI fun k => isTre i env fun tt _ => ∃ us j, T.at' path tt = some (.lst us) ∧ ixN us.length k = some j ∧ ∀ as', Q.nx (putT i (T.setAt path tt (.lst (us.set j d.tr))) as' env)) Q.ex) Q.ex) Q.ex
theorem w_stL {Q : DEnds} {env : En} : zStL i Tv Tp Ti Q env = Tv env (fun d => Tp env (fun path => Ti (thaw env) (asI fun k => isTre i env fun tt _ => ∃ us j, T.at' path tt = some (.lst us) ∧ ixN us.length k = some j ∧ ∀ as', Q.nx (putT i (T.setAt path tt (.lst (us.set j d.tr))) as' env)) Q.ex) Q.ex) Q.ex := rfl
end
end DL
namespace DL
open PySem PySem.Spec L2
variable [TbC]
section
variable {X : Cx} {E : XK} {CX : CXT} {k : Nat} {C f : Addr} {fd : FuncData} {ps : List Str} {F : Spec} {m : Str} {o e : Expr} {es : List Expr} {To : DT} {Tl : DTA} {pos apos p : Pos}
theorem u_meth0 {pl : Sem Bool} (he : DE X E o To) (c : Cls X.K C) (hm : Meth X.K C m f) (G : FnOk X.prog X.w X.K X.mg X.base CX k f fd ps (spU F)) (hr : Room k X.A) (hb : Binds X.K fd ps []) (hx : Passes CX X E)
    (ht : eval (.Call (.Attribute o m apos) [] [] pos) X.env = (do
      let ov ← eval o X.env
      standAt apos.atName
      let (f, first) ← holding [ov] (getMethod ov m pl)
      callWith pos f first (backTo pos (starEach [] X.env)) (backToKw pos (keywordEach [] X.env))) := by rfl) :
    DU X E (.Call (.Attribute o m apos) [] [] pos) (xMeth C m F To xNil) := by
  obtain ⟨t, p1, s⟩ := he
  refine ⟨_, pe_meth0 p1 c hm G hr hb .nil hx ht, fun c0 σ H S env R Rx x k t Q q => s c0 σ H S env _ Rx x k t _ fun v H1 S1 d k1 s1 r1 t1 => ?_⟩
  obtain ⟨t0, t1⟩ := t1
  cases d <;> try exact (show False from t0).elim
  obtain ⟨rfl, e1⟩ := t0
  obtain ⟨a, dx, vs, e2, h1, hn, l1⟩ := obj_of k1 r1
  refine ⟨a, dx, _, e2, h1, fld_none l1 hn e1, ?_⟩
  exact sp_callU k1 x (repL_cons r1 repL_nil) t1 fun v H' S' as d k' s' r' n' g' t' => q v H' S' as d k' (s1.trans s') r' n' g' t'
end
def canU (E : XK) (T : DT) : TE := fun σ H Q => ∃ (c : Fm) (S : Hp) (env : En) (R : D → Prop) (Rx : Er → Prop), XOk c E Rx ∧ Kn c σ H S env ∧ T env R Rx ∧ ∀ v H' S' as d, Kn c σ H' S' env → Same S S' → RepT c.B S' H' d.tr v as → as.Nodup → New c σ S' env as → R d → Q v H'
theorem smU_can {E : XK} {T : DT} : SmU E (canU E T) T := fun c σ H S env R Rx x k t Q q => ⟨c, S, env, R, Rx, x, k, t, q⟩
theorem pe_canU {X : Cx} {E : XK} {e : Expr} {T : DT} (h : DU X E e T) : PE X e (canU E T) := by
  obtain ⟨t, p, s⟩ := h
  exact ⟨fun pins st σ H Q I ⟨c, S, env, R, Rx, x, k, t, q⟩ => p.run pins st σ H Q I (s c σ H S env R Rx x k t Q q)⟩
section
variable {X : Cx} {E : XK} {elt tg iter : Expr} {ifs : List Expr} {scope : Scope} {own : List (Str × Nat)} {pos : Pos} {Ti : DTI} {G : DG} {Tt : DTT} {Te : DT} {js : List Nat}
theorem smU_lc {wi : TI} (hsub : ∀ j ∈ js, j ∈ own.map (·.2)) (hi : SmI E wi Ti) : SmU E (tLc wi (canG G js) (canT E0 Tt) (canU E0 Te) (own.map (·.2))) (xF (xLcF Ti G Tt Te (own.map (·.2)))) := fun c σ H S env R Rx x k t Q q =>
  hi c σ H S env _ Rx x k t _ fun J H1 S1 xs k1 s1 it t1 => by
    obtain ⟨I, h0, hstep, hend⟩ := t1
    intro L hL
    have n0 := k1.kf.h0_none hL
    have fL := k1.free hL
    refine ⟨fun i m H => m = xs.length - i ∧ i ≤ xs.length ∧ ∃ S vs acc bs, Kn c σ H S env ∧ Same S1 S ∧ S L = none ∧ H L = some (.lst vs) ∧ RepTL c.B S H (D.trs acc) vs bs ∧ bs.Nodup ∧ New c σ S env bs ∧ L ∉ bs ∧ I i acc,
      ⟨_, rfl, Nat.zero_le _, S1, [], [], [], k1.new0 hL, Same.refl S1, k1.kf.s_none hL, upd_same, (by rw [D.trs, RepTL]; exact ⟨rfl, rfl⟩), List.nodup_nil, New.nil, (fun z => nomatch z), h0⟩, ?_⟩
    rintro i m H ⟨rfl, hil, S, vs, acc, bs, k, s, nL, eL, l, nb, gb, Lb, hI⟩
    have ki := k.inner (own.map (·.2))
    obtain ⟨go, stop⟩ := it (c.at H S) rfl i _ H S _ ki s
    by_cases hlt : i < xs.length
    · have e : xs[i]? = some xs[i] := by simp [hlt]
      obtain ⟨g1, g2⟩ := go _ e
      refine .inr ⟨g1, fun H => i + 1 ≤ xs.length ∧ ∃ S vs acc bs, Kn c σ H S env ∧ Same S1 S ∧ S L = none ∧ H L = some (.lst vs) ∧ RepTL c.B S H (D.trs acc) vs bs ∧ bs.Nodup ∧ New c σ S env bs ∧ L ∉ bs ∧ I (i + 1) acc, fun H' h => ⟨_, by omega, rfl, h⟩, fun v H' y => ?_⟩
      obtain ⟨S', k', s', r'⟩ := g2 v H' y
      refine smG_can (c.at H S) _ H' S' _ _ v _ k' r' (hstep i _ acc e hI) _ fun σ2 H2 S2 env2 k2 s2 w2 t2 => ?_
      refine ⟨?_, ?_⟩
      · have := w2 (own.map (·.2)) hsub
        rw [this]
        exact wipe_wipe _ _
      · refine smT_can (c.at H S) σ2 H2 S2 env2 _ noX xok0 k2 t2 _ fun b H3 S3 k3 s3 t3 => ?_
        have fin : ∀ {H4 S4 : Hp}, Kf (c.at H S) H4 S4 → Kn c σ H4 S4 env ∧ H4 L = some (.lst vs) ∧ S4 L = none ∧ RepTL c.B S4 H4 (D.trs acc) vs bs ∧ New c σ S4 env bs ∧ Same S1 S4 := fun {H4 S4} kf => by
          obtain ⟨gb2, old⟩ := gb.keep k kf l.mu
          exact ⟨k.back kf, kf.old L _ eL (k.kf.x_ne0 n0), kf.new L nL (mu_lst eL), repTL_mono kf.s0 _ _ _ old l, gb2, s.trans kf.s0⟩
        cases b with
        | true =>
          refine iteT ?_
          refine smU_can (c.at H S) σ2 H3 S3 env2 _ noX xok0 k3 (t3.1 rfl) _ fun u H4 S4 as4 d4 k4 s4 r4 n4 g4 t4 => ?_
          obtain ⟨kn, eL4, nL4, l4, gb4, ss⟩ := fin k4.kf
          have hb : ∀ a ∈ bs, a ∉ as4 := fun a m z => (l.mu a m).1 (g4 a z).2.1
          have hL4 : L ∉ as4 := fun z => by
            have : H L = none := (g4 L z).2.1
            rw [eL] at this
            cases this
          have hLb : L ∉ bs ++ as4 := fun z => (List.mem_append.mp z).elim Lb hL4
          have l5 : RepTL c.B S4 H4 (D.trs (acc ++ [d4])) (vs ++ [u]) (bs ++ as4) := by
            rw [trs_app]
            refine l4.app ?_
            rw [D.trs, RepTL]
            refine ⟨u, [], as4, [], rfl, r4, ?_, by rw [List.append_nil]⟩
            rw [D.trs, RepTL]
            exact ⟨rfl, rfl⟩
          refine ⟨vs, eL4, by rw [l4.len, trs_length]; exact t4.1, hlt, S4, _, _, bs ++ as4, kn.updF nL4 n0 eL4 lst_ne fL, ss, nL4, upd_same,
            repTL_mono (Same.refl _) _ _ _ (fun a m o eo => by rw [upd_ne (fun z => hLb (by rw [← z]; exact m))]; exact eo) l5,
            List.nodup_append.mpr ⟨nb, n4, fun a m b m2 z => by subst z; exact hb a m m2⟩, gb4.app fun a m => ⟨(g4 a m).1, k.kf.h0_none (g4 a m).2.1, k.free (g4 a m).2.1⟩, hLb, t4.2⟩
        | false =>
          refine iteF ?_
          obtain ⟨kn, eL4, nL4, l4, gb4, ss⟩ := fin k3.kf
          exact ⟨hlt, S3, vs, acc, bs, kn, ss, nL4, eL4, l4, nb, gb4, Lb, t3.2 rfl⟩
    · have e : i = xs.length := by omega
      subst e
      refine .inl ⟨stop (Nat.le_refl _), q (.ref L) H S (L :: bs) (.lst acc) k (s1.trans s) ?_ (List.nodup_cons.mpr ⟨Lb, nb⟩) (fun a m => ?_) (hend acc hI)⟩
      · rw [D.tr, RepT]
        exact ⟨L, vs, bs, rfl, eL, l, rfl⟩
      · rcases List.mem_cons.mp m with rfl | m
        · exact ⟨nL, n0, fL⟩
        · exact gb a m
theorem u_lc (hc : X.calm = true) (hN : X.N.Nodup) (hi : DI X E tg iter Ti) (ok : BlkOk X.N X.env.scope scope own) (hsub : ∀ j ∈ js, j ∈ own.map (·.2))
    (hg : ∀ (s : Shared) (H : Hp) (C : Addr) (cl : List (Str × Addr)) (fp : List Addr), DGt (X.blk s H scope (compEnvC scope cl C X.env) fp) tg G js)
    (ht : ∀ (s : Shared) (H : Hp) (C : Addr) (cl : List (Str × Addr)) (fp : List Addr), DTs (X.blk s H scope (compEnvC scope cl C X.env) fp) E0 ifs Tt)
    (he : ∀ (s : Shared) (H : Hp) (C : Addr) (cl : List (Str × Addr)) (fp : List Addr), DU (X.blk s H scope (compEnvC scope cl C X.env) fp) E0 elt Te)
    (hs : ∀ x, foldedSetIterable iter X.env x = pure x := by intro _; rfl) : DU X E (.ListComp elt [⟨tg, iter, ifs, 0⟩] scope pos) (xF (xLcF Ti G Tt Te (own.map (·.2)))) := by
  obtain ⟨wi, p, s⟩ := hi
  exact ⟨_, pe_lc hc hN p ok (fun s H C cl fp => pg_can (hg s H C cl fp)) (fun s H C cl fp => pts_can (ht s H C cl fp)) (fun s H C cl fp => pe_canU (he s H C cl fp)) hs, smU_lc hsub s⟩
end
theorem w_trs_ds {ds : List D} : T.ds (D.trs ds) = ds := trs_ds ds
theorem w_tr_d {d : D} : d.tr.d = d := tr_d d
theorem trs_at {ds : List D} {i : Nat} {d : D} (h : ds[i]? = some d) : (D.trs ds)[i]? = some d.tr := by rw [trs_map, List.getElem?_map, h]; rfl
theorem w_trs_length {ds : List D} : (D.trs ds).length = ds.length := trs_length ds
theorem w_tr_int {i : Int} : (D.int i).tr = .dat (.int i) := rfl
mutual
theorem RepT.nt {B : Option Addr} {S H : Hp} : ∀ {t : T} {v : V} {as : List Addr}, RepT B S H t v as → ∀ a ∈ as, ∀ vs, H a ≠ some (.tup vs)
  | .dat d, v, as, r, a, m => by
    rw [RepT] at r
    rw [r.2] at m
    cases m
  | .lst ts, v, as, r, a, m => by
    rw [RepT] at r
    obtain ⟨a0, vs, bs, e, e2, l, rfl⟩ := r
    rcases List.mem_cons.mp m with rfl | m
    · rw [e2]
      exact fun vs z => nomatch z
    · exact RepTL.nt l a m
  | .tup ts, v, as, r, a, m => by
    rw [RepT] at r
    obtain ⟨a0, vs, e, e2, l⟩ := r
    exact RepTL.nt l a m
  | .obj C ks ts, v, as, r, a, m => by
    rw [RepT] at r
    obtain ⟨a0, dx, vs, bs, e, e2, e3, n, l, rfl⟩ := r
    rcases List.mem_cons.mp m with rfl | m
    · rw [e2]
      exact fun vs z => nomatch z
    rcases List.mem_cons.mp m with rfl | m
    · rw [e3]
      exact fun vs z => nomatch z
    · exact RepTL.nt l a m
theorem RepTL.nt {B : Option Addr} {S H : Hp} : ∀ {ts : List T} {vs : List V} {as : List Addr}, RepTL B S H ts vs as → ∀ a ∈ as, ∀ vs, H a ≠ some (.tup vs)
  | [], _, _, r, a, m => by
    rw [RepTL] at r
    rw [r.2] at m
    cases m
  | t :: ts, vs, as, r, a, m => by
    rw [RepTL] at r
    obtain ⟨v, ws, bs, cs, e, r1, r2, rfl⟩ := r
    rcases List.mem_append.mp m with m | m
    · exact RepT.nt r1 a m
    · exact RepTL.nt r2 a m
end
section
variable {X : Cx} {E : XK} {e a b : Expr} {T Ta : DT} {TF : DTF} {p pos : Pos}
def xLendU (T : DT) : DT := fun env R Rx => T (thaw env) (fun d => d.dat = true ∧ R d) Rx
theorem w_lendU {env : En} {R : D → Prop} {Rx : Er → Prop} : xLendU T env R Rx = T (thaw env) (fun d => d.dat = true ∧ R d) Rx := rfl
def xLendF (TF : DTF) : DTF := fun env R Rx => TF (thaw env) (fun ds => flatL ds = true ∧ R ds) Rx
theorem w_lendF {env : En} {R : List D → Prop} {Rx : Er → Prop} : xLendF TF env R Rx = TF (thaw env) (fun ds => flatL ds = true ∧ R ds) Rx := rfl
end
section
variable {X : Cx} {E : XK} {pos p1 : Pos} {e b a : Expr} {st : Stmt} {sts : List Stmt} {T : DTS} {Tu Ta : DT} {TF : DTF}
def zFrzU (i : Nat) (T : DTS) : DTS := fun Q env => isTre i env fun tt _ => T Q (put i tt.d env)
theorem w_frzU {i : Nat} {Q : DEnds} {env : En} : zFrzU i T Q env = isTre i env fun tt _ => T Q (put i tt.d env) := rfl
def zRetU (i : Nat) : DTS := fun Q env => isTre i env fun tt _ => ∃ d : D, tt = d.tr ∧ Q.rt .tr d
theorem w_retU {i : Nat} {Q : DEnds} {env : En} : zRetU i Q env = isTre i env fun tt _ => ∃ d : D, tt = d.tr ∧ Q.rt .tr d := rfl
def zRetUe (Tu : DT) : DTS := fun Q env => Tu env (Q.rt .tr) Q.ex
theorem w_retUe {Q : DEnds} {env : En} : zRetUe Tu Q env = Tu env (Q.rt .tr) Q.ex := rfl
theorem s_retUe (h : DU X E e Tu) : DS X E (.Return (some e) pos) (zRetUe Tu) := by
  obtain ⟨t, p, s⟩ := h
  exact ⟨_, ps_ret p, fun c σ H S env Q x k t D m => s c σ H S env _ _ x k t _ fun v H1 S1 as d k1 s1 r1 n1 g1 t1 => m.2.1 .tr v H1 S1 d k1.kf s1 ⟨as, r1, n1, fun a m => ⟨(g1 a m).1, (g1 a m).2.1⟩⟩ t1⟩
def zAppF (TF : DTF) (Ta : DT) : DTS := fun Q env => TF env (fun ds => Ta (valE env) (fun d => ds.length < sizeLine ∧ Q.nx env) Q.ex) Q.ex
theorem w_appF {Q : DEnds} {env : En} : zAppF TF Ta Q env = TF env (fun ds => Ta (valE env) (fun d => ds.length < sizeLine ∧ Q.nx env) Q.ex) Q.ex := rfl
theorem s_appF {apos p2 : Pos} (hb : DF X E b TF) (h : DE X E a Ta)
    (hp : ∀ {to te : TE}, PE X b to → PE X a te → PE X (.Call (.Attribute b "append" apos) [a] [] p2) (tBM X.K "list" rAppend to (tCons te tNil)))
    (hs : swapsWith (.Call (.Attribute b "append" apos) [a] [] p2) none pos.line X.env = pure false := by rfl) :
    DS X E (.Expr (.Call (.Attribute b "append" apos) [a] [] p2) pos) (zAppF TF Ta) := by
  obtain ⟨to, po, so⟩ := hb
  obtain ⟨te, pe, se⟩ := h
  refine ⟨_, ps_expr (hp po pe) hs, fun c σ H S env Q x k t D m => so c σ H S env _ _ x k t _ fun p vs H1 S1 ds k1 s1 n0 f n2 e1 l1 t1 => ?_⟩
  refine ⟨.inl ⟨rfl, vs, SqL.of e1⟩, se (c.at H1 S1) σ H1 S1 (valE env) _ _ (x.at k1.kf) k1.vals t1 _ fun w H2 S2 d k2 s2 r2 t2 => ?_⟩
  have k3 := k1.back k2.kf
  have e2 := k2.kf.old p _ e1 (k1.kf.x_ne0 n0)
  have n3 : S2 p = none := k2.kf.new p n2 (mu_lst e1)
  exact ⟨p, vs, w, rfl, rfl, e2, by rw [l1.length]; exact t2.1, m.1 σ _ S2 env (k3.updF n3 n0 e2 lst_ne f) (s1.trans s2) t2.2⟩
def zClrF (TF : DTF) : DTS := fun Q env => TF env (fun _ => Q.nx env) Q.ex
theorem w_clrF {Q : DEnds} {env : En} : zClrF TF Q env = TF env (fun _ => Q.nx env) Q.ex := rfl
/-- xs.clear(), xs of the frame's own -/
def zClrO (i : Nat) : DTS := fun Q env => ∃ xs, env[i]? = some (some (.own xs)) ∧ Q.nx (putO' i [] env)
theorem w_clrO_0 {xs : List D} {l : En} {Q : DEnds} : zClrO 0 Q (some (.own xs) :: l) = Q.nx (some (.own []) :: l) := by
  refine propext ⟨fun ⟨_, _, q⟩ => q, fun q => ⟨xs, rfl, q⟩⟩
theorem w_clrO {i : Nat} {Q : DEnds} {env : En} : zClrO i Q env = ∃ xs, env[i]? = some (some (.own xs)) ∧ Q.nx (putO' i [] env) := rfl
end
end DL
namespace DL
open PySem PySem.Spec L2
variable [TbC]
theorem w_setN {p : Addr} {f : Str} {Te : DT} {U : ITS} {R : Bool → List Str → List D → Prop} {Rx : Er → Prop} {nf : Bool} {ks : List Str} {xs : List D} {env : En} : jSetN p f Te U R Rx nf ks xs env = Te env (fun d => env[0]? = some (some (.val (.adr p))) ∧ f ∉ ks ∧ ks.length < 1000 ∧ U R noX nf (ks ++ [f]) (xs ++ [d]) env) Rx := rfl
mutual
/-- without tuples and objects -/
def D.nt : D → Bool
  | .lst xs => ntL xs
  | .non | .bl _ | .int _ | .str _ | .ty _ => true
  | .tup _ | .adr _ | .bag | .fn _ _ _ | .exc _ _ _ _ _ | .dct _ _ | .dcT _ _ | .obj _ _ _ => false
def ntL : List D → Bool
  | [] => true
  | x :: xs => x.nt && ntL xs
end
theorem w_nt_lst {xs : List D} : (D.lst xs).nt = ntL xs := rfl
theorem w_nt_int {i : Int} : (D.int i).nt = true := rfl
theorem w_nt_non : D.non.nt = true := rfl
theorem w_nt_bl {b : Bool} : (D.bl b).nt = true := rfl
theorem w_nt_str {s : Str} : (D.str s).nt = true := rfl
theorem w_ntL_nil : ntL [] = true := rfl
theorem w_ntL_cons {x : D} {xs : List D} : ntL (x :: xs) = (x.nt && ntL xs) := rfl
theorem w_ntL_ints {ns : List Int} : ntL (ns.map D.int) = true := by
  induction ns with
  | nil => rfl
  | cons n ns ih => rw [List.map_cons, w_ntL_cons, ih]; rfl
mutual
theorem rep_nt {B : Option Addr} {S H N : Hp} : ∀ (d : D) (v : V) (as : List Addr), d.nt = true → (∀ a ∈ as, N a = H a) → RepT B S H d.tr v as → Rep B N d v
  | .lst xs, v, as, q, h, r => by
    rw [D.tr, RepT] at r
    obtain ⟨a, vs, bs, e, e2, l, rfl⟩ := r
    rw [Rep]
    exact ⟨a, vs, e, (h a List.mem_cons_self).trans e2, repL_nt xs vs bs q (fun b m => h b (List.mem_cons_of_mem _ m)) l⟩
  | .non, v, as, _, _, r | .bl _, v, as, _, _, r | .int _, v, as, _, _, r | .str _, v, as, _, _, r | .ty _, v, as, _, _, r => by
    rw [D.tr, RepT] at r
    exact flat_rep rfl r.1
  | .tup _, _, _, q, _, _ | .adr _, _, _, q, _, _ | .bag, _, _, q, _, _ | .fn _ _ _, _, _, q, _, _ | .obj _ _ _, _, _, q, _, _ | .exc _ _ _ _ _, _, _, q, _, _ | .dct _ _, _, _, q, _, _ | .dcT _ _, _, _, q, _, _ => nomatch (show false = true from q)
theorem repL_nt {B : Option Addr} {S H N : Hp} : ∀ (ds : List D) (vs : List V) (as : List Addr), ntL ds = true → (∀ a ∈ as, N a = H a) → RepTL B S H (D.trs ds) vs as → RepL B N ds vs
  | [], vs, as, _, _, r => by
    rw [D.trs, RepTL] at r
    rw [r.1]
    exact repL_nil
  | d :: ds, vs, as, q, h, r => by
    rw [D.trs, RepTL] at r
    obtain ⟨v, ws, bs, cs, rfl, r1, r2, rfl⟩ := r
    have q : (d.nt && ntL ds) = true := q
    rw [Bool.and_eq_true] at q
    exact repL_cons (rep_nt d v bs q.1 (fun a m => h a (List.mem_append_left _ m)) r1) (repL_nt ds ws cs q.2 (fun a m => h a (List.mem_append_right _ m)) r2)
end
section
variable {X : Cx} {E : XK} {e : Expr} {T : DT}
def xNT (T : DT) : DT := fun env R Rx => T env (fun d => d.nt = true ∧ R d) Rx
theorem w_xNT {env : En} {R : D → Prop} {Rx : Er → Prop} : xNT T env R Rx = T env (fun d => d.nt = true ∧ R d) Rx := rfl
open Classical in
theorem n_ofU (h : DU X E e T) : DN X E e (xNT T) := by
  obtain ⟨t, p, s⟩ := h
  refine ⟨t, p, fun c σ H S env R Rx x k h Q q => s c σ H S env _ Rx x k h Q fun v H1 S1 as d k1 s1 r n g t1 => ?_⟩
  refine q v H1 S1 (fun a => if a ∈ as then H1 a else none) d k1 s1 (fun a o e => ?_) (rep_nt d v as t1.1 (fun a m => if_pos m) r) t1.2
  by_cases z : a ∈ as
  · have e : (if a ∈ as then H1 a else none) = some o := e
    rw [if_pos z] at e
    exact ⟨e, (g a z).1, (g a z).2.1, (g a z).2.2⟩
  · have e : (if a ∈ as then H1 a else none) = some o := e
    rw [if_neg z] at e
    cases e
end
section
variable {X : Cx} {E : XK} {CX : CXT} {k : Nat} {C f : Addr} {fd : FuncData} {ps : List Str} {F : Spec} {x : Str} {e : Expr} {es : List Expr} {Tl : DTA} {pos p : Pos}
theorem sp_makeN {c : Fm} {σ : St} {H S : Hp} {env : En} {vs : List V} {xs : List D} {R : D → Prop} {Rx : Er → Prop} {Q : VK} {a dx : Addr} (kn : Kn c σ H S env) (x : XOk c E Rx) (l : RepL c.B S xs vs) (t : F xs R Rx) (ha : H a = none) (hdx : H dx = none) (ne : dx ≠ a)
    (q : ∀ v H' S' N d, Kn c σ H' S' env → Same S S' → Reg c σ env H' S' N → Rep c.B (uni (tpC S') N) d v → R d → Q v H') : spIN C F (.ref a :: vs) (upd (upd H dx (.own a)) a (.ins C dx [])) (fun v H2 => v = .non ∧ Q (.ref a) H2) E := by
  have k1 := (kn.new0 (o := .own a) hdx)
  have ha1 : upd H dx (.own a) a = none := by rw [upd_ne (Ne.symm ne)]; exact ha
  have k2 := k1.new0 (o := .ins C dx []) ha1
  refine ⟨c.at _ S, S, a, dx, vs, xs, R, Rx, rfl, rfl, rfl, k2.kf.at, upd_same, kn.kf.x_ne ha, kn.kf.s_none ha, l, t, fun H' S' ks ys us k' hl _ ln r' => ⟨rfl, ?_⟩, x.at k2.kf⟩
  have ln := ln rfl
  have h2 : ∀ b o, b ≠ a → b ≠ dx → H b = some o → upd (upd (upd H dx (.own a)) a (.ins C dx [])) a (.ins C dx (ks.zip us)) b = some o := fun b o n1 n2 e => by rw [upd_ne n1, upd_ne n1, upd_ne n2]; exact e
  have hda : H' dx = some (.own a) := k'.old dx _ (by show upd (upd (upd H dx (.own a)) a (.ins C dx [])) a _ dx = _; rw [upd_ne ne, upd_ne ne, upd_same]) (kn.kf.x_ne hdx)
  have haa : H' a = some (.ins C dx (ks.zip us)) := k'.old a _ upd_same (kn.kf.x_ne ha)
  have kS : Kf (c.at H S) H' S := ⟨k'.s0.trans k'.sub, Same.refl S, fun b o eb nb => k'.old b o (h2 b o (fun z => by rw [z] at eb; have : H a = some o := eb; rw [ha] at this; cases this) (fun z => by rw [z] at eb; have : H dx = some o := eb; rw [hdx] at this; cases this) eb) nb, fun b e _ => e, fun b eb => by
    obtain ⟨⟨b1, cs, i, g, st, n, b2, b3, b4⟩, b5⟩ := k'.bag b eb
    obtain ⟨⟨d1, cs', _, _, _, _, d2, d3, _⟩, _⟩ := kn.kf.bag b eb
    have e3 : cs' = cs := by
      have z := k'.s0 _ _ d3
      have z2 : some (HO.lst (cs'.map V.int)) = some (HO.lst (cs.map V.int)) := z.symm.trans b3
      injection z2 with z2
      injection z2 with z2
      exact List.map_inj_right (fun _ _ h => by injection h) |>.mp z2
    subst e3
    exact ⟨⟨d1, cs', i, g, st, n, b2, d3, b4⟩, by show H b ≠ none; rw [d2]; exact fun z => nomatch z⟩, ⟨fun p hp => ⟨(k'.tab.1 p hp).1, (kn.kf.tab.1 p hp).2⟩, fun p hp => kn.kf.tab.1.ne hp⟩⟩
  have knS := kn.back kS
  let H2 := upd (upd H dx (.own a)) a (.ins C dx [])
  have H2a : H2 a = some (.ins C dx []) := upd_same
  have H2d : H2 dx = some (.own a) := by show upd (upd H dx (.own a)) a (.ins C dx []) dx = _; rw [upd_ne ne, upd_same]
  have h2n : ∀ {b}, H2 b = none → H b = none ∧ b ≠ a ∧ b ≠ dx := fun {b} e1 => by
    have n1 : b ≠ a := fun z => by rw [z, H2a] at e1; cases e1
    have n2 : b ≠ dx := fun z => by rw [z, H2d] at e1; cases e1
    have e1 : upd (upd H dx (.own a)) a (.ins C dx []) b = none := e1
    rw [upd_ne n1, upd_ne n2] at e1
    exact ⟨e1, n1, n2⟩
  -- a tuple of S' is one of S or is new
  have tpn : ∀ {b vs0}, S' b = some (.tup vs0) → S b = some (.tup vs0) ∨ (S b = none ∧ H2 b = none) := fun {b vs0} e => by
    cases sb : S b with
    | some o =>
      have := k'.s0 b o sb
      rw [e] at this
      cases this
      exact .inl rfl
    | none =>
      refine .inr ⟨rfl, ?_⟩
      cases hb : H2 b with
      | none => rfl
      | some o =>
        have hm : ¬ Mu (H2 b) := fun m => by
          have nb : b ≠ a := fun z => by
            subst z
            have s1 := k'.new b sb (by show Mu (upd _ b _ b); rw [upd_same]; exact mu_of rfl fun _ z => nomatch z)
            rw [e] at s1
            cases s1
          have s1 := k'.new b sb (by
            show Mu (upd H2 a (.ins C dx (ks.zip us)) b)
            rw [upd_ne nb]
            exact m)
          rw [e] at s1
          cases s1
        have nb : b ≠ a := fun z => hm (by rw [z, H2a]; exact mu_of rfl fun _ z => nomatch z)
        have hx : ¬ Ex c.B b := fun z => by
          have z2 := k'.sub b _ e
          rcases z with z | ⟨q, hq, z⟩
          · have := (k'.bag b z).1.1
            rw [e] at this
            cases this
          · have := (k'.tab.1 q hq).2
            rw [z, e] at this
            cases this
        have h3 : H' b = some o := k'.old b o (by show upd H2 a (.ins C dx (ks.zip us)) b = _; rw [upd_ne nb]; exact hb) hx
        rw [k'.sub b _ e] at h3
        cases h3
        exact absurd (mu_of hb fun _ z => nomatch z) hm
  have g1 : Reg c σ env H' S (newH H2 (tpC S')) := fun b o e => by
    obtain ⟨e1, e2⟩ := newH_some e
    obtain ⟨vs0, rfl, e3⟩ := tpC_of e2
    obtain ⟨e4, n1, n2⟩ := h2n e1
    exact ⟨k'.sub _ _ e3, kn.kf.s_none e4, kn.kf.h0_none e4, kn.free e4⟩
  have kn1 := knS.uni g1
  have sz : ∀ {b}, H b = none → (∀ vs0, S' b ≠ some (.tup vs0)) → uni S (newH H2 (tpC S')) b = none := fun {b} e1 e2 => by
    cases z : uni S (newH H2 (tpC S')) b with
    | none => rfl
    | some o =>
      rcases uni_of z with z | ⟨_, z⟩
      · rw [kn.kf.s_none e1] at z
        cases z
      · obtain ⟨vs0, _, e3⟩ := tpC_of (newH_some z).2
        exact absurd e3 (e2 vs0)
  have sd : ∀ {b}, H b = none → b = a ∨ b = dx → uni S (newH H2 (tpC S')) b = none := fun {b} e1 e2 => by
    cases z : uni S (newH H2 (tpC S')) b with
    | none => rfl
    | some o =>
      rcases uni_of z with z | ⟨_, z⟩
      · rw [kn.kf.s_none e1] at z
        cases z
      · obtain ⟨_, n1, n2⟩ := h2n (newH_some z).1
        rcases e2 with e2 | e2
        · exact absurd e2 n1
        · exact absurd e2 n2
  let N0 : Hp := fun b => match tpC S' b with
    | some _ => none
    | none => newH H2 S' b
  have n0 : ∀ {b o}, N0 b = some o → H2 b = none ∧ S' b = some o ∧ ∀ vs0, S' b ≠ some (.tup vs0) := fun {b o} e => by
    have e : (match tpC S' b with
      | some _ => none
      | none => newH H2 S' b) = some o := e
    split at e
    · cases e
    · rename_i h
      obtain ⟨e1, e2⟩ := newH_some e
      exact ⟨e1, e2, fun vs0 z => by rw [tpC_tup z] at h; cases h⟩
  have n0i : ∀ {b o}, H2 b = none → S' b = some o → (∀ vs0, S' b ≠ some (.tup vs0)) → N0 b = some o := fun {b o} e1 e2 e3 => by
    show (match tpC S' b with
      | some _ => none
      | none => newH H2 S' b) = some o
    cases h : tpC S' b with
    | some o2 =>
      obtain ⟨vs0, _, e4⟩ := tpC_of h
      exact absurd e4 (e3 vs0)
    | none => show newH H2 S' b = some o; rw [newH_of e1]; exact e2
  let S3 : Hp := uni S (newH H2 (tpC S'))
  let N1 : Hp := upd (upd N0 dx (.own a)) a (.ins C dx (ks.zip us))
  have sN : Same (newT H2 S') (uni (tpC S3) N1) := fun b o e => by
    have tup : ∀ vs0, S' b = some (.tup vs0) → uni (tpC S3) N1 b = some (.tup vs0) := fun vs0 e5 => by
      refine uni_l b _ (tpC_tup ?_)
      rcases tpn e5 with z | ⟨z1, z2⟩
      · exact uni_l b _ z
      · show DL.uni S (newH H2 (tpC S')) b = _
        unfold DL.uni
        rw [z1]
        show newH H2 (tpC S') b = _
        rw [newH_of z2]
        exact tpC_tup e5
    rcases newT_of e with ⟨e1, e2⟩ | ⟨vs0, rfl, e2⟩
    · by_cases z : ∃ vs0, S' b = some (.tup vs0)
      · obtain ⟨vs0, z⟩ := z
        rw [z] at e2
        cases e2
        exact tup vs0 z
      · have z2 : ∀ vs0, S' b ≠ some (.tup vs0) := fun vs0 y => z ⟨vs0, y⟩
        obtain ⟨e4, m1, m2⟩ := h2n e1
        have e6 : N1 b = some o := by
          show upd (upd N0 dx (.own a)) a (.ins C dx (ks.zip us)) b = _
          rw [upd_ne m1, upd_ne m2]
          exact n0i e1 e2 z2
        show DL.uni (tpC S3) N1 b = some o
        unfold DL.uni
        cases y : tpC S3 b with
        | none => exact e6
        | some o2 =>
          obtain ⟨vs0, _, e7⟩ := tpC_of y
          have : S3 b = none := sz e4 z2
          rw [this] at e7
          cases e7
    · exact tup vs0 e2
  have tn : ∀ {b}, b = a ∨ b = dx → tpC S3 b = none := fun {b} e => by
    cases y : tpC S3 b with
    | none => rfl
    | some o2 =>
      obtain ⟨vs0, _, e7⟩ := tpC_of y
      have hb : H b = none := by rcases e with rfl | rfl <;> assumption
      have : S3 b = none := sd hb e
      rw [this] at e7
      cases e7
  refine q (.ref a) H' S3 N1 (.obj C ks ys) kn1 uni_l (fun b o e => ?_) ?_ r'
  · have e : upd (upd N0 dx (.own a)) a (.ins C dx (ks.zip us)) b = some o := e
    by_cases z : b = a
    · subst z
      rw [upd_same] at e
      cases e
      exact ⟨haa, sd ha (.inl rfl), kn.kf.h0_none ha, kn.free ha⟩
    · rw [upd_ne z] at e
      by_cases y : b = dx
      · subst y
        rw [upd_same] at e
        cases e
        exact ⟨hda, sd hdx (.inr rfl), kn.kf.h0_none hdx, kn.free hdx⟩
      · rw [upd_ne y] at e
        obtain ⟨e1, e2, e3⟩ := n0 e
        obtain ⟨e4, _, _⟩ := h2n e1
        exact ⟨k'.sub _ _ e2, sz e4 e3, kn.kf.h0_none e4, kn.free e4⟩
  · rw [Rep]
    refine ⟨a, dx, us, rfl, ?_, ?_, hl, repL_mono sN ys us ln⟩
    · show DL.uni (tpC S3) N1 a = _
      unfold DL.uni
      rw [tn (.inl rfl)]
      exact upd_same
    · show DL.uni (tpC S3) N1 dx = _
      unfold DL.uni
      rw [tn (.inr rfl)]
      show upd (upd N0 dx (.own a)) a _ dx = _
      rw [upd_ne ne, upd_same]
/-- values of new parts and of tuples -/
def SmP (E : XK) (t : TE) (T : DT) : Prop := ∀ (c : Fm) (σ : St) (H S : Hp) (env : En) (R : D → Prop) (Rx : Er → Prop), XOk c E Rx → Kn c σ H S env → T env R Rx →
  ∀ Q : VK, (∀ v H' S' N d, Kn c σ H' S' env → Same S S' → Reg c σ env H' S' N → Rep c.B (uni (tpC S') N) d v → R d → Q v H') → t σ H Q
def DP (X : Cx) (E : XK) (e : Expr) (T : DT) : Prop := ∃ t, PE X e t ∧ SmP E t T
theorem tp_uni {c : Fm} {σ : St} {env : En} {H S N : Hp} (g : Reg c σ env H S N) : Same (DL.uni (tpC S) N) (DL.uni S N) := fun a o e => by
  rcases uni_of e with e | ⟨_, e2⟩
  · obtain ⟨vs, rfl, h⟩ := tpC_of e
    exact uni_l a _ h
  · exact uni_r g a o e2
theorem d_ofP {e : Expr} {T : DT} (h : DP X E e T) : DE X E e T := by
  obtain ⟨t, p, s⟩ := h
  exact ⟨t, p, fun c σ H S env R Rx x k h Q q => s c σ H S env R Rx x k h Q fun v H1 S1 N d k1 s1 g r t1 => q v H1 (uni S1 N) d (k1.uni g) (s1.trans uni_l) (rep_mono (tp_uni g) d v r) t1⟩
theorem d_makeN (M : Mk X.K C f) (G : FnOk X.prog X.w X.K X.mg X.base CX k f fd ps (spIN C F)) (hr : Room (k + 1) X.A) (hm : X.mg x = some (.ref C)) (hb : Binds X.K fd ps []) (hx : Passes CX X E) (ha : DA X E (e :: es) Tl)
    (hg : Gl X x := by rfl) (hdb : (x == ("__debug__" : Str)) = false := by decide) (he : starEach (e :: es) X.env = (false, eval e X.env) :: starEach es X.env := by rfl) (hpl : (backTo pos (starEach es X.env)).any (·.1) = false := by rfl) :
    DP X E (.Call (.Name x p) (e :: es) [] pos) (xMake F Tl) := by
  obtain ⟨t, p1, s⟩ := ha
  refine ⟨_, pe_make M G hr hg hm hb .nil hx p1 hdb he hpl, fun c σ H S env R Rx x k t Q q => s c σ H S env _ Rx x k t _ fun vs H1 S1 xs k1 s1 l1 t1 a dx hxa hxd ne => ?_⟩
  rw [List.append_nil]
  exact sp_makeN k1 x l1 t1 hxa hxd ne fun v H' S' N d k' s' g' r' z => q v H' S' N d k' (s1.trans s') g' r' z
end
mutual
theorem rep_dat2 {B : Option Addr} {S H N : Hp} (sub : ∀ a vs, S a = some (.tup vs) → N a = some (.tup vs)) : ∀ (d : D) (v : V) (as : List Addr), d.dat = true → (∀ a ∈ as, N a = H a) → RepT B S H d.tr v as → Rep B N d v
  | .lst xs, v, as, q, h, r => by
    rw [D.tr, RepT] at r
    obtain ⟨a, vs, bs, e, e2, l, rfl⟩ := r
    rw [Rep]
    exact ⟨a, vs, e, (h a List.mem_cons_self).trans e2, repL_dat2 sub xs vs bs q (fun b m => h b (List.mem_cons_of_mem _ m)) l⟩
  | .tup xs, v, as, q, h, r => by
    rw [D.tr, RepT] at r
    obtain ⟨a, vs, e, e2, l⟩ := r
    rw [Rep]
    exact ⟨a, vs, e, sub _ _ e2, repL_dat2 sub xs vs as q h l⟩
  | .non, v, as, _, _, r | .bl _, v, as, _, _, r | .int _, v, as, _, _, r | .str _, v, as, _, _, r => by
    rw [D.tr, RepT] at r
    exact flat_rep rfl r.1
  | .ty _, _, _, q, _, _ | .adr _, _, _, q, _, _ | .bag, _, _, q, _, _ | .fn _ _ _, _, _, q, _, _ | .obj _ _ _, _, _, q, _, _ | .exc _ _ _ _ _, _, _, q, _, _ | .dct _ _, _, _, q, _, _ | .dcT _ _, _, _, q, _, _ => nomatch (show false = true from q)
theorem repL_dat2 {B : Option Addr} {S H N : Hp} (sub : ∀ a vs, S a = some (.tup vs) → N a = some (.tup vs)) : ∀ (ds : List D) (vs : List V) (as : List Addr), datL ds = true → (∀ a ∈ as, N a = H a) → RepTL B S H (D.trs ds) vs as → RepL B N ds vs
  | [], vs, as, _, _, r => by
    rw [D.trs, RepTL] at r
    rw [r.1]
    exact repL_nil
  | d :: ds, vs, as, q, h, r => by
    rw [D.trs, RepTL] at r
    obtain ⟨v, ws, bs, cs, rfl, r1, r2, rfl⟩ := r
    have q : (d.dat && datL ds) = true := q
    rw [Bool.and_eq_true] at q
    exact repL_cons (rep_dat2 sub d v bs q.1 (fun a m => h a (List.mem_append_left _ m)) r1) (repL_dat2 sub ds ws cs q.2 (fun a m => h a (List.mem_append_right _ m)) r2)
end
section
variable {X : Cx} {E : XK} {p dx C : Addr} {rest : List Stmt} {U : ITS} {T : DT} {pos p1 p2 : Pos}
/-- a tree as a value of new lists -/
def xDatU (T : DT) : DT := fun env R Rx => T env (fun d => d.dat = true ∧ R d) Rx
theorem w_xDatU {env : En} {R : D → Prop} {Rx : Er → Prop} : xDatU T env R Rx = T env (fun d => d.dat = true ∧ R d) Rx := rfl
theorem w_ofU {e : Expr} {T : DT} (h : DU X E e T) : DWn X E e (xDatU T) := by
  obtain ⟨t, p, s⟩ := h
  refine ⟨t, p, fun c σ H S env R Rx x k h Q q => s c σ H S env _ Rx x k h Q fun v H1 S1 as d k1 s1 r n g t1 => ?_⟩
  obtain ⟨k2, s2⟩ := k1.frzT g
  have r1 := repT_frz r fun a m => (g a m).1
  rw [tr_d] at r1
  refine q v H1 _ d k2 (s1.trans s2) r1 ?_ t1.2
  have sub : ∀ a vs, S1 a = some (.tup vs) → newT c.H0 (frzS as H1 S1) a = some (.tup vs) := fun a vs e => newT_tup (s2 _ _ e)
  refine rep_dat2 sub d v as t1.1 (fun a m => ?_) r
  cases e : H1 a with
  | none => exact absurd e (r.mu a m).1
  | some o => exact uni_l a o (by rw [newH_of (g a m).2.1, frzS_in m]; exact e)
theorem is_setU {e : Expr} {f : Str} {x0 : Str} (h : DU X E e T) (h2 : DIs X E p dx C rest U) (c0 : Cls X.K C) (n : NoAttr X.K C f) (hN : X.N[0]? = some x0 := by rfl) (hv : Vis X.env.scope x0 := by first | exact Or.inl rfl | exact Or.inr (Or.inl rfl) | exact Or.inr (Or.inr rfl)) (hd : (x0 == ("__debug__" : Str)) = false := by decide)
    (hcd : (x0 == ("__classdict__" : Str)) = false := by decide) (hs : swapsWith e (some (.Attribute (.Name x0 p1) f p2)) pos.line X.env = pure false := by rfl) : DIs X E p dx C (.Assign [.Attribute (.Name x0 p1) f p2] e pos :: rest) (jSetN p f (xDatU T) U) := is_setW (w_ofU h) h2 c0 n hN hv hd hcd hs
end
section
variable {X : Cx} {E : XK} {a b c : Expr} {Ta Tb : DT} {TFa TFb : DTF} {TT : DTT} {pos : Pos}
theorem u_if (h : DTe X E c TT) (ha : DU X E a Ta) (hb : DU X E b Tb) : DU X E (.IfExp c a b pos) (xIf TT Ta Tb) := by
  obtain ⟨t, p, s⟩ := h
  obtain ⟨ta, p1, s1⟩ := ha
  obtain ⟨tb, p2, s2⟩ := hb
  refine ⟨_, pe_ifExp p p1 p2, fun c σ H S env R Rx x k t Q q => s c σ H S env _ Rx x k t _ fun bb H1 S1 k1 s3 t1 => ?_⟩
  cases bb with
  | true => exact iteT (s1 c σ H1 S1 env R Rx x k1 (t1.1 rfl) Q fun v H2 S2 as d k2 s4 r n g => q v H2 S2 as d k2 (s3.trans s4) r n g)
  | false => exact iteF (s2 c σ H1 S1 env R Rx x k1 (t1.2 rfl) Q fun v H2 S2 as d k2 s4 r n g => q v H2 S2 as d k2 (s3.trans s4) r n g)
/-- a, b = new lists, both of the frame's own -/
def zParOO (i j : Nat) (Ta : DTF) (Tb : DTF) : DTS := fun Q env => Ta env (fun ds => Tb (valE env) (fun es => Q.nx (putO' j es (putO' i ds env))) Q.ex) Q.ex
theorem w_parOO {i j : Nat} {Q : DEnds} {env : En} : zParOO i j TFa TFb Q env = TFa env (fun ds => TFb (valE env) (fun es => Q.nx (putO' j es (putO' i ds env))) Q.ex) Q.ex := rfl
end
end DL
namespace DL
open PySem PySem.Spec L2
variable [TbC]
section
variable {X : Cx}
def opIsNotB : DOp := fun x y R => ∃ b c, x = .bl b ∧ y = .bl c ∧ R (.bl (!decide (b = c)))
theorem w_isNotB {b c : Bool} {R : D → Prop} : opIsNotB (.bl b) (.bl c) R = R (.bl (!decide (b = c))) := by
  refine propext ⟨fun ⟨b2, c2, e1, e2, q⟩ => ?_, fun q => ⟨b, c, rfl, rfl, q⟩⟩
  cases e1
  cases e2
  exact q
end
end DL
namespace Hx
open PySem PySem.Spec L2
structure CvV (K : PySem.W.Frag) (C : Addr) (f : Str) (v : V) : Prop where
  rd : ClX.CRead K C (.type "type")
  vl : ∃ u, ClX.CVal K C (.type "type") f v u
theorem cv_ok {K : PySem.W.Frag} {x f : Str} {v : V} (h : fCv x f v K = true) : CvV K (He.ga K x) f v := by
  obtain ⟨h1, h⟩ := He.ba h
  obtain ⟨h2, h3⟩ := He.ba h
  refine ⟨⟨h1, He.eqO_ok h2⟩, ?_⟩
  split at h3
  · rename_i u e
    exact ⟨u, e, relB_ok h3⟩
  · cases h3
end Hx
namespace DL
open PySem PySem.Spec L2
variable [TbC]
def xCv (d : D) : DT := fun _ R _ => R d
theorem w_xCv {d : D} {env : En} {R : D → Prop} {Rx : Er → Prop} : xCv d env R Rx = R d := rfl
/-- x == y, x an own object, y a list -/
def opOwnL (C : Addr) (F : Spec) : DOp := fun x y R => asO C (fun _ _ => True) x ∧ (∃ ys, y = .lst ys) ∧ F [x, y] R noX
theorem w_opOwnL {C : Addr} {F : Spec} {x : D} {ys : List D} {R : D → Prop} : opOwnL C F x (.lst ys) R = (asO C (fun _ _ => True) x ∧ F [x, .lst ys] R noX) := by
  apply propext
  exact ⟨fun ⟨a, _, b⟩ => ⟨a, b⟩, fun ⟨a, b⟩ => ⟨a, ⟨_, rfl⟩, b⟩⟩
def xTruLen (C : Addr) (F : Spec) (Ta : DT) : DTT := fun env R Rx => Ta env (fun x => asO C (fun _ _ => True) x ∧ F [x] (natR fun d => match d with | .int n => R (n != 0) | _ => False) noX) Rx
theorem w_xTruLen {C : Addr} {F : Spec} {Ta : DT} {env : En} {R : Bool → Prop} {Rx : Er → Prop} : xTruLen C F Ta env R Rx = Ta env (fun x => asO C (fun _ _ => True) x ∧ F [x] (natR fun d => match d with | .int n => R (n != 0) | _ => False) noX) Rx := rfl
end DL
namespace L2
open PySem PySem.Spec PyProof.Rows
end L2
namespace DL
open PySem PySem.Spec L2
end DL
namespace DL
open PySem PySem.Spec L2
variable [TbC]
mutual
def D.nos : D → Bool
  | .lst _ => false
  | .tup xs => nosL xs
  | .non | .bl _ | .int _ | .str _ | .ty _ | .adr _ | .bag | .fn _ _ _ | .obj _ _ _ | .exc _ _ _ _ _ | .dct _ _ | .dcT _ _ => true
def nosL : List D → Bool
  | [] => true
  | x :: xs => x.nos && nosL xs
end
theorem w_nos_tup {xs : List D} : D.nos (.tup xs) = nosL xs := rfl
theorem w_nos_non : D.nos .non = true := rfl
theorem w_nos_bl {b : Bool} : D.nos (.bl b) = true := rfl
theorem w_nos_int {i : Int} : D.nos (.int i) = true := rfl
theorem w_nos_str {s : Str} : D.nos (.str s) = true := rfl
theorem w_nos_obj {C : Addr} {ks : List Str} {xs : List D} : D.nos (.obj C ks xs) = true := rfl
theorem w_nosL_nil : nosL [] = true := rfl
theorem w_nosL_cons {x : D} {xs : List D} : nosL (x :: xs) = (x.nos && nosL xs) := rfl
section
variable {X : Cx} {E : XK} {e : Expr} {T : DT} {TF : DTF}
def xNos (T : DT) : DT := fun env R Rx => T env (fun d => d.nos = true ∧ R d) Rx
theorem w_xNos {env : En} {R : D → Prop} {Rx : Er → Prop} : xNos T env R Rx = T env (fun d => d.nos = true ∧ R d) Rx := rfl
/-- a new list of things without lists -/
def xFNos (TF : DTF) : DT := fun env R Rx => TF env (fun ds => nosL ds = true ∧ R (.lst ds)) Rx
theorem w_xFNos {env : En} {R : D → Prop} {Rx : Er → Prop} : xFNos TF env R Rx = TF env (fun ds => nosL ds = true ∧ R (.lst ds)) Rx := rfl
/-- .. as a list of its own -/
def xNFol (T : DT) : DTF := fun env R Rx => T env (fun d => match d with
  | .lst ds => nosL ds = true ∧ R ds
  | _ => False) Rx
theorem w_xNFol {env : En} {R : List D → Prop} {Rx : Er → Prop} : xNFol T env R Rx = T env (fun d => match d with
  | .lst ds => nosL ds = true ∧ R ds
  | _ => False) Rx := rfl
end
end DL
namespace DL
open PySem PySem.Spec L2
variable [TbC]
section
variable {X : Cx} {E : XK} {e : Expr} {T : DT} {p pos : Pos}
def xTupC (T : DT) : DT := fun env R Rx => T env (fun d => match d with
  | .lst xs => R (.tup xs)
  | _ => False) Rx
theorem w_xTupC {env : En} {R : D → Prop} {Rx : Er → Prop} : xTupC T env R Rx = T env (fun d => match d with
  | .lst xs => R (.tup xs)
  | _ => False) Rx := rfl
theorem u_tupC (h : DU X E e T) (hm : X.mg "tuple" = none) (hv : bootBuiltins "tuple" = some (.type "tuple")) (hg : Gl X "tuple" := by rfl) (he : starEach [e] X.env = (false, eval e X.env) :: starEach [] X.env := by rfl) (hpl : (backTo pos (starEach [] X.env)).any (·.1) = false := by rfl) : DU X E (.Call (.Name "tuple" p) [e] [] pos) (xTupC T) := by
  obtain ⟨t, pt, s⟩ := h
  refine ⟨_, pe_callTy call_tuple_of hg hm hv (pa_cons pt pa_nil he) (by decide) (by decide) he hpl, fun c σ H S env R Rx x k t0 Q q => ?_⟩
  refine s c σ H S env _ Rx x k t0 _ fun v H1 S1 as d k1 s1 r n g t1 => ?_
  cases d <;> try exact (show False from t1).elim
  rename_i xs
  rw [D.tr, RepT] at r
  obtain ⟨a, vs, bs, rfl, e1, l, rfl⟩ := r
  refine ⟨a, vs, rfl, .inl ⟨SqL.of e1, fun l0 hl => ?_⟩⟩
  have nb : ∀ b ∈ bs, b ≠ l0 := fun b m z => by
    have := (RepTL.mu l b m).1
    rw [z] at this
    exact this hl
  have s2 : Same S1 (upd S1 l0 (.tup vs)) := same_upd (k1.kf.s_none hl)
  refine q _ _ _ bs (.tup xs) (k1.new hl) (s1.trans s2) ?_ (List.nodup_cons.mp n).2 (fun b m => ?_) t1
  · rw [D.tr, RepT]
    exact ⟨l0, vs, rfl, upd_same, repTL_mono s2 _ _ _ (fun b m o e => by rw [upd_ne (nb b m)]; exact e) l⟩
  · obtain ⟨g1, g2, g3⟩ := g b (List.mem_cons_of_mem _ m)
    exact ⟨by rw [upd_ne (nb b m)]; exact g1, g2, g3⟩
end
section
variable {X : Cx} {E : XK} {pos : Pos} {a b : Expr} {TFa : DTF} {Tb : DT}
def zPar2O (i j : Nat) (Ta : DTF) (Tb : DT) : DTS := fun Q env => Ta env (fun ds => Tb (valE env) (fun d => Q.nx (put j d (putO' i ds env))) Q.ex) Q.ex
theorem w_par2O {i j : Nat} {Q : DEnds} {env : En} : zPar2O i j TFa Tb Q env = TFa env (fun ds => Tb (valE env) (fun d => Q.nx (put j d (putO' i ds env))) Q.ex) Q.ex := rfl
end
end DL
namespace DL
open PySem PySem.Spec L2
variable [TbC]
def fMin1 : DFn
  | [.lst xs], R => ∃ ns, asInts xs = some ns ∧ 0 < ns.length ∧ ∀ m, m ∈ ns → (∀ y, y ∈ ns → m ≤ y) → R (.int m)
  | _, _ => False
theorem w_fMin1 {xs : List D} {R : D → Prop} : fMin1 [.lst xs] R = ∃ ns, asInts xs = some ns ∧ 0 < ns.length ∧ ∀ m, m ∈ ns → (∀ y, y ∈ ns → m ≤ y) → R (.int m) := rfl
end DL
namespace DL
open PySem PySem.Spec L2
variable [TbC]
section
variable {X : Cx} {E : XK} {C : Addr} {x : Str} {p pos : Pos}
theorem run_make00 {pins : List (Addr × Obj)} {σ : St} {H : Hp} {s : Shared} {Q : VK} (M : Hx.Mk0 X.K C) (I : Inv X pins σ H s)
    (h : ∀ x dx, H x = none → H dx = none → dx ≠ x → Q (.ref x) (upd (upd H dx (.own x)) x (.ins C dx []))) :
    wpAny (model X.prog X.w) X.A (call (.ref C) []) (EP X pins σ Q) X.xe s := by
  have hq := h (s.heap.objs.size + 1) s.heap.objs.size (I.hok.fresh (Nat.le_succ _)) (I.hok.fresh (Nat.le_refl _)) (Nat.ne_of_lt (Nat.lt_succ_self _))
  have I2 := Inv.made (C := C) I
  have Y := PySem.W.makes_of (M := model X.prog X.w) I.kIn M.makes
  refine wpAny_call (make_map0 I.kIn M.makes M.init (fun self => PySem.W.Looks.of_pure (PySem.W.oi_bind self)) ?_)
  have e1 : ((s.heap.push PySem.W.emptyDict).push (PySem.W.instObj C s.heap.objs.size)).get? (s.heap.objs.size + 1) = some (PySem.W.instObj C s.heap.objs.size) := by
    have := Heap.get?_push_size (s.heap.push PySem.W.emptyDict) (o := PySem.W.instObj C s.heap.objs.size) rfl
    rwa [Heap.size_push] at this
  have t1 : PySem.W.Looks (model X.prog X.w) ((s.heap.push PySem.W.emptyDict).push (PySem.W.instObj C s.heap.objs.size)) (typeOf (.ref (s.heap.objs.size + 1))) (.ref C) := (PySem.W.Looks.ld e1).andThen .now
  have t2 : PySem.W.Looks (model X.prog X.w) ((s.heap.push PySem.W.emptyDict).push (PySem.W.instObj C s.heap.objs.size)) (isInstance (.ref (s.heap.objs.size + 1)) (.type "object")) true := t1.andThen (Y.top.keeps fun b o e => Heap.get?_push_of_some _ (Heap.get?_push_of_some _ e))
  refine codeAny_call_builtin PySem.W.oi_plain PySem.W.entry_oi (@PySem.W.check_slot (model X.prog X.w) _ _ _ "object.__init__" "object" "__init__" (.ref (s.heap.objs.size + 1)) [] [] _ PySem.W.oi_kind PySem.W.oi_split t2 (PySem.W.oi_args (.ref (s.heap.objs.size + 1))) ?_)
  rw [PySem.W.oi_run]
  exact wpAny_pure (And.intro rfl ⟨V.ref (s.heap.objs.size + 1), _, I2, rfl, hq⟩)
def tMake00 (C : Addr) : TE := fun _ H Q => ∀ x dx, H x = none → H dx = none → dx ≠ x → Q (.ref x) (upd (upd H dx (.own x)) x (.ins C dx []))
theorem pe_make00 (M : Hx.Mk0 X.K C) (hg : Gl X x) (hm : X.mg x = some (.ref C)) (hdb : (x == ("__debug__" : Str)) = false := by decide) : PE X (.Call (.Name x p) [] [] pos) (tMake00 C) := by
  refine ⟨fun pins s σ H Q I h => ?_⟩
  refine wpAny_Call_Name_kw (ld_glob I hg hm ?_ hdb)
  exact PySem.W.callWith_K0 I.kIn M.kp (run_make00 M I h)
def xMake00 (C : Addr) : DT := fun _ R _ => R (.obj C [] [])
theorem w_xMake00 {env : En} {R : D → Prop} {Rx : Er → Prop} : xMake00 C env R Rx = R (.obj C [] []) := rfl
/-- C(), C without an own __init__ -/
theorem d_make00 (M : Hx.Mk0 X.K C) (hm : X.mg x = some (.ref C)) (hg : Gl X x := by rfl) (hdb : (x == ("__debug__" : Str)) = false := by decide) : DE X E (.Call (.Name x p) [] [] pos) (xMake00 C) := by
  refine ⟨_, pe_make00 M hg hm hdb, fun c σ H S env R Rx xo k t Q q => fun a dx ha hdx ne => ?_⟩
  have k1 := k.new (o := .own a) hdx
  have ha1 : upd H dx (.own a) a = none := by rw [upd_ne (Ne.symm ne)]; exact ha
  have k2 := k1.new (o := .ins C dx []) ha1
  have s1 : Same S (upd S dx (.own a)) := same_upd (k.kf.s_none hdx)
  have s2 : Same (upd S dx (.own a)) (upd (upd S dx (.own a)) a (.ins C dx [])) := same_upd (by rw [upd_ne (Ne.symm ne)]; exact k.kf.s_none ha)
  refine q (.ref a) _ _ (.obj C [] []) k2 (s1.trans s2) ?_ t
  rw [Rep]
  exact ⟨a, dx, [], rfl, upd_same, by rw [upd_ne ne, upd_same], rfl, repL_nil⟩
/-- isinstance(v, C), v of another own class C' -/
def fIsiK (C' C : Addr) (b : Bool) : DFn
  | [.obj D _ _, .adr c], R => D = C' ∧ c = C ∧ R (.bl b)
  | _, _ => False
theorem w_fIsiK {C' : Addr} {b : Bool} {D c : Addr} {ks : List Str} {xs : List DL.D} {R : DL.D → Prop} : fIsiK C' C b [.obj D ks xs, .adr c] R = (D = C' ∧ c = C ∧ R (.bl b)) := rfl
theorem b_isiK {C' : Addr} {b : Bool} (i : PySem.W.kitOne X.K (.ref C') (.ref C) = some b) (hc : Cls X.K C') (hi : Hx.Isc X.K C') : CallOk X (.builtin "isinstance") (fIsiK C' C b) := by
  refine ⟨_, call_isi, fun c σ H S env xs vs R k r t Q q => ?_⟩
  unfold fIsiK at t
  split at t <;> try exact t.elim
  obtain ⟨rfl, rfl, t⟩ := t
  obtain ⟨v, v', rfl, r1, r2⟩ := rep2 r
  obtain ⟨a, dx, us, rfl, h1, _, l1⟩ := obj_of k r1
  exact ⟨.ref a, v', _, _, b, rfl, by rw [show v' = _ from r2]; exact .own _, .base (.ins h1 hc hi.ca hi.cn hi.ct hi.cm), i, q _ H S (.bl b) k (Same.refl S) rfl t⟩
end
theorem kit_at {K : PySem.W.Frag} {C' D A : Addr} {b : Bool} (e : D = A) (h : PySem.W.kitOne K (.ref C') (.ref A) = some b) : PySem.W.kitOne K (.ref C') (.ref D) = some b := by
  rw [e]
  exact h
theorem repTL_get {B : Option Addr} {S H : Hp} : ∀ {ts : List T} {vs : List V} {as : List Addr} {j : Nat} {t : T}, RepTL B S H ts vs as → ts[j]? = some t → ∃ v bs, vs[j]? = some v ∧ RepT B S H t v bs ∧ ∀ b ∈ bs, b ∈ as
  | [], _, _, _, _, _, e => by cases e
  | t0 :: ts, vs, as, j, t, r, e => by
    rw [RepTL] at r
    obtain ⟨v, ws, bs, cs, rfl, r1, r2, rfl⟩ := r
    cases j with
    | zero =>
      cases e
      exact ⟨v, bs, rfl, r1, fun b m => List.mem_append_left _ m⟩
    | succ j =>
      obtain ⟨v2, bs2, e2, r3, s⟩ := repTL_get (ts := ts) r2 e
      exact ⟨v2, bs2, e2, r3, fun b m => List.mem_append_right _ (s b m)⟩
section
variable {X : Cx} {E : XK} {b ix a : Expr} {Tb Ti Ta : DT} {pos : Pos}
def zAppU (Tb : DT) (k : Int) (Ta : DT) : DTS := fun Q env => Tb env (fun d => ∃ xs j ys, d = .lst xs ∧ ixN xs.length k = some j ∧ xs[j]? = some (.lst ys) ∧ ys.length < sizeLine ∧ Ta (valE env) (fun _ => Q.nx env) Q.ex) Q.ex
theorem w_appU {k : Int} {Q : DEnds} {env : En} : zAppU Tb k Ta Q env = Tb env (fun d => ∃ xs j ys, d = .lst xs ∧ ixN xs.length k = some j ∧ xs[j]? = some (.lst ys) ∧ ys.length < sizeLine ∧ Ta (valE env) (fun _ => Q.nx env) Q.ex) Q.ex := rfl
theorem s_appU {k : Int} {jj : Nat} {p1 p3 apos p2 : Pos} (hb : DU X E b Tb) (h : DE X E a Ta)
    (hp : ∀ {to te : TE}, PE X (.Subscript b (.Constant (.int k) jj p1) p3) to → PE X a te → PE X (.Call (.Attribute (.Subscript b (.Constant (.int k) jj p1) p3) "append" apos) [a] [] p2) (tBM X.K "list" rAppend to (tCons te tNil)))
    (hs : swapsWith (.Call (.Attribute (.Subscript b (.Constant (.int k) jj p1) p3) "append" apos) [a] [] p2) none pos.line X.env = pure false := by rfl) :
    DS X E (.Expr (.Call (.Attribute (.Subscript b (.Constant (.int k) jj p1) p3) "append" apos) [a] [] p2) pos) (zAppU Tb k Ta) := by
  obtain ⟨tb, pb, sb⟩ := hb
  obtain ⟨te, pe, se⟩ := h
  refine ⟨_, ps_expr (hp (pe_ix ix_seq pb pe_int fun _ _ => rfl) pe) hs, fun c σ H S env Q x kn t D m => ?_⟩
  refine sb c σ H S env _ _ x kn t _ fun v H1 S1 as d k1 s1 r n g t1 => ?_
  obtain ⟨xs, j, ys, rfl, ej, ey, hl, t1⟩ := t1
  rw [D.tr, RepT] at r
  obtain ⟨a0, vs, bs, rfl, e0, l, rfl⟩ := r
  obtain ⟨w, cs, ew, rw0, sub⟩ := repTL_get l (trs_at ey)
  rw [D.tr, RepT] at rw0
  obtain ⟨b0, ws, ds, rfl, eb, lw, rfl⟩ := rw0
  obtain ⟨n1, n2, n3⟩ := g b0 (List.mem_cons_of_mem _ (sub b0 List.mem_cons_self))
  refine .inl ⟨a0, vs, k, .ref b0, rfl, rfl, SqL.of e0, ?_, ?_⟩
  · unfold atI
    rw [l.len, trs_length, ej]
    exact ew
  refine ⟨.inl ⟨rfl, ws, SqL.of eb⟩, se (c.at H1 S1) σ H1 S1 (valE env) _ _ (x.at k1.kf) k1.vals t1 _ fun u H2 S2 d k2 s2 r2 t2 => ?_⟩
  have k3 := k1.back k2.kf
  have e2 := k2.kf.old b0 _ eb (k1.kf.x_ne0 n2)
  have n4 : S2 b0 = none := k2.kf.new b0 n1 (mu_lst eb)
  exact ⟨b0, ws, u, rfl, rfl, e2, by rw [lw.len, trs_length]; exact hl, m.1 σ _ S2 env (k3.updF n4 n2 e2 lst_ne n3) (s1.trans s2) t2⟩
end
end DL
namespace DL
open PySem PySem.Spec L2
variable [TbC]
mutual
def keyN : D → NestedKey
  | .bl b => .num (if b = true then 1 else 0)
  | .int i => .num i
  | .str s => .text s
  | .tup xs => .tup (keyNs xs)
  | _ => .none
def keyNs : List D → List NestedKey
  | [] => []
  | d :: ds => keyN d :: keyNs ds
end
mutual
def D.kok : D → Bool
  | .non | .bl _ | .int _ | .str _ => true
  | .tup xs => kokL xs
  | _ => false
def kokL : List D → Bool
  | [] => true
  | d :: ds => d.kok && kokL ds
end
/-- a key of a dict: a tuple -/
def D.key : D → Bool
  | .tup xs => kokL xs && decide ((NestedKey.tup (keyNs xs)).depth ≤ 8)
  | _ => false
/-- the dict at a: its keys, where they stand, its values -/
def DnO (P : Program) (w : World) (a : Addr) (es : List (NestedKey × Addr × V)) : HO := .ext fun h => es.length ≤ sizeLine ∧ (a == sysModules) = false ∧ (es.map (·.1)).Nodup ∧
  ∃ (o : Obj) (ents : Array DictEntry) (ep : Nat) (xs : List (NestedKey × Addr × Value)), h.get? a = some o ∧ o.ExactDict ∧ o.data = .dict ents ep ∧ ents.toList = xs.map (entryOfKey (nestedKind P w)) ∧ Paired (fun p q => p.1 = q.1 ∧ p.2.1 = q.2.1 ∧ RelV p.2.2 q.2.2) es xs
inductive Nd where
  | lst (xs : List D)
  | dct (ks : List Key) (xs : List D)
  | dcT (ks : List (List Key)) (xs : List D)
  | ins (C dx : Addr) (ks : List Str) (xs : List D)
  | st (w : World) (S : Int → Bool) (n : Nat)
  | dn (P : Program) (w : World) (ks xs : List D)
abbrev Mem := Addr → Option Nd
def mset (M : Mem) (a : Addr) (n : Nd) : Mem := fun b => if b = a then some n else M b
theorem mset_same {M : Mem} {a : Addr} {n : Nd} : mset M a n a = some n := if_pos rfl
theorem mset_ne {M : Mem} {a b : Addr} {n : Nd} (h : b ≠ a) : mset M a n b = M b := if_neg h
theorem mset_mset {M : Mem} {a : Addr} {n m : Nd} : mset (mset M a n) a m = mset M a m := by
  funext b
  unfold mset
  split <;> rfl
/-- a heap of one object again and again -/
theorem rep_get {n a : Nat} {o o' : Obj} (h : Heap.get? ⟨Array.replicate n o, {}⟩ a = some o') : o' = o := by
  unfold Heap.get? at h
  by_cases z : a < n
  · have e : (Array.replicate n o)[a]? = some o := by simp [z]
    rw [e] at h
    split at h
    · cases h
    · rename_i x y
      simp only [Option.some.injEq] at y h
      first | exact h.symm | (cases h; rfl) | (rw [← h, ← y])
  · have e : (Array.replicate n o)[a]? = none := by simp; omega
    rw [e] at h
    cases h
/-- a set is no code object, no lambda -/
theorem set_fx {w : World} {a : Addr} {S : Int → Bool} {n : Nat} : ¬ Fx (SetO w a S n) := fun z => by
  rcases z with ⟨c, q, z⟩ | ⟨f, i, cl, dV, c', z⟩
  · injection z with z
    have e := congrFun z ⟨Array.replicate (c + 1) { cls := .none, data := .fields #[.none, .str q default] }, {}⟩
    have hs := e.mpr ⟨{ cls := .none, data := .fields #[.none, .str q default] }, #[.none, .str q default], default, by
      unfold Heap.get?
      have e : (Array.replicate (c + 1) ({ cls := .none, data := .fields #[.none, .str q default] } : Obj))[c]? = some { cls := .none, data := .fields #[.none, .str q default] } := by simp
      rw [e], rfl, rfl⟩
    obtain ⟨o, es, ep, t, ho, _, hd, _⟩ := hs
    rw [rep_get ho] at hd
    cases hd
  · injection z with z
    have e := congrFun z ⟨Array.replicate (f + 1) (PySem.W.kdv_obj "<lambda>" (TbC.lq i).qual (TbC.lq i).params (.expr (TbC.lq i).body) (TbC.lq i).scope (L2.cloFrom cl (TbC.lq i).scope.names []) dV .none .none c' .none), {}⟩
    have hs := e.mpr ⟨.none, .none, .none, by
      unfold Heap.get?
      have e : (Array.replicate (f + 1) (PySem.W.kdv_obj "<lambda>" (TbC.lq i).qual (TbC.lq i).params (.expr (TbC.lq i).body) (TbC.lq i).scope (L2.cloFrom cl (TbC.lq i).scope.names []) dV .none .none c' .none))[f]? = some (PySem.W.kdv_obj "<lambda>" (TbC.lq i).qual (TbC.lq i).params (.expr (TbC.lq i).body) (TbC.lq i).scope (L2.cloFrom cl (TbC.lq i).scope.names []) dV .none .none c' .none) := by simp
      rw [e]; first | done | rfl⟩
    obtain ⟨o, es, ep, t, ho, _, hd, _⟩ := hs
    rw [rep_get ho] at hd
    cases hd
theorem dn_fx {P : Program} {w : World} {a : Addr} {es : List (NestedKey × Addr × V)} (h0 : es.length ≤ sizeLine ∧ (a == sysModules) = false ∧ (es.map (·.1)).Nodup) : ¬ Fx (DnO P w a es) := fun z => by
  rcases z with ⟨c, q, z⟩ | ⟨f, i, cl, dV, c', z⟩
  · injection z with z
    have e := congrFun z ⟨Array.replicate (c + 1) { cls := .none, data := .fields #[.none, .str q default] }, {}⟩
    have hs := e.mpr ⟨{ cls := .none, data := .fields #[.none, .str q default] }, #[.none, .str q default], default, by
      unfold Heap.get?
      have e : (Array.replicate (c + 1) ({ cls := .none, data := .fields #[.none, .str q default] } : Obj))[c]? = some { cls := .none, data := .fields #[.none, .str q default] } := by simp
      rw [e], rfl, rfl⟩
    obtain ⟨_, _, _, o, ents, ep, xs, ho, _, hd, _⟩ := hs
    rw [rep_get ho] at hd
    cases hd
  · injection z with z
    have e := congrFun z ⟨Array.replicate (f + 1) (PySem.W.kdv_obj "<lambda>" (TbC.lq i).qual (TbC.lq i).params (.expr (TbC.lq i).body) (TbC.lq i).scope (L2.cloFrom cl (TbC.lq i).scope.names []) dV .none .none c' .none), {}⟩
    have hs := e.mpr ⟨.none, .none, .none, by
      unfold Heap.get?
      have e : (Array.replicate (f + 1) (PySem.W.kdv_obj "<lambda>" (TbC.lq i).qual (TbC.lq i).params (.expr (TbC.lq i).body) (TbC.lq i).scope (L2.cloFrom cl (TbC.lq i).scope.names []) dV .none .none c' .none))[f]? = some (PySem.W.kdv_obj "<lambda>" (TbC.lq i).qual (TbC.lq i).params (.expr (TbC.lq i).body) (TbC.lq i).scope (L2.cloFrom cl (TbC.lq i).scope.names []) dV .none .none c' .none) := by simp
      rw [e]; first | done | rfl⟩
    obtain ⟨_, _, _, o, ents, ep, xs, ho, _, hd, _⟩ := hs
    rw [rep_get ho] at hd
    cases hd
/-- keys where they stand, values -/
def zip3 : List D → List Addr → List V → List (NestedKey × Addr × V)
  | k :: ks, a :: as, v :: vs => (keyN k, a, v) :: zip3 ks as vs
  | _, _, _ => []
def KeysOk (ks : List D) : Prop := (keyNs ks).Nodup ∧ ∀ k ∈ ks, k.key = true
theorem zip3_keys : ∀ {ks : List D} {as : List Addr} {vs : List V}, as.length = ks.length → vs.length = ks.length → (zip3 ks as vs).map (·.1) = keyNs ks
  | [], _, _, _, _ => by simp [zip3, keyNs]
  | k :: ks, [], _, h, _ => by simp at h
  | k :: ks, a :: as, [], _, h => by simp at h
  | k :: ks, a :: as, v :: vs, h1, h2 => by
    rw [zip3, List.map_cons, zip3_keys (by simpa using h1) (by simpa using h2)]
    rfl
theorem zip3_length : ∀ {ks : List D} {as : List Addr} {vs : List V}, (zip3 ks as vs).length ≤ ks.length
  | [], _, _ => by simp [zip3]
  | k :: ks, [], _ => by simp [zip3]
  | k :: ks, a :: as, [] => by simp [zip3]
  | k :: ks, a :: as, v :: vs => by
    rw [zip3, List.length_cons, List.length_cons]
    exact Nat.succ_le_succ zip3_length
theorem dn_h0 {a : Addr} {ks xs : List D} {as : List Addr} {vs : List V} (n : xs.length = ks.length) (z1 : ks.length ≤ sizeLine) (z2 : (a == sysModules) = false) (hk : KeysOk ks) (l1 : (as.map V.ref).length = ks.length) (l2 : vs.length = xs.length) :
    (zip3 ks as vs).length ≤ sizeLine ∧ (a == sysModules) = false ∧ ((zip3 ks as vs).map (·.1)).Nodup := by
  rw [List.length_map] at l1
  refine ⟨Nat.le_trans zip3_length z1, z2, ?_⟩
  rw [zip3_keys l1 (by omega)]
  exact hk.1
def NdR (B : Option Addr) (S H : Hp) (a : Addr) : Nd → Prop
  | .lst xs => ∃ vs, H a = some (.lst vs) ∧ RepL B S xs vs
  | .dct ks xs => ∃ vs, H a = some (.dK (ks.zip vs)) ∧ xs.length = ks.length ∧ RepL B S xs vs
  | .dcT ks xs => ∃ vs, H a = some (.dT (ks.zip vs)) ∧ xs.length = ks.length ∧ RepL B S xs vs
  | .ins C dx ks xs => ∃ vs, H a = some (.ins C dx (ks.zip vs)) ∧ H dx = some (.own a) ∧ xs.length = ks.length ∧ RepL B S xs vs
  | .st w s n => H a = some (SetO w a s n)
  | .dn P w ks xs => ∃ (as : List Addr) (vs : List V), H a = some (DnO P w a (zip3 ks as vs)) ∧ xs.length = ks.length ∧ ks.length ≤ sizeLine ∧ (a == sysModules) = false ∧ KeysOk ks ∧ RepL B S ks (as.map V.ref) ∧ RepL B S xs vs
/-- what belongs to the store -/
def MF (M : Mem) (b : Addr) : Prop := M b ≠ none ∨ ∃ a C ks xs, M a = some (.ins C b ks xs)
noncomputable instance mfDec (M : Mem) (b : Addr) : Decidable (MF M b) := Classical.propDecidable _
theorem MF.of {M : Mem} {a : Addr} {n : Nd} (h : M a = some n) : MF M a := .inl (by rw [h]; exact fun z => nomatch z)
theorem NdR.keep {B : Option Addr} {S S' H H' : Hp} {a : Addr} : ∀ {n : Nd}, Same S S' → (∀ b, b = a ∨ (∃ C ks xs, n = .ins C b ks xs) → ∀ o, H b = some o → H' b = some o) → NdR B S H a n → NdR B S' H' a n
  | .lst xs, s, q, r => by
    obtain ⟨vs, e, l⟩ := r
    exact ⟨vs, q a (.inl rfl) _ e, repL_mono s xs vs l⟩
  | .dct ks xs, s, q, r => by
    obtain ⟨vs, e, n, l⟩ := r
    exact ⟨vs, q a (.inl rfl) _ e, n, repL_mono s xs vs l⟩
  | .dcT ks xs, s, q, r => by
    obtain ⟨vs, e, n, l⟩ := r
    exact ⟨vs, q a (.inl rfl) _ e, n, repL_mono s xs vs l⟩
  | .ins C dx ks xs, s, q, r => by
    obtain ⟨vs, e, e2, n, l⟩ := r
    exact ⟨vs, q a (.inl rfl) _ e, q dx (.inr ⟨_, _, _, rfl⟩) _ e2, n, repL_mono s xs vs l⟩
  | .st w s n, _, q, r => q a (.inl rfl) _ r
  | .dn P w ks xs, s, q, r => by
    obtain ⟨as, vs, e, n, z1, z2, hk, l1, l2⟩ := r
    exact ⟨as, vs, q a (.inl rfl) _ e, n, z1, z2, hk, repL_mono s ks _ l1, repL_mono s xs vs l2⟩
theorem NdR.mu {B : Option Addr} {S H : Hp} {a : Addr} : ∀ {n : Nd}, NdR B S H a n → Mu (H a)
  | .lst xs, r => by obtain ⟨vs, e, l⟩ := r; exact mu_lst e
  | .dct ks xs, r => by obtain ⟨vs, e, l⟩ := r; exact mu_of e fun _ z => nomatch z
  | .dcT ks xs, r => by obtain ⟨vs, e, l⟩ := r; exact mu_of e fun _ z => nomatch z
  | .ins C dx ks xs, r => by obtain ⟨vs, e, l⟩ := r; exact mu_of e fun _ z => nomatch z
  | .st w s n, r => mu_ofF r set_fx
  | .dn P w ks xs, r => by
    obtain ⟨as, vs, e, n, z1, z2, hk, l1, l2⟩ := r
    exact mu_ofF e (dn_fx (dn_h0 n z1 z2 hk l1.length l2.length))
structure MemR (c : Fm) (H S : Hp) (M : Mem) : Prop where
  nd : ∀ a n, M a = some n → NdR c.B S H a n
  out : ∀ a, MF M a → S a = none ∧ c.H0 a = none
/-- no store at all -/
def mem0 : Mem := fun _ => none
theorem mem0_f {a : Addr} : ¬ MF mem0 a := fun z => by
  rcases z with z | ⟨_, _, _, _, z⟩
  · exact z rfl
  · cases z
theorem MemR.nil {c : Fm} {H S : Hp} : MemR c H S mem0 := ⟨fun a n e => (nomatch e), fun a z => (mem0_f z).elim⟩
/-- what names hold at this level: values -/
abbrev EnM := List (Option D)
def vl1 : Option D → Option DV
  | some d => some (.val d)
  | none => none
def vl (ev : EnM) : En := ev.map vl1
theorem w_vl_nil : vl [] = [] := rfl
theorem w_vl_cons {o : Option D} {l : EnM} : vl (o :: l) = vl1 o :: vl l := rfl
theorem w_vl1_some {d : D} : vl1 (some d) = some (.val d) := rfl
theorem w_vl1_none : vl1 none = none := rfl
theorem vl_get {ev : EnM} {i : Nat} {x : DV} (e : (vl ev)[i]? = some (some x)) : ∃ d, x = .val d ∧ ev[i]? = some (some d) := by
  unfold vl at e
  rw [List.getElem?_map] at e
  cases q : ev[i]? with
  | none => rw [q] at e; cases e
  | some o =>
    rw [q] at e
    cases o with
    | none => cases e
    | some d => cases e; exact ⟨d, rfl, rfl⟩
theorem vl_at {ev : EnM} {i : Nat} {d : D} (e : ev[i]? = some (some d)) : (vl ev)[i]? = some (some (.val d)) := by
  unfold vl
  rw [List.getElem?_map, e]
  rfl
theorem vl_set {ev : EnM} {i : Nat} {d : D} : vl (ev.set i (some d)) = put i d (vl ev) := by
  unfold vl put
  rw [List.map_set]
  rfl
theorem vl_length {ev : EnM} : (vl ev).length = ev.length := List.length_map ..
structure KM (c : Fm) (σ : St) (H S : Hp) (ev : EnM) (M : Mem) : Prop where
  kn : Kn c σ H S (vl ev)
  mr : MemR c H S M
section
variable {c : Fm} {σ : St} {H H' S S' : Hp} {ev : EnM} {M M' : Mem} {a : Addr}
theorem MemR.mu (m : MemR c H S M) (z : MF M a) : Mu (H a) := by
  rcases z with z | ⟨b, C, ks, xs, z⟩
  · cases e : M a with
    | none => exact (z e).elim
    | some n => exact (m.nd a n e).mu
  · obtain ⟨vs, _, e2, _⟩ := m.nd b _ z
    exact mu_of e2 fun _ z => nomatch z
theorem MemR.notF (m : MemR c H S M) (h : H a = none) : ¬ MF M a := fun z => (m.mu z).1 h
theorem MemR.notS (m : MemR c H S M) {o : HO} (h : S a = some o) : ¬ MF M a := fun z => by
  rw [(m.out a z).1] at h
  cases h
theorem MemR.not0 (m : MemR c H S M) (h : c.H0 a ≠ none) : ¬ MF M a := fun z => h (m.out a z).2
/-- the frame's facts told anew -/
theorem kn_vl (kf : Kf c H' S') (len : ev.length = σ.length) (sl : ∀ (i : Nat) (d : D), ev[i]? = some (some d) → ∃ v, σ[i]? = some (some v) ∧ Rep c.B S' d v) : Kn c σ H' S' (vl ev) := by
  refine ⟨kf, by rw [vl_length]; exact len, fun i x e => ?_, fun i j x y v u b _ e _ _ _ f _ => ?_⟩
  · obtain ⟨d, rfl, e2⟩ := vl_get e
    exact sl i d e2
  · obtain ⟨d, rfl, e⟩ := vl_get e
    exact f
theorem KM.at (k : KM c σ H S ev M) {i : Nat} {d : D} (e : ev[i]? = some (some d)) : ∃ v, σ[i]? = some (some v) ∧ Rep c.B S d v := k.kn.sl i _ (vl_at e)
theorem KM.len (k : KM c σ H S ev M) : ev.length = σ.length := by
  have := k.kn.len
  rw [vl_length] at this
  exact this
theorem KM.move (k : KM c σ H S ev M) (kf : Kf c H' S') (s : Same S S') (m : MemR c H' S' M') : KM c σ H' S' ev M' :=
  ⟨kn_vl kf k.len fun i d e => by
    obtain ⟨v, e1, r⟩ := k.at e
    exact ⟨v, e1, rep_mono s d v r⟩, m⟩
theorem KM.free (k : KM c σ H S ev M) : Free σ (vl ev) a := fun j x v e _ f => by
  obtain ⟨d, rfl, _⟩ := vl_get e
  exact f
noncomputable def Fm.mm (c : Fm) (H S : Hp) (M : Mem) : Fm := ⟨c.B, c.C, fun a => if MF M a then H a else c.H0 a, S⟩
theorem Kf.mm (k : Kf c H S) (m : MemR c H S M) : Kf (c.mm H S M) H S := by
  refine ⟨k.sub, Same.refl S, fun a o e n => ?_, fun a e n => e, fun b e => ⟨(k.bag b e).1, ?_⟩, ⟨k.tab.1, fun p hp => ?_⟩⟩
  · have e : (if MF M a then H a else c.H0 a) = some o := e
    by_cases z : MF M a
    · rw [if_pos z] at e
      exact e
    · rw [if_neg z] at e
      exact k.old a o e n
  · show (if MF M b then H b else c.H0 b) ≠ none
    rw [if_neg (m.not0 (k.bag b e).2)]
    exact (k.bag b e).2
  · show (if MF M p.1 then H p.1 else c.H0 p.1) ≠ none
    rw [if_neg (m.not0 (k.tab.2 p hp))]
    exact k.tab.2 p hp
theorem Kf.ofmm (k : Kf c H S) (m : MemR c H S M) (k' : Kf (c.mm H S M) H' S') : Kf c H' S' := by
  refine ⟨k'.sub, k.s0.trans k'.s0, fun a o e n => k'.old a o ?_ n, fun a e n => k'.new a (k.new a e n) ?_, fun b e => ⟨(k'.bag b e).1, (k.bag b e).2⟩, ⟨k'.tab.1, k.tab.2⟩⟩
  · show (if MF M a then H a else c.H0 a) = some o
    rw [if_neg (m.not0 (by rw [e]; exact fun z => nomatch z))]
    exact e
  · show Mu (if MF M a then H a else c.H0 a)
    rw [if_neg (m.not0 n.1)]
    exact n
theorem MemR.ofmm (k : Kf c H S) (m : MemR c H S M) (k' : Kf (c.mm H S M) H' S') : MemR c H' S' M := by
  have keep : ∀ b, MF M b → ∀ o, H b = some o → H' b = some o := fun b z o e => k'.old b o (by
    show (if MF M b then H b else c.H0 b) = some o
    rw [if_pos z]
    exact e) (k.x_ne0 (m.out b z).2)
  refine ⟨fun a n e => (m.nd a n e).keep k'.s0 fun b hb => ?_, fun a z => ⟨k'.new a (m.out a z).1 ?_, (m.out a z).2⟩⟩
  · rcases hb with rfl | ⟨C, ks, xs, rfl⟩
    · exact keep b (MF.of e)
    · exact keep b (.inr ⟨_, _, _, _, e⟩)
  · show Mu (if MF M a then H a else c.H0 a)
    rw [if_pos z]
    exact m.mu z
theorem KM.mm (k : KM c σ H S ev M) : Kn (c.mm H S M) σ H S (vl ev) := kn_vl (k.kn.kf.mm k.mr) k.len fun _ _ e => k.at e
theorem KM.ofmm (k : KM c σ H S ev M) (k' : Kf (c.mm H S M) H' S') : KM c σ H' S' ev M := k.move (k.kn.kf.ofmm k.mr k') k'.s0 (MemR.ofmm k.kn.kf k.mr k')
theorem mm_out (k : Kf c H S) (m : MemR c H S M) {d : Addr} (h : (c.mm H S M).H0 d = none) : ¬ MF M d ∧ c.H0 d = none := by
  have h : (if MF M d then H d else c.H0 d) = none := h
  by_cases z : MF M d
  · rw [if_pos z] at h
    exact ((m.mu z).1 h).elim
  · rw [if_neg z] at h
    exact ⟨z, h⟩
theorem Kf.new0 (k : Kf c H S) {p : Addr} {o : HO} (h : H p = none) : Kf c (upd H p o) S :=
  k.step (Same.refl S) (k.sub.trans (same_upd h)) (fun a o e _ => same_upd h a o e) (fun a e n => e) (k.bagSame (Same.refl S) (same_upd h) fun a e n => e) (k.tab.1.same (same_upd h) fun a e n => e)
theorem MF.mset {M : Mem} {a b : Addr} {n : Nd} (z : MF (mset M a n) b) : MF M b ∨ b = a ∨ ∃ C ks xs, n = .ins C b ks xs := by
  rcases z with z | ⟨d, C, ks, xs, z⟩
  · by_cases e : b = a
    · exact .inr (.inl e)
    · rw [mset_ne e] at z
      exact .inl (.inl z)
  · by_cases e : d = a
    · subst e
      rw [mset_same] at z
      cases z
      exact .inr (.inr ⟨_, _, _, rfl⟩)
    · rw [mset_ne e] at z
      exact .inl (.inr ⟨_, _, _, _, z⟩)
/-- a new thing without a dict of its own -/
theorem KM.new (k : KM c σ H S ev M) {p : Addr} {o : HO} {n : Nd} (h : H p = none) (r : ∀ H', H' p = some o → NdR c.B S H' p n) (ni : ∀ C b ks xs, n ≠ .ins C b ks xs) : KM c σ (upd H p o) S ev (mset M p n) := by
  refine k.move (k.kn.kf.new0 h) (Same.refl S) ⟨fun a m e => ?_, fun a z => ?_⟩
  · by_cases q : a = p
    · subst q
      rw [mset_same] at e
      cases e
      exact r _ upd_same
    · rw [mset_ne q] at e
      exact (k.mr.nd a m e).keep (Same.refl S) fun b _ o e2 => same_upd h b o e2
  · rcases z.mset with z | rfl | ⟨C, ks, xs, rfl⟩
    · exact k.mr.out a z
    · exact ⟨k.kn.kf.s_none h, k.kn.kf.h0_none h⟩
    · exact (ni _ _ _ _ rfl).elim
theorem KM.newL (k : KM c σ H S ev M) {p : Addr} {vs : List V} {xs : List D} (h : H p = none) (l : RepL c.B S xs vs) : KM c σ (upd H p (.lst vs)) S ev (mset M p (.lst xs)) :=
  k.new h (fun H' e => ⟨vs, e, l⟩) fun _ _ _ _ z => nomatch z
/-- a thing made new joins the store -/
theorem KM.adopt (k : KM c σ H S ev M) {p : Addr} {n : Nd} (r : NdR c.B S H p n) (hp : S p = none) (h0 : c.H0 p = none) (ni : ∀ C b ks xs, n ≠ .ins C b ks xs) : KM c σ H S ev (mset M p n) := by
  refine k.move k.kn.kf (Same.refl S) ⟨fun a m e => ?_, fun a z => ?_⟩
  · by_cases q : a = p
    · subst q
      rw [mset_same] at e
      cases e
      exact r
    · rw [mset_ne q] at e
      exact k.mr.nd a m e
  · rcases z.mset with z | rfl | ⟨C, ks, xs, rfl⟩
    · exact k.mr.out a z
    · exact ⟨hp, h0⟩
    · exact (ni _ _ _ _ rfl).elim
/-- what a thing of the store holds changes -/
theorem KM.chg (k : KM c σ H S ev M) {p : Addr} {o0 o : HO} {n n' : Nd} (hM : M p = some n) (h : H p = some o0) (h4 : (∀ ps, o0 ≠ .tbl ps) ∧ ¬ Fx o0) (no : ∀ b, o0 ≠ .own b)
    (r : ∀ H', H' p = some o → (∀ b o, b ≠ p → H b = some o → H' b = some o) → NdR c.B S H' p n') (same : ∀ C b ks xs, n' = .ins C b ks xs → ∃ C2 ks2 xs2, n = .ins C2 b ks2 xs2) : KM c σ (upd H p o) S ev (mset M p n') := by
  have hf := k.mr.out p (MF.of hM)
  refine k.move (k.kn.kf.updFF hf.1 hf.2 h h4) (Same.refl S) ⟨fun a m e => ?_, fun a z => ?_⟩
  · by_cases q : a = p
    · subst q
      rw [mset_same] at e
      cases e
      exact r _ upd_same fun b o nb e2 => by rw [upd_ne nb]; exact e2
    · rw [mset_ne q] at e
      refine (k.mr.nd a m e).keep (Same.refl S) fun b hb o e2 => ?_
      have nb : b ≠ p := fun y => by
        subst y
        rcases hb with rfl | ⟨C, ks, xs, rfl⟩
        · exact q rfl
        · obtain ⟨vs, _, e3, _⟩ := k.mr.nd a _ e
          rw [h] at e3
          exact no _ (Option.some.inj e3)
      rw [upd_ne nb]
      exact e2
  · rcases z.mset with z | rfl | ⟨C, ks, xs, rfl⟩
    · exact k.mr.out a z
    · exact hf
    · obtain ⟨C2, ks2, xs2, rfl⟩ := same _ _ _ _ rfl
      exact k.mr.out a (.inr ⟨_, _, _, _, hM⟩)
theorem KM.chgL (k : KM c σ H S ev M) {p : Addr} {xs xs' : List D} {vs vs' : List V} (hM : M p = some (.lst xs)) (h : H p = some (.lst vs)) (l : RepL c.B S xs' vs') : KM c σ (upd H p (.lst vs')) S ev (mset M p (.lst xs')) :=
  k.chg hM h ⟨lst_ne.1, fx_not lst_ne.2⟩ (fun _ z => nomatch z) (fun H' e _ => ⟨vs', e, l⟩) fun _ _ _ _ z => nomatch z
theorem KM.lst (k : KM c σ H S ev M) {p : Addr} {xs : List D} (hM : M p = some (.lst xs)) : ∃ vs, H p = some (.lst vs) ∧ RepL c.B S xs vs := k.mr.nd p _ hM
theorem KM.ins (k : KM c σ H S ev M) {p C dx : Addr} {ks : List Str} {xs : List D} (hM : M p = some (.ins C dx ks xs)) : ∃ vs, H p = some (.ins C dx (ks.zip vs)) ∧ H dx = some (.own p) ∧ xs.length = ks.length ∧ RepL c.B S xs vs := k.mr.nd p _ hM
mutual
inductive Unf (M : Mem) : D → D → Prop
  | refl (d : D) : Unf M d d
  | lst {a : Addr} {xs ys : List D} : M a = some (.lst xs) → UnfL M xs ys → Unf M (.adr a) (.lst ys)
  | dct {a : Addr} {ks : List Key} {xs ys : List D} : M a = some (.dct ks xs) → UnfL M xs ys → Unf M (.adr a) (.dct ks ys)
  | dcT {a : Addr} {ks : List (List Key)} {xs ys : List D} : M a = some (.dcT ks xs) → UnfL M xs ys → Unf M (.adr a) (.dcT ks ys)
  | obj {a C dx : Addr} {ks : List Str} {xs ys : List D} : M a = some (.ins C dx ks xs) → UnfL M xs ys → Unf M (.adr a) (.obj C ks ys)
  | tup {xs ys : List D} : UnfL M xs ys → Unf M (.tup xs) (.tup ys)
inductive UnfL (M : Mem) : List D → List D → Prop
  | nil : UnfL M [] []
  | cons {x y : D} {xs ys : List D} : Unf M x y → UnfL M xs ys → UnfL M (x :: xs) (y :: ys)
end
theorem UnfL.refl {M : Mem} : ∀ xs : List D, UnfL M xs xs
  | [] => .nil
  | x :: xs => .cons (.refl x) (UnfL.refl xs)
theorem UnfL.length {M : Mem} : ∀ {xs ys : List D}, UnfL M xs ys → ys.length = xs.length
  | [], [], .nil => rfl
  | x :: xs, y :: ys, .cons _ t => by rw [List.length_cons, List.length_cons, UnfL.length t]
noncomputable def lendM (H S : Hp) (M : Mem) : Hp := fun a => if MF M a then H a else S a
noncomputable def backM (S : Hp) (M : Mem) : Hp := fun a => if MF M a then none else S a
theorem lendM_in (z : MF M a) : lendM H S M a = H a := if_pos z
theorem lendM_out (z : ¬ MF M a) : lendM H S M a = S a := if_neg z
theorem backM_in (z : MF M a) : backM S M a = none := if_pos z
theorem backM_out (z : ¬ MF M a) : backM S M a = S a := if_neg z
theorem same_lendM (m : MemR c H S M) : Same S (lendM H S M) := fun a o e => by
  rw [lendM_out (m.notS e)]
  exact e
mutual
theorem Unf.rep (m : MemR c H S M) : ∀ {d d' : D} {v : V}, Unf M d d' → Rep c.B S d v → Rep c.B (lendM H S M) d' v
  | d, _, v, .refl _, r => rep_mono (same_lendM m) d v r
  | _, _, v, .lst (a := a) e u, r => by
    cases (show v = .ref a from r)
    obtain ⟨vs, e1, l⟩ := m.nd a _ e
    rw [Rep]
    exact ⟨a, vs, rfl, by rw [lendM_in (MF.of e)]; exact e1, UnfL.rep m u l⟩
  | _, _, v, .dct (a := a) e u, r => by
    cases (show v = .ref a from r)
    obtain ⟨vs, e1, n, l⟩ := m.nd a _ e
    rw [Rep]
    exact ⟨a, vs, rfl, by rw [lendM_in (MF.of e)]; exact e1, by rw [UnfL.length u]; exact n, UnfL.rep m u l⟩
  | _, _, v, .dcT (a := a) e u, r => by
    cases (show v = .ref a from r)
    obtain ⟨vs, e1, n, l⟩ := m.nd a _ e
    rw [Rep]
    exact ⟨a, vs, rfl, by rw [lendM_in (MF.of e)]; exact e1, by rw [UnfL.length u]; exact n, UnfL.rep m u l⟩
  | _, _, v, .obj (a := a) (dx := dx) e u, r => by
    cases (show v = .ref a from r)
    obtain ⟨vs, e1, e2, n, l⟩ := m.nd a _ e
    rw [Rep]
    exact ⟨a, dx, vs, rfl, by rw [lendM_in (MF.of e)]; exact e1, by rw [lendM_in (.inr ⟨_, _, _, _, e⟩)]; exact e2, by rw [UnfL.length u]; exact n, UnfL.rep m u l⟩
  | _, _, v, .tup u, r => by
    rw [Rep] at r ⊢
    obtain ⟨a, vs, e, e1, l⟩ := r
    exact ⟨a, vs, e, same_lendM m _ _ e1, UnfL.rep m u l⟩
theorem UnfL.rep (m : MemR c H S M) : ∀ {xs ys : List D} {vs : List V}, UnfL M xs ys → RepL c.B S xs vs → RepL c.B (lendM H S M) ys vs
  | _, _, vs, .nil, r => r
  | _, _, vs, .cons h t, r => by
    obtain ⟨v, ws, rfl, r1, l⟩ := repL_cons_of r
    exact repL_cons (Unf.rep m h r1) (UnfL.rep m t l)
end
theorem Kf.toLend (k : Kf c H S) (m : MemR c H S M) : Kf (c.at H (lendM H S M)) H (lendM H S M) := by
  refine ⟨fun a o e => ?_, Same.refl _, fun _ _ e _ => e, fun a e _ => e, fun b e => ?_, ⟨fun p hp => ⟨(k.tab.1 p hp).1, by rw [lendM_out (m.not0 (k.tab.2 p hp))]; exact (k.tab.1 p hp).2⟩, fun p hp => k.tab.1.ne hp⟩⟩
  · by_cases z : MF M a
    · rw [lendM_in z] at e
      exact e
    · rw [lendM_out z] at e
      exact k.sub a o e
  · obtain ⟨⟨b1, cs, i, g, st, n, b2, b3, b4⟩, b5⟩ := k.bag b e
    refine ⟨⟨by rw [lendM_out (m.not0 b5)]; exact b1, cs, i, g, st, n, b2, same_lendM m _ _ b3, b4⟩, ?_⟩
    show H b ≠ none
    rw [b2]
    exact fun z => nomatch z
/-- the lent is given back -/
theorem Kf.ofLend (k : Kf c H S) (m : MemR c H S M) (k' : Kf (c.at H (lendM H S M)) H' S') : Kf c H' (backM S' M) ∧ Same S (backM S' M) ∧ MemR c H' (backM S' M) M := by
  have ss : Same S (backM S' M) := fun a o e => by
    rw [backM_out (m.notS e)]
    exact k'.s0 _ _ (same_lendM m _ _ e)
  have bs : Same (backM S' M) S' := fun a o e => by
    by_cases z : MF M a
    · rw [backM_in z] at e
      cases e
    · rw [backM_out z] at e
      exact e
  have keep : ∀ b, MF M b → ∀ o, H b = some o → H' b = some o := fun b z o e => k'.old b o e (k.x_ne0 (m.out b z).2)
  refine ⟨⟨fun a o e => k'.sub a o (bs a o e), k.s0.trans ss, fun a o e n => k'.old a o (k.old a o e n) n, fun a e n => ?_, fun b e => ?_, ⟨fun p hp => ⟨(k'.tab.1 p hp).1, ?_⟩, k.tab.2⟩⟩, ss, ⟨fun a n e => (m.nd a n e).keep ss fun b hb => ?_, fun a z => ⟨backM_in z, (m.out a z).2⟩⟩⟩
  · have nz : ¬ MF M a := m.not0 n.1
    rw [backM_out nz]
    refine k'.new a ?_ (k.back n)
    show lendM H S M a = none
    rw [lendM_out nz]
    exact k.new a e n
  · obtain ⟨⟨b1, cs, i, g, st, n, b2, b3, b4⟩, b5⟩ := k'.bag b e
    obtain ⟨⟨_, cs0, _, _, _, _, _, b3', _⟩, b6⟩ := k.bag b e
    exact ⟨⟨by rw [backM_out (m.not0 b6)]; exact b1, cs, i, g, st, n, b2, by rw [backM_out (m.notS b3')]; exact b3, b4⟩, b6⟩
  · rw [backM_out (m.not0 (k.tab.2 p hp))]
    exact (k'.tab.1 p hp).2
  · rcases hb with rfl | ⟨C, ks, xs, rfl⟩
    · exact keep b (MF.of e)
    · exact keep b (.inr ⟨_, _, _, _, e⟩)
theorem KM.ofLend (k : KM c σ H S ev M) (k' : Kf (c.at H (lendM H S M)) H' S') : KM c σ H' (backM S' M) ev M := by
  obtain ⟨a1, a2, a3⟩ := k.kn.kf.ofLend k.mr k'
  exact k.move a1 a2 a3
end
end DL
namespace DL
open PySem PySem.Spec L2
variable [TbC]
abbrev DTM := EnM → Mem → (D → Mem → Prop) → (Er → Mem → Prop) → Prop
abbrev DTMT := EnM → Mem → (Bool → Mem → Prop) → (Er → Mem → Prop) → Prop
abbrev DTMA := EnM → Mem → (List D → Mem → Prop) → (Er → Mem → Prop) → Prop
structure DEndsM where
  nx : EnM → Mem → Prop
  rt : D → Mem → Prop
  bk : EnM → Mem → Prop := fun _ _ => False
  ct : EnM → Mem → Prop := fun _ _ => False
  ex : Er → Mem → Prop
abbrev DTMS := DEndsM → EnM → Mem → Prop
def XOkM (c : Fm) (E : XK) (Rx : Er → Mem → Prop) : Prop := ∀ (er : Er) (d : Addr) (vs : List V) (H S : Hp) (M : Mem), Kf c H S → MemR c H S M → RepL c.B S er.ds vs → er.ds.length = er.ks.length → H d = some (.xd (er.ks.zip vs)) → c.H0 d = none → S d = none → Rx er M → E (.ref er.cls) (some d) H
def SmM (E : XK) (t : TE) (T : DTM) : Prop := ∀ (c : Fm) (σ : St) (H S : Hp) (ev : EnM) (M : Mem) (R : D → Mem → Prop) (Rx : Er → Mem → Prop), XOkM c E Rx → KM c σ H S ev M → T ev M R Rx →
  ∀ Q : VK, (∀ v H' S' d M', KM c σ H' S' ev M' → Same S S' → Rep c.B S' d v → R d M' → Q v H') → t σ H Q
def SmMA (E : XK) (t : L2.TA) (T : DTMA) : Prop := ∀ (c : Fm) (σ : St) (H S : Hp) (ev : EnM) (M : Mem) (R : List D → Mem → Prop) (Rx : Er → Mem → Prop), XOkM c E Rx → KM c σ H S ev M → T ev M R Rx →
  ∀ Q : List V → Hp → Prop, (∀ vs H' S' ds M', KM c σ H' S' ev M' → Same S S' → RepL c.B S' ds vs → R ds M' → Q vs H') → t σ H Q
def mkM (c : Fm) (S : Hp) (Q : DEndsM) (D : Ends) : Prop :=
  (∀ σ H S' ev M, KM c σ H S' ev M → Same S S' → Q.nx ev M → D.nx σ H) ∧ (∀ v H S' d M, Kf c H S' → MemR c H S' M → Same S S' → Rep c.B S' d v → Q.rt d M → D.rt v H) ∧
  (∀ σ H S' ev M, KM c σ H S' ev M → Same S S' → Q.bk ev M → D.bk σ H) ∧ (∀ σ H S' ev M, KM c σ H S' ev M → Same S S' → Q.ct ev M → D.ct σ H)
theorem mkM.mono {c : Fm} {S S' : Hp} {Q : DEndsM} {D : Ends} (m : mkM c S Q D) (h : Same S S') : mkM c S' Q D :=
  ⟨fun σ H S2 ev M k s q => m.1 σ H S2 ev M k (h.trans s) q, fun v H S2 d M k mr s r q => m.2.1 v H S2 d M k mr (h.trans s) r q, fun σ H S2 ev M k s q => m.2.2.1 σ H S2 ev M k (h.trans s) q, fun σ H S2 ev M k s q => m.2.2.2 σ H S2 ev M k (h.trans s) q⟩
theorem mkM_nx {c : Fm} {S S' : Hp} {Q : DEndsM} {D : Ends} {N : St → Hp → Prop} {W : EnM → Mem → Prop} (m : mkM c S Q D) (s : Same S S') (h : ∀ σ H S2 ev M, KM c σ H S2 ev M → Same S' S2 → W ev M → N σ H) : mkM c S' { Q with nx := W } { D with nx := N } :=
  ⟨h, (m.mono s).2.1, (m.mono s).2.2.1, (m.mono s).2.2.2⟩
def SmMS (E : XK) (t : TS) (T : DTMS) : Prop := ∀ (c : Fm) (σ : St) (H S : Hp) (ev : EnM) (M : Mem) (Q : DEndsM), XOkM c E Q.ex → KM c σ H S ev M → T Q ev M → ∀ D : Ends, mkM c S Q D → t D σ H
def DM (X : Cx) (E : XK) (e : Expr) (T : DTM) : Prop := ∃ t, PE X e t ∧ SmM E t T
def DMA (X : Cx) (E : XK) (es : List Expr) (T : DTMA) : Prop := ∃ t, PA X es t ∧ SmMA E t T
def DMS (X : Cx) (E : XK) (st : Stmt) (T : DTMS) : Prop := ∃ t, PS X st t ∧ SmMS E t T
def DMSs (X : Cx) (E : XK) (st : List Stmt) (T : DTMS) : Prop := ∃ t, PSs X st t ∧ SmMS E t T
section
variable {c : Fm} {σ : St} {H H' S S' : Hp} {ev : EnM} {M M' : Mem} {E : XK} {Rx : Er → Mem → Prop}
abbrev noXM : Er → Mem → Prop := fun _ _ => False
theorem XOkM.mm (x : XOkM c E Rx) (k : KM c σ H S ev M) : XOk (c.mm H S M) E (fun er => Rx er M) := fun er d vs H1 S1 k1 r l h n0 n1 z =>
  x er d vs H1 S1 M (k.kn.kf.ofmm k.mr k1) (MemR.ofmm k.kn.kf k.mr k1) r l h (mm_out k.kn.kf k.mr n0).2 n1 z
theorem XOkM.lend (x : XOkM c E Rx) (k : KM c σ H S ev M) : XOk (c.at H (lendM H S M)) E (fun er => flatL er.ds = true ∧ Rx er M) := fun er d vs H1 S1 k1 r l h n0 n1 z => by
  obtain ⟨a1, a2, a3⟩ := k.kn.kf.ofLend k.mr k1
  refine x er d vs H1 _ M a1 a3 ?_ l h (k.kn.kf.h0_none n0) ?_ z.2
  · have go : ∀ {ds : List D} {vs : List V}, flatL ds = true → RepL c.B S1 ds vs → RepL c.B (backM S1 M) ds vs := fun {ds} => by
      induction ds with
      | nil => intro vs _ r; rw [repL_nil_of r]; exact repL_nil
      | cons d ds ih =>
        intro vs f r
        obtain ⟨v, ws, rfl, r1, r2⟩ := repL_cons_of r
        have f : (d.flat && flatL ds) = true := f
        rw [Bool.and_eq_true] at f
        exact repL_cons (flat_rep f.1 r1) (ih f.2 r2)
    exact go z.1 r
  · by_cases y : MF M d
    · exact backM_in y
    · rw [backM_out y]
      exact n1
end
section
variable {X : Cx} {E : XK} {e : Expr} {es : List Expr} {T : DT} {TT' : DTT} {TF : DTF} {Tl : DTA} {kws : List Keyword}
def mE (T : DT) : DTM := fun ev M R Rx => T (vl ev) (fun d => R d M) (fun er => Rx er M)
def mT (T : DTT) : DTMT := fun ev M R Rx => T (vl ev) (fun b => R b M) (fun er => Rx er M)
def mA (T : DTA) : DTMA := fun ev M R Rx => T (vl ev) (fun ds => R ds M) (fun er => Rx er M)
/-- a list made new joins the store -/
def mF (T : DTF) : DTM := fun ev M R Rx => T (vl ev) (fun xs => ∀ a, M a = none → R (.adr a) (mset M a (.lst xs))) (fun er => Rx er M)
theorem m_of (h : DE X E e T) : DM X E e (mE T) := by
  obtain ⟨t, p, s⟩ := h
  exact ⟨t, p, fun c σ H S ev M R Rx x k t Q q => s _ σ H S (vl ev) _ _ (x.mm k) k.mm t Q fun v H1 S1 d k1 s1 r t1 => q v H1 S1 d M (k.ofmm k1.kf) s1 r t1⟩
def lendW (M : Mem) (ev0 : EnM) : List Nat → EnM → (EnM → Prop) → Prop
  | [], ev, N => N ev
  | i :: is, ev, N => ∃ d, ev0[i]? = some (some d) ∧ ∃ d', Unf M d d' ∧ lendW M ev0 is (ev.set i (some d')) N
theorem w_lendW_nil {M : Mem} {ev0 ev : EnM} {N : EnM → Prop} : lendW M ev0 [] ev N = N ev := rfl
theorem w_lendW_cons {M : Mem} {ev0 ev : EnM} {i : Nat} {is : List Nat} {N : EnM → Prop} : lendW M ev0 (i :: is) ev N = ∃ d, ev0[i]? = some (some d) ∧ ∃ d', Unf M d d' ∧ lendW M ev0 is (ev.set i (some d')) N := rfl
theorem lendW_kn {c : Fm} {σ : St} {H S : Hp} {ev0 : EnM} {M : Mem} (k : KM c σ H S ev0 M) : ∀ {is : List Nat} {ev : EnM} {N : EnM → Prop}, ev.length = σ.length → (∀ (i : Nat) (d : D), ev[i]? = some (some d) → ∃ v, σ[i]? = some (some v) ∧ Rep c.B (lendM H S M) d v) →
    lendW M ev0 is ev N → ∃ ev', Kn (c.at H (lendM H S M)) σ H (lendM H S M) (vl ev') ∧ N ev'
  | [], ev, N, hl, h, w => ⟨ev, kn_vl (k.kn.kf.toLend k.mr) hl h, w⟩
  | i :: is, ev, N, hl, h, w => by
    obtain ⟨d, e, d', u, w⟩ := w
    refine lendW_kn k (by rw [List.length_set]; exact hl) (fun j d2 e2 => ?_) w
    by_cases z : i = j
    · subst z
      rw [List.getElem?_set] at e2
      simp only [if_true] at e2
      split at e2 <;> cases e2
      obtain ⟨v, e3, r⟩ := k.at e
      exact ⟨v, e3, u.rep k.mr r⟩
    · rw [List.getElem?_set_ne z] at e2
      exact h j d2 e2
theorem KM.lend0 {c : Fm} {σ : St} {H S : Hp} {ev : EnM} {M : Mem} (k : KM c σ H S ev M) {is : List Nat} {N : EnM → Prop} (w : lendW M ev is ev N) : ∃ ev', Kn (c.at H (lendM H S M)) σ H (lendM H S M) (vl ev') ∧ N ev' :=
  lendW_kn k k.len (fun i d e => by
    obtain ⟨v, e1, r⟩ := k.at e
    exact ⟨v, e1, rep_mono (same_lendM k.mr) d v r⟩) w
def mLend (is : List Nat) (T : DT) : DTM := fun ev M R Rx => lendW M ev is ev fun ev' => T (vl ev') (fun d => d.flat = true ∧ R d M) fun er => flatL er.ds = true ∧ Rx er M
def mLendT (is : List Nat) (T : DTT) : DTMT := fun ev M R Rx => lendW M ev is ev fun ev' => T (vl ev') (fun b => R b M) fun er => flatL er.ds = true ∧ Rx er M
/-- a new list of flat things, made while the store is lent -/
def mLendF (is : List Nat) (T : DTF) : DTM := fun ev M R Rx => lendW M ev is ev fun ev' => T (vl ev') (fun xs => flatL xs = true ∧ ∀ a, M a = none → R (.adr a) (mset M a (.lst xs))) fun er => flatL er.ds = true ∧ Rx er M
/-- .. that stays as it is -/
def mLendN (is : List Nat) (T : DT) : DTM := fun ev M R Rx => lendW M ev is ev fun ev' => T (vl ev') (fun d => R d M) fun er => flatL er.ds = true ∧ Rx er M
theorem m_lendN (is : List Nat) (h : DN X E e T) : DM X E e (mLendN is T) := by
  obtain ⟨t, p, s⟩ := h
  refine ⟨t, p, fun c σ H S ev M R Rx x k t Q q => ?_⟩
  obtain ⟨ev', k0, t⟩ := k.lend0 t
  refine s _ σ H _ (vl ev') _ _ (x.lend k) k0 t Q fun v H1 S1 N d k1 s1 g r t1 => ?_
  have k2 := k.ofLend k1.kf
  have g2 : Reg c σ (vl ev) H1 (backM S1 M) N := fun a o ea => by
    obtain ⟨g1, g2, g3, g4⟩ := g a o ea
    have g3 : H a = none := g3
    exact ⟨g1, by rw [backM_out (k.mr.notF g3)]; exact g2, k.kn.kf.h0_none g3, k2.free⟩
  have k3 := k2.kn.uni g2
  have sN : Same (backM S1 M) (uni (backM S1 M) N) := uni_l
  have k4 : KM c σ H1 (uni (backM S1 M) N) ev M := k2.move k3.kf sN ⟨fun a n ea => (k2.mr.nd a n ea).keep sN fun b _ o eb => eb, fun a z => ⟨by
    have n1 : backM S1 M a = none := backM_in z
    have n2 : N a = none := by
      cases ea : N a with
      | none => rfl
      | some o =>
        obtain ⟨_, _, g3, _⟩ := g a o ea
        exact ((k.mr.mu z).1 g3).elim
    cases eu : uni (backM S1 M) N a with
    | none => rfl
    | some o =>
      unfold uni at eu
      rw [n1] at eu
      rw [← eu]
      exact n2, (k2.mr.out a z).2⟩⟩
  exact q v H1 _ d M k4 ((k.kn.kf.ofLend k.mr k1.kf).2.1.trans sN) (rep_mono (uni_r g2) d v r) t1
end
end DL
namespace DL
open PySem PySem.Spec L2
variable [TbC]
section
variable {X : Cx} {E : XK} {e a b : Expr} {es : List Expr} {Ta Tb : DTM} {Tl Tk : DTMA} {kws : List Keyword} {p pos : Pos}
def mNil : DTMA := fun _ M R _ => R [] M
def mCons (Ta : DTM) (Tl : DTMA) : DTMA := fun ev M R Rx => Ta ev M (fun x M1 => Tl ev M1 (fun xs M2 => R (x :: xs) M2) Rx) Rx
theorem smM_cons {ta : TE} {t : L2.TA} (h : SmM E ta Ta) (h2 : SmMA E t Tl) : SmMA E (tCons ta t) (mCons Ta Tl) := fun c σ H S ev M R Rx x k w Q q =>
  h c σ H S ev M _ Rx x k w _ fun v H1 S1 d M1 k1 s1 r1 t1 => h2 c σ H1 S1 ev M1 _ Rx x k1 t1 _ fun vs H2 S2 ds M2 k2 s2 r2 t2 => q _ H2 S2 (d :: ds) M2 k2 (s1.trans s2) (repL_cons (rep_mono s2 d v r1) r2) t2
theorem ma_nil : DMA X E [] mNil := ⟨_, pa_nil, fun c σ H S ev M R Rx x k t Q q => q [] H S [] M k (Same.refl S) repL_nil t⟩
theorem ma_cons (ha : DM X E a Ta) (hl : DMA X E es Tl) (hs : starEach (a :: es) X.env = (false, eval a X.env) :: starEach es X.env := by rfl) : DMA X E (a :: es) (mCons Ta Tl) := by
  obtain ⟨ta, p, s⟩ := ha
  obtain ⟨t, p2, s2⟩ := hl
  exact ⟨_, pa_cons p p2 hs, smM_cons s s2⟩
end
section
variable {X : Cx} {E : XK} {e a b cnd : Expr} {es : List Expr} {Ta Tb : DTM} {TA TB Tc : DTMT} {Tl : DTMA} {p pos : Pos} {rest : List Expr}
def mOp (op : DOp) (Ta Tb : DTM) : DTM := fun ev M R Rx => Ta ev M (fun x M1 => Tb ev M1 (fun y M2 => op x y (fun z => R z M2)) Rx) Rx
def asBM (R : Bool → Mem → Prop) : D → Mem → Prop
  | .bl b, M => R b M
  | _, _ => False
def mTest (T : DTM) : DTMT := fun ev M R Rx => T ev M (asBM R) Rx
def mAnd (TA TB : DTMT) : DTMT := fun ev M R Rx => TA ev M (fun b M1 => (b = true → TB ev M1 R Rx) ∧ (b = false → R false M1)) Rx
def mOr (TA TB : DTMT) : DTMT := fun ev M R Rx => TA ev M (fun b M1 => (b = true → R true M1) ∧ (b = false → TB ev M1 R Rx)) Rx
def mNot (T : DTMT) : DTMT := fun ev M R Rx => T ev M (fun b M1 => R (!b) M1) Rx
/-- the truth of None, bools, ints -/
def D.tru3 : D → Option Bool
  | .non => some false
  | .bl b => some b
  | .int i => some (i != 0)
  | _ => none
def mTru (T : DTM) : DTMT := fun ev M R Rx => T ev M (fun d M1 => ∃ b, d.tru3 = some b ∧ R b M1) Rx
def mIf (T : DTMT) (Ta Tb : DTM) : DTM := fun ev M R Rx => T ev M (fun b M1 => (b = true → Ta ev M1 R Rx) ∧ (b = false → Tb ev M1 R Rx)) Rx
/-- a tuple, a list that stay -/
def mTup (Tl : DTMA) : DTM := fun ev M R Rx => Tl ev M (fun xs M1 => xs.length ≤ sizeLine ∧ R (.tup xs) M1) Rx
def mLst (Tl : DTMA) : DTM := fun ev M R Rx => Tl ev M (fun xs M1 => xs.length ≤ sizeLine ∧ R (.lst xs) M1) Rx
/-- a list of the store -/
def mLstN (Tl : DTMA) : DTM := fun ev M R Rx => Tl ev M (fun xs M1 => xs.length ≤ sizeLine ∧ ∀ a, M1 a = none → R (.adr a) (mset M1 a (.lst xs))) Rx
theorem m_lst (h : DMA X E es Tl) : DM X E (.List es pos) (mLstN Tl) := by
  obtain ⟨t, p, s⟩ := h
  refine ⟨_, pe_lst p, fun c σ H S ev M R Rx x k t Q q => s c σ H S ev M _ Rx x k t _ fun vs H1 S1 ds M1 k1 s1 l1 t1 => ⟨by rw [l1.length]; exact t1.1, fun p hp => ?_⟩⟩
  have hM : M1 p = none := Classical.byContradiction fun z => k1.mr.notF hp (.inl z)
  exact q (.ref p) _ S1 (.adr p) _ (k1.newL hp l1) s1 rfl (t1.2 p hM)
end
/-- d is the object of class C at an address of the store -/
def asIns (C : Addr) (R : Addr → List Str → List D → Prop) (d : D) (M : Mem) : Prop := ∃ a dx ks xs, d = .adr a ∧ M a = some (.ins C dx ks xs) ∧ R a ks xs
abbrev SpecM := List D → Mem → (D → Mem → Prop) → (Er → Mem → Prop) → Prop
section
variable {X : Cx} {E : XK} {CX : CXT} {k n : Nat} {f C : Addr} {fd : FuncData} {ps ks : List Str} {F : SpecM} {F0 : Spec} {dvs : List V} {dds : List D} {ds : List Value} {x m : Str} {p pos apos : Pos} {e o : Expr} {es : List Expr} {Tl Tk : DTMA} {To : DTM} {kws : List Keyword} {kw : Keyword}
def mCall (F : SpecM) (dds : List D) (Tl : DTMA) : DTM := fun ev M R Rx => Tl ev M (fun xs M1 => F (xs ++ dds) M1 R Rx) Rx
def upM (F : Spec) : SpecM := fun ds M R Rx => F ds (fun d => R d M) (fun er => Rx er M)
theorem w_upM {F : Spec} {ds : List D} {M : Mem} {R : D → Mem → Prop} {Rx : Er → Mem → Prop} : upM F ds M R Rx = F ds (fun d => R d M) (fun er => Rx er M) := rfl
def mCallK (F : SpecM) (g : List D → List D → List D) (Tl Tk : DTMA) : DTM := fun ev M R Rx => Tl ev M (fun xs M1 => Tk ev M1 (fun zs M2 => F (g xs zs) M2 R Rx) Rx) Rx
def mMeth (C : Addr) (m : Str) (F : SpecM) (To : DTM) (Tl : DTMA) : DTM := fun ev M R Rx => To ev M (fun d M1 => asIns C (fun _ ks xs => fld ks xs m = none) d M1 ∧ Tl ev M1 (fun ds M2 => F (d :: ds) M2 R Rx) Rx) Rx
/-- a method of an object that stays, its argument read off the store -/
def mMethD (C : Addr) (m : Str) (F : Spec) (To : DTM) (Tl : DTMA) : DTM := fun ev M R Rx => To ev M (fun d M1 => asO C (fun ks xs => fld ks xs m = none) d ∧ Tl ev M1 (fun ds M2 => F (d :: ds) (fun d => R d M2) (fun er => Rx er M2)) Rx) Rx
def mFld (C : Addr) (f : Str) (To : DTM) : DTM := fun ev M R Rx => To ev M (fun d M1 => asIns C (fun _ ks xs => ∃ y, fld ks xs f = some y ∧ R y M1) d M1) Rx
/-- an attribute of an object that stays, the object read off the store -/
def mFldD (C : Addr) (f : Str) (To : DTM) : DTM := fun ev M R Rx => To ev M (fun d M1 => asO C (fun ks xs => ∃ y, fld ks xs f = some y ∧ R y M1) d) Rx
def mProp (C : Addr) (F : SpecM) (To : DTM) : DTM := fun ev M R Rx => To ev M (fun d M1 => asIns C (fun _ _ _ => True) d M1 ∧ F [d] M1 R noXM) Rx
def mMake (C : Addr) (F : SpecM) (Tl : DTMA) : DTM := fun ev M R Rx => Tl ev M (fun ds M1 => ∀ a dx, M1 a = none → M1 dx = none → a ≠ dx → F (.adr a :: ds) (mset M1 a (.ins C dx [] [])) (fun d M2 => d = .non ∧ R (.adr a) M2) Rx) Rx
end
end DL
namespace DL
open PySem PySem.Spec L2
variable [TbC]
def unv1 : Option DV → Option D
  | some (.val d) => some d
  | _ => none
def unv (env : En) : EnM := env.map unv1
def AllV (env : En) : Prop := ∀ x ∈ env, x = none ∨ ∃ d, x = some (.val d)
theorem w_unv_nil : unv [] = [] := rfl
theorem w_unv_val {d : D} {l : En} : unv (some (.val d) :: l) = some d :: unv l := rfl
theorem w_unv_none {l : En} : unv (none :: l) = none :: unv l := rfl
theorem w_unv_vl1 {o : Option D} {l : En} : unv (vl1 o :: l) = o :: unv l := by
  cases o <;> rfl
theorem w_AllV_nil : AllV [] = True := propext ⟨fun _ => trivial, fun _ x m => nomatch m⟩
theorem allV_cons {o : Option DV} {l : En} (h : o = none ∨ ∃ d, o = some (.val d)) : AllV (o :: l) = AllV l := by
  refine propext ⟨fun q x m => q x (List.mem_cons_of_mem _ m), fun q x m => ?_⟩
  rcases List.mem_cons.mp m with rfl | m
  · exact h
  · exact q x m
theorem w_AllV_val {d : D} {l : En} : AllV (some (.val d) :: l) = AllV l := allV_cons (.inr ⟨_, rfl⟩)
theorem w_AllV_none {l : En} : AllV (none :: l) = AllV l := allV_cons (.inl rfl)
theorem w_AllV_vl1 {o : Option D} {l : En} : AllV (vl1 o :: l) = AllV l := allV_cons (by
  cases o with
  | none => exact .inl rfl
  | some d => exact .inr ⟨d, rfl⟩)
theorem vl_unv : ∀ {env : En}, AllV env → vl (unv env) = env
  | [], _ => rfl
  | o :: l, h => by
    have ih := vl_unv (env := l) fun x m => h x (List.mem_cons_of_mem _ m)
    show vl1 (unv1 o) :: vl (unv l) = o :: l
    rw [ih]
    rcases h o List.mem_cons_self with rfl | ⟨d, rfl⟩ <;> rfl
section
variable {X : Cx} {E : XK} {pos p1 p2 : Pos} {a b e tg cnd : Expr} {Ta Tb To : DTM} {Tc : DTMT} {T U : DTMS} {T0 : DTS} {st : Stmt} {rest sts x1 x2 : List Stmt} {G : DG}
theorem KM.ofKn {c : Fm} {σ σ' : St} {H H' S S' : Hp} {ev ev' : EnM} {M : Mem} (k : KM c σ H S ev M) (k' : Kn (c.mm H S M) σ' H' S' (vl ev')) : KM c σ' H' S' ev' M :=
  ⟨kn_vl (k.kn.kf.ofmm k.mr k'.kf) (by have := k'.len; rw [vl_length] at this; exact this) fun i d e => k'.sl i _ (vl_at e), MemR.ofmm k.kn.kf k.mr k'.kf⟩
/-- a statement of the lower level -/
def zUp (T : DTS) : DTMS := fun Q ev M => T { nx := fun env' => AllV env' ∧ Q.nx (unv env') M, rt := fun _ d => Q.rt d M, bk := fun env' => AllV env' ∧ Q.bk (unv env') M, ct := fun env' => AllV env' ∧ Q.ct (unv env') M, ex := fun er => Q.ex er M } (vl ev)
theorem smMS_up {t : TS} (s : SmS E t T0) : SmMS E t (zUp T0) := fun c σ H S ev M Q x k t D m => by
  have nx : ∀ {N : St → Hp → Prop} {W : EnM → Mem → Prop}, (∀ σ H S' ev M, KM c σ H S' ev M → Same S S' → W ev M → N σ H) → ∀ σ1 H1 S1 env1, Kn (c.mm H S M) σ1 H1 S1 env1 → Same S S1 → (AllV env1 ∧ W (unv env1) M) → N σ1 H1 := fun {N W} mm σ1 H1 S1 env1 k1 s1 t1 =>
    mm σ1 H1 S1 (unv env1) M (k.ofKn (by rw [vl_unv t1.1]; exact k1)) s1 t1.2
  refine s (c.mm H S M) σ H S (vl ev) _ (x.mm k) k.mm t D ⟨nx m.1, fun n v H1 S1 d kf s1 r q => ?_, nx m.2.2.1, nx m.2.2.2⟩
  obtain ⟨S2, kf2, s2, r2⟩ := r.old kf
  exact m.2.1 v H1 S2 d M (k.kn.kf.ofmm k.mr kf2) (MemR.ofmm k.kn.kf k.mr kf2) (s1.trans s2) r2 q
theorem ms_up (h : DS X E st T0) : DMS X E st (zUp T0) := by
  obtain ⟨t, p, s⟩ := h
  exact ⟨t, p, smMS_up s⟩
def yNext : DTMS := fun Q ev M => Q.nx ev M
def ySeq (T U : DTMS) : DTMS := fun Q ev M => T { Q with nx := U Q } ev M
theorem mss_cons (h1 : DMS X E st T) (h2 : DMSs X E rest U) : DMSs X E (st :: rest) (ySeq T U) := by
  obtain ⟨t, p1, s1⟩ := h1
  obtain ⟨u, p2, s2⟩ := h2
  refine ⟨_, pss_cons p1 p2, fun c σ H S ev M Q x k t D m => ?_⟩
  exact s1 c σ H S ev M { Q with nx := U Q } x k t _ (mkM_nx m (Same.refl S) fun σ1 H1 S1 ev1 M1 k1 s t1 => s2 c σ1 H1 S1 ev1 M1 Q x k1 t1 D (m.mono s))
theorem mss_one (h1 : DMS X E st T) : DMSs X E [st] T := by
  obtain ⟨t, p1, s1⟩ := h1
  exact ⟨_, pss_one p1, s1⟩
def yRet (Ta : DTM) : DTMS := fun Q ev M => Ta ev M Q.rt Q.ex
def yRetN : DTMS := fun Q ev M => Q.rt .non M
def yExpr (Ta : DTM) : DTMS := fun Q ev M => Ta ev M (fun _ M1 => Q.nx ev M1) Q.ex
def yIf (T : DTMT) (U W : DTMS) : DTMS := fun Q ev M => T ev M (fun b M1 => (b = true → U Q ev M1) ∧ (b = false → W Q ev M1)) Q.ex
/-- a target -/
def mG (G : DG) (d : D) (ev : EnM) (N : EnM → Prop) : Prop := G d (vl ev) fun env' => AllV env' ∧ N (unv env')
def yAsg (Ta : DTM) (G : DG) : DTMS := fun Q ev M => Ta ev M (fun d M1 => mG G d ev fun ev' => Q.nx ev' M1) Q.ex
/-- name = e -/
def ySet (i : Nat) (Ta : DTM) : DTMS := fun Q ev M => Ta ev M (fun d M1 => Q.nx (ev.set i (some d)) M1) Q.ex
theorem KM.set {c : Fm} {σ : St} {H S : Hp} {ev : EnM} {M : Mem} {i : Nat} {d : D} {v : V} (k : KM c σ H S ev M) (r : Rep c.B S d v) : KM c (σ.set i (some v)) H S (ev.set i (some d)) M := by
  refine ⟨?_, k.mr⟩
  rw [vl_set]
  exact k.kn.set r
theorem ms_set {i : Nat} {x : Str} (hN : X.N.Nodup) (h : DM X E e Ta) (hi : X.N[i]? = some x := by rfl) (hx : Loc X.env.scope x := by first | exact Or.inl rfl | exact Or.inr rfl) (hs : swapsWith e (some (.Name x p1)) pos.line X.env = pure false := by rfl)
    (hf : X.fn x = true ∨ X.env.scope.names.lookup x = some .local := by first | exact .inl rfl | exact .inr rfl) : DMS X E (.Assign [.Name x p1] e pos) (ySet i Ta) := by
  obtain ⟨t, p, s⟩ := h
  refine ⟨_, ps_set hN hi hx p hs hf, fun c σ H S ev M Q x k t D m => s c σ H S ev M _ _ x k t _ fun v H1 S1 d M1 k1 s1 r1 t1 => ?_⟩
  exact m.1 _ H1 S1 _ M1 (k1.set r1) s1 t1
/-- a, b = x, y -/
def yPar (i j : Nat) (Tl : DTMA) : DTMS := fun Q ev M => Tl ev M (fun ds M1 => ∃ d d', ds = [d, d'] ∧ Q.nx ((ev.set i (some d)).set j (some d')) M1) Q.ex
theorem ms_par {i j : Nat} {x y : Str} {px py pt : Pos} {kt k2 pt2} {Tl : DTMA} (hc : X.calm = true) (hN : X.N.Nodup) (ha : DMA X E [a, b] Tl) (hi : X.N[i]? = some x := by rfl) (hj : X.N[j]? = some y := by rfl) (hij : i ≠ j := by decide)
    (hx : X.env.scope.names.lookup x = some .local := by rfl) (hy : X.env.scope.names.lookup y = some .local := by rfl)
    (hw : swappedStores [.Tuple [.Name x px, .Name y py] kt pt] (.Tuple [a, b] k2 pt2) X.env = pure (some [x, y]) := by rfl)
    (hs : swapsWithSole [.Tuple [.Name x px, .Name y py] kt pt] (.Tuple [a, b] k2 pt2) pos.line X.env = pure false := by rfl) :
    DMS X E (.Assign [.Tuple [.Name x px, .Name y py] kt pt] (.Tuple [a, b] k2 pt2) pos) (yPar i j Tl) := by
  obtain ⟨t, p, s⟩ := ha
  refine ⟨_, ps_par hc hN hi hj hij hx hy p hw hs, fun c σ H S ev M Q x k t D m => s c σ H S ev M _ _ x k t _ fun vs H1 S1 ds M1 k1 s1 r1 t1 => ?_⟩
  obtain ⟨d, d', rfl, t1⟩ := t1
  obtain ⟨v, v', rfl, r2, r3⟩ := rep2 r1
  exact ⟨v, v', rfl, m.1 _ H1 S1 _ M1 ((k1.set r2).set r3) s1 t1⟩
def kput (f : Str) : List Str → List Str
  | k :: ks => if k = f then k :: ks else k :: kput f ks
  | [] => [f]
def fput {α : Type} (f : Str) (d : α) : List Str → List α → List α
  | k :: ks, x :: xs => if k = f then d :: xs else x :: fput f d ks xs
  | _, _ => [d]
/-- o.f = e -/
def yFld (C : Addr) (f : Str) (Te To : DTM) : DTMS := fun Q ev M => Te ev M (fun d M1 => To ev M1 (fun o M2 => ∃ a dx ks xs, o = .adr a ∧ M2 a = some (.ins C dx ks xs) ∧ ks.length < 1000 ∧ Q.nx ev (mset M2 a (.ins C dx (kput f ks) (fput f d ks xs)))) Q.ex) Q.ex
def yApp (To Te : DTM) : DTMS := fun Q ev M => To ev M (fun o M1 => (∃ a xs, o = .adr a ∧ M1 a = some (.lst xs)) ∧ Te ev M1 (fun d M2 => ∃ a xs, o = .adr a ∧ M2 a = some (.lst xs) ∧ xs.length < sizeLine ∧ Q.nx ev (mset M2 a (.lst (xs ++ [d])))) Q.ex) Q.ex
theorem ms_app {apos : Pos} (ho : DM X E b To) (he : DM X E a Ta)
    (hp : ∀ {to te : TE}, PE X b to → PE X a te → PE X (.Call (.Attribute b "append" apos) [a] [] p2) (tBM X.K "list" rAppend to (tCons te tNil)))
    (hs : swapsWith (.Call (.Attribute b "append" apos) [a] [] p2) none pos.line X.env = pure false := by rfl) : DMS X E (.Expr (.Call (.Attribute b "append" apos) [a] [] p2) pos) (yApp To Ta) := by
  obtain ⟨to, po, so⟩ := ho
  obtain ⟨te, pe, se⟩ := he
  refine ⟨_, ps_expr (hp po pe) hs, fun c σ H S ev M Q x k t D m => so c σ H S ev M _ _ x k t _ fun u H1 S1 o M1 k1 s1 r1 t1 => ?_⟩
  obtain ⟨⟨q, xs0, rfl, hM0⟩, t1⟩ := t1
  cases (show u = .ref q from r1)
  obtain ⟨vs0, h0, l0⟩ := k1.lst hM0
  refine ⟨.inl ⟨rfl, vs0, SqL.of h0⟩, se c σ H1 S1 ev M1 _ _ x k1 t1 _ fun v H2 S2 d M2 k2 s2 r2 t2 => ?_⟩
  obtain ⟨q2, xs, e, hM, hl, t2⟩ := t2
  cases e
  obtain ⟨vs, h2, l2⟩ := k2.lst hM
  exact ⟨q, vs, v, rfl, rfl, h2, by rw [l2.length]; exact hl, m.1 σ _ S2 ev _ (k2.chgL hM h2 (l2.app (repL_cons r2 repL_nil))) (s1.trans s2) t2⟩
def yClr (To : DTM) : DTMS := fun Q ev M => To ev M (fun o M1 => ∃ a xs, o = .adr a ∧ M1 a = some (.lst xs) ∧ Q.nx ev (mset M1 a (.lst []))) Q.ex
theorem ms_clr {apos : Pos} (ho : DM X E b To) (hp : ∀ {to : TE}, PE X b to → PE X (.Call (.Attribute b "clear" apos) [] [] p2) (tBM0 X.K "list" rClear to))
    (hs : swapsWith (.Call (.Attribute b "clear" apos) [] [] p2) none pos.line X.env = pure false := by rfl) : DMS X E (.Expr (.Call (.Attribute b "clear" apos) [] [] p2) pos) (yClr To) := by
  obtain ⟨to, po, so⟩ := ho
  refine ⟨_, ps_expr (hp po) hs, fun c σ H S ev M Q x k t D m => so c σ H S ev M _ _ x k t _ fun u H1 S1 o M1 k1 s1 r1 t1 => ?_⟩
  obtain ⟨q, xs, rfl, hM, t1⟩ := t1
  cases (show u = .ref q from r1)
  obtain ⟨vs, h1, l1⟩ := k1.lst hM
  exact ⟨.inl ⟨rfl, vs, SqL.of h1⟩, q, vs, rfl, rfl, h1, m.1 σ _ S1 ev _ (k1.chgL hM h1 repL_nil) s1 t1⟩
/-- xs.pop() -/
def mPop (To : DTM) : DTM := fun ev M R Rx => To ev M (fun o M1 => ∃ a xs d, o = .adr a ∧ M1 a = some (.lst xs) ∧ xs[xs.length - 1]? = some d ∧ R d (mset M1 a (.lst xs.dropLast))) Rx
theorem RepL.dropLast {B : Option Addr} {S : Hp} {ds : List D} {vs : List V} (l : RepL B S ds vs) : RepL B S ds.dropLast vs.dropLast := by
  rw [List.dropLast_eq_take, List.dropLast_eq_take, l.length]
  exact l.take _
def yFor (Ti : DTI) (G : DG) (Tb : DTMS) : DTMS := fun Q ev M => Ti (vl ev) (fun xs => ∃ I : Nat → EnM → Mem → Prop, I 0 ev M ∧ (∀ i d ev M, xs[i]? = some d → I i ev M → mG G d ev fun ev' => Tb { Q with nx := I (i + 1), ct := I (i + 1), bk := Q.nx } ev' M) ∧ ∀ ev M, I xs.length ev M → Q.nx ev M) fun er => Q.ex er M
theorem ms_for {iter : Expr} {body : List Stmt} {Ti : DTI} {Tb : DTMS} {js : List Nat} (hp : PassesOwn (model X.prog X.w) X.A X.env X.xe) (hc : X.calm = true) (hi : DI X E tg iter Ti) (hg : DGt X tg G js) (hb : DMSs X E body Tb) (hs : ∀ x, foldedSetIterable iter X.env x = pure x := by intro _; rfl) :
    DMS X E (.For tg iter body [] pos) (yFor Ti G Tb) := by
  obtain ⟨wi, p1, s1⟩ := hi
  obtain ⟨g, p2, s2⟩ := hg
  obtain ⟨tb, p3, s3⟩ := hb
  refine ⟨_, ps_for hp hc p1 p2 p3 hs, fun c σ H S ev M Q x k t D m => s1 (c.mm H S M) σ H S (vl ev) _ _ (x.mm k) k.mm t _ fun J H1 S1 xs k1 s4 it t1 => ?_⟩
  obtain ⟨I, h0, hstep, hend⟩ := t1
  have m1 := m.mono s4
  refine ⟨fun i n σ H => n = xs.length - i ∧ i ≤ xs.length ∧ ∃ S ev M, KM c σ H S ev M ∧ Same S1 S ∧ I i ev M, ⟨_, rfl, Nat.zero_le _, S1, ev, M, k.ofmm k1.kf, Same.refl S1, h0⟩, ?_⟩
  rintro i n σ H ⟨rfl, hi, S, ev, M, k, s, hI⟩
  obtain ⟨go, stop⟩ := it (c.mm H S M) rfl i σ H S (vl ev) k.mm s
  by_cases hlt : i < xs.length
  · have e : xs[i]? = some xs[i] := by simp [hlt]
    obtain ⟨g1, g2⟩ := go _ e
    refine .inr ⟨g1, fun σ H => ∃ S ev M, KM c σ H S ev M ∧ Same S1 S ∧ I (i + 1) ev M, fun σ' H' ⟨S', ev', M', k', s', h'⟩ => ⟨_, by omega, rfl, hlt, S', ev', M', k', s', h'⟩, fun v H' y => ?_⟩
    obtain ⟨S', k', s', r'⟩ := g2 v H' y
    have kk := k.ofmm k'.kf
    refine s2 (c.mm H' S' M) σ H' S' (vl ev) _ v _ kk.mm r' (hstep i _ ev M e hI) _ fun σ2 H2 S2 env2 k2 s5 _ t2 => ?_
    have s6 : Same S1 S2 := (s.trans s').trans s5
    exact s3 c σ2 H2 S2 (unv env2) M { Q with nx := I (i + 1), ct := I (i + 1), bk := Q.nx } x (kk.ofKn (by rw [vl_unv t2.1]; exact k2)) t2.2 _ ⟨fun σ3 H3 S3 ev3 M3 k3 s7 t3 => ⟨S3, ev3, M3, k3, s6.trans s7, t3⟩, (m1.mono s6).2.1, fun σ3 H3 S3 ev3 M3 k3 s7 t3 => m1.1 σ3 H3 S3 ev3 M3 k3 (s6.trans s7) t3, fun σ3 H3 S3 ev3 M3 k3 s7 t3 => ⟨S3, ev3, M3, k3, s6.trans s7, t3⟩⟩
  · have e : i = xs.length := by omega
    subst e
    exact .inl ⟨stop (Nat.le_refl _), m1.1 σ H S ev M k s (hend ev M hI)⟩
def yWhile (Tc : DTMT) (Tb : DTMS) : DTMS := fun Q ev M => ∃ (I : Nat → EnM → Mem → Prop) (m : Nat), I m ev M ∧ ∀ m ev M, I m ev M → Tc ev M (fun b M1 => (b = true → Tb { Q with nx := fun e N => ∃ m', m' < m ∧ I m' e N, ct := fun e N => ∃ m', m' < m ∧ I m' e N, bk := Q.nx } ev M1) ∧ (b = false → Q.nx ev M1)) Q.ex
/-- a block that ends by returning what is flat or made new, the store lent -/
def zLend (is : List Nat) (T : DTS) : DTMS := fun Q ev M => lendW M ev is ev fun ev' => T { nx := fun _ => False, rt := fun n d => (n = .nw ∨ n = .old ∧ d.flat = true) ∧ Q.rt d M, ex := fun er => flatL er.ds = true ∧ Q.ex er M } (vl ev')
end
section
variable {X : Cx} {E : XK} {sts : List Stmt} {T : DTMS}
def zOfM (T : DTMS) : DTS := fun Q env => AllV env ∧ T { nx := fun ev _ => Q.nx (vl ev), rt := fun d _ => Q.rt .old d, bk := fun ev _ => Q.bk (vl ev), ct := fun ev _ => Q.ct (vl ev), ex := fun er _ => Q.ex er } (unv env) mem0
theorem dss_ofM (h : DMSs X E sts T) : DSs X E sts (zOfM T) := by
  obtain ⟨t, p, s⟩ := h
  refine ⟨t, p, fun c σ H S env Q x k t D m => ?_⟩
  obtain ⟨av, t⟩ := t
  refine s c σ H S (unv env) mem0 _ (fun er d vs H1 S1 M1 k1 _ r l h n0 n1 z => x er d vs H1 S1 k1 r l h n0 n1 z) ⟨by rw [vl_unv av]; exact k, MemR.nil⟩ t D
    ⟨fun σ1 H1 S1 ev1 M1 k1 s1 q => m.1 σ1 H1 S1 (vl ev1) k1.kn s1 q, fun v H1 S1 d M1 k1 _ s1 r q => m.2.1 .old v H1 S1 d k1 s1 r q, fun σ1 H1 S1 ev1 M1 k1 s1 q => m.2.2.1 σ1 H1 S1 (vl ev1) k1.kn s1 q, fun σ1 H1 S1 ev1 M1 k1 s1 q => m.2.2.2 σ1 H1 S1 (vl ev1) k1.kn s1 q⟩
end
end DL
namespace DL
open PySem PySem.Spec L2
variable [TbC]
section
variable {ev : EnM} {M : Mem} {R : D → Mem → Prop} {RB : Bool → Mem → Prop} {RL : List D → Mem → Prop} {Rx : Er → Mem → Prop} {Q : DEndsM} {T0 : DT} {TT0 : DTT} {TF : DTF} {TA0 : DTA} {Ta Tb To Te : DTM} {TA TB Tc : DTMT} {Tl Tk : DTMA} {U W T : DTMS} {S0 : DTS} {i j : Nat} {is : List Nat} {C : Addr} {f m : Str} {F : SpecM} {F0 : Spec} {dds : List D} {op : DOp} {G : DG} {d : D} {N : EnM → Prop}
theorem w_mE : mE T0 ev M R Rx = T0 (vl ev) (fun d => R d M) (fun er => Rx er M) := rfl
theorem w_mT : mT TT0 ev M RB Rx = TT0 (vl ev) (fun b => RB b M) (fun er => Rx er M) := rfl
theorem w_mA : mA TA0 ev M RL Rx = TA0 (vl ev) (fun ds => RL ds M) (fun er => Rx er M) := rfl
theorem w_mF : mF TF ev M R Rx = TF (vl ev) (fun xs => ∀ a, M a = none → R (.adr a) (mset M a (.lst xs))) (fun er => Rx er M) := rfl
theorem w_mLend : mLend is T0 ev M R Rx = lendW M ev is ev fun ev' => T0 (vl ev') (fun d => d.flat = true ∧ R d M) fun er => flatL er.ds = true ∧ Rx er M := rfl
theorem w_mLendT : mLendT is TT0 ev M RB Rx = lendW M ev is ev fun ev' => TT0 (vl ev') (fun b => RB b M) fun er => flatL er.ds = true ∧ Rx er M := rfl
theorem w_mLendF : mLendF is TF ev M R Rx = lendW M ev is ev fun ev' => TF (vl ev') (fun xs => flatL xs = true ∧ ∀ a, M a = none → R (.adr a) (mset M a (.lst xs))) fun er => flatL er.ds = true ∧ Rx er M := rfl
theorem w_mLendN : mLendN is T0 ev M R Rx = lendW M ev is ev fun ev' => T0 (vl ev') (fun d => R d M) fun er => flatL er.ds = true ∧ Rx er M := rfl
theorem w_mNil : mNil ev M RL Rx = RL [] M := rfl
theorem w_mCons : mCons Ta Tl ev M RL Rx = Ta ev M (fun x M1 => Tl ev M1 (fun xs M2 => RL (x :: xs) M2) Rx) Rx := rfl
theorem w_mOp : mOp op Ta Tb ev M R Rx = Ta ev M (fun x M1 => Tb ev M1 (fun y M2 => op x y (fun z => R z M2)) Rx) Rx := rfl
theorem w_mTest : mTest Ta ev M RB Rx = Ta ev M (asBM RB) Rx := rfl
theorem w_asBM {b : Bool} : asBM RB (.bl b) M = RB b M := rfl
theorem w_mAnd : mAnd TA TB ev M RB Rx = TA ev M (fun b M1 => (b = true → TB ev M1 RB Rx) ∧ (b = false → RB false M1)) Rx := rfl
theorem w_mOr : mOr TA TB ev M RB Rx = TA ev M (fun b M1 => (b = true → RB true M1) ∧ (b = false → TB ev M1 RB Rx)) Rx := rfl
theorem w_mNot : mNot TA ev M RB Rx = TA ev M (fun b M1 => RB (!b) M1) Rx := rfl
theorem w_mTru : mTru Ta ev M RB Rx = Ta ev M (fun d M1 => ∃ b, d.tru3 = some b ∧ RB b M1) Rx := rfl
theorem w_tru3_non : D.tru3 .non = some false := rfl
theorem w_tru3_bl {b : Bool} : D.tru3 (.bl b) = some b := rfl
theorem w_tru3_int {n : Int} : D.tru3 (.int n) = some (n != 0) := rfl
theorem w_mIf : mIf Tc Ta Tb ev M R Rx = Tc ev M (fun b M1 => (b = true → Ta ev M1 R Rx) ∧ (b = false → Tb ev M1 R Rx)) Rx := rfl
theorem w_mTup : mTup Tl ev M R Rx = Tl ev M (fun xs M1 => xs.length ≤ sizeLine ∧ R (.tup xs) M1) Rx := rfl
theorem w_mLst : mLst Tl ev M R Rx = Tl ev M (fun xs M1 => xs.length ≤ sizeLine ∧ R (.lst xs) M1) Rx := rfl
theorem w_mLstN : mLstN Tl ev M R Rx = Tl ev M (fun xs M1 => xs.length ≤ sizeLine ∧ ∀ a, M1 a = none → R (.adr a) (mset M1 a (.lst xs))) Rx := rfl
theorem w_mCall : mCall F dds Tl ev M R Rx = Tl ev M (fun xs M1 => F (xs ++ dds) M1 R Rx) Rx := rfl
theorem w_mCallK {g : List D → List D → List D} : mCallK F g Tl Tk ev M R Rx = Tl ev M (fun xs M1 => Tk ev M1 (fun zs M2 => F (g xs zs) M2 R Rx) Rx) Rx := rfl
theorem w_mMeth : mMeth C m F To Tl ev M R Rx = To ev M (fun d M1 => asIns C (fun _ ks xs => fld ks xs m = none) d M1 ∧ Tl ev M1 (fun ds M2 => F (d :: ds) M2 R Rx) Rx) Rx := rfl
theorem w_mMethD : mMethD C m F0 To Tl ev M R Rx = To ev M (fun d M1 => asO C (fun ks xs => fld ks xs m = none) d ∧ Tl ev M1 (fun ds M2 => F0 (d :: ds) (fun d => R d M2) (fun er => Rx er M2)) Rx) Rx := rfl
theorem w_mFld : mFld C f To ev M R Rx = To ev M (fun d M1 => asIns C (fun _ ks xs => ∃ y, fld ks xs f = some y ∧ R y M1) d M1) Rx := rfl
theorem w_mFldD : mFldD C f To ev M R Rx = To ev M (fun d M1 => asO C (fun ks xs => ∃ y, fld ks xs f = some y ∧ R y M1) d) Rx := rfl
theorem w_mProp : mProp C F To ev M R Rx = To ev M (fun d M1 => asIns C (fun _ _ _ => True) d M1 ∧ F [d] M1 R noXM) Rx := rfl
theorem w_mMake : mMake C F Tl ev M R Rx = Tl ev M (fun ds M1 => ∀ a dx, M1 a = none → M1 dx = none → a ≠ dx → F (.adr a :: ds) (mset M1 a (.ins C dx [] [])) (fun d M2 => d = .non ∧ R (.adr a) M2) Rx) Rx := rfl
theorem w_zUp : zUp S0 Q ev M = S0 { nx := fun env' => AllV env' ∧ Q.nx (unv env') M, rt := fun _ d => Q.rt d M, bk := fun env' => AllV env' ∧ Q.bk (unv env') M, ct := fun env' => AllV env' ∧ Q.ct (unv env') M, ex := fun er => Q.ex er M } (vl ev) := rfl
theorem w_yNext : yNext Q ev M = Q.nx ev M := rfl
theorem w_ySeq : ySeq T U Q ev M = T { Q with nx := U Q } ev M := rfl
theorem w_yRet : yRet Ta Q ev M = Ta ev M Q.rt Q.ex := rfl
theorem w_yRetN : yRetN Q ev M = Q.rt .non M := rfl
theorem w_yExpr : yExpr Ta Q ev M = Ta ev M (fun _ M1 => Q.nx ev M1) Q.ex := rfl
theorem w_yIf : yIf Tc U W Q ev M = Tc ev M (fun b M1 => (b = true → U Q ev M1) ∧ (b = false → W Q ev M1)) Q.ex := rfl
theorem w_mG : mG G d ev N = G d (vl ev) fun env' => AllV env' ∧ N (unv env') := rfl
theorem w_yAsg : yAsg Ta G Q ev M = Ta ev M (fun d M1 => mG G d ev fun ev' => Q.nx ev' M1) Q.ex := rfl
theorem w_ySet : ySet i Ta Q ev M = Ta ev M (fun d M1 => Q.nx (ev.set i (some d)) M1) Q.ex := rfl
theorem w_yPar : yPar i j Tl Q ev M = Tl ev M (fun ds M1 => ∃ d d', ds = [d, d'] ∧ Q.nx ((ev.set i (some d)).set j (some d')) M1) Q.ex := rfl
theorem w_yFld : yFld C f Te To Q ev M = Te ev M (fun d M1 => To ev M1 (fun o M2 => ∃ a dx ks xs, o = .adr a ∧ M2 a = some (.ins C dx ks xs) ∧ ks.length < 1000 ∧ Q.nx ev (mset M2 a (.ins C dx (kput f ks) (fput f d ks xs)))) Q.ex) Q.ex := rfl
theorem w_yApp : yApp To Te Q ev M = To ev M (fun o M1 => (∃ a xs, o = .adr a ∧ M1 a = some (.lst xs)) ∧ Te ev M1 (fun d M2 => ∃ a xs, o = .adr a ∧ M2 a = some (.lst xs) ∧ xs.length < sizeLine ∧ Q.nx ev (mset M2 a (.lst (xs ++ [d])))) Q.ex) Q.ex := rfl
theorem w_yClr : yClr To Q ev M = To ev M (fun o M1 => ∃ a xs, o = .adr a ∧ M1 a = some (.lst xs) ∧ Q.nx ev (mset M1 a (.lst []))) Q.ex := rfl
theorem w_mPop : mPop To ev M R Rx = To ev M (fun o M1 => ∃ a xs d, o = .adr a ∧ M1 a = some (.lst xs) ∧ xs[xs.length - 1]? = some d ∧ R d (mset M1 a (.lst xs.dropLast))) Rx := rfl
theorem w_yFor {Ti : DTI} {Tb : DTMS} : yFor Ti G Tb Q ev M = Ti (vl ev) (fun xs => ∃ I : Nat → EnM → Mem → Prop, I 0 ev M ∧ (∀ i d ev M, xs[i]? = some d → I i ev M → mG G d ev fun ev' => Tb { Q with nx := I (i + 1), ct := I (i + 1), bk := Q.nx } ev' M) ∧ ∀ ev M, I xs.length ev M → Q.nx ev M) fun er => Q.ex er M := rfl
theorem w_yWhile {Tc : DTMT} {Tb : DTMS} : yWhile Tc Tb Q ev M = ∃ (I : Nat → EnM → Mem → Prop) (m : Nat), I m ev M ∧ ∀ m ev M, I m ev M → Tc ev M (fun b M1 => (b = true → Tb { Q with nx := fun e N => ∃ m', m' < m ∧ I m' e N, ct := fun e N => ∃ m', m' < m ∧ I m' e N, bk := Q.nx } ev M1) ∧ (b = false → Q.nx ev M1)) Q.ex := rfl
theorem w_zLend : zLend is S0 Q ev M = lendW M ev is ev fun ev' => S0 { nx := fun _ => False, rt := fun n d => (n = .nw ∨ n = .old ∧ d.flat = true) ∧ Q.rt d M, ex := fun er => flatL er.ds = true ∧ Q.ex er M } (vl ev') := rfl
theorem w_zOfM {Q : DEnds} {env : En} : zOfM T Q env = (AllV env ∧ T { nx := fun ev _ => Q.nx (vl ev), rt := fun d _ => Q.rt .old d, bk := fun ev _ => Q.bk (vl ev), ct := fun ev _ => Q.ct (vl ev), ex := fun er _ => Q.ex er } (unv env) mem0) := rfl
theorem w_adr_inj {a b : Addr} : (D.adr a = D.adr b) = (a = b) := by rw [D.adr.injEq]
theorem w_ins_inj {C C' dx dx' : Addr} {ks ks' : List Str} {xs xs' : List D} : (some (Nd.ins C dx ks xs) = some (Nd.ins C' dx' ks' xs')) = (C = C' ∧ dx = dx' ∧ ks = ks' ∧ xs = xs') := by rw [Option.some.injEq, Nd.ins.injEq]
theorem w_lst_inj {xs ys : List D} : (some (Nd.lst xs) = some (Nd.lst ys)) = (xs = ys) := by rw [Option.some.injEq, Nd.lst.injEq]
theorem w_mset_same {a : Addr} {n : Nd} : mset M a n a = some n := mset_same
theorem w_mset_mset {a : Addr} {n n' : Nd} : mset (mset M a n) a n' = mset M a n' := mset_mset
theorem w_vl_set {n : Nat} {o : Option D} {l : EnM} : List.set (o :: l) (n + 1) (some d) = o :: l.set n (some d) := rfl
theorem seq_stepM (h : ∀ N : EnM → Mem → Prop, (∀ e M, U Q e M → N e M) → T { Q with nx := N } ev M) : ySeq T U Q ev M := h _ fun _ _ h => h
theorem for_stepM {Ti : DTI} {Tb : DTMS} (h : ∀ B : DEndsM → EnM → Mem → Prop, (∀ Q e M, Tb Q e M → B Q e M) → yFor Ti G B Q ev M) : yFor Ti G Tb Q ev M := h _ fun _ _ _ h => h
end
mutual
inductive AdT : Mem → T → D → Mem → Prop
  | dat {M : Mem} {d : D} : AdT M (.dat d) d M
  | lst {M M1 : Mem} {ts : List T} {xs : List D} {a : Addr} : AdL M ts xs M1 → M1 a = none → AdT M (.lst ts) (.adr a) (mset M1 a (.lst xs))
inductive AdL : Mem → List T → List D → Mem → Prop
  | nil {M : Mem} : AdL M [] [] M
  | cons {M M1 M2 : Mem} {t : T} {ts : List T} {x : D} {xs : List D} : AdT M t x M1 → AdL M1 ts xs M2 → AdL M (t :: ts) (x :: xs) M2
end
mutual
/-- no tuples, no objects of its own -/
def T.pl : T → Bool
  | .dat _ => true
  | .lst ts => T.plL ts
  | _ => false
def T.plL : List T → Bool
  | [] => true
  | t :: ts => t.pl && T.plL ts
end
section
variable {X : Cx} {E : XK} {e a b : Expr} {T : DT} {Ta Tb To : DTM} {pos : Pos}
def mU (T : DT) : DTM := fun ev M R Rx => T (vl ev) (fun d => d.tr.pl = true ∧ ∀ x M', AdT M d.tr x M' → R x M') (fun er => Rx er M)
theorem w_mU {ev : EnM} {M : Mem} {R : D → Mem → Prop} {Rx : Er → Mem → Prop} : mU T ev M R Rx = T (vl ev) (fun d => d.tr.pl = true ∧ ∀ x M', AdT M d.tr x M' → R x M') (fun er => Rx er M) := rfl
/-- xs[i], xs a list of the store -/
def mIxL (Ta Tb : DTM) : DTM := fun ev M R Rx => Ta ev M (fun x M1 => Tb ev M1 (fun y M2 => ∃ a xs i d, x = .adr a ∧ y = .int i ∧ M2 a = some (.lst xs) ∧ atI xs i = some d ∧ R d M2) Rx) Rx
theorem w_mIxL {ev : EnM} {M : Mem} {R : D → Mem → Prop} {Rx : Er → Mem → Prop} : mIxL Ta Tb ev M R Rx = Ta ev M (fun x M1 => Tb ev M1 (fun y M2 => ∃ a xs i d, x = .adr a ∧ y = .int i ∧ M2 a = some (.lst xs) ∧ atI xs i = some d ∧ R d M2) Rx) Rx := rfl
/-- list(xs), xs a list of the store: a list of the store -/
def mLi (To : DTM) : DTM := fun ev M R Rx => To ev M (fun o M1 => ∃ a xs, o = .adr a ∧ M1 a = some (.lst xs) ∧ ∀ b, M1 b = none → R (.adr b) (mset M1 b (.lst xs))) Rx
theorem w_mLi {ev : EnM} {M : Mem} {R : D → Mem → Prop} {Rx : Er → Mem → Prop} : mLi To ev M R Rx = To ev M (fun o M1 => ∃ a xs, o = .adr a ∧ M1 a = some (.lst xs) ∧ ∀ b, M1 b = none → R (.adr b) (mset M1 b (.lst xs))) Rx := rfl
/-- .. that stays -/
def mLiF (To : DTM) : DTM := fun ev M R Rx => To ev M (fun o M1 => ∃ a xs, o = .adr a ∧ M1 a = some (.lst xs) ∧ R (.lst xs) M1) Rx
theorem w_mLiF {ev : EnM} {M : Mem} {R : D → Mem → Prop} {Rx : Er → Mem → Prop} : mLiF To ev M R Rx = To ev M (fun o M1 => ∃ a xs, o = .adr a ∧ M1 a = some (.lst xs) ∧ R (.lst xs) M1) Rx := rfl
theorem m_list {p : Pos} (ha : DM X E a To) (hm : X.mg "list" = none) (hg : Gl X "list" := by rfl) (he : starEach [a] X.env = (false, eval a X.env) :: starEach [] X.env := by rfl) (hpl : (backTo pos (starEach [] X.env)).any (·.1) = false := by rfl) :
    DM X E (.Call (.Name "list" p) [a] [] pos) (mLi To) := by
  obtain ⟨ta, p1, s1⟩ := ha
  refine ⟨_, pe_callTy call_list_of hg hm PyProof.Rows.boot_list (pa_cons p1 pa_nil he) (by decide) (by decide) he hpl, fun c σ H S ev M R Rx x k t Q q => s1 c σ H S ev M _ Rx x k t _ fun v H1 S1 d M1 k1 s3 r1 t1 => ?_⟩
  obtain ⟨p, xs, rfl, hM, t1⟩ := t1
  cases (show v = .ref p from r1)
  obtain ⟨vs, h1, l1⟩ := k1.lst hM
  refine ⟨p, vs, rfl, .inl (SqL.of h1), fun b hb => ?_⟩
  have hb2 : M1 b = none := Classical.byContradiction fun z => k1.mr.notF hb (.inl z)
  exact q (.ref b) _ S1 (.adr b) _ (k1.newL hb l1) s3 rfl (t1 b hb2)
end
section
variable {X : Cx} {E : XK} {elt tg iter : Expr} {ifs : List Expr} {scope : Scope} {own : List (Str × Nat)} {pos : Pos} {Ti : DTI} {G : DG} {Tt : DTT} {Te : DT} {js : List Nat}
def ySetF (i : Nat) (T : DTF) : DTMS := fun Q ev M => T (vl ev) (fun xs => ∀ a, M a = none → Q.nx (ev.set i (some (.adr a))) (mset M a (.lst xs))) fun er => Q.ex er M
theorem w_ySetF {i : Nat} {T : DTF} {Q : DEndsM} {ev : EnM} {M : Mem} : ySetF i T Q ev M = T (vl ev) (fun xs => ∀ a, M a = none → Q.nx (ev.set i (some (.adr a))) (mset M a (.lst xs))) fun er => Q.ex er M := rfl
theorem ms_setLcN {i : Nat} {y : Str} {py spos : Pos} (hc : X.calm = true) (hN : X.N.Nodup) (hi : DI X E tg iter Ti) (ok : BlkOk X.N X.env.scope scope own) (hsub : ∀ j ∈ js, j ∈ own.map (·.2))
    (hg : ∀ (s : Shared) (H : Hp) (C : Addr) (cl : List (Str × Addr)) (fp : List Addr), DGt (X.blk s H scope (compEnvC scope cl C X.env) fp) tg G js)
    (ht : ∀ (s : Shared) (H : Hp) (C : Addr) (cl : List (Str × Addr)) (fp : List Addr), DTs (X.blk s H scope (compEnvC scope cl C X.env) fp) E0 ifs Tt)
    (he : ∀ (s : Shared) (H : Hp) (C : Addr) (cl : List (Str × Addr)) (fp : List Addr), DE (X.blk s H scope (compEnvC scope cl C X.env) fp) E0 elt Te)
    (hy : X.N[i]? = some y := by rfl) (hyl : X.env.scope.names.lookup y = some .local := by rfl)
    (hsw : swapsWith (.ListComp elt [⟨tg, iter, ifs, 0⟩] scope pos) (some (.Name y py)) spos.line X.env = pure true := by exact sw_true rfl rfl rfl (by decide +kernel))
    (hs : ∀ x, foldedSetIterable iter X.env x = pure x := by intro _; rfl) : DMS X E (.Assign [.Name y py] (.ListComp elt [⟨tg, iter, ifs, 0⟩] scope pos) spos) (ySetF i (xLcF Ti G Tt Te (own.map (·.2)))) := by
  obtain ⟨wi, p, s⟩ := hi
  refine ⟨_, ps_setLc hc hN hy hyl hsw p ok (fun s H C cl fp => pg_can (hg s H C cl fp)) (fun s H C cl fp => pts_can (ht s H C cl fp)) (fun s H C cl fp => pe_can (he s H C cl fp)) hs, fun c σ H S ev M Q x k t D m => ?_⟩
  refine smF_lc hsub s (c.mm H S M) σ H S (vl ev) _ _ (x.mm k) k.mm t _ fun p vs H1 S1 ds k1 s1 n0 f n1 e1 l1 t1 => ?_
  obtain ⟨n2, n3⟩ := mm_out k.kn.kf k.mr n0
  have k2 := k.ofmm k1.kf
  have hM : M p = none := Classical.byContradiction fun z => n2 (.inl z)
  have k3 := k2.adopt (n := .lst ds) ⟨vs, e1, l1⟩ n1 n3 fun _ _ _ _ z => nomatch z
  exact m.1 _ H1 S1 _ _ (k3.set (i := i) (d := .adr p) (v := .ref p) rfl) s1 (t1 p hM)
end
end DL
namespace DL
open PySem PySem.Spec L2
variable [TbC]
section
variable {X : Cx} {E : XK} {pos : Pos} {a b c : Expr}
def yPar3 (i j l : Nat) (Tl : DTMA) : DTMS := fun Q ev M => Tl ev M (fun ds M1 => ∃ d d' d'', ds = [d, d', d''] ∧ Q.nx (((ev.set i (some d)).set j (some d')).set l (some d'')) M1) Q.ex
theorem w_yPar3 {i j l : Nat} {Tl : DTMA} {Q : DEndsM} {ev : EnM} {M : Mem} : yPar3 i j l Tl Q ev M = Tl ev M (fun ds M1 => ∃ d d' d'', ds = [d, d', d''] ∧ Q.nx (((ev.set i (some d)).set j (some d')).set l (some d'')) M1) Q.ex := rfl
theorem ms_par3 {i j l : Nat} {x y z : Str} {px py pz pt : Pos} {kt k2 pt2} {Tl : DTMA} (hc : X.calm = true) (hN : X.N.Nodup) (ha : DMA X E [a, b, c] Tl) (hi : X.N[i]? = some x := by rfl) (hj : X.N[j]? = some y := by rfl) (hl : X.N[l]? = some z := by rfl) (hij : i ≠ j := by decide) (hil : i ≠ l := by decide) (hjl : j ≠ l := by decide)
    (hx : X.env.scope.names.lookup x = some .local := by rfl) (hy : X.env.scope.names.lookup y = some .local := by rfl) (hz : X.env.scope.names.lookup z = some .local := by rfl)
    (hw : swappedStores [.Tuple [.Name x px, .Name y py, .Name z pz] kt pt] (.Tuple [a, b, c] k2 pt2) X.env = pure (some [x, y, z]) := by rfl)
    (hs : swapsWithSole [.Tuple [.Name x px, .Name y py, .Name z pz] kt pt] (.Tuple [a, b, c] k2 pt2) pos.line X.env = pure false := by rfl) :
    DMS X E (.Assign [.Tuple [.Name x px, .Name y py, .Name z pz] kt pt] (.Tuple [a, b, c] k2 pt2) pos) (yPar3 i j l Tl) := by
  obtain ⟨t, p, s⟩ := ha
  refine ⟨_, ps_par3 hc hN hi hj hl hij hil hjl hx hy hz p hw hs, fun c σ H S ev M Q x k t D m => s c σ H S ev M _ _ x k t _ fun vs H1 S1 ds M1 k1 s1 r1 t1 => ?_⟩
  obtain ⟨d, d', d'', rfl, t1⟩ := t1
  obtain ⟨v, v', v'', rfl, r2, r3, r4⟩ := rep3 r1
  exact ⟨v, v', v'', rfl, m.1 _ H1 S1 _ M1 (((k1.set r2).set r3).set r4) s1 t1⟩
end
end DL
namespace DL
open PySem PySem.Spec L2
variable [TbC]
section
variable {c : Fm} {σ : St} {H S : Hp} {ev : EnM} {M : Mem}
theorem KM.st (k : KM c σ H S ev M) {p : Addr} {w : World} {s : Int → Bool} {n : Nat} (hM : M p = some (.st w s n)) : H p = some (SetO w p s n) := k.mr.nd p _ hM
end
section
variable {X : Cx} {E : XK} {e a b v ix : Expr} {es : List Expr} {Ta Tb To Te Tv Ti : DTM} {Tl : DTMA} {p pos : Pos}
/-- set() -/
def mSet0 (w : World) : DTM := fun _ M R _ => ∀ a, M a = none → R (.adr a) (mset M a (.st w (fun _ => false) 0))
theorem w_mSet0 {w : World} {ev : EnM} {M : Mem} {R : D → Mem → Prop} {Rx : Er → Mem → Prop} : mSet0 w ev M R Rx = ∀ a, M a = none → R (.adr a) (mset M a (.st w (fun _ => false) 0)) := rfl
/-- k in s, k not in s -/
def mSIn (w : World) (neg : Bool) (Ta Tb : DTM) : DTM := fun ev M R Rx => Ta ev M (fun x M1 => Tb ev M1 (fun y M2 => ∃ k a s n, x = .int k ∧ y = .adr a ∧ M2 a = some (.st w s n) ∧ R (.bl (if neg then !s k else s k)) M2) Rx) Rx
theorem w_mSIn {w : World} {neg : Bool} {ev : EnM} {M : Mem} {R : D → Mem → Prop} {Rx : Er → Mem → Prop} : mSIn w neg Ta Tb ev M R Rx = Ta ev M (fun x M1 => Tb ev M1 (fun y M2 => ∃ k a s n, x = .int k ∧ y = .adr a ∧ M2 a = some (.st w s n) ∧ R (.bl (if neg then !s k else s k)) M2) Rx) Rx := rfl
/-- s.add(k) -/
def mSAdd (w : World) (To Te : DTM) : DTM := fun ev M R Rx => To ev M (fun o M1 => (∃ a s n, o = .adr a ∧ M1 a = some (.st w s n)) ∧ Te ev M1 (fun d M2 => ∃ a s n k, o = .adr a ∧ d = .int k ∧ M2 a = some (.st w s n) ∧ n + 1 < scanBound ∧ R .non (mset M2 a (.st w (fun j => s j || decide (j = k)) (if s k = true then n else n + 1)))) Rx) Rx
theorem w_mSAdd {w : World} {ev : EnM} {M : Mem} {R : D → Mem → Prop} {Rx : Er → Mem → Prop} : mSAdd w To Te ev M R Rx = To ev M (fun o M1 => (∃ a s n, o = .adr a ∧ M1 a = some (.st w s n)) ∧ Te ev M1 (fun d M2 => ∃ a s n k, o = .adr a ∧ d = .int k ∧ M2 a = some (.st w s n) ∧ n + 1 < scanBound ∧ R .non (mset M2 a (.st w (fun j => s j || decide (j = k)) (if s k = true then n else n + 1)))) Rx) Rx := rfl
/-- xs[i] = e, xs a list of the store -/
def yStL (Tv To Ti : DTM) : DTMS := fun Q ev M => Tv ev M (fun d M1 => To ev M1 (fun o M2 => Ti ev M2 (fun y M3 => ∃ a xs i j, o = .adr a ∧ y = .int i ∧ M3 a = some (.lst xs) ∧ ixN xs.length i = some j ∧ Q.nx ev (mset M3 a (.lst (xs.set j d)))) Q.ex) Q.ex) Q.ex
theorem w_yStL {Q : DEndsM} {ev : EnM} {M : Mem} : yStL Tv To Ti Q ev M = Tv ev M (fun d M1 => To ev M1 (fun o M2 => Ti ev M2 (fun y M3 => ∃ a xs i j, o = .adr a ∧ y = .int i ∧ M3 a = some (.lst xs) ∧ ixN xs.length i = some j ∧ Q.nx ev (mset M3 a (.lst (xs.set j d)))) Q.ex) Q.ex) Q.ex := rfl
/-- name[i] += e is name[i] = name[i] + e (ints), over a list of the store: for x in xs, xs a list of the store -/
def yForL (To : DTM) (G : DG) (Tb : DTMS) : DTMS := fun Q ev M => To ev M (fun o M1 => ∃ a xs, o = .adr a ∧ M1 a = some (.lst xs) ∧ ∃ I : Nat → EnM → Mem → Prop, I 0 ev M1 ∧ (∀ i ev M, i ≤ xs.length → I i ev M → M a = some (.lst xs)) ∧
  (∀ i d ev M, xs[i]? = some d → I i ev M → mG G d ev fun ev' => Tb { Q with nx := I (i + 1), ct := I (i + 1), bk := Q.nx } ev' M) ∧ ∀ ev M, I xs.length ev M → Q.nx ev M) Q.ex
theorem w_yForL {G : DG} {Tb : DTMS} {Q : DEndsM} {ev : EnM} {M : Mem} : yForL To G Tb Q ev M = To ev M (fun o M1 => ∃ a xs, o = .adr a ∧ M1 a = some (.lst xs) ∧ ∃ I : Nat → EnM → Mem → Prop, I 0 ev M1 ∧ (∀ i ev M, i ≤ xs.length → I i ev M → M a = some (.lst xs)) ∧
  (∀ i d ev M, xs[i]? = some d → I i ev M → mG G d ev fun ev' => Tb { Q with nx := I (i + 1), ct := I (i + 1), bk := Q.nx } ev' M) ∧ ∀ ev M, I xs.length ev M → Q.nx ev M) Q.ex := rfl
end
end DL
namespace DL
open PySem PySem.Spec L2
variable [TbC]
def mdel (M : Mem) (a : Addr) : Mem := fun b => if b = a then none else M b
theorem mdel_same {M : Mem} {a : Addr} : mdel M a a = none := if_pos rfl
theorem mdel_ne {M : Mem} {a b : Addr} (h : b ≠ a) : mdel M a b = M b := if_neg h
section
variable {c : Fm} {σ : St} {H S : Hp} {ev : EnM} {M : Mem}
theorem KM.frz (k : KM c σ H S ev M) {i : Nat} {a : Addr} {xs : List D} (e : ev[i]? = some (some (.adr a))) (hM : M a = some (.lst xs)) : ∃ S', KM c σ H S' (ev.set i (some (.lst xs))) (mdel M a) ∧ Same S S' := by
  obtain ⟨vs, h1, l⟩ := k.lst hM
  obtain ⟨q1, q2⟩ := k.mr.out a (MF.of hM)
  obtain ⟨k1, s1, r1⟩ := k.kn.freeze q1 q2 h1 l k.free
  obtain ⟨v, ev1, rv⟩ := k.at e
  cases (show v = .ref a from rv)
  refine ⟨_, ⟨?_, ⟨fun b n eb => ?_, fun b z => ?_⟩⟩, s1⟩
  · have := k1.set (i := i) (d := .lst xs) (v := .ref a) r1
    have e2 : σ.set i (some (.ref a)) = σ := by
      apply List.ext_getElem?
      intro j
      by_cases z : i = j
      · subst z
        rw [List.getElem?_set_self (by obtain ⟨z, _⟩ := List.getElem?_eq_some_iff.mp ev1; exact z), ev1]
      · rw [List.getElem?_set_ne z]
    rw [e2] at this
    rw [vl_set]
    exact this
  · by_cases z : b = a
    · rw [z, mdel_same] at eb
      cases eb
    · rw [mdel_ne z] at eb
      exact (k.mr.nd b n eb).keep s1 fun _ _ o eo => eo
  · have nb : b ≠ a := fun y => by
      subst y
      rcases z with z | ⟨d, C, ks, ys, z⟩
      · exact z mdel_same
      · by_cases y : d = b
        · rw [y, mdel_same] at z
          cases z
        · rw [mdel_ne y] at z
          obtain ⟨_, _, e3, _⟩ := k.mr.nd d _ z
          rw [h1] at e3
          cases e3
    have zM : MF M b := by
      rcases z with z | ⟨d, C, ks, ys, z⟩
      · rw [mdel_ne nb] at z
        exact .inl z
      · by_cases y : d = a
        · rw [y, mdel_same] at z
          cases z
        · rw [mdel_ne y] at z
          exact .inr ⟨_, _, _, _, z⟩
    obtain ⟨o1, o2⟩ := k.mr.out b zM
    exact ⟨by rw [upd_ne nb]; exact o1, o2⟩
end
section
variable {X : Cx} {E : XK} {st : Stmt} {T : DTMS} {b ix : Expr} {To Ti : DTM} {pos : Pos}
def yFrz (i : Nat) (T : DTMS) : DTMS := fun Q ev M => ∃ a xs, ev[i]? = some (some (.adr a)) ∧ M a = some (.lst xs) ∧ T Q (ev.set i (some (.lst xs))) (mdel M a)
theorem w_yFrz {i : Nat} {Q : DEndsM} {ev : EnM} {M : Mem} : yFrz i T Q ev M = ∃ a xs, ev[i]? = some (some (.adr a)) ∧ M a = some (.lst xs) ∧ T Q (ev.set i (some (.lst xs))) (mdel M a) := rfl
/-- xs.pop(i), i from 0 on -/
def mPopAt (To Ti : DTM) : DTM := fun ev M R Rx => To ev M (fun o M1 => (∃ a xs, o = .adr a ∧ M1 a = some (.lst xs)) ∧ Ti ev M1 (fun y M2 => ∃ (a : Addr) (xs : List D) (j : Nat) (d : D), o = .adr a ∧ y = .int (j : Int) ∧ M2 a = some (.lst xs) ∧ j < 2 ^ 62 ∧ xs[j]? = some d ∧ R d (mset M2 a (.lst (xs.eraseIdx j)))) Rx) Rx
theorem w_mPopAt {ev : EnM} {M : Mem} {R : D → Mem → Prop} {Rx : Er → Mem → Prop} : mPopAt To Ti ev M R Rx = To ev M (fun o M1 => (∃ a xs, o = .adr a ∧ M1 a = some (.lst xs)) ∧ Ti ev M1 (fun y M2 => ∃ (a : Addr) (xs : List D) (j : Nat) (d : D), o = .adr a ∧ y = .int (j : Int) ∧ M2 a = some (.lst xs) ∧ j < 2 ^ 62 ∧ xs[j]? = some d ∧ R d (mset M2 a (.lst (xs.eraseIdx j)))) Rx) Rx := rfl
theorem RepL.eraseIdx {B : Option Addr} {S : Hp} : ∀ {ds : List D} {vs : List V} (j : Nat), RepL B S ds vs → RepL B S (ds.eraseIdx j) (vs.eraseIdx j)
  | [], vs, j, l => by rw [repL_nil_of l]; exact repL_nil
  | d :: ds, vs, 0, l => by
    obtain ⟨v, ws, rfl, _, l1⟩ := repL_cons_of l
    exact l1
  | d :: ds, vs, j + 1, l => by
    obtain ⟨v, ws, rfl, r1, l1⟩ := repL_cons_of l
    exact repL_cons r1 (RepL.eraseIdx j l1)
end
end DL
namespace DL
theorem w_ex2 {α : Type} {x y : α} {P : α → α → Prop} : (∃ d d', (x = d ∧ y = d') ∧ P d d') = P x y := propext ⟨fun ⟨_, _, ⟨e1, e2⟩, h⟩ => by subst e1; subst e2; exact h, fun h => ⟨x, y, ⟨rfl, rfl⟩, h⟩⟩
theorem w_ex3 {α : Type} {x y z : α} {P : α → α → α → Prop} : (∃ d d' d'', (x = d ∧ y = d' ∧ z = d'') ∧ P d d' d'') = P x y z := propext ⟨fun ⟨_, _, _, ⟨e1, e2, e3⟩, h⟩ => by subst e1; subst e2; subst e3; exact h, fun h => ⟨x, y, z, ⟨rfl, rfl, rfl⟩, h⟩⟩
end DL
namespace DL
open PySem PySem.Spec L2
variable [TbC]
section
variable {c : Fm} {σ : St} {H S : Hp} {ev : EnM} {M : Mem} {a : Addr}
theorem MemR.notT2 (m : MemR c H S M) (z : MF M a) : ∃ o, H a = some o ∧ ∀ vs, o ≠ .tup vs := by
  rcases z with z | ⟨b, C, ks, xs, z⟩
  · cases e : M a with
    | none => exact (z e).elim
    | some n =>
      have r := m.nd a n e
      cases n with
      | lst xs => obtain ⟨vs, e1, _⟩ := r; exact ⟨_, e1, fun _ z => nomatch z⟩
      | dct ks xs => obtain ⟨vs, e1, _⟩ := r; exact ⟨_, e1, fun _ z => nomatch z⟩
      | dcT ks xs => obtain ⟨vs, e1, _⟩ := r; exact ⟨_, e1, fun _ z => nomatch z⟩
      | ins C dx ks xs => obtain ⟨vs, e1, _⟩ := r; exact ⟨_, e1, fun _ z => nomatch z⟩
      | st w s n => exact ⟨_, r, fun _ z => nomatch z⟩
      | dn P w ks xs => obtain ⟨as, vs, e1, _⟩ := r; exact ⟨_, e1, fun _ z => nomatch z⟩
  · obtain ⟨vs, _, e2, _⟩ := m.nd b _ z
    exact ⟨_, e2, fun _ z => nomatch z⟩
end
section
variable {X : Cx} {E : XK} {e : Expr} {T : DT}
theorem m_lendP (is : List Nat) (h : DP X E e T) : DM X E e (mLendN is T) := by
  obtain ⟨t, p, s⟩ := h
  refine ⟨t, p, fun c σ H S ev M R Rx x k t Q q => ?_⟩
  obtain ⟨ev', k0, t⟩ := k.lend0 t
  refine s _ σ H _ (vl ev') _ _ (x.lend k) k0 t Q fun v H1 S1 N d k1 s1 g r t1 => ?_
  have k2 := k.ofLend k1.kf
  have g2 : Reg c σ (vl ev) H1 (backM S1 M) N := fun a o ea => by
    obtain ⟨g1, g2, g3, g4⟩ := g a o ea
    have g3 : H a = none := g3
    exact ⟨g1, by rw [backM_out (k.mr.notF g3)]; exact g2, k.kn.kf.h0_none g3, k2.free⟩
  have k3 := k2.kn.uni g2
  have sN : Same (backM S1 M) (uni (backM S1 M) N) := uni_l
  have k4 : KM c σ H1 (uni (backM S1 M) N) ev M := k2.move k3.kf sN ⟨fun a n ea => (k2.mr.nd a n ea).keep sN fun b _ o eb => eb, fun a z => ⟨by
    have n1 : backM S1 M a = none := backM_in z
    have n2 : N a = none := by
      cases ea : N a with
      | none => rfl
      | some o =>
        obtain ⟨_, _, g3, _⟩ := g a o ea
        exact ((k.mr.mu z).1 g3).elim
    cases eu : uni (backM S1 M) N a with
    | none => rfl
    | some o =>
      unfold uni at eu
      rw [n1] at eu
      rw [← eu]
      exact n2, (k2.mr.out a z).2⟩⟩
  refine q v H1 _ d M k4 ((k.kn.kf.ofLend k.mr k1.kf).2.1.trans sN) (rep_mono (fun a o ea => ?_) d v r) t1
  rcases uni_of ea with ea | ⟨_, ea⟩
  · obtain ⟨vs, rfl, eb⟩ := tpC_of ea
    refine uni_l a _ ?_
    rw [backM_out fun z => ?_]
    · exact eb
    · obtain ⟨o2, eo, nt⟩ := k.mr.notT2 z
      have := s1 a o2 (by unfold lendM; rw [if_pos z]; exact eo)
      rw [eb] at this
      cases this
      exact nt vs rfl
  · exact uni_r g2 a o ea
end
theorem d_cvS {X : Cx} {E : XK} {C : Addr} {c f : Str} {i : Str} {p pos : Pos} (h : Hx.CvV X.K C f (.str i)) (hm : X.mg c = some (.ref C)) (hg : Gl X c := by rfl) (hd : (c == ("__debug__" : Str)) = false := by decide)
    (hb : attributeBase (.Name c p) f X.env (eval (.Name c p) X.env) = eval (.Name c p) X.env := by rfl) : DE X E (.Attribute (.Name c p) f pos) (xCv (.str i)) := by
  obtain ⟨u, hv⟩ := h.vl
  obtain ⟨t, pe, sm⟩ := (d_gadr (E := E) (pos := p) hm hg hd)
  refine ⟨_, ClX.pe_cval pe hb, fun c σ H S env R Rx x k t Q q => ?_⟩
  refine sm c σ H S env (fun d => d = .adr C ∧ R (.str i)) Rx x k ⟨rfl, t⟩ _ fun v H1 S1 d k1 s1 r1 t1 => ?_
  obtain ⟨rfl, t1⟩ := t1
  exact ⟨C, _, .str i, u, r1, h.rd, hv, q _ H1 S1 (.str i) k1 s1 rfl t1⟩
theorem d_cvB {X : Cx} {E : XK} {C : Addr} {c f : Str} {i : Bool} {p pos : Pos} (h : Hx.CvV X.K C f (.bl i)) (hm : X.mg c = some (.ref C)) (hg : Gl X c := by rfl) (hd : (c == ("__debug__" : Str)) = false := by decide)
    (hb : attributeBase (.Name c p) f X.env (eval (.Name c p) X.env) = eval (.Name c p) X.env := by rfl) : DE X E (.Attribute (.Name c p) f pos) (xCv (.bl i)) := by
  obtain ⟨u, hv⟩ := h.vl
  obtain ⟨t, pe, sm⟩ := (d_gadr (E := E) (pos := p) hm hg hd)
  refine ⟨_, ClX.pe_cval pe hb, fun c σ H S env R Rx x k t Q q => ?_⟩
  refine sm c σ H S env (fun d => d = .adr C ∧ R (.bl i)) Rx x k ⟨rfl, t⟩ _ fun v H1 S1 d k1 s1 r1 t1 => ?_
  obtain ⟨rfl, t1⟩ := t1
  exact ⟨C, _, .bl i, u, r1, h.rd, hv, q _ H1 S1 (.bl i) k1 s1 rfl t1⟩
end DL
namespace DL
open PySem PySem.Spec L2 Hd
section
variable [TbC] {P : Program} {w : World} {K : PySem.W.Frag} {mg : Str → Option Value} {base : Heap}
theorem tru_non : D.tru .non = some false := rfl
theorem tru_bl {b : Bool} : D.tru (.bl b) = some b := rfl
theorem tru_int {i : Int} : D.tru (.int i) = some (i != 0) := rfl
theorem tru_str {s : Str} : D.tru (.str s) = if s.length ≤ sizeLine then some ((s.length : Int) != 0) else none := rfl
theorem tru_lst {xs : List D} : D.tru (.lst xs) = some (!xs.isEmpty) := rfl
theorem tru_tup {xs : List D} : D.tru (.tup xs) = some (!xs.isEmpty) := rfl
theorem isN_non : D.isN .non = true := rfl
theorem isN_bl {b : Bool} : D.isN (.bl b) = false := rfl
theorem isN_int {i : Int} : D.isN (.int i) = false := rfl
theorem isN_str {s : Str} : D.isN (.str s) = false := rfl
theorem isN_lst {xs : List D} : D.isN (.lst xs) = false := rfl
theorem isN_tup {xs : List D} : D.isN (.tup xs) = false := rfl
theorem isN_obj {C : Addr} {ks : List Str} {xs : List D} : D.isN (.obj C ks xs) = false := rfl
theorem dat_non : D.dat .non = true := rfl
theorem dat_bl {b : Bool} : D.dat (.bl b) = true := rfl
theorem dat_int {i : Int} : D.dat (.int i) = true := rfl
theorem dat_str {s : Str} : D.dat (.str s) = true := rfl
theorem dat_lst {xs : List D} : D.dat (.lst xs) = datL xs := rfl
theorem dat_tup {xs : List D} : D.dat (.tup xs) = datL xs := rfl
theorem datL_nil : datL [] = true := rfl
theorem datL_cons {x : D} {xs : List D} : datL (x :: xs) = (x.dat && datL xs) := rfl
theorem dep_non : D.dep .non = 1 := rfl
theorem dep_bl {b : Bool} : D.dep (.bl b) = 1 := rfl
theorem dep_int {i : Int} : D.dep (.int i) = 1 := rfl
theorem dep_str {s : Str} : D.dep (.str s) = 1 := rfl
theorem dep_lst {xs : List D} : D.dep (.lst xs) = 1 + depL xs := rfl
theorem dep_tup {xs : List D} : D.dep (.tup xs) = 1 + depL xs := rfl
theorem depL_nil : depL [] = 0 := rfl
theorem depL_cons {x : D} {xs : List D} : depL (x :: xs) = max x.dep (depL xs) := rfl
theorem py_non : D.py .non = .none := rfl
theorem py_bl {b : Bool} : D.py (.bl b) = .bool b := rfl
theorem py_int {i : Int} : D.py (.int i) = .int i := rfl
theorem py_str {s : Str} : D.py (.str s) = .str s := rfl
theorem py_lst {xs : List D} : D.py (.lst xs) = .list (pyL xs) := rfl
theorem py_tup {xs : List D} : D.py (.tup xs) = .tuple (pyL xs) := rfl
theorem pyL_nil : pyL [] = [] := rfl
theorem pyL_cons {x : D} {xs : List D} : pyL (x :: xs) = x.py :: pyL xs := rfl
theorem eqv_self (d : D) : PyData.eqv d.py d.py = true := SeqAt.eqv_refl_plain d.py (py_plain d)
def GoodL (n : Nat) (xs : List D) : Prop := ∀ x ∈ xs, Good n x
theorem goodL_nil {n : Nat} : GoodL n [] = True := by simp [GoodL]
theorem goodL_cons {n : Nat} {x : D} {xs : List D} : GoodL n (x :: xs) = (Good n x ∧ GoodL n xs) := by simp [GoodL]
theorem goodl_lst {n : Nat} {xs : List D} : Good (n + 1) (.lst xs) = (xs.length ≤ 100000 ∧ GoodL n xs) := rfl
theorem goodl_tup {n : Nat} {xs : List D} : Good (n + 1) (.tup xs) = (xs.length ≤ 100000 ∧ GoodL n xs) := rfl
/-- a comprehension whose items are told by their place -/
theorem LcP.idx {xs : List D} {G : DG} {Te : DT} {vs : List Nat} {env : En} {R : List D → Prop} (g : Nat → D) (hz : xs.length ≤ sizeLine) (h : ∀ (i : Nat) (d : D) (N : D → Prop), xs[i]? = some d → N (g i) → G d (inner vs env) fun env' => Te env' N noX) (k : R ((List.range xs.length).map g)) :
    LcP xs G xYes Te vs env R := by
  refine ⟨fun i acc => acc = (List.range i).map g, rfl, fun i d acc e hI => ?_, fun acc hI => by rw [hI]; exact k⟩
  have hi := (List.getElem?_eq_some_iff.mp e).1
  have key := h i d (fun y => acc.length < sizeLine ∧ acc ++ [y] = (List.range (i + 1)).map g) e ⟨by rw [hI, List.length_map, List.length_range]; omega, by rw [hI, List.range_succ, List.map_append]; rfl⟩
  have e1 : (fun env' => xYes env' (fun b => (b = true → Te env' (fun y => acc.length < sizeLine ∧ acc ++ [y] = (List.range (i + 1)).map g) noX) ∧ (b = false → acc = (List.range (i + 1)).map g)) noX) = fun env' => Te env' (fun y => acc.length < sizeLine ∧ acc ++ [y] = (List.range (i + 1)).map g) noX := by
    funext env'
    refine propext ⟨fun t => t.1 rfl, fun t => ⟨fun _ => t, fun z => nomatch z⟩⟩
  rw [e1]
  exact key
theorem ups_at {lo : Int} {n i : Nat} {d : D} (e : (DL.ups lo n)[i]? = some d) : i < n ∧ d = .int (lo + i) := by
  rw [ups_get] at e
  split at e <;> cases e
  rename_i hi
  exact ⟨hi, rfl⟩
theorem flat_non : D.flat .non = true := rfl
theorem flat_bl {b : Bool} : D.flat (.bl b) = true := rfl
theorem flat_int {i : Int} : D.flat (.int i) = true := rfl
theorem flat_str {s : Str} : D.flat (.str s) = true := rfl
theorem flatL_ints {ns : List Int} : flatL (ns.map D.int) = true := flatL_map fun _ => rfl
theorem asInts_nil : asInts [] = some [] := rfl
theorem asInts_cons {i : Int} {xs : List D} : asInts (.int i :: xs) = (asInts xs).map (i :: ·) := by
  rw [asInts]
theorem getD_map {xs : List Int} {k : Nat} (h : k < xs.length) : (xs.map D.int)[k]? = some (.int (xs.getD k 0)) := by
  rw [List.getElem?_map, List.getElem?_eq_getElem h]
  simp [List.getD, List.getElem?_eq_getElem h]
theorem range_getD (xs : List Int) : (List.range xs.length).map (fun k => D.int (xs.getD k 0)) = xs.map D.int := by
  apply List.ext_getElem?
  intro i
  by_cases h : i < xs.length
  · rw [getD_map h]
    simp [h]
  · simp [h]
theorem pairs_ints {xs ys : List Int} {i : Nat} {d : D} (h : (pairs (xs.map D.int) (ys.map D.int))[i]? = some d) : i < xs.length ∧ i < ys.length ∧ d = .tup [.int (xs.getD i 0), .int (ys.getD i 0)] := by
  obtain ⟨a, b, e1, e2, e3⟩ := pairs_get _ _ _ _ h
  have h1 : i < xs.length := by have := (List.getElem?_eq_some_iff.mp e1).1; simpa using this
  have h2 : i < ys.length := by have := (List.getElem?_eq_some_iff.mp e2).1; simpa using this
  rw [getD_map h1] at e1
  rw [getD_map h2] at e2
  cases e1
  cases e2
  exact ⟨h1, h2, e3⟩
theorem cutD_from {xs : List D} {a : Nat} : cutD xs (some (a : Int)) none = xs.drop a := by
  unfold cutD
  rw [HT.sIx_nat xs.length 0 a, HT.sIx_none]
  by_cases h : a ≤ xs.length
  · rw [Nat.min_eq_left h, List.take_of_length_le (by rw [List.length_drop]; omega)]
  · rw [List.drop_eq_nil_of_le (by omega), List.drop_eq_nil_of_le (by omega)]
    simp
theorem cutD_1 {xs : List D} : cutD xs (some 1) none = xs.drop 1 := cutD_from (a := 1)
theorem goodL_ints {n : Nat} {ns : List Int} : GoodL (n + 1) (ns.map D.int) = True := by
  simp only [eq_iff_iff, iff_true]
  exact fun x hx => by
    obtain ⟨i, _, rfl⟩ := List.mem_map.mp hx
    trivial
theorem map_int_inj {xs ys : List Int} : (xs.map D.int = ys.map D.int) = (xs = ys) := by
  simp only [eq_iff_iff]
  exact List.map_inj_right fun _ _ h => by injection h
theorem eqv_nn : PyData.eqv .none .none = true := rfl
theorem eqv_bb {a b : Bool} : PyData.eqv (.bool a) (.bool b) = decide (a = b) := by simp only [PyData.eqv]; cases a <;> cases b <;> rfl
theorem eqv_ii {a b : Int} : PyData.eqv (.int a) (.int b) = decide (a = b) := by simp only [PyData.eqv]; exact Bool.beq_eq_decide_eq a b
theorem eqv_ss {a b : Str} : PyData.eqv (.str a) (.str b) = (a == b) := by simp only [PyData.eqv]
theorem eqv_ll {a b : List PyData} : PyData.eqv (.list a) (.list b) = PyData.eqvAll a b := by simp only [PyData.eqv]
theorem eqv_tt {a b : List PyData} : PyData.eqv (.tuple a) (.tuple b) = PyData.eqvAll a b := by simp only [PyData.eqv]
theorem eqv_lt {a b : List PyData} : PyData.eqv (.list a) (.tuple b) = false := by simp only [PyData.eqv]
theorem eqv_tl {a b : List PyData} : PyData.eqv (.tuple a) (.list b) = false := by simp only [PyData.eqv]
theorem eqv_nb {b : Bool} : PyData.eqv .none (.bool b) = false := by simp only [PyData.eqv]
theorem eqv_bn {b : Bool} : PyData.eqv (.bool b) .none = false := by simp only [PyData.eqv]
theorem eqv_ni {i : Int} : PyData.eqv .none (.int i) = false := by simp only [PyData.eqv]
theorem eqv_in {i : Int} : PyData.eqv (.int i) .none = false := by simp only [PyData.eqv]
theorem eqv_ns {s : Str} : PyData.eqv .none (.str s) = false := by simp only [PyData.eqv]
theorem eqv_sn {s : Str} : PyData.eqv (.str s) .none = false := by simp only [PyData.eqv]
theorem eqv_nl {l : List PyData} : PyData.eqv .none (.list l) = false := by simp only [PyData.eqv]
theorem eqv_ln {l : List PyData} : PyData.eqv (.list l) .none = false := by simp only [PyData.eqv]
theorem eqvAll_nn : PyData.eqvAll [] [] = true := by simp only [PyData.eqvAll]
theorem eqvAll_nc {x : PyData} {xs : List PyData} : PyData.eqvAll [] (x :: xs) = false := by simp only [PyData.eqvAll]
theorem eqvAll_cn {x : PyData} {xs : List PyData} : PyData.eqvAll (x :: xs) [] = false := by simp only [PyData.eqvAll]
theorem eqvAll_cc {x y : PyData} {xs ys : List PyData} : PyData.eqvAll (x :: xs) (y :: ys) = (PyData.eqv x y && PyData.eqvAll xs ys) := by simp only [PyData.eqvAll]
theorem eqvAll_self {xs : List D} : PyData.eqvAll (pyL xs) (pyL xs) = true := by
  have h := eqv_self (.lst xs)
  rw [py_lst, eqv_ll] at h
  exact h
theorem eqvAll_ints : ∀ {xs ys : List Int}, PyData.eqvAll (pyL (xs.map D.int)) (pyL (ys.map D.int)) = decide (xs = ys)
  | [], [] => by simp only [List.map_nil, pyL_nil, eqvAll_nn, decide_true]
  | [], y :: ys => by simp [pyL_nil, pyL_cons, eqvAll_nc]
  | x :: xs, [] => by simp [pyL_nil, pyL_cons, eqvAll_cn]
  | x :: xs, y :: ys => by
    rw [List.map_cons, List.map_cons, pyL_cons, pyL_cons, eqvAll_cc, eqvAll_ints, py_int, py_int, eqv_ii]
    simp
theorem datL_ints {ns : List Int} : datL (ns.map D.int) = true := datL_of fun x hx => by
  obtain ⟨i, _, rfl⟩ := List.mem_map.mp hx
  rfl
theorem depL_ints {ns : List Int} : depL (ns.map D.int) ≤ 1 := depL_of fun x hx => by
  obtain ⟨i, _, rfl⟩ := List.mem_map.mp hx
  exact Nat.le_refl _
theorem asO_obj {C C' : Addr} {ks : List Str} {xs : List D} {R : List Str → List D → Prop} : asO C R (.obj C' ks xs) = (C' = C ∧ R ks xs) := rfl
def dgN1 : Array Lean.Name := #[`zRaise, `xFld, `xMeth, `xMethK, `opOwn, `xProp, `xMake, `xOB, `xOBi, `xInv, `asO_obj, `xNF, `xFN, `xFl, `zRetNew, `zRetO, `xStar, `xSl3, `zNever, `zParC, `zParV, `flat_non, `flat_bl, `flat_int, `flat_str, `flatL_nil, `flatL_cons, `flatL_app, `cut3_rev, `cut3_rev0, `pls_rev, `pls_rev0, `List.length_reverse, `asLT_lst, `asLT_tup, `true_or, `or_true, `startE, `inner, `zSeq, `zIf, `zNext, `zRet, `zAsg, `zSetO, `zPar, `zFrz, `zApp, `zStO, `zAug, `zExpr, `zFor, `zWhile, `zBreak, `zCont, `xTest, `xAnd, `xOr, `xNot, `xAndV, `xOrV, `xNotV, `xIf, `xTru, `xOp, `xUn, `xC, `xNil, `xCons, `xLst, `xTup, `xIxO, `xLenO, `xNoPart, `xPart, `xSl, `xChain, `xF, `xNew, `xCatF, `xRepF, `xListF, `xSlF, `xCB, `xCall, `xCallK, `xItL, `xItT, `xRg1, `xRg2, `xZip, `fZip_lst, `fZip_tup, `xEnum, `xItS, `xLcF_is, `xYes, `yName, `yNil, `yCons, `yTup, `put_0, `put_s, `putO_0, `putO_s, `xVar_0, `xVar_s, `opAdd_int, `opAdd_str, `opAdd_lst, `opAdd_tup, `opSub_int, `opMul_int, `opMul_lst, `opMul_str, `opFdiv_int, `opMod_int, `opPow_int, `opNeg_int, `opLt_int, `opLe_int, `opGt_int, `opGe_int, `opIx_lst, `opIx_tup, `opIx_str, `opSl_lst, `opSl_tup, `opSl_str, `opEq, `opNe, `opIs, `opIsNot, `isN_non, `isN_bl, `isN_int, `isN_str, `isN_lst, `isN_tup, `isN_obj, `dat_non, `dat_bl, `dat_int, `dat_str, `dat_lst, `dat_tup, `datL_nil, `datL_cons, `dep_non, `dep_bl, `dep_int, `dep_str, `dep_lst, `dep_tup, `depL_nil, `depL_cons, `tru_non, `tru_bl, `tru_int, `tru_str, `tru_lst, `tru_tup, `asB_bl, `asI_int, `asL_lst, `asLT_lst, `asLT_tup, `fLen_lst, `fLen_tup, `fLen_str, `fInt_int, `fInt_bl, `fAbs_int, `fMin2_int, `fMax2_int, `fSum_lst, `fAny_lst, `fAll_lst, `fTuple_lst, `fTuple_tup, `py_non, `py_bl, `py_int, `py_str, `py_lst, `py_tup, `pyL_nil, `pyL_cons, `eqv_self, `eqvAll_self, `eqvAll_ints, `eqv_nn, `eqv_bb, `eqv_ii, `eqv_ss, `eqv_ll, `eqv_tt, `eqv_lt, `eqv_tl, `eqv_nb, `eqv_bn, `eqv_ni, `eqv_in, `eqv_ns, `eqv_sn, `eqv_nl, `eqv_ln, `eqvAll_nn, `eqvAll_nc, `eqvAll_cn, `eqvAll_cc, `Bool.and_true, `Bool.true_and, `Bool.and_false, `Bool.false_and, `Bool.or_true, `Bool.true_or, `Bool.or_false, `Bool.false_or, `Bool.not_true, `Bool.not_false, `bne_self_eq_false, `beq_self_eq_true, `Bool.beq_eq_decide_eq, `List.map_cons, `List.map_nil, `List.length_cons, `List.length_nil, `List.length_append, `List.length_map, `Nat.reduceAdd, `Nat.reduceSub, `repN_0, `repN_s, `List.cons_append, `List.nil_append, `List.append_nil, `List.set_cons_zero, `List.set_cons_succ, `List.all_cons, `List.all_nil, `Option.some.injEq, `DV.own.injEq, `DV.val.injEq, `D.int.injEq, `D.bl.injEq, `D.lst.injEq, `D.tup.injEq, `D.str.injEq, `List.cons.injEq, `exists_eq_left', `exists_eq_left, `exists_eq_right, `exists_eq_right', `decide_eq_true_eq, `decide_eq_false_iff_not, `reduceCtorEq, `true_implies, `false_implies, `implies_true, `forall_const, `eq_self, `and_true, `true_and, `and_self, `if_true, `if_false, `decide_true, `decide_false, `Bool.false_eq_true, `ite_true, `ite_false, `goodl_lst, `goodl_tup, `good_non, `good_bl, `good_int, `good_str, `goodL_nil, `goodL_cons, `sizeLine_eq, `Nat.reduceLeDiff, `Nat.reduceLT, `isi_non_int, `isi_non_bool, `isi_non_str, `isi_non_list, `isi_non_tuple, `isi_non_lt, `isi_bl_int, `isi_bl_bool, `isi_bl_str, `isi_bl_list, `isi_bl_tuple, `isi_bl_lt, `isi_int_int, `isi_int_bool, `isi_int_str, `isi_int_list, `isi_int_tuple, `isi_int_lt, `isi_str_int, `isi_str_bool, `isi_str_str, `isi_str_list, `isi_str_tuple, `isi_str_lt, `isi_lst_int, `isi_lst_bool, `isi_lst_str, `isi_lst_list, `isi_lst_tuple, `isi_lst_lt, `isi_tup_int, `isi_tup_bool, `isi_tup_str, `isi_tup_list, `isi_tup_tuple, `isi_tup_lt, `Nat.max_self, `Bool.not_eq_true', `Bool.not_eq_false', `Bool.or_eq_true, `Bool.and_eq_true]
local macro_rules | `(tactic| walk_at "dl") => do let xs ← dgN1.mapM fun n => `(Lean.Parser.Tactic.simpLemma| $(Lean.mkIdent n):term); `(tactic| simp only [$xs,*, List.getElem?_cons_zero, List.getElem?_cons_succ])
def spBag (K : PySem.W.Frag) : Sp := fun vs H Q _ => ∃ (a : Addr) (ns : List Int), vs = [.ref a] ∧ SqL K H a (ns.map V.int) ∧ ns.length ≤ 63 ∧
  ∀ (b ca : Addr) (H' : Hp) (st : Int), b ≠ ca → Same H H' → H' b = some (.lst [.ref ca, .int 0, .int 0, .int st, .int 0]) → H' ca = some (.lst (ns.map V.int)) → 0 ≤ st → st < 2147483549 → Q (.ref b) H'
def n__law_bag : List Str := ["_law_script", "_law_state", "_law_cell"]
theorem sc__law_bag : FnScope n__law_bag ["_law_script"] (defScope s__law_bag) := ⟨rfl, rfl, rfl, by decide +kernel, rfl, by decide +kernel, by decide +kernel⟩
theorem cut63 {ns : List Int} (h : ns.length ≤ 63) : cutV (ns.map V.int) none (some 63) = ns.map V.int := by
  unfold cutV
  rw [HT.sIx_none]
  have e : HT.sIx (ns.map V.int).length (ns.map V.int).length (some 63) = ns.length := by
    have := HT.sIx_nat (ns.map V.int).length (ns.map V.int).length 63
    rw [List.length_map] at this ⊢
    exact this.trans (by omega)
  rw [e, List.drop_zero, Nat.sub_zero]
  have := List.take_length (l := ns.map V.int)
  rw [List.length_map] at this
  exact this
theorem ok__law_bag (D__law_bag : Df K mg "_law_bag" s__law_bag) (m_int : mg "int" = none) : FnOk P w K mg base (L2.CX P w) 1 D__law_bag.f D__law_bag.fd ["_law_script"] (spBag K) := by
  refine FunD.ok D__law_bag.F sc__law_bag (fun vs H Q E h => ?_) (fun cdv A outer s H vs Q E hr h => ?_)
  · obtain ⟨a, ns, rfl, _⟩ := h
    rfl
  · obtain ⟨a, ns, rfl, hS, hlen, k⟩ := h
    refine ⟨_, PSs.nox (pss_cons (ps_set (i := 1) sc__law_bag.nd rfl (.inl rfl) pe_int)
      (pss_cons (ps_for PassesOwn.never rfl (pi_list (pe_slice sl_list (pv 0) po_none (po_some pe_int))) (pg_name (i := 2) sc__law_bag.nd rfl (.inl rfl))
        (pss_one (ps_set (i := 1) sc__law_bag.nd rfl (.inl rfl) (pe_op op_mod (pe_callTy call_int1 (by rfl) m_int PyProof.Rows.boot_int (pa_cons (pe_op op_add (pe_op op_add (pe_op op_mul (pv 1) pe_int) (pe_op op_mod (pe_callTy call_int1 (by rfl) m_int PyProof.Rows.boot_int (pa_cons (pv 2) pa_nil)) pe_int)) pe_int) pa_nil)) pe_int))))
      (pss_one (ps_ret (pe_lst (pa_cons (pe_lc (own := [("_law_cell", 2)]) rfl sc__law_bag.nd (pi_list (pe_slice sl_list (pv 0) po_none (po_some pe_int))) (blkOk_by (own := [("_law_cell", 2)]) (N := n__law_bag) (sc := defScope s__law_bag) (by decide +kernel)) (fun _ _ _ _ _ => pg_name (i := 2) sc__law_bag.nd rfl (.inl rfl)) (fun _ _ _ _ _ => pts_nil)
        (fun _ _ _ _ _ => pe_callTy call_int1 (by rfl) m_int PyProof.Rows.boot_int (pa_cons (pv 2) pa_nil))) (pa_cons pe_int (pa_cons pe_int (pa_cons (pv 1) (pa_cons pe_int pa_nil)))))))))), ?_⟩
    refine ⟨_, rfl, 63, rfl, a, _, rfl, hS, fun p hp => ?_⟩
    rw [cut63 hlen]
    refine ⟨p, rfl, ⟨_, SqL.of upd_same⟩, for_list (K := K) (a := p) (xs := ns.map V.int) (fun i σ H2 => H2 = upd H p (.lst (ns.map V.int)) ∧ ∃ (st : Int) (v : Option V), σ = [some (.ref a), some (.int st), v] ∧ 0 ≤ st ∧ st < 2147483549)
      ⟨rfl, 10001, none, rfl, by decide, by decide⟩ (fun i σ H2 _ ⟨e, _⟩ => by rw [e]; exact SqL.of upd_same) ?_ ?_⟩
    · rintro i x σ H2 hx ⟨rfl, st, v, rfl, h0, h1⟩
      rw [List.getElem?_map] at hx
      obtain ⟨z, hz, rfl⟩ := Option.map_eq_some_iff.mp hx
      refine ⟨_, rfl, st, 50123, rfl, rfl, .inr ⟨by decide, by decide⟩, _, rfl, .inl ⟨z, rfl, ?_⟩⟩
      refine ⟨_, _, rfl, rfl, by show (0 : Int) < 2147483587; decide, _, _, rfl, rfl, _, _, rfl, rfl, .inl ⟨_, rfl, ?_⟩⟩
      refine ⟨_, _, rfl, rfl, by show (0 : Int) < 2147483549; decide, rfl, _, _, rfl, ?_, ?_⟩
      · exact Int.emod_nonneg _ (by decide)
      · exact Int.emod_lt_of_pos _ (by decide)
    · rintro σ H2 ⟨rfl, st, v, rfl, h0, h1⟩
      have s1 : Same H (upd H p (.lst (ns.map V.int))) := fun b o e => by rw [upd_ne (ne_of_none e hp)]; exact e
      refine ⟨_, rfl, 63, rfl, a, _, rfl, s1.seq hS, fun p2 hp2 => ?_⟩
      rw [cut63 hlen]
      refine ⟨p2, rfl, ⟨_, SqL.of upd_same⟩, fun ca hca => ?_⟩
      have n2 : ca ≠ p2 := fun z => by
        subst z
        rw [upd_same] at hca
        cases hca
      refine lc_list (K := K) (a := p2) (xs := ns.map V.int) (fun i H3 => Same (upd (upd H p (.lst (ns.map V.int))) p2 (.lst (ns.map V.int))) H3 ∧ H3 ca = some (.lst ((ns.take i).map V.int))) ⟨fun b o e => by
        rw [upd_ne (ne_of_none e hca)]
        exact e, by rw [upd_same]; simp⟩ (fun i H3 _ ⟨sm, _⟩ => SqL.of (sm _ _ upd_same)) ?_ ?_
      · rintro i x H3 hx ⟨sm, e3⟩
        rw [List.getElem?_map] at hx
        obtain ⟨z, hz, rfl⟩ := Option.map_eq_some_iff.mp hx
        have hi := (List.getElem?_eq_some_iff.mp hz).1
        refine ⟨rfl, ?_⟩
        simp only [tYes, if_true]
        refine ⟨_, rfl, .inl ⟨z, rfl, _, e3, ?_, ?_, ?_⟩⟩
        · rw [List.length_map, List.length_take]
          exact Nat.lt_of_le_of_lt (Nat.min_le_right _ _) (Nat.lt_of_le_of_lt hlen (by decide))
        · intro b o e
          have nb : b ≠ ca := ne_of_none e hca
          rw [upd_ne nb]
          exact sm b o e
        · rw [upd_same, List.take_succ, hz]
          simp
      · rintro H3 ⟨sm, e3⟩
        rw [List.length_map, List.take_length] at e3
        refine ⟨_, rfl, by show 5 ≤ sizeLine; decide, fun b hb => ?_⟩
        have nb : b ≠ ca := fun z => by
          subst z
          rw [e3] at hb
          cases hb
        refine k b ca _ st nb (fun c o e => ?_) upd_same (by rw [upd_ne nb.symm]; exact e3) h0 h1
        have h2 := s1 c o e
        have h3 : upd (upd H p (.lst (ns.map V.int))) p2 (.lst (ns.map V.int)) c = some o := by rw [upd_ne (ne_of_none h2 hp2)]; exact h2
        have h4 := sm c o h3
        rw [upd_ne (ne_of_none h4 hb)]
        exact h4
def F__law_pull : Spec
  | [.bag, .int n], R, _ => 0 < n ∧ n.natAbs.log2 < 9000 ∧ ∀ r : Int, 0 ≤ r → r < n → R (.int r)
  | _, _, _ => False
theorem F__law_pull_is {n : Int} {R : D → Prop} {Rx : Er → Prop} : F__law_pull [.bag, .int n] R Rx = (0 < n ∧ n.natAbs.log2 < 9000 ∧ ∀ r : Int, 0 ≤ r → r < n → R (.int r)) := rfl
theorem F__law_pull_of {ds : List D} {R : D → Prop} {Rx : Er → Prop} (h : F__law_pull ds R Rx) : ∃ n : Int, ds = [.bag, .int n] ∧ 0 < n ∧ n.natAbs.log2 < 9000 ∧ ∀ r : Int, 0 ≤ r → r < n → R (.int r) := by
  unfold F__law_pull at h
  split at h
  · exact ⟨_, rfl, h⟩
  · exact h.elim
def n__law_pull : List Str := ["_law_bag_here", "_law_many", "_law_cell", "_law_digit", "_law_state"]
theorem sc__law_pull : FnScope n__law_pull ["_law_bag_here", "_law_many"] (defScope s__law_pull) := ⟨rfl, rfl, rfl, by decide +kernel, rfl, by decide +kernel, by decide +kernel⟩
def bagL (ca : Addr) (i g st n : Int) : HO := .lst [.ref ca, .int i, .int g, .int st, .int n]
theorem ok__law_pull (D__law_pull : Df K mg "_law_pull" s__law_pull) (m_int : mg "int" = none) (m_len : mg "len" = none) : FnOk P w K mg base (L2.CX P w) 1 D__law_pull.f D__law_pull.fd ["_law_bag_here", "_law_many"] (spD F__law_pull) := by
  refine FunD.ok D__law_pull.F sc__law_pull (fun vs H Q E ⟨c, S, ds, R, Rx, _, _, _, l, h, _⟩ => ?_) (fun cdv A outer s H vs Q E hr hsp => ?_)
  · obtain ⟨n, rfl, _⟩ := F__law_pull_of h
    exact l.length
  obtain ⟨c, S, ds, R, Rx, h0, hs0, kf, l, h, q, _⟩ := hsp
  obtain ⟨n, rfl, hn, hn9, hR⟩ := F__law_pull_of h
  obtain ⟨v1, v2, rfl, r1, r2⟩ := rep2 l
  obtain ⟨b, eB, rfl⟩ := r1
  cases (show v2 = .int n from r2)
  obtain ⟨⟨nb, cs, i0, g0, st0, cnt0, eb, eca, i0n, g0n, st0n, st0l⟩, hb0⟩ := kf.bag b eB
  have hca : H c.C = some (.lst (cs.map V.int)) := kf.sub _ _ eca
  have nca : c.C ≠ b := fun z => by subst z; rw [nb] at eca; cases eca
  -- the end: any result, any right bag
  have fin : ∀ (r : Int) (i g st cnt : Int), 0 ≤ r → r < n → 0 ≤ i → 0 ≤ g → 0 ≤ st → st < 2147483549 → Q (.int r) (upd H b (bagL c.C i g st cnt)) := fun r i g st cnt h1 h2 h3 h4 h5 h6 => by
    refine q _ _ S (.int r) ⟨fun a o e => ?_, kf.s0, fun a o e ne => ?_, kf.new, fun b' e => ?_, ⟨kf.tab.1.lst eb, kf.tab.2⟩⟩ rfl (hR r h1 h2)
    · rw [upd_ne (fun z => by subst z; rw [nb] at e; cases e)]
      exact kf.sub a o e
    · rw [upd_ne (fun z => ne (.inl (by rw [z]; exact eB)))]
      exact kf.old a o e ne
    · rw [eB] at e
      cases e
      exact ⟨⟨nb, cs, i, g, st, cnt, upd_same, eca, h3, h4, h5, h6⟩, hb0⟩
  have hl : ∀ (o : HO), (upd H b o) c.C = some (.lst (cs.map V.int)) := fun o => by rw [upd_ne nca]; exact hca
  -- behind the first if
  obtain ⟨t2, p2, h2⟩ : ∃ t2, PSs (cxOf (L2.CX P w) P w K mg base n__law_pull "_law_pull" (defScope s__law_pull) D__law_pull.f cdv A outer s H E).nox ((defBody s__law_pull).drop 2) t2 ∧
      ∀ (v : Option V) (i g st cnt : Int), 0 ≤ i → 0 ≤ g → 0 ≤ st → st < 2147483549 → t2 { nx := fun _ H' => Q .non H', rt := Q } [some (.ref b), some (.int n), v, none, none] (upd H b (bagL c.C i g st cnt)) := by
    refine ⟨_, pss_cons (ps_if (pt_cmpR op_gt (pe_ix ix_list (pv 0) pe_int (fun _ _ => rfl)) pe_int (nomark _))
        (pss_cons (ps_set (i := 3) sc__law_pull.nd rfl (.inl rfl) (pe_op op_mod (pe_callTy call_int1 (by rfl) m_int PyProof.Rows.boot_int (pa_cons (pe_ix ix_list (pv 0) pe_int (fun _ _ => rfl)) pa_nil)) (pv 1)))
        (pss_cons (ps_asg (pe_op op_fdivW (pe_callTy call_int1 (by rfl) m_int PyProof.Rows.boot_int (pa_cons (pe_ix ix_list (pv 0) pe_int (fun _ _ => rfl)) pa_nil)) (pv 1)) (pg_sub (pv 0) pe_int set_list))
        (pss_one (ps_ret (pv 3))))) pss_nil)
      (pss_cons (ps_set (i := 4) sc__law_pull.nd rfl (.inl rfl) (pe_ix ix_list (pv 0) pe_int (fun _ _ => rfl)))
      (pss_cons (ps_asg (pe_op op_mod (pe_callTy call_int1 (by rfl) m_int PyProof.Rows.boot_int (pa_cons (pe_op op_add (pe_op op_add (pe_op op_add (pe_op op_pow (pv 4) pe_int) (pe_op op_mul (pv 4) pe_int)) (pe_op op_mul (pe_ix ix_list (pv 0) pe_int (fun _ _ => rfl)) pe_int)) pe_int) pa_nil)) pe_int) (pg_sub (pv 0) pe_int set_list))
      (pss_one (ps_ret (pe_op op_mod (pe_callTy call_int1 (by rfl) m_int PyProof.Rows.boot_int (pa_cons (pe_op op_add (pe_op op_fdiv (pe_ix ix_list (pv 0) pe_int (fun _ _ => rfl)) pe_int) (pe_op op_mul (pe_op op_mod (pe_callTy call_int1 (by rfl) m_int PyProof.Rows.boot_int (pa_cons (pe_ix ix_list (pv 0) pe_int (fun _ _ => rfl)) pa_nil)) pe_int) pe_int)) pa_nil)) (pv 1)))))), fun v i g st cnt hi hg hst hst2 => ?_⟩
    refine ⟨_, rfl, b, _, 2, .int g, rfl, rfl, SqL.of upd_same, rfl, g, 0, rfl, rfl, _, rfl, ?_⟩
    by_cases hgp : 0 < g
    · rw [decide_eq_true hgp]
      refine iteT ?_
      refine ⟨_, rfl, b, _, 2, .int g, rfl, rfl, SqL.of upd_same, rfl, .inl ⟨g, rfl, ?_⟩⟩
      refine ⟨_, rfl, g, n, rfl, rfl, hn, ?_⟩
      refine ⟨_, rfl, b, _, 2, .int g, rfl, rfl, SqL.of upd_same, rfl, .inl ⟨g, rfl, ?_⟩⟩
      refine ⟨_, rfl, g, n, rfl, rfl, ⟨hn, hn9⟩, ?_⟩
      refine ⟨_, rfl, b, _, 2, 2, rfl, rfl, upd_same, rfl, ?_⟩
      refine ⟨_, rfl, ?_⟩
      rw [upd_upd]
      exact fin (g % n) i (g / n) st cnt (Int.emod_nonneg _ (by omega)) (Int.emod_lt_of_pos _ hn) hi (Int.ediv_nonneg hg (by omega)) hst hst2
    · rw [decide_eq_false hgp]
      refine iteF ?_
      refine ⟨_, rfl, b, _, 3, .int st, rfl, rfl, SqL.of upd_same, rfl, ?_⟩
      refine ⟨_, rfl, st, 3, rfl, rfl, ⟨by decide, by decide, by omega⟩, ?_⟩
      refine ⟨_, rfl, st, 40427, rfl, rfl, .inr ⟨by decide, by decide⟩, ?_⟩
      refine ⟨_, _, rfl, rfl, ?_⟩
      refine ⟨_, rfl, b, _, 4, .int cnt, rfl, rfl, SqL.of upd_same, rfl, ?_⟩
      refine ⟨cnt, 1299709, rfl, rfl, .inr ⟨by decide, by decide⟩, ?_⟩
      refine ⟨_, _, rfl, rfl, ?_⟩
      refine ⟨_, _, rfl, rfl, .inl ⟨_, rfl, ?_⟩⟩
      refine ⟨_, _, rfl, rfl, by show (0 : Int) < 2147483549; decide, ?_⟩
      refine ⟨_, rfl, b, _, 3, 3, rfl, rfl, upd_same, rfl, ?_⟩
      rw [upd_upd]
      refine ⟨_, rfl, b, _, 3, _, rfl, rfl, SqL.of upd_same, rfl, ?_⟩
      refine ⟨_, 83, rfl, rfl, ⟨by decide, by decide⟩, ?_⟩
      refine ⟨_, rfl, b, _, 3, _, rfl, rfl, SqL.of upd_same, rfl, .inl ⟨_, rfl, ?_⟩⟩
      refine ⟨_, 7901, rfl, rfl, by show (0 : Int) < 7901; decide, ?_⟩
      refine ⟨_, 67, rfl, rfl, .inr ⟨by decide, by decide⟩, ?_⟩
      refine ⟨_, _, rfl, rfl, .inl ⟨_, rfl, ?_⟩⟩
      refine ⟨_, rfl, _, n, rfl, rfl, hn, ?_⟩
      exact fin _ i g _ cnt (Int.emod_nonneg _ (by omega)) (Int.emod_lt_of_pos _ hn) hi hg (Int.emod_nonneg _ (by decide)) (Int.emod_lt_of_pos _ (by decide))
  refine ⟨_, PSs.nox (pss_cons (ps_asg (pe_op op_add (pe_ix ix_list (pv 0) pe_int (fun _ _ => rfl)) pe_int) (pg_sub (pv 0) pe_int set_list))
    (pss_cons (ps_if (PW.pt (pw_and (pt_cmpR op_eq (pe_ix ix_list (pv 0) pe_int (fun _ _ => rfl)) pe_int (nomark _)) (pw_and1 (pt_cmpR op_lt (pe_ix ix_list (pv 0) pe_int (fun _ _ => rfl)) (pe_callB call_len (by rfl) m_len boot_len (pa_cons (pe_ix ix_list (pv 0) pe_int (fun _ _ => rfl)) pa_nil)) (nomark _)))))
      (pss_cons (ps_set (i := 2) sc__law_pull.nd rfl (.inl rfl) (pe_ix ix_list (pe_ix ix_list (pv 0) pe_int (fun _ _ => rfl)) (pe_ix ix_list (pv 0) pe_int (fun _ _ => rfl)) (fun _ _ => rfl)))
      (pss_cons (ps_asg (pe_op op_add (pe_ix ix_list (pv 0) pe_int (fun _ _ => rfl)) pe_int) (pg_sub (pv 0) pe_int set_list))
      (pss_cons (ps_if (pt_cmpR op_ge (pv 2) (pe_op op_pow pe_int pe_int) (nomark _)) (pss_one (ps_asg (pv 2) (pg_sub (pv 0) pe_int set_list))) pss_nil)
      (pss_one (ps_asg (pe_op op_mod (pe_callTy call_int1 (by rfl) m_int PyProof.Rows.boot_int (pa_cons (pe_op op_add (pe_op op_add (pe_op op_mul (pe_ix ix_list (pv 0) pe_int (fun _ _ => rfl)) pe_int) (pe_op op_mul (pe_op op_mod (pe_callTy call_int1 (by rfl) m_int PyProof.Rows.boot_int (pa_cons (pv 2) pa_nil)) pe_int) pe_int)) pe_int) pa_nil)) pe_int) (pg_sub (pv 0) pe_int set_list)))))) pss_nil) p2)), ?_⟩
  refine ⟨_, rfl, b, _, 4, .int cnt0, rfl, rfl, SqL.of eb, rfl, cnt0, 1, rfl, rfl, ?_⟩
  refine ⟨_, rfl, b, _, 4, 4, rfl, rfl, eb, rfl, ?_⟩
  refine ⟨_, rfl, b, _, 2, .int g0, rfl, rfl, SqL.of upd_same, rfl, rfl, _, rfl, ?_⟩
  by_cases hg0 : g0 = 0
  · subst hg0
    rw [show decide (V.int 0 = V.int 0) = true from decide_eq_true rfl]
    refine iteT ?_
    refine ⟨_, rfl, b, _, 1, .int i0, rfl, rfl, SqL.of upd_same, rfl, ?_⟩
    refine ⟨_, rfl, b, _, 0, .ref c.C, rfl, rfl, SqL.of upd_same, rfl, ?_⟩
    refine ⟨_, (cs.map V.int).length, rfl, .inl ⟨_, SqL.of (hl _), rfl⟩, ?_⟩
    refine ⟨_, _, rfl, rfl, _, rfl, ?_⟩
    by_cases hlt : i0 < ((cs.map V.int).length : Nat)
    · rw [decide_eq_true hlt]
      refine iteT ?_
      obtain ⟨z, eat⟩ : ∃ z, atI (cs.map V.int) i0 = some (.int z) := by
        obtain ⟨kk, ek⟩ : ∃ kk : Nat, i0 = (kk : Int) := ⟨i0.toNat, by omega⟩
        subst ek
        have hin : kk < cs.length := by rw [List.length_map] at hlt; omega
        exact ⟨cs[kk], atI_nat (by rw [List.getElem?_map]; simp [hin])⟩
      refine ⟨_, rfl, b, _, 0, .ref c.C, rfl, rfl, SqL.of upd_same, rfl, ?_⟩
      refine ⟨_, rfl, b, _, 1, .int i0, rfl, rfl, SqL.of upd_same, rfl, ?_⟩
      refine ⟨c.C, _, i0, .int z, rfl, rfl, SqL.of (hl _), eat, ?_⟩
      refine ⟨_, rfl, b, _, 1, .int i0, rfl, rfl, SqL.of upd_same, rfl, i0, 1, rfl, rfl, ?_⟩
      refine ⟨_, rfl, b, _, 1, 1, rfl, rfl, upd_same, rfl, ?_⟩
      rw [upd_upd]
      refine ⟨_, rfl, 10, 18, rfl, rfl, ⟨by decide, by decide, by decide⟩, ?_⟩
      refine ⟨z, _, rfl, rfl, _, rfl, ?_⟩
      by_cases hz : (10 : Int) ^ (18 : Int).toNat ≤ z
      · rw [decide_eq_true hz]
        refine iteT ?_
        refine ⟨_, rfl, _, rfl, b, _, 2, 2, rfl, rfl, upd_same, rfl, ?_⟩
        rw [upd_upd]
        have zp : 0 ≤ z := by
          have : (0 : Int) ≤ (10 : Int) ^ (18 : Int).toNat := by decide
          omega
        refine ⟨_, rfl, b, _, 3, .int st0, rfl, rfl, SqL.of upd_same, rfl, ?_⟩
        refine ⟨st0, 39989, rfl, rfl, .inr ⟨by decide, by decide⟩, ?_⟩
        refine ⟨_, rfl, .inl ⟨z, rfl, ?_⟩⟩
        refine ⟨z, 2147483489, rfl, rfl, by show (0 : Int) < 2147483489; decide, ?_⟩
        refine ⟨_, 40787, rfl, rfl, .inr ⟨by decide, by decide⟩, ?_⟩
        refine ⟨_, _, rfl, rfl, ?_⟩
        refine ⟨_, _, rfl, rfl, .inl ⟨_, rfl, ?_⟩⟩
        refine ⟨_, _, rfl, rfl, by show (0 : Int) < 2147483549; decide, ?_⟩
        refine ⟨_, rfl, b, _, 3, 3, rfl, rfl, upd_same, rfl, ?_⟩
        rw [upd_upd]
        exact h2 _ (i0 + 1) z _ (cnt0 + 1) (by omega) zp (Int.emod_nonneg _ (by decide)) (Int.emod_lt_of_pos _ (by decide))
      · rw [decide_eq_false hz]
        refine iteF ?_
        refine ⟨_, rfl, b, _, 3, .int st0, rfl, rfl, SqL.of upd_same, rfl, ?_⟩
        refine ⟨st0, 39989, rfl, rfl, .inr ⟨by decide, by decide⟩, ?_⟩
        refine ⟨_, rfl, .inl ⟨z, rfl, ?_⟩⟩
        refine ⟨z, 2147483489, rfl, rfl, by show (0 : Int) < 2147483489; decide, ?_⟩
        refine ⟨_, 40787, rfl, rfl, .inr ⟨by decide, by decide⟩, ?_⟩
        refine ⟨_, _, rfl, rfl, ?_⟩
        refine ⟨_, _, rfl, rfl, .inl ⟨_, rfl, ?_⟩⟩
        refine ⟨_, _, rfl, rfl, by show (0 : Int) < 2147483549; decide, ?_⟩
        refine ⟨_, rfl, b, _, 3, 3, rfl, rfl, upd_same, rfl, ?_⟩
        rw [upd_upd]
        exact h2 _ (i0 + 1) 0 _ (cnt0 + 1) (by omega) (by decide) (Int.emod_nonneg _ (by decide)) (Int.emod_lt_of_pos _ (by decide))
    · rw [decide_eq_false hlt]
      refine iteF ?_
      exact h2 none i0 0 st0 (cnt0 + 1) i0n (by decide) st0n st0l
  · rw [show decide (V.int g0 = V.int 0) = false from decide_eq_false (fun z => hg0 (V.int.inj z))]
    refine iteF (iteF ?_)
    exact h2 none i0 g0 st0 (cnt0 + 1) i0n g0n st0n st0l
theorem log_lt {n : Int} {k : Nat} (h : n.natAbs < 2 ^ k) (hk : k ≤ 9000) (k0 : 0 < k) : n.natAbs.log2 < 9000 := by
  by_cases z : n.natAbs = 0
  · rw [z]; decide
  · exact Nat.lt_of_lt_of_le ((Nat.log2_lt z).mpr h) hk
def b__law_pull (Dx : Df K mg "_law_pull" s__law_pull) : Binds K Dx.fd ["_law_bag_here", "_law_many"] [] := Dx.F.bindsN fun _ _ _ _ _ _ us hl => match us, hl with | [_, _], _ => rfl
def F__law_pick : Spec
  | [.bag, .lst rows], R, _ => 0 < rows.length ∧ rows.length ≤ 100000 ∧ ∀ d ∈ rows, R d
  | _, _, _ => False
theorem F__law_pick_is {rows : List D} {R : D → Prop} {Rx : Er → Prop} : F__law_pick [.bag, .lst rows] R Rx = (0 < rows.length ∧ rows.length ≤ 100000 ∧ ∀ d ∈ rows, R d) := rfl
theorem F__law_pick_of {ds : List D} {R : D → Prop} {Rx : Er → Prop} (h : F__law_pick ds R Rx) : ∃ rows, ds = [.bag, .lst rows] ∧ 0 < rows.length ∧ rows.length ≤ 100000 ∧ ∀ d ∈ rows, R d := by
  unfold F__law_pick at h
  split at h
  · exact ⟨_, rfl, h⟩
  · exact h.elim
def n__law_pick : List Str := ["_law_bag_here", "_law_rows"]
theorem sc__law_pick : FnScope n__law_pick ["_law_bag_here", "_law_rows"] (defScope s__law_pick) := ⟨rfl, rfl, rfl, by decide +kernel, rfl, by decide +kernel, by decide +kernel⟩
theorem ok__law_pick (D__law_pick : Df K mg "_law_pick" s__law_pick) (D__law_pull : Df K mg "_law_pull" s__law_pull) (m_int : mg "int" = none) (m_len : mg "len" = none) : FnOk P w K mg base (L2.CX P w) 2 D__law_pick.f D__law_pick.fd ["_law_bag_here", "_law_rows"] (spD F__law_pick) := by
  have G__law_pull := ok__law_pull (P := P) (w := w) (base := base) D__law_pull m_int m_len
  refine fn_d D__law_pick.F sc__law_pick (fun ds R Rx h => ?_) (fun cdv A outer s H E hr =>
    (ds_one (s_ret (d_ix (d_var 1) (d_call G__law_pull (hr.mono (by decide)) D__law_pull.g D__law_pull.F.kp (b__law_pull D__law_pull) .nil dfR_nil pass_d (da_cons (d_var 0) (da_cons (d_callB b_len m_len boot_len (da_cons (d_var 1) da_nil)) da_nil))))))) fun ds R Rx h => ?_
  · obtain ⟨rows, rfl, _⟩ := F__law_pick_of h
    rfl
  · obtain ⟨rows, rfl, h0, h1, h⟩ := F__law_pick_of h
    walk_at "dl"
    simp only [n__law_pick, F__law_pull_is]
    walk_at "dl"
    refine ⟨by omega, log_lt (k := 20) (by omega) (by decide) (by decide), fun r hr0 hr1 => ?_⟩
    obtain ⟨j, rfl⟩ : ∃ j : Nat, r = (j : Int) := ⟨r.toNat, by omega⟩
    have hj : j < rows.length := by omega
    exact ⟨rows[j], atI_nat (by simp [hj]), h _ (List.getElem_mem hj)⟩
def b__law_pick (Dx : Df K mg "_law_pick" s__law_pick) : Binds K Dx.fd ["_law_bag_here", "_law_rows"] [] := Dx.F.bindsN fun _ _ _ _ _ _ us hl => match us, hl with | [_, _], _ => rfl
def F__law_number : Spec
  | [.bag], R, _ => ∀ n : Int, -(10 ^ 18) < n → n < 10 ^ 18 → R (.int n)
  | _, _, _ => False
theorem F__law_number_is {R : D → Prop} {Rx : Er → Prop} : F__law_number [.bag] R Rx = ∀ n : Int, -(10 ^ 18) < n → n < 10 ^ 18 → R (.int n) := rfl
theorem F__law_number_of {ds : List D} {R : D → Prop} {Rx : Er → Prop} (h : F__law_number ds R Rx) : ds = [.bag] ∧ ∀ n : Int, -(10 ^ 18) < n → n < 10 ^ 18 → R (.int n) := by
  unfold F__law_number at h
  split at h
  · exact ⟨rfl, h⟩
  · exact h.elim
def b__law_number (Dx : Df K mg "_law_number" s__law_number) : Binds K Dx.fd ["_law_bag_here"] [] := Dx.F.bindsN fun _ _ _ _ _ _ us hl => match us, hl with | [_], _ => rfl
def n__law_number : List Str := ["_law_bag_here"]
theorem sc__law_number : FnScope n__law_number ["_law_bag_here"] (defScope s__law_number) := ⟨rfl, rfl, rfl, by decide +kernel, rfl, by decide +kernel, by decide +kernel⟩
theorem log9 : (9 : Int).natAbs.log2 < 9000 := log_lt (k := 20) (by decide) (by decide) (by decide)
theorem ok__law_number (D__law_number : Df K mg "_law_number" s__law_number) (D__law_pick : Df K mg "_law_pick" s__law_pick) (D__law_pull : Df K mg "_law_pull" s__law_pull) (m_int : mg "int" = none) (m_len : mg "len" = none) : FnOk P w K mg base (L2.CX P w) 3 D__law_number.f D__law_number.fd ["_law_bag_here"] (spD F__law_number) := by
  have G__law_pull := ok__law_pull (P := P) (w := w) (base := base) D__law_pull m_int m_len
  have G__law_pick := ok__law_pick (P := P) (w := w) (base := base) D__law_pick D__law_pull m_int m_len
  refine fn_d D__law_number.F sc__law_number (fun ds R Rx h => ?_) (fun cdv A outer s H E hr =>
    (ds_one (s_ret (d_call G__law_pick (hr.mono (by decide)) D__law_pick.g D__law_pick.F.kp (b__law_pick D__law_pick) .nil dfR_nil pass_d (da_cons (d_var 0) (da_cons (d_ofF (f_lst (da_cons (d_call G__law_pull (hr.mono (by decide)) D__law_pull.g D__law_pull.F.kp (b__law_pull D__law_pull) .nil dfR_nil pass_d (da_cons (d_var 0) (da_cons d_int da_nil))) (da_cons (d_sub d_int (d_call G__law_pull (hr.mono (by decide)) D__law_pull.g D__law_pull.F.kp (b__law_pull D__law_pull) .nil dfR_nil pass_d (da_cons (d_var 0) (da_cons d_int da_nil)))) (da_cons (d_call G__law_pull (hr.mono (by decide)) D__law_pull.g D__law_pull.F.kp (b__law_pull D__law_pull) .nil dfR_nil pass_d (da_cons (d_var 0) (da_cons (d_pow d_int d_int) da_nil))) (da_cons (d_sub d_int (d_call G__law_pull (hr.mono (by decide)) D__law_pull.g D__law_pull.F.kp (b__law_pull D__law_pull) .nil dfR_nil pass_d (da_cons (d_var 0) (da_cons (d_pow d_int d_int) da_nil)))) da_nil)))))) da_nil)))))) fun ds R Rx h => ?_
  · obtain ⟨rfl, _⟩ := F__law_number_of h
    rfl
  · obtain ⟨rfl, hR⟩ := F__law_number_of h
    clear h
    simp only [n__law_number]
    walk_at "dl"
    simp only [F__law_pull_is, F__law_pick_is]
    have l18 : ((10 : Int) ^ (18 : Int).toNat) = 1000000000000000000 := by decide
    simp only [l18]
    have l2 : (1000000000000000000 : Int).natAbs.log2 < 9000 := log_lt (k := 100) (by decide) (by decide) (by decide)
    refine ⟨by decide, log9, fun r1 h1 h2 => ⟨by decide, log9, fun r2 h3 h4 => ?_⟩⟩
    refine ⟨⟨by decide, by decide, by decide⟩, by decide, l2, fun r3 h5 h6 => ⟨⟨by decide, by decide, by decide⟩, by decide, l2, fun r4 h7 h8 => ?_⟩⟩
    refine ⟨by show 0 < 4; decide, by show 4 ≤ 100000; decide, fun d hd => ?_⟩
    simp only [List.mem_cons, List.not_mem_nil, or_false] at hd
    rcases hd with rfl | rfl | rfl | rfl <;> exact hR _ (by omega) (by omega)
theorem fn_false {x : Str} {st : Stmt} {F : Spec} {ps : List Str} (D0 : Df K mg x st) (h : ∀ ds R Rx, ¬ F ds R Rx) : FnOk P w K mg base (L2.CX P w) 0 D0.f D0.fd ps (spD F) :=
  ⟨fun vs H Q E ⟨_, _, ds, R, Rx, _, _, _, _, z, _⟩ => (h ds R Rx z).elim, fun A outer s H args us vs Q E _ _ _ _ ⟨_, _, ds, R, Rx, _, _, _, _, z, _⟩ => (h ds R Rx z).elim⟩
def F__law_same (n : Nat) : Spec
  | [x, y], R, _ => x = y ∧ Good n x ∧ R (.bl true)
  | _, _, _ => False
theorem F__law_same_is {n : Nat} {x y : D} {R : D → Prop} {Rx : Er → Prop} : F__law_same n [x, y] R Rx = (x = y ∧ Good n x ∧ R (.bl true)) := rfl
theorem F__law_same_of {n : Nat} {ds : List D} {R : D → Prop} {Rx : Er → Prop} (h : F__law_same n ds R Rx) : ∃ x, ds = [x, x] ∧ Good n x ∧ R (.bl true) := by
  unfold F__law_same at h
  split at h
  · obtain ⟨rfl, h⟩ := h
    exact ⟨_, rfl, h⟩
  · exact h.elim
theorem pairs_self {xs : List D} {i : Nat} {d : D} (h : (pairs xs xs)[i]? = some d) : ∃ x, x ∈ xs ∧ d = .tup [x, x] := by
  obtain ⟨a, b, e1, e2, e3⟩ := pairs_get _ _ _ _ h
  rw [e1] at e2
  cases e2
  exact ⟨a, List.mem_of_getElem? e1, e3⟩
theorem trues (xs : List D) : asBls (xs.map fun _ => D.bl true) = some (xs.map fun _ => true) := by
  have := asBls_map (xs.map fun _ => true)
  rw [List.map_map] at this
  exact this
theorem trues_all (xs : List D) : (xs.map fun _ => true).all _root_.id = true := by
  induction xs with
  | nil => rfl
  | cons x xs ih => exact ih
def b__law_same (Dx : Df K mg "_law_same" s__law_same) : Binds K Dx.fd ["_law_found", "_law_due"] [] := Dx.F.bindsN fun _ _ _ _ _ _ us hl => match us, hl with | [_, _], _ => rfl
def n__law_same : List Str := ["_law_found", "_law_due", "_law_one", "_law_two"]
theorem sc__law_same : FnScope n__law_same ["_law_found", "_law_due"] (defScope s__law_same) := ⟨rfl, rfl, rfl, by decide +kernel, rfl, by decide +kernel, by decide +kernel⟩
structure TSame (mg : Str → Option Value) : Prop where
  m_isinstance : mg "isinstance" = none
  m_list : mg "list" = none
  m_tuple : mg "tuple" = none
  m_bool : mg "bool" = none
  m_int : mg "int" = none
  m_str : mg "str" = none
  m_len : mg "len" = none
  m_all : mg "all" = none
  m_zip : mg "zip" = none
theorem ok__law_same (T : TSame mg) (D__law_same : Df K mg "_law_same" s__law_same) : ∀ n : Nat, FnOk P w K mg base (L2.CX P w) n D__law_same.f D__law_same.fd ["_law_found", "_law_due"] (spD (F__law_same n))
  | 0 => fn_false D__law_same fun ds R Rx h => by
    obtain ⟨x, _, z, _⟩ := F__law_same_of h
    cases x <;> exact (show False from z).elim
  | n + 1 => by
    have G__law_same := ok__law_same T D__law_same n
    refine fn_d D__law_same.F sc__law_same (fun ds R Rx h => ?_) (fun cdv A outer s H E hr =>
      have hu := hr.units
      (ds_cons (s_if (dt_tru (d_callB b_isi T.m_isinstance PyProof.Rows.boot_isinstance (da_cons (d_var 1) (da_cons (d_tup (da_cons (d_bty T.m_list PyProof.Rows.boot_list) (da_cons (d_bty T.m_tuple PyProof.Rows.boot_tuple) da_nil))) da_nil)))) (ds_cons (s_if (dt_cmp (c_ne hu) (d_callB b_isi T.m_isinstance PyProof.Rows.boot_isinstance (da_cons (d_var 0) (da_cons (d_bty T.m_list PyProof.Rows.boot_list) da_nil))) (d_callB b_isi T.m_isinstance PyProof.Rows.boot_isinstance (da_cons (d_var 1) (da_cons (d_bty T.m_list PyProof.Rows.boot_list) da_nil))) (nomark _)) (ds_one (s_ret d_bl)) ds_nil)
          (ds_cons (s_if (dt_cmp (c_ne hu) (d_callB b_isi T.m_isinstance PyProof.Rows.boot_isinstance (da_cons (d_var 0) (da_cons (d_bty T.m_tuple PyProof.Rows.boot_tuple) da_nil))) (d_callB b_isi T.m_isinstance PyProof.Rows.boot_isinstance (da_cons (d_var 1) (da_cons (d_bty T.m_tuple PyProof.Rows.boot_tuple) da_nil))) (nomark _)) (ds_one (s_ret d_bl)) ds_nil)
          (ds_one (s_ret (d_and (d_cmp (c_eq hu) (d_callB b_len T.m_len boot_len (da_cons (d_var 0) da_nil)) (d_callB b_len T.m_len boot_len (da_cons (d_var 1) da_nil)) (nomark _)) (d_one (d_callB (b_all rfl) T.m_all PyProof.Rows.boot_all (da_cons (d_ofF (f_lc rfl sc__law_same.nd (i_zip (da_cons (d_var 0) (da_cons (d_var 1) da_nil)) T.m_zip) (blkOk_by (own := [("_law_one", 2), ("_law_two", 3)]) (N := n__law_same) (sc := defScope s__law_same) (by decide +kernel)) (by decide) (fun _ _ _ _ _ => (g_tup (n := 2) rfl (gs_cons (g_name (i := 2) sc__law_same.nd) (gs_cons (g_name (i := 3) sc__law_same.nd) gs_nil)))) (fun _ _ _ _ _ => dts_nil) (fun _ _ _ _ _ => (d_call G__law_same hr D__law_same.g D__law_same.F.kp (b__law_same D__law_same) .nil dfR_nil passL (da_cons (d_var 2) (da_cons (d_var 3) da_nil)))))) da_nil)))))))) ds_nil)
      (ds_cons (s_if (dw_pt (dw_or (dt_cmp c_is (d_var 1) d_non (nomark _)) (dw_or1 (dt_cmp c_is (d_var 0) d_non (nomark _))))) (ds_one (s_ret (d_and (d_cmp c_is (d_var 1) d_non (nomark _)) (d_one (d_cmp c_is (d_var 0) d_non (nomark _)))))) ds_nil)
      (ds_cons (s_if (dt_cmp (c_ne hu) (d_callB b_isi T.m_isinstance PyProof.Rows.boot_isinstance (da_cons (d_var 1) (da_cons (d_bty T.m_bool PyProof.Rows.boot_bool) da_nil))) (d_callB b_isi T.m_isinstance PyProof.Rows.boot_isinstance (da_cons (d_var 0) (da_cons (d_bty T.m_bool PyProof.Rows.boot_bool) da_nil))) (nomark _)) (ds_one (s_ret d_bl)) ds_nil)
      (ds_cons (s_if (dt_cmp (c_ne hu) (d_callB b_isi T.m_isinstance PyProof.Rows.boot_isinstance (da_cons (d_var 1) (da_cons (d_bty T.m_int PyProof.Rows.boot_int) da_nil))) (d_callB b_isi T.m_isinstance PyProof.Rows.boot_isinstance (da_cons (d_var 0) (da_cons (d_bty T.m_int PyProof.Rows.boot_int) da_nil))) (nomark _)) (ds_one (s_ret d_bl)) ds_nil)
      (ds_one (s_ret (d_and (d_cmp (c_eq hu) (d_callB b_isi T.m_isinstance PyProof.Rows.boot_isinstance (da_cons (d_var 1) (da_cons (d_bty T.m_str PyProof.Rows.boot_str) da_nil))) (d_callB b_isi T.m_isinstance PyProof.Rows.boot_isinstance (da_cons (d_var 0) (da_cons (d_bty T.m_str PyProof.Rows.boot_str) da_nil))) (nomark _)) (d_one (d_cmp (c_eq hu) (d_var 0) (d_var 1) (nomark _))))))))))) fun ds R Rx h => ?_
    · obtain ⟨x, rfl, _⟩ := F__law_same_of h
      rfl
    · obtain ⟨x, rfl, hg, hR⟩ := F__law_same_of h
      clear h
      obtain ⟨hd, hn⟩ := good_dat hg
      cases x <;> try exact (Bool.false_ne_true hd).elim
      all_goals
        simp only [n__law_same]
        walk_at "dl"
        try exact hR
      all_goals
        refine LcP.map (fun _ => .bl true) ?_ (fun i d N e hN => ?_) ?_
        · have := hg.1
          rw [pairs_length, sizeLine_eq]
          omega
        · obtain ⟨x, hx, rfl⟩ := pairs_self e
          walk_at "dl"
          exact ⟨rfl, hg.2 x hx, hN⟩
        · exact ⟨_, trues _, by rw [trues_all]; exact hR⟩
def isNum : D → Int → Int → Bool
  | .int i, lo, hi => decide (lo ≤ i) && decide (i ≤ hi)
  | _, _, _ => false
def F_is_number : Spec
  | [x, .int lo, .int hi], R, _ => x.dat = true ∧ R (.bl (isNum x lo hi))
  | _, _, _ => False
theorem F_is_number_is {x : D} {lo hi : Int} {R : D → Prop} {Rx : Er → Prop} : F_is_number [x, .int lo, .int hi] R Rx = (x.dat = true ∧ R (.bl (isNum x lo hi))) := rfl
theorem F_is_number_of {ds : List D} {R : D → Prop} {Rx : Er → Prop} (h : F_is_number ds R Rx) : ∃ x lo hi, ds = [x, .int lo, .int hi] ∧ x.dat = true ∧ R (.bl (isNum x lo hi)) := by
  unfold F_is_number at h
  split at h
  · exact ⟨_, _, _, rfl, h⟩
  · exact h.elim
def b_is_number (Dx : Df K mg "is_number" s_is_number) : Binds K Dx.fd ["value", "least", "most"] [] := Dx.F.bindsN fun _ _ _ _ _ _ us hl => match us, hl with | [_, _, _], _ => rfl
def n_is_number : List Str := ["value", "least", "most"]
theorem sc_is_number : FnScope n_is_number ["value", "least", "most"] (defScope s_is_number) := ⟨rfl, rfl, rfl, by decide +kernel, rfl, by decide +kernel, by decide +kernel⟩
theorem ok_is_number (D_is_number : Df K mg "is_number" s_is_number) (m_isinstance : mg "isinstance" = none) (m_int : mg "int" = none) (m_bool : mg "bool" = none) : FnOk P w K mg base (L2.CX P w) 1 D_is_number.f D_is_number.fd ["value", "least", "most"] (spD F_is_number) := by
  refine fn_d D_is_number.F sc_is_number (fun ds R Rx h => ?_) (fun cdv A outer s H E hr =>
    (ds_one (s_ret (d_and (d_callB b_isi m_isinstance PyProof.Rows.boot_isinstance (da_cons (d_var 0) (da_cons (d_bty m_int PyProof.Rows.boot_int) da_nil))) (d_and (d_not (d_callB b_isi m_isinstance PyProof.Rows.boot_isinstance (da_cons (d_var 0) (da_cons (d_bty m_bool PyProof.Rows.boot_bool) da_nil)))) (d_one (d_chain c_le c_le (d_var 1) (d_var 0) (d_var 2)))))))) fun ds R Rx h => ?_
  · obtain ⟨x, lo, hi, rfl, _⟩ := F_is_number_of h
    rfl
  · obtain ⟨x, lo, hi, rfl, hd, hR⟩ := F_is_number_of h
    clear h
    simp only [n_is_number]
    cases x <;> try exact (Bool.false_ne_true hd).elim
    all_goals
      simp only [isNum] at hR
      walk_at "dl"
      try exact hR
    rename_i i
    refine ⟨fun z => ?_, fun z => ?_⟩
    · rw [decide_eq_true z, Bool.true_and] at hR
      exact hR
    · rw [decide_eq_false z, Bool.false_and] at hR
      exact hR
def spLaw (K : PySem.W.Frag) : Sp := fun vs H Q _ => ∃ (a : Addr) (ns : List Int), vs = [.ref a] ∧ SqL K H a (ns.map V.int) ∧ ns.length ≤ 63 ∧ (∀ p ∈ TbC.ts, H p.1 = some (.tbl #[])) ∧ ∀ H', Q (.bl true) H'
def b__law_bag (Dx : Df K mg "_law_bag" s__law_bag) : Binds K Dx.fd ["_law_script"] [] := Dx.F.bindsN fun _ _ _ _ _ _ us hl => match us, hl with | [_], _ => rfl
def lawEn (a : Addr) (n : Nat) : En := some (.val (.adr a)) :: some (.val .bag) :: List.replicate n none
theorem law_d {T : DTS} {N : List Str} {n k : Nat} {rest : List Stmt} {p1 p2 p3 p4 : Pos} {ps : Pos} (D_law : Df K mg "law" s_law) (S : FnScope N ["_law_script"] (defScope s_law)) (hN : N[1]? = some ("_law_bag_here" : Str)) (hN0 : N[0]? = some ("_law_script" : Str)) (hn : N.length = n + 2) (D__law_bag : Df K mg "_law_bag" s__law_bag) (m_int : mg "int" = none)
    (hb : defBody s_law = .Assign [.Name "_law_bag_here" p1] (.Call (.Name "_law_bag" p2) [.Name "_law_script" p3] [] p4) ps :: rest)
    (hx : Loc (defScope s_law) "_law_bag_here") (hg : (defScope s_law).names.lookup ("_law_bag" : Str) = some .globalImplicit) (hv : Vis (defScope s_law) "_law_script")
    (hbody : ∀ (cdv : Value) (A : Around) (outer : List Env) (s : Shared) (H : Hp) (E : XK), Room (k + 1) (A.deeper (PyProof.Rows.envOfC "law" (defScope s_law) s.heap.objs.size D_law.f cdv)) → DSs (cxOf (L2.CX P w) P w K mg base N "law" (defScope s_law) D_law.f cdv A outer s H E) E rest T)
    (hT : ∀ a, T { nx := fun _ => False, rt := fun _ d => d = .bl true, ex := noX } (lawEn a n)) : FnOk P w K mg base (L2.CX P w) (k + 2) D_law.f D_law.fd ["_law_script"] (spLaw K) := by
  have G := ok__law_bag (P := P) (w := w) (base := base) D__law_bag m_int
  refine FunD.ok D_law.F S (fun vs H Q E ⟨a, ns, z, _⟩ => by rw [z]; rfl) fun cdv A outer s H vs Q E hr h => ?_
  obtain ⟨a, ns, rfl, hS, hlen, hTb, q⟩ := h
  obtain ⟨t, p, sm⟩ := hbody cdv A outer s H E hr
  have hf : (cxOf (L2.CX P w) P w K mg base N "law" (defScope s_law) D_law.f cdv A outer s H E).fn ("_law_bag_here" : Str) = true := rfl
  rw [hb]
  refine ⟨_, pss_cons (ps_set (i := 1) S.nd hN hx (pe_call G (hr.mono (by omega)) hg D__law_bag.g D__law_bag.F.kp (b__law_bag D__law_bag) .nil passL (pa_cons (pe_var (i := 0) hN0 hv) pa_nil)) rfl (.inl hf)) p, ?_⟩
  have e0 : (L2.start N [.ref a])[0]? = some (some (V.ref a)) := rfl
  refine ⟨_, e0, a, ns, rfl, hS, hlen, fun b ca H' st nb same eb eca h0 h1 => ?_⟩
  -- from here on only the cells are known to stay
  refine sm ⟨some b, ca, H', fun x => if x = ca then some (.lst (ns.map V.int)) else none⟩ _ H' (fun x => if x = ca then some (.lst (ns.map V.int)) else none) (lawEn a n) { nx := fun _ => False, rt := fun _ d => d = .bl true, ex := noX } xok0 ?_ (hT a) _
    ⟨fun _ _ _ _ _ _ z => z.elim, fun n v H1 S1 d k1 s1 r1 z => ?_, fun _ _ _ _ _ _ z => z.elim, fun _ _ _ _ _ _ z => z.elim⟩
  · refine ⟨⟨fun x o e => ?_, Same.refl _, fun _ _ e _ => e, fun x e _ => e, fun b' e => ?_, ⟨fun p hp => ⟨LamX.TabS.nil (same _ _ (hTb p hp)), if_neg fun z => by
      have e := same _ _ (hTb p hp)
      rw [z, eca] at e
      cases e⟩, fun p hp => by
      show H' p.1 ≠ none
      rw [same _ _ (hTb p hp)]
      exact fun z => nomatch z⟩⟩, ?_, fun i x e => ?_, fun i j x1 x2 v1 v2 a2 _ e _ _ _ f _ => ?_⟩
    · by_cases z : x = ca
      · subst z
        have e2 : some (HO.lst (ns.map V.int)) = some o := by rw [← e]; exact (if_pos rfl).symm
        rw [eca]
        exact e2
      · have e2 : (none : Option HO) = some o := by rw [← e]; exact (if_neg z).symm
        cases e2
    · cases e
      refine ⟨⟨if_neg nb, ns, 0, 0, st, 0, eb, if_pos rfl, by decide, by decide, h0, h1⟩, ?_⟩
      show H' b ≠ none
      rw [eb]
      exact fun z => nomatch z
    · unfold lawEn L2.start
      simp [hn]
    · match i, e with
      | 0, e =>
        cases e
        refine ⟨.ref a, ?_, rfl⟩
        rw [List.getElem?_set_ne (by decide)]
        exact e0
      | 1, e =>
        cases e
        refine ⟨.ref b, ?_, b, rfl, rfl⟩
        rw [List.getElem?_set_self (by unfold L2.start; simp [hn])]
      | i + 2, e =>
        have e : (List.replicate n (none : Option DV))[i]? = some (some x) := e
        rw [List.getElem?_replicate] at e
        split at e <;> cases e
    · match i, e with
      | 0, e => cases e; exact f
      | 1, e => cases e; exact f
      | i + 2, e =>
        have e : (List.replicate n (none : Option DV))[i]? = some (some x1) := e
        rw [List.getElem?_replicate] at e
        split at e <;> cases e
  · have z : d = .bl true := z
    subst z
    obtain ⟨_, _, _, r2⟩ := r1.old k1
    rw [show v = .bl true from r2]
    exact q H1
structure Tx (mg : Str → Option Value) : Prop where
  m_isinstance : mg "isinstance" = none
  m_int : mg "int" = none
  m_bool : mg "bool" = none
  m_str : mg "str" = none
  m_list : mg "list" = none
  m_tuple : mg "tuple" = none
  m_len : mg "len" = none
  m_range : mg "range" = none
  m_zip : mg "zip" = none
  m_enumerate : mg "enumerate" = none
  m_min : mg "min" = none
  m_all : mg "all" = none
  m_any : mg "any" = none
  m_set : mg "set" = none
  m_super : mg "super" = none
  m_repr : mg "repr" = none
  c_MOST_TURNS : ∃ t, mg "MOST_TURNS" = some (.int 2000 t)
  c_DIGITS : ∃ t, mg "DIGITS" = some (.str "0123" t)
def xf_InvalidHands : FL := [("code", .str "InvalidHands"), ("given", .par 0)]
def n_InvalidHands___init__ : List Str := ["self", "given"]
theorem sc_InvalidHands___init__ : EXS.SScope n_InvalidHands___init__ ["self", "given"] (defScope s_InvalidHands___init__) := ⟨rfl, rfl, rfl, by decide +kernel, rfl, by decide +kernel, by decide +kernel, by decide +kernel, rfl, rfl⟩
theorem ok_InvalidHands___init__ (D : Xe K mg P.main.file "InvalidHands" s_InvalidHands___init__) (hsup : mg "super" = none) (htop : (P.main.scope.names.lookup ("super" : Str)).isSome = false) : FnOk P w K mg base (L2.CX P w) 1 D.f D.fd ["self", "given"] (spX D.C 1 xf_InvalidHands) :=
  fn_x (ar := (defArgs s_InvalidHands___init__).args.getD 0 default) D.F D.e.excD sc_InvalidHands___init__ hsup htop rfl rfl rfl rfl rfl (fun r hr => D.e.na _ (by revert hr; revert r; decide)) (by decide) (by decide) (hcl := fun env => rfl) (fun A outer s H E => (pss_cons (ps_ost (pv 0) pe_str) (pss_cons (ps_ost (pv 0) (pv 1)) pss_nil)))
theorem b_InvalidHands___init__ (D : Xe K mg P.main.file "InvalidHands" s_InvalidHands___init__) : Binds K D.fd ["self", "given"] [] := D.binds fun _ _ _ _ _ _ _ us hl => match us, hl with | [_, _], _ => rfl
theorem w_fk_InvalidHands : fsK xf_InvalidHands = (["given", "code"] : List Str) := rfl
theorem w_fd_InvalidHands {a0 : D} : fsD xf_InvalidHands [a0] = [a0, D.str "InvalidHands"] := rfl
def xf_InvalidTurn : FL := [("code", .str "InvalidTurn"), ("at", .par 0)]
def n_InvalidTurn___init__ : List Str := ["self", "at"]
theorem sc_InvalidTurn___init__ : EXS.SScope n_InvalidTurn___init__ ["self", "at"] (defScope s_InvalidTurn___init__) := ⟨rfl, rfl, rfl, by decide +kernel, rfl, by decide +kernel, by decide +kernel, by decide +kernel, rfl, rfl⟩
theorem ok_InvalidTurn___init__ (D : Xe K mg P.main.file "InvalidTurn" s_InvalidTurn___init__) (hsup : mg "super" = none) (htop : (P.main.scope.names.lookup ("super" : Str)).isSome = false) : FnOk P w K mg base (L2.CX P w) 1 D.f D.fd ["self", "at"] (spX D.C 1 xf_InvalidTurn) :=
  fn_x (ar := (defArgs s_InvalidTurn___init__).args.getD 0 default) D.F D.e.excD sc_InvalidTurn___init__ hsup htop rfl rfl rfl rfl rfl (fun r hr => D.e.na _ (by revert hr; revert r; decide)) (by decide) (by decide) (hcl := fun env => rfl) (fun A outer s H E => (pss_cons (ps_ost (pv 0) pe_str) (pss_cons (ps_ost (pv 0) (pv 1)) pss_nil)))
theorem b_InvalidTurn___init__ (D : Xe K mg P.main.file "InvalidTurn" s_InvalidTurn___init__) : Binds K D.fd ["self", "at"] [] := D.binds fun _ _ _ _ _ _ _ us hl => match us, hl with | [_, _], _ => rfl
theorem w_fk_InvalidTurn : fsK xf_InvalidTurn = (["at", "code"] : List Str) := rfl
theorem w_fd_InvalidTurn {a0 : D} : fsD xf_InvalidTurn [a0] = [a0, D.str "InvalidTurn"] := rfl
def xf_InvalidWorths : FL := [("code", .str "InvalidWorths"), ("given", .par 0)]
def n_InvalidWorths___init__ : List Str := ["self", "given"]
theorem sc_InvalidWorths___init__ : EXS.SScope n_InvalidWorths___init__ ["self", "given"] (defScope s_InvalidWorths___init__) := ⟨rfl, rfl, rfl, by decide +kernel, rfl, by decide +kernel, by decide +kernel, by decide +kernel, rfl, rfl⟩
theorem ok_InvalidWorths___init__ (D : Xe K mg P.main.file "InvalidWorths" s_InvalidWorths___init__) (hsup : mg "super" = none) (htop : (P.main.scope.names.lookup ("super" : Str)).isSome = false) : FnOk P w K mg base (L2.CX P w) 1 D.f D.fd ["self", "given"] (spX D.C 1 xf_InvalidWorths) :=
  fn_x (ar := (defArgs s_InvalidWorths___init__).args.getD 0 default) D.F D.e.excD sc_InvalidWorths___init__ hsup htop rfl rfl rfl rfl rfl (fun r hr => D.e.na _ (by revert hr; revert r; decide)) (by decide) (by decide) (hcl := fun env => rfl) (fun A outer s H E => (pss_cons (ps_ost (pv 0) pe_str) (pss_cons (ps_ost (pv 0) (pv 1)) pss_nil)))
theorem b_InvalidWorths___init__ (D : Xe K mg P.main.file "InvalidWorths" s_InvalidWorths___init__) : Binds K D.fd ["self", "given"] [] := D.binds fun _ _ _ _ _ _ _ us hl => match us, hl with | [_, _], _ => rfl
theorem w_fk_InvalidWorths : fsK xf_InvalidWorths = (["given", "code"] : List Str) := rfl
theorem w_fd_InvalidWorths {a0 : D} : fsD xf_InvalidWorths [a0] = [a0, D.str "InvalidWorths"] := rfl
structure Kx_Row (K : PySem.W.Frag) (mg : Str → Option Value) where
  C : Addr
  g : mg "Row" = some (.ref C)
  cls : Cls K C
  n_hands : NoAttr K C "hands"
  n_own_turns : NoAttr K C "own_turns"
  D___init__ : Dm K "__init__" "Row.__init__" s_Row___init__
  mkr : Mk K C D___init__.f
  D_turns : Dm K "turns" "Row.turns" s_Row_turns
  h_turns : Meth K C "turns" D_turns.f
  D_totals : Dm K "totals" "Row.totals" s_Row_totals
  h_totals : Meth K C "totals" D_totals.f
  D___len__ : Dm K "__len__" "Row.__len__" s_Row___len__
  o___len__ : Hx.Own K C "__len__" D___len__.f
structure Kx_Paper (K : PySem.W.Frag) (mg : Str → Option Value) where
  C : Addr
  g : mg "Paper" = some (.ref C)
  cls : Cls K C
  isc : Hx.Isc K C
  D_told : Dm K "told" "Paper.told" s_Paper_told
  h_told : Meth K C "told" D_told.f
  D_holds : Dm K "holds" "Paper.holds" s_Paper_holds
  h_holds : Meth K C "holds" D_holds.f
  D___bool__ : Dm K "__bool__" "Paper.__bool__" s_Paper___bool__
  o___bool__ : Hx.Own K C "__bool__" D___bool__.f
  D___repr__ : Dm K "__repr__" "Paper.__repr__" s_Paper___repr__
  o___repr__ : Hx.Own K C "__repr__" D___repr__.f
  mkr0 : Hx.Mk0 K C
  ga : C = He.ga K "Paper"
  kit_Even : PySem.W.kitOne K (.ref C) (.ref (He.ga K "Even")) = some false
  c_KIND : Hx.ConV K C "KIND" (.str "open")
  c_GOOD : Hx.ConV K C "GOOD" (.bl false)
  cv_KIND : Hx.CvV K C "KIND" (.str "open")
  cv_GOOD : Hx.CvV K C "GOOD" (.bl false)
structure Kx_Even (K : PySem.W.Frag) (mg : Str → Option Value) (fl : Str) where
  C : Addr
  g : mg "Even" = some (.ref C)
  cls : Cls K C
  isc : Hx.Isc K C
  n_own_wanted : NoAttr K C "own_wanted"
  n_own_quotients : NoAttr K C "own_quotients"
  D___init__ : Dm K "__init__" "Even.__init__" s_Even___init__
  mkr : Mk K C D___init__.f
  D_quotients : Dm K "quotients" "Even.quotients" s_Even_quotients
  h_quotients : Meth K C "quotients" D_quotients.f
  D_told : Dsup K fl "told" "Even.told" s_Even_told C
  D_sup_told : Dm K "told" "Paper.told" s_Even_sup_told
  su_told : SupM K C C "told" D_sup_told.f
  h_told : Meth K C "told" D_told.f
  D_holds : Dm K "holds" "Even.holds" s_Even_holds
  h_holds : Meth K C "holds" D_holds.f
  D___bool__ : Dm K "__bool__" "Paper.__bool__" s_Even___bool__
  o___bool__ : Hx.Own K C "__bool__" D___bool__.f
  D___repr__ : Dm K "__repr__" "Paper.__repr__" s_Even___repr__
  o___repr__ : Hx.Own K C "__repr__" D___repr__.f
  ga : C = He.ga K "Even"
  kit_Paper : PySem.W.kitOne K (.ref C) (.ref (He.ga K "Paper")) = some true
  D_wanted : Dm K "wanted" "Even.wanted" s_Even_wanted
  q_wanted : Addr
  p_wanted : PropOf K C "wanted" q_wanted D_wanted.f
  c_KIND : Hx.ConV K C "KIND" (.str "even")
  c_GOOD : Hx.ConV K C "GOOD" (.bl true)
structure Kx_Uneven (K : PySem.W.Frag) (mg : Str → Option Value) (fl : Str) where
  C : Addr
  g : mg "Uneven" = some (.ref C)
  cls : Cls K C
  isc : Hx.Isc K C
  n_own_power : NoAttr K C "own_power"
  n_own_worths : NoAttr K C "own_worths"
  D___init__ : Dm K "__init__" "Uneven.__init__" s_Uneven___init__
  mkr : Mk K C D___init__.f
  D_worths : Dm K "worths" "Uneven.worths" s_Uneven_worths
  h_worths : Meth K C "worths" D_worths.f
  D_told : Dsup K fl "told" "Uneven.told" s_Uneven_told C
  D_sup_told : Dm K "told" "Paper.told" s_Uneven_sup_told
  su_told : SupM K C C "told" D_sup_told.f
  h_told : Meth K C "told" D_told.f
  D_holds : Dm K "holds" "Uneven.holds" s_Uneven_holds
  h_holds : Meth K C "holds" D_holds.f
  D___bool__ : Dm K "__bool__" "Paper.__bool__" s_Uneven___bool__
  o___bool__ : Hx.Own K C "__bool__" D___bool__.f
  D___repr__ : Dm K "__repr__" "Paper.__repr__" s_Uneven___repr__
  o___repr__ : Hx.Own K C "__repr__" D___repr__.f
  ga : C = He.ga K "Uneven"
  kit_Paper : PySem.W.kitOne K (.ref C) (.ref (He.ga K "Paper")) = some true
  D_power : Dm K "power" "Uneven.power" s_Uneven_power
  q_power : Addr
  p_power : PropOf K C "power" q_power D_power.f
  c_KIND : Hx.ConV K C "KIND" (.str "uneven")
  c_GOOD : Hx.ConV K C "GOOD" (.bl false)
abbrev ksRow : List Str := ["hands", "own_turns"]
abbrev row (C : Addr) (h : Int) (ts : List Int) : D := .obj C ksRow [.int h, .lst (ts.map D.int)]
theorem fld_hands {x y : D} : fld ksRow [x, y] "hands" = some x := rfl
theorem fld_turns {x y : D} : fld ksRow [x, y] "own_turns" = some y := rfl
theorem fld_m_turns {x y : D} : fld ksRow [x, y] "turns" = none := rfl
theorem fld_m_turned {x y : D} : fld ksRow [x, y] "turned" = none := rfl
theorem fld_m_with_turns {x y : D} : fld ksRow [x, y] "with_turns" = none := rfl
theorem fld_m_need_like {x y : D} : fld ksRow [x, y] "need_like" = none := rfl
/-- a row as the law makes it -/
def RowOk (h : Int) (ts : List Int) : Prop := 2 ≤ h ∧ h ≤ 4 ∧ 0 < ts.length ∧ ts.length ≤ 2000 ∧ ∀ t ∈ ts, 0 ≤ t ∧ t < h
def eIH (C : Addr) (v : D) : Er := ⟨C, ["given", "code"], [v, .str "InvalidHands"]⟩
def eIT (C : Addr) (i : Int) : Er := ⟨C, ["at", "code"], [.int i, .str "InvalidTurn"]⟩
def eIW (C : Addr) (v : D) : Er := ⟨C, ["given", "code"], [v, .str "InvalidWorths"]⟩
def dgN2 : Array Lean.Name := dgN1 ++ #[`ups_length, `exists_eq, `exists_eq', `Int.reduceToNat, `Int.reduceLE, `Int.reduceLT, `Int.reducePow, `Int.reduceNeg, `Int.reduceSub, `Int.reduceAdd, `Int.reduceMul, `List.length_range, `Option.map_some, `ne_eq, `not_true_eq_false, `not_false_eq_true, `goodL_ints, `asInts_map, `asInts_nil, `asInts_cons, `exists_and_left, `exists_and_right, `Int.zero_add, `Nat.reducePow, `w_at0, `w_at1, `w_at2, `w_at3, `w_at4, `w_at5, `w_natR, `w_fLenOw, `w_lc2, `w_asStrs, `w_asS, `w_join, `w_find, `w_m1, `w_fStrI, `w_zAugO, `w_thaw_nil, `w_thaw_cons, `w_thaw_own, `w_thaw_val, `w_thaw_none, `w_thaw_tre, `w_lendT, `w_lend, `w_lendN, `w_enumS, `w_zParN, `w_negR, `w_opOwnN, `w_par3, `w_pk, `w_pickE_nil, `w_pickE_cons, `w_xLam, `w_callZ, `w_asA_int, `w_asA_non, `w_asA_bl, `w_asA_str, `w_asA_lst, `w_asA_tup, `w_xOBa, `w_tx_len, `w_tx_size, `w_tx_cps, `w_tx_app, `w_tx_eq, `w_tx_beq, `w_tx_mul, `w_tx_signs, `w_tx_emp, `w_tx_one, `w_callM, `w_fFmtS, `w_fFmtI, `w_jfNil, `w_asTx, `w_jfCons, `w_xFmt, `w_xJoined, `w_blR, `w_fBoolOw, `w_stR, `w_fReprOw, `w_fBoolB, `w_fBoolI, `w_toRest, `w_xCon, `w_xAlt, `w_xEnumK, `w_fEnumK, `w_fAnyI, `w_fAnyIT, `w_xLenSetL, `w_fLenSetL, `w_xItAlt, `fIsiO_same, `w_xMakeK, `w_xAltT, `w_xTruOw, `w_valE_nil, `w_valE_val, `w_valE_own, `w_valE_tre, `w_valE_none, `w_consU, `w_putT_0, `w_putT_s, `w_setU, `w_at_nil, `w_at_lst, `w_at_tup, `w_setAt_nil, `w_setAt_l0, `w_tre_inj, `w_isTre_0, `w_isTre_s, `w_plN, `w_ixAt_0, `w_plI, `w_appL, `w_clrL, `w_stL, `w_trs_ds, `w_tr_d, `w_trs_length, `w_tr_int, `w_lendU, `w_lendF, `w_frzU, `w_retU, `w_retUe, `w_appF, `w_clrF, `w_clrO_0, `w_clrO, `w_setN, `w_nt_lst, `w_nt_int, `w_nt_non, `w_nt_bl, `w_nt_str, `w_ntL_nil, `w_ntL_cons, `w_ntL_ints, `w_xNT, `w_xDatU, `w_ofU, `w_parOO, `w_isNotB, `w_xCv, `w_opOwnL, `w_xTruLen, `w_nos_tup, `w_nos_non, `w_nos_bl, `w_nos_int, `w_nos_str, `w_nos_obj, `w_nosL_nil, `w_nosL_cons, `w_xNos, `w_xFNos, `w_xNFol, `w_xTupC, `w_par2O, `w_fMin1, `w_xMake00, `w_fIsiK, `w_appU, `w_vl_nil, `w_vl_cons, `w_vl1_some, `w_vl1_none, `w_lendW_nil, `w_lendW_cons, `w_upM, `w_unv_nil, `w_unv_val, `w_unv_none, `w_unv_vl1, `w_AllV_nil, `w_AllV_val, `w_AllV_none, `w_AllV_vl1, `w_mE, `w_mT, `w_mA, `w_mF, `w_mLend, `w_mLendT, `w_mLendF, `w_mLendN, `w_mNil, `w_mCons, `w_mOp, `w_mTest, `w_asBM, `w_mAnd, `w_mOr, `w_mNot, `w_mTru, `w_tru3_non, `w_tru3_bl, `w_tru3_int, `w_mIf, `w_mTup, `w_mLst, `w_mLstN, `w_mCall, `w_mCallK, `w_mMeth, `w_mMethD, `w_mFld, `w_mFldD, `w_mProp, `w_mMake, `w_zUp, `w_yNext, `w_ySeq, `w_yRet, `w_yRetN, `w_yExpr, `w_yIf, `w_mG, `w_yAsg, `w_ySet, `w_yPar, `w_yFld, `w_yApp, `w_yClr, `w_mPop, `w_yFor, `w_yWhile, `w_zLend, `w_zOfM, `w_adr_inj, `w_ins_inj, `w_lst_inj, `w_mset_same, `w_mset_mset, `w_vl_set, `w_mU, `w_mIxL, `w_mLi, `w_mLiF, `w_ySetF, `w_yPar3, `w_mSet0, `w_mSIn, `w_mSAdd, `w_yStL, `w_yForL, `w_yFrz, `w_mPopAt, `w_ex2, `w_ex3, `flatL_ints, `F__law_pull_is, `F__law_pick_is, `F__law_number_is, `F__law_same_is, `F_is_number_is, `w_fk_InvalidHands, `w_fd_InvalidHands, `w_fk_InvalidTurn, `w_fd_InvalidTurn, `w_fk_InvalidWorths, `w_fd_InvalidWorths, `fld_hands, `fld_turns, `fld_m_turns, `fld_m_turned, `fld_m_with_turns, `fld_m_need_like]
local macro_rules | `(tactic| walk_at "dg") => do let xs ← dgN2.mapM fun n => `(Lean.Parser.Tactic.simpLemma| $(Lean.mkIdent n):term); `(tactic| simp only [$xs,*, List.getElem?_cons_zero, List.getElem?_cons_succ])
def F_check_hands (CH : Addr) : Spec
  | [v], R, Rx => v.dat = true ∧ (isNum v 2 4 = true → R .non) ∧ (isNum v 2 4 = false → Rx (eIH CH v))
  | _, _, _ => False
theorem F_check_hands_is {CH : Addr} {v : D} {R : D → Prop} {Rx : Er → Prop} : F_check_hands CH [v] R Rx = (v.dat = true ∧ (isNum v 2 4 = true → R .non) ∧ (isNum v 2 4 = false → Rx (eIH CH v))) := rfl
def b_check_hands (Dx : Df K mg "check_hands" s_check_hands) : Binds K Dx.fd ["hands"] [] := Dx.F.bindsN fun _ _ _ _ _ _ us hl => match us, hl with | [_], _ => rfl
def n_check_hands : List Str := ["hands"]
theorem sc_check_hands : FnScope n_check_hands ["hands"] (defScope s_check_hands) := ⟨rfl, rfl, rfl, by decide +kernel, rfl, by decide +kernel, by decide +kernel⟩
def dgN3 : Array Lean.Name := dgN2 ++ #[`F_check_hands_is]
local macro_rules | `(tactic| walk_at "dg") => do let xs ← dgN3.mapM fun n => `(Lean.Parser.Tactic.simpLemma| $(Lean.mkIdent n):term); `(tactic| simp only [$xs,*, List.getElem?_cons_zero, List.getElem?_cons_succ])
theorem ok_check_hands (T : Tx mg) (D_check_hands : Df K mg "check_hands" s_check_hands) (D_is_number : Df K mg "is_number" s_is_number) (X_InvalidHands : Xe K mg P.main.file "InvalidHands" s_InvalidHands___init__) (hsup : mg "super" = none) (htop : (P.main.scope.names.lookup ("super" : Str)).isSome = false) : FnOk P w K mg base (L2.CX P w) 3 D_check_hands.f D_check_hands.fd ["hands"] (spD (F_check_hands X_InvalidHands.C)) := by
  have GX_InvalidHands := ok_InvalidHands___init__ (P := P) (w := w) (base := base) X_InvalidHands hsup htop
  have G_is_number := ok_is_number (P := P) (w := w) (base := base) D_is_number T.m_isinstance T.m_int T.m_bool
  refine fn_d D_check_hands.F sc_check_hands (fun ds R Rx h => ?_) (fun cdv A outer s H E hr => (ds_one (s_if (dt_not (dt_tru (d_call G_is_number (hr.mono (by decide)) D_is_number.g D_is_number.F.kp (b_is_number D_is_number) .nil dfR_nil pass_d (da_cons (d_var 0) (da_cons d_int (da_cons d_int da_nil)))))) (ds_one (s_raise X_InvalidHands.e.ox X_InvalidHands.e.iC X_InvalidHands.e.tI (by decide) (by decide) GX_InvalidHands (hr.mono (by decide)) (b_InvalidHands___init__ X_InvalidHands) passL X_InvalidHands.g rfl (takes_of rfl rfl rfl rfl) (da_cons (d_var 0) da_nil))) ds_nil)) ) fun ds R Rx h => ?_
  · match ds, h with
    | [v], _ => rfl
  · match ds, h with
    | [v], hh =>
      obtain ⟨h1, h2, h3⟩ := hh
      simp only [n_check_hands]
      walk_at "dg"
      cases e : isNum v 2 4 with
      | true =>
        walk_at "dg"
        exact ⟨h1, h2 e⟩
      | false =>
        walk_at "dg"
        exact ⟨h1, h3 e⟩
/-- the first wrong place -/
def badAt (h : Int) : Nat → List D → Option Nat
  | _, [] => none
  | i, x :: xs => if 2000 ≤ i ∨ isNum x 0 (h - 1) = false then some i else badAt h (i + 1) xs
theorem isNum_of {x : D} {lo hi : Int} (h : isNum x lo hi = true) : ∃ n, x = .int n ∧ lo ≤ n ∧ n ≤ hi := by
  cases x <;> simp only [isNum, Bool.false_eq_true, Bool.and_eq_true, decide_eq_true_eq] at h
  exact ⟨_, rfl, h⟩
theorem badAt_none {h : Int} : ∀ {xs : List D} {i : Nat}, badAt h i xs = none → ∃ ts : List Int, xs = ts.map D.int ∧ (∀ t ∈ ts, 0 ≤ t ∧ t < h) ∧ (xs = [] ∨ i + xs.length ≤ 2000)
  | [], _, _ => ⟨[], rfl, (fun t ht => nomatch ht), .inl rfl⟩
  | x :: xs, i, e => by
    unfold badAt at e
    split at e
    · cases e
    · rename_i z
      obtain ⟨z1, z2⟩ := not_or.mp z
      obtain ⟨n, rfl, n1, n2⟩ := isNum_of (Bool.of_not_eq_false z2)
      obtain ⟨ts, rfl, ht, hl⟩ := badAt_none e
      refine ⟨n :: ts, rfl, fun t hm => ?_, .inr ?_⟩
      · rcases List.mem_cons.mp hm with rfl | hm
        · exact ⟨n1, by omega⟩
        · exact ht t hm
      · rw [List.length_cons]
        rcases hl with hl | hl
        · rw [hl]
          simp
          omega
        · omega
theorem badAt_good {h : Int} : ∀ {ts : List Int} {i : Nat}, (∀ t ∈ ts, 0 ≤ t ∧ t < h) → i + ts.length ≤ 2000 → badAt h i (ts.map D.int) = none
  | [], _, _, _ => rfl
  | t :: ts, i, ht, hl => by
    rw [List.length_cons] at hl
    show (if 2000 ≤ i ∨ isNum (.int t) 0 (h - 1) = false then some i else badAt h (i + 1) (ts.map D.int)) = none
    have h1 := ht t List.mem_cons_self
    rw [if_neg, badAt_good (fun u hu => ht u (List.mem_cons_of_mem _ hu)) (by omega)]
    simp only [isNum, Bool.and_eq_false_iff, decide_eq_false_iff_not, not_or, Classical.not_not]
    omega
theorem badAt_cons {h : Int} {y : D} {ys : List D} {i : Nat} (hb : 2000 ≤ i ∨ isNum y 0 (h - 1) = false) : badAt h i (y :: ys) = some i := if_pos hb
def initX (C CH CI : Addr) (hv : D) (xs : List D) (R : D → Prop) (Rx : Er → Prop) : Prop := hv.dat = true ∧ datL xs = true ∧ xs.length ≤ 1000000 ∧ (isNum hv 2 4 = false → Rx (eIH CH hv)) ∧ ∀ h, hv = .int h → 2 ≤ h → h ≤ 4 →
  (∀ i : Nat, badAt h 0 xs = some i → Rx (eIT CI i)) ∧ (badAt h 0 xs = none → (xs = [] → Rx (eIT CI 0)) ∧ ∀ ts, xs = ts.map D.int → RowOk h ts → R (row C h ts))
def F_Row___init__ (C CH CI : Addr) : Spec
  | [hv, .lst xs], R, Rx => initX C CH CI hv xs R Rx
  | _, _, _ => False
theorem F_Row___init___is {C CH CI : Addr} {hv : D} {xs : List D} {R : D → Prop} {Rx : Er → Prop} : F_Row___init__ C CH CI [hv, .lst xs] R Rx = initX C CH CI hv xs R Rx := rfl
theorem map_int_eq {xs ys : List Int} (h : xs.map D.int = ys.map D.int) : xs = ys := by
  have := congrArg asInts h
  rw [asInts_map, asInts_map] at this
  exact Option.some.inj this
theorem initX_good {C CH CI : Addr} {h : Int} {ts : List Int} {R : D → Prop} {Rx : Er → Prop} (ok : RowOk h ts) (hR : R (row C h ts)) : initX C CH CI (.int h) (ts.map D.int) R Rx := by
  obtain ⟨h2, h4, l0, l1, ht⟩ := ok
  refine ⟨rfl, datL_ints, by rw [List.length_map]; omega, fun z => ?_, fun k e _ _ => ?_⟩
  · simp only [isNum, Bool.and_eq_false_iff, decide_eq_false_iff_not] at z
    omega
  · cases e
    rw [badAt_good ht (by omega)]
    refine ⟨(fun i z => nomatch z), fun _ => ⟨fun z => ?_, fun us e _ => ?_⟩⟩
    · rw [List.map_eq_nil_iff] at z
      rw [z] at l0
      cases l0
    · rw [← map_int_eq e]
      exact hR
def b_Row___init__ (Dx : Dm K "__init__" "Row.__init__" s_Row___init__) : Binds K Dx.fd ["self", "hands", "turns"] [] := Dx.F.bindsN fun _ _ _ _ _ _ us hl => match us, hl with | [_, _, _], _ => rfl
def n_Row___init__ : List Str := ["self", "hands", "turns", "at", "hand"]
theorem sc_Row___init__ : FnScope n_Row___init__ ["self", "hands", "turns"] (defScope s_Row___init__) := ⟨rfl, rfl, rfl, by decide +kernel, rfl, by decide +kernel, by decide +kernel⟩
theorem datL_at {xs : List D} {i : Nat} {x : D} (h : datL xs = true) (e : xs[i]? = some x) : x.dat = true := by
  induction xs generalizing i with
  | nil => simp at e
  | cons y ys ih =>
    rw [datL_cons, Bool.and_eq_true] at h
    cases i with
    | zero => simp at e; rw [← e]; exact h.1
    | succ i => exact ih h.2 (by simpa using e)
theorem ok_Row___init__ (T : Tx mg) (K_Row : Kx_Row K mg) (D_check_hands : Df K mg "check_hands" s_check_hands) (D_is_number : Df K mg "is_number" s_is_number) (X_InvalidHands : Xe K mg P.main.file "InvalidHands" s_InvalidHands___init__) (X_InvalidTurn : Xe K mg P.main.file "InvalidTurn" s_InvalidTurn___init__) (hsup : mg "super" = none) (htop : (P.main.scope.names.lookup ("super" : Str)).isSome = false) :
    FnOk P w K mg base (L2.CX P w) 4 K_Row.D___init__.f K_Row.D___init__.fd ["self", "hands", "turns"] (spI K_Row.C (F_Row___init__ K_Row.C X_InvalidHands.C X_InvalidTurn.C)) := by
  have G_is_number := ok_is_number (P := P) (w := w) (base := base) D_is_number T.m_isinstance T.m_int T.m_bool
  have G_check_hands := ok_check_hands (P := P) (w := w) (base := base) T D_check_hands D_is_number X_InvalidHands hsup htop
  have GX_InvalidTurn := ok_InvalidTurn___init__ (P := P) (w := w) (base := base) X_InvalidTurn hsup htop
  refine fn_i K_Row.D___init__.F sc_Row___init__ (fun ds R Rx h => ?_) (fun p dx cdv A outer s H E hr => have hu := hr.units
    (is_st (s_expr (d_call G_check_hands (hr.mono (by decide)) D_check_hands.g D_check_hands.F.kp (b_check_hands D_check_hands) .nil dfR_nil pass_d (da_cons (d_var 1) da_nil)))
    (is_st (s_for (passes_of rfl) rfl (i_enum (da_cons (d_var 2) da_nil) T.m_enumerate) (g_tup (n := 2) rfl (gs_cons (g_name (i := 3) sc_Row___init__.nd) (gs_cons (g_name (i := 4) sc_Row___init__.nd) gs_nil)))
      (ds_one (s_if (dw_pt (dw_or (dt_cmp c_ge (d_var 3) (d_gint T.c_MOST_TURNS) (nomark _)) (dw_or1 (dt_not (dt_tru (d_call G_is_number (hr.mono (by decide)) D_is_number.g D_is_number.F.kp (b_is_number D_is_number) .nil dfR_nil pass_d (da_cons (d_var 4) (da_cons d_int (da_cons (d_sub (d_var 1) d_int) da_nil))))))))) (ds_one (s_raise X_InvalidTurn.e.ox X_InvalidTurn.e.iC X_InvalidTurn.e.tI (by decide) (by decide) GX_InvalidTurn (hr.mono (by decide)) (b_InvalidTurn___init__ X_InvalidTurn) passL X_InvalidTurn.g rfl (takes_of rfl rfl rfl rfl) (da_cons (d_var 3) da_nil))) ds_nil)))
    (is_st (s_if (dt_cmp (c_eq hu) (d_callB b_len T.m_len boot_len (da_cons (d_var 2) da_nil)) d_int (nomark _)) (ds_one (s_raise X_InvalidTurn.e.ox X_InvalidTurn.e.iC X_InvalidTurn.e.tI (by decide) (by decide) GX_InvalidTurn (hr.mono (by decide)) (b_InvalidTurn___init__ X_InvalidTurn) passL X_InvalidTurn.g rfl (takes_of rfl rfl rfl rfl) (da_cons d_int da_nil))) ds_nil)
    (is_set (d_var 1)
    (is_set (d_ofF (f_list (d_var 2) T.m_list))
    is_nil K_Row.cls K_Row.n_own_turns) K_Row.cls K_Row.n_hands)))) ) fun p ds R Rx h => ?_
  · match ds, h with
    | [hv, .lst xs], _ => rfl
  · match ds, h with
    | [hv, .lst xs], hh =>
      obtain ⟨d1, d2, hl, hH, hx⟩ := hh
      simp only [n_Row___init__, jSt, jSet, jNil]
      walk_at "dg"
      refine ⟨d1, fun z => ?_, fun z => hH z⟩
      obtain ⟨k, rfl, k1, k2⟩ := isNum_of z
      obtain ⟨hb, hg⟩ := hx k rfl k1 k2
      have d3 : ∀ (i : Nat) (x : D), xs[i]? = some x → x.dat = true := fun i x e => datL_at d2 e
      refine ⟨fun i env => i ≤ xs.length ∧ badAt k i (xs.drop i) = badAt k 0 xs ∧ ∃ e3 e4 : Option DV, env = [some (.val (.adr p)), some (.val (.int k)), some (.val (.lst xs)), e3, e4], ⟨by omega, rfl, none, none, rfl⟩, ?_, ?_⟩
      · rintro i d env e ⟨hi, hbi, e3, e4, rfl⟩
        obtain ⟨y, ey, rfl⟩ := nums_get _ _ _ _ e
        have hi2 := (List.getElem?_eq_some_iff.mp ey).1
        have ed : xs.drop i = y :: xs.drop (i + 1) := by
          rw [List.drop_eq_getElem_cons hi2]
          rw [List.getElem?_eq_getElem hi2] at ey
          cases ey
          rfl
        rw [ed] at hbi
        walk_at "dg"
        have hw : (2000 ≤ i ∨ isNum y 0 (k - 1) = false) → Rx (eIT X_InvalidTurn.C (i : Int)) := fun z => hb i (by rw [← hbi]; exact badAt_cons z)
        refine ⟨fun z => ?_, fun z => ⟨d3 i y ey, ?_⟩⟩
        · have e0 : (0 : Int) + (i : Int) = i := by omega
          first | exact hw (.inl (by omega)) | (rw [e0]; exact hw (.inl (by omega)))
        · cases en : isNum y 0 (k - 1) with
          | false =>
            walk_at "dg"
            exact hw (.inr en)
          | true =>
            walk_at "dg"
            refine ⟨by omega, ?_⟩
            rw [← hbi]
            show _ = (if 2000 ≤ i ∨ isNum y 0 (k - 1) = false then some i else badAt k (i + 1) (xs.drop (i + 1)))
            rw [if_neg]
            rw [en]
            simp
            omega
      · rintro env ⟨_, hbi, e3, e4, rfl⟩
        have el : (nums 0 xs).length = xs.length := nums_length _ _
        rw [el, List.drop_length] at hbi
        obtain ⟨g1, g2⟩ := hg hbi.symm
        walk_at "dg"
        refine ⟨fun z => g1 (List.eq_nil_of_length_eq_zero (by omega)), fun z => ?_⟩
        obtain ⟨ts, rfl, t1, t2⟩ := badAt_none hbi.symm
        refine ⟨by simp, by decide, g2 ts rfl ⟨k1, k2, ?_, ?_, t1⟩⟩
        · rw [List.length_map] at z
          omega
        · rw [List.length_map] at t2
          rcases t2 with t2 | t2
          · rw [List.map_eq_nil_iff] at t2
            rw [t2]
            decide
          · omega
theorem rok_app {h : Int} {ts us : List Int} (a : RowOk h ts) (b : RowOk h us) (hl : ts.length + us.length ≤ 2000) : RowOk h (ts ++ us) :=
  ⟨a.1, a.2.1, by rw [List.length_append]; have := a.2.2.1; omega, by rw [List.length_append]; exact hl, fun t ht => by
    rcases List.mem_append.mp ht with q | q
    · exact a.2.2.2.2 t q
    · exact b.2.2.2.2 t q⟩
theorem rok_rev {h : Int} {ts : List Int} (a : RowOk h ts) : RowOk h ts.reverse := ⟨a.1, a.2.1, by rw [List.length_reverse]; exact a.2.2.1, by rw [List.length_reverse]; exact a.2.2.2.1, fun t ht => a.2.2.2.2 t (List.mem_reverse.mp ht)⟩
theorem rok_map {h : Int} {ts : List Int} (a : RowOk h ts) (f : Int → Int) (hf : ∀ t, 0 ≤ f t ∧ f t < h) : RowOk h (ts.map f) := ⟨a.1, a.2.1, by rw [List.length_map]; exact a.2.2.1, by rw [List.length_map]; exact a.2.2.2.1, fun t ht => by
  obtain ⟨u, _, rfl⟩ := List.mem_map.mp ht
  exact hf u⟩
theorem fmod_in {h t : Int} (hh : 2 ≤ h) : 0 ≤ t.fmod h ∧ t.fmod h < h := ⟨Int.fmod_nonneg_of_pos _ (by omega), Int.fmod_lt_of_pos _ (by omega)⟩
def dgN4 : Array Lean.Name := dgN3 ++ #[`F_Row___init___is]
local macro_rules | `(tactic| walk_at "dg") => do let xs ← dgN4.mapM fun n => `(Lean.Parser.Tactic.simpLemma| $(Lean.mkIdent n):term); `(tactic| simp only [$xs,*, List.getElem?_cons_zero, List.getElem?_cons_succ])
def asRow (C : Addr) (R : Int → List Int → Prop) : D → Prop
  | .obj C' ks [.int h, .lst xs] => C' = C ∧ ks = ksRow ∧ ∃ ts, asInts xs = some ts ∧ R h ts
  | _ => False
theorem asRow_is {C : Addr} {R : Int → List Int → Prop} {h : Int} {xs : List D} : asRow C R (.obj C ksRow [.int h, .lst xs]) = ∃ ts, asInts xs = some ts ∧ R h ts := by
  simp [asRow]
theorem asRow_of {C : Addr} {R : Int → List Int → Prop} {d : D} (h : asRow C R d) : ∃ k ts, d = row C k ts ∧ R k ts := by
  unfold asRow at h
  split at h
  · obtain ⟨rfl, rfl, ts, e, h⟩ := h
    exact ⟨_, ts, by rw [asInts_eq e], h⟩
  · exact h.elim
def dgN5 : Array Lean.Name := dgN4 ++ #[`asRow_is]
local macro_rules | `(tactic| walk_at "dg") => do let xs ← dgN5.mapM fun n => `(Lean.Parser.Tactic.simpLemma| $(Lean.mkIdent n):term); `(tactic| simp only [$xs,*, List.getElem?_cons_zero, List.getElem?_cons_succ])
def F_Row_turns (C : Addr) : Spec
  | [r], R, _ => asRow C (fun _ ts => R (.lst (ts.map .int))) r
  | _, _, _ => False
theorem F_Row_turns_is {C : Addr} {r : D} {R : D → Prop} {Rx : Er → Prop} : F_Row_turns C [r] R Rx = asRow C (fun _ ts => R (.lst (ts.map .int))) r := rfl
def b_Row_turns (Dx : Dm K "turns" "Row.turns" s_Row_turns) : Binds K Dx.fd ["self"] [] := Dx.F.bindsN fun _ _ _ _ _ _ us hl => match us, hl with | [_], _ => rfl
def n_Row_turns : List Str := ["self"]
theorem sc_Row_turns : FnScope n_Row_turns ["self"] (defScope s_Row_turns) := ⟨rfl, rfl, rfl, by decide +kernel, rfl, by decide +kernel, by decide +kernel⟩
def dgN6 : Array Lean.Name := dgN5 ++ #[`F_Row_turns_is]
local macro_rules | `(tactic| walk_at "dg") => do let xs ← dgN6.mapM fun n => `(Lean.Parser.Tactic.simpLemma| $(Lean.mkIdent n):term); `(tactic| simp only [$xs,*, List.getElem?_cons_zero, List.getElem?_cons_succ])
theorem ok_Row_turns (T : Tx mg) (K_Row : Kx_Row K mg) : FnOk P w K mg base (L2.CX P w) 1 K_Row.D_turns.f K_Row.D_turns.fd ["self"] (spN (F_Row_turns K_Row.C)) := by
  refine fn_n K_Row.D_turns.F sc_Row_turns (fun ds R Rx h => ?_) (fun cdv A outer s H E hr => (ds_one (s_retNew (n_ofF (f_list (d_fld (d_var 0) K_Row.cls K_Row.n_own_turns) T.m_list)))) ) fun ds R Rx h => ?_
  · match ds, h with
    | [r], h => rfl
  · match ds, h with
    | [r], h =>
      obtain ⟨k, ts, rfl, hR⟩ := asRow_of h
      simp only [n_Row_turns]
      walk_at "dg"
      exact hR
/-- what the hand k gets -/
def tot (ts ws : List Int) (k : Int) : Int := (List.zipWith (fun t w => if t = k then w else 0) ts ws).sum
theorem tot_succ {ts ws : List Int} {k : Int} {i : Nat} (h1 : i < ts.length) (h2 : i < ws.length) : tot (ts.take (i + 1)) (ws.take (i + 1)) k = tot (ts.take i) (ws.take i) k + if ts.getD i 0 = k then ws.getD i 0 else 0 := by
  unfold tot
  have e1 : ts.take (i + 1) = ts.take i ++ [ts.getD i 0] := by rw [List.take_succ, List.getD, List.getElem?_eq_getElem h1]; rfl
  have e2 : ws.take (i + 1) = ws.take i ++ [ws.getD i 0] := by rw [List.take_succ, List.getD, List.getElem?_eq_getElem h2]; rfl
  rw [e1, e2, List.zipWith_append (by simp; omega), List.sum_append]
  simp
def totL (h : Int) (ts ws : List Int) : List Int := (List.range h.toNat).map fun (k : Nat) => tot ts ws (k : Int)
theorem totL_set {h t x : Int} {f : Nat → Int} (h0 : 0 ≤ t) (h1 : t < h) : ((List.range h.toNat).map f).set t.toNat x = (List.range h.toNat).map fun k => if k = t.toNat then x else f k := by
  apply List.ext_getElem?
  intro i
  rw [List.getElem?_set, List.getElem?_map, List.getElem?_map]
  by_cases hi : i < h.toNat
  · rw [List.getElem?_range hi]
    by_cases e : t.toNat = i
    · subst e
      simp; omega
    · have e2 : ¬ i = t.toNat := fun z => e z.symm
      simp [e, e2]
  · have : (List.range h.toNat)[i]? = none := by rw [List.getElem?_eq_none_iff, List.length_range]; omega
    rw [this]
    simp; omega
local macro_rules | `(tactic| walk_at "rk") => `(tactic| first
  | assumption
  | (refine rok_app ?_ ?_ ?_ <;> first | walk_at "rk" | (simp only [List.length_append, List.length_reverse, List.length_map, List.length_replicate]; omega))
  | (refine rok_rev ?_; walk_at "rk")
  | (refine rok_map ?_ _ (fun t => fmod_in (by assumption)); walk_at "rk")
  | omega
  | decide
  | (refine log_lt (k := 80) ?_ (by decide) (by decide); omega))
local macro_rules | `(tactic| walk_at "fin") => `(tactic| ((repeat' (first | (with_reducible assumption) | (with_reducible refine And.intro ?_ ?_) | (with_reducible intro _))); all_goals first | (with_reducible assumption) | omega | contradiction | trivial))
local macro_rules | `(tactic| walk_at "cj") => `(tactic| repeat' (refine And.intro (by walk_at "rk") ?_))
local macro_rules | `(tactic| walk_at "rk") => `(tactic| first
  | assumption
  | (refine rok_app ?_ ?_ ?_ <;> first | walk_at "rk" | (simp only [List.length_append, List.length_reverse, List.length_map, List.length_replicate]; omega))
  | (refine rok_rev ?_; walk_at "rk")
  | (refine rok_map ?_ _ (fun t => fmod_in (by assumption)); walk_at "rk")
  | omega
  | decide
  | (refine log_lt (k := 80) ?_ (by decide) (by decide); omega))
local macro_rules | `(tactic| walk_at "fin") => `(tactic| ((repeat' (first | (with_reducible assumption) | (with_reducible refine And.intro ?_ ?_) | (with_reducible intro _))); all_goals first | (with_reducible assumption) | omega | contradiction | trivial))
local macro_rules | `(tactic| walk_at "cj") => `(tactic| repeat' (refine And.intro (by walk_at "rk") ?_))
def tstA (p : Int) : List Int → List Int
  | [] => [p - 0]
  | x :: t => (p - x) :: tstA x t
theorem tstA_length : ∀ (p : Int) (ns : List Int), (tstA p ns).length = ns.length + 1
  | _, [] => rfl
  | p, x :: t => by show (tstA x t).length + 1 = _; rw [tstA_length]; rfl
theorem tstA_get : ∀ (p : Int) (ns : List Int) (k : Nat), k ≤ ns.length → (tstA p ns).getD k 0 = (if k = 0 then p else ns.getD (k - 1) 0) - ns.getD k 0
  | p, [], k, h => by
    have h : k ≤ 0 := h
    obtain rfl : k = 0 := by omega
    rfl
  | p, x :: t, 0, _ => rfl
  | p, x :: t, k + 1, h => by
    show (tstA x t).getD k 0 = (if k + 1 = 0 then p else (x :: t).getD k 0) - t.getD k 0
    rw [tstA_get x t k (by simpa using h)]
    cases k with
    | zero => rfl
    | succ k => rfl
def tl : List Int → List Int
  | [] => []
  | x :: t => (x - t.headD 0) :: tl t
local macro_rules | `(tactic| walk_at "dg") => do let xs ← dgN6.mapM fun n => `(Lean.Parser.Tactic.simpLemma| $(Lean.mkIdent n):term); `(tactic| simp only [$xs,*, List.getElem?_cons_zero, List.getElem?_cons_succ])
/-- [0, *xs] against [*xs, 0] -/
def F_times_step : Spec
  | [.lst xs], R, _ => ∃ ns, asInts xs = some ns ∧ ns.length ≤ 5000 ∧ R (.lst ((tstA 0 ns).map .int))
  | [.tup xs], R, _ => ∃ ns, asInts xs = some ns ∧ ns.length ≤ 5000 ∧ R (.lst ((tstA 0 ns).map .int))
  | _, _, _ => False
theorem F_times_step_is {xs : List D} {R : D → Prop} {Rx : Er → Prop} : F_times_step [.lst xs] R Rx = ∃ ns, asInts xs = some ns ∧ ns.length ≤ 5000 ∧ R (.lst ((tstA 0 ns).map .int)) := rfl
theorem F_times_step_of {ds : List D} {R : D → Prop} {Rx : Er → Prop} (h : F_times_step ds R Rx) : ∃ ns : List Int, (ds = [.lst (ns.map .int)] ∨ ds = [.tup (ns.map .int)]) ∧ ns.length ≤ 5000 ∧ R (.lst ((tstA 0 ns).map .int)) := by
  unfold F_times_step at h
  split at h
  · obtain ⟨ns, e, h⟩ := h
    exact ⟨ns, .inl (by rw [asInts_eq e]), h⟩
  · obtain ⟨ns, e, h⟩ := h
    exact ⟨ns, .inr (by rw [asInts_eq e]), h⟩
  · exact h.elim
def b_times_step (Dx : Df K mg "times_step" s_times_step) : Binds K Dx.fd ["numbers"] [] := Dx.F.bindsN fun _ _ _ _ _ _ us hl => match us, hl with | [_], _ => rfl
def n_times_step : List Str := ["numbers", "early", "late"]
theorem sc_times_step : FnScope n_times_step ["numbers"] (defScope s_times_step) := ⟨rfl, rfl, rfl, by decide +kernel, rfl, by decide +kernel, by decide +kernel⟩
theorem zip_step {ns : List Int} {i : Nat} (h : i ≤ ns.length) : (0 :: ns).getD i 0 - (ns ++ [0]).getD i 0 = (tstA 0 ns).getD i 0 := by
  rw [tstA_get 0 ns i h]
  have e1 : (0 :: ns).getD i 0 = if i = 0 then 0 else ns.getD (i - 1) 0 := by cases i <;> rfl
  have e2 : (ns ++ [0]).getD i 0 = ns.getD i 0 := by
    by_cases z : i < ns.length
    · simp [List.getD, List.getElem?_append_left z]
    · have : i = ns.length := by omega
      subst this
      simp [List.getD]
  rw [e1, e2]
theorem ok_times_step (T : Tx mg) (D_times_step : Df K mg "times_step" s_times_step) : FnOk P w K mg base (L2.CX P w) 1 D_times_step.f D_times_step.fd ["numbers"] (spN F_times_step) := by
  refine fn_n D_times_step.F sc_times_step (fun ds R Rx h => ?_) (fun cdv A outer s H E hr => (ds_one (s_retNew (n_ofF (f_lc rfl sc_times_step.nd (i_zip (da_cons (d_ofF (f_lst (da_cons d_int (da_star (d_var 0) da_nil)))) (da_cons (d_ofF (f_lst (da_star (d_var 0) (da_cons d_int da_nil)))) da_nil)) T.m_zip) (blkOk_by (own := [("early", 1), ("late", 2)]) (N := n_times_step) (sc := defScope s_times_step) (by decide +kernel)) (by decide) (fun _ _ _ _ _ => (g_tup (n := 2) rfl (gs_cons (g_name (i := 1) sc_times_step.nd) (gs_cons (g_name (i := 2) sc_times_step.nd) gs_nil)))) (fun _ _ _ _ _ => dts_nil) (fun _ _ _ _ _ => (d_sub (d_var 1) (d_var 2))))))) ) fun ds R Rx h => ?_
  · obtain ⟨ns, rfl | rfl, _⟩ := F_times_step_of h <;> rfl
  · obtain ⟨ns, e, hn, hR⟩ := F_times_step_of h
    clear h
    have main : ∀ R2 : List D → Prop, R2 ((tstA 0 ns).map .int) → ∀ (o : Option DV), LcP (pairs (D.int 0 :: ns.map D.int) (ns.map D.int ++ [D.int 0])) (yTup 2 (yCons (yName 1) (yCons (yName 2) yNil))) xYes (xOp opSub (xVar 1) (xVar 2)) [1, 2] [o, none, none] R2 := by
      intro R2 h2 env
      have e1 : D.int 0 :: ns.map D.int = (0 :: ns).map D.int := rfl
      have e2 : ns.map D.int ++ [D.int 0] = (ns ++ [0]).map D.int := by rw [List.map_append]; rfl
      rw [e1, e2]
      refine LcP.idx (fun k => .int ((tstA 0 ns).getD k 0)) (by rw [pairs_length, sizeLine_eq]; simp; omega) (fun i d N e hN => ?_) ?_
      · obtain ⟨h1, h2, rfl⟩ := pairs_ints e
        walk_at "dl"
        rw [zip_step (by have : i < ns.length + 1 := by simpa using h2
                         omega)]
        exact hN
      · have e4 : (pairs ((0 :: ns).map D.int) ((ns ++ [0]).map D.int)).length = (tstA 0 ns).length := by rw [pairs_length, tstA_length]; simp
        rw [e4, range_getD]
        exact h2
    rcases e with rfl | rfl
    · simp only [n_times_step]
      walk_at "dl"
      exact ⟨by omega, by omega, main _ ⟨flatL_ints, hR⟩ _⟩
    · simp only [n_times_step]
      walk_at "dl"
      exact ⟨by omega, by omega, main _ ⟨flatL_ints, hR⟩ _⟩
local macro_rules | `(tactic| walk_at "rk") => `(tactic| first
  | assumption
  | (refine rok_app ?_ ?_ ?_ <;> first | walk_at "rk" | (simp only [List.length_append, List.length_reverse, List.length_map, List.length_replicate]; omega))
  | (refine rok_rev ?_; walk_at "rk")
  | (refine rok_map ?_ _ (fun t => fmod_in (by assumption)); walk_at "rk")
  | omega
  | decide
  | (refine log_lt (k := 80) ?_ (by decide) (by decide); omega))
local macro_rules | `(tactic| walk_at "fin") => `(tactic| ((repeat' (first | (with_reducible assumption) | (with_reducible refine And.intro ?_ ?_) | (with_reducible intro _))); all_goals first | (with_reducible assumption) | omega | contradiction | trivial))
local macro_rules | `(tactic| walk_at "cj") => `(tactic| repeat' (refine And.intro (by walk_at "rk") ?_))
def tstN : Nat → List Int → List Int
  | 0, c => c
  | k + 1, c => tstN k (tstA 0 c)
theorem tstN_succ : ∀ (k : Nat) (c : List Int), tstN (k + 1) c = tstA 0 (tstN k c)
  | 0, _ => rfl
  | k + 1, c => by
    show tstN (k + 1) (tstA 0 c) = tstA 0 (tstN k (tstA 0 c))
    exact tstN_succ k (tstA 0 c)
theorem tstN_length : ∀ (k : Nat) (c : List Int), (tstN k c).length = c.length + k
  | 0, _ => rfl
  | k + 1, c => by rw [tstN_succ, tstA_length, tstN_length k c]; rfl
def part (ts : List Int) (k : Int) : List Int := ts.map fun t => (if t = k then 1 else 0) - (if t = 0 then 1 else 0)
def dgN7 : Array Lean.Name := dgN6 ++ #[`F_times_step_is]
local macro_rules | `(tactic| walk_at "dg") => do let xs ← dgN7.mapM fun n => `(Lean.Parser.Tactic.simpLemma| $(Lean.mkIdent n):term); `(tactic| simp only [$xs,*, List.getElem?_cons_zero, List.getElem?_cons_succ])
def isInt : D → Bool
  | .int _ => true
  | _ => false
def isNums : D → Bool
  | .lst xs => xs.all isInt
  | .tup xs => xs.all isInt
  | _ => false
def lenD : D → Nat
  | .lst xs => xs.length
  | .tup xs => xs.length
  | _ => 0
theorem all_ints {ns : List Int} : (ns.map D.int).all isInt = true := by
  rw [List.all_map]
  exact List.all_eq_true.mpr fun _ _ => rfl
theorem ints_of_all : ∀ {xs : List D}, xs.all isInt = true → ∃ ns : List Int, xs = ns.map D.int
  | [], _ => ⟨[], rfl⟩
  | x :: xs, h => by
    rw [List.all_cons, Bool.and_eq_true] at h
    obtain ⟨ns, rfl⟩ := ints_of_all h.2
    cases x <;> first | exact (Bool.false_ne_true h.1).elim | exact ⟨_ :: ns, rfl⟩
theorem datL_mem : ∀ {xs : List D} {x : D}, datL xs = true → x ∈ xs → x.dat = true
  | y :: ys, x, h, m => by
    rw [datL_cons, Bool.and_eq_true] at h
    rcases List.mem_cons.mp m with rfl | m
    · exact h.1
    · exact datL_mem h.2 m
def F_are_numbers : Spec
  | [x], R, Rx => x.dat = true ∧ lenD x ≤ 100000 ∧ R (.bl (isNums x))
  | _, _, _ => False
theorem F_are_numbers_is {x : D} {R : D → Prop} {Rx : Er → Prop} : F_are_numbers [x] R Rx = (x.dat = true ∧ lenD x ≤ 100000 ∧ R (.bl (isNums x))) := rfl
theorem F_are_numbers_of {ds : List D} {R : D → Prop} {Rx : Er → Prop} (z : F_are_numbers ds R Rx) : ∃ (x : D), ds = [x] ∧ (x.dat = true ∧ lenD x ≤ 100000 ∧ R (.bl (isNums x))) := by
  unfold F_are_numbers at z
  split at z
  · exact ⟨_, rfl, z⟩
  · exact z.elim
def b_are_numbers (Dx : Df K mg "are_numbers" s_are_numbers) : Binds K Dx.fd ["value"] [] := Dx.F.bindsN fun _ _ _ _ _ _ us hl => match us, hl with | [_], _ => rfl
def n_are_numbers : List Str := ["value", "number"]
theorem sc_are_numbers : FnScope n_are_numbers ["value"] (defScope s_are_numbers) := ⟨rfl, rfl, rfl, by decide +kernel, rfl, by decide +kernel, by decide +kernel⟩
theorem ok_are_numbers (T : Tx mg) (D_are_numbers : Df K mg "are_numbers" s_are_numbers) : FnOk P w K mg base (L2.CX P w) 1 D_are_numbers.f D_are_numbers.fd ["value"] (spD F_are_numbers) := by

  refine fn_d D_are_numbers.F sc_are_numbers (fun ds R Rx hs0 => ?_) (fun cdv A outer s H E hr => have hu := hr.units
    (ds_cons (s_if (dt_not (dt_tru (d_callB b_isi T.m_isinstance PyProof.Rows.boot_isinstance (da_cons (d_var 0) (da_cons (d_tup (da_cons (d_bty T.m_list PyProof.Rows.boot_list) (da_cons (d_bty T.m_tuple PyProof.Rows.boot_tuple) da_nil))) da_nil))))) (ds_one (s_ret d_bl)) ds_nil)
    (ds_one (s_ret (d_callB (b_all rfl) T.m_all PyProof.Rows.boot_all (da_cons (d_ofF (f_lc rfl sc_are_numbers.nd (i_alt (i_list (d_var 0)) (i_tup (d_var 0))) (blkOk_by (own := [("number", 1)]) (N := n_are_numbers) (sc := defScope s_are_numbers) (by decide +kernel)) (by decide) (fun _ _ _ _ _ => (g_name (i := 1) sc_are_numbers.nd)) (fun _ _ _ _ _ => dts_nil) (fun _ _ _ _ _ => (d_and (d_callB b_isi T.m_isinstance PyProof.Rows.boot_isinstance (da_cons (d_var 1) (da_cons (d_bty T.m_int PyProof.Rows.boot_int) da_nil))) (d_one (d_not (d_callB b_isi T.m_isinstance PyProof.Rows.boot_isinstance (da_cons (d_var 1) (da_cons (d_bty T.m_bool PyProof.Rows.boot_bool) da_nil))))))))) da_nil))))) ) fun ds R Rx hs0 => ?_
  · obtain ⟨_, rfl, _⟩ := F_are_numbers_of hs0
    rfl
  · obtain ⟨x, rfl, hs⟩ := F_are_numbers_of hs0
    clear hs0
    simp only [n_are_numbers]
    walk_at "dg"
    obtain ⟨hd, hl, hR⟩ := hs
    cases x <;> try exact (Bool.false_ne_true hd).elim
    all_goals walk_at "dg"
    all_goals try exact hR
    · rename_i xs
      have hd : datL xs = true := hd
      left
      refine LcP.map (fun d => .bl (isInt d)) (by rw [sizeLine_eq]; exact Nat.le_trans hl (by decide)) (fun i d N e hN => ?_) ?_
      · have dd := datL_mem hd (List.mem_of_getElem? e)
        cases d <;> first | exact (Bool.false_ne_true dd).elim | (walk_at "dg"; exact hN)
      · have e : asBls (xs.map fun d => D.bl (isInt d)) = some (xs.map isInt) := by
          have := asBls_map (xs.map isInt)
          rw [List.map_map] at this
          exact this
        refine ⟨_, e, ?_⟩
        rw [List.all_map]
        exact hR
    · rename_i xs
      have hd : datL xs = true := hd
      right
      refine LcP.map (fun d => .bl (isInt d)) (by rw [sizeLine_eq]; exact Nat.le_trans hl (by decide)) (fun i d N e hN => ?_) ?_
      · have dd := datL_mem hd (List.mem_of_getElem? e)
        cases d <;> first | exact (Bool.false_ne_true dd).elim | (walk_at "dg"; exact hN)
      · have e : asBls (xs.map fun d => D.bl (isInt d)) = some (xs.map isInt) := by
          have := asBls_map (xs.map isInt)
          rw [List.map_map] at this
          exact this
        refine ⟨_, e, ?_⟩
        rw [List.all_map]
        exact hR
def dgN8 : Array Lean.Name := dgN7 ++ #[`F_are_numbers_is]
local macro_rules | `(tactic| walk_at "dg") => do let xs ← dgN8.mapM fun n => `(Lean.Parser.Tactic.simpLemma| $(Lean.mkIdent n):term); `(tactic| simp only [$xs,*, List.getElem?_cons_zero, List.getElem?_cons_succ])
theorem good_0 {x : D} : ¬ Good 0 x := by
  cases x <;> exact fun h => h
theorem fn_falseU {x : Str} {st : Stmt} {F : Spec} {ps : List Str} (D0 : Df K mg x st) (h : ∀ ds R Rx, ¬ F ds R Rx) : FnOk P w K mg base (L2.CX P w) 0 D0.f D0.fd ps (spU F) :=
  ⟨fun vs H Q E ⟨_, _, ds, R, Rx, _, _, _, _, z, _⟩ => (h ds R Rx z).elim, fun A outer s H args us vs Q E _ _ _ _ ⟨_, _, ds, R, Rx, _, _, _, _, z, _⟩ => (h ds R Rx z).elim⟩
def F_copied (n : Nat) : Spec
  | [x], R, Rx => Good n x ∧ R x
  | _, _, _ => False
theorem F_copied_is {n : Nat} {x : D} {R : D → Prop} {Rx : Er → Prop} : F_copied n [x] R Rx = (Good n x ∧ R x) := rfl
theorem F_copied_of {n : Nat} {ds : List D} {R : D → Prop} {Rx : Er → Prop} (z : F_copied n ds R Rx) : ∃ (x : D), ds = [x] ∧ (Good n x ∧ R x) := by
  unfold F_copied at z
  split at z
  · exact ⟨_, rfl, z⟩
  · exact z.elim
theorem z0_copied {ds : List D} {R : D → Prop} {Rx : Er → Prop} : ¬ F_copied 0 ds R Rx := fun z => by
  obtain ⟨x, rfl, h, _⟩ := F_copied_of z
  exact good_0 h
def b_copied (Dx : Df K mg "copied" s_copied) : Binds K Dx.fd ["value"] [] := Dx.F.bindsN fun _ _ _ _ _ _ us hl => match us, hl with | [_], _ => rfl
def n_copied : List Str := ["value", "part"]
theorem sc_copied : FnScope n_copied ["value"] (defScope s_copied) := ⟨rfl, rfl, rfl, by decide +kernel, rfl, by decide +kernel, by decide +kernel⟩
def dgN9 : Array Lean.Name := dgN8 ++ #[`F_copied_is]
local macro_rules | `(tactic| walk_at "dg") => do let xs ← dgN9.mapM fun n => `(Lean.Parser.Tactic.simpLemma| $(Lean.mkIdent n):term); `(tactic| simp only [$xs,*, List.getElem?_cons_zero, List.getElem?_cons_succ])
theorem ok_copied (T : Tx mg) (D_copied : Df K mg "copied" s_copied) : ∀ m : Nat, FnOk P w K mg base (L2.CX P w) (0 + m) D_copied.f D_copied.fd ["value"] (spU (F_copied m))
| 0 => FnOk.mono (fn_falseU D_copied fun ds R Rx h => z0_copied h) (by omega)
| m + 1 => by
  have G_copied := ok_copied T D_copied m

  refine fn_u D_copied.F sc_copied (fun ds R Rx hs0 => ?_) (fun cdv A outer s H E hr => have hu := hr.units
    (ds_cons (s_if (dt_tru (d_callB b_isi T.m_isinstance PyProof.Rows.boot_isinstance (da_cons (d_var 0) (da_cons (d_bty T.m_list PyProof.Rows.boot_list) da_nil)))) (ds_one (s_retUe (u_lc rfl sc_copied.nd (i_alt (i_list (d_var 0)) (i_tup (d_var 0))) (blkOk_by (own := [("part", 1)]) (N := n_copied) (sc := defScope s_copied) (by decide +kernel)) (by decide) (fun _ _ _ _ _ => (g_name (i := 1) sc_copied.nd)) (fun _ _ _ _ _ => dts_nil) (fun _ _ _ _ _ => (d_callU G_copied (hr.mono (by first | exact Nat.le_refl _ | exact Nat.le_succ _ | exact Nat.le_trans (show _ ≤ 0 by decide) (Nat.le_add_right 0 _))) D_copied.g D_copied.F.kp (b_copied D_copied) .nil dfR_nil passL (da_cons (d_var 1) da_nil)))))) ds_nil)
    (ds_cons (s_if (dt_tru (d_callB b_isi T.m_isinstance PyProof.Rows.boot_isinstance (da_cons (d_var 0) (da_cons (d_bty T.m_tuple PyProof.Rows.boot_tuple) da_nil)))) (ds_one (s_retUe (u_tupC (u_lc rfl sc_copied.nd (i_alt (i_list (d_var 0)) (i_tup (d_var 0))) (blkOk_by (own := [("part", 1)]) (N := n_copied) (sc := defScope s_copied) (by decide +kernel)) (by decide) (fun _ _ _ _ _ => (g_name (i := 1) sc_copied.nd)) (fun _ _ _ _ _ => dts_nil) (fun _ _ _ _ _ => (d_callU G_copied (hr.mono (by first | exact Nat.le_refl _ | exact Nat.le_succ _ | exact Nat.le_trans (show _ ≤ 0 by decide) (Nat.le_add_right 0 _))) D_copied.g D_copied.F.kp (b_copied D_copied) .nil dfR_nil passL (da_cons (d_var 1) da_nil)))) T.m_tuple PyProof.Rows.boot_tuple))) ds_nil)
    (ds_one (s_retUe (u_flat (d_var 0)))))) ) fun ds R Rx hs0 => ?_
  · obtain ⟨_, rfl, _⟩ := F_copied_of hs0
    rfl
  · obtain ⟨x, rfl, hs⟩ := F_copied_of hs0
    clear hs0
    simp only [n_copied]
    obtain ⟨hg, hR⟩ := hs
    have hd := (good_dat hg).1
    cases x <;> try exact (Bool.false_ne_true hd).elim
    all_goals
      walk_at "dg"
      try exact hR
    · rename_i xs
      left
      refine LcP.map (fun d => d) (by rw [sizeLine_eq]; exact Nat.le_trans hg.1 (by decide)) (fun i d N e hN => ?_) (by rw [List.map_id']; exact hR)
      walk_at "dg"
      exact ⟨hg.2 d (List.mem_of_getElem? e), hN⟩
    · rename_i xs
      right
      refine LcP.map (fun d => d) (by rw [sizeLine_eq]; exact Nat.le_trans hg.1 (by decide)) (fun i d N e hN => ?_) (by rw [List.map_id']; exact hR)
      walk_at "dg"
      exact ⟨hg.2 d (List.mem_of_getElem? e), hN⟩
/-- a list for a tuple -/
def toL : D → D
  | .tup xs => .lst xs
  | d => d
theorem w_toL_lst {xs : List D} : toL (.lst xs) = .lst xs := rfl
theorem w_toL_tup {xs : List D} : toL (.tup xs) = .lst xs := rfl
theorem w_toL_int {i : Int} : toL (.int i) = .int i := rfl
theorem w_toL_str {i : Str} : toL (.str i) = .str i := rfl
theorem w_toL_bl {i : Bool} : toL (.bl i) = .bl i := rfl
theorem w_toL_non : toL .non = .non := rfl
def F_as_list : Spec
  | [x], R, Rx => Good 5 x ∧ R (toL x)
  | _, _, _ => False
theorem F_as_list_is {x : D} {R : D → Prop} {Rx : Er → Prop} : F_as_list [x] R Rx = (Good 5 x ∧ R (toL x)) := rfl
theorem F_as_list_of {ds : List D} {R : D → Prop} {Rx : Er → Prop} (z : F_as_list ds R Rx) : ∃ (x : D), ds = [x] ∧ (Good 5 x ∧ R (toL x)) := by
  unfold F_as_list at z
  split at z
  · exact ⟨_, rfl, z⟩
  · exact z.elim
def b_as_list (Dx : Df K mg "as_list" s_as_list) : Binds K Dx.fd ["value"] [] := Dx.F.bindsN fun _ _ _ _ _ _ us hl => match us, hl with | [_], _ => rfl
def n_as_list : List Str := ["value", "part"]
theorem sc_as_list : FnScope n_as_list ["value"] (defScope s_as_list) := ⟨rfl, rfl, rfl, by decide +kernel, rfl, by decide +kernel, by decide +kernel⟩
def dgN10 : Array Lean.Name := dgN9 ++ #[`w_toL_lst, `w_toL_tup, `w_toL_int, `w_toL_str, `w_toL_bl, `w_toL_non, `F_as_list_is]
local macro_rules | `(tactic| walk_at "dg") => do let xs ← dgN10.mapM fun n => `(Lean.Parser.Tactic.simpLemma| $(Lean.mkIdent n):term); `(tactic| simp only [$xs,*, List.getElem?_cons_zero, List.getElem?_cons_succ])
theorem ok_as_list (T : Tx mg) (D_as_list : Df K mg "as_list" s_as_list) (D_copied : Df K mg "copied" s_copied) : FnOk P w K mg base (L2.CX P w) 5 D_as_list.f D_as_list.fd ["value"] (spU F_as_list) := by
  have G_copied := ok_copied (P := P) (w := w) (base := base) T D_copied 4
  refine fn_u D_as_list.F sc_as_list (fun ds R Rx hs0 => ?_) (fun cdv A outer s H E hr => have hu := hr.units
    (ds_one (s_retUe (u_if (dt_tru (d_callB b_isi T.m_isinstance PyProof.Rows.boot_isinstance (da_cons (d_var 0) (da_cons (d_tup (da_cons (d_bty T.m_list PyProof.Rows.boot_list) (da_cons (d_bty T.m_tuple PyProof.Rows.boot_tuple) da_nil))) da_nil)))) (u_lc rfl sc_as_list.nd (i_alt (i_list (d_var 0)) (i_tup (d_var 0))) (blkOk_by (own := [("part", 1)]) (N := n_as_list) (sc := defScope s_as_list) (by decide +kernel)) (by decide) (fun _ _ _ _ _ => (g_name (i := 1) sc_as_list.nd)) (fun _ _ _ _ _ => dts_nil) (fun _ _ _ _ _ => (d_callU G_copied (hr.mono (by decide)) D_copied.g D_copied.F.kp (b_copied D_copied) .nil dfR_nil passL (da_cons (d_var 1) da_nil)))) (u_flat (d_var 0))))) ) fun ds R Rx hs0 => ?_
  · obtain ⟨_, rfl, _⟩ := F_as_list_of hs0
    rfl
  · obtain ⟨x, rfl, hs⟩ := F_as_list_of hs0
    clear hs0
    simp only [n_as_list]
    obtain ⟨hg, hR⟩ := hs
    have hd := (good_dat hg).1
    cases x <;> try exact (Bool.false_ne_true hd).elim
    all_goals
      walk_at "dg"
      try exact hR
    · rename_i xs
      left
      refine LcP.map (fun d => d) (by rw [sizeLine_eq]; exact Nat.le_trans hg.1 (by decide)) (fun i d N e hN => ?_) (by rw [List.map_id']; exact hR)
      walk_at "dg"
      exact ⟨hg.2 d (List.mem_of_getElem? e), hN⟩
    · rename_i xs
      right
      refine LcP.map (fun d => d) (by rw [sizeLine_eq]; exact Nat.le_trans hg.1 (by decide)) (fun i d N e hN => ?_) (by rw [List.map_id']; exact hR)
      walk_at "dg"
      exact ⟨hg.2 d (List.mem_of_getElem? e), hN⟩
def F_parting (C : Addr) : Spec
  | [r, .int k], R, Rx => asRow C (fun h ts => RowOk h ts ∧ R (.lst ((part ts k).map .int))) r
  | _, _, _ => False
theorem F_parting_is {C : Addr} {r : D} {k : Int} {R : D → Prop} {Rx : Er → Prop} : F_parting C [r, .int k] R Rx = (asRow C (fun h ts => RowOk h ts ∧ R (.lst ((part ts k).map .int))) r) := rfl
theorem F_parting_of {C : Addr} {ds : List D} {R : D → Prop} {Rx : Er → Prop} (z : F_parting C ds R Rx) : ∃ (r : D) (k : Int), ds = [r, .int k] ∧ (asRow C (fun h ts => RowOk h ts ∧ R (.lst ((part ts k).map .int))) r) := by
  unfold F_parting at z
  split at z
  · exact ⟨_, _, rfl, z⟩
  · exact z.elim
def b_parting (Dx : Df K mg "parting" s_parting) : Binds K Dx.fd ["row", "hand"] [] := Dx.F.bindsN fun _ _ _ _ _ _ us hl => match us, hl with | [_, _], _ => rfl
def n_parting : List Str := ["row", "hand", "own"]
theorem sc_parting : FnScope n_parting ["row", "hand"] (defScope s_parting) := ⟨rfl, rfl, rfl, by decide +kernel, rfl, by decide +kernel, by decide +kernel⟩
theorem ok_parting (T : Tx mg) (K_Row : Kx_Row K mg) (D_parting : Df K mg "parting" s_parting) : FnOk P w K mg base (L2.CX P w) 2 D_parting.f D_parting.fd ["row", "hand"] (spD (F_parting K_Row.C)) := by
  have G_Row_turns := ok_Row_turns (P := P) (w := w) (base := base) T K_Row
  refine fn_d D_parting.F sc_parting (fun ds R Rx hs0 => ?_) (fun cdv A outer s H E hr => have hu := hr.units
    (ds_one (s_ret (d_ofF (f_lc rfl sc_parting.nd (i_list (d_ofN (d_methN0 (d_var 0) K_Row.cls K_Row.h_turns G_Row_turns (hr.mono (by decide)) (b_Row_turns K_Row.D_turns) pass_d))) (blkOk_by (own := [("own", 2)]) (N := n_parting) (sc := defScope s_parting) (by decide +kernel)) (by decide) (fun _ _ _ _ _ => (g_name (i := 2) sc_parting.nd)) (fun _ _ _ _ _ => dts_nil) (fun _ _ _ _ _ => (d_sub (d_callT b_int T.m_int PyProof.Rows.boot_int (da_cons (d_cmp (c_eq hu) (d_var 2) (d_var 1) (nomark _)) da_nil)) (d_callT b_int T.m_int PyProof.Rows.boot_int (da_cons (d_cmp (c_eq hu) (d_var 2) d_int (nomark _)) da_nil)))))))) ) fun ds R Rx hs0 => ?_
  · obtain ⟨_, _, rfl, _⟩ := F_parting_of hs0
    rfl
  · obtain ⟨r, k, rfl, hs⟩ := F_parting_of hs0
    clear hs0
    simp only [n_parting]
    walk_at "dg"
    obtain ⟨h, ts, rfl, ok, hR⟩ := asRow_of hs
    walk_at "dg"
    have e : (part ts k).map D.int = ts.map fun t => D.int ((if t = k then 1 else 0) - (if t = 0 then 1 else 0)) := by unfold part; rw [List.map_map]; rfl
    rw [e] at hR
    refine LcP.of (fun t => .int ((if t = k then 1 else 0) - (if t = 0 then 1 else 0))) (by rw [sizeLine_eq]; have := ok.2.2.2.1; omega) (fun i t N e hN => ?_) hR
    walk_at "dg"
    simpa using hN
local macro_rules | `(tactic| walk_at "rk") => `(tactic| first
  | assumption
  | (refine rok_app ?_ ?_ ?_ <;> first | walk_at "rk" | (simp only [List.length_append, List.length_reverse, List.length_map, List.length_replicate]; omega))
  | (refine rok_rev ?_; walk_at "rk")
  | (refine rok_map ?_ _ (fun t => fmod_in (by assumption)); walk_at "rk")
  | omega
  | decide
  | (refine log_lt (k := 80) ?_ (by decide) (by decide); omega))
local macro_rules | `(tactic| walk_at "fin") => `(tactic| ((repeat' (first | (with_reducible assumption) | (with_reducible refine And.intro ?_ ?_) | (with_reducible intro _))); all_goals first | (with_reducible assumption) | omega | contradiction | trivial))
local macro_rules | `(tactic| walk_at "cj") => `(tactic| repeat' (refine And.intro (by walk_at "rk") ?_))
/-- an object of the class C with these names -/
def asP2 (C : Addr) (ks : List Str) (R : D → D → Prop) : D → Prop
  | .obj C' ks' [x, y] => C' = C ∧ ks' = ks ∧ R x y
  | _ => False
theorem w_asP2 {C : Addr} {ks : List Str} {R : D → D → Prop} {x y : D} : asP2 C ks R (.obj C ks [x, y]) = R x y := by simp [asP2]
theorem asP2_of {C : Addr} {ks : List Str} {R : D → D → Prop} {d : D} (h : asP2 C ks R d) : ∃ x y, d = .obj C ks [x, y] ∧ R x y := by
  unfold asP2 at h
  split at h
  · obtain ⟨rfl, rfl, h⟩ := h
    exact ⟨_, _, rfl, h⟩
  · exact h.elim
def asP4 (C : Addr) (ks : List Str) (R : D → D → D → D → Prop) : D → Prop
  | .obj C' ks' [x, y, z, u] => C' = C ∧ ks' = ks ∧ R x y z u
  | _ => False
theorem w_asP4 {C : Addr} {ks : List Str} {R : D → D → D → D → Prop} {x y z u : D} : asP4 C ks R (.obj C ks [x, y, z, u]) = R x y z u := by simp [asP4]
abbrev ksEven : List Str := ["own_wanted", "own_quotients"]
theorem fld_ev1 {x y : D} : fld ksEven [x, y] "own_wanted" = some x := rfl
theorem fld_ev2 {x y : D} : fld ksEven [x, y] "own_quotients" = some y := rfl
theorem fld_ev3 {x y : D} : fld ksEven [x, y] "KIND" = none := rfl
theorem fld_ev4 {x y : D} : fld ksEven [x, y] "GOOD" = none := rfl
theorem fld_ev5 {x y : D} : fld ksEven [x, y] "told" = none := rfl
theorem fld_ev6 {x y : D} : fld ksEven [x, y] "holds" = none := rfl
theorem fld_ev7 {x y : D} : fld ksEven [x, y] "quotients" = none := rfl
def dgN11 : Array Lean.Name := dgN10 ++ #[`F_parting_is, `w_asP2, `w_asP4, `fld_ev1, `fld_ev2, `fld_ev3, `fld_ev4, `fld_ev5, `fld_ev6, `fld_ev7]
local macro_rules | `(tactic| walk_at "dg") => do let xs ← dgN11.mapM fun n => `(Lean.Parser.Tactic.simpLemma| $(Lean.mkIdent n):term); `(tactic| simp only [$xs,*, List.getElem?_cons_zero, List.getElem?_cons_succ])
def F_Even___init__ (C : Addr) : Spec
  | [w, q], R, Rx => w.flat = true ∧ Good 5 q ∧ R (.obj C ksEven [w, toL q])
  | _, _, _ => False
theorem F_Even___init___is {C : Addr} {w : D} {q : D} {R : D → Prop} {Rx : Er → Prop} : F_Even___init__ C [w, q] R Rx = (w.flat = true ∧ Good 5 q ∧ R (.obj C ksEven [w, toL q])) := rfl
theorem F_Even___init___of {C : Addr} {ds : List D} {R : D → Prop} {Rx : Er → Prop} (z : F_Even___init__ C ds R Rx) : ∃ (w : D) (q : D), ds = [w, q] ∧ (w.flat = true ∧ Good 5 q ∧ R (.obj C ksEven [w, toL q])) := by
  unfold F_Even___init__ at z
  split at z
  · exact ⟨_, _, rfl, z⟩
  · exact z.elim
def b_Even___init__ (Dx : Dm K "__init__" "Even.__init__" s_Even___init__) : Binds K Dx.fd ["self", "wanted", "quotients"] [] := Dx.F.bindsN fun _ _ _ _ _ _ us hl => match us, hl with | [_, _, _], _ => rfl
def n_Even___init__ : List Str := ["self", "wanted", "quotients"]
theorem sc_Even___init__ : FnScope n_Even___init__ ["self", "wanted", "quotients"] (defScope s_Even___init__) := ⟨rfl, rfl, rfl, by decide +kernel, rfl, by decide +kernel, by decide +kernel⟩
theorem ok_Even___init__ (T : Tx mg) (K_Even : Kx_Even K mg P.main.file) (D_as_list : Df K mg "as_list" s_as_list) (D_copied : Df K mg "copied" s_copied) : FnOk P w K mg base (L2.CX P w) 6 K_Even.D___init__.f K_Even.D___init__.fd ["self", "wanted", "quotients"] (spIN K_Even.C (F_Even___init__ K_Even.C)) := by
  have G_as_list := ok_as_list (P := P) (w := w) (base := base) T D_as_list D_copied
  refine fn_iN K_Even.D___init__.F sc_Even___init__ (fun ds R Rx hs0 => ?_) (fun p dx cdv A outer s H E hr => have hu := hr.units
    (is_set (d_var 1)
    (is_setU (d_callU G_as_list (hr.mono (by decide)) D_as_list.g D_as_list.F.kp (b_as_list D_as_list) .nil dfR_nil pass_d (da_cons (d_var 2) da_nil))
    is_nil K_Even.cls K_Even.n_own_quotients) K_Even.cls K_Even.n_own_wanted) ) fun p ds R Rx hs0 => ?_
  · obtain ⟨_, _, rfl, _⟩ := F_Even___init___of hs0
    rfl
  · obtain ⟨w, q, rfl, hs⟩ := F_Even___init___of hs0
    clear hs0
    simp only [n_Even___init__, jSt, jSet, jNil]
    walk_at "dg"
    obtain ⟨fw, g2, hR⟩ := hs
    have d2 : (toL q).dat = true := by
      have := (good_dat g2).1
      cases q <;> exact this
    exact ⟨by decide, g2, d2, by decide, fw, hR⟩
def F_Even_initg (C : Addr) : Spec
  | [w, q], R, Rx => Good 5 q ∧ R (.obj C ksEven [w, toL q])
  | _, _, _ => False
theorem F_Even_initg_is {C : Addr} {w : D} {q : D} {R : D → Prop} {Rx : Er → Prop} : F_Even_initg C [w, q] R Rx = (Good 5 q ∧ R (.obj C ksEven [w, toL q])) := rfl
theorem F_Even_initg_of {C : Addr} {ds : List D} {R : D → Prop} {Rx : Er → Prop} (z : F_Even_initg C ds R Rx) : ∃ (w : D) (q : D), ds = [w, q] ∧ (Good 5 q ∧ R (.obj C ksEven [w, toL q])) := by
  unfold F_Even_initg at z
  split at z
  · exact ⟨_, _, rfl, z⟩
  · exact z.elim
theorem ok_Even___init__g (T : Tx mg) (K_Even : Kx_Even K mg P.main.file) (D_as_list : Df K mg "as_list" s_as_list) (D_copied : Df K mg "copied" s_copied) : FnOk P w K mg base (L2.CX P w) 6 K_Even.D___init__.f K_Even.D___init__.fd ["self", "wanted", "quotients"] (spI K_Even.C (F_Even_initg K_Even.C)) := by
  have G_as_list := ok_as_list (P := P) (w := w) (base := base) T D_as_list D_copied
  refine fn_i K_Even.D___init__.F sc_Even___init__ (fun ds R Rx hs0 => ?_) (fun p dx cdv A outer s H E hr => have hu := hr.units
    (is_set (d_var 1)
    (is_setU (d_callU G_as_list (hr.mono (by decide)) D_as_list.g D_as_list.F.kp (b_as_list D_as_list) .nil dfR_nil pass_d (da_cons (d_var 2) da_nil))
    is_nil K_Even.cls K_Even.n_own_quotients) K_Even.cls K_Even.n_own_wanted) ) fun p ds R Rx hs0 => ?_
  · obtain ⟨_, _, rfl, _⟩ := F_Even_initg_of hs0
    rfl
  · obtain ⟨w, q, rfl, hs⟩ := F_Even_initg_of hs0
    clear hs0
    simp only [n_Even___init__, jSt, jSet, jNil]
    walk_at "dg"
    obtain ⟨g2, hR⟩ := hs
    have d2 : (toL q).dat = true := by
      have := (good_dat g2).1
      cases q <;> exact this
    exact ⟨by decide, g2, d2, by decide, hR⟩
def F_Even_wanted (C : Addr) : Spec
  | [r], R, Rx => asP2 C ksEven (fun w q => R w) r
  | _, _, _ => False
theorem F_Even_wanted_is {C : Addr} {r : D} {R : D → Prop} {Rx : Er → Prop} : F_Even_wanted C [r] R Rx = (asP2 C ksEven (fun w q => R w) r) := rfl
theorem F_Even_wanted_of {C : Addr} {ds : List D} {R : D → Prop} {Rx : Er → Prop} (z : F_Even_wanted C ds R Rx) : ∃ (r : D), ds = [r] ∧ (asP2 C ksEven (fun w q => R w) r) := by
  unfold F_Even_wanted at z
  split at z
  · exact ⟨_, rfl, z⟩
  · exact z.elim
def b_Even_wanted (Dx : Dm K "wanted" "Even.wanted" s_Even_wanted) : Binds K Dx.fd ["self"] [] := Dx.F.bindsN fun _ _ _ _ _ _ us hl => match us, hl with | [_], _ => rfl
def n_Even_wanted : List Str := ["self"]
theorem sc_Even_wanted : FnScope n_Even_wanted ["self"] (defScope s_Even_wanted) := ⟨rfl, rfl, rfl, by decide +kernel, rfl, by decide +kernel, by decide +kernel⟩
theorem ok_Even_wanted (T : Tx mg) (K_Even : Kx_Even K mg P.main.file) : FnOk P w K mg base (L2.CX P w) 1 K_Even.D_wanted.f K_Even.D_wanted.fd ["self"] (spD (F_Even_wanted K_Even.C)) := by

  refine fn_d K_Even.D_wanted.F sc_Even_wanted (fun ds R Rx hs0 => ?_) (fun cdv A outer s H E hr => have hu := hr.units
    (ds_one (s_ret (d_fld (d_var 0) K_Even.cls K_Even.n_own_wanted))) ) fun ds R Rx hs0 => ?_
  · obtain ⟨_, rfl, _⟩ := F_Even_wanted_of hs0
    rfl
  · obtain ⟨r, rfl, hs⟩ := F_Even_wanted_of hs0
    clear hs0
    simp only [n_Even_wanted]
    walk_at "dg"
    obtain ⟨w, q, rfl, hR⟩ := asP2_of hs
    walk_at "dg"
    exact hR
def F_Even_quotients (C : Addr) : Spec
  | [r], R, Rx => asP2 C ksEven (fun w q => Good 5 q ∧ R q) r
  | _, _, _ => False
theorem F_Even_quotients_is {C : Addr} {r : D} {R : D → Prop} {Rx : Er → Prop} : F_Even_quotients C [r] R Rx = (asP2 C ksEven (fun w q => Good 5 q ∧ R q) r) := rfl
theorem F_Even_quotients_of {C : Addr} {ds : List D} {R : D → Prop} {Rx : Er → Prop} (z : F_Even_quotients C ds R Rx) : ∃ (r : D), ds = [r] ∧ (asP2 C ksEven (fun w q => Good 5 q ∧ R q) r) := by
  unfold F_Even_quotients at z
  split at z
  · exact ⟨_, rfl, z⟩
  · exact z.elim
def b_Even_quotients (Dx : Dm K "quotients" "Even.quotients" s_Even_quotients) : Binds K Dx.fd ["self"] [] := Dx.F.bindsN fun _ _ _ _ _ _ us hl => match us, hl with | [_], _ => rfl
def n_Even_quotients : List Str := ["self"]
theorem sc_Even_quotients : FnScope n_Even_quotients ["self"] (defScope s_Even_quotients) := ⟨rfl, rfl, rfl, by decide +kernel, rfl, by decide +kernel, by decide +kernel⟩
theorem ok_Even_quotients (T : Tx mg) (K_Even : Kx_Even K mg P.main.file) (D_copied : Df K mg "copied" s_copied) : FnOk P w K mg base (L2.CX P w) 6 K_Even.D_quotients.f K_Even.D_quotients.fd ["self"] (spU (F_Even_quotients K_Even.C)) := by
  have G_copied := ok_copied (P := P) (w := w) (base := base) T D_copied 5
  refine fn_u K_Even.D_quotients.F sc_Even_quotients (fun ds R Rx hs0 => ?_) (fun cdv A outer s H E hr => have hu := hr.units
    (ds_one (s_retUe (d_callU G_copied (hr.mono (by decide)) D_copied.g D_copied.F.kp (b_copied D_copied) .nil dfR_nil pass_d (da_cons (d_fld (d_var 0) K_Even.cls K_Even.n_own_quotients) da_nil)))) ) fun ds R Rx hs0 => ?_
  · obtain ⟨_, rfl, _⟩ := F_Even_quotients_of hs0
    rfl
  · obtain ⟨r, rfl, hs⟩ := F_Even_quotients_of hs0
    clear hs0
    simp only [n_Even_quotients]
    walk_at "dg"
    obtain ⟨w, q, rfl, hR⟩ := asP2_of hs
    walk_at "dg"
    exact hR
def F_Even_sup_told (C : Addr) : Spec
  | [r], R, Rx => asP2 C ksEven (fun w q => R (.str "even")) r
  | _, _, _ => False
theorem F_Even_sup_told_is {C : Addr} {r : D} {R : D → Prop} {Rx : Er → Prop} : F_Even_sup_told C [r] R Rx = (asP2 C ksEven (fun w q => R (.str "even")) r) := rfl
theorem F_Even_sup_told_of {C : Addr} {ds : List D} {R : D → Prop} {Rx : Er → Prop} (z : F_Even_sup_told C ds R Rx) : ∃ (r : D), ds = [r] ∧ (asP2 C ksEven (fun w q => R (.str "even")) r) := by
  unfold F_Even_sup_told at z
  split at z
  · exact ⟨_, rfl, z⟩
  · exact z.elim
def b_Even_sup_told (Dx : Dm K "told" "Paper.told" s_Even_sup_told) : Binds K Dx.fd ["self"] [] := Dx.F.bindsN fun _ _ _ _ _ _ us hl => match us, hl with | [_], _ => rfl
def n_Even_sup_told : List Str := ["self"]
theorem sc_Even_sup_told : FnScope n_Even_sup_told ["self"] (defScope s_Even_sup_told) := ⟨rfl, rfl, rfl, by decide +kernel, rfl, by decide +kernel, by decide +kernel⟩
theorem ok_Even_sup_told (T : Tx mg) (K_Even : Kx_Even K mg P.main.file) : FnOk P w K mg base (L2.CX P w) 1 K_Even.D_sup_told.f K_Even.D_sup_told.fd ["self"] (spD (F_Even_sup_told K_Even.C)) := by

  refine fn_d K_Even.D_sup_told.F sc_Even_sup_told (fun ds R Rx hs0 => ?_) (fun cdv A outer s H E hr => have hu := hr.units
    (ds_one (s_ret (d_conS (d_var 0) K_Even.cls K_Even.c_KIND))) ) fun ds R Rx hs0 => ?_
  · obtain ⟨_, rfl, _⟩ := F_Even_sup_told_of hs0
    rfl
  · obtain ⟨r, rfl, hs⟩ := F_Even_sup_told_of hs0
    clear hs0
    simp only [n_Even_sup_told]
    walk_at "dg"
    obtain ⟨w, q, rfl, hR⟩ := asP2_of hs
    walk_at "dg"
    exact hR
def F_Even_told (C : Addr) : Spec
  | [r], R, Rx => asP2 C ksEven (fun w q => ∃ i : Int, w = .int i ∧ i.natAbs.log2 < 1920 ∧ R (.str (("even " : Str) ++ ((toString i : String) : Str)))) r
  | _, _, _ => False
theorem F_Even_told_is {C : Addr} {r : D} {R : D → Prop} {Rx : Er → Prop} : F_Even_told C [r] R Rx = (asP2 C ksEven (fun w q => ∃ i : Int, w = .int i ∧ i.natAbs.log2 < 1920 ∧ R (.str (("even " : Str) ++ ((toString i : String) : Str)))) r) := rfl
theorem F_Even_told_of {C : Addr} {ds : List D} {R : D → Prop} {Rx : Er → Prop} (z : F_Even_told C ds R Rx) : ∃ (r : D), ds = [r] ∧ (asP2 C ksEven (fun w q => ∃ i : Int, w = .int i ∧ i.natAbs.log2 < 1920 ∧ R (.str (("even " : Str) ++ ((toString i : String) : Str)))) r) := by
  unfold F_Even_told at z
  split at z
  · exact ⟨_, rfl, z⟩
  · exact z.elim
theorem b_Even_told {fl : Str} {C : Addr} (Dx : Dsup K fl "told" "Even.told" s_Even_told C) : Binds K Dx.fd ["self"] [] := Dx.binds fun _ _ _ _ _ _ _ us hl => match us, hl with | [_], _ => rfl
def n_Even_told : List Str := ["self"]
theorem sc_Even_told : EXS.SScope n_Even_told ["self"] (defScope s_Even_told) := ⟨rfl, rfl, rfl, by decide +kernel, rfl, by decide +kernel, by decide +kernel, by decide +kernel, rfl, rfl⟩
def dgN12 : Array Lean.Name := dgN11 ++ #[`F_Even___init___is, `F_Even_initg_is, `F_Even_wanted_is, `F_Even_quotients_is, `F_Even_sup_told_is, `F_Even_told_is]
local macro_rules | `(tactic| walk_at "dg") => do let xs ← dgN12.mapM fun n => `(Lean.Parser.Tactic.simpLemma| $(Lean.mkIdent n):term); `(tactic| simp only [$xs,*, List.getElem?_cons_zero, List.getElem?_cons_succ])
theorem ok_Even_told (T : Tx mg) (K_Even : Kx_Even K mg P.main.file) (hsup : mg "super" = none) (htop : (P.main.scope.names.lookup ("super" : Str)).isSome = false) : FnOk P w K mg base (L2.CX P w) 2 K_Even.D_told.f K_Even.D_told.fd ["self"] (spD (F_Even_told K_Even.C)) := by
  have G_Even_sup_told := ok_Even_sup_told (P := P) (w := w) (base := base) T K_Even
  refine fn_fS K_Even.D_told.F K_Even.su_told sc_Even_told hsup htop rfl rfl rfl rfl (by decide) (FnOk_r0 G_Even_sup_told (b_Even_sup_told K_Even.D_sup_told)) (fun ds R Rx hs0 => ?_) (fun A outer s H E hr => have hu := hr.units
    (dj_cons d_str (dj_cons (d_fmt (d_fld (d_var 0) K_Even.cls K_Even.n_own_wanted)) dj_nil)) ) (fun ds R Rx hs0 => ?_) (fun _ => rfl)
  · obtain ⟨_, rfl, _⟩ := F_Even_told_of hs0
    rfl
  · obtain ⟨r, rfl, hs⟩ := F_Even_told_of hs0
    clear hs0
    simp only [n_Even_told]
    obtain ⟨w, q, rfl, i, rfl, hi, hR⟩ := asP2_of hs
    refine ⟨_, _, _, rfl, ?_⟩
    walk_at "dg"
    have l1 : (Str.ofString "even").length = 4 := by decide +kernel
    have l2 : (Str.ofString " ").length = 1 := by decide +kernel
    have l3 := tlen hi
    have e : (Str.ofString "even" ++ Str.ofString " ") = Str.ofString "even " := by decide +kernel
    refine ⟨by omega, by rw [strLen_append]; omega, hi, by rw [strLen_append, strLen_append]; omega, ?_⟩
    rw [e]
    exact hR
def F_Even___bool__ (C : Addr) : Spec
  | [r], R, Rx => asP2 C ksEven (fun w q => R (.bl true)) r
  | _, _, _ => False
theorem F_Even___bool___is {C : Addr} {r : D} {R : D → Prop} {Rx : Er → Prop} : F_Even___bool__ C [r] R Rx = (asP2 C ksEven (fun w q => R (.bl true)) r) := rfl
theorem F_Even___bool___of {C : Addr} {ds : List D} {R : D → Prop} {Rx : Er → Prop} (z : F_Even___bool__ C ds R Rx) : ∃ (r : D), ds = [r] ∧ (asP2 C ksEven (fun w q => R (.bl true)) r) := by
  unfold F_Even___bool__ at z
  split at z
  · exact ⟨_, rfl, z⟩
  · exact z.elim
def b_Even___bool__ (Dx : Dm K "__bool__" "Paper.__bool__" s_Even___bool__) : Binds K Dx.fd ["self"] [] := Dx.F.bindsN fun _ _ _ _ _ _ us hl => match us, hl with | [_], _ => rfl
def n_Even___bool__ : List Str := ["self"]
theorem sc_Even___bool__ : FnScope n_Even___bool__ ["self"] (defScope s_Even___bool__) := ⟨rfl, rfl, rfl, by decide +kernel, rfl, by decide +kernel, by decide +kernel⟩
theorem ok_Even___bool__ (T : Tx mg) (K_Even : Kx_Even K mg P.main.file) : FnOk P w K mg base (L2.CX P w) 1 K_Even.D___bool__.f K_Even.D___bool__.fd ["self"] (spD (F_Even___bool__ K_Even.C)) := by

  refine fn_d K_Even.D___bool__.F sc_Even___bool__ (fun ds R Rx hs0 => ?_) (fun cdv A outer s H E hr => have hu := hr.units
    (ds_one (s_ret (d_callT b_bool T.m_bool PyProof.Rows.boot_bool (da_cons (d_conB (d_var 0) K_Even.cls K_Even.c_GOOD) da_nil)))) ) fun ds R Rx hs0 => ?_
  · obtain ⟨_, rfl, _⟩ := F_Even___bool___of hs0
    rfl
  · obtain ⟨r, rfl, hs⟩ := F_Even___bool___of hs0
    clear hs0
    simp only [n_Even___bool__]
    walk_at "dg"
    obtain ⟨w, q, rfl, hR⟩ := asP2_of hs
    walk_at "dg"
    exact hR
def F_Even___repr__ (C : Addr) : Spec
  | [r], R, Rx => asP2 C ksEven (fun w q => ∃ i : Int, w = .int i ∧ i.natAbs.log2 < 1920 ∧ R (.str (("Paper(" : Str) ++ (("even " : Str) ++ ((toString i : String) : Str)) ++ (")" : Str)))) r
  | _, _, _ => False
theorem F_Even___repr___is {C : Addr} {r : D} {R : D → Prop} {Rx : Er → Prop} : F_Even___repr__ C [r] R Rx = (asP2 C ksEven (fun w q => ∃ i : Int, w = .int i ∧ i.natAbs.log2 < 1920 ∧ R (.str (("Paper(" : Str) ++ (("even " : Str) ++ ((toString i : String) : Str)) ++ (")" : Str)))) r) := rfl
theorem F_Even___repr___of {C : Addr} {ds : List D} {R : D → Prop} {Rx : Er → Prop} (z : F_Even___repr__ C ds R Rx) : ∃ (r : D), ds = [r] ∧ (asP2 C ksEven (fun w q => ∃ i : Int, w = .int i ∧ i.natAbs.log2 < 1920 ∧ R (.str (("Paper(" : Str) ++ (("even " : Str) ++ ((toString i : String) : Str)) ++ (")" : Str)))) r) := by
  unfold F_Even___repr__ at z
  split at z
  · exact ⟨_, rfl, z⟩
  · exact z.elim
def b_Even___repr__ (Dx : Dm K "__repr__" "Paper.__repr__" s_Even___repr__) : Binds K Dx.fd ["self"] [] := Dx.F.bindsN fun _ _ _ _ _ _ us hl => match us, hl with | [_], _ => rfl
def n_Even___repr__ : List Str := ["self"]
theorem sc_Even___repr__ : FnScope n_Even___repr__ ["self"] (defScope s_Even___repr__) := ⟨rfl, rfl, rfl, by decide +kernel, rfl, by decide +kernel, by decide +kernel⟩
theorem ok_Even___repr__ (T : Tx mg) (K_Even : Kx_Even K mg P.main.file) (hsup : mg "super" = none) (htop : (P.main.scope.names.lookup ("super" : Str)).isSome = false) : FnOk P w K mg base (L2.CX P w) 3 K_Even.D___repr__.f K_Even.D___repr__.fd ["self"] (spD (F_Even___repr__ K_Even.C)) := by
  have G_Even_told := ok_Even_told (P := P) (w := w) (base := base) T K_Even hsup htop
  refine fn_d K_Even.D___repr__.F sc_Even___repr__ (fun ds R Rx hs0 => ?_) (fun cdv A outer s H E hr => have hu := hr.units
    (ds_one (s_ret (d_joined (dj_cons d_str (dj_cons (d_fmt (d_meth0 (d_var 0) K_Even.cls K_Even.h_told G_Even_told (hr.mono (by decide)) (b_Even_told K_Even.D_told) pass_d)) (dj_cons d_str dj_nil)))))) ) fun ds R Rx hs0 => ?_
  · obtain ⟨_, rfl, _⟩ := F_Even___repr___of hs0
    rfl
  · obtain ⟨r, rfl, hs⟩ := F_Even___repr___of hs0
    clear hs0
    simp only [n_Even___repr__]
    walk_at "dg"
    obtain ⟨w, q, rfl, i, rfl, hi, hR⟩ := asP2_of hs
    walk_at "dg"
    have l1 : (Str.ofString "Paper(").length = 6 := by decide +kernel
    have l2 : (Str.ofString ")").length = 1 := by decide +kernel
    have l4 : (Str.ofString "even ").length = 5 := by decide +kernel
    have l3 := tlen hi
    have l5 := strLen_append (Str.ofString "even ") (Str.ofString (toString i))
    rw [show Str.empty ++ Str.ofString "Paper(" = Str.ofString "Paper(" by decide +kernel]
    refine ⟨by omega, hi, by omega, by rw [strLen_append]; omega, by rw [strLen_append, strLen_append]; omega, hR⟩
abbrev ksUneven : List Str := ["own_power", "own_worths"]
theorem fld_un1 {x y : D} : fld ksUneven [x, y] "own_power" = some x := rfl
theorem fld_un2 {x y : D} : fld ksUneven [x, y] "own_worths" = some y := rfl
theorem fld_un3 {x y : D} : fld ksUneven [x, y] "KIND" = none := rfl
theorem fld_un4 {x y : D} : fld ksUneven [x, y] "GOOD" = none := rfl
theorem fld_un5 {x y : D} : fld ksUneven [x, y] "told" = none := rfl
theorem fld_un6 {x y : D} : fld ksUneven [x, y] "holds" = none := rfl
theorem fld_un7 {x y : D} : fld ksUneven [x, y] "worths" = none := rfl
def dgN13 : Array Lean.Name := dgN12 ++ #[`F_Even___bool___is, `F_Even___repr___is, `fld_un1, `fld_un2, `fld_un3, `fld_un4, `fld_un5, `fld_un6, `fld_un7]
local macro_rules | `(tactic| walk_at "dg") => do let xs ← dgN13.mapM fun n => `(Lean.Parser.Tactic.simpLemma| $(Lean.mkIdent n):term); `(tactic| simp only [$xs,*, List.getElem?_cons_zero, List.getElem?_cons_succ])
def F_Uneven___init__ (C : Addr) : Spec
  | [w, q], R, Rx => w.flat = true ∧ Good 5 q ∧ R (.obj C ksUneven [w, toL q])
  | _, _, _ => False
theorem F_Uneven___init___is {C : Addr} {w : D} {q : D} {R : D → Prop} {Rx : Er → Prop} : F_Uneven___init__ C [w, q] R Rx = (w.flat = true ∧ Good 5 q ∧ R (.obj C ksUneven [w, toL q])) := rfl
theorem F_Uneven___init___of {C : Addr} {ds : List D} {R : D → Prop} {Rx : Er → Prop} (z : F_Uneven___init__ C ds R Rx) : ∃ (w : D) (q : D), ds = [w, q] ∧ (w.flat = true ∧ Good 5 q ∧ R (.obj C ksUneven [w, toL q])) := by
  unfold F_Uneven___init__ at z
  split at z
  · exact ⟨_, _, rfl, z⟩
  · exact z.elim
def b_Uneven___init__ (Dx : Dm K "__init__" "Uneven.__init__" s_Uneven___init__) : Binds K Dx.fd ["self", "power", "worths"] [] := Dx.F.bindsN fun _ _ _ _ _ _ us hl => match us, hl with | [_, _, _], _ => rfl
def n_Uneven___init__ : List Str := ["self", "power", "worths"]
theorem sc_Uneven___init__ : FnScope n_Uneven___init__ ["self", "power", "worths"] (defScope s_Uneven___init__) := ⟨rfl, rfl, rfl, by decide +kernel, rfl, by decide +kernel, by decide +kernel⟩
theorem ok_Uneven___init__ (T : Tx mg) (K_Uneven : Kx_Uneven K mg P.main.file) (D_as_list : Df K mg "as_list" s_as_list) (D_copied : Df K mg "copied" s_copied) : FnOk P w K mg base (L2.CX P w) 6 K_Uneven.D___init__.f K_Uneven.D___init__.fd ["self", "power", "worths"] (spIN K_Uneven.C (F_Uneven___init__ K_Uneven.C)) := by
  have G_as_list := ok_as_list (P := P) (w := w) (base := base) T D_as_list D_copied
  refine fn_iN K_Uneven.D___init__.F sc_Uneven___init__ (fun ds R Rx hs0 => ?_) (fun p dx cdv A outer s H E hr => have hu := hr.units
    (is_set (d_var 1)
    (is_setU (d_callU G_as_list (hr.mono (by decide)) D_as_list.g D_as_list.F.kp (b_as_list D_as_list) .nil dfR_nil pass_d (da_cons (d_var 2) da_nil))
    is_nil K_Uneven.cls K_Uneven.n_own_worths) K_Uneven.cls K_Uneven.n_own_power) ) fun p ds R Rx hs0 => ?_
  · obtain ⟨_, _, rfl, _⟩ := F_Uneven___init___of hs0
    rfl
  · obtain ⟨w, q, rfl, hs⟩ := F_Uneven___init___of hs0
    clear hs0
    simp only [n_Uneven___init__, jSt, jSet, jNil]
    walk_at "dg"
    obtain ⟨fw, g2, hR⟩ := hs
    have d2 : (toL q).dat = true := by
      have := (good_dat g2).1
      cases q <;> exact this
    exact ⟨by decide, g2, d2, by decide, fw, hR⟩
def F_Uneven_initg (C : Addr) : Spec
  | [w, q], R, Rx => Good 5 q ∧ R (.obj C ksUneven [w, toL q])
  | _, _, _ => False
theorem F_Uneven_initg_is {C : Addr} {w : D} {q : D} {R : D → Prop} {Rx : Er → Prop} : F_Uneven_initg C [w, q] R Rx = (Good 5 q ∧ R (.obj C ksUneven [w, toL q])) := rfl
theorem F_Uneven_initg_of {C : Addr} {ds : List D} {R : D → Prop} {Rx : Er → Prop} (z : F_Uneven_initg C ds R Rx) : ∃ (w : D) (q : D), ds = [w, q] ∧ (Good 5 q ∧ R (.obj C ksUneven [w, toL q])) := by
  unfold F_Uneven_initg at z
  split at z
  · exact ⟨_, _, rfl, z⟩
  · exact z.elim
theorem ok_Uneven___init__g (T : Tx mg) (K_Uneven : Kx_Uneven K mg P.main.file) (D_as_list : Df K mg "as_list" s_as_list) (D_copied : Df K mg "copied" s_copied) : FnOk P w K mg base (L2.CX P w) 6 K_Uneven.D___init__.f K_Uneven.D___init__.fd ["self", "power", "worths"] (spI K_Uneven.C (F_Uneven_initg K_Uneven.C)) := by
  have G_as_list := ok_as_list (P := P) (w := w) (base := base) T D_as_list D_copied
  refine fn_i K_Uneven.D___init__.F sc_Uneven___init__ (fun ds R Rx hs0 => ?_) (fun p dx cdv A outer s H E hr => have hu := hr.units
    (is_set (d_var 1)
    (is_setU (d_callU G_as_list (hr.mono (by decide)) D_as_list.g D_as_list.F.kp (b_as_list D_as_list) .nil dfR_nil pass_d (da_cons (d_var 2) da_nil))
    is_nil K_Uneven.cls K_Uneven.n_own_worths) K_Uneven.cls K_Uneven.n_own_power) ) fun p ds R Rx hs0 => ?_
  · obtain ⟨_, _, rfl, _⟩ := F_Uneven_initg_of hs0
    rfl
  · obtain ⟨w, q, rfl, hs⟩ := F_Uneven_initg_of hs0
    clear hs0
    simp only [n_Uneven___init__, jSt, jSet, jNil]
    walk_at "dg"
    obtain ⟨g2, hR⟩ := hs
    have d2 : (toL q).dat = true := by
      have := (good_dat g2).1
      cases q <;> exact this
    exact ⟨by decide, g2, d2, by decide, hR⟩
def F_Uneven_power (C : Addr) : Spec
  | [r], R, Rx => asP2 C ksUneven (fun w q => R w) r
  | _, _, _ => False
theorem F_Uneven_power_is {C : Addr} {r : D} {R : D → Prop} {Rx : Er → Prop} : F_Uneven_power C [r] R Rx = (asP2 C ksUneven (fun w q => R w) r) := rfl
theorem F_Uneven_power_of {C : Addr} {ds : List D} {R : D → Prop} {Rx : Er → Prop} (z : F_Uneven_power C ds R Rx) : ∃ (r : D), ds = [r] ∧ (asP2 C ksUneven (fun w q => R w) r) := by
  unfold F_Uneven_power at z
  split at z
  · exact ⟨_, rfl, z⟩
  · exact z.elim
def b_Uneven_power (Dx : Dm K "power" "Uneven.power" s_Uneven_power) : Binds K Dx.fd ["self"] [] := Dx.F.bindsN fun _ _ _ _ _ _ us hl => match us, hl with | [_], _ => rfl
def n_Uneven_power : List Str := ["self"]
theorem sc_Uneven_power : FnScope n_Uneven_power ["self"] (defScope s_Uneven_power) := ⟨rfl, rfl, rfl, by decide +kernel, rfl, by decide +kernel, by decide +kernel⟩
theorem ok_Uneven_power (T : Tx mg) (K_Uneven : Kx_Uneven K mg P.main.file) : FnOk P w K mg base (L2.CX P w) 1 K_Uneven.D_power.f K_Uneven.D_power.fd ["self"] (spD (F_Uneven_power K_Uneven.C)) := by

  refine fn_d K_Uneven.D_power.F sc_Uneven_power (fun ds R Rx hs0 => ?_) (fun cdv A outer s H E hr => have hu := hr.units
    (ds_one (s_ret (d_fld (d_var 0) K_Uneven.cls K_Uneven.n_own_power))) ) fun ds R Rx hs0 => ?_
  · obtain ⟨_, rfl, _⟩ := F_Uneven_power_of hs0
    rfl
  · obtain ⟨r, rfl, hs⟩ := F_Uneven_power_of hs0
    clear hs0
    simp only [n_Uneven_power]
    walk_at "dg"
    obtain ⟨w, q, rfl, hR⟩ := asP2_of hs
    walk_at "dg"
    exact hR
def F_Uneven_worths (C : Addr) : Spec
  | [r], R, Rx => asP2 C ksUneven (fun w q => Good 5 q ∧ R q) r
  | _, _, _ => False
theorem F_Uneven_worths_is {C : Addr} {r : D} {R : D → Prop} {Rx : Er → Prop} : F_Uneven_worths C [r] R Rx = (asP2 C ksUneven (fun w q => Good 5 q ∧ R q) r) := rfl
theorem F_Uneven_worths_of {C : Addr} {ds : List D} {R : D → Prop} {Rx : Er → Prop} (z : F_Uneven_worths C ds R Rx) : ∃ (r : D), ds = [r] ∧ (asP2 C ksUneven (fun w q => Good 5 q ∧ R q) r) := by
  unfold F_Uneven_worths at z
  split at z
  · exact ⟨_, rfl, z⟩
  · exact z.elim
def b_Uneven_worths (Dx : Dm K "worths" "Uneven.worths" s_Uneven_worths) : Binds K Dx.fd ["self"] [] := Dx.F.bindsN fun _ _ _ _ _ _ us hl => match us, hl with | [_], _ => rfl
def n_Uneven_worths : List Str := ["self"]
theorem sc_Uneven_worths : FnScope n_Uneven_worths ["self"] (defScope s_Uneven_worths) := ⟨rfl, rfl, rfl, by decide +kernel, rfl, by decide +kernel, by decide +kernel⟩
theorem ok_Uneven_worths (T : Tx mg) (K_Uneven : Kx_Uneven K mg P.main.file) (D_copied : Df K mg "copied" s_copied) : FnOk P w K mg base (L2.CX P w) 6 K_Uneven.D_worths.f K_Uneven.D_worths.fd ["self"] (spU (F_Uneven_worths K_Uneven.C)) := by
  have G_copied := ok_copied (P := P) (w := w) (base := base) T D_copied 5
  refine fn_u K_Uneven.D_worths.F sc_Uneven_worths (fun ds R Rx hs0 => ?_) (fun cdv A outer s H E hr => have hu := hr.units
    (ds_one (s_retUe (d_callU G_copied (hr.mono (by decide)) D_copied.g D_copied.F.kp (b_copied D_copied) .nil dfR_nil pass_d (da_cons (d_fld (d_var 0) K_Uneven.cls K_Uneven.n_own_worths) da_nil)))) ) fun ds R Rx hs0 => ?_
  · obtain ⟨_, rfl, _⟩ := F_Uneven_worths_of hs0
    rfl
  · obtain ⟨r, rfl, hs⟩ := F_Uneven_worths_of hs0
    clear hs0
    simp only [n_Uneven_worths]
    walk_at "dg"
    obtain ⟨w, q, rfl, hR⟩ := asP2_of hs
    walk_at "dg"
    exact hR
def F_Uneven_sup_told (C : Addr) : Spec
  | [r], R, Rx => asP2 C ksUneven (fun w q => R (.str "uneven")) r
  | _, _, _ => False
theorem F_Uneven_sup_told_is {C : Addr} {r : D} {R : D → Prop} {Rx : Er → Prop} : F_Uneven_sup_told C [r] R Rx = (asP2 C ksUneven (fun w q => R (.str "uneven")) r) := rfl
theorem F_Uneven_sup_told_of {C : Addr} {ds : List D} {R : D → Prop} {Rx : Er → Prop} (z : F_Uneven_sup_told C ds R Rx) : ∃ (r : D), ds = [r] ∧ (asP2 C ksUneven (fun w q => R (.str "uneven")) r) := by
  unfold F_Uneven_sup_told at z
  split at z
  · exact ⟨_, rfl, z⟩
  · exact z.elim
def b_Uneven_sup_told (Dx : Dm K "told" "Paper.told" s_Uneven_sup_told) : Binds K Dx.fd ["self"] [] := Dx.F.bindsN fun _ _ _ _ _ _ us hl => match us, hl with | [_], _ => rfl
def n_Uneven_sup_told : List Str := ["self"]
theorem sc_Uneven_sup_told : FnScope n_Uneven_sup_told ["self"] (defScope s_Uneven_sup_told) := ⟨rfl, rfl, rfl, by decide +kernel, rfl, by decide +kernel, by decide +kernel⟩
theorem ok_Uneven_sup_told (T : Tx mg) (K_Uneven : Kx_Uneven K mg P.main.file) : FnOk P w K mg base (L2.CX P w) 1 K_Uneven.D_sup_told.f K_Uneven.D_sup_told.fd ["self"] (spD (F_Uneven_sup_told K_Uneven.C)) := by

  refine fn_d K_Uneven.D_sup_told.F sc_Uneven_sup_told (fun ds R Rx hs0 => ?_) (fun cdv A outer s H E hr => have hu := hr.units
    (ds_one (s_ret (d_conS (d_var 0) K_Uneven.cls K_Uneven.c_KIND))) ) fun ds R Rx hs0 => ?_
  · obtain ⟨_, rfl, _⟩ := F_Uneven_sup_told_of hs0
    rfl
  · obtain ⟨r, rfl, hs⟩ := F_Uneven_sup_told_of hs0
    clear hs0
    simp only [n_Uneven_sup_told]
    walk_at "dg"
    obtain ⟨w, q, rfl, hR⟩ := asP2_of hs
    walk_at "dg"
    exact hR
def F_Uneven_told (C : Addr) : Spec
  | [r], R, Rx => asP2 C ksUneven (fun w q => ∃ i : Int, w = .int i ∧ i.natAbs.log2 < 1920 ∧ R (.str (("uneven " : Str) ++ ((toString i : String) : Str)))) r
  | _, _, _ => False
theorem F_Uneven_told_is {C : Addr} {r : D} {R : D → Prop} {Rx : Er → Prop} : F_Uneven_told C [r] R Rx = (asP2 C ksUneven (fun w q => ∃ i : Int, w = .int i ∧ i.natAbs.log2 < 1920 ∧ R (.str (("uneven " : Str) ++ ((toString i : String) : Str)))) r) := rfl
theorem F_Uneven_told_of {C : Addr} {ds : List D} {R : D → Prop} {Rx : Er → Prop} (z : F_Uneven_told C ds R Rx) : ∃ (r : D), ds = [r] ∧ (asP2 C ksUneven (fun w q => ∃ i : Int, w = .int i ∧ i.natAbs.log2 < 1920 ∧ R (.str (("uneven " : Str) ++ ((toString i : String) : Str)))) r) := by
  unfold F_Uneven_told at z
  split at z
  · exact ⟨_, rfl, z⟩
  · exact z.elim
theorem b_Uneven_told {fl : Str} {C : Addr} (Dx : Dsup K fl "told" "Uneven.told" s_Uneven_told C) : Binds K Dx.fd ["self"] [] := Dx.binds fun _ _ _ _ _ _ _ us hl => match us, hl with | [_], _ => rfl
def n_Uneven_told : List Str := ["self"]
theorem sc_Uneven_told : EXS.SScope n_Uneven_told ["self"] (defScope s_Uneven_told) := ⟨rfl, rfl, rfl, by decide +kernel, rfl, by decide +kernel, by decide +kernel, by decide +kernel, rfl, rfl⟩
def dgN14 : Array Lean.Name := dgN13 ++ #[`F_Uneven___init___is, `F_Uneven_initg_is, `F_Uneven_power_is, `F_Uneven_worths_is, `F_Uneven_sup_told_is, `F_Uneven_told_is]
local macro_rules | `(tactic| walk_at "dg") => do let xs ← dgN14.mapM fun n => `(Lean.Parser.Tactic.simpLemma| $(Lean.mkIdent n):term); `(tactic| simp only [$xs,*, List.getElem?_cons_zero, List.getElem?_cons_succ])
theorem ok_Uneven_told (T : Tx mg) (K_Uneven : Kx_Uneven K mg P.main.file) (hsup : mg "super" = none) (htop : (P.main.scope.names.lookup ("super" : Str)).isSome = false) : FnOk P w K mg base (L2.CX P w) 2 K_Uneven.D_told.f K_Uneven.D_told.fd ["self"] (spD (F_Uneven_told K_Uneven.C)) := by
  have G_Uneven_sup_told := ok_Uneven_sup_told (P := P) (w := w) (base := base) T K_Uneven
  refine fn_fS K_Uneven.D_told.F K_Uneven.su_told sc_Uneven_told hsup htop rfl rfl rfl rfl (by decide) (FnOk_r0 G_Uneven_sup_told (b_Uneven_sup_told K_Uneven.D_sup_told)) (fun ds R Rx hs0 => ?_) (fun A outer s H E hr => have hu := hr.units
    (dj_cons d_str (dj_cons (d_fmt (d_fld (d_var 0) K_Uneven.cls K_Uneven.n_own_power)) dj_nil)) ) (fun ds R Rx hs0 => ?_) (fun _ => rfl)
  · obtain ⟨_, rfl, _⟩ := F_Uneven_told_of hs0
    rfl
  · obtain ⟨r, rfl, hs⟩ := F_Uneven_told_of hs0
    clear hs0
    simp only [n_Uneven_told]
    obtain ⟨w, q, rfl, i, rfl, hi, hR⟩ := asP2_of hs
    refine ⟨_, _, _, rfl, ?_⟩
    walk_at "dg"
    have l1 : (Str.ofString "uneven").length = 6 := by decide +kernel
    have l2 : (Str.ofString " ").length = 1 := by decide +kernel
    have l3 := tlen hi
    have e : (Str.ofString "uneven" ++ Str.ofString " ") = Str.ofString "uneven " := by decide +kernel
    refine ⟨by omega, by rw [strLen_append]; omega, hi, by rw [strLen_append, strLen_append]; omega, ?_⟩
    rw [e]
    exact hR
def F_Uneven___bool__ (C : Addr) : Spec
  | [r], R, Rx => asP2 C ksUneven (fun w q => R (.bl false)) r
  | _, _, _ => False
theorem F_Uneven___bool___is {C : Addr} {r : D} {R : D → Prop} {Rx : Er → Prop} : F_Uneven___bool__ C [r] R Rx = (asP2 C ksUneven (fun w q => R (.bl false)) r) := rfl
theorem F_Uneven___bool___of {C : Addr} {ds : List D} {R : D → Prop} {Rx : Er → Prop} (z : F_Uneven___bool__ C ds R Rx) : ∃ (r : D), ds = [r] ∧ (asP2 C ksUneven (fun w q => R (.bl false)) r) := by
  unfold F_Uneven___bool__ at z
  split at z
  · exact ⟨_, rfl, z⟩
  · exact z.elim
def b_Uneven___bool__ (Dx : Dm K "__bool__" "Paper.__bool__" s_Uneven___bool__) : Binds K Dx.fd ["self"] [] := Dx.F.bindsN fun _ _ _ _ _ _ us hl => match us, hl with | [_], _ => rfl
def n_Uneven___bool__ : List Str := ["self"]
theorem sc_Uneven___bool__ : FnScope n_Uneven___bool__ ["self"] (defScope s_Uneven___bool__) := ⟨rfl, rfl, rfl, by decide +kernel, rfl, by decide +kernel, by decide +kernel⟩
theorem ok_Uneven___bool__ (T : Tx mg) (K_Uneven : Kx_Uneven K mg P.main.file) : FnOk P w K mg base (L2.CX P w) 1 K_Uneven.D___bool__.f K_Uneven.D___bool__.fd ["self"] (spD (F_Uneven___bool__ K_Uneven.C)) := by

  refine fn_d K_Uneven.D___bool__.F sc_Uneven___bool__ (fun ds R Rx hs0 => ?_) (fun cdv A outer s H E hr => have hu := hr.units
    (ds_one (s_ret (d_callT b_bool T.m_bool PyProof.Rows.boot_bool (da_cons (d_conB (d_var 0) K_Uneven.cls K_Uneven.c_GOOD) da_nil)))) ) fun ds R Rx hs0 => ?_
  · obtain ⟨_, rfl, _⟩ := F_Uneven___bool___of hs0
    rfl
  · obtain ⟨r, rfl, hs⟩ := F_Uneven___bool___of hs0
    clear hs0
    simp only [n_Uneven___bool__]
    walk_at "dg"
    obtain ⟨w, q, rfl, hR⟩ := asP2_of hs
    walk_at "dg"
    exact hR
def F_Uneven___repr__ (C : Addr) : Spec
  | [r], R, Rx => asP2 C ksUneven (fun w q => ∃ i : Int, w = .int i ∧ i.natAbs.log2 < 1920 ∧ R (.str (("Paper(" : Str) ++ (("uneven " : Str) ++ ((toString i : String) : Str)) ++ (")" : Str)))) r
  | _, _, _ => False
theorem F_Uneven___repr___is {C : Addr} {r : D} {R : D → Prop} {Rx : Er → Prop} : F_Uneven___repr__ C [r] R Rx = (asP2 C ksUneven (fun w q => ∃ i : Int, w = .int i ∧ i.natAbs.log2 < 1920 ∧ R (.str (("Paper(" : Str) ++ (("uneven " : Str) ++ ((toString i : String) : Str)) ++ (")" : Str)))) r) := rfl
theorem F_Uneven___repr___of {C : Addr} {ds : List D} {R : D → Prop} {Rx : Er → Prop} (z : F_Uneven___repr__ C ds R Rx) : ∃ (r : D), ds = [r] ∧ (asP2 C ksUneven (fun w q => ∃ i : Int, w = .int i ∧ i.natAbs.log2 < 1920 ∧ R (.str (("Paper(" : Str) ++ (("uneven " : Str) ++ ((toString i : String) : Str)) ++ (")" : Str)))) r) := by
  unfold F_Uneven___repr__ at z
  split at z
  · exact ⟨_, rfl, z⟩
  · exact z.elim
def b_Uneven___repr__ (Dx : Dm K "__repr__" "Paper.__repr__" s_Uneven___repr__) : Binds K Dx.fd ["self"] [] := Dx.F.bindsN fun _ _ _ _ _ _ us hl => match us, hl with | [_], _ => rfl
def n_Uneven___repr__ : List Str := ["self"]
theorem sc_Uneven___repr__ : FnScope n_Uneven___repr__ ["self"] (defScope s_Uneven___repr__) := ⟨rfl, rfl, rfl, by decide +kernel, rfl, by decide +kernel, by decide +kernel⟩
theorem ok_Uneven___repr__ (T : Tx mg) (K_Uneven : Kx_Uneven K mg P.main.file) (hsup : mg "super" = none) (htop : (P.main.scope.names.lookup ("super" : Str)).isSome = false) : FnOk P w K mg base (L2.CX P w) 3 K_Uneven.D___repr__.f K_Uneven.D___repr__.fd ["self"] (spD (F_Uneven___repr__ K_Uneven.C)) := by
  have G_Uneven_told := ok_Uneven_told (P := P) (w := w) (base := base) T K_Uneven hsup htop
  refine fn_d K_Uneven.D___repr__.F sc_Uneven___repr__ (fun ds R Rx hs0 => ?_) (fun cdv A outer s H E hr => have hu := hr.units
    (ds_one (s_ret (d_joined (dj_cons d_str (dj_cons (d_fmt (d_meth0 (d_var 0) K_Uneven.cls K_Uneven.h_told G_Uneven_told (hr.mono (by decide)) (b_Uneven_told K_Uneven.D_told) pass_d)) (dj_cons d_str dj_nil)))))) ) fun ds R Rx hs0 => ?_
  · obtain ⟨_, rfl, _⟩ := F_Uneven___repr___of hs0
    rfl
  · obtain ⟨r, rfl, hs⟩ := F_Uneven___repr___of hs0
    clear hs0
    simp only [n_Uneven___repr__]
    walk_at "dg"
    obtain ⟨w, q, rfl, i, rfl, hi, hR⟩ := asP2_of hs
    walk_at "dg"
    have l1 : (Str.ofString "Paper(").length = 6 := by decide +kernel
    have l2 : (Str.ofString ")").length = 1 := by decide +kernel
    have l4 : (Str.ofString "uneven ").length = 7 := by decide +kernel
    have l3 := tlen hi
    have l5 := strLen_append (Str.ofString "uneven ") (Str.ofString (toString i))
    rw [show Str.empty ++ Str.ofString "Paper(" = Str.ofString "Paper(" by decide +kernel]
    refine ⟨by omega, hi, by omega, by rw [strLen_append]; omega, by rw [strLen_append, strLen_append]; omega, hR⟩
def asP0 (C : Addr) (R : Prop) : D → Prop
  | .obj C' ks' xs' => C' = C ∧ ks' = [] ∧ xs' = [] ∧ R
  | _ => False
theorem w_asP0 {C : Addr} {R : Prop} : asP0 C R (.obj C [] []) = R := by simp [asP0]
theorem asP0_of {C : Addr} {R : Prop} {d : D} (h : asP0 C R d) : d = .obj C [] [] ∧ R := by
  cases d <;> try exact h.elim
  obtain ⟨rfl, rfl, rfl, h⟩ := h
  exact ⟨rfl, h⟩
theorem fld_nil {f : Str} : fld [] [] f = none := rfl
def dgN15 : Array Lean.Name := dgN14 ++ #[`F_Uneven___bool___is, `F_Uneven___repr___is, `w_asP0, `fld_nil]
local macro_rules | `(tactic| walk_at "dg") => do let xs ← dgN15.mapM fun n => `(Lean.Parser.Tactic.simpLemma| $(Lean.mkIdent n):term); `(tactic| simp only [$xs,*, List.getElem?_cons_zero, List.getElem?_cons_succ])
def F_Paper_told (C : Addr) : Spec
  | [r], R, Rx => asP0 C (R (.str "open")) r
  | _, _, _ => False
theorem F_Paper_told_is {C : Addr} {r : D} {R : D → Prop} {Rx : Er → Prop} : F_Paper_told C [r] R Rx = (asP0 C (R (.str "open")) r) := rfl
theorem F_Paper_told_of {C : Addr} {ds : List D} {R : D → Prop} {Rx : Er → Prop} (z : F_Paper_told C ds R Rx) : ∃ (r : D), ds = [r] ∧ (asP0 C (R (.str "open")) r) := by
  unfold F_Paper_told at z
  split at z
  · exact ⟨_, rfl, z⟩
  · exact z.elim
def b_Paper_told (Dx : Dm K "told" "Paper.told" s_Paper_told) : Binds K Dx.fd ["self"] [] := Dx.F.bindsN fun _ _ _ _ _ _ us hl => match us, hl with | [_], _ => rfl
def n_Paper_told : List Str := ["self"]
theorem sc_Paper_told : FnScope n_Paper_told ["self"] (defScope s_Paper_told) := ⟨rfl, rfl, rfl, by decide +kernel, rfl, by decide +kernel, by decide +kernel⟩
theorem ok_Paper_told (T : Tx mg) (K_Paper : Kx_Paper K mg) : FnOk P w K mg base (L2.CX P w) 1 K_Paper.D_told.f K_Paper.D_told.fd ["self"] (spD (F_Paper_told K_Paper.C)) := by

  refine fn_d K_Paper.D_told.F sc_Paper_told (fun ds R Rx hs0 => ?_) (fun cdv A outer s H E hr => have hu := hr.units
    (ds_one (s_ret (d_conS (d_var 0) K_Paper.cls K_Paper.c_KIND))) ) fun ds R Rx hs0 => ?_
  · obtain ⟨_, rfl, _⟩ := F_Paper_told_of hs0
    rfl
  · obtain ⟨r, rfl, hs⟩ := F_Paper_told_of hs0
    clear hs0
    simp only [n_Paper_told]
    walk_at "dg"
    obtain ⟨rfl, hR⟩ := asP0_of hs
    walk_at "dg"
    exact hR
def F_Paper_holds (C : Addr) : Spec
  | [r, q], R, Rx => asP0 C (R (.bl false)) r
  | _, _, _ => False
theorem F_Paper_holds_is {C : Addr} {r : D} {q : D} {R : D → Prop} {Rx : Er → Prop} : F_Paper_holds C [r, q] R Rx = (asP0 C (R (.bl false)) r) := rfl
theorem F_Paper_holds_of {C : Addr} {ds : List D} {R : D → Prop} {Rx : Er → Prop} (z : F_Paper_holds C ds R Rx) : ∃ (r : D) (q : D), ds = [r, q] ∧ (asP0 C (R (.bl false)) r) := by
  unfold F_Paper_holds at z
  split at z
  · exact ⟨_, _, rfl, z⟩
  · exact z.elim
def b_Paper_holds (Dx : Dm K "holds" "Paper.holds" s_Paper_holds) : Binds K Dx.fd ["self", "row"] [] := Dx.F.bindsN fun _ _ _ _ _ _ us hl => match us, hl with | [_, _], _ => rfl
def n_Paper_holds : List Str := ["self", "row"]
theorem sc_Paper_holds : FnScope n_Paper_holds ["self", "row"] (defScope s_Paper_holds) := ⟨rfl, rfl, rfl, by decide +kernel, rfl, by decide +kernel, by decide +kernel⟩
theorem ok_Paper_holds (T : Tx mg) (K_Paper : Kx_Paper K mg) : FnOk P w K mg base (L2.CX P w) 1 K_Paper.D_holds.f K_Paper.D_holds.fd ["self", "row"] (spD (F_Paper_holds K_Paper.C)) := by

  refine fn_d K_Paper.D_holds.F sc_Paper_holds (fun ds R Rx hs0 => ?_) (fun cdv A outer s H E hr => have hu := hr.units
    (ds_one (s_ret d_bl)) ) fun ds R Rx hs0 => ?_
  · obtain ⟨_, _, rfl, _⟩ := F_Paper_holds_of hs0
    rfl
  · obtain ⟨r, q, rfl, hs⟩ := F_Paper_holds_of hs0
    clear hs0
    simp only [n_Paper_holds]
    walk_at "dg"
    obtain ⟨rfl, hR⟩ := asP0_of hs
    exact hR
def F_Paper___bool__ (C : Addr) : Spec
  | [r], R, Rx => asP0 C (R (.bl false)) r
  | _, _, _ => False
theorem F_Paper___bool___is {C : Addr} {r : D} {R : D → Prop} {Rx : Er → Prop} : F_Paper___bool__ C [r] R Rx = (asP0 C (R (.bl false)) r) := rfl
theorem F_Paper___bool___of {C : Addr} {ds : List D} {R : D → Prop} {Rx : Er → Prop} (z : F_Paper___bool__ C ds R Rx) : ∃ (r : D), ds = [r] ∧ (asP0 C (R (.bl false)) r) := by
  unfold F_Paper___bool__ at z
  split at z
  · exact ⟨_, rfl, z⟩
  · exact z.elim
def b_Paper___bool__ (Dx : Dm K "__bool__" "Paper.__bool__" s_Paper___bool__) : Binds K Dx.fd ["self"] [] := Dx.F.bindsN fun _ _ _ _ _ _ us hl => match us, hl with | [_], _ => rfl
def n_Paper___bool__ : List Str := ["self"]
theorem sc_Paper___bool__ : FnScope n_Paper___bool__ ["self"] (defScope s_Paper___bool__) := ⟨rfl, rfl, rfl, by decide +kernel, rfl, by decide +kernel, by decide +kernel⟩
theorem ok_Paper___bool__ (T : Tx mg) (K_Paper : Kx_Paper K mg) : FnOk P w K mg base (L2.CX P w) 1 K_Paper.D___bool__.f K_Paper.D___bool__.fd ["self"] (spD (F_Paper___bool__ K_Paper.C)) := by

  refine fn_d K_Paper.D___bool__.F sc_Paper___bool__ (fun ds R Rx hs0 => ?_) (fun cdv A outer s H E hr => have hu := hr.units
    (ds_one (s_ret (d_callT b_bool T.m_bool PyProof.Rows.boot_bool (da_cons (d_conB (d_var 0) K_Paper.cls K_Paper.c_GOOD) da_nil)))) ) fun ds R Rx hs0 => ?_
  · obtain ⟨_, rfl, _⟩ := F_Paper___bool___of hs0
    rfl
  · obtain ⟨r, rfl, hs⟩ := F_Paper___bool___of hs0
    clear hs0
    simp only [n_Paper___bool__]
    walk_at "dg"
    obtain ⟨rfl, hR⟩ := asP0_of hs
    walk_at "dg"
    exact hR
def F_Paper___repr__ (C : Addr) : Spec
  | [r], R, Rx => asP0 C (R (.str "Paper(open)")) r
  | _, _, _ => False
theorem F_Paper___repr___is {C : Addr} {r : D} {R : D → Prop} {Rx : Er → Prop} : F_Paper___repr__ C [r] R Rx = (asP0 C (R (.str "Paper(open)")) r) := rfl
theorem F_Paper___repr___of {C : Addr} {ds : List D} {R : D → Prop} {Rx : Er → Prop} (z : F_Paper___repr__ C ds R Rx) : ∃ (r : D), ds = [r] ∧ (asP0 C (R (.str "Paper(open)")) r) := by
  unfold F_Paper___repr__ at z
  split at z
  · exact ⟨_, rfl, z⟩
  · exact z.elim
def b_Paper___repr__ (Dx : Dm K "__repr__" "Paper.__repr__" s_Paper___repr__) : Binds K Dx.fd ["self"] [] := Dx.F.bindsN fun _ _ _ _ _ _ us hl => match us, hl with | [_], _ => rfl
def n_Paper___repr__ : List Str := ["self"]
theorem sc_Paper___repr__ : FnScope n_Paper___repr__ ["self"] (defScope s_Paper___repr__) := ⟨rfl, rfl, rfl, by decide +kernel, rfl, by decide +kernel, by decide +kernel⟩
def dgN16 : Array Lean.Name := dgN15 ++ #[`F_Paper_told_is, `F_Paper_holds_is, `F_Paper___bool___is, `F_Paper___repr___is]
local macro_rules | `(tactic| walk_at "dg") => do let xs ← dgN16.mapM fun n => `(Lean.Parser.Tactic.simpLemma| $(Lean.mkIdent n):term); `(tactic| simp only [$xs,*, List.getElem?_cons_zero, List.getElem?_cons_succ])
theorem ok_Paper___repr__ (T : Tx mg) (K_Paper : Kx_Paper K mg) : FnOk P w K mg base (L2.CX P w) 3 K_Paper.D___repr__.f K_Paper.D___repr__.fd ["self"] (spD (F_Paper___repr__ K_Paper.C)) := by
  have G_Paper_told := ok_Paper_told (P := P) (w := w) (base := base) T K_Paper
  refine fn_d K_Paper.D___repr__.F sc_Paper___repr__ (fun ds R Rx hs0 => ?_) (fun cdv A outer s H E hr => have hu := hr.units
    (ds_one (s_ret (d_joined (dj_cons d_str (dj_cons (d_fmt (d_meth0 (d_var 0) K_Paper.cls K_Paper.h_told G_Paper_told (hr.mono (by decide)) (b_Paper_told K_Paper.D_told) pass_d)) (dj_cons d_str dj_nil)))))) ) fun ds R Rx hs0 => ?_
  · obtain ⟨_, rfl, _⟩ := F_Paper___repr___of hs0
    rfl
  · obtain ⟨r, rfl, hs⟩ := F_Paper___repr___of hs0
    clear hs0
    simp only [n_Paper___repr__]
    walk_at "dg"
    obtain ⟨rfl, hR⟩ := asP0_of hs
    walk_at "dg"
    have e : Str.empty ++ Str.ofString "Paper(" ++ Str.ofString "open" ++ Str.ofString ")" = Str.ofString "Paper(open)" := by decide +kernel
    rw [e]
    exact ⟨by decide +kernel, by decide +kernel, by decide +kernel, by decide +kernel, hR⟩
local macro_rules | `(tactic| walk_at "rk") => `(tactic| first
  | assumption
  | (refine rok_app ?_ ?_ ?_ <;> first | walk_at "rk" | (simp only [List.length_append, List.length_reverse, List.length_map, List.length_replicate]; omega))
  | (refine rok_rev ?_; walk_at "rk")
  | (refine rok_map ?_ _ (fun t => fmod_in (by assumption)); walk_at "rk")
  | omega
  | decide
  | (refine log_lt (k := 80) ?_ (by decide) (by decide); omega))
local macro_rules | `(tactic| walk_at "fin") => `(tactic| ((repeat' (first | (with_reducible assumption) | (with_reducible refine And.intro ?_ ?_) | (with_reducible intro _))); all_goals first | (with_reducible assumption) | omega | contradiction | trivial))
local macro_rules | `(tactic| walk_at "cj") => `(tactic| repeat' (refine And.intro (by walk_at "rk") ?_))
local macro_rules | `(tactic| walk_at "dg") => do let xs ← dgN16.mapM fun n => `(Lean.Parser.Tactic.simpLemma| $(Lean.mkIdent n):term); `(tactic| simp only [$xs,*, List.getElem?_cons_zero, List.getElem?_cons_succ])
def F_Row___len__ (C : Addr) : Spec
  | [r], R, _ => asRow C (fun _ ts => ts.length ≤ 2000 ∧ R (.int ts.length)) r
  | _, _, _ => False
theorem F_Row___len___is {C : Addr} {r : D} {R : D → Prop} {Rx : Er → Prop} : F_Row___len__ C [r] R Rx = asRow C (fun _ ts => ts.length ≤ 2000 ∧ R (.int ts.length)) r := rfl
def b_Row___len__ (Dx : Dm K "__len__" "Row.__len__" s_Row___len__) : Binds K Dx.fd ["self"] [] := Dx.F.bindsN fun _ _ _ _ _ _ us hl => match us, hl with | [_], _ => rfl
def n_Row___len__ : List Str := ["self"]
theorem sc_Row___len__ : FnScope n_Row___len__ ["self"] (defScope s_Row___len__) := ⟨rfl, rfl, rfl, by decide +kernel, rfl, by decide +kernel, by decide +kernel⟩
theorem ok_Row___len__ (T : Tx mg) (K_Row : Kx_Row K mg) : FnOk P w K mg base (L2.CX P w) 1 K_Row.D___len__.f K_Row.D___len__.fd ["self"] (spD (F_Row___len__ K_Row.C)) := by
  refine fn_d K_Row.D___len__.F sc_Row___len__ (fun ds R Rx h => ?_) (fun cdv A outer s H E hr => (ds_one (s_ret (d_callB b_len T.m_len boot_len (da_cons (d_fld (d_var 0) K_Row.cls K_Row.n_own_turns) da_nil)))) ) fun ds R Rx h => ?_
  · match ds, h with
    | [r], h => rfl
  · match ds, h with
    | [r], h =>
      obtain ⟨k, ts, rfl, hl, hR⟩ := asRow_of h
      simp only [n_Row___len__]
      walk_at "dg"
      exact hR
/-- one list of quotients is right -/
def evenOne (ts : List Int) (n : Nat) (k : Int) : D → Bool
  | .lst ys => match asInts ys with
    | some ns => decide (ns.length + n = ts.length) && decide (tstN n ns = part ts k)
    | none => false
  | _ => false
def evenB (h : Int) (ts : List Int) : D → D → Bool
  | .int n, .lst qs => (decide (1 ≤ n) && decide (n ≤ (ts.length : Int) - 1)) && (decide ((qs.length : Int) = h - 1) && (List.range qs.length).all fun i => evenOne ts n.toNat ((i : Int) + 1) (qs.getD i .non))
  | _, _ => false
/-- lists to be looked at: no tuples, not too long -/
def Flat1 : D → Prop
  | .lst xs => datL xs = true ∧ xs.length ≤ 5000
  | .tup _ => False
  | x => x.dat = true
def Flat2 : D → Prop
  | .lst xs => datL xs = true ∧ xs.length ≤ 100000 ∧ ∀ x ∈ xs, Flat1 x
  | .tup _ => False
  | x => x.dat = true
theorem Flat1.dat {x : D} (h : Flat1 x) : x.dat = true := by
  cases x <;> first | exact h | exact h.1 | exact h.elim
theorem Flat2.dat {x : D} (h : Flat2 x) : x.dat = true := by
  cases x <;> first | exact h | exact h.1 | exact h.elim
theorem asInts_none {xs : List D} (h : xs.all isInt = false) : asInts xs = none := by
  cases e : asInts xs with
  | none => rfl
  | some ns =>
    rw [asInts_eq e, all_ints] at h
    cases h
def dgN17 : Array Lean.Name := dgN16 ++ #[`F_Row___len___is]
local macro_rules | `(tactic| walk_at "dg") => do let xs ← dgN17.mapM fun n => `(Lean.Parser.Tactic.simpLemma| $(Lean.mkIdent n):term); `(tactic| simp only [$xs,*, List.getElem?_cons_zero, List.getElem?_cons_succ])
def F_Even_holds (C CR : Addr) : Spec
  | [p, r], R, Rx => asP2 C ksEven (fun w q => asRow CR (fun h ts => RowOk h ts ∧ w.dat = true ∧ Flat2 q ∧ R (.bl (evenB h ts w q))) r) p
  | _, _, _ => False
theorem F_Even_holds_is {C CR : Addr} {p : D} {r : D} {R : D → Prop} {Rx : Er → Prop} : F_Even_holds C CR [p, r] R Rx = (asP2 C ksEven (fun w q => asRow CR (fun h ts => RowOk h ts ∧ w.dat = true ∧ Flat2 q ∧ R (.bl (evenB h ts w q))) r) p) := rfl
theorem F_Even_holds_of {C CR : Addr} {ds : List D} {R : D → Prop} {Rx : Er → Prop} (z : F_Even_holds C CR ds R Rx) : ∃ (p : D) (r : D), ds = [p, r] ∧ (asP2 C ksEven (fun w q => asRow CR (fun h ts => RowOk h ts ∧ w.dat = true ∧ Flat2 q ∧ R (.bl (evenB h ts w q))) r) p) := by
  unfold F_Even_holds at z
  split at z
  · exact ⟨_, _, rfl, z⟩
  · exact z.elim
def b_Even_holds (Dx : Dm K "holds" "Even.holds" s_Even_holds) : Binds K Dx.fd ["self", "row"] [] := Dx.F.bindsN fun _ _ _ _ _ _ us hl => match us, hl with | [_, _], _ => rfl
def n_Even_holds : List Str := ["self", "row", "hand", "numbers", "product", "step"]
theorem sc_Even_holds : FnScope n_Even_holds ["self", "row"] (defScope s_Even_holds) := ⟨rfl, rfl, rfl, by decide +kernel, rfl, by decide +kernel, by decide +kernel⟩
theorem ok_Even_holds (T : Tx mg) (K_Even : Kx_Even K mg P.main.file) (K_Row : Kx_Row K mg) (D_is_number : Df K mg "is_number" s_is_number) (D_are_numbers : Df K mg "are_numbers" s_are_numbers) (D_times_step : Df K mg "times_step" s_times_step) (D_parting : Df K mg "parting" s_parting) : FnOk P w K mg base (L2.CX P w) 4 K_Even.D_holds.f K_Even.D_holds.fd ["self", "row"] (spD (F_Even_holds K_Even.C K_Row.C)) := by
  have G_is_number := ok_is_number (P := P) (w := w) (base := base) D_is_number T.m_isinstance T.m_int T.m_bool
  have G_Row___len__ := ok_Row___len__ (P := P) (w := w) (base := base) T K_Row
  have G_are_numbers := ok_are_numbers (P := P) (w := w) (base := base) T D_are_numbers
  have G_times_step := ok_times_step (P := P) (w := w) (base := base) T D_times_step
  have G_parting := ok_parting (P := P) (w := w) (base := base) T K_Row D_parting
  refine fn_d K_Even.D_holds.F sc_Even_holds (fun ds R Rx hs0 => ?_) (fun cdv A outer s H E hr => have hu := hr.units
    (ds_cons (s_if (dw_pt (dw_or (dt_not (dt_tru (d_call G_is_number (hr.mono (by decide)) D_is_number.g D_is_number.F.kp (b_is_number D_is_number) .nil dfR_nil pass_d (da_cons (d_fld (d_var 0) K_Even.cls K_Even.n_own_wanted) (da_cons d_int (da_cons (d_sub (d_callB (b_lenOw K_Row.o___len__ G_Row___len__ (b_Row___len__ K_Row.D___len__) (hr.mono (by decide))) T.m_len boot_len (da_cons (d_var 1) da_nil)) d_int) da_nil)))))) (dw_or1 (dt_not (dt_tru (d_callB b_isi T.m_isinstance PyProof.Rows.boot_isinstance (da_cons (d_fld (d_var 0) K_Even.cls K_Even.n_own_quotients) (da_cons (d_tup (da_cons (d_bty T.m_list PyProof.Rows.boot_list) (da_cons (d_bty T.m_tuple PyProof.Rows.boot_tuple) da_nil))) da_nil)))))))) (ds_one (s_ret d_bl)) ds_nil)
    (ds_cons (s_if (dt_cmp (c_ne hu) (d_callB b_len T.m_len boot_len (da_cons (d_fld (d_var 0) K_Even.cls K_Even.n_own_quotients) da_nil)) (d_sub (d_fld (d_var 1) K_Row.cls K_Row.n_hands) d_int) (nomark _)) (ds_one (s_ret d_bl)) ds_nil)
    (ds_cons (s_for (passes_of rfl) rfl (i_enumK (da_cons (d_fld (d_var 0) K_Even.cls K_Even.n_own_quotients) da_nil) (dk_cons d_int dk_nil) T.m_enumerate) (g_tup (n := 2) rfl (gs_cons (g_name (i := 2) sc_Even_holds.nd) (gs_cons (g_name (i := 3) sc_Even_holds.nd) gs_nil)))
      (ds_cons (s_if (dw_pt (dw_or (dt_not (dt_tru (d_call G_are_numbers (hr.mono (by decide)) D_are_numbers.g D_are_numbers.F.kp (b_are_numbers D_are_numbers) .nil dfR_nil pass_d (da_cons (d_var 3) da_nil)))) (dw_or1 (dt_cmp (c_ne hu) (d_callB b_len T.m_len boot_len (da_cons (d_var 3) da_nil)) (d_sub (d_callB (b_lenOw K_Row.o___len__ G_Row___len__ (b_Row___len__ K_Row.D___len__) (hr.mono (by decide))) T.m_len boot_len (da_cons (d_var 1) da_nil)) (d_fld (d_var 0) K_Even.cls K_Even.n_own_wanted)) (nomark _))))) (ds_one (s_ret d_bl)) ds_nil)
        (ds_cons (s_set (i := 4) sc_Even_holds.nd (d_ofF (f_list (d_var 3) T.m_list)))
        (ds_cons (s_for (passes_of rfl) rfl (i_rg1 (da_cons (d_fld (d_var 0) K_Even.cls K_Even.n_own_wanted) da_nil) T.m_range) (g_name (i := 5) sc_Even_holds.nd)
          (ds_one (s_set (i := 4) sc_Even_holds.nd (d_ofN (d_callN G_times_step (hr.mono (by decide)) D_times_step.g D_times_step.F.kp (b_times_step D_times_step) .nil dfR_nil pass_d (da_cons (d_var 4) da_nil))))))
        (ds_one (s_if (dt_cmp (c_ne hu) (d_var 4) (d_call G_parting (hr.mono (by decide)) D_parting.g D_parting.F.kp (b_parting D_parting) .nil dfR_nil pass_d (da_cons (d_var 1) (da_cons (d_var 2) da_nil))) (nomark _)) (ds_one (s_ret d_bl)) ds_nil))))))
    (ds_one (s_ret d_bl))))) ) fun ds R Rx hs0 => ?_
  · obtain ⟨_, _, rfl, _⟩ := F_Even_holds_of hs0
    rfl
  · obtain ⟨p, r, rfl, hs⟩ := F_Even_holds_of hs0
    clear hs0
    simp only [n_Even_holds]
    walk_at "dg"
    obtain ⟨w, q, rfl, hs2⟩ := asP2_of hs
    obtain ⟨h, ts, rfl, ok, hw, hq, hR⟩ := asRow_of hs2
    clear hs hs2
    walk_at "dg"
    have o4 := ok.2.2.2.1
    refine ⟨o4, by omega, by omega, hw, fun z => ?_, fun z => ?_⟩
    · have e : evenB h ts w q = false := by
        cases w <;> try rfl
        cases q <;> try rfl
        simp only [isNum] at z
        simp only [evenB, z, Bool.false_and]
      rw [e] at hR
      exact hR
    obtain ⟨n, rfl, n1, n2⟩ := isNum_of z
    clear z hw
    have hd := hq.dat
    cases q <;> try exact (Bool.false_ne_true hd).elim
    case tup => exact False.elim hq
    case lst qs =>
      walk_at "dg"
      have no : ∀ i, i < qs.length → evenOne ts n.toNat ((i : Int) + 1) (qs.getD i .non) = false → R (.bl false) := fun i hi z => by
        have e : evenB h ts (.int n) (.lst qs) = false := by
          have : ((List.range qs.length).all fun i => evenOne ts n.toNat ((i : Int) + 1) (qs.getD i .non)) = false := by
            rw [← Bool.not_eq_true, List.all_eq_true]
            exact fun y => by rw [y i (List.mem_range.mpr hi)] at z; cases z
          simp only [evenB, this, Bool.and_false]
        rw [e] at hR
        exact hR
      refine ⟨fun z => ?_, fun z => ⟨fun i env => i ≤ qs.length ∧ (∀ j, j < i → evenOne ts n.toNat ((j : Int) + 1) (qs.getD j .non) = true) ∧ ∃ e2 e3 e4 e5 : Option DV, env = [some (.val (.obj K_Even.C ksEven [.int n, .lst qs])), some (.val (row K_Row.C h ts)), e2, e3, e4, e5], ⟨by omega, (fun j hj => by omega), _, _, _, _, rfl⟩, ?_, ?_⟩⟩
      · have e : evenB h ts (.int n) (.lst qs) = false := by simp only [evenB, decide_eq_false z, Bool.false_and, Bool.and_false]
        rw [e] at hR
        exact hR
      · rintro i d env e ⟨hi, ha, e2, e3, e4, e5, rfl⟩
        obtain ⟨x, ex, rfl⟩ := nums_get _ _ _ _ e
        have hi2 : i < qs.length := (List.getElem?_eq_some_iff.mp ex).1
        have gx : qs.getD i .non = x := by rw [List.getD, ex]; rfl
        have fx : Flat1 x := hq.2.2 x (List.mem_of_getElem? ex)
        have no := no i hi2
        rw [gx] at no
        walk_at "dg"
        have on : isNums x = false → evenOne ts n.toNat ((i : Int) + 1) x = false := fun z => by
          cases x <;> try rfl
          rename_i ys
          simp only [evenOne, asInts_none z]
        refine ⟨fx.dat, ?_, fun z => no (on z), fun z => ?_⟩
        · cases x <;> first | exact Nat.le_trans fx.2 (by decide) | exact fx.elim | exact Nat.zero_le _
        cases x <;> try exact (Bool.false_ne_true z).elim
        case tup => exact False.elim fx
        rename_i ys
        obtain ⟨ns, rfl⟩ := ints_of_all z
        walk_at "dg"
        have eo : evenOne ts n.toNat ((i : Int) + 1) (.lst (ns.map .int)) = (decide (ns.length + n.toNat = ts.length) && decide (tstN n.toNat ns = part ts ((i : Int) + 1))) := by
          simp only [evenOne, asInts_map]
        rw [eo] at no
        refine ⟨o4, by omega, by omega, fun z => no ?_, fun z => ⟨by omega, by omega, fun s env => s ≤ n.toNat ∧ ∃ e5 : Option DV, env = [some (.val (.obj K_Even.C ksEven [.int n, .lst qs])), some (.val (row K_Row.C h ts)), some (.val (.int (1 + (i : Int)))), some (.val (.lst (ns.map D.int))), some (.val (.lst ((tstN s ns).map D.int))), e5], ⟨by omega, _, rfl⟩, ?_, ?_⟩⟩
        · rw [decide_eq_false (by omega), Bool.false_and]
        · rintro s d env e ⟨hs, e5, rfl⟩
          obtain ⟨hs2, rfl⟩ := ups_at e
          walk_at "dg"
          refine ⟨by rw [tstN_length]; omega, by omega, ?_⟩
          rw [tstN_succ]
        · rintro env ⟨_, e5, rfl⟩
          walk_at "dg"
          refine ⟨ok, datL_ints, datL_ints, by have := depL_ints (ns := tstN n.toNat ns); omega, fun z2 => no ?_, fun z2 => ⟨by omega, fun j hj => ?_⟩⟩
          · rw [show (1 : Int) + i = i + 1 by omega] at z2
            rw [decide_eq_false z2, Bool.and_false]
          · by_cases y : j = i
            · subst y
              rw [show (1 : Int) + j = j + 1 by omega] at z2
              rw [gx, eo, Bool.and_eq_true, decide_eq_true_eq, decide_eq_true_eq]
              exact ⟨by omega, z2⟩
            · exact ha j (by omega)
      · rintro env ⟨hi, ha, e2, e3, e4, e5, rfl⟩
        rw [nums_length] at ha
        have e : evenB h ts (.int n) (.lst qs) = true := by
          simp only [evenB, Bool.and_eq_true, decide_eq_true_eq, List.all_eq_true]
          exact ⟨⟨n1, n2⟩, z, fun i mi => ha i (List.mem_range.mp mi)⟩
        rw [e] at hR
        exact hR
    all_goals
      walk_at "dg"
      exact hR
def dgN18 : Array Lean.Name := dgN17 ++ #[`F_Even_holds_is]
local macro_rules | `(tactic| walk_at "dg") => do let xs ← dgN18.mapM fun n => `(Lean.Parser.Tactic.simpLemma| $(Lean.mkIdent n):term); `(tactic| simp only [$xs,*, List.getElem?_cons_zero, List.getElem?_cons_succ])
def F_Row_totals (C CW : Addr) : Spec
  | [r, x], R, Rx => asRow C (fun h ts => RowOk h ts ∧ x.dat = true ∧ lenD x ≤ 100000 ∧ (∀ xs, x = .tup xs → isNums x = false ∨ lenD x ≠ ts.length) ∧ (∀ ws : List Int, x = .lst (ws.map .int) → ws.length = ts.length → R (.lst ((totL h ts ws).map .int))) ∧ ((isNums x = false ∨ lenD x ≠ ts.length) → Rx (eIW CW x))) r
  | _, _, _ => False
theorem F_Row_totals_is {C CW : Addr} {r : D} {x : D} {R : D → Prop} {Rx : Er → Prop} : F_Row_totals C CW [r, x] R Rx = (asRow C (fun h ts => RowOk h ts ∧ x.dat = true ∧ lenD x ≤ 100000 ∧ (∀ xs, x = .tup xs → isNums x = false ∨ lenD x ≠ ts.length) ∧ (∀ ws : List Int, x = .lst (ws.map .int) → ws.length = ts.length → R (.lst ((totL h ts ws).map .int))) ∧ ((isNums x = false ∨ lenD x ≠ ts.length) → Rx (eIW CW x))) r) := rfl
theorem F_Row_totals_of {C CW : Addr} {ds : List D} {R : D → Prop} {Rx : Er → Prop} (z : F_Row_totals C CW ds R Rx) : ∃ (r : D) (x : D), ds = [r, x] ∧ (asRow C (fun h ts => RowOk h ts ∧ x.dat = true ∧ lenD x ≤ 100000 ∧ (∀ xs, x = .tup xs → isNums x = false ∨ lenD x ≠ ts.length) ∧ (∀ ws : List Int, x = .lst (ws.map .int) → ws.length = ts.length → R (.lst ((totL h ts ws).map .int))) ∧ ((isNums x = false ∨ lenD x ≠ ts.length) → Rx (eIW CW x))) r) := by
  unfold F_Row_totals at z
  split at z
  · exact ⟨_, _, rfl, z⟩
  · exact z.elim
def b_Row_totals (Dx : Dm K "totals" "Row.totals" s_Row_totals) : Binds K Dx.fd ["self", "worths"] [] := Dx.F.bindsN fun _ _ _ _ _ _ us hl => match us, hl with | [_, _], _ => rfl
def n_Row_totals : List Str := ["self", "worths", "found", "hand", "worth"]
theorem sc_Row_totals : FnScope n_Row_totals ["self", "worths"] (defScope s_Row_totals) := ⟨rfl, rfl, rfl, by decide +kernel, rfl, by decide +kernel, by decide +kernel⟩
theorem ok_Row_totals (T : Tx mg) (K_Row : Kx_Row K mg) (X_InvalidWorths : Xe K mg P.main.file "InvalidWorths" s_InvalidWorths___init__) (D_are_numbers : Df K mg "are_numbers" s_are_numbers) (hsup : mg "super" = none) (htop : (P.main.scope.names.lookup ("super" : Str)).isSome = false) : FnOk P w K mg base (L2.CX P w) 3 K_Row.D_totals.f K_Row.D_totals.fd ["self", "worths"] (spN (F_Row_totals K_Row.C X_InvalidWorths.C)) := by
  have G_are_numbers := ok_are_numbers (P := P) (w := w) (base := base) T D_are_numbers
  have GX_InvalidWorths := ok_InvalidWorths___init__ (P := P) (w := w) (base := base) X_InvalidWorths hsup htop
  refine fn_n K_Row.D_totals.F sc_Row_totals (fun ds R Rx hs0 => ?_) (fun cdv A outer s H E hr => have hu := hr.units
    (ds_cons (s_if (dw_pt (dw_or (dt_not (dt_tru (d_call G_are_numbers (hr.mono (by decide)) D_are_numbers.g D_are_numbers.F.kp (b_are_numbers D_are_numbers) .nil dfR_nil pass_d (da_cons (d_var 1) da_nil)))) (dw_or1 (dt_cmp (c_ne hu) (d_callB b_len T.m_len boot_len (da_cons (d_var 1) da_nil)) (d_callB b_len T.m_len boot_len (da_cons (d_fld (d_var 0) K_Row.cls K_Row.n_own_turns) da_nil)) (nomark _))))) (ds_one (s_raise X_InvalidWorths.e.ox X_InvalidWorths.e.iC X_InvalidWorths.e.tI (by decide) (by decide) GX_InvalidWorths (hr.mono (by decide)) (b_InvalidWorths___init__ X_InvalidWorths) passL X_InvalidWorths.g rfl (takes_of rfl rfl rfl rfl) (da_cons (d_var 1) da_nil))) ds_nil)
    (ds_cons (s_setO (i := 2) sc_Row_totals.nd (f_mul (d_ofF (f_lst (da_cons d_int da_nil))) (d_fld (d_var 0) K_Row.cls K_Row.n_hands)))
    (ds_cons (s_for (passes_of rfl) rfl (i_zip (da_cons (d_fld (d_var 0) K_Row.cls K_Row.n_own_turns) (da_cons (d_var 1) da_nil)) T.m_zip) (g_tup (n := 2) rfl (gs_cons (g_name (i := 3) sc_Row_totals.nd) (gs_cons (g_name (i := 4) sc_Row_totals.nd) gs_nil)))
      (ds_one (s_augO 2 ip_add (d_var 3) (d_var 4))))
    (ds_one (s_retO 2))))) ) fun ds R Rx hs0 => ?_
  · obtain ⟨_, _, rfl, _⟩ := F_Row_totals_of hs0
    rfl
  · obtain ⟨r, x, rfl, hs⟩ := F_Row_totals_of hs0
    clear hs0
    simp only [n_Row_totals]
    walk_at "dg"
    obtain ⟨h, ts, rfl, ok, hd, hl, ht, hR, hx⟩ := asRow_of hs
    clear hs
    walk_at "dg"
    refine ⟨hd, hl, fun z => hx (.inl z), fun z => ?_⟩
    cases x <;> try exact (Bool.false_ne_true z).elim
    case tup xs =>
      walk_at "dg"
      have y := (ht xs rfl).resolve_left (by rw [z]; decide)
      exact ⟨fun _ => hx (.inr y), fun y2 => absurd y2 (by have y3 : xs.length ≠ ts.length := y; omega)⟩
    rename_i xs
    obtain ⟨ws, rfl⟩ := ints_of_all z
    have hl2 : ws.length ≤ 100000 := by have : (ws.map D.int).length ≤ 100000 := hl; rw [List.length_map] at this; exact this
    walk_at "dg"
    have hR := hR ws rfl
    obtain ⟨o1, o2, o3, o4, o5⟩ := ok
    have e0 : (List.replicate h.toNat [D.int 0]).flatten = (totL h (ts.take 0) (ws.take 0)).map D.int := by
      rw [List.flatten_replicate_singleton]
      unfold totL tot
      apply List.ext_getElem?
      intro i
      by_cases hi : i < h.toNat
      · simp [hi]
      · simp [hi]
    refine ⟨fun y => hx (.inr (show (ws.map D.int).length ≠ ts.length by rw [List.length_map]; omega)), fun y => ⟨by omega, by omega, by omega, fun i env => i ≤ ts.length ∧ ∃ e3 e4 : Option DV, env = [some (.val (row K_Row.C h ts)), some (.val (.lst (ws.map D.int))), some (.own ((totL h (ts.take i) (ws.take i)).map D.int)), e3, e4], ⟨by omega, _, _, by rw [e0]⟩, ?_, ?_⟩⟩
    · rintro i d env e ⟨hi, e3, e4, rfl⟩
      obtain ⟨h1, h2, rfl⟩ := pairs_ints e
      have tm : ts.getD i 0 ∈ ts := by
        simp only [List.getD, List.getElem?_eq_getElem h1]
        exact List.getElem_mem h1
      obtain ⟨t0, t1⟩ := o5 _ tm
      walk_at "dg"
      have ht : (ts.getD i 0).toNat < h.toNat := by omega
      have lt : (totL h (ts.take i) (ws.take i)).length = h.toNat := by unfold totL; simp
      refine ⟨(ts.getD i 0).toNat, ?_, tot (ts.take i) (ws.take i) (ts.getD i 0), ?_, by omega, ?_⟩
      · unfold ixN
        rw [lt, if_pos t0, if_pos (by omega)]
      · unfold totL
        simp only [List.getElem?_map, List.getElem?_range ht, Option.map_some]
        rw [Int.toNat_of_nonneg t0]
      · rw [show totL h (ts.take i) (ws.take i) = (List.range h.toNat).map fun (k : Nat) => tot (ts.take i) (ws.take i) (k : Int) from rfl, ← List.map_set, totL_set t0 t1]
        congr 1
        unfold totL
        refine List.map_congr_left fun k hk => ?_
        have hk := List.mem_range.mp hk
        rw [tot_succ h1 h2]
        by_cases z : k = (ts.getD i 0).toNat
        · have z2 : ts.getD i 0 = (k : Int) := by omega
          rw [if_pos z, if_pos z2, z2]
        · have z2 : ¬ ts.getD i 0 = (k : Int) := by omega
          rw [if_neg z, if_neg z2, Int.add_zero]
    · rintro env ⟨_, e3, e4, rfl⟩
      have hl : ws.length = ts.length := by omega
      have el : (pairs (ts.map D.int) (ws.map D.int)).length = ts.length := by rw [pairs_length, List.length_map, List.length_map, hl, Nat.min_self]
      rw [el, List.take_length, ← hl, List.take_length]
      walk_at "dg"
      exact hR hl
local macro_rules | `(tactic| walk_at "rk") => `(tactic| first
  | assumption
  | (refine rok_app ?_ ?_ ?_ <;> first | walk_at "rk" | (simp only [List.length_append, List.length_reverse, List.length_map, List.length_replicate]; omega))
  | (refine rok_rev ?_; walk_at "rk")
  | (refine rok_map ?_ _ (fun t => fmod_in (by assumption)); walk_at "rk")
  | omega
  | decide
  | (refine log_lt (k := 80) ?_ (by decide) (by decide); omega))
local macro_rules | `(tactic| walk_at "fin") => `(tactic| ((repeat' (first | (with_reducible assumption) | (with_reducible refine And.intro ?_ ?_) | (with_reducible intro _))); all_goals first | (with_reducible assumption) | omega | contradiction | trivial))
local macro_rules | `(tactic| walk_at "cj") => `(tactic| repeat' (refine And.intro (by walk_at "rk") ?_))
theorem nodup_two {out : List Int} (h : out.Nodup) {a : Int} (ha : ∀ k ∈ out, k = a) : out.length ≤ 1 := by
  match out, h, ha with
  | [], _, _ => simp
  | [x], _, _ => simp
  | x :: y :: r, h, ha =>
    have e1 := ha x (by simp)
    have e2 := ha y (by simp)
    rw [List.nodup_cons] at h
    exact absurd (by rw [e1, e2]; simp) h.1
/-- how many of a column differ -/
theorem out_len {out ns : List Int} (h : out.Nodup) (hm : ∀ k, k ∈ out ↔ k ∈ ns) (hn : ns ≠ []) : decide (1 < out.length) = !(ns.all fun x => x == ns.headD 0) := by
  rw [Bool.eq_iff_iff, decide_eq_true_eq, Bool.not_eq_true', ← Bool.not_eq_true, List.all_eq_true]
  constructor
  · intro h1 h2
    have := nodup_two h (a := ns.headD 0) fun k hk => by simpa using h2 k ((hm k).mp hk)
    omega
  · intro h1
    refine Nat.lt_of_not_le fun h2 => h1 fun x hx => ?_
    match out, h2 with
    | [], _ => exact nomatch (hm x).mpr hx
    | [y], _ =>
      have e1 := List.mem_singleton.mp ((hm x).mpr hx)
      have e2 := List.mem_singleton.mp ((hm (ns.headD 0)).mpr (by cases ns with | nil => exact absurd rfl hn | cons a r => simp))
      rw [e1, e2]
      exact beq_self_eq_true y
    | _ :: _ :: _, h2 => simp at h2
def difs : List Int → List Int
  | x :: y :: t => (x - y) :: difs (y :: t)
  | _ => []
theorem difs_length : ∀ ns : List Int, (difs ns).length = ns.length - 1
  | [] => rfl
  | [_] => rfl
  | x :: y :: t => by show (difs (y :: t)).length + 1 = _; rw [difs_length]; rfl
theorem difs_get : ∀ (ns : List Int) (k : Nat), k + 1 < ns.length → (difs ns).getD k 0 = ns.getD k 0 - ns.getD (k + 1) 0
  | [], _, h => absurd h (by simp)
  | [_], _, h => absurd h (by simp)
  | x :: y :: t, 0, _ => rfl
  | x :: y :: t, k + 1, h => by
    show (difs (y :: t)).getD k 0 = (y :: t).getD k 0 - (y :: t).getD (k + 1) 0
    exact difs_get (y :: t) k (by simpa using h)
def difI : Nat → List Int → List Int
  | 0, ns => ns
  | s + 1, ns => difs (difI s ns)
theorem difI_length (ns : List Int) : ∀ s, (difI s ns).length = ns.length - s
  | 0 => rfl
  | s + 1 => by show (difs (difI s ns)).length = _; rw [difs_length, difI_length]; omega
def dgN19 : Array Lean.Name := dgN18 ++ #[`F_Row_totals_is]
local macro_rules | `(tactic| walk_at "dg") => do let xs ← dgN19.mapM fun n => `(Lean.Parser.Tactic.simpLemma| $(Lean.mkIdent n):term); `(tactic| simp only [$xs,*, List.getElem?_cons_zero, List.getElem?_cons_succ])
def F_differences : Spec
  | [.lst xs], R, Rx => ∃ ns, asInts xs = some ns ∧ ns.length ≤ 1000 ∧ R (.lst ((difs ns).map .int))
  | _, _, _ => False
theorem F_differences_is {xs : List D} {R : D → Prop} {Rx : Er → Prop} : F_differences [.lst xs] R Rx = (∃ ns, asInts xs = some ns ∧ ns.length ≤ 1000 ∧ R (.lst ((difs ns).map .int))) := rfl
theorem F_differences_of {ds : List D} {R : D → Prop} {Rx : Er → Prop} (z : F_differences ds R Rx) : ∃ (xs : List D), ds = [.lst xs] ∧ (∃ ns, asInts xs = some ns ∧ ns.length ≤ 1000 ∧ R (.lst ((difs ns).map .int))) := by
  unfold F_differences at z
  split at z
  · exact ⟨_, rfl, z⟩
  · exact z.elim
def b_differences (Dx : Df K mg "differences" s_differences) : Binds K Dx.fd ["numbers"] [] := Dx.F.bindsN fun _ _ _ _ _ _ us hl => match us, hl with | [_], _ => rfl
def n_differences : List Str := ["numbers", "one", "other"]
theorem sc_differences : FnScope n_differences ["numbers"] (defScope s_differences) := ⟨rfl, rfl, rfl, by decide +kernel, rfl, by decide +kernel, by decide +kernel⟩
theorem ok_differences (T : Tx mg) (D_differences : Df K mg "differences" s_differences) : FnOk P w K mg base (L2.CX P w) 1 D_differences.f D_differences.fd ["numbers"] (spD F_differences) := by

  refine fn_d D_differences.F sc_differences (fun ds R Rx hs0 => ?_) (fun cdv A outer s H E hr => have hu := hr.units
    (ds_one (s_ret (d_ofF (f_lc rfl sc_differences.nd (i_zip (da_cons (d_var 0) (da_cons (d_slice (d_var 0) (do_some d_int) do_none) da_nil)) T.m_zip) (blkOk_by (own := [("one", 1), ("other", 2)]) (N := n_differences) (sc := defScope s_differences) (by decide +kernel)) (by decide) (fun _ _ _ _ _ => (g_tup (n := 2) rfl (gs_cons (g_name (i := 1) sc_differences.nd) (gs_cons (g_name (i := 2) sc_differences.nd) gs_nil)))) (fun _ _ _ _ _ => dts_nil) (fun _ _ _ _ _ => (d_sub (d_var 1) (d_var 2))))))) ) fun ds R Rx hs0 => ?_
  · obtain ⟨_, rfl, _⟩ := F_differences_of hs0
    rfl
  · obtain ⟨xs, rfl, hs⟩ := F_differences_of hs0
    clear hs0
    simp only [n_differences]
    walk_at "dg"
    obtain ⟨ns, e, hn, hR⟩ := hs
    obtain rfl := asInts_eq e
    rw [cutD_1, ← List.map_drop]
    refine LcP.idx (fun k => .int ((difs ns).getD k 0)) (by rw [pairs_length, sizeLine_eq]; simp; omega) (fun i d N e hN => ?_) ?_
    · obtain ⟨h1, h2, rfl⟩ := pairs_ints e
      walk_at "dl"
      rw [List.length_drop] at h2
      rw [difs_get ns i (by omega)] at hN
      have e3 : (ns.drop 1).getD i 0 = ns.getD (i + 1) 0 := by simp [List.getD, Nat.add_comm]
      rw [e3]
      exact hN
    · have e4 : (pairs (ns.map D.int) ((ns.drop 1).map D.int)).length = (difs ns).length := by rw [pairs_length, difs_length]; simp
      rw [e4, range_getD]
      exact hR
/-- the worths are of the power, fall and part the hands -/
def unevenB (h : Int) (ts : List Int) : D → D → Bool
  | .int n, .lst xs => (decide (0 ≤ n) && decide (n ≤ 10000000000000000000000000000000000000000)) && match asInts xs with
    | some ns => decide (ns.length = ts.length) && (!((difs ns).any fun x => decide (x < 0)) && (!((difI (min (n.toNat + 1) ns.length) ns).any fun x => x != 0) && !((totL h ts ns).all fun x => x == (totL h ts ns).headD 0)))
    | none => false
  | _, _ => false
def dgN20 : Array Lean.Name := dgN19 ++ #[`F_differences_is]
local macro_rules | `(tactic| walk_at "dg") => do let xs ← dgN20.mapM fun n => `(Lean.Parser.Tactic.simpLemma| $(Lean.mkIdent n):term); `(tactic| simp only [$xs,*, List.getElem?_cons_zero, List.getElem?_cons_succ])
def F_Uneven_holds (C CR : Addr) : Spec
  | [p, r], R, Rx => asP2 C ksUneven (fun w q => asRow CR (fun h ts => RowOk h ts ∧ ts.length ≤ 900 ∧ w.dat = true ∧ Flat1 q ∧ R (.bl (unevenB h ts w q))) r) p
  | _, _, _ => False
theorem F_Uneven_holds_is {C CR : Addr} {p : D} {r : D} {R : D → Prop} {Rx : Er → Prop} : F_Uneven_holds C CR [p, r] R Rx = (asP2 C ksUneven (fun w q => asRow CR (fun h ts => RowOk h ts ∧ ts.length ≤ 900 ∧ w.dat = true ∧ Flat1 q ∧ R (.bl (unevenB h ts w q))) r) p) := rfl
theorem F_Uneven_holds_of {C CR : Addr} {ds : List D} {R : D → Prop} {Rx : Er → Prop} (z : F_Uneven_holds C CR ds R Rx) : ∃ (p : D) (r : D), ds = [p, r] ∧ (asP2 C ksUneven (fun w q => asRow CR (fun h ts => RowOk h ts ∧ ts.length ≤ 900 ∧ w.dat = true ∧ Flat1 q ∧ R (.bl (unevenB h ts w q))) r) p) := by
  unfold F_Uneven_holds at z
  split at z
  · exact ⟨_, _, rfl, z⟩
  · exact z.elim
def b_Uneven_holds (Dx : Dm K "holds" "Uneven.holds" s_Uneven_holds) : Binds K Dx.fd ["self", "row"] [] := Dx.F.bindsN fun _ _ _ _ _ _ us hl => match us, hl with | [_, _], _ => rfl
def n_Uneven_holds : List Str := ["self", "row", "worths", "rest", "step", "number"]
theorem sc_Uneven_holds : FnScope n_Uneven_holds ["self", "row"] (defScope s_Uneven_holds) := ⟨rfl, rfl, rfl, by decide +kernel, rfl, by decide +kernel, by decide +kernel⟩
theorem ok_Uneven_holds (T : Tx mg) (K_Uneven : Kx_Uneven K mg P.main.file) (K_Row : Kx_Row K mg) (X_InvalidWorths : Xe K mg P.main.file "InvalidWorths" s_InvalidWorths___init__) (D_is_number : Df K mg "is_number" s_is_number) (D_are_numbers : Df K mg "are_numbers" s_are_numbers) (D_differences : Df K mg "differences" s_differences) (hsup : mg "super" = none) (htop : (P.main.scope.names.lookup ("super" : Str)).isSome = false) : FnOk P w K mg base (L2.CX P w) 4 K_Uneven.D_holds.f K_Uneven.D_holds.fd ["self", "row"] (spD (F_Uneven_holds K_Uneven.C K_Row.C)) := by
  have G_is_number := ok_is_number (P := P) (w := w) (base := base) D_is_number T.m_isinstance T.m_int T.m_bool
  have G_are_numbers := ok_are_numbers (P := P) (w := w) (base := base) T D_are_numbers
  have G_Row___len__ := ok_Row___len__ (P := P) (w := w) (base := base) T K_Row
  have G_differences := ok_differences (P := P) (w := w) (base := base) T D_differences
  have G_Row_totals := ok_Row_totals (P := P) (w := w) (base := base) T K_Row X_InvalidWorths D_are_numbers hsup htop
  refine fn_d K_Uneven.D_holds.F sc_Uneven_holds (fun ds R Rx hs0 => ?_) (fun cdv A outer s H E hr => have hu := hr.units
    (ds_cons (s_set (i := 2) sc_Uneven_holds.nd (d_fld (d_var 0) K_Uneven.cls K_Uneven.n_own_worths))
    (ds_cons (s_if (dw_pt (dw_or (dt_not (dt_tru (d_call G_is_number (hr.mono (by decide)) D_is_number.g D_is_number.F.kp (b_is_number D_is_number) .nil dfR_nil pass_d (da_cons (d_fld (d_var 0) K_Uneven.cls K_Uneven.n_own_power) (da_cons d_int (da_cons (d_pow d_int d_int) da_nil)))))) (dw_or (dt_not (dt_tru (d_call G_are_numbers (hr.mono (by decide)) D_are_numbers.g D_are_numbers.F.kp (b_are_numbers D_are_numbers) .nil dfR_nil pass_d (da_cons (d_var 2) da_nil)))) (dw_or1 (dt_cmp (c_ne hu) (d_callB b_len T.m_len boot_len (da_cons (d_var 2) da_nil)) (d_callB (b_lenOw K_Row.o___len__ G_Row___len__ (b_Row___len__ K_Row.D___len__) (hr.mono (by decide))) T.m_len boot_len (da_cons (d_var 1) da_nil)) (nomark _)))))) (ds_one (s_ret d_bl)) ds_nil)
    (ds_cons (s_if (dt_tru (d_callB (b_any rfl) T.m_any PyProof.Rows.boot_any (da_cons (d_ofF (f_lc rfl sc_Uneven_holds.nd (i_list (d_call G_differences (hr.mono (by decide)) D_differences.g D_differences.F.kp (b_differences D_differences) .nil dfR_nil pass_d (da_cons (d_var 2) da_nil))) (blkOk_by (own := [("number", 5)]) (N := n_Uneven_holds) (sc := defScope s_Uneven_holds) (by decide +kernel)) (by decide) (fun _ _ _ _ _ => (g_name (i := 5) sc_Uneven_holds.nd)) (fun _ _ _ _ _ => dts_nil) (fun _ _ _ _ _ => (d_cmp c_lt (d_var 5) d_int (nomark _))))) da_nil))) (ds_one (s_ret d_bl)) ds_nil)
    (ds_cons (s_set (i := 3) sc_Uneven_holds.nd (d_ofF (f_list (d_var 2) T.m_list)))
    (ds_cons (s_for (passes_of rfl) rfl (i_rg1 (da_cons (d_callB (b_min2 rfl) T.m_min PyProof.Rows.boot_min (da_cons (d_add (d_fld (d_var 0) K_Uneven.cls K_Uneven.n_own_power) d_int) (da_cons (d_callB b_len T.m_len boot_len (da_cons (d_var 2) da_nil)) da_nil))) da_nil) T.m_range) (g_name (i := 4) sc_Uneven_holds.nd)
      (ds_one (s_set (i := 3) sc_Uneven_holds.nd (d_call G_differences (hr.mono (by decide)) D_differences.g D_differences.F.kp (b_differences D_differences) .nil dfR_nil pass_d (da_cons (d_var 3) da_nil)))))
    (ds_one (s_ret (d_and (d_not (d_callB (b_anyI rfl) T.m_any PyProof.Rows.boot_any (da_cons (d_var 3) da_nil))) (d_one (d_cmp c_gt (d_lenSetL (d_ofN (d_methN (d_var 1) K_Row.cls K_Row.h_totals G_Row_totals (hr.mono (by decide)) (b_Row_totals K_Row.D_totals) pass_d (da_cons (d_var 2) da_nil))) T.m_len T.m_set) d_int (nomark _))))))))))) ) fun ds R Rx hs0 => ?_
  · obtain ⟨_, _, rfl, _⟩ := F_Uneven_holds_of hs0
    rfl
  · obtain ⟨p, r, rfl, hs⟩ := F_Uneven_holds_of hs0
    clear hs0
    simp only [n_Uneven_holds]
    walk_at "dg"
    obtain ⟨w, q, rfl, hs2⟩ := asP2_of hs
    obtain ⟨h, ts, rfl, ok, h9, hw, hq, hR⟩ := asRow_of hs2
    clear hs hs2
    walk_at "dg"
    have o4 := ok.2.2.2.1
    have hd := hq.dat
    refine ⟨by decide, hw, fun z => ?_, fun z => ?_⟩
    · have e : unevenB h ts w q = false := by
        cases w <;> try rfl
        cases q <;> try rfl
        simp only [isNum] at z
        simp only [unevenB, z, Bool.false_and]
      rw [e] at hR
      exact hR
    obtain ⟨n, rfl, n1, n2⟩ := isNum_of z
    clear z hw
    refine ⟨hd, ?_, fun z => ?_, fun z => ?_⟩
    · cases q <;> first | exact Nat.le_trans hq.2 (by decide) | exact hq.elim | exact Nat.zero_le _
    · have e : unevenB h ts (.int n) q = false := by
        cases q <;> try rfl
        simp only [unevenB, asInts_none z, Bool.and_false]
      rw [e] at hR
      exact hR
    cases q <;> try exact (Bool.false_ne_true z).elim
    case tup => exact False.elim hq
    rename_i xs
    obtain ⟨ns, rfl⟩ := ints_of_all z
    have eu : unevenB h ts (.int n) (.lst (ns.map .int)) = (decide (ns.length = ts.length) && (!((difs ns).any fun x => decide (x < 0)) && (!((difI (min (n.toNat + 1) ns.length) ns).any fun x => x != 0) && !((totL h ts ns).all fun x => x == (totL h ts ns).headD 0)))) := by
      simp only [unevenB, asInts_map, decide_eq_true n1, decide_eq_true n2, Bool.true_and]
    rw [eu] at hR
    have hz : ns.length ≤ 5000 := by have := hq.2; rw [List.length_map] at this; exact this
    walk_at "dg"
    refine ⟨o4, by omega, by omega, fun y => ?_, fun y => ⟨by omega, LcP.of (fun x => .bl (decide (x < 0))) (by rw [difs_length, sizeLine_eq]; omega) (fun j x N ex hN => ?_) ?_⟩⟩
    · rw [decide_eq_false (by omega), Bool.false_and] at hR
      exact hR
    · walk_at "dg"
      exact hN
    have y2 : ns.length = ts.length := by omega
    rw [decide_eq_true y2, Bool.true_and] at hR
    have eb : asBls ((difs ns).map fun x => D.bl (decide (x < 0))) = some ((difs ns).map fun x => decide (x < 0)) := by
      have := asBls_map ((difs ns).map fun x => decide (x < 0))
      rw [List.map_map] at this
      exact this
    refine ⟨_, eb, ?_⟩
    rw [show ((difs ns).map fun x => decide (x < 0)).any _root_.id = (difs ns).any fun x => decide (x < 0) by rw [List.any_map]; rfl]
    refine ⟨fun y => ?_, fun y => ?_⟩
    · rw [y] at hR
      exact hR
    rw [y] at hR
    have em : (if (ns.length : Int) < n + 1 then (ns.length : Int) else n + 1) = ((min (n.toNat + 1) ns.length : Nat) : Int) := by
      by_cases c : (ns.length : Int) < n + 1
      · rw [if_pos c]
        omega
      · rw [if_neg c]
        omega
    rw [em, Int.toNat_natCast]
    generalize hm : min (n.toNat + 1) ns.length = m at hR
    refine ⟨by omega, by omega, fun i env => i ≤ m ∧ ∃ e4 e5 : Option DV, env = [some (.val (.obj K_Uneven.C ksUneven [.int n, .lst (ns.map D.int)])), some (.val (row K_Row.C h ts)), some (.val (.lst (ns.map D.int))), some (.val (.lst ((difI i ns).map D.int))), e4, e5], ⟨by omega, _, _, rfl⟩, ?_, ?_⟩
    · rintro i d env e ⟨hi, e4, e5, rfl⟩
      obtain ⟨hi2, rfl⟩ := ups_at e
      walk_at "dg"
      exact ⟨by rw [difI_length]; omega, by omega, rfl⟩
    rintro env ⟨_, e4, e5, rfl⟩
    walk_at "dg"
    refine ⟨fun y3 => ⟨rfl, ok, hd, ?_, fun ws e hl => ⟨?_, fun out o1 o2 => ?_⟩, fun c => ?_⟩, fun y3 => ?_⟩
    · show (ns.map D.int).length ≤ 100000
      rw [List.length_map]
      omega
    · have := ok.2.1
      unfold totL
      rw [List.length_map, List.length_range]
      omega
    · obtain rfl : ns = ws := by
        have e2 : ns.map D.int = ws.map D.int := e
        rwa [map_int_inj] at e2
      have nn : totL h ts ns ≠ [] := fun c => by
        have e3 := congrArg List.length c
        unfold totL at e3
        rw [List.length_map, List.length_range] at e3
        have := ok.1
        simp at e3
        omega
      have e4 := out_len o1 o2 nn
      rw [y3] at hR
      rw [show decide ((1 : Int) < (out.length : Int)) = decide (1 < out.length) by rw [decide_eq_decide]; omega, e4]
      exact hR
    · exfalso
      rcases c with c | c
      · rw [show isNums (.lst (ns.map .int)) = true from all_ints] at c
        cases c
      · exact c (show (ns.map D.int).length = ts.length by rw [List.length_map]; exact y2)
    · rw [y3] at hR
      exact hR
local macro_rules | `(tactic| walk_at "rk") => `(tactic| first
  | assumption
  | (refine rok_app ?_ ?_ ?_ <;> first | walk_at "rk" | (simp only [List.length_append, List.length_reverse, List.length_map, List.length_replicate]; omega))
  | (refine rok_rev ?_; walk_at "rk")
  | (refine rok_map ?_ _ (fun t => fmod_in (by assumption)); walk_at "rk")
  | omega
  | decide
  | (refine log_lt (k := 80) ?_ (by decide) (by decide); omega))
local macro_rules | `(tactic| walk_at "fin") => `(tactic| ((repeat' (first | (with_reducible assumption) | (with_reducible refine And.intro ?_ ?_) | (with_reducible intro _))); all_goals first | (with_reducible assumption) | omega | contradiction | trivial))
local macro_rules | `(tactic| walk_at "cj") => `(tactic| repeat' (refine And.intro (by walk_at "rk") ?_))
def dgN21 : Array Lean.Name := dgN20 ++ #[`F_Uneven_holds_is]
local macro_rules | `(tactic| walk_at "dg") => do let xs ← dgN21.mapM fun n => `(Lean.Parser.Tactic.simpLemma| $(Lean.mkIdent n):term); `(tactic| simp only [$xs,*, List.getElem?_cons_zero, List.getElem?_cons_succ])
def F__law_value : Spec
  | [.bag], R, Rx => ∀ n : Int, -(10 ^ 18) < n → n < 10 ^ 18 → ∀ d ∈ [D.non, .bl true, .bl false, .int 0, .int n, .str "", .str "a b", .str "zz", .tup [], .lst [.int 1], .tup [.str "a", .int 2], .lst [.non]], R d
  | _, _, _ => False
theorem F__law_value_is {R : D → Prop} {Rx : Er → Prop} : F__law_value [.bag] R Rx = (∀ n : Int, -(10 ^ 18) < n → n < 10 ^ 18 → ∀ d ∈ [D.non, .bl true, .bl false, .int 0, .int n, .str "", .str "a b", .str "zz", .tup [], .lst [.int 1], .tup [.str "a", .int 2], .lst [.non]], R d) := rfl
theorem F__law_value_of {ds : List D} {R : D → Prop} {Rx : Er → Prop} (z : F__law_value ds R Rx) : ds = [.bag] ∧ (∀ n : Int, -(10 ^ 18) < n → n < 10 ^ 18 → ∀ d ∈ [D.non, .bl true, .bl false, .int 0, .int n, .str "", .str "a b", .str "zz", .tup [], .lst [.int 1], .tup [.str "a", .int 2], .lst [.non]], R d) := by
  unfold F__law_value at z
  split at z
  · exact ⟨rfl, z⟩
  · exact z.elim
def b__law_value (Dx : Df K mg "_law_value" s__law_value) : Binds K Dx.fd ["_law_bag_here"] [] := Dx.F.bindsN fun _ _ _ _ _ _ us hl => match us, hl with | [_], _ => rfl
def n__law_value : List Str := ["_law_bag_here"]
theorem sc__law_value : FnScope n__law_value ["_law_bag_here"] (defScope s__law_value) := ⟨rfl, rfl, rfl, by decide +kernel, rfl, by decide +kernel, by decide +kernel⟩
theorem ok__law_value (T : Tx mg) (D__law_value : Df K mg "_law_value" s__law_value) (D__law_pick : Df K mg "_law_pick" s__law_pick) (D__law_pull : Df K mg "_law_pull" s__law_pull) (D__law_number : Df K mg "_law_number" s__law_number) : FnOk P w K mg base (L2.CX P w) 5 D__law_value.f D__law_value.fd ["_law_bag_here"] (spD F__law_value) := by
  have G__law_pick := ok__law_pick (P := P) (w := w) (base := base) D__law_pick D__law_pull T.m_int T.m_len
  have G__law_number := ok__law_number (P := P) (w := w) (base := base) D__law_number D__law_pick D__law_pull T.m_int T.m_len
  refine fn_d D__law_value.F sc__law_value (fun ds R Rx hs0 => ?_) (fun cdv A outer s H E hr => have hu := hr.units
    (ds_one (s_ret (d_call G__law_pick (hr.mono (by decide)) D__law_pick.g D__law_pick.F.kp (b__law_pick D__law_pick) .nil dfR_nil pass_d (da_cons (d_var 0) (da_cons (d_ofF (f_lst (da_cons d_non (da_cons d_bl (da_cons d_bl (da_cons d_int (da_cons (d_call G__law_number (hr.mono (by decide)) D__law_number.g D__law_number.F.kp (b__law_number D__law_number) .nil dfR_nil pass_d (da_cons (d_var 0) da_nil)) (da_cons d_str (da_cons d_str (da_cons d_str (da_cons (d_tup da_nil) (da_cons (d_ofF (f_lst (da_cons d_int da_nil))) (da_cons (d_tup (da_cons d_str (da_cons d_int da_nil))) (da_cons (d_ofF (f_lst (da_cons d_non da_nil))) da_nil)))))))))))))) da_nil))))) ) fun ds R Rx hs0 => ?_
  · obtain ⟨rfl, _⟩ := F__law_value_of hs0
    rfl
  · obtain ⟨rfl, hs⟩ := F__law_value_of hs0
    clear hs0
    simp only [n__law_value]
    walk_at "dg"
    rw [show (-1000000000000000000 : Int) = -(10 ^ 18) by decide, show (1000000000000000000 : Int) = 10 ^ 18 by decide] at *
    have e0 : (Str.ofString "") = tx [] := by decide +kernel
    rw [e0] at hs
    exact hs
theorem log_to {n : Int} {k m : Nat} (h : n.natAbs < 2 ^ k) (hk : k ≤ m) (m0 : 0 < m) : n.natAbs.log2 < m := by
  by_cases z : n.natAbs = 0
  · rw [z]
    exact m0
  · exact Nat.lt_of_lt_of_le ((Nat.log2_lt z).mpr h) hk
theorem sapp3 (a b c : Str) : a ++ (b ++ c) = (a ++ b) ++ c := by
  show (⟨a.cps ++ (b.cps ++ c.cps)⟩ : Str) = ⟨(a.cps ++ b.cps) ++ c.cps⟩
  rw [Array.append_assoc]
theorem paper_even (s : Str) : Str.ofString "Paper(" ++ (Str.ofString "even " ++ s) = Str.ofString "Paper(even " ++ s := by
  rw [sapp3, show Str.ofString "Paper(" ++ Str.ofString "even " = Str.ofString "Paper(even " by decide +kernel]
theorem paper_uneven (s : Str) : Str.ofString "Paper(" ++ (Str.ofString "uneven " ++ s) = Str.ofString "Paper(uneven " ++ s := by
  rw [sapp3, show Str.ofString "Paper(" ++ Str.ofString "uneven " = Str.ofString "Paper(uneven " by decide +kernel]
theorem mset_none {M : Mem} {a b : Addr} {n : Nd} (h : mset M a n b = none) : b ≠ a ∧ M b = none := by
  by_cases z : b = a
  · rw [z, mset_same] at h
    cases h
  · rw [mset_ne z] at h
    exact ⟨z, h⟩
def n_law : List Str := ["_law_script", "_law_bag_here", "_law_turn", "_law_inner", "_law_lists", "_law_numbers", "_law_size", "_law_kept", "_law_even", "_law_uneven", "_law_again", "_law_found", "_law_due", "_law_value_here", "_law_row", "_law_plain", "_law_k"]
theorem sc_law : FnScope n_law ["_law_script"] (defScope s_law) := ⟨rfl, rfl, rfl, by decide +kernel, rfl, by decide +kernel, by decide +kernel⟩
def dgN22 : Array Lean.Name := dgN21 ++ #[`F__law_value_is]
local macro_rules | `(tactic| walk_at "dg") => do let xs ← dgN22.mapM fun n => `(Lean.Parser.Tactic.simpLemma| $(Lean.mkIdent n):term); `(tactic| simp only [$xs,*, List.getElem?_cons_zero, List.getElem?_cons_succ])
theorem ok_law (T : Tx mg) (K_Even : Kx_Even K mg P.main.file) (K_Uneven : Kx_Uneven K mg P.main.file) (K_Row : Kx_Row K mg) (K_Paper : Kx_Paper K mg) (X_InvalidHands : Xe K mg P.main.file "InvalidHands" s_InvalidHands___init__) (X_InvalidTurn : Xe K mg P.main.file "InvalidTurn" s_InvalidTurn___init__) (X_InvalidWorths : Xe K mg P.main.file "InvalidWorths" s_InvalidWorths___init__) (D_law : Df K mg "law" s_law) (D__law_bag : Df K mg "_law_bag" s__law_bag) (D__law_pull : Df K mg "_law_pull" s__law_pull) (D__law_number : Df K mg "_law_number" s__law_number) (D__law_pick : Df K mg "_law_pick" s__law_pick) (D_as_list : Df K mg "as_list" s_as_list) (D_copied : Df K mg "copied" s_copied) (D__law_same : Df K mg "_law_same" s__law_same) (D__law_value : Df K mg "_law_value" s__law_value) (D_check_hands : Df K mg "check_hands" s_check_hands) (D_is_number : Df K mg "is_number" s_is_number) (D_are_numbers : Df K mg "are_numbers" s_are_numbers) (D_times_step : Df K mg "times_step" s_times_step) (D_parting : Df K mg "parting" s_parting) (D_differences : Df K mg "differences" s_differences) (hsup : mg "super" = none) (htop : (P.main.scope.names.lookup ("super" : Str)).isSome = false) :
    FnOk P w K mg base (L2.CX P w) 20 D_law.f D_law.fd ["_law_script"] (spLaw K) := by
  have G__law_pull := ok__law_pull (P := P) (w := w) (base := base) D__law_pull T.m_int T.m_len
  have G__law_number := ok__law_number (P := P) (w := w) (base := base) D__law_number D__law_pick D__law_pull T.m_int T.m_len
  have G_Even___init__ := ok_Even___init__ (P := P) (w := w) (base := base) T K_Even D_as_list D_copied
  have G_Uneven___init__ := ok_Uneven___init__ (P := P) (w := w) (base := base) T K_Uneven D_as_list D_copied
  have G_Even_wanted := ok_Even_wanted (P := P) (w := w) (base := base) T K_Even
  have G_Even_quotients := ok_Even_quotients (P := P) (w := w) (base := base) T K_Even D_copied
  have G_Even_told := ok_Even_told (P := P) (w := w) (base := base) T K_Even hsup htop
  have G_Even___repr__ := ok_Even___repr__ (P := P) (w := w) (base := base) T K_Even hsup htop
  have G_Even___bool__ := ok_Even___bool__ (P := P) (w := w) (base := base) T K_Even
  have G__law_same := ok__law_same (P := P) (w := w) (base := base) ⟨T.m_isinstance, T.m_list, T.m_tuple, T.m_bool, T.m_int, T.m_str, T.m_len, T.m_all, T.m_zip⟩ D__law_same 6
  have G_Uneven_power := ok_Uneven_power (P := P) (w := w) (base := base) T K_Uneven
  have G_Uneven_worths := ok_Uneven_worths (P := P) (w := w) (base := base) T K_Uneven D_copied
  have G_Uneven_told := ok_Uneven_told (P := P) (w := w) (base := base) T K_Uneven hsup htop
  have G_Uneven___repr__ := ok_Uneven___repr__ (P := P) (w := w) (base := base) T K_Uneven hsup htop
  have G_Uneven___bool__ := ok_Uneven___bool__ (P := P) (w := w) (base := base) T K_Uneven
  have G__law_value := ok__law_value (P := P) (w := w) (base := base) T D__law_value D__law_pick D__law_pull D__law_number
  have G_Row___init__ := ok_Row___init__ (P := P) (w := w) (base := base) T K_Row D_check_hands D_is_number X_InvalidHands X_InvalidTurn hsup htop
  have G_Even___init__g := ok_Even___init__g (P := P) (w := w) (base := base) T K_Even D_as_list D_copied
  have G_Uneven___init__g := ok_Uneven___init__g (P := P) (w := w) (base := base) T K_Uneven D_as_list D_copied
  have G_Even_holds := ok_Even_holds (P := P) (w := w) (base := base) T K_Even K_Row D_is_number D_are_numbers D_times_step D_parting
  have G_Uneven_holds := ok_Uneven_holds (P := P) (w := w) (base := base) T K_Uneven K_Row X_InvalidWorths D_is_number D_are_numbers D_differences hsup htop
  have G_Paper_told := ok_Paper_told (P := P) (w := w) (base := base) T K_Paper
  have G_Paper___repr__ := ok_Paper___repr__ (P := P) (w := w) (base := base) T K_Paper
  have G_Paper___bool__ := ok_Paper___bool__ (P := P) (w := w) (base := base) T K_Paper
  have G_Paper_holds := ok_Paper_holds (P := P) (w := w) (base := base) T K_Paper
  refine law_d (n := 15) D_law sc_law rfl rfl rfl D__law_bag T.m_int rfl (by first | exact .inl rfl | exact .inr rfl) rfl (by first | exact .inl rfl | exact .inr rfl) (fun cdv A outer s H E hr =>
    have hu := hr.units
    (dss_ofM (mss_cons (ms_for (passes_of rfl) rfl (i_rg1 (da_cons d_int da_nil) T.m_range) (g_name (i := 2) sc_law.nd)
        (mss_cons (ms_setLcN (i := 3) rfl sc_law.nd (i_rg1 (da_cons (d_call G__law_pull (hr.mono (by decide)) D__law_pull.g D__law_pull.F.kp (b__law_pull D__law_pull) .nil dfR_nil pass_d (da_cons (d_var 1) (da_cons d_int da_nil))) da_nil) T.m_range) (blkOk_by (own := [("_law_k", 16)]) (N := n_law) (sc := defScope s_law) (by decide +kernel)) (by decide) (fun _ _ _ _ _ => (g_name (i := 16) sc_law.nd)) (fun _ _ _ _ _ => dts_nil) (fun _ _ _ _ _ => (d_call G__law_number (hr.mono (by decide)) D__law_number.g D__law_number.F.kp (b__law_number D__law_number) .nil dfR_nil passL (da_cons (d_var 1) da_nil))))
          (mss_cons (ms_par3 (i := 4) (j := 5) (l := 6) rfl sc_law.nd (ma_cons (m_lst (ma_cons (m_of (d_var 3)) (ma_cons (m_lst (ma_cons (m_of d_int) ma_nil)) ma_nil))) (ma_cons (m_list (m_of (d_var 3)) T.m_list) (ma_cons (m_of (d_call G__law_number (hr.mono (by decide)) D__law_number.g D__law_number.F.kp (b__law_number D__law_number) .nil dfR_nil pass_d (da_cons (d_var 1) da_nil))) ma_nil))))
          (mss_cons (ms_set (i := 7) sc_law.nd (m_lendN [3] (n_ofU (u_lst (da_uCons (u_ofF (f_list (d_var 3) T.m_list)) (da_uCons (u_lst (da_uCons (u_flat d_int) da_uNil)) da_uNil))))))
          (mss_cons (ms_par (i := 8) (j := 9) rfl sc_law.nd (ma_cons (m_lendP [4] (d_makeN K_Even.mkr G_Even___init__ (hr.mono (by decide)) K_Even.g (b_Even___init__ K_Even.D___init__) pass_d (da_cons (d_var 6) (da_cons (d_var 4) da_nil)))) (ma_cons (m_lendP [5] (d_makeN K_Uneven.mkr G_Uneven___init__ (hr.mono (by decide)) K_Uneven.g (b_Uneven___init__ K_Uneven.D___init__) pass_d (da_cons (d_var 6) (da_cons (d_var 5) da_nil)))) ma_nil)))
          (mss_cons (ms_app (m_of (d_var 3)) (m_of d_int) (hp := fun ho h => pe_bm PySem.F.plainAttrs_list PySem.F.slot_list_append PySem.F.type_list_append mt_append ho (pa_cons h pa_nil)))
          (mss_cons (ms_app (m_of (d_var 4)) (m_lst ma_nil) (hp := fun ho h => pe_bm PySem.F.plainAttrs_list PySem.F.slot_list_append PySem.F.type_list_append mt_append ho (pa_cons h pa_nil)))
          (mss_cons (ms_clr (m_of (d_var 5)) (hp := fun ho => pe_bm0 PySem.F.plainAttrs_list PySem.F.slot_list_clear PySem.F.type_list_clear mt_clear ho))
          (mss_cons (ms_up (s_for (passes_of rfl) rfl (i_rg1 (da_cons d_int da_nil) T.m_range) (g_name (i := 10) sc_law.nd)
            (ds_cons (s_set (i := 11) sc_law.nd (d_ofF (f_lst (da_cons (d_prop (d_var 8) K_Even.cls K_Even.p_wanted G_Even_wanted (hr.mono (by decide)) (b_Even_wanted K_Even.D_wanted) passL) (da_cons (d_ofU (u_meth0 (d_var 8) K_Even.cls K_Even.h_quotients G_Even_quotients (hr.mono (by decide)) (b_Even_quotients K_Even.D_quotients) pass_d)) (da_cons (d_meth0 (d_var 8) K_Even.cls K_Even.h_told G_Even_told (hr.mono (by decide)) (b_Even_told K_Even.D_told) pass_d) (da_cons (d_callB (b_reprOw hu K_Even.o___repr__ G_Even___repr__ (b_Even___repr__ K_Even.D___repr__) (hr.mono (by decide))) T.m_repr (by decide +kernel) (da_cons (d_var 8) da_nil)) (da_cons (d_callT (b_boolOw K_Even.o___bool__ G_Even___bool__ (b_Even___bool__ K_Even.D___bool__) (hr.mono (by decide))) T.m_bool PyProof.Rows.boot_bool (da_cons (d_var 8) da_nil)) (da_cons (d_conS (d_var 8) K_Even.cls K_Even.c_KIND) (da_cons (d_conB (d_var 8) K_Even.cls K_Even.c_GOOD) da_nil))))))))))
              (ds_cons (s_set (i := 12) sc_law.nd (d_ofF (f_lst (da_cons (d_var 6) (da_cons (d_var 7) (da_cons (d_add d_str (d_callT b_str T.m_str PyProof.Rows.boot_str (da_cons (d_var 6) da_nil))) (da_cons (d_add (d_add d_str (d_callT b_str T.m_str PyProof.Rows.boot_str (da_cons (d_var 6) da_nil))) d_str) (da_cons d_bl (da_cons d_str (da_cons d_bl da_nil))))))))))
              (ds_cons (s_if (dt_not (dt_tru (d_call G__law_same (hr.mono (by decide)) D__law_same.g D__law_same.F.kp (b__law_same D__law_same) .nil dfR_nil pass_d (da_cons (d_var 11) (da_cons (d_var 12) da_nil))))) (ds_one (s_ret d_bl)) ds_nil)
              (ds_cons (s_set (i := 11) sc_law.nd (d_ofF (f_lst (da_cons (d_prop (d_var 9) K_Uneven.cls K_Uneven.p_power G_Uneven_power (hr.mono (by decide)) (b_Uneven_power K_Uneven.D_power) passL) (da_cons (d_ofU (u_meth0 (d_var 9) K_Uneven.cls K_Uneven.h_worths G_Uneven_worths (hr.mono (by decide)) (b_Uneven_worths K_Uneven.D_worths) pass_d)) (da_cons (d_meth0 (d_var 9) K_Uneven.cls K_Uneven.h_told G_Uneven_told (hr.mono (by decide)) (b_Uneven_told K_Uneven.D_told) pass_d) (da_cons (d_callB (b_reprOw hu K_Uneven.o___repr__ G_Uneven___repr__ (b_Uneven___repr__ K_Uneven.D___repr__) (hr.mono (by decide))) T.m_repr (by decide +kernel) (da_cons (d_var 9) da_nil)) (da_cons (d_callT (b_boolOw K_Uneven.o___bool__ G_Uneven___bool__ (b_Uneven___bool__ K_Uneven.D___bool__) (hr.mono (by decide))) T.m_bool PyProof.Rows.boot_bool (da_cons (d_var 9) da_nil)) (da_cons (d_conS (d_var 9) K_Uneven.cls K_Uneven.c_KIND) da_nil)))))))))
              (ds_cons (s_set (i := 12) sc_law.nd (d_ofF (f_lst (da_cons (d_var 6) (da_cons (d_ix (d_var 7) d_int) (da_cons (d_add d_str (d_callT b_str T.m_str PyProof.Rows.boot_str (da_cons (d_var 6) da_nil))) (da_cons (d_add (d_add d_str (d_callT b_str T.m_str PyProof.Rows.boot_str (da_cons (d_var 6) da_nil))) d_str) (da_cons d_bl (da_cons d_str da_nil)))))))))
              (ds_cons (s_if (dt_not (dt_tru (d_call G__law_same (hr.mono (by decide)) D__law_same.g D__law_same.F.kp (b__law_same D__law_same) .nil dfR_nil pass_d (da_cons (d_var 11) (da_cons (d_var 12) da_nil))))) (ds_one (s_ret d_bl)) ds_nil)
              (ds_cons (s_appU (u_meth0 (d_var 8) K_Even.cls K_Even.h_quotients G_Even_quotients (hr.mono (by decide)) (b_Even_quotients K_Even.D_quotients) pass_d) d_int (hp := fun ho h => pe_bm PySem.F.plainAttrs_list PySem.F.slot_list_append PySem.F.type_list_append mt_append ho (pa_cons h pa_nil)))
              (ds_one (s_appF (f_ofU (u_meth0 (d_var 9) K_Uneven.cls K_Uneven.h_worths G_Uneven_worths (hr.mono (by decide)) (b_Uneven_worths K_Uneven.D_worths) pass_d)) d_int (hp := fun ho h => pe_bm PySem.F.plainAttrs_list PySem.F.slot_list_append PySem.F.type_list_append mt_append ho (pa_cons h pa_nil)))))))))))))
          (mss_cons (ms_up (s_if (dt_not (dt_tru (d_call G__law_same (hr.mono (by decide)) D__law_same.g D__law_same.F.kp (b__law_same D__law_same) .nil dfR_nil pass_d (da_cons (d_ofF (f_lst (da_cons (d_ofU (u_meth0 (d_ofP (d_makeN K_Uneven.mkr G_Uneven___init__ (hr.mono (by decide)) K_Uneven.g (b_Uneven___init__ K_Uneven.D___init__) pass_d (da_cons d_int (da_cons (d_tup (da_cons d_int (da_cons d_int da_nil))) da_nil)))) K_Uneven.cls K_Uneven.h_worths G_Uneven_worths (hr.mono (by decide)) (b_Uneven_worths K_Uneven.D_worths) pass_d)) (da_cons (d_ofU (u_meth0 (d_ofP (d_makeN K_Even.mkr G_Even___init__ (hr.mono (by decide)) K_Even.g (b_Even___init__ K_Even.D___init__) pass_d (da_cons d_int (da_cons (d_tup (da_cons (d_ofF (f_lst (da_cons d_int da_nil))) (da_cons (d_ofF (f_lst (da_cons d_int da_nil))) da_nil))) da_nil)))) K_Even.cls K_Even.h_quotients G_Even_quotients (hr.mono (by decide)) (b_Even_quotients K_Even.D_quotients) pass_d)) da_nil)))) (da_cons (d_ofF (f_lst (da_cons (d_ofF (f_lst (da_cons d_int (da_cons d_int da_nil)))) (da_cons (d_ofF (f_lst (da_cons (d_ofF (f_lst (da_cons d_int da_nil))) (da_cons (d_ofF (f_lst (da_cons d_int da_nil))) da_nil)))) da_nil)))) da_nil))))) (ds_one (s_ret d_bl)) ds_nil))
          (mss_cons (ms_up (s_par (i := 13) (j := 14) rfl sc_law.nd (da_cons (d_call G__law_value (hr.mono (by decide)) D__law_value.g D__law_value.F.kp (b__law_value D__law_value) .nil dfR_nil pass_d (da_cons (d_var 1) da_nil)) (da_cons (d_make K_Row.mkr G_Row___init__ (hr.mono (by decide)) K_Row.g (b_Row___init__ K_Row.D___init__) pass_d (da_cons d_int (da_cons (d_ofF (f_lst (da_cons d_int (da_cons d_int (da_cons d_int (da_cons d_int da_nil)))))) da_nil))) da_nil))))
          (mss_cons (ms_up (s_set (i := 11) sc_law.nd (d_ofF (f_lst (da_cons (d_prop (d_make K_Even.mkr G_Even___init__g (hr.mono (by decide)) K_Even.g (b_Even___init__ K_Even.D___init__) pass_d (da_cons (d_var 13) (da_cons (d_var 13) da_nil))) K_Even.cls K_Even.p_wanted G_Even_wanted (hr.mono (by decide)) (b_Even_wanted K_Even.D_wanted) passL) (da_cons (d_prop (d_make K_Uneven.mkr G_Uneven___init__g (hr.mono (by decide)) K_Uneven.g (b_Uneven___init__ K_Uneven.D___init__) pass_d (da_cons (d_var 13) (da_cons (d_ofF (f_lst (da_cons (d_var 13) da_nil))) da_nil))) K_Uneven.cls K_Uneven.p_power G_Uneven_power (hr.mono (by decide)) (b_Uneven_power K_Uneven.D_power) passL) (da_cons (d_meth (d_make K_Even.mkr G_Even___init__g (hr.mono (by decide)) K_Even.g (b_Even___init__ K_Even.D___init__) pass_d (da_cons (d_var 13) (da_cons (d_var 13) da_nil))) K_Even.cls K_Even.h_holds G_Even_holds (hr.mono (by decide)) (b_Even_holds K_Even.D_holds) pass_d (da_cons (d_var 14) da_nil)) da_nil)))))))
          (mss_one (ms_up (s_if (dt_not (dt_tru (d_call G__law_same (hr.mono (by decide)) D__law_same.g D__law_same.F.kp (b__law_same D__law_same) .nil dfR_nil pass_d (da_cons (d_add (d_var 11) (d_ofF (f_lst (da_cons (d_meth (d_make K_Uneven.mkr G_Uneven___init__g (hr.mono (by decide)) K_Uneven.g (b_Uneven___init__ K_Uneven.D___init__) pass_d (da_cons d_int (da_cons (d_var 13) da_nil))) K_Uneven.cls K_Uneven.h_holds G_Uneven_holds (hr.mono (by decide)) (b_Uneven_holds K_Uneven.D_holds) pass_d (da_cons (d_var 14) da_nil)) da_nil)))) (da_cons (d_ofF (f_lst (da_cons (d_var 13) (da_cons (d_var 13) (da_cons d_bl (da_cons d_bl da_nil)))))) da_nil))))) (ds_one (s_ret d_bl)) ds_nil)))))))))))))))
      (mss_cons (ms_up (s_set (i := 15) sc_law.nd (d_make00 K_Paper.mkr0 K_Paper.g)))
      (mss_cons (ms_up (s_set (i := 11) sc_law.nd (d_ofF (f_lst (da_cons (d_meth0 (d_var 15) K_Paper.cls K_Paper.h_told G_Paper_told (hr.mono (by decide)) (b_Paper_told K_Paper.D_told) pass_d) (da_cons (d_callB (b_reprOw hu K_Paper.o___repr__ G_Paper___repr__ (b_Paper___repr__ K_Paper.D___repr__) (hr.mono (by decide))) T.m_repr (by decide +kernel) (da_cons (d_var 15) da_nil)) (da_cons (d_callT (b_boolOw K_Paper.o___bool__ G_Paper___bool__ (b_Paper___bool__ K_Paper.D___bool__) (hr.mono (by decide))) T.m_bool PyProof.Rows.boot_bool (da_cons (d_var 15) da_nil)) (da_cons (d_meth (d_var 15) K_Paper.cls K_Paper.h_holds G_Paper_holds (hr.mono (by decide)) (b_Paper_holds K_Paper.D_holds) pass_d (da_cons (d_make K_Row.mkr G_Row___init__ (hr.mono (by decide)) K_Row.g (b_Row___init__ K_Row.D___init__) pass_d (da_cons d_int (da_cons (d_ofF (f_lst (da_cons d_int da_nil))) da_nil))) da_nil)) (da_cons (d_cvS K_Paper.cv_KIND K_Paper.g) (da_cons (d_cvB K_Paper.cv_GOOD K_Paper.g) da_nil))))))))))
      (mss_cons (ms_up (s_set (i := 11) sc_law.nd (d_add (d_var 11) (d_ofF (f_lst (da_cons (d_callB (b_isiK (kit_at K_Paper.ga K_Even.kit_Paper) K_Even.cls K_Even.isc) T.m_isinstance PyProof.Rows.boot_isinstance (da_cons (d_ofP (d_makeN K_Even.mkr G_Even___init__ (hr.mono (by decide)) K_Even.g (b_Even___init__ K_Even.D___init__) pass_d (da_cons d_int (da_cons (d_ofF (f_lst da_nil)) da_nil)))) (da_cons (d_gadr K_Paper.g) da_nil))) (da_cons (d_callB (b_isiK (kit_at K_Paper.ga K_Uneven.kit_Paper) K_Uneven.cls K_Uneven.isc) T.m_isinstance PyProof.Rows.boot_isinstance (da_cons (d_ofP (d_makeN K_Uneven.mkr G_Uneven___init__ (hr.mono (by decide)) K_Uneven.g (b_Uneven___init__ K_Uneven.D___init__) pass_d (da_cons d_int (da_cons (d_ofF (f_lst da_nil)) da_nil)))) (da_cons (d_gadr K_Paper.g) da_nil))) (da_cons (d_callB (b_isiK (kit_at K_Even.ga K_Paper.kit_Even) K_Paper.cls K_Paper.isc) T.m_isinstance PyProof.Rows.boot_isinstance (da_cons (d_var 15) (da_cons (d_gadr K_Even.g) da_nil))) da_nil))))))))
      (mss_one (ms_up (s_ret (d_call G__law_same (hr.mono (by decide)) D__law_same.g D__law_same.F.kp (b__law_same D__law_same) .nil dfR_nil pass_d (da_cons (d_var 11) (da_cons (d_ofF (f_lst (da_cons d_str (da_cons d_str (da_cons d_bl (da_cons d_bl (da_cons d_str (da_cons d_bl (da_cons d_bl (da_cons d_bl (da_cons d_bl da_nil))))))))))) da_nil)))))))))))) fun a => ?_
  simp only [lawEn, List.replicate]
  have lg : ∀ n : Int, 0 ≤ n → n < 2 ^ 60 → n.natAbs.log2 < 9000 := fun n h0 h1 => log_lt (k := 60) (by omega) (by decide) (by decide)
  rw [w_zOfM]
  refine ⟨by simp only [w_AllV_val, w_AllV_none, w_AllV_nil], ?_⟩
  simp only [w_unv_val, w_unv_none, w_unv_nil]
  refine seq_stepM fun N hN => for_stepM fun B hB => ?_
  walk_at "dg"
  refine ⟨fun i ev M => ∃ e2 e3 e4 e5 e6 e7 e8 e9 e10 e11 e12 e13 e14 e15 e16 : Option D, ev = [some (.adr a), some .bag, e2, e3, e4, e5, e6, e7, e8, e9, e10, e11, e12, e13, e14, e15, e16], ⟨_, _, _, _, _, _, _, _, _, _, _, _, _, _, _, rfl⟩, ?_, ?_⟩
  rotate_left
  · rintro ev M ⟨e2, e3, e4, e5, e6, e7, e8, e9, e10, e11, e12, e13, e14, e15, e16, rfl⟩
    refine hN _ _ ?_
    walk_at "dg"
    exact initX_good (ts := [0]) ⟨by decide, by decide, by decide, by decide, by decide⟩ trivial
  rintro i d ev M _ ⟨e2, e3, e4, e5, e6, e7, e8, e9, e10, e11, e12, e13, e14, e15, e16, rfl⟩
  walk_at "dg"
  refine hB _ _ _ ?_
  clear hB hN
  refine seq_stepM fun N1 hN1 => ?_
  walk_at "dg"
  refine ⟨lg _ (by decide) (by decide), fun r r0 r1 => ⟨by omega, by omega, ?_⟩⟩
  refine LcP.draw D.int (fun n => -(10 ^ 18) < n ∧ n < 10 ^ 18) (by rw [ups_length, sizeLine_eq]; omega) (fun i d N e hN => ?_) fun ns hl hns => ?_
  · walk_at "dg"
    exact fun n n1 n2 => hN n ⟨by omega, by omega⟩
  rw [ups_length] at hl
  have hl : ns.length ≤ 5 := by omega
  intro a3 ha3
  refine hN1 _ _ ?_
  clear hN1 N1
  refine seq_stepM fun N1 hN1 => ?_
  walk_at "dg"
  intro a1 h1 a4 h4
  obtain ⟨n1, h1⟩ := mset_none h1
  obtain ⟨n2, h4⟩ := mset_none h4
  obtain ⟨n3, h4⟩ := mset_none h4
  refine ⟨_, by rw [mset_ne (Ne.symm n3), mset_ne (Ne.symm n1), mset_same], fun b hb n b1 b2 => ?_⟩
  obtain ⟨n4, hb⟩ := mset_none hb
  obtain ⟨n5, hb⟩ := mset_none hb
  obtain ⟨n6, hb⟩ := mset_none hb
  have m1 : mset (mset (mset (mset M a3 (Nd.lst (ns.map D.int))) a1 (Nd.lst [D.int 1])) a4 (Nd.lst [D.adr a3, D.adr a1])) b (Nd.lst (ns.map D.int)) a3 = some (.lst (ns.map D.int)) := by rw [mset_ne (Ne.symm n6), mset_ne (Ne.symm n3), mset_ne (Ne.symm n1), mset_same]
  have m2 : mset (mset (mset (mset M a3 (Nd.lst (ns.map D.int))) a1 (Nd.lst [D.int 1])) a4 (Nd.lst [D.adr a3, D.adr a1])) b (Nd.lst (ns.map D.int)) a1 = some (.lst [.int 1]) := by rw [mset_ne (Ne.symm n5), mset_ne (Ne.symm n2), mset_same]
  have m3 : mset (mset (mset (mset M a3 (Nd.lst (ns.map D.int))) a1 (Nd.lst [D.int 1])) a4 (Nd.lst [D.adr a3, D.adr a1])) b (Nd.lst (ns.map D.int)) a4 = some (.lst [.adr a3, .adr a1]) := by rw [mset_ne (Ne.symm n4), mset_same]
  have m4 : mset (mset (mset (mset M a3 (Nd.lst (ns.map D.int))) a1 (Nd.lst [D.int 1])) a4 (Nd.lst [D.adr a3, D.adr a1])) b (Nd.lst (ns.map D.int)) b = some (.lst (ns.map D.int)) := by rw [mset_same]
  generalize mset (mset (mset (mset M a3 (Nd.lst (ns.map D.int))) a1 (Nd.lst [D.int 1])) a4 (Nd.lst [D.adr a3, D.adr a1])) b (Nd.lst (ns.map D.int)) = MM at m1 m2 m3 m4
  refine hN1 _ _ ?_
  clear hN1 N1
  refine seq_stepM fun N1 hN1 => ?_
  walk_at "dg"
  have fl : flatL (ns.map D.int) = true := flatL_ints
  have nt : ntL (ns.map D.int) = true := w_ntL_ints
  refine ⟨.lst (ns.map D.int), Unf.lst m1 (UnfL.refl _), fl, nt, ?_⟩
  refine hN1 _ _ ?_
  clear hN1 N1
  refine seq_stepM fun N1 hN1 => ?_
  walk_at "dg"
  have gns : Good 4 (.lst (ns.map D.int)) := good_ints (n := 2) (by omega)
  have gk : Good 5 (.lst [.lst (ns.map D.int), .lst [.int 1]]) := ⟨(show 2 ≤ 100000 by decide), fun x hx => by
    simp only [List.mem_cons, List.not_mem_nil, or_false] at hx
    rcases hx with rfl | rfl
    · exact gns
    · exact good_ints (n := 2) (ns := [1]) (by decide)⟩
  refine ⟨.lst [.lst (ns.map D.int), .lst [.int 1]], Unf.lst m3 (.cons (Unf.lst m1 (UnfL.refl _)) (.cons (Unf.lst m2 (UnfL.refl _)) .nil)), gk, .lst (ns.map D.int), Unf.lst m4 (UnfL.refl _), good_ints (n := 3) (by omega), ?_⟩
  rw [w_toL_lst, w_toL_lst]
  refine hN1 _ _ ?_
  clear hN1 N1
  refine seq_stepM fun N1 hN1 => ?_
  walk_at "dg"
  refine ⟨⟨_, m1⟩, _, m1, by rw [List.length_map]; omega, ?_⟩
  have m3 : mset MM a3 (Nd.lst (ns.map D.int ++ [.int 5])) a4 = some (.lst [.adr a3, .adr a1]) := by rw [mset_ne n3]; exact m3
  have m4 : mset MM a3 (Nd.lst (ns.map D.int ++ [.int 5])) b = some (.lst (ns.map D.int)) := by rw [mset_ne n6]; exact m4
  generalize mset MM a3 (Nd.lst (ns.map D.int ++ [.int 5])) = MM at m3 m4
  refine hN1 _ _ ?_
  clear hN1 N1
  refine seq_stepM fun N1 hN1 => ?_
  walk_at "dg"
  refine ⟨⟨_, m3⟩, fun a5 ha5 => ⟨_, by rw [mset_ne (fun z => by rw [← z, m3] at ha5; cases ha5)]; exact m3, by show 2 < 16777216; decide, ?_⟩⟩
  have m4 : ∀ nd, mset (mset MM a5 (Nd.lst [])) a4 nd b = some (.lst (ns.map D.int)) := fun nd => by
    rw [mset_ne n4, mset_ne (fun z => by rw [← z, m4] at ha5; cases ha5)]
    exact m4
  have m4 := m4 (Nd.lst ([D.adr a3, D.adr a1] ++ [D.adr a5]))
  generalize mset (mset MM a5 (Nd.lst [])) a4 (Nd.lst ([D.adr a3, D.adr a1] ++ [D.adr a5])) = MM at m4
  refine hN1 _ _ ?_
  clear hN1 N1
  refine seq_stepM fun N1 hN1 => ?_
  walk_at "dg"
  refine ⟨⟨_, m4⟩, ?_⟩
  generalize mset MM b (Nd.lst []) = MM
  refine hN1 _ _ ?_
  clear hN1 N1
  refine seq_stepM fun N1 hN1 => ?_
  rw [w_zUp]
  refine for_step fun B hB => ?_
  walk_at "dg"
  have nb : n.natAbs.log2 < 1920 := log_to (k := 60) (show n.natAbs < 2 ^ 60 by omega) (by decide) (by decide)
  refine ⟨fun _ env => ∃ g10 g11 g12 g13 g14 g15 g16 : Option D, env = [some (.val (.adr a)), some (.val .bag), some (.val d), some (.val (.adr a3)), some (.val (.adr a4)), some (.val (.adr b)), some (.val (.int n)), some (.val (.lst [.lst (ns.map D.int), .lst [.int 1]])), some (.val (.obj K_Even.C ksEven [.int n, .lst [.lst (ns.map D.int), .lst [.int 1]]])), some (.val (.obj K_Uneven.C ksUneven [.int n, .lst (ns.map D.int)])), vl1 g10, vl1 g11, vl1 g12, vl1 g13, vl1 g14, vl1 g15, vl1 g16], ⟨_, _, _, _, _, _, _, rfl⟩, ?_, ?_⟩
  · rintro j dj env ej ⟨g10, g11, g12, g13, g14, g15, g16, rfl⟩
    refine hB _ _ ?_
    clear hB hN1
    refine seq_step fun N1 hN1 => ?_
    walk_at "dg"
    refine ⟨by omega, nb, nb, ?_⟩
    have l3 := tlen nb
    have k1 : (Str.ofString "even ").length = 5 := by decide +kernel
    have k2 : (Str.ofString "Paper(even ").length = 11 := by decide +kernel
    have k3 : (Str.ofString ")").length = 1 := by decide +kernel
    have k4 : (Str.ofString "uneven ").length = 7 := by decide +kernel
    have k5 : (Str.ofString "Paper(uneven ").length = 13 := by decide +kernel
    rw [paper_even]
    refine hN1 _ ?_
    clear hN1 N1
    refine seq_step fun N1 hN1 => ?_
    walk_at "dg"
    refine ⟨nb, by omega, nb, by omega, by rw [strLen_append]; omega, ?_⟩
    refine hN1 _ ?_
    clear hN1 N1
    refine seq_step fun N1 hN1 => ?_
    refine if_step fun U W hU hW => ?_
    walk_at "dg"
    refine ⟨by omega, hW _ _ ?_⟩
    clear hU hW U W
    refine hN1 _ ?_
    clear hN1 N1
    refine seq_step fun N1 hN1 => ?_
    walk_at "dg"
    refine ⟨by omega, nb, nb, ?_⟩
    rw [paper_uneven]
    refine hN1 _ ?_
    clear hN1 N1
    refine seq_step fun N1 hN1 => ?_
    walk_at "dg"
    refine ⟨nb, by omega, nb, by omega, by rw [strLen_append]; omega, ?_⟩
    refine hN1 _ ?_
    clear hN1 N1
    refine seq_step fun N1 hN1 => ?_
    refine if_step fun U W hU hW => ?_
    walk_at "dg"
    refine ⟨by omega, hW _ _ ?_⟩
    clear hU hW U W
    refine hN1 _ ?_
    clear hN1 N1
    refine seq_step fun N1 hN1 => ?_
    walk_at "dg"
    refine ⟨by omega, 0, rfl, _, rfl, by rw [List.length_map]; omega, ?_⟩
    refine hN1 _ ?_
    clear hN1 N1
    walk_at "dg"
    exact ⟨by omega, by omega, ⟨some _, rfl⟩, ⟨some _, rfl⟩, ⟨some _, rfl⟩, ⟨_, rfl⟩, ⟨_, rfl⟩, ⟨_, rfl⟩, ⟨_, rfl⟩⟩
  · rintro env ⟨g10, g11, g12, g13, g14, g15, g16, rfl⟩
    walk_at "dg"
    refine hN1 _ _ ?_
    clear hN1 hB
    refine seq_stepM fun N1 hN1 => ?_
    rw [w_zUp]
    refine if_step fun U W hU hW => ?_
    walk_at "dg"
    refine hW _ _ ?_
    clear hU hW U W
    walk_at "dg"
    refine hN1 _ _ ?_
    clear hN1 N1
    refine seq_stepM fun N1 hN1 => ?_
    walk_at "dg"
    intro m _ _ v hv
    have ro : RowOk 2 [0, 1, 1, 0] := ⟨by decide, by decide, by decide, by decide, by decide⟩
    have fv : Good 4 v ∧ Flat2 (toL v) ∧ Flat1 (toL v) ∧ v.dat = true ∧ evenB 2 [0, 1, 1, 0] v (toL v) = false ∧ unevenB 2 [0, 1, 1, 0] (.int 1) (toL v) = false := by
      have tr : ∀ x ∈ [D.str (Str.ofString "a"), D.int 2], Flat1 x := fun x hx => by
        simp only [List.mem_cons, List.not_mem_nil, or_false] at hx
        rcases hx with rfl | rfl <;> rfl
      simp only [List.mem_cons, List.not_mem_nil, or_false] at hv
      rcases hv with rfl | rfl | rfl | rfl | rfl | rfl | rfl | rfl | rfl | rfl | rfl | rfl
      all_goals refine ⟨by walk_at "dg", ?_, ?_, rfl, rfl, ?_⟩
      all_goals first
        | rfl
        | exact ⟨rfl, by decide⟩
        | exact ⟨rfl, by decide, fun x hx => (List.not_mem_nil hx).elim⟩
        | exact ⟨rfl, by decide, fun x hx => by
            rw [List.mem_singleton.mp hx]
            rfl⟩
        | exact ⟨rfl, by decide, tr⟩
        | decide +kernel
    clear hv
    obtain ⟨v1, v2, v3, v4, v5, v6⟩ := fv
    refine initX_good ro ?_
    refine hN1 _ _ ?_
    clear hN1 N1
    refine seq_stepM fun N1 hN1 => ?_
    walk_at "dg"
    refine ⟨good_mono v1 (by decide), v1, good_mono v1 (by decide), ro, v4, v2, ?_⟩
    rw [v5]
    refine hN1 _ _ ?_
    clear hN1 N1
    rw [w_zUp]
    walk_at "dg"
    exact ⟨good_mono v1 (by decide), ro, v3, v6, good_mono v1 (by decide)⟩
end
end DL
set_option maxHeartbeats 0
namespace Hd
open PySem PySem.Spec L2 DL
@[reducible] instance tb0 : TbC := ⟨[], fun _ => ⟨"", defArgs s_law, .Constant .none 0 ⟨0, 0, 0, 0⟩, defScope s_law, []⟩⟩
theorem facts {P : Program} {w : World} {K : PySem.W.Frag} {h : Heap} {mg : Str → Option Value} {f : Addr} (X : K.In h) (G : h.Ns mainGlobals mg) (hfa : mg ("law" : Str) = some (.ref f)) (hfile : P.main.file = PySem.Challenge.pw_evenpicks_k22_papers_told.main.file) (htop : (P.main.scope.names.lookup ("super" : Str)).isSome = false) (c : Hx.SaysX fx fn K) :
    ∃ fd : FuncData, (∀ (s : Shared) (v : Value), BindsTo s fd ⟨[v], []⟩ [("_law_script", v)]) ∧ ∀ base : Heap, K.In base → base.Ns mainGlobals mg → FnOk P w K mg base (L2.CX P w) 20 f fd ["_law_script"] (spLaw K) := by
  obtain ⟨fd_law, F_law⟩ := c.def_ 30 (d := Hd.d_law) rfl
  obtain ⟨fd__law_bag, F__law_bag⟩ := c.def_ 24 (d := Hd.d__law_bag) rfl
  obtain ⟨fd__law_pull, F__law_pull⟩ := c.def_ 25 (d := Hd.d__law_pull) rfl
  obtain ⟨fd__law_number, F__law_number⟩ := c.def_ 28 (d := Hd.d__law_number) rfl
  obtain ⟨fd__law_pick, F__law_pick⟩ := c.def_ 26 (d := Hd.d__law_pick) rfl
  obtain ⟨fd_as_list, F_as_list⟩ := c.def_ 4 (d := Hd.d_as_list) rfl
  obtain ⟨fd_copied, F_copied⟩ := c.def_ 5 (d := Hd.d_copied) rfl
  obtain ⟨fd__law_same, F__law_same⟩ := c.def_ 27 (d := Hd.d__law_same) rfl
  obtain ⟨fd__law_value, F__law_value⟩ := c.def_ 29 (d := Hd.d__law_value) rfl
  obtain ⟨fd_check_hands, F_check_hands⟩ := c.def_ 6 (d := Hd.d_check_hands) rfl
  obtain ⟨fd_is_number, F_is_number⟩ := c.def_ 0 (d := Hd.d_is_number) rfl
  obtain ⟨fd_are_numbers, F_are_numbers⟩ := c.def_ 1 (d := Hd.d_are_numbers) rfl
  obtain ⟨fd_times_step, F_times_step⟩ := c.def_ 3 (d := Hd.d_times_step) rfl
  obtain ⟨fd_parting, F_parting⟩ := c.def_ 15 (d := Hd.d_parting) rfl
  obtain ⟨fd_differences, F_differences⟩ := c.def_ 2 (d := Hd.d_differences) rfl
  obtain ⟨cc_InvalidHands, cda_InvalidHands, fd_InvalidHands, F_InvalidHands⟩ := c.sup_ 39 (d := Hd.d_InvalidHands___init__) rfl rfl rfl
  let X_InvalidHands : Xe K mg P.main.file "InvalidHands" s_InvalidHands___init__ := { C := He.ga K "InvalidHands", f := He.ma K (He.ga K "InvalidHands") "__init__", cc := cc_InvalidHands, cda := cda_InvalidHands, fd := fd_InvalidHands, g := He.glo_ok X G (c.fact 0 (f := Hx.fGlo "InvalidHands") rfl), e := Hx.err_ok (c.fact 40 (f := Hx.fErr "InvalidHands") rfl), F := by rw [hfile]; exact F_InvalidHands }
  obtain ⟨cc_InvalidTurn, cda_InvalidTurn, fd_InvalidTurn, F_InvalidTurn⟩ := c.sup_ 40 (d := Hd.d_InvalidTurn___init__) rfl rfl rfl
  let X_InvalidTurn : Xe K mg P.main.file "InvalidTurn" s_InvalidTurn___init__ := { C := He.ga K "InvalidTurn", f := He.ma K (He.ga K "InvalidTurn") "__init__", cc := cc_InvalidTurn, cda := cda_InvalidTurn, fd := fd_InvalidTurn, g := He.glo_ok X G (c.fact 1 (f := Hx.fGlo "InvalidTurn") rfl), e := Hx.err_ok (c.fact 41 (f := Hx.fErr "InvalidTurn") rfl), F := by rw [hfile]; exact F_InvalidTurn }
  obtain ⟨cc_InvalidWorths, cda_InvalidWorths, fd_InvalidWorths, F_InvalidWorths⟩ := c.sup_ 41 (d := Hd.d_InvalidWorths___init__) rfl rfl rfl
  let X_InvalidWorths : Xe K mg P.main.file "InvalidWorths" s_InvalidWorths___init__ := { C := He.ga K "InvalidWorths", f := He.ma K (He.ga K "InvalidWorths") "__init__", cc := cc_InvalidWorths, cda := cda_InvalidWorths, fd := fd_InvalidWorths, g := He.glo_ok X G (c.fact 2 (f := Hx.fGlo "InvalidWorths") rfl), e := Hx.err_ok (c.fact 42 (f := Hx.fErr "InvalidWorths") rfl), F := by rw [hfile]; exact F_InvalidWorths }
  obtain ⟨fd_Even___init__, F_Even___init__⟩ := c.def_ 16 (d := Hd.d_Even___init__) rfl
  obtain ⟨fd_Even_quotients, F_Even_quotients⟩ := c.def_ 18 (d := Hd.d_Even_quotients) rfl
  obtain ⟨cc_Even_told, cda_Even_told, fd_Even_told, F_Even_told⟩ := c.sup_ 31 (d := Hd.d_Even_told) rfl rfl rfl
  obtain ⟨fd_Even_sup_told, F_Even_sup_told⟩ := c.def_ 32 (d := Hd.d_Even_sup_told) rfl
  obtain ⟨fd_Even_holds, F_Even_holds⟩ := c.def_ 19 (d := Hd.d_Even_holds) rfl
  obtain ⟨fd_Even___bool__, F_Even___bool__⟩ := c.def_ 33 (d := Hd.d_Even___bool__) rfl
  obtain ⟨fd_Even___repr__, F_Even___repr__⟩ := c.def_ 34 (d := Hd.d_Even___repr__) rfl
  obtain ⟨fd_Even_wanted, F_Even_wanted⟩ := c.def_ 17 (d := Hd.d_Even_wanted) rfl
  let K_Even : Kx_Even K mg P.main.file := { C := He.ga K "Even", g := He.glo_ok X G (c.fact 15 (f := Hx.fGlo "Even") rfl), cls := He.cls_ok (c.fact 62 (f := Hx.fCls "Even") rfl), isc := Hx.isc_ok (c.fact 63 (f := Hx.fIsc "Even") rfl), n_own_wanted := He.noat_ok (c.fact 69 (f := Hx.fNoat "Even" "own_wanted") rfl), n_own_quotients := He.noat_ok (c.fact 70 (f := Hx.fNoat "Even" "own_quotients") rfl), D___init__ := ⟨He.ma K (He.ga K "Even") "__init__", fd_Even___init__, F_Even___init__⟩, mkr := He.mkr_ok (c.fact 64 (f := Hx.fMkr "Even") rfl), D_quotients := ⟨He.ma K (He.ga K "Even") "quotients", fd_Even_quotients, F_Even_quotients⟩, h_quotients := He.meth_ok (c.fact 72 (f := Hx.fMeth "Even" "quotients") rfl), D_told := { f := He.ma K (He.ga K "Even") "told", cc := cc_Even_told, cda := cda_Even_told, fd := fd_Even_told, F := by rw [hfile]; exact F_Even_told }, D_sup_told := ⟨Hx.sA "Even" "told" K, fd_Even_sup_told, F_Even_sup_told⟩, su_told := Hx.supM_ok (c.fact 68 (f := Hx.fSup "Even" "told") rfl), h_told := He.meth_ok (c.fact 73 (f := Hx.fMeth "Even" "told") rfl), D_holds := ⟨He.ma K (He.ga K "Even") "holds", fd_Even_holds, F_Even_holds⟩, h_holds := He.meth_ok (c.fact 74 (f := Hx.fMeth "Even" "holds") rfl), D___bool__ := ⟨He.ma K (He.ga K "Even") "__bool__", fd_Even___bool__, F_Even___bool__⟩, o___bool__ := Hx.own_ok (c.fact 75 (f := Hx.fOwn "Even" "__bool__") rfl), D___repr__ := ⟨He.ma K (He.ga K "Even") "__repr__", fd_Even___repr__, F_Even___repr__⟩, o___repr__ := Hx.own_ok (c.fact 76 (f := Hx.fOwn "Even" "__repr__") rfl), ga := rfl, kit_Paper := Hx.kit_ok (c.fact 65 (f := Hx.fKit "Even" "Paper" true) rfl), D_wanted := ⟨Hx.rA "property" "Even" "wanted" K, fd_Even_wanted, F_Even_wanted⟩, q_wanted := He.ma K (He.ga K "Even") "wanted", p_wanted := Hx.prop_ok (c.fact 71 (f := Hx.fProp "Even" "wanted") rfl), c_KIND := Hx.con_ok (c.fact 66 (f := Hx.fCon "Even" "KIND" (.str "even")) rfl), c_GOOD := Hx.con_ok (c.fact 67 (f := Hx.fCon "Even" "GOOD" (.bl true)) rfl) }
  obtain ⟨fd_Uneven___init__, F_Uneven___init__⟩ := c.def_ 20 (d := Hd.d_Uneven___init__) rfl
  obtain ⟨fd_Uneven_worths, F_Uneven_worths⟩ := c.def_ 22 (d := Hd.d_Uneven_worths) rfl
  obtain ⟨cc_Uneven_told, cda_Uneven_told, fd_Uneven_told, F_Uneven_told⟩ := c.sup_ 35 (d := Hd.d_Uneven_told) rfl rfl rfl
  obtain ⟨fd_Uneven_sup_told, F_Uneven_sup_told⟩ := c.def_ 36 (d := Hd.d_Uneven_sup_told) rfl
  obtain ⟨fd_Uneven_holds, F_Uneven_holds⟩ := c.def_ 23 (d := Hd.d_Uneven_holds) rfl
  obtain ⟨fd_Uneven___bool__, F_Uneven___bool__⟩ := c.def_ 37 (d := Hd.d_Uneven___bool__) rfl
  obtain ⟨fd_Uneven___repr__, F_Uneven___repr__⟩ := c.def_ 38 (d := Hd.d_Uneven___repr__) rfl
  obtain ⟨fd_Uneven_power, F_Uneven_power⟩ := c.def_ 21 (d := Hd.d_Uneven_power) rfl
  let K_Uneven : Kx_Uneven K mg P.main.file := { C := He.ga K "Uneven", g := He.glo_ok X G (c.fact 16 (f := Hx.fGlo "Uneven") rfl), cls := He.cls_ok (c.fact 77 (f := Hx.fCls "Uneven") rfl), isc := Hx.isc_ok (c.fact 78 (f := Hx.fIsc "Uneven") rfl), n_own_power := He.noat_ok (c.fact 84 (f := Hx.fNoat "Uneven" "own_power") rfl), n_own_worths := He.noat_ok (c.fact 85 (f := Hx.fNoat "Uneven" "own_worths") rfl), D___init__ := ⟨He.ma K (He.ga K "Uneven") "__init__", fd_Uneven___init__, F_Uneven___init__⟩, mkr := He.mkr_ok (c.fact 79 (f := Hx.fMkr "Uneven") rfl), D_worths := ⟨He.ma K (He.ga K "Uneven") "worths", fd_Uneven_worths, F_Uneven_worths⟩, h_worths := He.meth_ok (c.fact 87 (f := Hx.fMeth "Uneven" "worths") rfl), D_told := { f := He.ma K (He.ga K "Uneven") "told", cc := cc_Uneven_told, cda := cda_Uneven_told, fd := fd_Uneven_told, F := by rw [hfile]; exact F_Uneven_told }, D_sup_told := ⟨Hx.sA "Uneven" "told" K, fd_Uneven_sup_told, F_Uneven_sup_told⟩, su_told := Hx.supM_ok (c.fact 83 (f := Hx.fSup "Uneven" "told") rfl), h_told := He.meth_ok (c.fact 88 (f := Hx.fMeth "Uneven" "told") rfl), D_holds := ⟨He.ma K (He.ga K "Uneven") "holds", fd_Uneven_holds, F_Uneven_holds⟩, h_holds := He.meth_ok (c.fact 89 (f := Hx.fMeth "Uneven" "holds") rfl), D___bool__ := ⟨He.ma K (He.ga K "Uneven") "__bool__", fd_Uneven___bool__, F_Uneven___bool__⟩, o___bool__ := Hx.own_ok (c.fact 90 (f := Hx.fOwn "Uneven" "__bool__") rfl), D___repr__ := ⟨He.ma K (He.ga K "Uneven") "__repr__", fd_Uneven___repr__, F_Uneven___repr__⟩, o___repr__ := Hx.own_ok (c.fact 91 (f := Hx.fOwn "Uneven" "__repr__") rfl), ga := rfl, kit_Paper := Hx.kit_ok (c.fact 80 (f := Hx.fKit "Uneven" "Paper" true) rfl), D_power := ⟨Hx.rA "property" "Uneven" "power" K, fd_Uneven_power, F_Uneven_power⟩, q_power := He.ma K (He.ga K "Uneven") "power", p_power := Hx.prop_ok (c.fact 86 (f := Hx.fProp "Uneven" "power") rfl), c_KIND := Hx.con_ok (c.fact 81 (f := Hx.fCon "Uneven" "KIND" (.str "uneven")) rfl), c_GOOD := Hx.con_ok (c.fact 82 (f := Hx.fCon "Uneven" "GOOD" (.bl false)) rfl) }
  obtain ⟨fd_Row___init__, F_Row___init__⟩ := c.def_ 7 (d := Hd.d_Row___init__) rfl
  obtain ⟨fd_Row_turns, F_Row_turns⟩ := c.def_ 8 (d := Hd.d_Row_turns) rfl
  obtain ⟨fd_Row_totals, F_Row_totals⟩ := c.def_ 9 (d := Hd.d_Row_totals) rfl
  obtain ⟨fd_Row___len__, F_Row___len__⟩ := c.def_ 10 (d := Hd.d_Row___len__) rfl
  let K_Row : Kx_Row K mg := { C := He.ga K "Row", g := He.glo_ok X G (c.fact 12 (f := Hx.fGlo "Row") rfl), cls := He.cls_ok (c.fact 43 (f := Hx.fCls "Row") rfl), n_hands := He.noat_ok (c.fact 45 (f := Hx.fNoat "Row" "hands") rfl), n_own_turns := He.noat_ok (c.fact 46 (f := Hx.fNoat "Row" "own_turns") rfl), D___init__ := ⟨He.ma K (He.ga K "Row") "__init__", fd_Row___init__, F_Row___init__⟩, mkr := He.mkr_ok (c.fact 44 (f := Hx.fMkr "Row") rfl), D_turns := ⟨He.ma K (He.ga K "Row") "turns", fd_Row_turns, F_Row_turns⟩, h_turns := He.meth_ok (c.fact 47 (f := Hx.fMeth "Row" "turns") rfl), D_totals := ⟨He.ma K (He.ga K "Row") "totals", fd_Row_totals, F_Row_totals⟩, h_totals := He.meth_ok (c.fact 48 (f := Hx.fMeth "Row" "totals") rfl), D___len__ := ⟨He.ma K (He.ga K "Row") "__len__", fd_Row___len__, F_Row___len__⟩, o___len__ := Hx.own_ok (c.fact 49 (f := Hx.fOwn "Row" "__len__") rfl) }
  obtain ⟨fd_Paper_told, F_Paper_told⟩ := c.def_ 11 (d := Hd.d_Paper_told) rfl
  obtain ⟨fd_Paper_holds, F_Paper_holds⟩ := c.def_ 12 (d := Hd.d_Paper_holds) rfl
  obtain ⟨fd_Paper___bool__, F_Paper___bool__⟩ := c.def_ 13 (d := Hd.d_Paper___bool__) rfl
  obtain ⟨fd_Paper___repr__, F_Paper___repr__⟩ := c.def_ 14 (d := Hd.d_Paper___repr__) rfl
  let K_Paper : Kx_Paper K mg := { C := He.ga K "Paper", g := He.glo_ok X G (c.fact 13 (f := Hx.fGlo "Paper") rfl), cls := He.cls_ok (c.fact 50 (f := Hx.fCls "Paper") rfl), isc := Hx.isc_ok (c.fact 51 (f := Hx.fIsc "Paper") rfl), D_told := ⟨He.ma K (He.ga K "Paper") "told", fd_Paper_told, F_Paper_told⟩, h_told := He.meth_ok (c.fact 58 (f := Hx.fMeth "Paper" "told") rfl), D_holds := ⟨He.ma K (He.ga K "Paper") "holds", fd_Paper_holds, F_Paper_holds⟩, h_holds := He.meth_ok (c.fact 59 (f := Hx.fMeth "Paper" "holds") rfl), D___bool__ := ⟨He.ma K (He.ga K "Paper") "__bool__", fd_Paper___bool__, F_Paper___bool__⟩, o___bool__ := Hx.own_ok (c.fact 60 (f := Hx.fOwn "Paper" "__bool__") rfl), D___repr__ := ⟨He.ma K (He.ga K "Paper") "__repr__", fd_Paper___repr__, F_Paper___repr__⟩, o___repr__ := Hx.own_ok (c.fact 61 (f := Hx.fOwn "Paper" "__repr__") rfl), mkr0 := Hx.mkr0_ok (c.fact 52 (f := Hx.fMkr0 "Paper") rfl), ga := rfl, kit_Even := Hx.kit_ok (c.fact 53 (f := Hx.fKit "Paper" "Even" false) rfl), c_KIND := Hx.con_ok (c.fact 54 (f := Hx.fCon "Paper" "KIND" (.str "open")) rfl), c_GOOD := Hx.con_ok (c.fact 56 (f := Hx.fCon "Paper" "GOOD" (.bl false)) rfl), cv_KIND := Hx.cv_ok (c.fact 55 (f := Hx.fCv "Paper" "KIND" (.str "open")) rfl), cv_GOOD := Hx.cv_ok (c.fact 57 (f := Hx.fCv "Paper" "GOOD" (.bl false)) rfl) }
  have e := hfa.symm.trans (He.glo_ok X G (c.fact 23 (f := Hx.fGlo "law") rfl))
  cases e
  have b := FunD.bindsA (ps := ["_law_script"]) F_law fun _ _ _ _ _ _ us hl => match us, hl with | [_], _ => rfl
  exact ⟨fd_law, fun s v => b s [v] rfl, fun base _ _ => ok_law (T := ⟨He.free_ok X G (c.fact 24 (f := Hx.fFree "isinstance") rfl), He.free_ok X G (c.fact 25 (f := Hx.fFree "int") rfl), He.free_ok X G (c.fact 26 (f := Hx.fFree "bool") rfl), He.free_ok X G (c.fact 27 (f := Hx.fFree "str") rfl), He.free_ok X G (c.fact 28 (f := Hx.fFree "list") rfl), He.free_ok X G (c.fact 29 (f := Hx.fFree "tuple") rfl), He.free_ok X G (c.fact 30 (f := Hx.fFree "len") rfl), He.free_ok X G (c.fact 31 (f := Hx.fFree "range") rfl), He.free_ok X G (c.fact 32 (f := Hx.fFree "zip") rfl), He.free_ok X G (c.fact 33 (f := Hx.fFree "enumerate") rfl), He.free_ok X G (c.fact 34 (f := Hx.fFree "min") rfl), He.free_ok X G (c.fact 35 (f := Hx.fFree "all") rfl), He.free_ok X G (c.fact 36 (f := Hx.fFree "any") rfl), He.free_ok X G (c.fact 37 (f := Hx.fFree "set") rfl), He.free_ok X G (c.fact 38 (f := Hx.fFree "super") rfl), He.free_ok X G (c.fact 39 (f := Hx.fFree "repr") rfl), He.int_ok X G (c.fact 9 (f := Hx.fInt "MOST_TURNS" 2000) rfl), He.str_ok X G (c.fact 10 (f := Hx.fStr "DIGITS" "0123") rfl)⟩) (K_Even := K_Even) (K_Uneven := K_Uneven) (K_Row := K_Row) (K_Paper := K_Paper) (X_InvalidHands := X_InvalidHands) (X_InvalidTurn := X_InvalidTurn) (X_InvalidWorths := X_InvalidWorths) (D_law := ⟨Hx.gA "law" K, fd_law, F_law, He.glo_ok X G (c.fact 23 (f := Hx.fGlo "law") rfl)⟩) (D__law_bag := ⟨Hx.gA "_law_bag" K, fd__law_bag, F__law_bag, He.glo_ok X G (c.fact 17 (f := Hx.fGlo "_law_bag") rfl)⟩) (D__law_pull := ⟨Hx.gA "_law_pull" K, fd__law_pull, F__law_pull, He.glo_ok X G (c.fact 18 (f := Hx.fGlo "_law_pull") rfl)⟩) (D__law_number := ⟨Hx.gA "_law_number" K, fd__law_number, F__law_number, He.glo_ok X G (c.fact 21 (f := Hx.fGlo "_law_number") rfl)⟩) (D__law_pick := ⟨Hx.gA "_law_pick" K, fd__law_pick, F__law_pick, He.glo_ok X G (c.fact 19 (f := Hx.fGlo "_law_pick") rfl)⟩) (D_as_list := ⟨Hx.gA "as_list" K, fd_as_list, F_as_list, He.glo_ok X G (c.fact 7 (f := Hx.fGlo "as_list") rfl)⟩) (D_copied := ⟨Hx.gA "copied" K, fd_copied, F_copied, He.glo_ok X G (c.fact 8 (f := Hx.fGlo "copied") rfl)⟩) (D__law_same := ⟨Hx.gA "_law_same" K, fd__law_same, F__law_same, He.glo_ok X G (c.fact 20 (f := Hx.fGlo "_law_same") rfl)⟩) (D__law_value := ⟨Hx.gA "_law_value" K, fd__law_value, F__law_value, He.glo_ok X G (c.fact 22 (f := Hx.fGlo "_law_value") rfl)⟩) (D_check_hands := ⟨Hx.gA "check_hands" K, fd_check_hands, F_check_hands, He.glo_ok X G (c.fact 11 (f := Hx.fGlo "check_hands") rfl)⟩) (D_is_number := ⟨Hx.gA "is_number" K, fd_is_number, F_is_number, He.glo_ok X G (c.fact 3 (f := Hx.fGlo "is_number") rfl)⟩) (D_are_numbers := ⟨Hx.gA "are_numbers" K, fd_are_numbers, F_are_numbers, He.glo_ok X G (c.fact 4 (f := Hx.fGlo "are_numbers") rfl)⟩) (D_times_step := ⟨Hx.gA "times_step" K, fd_times_step, F_times_step, He.glo_ok X G (c.fact 6 (f := Hx.fGlo "times_step") rfl)⟩) (D_parting := ⟨Hx.gA "parting" K, fd_parting, F_parting, He.glo_ok X G (c.fact 14 (f := Hx.fGlo "parting") rfl)⟩) (D_differences := ⟨Hx.gA "differences" K, fd_differences, F_differences, He.glo_ok X G (c.fact 5 (f := Hx.fGlo "differences") rfl)⟩) (hsup := He.free_ok X G (c.fact 38 (f := Hx.fFree "super") rfl)) (htop := htop)⟩
end Hd
namespace DL
open PySem PySem.Spec PyProof.Rows L2
/-- the end for a law whose defs may raise: what goes out of a call is told by the world -/
theorem walk_ofW {l : PySem.W.OpenLaw} {n k : Nat} {q : Program} {loose : List Str} {XP : (Str → Option Value) → Heap → Prop} {YP : World → Heap → Prop} {d : DefRec} {CX : World → CXT} {x : Str}
    (hn : l.most = some n) (hn2 : n ≤ sizeLine) (hdf : d.params.defaults = []) (hr : Room k callerA)
    (hF : ∀ (w : World) (mg : Str → Option Value) (fa : Addr) (h : Heap), YP w h → h.Ns mainGlobals mg → mg d.name = some (.ref fa) →
      ∃ (K : PySem.W.Frag) (fd : FuncData) (sp : Sp), K.In h ∧ (∀ (s : Shared) (u : Value), BindsTo s fd ⟨[u], []⟩ [(x, u)]) ∧
        (∀ (H : Hp) (a : Addr) (ns : List Int), ns.length ≤ n → Only H → SqL K H a (ns.map V.int) → sp [.ref a] H (fun v _ => v = .bl true) fun _ _ _ => False) ∧
        ∀ base : Heap, K.In base → base.Ns mainGlobals mg → FnOk l.prog w K mg base (CX w) k fa fd [x] sp)
    (hCX : ∀ (w : World) (H : Hp) (s : Shared) (e : Value) (s' : Shared), CX w [] H s (fun _ _ _ => False) e s' → False) :
    PySem.W.WalkO q loose XP YP l.row.toRowW d [] (fun f vs => PySem.call f vs) := by
  refine Att.attach_call hn hdf fun w s0 s1 mg mb fa o pm cd doc a vs ns G Y ho hd hcd hmg hobj hints hlen hg => ?_
  obtain ⟨K, fd, sp, KX, hb, hsp, hok⟩ := hF w mg fa _ Y G.T.g hmg
  exact law_call KX G.T.g G.T.b G.T.builtins G.T.nolimit hg hobj hints (Nat.le_trans hlen hn2) hr hok hb (fun H hO hS => hsp H a ns hlen hO hS) fun H e s' => hCX w H s1 e s'
end DL
open PySem PySem.W PySem.Calls PyProof.Rows
set_option maxHeartbeats 0
theorem PySem.Challenge.cw_evenpicks_k22_papers_told_holds : PySem.Challenge.rw_evenpicks_k22_papers_told.Holds := by
  w_on; o_law
  refine HandSHeadRun.head_any (r := OpenLaw.row PySem.Challenge.rw_evenpicks_k22_papers_told) (q := view (OpenLaw.row PySem.Challenge.rw_evenpicks_k22_papers_told).prog [35]) (H := Hd.hk) (ob := Hd.ob) (M := 11600) (loose := Hd.names) (d := HandSHeadRun.topDef (OpenLaw.row PySem.Challenge.rw_evenpicks_k22_papers_told).prog 35) (kwd := []) Hd.ob_eq
    (by kernel_rfl) (fun s => by kernel_rfl) Hd.run (by kernel_rfl) (by kernel_rfl) (by kernel_rfl) (by rfl) (by first | assumption | decide +kernel) (by decide +kernel) ⟨rfl, rfl, rfl, rfl, rfl, by decide +kernel⟩ ?hw ?hc
  case hw => w_witness2
  case hc =>
    refine DL.walk_ofW (l := PySem.Challenge.rw_evenpicks_k22_papers_told) (n := 63) (k := 20) (x := "_law_script") (CX := fun w => L2.CX (PySem.Challenge.rw_evenpicks_k22_papers_told).prog w) rfl (by decide) (by kernel_rfl) ⟨rfl, by decide, by decide⟩ ?F (fun w H s e s' z => by obtain ⟨_, _, _, _, _, _, _, _, _, _, _, _, z⟩ := z; exact z.elim)
    intro w mg fa h Y G hmg0
    obtain ⟨K, KX, c⟩ := Y
    have hmg : mg ("law" : PySem.Str) = some (.ref fa) := by
      have e : (HandSHeadRun.topDef (OpenLaw.row PySem.Challenge.rw_evenpicks_k22_papers_told).prog 35).name = ("law" : PySem.Str) := by kernel_rfl
      rw [← e]
      exact hmg0
    obtain ⟨fd, hb, hF⟩ := Hd.facts (P := (PySem.Challenge.rw_evenpicks_k22_papers_told).prog) (w := w) KX G hmg (by kernel_rfl) (by kernel_rfl) c
    exact ⟨K, fd, DL.spLaw K, KX, hb, fun H a ns hl _ hS => ⟨a, ns, rfl, hS, hl, (fun p hp => nomatch hp), fun _ => rfl⟩, hF⟩
