import PyProof.Rows.All
import Wide.All
import OpenK.AllK
import Wide.FinOn
import KE.KStateDown
import Lean
import HandS.Base
import HandS.Call
import HandS.Ends
import HandS.More
import HandS.Words
import HandS.WordsExc
import KE.KNestM
import HandS.Defaults
import HandS.Head0
import HandS.Head1
import HandS.Head2
import HandS.HeadEnd
import HandS.HeadHook1
import HandS.HeadHook2
import HandS.Property
import HandS.Exc
import HandS.ExcInit
import HandS.ExcField
import KE.KSuper
import KE.KTryMore
import KE.DataEq
import HandS.ForMost
import HandS.Wide
import HandS.IsInst
import HandS.TupAny
import HandS.Flow
import HandS.Zip
import HandS.Lambda
import KE.KDflt
import HandS.Star
import HandS.Style
import KE.KOpsOwn
import HandS.OwnEq
import HandS.Text
import HandS.ClsMeth
import KE.GoesMore
import KE.KExcSuper
import HandS.HotCalls
import HandS.MakeKwOnly
import HandS.FStr
import KE.GoesEnumKw
import HandS.TupMul
import HandS.List
import HandS.EndTab
import HandS.EndOwn
import PySem.Challenge.RW_evenpicks_k30_bent_papers_of_classes_fal
set_option Elab.async false
set_option linter.all false
set_option maxRecDepth 100000
set_option maxHeartbeats 4000000
set_option autoImplicit false
namespace Hx
open PySem PySem.Spec L2
/-- a global's address; a class's method; what a property, a static method of a class holds -/
def gA (x : Str) : PySem.W.Frag → Addr := fun K => He.ga K x
def mA (c m : Str) : PySem.W.Frag → Addr := fun K => He.ma K (He.ga K c) m
def rA (kind : String) (c m : Str) : PySem.W.Frag → Addr := fun K => match PySem.W.recIn K (He.ma K (He.ga K c) m) kind with
  | some (.ref g :: _) => g
  | _ => 0
structure DefX where
  ad : PySem.W.Frag → Addr
  name : Str
  qual : Str
  params : Arguments
  body : List Stmt
  scope : Scope
  dfl : List He.Dv := []
  kwd : List (Str × He.Dv) := []
  /-- a def that says super(): its class, the program's file -/
  sup : Option (Str × Str) := none
/-- the cell of a class is told apart (supB) -/
def cloX (l : List (Str × Addr)) : List (Str × Addr) := match l with
  | [(n, c)] => if n = "__class__" then [] else [(n, c)]
  | l => l
def fnX (K : PySem.W.Frag) (a : Addr) : He.FnW := match K.lookup a with
  | some ⟨_, _, .func fd, _⟩ => some (fd.name, fd.qualname, fd.params, fd.body, fd.scope, fd.globals, cloX fd.closure, fd.builtins)
  | _ => none
/-- the cell holds the class C, the code is of this file -/
def supB (K : PySem.W.Frag) (C : Addr) (fl : Str) (clo : List (Str × Addr)) (code : Value) : Bool := match clo, code with
  | [(n, cc)], .ref cda => decide (n = "__class__") && ((match K.lookup cc with
      | some ⟨_, _, .cell (some (.ref D)), _⟩ => decide (D = C)
      | _ => false) && ((match K.lookup cda with
      | some ⟨_, _, .fields vs, _⟩ => (match (vs[2]? : Option Value) with
          | some (Value.str file _) => fl == file
          | _ => false)
      | _ => false) && (PySem.W.clsIn K C).isSome))
  | _, _ => false
def cloB (K : PySem.W.Frag) (sup : Option (Str × Str)) (clo : List (Str × Addr)) (code : Value) : Bool := match sup with
  | none => clo.isEmpty
  | some (c, fl) => supB K (He.ga K c) fl clo code
def DefX.val (d : DefX) : He.FnW := some (d.name, d.qual, d.params, .stmts d.body, d.scope, mainGlobals, [], builtinsNs)
def DefX.dvs (K : PySem.W.Frag) (d : DefX) : List V := d.dfl.map (He.Dv.v K)
def DefX.kws (K : PySem.W.Frag) (d : DefX) : List (Str × V) := d.kwd.map fun q => (q.1, q.2.v K)
def DefX.ok (K : PySem.W.Frag) (d : DefX) : Bool := PySem.W.keepIn K (.ref (d.ad K)) && (match K.lookup (d.ad K) with
  | some ⟨_, _, .func fd, _⟩ => (PySem.W.codeIn K fd.code d.qual && (He.dflB K fd.defaults (d.dvs K) && He.kwdB K fd.kwdefaults (d.kws K))) && cloB K d.sup fd.closure fd.code
  | _ => false)
theorem DefX.funD {K : PySem.W.Frag} {d : DefX} (e : fnX K (d.ad K) = d.val) (c : d.ok K = true) (hs : d.sup = none) : ∃ fd, FunD K d.name d.qual d.params d.body d.scope (d.dvs K) (d.kws K) (d.ad K) fd := by
  obtain ⟨kp, c2⟩ := He.ba c
  unfold fnX at e
  cases q : K.lookup (d.ad K) with
  | none =>
    rw [q] at c2
    cases c2
  | some o =>
    obtain ⟨oc, od, dt, osl⟩ := o
    rw [q] at c2 e
    cases dt with
    | func fd =>
      obtain ⟨n1, n2, n3, n4, n5, n6, n7, n8, n9, n10, n11, n12, n13, n14, n15⟩ := fd
      have c9 : ((PySem.W.codeIn K n13 d.qual && (He.dflB K n8 (d.dvs K) && He.kwdB K n9 (d.kws K))) && cloB K d.sup n7 n13) = true := c2
      obtain ⟨c3, c4⟩ := He.ba c9
      have c5 : n7 = [] := by
        rw [hs] at c4
        exact List.isEmpty_iff.mp c4
      subst c5
      have e2 : (some (n1, n2, n3, n4, n5, n6, ([] : List (Str × Addr)), n15) : He.FnW) = some (d.name, d.qual, d.params, .stmts d.body, d.scope, mainGlobals, [], builtinsNs) := e
      simp only [Option.some.injEq, Prod.mk.injEq] at e2
      obtain ⟨h1, h2, h3, h4, h5, h6, h7, h8⟩ := e2
      subst h1 h2 h3 h4 h5 h6 h8
      obtain ⟨k1, k2⟩ := He.ba c3
      obtain ⟨k3, k4⟩ := He.ba k2
      exact ⟨_, ⟨oc, od, n8, n9, n10, n11, n12, n13, n14, osl, rfl, q, k1, He.dflB_ok k3, He.kwdB_ok k4⟩, kp⟩
    | _ => cases c2
def obsX (fx : List (PySem.W.Frag → Bool)) (fn : List DefX) (K : PySem.W.Frag) : He.AlD := ((fx.all fun f => f K) && fn.all fun d => d.ok K, fn.map fun d => fnX K (d.ad K))
def valX (fn : List DefX) : He.AlD := (true, fn.map DefX.val)
def SaysX (fx : List (PySem.W.Frag → Bool)) (fn : List DefX) (K : PySem.W.Frag) : Prop := obsX fx fn K = valX fn
def obsXG (n : (Addr → Option Obj) → List Addr) (fx : List (PySem.W.Frag → Bool)) (fn : List DefX) (g : Addr → Option Obj) : He.AlD := obsX fx fn (He.frG g (n g))
def hookX (n : (Addr → Option Obj) → List Addr) (fx : List (PySem.W.Frag → Bool)) (fn : List DefX) : PySem.W.Hook where
  α := He.AlD
  obs := fun s => obsXG n fx fn s.heap.get?
  val := fun _ => valX fn
  says := fun _ h => ∃ K : PySem.W.Frag, K.In h ∧ SaysX fx fn K
  of := fun _ _ e => ⟨_, He.frG_in, e⟩
  keeps := fun _ _ _ ⟨K, hK, c⟩ k => ⟨K, PySem.W.Frag.In.keeps hK k, c⟩
theorem obsXG_eq {n : (Addr → Option Obj) → List Addr} {fx : List (PySem.W.Frag → Bool)} {fn : List DefX} {g : Addr → Option Obj} {s : Shared} (h : ∀ a, g a = s.heap.get? a) : obsXG n fx fn g = (hookX n fx fn).obs s := by
  have e : g = s.heap.get? := funext h
  rw [e] <;> rfl
section
variable {fx : List (PySem.W.Frag → Bool)} {fn : List DefX} {K : PySem.W.Frag}
theorem SaysX.fact (c : SaysX fx fn K) (i : Nat) {f : PySem.W.Frag → Bool} (h : fx[i]? = some f := by rfl) : f K = true := by
  have c1 := (He.ba (show ((fx.all fun f => f K) && fn.all fun d => d.ok K) = true from congrArg (fun z : He.AlD => z.1) c)).1
  exact List.all_eq_true.mp c1 f (List.mem_of_getElem? h)
theorem SaysX.def_ (c : SaysX fx fn K) (i : Nat) {d : DefX} (h : fn[i]? = some d := by rfl) (hs : d.sup = none := by rfl) : ∃ fd, FunD K d.name d.qual d.params d.body d.scope (d.dvs K) (d.kws K) (d.ad K) fd := by
  have c2 := (He.ba (show ((fx.all fun f => f K) && fn.all fun d => d.ok K) = true from congrArg (fun z : He.AlD => z.1) c)).2
  have e : fn.map (fun d => fnX K (d.ad K)) = fn.map DefX.val := congrArg (fun z : He.AlD => z.2) c
  have e2 : (fn.map fun d => fnX K (d.ad K))[i]? = (fn.map DefX.val)[i]? := by rw [e]
  rw [List.getElem?_map, List.getElem?_map, h] at e2
  exact DefX.funD (Option.some.inj e2) (List.all_eq_true.mp c2 d (List.mem_of_getElem? h)) hs
end
def fGlo (x : Str) : PySem.W.Frag → Bool := fun K => (He.Fa.glo x).ok K
def fFree (x : Str) : PySem.W.Frag → Bool := fun K => (He.Fa.free x).ok K
def fInt (x : Str) (i : Int) : PySem.W.Frag → Bool := fun K => (He.Fa.int x i).ok K
def fStr (x z : Str) : PySem.W.Frag → Bool := fun K => (He.Fa.str x z).ok K
def fCls (x : Str) : PySem.W.Frag → Bool := fun K => (He.Fa.cls x).ok K
def fMkr (x : Str) : PySem.W.Frag → Bool := fun K => (He.Fa.mkr x).ok K
def fMeth (x m : Str) : PySem.W.Frag → Bool := fun K => (He.Fa.meth x m).ok K
def fNoat (x f : Str) : PySem.W.Frag → Bool := fun K => (He.Fa.noat x f).ok K
/-- a property f of the class x -/
def fProp (x f : Str) : PySem.W.Frag → Bool := fun K => let C := He.ga K x; let p := He.ma K C f
  He.eqO (PySem.W.findIn K (.ref C) f) (some (some (.ref p))) && (decide (PySem.W.specialIn K (.ref p) "__get__" = some (some (.builtin "property.__get__"))) && (decide (PySem.W.takesIn K (.ref p) = some true) &&
    (match PySem.W.recIn K p "property" with
      | some (.ref g :: _) => true
      | _ => false)))
theorem prop_ok {K : PySem.W.Frag} {x f : Str} (h : fProp x f K = true) : PropOf K (He.ga K x) f (He.ma K (He.ga K x) f) (rA "property" x f K) := by
  obtain ⟨h1, h2⟩ := He.ba h
  obtain ⟨h3, h4⟩ := He.ba h2
  obtain ⟨h5, h6⟩ := He.ba h4
  refine ⟨He.eqO_ok h1, of_decide_eq_true h3, of_decide_eq_true h5, ?_⟩
  unfold rA
  split at h6
  · rename_i g rest e
    exact ⟨rest, by rw [e]⟩
  · cases h6
end Hx
namespace Hx
open PySem PySem.Spec L2
/-- the class x has its own def m (an operator) -/
structure Own (K : PySem.W.Frag) (C : Addr) (m : Str) (g : Addr) : Prop where
  first : PySem.W.selfFirst K C = true
  at_ : PySem.W.findIn K (.ref C) m = some (some (.ref g))
  fn : PySem.W.isFn K (.ref g) = true
def fOwn (x m : Str) : PySem.W.Frag → Bool := fun K => let C := He.ga K x; let g := He.ma K C m
  PySem.W.selfFirst K C && (He.eqO (PySem.W.findIn K (.ref C) m) (some (some (.ref g))) && PySem.W.isFn K (.ref g))
theorem own_ok {K : PySem.W.Frag} {x m : Str} (h : fOwn x m K = true) : Own K (He.ga K x) m (He.ma K (He.ga K x) m) := by
  obtain ⟨h1, h2⟩ := He.ba h
  obtain ⟨h3, h4⟩ := He.ba h2
  exact ⟨h1, He.eqO_ok h3, h4⟩
end Hx
namespace Hx
open PySem PySem.Spec L2
/-- the class's static method m: its record at p, its def at g -/
structure Stat (K : PySem.W.Frag) (C : Addr) (m : Str) (p g : Addr) : Prop where
  rd : PySem.W.readsIn K C (.type "type") = true
  ga : PySem.W.specialIn K (.ref C) "__getattribute__" = some (some (.builtin "type.__getattribute__"))
  at_ : PySem.W.findCls K (.ref C) (.type "type") m = some (.get (.builtin "staticmethod.__get__") (.ref p) .none (.ref C))
  rc : ∃ rest, PySem.W.recIn K p "staticmethod" = some (.ref g :: rest)
def statFound (K : PySem.W.Frag) (C p : Addr) (m : Str) : Bool := match PySem.W.findCls K (.ref C) (.type "type") m with
  | some (.get (.builtin b) (.ref q) .none (.ref C')) => decide (b = "staticmethod.__get__") && (decide (q = p) && decide (C' = C))
  | _ => false
theorem statFound_ok {K : PySem.W.Frag} {C p : Addr} {m : Str} (h : statFound K C p m = true) : PySem.W.findCls K (.ref C) (.type "type") m = some (.get (.builtin "staticmethod.__get__") (.ref p) .none (.ref C)) := by
  unfold statFound at h
  split at h
  · rename_i b q C' e
    obtain ⟨h1, h2⟩ := He.ba h
    obtain ⟨h3, h4⟩ := He.ba h2
    rw [e, of_decide_eq_true h1, of_decide_eq_true h3, of_decide_eq_true h4]
  · cases h
def fStat (x m : Str) : PySem.W.Frag → Bool := fun K => let C := He.ga K x; let p := He.ma K C m
  PySem.W.readsIn K C (.type "type") && (He.eqO (PySem.W.specialIn K (.ref C) "__getattribute__") (some (some (.builtin "type.__getattribute__"))) && (statFound K C p m && (match PySem.W.recIn K p "staticmethod" with
    | some (.ref g :: _) => true
    | _ => false)))
theorem stat_ok {K : PySem.W.Frag} {x m : Str} (h : fStat x m K = true) : Stat K (He.ga K x) m (He.ma K (He.ga K x) m) (rA "staticmethod" x m K) := by
  obtain ⟨h1, h2⟩ := He.ba h
  obtain ⟨h3, h4⟩ := He.ba h2
  obtain ⟨h5, h6⟩ := He.ba h4
  refine ⟨h1, He.eqO_ok h3, statFound_ok h5, ?_⟩
  unfold rA
  split at h6
  · rename_i g rest e
    exact ⟨rest, by rw [e]⟩
  · cases h6
end Hx
namespace Hx
open PySem PySem.Spec L2
def oexB (K : PySem.W.Frag) (C : Addr) : Bool := match K.lookup C with
  | some ⟨.type "type", _, .cls cd, sl⟩ => (match cd.mro, sl.toList with
      | .ref C' :: bm, [_, _, _, _, some (.builtin n), _] => decide (C' = C) && (decide (n = "ValueError.__new__") && (!cd.hasDel && (cd.hasDict && HandSPX.refsVE bm)))
      | _, _ => false)
  | _ => false
theorem oexB_ok {K : PySem.W.Frag} {C : Addr} (h : oexB K C = true) : ∃ nm q N bs bm sn sub ab col dd k0 k1 k2 k3 k5, K.lookup C = some (excClassObj nm q C N bs bm true sn sub ab col dd k0 k1 k2 k3 k5 "ValueError.__new__") ∧ PySem.HandSPX.refsVE bm = true := by
  unfold oexB at h
  split at h
  · rename_i dd cd sl ho
    split at h
    · rename_i C' bm k0 k1 k2 k3 n k5 hm hs
      obtain ⟨h1, h⟩ := He.ba h
      obtain ⟨h2, h⟩ := He.ba h
      obtain ⟨h3, h⟩ := He.ba h
      obtain ⟨h4, h5⟩ := He.ba h
      have h1 := of_decide_eq_true h1
      have h2 := of_decide_eq_true h2
      subst h1 h2
      obtain ⟨nm, bs, mro, ns, qn, hd, sn, sub, ab, col, del⟩ := cd
      dsimp only at hm h3 h4
      subst hm h4
      have h3 : del = false := by simpa using h3
      subst h3
      have hsl : sl = #[k0, k1, k2, k3, some (.builtin "ValueError.__new__"), k5] := by
        obtain ⟨l⟩ := sl
        simp only at hs
        subst hs
        rfl
      subst hsl
      exact ⟨_, _, _, _, _, _, _, _, _, _, _, _, _, _, _, ho, h5⟩
    · cases h
  · cases h
def errNames : List Str := ["code", "at", "most", "name", "user", "limit", "line", "given"]
/-- all that raising and catching such an exception asks of its class -/
def fErr (x : Str) : PySem.W.Frag → Bool := fun K => let C := He.ga K x; let f := He.ma K C "__init__"
  oexB K C && (He.eqO (PySem.W.findIn K (.ref C) "__setattr__") (some (some (.builtin "object.__setattr__"))) && (decide (PySem.W.subIn K (.ref C) (.type "BaseException") = some true) && (decide (PySem.W.typeIn K (.ref C) = some (.type "type")) && (PySem.W.keepIn K (.ref C) &&
  (decide (PySem.W.nsIn K PySem.cStatics "thirdparty.any" = some none) && (He.eqO (PySem.W.ks_superIn K C C "__init__") (some (some (.builtin "ValueError.__init__"))) && (decide (PySem.W.mroIn K C (.ref C) = some true) && (decide (PySem.W.subIn K (.ref C) (.type "ValueError") = some true) &&
  (He.eqO (PySem.W.findIn K (.ref C) "__init__") (some (some (.ref f))) && (decide (PySem.W.typeIn K (.ref f) = some (.type "function")) && (L2.xfB K C && (errNames.all fun n => He.eqO (PySem.W.findIn K (.ref C) n) (some none)))))))))))))
structure ErrX (K : PySem.W.Frag) (C f : Addr) : Prop where
  ox : OexC K C
  st : PySem.W.nsIn K PySem.cStatics "thirdparty.any" = some none
  su : PySem.W.ks_superIn K C C "__init__" = some (some (.builtin "ValueError.__init__"))
  mr : PySem.W.mroIn K C (.ref C) = some true
  ve : PySem.W.subIn K (.ref C) (.type "ValueError") = some true
  iC : PySem.W.findIn K (.ref C) "__init__" = some (some (.ref f))
  tI : PySem.W.typeIn K (.ref f) = some (.type "function")
  xf : XfC K C
  na : ∀ n ∈ errNames, PySem.W.findIn K (.ref C) n = some none
theorem err_ok {K : PySem.W.Frag} {x : Str} (h : fErr x K = true) : ErrX K (He.ga K x) (He.ma K (He.ga K x) "__init__") := by
  obtain ⟨h1, h⟩ := He.ba h
  obtain ⟨h2, h⟩ := He.ba h
  obtain ⟨h3, h⟩ := He.ba h
  obtain ⟨h4, h⟩ := He.ba h
  obtain ⟨h5, h⟩ := He.ba h
  obtain ⟨h6, h⟩ := He.ba h
  obtain ⟨h7, h⟩ := He.ba h
  obtain ⟨h8, h⟩ := He.ba h
  obtain ⟨h9, h⟩ := He.ba h
  obtain ⟨h10, h⟩ := He.ba h
  obtain ⟨h11, h⟩ := He.ba h
  obtain ⟨h12, h13⟩ := He.ba h
  exact ⟨⟨oexB_ok h1, He.eqO_ok h2, of_decide_eq_true h3, of_decide_eq_true h4, h5⟩, of_decide_eq_true h6, He.eqO_ok h7, of_decide_eq_true h8, of_decide_eq_true h9, He.eqO_ok h10, of_decide_eq_true h11, xfB_ok h12, fun n hn => He.eqO_ok (List.all_eq_true.mp h13 n hn)⟩
end Hx
namespace Hx
open PySem PySem.Spec L2
/-- the def that super().m finds, of an object of the class c, in the text of c -/
def sA (c m : Str) : PySem.W.Frag → Addr := fun K => let C := He.ga K c; match PySem.W.ks_superIn K C C m with
  | some (some (.ref g)) => g
  | _ => 0
def fSup (x m : Str) : PySem.W.Frag → Bool := fun K => let C := He.ga K x; let g := sA x m K
  decide (PySem.W.nsIn K PySem.cStatics "thirdparty.any" = some none) && ((PySem.W.clsIn K C).isSome && (decide (PySem.W.mroIn K C (.ref C) = some true) && (He.eqO (PySem.W.ks_superIn K C C m) (some (some (.ref g))) && (decide (PySem.W.typeIn K (.ref g) = some (.type "function")) && PySem.W.fnIn K g))))
def relB : V → Value → Bool
  | .str a, .str b _ => decide (a = b)
  | .int a, .int b _ => decide (a = b)
  | .bl a, .bool b => decide (a = b)
  | .non, .none => true
  | _, _ => false
def fCon (x f : Str) (v : V) : PySem.W.Frag → Bool := fun K => match PySem.W.findIn K (.ref (He.ga K x)) f with
  | some (some u) => relB v u && (decide (PySem.W.specialIn K u "__get__" = some none) && (PySem.W.handedIn u && !PySem.W.copiedNames.contains f))
  | _ => false
end Hx
set_option maxHeartbeats 0
namespace Hd
open PySem PySem.Spec PyProof.Rows L2
def top (i : Nat) : Stmt := PySem.Challenge.pw_evenpicks_k30_bent_papers_of_classes_fal.main.body.getD i (.Pass ⟨0, 0, 0, 0⟩)
abbrev s_is_number : Stmt := top 11
def d_is_number : Hx.DefX := ⟨Hx.gA "is_number", "is_number", "is_number", defArgs s_is_number, defBody s_is_number, defScope s_is_number, [], [], none⟩
abbrev s_are_numbers : Stmt := top 12
def d_are_numbers : Hx.DefX := ⟨Hx.gA "are_numbers", "are_numbers", "are_numbers", defArgs s_are_numbers, defBody s_are_numbers, defScope s_are_numbers, [], [], none⟩
abbrev s_choose : Stmt := top 13
def d_choose : Hx.DefX := ⟨Hx.gA "choose", "choose", "choose", defArgs s_choose, defBody s_choose, defScope s_choose, [], [], none⟩
abbrev s_divisor : Stmt := top 14
def d_divisor : Hx.DefX := ⟨Hx.gA "divisor", "divisor", "divisor", defArgs s_divisor, defBody s_divisor, defScope s_divisor, [], [], none⟩
abbrev s_lowest : Stmt := top 15
def d_lowest : Hx.DefX := ⟨Hx.gA "lowest", "lowest", "lowest", defArgs s_lowest, defBody s_lowest, defScope s_lowest, [], [], none⟩
abbrev s_differences : Stmt := top 16
def d_differences : Hx.DefX := ⟨Hx.gA "differences", "differences", "differences", defArgs s_differences, defBody s_differences, defScope s_differences, [], [], none⟩
abbrev s_as_list : Stmt := top 17
def d_as_list : Hx.DefX := ⟨Hx.gA "as_list", "as_list", "as_list", defArgs s_as_list, defBody s_as_list, defScope s_as_list, [], [], none⟩
abbrev s_copied : Stmt := top 18
def d_copied : Hx.DefX := ⟨Hx.gA "copied", "copied", "copied", defArgs s_copied, defBody s_copied, defScope s_copied, [], [], none⟩
abbrev s_check_hands : Stmt := top 22
def d_check_hands : Hx.DefX := ⟨Hx.gA "check_hands", "check_hands", "check_hands", defArgs s_check_hands, defBody s_check_hands, defScope s_check_hands, [], [], none⟩
abbrev s_check_hand : Stmt := top 23
def d_check_hand : Hx.DefX := ⟨Hx.gA "check_hand", "check_hand", "check_hand", defArgs s_check_hand, defBody s_check_hand, defScope s_check_hand, [], [], none⟩
abbrev s_Row___init__ : Stmt := inClass (top 24) 1
def d_Row___init__ : Hx.DefX := ⟨Hx.mA "Row" "__init__", "__init__", "Row.__init__", defArgs s_Row___init__, defBody s_Row___init__, defScope s_Row___init__, [], [], none⟩
abbrev s_Row_read : Stmt := inClass (top 24) 2
def d_Row_read : Hx.DefX := ⟨Hx.rA "staticmethod" "Row" "read", "read", "Row.read", defArgs s_Row_read, defBody s_Row_read, defScope s_Row_read, [], [("hands", (.int 2))], none⟩
abbrev s_Row_turns : Stmt := inClass (top 24) 4
def d_Row_turns : Hx.DefX := ⟨Hx.mA "Row" "turns", "turns", "Row.turns", defArgs s_Row_turns, defBody s_Row_turns, defScope s_Row_turns, [], [], none⟩
abbrev s_Row_totals : Stmt := inClass (top 24) 7
def d_Row_totals : Hx.DefX := ⟨Hx.mA "Row" "totals", "totals", "Row.totals", defArgs s_Row_totals, defBody s_Row_totals, defScope s_Row_totals, [], [], none⟩
abbrev s_Row___len__ : Stmt := inClass (top 24) 20
def d_Row___len__ : Hx.DefX := ⟨Hx.mA "Row" "__len__", "__len__", "Row.__len__", defArgs s_Row___len__, defBody s_Row___len__, defScope s_Row___len__, [], [], none⟩
abbrev s_check_class : Stmt := top 29
def d_check_class : Hx.DefX := ⟨Hx.gA "check_class", "check_class", "check_class", defArgs s_check_class, defBody s_check_class, defScope s_check_class, [], [], none⟩
abbrev s_are_of_class : Stmt := top 30
def d_are_of_class : Hx.DefX := ⟨Hx.gA "are_of_class", "are_of_class", "are_of_class", defArgs s_are_of_class, defBody s_are_of_class, defScope s_are_of_class, [], [], none⟩
abbrev s_rays : Stmt := top 31
def d_rays : Hx.DefX := ⟨Hx.gA "rays", "rays", "rays", defArgs s_rays, defBody s_rays, defScope s_rays, [], [], none⟩
abbrev s_check_question : Stmt := top 32
def d_check_question : Hx.DefX := ⟨Hx.gA "check_question", "check_question", "check_question", defArgs s_check_question, defBody s_check_question, defScope s_check_question, [], [], none⟩
abbrev s_summed : Stmt := top 33
def d_summed : Hx.DefX := ⟨Hx.gA "summed", "summed", "summed", defArgs s_summed, defBody s_summed, defScope s_summed, [], [], none⟩
abbrev s_gains_of : Stmt := top 34
def d_gains_of : Hx.DefX := ⟨Hx.gA "gains_of", "gains_of", "gains_of", defArgs s_gains_of, defBody s_gains_of, defScope s_gains_of, [], [], none⟩
abbrev s_gains : Stmt := top 35
def d_gains : Hx.DefX := ⟨Hx.gA "gains", "gains", "gains", defArgs s_gains, defBody s_gains, defScope s_gains, [], [], none⟩
abbrev s_are_hands : Stmt := top 36
def d_are_hands : Hx.DefX := ⟨Hx.gA "are_hands", "are_hands", "are_hands", defArgs s_are_hands, defBody s_are_hands, defScope s_are_hands, [], [], none⟩
abbrev s_NeverWorse_numbers : Stmt := inClass (top 38) 6
def d_NeverWorse_numbers : Hx.DefX := ⟨Hx.mA "NeverWorse" "numbers", "numbers", "NeverWorse.numbers", defArgs s_NeverWorse_numbers, defBody s_NeverWorse_numbers, defScope s_NeverWorse_numbers, [], [], none⟩
abbrev s_NeverWorse_holds : Stmt := inClass (top 38) 7
def d_NeverWorse_holds : Hx.DefX := ⟨Hx.mA "NeverWorse" "holds", "holds", "NeverWorse.holds", defArgs s_NeverWorse_holds, defBody s_NeverWorse_holds, defScope s_NeverWorse_holds, [], [], none⟩
abbrev s_Worse_worths : Stmt := inClass (top 39) 5
def d_Worse_worths : Hx.DefX := ⟨Hx.mA "Worse" "worths", "worths", "Worse.worths", defArgs s_Worse_worths, defBody s_Worse_worths, defScope s_Worse_worths, [], [], none⟩
abbrev s_Worse_holds : Stmt := inClass (top 39) 6
def d_Worse_holds : Hx.DefX := ⟨Hx.mA "Worse" "holds", "holds", "Worse.holds", defArgs s_Worse_holds, defBody s_Worse_holds, defScope s_Worse_holds, [], [], none⟩
abbrev s_compare : Stmt := top 40
def d_compare : Hx.DefX := ⟨Hx.gA "compare", "compare", "compare", defArgs s_compare, defBody s_compare, defScope s_compare, [], [], none⟩
abbrev s_is_fraction : Stmt := top 41
def d_is_fraction : Hx.DefX := ⟨Hx.gA "is_fraction", "is_fraction", "is_fraction", defArgs s_is_fraction, defBody s_is_fraction, defScope s_is_fraction, [], [], none⟩
abbrev s_Gain_amount : Stmt := inClass (top 42) 5
def d_Gain_amount : Hx.DefX := ⟨Hx.rA "property" "Gain" "amount", "amount", "Gain.amount", defArgs s_Gain_amount, defBody s_Gain_amount, defScope s_Gain_amount, [], [], none⟩
abbrev s_Gain_worths : Stmt := inClass (top 42) 6
def d_Gain_worths : Hx.DefX := ⟨Hx.mA "Gain" "worths", "worths", "Gain.worths", defArgs s_Gain_worths, defBody s_Gain_worths, defScope s_Gain_worths, [], [], none⟩
abbrev s_Gain_holds : Stmt := inClass (top 42) 8
def d_Gain_holds : Hx.DefX := ⟨Hx.mA "Gain" "holds", "holds", "Gain.holds", defArgs s_Gain_holds, defBody s_Gain_holds, defScope s_Gain_holds, [], [], none⟩
abbrev s_greatest_gain : Stmt := top 43
def d_greatest_gain : Hx.DefX := ⟨Hx.gA "greatest_gain", "greatest_gain", "greatest_gain", defArgs s_greatest_gain, defBody s_greatest_gain, defScope s_greatest_gain, [], [], none⟩
abbrev s__law_bag : Stmt := top 45
def d__law_bag : Hx.DefX := ⟨Hx.gA "_law_bag", "_law_bag", "_law_bag", defArgs s__law_bag, defBody s__law_bag, defScope s__law_bag, [], [], none⟩
abbrev s__law_pull : Stmt := top 46
def d__law_pull : Hx.DefX := ⟨Hx.gA "_law_pull", "_law_pull", "_law_pull", defArgs s__law_pull, defBody s__law_pull, defScope s__law_pull, [], [], none⟩
abbrev s__law_pick : Stmt := top 47
def d__law_pick : Hx.DefX := ⟨Hx.gA "_law_pick", "_law_pick", "_law_pick", defArgs s__law_pick, defBody s__law_pick, defScope s__law_pick, [], [], none⟩
abbrev s__law_same : Stmt := top 48
def d__law_same : Hx.DefX := ⟨Hx.gA "_law_same", "_law_same", "_law_same", defArgs s__law_same, defBody s__law_same, defScope s__law_same, [], [], none⟩
abbrev s__law_choose : Stmt := top 49
def d__law_choose : Hx.DefX := ⟨Hx.gA "_law_choose", "_law_choose", "_law_choose", defArgs s__law_choose, defBody s__law_choose, defScope s__law_choose, [], [], none⟩
abbrev s__law_turns : Stmt := top 50
def d__law_turns : Hx.DefX := ⟨Hx.gA "_law_turns", "_law_turns", "_law_turns", defArgs s__law_turns, defBody s__law_turns, defScope s__law_turns, [], [], none⟩
abbrev s__law_hands : Stmt := top 51
def d__law_hands : Hx.DefX := ⟨Hx.gA "_law_hands", "_law_hands", "_law_hands", defArgs s__law_hands, defBody s__law_hands, defScope s__law_hands, [], [], none⟩
abbrev s__law_even_turns : Stmt := top 52
def d__law_even_turns : Hx.DefX := ⟨Hx.gA "_law_even_turns", "_law_even_turns", "_law_even_turns", defArgs s__law_even_turns, defBody s__law_even_turns, defScope s__law_even_turns, [], [], none⟩
abbrev s__law_doubled : Stmt := top 53
def d__law_doubled : Hx.DefX := ⟨Hx.gA "_law_doubled", "_law_doubled", "_law_doubled", defArgs s__law_doubled, defBody s__law_doubled, defScope s__law_doubled, [], [], none⟩
abbrev s__law_some_turns : Stmt := top 54
def d__law_some_turns : Hx.DefX := ⟨Hx.gA "_law_some_turns", "_law_some_turns", "_law_some_turns", defArgs s__law_some_turns, defBody s__law_some_turns, defScope s__law_some_turns, [], [], none⟩
abbrev s__law_number : Stmt := top 55
def d__law_number : Hx.DefX := ⟨Hx.gA "_law_number", "_law_number", "_law_number", defArgs s__law_number, defBody s__law_number, defScope s__law_number, [], [], none⟩
abbrev s__law_minus : Stmt := top 56
def d__law_minus : Hx.DefX := ⟨Hx.gA "_law_minus", "_law_minus", "_law_minus", defArgs s__law_minus, defBody s__law_minus, defScope s__law_minus, [], [], none⟩
abbrev s__law_of_class : Stmt := top 57
def d__law_of_class : Hx.DefX := ⟨Hx.gA "_law_of_class", "_law_of_class", "_law_of_class", defArgs s__law_of_class, defBody s__law_of_class, defScope s__law_of_class, [], [], none⟩
abbrev s__law_rays : Stmt := top 58
def d__law_rays : Hx.DefX := ⟨Hx.gA "_law_rays", "_law_rays", "_law_rays", defArgs s__law_rays, defBody s__law_rays, defScope s__law_rays, [], [], none⟩
abbrev s__law_question : Stmt := top 59
def d__law_question : Hx.DefX := ⟨Hx.gA "_law_question", "_law_question", "_law_question", defArgs s__law_question, defBody s__law_question, defScope s__law_question, [], [], none⟩
abbrev s__law_signs : Stmt := top 60
def d__law_signs : Hx.DefX := ⟨Hx.gA "_law_signs", "_law_signs", "_law_signs", defArgs s__law_signs, defBody s__law_signs, defScope s__law_signs, [], [], none⟩
abbrev s__law_gain : Stmt := top 61
def d__law_gain : Hx.DefX := ⟨Hx.gA "_law_gain", "_law_gain", "_law_gain", defArgs s__law_gain, defBody s__law_gain, defScope s__law_gain, [], [], none⟩
abbrev s__law_bent : Stmt := top 62
def d__law_bent : Hx.DefX := ⟨Hx.gA "_law_bent", "_law_bent", "_law_bent", defArgs s__law_bent, defBody s__law_bent, defScope s__law_bent, [], [], none⟩
abbrev s__law_numbers_so : Stmt := top 63
def d__law_numbers_so : Hx.DefX := ⟨Hx.gA "_law_numbers_so", "_law_numbers_so", "_law_numbers_so", defArgs s__law_numbers_so, defBody s__law_numbers_so, defScope s__law_numbers_so, [], [], none⟩
abbrev s__law_gain_alone_so : Stmt := top 64
def d__law_gain_alone_so : Hx.DefX := ⟨Hx.gA "_law_gain_alone_so", "_law_gain_alone_so", "_law_gain_alone_so", defArgs s__law_gain_alone_so, defBody s__law_gain_alone_so, defScope s__law_gain_alone_so, [], [], none⟩
abbrev s__law_long_papers_so : Stmt := top 65
def d__law_long_papers_so : Hx.DefX := ⟨Hx.gA "_law_long_papers_so", "_law_long_papers_so", "_law_long_papers_so", defArgs s__law_long_papers_so, defBody s__law_long_papers_so, defScope s__law_long_papers_so, [], [], none⟩
abbrev s__law_gains_so : Stmt := top 66
def d__law_gains_so : Hx.DefX := ⟨Hx.gA "_law_gains_so", "_law_gains_so", "_law_gains_so", defArgs s__law_gains_so, defBody s__law_gains_so, defScope s__law_gains_so, [], [], none⟩
abbrev s__law_due_so : Stmt := top 67
def d__law_due_so : Hx.DefX := ⟨Hx.gA "_law_due_so", "_law_due_so", "_law_due_so", defArgs s__law_due_so, defBody s__law_due_so, defScope s__law_due_so, [], [], none⟩
abbrev s_law : Stmt := top 68
def d_law : Hx.DefX := ⟨Hx.gA "law", "law", "law", defArgs s_law, defBody s_law, defScope s_law, [], [], none⟩
abbrev s_NeverWorse___init__ : Stmt := inClass (top 38) 2
def d_NeverWorse___init__ : Hx.DefX := ⟨Hx.mA "NeverWorse" "__init__", "__init__", "NeverWorse.__init__", defArgs s_NeverWorse___init__, defBody s_NeverWorse___init__, defScope s_NeverWorse___init__, [], [], some ("NeverWorse", PySem.Challenge.pw_evenpicks_k30_bent_papers_of_classes_fal.main.file)⟩
abbrev s_NeverWorse_sup___init__ : Stmt := inClass (top 37) 0
def d_NeverWorse_sup___init__ : Hx.DefX := ⟨Hx.sA "NeverWorse" "__init__", "__init__", "Compared.__init__", defArgs s_NeverWorse_sup___init__, defBody s_NeverWorse_sup___init__, defScope s_NeverWorse_sup___init__, [], [], none⟩
abbrev s_NeverWorse_fits : Stmt := inClass (top 37) 1
def d_NeverWorse_fits : Hx.DefX := ⟨Hx.mA "NeverWorse" "fits", "fits", "Compared.fits", defArgs s_NeverWorse_fits, defBody s_NeverWorse_fits, defScope s_NeverWorse_fits, [], [], none⟩
abbrev s_NeverWorse_told : Stmt := inClass (top 26) 2
def d_NeverWorse_told : Hx.DefX := ⟨Hx.mA "NeverWorse" "told", "told", "Paper.told", defArgs s_NeverWorse_told, defBody s_NeverWorse_told, defScope s_NeverWorse_told, [], [], none⟩
abbrev s_NeverWorse___bool__ : Stmt := inClass (top 26) 4
def d_NeverWorse___bool__ : Hx.DefX := ⟨Hx.mA "NeverWorse" "__bool__", "__bool__", "Paper.__bool__", defArgs s_NeverWorse___bool__, defBody s_NeverWorse___bool__, defScope s_NeverWorse___bool__, [], [], none⟩
abbrev s_Worse___init__ : Stmt := inClass (top 39) 1
def d_Worse___init__ : Hx.DefX := ⟨Hx.mA "Worse" "__init__", "__init__", "Worse.__init__", defArgs s_Worse___init__, defBody s_Worse___init__, defScope s_Worse___init__, [], [], some ("Worse", PySem.Challenge.pw_evenpicks_k30_bent_papers_of_classes_fal.main.file)⟩
abbrev s_Worse_sup___init__ : Stmt := inClass (top 37) 0
def d_Worse_sup___init__ : Hx.DefX := ⟨Hx.sA "Worse" "__init__", "__init__", "Compared.__init__", defArgs s_Worse_sup___init__, defBody s_Worse_sup___init__, defScope s_Worse_sup___init__, [], [], none⟩
abbrev s_Worse_fits : Stmt := inClass (top 37) 1
def d_Worse_fits : Hx.DefX := ⟨Hx.mA "Worse" "fits", "fits", "Compared.fits", defArgs s_Worse_fits, defBody s_Worse_fits, defScope s_Worse_fits, [], [], none⟩
abbrev s_Worse_told : Stmt := inClass (top 26) 2
def d_Worse_told : Hx.DefX := ⟨Hx.mA "Worse" "told", "told", "Paper.told", defArgs s_Worse_told, defBody s_Worse_told, defScope s_Worse_told, [], [], none⟩
abbrev s_Worse___bool__ : Stmt := inClass (top 26) 4
def d_Worse___bool__ : Hx.DefX := ⟨Hx.mA "Worse" "__bool__", "__bool__", "Paper.__bool__", defArgs s_Worse___bool__, defBody s_Worse___bool__, defScope s_Worse___bool__, [], [], none⟩
abbrev s_Gain___init__ : Stmt := inClass (top 42) 1
def d_Gain___init__ : Hx.DefX := ⟨Hx.mA "Gain" "__init__", "__init__", "Gain.__init__", defArgs s_Gain___init__, defBody s_Gain___init__, defScope s_Gain___init__, [], [], some ("Gain", PySem.Challenge.pw_evenpicks_k30_bent_papers_of_classes_fal.main.file)⟩
abbrev s_Gain_sup___init__ : Stmt := inClass (top 37) 0
def d_Gain_sup___init__ : Hx.DefX := ⟨Hx.sA "Gain" "__init__", "__init__", "Compared.__init__", defArgs s_Gain_sup___init__, defBody s_Gain_sup___init__, defScope s_Gain_sup___init__, [], [], none⟩
abbrev s_Gain_fits : Stmt := inClass (top 37) 1
def d_Gain_fits : Hx.DefX := ⟨Hx.mA "Gain" "fits", "fits", "Compared.fits", defArgs s_Gain_fits, defBody s_Gain_fits, defScope s_Gain_fits, [], [], none⟩
abbrev s_InvalidHands___init__ : Stmt := inClass (top 3) 0
def d_InvalidHands___init__ : Hx.DefX := ⟨Hx.mA "InvalidHands" "__init__", "__init__", "InvalidHands.__init__", defArgs s_InvalidHands___init__, defBody s_InvalidHands___init__, defScope s_InvalidHands___init__, [], [], some ("InvalidHands", PySem.Challenge.pw_evenpicks_k30_bent_papers_of_classes_fal.main.file)⟩
abbrev s_InvalidHand___init__ : Stmt := inClass (top 4) 0
def d_InvalidHand___init__ : Hx.DefX := ⟨Hx.mA "InvalidHand" "__init__", "__init__", "InvalidHand.__init__", defArgs s_InvalidHand___init__, defBody s_InvalidHand___init__, defScope s_InvalidHand___init__, [], [], some ("InvalidHand", PySem.Challenge.pw_evenpicks_k30_bent_papers_of_classes_fal.main.file)⟩
abbrev s_InvalidTurn___init__ : Stmt := inClass (top 5) 0
def d_InvalidTurn___init__ : Hx.DefX := ⟨Hx.mA "InvalidTurn" "__init__", "__init__", "InvalidTurn.__init__", defArgs s_InvalidTurn___init__, defBody s_InvalidTurn___init__, defScope s_InvalidTurn___init__, [], [], some ("InvalidTurn", PySem.Challenge.pw_evenpicks_k30_bent_papers_of_classes_fal.main.file)⟩
abbrev s_InvalidNumber___init__ : Stmt := inClass (top 6) 0
def d_InvalidNumber___init__ : Hx.DefX := ⟨Hx.mA "InvalidNumber" "__init__", "__init__", "InvalidNumber.__init__", defArgs s_InvalidNumber___init__, defBody s_InvalidNumber___init__, defScope s_InvalidNumber___init__, [], [], some ("InvalidNumber", PySem.Challenge.pw_evenpicks_k30_bent_papers_of_classes_fal.main.file)⟩
abbrev s_InvalidWorths___init__ : Stmt := inClass (top 7) 0
def d_InvalidWorths___init__ : Hx.DefX := ⟨Hx.mA "InvalidWorths" "__init__", "__init__", "InvalidWorths.__init__", defArgs s_InvalidWorths___init__, defBody s_InvalidWorths___init__, defScope s_InvalidWorths___init__, [], [], some ("InvalidWorths", PySem.Challenge.pw_evenpicks_k30_bent_papers_of_classes_fal.main.file)⟩
abbrev s_TooLong___init__ : Stmt := inClass (top 9) 0
def d_TooLong___init__ : Hx.DefX := ⟨Hx.mA "TooLong" "__init__", "__init__", "TooLong.__init__", defArgs s_TooLong___init__, defBody s_TooLong___init__, defScope s_TooLong___init__, [], [], some ("TooLong", PySem.Challenge.pw_evenpicks_k30_bent_papers_of_classes_fal.main.file)⟩
def fn0 : List Hx.DefX := [d_is_number, d_are_numbers, d_choose, d_divisor, d_lowest, d_differences, d_as_list, d_copied, d_check_hands, d_check_hand, d_Row___init__, d_Row_read, d_Row_turns, d_Row_totals, d_Row___len__, d_check_class, d_are_of_class, d_rays, d_check_question, d_summed, d_gains_of, d_gains, d_are_hands, d_NeverWorse_numbers, d_NeverWorse_holds, d_Worse_worths, d_Worse_holds, d_compare, d_is_fraction, d_Gain_amount]
def fn1 : List Hx.DefX := [d_Gain_worths, d_Gain_holds, d_greatest_gain, d__law_bag, d__law_pull, d__law_pick, d__law_same, d__law_choose, d__law_turns, d__law_hands, d__law_even_turns, d__law_doubled, d__law_some_turns, d__law_number, d__law_minus, d__law_of_class, d__law_rays, d__law_question, d__law_signs, d__law_gain, d__law_bent, d__law_numbers_so, d__law_gain_alone_so, d__law_long_papers_so, d__law_gains_so, d__law_due_so, d_law, d_NeverWorse___init__, d_NeverWorse_sup___init__, d_NeverWorse_fits]
def fn2 : List Hx.DefX := [d_NeverWorse_told, d_NeverWorse___bool__, d_Worse___init__, d_Worse_sup___init__, d_Worse_fits, d_Worse_told, d_Worse___bool__, d_Gain___init__, d_Gain_sup___init__, d_Gain_fits, d_InvalidHands___init__, d_InvalidHand___init__, d_InvalidTurn___init__, d_InvalidNumber___init__, d_InvalidWorths___init__, d_TooLong___init__]
def fn : List Hx.DefX := fn0 ++ fn1 ++ fn2
def fx0 : List (PySem.W.Frag → Bool) := [Hx.fGlo "InvalidHands", Hx.fGlo "InvalidHand", Hx.fGlo "InvalidTurn", Hx.fGlo "InvalidNumber", Hx.fGlo "InvalidWorths", Hx.fGlo "TooLong", Hx.fGlo "is_number", Hx.fGlo "are_numbers", Hx.fGlo "choose", Hx.fGlo "divisor", Hx.fGlo "lowest", Hx.fGlo "differences", Hx.fGlo "as_list", Hx.fGlo "copied", Hx.fInt "MOST_TURNS" 2000, Hx.fStr "DIGITS" "0123", Hx.fGlo "check_hands", Hx.fGlo "check_hand", Hx.fGlo "Row", Hx.fInt "MOST_PLACES" 200, Hx.fGlo "check_class", Hx.fGlo "are_of_class", Hx.fGlo "rays", Hx.fGlo "check_question", Hx.fGlo "summed", Hx.fGlo "gains_of", Hx.fGlo "gains", Hx.fGlo "are_hands", Hx.fGlo "NeverWorse", Hx.fGlo "Worse"]
def fx1 : List (PySem.W.Frag → Bool) := [Hx.fGlo "compare", Hx.fGlo "is_fraction", Hx.fGlo "Gain", Hx.fGlo "greatest_gain", Hx.fGlo "_law_bag", Hx.fGlo "_law_pull", Hx.fGlo "_law_pick", Hx.fGlo "_law_same", Hx.fGlo "_law_choose", Hx.fGlo "_law_turns", Hx.fGlo "_law_hands", Hx.fGlo "_law_even_turns", Hx.fGlo "_law_doubled", Hx.fGlo "_law_some_turns", Hx.fGlo "_law_number", Hx.fGlo "_law_minus", Hx.fGlo "_law_of_class", Hx.fGlo "_law_rays", Hx.fGlo "_law_question", Hx.fGlo "_law_signs", Hx.fGlo "_law_gain", Hx.fGlo "_law_bent", Hx.fGlo "_law_numbers_so", Hx.fGlo "_law_gain_alone_so", Hx.fGlo "_law_long_papers_so", Hx.fGlo "_law_gains_so", Hx.fGlo "_law_due_so", Hx.fGlo "law", Hx.fFree "isinstance", Hx.fFree "int"]
def fx2 : List (PySem.W.Frag → Bool) := [Hx.fFree "bool", Hx.fFree "str", Hx.fFree "list", Hx.fFree "tuple", Hx.fFree "len", Hx.fFree "range", Hx.fFree "zip", Hx.fFree "enumerate", Hx.fFree "sum", Hx.fFree "min", Hx.fFree "all", Hx.fFree "any", Hx.fFree "abs", Hx.fFree "super", Hx.fErr "InvalidHands", Hx.fErr "InvalidHand", Hx.fErr "InvalidTurn", Hx.fErr "InvalidNumber", Hx.fErr "InvalidWorths", Hx.fErr "TooLong", Hx.fCls "Row", Hx.fMkr "Row", Hx.fNoat "Row" "hands", Hx.fNoat "Row" "own_turns", Hx.fStat "Row" "read", Hx.fMeth "Row" "turns", Hx.fMeth "Row" "totals", Hx.fOwn "Row" "__len__", Hx.fCls "NeverWorse", Hx.fMkr "NeverWorse"]
def fx3 : List (PySem.W.Frag → Bool) := [Hx.fCon "NeverWorse" "KIND" (.str "never worse"), Hx.fCon "NeverWorse" "GOOD" (.bl true), Hx.fSup "NeverWorse" "__init__", Hx.fNoat "NeverWorse" "own_numbers", Hx.fNoat "NeverWorse" "own_one", Hx.fNoat "NeverWorse" "own_other", Hx.fNoat "NeverWorse" "own_k", Hx.fMeth "NeverWorse" "numbers", Hx.fMeth "NeverWorse" "holds", Hx.fMeth "NeverWorse" "fits", Hx.fMeth "NeverWorse" "told", Hx.fOwn "NeverWorse" "__bool__", Hx.fCls "Worse", Hx.fMkr "Worse", Hx.fCon "Worse" "KIND" (.str "worse"), Hx.fCon "Worse" "GOOD" (.bl false), Hx.fSup "Worse" "__init__", Hx.fNoat "Worse" "own_worths", Hx.fNoat "Worse" "own_one", Hx.fNoat "Worse" "own_other", Hx.fNoat "Worse" "own_k", Hx.fMeth "Worse" "worths", Hx.fMeth "Worse" "holds", Hx.fMeth "Worse" "fits", Hx.fMeth "Worse" "told", Hx.fOwn "Worse" "__bool__", Hx.fCls "Gain", Hx.fMkr "Gain", Hx.fSup "Gain" "__init__", Hx.fNoat "Gain" "own_amount"]
def fx4 : List (PySem.W.Frag → Bool) := [Hx.fNoat "Gain" "own_worths", Hx.fNoat "Gain" "own_one", Hx.fNoat "Gain" "own_other", Hx.fNoat "Gain" "own_k", Hx.fProp "Gain" "amount", Hx.fMeth "Gain" "worths", Hx.fMeth "Gain" "holds", Hx.fMeth "Gain" "fits"]
def fx : List (PySem.W.Frag → Bool) := fx0 ++ fx1 ++ fx2 ++ fx3 ++ fx4
def names0 : List PySem.Str := [("_wall" : PySem.Str), ("PickError" : PySem.Str), ("InvalidHands" : PySem.Str), ("InvalidHand" : PySem.Str), ("InvalidTurn" : PySem.Str), ("InvalidNumber" : PySem.Str), ("InvalidWorths" : PySem.Str), ("Unlike" : PySem.Str), ("TooLong" : PySem.Str), ("is_number" : PySem.Str), ("are_numbers" : PySem.Str), ("choose" : PySem.Str), ("divisor" : PySem.Str), ("lowest" : PySem.Str), ("differences" : PySem.Str), ("as_list" : PySem.Str), ("copied" : PySem.Str), ("MOST_TURNS" : PySem.Str), ("DIGITS" : PySem.Str), ("check_hands" : PySem.Str), ("check_hand" : PySem.Str), ("Row" : PySem.Str), ("Paper" : PySem.Str), ("MOST_PLACES" : PySem.Str), ("check_class" : PySem.Str), ("are_of_class" : PySem.Str), ("rays" : PySem.Str), ("check_question" : PySem.Str), ("summed" : PySem.Str), ("gains_of" : PySem.Str)]
def names1 : List PySem.Str := [("gains" : PySem.Str), ("are_hands" : PySem.Str), ("Compared" : PySem.Str), ("NeverWorse" : PySem.Str), ("Worse" : PySem.Str), ("compare" : PySem.Str), ("is_fraction" : PySem.Str), ("Gain" : PySem.Str), ("greatest_gain" : PySem.Str), ("_law_bag" : PySem.Str), ("_law_pull" : PySem.Str), ("_law_pick" : PySem.Str), ("_law_same" : PySem.Str), ("_law_choose" : PySem.Str), ("_law_turns" : PySem.Str), ("_law_hands" : PySem.Str), ("_law_even_turns" : PySem.Str), ("_law_doubled" : PySem.Str), ("_law_some_turns" : PySem.Str), ("_law_number" : PySem.Str), ("_law_minus" : PySem.Str), ("_law_of_class" : PySem.Str), ("_law_rays" : PySem.Str), ("_law_question" : PySem.Str), ("_law_signs" : PySem.Str), ("_law_gain" : PySem.Str), ("_law_bent" : PySem.Str), ("_law_numbers_so" : PySem.Str), ("_law_gain_alone_so" : PySem.Str), ("_law_long_papers_so" : PySem.Str)]
def names2 : List PySem.Str := [("_law_gains_so" : PySem.Str), ("_law_due_so" : PySem.Str)]
def names : List PySem.Str := names0 ++ names1 ++ names2
abbrev R : PySem.W.OpenRow := PySem.W.OpenLaw.row PySem.Challenge.rw_evenpicks_k30_bent_papers_of_classes_fal
def as0 : List Addr := [3, 2, 6, 4, 21, 31, 53, 74, 95, 116, 137, 158, 179, 188, 193, 200, 207, 214, 219, 224, 229, 236, 243, 404, 446, 457, 462, 467, 474, 481, 486, 493, 500, 524, 581, 640, 649, 656, 727, 734, 739, 746, 753, 758, 765, 770, 777, 782, 787, 794, 801, 806, 811, 816, 823, 828, 833, 838, 843, 848]
def as1 : List Addr := [855, 862, 867, 874, 0, 20, 30, 52, 73, 94, 115, 136, 157, 178, 187, 192, 199, 206, 213, 218, 223, 228, 235, 242, 403, 445, 456, 461, 466, 473, 480, 485, 492, 499, 523, 580, 639, 648, 655, 726, 733, 738, 745, 752, 757, 764, 769, 776, 781, 786, 793, 800, 805, 810, 815, 822, 827, 832, 837, 842]
def as2 : List Addr := [847, 854, 861, 866, 873, 15, 17, 18, 19, 29, 32, 50, 51, 71, 72, 92, 93, 113, 114, 134, 135, 155, 156, 176, 177, 182, 184, 185, 186, 189, 191, 194, 196, 197, 198, 201, 203, 204, 205, 208, 210, 211, 212, 215, 217, 220, 222, 225, 227, 230, 232, 233, 234, 237, 239, 240, 241, 257, 265, 272]
def as3 : List Addr := [279, 284, 291, 298, 305, 312, 319, 326, 333, 340, 347, 354, 359, 366, 373, 380, 387, 394, 401, 402, 405, 406, 422, 429, 436, 443, 444, 447, 448, 451, 453, 454, 455, 458, 460, 463, 465, 468, 470, 471, 472, 475, 477, 478, 479, 482, 484, 487, 489, 490, 491, 494, 496, 497, 498, 514, 521, 522, 542, 550]
def as4 : List Addr := [558, 566, 573, 578, 579, 599, 607, 615, 623, 630, 637, 638, 643, 645, 646, 647, 650, 652, 653, 654, 672, 680, 688, 696, 704, 711, 719, 724, 725, 730, 732, 735, 737, 740, 742, 743, 744, 747, 749, 750, 751, 754, 756, 759, 761, 762, 763, 766, 768, 771, 773, 774, 775, 778, 780, 783, 785, 788, 790, 791]
def as5 : List Addr := [792, 795, 797, 798, 799, 802, 804, 807, 809, 812, 814, 817, 819, 820, 821, 824, 826, 829, 831, 834, 836, 839, 841, 844, 846, 849, 851, 852, 853, 856, 858, 859, 860, 863, 865, 868, 870, 871, 872, 49, 38, 70, 59, 91, 80, 112, 101, 133, 122, 154, 143, 175, 164, 256, 263, 264, 271, 278, 283, 290]
def as6 : List Addr := [297, 304, 311, 318, 325, 332, 339, 346, 353, 358, 365, 372, 379, 386, 393, 400, 421, 428, 435, 442, 513, 520, 541, 530, 549, 557, 565, 572, 577, 598, 587, 606, 614, 622, 629, 636, 671, 660, 679, 687, 695, 703, 710, 718, 723, 44, 46, 47, 48, 65, 67, 68, 69, 86, 88, 89, 90, 107, 109, 110]
def as7 : List Addr := [111, 128, 130, 131, 132, 149, 151, 152, 153, 170, 172, 173, 174, 251, 253, 254, 255, 262, 258, 266, 270, 273, 275, 276, 277, 280, 282, 285, 287, 288, 289, 292, 294, 295, 296, 299, 301, 302, 303, 306, 308, 309, 310, 313, 315, 316, 317, 320, 322, 323, 324, 327, 329, 330, 331, 334, 336, 337, 338, 341]
def as8 : List Addr := [343, 344, 345, 348, 350, 351, 352, 355, 357, 360, 362, 363, 364, 367, 369, 370, 371, 374, 376, 377, 378, 381, 383, 384, 385, 388, 390, 391, 392, 395, 397, 398, 399, 416, 418, 419, 420, 423, 425, 426, 427, 430, 432, 433, 434, 437, 439, 440, 441, 508, 510, 511, 512, 515, 517, 518, 519, 536, 538, 539]
def as9 : List Addr := [540, 548, 556, 564, 567, 569, 570, 571, 574, 576, 593, 595, 596, 597, 605, 613, 621, 624, 626, 627, 628, 631, 633, 634, 635, 666, 668, 669, 670, 678, 686, 694, 702, 705, 707, 708, 709, 713, 715, 716, 717, 720, 722]
def asl : List Addr := as0 ++ (as1 ++ (as2 ++ (as3 ++ (as4 ++ (as5 ++ (as6 ++ (as7 ++ (as8 ++ (as9)))))))))
abbrev hk : PySem.W.Hook := Hx.hookX (fun _ => asl) fx fn
def ob (s : PySem.W.SharedT) : He.AlD := Hx.obsXG (fun _ => asl) fx fn (HandSHeadRun.getT s)
theorem ob_eq (s : PySem.W.SharedT) : ob s = hk.obs s.abs := Hx.obsXG_eq (HandSHeadRun.getT_eq s)
theorem run (w : World) : HandSHeadRun.RunEq R (PySem.W.view R.prog [68]) hk ob 16200 names w := by
  intro os
  kernel_rfl
end Hd
set_option maxHeartbeats 4000000
namespace DL
open PySem PySem.Spec L2
/-- a lambda of the text: what its making is given; its defaults (whole numbers) -/
structure LamQ where
  qual : Str
  params : Arguments
  body : Expr
  scope : Scope
  dfl : List Int
/-- the tables of code objects that lambdas are entered into; the lambdas of the text -/
class TbC where
  ts : List (Addr × Str)
  lq : Nat → LamQ
inductive D where
  | non | bl (b : Bool) | int (i : Int) | str (s : Str) | ty (n : String) | adr (a : Addr) | bag
  | fn (i : Nat) (cl : List (Str × Addr)) (z : Option (Option Addr × Hp))
  | lst (xs : List D) | tup (xs : List D) | obj (C : Addr) (ks : List Str) (xs : List D) | exc (a dx C : Addr) (ks : List Str) (xs : List D)
  | dct (ks : List Key) (xs : List D) | dcT (ks : List (List Key)) (xs : List D)
variable [TbC]
/-- a lambda's function object at f -/
def LamO (f : Addr) (i : Nat) (cl : List (Str × Addr)) (dV : Value) (c' : Addr) : HO := .ext fun h => ∃ doc pm ctv : Value,
  h.get? f = some (PySem.W.kdv_obj "<lambda>" (TbC.lq i).qual (TbC.lq i).params (.expr (TbC.lq i).body) (TbC.lq i).scope (L2.cloFrom cl (TbC.lq i).scope.names []) dV doc pm c' ctv)
def DfOk (S : Hp) (dV : Value) (ns : List Int) : Prop := (ns = [] ∧ dV = .none) ∨ ns ≠ [] ∧ ∃ t, dV = .ref t ∧ S t = some (.tup (ns.map V.int))
theorem DfOk.mono {S S' : Hp} {dV : Value} {ns : List Int} (h : Same S S') (d : DfOk S dV ns) : DfOk S' dV ns := d.imp id fun ⟨n, t, e, q⟩ => ⟨n, t, e, h _ _ q⟩
mutual
def Rep (B : Option Addr) (S : Hp) : D → V → Prop
  | .non, v => v = .non
  | .bl b, v => v = .bl b
  | .int i, v => v = .int i
  | .str s, v => v = .str s
  | .ty n, v => v = .ty n
  | .adr a, v => v = .ref a
  | .bag, v => ∃ b, B = some b ∧ v = .ref b
  | .fn i cl z, v => ∃ f dV c', v = .ref f ∧ S f = some (LamO f i cl dV c') ∧ S c' = some (LamX.CodeO c' (TbC.lq i).qual) ∧ DfOk S dV (TbC.lq i).dfl ∧ ∀ q, z = some q → B = q.1 ∧ Same q.2 S
  | .lst ds, v => ∃ a vs, v = .ref a ∧ S a = some (.lst vs) ∧ RepL B S ds vs
  | .tup ds, v => ∃ a vs, v = .ref a ∧ S a = some (.tup vs) ∧ RepL B S ds vs
  | .obj C ks ds, v => ∃ a dx vs, v = .ref a ∧ S a = some (.ins C dx (ks.zip vs)) ∧ S dx = some (.own a) ∧ ds.length = ks.length ∧ RepL B S ds vs
  | .exc a dx C ks ds, v => ∃ vs, v = .ref a ∧ S dx = some (.xd (ks.zip vs)) ∧ ds.length = ks.length ∧ RepL B S ds vs
  | .dct ks ds, v => ∃ a vs, v = .ref a ∧ S a = some (.dK (ks.zip vs)) ∧ ds.length = ks.length ∧ RepL B S ds vs
  | .dcT ks ds, v => ∃ a vs, v = .ref a ∧ S a = some (.dT (ks.zip vs)) ∧ ds.length = ks.length ∧ RepL B S ds vs
def RepL (B : Option Addr) (S : Hp) : List D → List V → Prop
  | [], vs => vs = []
  | d :: ds, vs => ∃ v ws, vs = v :: ws ∧ Rep B S d v ∧ RepL B S ds ws
end
mutual
theorem rep_mono {B : Option Addr} {S S' : Hp} (h : Same S S') : ∀ (d : D) (v : V), Rep B S d v → Rep B S' d v
  | .non, _, r => r
  | .bl _, _, r => r
  | .int _, _, r => r
  | .str _, _, r => r
  | .ty _, _, r => r
  | .adr _, _, r => r
  | .bag, _, r => r
  | .fn i cl z, v, r => by
    rw [Rep] at r ⊢
    obtain ⟨f, dV, c', e, q, q2, df, n⟩ := r
    exact ⟨f, dV, c', e, h _ _ q, h _ _ q2, df.mono h, fun y hy => ⟨(n y hy).1, (n y hy).2.trans h⟩⟩
  | .lst ds, v, r => by
    rw [Rep] at r ⊢
    obtain ⟨a, vs, e, q, l⟩ := r
    exact ⟨a, vs, e, h _ _ q, repL_mono h ds vs l⟩
  | .tup ds, v, r => by
    rw [Rep] at r ⊢
    obtain ⟨a, vs, e, q, l⟩ := r
    exact ⟨a, vs, e, h _ _ q, repL_mono h ds vs l⟩
  | .obj C ks ds, v, r => by
    rw [Rep] at r ⊢
    obtain ⟨a, dx, vs, e, q, q2, n, l⟩ := r
    exact ⟨a, dx, vs, e, h _ _ q, h _ _ q2, n, repL_mono h ds vs l⟩
  | .exc a dx C ks ds, v, r => by
    rw [Rep] at r ⊢
    obtain ⟨vs, e, q, n, l⟩ := r
    exact ⟨vs, e, h _ _ q, n, repL_mono h ds vs l⟩
  | .dct ks ds, v, r => by
    rw [Rep] at r ⊢
    obtain ⟨a, vs, e, q, n, l⟩ := r
    exact ⟨a, vs, e, h _ _ q, n, repL_mono h ds vs l⟩
  | .dcT ks ds, v, r => by
    rw [Rep] at r ⊢
    obtain ⟨a, vs, e, q, n, l⟩ := r
    exact ⟨a, vs, e, h _ _ q, n, repL_mono h ds vs l⟩
theorem repL_mono {B : Option Addr} {S S' : Hp} (h : Same S S') : ∀ (ds : List D) (vs : List V), RepL B S ds vs → RepL B S' ds vs
  | [], _, r => r
  | d :: ds, vs, r => by
    rw [RepL] at r ⊢
    obtain ⟨v, ws, e, q, l⟩ := r
    exact ⟨v, ws, e, rep_mono h d v q, repL_mono h ds ws l⟩
end
section
variable {B : Option Addr} {S S' : Hp} {d : D} {ds es : List D} {v : V} {vs ws : List V}
theorem repL_nil : RepL B S [] [] := rfl
theorem repL_cons (h : Rep B S d v) (t : RepL B S ds vs) : RepL B S (d :: ds) (v :: vs) := ⟨v, vs, rfl, h, t⟩
theorem repL_nil_of (h : RepL B S [] vs) : vs = [] := h
theorem repL_cons_of (h : RepL B S (d :: ds) vs) : ∃ v ws, vs = v :: ws ∧ Rep B S d v ∧ RepL B S ds ws := h
theorem RepL.length : ∀ {ds : List D} {vs : List V}, RepL B S ds vs → vs.length = ds.length
  | [], vs, h => by rw [repL_nil_of h]; rfl
  | d :: ds, vs, h => by
    obtain ⟨v, ws, rfl, _, t⟩ := repL_cons_of h
    rw [List.length_cons, List.length_cons, RepL.length t]
theorem RepL.app : ∀ {ds : List D} {vs : List V}, RepL B S ds vs → RepL B S es ws → RepL B S (ds ++ es) (vs ++ ws)
  | [], vs, h, k => by rw [repL_nil_of h]; exact k
  | d :: ds, vs, h, k => by
    obtain ⟨v, us, rfl, r, t⟩ := repL_cons_of h
    exact repL_cons r (RepL.app t k)
theorem RepL.get : ∀ {ds : List D} {vs : List V} {i : Nat} {d : D}, RepL B S ds vs → ds[i]? = some d → ∃ v, vs[i]? = some v ∧ Rep B S d v
  | [], _, _, _, _, e => by simp at e
  | d :: ds, vs, 0, _, h, e => by
    obtain ⟨v, ws, rfl, r, t⟩ := repL_cons_of h
    simp at e
    subst e
    exact ⟨v, rfl, r⟩
  | d :: ds, vs, i + 1, _, h, e => by
    obtain ⟨v, ws, rfl, r, t⟩ := repL_cons_of h
    obtain ⟨u, q, r2⟩ := RepL.get (i := i) t (by simpa using e)
    exact ⟨u, by simpa using q, r2⟩
theorem RepL.set : ∀ {ds : List D} {vs : List V} (i : Nat), RepL B S ds vs → Rep B S d v → RepL B S (ds.set i d) (vs.set i v)
  | [], vs, i, h, r => by rw [repL_nil_of h]; exact repL_nil
  | d :: ds, vs, 0, h, r => by
    obtain ⟨u, ws, rfl, r1, t⟩ := repL_cons_of h
    exact repL_cons r t
  | d :: ds, vs, i + 1, h, r => by
    obtain ⟨u, ws, rfl, r1, t⟩ := repL_cons_of h
    exact repL_cons r1 (RepL.set i t r)
theorem RepL.take : ∀ {ds : List D} {vs : List V} (i : Nat), RepL B S ds vs → RepL B S (ds.take i) (vs.take i)
  | _, _, 0, _ => by simpa using repL_nil
  | [], vs, i + 1, h => by rw [repL_nil_of h]; exact repL_nil
  | d :: ds, vs, i + 1, h => by
    obtain ⟨u, ws, rfl, r1, t⟩ := repL_cons_of h
    exact repL_cons r1 (RepL.take i t)
theorem RepL.drop : ∀ {ds : List D} {vs : List V} (i : Nat), RepL B S ds vs → RepL B S (ds.drop i) (vs.drop i)
  | _, _, 0, h => h
  | [], vs, i + 1, h => by rw [repL_nil_of h]; exact repL_nil
  | d :: ds, vs, i + 1, h => by
    obtain ⟨u, ws, rfl, r1, t⟩ := repL_cons_of h
    exact RepL.drop i t
theorem RepL.rev (h : RepL B S ds vs) : RepL B S ds.reverse vs.reverse := by
  induction ds generalizing vs with
  | nil => rw [repL_nil_of h]; exact repL_nil
  | cons d ds ih =>
    obtain ⟨u, ws, rfl, r1, t⟩ := repL_cons_of h
    rw [List.reverse_cons, List.reverse_cons]
    exact (ih t).app (repL_cons r1 repL_nil)
theorem RepL.rep (h : RepL B S ds vs) : ∀ k : Nat, RepL B S (List.replicate k ds).flatten (List.replicate k vs).flatten
  | 0 => repL_nil
  | k + 1 => by
    rw [List.replicate_succ, List.replicate_succ, List.flatten_cons, List.flatten_cons]
    exact h.app (RepL.rep h k)
theorem RepL.ints {ns : List Int} : ∀ {vs : List V}, RepL B S (ns.map D.int) vs → vs = ns.map V.int := by
  induction ns with
  | nil => intro vs h; exact repL_nil_of h
  | cons n ns ih =>
    intro vs h
    obtain ⟨u, ws, rfl, r1, t⟩ := repL_cons_of h
    rw [ih t, show u = V.int n from r1]
    rfl
end
structure Fm where
  B : Option Addr
  C : Addr
  H0 : Hp
  S0 : Hp
/-- the law's bag: its cells, the next one, what is left of a great cell, the mixed number, the number of draws -/
def BagAt (b ca : Addr) (S H : Hp) : Prop := S b = none ∧ ∃ (cs : List Int) (i g st n : Int), H b = some (.lst [.ref ca, .int i, .int g, .int st, .int n]) ∧ S ca = some (.lst (cs.map V.int)) ∧ 0 ≤ i ∧ 0 ≤ g ∧ 0 ≤ st ∧ st < 2147483549
/-- the tables of code objects as they stand -/
def TabAll (S H : Hp) : Prop := ∀ p ∈ TbC.ts, LamX.TabS H p.1 p.2 ∧ S p.1 = none
/-- what may change though others know it: the bag, the tables -/
def Ex (B : Option Addr) (a : Addr) : Prop := B = some a ∨ ∃ p ∈ TbC.ts, p.1 = a
/-- a code object, a lambda's function object: they stay -/
def Fx (o : HO) : Prop := (∃ c q, o = LamX.CodeO c q) ∨ ∃ f i cl dV c', o = LamO f i cl dV c'
theorem fx_not {o : HO} (h : ∀ φ, o ≠ .ext φ) : ¬ Fx o := fun z => by
  rcases z with ⟨c, q, z⟩ | ⟨f, i, cl, dV, c', z⟩
  · exact h _ z
  · exact h _ z
/-- an object that may change -/
def Mu (x : Option HO) : Prop := x ≠ none ∧ ∀ o, x = some o → ¬ Fx o
theorem mu_ofF {x : Option HO} {o : HO} (e : x = some o) (h : ¬ Fx o) : Mu x := ⟨(by rw [e]; exact fun z => nomatch z), fun u z y => h (by rw [e] at z; cases z; exact y)⟩
theorem mu_of {x : Option HO} {o : HO} (e : x = some o) (h : ∀ φ, o ≠ .ext φ) : Mu x := mu_ofF e (fx_not h)
theorem mu_lst {x : Option HO} {vs : List V} (e : x = some (.lst vs)) : Mu x := mu_of e fun _ z => nomatch z
structure Kf (c : Fm) (H S : Hp) : Prop where
  sub : Same S H
  s0 : Same c.S0 S
  old : ∀ a o, c.H0 a = some o → ¬ Ex c.B a → H a = some o
  new : ∀ a, c.S0 a = none → Mu (c.H0 a) → S a = none
  bag : ∀ b, c.B = some b → BagAt b c.C S H ∧ c.H0 b ≠ none
  tab : TabAll S H ∧ ∀ p ∈ TbC.ts, c.H0 p.1 ≠ none
/-- what a name holds: data, or a list of its own that may change -/
inductive T where
  | dat (d : D)
  | lst (ts : List T)
  | tup (ts : List T)
  | obj (C : Addr) (ks : List Str) (ts : List T)
inductive DV where
  | val (d : D)
  | own (ds : List D)
  | tre (t : T) (as : List Addr)
abbrev En := List (Option DV)
mutual
/-- a tree of lists and objects that stand for nobody else, at the addresses as; its leaves stay as they are -/
def RepT (B : Option Addr) (S H : Hp) : T → V → List Addr → Prop
  | .dat d, v, as => Rep B S d v ∧ as = []
  | .lst ts, v, as => ∃ a vs bs, v = .ref a ∧ H a = some (.lst vs) ∧ RepTL B S H ts vs bs ∧ as = a :: bs
  | .tup ts, v, as => ∃ a vs, v = .ref a ∧ S a = some (.tup vs) ∧ RepTL B S H ts vs as
  | .obj C ks ts, v, as => ∃ a dx vs bs, v = .ref a ∧ H a = some (.ins C dx (ks.zip vs)) ∧ H dx = some (.own a) ∧ ts.length = ks.length ∧ RepTL B S H ts vs bs ∧ as = a :: dx :: bs
def RepTL (B : Option Addr) (S H : Hp) : List T → List V → List Addr → Prop
  | [], vs, as => vs = [] ∧ as = []
  | t :: ts, vs, as => ∃ v ws bs cs, vs = v :: ws ∧ RepT B S H t v bs ∧ RepTL B S H ts ws cs ∧ as = bs ++ cs
end
mutual
theorem repT_mono {B : Option Addr} {S S' H H' : Hp} (h : Same S S') : ∀ (t : T) (v : V) (as : List Addr), (∀ a ∈ as, ∀ o, H a = some o → H' a = some o) → RepT B S H t v as → RepT B S' H' t v as
  | .dat d, v, as, _, r => by
    rw [RepT] at r ⊢
    exact ⟨rep_mono h d v r.1, r.2⟩
  | .lst ts, v, as, q, r => by
    rw [RepT] at r ⊢
    obtain ⟨a, vs, bs, e, e2, l, rfl⟩ := r
    exact ⟨a, vs, bs, e, q a (List.mem_cons_self ..) _ e2, repTL_mono h ts vs bs (fun b hb => q b (List.mem_cons_of_mem _ hb)) l, rfl⟩
  | .tup ts, v, as, q, r => by
    rw [RepT] at r ⊢
    obtain ⟨a, vs, e, e2, l⟩ := r
    exact ⟨a, vs, e, h _ _ e2, repTL_mono h ts vs as q l⟩
  | .obj C ks ts, v, as, q, r => by
    rw [RepT] at r ⊢
    obtain ⟨a, dx, vs, bs, e, e2, e3, n, l, rfl⟩ := r
    exact ⟨a, dx, vs, bs, e, q a (List.mem_cons_self ..) _ e2, q dx (List.mem_cons_of_mem _ (List.mem_cons_self ..)) _ e3, n, repTL_mono h ts vs bs (fun b hb => q b (List.mem_cons_of_mem _ (List.mem_cons_of_mem _ hb))) l, rfl⟩
theorem repTL_mono {B : Option Addr} {S S' H H' : Hp} (h : Same S S') : ∀ (ts : List T) (vs : List V) (as : List Addr), (∀ a ∈ as, ∀ o, H a = some o → H' a = some o) → RepTL B S H ts vs as → RepTL B S' H' ts vs as
  | [], _, _, _, r => r
  | t :: ts, vs, as, q, r => by
    rw [RepTL] at r ⊢
    obtain ⟨v, ws, bs, cs, e, r1, r2, rfl⟩ := r
    exact ⟨v, ws, bs, cs, e, repT_mono h t v bs (fun b hb => q b (List.mem_append_left _ hb)) r1, repTL_mono h ts ws cs (fun b hb => q b (List.mem_append_right _ hb)) r2, rfl⟩
end
mutual
theorem RepT.mu {B : Option Addr} {S H : Hp} : ∀ {t : T} {v : V} {as : List Addr}, RepT B S H t v as → ∀ a ∈ as, Mu (H a)
  | .dat d, v, as, r, a, m => by
    rw [RepT] at r
    rw [r.2] at m
    cases m
  | .lst ts, v, as, r, a, m => by
    rw [RepT] at r
    obtain ⟨a0, vs, bs, e, e2, l, rfl⟩ := r
    rcases List.mem_cons.mp m with rfl | m
    · exact mu_lst e2
    · exact RepTL.mu l a m
  | .tup ts, v, as, r, a, m => by
    rw [RepT] at r
    obtain ⟨a0, vs, e, e2, l⟩ := r
    exact RepTL.mu l a m
  | .obj C ks ts, v, as, r, a, m => by
    rw [RepT] at r
    obtain ⟨a0, dx, vs, bs, e, e2, e3, n, l, rfl⟩ := r
    rcases List.mem_cons.mp m with rfl | m
    · exact mu_of e2 fun _ z => nomatch z
    rcases List.mem_cons.mp m with rfl | m
    · exact mu_of e3 fun _ z => nomatch z
    · exact RepTL.mu l a m
theorem RepTL.mu {B : Option Addr} {S H : Hp} : ∀ {ts : List T} {vs : List V} {as : List Addr}, RepTL B S H ts vs as → ∀ a ∈ as, Mu (H a)
  | [], _, _, r, a, m => by
    rw [RepTL] at r
    rw [r.2] at m
    cases m
  | t :: ts, vs, as, r, a, m => by
    rw [RepTL] at r
    obtain ⟨v, ws, bs, cs, e, r1, r2, rfl⟩ := r
    rcases List.mem_append.mp m with m | m
    · exact RepT.mu r1 a m
    · exact RepTL.mu r2 a m
end
mutual
/-- a tree looked at as a value -/
def T.d : T → D
  | .dat d => d
  | .lst ts => .lst (T.ds ts)
  | .tup ts => .tup (T.ds ts)
  | .obj C ks ts => .obj C ks (T.ds ts)
def T.ds : List T → List D
  | [] => []
  | t :: ts => t.d :: T.ds ts
end
theorem T.ds_length : ∀ {ts : List T}, (T.ds ts).length = ts.length
  | [] => rfl
  | t :: ts => by rw [T.ds, List.length_cons, List.length_cons, T.ds_length]
mutual
theorem rep_tree {B : Option Addr} {S S' H : Hp} (s : Same S S') : ∀ (t : T) (v : V) (as : List Addr), (∀ a ∈ as, S' a = H a) → RepT B S H t v as → Rep B S' t.d v
  | .dat d, v, as, _, r => by
    rw [RepT] at r
    exact rep_mono s d v r.1
  | .lst ts, v, as, q, r => by
    rw [RepT] at r
    obtain ⟨a, vs, bs, e, e2, l, rfl⟩ := r
    rw [T.d, Rep]
    exact ⟨a, vs, e, (q a (List.mem_cons_self ..)).trans e2, repL_tree s ts vs bs (fun b hb => q b (List.mem_cons_of_mem _ hb)) l⟩
  | .tup ts, v, as, q, r => by
    rw [RepT] at r
    obtain ⟨a, vs, e, e2, l⟩ := r
    rw [T.d, Rep]
    exact ⟨a, vs, e, s _ _ e2, repL_tree s ts vs as q l⟩
  | .obj C ks ts, v, as, q, r => by
    rw [RepT] at r
    obtain ⟨a, dx, vs, bs, e, e2, e3, n, l, rfl⟩ := r
    rw [T.d, Rep]
    exact ⟨a, dx, vs, e, (q a (List.mem_cons_self ..)).trans e2, (q dx (List.mem_cons_of_mem _ (List.mem_cons_self ..))).trans e3, by rw [T.ds_length]; exact n, repL_tree s ts vs bs (fun b hb => q b (List.mem_cons_of_mem _ (List.mem_cons_of_mem _ hb))) l⟩
theorem repL_tree {B : Option Addr} {S S' H : Hp} (s : Same S S') : ∀ (ts : List T) (vs : List V) (as : List Addr), (∀ a ∈ as, S' a = H a) → RepTL B S H ts vs as → RepL B S' (T.ds ts) vs
  | [], _, _, _, r => by
    rw [RepTL] at r
    rw [r.1]
    exact repL_nil
  | t :: ts, vs, as, q, r => by
    rw [RepTL] at r
    obtain ⟨v, ws, bs, cs, rfl, r1, r2, rfl⟩ := r
    rw [T.ds]
    exact repL_cons (rep_tree s t v bs (fun b hb => q b (List.mem_append_left _ hb)) r1) (repL_tree s ts ws cs (fun b hb => q b (List.mem_append_right _ hb)) r2)
end
mutual
/-- a value whose lists are all its own -/
def D.tr : D → T
  | .lst xs => .lst (D.trs xs)
  | .tup xs => .tup (D.trs xs)
  | .non => .dat .non | .bl b => .dat (.bl b) | .int i => .dat (.int i) | .str s => .dat (.str s) | .ty n => .dat (.ty n) | .adr a => .dat (.adr a) | .bag => .dat .bag
  | .fn i cl z => .dat (.fn i cl z) | .obj C ks xs => .dat (.obj C ks xs) | .exc a dx C ks xs => .dat (.exc a dx C ks xs) | .dct ks xs => .dat (.dct ks xs) | .dcT ks xs => .dat (.dcT ks xs)
def D.trs : List D → List T
  | [] => []
  | d :: ds => d.tr :: D.trs ds
end
mutual
theorem tr_d : ∀ d : D, d.tr.d = d
  | .lst xs => by rw [D.tr, T.d, trs_ds xs]
  | .tup xs => by rw [D.tr, T.d, trs_ds xs]
  | .non | .bl _ | .int _ | .str _ | .ty _ | .adr _ | .bag | .fn _ _ _ | .obj _ _ _ | .exc _ _ _ _ _ | .dct _ _ | .dcT _ _ => by rw [D.tr, T.d]
theorem trs_ds : ∀ ds : List D, T.ds (D.trs ds) = ds
  | [] => rfl
  | d :: ds => by rw [D.trs, T.ds, tr_d d, trs_ds ds]
end
theorem trs_length : ∀ ds : List D, (D.trs ds).length = ds.length
  | [] => rfl
  | d :: ds => by rw [D.trs, List.length_cons, List.length_cons, trs_length ds]
theorem trs_app : ∀ xs ys : List D, D.trs (xs ++ ys) = D.trs xs ++ D.trs ys
  | [], ys => rfl
  | x :: xs, ys => by rw [List.cons_append, D.trs, D.trs, trs_app xs ys, List.cons_append]
def DvR (c : Fm) (S H : Hp) : DV → V → Prop
  | .val d, v => Rep c.B S d v
  | .own ds, v => ∃ p vs, v = .ref p ∧ S p = none ∧ c.H0 p = none ∧ H p = some (.lst vs) ∧ RepL c.B S ds vs
  | .tre t as, v => RepT c.B S H t v as ∧ as.Nodup ∧ ∀ a ∈ as, S a = none ∧ c.H0 a = none
/-- what a name holds for itself -/
def Foot : DV → V → Addr → Prop
  | .val _, _, _ => False
  | .own _, v, a => v = .ref a
  | .tre _ as, _, a => a ∈ as
theorem DvR.foot {c : Fm} {S H : Hp} : ∀ {x : DV} {v : V}, DvR c S H x v → ∀ a, Foot x v a → S a = none ∧ c.H0 a = none ∧ Mu (H a)
  | .val _, _, _, _, f => f.elim
  | .own ds, v, r, a, f => by
    obtain ⟨p, vs, e, h1, h2, h3, _⟩ := r
    have f : v = .ref a := f
    rw [e] at f
    cases f
    exact ⟨h1, h2, mu_lst h3⟩
  | .tre t as, v, r, a, f => ⟨(r.2.2 a f).1, (r.2.2 a f).2, r.1.mu a f⟩
/-- what is told of a name stays, if the frozen things grow and what the name holds for itself is as it was -/
theorem DvR.keep {c c' : Fm} {S S' H H' : Hp} (hB : c'.B = c.B) (hs : Same S S') : ∀ {x : DV} {v : V}, DvR c S H x v → (∀ a, Foot x v a → S' a = none ∧ c'.H0 a = none ∧ ∀ o, H a = some o → H' a = some o) → DvR c' S' H' x v
  | .val d, v, r, _ => by
    show Rep c'.B S' d v
    rw [hB]
    exact rep_mono hs d v r
  | .own ds, v, r, q => by
    obtain ⟨p, vs, rfl, h1, h2, h3, h4⟩ := r
    obtain ⟨q1, q2, q3⟩ := q p rfl
    refine ⟨p, vs, rfl, q1, q2, q3 _ h3, ?_⟩
    rw [hB]
    exact repL_mono hs ds vs h4
  | .tre t as, v, r, q => by
    obtain ⟨h1, h2, h3⟩ := r
    refine ⟨?_, h2, fun a m => ⟨(q a m).1, (q a m).2.1⟩⟩
    rw [hB]
    exact repT_mono hs t v as (fun a m => (q a m).2.2) h1
structure Kn (c : Fm) (σ : St) (H S : Hp) (env : En) : Prop where
  kf : Kf c H S
  len : env.length = σ.length
  sl : ∀ (i : Nat) (x : DV), env[i]? = some (some x) → ∃ v, σ[i]? = some (some v) ∧ DvR c S H x v
  apart : ∀ (i j : Nat) (x y : DV) (v u : V) (a : Addr), i ≠ j → env[i]? = some (some x) → env[j]? = some (some y) → σ[i]? = some (some v) → σ[j]? = some (some u) → Foot x v a → ¬ Foot y u a
section
variable {c : Fm} {σ : St} {H H' S S' : Hp} {env : En} {a p : Addr} {o : HO}
/-- an object that is no table and no code object may change -/
theorem TabAll.of (t : TabAll S H) (hH : ∀ a o, H a = some o → ((∃ ps, o = .tbl ps) ∨ Fx o) → H' a = some o) (hn : ∀ p ∈ TbC.ts, S p.1 = none → S' p.1 = none) : TabAll S' H' := fun p hp => by
  obtain ⟨⟨ps, h1, h2, h3⟩, h4⟩ := t p hp
  refine ⟨⟨ps, hH _ _ h1 (.inl ⟨_, rfl⟩), h2, fun pos cv hc => ?_⟩, hn p hp h4⟩
  obtain ⟨c1, e1, e2⟩ := h3 pos cv hc
  exact ⟨c1, e1, hH _ _ e2 (.inr (.inl ⟨_, _, rfl⟩))⟩
theorem TabAll.ne (t : TabAll S H) {p : Addr × Str} (hp : p ∈ TbC.ts) : H p.1 ≠ none := fun z => by
  obtain ⟨⟨ps, h1, _⟩, _⟩ := t p hp
  rw [z] at h1
  cases h1
theorem TabAll.same (t : TabAll S H) (hH : Same H H') (hn : ∀ a, S a = none → Mu (H a) → S' a = none) : TabAll S' H' :=
  t.of (fun a o e _ => hH a o e) fun p hp e => hn _ e (by
    obtain ⟨⟨ps, h1, _⟩, _⟩ := t p hp
    exact mu_of h1 fun _ z => nomatch z)
/-- a list (or anything else that is no table, no code object) at p is told anew -/
theorem TabAll.updHF {u : HO} (t : TabAll S H) (hp : ∀ v, H p = some v → (∀ ps, v ≠ .tbl ps) ∧ ¬ Fx v) (hn : ∀ q ∈ TbC.ts, S q.1 = none → S' q.1 = none) : TabAll S' (upd H p u) :=
  t.of (fun a o e ty => by
    by_cases z : a = p
    · subst z
      obtain ⟨n1, n2⟩ := hp _ e
      rcases ty with ⟨ps, y⟩ | y
      · exact (n1 ps y).elim
      · exact (n2 y).elim
    · rw [upd_ne z]
      exact e) hn
theorem TabAll.updH {u : HO} (t : TabAll S H) (hp : ∀ v, H p = some v → (∀ ps, v ≠ .tbl ps) ∧ ∀ φ, v ≠ .ext φ) (hn : ∀ q ∈ TbC.ts, S q.1 = none → S' q.1 = none) : TabAll S' (upd H p u) := t.updHF (fun v e => ⟨(hp v e).1, fx_not (hp v e).2⟩) hn
theorem lst_ne {vs : List V} : (∀ ps, HO.lst vs ≠ .tbl ps) ∧ ∀ φ, HO.lst vs ≠ .ext φ := ⟨fun ps z => (nomatch z), fun φ z => (nomatch z)⟩
theorem TabAll.lst {vs : List V} {u : HO} (t : TabAll S H) (h : H p = some (.lst vs)) : TabAll S (upd H p u) := t.updH (fun v e => by rw [h] at e; cases e; exact lst_ne) fun _ _ e => e
theorem TabAll.not {vs : List V} (t : TabAll S H) (h : H p = some (.lst vs)) {q : Addr × Str} (hq : q ∈ TbC.ts) : q.1 ≠ p := fun z => by
  obtain ⟨⟨ps, h1, _⟩, _⟩ := t q hq
  rw [z, h] at h1
  cases h1
theorem TabAll.frz {vs : List V} {u : HO} (t : TabAll S H) (h : H p = some (.lst vs)) : TabAll (upd S p u) H := fun q hq => ⟨(t q hq).1, by rw [upd_ne (t.not h hq)]; exact (t q hq).2⟩
theorem Kf.b_ne (k : Kf c H S) (h : H p = none) : c.B ≠ some p := fun e => by
  obtain ⟨⟨_, cs, i, g, st, n, q, _⟩, _⟩ := k.bag p e
  rw [h] at q
  cases q
theorem Kf.x_ne (k : Kf c H S) (h : H p = none) : ¬ Ex c.B p := fun e => by
  rcases e with e | ⟨q, hq, e⟩
  · exact k.b_ne h e
  · exact k.tab.1.ne hq (by rw [e]; exact h)
theorem Kf.x_ne0 (k : Kf c H S) (h : c.H0 p = none) : ¬ Ex c.B p := fun e => by
  rcases e with e | ⟨q, hq, e⟩
  · exact (k.bag p e).2 h
  · exact k.tab.2 q hq (by rw [e]; exact h)
theorem Kf.s_none (k : Kf c H S) (h : H p = none) : S p = none := k.sub.free h
theorem Kf.h0_none (k : Kf c H S) (h : H p = none) : c.H0 p = none := by
  cases e : c.H0 p with
  | none => rfl
  | some o =>
    have q := k.old p o e (k.x_ne h)
    rw [h] at q
    cases q
theorem Kf.back (k : Kf c H S) (q : Mu (c.H0 a)) : Mu (H a) := by
  by_cases x : Ex c.B a
  · rcases x with e | ⟨p, hp, e⟩
    · obtain ⟨⟨_, cs, i, g, st, n, q, _⟩, _⟩ := k.bag a e
      exact mu_lst q
    · obtain ⟨⟨ps, h1, _⟩, _⟩ := k.tab.1 p hp
      rw [← e]
      exact mu_of h1 fun _ z => nomatch z
  · cases e : c.H0 a with
    | none => exact (q.1 e).elim
    | some o => exact mu_ofF (k.old a o e x) (q.2 o e)
/-- the general step -/
theorem Kf.step (k : Kf c H S) (hs : Same S S') (hsub : Same S' H') (hH : ∀ a o, H a = some o → ¬ Ex c.B a → H' a = some o) (hn : ∀ a, S a = none → Mu (H a) → S' a = none) (hb : ∀ b, c.B = some b → BagAt b c.C S' H') (ht : TabAll S' H') : Kf c H' S' :=
  ⟨hsub, k.s0.trans hs, fun a o e n => hH a o (k.old a o e n) n, fun a e n => hn a (k.new a e n) (k.back n), fun b e => ⟨hb b e, (k.bag b e).2⟩, ht, k.tab.2⟩
theorem Kn.step (k : Kn c σ H S env) (hs : Same S S') (hsub : Same S' H') (hH : ∀ a o, H a = some o → ¬ Ex c.B a → H' a = some o) (hn : ∀ a, S a = none → Mu (H a) → S' a = none) (hb : ∀ b, c.B = some b → BagAt b c.C S' H') (ht : TabAll S' H') : Kn c σ H' S' env := by
  refine ⟨k.kf.step hs hsub hH hn hb ht, k.len, fun i x e => ?_, k.apart⟩
  obtain ⟨v, e1, r⟩ := k.sl i x e
  refine ⟨v, e1, r.keep rfl hs fun a f => ?_⟩
  obtain ⟨f1, f2, f3⟩ := r.foot a f
  exact ⟨hn a f1 f3, f2, fun o e5 => hH a o e5 (k.kf.x_ne0 f2)⟩
theorem Kf.bagSame (k : Kf c H S) (hs : Same S S') (hH : Same H H') (hn : ∀ a, S a = none → Mu (H a) → S' a = none) : ∀ b, c.B = some b → BagAt b c.C S' H' := fun b e => by
  obtain ⟨⟨e1, cs, i, g, st, n, q, q2, q3⟩, _⟩ := k.bag b e
  exact ⟨hn b e1 (mu_lst q), cs, i, g, st, n, hH _ _ q, hs _ _ q2, q3⟩
/-- nothing of H has changed -/
theorem Kn.grow (k : Kn c σ H S env) (hs : Same S S') (hsub : Same S' H') (hH : Same H H') (hn : ∀ a, S a = none → Mu (H a) → S' a = none) : Kn c σ H' S' env :=
  k.step hs hsub (fun a o e _ => hH a o e) hn (k.kf.bagSame hs hH hn) (k.kf.tab.1.same hH hn)
theorem same_upd (h : H p = none) : Same H (upd H p o) := fun b u e => by
  rw [upd_ne (ne_of_none e h)]
  exact e
theorem same_upd2 (hs : Same S H) (h : H p = none) : Same (upd S p o) (upd H p o) := fun b u e => by
  by_cases z : b = p
  · subst z
    rw [upd_same] at e ⊢
    exact e
  · rw [upd_ne z] at e ⊢
    exact hs b u e
/-- a new object that stays as it is -/
theorem Kn.new (k : Kn c σ H S env) (h : H p = none) : Kn c σ (upd H p o) (upd S p o) env :=
  k.grow (same_upd (k.kf.s_none h)) (same_upd2 k.kf.sub h) (same_upd h) fun a e n => by
    have z : a ≠ p := fun z => n.1 (by rw [z]; exact h)
    rw [upd_ne z]
    exact e
/-- a new object that may change: known to nobody yet -/
theorem Kn.new0 (k : Kn c σ H S env) (h : H p = none) : Kn c σ (upd H p o) S env :=
  k.grow (Same.refl S) (k.kf.sub.trans (same_upd h)) (same_upd h) fun a e n => e
end
structure Er where
  cls : Addr
  ks : List Str
  ds : List D
def XOk (c : Fm) (E : XK) (Rx : Er → Prop) : Prop := ∀ (er : Er) (d : Addr) (vs : List V) (H S : Hp), Kf c H S → RepL c.B S er.ds vs → er.ds.length = er.ks.length → H d = some (.xd (er.ks.zip vs)) → c.H0 d = none → S d = none → Rx er → E (.ref er.cls) (some d) H
abbrev DT := En → (D → Prop) → (Er → Prop) → Prop
abbrev DTT := En → (Bool → Prop) → (Er → Prop) → Prop
abbrev DTA := En → (List D → Prop) → (Er → Prop) → Prop
/-- a result: of all that stays; made here alone; made here alone, its lists its own -/
inductive Rk where
  | old | nw | tr
structure DEnds where
  nx : En → Prop
  rt : Rk → D → Prop
  bk : En → Prop := fun _ => False
  ct : En → Prop := fun _ => False
  ex : Er → Prop
abbrev DTS := DEnds → En → Prop
/-- an expression's reading t is told by T -/
def Sm (E : XK) (t : TE) (T : DT) : Prop := ∀ (c : Fm) (σ : St) (H S : Hp) (env : En) (R : D → Prop) (Rx : Er → Prop), XOk c E Rx → Kn c σ H S env → T env R Rx →
  ∀ Q : VK, (∀ v H' S' d, Kn c σ H' S' env → Same S S' → Rep c.B S' d v → R d → Q v H') → t σ H Q
def SmT (E : XK) (t : TT) (T : DTT) : Prop := ∀ (c : Fm) (σ : St) (H S : Hp) (env : En) (R : Bool → Prop) (Rx : Er → Prop), XOk c E Rx → Kn c σ H S env → T env R Rx →
  ∀ Q : Bool → Hp → Prop, (∀ b H' S', Kn c σ H' S' env → Same S S' → R b → Q b H') → t σ H Q
def SmA (E : XK) (t : TA) (T : DTA) : Prop := ∀ (c : Fm) (σ : St) (H S : Hp) (env : En) (R : List D → Prop) (Rx : Er → Prop), XOk c E Rx → Kn c σ H S env → T env R Rx →
  ∀ Q : List V → Hp → Prop, (∀ vs H' S' ds, Kn c σ H' S' env → Same S S' → RepL c.B S' ds vs → R ds → Q vs H') → t σ H Q
/-- what is new since H -/
def newH (H S : Hp) : Hp := fun a => match H a with
  | none => S a
  | some _ => none
theorem newH_of {H S : Hp} {a : Addr} (h : H a = none) : newH H S a = S a := by unfold newH; rw [h]
theorem newH_some {H S : Hp} {a : Addr} {o : HO} (e : newH H S a = some o) : H a = none ∧ S a = some o := by
  unfold newH at e
  split at e
  · exact ⟨by assumption, e⟩
  · cases e
theorem newH_sub {H S : Hp} : Same (newH H S) S := fun a o e => (newH_some e).2
open Classical in
noncomputable def frzS (as : List Addr) (H S : Hp) : Hp := fun a => if a ∈ as then H a else S a
theorem frzS_in {as : List Addr} {H S : Hp} {a : Addr} (h : a ∈ as) : frzS as H S a = H a := if_pos h
theorem frzS_out {as : List Addr} {H S : Hp} {a : Addr} (h : a ∉ as) : frzS as H S a = S a := if_neg h
theorem frzS_same {as : List Addr} {H S : Hp} (h : ∀ a ∈ as, S a = none) : Same S (frzS as H S) := fun a o e => by
  by_cases z : a ∈ as
  · rw [h a z] at e
    cases e
  · rw [frzS_out z]
    exact e
theorem Kf.frzT {c : Fm} {H S : Hp} {as : List Addr} (k : Kf c H S) (q : ∀ a ∈ as, S a = none ∧ c.H0 a = none) : Kf c H (frzS as H S) := by
  have s := frzS_same (H := H) fun a m => (q a m).1
  refine ⟨fun a o e => ?_, k.s0.trans s, k.old, fun a e n => ?_, fun b e => ?_, ⟨fun p hp => ⟨(k.tab.1 p hp).1, ?_⟩, k.tab.2⟩⟩
  · by_cases z : a ∈ as
    · rw [frzS_in z] at e
      exact e
    · rw [frzS_out z] at e
      exact k.sub a o e
  · rw [frzS_out fun z => n.1 (q a z).2]
    exact k.new a e n
  · obtain ⟨⟨b1, cs, i, g, st, n, b2, b3, b4⟩, b5⟩ := k.bag b e
    exact ⟨⟨by rw [frzS_out fun z => b5 (q b z).2]; exact b1, cs, i, g, st, n, b2, s _ _ b3, b4⟩, b5⟩
  · rw [frzS_out fun z => k.tab.2 p hp (q _ z).2]
    exact (k.tab.1 p hp).2
theorem repT_frz {c : Fm} {H S : Hp} {t : T} {v : V} {as : List Addr} (r : RepT c.B S H t v as) (q : ∀ a ∈ as, S a = none) : Rep c.B (frzS as H S) t.d v := rep_tree (frzS_same q) t v as (fun _ m => frzS_in m) r
def RepN (c : Fm) (H S : Hp) : Rk → D → V → Prop
  | .old, d, v => Rep c.B S d v
  | .nw, d, v => Rep c.B (newH c.H0 S) d v
  | .tr, d, v => ∃ as, RepT c.B S H d.tr v as ∧ as.Nodup ∧ ∀ a ∈ as, S a = none ∧ c.H0 a = none
theorem RepN.old {c : Fm} {H S : Hp} {n : Rk} {d : D} {v : V} (k : Kf c H S) (r : RepN c H S n d v) : ∃ S', Kf c H S' ∧ Same S S' ∧ Rep c.B S' d v := by
  cases n with
  | old => exact ⟨S, k, Same.refl S, r⟩
  | nw => exact ⟨S, k, Same.refl S, rep_mono newH_sub d v r⟩
  | tr =>
    obtain ⟨as, r, _, q⟩ := r
    refine ⟨_, k.frzT q, frzS_same fun a m => (q a m).1, ?_⟩
    have := repT_frz r fun a m => (q a m).1
    rw [tr_d] at this
    exact this
def mk (c : Fm) (S : Hp) (Q : DEnds) (D : Ends) : Prop :=
  (∀ σ H S' env, Kn c σ H S' env → Same S S' → Q.nx env → D.nx σ H) ∧ (∀ n v H S' d, Kf c H S' → Same S S' → RepN c H S' n d v → Q.rt n d → D.rt v H) ∧
  (∀ σ H S' env, Kn c σ H S' env → Same S S' → Q.bk env → D.bk σ H) ∧ (∀ σ H S' env, Kn c σ H S' env → Same S S' → Q.ct env → D.ct σ H)
def SmS (E : XK) (t : TS) (T : DTS) : Prop := ∀ (c : Fm) (σ : St) (H S : Hp) (env : En) (Q : DEnds), XOk c E Q.ex → Kn c σ H S env → T Q env →
  ∀ D : Ends, mk c S Q D → t D σ H
theorem mk.mono {c : Fm} {S S' : Hp} {Q : DEnds} {D : Ends} (m : mk c S Q D) (h : Same S S') : mk c S' Q D :=
  ⟨fun σ H S2 env k s q => m.1 σ H S2 env k (h.trans s) q, fun n v H S2 d k s r q => m.2.1 n v H S2 d k (h.trans s) r q, fun σ H S2 env k s q => m.2.2.1 σ H S2 env k (h.trans s) q, fun σ H S2 env k s q => m.2.2.2 σ H S2 env k (h.trans s) q⟩
def DE (X : Cx) (E : XK) (e : Expr) (T : DT) : Prop := ∃ t, PE X e t ∧ Sm E t T
def DTe (X : Cx) (E : XK) (e : Expr) (T : DTT) : Prop := ∃ t, PT X e t ∧ SmT E t T
def DWe (X : Cx) (E : XK) (e : Expr) (T : DTT) : Prop := ∃ t, PW X e t ∧ SmT E t T
def DA (X : Cx) (E : XK) (es : List Expr) (T : DTA) : Prop := ∃ t, PA X es t ∧ SmA E t T
def DS (X : Cx) (E : XK) (st : Stmt) (T : DTS) : Prop := ∃ t, PS X st t ∧ SmS E t T
def DSs (X : Cx) (E : XK) (st : List Stmt) (T : DTS) : Prop := ∃ t, PSs X st t ∧ SmS E t T
section
variable {X : Cx} {E : XK} {pos : Pos}
def xVar (i : Nat) : DT := fun env R _ => ∃ d, env[i]? = some (some (.val d)) ∧ R d
def xC (d : D) : DT := fun _ R _ => R d
theorem sm_var (i : Nat) : Sm E (tVar i) (xVar i) := fun c σ H S env R Rx _ k t Q q => by
  obtain ⟨d, e, r⟩ := t
  obtain ⟨v, e1, r1⟩ := k.sl i _ e
  exact ⟨v, e1, q v H S d k (Same.refl S) r1 r⟩
theorem sm_c {v : V} {d : D} (h : ∀ B S, Rep B S d v) : Sm E (tC v) (xC d) := fun c σ H S env R Rx _ k t Q q => q v H S d k (Same.refl S) (h _ _) t
theorem d_var (i : Nat) {x : Str} (hN : X.N[i]? = some x := by rfl) (hv : Vis X.env.scope x := by first | exact Or.inl rfl | exact Or.inr (Or.inl rfl) | exact Or.inr (Or.inr rfl)) (hd : (x == ("__debug__" : Str)) = false := by decide)
    (hcd : (x == ("__classdict__" : Str)) = false := by decide) : DE X E (.Name x pos) (xVar i) := ⟨_, pv i hN hv hd hcd, sm_var i⟩
theorem d_int {i : Int} {j} : DE X E (.Constant (.int i) j pos) (xC (.int i)) := ⟨_, pe_int, sm_c fun _ _ => rfl⟩
theorem d_bl {b : Bool} {j} : DE X E (.Constant (.bool b) j pos) (xC (.bl b)) := ⟨_, pe_bl, sm_c fun _ _ => rfl⟩
theorem d_non {j} : DE X E (.Constant .none j pos) (xC .non) := ⟨_, pe_non, sm_c fun _ _ => rfl⟩
theorem d_str {s : Str} {j} : DE X E (.Constant (.str s) j pos) (xC (.str s)) := ⟨_, pe_str, sm_c fun _ _ => rfl⟩
theorem d_gint {x : Str} {i : Int} (hm : ∃ t, X.mg x = some (.int i t)) (hg : Gl X x := by rfl) (hd : (x == ("__debug__" : Str)) = false := by decide) : DE X E (.Name x pos) (xC (.int i)) := by
  obtain ⟨t, e⟩ := hm
  exact ⟨_, pe_glob (v := .int i) hg e ⟨t, rfl⟩ hd, sm_c fun _ _ => rfl⟩
theorem d_gstr {x s : Str} (hm : ∃ t, X.mg x = some (.str s t)) (hg : Gl X x := by rfl) (hd : (x == ("__debug__" : Str)) = false := by decide) : DE X E (.Name x pos) (xC (.str s)) := by
  obtain ⟨t, e⟩ := hm
  exact ⟨_, pe_glob (v := .str s) hg e ⟨t, rfl⟩ hd, sm_c fun _ _ => rfl⟩
end
abbrev DOp := D → D → (D → Prop) → Prop
def SmOp (r : R2) (op : DOp) : Prop := ∀ (c : Fm) (σ : St) (H S : Hp) (env : En) (x y : D) (v u : V) (R : D → Prop), Kn c σ H S env → Rep c.B S x v → Rep c.B S y u → op x y R →
  ∀ Q : VK, (∀ z H' S' d, Kn c σ H' S' env → Same S S' → Rep c.B S' d z → R d → Q z H') → r v u H Q
def xOp (op : DOp) (Ta Tb : DT) : DT := fun env R Rx => Ta env (fun x => Tb env (fun y => op x y R) Rx) Rx
section
variable {X : Cx} {E : XK} {pos : Pos} {a b : Expr} {Ta Tb : DT} {ta tb : TE}
theorem sm_op {r : R2} {op : DOp} (ho : SmOp r op) (ha : Sm E ta Ta) (hb : Sm E tb Tb) : Sm E (tOp r ta tb) (xOp op Ta Tb) := fun c σ H S env R Rx x k t Q q =>
  ha c σ H S env _ Rx x k t _ fun v H1 S1 d1 k1 s1 r1 t1 => hb c σ H1 S1 env _ Rx x k1 t1 _ fun u H2 S2 d2 k2 s2 r2 t2 =>
    ho c σ H2 S2 env d1 d2 v u R k2 (rep_mono s2 d1 v r1) r2 t2 Q fun z H3 S3 d3 k3 s3 r3 t3 => q z H3 S3 d3 k3 ((s1.trans s2).trans s3) r3 t3
theorem d_op {op : Operator} {r : R2} {dop : DOp} (h : OpR X (binaryOp op) r) (ho : SmOp r dop) (ha : DE X E a Ta) (hb : DE X E b Tb) : DE X E (.BinOp a op b pos) (xOp dop Ta Tb) := by
  obtain ⟨ta, p1, s1⟩ := ha
  obtain ⟨tb, p2, s2⟩ := hb
  exact ⟨_, pe_op h p1 p2, sm_op ho s1 s2⟩
def opAdd : DOp
  | .int i, .int j, R => R (.int (i + j))
  | .str s, .str t, R => s.length + t.length ≤ sizeLine ∧ R (.str (s ++ t))
  | .lst xs, .lst ys, R => xs.length + ys.length ≤ sizeLine ∧ R (.lst (xs ++ ys))
  | .tup xs, .tup ys, R => xs.length + ys.length ≤ sizeLine ∧ R (.tup (xs ++ ys))
  | _, _, _ => False
def opSub : DOp
  | .int i, .int j, R => R (.int (i - j))
  | _, _, _ => False
/-- what a product of ints asks -/
def MulOk (i j : Int) : Prop := CMul i j ∨ CMulW i j
/-- a text, so many times -/
def mulS (s : Str) (n : Nat) : Str := ⟨(List.replicate n s.cps.toList).flatten.toArray⟩
theorem mulS_is {s : Str} {k : Int} : Txt.mul s k = mulS s k.toNat := by
  obtain ⟨⟨l⟩⟩ := s
  have f0 : ∀ (m : Nat) (a : List Nat), List.foldl (fun x1 x2 => x1 ++ x2) (⟨a⟩ : Array Nat) (List.replicate m ⟨l⟩) = ⟨a ++ (List.replicate m l).flatten⟩ := fun m => by
    induction m with
    | zero => intro a; simp
    | succ m ih =>
      intro a
      rw [List.replicate_succ, List.foldl_cons, List.replicate_succ, List.flatten_cons]
      have : (⟨a⟩ : Array Nat) ++ (⟨l⟩ : Array Nat) = ⟨a ++ l⟩ := by simp
      rw [this, ih, List.append_assoc]
  unfold Txt.mul mulS
  by_cases h1 : k < 1
  · rw [if_pos h1, show k.toNat = 0 by omega]
    rfl
  · rw [if_neg h1]
    split
    · rename_i h2
      rw [Bool.or_eq_true, beq_iff_eq, beq_iff_eq] at h2
      rcases h2 with rfl | h2
      · simp
      · have : l = [] := List.eq_nil_of_length_eq_zero h2
        subst this
        simp
    · have := f0 k.toNat []
      rw [List.nil_append] at this
      show Str.mk _ = Str.mk _
      congr 1
theorem mulOk_of {s : Str} {k : Int} (h1 : -(2 ^ 63) ≤ k) (h2 : k < 2 ^ 63) (h3 : s.length * k.toNat ≤ sizeLine) : PySem.MulOk s k := by
  have e : sizeLine = 16777216 := rfl
  refine ⟨by simp only [Bool.or_eq_false_iff, decide_eq_false_iff_not]; omega, fun z _ => ?_, fun z _ => ?_⟩
  · have hk : (k.toNat : Int) = k := by omega
    have h4 : (s.length : Int) * k ≤ 16777216 := by
      rw [← hk, ← Int.natCast_mul]
      omega
    have : (s.length : Int) ≤ (2 ^ 63 - 1) / k := (Int.le_ediv_iff_mul_le (by omega)).mpr (by omega)
    omega
  · show decide (_ > sizeLine) = false
    rw [decide_eq_false_iff_not]
    omega
abbrev rMulS : R2 := fun x y H Q => ∃ s k, x = .str s ∧ y = .int k ∧ PySem.MulOk s k ∧ Q (.str (Txt.mul s k)) H
theorem op_mulS : OpR X (binaryOp .Mult) rMulS := by
  intro pins s σ H x y v u Q I rx ry h
  obtain ⟨i, j, rfl, rfl, hz, q⟩ := h
  obtain ⟨t, rfl⟩ := rx
  obtain ⟨t', rfl⟩ := ry
  exact SB.mul hz fun t' k => ⟨.str (Txt.mul i j), H, I.tok _, ⟨_, rfl⟩, q⟩
def opMul : DOp
  | .int i, .int j, R => MulOk i j ∧ R (.int (i * j))
  | .lst xs, .int k, R => -(2 ^ 63) ≤ k ∧ k < 2 ^ 63 ∧ xs.length * k.toNat ≤ sizeLine ∧ R (.lst (List.replicate k.toNat xs).flatten)
  | .str s, .int k, R => -(2 ^ 63) ≤ k ∧ k < 2 ^ 63 ∧ s.length * k.toNat ≤ sizeLine ∧ R (.str (mulS s k.toNat))
  | _, _, _ => False
def DivOk (j : Int) : Prop := (j ≠ 0 ∧ j.natAbs < 1073741824) ∨ (0 < j ∧ j.natAbs.log2 < 9000)
def opFdiv : DOp
  | .int i, .int j, R => DivOk j ∧ R (.int (i.fdiv j))
  | _, _, _ => False
def opMod : DOp
  | .int i, .int j, R => j ≠ 0 ∧ R (.int (i.fmod j))
  | _, _, _ => False
def opPow : DOp
  | .int i, .int j, R => (0 ≤ j ∧ j ≤ 1000000 ∧ i.natAbs < 2 ^ 64) ∧ R (.int (i ^ j.toNat))
  | _, _, _ => False
theorem smOp_int {C : Int → Int → Prop} {g : Int → Int → V} {f : Int → Int → D} {op : DOp} (hr : ∀ i j B S, Rep B S (f i j) (g i j)) (h : ∀ x y R, op x y R → ∃ i j, x = .int i ∧ y = .int j ∧ C i j ∧ R (f i j)) : SmOp (rI C g) op :=
  fun c σ H S env x y v u R k r1 r2 t Q q => by
    obtain ⟨i, j, rfl, rfl, hc, t⟩ := h x y R t
    exact ⟨i, j, r1, r2, hc, q _ H S _ k (Same.refl S) (hr i j _ _) t⟩
theorem smOp_int0 {g : Int → Int → V} {f : Int → Int → D} {op : DOp} (hr : ∀ i j B S, Rep B S (f i j) (g i j)) (h : ∀ x y R, op x y R → ∃ i j, x = .int i ∧ y = .int j ∧ R (f i j)) : SmOp (rI0 g) op :=
  fun c σ H S env x y v u R k r1 r2 t Q q => by
    obtain ⟨i, j, rfl, rfl, t2⟩ := h x y R t
    exact ⟨i, j, r1, r2, q _ H S _ k (Same.refl S) (hr i j _ _) t2⟩
theorem lst_of {c : Fm} {σ : St} {H S : Hp} {env : En} {xs : List D} {v : V} (k : Kn c σ H S env) (r : Rep c.B S (.lst xs) v) : ∃ a vs, v = .ref a ∧ H a = some (.lst vs) ∧ S a = some (.lst vs) ∧ RepL c.B S xs vs := by
  obtain ⟨a, vs, e, q, l⟩ := r
  exact ⟨a, vs, e, k.kf.sub _ _ q, q, l⟩
theorem tup_of {c : Fm} {σ : St} {H S : Hp} {env : En} {xs : List D} {v : V} (k : Kn c σ H S env) (r : Rep c.B S (.tup xs) v) : ∃ a vs, v = .ref a ∧ H a = some (.tup vs) ∧ S a = some (.tup vs) ∧ RepL c.B S xs vs := by
  obtain ⟨a, vs, e, q, l⟩ := r
  exact ⟨a, vs, e, k.kf.sub _ _ q, q, l⟩
/-- a new list, a new tuple of known items -/
theorem put_lst {c : Fm} {σ : St} {H S : Hp} {env : En} {ds : List D} {vs : List V} {p : Addr} (k : Kn c σ H S env) (l : RepL c.B S ds vs) (h : H p = none) :
    Kn c σ (upd H p (.lst vs)) (upd S p (.lst vs)) env ∧ Same S (upd S p (.lst vs)) ∧ Rep c.B (upd S p (.lst vs)) (.lst ds) (.ref p) := by
  have s : Same S (upd S p (.lst vs)) := same_upd (k.kf.s_none h)
  exact ⟨k.new h, s, p, vs, rfl, upd_same, repL_mono s ds vs l⟩
theorem put_tup {c : Fm} {σ : St} {H S : Hp} {env : En} {ds : List D} {vs : List V} {p : Addr} (k : Kn c σ H S env) (l : RepL c.B S ds vs) (h : H p = none) :
    Kn c σ (upd H p (.tup vs)) (upd S p (.tup vs)) env ∧ Same S (upd S p (.tup vs)) ∧ Rep c.B (upd S p (.tup vs)) (.tup ds) (.ref p) := by
  have s : Same S (upd S p (.tup vs)) := same_upd (k.kf.s_none h)
  exact ⟨k.new h, s, p, vs, rfl, upd_same, repL_mono s ds vs l⟩
abbrev rAddS0 : R2 := fun x y H Q => ∃ i j, x = .str i ∧ y = .str j ∧ i.length + j.length ≤ sizeLine ∧ Q (.str (i ++ j)) H
abbrev rAddAll (K : PySem.W.Frag) : R2 := fun x y H Q => rI0 (fun i j => .int (i + j)) x y H Q ∨ (fun x y H Q => rAddS0 x y H Q ∨ (fun x y H Q => rCat x y H Q ∨ rCatA K x y H Q) x y H Q) x y H Q
theorem op_addAll : OpR X (binaryOp .Add) (rAddAll X.K) := op_add.or (op_add_str.or (op_cat.or op_catA))
theorem smOp_add {K : PySem.W.Frag} : SmOp (rAddAll K) opAdd := by
  intro c σ H S env x y v u R k r1 r2 t Q q
  cases x <;> cases y <;> try exact (show False from t).elim
  · exact .inl ⟨_, _, r1, r2, q _ H S (.int _) k (Same.refl S) rfl t⟩
  · exact .inr (.inl ⟨_, _, r1, r2, t.1, q _ H S (.str _) k (Same.refl S) rfl t.2⟩)
  · obtain ⟨a, vs, e1, h1, _, l1⟩ := lst_of k r1
    obtain ⟨b, ws, e2, h2, _, l2⟩ := lst_of k r2
    obtain ⟨hz, t⟩ := t
    refine .inr (.inr (.inl ⟨a, b, vs, ws, e1, e2, h1, h2, by rw [l1.length, l2.length]; exact hz, fun p hp => ?_⟩))
    obtain ⟨k', s', r'⟩ := put_lst k (l1.app l2) hp
    exact q _ _ _ _ k' s' r' t
  · obtain ⟨a, vs, e1, h1, hS1, l1⟩ := tup_of k r1
    obtain ⟨b, ws, e2, h2, hS2, l2⟩ := tup_of k r2
    obtain ⟨hz, t⟩ := t
    refine .inr (.inr (.inr ⟨a, b, vs, ws, e1, e2, SqT.of h1, SqT.of h2, by rw [l1.length, l2.length]; exact hz, fun z => ?_, fun z z2 => ?_, fun z z2 p hp => ?_⟩))
    · subst z
      have e0 : ∀ {ds : List D}, RepL c.B S ds [] → ds = [] := fun {ds} l => by
        have := l.length
        exact List.length_eq_zero_iff.mp (by simpa using this.symm)
      have e3 := e0 l1
      subst e3
      exact q _ H S _ k (Same.refl S) (show Rep c.B S (.tup ([] ++ _)) (.ref b) from ⟨b, ws, rfl, hS2, l2⟩) t
    · subst z2
      have e0 : ∀ {ds : List D}, RepL c.B S ds [] → ds = [] := fun {ds} l => by
        have := l.length
        exact List.length_eq_zero_iff.mp (by simpa using this.symm)
      have e3 := e0 l2
      subst e3
      rw [List.append_nil] at t
      exact q _ H S (.tup _) k (Same.refl S) ⟨a, vs, rfl, hS1, l1⟩ t
    · obtain ⟨k', s', r'⟩ := put_tup k (l1.app l2) hp
      exact q _ _ _ _ k' s' r' t
theorem d_add (ha : DE X E a Ta) (hb : DE X E b Tb) : DE X E (.BinOp a .Add b pos) (xOp opAdd Ta Tb) := d_op op_addAll smOp_add ha hb
theorem d_sub (ha : DE X E a Ta) (hb : DE X E b Tb) : DE X E (.BinOp a .Sub b pos) (xOp opSub Ta Tb) := d_op op_sub (smOp_int0 (f := fun i j => .int (i - j)) (fun _ _ _ _ => rfl) fun x y R t => by
  cases x <;> cases y <;> first | exact (show False from t).elim | exact ⟨_, _, rfl, rfl, t⟩) ha hb
theorem d_mul (ha : DE X E a Ta) (hb : DE X E b Tb) : DE X E (.BinOp a .Mult b pos) (xOp opMul Ta Tb) := by
  refine d_op (op_mul.or (op_mulW.or (op_rep.or op_mulS))) ?_ ha hb
  intro c σ H S env x y v u R k r1 r2 t Q q
  cases x <;> cases y <;> try exact (show False from t).elim
  · obtain ⟨hc | hc, t⟩ := t
    · exact .inl ⟨_, _, r1, r2, hc, q _ H S (.int _) k (Same.refl S) rfl t⟩
    · exact .inr (.inl ⟨_, _, r1, r2, hc, q _ H S (.int _) k (Same.refl S) rfl t⟩)
  · obtain ⟨t1, t2, t3, t⟩ := t
    exact .inr (.inr (.inr ⟨_, _, r1, r2, mulOk_of t1 t2 t3, by rw [mulS_is]; exact q _ H S (.str _) k (Same.refl S) rfl t⟩))
  · obtain ⟨t1, t2, t3, t⟩ := t
    obtain ⟨a, vs, e1, h1, _, l1⟩ := lst_of k r1
    refine .inr (.inr (.inl ⟨a, _, vs, e1, r2, h1, t1, t2, by rw [l1.length]; exact t3, fun p hp => ?_⟩))
    obtain ⟨k', s', r'⟩ := put_lst k (l1.rep _) hp
    exact q _ _ _ _ k' s' r' t
theorem fdiv_pos {i j : Int} (h : 0 < j) : i.fdiv j = i / j := Int.fdiv_eq_ediv_of_nonneg i (by omega)
theorem d_fdiv (ha : DE X E a Ta) (hb : DE X E b Tb) : DE X E (.BinOp a .FloorDiv b pos) (xOp opFdiv Ta Tb) := by
  refine d_op (op_fdivN.or op_fdivW) ?_ ha hb
  intro c σ H S env x y v u R k r1 r2 t Q q
  cases x <;> cases y <;> try exact (show False from t).elim
  obtain ⟨hc | hc, t⟩ := t
  · exact .inl ⟨_, _, r1, r2, hc, q _ H S (.int _) k (Same.refl S) rfl t⟩
  · exact .inr ⟨_, _, r1, r2, hc, q _ H S (.int _) k (Same.refl S) (by rw [fdiv_pos hc.1]; rfl) t⟩
theorem d_mod (ha : DE X E a Ta) (hb : DE X E b Tb) : DE X E (.BinOp a .Mod b pos) (xOp opMod Ta Tb) := d_op op_modN (smOp_int (f := fun i j => .int (i.fmod j)) (fun _ _ _ _ => rfl) fun x y R t => by
  cases x <;> cases y <;> first | exact (show False from t).elim | exact ⟨_, _, rfl, rfl, t⟩) ha hb
theorem d_pow (ha : DE X E a Ta) (hb : DE X E b Tb) : DE X E (.BinOp a .Pow b pos) (xOp opPow Ta Tb) := d_op op_pow (smOp_int (f := fun i j => .int (i ^ j.toNat)) (fun _ _ _ _ => rfl) fun x y R t => by
  cases x <;> cases y <;> first | exact (show False from t).elim | exact ⟨_, _, rfl, rfl, t⟩) ha hb
def xUn (f : D → (D → Prop) → Prop) (Ta : DT) : DT := fun env R Rx => Ta env (fun x => f x R) Rx
def opNeg : D → (D → Prop) → Prop
  | .int i, R => R (.int (-i))
  | _, _ => False
theorem d_neg (ha : DE X E a Ta) : DE X E (.UnaryOp .USub a pos) (xUn opNeg Ta) := by
  obtain ⟨ta, p1, s1⟩ := ha
  refine ⟨_, pe_un un_neg p1, fun c σ H S env R Rx x k t Q q => s1 c σ H S env _ Rx x k t _ fun v H1 S1 d k1 s1 r1 t1 => ?_⟩
  cases d <;> try exact (show False from t1).elim
  exact ⟨_, r1, q _ H1 S1 (.int _) k1 s1 rfl t1⟩
end
end DL
namespace DL
open PySem PySem.Spec L2
variable [TbC]
mutual
def D.py : D → PyData
  | .bl b => .bool b
  | .int i => .int i
  | .str s => .str s
  | .lst xs => .list (pyL xs)
  | .tup xs => .tuple (pyL xs)
  | .non | .ty _ | .adr _ | .bag | .fn _ _ _ | .exc _ _ _ _ _ | .dct _ _ | .dcT _ _ | .obj _ _ _ => .none
def pyL : List D → List PyData
  | [] => []
  | x :: xs => x.py :: pyL xs
end
mutual
def D.dat : D → Bool
  | .non | .bl _ | .int _ | .str _ => true
  | .lst xs | .tup xs => datL xs
  | .ty _ | .adr _ | .bag | .fn _ _ _ | .exc _ _ _ _ _ | .dct _ _ | .dcT _ _ | .obj _ _ _ => false
def datL : List D → Bool
  | [] => true
  | x :: xs => x.dat && datL xs
end
mutual
def D.dep : D → Nat
  | .lst xs | .tup xs => 1 + depL xs
  | .non | .bl _ | .int _ | .str _ | .ty _ | .adr _ | .bag | .fn _ _ _ | .exc _ _ _ _ _ | .dct _ _ | .dcT _ _ | .obj _ _ _ => 1
def depL : List D → Nat
  | [] => 0
  | x :: xs => max x.dep (depL xs)
end
mutual
theorem py_plain : ∀ d : D, d.py.plain = true
  | .non | .bl _ | .int _ | .str _ | .ty _ | .adr _ | .bag | .fn _ _ _ | .exc _ _ _ _ _ | .dct _ _ | .dcT _ _ | .obj _ _ _ => rfl
  | .lst xs => py_plainL xs
  | .tup xs => py_plainL xs
theorem py_plainL : ∀ xs : List D, PyData.plainAll (pyL xs) = true
  | [] => rfl
  | x :: xs => by
    show (x.py.plain && PyData.plainAll (pyL xs)) = true
    rw [py_plain x, py_plainL xs]
    rfl
end
section
variable {B : Option Addr} {S H : Hp} {K : PySem.W.Frag}
mutual
theorem rep_dp (h : Same S H) : ∀ (d : D) (v : V), d.dat = true → Rep B S d v → Dp K H v d.py
  | .non, v, _, r => by rw [show v = .non from r]; exact .non
  | .bl b, v, _, r => by rw [show v = .bl b from r]; exact .bl b
  | .int i, v, _, r => by rw [show v = .int i from r]; exact .int i
  | .str s, v, _, r => by rw [show v = .str s from r]; exact .str s
  | .lst ds, v, t, r => by
    rw [Rep] at r
    obtain ⟨a, vs, e, q, l⟩ := r
    subst e
    exact .lst (SqL.of (h _ _ q)) (repL_dp h ds vs t l)
  | .tup ds, v, t, r => by
    rw [Rep] at r
    obtain ⟨a, vs, e, q, l⟩ := r
    subst e
    exact .tup (SqT.of (h _ _ q)) (repL_dp h ds vs t l)
  | .ty _, _, t, _ => nomatch (show false = true from t)
  | .adr _, _, t, _ => nomatch (show false = true from t)
  | .bag, _, t, _ => nomatch (show false = true from t)
  | .fn _ _ _, _, t, _ => nomatch (show false = true from t)
  | .exc _ _ _ _ _, _, t, _ => nomatch (show false = true from t)
  | .dct _ _, _, t, _ => nomatch (show false = true from t)
  | .dcT _ _, _, t, _ => nomatch (show false = true from t)
  | .obj _ _ _, _, t, _ => nomatch (show false = true from t)
theorem repL_dp (h : Same S H) : ∀ (ds : List D) (vs : List V), datL ds = true → RepL B S ds vs → DpAll K H vs (pyL ds)
  | [], vs, _, l => by rw [repL_nil_of l]; exact .nil
  | d :: ds, vs, t, l => by
    obtain ⟨v, ws, e, r, l2⟩ := repL_cons_of l
    subst e
    have t2 : (d.dat && datL ds) = true := t
    rw [Bool.and_eq_true] at t2
    exact .cons (rep_dp h d v t2.1 r) (repL_dp h ds ws t2.2 l2)
end
end
mutual
theorem py_depth : ∀ d : D, d.py.depth ≤ d.dep
  | .non | .bl _ | .int _ | .str _ | .ty _ | .adr _ | .bag | .fn _ _ _ | .exc _ _ _ _ _ | .dct _ _ | .dcT _ _ | .obj _ _ _ => by simp [D.py, D.dep, PyData.depth]
  | .lst xs => by
    have := py_depthL xs
    simp only [D.py, D.dep, PyData.depth]
    omega
  | .tup xs => by
    have := py_depthL xs
    simp only [D.py, D.dep, PyData.depth]
    omega
theorem py_depthL : ∀ xs : List D, PyData.depthAll (pyL xs) ≤ depL xs
  | [] => by simp [pyL, depL, PyData.depthAll]
  | x :: xs => by
    have h1 := py_depth x
    have h2 := py_depthL xs
    simp only [pyL, depL, PyData.depthAll]
    omega
end
section
variable {X : Cx} {E : XK} {pos : Pos} {a b c : Expr} {Ta Tb Tc : DT} {ta tb tc : TE}
def rEqP (K : PySem.W.Frag) : R2 := fun x y H Q => ∃ d e, Dp K H x d ∧ Dp K H y e ∧ d.plain = true ∧ e.plain = true ∧ d.depth ≤ 64 ∧ Q (.bl (PyData.eqv d e)) H
def rNeP (K : PySem.W.Frag) : R2 := fun x y H Q => ∃ d e, Dp K H x d ∧ Dp K H y e ∧ d.plain = true ∧ e.plain = true ∧ d.depth ≤ 64 ∧ Q (.bl (!PyData.eqv d e)) H
theorem op_eqP (hu : X.A.units + 64 < cLine) : OpR X (compareOp .Eq) (rEqP X.K) := by
  intro pins s σ H x y v u Q I rx ry h
  obtain ⟨d, e, hd, he, pd, pe, hz, q⟩ := h
  obtain ⟨as, r1⟩ := Dp.reads I d x v hd rx
  obtain ⟨bs, r2⟩ := Dp.reads I e y u he ry
  exact SeqAt.eq_plain r1 r2 pd pe (by have := Nat.min_le_left d.depth e.depth; omega) ⟨.bl _, H, I, rfl, q⟩
theorem op_neP (hu : X.A.units + 64 < cLine) : OpR X (compareOp .NotEq) (rNeP X.K) := by
  intro pins s σ H x y v u Q I rx ry h
  obtain ⟨d, e, hd, he, pd, pe, hz, q⟩ := h
  obtain ⟨as, r1⟩ := Dp.reads I d x v hd rx
  obtain ⟨bs, r2⟩ := Dp.reads I e y u he ry
  exact SeqAt.ne_plain r1 r2 pd pe (by have := Nat.min_le_left d.depth e.depth; omega) ⟨.bl _, H, I, rfl, q⟩
def opEq : DOp := fun x y R => x.dat = true ∧ y.dat = true ∧ x.dep ≤ 64 ∧ R (.bl (PyData.eqv x.py y.py))
def opNe : DOp := fun x y R => x.dat = true ∧ y.dat = true ∧ x.dep ≤ 64 ∧ R (.bl (!PyData.eqv x.py y.py))
def CmpOk (X : Cx) (op : CmpOp) (dop : DOp) : Prop := ∃ r, OpR X (compareOp op) r ∧ SmOp r dop
theorem c_eq (hu : X.A.units + 64 < cLine) : CmpOk X .Eq opEq := ⟨_, op_eqP hu, fun c σ H S env x y v u R k r1 r2 t Q q => by
  obtain ⟨t1, t2, t3, t⟩ := t
  exact ⟨x.py, y.py, rep_dp k.kf.sub x v t1 r1, rep_dp k.kf.sub y u t2 r2, py_plain x, py_plain y, Nat.le_trans (py_depth x) t3, q _ H S (.bl _) k (Same.refl S) rfl t⟩⟩
theorem c_ne (hu : X.A.units + 64 < cLine) : CmpOk X .NotEq opNe := ⟨_, op_neP hu, fun c σ H S env x y v u R k r1 r2 t Q q => by
  obtain ⟨t1, t2, t3, t⟩ := t
  exact ⟨x.py, y.py, rep_dp k.kf.sub x v t1 r1, rep_dp k.kf.sub y u t2 r2, py_plain x, py_plain y, Nat.le_trans (py_depth x) t3, q _ H S (.bl _) k (Same.refl S) rfl t⟩⟩
def opLt : DOp
  | .int i, .int j, R => R (.bl (decide (i < j)))
  | _, _, _ => False
def opLe : DOp
  | .int i, .int j, R => R (.bl (decide (i ≤ j)))
  | _, _, _ => False
def opGt : DOp
  | .int i, .int j, R => R (.bl (decide (j < i)))
  | _, _, _ => False
def opGe : DOp
  | .int i, .int j, R => R (.bl (decide (j ≤ i)))
  | _, _, _ => False
theorem c_lt : CmpOk X .Lt opLt := ⟨_, op_lt, smOp_int0 (f := fun i j => .bl (decide (i < j))) (fun _ _ _ _ => rfl) fun x y R t => by
  cases x <;> cases y <;> first | exact (show False from t).elim | exact ⟨_, _, rfl, rfl, t⟩⟩
theorem c_le : CmpOk X .LtE opLe := ⟨_, op_le, smOp_int0 (f := fun i j => .bl (decide (i ≤ j))) (fun _ _ _ _ => rfl) fun x y R t => by
  cases x <;> cases y <;> first | exact (show False from t).elim | exact ⟨_, _, rfl, rfl, t⟩⟩
theorem c_gt : CmpOk X .Gt opGt := ⟨_, op_gt, smOp_int0 (f := fun i j => .bl (decide (j < i))) (fun _ _ _ _ => rfl) fun x y R t => by
  cases x <;> cases y <;> first | exact (show False from t).elim | exact ⟨_, _, rfl, rfl, t⟩⟩
theorem c_ge : CmpOk X .GtE opGe := ⟨_, op_ge, smOp_int0 (f := fun i j => .bl (decide (j ≤ i))) (fun _ _ _ _ => rfl) fun x y R t => by
  cases x <;> cases y <;> first | exact (show False from t).elim | exact ⟨_, _, rfl, rfl, t⟩⟩
/-- is None -/
def D.isN : D → Bool
  | .non => true
  | _ => false
theorem rep_isN {B : Option Addr} {S : Hp} {d : D} {v : V} (r : Rep B S d v) : decide (v = .non) = d.isN := by
  cases d with
  | non => rw [show v = .non from r]; rfl
  | bl _ => rw [show v = _ from r]; rfl
  | int _ => rw [show v = _ from r]; rfl
  | str _ => rw [show v = _ from r]; rfl
  | ty _ => rw [show v = _ from r]; rfl
  | adr _ => rw [show v = _ from r]; rfl
  | bag => obtain ⟨b, _, e⟩ := r; rw [e]; rfl
  | fn _ _ _ => rw [Rep] at r; obtain ⟨_, _, _, e, _⟩ := r; rw [e]; rfl
  | exc _ _ _ _ _ => rw [Rep] at r; obtain ⟨_, e, _⟩ := r; rw [e]; rfl
  | lst _ => rw [Rep] at r; obtain ⟨_, _, e, _⟩ := r; rw [e]; rfl
  | tup _ => rw [Rep] at r; obtain ⟨_, _, e, _⟩ := r; rw [e]; rfl
  | obj _ _ _ => rw [Rep] at r; obtain ⟨_, _, _, e, _⟩ := r; rw [e]; rfl
  | dct _ _ => rw [Rep] at r; obtain ⟨_, _, e, _⟩ := r; rw [e]; rfl
  | dcT _ _ => rw [Rep] at r; obtain ⟨_, _, e, _⟩ := r; rw [e]; rfl
def opIs : DOp := fun x y R => y.isN = true ∧ R (.bl x.isN)
def opIsNot : DOp := fun x y R => y.isN = true ∧ R (.bl (!x.isN))
theorem isN_eq {B : Option Addr} {S : Hp} {d : D} {v : V} (r : Rep B S d v) (h : d.isN = true) : v = .non := by
  rw [← rep_isN r] at h
  exact of_decide_eq_true h
theorem c_is : CmpOk X .Is opIs := ⟨_, op_isN, fun c σ H S env x y v u R k r1 r2 t Q q => ⟨isN_eq r2 t.1, by
  rw [rep_isN r1]
  exact q _ H S (.bl _) k (Same.refl S) rfl t.2⟩⟩
/-- in: scalars in a list, a tuple -/
def D.sc : D → Bool
  | .non | .bl _ | .int _ | .str _ => true
  | _ => false
def D.v : D → V
  | .bl b => .bl b
  | .int i => .int i
  | .str s => .str s
  | _ => .non
theorem rep_v {B : Option Addr} {S : Hp} {d : D} {v : V} (r : Rep B S d v) (h : d.sc = true) : v = d.v ∧ flatV d.v = true := by
  cases d <;> first | exact ⟨r, rfl⟩ | exact nomatch (show false = true from h)
theorem repL_v {B : Option Addr} {S : Hp} : ∀ {ds : List D} {vs : List V}, RepL B S ds vs → ds.all D.sc = true → vs = ds.map D.v ∧ (ds.map D.v).all flatV = true
  | [], vs, r, _ => ⟨repL_nil_of r, rfl⟩
  | d :: ds, vs, r, h => by
    obtain ⟨v, ws, e, r1, l⟩ := repL_cons_of r
    subst e
    rw [List.all_cons, Bool.and_eq_true] at h
    obtain ⟨e1, f1⟩ := rep_v r1 h.1
    obtain ⟨e2, f2⟩ := repL_v l h.2
    subst e1
    subst e2
    exact ⟨rfl, by rw [List.map_cons, List.all_cons, f1, f2]; rfl⟩
/-- one sign in a text -/
def oneSign (s : Str) : Option Nat := match s.cps.toList with
  | [c] => some c
  | _ => none
theorem oneSign_eq {s : Str} {c : Nat} (h : oneSign s = some c) : s = ⟨#[c]⟩ := by
  obtain ⟨⟨l⟩⟩ := s
  unfold oneSign at h
  cases l with
  | nil => cases h
  | cons x r => cases r with
    | nil => cases h; rfl
    | cons y r => cases h
def opIn : DOp := fun x y R => match y with
  | .lst ys | .tup ys => x.sc = true ∧ ys.all D.sc = true ∧ R (.bl (inV x.v (ys.map D.v)))
  | .str z => ∃ s c, x = .str s ∧ oneSign s = some c ∧ R (.bl (decide (c ∈ z.cps.toList)))
  | _ => False
def opNotIn : DOp := fun x y R => opIn x y fun d => match d with
  | .bl b => R (.bl (!b))
  | _ => False
theorem c_notin : CmpOk X .NotIn opNotIn := by
  refine ⟨_, op_notIn_seq.or op_notIn_sign, fun c σ H S env x y v u R k r1 r2 t Q q => ?_⟩
  cases y <;> try exact (show False from t).elim
  · obtain ⟨s, c, rfl, e, t⟩ := t
    refine .inr ⟨c, _, ?_, r2, q _ H S (.bl _) k (Same.refl S) rfl t⟩
    rw [← oneSign_eq e]
    exact r1
  · obtain ⟨t1, t2, t⟩ := t
    obtain ⟨a, vs, e, h, _, l⟩ := lst_of k r2
    obtain ⟨e1, f1⟩ := rep_v r1 t1
    obtain ⟨e2, f2⟩ := repL_v l t2
    subst e1
    subst e2
    exact .inl ⟨a, _, e, .inl (SqL.of h), f1, f2, q _ H S (.bl _) k (Same.refl S) rfl t⟩
  · obtain ⟨t1, t2, t⟩ := t
    obtain ⟨a, vs, e, h, _, l⟩ := tup_of k r2
    obtain ⟨e1, f1⟩ := rep_v r1 t1
    obtain ⟨e2, f2⟩ := repL_v l t2
    subst e1
    subst e2
    exact .inl ⟨a, _, e, .inr (SqT.of h), f1, f2, q _ H S (.bl _) k (Same.refl S) rfl t⟩
theorem d_cmp {op : CmpOp} {dop : DOp} (h : CmpOk X op dop) (ha : DE X E a Ta) (hb : DE X E b Tb) (hm : behindInMarks op b = false) : DE X E (.Compare a [op] [b] pos) (xOp dop Ta Tb) := by
  obtain ⟨r, h1, h2⟩ := h
  obtain ⟨ta, p1, s1⟩ := ha
  obtain ⟨tb, p2, s2⟩ := hb
  exact ⟨_, pe_cmpR h1 p1 p2 hm, sm_op h2 s1 s2⟩
/-- a value's truth that is a bool -/
def asB (R : Bool → Prop) : D → Prop
  | .bl b => R b
  | _ => False
def xTest (T : DT) : DTT := fun env R Rx => T env (asB R) Rx
theorem smT_test {t : TE} {T : DT} (h : Sm E t T) : SmT E (tTest t) (xTest T) := fun c σ H S env R Rx x k t Q q =>
  h c σ H S env _ Rx x k t _ fun v H1 S1 d k1 s1 r1 t1 => by
    cases d <;> try exact (show False from t1).elim
    exact ⟨_, r1, q _ H1 S1 k1 s1 t1⟩
theorem dt_cmp {op : CmpOp} {dop : DOp} (h : CmpOk X op dop) (ha : DE X E a Ta) (hb : DE X E b Tb) (hm : behindInMarks op b = false) : DTe X E (.Compare a [op] [b] pos) (xTest (xOp dop Ta Tb)) := by
  obtain ⟨r, h1, h2⟩ := h
  obtain ⟨ta, p1, s1⟩ := ha
  obtain ⟨tb, p2, s2⟩ := hb
  exact ⟨_, pt_cmpR h1 p1 p2 hm, smT_test (sm_op h2 s1 s2)⟩
def xChain (o o' : DOp) (Ta Tb Tc : DT) : DT := fun env R Rx => Ta env (fun x => Tb env (fun y => o x y (asB fun k => (k = true → Tc env (fun z => o' y z R) Rx) ∧ (k = false → R (.bl false)))) Rx) Rx
theorem sm_chain {r r' : R2} {o o' : DOp} (h : SmOp r o) (h' : SmOp r' o') (ha : Sm E ta Ta) (hb : Sm E tb Tb) (hc : Sm E tc Tc) : Sm E (tChain r r' ta tb tc) (xChain o o' Ta Tb Tc) := fun c σ H S env R Rx x k t Q q =>
  ha c σ H S env _ Rx x k t _ fun v H1 S1 d1 k1 s1 r1 t1 => hb c σ H1 S1 env _ Rx x k1 t1 _ fun u H2 S2 d2 k2 s2 r2 t2 =>
    h c σ H2 S2 env d1 d2 v u _ k2 (rep_mono s2 d1 v r1) r2 t2 _ fun z H3 S3 d3 k3 s3 r3 t3 => by
      cases d3 <;> try exact (show False from t3).elim
      rename_i kk
      refine ⟨kk, r3, ?_⟩
      obtain ⟨q1, q2⟩ := t3
      cases kk with
      | true =>
        refine iteT ?_
        exact hc c σ H3 S3 env _ Rx x k3 (q1 rfl) _ fun w' H4 S4 d4 k4 s4 r4 t4 => h' c σ H4 S4 env d2 d4 u w' R k4 (rep_mono (s3.trans s4) d2 u r2) r4 t4 Q fun z H5 S5 d5 k5 s5 r5 t5 => q z H5 S5 d5 k5 ((((s1.trans s2).trans s3).trans s4).trans s5) r5 t5
      | false =>
        refine iteF ?_
        exact q _ H3 S3 (.bl false) k3 ((s1.trans s2).trans s3) rfl (q2 rfl)
theorem d_chain {op op' : CmpOp} {o o' : DOp} (h : CmpOk X op o) (h' : CmpOk X op' o') (ha : DE X E a Ta) (hb : DE X E b Tb) (hc : DE X E c Tc) (hm : lastMarks [op, op'] [b, c] = false := by with_unfolding_all rfl) :
    DE X E (.Compare a [op, op'] [b, c] pos) (xChain o o' Ta Tb Tc) := by
  obtain ⟨r, h1, h2⟩ := h
  obtain ⟨r', h1', h2'⟩ := h'
  obtain ⟨ta, p1, s1⟩ := ha
  obtain ⟨tb, p2, s2⟩ := hb
  obtain ⟨tc, p3, s3⟩ := hc
  exact ⟨_, pe_chain h1 h1' p1 p2 p3 hm, sm_chain h2 h2' s1 s2 s3⟩
theorem dt_chain {op op' : CmpOp} {o o' : DOp} (h : CmpOk X op o) (h' : CmpOk X op' o') (ha : DE X E a Ta) (hb : DE X E b Tb) (hc : DE X E c Tc) (hm : lastMarks [op, op'] [b, c] = false := by with_unfolding_all rfl) :
    DTe X E (.Compare a [op, op'] [b, c] pos) (xTest (xChain o o' Ta Tb Tc)) := by
  obtain ⟨r, h1, h2⟩ := h
  obtain ⟨r', h1', h2'⟩ := h'
  obtain ⟨ta, p1, s1⟩ := ha
  obtain ⟨tb, p2, s2⟩ := hb
  obtain ⟨tc, p3, s3⟩ := hc
  exact ⟨_, pt_chain h1 h1' p1 p2 p3 hm, smT_test (sm_chain h2 h2' s1 s2 s3)⟩
variable {TA TB : DTT} {rest : List Expr}
def xAnd (T U : DTT) : DTT := fun env R Rx => T env (fun b => (b = true → U env R Rx) ∧ (b = false → R false)) Rx
def xOr (T U : DTT) : DTT := fun env R Rx => T env (fun b => (b = true → R true) ∧ (b = false → U env R Rx)) Rx
def xNot (T : DTT) : DTT := fun env R Rx => T env (fun b => R (!b)) Rx
theorem dw_pt {e : Expr} {T : DTT} (h : DWe X E e T) : DTe X E e T := by
  obtain ⟨t, p, s⟩ := h
  exact ⟨t, p.pt, s⟩
theorem dw_or1 (h : DTe X E a TA) : DWe X E (.BoolOp .Or [a] pos) TA := by
  obtain ⟨t, p, s⟩ := h
  exact ⟨t, pw_or1 p, s⟩
theorem dw_or (h : DTe X E a TA) (h2 : DWe X E (.BoolOp .Or (b :: rest) pos) TB) : DWe X E (.BoolOp .Or (a :: b :: rest) pos) (xOr TA TB) := by
  obtain ⟨t, p, s⟩ := h
  obtain ⟨u, p2, s2⟩ := h2
  refine ⟨_, pw_or p p2, fun c σ H S env R Rx x k t Q q => s c σ H S env _ Rx x k t _ fun bb H1 S1 k1 s1 t1 => ?_⟩
  cases bb with
  | true => exact iteT (q true H1 S1 k1 s1 (t1.1 rfl))
  | false => exact iteF (s2 c σ H1 S1 env R Rx x k1 (t1.2 rfl) Q fun b H2 S2 k2 s3 r => q b H2 S2 k2 (s1.trans s3) r)
theorem dt_not (h : DTe X E a TA) : DTe X E (.UnaryOp .Not a pos) (xNot TA) := by
  obtain ⟨t, p, s⟩ := h
  exact ⟨_, pt_not p, fun c σ H S env R Rx x k t Q q => s c σ H S env _ Rx x k t _ fun bb H1 S1 k1 s1 t1 => q _ H1 S1 k1 s1 t1⟩
/-- as values -/
def xAndV (Ta Tb : DT) : DT := fun env R Rx => Ta env (asB fun b => (b = true → Tb env R Rx) ∧ (b = false → R (.bl false))) Rx
def xOrV (Ta Tb : DT) : DT := fun env R Rx => Ta env (asB fun b => (b = true → R (.bl true)) ∧ (b = false → Tb env R Rx)) Rx
def xNotV (Ta : DT) : DT := fun env R Rx => Ta env (asB fun b => R (.bl (!b))) Rx
theorem d_one {op : BoolOp} (h : DE X E a Ta) : DE X E (.BoolOp op [a] pos) Ta := by
  obtain ⟨t, p, s⟩ := h
  exact ⟨t, pe_one p, s⟩
theorem d_and (h : DE X E a Ta) (h2 : DE X E (.BoolOp .And (b :: rest) pos) Tb) : DE X E (.BoolOp .And (a :: b :: rest) pos) (xAndV Ta Tb) := by
  obtain ⟨t, p, s⟩ := h
  obtain ⟨u, p2, s2⟩ := h2
  refine ⟨_, pe_and p p2, fun c σ H S env R Rx x k t Q q => s c σ H S env _ Rx x k t _ fun v H1 S1 d k1 s1 r1 t1 => ?_⟩
  cases d <;> try exact (show False from t1).elim
  rename_i bb
  refine ⟨bb, r1, ?_⟩
  have t1 : (bb = true → Tb env R Rx) ∧ (bb = false → R (.bl false)) := t1
  cases bb with
  | true => exact iteT (s2 c σ H1 S1 env R Rx x k1 (t1.1 rfl) Q fun b H2 S2 d2 k2 s3 r => q b H2 S2 d2 k2 (s1.trans s3) r)
  | false => exact iteF (q _ H1 S1 (.bl false) k1 s1 rfl (t1.2 rfl))
theorem d_not (h : DE X E a Ta) : DE X E (.UnaryOp .Not a pos) (xNotV Ta) := by
  obtain ⟨t, p, s⟩ := h
  refine ⟨_, pe_not p, fun c σ H S env R Rx x k t Q q => s c σ H S env _ Rx x k t _ fun v H1 S1 d k1 s1 r1 t1 => ?_⟩
  cases d <;> try exact (show False from t1).elim
  exact ⟨_, r1, q _ H1 S1 (.bl _) k1 s1 rfl t1⟩
def xIf (T : DTT) (Ta Tb : DT) : DT := fun env R Rx => T env (fun b => (b = true → Ta env R Rx) ∧ (b = false → Tb env R Rx)) Rx
theorem d_if {T : DTT} (h : DTe X E c T) (ha : DE X E a Ta) (hb : DE X E b Tb) : DE X E (.IfExp c a b pos) (xIf T Ta Tb) := by
  obtain ⟨t, p, s⟩ := h
  obtain ⟨ta, p1, s1⟩ := ha
  obtain ⟨tb, p2, s2⟩ := hb
  refine ⟨_, pe_ifExp p p1 p2, fun c σ H S env R Rx x k t Q q => s c σ H S env _ Rx x k t _ fun bb H1 S1 k1 s3 t1 => ?_⟩
  cases bb with
  | true => exact iteT (s1 c σ H1 S1 env R Rx x k1 (t1.1 rfl) Q fun v H2 S2 d k2 s4 r => q v H2 S2 d k2 (s3.trans s4) r)
  | false => exact iteF (s2 c σ H1 S1 env R Rx x k1 (t1.2 rfl) Q fun v H2 S2 d k2 s4 r => q v H2 S2 d k2 (s3.trans s4) r)
/-- truth of a value of any kind -/
def D.tru : D → Option Bool
  | .non => some false
  | .bl b => some b
  | .int i => some (i != 0)
  | .str s => if s.length ≤ sizeLine then some ((s.length : Int) != 0) else none
  | .lst xs => some (!xs.isEmpty)
  | .tup xs => some (!xs.isEmpty)
  | _ => none
def xTru (Ta : DT) : DTT := fun env R Rx => Ta env (fun x => ∃ b, x.tru = some b ∧ R b) Rx
theorem dt_tru (h : DE X E a Ta) (he : ∀ whole, isTrue a X.env whole = (do let v ← whole; standAt a.pos; holding [v] (truthy v)) := by intro _; rfl) : DTe X E a (xTru Ta) := by
  obtain ⟨t, p, s⟩ := h
  refine ⟨_, pt_truth p he, fun c σ H S env R Rx x k t Q q => s c σ H S env _ Rx x k t _ fun v H1 S1 d k1 s1 r1 t1 => ?_⟩
  obtain ⟨bb, e, t1⟩ := t1
  refine ⟨bb, ?_, q bb H1 S1 k1 s1 t1⟩
  cases d with
  | non => rw [show v = .non from r1]; cases e; rfl
  | bl _ => rw [show v = _ from r1]; cases e; rfl
  | int _ => rw [show v = _ from r1]; cases e; rfl
  | str z =>
    rw [show v = _ from r1]
    have e : (if z.length ≤ sizeLine then some ((z.length : Int) != 0) else none) = some bb := e
    by_cases hz : z.length ≤ sizeLine
    · rw [if_pos hz] at e
      cases e
      exact ⟨hz, rfl⟩
    · rw [if_neg hz] at e
      cases e
  | lst xs =>
    obtain ⟨a, vs, e1, h1, _, l1⟩ := lst_of k1 r1
    subst e1
    cases e
    refine .inl ⟨vs, SqL.of h1, ?_⟩
    have := l1.length
    cases xs <;> cases vs <;> simp_all
  | tup xs =>
    obtain ⟨a, vs, e1, h1, _, l1⟩ := tup_of k1 r1
    subst e1
    cases e
    refine .inr (.inl ⟨vs, SqT.of h1, ?_⟩)
    have := l1.length
    cases xs <;> cases vs <;> simp_all
  | _ => cases e
variable {es : List Expr} {Tl : DTA}
def xNil : DTA := fun _ R _ => R []
def xCons (Ta : DT) (Tl : DTA) : DTA := fun env R Rx => Ta env (fun x => Tl env (fun xs => R (x :: xs)) Rx) Rx
theorem da_nil : DA X E [] xNil := ⟨_, pa_nil, fun c σ H S env R Rx x k t Q q => q [] H S [] k (Same.refl S) repL_nil t⟩
theorem smA_cons {t : L2.TA} (ha : Sm E ta Ta) (hl : SmA E t Tl) : SmA E (tCons ta t) (xCons Ta Tl) := fun c σ H S env R Rx x k t Q q =>
  ha c σ H S env _ Rx x k t _ fun v H1 S1 d k1 s1 r1 t1 => hl c σ H1 S1 env _ Rx x k1 t1 _ fun vs H2 S2 ds k2 s2 r2 t2 => q _ H2 S2 _ k2 (s1.trans s2) (repL_cons (rep_mono s2 d v r1) r2) t2
theorem da_cons (ha : DE X E a Ta) (hl : DA X E es Tl) (hs : starEach (a :: es) X.env = (false, eval a X.env) :: starEach es X.env := by rfl) : DA X E (a :: es) (xCons Ta Tl) := by
  obtain ⟨ta, p, s⟩ := ha
  obtain ⟨t, p2, s2⟩ := hl
  exact ⟨_, pa_cons p p2 hs, smA_cons s s2⟩
def xLst (Tl : DTA) : DT := fun env R Rx => Tl env (fun xs => xs.length ≤ sizeLine ∧ R (.lst xs)) Rx
def xTup (Tl : DTA) : DT := fun env R Rx => Tl env (fun xs => xs.length ≤ sizeLine ∧ R (.tup xs)) Rx
theorem sm_tup {t : L2.TA} (h : SmA E t Tl) : Sm E (tTup t) (xTup Tl) := fun c σ H S env R Rx x k t Q q =>
  h c σ H S env _ Rx x k t _ fun vs H1 S1 ds k1 s1 r1 t1 => ⟨by rw [r1.length]; exact t1.1, fun p hp => by
    obtain ⟨k', s', r'⟩ := put_tup k1 r1 hp
    exact q _ _ _ _ k' (s1.trans s') r' t1.2⟩
theorem d_tup {x1} (h : DA X E es Tl) : DE X E (.Tuple es x1 pos) (xTup Tl) := by
  obtain ⟨t, p, s⟩ := h
  exact ⟨_, pe_tup p, sm_tup s⟩
def opIx : DOp
  | .lst xs, .int i, R => ∃ d, atI xs i = some d ∧ R d
  | .tup xs, .int i, R => ∃ d, atI xs i = some d ∧ R d
  | .str s, .int i, R => s.length ≤ sizeLine ∧ ∃ c, atI s.cps.toList i = some c ∧ R (.str ⟨#[c]⟩)
  | _, _, _ => False
theorem atI_rep {B : Option Addr} {S : Hp} {xs : List D} {vs : List V} {i : Int} {d : D} (l : RepL B S xs vs) (h : atI xs i = some d) : ∃ v, atI vs i = some v ∧ Rep B S d v := by
  unfold atI at h ⊢
  rw [l.length]
  cases e : ixN xs.length i with
  | none => rw [e] at h; cases h
  | some j =>
    rw [e] at h
    exact l.get h
theorem smOp_ix {K : PySem.W.Frag} : SmOp (rIx K) opIx := by
  intro c σ H S env x y v u R k r1 r2 t Q q
  cases x <;> cases y <;> try exact (show False from t).elim
  · obtain ⟨hz, ch, e, t⟩ := t
    exact .inr (.inr ⟨_, _, ch, r1, r2, hz, e, q _ H S (.str _) k (Same.refl S) rfl t⟩)
  · obtain ⟨d, e, t⟩ := t
    obtain ⟨a, vs, e1, h1, _, l1⟩ := lst_of k r1
    obtain ⟨w', e2, r3⟩ := atI_rep l1 e
    exact .inl ⟨a, vs, _, w', e1, r2, SqL.of h1, e2, q _ H S d k (Same.refl S) r3 t⟩
  · obtain ⟨d, e, t⟩ := t
    obtain ⟨a, vs, e1, h1, _, l1⟩ := tup_of k r1
    obtain ⟨w', e2, r3⟩ := atI_rep l1 e
    exact .inr (.inl ⟨a, vs, _, w', e1, r2, SqT.of h1, e2, q _ H S d k (Same.refl S) r3 t⟩)
theorem d_ix (ha : DE X E a Ta) (hb : DE X E b Tb) (hs : PlainIx b := by exact fun _ _ => rfl) : DE X E (.Subscript a b pos) (xOp opIx Ta Tb) := by
  obtain ⟨ta, p1, s1⟩ := ha
  obtain ⟨tb, p2, s2⟩ := hb
  exact ⟨_, pe_ix ix_seq p1 p2 hs, sm_op smOp_ix s1 s2⟩
/-- xs[e], xs a list of the frame's own in slot i -/
def xIxO (i : Nat) (Tb : DT) : DT := fun env R Rx => ∃ xs, env[i]? = some (some (.own xs)) ∧ Tb env (fun y => match y with
  | .int j => ∃ d, atI xs j = some d ∧ R d
  | _ => False) Rx
theorem own_of {c : Fm} {σ : St} {H S : Hp} {env : En} {i : Nat} {xs : List D} (k : Kn c σ H S env) (e : env[i]? = some (some (.own xs))) : ∃ p vs, σ[i]? = some (some (.ref p)) ∧ S p = none ∧ c.H0 p = none ∧ H p = some (.lst vs) ∧ RepL c.B S xs vs := by
  obtain ⟨v, e1, p, vs, rfl, h⟩ := k.sl i _ e
  exact ⟨p, vs, e1, h⟩
abbrev DTO := En → (Option Int → Prop) → (Er → Prop) → Prop
def SmO (E : XK) (t : TO) (T : DTO) : Prop := ∀ (c : Fm) (σ : St) (H S : Hp) (env : En) (R : Option Int → Prop) (Rx : Er → Prop), XOk c E Rx → Kn c σ H S env → T env R Rx →
  ∀ Q : Option Int → Hp → Prop, (∀ o H' S', Kn c σ H' S' env → Same S S' → R o → Q o H') → t σ H Q
def DO (X : Cx) (E : XK) (e : Option Expr) (T : DTO) : Prop := ∃ t, PO X e t ∧ SmO E t T
def xNoPart : DTO := fun _ R _ => R none
def asI (R : Int → Prop) : D → Prop
  | .int i => R i
  | _ => False
def xPart (Ta : DT) : DTO := fun env R Rx => Ta env (asI fun i => R (some i)) Rx
theorem do_none : DO X E none xNoPart := ⟨_, po_none, fun c σ H S env R Rx x k t Q q => q none H S k (Same.refl S) t⟩
theorem do_some (h : DE X E a Ta) : DO X E (some a) (xPart Ta) := by
  obtain ⟨t, p, s⟩ := h
  refine ⟨_, po_some p, fun c σ H S env R Rx x k t Q q => s c σ H S env _ Rx x k t _ fun v H1 S1 d k1 s1 r1 t1 => ?_⟩
  cases d <;> try exact (show False from t1).elim
  exact ⟨_, r1, q _ H1 S1 k1 s1 t1⟩
def cutD (xs : List D) (lo hi : Option Int) : List D := (xs.drop (HT.sIx xs.length 0 lo)).take (HT.sIx xs.length xs.length hi - HT.sIx xs.length 0 lo)
theorem cut_rep {B : Option Addr} {S : Hp} {xs : List D} {vs : List V} {lo hi : Option Int} (l : RepL B S xs vs) : RepL B S (cutD xs lo hi) (cutV vs lo hi) := by
  unfold cutD cutV
  rw [l.length]
  exact (l.drop _).take _
def opSl (x : D) (lo hi : Option Int) (R : D → Prop) : Prop := match x with
  | .lst xs => R (.lst (cutD xs lo hi))
  | .tup xs => R (.tup (cutD xs lo hi))
  | .str z => z.length ≤ sizeLine ∧ R (.str (cutS z lo hi))
  | _ => False
def xSl (Ta : DT) (Tl Th : DTO) : DT := fun env R Rx => Ta env (fun x => Tl env (fun lo => Th env (fun hi => opSl x lo hi R) Rx) Rx) Rx
theorem cutD_all {xs : List D} {lo hi : Option Int} (h : HT.sIx xs.length 0 lo = 0 ∧ HT.sIx xs.length xs.length hi = xs.length) : cutD xs lo hi = xs := by
  unfold cutD
  rw [h.1, h.2]
  simp
theorem d_slice {lo hi : Option Expr} {Tl Th : DTO} {p2 : Pos} (ha : DE X E a Ta) (hl : DO X E lo Tl) (hh : DO X E hi Th) : DE X E (.Subscript a (.Slice lo hi none p2) pos) (xSl Ta Tl Th) := by
  obtain ⟨ta, pa, sa⟩ := ha
  obtain ⟨tl, pl, sl⟩ := hl
  obtain ⟨th, ph, sh⟩ := hh
  refine ⟨_, pe_slice (sl_list.or (sl_tupA.or sl_str)) pa pl ph, fun c σ H S env R Rx x k t Q q => sa c σ H S env _ Rx x k t _ fun v H1 S1 d k1 s1 r1 t1 => ?_⟩
  refine sl c σ H1 S1 env _ Rx x k1 t1 _ fun lo H2 S2 k2 s2 t2 => sh c σ H2 S2 env _ Rx x k2 t2 _ fun hi H3 S3 k3 s3 t3 => ?_
  have r3 := rep_mono (s2.trans s3) d v r1
  have ss := (s1.trans s2).trans s3
  cases d <;> try exact (show False from t3).elim
  · exact .inr (.inr ⟨_, r3, t3.1, q _ H3 S3 (.str _) k3 ss rfl t3.2⟩)
  · obtain ⟨a, vs, e1, h1, _, l1⟩ := lst_of k3 r3
    refine .inl ⟨a, vs, e1, SqL.of h1, fun p hp => ?_⟩
    obtain ⟨k', s', r'⟩ := put_lst k3 (cut_rep l1) hp
    exact q _ _ _ _ k' (ss.trans s') r' t3
  · obtain ⟨a, vs, e1, h1, hS, l1⟩ := tup_of k3 r3
    refine .inr (.inl ⟨a, vs, e1, SqT.of h1, fun hw => ?_, fun _ p hp => ?_⟩)
    · rw [l1.length] at hw
      have t4 : R (.tup (cutD _ lo hi)) := t3
      rw [cutD_all hw] at t4
      exact q _ H3 S3 (.tup _) k3 ss ⟨a, vs, rfl, hS, l1⟩ t4
    · obtain ⟨k', s', r'⟩ := put_tup k3 (cut_rep l1) hp
      exact q _ _ _ _ k' (ss.trans s') r' t3
end
end DL
namespace DL
open PySem PySem.Spec L2
variable [TbC]
section
variable {c : Fm} {σ : St} {H H' S S' : Hp} {env : En} {i : Nat} {d : D} {v : V} {p : Addr} {vs : List V} {ds xs : List D}
/-- p is nothing of the frame's own -/
def Free (σ : St) (env : En) (p : Addr) : Prop := ∀ (j : Nat) (x : DV) (v : V), env[j]? = some (some x) → σ[j]? = some (some v) → ¬ Foot x v p
theorem get_set {env : En} {i j : Nat} {o : Option DV} {x : DV} (e : (env.set i o)[j]? = some (some x)) : (i = j ∧ o = some x ∧ i < env.length) ∨ (i ≠ j ∧ env[j]? = some (some x)) := by
  by_cases z : i = j
  · subst z
    rw [List.getElem?_set] at e
    simp only [if_true] at e
    split at e
    · rename_i hi
      exact .inl ⟨rfl, Option.some.inj e, hi⟩
    · cases e
  · rw [List.getElem?_set_ne z] at e
    exact .inr ⟨z, e⟩
theorem Free.set (f : Free σ env p) {o : Option DV} (h : ∀ x v, o = some x → σ[i]? = some (some v) → ¬ Foot x v p) : Free σ (env.set i o) p := fun j x v e e2 => by
  rcases get_set e with ⟨rfl, q, _⟩ | ⟨_, e⟩
  · exact h x v q e2
  · exact f j x v e e2
theorem Free.clear (f : Free σ env p) : Free σ (env.set i none) p := f.set fun _ _ q => nomatch q
theorem Kn.put (k : Kn c σ H S env) {x : DV} (r : DvR c S H x v) (f : ∀ a, Foot x v a → Free σ (env.set i none) a) : Kn c (σ.set i (some v)) H S (env.set i (some x)) := by
  refine ⟨k.kf, by rw [List.length_set, List.length_set]; exact k.len, fun j y e => ?_, fun m n y z u w a hmn e1 e2 e3 e4 f1 f2 => ?_⟩
  · rcases get_set e with ⟨rfl, q, hi⟩ | ⟨z, e⟩
    · cases q
      have hi2 : i < σ.length := by rw [← k.len]; exact hi
      exact ⟨v, by rw [List.getElem?_set]; simp [hi2], r⟩
    · rw [List.getElem?_set_ne z]
      exact k.sl j y e
  · have at_i : ∀ {o : V}, (σ.set i (some v))[i]? = some (some o) → o = v := fun {o} q => by
      rw [List.getElem?_set] at q
      simp only [if_true] at q
      split at q <;> cases q
      rfl
    rcases get_set e1 with ⟨rfl, q, _⟩ | ⟨z1, e1⟩
    · cases q
      obtain rfl := at_i e3
      rw [List.getElem?_set_ne hmn] at e4
      exact f a f1 n z w (by rw [List.getElem?_set_ne hmn] at e2 ⊢; exact e2) e4 f2
    · rw [List.getElem?_set_ne z1] at e3
      rcases get_set e2 with ⟨rfl, q, _⟩ | ⟨z2, e2⟩
      · cases q
        obtain rfl := at_i e4
        exact f a f2 m y u (by rw [List.getElem?_set_ne z1]; exact e1) e3 f1
      · rw [List.getElem?_set_ne z2] at e4
        exact k.apart m n y z u w a hmn e1 e2 e3 e4 f1 f2
theorem Kn.set (k : Kn c σ H S env) (r : Rep c.B S d v) : Kn c (σ.set i (some v)) H S (env.set i (some (.val d))) := k.put (x := .val d) r fun _ f => f.elim
theorem Kn.free (k : Kn c σ H S env) (h : H p = none) : Free σ env p := fun j x v e e2 f => by
  obtain ⟨u, e1, r⟩ := k.sl j _ e
  rw [e1] at e2
  cases e2
  exact (r.foot p f).2.2.1 h
theorem Kn.setOwn (k : Kn c σ H S env) (h1 : S p = none) (h2 : c.H0 p = none) (h3 : H p = some (.lst vs)) (l : RepL c.B S ds vs) (f : Free σ env p) : Kn c (σ.set i (some (.ref p))) H S (env.set i (some (.own ds))) :=
  k.put (x := .own ds) ⟨p, vs, rfl, h1, h2, h3, l⟩ fun a e => by
    cases e
    exact f.clear
theorem set_id {α : Type} : ∀ {l : List α} {i : Nat} {x : α}, l[i]? = some x → l.set i x = l
  | [], _, _, e => by simp at e
  | a :: l, 0, x, e => by simp at e; subst e; rfl
  | a :: l, i + 1, x, e => by
    rw [List.set_cons_succ, set_id (by simpa using e)]
/-- what a name holds is forgotten -/
theorem Kn.clear (k : Kn c σ H S env) : Kn c σ H S (env.set i none) :=
  ⟨k.kf, by rw [List.length_set]; exact k.len, fun j x ej => by
    rcases get_set ej with ⟨_, q, _⟩ | ⟨_, ej⟩
    · cases q
    · exact k.sl j x ej, fun m n y z u w a hmn e1 e2 e3 e4 => by
    rcases get_set e1 with ⟨_, q, _⟩ | ⟨_, e1⟩
    · cases q
    rcases get_set e2 with ⟨_, q, _⟩ | ⟨_, e2⟩
    · cases q
    exact k.apart m n y z u w a hmn e1 e2 e3 e4⟩
/-- what a name holds for itself is nothing of the other names' -/
theorem Kn.mine (k : Kn c σ H S env) {x : DV} (e : env[i]? = some (some x)) (e1 : σ[i]? = some (some v)) {a : Addr} (f : Foot x v a) : Free σ (env.set i none) a := fun j y u ej e4 f2 => by
  rcases get_set ej with ⟨_, q, _⟩ | ⟨z, ej⟩
  · cases q
  · exact k.apart i j x y v u a z e ej e1 e4 f f2
theorem Kf.updFF {o0 o : HO} (k : Kf c H S) (h1 : S p = none) (h2 : c.H0 p = none) (h3 : H p = some o0) (h4 : (∀ ps, o0 ≠ .tbl ps) ∧ ¬ Fx o0) : Kf c (upd H p o) S := by
  have nb : c.B ≠ some p := fun z => (k.bag p z).2 h2
  refine ⟨fun a u ea => ?_, k.s0, fun a u ea nea => ?_, k.new, fun b eb => ?_, ⟨k.tab.1.updHF (fun v e => by rw [h3] at e; cases e; exact h4) fun _ _ e => e, k.tab.2⟩⟩
  · rw [upd_ne (ne_of_none ea h1)]
    exact k.sub a u ea
  · rw [upd_ne (ne_of_none ea h2)]
    exact k.old a u ea nea
  · obtain ⟨⟨b1, cs, i, g, st, n, b2, b3⟩, b4⟩ := k.bag b eb
    refine ⟨⟨b1, cs, i, g, st, n, ?_, b3⟩, b4⟩
    rw [upd_ne (fun z => nb (by rw [← z]; exact eb))]
    exact b2
/-- a thing that no name holds changes -/
theorem Kn.updFF {o0 o : HO} (k : Kn c σ H S env) (h1 : S p = none) (h2 : c.H0 p = none) (h3 : H p = some o0) (h4 : (∀ ps, o0 ≠ .tbl ps) ∧ ¬ Fx o0) (f : Free σ env p) : Kn c σ (upd H p o) S env := by
  refine ⟨k.kf.updFF h1 h2 h3 h4, k.len, fun j x ej => ?_, k.apart⟩
  obtain ⟨v, ev, r⟩ := k.sl j x ej
  refine ⟨v, ev, r.keep rfl (Same.refl S) fun a fa => ?_⟩
  obtain ⟨f1, f2, _⟩ := r.foot a fa
  refine ⟨f1, f2, fun u e => ?_⟩
  rw [upd_ne (fun z => f j x v ej ev (by rw [← z]; exact fa))]
  exact e
theorem Kf.updF {o0 o : HO} (k : Kf c H S) (h1 : S p = none) (h2 : c.H0 p = none) (h3 : H p = some o0) (h4 : (∀ ps, o0 ≠ .tbl ps) ∧ ∀ φ, o0 ≠ .ext φ) : Kf c (upd H p o) S := k.updFF h1 h2 h3 ⟨h4.1, fx_not h4.2⟩
theorem Kn.updF {o0 o : HO} (k : Kn c σ H S env) (h1 : S p = none) (h2 : c.H0 p = none) (h3 : H p = some o0) (h4 : (∀ ps, o0 ≠ .tbl ps) ∧ ∀ φ, o0 ≠ .ext φ) (f : Free σ env p) : Kn c σ (upd H p o) S env := k.updFF h1 h2 h3 ⟨h4.1, fx_not h4.2⟩ f
/-- a list of the frame's own changes -/
theorem Kn.change (k : Kn c σ H S env) (e : env[i]? = some (some (.own xs))) (e1 : σ[i]? = some (some (.ref p))) (l : RepL c.B S ds vs) : Kn c σ (upd H p (.lst vs)) S (env.set i (some (.own ds))) := by
  obtain ⟨v, e2, q, ws, rfl, h1, h2, h3, _⟩ := k.sl i _ e
  rw [e1] at e2
  cases e2
  have f : Free σ (env.set i none) p := k.mine e e1 rfl
  have k3 := ((k.clear (i := i)).updF (o := .lst vs) h1 h2 h3 lst_ne f).setOwn (i := i) h1 h2 upd_same l f
  rw [List.set_set, set_id e1] at k3
  exact k3
/-- .. stays as it is from now on -/
theorem Kn.freeze (k : Kn c σ H S env) (h1 : S p = none) (h2 : c.H0 p = none) (h3 : H p = some (.lst vs)) (l : RepL c.B S ds vs) (f : Free σ env p) :
    Kn c σ H (upd S p (.lst vs)) env ∧ Same S (upd S p (.lst vs)) ∧ Rep c.B (upd S p (.lst vs)) (.lst ds) (.ref p) := by
  have s : Same S (upd S p (.lst vs)) := same_upd h1
  refine ⟨⟨⟨fun a o e => ?_, k.kf.s0.trans s, k.kf.old, fun a e n => ?_, fun b eb => ?_, ⟨k.kf.tab.1.frz h3, k.kf.tab.2⟩⟩, k.len, fun j x e => ?_, k.apart⟩, s, p, vs, rfl, upd_same, repL_mono s ds vs l⟩
  · by_cases z : a = p
    · subst z
      rw [upd_same] at e
      rw [h3]
      exact e
    · rw [upd_ne z] at e
      exact k.kf.sub a o e
  · rw [upd_ne (fun z => n.1 (by rw [z]; exact h2))]
    exact k.kf.new a e n
  · obtain ⟨⟨b1, cs, i, g, st, n, b2, b3, b4⟩, b5⟩ := k.kf.bag b eb
    refine ⟨⟨?_, cs, i, g, st, n, b2, s _ _ b3, b4⟩, b5⟩
    rw [upd_ne (fun z => b5 (by rw [z]; exact h2))]
    exact b1
  · obtain ⟨v, ev, r⟩ := k.sl j x e
    refine ⟨v, ev, r.keep rfl s fun a fa => ?_⟩
    obtain ⟨f1, f2, _⟩ := r.foot a fa
    refine ⟨?_, f2, fun _ e => e⟩
    rw [upd_ne (fun z => f j x v e ev (by rw [← z]; exact fa))]
    exact f1
theorem Kn.frz (k : Kn c σ H S env) (e : env[i]? = some (some (.own xs))) : ∃ S', Kn c σ H S' (env.set i (some (.val (.lst xs)))) ∧ Same S S' := by
  obtain ⟨v, e2, p, vs, rfl, h1, h2, h3, l⟩ := k.sl i _ e
  have f : Free σ (env.set i none) p := k.mine e e2 rfl
  obtain ⟨k2, s2, r2⟩ := (k.clear (i := i)).freeze h1 h2 h3 l f
  have k3 := k2.set (i := i) r2
  rw [List.set_set, set_id e2] at k3
  exact ⟨_, k3, s2⟩
end
abbrev DTF := En → (List D → Prop) → (Er → Prop) → Prop
def SmF (E : XK) (t : TE) (T : DTF) : Prop := ∀ (c : Fm) (σ : St) (H S : Hp) (env : En) (R : List D → Prop) (Rx : Er → Prop), XOk c E Rx → Kn c σ H S env → T env R Rx →
  ∀ Q : VK, (∀ p vs H' S' ds, Kn c σ H' S' env → Same S S' → c.H0 p = none → Free σ env p → S' p = none → H' p = some (.lst vs) → RepL c.B S' ds vs → R ds → Q (.ref p) H') → t σ H Q
def DF (X : Cx) (E : XK) (e : Expr) (T : DTF) : Prop := ∃ t, PE X e t ∧ SmF E t T
def xF (T : DTF) : DT := fun env R Rx => T env (fun xs => R (.lst xs)) Rx
section
variable {X : Cx} {E : XK} {pos : Pos} {a b e : Expr} {Ta Tb : DT} {Tl : DTA} {T : DTF} {es : List Expr}
theorem d_ofF (h : DF X E a T) : DE X E a (xF T) := by
  obtain ⟨t, p, s⟩ := h
  refine ⟨t, p, fun c σ H S env R Rx x k t Q q => s c σ H S env _ Rx x k t Q fun p vs H1 S1 ds k1 s1 n0 f n2 e1 l1 r1 => ?_⟩
  obtain ⟨k2, s2, r2⟩ := k1.freeze n2 n0 e1 l1 f
  exact q _ H1 _ _ k2 (s1.trans s2) r2 r1
end
abbrev DFn := List D → (D → Prop) → Prop
def SmC (r : List V → Hp → VK → Prop) (F : DFn) : Prop := ∀ (c : Fm) (σ : St) (H S : Hp) (env : En) (xs : List D) (vs : List V) (R : D → Prop), Kn c σ H S env → RepL c.B S xs vs → F xs R →
  ∀ Q : VK, (∀ z H' S' d, Kn c σ H' S' env → Same S S' → Rep c.B S' d z → R d → Q z H') → r vs H Q
def CallOk (X : Cx) (f : Value) (F : DFn) : Prop := ∃ r, CallR X f r ∧ SmC r F
def xCB (F : DFn) (Tl : DTA) : DT := fun env R Rx => Tl env (fun xs => F xs R) Rx
section
variable {X : Cx} {E : XK} {p pos : Pos} {x : Str} {id ty : String} {a b e : Expr} {Ta Tb : DT} {Tl : DTA} {es : List Expr} {F : DFn}
theorem sm_cb {r : List V → Hp → VK → Prop} {t : L2.TA} (h : SmC r F) (hl : SmA E t Tl) : Sm E (tCB r t) (xCB F Tl) := fun c σ H S env R Rx x k t Q q =>
  hl c σ H S env _ Rx x k t _ fun vs H1 S1 ds k1 s1 r1 t1 => h c σ H1 S1 env ds vs R k1 r1 t1 Q fun z H2 S2 d k2 s2 r2 t2 => q z H2 S2 d k2 (s1.trans s2) r2 t2
theorem d_callB (h : CallOk X (.builtin id) F) (hm : X.mg x = none) (hv : bootBuiltins x = some (.builtin id)) (ha : DA X E (e :: es) Tl) (hg : Gl X x := by rfl) (hn : x ≠ "__name__" := by decide) (hdb : (x == ("__debug__" : Str)) = false := by decide)
    (he : starEach (e :: es) X.env = (false, eval e X.env) :: starEach es X.env := by rfl) (hpl : (backTo pos (starEach es X.env)).any (·.1) = false := by rfl) : DE X E (.Call (.Name x p) (e :: es) [] pos) (xCB F Tl) := by
  obtain ⟨r, h1, h2⟩ := h
  obtain ⟨t, pa, sa⟩ := ha
  exact ⟨_, pe_callB h1 hg hm hv pa hn hdb he hpl, sm_cb h2 sa⟩
theorem d_callT (h : CallOk X (.type ty) F) (hm : X.mg x = none) (hv : bootBuiltins x = some (.type ty)) (ha : DA X E (e :: es) Tl) (hg : Gl X x := by rfl) (hn : x ≠ "__name__" := by decide) (hdb : (x == ("__debug__" : Str)) = false := by decide)
    (he : starEach (e :: es) X.env = (false, eval e X.env) :: starEach es X.env := by rfl) (hpl : (backTo pos (starEach es X.env)).any (·.1) = false := by rfl) : DE X E (.Call (.Name x p) (e :: es) [] pos) (xCB F Tl) := by
  obtain ⟨r, h1, h2⟩ := h
  obtain ⟨t, pa, sa⟩ := ha
  exact ⟨_, pe_callTy h1 hg hm hv pa hn hdb he hpl, sm_cb h2 sa⟩
/-- a built-in type as a value -/
theorem d_bty (hm : X.mg x = none) (hv : bootBuiltins x = some (.type ty)) (hg : Gl X x := by rfl) (hn : x ≠ "__name__" := by decide) (hdb : (x == ("__debug__" : Str)) = false := by decide) : DE X E (.Name x pos) (xC (.ty ty)) :=
  ⟨_, pe_bltn (v := .ty ty) hg hm hv rfl hn hdb, sm_c fun _ _ => rfl⟩
theorem rep1 {B : Option Addr} {S : Hp} {d : D} {vs : List V} (r : RepL B S [d] vs) : ∃ v, vs = [v] ∧ Rep B S d v := by
  obtain ⟨v, ws, e, r1, t⟩ := repL_cons_of r
  rw [repL_nil_of t] at e
  exact ⟨v, e, r1⟩
theorem rep2 {B : Option Addr} {S : Hp} {d d' : D} {vs : List V} (r : RepL B S [d, d'] vs) : ∃ v v', vs = [v, v'] ∧ Rep B S d v ∧ Rep B S d' v' := by
  obtain ⟨v, ws, e, r1, t⟩ := repL_cons_of r
  obtain ⟨v', ws', e', r2, t2⟩ := repL_cons_of t
  rw [repL_nil_of t2] at e'
  rw [e'] at e
  exact ⟨v, v', e, r1, r2⟩
/-- len -/
def fLen : DFn
  | [.str s], R => s.length ≤ sizeLine ∧ R (.int s.length)
  | [.lst xs], R => R (.int xs.length)
  | [.tup xs], R => R (.int xs.length)
  | _, _ => False
theorem b_len : CallOk X (.builtin "len") fLen := by
  refine ⟨_, call_len, fun c σ H S env xs vs R k r t Q q => ?_⟩
  unfold fLen at t
  split at t <;> try exact t.elim
  · obtain ⟨v, rfl, r1⟩ := rep1 r
    exact ⟨v, _, rfl, by rw [show v = _ from r1]; exact ⟨t.1, rfl⟩, q _ H S (.int _) k (Same.refl S) rfl t.2⟩
  · obtain ⟨v, rfl, r1⟩ := rep1 r
    obtain ⟨a, vs, rfl, h1, _, l1⟩ := lst_of k r1
    exact ⟨_, _, rfl, .inl ⟨vs, SqL.of h1, rfl⟩, q _ H S (.int _) k (Same.refl S) (by rw [l1.length]; rfl) t⟩
  · obtain ⟨v, rfl, r1⟩ := rep1 r
    obtain ⟨a, vs, rfl, h1, _, l1⟩ := tup_of k r1
    exact ⟨_, _, rfl, .inr ⟨vs, SqT.of h1, rfl⟩, q _ H S (.int _) k (Same.refl S) (by rw [l1.length]; rfl) t⟩
/-- len(xs), xs of the frame's own -/
def xLenO (i : Nat) : DT := fun env R _ => ∃ xs, env[i]? = some (some (.own xs)) ∧ R (.int (xs.length : Nat))
/-- isinstance against built-in types -/
def D.isi : D → String → Option Bool
  | .non, n => some (n == "NoneType")
  | .bl _, n => some (n == "bool" || n == "int")
  | .int _, n => some (n == "int")
  | .str _, n => some (n == "str")
  | .lst _, n => some (n == "list")
  | .tup _, n => some (n == "tuple")
  | _, _ => none
def tys : List String := ["int", "bool", "str", "list", "tuple"]
def fIsi : DFn
  | [x, .ty n], R => n ∈ tys ∧ ∃ b, x.isi n = some b ∧ R (.bl b)
  | [x, .tup [.ty n, .ty m]], R => n ∈ tys ∧ m ∈ tys ∧ ∃ b b', x.isi n = some b ∧ x.isi m = some b' ∧ R (.bl (b || b'))
  | _, _ => False
theorem isi_ok {c : Fm} {σ : St} {H S : Hp} {env : En} {K : PySem.W.Frag} {d : D} {v : V} (k : Kn c σ H S env) (r : Rep c.B S d v) : (∀ n, d.isi n = none) ∨ ∃ t, TyX K H v t ∧ ∀ n ∈ tys, ∃ b, d.isi n = some b ∧ PySem.W.kitOne K t (.type n) = some b := by
  cases d with
  | non => exact .inr ⟨_, by rw [show v = _ from r]; exact .base .non, by intro n hn; simp only [tys, List.mem_cons, List.not_mem_nil, or_false] at hn; rcases hn with rfl | rfl | rfl | rfl | rfl <;> exact ⟨_, rfl, kit_ty (by decide +kernel)⟩⟩
  | bl b => exact .inr ⟨_, by rw [show v = _ from r]; exact .base (.bl b), by intro n hn; simp only [tys, List.mem_cons, List.not_mem_nil, or_false] at hn; rcases hn with rfl | rfl | rfl | rfl | rfl <;> exact ⟨_, rfl, kit_ty (by decide +kernel)⟩⟩
  | int i => exact .inr ⟨_, by rw [show v = _ from r]; exact .base (.int i), by intro n hn; simp only [tys, List.mem_cons, List.not_mem_nil, or_false] at hn; rcases hn with rfl | rfl | rfl | rfl | rfl <;> exact ⟨_, rfl, kit_ty (by decide +kernel)⟩⟩
  | str s => exact .inr ⟨_, by rw [show v = _ from r]; exact .base (.str s), by intro n hn; simp only [tys, List.mem_cons, List.not_mem_nil, or_false] at hn; rcases hn with rfl | rfl | rfl | rfl | rfl <;> exact ⟨_, rfl, kit_ty (by decide +kernel)⟩⟩
  | lst xs =>
    obtain ⟨a, vs, rfl, h1, _, l1⟩ := lst_of k r
    exact .inr ⟨_, .base (.lst h1), by intro n hn; simp only [tys, List.mem_cons, List.not_mem_nil, or_false] at hn; rcases hn with rfl | rfl | rfl | rfl | rfl <;> exact ⟨_, rfl, kit_ty (by decide +kernel)⟩⟩
  | tup xs =>
    obtain ⟨a, vs, rfl, h1, _, l1⟩ := tup_of k r
    exact .inr ⟨_, .base (.tup h1), by intro n hn; simp only [tys, List.mem_cons, List.not_mem_nil, or_false] at hn; rcases hn with rfl | rfl | rfl | rfl | rfl <;> exact ⟨_, rfl, kit_ty (by decide +kernel)⟩⟩
  | _ => exact .inl fun _ => rfl
theorem b_isi : CallOk X (.builtin "isinstance") fIsi := by
  refine ⟨_, call_isi.or call_isiT, fun c σ H S env xs vs R k r t Q q => ?_⟩
  unfold fIsi at t
  split at t <;> try exact t.elim
  · obtain ⟨hn, bb, eb, t⟩ := t
    obtain ⟨v, v', rfl, r1, r2⟩ := rep2 r
    rcases isi_ok (K := X.K) k r1 with z | ⟨ty, tx, kk⟩
    · rw [z] at eb; cases eb
    · obtain ⟨b2, e2, e3⟩ := kk _ hn
      rw [eb] at e2
      cases e2
      exact .inl ⟨v, v', ty, _, bb, rfl, by rw [show v' = _ from r2]; exact .ty _, tx, e3, q _ H S (.bl _) k (Same.refl S) rfl t⟩
  · obtain ⟨hn, hm, bb, bb', eb, eb', t⟩ := t
    obtain ⟨v, v', rfl, r1, r2⟩ := rep2 r
    obtain ⟨a, us, rfl, h1, _, l1⟩ := tup_of k r2
    obtain ⟨w1, w2, rfl, q1, q2⟩ := rep2 l1
    cases (show w1 = _ from q1)
    cases (show w2 = _ from q2)
    rcases isi_ok (K := X.K) k r1 with z | ⟨ty, tx, kk⟩
    · rw [z] at eb; cases eb
    · obtain ⟨b2, e2, e3⟩ := kk _ hn
      obtain ⟨b3, e4, e5⟩ := kk _ hm
      rw [eb] at e2
      cases e2
      rw [eb'] at e4
      cases e4
      refine .inr ⟨v, a, _, ty, _, _, rfl, h1, .cons (.ty _) (.cons (.ty _) .nil), tx, kitAny_cons e3 (fun z => ?_) (fun z => by rw [z]; rfl), q _ H S (.bl (bb || bb')) k (Same.refl S) rfl t⟩
      subst z
      rw [Bool.false_or]
      refine kitAny_cons e5 (fun z => ?_) (fun z => z)
      rw [z]
      exact kitAny_nil
/-- int -/
def fInt : DFn
  | [.int i], R => R (.int i)
  | [.bl b], R => R (.int (if b then 1 else 0))
  | _, _ => False
theorem b_int : CallOk X (.type "int") fInt := by
  refine ⟨_, call_int1, fun c σ H S env xs vs R k r t Q q => ?_⟩
  unfold fInt at t
  split at t <;> try exact t.elim
  · obtain ⟨v, rfl, r1⟩ := rep1 r
    exact .inl ⟨_, by rw [show v = _ from r1], q _ H S (.int _) k (Same.refl S) rfl t⟩
  · obtain ⟨v, rfl, r1⟩ := rep1 r
    exact .inr ⟨_, by rw [show v = _ from r1], q _ H S (.int _) k (Same.refl S) rfl t⟩
def fAbs : DFn
  | [.int i], R => R (.int (if i < 0 then -i else i))
  | _, _ => False
theorem b_abs : CallOk X (.builtin "abs") fAbs := by
  refine ⟨_, call_abs, fun c σ H S env xs vs R k r t Q q => ?_⟩
  unfold fAbs at t
  split at t <;> try exact t.elim
  obtain ⟨v, rfl, r1⟩ := rep1 r
  exact ⟨_, by rw [show v = _ from r1], q _ H S (.int _) k (Same.refl S) rfl t⟩
def fMin2 : DFn
  | [.int i, .int j], R => R (.int (if j < i then j else i))
  | _, _ => False
theorem b_min2 (hc : X.calm = true) : CallOk X (.builtin "min") fMin2 := by
  refine ⟨_, call_min2 hc, fun c σ H S env xs vs R k r t Q q => ?_⟩
  unfold fMin2 at t
  split at t <;> try exact t.elim
  obtain ⟨v, v', rfl, r1, r2⟩ := rep2 r
  exact ⟨_, _, by rw [show v = _ from r1, show v' = _ from r2], q _ H S (.int _) k (Same.refl S) rfl t⟩
def fMax2 : DFn
  | [.int i, .int j], R => R (.int (if j > i then j else i))
  | _, _ => False
/-- the ints, the bools of a list -/
def asInts : List D → Option (List Int)
  | [] => some []
  | .int i :: r => (asInts r).map (i :: ·)
  | _ :: _ => none
def asBls : List D → Option (List Bool)
  | [] => some []
  | .bl i :: r => (asBls r).map (i :: ·)
  | _ :: _ => none
theorem asInts_eq : ∀ {ds : List D} {ns : List Int}, asInts ds = some ns → ds = ns.map D.int
  | [], _, e => by cases e; rfl
  | .int i :: r, ns, e => by
    have e : (asInts r).map (i :: ·) = some ns := e
    cases h : asInts r with
    | none => rw [h] at e; cases e
    | some ms =>
      rw [h] at e
      cases e
      rw [asInts_eq h]
      rfl
  | .non :: _, _, e | .bl _ :: _, _, e | .str _ :: _, _, e | .ty _ :: _, _, e | .adr _ :: _, _, e | .fn _ _ _ :: _, _, e | .exc _ _ _ _ _ :: _, _, e | .dct _ _ :: _, _, e | .dcT _ _ :: _, _, e | .bag :: _, _, e | .lst _ :: _, _, e | .tup _ :: _, _, e | .obj _ _ _ :: _, _, e => nomatch e
theorem asBls_eq : ∀ {ds : List D} {ns : List Bool}, asBls ds = some ns → ds = ns.map D.bl
  | [], _, e => by cases e; rfl
  | .bl i :: r, ns, e => by
    have e : (asBls r).map (i :: ·) = some ns := e
    cases h : asBls r with
    | none => rw [h] at e; cases e
    | some ms =>
      rw [h] at e
      cases e
      rw [asBls_eq h]
      rfl
  | .non :: _, _, e | .int _ :: _, _, e | .str _ :: _, _, e | .ty _ :: _, _, e | .adr _ :: _, _, e | .fn _ _ _ :: _, _, e | .exc _ _ _ _ _ :: _, _, e | .dct _ _ :: _, _, e | .dcT _ _ :: _, _, e | .bag :: _, _, e | .lst _ :: _, _, e | .tup _ :: _, _, e | .obj _ _ _ :: _, _, e => nomatch e
theorem asInts_map (ns : List Int) : asInts (ns.map D.int) = some ns := by
  induction ns with
  | nil => rfl
  | cons n ns ih => show (asInts (ns.map D.int)).map (n :: ·) = _; rw [ih]; rfl
theorem asBls_map (ns : List Bool) : asBls (ns.map D.bl) = some ns := by
  induction ns with
  | nil => rfl
  | cons n ns ih => show (asBls (ns.map D.bl)).map (n :: ·) = _; rw [ih]; rfl
theorem RepL.bls {B : Option Addr} {S : Hp} {ns : List Bool} : ∀ {vs : List V}, RepL B S (ns.map D.bl) vs → vs = ns.map V.bl := by
  induction ns with
  | nil => intro vs h; exact repL_nil_of h
  | cons n ns ih =>
    intro vs h
    obtain ⟨u, ws, rfl, r1, t⟩ := repL_cons_of h
    rw [ih t, show u = V.bl n from r1]
    rfl
def fSum : DFn
  | [.lst xs], R => ∃ ns, asInts xs = some ns ∧ R (.int ns.sum)
  | _, _ => False
theorem b_sum (hc : X.calm = true) : CallOk X (.builtin "sum") fSum := by
  refine ⟨_, cr_sum hc, fun c σ H S env xs vs R k r t Q q => ?_⟩
  unfold fSum at t
  split at t <;> try exact t.elim
  obtain ⟨ns, e, t⟩ := t
  obtain ⟨v, rfl, r1⟩ := rep1 r
  obtain ⟨a, vs, rfl, h1, _, l1⟩ := lst_of k r1
  rw [asInts_eq e] at l1
  rw [l1.ints] at h1
  exact ⟨a, ns, rfl, SqL.of h1, q _ H S (.int _) k (Same.refl S) rfl t⟩
def fAny : DFn
  | [.lst xs], R => ∃ ns, asBls xs = some ns ∧ R (.bl (ns.any _root_.id))
  | _, _ => False
theorem b_any (hc : X.calm = true) : CallOk X (.builtin "any") fAny := by
  refine ⟨_, cr_any hc, fun c σ H S env xs vs R k r t Q q => ?_⟩
  unfold fAny at t
  split at t <;> try exact t.elim
  obtain ⟨ns, e, t⟩ := t
  obtain ⟨v, rfl, r1⟩ := rep1 r
  obtain ⟨a, vs, rfl, h1, _, l1⟩ := lst_of k r1
  rw [asBls_eq e] at l1
  rw [l1.bls] at h1
  exact ⟨a, ns, rfl, SqL.of h1, q _ H S (.bl _) k (Same.refl S) rfl t⟩
def fAll : DFn
  | [.lst xs], R => ∃ ns, asBls xs = some ns ∧ R (.bl (ns.all _root_.id))
  | _, _ => False
theorem b_all (hc : X.calm = true) : CallOk X (.builtin "all") fAll := by
  refine ⟨_, cr_all hc, fun c σ H S env xs vs R k r t Q q => ?_⟩
  unfold fAll at t
  split at t <;> try exact t.elim
  obtain ⟨ns, e, t⟩ := t
  obtain ⟨v, rfl, r1⟩ := rep1 r
  obtain ⟨a, vs, rfl, h1, _, l1⟩ := lst_of k r1
  rw [asBls_eq e] at l1
  rw [l1.bls] at h1
  exact ⟨a, ns, rfl, SqL.of h1, q _ H S (.bl _) k (Same.refl S) rfl t⟩
/-- tuple(xs), list(xs) -/
def fTuple : DFn
  | [.lst xs], R => R (.tup xs)
  | [.tup xs], R => R (.tup xs)
  | _, _ => False
/-- a new list of what nobody else holds: a display, list(xs), a slice, xs + ys, xs * k -/
def xNew (Tl : DTA) : DTF := fun env R Rx => Tl env (fun xs => xs.length ≤ sizeLine ∧ R xs) Rx
theorem putO {c : Fm} {σ : St} {H S : Hp} {env : En} {ds : List D} {vs : List V} {p : Addr} (k : Kn c σ H S env) (l : RepL c.B S ds vs) (h : H p = none) :
    Kn c σ (upd H p (.lst vs)) S env ∧ S p = none ∧ c.H0 p = none ∧ Free σ env p := ⟨k.new0 h, k.kf.s_none h, k.kf.h0_none h, k.free h⟩
end
end DL
namespace DL
open PySem PySem.Spec L2
variable [TbC]
section
variable {X : Cx} {E : XK} {p pos : Pos} {a b e : Expr} {Ta Tb : DT} {Tl : DTA} {es : List Expr}
theorem f_lst (h : DA X E es Tl) : DF X E (.List es pos) (xNew Tl) := by
  obtain ⟨t, p, s⟩ := h
  refine ⟨_, pe_lst p, fun c σ H S env R Rx x k t Q q => s c σ H S env _ Rx x k t _ fun vs H1 S1 ds k1 s1 r1 t1 => ⟨by rw [r1.length]; exact t1.1, fun p hp => ?_⟩⟩
  obtain ⟨k2, n2, n0, f⟩ := putO k1 r1 hp
  exact q p vs _ S1 ds k2 s1 n0 f n2 upd_same r1 t1.2
/-- xs + ys -/
def asL (R : List D → Prop) : D → Prop
  | .lst xs => R xs
  | _ => False
def xCatF (Ta Tb : DT) : DTF := fun env R Rx => Ta env (asL fun xs => Tb env (asL fun ys => xs.length + ys.length ≤ sizeLine ∧ R (xs ++ ys)) Rx) Rx
/-- xs * k -/
def xRepF (Ta Tb : DT) : DTF := fun env R Rx => Ta env (asL fun xs => Tb env (asI fun k => -(2 ^ 63) ≤ k ∧ k < 2 ^ 63 ∧ xs.length * k.toNat ≤ sizeLine ∧ R (List.replicate k.toNat xs).flatten) Rx) Rx
theorem f_mul (ha : DE X E a Ta) (hb : DE X E b Tb) : DF X E (.BinOp a .Mult b pos) (xRepF Ta Tb) := by
  obtain ⟨ta, p1, s1⟩ := ha
  obtain ⟨tb, p2, s2⟩ := hb
  refine ⟨_, pe_op op_rep p1 p2, fun c σ H S env R Rx x k t Q q => s1 c σ H S env _ Rx x k t _ fun v H1 S1 d1 k1 s3 r1 t1 => ?_⟩
  cases d1 <;> try exact (show False from t1).elim
  refine s2 c σ H1 S1 env _ Rx x k1 t1 _ fun u H2 S2 d2 k2 s4 r2 t2 => ?_
  cases d2 <;> try exact (show False from t2).elim
  obtain ⟨a, vs, e1, h1, _, l1⟩ := lst_of k2 (rep_mono s4 _ v r1)
  obtain ⟨t3, t4, t5, t6⟩ := t2
  refine ⟨a, _, vs, e1, r2, h1, t3, t4, by rw [l1.length]; exact t5, fun p hp => ?_⟩
  obtain ⟨k3, n2, n0, f⟩ := putO k2 (l1.rep _) hp
  exact q p _ _ S2 _ k3 (s3.trans s4) n0 f n2 upd_same (l1.rep _) t6
/-- list(xs) -/
def asLT (R : List D → Prop) : D → Prop
  | .lst xs => R xs
  | .tup xs => R xs
  | _ => False
def xListF (Ta : DT) : DTF := fun env R Rx => Ta env (asLT R) Rx
theorem f_list (ha : DE X E a Ta) (hm : X.mg "list" = none) (hg : Gl X "list" := by rfl) (he : starEach [a] X.env = (false, eval a X.env) :: starEach [] X.env := by rfl) (hpl : (backTo pos (starEach [] X.env)).any (·.1) = false := by rfl) :
    DF X E (.Call (.Name "list" p) [a] [] pos) (xListF Ta) := by
  obtain ⟨ta, p1, s1⟩ := ha
  refine ⟨_, pe_callTy call_list_of hg hm PyProof.Rows.boot_list (pa_cons p1 pa_nil he) (by decide) (by decide) he hpl, fun c σ H S env R Rx x k t Q q => s1 c σ H S env _ Rx x k t _ fun v H1 S1 d k1 s3 r1 t1 => ?_⟩
  cases d <;> try exact (show False from t1).elim
  · obtain ⟨a, vs, rfl, h1, _, l1⟩ := lst_of k1 r1
    refine ⟨a, vs, rfl, .inl (SqL.of h1), fun p hp => ?_⟩
    obtain ⟨k3, n2, n0, f⟩ := putO k1 l1 hp
    exact q p _ _ S1 _ k3 s3 n0 f n2 upd_same l1 t1
  · obtain ⟨a, vs, rfl, h1, _, l1⟩ := tup_of k1 r1
    refine ⟨a, vs, rfl, .inr (SqT.of h1), fun p hp => ?_⟩
    obtain ⟨k3, n2, n0, f⟩ := putO k1 l1 hp
    exact q p _ _ S1 _ k3 s3 n0 f n2 upd_same l1 t1
/-- xs[lo:hi], xs a list -/
def xSlF (Ta : DT) (Tl Th : DTO) : DTF := fun env R Rx => Ta env (asL fun xs => Tl env (fun lo => Th env (fun hi => R (cutD xs lo hi)) Rx) Rx) Rx
theorem f_slice {lo hi : Option Expr} {Tl Th : DTO} {p2 : Pos} (ha : DE X E a Ta) (hl : DO X E lo Tl) (hh : DO X E hi Th) : DF X E (.Subscript a (.Slice lo hi none p2) pos) (xSlF Ta Tl Th) := by
  obtain ⟨ta, pa, sa⟩ := ha
  obtain ⟨tl, pl, sl⟩ := hl
  obtain ⟨th, ph, sh⟩ := hh
  refine ⟨_, pe_slice sl_list pa pl ph, fun c σ H S env R Rx x k t Q q => sa c σ H S env _ Rx x k t _ fun v H1 S1 d k1 s1 r1 t1 => ?_⟩
  cases d <;> try exact (show False from t1).elim
  refine sl c σ H1 S1 env _ Rx x k1 t1 _ fun lo H2 S2 k2 s2 t2 => sh c σ H2 S2 env _ Rx x k2 t2 _ fun hi H3 S3 k3 s3 t3 => ?_
  obtain ⟨a, vs, e1, h1, _, l1⟩ := lst_of k3 (rep_mono (s2.trans s3) _ v r1)
  refine ⟨a, vs, e1, SqL.of h1, fun p hp => ?_⟩
  obtain ⟨k4, n2, n0, f⟩ := putO k3 (cut_rep (lo := lo) (hi := hi) l1) hp
  exact q p _ _ S3 _ k4 ((s1.trans s2).trans s3) n0 f n2 upd_same (cut_rep l1) t3
end
abbrev DG := D → En → (En → Prop) → Prop
/-- only the slots js change -/
def Wip (js : List Nat) (σ σ' : St) : Prop := ∀ ws : List Nat, (∀ j ∈ js, j ∈ ws) → wipe σ' ws = wipe σ ws
theorem wipe_set {σ : St} {i : Nat} {o : Option V} : ∀ {ws : List Nat}, i ∈ ws → wipe (σ.set i o) ws = wipe σ ws
  | [], h => nomatch h
  | w :: ws, h => by
    show (wipe (σ.set i o) ws).set w none = (wipe σ ws).set w none
    by_cases z : i ∈ ws
    · rw [wipe_set z]
    · have e : i = w := by
        rcases List.mem_cons.mp h with e | e
        · exact e
        · exact absurd e z
      subst e
      have go : ∀ us : List Nat, (wipe (σ.set i o) us).set i none = (wipe σ us).set i none := fun us => by
        induction us with
        | nil => show (σ.set i o).set i none = σ.set i none; rw [List.set_set]
        | cons u us ih =>
          show ((wipe (σ.set i o) us).set u none).set i none = ((wipe σ us).set u none).set i none
          by_cases hu : u = i
          · subst hu; rw [List.set_set, List.set_set]; exact ih
          · rw [List.set_comm _ _ hu, ih, List.set_comm _ _ (Ne.symm hu)]
      exact go ws
def SmG (g : TG) (G : DG) (js : List Nat) : Prop := ∀ (c : Fm) (σ : St) (H S : Hp) (env : En) (d : D) (v : V) (N : En → Prop), Kn c σ H S env → Rep c.B S d v → G d env N →
  ∀ P : St → Hp → Prop, (∀ σ' H' S' env', Kn c σ' H' S' env' → Same S S' → Wip js σ σ' → N env' → P σ' H') → g v σ H P
def DGt (X : Cx) (e : Expr) (G : DG) (js : List Nat) : Prop := ∃ g, PG X e g ∧ SmG g G js
abbrev DGs := List D → En → (En → Prop) → Prop
def SmGs (g : TGs) (G : DGs) (js : List Nat) : Prop := ∀ (c : Fm) (σ : St) (H S : Hp) (env : En) (ds : List D) (vs : List V) (N : En → Prop), Kn c σ H S env → RepL c.B S ds vs → G ds env N →
  ∀ P : St → Hp → Prop, (∀ σ' H' S' env', Kn c σ' H' S' env' → Same S S' → Wip js σ σ' → N env' → P σ' H') → g vs σ H P
def DGts (X : Cx) (es : List Expr) (G : DGs) (js : List Nat) : Prop := ∃ g, PGs X es g ∧ SmGs g G js
def put (i : Nat) (d : D) (env : En) : En := env.set i (some (.val d))
def putO' (i : Nat) (ds : List D) (env : En) : En := env.set i (some (.own ds))
def yName (i : Nat) : DG := fun d env N => N (put i d env)
def yNil : DGs := fun ds env N => ds = [] ∧ N env
def yCons (G : DG) (Gs : DGs) : DGs := fun ds env N => match ds with
  | [] => False
  | d :: r => G d env fun env' => Gs r env' N
def yTup (n : Nat) (Gs : DGs) : DG := fun d env N => match d with
  | .tup ds => ds.length = n ∧ Gs ds env N
  | _ => False
section
variable {X : Cx} {pos : Pos} {e : Expr} {es : List Expr} {G : DG} {Gs : DGs}
theorem smG_name (i : Nat) : SmG (gName i) (yName i) [i] := fun c σ H S env d v N k r t P q => q _ H S _ (k.set r) (Same.refl S) (fun ws h => wipe_set (h i (List.mem_singleton.mpr rfl))) t
theorem g_name {i : Nat} {x : Str} (hN : X.N.Nodup) (hi : X.N[i]? = some x := by rfl) (hx : Loc X.env.scope x := by first | exact Or.inl rfl | exact Or.inr rfl) (hf : X.fn x = true ∨ X.env.scope.names.lookup x = some .local := by first | exact .inl rfl | exact .inr rfl) : DGt X (.Name x pos) (yName i) [i] :=
  ⟨_, pg_name hN hi hx hf, smG_name i⟩
theorem gs_nil : DGts X [] yNil [] := ⟨_, pgs_nil, fun c σ H S env ds vs N k r t P q => by
  obtain ⟨e, t⟩ := t
  subst e
  exact ⟨repL_nil_of r, q σ H S env k (Same.refl S) (fun ws _ => rfl) t⟩⟩
theorem gs_cons {js js' : List Nat} (h1 : DGt X e G js) (h2 : DGts X es Gs js') (hs : (assignEach (e :: es) X.env).map (·.2) = assign e X.env :: (assignEach es X.env).map (·.2) := by rfl) : DGts X (e :: es) (yCons G Gs) (js ++ js') := by
  obtain ⟨g, p1, s1⟩ := h1
  obtain ⟨gs, p2, s2⟩ := h2
  refine ⟨_, pgs_cons p1 p2 hs, fun c σ H S env ds vs N k r t P q => ?_⟩
  cases ds with
  | nil => exact (show False from t).elim
  | cons d ds =>
    obtain ⟨v, ws, rfl, r1, l⟩ := repL_cons_of r
    exact ⟨v, ws, rfl, s1 c σ H S env d v _ k r1 t _ fun σ1 H1 S1 env1 k1 s w1 t1 => s2 c σ1 H1 S1 env1 ds ws N k1 (repL_mono s ds ws l) t1 P fun σ2 H2 S2 env2 k2 s3 w2 t2 => q σ2 H2 S2 env2 k2 (s.trans s3)
      (fun us h => (w2 us fun j hj => h j (List.mem_append_right _ hj)).trans (w1 us fun j hj => h j (List.mem_append_left _ hj))) t2⟩
theorem g_tup {n k : Nat} {js : List Nat} (hc : X.calm = true) (h : DGts X es Gs js) (hn : (assignEach es X.env).length = n := by rfl) (hst : (assignEach es X.env).findIdx? (·.1) = none := by rfl) : DGt X (.Tuple es k pos) (yTup n Gs) js := by
  obtain ⟨gs, p1, s1⟩ := h
  refine ⟨_, pg_tup hc p1 hn hst, fun c σ H S env d v N k r t P q => ?_⟩
  cases d <;> try exact (show False from t).elim
  obtain ⟨a, vs, e1, h1, _, l1⟩ := tup_of k r
  obtain ⟨hl, t⟩ := t
  exact ⟨a, vs, e1, SqT.of h1, by rw [l1.length]; exact hl, s1 c σ H S env _ vs N k l1 t P q⟩
end
section
variable {X : Cx} {E : XK} {pos p1 : Pos} {a b e tg : Expr} {Ta Tb : DT} {T U : DTS} {TF : DTF} {st : Stmt} {rest sts us : List Stmt} {G : DG}
def zNext : DTS := fun Q env => Q.nx env
def zSeq (T U : DTS) : DTS := fun Q env => T { Q with nx := U Q } env
theorem mk_nx {c : Fm} {S S' : Hp} {Q : DEnds} {D : Ends} {N : St → Hp → Prop} {M : En → Prop} (m : mk c S Q D) (s : Same S S') (h : ∀ σ H S2 env, Kn c σ H S2 env → Same S' S2 → M env → N σ H) : mk c S' { Q with nx := M } { D with nx := N } :=
  ⟨h, (m.mono s).2.1, (m.mono s).2.2.1, (m.mono s).2.2.2⟩
theorem ds_nil : DSs X E [] zNext := ⟨_, pss_nil, fun c σ H S env Q x k t D m => m.1 σ H S env k (Same.refl S) t⟩
theorem ds_cons (h1 : DS X E st T) (h2 : DSs X E rest U) : DSs X E (st :: rest) (zSeq T U) := by
  obtain ⟨t, p1, s1⟩ := h1
  obtain ⟨u, p2, s2⟩ := h2
  refine ⟨_, pss_cons p1 p2, fun c σ H S env Q x k t D m => ?_⟩
  exact s1 c σ H S env { Q with nx := U Q } x k t _ (mk_nx m (Same.refl S) fun σ1 H1 S1 env1 k1 s t1 => s2 c σ1 H1 S1 env1 Q x k1 t1 D (m.mono s))
theorem ds_one (h1 : DS X E st T) : DSs X E [st] T := by
  obtain ⟨t, p1, s1⟩ := h1
  exact ⟨_, pss_one p1, s1⟩
def zBreak : DTS := fun Q env => Q.bk env
def zCont : DTS := fun Q env => Q.ct env
def zRet (Ta : DT) : DTS := fun Q env => Ta env (Q.rt .old) Q.ex
theorem s_ret (h : DE X E a Ta) : DS X E (.Return (some a) pos) (zRet Ta) := by
  obtain ⟨t, p, s⟩ := h
  exact ⟨_, ps_ret p, fun c σ H S env Q x k t D m => s c σ H S env _ _ x k t _ fun v H1 S1 d k1 s1 r1 t1 => m.2.1 .old v H1 S1 d k1.kf s1 r1 t1⟩
def zExpr (Ta : DT) : DTS := fun Q env => Ta env (fun _ => Q.nx env) Q.ex
theorem s_expr (h : DE X E a Ta) (hs : swapsWith a none pos.line X.env = pure false := by rfl) : DS X E (.Expr a pos) (zExpr Ta) := by
  obtain ⟨t, p, s⟩ := h
  exact ⟨_, ps_expr p hs, fun c σ H S env Q x k t D m => s c σ H S env _ _ x k t _ fun v H1 S1 d k1 s1 r1 t1 => m.1 σ H1 S1 env k1 s1 t1⟩
def zIf (T : DTT) (U W : DTS) : DTS := fun Q env => T env (fun b => (b = true → U Q env) ∧ (b = false → W Q env)) Q.ex
theorem s_if {cnd : Expr} {Tc : DTT} {x1 x2 : List Stmt} (hc : DTe X E cnd Tc) (h1 : DSs X E x1 T) (h2 : DSs X E x2 U) : DS X E (.If cnd x1 x2 pos) (zIf Tc T U) := by
  obtain ⟨tc, p, s⟩ := hc
  obtain ⟨t, p1, s1⟩ := h1
  obtain ⟨u, p2, s2⟩ := h2
  refine ⟨_, ps_if p p1 p2, fun c σ H S env Q x k t D m => s c σ H S env _ _ x k t _ fun bb H1 S1 k1 s3 t1 => ?_⟩
  cases bb with
  | true => exact iteT (s1 c σ H1 S1 env Q x k1 (t1.1 rfl) D (m.mono s3))
  | false => exact iteF (s2 c σ H1 S1 env Q x k1 (t1.2 rfl) D (m.mono s3))
def zAsg (Ta : DT) (G : DG) : DTS := fun Q env => Ta env (fun d => G d env Q.nx) Q.ex
theorem smS_asg {t : TE} {g : TG} {js : List Nat} (h : Sm E t Ta) (hg : SmG g G js) : SmS E (tAsg t g) (zAsg Ta G) := fun c σ H S env Q x k t D m =>
  h c σ H S env _ _ x k t _ fun v H1 S1 d k1 s1 r1 t1 => hg c σ H1 S1 env d v _ k1 r1 t1 _ fun σ2 H2 S2 env2 k2 s2 _ t2 => m.1 σ2 H2 S2 env2 k2 (s1.trans s2) t2
theorem s_set {i : Nat} {x : Str} (hN : X.N.Nodup) (h : DE X E e Ta) (hi : X.N[i]? = some x := by rfl) (hx : Loc X.env.scope x := by first | exact Or.inl rfl | exact Or.inr rfl) (hs : swapsWith e (some (.Name x p1)) pos.line X.env = pure false := by rfl)
    (hf : X.fn x = true ∨ X.env.scope.names.lookup x = some .local := by first | exact .inl rfl | exact .inr rfl) : DS X E (.Assign [.Name x p1] e pos) (zAsg Ta (yName i)) := by
  obtain ⟨t, p, s⟩ := h
  exact ⟨_, ps_set hN hi hx p hs hf, smS_asg s (smG_name i)⟩
theorem s_asg {js : List Nat} (h : DE X E e Ta) (hg : DGt X tg G js) (hs : swapsWithSole [tg] e pos.line X.env = pure false := by rfl) (hw : swappedStores [tg] e X.env = pure none := by rfl) (h1 : (assignEach [tg] X.env).map (·.2) = [assign tg X.env] := by rfl) :
    DS X E (.Assign [tg] e pos) (zAsg Ta G) := by
  obtain ⟨t, p, s⟩ := h
  obtain ⟨g, p2, s2⟩ := hg
  exact ⟨_, ps_asg p p2 hs hw h1, smS_asg s s2⟩
/-- name = a new list, from now on of the frame's own -/
def zSetO (i : Nat) (T : DTF) : DTS := fun Q env => T env (fun ds => Q.nx (putO' i ds env)) Q.ex
theorem smS_setO {t : TE} {i : Nat} (h : SmF E t TF) : SmS E (tAsg t (gName i)) (zSetO i TF) := fun c σ H S env Q x k t D m =>
  h c σ H S env _ _ x k t _ fun p vs H1 S1 ds k1 s1 n0 f n2 e1 l1 t1 => m.1 _ H1 S1 _ (k1.setOwn n2 n0 e1 l1 f) s1 t1
theorem s_setO {i : Nat} {x : Str} (hN : X.N.Nodup) (h : DF X E e TF) (hi : X.N[i]? = some x := by rfl) (hx : Loc X.env.scope x := by first | exact Or.inl rfl | exact Or.inr rfl) (hs : swapsWith e (some (.Name x p1)) pos.line X.env = pure false := by rfl)
    (hf : X.fn x = true ∨ X.env.scope.names.lookup x = some .local := by first | exact .inl rfl | exact .inr rfl) : DS X E (.Assign [.Name x p1] e pos) (zSetO i TF) := by
  obtain ⟨t, p, s⟩ := h
  exact ⟨_, ps_set hN hi hx p hs hf, smS_setO s⟩
/-- a, b = x, y -/
def zPar (i j : Nat) (Tl : DTA) : DTS := fun Q env => Tl env (fun ds => match ds with
  | [d, d'] => Q.nx (put j d' (put i d env))
  | _ => False) Q.ex
theorem s_par {i j : Nat} {x y : Str} {px py pt : Pos} {kt k2 pt2} {Tl : DTA} (hc : X.calm = true) (hN : X.N.Nodup) (ha : DA X E [a, b] Tl) (hi : X.N[i]? = some x := by rfl) (hj : X.N[j]? = some y := by rfl) (hij : i ≠ j := by decide)
    (hx : X.env.scope.names.lookup x = some .local := by rfl) (hy : X.env.scope.names.lookup y = some .local := by rfl)
    (hw : swappedStores [.Tuple [.Name x px, .Name y py] kt pt] (.Tuple [a, b] k2 pt2) X.env = pure (some [x, y]) := by rfl)
    (hs : swapsWithSole [.Tuple [.Name x px, .Name y py] kt pt] (.Tuple [a, b] k2 pt2) pos.line X.env = pure false := by rfl) :
    DS X E (.Assign [.Tuple [.Name x px, .Name y py] kt pt] (.Tuple [a, b] k2 pt2) pos) (zPar i j Tl) := by
  obtain ⟨t, p, s⟩ := ha
  refine ⟨_, ps_par hc hN hi hj hij hx hy p hw hs, fun c σ H S env Q x k t D m => s c σ H S env _ _ x k t _ fun vs H1 S1 ds k1 s1 r1 t1 => ?_⟩
  match ds, t1 with
  | [d, d'], t1 =>
    obtain ⟨v, v', rfl, r2, r3⟩ := rep2 r1
    exact ⟨v, v', rfl, m.1 _ H1 S1 _ ((k1.set r2).set r3) s1 t1⟩
/-- the list at slot i stays as it is from here on -/
def zFrz (i : Nat) (T : DTS) : DTS := fun Q env => ∃ xs, env[i]? = some (some (.own xs)) ∧ T Q (put i (.lst xs) env)
theorem s_frz (i : Nat) (h : DS X E st T) : DS X E st (zFrz i T) := by
  obtain ⟨t, p, s⟩ := h
  refine ⟨t, p, fun c σ H S env Q x k t D m => ?_⟩
  obtain ⟨xs, e, t⟩ := t
  obtain ⟨S2, k2, s2⟩ := k.frz e
  exact s c σ H S2 _ Q x k2 t D (m.mono s2)
/-- xs.append(e), xs of the frame's own -/
def zApp (i : Nat) (Ta : DT) : DTS := fun Q env => ∃ xs, env[i]? = some (some (.own xs)) ∧ Ta env (fun d => xs.length < sizeLine ∧ Q.nx (putO' i (xs ++ [d]) env)) Q.ex
theorem s_app (i : Nat) {x : Str} {apos p2 : Pos} (h : DE X E a Ta) (hN : X.N[i]? = some x := by rfl) (hv : Vis X.env.scope x := by first | exact Or.inl rfl | exact Or.inr (Or.inl rfl) | exact Or.inr (Or.inr rfl))
    (hd : (x == ("__debug__" : Str)) = false := by decide) (hcd : (x == ("__classdict__" : Str)) = false := by decide)
    (hp : ∀ {te : TE}, PE X a te → PE X (.Call (.Attribute (.Name x p1) "append" apos) [a] [] p2) (tBM X.K "list" rAppend (tVar i) (tCons te tNil)))
    (hs : swapsWith (.Call (.Attribute (.Name x p1) "append" apos) [a] [] p2) none pos.line X.env = pure false := by rfl) :
    DS X E (.Expr (.Call (.Attribute (.Name x p1) "append" apos) [a] [] p2) pos) (zApp i Ta) := by
  obtain ⟨t, p, s⟩ := h
  refine ⟨_, ps_expr (hp p) hs, fun c σ H S env Q x k t D m => ?_⟩
  obtain ⟨xs, e, t⟩ := t
  obtain ⟨q, vs, e1, h0, h1, h2, l⟩ := own_of k e
  refine ⟨_, e1, .inl ⟨rfl, vs, SqL.of h2⟩, s c σ H S env _ _ x k t _ fun v H1 S1 d k1 s1 r1 t1 => ?_⟩
  obtain ⟨q', vs', e1', _, _, h2', l'⟩ := own_of k1 e
  rw [e1] at e1'
  cases e1'
  have l2 := l'.app (repL_cons r1 repL_nil)
  exact ⟨q, vs', v, rfl, rfl, h2', by rw [l'.length]; exact t1.1, m.1 _ _ S1 _ (k1.change e e1 l2) s1 t1.2⟩
/-- xs[e] = v, xs of the frame's own -/
def zStO (i : Nat) (Tv Ti : DT) : DTS := fun Q env => Tv env (fun d => ∃ xs, env[i]? = some (some (.own xs)) ∧ Ti env (asI fun k => ∃ j, ixN xs.length k = some j ∧ Q.nx (putO' i (xs.set j d) env)) Q.ex) Q.ex
/-- name += e of ints -/
def zAug (i : Nat) (f : Int → Int → Int) (Ta : DT) : DTS := fun Q env => ∃ n, env[i]? = some (some (.val (.int n))) ∧ Ta env (asI fun j => Q.nx (put i (.int (f n j)) env)) Q.ex
theorem s_aug {i : Nat} {x : Str} {op : Operator} {f : Int → Int → Int} (hN : X.N.Nodup) (ho : PIp X op (ipI f)) (h : DE X E e Ta) (hi : X.N[i]? = some x := by rfl) (hx : Loc X.env.scope x := by first | exact Or.inl rfl | exact Or.inr rfl)
    (hf : X.fn x = true ∨ X.env.scope.names.lookup x = some .local := by first | exact .inl rfl | exact .inr rfl) : DS X E (.AugAssign (.Name x p1) op e pos) (zAug i f Ta) := by
  obtain ⟨t, p, s⟩ := h
  refine ⟨_, ps_aug hN hi hx p ho hf, fun c σ H S env Q x k t D m => ?_⟩
  obtain ⟨n, en, t⟩ := t
  obtain ⟨v, e1, r⟩ := k.sl i _ en
  refine ⟨v, e1, s c σ H S env _ _ x k t _ fun u H1 S1 d k1 s1 r1 t1 => ?_⟩
  cases d <;> try exact (show False from t1).elim
  exact ⟨n, _, r, r1, m.1 _ H1 S1 _ (k1.set (d := .int _) rfl) s1 t1⟩
/-- never reached -/
def zNever : DTS := fun _ _ => False
theorem s_never : DS X E st zNever := ⟨_, ps_never, fun c σ H S env Q x k t D m => (show False from t).elim⟩
end
abbrev DTI := En → (List D → Prop) → (Er → Prop) → Prop
def ItOk (B : Option Addr) (J : It) (S0 : Hp) (xs : List D) : Prop := ∀ (c : Fm), c.B = B → ∀ (i : Nat) (σ : St) (H S : Hp) (env : En), Kn c σ H S env → Same S0 S →
  (∀ d, xs[i]? = some d → J.go i H ∧ ∀ x H', J.yld i H x H' → ∃ S', Kn c σ H' S' env ∧ Same S S' ∧ Rep c.B S' d x) ∧ (xs.length ≤ i → J.stop i H)
def SmI (E : XK) (wi : TI) (T : DTI) : Prop := ∀ (c : Fm) (σ : St) (H S : Hp) (env : En) (R : List D → Prop) (Rx : Er → Prop), XOk c E Rx → Kn c σ H S env → T env R Rx →
  ∀ Rr : It → Hp → Prop, (∀ J H' S' xs, Kn c σ H' S' env → Same S S' → ItOk c.B J S' xs → R xs → Rr J H') → wi σ H Rr
def DI (X : Cx) (E : XK) (tg e : Expr) (T : DTI) : Prop := ∃ wi, PI X tg e wi ∧ SmI E wi T
theorem ItOk.mono {B : Option Addr} {J : It} {S0 S1 : Hp} {xs : List D} (h : ItOk B J S0 xs) (s : Same S0 S1) : ItOk B J S1 xs := fun c hB i σ H S env k s1 => h c hB i σ H S env k (s.trans s1)
section
variable {X : Cx} {E : XK} {pos p : Pos} {a b e tg : Expr} {Ta Tb : DT} {Tl : DTA}
theorem itl_ok {B : Option Addr} {K : PySem.W.Frag} {S : Hp} {a : Addr} {vs : List V} {xs : List D} (h : S a = some (.lst vs)) (l : RepL B S xs vs) : ItOk B (Itl K a) S xs := fun c hB i σ H S1 env k s => by
  subst hB
  have hH : H a = some (.lst vs) := k.kf.sub _ _ (s _ _ h)
  refine ⟨fun d e => ?_, fun hl => ⟨vs, SqL.of hH, by rw [l.length]; exact hl⟩⟩
  obtain ⟨v, ev, r⟩ := l.get e
  exact ⟨⟨vs, v, SqL.of hH, ev⟩, fun x H' y => by
    obtain ⟨e1, y⟩ := y
    subst e1
    have e2 := y vs (SqL.of hH)
    rw [ev] at e2
    cases e2
    exact ⟨S1, k, Same.refl S1, rep_mono s d v r⟩⟩
theorem itt_ok {B : Option Addr} {K : PySem.W.Frag} {S : Hp} {a : Addr} {vs : List V} {xs : List D} (h : S a = some (.tup vs)) (l : RepL B S xs vs) : ItOk B (Itt K a) S xs := fun c hB i σ H S1 env k s => by
  subst hB
  have hH : H a = some (.tup vs) := k.kf.sub _ _ (s _ _ h)
  refine ⟨fun d e => ?_, fun hl => ⟨vs, SqT.of hH, by rw [l.length]; exact hl⟩⟩
  obtain ⟨v, ev, r⟩ := l.get e
  exact ⟨⟨vs, v, SqT.of hH, ev⟩, fun x H' y => by
    obtain ⟨e1, y⟩ := y
    subst e1
    have e2 := y vs (SqT.of hH)
    rw [ev] at e2
    cases e2
    exact ⟨S1, k, Same.refl S1, rep_mono s d v r⟩⟩
def xItL (Ta : DT) : DTI := fun env R Rx => Ta env (asL R) Rx
def xItT (Ta : DT) : DTI := fun env R Rx => Ta env (fun d => match d with
  | .tup xs => R xs
  | _ => False) Rx
theorem i_list (h : DE X E a Ta) : DI X E tg a (xItL Ta) := by
  obtain ⟨t, p, s⟩ := h
  refine ⟨_, pi_list p, fun c σ H S env R Rx x k t Rr q => s c σ H S env _ Rx x k t _ fun v H1 S1 d k1 s1 r1 t1 => ?_⟩
  cases d <;> try exact (show False from t1).elim
  obtain ⟨a, vs, e, h1, hS, l⟩ := lst_of k1 r1
  exact ⟨a, e, ⟨vs, SqL.of h1⟩, q _ H1 S1 _ k1 s1 (itl_ok hS l) t1⟩
theorem i_tup (h : DE X E a Ta) : DI X E tg a (xItT Ta) := by
  obtain ⟨t, p, s⟩ := h
  refine ⟨_, pi_tup p, fun c σ H S env R Rx x k t Rr q => s c σ H S env _ Rx x k t _ fun v H1 S1 d k1 s1 r1 t1 => ?_⟩
  cases d <;> try exact (show False from t1).elim
  obtain ⟨a, vs, e, h1, hS, l⟩ := tup_of k1 r1
  exact ⟨a, e, ⟨vs, SqT.of h1⟩, q _ H1 S1 _ k1 s1 (itt_ok hS l) t1⟩
/-- lo, lo + 1, .. -/
def ups (lo : Int) : Nat → List D
  | 0 => []
  | n + 1 => .int lo :: ups (lo + 1) n
theorem ups_get : ∀ (n i : Nat) (lo : Int), (ups lo n)[i]? = if i < n then some (.int (lo + i)) else none
  | 0, i, lo => by simp [ups]
  | n + 1, 0, lo => by simp [ups]
  | n + 1, i + 1, lo => by
    show (ups (lo + 1) n)[i]? = _
    rw [ups_get n i (lo + 1)]
    by_cases h : i < n
    · rw [if_pos h, if_pos (by omega)]
      congr 2
      omega
    · rw [if_neg h, if_neg (by omega)]
theorem ups_length : ∀ (n : Nat) (lo : Int), (ups lo n).length = n
  | 0, _ => rfl
  | n + 1, lo => by
    show (ups (lo + 1) n).length + 1 = _
    rw [ups_length]
theorem itr_ok {B : Option Addr} {S : Hp} {lo : Int} {n : Nat} : ItOk B (Itr lo n) S (ups lo n) := fun c hB i σ H S1 env k s => by
  refine ⟨fun d e => ?_, fun hl => by rw [ups_length] at hl; exact hl⟩
  rw [ups_get] at e
  split at e
  · rename_i hi
    cases e
    exact ⟨hi, fun x H' y => by
      obtain ⟨e1, e2⟩ := y
      subst e1
      subst e2
      exact ⟨S1, k, Same.refl S1, rfl⟩⟩
  · cases e
def xRg1 (Tl : DTA) : DTI := fun env R Rx => Tl env (fun ds => match ds with
  | [.int j] => -(2 ^ 62) ≤ j ∧ j < 2 ^ 62 ∧ R (ups 0 j.toNat)
  | _ => False) Rx
def xRg2 (Tl : DTA) : DTI := fun env R Rx => Tl env (fun ds => match ds with
  | [.int i, .int j] => (-(2 ^ 62) ≤ i ∧ i < 2 ^ 62 ∧ -(2 ^ 62) ≤ j ∧ j < 2 ^ 62) ∧ R (ups i (j - i).toNat)
  | _ => False) Rx
theorem i_rg1 (ha : DA X E [a] Tl) (hm : X.mg "range" = none) (hg : Gl X "range" := by rfl) (hs : starEach [a] X.env = [(false, eval a X.env)] := by rfl) : DI X E tg (.Call (.Name "range" p) [a] [] pos) (xRg1 Tl) := by
  obtain ⟨t, pa, s⟩ := ha
  refine ⟨_, pi_range1 hg hm pa hs, fun c σ H S env R Rx x k t Rr q => s c σ H S env _ Rx x k t _ fun vs H1 S1 ds k1 s1 r1 t1 => ?_⟩
  match ds, t1 with
  | [.int j], t1 =>
    obtain ⟨v, rfl, r2⟩ := rep1 r1
    exact ⟨j, by rw [show v = _ from r2], t1.1, t1.2.1, q _ H1 S1 _ k1 s1 itr_ok t1.2.2⟩
/-- zip -/
def pairs : List D → List D → List D
  | x :: xs, y :: ys => .tup [x, y] :: pairs xs ys
  | _, _ => []
theorem pairs_get : ∀ (xs ys : List D) (i : Nat) (d : D), (pairs xs ys)[i]? = some d → ∃ x y, xs[i]? = some x ∧ ys[i]? = some y ∧ d = .tup [x, y]
  | [], _, i, d, h => by simp [pairs] at h
  | _ :: _, [], i, d, h => by simp [pairs] at h
  | x :: xs, y :: ys, 0, d, h => by simp [pairs] at h; exact ⟨x, y, rfl, rfl, h.symm⟩
  | x :: xs, y :: ys, i + 1, d, h => by
    obtain ⟨a, b, e1, e2, e3⟩ := pairs_get xs ys i d (by simpa [pairs] using h)
    exact ⟨a, b, by simpa using e1, by simpa using e2, e3⟩
theorem pairs_length : ∀ (xs ys : List D), (pairs xs ys).length = min xs.length ys.length
  | [], ys => by simp [pairs]
  | _ :: _, [] => by simp [pairs]
  | x :: xs, y :: ys => by
    show (pairs xs ys).length + 1 = _
    rw [pairs_length xs ys, List.length_cons, List.length_cons]
    omega
theorem itz_ok {B : Option Addr} {K : PySem.W.Frag} {S : Hp} {a b : Addr} {vs ws : List V} {xs ys : List D} (h : S a = some (.lst vs)) (h2 : S b = some (.lst ws)) (l : RepL B S xs vs) (l2 : RepL B S ys ws) : ItOk B (Itz K a b) S (pairs xs ys) := fun c hB i σ H S1 env k s => by
  subst hB
  have hH : H a = some (.lst vs) := k.kf.sub _ _ (s _ _ h)
  have hH2 : H b = some (.lst ws) := k.kf.sub _ _ (s _ _ h2)
  refine ⟨fun d e => ?_, fun hl => ⟨vs, ws, SqL.of hH, SqL.of hH2, by rw [pairs_length] at hl; rw [l.length, l2.length]; omega⟩⟩
  obtain ⟨x, y, ex, ey, rfl⟩ := pairs_get _ _ _ _ e
  obtain ⟨v, ev, r⟩ := l.get ex
  obtain ⟨w, ew, r2⟩ := l2.get ey
  refine ⟨⟨vs, ws, v, w, SqL.of hH, SqL.of hH2, ev, ew⟩, fun z H' yl => ?_⟩
  obtain ⟨T, x', y', rfl, hT, rfl, hx, hy⟩ := yl
  have e1 := hx vs (SqL.of hH)
  rw [ev] at e1
  cases e1
  have e2 := hy ws (SqL.of hH2)
  rw [ew] at e2
  cases e2
  obtain ⟨k', s', r'⟩ := put_tup k (repL_cons (rep_mono s _ _ r) (repL_cons (rep_mono s _ _ r2) repL_nil)) hT
  exact ⟨_, k', s', r'⟩
theorem itzT_ok {B : Option Addr} {K : PySem.W.Frag} {S : Hp} {a b : Addr} {vs ws : List V} {xs ys : List D} (h : S a = some (.tup vs)) (h2 : S b = some (.tup ws)) (l : RepL B S xs vs) (l2 : RepL B S ys ws) : ItOk B (RZ.ItzT K a b) S (pairs xs ys) := fun c hB i σ H S1 env k s => by
  subst hB
  have hH : H a = some (.tup vs) := k.kf.sub _ _ (s _ _ h)
  have hH2 : H b = some (.tup ws) := k.kf.sub _ _ (s _ _ h2)
  refine ⟨fun d e => ?_, fun hl => ⟨vs, ws, SqT.of hH, SqT.of hH2, by rw [pairs_length] at hl; rw [l.length, l2.length]; omega⟩⟩
  obtain ⟨x, y, ex, ey, rfl⟩ := pairs_get _ _ _ _ e
  obtain ⟨v, ev, r⟩ := l.get ex
  obtain ⟨w, ew, r2⟩ := l2.get ey
  refine ⟨⟨vs, ws, v, w, SqT.of hH, SqT.of hH2, ev, ew⟩, fun z H' yl => ?_⟩
  obtain ⟨T, x', y', rfl, hT, rfl, hx, hy⟩ := yl
  have e1 := hx vs (SqT.of hH)
  rw [ev] at e1
  cases e1
  have e2 := hy ws (SqT.of hH2)
  rw [ew] at e2
  cases e2
  obtain ⟨k', s', r'⟩ := put_tup k (repL_cons (rep_mono s _ _ r) (repL_cons (rep_mono s _ _ r2) repL_nil)) hT
  exact ⟨_, k', s', r'⟩
def fZip (R : List D → Prop) : List D → Prop
  | [.lst xs, .lst ys] => R (pairs xs ys)
  | [.tup xs, .tup ys] => R (pairs xs ys)
  | _ => False
def xZip (Tl : DTA) : DTI := fun env R Rx => Tl env (fZip R) Rx
theorem i_zip {tpos : Pos} {elts : List Expr} {kk : Nat} (ha : DA X E [a, b] Tl) (hm : X.mg "zip" = none) (hg : Gl X "zip" := by rfl)
    (hs : starEach [a, b] X.env = (false, eval a X.env) :: starEach [b] X.env := by rfl) (hpl : (backTo pos (starEach [b] X.env)).any (·.1) = false := by rfl) :
    DI X E (.Tuple elts kk tpos) (.Call (.Name "zip" p) [a, b] [] pos) (xZip Tl) := by
  obtain ⟨t, pa, s⟩ := ha
  refine ⟨_, RZ.pi_zipA hg hm pa hs hpl, fun c σ H S env R Rx x k t Rr q => s c σ H S env _ Rx x k t _ fun vs H1 S1 ds k1 s1 r1 t1 => ?_⟩
  unfold fZip at t1
  split at t1 <;> try exact t1.elim
  · obtain ⟨v, w, rfl, r2, r3⟩ := rep2 r1
    obtain ⟨a, us, rfl, h1, hS, l⟩ := lst_of k1 r2
    obtain ⟨b, ws, rfl, h2, hS2, l2⟩ := lst_of k1 r3
    exact ⟨a, b, us, ws, rfl, .inl ⟨SqL.of h1, SqL.of h2, q _ H1 S1 _ k1 s1 (itz_ok hS hS2 l l2) t1⟩⟩
  · obtain ⟨v, w, rfl, r2, r3⟩ := rep2 r1
    obtain ⟨a, us, rfl, h1, hS, l⟩ := tup_of k1 r2
    obtain ⟨b, ws, rfl, h2, hS2, l2⟩ := tup_of k1 r3
    exact ⟨a, b, us, ws, rfl, .inr ⟨SqT.of h1, SqT.of h2, q _ H1 S1 _ k1 s1 (itzT_ok hS hS2 l l2) t1⟩⟩
theorem fZip_lst {R : List D → Prop} {xs ys : List D} : fZip R [.lst xs, .lst ys] = R (pairs xs ys) := rfl
theorem fZip_tup {R : List D → Prop} {xs ys : List D} : fZip R [.tup xs, .tup ys] = R (pairs xs ys) := rfl
/-- enumerate -/
def nums (lo : Int) : List D → List D
  | [] => []
  | x :: xs => .tup [.int lo, x] :: nums (lo + 1) xs
theorem nums_get : ∀ (xs : List D) (i : Nat) (lo : Int) (d : D), (nums lo xs)[i]? = some d → ∃ x, xs[i]? = some x ∧ d = .tup [.int (lo + i), x]
  | [], i, lo, d, h => by simp [nums] at h
  | x :: xs, 0, lo, d, h => by simp [nums] at h; exact ⟨x, rfl, by simpa using h.symm⟩
  | x :: xs, i + 1, lo, d, h => by
    obtain ⟨a, e1, e2⟩ := nums_get xs i (lo + 1) d (by simpa [nums] using h)
    refine ⟨a, by simpa using e1, ?_⟩
    rw [e2]
    congr 3
    show (lo + 1) + (i : Int) = lo + ((i + 1 : Nat) : Int)
    omega
theorem nums_length : ∀ (xs : List D) (lo : Int), (nums lo xs).length = xs.length
  | [], _ => rfl
  | x :: xs, lo => by
    show (nums (lo + 1) xs).length + 1 = _
    rw [nums_length xs]
    rfl
theorem ite_ok {B : Option Addr} {K : PySem.W.Frag} {S : Hp} {a : Addr} {vs : List V} {xs : List D} (h : S a = some (.lst vs)) (l : RepL B S xs vs) : ItOk B (Ite K a) S (nums 0 xs) := fun c hB i σ H S1 env k s => by
  subst hB
  have hH : H a = some (.lst vs) := k.kf.sub _ _ (s _ _ h)
  refine ⟨fun d e => ?_, fun hl => ⟨vs, SqL.of hH, by rw [nums_length] at hl; rw [l.length]; exact hl⟩⟩
  obtain ⟨x, ex, rfl⟩ := nums_get _ _ _ _ e
  obtain ⟨v, ev, r⟩ := l.get ex
  refine ⟨⟨vs, v, SqL.of hH, ev⟩, fun z H' yl => ?_⟩
  obtain ⟨T, x', rfl, hT, rfl, hx⟩ := yl
  have e1 := hx vs (SqL.of hH)
  rw [ev] at e1
  cases e1
  obtain ⟨k', s', r'⟩ := put_tup (ds := [.int i, x]) k (repL_cons rfl (repL_cons (rep_mono s _ _ r) repL_nil)) hT
  rw [Int.zero_add]
  exact ⟨_, k', s', r'⟩
def xEnum (Tl : DTA) : DTI := fun env R Rx => Tl env (fun ds => match ds with
  | [.lst xs] => R (nums 0 xs)
  | _ => False) Rx
theorem i_enum {tpos : Pos} {elts : List Expr} {kk : Nat} (ha : DA X E [a] Tl) (hm : X.mg "enumerate" = none) (hg : Gl X "enumerate" := by rfl) (hs : starEach [a] X.env = [(false, eval a X.env)] := by rfl) :
    DI X E (.Tuple elts kk tpos) (.Call (.Name "enumerate" p) [a] [] pos) (xEnum Tl) := by
  obtain ⟨t, pa, s⟩ := ha
  refine ⟨_, pi_enum hg hm pa hs, fun c σ H S env R Rx x k t Rr q => s c σ H S env _ Rx x k t _ fun vs H1 S1 ds k1 s1 r1 t1 => ?_⟩
  match ds, t1 with
  | [.lst xs], t1 =>
    obtain ⟨v, rfl, r2⟩ := rep1 r1
    obtain ⟨a, us, rfl, h1, hS, l⟩ := lst_of k1 r2
    exact ⟨a, us, rfl, SqL.of h1, q _ H1 S1 _ k1 s1 (ite_ok hS l) t1⟩
/-- the signs of a text -/
def signs (s : Str) : List D := s.cps.toList.map fun c => .str ⟨#[c]⟩
theorem its_ok {B : Option Addr} {S : Hp} {s : Str} : ItOk B (Its s) S (signs s) := fun c hB i σ H S1 env k _ => by
  unfold signs
  refine ⟨fun d e => ?_, fun hl => by
    rw [List.length_map] at hl
    show s.cps.size ≤ i
    simpa using hl⟩
  rw [List.getElem?_map] at e
  cases h : s.cps.toList[i]? with
  | none => rw [h] at e; cases e
  | some ch =>
    rw [h] at e
    cases e
    have h2 : s.cps[i]? = some ch := by rw [← Array.getElem?_toList]; exact h
    refine ⟨(Array.getElem?_eq_some_iff.mp h2).1, fun x H' y => ?_⟩
    obtain ⟨rfl, c', e1, rfl⟩ := y
    rw [h2] at e1
    cases e1
    exact ⟨S1, k, Same.refl S1, rfl⟩
def xItS (Ta : DT) : DTI := fun env R Rx => Ta env (fun d => match d with
  | .str s => R (signs s)
  | _ => False) Rx
theorem i_str (h : DE X E a Ta) : DI X E tg a (xItS Ta) := by
  obtain ⟨t, p, s⟩ := h
  refine ⟨_, pi_str p, fun c σ H S env R Rx x k t Rr q => s c σ H S env _ Rx x k t _ fun v H1 S1 d k1 s1 r1 t1 => ?_⟩
  cases d <;> try exact (show False from t1).elim
  exact ⟨_, r1, q _ H1 S1 _ k1 s1 its_ok t1⟩
end
def zFor (Ti : DTI) (G : DG) (Tb : DTS) : DTS := fun Q env => Ti env (fun xs => ∃ I : Nat → En → Prop, I 0 env ∧ (∀ i d env, xs[i]? = some d → I i env → G d env fun env' => Tb { Q with nx := I (i + 1), ct := I (i + 1), bk := Q.nx } env') ∧ ∀ env, I xs.length env → Q.nx env) Q.ex
def zWhile (Tc : DTT) (Tb : DTS) : DTS := fun Q env => ∃ (I : Nat → En → Prop) (m : Nat), I m env ∧ ∀ m env, I m env → Tc env (fun b => (b = true → Tb { Q with nx := fun e => ∃ m', m' < m ∧ I m' e, ct := fun e => ∃ m', m' < m ∧ I m' e, bk := Q.nx } env) ∧ (b = false → Q.nx env)) Q.ex
section
variable {X : Cx} {E : XK} {pos : Pos} {tg iter : Expr} {body : List Stmt} {Ti : DTI} {G : DG} {Tb : DTS}
theorem s_for {js : List Nat} (hp : PassesOwn (model X.prog X.w) X.A X.env X.xe) (hc : X.calm = true) (hi : DI X E tg iter Ti) (hg : DGt X tg G js) (hb : DSs X E body Tb) (hs : ∀ x, foldedSetIterable iter X.env x = pure x := by intro _; rfl) :
    DS X E (.For tg iter body [] pos) (zFor Ti G Tb) := by
  obtain ⟨wi, p1, s1⟩ := hi
  obtain ⟨g, p2, s2⟩ := hg
  obtain ⟨tb, p3, s3⟩ := hb
  refine ⟨_, ps_for hp hc p1 p2 p3 hs, fun c σ H S env Q x k t D m => s1 c σ H S env _ _ x k t _ fun J H1 S1 xs k1 s4 it t1 => ?_⟩
  obtain ⟨I, h0, hstep, hend⟩ := t1
  have m1 := m.mono s4
  refine ⟨fun i n σ H => n = xs.length - i ∧ i ≤ xs.length ∧ ∃ S env, Kn c σ H S env ∧ Same S1 S ∧ I i env, ⟨_, rfl, Nat.zero_le _, S1, env, k1, Same.refl S1, h0⟩, ?_⟩
  rintro i n σ H ⟨rfl, hi, S, env, k, s, hI⟩
  obtain ⟨go, stop⟩ := it c rfl i σ H S env k s
  by_cases hlt : i < xs.length
  · have e : xs[i]? = some xs[i] := by simp [hlt]
    obtain ⟨g1, g2⟩ := go _ e
    refine .inr ⟨g1, fun σ H => ∃ S env, Kn c σ H S env ∧ Same S1 S ∧ I (i + 1) env, fun σ' H' ⟨S', env', k', s', h'⟩ => ⟨_, by omega, rfl, hlt, S', env', k', s', h'⟩, fun v H' y => ?_⟩
    obtain ⟨S', k', s', r'⟩ := g2 v H' y
    refine s2 c σ H' S' env _ v _ k' r' (hstep i _ env e hI) _ fun σ2 H2 S2 env2 k2 s5 _ t2 => ?_
    have s6 : Same S1 S2 := (s.trans s').trans s5
    refine s3 c σ2 H2 S2 env2 { Q with nx := I (i + 1), ct := I (i + 1), bk := Q.nx } x k2 t2 _ ⟨fun σ3 H3 S3 env3 k3 s7 t3 => ⟨S3, env3, k3, s6.trans s7, t3⟩, (m1.mono s6).2.1, fun σ3 H3 S3 env3 k3 s7 t3 => m1.1 σ3 H3 S3 env3 k3 (s6.trans s7) t3, fun σ3 H3 S3 env3 k3 s7 t3 => ⟨S3, env3, k3, s6.trans s7, t3⟩⟩
  · have e : i = xs.length := by omega
    subst e
    exact .inl ⟨stop (Nat.le_refl _), m1.1 σ H S env k s (hend env hI)⟩
theorem s_while {cnd : Expr} {Tc : DTT} (hp : PassesOwn (model X.prog X.w) X.A X.env X.xe) (hc : DTe X E cnd Tc) (hb : DSs X E body Tb) : DS X E (.While cnd body [] pos) (zWhile Tc Tb) := by
  obtain ⟨tc, p1, s1⟩ := hc
  obtain ⟨tb, p3, s3⟩ := hb
  refine ⟨_, ps_while hp p1 p3, fun c σ H S env Q x k t D m => ?_⟩
  obtain ⟨I, m0, h0, hstep⟩ := t
  refine ⟨fun n σ H => ∃ S' env, Kn c σ H S' env ∧ Same S S' ∧ I n env, ⟨m0, S, env, k, Same.refl S, h0⟩, ?_⟩
  rintro n σ H ⟨S', env, k, s, hI⟩
  refine s1 c σ H S' env _ _ x k (hstep n env hI) _ fun b H1 S1 k1 s4 t1 => ?_
  have s5 := s.trans s4
  cases b with
  | true =>
    refine iteT ⟨fun σ H => ∃ m', m' < n ∧ ∃ S' env, Kn c σ H S' env ∧ Same S S' ∧ I m' env, fun σ' H' h => h, ?_⟩
    exact s3 c σ H1 S1 env { Q with nx := fun e => ∃ m', m' < n ∧ I m' e, ct := fun e => ∃ m', m' < n ∧ I m' e, bk := Q.nx } x k1 (t1.1 rfl) _ ⟨fun σ3 H3 S3 env3 k3 s7 ⟨m', hm, t3⟩ => ⟨m', hm, S3, env3, k3, s5.trans s7, t3⟩, (m.mono s5).2.1, fun σ3 H3 S3 env3 k3 s7 t3 => m.1 σ3 H3 S3 env3 k3 (s5.trans s7) t3, fun σ3 H3 S3 env3 k3 s7 ⟨m', hm, t3⟩ => ⟨m', hm, S3, env3, k3, s5.trans s7, t3⟩⟩
  | false => exact iteF (m.1 σ H1 S1 env k1 s5 (t1.2 rfl))
end
end DL
namespace DL
open PySem PySem.Spec L2
variable [TbC]
def canE (E : XK) (T : DT) : TE := fun σ H Q => ∃ (c : Fm) (S : Hp) (env : En) (R : D → Prop) (Rx : Er → Prop), XOk c E Rx ∧ Kn c σ H S env ∧ T env R Rx ∧ ∀ v H' S' d, Kn c σ H' S' env → Same S S' → Rep c.B S' d v → R d → Q v H'
theorem sm_can {E : XK} {T : DT} : Sm E (canE E T) T := fun c σ H S env R Rx x k t Q q => ⟨c, S, env, R, Rx, x, k, t, q⟩
theorem pe_can {X : Cx} {E : XK} {e : Expr} {T : DT} (h : DE X E e T) : PE X e (canE E T) := by
  obtain ⟨t, p, s⟩ := h
  exact ⟨fun pins st σ H Q I ⟨c, S, env, R, Rx, x, k, t, q⟩ => p.run pins st σ H Q I (s c σ H S env R Rx x k t Q q)⟩
def canT (E : XK) (T : DTT) : TT := fun σ H Q => ∃ (c : Fm) (S : Hp) (env : En) (R : Bool → Prop) (Rx : Er → Prop), XOk c E Rx ∧ Kn c σ H S env ∧ T env R Rx ∧ ∀ b H' S', Kn c σ H' S' env → Same S S' → R b → Q b H'
theorem smT_can {E : XK} {T : DTT} : SmT E (canT E T) T := fun c σ H S env R Rx x k t Q q => ⟨c, S, env, R, Rx, x, k, t, q⟩
def DTs (X : Cx) (E : XK) (es : List Expr) (T : DTT) : Prop := ∃ t, PTs X es t ∧ SmT E t T
theorem pts_can {X : Cx} {E : XK} {e : List Expr} {T : DTT} (h : DTs X E e T) : PTs X e (canT E T) := by
  obtain ⟨t, p, s⟩ := h
  exact ⟨fun pins st σ H Q I ⟨c, S, env, R, Rx, x, k, t, q⟩ => p.run pins st σ H Q I (s c σ H S env R Rx x k t Q q)⟩
def canG (G : DG) (js : List Nat) : TG := fun v σ H P => ∃ (c : Fm) (S : Hp) (env : En) (d : D) (N : En → Prop), Kn c σ H S env ∧ Rep c.B S d v ∧ G d env N ∧ ∀ σ' H' S' env', Kn c σ' H' S' env' → Same S S' → Wip js σ σ' → N env' → P σ' H'
theorem smG_can {G : DG} {js : List Nat} : SmG (canG G js) G js := fun c σ H S env d v N k r t P q => ⟨c, S, env, d, N, k, r, t, q⟩
theorem pg_can {X : Cx} {e : Expr} {G : DG} {js : List Nat} (h : DGt X e G js) : PG X e (canG G js) := by
  obtain ⟨g, p, s⟩ := h
  exact ⟨fun pins st σ H v u Q I r ⟨c, S, env, d, N, k, r2, t, q⟩ => p.run pins st σ H v u Q I r (s c σ H S env d v N k r2 t Q q)⟩
def xYes : DTT := fun _ R _ => R true
section
variable {X : Cx} {E : XK} {a : Expr} {T : DTT}
theorem dts_nil : DTs X E [] xYes := ⟨_, pts_nil, fun c σ H S env R Rx x k t Q q => q true H S k (Same.refl S) t⟩
theorem dts_one (h : DTe X E a T) : DTs X E [a] T := by
  obtain ⟨t, p, s⟩ := h
  exact ⟨_, pts_one p, s⟩
end
abbrev noX : Er → Prop := fun _ => False
theorem xok0 {c : Fm} {E : XK} : XOk c E noX := fun er d vs H S k r l h _ _ z => z.elim
def Fm.at (c : Fm) (H S : Hp) : Fm := ⟨c.B, c.C, H, S⟩
section
variable {c : Fm} {σ : St} {H H' S S' : Hp} {env : En}
theorem Kf.at (k : Kf c H S) : Kf (c.at H S) H S := ⟨k.sub, Same.refl S, fun _ _ e _ => e, fun a e _ => e, fun b e => ⟨(k.bag b e).1, by
  obtain ⟨⟨_, cs, i, g, st, n, q, _⟩, _⟩ := k.bag b e
  show H b ≠ none
  rw [q]
  exact fun z => nomatch z⟩, ⟨k.tab.1, fun p hp => k.tab.1.ne hp⟩⟩
theorem Kn.back (k : Kn c σ H S env) (k' : Kf (c.at H S) H' S') : Kn c σ H' S' env := k.step k'.s0 k'.sub (fun a o e n => k'.old a o e n) (fun a e n => k'.new a e n) (fun b e => (k'.bag b e).1) k'.tab.1
theorem Kf.back' (k : Kf c H S) (k' : Kf (c.at H S) H' S') : Kf c H' S' := k.step k'.s0 k'.sub (fun a o e n => k'.old a o e n) (fun a e n => k'.new a e n) (fun b e => (k'.bag b e).1) k'.tab.1
theorem XOk.at {E : XK} {Rx : Er → Prop} (x : XOk c E Rx) (k : Kf c H S) : XOk (c.at H S) E Rx := fun er d vs H1 S1 k1 r l h n0 n1 z => x er d vs H1 S1 (k.back' k1) r l h (k.h0_none n0) n1 z
end
def inner : List Nat → En → En
  | [], env => env.map fun o => match o with
    | some (.val d) => some (.val d)
    | _ => none
  | i :: vs, env => (inner vs env).set i none
theorem inner_len {env : En} : ∀ vs : List Nat, (inner vs env).length = env.length
  | [] => by simp [inner]
  | i :: vs => by simp [inner, inner_len vs]
theorem inner_get {env : En} {i : Nat} {x : DV} : ∀ {vs : List Nat}, (inner vs env)[i]? = some (some x) → (∃ d, x = .val d ∧ env[i]? = some (some (.val d))) ∧ i ∉ vs
  | [], h => by
    refine ⟨?_, by simp⟩
    simp only [inner, List.getElem?_map] at h
    cases e : env[i]? with
    | none => rw [e] at h; cases h
    | some o =>
      rw [e] at h
      cases o with
      | none => cases h
      | some y =>
        cases y with
        | val d => cases h; exact ⟨d, rfl, rfl⟩
        | own _ => cases h
        | tre _ _ => cases h
  | v :: vs, h => by
    show _ ∧ i ∉ v :: vs
    simp only [inner] at h
    by_cases z : v = i
    · subst z
      rw [List.getElem?_set] at h
      simp only [if_true] at h
      split at h <;> cases h
    · rw [List.getElem?_set_ne z] at h
      obtain ⟨a, b⟩ := inner_get h
      exact ⟨a, by simp only [List.mem_cons, not_or]; exact ⟨fun e => z e.symm, b⟩⟩
theorem wipe_get {σ : St} {i : Nat} : ∀ {vs : List Nat}, i ∉ vs → (wipe σ vs)[i]? = σ[i]?
  | [], _ => rfl
  | v :: vs, h => by
    simp only [List.mem_cons, not_or] at h
    show ((wipe σ vs).set v none)[i]? = _
    rw [List.getElem?_set_ne (Ne.symm h.1), wipe_get h.2]
theorem wipe_in {j : Nat} : ∀ {us : List Nat} {τ : St}, j ∈ us → (wipe τ us)[j]? = if j < τ.length then some none else none
  | [], _, h => nomatch h
  | u :: us, τ, h => by
    show ((wipe τ us).set u none)[j]? = _
    by_cases hu : u = j
    · subst hu
      rw [List.getElem?_set]
      simp only [if_true, wipe_length]
    · rw [List.getElem?_set_ne hu]
      refine wipe_in ?_
      rcases List.mem_cons.mp h with e | e
      · exact absurd e.symm hu
      · exact e
theorem wipe_wipe (σ : St) (us : List Nat) : wipe (wipe σ us) us = wipe σ us := by
  apply List.ext_getElem?
  intro j
  by_cases hj : j ∈ us
  · rw [wipe_in hj, wipe_in hj, wipe_length]
  · rw [wipe_get hj, wipe_get hj]
theorem Kn.inner {c : Fm} {σ : St} {H S : Hp} {env : En} (k : Kn c σ H S env) (vs : List Nat) : Kn (c.at H S) (wipe σ vs) H S (inner vs env) := by
  refine ⟨k.kf.at, by rw [inner_len, wipe_length]; exact k.len, fun i x e => ?_, fun i j x y v u a _ e _ _ _ f _ => ?_⟩
  · obtain ⟨⟨d, rfl, e1⟩, hi⟩ := inner_get e
    obtain ⟨v, e2, r⟩ := k.sl i _ e1
    exact ⟨v, by rw [wipe_get hi]; exact e2, r⟩
  · obtain ⟨⟨d, rfl, _⟩, _⟩ := inner_get e
    exact f
def xLcF (Ti : DTI) (G : DG) (Tt : DTT) (Te : DT) (vs : List Nat) : DTF := fun env R Rx => Ti env (fun xs => ∃ I : Nat → List D → Prop, I 0 [] ∧
  (∀ i d acc, xs[i]? = some d → I i acc → G d (inner vs env) fun env' => Tt env' (fun b => (b = true → Te env' (fun y => acc.length < sizeLine ∧ I (i + 1) (acc ++ [y])) noX) ∧ (b = false → I (i + 1) acc)) noX) ∧
  ∀ acc, I xs.length acc → R acc) Rx
section
variable {X : Cx} {E : XK} {elt tg iter : Expr} {ifs : List Expr} {scope : Scope} {own : List (Str × Nat)} {pos : Pos} {Ti : DTI} {G : DG} {Tt : DTT} {Te : DT} {js : List Nat}
theorem smF_lc {wi : TI} (hsub : ∀ j ∈ js, j ∈ own.map (·.2)) (hi : SmI E wi Ti) : SmF E (tLc wi (canG G js) (canT E0 Tt) (canE E0 Te) (own.map (·.2))) (xLcF Ti G Tt Te (own.map (·.2))) := fun c σ H S env R Rx x k t Q q =>
  hi c σ H S env _ Rx x k t _ fun J H1 S1 xs k1 s1 it t1 => by
    obtain ⟨I, h0, hstep, hend⟩ := t1
    intro D hD
    have n0 := k1.kf.h0_none hD
    have fD := k1.free hD
    refine ⟨fun i m H => m = xs.length - i ∧ i ≤ xs.length ∧ ∃ S vs acc, Kn c σ H S env ∧ Same S1 S ∧ S D = none ∧ H D = some (.lst vs) ∧ RepL c.B S acc vs ∧ I i acc,
      ⟨_, rfl, Nat.zero_le _, S1, [], [], k1.new0 hD, Same.refl S1, k1.kf.s_none hD, upd_same, repL_nil, h0⟩, ?_⟩
    rintro i m H ⟨rfl, hil, S, vs, acc, k, s, nD, eD, l, hI⟩
    have ki := k.inner (own.map (·.2))
    obtain ⟨go, stop⟩ := it (c.at H S) rfl i _ H S _ ki s
    by_cases hlt : i < xs.length
    · have e : xs[i]? = some xs[i] := by simp [hlt]
      obtain ⟨g1, g2⟩ := go _ e
      refine .inr ⟨g1, fun H => i + 1 ≤ xs.length ∧ ∃ S vs acc, Kn c σ H S env ∧ Same S1 S ∧ S D = none ∧ H D = some (.lst vs) ∧ RepL c.B S acc vs ∧ I (i + 1) acc, fun H' h => ⟨_, by omega, rfl, h⟩, fun v H' y => ?_⟩
      obtain ⟨S', k', s', r'⟩ := g2 v H' y
      refine smG_can (c.at H S) _ H' S' _ _ v _ k' r' (hstep i _ acc e hI) _ fun σ2 H2 S2 env2 k2 s2 w2 t2 => ?_
      refine ⟨?_, ?_⟩
      · have := w2 (own.map (·.2)) hsub
        rw [this]
        exact wipe_wipe _ _
      · refine smT_can (c.at H S) σ2 H2 S2 env2 _ noX xok0 k2 t2 _ fun b H3 S3 k3 s3 t3 => ?_
        have fin : ∀ {H4 S4 : Hp}, Kf (c.at H S) H4 S4 → Kn c σ H4 S4 env ∧ H4 D = some (.lst vs) ∧ S4 D = none ∧ RepL c.B S4 acc vs ∧ Same S1 S4 := fun {H4 S4} kf => by
          refine ⟨k.back kf, kf.old D _ eD (k.kf.x_ne0 n0), kf.new D nD (mu_lst eD), repL_mono kf.s0 acc vs l, s.trans kf.s0⟩
        cases b with
        | true =>
          refine iteT ?_
          refine sm_can (c.at H S) σ2 H3 S3 env2 _ noX xok0 k3 (t3.1 rfl) _ fun u H4 S4 d4 k4 s4 r4 t4 => ?_
          obtain ⟨kn, eD4, nD4, l4, ss⟩ := fin k4.kf
          have l5 := l4.app (repL_cons r4 repL_nil)
          refine ⟨vs, eD4, by rw [l4.length]; exact t4.1, hlt, S4, _, _, ?_, ss, nD4, upd_same, l5, t4.2⟩
          -- the list at D changes: nobody knows it
          exact kn.updF nD4 n0 eD4 lst_ne fD
        | false =>
          refine iteF ?_
          obtain ⟨kn, eD4, nD4, l4, ss⟩ := fin k3.kf
          exact ⟨hlt, S3, vs, acc, kn, ss, nD4, eD4, l4, t3.2 rfl⟩
    · have e : i = xs.length := by omega
      subst e
      exact .inl ⟨stop (Nat.le_refl _), q D vs H S acc k (s1.trans s) n0 fD nD eD l (hend acc hI)⟩
theorem f_lc (hc : X.calm = true) (hN : X.N.Nodup) (hi : DI X E tg iter Ti) (ok : BlkOk X.N X.env.scope scope own) (hsub : ∀ j ∈ js, j ∈ own.map (·.2))
    (hg : ∀ (s : Shared) (H : Hp) (C : Addr) (cl : List (Str × Addr)) (fp : List Addr), DGt (X.blk s H scope (compEnvC scope cl C X.env) fp) tg G js)
    (ht : ∀ (s : Shared) (H : Hp) (C : Addr) (cl : List (Str × Addr)) (fp : List Addr), DTs (X.blk s H scope (compEnvC scope cl C X.env) fp) E0 ifs Tt)
    (he : ∀ (s : Shared) (H : Hp) (C : Addr) (cl : List (Str × Addr)) (fp : List Addr), DE (X.blk s H scope (compEnvC scope cl C X.env) fp) E0 elt Te)
    (hs : ∀ x, foldedSetIterable iter X.env x = pure x := by intro _; rfl) : DF X E (.ListComp elt [⟨tg, iter, ifs, 0⟩] scope pos) (xLcF Ti G Tt Te (own.map (·.2))) := by
  obtain ⟨wi, p, s⟩ := hi
  exact ⟨_, pe_lc hc hN p ok (fun s H C cl fp => pg_can (hg s H C cl fp)) (fun s H C cl fp => pts_can (ht s H C cl fp)) (fun s H C cl fp => pe_can (he s H C cl fp)) hs, smF_lc hsub s⟩
end
abbrev Spec := List D → (D → Prop) → (Er → Prop) → Prop
def spD (F : Spec) : Sp := fun vs H Q E => ∃ (c : Fm) (S : Hp) (ds : List D) (R : D → Prop) (Rx : Er → Prop), c.H0 = H ∧ c.S0 = S ∧ Kf c H S ∧ RepL c.B S ds vs ∧ F ds R Rx ∧ (∀ v H' S' d, Kf c H' S' → Rep c.B S' d v → R d → Q v H') ∧ XOk c E Rx
def xCall (F : Spec) (dds : List D) (Tl : DTA) : DT := fun env R Rx => Tl env (fun xs => F (xs ++ dds) R Rx) Rx
def DfR (dds : List D) (dvs : List V) : Prop := ∀ B S, RepL B S dds dvs
theorem dfR_nil : DfR [] [] := fun _ _ => repL_nil
section
variable {X : Cx} {E : XK} {CX : CXT} {k n : Nat} {f : Addr} {fd : FuncData} {ps ks : List Str} {F : Spec} {dvs : List V} {dds : List D} {ds : List Value} {x : Str} {p pos : Pos} {e : Expr} {es : List Expr} {Tl Tk : DTA} {kws : List Keyword}
theorem sp_call {c : Fm} {σ : St} {H S : Hp} {env : En} {vs : List V} {xs : List D} {R : D → Prop} {Rx : Er → Prop} {Q : VK} (kn : Kn c σ H S env) (x : XOk c E Rx) (l : RepL c.B S xs vs) (t : F xs R Rx)
    (q : ∀ v H' S' d, Kn c σ H' S' env → Same S S' → Rep c.B S' d v → R d → Q v H') : spD F vs H Q E :=
  ⟨c.at H S, S, xs, R, Rx, rfl, rfl, kn.kf.at, l, t, fun v H' S' d k' r z => q v H' S' d (kn.back k') k'.s0 r z, x.at kn.kf⟩
theorem d_call (G : FnOk X.prog X.w X.K X.mg X.base CX k f fd ps (spD F)) (hr : Room k X.A) (hm : X.mg x = some (.ref f)) (hk : PySem.W.keepIn X.K (.ref f) = true) (hb : Binds X.K fd ps ds) (hd : Vals dvs ds) (hdd : DfR dds dvs) (hx : Passes CX X E) (ha : DA X E (e :: es) Tl)
    (hg : Gl X x := by rfl) (hdb : (x == ("__debug__" : Str)) = false := by decide) (he : starEach (e :: es) X.env = (false, eval e X.env) :: starEach es X.env := by rfl) (hpl : (backTo pos (starEach es X.env)).any (·.1) = false := by rfl) :
    DE X E (.Call (.Name x p) (e :: es) [] pos) (xCall F dds Tl) := by
  obtain ⟨t, pa, s⟩ := ha
  refine ⟨_, pe_call G hr hg hm hk hb hd hx pa hdb he hpl, fun c σ H S env R Rx x k t Q q => s c σ H S env _ Rx x k t _ fun vs H1 S1 xs k1 s1 l1 t1 => ?_⟩
  exact sp_call k1 x (l1.app (hdd _ _)) t1 fun v H' S' d k' s' r' t' => q v H' S' d k' (s1.trans s') r' t'
/-- f(.., k = v, ..) -/
def DK (X : Cx) (E : XK) (kws : List Keyword) (T : DTA) : Prop := ∃ t, PK X kws t ∧ SmA E t T
theorem dk_nil : DK X E [] xNil := ⟨_, pk_nil, fun c σ H S env R Rx x k t Q q => q [] H S [] k (Same.refl S) repL_nil t⟩
theorem dk_cons {nm : Option Str} {kpos : Pos} {Ta : DT} (ha : DE X E e Ta) (hl : DK X E kws Tk) : DK X E (⟨nm, e, kpos⟩ :: kws) (xCons Ta Tk) := by
  obtain ⟨ta, p, s⟩ := ha
  obtain ⟨t, p2, s2⟩ := hl
  exact ⟨_, pk_cons p p2, smA_cons s s2⟩
def xCallK (F : Spec) (g : List D → List D → List D) (Tl Tk : DTA) : DT := fun env R Rx => Tl env (fun xs => Tk env (fun zs => F (g xs zs) R Rx) Rx) Rx
/-- the values in the parameters' order -/
structure KBd (K : PySem.W.Frag) (fd : FuncData) (ps ks : List Str) (g : {α : Type} → List α → List α → List α) : Prop where
  to : ∀ (s : Shared) (us ws : List Value), K.In s.heap → (g us ws).length = ps.length → BindsTo s fd ⟨us, ks.zip ws⟩ (ps.zip (g us ws))
  rel : ∀ {vs : List V} {us : List Value} {zs : List V} {ws : List Value}, Vals vs us → Vals zs ws → Vals (g vs zs) (g us ws)
  rep : ∀ {B : Option Addr} {S : Hp} {xs zs : List D} {vs ws : List V}, RepL B S xs vs → RepL B S zs ws → RepL B S (g xs zs) (g vs ws)
end
/-- the names at the entry -/
def startE (N : List Str) (ds : List D) : En := ds.map (fun d => some (.val d)) ++ List.replicate (N.length - ds.length) none
theorem kn_start {c : Fm} {N : List Str} {ds : List D} {vs : List V} {H S : Hp} (k : Kf c H S) (l : RepL c.B S ds vs) : Kn c (L2.start N vs) H S (startE N ds) := by
  have hl := l.length
  refine ⟨k, by unfold startE L2.start; simp [hl], fun i x e => ?_, fun i j x y v u a _ e _ _ _ f _ => ?_⟩
  · unfold startE at e
    unfold L2.start
    by_cases hi : i < ds.length
    · rw [List.getElem?_append_left (by simpa using hi), List.getElem?_map] at e
      cases ed : ds[i]? with
      | none => rw [ed] at e; cases e
      | some d =>
        rw [ed] at e
        cases e
        obtain ⟨v, ev, r⟩ := l.get ed
        exact ⟨v, by rw [List.getElem?_append_left (by simp; omega), List.getElem?_map, ev]; rfl, r⟩
    · rw [List.getElem?_append_right (by simpa using hi), List.getElem?_replicate] at e
      split at e <;> cases e
  · unfold startE at e
    by_cases hi : i < ds.length
    · rw [List.getElem?_append_left (by simpa using hi), List.getElem?_map] at e
      cases ed : ds[i]? with
      | none => rw [ed] at e; cases e
      | some d =>
        rw [ed] at e
        cases e
        exact f
    · rw [List.getElem?_append_right (by simpa using hi), List.getElem?_replicate] at e
      split at e <;> cases e
section
variable {P : Program} {w : World} {K : PySem.W.Frag} {mg : Str → Option Value} {base : Heap} {x qual : Str} {st : Stmt} {dvs : List V} {kws : List (Str × V)} {f : Addr} {fd : FuncData} {N ps : List Str} {k : Nat} {F : Spec}
abbrev FnS (K : PySem.W.Frag) (x qual : Str) (st : Stmt) (dvs : List V) (kws : List (Str × V)) (f : Addr) (fd : FuncData) : Prop := FunD K x qual (defArgs st) (defBody st) (defScope st) dvs kws f fd
/-- THE RULE for a def: its body told by T, and what T says -/
theorem fn_d {T : DTS} (Fd : FnS K x qual st dvs kws f fd) (S : FnScope N ps (defScope st)) (len : ∀ ds R Rx, F ds R Rx → ds.length = ps.length)
    (hbody : ∀ (cdv : Value) (A : Around) (outer : List Env) (s : Shared) (H : Hp) (E : XK), Room k (A.deeper (PyProof.Rows.envOfC qual (defScope st) s.heap.objs.size f cdv)) →
      DSs (cxOf (L2.CX P w) P w K mg base N qual (defScope st) f cdv A outer s H E) E (defBody st) T)
    (hT : ∀ ds R Rx, F ds R Rx → T { nx := fun _ => R .non, rt := fun _ => R, ex := Rx } (startE N ds)) : FnOk P w K mg base (L2.CX P w) (k + 1) f fd ps (spD F) := by
  refine FunD.ok Fd S (fun vs H Q E ⟨c, S, ds, R, Rx, _, _, _, l, h, _⟩ => by rw [l.length]; exact len _ _ _ h) fun cdv A outer s H vs Q E hr hsp => ?_
  obtain ⟨c, Sh, ds, R, Rx, h0, hs0, kf, l, h, q, xo⟩ := hsp
  obtain ⟨t, p, sm⟩ := hbody cdv A outer s H E hr
  refine ⟨t, p, sm c _ H Sh _ _ xo (kn_start kf l) (hT ds R Rx h) _ ⟨fun σ H1 S1 env k1 s1 r1 => ?_, fun n v H1 S1 d k1 s1 r1 t1 => by
    obtain ⟨S2, k2, _, r2⟩ := r1.old k1
    exact q v H1 S2 d k2 r2 t1, fun σ H1 S1 env k1 s1 r1 => r1, fun σ H1 S1 env k1 s1 r1 => r1⟩⟩
  exact q .non H1 S1 .non k1.kf rfl r1
end
end DL
namespace DL
open PySem PySem.Spec L2
variable [TbC]
theorem pass_d {P : Program} {w : World} {K : PySem.W.Frag} {mg : Str → Option Value} {base : Heap} {N : List Str} {qual : Str} {scope : Scope} {f : Addr} {cd : Value} {A : Around} {outer : List Env} {s : Shared} {H : Hp} {E : XK} :
    Passes (L2.CX P w) (cxOf (L2.CX P w) P w K mg base N qual scope f cd A outer s H E) E := passes_call (takes_of rfl rfl rfl rfl) fun _ _ _ _ h => h
/-- a def of the module's top without defaults -/
structure Df (K : PySem.W.Frag) (mg : Str → Option Value) (x : Str) (st : Stmt) where
  f : Addr
  fd : FuncData
  F : FnS K x x st [] [] f fd
  g : mg x = some (.ref f)
section
variable {R : D → Prop} {i j : Int} {b : Bool} {s t : Str} {xs ys : List D} {x y d : D} {env : En} {Rx : Er → Prop}
theorem opAdd_int : opAdd (.int i) (.int j) R = R (.int (i + j)) := rfl
theorem opAdd_str : opAdd (.str s) (.str t) R = (s.length + t.length ≤ sizeLine ∧ R (.str (s ++ t))) := rfl
theorem opAdd_lst : opAdd (.lst xs) (.lst ys) R = (xs.length + ys.length ≤ sizeLine ∧ R (.lst (xs ++ ys))) := rfl
theorem opAdd_tup : opAdd (.tup xs) (.tup ys) R = (xs.length + ys.length ≤ sizeLine ∧ R (.tup (xs ++ ys))) := rfl
theorem opSub_int : opSub (.int i) (.int j) R = R (.int (i - j)) := rfl
theorem opMul_int : opMul (.int i) (.int j) R = (MulOk i j ∧ R (.int (i * j))) := rfl
theorem opMul_lst : opMul (.lst xs) (.int j) R = (-(2 ^ 63) ≤ j ∧ j < 2 ^ 63 ∧ xs.length * j.toNat ≤ sizeLine ∧ R (.lst (List.replicate j.toNat xs).flatten)) := rfl
theorem opMul_str : opMul (.str s) (.int j) R = (-(2 ^ 63) ≤ j ∧ j < 2 ^ 63 ∧ s.length * j.toNat ≤ sizeLine ∧ R (.str (mulS s j.toNat))) := rfl
theorem opFdiv_int : opFdiv (.int i) (.int j) R = (DivOk j ∧ R (.int (i.fdiv j))) := rfl
theorem opMod_int : opMod (.int i) (.int j) R = (j ≠ 0 ∧ R (.int (i.fmod j))) := rfl
theorem opPow_int : opPow (.int i) (.int j) R = ((0 ≤ j ∧ j ≤ 1000000 ∧ i.natAbs < 2 ^ 64) ∧ R (.int (i ^ j.toNat))) := rfl
theorem opNeg_int : opNeg (.int i) R = R (.int (-i)) := rfl
theorem opLt_int : opLt (.int i) (.int j) R = R (.bl (decide (i < j))) := rfl
theorem opLe_int : opLe (.int i) (.int j) R = R (.bl (decide (i ≤ j))) := rfl
theorem opGt_int : opGt (.int i) (.int j) R = R (.bl (decide (j < i))) := rfl
theorem opGe_int : opGe (.int i) (.int j) R = R (.bl (decide (j ≤ i))) := rfl
theorem opIx_lst : opIx (.lst xs) (.int i) R = ∃ d, atI xs i = some d ∧ R d := rfl
theorem opIx_tup : opIx (.tup xs) (.int i) R = ∃ d, atI xs i = some d ∧ R d := rfl
theorem opIx_str : opIx (.str s) (.int i) R = (s.length ≤ sizeLine ∧ ∃ c, atI s.cps.toList i = some c ∧ R (.str ⟨#[c]⟩)) := rfl
theorem opSl_lst {lo hi : Option Int} : opSl (.lst xs) lo hi R = R (.lst (cutD xs lo hi)) := rfl
theorem opSl_tup {lo hi : Option Int} : opSl (.tup xs) lo hi R = R (.tup (cutD xs lo hi)) := rfl
theorem opSl_str {lo hi : Option Int} : opSl (.str s) lo hi R = (s.length ≤ sizeLine ∧ R (.str (cutS s lo hi))) := rfl
theorem asB_bl {Q : Bool → Prop} : asB Q (.bl b) = Q b := rfl
theorem asI_int {Q : Int → Prop} : asI Q (.int i) = Q i := rfl
theorem asL_lst {Q : List D → Prop} : asL Q (.lst xs) = Q xs := rfl
theorem asLT_lst {Q : List D → Prop} : asLT Q (.lst xs) = Q xs := rfl
theorem asLT_tup {Q : List D → Prop} : asLT Q (.tup xs) = Q xs := rfl
theorem fLen_lst : fLen [.lst xs] R = R (.int (xs.length : Nat)) := rfl
theorem fLen_tup : fLen [.tup xs] R = R (.int (xs.length : Nat)) := rfl
theorem fLen_str : fLen [.str s] R = (s.length ≤ sizeLine ∧ R (.int (s.length : Nat))) := rfl
theorem fInt_int : fInt [.int i] R = R (.int i) := rfl
theorem fInt_bl : fInt [.bl b] R = R (.int (if b then 1 else 0)) := rfl
theorem fAbs_int : fAbs [.int i] R = R (.int (if i < 0 then -i else i)) := rfl
theorem fMin2_int : fMin2 [.int i, .int j] R = R (.int (if j < i then j else i)) := rfl
theorem fMax2_int : fMax2 [.int i, .int j] R = R (.int (if j > i then j else i)) := rfl
theorem fSum_lst : fSum [.lst xs] R = ∃ ns, asInts xs = some ns ∧ R (.int ns.sum) := rfl
theorem fAny_lst : fAny [.lst xs] R = ∃ ns, asBls xs = some ns ∧ R (.bl (ns.any _root_.id)) := rfl
theorem fAll_lst : fAll [.lst xs] R = ∃ ns, asBls xs = some ns ∧ R (.bl (ns.all _root_.id)) := rfl
theorem fTuple_lst : fTuple [.lst xs] R = R (.tup xs) := rfl
theorem fTuple_tup : fTuple [.tup xs] R = R (.tup xs) := rfl
/-- isinstance of built-in types, answered -/
theorem fIsi_1 {n : String} {bb : Bool} (h : n ∈ tys) (e : x.isi n = some bb) : fIsi [x, .ty n] R = R (.bl bb) := by
  refine propext ⟨fun t => ?_, fun t => ⟨h, bb, e, t⟩⟩
  obtain ⟨_, b2, e2, t⟩ := t
  rw [e] at e2
  cases e2
  exact t
theorem fIsi_2 {n m : String} {bb bc : Bool} (h : n ∈ tys) (h2 : m ∈ tys) (e : x.isi n = some bb) (e2 : x.isi m = some bc) : fIsi [x, .tup [.ty n, .ty m]] R = R (.bl (bb || bc)) := by
  refine propext ⟨fun t => ?_, fun t => ⟨h, h2, bb, bc, e, e2, t⟩⟩
  obtain ⟨_, _, b2, b3, e3, e4, t⟩ := t
  rw [e] at e3
  rw [e2] at e4
  cases e3
  cases e4
  exact t
theorem xVar_at {n : Nat} (h : env[n]? = some (some (.val d))) : xVar n env R Rx = R d := by
  refine propext ⟨fun ⟨d', e, t⟩ => ?_, fun t => ⟨d, h, t⟩⟩
  rw [h] at e
  cases e
  exact t
theorem xVar_0 {l : En} : xVar 0 (some (.val d) :: l) R Rx = R d := xVar_at rfl
theorem xVar_s {n : Nat} {o : Option DV} {l : En} : xVar (n + 1) (o :: l) R Rx = xVar n l R Rx := rfl
theorem put_0 {o : Option DV} {l : En} : put 0 d (o :: l) = some (.val d) :: l := rfl
theorem put_s {n : Nat} {o : Option DV} {l : En} : put (n + 1) d (o :: l) = o :: put n d l := rfl
theorem putO_0 {o : Option DV} {l : En} : putO' 0 xs (o :: l) = some (.own xs) :: l := rfl
theorem putO_s {n : Nat} {o : Option DV} {l : En} : putO' (n + 1) xs (o :: l) = o :: putO' n xs l := rfl
end
section
variable {R : D → Prop} {i : Int} {b : Bool} {s : Str} {xs : List D}
theorem isi_non_int : fIsi [.non, .ty "int"] R = R (.bl false) := fIsi_1 (by decide) rfl
theorem isi_non_bool : fIsi [.non, .ty "bool"] R = R (.bl false) := fIsi_1 (by decide) rfl
theorem isi_non_str : fIsi [.non, .ty "str"] R = R (.bl false) := fIsi_1 (by decide) rfl
theorem isi_non_list : fIsi [.non, .ty "list"] R = R (.bl false) := fIsi_1 (by decide) rfl
theorem isi_non_tuple : fIsi [.non, .ty "tuple"] R = R (.bl false) := fIsi_1 (by decide) rfl
theorem isi_non_lt : fIsi [.non, .tup [.ty "list", .ty "tuple"]] R = R (.bl false) := fIsi_2 (bb := false) (bc := false) (n := "list") (m := "tuple") (by decide) (by decide) rfl rfl
theorem isi_bl_int : fIsi [(.bl b), .ty "int"] R = R (.bl true) := fIsi_1 (by decide) rfl
theorem isi_bl_bool : fIsi [(.bl b), .ty "bool"] R = R (.bl true) := fIsi_1 (by decide) rfl
theorem isi_bl_str : fIsi [(.bl b), .ty "str"] R = R (.bl false) := fIsi_1 (by decide) rfl
theorem isi_bl_list : fIsi [(.bl b), .ty "list"] R = R (.bl false) := fIsi_1 (by decide) rfl
theorem isi_bl_tuple : fIsi [(.bl b), .ty "tuple"] R = R (.bl false) := fIsi_1 (by decide) rfl
theorem isi_bl_lt : fIsi [(.bl b), .tup [.ty "list", .ty "tuple"]] R = R (.bl false) := fIsi_2 (bb := false) (bc := false) (n := "list") (m := "tuple") (by decide) (by decide) rfl rfl
theorem isi_int_int : fIsi [(.int i), .ty "int"] R = R (.bl true) := fIsi_1 (by decide) rfl
theorem isi_int_bool : fIsi [(.int i), .ty "bool"] R = R (.bl false) := fIsi_1 (by decide) rfl
theorem isi_int_str : fIsi [(.int i), .ty "str"] R = R (.bl false) := fIsi_1 (by decide) rfl
theorem isi_int_list : fIsi [(.int i), .ty "list"] R = R (.bl false) := fIsi_1 (by decide) rfl
theorem isi_int_tuple : fIsi [(.int i), .ty "tuple"] R = R (.bl false) := fIsi_1 (by decide) rfl
theorem isi_int_lt : fIsi [(.int i), .tup [.ty "list", .ty "tuple"]] R = R (.bl false) := fIsi_2 (bb := false) (bc := false) (n := "list") (m := "tuple") (by decide) (by decide) rfl rfl
theorem isi_str_int : fIsi [(.str s), .ty "int"] R = R (.bl false) := fIsi_1 (by decide) rfl
theorem isi_str_bool : fIsi [(.str s), .ty "bool"] R = R (.bl false) := fIsi_1 (by decide) rfl
theorem isi_str_str : fIsi [(.str s), .ty "str"] R = R (.bl true) := fIsi_1 (by decide) rfl
theorem isi_str_list : fIsi [(.str s), .ty "list"] R = R (.bl false) := fIsi_1 (by decide) rfl
theorem isi_str_tuple : fIsi [(.str s), .ty "tuple"] R = R (.bl false) := fIsi_1 (by decide) rfl
theorem isi_str_lt : fIsi [(.str s), .tup [.ty "list", .ty "tuple"]] R = R (.bl false) := fIsi_2 (bb := false) (bc := false) (n := "list") (m := "tuple") (by decide) (by decide) rfl rfl
theorem isi_lst_int : fIsi [(.lst xs), .ty "int"] R = R (.bl false) := fIsi_1 (by decide) rfl
theorem isi_lst_bool : fIsi [(.lst xs), .ty "bool"] R = R (.bl false) := fIsi_1 (by decide) rfl
theorem isi_lst_str : fIsi [(.lst xs), .ty "str"] R = R (.bl false) := fIsi_1 (by decide) rfl
theorem isi_lst_list : fIsi [(.lst xs), .ty "list"] R = R (.bl true) := fIsi_1 (by decide) rfl
theorem isi_lst_tuple : fIsi [(.lst xs), .ty "tuple"] R = R (.bl false) := fIsi_1 (by decide) rfl
theorem isi_lst_lt : fIsi [(.lst xs), .tup [.ty "list", .ty "tuple"]] R = R (.bl true) := fIsi_2 (bb := true) (bc := false) (n := "list") (m := "tuple") (by decide) (by decide) rfl rfl
theorem isi_tup_int : fIsi [(.tup xs), .ty "int"] R = R (.bl false) := fIsi_1 (by decide) rfl
theorem isi_tup_bool : fIsi [(.tup xs), .ty "bool"] R = R (.bl false) := fIsi_1 (by decide) rfl
theorem isi_tup_str : fIsi [(.tup xs), .ty "str"] R = R (.bl false) := fIsi_1 (by decide) rfl
theorem isi_tup_list : fIsi [(.tup xs), .ty "list"] R = R (.bl false) := fIsi_1 (by decide) rfl
theorem isi_tup_tuple : fIsi [(.tup xs), .ty "tuple"] R = R (.bl true) := fIsi_1 (by decide) rfl
theorem isi_tup_lt : fIsi [(.tup xs), .tup [.ty "list", .ty "tuple"]] R = R (.bl true) := fIsi_2 (bb := false) (bc := true) (n := "list") (m := "tuple") (by decide) (by decide) rfl rfl
end
/-- data of at most n levels, each list within bounds -/
def Good : Nat → D → Prop
  | n + 1, .lst xs => xs.length ≤ 100000 ∧ ∀ x ∈ xs, Good n x
  | n + 1, .tup xs => xs.length ≤ 100000 ∧ ∀ x ∈ xs, Good n x
  | _ + 1, .non => True
  | _ + 1, .bl _ => True
  | _ + 1, .int _ => True
  | _ + 1, .str _ => True
  | _, _ => False
theorem datL_of {xs : List D} (h : ∀ x ∈ xs, x.dat = true) : datL xs = true := by
  induction xs with
  | nil => rfl
  | cons x xs ih =>
    show (x.dat && datL xs) = true
    rw [h x (List.mem_cons_self ..), ih fun y hy => h y (List.mem_cons_of_mem _ hy)]
    rfl
theorem depL_of {n : Nat} {xs : List D} (h : ∀ x ∈ xs, x.dep ≤ n) : depL xs ≤ n := by
  induction xs with
  | nil => exact Nat.zero_le _
  | cons x xs ih =>
    show max x.dep (depL xs) ≤ n
    have h1 := h x (List.mem_cons_self ..)
    have h2 := ih fun y hy => h y (List.mem_cons_of_mem _ hy)
    omega
theorem good_dat : ∀ {n : Nat} {d : D}, Good n d → d.dat = true ∧ d.dep ≤ n
  | 0, d, h => by cases d <;> exact (show False from h).elim
  | n + 1, d, h => by
    cases d <;> first
      | exact (show False from h).elim
      | exact ⟨rfl, by simp [D.dep]⟩
      | exact ⟨datL_of fun x hx => (good_dat (h.2 x hx)).1, by
          have : depL _ ≤ n := depL_of fun x hx => (good_dat (h.2 x hx)).2
          simp only [D.dep]
          omega⟩
theorem good_non {n : Nat} : Good (n + 1) .non = True := rfl
theorem good_bl {n : Nat} {b : Bool} : Good (n + 1) (.bl b) = True := rfl
theorem good_int {n : Nat} {i : Int} : Good (n + 1) (.int i) = True := rfl
theorem good_str {n : Nat} {s : Str} : Good (n + 1) (.str s) = True := rfl
theorem good_ints {n : Nat} {ns : List Int} (h : ns.length ≤ 100000) : Good (n + 2) (.lst (ns.map D.int)) := ⟨by rw [List.length_map]; exact h, fun x hx => by
  obtain ⟨i, _, rfl⟩ := List.mem_map.mp hx
  trivial⟩
/-- the words of comprehensions -/
def LcP (xs : List D) (G : DG) (Tt : DTT) (Te : DT) (vs : List Nat) (env : En) (R : List D → Prop) : Prop := ∃ I : Nat → List D → Prop, I 0 [] ∧
  (∀ i d acc, xs[i]? = some d → I i acc → G d (inner vs env) fun env' => Tt env' (fun b => (b = true → Te env' (fun y => acc.length < sizeLine ∧ I (i + 1) (acc ++ [y])) noX) ∧ (b = false → I (i + 1) acc)) noX) ∧
  ∀ acc, I xs.length acc → R acc
theorem xLcF_is {Ti : DTI} {G : DG} {Tt : DTT} {Te : DT} {vs : List Nat} {env : En} {R : List D → Prop} {Rx : Er → Prop} : xLcF Ti G Tt Te vs env R Rx = Ti env (fun xs => LcP xs G Tt Te vs env R) Rx := rfl
theorem take_succ_map {α β : Type} {xs : List α} {i : Nat} {d : α} (f : α → β) (e : xs[i]? = some d) : (xs.take (i + 1)).map f = (xs.take i).map f ++ [f d] := by
  rw [List.take_succ, e]
  simp
theorem LcP.map {xs : List D} {G : DG} {Te : DT} {vs : List Nat} {env : En} {R : List D → Prop} (f : D → D) (hz : xs.length ≤ sizeLine) (h : ∀ (i : Nat) (d : D) (N : D → Prop), xs[i]? = some d → N (f d) → G d (inner vs env) fun env' => Te env' N noX) (k : R (xs.map f)) :
    LcP xs G xYes Te vs env R := by
  refine ⟨fun i acc => acc = (xs.take i).map f, by simp, fun i d acc e hI => ?_, fun acc hI => by rw [hI, List.take_length]; exact k⟩
  have hi := (List.getElem?_eq_some_iff.mp e).1
  have key := h i d (fun y => acc.length < sizeLine ∧ acc ++ [y] = (xs.take (i + 1)).map f) e ⟨by rw [hI, List.length_map, List.length_take]; omega, by rw [hI, take_succ_map f e]⟩
  have e1 : (fun env' => xYes env' (fun b => (b = true → Te env' (fun y => acc.length < sizeLine ∧ acc ++ [y] = (xs.take (i + 1)).map f) noX) ∧ (b = false → acc = (xs.take (i + 1)).map f)) noX) = fun env' => Te env' (fun y => acc.length < sizeLine ∧ acc ++ [y] = (xs.take (i + 1)).map f) noX := by
    funext env'
    refine propext ⟨fun t => t.1 rfl, fun t => ⟨fun _ => t, fun z => nomatch z⟩⟩
  rw [e1]
  exact key
theorem LcP.filter {xs : List D} {G : DG} {Tt : DTT} {Te : DT} {vs : List Nat} {env : En} {R : List D → Prop} (p : D → Bool) (f : D → D) (hz : xs.length ≤ sizeLine)
    (h : ∀ (i : Nat) (d : D) (N : D → Prop) (M : Prop), xs[i]? = some d → (p d = true → N (f d)) → (p d = false → M) → G d (inner vs env) fun env' => Tt env' (fun b => (b = true → Te env' N noX) ∧ (b = false → M)) noX) (k : R ((xs.filter p).map f)) : LcP xs G Tt Te vs env R := by
  refine ⟨fun i acc => acc = ((xs.take i).filter p).map f, by simp, fun i d acc e hI => ?_, fun acc hI => by rw [hI, List.take_length]; exact k⟩
  have hi := (List.getElem?_eq_some_iff.mp e).1
  have e2 : xs.take (i + 1) = xs.take i ++ [d] := by rw [List.take_succ, e]; rfl
  refine h i d _ _ e (fun hp => ⟨?_, ?_⟩) fun hp => ?_
  · rw [hI, List.length_map]
    have := List.length_filter_le p (xs.take i)
    rw [List.length_take] at this
    omega
  · show acc ++ [f d] = ((xs.take (i + 1)).filter p).map f
    rw [hI, e2, List.filter_append]
    simp [hp]
  · show acc = ((xs.take (i + 1)).filter p).map f
    rw [hI, e2, List.filter_append]
    simp [hp]
/-- the items are not told, but what is true of them -/
theorem LcP.all {xs : List D} {G : DG} {Te : DT} {vs : List Nat} {env : En} {R : List D → Prop} (Pd : D → Prop) (hz : xs.length ≤ sizeLine) (h : ∀ (i : Nat) (d : D) (N : D → Prop), xs[i]? = some d → (∀ y, Pd y → N y) → G d (inner vs env) fun env' => Te env' N noX)
    (k : ∀ acc : List D, acc.length = xs.length → (∀ y ∈ acc, Pd y) → R acc) : LcP xs G xYes Te vs env R := by
  refine ⟨fun i acc => acc.length = i ∧ ∀ y ∈ acc, Pd y, ⟨rfl, fun y hy => nomatch hy⟩, fun i d acc e ⟨h1, h2⟩ => ?_, fun acc ⟨h1, h2⟩ => k acc h1 h2⟩
  have hi := (List.getElem?_eq_some_iff.mp e).1
  have key := h i d (fun y => acc.length < sizeLine ∧ (acc ++ [y]).length = i + 1 ∧ ∀ z ∈ acc ++ [y], Pd z) e fun y hy => ⟨by omega, by simp [h1], fun z hz => by
    rcases List.mem_append.mp hz with q | q
    · exact h2 z q
    · rw [List.mem_singleton.mp q]; exact hy⟩
  have e1 : (fun env' => xYes env' (fun b => (b = true → Te env' (fun y => acc.length < sizeLine ∧ (acc ++ [y]).length = i + 1 ∧ ∀ z ∈ acc ++ [y], Pd z) noX) ∧ (b = false → acc.length = i + 1 ∧ ∀ y ∈ acc, Pd y)) noX) = fun env' => Te env' (fun y => acc.length < sizeLine ∧ (acc ++ [y]).length = i + 1 ∧ ∀ z ∈ acc ++ [y], Pd z) noX := by
    funext env'
    refine propext ⟨fun t => t.1 rfl, fun t => ⟨fun _ => t, fun z => nomatch z⟩⟩
  rw [e1]
  exact key
theorem ints_of {P : Int → Prop} : ∀ {acc : List D}, (∀ y ∈ acc, ∃ n, y = .int n ∧ P n) → ∃ ns : List Int, acc = ns.map D.int ∧ ∀ n ∈ ns, P n
  | [], _ => ⟨[], rfl, fun n h => nomatch h⟩
  | y :: acc, h => by
    obtain ⟨n, rfl, hp⟩ := h y (List.mem_cons_self ..)
    obtain ⟨ns, rfl, hn⟩ := ints_of (acc := acc) fun z hz => h z (List.mem_cons_of_mem _ hz)
    exact ⟨n :: ns, rfl, fun m hm => by
      rcases List.mem_cons.mp hm with e | e
      · rw [e]; exact hp
      · exact hn m e⟩
/-- a word for a loop -/
theorem sm_ofF {E : XK} {t : TE} {T : DTF} (s : SmF E t T) : Sm E t (xF T) := fun c σ H S env R Rx x k t Q q => s c σ H S env _ Rx x k t Q fun p vs H1 S1 ds k1 s1 n0 f n2 e1 l1 r1 => by
  obtain ⟨k2, s2, r2⟩ := k1.freeze n2 n0 e1 l1 f
  exact q _ H1 _ _ k2 (s1.trans s2) r2 r1
section
variable {X : Cx} {E : XK} {elt tg iter : Expr} {ifs : List Expr} {scope : Scope} {own : List (Str × Nat)} {pos : Pos} {Ti : DTI} {G : DG} {Tt : DTT} {Te : DT} {js : List Nat}
theorem s_setLc {i : Nat} {y : Str} {py spos : Pos} (hc : X.calm = true) (hN : X.N.Nodup) (hi : DI X E tg iter Ti) (ok : BlkOk X.N X.env.scope scope own) (hsub : ∀ j ∈ js, j ∈ own.map (·.2))
    (hg : ∀ (s : Shared) (H : Hp) (C : Addr) (cl : List (Str × Addr)) (fp : List Addr), DGt (X.blk s H scope (compEnvC scope cl C X.env) fp) tg G js)
    (ht : ∀ (s : Shared) (H : Hp) (C : Addr) (cl : List (Str × Addr)) (fp : List Addr), DTs (X.blk s H scope (compEnvC scope cl C X.env) fp) E0 ifs Tt)
    (he : ∀ (s : Shared) (H : Hp) (C : Addr) (cl : List (Str × Addr)) (fp : List Addr), DE (X.blk s H scope (compEnvC scope cl C X.env) fp) E0 elt Te)
    (hy : X.N[i]? = some y := by rfl) (hyl : X.env.scope.names.lookup y = some .local := by rfl)
    (hsw : swapsWith (.ListComp elt [⟨tg, iter, ifs, 0⟩] scope pos) (some (.Name y py)) spos.line X.env = pure true := by exact sw_true rfl rfl rfl (by decide +kernel))
    (hs : ∀ x, foldedSetIterable iter X.env x = pure x := by intro _; rfl) : DS X E (.Assign [.Name y py] (.ListComp elt [⟨tg, iter, ifs, 0⟩] scope pos) spos) (zAsg (xF (xLcF Ti G Tt Te (own.map (·.2)))) (yName i)) := by
  obtain ⟨wi, p, s⟩ := hi
  exact ⟨_, ps_setLc hc hN hy hyl hsw p ok (fun s H C cl fp => pg_can (hg s H C cl fp)) (fun s H C cl fp => pts_can (ht s H C cl fp)) (fun s H C cl fp => pe_can (he s H C cl fp)) hs, smS_asg (sm_ofF (smF_lc hsub s)) (smG_name i)⟩
end
end DL
namespace DL
open PySem PySem.Spec L2
variable [TbC]
def gPerm (n m : Nat) (idx : List Nat) {α : Type} (us ws : List α) : List α := if us.length = n ∧ ws.length = m then idx.filterMap (fun i => (us ++ ws)[i]?) else []
theorem vals_pick {vs : List V} {us : List Value} (r : Vals vs us) : ∀ idx : List Nat, Vals (idx.filterMap fun i => vs[i]?) (idx.filterMap fun i => us[i]?)
  | [] => .nil
  | i :: idx => by
    cases e : vs[i]? with
    | none =>
      have e2 := Vals.none_of r e
      rw [List.filterMap_cons, List.filterMap_cons, e, e2]
      exact vals_pick r idx
    | some v =>
      obtain ⟨u, e2, q⟩ := Vals.get r e
      rw [List.filterMap_cons, List.filterMap_cons, e, e2]
      exact .cons q (vals_pick r idx)
theorem rep_pick {B : Option Addr} {S : Hp} {ds : List D} {vs : List V} (r : RepL B S ds vs) : ∀ idx : List Nat, RepL B S (idx.filterMap fun i => ds[i]?) (idx.filterMap fun i => vs[i]?)
  | [] => repL_nil
  | i :: idx => by
    cases e : ds[i]? with
    | none =>
      have hl := r.length
      have e2 : vs[i]? = none := by
        rw [List.getElem?_eq_none_iff] at e ⊢
        omega
      rw [List.filterMap_cons, List.filterMap_cons, e, e2]
      exact rep_pick r idx
    | some v =>
      obtain ⟨u, e2, q⟩ := RepL.get r e
      rw [List.filterMap_cons, List.filterMap_cons, e, e2]
      exact repL_cons q (rep_pick r idx)
theorem Df.kb {K : PySem.W.Frag} {mg : Str → Option Value} {x : Str} {st : Stmt} (Dx : Df K mg x st) {ps ks : List Str} (n m : Nat) (idx : List Nat) (hi : ps ≠ [])
    (h : ∀ (kV doc pm : Value) (an : Option Addr) (cdv ct : Value) (us ws : List Value), us.length = n → ws.length = m → bindArgs (PySem.W.fnOf x x (defArgs st) (defBody st) (defScope st) .none kV doc pm an cdv ct) ⟨us, ks.zip ws⟩ = pure (ps.zip (gPerm n m idx us ws))) :
    KBd K Dx.fd ps ks (gPerm n m idx) where
  to := fun s us ws X hl => by
    obtain ⟨oc, od, dV, kV, doc, pm, an, cdv, ct, osl, e, lk, hcd, hD, hK⟩ := Dx.F.ex
    rcases hD with ⟨_, rfl⟩ | ⟨z, _⟩
    · rw [e]
      by_cases hz : us.length = n ∧ ws.length = m
      · exact .of_eq (h _ _ _ _ _ _ us ws hz.1 hz.2)
      · unfold gPerm at hl
        rw [if_neg hz] at hl
        exact absurd (List.length_eq_zero_iff.mp hl.symm) hi
    · exact absurd rfl z
  rel := fun {vs us zs ws} r1 r2 => by
    unfold gPerm
    rw [r1.length, r2.length]
    split
    · exact vals_pick (r1.append r2) idx
    · exact .nil
  rep := fun {B S xs zs vs ws} r1 r2 => by
    unfold gPerm
    rw [r1.length, r2.length]
    split
    · exact rep_pick (r1.app r2) idx
    · exact repL_nil
end DL
namespace DL
open PySem PySem.Spec L2
variable [TbC]
def D.flat : D → Bool
  | .non | .bl _ | .int _ | .str _ | .ty _ => true
  | _ => false
def flatL (ds : List D) : Bool := ds.all D.flat
theorem flat_rep {B : Option Addr} {S S' : Hp} {d : D} {v : V} (h : d.flat = true) (r : Rep B S d v) : Rep B S' d v := by
  cases d <;> first | exact (Bool.false_ne_true h).elim | exact r
theorem flatL_rep {B : Option Addr} {S S' : Hp} : ∀ {ds : List D} {vs : List V}, flatL ds = true → RepL B S ds vs → RepL B S' ds vs
  | [], _, _, r => r
  | d :: ds, _, h, r => by
    obtain ⟨v, ws, rfl, r1, l⟩ := repL_cons_of r
    have h : (d.flat && flatL ds) = true := h
    rw [Bool.and_eq_true] at h
    exact repL_cons (flat_rep h.1 r1) (flatL_rep h.2 l)
theorem flatL_nil : flatL [] = true := rfl
theorem flatL_cons {d : D} {ds : List D} : flatL (d :: ds) = (d.flat && flatL ds) := rfl
theorem flatL_app {xs ys : List D} : flatL (xs ++ ys) = (flatL xs && flatL ys) := List.all_append
theorem flatL_of {ds : List D} (h : ∀ d ∈ ds, d.flat = true) : flatL ds = true := List.all_eq_true.mpr h
theorem flatL_map {α : Type} {f : α → D} {xs : List α} (h : ∀ x, (f x).flat = true) : flatL (xs.map f) = true := flatL_of fun d hd => by
  obtain ⟨x, _, rfl⟩ := List.mem_map.mp hd
  exact h x
/-- N: parts of H that are not of S, not of the frame's past, no name's own -/
def Reg (c : Fm) (σ : St) (env : En) (H S N : Hp) : Prop := ∀ a o, N a = some o → H a = some o ∧ S a = none ∧ c.H0 a = none ∧ Free σ env a
def uni (S N : Hp) : Hp := fun a => match S a with
  | some o => some o
  | none => N a
theorem uni_l {S N : Hp} : Same S (uni S N) := fun a o e => by unfold uni; rw [e]
theorem uni_r {c : Fm} {σ : St} {env : En} {H S N : Hp} (g : Reg c σ env H S N) : Same N (uni S N) := fun a o e => by
  unfold uni
  rw [(g a o e).2.1]
  exact e
theorem uni_of {S N : Hp} {a : Addr} {o : HO} (e : uni S N a = some o) : S a = some o ∨ (S a = none ∧ N a = some o) := by
  unfold uni at e
  split at e
  · exact .inl (by rw [← e]; assumption)
  · exact .inr ⟨by assumption, e⟩
section
variable {c : Fm} {σ : St} {H H' S S' N : Hp} {env : En} {p : Addr} {vs : List V} {ds : List D}
theorem Kn.uni (k : Kn c σ H S env) (g : Reg c σ env H S N) : Kn c σ H (uni S N) env := by
  have hs : ∀ a, S a = none → N a = none → DL.uni S N a = none := fun a e e2 => by unfold DL.uni; rw [e]; exact e2
  refine ⟨⟨fun a o e => ?_, k.kf.s0.trans uni_l, k.kf.old, fun a e n => ?_, fun b eb => ?_, ⟨fun p hp => ⟨(k.kf.tab.1 p hp).1, hs _ (k.kf.tab.1 p hp).2 (by
    cases en : N p.1 with
    | none => rfl
    | some o => exact absurd (g _ o en).2.2.1 (k.kf.tab.2 p hp))⟩, k.kf.tab.2⟩⟩, k.len, fun j x e => ?_, k.apart⟩
  · rcases uni_of e with e | ⟨_, e⟩
    · exact k.kf.sub a o e
    · exact (g a o e).1
  · refine hs a (k.kf.new a e n) ?_
    cases en : N a with
    | none => rfl
    | some o => exact absurd (g a o en).2.2.1 n.1
  · obtain ⟨⟨b1, cs, i, gg, st, n, b2, b3, b4⟩, b5⟩ := k.kf.bag b eb
    refine ⟨⟨hs b b1 ?_, cs, i, gg, st, n, b2, uni_l _ _ b3, b4⟩, b5⟩
    cases en : N b with
    | none => rfl
    | some o => exact absurd (g b o en).2.2.1 b5
  · obtain ⟨v, ev, r⟩ := k.sl j x e
    refine ⟨v, ev, r.keep rfl uni_l fun a fa => ?_⟩
    obtain ⟨f1, f2, _⟩ := r.foot a fa
    refine ⟨hs a f1 ?_, f2, fun _ e => e⟩
    cases en : N a with
    | none => rfl
    | some o => exact absurd fa ((g a o en).2.2.2 j x v e ev)
theorem Reg.nil : Reg c σ env H S (fun _ => none) := fun a o e => nomatch e
theorem Reg.new {c : Fm} (g : Reg c σ env H S N) : Same N (newH c.H0 (DL.uni S N)) := fun a o e => by
  rw [newH_of (g a o e).2.2.1]
  exact uni_r g a o e
end
/-- an expression whose value is made of new parts -/
def SmN (E : XK) (t : TE) (T : DT) : Prop := ∀ (c : Fm) (σ : St) (H S : Hp) (env : En) (R : D → Prop) (Rx : Er → Prop), XOk c E Rx → Kn c σ H S env → T env R Rx →
  ∀ Q : VK, (∀ v H' S' N d, Kn c σ H' S' env → Same S S' → Reg c σ env H' S' N → Rep c.B N d v → R d → Q v H') → t σ H Q
def DN (X : Cx) (E : XK) (e : Expr) (T : DT) : Prop := ∃ t, PE X e t ∧ SmN E t T
section
variable {X : Cx} {E : XK} {e a b : Expr} {es : List Expr} {T Ta Tb : DT} {TF : DTF} {Tl : DTA} {p pos : Pos}
theorem sm_ofN {t : TE} (s : SmN E t T) : Sm E t T := fun c σ H S env R Rx x k h Q q => s c σ H S env R Rx x k h Q fun v H1 S1 N d k1 s1 g r t1 =>
  q v H1 (uni S1 N) d (k1.uni g) (s1.trans uni_l) (rep_mono (uni_r g) d v r) t1
theorem d_ofN (h : DN X E e T) : DE X E e T := by
  obtain ⟨t, p, s⟩ := h
  exact ⟨t, p, sm_ofN s⟩
/-- .. a list of its own -/
def xNF (T : DT) : DTF := fun env R Rx => T env (fun d => match d with
  | .lst ds => flatL ds = true ∧ R ds
  | _ => False) Rx
/-- a new list of flat data -/
def xFN (T : DTF) : DT := fun env R Rx => T env (fun ds => flatL ds = true ∧ R (.lst ds)) Rx
theorem n_ofF (h : DF X E e TF) : DN X E e (xFN TF) := by
  obtain ⟨t, p, s⟩ := h
  refine ⟨t, p, fun c σ H S env R Rx x k h Q q => s c σ H S env _ Rx x k h Q fun p vs H1 S1 ds k1 s1 n0 f n2 e1 l1 r1 => ?_⟩
  refine q _ H1 S1 (upd (fun _ => none) p (.lst vs)) (.lst ds) k1 s1 (fun a o e => ?_) ⟨p, vs, rfl, upd_same, flatL_rep r1.1 l1⟩ r1.2
  by_cases z : a = p
  · subst z
    rw [upd_same] at e
    cases e
    exact ⟨e1, n2, n0, f⟩
  · rw [upd_ne z] at e
    cases e
/-- flat data -/
def xFl (T : DT) : DT := fun env R Rx => T env (fun d => d.flat = true ∧ R d) Rx
def zRetNew (T : DT) : DTS := fun Q env => T env (Q.rt .nw) Q.ex
theorem s_retNew (h : DN X E e T) : DS X E (.Return (some e) pos) (zRetNew T) := by
  obtain ⟨t, p, s⟩ := h
  exact ⟨_, ps_ret p, fun c σ H S env Q x k t D m => s c σ H S env _ _ x k t _ fun v H1 S1 N d k1 s1 g r t1 => m.2.1 .nw v H1 (uni S1 N) d (k1.uni g).kf (s1.trans uni_l) (rep_mono g.new d v r) t1⟩
def zRetO (i : Nat) : DTS := fun Q env => ∃ xs, env[i]? = some (some (.own xs)) ∧ flatL xs = true ∧ Q.rt .nw (.lst xs)
theorem s_retO (i : Nat) {x : Str} {p2 : Pos} (hN : X.N[i]? = some x := by rfl) (hv : Vis X.env.scope x := by first | exact Or.inl rfl | exact Or.inr (Or.inl rfl) | exact Or.inr (Or.inr rfl)) (hd : (x == ("__debug__" : Str)) = false := by decide)
    (hcd : (x == ("__classdict__" : Str)) = false := by decide) : DS X E (.Return (some (.Name x p2)) pos) (zRetO i) := by
  refine ⟨_, ps_ret (pv i hN hv hd hcd), fun c σ H S env Q x k t D m => ?_⟩
  obtain ⟨xs, e, hf, t⟩ := t
  obtain ⟨p, vs, e1, h1, h2, h3, l⟩ := own_of k e
  refine ⟨_, e1, ?_⟩
  have hs : Same S (upd S p (.lst vs)) := same_upd h1
  have kf : Kf c H (upd S p (.lst vs)) := by
    refine ⟨fun a o ea => ?_, k.kf.s0.trans hs, k.kf.old, fun a ea n => ?_, fun b eb => ?_, ⟨k.kf.tab.1.frz h3, k.kf.tab.2⟩⟩
    · by_cases z : a = p
      · subst z
        rw [upd_same] at ea
        rw [h3]
        exact ea
      · rw [upd_ne z] at ea
        exact k.kf.sub a o ea
    · rw [upd_ne (fun z => n.1 (by rw [z]; exact h2))]
      exact k.kf.new a ea n
    · obtain ⟨⟨b1, cs, i, g, st, n, b2, b3, b4⟩, b5⟩ := k.kf.bag b eb
      refine ⟨⟨?_, cs, i, g, st, n, b2, hs _ _ b3, b4⟩, b5⟩
      rw [upd_ne (fun z => b5 (by rw [z]; exact h2))]
      exact b1
  exact m.2.1 .nw (.ref p) H _ (.lst xs) kf hs ⟨p, vs, rfl, by show newH c.H0 _ p = _; rw [newH_of h2, upd_same], flatL_rep hf l⟩ t
end
def spN (F : Spec) : Sp := fun vs H Q E => ∃ (c : Fm) (S : Hp) (ds : List D) (R : D → Prop) (Rx : Er → Prop), c.H0 = H ∧ c.S0 = S ∧ Kf c H S ∧ RepL c.B S ds vs ∧ F ds R Rx ∧ (∀ v H' S' d, Kf c H' S' → Rep c.B (newH H S') d v → R d → Q v H') ∧ XOk c E Rx
section
variable {P : Program} {w : World} {K : PySem.W.Frag} {mg : Str → Option Value} {base : Heap} {x qual : Str} {st : Stmt} {dvs : List V} {kws : List (Str × V)} {f : Addr} {fd : FuncData} {N ps : List Str} {k : Nat} {F : Spec} {CX : CXT}
theorem fn_n {T : DTS} (Fd : FnS K x qual st dvs kws f fd) (S : FnScope N ps (defScope st)) (len : ∀ ds R Rx, F ds R Rx → ds.length = ps.length)
    (hbody : ∀ (cdv : Value) (A : Around) (outer : List Env) (s : Shared) (H : Hp) (E : XK), Room k (A.deeper (PyProof.Rows.envOfC qual (defScope st) s.heap.objs.size f cdv)) →
      DSs (cxOf (L2.CX P w) P w K mg base N qual (defScope st) f cdv A outer s H E) E (defBody st) T)
    (hT : ∀ ds R Rx, F ds R Rx → T { nx := fun _ => R .non, rt := fun n d => (n = .nw ∨ d.flat = true) ∧ R d, ex := Rx } (startE N ds)) : FnOk P w K mg base (L2.CX P w) (k + 1) f fd ps (spN F) := by
  refine FunD.ok Fd S (fun vs H Q E ⟨c, S, ds, R, Rx, _, _, _, l, h, _⟩ => by rw [l.length]; exact len _ _ _ h) fun cdv A outer s H vs Q E hr hsp => ?_
  obtain ⟨c, Sh, ds, R, Rx, h0, hs0, kf, l, h, q, xo⟩ := hsp
  obtain ⟨t, p, sm⟩ := hbody cdv A outer s H E hr
  refine ⟨t, p, sm c _ H Sh _ _ xo (kn_start kf l) (hT ds R Rx h) _ ⟨fun σ H1 S1 env k1 s1 r1 => ?_, fun n v H1 S1 d k1 s1 r1 t1 => q v H1 S1 d k1 ?_ t1.2, fun σ H1 S1 env k1 s1 r1 => r1, fun σ H1 S1 env k1 s1 r1 => r1⟩⟩
  · exact q .non H1 S1 .non k1.kf rfl r1
  · cases n with
    | nw => rw [← h0]; exact r1
    | old => exact flat_rep (t1.1.resolve_left (fun z => nomatch z)) (show Rep _ _ d v from r1)
    | tr =>
      obtain ⟨S2, _, _, r2⟩ := r1.old k1
      exact flat_rep (t1.1.resolve_left (fun z => nomatch z)) r2
end
section
variable {X : Cx} {E : XK} {CX : CXT} {k n : Nat} {f : Addr} {fd : FuncData} {ps ks : List Str} {F : Spec} {dvs : List V} {dds : List D} {ds : List Value} {x : Str} {p pos : Pos} {e : Expr} {es : List Expr} {Tl Tk : DTA} {kws : List Keyword}
theorem sp_callN {c : Fm} {σ : St} {H S : Hp} {env : En} {vs : List V} {xs : List D} {R : D → Prop} {Rx : Er → Prop} {Q : VK} (kn : Kn c σ H S env) (x : XOk c E Rx) (l : RepL c.B S xs vs) (t : F xs R Rx)
    (q : ∀ v H' N d, Kn c σ H' S env → Reg c σ env H' S N → Rep c.B N d v → R d → Q v H') : spN F vs H Q E := by
  refine ⟨c.at H S, S, xs, R, Rx, rfl, rfl, kn.kf.at, l, t, fun v H' S' d k' r z => ?_, x.at kn.kf⟩
  have kS : Kf (c.at H S) H' S := ⟨k'.s0.trans k'.sub, Same.refl S, k'.old, fun a e _ => e, fun b eb => by
    obtain ⟨⟨b1, cs, i, g, st, n, b2, b3, b4⟩, b5⟩ := k'.bag b eb
    obtain ⟨⟨d1, cs', _, _, _, _, _, d3, _⟩, _⟩ := kn.kf.bag b eb
    have e3 : cs' = cs := by
      have z := k'.s0 _ _ d3
      have z2 : some (HO.lst (cs'.map V.int)) = some (HO.lst (cs.map V.int)) := z.symm.trans b3
      injection z2 with z2
      injection z2 with z2
      exact List.map_inj_right (fun _ _ h => by injection h) |>.mp z2
    subst e3
    exact ⟨⟨d1, cs', i, g, st, n, b2, d3, b4⟩, b5⟩, ⟨fun p hp => ⟨(k'.tab.1 p hp).1, (kn.kf.tab.1 p hp).2⟩, k'.tab.2⟩⟩
  refine q v H' (newH H S') d (kn.back kS) (fun a o e => ?_) r z
  obtain ⟨e1, e2⟩ := newH_some e
  exact ⟨k'.sub _ _ e2, kn.kf.s_none e1, kn.kf.h0_none e1, kn.free e1⟩
end
section
variable {X : Cx} {E : XK} {e : Expr} {es : List Expr} {Te : DT} {Tl : DTA} {p : Pos}
def xStar (Te : DT) (Tl : DTA) : DTA := fun env R Rx => Te env (asLT fun xs => Tl env (fun ys => R (xs ++ ys)) Rx) Rx
end
/-- the places of a slice -/
def pls (n : Nat) (lo hi st : Option Int) : List Nat := PySem.sliceRange (PySem.sliceBounds lo hi st n).1 (PySem.sliceBounds lo hi st n).2.1 (PySem.sliceBounds lo hi st n).2.2
def cut3 (xs : List D) (lo hi st : Option Int) : List D := (pls xs.length lo hi st).filterMap fun i => xs[i]?
def tSl3 (K : PySem.W.Frag) (te : TE) (tl th ts : TO) : TE := fun σ H Q => te σ H fun x H0 => tl σ H0 fun lo H1 => th σ H1 fun hi H2 => ts σ H2 fun st H3 => ∃ a xs, x = V.ref a ∧ SqL K H3 a xs ∧ st ≠ some 0 ∧ (pls xs.length lo hi st).length ≤ sizeLine ∧
  ∀ p, H3 p = none → Q (.ref p) (upd H3 p (.lst ((pls xs.length lo hi st).filterMap fun i => xs[i]?)))
section
variable {X : Cx} {E : XK} {e a : Expr} {te : TE} {tl th ts : TO} {lo hi : Option Expr} {st : Expr} {p2 pos : Pos} {Ta : DT} {Tl Th Ts : DTO}
theorem pe_slice3 (he : PE X e te) (hl : PO X lo tl) (hh : PO X hi th) (hs : PO X (some st) ts)
    (ht : ∀ o sl, subscripted (.Slice lo hi (some st) p2) false o sl = operate [o, sl] (getItem o sl) := by intro _ _; with_unfolding_all rfl) : PE X (.Subscript e (.Slice lo hi (some st) p2) pos) (tSl3 X.K te tl th ts) := by
  refine ⟨fun pins s σ H Q I h => ?_⟩
  refine PyProof.Rows.Subscript_ (thn (he.run pins s σ H _ I h) fun v s1 ⟨x, H1, I1, r1, q1⟩ => ?_)
  refine wpAny_Slice (thn (hl.run pins s1 σ H1 _ I1 q1) fun vl s2 ⟨l, H2, I2, pl, q2⟩ => ?_)
  refine thn (hh.run pins s2 σ H2 _ I2 q2) fun vu s3 ⟨u, H3, I3, pu, q3⟩ => ?_
  refine thn (hs.run pins s3 σ H3 _ I3 q3) fun vs s4 ⟨o, H4, I4, ps, a, xs, ex, hx, h0, hn, q⟩ => ?_
  subst ex
  cases r1
  have I5 : Inv X pins σ H4 { s4 with heap := s4.heap.push { cls := .type "slice", data := .fields #[vl, vu, vs] } } := I4.kept (t' := s4.toks) fun b ob q => Heap.get?_push_of_some _ q
  obtain ⟨its, r, hti, hz⟩ := I5.list hx
  have hlen := r.length
  refine PyProof.Rows.tail_any (ops := [.ref a, .ref s4.heap.objs.size]) hti.isList.typeIs (PySem.slot_list_getitem.lookup) ?_ (ht _ _)
  refine wpAny_getItem_list_slice hti.isList (Heap.IsSliceOf.new _ vl vu vs) pl pu ps h0 ?_ (by rw [List.size_toArray]; omega)
  have e1 : slicePick its.toArray l u o = ((pls xs.length l u o).filterMap fun i => its[i]?).toArray := by
    unfold slicePick pls
    rw [List.size_toArray, ← hlen]
    simp
  rw [e1]
  have r2 : Vals ((pls xs.length l u o).filterMap fun i => xs[i]?) ((pls xs.length l u o).filterMap fun i => its[i]?) := vals_pick r _
  refine ⟨.ref _, _, I5.laid (t' := s4.toks) (o := .lst ((pls xs.length l u o).filterMap fun i => xs[i]?)) (fun b ob q => Heap.get?_push_of_some _ q) (Nat.le_refl _) ?_, rfl, q _ (I5.hok.fresh (Nat.le_refl _))⟩
  exact ⟨Nat.le_trans (List.length_filterMap_le _ _) hn, _, 0, r2, Heap.get?_push_size _ rfl⟩
def xSl3 (Ta : DT) (Tl Th Ts : DTO) : DTF := fun env R Rx => Ta env (asL fun xs => Tl env (fun lo => Th env (fun hi => Ts env (fun st => st ≠ some 0 ∧ (pls xs.length lo hi st).length ≤ sizeLine ∧ R (cut3 xs lo hi st)) Rx) Rx) Rx) Rx
theorem f_slice3 (ha : DE X E a Ta) (hl : DO X E lo Tl) (hh : DO X E hi Th) (hs : DO X E (some st) Ts)
    (ht : ∀ o sl, subscripted (.Slice lo hi (some st) p2) false o sl = operate [o, sl] (getItem o sl) := by intro _ _; with_unfolding_all rfl) : DF X E (.Subscript a (.Slice lo hi (some st) p2) pos) (xSl3 Ta Tl Th Ts) := by
  obtain ⟨ta, pa, sa⟩ := ha
  obtain ⟨tl, pl, sl⟩ := hl
  obtain ⟨th, ph, sh⟩ := hh
  obtain ⟨ts, ps, ss⟩ := hs
  refine ⟨_, pe_slice3 pa pl ph ps ht, fun c σ H S env R Rx x k t Q q => sa c σ H S env _ Rx x k t _ fun v H1 S1 d k1 s1 r1 t1 => ?_⟩
  cases d <;> try exact (show False from t1).elim
  rename_i xs
  refine sl c σ H1 S1 env _ Rx x k1 t1 _ fun lo H2 S2 k2 s2 t2 => sh c σ H2 S2 env _ Rx x k2 t2 _ fun hi H3 S3 k3 s3 t3 => ss c σ H3 S3 env _ Rx x k3 t3 _ fun st H4 S4 k4 s4 t4 => ?_
  obtain ⟨a, vs, e1, h1, _, l1⟩ := lst_of k4 (rep_mono ((s2.trans s3).trans s4) _ v r1)
  have l2 : RepL c.B S4 (cut3 xs lo hi st) ((pls vs.length lo hi st).filterMap fun i => vs[i]?) := by
    unfold cut3
    rw [l1.length]
    exact rep_pick l1 _
  refine ⟨a, vs, e1, SqL.of h1, t4.1, by rw [l1.length]; exact t4.2.1, fun p hp => ?_⟩
  obtain ⟨k5, n2, n0, f⟩ := putO k4 l2 hp
  exact q p _ _ S4 _ k5 (((s1.trans s2).trans s3).trans s4) n0 f n2 upd_same l2 t4.2.2
end
/-- backwards down to the place m -/
theorem pls_down {n : Nat} {hi : Option Int} {m : Nat} (hm : (PySem.sliceBounds none hi (some (-1)) n).2.1 = (m : Int) - 1) (hle : m ≤ n) : pls n none hi (some (-1)) = (List.range (n - m)).map fun k => n - 1 - k := by
  have b1 : (PySem.sliceBounds none hi (some (-1)) n).1 = (n : Int) - 1 := rfl
  have b3 : (PySem.sliceBounds none hi (some (-1)) n).2.2 = -1 := rfl
  unfold pls PySem.sliceRange
  rw [hm, b1, b3]
  have c1 : ¬ ((-1 : Int) > 0) := by decide
  simp only [c1, if_false]
  by_cases z : m = n
  · subst z
    simp
  · have c2 : (n : Int) - 1 > (m : Int) - 1 := by omega
    have c3 : (((n : Int) - 1 - ((m : Int) - 1) - -1 - 1) / - -1).toNat = n - m := by
      rw [show (- -1 : Int) = 1 by decide, Int.ediv_one]
      omega
    simp only [c2, if_true, c3]
    apply List.map_congr_left
    intro k hk
    have := List.mem_range.mp hk
    omega
theorem cut3_down {xs : List D} {hi : Option Int} {m : Nat} (hm : (PySem.sliceBounds none hi (some (-1)) xs.length).2.1 = (m : Int) - 1) (hle : m ≤ xs.length) : cut3 xs none hi (some (-1)) = (xs.drop m).reverse := by
  unfold cut3
  rw [pls_down hm hle, List.filterMap_map]
  apply List.ext_getElem?
  intro i
  have go : ∀ q : Nat, q ≤ xs.length → ((List.range q).filterMap ((fun i => xs[i]?) ∘ fun k => xs.length - 1 - k)) = (xs.drop (xs.length - q)).reverse := fun q => by
    induction q with
    | zero => intro _; simp
    | succ q ih =>
      intro hq
      rw [List.range_succ, List.filterMap_append, ih (by omega)]
      have hd : xs.drop (xs.length - (q + 1)) = xs[xs.length - (q + 1)] :: xs.drop (xs.length - q) := by
        rw [List.drop_eq_getElem_cons (by omega)]
        congr 2
        omega
      rw [hd, List.reverse_cons]
      congr 1
      have e : xs.length - 1 - q = xs.length - (q + 1) := by omega
      have e2 : ((fun i => xs[i]?) ∘ fun k => xs.length - 1 - k) q = some xs[xs.length - (q + 1)] := by
        show xs[xs.length - 1 - q]? = _
        rw [e]
        exact List.getElem?_eq_getElem (by omega)
      rw [List.filterMap_cons_some e2, List.filterMap_nil]
  rw [go _ (by omega)]
  congr 3
  omega
theorem cut3_rev (xs : List D) : cut3 xs none none (some (-1)) = xs.reverse := cut3_down (m := 0) rfl (Nat.zero_le _)
theorem cut3_rev0 {xs : List D} : cut3 xs none (some 0) (some (-1)) = (xs.drop 1).reverse := by
  by_cases z : xs.length = 0
  · have e : xs = [] := List.length_eq_zero_iff.mp z
    subst e
    rfl
  · refine cut3_down (m := 1) ?_ (by omega)
    show max (-1) (min (if (0 : Int) < 0 then _ else 0) ((xs.length : Int) - 1)) = _
    rw [if_neg (by decide)]
    omega
theorem pls_down_le {n : Nat} {hi : Option Int} {m : Nat} (hm : (PySem.sliceBounds none hi (some (-1)) n).2.1 = (m : Int) - 1) (hle : m ≤ n) : (pls n none hi (some (-1))).length = n - m := by
  rw [pls_down hm hle]
  simp
theorem pls_rev (n : Nat) : (pls n none none (some (-1))).length = n := pls_down_le (m := 0) rfl (Nat.zero_le _)
theorem pls_rev0 (n : Nat) : (pls n none (some 0) (some (-1))).length = n - 1 := by
  by_cases z : n = 0
  · subst z; rfl
  · refine pls_down_le (m := 1) ?_ (by omega)
    show max (-1) (min (if (0 : Int) < 0 then _ else 0) ((n : Int) - 1)) = _
    rw [if_neg (by decide)]
    omega
section
variable {X : Cx} {E : XK} {pos p1 : Pos} {a b : Expr} {T : DTF}
def zParC (i j : Nat) (T : DTF) (d : D) : DTS := fun Q env => T env (fun ds => Q.nx (put j d (putO' i ds env))) Q.ex
def zParV (i j : Nat) (Ta : DT) (T : DTF) : DTS := fun Q env => Ta env (fun d => T env (fun ds => Q.nx (putO' j ds (put i d env))) Q.ex) Q.ex
theorem s_parV {i j : Nat} {x y : Str} {Ta : DT} {px py pt : Pos} {kt k2 pt2} (hc : X.calm = true) (hN : X.N.Nodup) (ha : DE X E a Ta) (hb : DF X E b T) (hi : X.N[i]? = some x := by rfl) (hj : X.N[j]? = some y := by rfl) (hij : i ≠ j := by decide)
    (hx : X.env.scope.names.lookup x = some .local := by rfl) (hy : X.env.scope.names.lookup y = some .local := by rfl)
    (hw : swappedStores [.Tuple [.Name x px, .Name y py] kt pt] (.Tuple [a, b] k2 pt2) X.env = pure (some [x, y]) := by rfl)
    (hs : swapsWithSole [.Tuple [.Name x px, .Name y py] kt pt] (.Tuple [a, b] k2 pt2) pos.line X.env = pure false := by rfl)
    (h1 : starEach [a, b] X.env = (false, eval a X.env) :: starEach [b] X.env := by rfl) (h2 : starEach [b] X.env = (false, eval b X.env) :: starEach [] X.env := by rfl) :
    DS X E (.Assign [.Tuple [.Name x px, .Name y py] kt pt] (.Tuple [a, b] k2 pt2) pos) (zParV i j Ta T) := by
  obtain ⟨ta, pa, sa⟩ := ha
  obtain ⟨t, p, s⟩ := hb
  refine ⟨_, ps_par hc hN hi hj hij hx hy (pa_cons pa (pa_cons p pa_nil h2) h1) hw hs, fun c σ H S env Q x k t D m => sa c σ H S env _ _ x k t _ fun v H1 S1 d k1 s1 r1 t1 => ?_⟩
  refine s c σ H1 S1 env _ _ x k1 t1 _ fun p vs H2 S2 ds k2 s2 n0 f n2 e1 l1 t2 => ⟨v, _, rfl, ?_⟩
  have k3 := k2.set (i := i) (rep_mono s2 d v r1)
  refine m.1 _ H2 S2 _ (k3.setOwn n2 n0 e1 l1 fun q xs w eq e2 => ?_) (s1.trans s2) t2
  rcases get_set eq with ⟨_, z, _⟩ | ⟨z, eq⟩
  · cases z
    exact fun fz => fz
  · rw [List.getElem?_set_ne z] at e2
    exact f q xs w eq e2
end
end DL
namespace DL
open PySem PySem.Spec L2
variable [TbC]
def fld : List Str → List D → Str → Option D
  | k :: ks, x :: xs, f => if f = k then some x else fld ks xs f
  | _, _, _ => none
theorem fld_some {B : Option Addr} {S : Hp} {f : Str} : ∀ {ks : List Str} {xs : List D} {vs : List V} {x : D}, RepL B S xs vs → fld ks xs f = some x → ∃ v, (ks.zip vs).lookup f = some v ∧ Rep B S x v
  | [], _, _, _, _, e => nomatch e
  | _ :: _, [], _, _, _, e => nomatch e
  | k :: ks, y :: ys, _, x, l, e => by
    obtain ⟨v, ws, rfl, r, t⟩ := repL_cons_of l
    have e : (if f = k then some y else fld ks ys f) = some x := e
    show ∃ u, List.lookup f ((k, v) :: ks.zip ws) = some u ∧ _
    by_cases z : f = k
    · rw [if_pos z] at e
      cases e
      exact ⟨v, by rw [List.lookup_cons, z]; simp, r⟩
    · rw [if_neg z] at e
      obtain ⟨u, e2, r2⟩ := fld_some t e
      refine ⟨u, ?_, r2⟩
      rw [List.lookup_cons]
      have : (f == k) = false := by simpa using z
      rw [this]
      exact e2
theorem fld_none {B : Option Addr} {S : Hp} {f : Str} : ∀ {ks : List Str} {xs : List D} {vs : List V}, RepL B S xs vs → xs.length = ks.length → fld ks xs f = none → (ks.zip vs).lookup f = none
  | [], _, _, _, _, _ => rfl
  | _ :: _, [], _, _, hl, _ => nomatch hl
  | k :: ks, y :: ys, _, l, hl, e => by
    obtain ⟨v, ws, rfl, r, t⟩ := repL_cons_of l
    have e : (if f = k then some y else fld ks ys f) = none := e
    show List.lookup f ((k, v) :: ks.zip ws) = none
    by_cases z : f = k
    · rw [if_pos z] at e
      cases e
    · rw [if_neg z] at e
      rw [List.lookup_cons]
      have : (f == k) = false := by simpa using z
      rw [this]
      exact fld_none t (by simpa using hl) e
theorem obj_of {c : Fm} {σ : St} {H S : Hp} {env : En} {C : Addr} {ks : List Str} {xs : List D} {v : V} (k : Kn c σ H S env) (r : Rep c.B S (.obj C ks xs) v) : ∃ a dx vs, v = .ref a ∧ H a = some (.ins C dx (ks.zip vs)) ∧ xs.length = ks.length ∧ RepL c.B S xs vs := by
  rw [Rep] at r
  obtain ⟨a, dx, vs, e, q, q2, n, l⟩ := r
  exact ⟨a, dx, vs, e, k.kf.sub _ _ q, n, l⟩
def asO (C : Addr) (R : List Str → List D → Prop) : D → Prop
  | .obj C' ks xs => C' = C ∧ R ks xs
  | _ => False
def xFld (C : Addr) (f : Str) (Te : DT) : DT := fun env R Rx => Te env (asO C fun ks xs => ∃ x, fld ks xs f = some x ∧ R x) Rx
section
variable {X : Cx} {E : XK} {CX : CXT} {k : Nat} {C f : Addr} {fd : FuncData} {ps : List Str} {F : Spec} {m : Str} {o e : Expr} {es : List Expr} {To : DT} {Tl : DTA} {pos apos p : Pos}
theorem d_fld {f : Str} (he : DE X E e To) (c : Cls X.K C) (n : NoAttr X.K C f) (hb : attributeBase e f X.env (eval e X.env) = eval e X.env := by rfl) : DE X E (.Attribute e f pos) (xFld C f To) := by
  obtain ⟨t, p1, s⟩ := he
  refine ⟨_, pe_fld p1 hb, fun c0 σ H S env R Rx x k t Q q => s c0 σ H S env _ Rx x k t _ fun v H1 S1 d k1 s1 r1 t1 => ?_⟩
  cases d <;> try exact (show False from t1).elim
  obtain ⟨rfl, y, e1, t1⟩ := t1
  obtain ⟨a, dx, vs, e2, h1, _, l1⟩ := obj_of k1 r1
  obtain ⟨u, e3, r3⟩ := fld_some l1 e1
  exact ⟨a, _, dx, _, u, e2, h1, c, n, e3, q u H1 S1 y k1 s1 r3 t1⟩
def xMeth (C : Addr) (m : Str) (F : Spec) (To : DT) (Tl : DTA) : DT := fun env R Rx => To env (fun d => asO C (fun ks xs => fld ks xs m = none) d ∧ Tl env (fun ds => F (d :: ds) R Rx) Rx) Rx
theorem d_meth {pl : Sem Bool} (he : DE X E o To) (c : Cls X.K C) (hm : Meth X.K C m f) (G : FnOk X.prog X.w X.K X.mg X.base CX k f fd ps (spD F)) (hr : Room k X.A) (hb : Binds X.K fd ps []) (hx : Passes CX X E) (ha : DA X E (e :: es) Tl)
    (hst : starEach (e :: es) X.env = (false, eval e X.env) :: starEach es X.env := by rfl) (hpl : (backTo pos (starEach es X.env)).any (·.1) = false := by rfl)
    (ht : eval (.Call (.Attribute o m apos) (e :: es) [] pos) X.env = (do
      let ov ← eval o X.env
      standAt apos.atName
      let (f, first) ← holding [ov] (getMethod ov m pl)
      callWith pos f first (backTo pos (starEach (e :: es) X.env)) (backToKw pos (keywordEach [] X.env))) := by rfl) :
    DE X E (.Call (.Attribute o m apos) (e :: es) [] pos) (xMeth C m F To Tl) := by
  obtain ⟨t, p1, s⟩ := he
  obtain ⟨tl, p2, sl⟩ := ha
  refine ⟨_, pe_meth p1 c hm G hr hb .nil hx p2 hst hpl ht, fun c0 σ H S env R Rx x k t Q q => s c0 σ H S env _ Rx x k t _ fun v H1 S1 d k1 s1 r1 t1 => ?_⟩
  obtain ⟨t0, t1⟩ := t1
  cases d <;> try exact (show False from t0).elim
  obtain ⟨rfl, e1⟩ := t0
  obtain ⟨a, dx, vs, e2, h1, hn, l1⟩ := obj_of k1 r1
  refine ⟨a, dx, _, e2, h1, fld_none l1 hn e1, sl c0 σ H1 S1 env _ Rx x k1 t1 _ fun us H2 S2 ds k2 s2 l2 t2 => ?_⟩
  rw [List.append_nil]
  exact sp_call k2 x (repL_cons (rep_mono s2 _ v r1) l2) t2 fun v H' S' d k' s' r' t' => q v H' S' d k' ((s1.trans s2).trans s') r' t'
theorem d_meth0 {pl : Sem Bool} (he : DE X E o To) (c : Cls X.K C) (hm : Meth X.K C m f) (G : FnOk X.prog X.w X.K X.mg X.base CX k f fd ps (spD F)) (hr : Room k X.A) (hb : Binds X.K fd ps []) (hx : Passes CX X E)
    (ht : eval (.Call (.Attribute o m apos) [] [] pos) X.env = (do
      let ov ← eval o X.env
      standAt apos.atName
      let (f, first) ← holding [ov] (getMethod ov m pl)
      callWith pos f first (backTo pos (starEach [] X.env)) (backToKw pos (keywordEach [] X.env))) := by rfl) :
    DE X E (.Call (.Attribute o m apos) [] [] pos) (xMeth C m F To xNil) := by
  obtain ⟨t, p1, s⟩ := he
  refine ⟨_, pe_meth0 p1 c hm G hr hb .nil hx ht, fun c0 σ H S env R Rx x k t Q q => s c0 σ H S env _ Rx x k t _ fun v H1 S1 d k1 s1 r1 t1 => ?_⟩
  obtain ⟨t0, t1⟩ := t1
  cases d <;> try exact (show False from t0).elim
  obtain ⟨rfl, e1⟩ := t0
  obtain ⟨a, dx, vs, e2, h1, hn, l1⟩ := obj_of k1 r1
  refine ⟨a, dx, _, e2, h1, fld_none l1 hn e1, ?_⟩
  exact sp_call k1 x (repL_cons r1 repL_nil) t1 fun v H' S' d k' s' r' t' => q v H' S' d k' (s1.trans s') r' t'
/-- .. whose result is made new -/
theorem d_methN {pl : Sem Bool} (he : DE X E o To) (c : Cls X.K C) (hm : Meth X.K C m f) (G : FnOk X.prog X.w X.K X.mg X.base CX k f fd ps (spN F)) (hr : Room k X.A) (hb : Binds X.K fd ps []) (hx : Passes CX X E) (ha : DA X E (e :: es) Tl)
    (hst : starEach (e :: es) X.env = (false, eval e X.env) :: starEach es X.env := by rfl) (hpl : (backTo pos (starEach es X.env)).any (·.1) = false := by rfl)
    (ht : eval (.Call (.Attribute o m apos) (e :: es) [] pos) X.env = (do
      let ov ← eval o X.env
      standAt apos.atName
      let (f, first) ← holding [ov] (getMethod ov m pl)
      callWith pos f first (backTo pos (starEach (e :: es) X.env)) (backToKw pos (keywordEach [] X.env))) := by rfl) :
    DN X E (.Call (.Attribute o m apos) (e :: es) [] pos) (xMeth C m F To Tl) := by
  obtain ⟨t, p1, s⟩ := he
  obtain ⟨tl, p2, sl⟩ := ha
  refine ⟨_, pe_meth p1 c hm G hr hb .nil hx p2 hst hpl ht, fun c0 σ H S env R Rx x k t Q q => s c0 σ H S env _ Rx x k t _ fun v H1 S1 d k1 s1 r1 t1 => ?_⟩
  obtain ⟨t0, t1⟩ := t1
  cases d <;> try exact (show False from t0).elim
  obtain ⟨rfl, e1⟩ := t0
  obtain ⟨a, dx, vs, e2, h1, hn, l1⟩ := obj_of k1 r1
  refine ⟨a, dx, _, e2, h1, fld_none l1 hn e1, sl c0 σ H1 S1 env _ Rx x k1 t1 _ fun us H2 S2 ds k2 s2 l2 t2 => ?_⟩
  rw [List.append_nil]
  exact sp_callN k2 x (repL_cons (rep_mono s2 _ v r1) l2) t2 fun v H' N d k' g' r' t' => q v H' S2 N d k' (s1.trans s2) g' r' t'
theorem d_methN0 {pl : Sem Bool} (he : DE X E o To) (c : Cls X.K C) (hm : Meth X.K C m f) (G : FnOk X.prog X.w X.K X.mg X.base CX k f fd ps (spN F)) (hr : Room k X.A) (hb : Binds X.K fd ps []) (hx : Passes CX X E)
    (ht : eval (.Call (.Attribute o m apos) [] [] pos) X.env = (do
      let ov ← eval o X.env
      standAt apos.atName
      let (f, first) ← holding [ov] (getMethod ov m pl)
      callWith pos f first (backTo pos (starEach [] X.env)) (backToKw pos (keywordEach [] X.env))) := by rfl) :
    DN X E (.Call (.Attribute o m apos) [] [] pos) (xMeth C m F To xNil) := by
  obtain ⟨t, p1, s⟩ := he
  refine ⟨_, pe_meth0 p1 c hm G hr hb .nil hx ht, fun c0 σ H S env R Rx x k t Q q => s c0 σ H S env _ Rx x k t _ fun v H1 S1 d k1 s1 r1 t1 => ?_⟩
  obtain ⟨t0, t1⟩ := t1
  cases d <;> try exact (show False from t0).elim
  obtain ⟨rfl, e1⟩ := t0
  obtain ⟨a, dx, vs, e2, h1, hn, l1⟩ := obj_of k1 r1
  refine ⟨a, dx, _, e2, h1, fld_none l1 hn e1, ?_⟩
  exact sp_callN k1 x (repL_cons r1 repL_nil) t1 fun v H' N d k' g' r' t' => q v H' S1 N d k' s1 g' r' t'
def xProp (C : Addr) (F : Spec) (To : DT) : DT := fun env R Rx => To env (fun d => asO C (fun _ _ => True) d ∧ F [d] R noX) Rx
theorem d_prop {f : Str} {pa g : Addr} {fd : FuncData} {ps : List Str} (he : DE X E e To) (c : Cls X.K C) (hp : PropOf X.K C f pa g) (G : FnOk X.prog X.w X.K X.mg X.base CX k g fd ps (spD F)) (hr : Room (k + 1) X.A) (hb : Binds X.K fd ps []) (hx : Passes CX X.nox E0)
    (hab : attributeBase e f X.env (eval e X.env) = eval e X.env := by rfl) : DE X E (.Attribute e f pos) (xProp C F To) := by
  obtain ⟨t, p1, s⟩ := he
  refine ⟨_, pe_prop p1 c hp G hr hb .nil hx hab, fun c0 σ H S env R Rx x k t Q q => s c0 σ H S env _ Rx x k t _ fun v H1 S1 d k1 s1 r1 t1 => ?_⟩
  obtain ⟨t0, t1⟩ := t1
  cases d <;> try exact (show False from t0).elim
  obtain ⟨rfl, _⟩ := t0
  obtain ⟨a, dx, vs, rfl, h1, hn, l1⟩ := obj_of k1 r1
  exact ⟨a, dx, _, rfl, h1, sp_call k1 xok0 (repL_cons r1 repL_nil) t1 fun v H' S' d k' s' r' t' => q v H' S' d k' (s1.trans s') r' t'⟩
end
end DL
namespace DL
open PySem PySem.Spec L2
variable [TbC]
theorem putF_end {f : Str} {v : V} : ∀ {ks : List Str} {vs : List V}, f ∉ ks → vs.length = ks.length → putF f v (ks.zip vs) = (ks ++ [f]).zip (vs ++ [v])
  | [], [], _, _ => rfl
  | [], _ :: _, _, h => nomatch h
  | _ :: _, [], _, h => nomatch h
  | k :: ks, u :: us, hf, hl => by
    have ne : ¬ k = f := fun z => hf (by rw [z]; exact List.mem_cons_self)
    show (if k = f then _ else (k, u) :: putF f v (ks.zip us)) = (k, u) :: (ks ++ [f]).zip (us ++ [v])
    rw [if_neg ne, putF_end (fun z => hf (List.mem_cons_of_mem _ z)) (by simpa using hl)]
/-- the tuples of S -/
def tpC (S : Hp) : Hp := fun a => match S a with
  | some (.tup vs) => some (.tup vs)
  | _ => none
theorem tpC_of {S : Hp} {a : Addr} {o : HO} (e : tpC S a = some o) : ∃ vs, o = .tup vs ∧ S a = some (.tup vs) := by
  unfold tpC at e
  split at e
  · rename_i vs h
    cases e
    exact ⟨vs, rfl, h⟩
  · cases e
theorem tpC_tup {S : Hp} {a : Addr} {vs : List V} (e : S a = some (.tup vs)) : tpC S a = some (.tup vs) := by
  unfold tpC
  rw [e]
/-- what is new since H, and tuples -/
def newT (H S : Hp) : Hp := DL.uni (newH H S) (tpC S)
theorem newT_tup {H S : Hp} {a : Addr} {vs : List V} (e : S a = some (.tup vs)) : newT H S a = some (.tup vs) := by
  cases z : newH H S a with
  | none =>
    unfold newT DL.uni
    rw [z]
    exact tpC_tup e
  | some o =>
    have := (newH_some z).2
    rw [e] at this
    cases this
    exact uni_l a _ z
theorem newT_of {H S : Hp} {a : Addr} {o : HO} (e : newT H S a = some o) : (H a = none ∧ S a = some o) ∨ ∃ vs, o = .tup vs ∧ S a = some (.tup vs) := by
  rcases uni_of e with e | ⟨_, e⟩
  · exact .inl (newH_some e)
  · exact .inr (tpC_of e)
theorem newT_mono {c : Fm} {S S' : Hp} (h : Same S S') : Same (newT c.H0 S) (newT c.H0 S') := fun a o e => by
  rcases newT_of e with ⟨e1, e2⟩ | ⟨vs, rfl, e2⟩
  · exact uni_l a o (by rw [newH_of e1]; exact h a o e2)
  · exact newT_tup (h _ _ e2)
/-- what is left of a body that fills the object at p: the attributes so far, the names -/
abbrev ITS := (Bool → List Str → List D → Prop) → (Er → Prop) → Bool → List Str → List D → En → Prop
/-- the frame, the object at p as told -/
def Fm.put (c : Fm) (p : Addr) (o : HO) : Fm := ⟨c.B, c.C, upd c.H0 p o, c.S0⟩
def SmIn (E : XK) (p dx C : Addr) (t : TS) (T : ITS) : Prop := ∀ (c : Fm) (σ : St) (H S : Hp) (env : En) (nf : Bool) (ks : List Str) (xs : List D) (vs : List V) (R : Bool → List Str → List D → Prop) (Rx : Er → Prop),
  XOk c E Rx → Kn c σ H S env → c.H0 p = some (.ins C dx (ks.zip vs)) → ¬ Ex c.B p → S p = none → xs.length = ks.length → RepL c.B S xs vs → (nf = true → RepL c.B (newT c.H0 S) xs vs) → T R Rx nf ks xs env →
  ∀ D : Ends, (∀ σ' H' S' nf' ks' xs' vs', Kf (c.put p (.ins C dx (ks'.zip vs'))) H' S' → Same S S' → xs'.length = ks'.length → RepL c.B S' xs' vs' → (nf' = true → RepL c.B (newT c.H0 S') xs' vs') → R nf' ks' xs' → D.nx σ' H') → t D σ H
def DIs (X : Cx) (E : XK) (p dx C : Addr) (sts : List Stmt) (T : ITS) : Prop := ∃ t, PSs X sts t ∧ SmIn E p dx C t T
theorem Fm.put_self {c : Fm} {p : Addr} {o : HO} (h : c.H0 p = some o) : c.put p o = c := by
  unfold Fm.put
  have : upd c.H0 p o = c.H0 := by
    funext a
    by_cases z : a = p
    · subst z
      rw [upd_same, h]
    · rw [upd_ne z]
  rw [this]
theorem newH_put {c : Fm} {S : Hp} {p : Addr} {o o0 : HO} (h : c.H0 p = some o0) : newH (c.put p o).H0 S = newH c.H0 S := by
  funext a
  have go : ∀ x y : Option HO, (x = none ↔ y = none) → (match x with
    | none => S a
    | some _ => none) = (match y with
    | none => S a
    | some _ => none) := fun x y e => by
    cases x with
    | none => rw [e.mp rfl]
    | some u =>
      cases y with
      | none => exact absurd (e.mpr rfl) (fun z => nomatch z)
      | some w => rfl
  refine go (upd c.H0 p o a) (c.H0 a) ?_
  by_cases z : a = p
  · subst z
    rw [upd_same, h]
    exact ⟨(fun z => nomatch z), (fun z => nomatch z)⟩
  · rw [upd_ne z]
theorem newT_put {c : Fm} {S : Hp} {p : Addr} {o o0 : HO} (h : c.H0 p = some o0) : newT (c.put p o).H0 S = newT c.H0 S := by
  unfold newT
  rw [newH_put h]
/-- values whose lists are new, with the tuples they hang on -/
def SmW (E : XK) (t : TE) (T : DT) : Prop := ∀ (c : Fm) (σ : St) (H S : Hp) (env : En) (R : D → Prop) (Rx : Er → Prop), XOk c E Rx → Kn c σ H S env → T env R Rx →
  ∀ Q : VK, (∀ v H' S' d, Kn c σ H' S' env → Same S S' → Rep c.B S' d v → Rep c.B (newT c.H0 S') d v → R d → Q v H') → t σ H Q
def DWn (X : Cx) (E : XK) (e : Expr) (T : DT) : Prop := ∃ t, PE X e t ∧ SmW E t T
section
variable {X : Cx} {E : XK} {p dx C : Addr} {st : Stmt} {rest : List Stmt} {T : DTS} {U : ITS} {e : Expr} {Te : DT} {pos p1 p2 : Pos}
def jNil : ITS := fun R _ nf ks xs _ => R nf ks xs
theorem is_nil : DIs X E p dx C [] jNil := ⟨_, pss_nil, fun c σ H S env nf ks xs vs R Rx x k h0 np hS hl l ln t D q => q σ H S nf ks xs vs (by rw [Fm.put_self h0]; exact k.kf) (Same.refl S) hl l ln t⟩
/-- a statement that does not touch the object -/
def jSt (T : DTS) (U : ITS) : ITS := fun R Rx nf ks xs env => T { nx := fun env' => U R Rx nf ks xs env', rt := fun _ _ => False, ex := Rx } env
theorem is_st (h1 : DS X E st T) (h2 : DIs X E p dx C rest U) : DIs X E p dx C (st :: rest) (jSt T U) := by
  obtain ⟨t, p1, s1⟩ := h1
  obtain ⟨u, p2, s2⟩ := h2
  refine ⟨_, pss_cons p1 p2, fun c σ H S env nf ks xs vs R Rx x k h0 np hS hl l ln t D q => ?_⟩
  refine s1 c σ H S env { nx := fun env' => U R Rx nf ks xs env', rt := fun _ _ => False, ex := Rx } x k t _ ⟨fun σ1 H1 S1 env1 k1 s t1 => ?_, fun _ _ _ _ _ _ _ _ z => z.elim, fun _ _ _ _ _ _ z => z.elim, fun _ _ _ _ _ _ z => z.elim⟩
  refine s2 c σ1 H1 S1 env1 nf ks xs vs R Rx x k1 h0 np ?_ hl (repL_mono s xs vs l) (fun z => repL_mono (newT_mono s) xs vs (ln z)) t1 D fun σ' H' S' nf' ks' xs' vs' k' s' => q σ' H' S' nf' ks' xs' vs' k' (s.trans s')
  cases z : c.S0 p with
  | none => exact k1.kf.new p z (mu_of h0 fun _ z => nomatch z)
  | some o =>
    have := k.kf.s0 p o z
    rw [hS] at this
    cases this
/-- self.f = e -/
def jSet (p : Addr) (f : Str) (Te : DT) (U : ITS) : ITS := fun R Rx nf ks xs env => Te env (fun d => env[0]? = some (some (.val (.adr p))) ∧ f ∉ ks ∧ ks.length < 1000 ∧ U R noX (nf && d.flat) (ks ++ [f]) (xs ++ [d]) env) Rx
theorem is_set {f : Str} {x0 : Str} (h : DE X E e Te) (h2 : DIs X E p dx C rest U) (c0 : Cls X.K C) (n : NoAttr X.K C f) (hN : X.N[0]? = some x0 := by rfl) (hv : Vis X.env.scope x0 := by first | exact Or.inl rfl | exact Or.inr (Or.inl rfl) | exact Or.inr (Or.inr rfl)) (hd : (x0 == ("__debug__" : Str)) = false := by decide)
    (hcd : (x0 == ("__classdict__" : Str)) = false := by decide) (hs : swapsWith e (some (.Attribute (.Name x0 p1) f p2)) pos.line X.env = pure false := by rfl) : DIs X E p dx C (.Assign [.Attribute (.Name x0 p1) f p2] e pos :: rest) (jSet p f Te U) := by
  obtain ⟨t, pe, s⟩ := h
  obtain ⟨u, pr, sr⟩ := h2
  refine ⟨_, pss_cons (ps_fld (pv 0 hN hv hd hcd) pe hs) pr, fun c σ H S env nf ks xs vs R Rx x k h0 np hS hl l ln t D q => ?_⟩
  refine s c σ H S env _ Rx x k t _ fun v H1 S1 d k1 s1 r1 t1 => ?_
  obtain ⟨e0, hf, hk, t1⟩ := t1
  obtain ⟨w, ew, rw0⟩ := k1.sl 0 _ e0
  cases (show w = .ref p from rw0)
  have hp : H1 p = some (.ins C dx (ks.zip vs)) := k1.kf.old p _ h0 np
  refine ⟨_, ew, p, C, dx, ks.zip vs, rfl, hp, c0, n, ?_, ?_⟩
  · rw [List.length_zip]
    omega
  · have hS0 : c.S0 p = none := by
      cases y : c.S0 p with
      | none => rfl
      | some o => have := k.kf.s0 p o y; rw [hS] at this; cases this
    have hS1 : S1 p = none := k1.kf.new p hS0 (mu_of h0 fun _ z => nomatch z)
    have hvl : vs.length = ks.length := by rw [l.length]; exact hl
    rw [putF_end hf hvl]
    refine sr (c.put p (.ins C dx ((ks ++ [f]).zip (vs ++ [v])))) σ _ S1 env (nf && d.flat) (ks ++ [f]) (xs ++ [d]) (vs ++ [v]) R noX xok0 ⟨⟨fun a o ea => ?_, k1.kf.s0, fun a o ea na => ?_, fun a ea na => ?_, fun b eb => ?_, ⟨k1.kf.tab.1.updH (fun v e => by rw [hp] at e; cases e; exact ⟨fun _ z => (nomatch z), fun _ z => (nomatch z)⟩) (fun _ _ e => e), fun q hq => by
      show upd c.H0 p _ q.1 ≠ none
      by_cases z : q.1 = p
      · rw [z, upd_same]
        exact fun y => nomatch y
      · rw [upd_ne z]
        exact k1.kf.tab.2 q hq⟩⟩, k1.len, fun j x ej => ?_, k1.apart⟩ upd_same np hS1 (by simp [hl]) ((repL_mono s1 xs vs l).app (repL_cons r1 repL_nil)) (fun z => by
      rw [Bool.and_eq_true] at z
      rw [newT_put h0]
      exact (repL_mono (newT_mono s1) xs vs (ln z.1)).app (repL_cons (flat_rep z.2 r1) repL_nil)) t1 D fun σ' H' S' nf' ks' xs' vs' k' s' hl' l' ln' r' => ?_
    · rw [upd_ne (fun z => by rw [z, hS1] at ea; cases ea)]
      exact k1.kf.sub a o ea
    · by_cases z : a = p
      · subst z
        have ea : upd c.H0 a (.ins C dx ((ks ++ [f]).zip (vs ++ [v]))) a = some o := ea
        rw [upd_same] at ea ⊢
        exact ea
      · have ea : upd c.H0 p (.ins C dx ((ks ++ [f]).zip (vs ++ [v]))) a = some o := ea
        rw [upd_ne z] at ea ⊢
        exact k1.kf.old a o ea na
    · by_cases z : a = p
      · rw [z]
        exact hS1
      · have na : Mu (upd c.H0 p (.ins C dx ((ks ++ [f]).zip (vs ++ [v]))) a) := na
        rw [upd_ne z] at na
        exact k1.kf.new a ea na
    · have nb : b ≠ p := fun z => np (.inl (by rw [← z]; exact eb))
      obtain ⟨⟨b1, cs, i, g, st, n, b2, b3⟩, b4⟩ := k1.kf.bag b eb
      refine ⟨⟨b1, cs, i, g, st, n, by rw [upd_ne nb]; exact b2, b3⟩, ?_⟩
      show upd c.H0 p _ b ≠ none
      rw [upd_ne nb]
      exact b4
    · obtain ⟨u, eu, r⟩ := k1.sl j x ej
      refine ⟨u, eu, DvR.keep (c := c) (c' := c.put p (.ins C dx ((ks ++ [f]).zip (vs ++ [v])))) rfl (Same.refl _) r fun q1 fa => ?_⟩
      obtain ⟨q2, q3, _⟩ := r.foot q1 fa
      have nq : q1 ≠ p := fun z => by rw [z, h0] at q3; cases q3
      refine ⟨q2, ?_, fun o e => by rw [upd_ne nq]; exact e⟩
      show upd c.H0 p _ q1 = none
      rw [upd_ne nq]
      exact q3
    · have e9 : (c.put p (.ins C dx ((ks ++ [f]).zip (vs ++ [v])))).put p (.ins C dx (ks'.zip vs')) = c.put p (.ins C dx (ks'.zip vs')) := by
        unfold Fm.put
        rw [upd_upd]
      rw [e9] at k'
      rw [newT_put h0] at ln'
      exact q σ' H' S' nf' ks' xs' vs' k' (s1.trans s') hl' l' ln' r'
/-- .. made new -/
def jSetN (p : Addr) (f : Str) (Te : DT) (U : ITS) : ITS := fun R Rx nf ks xs env => Te env (fun d => env[0]? = some (some (.val (.adr p))) ∧ f ∉ ks ∧ ks.length < 1000 ∧ U R noX nf (ks ++ [f]) (xs ++ [d]) env) Rx
theorem is_setW {f : Str} {x0 : Str} (h : DWn X E e Te) (h2 : DIs X E p dx C rest U) (c0 : Cls X.K C) (n : NoAttr X.K C f) (hN : X.N[0]? = some x0 := by rfl) (hv : Vis X.env.scope x0 := by first | exact Or.inl rfl | exact Or.inr (Or.inl rfl) | exact Or.inr (Or.inr rfl)) (hd : (x0 == ("__debug__" : Str)) = false := by decide)
    (hcd : (x0 == ("__classdict__" : Str)) = false := by decide) (hs : swapsWith e (some (.Attribute (.Name x0 p1) f p2)) pos.line X.env = pure false := by rfl) : DIs X E p dx C (.Assign [.Attribute (.Name x0 p1) f p2] e pos :: rest) (jSetN p f Te U) := by
  obtain ⟨t, pe, s⟩ := h
  obtain ⟨u, pr, sr⟩ := h2
  refine ⟨_, pss_cons (ps_fld (pv 0 hN hv hd hcd) pe hs) pr, fun c σ H S env nf ks xs vs R Rx x k h0 np hS hl l ln t D q => ?_⟩
  refine s c σ H S env _ Rx x k t _ fun v H1 S1 d k1 s1 r1 r2 t1 => ?_
  obtain ⟨e0, hf, hk, t1⟩ := t1
  obtain ⟨w, ew, rw0⟩ := k1.sl 0 _ e0
  cases (show w = .ref p from rw0)
  have hp : H1 p = some (.ins C dx (ks.zip vs)) := k1.kf.old p _ h0 np
  refine ⟨_, ew, p, C, dx, ks.zip vs, rfl, hp, c0, n, ?_, ?_⟩
  · rw [List.length_zip]
    omega
  · have hS0 : c.S0 p = none := by
      cases y : c.S0 p with
      | none => rfl
      | some o => have := k.kf.s0 p o y; rw [hS] at this; cases this
    have hS1 : S1 p = none := k1.kf.new p hS0 (mu_of h0 fun _ z => nomatch z)
    have hvl : vs.length = ks.length := by rw [l.length]; exact hl
    rw [putF_end hf hvl]
    refine sr (c.put p (.ins C dx ((ks ++ [f]).zip (vs ++ [v])))) σ _ S1 env nf (ks ++ [f]) (xs ++ [d]) (vs ++ [v]) R noX xok0 ⟨⟨fun a o ea => ?_, k1.kf.s0, fun a o ea na => ?_, fun a ea na => ?_, fun b eb => ?_, ⟨k1.kf.tab.1.updH (fun v e => by rw [hp] at e; cases e; exact ⟨fun _ z => (nomatch z), fun _ z => (nomatch z)⟩) (fun _ _ e => e), fun q hq => by
      show upd c.H0 p _ q.1 ≠ none
      by_cases z : q.1 = p
      · rw [z, upd_same]
        exact fun y => nomatch y
      · rw [upd_ne z]
        exact k1.kf.tab.2 q hq⟩⟩, k1.len, fun j x ej => ?_, k1.apart⟩ upd_same np hS1 (by simp [hl]) ((repL_mono s1 xs vs l).app (repL_cons r1 repL_nil)) (fun z => by
      rw [newT_put h0]
      exact (repL_mono (newT_mono s1) xs vs (ln z)).app (repL_cons (r2) repL_nil)) t1 D fun σ' H' S' nf' ks' xs' vs' k' s' hl' l' ln' r' => ?_
    · rw [upd_ne (fun z => by rw [z, hS1] at ea; cases ea)]
      exact k1.kf.sub a o ea
    · by_cases z : a = p
      · subst z
        have ea : upd c.H0 a (.ins C dx ((ks ++ [f]).zip (vs ++ [v]))) a = some o := ea
        rw [upd_same] at ea ⊢
        exact ea
      · have ea : upd c.H0 p (.ins C dx ((ks ++ [f]).zip (vs ++ [v]))) a = some o := ea
        rw [upd_ne z] at ea ⊢
        exact k1.kf.old a o ea na
    · by_cases z : a = p
      · rw [z]
        exact hS1
      · have na : Mu (upd c.H0 p (.ins C dx ((ks ++ [f]).zip (vs ++ [v]))) a) := na
        rw [upd_ne z] at na
        exact k1.kf.new a ea na
    · have nb : b ≠ p := fun z => np (.inl (by rw [← z]; exact eb))
      obtain ⟨⟨b1, cs, i, g, st, n, b2, b3⟩, b4⟩ := k1.kf.bag b eb
      refine ⟨⟨b1, cs, i, g, st, n, by rw [upd_ne nb]; exact b2, b3⟩, ?_⟩
      show upd c.H0 p _ b ≠ none
      rw [upd_ne nb]
      exact b4
    · obtain ⟨u, eu, r⟩ := k1.sl j x ej
      refine ⟨u, eu, DvR.keep (c := c) (c' := c.put p (.ins C dx ((ks ++ [f]).zip (vs ++ [v])))) rfl (Same.refl _) r fun q1 fa => ?_⟩
      obtain ⟨q2, q3, _⟩ := r.foot q1 fa
      have nq : q1 ≠ p := fun z => by rw [z, h0] at q3; cases q3
      refine ⟨q2, ?_, fun o e => by rw [upd_ne nq]; exact e⟩
      show upd c.H0 p _ q1 = none
      rw [upd_ne nq]
      exact q3
    · have e9 : (c.put p (.ins C dx ((ks ++ [f]).zip (vs ++ [v])))).put p (.ins C dx (ks'.zip vs')) = c.put p (.ins C dx (ks'.zip vs')) := by
        unfold Fm.put
        rw [upd_upd]
      rw [e9] at k'
      rw [newT_put h0] at ln'
      exact q σ' H' S' nf' ks' xs' vs' k' (s1.trans s') hl' l' ln' r'
end
def spIg (n : Bool) (C : Addr) (F : Spec) : Sp := fun vs H Q E => ∃ (c : Fm) (S : Hp) (p dx : Addr) (us : List V) (ds : List D) (R : D → Prop) (Rx : Er → Prop), vs = .ref p :: us ∧ c.H0 = H ∧ c.S0 = S ∧ Kf c H S ∧ H p = some (.ins C dx []) ∧ ¬ Ex c.B p ∧ S p = none ∧ RepL c.B S ds us ∧ F ds R Rx ∧
  (∀ H' S' ks xs vs', Kf (c.put p (.ins C dx (ks.zip vs'))) H' S' → xs.length = ks.length → RepL c.B S' xs vs' → (n = true → RepL c.B (newT H S') xs vs') → R (.obj C ks xs) → Q .non H') ∧ XOk c E Rx
abbrev spI (C : Addr) (F : Spec) : Sp := spIg false C F
abbrev spIN (C : Addr) (F : Spec) : Sp := spIg true C F
section
variable {P : Program} {w : World} {K : PySem.W.Frag} {mg : Str → Option Value} {base : Heap} {x qual : Str} {st : Stmt} {dvs : List V} {kws : List (Str × V)} {f C : Addr} {fd : FuncData} {N ps : List Str} {k : Nat} {F : Spec}
theorem fn_i {T : Addr → ITS} (Fd : FnS K x qual st dvs kws f fd) (S : FnScope N ps (defScope st)) (len : ∀ ds R Rx, F ds R Rx → ds.length + 1 = ps.length)
    (hbody : ∀ (p dx : Addr) (cdv : Value) (A : Around) (outer : List Env) (s : Shared) (H : Hp) (E : XK), Room k (A.deeper (PyProof.Rows.envOfC qual (defScope st) s.heap.objs.size f cdv)) →
      DIs (cxOf (L2.CX P w) P w K mg base N qual (defScope st) f cdv A outer s H E) E p dx C (defBody st) (T p))
    (hT : ∀ p ds R Rx, F ds R Rx → T p (fun _ ks xs => R (.obj C ks xs)) Rx true [] [] (startE N (.adr p :: ds))) : FnOk P w K mg base (L2.CX P w) (k + 1) f fd ps (spI C F) := by
  refine FunD.ok Fd S (fun vs H Q E ⟨c, S, p, dx, us, ds, R, Rx, e, _, _, _, _, _, _, l, h, _⟩ => by rw [e, List.length_cons, l.length]; exact len _ _ _ h) fun cdv A outer s H vs Q E hr hsp => ?_
  obtain ⟨c, Sh, p, dx, us, ds, R, Rx, e, h0, hs0, kf, hp, np, hS, l, h, q, xo⟩ := hsp
  subst e
  obtain ⟨t, pp, sm⟩ := hbody p dx cdv A outer s H E hr
  refine ⟨t, pp, sm c _ H Sh (startE N (.adr p :: ds)) true [] [] [] _ Rx xo (kn_start kf (repL_cons rfl l)) (by rw [h0]; exact hp) np hS rfl repL_nil (fun _ => repL_nil) (hT p ds R Rx h) _ fun σ' H' S' nf' ks' xs' vs' k' _ hl' l' ln' r' => ?_⟩
  exact q H' S' ks' xs' vs' k' hl' l' (fun z => nomatch z) r'
end
section
variable {X : Cx} {E : XK} {CX : CXT} {k : Nat} {C f : Addr} {fd : FuncData} {ps : List Str} {F : Spec} {x : Str} {e : Expr} {es : List Expr} {Tl : DTA} {pos p : Pos}
def xMake (F : Spec) (Tl : DTA) : DT := fun env R Rx => Tl env (fun ds => F ds R Rx) Rx
theorem sp_make {c : Fm} {σ : St} {H S : Hp} {env : En} {vs : List V} {xs : List D} {R : D → Prop} {Rx : Er → Prop} {Q : VK} {a dx : Addr} (kn : Kn c σ H S env) (x : XOk c E Rx) (l : RepL c.B S xs vs) (t : F xs R Rx) (ha : H a = none) (hdx : H dx = none) (ne : dx ≠ a)
    (q : ∀ v H' S' d, Kn c σ H' S' env → Same S S' → Rep c.B S' d v → R d → Q v H') : spI C F (.ref a :: vs) (upd (upd H dx (.own a)) a (.ins C dx [])) (fun v H2 => v = .non ∧ Q (.ref a) H2) E := by
  have k1 := (kn.new0 (o := .own a) hdx)
  have ha1 : upd H dx (.own a) a = none := by rw [upd_ne (Ne.symm ne)]; exact ha
  have k2 := k1.new0 (o := .ins C dx []) ha1
  refine ⟨c.at _ S, S, a, dx, vs, xs, R, Rx, rfl, rfl, rfl, k2.kf.at, upd_same, kn.kf.x_ne ha, kn.kf.s_none ha, l, t, fun H' S' ks ys us k' hl l' _ r' => ⟨rfl, ?_⟩, x.at k2.kf⟩
  have h2 : ∀ b o, b ≠ a → b ≠ dx → H b = some o → upd (upd (upd H dx (.own a)) a (.ins C dx [])) a (.ins C dx (ks.zip us)) b = some o := fun b o n1 n2 e => by rw [upd_ne n1, upd_ne n1, upd_ne n2]; exact e
  have hda : H' dx = some (.own a) := k'.old dx _ (by show upd (upd (upd H dx (.own a)) a (.ins C dx [])) a _ dx = _; rw [upd_ne ne, upd_ne ne, upd_same]) (kn.kf.x_ne hdx)
  have haa : H' a = some (.ins C dx (ks.zip us)) := k'.old a _ upd_same (kn.kf.x_ne ha)
  have sa : S' a = none := k'.new a (kn.kf.s_none ha) (by show Mu (upd _ a _ a); rw [upd_same]; exact mu_of rfl fun _ z => nomatch z)
  have sdx : S' dx = none := k'.new dx (kn.kf.s_none hdx) (by show Mu (upd (upd (upd H dx (.own a)) a (.ins C dx [])) a _ dx); rw [upd_ne ne, upd_ne ne, upd_same]; exact mu_of rfl fun _ z => nomatch z)
  have sd1 : upd S' dx (.own a) a = none := by rw [upd_ne (Ne.symm ne)]; exact sa
  have s3 : Same S' (upd (upd S' dx (.own a)) a (.ins C dx (ks.zip us))) := (same_upd sdx).trans (same_upd sd1)
  have kn2 : Kn c σ H' (upd (upd S' dx (.own a)) a (.ins C dx (ks.zip us))) env := by
    refine kn.step (k'.s0.trans s3) (fun b o eb => ?_) (fun b o eb nb => ?_) (fun b eb nb => ?_) (fun b eb => ?_) (fun q hq => ⟨(k'.tab.1 q hq).1, by rw [upd_ne (fun z => kn.kf.x_ne ha (.inr ⟨q, hq, z⟩)), upd_ne (fun z => kn.kf.x_ne hdx (.inr ⟨q, hq, z⟩))]; exact (k'.tab.1 q hq).2⟩)
    · by_cases z : b = a
      · subst z
        rw [upd_same] at eb
        rw [haa]
        exact eb
      · rw [upd_ne z] at eb
        by_cases y : b = dx
        · subst y
          rw [upd_same] at eb
          rw [hda]
          exact eb
        · rw [upd_ne y] at eb
          exact k'.sub b o eb
    · exact k'.old b o (h2 b o (fun z => by rw [z, ha] at eb; cases eb) (fun z => by rw [z, hdx] at eb; cases eb) eb) nb
    · have n1 : b ≠ a := fun z => nb.1 (by rw [z]; exact ha)
      have n2 : b ≠ dx := fun z => nb.1 (by rw [z]; exact hdx)
      rw [upd_ne n1, upd_ne n2]
      refine k'.new b eb ?_
      show Mu (upd (upd (upd H dx (.own a)) a (.ins C dx [])) a _ b)
      rw [upd_ne n1, upd_ne n1, upd_ne n2]
      exact nb
    · obtain ⟨⟨b1, cs, i, g, st, n, b2, b3, b4⟩, b5⟩ := k'.bag b eb
      have n1 : b ≠ a := fun z => kn.kf.b_ne ha (by rw [← z]; exact eb)
      have n2 : b ≠ dx := fun z => kn.kf.b_ne hdx (by rw [← z]; exact eb)
      refine ⟨?_, cs, i, g, st, n, b2, s3 _ _ b3, b4⟩
      rw [upd_ne n1, upd_ne n2]
      exact b1
  refine q (.ref a) H' _ (.obj C ks ys) kn2 (k'.s0.trans s3) ?_ r'
  rw [Rep]
  exact ⟨a, dx, us, rfl, upd_same, by rw [upd_ne ne, upd_same], hl, repL_mono s3 ys us l'⟩
theorem d_make (M : Mk X.K C f) (G : FnOk X.prog X.w X.K X.mg X.base CX k f fd ps (spI C F)) (hr : Room (k + 1) X.A) (hm : X.mg x = some (.ref C)) (hb : Binds X.K fd ps []) (hx : Passes CX X E) (ha : DA X E (e :: es) Tl)
    (hg : Gl X x := by rfl) (hdb : (x == ("__debug__" : Str)) = false := by decide) (he : starEach (e :: es) X.env = (false, eval e X.env) :: starEach es X.env := by rfl) (hpl : (backTo pos (starEach es X.env)).any (·.1) = false := by rfl) :
    DE X E (.Call (.Name x p) (e :: es) [] pos) (xMake F Tl) := by
  obtain ⟨t, p1, s⟩ := ha
  refine ⟨_, pe_make M G hr hg hm hb .nil hx p1 hdb he hpl, fun c σ H S env R Rx x k t Q q => s c σ H S env _ Rx x k t _ fun vs H1 S1 xs k1 s1 l1 t1 a dx hxa hxd ne => ?_⟩
  rw [List.append_nil]
  exact sp_make k1 x l1 t1 hxa hxd ne fun v H' S' d k' s' r' z => q v H' S' d k' (s1.trans s') r' z
end
end DL
namespace DL
open PySem PySem.Spec L2
variable [TbC]
section
variable {X : Cx} {CX : CXT} {k : Nat} {C g : Addr} {fd : FuncData} {ps : List Str} {F : Spec} {E : XK} {a b : Expr} {Ta Tb : DT} {pos : Pos}
def xOB (C : Addr) (F : Spec) (Ta Tb : DT) : DT := fun env R Rx => Ta env (fun x => Tb env (fun y => asO C (fun _ _ => True) x ∧ asO C (fun _ _ => True) y ∧ F [x, y] R Rx) Rx) Rx
def xOBi (C : Addr) (F : Spec) (Ta Tb : DT) : DT := fun env R Rx => Ta env (fun x => Tb env (fun y => asO C (fun _ _ => True) x ∧ asI (fun _ => True) y ∧ F [x, y] R Rx) Rx) Rx
def xInv (C : Addr) (F : Spec) (Ta : DT) : DT := fun env R Rx => Ta env (fun x => asO C (fun _ _ => True) x ∧ F [x] R Rx) Rx
end
end DL
namespace DL
open PySem PySem.Spec L2
variable [TbC]
/-- a method, a getter: its function -/
structure Dm (K : PySem.W.Frag) (x qual : Str) (st : Stmt) where
  f : Addr
  fd : FuncData
  F : FnS K x qual st [] [] f fd
end DL
namespace DL
open PySem PySem.Spec L2
variable [TbC]
/-- isinstance(x, C), C an own class -/
def isO (C : Addr) : D → Option Bool
  | .obj C' _ _ => if C' = C then some true else none
  | .non | .bl _ | .int _ | .str _ | .lst _ | .tup _ => some false
  | _ => none
def fIsiO (C : Addr) : DFn
  | [x, .adr c], R => c = C ∧ ∃ b, isO C x = some b ∧ R (.bl b)
  | _, _ => False
end DL
namespace DL
open PySem PySem.Spec L2
variable [TbC]
/-- x == y, two objects of the class at C with an own == -/
def opOwn (C : Addr) (F : Spec) : DOp := fun x y R => asO C (fun _ _ => True) x ∧ asO C (fun _ _ => True) y ∧ F [x, y] R noX
end DL
namespace DL
open PySem PySem.Spec L2
variable [TbC]
def xMethK (C : Addr) (m : Str) (F : Spec) (g : List D → List D → List D) (To : DT) (Tk : DTA) : DT := fun env R Rx => To env (fun d => asO C (fun ks xs => fld ks xs m = none) d ∧ Tk env (fun zs => F (g [d] zs) R Rx) Rx) Rx
end DL
namespace DL
open PySem PySem.Spec L2
end DL
namespace DL
open PySem PySem.Spec L2
end DL
namespace DL
open PySem PySem.Spec L2
variable [TbC]
theorem Dm.kb {K : PySem.W.Frag} {x qual : Str} {st : Stmt} (Dx : Dm K x qual st) {ps ks : List Str} (n m : Nat) (idx : List Nat) (hi : ps ≠ [])
    (h : ∀ (kV doc pm : Value) (an : Option Addr) (cdv ct : Value) (us ws : List Value), us.length = n → ws.length = m → bindArgs (PySem.W.fnOf x qual (defArgs st) (defBody st) (defScope st) .none kV doc pm an cdv ct) ⟨us, ks.zip ws⟩ = pure (ps.zip (gPerm n m idx us ws))) :
    KBd K Dx.fd ps ks (gPerm n m idx) where
  to := fun s us ws X hl => by
    obtain ⟨oc, od, dV, kV, doc, pm, an, cdv, ct, osl, e, lk, hcd, hD, hK⟩ := Dx.F.ex
    rcases hD with ⟨_, rfl⟩ | ⟨z, _⟩
    · rw [e]
      by_cases hz : us.length = n ∧ ws.length = m
      · exact .of_eq (h _ _ _ _ _ _ us ws hz.1 hz.2)
      · unfold gPerm at hl
        rw [if_neg hz] at hl
        exact absurd (List.length_eq_zero_iff.mp hl.symm) hi
    · exact absurd rfl z
  rel := fun {vs us zs ws} r1 r2 => by
    unfold gPerm
    rw [r1.length, r2.length]
    split
    · exact vals_pick (r1.append r2) idx
    · exact .nil
  rep := fun {B S xs zs vs ws} r1 r2 => by
    unfold gPerm
    rw [r1.length, r2.length]
    split
    · exact rep_pick (r1.app r2) idx
    · exact repL_nil
end DL
namespace DL
open PySem PySem.Spec L2
variable [TbC]
section
variable {α : Type} {G : DG} {Te : DT} {Tt : DTT} {vs : List Nat} {env : En} {R : List D → Prop}
theorem LcP.of {as : List α} {g : α → D} (f : α → D) (hz : as.length ≤ sizeLine) (h : ∀ (i : Nat) (a : α) (N : D → Prop), as[i]? = some a → N (f a) → G (g a) (inner vs env) fun env' => Te env' N noX) (k : R (as.map f)) :
    LcP (as.map g) G xYes Te vs env R := by
  refine ⟨fun i acc => acc = (as.take i).map f, by simp, fun i d acc e hI => ?_, fun acc hI => by rw [hI, List.length_map, List.take_length]; exact k⟩
  rw [List.getElem?_map] at e
  cases q : as[i]? with
  | none => rw [q] at e; cases e
  | some a =>
    rw [q] at e
    cases e
    have hi := (List.getElem?_eq_some_iff.mp q).1
    have key := h i a (fun y => acc.length < sizeLine ∧ acc ++ [y] = (as.take (i + 1)).map f) q ⟨by rw [hI, List.length_map, List.length_take]; omega, by rw [hI, take_succ_map f q]⟩
    have e1 : (fun env' => xYes env' (fun b => (b = true → Te env' (fun y => acc.length < sizeLine ∧ acc ++ [y] = (as.take (i + 1)).map f) noX) ∧ (b = false → acc = (as.take (i + 1)).map f)) noX) = fun env' => Te env' (fun y => acc.length < sizeLine ∧ acc ++ [y] = (as.take (i + 1)).map f) noX := by
      funext env'
      refine propext ⟨fun t => t.1 rfl, fun t => ⟨fun _ => t, fun z => nomatch z⟩⟩
    rw [e1]
    exact key
/-- items drawn: of them only P is known -/
theorem mapped_of (g : α → D) {P : α → Prop} : ∀ {acc : List D}, (∀ y ∈ acc, ∃ a, y = g a ∧ P a) → ∃ as : List α, acc = as.map g ∧ ∀ a ∈ as, P a
  | [], _ => ⟨[], rfl, fun n h => nomatch h⟩
  | y :: acc, h => by
    obtain ⟨n, rfl, hp⟩ := h y (List.mem_cons_self ..)
    obtain ⟨ns, rfl, hn⟩ := mapped_of g (acc := acc) fun z hz => h z (List.mem_cons_of_mem _ hz)
    exact ⟨n :: ns, rfl, fun m hm => by
      rcases List.mem_cons.mp hm with e | e
      · rw [e]; exact hp
      · exact hn m e⟩
theorem LcP.draw {xs : List D} (g : α → D) (P : α → Prop) (hz : xs.length ≤ sizeLine) (h : ∀ (i : Nat) (d : D) (N : D → Prop), xs[i]? = some d → (∀ a, P a → N (g a)) → G d (inner vs env) fun env' => Te env' N noX)
    (k : ∀ as : List α, as.length = xs.length → (∀ a ∈ as, P a) → R (as.map g)) : LcP xs G xYes Te vs env R := by
  refine LcP.all (fun y => ∃ a, y = g a ∧ P a) hz (fun i d N e hN => h i d N e fun a ha => hN _ ⟨a, rfl, ha⟩) fun acc hl hacc => ?_
  obtain ⟨as, rfl, has⟩ := mapped_of g hacc
  exact k as (by rw [List.length_map] at hl; exact hl) has
end
section
variable {x0 x1 x2 x3 x4 x5 x6 x7 : D} {r : List D}
theorem w_at0 : atI (x0 :: r) 0 = some x0 := by simp [atI, ixN]
theorem w_at1 : atI (x0 :: x1 :: r) 1 = some x1 := by
  unfold atI ixN
  rw [if_pos (by decide), if_pos (by simp only [List.length_cons]; omega)]
  rfl
theorem w_at2 : atI (x0 :: x1 :: x2 :: r) 2 = some x2 := by
  unfold atI ixN
  rw [if_pos (by decide), if_pos (by simp only [List.length_cons]; omega)]
  rfl
theorem w_at3 : atI (x0 :: x1 :: x2 :: x3 :: r) 3 = some x3 := by
  unfold atI ixN
  rw [if_pos (by decide), if_pos (by simp only [List.length_cons]; omega)]
  rfl
theorem w_at4 : atI (x0 :: x1 :: x2 :: x3 :: x4 :: r) 4 = some x4 := by
  unfold atI ixN
  rw [if_pos (by decide), if_pos (by simp only [List.length_cons]; omega)]
  rfl
theorem w_at5 : atI (x0 :: x1 :: x2 :: x3 :: x4 :: x5 :: r) 5 = some x5 := by
  unfold atI ixN
  rw [if_pos (by decide), if_pos (by simp only [List.length_cons]; omega)]
  rfl
end
end DL
namespace DL
open PySem PySem.Spec L2
variable [TbC]
section
variable {X : Cx} {pins : List (Addr × Obj)} {σ : St} {H : Hp} {s : Shared} {k : Nat} {f g C : Addr} {fd : FuncData} {ps : List Str} {sp : Sp} {F : Spec}
theorem run_in1 {Q : VK} {us : List Value} {vs : List V} {E' : Value → Shared → Prop} (G : FnOk X.prog X.w X.K X.mg X.base (L2.CX X.prog X.w) k f fd ps sp) (hr : Room (k + 1) X.A) (hb : Binds X.K fd ps []) (I : Inv X pins σ H s) (r : Vals vs us) (h : sp vs H Q E0) :
    wpAny (model X.prog X.w) X.A.in1 (call (.ref f) us) (EP X pins σ Q) E' s := by
  have hl : (us ++ []).length = ps.length := by rw [List.append_nil, ← r.length]; exact G.len _ _ _ _ h
  have hb2 := hb s us I.kIn hl
  rw [List.append_nil] at hb2
  refine wpAny_call (codeAny_mono (G.run X.A.in1 X.stack s H ⟨us, []⟩ us vs Q E0 hr.in1 I.env0.in1 hb2 r h) fun r s' hq => ?_)
  cases r with
  | error er => exact False.elim ((passL (X := X.nox)) pins σ H s er s' (I.wish _) hq)
  | ok fl =>
    cases fl with
    | ret u => exact I.after hq
    | next => exact False.elim hq
    | brk => exact False.elim hq
    | cont => exact False.elim hq
def rLenOw (C : Addr) (sp : Sp) : List V → Hp → VK → Prop := fun xs H Q => ∃ a dx fs, xs = [.ref a] ∧ H a = some (.ins C dx fs) ∧ sp [.ref a] H (fun v H' => ∃ n : Int, v = .int n ∧ 0 ≤ n ∧ n < 2 ^ 63 ∧ Q (.int n) H') E0
theorem call_lenOw (o : Hx.Own X.K C "__len__" g) (G : FnOk X.prog X.w X.K X.mg X.base (L2.CX X.prog X.w) k g fd ps sp) (hb : Binds X.K fd ps []) (hr : Room (k + 1) X.A) : CallR X (.builtin "len") (rLenOw C sp) := by
  intro pins s σ H xs us Q I r h
  obtain ⟨a, dx, fs, rfl, ha, q⟩ := h
  obtain ⟨u, rfl, ru⟩ := vals1 r
  obtain rfl : u = Value.ref a := ru
  obtain ⟨mA, J, _⟩ := ins_get I.hok ha
  obtain ⟨od, J, _⟩ := J.look
  obtain ⟨m, hF⟩ := I.fr
  refine PySem.W.len_K hF I.ok.mod.kin J o.at_ o.fn (wpAny_mono (run_in1 (us := [.ref a]) (vs := [.ref a]) G hr hb I (.cons rfl .nil) q) (fun u s' hq => ?_) fun _ _ z => z)
  obtain ⟨v, H', I', rv, n, rfl, h0, h1, q2⟩ := hq
  obtain ⟨t, rfl⟩ := rv
  exact ⟨⟨h0, h1⟩, .int n, H', I'.tok _, ⟨_, rfl⟩, q2⟩
def natR (R : D → Prop) : D → Prop
  | .int n => 0 ≤ n ∧ n < 2 ^ 63 ∧ R (.int n)
  | _ => False
theorem w_natR {R : D → Prop} {n : Int} : natR R (.int n) = (0 ≤ n ∧ n < 2 ^ 63 ∧ R (.int n)) := rfl
def fLenOw (C : Addr) (F : Spec) : DFn
  | [x], R => asO C (fun _ _ => True) x ∧ F [x] (natR R) noX
  | _, _ => False
theorem w_fLenOw {C : Addr} {F : Spec} {x : D} {R : D → Prop} : fLenOw C F [x] R = (asO C (fun _ _ => True) x ∧ F [x] (natR R) noX) := rfl
theorem b_lenOw (o : Hx.Own X.K C "__len__" g) (G : FnOk X.prog X.w X.K X.mg X.base (L2.CX X.prog X.w) k g fd ps (spD F)) (hb : Binds X.K fd ps []) (hr : Room (k + 1) X.A) : CallOk X (.builtin "len") (fLenOw C F) := by
  refine ⟨_, call_lenOw o G hb hr, fun c σ H S env xs vs R kn r t Q q => ?_⟩
  match xs, t with
  | [x], t2 =>
  obtain ⟨t0, t3⟩ := t2
  obtain ⟨v, rfl, r1⟩ := rep1 r
  cases x <;> try exact (show False from t0).elim
  obtain ⟨rfl, _⟩ := t0
  obtain ⟨a, dx, vs, rfl, h1, hn, l1⟩ := obj_of kn r1
  refine ⟨a, dx, _, rfl, h1, sp_call kn xok0 (repL_cons r1 repL_nil) t3 fun v H' S' d k' s' r' t' => ?_⟩
  cases d <;> try exact (show False from t').elim
  obtain ⟨n0, n1, t'⟩ := t'
  exact ⟨_, r', n0, n1, q _ H' S' (.int _) k' s' rfl t'⟩
end
section
variable {X : Cx} {E : XK} {a b c : Expr} {pos : Pos}
def zPar3 (i j l : Nat) (Tl : DTA) : DTS := fun Q env => Tl env (fun ds => match ds with
  | [d, d', d''] => Q.nx (put l d'' (put j d' (put i d env)))
  | _ => False) Q.ex
end
end DL
namespace DL
open PySem PySem.Spec L2
variable [TbC]
/-- its function; kws its keyword-only defaults -/
structure Dst (K : PySem.W.Frag) (x qual : Str) (st : Stmt) (kws : List (Str × V)) where
  f : Addr
  fd : FuncData
  F : FnS K x qual st [] kws f fd
section
variable {X : Cx} {E : XK} {CX : CXT} {k : Nat} {C f pp : Addr} {fd : FuncData} {ps : List Str} {F : Spec} {sp : Sp} {m x : Str} {p1 pos apos : Pos} {e : Expr} {es : List Expr} {Tl : DTA} {ds : List Value} {dvs : List V} {dds : List D} {t : L2.TA}
theorem pe_stat {pl : Sem Bool} (s : Hx.Stat X.K C m pp f) (G : FnOk X.prog X.w X.K X.mg X.base CX k f fd ps sp) (hr : Room k X.A) (hg : Gl X x) (hm : X.mg x = some (.ref C)) (hk : PySem.W.keepIn X.K (.ref f) = true) (hb : Binds X.K fd ps ds) (hd : Vals dvs ds) (hx : Passes CX X E) (ha : PA X (e :: es) t)
    (hdb : (x == ("__debug__" : Str)) = false := by decide) (he : starEach (e :: es) X.env = (false, eval e X.env) :: starEach es X.env := by rfl) (hpl : (backTo pos (starEach es X.env)).any (·.1) = false := by rfl)
    (ht : eval (.Call (.Attribute (.Name x p1) m apos) (e :: es) [] pos) X.env = (do
      let ov ← eval (.Name x p1) X.env
      standAt apos.atName
      let (f, first) ← holding [ov] (getMethod ov m pl)
      callWith pos f first (backTo pos (starEach (e :: es) X.env)) (backToKw pos (keywordEach [] X.env))) := by rfl) :
    PE X (.Call (.Attribute (.Name x p1) m apos) (e :: es) [] pos) (tCall sp dvs E t) := by
  refine ⟨fun pins s0 σ H Q I h => ?_⟩
  obtain ⟨rest, hrec⟩ := s.rc
  refine PySem.W.methodCall_KW (pl := pl) (ld_glob I hg hm ?_ hdb) ht
  refine PySem.W.method_cls I.kIn s.ga (PySem.W.cls_bind I.kIn s.rd s.at_ (wpAny_call (PySem.W.sm_get (s := { s0 with toks := s0.toks + 1 }) I.kIn hrec (PySem.W.handed_on rfl ?_))))
  have I1 := I.tok (s0.toks + 1)
  refine PySem.W.callWith_K (h₀ := X.base) (first := []) I1.ok.mod.kin hk (thn (ha.run pos pins _ σ H _ I1 h) fun us s1 ⟨vs, H1, I2, r, q⟩ => ⟨I2.kIn, ?_⟩) he hpl
  exact run_fn G hr hb hd hx I2 r q
theorem d_stat {pl : Sem Bool} (s : Hx.Stat X.K C m pp f) (G : FnOk X.prog X.w X.K X.mg X.base CX k f fd ps (spD F)) (hr : Room k X.A) (hm : X.mg x = some (.ref C)) (hk : PySem.W.keepIn X.K (.ref f) = true) (hb : Binds X.K fd ps ds) (hd : Vals dvs ds) (hdd : DfR dds dvs) (hx : Passes CX X E) (ha : DA X E (e :: es) Tl)
    (hg : Gl X x := by rfl) (hdb : (x == ("__debug__" : Str)) = false := by decide) (he : starEach (e :: es) X.env = (false, eval e X.env) :: starEach es X.env := by rfl) (hpl : (backTo pos (starEach es X.env)).any (·.1) = false := by rfl)
    (ht : eval (.Call (.Attribute (.Name x p1) m apos) (e :: es) [] pos) X.env = (do
      let ov ← eval (.Name x p1) X.env
      standAt apos.atName
      let (f, first) ← holding [ov] (getMethod ov m pl)
      callWith pos f first (backTo pos (starEach (e :: es) X.env)) (backToKw pos (keywordEach [] X.env))) := by rfl) :
    DE X E (.Call (.Attribute (.Name x p1) m apos) (e :: es) [] pos) (xCall F dds Tl) := by
  obtain ⟨t, pa, sa⟩ := ha
  refine ⟨_, pe_stat (pl := pl) s G hr hg hm hk hb hd hx pa hdb he hpl ht, fun c σ H S env R Rx x k t Q q => sa c σ H S env _ Rx x k t _ fun vs H1 S1 xs k1 s1 l1 t1 => ?_⟩
  exact sp_call k1 x (l1.app (hdd _ _)) t1 fun v H' S' d k' s' r' t' => q v H' S' d k' (s1.trans s') r' t'
end
end DL
namespace DL
open PySem PySem.Spec L2
variable [TbC]
def xLc2F (Ti : DTI) (G : DG) (Tt : DTT) (Ti1 : DTI) (G1 : DG) (Tt1 : DTT) (Te : DT) (vs vs1 : List Nat) : DTF := fun env R Rx => Ti env (fun xs => ∃ I : Nat → List D → Prop, I 0 [] ∧
  (∀ i d acc, xs[i]? = some d → I i acc → G d (inner vs env) fun env' => Tt env' (fun b => (b = true → Ti1 env' (fun ys => ∃ I1 : Nat → List D → Prop, I1 0 acc ∧
      (∀ j e acc, ys[j]? = some e → I1 j acc → G1 e (inner vs1 env') fun env'' => Tt1 env'' (fun b => (b = true → Te env'' (fun y => acc.length < sizeLine ∧ I1 (j + 1) (acc ++ [y])) noX) ∧ (b = false → I1 (j + 1) acc)) noX) ∧
      ∀ acc, I1 ys.length acc → I (i + 1) acc) noX) ∧ (b = false → I (i + 1) acc)) noX) ∧
  ∀ acc, I xs.length acc → R acc) Rx
/-- the word: typed lists both -/
def Lc2P (xs : List D) (G : DG) (Tt : DTT) (Ti1 : DTI) (G1 : DG) (Tt1 : DTT) (Te : DT) (vs vs1 : List Nat) (env : En) (R : List D → Prop) : Prop := ∃ I : Nat → List D → Prop, I 0 [] ∧
  (∀ i d acc, xs[i]? = some d → I i acc → G d (inner vs env) fun env' => Tt env' (fun b => (b = true → Ti1 env' (fun ys => ∃ I1 : Nat → List D → Prop, I1 0 acc ∧
      (∀ j e acc, ys[j]? = some e → I1 j acc → G1 e (inner vs1 env') fun env'' => Tt1 env'' (fun b => (b = true → Te env'' (fun y => acc.length < sizeLine ∧ I1 (j + 1) (acc ++ [y])) noX) ∧ (b = false → I1 (j + 1) acc)) noX) ∧
      ∀ acc, I1 ys.length acc → I (i + 1) acc) noX) ∧ (b = false → I (i + 1) acc)) noX) ∧
  ∀ acc, I xs.length acc → R acc
theorem w_lc2 {Ti Ti1 : DTI} {G G1 : DG} {Tt Tt1 : DTT} {Te : DT} {vs vs1 : List Nat} {env : En} {R : List D → Prop} {Rx : Er → Prop} : xLc2F Ti G Tt Ti1 G1 Tt1 Te vs vs1 env R Rx = Ti env (fun xs => Lc2P xs G Tt Ti1 G1 Tt1 Te vs vs1 env R) Rx := rfl
/-- no tests: all f a b, in order -/
theorem Lc2P.of {α β : Type} {as : List α} {g : α → D} {Ti1 : DTI} {G G1 : DG} {Te : DT} {vs vs1 : List Nat} {env : En} {R : List D → Prop} (bs : List β) (g1 : β → D) (f : α → β → D) (hz : as.length * bs.length ≤ sizeLine)
    (h2 : ∀ (i : Nat) (a : α) (R1 : En → Prop), as[i]? = some a → (∀ env' : En, (∀ M : List D → Prop, M (bs.map g1) → Ti1 env' M noX) → (∀ (j : Nat) (b : β) (N : D → Prop), bs[j]? = some b → N (f a b) → G1 (g1 b) (inner vs1 env') fun env'' => Te env'' N noX) → R1 env') → G (g a) (inner vs env) R1)
    (k : R (as.flatMap fun a => bs.map (f a))) : Lc2P (as.map g) G xYes Ti1 G1 xYes Te vs vs1 env R := by
  refine ⟨fun i acc => acc = (as.take i).flatMap fun a => bs.map (f a), by simp, fun i d acc e hI => ?_, fun acc hI => by rw [hI, List.length_map, List.take_length]; exact k⟩
  rw [List.getElem?_map] at e
  cases q : as[i]? with
  | none => rw [q] at e; cases e
  | some a =>
    rw [q] at e
    cases e
    have hi := (List.getElem?_eq_some_iff.mp q).1
    have eacc : acc.length = i * bs.length := by
      rw [hI, List.length_flatMap]
      have : (as.take i).map (fun a => (bs.map (f a)).length) = List.replicate i bs.length := by
        apply List.ext_getElem
        · simp; omega
        · intro n h1 h2
          simp
      rw [this, List.sum_replicate_nat]
    have et : as.take (i + 1) = as.take i ++ [a] := by rw [List.take_succ, q]; rfl
    refine h2 i a _ q fun env' hT hE => ⟨fun _ => hT _ ⟨fun j acc2 => acc2 = acc ++ (bs.take j).map (f a), by simp, fun j d acc2 e2 hI2 => ?_, fun acc2 hI2 => ?_⟩, fun z => nomatch z⟩
    · rw [List.getElem?_map] at e2
      cases q2 : bs[j]? with
      | none => rw [q2] at e2; cases e2
      | some b =>
        rw [q2] at e2
        cases e2
        have hj := (List.getElem?_eq_some_iff.mp q2).1
        have key := hE j b (fun y => acc2.length < sizeLine ∧ acc2 ++ [y] = acc ++ (bs.take (j + 1)).map (f a)) q2 ⟨by
          rw [hI2, List.length_append, List.length_map, List.length_take, eacc]
          have : (i + 1) * bs.length ≤ as.length * bs.length := Nat.mul_le_mul_right _ hi
          rw [Nat.succ_mul] at this
          omega, by rw [hI2, take_succ_map (f a) q2, List.append_assoc]⟩
        have e1 : (fun env'' => xYes env'' (fun b => (b = true → Te env'' (fun y => acc2.length < sizeLine ∧ acc2 ++ [y] = acc ++ (bs.take (j + 1)).map (f a)) noX) ∧ (b = false → acc2 = acc ++ (bs.take (j + 1)).map (f a))) noX) = fun env'' => Te env'' (fun y => acc2.length < sizeLine ∧ acc2 ++ [y] = acc ++ (bs.take (j + 1)).map (f a)) noX := by
          funext env''
          refine propext ⟨fun t => t.1 rfl, fun t => ⟨fun _ => t, fun z => nomatch z⟩⟩
        rw [e1]
        exact key
    · show acc2 = (as.take (i + 1)).flatMap fun a => bs.map (f a)
      rw [hI2, List.length_map, List.take_length, et, List.flatMap_append, hI]
      simp
def asStrs : List D → Option (List Str)
  | [] => some []
  | .str i :: r => (asStrs r).map (i :: ·)
  | _ :: _ => none
theorem w_asStrs (ns : List Str) : asStrs (ns.map D.str) = some ns := by
  induction ns with
  | nil => rfl
  | cons n ns ih => show (asStrs (ns.map D.str)).map (n :: ·) = _; rw [ih]; rfl
def asS (R : Str → Prop) : D → Prop
  | .str s => R s
  | _ => False
theorem w_asS {Q : Str → Prop} {s : Str} : asS Q (.str s) = Q s := rfl
def opJoin (a : Str) : D → (D → Prop) → Prop
  | .lst xs, R => ∃ ys : List Str, asStrs xs = some ys ∧ (ys.map (·.length)).sum + ys.length * a.length ≤ 16777216 ∧ R (.str (Txt.join a ys))
  | _, _ => False
theorem w_join {a : Str} {xs : List D} {R : D → Prop} : opJoin a (.lst xs) R = ∃ ys : List Str, asStrs xs = some ys ∧ (ys.map (·.length)).sum + ys.length * a.length ≤ 16777216 ∧ R (.str (Txt.join a ys)) := rfl
def opFind (a : Str) : D → (D → Prop) → Prop
  | .str b, R => R (.int (Txt.find a b))
  | _, _ => False
theorem w_find {a b : Str} {R : D → Prop} : opFind a (.str b) R = R (.int (Txt.find a b)) := rfl
def xM1 (op : Str → D → (D → Prop) → Prop) (To Te : DT) : DT := fun env R Rx => To env (asS fun a => Te env (fun y => op a y R) Rx) Rx
theorem w_m1 {op : Str → D → (D → Prop) → Prop} {To Te : DT} {env : En} {R : D → Prop} {Rx : Er → Prop} : xM1 op To Te env R Rx = To env (asS fun a => Te env (fun y => op a y R) Rx) Rx := rfl
section
variable {X : Cx} {E : XK} {o e : Expr} {To Te : DT} {apos pos : Pos}
theorem d_find (ho : DE X E o To) (he : DE X E e Te) (hs : starEach [e] X.env = [(false, eval e X.env)] := by rfl) (hbase : attributeBase o "find" X.env (eval o X.env) = eval o X.env := by rfl) (hline : (apos.endLine == pos.line) = true := by rfl) :
    DE X E (.Call (.Attribute o "find" apos) [e] [] pos) (xM1 opFind To Te) := by
  obtain ⟨to, p1, s1⟩ := ho
  obtain ⟨te, p2, s2⟩ := he
  refine ⟨_, pe_m1 PySem.F.slot_str_find PySem.F.type_str_find mt_find p1 p2 hs hbase hline, fun c σ H S env R Rx x k t Q q => s1 c σ H S env _ Rx x k t _ fun v H1 S1 d k1 s3 r1 t1 => ?_⟩
  cases d <;> try exact (show False from t1).elim
  refine ⟨⟨_, r1⟩, s2 c σ H1 S1 env _ Rx x k1 t1 _ fun u H2 S2 d2 k2 s4 r2 t2 => ?_⟩
  cases d2 <;> try exact (show False from t2).elim
  exact ⟨_, _, r1, by rw [show u = _ from r2], q _ H2 S2 (.int _) k2 (s3.trans s4) rfl t2⟩
def fStrI : DFn
  | [.int i], R => i.natAbs.log2 < 1920 ∧ R (.str (toString i))
  | _, _ => False
theorem w_fStrI {i : Int} {R : D → Prop} : fStrI [.int i] R = (i.natAbs.log2 < 1920 ∧ R (.str (toString i))) := rfl
end
end DL
namespace DL
open PySem PySem.Spec L2 PyProof.Rows
variable [TbC]
section
variable {X : Cx} {E : XK} {a b e ix : Expr} {pos p1 p2 : Pos} {Ti Tv : DT}
theorem get_list : PGet X (rIxL X.K) := by
  intro pins s σ H x y v u Q I rx ry h
  obtain ⟨p, xs, i, z, rfl, rfl, hq, he, q⟩ := h
  cases rx
  obtain ⟨t, rfl⟩ := ry
  obtain ⟨its, r, pl, hz⟩ := I.list hq
  obtain ⟨j, h1, h2, h3, h4, h5⟩ := atI_get he
  obtain ⟨w, ew, rw'⟩ := r.get h2
  have hl := r.length
  have hn := line63
  have fin : EP X pins σ Q w s := ⟨z, H, I, rw', q⟩
  by_cases h0 : 0 ≤ i
  · have hj : i.toNat = j := by
      rw [seqIndex_of h0 h5] at h1
      exact Option.some.inj h1
    exact wpAny_getItem_list pl.isList h0 (by omega) (by rw [hj]; simpa using ew) fin
  · have hj : (i + (its.toArray.size : Int)).toNat = j := by
      rw [seqIndex_neg (by omega) h4] at h1
      rw [List.size_toArray, ← hl]
      exact Option.some.inj h1
    exact wpAny_getItem_list_neg pl.isList (by omega) (by rw [List.size_toArray] <;> omega) (by omega) (by rw [hj]; simpa using ew) fin
theorem atI_ixN {α : Type} {xs : List α} {k : Int} {j : Nat} (h : ixN xs.length k = some j) : atI xs k = xs[j]? := by
  unfold atI
  rw [h]
  rfl
/-- xs[k] op= e -/
def zAugO (i : Nat) (f : Int → Int → Int) (Ti Tv : DT) : DTS := fun Q env => ∃ xs, env[i]? = some (some (.own xs)) ∧ Ti env (asI fun k => ∃ j n, ixN xs.length k = some j ∧ xs[j]? = some (.int n) ∧ Tv env (asI fun m => Q.nx (putO' i (xs.set j (.int (f n m))) env)) Q.ex) Q.ex
theorem w_zAugO {i : Nat} {f : Int → Int → Int} {Q : DEnds} {env : En} : zAugO i f Ti Tv Q env = ∃ xs, env[i]? = some (some (.own xs)) ∧ Ti env (asI fun k => ∃ j n, ixN xs.length k = some j ∧ xs[j]? = some (.int n) ∧ Tv env (asI fun m => Q.nx (putO' i (xs.set j (.int (f n m))) env)) Q.ex) Q.ex := rfl
theorem s_augO (i : Nat) {x : Str} {op : Operator} {f : Int → Int → Int} (ho : PIp X op (ipI f)) (hi : DE X E ix Ti) (hv : DE X E e Tv) (hN : X.N[i]? = some x := by rfl) (hvi : Vis X.env.scope x := by first | exact Or.inl rfl | exact Or.inr (Or.inl rfl) | exact Or.inr (Or.inr rfl))
    (hd : (x == ("__debug__" : Str)) = false := by decide) (hcd : (x == ("__classdict__" : Str)) = false := by decide)
    (ha : ∀ ov iv new, augStore ix ov iv new = (do holding [new, ov, iv] (setItem ov iv new); release [new, ov, iv] []; pure .next) := by intros; rfl) :
    DS X E (.AugAssign (.Subscript (.Name x p1) ix p2) op e pos) (zAugO i f Ti Tv) := by
  obtain ⟨ti, pi1, si⟩ := hi
  obtain ⟨tv, pv1, sv⟩ := hv
  refine ⟨_, ps_augS (pv i hN hvi hd hcd) pi1 get_list pv1 ho set_list ha, fun c σ H S env Q x k t Dn m => ?_⟩
  obtain ⟨xs, exs, t⟩ := t
  obtain ⟨p, vs0, ep, _⟩ := own_of k exs
  refine ⟨_, ep, si c σ H S env _ _ x k t _ fun u H1 S1 d k1 s1 r1 t1 => ?_⟩
  cases d <;> try exact (show False from t1).elim
  rename_i kk
  obtain ⟨j, n, ej, en, t1⟩ := t1
  obtain ⟨q, vs, e1, _, _, h2, l⟩ := own_of k1 exs
  rw [ep] at e1
  cases e1
  obtain ⟨w, ew, rw'⟩ := l.get en
  have hj : ixN vs.length kk = some j := by rw [l.length]; exact ej
  refine ⟨p, vs, kk, w, rfl, r1, SqL.of h2, by rw [atI_ixN hj]; exact ew, ?_⟩
  refine sv c σ H1 S1 env _ _ x k1 t1 _ fun v2 H4 S4 d4 k4 s4 r4 t4 => ?_
  cases d4 <;> try exact (show False from t4).elim
  rename_i mm
  obtain ⟨q', vs', e1', _, _, h2', l'⟩ := own_of k4 exs
  rw [ep] at e1'
  cases e1'

  refine ⟨n, mm, rw', r4, p, vs', kk, j, rfl, r1, h2', by rw [l'.length]; exact ej, ?_⟩
  have l2 := l'.set j (d := .int (f n mm)) (v := .int (f n mm)) rfl
  exact m.1 _ _ S4 _ (k4.change exs ep l2) (s1.trans s4) t4
end
end DL
namespace DL
open PySem PySem.Spec L2
variable [TbC]
def thaw1 : Option DV → Option DV
  | some (.own xs) => some (.val (.lst xs))
  | some (.tre t _) => some (.val t.d)
  | o => o
def thaw (env : En) : En := env.map thaw1
theorem w_thaw_nil : thaw [] = [] := rfl
theorem w_thaw_cons {o : Option DV} {l : En} : thaw (o :: l) = thaw1 o :: thaw l := rfl
theorem w_thaw_own {xs : List D} : thaw1 (some (.own xs)) = some (.val (.lst xs)) := rfl
theorem w_thaw_val {d : D} : thaw1 (some (.val d)) = some (.val d) := rfl
theorem w_thaw_none : thaw1 none = none := rfl
theorem w_thaw_tre {t : T} {as : List Addr} : thaw1 (some (.tre t as)) = some (.val t.d) := rfl
theorem thaw_get {env : En} {j : Nat} {x : DV} (e : (thaw env)[j]? = some (some x)) : (∃ d, x = .val d ∧ env[j]? = some (some (.val d))) ∨ (∃ xs, x = .val (.lst xs) ∧ env[j]? = some (some (.own xs))) ∨ ∃ t as, x = .val t.d ∧ env[j]? = some (some (.tre t as)) := by
  unfold thaw at e
  rw [List.getElem?_map] at e
  cases q : env[j]? with
  | none => rw [q] at e; cases e
  | some o =>
    rw [q] at e
    cases o with
    | none => cases e
    | some y =>
      cases y with
      | val d => cases e; exact .inl ⟨d, rfl, rfl⟩
      | own xs => cases e; exact .inr (.inl ⟨xs, rfl, rfl⟩)
      | tre t as => cases e; exact .inr (.inr ⟨t, as, rfl, rfl⟩)
/-- a is the address of a thing of the frame's own -/
def OwnA (σ : St) (env : En) (a : Addr) : Prop := ∃ (j : Nat) (x : DV) (v : V), env[j]? = some (some x) ∧ σ[j]? = some (some v) ∧ Foot x v a
open Classical in
noncomputable def lendS (σ : St) (env : En) (H S : Hp) : Hp := fun a => if OwnA σ env a then H a else S a
open Classical in
noncomputable def backS (σ : St) (env : En) (S : Hp) : Hp := fun a => if OwnA σ env a then none else S a
section
variable {c : Fm} {σ : St} {H H' S S' : Hp} {env : En} {a : Addr}
theorem lend_own (o : OwnA σ env a) : lendS σ env H S a = H a := if_pos o
theorem lend_not (o : ¬ OwnA σ env a) : lendS σ env H S a = S a := if_neg o
theorem back_own (o : OwnA σ env a) : backS σ env S a = none := if_pos o
theorem back_not (o : ¬ OwnA σ env a) : backS σ env S a = S a := if_neg o
theorem ownA_at (k : Kn c σ H S env) (o : OwnA σ env a) : S a = none ∧ c.H0 a = none ∧ Mu (H a) := by
  obtain ⟨j, x, v, e, e1, f⟩ := o
  obtain ⟨u, e2, r⟩ := k.sl j _ e
  rw [e1] at e2
  cases e2
  exact r.foot a f
theorem not_own (k : Kn c σ H S env) {o : HO} (e : S a = some o) : ¬ OwnA σ env a := fun z => by
  rw [(ownA_at k z).1] at e
  cases e
theorem same_lend (k : Kn c σ H S env) : Same S (lendS σ env H S) := fun a o e => by
  rw [lend_not (not_own k e)]
  exact e
theorem Kn.lend (k : Kn c σ H S env) : Kn (c.at H (lendS σ env H S)) σ H (lendS σ env H S) (thaw env) := by
  refine ⟨⟨fun a o e => ?_, Same.refl _, fun _ _ e _ => e, fun a e _ => e, fun b e => ?_, ⟨fun p hp => ⟨(k.kf.tab.1 p hp).1, by rw [lend_not fun z => k.kf.tab.2 p hp (ownA_at k z).2.1]; exact (k.kf.tab.1 p hp).2⟩, fun p hp => k.kf.tab.1.ne hp⟩⟩, ?_, fun j x e => ?_, fun i j x y v u a _ e _ _ _ f _ => ?_⟩
  · by_cases z : OwnA σ env a
    · rw [lend_own z] at e
      exact e
    · rw [lend_not z] at e
      exact k.kf.sub a o e
  · obtain ⟨⟨b1, cs, i, g, st, n, b2, b3, b4⟩, b5⟩ := k.kf.bag b e
    have nb : ¬ OwnA σ env b := fun z => b5 (ownA_at k z).2.1
    refine ⟨⟨by rw [lend_not nb]; exact b1, cs, i, g, st, n, b2, same_lend k _ _ b3, b4⟩, ?_⟩
    show H b ≠ none
    rw [b2]
    exact fun z => nomatch z
  · unfold thaw
    rw [List.length_map]
    exact k.len
  · rcases thaw_get e with ⟨d, rfl, e2⟩ | ⟨xs, rfl, e2⟩ | ⟨t, as, rfl, e2⟩
    · obtain ⟨v, e3, r⟩ := k.sl j _ e2
      exact ⟨v, e3, rep_mono (same_lend k) d v r⟩
    · obtain ⟨v, e3, p, vs, rfl, h1, h2, h3, h4⟩ := k.sl j _ e2
      refine ⟨_, e3, ?_⟩
      show Rep c.B _ (.lst xs) (.ref p)
      rw [Rep]
      exact ⟨p, vs, rfl, by rw [lend_own ⟨j, _, _, e2, e3, rfl⟩]; exact h3, repL_mono (same_lend k) _ _ h4⟩
    · obtain ⟨v, e3, r⟩ := k.sl j _ e2
      exact ⟨v, e3, rep_tree (same_lend k) t v as (fun a m => lend_own ⟨j, _, _, e2, e3, m⟩) r.1⟩
  · rcases thaw_get e with ⟨d, rfl, _⟩ | ⟨xs, rfl, _⟩ | ⟨t, as, rfl, _⟩ <;> exact f
theorem Kf.lendX (k : Kn c σ H S env) (k' : Kf (c.at H (lendS σ env H S)) H' S') : Kf c H' S' := by
  refine ⟨k'.sub, (k.kf.s0.trans (same_lend k)).trans k'.s0, fun a o e n => k'.old a o (k.kf.old a o e n) n, fun a e n => ?_, fun b e => ⟨(k'.bag b e).1, (k.kf.bag b e).2⟩, ⟨k'.tab.1, k.kf.tab.2⟩⟩
  refine k'.new a ?_ (k.kf.back n)
  show lendS σ env H S a = none
  rw [lend_not fun z => n.1 (ownA_at k z).2.1]
  exact k.kf.new a e n
theorem XOk.lend {E : XK} {Rx : Er → Prop} (x : XOk c E Rx) (k : Kn c σ H S env) : XOk (c.at H (lendS σ env H S)) E Rx := fun er d vs H1 S1 k1 r l h n0 n1 z => x er d vs H1 S1 (Kf.lendX k k1) r l h (k.kf.h0_none n0) n1 z
theorem Kn.unlend (k : Kn c σ H S env) (k' : Kf (c.at H (lendS σ env H S)) H' S') : Kn c σ H' (backS σ env S') env ∧ Same S (backS σ env S') := by
  have ss : Same S (backS σ env S') := fun a o e => by
    rw [back_not (not_own k e)]
    exact k'.s0 _ _ (same_lend k _ _ e)
  have kx := Kf.lendX k k'
  have bs : Same (backS σ env S') S' := fun a o e => by
    by_cases z : OwnA σ env a
    · rw [back_own z] at e
      cases e
    · rw [back_not z] at e
      exact e
  refine ⟨⟨⟨fun a o e => kx.sub a o (bs a o e), k.kf.s0.trans ss, kx.old, fun a e n => ?_, fun b e => ?_, ⟨fun p hp => ⟨(kx.tab.1 p hp).1, by
    by_cases z : OwnA σ env p.1
    · exact back_own z
    · rw [back_not z]
      exact (kx.tab.1 p hp).2⟩, k.kf.tab.2⟩⟩, k.len, fun j x e => ?_, k.apart⟩, ss⟩
  · have := kx.new a e n
    by_cases z : OwnA σ env a
    · exact back_own z
    · rw [back_not z]
      exact this
  · obtain ⟨⟨b1, cs, i, g, st, n, b2, b3, b4⟩, b5⟩ := kx.bag b e
    obtain ⟨⟨_, cs0, _, _, _, _, _, b3', _⟩, _⟩ := k.kf.bag b e
    refine ⟨⟨?_, cs, i, g, st, n, b2, ?_, b4⟩, b5⟩
    · by_cases z : OwnA σ env b
      · exact back_own z
      · rw [back_not z]
        exact b1
    · rw [back_not (not_own k b3')]
      exact b3
  · obtain ⟨v, e3, r⟩ := k.sl j x e
    refine ⟨v, e3, r.keep rfl ss fun a fa => ?_⟩
    obtain ⟨f1, f2, _⟩ := r.foot a fa
    exact ⟨back_own ⟨j, x, v, e, e3, fa⟩, f2, fun o e4 => k'.old a o e4 (k.kf.x_ne0 f2)⟩
end
section
variable {X : Cx} {E : XK} {e : Expr}
def xLendT (T : DTT) : DTT := fun env R Rx => T (thaw env) R Rx
theorem w_lendT {T : DTT} {env : En} {R : Bool → Prop} {Rx : Er → Prop} : xLendT T env R Rx = T (thaw env) R Rx := rfl
def xLend (T : DT) : DT := fun env R Rx => T (thaw env) (fun d => d.flat = true ∧ R d) Rx
theorem w_lend {T : DT} {env : En} {R : D → Prop} {Rx : Er → Prop} : xLend T env R Rx = T (thaw env) (fun d => d.flat = true ∧ R d) Rx := rfl
theorem d_lend {T : DT} (h : DE X E e T) : DE X E e (xLend T) := by
  obtain ⟨t, p, s⟩ := h
  refine ⟨t, p, fun c σ H S env R Rx x k t Q q => s _ σ H _ _ _ Rx (x.lend k) k.lend t Q fun v H1 S1 d k1 s1 r1 t1 => ?_⟩
  obtain ⟨k2, s2⟩ := k.unlend k1.kf
  exact q v H1 _ d k2 s2 (flat_rep t1.1 r1) t1.2
def xLendN (T : DT) : DT := fun env R Rx => T (thaw env) R Rx
theorem w_lendN {T : DT} {env : En} {R : D → Prop} {Rx : Er → Prop} : xLendN T env R Rx = T (thaw env) R Rx := rfl
end
end DL
namespace DL
open PySem PySem.Spec L2 PyProof.Rows
variable [TbC]
/-- the signs of x, each in a new pair with its number -/
def IteS (x : Str) : It := ⟨fun i _ => i < x.cps.size, fun i H v H' => ∃ T c, v = .ref T ∧ H T = none ∧ x.cps[i]? = some c ∧ H' = upd H T (.tup [.int (i : Nat), .str ⟨#[c]⟩]), fun i _ => x.cps.size ≤ i⟩
theorem turn_enumS {P : Program} {w : World} {K : PySem.W.Frag} {elts : List Expr} {kk : Nat} {tpos : Pos} (x : Str) (t : Tok) (e it : Addr) :
    Turn P w K (.Tuple elts kk tpos) (IteS x) [e, it] e (fun i h => i ≤ x.cps.size ∧ (∃ old, IsEnum h e it ((i : Nat) : Int) old) ∧ h.IsStrIter it (strIterType x) x t i ∧ e ≠ it) where
  mem := by simp
  obj := fun i h st b hb => by
    obtain ⟨_, ⟨old, he⟩, ⟨o, ho, hc, hd⟩, _⟩ := st
    have e' : b = e ∨ b = it := by simpa using hb
    rcases e' with z | z
    · rw [z]; exact ⟨_, he, fun v q => nomatch q⟩
    · rw [z]; exact ⟨o, ho, fun v q => by rw [hd] at q; cases q⟩
  keep := fun i h h' st k => let ⟨hl, ⟨old, he⟩, ⟨o, ho, r⟩, hne⟩ := st; ⟨hl, ⟨old, k e (by simp) _ he⟩, ⟨o, k it (by simp) o ho, r⟩, hne⟩
  item := by
    intro X hP hw hK hc i pins s σ H E I hf st hg
    subst hP hw hK
    obtain ⟨hl, ⟨old, he⟩, hit, hne⟩ := st
    have hel : e < s.heap.objs.size := Heap.lt_size he
    have hil : it < s.heap.objs.size := by obtain ⟨_, q, _⟩ := hit; exact Heap.lt_size q
    have Dr := Draws.text (prog := X.prog) (w := X.w) (A := X.A.in1) (show X.A.in1.handled = none from I.ok.hd hc) it x t
    refine wpAny_pyNext_enum_itemD Dr he hit hg hne (by simp; exact hne) fun u h' tk hP ho hit' hT hsz hk => ?_
    obtain ⟨c, tu, hcx, rfl⟩ := hP
    refine ⟨_, rfl, wpAny_letOwnedTupleGo_enum (s := { s with heap := h', toks := tk + 1 }) ho fun h'' he' sb => ?_⟩
    have hT2 : h''.get? s.heap.objs.size = some { cls := .type "tuple", data := .seq #[.int i tk, .str ⟨#[c]⟩ tu] } := (sb.2 _ (Nat.ne_of_gt hel)).trans hT
    have new : ObjOk X.prog X.w (upd H s.heap.objs.size (.tup [.int (i : Nat), .str ⟨#[c]⟩])) h'' s.heap.objs.size (.tup [.int (i : Nat), .str ⟨#[c]⟩]) :=
      ⟨by show 2 ≤ sizeLine; decide, [.int i tk, .str ⟨#[c]⟩ tu], .cons ⟨_, rfl⟩ (.cons ⟨_, rfl⟩ .nil), ⟨_, hT2, rfl, _, rfl⟩⟩
    have I1 : Inv X pins σ (upd H s.heap.objs.size (.tup [.int (i : Nat), .str ⟨#[c]⟩])) { s with heap := h'', toks := tk + 1 } :=
      I.turnedNew (ch := [e, it]) (fun b ob hb q => (sb.2 b (fun z => hb (by simp [z]))).trans (hk b ob (fun z => hb (by simp [z])) (fun z => hb (by simp [z])) q)) hf (Nat.le_refl _) new
    refine ⟨.ref s.heap.objs.size, _, I1, rfl, ⟨_, c, rfl, I.hok.fresh (Nat.le_refl _), hcx, rfl⟩, ⟨hg, ⟨.str ⟨#[c]⟩ tu, ?_⟩, ?_, hne⟩, fun b hb => ?_⟩
    · have e1 : ((i + 1 : Nat) : Int) = (i : Int) + 1 := by omega
      rw [e1]; exact he'
    · obtain ⟨o2, q2, r2⟩ := hit'
      exact ⟨o2, (sb.2 it (Ne.symm hne)).trans q2, r2⟩
    · have hb' : b < s.heap.objs.size := by
        have e' : b = e ∨ b = it := by simpa using hb
        rcases e' with z | z
        · rw [z]; exact hel
        · rw [z]; exact hil
      rw [upd_ne (Nat.ne_of_lt hb')]
      exact (hf b hb).1
  done := by
    intro X hP hw hK hc i pins s σ H E I hf st hg
    subst hP hw hK
    obtain ⟨hl, ⟨old, he⟩, hit, hne⟩ := st
    obtain ⟨f0, f1, f2, f3, f4, f5⟩ := hf it (by simp)
    have Dr := Draws.text (prog := X.prog) (w := X.w) (A := X.A.in1) (show X.A.in1.handled = none from I.ok.hd hc) it x t
    have ei : i = x.cps.size := Nat.le_antisymm hl hg
    subst ei
    exact wpAny_pyNext_enum_endD Dr he hit fun h' eb => ⟨rfl, I.turned (t' := s.toks) (fun b o hb q => eb b o hb q) f0 f1 f3 f4 f5⟩
  self := fun A i s Q E st h => let ⟨_, ⟨_, he⟩, _⟩ := st; wpAny_pyIter_enum he h
def iEnumS (ta : TA) : TI := fun σ H R => ta σ H fun vs H1 => ∃ x, vs = [.str x] ∧ R (IteS x) H1
theorem pi_enumS {X : Cx} {e : Expr} {ta : TA} {p pos tpos : Pos} {elts : List Expr} {kk : Nat} (hg : Gl X "enumerate") (hm : X.mg "enumerate" = none) (ha : PA X [e] ta) (hs : starEach [e] X.env = [(false, eval e X.env)] := by rfl) :
    PI X (.Tuple elts kk tpos) (.Call (.Name "enumerate" p) [e] [] pos) (iEnumS ta) := by
  refine ⟨fun pins s σ H R I h => ?_⟩
  refine Call_ (ld_blt I hg hm boot_enumerate (PyProof.Rows.callWith_type1 (thn (ha.run pos pins s σ H _ I h) fun us s1 ⟨vs, H1, I1, r1, q1⟩ => ?_) hs rfl))
  obtain ⟨x, ex, q⟩ := q1
  subst ex
  cases r1 with
  | cons r rr =>
    cases rr
    obtain ⟨t, rfl⟩ := r
    refine call_enumerate_str fun h' he hit hsz hk => wpAny_pyIter_enum he ?_
    have I2 : Inv X pins σ H1 { s1 with heap := h' } := I1.kept (t' := s1.toks) hk
    refine ⟨s1.heap.objs.size + 1, [s1.heap.objs.size + 1, s1.heap.objs.size], _, _, H1, rfl, I2, turn_enumS x t (s1.heap.objs.size + 1) s1.heap.objs.size, ⟨Nat.zero_le _, ⟨.none, he⟩, hit, Nat.succ_ne_self _⟩, fun b hb => ?_, q⟩
    have e' : b = s1.heap.objs.size + 1 ∨ b = s1.heap.objs.size := by simpa using hb
    have hle : s1.heap.objs.size ≤ b := by
      rcases e' with z | z
      · rw [z]; exact Nat.le_add_right _ _
      · rw [z]; exact Nat.le_refl _
    exact I1.fpOk hle (I1.hok.fresh hle)
theorem ites_ok {B : Option Addr} {S : Hp} {s : Str} : ItOk B (IteS s) S (nums 0 (signs s)) := fun c hB i σ H S1 env k ss => by
  subst hB
  have hl : (signs s).length = s.cps.size := by unfold signs; rw [List.length_map]; rfl
  refine ⟨fun d e => ?_, fun h => by rw [nums_length, hl] at h; exact h⟩
  obtain ⟨x, ex, rfl⟩ := nums_get _ _ _ _ e
  have hi : i < s.cps.size := by
    have := (List.getElem?_eq_some_iff.mp ex).1
    rw [hl] at this
    exact this
  refine ⟨hi, fun z H' yl => ?_⟩
  obtain ⟨T, c', rfl, hT, hcx, rfl⟩ := yl
  have ex2 : x = .str ⟨#[c']⟩ := by
    unfold signs at ex
    rw [List.getElem?_map, Array.getElem?_toList, hcx] at ex
    cases ex
    rfl
  subst ex2
  obtain ⟨k', s', r'⟩ := put_tup (ds := [.int i, .str ⟨#[c']⟩]) (vs := [.int i, .str ⟨#[c']⟩]) k (repL_cons rfl (repL_cons rfl repL_nil)) hT
  rw [Int.zero_add]
  exact ⟨_, k', s', r'⟩
def xEnumS (Tl : DTA) : DTI := fun env R Rx => Tl env (fun ds => match ds with
  | [.str s] => R (nums 0 (signs s))
  | _ => False) Rx
section
variable {X : Cx} {E : XK} {p pos : Pos} {a : Expr} {Tl : DTA}
theorem w_enumS {env : En} {R : List D → Prop} {Rx : Er → Prop} : xEnumS Tl env R Rx = Tl env (fun ds => match ds with
  | [.str s] => R (nums 0 (signs s))
  | _ => False) Rx := rfl
theorem i_enumS {tpos : Pos} {elts : List Expr} {kk : Nat} (ha : DA X E [a] Tl) (hm : X.mg "enumerate" = none) (hg : Gl X "enumerate" := by rfl) (hs : starEach [a] X.env = [(false, eval a X.env)] := by rfl) :
    DI X E (.Tuple elts kk tpos) (.Call (.Name "enumerate" p) [a] [] pos) (xEnumS Tl) := by
  obtain ⟨t, pa, s⟩ := ha
  refine ⟨_, pi_enumS hg hm pa hs, fun c σ H S env R Rx x k t Rr q => s c σ H S env _ Rx x k t _ fun vs H1 S1 ds k1 s1 r1 t1 => ?_⟩
  match ds, t1 with
  | [.str z], t1 =>
    obtain ⟨v, rfl, r2⟩ := rep1 r1
    exact ⟨z, by rw [show v = _ from r2], q _ H1 S1 _ k1 s1 ites_ok t1⟩
end
end DL
namespace DL
open PySem PySem.Spec L2
variable [TbC]
section
variable {X : Cx} {E : XK} {pos p1 : Pos} {a : Expr} {T : DTF}
def zParN (i j l : Nat) (T : DTF) : DTS := fun Q env => T env (fun ds => ∃ d, env[l]? = some (some (.val d)) ∧ Q.nx (put j d (putO' i ds env))) Q.ex
theorem w_zParN {i j l : Nat} {Q : DEnds} {env : En} : zParN i j l T Q env = T env (fun ds => ∃ d, env[l]? = some (some (.val d)) ∧ Q.nx (put j d (putO' i ds env))) Q.ex := rfl
theorem s_parN {i j l : Nat} {x y z : Str} {px py pt pz : Pos} {kt k2 pt2} (hc : X.calm = true) (hN : X.N.Nodup) (ha : DF X E a T) (hl : X.N[l]? = some z := by rfl) (hv : Vis X.env.scope z := by first | exact Or.inl rfl | exact Or.inr (Or.inl rfl) | exact Or.inr (Or.inr rfl)) (hi : X.N[i]? = some x := by rfl) (hj : X.N[j]? = some y := by rfl) (hij : i ≠ j := by decide)
    (hx : X.env.scope.names.lookup x = some .local := by rfl) (hy : X.env.scope.names.lookup y = some .local := by rfl)
    (hw : swappedStores [.Tuple [.Name x px, .Name y py] kt pt] (.Tuple [a, .Name z pz] k2 pt2) X.env = pure (some [x, y]) := by rfl)
    (hs : swapsWithSole [.Tuple [.Name x px, .Name y py] kt pt] (.Tuple [a, .Name z pz] k2 pt2) pos.line X.env = pure false := by rfl)
    (h1 : starEach [a, .Name z pz] X.env = (false, eval a X.env) :: starEach [.Name z pz] X.env := by rfl) (h2 : starEach [.Name z pz] X.env = (false, eval (.Name z pz) X.env) :: starEach [] X.env := by rfl)
    (hd : (z == ("__debug__" : Str)) = false := by decide) (hcd : (z == ("__classdict__" : Str)) = false := by decide) :
    DS X E (.Assign [.Tuple [.Name x px, .Name y py] kt pt] (.Tuple [a, .Name z pz] k2 pt2) pos) (zParN i j l T) := by
  obtain ⟨t, p, s⟩ := ha
  refine ⟨_, ps_par hc hN hi hj hij hx hy (pa_cons p (pa_cons (pv l hl hv hd hcd) pa_nil h2) h1) hw hs, fun c σ H S env Q x k t D m => s c σ H S env _ _ x k t _ fun p vs H1 S1 ds k1 s1 n0 f n2 e1 l1 t1 => ?_⟩
  obtain ⟨d, ed, t1⟩ := t1
  obtain ⟨v, ev, r⟩ := k1.sl l _ ed
  exact ⟨v, ev, _, v, rfl, m.1 _ H1 S1 _ ((k1.setOwn n2 n0 e1 l1 f).set r) s1 t1⟩
end
end DL
namespace EXS
open PySem PySem.Spec L2 PyProof.Rows
section
open PySem.W
variable {prog : Program} {w : World} {A : Around} {E : Value → Shared → Prop} {h : Heap} {g : Array GenState} {d : Drawn} {t : Nat} {os : OsState}
variable {nm q : Str} {C N : Addr} {bs bm : List Value} {hdct : Bool} {sn : List Str} {sub : List Value} {ab : Bool} {col : Option Bool} {dd : Option Addr} {k0 k1 k2 k3 k5 : Option Value} {newId : String}
theorem call_mw {B i : String} {bmB : List Value} (F : ExcBaseFacts B newId i bmB) {u e t0 : Addr} {rest : List Value} {Q : Value → Shared → Prop}
    (hC : h.get? C = some (excClassObj nm q C N bs bm hdct sn sub ab col dd k0 k1 k2 k3 k5 newId)) (he : h.get? e = some (PySem.HandSPX.excO C t0)) (hu : h.get? u = some (PySem.W.kxs_mw i e)) (hrest : rest.length ≤ sizeLine)
    (hq : ∀ h' t1, (∀ b o, b ≠ e → h.get? b = some o → h'.get? b = some o) → h'.get? e = some (PySem.HandSPX.excO C t1) → Q .none ⟨h', g, d, t, os⟩) :
    wpAny (model prog w) A (call (.ref u) rest) Q E ⟨h, g, d, t, os⟩ := by
  refine wpAny_call (codeAny_of_tree ?_)
  show wpAny _ A.in1 (callAny (.ref u) ⟨rest, []⟩) _ _ _
  simp only [callAny]
  refine wpAny_bind (wpAny_load hu ?_)
  simp only [PySem.W.kxs_mw, show (Value.type "method-wrapper" == Value.type "method" || Value.type "method-wrapper" == Value.type "builtin_function_or_method" || Value.type "method-wrapper" == Value.type "method-wrapper") = true by decide, if_true]
  refine PySem.W.KFB.if_so (by decide) ?_
  refine wpAny_bind (PySem.W.check_bound_init F.toExcCallFacts hC he rfl ?_)
  refine wpAny_bind (wpAny_pure (wpAny_pure ?_))
  refine ⟨by first | exact plainId_quiet F.init.plain _ | exact PySem.plainId_quiet F.init.plain _ | exact PySem.Calls.plainId_quiet F.init.plain _, codeAny_builtin F.initEntry ?_⟩
  rw [Around.under_plainId F.init.plain _]
  wp_walk
  refine hq _ h.objs.size (fun b o hb ho => ?_) ?_
  · rw [Heap.get?_update_other _ _ (Ne.symm hb)]
    exact Heap.get?_push_of_some _ ho
  · rw [Heap.get?_update_self _ (Heap.get?_push_of_some _ he) rfl]
    rfl
end
/-- the context of its body -/
def cxC (CX : CXT) (P : Program) (w : World) (K : PySem.W.Frag) (mg : Str → Option Value) (base : Heap) (N : List Str) (qual : Str) (scope : Scope) (f cc : Addr) (cd : Value) (A : Around) (outer : List Env) (s : Shared) (H : Hp) (E : XK) : Cx where
  prog := P
  w := w
  K := K
  mg := mg
  base := base
  A := A.deeper (PySem.W.ksEnv qual scope s.heap.objs.size f cd cc)
  N := N
  s_0 := s
  H_0 := H
  env := PySem.W.ksEnv qual scope s.heap.objs.size f cd cc
  outer := outer
  stack := PySem.W.ksEnv qual scope s.heap.objs.size f cd cc :: outer
  ex := []
  calm := true
  fn := fun x => !decide (x = "__class__")
  pn := []
  xe := fun e s' => wpAny (model P w) (A.deeper (PySem.W.ksEnv qual scope s.heap.objs.size f cd cc)) (leaving (PySem.W.ksEnv qual scope s.heap.objs.size f cd cc) e) (fun _ s'' => CX outer H s E e s'') (fun e' s'' => CX outer H s E e' s'') s'
/-- its names: parameters local, no cell of its own, of outer names only __class__ -/
structure SScope (N P : List Str) (sc : Scope) : Prop where
  kind : sc.kind = .function
  co : sc.isCoroutine = false
  gen : sc.isGenerator = false
  nd : N.Nodup
  pre : N.take P.length = P
  par : ∀ x ∈ P, sc.names.lookup x = some .local
  nocell : ∀ y ∈ sc.names, y.2 ≠ .cell
  free : ∀ y ∈ sc.names, y.2 = .free → y.1 = "__class__"
  sup : sc.names.lookup ("super" : Str) = some .globalImplicit
  cls : sc.names.lookup ("__class__" : Str) = some .free
theorem lookup_rev : ∀ {ps : List Str} {us : List Value} {i : Nat} {y : Str} {u : Value}, ps.Nodup → ps[i]? = some y → us[i]? = some u → (ps.zip us).reverse.lookup y = some u
  | [], _, _, _, _, _, h, _ => by simp at h
  | p :: ps, [], i, _, _, _, _, h => by simp at h
  | p :: ps, u0 :: us, 0, y, u, nd, h1, h2 => by
    simp at h1 h2
    subst h1
    subst h2
    rw [List.zip_cons_cons, List.reverse_cons, List.lookup_append]
    have hn : (ps.zip us).reverse.lookup p = none := by
      rw [List.lookup_eq_none_iff]
      intro q hq
      have hq2 := (List.of_mem_zip (List.mem_reverse.mp hq)).1
      have : p ∉ ps := (List.nodup_cons.mp nd).1
      simp
      exact fun z => this (z ▸ hq2)
    rw [hn]
    simp
  | p :: ps, u0 :: us, i + 1, y, u, nd, h1, h2 => by
    rw [List.zip_cons_cons, List.reverse_cons, List.lookup_append, lookup_rev (List.nodup_cons.mp nd).2 (by simpa using h1) (by simpa using h2)]
    rfl
theorem cell_of {K : PySem.W.Frag} {cc Cd : Addr} {h : Heap} (X : K.In h) (e : ∃ cl cld csl, K.lookup cc = some ⟨cl, cld, .cell (some (.ref Cd)), csl⟩) : h.IsCell cc (some (.ref Cd)) := by
  obtain ⟨cl, cld, csl, e⟩ := e
  exact ⟨_, X _ _ e, rfl⟩
theorem inv_startC {CX : CXT} {P : Program} {w : World} {K : PySem.W.Frag} {mg : Str → Option Value} {base : Heap} {N ps : List Str} {qual : Str} {scope : Scope} {f cc Cd : Addr} {cd : Value} {A : Around} {outer : List Env} {s : Shared} {h₁ : Heap} {tk : Nat} {H : Hp} {E : XK} {us : List Value} {vs : List V}
    (S : SScope N ps scope) (hd : A.handled = none) (e0 : Env0 P w K mg base A outer s H) (hl : vs.length = ps.length) (r : Vals vs us) (hcc : ∃ cl cld csl, K.lookup cc = some ⟨cl, cld, .cell (some (.ref Cd)), csl⟩)
    (hns : h₁.Ns s.heap.objs.size fun y => (ps.zip us).reverse.lookup y) (kp : ∀ b o, s.heap.get? b = some o → h₁.get? b = some o) :
    Inv (cxC CX P w K mg base N qual scope f cc cd A outer s H E) [] (L2.start N vs) H { s with heap := h₁, toks := tk } := by
  have hpl : ps.length ≤ N.length := by have := congrArg List.length S.pre; rw [List.length_take] at this; omega
  have noA : ∀ b : Addr, b ∉ (cxC CX P w K mg base N qual scope f cc cd A outer s H E).ex := fun b z => absurd (show b ∈ ([] : List Addr) from z) (by simp)
  have look : ∀ {y c}, ([(("__class__" : Str), cc)] : List (Str × Addr)).lookup y = some c → y = "__class__" ∧ c = cc := fun {y c} e => by
    simp only [List.lookup] at e
    split at e
    · rename_i q
      cases e
      exact ⟨by simpa using q, rfl⟩
    · cases e
  have X : K.In s.heap := e0.mod.kin.keeps fun b o e => (e0.bs b o e).1
  have Xb : K.In base := e0.mod.kin
  have hcn : H cc = none := by
    obtain ⟨cl, cld, csl, e⟩ := hcc
    exact (e0.bs cc _ (Xb _ _ e)).2
  refine ⟨⟨e0.mod, S.kind, rfl, rfl, Nat.le_refl _, fun y z c h1 h2 => ?_, fun y hy => ?_, fun y c z h => ?_, fun _ => hd, Around.frames_deeper e0.frames, .inr ⟨rfl, rfl⟩, fun b z => absurd z (noA b), e0.bs, e0.bsz, fun b _ _ => noA b, fun b z => absurd z (noA b), e0.funs, e0.frf⟩,
    rfl, e0.bare, Un.kept kp, ⟨_, hns, fun i y v h1 h2 h3 => ?_⟩, fun y c h => ?_, e0.hok.fresh (Nat.le_refl _), fun y c h => ?_, fun p hp => absurd (show p ∈ ([] : List (Addr × Obj)) from hp) (by simp), e0.hok.kept kp, ?_⟩
  · exact (look h1).1.trans (look h2).1.symm
  · have hy : scope.names.lookup y = some .cell ∨ scope.names.lookup y = some .free := hy
    rcases hy with hy | hy
    · exact absurd rfl (S.nocell _ (PySem.mem_of_lookup hy))
    · have e := S.free _ (PySem.mem_of_lookup hy) rfl
      have e : y = "__class__" := e
      subst e
      exact ⟨cc, rfl⟩
  · have e := (look h).1
    subst e
    exact nomatch (show (!decide (("__class__" : Str) = "__class__")) = true from z)
  · have hi : i < vs.length := by
      unfold L2.start at h2
      by_cases hi : i < vs.length
      · exact hi
      · rw [List.getElem?_append_right (by simpa using hi)] at h2
        rw [List.getElem?_replicate] at h2
        split at h2 <;> cases h2
    have ha : vs[i]? = some v := by
      unfold L2.start at h2
      rw [List.getElem?_append_left (by simpa using hi), List.getElem?_map] at h2
      cases e : vs[i]? with
      | none => rw [e] at h2; cases h2
      | some a => rw [e] at h2; cases h2; rfl
    obtain ⟨u, hu, rv⟩ := r.get ha
    have hp : ps[i]? = some y := by
      rw [← S.pre, List.getElem?_take_of_lt (by omega)]; exact h1
    have ndP : ps.Nodup := by rw [← S.pre]; exact S.nd.sublist (List.take_sublist _ _)
    exact ⟨u, rv, .inl ⟨S.par y (List.mem_of_getElem? hp), lookup_rev ndP hp hu⟩⟩
  · obtain ⟨e1, e2⟩ := look h
    subst e2
    obtain ⟨o, ho, hdd⟩ := cell_of X hcc
    exact ⟨_, _, kp _ _ ho, hdd⟩
  · obtain ⟨e1, e2⟩ := look h
    rw [e2]
    exact hcn
  · unfold L2.start
    show _ = N.length
    rw [List.length_append, List.length_map, List.length_replicate]
    omega
end EXS
namespace EXS
open PySem PySem.Spec L2 PyProof.Rows
section
variable {X : Cx} {pins : List (Addr × Obj)} {σ : List (Option V)} {H : Hp} {s : Shared}
theorem at_super {body : List Stmt} {qual : Str} {scope : Scope} {L f cc cda D x C : Addr} {p0 p1 : Pos} {attr : Str} {whole : Sem Value} {fd : FuncData} {ar : Arg} {vs : Array Value} {file : Str} {tf : Tok} {oc ccl cl : Value} {od cdd cld : Option Addr} {osl ccs csl : Array (Option Value)} {cdD : ClassData} {ox : Obj} {Q : Value → Shared → Prop} {E : Value → Shared → Prop}
    (I : Inv X pins σ H s) (heq : X.env = PySem.W.ksEnv qual scope L f (.ref cda) cc)
    (hf : X.K.lookup f = some ⟨oc, od, .func fd, osl⟩) (hp : (fd.params.posonlyargs ++ fd.params.args).head? = some ar)
    (hcode : X.K.lookup cda = some ⟨ccl, cdd, .fields vs, ccs⟩) (hvs : vs[2]? = some (.str file tf)) (hfile : ((X.prog.main.file : Str) == file) = true)
    (hcell : X.K.lookup cc = some ⟨cl, cld, .cell (some (.ref D)), csl⟩) (hD : PySem.W.clsIn X.K D = some cdD) (hsub : PySem.W.mroIn X.K C (.ref D) = some true) (hsuper : X.mg "super" = none)
    (hat : (attr == ("__class__" : Str)) = false) (hks : scope.names.lookup ("super" : Str) = some .globalImplicit) (hkc : scope.names.lookup ("__class__" : Str) = some .free) (hka : scope.names.lookup ar.arg = some .local)
    (htop : (X.prog.main.scope.names.lookup ("super" : Str)).isSome = false)
    (hv : ∃ i : Nat, X.N[i]? = some ar.arg ∧ σ[i]? = some (some (V.ref x))) (hx : s.heap.get? x = some ox) (hxc : ox.cls = .ref C) (hnc : ∀ c, ox.data ≠ .cls c)
    (h : ∀ h', h'.get? s.heap.objs.size = some (PySem.W.ks_superObj D x C) → (∀ b o, s.heap.get? b = some o → h'.get? b = some o) → Q (.ref s.heap.objs.size) { s with heap := h' }) :
    PySem.wpAt (model X.prog X.w) X.A (.func body X.env) (attributeBase (.Call (.Name "super" p0) [] [] p1) attr X.env whole) Q E s := by
  have XK : X.K.In s.heap := I.kIn
  have hk : X.env.scope.kind = .function := I.ok.kind
  have hk2 : scope.kind = .function := by rw [heq] at hk; exact hk
  obtain ⟨m, hns, hlk⟩ := I.loc
  obtain ⟨i, hN, hσ⟩ := hv
  have hval : m ar.arg = some (.ref x) := by
    obtain ⟨u, ru, lu⟩ := hlk i _ _ hN hσ (.inl (by rw [heq]; exact hka))
    obtain rfl : u = Value.ref x := ru
    rcases lu with ⟨_, e⟩ | ⟨e, _⟩
    · exact e
    · rw [heq] at e
      have e : scope.names.lookup ar.arg = some .cell ∨ scope.names.lookup ar.arg = some .free := e
      rw [hka] at e
      rcases e with e | e <;> cases e
  obtain ⟨mb, hb1, hb2⟩ := I.mod.blt
  obtain ⟨oD, hD1, hD2⟩ : ∃ oD, s.heap.get? D = some oD ∧ oD.data = .cls cdD := by
    unfold PySem.W.clsIn at hD
    split at hD
    · rename_i c d cd' sl ho
      cases hD
      exact ⟨_, XK _ _ ho, rfl⟩
    · cases hD
  have hglob := I.ok.glob
  have hblt := I.ok.blt
  have g1 : s.heap.Ns X.env.globals X.mg := by rw [hglob]; exact I.mod.glob.keeps I.bk
  have g2 : s.heap.Ns X.env.builtins mb := by rw [hblt]; exact hb1.keeps I.bk
  rw [heq] at hns g1 g2 ⊢
  obtain ⟨hh, g, d, t, os⟩ := s
  refine PySem.ks_wpAt_super_base (env := PySem.W.ksEnv qual scope L f (.ref cda) cc) hks hkc hat rfl (XK _ _ hf) rfl hp rfl (XK _ _ hcode) rfl hvs hfile htop ?_
  refine PySem.W.ks_loadName_global hk2 hks (PySem.Calls.loadGlobal_builtin g1 hsuper g2 ((hb2 _ (by decide)).trans (show bootBuiltins "super" = some (.type "super") by first | boot_by_name | rfl | kernel_rfl)) ⟨rfl, ?_⟩)
  refine PySem.wpAny_loadName_free hk2 hkc rfl ⟨_, XK _ _ hcell, rfl⟩ ?_
  refine PySem.wpAny_loadName_local hk2 hka hns hval ?_
  refine PySem.ks_wpAny_isType_cls hD1 hD2 ⟨rfl, ?_⟩
  exact PySem.ks_wpAny_call_super hD1 hD2 hx hxc hnc (PySem.W.looks_mroIn XK hsub) (fun h' e k => h h' e k)
end
end EXS
namespace EXS
open PySem PySem.Spec L2 PyProof.Rows
structure SupFn (K : PySem.W.Frag) (fl : Str) (name qual : Str) (params : Arguments) (body : List Stmt) (scope : Scope) (D : Addr) (f cc cda : Addr) (fd : FuncData) : Prop where
  ex : ∃ (oc ccl cl dV kV doc pm ct : Value) (an od cdd cld : Option Addr) (osl ccs csl : Array (Option Value)) (vs : Array Value) (file : Str) (tf : Tok) (cdD : ClassData),
    fd = PySem.W.ksFn name qual params body scope dV kV doc pm an (.ref cda) ct cc ∧ K.lookup f = some ⟨oc, od, .func fd, osl⟩ ∧ PySem.W.codeIn K (.ref cda) qual = true ∧
    K.lookup cda = some ⟨ccl, cdd, .fields vs, ccs⟩ ∧ vs[2]? = some (.str file tf) ∧ (fl == file) = true ∧ K.lookup cc = some ⟨cl, cld, .cell (some (.ref D)), csl⟩ ∧ PySem.W.clsIn K D = some cdD ∧ dV = .none
  keep : PySem.W.keepIn K (.ref f) = true
/-- what it says of the class D whose __init__ this is: an exception over ValueError -/
structure ExcD (K : PySem.W.Frag) (D : Addr) : Prop where
  ox : OexC K D
  st : PySem.W.nsIn K PySem.cStatics "thirdparty.any" = some none
  su : PySem.W.ks_superIn K D D "__init__" = some (some (.builtin "ValueError.__init__"))
  mr : PySem.W.mroIn K D (.ref D) = some true
  ve : PySem.W.subIn K (.ref D) (.type "ValueError") = some true
section
variable {CX : CXT} {P : Program} {w : World} {K : PySem.W.Frag} {mg : Str → Option Value} {base : Heap} {k : Nat} {name qual : Str} {params : Arguments} {rest : List Stmt} {scope : Scope} {D f cc cda : Addr} {fd : FuncData} {N ps : List Str} {sp : Sp} {e : Expr} {es : List Expr} {p0 p1 p2 p3 p4 : Pos} {x0 : Str} {ar : Arg}
theorem fn_exc (F : SupFn K P.main.file name qual params (.Expr (.Call (.Attribute (.Call (.Name "super" p0) [] [] p1) "__init__" p2) (e :: es) [] p3) p4 :: rest) scope D f cc cda fd) (G : ExcD K D) (S : SScope N ps scope)
    (hsup : mg "super" = none) (htop : (P.main.scope.names.lookup ("super" : Str)).isSome = false) (hps : ps.head? = some x0) (hN : N[0]? = some x0) (hp : (params.posonlyargs ++ params.args).head? = some ar) (hx0 : ar.arg = x0)
    (len : ∀ vs H Q E, sp vs H Q E → vs.length = ps.length)
    (hobj : ∀ vs H Q E, sp vs H Q E → ∃ a ws, vs = .ref a :: ws ∧ H a = some (exo a D none))
    (hbody : ∀ (A : Around) (outer : List Env) (s : Shared) (H : Hp) (vs : List V) (Q : VK) (E : XK) (a : Addr) (ws : List V), Room k (A.deeper (PySem.W.ksEnv qual scope s.heap.objs.size f (.ref cda) cc)) → sp vs H Q E → vs = .ref a :: ws →
      ∃ ta t, PA (cxC CX P w K mg base N qual scope f cc (.ref cda) A outer s H E) (e :: es) ta ∧ PSs (cxC CX P w K mg base N qual scope f cc (.ref cda) A outer s H E) rest t ∧
        ta (L2.start N vs) H fun us H1 => us.length ≤ 1000 ∧ H1 a = some (exo a D none) ∧ t { nx := fun _ H' => Q .non H', rt := Q } (L2.start N vs) H1)
    (he : ∀ env, starEach (e :: es) env = (false, eval e env) :: starEach es env) (hpl : ∀ env, (backTo p3 (starEach es env)).any (·.1) = false) {pl : Env → Sem Bool}
    (hcl : ∀ env, eval (.Call (.Attribute (.Call (.Name "super" p0) [] [] p1) "__init__" p2) (e :: es) [] p3) env = (do
      let ov ← attributeBase (.Call (.Name "super" p0) [] [] p1) "__init__" env (eval (.Call (.Name "super" p0) [] [] p1) env)
      standAt p2.atName
      let (f, first) ← holding [ov] (getMethod ov "__init__" (pl env))
      callWith p3 f first (backTo p3 (starEach (e :: es) env)) [])) :
    FnOk P w K mg base CX (k + 1) f fd ps sp := by
  refine ⟨len, fun A outer s H args us vs Q E hr e0 hb r hsp => ?_⟩
  obtain ⟨oc, ccl, cl, dV, kV, doc, pm, ct, an, od, cdd, cld, osl, ccs, csl, vs2, file, tf, cdD, hfd, lk, hcd, lcd, hvs, hfile, lcc, hcD, _⟩ := F.ex
  have hl := len _ _ _ _ hsp
  have KX : K.In s.heap := e0.mod.kin.keeps fun b o e => (e0.bs b o e).1
  have lim : s.heap.NoLimit := e0.mod.nolimit.keeps fun b o e => (e0.bs b o e).1
  obtain ⟨a, ws, hvs0, hHa⟩ := hobj _ _ _ _ hsp
  subst hfd
  refine PySem.ks_codeAny_call_defAt (fd := PySem.W.ksFn name qual params _ scope dV kV doc pm an (.ref cda) ct cc) hr.depth (KX _ _ lk) rfl lim (PySem.W.codeRec_of KX hcd) rfl hb S.nocell (fun x hx => S.par x.1 (List.of_mem_zip hx).1) (fun h1 hns kp => ?_) S.co S.gen S.kind
  show PySem.wpAt (model P w) (A.deeper (PySem.W.ksEnv qual scope s.heap.objs.size f (.ref cda) cc)) _ _ _ _ _
  obtain ⟨ta, t, hPA, hPSs, hq⟩ := hbody A outer s H vs Q E a ws (hr.deeper _) hsp hvs0
  generalize hX : cxC CX P w K mg base N qual scope f cc (.ref cda) A outer s H E = X at hPA hPSs
  have I : Inv X [] (L2.start N vs) H { s with heap := h1, toks := s.toks + (ps.zip us).length } := by
    rw [← hX]
    exact inv_startC S hr.hd e0 hl r ⟨_, _, _, lcc⟩ hns kp
  have hXp : X.prog = P := by rw [← hX]; rfl
  have hXw : X.w = w := by rw [← hX]; rfl
  have hXK : X.K = K := by rw [← hX]; rfl
  have hXmg : X.mg = mg := by rw [← hX]; rfl
  have hXA : X.A = A.deeper (PySem.W.ksEnv qual scope s.heap.objs.size f (.ref cda) cc) := by rw [← hX]; rfl
  have hXe : X.env = PySem.W.ksEnv qual scope s.heap.objs.size f (.ref cda) cc := by rw [← hX]; rfl
  have hXN : X.N = N := by rw [← hX]; rfl
  have hXxe : X.xe = fun e s' => wpAny (model P w) (A.deeper (PySem.W.ksEnv qual scope s.heap.objs.size f (.ref cda) cc)) (leaving (PySem.W.ksEnv qual scope s.heap.objs.size f (.ref cda) cc) e) (fun _ s'' => CX outer H s E e s'') (fun e' s'' => CX outer H s E e' s'') s' := by rw [← hX]; rfl
  have oX : OexC X.K D := by rw [hXK]; exact G.ox
  have fin : ∀ {σ' : L2.St} {H' : Hp} {v : V} {u : Value} {s' : Shared}, Inv X [] σ' H' s' → RelV v u → Q v H' → CE outer P w H s Q u s' := by
    intro σ' H' v u s' J rv q
    subst hX
    exact ⟨v, H', J.os, J.bare, J.base, J.hok, rv, q⟩
  have go : PySem.wpAt (model X.prog X.w) X.A (.func (.Expr (.Call (.Attribute (.Call (.Name "super" p0) [] [] p1) "__init__" p2) (e :: es) [] p3) p4 :: rest) X.env) (execs (.Expr (.Call (.Attribute (.Call (.Name "super" p0) [] [] p1) "__init__" p2) (e :: es) [] p3) p4 :: rest) X.env)
      (SP X [] { nx := fun _ H' => Q .non H', rt := Q }) X.xe { s with heap := h1, toks := s.toks + (ps.zip us).length } := by
    have hint : interactive X.env = false := I.quiet
    refine PySem.ks_wpAt_execs_cons (PySem.ks_wpAt_Expr_any (PySem.ks_wpAt_MethodCall (pl := pl X.env) ?_ (hcl X.env)) hint)
    obtain ⟨t1, hex⟩ := exo_at I.hok hHa
    have hps0 : (0 : Nat) < ps.length := by cases ps with | nil => cases hps | cons _ _ => exact Nat.zero_lt_succ _
    have hxin : x0 ∈ ps := by cases ps with | nil => cases hps | cons z _ => cases (Option.some.inj hps); exact List.mem_cons_self
    refine at_super (D := D) (x := a) (C := D) I hXe (by rw [hXK]; exact lk) hp (by rw [hXK]; exact lcd) hvs (by rw [hXp]; exact hfile) (by rw [hXK]; exact lcc) (by rw [hXK]; exact hcD) (by rw [hXK]; exact G.mr) (by rw [hXmg]; exact hsup) (by decide) S.sup S.cls (by rw [hx0]; exact S.par x0 hxin) (by rw [hXp]; exact htop)
      ⟨0, by rw [hXN, hx0]; cases N with | nil => cases hN | cons z _ => exact hN, by rw [hvs0]; rfl⟩ hex rfl (fun c z => by cases z) (fun h2 so k2 => ?_)
    -- the wrapper
    have I2 : Inv X [] (L2.start N vs) H { s with heap := h2, toks := s.toks + (ps.zip us).length } := I.kept (t' := s.toks + (ps.zip us).length) k2
    have XK2 : X.K.In h2 := I2.kIn
    have hexo := k2 _ _ hex
    have hsu : PySem.W.ks_superIn X.K D D "__init__" = some (some (.builtin "ValueError.__init__")) := by rw [hXK]; exact G.su
    cases hc : PySem.W.clsIn X.K D with
    | none => unfold PySem.W.ks_superIn at hsu; rw [hc] at hsu; cases hsu
    | some cd =>
    unfold PySem.W.ks_superIn at hsu
    rw [hc] at hsu
    have hse : ∀ (u : Addr) (o : Obj), h2.get? u = some o → u ≠ h2.objs.size := fun u o z => Nat.ne_of_lt (Heap.lt_size z)
    have haD : a ≠ D := by
      intro z
      unfold PySem.W.clsIn at hc
      split at hc
      · rename_i c d cd' sl ho
        have q := XK2 _ _ ho
        rw [← z, hexo] at q
        cases q
      · cases hc
    have hty : PySem.W.Looks (model X.prog X.w) h2 (isInstance (.ref a) (.type "ValueError")) true := by
      have II : PySem.W.InstAt h2 a _ D none := ⟨hexo, rfl, rfl, trivial⟩
      exact II.type.andThen (PySem.W.looks_subIn XK2 (by rw [hXK]; exact G.ve))
    refine PySem.W.kxs_getMethod PySem.W.kxs_ValueError (l₀ := cd.mro) so (PySem.W.looks_opaque XK2 (by rw [hXK]; exact G.st)) ?_ rfl XK2 hsu hty haD (by decide) ?_
    · exact fun A Q E s k q => wpAny_bind ((PySem.W.looks_clsIn XK2 hc) A _ E s k (wpAny_pure q))
    have hmw : (h2.push (PySem.W.kxs_mw "ValueError.__init__" a)).get? h2.objs.size = some (PySem.W.kxs_mw "ValueError.__init__" a) := Heap.get?_push_at rfl rfl
    have I3 : Inv X [] (L2.start N vs) H { s with heap := h2.push (PySem.W.kxs_mw "ValueError.__init__" a), toks := s.toks + (ps.zip us).length + 1 } := I2.kept (t' := s.toks + (ps.zip us).length + 1) (fun b u z => Heap.get?_push_of_some _ z)
    have hHn : H h2.objs.size = none := I2.hok.fresh (Nat.le_refl _)
    have I4 : Inv X [(h2.objs.size, PySem.W.kxs_mw "ValueError.__init__" a)] (L2.start N vs) H { s with heap := h2.push (PySem.W.kxs_mw "ValueError.__init__" a), toks := s.toks + (ps.zip us).length + 1 } := by
      refine I3.pins_of fun p hp => ?_
      cases hp with
      | tail _ z => cases z
      | head =>
      refine ⟨hmw, hHn, fun z => ?_, I2.nofs (Nat.le_refl _), fun v z => by cases z⟩
      have := I2.lt
      rw [← z] at this
      exact absurd this (Nat.lt_irrefl _)
    rw [he X.env]
    refine PySem.W.kxs_callWith (i := "ValueError.__init__") (x := a) (by show (false || (backTo p3 (starEach es X.env)).any (·.1)) = false; rw [hpl]; rfl) (PySem.Calls.evalArgs_plain ?_)
    have h5 := hPA.run p3 _ _ _ H _ I4 hq
    rw [he X.env] at h5
    refine thn h5 fun us2 s5 ⟨vs5, H5, I5, r5, hz5, ea5, q5⟩ => ?_
    have hmw5 : s5.heap.get? h2.objs.size = some (PySem.W.kxs_mw "ValueError.__init__" a) := (I5.pin _ (List.mem_append_right _ List.mem_cons_self)).1
    refine ⟨hmw5, ?_⟩
    obtain ⟨nm, qq, N1, bs, bm, sn, sub, ab, col, dd, k0, k1, k22, k3, k5, hC, hbm⟩ := oX.cls
    obtain ⟨t5, hex5⟩ := exo_at I5.hok ea5
    obtain ⟨hp5, g5, d5, tk5, os5⟩ := s5
    have hlen : us2.length ≤ sizeLine := by
      rw [← Paired.length r5, sizeLine_eq]
      omega
    refine call_mw PySem.F.excBase_ValueError (I5.kIn _ _ hC) hex5 hmw5 hlen fun h6 t6 k6 hx6 => ?_
    have J := I5.write (t' := tk5) (x := a) (e := a) (o := exo a D none) (by rw [ea5]; exact True.intro) (.inl rfl) k6 ⟨_, hx6⟩ (exo_ok hx6)
    have eu : upd H5 a (exo a D none) = H5 := by
      funext b
      by_cases hb : b = a
      · rw [hb, upd_same, ea5]
      · rw [upd_ne hb]
    rw [eu] at J
    exact wpAt_of_wpAny (hPSs.run [] _ _ H5 _ (J.pins_of fun p hp => by cases hp) q5)
  rw [hXp, hXw, hXA, hXxe, hXe] at go
  refine PySem.ks_wpAt_mono go (fun fl s' hs => ?_) fun e s' z => z
  cases fl with
  | ret u =>
    obtain ⟨v, σ', H', J, rv, q⟩ := hs
    exact fin J rv q
  | next =>
    obtain ⟨σ', H', J, q⟩ := hs
    exact fin (v := V.non) (u := Value.none) J rfl q
  | brk =>
    obtain ⟨_, _, _, q⟩ := hs
    exact False.elim q
  | cont =>
    obtain ⟨_, _, _, q⟩ := hs
    exact False.elim q
end
end EXS
namespace L2
open PySem PySem.Spec PyProof.Rows
theorem _root_.PySem.HandSPX.FlyingZ.keeps {base h h' : Heap} {l : List Env} {e : Addr} {Z : Obj → Prop} (f : HandSPX.FlyingZ base l e Z h) (k : ∀ b o, h.get? b = some o → h'.get? b = some o) : HandSPX.FlyingZ base l e Z h' := by
  obtain ⟨f1, f2, f3, oe, vs, T, oT, ts, e1, e2, e3, e4, e5, e6, e7, e8, e9⟩ := f
  exact ⟨fun b o z => k b o (f1 b o z), f2, Heap.FunFrames.of_keeps (fun b o z _ => ⟨o, k b o z, rfl⟩) f3, oe, vs, T, oT, ts, k _ _ e1, e2, e3, e4, e5, e6, k _ _ e7, e8, e9⟩
end L2
namespace DL
open PySem PySem.Spec L2
variable [TbC]
/-- what a field is set to: a text, a parameter (behind self) -/
inductive Src where
  | str (s : Str) | par (i : Nat)
def Src.v (ws : List V) : Src → V
  | .str s => .str s
  | .par i => ws[i]?.getD .non
def Src.d (ds : List D) : Src → D
  | .str s => .str s
  | .par i => ds[i]?.getD .non
def Src.t : Src → TE
  | .str s => tC (.str s)
  | .par i => tVar (i + 1)
def Src.fits (n : Nat) : Src → Bool
  | .str _ => true
  | .par i => decide (i < n)
abbrev FL := List (Str × Src)
def fsV (l : FL) (ws : List V) : List (Str × V) := (l.map fun p => (p.1, p.2.v ws)).reverse
def fsK (l : FL) : List Str := (l.map (·.1)).reverse
def fsD (l : FL) (ds : List D) : List D := (l.map fun p => p.2.d ds).reverse
def fsW (l : FL) (ws : List V) : List V := (l.map fun p => p.2.v ws).reverse
theorem zip_map2 {α β γ : Type} (f : α → β) (g : α → γ) : ∀ l : List α, (l.map f).zip (l.map g) = l.map fun a => (f a, g a)
  | [] => rfl
  | a :: l => by rw [List.map_cons, List.map_cons, List.zip_cons_cons, zip_map2 f g l, List.map_cons]
theorem fs_zip (l : FL) (ws : List V) : (fsK l).zip (fsW l ws) = fsV l ws := by
  unfold fsK fsW fsV
  rw [← List.map_reverse, ← List.map_reverse, ← List.map_reverse, zip_map2]
theorem fs_rep {B : Option Addr} {S : Hp} {ds : List D} {ws : List V} {n : Nat} (r : RepL B S ds ws) (hn : ds.length = n) : ∀ (l : FL), l.all (fun p => p.2.fits n) = true → RepL B S (l.map fun p => p.2.d ds) (l.map fun p => p.2.v ws)
  | [], _ => repL_nil
  | (f, s) :: l, h => by
    rw [List.all_cons, Bool.and_eq_true] at h
    refine repL_cons ?_ (fs_rep r hn l h.2)
    cases s with
    | str s => exact rfl
    | par i =>
      have hi : i < ds.length := by rw [hn]; exact of_decide_eq_true h.1
      obtain ⟨v, e, q⟩ := r.get (i := i) (d := ds[i]) (by simp [hi])
      show Rep B S (ds[i]?.getD .non) (ws[i]?.getD .non)
      rw [e, List.getElem?_eq_getElem hi]
      exact q
def tCh (K : PySem.W.Frag) : FL → TS
  | [] => tNext
  | p :: l => tSeq (tOst K p.1 (tVar 0) p.2.t) (tCh K l)
section
variable {K : PySem.W.Frag} {C a dx : Addr} {σ : St} {H : Hp} {ws : List V} {n : Nat} {fs : List (Str × V)} {D0 : Ends}
theorem src_run {s : Src} {Q : VK} (h0 : ∀ i, i < n → σ[i + 1]? = some (some (ws[i]?.getD .non))) (hs : s.fits n = true) (q : Q (s.v ws) H) : s.t σ H Q := by
  cases s with
  | str s => exact q
  | par i => exact ⟨_, h0 i (of_decide_eq_true hs), q⟩
theorem chain_go (ox : OexC K C) (e0 : σ[0]? = some (some (.ref a))) (h0 : ∀ i, i < n → σ[i + 1]? = some (some (ws[i]?.getD .non))) : ∀ (l : FL) (fs : List (Str × V)) (H : Hp), (∀ p ∈ l, PySem.W.findIn K (.ref C) p.1 = some none) → l.all (fun p => p.2.fits n) = true → fs.length + l.length ≤ 900 →
    H a = some (exo a C (some dx)) → H dx = some (exd dx fs) → dx ≠ a → D0.nx σ (upd H dx (exd dx (fsV l ws ++ fs))) → tCh K l D0 σ H
  | [], fs, H, _, _, _, ea, ed, ne, q => by
    show D0.nx σ H
    have : upd H dx (exd dx (fsV [] ws ++ fs)) = H := by
      funext b
      by_cases z : b = dx
      · subst z
        rw [upd_same, ed]
        rfl
      · rw [upd_ne z]
    rw [this] at q
    exact q
  | p :: l, fs, H, na, hf, hl, ea, ed, ne, q => by
    rw [List.all_cons, Bool.and_eq_true] at hf
    refine src_run h0 hf.1 ?_
    refine ⟨_, e0, a, C, rfl, ox, na p List.mem_cons_self, .inr ⟨dx, fs, ea, ed, by rw [List.length_cons] at hl; omega, ?_⟩⟩
    refine chain_go ox e0 h0 l ((p.1, p.2.v ws) :: fs) _ (fun r hr => na r (List.mem_cons_of_mem _ hr)) hf.2 (by rw [List.length_cons] at hl ⊢; omega) (by rw [upd_ne ne.symm]; exact ea) upd_same ne ?_
    rw [upd_upd]
    have e : fsV (p :: l) ws ++ fs = fsV l ws ++ (p.1, p.2.v ws) :: fs := by
      unfold fsV
      rw [List.map_cons, List.reverse_cons, List.append_assoc]
      rfl
    rw [e] at q
    exact q
theorem chain_start (ox : OexC K C) (e0 : σ[0]? = some (some (.ref a))) (h0 : ∀ i, i < n → σ[i + 1]? = some (some (ws[i]?.getD .non))) {p : Str × Src} {l : FL} (na : ∀ r ∈ p :: l, PySem.W.findIn K (.ref C) r.1 = some none) (hf : (p :: l).all (fun p => p.2.fits n) = true) (hl : (p :: l).length ≤ 900)
    (ea : H a = some (exo a C none)) (q : ∀ d, H d = none → d ≠ a → D0.nx σ (upd (upd H d (exd d (fsV (p :: l) ws))) a (exo a C (some d)))) : tCh K (p :: l) D0 σ H := by
  have hf' := hf
  rw [List.all_cons, Bool.and_eq_true] at hf'
  refine src_run h0 hf'.1 ?_
  refine ⟨_, e0, a, C, rfl, ox, na p List.mem_cons_self, .inl ⟨ea, fun d hd ne => ?_⟩⟩
  have h1 : upd (upd H d (exd d [(p.1, p.2.v ws)])) a (exo a C (some d)) d = some (exd d [(p.1, p.2.v ws)]) := by rw [upd_ne ne, upd_same]
  refine chain_go (dx := d) ox e0 h0 l [(p.1, p.2.v ws)] _ (fun r hr => na r (List.mem_cons_of_mem _ hr)) hf'.2 (by rw [List.length_cons] at hl; simp; omega) upd_same h1 ne ?_
  have e : fsV l ws ++ [(p.1, p.2.v ws)] = fsV (p :: l) ws := by
    unfold fsV
    rw [List.map_cons, List.reverse_cons]
  rw [e]
  have e2 : upd (upd (upd H d (exd d [(p.1, p.2.v ws)])) a (exo a C (some d))) d (exd d (fsV (p :: l) ws)) = upd (upd H d (exd d (fsV (p :: l) ws))) a (exo a C (some d)) := by
    funext b
    by_cases z : b = d
    · subst z
      rw [upd_same, upd_ne ne, upd_same]
    · rw [upd_ne z]
      by_cases y : b = a
      · subst y
        rw [upd_same, upd_same]
      · rw [upd_ne y, upd_ne z, upd_ne y, upd_ne z]
  rw [e2]
  exact q d hd ne
end
/-- the promise of such an __init__ -/
def spX (C : Addr) (n : Nat) (l : FL) : Sp := fun vs H Q _ => ∃ (a : Addr) (ws : List V), vs = .ref a :: ws ∧ ws.length = n ∧ H a = some (exo a C none) ∧ ∀ d, H d = none → d ≠ a → Q .non (upd (upd H d (exd d (fsV l ws))) a (exo a C (some d)))
section
variable {P : Program} {w : World} {K : PySem.W.Frag} {mg : Str → Option Value} {base : Heap} {k : Nat} {name qual : Str} {params : Arguments} {rest : List Stmt} {scope : Scope} {C f cc cda : Addr} {fd : FuncData} {N ps : List Str} {txt : Str} {kk : Nat} {p0 p1 p2 p3 p4 p5 : Pos} {x0 : Str} {ar : Arg} {n : Nat} {l : FL} {pf : Str × Src}
theorem fn_x (F : EXS.SupFn K P.main.file name qual params (.Expr (.Call (.Attribute (.Call (.Name "super" p0) [] [] p1) "__init__" p2) [.Constant (.str txt) kk p5] [] p3) p4 :: rest) scope C f cc cda fd) (G : EXS.ExcD K C) (S : EXS.SScope N ps scope)
    (hsup : mg "super" = none) (htop : (P.main.scope.names.lookup ("super" : Str)).isSome = false) (hps : ps.head? = some x0) (hN : N[0]? = some x0) (hp : (params.posonlyargs ++ params.args).head? = some ar) (hx0 : ar.arg = x0) (hn : ps.length = n + 1)
    (na : ∀ r ∈ pf :: l, PySem.W.findIn K (.ref C) r.1 = some none) (hf : (pf :: l).all (fun p => p.2.fits n) = true) (hl : (pf :: l).length ≤ 900)
    {pl : Env → Sem Bool} (hcl : ∀ env, eval (.Call (.Attribute (.Call (.Name "super" p0) [] [] p1) "__init__" p2) [.Constant (.str txt) kk p5] [] p3) env = (do
      let ov ← attributeBase (.Call (.Name "super" p0) [] [] p1) "__init__" env (eval (.Call (.Name "super" p0) [] [] p1) env)
      standAt p2.atName
      let (f, first) ← holding [ov] (getMethod ov "__init__" (pl env))
      callWith p3 f first (backTo p3 (starEach [.Constant (.str txt) kk p5] env)) []))
    (hbody : ∀ (A : Around) (outer : List Env) (s : Shared) (H : Hp) (E : XK), PSs (EXS.cxC (L2.CX P w) P w K mg base N qual scope f cc (.ref cda) A outer s H E) rest (tCh K (pf :: l))) :
    FnOk P w K mg base (L2.CX P w) (k + 1) f fd ps (spX C n (pf :: l)) := by
  refine EXS.fn_exc (hcl := hcl) F G S hsup htop hps hN hp hx0 (fun vs H Q E ⟨a, ws, e, hw, _⟩ => by rw [e, List.length_cons, hw, hn]) (fun vs H Q E ⟨a, ws, e, hw, ha, _⟩ => ⟨a, ws, e, ha⟩) (fun A outer s H vs Q E a ws hr hsp ev => ?_) (fun env => rfl) (fun env => rfl)
  · obtain ⟨a', ws', e', hw, ha, q⟩ := hsp
    rw [ev] at e'
    cases e'
    refine ⟨_, _, pa_cons pe_str pa_nil, hbody A outer s H E, ?_⟩
    refine ⟨Nat.le_of_ble_eq_true rfl, ha, ?_⟩
    rw [ev]
    refine chain_start (n := n) (ws := ws) G.ox rfl (fun i hi => ?_) na hf hl ha fun d hd ne => q d hd ne
    unfold L2.start
    have hi2 : i < ws.length := by rw [hw]; exact hi
    show ((V.ref a :: ws).map some ++ _)[i + 1]? = _
    rw [List.getElem?_append_left (by simp; omega), List.getElem?_map, List.getElem?_cons_succ, List.getElem?_eq_getElem hi2]
    rfl
end
section
variable {X : Cx} {E : XK} {CX : CXT} {x : Str} {C fI : Addr} {k n : Nat} {fd : FuncData} {ps : List Str} {l : FL} {e : Expr} {es : List Expr} {Tl : DTA} {p pos pos2 : Pos}
/-- raise of an exception of the class C with these fields -/
def zRaise (C : Addr) (n : Nat) (l : FL) (Tl : DTA) : DTS := fun Q env => Tl env (fun ds => ds.length = n ∧ Q.ex ⟨C, fsK l, fsD l ds⟩) Q.ex
theorem exo_gone {H1 : Hp} {a d : Addr} {C : Addr} {fs : List (Str × V)} (ha : H1 a = none) (ne : d ≠ a) : upd (del (upd (upd (upd H1 a (exo a C none)) d (exd d fs)) a (exo a C (some d))) a) d (.xd fs) = upd H1 d (.xd fs) := by
  funext b
  by_cases z : b = d
  · subst z
    rw [upd_same, upd_same]
  · rw [upd_ne z, upd_ne z]
    by_cases y : b = a
    · subst y
      rw [del_same, ha]
    · rw [del_ne y, upd_ne y, upd_ne z, upd_ne y]
theorem raise_end {c : Fm} {σ : St} {H S : Hp} {env : En} {Rx : Er → Prop} {vs : List V} {ds : List D} (hfit : l.all (fun p => p.2.fits n) = true) (x : XOk c E Rx) (k : Kn c σ H S env) (r : RepL c.B S ds vs) (hn : ds.length = n) (q : Rx ⟨C, fsK l, fsD l ds⟩) {a : Addr} (ha : H a = none) :
    spX C n l (.ref a :: (vs ++ [])) (upd H a (exo a C none)) (fun v H2 => v = .non ∧ ∃ (d : Addr) (fs : List (Str × V)), H2 a = some (exo a C (some d)) ∧ H2 d = some (exd d fs) ∧ H d = none ∧ E (.ref C) (some d) (upd (del H2 a) d (.xd fs))) (fun _ _ _ => False) := by
  rw [List.append_nil]
  refine ⟨a, vs, rfl, by rw [r.length]; exact hn, upd_same, fun d hd ne => ⟨rfl, d, fsV l vs, upd_same, by rw [upd_ne ne, upd_same], by rw [upd_ne ne] at hd; exact hd, ?_⟩⟩
  rw [upd_ne ne] at hd
  rw [exo_gone ha ne]
  have k2 := k.new0 (o := .xd (fsV l vs)) hd
  refine x ⟨C, fsK l, fsD l ds⟩ d (fsW l vs) _ S k2.kf (RepL.rev (fs_rep r hn l hfit)) ?_ ?_ (k.kf.h0_none hd) (k.kf.s_none hd) q
  · show (fsD l ds).length = (fsK l).length
    unfold fsD fsK
    rw [List.length_reverse, List.length_reverse, List.length_map, List.length_map]
  · show upd H d (.xd (fsV l vs)) d = some (.xd ((fsK l).zip (fsW l vs)))
    rw [upd_same, fs_zip]
theorem s_raise (T : OexC X.K C) (iC : PySem.W.findIn X.K (.ref C) "__init__" = some (some (.ref fI))) (tI : PySem.W.typeIn X.K (.ref fI) = some (.type "function")) (hfit : l.all (fun p => p.2.fits n) = true) (hn : n ≤ 900)
    (G : FnOk X.prog X.w X.K X.mg X.base CX k fI fd ps (spX C n l)) (hr : Room (k + 1) X.A) (hb : L2.Binds X.K fd ps []) (hx : Passes CX X (fun _ _ _ => False)) (hm : X.mg x = some (.ref C)) (hc : X.calm = true) (tk : Takes X (fun cls d _ H => E cls d H)) (ha : DA X E (e :: es) Tl)
    (hg : Gl X x := by rfl) (hdb : (x == ("__debug__" : Str)) = false := by decide) (he : starEach (e :: es) X.env = (false, eval e X.env) :: starEach es X.env := by rfl) (hpl : (backTo pos (starEach es X.env)).any (·.1) = false := by rfl) :
    DS X E (.Raise (some (.Call (.Name x p) (e :: es) [] pos)) none pos2) (zRaise C n l Tl) := by
  obtain ⟨t, pa, s⟩ := ha
  refine ⟨_, ps_raise hc tk (pmk_oex T iC tI G hr hb .nil hx hg hm pa hdb he hpl), fun c σ H S env Q x k t1 D m => s c σ H S env _ _ x k t1 _ fun vs H1 S1 ds k1 s1 r1 t2 => ⟨by rw [r1.length, t2.1]; omega, fun a ha => ?_⟩⟩
  exact raise_end hfit x k1 r1 t2.1 t2.2 ha
end
end DL
namespace DL
open PySem PySem.Spec L2 PyProof.Rows LamX
variable [TbC]
section
variable {X : Cx} {E : XK} {i : Nat} {c P : Addr} {params : Arguments} {body : Expr} {scope : Scope} {pos : Pos}
/-- lambda: .. : the value is told with the maker's cells -/
def xLam (i : Nat) (cl : List (Str × Addr)) : DT := fun _ R _ => R (.fn i cl none)
end
end DL
namespace DL
open PySem PySem.Spec L2 PyProof.Rows LamX
variable [TbC]
abbrev Zf := Nat → (D → Prop) → (Er → Prop) → Prop
/-- the captured values -/
def pickE (js : List Nat) (env : En) : En := js.map fun j => match (env[j]? : Option (Option DV)) with
  | some (some (DV.val d)) => some (DV.val d)
  | _ => none
/-- lambda i's reading by the maker's names -/
def ZL (LT : Nat → Option (List Nat × DT)) (env : En) : Zf := fun i R Rx => match LT i with
  | some (js, T) => T (pickE js env) R Rx
  | none => False
end DL
namespace DL
open PySem PySem.Spec L2 PyProof.Rows LamX
variable [TbC]
mutual
def closeD (z : Option Addr × Hp) : D → D
  | .fn i cl none => .fn i cl (some z)
  | .lst ds => .lst (closeL z ds)
  | .tup ds => .tup (closeL z ds)
  | d => d
def closeL (z : Option Addr × Hp) : List D → List D
  | [] => []
  | d :: ds => closeD z d :: closeL z ds
end
section
variable {X : Cx} {E : XK} {k kk : Nat} {f : Addr} {fd : FuncData} {ps : List Str} {x : Str} {p pos : Pos} {e : Expr} {es : List Expr} {Tl : DTA} {cl : List (Str × Addr)} {F : Option Addr × Hp → Zf → Spec} {LT : Nat → Option (List Nat × DT)}
def xCallZ (F : Option Addr × Hp → Zf → Spec) (LT : Nat → Option (List Nat × DT)) (Tl : DTA) : DT := fun env R Rx => Tl env (fun ds => ∀ z, F z (ZL LT env) (closeL z ds) R Rx) Rx
end
end DL
namespace DL
open PySem PySem.Spec L2 PyProof.Rows LamX
variable [TbC]
/-- the names that hold data -/
def valE (env : En) : En := env.map fun x => match x with
  | some (DV.val d) => some (DV.val d)
  | _ => none
theorem valE_get {env : En} {j : Nat} {y : DV} (e : (valE env)[j]? = some (some y)) : ∃ d, y = .val d ∧ env[j]? = some (some (.val d)) := by
  unfold valE at e
  rw [List.getElem?_map] at e
  obtain ⟨x, ex, e2⟩ := Option.map_eq_some_iff.mp e
  split at e2
  · rename_i d
    cases e2
    exact ⟨d, rfl, ex⟩
  · cases e2
theorem Kn.vals {c : Fm} {σ : L2.St} {H S : Hp} {env : En} (k : Kn c σ H S env) : Kn (c.at H S) σ H S (valE env) := by
  refine ⟨k.kf.at, by unfold valE; rw [List.length_map]; exact k.len, fun j y e => ?_, fun j1 j2 x y v u a _ e _ _ _ f _ => ?_⟩
  · obtain ⟨d, rfl, e2⟩ := valE_get e
    exact k.sl j _ e2
  · obtain ⟨d, rfl, _⟩ := valE_get e
    exact f
theorem RepN.at {c : Fm} {H S H' S' : Hp} {d : D} {v : V} (k : Kf c H S) {b : Rk} (r : RepN (c.at H S) H' S' b d v) : RepN c H' S' b d v := by
  cases b with
  | old => exact r
  | nw =>
    refine rep_mono (fun a o e => ?_) d v r
    obtain ⟨e1, e2⟩ := newH_some e
    show newH c.H0 S' a = some o
    rw [newH_of (k.h0_none e1)]
    exact e2
  | tr =>
    obtain ⟨as, r, n, q⟩ := r
    exact ⟨as, r, n, fun a m => ⟨(q a m).1, k.h0_none (q a m).2⟩⟩
end DL
namespace DL
open PySem PySem.Spec L2 PyProof.Rows LamX
end DL
namespace Hx
open PySem PySem.Spec L2
theorem sup_ok {K : PySem.W.Frag} {C : Addr} {fl : Str} {clo : List (Str × Addr)} {code : Value} (h : supB K C fl clo code = true) : ∃ (cc cda : Addr) (ccl cl : Value) (cdd cld : Option Addr) (ccs csl : Array (Option Value)) (vs : Array Value) (file : Str) (tf : Tok) (cdD : ClassData),
    clo = [(("__class__" : Str), cc)] ∧ code = .ref cda ∧ K.lookup cda = some ⟨ccl, cdd, .fields vs, ccs⟩ ∧ vs[2]? = some (.str file tf) ∧ (fl == file) = true ∧ K.lookup cc = some ⟨cl, cld, .cell (some (.ref C)), csl⟩ ∧ PySem.W.clsIn K C = some cdD := by
  unfold supB at h
  split at h
  · rename_i n cc cda
    obtain ⟨h1, h⟩ := He.ba h
    obtain ⟨h2, h⟩ := He.ba h
    obtain ⟨h3, h4⟩ := He.ba h
    have h1 := of_decide_eq_true h1
    subst h1
    split at h2
    · rename_i cl cld D csl e2
      have h2 := of_decide_eq_true h2
      subst h2
      split at h3
      · rename_i ccl cdd vs ccs e3
        split at h3
        · rename_i file tf e4
          obtain ⟨cdD, hD⟩ := Option.isSome_iff_exists.mp h4
          exact ⟨cc, cda, ccl, cl, cdd, cld, ccs, csl, vs, file, tf, cdD, rfl, rfl, e3, e4, h3, e2, hD⟩
        · cases h3
      · cases h3
    · cases h2
  · cases h
theorem DefX.supF {K : PySem.W.Frag} {d : DefX} {x fl : Str} (e : fnX K (d.ad K) = d.val) (c : d.ok K = true) (hs : d.sup = some (x, fl)) (hd : d.dfl = []) : ∃ (cc cda : Addr) (fd : FuncData), EXS.SupFn K fl d.name d.qual d.params d.body d.scope (He.ga K x) (d.ad K) cc cda fd := by
  obtain ⟨kp, c2⟩ := He.ba c
  unfold fnX at e
  cases q : K.lookup (d.ad K) with
  | none =>
    rw [q] at c2
    cases c2
  | some o =>
    obtain ⟨oc, od, dt, osl⟩ := o
    rw [q] at c2 e
    cases dt with
    | func fd =>
      obtain ⟨n1, n2, n3, n4, n5, n6, n7, n8, n9, n10, n11, n12, n13, n14, n15⟩ := fd
      have c9 : ((PySem.W.codeIn K n13 d.qual && (He.dflB K n8 (d.dvs K) && He.kwdB K n9 (d.kws K))) && cloB K d.sup n7 n13) = true := c2
      obtain ⟨c3, c4⟩ := He.ba c9
      rw [hs] at c4
      have c5 : supB K (He.ga K x) fl n7 n13 = true := c4
      obtain ⟨cc, cda, ccl, cl, cdd, cld, ccs, csl, vs, file, tf, cdD, r1, r2, r3, r4, r5, r6, r7⟩ := sup_ok c5
      subst r1 r2
      have e2 : (some (n1, n2, n3, n4, n5, n6, ([] : List (Str × Addr)), n15) : He.FnW) = some (d.name, d.qual, d.params, .stmts d.body, d.scope, mainGlobals, [], builtinsNs) := e
      simp only [Option.some.injEq, Prod.mk.injEq] at e2
      obtain ⟨h1, h2, h3, h4, h5, h6, _, h8⟩ := e2
      subst h1 h2 h3 h4 h5 h6 h8
      obtain ⟨k1, k2⟩ := He.ba c3
      obtain ⟨k3, _⟩ := He.ba k2
      have k4 := He.dflB_ok k3
      have hdv : d.dvs K = [] := by unfold DefX.dvs; rw [hd]; rfl
      rw [hdv] at k4
      have k5 : n8 = .none := by
        rcases k4 with ⟨_, z⟩ | ⟨z, _⟩
        · exact z
        · exact absurd rfl z
      exact ⟨cc, cda, _, ⟨oc, ccl, cl, n8, n9, n10, n11, n14, n12, od, cdd, cld, osl, ccs, csl, vs, file, tf, cdD, rfl, q, k1, r3, r4, r5, r6, r7, k5⟩, kp⟩
    | _ => cases c2
theorem SaysX.sup_ {fx : List (PySem.W.Frag → Bool)} {fn : List DefX} {K : PySem.W.Frag} (c : SaysX fx fn K) (i : Nat) {d : DefX} {x fl : Str} (h : fn[i]? = some d := by rfl) (hs : d.sup = some (x, fl) := by rfl) (hd : d.dfl = [] := by rfl) : ∃ (cc cda : Addr) (fd : FuncData), EXS.SupFn K fl d.name d.qual d.params d.body d.scope (He.ga K x) (d.ad K) cc cda fd := by
  have c2 := (He.ba (show ((fx.all fun f => f K) && fn.all fun d => d.ok K) = true from congrArg (fun z : He.AlD => z.1) c)).2
  have e : fn.map (fun d => fnX K (d.ad K)) = fn.map DefX.val := congrArg (fun z : He.AlD => z.2) c
  have e2 : (fn.map fun d => fnX K (d.ad K))[i]? = (fn.map DefX.val)[i]? := by rw [e]
  rw [List.getElem?_map, List.getElem?_map, h] at e2
  exact DefX.supF (Option.some.inj e2) (List.all_eq_true.mp c2 d (List.mem_of_getElem? h)) hs hd
theorem ErrX.excD {K : PySem.W.Frag} {C f : Addr} (h : ErrX K C f) : EXS.ExcD K C := ⟨h.ox, h.st, h.su, h.mr, h.ve⟩
end Hx
namespace DL
open PySem PySem.Spec L2
/-- an own error class of the text, known by its name -/
structure Xe (K : PySem.W.Frag) (mg : Str → Option Value) (fl : Str) (x : Str) (st : Stmt) where
  C : Addr
  f : Addr
  cc : Addr
  cda : Addr
  fd : FuncData
  g : mg x = some (.ref C)
  e : Hx.ErrX K C f
  F : EXS.SupFn K fl "__init__" (x ++ ".__init__") (defArgs st) (defBody st) (defScope st) C f cc cda fd
theorem Xe.binds {K : PySem.W.Frag} {mg : Str → Option Value} {fl x : Str} {st : Stmt} {ps : List Str} (D : Xe K mg fl x st)
    (h : ∀ (kV doc pm cdv ct : Value) (an : Option Addr) (cc : Addr) (us : List Value), us.length = ps.length → bindArgs (PySem.W.ksFn "__init__" (x ++ ".__init__") (defArgs st) (defBody st) (defScope st) .none kV doc pm an cdv ct cc) ⟨us, []⟩ = pure (ps.zip us)) : Binds K D.fd ps [] := by
  obtain ⟨_, _, _, dV, _, _, _, _, _, _, _, _, _, _, _, _, _, _, _, e, _, _, _, _, _, _, _, e2⟩ := D.F.ex
  rw [e, e2]
  exact Binds.all (h _ _ _ _ _ _ _)
end DL
namespace DL
open PySem PySem.Spec L2
end DL
namespace DL
open PySem PySem.Spec L2
variable [TbC]
section
variable {X : Cx} {k : Nat} {C g : Addr} {fd : FuncData} {ps : List Str} {sp : Sp} {F : Spec}
def negR (R : D → Prop) : D → Prop
  | .bl b => R (.bl (!b))
  | _ => False
theorem w_negR {R : D → Prop} {b : Bool} : negR R (.bl b) = R (.bl (!b)) := rfl
def opOwnN (C : Addr) (F : Spec) : DOp := fun x y R => asO C (fun _ _ => True) x ∧ asO C (fun _ _ => True) y ∧ F [x, y] (negR R) noX
theorem w_opOwnN {C : Addr} {F : Spec} {x y : D} {R : D → Prop} : opOwnN C F x y R = (asO C (fun _ _ => True) x ∧ asO C (fun _ _ => True) y ∧ F [x, y] (negR R) noX) := rfl
end
theorem w_par3 {i j l : Nat} {Tl : DTA} {Q : DEnds} {env : En} : zPar3 i j l Tl Q env = Tl env (fun ds => match ds with
  | [d, d', d''] => Q.nx (put l d'' (put j d' (put i d env)))
  | _ => False) Q.ex := rfl
end DL
namespace DL
open PySem PySem.Spec L2 PyProof.Rows LamX
end DL
namespace DL
open PySem PySem.Spec L2
variable [TbC]
theorem seq_step {A B : DTS} {Q : DEnds} {env : En} (h : ∀ N : En → Prop, (∀ e, B Q e → N e) → A { Q with nx := N } env) : zSeq A B Q env := h _ fun _ h => h
theorem for_step {Ti : DTI} {G : DG} {Tb : DTS} {Q : DEnds} {env : En} (h : ∀ B : DEnds → En → Prop, (∀ Q e, Tb Q e → B Q e) → zFor Ti G B Q env) : zFor Ti G Tb Q env := h _ fun _ _ h => h
/-- both ways behind a test -/
theorem if_step {T : DTT} {U W : DTS} {Q : DEnds} {env : En} (h : ∀ U' W' : DEnds → En → Prop, (∀ Q e, U Q e → U' Q e) → (∀ Q e, W Q e → W' Q e) → zIf T U' W' Q env) : zIf T U W Q env := h _ _ (fun _ _ h => h) fun _ _ h => h
def pk : Option (Option DV) → Option DV
  | some (some (.val d)) => some (.val d)
  | _ => none
theorem w_pk {d : D} : pk (some (some (.val d))) = some (.val d) := rfl
theorem w_pickE_nil {env : En} : pickE [] env = [] := rfl
theorem w_pickE_cons {j : Nat} {js : List Nat} {env : En} : pickE (j :: js) env = pk env[j]? :: pickE js env := rfl
theorem w_xLam {i : Nat} {cl : List (Str × Addr)} {env : En} {R : D → Prop} {Rx : Er → Prop} : xLam i cl env R Rx = R (.fn i cl none) := rfl
theorem w_callZ {F : Option Addr × Hp → Zf → Spec} {LT : Nat → Option (List Nat × DT)} {Tl : DTA} {env : En} {R : D → Prop} {Rx : Er → Prop} : xCallZ F LT Tl env R Rx = Tl env (fun ds => ∀ z, F z (ZL LT env) (closeL z ds) R Rx) Rx := rfl
theorem repN_0 : List.replicate 0 (none : Option DV) = [] := rfl
theorem repN_s {n : Nat} : List.replicate (n + 1) (none : Option DV) = none :: List.replicate n none := rfl
end DL
namespace DL
open PySem PySem.Spec L2
variable [TbC]
/-- data of the built-in types -/
def D.bty : D → Option String
  | .non => some "NoneType"
  | .bl _ => some "bool"
  | .int _ => some "int"
  | .str _ => some "str"
  | .lst _ => some "list"
  | .tup _ => some "tuple"
  | _ => none
def asA (d : D) : Prop := d.bty ≠ none
theorem w_asA_int {i : Int} : asA (.int i) = True := eq_true fun z => nomatch z
theorem w_asA_non : asA .non = True := eq_true fun z => nomatch z
theorem w_asA_bl {b : Bool} : asA (.bl b) = True := eq_true fun z => nomatch z
theorem w_asA_str {s : Str} : asA (.str s) = True := eq_true fun z => nomatch z
theorem w_asA_lst {xs : List D} : asA (.lst xs) = True := eq_true fun z => nomatch z
theorem w_asA_tup {xs : List D} : asA (.tup xs) = True := eq_true fun z => nomatch z
section
variable {X : Cx} {CX : CXT} {k : Nat} {C g : Addr} {fd : FuncData} {ps : List Str} {F : Spec} {E : XK} {a b : Expr} {Ta Tb : DT} {pos : Pos}
def xOBa (C : Addr) (F : Spec) (Ta Tb : DT) : DT := fun env R Rx => Ta env (fun x => Tb env (fun y => asO C (fun _ _ => True) x ∧ asA y ∧ F [x, y] R Rx) Rx) Rx
theorem w_xOBa {C : Addr} {F : Spec} {Ta Tb : DT} {env : En} {R : D → Prop} {Rx : Er → Prop} : xOBa C F Ta Tb env R Rx = Ta env (fun x => Tb env (fun y => asO C (fun _ _ => True) x ∧ asA y ∧ F [x, y] R Rx) Rx) Rx := rfl
end
end DL
namespace DL
open PySem PySem.Spec L2
end DL
namespace DL
open PySem PySem.Spec L2
variable [TbC]
/-- the text with these signs -/
def tx (l : List Nat) : Str := ⟨⟨l⟩⟩
theorem w_tx_len {l : List Nat} : (tx l).length = l.length := rfl
theorem w_tx_size {l : List Nat} : (tx l).cps.size = l.length := rfl
theorem w_tx_cps {l : List Nat} : (tx l).cps.toList = l := rfl
theorem w_tx_app {a b : List Nat} : tx a ++ tx b = tx (a ++ b) := by
  show Str.mk _ = Str.mk _
  congr 1
  show (⟨a⟩ : Array Nat) ++ (⟨b⟩ : Array Nat) = ⟨a ++ b⟩
  simp
theorem tx_inj {a b : List Nat} (h : tx a = tx b) : a = b := by
  have := congrArg (fun s : Str => s.cps.toList) h
  exact this
theorem w_tx_eq {a b : List Nat} : (tx a = tx b) = (a = b) := propext ⟨tx_inj, fun h => by rw [h]⟩
theorem w_tx_beq {a b : List Nat} : (tx a == tx b) = decide (a = b) := by
  rw [Bool.eq_iff_iff, beq_iff_eq, decide_eq_true_eq]
  exact ⟨tx_inj, fun h => by rw [h]⟩
theorem w_tx_mul {a : List Nat} {n : Nat} : mulS (tx a) n = tx (List.replicate n a).flatten := rfl
theorem w_tx_signs {l : List Nat} : signs (tx l) = l.map fun c => .str (tx [c]) := rfl
theorem w_tx_emp : (Str.ofString "") = tx [] := by decide +kernel
theorem w_tx_one {c : Nat} : (Str.mk #[c]) = tx [c] := rfl
end DL
namespace DL
open PySem PySem.Spec L2
variable [TbC]
def xCallM (F : Spec) (n m : Nat) (gD : List D → List D → List D) (Tl Tk : DTA) : DT := fun env R Rx => Tl env (fun xs => Tk env (fun zs => xs.length = n ∧ zs.length = m ∧ F (gD xs zs) R Rx) Rx) Rx
theorem w_callM {F : Spec} {n m : Nat} {gD : List D → List D → List D} {Tl Tk : DTA} {env : En} {R : D → Prop} {Rx : Er → Prop} : xCallM F n m gD Tl Tk env R Rx = Tl env (fun xs => Tk env (fun zs => xs.length = n ∧ zs.length = m ∧ F (gD xs zs) R Rx) Rx) Rx := rfl
end DL
namespace SUPX
open PySem PySem.Spec L2 PyProof.Rows
section
variable {X : Cx} {pins : List (Addr × Obj)} {σ : List (Option V)} {H : Hp} {s : Shared}
/-- super().m as a method found at the class behind D -/
theorem at_supm {body : List Stmt} {qual : Str} {scope : Scope} {L f cc cda D x C g2 : Addr} {p0 p1 p2 p3 : Pos} {m : Str} {es : List Expr} {fd : FuncData} {ar : Arg} {vs : Array Value} {file : Str} {tf : Tok} {oc ccl cl : Value} {od cdd cld : Option Addr} {osl ccs csl : Array (Option Value)} {cdD cdC : ClassData} {ox : Obj} {odx : Option Obj} {CX : CXT} {k : Nat} {sp : Sp} {E : XK} {Q : VK} {pl : Sem Bool}
    (I : Inv X pins σ H s) (heq : X.env = PySem.W.ksEnv qual scope L f (.ref cda) cc)
    (hf : X.K.lookup f = some ⟨oc, od, .func fd, osl⟩) (hp : (fd.params.posonlyargs ++ fd.params.args).head? = some ar)
    (hcode : X.K.lookup cda = some ⟨ccl, cdd, .fields vs, ccs⟩) (hvs : vs[2]? = some (.str file tf)) (hfile : ((X.prog.main.file : Str) == file) = true)
    (hcell : X.K.lookup cc = some ⟨cl, cld, .cell (some (.ref D)), csl⟩) (hD : PySem.W.clsIn X.K D = some cdD) (hC : PySem.W.clsIn X.K C = some cdC) (hsub : PySem.W.mroIn X.K C (.ref D) = some true) (hsuper : X.mg "super" = none)
    (hat : (m == ("__class__" : Str)) = false) (hks : scope.names.lookup ("super" : Str) = some .globalImplicit) (hkc : scope.names.lookup ("__class__" : Str) = some .free) (hka : scope.names.lookup ar.arg = some .local)
    (htop : (X.prog.main.scope.names.lookup ("super" : Str)).isSome = false)
    (hv : ∃ i : Nat, X.N[i]? = some ar.arg ∧ σ[i]? = some (some (V.ref x))) (J : PySem.W.InstAt s.heap x ox C odx)
    (hst : PySem.W.nsIn X.K PySem.cStatics "thirdparty.any" = some none) (hm : PySem.W.ks_superIn X.K C D m = some (some (.ref g2))) (ht : PySem.W.typeIn X.K (.ref g2) = some (.type "function")) (hfi : PySem.W.fnIn X.K g2 = true)
    (G : FnR X.prog X.w X.K X.mg X.base CX k g2 sp) (hr : Room k X.A) (hx : Passes CX X E)
    {e : Expr} {ta : TA} (ha : PA X (e :: es) ta) (h : ta σ H fun us H1 => sp (.ref x :: us) H1 Q E)
    (he : starEach (e :: es) X.env = (false, eval e X.env) :: starEach es X.env) (hpl : (backTo p3 (starEach es X.env)).any (·.1) = false)
    (hcl : eval (.Call (.Attribute (.Call (.Name "super" p0) [] [] p1) m p2) (e :: es) [] p3) X.env = (do
      let ov ← attributeBase (.Call (.Name "super" p0) [] [] p1) m X.env (eval (.Call (.Name "super" p0) [] [] p1) X.env)
      standAt p2.atName
      let (f, first) ← holding [ov] (getMethod ov m pl)
      callWith p3 f first (backTo p3 (starEach (e :: es) X.env)) [])) :
    PySem.wpAt (model X.prog X.w) X.A (.func body X.env) (eval (.Call (.Attribute (.Call (.Name "super" p0) [] [] p1) m p2) (e :: es) [] p3) X.env) (EP X pins σ Q) X.xe s := by
  refine PySem.ks_wpAt_MethodCall (pl := pl) ?_ hcl
  refine EXS.at_super (D := D) (x := x) (C := C) I heq hf hp hcode hvs hfile hcell hD hsub hsuper hat hks hkc hka htop hv J.at_ J.cls (fun c z => ?_) (fun h2 so k2 => ?_)
  · have := J.no
    unfold PySem.W.notCls at this
    rw [z] at this
    exact Bool.noConfusion this
  have I2 : Inv X pins σ H { s with heap := h2 } := I.kept (t' := s.toks) k2
  have XK2 : X.K.In h2 := I2.kIn
  obtain ⟨of, hof, hofc⟩ : ∃ of, h2.get? g2 = some of ∧ of.cls = .type "function" := by
    have ht' : (X.K.lookup g2).map (·.cls) = some (.type "function") := ht
    cases z : X.K.lookup g2 with
    | none => rw [z] at ht'; cases ht'
    | some of => rw [z] at ht'; exact ⟨of, XK2 _ _ z, Option.some.inj ht'⟩
  have J2 : PySem.W.InstAt h2 x ox C odx := ⟨k2 _ _ J.at_, J.cls, J.no, by
    have hd := J.dict
    revert hd
    cases ox.dict <;> cases odx <;> intro hd <;> first | exact hd | exact k2 _ _ hd⟩
  have hm2 : PySem.W.alongIn X.K m ((cdC.mro.dropWhile (· != .ref D)).drop 1) = some (some (.ref g2)) := by
    unfold PySem.W.ks_superIn at hm
    rw [hC] at hm
    exact hm
  obtain ⟨hh, gg, dd, tt, oo⟩ := s
  refine PySem.ks_wpAny_getMethod_super so (PySem.W.looks_opaque XK2 hst) (l₀ := cdC.mro) ?_ rfl XK2 hm2 hof hofc (PySem.W.ks_ne XK2 J2 hC) hat ?_
  · exact fun A Q E s k q => wpAny_bind ((PySem.W.looks_clsIn XK2 hC) A _ E s k (wpAny_pure q))
  have I3 := ClX.met_new (g := g2) (C := x) I2
  refine ClX.callwith_cm I3 (ClX.base_none I2 (Nat.le_refl _)) hfi (thn (ha.run p3 _ _ σ H _ I3 h) fun us s3 ⟨vs, H2, I4, rv, q2⟩ => ⟨⟨ClX.pin_at I4, I4.kIn⟩, ?_⟩) he hpl
  exact ClX.run_cm G hr hx I4 rv q2
end
end SUPX
namespace DL
open PySem PySem.Spec L2
variable [TbC]
theorem pass_c {P : Program} {w : World} {K : PySem.W.Frag} {mg : Str → Option Value} {base : Heap} {N : List Str} {qual : Str} {scope : Scope} {f cc : Addr} {cd : Value} {A : Around} {outer : List Env} {s : Shared} {H : Hp} {E : XK} :
    Passes (L2.CX P w) (EXS.cxC (L2.CX P w) P w K mg base N qual scope f cc cd A outer s H E) E := passes_call (takes_of rfl rfl rfl rfl) fun _ _ _ _ h => h
/-- what is known of the class C of an object and of the class D of the text: the method m behind D -/
structure SupM (K : PySem.W.Frag) (C D : Addr) (m : Str) (g2 : Addr) : Prop where
  st : PySem.W.nsIn K PySem.cStatics "thirdparty.any" = some none
  c : ∃ cdC, PySem.W.clsIn K C = some cdC
  sub : PySem.W.mroIn K C (.ref D) = some true
  m : PySem.W.ks_superIn K C D m = some (some (.ref g2))
  ty : PySem.W.typeIn K (.ref g2) = some (.type "function")
  fi : PySem.W.fnIn K g2 = true
section
variable {P : Program} {w : World} {K : PySem.W.Frag} {mg : Str → Option Value} {base : Heap} {k : Nat} {name qual : Str} {params : Arguments} {rest : List Stmt} {scope : Scope} {C Dd f cc cda g2 : Addr} {fd : FuncData} {N ps : List Str} {e : Expr} {es : List Expr} {p0 p1 p2 p3 p4 : Pos} {x0 : Str} {ar : Arg} {Fs Fb : Spec}
/-- what the base's __init__ leaves, handed to the rest of the body -/
def toRest (C : Addr) (U : List Str → List D → Prop) : D → Prop
  | .obj C' ks xs => C' = C ∧ U ks xs
  | _ => False
theorem Kf.put2 {c : Fm} {H1 S1 H' S' : Hp} {p dx C : Addr} {vs : List V} {ks : List Str} (k1 : Kf c H1 S1) (k' : Kf ((c.at H1 S1).put p (.ins C dx (ks.zip vs))) H' S') (np : ¬ Ex c.B p) (hS1 : S1 p = none) : Kf (c.put p (.ins C dx (ks.zip vs))) H' S' := by
  refine ⟨k'.sub, k1.s0.trans k'.s0, fun a o e n => ?_, fun a e n => ?_, fun b e => ⟨(k'.bag b e).1, ?_⟩, ⟨k'.tab.1, fun q hq => ?_⟩⟩
  · by_cases z : a = p
    · subst z
      have e : upd c.H0 a (.ins C dx (ks.zip vs)) a = some o := e
      rw [upd_same] at e
      exact k'.old a o (by show upd H1 a _ a = some o; rw [upd_same]; exact e) n
    · have e : upd c.H0 p (.ins C dx (ks.zip vs)) a = some o := e
      rw [upd_ne z] at e
      exact k'.old a o (by show upd H1 p _ a = some o; rw [upd_ne z]; exact k1.old a o e n) n
  · by_cases z : a = p
    · subst z
      exact k'.new a hS1 (by show Mu (upd H1 a _ a); rw [upd_same]; exact mu_of rfl fun _ z => nomatch z)
    · have n : Mu (upd c.H0 p (.ins C dx (ks.zip vs)) a) := n
      rw [upd_ne z] at n
      by_cases x : Ex c.B a
      · rcases x with x | ⟨q, hq, rfl⟩
        · exact (k'.bag a x).1.1
        · exact (k'.tab.1 q hq).2
      · refine k'.new a (k1.new a e n) ?_
        show Mu (upd H1 p _ a)
        rw [upd_ne z]
        cases y : c.H0 a with
        | none => exact absurd y n.1
        | some o =>
          rw [k1.old a o y x, ← y]
          exact n
  · show upd c.H0 p _ b ≠ none
    rw [upd_ne (fun z => np (.inl (by rw [← z]; exact e)))]
    exact (k1.bag b e).2
  · show upd c.H0 p _ q.1 ≠ none
    rw [upd_ne (fun z => np (.inr ⟨q, hq, z⟩))]
    exact k1.tab.2 q hq
theorem fn_iS {Tl : DTA} {U : Addr → ITS} (F : EXS.SupFn K P.main.file name qual params (.Expr (.Call (.Attribute (.Call (.Name "super" p0) [] [] p1) "__init__" p2) (e :: es) [] p3) p4 :: rest) scope Dd f cc cda fd)
    (M : SupM K C Dd "__init__" g2) (S : EXS.SScope N ps scope)
    (hsup : mg "super" = none) (htop : (P.main.scope.names.lookup ("super" : Str)).isSome = false) (hps : ps.head? = some x0) (hN : N[0]? = some x0) (hp : (params.posonlyargs ++ params.args).head? = some ar) (hx0 : ar.arg = x0)
    (G : FnR P w K mg base (L2.CX P w) k g2 (spI C Fb))
    (len : ∀ ds R Rx, Fs ds R Rx → ds.length + 1 = ps.length)
    (hbody : ∀ (p dx : Addr) (A : Around) (outer : List Env) (s : Shared) (H : Hp) (E : XK), Room k (A.deeper (PySem.W.ksEnv qual scope s.heap.objs.size f (.ref cda) cc)) →
      DA (EXS.cxC (L2.CX P w) P w K mg base N qual scope f cc (.ref cda) A outer s H E) E (e :: es) Tl ∧ DIs (EXS.cxC (L2.CX P w) P w K mg base N qual scope f cc (.ref cda) A outer s H E) E p dx C rest (U p))
    (hT : ∀ p ds R Rx, Fs ds R Rx → Tl (startE N (.adr p :: ds)) (fun us => us.length ≤ 1000 ∧ Fb us (toRest C fun ks xs => U p (fun _ ks xs => R (.obj C ks xs)) noX (flatL xs) ks xs (startE N (.adr p :: ds))) Rx) Rx)
    (he : ∀ env, starEach (e :: es) env = (false, eval e env) :: starEach es env) (hpl : ∀ env, (backTo p3 (starEach es env)).any (·.1) = false) {pl : Env → Sem Bool}
    (hcl : ∀ env, eval (.Call (.Attribute (.Call (.Name "super" p0) [] [] p1) "__init__" p2) (e :: es) [] p3) env = (do
      let ov ← attributeBase (.Call (.Name "super" p0) [] [] p1) "__init__" env (eval (.Call (.Name "super" p0) [] [] p1) env)
      standAt p2.atName
      let (f, first) ← holding [ov] (getMethod ov "__init__" (pl env))
      callWith p3 f first (backTo p3 (starEach (e :: es) env)) [])) :
    FnOk P w K mg base (L2.CX P w) (k + 1) f fd ps (spI C Fs) := by
  refine ⟨fun vs H Q E ⟨c, S, p, dx, us, ds, R, Rx, e, _, _, _, _, _, _, l, h, _⟩ => by rw [e, List.length_cons, l.length]; exact len _ _ _ h, fun A outer s H args us vs Q E hr e0 hb r hsp => ?_⟩
  obtain ⟨oc, ccl, cl, dV, kV, doc, pm, ct, an, od, cdd, cld, osl, ccs, csl, vs2, file, tf, cdD, hfd, lk, hcd, lcd, hvs, hfile, lcc, hcD, _⟩ := F.ex
  obtain ⟨cdC, hcC⟩ := M.c
  have KX : K.In s.heap := e0.mod.kin.keeps fun b o e => (e0.bs b o e).1
  have lim : s.heap.NoLimit := e0.mod.nolimit.keeps fun b o e => (e0.bs b o e).1
  obtain ⟨c, S0, p, dx, us0, ds, R, Rx, evs, h0, hs0, kf, hpI, np, hS, l, hF, q, xo⟩ := hsp
  have hl : vs.length = ps.length := by rw [evs, List.length_cons, l.length]; exact len _ _ _ hF
  subst evs
  subst hfd
  refine PySem.ks_codeAny_call_defAt (fd := PySem.W.ksFn name qual params _ scope dV kV doc pm an (.ref cda) ct cc) hr.depth (KX _ _ lk) rfl lim (PySem.W.codeRec_of KX hcd) rfl hb S.nocell (fun x hx => S.par x.1 (List.of_mem_zip hx).1) (fun h1 hns kp => ?_) S.co S.gen S.kind
  show PySem.wpAt (model P w) (A.deeper (PySem.W.ksEnv qual scope s.heap.objs.size f (.ref cda) cc)) _ _ _ _ _
  obtain ⟨hPA, hDI⟩ := hbody p dx A outer s H E (hr.deeper _)
  have hpass := pass_c (P := P) (w := w) (K := K) (mg := mg) (base := base) (N := N) (qual := qual) (scope := scope) (f := f) (cc := cc) (cd := .ref cda) (A := A) (outer := outer) (s := s) (H := H) (E := E)
  have hroom : Room k (A.deeper (PySem.W.ksEnv qual scope s.heap.objs.size f (.ref cda) cc)) := hr.deeper _
  generalize hX : EXS.cxC (L2.CX P w) P w K mg base N qual scope f cc (.ref cda) A outer s H E = X at hPA hDI hpass
  have I : Inv X [] (L2.start N (.ref p :: us0)) H { s with heap := h1, toks := s.toks + (ps.zip us).length } := by
    rw [← hX]
    exact EXS.inv_startC S hr.hd e0 hl r ⟨_, _, _, lcc⟩ hns kp
  have hXp : X.prog = P := by rw [← hX]; rfl
  have hXw : X.w = w := by rw [← hX]; rfl
  have hXK : X.K = K := by rw [← hX]; rfl
  have hXmg : X.mg = mg := by rw [← hX]; rfl
  have hXb : X.base = base := by rw [← hX]; rfl
  have hXA : X.A = A.deeper (PySem.W.ksEnv qual scope s.heap.objs.size f (.ref cda) cc) := by rw [← hX]; rfl
  have hXe : X.env = PySem.W.ksEnv qual scope s.heap.objs.size f (.ref cda) cc := by rw [← hX]; rfl
  have hXN : X.N = N := by rw [← hX]; rfl
  have hXxe : X.xe = fun e s' => wpAny (model P w) (A.deeper (PySem.W.ksEnv qual scope s.heap.objs.size f (.ref cda) cc)) (leaving (PySem.W.ksEnv qual scope s.heap.objs.size f (.ref cda) cc) e) (fun _ s'' => L2.CX P w outer H s E e s'') (fun e' s'' => L2.CX P w outer H s E e' s'') s' := by rw [← hX]; rfl
  have fin : ∀ {σ' : L2.St} {H' : Hp} {v : V} {u : Value} {s' : Shared}, Inv X [] σ' H' s' → RelV v u → Q v H' → CE outer P w H s Q u s' := by
    intro σ' H' v u s' J rv q
    subst hX
    exact ⟨v, H', J.os, J.bare, J.base, J.hok, rv, q⟩
  obtain ⟨ta, pa, sa⟩ := hPA
  obtain ⟨t, hPSs, sm⟩ := hDI
  have hHp : H p = some (.ins C dx []) := hpI
  obtain ⟨mA, hJ, _⟩ := ins_get I.hok hHp
  obtain ⟨odx, hJ, _⟩ := hJ.look
  have go : PySem.wpAt (model X.prog X.w) X.A (.func (.Expr (.Call (.Attribute (.Call (.Name "super" p0) [] [] p1) "__init__" p2) (e :: es) [] p3) p4 :: rest) X.env) (execs (.Expr (.Call (.Attribute (.Call (.Name "super" p0) [] [] p1) "__init__" p2) (e :: es) [] p3) p4 :: rest) X.env)
      (SP X [] { nx := fun _ H' => Q .non H', rt := Q }) X.xe { s with heap := h1, toks := s.toks + (ps.zip us).length } := by
    have hint : interactive X.env = false := I.quiet
    have hps0 : (0 : Nat) < ps.length := by cases ps with | nil => cases hps | cons _ _ => exact Nat.zero_lt_succ _
    have hxin : x0 ∈ ps := by cases ps with | nil => cases hps | cons z _ => cases (Option.some.inj hps); exact List.mem_cons_self
    refine PySem.ks_wpAt_execs_cons (PySem.ks_wpAt_Expr_any (PySem.ks_wpAt_mono (SUPX.at_supm (D := Dd) (x := p) (C := C) (k := k) (CX := L2.CX P w) (sp := spI C Fb) (Q := fun _ H' => t { nx := fun _ H' => Q .non H', rt := Q } (L2.start N (.ref p :: us0)) H') (E := E) (pl := pl X.env) I hXe
      (by rw [hXK]; exact lk) hp (by rw [hXK]; exact lcd) hvs (by rw [hXp]; exact hfile) (by rw [hXK]; exact lcc) (by rw [hXK]; exact hcD) (by rw [hXK]; exact hcC) (by rw [hXK]; exact M.sub) (by rw [hXmg]; exact hsup) (by decide) S.sup S.cls (by rw [hx0]; exact S.par x0 hxin) (by rw [hXp]; exact htop)
      ⟨0, by rw [hXN, hx0]; cases N with | nil => cases hN | cons z _ => exact hN, rfl⟩ hJ (by rw [hXK]; exact M.st) (by rw [hXK]; exact M.m) (by rw [hXK]; exact M.ty) (by rw [hXK]; exact M.fi) (by rw [hXp, hXw, hXK, hXmg, hXb]; exact G) (by rw [hXA]; exact hroom) hpass pa ?_ (he X.env) (hpl X.env) (hcl X.env))
      (fun v s' ⟨v', H', I', rv, q'⟩ => wpAt_of_wpAny (hPSs.run [] _ _ H' _ I' q')) fun _ _ z => z) hint)
    refine sa c _ H S0 (startE N (.adr p :: ds)) _ Rx xo (kn_start kf (repL_cons rfl l)) (hT p ds R Rx hF) _ fun vs1 H1 S1 xs k1 s1 l1 t1 => ?_
    obtain ⟨t0, t1⟩ := t1
    have hp1 : H1 p = some (.ins C dx []) := k1.kf.old p _ (by rw [h0]; exact hpI) np
    have hS0 : c.S0 p = none := by rw [hs0]; exact hS
    have hS1 : S1 p = none := k1.kf.new p hS0 (mu_of (o := .ins C dx []) (by rw [h0]; exact hpI) fun _ z => nomatch z)
    refine ⟨c.at H1 S1, S1, p, dx, vs1, xs, _, Rx, rfl, rfl, rfl, k1.kf.at, hp1, np, hS1, l1, t1, fun H' S' ks xs' vs' k' hl' l' _ r' => ?_, xo.at k1.kf⟩
    have kf2 := k1.kf.put2 k' np hS1
    refine sm (c.put p (.ins C dx (ks.zip vs'))) _ H' S' (startE N (.adr p :: ds)) (flatL xs') ks xs' vs' _ noX xok0 (kn_start kf2 (repL_cons rfl (repL_mono (s1.trans k'.s0) _ _ l))) upd_same np ?_ hl' l' (fun z => flatL_rep z l') r'.2 _ fun σ' H'' S'' nf'' ks' xs'' vs'' k'' s'' hl'' l'' ln'' r'' => ?_
    · exact k'.new p hS1 (by show Mu (upd H1 p _ p); rw [upd_same]; exact mu_of rfl fun _ z => nomatch z)
    · have e9 : (c.put p (.ins C dx (ks.zip vs'))).put p (.ins C dx (ks'.zip vs'')) = c.put p (.ins C dx (ks'.zip vs'')) := by
        unfold Fm.put
        rw [upd_upd]
      rw [e9] at k''
      exact q H'' S'' ks' xs'' vs'' k'' hl'' l'' (fun z => nomatch z) r''
  rw [hXp, hXw, hXA, hXxe, hXe] at go
  refine PySem.ks_wpAt_mono go (fun fl s' hs => ?_) fun e s' z => z
  cases fl with
  | ret u =>
    obtain ⟨v, σ', H', J, rv, q⟩ := hs
    exact fin J rv q
  | next =>
    obtain ⟨σ', H', J, q⟩ := hs
    exact fin (v := V.non) (u := Value.none) J rfl q
  | brk =>
    obtain ⟨_, _, _, q⟩ := hs
    exact False.elim q
  | cont =>
    obtain ⟨_, _, _, q⟩ := hs
    exact False.elim q
theorem fn_iSN {Tl : DTA} {U : Addr → ITS} (F : EXS.SupFn K P.main.file name qual params (.Expr (.Call (.Attribute (.Call (.Name "super" p0) [] [] p1) "__init__" p2) (e :: es) [] p3) p4 :: rest) scope Dd f cc cda fd)
    (M : SupM K C Dd "__init__" g2) (S : EXS.SScope N ps scope)
    (hsup : mg "super" = none) (htop : (P.main.scope.names.lookup ("super" : Str)).isSome = false) (hps : ps.head? = some x0) (hN : N[0]? = some x0) (hp : (params.posonlyargs ++ params.args).head? = some ar) (hx0 : ar.arg = x0)
    (G : FnR P w K mg base (L2.CX P w) k g2 (spI C Fb))
    (len : ∀ ds R Rx, Fs ds R Rx → ds.length + 1 = ps.length)
    (hbody : ∀ (p dx : Addr) (A : Around) (outer : List Env) (s : Shared) (H : Hp) (E : XK), Room k (A.deeper (PySem.W.ksEnv qual scope s.heap.objs.size f (.ref cda) cc)) →
      DA (EXS.cxC (L2.CX P w) P w K mg base N qual scope f cc (.ref cda) A outer s H E) E (e :: es) Tl ∧ DIs (EXS.cxC (L2.CX P w) P w K mg base N qual scope f cc (.ref cda) A outer s H E) E p dx C rest (U p))
    (hT : ∀ p ds R Rx, Fs ds R Rx → Tl (startE N (.adr p :: ds)) (fun us => us.length ≤ 1000 ∧ Fb us (toRest C fun ks xs => U p (fun nf ks xs => nf = true ∧ R (.obj C ks xs)) noX (flatL xs) ks xs (startE N (.adr p :: ds))) Rx) Rx)
    (he : ∀ env, starEach (e :: es) env = (false, eval e env) :: starEach es env) (hpl : ∀ env, (backTo p3 (starEach es env)).any (·.1) = false) {pl : Env → Sem Bool}
    (hcl : ∀ env, eval (.Call (.Attribute (.Call (.Name "super" p0) [] [] p1) "__init__" p2) (e :: es) [] p3) env = (do
      let ov ← attributeBase (.Call (.Name "super" p0) [] [] p1) "__init__" env (eval (.Call (.Name "super" p0) [] [] p1) env)
      standAt p2.atName
      let (f, first) ← holding [ov] (getMethod ov "__init__" (pl env))
      callWith p3 f first (backTo p3 (starEach (e :: es) env)) [])) :
    FnOk P w K mg base (L2.CX P w) (k + 1) f fd ps (spIN C Fs) := by
  refine ⟨fun vs H Q E ⟨c, S, p, dx, us, ds, R, Rx, e, _, _, _, _, _, _, l, h, _⟩ => by rw [e, List.length_cons, l.length]; exact len _ _ _ h, fun A outer s H args us vs Q E hr e0 hb r hsp => ?_⟩
  obtain ⟨oc, ccl, cl, dV, kV, doc, pm, ct, an, od, cdd, cld, osl, ccs, csl, vs2, file, tf, cdD, hfd, lk, hcd, lcd, hvs, hfile, lcc, hcD, _⟩ := F.ex
  obtain ⟨cdC, hcC⟩ := M.c
  have KX : K.In s.heap := e0.mod.kin.keeps fun b o e => (e0.bs b o e).1
  have lim : s.heap.NoLimit := e0.mod.nolimit.keeps fun b o e => (e0.bs b o e).1
  obtain ⟨c, S0, p, dx, us0, ds, R, Rx, evs, h0, hs0, kf, hpI, np, hS, l, hF, q, xo⟩ := hsp
  have hl : vs.length = ps.length := by rw [evs, List.length_cons, l.length]; exact len _ _ _ hF
  subst evs
  subst hfd
  refine PySem.ks_codeAny_call_defAt (fd := PySem.W.ksFn name qual params _ scope dV kV doc pm an (.ref cda) ct cc) hr.depth (KX _ _ lk) rfl lim (PySem.W.codeRec_of KX hcd) rfl hb S.nocell (fun x hx => S.par x.1 (List.of_mem_zip hx).1) (fun h1 hns kp => ?_) S.co S.gen S.kind
  show PySem.wpAt (model P w) (A.deeper (PySem.W.ksEnv qual scope s.heap.objs.size f (.ref cda) cc)) _ _ _ _ _
  obtain ⟨hPA, hDI⟩ := hbody p dx A outer s H E (hr.deeper _)
  have hpass := pass_c (P := P) (w := w) (K := K) (mg := mg) (base := base) (N := N) (qual := qual) (scope := scope) (f := f) (cc := cc) (cd := .ref cda) (A := A) (outer := outer) (s := s) (H := H) (E := E)
  have hroom : Room k (A.deeper (PySem.W.ksEnv qual scope s.heap.objs.size f (.ref cda) cc)) := hr.deeper _
  generalize hX : EXS.cxC (L2.CX P w) P w K mg base N qual scope f cc (.ref cda) A outer s H E = X at hPA hDI hpass
  have I : Inv X [] (L2.start N (.ref p :: us0)) H { s with heap := h1, toks := s.toks + (ps.zip us).length } := by
    rw [← hX]
    exact EXS.inv_startC S hr.hd e0 hl r ⟨_, _, _, lcc⟩ hns kp
  have hXp : X.prog = P := by rw [← hX]; rfl
  have hXw : X.w = w := by rw [← hX]; rfl
  have hXK : X.K = K := by rw [← hX]; rfl
  have hXmg : X.mg = mg := by rw [← hX]; rfl
  have hXb : X.base = base := by rw [← hX]; rfl
  have hXA : X.A = A.deeper (PySem.W.ksEnv qual scope s.heap.objs.size f (.ref cda) cc) := by rw [← hX]; rfl
  have hXe : X.env = PySem.W.ksEnv qual scope s.heap.objs.size f (.ref cda) cc := by rw [← hX]; rfl
  have hXN : X.N = N := by rw [← hX]; rfl
  have hXxe : X.xe = fun e s' => wpAny (model P w) (A.deeper (PySem.W.ksEnv qual scope s.heap.objs.size f (.ref cda) cc)) (leaving (PySem.W.ksEnv qual scope s.heap.objs.size f (.ref cda) cc) e) (fun _ s'' => L2.CX P w outer H s E e s'') (fun e' s'' => L2.CX P w outer H s E e' s'') s' := by rw [← hX]; rfl
  have fin : ∀ {σ' : L2.St} {H' : Hp} {v : V} {u : Value} {s' : Shared}, Inv X [] σ' H' s' → RelV v u → Q v H' → CE outer P w H s Q u s' := by
    intro σ' H' v u s' J rv q
    subst hX
    exact ⟨v, H', J.os, J.bare, J.base, J.hok, rv, q⟩
  obtain ⟨ta, pa, sa⟩ := hPA
  obtain ⟨t, hPSs, sm⟩ := hDI
  have hHp : H p = some (.ins C dx []) := hpI
  obtain ⟨mA, hJ, _⟩ := ins_get I.hok hHp
  obtain ⟨odx, hJ, _⟩ := hJ.look
  have go : PySem.wpAt (model X.prog X.w) X.A (.func (.Expr (.Call (.Attribute (.Call (.Name "super" p0) [] [] p1) "__init__" p2) (e :: es) [] p3) p4 :: rest) X.env) (execs (.Expr (.Call (.Attribute (.Call (.Name "super" p0) [] [] p1) "__init__" p2) (e :: es) [] p3) p4 :: rest) X.env)
      (SP X [] { nx := fun _ H' => Q .non H', rt := Q }) X.xe { s with heap := h1, toks := s.toks + (ps.zip us).length } := by
    have hint : interactive X.env = false := I.quiet
    have hps0 : (0 : Nat) < ps.length := by cases ps with | nil => cases hps | cons _ _ => exact Nat.zero_lt_succ _
    have hxin : x0 ∈ ps := by cases ps with | nil => cases hps | cons z _ => cases (Option.some.inj hps); exact List.mem_cons_self
    refine PySem.ks_wpAt_execs_cons (PySem.ks_wpAt_Expr_any (PySem.ks_wpAt_mono (SUPX.at_supm (D := Dd) (x := p) (C := C) (k := k) (CX := L2.CX P w) (sp := spI C Fb) (Q := fun _ H' => t { nx := fun _ H' => Q .non H', rt := Q } (L2.start N (.ref p :: us0)) H') (E := E) (pl := pl X.env) I hXe
      (by rw [hXK]; exact lk) hp (by rw [hXK]; exact lcd) hvs (by rw [hXp]; exact hfile) (by rw [hXK]; exact lcc) (by rw [hXK]; exact hcD) (by rw [hXK]; exact hcC) (by rw [hXK]; exact M.sub) (by rw [hXmg]; exact hsup) (by decide) S.sup S.cls (by rw [hx0]; exact S.par x0 hxin) (by rw [hXp]; exact htop)
      ⟨0, by rw [hXN, hx0]; cases N with | nil => cases hN | cons z _ => exact hN, rfl⟩ hJ (by rw [hXK]; exact M.st) (by rw [hXK]; exact M.m) (by rw [hXK]; exact M.ty) (by rw [hXK]; exact M.fi) (by rw [hXp, hXw, hXK, hXmg, hXb]; exact G) (by rw [hXA]; exact hroom) hpass pa ?_ (he X.env) (hpl X.env) (hcl X.env))
      (fun v s' ⟨v', H', I', rv, q'⟩ => wpAt_of_wpAny (hPSs.run [] _ _ H' _ I' q')) fun _ _ z => z) hint)
    refine sa c _ H S0 (startE N (.adr p :: ds)) _ Rx xo (kn_start kf (repL_cons rfl l)) (hT p ds R Rx hF) _ fun vs1 H1 S1 xs k1 s1 l1 t1 => ?_
    obtain ⟨t0, t1⟩ := t1
    have hp1 : H1 p = some (.ins C dx []) := k1.kf.old p _ (by rw [h0]; exact hpI) np
    have hS0 : c.S0 p = none := by rw [hs0]; exact hS
    have hS1 : S1 p = none := k1.kf.new p hS0 (mu_of (o := .ins C dx []) (by rw [h0]; exact hpI) fun _ z => nomatch z)
    refine ⟨c.at H1 S1, S1, p, dx, vs1, xs, _, Rx, rfl, rfl, rfl, k1.kf.at, hp1, np, hS1, l1, t1, fun H' S' ks xs' vs' k' hl' l' _ r' => ?_, xo.at k1.kf⟩
    have kf2 := k1.kf.put2 k' np hS1
    refine sm (c.put p (.ins C dx (ks.zip vs'))) _ H' S' (startE N (.adr p :: ds)) (flatL xs') ks xs' vs' _ noX xok0 (kn_start kf2 (repL_cons rfl (repL_mono (s1.trans k'.s0) _ _ l))) upd_same np ?_ hl' l' (fun z => flatL_rep z l') r'.2 _ fun σ' H'' S'' nf'' ks' xs'' vs'' k'' s'' hl'' l'' ln'' r'' => ?_
    · exact k'.new p hS1 (by show Mu (upd H1 p _ p); rw [upd_same]; exact mu_of rfl fun _ z => nomatch z)
    · have e9 : (c.put p (.ins C dx (ks.zip vs'))).put p (.ins C dx (ks'.zip vs'')) = c.put p (.ins C dx (ks'.zip vs'')) := by
        unfold Fm.put
        rw [upd_upd]
      rw [e9] at k''
      exact q H'' S'' ks' xs'' vs'' k'' hl'' l'' (fun _ => by
        have q0 := ln'' r''.1
        rw [newT_put (o0 := .ins C dx []) (by rw [h0]; exact hpI), h0] at q0
        exact q0) r''.2
  rw [hXp, hXw, hXA, hXxe, hXe] at go
  refine PySem.ks_wpAt_mono go (fun fl s' hs => ?_) fun e s' z => z
  cases fl with
  | ret u =>
    obtain ⟨v, σ', H', J, rv, q⟩ := hs
    exact fin J rv q
  | next =>
    obtain ⟨σ', H', J, q⟩ := hs
    exact fin (v := V.non) (u := Value.none) J rfl q
  | brk =>
    obtain ⟨_, _, _, q⟩ := hs
    exact False.elim q
  | cont =>
    obtain ⟨_, _, _, q⟩ := hs
    exact False.elim q
end
end DL
namespace DL
open PySem PySem.Spec L2
variable [TbC]
/-- {x}: a text or an int, as a text -/
def fFmt (R : Str → Prop) : D → Prop
  | .str y => y.length ≤ sizeLine ∧ R y
  | .int i => i.natAbs.log2 < 1920 ∧ R (toString i)
  | _ => False
theorem w_fFmtS {R : Str → Prop} {y : Str} : fFmt R (.str y) = (y.length ≤ sizeLine ∧ R y) := rfl
theorem w_fFmtI {R : Str → Prop} {i : Int} : fFmt R (.int i) = (i.natAbs.log2 < 1920 ∧ R (toString i)) := rfl
/-- the parts of an f-string: what is joined so far, what follows -/
abbrev DTJ := Str → En → (Str → Prop) → (Er → Prop) → Prop
def jfNil : DTJ := fun acc _ R _ => R acc
def jfCons (T : DT) (U : DTJ) : DTJ := fun acc env R Rx => T env (fun d => match d with
  | .str y => (acc ++ y).length ≤ sizeLine ∧ U (acc ++ y) env R Rx
  | _ => False) Rx
theorem w_jfNil {acc : Str} {env : En} {R : Str → Prop} {Rx : Er → Prop} : jfNil acc env R Rx = R acc := rfl
def asTx (R : Str → Prop) : D → Prop
  | .str y => R y
  | _ => False
theorem w_asTx {R : Str → Prop} {y : Str} : asTx R (.str y) = R y := rfl
theorem w_jfCons {T : DT} {U : DTJ} {acc : Str} {env : En} {R : Str → Prop} {Rx : Er → Prop} : jfCons T U acc env R Rx = T env (asTx fun y => (acc ++ y).length ≤ sizeLine ∧ U (acc ++ y) env R Rx) Rx := by
  unfold jfCons asTx
  rfl
section
variable {X : Cx} {E : XK} {e : Expr} {es : List Expr} {T : DT} {U : DTJ} {pos : Pos}
def xFmt (T : DT) : DT := fun env R Rx => T env (fFmt fun y => R (.str y)) Rx
theorem w_xFmt {T : DT} {env : En} {R : D → Prop} {Rx : Er → Prop} : xFmt T env R Rx = T env (fFmt fun y => R (.str y)) Rx := rfl
def xJoined (U : DTJ) : DT := fun env R Rx => U Str.empty env (fun out => R (.str out)) Rx
theorem w_xJoined {U : DTJ} {env : En} {R : D → Prop} {Rx : Er → Prop} : xJoined U env R Rx = U Str.empty env (fun out => R (.str out)) Rx := rfl
end
end DL
namespace DL
open PySem PySem.Spec L2
variable [TbC]
section
variable {X : Cx} {E : XK} {e : Expr} {st : Stmt} {sts : List Stmt} {T U : DT}
def xAlt (T U : DT) : DT := fun env R Rx => T env R Rx ∨ U env R Rx
theorem d_alt (h : DE X E e T) (h2 : DE X E e U) : DE X E e (xAlt T U) := by
  obtain ⟨t, p, s⟩ := h
  obtain ⟨t2, p2, s2⟩ := h2
  refine ⟨fun σ H Q => t σ H Q ∨ t2 σ H Q, ⟨fun pins s0 σ H Q I q => ?_⟩, fun c σ H S env R Rx x k q Q hq => ?_⟩
  · rcases q with q | q
    · exact p.run pins s0 σ H Q I q
    · exact p2.run pins s0 σ H Q I q
  · rcases q with q | q
    · exact .inl (s c σ H S env R Rx x k q Q hq)
    · exact .inr (s2 c σ H S env R Rx x k q Q hq)
end
structure ConI (K : PySem.W.Frag) (C : Addr) (f : Str) (u : Value) : Prop where
  at_ : PySem.W.findIn K (.ref C) f = some (some u)
  ng : PySem.W.specialIn K u "__get__" = some none
  hd : PySem.W.handedIn u = true
  cp : PySem.W.copiedNames.contains f = false
section
variable {X : Cx} {E : XK} {e : Expr} {f : Str} {pos : Pos} {C : Addr} {u : Value} {d0 : D} {To : DT}
def xCon (C : Addr) (f : Str) (d0 : D) (Te : DT) : DT := fun env R Rx => Te env (asO C fun ks xs => fld ks xs f = none ∧ R d0) Rx
theorem d_con {v0 : V} (he : DE X E e To) (c : Cls X.K C) (n : ConI X.K C f u) (hv : RelV v0 u) (hr : ∀ B S, Rep B S d0 v0) (hb : attributeBase e f X.env (eval e X.env) = eval e X.env := by rfl) : DE X E (.Attribute e f pos) (xCon C f d0 To) := by
  obtain ⟨t, p1, s⟩ := he
  refine ⟨fun σ H Q => t σ H fun x H1 => ∃ a dx fs, x = .ref a ∧ H1 a = some (.ins C dx fs) ∧ fs.lookup f = none ∧ Q v0 H1, ⟨fun pins s0 σ H Q I h => ?_⟩, fun c0 σ H S env R Rx x k t Q q => s c0 σ H S env _ Rx x k t _ fun v H1 S1 d k1 s1 r1 t1 => ?_⟩
  · refine attr_of hb (thn (p1.run pins s0 σ H _ I h) fun w s1 ⟨x, H1, I1, rx, a, dx, fs, ex, ea, hl, q⟩ => ?_)
    subst ex
    obtain rfl : w = Value.ref a := rx
    obtain ⟨mA, O, rel, _⟩ := ins_get I1.hok ea
    obtain ⟨od, J, lk⟩ := O.look
    have hl2 : PySem.W.lookIn f od = some none := by
      have hz := rel f
      rw [hl] at hz
      rw [lk f]
      cases z : mA f with
      | none => rfl
      | some y => rw [z] at hz; exact hz.elim
    exact PySem.W.get_value I1.kIn J (PySem.W.plainGet_of (c.get f)).1 (PySem.W.findObj_cls c.hd n.at_ n.ng n.hd n.cp hl2) n.hd ⟨v0, H1, I1.tok _, hv, q⟩
  · cases d <;> try exact (show False from t1).elim
    obtain ⟨rfl, e1, t1⟩ := t1
    obtain ⟨a, dx, vs, e2, h1, hn, l1⟩ := obj_of k1 r1
    exact ⟨a, dx, _, e2, h1, fld_none l1 hn e1, q v0 H1 S1 d0 k1 s1 (hr _ _) t1⟩
end
end DL
namespace PySem
open Sem (wp)
section
variable {prog : Program} {w : World} {A : Around} {E : Value → Shared → Prop} {s : Shared}
/-- T(..) where what T.__new__ does is told for this very program -/
theorem own_newType {T nid : String} {B0 : Builtin} {as : List Value} {Q : Value → Shared → Prop} (tc : TypeCalled T nid "object.__init__") (ne : (some nid != some "object.__new__") = true) (c1 : checkTypeCall T ⟨as, []⟩ = pure ()) (c2 : checkBuiltinCall nid ⟨.type T :: as, []⟩ = pure ())
    (ok : ∀ o, argsOk "object.__init__" ⟨o :: as, []⟩) (en : entryFor table nid = some B0)
    (h : wpAny (model prog w) A.in1.in1 (B0 ⟨.type T :: as, []⟩) (fun fin s' => match fin with | .done f => wants (fun o s₁ => s₁.TypeIs o T ∧ Q o s₁) E (.ok f) s' | .again c' => c'.quiet = true ∧ codeAny (model prog w) A.in1 c' (wants (fun o s₁ => s₁.TypeIs o T ∧ Q o s₁) E) s')
      (fun e s' => wants (fun o s₁ => s₁.TypeIs o T ∧ Q o s₁) E (.error e) s') s) : wpAny (model prog w) A (call (.type T) as) Q E s := by
  obtain ⟨c0, t0, hm⟩ := tc.mro
  have hd := tc.made
  have hb := tc.sub
  refine wpAny_call (codeAny_of_tree ?_)
  show wpAny _ _ (callAny (.type T) ⟨as, []⟩) _ _ _
  refine wpAny_pure ⟨Code.quiet_builtin _ (by decide +kernel), codeAny_builtin F.entry_type_call ?_⟩
  rw [Around.under_plain (weight_type_call_type T as []) (units_type_call_type T as [])]
  have z1 := tc.notType
  have z2 := tc.canCreate
  repeat any_goals (first | assumption | wp_step)
  refine codeAny_mono (codeAny_call_builtin tc.plain en (wpAny_of_eq c2 h)) fun r s₁ hr => ?_
  rcases r with e | fl
  · exact hr
  cases fl with
  | ret o =>
    obtain ⟨hT, hq⟩ := hr
    have y1 := tc.init.lookup
    have y2 := tc.init.bind o
    repeat any_goals (first | assumption | wp_step)
    refine codeAny_mono (codeAny_call_builtin tc.init.plain F.entry_object_init (tc.init.check _ _ _ _ _ _ _ _ hT (ok o) (object_init_meets tc.init.lookup tc.made ne prog w A.in1 (wants (fun r s₂ => r = .none ∧ Q o s₂) E) s₁ ⟨hT, rfl, hq⟩))) fun r2 s2 hr2 => ?_
    rcases r2 with e2 | fl2
    · exact hr2
    cases fl2 with
    | ret r =>
      obtain ⟨rfl, q2⟩ := hr2
      repeat any_goals (first | assumption | wp_step)
    | _ => exact hr2.elim
  | _ => exact hr.elim
theorem own_boolOf {v : Value} {Q : Value → Shared → Prop} (h : wpAny (model prog w) A.in1.in1 (truthy v) (fun b s1 => Q (.bool b) s1) E s) : wpAny (model prog w) A (call (.type "bool") [v]) Q E s := by
  refine own_newType F.called_bool F.newNe_bool (F.typeCall_bool_1 v) (F.newCall_bool_1 v) (fun o => F.args_object_init_2 o v) F.entry_bool_new ?_
  obtain ⟨hp, g, d, tk, os⟩ := s
  have y1 := F.conv_sub_bool
  repeat any_goals (first | assumption | (with_reducible refine wpAny_mono h (fun b s1 hq => ?_) fun _ _ z => z) | wp_step)
  exact ⟨PyProof.Rows.typeIs_bool _ _, hq⟩
end
end PySem
namespace DL
open PySem PySem.Spec L2
variable [TbC]
section
variable {X : Cx} {pins : List (Addr × Obj)} {σ : St} {H : Hp} {s : Shared} {k : Nat} {f g C : Addr} {fd : FuncData} {ps : List Str} {sp : Sp} {F : Spec}
theorem run_in2 {Q : VK} {us : List Value} {vs : List V} {E' : Value → Shared → Prop} (G : FnOk X.prog X.w X.K X.mg X.base (L2.CX X.prog X.w) k f fd ps sp) (hr : Room (k + 2) X.A) (hb : Binds X.K fd ps []) (I : Inv X pins σ H s) (r : Vals vs us) (h : sp vs H Q E0) :
    wpAny (model X.prog X.w) X.A.in1.in1 (call (.ref f) us) (EP X pins σ Q) E' s := by
  have hl : (us ++ []).length = ps.length := by rw [List.append_nil, ← r.length]; exact G.len _ _ _ _ h
  have hb2 := hb s us I.kIn hl
  rw [List.append_nil] at hb2
  refine wpAny_call (codeAny_mono (G.run X.A.in1.in1 X.stack s H ⟨us, []⟩ us vs Q E0 hr.in1.in1 I.env0.in1.in1 hb2 r h) fun r s' hq => ?_)
  cases r with
  | error er => exact False.elim ((passL (X := X.nox)) pins σ H s er s' (I.wish _) hq)
  | ok fl =>
    cases fl with
    | ret u => exact I.after hq
    | next => exact False.elim hq
    | brk => exact False.elim hq
    | cont => exact False.elim hq
def rBoolOw (C : Addr) (sp : Sp) : List V → Hp → VK → Prop := fun xs H Q => ∃ a dx fs, xs = [.ref a] ∧ H a = some (.ins C dx fs) ∧ sp [.ref a] H (fun v H' => ∃ b : Bool, v = .bl b ∧ Q (.bl b) H') E0
theorem call_boolOw (o : Hx.Own X.K C "__bool__" g) (G : FnOk X.prog X.w X.K X.mg X.base (L2.CX X.prog X.w) k g fd ps sp) (hb : Binds X.K fd ps []) (hr : Room (k + 2) X.A) : CallR X (.type "bool") (rBoolOw C sp) := by
  intro pins s σ H xs us Q I r h
  obtain ⟨a, dx, fs, rfl, ha, q⟩ := h
  obtain ⟨u, rfl, ru⟩ := vals1 r
  obtain rfl : u = Value.ref a := ru
  obtain ⟨mA, J, _⟩ := ins_get I.hok ha
  obtain ⟨od, J, _⟩ := J.look
  obtain ⟨m, hF⟩ := I.fr
  refine own_boolOf (PySem.W.truthy_K hF I.ok.mod.kin J o.at_ o.fn (wpAny_mono (run_in2 (us := [.ref a]) (vs := [.ref a]) G hr hb I (.cons rfl .nil) q) (fun u s' hq => ?_) fun _ _ z => z))
  obtain ⟨v, H', I', rv, b, rfl, q2⟩ := hq
  cases rv
  exact ⟨.bl b, H', I', rfl, q2⟩
def blR (R : D → Prop) : D → Prop
  | .bl n => R (.bl n)
  | _ => False
theorem w_blR {R : D → Prop} {n : Bool} : blR R (.bl n) = R (.bl n) := rfl
def fBoolOw (C : Addr) (F : Spec) : DFn
  | [x], R => asO C (fun _ _ => True) x ∧ F [x] (blR R) noX
  | _, _ => False
theorem w_fBoolOw {C : Addr} {F : Spec} {x : D} {R : D → Prop} : fBoolOw C F [x] R = (asO C (fun _ _ => True) x ∧ F [x] (blR R) noX) := rfl
theorem b_boolOw (o : Hx.Own X.K C "__bool__" g) (G : FnOk X.prog X.w X.K X.mg X.base (L2.CX X.prog X.w) k g fd ps (spD F)) (hb : Binds X.K fd ps []) (hr : Room (k + 2) X.A) : CallOk X (.type "bool") (fBoolOw C F) := by
  refine ⟨_, call_boolOw o G hb hr, fun c σ H S env xs vs R kn r t Q q => ?_⟩
  match xs, t with
  | [x], t2 =>
  obtain ⟨t0, t3⟩ := t2
  obtain ⟨v, rfl, r1⟩ := rep1 r
  cases x <;> try exact (show False from t0).elim
  obtain ⟨rfl, _⟩ := t0
  obtain ⟨a, dx, vs, rfl, h1, hn, l1⟩ := obj_of kn r1
  refine ⟨a, dx, _, rfl, h1, sp_call kn xok0 (repL_cons r1 repL_nil) t3 fun v H' S' d k' s' r' t' => ?_⟩
  cases d <;> try exact (show False from t').elim
  exact ⟨_, r', q _ H' S' (.bl _) k' s' rfl t'⟩
def stR (R : D → Prop) : D → Prop
  | .str n => R (.str n)
  | _ => False
theorem w_stR {R : D → Prop} {n : Str} : stR R (.str n) = R (.str n) := rfl
def fReprOw (C : Addr) (F : Spec) : DFn
  | [x], R => asO C (fun _ _ => True) x ∧ F [x] (stR R) noX
  | _, _ => False
theorem w_fReprOw {C : Addr} {F : Spec} {x : D} {R : D → Prop} : fReprOw C F [x] R = (asO C (fun _ _ => True) x ∧ F [x] (stR R) noX) := rfl
def xTruOw (C : Addr) (F : Spec) (Ta : DT) : DTT := fun env R Rx => Ta env (fun x => asO C (fun _ _ => True) x ∧ F [x] (asB R) noX) Rx
def fBool : DFn
  | [.bl b], R => R (.bl b)
  | [.int i], R => R (.bl (i != 0))
  | _, _ => False
theorem w_fBoolB {b : Bool} {R : D → Prop} : fBool [.bl b] R = R (.bl b) := rfl
theorem w_fBoolI {i : Int} {R : D → Prop} : fBool [.int i] R = R (.bl (i != 0)) := rfl
theorem b_bool : CallOk X (.type "bool") fBool := by
  refine ⟨_, call_bool1, fun c σ H S env xs vs R kn r t Q q => ?_⟩
  match xs, t with
  | [.bl b], t =>
    obtain ⟨v, rfl, r1⟩ := rep1 r
    exact .inr ⟨b, by rw [show v = V.bl b from r1], q _ H S (.bl _) kn (Same.refl S) rfl t⟩
  | [.int b], t =>
    obtain ⟨v, rfl, r1⟩ := rep1 r
    exact .inl ⟨b, by rw [show v = V.int b from r1], q _ H S (.bl _) kn (Same.refl S) rfl t⟩
end
end DL
namespace Hx
open PySem PySem.Spec L2
theorem supM_ok {K : PySem.W.Frag} {x m : Str} (h : fSup x m K = true) : DL.SupM K (He.ga K x) (He.ga K x) m (sA x m K) := by
  obtain ⟨h1, h⟩ := He.ba h
  obtain ⟨h2, h⟩ := He.ba h
  obtain ⟨h3, h⟩ := He.ba h
  obtain ⟨h4, h⟩ := He.ba h
  obtain ⟨h5, h6⟩ := He.ba h
  exact ⟨of_decide_eq_true h1, Option.isSome_iff_exists.mp h2, of_decide_eq_true h3, He.eqO_ok h4, of_decide_eq_true h5, h6⟩
theorem relB_ok {v : V} {u : Value} (h : relB v u = true) : RelV v u := by
  unfold relB at h
  split at h
  · obtain rfl := of_decide_eq_true h
    exact ⟨_, rfl⟩
  · obtain rfl := of_decide_eq_true h
    exact ⟨_, rfl⟩
  · obtain rfl := of_decide_eq_true h
    rfl
  · rfl
  · cases h
/-- the class x (or one above it) has the constant f -/
def ConV (K : PySem.W.Frag) (C : Addr) (f : Str) (v : V) : Prop := ∃ u, DL.ConI K C f u ∧ RelV v u
theorem con_ok {K : PySem.W.Frag} {x f : Str} {v : V} (h : fCon x f v K = true) : ConV K (He.ga K x) f v := by
  unfold fCon at h
  split at h
  · rename_i u e
    obtain ⟨h1, h⟩ := He.ba h
    obtain ⟨h2, h⟩ := He.ba h
    obtain ⟨h3, h4⟩ := He.ba h
    exact ⟨u, ⟨e, of_decide_eq_true h2, h3, by simpa using h4⟩, relB_ok h1⟩
  · cases h
end Hx
namespace DL
open PySem PySem.Spec L2
variable [TbC]
/-- a def that says super(): its function -/
structure Dsup (K : PySem.W.Frag) (fl x qual : Str) (st : Stmt) (D : Addr) where
  f : Addr
  cc : Addr
  cda : Addr
  fd : FuncData
  F : EXS.SupFn K fl x qual (defArgs st) (defBody st) (defScope st) D f cc cda fd
theorem Dsup.binds {K : PySem.W.Frag} {fl x qual : Str} {st : Stmt} {C : Addr} {ps : List Str} (D : Dsup K fl x qual st C)
    (h : ∀ (kV doc pm cdv ct : Value) (an : Option Addr) (cc : Addr) (us : List Value), us.length = ps.length → bindArgs (PySem.W.ksFn x qual (defArgs st) (defBody st) (defScope st) .none kV doc pm an cdv ct cc) ⟨us, []⟩ = pure (ps.zip us)) : Binds K D.fd ps [] := by
  obtain ⟨_, _, _, dV, _, _, _, _, _, _, _, _, _, _, _, _, _, _, _, e, _, _, _, _, _, _, _, e2⟩ := D.F.ex
  rw [e, e2]
  exact Binds.all (h _ _ _ _ _ _ _)
theorem FnOk_r0 {P : Program} {w : World} {K : PySem.W.Frag} {mg : Str → Option Value} {base : Heap} {CX : CXT} {k : Nat} {f : Addr} {fd : FuncData} {ps : List Str} {sp : Sp} (G : FnOk P w K mg base CX k f fd ps sp) (hb : Binds K fd ps []) : FnR P w K mg base CX k f sp := by
  have h := G.raw hb .nil
  have e : (fun vs H Q E => sp (vs ++ []) H Q E) = sp := by
    funext vs H Q E
    rw [List.append_nil]
  first
    | exact e ▸ h
    | (rw [e] at h; exact h)
theorem w_toRest {C C' : Addr} {U : List Str → List D → Prop} {ks : List Str} {xs : List D} : toRest C U (.obj C' ks xs) = (C' = C ∧ U ks xs) := rfl
theorem w_xCon {C : Addr} {f : Str} {d0 : D} {Te : DT} {env : En} {R : D → Prop} {Rx : Er → Prop} : xCon C f d0 Te env R Rx = Te env (asO C fun ks xs => fld ks xs f = none ∧ R d0) Rx := rfl
theorem w_xAlt {T U : DT} {env : En} {R : D → Prop} {Rx : Er → Prop} : xAlt T U env R Rx = (T env R Rx ∨ U env R Rx) := rfl
section
variable {X : Cx} {E : XK} {e : Expr} {f : Str} {pos : Pos} {C : Addr} {To : DT}
theorem d_conX {v0 : V} {d0 : D} (he : DE X E e To) (c : Cls X.K C) (n : Hx.ConV X.K C f v0) (hr : ∀ B S, Rep B S d0 v0) (hb : attributeBase e f X.env (eval e X.env) = eval e X.env := by rfl) : DE X E (.Attribute e f pos) (xCon C f d0 To) := by
  obtain ⟨u, n1, n2⟩ := n
  exact d_con he c n1 n2 hr hb
theorem d_conS {y : Str} (he : DE X E e To) (c : Cls X.K C) (n : Hx.ConV X.K C f (.str y)) (hb : attributeBase e f X.env (eval e X.env) = eval e X.env := by rfl) : DE X E (.Attribute e f pos) (xCon C f (.str y) To) := d_conX he c n (fun _ _ => rfl) hb
theorem d_conB {y : Bool} (he : DE X E e To) (c : Cls X.K C) (n : Hx.ConV X.K C f (.bl y)) (hb : attributeBase e f X.env (eval e X.env) = eval e X.env := by rfl) : DE X E (.Attribute e f pos) (xCon C f (.bl y) To) := d_conX he c n (fun _ _ => rfl) hb
end
end DL
namespace DL
open PySem PySem.Spec L2
variable [TbC]
section
variable {X : Cx} {E : XK} {a : Expr} {p pos : Pos} {Tl Tk : DTA}
def fEnumK (R : List D → Prop) (ds : List D) : List D → Prop
  | [.int k] => match ds with
    | [.lst xs] => -(2 ^ 63) ≤ k ∧ k < 2 ^ 63 ∧ R (nums k xs)
    | _ => False
  | _ => False
def xEnumK (Tl Tk : DTA) : DTI := fun env R Rx => Tl env (fun ds => Tk env (fun es => fEnumK R ds es) Rx) Rx
theorem w_xEnumK {Tl Tk : DTA} {env : En} {R : List D → Prop} {Rx : Er → Prop} : xEnumK Tl Tk env R Rx = Tl env (fun ds => Tk env (fun es => fEnumK R ds es) Rx) Rx := rfl
theorem w_fEnumK {R : List D → Prop} {xs : List D} {k : Int} : fEnumK R [.lst xs] [.int k] = (-(2 ^ 63) ≤ k ∧ k < 2 ^ 63 ∧ R (nums k xs)) := rfl
end
end DL
namespace DL
open PySem PySem.Spec L2 PyProof.Rows
variable [TbC]
section
variable {X : Cx}
def fAnyI : DFn
  | [.lst xs], R => ∃ ns, asInts xs = some ns ∧ R (.bl (ns.any fun n => n != 0))
  | [.tup xs], R => ∃ ns, asInts xs = some ns ∧ R (.bl (ns.any fun n => n != 0))
  | _, _ => False
theorem w_fAnyI {xs : List D} {R : D → Prop} : fAnyI [.lst xs] R = ∃ ns, asInts xs = some ns ∧ R (.bl (ns.any fun n => n != 0)) := rfl
theorem w_fAnyIT {xs : List D} {R : D → Prop} : fAnyI [.tup xs] R = ∃ ns, asInts xs = some ns ∧ R (.bl (ns.any fun n => n != 0)) := rfl
end
end DL
namespace DL
open PySem PySem.Spec L2 PyProof.Rows
variable [TbC]
def fLenSetL (R : D → Prop) : D → Prop
  | .lst xs => ∃ ns, asInts xs = some ns ∧ ns.length ≤ 60 ∧ ∀ out : List Int, out.Nodup → (∀ k, k ∈ out ↔ k ∈ ns) → R (.int (out.length : Nat))
  | _ => False
def xLenSetL (Ta : DT) : DT := fun env R Rx => Ta env (fLenSetL R) Rx
theorem w_xLenSetL {Ta : DT} {env : En} {R : D → Prop} {Rx : Er → Prop} : xLenSetL Ta env R Rx = Ta env (fLenSetL R) Rx := rfl
theorem w_fLenSetL {xs : List D} {R : D → Prop} : fLenSetL R (.lst xs) = ∃ ns, asInts xs = some ns ∧ ns.length ≤ 60 ∧ ∀ out : List Int, out.Nodup → (∀ k, k ∈ out ↔ k ∈ ns) → R (.int (out.length : Nat)) := rfl
end DL
namespace DL
open PySem PySem.Spec L2
variable [TbC]
def xItAlt (T U : DTI) : DTI := fun env R Rx => T env R Rx ∨ U env R Rx
theorem w_xItAlt {T U : DTI} {env : En} {R : List D → Prop} {Rx : Er → Prop} : xItAlt T U env R Rx = (T env R Rx ∨ U env R Rx) := rfl
theorem i_alt {X : Cx} {E : XK} {tg e : Expr} {T U : DTI} (h : DI X E tg e T) (h2 : DI X E tg e U) : DI X E tg e (xItAlt T U) := by
  obtain ⟨t, p, s⟩ := h
  obtain ⟨t2, p2, s2⟩ := h2
  refine ⟨fun σ H Q => t σ H Q ∨ t2 σ H Q, ⟨fun pins s0 σ H Q I q => ?_⟩, fun c σ H S env R Rx x k q Q hq => ?_⟩
  · rcases q with q | q
    · exact p.run pins s0 σ H Q I q
    · exact p2.run pins s0 σ H Q I q
  · rcases q with q | q
    · exact .inl (s c σ H S env R Rx x k q Q hq)
    · exact .inr (s2 c σ H S env R Rx x k q Q hq)
end DL
namespace DL
open PySem PySem.Spec L2
end DL
namespace DL
open PySem PySem.Spec L2
variable [TbC]
theorem fIsiO_same {C a : Addr} {ks : List Str} {xs : List D} {R : D → Prop} : fIsiO C [.obj C ks xs, .adr a] R = (a = C ∧ R (.bl true)) := by
  unfold fIsiO
  simp [isO]
end DL
namespace DL
open PySem PySem.Spec L2
variable [TbC]
theorem perm_rep {B : Option Addr} {S : Hp} {m : Nat} {xs : List D} {vs : List V} (l : RepL B S xs vs) (idx : List Nat) : RepL B S (gPerm 0 m idx [] xs) (gPerm 0 m idx [] vs) := by
  have hl := l.length
  unfold gPerm
  by_cases z : xs.length = m
  · rw [if_pos ⟨rfl, z⟩, if_pos ⟨rfl, hl.trans z⟩]
    exact rep_pick l idx
  · rw [if_neg fun y => z y.2, if_neg fun y => z (hl.symm.trans y.2)]
    exact repL_nil
def xMakeK (F : Spec) (m : Nat) (idx : List Nat) (Tk : DTA) : DT := fun env R Rx => Tk env (fun zs => zs.length = m ∧ F (gPerm 0 m idx [] zs) R Rx) Rx
theorem w_xMakeK {F : Spec} {m : Nat} {idx : List Nat} {Tk : DTA} {env : En} {R : D → Prop} {Rx : Er → Prop} : xMakeK F m idx Tk env R Rx = Tk env (fun zs => zs.length = m ∧ F (gPerm 0 m idx [] zs) R Rx) Rx := rfl
section
variable {X : Cx} {E : XK} {CX : CXT} {k m : Nat} {C f : Addr} {fd : FuncData} {ps ks : List Str} {F : Spec} {x : Str} {kws : List Keyword} {Tk : DTA} {pos p : Pos} {idx idx0 : List Nat}
theorem d_makeK0 (M : Mk X.K C f) (G : FnOk X.prog X.w X.K X.mg X.base CX k f fd ps (spI C F)) (hr : Room (k + 1) X.A) (hm : X.mg x = some (.ref C)) (hb : KBd X.K fd ps ks (gPerm 1 m idx0)) (hx : Passes CX X E) (hkw : DK X E kws Tk)
    (hk : ks.length = m) (hs : ∀ {α : Type} (y : α) (zs : List α), zs.length = m → gPerm 1 m idx0 [y] zs = y :: gPerm 0 m idx [] zs) (hp : ∀ {α : Type} (y : α) (zs : List α), zs.length = m → (gPerm 1 m idx0 [y] zs).length = ps.length)
    (hg : Gl X x := by rfl) (hall : (backToKw pos (keywordEach kws X.env)).all (·.1.isSome) = true := by rfl) (hks : (backToKw pos (keywordEach kws X.env)).filterMap (·.1) = ks := by rfl) (hdb : (x == ("__debug__" : Str)) = false := by decide)
    (hpl : ((backTo pos (starEach [] X.env)).any (·.1) || (backToKw pos (keywordEach kws X.env)).any (·.1.isNone)) = false := by rfl) :
    DE X E (.Call (.Name x p) [] kws pos) (xMakeK F m idx Tk) := by
  obtain ⟨tk, pk, sk⟩ := hkw
  have hb2 : KBn X.K fd ps 1 ks (gPerm 1 m idx0) (gPerm 1 m idx0) := ⟨fun s us ws X0 l1 l2 => hb.to s us ws X0 (by
    match us, l1 with
    | [y], _ => exact hp y ws (l2.trans hk)), hb.rel⟩
  refine ⟨_, pe_makeK0 M G hr hg hm hb2 hx pk hall hks hdb hpl, fun c σ H S env R Rx x k t Q q => sk c σ H S env _ Rx x k t _ fun ws H1 S1 zs k1 s1 l1 t1 => ?_⟩
  obtain ⟨hz, t1⟩ := t1
  have hw : ws.length = m := by rw [l1.length, hz]
  refine ⟨rfl, by rw [hw, hk], fun a dx hxa hxd ne => ?_⟩
  rw [hs _ ws hw]
  exact sp_make k1 x (perm_rep l1 idx) t1 hxa hxd ne fun v H' S' d k' s' r' z => q v H' S' d k' (s1.trans s') r' z
end
end DL
namespace DL
open PySem PySem.Spec L2
variable [TbC]
section
variable {X : Cx} {E : XK} {e : Expr} {T U : DTT}
def xAltT (T U : DTT) : DTT := fun env R Rx => T env R Rx ∨ U env R Rx
theorem w_xAltT {T U : DTT} {env : En} {R : Bool → Prop} {Rx : Er → Prop} : xAltT T U env R Rx = (T env R Rx ∨ U env R Rx) := rfl
theorem w_xTruOw {C : Addr} {F : Spec} {Ta : DT} {env : En} {R : Bool → Prop} {Rx : Er → Prop} : xTruOw C F Ta env R Rx = Ta env (fun x => asO C (fun _ _ => True) x ∧ F [x] (asB R) noX) Rx := rfl
end
end DL
namespace DL
open PySem PySem.Spec L2
variable [TbC]
theorem w_valE_nil : valE [] = [] := rfl
theorem w_valE_val {d : D} {l : En} : valE (some (.val d) :: l) = some (.val d) :: valE l := rfl
theorem w_valE_own {xs : List D} {l : En} : valE (some (.own xs) :: l) = none :: valE l := rfl
theorem w_valE_tre {t : T} {as : List Addr} {l : En} : valE (some (.tre t as) :: l) = none :: valE l := rfl
theorem w_valE_none {l : En} : valE (none :: l) = none :: valE l := rfl
/-- addresses known to nobody else -/
def New (c : Fm) (σ : St) (S : Hp) (env : En) (as : List Addr) : Prop := ∀ a ∈ as, S a = none ∧ c.H0 a = none ∧ Free σ env a
section
variable {c : Fm} {σ : St} {H H' S S' : Hp} {env : En} {as bs : List Addr} {t : T} {ts : List T} {v : V} {vs : List V} {i : Nat}
theorem New.nil : New c σ S env [] := fun a m => nomatch m
theorem Kn.frzT (k : Kn c σ H S env) (q : New c σ S env as) : Kn c σ H (frzS as H S) env ∧ Same S (frzS as H S) := by
  have s := frzS_same (H := H) fun a m => (q a m).1
  refine ⟨⟨k.kf.frzT fun a m => ⟨(q a m).1, (q a m).2.1⟩, k.len, fun j x e => ?_, k.apart⟩, s⟩
  obtain ⟨u, eu, r⟩ := k.sl j x e
  refine ⟨u, eu, r.keep rfl s fun a fa => ?_⟩
  obtain ⟨f1, f2, _⟩ := r.foot a fa
  exact ⟨by rw [frzS_out fun z => (q a z).2.2 j x u e eu fa]; exact f1, f2, fun _ e => e⟩
/-- what stood at H stands behind what the frame at H has done -/
theorem New.keep (k : Kn c σ H S env) (k' : Kf (c.at H S) H' S') (q : New c σ S env as) (mu : ∀ a ∈ as, Mu (H a)) : New c σ S' env as ∧ ∀ a ∈ as, ∀ o, H a = some o → H' a = some o :=
  ⟨fun a m => ⟨k'.new a (q a m).1 (mu a m), (q a m).2.1, (q a m).2.2⟩, fun a m o e => k'.old a o e (k.kf.x_ne0 (q a m).2.1)⟩
theorem New.app (q1 : New c σ S env as) (q2 : New c σ S env bs) : New c σ S env (as ++ bs) := fun a m => by
  rcases List.mem_append.mp m with m | m
  · exact q1 a m
  · exact q2 a m
end
def SmU (E : XK) (t : TE) (T : DT) : Prop := ∀ (c : Fm) (σ : St) (H S : Hp) (env : En) (R : D → Prop) (Rx : Er → Prop), XOk c E Rx → Kn c σ H S env → T env R Rx →
  ∀ Q : VK, (∀ v H' S' as d, Kn c σ H' S' env → Same S S' → RepT c.B S' H' d.tr v as → as.Nodup → New c σ S' env as → R d → Q v H') → t σ H Q
def DU (X : Cx) (E : XK) (e : Expr) (T : DT) : Prop := ∃ t, PE X e t ∧ SmU E t T
/-- flat data are trees without lists -/
theorem flat_tr {B : Option Addr} {S S' H : Hp} {d : D} {v : V} (h : d.flat = true) (r : Rep B S d v) : RepT B S' H d.tr v [] := by
  have : d.tr = .dat d := by cases d <;> first | rfl | exact (Bool.false_ne_true h).elim
  rw [this, RepT]
  exact ⟨flat_rep h r, rfl⟩
theorem RepTL.app {B : Option Addr} {S H : Hp} {us : List T} {ws : List V} {bs : List Addr} : ∀ {ts : List T} {vs : List V} {as : List Addr}, RepTL B S H ts vs as → RepTL B S H us ws bs → RepTL B S H (ts ++ us) (vs ++ ws) (as ++ bs)
  | [], vs, as, r, q => by
    rw [RepTL] at r
    rw [r.1, r.2]
    exact q
  | t :: ts, vs, as, r, q => by
    rw [RepTL] at r
    obtain ⟨v, us2, b1, b2, rfl, r1, r2, rfl⟩ := r
    rw [List.cons_append, RepTL]
    exact ⟨v, us2 ++ ws, b1, b2 ++ bs, rfl, r1, RepTL.app r2 q, by rw [List.append_assoc]⟩
theorem RepTL.len {B : Option Addr} {S H : Hp} : ∀ {ts : List T} {vs : List V} {as : List Addr}, RepTL B S H ts vs as → vs.length = ts.length
  | [], vs, as, r => by
    rw [RepTL] at r
    rw [r.1]
    rfl
  | t :: ts, vs, as, r => by
    rw [RepTL] at r
    obtain ⟨v, us2, b1, b2, rfl, r1, r2, rfl⟩ := r
    rw [List.length_cons, List.length_cons, RepTL.len r2]
section
variable {X : Cx} {E : XK} {e a b : Expr} {es : List Expr} {T Ta Tb : DT} {TF : DTF} {Tl : DTA} {p pos : Pos}
theorem sm_ofU {t : TE} (s : SmU E t T) : Sm E t T := fun c σ H S env R Rx x k h Q q => s c σ H S env R Rx x k h Q fun v H1 S1 as d k1 s1 r n g t1 => by
  obtain ⟨k2, s2⟩ := k1.frzT g
  have := repT_frz r fun a m => (g a m).1
  rw [tr_d] at this
  exact q v H1 _ d k2 (s1.trans s2) this t1
theorem d_ofU (h : DU X E e T) : DE X E e T := by
  obtain ⟨t, p, s⟩ := h
  exact ⟨t, p, sm_ofU s⟩
theorem u_flat (h : DE X E e T) : DU X E e (xFl T) := by
  obtain ⟨t, p, s⟩ := h
  exact ⟨t, p, fun c σ H S env R Rx x k h Q q => s c σ H S env _ Rx x k h Q fun v H1 S1 d k1 s1 r t1 => q v H1 S1 [] d k1 s1 (flat_tr t1.1 r) List.nodup_nil New.nil t1.2⟩
def xConsU (Ta : DT) (Tl : DTA) : DTA := fun env R Rx => Ta env (fun x => Tl (valE env) (fun xs => R (x :: xs)) Rx) Rx
theorem w_consU {env : En} {R : List D → Prop} {Rx : Er → Prop} : xConsU Ta Tl env R Rx = Ta env (fun x => Tl (valE env) (fun xs => R (x :: xs)) Rx) Rx := rfl
end
def spU (F : Spec) : Sp := fun vs H Q E => ∃ (c : Fm) (S : Hp) (ds : List D) (R : D → Prop) (Rx : Er → Prop), c.H0 = H ∧ c.S0 = S ∧ Kf c H S ∧ RepL c.B S ds vs ∧ F ds R Rx ∧
  (∀ v H' S' d as, Kf c H' S' → RepT c.B S' H' d.tr v as → as.Nodup → (∀ a ∈ as, S' a = none ∧ H a = none) → R d → Q v H') ∧ XOk c E Rx
section
variable {P : Program} {w : World} {K : PySem.W.Frag} {mg : Str → Option Value} {base : Heap} {x qual : Str} {st : Stmt} {dvs : List V} {kws : List (Str × V)} {f : Addr} {fd : FuncData} {N ps : List Str} {k : Nat} {F : Spec} {CX : CXT}
theorem fn_u {T : DTS} (Fd : FnS K x qual st dvs kws f fd) (S : FnScope N ps (defScope st)) (len : ∀ ds R Rx, F ds R Rx → ds.length = ps.length)
    (hbody : ∀ (cdv : Value) (A : Around) (outer : List Env) (s : Shared) (H : Hp) (E : XK), Room k (A.deeper (PyProof.Rows.envOfC qual (defScope st) s.heap.objs.size f cdv)) →
      DSs (cxOf (L2.CX P w) P w K mg base N qual (defScope st) f cdv A outer s H E) E (defBody st) T)
    (hT : ∀ ds R Rx, F ds R Rx → T { nx := fun _ => R .non, rt := fun n d => (n = .tr ∨ d.flat = true) ∧ R d, ex := Rx } (startE N ds)) : FnOk P w K mg base (L2.CX P w) (k + 1) f fd ps (spU F) := by
  refine FunD.ok Fd S (fun vs H Q E ⟨c, S, ds, R, Rx, _, _, _, l, h, _⟩ => by rw [l.length]; exact len _ _ _ h) fun cdv A outer s H vs Q E hr hsp => ?_
  obtain ⟨c, Sh, ds, R, Rx, h0, hs0, kf, l, h, q, xo⟩ := hsp
  obtain ⟨t, p, sm⟩ := hbody cdv A outer s H E hr
  refine ⟨t, p, sm c _ H Sh _ _ xo (kn_start kf l) (hT ds R Rx h) _ ⟨fun σ H1 S1 env k1 s1 r1 => ?_, fun n v H1 S1 d k1 s1 r1 t1 => ?_, fun σ H1 S1 env k1 s1 r1 => r1, fun σ H1 S1 env k1 s1 r1 => r1⟩⟩
  · exact q .non H1 S1 .non [] k1.kf (flat_tr (S := S1) rfl rfl) List.nodup_nil (fun a m => nomatch m) r1
  · have fl : d.flat = true → Q v H1 := fun z => by
      obtain ⟨S2, _, _, r2⟩ := r1.old k1
      exact q v H1 S1 d [] k1 (flat_tr z r2) List.nodup_nil (fun a m => nomatch m) t1.2
    rcases t1.1 with z | z
    · subst z
      obtain ⟨as, r, n, g⟩ := r1
      exact q v H1 S1 d as k1 r n (fun a m => ⟨(g a m).1, by rw [← h0]; exact (g a m).2⟩) t1.2
    · exact fl z
end
section
variable {X : Cx} {E : XK} {CX : CXT} {k n : Nat} {f : Addr} {fd : FuncData} {ps ks : List Str} {F : Spec} {dvs : List V} {dds : List D} {ds : List Value} {x : Str} {p pos : Pos} {e : Expr} {es : List Expr} {Tl Tk : DTA} {kws : List Keyword}
theorem sp_callU {c : Fm} {σ : St} {H S : Hp} {env : En} {vs : List V} {xs : List D} {R : D → Prop} {Rx : Er → Prop} {Q : VK} (kn : Kn c σ H S env) (x : XOk c E Rx) (l : RepL c.B S xs vs) (t : F xs R Rx)
    (q : ∀ v H' S' as d, Kn c σ H' S' env → Same S S' → RepT c.B S' H' d.tr v as → as.Nodup → New c σ S' env as → R d → Q v H') : spU F vs H Q E :=
  ⟨c.at H S, S, xs, R, Rx, rfl, rfl, kn.kf.at, l, t, fun v H' S' d as k' r n g z => q v H' S' as d (kn.back k') k'.s0 r n (fun a m => ⟨(g a m).1, kn.kf.h0_none (g a m).2, kn.free (g a m).2⟩) z, x.at kn.kf⟩
theorem d_callU (G : FnOk X.prog X.w X.K X.mg X.base CX k f fd ps (spU F)) (hr : Room k X.A) (hm : X.mg x = some (.ref f)) (hk : PySem.W.keepIn X.K (.ref f) = true) (hb : Binds X.K fd ps ds) (hd : Vals dvs ds) (hdd : DfR dds dvs) (hx : Passes CX X E) (ha : DA X E (e :: es) Tl)
    (hg : Gl X x := by rfl) (hdb : (x == ("__debug__" : Str)) = false := by decide) (he : starEach (e :: es) X.env = (false, eval e X.env) :: starEach es X.env := by rfl) (hpl : (backTo pos (starEach es X.env)).any (·.1) = false := by rfl) :
    DU X E (.Call (.Name x p) (e :: es) [] pos) (xCall F dds Tl) := by
  obtain ⟨t, pa, s⟩ := ha
  refine ⟨_, pe_call G hr hg hm hk hb hd hx pa hdb he hpl, fun c σ H S env R Rx x k t Q q => s c σ H S env _ Rx x k t _ fun vs H1 S1 xs k1 s1 l1 t1 => ?_⟩
  exact sp_callU k1 x (l1.app (hdd _ _)) t1 fun v H' S' as d k' s' r' n' g' t' => q v H' S' as d k' (s1.trans s') r' n' g' t'
end
def putT (i : Nat) (t : T) (as : List Addr) (env : En) : En := env.set i (some (.tre t as))
theorem w_putT_0 {t : T} {as : List Addr} {o : Option DV} {l : En} : putT 0 t as (o :: l) = some (.tre t as) :: l := rfl
theorem w_putT_s {n : Nat} {t : T} {as : List Addr} {o : Option DV} {l : En} : putT (n + 1) t as (o :: l) = o :: putT n t as l := rfl
def zSetU (i : Nat) (T : DT) : DTS := fun Q env => T env (fun d => ∀ as, Q.nx (putT i d.tr as env)) Q.ex
theorem w_setU {i : Nat} {T : DT} {Q : DEnds} {env : En} : zSetU i T Q env = T env (fun d => ∀ as, Q.nx (putT i d.tr as env)) Q.ex := rfl
end DL
namespace DL
open PySem PySem.Spec L2
variable [TbC]
def T.at' : List Nat → T → Option T
  | [], t => some t
  | j :: r, t => match t with
    | .lst ts => (ts[j]?).bind (T.at' r)
    | .tup ts => (ts[j]?).bind (T.at' r)
    | _ => none
def T.setAt : List Nat → T → T → T
  | [], _, u => u
  | j :: r, t, u => match t with
    | .lst ts => match ts[j]? with
      | some t => .lst (ts.set j (T.setAt r t u))
      | none => .lst ts
    | .tup ts => match ts[j]? with
      | some t => .tup (ts.set j (T.setAt r t u))
      | none => .tup ts
    | t => t
theorem w_at_nil {t : T} : T.at' [] t = some t := rfl
theorem w_at_lst {j : Nat} {r : List Nat} {ts : List T} : T.at' (j :: r) (.lst ts) = (ts[j]?).bind (T.at' r) := rfl
theorem w_at_tup {j : Nat} {r : List Nat} {ts : List T} : T.at' (j :: r) (.tup ts) = (ts[j]?).bind (T.at' r) := rfl
theorem w_setAt_nil {t u : T} : T.setAt [] t u = u := rfl
theorem w_setAt_l0 {r : List Nat} {ts : List T} {t u : T} : T.setAt (0 :: r) (.lst (t :: ts)) u = .lst (T.setAt r t u :: ts) := rfl
/-- what stands at a place -/
def VAt (H : Hp) : List Nat → V → V → Prop
  | [], v, u => u = v
  | j :: r, v, u => ∃ a vs w, v = .ref a ∧ (H a = some (.lst vs) ∨ H a = some (.tup vs)) ∧ vs[j]? = some w ∧ VAt H r w u
theorem RepTL.at {B : Option Addr} {S H : Hp} : ∀ {ts : List T} {vs : List V} {bs : List Addr} {j : Nat} {tj : T}, RepTL B S H ts vs bs → ts[j]? = some tj →
    ∃ w A bj C, vs[j]? = some w ∧ RepT B S H tj w bj ∧ bs = A ++ (bj ++ C) ∧ ∀ (t' : T) (b' : List Addr) (H' : Hp), (∀ a, a ∈ A ∨ a ∈ C → ∀ o, H a = some o → H' a = some o) → RepT B S H' t' w b' → RepTL B S H' (ts.set j t') vs (A ++ (b' ++ C))
  | [], _, _, j, tj, _, e => by simp at e
  | t :: ts, vs, bs, 0, tj, r, e => by
    rw [RepTL] at r
    obtain ⟨v, ws, b1, b2, rfl, r1, r2, rfl⟩ := r
    simp at e
    subst e
    refine ⟨v, [], b1, b2, rfl, r1, rfl, fun t' b' H' q r' => ?_⟩
    rw [List.set_cons_zero, List.nil_append, RepTL]
    exact ⟨v, ws, b', b2, rfl, r', repTL_mono (Same.refl S) _ _ _ (fun a m => q a (.inr m)) r2, rfl⟩
  | t :: ts, vs, bs, j + 1, tj, r, e => by
    rw [RepTL] at r
    obtain ⟨v, ws, b1, b2, rfl, r1, r2, rfl⟩ := r
    obtain ⟨w, A, bj, C, e1, e2, rfl, e4⟩ := RepTL.at (j := j) r2 (by simpa using e)
    refine ⟨w, b1 ++ A, bj, C, by simpa using e1, e2, by rw [List.append_assoc], fun t' b' H' q r' => ?_⟩
    rw [List.set_cons_succ, List.append_assoc, RepTL]
    exact ⟨v, ws, b1, A ++ (b' ++ C), rfl, repT_mono (Same.refl S) _ _ _ (fun a m => q a (.inl (List.mem_append_left _ m))) r1, e4 t' b' H' (fun a m => q a (m.imp (List.mem_append_right _) id)) r', rfl⟩
/-- .. stays, where the frame at H has gone on -/
theorem VAt.keep {B : Option Addr} {S H H' S' : Hp} (sub : Same S H) (s : Same S S') (sub' : Same S' H') : ∀ (path : List Nat) {t : T} {v : V} {as : List Addr} {u : V}, RepT B S H t v as → T.at' path t ≠ none → (∀ a ∈ as, ∀ o, H a = some o → H' a = some o) → VAt H path v u → VAt H' path v u
  | [], t, v, as, u, r, _, _, q => q
  | j :: rr, t, v, as, u, r, ne, k, q => by
    obtain ⟨a, vs, w, rfl, ea, ew, q⟩ := q
    cases t with
    | dat d => exact (ne rfl).elim
    | obj C ks us => exact (ne rfl).elim
    | lst us =>
      rw [RepT] at r
      obtain ⟨a2, vs2, bs, e0, e1, l, rfl⟩ := r
      cases e0
      rcases ea with ea | ea <;> rw [e1] at ea <;> cases ea
      rw [w_at_lst] at ne
      cases ej : us[j]? with
      | none => rw [ej] at ne; exact (ne rfl).elim
      | some tj =>
        rw [ej] at ne
        obtain ⟨w', A, bj, C, ew', rj, rfl, _⟩ := l.at ej
        rw [ew] at ew'
        cases ew'
        exact ⟨a, vs, w, rfl, .inl (k a List.mem_cons_self _ e1), ew, VAt.keep sub s sub' rr rj ne (fun b m => k b (List.mem_cons_of_mem _ (List.mem_append_right _ (List.mem_append_left _ m)))) q⟩
    | tup us =>
      rw [RepT] at r
      obtain ⟨a2, vs2, e0, e1, l⟩ := r
      cases e0
      have e1h := sub _ _ e1
      rcases ea with ea | ea <;> rw [e1h] at ea <;> cases ea
      rw [w_at_tup] at ne
      cases ej : us[j]? with
      | none => rw [ej] at ne; exact (ne rfl).elim
      | some tj =>
        rw [ej] at ne
        obtain ⟨w', A, bj, C, ew', rj, rfl, _⟩ := l.at ej
        rw [ew] at ew'
        cases ew'
        exact ⟨a, vs, w, rfl, .inr (sub' _ _ (s _ _ e1)), ew, VAt.keep sub s sub' rr rj ne (fun b m => k b (List.mem_append_right _ (List.mem_append_left _ m))) q⟩
end DL
namespace DL
open PySem PySem.Spec L2
variable [TbC]
theorem w_tre_inj {t u : T} {as bs : List Addr} : (DV.tre t as = DV.tre u bs) = (t = u ∧ as = bs) := by rw [DV.tre.injEq]
def isTre (i : Nat) (env : En) (P : T → List Addr → Prop) : Prop := ∃ t as, env[i]? = some (some (.tre t as)) ∧ P t as
theorem isTre_at {i : Nat} {env : En} {t : T} {as : List Addr} {P : T → List Addr → Prop} (h : env[i]? = some (some (.tre t as))) : isTre i env P = P t as := by
  refine propext ⟨fun ⟨t', as', e, q⟩ => ?_, fun q => ⟨t, as, h, q⟩⟩
  rw [h] at e
  cases e
  exact q
theorem w_isTre_0 {t : T} {as : List Addr} {l : En} {P : T → List Addr → Prop} : isTre 0 (some (.tre t as) :: l) P = P t as := isTre_at rfl
theorem w_isTre_s {n : Nat} {o : Option DV} {l : En} {P : T → List Addr → Prop} : isTre (n + 1) (o :: l) P = isTre n l P := rfl
theorem VAt.inj {H : Hp} : ∀ {path : List Nat} {v u w : V}, VAt H path v u → VAt H path v w → u = w
  | [], _, _, _, q, q2 => by cases q; cases q2; rfl
  | j :: r, v, u, w, q, q2 => by
    obtain ⟨a, vs, x, rfl, ea, ex, q⟩ := q
    obtain ⟨a2, vs2, x2, e, ea2, ex2, q2⟩ := q2
    cases e
    have ev : vs2 = vs := by rcases ea with ea | ea <;> rcases ea2 with ea2 | ea2 <;> rw [ea] at ea2 <;> cases ea2 <;> rfl
    subst ev
    rw [ex] at ex2
    cases ex2
    exact VAt.inj q q2
abbrev DTP := En → (List Nat → Prop) → (Er → Prop) → Prop
def xPlN (i : Nat) : DTP := fun env R _ => isTre i env fun _ _ => R []
theorem w_plN {i : Nat} {env : En} {R : List Nat → Prop} {Rx : Er → Prop} : xPlN i env R Rx = isTre i env fun _ _ => R [] := rfl
/-- one step further -/
def ixAt (path : List Nat) (tt : T) (k : Int) (R : List Nat → Prop) : Prop := ∃ ts j, (T.at' path tt = some (.lst ts) ∨ T.at' path tt = some (.tup ts)) ∧ ixN ts.length k = some j ∧ R (path ++ [j])
theorem ixAt_lst {path : List Nat} {tt : T} {k : Int} {ts : List T} {R : List Nat → Prop} (h : T.at' path tt = some (.lst ts)) : ixAt path tt k R = ∃ j, ixN ts.length k = some j ∧ R (path ++ [j]) := by
  refine propext ⟨fun ⟨us, j, e, ej, q⟩ => ?_, fun ⟨j, ej, q⟩ => ⟨ts, j, .inl h, ej, q⟩⟩
  rcases e with e | e <;> rw [h] at e <;> cases e
  exact ⟨j, ej, q⟩
theorem w_ixAt_0 {k : Int} {ts : List T} {R : List Nat → Prop} : ixAt [] (.lst ts) k R = ∃ j, ixN ts.length k = some j ∧ R ([] ++ [j]) := ixAt_lst rfl
def xPlI (i : Nat) (Tp : DTP) (Tb : DT) : DTP := fun env R Rx => Tp env (fun path => Tb (thaw env) (asI fun k => isTre i env fun tt _ => ixAt path tt k R) Rx) Rx
theorem w_plI {i : Nat} {Tp : DTP} {Tb : DT} {env : En} {R : List Nat → Prop} {Rx : Er → Prop} : xPlI i Tp Tb env R Rx = Tp env (fun path => Tb (thaw env) (asI fun k => isTre i env fun tt _ => ixAt path tt k R) Rx) Rx := rfl
section
variable {X : Cx} {E : XK} {pos p1 : Pos} {a b e : Expr} {Ta Tb Tv Ti : DT} {Tp : DTP} {i : Nat}
def zAppL (i : Nat) (Tp : DTP) (Ta : DT) : DTS := fun Q env => Tp env (fun path => isTre i env fun tt _ => ∃ us, T.at' path tt = some (.lst us) ∧ Ta (valE env) (fun d => us.length < sizeLine ∧ ∀ as', Q.nx (putT i (T.setAt path tt (.lst (us ++ [d.tr]))) as' env)) Q.ex) Q.ex
theorem w_appL {Q : DEnds} {env : En} : zAppL i Tp Ta Q env = Tp env (fun path => isTre i env fun tt _ => ∃ us, T.at' path tt = some (.lst us) ∧ Ta (valE env) (fun d => us.length < sizeLine ∧ ∀ as', Q.nx (putT i (T.setAt path tt (.lst (us ++ [d.tr]))) as' env)) Q.ex) Q.ex := rfl
def zClrL (i : Nat) (Tp : DTP) : DTS := fun Q env => Tp env (fun path => isTre i env fun tt _ => ∃ us, T.at' path tt = some (.lst us) ∧ ∀ as', Q.nx (putT i (T.setAt path tt (.lst [])) as' env)) Q.ex
theorem w_clrL {Q : DEnds} {env : En} : zClrL i Tp Q env = Tp env (fun path => isTre i env fun tt _ => ∃ us, T.at' path tt = some (.lst us) ∧ ∀ as', Q.nx (putT i (T.setAt path tt (.lst [])) as' env)) Q.ex := rfl
def zStL (i : Nat) (Tv : DT) (Tp : DTP) (Ti : DT) : DTS := fun Q env => Tv env (fun d => Tp env (fun path => Ti (thaw env) (asI fun k => isTre i env fun tt _ => ∃ us j, T.at' path tt = some (.lst us) ∧ ixN us.length k = some j ∧ ∀ as', Q.nx (putT i (T.setAt path tt (.lst (us.set j d.tr))) as' env)) Q.ex) Q.ex) Q.ex
theorem w_stL {Q : DEnds} {env : En} : zStL i Tv Tp Ti Q env = Tv env (fun d => Tp env (fun path => Ti (thaw env) (asI fun k => isTre i env fun tt _ => ∃ us j, T.at' path tt = some (.lst us) ∧ ixN us.length k = some j ∧ ∀ as', Q.nx (putT i (T.setAt path tt (.lst (us.set j d.tr))) as' env)) Q.ex) Q.ex) Q.ex := rfl
end
end DL
namespace DL
open PySem PySem.Spec L2
variable [TbC]
section
variable {X : Cx} {E : XK} {CX : CXT} {k : Nat} {C f : Addr} {fd : FuncData} {ps : List Str} {F : Spec} {m : Str} {o e : Expr} {es : List Expr} {To : DT} {Tl : DTA} {pos apos p : Pos}
theorem u_meth0 {pl : Sem Bool} (he : DE X E o To) (c : Cls X.K C) (hm : Meth X.K C m f) (G : FnOk X.prog X.w X.K X.mg X.base CX k f fd ps (spU F)) (hr : Room k X.A) (hb : Binds X.K fd ps []) (hx : Passes CX X E)
    (ht : eval (.Call (.Attribute o m apos) [] [] pos) X.env = (do
      let ov ← eval o X.env
      standAt apos.atName
      let (f, first) ← holding [ov] (getMethod ov m pl)
      callWith pos f first (backTo pos (starEach [] X.env)) (backToKw pos (keywordEach [] X.env))) := by rfl) :
    DU X E (.Call (.Attribute o m apos) [] [] pos) (xMeth C m F To xNil) := by
  obtain ⟨t, p1, s⟩ := he
  refine ⟨_, pe_meth0 p1 c hm G hr hb .nil hx ht, fun c0 σ H S env R Rx x k t Q q => s c0 σ H S env _ Rx x k t _ fun v H1 S1 d k1 s1 r1 t1 => ?_⟩
  obtain ⟨t0, t1⟩ := t1
  cases d <;> try exact (show False from t0).elim
  obtain ⟨rfl, e1⟩ := t0
  obtain ⟨a, dx, vs, e2, h1, hn, l1⟩ := obj_of k1 r1
  refine ⟨a, dx, _, e2, h1, fld_none l1 hn e1, ?_⟩
  exact sp_callU k1 x (repL_cons r1 repL_nil) t1 fun v H' S' as d k' s' r' n' g' t' => q v H' S' as d k' (s1.trans s') r' n' g' t'
end
def canU (E : XK) (T : DT) : TE := fun σ H Q => ∃ (c : Fm) (S : Hp) (env : En) (R : D → Prop) (Rx : Er → Prop), XOk c E Rx ∧ Kn c σ H S env ∧ T env R Rx ∧ ∀ v H' S' as d, Kn c σ H' S' env → Same S S' → RepT c.B S' H' d.tr v as → as.Nodup → New c σ S' env as → R d → Q v H'
theorem smU_can {E : XK} {T : DT} : SmU E (canU E T) T := fun c σ H S env R Rx x k t Q q => ⟨c, S, env, R, Rx, x, k, t, q⟩
theorem pe_canU {X : Cx} {E : XK} {e : Expr} {T : DT} (h : DU X E e T) : PE X e (canU E T) := by
  obtain ⟨t, p, s⟩ := h
  exact ⟨fun pins st σ H Q I ⟨c, S, env, R, Rx, x, k, t, q⟩ => p.run pins st σ H Q I (s c σ H S env R Rx x k t Q q)⟩
section
variable {X : Cx} {E : XK} {elt tg iter : Expr} {ifs : List Expr} {scope : Scope} {own : List (Str × Nat)} {pos : Pos} {Ti : DTI} {G : DG} {Tt : DTT} {Te : DT} {js : List Nat}
theorem smU_lc {wi : TI} (hsub : ∀ j ∈ js, j ∈ own.map (·.2)) (hi : SmI E wi Ti) : SmU E (tLc wi (canG G js) (canT E0 Tt) (canU E0 Te) (own.map (·.2))) (xF (xLcF Ti G Tt Te (own.map (·.2)))) := fun c σ H S env R Rx x k t Q q =>
  hi c σ H S env _ Rx x k t _ fun J H1 S1 xs k1 s1 it t1 => by
    obtain ⟨I, h0, hstep, hend⟩ := t1
    intro L hL
    have n0 := k1.kf.h0_none hL
    have fL := k1.free hL
    refine ⟨fun i m H => m = xs.length - i ∧ i ≤ xs.length ∧ ∃ S vs acc bs, Kn c σ H S env ∧ Same S1 S ∧ S L = none ∧ H L = some (.lst vs) ∧ RepTL c.B S H (D.trs acc) vs bs ∧ bs.Nodup ∧ New c σ S env bs ∧ L ∉ bs ∧ I i acc,
      ⟨_, rfl, Nat.zero_le _, S1, [], [], [], k1.new0 hL, Same.refl S1, k1.kf.s_none hL, upd_same, (by rw [D.trs, RepTL]; exact ⟨rfl, rfl⟩), List.nodup_nil, New.nil, (fun z => nomatch z), h0⟩, ?_⟩
    rintro i m H ⟨rfl, hil, S, vs, acc, bs, k, s, nL, eL, l, nb, gb, Lb, hI⟩
    have ki := k.inner (own.map (·.2))
    obtain ⟨go, stop⟩ := it (c.at H S) rfl i _ H S _ ki s
    by_cases hlt : i < xs.length
    · have e : xs[i]? = some xs[i] := by simp [hlt]
      obtain ⟨g1, g2⟩ := go _ e
      refine .inr ⟨g1, fun H => i + 1 ≤ xs.length ∧ ∃ S vs acc bs, Kn c σ H S env ∧ Same S1 S ∧ S L = none ∧ H L = some (.lst vs) ∧ RepTL c.B S H (D.trs acc) vs bs ∧ bs.Nodup ∧ New c σ S env bs ∧ L ∉ bs ∧ I (i + 1) acc, fun H' h => ⟨_, by omega, rfl, h⟩, fun v H' y => ?_⟩
      obtain ⟨S', k', s', r'⟩ := g2 v H' y
      refine smG_can (c.at H S) _ H' S' _ _ v _ k' r' (hstep i _ acc e hI) _ fun σ2 H2 S2 env2 k2 s2 w2 t2 => ?_
      refine ⟨?_, ?_⟩
      · have := w2 (own.map (·.2)) hsub
        rw [this]
        exact wipe_wipe _ _
      · refine smT_can (c.at H S) σ2 H2 S2 env2 _ noX xok0 k2 t2 _ fun b H3 S3 k3 s3 t3 => ?_
        have fin : ∀ {H4 S4 : Hp}, Kf (c.at H S) H4 S4 → Kn c σ H4 S4 env ∧ H4 L = some (.lst vs) ∧ S4 L = none ∧ RepTL c.B S4 H4 (D.trs acc) vs bs ∧ New c σ S4 env bs ∧ Same S1 S4 := fun {H4 S4} kf => by
          obtain ⟨gb2, old⟩ := gb.keep k kf l.mu
          exact ⟨k.back kf, kf.old L _ eL (k.kf.x_ne0 n0), kf.new L nL (mu_lst eL), repTL_mono kf.s0 _ _ _ old l, gb2, s.trans kf.s0⟩
        cases b with
        | true =>
          refine iteT ?_
          refine smU_can (c.at H S) σ2 H3 S3 env2 _ noX xok0 k3 (t3.1 rfl) _ fun u H4 S4 as4 d4 k4 s4 r4 n4 g4 t4 => ?_
          obtain ⟨kn, eL4, nL4, l4, gb4, ss⟩ := fin k4.kf
          have hb : ∀ a ∈ bs, a ∉ as4 := fun a m z => (l.mu a m).1 (g4 a z).2.1
          have hL4 : L ∉ as4 := fun z => by
            have : H L = none := (g4 L z).2.1
            rw [eL] at this
            cases this
          have hLb : L ∉ bs ++ as4 := fun z => (List.mem_append.mp z).elim Lb hL4
          have l5 : RepTL c.B S4 H4 (D.trs (acc ++ [d4])) (vs ++ [u]) (bs ++ as4) := by
            rw [trs_app]
            refine l4.app ?_
            rw [D.trs, RepTL]
            refine ⟨u, [], as4, [], rfl, r4, ?_, by rw [List.append_nil]⟩
            rw [D.trs, RepTL]
            exact ⟨rfl, rfl⟩
          refine ⟨vs, eL4, by rw [l4.len, trs_length]; exact t4.1, hlt, S4, _, _, bs ++ as4, kn.updF nL4 n0 eL4 lst_ne fL, ss, nL4, upd_same,
            repTL_mono (Same.refl _) _ _ _ (fun a m o eo => by rw [upd_ne (fun z => hLb (by rw [← z]; exact m))]; exact eo) l5,
            List.nodup_append.mpr ⟨nb, n4, fun a m b m2 z => by subst z; exact hb a m m2⟩, gb4.app fun a m => ⟨(g4 a m).1, k.kf.h0_none (g4 a m).2.1, k.free (g4 a m).2.1⟩, hLb, t4.2⟩
        | false =>
          refine iteF ?_
          obtain ⟨kn, eL4, nL4, l4, gb4, ss⟩ := fin k3.kf
          exact ⟨hlt, S3, vs, acc, bs, kn, ss, nL4, eL4, l4, nb, gb4, Lb, t3.2 rfl⟩
    · have e : i = xs.length := by omega
      subst e
      refine .inl ⟨stop (Nat.le_refl _), q (.ref L) H S (L :: bs) (.lst acc) k (s1.trans s) ?_ (List.nodup_cons.mpr ⟨Lb, nb⟩) (fun a m => ?_) (hend acc hI)⟩
      · rw [D.tr, RepT]
        exact ⟨L, vs, bs, rfl, eL, l, rfl⟩
      · rcases List.mem_cons.mp m with rfl | m
        · exact ⟨nL, n0, fL⟩
        · exact gb a m
theorem u_lc (hc : X.calm = true) (hN : X.N.Nodup) (hi : DI X E tg iter Ti) (ok : BlkOk X.N X.env.scope scope own) (hsub : ∀ j ∈ js, j ∈ own.map (·.2))
    (hg : ∀ (s : Shared) (H : Hp) (C : Addr) (cl : List (Str × Addr)) (fp : List Addr), DGt (X.blk s H scope (compEnvC scope cl C X.env) fp) tg G js)
    (ht : ∀ (s : Shared) (H : Hp) (C : Addr) (cl : List (Str × Addr)) (fp : List Addr), DTs (X.blk s H scope (compEnvC scope cl C X.env) fp) E0 ifs Tt)
    (he : ∀ (s : Shared) (H : Hp) (C : Addr) (cl : List (Str × Addr)) (fp : List Addr), DU (X.blk s H scope (compEnvC scope cl C X.env) fp) E0 elt Te)
    (hs : ∀ x, foldedSetIterable iter X.env x = pure x := by intro _; rfl) : DU X E (.ListComp elt [⟨tg, iter, ifs, 0⟩] scope pos) (xF (xLcF Ti G Tt Te (own.map (·.2)))) := by
  obtain ⟨wi, p, s⟩ := hi
  exact ⟨_, pe_lc hc hN p ok (fun s H C cl fp => pg_can (hg s H C cl fp)) (fun s H C cl fp => pts_can (ht s H C cl fp)) (fun s H C cl fp => pe_canU (he s H C cl fp)) hs, smU_lc hsub s⟩
end
theorem w_trs_ds {ds : List D} : T.ds (D.trs ds) = ds := trs_ds ds
theorem w_tr_d {d : D} : d.tr.d = d := tr_d d
theorem w_trs_length {ds : List D} : (D.trs ds).length = ds.length := trs_length ds
theorem w_tr_int {i : Int} : (D.int i).tr = .dat (.int i) := rfl
mutual
theorem RepT.nt {B : Option Addr} {S H : Hp} : ∀ {t : T} {v : V} {as : List Addr}, RepT B S H t v as → ∀ a ∈ as, ∀ vs, H a ≠ some (.tup vs)
  | .dat d, v, as, r, a, m => by
    rw [RepT] at r
    rw [r.2] at m
    cases m
  | .lst ts, v, as, r, a, m => by
    rw [RepT] at r
    obtain ⟨a0, vs, bs, e, e2, l, rfl⟩ := r
    rcases List.mem_cons.mp m with rfl | m
    · rw [e2]
      exact fun vs z => nomatch z
    · exact RepTL.nt l a m
  | .tup ts, v, as, r, a, m => by
    rw [RepT] at r
    obtain ⟨a0, vs, e, e2, l⟩ := r
    exact RepTL.nt l a m
  | .obj C ks ts, v, as, r, a, m => by
    rw [RepT] at r
    obtain ⟨a0, dx, vs, bs, e, e2, e3, n, l, rfl⟩ := r
    rcases List.mem_cons.mp m with rfl | m
    · rw [e2]
      exact fun vs z => nomatch z
    rcases List.mem_cons.mp m with rfl | m
    · rw [e3]
      exact fun vs z => nomatch z
    · exact RepTL.nt l a m
theorem RepTL.nt {B : Option Addr} {S H : Hp} : ∀ {ts : List T} {vs : List V} {as : List Addr}, RepTL B S H ts vs as → ∀ a ∈ as, ∀ vs, H a ≠ some (.tup vs)
  | [], _, _, r, a, m => by
    rw [RepTL] at r
    rw [r.2] at m
    cases m
  | t :: ts, vs, as, r, a, m => by
    rw [RepTL] at r
    obtain ⟨v, ws, bs, cs, e, r1, r2, rfl⟩ := r
    rcases List.mem_append.mp m with m | m
    · exact RepT.nt r1 a m
    · exact RepTL.nt r2 a m
end
theorem own_nt {c : Fm} {σ : St} {H S : Hp} {env : En} {a : Addr} (k : Kn c σ H S env) (o : OwnA σ env a) : ∀ vs, H a ≠ some (.tup vs) := by
  obtain ⟨j, x, v, e, e1, f⟩ := o
  obtain ⟨u, e2, r⟩ := k.sl j _ e
  rw [e1] at e2
  cases e2
  cases x with
  | val d => exact f.elim
  | own ds =>
    obtain ⟨p, vs, rfl, h1, h2, h3, _⟩ := r
    cases f
    rw [h3]
    exact fun vs z => nomatch z
  | tre t as => exact r.1.nt a f
section
variable {X : Cx} {E : XK} {e a b : Expr} {T Ta : DT} {TF : DTF} {p pos : Pos}
def xLendU (T : DT) : DT := fun env R Rx => T (thaw env) (fun d => d.dat = true ∧ R d) Rx
theorem w_lendU {env : En} {R : D → Prop} {Rx : Er → Prop} : xLendU T env R Rx = T (thaw env) (fun d => d.dat = true ∧ R d) Rx := rfl
def xLendF (TF : DTF) : DTF := fun env R Rx => TF (thaw env) (fun ds => flatL ds = true ∧ R ds) Rx
theorem w_lendF {env : En} {R : List D → Prop} {Rx : Er → Prop} : xLendF TF env R Rx = TF (thaw env) (fun ds => flatL ds = true ∧ R ds) Rx := rfl
theorem f_lend (h : DF X E e TF) : DF X E e (xLendF TF) := by
  obtain ⟨t, p, s⟩ := h
  refine ⟨t, p, fun c σ H S env R Rx x k t Q q => s _ σ H _ _ _ Rx (x.lend k) k.lend t Q fun p vs H1 S1 ds k1 s1 n0 f n2 e1 l1 t1 => ?_⟩
  obtain ⟨k2, s2⟩ := k.unlend k1.kf
  have nh : H p = none := n0
  refine q p vs H1 _ ds k2 s2 (k.kf.h0_none nh) (k.free nh) ?_ e1 (flatL_rep t1.1 l1) t1.2
  by_cases z : OwnA σ env p
  · exact back_own z
  · rw [back_not z]
    exact n2
end
section
variable {X : Cx} {E : XK} {pos p1 : Pos} {e b a : Expr} {st : Stmt} {sts : List Stmt} {T : DTS} {Tu Ta : DT} {TF : DTF}
def zFrzU (i : Nat) (T : DTS) : DTS := fun Q env => isTre i env fun tt _ => T Q (put i tt.d env)
theorem w_frzU {i : Nat} {Q : DEnds} {env : En} : zFrzU i T Q env = isTre i env fun tt _ => T Q (put i tt.d env) := rfl
def zRetU (i : Nat) : DTS := fun Q env => isTre i env fun tt _ => ∃ d : D, tt = d.tr ∧ Q.rt .tr d
theorem w_retU {i : Nat} {Q : DEnds} {env : En} : zRetU i Q env = isTre i env fun tt _ => ∃ d : D, tt = d.tr ∧ Q.rt .tr d := rfl
def zRetUe (Tu : DT) : DTS := fun Q env => Tu env (Q.rt .tr) Q.ex
theorem w_retUe {Q : DEnds} {env : En} : zRetUe Tu Q env = Tu env (Q.rt .tr) Q.ex := rfl
theorem s_retUe (h : DU X E e Tu) : DS X E (.Return (some e) pos) (zRetUe Tu) := by
  obtain ⟨t, p, s⟩ := h
  exact ⟨_, ps_ret p, fun c σ H S env Q x k t D m => s c σ H S env _ _ x k t _ fun v H1 S1 as d k1 s1 r1 n1 g1 t1 => m.2.1 .tr v H1 S1 d k1.kf s1 ⟨as, r1, n1, fun a m => ⟨(g1 a m).1, (g1 a m).2.1⟩⟩ t1⟩
def zAppF (TF : DTF) (Ta : DT) : DTS := fun Q env => TF env (fun ds => Ta (valE env) (fun d => ds.length < sizeLine ∧ Q.nx env) Q.ex) Q.ex
theorem w_appF {Q : DEnds} {env : En} : zAppF TF Ta Q env = TF env (fun ds => Ta (valE env) (fun d => ds.length < sizeLine ∧ Q.nx env) Q.ex) Q.ex := rfl
theorem s_appF {apos p2 : Pos} (hb : DF X E b TF) (h : DE X E a Ta)
    (hp : ∀ {to te : TE}, PE X b to → PE X a te → PE X (.Call (.Attribute b "append" apos) [a] [] p2) (tBM X.K "list" rAppend to (tCons te tNil)))
    (hs : swapsWith (.Call (.Attribute b "append" apos) [a] [] p2) none pos.line X.env = pure false := by rfl) :
    DS X E (.Expr (.Call (.Attribute b "append" apos) [a] [] p2) pos) (zAppF TF Ta) := by
  obtain ⟨to, po, so⟩ := hb
  obtain ⟨te, pe, se⟩ := h
  refine ⟨_, ps_expr (hp po pe) hs, fun c σ H S env Q x k t D m => so c σ H S env _ _ x k t _ fun p vs H1 S1 ds k1 s1 n0 f n2 e1 l1 t1 => ?_⟩
  refine ⟨.inl ⟨rfl, vs, SqL.of e1⟩, se (c.at H1 S1) σ H1 S1 (valE env) _ _ (x.at k1.kf) k1.vals t1 _ fun w H2 S2 d k2 s2 r2 t2 => ?_⟩
  have k3 := k1.back k2.kf
  have e2 := k2.kf.old p _ e1 (k1.kf.x_ne0 n0)
  have n3 : S2 p = none := k2.kf.new p n2 (mu_lst e1)
  exact ⟨p, vs, w, rfl, rfl, e2, by rw [l1.length]; exact t2.1, m.1 σ _ S2 env (k3.updF n3 n0 e2 lst_ne f) (s1.trans s2) t2.2⟩
def zClrF (TF : DTF) : DTS := fun Q env => TF env (fun _ => Q.nx env) Q.ex
theorem w_clrF {Q : DEnds} {env : En} : zClrF TF Q env = TF env (fun _ => Q.nx env) Q.ex := rfl
/-- xs.clear(), xs of the frame's own -/
def zClrO (i : Nat) : DTS := fun Q env => ∃ xs, env[i]? = some (some (.own xs)) ∧ Q.nx (putO' i [] env)
theorem w_clrO_0 {xs : List D} {l : En} {Q : DEnds} : zClrO 0 Q (some (.own xs) :: l) = Q.nx (some (.own []) :: l) := by
  refine propext ⟨fun ⟨_, _, q⟩ => q, fun q => ⟨xs, rfl, q⟩⟩
theorem w_clrO {i : Nat} {Q : DEnds} {env : En} : zClrO i Q env = ∃ xs, env[i]? = some (some (.own xs)) ∧ Q.nx (putO' i [] env) := rfl
theorem s_clrO (i : Nat) {x : Str} {apos p2 : Pos} (hp : ∀ {to : TE}, PE X (.Name x p1) to → PE X (.Call (.Attribute (.Name x p1) "clear" apos) [] [] p2) (tBM0 X.K "list" rClear to)) (hN : X.N[i]? = some x := by rfl) (hv : Vis X.env.scope x := by first | exact Or.inl rfl | exact Or.inr (Or.inl rfl) | exact Or.inr (Or.inr rfl))
    (hd : (x == ("__debug__" : Str)) = false := by decide) (hcd : (x == ("__classdict__" : Str)) = false := by decide)
    (hs : swapsWith (.Call (.Attribute (.Name x p1) "clear" apos) [] [] p2) none pos.line X.env = pure false := by rfl) :
    DS X E (.Expr (.Call (.Attribute (.Name x p1) "clear" apos) [] [] p2) pos) (zClrO i) := by
  refine ⟨_, ps_expr (hp (pv i hN hv hd hcd)) hs, fun c σ H S env Q x k t D m => ?_⟩
  obtain ⟨xs, e, t⟩ := t
  obtain ⟨q, vs, e1, h0, h1, h2, l⟩ := own_of k e
  exact ⟨_, e1, .inl ⟨rfl, vs, SqL.of h2⟩, q, vs, rfl, rfl, h2, m.1 _ _ S _ (k.change e e1 repL_nil) (Same.refl S) t⟩
end
end DL
namespace DL
open PySem PySem.Spec L2
variable [TbC]
theorem w_setN {p : Addr} {f : Str} {Te : DT} {U : ITS} {R : Bool → List Str → List D → Prop} {Rx : Er → Prop} {nf : Bool} {ks : List Str} {xs : List D} {env : En} : jSetN p f Te U R Rx nf ks xs env = Te env (fun d => env[0]? = some (some (.val (.adr p))) ∧ f ∉ ks ∧ ks.length < 1000 ∧ U R noX nf (ks ++ [f]) (xs ++ [d]) env) Rx := rfl
mutual
/-- without tuples and objects -/
def D.nt : D → Bool
  | .lst xs => ntL xs
  | .non | .bl _ | .int _ | .str _ | .ty _ => true
  | .tup _ | .adr _ | .bag | .fn _ _ _ | .exc _ _ _ _ _ | .dct _ _ | .dcT _ _ | .obj _ _ _ => false
def ntL : List D → Bool
  | [] => true
  | x :: xs => x.nt && ntL xs
end
theorem w_nt_lst {xs : List D} : (D.lst xs).nt = ntL xs := rfl
theorem w_nt_int {i : Int} : (D.int i).nt = true := rfl
theorem w_nt_non : D.non.nt = true := rfl
theorem w_nt_bl {b : Bool} : (D.bl b).nt = true := rfl
theorem w_nt_str {s : Str} : (D.str s).nt = true := rfl
theorem w_ntL_nil : ntL [] = true := rfl
theorem w_ntL_cons {x : D} {xs : List D} : ntL (x :: xs) = (x.nt && ntL xs) := rfl
theorem w_ntL_ints {ns : List Int} : ntL (ns.map D.int) = true := by
  induction ns with
  | nil => rfl
  | cons n ns ih => rw [List.map_cons, w_ntL_cons, ih]; rfl
section
variable {X : Cx} {E : XK} {e : Expr} {T : DT}
def xNT (T : DT) : DT := fun env R Rx => T env (fun d => d.nt = true ∧ R d) Rx
theorem w_xNT {env : En} {R : D → Prop} {Rx : Er → Prop} : xNT T env R Rx = T env (fun d => d.nt = true ∧ R d) Rx := rfl
end
section
variable {X : Cx} {E : XK} {CX : CXT} {k : Nat} {C f : Addr} {fd : FuncData} {ps : List Str} {F : Spec} {x : Str} {e : Expr} {es : List Expr} {Tl : DTA} {pos p : Pos}
theorem sp_makeN {c : Fm} {σ : St} {H S : Hp} {env : En} {vs : List V} {xs : List D} {R : D → Prop} {Rx : Er → Prop} {Q : VK} {a dx : Addr} (kn : Kn c σ H S env) (x : XOk c E Rx) (l : RepL c.B S xs vs) (t : F xs R Rx) (ha : H a = none) (hdx : H dx = none) (ne : dx ≠ a)
    (q : ∀ v H' S' N d, Kn c σ H' S' env → Same S S' → Reg c σ env H' S' N → Rep c.B (uni (tpC S') N) d v → R d → Q v H') : spIN C F (.ref a :: vs) (upd (upd H dx (.own a)) a (.ins C dx [])) (fun v H2 => v = .non ∧ Q (.ref a) H2) E := by
  have k1 := (kn.new0 (o := .own a) hdx)
  have ha1 : upd H dx (.own a) a = none := by rw [upd_ne (Ne.symm ne)]; exact ha
  have k2 := k1.new0 (o := .ins C dx []) ha1
  refine ⟨c.at _ S, S, a, dx, vs, xs, R, Rx, rfl, rfl, rfl, k2.kf.at, upd_same, kn.kf.x_ne ha, kn.kf.s_none ha, l, t, fun H' S' ks ys us k' hl _ ln r' => ⟨rfl, ?_⟩, x.at k2.kf⟩
  have ln := ln rfl
  have h2 : ∀ b o, b ≠ a → b ≠ dx → H b = some o → upd (upd (upd H dx (.own a)) a (.ins C dx [])) a (.ins C dx (ks.zip us)) b = some o := fun b o n1 n2 e => by rw [upd_ne n1, upd_ne n1, upd_ne n2]; exact e
  have hda : H' dx = some (.own a) := k'.old dx _ (by show upd (upd (upd H dx (.own a)) a (.ins C dx [])) a _ dx = _; rw [upd_ne ne, upd_ne ne, upd_same]) (kn.kf.x_ne hdx)
  have haa : H' a = some (.ins C dx (ks.zip us)) := k'.old a _ upd_same (kn.kf.x_ne ha)
  have kS : Kf (c.at H S) H' S := ⟨k'.s0.trans k'.sub, Same.refl S, fun b o eb nb => k'.old b o (h2 b o (fun z => by rw [z] at eb; have : H a = some o := eb; rw [ha] at this; cases this) (fun z => by rw [z] at eb; have : H dx = some o := eb; rw [hdx] at this; cases this) eb) nb, fun b e _ => e, fun b eb => by
    obtain ⟨⟨b1, cs, i, g, st, n, b2, b3, b4⟩, b5⟩ := k'.bag b eb
    obtain ⟨⟨d1, cs', _, _, _, _, d2, d3, _⟩, _⟩ := kn.kf.bag b eb
    have e3 : cs' = cs := by
      have z := k'.s0 _ _ d3
      have z2 : some (HO.lst (cs'.map V.int)) = some (HO.lst (cs.map V.int)) := z.symm.trans b3
      injection z2 with z2
      injection z2 with z2
      exact List.map_inj_right (fun _ _ h => by injection h) |>.mp z2
    subst e3
    exact ⟨⟨d1, cs', i, g, st, n, b2, d3, b4⟩, by show H b ≠ none; rw [d2]; exact fun z => nomatch z⟩, ⟨fun p hp => ⟨(k'.tab.1 p hp).1, (kn.kf.tab.1 p hp).2⟩, fun p hp => kn.kf.tab.1.ne hp⟩⟩
  have knS := kn.back kS
  let H2 := upd (upd H dx (.own a)) a (.ins C dx [])
  have H2a : H2 a = some (.ins C dx []) := upd_same
  have H2d : H2 dx = some (.own a) := by show upd (upd H dx (.own a)) a (.ins C dx []) dx = _; rw [upd_ne ne, upd_same]
  have h2n : ∀ {b}, H2 b = none → H b = none ∧ b ≠ a ∧ b ≠ dx := fun {b} e1 => by
    have n1 : b ≠ a := fun z => by rw [z, H2a] at e1; cases e1
    have n2 : b ≠ dx := fun z => by rw [z, H2d] at e1; cases e1
    have e1 : upd (upd H dx (.own a)) a (.ins C dx []) b = none := e1
    rw [upd_ne n1, upd_ne n2] at e1
    exact ⟨e1, n1, n2⟩
  -- a tuple of S' is one of S or is new
  have tpn : ∀ {b vs0}, S' b = some (.tup vs0) → S b = some (.tup vs0) ∨ (S b = none ∧ H2 b = none) := fun {b vs0} e => by
    cases sb : S b with
    | some o =>
      have := k'.s0 b o sb
      rw [e] at this
      cases this
      exact .inl rfl
    | none =>
      refine .inr ⟨rfl, ?_⟩
      cases hb : H2 b with
      | none => rfl
      | some o =>
        have hm : ¬ Mu (H2 b) := fun m => by
          have nb : b ≠ a := fun z => by
            subst z
            have s1 := k'.new b sb (by show Mu (upd _ b _ b); rw [upd_same]; exact mu_of rfl fun _ z => nomatch z)
            rw [e] at s1
            cases s1
          have s1 := k'.new b sb (by
            show Mu (upd H2 a (.ins C dx (ks.zip us)) b)
            rw [upd_ne nb]
            exact m)
          rw [e] at s1
          cases s1
        have nb : b ≠ a := fun z => hm (by rw [z, H2a]; exact mu_of rfl fun _ z => nomatch z)
        have hx : ¬ Ex c.B b := fun z => by
          have z2 := k'.sub b _ e
          rcases z with z | ⟨q, hq, z⟩
          · have := (k'.bag b z).1.1
            rw [e] at this
            cases this
          · have := (k'.tab.1 q hq).2
            rw [z, e] at this
            cases this
        have h3 : H' b = some o := k'.old b o (by show upd H2 a (.ins C dx (ks.zip us)) b = _; rw [upd_ne nb]; exact hb) hx
        rw [k'.sub b _ e] at h3
        cases h3
        exact absurd (mu_of hb fun _ z => nomatch z) hm
  have g1 : Reg c σ env H' S (newH H2 (tpC S')) := fun b o e => by
    obtain ⟨e1, e2⟩ := newH_some e
    obtain ⟨vs0, rfl, e3⟩ := tpC_of e2
    obtain ⟨e4, n1, n2⟩ := h2n e1
    exact ⟨k'.sub _ _ e3, kn.kf.s_none e4, kn.kf.h0_none e4, kn.free e4⟩
  have kn1 := knS.uni g1
  have sz : ∀ {b}, H b = none → (∀ vs0, S' b ≠ some (.tup vs0)) → uni S (newH H2 (tpC S')) b = none := fun {b} e1 e2 => by
    cases z : uni S (newH H2 (tpC S')) b with
    | none => rfl
    | some o =>
      rcases uni_of z with z | ⟨_, z⟩
      · rw [kn.kf.s_none e1] at z
        cases z
      · obtain ⟨vs0, _, e3⟩ := tpC_of (newH_some z).2
        exact absurd e3 (e2 vs0)
  have sd : ∀ {b}, H b = none → b = a ∨ b = dx → uni S (newH H2 (tpC S')) b = none := fun {b} e1 e2 => by
    cases z : uni S (newH H2 (tpC S')) b with
    | none => rfl
    | some o =>
      rcases uni_of z with z | ⟨_, z⟩
      · rw [kn.kf.s_none e1] at z
        cases z
      · obtain ⟨_, n1, n2⟩ := h2n (newH_some z).1
        rcases e2 with e2 | e2
        · exact absurd e2 n1
        · exact absurd e2 n2
  let N0 : Hp := fun b => match tpC S' b with
    | some _ => none
    | none => newH H2 S' b
  have n0 : ∀ {b o}, N0 b = some o → H2 b = none ∧ S' b = some o ∧ ∀ vs0, S' b ≠ some (.tup vs0) := fun {b o} e => by
    have e : (match tpC S' b with
      | some _ => none
      | none => newH H2 S' b) = some o := e
    split at e
    · cases e
    · rename_i h
      obtain ⟨e1, e2⟩ := newH_some e
      exact ⟨e1, e2, fun vs0 z => by rw [tpC_tup z] at h; cases h⟩
  have n0i : ∀ {b o}, H2 b = none → S' b = some o → (∀ vs0, S' b ≠ some (.tup vs0)) → N0 b = some o := fun {b o} e1 e2 e3 => by
    show (match tpC S' b with
      | some _ => none
      | none => newH H2 S' b) = some o
    cases h : tpC S' b with
    | some o2 =>
      obtain ⟨vs0, _, e4⟩ := tpC_of h
      exact absurd e4 (e3 vs0)
    | none => show newH H2 S' b = some o; rw [newH_of e1]; exact e2
  let S3 : Hp := uni S (newH H2 (tpC S'))
  let N1 : Hp := upd (upd N0 dx (.own a)) a (.ins C dx (ks.zip us))
  have sN : Same (newT H2 S') (uni (tpC S3) N1) := fun b o e => by
    have tup : ∀ vs0, S' b = some (.tup vs0) → uni (tpC S3) N1 b = some (.tup vs0) := fun vs0 e5 => by
      refine uni_l b _ (tpC_tup ?_)
      rcases tpn e5 with z | ⟨z1, z2⟩
      · exact uni_l b _ z
      · show DL.uni S (newH H2 (tpC S')) b = _
        unfold DL.uni
        rw [z1]
        show newH H2 (tpC S') b = _
        rw [newH_of z2]
        exact tpC_tup e5
    rcases newT_of e with ⟨e1, e2⟩ | ⟨vs0, rfl, e2⟩
    · by_cases z : ∃ vs0, S' b = some (.tup vs0)
      · obtain ⟨vs0, z⟩ := z
        rw [z] at e2
        cases e2
        exact tup vs0 z
      · have z2 : ∀ vs0, S' b ≠ some (.tup vs0) := fun vs0 y => z ⟨vs0, y⟩
        obtain ⟨e4, m1, m2⟩ := h2n e1
        have e6 : N1 b = some o := by
          show upd (upd N0 dx (.own a)) a (.ins C dx (ks.zip us)) b = _
          rw [upd_ne m1, upd_ne m2]
          exact n0i e1 e2 z2
        show DL.uni (tpC S3) N1 b = some o
        unfold DL.uni
        cases y : tpC S3 b with
        | none => exact e6
        | some o2 =>
          obtain ⟨vs0, _, e7⟩ := tpC_of y
          have : S3 b = none := sz e4 z2
          rw [this] at e7
          cases e7
    · exact tup vs0 e2
  have tn : ∀ {b}, b = a ∨ b = dx → tpC S3 b = none := fun {b} e => by
    cases y : tpC S3 b with
    | none => rfl
    | some o2 =>
      obtain ⟨vs0, _, e7⟩ := tpC_of y
      have hb : H b = none := by rcases e with rfl | rfl <;> assumption
      have : S3 b = none := sd hb e
      rw [this] at e7
      cases e7
  refine q (.ref a) H' S3 N1 (.obj C ks ys) kn1 uni_l (fun b o e => ?_) ?_ r'
  · have e : upd (upd N0 dx (.own a)) a (.ins C dx (ks.zip us)) b = some o := e
    by_cases z : b = a
    · subst z
      rw [upd_same] at e
      cases e
      exact ⟨haa, sd ha (.inl rfl), kn.kf.h0_none ha, kn.free ha⟩
    · rw [upd_ne z] at e
      by_cases y : b = dx
      · subst y
        rw [upd_same] at e
        cases e
        exact ⟨hda, sd hdx (.inr rfl), kn.kf.h0_none hdx, kn.free hdx⟩
      · rw [upd_ne y] at e
        obtain ⟨e1, e2, e3⟩ := n0 e
        obtain ⟨e4, _, _⟩ := h2n e1
        exact ⟨k'.sub _ _ e2, sz e4 e3, kn.kf.h0_none e4, kn.free e4⟩
  · rw [Rep]
    refine ⟨a, dx, us, rfl, ?_, ?_, hl, repL_mono sN ys us ln⟩
    · show DL.uni (tpC S3) N1 a = _
      unfold DL.uni
      rw [tn (.inl rfl)]
      exact upd_same
    · show DL.uni (tpC S3) N1 dx = _
      unfold DL.uni
      rw [tn (.inr rfl)]
      show upd (upd N0 dx (.own a)) a _ dx = _
      rw [upd_ne ne, upd_same]
/-- values of new parts and of tuples -/
def SmP (E : XK) (t : TE) (T : DT) : Prop := ∀ (c : Fm) (σ : St) (H S : Hp) (env : En) (R : D → Prop) (Rx : Er → Prop), XOk c E Rx → Kn c σ H S env → T env R Rx →
  ∀ Q : VK, (∀ v H' S' N d, Kn c σ H' S' env → Same S S' → Reg c σ env H' S' N → Rep c.B (uni (tpC S') N) d v → R d → Q v H') → t σ H Q
def DP (X : Cx) (E : XK) (e : Expr) (T : DT) : Prop := ∃ t, PE X e t ∧ SmP E t T
theorem tp_uni {c : Fm} {σ : St} {env : En} {H S N : Hp} (g : Reg c σ env H S N) : Same (DL.uni (tpC S) N) (DL.uni S N) := fun a o e => by
  rcases uni_of e with e | ⟨_, e2⟩
  · obtain ⟨vs, rfl, h⟩ := tpC_of e
    exact uni_l a _ h
  · exact uni_r g a o e2
theorem d_ofP {e : Expr} {T : DT} (h : DP X E e T) : DE X E e T := by
  obtain ⟨t, p, s⟩ := h
  exact ⟨t, p, fun c σ H S env R Rx x k h Q q => s c σ H S env R Rx x k h Q fun v H1 S1 N d k1 s1 g r t1 => q v H1 (uni S1 N) d (k1.uni g) (s1.trans uni_l) (rep_mono (tp_uni g) d v r) t1⟩
theorem p_lend {e : Expr} {T : DT} (h : DP X E e T) : DP X E e (xLendN T) := by
  obtain ⟨t, p, s⟩ := h
  refine ⟨t, p, fun c σ H S env R Rx x k t Q q => s _ σ H _ _ _ Rx (x.lend k) k.lend t Q fun v H1 S1 N d k1 s1 g r1 t1 => ?_⟩
  obtain ⟨k2, s2⟩ := k.unlend k1.kf
  refine q v H1 _ N d k2 s2 (fun a o e => ?_) (rep_mono (fun a o e => ?_) d v r1) t1
  · obtain ⟨g1, g2, g3, g4⟩ := g a o e
    have nh : H a = none := g3
    have no : ¬ OwnA σ env a := fun z => by
      exact (ownA_at k z).2.2.1 nh
    exact ⟨g1, by rw [back_not no]; exact g2, k.kf.h0_none nh, fun j x u e1 e2 fa => no ⟨j, x, u, e1, e2, fa⟩⟩
  · rcases uni_of e with e | ⟨e1, e2⟩
    · obtain ⟨vs, rfl, ea⟩ := tpC_of e
      refine uni_l a _ (tpC_tup ?_)
      rw [back_not fun z => ?_]
      · exact ea
      · obtain ⟨o1, o2, o3⟩ := ownA_at k z
        cases eo : H a with
        | none => exact o3.1 eo
        | some o =>
          have := s1 a o (by rw [lend_own z]; exact eo)
          rw [ea] at this
          cases this
          exact own_nt k z vs eo
    · unfold DL.uni
      cases y : tpC (backS σ env S1) a with
      | none => exact e2
      | some o2 =>
        obtain ⟨vs, rfl, ea⟩ := tpC_of y
        by_cases z : OwnA σ env a
        · rw [back_own z] at ea
          cases ea
        · rw [back_not z] at ea
          rw [tpC_tup ea] at e1
          cases e1
theorem d_makeN (M : Mk X.K C f) (G : FnOk X.prog X.w X.K X.mg X.base CX k f fd ps (spIN C F)) (hr : Room (k + 1) X.A) (hm : X.mg x = some (.ref C)) (hb : Binds X.K fd ps []) (hx : Passes CX X E) (ha : DA X E (e :: es) Tl)
    (hg : Gl X x := by rfl) (hdb : (x == ("__debug__" : Str)) = false := by decide) (he : starEach (e :: es) X.env = (false, eval e X.env) :: starEach es X.env := by rfl) (hpl : (backTo pos (starEach es X.env)).any (·.1) = false := by rfl) :
    DP X E (.Call (.Name x p) (e :: es) [] pos) (xMake F Tl) := by
  obtain ⟨t, p1, s⟩ := ha
  refine ⟨_, pe_make M G hr hg hm hb .nil hx p1 hdb he hpl, fun c σ H S env R Rx x k t Q q => s c σ H S env _ Rx x k t _ fun vs H1 S1 xs k1 s1 l1 t1 a dx hxa hxd ne => ?_⟩
  rw [List.append_nil]
  exact sp_makeN k1 x l1 t1 hxa hxd ne fun v H' S' N d k' s' g' r' z => q v H' S' N d k' (s1.trans s') g' r' z
end
mutual
theorem rep_dat2 {B : Option Addr} {S H N : Hp} (sub : ∀ a vs, S a = some (.tup vs) → N a = some (.tup vs)) : ∀ (d : D) (v : V) (as : List Addr), d.dat = true → (∀ a ∈ as, N a = H a) → RepT B S H d.tr v as → Rep B N d v
  | .lst xs, v, as, q, h, r => by
    rw [D.tr, RepT] at r
    obtain ⟨a, vs, bs, e, e2, l, rfl⟩ := r
    rw [Rep]
    exact ⟨a, vs, e, (h a List.mem_cons_self).trans e2, repL_dat2 sub xs vs bs q (fun b m => h b (List.mem_cons_of_mem _ m)) l⟩
  | .tup xs, v, as, q, h, r => by
    rw [D.tr, RepT] at r
    obtain ⟨a, vs, e, e2, l⟩ := r
    rw [Rep]
    exact ⟨a, vs, e, sub _ _ e2, repL_dat2 sub xs vs as q h l⟩
  | .non, v, as, _, _, r | .bl _, v, as, _, _, r | .int _, v, as, _, _, r | .str _, v, as, _, _, r => by
    rw [D.tr, RepT] at r
    exact flat_rep rfl r.1
  | .ty _, _, _, q, _, _ | .adr _, _, _, q, _, _ | .bag, _, _, q, _, _ | .fn _ _ _, _, _, q, _, _ | .obj _ _ _, _, _, q, _, _ | .exc _ _ _ _ _, _, _, q, _, _ | .dct _ _, _, _, q, _, _ | .dcT _ _, _, _, q, _, _ => nomatch (show false = true from q)
theorem repL_dat2 {B : Option Addr} {S H N : Hp} (sub : ∀ a vs, S a = some (.tup vs) → N a = some (.tup vs)) : ∀ (ds : List D) (vs : List V) (as : List Addr), datL ds = true → (∀ a ∈ as, N a = H a) → RepTL B S H (D.trs ds) vs as → RepL B N ds vs
  | [], vs, as, _, _, r => by
    rw [D.trs, RepTL] at r
    rw [r.1]
    exact repL_nil
  | d :: ds, vs, as, q, h, r => by
    rw [D.trs, RepTL] at r
    obtain ⟨v, ws, bs, cs, rfl, r1, r2, rfl⟩ := r
    have q : (d.dat && datL ds) = true := q
    rw [Bool.and_eq_true] at q
    exact repL_cons (rep_dat2 sub d v bs q.1 (fun a m => h a (List.mem_append_left _ m)) r1) (repL_dat2 sub ds ws cs q.2 (fun a m => h a (List.mem_append_right _ m)) r2)
end
section
variable {X : Cx} {E : XK} {p dx C : Addr} {rest : List Stmt} {U : ITS} {T : DT} {pos p1 p2 : Pos}
/-- a tree as a value of new lists -/
def xDatU (T : DT) : DT := fun env R Rx => T env (fun d => d.dat = true ∧ R d) Rx
theorem w_xDatU {env : En} {R : D → Prop} {Rx : Er → Prop} : xDatU T env R Rx = T env (fun d => d.dat = true ∧ R d) Rx := rfl
theorem w_ofU {e : Expr} {T : DT} (h : DU X E e T) : DWn X E e (xDatU T) := by
  obtain ⟨t, p, s⟩ := h
  refine ⟨t, p, fun c σ H S env R Rx x k h Q q => s c σ H S env _ Rx x k h Q fun v H1 S1 as d k1 s1 r n g t1 => ?_⟩
  obtain ⟨k2, s2⟩ := k1.frzT g
  have r1 := repT_frz r fun a m => (g a m).1
  rw [tr_d] at r1
  refine q v H1 _ d k2 (s1.trans s2) r1 ?_ t1.2
  have sub : ∀ a vs, S1 a = some (.tup vs) → newT c.H0 (frzS as H1 S1) a = some (.tup vs) := fun a vs e => newT_tup (s2 _ _ e)
  refine rep_dat2 sub d v as t1.1 (fun a m => ?_) r
  cases e : H1 a with
  | none => exact absurd e (r.mu a m).1
  | some o => exact uni_l a o (by rw [newH_of (g a m).2.1, frzS_in m]; exact e)
theorem is_setU {e : Expr} {f : Str} {x0 : Str} (h : DU X E e T) (h2 : DIs X E p dx C rest U) (c0 : Cls X.K C) (n : NoAttr X.K C f) (hN : X.N[0]? = some x0 := by rfl) (hv : Vis X.env.scope x0 := by first | exact Or.inl rfl | exact Or.inr (Or.inl rfl) | exact Or.inr (Or.inr rfl)) (hd : (x0 == ("__debug__" : Str)) = false := by decide)
    (hcd : (x0 == ("__classdict__" : Str)) = false := by decide) (hs : swapsWith e (some (.Attribute (.Name x0 p1) f p2)) pos.line X.env = pure false := by rfl) : DIs X E p dx C (.Assign [.Attribute (.Name x0 p1) f p2] e pos :: rest) (jSetN p f (xDatU T) U) := is_setW (w_ofU h) h2 c0 n hN hv hd hcd hs
end
section
variable {X : Cx} {E : XK} {a b c : Expr} {Ta Tb : DT} {TFa TFb : DTF} {TT : DTT} {pos : Pos}
theorem u_if (h : DTe X E c TT) (ha : DU X E a Ta) (hb : DU X E b Tb) : DU X E (.IfExp c a b pos) (xIf TT Ta Tb) := by
  obtain ⟨t, p, s⟩ := h
  obtain ⟨ta, p1, s1⟩ := ha
  obtain ⟨tb, p2, s2⟩ := hb
  refine ⟨_, pe_ifExp p p1 p2, fun c σ H S env R Rx x k t Q q => s c σ H S env _ Rx x k t _ fun bb H1 S1 k1 s3 t1 => ?_⟩
  cases bb with
  | true => exact iteT (s1 c σ H1 S1 env R Rx x k1 (t1.1 rfl) Q fun v H2 S2 as d k2 s4 r n g => q v H2 S2 as d k2 (s3.trans s4) r n g)
  | false => exact iteF (s2 c σ H1 S1 env R Rx x k1 (t1.2 rfl) Q fun v H2 S2 as d k2 s4 r n g => q v H2 S2 as d k2 (s3.trans s4) r n g)
/-- a, b = new lists, both of the frame's own -/
def zParOO (i j : Nat) (Ta : DTF) (Tb : DTF) : DTS := fun Q env => Ta env (fun ds => Tb (valE env) (fun es => Q.nx (putO' j es (putO' i ds env))) Q.ex) Q.ex
theorem w_parOO {i j : Nat} {Q : DEnds} {env : En} : zParOO i j TFa TFb Q env = TFa env (fun ds => TFb (valE env) (fun es => Q.nx (putO' j es (putO' i ds env))) Q.ex) Q.ex := rfl
end
end DL
namespace DL
open PySem PySem.Spec L2
variable [TbC]
section
variable {X : Cx}
def opIsNotB : DOp := fun x y R => ∃ b c, x = .bl b ∧ y = .bl c ∧ R (.bl (!decide (b = c)))
theorem w_isNotB {b c : Bool} {R : D → Prop} : opIsNotB (.bl b) (.bl c) R = R (.bl (!decide (b = c))) := by
  refine propext ⟨fun ⟨b2, c2, e1, e2, q⟩ => ?_, fun q => ⟨b, c, rfl, rfl, q⟩⟩
  cases e1
  cases e2
  exact q
end
end DL
namespace L2
open PySem PySem.Spec PyProof.Rows
end L2
namespace DL
open PySem PySem.Spec L2
end DL
namespace DL
open PySem PySem.Spec L2
variable [TbC]
mutual
def D.nos : D → Bool
  | .lst _ => false
  | .tup xs => nosL xs
  | .non | .bl _ | .int _ | .str _ | .ty _ | .adr _ | .bag | .fn _ _ _ | .obj _ _ _ | .exc _ _ _ _ _ | .dct _ _ | .dcT _ _ => true
def nosL : List D → Bool
  | [] => true
  | x :: xs => x.nos && nosL xs
end
theorem w_nos_tup {xs : List D} : D.nos (.tup xs) = nosL xs := rfl
theorem w_nos_non : D.nos .non = true := rfl
theorem w_nos_bl {b : Bool} : D.nos (.bl b) = true := rfl
theorem w_nos_int {i : Int} : D.nos (.int i) = true := rfl
theorem w_nos_str {s : Str} : D.nos (.str s) = true := rfl
theorem w_nos_obj {C : Addr} {ks : List Str} {xs : List D} : D.nos (.obj C ks xs) = true := rfl
theorem w_nosL_nil : nosL [] = true := rfl
theorem w_nosL_cons {x : D} {xs : List D} : nosL (x :: xs) = (x.nos && nosL xs) := rfl
theorem nosL_of : ∀ {xs : List D}, (∀ x ∈ xs, x.nos = true) → nosL xs = true
  | [], _ => rfl
  | x :: xs, h => by
    rw [w_nosL_cons, h x List.mem_cons_self, nosL_of fun y hy => h y (List.mem_cons_of_mem _ hy)]
    rfl
mutual
theorem tr_nos {B : Option Addr} {S H : Hp} : ∀ (d : D) (v : V) (as : List Addr), d.nos = true → RepT B S H d.tr v as → Rep B S d v ∧ as = []
  | .lst _, v, as, z, _ => (Bool.false_ne_true z).elim
  | .tup xs, v, as, z, r => by
    rw [D.tr, RepT] at r
    obtain ⟨a, vs, e, ea, l⟩ := r
    obtain ⟨l1, e1⟩ := trs_nos xs vs as z l
    rw [Rep]
    exact ⟨⟨a, vs, e, ea, l1⟩, e1⟩
  | .non, v, as, _, r => r
  | .bl _, v, as, _, r => r
  | .int _, v, as, _, r => r
  | .str _, v, as, _, r => r
  | .ty _, v, as, _, r => r
  | .adr _, v, as, _, r => r
  | .bag, v, as, _, r => r
  | .fn _ _ _, v, as, _, r => r
  | .obj _ _ _, v, as, _, r => r
  | .exc _ _ _ _ _, v, as, _, r => r
  | .dct _ _, v, as, _, r => r
  | .dcT _ _, v, as, _, r => r
theorem trs_nos {B : Option Addr} {S H : Hp} : ∀ (xs : List D) (vs : List V) (as : List Addr), nosL xs = true → RepTL B S H (D.trs xs) vs as → RepL B S xs vs ∧ as = []
  | [], vs, as, _, r => by
    rw [D.trs, RepTL] at r
    rw [r.1]
    exact ⟨repL_nil, r.2⟩
  | x :: xs, vs, as, z, r => by
    have z : (x.nos && nosL xs) = true := z
    rw [Bool.and_eq_true] at z
    rw [D.trs, RepTL] at r
    obtain ⟨v, ws, bs, cs, rfl, r1, r2, rfl⟩ := r
    obtain ⟨q1, e1⟩ := tr_nos x v bs z.1 r1
    obtain ⟨q2, e2⟩ := trs_nos xs ws cs z.2 r2
    exact ⟨repL_cons q1 q2, by rw [e1, e2]; rfl⟩
end
section
variable {X : Cx} {E : XK} {e : Expr} {T : DT} {TF : DTF}
def xNos (T : DT) : DT := fun env R Rx => T env (fun d => d.nos = true ∧ R d) Rx
theorem w_xNos {env : En} {R : D → Prop} {Rx : Er → Prop} : xNos T env R Rx = T env (fun d => d.nos = true ∧ R d) Rx := rfl
/-- a new list of things without lists -/
def xFNos (TF : DTF) : DT := fun env R Rx => TF env (fun ds => nosL ds = true ∧ R (.lst ds)) Rx
theorem w_xFNos {env : En} {R : D → Prop} {Rx : Er → Prop} : xFNos TF env R Rx = TF env (fun ds => nosL ds = true ∧ R (.lst ds)) Rx := rfl
/-- .. as a list of its own -/
def xNFol (T : DT) : DTF := fun env R Rx => T env (fun d => match d with
  | .lst ds => nosL ds = true ∧ R ds
  | _ => False) Rx
theorem w_xNFol {env : En} {R : List D → Prop} {Rx : Er → Prop} : xNFol T env R Rx = T env (fun d => match d with
  | .lst ds => nosL ds = true ∧ R ds
  | _ => False) Rx := rfl
theorem f_ofUNos (h : DU X E e T) : DF X E e (xNFol T) := by
  obtain ⟨t, p, s⟩ := h
  refine ⟨t, p, fun c σ H S env R Rx x k h Q q => s c σ H S env _ Rx x k h Q fun v H1 S1 as d k1 s1 r n g t1 => ?_⟩
  cases d <;> try exact (show False from t1).elim
  rename_i xs
  rw [D.tr, RepT] at r
  obtain ⟨a, vs, bs, rfl, e, l, rfl⟩ := r
  obtain ⟨g1, g2, g3⟩ := g a (List.mem_cons_self ..)
  exact q a vs H1 S1 _ k1 s1 g2 g3 g1 e (trs_nos xs vs bs t1.1 l).1 t1.2
end
end DL
namespace DL
open PySem PySem.Spec L2
variable [TbC]
section
variable {X : Cx} {E : XK} {e : Expr} {T : DT} {p pos : Pos}
def xTupC (T : DT) : DT := fun env R Rx => T env (fun d => match d with
  | .lst xs => R (.tup xs)
  | _ => False) Rx
theorem w_xTupC {env : En} {R : D → Prop} {Rx : Er → Prop} : xTupC T env R Rx = T env (fun d => match d with
  | .lst xs => R (.tup xs)
  | _ => False) Rx := rfl
theorem u_tupC (h : DU X E e T) (hm : X.mg "tuple" = none) (hv : bootBuiltins "tuple" = some (.type "tuple")) (hg : Gl X "tuple" := by rfl) (he : starEach [e] X.env = (false, eval e X.env) :: starEach [] X.env := by rfl) (hpl : (backTo pos (starEach [] X.env)).any (·.1) = false := by rfl) : DU X E (.Call (.Name "tuple" p) [e] [] pos) (xTupC T) := by
  obtain ⟨t, pt, s⟩ := h
  refine ⟨_, pe_callTy call_tuple_of hg hm hv (pa_cons pt pa_nil he) (by decide) (by decide) he hpl, fun c σ H S env R Rx x k t0 Q q => ?_⟩
  refine s c σ H S env _ Rx x k t0 _ fun v H1 S1 as d k1 s1 r n g t1 => ?_
  cases d <;> try exact (show False from t1).elim
  rename_i xs
  rw [D.tr, RepT] at r
  obtain ⟨a, vs, bs, rfl, e1, l, rfl⟩ := r
  refine ⟨a, vs, rfl, .inl ⟨SqL.of e1, fun l0 hl => ?_⟩⟩
  have nb : ∀ b ∈ bs, b ≠ l0 := fun b m z => by
    have := (RepTL.mu l b m).1
    rw [z] at this
    exact this hl
  have s2 : Same S1 (upd S1 l0 (.tup vs)) := same_upd (k1.kf.s_none hl)
  refine q _ _ _ bs (.tup xs) (k1.new hl) (s1.trans s2) ?_ (List.nodup_cons.mp n).2 (fun b m => ?_) t1
  · rw [D.tr, RepT]
    exact ⟨l0, vs, rfl, upd_same, repTL_mono s2 _ _ _ (fun b m o e => by rw [upd_ne (nb b m)]; exact e) l⟩
  · obtain ⟨g1, g2, g3⟩ := g b (List.mem_cons_of_mem _ m)
    exact ⟨by rw [upd_ne (nb b m)]; exact g1, g2, g3⟩
end
section
variable {X : Cx} {E : XK} {pos : Pos} {a b : Expr} {TFa : DTF} {Tb : DT}
def zPar2O (i j : Nat) (Ta : DTF) (Tb : DT) : DTS := fun Q env => Ta env (fun ds => Tb (valE env) (fun d => Q.nx (put j d (putO' i ds env))) Q.ex) Q.ex
theorem w_par2O {i j : Nat} {Q : DEnds} {env : En} : zPar2O i j TFa Tb Q env = TFa env (fun ds => Tb (valE env) (fun d => Q.nx (put j d (putO' i ds env))) Q.ex) Q.ex := rfl
theorem s_par2O {i j : Nat} {x y : Str} {px py pt : Pos} {kt k2 pt2} (hc : X.calm = true) (hN : X.N.Nodup) (ha : DF X E a TFa) (hb : DE X E b Tb) (hi : X.N[i]? = some x := by rfl) (hj : X.N[j]? = some y := by rfl) (hij : i ≠ j := by decide)
    (hx : X.env.scope.names.lookup x = some .local := by rfl) (hy : X.env.scope.names.lookup y = some .local := by rfl)
    (hw : swappedStores [.Tuple [.Name x px, .Name y py] kt pt] (.Tuple [a, b] k2 pt2) X.env = pure (some [x, y]) := by rfl)
    (hs : swapsWithSole [.Tuple [.Name x px, .Name y py] kt pt] (.Tuple [a, b] k2 pt2) pos.line X.env = pure false := by rfl)
    (h1 : starEach [a, b] X.env = (false, eval a X.env) :: starEach [b] X.env := by rfl) (h2 : starEach [b] X.env = (false, eval b X.env) :: starEach [] X.env := by rfl) :
    DS X E (.Assign [.Tuple [.Name x px, .Name y py] kt pt] (.Tuple [a, b] k2 pt2) pos) (zPar2O i j TFa Tb) := by
  obtain ⟨ta, pa, sa⟩ := ha
  obtain ⟨tb, pb, sb⟩ := hb
  refine ⟨_, ps_par hc hN hi hj hij hx hy (pa_cons pa (pa_cons pb pa_nil h2) h1) hw hs, fun c σ H S env Q x k t D m => sa c σ H S env _ _ x k t _ fun q1 vs1 H1 S1 ds1 k1 s1 n0 f n2 e1 l1 t1 => ?_⟩
  refine sb (c.at H1 S1) σ H1 S1 (valE env) _ _ (x.at k1.kf) k1.vals t1 _ fun v2 H2 S2 d2 k2 s2 r2 t2 => ⟨_, _, rfl, ?_⟩
  have k4 := k1.back k2.kf
  have e3 := k2.kf.old q1 _ e1 (k1.kf.x_ne0 n0)
  have n3 : S2 q1 = none := k2.kf.new q1 n2 (mu_lst e1)
  exact m.1 _ H2 S2 _ ((k4.setOwn (i := i) n3 n0 e3 (repL_mono s2 _ _ l1) f).set r2) (s1.trans s2) t2
end
end DL
namespace DL
open PySem PySem.Spec L2
variable [TbC]
def fMin1 : DFn
  | [.lst xs], R => ∃ ns, asInts xs = some ns ∧ 0 < ns.length ∧ ∀ m, m ∈ ns → (∀ y, y ∈ ns → m ≤ y) → R (.int m)
  | _, _ => False
theorem w_fMin1 {xs : List D} {R : D → Prop} : fMin1 [.lst xs] R = ∃ ns, asInts xs = some ns ∧ 0 < ns.length ∧ ∀ m, m ∈ ns → (∀ y, y ∈ ns → m ≤ y) → R (.int m) := rfl
theorem b_min1 {X : Cx} (hc : X.calm = true) : CallOk X (.builtin "min") fMin1 := by
  refine ⟨_, cr_min hc, fun c σ H S env xs vs R k r t Q q => ?_⟩
  unfold fMin1 at t
  split at t <;> try exact t.elim
  obtain ⟨ns, e, h0, t⟩ := t
  obtain ⟨v, rfl, r1⟩ := rep1 r
  obtain ⟨a, vs, rfl, h1, _, l1⟩ := lst_of k r1
  rw [asInts_eq e] at l1
  rw [l1.ints] at h1
  exact ⟨a, ns, rfl, SqL.of h1, h0, fun m h2 h3 => q _ H S (.int _) k (Same.refl S) rfl (t m h2 h3)⟩
/-- a method that says super(), called by keywords -/
theorem Dsup.kb {K : PySem.W.Frag} {fl x qual : Str} {st : Stmt} {C : Addr} (Dx : Dsup K fl x qual st C) {ps ks : List Str} (n m : Nat) (idx : List Nat) (hi : ps ≠ [])
    (h : ∀ (kV doc pm cdv ct : Value) (an : Option Addr) (cc : Addr) (us ws : List Value), us.length = n → ws.length = m → bindArgs (PySem.W.ksFn x qual (defArgs st) (defBody st) (defScope st) .none kV doc pm an cdv ct cc) ⟨us, ks.zip ws⟩ = pure (ps.zip (gPerm n m idx us ws))) :
    KBd K Dx.fd ps ks (gPerm n m idx) where
  to := fun s us ws X hl => by
    obtain ⟨_, _, _, dV, _, _, _, _, _, _, _, _, _, _, _, _, _, _, _, e, _, _, _, _, _, _, _, e2⟩ := Dx.F.ex
    rw [e, e2]
    by_cases hz : us.length = n ∧ ws.length = m
    · exact .of_eq (h _ _ _ _ _ _ _ us ws hz.1 hz.2)
    · unfold gPerm at hl
      rw [if_neg hz] at hl
      exact absurd (List.length_eq_zero_iff.mp hl.symm) hi
  rel := fun {vs us zs ws} r1 r2 => by
    unfold gPerm
    rw [r1.length, r2.length]
    split
    · exact vals_pick (r1.append r2) idx
    · exact .nil
  rep := fun {B S xs zs vs ws} r1 r2 => by
    unfold gPerm
    rw [r1.length, r2.length]
    split
    · exact rep_pick (r1.app r2) idx
    · exact repL_nil
section
variable {X : Cx} {E : XK} {CX : CXT} {k : Nat} {f : Addr} {fd : FuncData} {ps : List Str} {F : Spec} {dvs : List V} {dds : List D} {ds : List Value} {x : Str} {p pos : Pos}
/-- f() -/
theorem d_call0 (G : FnOk X.prog X.w X.K X.mg X.base CX k f fd ps (spD F)) (hr : Room k X.A) (hm : X.mg x = some (.ref f)) (hk : PySem.W.keepIn X.K (.ref f) = true) (hb : Binds X.K fd ps ds) (hd : Vals dvs ds) (hdd : DfR dds dvs) (hx : Passes CX X E)
    (hg : Gl X x := by rfl) (hdb : (x == ("__debug__" : Str)) = false := by decide) : DE X E (.Call (.Name x p) [] [] pos) (xCall F dds xNil) :=
  ⟨_, pe_call0 G hr hg hm hk hb hd hx hdb, fun c σ H S env R Rx x k t Q q => sp_call k x (hdd _ _) t fun v H' S' d k' s' r' t' => q v H' S' d k' s' r' t'⟩
end
end DL
namespace DL
open PySem PySem.Spec L2 Hd
section
variable [TbC] {P : Program} {w : World} {K : PySem.W.Frag} {mg : Str → Option Value} {base : Heap}
theorem tru_non : D.tru .non = some false := rfl
theorem tru_bl {b : Bool} : D.tru (.bl b) = some b := rfl
theorem tru_int {i : Int} : D.tru (.int i) = some (i != 0) := rfl
theorem tru_str {s : Str} : D.tru (.str s) = if s.length ≤ sizeLine then some ((s.length : Int) != 0) else none := rfl
theorem tru_lst {xs : List D} : D.tru (.lst xs) = some (!xs.isEmpty) := rfl
theorem tru_tup {xs : List D} : D.tru (.tup xs) = some (!xs.isEmpty) := rfl
theorem isN_non : D.isN .non = true := rfl
theorem isN_bl {b : Bool} : D.isN (.bl b) = false := rfl
theorem isN_int {i : Int} : D.isN (.int i) = false := rfl
theorem isN_str {s : Str} : D.isN (.str s) = false := rfl
theorem isN_lst {xs : List D} : D.isN (.lst xs) = false := rfl
theorem isN_tup {xs : List D} : D.isN (.tup xs) = false := rfl
theorem isN_obj {C : Addr} {ks : List Str} {xs : List D} : D.isN (.obj C ks xs) = false := rfl
theorem dat_non : D.dat .non = true := rfl
theorem dat_bl {b : Bool} : D.dat (.bl b) = true := rfl
theorem dat_int {i : Int} : D.dat (.int i) = true := rfl
theorem dat_str {s : Str} : D.dat (.str s) = true := rfl
theorem dat_lst {xs : List D} : D.dat (.lst xs) = datL xs := rfl
theorem dat_tup {xs : List D} : D.dat (.tup xs) = datL xs := rfl
theorem datL_nil : datL [] = true := rfl
theorem datL_cons {x : D} {xs : List D} : datL (x :: xs) = (x.dat && datL xs) := rfl
theorem dep_non : D.dep .non = 1 := rfl
theorem dep_bl {b : Bool} : D.dep (.bl b) = 1 := rfl
theorem dep_int {i : Int} : D.dep (.int i) = 1 := rfl
theorem dep_str {s : Str} : D.dep (.str s) = 1 := rfl
theorem dep_lst {xs : List D} : D.dep (.lst xs) = 1 + depL xs := rfl
theorem dep_tup {xs : List D} : D.dep (.tup xs) = 1 + depL xs := rfl
theorem depL_nil : depL [] = 0 := rfl
theorem depL_cons {x : D} {xs : List D} : depL (x :: xs) = max x.dep (depL xs) := rfl
theorem py_non : D.py .non = .none := rfl
theorem py_bl {b : Bool} : D.py (.bl b) = .bool b := rfl
theorem py_int {i : Int} : D.py (.int i) = .int i := rfl
theorem py_str {s : Str} : D.py (.str s) = .str s := rfl
theorem py_lst {xs : List D} : D.py (.lst xs) = .list (pyL xs) := rfl
theorem py_tup {xs : List D} : D.py (.tup xs) = .tuple (pyL xs) := rfl
theorem pyL_nil : pyL [] = [] := rfl
theorem pyL_cons {x : D} {xs : List D} : pyL (x :: xs) = x.py :: pyL xs := rfl
theorem eqv_self (d : D) : PyData.eqv d.py d.py = true := SeqAt.eqv_refl_plain d.py (py_plain d)
def GoodL (n : Nat) (xs : List D) : Prop := ∀ x ∈ xs, Good n x
theorem goodL_nil {n : Nat} : GoodL n [] = True := by simp [GoodL]
theorem goodL_cons {n : Nat} {x : D} {xs : List D} : GoodL n (x :: xs) = (Good n x ∧ GoodL n xs) := by simp [GoodL]
theorem goodl_lst {n : Nat} {xs : List D} : Good (n + 1) (.lst xs) = (xs.length ≤ 100000 ∧ GoodL n xs) := rfl
theorem goodl_tup {n : Nat} {xs : List D} : Good (n + 1) (.tup xs) = (xs.length ≤ 100000 ∧ GoodL n xs) := rfl
/-- a comprehension whose items are told by their place -/
theorem LcP.idx {xs : List D} {G : DG} {Te : DT} {vs : List Nat} {env : En} {R : List D → Prop} (g : Nat → D) (hz : xs.length ≤ sizeLine) (h : ∀ (i : Nat) (d : D) (N : D → Prop), xs[i]? = some d → N (g i) → G d (inner vs env) fun env' => Te env' N noX) (k : R ((List.range xs.length).map g)) :
    LcP xs G xYes Te vs env R := by
  refine ⟨fun i acc => acc = (List.range i).map g, rfl, fun i d acc e hI => ?_, fun acc hI => by rw [hI]; exact k⟩
  have hi := (List.getElem?_eq_some_iff.mp e).1
  have key := h i d (fun y => acc.length < sizeLine ∧ acc ++ [y] = (List.range (i + 1)).map g) e ⟨by rw [hI, List.length_map, List.length_range]; omega, by rw [hI, List.range_succ, List.map_append]; rfl⟩
  have e1 : (fun env' => xYes env' (fun b => (b = true → Te env' (fun y => acc.length < sizeLine ∧ acc ++ [y] = (List.range (i + 1)).map g) noX) ∧ (b = false → acc = (List.range (i + 1)).map g)) noX) = fun env' => Te env' (fun y => acc.length < sizeLine ∧ acc ++ [y] = (List.range (i + 1)).map g) noX := by
    funext env'
    refine propext ⟨fun t => t.1 rfl, fun t => ⟨fun _ => t, fun z => nomatch z⟩⟩
  rw [e1]
  exact key
theorem LcP.upto {lo : Int} {n : Nat} {G : DG} {Te : DT} {vs : List Nat} {env : En} {R : List D → Prop} (g : Nat → D) (hz : n ≤ sizeLine) (h : ∀ (i : Nat) (N : D → Prop), i < n → N (g i) → G (.int (lo + i)) (inner vs env) fun env' => Te env' N noX) (k : R ((List.range n).map g)) :
    LcP (DL.ups lo n) G xYes Te vs env R := by
  refine LcP.idx g (by rw [ups_length]; exact hz) (fun i d N e hN => ?_) (by rw [ups_length]; exact k)
  rw [ups_get] at e
  split at e <;> cases e
  rename_i hi
  exact h i N hi hN
theorem ups_at {lo : Int} {n i : Nat} {d : D} (e : (DL.ups lo n)[i]? = some d) : i < n ∧ d = .int (lo + i) := by
  rw [ups_get] at e
  split at e <;> cases e
  rename_i hi
  exact ⟨hi, rfl⟩
theorem atI_map {g : Nat → D} {m k : Nat} {j : Int} (hj : j = k) (h : k < m) : atI ((List.range m).map g) j = some (g k) := by
  subst hj
  exact atI_nat (by simp [h])
theorem flat_non : D.flat .non = true := rfl
theorem flat_bl {b : Bool} : D.flat (.bl b) = true := rfl
theorem flat_int {i : Int} : D.flat (.int i) = true := rfl
theorem flat_str {s : Str} : D.flat (.str s) = true := rfl
theorem flatL_ints {ns : List Int} : flatL (ns.map D.int) = true := flatL_map fun _ => rfl
theorem asInts_nil : asInts [] = some [] := rfl
theorem asInts_cons {i : Int} {xs : List D} : asInts (.int i :: xs) = (asInts xs).map (i :: ·) := by
  rw [asInts]
theorem getD_map {xs : List Int} {k : Nat} (h : k < xs.length) : (xs.map D.int)[k]? = some (.int (xs.getD k 0)) := by
  rw [List.getElem?_map, List.getElem?_eq_getElem h]
  simp [List.getD, List.getElem?_eq_getElem h]
theorem at_ints {xs : List Int} {k : Nat} {j : Int} (hj : j = k) (h : k < xs.length) : atI (xs.map D.int) j = some (.int (xs.getD k 0)) := by
  subst hj
  exact atI_nat (getD_map h)
theorem range_getD (xs : List Int) : (List.range xs.length).map (fun k => D.int (xs.getD k 0)) = xs.map D.int := by
  apply List.ext_getElem?
  intro i
  by_cases h : i < xs.length
  · rw [getD_map h]
    simp [h]
  · simp [h]
theorem pairs_ints {xs ys : List Int} {i : Nat} {d : D} (h : (pairs (xs.map D.int) (ys.map D.int))[i]? = some d) : i < xs.length ∧ i < ys.length ∧ d = .tup [.int (xs.getD i 0), .int (ys.getD i 0)] := by
  obtain ⟨a, b, e1, e2, e3⟩ := pairs_get _ _ _ _ h
  have h1 : i < xs.length := by have := (List.getElem?_eq_some_iff.mp e1).1; simpa using this
  have h2 : i < ys.length := by have := (List.getElem?_eq_some_iff.mp e2).1; simpa using this
  rw [getD_map h1] at e1
  rw [getD_map h2] at e2
  cases e1
  cases e2
  exact ⟨h1, h2, e3⟩
theorem cutD_from {xs : List D} {a : Nat} : cutD xs (some (a : Int)) none = xs.drop a := by
  unfold cutD
  rw [HT.sIx_nat xs.length 0 a, HT.sIx_none]
  by_cases h : a ≤ xs.length
  · rw [Nat.min_eq_left h, List.take_of_length_le (by rw [List.length_drop]; omega)]
  · rw [List.drop_eq_nil_of_le (by omega), List.drop_eq_nil_of_le (by omega)]
    simp
theorem cutD_to {xs : List D} {b : Nat} : cutD xs none (some (b : Int)) = xs.take b := by
  unfold cutD
  rw [HT.sIx_nat xs.length xs.length b, HT.sIx_none, List.drop_zero, List.take_eq_take_iff]
  omega
theorem cutD_1 {xs : List D} : cutD xs (some 1) none = xs.drop 1 := cutD_from (a := 1)
theorem goodL_ints {n : Nat} {ns : List Int} : GoodL (n + 1) (ns.map D.int) = True := by
  simp only [eq_iff_iff, iff_true]
  exact fun x hx => by
    obtain ⟨i, _, rfl⟩ := List.mem_map.mp hx
    trivial
theorem map_int_inj {xs ys : List Int} : (xs.map D.int = ys.map D.int) = (xs = ys) := by
  simp only [eq_iff_iff]
  exact List.map_inj_right fun _ _ h => by injection h
theorem eqv_nn : PyData.eqv .none .none = true := rfl
theorem eqv_bb {a b : Bool} : PyData.eqv (.bool a) (.bool b) = decide (a = b) := by simp only [PyData.eqv]; cases a <;> cases b <;> rfl
theorem eqv_ii {a b : Int} : PyData.eqv (.int a) (.int b) = decide (a = b) := by simp only [PyData.eqv]; exact Bool.beq_eq_decide_eq a b
theorem eqv_ss {a b : Str} : PyData.eqv (.str a) (.str b) = (a == b) := by simp only [PyData.eqv]
theorem eqv_ll {a b : List PyData} : PyData.eqv (.list a) (.list b) = PyData.eqvAll a b := by simp only [PyData.eqv]
theorem eqv_tt {a b : List PyData} : PyData.eqv (.tuple a) (.tuple b) = PyData.eqvAll a b := by simp only [PyData.eqv]
theorem eqv_lt {a b : List PyData} : PyData.eqv (.list a) (.tuple b) = false := by simp only [PyData.eqv]
theorem eqv_tl {a b : List PyData} : PyData.eqv (.tuple a) (.list b) = false := by simp only [PyData.eqv]
theorem eqv_nb {b : Bool} : PyData.eqv .none (.bool b) = false := by simp only [PyData.eqv]
theorem eqv_bn {b : Bool} : PyData.eqv (.bool b) .none = false := by simp only [PyData.eqv]
theorem eqv_ni {i : Int} : PyData.eqv .none (.int i) = false := by simp only [PyData.eqv]
theorem eqv_in {i : Int} : PyData.eqv (.int i) .none = false := by simp only [PyData.eqv]
theorem eqv_ns {s : Str} : PyData.eqv .none (.str s) = false := by simp only [PyData.eqv]
theorem eqv_sn {s : Str} : PyData.eqv (.str s) .none = false := by simp only [PyData.eqv]
theorem eqv_nl {l : List PyData} : PyData.eqv .none (.list l) = false := by simp only [PyData.eqv]
theorem eqv_ln {l : List PyData} : PyData.eqv (.list l) .none = false := by simp only [PyData.eqv]
theorem eqvAll_nn : PyData.eqvAll [] [] = true := by simp only [PyData.eqvAll]
theorem eqvAll_nc {x : PyData} {xs : List PyData} : PyData.eqvAll [] (x :: xs) = false := by simp only [PyData.eqvAll]
theorem eqvAll_cn {x : PyData} {xs : List PyData} : PyData.eqvAll (x :: xs) [] = false := by simp only [PyData.eqvAll]
theorem eqvAll_cc {x y : PyData} {xs ys : List PyData} : PyData.eqvAll (x :: xs) (y :: ys) = (PyData.eqv x y && PyData.eqvAll xs ys) := by simp only [PyData.eqvAll]
theorem eqvAll_self {xs : List D} : PyData.eqvAll (pyL xs) (pyL xs) = true := by
  have h := eqv_self (.lst xs)
  rw [py_lst, eqv_ll] at h
  exact h
theorem eqvAll_ints : ∀ {xs ys : List Int}, PyData.eqvAll (pyL (xs.map D.int)) (pyL (ys.map D.int)) = decide (xs = ys)
  | [], [] => by simp only [List.map_nil, pyL_nil, eqvAll_nn, decide_true]
  | [], y :: ys => by simp [pyL_nil, pyL_cons, eqvAll_nc]
  | x :: xs, [] => by simp [pyL_nil, pyL_cons, eqvAll_cn]
  | x :: xs, y :: ys => by
    rw [List.map_cons, List.map_cons, pyL_cons, pyL_cons, eqvAll_cc, eqvAll_ints, py_int, py_int, eqv_ii]
    simp
theorem datL_ints {ns : List Int} : datL (ns.map D.int) = true := datL_of fun x hx => by
  obtain ⟨i, _, rfl⟩ := List.mem_map.mp hx
  rfl
theorem depL_ints {ns : List Int} : depL (ns.map D.int) ≤ 1 := depL_of fun x hx => by
  obtain ⟨i, _, rfl⟩ := List.mem_map.mp hx
  exact Nat.le_refl _
theorem asO_obj {C C' : Addr} {ks : List Str} {xs : List D} {R : List Str → List D → Prop} : asO C R (.obj C' ks xs) = (C' = C ∧ R ks xs) := rfl
def dgN1 : Array Lean.Name := #[`zRaise, `xFld, `xMeth, `xMethK, `opOwn, `xProp, `xMake, `xOB, `xOBi, `xInv, `asO_obj, `xNF, `xFN, `xFl, `zRetNew, `zRetO, `xStar, `xSl3, `zNever, `zParC, `zParV, `flat_non, `flat_bl, `flat_int, `flat_str, `flatL_nil, `flatL_cons, `flatL_app, `cut3_rev, `cut3_rev0, `pls_rev, `pls_rev0, `List.length_reverse, `asLT_lst, `asLT_tup, `true_or, `or_true, `startE, `inner, `zSeq, `zIf, `zNext, `zRet, `zAsg, `zSetO, `zPar, `zFrz, `zApp, `zStO, `zAug, `zExpr, `zFor, `zWhile, `zBreak, `zCont, `xTest, `xAnd, `xOr, `xNot, `xAndV, `xOrV, `xNotV, `xIf, `xTru, `xOp, `xUn, `xC, `xNil, `xCons, `xLst, `xTup, `xIxO, `xLenO, `xNoPart, `xPart, `xSl, `xChain, `xF, `xNew, `xCatF, `xRepF, `xListF, `xSlF, `xCB, `xCall, `xCallK, `xItL, `xItT, `xRg1, `xRg2, `xZip, `fZip_lst, `fZip_tup, `xEnum, `xItS, `xLcF_is, `xYes, `yName, `yNil, `yCons, `yTup, `put_0, `put_s, `putO_0, `putO_s, `xVar_0, `xVar_s, `opAdd_int, `opAdd_str, `opAdd_lst, `opAdd_tup, `opSub_int, `opMul_int, `opMul_lst, `opMul_str, `opFdiv_int, `opMod_int, `opPow_int, `opNeg_int, `opLt_int, `opLe_int, `opGt_int, `opGe_int, `opIx_lst, `opIx_tup, `opIx_str, `opSl_lst, `opSl_tup, `opSl_str, `opEq, `opNe, `opIs, `opIsNot, `isN_non, `isN_bl, `isN_int, `isN_str, `isN_lst, `isN_tup, `isN_obj, `dat_non, `dat_bl, `dat_int, `dat_str, `dat_lst, `dat_tup, `datL_nil, `datL_cons, `dep_non, `dep_bl, `dep_int, `dep_str, `dep_lst, `dep_tup, `depL_nil, `depL_cons, `tru_non, `tru_bl, `tru_int, `tru_str, `tru_lst, `tru_tup, `asB_bl, `asI_int, `asL_lst, `asLT_lst, `asLT_tup, `fLen_lst, `fLen_tup, `fLen_str, `fInt_int, `fInt_bl, `fAbs_int, `fMin2_int, `fMax2_int, `fSum_lst, `fAny_lst, `fAll_lst, `fTuple_lst, `fTuple_tup, `py_non, `py_bl, `py_int, `py_str, `py_lst, `py_tup, `pyL_nil, `pyL_cons, `eqv_self, `eqvAll_self, `eqvAll_ints, `eqv_nn, `eqv_bb, `eqv_ii, `eqv_ss, `eqv_ll, `eqv_tt, `eqv_lt, `eqv_tl, `eqv_nb, `eqv_bn, `eqv_ni, `eqv_in, `eqv_ns, `eqv_sn, `eqv_nl, `eqv_ln, `eqvAll_nn, `eqvAll_nc, `eqvAll_cn, `eqvAll_cc, `Bool.and_true, `Bool.true_and, `Bool.and_false, `Bool.false_and, `Bool.or_true, `Bool.true_or, `Bool.or_false, `Bool.false_or, `Bool.not_true, `Bool.not_false, `bne_self_eq_false, `beq_self_eq_true, `Bool.beq_eq_decide_eq, `List.map_cons, `List.map_nil, `List.length_cons, `List.length_nil, `List.length_append, `List.length_map, `Nat.reduceAdd, `Nat.reduceSub, `repN_0, `repN_s, `List.cons_append, `List.nil_append, `List.append_nil, `List.set_cons_zero, `List.set_cons_succ, `List.all_cons, `List.all_nil, `Option.some.injEq, `DV.own.injEq, `DV.val.injEq, `D.int.injEq, `D.bl.injEq, `D.lst.injEq, `D.tup.injEq, `D.str.injEq, `List.cons.injEq, `exists_eq_left', `exists_eq_left, `exists_eq_right, `exists_eq_right', `decide_eq_true_eq, `decide_eq_false_iff_not, `reduceCtorEq, `true_implies, `false_implies, `implies_true, `forall_const, `eq_self, `and_true, `true_and, `and_self, `if_true, `if_false, `decide_true, `decide_false, `Bool.false_eq_true, `ite_true, `ite_false, `goodl_lst, `goodl_tup, `good_non, `good_bl, `good_int, `good_str, `goodL_nil, `goodL_cons, `sizeLine_eq, `Nat.reduceLeDiff, `Nat.reduceLT, `isi_non_int, `isi_non_bool, `isi_non_str, `isi_non_list, `isi_non_tuple, `isi_non_lt, `isi_bl_int, `isi_bl_bool, `isi_bl_str, `isi_bl_list, `isi_bl_tuple, `isi_bl_lt, `isi_int_int, `isi_int_bool, `isi_int_str, `isi_int_list, `isi_int_tuple, `isi_int_lt, `isi_str_int, `isi_str_bool, `isi_str_str, `isi_str_list, `isi_str_tuple, `isi_str_lt, `isi_lst_int, `isi_lst_bool, `isi_lst_str, `isi_lst_list, `isi_lst_tuple, `isi_lst_lt, `isi_tup_int, `isi_tup_bool, `isi_tup_str, `isi_tup_list, `isi_tup_tuple, `isi_tup_lt, `Nat.max_self, `Bool.not_eq_true', `Bool.not_eq_false', `Bool.or_eq_true, `Bool.and_eq_true]
local macro_rules | `(tactic| walk_at "dl") => do let xs ← dgN1.mapM fun n => `(Lean.Parser.Tactic.simpLemma| $(Lean.mkIdent n):term); `(tactic| simp only [$xs,*, List.getElem?_cons_zero, List.getElem?_cons_succ])
def spBag (K : PySem.W.Frag) : Sp := fun vs H Q _ => ∃ (a : Addr) (ns : List Int), vs = [.ref a] ∧ SqL K H a (ns.map V.int) ∧ ns.length ≤ 63 ∧
  ∀ (b ca : Addr) (H' : Hp) (st : Int), b ≠ ca → Same H H' → H' b = some (.lst [.ref ca, .int 0, .int 0, .int st, .int 0]) → H' ca = some (.lst (ns.map V.int)) → 0 ≤ st → st < 2147483549 → Q (.ref b) H'
def n__law_bag : List Str := ["_law_script", "_law_state", "_law_cell"]
theorem sc__law_bag : FnScope n__law_bag ["_law_script"] (defScope s__law_bag) := ⟨rfl, rfl, rfl, by decide +kernel, rfl, by decide +kernel, by decide +kernel⟩
theorem cut63 {ns : List Int} (h : ns.length ≤ 63) : cutV (ns.map V.int) none (some 63) = ns.map V.int := by
  unfold cutV
  rw [HT.sIx_none]
  have e : HT.sIx (ns.map V.int).length (ns.map V.int).length (some 63) = ns.length := by
    have := HT.sIx_nat (ns.map V.int).length (ns.map V.int).length 63
    rw [List.length_map] at this ⊢
    exact this.trans (by omega)
  rw [e, List.drop_zero, Nat.sub_zero]
  have := List.take_length (l := ns.map V.int)
  rw [List.length_map] at this
  exact this
theorem ok__law_bag (D__law_bag : Df K mg "_law_bag" s__law_bag) (m_int : mg "int" = none) : FnOk P w K mg base (L2.CX P w) 1 D__law_bag.f D__law_bag.fd ["_law_script"] (spBag K) := by
  refine FunD.ok D__law_bag.F sc__law_bag (fun vs H Q E h => ?_) (fun cdv A outer s H vs Q E hr h => ?_)
  · obtain ⟨a, ns, rfl, _⟩ := h
    rfl
  · obtain ⟨a, ns, rfl, hS, hlen, k⟩ := h
    refine ⟨_, PSs.nox (pss_cons (ps_set (i := 1) sc__law_bag.nd rfl (.inl rfl) pe_int)
      (pss_cons (ps_for PassesOwn.never rfl (pi_list (pe_slice sl_list (pv 0) po_none (po_some pe_int))) (pg_name (i := 2) sc__law_bag.nd rfl (.inl rfl))
        (pss_one (ps_set (i := 1) sc__law_bag.nd rfl (.inl rfl) (pe_op op_mod (pe_callTy call_int1 (by rfl) m_int PyProof.Rows.boot_int (pa_cons (pe_op op_add (pe_op op_add (pe_op op_mul (pv 1) pe_int) (pe_op op_mod (pe_callTy call_int1 (by rfl) m_int PyProof.Rows.boot_int (pa_cons (pv 2) pa_nil)) pe_int)) pe_int) pa_nil)) pe_int))))
      (pss_one (ps_ret (pe_lst (pa_cons (pe_lc (own := [("_law_cell", 2)]) rfl sc__law_bag.nd (pi_list (pe_slice sl_list (pv 0) po_none (po_some pe_int))) (blkOk_by (own := [("_law_cell", 2)]) (N := n__law_bag) (sc := defScope s__law_bag) (by decide +kernel)) (fun _ _ _ _ _ => pg_name (i := 2) sc__law_bag.nd rfl (.inl rfl)) (fun _ _ _ _ _ => pts_nil)
        (fun _ _ _ _ _ => pe_callTy call_int1 (by rfl) m_int PyProof.Rows.boot_int (pa_cons (pv 2) pa_nil))) (pa_cons pe_int (pa_cons pe_int (pa_cons (pv 1) (pa_cons pe_int pa_nil)))))))))), ?_⟩
    refine ⟨_, rfl, 63, rfl, a, _, rfl, hS, fun p hp => ?_⟩
    rw [cut63 hlen]
    refine ⟨p, rfl, ⟨_, SqL.of upd_same⟩, for_list (K := K) (a := p) (xs := ns.map V.int) (fun i σ H2 => H2 = upd H p (.lst (ns.map V.int)) ∧ ∃ (st : Int) (v : Option V), σ = [some (.ref a), some (.int st), v] ∧ 0 ≤ st ∧ st < 2147483549)
      ⟨rfl, 10001, none, rfl, by decide, by decide⟩ (fun i σ H2 _ ⟨e, _⟩ => by rw [e]; exact SqL.of upd_same) ?_ ?_⟩
    · rintro i x σ H2 hx ⟨rfl, st, v, rfl, h0, h1⟩
      rw [List.getElem?_map] at hx
      obtain ⟨z, hz, rfl⟩ := Option.map_eq_some_iff.mp hx
      refine ⟨_, rfl, st, 50123, rfl, rfl, .inr ⟨by decide, by decide⟩, _, rfl, .inl ⟨z, rfl, ?_⟩⟩
      refine ⟨_, _, rfl, rfl, by show (0 : Int) < 2147483587; decide, _, _, rfl, rfl, _, _, rfl, rfl, .inl ⟨_, rfl, ?_⟩⟩
      refine ⟨_, _, rfl, rfl, by show (0 : Int) < 2147483549; decide, rfl, _, _, rfl, ?_, ?_⟩
      · exact Int.emod_nonneg _ (by decide)
      · exact Int.emod_lt_of_pos _ (by decide)
    · rintro σ H2 ⟨rfl, st, v, rfl, h0, h1⟩
      have s1 : Same H (upd H p (.lst (ns.map V.int))) := fun b o e => by rw [upd_ne (ne_of_none e hp)]; exact e
      refine ⟨_, rfl, 63, rfl, a, _, rfl, s1.seq hS, fun p2 hp2 => ?_⟩
      rw [cut63 hlen]
      refine ⟨p2, rfl, ⟨_, SqL.of upd_same⟩, fun ca hca => ?_⟩
      have n2 : ca ≠ p2 := fun z => by
        subst z
        rw [upd_same] at hca
        cases hca
      refine lc_list (K := K) (a := p2) (xs := ns.map V.int) (fun i H3 => Same (upd (upd H p (.lst (ns.map V.int))) p2 (.lst (ns.map V.int))) H3 ∧ H3 ca = some (.lst ((ns.take i).map V.int))) ⟨fun b o e => by
        rw [upd_ne (ne_of_none e hca)]
        exact e, by rw [upd_same]; simp⟩ (fun i H3 _ ⟨sm, _⟩ => SqL.of (sm _ _ upd_same)) ?_ ?_
      · rintro i x H3 hx ⟨sm, e3⟩
        rw [List.getElem?_map] at hx
        obtain ⟨z, hz, rfl⟩ := Option.map_eq_some_iff.mp hx
        have hi := (List.getElem?_eq_some_iff.mp hz).1
        refine ⟨rfl, ?_⟩
        simp only [tYes, if_true]
        refine ⟨_, rfl, .inl ⟨z, rfl, _, e3, ?_, ?_, ?_⟩⟩
        · rw [List.length_map, List.length_take]
          exact Nat.lt_of_le_of_lt (Nat.min_le_right _ _) (Nat.lt_of_le_of_lt hlen (by decide))
        · intro b o e
          have nb : b ≠ ca := ne_of_none e hca
          rw [upd_ne nb]
          exact sm b o e
        · rw [upd_same, List.take_succ, hz]
          simp
      · rintro H3 ⟨sm, e3⟩
        rw [List.length_map, List.take_length] at e3
        refine ⟨_, rfl, by show 5 ≤ sizeLine; decide, fun b hb => ?_⟩
        have nb : b ≠ ca := fun z => by
          subst z
          rw [e3] at hb
          cases hb
        refine k b ca _ st nb (fun c o e => ?_) upd_same (by rw [upd_ne nb.symm]; exact e3) h0 h1
        have h2 := s1 c o e
        have h3 : upd (upd H p (.lst (ns.map V.int))) p2 (.lst (ns.map V.int)) c = some o := by rw [upd_ne (ne_of_none h2 hp2)]; exact h2
        have h4 := sm c o h3
        rw [upd_ne (ne_of_none h4 hb)]
        exact h4
def F__law_pull : Spec
  | [.bag, .int n], R, _ => 0 < n ∧ n.natAbs.log2 < 9000 ∧ ∀ r : Int, 0 ≤ r → r < n → R (.int r)
  | _, _, _ => False
theorem F__law_pull_is {n : Int} {R : D → Prop} {Rx : Er → Prop} : F__law_pull [.bag, .int n] R Rx = (0 < n ∧ n.natAbs.log2 < 9000 ∧ ∀ r : Int, 0 ≤ r → r < n → R (.int r)) := rfl
theorem F__law_pull_of {ds : List D} {R : D → Prop} {Rx : Er → Prop} (h : F__law_pull ds R Rx) : ∃ n : Int, ds = [.bag, .int n] ∧ 0 < n ∧ n.natAbs.log2 < 9000 ∧ ∀ r : Int, 0 ≤ r → r < n → R (.int r) := by
  unfold F__law_pull at h
  split at h
  · exact ⟨_, rfl, h⟩
  · exact h.elim
def n__law_pull : List Str := ["_law_bag_here", "_law_many", "_law_cell", "_law_digit", "_law_state"]
theorem sc__law_pull : FnScope n__law_pull ["_law_bag_here", "_law_many"] (defScope s__law_pull) := ⟨rfl, rfl, rfl, by decide +kernel, rfl, by decide +kernel, by decide +kernel⟩
def bagL (ca : Addr) (i g st n : Int) : HO := .lst [.ref ca, .int i, .int g, .int st, .int n]
theorem ok__law_pull (D__law_pull : Df K mg "_law_pull" s__law_pull) (m_int : mg "int" = none) (m_len : mg "len" = none) : FnOk P w K mg base (L2.CX P w) 1 D__law_pull.f D__law_pull.fd ["_law_bag_here", "_law_many"] (spD F__law_pull) := by
  refine FunD.ok D__law_pull.F sc__law_pull (fun vs H Q E ⟨c, S, ds, R, Rx, _, _, _, l, h, _⟩ => ?_) (fun cdv A outer s H vs Q E hr hsp => ?_)
  · obtain ⟨n, rfl, _⟩ := F__law_pull_of h
    exact l.length
  obtain ⟨c, S, ds, R, Rx, h0, hs0, kf, l, h, q, _⟩ := hsp
  obtain ⟨n, rfl, hn, hn9, hR⟩ := F__law_pull_of h
  obtain ⟨v1, v2, rfl, r1, r2⟩ := rep2 l
  obtain ⟨b, eB, rfl⟩ := r1
  cases (show v2 = .int n from r2)
  obtain ⟨⟨nb, cs, i0, g0, st0, cnt0, eb, eca, i0n, g0n, st0n, st0l⟩, hb0⟩ := kf.bag b eB
  have hca : H c.C = some (.lst (cs.map V.int)) := kf.sub _ _ eca
  have nca : c.C ≠ b := fun z => by subst z; rw [nb] at eca; cases eca
  -- the end: any result, any right bag
  have fin : ∀ (r : Int) (i g st cnt : Int), 0 ≤ r → r < n → 0 ≤ i → 0 ≤ g → 0 ≤ st → st < 2147483549 → Q (.int r) (upd H b (bagL c.C i g st cnt)) := fun r i g st cnt h1 h2 h3 h4 h5 h6 => by
    refine q _ _ S (.int r) ⟨fun a o e => ?_, kf.s0, fun a o e ne => ?_, kf.new, fun b' e => ?_, ⟨kf.tab.1.lst eb, kf.tab.2⟩⟩ rfl (hR r h1 h2)
    · rw [upd_ne (fun z => by subst z; rw [nb] at e; cases e)]
      exact kf.sub a o e
    · rw [upd_ne (fun z => ne (.inl (by rw [z]; exact eB)))]
      exact kf.old a o e ne
    · rw [eB] at e
      cases e
      exact ⟨⟨nb, cs, i, g, st, cnt, upd_same, eca, h3, h4, h5, h6⟩, hb0⟩
  have hl : ∀ (o : HO), (upd H b o) c.C = some (.lst (cs.map V.int)) := fun o => by rw [upd_ne nca]; exact hca
  -- behind the first if
  obtain ⟨t2, p2, h2⟩ : ∃ t2, PSs (cxOf (L2.CX P w) P w K mg base n__law_pull "_law_pull" (defScope s__law_pull) D__law_pull.f cdv A outer s H E).nox ((defBody s__law_pull).drop 2) t2 ∧
      ∀ (v : Option V) (i g st cnt : Int), 0 ≤ i → 0 ≤ g → 0 ≤ st → st < 2147483549 → t2 { nx := fun _ H' => Q .non H', rt := Q } [some (.ref b), some (.int n), v, none, none] (upd H b (bagL c.C i g st cnt)) := by
    refine ⟨_, pss_cons (ps_if (pt_cmpR op_gt (pe_ix ix_list (pv 0) pe_int (fun _ _ => rfl)) pe_int (nomark _))
        (pss_cons (ps_set (i := 3) sc__law_pull.nd rfl (.inl rfl) (pe_op op_mod (pe_callTy call_int1 (by rfl) m_int PyProof.Rows.boot_int (pa_cons (pe_ix ix_list (pv 0) pe_int (fun _ _ => rfl)) pa_nil)) (pv 1)))
        (pss_cons (ps_asg (pe_op op_fdivW (pe_callTy call_int1 (by rfl) m_int PyProof.Rows.boot_int (pa_cons (pe_ix ix_list (pv 0) pe_int (fun _ _ => rfl)) pa_nil)) (pv 1)) (pg_sub (pv 0) pe_int set_list))
        (pss_one (ps_ret (pv 3))))) pss_nil)
      (pss_cons (ps_set (i := 4) sc__law_pull.nd rfl (.inl rfl) (pe_ix ix_list (pv 0) pe_int (fun _ _ => rfl)))
      (pss_cons (ps_asg (pe_op op_mod (pe_callTy call_int1 (by rfl) m_int PyProof.Rows.boot_int (pa_cons (pe_op op_add (pe_op op_add (pe_op op_add (pe_op op_pow (pv 4) pe_int) (pe_op op_mul (pv 4) pe_int)) (pe_op op_mul (pe_ix ix_list (pv 0) pe_int (fun _ _ => rfl)) pe_int)) pe_int) pa_nil)) pe_int) (pg_sub (pv 0) pe_int set_list))
      (pss_one (ps_ret (pe_op op_mod (pe_callTy call_int1 (by rfl) m_int PyProof.Rows.boot_int (pa_cons (pe_op op_add (pe_op op_fdiv (pe_ix ix_list (pv 0) pe_int (fun _ _ => rfl)) pe_int) (pe_op op_mul (pe_op op_mod (pe_callTy call_int1 (by rfl) m_int PyProof.Rows.boot_int (pa_cons (pe_ix ix_list (pv 0) pe_int (fun _ _ => rfl)) pa_nil)) pe_int) pe_int)) pa_nil)) (pv 1)))))), fun v i g st cnt hi hg hst hst2 => ?_⟩
    refine ⟨_, rfl, b, _, 2, .int g, rfl, rfl, SqL.of upd_same, rfl, g, 0, rfl, rfl, _, rfl, ?_⟩
    by_cases hgp : 0 < g
    · rw [decide_eq_true hgp]
      refine iteT ?_
      refine ⟨_, rfl, b, _, 2, .int g, rfl, rfl, SqL.of upd_same, rfl, .inl ⟨g, rfl, ?_⟩⟩
      refine ⟨_, rfl, g, n, rfl, rfl, hn, ?_⟩
      refine ⟨_, rfl, b, _, 2, .int g, rfl, rfl, SqL.of upd_same, rfl, .inl ⟨g, rfl, ?_⟩⟩
      refine ⟨_, rfl, g, n, rfl, rfl, ⟨hn, hn9⟩, ?_⟩
      refine ⟨_, rfl, b, _, 2, 2, rfl, rfl, upd_same, rfl, ?_⟩
      refine ⟨_, rfl, ?_⟩
      rw [upd_upd]
      exact fin (g % n) i (g / n) st cnt (Int.emod_nonneg _ (by omega)) (Int.emod_lt_of_pos _ hn) hi (Int.ediv_nonneg hg (by omega)) hst hst2
    · rw [decide_eq_false hgp]
      refine iteF ?_
      refine ⟨_, rfl, b, _, 3, .int st, rfl, rfl, SqL.of upd_same, rfl, ?_⟩
      refine ⟨_, rfl, st, 3, rfl, rfl, ⟨by decide, by decide, by omega⟩, ?_⟩
      refine ⟨_, rfl, st, 40427, rfl, rfl, .inr ⟨by decide, by decide⟩, ?_⟩
      refine ⟨_, _, rfl, rfl, ?_⟩
      refine ⟨_, rfl, b, _, 4, .int cnt, rfl, rfl, SqL.of upd_same, rfl, ?_⟩
      refine ⟨cnt, 1299709, rfl, rfl, .inr ⟨by decide, by decide⟩, ?_⟩
      refine ⟨_, _, rfl, rfl, ?_⟩
      refine ⟨_, _, rfl, rfl, .inl ⟨_, rfl, ?_⟩⟩
      refine ⟨_, _, rfl, rfl, by show (0 : Int) < 2147483549; decide, ?_⟩
      refine ⟨_, rfl, b, _, 3, 3, rfl, rfl, upd_same, rfl, ?_⟩
      rw [upd_upd]
      refine ⟨_, rfl, b, _, 3, _, rfl, rfl, SqL.of upd_same, rfl, ?_⟩
      refine ⟨_, 83, rfl, rfl, ⟨by decide, by decide⟩, ?_⟩
      refine ⟨_, rfl, b, _, 3, _, rfl, rfl, SqL.of upd_same, rfl, .inl ⟨_, rfl, ?_⟩⟩
      refine ⟨_, 7901, rfl, rfl, by show (0 : Int) < 7901; decide, ?_⟩
      refine ⟨_, 67, rfl, rfl, .inr ⟨by decide, by decide⟩, ?_⟩
      refine ⟨_, _, rfl, rfl, .inl ⟨_, rfl, ?_⟩⟩
      refine ⟨_, rfl, _, n, rfl, rfl, hn, ?_⟩
      exact fin _ i g _ cnt (Int.emod_nonneg _ (by omega)) (Int.emod_lt_of_pos _ hn) hi hg (Int.emod_nonneg _ (by decide)) (Int.emod_lt_of_pos _ (by decide))
  refine ⟨_, PSs.nox (pss_cons (ps_asg (pe_op op_add (pe_ix ix_list (pv 0) pe_int (fun _ _ => rfl)) pe_int) (pg_sub (pv 0) pe_int set_list))
    (pss_cons (ps_if (PW.pt (pw_and (pt_cmpR op_eq (pe_ix ix_list (pv 0) pe_int (fun _ _ => rfl)) pe_int (nomark _)) (pw_and1 (pt_cmpR op_lt (pe_ix ix_list (pv 0) pe_int (fun _ _ => rfl)) (pe_callB call_len (by rfl) m_len boot_len (pa_cons (pe_ix ix_list (pv 0) pe_int (fun _ _ => rfl)) pa_nil)) (nomark _)))))
      (pss_cons (ps_set (i := 2) sc__law_pull.nd rfl (.inl rfl) (pe_ix ix_list (pe_ix ix_list (pv 0) pe_int (fun _ _ => rfl)) (pe_ix ix_list (pv 0) pe_int (fun _ _ => rfl)) (fun _ _ => rfl)))
      (pss_cons (ps_asg (pe_op op_add (pe_ix ix_list (pv 0) pe_int (fun _ _ => rfl)) pe_int) (pg_sub (pv 0) pe_int set_list))
      (pss_cons (ps_if (pt_cmpR op_ge (pv 2) (pe_op op_pow pe_int pe_int) (nomark _)) (pss_one (ps_asg (pv 2) (pg_sub (pv 0) pe_int set_list))) pss_nil)
      (pss_one (ps_asg (pe_op op_mod (pe_callTy call_int1 (by rfl) m_int PyProof.Rows.boot_int (pa_cons (pe_op op_add (pe_op op_add (pe_op op_mul (pe_ix ix_list (pv 0) pe_int (fun _ _ => rfl)) pe_int) (pe_op op_mul (pe_op op_mod (pe_callTy call_int1 (by rfl) m_int PyProof.Rows.boot_int (pa_cons (pv 2) pa_nil)) pe_int) pe_int)) pe_int) pa_nil)) pe_int) (pg_sub (pv 0) pe_int set_list)))))) pss_nil) p2)), ?_⟩
  refine ⟨_, rfl, b, _, 4, .int cnt0, rfl, rfl, SqL.of eb, rfl, cnt0, 1, rfl, rfl, ?_⟩
  refine ⟨_, rfl, b, _, 4, 4, rfl, rfl, eb, rfl, ?_⟩
  refine ⟨_, rfl, b, _, 2, .int g0, rfl, rfl, SqL.of upd_same, rfl, rfl, _, rfl, ?_⟩
  by_cases hg0 : g0 = 0
  · subst hg0
    rw [show decide (V.int 0 = V.int 0) = true from decide_eq_true rfl]
    refine iteT ?_
    refine ⟨_, rfl, b, _, 1, .int i0, rfl, rfl, SqL.of upd_same, rfl, ?_⟩
    refine ⟨_, rfl, b, _, 0, .ref c.C, rfl, rfl, SqL.of upd_same, rfl, ?_⟩
    refine ⟨_, (cs.map V.int).length, rfl, .inl ⟨_, SqL.of (hl _), rfl⟩, ?_⟩
    refine ⟨_, _, rfl, rfl, _, rfl, ?_⟩
    by_cases hlt : i0 < ((cs.map V.int).length : Nat)
    · rw [decide_eq_true hlt]
      refine iteT ?_
      obtain ⟨z, eat⟩ : ∃ z, atI (cs.map V.int) i0 = some (.int z) := by
        obtain ⟨kk, ek⟩ : ∃ kk : Nat, i0 = (kk : Int) := ⟨i0.toNat, by omega⟩
        subst ek
        have hin : kk < cs.length := by rw [List.length_map] at hlt; omega
        exact ⟨cs[kk], atI_nat (by rw [List.getElem?_map]; simp [hin])⟩
      refine ⟨_, rfl, b, _, 0, .ref c.C, rfl, rfl, SqL.of upd_same, rfl, ?_⟩
      refine ⟨_, rfl, b, _, 1, .int i0, rfl, rfl, SqL.of upd_same, rfl, ?_⟩
      refine ⟨c.C, _, i0, .int z, rfl, rfl, SqL.of (hl _), eat, ?_⟩
      refine ⟨_, rfl, b, _, 1, .int i0, rfl, rfl, SqL.of upd_same, rfl, i0, 1, rfl, rfl, ?_⟩
      refine ⟨_, rfl, b, _, 1, 1, rfl, rfl, upd_same, rfl, ?_⟩
      rw [upd_upd]
      refine ⟨_, rfl, 10, 18, rfl, rfl, ⟨by decide, by decide, by decide⟩, ?_⟩
      refine ⟨z, _, rfl, rfl, _, rfl, ?_⟩
      by_cases hz : (10 : Int) ^ (18 : Int).toNat ≤ z
      · rw [decide_eq_true hz]
        refine iteT ?_
        refine ⟨_, rfl, _, rfl, b, _, 2, 2, rfl, rfl, upd_same, rfl, ?_⟩
        rw [upd_upd]
        have zp : 0 ≤ z := by
          have : (0 : Int) ≤ (10 : Int) ^ (18 : Int).toNat := by decide
          omega
        refine ⟨_, rfl, b, _, 3, .int st0, rfl, rfl, SqL.of upd_same, rfl, ?_⟩
        refine ⟨st0, 39989, rfl, rfl, .inr ⟨by decide, by decide⟩, ?_⟩
        refine ⟨_, rfl, .inl ⟨z, rfl, ?_⟩⟩
        refine ⟨z, 2147483489, rfl, rfl, by show (0 : Int) < 2147483489; decide, ?_⟩
        refine ⟨_, 40787, rfl, rfl, .inr ⟨by decide, by decide⟩, ?_⟩
        refine ⟨_, _, rfl, rfl, ?_⟩
        refine ⟨_, _, rfl, rfl, .inl ⟨_, rfl, ?_⟩⟩
        refine ⟨_, _, rfl, rfl, by show (0 : Int) < 2147483549; decide, ?_⟩
        refine ⟨_, rfl, b, _, 3, 3, rfl, rfl, upd_same, rfl, ?_⟩
        rw [upd_upd]
        exact h2 _ (i0 + 1) z _ (cnt0 + 1) (by omega) zp (Int.emod_nonneg _ (by decide)) (Int.emod_lt_of_pos _ (by decide))
      · rw [decide_eq_false hz]
        refine iteF ?_
        refine ⟨_, rfl, b, _, 3, .int st0, rfl, rfl, SqL.of upd_same, rfl, ?_⟩
        refine ⟨st0, 39989, rfl, rfl, .inr ⟨by decide, by decide⟩, ?_⟩
        refine ⟨_, rfl, .inl ⟨z, rfl, ?_⟩⟩
        refine ⟨z, 2147483489, rfl, rfl, by show (0 : Int) < 2147483489; decide, ?_⟩
        refine ⟨_, 40787, rfl, rfl, .inr ⟨by decide, by decide⟩, ?_⟩
        refine ⟨_, _, rfl, rfl, ?_⟩
        refine ⟨_, _, rfl, rfl, .inl ⟨_, rfl, ?_⟩⟩
        refine ⟨_, _, rfl, rfl, by show (0 : Int) < 2147483549; decide, ?_⟩
        refine ⟨_, rfl, b, _, 3, 3, rfl, rfl, upd_same, rfl, ?_⟩
        rw [upd_upd]
        exact h2 _ (i0 + 1) 0 _ (cnt0 + 1) (by omega) (by decide) (Int.emod_nonneg _ (by decide)) (Int.emod_lt_of_pos _ (by decide))
    · rw [decide_eq_false hlt]
      refine iteF ?_
      exact h2 none i0 0 st0 (cnt0 + 1) i0n (by decide) st0n st0l
  · rw [show decide (V.int g0 = V.int 0) = false from decide_eq_false (fun z => hg0 (V.int.inj z))]
    refine iteF (iteF ?_)
    exact h2 none i0 g0 st0 (cnt0 + 1) i0n g0n st0n st0l
theorem log_lt {n : Int} {k : Nat} (h : n.natAbs < 2 ^ k) (hk : k ≤ 9000) (k0 : 0 < k) : n.natAbs.log2 < 9000 := by
  by_cases z : n.natAbs = 0
  · rw [z]; decide
  · exact Nat.lt_of_lt_of_le ((Nat.log2_lt z).mpr h) hk
def b__law_pull (Dx : Df K mg "_law_pull" s__law_pull) : Binds K Dx.fd ["_law_bag_here", "_law_many"] [] := Dx.F.bindsN fun _ _ _ _ _ _ us hl => match us, hl with | [_, _], _ => rfl
def F__law_pick : Spec
  | [.bag, .lst rows], R, _ => 0 < rows.length ∧ rows.length ≤ 100000 ∧ ∀ d ∈ rows, R d
  | _, _, _ => False
theorem F__law_pick_is {rows : List D} {R : D → Prop} {Rx : Er → Prop} : F__law_pick [.bag, .lst rows] R Rx = (0 < rows.length ∧ rows.length ≤ 100000 ∧ ∀ d ∈ rows, R d) := rfl
theorem F__law_pick_of {ds : List D} {R : D → Prop} {Rx : Er → Prop} (h : F__law_pick ds R Rx) : ∃ rows, ds = [.bag, .lst rows] ∧ 0 < rows.length ∧ rows.length ≤ 100000 ∧ ∀ d ∈ rows, R d := by
  unfold F__law_pick at h
  split at h
  · exact ⟨_, rfl, h⟩
  · exact h.elim
def n__law_pick : List Str := ["_law_bag_here", "_law_rows"]
theorem sc__law_pick : FnScope n__law_pick ["_law_bag_here", "_law_rows"] (defScope s__law_pick) := ⟨rfl, rfl, rfl, by decide +kernel, rfl, by decide +kernel, by decide +kernel⟩
theorem ok__law_pick (D__law_pick : Df K mg "_law_pick" s__law_pick) (D__law_pull : Df K mg "_law_pull" s__law_pull) (m_int : mg "int" = none) (m_len : mg "len" = none) : FnOk P w K mg base (L2.CX P w) 2 D__law_pick.f D__law_pick.fd ["_law_bag_here", "_law_rows"] (spD F__law_pick) := by
  have G__law_pull := ok__law_pull (P := P) (w := w) (base := base) D__law_pull m_int m_len
  refine fn_d D__law_pick.F sc__law_pick (fun ds R Rx h => ?_) (fun cdv A outer s H E hr =>
    (ds_one (s_ret (d_ix (d_var 1) (d_call G__law_pull (hr.mono (by decide)) D__law_pull.g D__law_pull.F.kp (b__law_pull D__law_pull) .nil dfR_nil pass_d (da_cons (d_var 0) (da_cons (d_callB b_len m_len boot_len (da_cons (d_var 1) da_nil)) da_nil))))))) fun ds R Rx h => ?_
  · obtain ⟨rows, rfl, _⟩ := F__law_pick_of h
    rfl
  · obtain ⟨rows, rfl, h0, h1, h⟩ := F__law_pick_of h
    walk_at "dl"
    simp only [n__law_pick, F__law_pull_is]
    walk_at "dl"
    refine ⟨by omega, log_lt (k := 20) (by omega) (by decide) (by decide), fun r hr0 hr1 => ?_⟩
    obtain ⟨j, rfl⟩ : ∃ j : Nat, r = (j : Int) := ⟨r.toNat, by omega⟩
    have hj : j < rows.length := by omega
    exact ⟨rows[j], atI_nat (by simp [hj]), h _ (List.getElem_mem hj)⟩
def b__law_pick (Dx : Df K mg "_law_pick" s__law_pick) : Binds K Dx.fd ["_law_bag_here", "_law_rows"] [] := Dx.F.bindsN fun _ _ _ _ _ _ us hl => match us, hl with | [_, _], _ => rfl
def F__law_number : Spec
  | [.bag], R, _ => ∀ n : Int, -(10 ^ 18) < n → n < 10 ^ 18 → R (.int n)
  | _, _, _ => False
theorem F__law_number_is {R : D → Prop} {Rx : Er → Prop} : F__law_number [.bag] R Rx = ∀ n : Int, -(10 ^ 18) < n → n < 10 ^ 18 → R (.int n) := rfl
theorem F__law_number_of {ds : List D} {R : D → Prop} {Rx : Er → Prop} (h : F__law_number ds R Rx) : ds = [.bag] ∧ ∀ n : Int, -(10 ^ 18) < n → n < 10 ^ 18 → R (.int n) := by
  unfold F__law_number at h
  split at h
  · exact ⟨rfl, h⟩
  · exact h.elim
def b__law_number (Dx : Df K mg "_law_number" s__law_number) : Binds K Dx.fd ["_law_bag_here"] [] := Dx.F.bindsN fun _ _ _ _ _ _ us hl => match us, hl with | [_], _ => rfl
def n__law_number : List Str := ["_law_bag_here"]
theorem sc__law_number : FnScope n__law_number ["_law_bag_here"] (defScope s__law_number) := ⟨rfl, rfl, rfl, by decide +kernel, rfl, by decide +kernel, by decide +kernel⟩
theorem log9 : (9 : Int).natAbs.log2 < 9000 := log_lt (k := 20) (by decide) (by decide) (by decide)
theorem ok__law_number (D__law_number : Df K mg "_law_number" s__law_number) (D__law_pick : Df K mg "_law_pick" s__law_pick) (D__law_pull : Df K mg "_law_pull" s__law_pull) (m_int : mg "int" = none) (m_len : mg "len" = none) : FnOk P w K mg base (L2.CX P w) 3 D__law_number.f D__law_number.fd ["_law_bag_here"] (spD F__law_number) := by
  have G__law_pull := ok__law_pull (P := P) (w := w) (base := base) D__law_pull m_int m_len
  have G__law_pick := ok__law_pick (P := P) (w := w) (base := base) D__law_pick D__law_pull m_int m_len
  refine fn_d D__law_number.F sc__law_number (fun ds R Rx h => ?_) (fun cdv A outer s H E hr =>
    (ds_one (s_ret (d_call G__law_pick (hr.mono (by decide)) D__law_pick.g D__law_pick.F.kp (b__law_pick D__law_pick) .nil dfR_nil pass_d (da_cons (d_var 0) (da_cons (d_ofF (f_lst (da_cons (d_call G__law_pull (hr.mono (by decide)) D__law_pull.g D__law_pull.F.kp (b__law_pull D__law_pull) .nil dfR_nil pass_d (da_cons (d_var 0) (da_cons d_int da_nil))) (da_cons (d_sub d_int (d_call G__law_pull (hr.mono (by decide)) D__law_pull.g D__law_pull.F.kp (b__law_pull D__law_pull) .nil dfR_nil pass_d (da_cons (d_var 0) (da_cons d_int da_nil)))) (da_cons (d_call G__law_pull (hr.mono (by decide)) D__law_pull.g D__law_pull.F.kp (b__law_pull D__law_pull) .nil dfR_nil pass_d (da_cons (d_var 0) (da_cons (d_pow d_int d_int) da_nil))) (da_cons (d_sub d_int (d_call G__law_pull (hr.mono (by decide)) D__law_pull.g D__law_pull.F.kp (b__law_pull D__law_pull) .nil dfR_nil pass_d (da_cons (d_var 0) (da_cons (d_pow d_int d_int) da_nil)))) da_nil)))))) da_nil)))))) fun ds R Rx h => ?_
  · obtain ⟨rfl, _⟩ := F__law_number_of h
    rfl
  · obtain ⟨rfl, hR⟩ := F__law_number_of h
    clear h
    simp only [n__law_number]
    walk_at "dl"
    simp only [F__law_pull_is, F__law_pick_is]
    have l18 : ((10 : Int) ^ (18 : Int).toNat) = 1000000000000000000 := by decide
    simp only [l18]
    have l2 : (1000000000000000000 : Int).natAbs.log2 < 9000 := log_lt (k := 100) (by decide) (by decide) (by decide)
    refine ⟨by decide, log9, fun r1 h1 h2 => ⟨by decide, log9, fun r2 h3 h4 => ?_⟩⟩
    refine ⟨⟨by decide, by decide, by decide⟩, by decide, l2, fun r3 h5 h6 => ⟨⟨by decide, by decide, by decide⟩, by decide, l2, fun r4 h7 h8 => ?_⟩⟩
    refine ⟨by show 0 < 4; decide, by show 4 ≤ 100000; decide, fun d hd => ?_⟩
    simp only [List.mem_cons, List.not_mem_nil, or_false] at hd
    rcases hd with rfl | rfl | rfl | rfl <;> exact hR _ (by omega) (by omega)
theorem fn_false {x : Str} {st : Stmt} {F : Spec} {ps : List Str} (D0 : Df K mg x st) (h : ∀ ds R Rx, ¬ F ds R Rx) : FnOk P w K mg base (L2.CX P w) 0 D0.f D0.fd ps (spD F) :=
  ⟨fun vs H Q E ⟨_, _, ds, R, Rx, _, _, _, _, z, _⟩ => (h ds R Rx z).elim, fun A outer s H args us vs Q E _ _ _ _ ⟨_, _, ds, R, Rx, _, _, _, _, z, _⟩ => (h ds R Rx z).elim⟩
def F__law_same (n : Nat) : Spec
  | [x, y], R, _ => x = y ∧ Good n x ∧ R (.bl true)
  | _, _, _ => False
theorem F__law_same_is {n : Nat} {x y : D} {R : D → Prop} {Rx : Er → Prop} : F__law_same n [x, y] R Rx = (x = y ∧ Good n x ∧ R (.bl true)) := rfl
theorem F__law_same_of {n : Nat} {ds : List D} {R : D → Prop} {Rx : Er → Prop} (h : F__law_same n ds R Rx) : ∃ x, ds = [x, x] ∧ Good n x ∧ R (.bl true) := by
  unfold F__law_same at h
  split at h
  · obtain ⟨rfl, h⟩ := h
    exact ⟨_, rfl, h⟩
  · exact h.elim
theorem pairs_self {xs : List D} {i : Nat} {d : D} (h : (pairs xs xs)[i]? = some d) : ∃ x, x ∈ xs ∧ d = .tup [x, x] := by
  obtain ⟨a, b, e1, e2, e3⟩ := pairs_get _ _ _ _ h
  rw [e1] at e2
  cases e2
  exact ⟨a, List.mem_of_getElem? e1, e3⟩
theorem trues (xs : List D) : asBls (xs.map fun _ => D.bl true) = some (xs.map fun _ => true) := by
  have := asBls_map (xs.map fun _ => true)
  rw [List.map_map] at this
  exact this
theorem trues_all (xs : List D) : (xs.map fun _ => true).all _root_.id = true := by
  induction xs with
  | nil => rfl
  | cons x xs ih => exact ih
def b__law_same (Dx : Df K mg "_law_same" s__law_same) : Binds K Dx.fd ["_law_found", "_law_due"] [] := Dx.F.bindsN fun _ _ _ _ _ _ us hl => match us, hl with | [_, _], _ => rfl
def n__law_same : List Str := ["_law_found", "_law_due", "_law_one_z", "_law_two"]
theorem sc__law_same : FnScope n__law_same ["_law_found", "_law_due"] (defScope s__law_same) := ⟨rfl, rfl, rfl, by decide +kernel, rfl, by decide +kernel, by decide +kernel⟩
structure TSame (mg : Str → Option Value) : Prop where
  m_isinstance : mg "isinstance" = none
  m_list : mg "list" = none
  m_tuple : mg "tuple" = none
  m_bool : mg "bool" = none
  m_int : mg "int" = none
  m_str : mg "str" = none
  m_len : mg "len" = none
  m_all : mg "all" = none
  m_zip : mg "zip" = none
theorem ok__law_same (T : TSame mg) (D__law_same : Df K mg "_law_same" s__law_same) : ∀ n : Nat, FnOk P w K mg base (L2.CX P w) n D__law_same.f D__law_same.fd ["_law_found", "_law_due"] (spD (F__law_same n))
  | 0 => fn_false D__law_same fun ds R Rx h => by
    obtain ⟨x, _, z, _⟩ := F__law_same_of h
    cases x <;> exact (show False from z).elim
  | n + 1 => by
    have G__law_same := ok__law_same T D__law_same n
    refine fn_d D__law_same.F sc__law_same (fun ds R Rx h => ?_) (fun cdv A outer s H E hr =>
      have hu := hr.units
      (ds_cons (s_if (dt_tru (d_callB b_isi T.m_isinstance PyProof.Rows.boot_isinstance (da_cons (d_var 1) (da_cons (d_tup (da_cons (d_bty T.m_list PyProof.Rows.boot_list) (da_cons (d_bty T.m_tuple PyProof.Rows.boot_tuple) da_nil))) da_nil)))) (ds_cons (s_if (dt_cmp (c_ne hu) (d_callB b_isi T.m_isinstance PyProof.Rows.boot_isinstance (da_cons (d_var 0) (da_cons (d_bty T.m_list PyProof.Rows.boot_list) da_nil))) (d_callB b_isi T.m_isinstance PyProof.Rows.boot_isinstance (da_cons (d_var 1) (da_cons (d_bty T.m_list PyProof.Rows.boot_list) da_nil))) (nomark _)) (ds_one (s_ret d_bl)) ds_nil)
          (ds_cons (s_if (dt_cmp (c_ne hu) (d_callB b_isi T.m_isinstance PyProof.Rows.boot_isinstance (da_cons (d_var 0) (da_cons (d_bty T.m_tuple PyProof.Rows.boot_tuple) da_nil))) (d_callB b_isi T.m_isinstance PyProof.Rows.boot_isinstance (da_cons (d_var 1) (da_cons (d_bty T.m_tuple PyProof.Rows.boot_tuple) da_nil))) (nomark _)) (ds_one (s_ret d_bl)) ds_nil)
          (ds_one (s_ret (d_and (d_cmp (c_eq hu) (d_callB b_len T.m_len boot_len (da_cons (d_var 0) da_nil)) (d_callB b_len T.m_len boot_len (da_cons (d_var 1) da_nil)) (nomark _)) (d_one (d_callB (b_all rfl) T.m_all PyProof.Rows.boot_all (da_cons (d_ofF (f_lc rfl sc__law_same.nd (i_zip (da_cons (d_var 0) (da_cons (d_var 1) da_nil)) T.m_zip) (blkOk_by (own := [("_law_one_z", 2), ("_law_two", 3)]) (N := n__law_same) (sc := defScope s__law_same) (by decide +kernel)) (by decide) (fun _ _ _ _ _ => (g_tup (n := 2) rfl (gs_cons (g_name (i := 2) sc__law_same.nd) (gs_cons (g_name (i := 3) sc__law_same.nd) gs_nil)))) (fun _ _ _ _ _ => dts_nil) (fun _ _ _ _ _ => (d_call G__law_same hr D__law_same.g D__law_same.F.kp (b__law_same D__law_same) .nil dfR_nil passL (da_cons (d_var 2) (da_cons (d_var 3) da_nil)))))) da_nil)))))))) ds_nil)
      (ds_cons (s_if (dw_pt (dw_or (dt_cmp c_is (d_var 1) d_non (nomark _)) (dw_or1 (dt_cmp c_is (d_var 0) d_non (nomark _))))) (ds_one (s_ret (d_and (d_cmp c_is (d_var 1) d_non (nomark _)) (d_one (d_cmp c_is (d_var 0) d_non (nomark _)))))) ds_nil)
      (ds_cons (s_if (dt_cmp (c_ne hu) (d_callB b_isi T.m_isinstance PyProof.Rows.boot_isinstance (da_cons (d_var 1) (da_cons (d_bty T.m_bool PyProof.Rows.boot_bool) da_nil))) (d_callB b_isi T.m_isinstance PyProof.Rows.boot_isinstance (da_cons (d_var 0) (da_cons (d_bty T.m_bool PyProof.Rows.boot_bool) da_nil))) (nomark _)) (ds_one (s_ret d_bl)) ds_nil)
      (ds_cons (s_if (dt_cmp (c_ne hu) (d_callB b_isi T.m_isinstance PyProof.Rows.boot_isinstance (da_cons (d_var 1) (da_cons (d_bty T.m_int PyProof.Rows.boot_int) da_nil))) (d_callB b_isi T.m_isinstance PyProof.Rows.boot_isinstance (da_cons (d_var 0) (da_cons (d_bty T.m_int PyProof.Rows.boot_int) da_nil))) (nomark _)) (ds_one (s_ret d_bl)) ds_nil)
      (ds_one (s_ret (d_and (d_cmp (c_eq hu) (d_callB b_isi T.m_isinstance PyProof.Rows.boot_isinstance (da_cons (d_var 1) (da_cons (d_bty T.m_str PyProof.Rows.boot_str) da_nil))) (d_callB b_isi T.m_isinstance PyProof.Rows.boot_isinstance (da_cons (d_var 0) (da_cons (d_bty T.m_str PyProof.Rows.boot_str) da_nil))) (nomark _)) (d_one (d_cmp (c_eq hu) (d_var 0) (d_var 1) (nomark _))))))))))) fun ds R Rx h => ?_
    · obtain ⟨x, rfl, _⟩ := F__law_same_of h
      rfl
    · obtain ⟨x, rfl, hg, hR⟩ := F__law_same_of h
      clear h
      obtain ⟨hd, hn⟩ := good_dat hg
      cases x <;> try exact (Bool.false_ne_true hd).elim
      all_goals
        simp only [n__law_same]
        walk_at "dl"
        try exact hR
      all_goals
        refine LcP.map (fun _ => .bl true) ?_ (fun i d N e hN => ?_) ?_
        · have := hg.1
          rw [pairs_length, sizeLine_eq]
          omega
        · obtain ⟨x, hx, rfl⟩ := pairs_self e
          walk_at "dl"
          exact ⟨rfl, hg.2 x hx, hN⟩
        · exact ⟨_, trues _, by rw [trues_all]; exact hR⟩
def bin : Nat → Nat → Nat
  | _, 0 => 1
  | 0, _ + 1 => 0
  | n + 1, k + 1 => bin n k + bin n (k + 1)
theorem bin_zero (n : Nat) : bin n 0 = 1 := by cases n <;> rfl
theorem bin_gt : ∀ (n k : Nat), n < k → bin n k = 0
  | n, 0, h => absurd h (by omega)
  | 0, k + 1, _ => rfl
  | n + 1, k + 1, h => by rw [bin, bin_gt n k (by omega), bin_gt n (k + 1) (by omega)]
theorem bin_self : ∀ n : Nat, bin n n = 1
  | 0 => rfl
  | n + 1 => by rw [bin, bin_self n, bin_gt n (n + 1) (by omega)]
/-- (k + 1) C(n, k + 1) = C(n, k) (n - k) -/
theorem bin_step : ∀ (n k : Nat), (k + 1) * bin n (k + 1) = bin n k * (n - k)
  | 0, 0 => rfl
  | 0, k + 1 => by simp [bin]
  | n + 1, 0 => by
    have h := bin_step n 0
    rw [bin_zero] at h
    have e : bin n 1 = n := by
      have h : (0 + 1) * bin n 1 = 1 * (n - 0) := h
      omega
    rw [bin_zero]
    show (0 + 1) * (bin n 0 + bin n 1) = 1 * (n + 1 - 0)
    rw [bin_zero, e]
    omega
  | n + 1, k + 1 => by
    have h1 := bin_step n k
    have h2 := bin_step n (k + 1)
    by_cases hk : k < n
    · obtain ⟨m, rfl⟩ : ∃ m, n = k + 1 + m := ⟨n - k - 1, by omega⟩
      rw [bin]
      have e1 : k + 1 + m - k = m + 1 := by omega
      have e2 : k + 1 + m - (k + 1) = m := by omega
      have e3 : k + 1 + m + 1 - (k + 1) = m + 1 := by omega
      rw [e1] at h1
      rw [e2] at h2
      rw [e3, Nat.mul_add, h2]
      show (k + 1 + 1) * bin (k + 1 + m) (k + 1) + bin (k + 1 + m) (k + 1) * m = (bin (k + 1 + m) k + bin (k + 1 + m) (k + 1)) * (m + 1)
      generalize bin (k + 1 + m) (k + 1) = b at h1
      rw [Nat.add_mul (bin (k + 1 + m) k), ← h1, Nat.mul_succ b m, Nat.succ_mul (k + 1) b]
      omega
    · by_cases hk2 : k = n
      · subst hk2
        rw [bin_gt (k + 1) (k + 1 + 1) (by omega)]
        have e : k + 1 - (k + 1) = 0 := by omega
        rw [e]
        simp
      · rw [bin_gt (n + 1) (k + 1 + 1) (by omega), bin_gt (n + 1) (k + 1) (by omega)]
        simp
theorem bin_le_pow : ∀ (n k : Nat), bin n k ≤ (n + 1) ^ k
  | n, 0 => by rw [bin_zero]; exact Nat.le_refl _
  | 0, k + 1 => by rw [bin]; exact Nat.zero_le _
  | n + 1, k + 1 => by
    rw [bin]
    have h1 := bin_le_pow n k
    have h2 := bin_le_pow n (k + 1)
    have h3 : (n + 1) ^ k ≤ (n + 1 + 1) ^ k := Nat.pow_le_pow_left (by omega) k
    rw [Nat.pow_succ] at h2 ⊢
    have h4 : (n + 1) ^ k * (n + 1) ≤ (n + 1 + 1) ^ k * (n + 1) := Nat.mul_le_mul_right _ h3
    rw [Nat.mul_succ]
    omega
/-- the quotient of a turn -/
theorem bin_div {n i : Nat} (h : i ≤ n) : (((bin n i : Nat) : Int) * ((n : Int) - (i : Int))).fdiv ((i : Int) + 1) = ((bin n (i + 1) : Nat) : Int) := by
  have e : ((n : Int) - (i : Int)) = ((n - i : Nat) : Int) := by omega
  rw [e, ← Int.natCast_mul, ← bin_step n i, Int.natCast_mul]
  rw [Int.fdiv_eq_ediv_of_nonneg _ (by omega)]
  have e2 : (((i + 1 : Nat) : Int)) = (i : Int) + 1 := by omega
  rw [e2]
  exact Int.mul_ediv_cancel_left _ (by omega)
theorem bin_bits {n i : Nat} (hn : n < 2 ^ 140) (hi : i ≤ 2000) : bin n i < 2 ^ 282001 := by
  have h1 := bin_le_pow n i
  have h2 : (n + 1) ^ i ≤ (2 ^ 141) ^ i := Nat.pow_le_pow_left (by omega) i
  have h3 : (2 ^ 141) ^ i = 2 ^ (141 * i) := (Nat.pow_mul 2 141 i).symm
  have h4 : 2 ^ (141 * i) ≤ 2 ^ 282000 := Nat.pow_le_pow_right (by decide) (by omega)
  have h5 : 2 ^ 282000 < 2 ^ 282001 := Nat.pow_lt_pow_right (by decide) (by decide)
  omega
def isNum : D → Int → Int → Bool
  | .int i, lo, hi => decide (lo ≤ i) && decide (i ≤ hi)
  | _, _, _ => false
def F_is_number : Spec
  | [x, .int lo, .int hi], R, _ => x.dat = true ∧ R (.bl (isNum x lo hi))
  | _, _, _ => False
theorem F_is_number_is {x : D} {lo hi : Int} {R : D → Prop} {Rx : Er → Prop} : F_is_number [x, .int lo, .int hi] R Rx = (x.dat = true ∧ R (.bl (isNum x lo hi))) := rfl
theorem F_is_number_of {ds : List D} {R : D → Prop} {Rx : Er → Prop} (h : F_is_number ds R Rx) : ∃ x lo hi, ds = [x, .int lo, .int hi] ∧ x.dat = true ∧ R (.bl (isNum x lo hi)) := by
  unfold F_is_number at h
  split at h
  · exact ⟨_, _, _, rfl, h⟩
  · exact h.elim
def b_is_number (Dx : Df K mg "is_number" s_is_number) : Binds K Dx.fd ["value", "least", "most"] [] := Dx.F.bindsN fun _ _ _ _ _ _ us hl => match us, hl with | [_, _, _], _ => rfl
def n_is_number : List Str := ["value", "least", "most"]
theorem sc_is_number : FnScope n_is_number ["value", "least", "most"] (defScope s_is_number) := ⟨rfl, rfl, rfl, by decide +kernel, rfl, by decide +kernel, by decide +kernel⟩
theorem ok_is_number (D_is_number : Df K mg "is_number" s_is_number) (m_isinstance : mg "isinstance" = none) (m_int : mg "int" = none) (m_bool : mg "bool" = none) : FnOk P w K mg base (L2.CX P w) 1 D_is_number.f D_is_number.fd ["value", "least", "most"] (spD F_is_number) := by
  refine fn_d D_is_number.F sc_is_number (fun ds R Rx h => ?_) (fun cdv A outer s H E hr =>
    (ds_one (s_ret (d_and (d_callB b_isi m_isinstance PyProof.Rows.boot_isinstance (da_cons (d_var 0) (da_cons (d_bty m_int PyProof.Rows.boot_int) da_nil))) (d_and (d_not (d_callB b_isi m_isinstance PyProof.Rows.boot_isinstance (da_cons (d_var 0) (da_cons (d_bty m_bool PyProof.Rows.boot_bool) da_nil)))) (d_one (d_chain c_le c_le (d_var 1) (d_var 0) (d_var 2)))))))) fun ds R Rx h => ?_
  · obtain ⟨x, lo, hi, rfl, _⟩ := F_is_number_of h
    rfl
  · obtain ⟨x, lo, hi, rfl, hd, hR⟩ := F_is_number_of h
    clear h
    simp only [n_is_number]
    cases x <;> try exact (Bool.false_ne_true hd).elim
    all_goals
      simp only [isNum] at hR
      walk_at "dl"
      try exact hR
    rename_i i
    refine ⟨fun z => ?_, fun z => ?_⟩
    · rw [decide_eq_true z, Bool.true_and] at hR
      exact hR
    · rw [decide_eq_false z, Bool.false_and] at hR
      exact hR
def chs (n k : Int) : Int := if n < k then 0 else ((bin n.toNat k.toNat : Nat) : Int)
theorem chs_nat (a b : Nat) : chs (a : Int) (b : Int) = ((bin a b : Nat) : Int) := by
  unfold chs
  split
  · rw [bin_gt a b (by omega)]
    rfl
  · rw [Int.toNat_natCast, Int.toNat_natCast]
def F_choose : Spec
  | [.int n, .int k], R, _ => 0 ≤ n ∧ n < 2 ^ 140 ∧ 0 ≤ k ∧ k ≤ 2000 ∧ R (.int (chs n k))
  | _, _, _ => False
theorem F_choose_is {n k : Int} {R : D → Prop} {Rx : Er → Prop} : F_choose [.int n, .int k] R Rx = (0 ≤ n ∧ n < 2 ^ 140 ∧ 0 ≤ k ∧ k ≤ 2000 ∧ R (.int (chs n k))) := rfl
theorem F_choose_of {ds : List D} {R : D → Prop} {Rx : Er → Prop} (h : F_choose ds R Rx) : ∃ n k, ds = [.int n, .int k] ∧ 0 ≤ n ∧ n < 2 ^ 140 ∧ 0 ≤ k ∧ k ≤ 2000 ∧ R (.int (chs n k)) := by
  unfold F_choose at h
  split at h
  · exact ⟨_, _, rfl, h⟩
  · exact h.elim
def b_choose (Dx : Df K mg "choose" s_choose) : Binds K Dx.fd ["n", "k"] [] := Dx.F.bindsN fun _ _ _ _ _ _ us hl => match us, hl with | [_, _], _ => rfl
def n_choose : List Str := ["n", "k", "found", "at"]
theorem sc_choose : FnScope n_choose ["n", "k"] (defScope s_choose) := ⟨rfl, rfl, rfl, by decide +kernel, rfl, by decide +kernel, by decide +kernel⟩
theorem ok_choose (D_choose : Df K mg "choose" s_choose) (m_range : mg "range" = none) : FnOk P w K mg base (L2.CX P w) 1 D_choose.f D_choose.fd ["n", "k"] (spD F_choose) := by
  refine fn_d D_choose.F sc_choose (fun ds R Rx h => ?_) (fun cdv A outer s H E hr =>
    ds_cons (s_if (dt_cmp c_gt (d_var 1) (d_var 0) (nomark _)) (ds_one (s_ret d_int)) ds_nil)
    (ds_cons (s_set (i := 2) sc_choose.nd d_int)
    (ds_cons (s_for (passes_of rfl) rfl (i_rg1 (da_cons (d_var 1) da_nil) m_range) (g_name (i := 3) sc_choose.nd) (ds_one (s_set (i := 2) sc_choose.nd (d_fdiv (d_mul (d_var 2) (d_sub (d_var 0) (d_var 3))) (d_add (d_var 3) d_int)))))
    (ds_one (s_ret (d_var 2)))))) fun ds R Rx h => ?_
  · obtain ⟨n, k, rfl, _⟩ := F_choose_of h
    rfl
  · obtain ⟨n, k, rfl, n0, n1, k0, k1, hR⟩ := F_choose_of h
    clear h
    simp only [n_choose]
    walk_at "dl"
    unfold chs at hR
    refine ⟨fun z => ?_, fun z => ?_⟩
    · rw [if_pos z] at hR
      exact hR
    · rw [if_neg z] at hR
      obtain ⟨m, rfl⟩ : ∃ m : Nat, n = (m : Int) := ⟨n.toNat, by omega⟩
      obtain ⟨j, rfl⟩ : ∃ j : Nat, k = (j : Int) := ⟨k.toNat, by omega⟩
      rw [Int.toNat_natCast, Int.toNat_natCast] at hR
      have m1 : m < 2 ^ 140 := by omega
      refine ⟨by omega, by omega, fun i env => ∃ o, env = [some (.val (.int m)), some (.val (.int j)), some (.val (.int (bin m i : Nat))), o], ⟨none, by rw [bin_zero]; rfl⟩, ?_, ?_⟩
      · rintro i d env e ⟨o, rfl⟩
        rw [ups_get] at e
        split at e <;> cases e
        rename_i hi
        rw [Int.toNat_natCast] at hi
        walk_at "dl"
        refine ⟨.inr (wide_mul (a := 282001) (b := 141) ?_ ?_ (by decide) (by decide) (by decide)), .inl ⟨by omega, by omega⟩, ?_⟩
        · rw [Int.natAbs_natCast]
          exact bin_bits m1 (by omega)
        · omega
        · rw [Int.zero_add, bin_div (by omega)]
      · rintro env ⟨o, rfl⟩
        rw [ups_length, Int.toNat_natCast]
        walk_at "dl"
        exact hR
def spLaw (K : PySem.W.Frag) : Sp := fun vs H Q _ => ∃ (a : Addr) (ns : List Int), vs = [.ref a] ∧ SqL K H a (ns.map V.int) ∧ ns.length ≤ 63 ∧ (∀ p ∈ TbC.ts, H p.1 = some (.tbl #[])) ∧ ∀ H', Q (.bl true) H'
def b__law_bag (Dx : Df K mg "_law_bag" s__law_bag) : Binds K Dx.fd ["_law_script"] [] := Dx.F.bindsN fun _ _ _ _ _ _ us hl => match us, hl with | [_], _ => rfl
def lawEn (a : Addr) (n : Nat) : En := some (.val (.adr a)) :: some (.val .bag) :: List.replicate n none
theorem law_d {T : DTS} {N : List Str} {n k : Nat} {rest : List Stmt} {p1 p2 p3 p4 : Pos} {ps : Pos} (D_law : Df K mg "law" s_law) (S : FnScope N ["_law_script"] (defScope s_law)) (hN : N[1]? = some ("_law_bag_here" : Str)) (hN0 : N[0]? = some ("_law_script" : Str)) (hn : N.length = n + 2) (D__law_bag : Df K mg "_law_bag" s__law_bag) (m_int : mg "int" = none)
    (hb : defBody s_law = .Assign [.Name "_law_bag_here" p1] (.Call (.Name "_law_bag" p2) [.Name "_law_script" p3] [] p4) ps :: rest)
    (hx : Loc (defScope s_law) "_law_bag_here") (hg : (defScope s_law).names.lookup ("_law_bag" : Str) = some .globalImplicit) (hv : Vis (defScope s_law) "_law_script")
    (hbody : ∀ (cdv : Value) (A : Around) (outer : List Env) (s : Shared) (H : Hp) (E : XK), Room (k + 1) (A.deeper (PyProof.Rows.envOfC "law" (defScope s_law) s.heap.objs.size D_law.f cdv)) → DSs (cxOf (L2.CX P w) P w K mg base N "law" (defScope s_law) D_law.f cdv A outer s H E) E rest T)
    (hT : ∀ a, T { nx := fun _ => False, rt := fun _ d => d = .bl true, ex := noX } (lawEn a n)) : FnOk P w K mg base (L2.CX P w) (k + 2) D_law.f D_law.fd ["_law_script"] (spLaw K) := by
  have G := ok__law_bag (P := P) (w := w) (base := base) D__law_bag m_int
  refine FunD.ok D_law.F S (fun vs H Q E ⟨a, ns, z, _⟩ => by rw [z]; rfl) fun cdv A outer s H vs Q E hr h => ?_
  obtain ⟨a, ns, rfl, hS, hlen, hTb, q⟩ := h
  obtain ⟨t, p, sm⟩ := hbody cdv A outer s H E hr
  have hf : (cxOf (L2.CX P w) P w K mg base N "law" (defScope s_law) D_law.f cdv A outer s H E).fn ("_law_bag_here" : Str) = true := rfl
  rw [hb]
  refine ⟨_, pss_cons (ps_set (i := 1) S.nd hN hx (pe_call G (hr.mono (by omega)) hg D__law_bag.g D__law_bag.F.kp (b__law_bag D__law_bag) .nil passL (pa_cons (pe_var (i := 0) hN0 hv) pa_nil)) rfl (.inl hf)) p, ?_⟩
  have e0 : (L2.start N [.ref a])[0]? = some (some (V.ref a)) := rfl
  refine ⟨_, e0, a, ns, rfl, hS, hlen, fun b ca H' st nb same eb eca h0 h1 => ?_⟩
  -- from here on only the cells are known to stay
  refine sm ⟨some b, ca, H', fun x => if x = ca then some (.lst (ns.map V.int)) else none⟩ _ H' (fun x => if x = ca then some (.lst (ns.map V.int)) else none) (lawEn a n) { nx := fun _ => False, rt := fun _ d => d = .bl true, ex := noX } xok0 ?_ (hT a) _
    ⟨fun _ _ _ _ _ _ z => z.elim, fun n v H1 S1 d k1 s1 r1 z => ?_, fun _ _ _ _ _ _ z => z.elim, fun _ _ _ _ _ _ z => z.elim⟩
  · refine ⟨⟨fun x o e => ?_, Same.refl _, fun _ _ e _ => e, fun x e _ => e, fun b' e => ?_, ⟨fun p hp => ⟨LamX.TabS.nil (same _ _ (hTb p hp)), if_neg fun z => by
      have e := same _ _ (hTb p hp)
      rw [z, eca] at e
      cases e⟩, fun p hp => by
      show H' p.1 ≠ none
      rw [same _ _ (hTb p hp)]
      exact fun z => nomatch z⟩⟩, ?_, fun i x e => ?_, fun i j x1 x2 v1 v2 a2 _ e _ _ _ f _ => ?_⟩
    · by_cases z : x = ca
      · subst z
        have e2 : some (HO.lst (ns.map V.int)) = some o := by rw [← e]; exact (if_pos rfl).symm
        rw [eca]
        exact e2
      · have e2 : (none : Option HO) = some o := by rw [← e]; exact (if_neg z).symm
        cases e2
    · cases e
      refine ⟨⟨if_neg nb, ns, 0, 0, st, 0, eb, if_pos rfl, by decide, by decide, h0, h1⟩, ?_⟩
      show H' b ≠ none
      rw [eb]
      exact fun z => nomatch z
    · unfold lawEn L2.start
      simp [hn]
    · match i, e with
      | 0, e =>
        cases e
        refine ⟨.ref a, ?_, rfl⟩
        rw [List.getElem?_set_ne (by decide)]
        exact e0
      | 1, e =>
        cases e
        refine ⟨.ref b, ?_, b, rfl, rfl⟩
        rw [List.getElem?_set_self (by unfold L2.start; simp [hn])]
      | i + 2, e =>
        have e : (List.replicate n (none : Option DV))[i]? = some (some x) := e
        rw [List.getElem?_replicate] at e
        split at e <;> cases e
    · match i, e with
      | 0, e => cases e; exact f
      | 1, e => cases e; exact f
      | i + 2, e =>
        have e : (List.replicate n (none : Option DV))[i]? = some (some x1) := e
        rw [List.getElem?_replicate] at e
        split at e <;> cases e
  · have z : d = .bl true := z
    subst z
    obtain ⟨_, _, _, r2⟩ := r1.old k1
    rw [show v = .bl true from r2]
    exact q H1
structure Tx (mg : Str → Option Value) : Prop where
  m_isinstance : mg "isinstance" = none
  m_int : mg "int" = none
  m_bool : mg "bool" = none
  m_str : mg "str" = none
  m_list : mg "list" = none
  m_tuple : mg "tuple" = none
  m_len : mg "len" = none
  m_range : mg "range" = none
  m_zip : mg "zip" = none
  m_enumerate : mg "enumerate" = none
  m_sum : mg "sum" = none
  m_min : mg "min" = none
  m_all : mg "all" = none
  m_any : mg "any" = none
  m_abs : mg "abs" = none
  m_super : mg "super" = none
  c_MOST_TURNS : ∃ t, mg "MOST_TURNS" = some (.int 2000 t)
  c_MOST_PLACES : ∃ t, mg "MOST_PLACES" = some (.int 200 t)
  c_DIGITS : ∃ t, mg "DIGITS" = some (.str "0123" t)
def xf_InvalidHands : FL := [("code", .str "InvalidHands"), ("given", .par 0)]
def n_InvalidHands___init__ : List Str := ["self", "given"]
theorem sc_InvalidHands___init__ : EXS.SScope n_InvalidHands___init__ ["self", "given"] (defScope s_InvalidHands___init__) := ⟨rfl, rfl, rfl, by decide +kernel, rfl, by decide +kernel, by decide +kernel, by decide +kernel, rfl, rfl⟩
theorem ok_InvalidHands___init__ (D : Xe K mg P.main.file "InvalidHands" s_InvalidHands___init__) (hsup : mg "super" = none) (htop : (P.main.scope.names.lookup ("super" : Str)).isSome = false) : FnOk P w K mg base (L2.CX P w) 1 D.f D.fd ["self", "given"] (spX D.C 1 xf_InvalidHands) :=
  fn_x (ar := (defArgs s_InvalidHands___init__).args.getD 0 default) D.F D.e.excD sc_InvalidHands___init__ hsup htop rfl rfl rfl rfl rfl (fun r hr => D.e.na _ (by revert hr; revert r; decide)) (by decide) (by decide) (hcl := fun env => rfl) (fun A outer s H E => (pss_cons (ps_ost (pv 0) pe_str) (pss_cons (ps_ost (pv 0) (pv 1)) pss_nil)))
theorem b_InvalidHands___init__ (D : Xe K mg P.main.file "InvalidHands" s_InvalidHands___init__) : Binds K D.fd ["self", "given"] [] := D.binds fun _ _ _ _ _ _ _ us hl => match us, hl with | [_, _], _ => rfl
theorem w_fk_InvalidHands : fsK xf_InvalidHands = (["given", "code"] : List Str) := rfl
theorem w_fd_InvalidHands {a0 : D} : fsD xf_InvalidHands [a0] = [a0, D.str "InvalidHands"] := rfl
def xf_InvalidTurn : FL := [("code", .str "InvalidTurn"), ("at", .par 0)]
def n_InvalidTurn___init__ : List Str := ["self", "at"]
theorem sc_InvalidTurn___init__ : EXS.SScope n_InvalidTurn___init__ ["self", "at"] (defScope s_InvalidTurn___init__) := ⟨rfl, rfl, rfl, by decide +kernel, rfl, by decide +kernel, by decide +kernel, by decide +kernel, rfl, rfl⟩
theorem ok_InvalidTurn___init__ (D : Xe K mg P.main.file "InvalidTurn" s_InvalidTurn___init__) (hsup : mg "super" = none) (htop : (P.main.scope.names.lookup ("super" : Str)).isSome = false) : FnOk P w K mg base (L2.CX P w) 1 D.f D.fd ["self", "at"] (spX D.C 1 xf_InvalidTurn) :=
  fn_x (ar := (defArgs s_InvalidTurn___init__).args.getD 0 default) D.F D.e.excD sc_InvalidTurn___init__ hsup htop rfl rfl rfl rfl rfl (fun r hr => D.e.na _ (by revert hr; revert r; decide)) (by decide) (by decide) (hcl := fun env => rfl) (fun A outer s H E => (pss_cons (ps_ost (pv 0) pe_str) (pss_cons (ps_ost (pv 0) (pv 1)) pss_nil)))
theorem b_InvalidTurn___init__ (D : Xe K mg P.main.file "InvalidTurn" s_InvalidTurn___init__) : Binds K D.fd ["self", "at"] [] := D.binds fun _ _ _ _ _ _ _ us hl => match us, hl with | [_, _], _ => rfl
theorem w_fk_InvalidTurn : fsK xf_InvalidTurn = (["at", "code"] : List Str) := rfl
theorem w_fd_InvalidTurn {a0 : D} : fsD xf_InvalidTurn [a0] = [a0, D.str "InvalidTurn"] := rfl
def xf_InvalidHand : FL := [("code", .str "InvalidHand"), ("given", .par 0)]
def n_InvalidHand___init__ : List Str := ["self", "given"]
theorem sc_InvalidHand___init__ : EXS.SScope n_InvalidHand___init__ ["self", "given"] (defScope s_InvalidHand___init__) := ⟨rfl, rfl, rfl, by decide +kernel, rfl, by decide +kernel, by decide +kernel, by decide +kernel, rfl, rfl⟩
theorem ok_InvalidHand___init__ (D : Xe K mg P.main.file "InvalidHand" s_InvalidHand___init__) (hsup : mg "super" = none) (htop : (P.main.scope.names.lookup ("super" : Str)).isSome = false) : FnOk P w K mg base (L2.CX P w) 1 D.f D.fd ["self", "given"] (spX D.C 1 xf_InvalidHand) :=
  fn_x (ar := (defArgs s_InvalidHand___init__).args.getD 0 default) D.F D.e.excD sc_InvalidHand___init__ hsup htop rfl rfl rfl rfl rfl (fun r hr => D.e.na _ (by revert hr; revert r; decide)) (by decide) (by decide) (hcl := fun env => rfl) (fun A outer s H E => (pss_cons (ps_ost (pv 0) pe_str) (pss_cons (ps_ost (pv 0) (pv 1)) pss_nil)))
theorem b_InvalidHand___init__ (D : Xe K mg P.main.file "InvalidHand" s_InvalidHand___init__) : Binds K D.fd ["self", "given"] [] := D.binds fun _ _ _ _ _ _ _ us hl => match us, hl with | [_, _], _ => rfl
theorem w_fk_InvalidHand : fsK xf_InvalidHand = (["given", "code"] : List Str) := rfl
theorem w_fd_InvalidHand {a0 : D} : fsD xf_InvalidHand [a0] = [a0, D.str "InvalidHand"] := rfl
def xf_InvalidNumber : FL := [("code", .str "InvalidNumber"), ("given", .par 0)]
def n_InvalidNumber___init__ : List Str := ["self", "given"]
theorem sc_InvalidNumber___init__ : EXS.SScope n_InvalidNumber___init__ ["self", "given"] (defScope s_InvalidNumber___init__) := ⟨rfl, rfl, rfl, by decide +kernel, rfl, by decide +kernel, by decide +kernel, by decide +kernel, rfl, rfl⟩
theorem ok_InvalidNumber___init__ (D : Xe K mg P.main.file "InvalidNumber" s_InvalidNumber___init__) (hsup : mg "super" = none) (htop : (P.main.scope.names.lookup ("super" : Str)).isSome = false) : FnOk P w K mg base (L2.CX P w) 1 D.f D.fd ["self", "given"] (spX D.C 1 xf_InvalidNumber) :=
  fn_x (ar := (defArgs s_InvalidNumber___init__).args.getD 0 default) D.F D.e.excD sc_InvalidNumber___init__ hsup htop rfl rfl rfl rfl rfl (fun r hr => D.e.na _ (by revert hr; revert r; decide)) (by decide) (by decide) (hcl := fun env => rfl) (fun A outer s H E => (pss_cons (ps_ost (pv 0) pe_str) (pss_cons (ps_ost (pv 0) (pv 1)) pss_nil)))
theorem b_InvalidNumber___init__ (D : Xe K mg P.main.file "InvalidNumber" s_InvalidNumber___init__) : Binds K D.fd ["self", "given"] [] := D.binds fun _ _ _ _ _ _ _ us hl => match us, hl with | [_, _], _ => rfl
theorem w_fk_InvalidNumber : fsK xf_InvalidNumber = (["given", "code"] : List Str) := rfl
theorem w_fd_InvalidNumber {a0 : D} : fsD xf_InvalidNumber [a0] = [a0, D.str "InvalidNumber"] := rfl
def xf_InvalidWorths : FL := [("code", .str "InvalidWorths"), ("given", .par 0)]
def n_InvalidWorths___init__ : List Str := ["self", "given"]
theorem sc_InvalidWorths___init__ : EXS.SScope n_InvalidWorths___init__ ["self", "given"] (defScope s_InvalidWorths___init__) := ⟨rfl, rfl, rfl, by decide +kernel, rfl, by decide +kernel, by decide +kernel, by decide +kernel, rfl, rfl⟩
theorem ok_InvalidWorths___init__ (D : Xe K mg P.main.file "InvalidWorths" s_InvalidWorths___init__) (hsup : mg "super" = none) (htop : (P.main.scope.names.lookup ("super" : Str)).isSome = false) : FnOk P w K mg base (L2.CX P w) 1 D.f D.fd ["self", "given"] (spX D.C 1 xf_InvalidWorths) :=
  fn_x (ar := (defArgs s_InvalidWorths___init__).args.getD 0 default) D.F D.e.excD sc_InvalidWorths___init__ hsup htop rfl rfl rfl rfl rfl (fun r hr => D.e.na _ (by revert hr; revert r; decide)) (by decide) (by decide) (hcl := fun env => rfl) (fun A outer s H E => (pss_cons (ps_ost (pv 0) pe_str) (pss_cons (ps_ost (pv 0) (pv 1)) pss_nil)))
theorem b_InvalidWorths___init__ (D : Xe K mg P.main.file "InvalidWorths" s_InvalidWorths___init__) : Binds K D.fd ["self", "given"] [] := D.binds fun _ _ _ _ _ _ _ us hl => match us, hl with | [_, _], _ => rfl
theorem w_fk_InvalidWorths : fsK xf_InvalidWorths = (["given", "code"] : List Str) := rfl
theorem w_fd_InvalidWorths {a0 : D} : fsD xf_InvalidWorths [a0] = [a0, D.str "InvalidWorths"] := rfl
def xf_TooLong : FL := [("code", .str "TooLong"), ("most", .par 0)]
def n_TooLong___init__ : List Str := ["self", "most"]
theorem sc_TooLong___init__ : EXS.SScope n_TooLong___init__ ["self", "most"] (defScope s_TooLong___init__) := ⟨rfl, rfl, rfl, by decide +kernel, rfl, by decide +kernel, by decide +kernel, by decide +kernel, rfl, rfl⟩
theorem ok_TooLong___init__ (D : Xe K mg P.main.file "TooLong" s_TooLong___init__) (hsup : mg "super" = none) (htop : (P.main.scope.names.lookup ("super" : Str)).isSome = false) : FnOk P w K mg base (L2.CX P w) 1 D.f D.fd ["self", "most"] (spX D.C 1 xf_TooLong) :=
  fn_x (ar := (defArgs s_TooLong___init__).args.getD 0 default) D.F D.e.excD sc_TooLong___init__ hsup htop rfl rfl rfl rfl rfl (fun r hr => D.e.na _ (by revert hr; revert r; decide)) (by decide) (by decide) (hcl := fun env => rfl) (fun A outer s H E => (pss_cons (ps_ost (pv 0) pe_str) (pss_cons (ps_ost (pv 0) (pv 1)) pss_nil)))
theorem b_TooLong___init__ (D : Xe K mg P.main.file "TooLong" s_TooLong___init__) : Binds K D.fd ["self", "most"] [] := D.binds fun _ _ _ _ _ _ _ us hl => match us, hl with | [_, _], _ => rfl
theorem w_fk_TooLong : fsK xf_TooLong = (["most", "code"] : List Str) := rfl
theorem w_fd_TooLong {a0 : D} : fsD xf_TooLong [a0] = [a0, D.str "TooLong"] := rfl
structure Kx_Row (K : PySem.W.Frag) (mg : Str → Option Value) where
  C : Addr
  g : mg "Row" = some (.ref C)
  cls : Cls K C
  n_hands : NoAttr K C "hands"
  n_own_turns : NoAttr K C "own_turns"
  D___init__ : Dm K "__init__" "Row.__init__" s_Row___init__
  mkr : Mk K C D___init__.f
  D_turns : Dm K "turns" "Row.turns" s_Row_turns
  h_turns : Meth K C "turns" D_turns.f
  D_totals : Dm K "totals" "Row.totals" s_Row_totals
  h_totals : Meth K C "totals" D_totals.f
  D___len__ : Dm K "__len__" "Row.__len__" s_Row___len__
  o___len__ : Hx.Own K C "__len__" D___len__.f
  D_read : Dst K "read" "Row.read" s_Row_read [("hands", (V.int 2))]
  tp_read : Addr
  t_read : Hx.Stat K C "read" tp_read D_read.f
structure Kx_NeverWorse (K : PySem.W.Frag) (mg : Str → Option Value) (fl : Str) where
  C : Addr
  g : mg "NeverWorse" = some (.ref C)
  cls : Cls K C
  n_own_numbers : NoAttr K C "own_numbers"
  n_own_one : NoAttr K C "own_one"
  n_own_other : NoAttr K C "own_other"
  n_own_k : NoAttr K C "own_k"
  D___init__ : Dsup K fl "__init__" "NeverWorse.__init__" s_NeverWorse___init__ C
  D_sup___init__ : Dm K "__init__" "Compared.__init__" s_NeverWorse_sup___init__
  su___init__ : SupM K C C "__init__" D_sup___init__.f
  mkr : Mk K C D___init__.f
  D_numbers : Dm K "numbers" "NeverWorse.numbers" s_NeverWorse_numbers
  h_numbers : Meth K C "numbers" D_numbers.f
  D_holds : Dm K "holds" "NeverWorse.holds" s_NeverWorse_holds
  h_holds : Meth K C "holds" D_holds.f
  D_fits : Dm K "fits" "Compared.fits" s_NeverWorse_fits
  h_fits : Meth K C "fits" D_fits.f
  D_told : Dm K "told" "Paper.told" s_NeverWorse_told
  h_told : Meth K C "told" D_told.f
  D___bool__ : Dm K "__bool__" "Paper.__bool__" s_NeverWorse___bool__
  o___bool__ : Hx.Own K C "__bool__" D___bool__.f
  c_KIND : Hx.ConV K C "KIND" (.str "never worse")
  c_GOOD : Hx.ConV K C "GOOD" (.bl true)
structure Kx_Worse (K : PySem.W.Frag) (mg : Str → Option Value) (fl : Str) where
  C : Addr
  g : mg "Worse" = some (.ref C)
  cls : Cls K C
  n_own_worths : NoAttr K C "own_worths"
  n_own_one : NoAttr K C "own_one"
  n_own_other : NoAttr K C "own_other"
  n_own_k : NoAttr K C "own_k"
  D___init__ : Dsup K fl "__init__" "Worse.__init__" s_Worse___init__ C
  D_sup___init__ : Dm K "__init__" "Compared.__init__" s_Worse_sup___init__
  su___init__ : SupM K C C "__init__" D_sup___init__.f
  mkr : Mk K C D___init__.f
  D_worths : Dm K "worths" "Worse.worths" s_Worse_worths
  h_worths : Meth K C "worths" D_worths.f
  D_holds : Dm K "holds" "Worse.holds" s_Worse_holds
  h_holds : Meth K C "holds" D_holds.f
  D_fits : Dm K "fits" "Compared.fits" s_Worse_fits
  h_fits : Meth K C "fits" D_fits.f
  D_told : Dm K "told" "Paper.told" s_Worse_told
  h_told : Meth K C "told" D_told.f
  D___bool__ : Dm K "__bool__" "Paper.__bool__" s_Worse___bool__
  o___bool__ : Hx.Own K C "__bool__" D___bool__.f
  c_KIND : Hx.ConV K C "KIND" (.str "worse")
  c_GOOD : Hx.ConV K C "GOOD" (.bl false)
structure Kx_Gain (K : PySem.W.Frag) (mg : Str → Option Value) (fl : Str) where
  C : Addr
  g : mg "Gain" = some (.ref C)
  cls : Cls K C
  n_own_amount : NoAttr K C "own_amount"
  n_own_worths : NoAttr K C "own_worths"
  n_own_one : NoAttr K C "own_one"
  n_own_other : NoAttr K C "own_other"
  n_own_k : NoAttr K C "own_k"
  D___init__ : Dsup K fl "__init__" "Gain.__init__" s_Gain___init__ C
  D_sup___init__ : Dm K "__init__" "Compared.__init__" s_Gain_sup___init__
  su___init__ : SupM K C C "__init__" D_sup___init__.f
  mkr : Mk K C D___init__.f
  D_worths : Dm K "worths" "Gain.worths" s_Gain_worths
  h_worths : Meth K C "worths" D_worths.f
  D_holds : Dm K "holds" "Gain.holds" s_Gain_holds
  h_holds : Meth K C "holds" D_holds.f
  D_fits : Dm K "fits" "Compared.fits" s_Gain_fits
  h_fits : Meth K C "fits" D_fits.f
  D_amount : Dm K "amount" "Gain.amount" s_Gain_amount
  q_amount : Addr
  p_amount : PropOf K C "amount" q_amount D_amount.f
abbrev ksRow : List Str := ["hands", "own_turns"]
abbrev row (C : Addr) (h : Int) (ts : List Int) : D := .obj C ksRow [.int h, .lst (ts.map D.int)]
theorem fld_hands {x y : D} : fld ksRow [x, y] "hands" = some x := rfl
theorem fld_turns {x y : D} : fld ksRow [x, y] "own_turns" = some y := rfl
theorem fld_m_turns {x y : D} : fld ksRow [x, y] "turns" = none := rfl
theorem fld_m_turned {x y : D} : fld ksRow [x, y] "turned" = none := rfl
theorem fld_m_with_turns {x y : D} : fld ksRow [x, y] "with_turns" = none := rfl
theorem fld_m_need_like {x y : D} : fld ksRow [x, y] "need_like" = none := rfl
/-- a row as the law makes it -/
def RowOk (h : Int) (ts : List Int) : Prop := 2 ≤ h ∧ h ≤ 4 ∧ 0 < ts.length ∧ ts.length ≤ 2000 ∧ ∀ t ∈ ts, 0 ≤ t ∧ t < h
def eTLn (C : Addr) (n : Int) : Er := ⟨C, ["most", "code"], [.int n, .str "TooLong"]⟩
def eIN (C : Addr) (v : D) : Er := ⟨C, ["given", "code"], [v, .str "InvalidNumber"]⟩
def eIH (C : Addr) (v : D) : Er := ⟨C, ["given", "code"], [v, .str "InvalidHands"]⟩
def eHd (C : Addr) (v : D) : Er := ⟨C, ["given", "code"], [v, .str "InvalidHand"]⟩
def eIT (C : Addr) (i : Int) : Er := ⟨C, ["at", "code"], [.int i, .str "InvalidTurn"]⟩
def eIW (C : Addr) (v : D) : Er := ⟨C, ["given", "code"], [v, .str "InvalidWorths"]⟩
def dgN2 : Array Lean.Name := dgN1 ++ #[`ups_length, `exists_eq, `exists_eq', `Int.reduceToNat, `Int.reduceLE, `Int.reduceLT, `Int.reducePow, `Int.reduceNeg, `Int.reduceSub, `Int.reduceAdd, `Int.reduceMul, `List.length_range, `Option.map_some, `ne_eq, `not_true_eq_false, `not_false_eq_true, `goodL_ints, `asInts_map, `asInts_nil, `asInts_cons, `exists_and_left, `exists_and_right, `Int.zero_add, `Nat.reducePow, `w_at0, `w_at1, `w_at2, `w_at3, `w_at4, `w_at5, `w_natR, `w_fLenOw, `w_lc2, `w_asStrs, `w_asS, `w_join, `w_find, `w_m1, `w_fStrI, `w_zAugO, `w_thaw_nil, `w_thaw_cons, `w_thaw_own, `w_thaw_val, `w_thaw_none, `w_thaw_tre, `w_lendT, `w_lend, `w_lendN, `w_enumS, `w_zParN, `w_negR, `w_opOwnN, `w_par3, `w_pk, `w_pickE_nil, `w_pickE_cons, `w_xLam, `w_callZ, `w_asA_int, `w_asA_non, `w_asA_bl, `w_asA_str, `w_asA_lst, `w_asA_tup, `w_xOBa, `w_tx_len, `w_tx_size, `w_tx_cps, `w_tx_app, `w_tx_eq, `w_tx_beq, `w_tx_mul, `w_tx_signs, `w_tx_emp, `w_tx_one, `w_callM, `w_fFmtS, `w_fFmtI, `w_jfNil, `w_asTx, `w_jfCons, `w_xFmt, `w_xJoined, `w_blR, `w_fBoolOw, `w_stR, `w_fReprOw, `w_fBoolB, `w_fBoolI, `w_toRest, `w_xCon, `w_xAlt, `w_xEnumK, `w_fEnumK, `w_fAnyI, `w_fAnyIT, `w_xLenSetL, `w_fLenSetL, `w_xItAlt, `fIsiO_same, `w_xMakeK, `w_xAltT, `w_xTruOw, `w_valE_nil, `w_valE_val, `w_valE_own, `w_valE_tre, `w_valE_none, `w_consU, `w_putT_0, `w_putT_s, `w_setU, `w_at_nil, `w_at_lst, `w_at_tup, `w_setAt_nil, `w_setAt_l0, `w_tre_inj, `w_isTre_0, `w_isTre_s, `w_plN, `w_ixAt_0, `w_plI, `w_appL, `w_clrL, `w_stL, `w_trs_ds, `w_tr_d, `w_trs_length, `w_tr_int, `w_lendU, `w_lendF, `w_frzU, `w_retU, `w_retUe, `w_appF, `w_clrF, `w_clrO_0, `w_clrO, `w_setN, `w_nt_lst, `w_nt_int, `w_nt_non, `w_nt_bl, `w_nt_str, `w_ntL_nil, `w_ntL_cons, `w_ntL_ints, `w_xNT, `w_xDatU, `w_ofU, `w_parOO, `w_isNotB, `w_nos_tup, `w_nos_non, `w_nos_bl, `w_nos_int, `w_nos_str, `w_nos_obj, `w_nosL_nil, `w_nosL_cons, `w_xNos, `w_xFNos, `w_xNFol, `w_xTupC, `w_par2O, `w_fMin1, `flatL_ints, `F__law_pull_is, `F__law_pick_is, `F__law_number_is, `F__law_same_is, `F_is_number_is, `F_choose_is, `w_fk_InvalidHands, `w_fd_InvalidHands, `w_fk_InvalidTurn, `w_fd_InvalidTurn, `w_fk_InvalidHand, `w_fd_InvalidHand, `w_fk_InvalidNumber, `w_fd_InvalidNumber, `w_fk_InvalidWorths, `w_fd_InvalidWorths, `w_fk_TooLong, `w_fd_TooLong, `fld_hands, `fld_turns, `fld_m_turns, `fld_m_turned, `fld_m_with_turns, `fld_m_need_like]
local macro_rules | `(tactic| walk_at "dg") => do let xs ← dgN2.mapM fun n => `(Lean.Parser.Tactic.simpLemma| $(Lean.mkIdent n):term); `(tactic| simp only [$xs,*, List.getElem?_cons_zero, List.getElem?_cons_succ])
def F_check_hands (CH : Addr) : Spec
  | [v], R, Rx => v.dat = true ∧ (isNum v 2 4 = true → R .non) ∧ (isNum v 2 4 = false → Rx (eIH CH v))
  | _, _, _ => False
theorem F_check_hands_is {CH : Addr} {v : D} {R : D → Prop} {Rx : Er → Prop} : F_check_hands CH [v] R Rx = (v.dat = true ∧ (isNum v 2 4 = true → R .non) ∧ (isNum v 2 4 = false → Rx (eIH CH v))) := rfl
def b_check_hands (Dx : Df K mg "check_hands" s_check_hands) : Binds K Dx.fd ["hands"] [] := Dx.F.bindsN fun _ _ _ _ _ _ us hl => match us, hl with | [_], _ => rfl
def n_check_hands : List Str := ["hands"]
theorem sc_check_hands : FnScope n_check_hands ["hands"] (defScope s_check_hands) := ⟨rfl, rfl, rfl, by decide +kernel, rfl, by decide +kernel, by decide +kernel⟩
def dgN3 : Array Lean.Name := dgN2 ++ #[`F_check_hands_is]
local macro_rules | `(tactic| walk_at "dg") => do let xs ← dgN3.mapM fun n => `(Lean.Parser.Tactic.simpLemma| $(Lean.mkIdent n):term); `(tactic| simp only [$xs,*, List.getElem?_cons_zero, List.getElem?_cons_succ])
theorem ok_check_hands (T : Tx mg) (D_check_hands : Df K mg "check_hands" s_check_hands) (D_is_number : Df K mg "is_number" s_is_number) (X_InvalidHands : Xe K mg P.main.file "InvalidHands" s_InvalidHands___init__) (hsup : mg "super" = none) (htop : (P.main.scope.names.lookup ("super" : Str)).isSome = false) : FnOk P w K mg base (L2.CX P w) 3 D_check_hands.f D_check_hands.fd ["hands"] (spD (F_check_hands X_InvalidHands.C)) := by
  have GX_InvalidHands := ok_InvalidHands___init__ (P := P) (w := w) (base := base) X_InvalidHands hsup htop
  have G_is_number := ok_is_number (P := P) (w := w) (base := base) D_is_number T.m_isinstance T.m_int T.m_bool
  refine fn_d D_check_hands.F sc_check_hands (fun ds R Rx h => ?_) (fun cdv A outer s H E hr => (ds_one (s_if (dt_not (dt_tru (d_call G_is_number (hr.mono (by decide)) D_is_number.g D_is_number.F.kp (b_is_number D_is_number) .nil dfR_nil pass_d (da_cons (d_var 0) (da_cons d_int (da_cons d_int da_nil)))))) (ds_one (s_raise X_InvalidHands.e.ox X_InvalidHands.e.iC X_InvalidHands.e.tI (by decide) (by decide) GX_InvalidHands (hr.mono (by decide)) (b_InvalidHands___init__ X_InvalidHands) passL X_InvalidHands.g rfl (takes_of rfl rfl rfl rfl) (da_cons (d_var 0) da_nil))) ds_nil)) ) fun ds R Rx h => ?_
  · match ds, h with
    | [v], _ => rfl
  · match ds, h with
    | [v], hh =>
      obtain ⟨h1, h2, h3⟩ := hh
      simp only [n_check_hands]
      walk_at "dg"
      cases e : isNum v 2 4 with
      | true =>
        walk_at "dg"
        exact ⟨h1, h2 e⟩
      | false =>
        walk_at "dg"
        exact ⟨h1, h3 e⟩
/-- the first wrong place -/
def badAt (h : Int) : Nat → List D → Option Nat
  | _, [] => none
  | i, x :: xs => if 2000 ≤ i ∨ isNum x 0 (h - 1) = false then some i else badAt h (i + 1) xs
theorem isNum_of {x : D} {lo hi : Int} (h : isNum x lo hi = true) : ∃ n, x = .int n ∧ lo ≤ n ∧ n ≤ hi := by
  cases x <;> simp only [isNum, Bool.false_eq_true, Bool.and_eq_true, decide_eq_true_eq] at h
  exact ⟨_, rfl, h⟩
theorem badAt_none {h : Int} : ∀ {xs : List D} {i : Nat}, badAt h i xs = none → ∃ ts : List Int, xs = ts.map D.int ∧ (∀ t ∈ ts, 0 ≤ t ∧ t < h) ∧ (xs = [] ∨ i + xs.length ≤ 2000)
  | [], _, _ => ⟨[], rfl, (fun t ht => nomatch ht), .inl rfl⟩
  | x :: xs, i, e => by
    unfold badAt at e
    split at e
    · cases e
    · rename_i z
      obtain ⟨z1, z2⟩ := not_or.mp z
      obtain ⟨n, rfl, n1, n2⟩ := isNum_of (Bool.of_not_eq_false z2)
      obtain ⟨ts, rfl, ht, hl⟩ := badAt_none e
      refine ⟨n :: ts, rfl, fun t hm => ?_, .inr ?_⟩
      · rcases List.mem_cons.mp hm with rfl | hm
        · exact ⟨n1, by omega⟩
        · exact ht t hm
      · rw [List.length_cons]
        rcases hl with hl | hl
        · rw [hl]
          simp
          omega
        · omega
theorem badAt_good {h : Int} : ∀ {ts : List Int} {i : Nat}, (∀ t ∈ ts, 0 ≤ t ∧ t < h) → i + ts.length ≤ 2000 → badAt h i (ts.map D.int) = none
  | [], _, _, _ => rfl
  | t :: ts, i, ht, hl => by
    rw [List.length_cons] at hl
    show (if 2000 ≤ i ∨ isNum (.int t) 0 (h - 1) = false then some i else badAt h (i + 1) (ts.map D.int)) = none
    have h1 := ht t List.mem_cons_self
    rw [if_neg, badAt_good (fun u hu => ht u (List.mem_cons_of_mem _ hu)) (by omega)]
    simp only [isNum, Bool.and_eq_false_iff, decide_eq_false_iff_not, not_or, Classical.not_not]
    omega
theorem badAt_cons {h : Int} {y : D} {ys : List D} {i : Nat} (hb : 2000 ≤ i ∨ isNum y 0 (h - 1) = false) : badAt h i (y :: ys) = some i := if_pos hb
def initX (C CH CI : Addr) (hv : D) (xs : List D) (R : D → Prop) (Rx : Er → Prop) : Prop := hv.dat = true ∧ datL xs = true ∧ xs.length ≤ 1000000 ∧ (isNum hv 2 4 = false → Rx (eIH CH hv)) ∧ ∀ h, hv = .int h → 2 ≤ h → h ≤ 4 →
  (∀ i : Nat, badAt h 0 xs = some i → Rx (eIT CI i)) ∧ (badAt h 0 xs = none → (xs = [] → Rx (eIT CI 0)) ∧ ∀ ts, xs = ts.map D.int → RowOk h ts → R (row C h ts))
def F_Row___init__ (C CH CI : Addr) : Spec
  | [hv, .lst xs], R, Rx => initX C CH CI hv xs R Rx
  | _, _, _ => False
theorem F_Row___init___is {C CH CI : Addr} {hv : D} {xs : List D} {R : D → Prop} {Rx : Er → Prop} : F_Row___init__ C CH CI [hv, .lst xs] R Rx = initX C CH CI hv xs R Rx := rfl
theorem map_int_eq {xs ys : List Int} (h : xs.map D.int = ys.map D.int) : xs = ys := by
  have := congrArg asInts h
  rw [asInts_map, asInts_map] at this
  exact Option.some.inj this
theorem initX_good {C CH CI : Addr} {h : Int} {ts : List Int} {R : D → Prop} {Rx : Er → Prop} (ok : RowOk h ts) (hR : R (row C h ts)) : initX C CH CI (.int h) (ts.map D.int) R Rx := by
  obtain ⟨h2, h4, l0, l1, ht⟩ := ok
  refine ⟨rfl, datL_ints, by rw [List.length_map]; omega, fun z => ?_, fun k e _ _ => ?_⟩
  · simp only [isNum, Bool.and_eq_false_iff, decide_eq_false_iff_not] at z
    omega
  · cases e
    rw [badAt_good ht (by omega)]
    refine ⟨(fun i z => nomatch z), fun _ => ⟨fun z => ?_, fun us e _ => ?_⟩⟩
    · rw [List.map_eq_nil_iff] at z
      rw [z] at l0
      cases l0
    · rw [← map_int_eq e]
      exact hR
def b_Row___init__ (Dx : Dm K "__init__" "Row.__init__" s_Row___init__) : Binds K Dx.fd ["self", "hands", "turns"] [] := Dx.F.bindsN fun _ _ _ _ _ _ us hl => match us, hl with | [_, _, _], _ => rfl
def n_Row___init__ : List Str := ["self", "hands", "turns", "at", "hand"]
theorem sc_Row___init__ : FnScope n_Row___init__ ["self", "hands", "turns"] (defScope s_Row___init__) := ⟨rfl, rfl, rfl, by decide +kernel, rfl, by decide +kernel, by decide +kernel⟩
theorem datL_at {xs : List D} {i : Nat} {x : D} (h : datL xs = true) (e : xs[i]? = some x) : x.dat = true := by
  induction xs generalizing i with
  | nil => simp at e
  | cons y ys ih =>
    rw [datL_cons, Bool.and_eq_true] at h
    cases i with
    | zero => simp at e; rw [← e]; exact h.1
    | succ i => exact ih h.2 (by simpa using e)
theorem ok_Row___init__ (T : Tx mg) (K_Row : Kx_Row K mg) (D_check_hands : Df K mg "check_hands" s_check_hands) (D_is_number : Df K mg "is_number" s_is_number) (X_InvalidHands : Xe K mg P.main.file "InvalidHands" s_InvalidHands___init__) (X_InvalidTurn : Xe K mg P.main.file "InvalidTurn" s_InvalidTurn___init__) (hsup : mg "super" = none) (htop : (P.main.scope.names.lookup ("super" : Str)).isSome = false) :
    FnOk P w K mg base (L2.CX P w) 4 K_Row.D___init__.f K_Row.D___init__.fd ["self", "hands", "turns"] (spI K_Row.C (F_Row___init__ K_Row.C X_InvalidHands.C X_InvalidTurn.C)) := by
  have G_is_number := ok_is_number (P := P) (w := w) (base := base) D_is_number T.m_isinstance T.m_int T.m_bool
  have G_check_hands := ok_check_hands (P := P) (w := w) (base := base) T D_check_hands D_is_number X_InvalidHands hsup htop
  have GX_InvalidTurn := ok_InvalidTurn___init__ (P := P) (w := w) (base := base) X_InvalidTurn hsup htop
  refine fn_i K_Row.D___init__.F sc_Row___init__ (fun ds R Rx h => ?_) (fun p dx cdv A outer s H E hr => have hu := hr.units
    (is_st (s_expr (d_call G_check_hands (hr.mono (by decide)) D_check_hands.g D_check_hands.F.kp (b_check_hands D_check_hands) .nil dfR_nil pass_d (da_cons (d_var 1) da_nil)))
    (is_st (s_for (passes_of rfl) rfl (i_enum (da_cons (d_var 2) da_nil) T.m_enumerate) (g_tup (n := 2) rfl (gs_cons (g_name (i := 3) sc_Row___init__.nd) (gs_cons (g_name (i := 4) sc_Row___init__.nd) gs_nil)))
      (ds_one (s_if (dw_pt (dw_or (dt_cmp c_ge (d_var 3) (d_gint T.c_MOST_TURNS) (nomark _)) (dw_or1 (dt_not (dt_tru (d_call G_is_number (hr.mono (by decide)) D_is_number.g D_is_number.F.kp (b_is_number D_is_number) .nil dfR_nil pass_d (da_cons (d_var 4) (da_cons d_int (da_cons (d_sub (d_var 1) d_int) da_nil))))))))) (ds_one (s_raise X_InvalidTurn.e.ox X_InvalidTurn.e.iC X_InvalidTurn.e.tI (by decide) (by decide) GX_InvalidTurn (hr.mono (by decide)) (b_InvalidTurn___init__ X_InvalidTurn) passL X_InvalidTurn.g rfl (takes_of rfl rfl rfl rfl) (da_cons (d_var 3) da_nil))) ds_nil)))
    (is_st (s_if (dt_cmp (c_eq hu) (d_callB b_len T.m_len boot_len (da_cons (d_var 2) da_nil)) d_int (nomark _)) (ds_one (s_raise X_InvalidTurn.e.ox X_InvalidTurn.e.iC X_InvalidTurn.e.tI (by decide) (by decide) GX_InvalidTurn (hr.mono (by decide)) (b_InvalidTurn___init__ X_InvalidTurn) passL X_InvalidTurn.g rfl (takes_of rfl rfl rfl rfl) (da_cons d_int da_nil))) ds_nil)
    (is_set (d_var 1)
    (is_set (d_ofF (f_list (d_var 2) T.m_list))
    is_nil K_Row.cls K_Row.n_own_turns) K_Row.cls K_Row.n_hands)))) ) fun p ds R Rx h => ?_
  · match ds, h with
    | [hv, .lst xs], _ => rfl
  · match ds, h with
    | [hv, .lst xs], hh =>
      obtain ⟨d1, d2, hl, hH, hx⟩ := hh
      simp only [n_Row___init__, jSt, jSet, jNil]
      walk_at "dg"
      refine ⟨d1, fun z => ?_, fun z => hH z⟩
      obtain ⟨k, rfl, k1, k2⟩ := isNum_of z
      obtain ⟨hb, hg⟩ := hx k rfl k1 k2
      have d3 : ∀ (i : Nat) (x : D), xs[i]? = some x → x.dat = true := fun i x e => datL_at d2 e
      refine ⟨fun i env => i ≤ xs.length ∧ badAt k i (xs.drop i) = badAt k 0 xs ∧ ∃ e3 e4 : Option DV, env = [some (.val (.adr p)), some (.val (.int k)), some (.val (.lst xs)), e3, e4], ⟨by omega, rfl, none, none, rfl⟩, ?_, ?_⟩
      · rintro i d env e ⟨hi, hbi, e3, e4, rfl⟩
        obtain ⟨y, ey, rfl⟩ := nums_get _ _ _ _ e
        have hi2 := (List.getElem?_eq_some_iff.mp ey).1
        have ed : xs.drop i = y :: xs.drop (i + 1) := by
          rw [List.drop_eq_getElem_cons hi2]
          rw [List.getElem?_eq_getElem hi2] at ey
          cases ey
          rfl
        rw [ed] at hbi
        walk_at "dg"
        have hw : (2000 ≤ i ∨ isNum y 0 (k - 1) = false) → Rx (eIT X_InvalidTurn.C (i : Int)) := fun z => hb i (by rw [← hbi]; exact badAt_cons z)
        refine ⟨fun z => ?_, fun z => ⟨d3 i y ey, ?_⟩⟩
        · have e0 : (0 : Int) + (i : Int) = i := by omega
          first | exact hw (.inl (by omega)) | (rw [e0]; exact hw (.inl (by omega)))
        · cases en : isNum y 0 (k - 1) with
          | false =>
            walk_at "dg"
            exact hw (.inr en)
          | true =>
            walk_at "dg"
            refine ⟨by omega, ?_⟩
            rw [← hbi]
            show _ = (if 2000 ≤ i ∨ isNum y 0 (k - 1) = false then some i else badAt k (i + 1) (xs.drop (i + 1)))
            rw [if_neg]
            rw [en]
            simp
            omega
      · rintro env ⟨_, hbi, e3, e4, rfl⟩
        have el : (nums 0 xs).length = xs.length := nums_length _ _
        rw [el, List.drop_length] at hbi
        obtain ⟨g1, g2⟩ := hg hbi.symm
        walk_at "dg"
        refine ⟨fun z => g1 (List.eq_nil_of_length_eq_zero (by omega)), fun z => ?_⟩
        obtain ⟨ts, rfl, t1, t2⟩ := badAt_none hbi.symm
        refine ⟨by simp, by decide, g2 ts rfl ⟨k1, k2, ?_, ?_, t1⟩⟩
        · rw [List.length_map] at z
          omega
        · rw [List.length_map] at t2
          rcases t2 with t2 | t2
          · rw [List.map_eq_nil_iff] at t2
            rw [t2]
            decide
          · omega
theorem rok_app {h : Int} {ts us : List Int} (a : RowOk h ts) (b : RowOk h us) (hl : ts.length + us.length ≤ 2000) : RowOk h (ts ++ us) :=
  ⟨a.1, a.2.1, by rw [List.length_append]; have := a.2.2.1; omega, by rw [List.length_append]; exact hl, fun t ht => by
    rcases List.mem_append.mp ht with q | q
    · exact a.2.2.2.2 t q
    · exact b.2.2.2.2 t q⟩
theorem rok_rev {h : Int} {ts : List Int} (a : RowOk h ts) : RowOk h ts.reverse := ⟨a.1, a.2.1, by rw [List.length_reverse]; exact a.2.2.1, by rw [List.length_reverse]; exact a.2.2.2.1, fun t ht => a.2.2.2.2 t (List.mem_reverse.mp ht)⟩
theorem rok_map {h : Int} {ts : List Int} (a : RowOk h ts) (f : Int → Int) (hf : ∀ t, 0 ≤ f t ∧ f t < h) : RowOk h (ts.map f) := ⟨a.1, a.2.1, by rw [List.length_map]; exact a.2.2.1, by rw [List.length_map]; exact a.2.2.2.1, fun t ht => by
  obtain ⟨u, _, rfl⟩ := List.mem_map.mp ht
  exact hf u⟩
theorem fmod_in {h t : Int} (hh : 2 ≤ h) : 0 ≤ t.fmod h ∧ t.fmod h < h := ⟨Int.fmod_nonneg_of_pos _ (by omega), Int.fmod_lt_of_pos _ (by omega)⟩
def dgN4 : Array Lean.Name := dgN3 ++ #[`F_Row___init___is]
local macro_rules | `(tactic| walk_at "dg") => do let xs ← dgN4.mapM fun n => `(Lean.Parser.Tactic.simpLemma| $(Lean.mkIdent n):term); `(tactic| simp only [$xs,*, List.getElem?_cons_zero, List.getElem?_cons_succ])
def asRow (C : Addr) (R : Int → List Int → Prop) : D → Prop
  | .obj C' ks [.int h, .lst xs] => C' = C ∧ ks = ksRow ∧ ∃ ts, asInts xs = some ts ∧ R h ts
  | _ => False
theorem asRow_is {C : Addr} {R : Int → List Int → Prop} {h : Int} {xs : List D} : asRow C R (.obj C ksRow [.int h, .lst xs]) = ∃ ts, asInts xs = some ts ∧ R h ts := by
  simp [asRow]
theorem asRow_of {C : Addr} {R : Int → List Int → Prop} {d : D} (h : asRow C R d) : ∃ k ts, d = row C k ts ∧ R k ts := by
  unfold asRow at h
  split at h
  · obtain ⟨rfl, rfl, ts, e, h⟩ := h
    exact ⟨_, ts, by rw [asInts_eq e], h⟩
  · exact h.elim
def dgN5 : Array Lean.Name := dgN4 ++ #[`asRow_is]
local macro_rules | `(tactic| walk_at "dg") => do let xs ← dgN5.mapM fun n => `(Lean.Parser.Tactic.simpLemma| $(Lean.mkIdent n):term); `(tactic| simp only [$xs,*, List.getElem?_cons_zero, List.getElem?_cons_succ])
def F_Row_turns (C : Addr) : Spec
  | [r], R, _ => asRow C (fun _ ts => R (.lst (ts.map .int))) r
  | _, _, _ => False
theorem F_Row_turns_is {C : Addr} {r : D} {R : D → Prop} {Rx : Er → Prop} : F_Row_turns C [r] R Rx = asRow C (fun _ ts => R (.lst (ts.map .int))) r := rfl
def b_Row_turns (Dx : Dm K "turns" "Row.turns" s_Row_turns) : Binds K Dx.fd ["self"] [] := Dx.F.bindsN fun _ _ _ _ _ _ us hl => match us, hl with | [_], _ => rfl
def n_Row_turns : List Str := ["self"]
theorem sc_Row_turns : FnScope n_Row_turns ["self"] (defScope s_Row_turns) := ⟨rfl, rfl, rfl, by decide +kernel, rfl, by decide +kernel, by decide +kernel⟩
def dgN6 : Array Lean.Name := dgN5 ++ #[`F_Row_turns_is]
local macro_rules | `(tactic| walk_at "dg") => do let xs ← dgN6.mapM fun n => `(Lean.Parser.Tactic.simpLemma| $(Lean.mkIdent n):term); `(tactic| simp only [$xs,*, List.getElem?_cons_zero, List.getElem?_cons_succ])
theorem ok_Row_turns (T : Tx mg) (K_Row : Kx_Row K mg) : FnOk P w K mg base (L2.CX P w) 1 K_Row.D_turns.f K_Row.D_turns.fd ["self"] (spN (F_Row_turns K_Row.C)) := by
  refine fn_n K_Row.D_turns.F sc_Row_turns (fun ds R Rx h => ?_) (fun cdv A outer s H E hr => (ds_one (s_retNew (n_ofF (f_list (d_fld (d_var 0) K_Row.cls K_Row.n_own_turns) T.m_list)))) ) fun ds R Rx h => ?_
  · match ds, h with
    | [r], h => rfl
  · match ds, h with
    | [r], h =>
      obtain ⟨k, ts, rfl, hR⟩ := asRow_of h
      simp only [n_Row_turns]
      walk_at "dg"
      exact hR
/-- what the hand k gets -/
def tot (ts ws : List Int) (k : Int) : Int := (List.zipWith (fun t w => if t = k then w else 0) ts ws).sum
theorem tot_succ {ts ws : List Int} {k : Int} {i : Nat} (h1 : i < ts.length) (h2 : i < ws.length) : tot (ts.take (i + 1)) (ws.take (i + 1)) k = tot (ts.take i) (ws.take i) k + if ts.getD i 0 = k then ws.getD i 0 else 0 := by
  unfold tot
  have e1 : ts.take (i + 1) = ts.take i ++ [ts.getD i 0] := by rw [List.take_succ, List.getD, List.getElem?_eq_getElem h1]; rfl
  have e2 : ws.take (i + 1) = ws.take i ++ [ws.getD i 0] := by rw [List.take_succ, List.getD, List.getElem?_eq_getElem h2]; rfl
  rw [e1, e2, List.zipWith_append (by simp; omega), List.sum_append]
  simp
def totL (h : Int) (ts ws : List Int) : List Int := (List.range h.toNat).map fun (k : Nat) => tot ts ws (k : Int)
theorem totL_set {h t x : Int} {f : Nat → Int} (h0 : 0 ≤ t) (h1 : t < h) : ((List.range h.toNat).map f).set t.toNat x = (List.range h.toNat).map fun k => if k = t.toNat then x else f k := by
  apply List.ext_getElem?
  intro i
  rw [List.getElem?_set, List.getElem?_map, List.getElem?_map]
  by_cases hi : i < h.toNat
  · rw [List.getElem?_range hi]
    by_cases e : t.toNat = i
    · subst e
      simp; omega
    · have e2 : ¬ i = t.toNat := fun z => e z.symm
      simp [e, e2]
  · have : (List.range h.toNat)[i]? = none := by rw [List.getElem?_eq_none_iff, List.length_range]; omega
    rw [this]
    simp; omega
def F_check_hand (CX : Addr) : Spec
  | [.int h, v], R, Rx => v.dat = true ∧ (isNum v 0 (h - 1) = true → R .non) ∧ (isNum v 0 (h - 1) = false → Rx (eHd CX v))
  | _, _, _ => False
theorem F_check_hand_is {CX : Addr} {h : Int} {v : D} {R : D → Prop} {Rx : Er → Prop} : F_check_hand CX [.int h, v] R Rx = (v.dat = true ∧ (isNum v 0 (h - 1) = true → R .non) ∧ (isNum v 0 (h - 1) = false → Rx (eHd CX v))) := rfl
def b_check_hand (Dx : Df K mg "check_hand" s_check_hand) : Binds K Dx.fd ["hands", "hand"] [] := Dx.F.bindsN fun _ _ _ _ _ _ us hl => match us, hl with | [_, _], _ => rfl
def n_check_hand : List Str := ["hands", "hand"]
theorem sc_check_hand : FnScope n_check_hand ["hands", "hand"] (defScope s_check_hand) := ⟨rfl, rfl, rfl, by decide +kernel, rfl, by decide +kernel, by decide +kernel⟩
def dgN7 : Array Lean.Name := dgN6 ++ #[`F_check_hand_is]
local macro_rules | `(tactic| walk_at "dg") => do let xs ← dgN7.mapM fun n => `(Lean.Parser.Tactic.simpLemma| $(Lean.mkIdent n):term); `(tactic| simp only [$xs,*, List.getElem?_cons_zero, List.getElem?_cons_succ])
theorem ok_check_hand (T : Tx mg) (D_check_hand : Df K mg "check_hand" s_check_hand) (D_is_number : Df K mg "is_number" s_is_number) (X_InvalidHand : Xe K mg P.main.file "InvalidHand" s_InvalidHand___init__) (hsup : mg "super" = none) (htop : (P.main.scope.names.lookup ("super" : Str)).isSome = false) : FnOk P w K mg base (L2.CX P w) 3 D_check_hand.f D_check_hand.fd ["hands", "hand"] (spD (F_check_hand X_InvalidHand.C)) := by
  have GX_InvalidHand := ok_InvalidHand___init__ (P := P) (w := w) (base := base) X_InvalidHand hsup htop
  have G_is_number := ok_is_number (P := P) (w := w) (base := base) D_is_number T.m_isinstance T.m_int T.m_bool
  refine fn_d D_check_hand.F sc_check_hand (fun ds R Rx h => ?_) (fun cdv A outer s H E hr => (ds_one (s_if (dt_not (dt_tru (d_call G_is_number (hr.mono (by decide)) D_is_number.g D_is_number.F.kp (b_is_number D_is_number) .nil dfR_nil pass_d (da_cons (d_var 1) (da_cons d_int (da_cons (d_sub (d_var 0) d_int) da_nil)))))) (ds_one (s_raise X_InvalidHand.e.ox X_InvalidHand.e.iC X_InvalidHand.e.tI (by decide) (by decide) GX_InvalidHand (hr.mono (by decide)) (b_InvalidHand___init__ X_InvalidHand) passL X_InvalidHand.g rfl (takes_of rfl rfl rfl rfl) (da_cons (d_var 1) da_nil))) ds_nil)) ) fun ds R Rx h => ?_
  · match ds, h with
    | [.int k, v], _ => rfl
  · match ds, h with
    | [.int k, v], hh =>
      obtain ⟨h1, h2, h3⟩ := hh
      simp only [n_check_hand]
      walk_at "dg"
      cases e : isNum v 0 (k - 1) with
      | true =>
        walk_at "dg"
        exact ⟨h1, h2 e⟩
      | false =>
        walk_at "dg"
        exact ⟨h1, h3 e⟩
local macro_rules | `(tactic| walk_at "rk") => `(tactic| first
  | assumption
  | (refine rok_app ?_ ?_ ?_ <;> first | walk_at "rk" | (simp only [List.length_append, List.length_reverse, List.length_map, List.length_replicate]; omega))
  | (refine rok_rev ?_; walk_at "rk")
  | (refine rok_map ?_ _ (fun t => fmod_in (by assumption)); walk_at "rk")
  | omega
  | decide
  | (refine log_lt (k := 80) ?_ (by decide) (by decide); omega))
local macro_rules | `(tactic| walk_at "fin") => `(tactic| ((repeat' (first | (with_reducible assumption) | (with_reducible refine And.intro ?_ ?_) | (with_reducible intro _))); all_goals first | (with_reducible assumption) | omega | contradiction | trivial))
local macro_rules | `(tactic| walk_at "cj") => `(tactic| repeat' (refine And.intro (by walk_at "rk") ?_))
def F_Row___len__ (C : Addr) : Spec
  | [r], R, _ => asRow C (fun _ ts => ts.length ≤ 2000 ∧ R (.int ts.length)) r
  | _, _, _ => False
theorem F_Row___len___is {C : Addr} {r : D} {R : D → Prop} {Rx : Er → Prop} : F_Row___len__ C [r] R Rx = asRow C (fun _ ts => ts.length ≤ 2000 ∧ R (.int ts.length)) r := rfl
def b_Row___len__ (Dx : Dm K "__len__" "Row.__len__" s_Row___len__) : Binds K Dx.fd ["self"] [] := Dx.F.bindsN fun _ _ _ _ _ _ us hl => match us, hl with | [_], _ => rfl
def n_Row___len__ : List Str := ["self"]
theorem sc_Row___len__ : FnScope n_Row___len__ ["self"] (defScope s_Row___len__) := ⟨rfl, rfl, rfl, by decide +kernel, rfl, by decide +kernel, by decide +kernel⟩
theorem ok_Row___len__ (T : Tx mg) (K_Row : Kx_Row K mg) : FnOk P w K mg base (L2.CX P w) 1 K_Row.D___len__.f K_Row.D___len__.fd ["self"] (spD (F_Row___len__ K_Row.C)) := by
  refine fn_d K_Row.D___len__.F sc_Row___len__ (fun ds R Rx h => ?_) (fun cdv A outer s H E hr => (ds_one (s_ret (d_callB b_len T.m_len boot_len (da_cons (d_fld (d_var 0) K_Row.cls K_Row.n_own_turns) da_nil)))) ) fun ds R Rx h => ?_
  · match ds, h with
    | [r], h => rfl
  · match ds, h with
    | [r], h =>
      obtain ⟨k, ts, rfl, hl, hR⟩ := asRow_of h
      simp only [n_Row___len__]
      walk_at "dg"
      exact hR
def dgN8 : Array Lean.Name := dgN7 ++ #[`F_Row___len___is]
local macro_rules | `(tactic| walk_at "dg") => do let xs ← dgN8.mapM fun n => `(Lean.Parser.Tactic.simpLemma| $(Lean.mkIdent n):term); `(tactic| simp only [$xs,*, List.getElem?_cons_zero, List.getElem?_cons_succ])
def F__law_hands : Spec
  | [.bag], R, _ => ∀ h : Int, 2 ≤ h → h ≤ 4 → R (.int h)
  | _, _, _ => False
theorem F__law_hands_is {R : D → Prop} {Rx : Er → Prop} : F__law_hands [.bag] R Rx = ∀ h : Int, 2 ≤ h → h ≤ 4 → R (.int h) := rfl
theorem F__law_hands_of {ds : List D} {R : D → Prop} {Rx : Er → Prop} (h : F__law_hands ds R Rx) : ds = [.bag] ∧ ∀ h : Int, 2 ≤ h → h ≤ 4 → R (.int h) := by
  unfold F__law_hands at h
  split at h
  · exact ⟨rfl, h⟩
  · exact h.elim
def b__law_hands (Dx : Df K mg "_law_hands" s__law_hands) : Binds K Dx.fd ["_law_bag_here"] [] := Dx.F.bindsN fun _ _ _ _ _ _ us hl => match us, hl with | [_], _ => rfl
def n__law_hands : List Str := ["_law_bag_here"]
theorem sc__law_hands : FnScope n__law_hands ["_law_bag_here"] (defScope s__law_hands) := ⟨rfl, rfl, rfl, by decide +kernel, rfl, by decide +kernel, by decide +kernel⟩
def dgN9 : Array Lean.Name := dgN8 ++ #[`F__law_hands_is]
local macro_rules | `(tactic| walk_at "dg") => do let xs ← dgN9.mapM fun n => `(Lean.Parser.Tactic.simpLemma| $(Lean.mkIdent n):term); `(tactic| simp only [$xs,*, List.getElem?_cons_zero, List.getElem?_cons_succ])
theorem ok__law_hands (T : Tx mg) (D__law_hands : Df K mg "_law_hands" s__law_hands) (D__law_pull : Df K mg "_law_pull" s__law_pull) : FnOk P w K mg base (L2.CX P w) 2 D__law_hands.f D__law_hands.fd ["_law_bag_here"] (spD F__law_hands) := by
  have G__law_pull := ok__law_pull (P := P) (w := w) (base := base) D__law_pull T.m_int T.m_len
  refine fn_d D__law_hands.F sc__law_hands (fun ds R Rx h => ?_) (fun cdv A outer s H E hr => (ds_one (s_ret (d_add d_int (d_call G__law_pull (hr.mono (by decide)) D__law_pull.g D__law_pull.F.kp (b__law_pull D__law_pull) .nil dfR_nil pass_d (da_cons (d_var 0) (da_cons d_int da_nil)))))) ) fun ds R Rx h => ?_
  · obtain ⟨rfl, _⟩ := F__law_hands_of h
    rfl
  · obtain ⟨rfl, hR⟩ := F__law_hands_of h
    simp only [n__law_hands]
    walk_at "dg"
    exact ⟨log_lt (k := 20) (by decide) (by decide) (by decide), fun r h1 h2 => hR _ (by omega) (by omega)⟩
def F__law_turns : Spec
  | [.bag, .int h, .int m], R, _ => 2 ≤ h ∧ h ≤ 4 ∧ 0 < m ∧ m ≤ 2000 ∧ ∀ ts : List Int, (0 < ts.length ∧ (ts.length : Int) ≤ m ∧ ∀ t ∈ ts, 0 ≤ t ∧ t < h) → R (.lst (ts.map .int))
  | _, _, _ => False
theorem F__law_turns_is {h m : Int} {R : D → Prop} {Rx : Er → Prop} : F__law_turns [.bag, .int h, .int m] R Rx = (2 ≤ h ∧ h ≤ 4 ∧ 0 < m ∧ m ≤ 2000 ∧ ∀ ts : List Int, (0 < ts.length ∧ (ts.length : Int) ≤ m ∧ ∀ t ∈ ts, 0 ≤ t ∧ t < h) → R (.lst (ts.map .int))) := rfl
theorem F__law_turns_of {ds : List D} {R : D → Prop} {Rx : Er → Prop} (z : F__law_turns ds R Rx) : ∃ h m : Int, ds = [.bag, .int h, .int m] ∧ 2 ≤ h ∧ h ≤ 4 ∧ 0 < m ∧ m ≤ 2000 ∧ ∀ ts : List Int, (0 < ts.length ∧ (ts.length : Int) ≤ m ∧ ∀ t ∈ ts, 0 ≤ t ∧ t < h) → R (.lst (ts.map .int)) := by
  unfold F__law_turns at z
  split at z
  · exact ⟨_, _, rfl, z⟩
  · exact z.elim
def b__law_turns (Dx : Df K mg "_law_turns" s__law_turns) : Binds K Dx.fd ["_law_bag_here", "_law_hands_here", "_law_most"] [] := Dx.F.bindsN fun _ _ _ _ _ _ us hl => match us, hl with | [_, _, _], _ => rfl
def n__law_turns : List Str := ["_law_bag_here", "_law_hands_here", "_law_most", "_law_many", "_law_way", "_law_part", "_law_k_z"]
theorem sc__law_turns : FnScope n__law_turns ["_law_bag_here", "_law_hands_here", "_law_most"] (defScope s__law_turns) := ⟨rfl, rfl, rfl, by decide +kernel, rfl, by decide +kernel, by decide +kernel⟩
theorem ok__law_turns (T : Tx mg) (D__law_turns : Df K mg "_law_turns" s__law_turns) (D__law_pull : Df K mg "_law_pull" s__law_pull) : FnOk P w K mg base (L2.CX P w) 2 D__law_turns.f D__law_turns.fd ["_law_bag_here", "_law_hands_here", "_law_most"] (spD F__law_turns) := by
  have G__law_pull := ok__law_pull (P := P) (w := w) (base := base) D__law_pull T.m_int T.m_len
  refine fn_d D__law_turns.F sc__law_turns (fun ds R Rx hsp => ?_) (fun cdv A outer s H E hr => have hu := hr.units
    (ds_cons (s_par (i := 3) (j := 4) rfl sc__law_turns.nd (da_cons (d_add d_int (d_call G__law_pull (hr.mono (by decide)) D__law_pull.g D__law_pull.F.kp (b__law_pull D__law_pull) .nil dfR_nil pass_d (da_cons (d_var 0) (da_cons (d_var 2) da_nil)))) (da_cons (d_call G__law_pull (hr.mono (by decide)) D__law_pull.g D__law_pull.F.kp (b__law_pull D__law_pull) .nil dfR_nil pass_d (da_cons (d_var 0) (da_cons d_int da_nil))) da_nil)))
    (ds_cons (s_if (dt_cmp (c_eq hu) (d_var 4) d_int (nomark _)) (ds_one (s_ret (d_mul (d_ofF (f_lst (da_cons (d_call G__law_pull (hr.mono (by decide)) D__law_pull.g D__law_pull.F.kp (b__law_pull D__law_pull) .nil dfR_nil pass_d (da_cons (d_var 0) (da_cons (d_var 1) da_nil))) da_nil))) (d_var 3)))) ds_nil)
    (ds_cons (s_if (dt_cmp (c_eq hu) (d_var 4) d_int (nomark _)) (ds_cons (s_set (i := 5) sc__law_turns.nd (d_ofF (f_lc rfl sc__law_turns.nd (i_rg1 (da_cons (d_add d_int (d_call G__law_pull (hr.mono (by decide)) D__law_pull.g D__law_pull.F.kp (b__law_pull D__law_pull) .nil dfR_nil pass_d (da_cons (d_var 0) (da_cons d_int da_nil)))) da_nil) T.m_range) (blkOk_by (own := [("_law_k_z", 6)]) (N := n__law_turns) (sc := defScope s__law_turns) (by decide +kernel)) (by decide) (fun _ _ _ _ _ => (g_name (i := 6) sc__law_turns.nd)) (fun _ _ _ _ _ => dts_nil) (fun _ _ _ _ _ => (d_call G__law_pull (hr.mono (by decide)) D__law_pull.g D__law_pull.F.kp (b__law_pull D__law_pull) .nil dfR_nil passL (da_cons (d_var 0) (da_cons (d_var 1) da_nil)))))))
        (ds_one (s_ret (d_ofF (f_lc rfl sc__law_turns.nd (i_rg1 (da_cons (d_var 3) da_nil) T.m_range) (blkOk_by (own := [("_law_k_z", 6)]) (N := n__law_turns) (sc := defScope s__law_turns) (by decide +kernel)) (by decide) (fun _ _ _ _ _ => (g_name (i := 6) sc__law_turns.nd)) (fun _ _ _ _ _ => dts_nil) (fun _ _ _ _ _ => (d_ix (d_var 5) (d_mod (d_callT b_int T.m_int PyProof.Rows.boot_int (da_cons (d_var 6) da_nil)) (d_callB b_len T.m_len boot_len (da_cons (d_var 5) da_nil)))))))))) ds_nil)
    (ds_one (s_ret (d_ofF (f_lc rfl sc__law_turns.nd (i_rg1 (da_cons (d_var 3) da_nil) T.m_range) (blkOk_by (own := [("_law_k_z", 6)]) (N := n__law_turns) (sc := defScope s__law_turns) (by decide +kernel)) (by decide) (fun _ _ _ _ _ => (g_name (i := 6) sc__law_turns.nd)) (fun _ _ _ _ _ => dts_nil) (fun _ _ _ _ _ => (d_call G__law_pull (hr.mono (by decide)) D__law_pull.g D__law_pull.F.kp (b__law_pull D__law_pull) .nil dfR_nil passL (da_cons (d_var 0) (da_cons (d_var 1) da_nil))))))))))) ) fun ds R Rx hsp => ?_
  · obtain ⟨h, m, rfl, _⟩ := F__law_turns_of hsp
    rfl
  · obtain ⟨h, m, rfl, h1, h2, h3, h4, hR⟩ := F__law_turns_of hsp
    clear hsp
    simp only [n__law_turns]
    walk_at "dg"
    have lg : ∀ n : Int, 0 ≤ n → n < 2 ^ 60 → n.natAbs.log2 < 9000 := fun n h0 h1 => log_lt (k := 60) (by omega) (by decide) (by decide)
    have drawn : ∀ (q : Nat) (R2 : List D → Prop) (o2 o3 o4 o5 : Option DV), q ≤ 2000 → (∀ ts : List Int, ts.length = q → (∀ t ∈ ts, 0 ≤ t ∧ t < h) → R2 (ts.map .int)) →
        LcP (ups 0 q) (yName 6) xYes (xCall F__law_pull [] (xCons (xVar 0) (xCons (xVar 1) xNil))) [6] [some (DV.val D.bag), some (DV.val (D.int h)), o2, o3, o4, o5, none] R2 := by
      intro q R2 o2 o3 o4 o5 hq hR2
      refine LcP.all (fun y => ∃ n : Int, y = .int n ∧ (0 ≤ n ∧ n < h)) (by rw [ups_length, sizeLine_eq]; omega) (fun i d N e hN => ?_) fun acc hl hacc => ?_
      · walk_at "dg"
        exact ⟨by omega, lg _ (by omega) (by omega), fun r h5 h6 => hN _ ⟨r, rfl, h5, h6⟩⟩
      · obtain ⟨ts, rfl, hts⟩ := ints_of hacc
        rw [ups_length, List.length_map] at hl
        exact hR2 ts hl hts
    refine ⟨h3, lg _ (by omega) (by omega), fun r r0 r1 => ⟨lg _ (by decide) (by decide), fun c c0 c1 => ⟨fun z => ⟨by omega, lg _ (by omega) (by omega), fun q q0 q1 => ⟨by omega, by omega, by omega, ?_⟩⟩, fun z => ⟨fun z2 => ⟨lg _ (by decide) (by decide), fun q q0 q1 => ⟨by omega, by omega, ?_⟩⟩, fun z2 => ⟨by omega, by omega, ?_⟩⟩⟩⟩⟩
    · have e : (List.replicate (1 + r).toNat [D.int q]).flatten = (List.replicate (1 + r).toNat q).map D.int := by
        rw [List.flatten_replicate_singleton, List.map_replicate]
      rw [e]
      exact hR _ ⟨by rw [List.length_replicate]; omega, by rw [List.length_replicate]; omega, fun t ht => by rw [List.eq_of_mem_replicate ht]; exact ⟨q0, q1⟩⟩
    · refine drawn _ _ _ _ _ _ (by omega) fun part hp hpm => ⟨by omega, by omega, ?_⟩
      refine LcP.all (fun y => ∃ n : Int, y = .int n ∧ (0 ≤ n ∧ n < h)) (by rw [ups_length, sizeLine_eq]; omega) (fun i d N e hN => ?_) fun acc hl hacc => ?_
      · obtain ⟨hi, rfl⟩ := ups_at e
        walk_at "dg"
        have hpl : 0 < part.length := by omega
        have hlt : i % part.length < part.length := Nat.mod_lt _ hpl
        have ef : ((i : Int)).fmod (part.length : Int) = ((i % part.length : Nat) : Int) := by
          rw [Int.fmod_eq_emod_of_nonneg _ (by omega)]
          rfl
        refine ⟨by omega, _, at_ints (k := i % part.length) ef hlt, hN _ ⟨_, rfl, hpm _ ?_⟩⟩
        simp only [List.getD, List.getElem?_eq_getElem hlt]
        exact List.getElem_mem hlt
      · obtain ⟨ts, rfl, hts⟩ := ints_of hacc
        rw [ups_length, List.length_map] at hl
        exact hR ts ⟨by omega, by omega, hts⟩
    · exact drawn _ _ _ _ _ _ (by omega) fun ts hl hts => hR ts ⟨by omega, by omega, hts⟩
def digL (s : Str) : List Int := s.cps.toList.map fun (c : Nat) => (c : Int) - 48
theorem fld_m_text {x y : D} : fld ksRow [x, y] "text" = none := rfl
/-- turns as digits -/
def digC (ts : List Int) : List Nat := ts.map fun t => (48 + t).toNat
theorem digC_length {ts : List Int} : (digC ts).length = ts.length := by unfold digC; rw [List.length_map]
/-- turns that are signs of one figure -/
def Figs (ts : List Int) : Prop := ∀ t ∈ ts, 0 ≤ t ∧ t < 10
theorem RowOk.figs {h : Int} {ts : List Int} (o : RowOk h ts) : Figs ts := fun t m => by
  have := o.2.2.2.2 t m
  have := o.2.1
  omega
theorem digL_digC {ts : List Int} (f : Figs ts) : digL (tx (digC ts)) = ts := by
  show (digC ts).map (fun (c : Nat) => (c : Int) - 48) = ts
  unfold digC
  rw [List.map_map]
  conv => rhs; rw [← List.map_id ts]
  refine List.map_congr_left fun t m => ?_
  have := f t m
  show (((48 + t).toNat : Nat) : Int) - 48 = t
  omega
local macro_rules | `(tactic| walk_at "rk") => `(tactic| first
  | assumption
  | (refine rok_app ?_ ?_ ?_ <;> first | walk_at "rk" | (simp only [List.length_append, List.length_reverse, List.length_map, List.length_replicate]; omega))
  | (refine rok_rev ?_; walk_at "rk")
  | (refine rok_map ?_ _ (fun t => fmod_in (by assumption)); walk_at "rk")
  | omega
  | decide
  | (refine log_lt (k := 80) ?_ (by decide) (by decide); omega))
local macro_rules | `(tactic| walk_at "fin") => `(tactic| ((repeat' (first | (with_reducible assumption) | (with_reducible refine And.intro ?_ ?_) | (with_reducible intro _))); all_goals first | (with_reducible assumption) | omega | contradiction | trivial))
local macro_rules | `(tactic| walk_at "cj") => `(tactic| repeat' (refine And.intro (by walk_at "rk") ?_))
/-- the first sign that is no hand's -/
def badC (h : Int) : Nat → List Nat → Option Nat
  | _, [] => none
  | i, c :: cs => if 48 ≤ c ∧ (c : Int) < 48 + h then badC h (i + 1) cs else some i
theorem badC_good {h : Int} : ∀ {cs : List Nat} {i : Nat}, (∀ c ∈ cs, 48 ≤ c ∧ (c : Int) < 48 + h) → badC h i cs = none
  | [], _, _ => rfl
  | c :: cs, i, hc => by
    show (if 48 ≤ c ∧ (c : Int) < 48 + h then badC h (i + 1) cs else some i) = none
    rw [if_pos (hc c List.mem_cons_self), badC_good fun d m => hc d (List.mem_cons_of_mem _ m)]
theorem badC_none {h : Int} : ∀ {cs : List Nat} {i : Nat}, badC h i cs = none → ∀ c ∈ cs, 48 ≤ c ∧ (c : Int) < 48 + h
  | [], _, _, c, m => nomatch m
  | c :: cs, i, e, d, m => by
    have e : (if 48 ≤ c ∧ (c : Int) < 48 + h then badC h (i + 1) cs else some i) = none := e
    split at e
    · rename_i hc
      rcases List.mem_cons.mp m with rfl | m
      · exact hc
      · exact badC_none e d m
    · cases e
theorem digC_in {h : Int} {ts : List Int} (ht : ∀ t ∈ ts, 0 ≤ t ∧ t < h) : ∀ c ∈ digC ts, 48 ≤ c ∧ (c : Int) < 48 + h := fun c m => by
  obtain ⟨t, mt, rfl⟩ := List.mem_map.mp m
  have := ht t mt
  omega
theorem cut_in {h : Int} (h2 : 2 ≤ h) (h4 : h ≤ 4) {c : Nat} : decide (c ∈ (cutS "0123" none (some h)).cps.toList) = decide (48 ≤ c ∧ (c : Int) < 48 + h) := by
  have hh : h = 2 ∨ h = 3 ∨ h = 4 := by omega
  rcases hh with rfl | rfl | rfl
  · have e : (cutS "0123" none (some 2)).cps.toList = [48, 49] := by decide +kernel
    rw [e]
    refine decide_eq_decide.mpr ?_
    simp
    omega
  · have e : (cutS "0123" none (some 3)).cps.toList = [48, 49, 50] := by decide +kernel
    rw [e]
    refine decide_eq_decide.mpr ?_
    simp
    omega
  · have e : (cutS "0123" none (some 4)).cps.toList = [48, 49, 50, 51] := by decide +kernel
    rw [e]
    refine decide_eq_decide.mpr ?_
    simp
    omega
theorem find_digits {c : Nat} (h0 : 48 ≤ c) (h1 : c < 52) : Txt.find "0123" ⟨#[c]⟩ = (c : Int) - 48 := by
  have hh : c = 48 ∨ c = 49 ∨ c = 50 ∨ c = 51 := by omega
  rcases hh with rfl | rfl | rfl | rfl <;> decide +kernel
def isS : D → Bool
  | .str _ => true
  | _ => false
def readX (C CH CI : Addr) (v hv : D) (R : D → Prop) (Rx : Er → Prop) : Prop := v.dat = true ∧ hv.dat = true ∧ (isNum hv 2 4 = false → Rx (eIH CH hv)) ∧ ∀ h, hv = .int h → 2 ≤ h → h ≤ 4 →
  (isS v = false → Rx (eIT CI 0)) ∧ ∀ l, v = .str (tx l) → l.length ≤ 1000000 ∧ (∀ i : Nat, badC h 0 l = some i → Rx (eIT CI i)) ∧ (badC h 0 l = none → initX C CH CI (.int h) ((digL (tx l)).map D.int) R Rx)
def dgN10 : Array Lean.Name := dgN9 ++ #[`F__law_turns_is, `fld_m_text]
local macro_rules | `(tactic| walk_at "dg") => do let xs ← dgN10.mapM fun n => `(Lean.Parser.Tactic.simpLemma| $(Lean.mkIdent n):term); `(tactic| simp only [$xs,*, List.getElem?_cons_zero, List.getElem?_cons_succ])
def F_Row_read (C CH CI : Addr) : Spec
  | [v, hv], R, Rx => readX C CH CI v hv R Rx
  | _, _, _ => False
theorem F_Row_read_is {C CH CI : Addr} {v : D} {hv : D} {R : D → Prop} {Rx : Er → Prop} : F_Row_read C CH CI [v, hv] R Rx = (readX C CH CI v hv R Rx) := rfl
theorem F_Row_read_of {C CH CI : Addr} {ds : List D} {R : D → Prop} {Rx : Er → Prop} (z : F_Row_read C CH CI ds R Rx) : ∃ (v : D) (hv : D), ds = [v, hv] ∧ (readX C CH CI v hv R Rx) := by
  unfold F_Row_read at z
  split at z
  · exact ⟨_, _, rfl, z⟩
  · exact z.elim
theorem bd_Row_read (Dx : Dst K "read" "Row.read" s_Row_read [("hands", (V.int 2))]) : ∃ ds, Vals [(V.int 2)] ds ∧ Binds K Dx.fd ["text", "hands"] ds := Dx.F.binds0 1 (by simp) rfl fun _ _ _ _ _ _ us ks h1 h2 => match us, ks, h1, h2 with | [_], [_], _, _ => ⟨_, _, _, _, _, _, rfl, rfl, rfl⟩
def dd_Row_read : List D := [(D.int 2)]
theorem df_Row_read : DfR dd_Row_read [(V.int 2)] := fun _ _ => repL_cons rfl (repL_nil)
theorem w_dd_Row_read : dd_Row_read = [(D.int 2)] := rfl
def n_Row_read : List Str := ["text", "hands", "at", "sign"]
theorem sc_Row_read : FnScope n_Row_read ["text", "hands"] (defScope s_Row_read) := ⟨rfl, rfl, rfl, by decide +kernel, rfl, by decide +kernel, by decide +kernel⟩
def dgN11 : Array Lean.Name := dgN10 ++ #[`F_Row_read_is, `w_dd_Row_read]
local macro_rules | `(tactic| walk_at "dg") => do let xs ← dgN11.mapM fun n => `(Lean.Parser.Tactic.simpLemma| $(Lean.mkIdent n):term); `(tactic| simp only [$xs,*, List.getElem?_cons_zero, List.getElem?_cons_succ])
theorem ok_Row_read (T : Tx mg) (K_Row : Kx_Row K mg) (X_InvalidHands : Xe K mg P.main.file "InvalidHands" s_InvalidHands___init__) (X_InvalidTurn : Xe K mg P.main.file "InvalidTurn" s_InvalidTurn___init__) (D_check_hands : Df K mg "check_hands" s_check_hands) (D_is_number : Df K mg "is_number" s_is_number) (hsup : mg "super" = none) (htop : (P.main.scope.names.lookup ("super" : Str)).isSome = false) : FnOk P w K mg base (L2.CX P w) 6 K_Row.D_read.f K_Row.D_read.fd ["text", "hands"] (spD (F_Row_read K_Row.C X_InvalidHands.C X_InvalidTurn.C)) := by
  have G_check_hands := ok_check_hands (P := P) (w := w) (base := base) T D_check_hands D_is_number X_InvalidHands hsup htop
  have G_Row___init__ := ok_Row___init__ (P := P) (w := w) (base := base) T K_Row D_check_hands D_is_number X_InvalidHands X_InvalidTurn hsup htop
  have GX_InvalidTurn := ok_InvalidTurn___init__ (P := P) (w := w) (base := base) X_InvalidTurn hsup htop
  refine fn_d K_Row.D_read.F sc_Row_read (fun ds R Rx hs0 => ?_) (fun cdv A outer s H E hr => have hu := hr.units
    (ds_cons (s_expr (d_call G_check_hands (hr.mono (by decide)) D_check_hands.g D_check_hands.F.kp (b_check_hands D_check_hands) .nil dfR_nil pass_d (da_cons (d_var 1) da_nil)))
    (ds_cons (s_if (dt_not (dt_tru (d_callB b_isi T.m_isinstance PyProof.Rows.boot_isinstance (da_cons (d_var 0) (da_cons (d_bty T.m_str PyProof.Rows.boot_str) da_nil))))) (ds_one (s_raise X_InvalidTurn.e.ox X_InvalidTurn.e.iC X_InvalidTurn.e.tI (by decide) (by decide) GX_InvalidTurn (hr.mono (by decide)) (b_InvalidTurn___init__ X_InvalidTurn) passL X_InvalidTurn.g rfl (takes_of rfl rfl rfl rfl) (da_cons d_int da_nil))) ds_nil)
    (ds_cons (s_for (passes_of rfl) rfl (i_enumS (da_cons (d_var 0) da_nil) T.m_enumerate) (g_tup (n := 2) rfl (gs_cons (g_name (i := 2) sc_Row_read.nd) (gs_cons (g_name (i := 3) sc_Row_read.nd) gs_nil)))
      (ds_one (s_if (dt_cmp c_notin (d_var 3) (d_slice (d_gstr T.c_DIGITS) do_none (do_some (d_var 1))) rfl) (ds_one (s_raise X_InvalidTurn.e.ox X_InvalidTurn.e.iC X_InvalidTurn.e.tI (by decide) (by decide) GX_InvalidTurn (hr.mono (by decide)) (b_InvalidTurn___init__ X_InvalidTurn) passL X_InvalidTurn.g rfl (takes_of rfl rfl rfl rfl) (da_cons (d_var 2) da_nil))) ds_nil)))
    (ds_one (s_ret (d_make K_Row.mkr G_Row___init__ (hr.mono (by decide)) K_Row.g (b_Row___init__ K_Row.D___init__) pass_d (da_cons (d_var 1) (da_cons (d_ofF (f_lc rfl sc_Row_read.nd (i_str (d_var 0)) (blkOk_by (own := [("sign", 3)]) (N := n_Row_read) (sc := defScope s_Row_read) (by decide +kernel)) (by decide) (fun _ _ _ _ _ => (g_name (i := 3) sc_Row_read.nd)) (fun _ _ _ _ _ => dts_nil) (fun _ _ _ _ _ => (d_find (d_gstr T.c_DIGITS) (d_var 3))))) da_nil)))))))) ) fun ds R Rx hs0 => ?_
  · obtain ⟨_, _, rfl, _⟩ := F_Row_read_of hs0
    rfl
  · obtain ⟨v, hv, rfl, hs⟩ := F_Row_read_of hs0
    clear hs0
    simp only [n_Row_read]
    walk_at "dg"
    obtain ⟨d1, d2, hH, hx⟩ := hs
    refine ⟨d2, fun z => ?_, fun z => hH z⟩
    obtain ⟨h, rfl, h2, h4⟩ := isNum_of z
    obtain ⟨hn, hx⟩ := hx h rfl h2 h4
    cases v with
    | str s =>
      obtain ⟨hl, hb, hg⟩ := hx s.cps.toList rfl
      have es : s = tx s.cps.toList := rfl
      generalize s.cps.toList = l at es hl hb hg
      subst es
      walk_at "dg"
      refine ⟨fun i env => i ≤ l.length ∧ badC h i (l.drop i) = badC h 0 l ∧ ∃ e2 e3 : Option DV, env = [some (.val (.str (tx l))), some (.val (.int h)), e2, e3], ⟨by omega, rfl, _, _, rfl⟩, ?_, ?_⟩
      · rintro i d env e ⟨hi, hbi, e2, e3, rfl⟩
        obtain ⟨y, ey, rfl⟩ := nums_get _ _ _ _ e
        rw [List.getElem?_map] at ey
        have hi2 : i < l.length := by
          cases q : l[i]? with
          | none => rw [q] at ey; cases ey
          | some z => exact (List.getElem?_eq_some_iff.mp q).1
        rw [List.getElem?_eq_getElem hi2] at ey
        cases ey
        rw [List.drop_eq_getElem_cons hi2] at hbi
        generalize l[i] = c at hbi
        have hbi : (if 48 ≤ c ∧ (c : Int) < 48 + h then badC h (i + 1) (l.drop (i + 1)) else some i) = badC h 0 l := hbi
        walk_at "dg"
        refine ⟨by decide +kernel, _, c, rfl, rfl, ?_⟩
        show ((!decide (c ∈ (cutS (Str.ofString "0123") none (some h)).cps.toList)) = true → _) ∧ ((!decide (c ∈ (cutS (Str.ofString "0123") none (some h)).cps.toList)) = false → _)
        rw [cut_in h2 h4]
        refine ⟨fun z => ?_, fun z => ?_⟩
        · rw [Bool.not_eq_true', decide_eq_false_iff_not] at z
          rw [if_neg z] at hbi
          have e0 : (0 : Int) + (i : Int) = i := by omega
          first | exact hb i hbi.symm | (rw [e0]; exact hb i hbi.symm)
        · rw [Bool.not_eq_false', decide_eq_true_eq] at z
          rw [if_pos z] at hbi
          exact ⟨by omega, hbi⟩
      · rintro env ⟨_, hbi, e2, e3, rfl⟩
        have el : (nums 0 (l.map fun c => D.str (tx [c]))).length = l.length := by rw [nums_length, List.length_map]
        rw [el, List.drop_length] at hbi
        walk_at "dg"
        refine LcP.of (as := l) (g := fun c => .str (tx [c])) (fun c => .int ((c : Int) - 48)) (by rw [sizeLine_eq]; omega) (fun i c N e hN => ?_) ?_
        · obtain ⟨c0, c1⟩ := badC_none hbi.symm c (List.mem_of_getElem? e)
          walk_at "dg"
          rw [← w_tx_one, find_digits c0 (by omega)]
          exact hN
        · have ed : (l.map fun (c : Nat) => D.int ((c : Int) - 48)) = (digL (tx l)).map D.int := by
            unfold digL
            rw [List.map_map]
            rfl
          rw [ed]
          exact hg hbi.symm
    | non => walk_at "dg"; exact hn rfl
    | bl b => walk_at "dg"; exact hn rfl
    | int i => walk_at "dg"; exact hn rfl
    | lst xs => walk_at "dg"; exact hn rfl
    | tup xs => walk_at "dg"; exact hn rfl
    | _ => cases d1
local macro_rules | `(tactic| walk_at "rk") => `(tactic| first
  | assumption
  | (refine rok_app ?_ ?_ ?_ <;> first | walk_at "rk" | (simp only [List.length_append, List.length_reverse, List.length_map, List.length_replicate]; omega))
  | (refine rok_rev ?_; walk_at "rk")
  | (refine rok_map ?_ _ (fun t => fmod_in (by assumption)); walk_at "rk")
  | omega
  | decide
  | (refine log_lt (k := 80) ?_ (by decide) (by decide); omega))
local macro_rules | `(tactic| walk_at "fin") => `(tactic| ((repeat' (first | (with_reducible assumption) | (with_reducible refine And.intro ?_ ?_) | (with_reducible intro _))); all_goals first | (with_reducible assumption) | omega | contradiction | trivial))
local macro_rules | `(tactic| walk_at "cj") => `(tactic| repeat' (refine And.intro (by walk_at "rk") ?_))
def difs : List Int → List Int
  | x :: y :: t => (x - y) :: difs (y :: t)
  | _ => []
theorem difs_length : ∀ ns : List Int, (difs ns).length = ns.length - 1
  | [] => rfl
  | [_] => rfl
  | x :: y :: t => by show (difs (y :: t)).length + 1 = _; rw [difs_length]; rfl
theorem difs_get : ∀ (ns : List Int) (k : Nat), k + 1 < ns.length → (difs ns).getD k 0 = ns.getD k 0 - ns.getD (k + 1) 0
  | [], _, h => absurd h (by simp)
  | [_], _, h => absurd h (by simp)
  | x :: y :: t, 0, _ => rfl
  | x :: y :: t, k + 1, h => by
    show (difs (y :: t)).getD k 0 = (y :: t).getD k 0 - (y :: t).getD (k + 1) 0
    exact difs_get (y :: t) k (by simpa using h)
def difI : Nat → List Int → List Int
  | 0, ns => ns
  | s + 1, ns => difs (difI s ns)
theorem difI_length (ns : List Int) : ∀ s, (difI s ns).length = ns.length - s
  | 0 => rfl
  | s + 1 => by show (difs (difI s ns)).length = _; rw [difs_length, difI_length]; omega
/-- the differences of a function -/
def dI : Nat → (Nat → Int) → Nat → Int
  | 0, f => f
  | s + 1, f => fun i => dI s f i - dI s f (i + 1)
theorem difI_get (ns : List Int) : ∀ (s i : Nat), i + s < ns.length → (difI s ns).getD i 0 = dI s (fun k => ns.getD k 0) i
  | 0, i, _ => rfl
  | s + 1, i, h => by
    show (difs (difI s ns)).getD i 0 = dI s _ i - dI s _ (i + 1)
    rw [difs_get _ _ (by rw [difI_length]; omega), difI_get ns s i (by omega), difI_get ns s (i + 1) (by omega)]
theorem dI_congr {f g : Nat → Int} : ∀ (s i n : Nat), (∀ k, k < n → f k = g k) → i + s < n → dI s f i = dI s g i
  | 0, i, n, h, hi => h i (by omega)
  | s + 1, i, n, h, hi => by
    show dI s f i - dI s f (i + 1) = dI s g i - dI s g (i + 1)
    rw [dI_congr s i n h (by omega), dI_congr s (i + 1) n h (by omega)]
theorem dI_zero : ∀ (s i : Nat), dI s (fun _ => 0) i = 0
  | 0, _ => rfl
  | s + 1, i => by
    show dI s _ i - dI s _ (i + 1) = 0
    rw [dI_zero s i, dI_zero s (i + 1)]
    rfl
/-- the rays of n places, K differences -/
def ray (n K j i : Nat) : Int := if j < n - K then (if K = 0 then (if i = j then 1 else 0) else if i ≤ j then ((bin (j - i + K - 1) (K - 1) : Nat) : Int) else 0) else ((bin (n - 1 - i) (j - (n - K)) : Nat) : Int)
theorem dI_low (n l : Nat) : ∀ (s i : Nat), i + s < n → dI s (fun i => ((bin (n - 1 - i) l : Nat) : Int)) i = if s ≤ l then ((bin (n - 1 - i - s) (l - s) : Nat) : Int) else 0
  | 0, i, _ => by rw [if_pos (by omega)]; rfl
  | s + 1, i, h => by
    show dI s _ i - dI s _ (i + 1) = _
    rw [dI_low n l s i (by omega), dI_low n l s (i + 1) (by omega)]
    obtain ⟨N, hN⟩ : ∃ N, n - 1 - i - s = N + 1 := ⟨n - 1 - i - s - 1, by omega⟩
    have hN2 : n - 1 - (i + 1) - s = N := by omega
    have hN3 : n - 1 - i - (s + 1) = N := by omega
    rw [hN, hN2, hN3]
    by_cases z : s ≤ l
    · rw [if_pos z, if_pos z]
      by_cases z2 : s + 1 ≤ l
      · obtain ⟨t, ht⟩ : ∃ t, l - s = t + 1 := ⟨l - s - 1, by omega⟩
        have ht2 : l - (s + 1) = t := by omega
        rw [if_pos z2, ht, ht2, bin]
        omega
      · have e : l - s = 0 := by omega
        rw [if_neg z2, e, bin_zero, bin_zero]
        omega
    · rw [if_neg z, if_neg z, if_neg (by omega)]
      rfl
theorem dI_ray (j K : Nat) (hK : 0 < K) : ∀ (s i : Nat), s < K → dI s (fun i => if i ≤ j then ((bin (j - i + K - 1) (K - 1) : Nat) : Int) else 0) i = if i ≤ j then ((bin (j - i + K - 1 - s) (K - 1 - s) : Nat) : Int) else 0
  | 0, i, _ => rfl
  | s + 1, i, h => by
    show dI s _ i - dI s _ (i + 1) = _
    rw [dI_ray j K hK s i (by omega), dI_ray j K hK s (i + 1) (by omega)]
    obtain ⟨t, ht⟩ : ∃ t, K - 1 - s = t + 1 := ⟨K - 1 - s - 1, by omega⟩
    have ht2 : K - 1 - (s + 1) = t := by omega
    rw [ht, ht2]
    by_cases z : i < j
    · obtain ⟨N, hN⟩ : ∃ N, j - i + K - 1 - s = N + 1 := ⟨j - i + K - 1 - s - 1, by omega⟩
      have hN2 : j - (i + 1) + K - 1 - s = N := by omega
      have hN3 : j - i + K - 1 - (s + 1) = N := by omega
      rw [if_pos (by omega), if_pos (by omega), if_pos (by omega), hN, hN2, hN3, bin]
      omega
    · by_cases z2 : i = j
      · subst z2
        have e1 : i - i + K - 1 - s = t + 1 := by omega
        have e2 : i - i + K - 1 - (s + 1) = t := by omega
        rw [if_pos (by omega), if_neg (by omega), if_pos (by omega), e1, e2, bin_self, bin_self]
        rfl
      · rw [if_neg (by omega), if_neg (by omega), if_neg (by omega)]
        rfl
theorem dI_rayK (j K : Nat) (hK : 0 < K) (i : Nat) : dI K (fun i => if i ≤ j then ((bin (j - i + K - 1) (K - 1) : Nat) : Int) else 0) i = if i = j then 1 else 0 := by
  obtain ⟨t, rfl⟩ : ∃ t, K = t + 1 := ⟨K - 1, by omega⟩
  show dI t _ i - dI t _ (i + 1) = _
  rw [dI_ray j (t + 1) hK t i (by omega), dI_ray j (t + 1) hK t (i + 1) (by omega)]
  have e : t + 1 - 1 - t = 0 := by omega
  rw [e, bin_zero, bin_zero]
  by_cases z : i < j
  · rw [if_pos (by omega), if_pos (by omega), if_neg (by omega)]
    rfl
  · by_cases z2 : i = j
    · rw [if_pos (by omega), if_neg (by omega), if_pos z2]
      rfl
    · rw [if_neg (by omega), if_neg (by omega), if_neg z2]
      rfl
theorem ray_bits {n K j i : Nat} (hn : n ≤ 1000) (hj : j < n) : (ray n K j i).natAbs < 2 ^ 282001 := by
  have one : (1 : Nat) < 2 ^ 282001 := by
    have := bin_bits (n := 0) (i := 0) (by decide) (by decide)
    exact this
  have pos : (0 : Nat) < 2 ^ 282001 := Nat.lt_trans Nat.zero_lt_one one
  have big : (3000 : Nat) < 2 ^ 140 := by decide
  unfold ray
  split
  · split
    · split
      · exact one
      · exact pos
    · split
      · rw [Int.natAbs_natCast]
        exact bin_bits (Nat.lt_of_le_of_lt (by omega : j - i + K - 1 ≤ 3000) big) (by omega)
      · exact pos
  · rw [Int.natAbs_natCast]
    exact bin_bits (Nat.lt_of_le_of_lt (by omega : n - 1 - i ≤ 3000) big) (by omega)
/-- K differences of the rays -/
theorem ray_top {n K : Nat} (hK : K < n) {j i : Nat} (hj : j < n) (hi : i < n - K) : dI K (ray n K j) i = if j = i then 1 else 0 := by
  unfold ray
  by_cases z : j < n - K
  · simp only [z, if_true]
    by_cases q : K = 0
    · subst q
      simp only [if_true]
      show (if i = j then (1 : Int) else 0) = _
      by_cases y : i = j
      · rw [if_pos y, if_pos y.symm]
      · rw [if_neg y, if_neg fun h => y h.symm]
    · simp only [q, if_false]
      rw [dI_rayK j K (by omega)]
      by_cases y : i = j
      · rw [if_pos y, if_pos y.symm]
      · rw [if_neg y, if_neg fun h => y h.symm]
  · simp only [z, if_false]
    rw [dI_low n _ K i (by omega), if_neg (by omega), if_neg (by omega)]
/-- the last of s differences -/
theorem ray_last {n K : Nat} (hK : K < n) {j s : Nat} (hj : j < n) (hs : s < K) : dI s (ray n K j) (n - 1 - s) = if j = n - K + s then 1 else 0 := by
  unfold ray
  have q : ¬ K = 0 := by omega
  by_cases z : j < n - K
  · simp only [z, q, if_true, if_false]
    rw [dI_ray j K (by omega) s _ hs, if_neg (by omega), if_neg (by omega)]
  · simp only [z, if_false]
    rw [dI_low n _ s _ (by omega)]
    have e : n - 1 - (n - 1 - s) - s = 0 := by omega
    rw [e]
    by_cases y : j = n - K + s
    · have e2 : j - (n - K) = s := by omega
      rw [if_pos y, e2, if_pos (by omega), Nat.sub_self, bin_zero]
      rfl
    · rw [if_neg y]
      by_cases x : s ≤ j - (n - K)
      · rw [if_pos x, bin_gt 0 _ (by omega)]
        rfl
      · rw [if_neg x]
/-- none below 0 of the factors, none of the differences -/
theorem nonneg_all {n K : Nat} (hK : K < n) (w : Nat → Int) (h1 : ∀ i, i < n - K → 0 ≤ dI K w i) (h2 : ∀ s, s < K → 0 ≤ dI s w (n - 1 - s)) : ∀ t, t ≤ K → ∀ i, i + (K - t) < n → 0 ≤ dI (K - t) w i
  | 0, _, i, hi => h1 i (by omega)
  | t + 1, ht, i, hi => by
    have ih := nonneg_all hK w h1 h2 t (by omega)
    have e : K - t = K - (t + 1) + 1 := by omega
    have go : ∀ q i, i + (K - (t + 1)) < n → n - 1 - (K - (t + 1)) - i = q → 0 ≤ dI (K - (t + 1)) w i := fun q => by
      induction q with
      | zero =>
        intro i hi hq
        have e2 : i = n - 1 - (K - (t + 1)) := by omega
        rw [e2]
        exact h2 _ (by omega)
      | succ q ihq =>
        intro i hi hq
        have a1 := ihq (i + 1) (by omega) (by omega)
        have a2 := ih i (by omega)
        rw [e] at a2
        have a3 : dI (K - (t + 1) + 1) w i = dI (K - (t + 1)) w i - dI (K - (t + 1)) w (i + 1) := rfl
        omega
    exact go _ i hi rfl
theorem getD_range {f : Nat → Int} {n i : Nat} (h : i < n) : ((List.range n).map f).getD i 0 = f i := by simp [List.getD, h]
def aocb (K : Nat) (ns : List Int) : Bool := (List.range (K + 1)).all fun s => (difI s ns).all fun x => decide (0 ≤ x)
def psum (a : Int) : List Int → List Int
  | [] => []
  | x :: r => (a + x) :: psum (a + x) r
theorem psum_length : ∀ (a : Int) (xs : List Int), (psum a xs).length = xs.length
  | _, [] => rfl
  | a, x :: r => by
    show (psum (a + x) r).length + 1 = r.length + 1
    rw [psum_length]
theorem psum_app : ∀ (a : Int) (xs ys : List Int), psum a (xs ++ ys) = psum a xs ++ psum (a + xs.sum) ys
  | a, [], ys => by simp [psum]
  | a, x :: r, ys => by
    show (a + x) :: psum (a + x) (r ++ ys) = (a + x) :: (psum (a + x) r ++ psum (a + (x :: r).sum) ys)
    rw [psum_app (a + x) r ys, List.sum_cons, Int.add_assoc]
theorem psum_take {xs : List Int} {i : Nat} (h : i < xs.length) : psum 0 (xs.take (i + 1)) = psum 0 (xs.take i) ++ [(xs.take (i + 1)).sum] := by
  have e1 : xs.take (i + 1) = xs.take i ++ [xs.getD i 0] := by rw [List.take_succ, List.getD, List.getElem?_eq_getElem h]; rfl
  rw [e1, psum_app, List.sum_append]
  simp [psum]
theorem psum_get : ∀ (a : Int) (xs : List Int) (j : Nat), j + 1 < xs.length → (psum a xs).getD (j + 1) 0 = (psum a xs).getD j 0 + xs.getD (j + 1) 0
  | a, [], j, h => by simp at h
  | a, [x], j, h => by simp at h
  | a, x :: y :: r, 0, h => by simp [psum]
  | a, x :: y :: r, j + 1, h => by
    have := psum_get (a + x) (y :: r) j (by simpa using h)
    show (psum (a + x) (y :: r)).getD (j + 1) 0 = (psum (a + x) (y :: r)).getD j 0 + (y :: r).getD (j + 1) 0
    exact this
theorem psum_get0 (a : Int) : ∀ (xs : List Int), 0 < xs.length → (psum a xs).getD 0 0 = a + xs.getD 0 0
  | [], h => by simp at h
  | x :: r, _ => rfl
def psumN : Nat → List Int → List Int
  | 0, xs => xs
  | n + 1, xs => psum 0 (psumN n xs)
theorem psumN_length : ∀ (n : Nat) (xs : List Int), (psumN n xs).length = xs.length
  | 0, _ => rfl
  | n + 1, xs => by rw [psumN, psum_length, psumN_length n xs]
/-- sums of products -/
def dotR (n : Nat) (xs : List Int) (f : Nat → Int) : Int := ((List.range n).map fun i => xs.getD i 0 * f i).sum
theorem dotR_add {n : Nat} {xs : List Int} {f g h : Nat → Int} (e : ∀ i, i < n → h i = f i + g i) : dotR n xs h = dotR n xs f + dotR n xs g := by
  unfold dotR
  have key : ∀ l : List Nat, (∀ i ∈ l, i < n) → (l.map fun i => xs.getD i 0 * h i).sum = (l.map fun i => xs.getD i 0 * f i).sum + (l.map fun i => xs.getD i 0 * g i).sum := fun l => by
    induction l with
    | nil => intro _; rfl
    | cons i l ih =>
      intro hl
      rw [List.map_cons, List.map_cons, List.map_cons, List.sum_cons, List.sum_cons, List.sum_cons, ih fun j hj => hl j (List.mem_cons_of_mem _ hj), e i (hl i (List.mem_cons_self ..)), Int.mul_add]
      omega
  exact key _ fun i hi => List.mem_range.mp hi
theorem dotR_congr {n : Nat} {xs : List Int} {f g : Nat → Int} (e : ∀ i, i < n → f i = g i) : dotR n xs f = dotR n xs g := by
  unfold dotR
  congr 1
  exact List.map_congr_left fun i hi => by rw [e i (List.mem_range.mp hi)]
theorem dotR_one {xs : List Int} {j : Nat} : ∀ {n : Nat}, j < n → dotR n xs (fun i => if i = j then 1 else 0) = xs.getD j 0
  | 0, h => by omega
  | n + 1, h => by
    unfold dotR
    rw [List.range_succ, List.map_append, List.sum_append]
    by_cases e : j = n
    · subst e
      have z : ((List.range j).map fun i => xs.getD i 0 * if i = j then 1 else 0).sum = 0 := by
        have : ∀ l : List Nat, (∀ i ∈ l, i < j) → (l.map fun i => xs.getD i 0 * if i = j then 1 else 0).sum = 0 := fun l => by
          induction l with
          | nil => intro _; rfl
          | cons i l ih =>
            intro hl
            have := hl i (List.mem_cons_self ..)
            rw [List.map_cons, List.sum_cons, ih fun k hk => hl k (List.mem_cons_of_mem _ hk), if_neg (by omega)]
            omega
        exact this _ fun i hi => List.mem_range.mp hi
      rw [z]
      simp
    · have := dotR_one (xs := xs) (j := j) (n := n) (by omega)
      unfold dotR at this
      rw [this]
      have e2 : ¬ n = j := fun z => e z.symm
      simp [e2]
def wgt (t j i : Nat) : Int := if i ≤ j then ((bin (j - i + t) t : Nat) : Int) else 0
theorem psumN_dot (xs : List Int) : ∀ (t j : Nat), j < xs.length → (psumN (t + 1) xs).getD j 0 = dotR xs.length xs (wgt t j)
  | 0, 0, h => by
    rw [psumN, psumN, psum_get0 0 xs h, Int.zero_add]
    rw [dotR_congr (g := fun i => if i = 0 then 1 else 0) fun i hi => by
      unfold wgt
      by_cases e : i = 0
      · subst e; simp [bin_zero]
      · rw [if_neg (by omega), if_neg e]]
    exact (dotR_one h).symm
  | 0, j + 1, h => by
    rw [psumN, psumN, psum_get 0 xs j h]
    have ih := psumN_dot xs 0 j (by omega)
    rw [psumN, psumN] at ih
    rw [ih, ← dotR_one (xs := xs) h]
    refine (dotR_add fun i hi => ?_).symm
    unfold wgt
    by_cases e : i ≤ j
    · rw [if_pos (by omega), if_pos e, if_neg (by omega)]
      simp [bin_zero]
    · by_cases e2 : i = j + 1
      · subst e2
        rw [if_pos (Nat.le_refl _), if_neg e, if_pos rfl]
        simp [bin_zero]
      · rw [if_neg (by omega), if_neg e, if_neg e2]
        rfl
  | t + 1, 0, h => by
    rw [psumN, psum_get0 0 _ (by rw [psumN_length]; exact h), Int.zero_add, psumN_dot xs t 0 h]
    refine dotR_congr fun i hi => ?_
    unfold wgt
    by_cases e : i ≤ 0
    · have : i = 0 := by omega
      subst this
      simp [bin_self]
    · rw [if_neg e, if_neg e]
  | t + 1, j + 1, h => by
    rw [psumN, psum_get 0 _ j (by rw [psumN_length]; exact h)]
    have ih := psumN_dot xs (t + 1) j (by omega)
    rw [psumN] at ih
    rw [ih, psumN_dot xs t (j + 1) h]
    refine (dotR_add fun i hi => ?_).symm
    unfold wgt
    by_cases e : i ≤ j
    · rw [if_pos (by omega), if_pos e, if_pos (by omega)]
      have e2 : j + 1 - i + (t + 1) = (j - i + (t + 1)) + 1 := by omega
      have e3 : j + 1 - i + t = j - i + (t + 1) := by omega
      rw [e2, e3, bin, Int.natCast_add, Int.add_comm]
    · by_cases e2 : i = j + 1
      · subst e2
        rw [if_pos (by omega), if_neg e, if_pos (by omega), Nat.sub_self, Nat.zero_add, Nat.zero_add, bin_self, bin_self]
        rfl
      · rw [if_neg (by omega), if_neg e, if_neg (by omega)]
        rfl
/-- the gains of signs for the rays -/
def gainL (K : Nat) (xs : List Int) : List Int := (psumN K xs).take (xs.length - K) ++ (List.range K).map fun l => (psumN (l + 1) xs).getD (xs.length - 1 - l) 0
theorem gainL_ray {K : Nat} {xs : List Int} (hK : K < xs.length) : gainL K xs = (List.range xs.length).map fun j => dotR xs.length xs (ray xs.length K j) := by
  apply List.ext_getElem?
  intro j
  unfold gainL
  by_cases hj : j < xs.length
  · rw [List.getElem?_map, List.getElem?_range hj, Option.map_some]
    by_cases h1 : j < xs.length - K
    · have l1 : j < ((psumN K xs).take (xs.length - K)).length := by rw [List.length_take, psumN_length]; omega
      rw [List.getElem?_append_left l1, List.getElem?_take_of_lt h1]
      have l2 : j < (psumN K xs).length := by rw [psumN_length]; exact hj
      have e1 : (psumN K xs)[j]? = some ((psumN K xs).getD j 0) := by simp [List.getD, l2]
      rw [e1]
      congr 1
      cases K with
      | zero =>
        rw [psumN]
        rw [dotR_congr (g := fun i => if i = j then 1 else 0) fun i hi => by
          unfold ray
          rw [if_pos h1, if_pos rfl]]
        exact (dotR_one hj).symm
      | succ K =>
        rw [psumN_dot xs K j hj]
        refine dotR_congr fun i hi => ?_
        unfold ray wgt
        rw [if_pos h1]
        by_cases z : i ≤ j
        · rw [if_pos z, if_neg (Nat.succ_ne_zero K), if_pos z]
          rfl
        · rw [if_neg z, if_neg (Nat.succ_ne_zero K), if_neg z]
    · have l1 : ((psumN K xs).take (xs.length - K)).length ≤ j := by rw [List.length_take, psumN_length]; omega
      rw [List.getElem?_append_right l1, List.length_take, psumN_length, Nat.min_eq_left (by omega)]
      have h2 : j - (xs.length - K) < K := by omega
      rw [List.getElem?_map, List.getElem?_range h2, Option.map_some]
      congr 1
      rw [psumN_dot xs _ _ (by omega)]
      refine dotR_congr fun i hi => ?_
      unfold ray wgt
      rw [if_neg h1]
      by_cases h3 : i ≤ xs.length - 1 - (j - (xs.length - K))
      · rw [if_pos h3]
        congr 2
        omega
      · rw [if_neg h3, bin_gt _ _ (by omega)]
        rfl
  · have l1 : ((List.range xs.length).map fun j => dotR xs.length xs (ray xs.length K j))[j]? = none := by simp; omega
    rw [l1, List.getElem?_eq_none_iff, List.length_append, List.length_take, psumN_length, List.length_map, List.length_range]
    omega
local macro_rules | `(tactic| walk_at "dg") => do let xs ← dgN11.mapM fun n => `(Lean.Parser.Tactic.simpLemma| $(Lean.mkIdent n):term); `(tactic| simp only [$xs,*, List.getElem?_cons_zero, List.getElem?_cons_succ])
def F_check_class (CI : Addr) : Spec
  | [k, .int l], R, Rx => k.dat = true ∧ (isNum k l 200 = false → Rx (eIN CI k)) ∧ (isNum k l 200 = true → R .non)
  | _, _, _ => False
theorem F_check_class_is {CI : Addr} {k : D} {l : Int} {R : D → Prop} {Rx : Er → Prop} : F_check_class CI [k, .int l] R Rx = (k.dat = true ∧ (isNum k l 200 = false → Rx (eIN CI k)) ∧ (isNum k l 200 = true → R .non)) := rfl
theorem F_check_class_of {CI : Addr} {ds : List D} {R : D → Prop} {Rx : Er → Prop} (z : F_check_class CI ds R Rx) : ∃ (k : D) (l : Int), ds = [k, .int l] ∧ (k.dat = true ∧ (isNum k l 200 = false → Rx (eIN CI k)) ∧ (isNum k l 200 = true → R .non)) := by
  unfold F_check_class at z
  split at z
  · exact ⟨_, _, rfl, z⟩
  · exact z.elim
def b_check_class (Dx : Df K mg "check_class" s_check_class) : Binds K Dx.fd ["k", "least"] [] := Dx.F.bindsN fun _ _ _ _ _ _ us hl => match us, hl with | [_, _], _ => rfl
def n_check_class : List Str := ["k", "least"]
theorem sc_check_class : FnScope n_check_class ["k", "least"] (defScope s_check_class) := ⟨rfl, rfl, rfl, by decide +kernel, rfl, by decide +kernel, by decide +kernel⟩
theorem ok_check_class (T : Tx mg) (X_InvalidNumber : Xe K mg P.main.file "InvalidNumber" s_InvalidNumber___init__) (D_check_class : Df K mg "check_class" s_check_class) (D_is_number : Df K mg "is_number" s_is_number) (hsup : mg "super" = none) (htop : (P.main.scope.names.lookup ("super" : Str)).isSome = false) : FnOk P w K mg base (L2.CX P w) 3 D_check_class.f D_check_class.fd ["k", "least"] (spD (F_check_class X_InvalidNumber.C)) := by
  have G_is_number := ok_is_number (P := P) (w := w) (base := base) D_is_number T.m_isinstance T.m_int T.m_bool
  have GX_InvalidNumber := ok_InvalidNumber___init__ (P := P) (w := w) (base := base) X_InvalidNumber hsup htop
  refine fn_d D_check_class.F sc_check_class (fun ds R Rx hs0 => ?_) (fun cdv A outer s H E hr => have hu := hr.units
    (ds_one (s_if (dt_not (dt_tru (d_call G_is_number (hr.mono (by decide)) D_is_number.g D_is_number.F.kp (b_is_number D_is_number) .nil dfR_nil pass_d (da_cons (d_var 0) (da_cons (d_var 1) (da_cons (d_gint T.c_MOST_PLACES) da_nil)))))) (ds_one (s_raise X_InvalidNumber.e.ox X_InvalidNumber.e.iC X_InvalidNumber.e.tI (by decide) (by decide) GX_InvalidNumber (hr.mono (by decide)) (b_InvalidNumber___init__ X_InvalidNumber) passL X_InvalidNumber.g rfl (takes_of rfl rfl rfl rfl) (da_cons (d_var 0) da_nil))) ds_nil)) ) fun ds R Rx hs0 => ?_
  · obtain ⟨_, _, rfl, _⟩ := F_check_class_of hs0
    rfl
  · obtain ⟨k, l, rfl, hs⟩ := F_check_class_of hs0
    clear hs0
    simp only [n_check_class]
    walk_at "dg"
    obtain ⟨hd, h1, h2⟩ := hs
    cases e : isNum k l 200 with
    | true =>
      walk_at "dg"
      exact ⟨hd, h2 e⟩
    | false =>
      walk_at "dg"
      exact ⟨hd, h1 e⟩
/-- what a wrong question raises -/
def questX (CT CH : Addr) (h : Int) (n : Nat) (a b : D) (R : Prop) (Rx : Er → Prop) : Prop := (200 < n → Rx (eTLn CT 200)) ∧ (n ≤ 200 → (isNum a 0 (h - 1) = false → Rx (eHd CH a)) ∧ (isNum a 0 (h - 1) = true → (isNum b 0 (h - 1) = false → Rx (eHd CH b)) ∧ (isNum b 0 (h - 1) = true → R)))
def dgN12 : Array Lean.Name := dgN11 ++ #[`F_check_class_is]
local macro_rules | `(tactic| walk_at "dg") => do let xs ← dgN12.mapM fun n => `(Lean.Parser.Tactic.simpLemma| $(Lean.mkIdent n):term); `(tactic| simp only [$xs,*, List.getElem?_cons_zero, List.getElem?_cons_succ])
def F_check_question (CR CT CH : Addr) : Spec
  | [r, a, b], R, Rx => asRow CR (fun h ts => RowOk h ts ∧ a.dat = true ∧ b.dat = true ∧ questX CT CH h ts.length a b (R .non) Rx) r
  | _, _, _ => False
theorem F_check_question_is {CR CT CH : Addr} {r : D} {a : D} {b : D} {R : D → Prop} {Rx : Er → Prop} : F_check_question CR CT CH [r, a, b] R Rx = (asRow CR (fun h ts => RowOk h ts ∧ a.dat = true ∧ b.dat = true ∧ questX CT CH h ts.length a b (R .non) Rx) r) := rfl
theorem F_check_question_of {CR CT CH : Addr} {ds : List D} {R : D → Prop} {Rx : Er → Prop} (z : F_check_question CR CT CH ds R Rx) : ∃ (r : D) (a : D) (b : D), ds = [r, a, b] ∧ (asRow CR (fun h ts => RowOk h ts ∧ a.dat = true ∧ b.dat = true ∧ questX CT CH h ts.length a b (R .non) Rx) r) := by
  unfold F_check_question at z
  split at z
  · exact ⟨_, _, _, rfl, z⟩
  · exact z.elim
def b_check_question (Dx : Df K mg "check_question" s_check_question) : Binds K Dx.fd ["row", "one", "other"] [] := Dx.F.bindsN fun _ _ _ _ _ _ us hl => match us, hl with | [_, _, _], _ => rfl
def n_check_question : List Str := ["row", "one", "other"]
theorem sc_check_question : FnScope n_check_question ["row", "one", "other"] (defScope s_check_question) := ⟨rfl, rfl, rfl, by decide +kernel, rfl, by decide +kernel, by decide +kernel⟩
theorem ok_check_question (T : Tx mg) (K_Row : Kx_Row K mg) (X_InvalidHand : Xe K mg P.main.file "InvalidHand" s_InvalidHand___init__) (X_TooLong : Xe K mg P.main.file "TooLong" s_TooLong___init__) (D_check_question : Df K mg "check_question" s_check_question) (D_check_hand : Df K mg "check_hand" s_check_hand) (D_is_number : Df K mg "is_number" s_is_number) (hsup : mg "super" = none) (htop : (P.main.scope.names.lookup ("super" : Str)).isSome = false) : FnOk P w K mg base (L2.CX P w) 4 D_check_question.f D_check_question.fd ["row", "one", "other"] (spD (F_check_question K_Row.C X_TooLong.C X_InvalidHand.C)) := by
  have G_Row___len__ := ok_Row___len__ (P := P) (w := w) (base := base) T K_Row
  have G_check_hand := ok_check_hand (P := P) (w := w) (base := base) T D_check_hand D_is_number X_InvalidHand hsup htop
  have GX_TooLong := ok_TooLong___init__ (P := P) (w := w) (base := base) X_TooLong hsup htop
  refine fn_d D_check_question.F sc_check_question (fun ds R Rx hs0 => ?_) (fun cdv A outer s H E hr => have hu := hr.units
    (ds_cons (s_if (dt_cmp c_gt (d_callB (b_lenOw K_Row.o___len__ G_Row___len__ (b_Row___len__ K_Row.D___len__) (hr.mono (by decide))) T.m_len boot_len (da_cons (d_var 0) da_nil)) (d_gint T.c_MOST_PLACES) (nomark _)) (ds_one (s_raise X_TooLong.e.ox X_TooLong.e.iC X_TooLong.e.tI (by decide) (by decide) GX_TooLong (hr.mono (by decide)) (b_TooLong___init__ X_TooLong) passL X_TooLong.g rfl (takes_of rfl rfl rfl rfl) (da_cons (d_gint T.c_MOST_PLACES) da_nil))) ds_nil)
    (ds_cons (s_expr (d_call G_check_hand (hr.mono (by decide)) D_check_hand.g D_check_hand.F.kp (b_check_hand D_check_hand) .nil dfR_nil pass_d (da_cons (d_fld (d_var 0) K_Row.cls K_Row.n_hands) (da_cons (d_var 1) da_nil))))
    (ds_one (s_expr (d_call G_check_hand (hr.mono (by decide)) D_check_hand.g D_check_hand.F.kp (b_check_hand D_check_hand) .nil dfR_nil pass_d (da_cons (d_fld (d_var 0) K_Row.cls K_Row.n_hands) (da_cons (d_var 2) da_nil))))))) ) fun ds R Rx hs0 => ?_
  · obtain ⟨_, _, _, rfl, _⟩ := F_check_question_of hs0
    rfl
  · obtain ⟨r, a, b, rfl, hs⟩ := F_check_question_of hs0
    clear hs0
    simp only [n_check_question]
    walk_at "dg"
    obtain ⟨h, ts, rfl, ok, ha, hb, h1, h2⟩ := asRow_of hs
    walk_at "dg"
    have o4 := ok.2.2.2.1
    refine ⟨by omega, by omega, by omega, fun z => h1 (by omega), fun z => ?_⟩
    obtain ⟨h3, h4⟩ := h2 (by omega)
    exact ⟨ha, fun y => ⟨hb, fun x => (h4 y).2 x, fun x => (h4 y).1 x⟩, fun y => h3 y⟩
def dgN13 : Array Lean.Name := dgN12 ++ #[`F_check_question_is]
local macro_rules | `(tactic| walk_at "dg") => do let xs ← dgN13.mapM fun n => `(Lean.Parser.Tactic.simpLemma| $(Lean.mkIdent n):term); `(tactic| simp only [$xs,*, List.getElem?_cons_zero, List.getElem?_cons_succ])
def F_summed : Spec
  | [.lst xs, .int n], R, _ => ∃ ns, asInts xs = some ns ∧ ns.length ≤ 1000 ∧ 0 ≤ n ∧ n ≤ 1000 ∧ R (.lst ((psumN n.toNat ns).map .int))
  | _, _, _ => False
theorem F_summed_is {xs : List D} {n : Int} {R : D → Prop} {Rx : Er → Prop} : F_summed [.lst xs, .int n] R Rx = ∃ ns, asInts xs = some ns ∧ ns.length ≤ 1000 ∧ 0 ≤ n ∧ n ≤ 1000 ∧ R (.lst ((psumN n.toNat ns).map .int)) := rfl
def b_summed (Dx : Df K mg "summed" s_summed) : Binds K Dx.fd ["signs", "times"] [] := Dx.F.bindsN fun _ _ _ _ _ _ us hl => match us, hl with | [_, _], _ => rfl
def n_summed : List Str := ["signs", "times", "found", "step", "total", "late", "number"]
theorem sc_summed : FnScope n_summed ["signs", "times"] (defScope s_summed) := ⟨rfl, rfl, rfl, by decide +kernel, rfl, by decide +kernel, by decide +kernel⟩
theorem ok_summed (T : Tx mg) (D_summed : Df K mg "summed" s_summed) : FnOk P w K mg base (L2.CX P w) 1 D_summed.f D_summed.fd ["signs", "times"] (spD F_summed) := by
  refine fn_d D_summed.F sc_summed (fun ds R Rx h => ?_) (fun cdv A outer s H E hr => (ds_cons (s_set (i := 2) sc_summed.nd (d_ofF (f_list (d_var 0) T.m_list)))
    (ds_cons (s_for (passes_of rfl) rfl (i_rg1 (da_cons (d_var 1) da_nil) T.m_range) (g_name (i := 3) sc_summed.nd)
      (ds_cons (s_parV (i := 4) (j := 5) rfl sc_summed.nd d_int (f_lst da_nil))
        (ds_cons (s_for (passes_of rfl) rfl (i_list (d_var 2)) (g_name (i := 6) sc_summed.nd)
          (ds_cons (s_aug (i := 4) sc_summed.nd ip_add (d_var 6))
            (ds_one (s_app 5 (d_var 4) (hp := fun h => pe_bm PySem.F.plainAttrs_list PySem.F.slot_list_append PySem.F.type_list_append mt_append (pv 5) (pa_cons h pa_nil))))))
        (ds_one (s_frz 5 (s_set (i := 2) sc_summed.nd (d_var 5)))))))
    (ds_one (s_ret (d_var 2))))) ) fun ds R Rx h => ?_
  · match ds, h with
    | [.lst xs, .int n], h => rfl
  · match ds, h with
    | [.lst xs, .int n], hh =>
      obtain ⟨ns, e, hl, n0, n1, hR⟩ := hh
      obtain rfl := asInts_eq e
      simp only [n_summed]
      walk_at "dg"
      refine ⟨by omega, by omega, fun i env => ∃ e3 e4 e5 e6 : Option DV, env = [some (.val (.lst (ns.map D.int))), some (.val (.int n)), some (.val (.lst ((psumN i ns).map D.int))), e3, e4, e5, e6], ⟨_, _, _, _, rfl⟩, ?_, ?_⟩
      · rintro i d env e ⟨e3, e4, e5, e6, rfl⟩
        walk_at "dg"
        refine ⟨fun j env => j ≤ (psumN i ns).length ∧ ∃ e6 : Option DV, env = [some (.val (.lst (ns.map D.int))), some (.val (.int n)), some (.val (.lst ((psumN i ns).map D.int))), some (.val d), some (.val (.int ((psumN i ns).take j).sum)), some (.own ((psum 0 ((psumN i ns).take j)).map D.int)), e6], ⟨by omega, _, rfl⟩, ?_, ?_⟩
        · rintro j d2 env e2 ⟨hj, e6, rfl⟩
          obtain ⟨x, ex, rfl⟩ := List.mem_map.mp (List.mem_of_getElem? e2)
          obtain ⟨hj2, _⟩ := List.getElem?_eq_some_iff.mp e2
          rw [List.length_map] at hj2
          rw [getD_map hj2] at e2
          cases e2
          walk_at "dg"
          have es : ((psumN i ns).take j).sum + (psumN i ns).getD j 0 = ((psumN i ns).take (j + 1)).sum := by
            have e1 : (psumN i ns).take (j + 1) = (psumN i ns).take j ++ [(psumN i ns).getD j 0] := by rw [List.take_succ, List.getD, List.getElem?_eq_getElem hj2]; rfl
            rw [e1, List.sum_append]
            simp
          rw [es, psum_take hj2, List.map_append, psum_length, List.length_take]
          rw [psumN_length] at hj2 ⊢
          exact ⟨by omega, by omega, rfl, rfl⟩
        · rintro env ⟨_, e6, rfl⟩
          rw [List.take_length]
          walk_at "dg"
          rfl
      · rintro env ⟨e3, e4, e5, e6, rfl⟩
        walk_at "dg"
        exact hR
def sgn (a b : Int) (ts : List Int) : List Int := ts.map fun t => (if t = a then 1 else 0) - (if t = b then 1 else 0)
theorem sgn_length {a b : Int} {ts : List Int} : (sgn a b ts).length = ts.length := by unfold sgn; rw [List.length_map]
def dgN14 : Array Lean.Name := dgN13 ++ #[`F_summed_is]
local macro_rules | `(tactic| walk_at "dg") => do let xs ← dgN14.mapM fun n => `(Lean.Parser.Tactic.simpLemma| $(Lean.mkIdent n):term); `(tactic| simp only [$xs,*, List.getElem?_cons_zero, List.getElem?_cons_succ])
def F_gains_of (C : Addr) : Spec
  | [r, .int a, .int b, .int k], R, Rx => asRow C (fun h ts => RowOk h ts ∧ ts.length ≤ 1000 ∧ 0 ≤ k ∧ k ≤ 1000 ∧ R (.lst ((gainL (min k.toNat (ts.length - 1)) (sgn a b ts)).map .int))) r
  | _, _, _ => False
theorem F_gains_of_is {C : Addr} {r : D} {a : Int} {b : Int} {k : Int} {R : D → Prop} {Rx : Er → Prop} : F_gains_of C [r, .int a, .int b, .int k] R Rx = (asRow C (fun h ts => RowOk h ts ∧ ts.length ≤ 1000 ∧ 0 ≤ k ∧ k ≤ 1000 ∧ R (.lst ((gainL (min k.toNat (ts.length - 1)) (sgn a b ts)).map .int))) r) := rfl
theorem F_gains_of_of {C : Addr} {ds : List D} {R : D → Prop} {Rx : Er → Prop} (z : F_gains_of C ds R Rx) : ∃ (r : D) (a : Int) (b : Int) (k : Int), ds = [r, .int a, .int b, .int k] ∧ (asRow C (fun h ts => RowOk h ts ∧ ts.length ≤ 1000 ∧ 0 ≤ k ∧ k ≤ 1000 ∧ R (.lst ((gainL (min k.toNat (ts.length - 1)) (sgn a b ts)).map .int))) r) := by
  unfold F_gains_of at z
  split at z
  · exact ⟨_, _, _, _, rfl, z⟩
  · exact z.elim
def b_gains_of (Dx : Df K mg "gains_of" s_gains_of) : Binds K Dx.fd ["row", "one", "other", "k"] [] := Dx.F.bindsN fun _ _ _ _ _ _ us hl => match us, hl with | [_, _, _, _], _ => rfl
def n_gains_of : List Str := ["row", "one", "other", "k", "signs", "found", "late", "low", "hand"]
theorem sc_gains_of : FnScope n_gains_of ["row", "one", "other", "k"] (defScope s_gains_of) := ⟨rfl, rfl, rfl, by decide +kernel, rfl, by decide +kernel, by decide +kernel⟩
theorem ok_gains_of (T : Tx mg) (K_Row : Kx_Row K mg) (D_gains_of : Df K mg "gains_of" s_gains_of) (D_summed : Df K mg "summed" s_summed) : FnOk P w K mg base (L2.CX P w) 2 D_gains_of.f D_gains_of.fd ["row", "one", "other", "k"] (spD (F_gains_of K_Row.C)) := by
  have G_Row_turns := ok_Row_turns (P := P) (w := w) (base := base) T K_Row
  have G_summed := ok_summed (P := P) (w := w) (base := base) T D_summed
  refine fn_d D_gains_of.F sc_gains_of (fun ds R Rx hs0 => ?_) (fun cdv A outer s H E hr => have hu := hr.units
    (ds_cons (s_setLc (i := 4) rfl sc_gains_of.nd (i_list (d_ofN (d_methN0 (d_var 0) K_Row.cls K_Row.h_turns G_Row_turns (hr.mono (by decide)) (b_Row_turns K_Row.D_turns) pass_d))) (blkOk_by (own := [("hand", 8)]) (N := n_gains_of) (sc := defScope s_gains_of) (by decide +kernel)) (by decide) (fun _ _ _ _ _ => (g_name (i := 8) sc_gains_of.nd)) (fun _ _ _ _ _ => dts_nil) (fun _ _ _ _ _ => (d_sub (d_callT b_int T.m_int PyProof.Rows.boot_int (da_cons (d_cmp (c_eq hu) (d_var 8) (d_var 1) (nomark _)) da_nil)) (d_callT b_int T.m_int PyProof.Rows.boot_int (da_cons (d_cmp (c_eq hu) (d_var 8) (d_var 2) (nomark _)) da_nil)))))
    (ds_cons (s_set (i := 3) sc_gains_of.nd (d_callB (b_min2 rfl) T.m_min PyProof.Rows.boot_min (da_cons (d_var 3) (da_cons (d_sub (d_callB b_len T.m_len boot_len (da_cons (d_var 4) da_nil)) d_int) da_nil))))
    (ds_cons (s_parN (i := 5) (j := 6) (l := 4) rfl sc_gains_of.nd (f_slice (d_call G_summed (hr.mono (by decide)) D_summed.g D_summed.F.kp (b_summed D_summed) .nil dfR_nil pass_d (da_cons (d_var 4) (da_cons (d_var 3) da_nil))) do_none (do_some (d_sub (d_callB b_len T.m_len boot_len (da_cons (d_var 4) da_nil)) (d_var 3)))))
    (ds_cons (s_for (passes_of rfl) rfl (i_rg1 (da_cons (d_var 3) da_nil) T.m_range) (g_name (i := 7) sc_gains_of.nd)
      (ds_cons (s_set (i := 6) sc_gains_of.nd (d_call G_summed (hr.mono (by decide)) D_summed.g D_summed.F.kp (b_summed D_summed) .nil dfR_nil pass_d (da_cons (d_var 6) (da_cons d_int da_nil))))
        (ds_one (s_app 5 (d_ix (d_var 6) (d_sub (d_sub (d_callB b_len T.m_len boot_len (da_cons (d_var 4) da_nil)) d_int) (d_var 7))) (hp := fun h => pe_bm PySem.F.plainAttrs_list PySem.F.slot_list_append PySem.F.type_list_append mt_append (pv 5) (pa_cons h pa_nil))))))
    (ds_one (s_frz 5 (s_ret (d_var 5)))))))) ) fun ds R Rx hs0 => ?_
  · obtain ⟨_, _, _, _, rfl, _⟩ := F_gains_of_of hs0
    rfl
  · obtain ⟨r, a, b, k, rfl, hs⟩ := F_gains_of_of hs0
    clear hs0
    simp only [n_gains_of]
    walk_at "dg"
    obtain ⟨h, ts, rfl, ok, hl, k0, k1, hR⟩ := asRow_of hs
    have l0 := ok.2.2.1
    walk_at "dg"
    refine LcP.of (fun t => .int ((if t = a then 1 else 0) - (if t = b then 1 else 0))) (by rw [sizeLine_eq]; omega) (fun i t N e hN => ?_) ?_
    · walk_at "dg"
      exact hN
    have es : (ts.map fun t => D.int ((if t = a then 1 else 0) - (if t = b then 1 else 0))) = (sgn a b ts).map D.int := by
      unfold sgn
      rw [List.map_map]
      rfl
    rw [es]
    walk_at "dg"
    rw [sgn_length]
    generalize hK : min k.toNat (ts.length - 1) = K at hR
    have eK : (if (ts.length : Int) - 1 < k then (ts.length : Int) - 1 else k) = (K : Int) := by split <;> omega
    have hKl : K < ts.length := by omega
    rw [eK]
    have ec : cutD ((psumN (K : Int).toNat (sgn a b ts)).map D.int) none (some ((ts.length : Int) - (K : Int))) = ((psumN K (sgn a b ts)).take (ts.length - K)).map D.int := by
      rw [show (ts.length : Int) - (K : Int) = ((ts.length - K : Nat) : Int) by omega, cutD_to, Int.toNat_natCast, List.map_take]
    rw [ec]
    refine ⟨by omega, by omega, by omega, by omega, by omega, fun i env => i ≤ K ∧ ∃ e7 e8 : Option DV, env = [some (.val (row K_Row.C h ts)), some (.val (.int a)), some (.val (.int b)), some (.val (.int (K : Int))), some (.val (.lst ((sgn a b ts).map D.int))), some (.own ((((psumN K (sgn a b ts)).take (ts.length - K)) ++ (List.range i).map fun l => (psumN (l + 1) (sgn a b ts)).getD (ts.length - 1 - l) 0).map D.int)), some (.val (.lst ((psumN i (sgn a b ts)).map D.int))), e7, e8], ⟨by omega, none, none, by simp [psumN]⟩, ?_, ?_⟩
    · rintro i d env e ⟨hi, e7, e8, rfl⟩
      obtain ⟨hi2, rfl⟩ := ups_at e
      rw [Int.toNat_natCast] at hi2
      walk_at "dg"
      rw [psumN_length, sgn_length]
      have hlt : ts.length - 1 - i < (psumN (i + 1) (sgn a b ts)).length := by rw [psumN_length, sgn_length]; omega
      refine ⟨hl, .int ((psumN (i + 1) (sgn a b ts)).getD (ts.length - 1 - i) 0), at_ints (k := ts.length - 1 - i) (by omega) hlt, by rw [List.length_take]; omega, by omega, ?_, rfl⟩
      rw [List.range_succ]
      simp only [List.map_append, List.map_cons, List.map_nil, List.append_assoc]
    · rintro env ⟨_, e7, e8, rfl⟩
      walk_at "dg"
      unfold gainL at hR
      rw [sgn_length] at hR
      exact hR
def dgN15 : Array Lean.Name := dgN14 ++ #[`F_gains_of_is]
local macro_rules | `(tactic| walk_at "dg") => do let xs ← dgN15.mapM fun n => `(Lean.Parser.Tactic.simpLemma| $(Lean.mkIdent n):term); `(tactic| simp only [$xs,*, List.getElem?_cons_zero, List.getElem?_cons_succ])
def F_gainsq (CR CT CH CI : Addr) : Spec
  | [r, a, b, k], R, Rx => asRow CR (fun h ts => RowOk h ts ∧ a.dat = true ∧ b.dat = true ∧ k.dat = true ∧ questX CT CH h ts.length a b ((isNum k 0 200 = false → Rx (eIN CI k)) ∧ ∀ i j n : Int, a = .int i → b = .int j → k = .int n → 0 ≤ i → i < h → 0 ≤ j → j < h → 0 ≤ n → n ≤ 200 → R (.lst ((gainL (min n.toNat (ts.length - 1)) (sgn i j ts)).map .int))) Rx) r
  | _, _, _ => False
theorem F_gainsq_is {CR CT CH CI : Addr} {r : D} {a : D} {b : D} {k : D} {R : D → Prop} {Rx : Er → Prop} : F_gainsq CR CT CH CI [r, a, b, k] R Rx = (asRow CR (fun h ts => RowOk h ts ∧ a.dat = true ∧ b.dat = true ∧ k.dat = true ∧ questX CT CH h ts.length a b ((isNum k 0 200 = false → Rx (eIN CI k)) ∧ ∀ i j n : Int, a = .int i → b = .int j → k = .int n → 0 ≤ i → i < h → 0 ≤ j → j < h → 0 ≤ n → n ≤ 200 → R (.lst ((gainL (min n.toNat (ts.length - 1)) (sgn i j ts)).map .int))) Rx) r) := rfl
theorem F_gainsq_of {CR CT CH CI : Addr} {ds : List D} {R : D → Prop} {Rx : Er → Prop} (z : F_gainsq CR CT CH CI ds R Rx) : ∃ (r : D) (a : D) (b : D) (k : D), ds = [r, a, b, k] ∧ (asRow CR (fun h ts => RowOk h ts ∧ a.dat = true ∧ b.dat = true ∧ k.dat = true ∧ questX CT CH h ts.length a b ((isNum k 0 200 = false → Rx (eIN CI k)) ∧ ∀ i j n : Int, a = .int i → b = .int j → k = .int n → 0 ≤ i → i < h → 0 ≤ j → j < h → 0 ≤ n → n ≤ 200 → R (.lst ((gainL (min n.toNat (ts.length - 1)) (sgn i j ts)).map .int))) Rx) r) := by
  unfold F_gainsq at z
  split at z
  · exact ⟨_, _, _, _, rfl, z⟩
  · exact z.elim
def b_gains (Dx : Df K mg "gains" s_gains) : Binds K Dx.fd ["row", "one", "other", "k"] [] := Dx.F.bindsN fun _ _ _ _ _ _ us hl => match us, hl with | [_, _, _, _], _ => rfl
def n_gains : List Str := ["row", "one", "other", "k"]
theorem sc_gains : FnScope n_gains ["row", "one", "other", "k"] (defScope s_gains) := ⟨rfl, rfl, rfl, by decide +kernel, rfl, by decide +kernel, by decide +kernel⟩
theorem ok_gains (T : Tx mg) (K_Row : Kx_Row K mg) (X_InvalidHand : Xe K mg P.main.file "InvalidHand" s_InvalidHand___init__) (X_TooLong : Xe K mg P.main.file "TooLong" s_TooLong___init__) (X_InvalidNumber : Xe K mg P.main.file "InvalidNumber" s_InvalidNumber___init__) (D_gains : Df K mg "gains" s_gains) (D_check_question : Df K mg "check_question" s_check_question) (D_check_hand : Df K mg "check_hand" s_check_hand) (D_is_number : Df K mg "is_number" s_is_number) (D_check_class : Df K mg "check_class" s_check_class) (D_gains_of : Df K mg "gains_of" s_gains_of) (D_summed : Df K mg "summed" s_summed) (hsup : mg "super" = none) (htop : (P.main.scope.names.lookup ("super" : Str)).isSome = false) : FnOk P w K mg base (L2.CX P w) 5 D_gains.f D_gains.fd ["row", "one", "other", "k"] (spD (F_gainsq K_Row.C X_TooLong.C X_InvalidHand.C X_InvalidNumber.C)) := by
  have G_check_question := ok_check_question (P := P) (w := w) (base := base) T K_Row X_InvalidHand X_TooLong D_check_question D_check_hand D_is_number hsup htop
  have G_check_class := ok_check_class (P := P) (w := w) (base := base) T X_InvalidNumber D_check_class D_is_number hsup htop
  have G_gains_of := ok_gains_of (P := P) (w := w) (base := base) T K_Row D_gains_of D_summed
  refine fn_d D_gains.F sc_gains (fun ds R Rx hs0 => ?_) (fun cdv A outer s H E hr => have hu := hr.units
    (ds_cons (s_expr (d_call G_check_question (hr.mono (by decide)) D_check_question.g D_check_question.F.kp (b_check_question D_check_question) .nil dfR_nil pass_d (da_cons (d_var 0) (da_cons (d_var 1) (da_cons (d_var 2) da_nil)))))
    (ds_cons (s_expr (d_call G_check_class (hr.mono (by decide)) D_check_class.g D_check_class.F.kp (b_check_class D_check_class) .nil dfR_nil pass_d (da_cons (d_var 3) (da_cons d_int da_nil))))
    (ds_one (s_ret (d_call G_gains_of (hr.mono (by decide)) D_gains_of.g D_gains_of.F.kp (b_gains_of D_gains_of) .nil dfR_nil pass_d (da_cons (d_var 0) (da_cons (d_var 1) (da_cons (d_var 2) (da_cons (d_var 3) da_nil))))))))) ) fun ds R Rx hs0 => ?_
  · obtain ⟨_, _, _, _, rfl, _⟩ := F_gainsq_of hs0
    rfl
  · obtain ⟨r, a, b, k, rfl, hs⟩ := F_gainsq_of hs0
    clear hs0
    simp only [n_gains]
    walk_at "dg"
    obtain ⟨h, ts, rfl, ok, ha, hb, hk, h1, h2⟩ := asRow_of hs
    walk_at "dg"
    refine ⟨ok, ha, hb, h1, fun z => ⟨(h2 z).1, fun y => ⟨((h2 z).2 y).1, fun x => ?_⟩⟩⟩
    obtain ⟨h3, h4⟩ := ((h2 z).2 y).2 x
    refine ⟨hk, h3, fun u => ?_⟩
    obtain ⟨i, rfl, i1, i2⟩ := isNum_of y
    obtain ⟨j, rfl, j1, j2⟩ := isNum_of x
    obtain ⟨n, rfl, n1, n2⟩ := isNum_of u
    walk_at "dg"
    exact ⟨ok, by omega, n1, by omega, h4 i j n rfl rfl rfl i1 (by omega) j1 (by omega) n1 n2⟩
def dgN16 : Array Lean.Name := dgN15 ++ #[`F_gainsq_is]
local macro_rules | `(tactic| walk_at "dg") => do let xs ← dgN16.mapM fun n => `(Lean.Parser.Tactic.simpLemma| $(Lean.mkIdent n):term); `(tactic| simp only [$xs,*, List.getElem?_cons_zero, List.getElem?_cons_succ])
def rowD (n K j : Nat) : D := .lst (((List.range n).map (ray n K j)).map D.int)
theorem rowD_eq {n K j : Nat} : (D.lst ((List.range n).map fun i => D.int (ray n K j i))) = rowD n K j := by
  unfold rowD
  rw [List.map_map]
  rfl
def F_rays : Spec
  | [.int n, .int k], R, Rx => 1 ≤ n ∧ n ≤ 200 ∧ 0 ≤ k ∧ k ≤ 200 ∧ R (.lst ((List.range n.toNat).map (rowD n.toNat (min k.toNat (n.toNat - 1)))))
  | _, _, _ => False
theorem F_rays_is {n : Int} {k : Int} {R : D → Prop} {Rx : Er → Prop} : F_rays [.int n, .int k] R Rx = (1 ≤ n ∧ n ≤ 200 ∧ 0 ≤ k ∧ k ≤ 200 ∧ R (.lst ((List.range n.toNat).map (rowD n.toNat (min k.toNat (n.toNat - 1)))))) := rfl
theorem F_rays_of {ds : List D} {R : D → Prop} {Rx : Er → Prop} (z : F_rays ds R Rx) : ∃ (n : Int) (k : Int), ds = [.int n, .int k] ∧ (1 ≤ n ∧ n ≤ 200 ∧ 0 ≤ k ∧ k ≤ 200 ∧ R (.lst ((List.range n.toNat).map (rowD n.toNat (min k.toNat (n.toNat - 1)))))) := by
  unfold F_rays at z
  split at z
  · exact ⟨_, _, rfl, z⟩
  · exact z.elim
def b_rays (Dx : Df K mg "rays" s_rays) : Binds K Dx.fd ["places", "k"] [] := Dx.F.bindsN fun _ _ _ _ _ _ us hl => match us, hl with | [_, _], _ => rfl
def n_rays : List Str := ["places", "k", "found", "end", "at", "low"]
theorem sc_rays : FnScope n_rays ["places", "k"] (defScope s_rays) := ⟨rfl, rfl, rfl, by decide +kernel, rfl, by decide +kernel, by decide +kernel⟩
theorem ok_rays (T : Tx mg) (X_InvalidNumber : Xe K mg P.main.file "InvalidNumber" s_InvalidNumber___init__) (D_rays : Df K mg "rays" s_rays) (D_is_number : Df K mg "is_number" s_is_number) (D_check_class : Df K mg "check_class" s_check_class) (D_choose : Df K mg "choose" s_choose) (hsup : mg "super" = none) (htop : (P.main.scope.names.lookup ("super" : Str)).isSome = false) : FnOk P w K mg base (L2.CX P w) 4 D_rays.f D_rays.fd ["places", "k"] (spD F_rays) := by
  have G_is_number := ok_is_number (P := P) (w := w) (base := base) D_is_number T.m_isinstance T.m_int T.m_bool
  have G_check_class := ok_check_class (P := P) (w := w) (base := base) T X_InvalidNumber D_check_class D_is_number hsup htop
  have G_choose := ok_choose (P := P) (w := w) (base := base) D_choose T.m_range
  refine fn_d D_rays.F sc_rays (fun ds R Rx hs0 => ?_) (fun cdv A outer s H E hr => have hu := hr.units
    (ds_cons (s_if (dt_not (dt_tru (d_call G_is_number (hr.mono (by decide)) D_is_number.g D_is_number.F.kp (b_is_number D_is_number) .nil dfR_nil pass_d (da_cons (d_var 0) (da_cons d_int (da_cons (d_gint T.c_MOST_PLACES) da_nil)))))) (ds_one s_never) ds_nil)
    (ds_cons (s_expr (d_call G_check_class (hr.mono (by decide)) D_check_class.g D_check_class.F.kp (b_check_class D_check_class) .nil dfR_nil pass_d (da_cons (d_var 1) (da_cons d_int da_nil))))
    (ds_cons (s_set (i := 1) sc_rays.nd (d_callB (b_min2 rfl) T.m_min PyProof.Rows.boot_min (da_cons (d_var 1) (da_cons (d_sub (d_var 0) d_int) da_nil))))
    (ds_cons (s_setO (i := 2) sc_rays.nd (f_lst da_nil))
    (ds_cons (s_for (passes_of rfl) rfl (i_rg1 (da_cons (d_sub (d_var 0) (d_var 1)) da_nil) T.m_range) (g_name (i := 3) sc_rays.nd)
      (ds_one (s_if (dt_cmp (c_eq hu) (d_var 1) d_int (nomark _)) (ds_one (s_app 2 (d_ofF (f_lc rfl sc_rays.nd (i_rg1 (da_cons (d_var 0) da_nil) T.m_range) (blkOk_by (own := [("at", 4)]) (N := n_rays) (sc := defScope s_rays) (by decide +kernel)) (by decide) (fun _ _ _ _ _ => (g_name (i := 4) sc_rays.nd)) (fun _ _ _ _ _ => dts_nil) (fun _ _ _ _ _ => (d_callT b_int T.m_int PyProof.Rows.boot_int (da_cons (d_cmp (c_eq hu) (d_var 4) (d_var 3) (nomark _)) da_nil))))) (hp := fun h => pe_bm PySem.F.plainAttrs_list PySem.F.slot_list_append PySem.F.type_list_append mt_append (pv 2) (pa_cons h pa_nil)))) (ds_one (s_app 2 (d_ofF (f_lc rfl sc_rays.nd (i_rg1 (da_cons (d_var 0) da_nil) T.m_range) (blkOk_by (own := [("at", 4)]) (N := n_rays) (sc := defScope s_rays) (by decide +kernel)) (by decide) (fun _ _ _ _ _ => (g_name (i := 4) sc_rays.nd)) (fun _ _ _ _ _ => dts_nil) (fun _ _ _ _ _ => (d_if (dt_cmp c_le (d_var 4) (d_var 3) (nomark _)) (d_call G_choose (hr.mono (by decide)) D_choose.g D_choose.F.kp (b_choose D_choose) .nil dfR_nil passL (da_cons (d_sub (d_add (d_sub (d_var 3) (d_var 4)) (d_var 1)) d_int) (da_cons (d_sub (d_var 1) d_int) da_nil))) d_int)))) (hp := fun h => pe_bm PySem.F.plainAttrs_list PySem.F.slot_list_append PySem.F.type_list_append mt_append (pv 2) (pa_cons h pa_nil)))))))
    (ds_one (s_frz 2 (s_ret (d_add (d_var 2) (d_ofF (f_lc rfl sc_rays.nd (i_rg1 (da_cons (d_var 1) da_nil) T.m_range) (blkOk_by (own := [("low", 5)]) (N := n_rays) (sc := defScope s_rays) (by decide +kernel)) (by decide) (fun _ _ _ _ _ => (g_name (i := 5) sc_rays.nd)) (fun _ _ _ _ _ => dts_nil) (fun _ _ _ _ _ => (d_ofF (f_lc rfl sc_rays.nd (i_rg1 (da_cons (d_var 0) da_nil) T.m_range) (blkOk_by (own := [("at", 4)]) (N := n_rays) (by kernel_rfl)) (by decide) (fun _ _ _ _ _ => (g_name (i := 4) sc_rays.nd)) (fun _ _ _ _ _ => dts_nil) (fun _ _ _ _ _ => (d_call G_choose (hr.mono (by decide)) D_choose.g D_choose.F.kp (b_choose D_choose) .nil dfR_nil passL (da_cons (d_sub (d_sub (d_var 0) d_int) (d_var 4)) (da_cons (d_var 5) da_nil)))))))))))))))))) ) fun ds R Rx hs0 => ?_
  · obtain ⟨_, _, rfl, _⟩ := F_rays_of hs0
    rfl
  · obtain ⟨n, k, rfl, hs⟩ := F_rays_of hs0
    clear hs0
    simp only [n_rays]
    walk_at "dg"
    obtain ⟨hn, hn2, hk, hk2, hR⟩ := hs
    have e1 : isNum (.int n) 1 200 = true := by simp [isNum, hn, hn2]
    have e2 : isNum (.int k) 0 200 = true := by simp [isNum, hk, hk2]
    rw [e1, e2]
    walk_at "dg"
    have eK : (if n - 1 < k then n - 1 else k) = ((min k.toNat (n.toNat - 1) : Nat) : Int) := by split <;> omega
    rw [eK]
    obtain ⟨m, rfl⟩ : ∃ m : Nat, n = (m : Int) := ⟨n.toNat, by omega⟩
    rw [Int.toNat_natCast] at hR ⊢
    generalize hKd : min k.toNat (m - 1) = K at hR
    have hK : K < m := by omega
    have hm : m ≤ 200 := by omega
    have eD : ((m : Int) - (K : Int)).toNat = m - K := by omega
    rw [eD]
    refine ⟨by omega, by omega, fun s env => s ≤ m - K ∧ ∃ e3 : Option DV, env = [some (.val (.int m)), some (.val (.int K)), some (.own ((List.range s).map (rowD m K))), e3, none, none], ⟨by omega, none, rfl⟩, ?_, ?_⟩
    · rintro s d env e ⟨hs, e3, rfl⟩
      obtain ⟨hs2, rfl⟩ := ups_at e
      walk_at "dg"
      have fin : ∀ xs, xs = (List.range m).map (fun i => D.int (ray m K s i)) → s < 16777216 ∧ s + 1 ≤ m - K ∧ List.map (rowD m K) (List.range s) ++ [D.lst xs] = List.map (rowD m K) (List.range (s + 1)) := fun xs hx => by
        refine ⟨by omega, by omega, ?_⟩
        rw [hx, List.range_succ, List.map_append]
        simp [rowD]
      refine ⟨fun z => ⟨by omega, by omega, ?_⟩, fun z => ⟨by omega, by omega, ?_⟩⟩
      · rw [Int.toNat_natCast]
        refine LcP.upto (fun i => .int (ray m K s i)) (by rw [sizeLine_eq]; omega) (fun i N hi hN => ?_) ?_
        · walk_at "dg"
          unfold ray at hN
          rw [if_pos hs2, if_pos (by omega)] at hN
          by_cases y : i = s
          · rw [if_pos y] at hN
            rw [if_pos (by omega)]
            exact hN
          · rw [if_neg y] at hN
            rw [if_neg (by omega)]
            exact hN
        · exact fin _ rfl
      · rw [Int.toNat_natCast]
        refine LcP.upto (fun i => .int (ray m K s i)) (by rw [sizeLine_eq]; omega) (fun i N hi hN => ?_) ?_
        · walk_at "dg"
          unfold ray at hN
          rw [if_pos hs2, if_neg (by omega)] at hN
          refine ⟨fun y => ⟨by omega, by omega, by omega, by omega, ?_⟩, fun y => ?_⟩
          · rw [if_pos (by omega)] at hN
            have ea : (s : Int) - (i : Int) + (K : Int) - 1 = ((s - i + K - 1 : Nat) : Int) := by omega
            have eb : (K : Int) - 1 = ((K - 1 : Nat) : Int) := by omega
            rw [ea, eb, chs_nat]
            exact hN
          · rw [if_neg (by omega)] at hN
            exact hN
        · exact fin _ rfl
    · rintro env ⟨_, e3, rfl⟩
      walk_at "dg"
      refine ⟨by omega, by omega, ?_⟩
      rw [Int.toNat_natCast]
      refine LcP.upto (fun l => rowD m K (m - K + l)) (by rw [sizeLine_eq]; omega) (fun l N hl hN => ?_) ?_
      · walk_at "dg"
        refine ⟨by omega, by omega, ?_⟩
        rw [Int.toNat_natCast]
        refine LcP.upto (fun i => .int (ray m K (m - K + l) i)) (by rw [sizeLine_eq]; omega) (fun i N2 hi hN2 => ?_) ?_
        · walk_at "dg"
          have ea : (m : Int) - 1 - (i : Int) = ((m - 1 - i : Nat) : Int) := by omega
          rw [ea, chs_nat]
          have er : ray m K (m - K + l) i = ((bin (m - 1 - i) l : Nat) : Int) := by
            unfold ray
            rw [if_neg (by omega)]
            congr 3
            omega
          rw [er] at hN2
          exact ⟨by omega, by omega, by omega, by omega, hN2⟩
        · rw [← rowD_eq] at hN
          exact hN
      · walk_at "dg"
        refine ⟨by omega, ?_⟩
        have ec : List.map (rowD m K) (List.range (m - K)) ++ List.map (fun l => rowD m K (m - K + l)) (List.range K) = List.map (rowD m K) (List.range m) := by
          have e2 : m = m - K + K := by omega
          have e3 : List.range m = List.range (m - K) ++ (List.range K).map (m - K + ·) := by
            rw [← List.range_add]
            congr 1
          rw [e3, List.map_append, List.map_map]
          rfl
        rw [ec]
        exact hR
def dgN17 : Array Lean.Name := dgN16 ++ #[`F_rays_is]
local macro_rules | `(tactic| walk_at "dg") => do let xs ← dgN17.mapM fun n => `(Lean.Parser.Tactic.simpLemma| $(Lean.mkIdent n):term); `(tactic| simp only [$xs,*, List.getElem?_cons_zero, List.getElem?_cons_succ])
def F_differences : Spec
  | [.lst xs], R, Rx => ∃ ns, asInts xs = some ns ∧ ns.length ≤ 1000 ∧ R (.lst ((difs ns).map .int))
  | _, _, _ => False
theorem F_differences_is {xs : List D} {R : D → Prop} {Rx : Er → Prop} : F_differences [.lst xs] R Rx = (∃ ns, asInts xs = some ns ∧ ns.length ≤ 1000 ∧ R (.lst ((difs ns).map .int))) := rfl
theorem F_differences_of {ds : List D} {R : D → Prop} {Rx : Er → Prop} (z : F_differences ds R Rx) : ∃ (xs : List D), ds = [.lst xs] ∧ (∃ ns, asInts xs = some ns ∧ ns.length ≤ 1000 ∧ R (.lst ((difs ns).map .int))) := by
  unfold F_differences at z
  split at z
  · exact ⟨_, rfl, z⟩
  · exact z.elim
def b_differences (Dx : Df K mg "differences" s_differences) : Binds K Dx.fd ["numbers"] [] := Dx.F.bindsN fun _ _ _ _ _ _ us hl => match us, hl with | [_], _ => rfl
def n_differences : List Str := ["numbers", "one", "other"]
theorem sc_differences : FnScope n_differences ["numbers"] (defScope s_differences) := ⟨rfl, rfl, rfl, by decide +kernel, rfl, by decide +kernel, by decide +kernel⟩
theorem ok_differences (T : Tx mg) (D_differences : Df K mg "differences" s_differences) : FnOk P w K mg base (L2.CX P w) 1 D_differences.f D_differences.fd ["numbers"] (spD F_differences) := by

  refine fn_d D_differences.F sc_differences (fun ds R Rx hs0 => ?_) (fun cdv A outer s H E hr => have hu := hr.units
    (ds_one (s_ret (d_ofF (f_lc rfl sc_differences.nd (i_zip (da_cons (d_var 0) (da_cons (d_slice (d_var 0) (do_some d_int) do_none) da_nil)) T.m_zip) (blkOk_by (own := [("one", 1), ("other", 2)]) (N := n_differences) (sc := defScope s_differences) (by decide +kernel)) (by decide) (fun _ _ _ _ _ => (g_tup (n := 2) rfl (gs_cons (g_name (i := 1) sc_differences.nd) (gs_cons (g_name (i := 2) sc_differences.nd) gs_nil)))) (fun _ _ _ _ _ => dts_nil) (fun _ _ _ _ _ => (d_sub (d_var 1) (d_var 2))))))) ) fun ds R Rx hs0 => ?_
  · obtain ⟨_, rfl, _⟩ := F_differences_of hs0
    rfl
  · obtain ⟨xs, rfl, hs⟩ := F_differences_of hs0
    clear hs0
    simp only [n_differences]
    walk_at "dg"
    obtain ⟨ns, e, hn, hR⟩ := hs
    obtain rfl := asInts_eq e
    rw [cutD_1, ← List.map_drop]
    refine LcP.idx (fun k => .int ((difs ns).getD k 0)) (by rw [pairs_length, sizeLine_eq]; simp; omega) (fun i d N e hN => ?_) ?_
    · obtain ⟨h1, h2, rfl⟩ := pairs_ints e
      walk_at "dl"
      rw [List.length_drop] at h2
      rw [difs_get ns i (by omega)] at hN
      have e3 : (ns.drop 1).getD i 0 = ns.getD (i + 1) 0 := by simp [List.getD, Nat.add_comm]
      rw [e3]
      exact hN
    · have e4 : (pairs (ns.map D.int) ((ns.drop 1).map D.int)).length = (difs ns).length := by rw [pairs_length, difs_length]; simp
      rw [e4, range_getD]
      exact hR
def dgN18 : Array Lean.Name := dgN17 ++ #[`F_differences_is]
local macro_rules | `(tactic| walk_at "dg") => do let xs ← dgN18.mapM fun n => `(Lean.Parser.Tactic.simpLemma| $(Lean.mkIdent n):term); `(tactic| simp only [$xs,*, List.getElem?_cons_zero, List.getElem?_cons_succ])
def F_are_of_class : Spec
  | [.lst xs, .int k], R, _ => ∃ ns, asInts xs = some ns ∧ 0 < ns.length ∧ ns.length ≤ 1000 ∧ 0 ≤ k ∧ k ≤ 200 ∧ R (.bl (aocb (min k.toNat (ns.length - 1)) ns))
  | _, _, _ => False
theorem F_are_of_class_is {xs : List D} {k : Int} {R : D → Prop} {Rx : Er → Prop} : F_are_of_class [.lst xs, .int k] R Rx = ∃ ns, asInts xs = some ns ∧ 0 < ns.length ∧ ns.length ≤ 1000 ∧ 0 ≤ k ∧ k ≤ 200 ∧ R (.bl (aocb (min k.toNat (ns.length - 1)) ns)) := rfl
theorem F_are_of_class_of {ds : List D} {R : D → Prop} {Rx : Er → Prop} (h : F_are_of_class ds R Rx) : ∃ (ns : List Int) (k : Int), ds = [.lst (ns.map .int), .int k] ∧ 0 < ns.length ∧ ns.length ≤ 1000 ∧ 0 ≤ k ∧ k ≤ 200 ∧ R (.bl (aocb (min k.toNat (ns.length - 1)) ns)) := by
  unfold F_are_of_class at h
  split at h
  · obtain ⟨ns, e, h⟩ := h
    exact ⟨ns, _, by rw [asInts_eq e], h⟩
  · exact h.elim
def b_are_of_class (Dx : Df K mg "are_of_class" s_are_of_class) : Binds K Dx.fd ["worths", "k"] [] := Dx.F.bindsN fun _ _ _ _ _ _ us hl => match us, hl with | [_, _], _ => rfl
def n_are_of_class : List Str := ["worths", "k", "rest", "step", "number"]
theorem sc_are_of_class : FnScope n_are_of_class ["worths", "k"] (defScope s_are_of_class) := ⟨rfl, rfl, rfl, by decide +kernel, rfl, by decide +kernel, by decide +kernel⟩
def dgN19 : Array Lean.Name := dgN18 ++ #[`F_are_of_class_is]
local macro_rules | `(tactic| walk_at "dg") => do let xs ← dgN19.mapM fun n => `(Lean.Parser.Tactic.simpLemma| $(Lean.mkIdent n):term); `(tactic| simp only [$xs,*, List.getElem?_cons_zero, List.getElem?_cons_succ])
theorem ok_are_of_class (T : Tx mg) (D_are_of_class : Df K mg "are_of_class" s_are_of_class) (D_differences : Df K mg "differences" s_differences) : FnOk P w K mg base (L2.CX P w) 2 D_are_of_class.f D_are_of_class.fd ["worths", "k"] (spD F_are_of_class) := by
  have G_differences := ok_differences (P := P) (w := w) (base := base) T D_differences
  refine fn_d D_are_of_class.F sc_are_of_class (fun ds R Rx h => ?_) (fun cdv A outer s H E hr => (ds_cons (s_set (i := 2) sc_are_of_class.nd (d_ofF (f_list (d_var 0) T.m_list)))
    (ds_cons (s_for (passes_of rfl) rfl (i_rg1 (da_cons (d_callB (b_min2 rfl) T.m_min PyProof.Rows.boot_min (da_cons (d_var 1) (da_cons (d_sub (d_callB b_len T.m_len boot_len (da_cons (d_var 0) da_nil)) d_int) da_nil))) da_nil) T.m_range) (g_name (i := 3) sc_are_of_class.nd)
      (ds_cons (s_if (dt_tru (d_callB (b_any rfl) T.m_any PyProof.Rows.boot_any (da_cons (d_ofF (f_lc rfl sc_are_of_class.nd (i_list (d_var 2)) (blkOk_by (own := [("number", 4)]) (N := n_are_of_class) (sc := defScope s_are_of_class) (by decide +kernel)) (by decide) (fun _ _ _ _ _ => (g_name (i := 4) sc_are_of_class.nd)) (fun _ _ _ _ _ => dts_nil) (fun _ _ _ _ _ => (d_cmp c_lt (d_var 4) d_int (nomark _))))) da_nil))) (ds_one (s_ret d_bl)) ds_nil)
        (ds_one (s_set (i := 2) sc_are_of_class.nd (d_call G_differences (hr.mono (by decide)) D_differences.g D_differences.F.kp (b_differences D_differences) .nil dfR_nil pass_d (da_cons (d_var 2) da_nil))))))
    (ds_one (s_ret (d_not (d_callB (b_any rfl) T.m_any PyProof.Rows.boot_any (da_cons (d_ofF (f_lc rfl sc_are_of_class.nd (i_list (d_var 2)) (blkOk_by (own := [("number", 4)]) (N := n_are_of_class) (sc := defScope s_are_of_class) (by decide +kernel)) (by decide) (fun _ _ _ _ _ => (g_name (i := 4) sc_are_of_class.nd)) (fun _ _ _ _ _ => dts_nil) (fun _ _ _ _ _ => (d_cmp c_lt (d_var 4) d_int (nomark _))))) da_nil))))))) ) fun ds R Rx h => ?_
  · obtain ⟨ns, k, rfl, _⟩ := F_are_of_class_of h
    rfl
  · obtain ⟨ns, k, rfl, hn, hn2, hk, hk2, hR⟩ := F_are_of_class_of h
    clear h
    simp only [n_are_of_class]
    walk_at "dg"
    have eK : (if (ns.length : Int) - 1 < k then (ns.length : Int) - 1 else k) = ((min k.toNat (ns.length - 1) : Nat) : Int) := by split <;> omega
    rw [eK, Int.toNat_natCast]
    generalize hKd : min k.toNat (ns.length - 1) = K at hR
    have hK : K < ns.length := by omega
    have key : ∀ (ms : List Int) (R2 : List D → Prop) (o1 o2 o3 : Option DV), ms.length ≤ 1000 → R2 ((ms.map fun x => decide (x < 0)).map D.bl) → LcP (ms.map D.int) (yName 4) xYes (xOp opLt (xVar 4) (xC (D.int 0))) [4] [o1, o2, o3, none, none] R2 ∧ ∀ d, LcP (ms.map D.int) (yName 4) xYes (xOp opLt (xVar 4) (xC (D.int 0))) [4] [o1, o2, o3, d, none] R2 := by
      intro ms R2 o1 o2 o3 hl h2
      have go : ∀ d, LcP (ms.map D.int) (yName 4) xYes (xOp opLt (xVar 4) (xC (D.int 0))) [4] [o1, o2, o3, d, none] R2 := fun d => by
        refine LcP.map (fun d => match d with | .int x => .bl (decide (x < 0)) | d => d) (by rw [sizeLine_eq]; simp; omega) (fun i d N e hN => ?_) ?_
        · obtain ⟨x, _, rfl⟩ := List.mem_map.mp (List.mem_of_getElem? e)
          walk_at "dl"
          exact hN
        · rw [List.map_map] at h2 ⊢
          exact h2
      exact ⟨go none, go⟩
    have hd := difI_length ns
    refine ⟨by omega, by omega, fun s env => s ≤ K ∧ (∀ t, t < s → ∀ x ∈ difI t ns, 0 ≤ x) ∧ ∃ e3 : Option DV, env = [some (.val (.lst (ns.map D.int))), some (.val (.int k)), some (.val (.lst ((difI s ns).map D.int))), e3, none], ⟨by omega, fun t ht => absurd ht (by omega), none, rfl⟩, ?_, ?_⟩
    · rintro s d env e ⟨hs, hp, e3, rfl⟩
      obtain ⟨hs2, rfl⟩ := ups_at e
      walk_at "dg"
      refine (key _ _ _ _ _ (by rw [hd]; omega) ⟨_, asBls_map _, fun z => ?_, fun z => ?_⟩).2 _
      · have : aocb K ns = false := by
          cases q : aocb K ns with
          | false => rfl
          | true =>
            unfold aocb at q
            simp only [List.any_map, List.any_eq_true, Function.comp, id, decide_eq_true_eq] at z
            obtain ⟨x, hx, hx0⟩ := z
            have := List.all_eq_true.mp (List.all_eq_true.mp q s (List.mem_range.mpr (by omega))) x hx
            simp only [decide_eq_true_eq] at this
            omega
        rw [this] at hR
        exact hR
      · refine ⟨by rw [hd]; omega, by omega, fun t ht x hx => ?_, rfl⟩
        by_cases q : t < s
        · exact hp t q x hx
        · obtain rfl : t = s := by omega
          simp only [List.any_map, List.any_eq_false, Function.comp, id, decide_eq_true_eq] at z
          have := z x hx
          omega
    · rintro env ⟨_, hp, e3, rfl⟩
      walk_at "dg"
      refine (key _ _ _ _ _ (by rw [hd]; omega) ⟨_, asBls_map _, ?_⟩).2 _
      have : (!((difI K ns).map fun x => decide (x < 0)).any _root_.id) = aocb K ns := by
        rw [Bool.eq_iff_iff]
        unfold aocb
        simp only [Bool.not_eq_true', List.any_map, List.any_eq_false, Function.comp, id, decide_eq_true_eq, List.all_eq_true, List.mem_range]
        constructor
        · intro z t ht x hx
          by_cases q : t < K
          · exact hp t q x hx
          · obtain rfl : t = K := by omega
            have := z x hx
            omega
        · intro z x hx
          have := z K (by omega) x hx
          omega
      rw [this]
      exact hR
local macro_rules | `(tactic| walk_at "rk") => `(tactic| first
  | assumption
  | (refine rok_app ?_ ?_ ?_ <;> first | walk_at "rk" | (simp only [List.length_append, List.length_reverse, List.length_map, List.length_replicate]; omega))
  | (refine rok_rev ?_; walk_at "rk")
  | (refine rok_map ?_ _ (fun t => fmod_in (by assumption)); walk_at "rk")
  | omega
  | decide
  | (refine log_lt (k := 80) ?_ (by decide) (by decide); omega))
local macro_rules | `(tactic| walk_at "fin") => `(tactic| ((repeat' (first | (with_reducible assumption) | (with_reducible refine And.intro ?_ ?_) | (with_reducible intro _))); all_goals first | (with_reducible assumption) | omega | contradiction | trivial))
local macro_rules | `(tactic| walk_at "cj") => `(tactic| repeat' (refine And.intro (by walk_at "rk") ?_))
local macro_rules | `(tactic| walk_at "dg") => do let xs ← dgN19.mapM fun n => `(Lean.Parser.Tactic.simpLemma| $(Lean.mkIdent n):term); `(tactic| simp only [$xs,*, List.getElem?_cons_zero, List.getElem?_cons_succ])
def isInt : D → Bool
  | .int _ => true
  | _ => false
def isNums : D → Bool
  | .lst xs => xs.all isInt
  | .tup xs => xs.all isInt
  | _ => false
def lenD : D → Nat
  | .lst xs => xs.length
  | .tup xs => xs.length
  | _ => 0
theorem all_ints {ns : List Int} : (ns.map D.int).all isInt = true := by
  rw [List.all_map]
  exact List.all_eq_true.mpr fun _ _ => rfl
theorem ints_of_all : ∀ {xs : List D}, xs.all isInt = true → ∃ ns : List Int, xs = ns.map D.int
  | [], _ => ⟨[], rfl⟩
  | x :: xs, h => by
    rw [List.all_cons, Bool.and_eq_true] at h
    obtain ⟨ns, rfl⟩ := ints_of_all h.2
    cases x <;> first | exact (Bool.false_ne_true h.1).elim | exact ⟨_ :: ns, rfl⟩
theorem datL_mem : ∀ {xs : List D} {x : D}, datL xs = true → x ∈ xs → x.dat = true
  | y :: ys, x, h, m => by
    rw [datL_cons, Bool.and_eq_true] at h
    rcases List.mem_cons.mp m with rfl | m
    · exact h.1
    · exact datL_mem h.2 m
def F_are_numbers : Spec
  | [x], R, Rx => x.dat = true ∧ lenD x ≤ 100000 ∧ R (.bl (isNums x))
  | _, _, _ => False
theorem F_are_numbers_is {x : D} {R : D → Prop} {Rx : Er → Prop} : F_are_numbers [x] R Rx = (x.dat = true ∧ lenD x ≤ 100000 ∧ R (.bl (isNums x))) := rfl
theorem F_are_numbers_of {ds : List D} {R : D → Prop} {Rx : Er → Prop} (z : F_are_numbers ds R Rx) : ∃ (x : D), ds = [x] ∧ (x.dat = true ∧ lenD x ≤ 100000 ∧ R (.bl (isNums x))) := by
  unfold F_are_numbers at z
  split at z
  · exact ⟨_, rfl, z⟩
  · exact z.elim
def b_are_numbers (Dx : Df K mg "are_numbers" s_are_numbers) : Binds K Dx.fd ["value"] [] := Dx.F.bindsN fun _ _ _ _ _ _ us hl => match us, hl with | [_], _ => rfl
def n_are_numbers : List Str := ["value", "number"]
theorem sc_are_numbers : FnScope n_are_numbers ["value"] (defScope s_are_numbers) := ⟨rfl, rfl, rfl, by decide +kernel, rfl, by decide +kernel, by decide +kernel⟩
theorem ok_are_numbers (T : Tx mg) (D_are_numbers : Df K mg "are_numbers" s_are_numbers) : FnOk P w K mg base (L2.CX P w) 1 D_are_numbers.f D_are_numbers.fd ["value"] (spD F_are_numbers) := by

  refine fn_d D_are_numbers.F sc_are_numbers (fun ds R Rx hs0 => ?_) (fun cdv A outer s H E hr => have hu := hr.units
    (ds_cons (s_if (dt_not (dt_tru (d_callB b_isi T.m_isinstance PyProof.Rows.boot_isinstance (da_cons (d_var 0) (da_cons (d_tup (da_cons (d_bty T.m_list PyProof.Rows.boot_list) (da_cons (d_bty T.m_tuple PyProof.Rows.boot_tuple) da_nil))) da_nil))))) (ds_one (s_ret d_bl)) ds_nil)
    (ds_one (s_ret (d_callB (b_all rfl) T.m_all PyProof.Rows.boot_all (da_cons (d_ofF (f_lc rfl sc_are_numbers.nd (i_alt (i_list (d_var 0)) (i_tup (d_var 0))) (blkOk_by (own := [("number", 1)]) (N := n_are_numbers) (sc := defScope s_are_numbers) (by decide +kernel)) (by decide) (fun _ _ _ _ _ => (g_name (i := 1) sc_are_numbers.nd)) (fun _ _ _ _ _ => dts_nil) (fun _ _ _ _ _ => (d_and (d_callB b_isi T.m_isinstance PyProof.Rows.boot_isinstance (da_cons (d_var 1) (da_cons (d_bty T.m_int PyProof.Rows.boot_int) da_nil))) (d_one (d_not (d_callB b_isi T.m_isinstance PyProof.Rows.boot_isinstance (da_cons (d_var 1) (da_cons (d_bty T.m_bool PyProof.Rows.boot_bool) da_nil))))))))) da_nil))))) ) fun ds R Rx hs0 => ?_
  · obtain ⟨_, rfl, _⟩ := F_are_numbers_of hs0
    rfl
  · obtain ⟨x, rfl, hs⟩ := F_are_numbers_of hs0
    clear hs0
    simp only [n_are_numbers]
    walk_at "dg"
    obtain ⟨hd, hl, hR⟩ := hs
    cases x <;> try exact (Bool.false_ne_true hd).elim
    all_goals walk_at "dg"
    all_goals try exact hR
    · rename_i xs
      have hd : datL xs = true := hd
      left
      refine LcP.map (fun d => .bl (isInt d)) (by rw [sizeLine_eq]; exact Nat.le_trans hl (by decide)) (fun i d N e hN => ?_) ?_
      · have dd := datL_mem hd (List.mem_of_getElem? e)
        cases d <;> first | exact (Bool.false_ne_true dd).elim | (walk_at "dg"; exact hN)
      · have e : asBls (xs.map fun d => D.bl (isInt d)) = some (xs.map isInt) := by
          have := asBls_map (xs.map isInt)
          rw [List.map_map] at this
          exact this
        refine ⟨_, e, ?_⟩
        rw [List.all_map]
        exact hR
    · rename_i xs
      have hd : datL xs = true := hd
      right
      refine LcP.map (fun d => .bl (isInt d)) (by rw [sizeLine_eq]; exact Nat.le_trans hl (by decide)) (fun i d N e hN => ?_) ?_
      · have dd := datL_mem hd (List.mem_of_getElem? e)
        cases d <;> first | exact (Bool.false_ne_true dd).elim | (walk_at "dg"; exact hN)
      · have e : asBls (xs.map fun d => D.bl (isInt d)) = some (xs.map isInt) := by
          have := asBls_map (xs.map isInt)
          rw [List.map_map] at this
          exact this
        refine ⟨_, e, ?_⟩
        rw [List.all_map]
        exact hR
def dgN20 : Array Lean.Name := dgN19 ++ #[`F_are_numbers_is]
local macro_rules | `(tactic| walk_at "dg") => do let xs ← dgN20.mapM fun n => `(Lean.Parser.Tactic.simpLemma| $(Lean.mkIdent n):term); `(tactic| simp only [$xs,*, List.getElem?_cons_zero, List.getElem?_cons_succ])
theorem good_0 {x : D} : ¬ Good 0 x := by
  cases x <;> exact fun h => h
theorem fn_falseU {x : Str} {st : Stmt} {F : Spec} {ps : List Str} (D0 : Df K mg x st) (h : ∀ ds R Rx, ¬ F ds R Rx) : FnOk P w K mg base (L2.CX P w) 0 D0.f D0.fd ps (spU F) :=
  ⟨fun vs H Q E ⟨_, _, ds, R, Rx, _, _, _, _, z, _⟩ => (h ds R Rx z).elim, fun A outer s H args us vs Q E _ _ _ _ ⟨_, _, ds, R, Rx, _, _, _, _, z, _⟩ => (h ds R Rx z).elim⟩
def F_copied (n : Nat) : Spec
  | [x], R, Rx => Good n x ∧ R x
  | _, _, _ => False
theorem F_copied_is {n : Nat} {x : D} {R : D → Prop} {Rx : Er → Prop} : F_copied n [x] R Rx = (Good n x ∧ R x) := rfl
theorem F_copied_of {n : Nat} {ds : List D} {R : D → Prop} {Rx : Er → Prop} (z : F_copied n ds R Rx) : ∃ (x : D), ds = [x] ∧ (Good n x ∧ R x) := by
  unfold F_copied at z
  split at z
  · exact ⟨_, rfl, z⟩
  · exact z.elim
theorem z0_copied {ds : List D} {R : D → Prop} {Rx : Er → Prop} : ¬ F_copied 0 ds R Rx := fun z => by
  obtain ⟨x, rfl, h, _⟩ := F_copied_of z
  exact good_0 h
def b_copied (Dx : Df K mg "copied" s_copied) : Binds K Dx.fd ["value"] [] := Dx.F.bindsN fun _ _ _ _ _ _ us hl => match us, hl with | [_], _ => rfl
def n_copied : List Str := ["value", "part"]
theorem sc_copied : FnScope n_copied ["value"] (defScope s_copied) := ⟨rfl, rfl, rfl, by decide +kernel, rfl, by decide +kernel, by decide +kernel⟩
def dgN21 : Array Lean.Name := dgN20 ++ #[`F_copied_is]
local macro_rules | `(tactic| walk_at "dg") => do let xs ← dgN21.mapM fun n => `(Lean.Parser.Tactic.simpLemma| $(Lean.mkIdent n):term); `(tactic| simp only [$xs,*, List.getElem?_cons_zero, List.getElem?_cons_succ])
theorem ok_copied (T : Tx mg) (D_copied : Df K mg "copied" s_copied) : ∀ m : Nat, FnOk P w K mg base (L2.CX P w) (0 + m) D_copied.f D_copied.fd ["value"] (spU (F_copied m))
| 0 => FnOk.mono (fn_falseU D_copied fun ds R Rx h => z0_copied h) (by omega)
| m + 1 => by
  have G_copied := ok_copied T D_copied m

  refine fn_u D_copied.F sc_copied (fun ds R Rx hs0 => ?_) (fun cdv A outer s H E hr => have hu := hr.units
    (ds_cons (s_if (dt_tru (d_callB b_isi T.m_isinstance PyProof.Rows.boot_isinstance (da_cons (d_var 0) (da_cons (d_bty T.m_list PyProof.Rows.boot_list) da_nil)))) (ds_one (s_retUe (u_lc rfl sc_copied.nd (i_alt (i_list (d_var 0)) (i_tup (d_var 0))) (blkOk_by (own := [("part", 1)]) (N := n_copied) (sc := defScope s_copied) (by decide +kernel)) (by decide) (fun _ _ _ _ _ => (g_name (i := 1) sc_copied.nd)) (fun _ _ _ _ _ => dts_nil) (fun _ _ _ _ _ => (d_callU G_copied (hr.mono (by first | exact Nat.le_refl _ | exact Nat.le_succ _ | exact Nat.le_trans (show _ ≤ 0 by decide) (Nat.le_add_right 0 _))) D_copied.g D_copied.F.kp (b_copied D_copied) .nil dfR_nil passL (da_cons (d_var 1) da_nil)))))) ds_nil)
    (ds_cons (s_if (dt_tru (d_callB b_isi T.m_isinstance PyProof.Rows.boot_isinstance (da_cons (d_var 0) (da_cons (d_bty T.m_tuple PyProof.Rows.boot_tuple) da_nil)))) (ds_one (s_retUe (u_tupC (u_lc rfl sc_copied.nd (i_alt (i_list (d_var 0)) (i_tup (d_var 0))) (blkOk_by (own := [("part", 1)]) (N := n_copied) (sc := defScope s_copied) (by decide +kernel)) (by decide) (fun _ _ _ _ _ => (g_name (i := 1) sc_copied.nd)) (fun _ _ _ _ _ => dts_nil) (fun _ _ _ _ _ => (d_callU G_copied (hr.mono (by first | exact Nat.le_refl _ | exact Nat.le_succ _ | exact Nat.le_trans (show _ ≤ 0 by decide) (Nat.le_add_right 0 _))) D_copied.g D_copied.F.kp (b_copied D_copied) .nil dfR_nil passL (da_cons (d_var 1) da_nil)))) T.m_tuple PyProof.Rows.boot_tuple))) ds_nil)
    (ds_one (s_retUe (u_flat (d_var 0)))))) ) fun ds R Rx hs0 => ?_
  · obtain ⟨_, rfl, _⟩ := F_copied_of hs0
    rfl
  · obtain ⟨x, rfl, hs⟩ := F_copied_of hs0
    clear hs0
    simp only [n_copied]
    obtain ⟨hg, hR⟩ := hs
    have hd := (good_dat hg).1
    cases x <;> try exact (Bool.false_ne_true hd).elim
    all_goals
      walk_at "dg"
      try exact hR
    · rename_i xs
      left
      refine LcP.map (fun d => d) (by rw [sizeLine_eq]; exact Nat.le_trans hg.1 (by decide)) (fun i d N e hN => ?_) (by rw [List.map_id']; exact hR)
      walk_at "dg"
      exact ⟨hg.2 d (List.mem_of_getElem? e), hN⟩
    · rename_i xs
      right
      refine LcP.map (fun d => d) (by rw [sizeLine_eq]; exact Nat.le_trans hg.1 (by decide)) (fun i d N e hN => ?_) (by rw [List.map_id']; exact hR)
      walk_at "dg"
      exact ⟨hg.2 d (List.mem_of_getElem? e), hN⟩
/-- a list for a tuple -/
def toL : D → D
  | .tup xs => .lst xs
  | d => d
theorem w_toL_lst {xs : List D} : toL (.lst xs) = .lst xs := rfl
theorem w_toL_tup {xs : List D} : toL (.tup xs) = .lst xs := rfl
theorem w_toL_int {i : Int} : toL (.int i) = .int i := rfl
theorem w_toL_str {i : Str} : toL (.str i) = .str i := rfl
theorem w_toL_bl {i : Bool} : toL (.bl i) = .bl i := rfl
theorem w_toL_non : toL .non = .non := rfl
def F_as_list : Spec
  | [x], R, Rx => Good 5 x ∧ R (toL x)
  | _, _, _ => False
theorem F_as_list_is {x : D} {R : D → Prop} {Rx : Er → Prop} : F_as_list [x] R Rx = (Good 5 x ∧ R (toL x)) := rfl
theorem F_as_list_of {ds : List D} {R : D → Prop} {Rx : Er → Prop} (z : F_as_list ds R Rx) : ∃ (x : D), ds = [x] ∧ (Good 5 x ∧ R (toL x)) := by
  unfold F_as_list at z
  split at z
  · exact ⟨_, rfl, z⟩
  · exact z.elim
def b_as_list (Dx : Df K mg "as_list" s_as_list) : Binds K Dx.fd ["value"] [] := Dx.F.bindsN fun _ _ _ _ _ _ us hl => match us, hl with | [_], _ => rfl
def n_as_list : List Str := ["value", "part"]
theorem sc_as_list : FnScope n_as_list ["value"] (defScope s_as_list) := ⟨rfl, rfl, rfl, by decide +kernel, rfl, by decide +kernel, by decide +kernel⟩
def dgN22 : Array Lean.Name := dgN21 ++ #[`w_toL_lst, `w_toL_tup, `w_toL_int, `w_toL_str, `w_toL_bl, `w_toL_non, `F_as_list_is]
local macro_rules | `(tactic| walk_at "dg") => do let xs ← dgN22.mapM fun n => `(Lean.Parser.Tactic.simpLemma| $(Lean.mkIdent n):term); `(tactic| simp only [$xs,*, List.getElem?_cons_zero, List.getElem?_cons_succ])
theorem ok_as_list (T : Tx mg) (D_as_list : Df K mg "as_list" s_as_list) (D_copied : Df K mg "copied" s_copied) : FnOk P w K mg base (L2.CX P w) 5 D_as_list.f D_as_list.fd ["value"] (spU F_as_list) := by
  have G_copied := ok_copied (P := P) (w := w) (base := base) T D_copied 4
  refine fn_u D_as_list.F sc_as_list (fun ds R Rx hs0 => ?_) (fun cdv A outer s H E hr => have hu := hr.units
    (ds_one (s_retUe (u_if (dt_tru (d_callB b_isi T.m_isinstance PyProof.Rows.boot_isinstance (da_cons (d_var 0) (da_cons (d_tup (da_cons (d_bty T.m_list PyProof.Rows.boot_list) (da_cons (d_bty T.m_tuple PyProof.Rows.boot_tuple) da_nil))) da_nil)))) (u_lc rfl sc_as_list.nd (i_alt (i_list (d_var 0)) (i_tup (d_var 0))) (blkOk_by (own := [("part", 1)]) (N := n_as_list) (sc := defScope s_as_list) (by decide +kernel)) (by decide) (fun _ _ _ _ _ => (g_name (i := 1) sc_as_list.nd)) (fun _ _ _ _ _ => dts_nil) (fun _ _ _ _ _ => (d_callU G_copied (hr.mono (by decide)) D_copied.g D_copied.F.kp (b_copied D_copied) .nil dfR_nil passL (da_cons (d_var 1) da_nil)))) (u_flat (d_var 0))))) ) fun ds R Rx hs0 => ?_
  · obtain ⟨_, rfl, _⟩ := F_as_list_of hs0
    rfl
  · obtain ⟨x, rfl, hs⟩ := F_as_list_of hs0
    clear hs0
    simp only [n_as_list]
    obtain ⟨hg, hR⟩ := hs
    have hd := (good_dat hg).1
    cases x <;> try exact (Bool.false_ne_true hd).elim
    all_goals
      walk_at "dg"
      try exact hR
    · rename_i xs
      left
      refine LcP.map (fun d => d) (by rw [sizeLine_eq]; exact Nat.le_trans hg.1 (by decide)) (fun i d N e hN => ?_) (by rw [List.map_id']; exact hR)
      walk_at "dg"
      exact ⟨hg.2 d (List.mem_of_getElem? e), hN⟩
    · rename_i xs
      right
      refine LcP.map (fun d => d) (by rw [sizeLine_eq]; exact Nat.le_trans hg.1 (by decide)) (fun i d N e hN => ?_) (by rw [List.map_id']; exact hR)
      walk_at "dg"
      exact ⟨hg.2 d (List.mem_of_getElem? e), hN⟩
/-- an object of the class C with these names -/
def asP2 (C : Addr) (ks : List Str) (R : D → D → Prop) : D → Prop
  | .obj C' ks' [x, y] => C' = C ∧ ks' = ks ∧ R x y
  | _ => False
theorem w_asP2 {C : Addr} {ks : List Str} {R : D → D → Prop} {x y : D} : asP2 C ks R (.obj C ks [x, y]) = R x y := by simp [asP2]
def asP4 (C : Addr) (ks : List Str) (R : D → D → D → D → Prop) : D → Prop
  | .obj C' ks' [x, y, z, u] => C' = C ∧ ks' = ks ∧ R x y z u
  | _ => False
theorem w_asP4 {C : Addr} {ks : List Str} {R : D → D → D → D → Prop} {x y z u : D} : asP4 C ks R (.obj C ks [x, y, z, u]) = R x y z u := by simp [asP4]
theorem asP4_of {C : Addr} {ks : List Str} {R : D → D → D → D → Prop} {d : D} (h : asP4 C ks R d) : ∃ x y z u, d = .obj C ks [x, y, z, u] ∧ R x y z u := by
  unfold asP4 at h
  split at h
  · obtain ⟨rfl, rfl, h⟩ := h
    exact ⟨_, _, _, _, rfl, h⟩
  · exact h.elim
def dgN23 : Array Lean.Name := dgN22 ++ #[`w_asP2, `w_asP4]
local macro_rules | `(tactic| walk_at "dg") => do let xs ← dgN23.mapM fun n => `(Lean.Parser.Tactic.simpLemma| $(Lean.mkIdent n):term); `(tactic| simp only [$xs,*, List.getElem?_cons_zero, List.getElem?_cons_succ])
def F_Row_totals (C CW : Addr) : Spec
  | [r, x], R, Rx => asRow C (fun h ts => RowOk h ts ∧ x.dat = true ∧ lenD x ≤ 100000 ∧ (∀ xs, x = .tup xs → isNums x = false ∨ lenD x ≠ ts.length) ∧ (∀ ws : List Int, x = .lst (ws.map .int) → ws.length = ts.length → R (.lst ((totL h ts ws).map .int))) ∧ ((isNums x = false ∨ lenD x ≠ ts.length) → Rx (eIW CW x))) r
  | _, _, _ => False
theorem F_Row_totals_is {C CW : Addr} {r : D} {x : D} {R : D → Prop} {Rx : Er → Prop} : F_Row_totals C CW [r, x] R Rx = (asRow C (fun h ts => RowOk h ts ∧ x.dat = true ∧ lenD x ≤ 100000 ∧ (∀ xs, x = .tup xs → isNums x = false ∨ lenD x ≠ ts.length) ∧ (∀ ws : List Int, x = .lst (ws.map .int) → ws.length = ts.length → R (.lst ((totL h ts ws).map .int))) ∧ ((isNums x = false ∨ lenD x ≠ ts.length) → Rx (eIW CW x))) r) := rfl
theorem F_Row_totals_of {C CW : Addr} {ds : List D} {R : D → Prop} {Rx : Er → Prop} (z : F_Row_totals C CW ds R Rx) : ∃ (r : D) (x : D), ds = [r, x] ∧ (asRow C (fun h ts => RowOk h ts ∧ x.dat = true ∧ lenD x ≤ 100000 ∧ (∀ xs, x = .tup xs → isNums x = false ∨ lenD x ≠ ts.length) ∧ (∀ ws : List Int, x = .lst (ws.map .int) → ws.length = ts.length → R (.lst ((totL h ts ws).map .int))) ∧ ((isNums x = false ∨ lenD x ≠ ts.length) → Rx (eIW CW x))) r) := by
  unfold F_Row_totals at z
  split at z
  · exact ⟨_, _, rfl, z⟩
  · exact z.elim
def b_Row_totals (Dx : Dm K "totals" "Row.totals" s_Row_totals) : Binds K Dx.fd ["self", "worths"] [] := Dx.F.bindsN fun _ _ _ _ _ _ us hl => match us, hl with | [_, _], _ => rfl
def n_Row_totals : List Str := ["self", "worths", "found", "hand", "worth"]
theorem sc_Row_totals : FnScope n_Row_totals ["self", "worths"] (defScope s_Row_totals) := ⟨rfl, rfl, rfl, by decide +kernel, rfl, by decide +kernel, by decide +kernel⟩
theorem ok_Row_totals (T : Tx mg) (K_Row : Kx_Row K mg) (X_InvalidWorths : Xe K mg P.main.file "InvalidWorths" s_InvalidWorths___init__) (D_are_numbers : Df K mg "are_numbers" s_are_numbers) (hsup : mg "super" = none) (htop : (P.main.scope.names.lookup ("super" : Str)).isSome = false) : FnOk P w K mg base (L2.CX P w) 3 K_Row.D_totals.f K_Row.D_totals.fd ["self", "worths"] (spN (F_Row_totals K_Row.C X_InvalidWorths.C)) := by
  have G_are_numbers := ok_are_numbers (P := P) (w := w) (base := base) T D_are_numbers
  have GX_InvalidWorths := ok_InvalidWorths___init__ (P := P) (w := w) (base := base) X_InvalidWorths hsup htop
  refine fn_n K_Row.D_totals.F sc_Row_totals (fun ds R Rx hs0 => ?_) (fun cdv A outer s H E hr => have hu := hr.units
    (ds_cons (s_if (dw_pt (dw_or (dt_not (dt_tru (d_call G_are_numbers (hr.mono (by decide)) D_are_numbers.g D_are_numbers.F.kp (b_are_numbers D_are_numbers) .nil dfR_nil pass_d (da_cons (d_var 1) da_nil)))) (dw_or1 (dt_cmp (c_ne hu) (d_callB b_len T.m_len boot_len (da_cons (d_var 1) da_nil)) (d_callB b_len T.m_len boot_len (da_cons (d_fld (d_var 0) K_Row.cls K_Row.n_own_turns) da_nil)) (nomark _))))) (ds_one (s_raise X_InvalidWorths.e.ox X_InvalidWorths.e.iC X_InvalidWorths.e.tI (by decide) (by decide) GX_InvalidWorths (hr.mono (by decide)) (b_InvalidWorths___init__ X_InvalidWorths) passL X_InvalidWorths.g rfl (takes_of rfl rfl rfl rfl) (da_cons (d_var 1) da_nil))) ds_nil)
    (ds_cons (s_setO (i := 2) sc_Row_totals.nd (f_mul (d_ofF (f_lst (da_cons d_int da_nil))) (d_fld (d_var 0) K_Row.cls K_Row.n_hands)))
    (ds_cons (s_for (passes_of rfl) rfl (i_zip (da_cons (d_fld (d_var 0) K_Row.cls K_Row.n_own_turns) (da_cons (d_var 1) da_nil)) T.m_zip) (g_tup (n := 2) rfl (gs_cons (g_name (i := 3) sc_Row_totals.nd) (gs_cons (g_name (i := 4) sc_Row_totals.nd) gs_nil)))
      (ds_one (s_augO 2 ip_add (d_var 3) (d_var 4))))
    (ds_one (s_retO 2))))) ) fun ds R Rx hs0 => ?_
  · obtain ⟨_, _, rfl, _⟩ := F_Row_totals_of hs0
    rfl
  · obtain ⟨r, x, rfl, hs⟩ := F_Row_totals_of hs0
    clear hs0
    simp only [n_Row_totals]
    walk_at "dg"
    obtain ⟨h, ts, rfl, ok, hd, hl, ht, hR, hx⟩ := asRow_of hs
    clear hs
    walk_at "dg"
    refine ⟨hd, hl, fun z => hx (.inl z), fun z => ?_⟩
    cases x <;> try exact (Bool.false_ne_true z).elim
    case tup xs =>
      walk_at "dg"
      have y := (ht xs rfl).resolve_left (by rw [z]; decide)
      exact ⟨fun _ => hx (.inr y), fun y2 => absurd y2 (by have y3 : xs.length ≠ ts.length := y; omega)⟩
    rename_i xs
    obtain ⟨ws, rfl⟩ := ints_of_all z
    have hl2 : ws.length ≤ 100000 := by have : (ws.map D.int).length ≤ 100000 := hl; rw [List.length_map] at this; exact this
    walk_at "dg"
    have hR := hR ws rfl
    obtain ⟨o1, o2, o3, o4, o5⟩ := ok
    have e0 : (List.replicate h.toNat [D.int 0]).flatten = (totL h (ts.take 0) (ws.take 0)).map D.int := by
      rw [List.flatten_replicate_singleton]
      unfold totL tot
      apply List.ext_getElem?
      intro i
      by_cases hi : i < h.toNat
      · simp [hi]
      · simp [hi]
    refine ⟨fun y => hx (.inr (show (ws.map D.int).length ≠ ts.length by rw [List.length_map]; omega)), fun y => ⟨by omega, by omega, by omega, fun i env => i ≤ ts.length ∧ ∃ e3 e4 : Option DV, env = [some (.val (row K_Row.C h ts)), some (.val (.lst (ws.map D.int))), some (.own ((totL h (ts.take i) (ws.take i)).map D.int)), e3, e4], ⟨by omega, _, _, by rw [e0]⟩, ?_, ?_⟩⟩
    · rintro i d env e ⟨hi, e3, e4, rfl⟩
      obtain ⟨h1, h2, rfl⟩ := pairs_ints e
      have tm : ts.getD i 0 ∈ ts := by
        simp only [List.getD, List.getElem?_eq_getElem h1]
        exact List.getElem_mem h1
      obtain ⟨t0, t1⟩ := o5 _ tm
      walk_at "dg"
      have ht : (ts.getD i 0).toNat < h.toNat := by omega
      have lt : (totL h (ts.take i) (ws.take i)).length = h.toNat := by unfold totL; simp
      refine ⟨(ts.getD i 0).toNat, ?_, tot (ts.take i) (ws.take i) (ts.getD i 0), ?_, by omega, ?_⟩
      · unfold ixN
        rw [lt, if_pos t0, if_pos (by omega)]
      · unfold totL
        simp only [List.getElem?_map, List.getElem?_range ht, Option.map_some]
        rw [Int.toNat_of_nonneg t0]
      · rw [show totL h (ts.take i) (ws.take i) = (List.range h.toNat).map fun (k : Nat) => tot (ts.take i) (ws.take i) (k : Int) from rfl, ← List.map_set, totL_set t0 t1]
        congr 1
        unfold totL
        refine List.map_congr_left fun k hk => ?_
        have hk := List.mem_range.mp hk
        rw [tot_succ h1 h2]
        by_cases z : k = (ts.getD i 0).toNat
        · have z2 : ts.getD i 0 = (k : Int) := by omega
          rw [if_pos z, if_pos z2, z2]
        · have z2 : ¬ ts.getD i 0 = (k : Int) := by omega
          rw [if_neg z, if_neg z2, Int.add_zero]
    · rintro env ⟨_, e3, e4, rfl⟩
      have hl : ws.length = ts.length := by omega
      have el : (pairs (ts.map D.int) (ws.map D.int)).length = ts.length := by rw [pairs_length, List.length_map, List.length_map, hl, Nat.min_self]
      rw [el, List.take_length, ← hl, List.take_length]
      walk_at "dg"
      exact hR hl
local macro_rules | `(tactic| walk_at "rk") => `(tactic| first
  | assumption
  | (refine rok_app ?_ ?_ ?_ <;> first | walk_at "rk" | (simp only [List.length_append, List.length_reverse, List.length_map, List.length_replicate]; omega))
  | (refine rok_rev ?_; walk_at "rk")
  | (refine rok_map ?_ _ (fun t => fmod_in (by assumption)); walk_at "rk")
  | omega
  | decide
  | (refine log_lt (k := 80) ?_ (by decide) (by decide); omega))
local macro_rules | `(tactic| walk_at "fin") => `(tactic| ((repeat' (first | (with_reducible assumption) | (with_reducible refine And.intro ?_ ?_) | (with_reducible intro _))); all_goals first | (with_reducible assumption) | omega | contradiction | trivial))
local macro_rules | `(tactic| walk_at "cj") => `(tactic| repeat' (refine And.intro (by walk_at "rk") ?_))
theorem gcd_fmod {a b : Int} (hb : 0 < b) : Int.gcd b (a.fmod b) = Int.gcd a b := by
  rw [Int.fmod_eq_emod_of_nonneg _ (by omega), Int.gcd_comm a b]
  have := Int.gcd_add_mul_left_right b (a % b) (a / b)
  rw [Int.emod_add_mul_ediv] at this
  exact this.symm
/-- a fraction in lowest terms -/
abbrev gc (a b : Int) : Int := (Int.gcd a b : Int)
def lowD (a b : Int) : D := .tup [.int (a / gc a b), .int (b / gc a b)]
theorem gc_pos {a b : Int} (hb : 1 ≤ b) : 0 < gc a b := by
  have : Int.gcd a b ≠ 0 := fun z => by have := (Int.gcd_eq_zero_iff.mp z).2; omega
  show 0 < (Int.gcd a b : Int)
  omega
theorem gc_le {a b : Int} (hb : 1 ≤ b) : gc a b ≤ b := Int.le_of_dvd (by omega) (Int.gcd_dvd_right a b)
def dgN24 : Array Lean.Name := dgN23 ++ #[`F_Row_totals_is]
local macro_rules | `(tactic| walk_at "dg") => do let xs ← dgN24.mapM fun n => `(Lean.Parser.Tactic.simpLemma| $(Lean.mkIdent n):term); `(tactic| simp only [$xs,*, List.getElem?_cons_zero, List.getElem?_cons_succ])
def F_divisor : Spec
  | [.int a, .int b], R, Rx => 0 ≤ b ∧ R (.int (gc a b))
  | _, _, _ => False
theorem F_divisor_is {a : Int} {b : Int} {R : D → Prop} {Rx : Er → Prop} : F_divisor [.int a, .int b] R Rx = (0 ≤ b ∧ R (.int (gc a b))) := rfl
theorem F_divisor_of {ds : List D} {R : D → Prop} {Rx : Er → Prop} (z : F_divisor ds R Rx) : ∃ (a : Int) (b : Int), ds = [.int a, .int b] ∧ (0 ≤ b ∧ R (.int (gc a b))) := by
  unfold F_divisor at z
  split at z
  · exact ⟨_, _, rfl, z⟩
  · exact z.elim
def b_divisor (Dx : Df K mg "divisor" s_divisor) : Binds K Dx.fd ["one", "other"] [] := Dx.F.bindsN fun _ _ _ _ _ _ us hl => match us, hl with | [_, _], _ => rfl
def n_divisor : List Str := ["one", "other"]
theorem sc_divisor : FnScope n_divisor ["one", "other"] (defScope s_divisor) := ⟨rfl, rfl, rfl, by decide +kernel, rfl, by decide +kernel, by decide +kernel⟩
theorem ok_divisor (T : Tx mg) (D_divisor : Df K mg "divisor" s_divisor) : FnOk P w K mg base (L2.CX P w) 1 D_divisor.f D_divisor.fd ["one", "other"] (spD F_divisor) := by

  refine fn_d D_divisor.F sc_divisor (fun ds R Rx hs0 => ?_) (fun cdv A outer s H E hr => have hu := hr.units
    (ds_cons (s_while (passes_of rfl) (dt_cmp (c_ne hu) (d_var 1) d_int (nomark _))
      (ds_one (s_par (i := 0) (j := 1) rfl sc_divisor.nd (da_cons (d_var 1) (da_cons (d_mod (d_var 0) (d_var 1)) da_nil)))))
    (ds_one (s_ret (d_callB b_abs T.m_abs (by decide +kernel) (da_cons (d_var 0) da_nil))))) ) fun ds R Rx hs0 => ?_
  · obtain ⟨_, _, rfl, _⟩ := F_divisor_of hs0
    rfl
  · obtain ⟨a, b, rfl, hs⟩ := F_divisor_of hs0
    clear hs0
    simp only [n_divisor]
    walk_at "dg"
    obtain ⟨b0, hR⟩ := hs
    refine ⟨fun m env => ∃ x y : Int, env = [some (.val (.int x)), some (.val (.int y))] ∧ 0 ≤ y ∧ Int.gcd x y = Int.gcd a b ∧ y.toNat ≤ m, ⟨b.toNat, a, b, rfl, b0, rfl, Nat.le_refl _⟩, ?_⟩
    rintro m env ⟨x, y, rfl, y0, e, hm⟩
    walk_at "dg"
    refine ⟨fun z => ⟨z, y.toNat - 1, by omega, y, x.fmod y, ⟨rfl, rfl⟩, Int.fmod_nonneg_of_pos _ (by omega), ?_, ?_⟩, fun z => ?_⟩
    · rw [gcd_fmod (by omega)]
      exact e
    · have := Int.fmod_lt_of_pos x (show 0 < y by omega)
      omega
    · subst z
      have eg : gc a b = if x < 0 then -x else x := by
        show (Int.gcd a b : Int) = _
        rw [← e, Int.gcd_zero_right]
        split <;> omega
      rw [eg] at hR
      exact hR
def F_lowest : Spec
  | [.int a, .int b], R, Rx => 1 ≤ b ∧ b.natAbs < 2 ^ 8999 ∧ R (lowD a b)
  | _, _, _ => False
theorem F_lowest_is {a : Int} {b : Int} {R : D → Prop} {Rx : Er → Prop} : F_lowest [.int a, .int b] R Rx = (1 ≤ b ∧ b.natAbs < 2 ^ 8999 ∧ R (lowD a b)) := rfl
theorem F_lowest_of {ds : List D} {R : D → Prop} {Rx : Er → Prop} (z : F_lowest ds R Rx) : ∃ (a : Int) (b : Int), ds = [.int a, .int b] ∧ (1 ≤ b ∧ b.natAbs < 2 ^ 8999 ∧ R (lowD a b)) := by
  unfold F_lowest at z
  split at z
  · exact ⟨_, _, rfl, z⟩
  · exact z.elim
def b_lowest (Dx : Df K mg "lowest" s_lowest) : Binds K Dx.fd ["above", "below"] [] := Dx.F.bindsN fun _ _ _ _ _ _ us hl => match us, hl with | [_, _], _ => rfl
def n_lowest : List Str := ["above", "below", "part"]
theorem sc_lowest : FnScope n_lowest ["above", "below"] (defScope s_lowest) := ⟨rfl, rfl, rfl, by decide +kernel, rfl, by decide +kernel, by decide +kernel⟩
def dgN25 : Array Lean.Name := dgN24 ++ #[`F_divisor_is, `F_lowest_is]
local macro_rules | `(tactic| walk_at "dg") => do let xs ← dgN25.mapM fun n => `(Lean.Parser.Tactic.simpLemma| $(Lean.mkIdent n):term); `(tactic| simp only [$xs,*, List.getElem?_cons_zero, List.getElem?_cons_succ])
theorem ok_lowest (T : Tx mg) (D_lowest : Df K mg "lowest" s_lowest) (D_divisor : Df K mg "divisor" s_divisor) : FnOk P w K mg base (L2.CX P w) 2 D_lowest.f D_lowest.fd ["above", "below"] (spD F_lowest) := by
  have G_divisor := ok_divisor (P := P) (w := w) (base := base) T D_divisor
  refine fn_d D_lowest.F sc_lowest (fun ds R Rx hs0 => ?_) (fun cdv A outer s H E hr => have hu := hr.units
    (ds_cons (s_set (i := 2) sc_lowest.nd (d_call G_divisor (hr.mono (by decide)) D_divisor.g D_divisor.F.kp (b_divisor D_divisor) .nil dfR_nil pass_d (da_cons (d_var 0) (da_cons (d_var 1) da_nil))))
    (ds_one (s_ret (d_tup (da_cons (d_fdiv (d_var 0) (d_var 2)) (da_cons (d_fdiv (d_var 1) (d_var 2)) da_nil)))))) ) fun ds R Rx hs0 => ?_
  · obtain ⟨_, _, rfl, _⟩ := F_lowest_of hs0
    rfl
  · obtain ⟨a, b, rfl, hs⟩ := F_lowest_of hs0
    clear hs0
    simp only [n_lowest]
    walk_at "dg"
    obtain ⟨b0, hb, hR⟩ := hs
    have g0 := gc_pos (a := a) b0
    have g1 := gc_le (a := a) b0
    have dv : DivOk (gc a b) := .inr ⟨g0, log_lt (k := 8999) (Nat.lt_of_le_of_lt (by omega) hb) (by decide) (by decide)⟩
    rw [Int.fdiv_eq_ediv_of_nonneg _ (by omega), Int.fdiv_eq_ediv_of_nonneg _ (by omega)]
    exact ⟨by omega, dv, dv, hR⟩
local macro_rules | `(tactic| walk_at "rk") => `(tactic| first
  | assumption
  | (refine rok_app ?_ ?_ ?_ <;> first | walk_at "rk" | (simp only [List.length_append, List.length_reverse, List.length_map, List.length_replicate]; omega))
  | (refine rok_rev ?_; walk_at "rk")
  | (refine rok_map ?_ _ (fun t => fmod_in (by assumption)); walk_at "rk")
  | omega
  | decide
  | (refine log_lt (k := 80) ?_ (by decide) (by decide); omega))
local macro_rules | `(tactic| walk_at "fin") => `(tactic| ((repeat' (first | (with_reducible assumption) | (with_reducible refine And.intro ?_ ?_) | (with_reducible intro _))); all_goals first | (with_reducible assumption) | omega | contradiction | trivial))
local macro_rules | `(tactic| walk_at "cj") => `(tactic| repeat' (refine And.intro (by walk_at "rk") ?_))
/-- an object of the class C with these names -/
def asP5 (C : Addr) (ks : List Str) (R : D → D → D → D → D → Prop) : D → Prop
  | .obj C' ks' [x, y, z, u, v] => C' = C ∧ ks' = ks ∧ R x y z u v
  | _ => False
theorem w_asP5 {C : Addr} {ks : List Str} {R : D → D → D → D → D → Prop} {x y z u v : D} : asP5 C ks R (.obj C ks [x, y, z, u, v]) = R x y z u v := by simp [asP5]
theorem asP5_of {C : Addr} {ks : List Str} {R : D → D → D → D → D → Prop} {d : D} (h : asP5 C ks R d) : ∃ x y z u v, d = .obj C ks [x, y, z, u, v] ∧ R x y z u v := by
  unfold asP5 at h
  split at h
  · obtain ⟨rfl, rfl, h⟩ := h
    exact ⟨_, _, _, _, _, rfl, h⟩
  · exact h.elim
abbrev ksGain : List Str := ["own_one", "own_other", "own_k", "own_amount", "own_worths"]
theorem fld_ga1 {x y z u v : D} : fld ksGain [x, y, z, u, v] "own_one" = some x := rfl
theorem fld_ga2 {x y z u v : D} : fld ksGain [x, y, z, u, v] "own_other" = some y := rfl
theorem fld_ga3 {x y z u v : D} : fld ksGain [x, y, z, u, v] "own_k" = some z := rfl
theorem fld_ga4 {x y z u v : D} : fld ksGain [x, y, z, u, v] "own_amount" = some u := rfl
theorem fld_ga5 {x y z u v : D} : fld ksGain [x, y, z, u, v] "own_worths" = some v := rfl
theorem fld_ga6 {x y z u v : D} : fld ksGain [x, y, z, u, v] "KIND" = none := rfl
theorem fld_ga7 {x y z u v : D} : fld ksGain [x, y, z, u, v] "GOOD" = none := rfl
theorem fld_ga8 {x y z u v : D} : fld ksGain [x, y, z, u, v] "told" = none := rfl
theorem fld_ga9 {x y z u v : D} : fld ksGain [x, y, z, u, v] "holds" = none := rfl
theorem fld_ga10 {x y z u v : D} : fld ksGain [x, y, z, u, v] "worths" = none := rfl
theorem fld_ga11 {x y z u v : D} : fld ksGain [x, y, z, u, v] "fits" = none := rfl
theorem fld_ga12 {x y z u v : D} : fld ksGain [x, y, z, u, v] "amount" = none := rfl
theorem fld_ga13 {x y z u v : D} : fld ksGain [x, y, z, u, v] "one" = none := rfl
theorem fld_ga14 {x y z u v : D} : fld ksGain [x, y, z, u, v] "other" = none := rfl
theorem fld_ga15 {x y z u v : D} : fld ksGain [x, y, z, u, v] "k" = none := rfl
abbrev gaD (C : Addr) (a b k am ws : D) : D := .obj C ksGain [a, b, k, am, ws]
def dgN26 : Array Lean.Name := dgN25 ++ #[`w_asP5, `fld_ga1, `fld_ga2, `fld_ga3, `fld_ga4, `fld_ga5, `fld_ga6, `fld_ga7, `fld_ga8, `fld_ga9, `fld_ga10, `fld_ga11, `fld_ga12, `fld_ga13, `fld_ga14, `fld_ga15]
local macro_rules | `(tactic| walk_at "dg") => do let xs ← dgN26.mapM fun n => `(Lean.Parser.Tactic.simpLemma| $(Lean.mkIdent n):term); `(tactic| simp only [$xs,*, List.getElem?_cons_zero, List.getElem?_cons_succ])
def F_Gain_sup___init__ (C : Addr) : Spec
  | [a, b, k], R, Rx => R (.obj C ["own_one", "own_other", "own_k"] [a, b, k])
  | _, _, _ => False
theorem F_Gain_sup___init___is {C : Addr} {a : D} {b : D} {k : D} {R : D → Prop} {Rx : Er → Prop} : F_Gain_sup___init__ C [a, b, k] R Rx = (R (.obj C ["own_one", "own_other", "own_k"] [a, b, k])) := rfl
theorem F_Gain_sup___init___of {C : Addr} {ds : List D} {R : D → Prop} {Rx : Er → Prop} (z : F_Gain_sup___init__ C ds R Rx) : ∃ (a : D) (b : D) (k : D), ds = [a, b, k] ∧ (R (.obj C ["own_one", "own_other", "own_k"] [a, b, k])) := by
  unfold F_Gain_sup___init__ at z
  split at z
  · exact ⟨_, _, _, rfl, z⟩
  · exact z.elim
def b_Gain_sup___init__ (Dx : Dm K "__init__" "Compared.__init__" s_Gain_sup___init__) : Binds K Dx.fd ["self", "one", "other", "k"] [] := Dx.F.bindsN fun _ _ _ _ _ _ us hl => match us, hl with | [_, _, _, _], _ => rfl
def n_Gain_sup___init__ : List Str := ["self", "one", "other", "k"]
theorem sc_Gain_sup___init__ : FnScope n_Gain_sup___init__ ["self", "one", "other", "k"] (defScope s_Gain_sup___init__) := ⟨rfl, rfl, rfl, by decide +kernel, rfl, by decide +kernel, by decide +kernel⟩
theorem ok_Gain_sup___init__ (T : Tx mg) (K_Gain : Kx_Gain K mg P.main.file) : FnOk P w K mg base (L2.CX P w) 5 K_Gain.D_sup___init__.f K_Gain.D_sup___init__.fd ["self", "one", "other", "k"] (spI K_Gain.C (F_Gain_sup___init__ K_Gain.C)) := by

  refine fn_i K_Gain.D_sup___init__.F sc_Gain_sup___init__ (fun ds R Rx hs0 => ?_) (fun p dx cdv A outer s H E hr => have hu := hr.units
    (is_set (d_var 1)
    (is_set (d_var 2)
    (is_set (d_var 3)
    is_nil K_Gain.cls K_Gain.n_own_k) K_Gain.cls K_Gain.n_own_other) K_Gain.cls K_Gain.n_own_one) ) fun p ds R Rx hs0 => ?_
  · obtain ⟨_, _, _, rfl, _⟩ := F_Gain_sup___init___of hs0
    rfl
  · obtain ⟨a, b, k, rfl, hs⟩ := F_Gain_sup___init___of hs0
    clear hs0
    simp only [n_Gain_sup___init__, jSt, jSet, jNil]
    walk_at "dg"
    exact ⟨by decide, by decide, by decide, hs⟩
def F_Gain___init__ (C : Addr) : Spec
  | [a, b, k, m, q], R, Rx => Good 5 m ∧ Good 5 q ∧ a.flat = true ∧ b.flat = true ∧ k.flat = true ∧ R (gaD C a b k m (toL q))
  | _, _, _ => False
theorem F_Gain___init___is {C : Addr} {a : D} {b : D} {k : D} {m : D} {q : D} {R : D → Prop} {Rx : Er → Prop} : F_Gain___init__ C [a, b, k, m, q] R Rx = (Good 5 m ∧ Good 5 q ∧ a.flat = true ∧ b.flat = true ∧ k.flat = true ∧ R (gaD C a b k m (toL q))) := rfl
theorem F_Gain___init___of {C : Addr} {ds : List D} {R : D → Prop} {Rx : Er → Prop} (z : F_Gain___init__ C ds R Rx) : ∃ (a : D) (b : D) (k : D) (m : D) (q : D), ds = [a, b, k, m, q] ∧ (Good 5 m ∧ Good 5 q ∧ a.flat = true ∧ b.flat = true ∧ k.flat = true ∧ R (gaD C a b k m (toL q))) := by
  unfold F_Gain___init__ at z
  split at z
  · exact ⟨_, _, _, _, _, rfl, z⟩
  · exact z.elim
theorem b_Gain___init__ {fl : Str} {C : Addr} (Dx : Dsup K fl "__init__" "Gain.__init__" s_Gain___init__ C) : Binds K Dx.fd ["self", "one", "other", "k", "amount", "worths"] [] := Dx.binds fun _ _ _ _ _ _ _ us hl => match us, hl with | [_, _, _, _, _, _], _ => rfl
def n_Gain___init__ : List Str := ["self", "one", "other", "k", "amount", "worths"]
theorem sc_Gain___init__ : EXS.SScope n_Gain___init__ ["self", "one", "other", "k", "amount", "worths"] (defScope s_Gain___init__) := ⟨rfl, rfl, rfl, by decide +kernel, rfl, by decide +kernel, by decide +kernel, by decide +kernel, rfl, rfl⟩
def dgN27 : Array Lean.Name := dgN26 ++ #[`F_Gain_sup___init___is, `F_Gain___init___is]
local macro_rules | `(tactic| walk_at "dg") => do let xs ← dgN27.mapM fun n => `(Lean.Parser.Tactic.simpLemma| $(Lean.mkIdent n):term); `(tactic| simp only [$xs,*, List.getElem?_cons_zero, List.getElem?_cons_succ])
theorem ok_Gain___init__ (T : Tx mg) (K_Gain : Kx_Gain K mg P.main.file) (D_copied : Df K mg "copied" s_copied) (D_as_list : Df K mg "as_list" s_as_list) (hsup : mg "super" = none) (htop : (P.main.scope.names.lookup ("super" : Str)).isSome = false) : FnOk P w K mg base (L2.CX P w) 6 K_Gain.D___init__.f K_Gain.D___init__.fd ["self", "one", "other", "k", "amount", "worths"] (spIN K_Gain.C (F_Gain___init__ K_Gain.C)) := by
  have G_copied := ok_copied (P := P) (w := w) (base := base) T D_copied 5
  have G_as_list := ok_as_list (P := P) (w := w) (base := base) T D_as_list D_copied
  have G_Gain_sup___init__ := ok_Gain_sup___init__ (P := P) (w := w) (base := base) T K_Gain
  refine fn_iSN K_Gain.D___init__.F K_Gain.su___init__ sc_Gain___init__ hsup htop rfl rfl rfl rfl (FnOk_r0 G_Gain_sup___init__ (b_Gain_sup___init__ K_Gain.D_sup___init__)) (fun ds R Rx hs0 => ?_) (fun p dx A outer s H E hr => have hu := hr.units
    ⟨(da_cons (d_var 1) (da_cons (d_var 2) (da_cons (d_var 3) da_nil))),
    (is_setU (d_callU G_copied (hr.mono (by decide)) D_copied.g D_copied.F.kp (b_copied D_copied) .nil dfR_nil pass_c (da_cons (d_var 4) da_nil))
    (is_setU (d_callU G_as_list (hr.mono (by decide)) D_as_list.g D_as_list.F.kp (b_as_list D_as_list) .nil dfR_nil pass_c (da_cons (d_var 5) da_nil))
    is_nil K_Gain.cls K_Gain.n_own_worths) K_Gain.cls K_Gain.n_own_amount)⟩ ) (fun p ds R Rx hs0 => ?_) (fun _ => rfl) (fun _ => rfl) (fun _ => rfl)
  · obtain ⟨_, _, _, _, _, rfl, _⟩ := F_Gain___init___of hs0
    rfl
  · obtain ⟨a, b, k, m, q, rfl, hs⟩ := F_Gain___init___of hs0
    clear hs0
    simp only [n_Gain___init__, jSt, jSet, jNil]
    walk_at "dg"
    obtain ⟨g1, g2, fa, fb, fk, hR⟩ := hs
    have d2 : (toL q).dat = true := by
      have := (good_dat g2).1
      cases q <;> exact this
    exact ⟨g1, (good_dat g1).1, by decide, g2, d2, by decide, by rw [fa, fb, fk]; rfl, hR⟩
def F_Gain_sup_told (C : Addr) : Spec
  | [r], R, Rx => asP5 C ksGain (fun a b k m q => R (.str "gain")) r
  | _, _, _ => False
theorem F_Gain_sup_told_is {C : Addr} {r : D} {R : D → Prop} {Rx : Er → Prop} : F_Gain_sup_told C [r] R Rx = (asP5 C ksGain (fun a b k m q => R (.str "gain")) r) := rfl
/-- what a greatest gain tells -/
def gaTold (x y : Int) : Str := (("gain " : Str) ++ ((toString x : String) : Str)) ++ ("/" : Str) ++ ((toString y : String) : Str)
def F_Gain_told (C : Addr) : Spec
  | [r], R, Rx => asP5 C ksGain (fun a b k m q => ∃ x y : Int, m = .tup [.int x, .int y] ∧ x.natAbs.log2 < 1920 ∧ y.natAbs.log2 < 1920 ∧ R (.str (gaTold x y))) r
  | _, _, _ => False
theorem F_Gain_told_is {C : Addr} {r : D} {R : D → Prop} {Rx : Er → Prop} : F_Gain_told C [r] R Rx = (asP5 C ksGain (fun a b k m q => ∃ x y : Int, m = .tup [.int x, .int y] ∧ x.natAbs.log2 < 1920 ∧ y.natAbs.log2 < 1920 ∧ R (.str (gaTold x y))) r) := rfl
def dgN28 : Array Lean.Name := dgN27 ++ #[`F_Gain_sup_told_is, `F_Gain_told_is]
local macro_rules | `(tactic| walk_at "dg") => do let xs ← dgN28.mapM fun n => `(Lean.Parser.Tactic.simpLemma| $(Lean.mkIdent n):term); `(tactic| simp only [$xs,*, List.getElem?_cons_zero, List.getElem?_cons_succ])
def F_Gain_one (C : Addr) : Spec
  | [r], R, Rx => asP5 C ksGain (fun a b k m q => R a) r
  | _, _, _ => False
theorem F_Gain_one_is {C : Addr} {r : D} {R : D → Prop} {Rx : Er → Prop} : F_Gain_one C [r] R Rx = (asP5 C ksGain (fun a b k m q => R a) r) := rfl
def F_Gain_other (C : Addr) : Spec
  | [r], R, Rx => asP5 C ksGain (fun a b k m q => R b) r
  | _, _, _ => False
theorem F_Gain_other_is {C : Addr} {r : D} {R : D → Prop} {Rx : Er → Prop} : F_Gain_other C [r] R Rx = (asP5 C ksGain (fun a b k m q => R b) r) := rfl
def F_Gain_k (C : Addr) : Spec
  | [r], R, Rx => asP5 C ksGain (fun a b k m q => R k) r
  | _, _, _ => False
theorem F_Gain_k_is {C : Addr} {r : D} {R : D → Prop} {Rx : Er → Prop} : F_Gain_k C [r] R Rx = (asP5 C ksGain (fun a b k m q => R k) r) := rfl
def F_Gain_amount (C : Addr) : Spec
  | [r], R, Rx => asP5 C ksGain (fun a b k m q => R m) r
  | _, _, _ => False
theorem F_Gain_amount_is {C : Addr} {r : D} {R : D → Prop} {Rx : Er → Prop} : F_Gain_amount C [r] R Rx = (asP5 C ksGain (fun a b k m q => R m) r) := rfl
theorem F_Gain_amount_of {C : Addr} {ds : List D} {R : D → Prop} {Rx : Er → Prop} (z : F_Gain_amount C ds R Rx) : ∃ (r : D), ds = [r] ∧ (asP5 C ksGain (fun a b k m q => R m) r) := by
  unfold F_Gain_amount at z
  split at z
  · exact ⟨_, rfl, z⟩
  · exact z.elim
def b_Gain_amount (Dx : Dm K "amount" "Gain.amount" s_Gain_amount) : Binds K Dx.fd ["self"] [] := Dx.F.bindsN fun _ _ _ _ _ _ us hl => match us, hl with | [_], _ => rfl
def n_Gain_amount : List Str := ["self"]
theorem sc_Gain_amount : FnScope n_Gain_amount ["self"] (defScope s_Gain_amount) := ⟨rfl, rfl, rfl, by decide +kernel, rfl, by decide +kernel, by decide +kernel⟩
theorem ok_Gain_amount (T : Tx mg) (K_Gain : Kx_Gain K mg P.main.file) : FnOk P w K mg base (L2.CX P w) 1 K_Gain.D_amount.f K_Gain.D_amount.fd ["self"] (spD (F_Gain_amount K_Gain.C)) := by

  refine fn_d K_Gain.D_amount.F sc_Gain_amount (fun ds R Rx hs0 => ?_) (fun cdv A outer s H E hr => have hu := hr.units
    (ds_one (s_ret (d_fld (d_var 0) K_Gain.cls K_Gain.n_own_amount))) ) fun ds R Rx hs0 => ?_
  · obtain ⟨_, rfl, _⟩ := F_Gain_amount_of hs0
    rfl
  · obtain ⟨r, rfl, hs⟩ := F_Gain_amount_of hs0
    clear hs0
    simp only [n_Gain_amount]
    walk_at "dg"
    obtain ⟨a, b, k, m, q, rfl, hR⟩ := asP5_of hs
    walk_at "dg"
    exact hR
def F_Gain_worths (C : Addr) : Spec
  | [r], R, Rx => asP5 C ksGain (fun a b k m q => Good 5 q ∧ R q) r
  | _, _, _ => False
theorem F_Gain_worths_is {C : Addr} {r : D} {R : D → Prop} {Rx : Er → Prop} : F_Gain_worths C [r] R Rx = (asP5 C ksGain (fun a b k m q => Good 5 q ∧ R q) r) := rfl
theorem F_Gain_worths_of {C : Addr} {ds : List D} {R : D → Prop} {Rx : Er → Prop} (z : F_Gain_worths C ds R Rx) : ∃ (r : D), ds = [r] ∧ (asP5 C ksGain (fun a b k m q => Good 5 q ∧ R q) r) := by
  unfold F_Gain_worths at z
  split at z
  · exact ⟨_, rfl, z⟩
  · exact z.elim
def b_Gain_worths (Dx : Dm K "worths" "Gain.worths" s_Gain_worths) : Binds K Dx.fd ["self"] [] := Dx.F.bindsN fun _ _ _ _ _ _ us hl => match us, hl with | [_], _ => rfl
def n_Gain_worths : List Str := ["self"]
theorem sc_Gain_worths : FnScope n_Gain_worths ["self"] (defScope s_Gain_worths) := ⟨rfl, rfl, rfl, by decide +kernel, rfl, by decide +kernel, by decide +kernel⟩
theorem ok_Gain_worths (T : Tx mg) (K_Gain : Kx_Gain K mg P.main.file) (D_copied : Df K mg "copied" s_copied) : FnOk P w K mg base (L2.CX P w) 6 K_Gain.D_worths.f K_Gain.D_worths.fd ["self"] (spU (F_Gain_worths K_Gain.C)) := by
  have G_copied := ok_copied (P := P) (w := w) (base := base) T D_copied 5
  refine fn_u K_Gain.D_worths.F sc_Gain_worths (fun ds R Rx hs0 => ?_) (fun cdv A outer s H E hr => have hu := hr.units
    (ds_one (s_retUe (d_callU G_copied (hr.mono (by decide)) D_copied.g D_copied.F.kp (b_copied D_copied) .nil dfR_nil pass_d (da_cons (d_fld (d_var 0) K_Gain.cls K_Gain.n_own_worths) da_nil)))) ) fun ds R Rx hs0 => ?_
  · obtain ⟨_, rfl, _⟩ := F_Gain_worths_of hs0
    rfl
  · obtain ⟨r, rfl, hs⟩ := F_Gain_worths_of hs0
    clear hs0
    simp only [n_Gain_worths]
    walk_at "dg"
    obtain ⟨a, b, k, m, q, rfl, hR⟩ := asP5_of hs
    walk_at "dg"
    exact hR
def F_Gain___bool__ (C : Addr) : Spec
  | [r], R, Rx => asP5 C ksGain (fun a b k m q => R (.bl false)) r
  | _, _, _ => False
theorem F_Gain___bool___is {C : Addr} {r : D} {R : D → Prop} {Rx : Er → Prop} : F_Gain___bool__ C [r] R Rx = (asP5 C ksGain (fun a b k m q => R (.bl false)) r) := rfl
local macro_rules | `(tactic| walk_at "rk") => `(tactic| first
  | assumption
  | (refine rok_app ?_ ?_ ?_ <;> first | walk_at "rk" | (simp only [List.length_append, List.length_reverse, List.length_map, List.length_replicate]; omega))
  | (refine rok_rev ?_; walk_at "rk")
  | (refine rok_map ?_ _ (fun t => fmod_in (by assumption)); walk_at "rk")
  | omega
  | decide
  | (refine log_lt (k := 80) ?_ (by decide) (by decide); omega))
local macro_rules | `(tactic| walk_at "fin") => `(tactic| ((repeat' (first | (with_reducible assumption) | (with_reducible refine And.intro ?_ ?_) | (with_reducible intro _))); all_goals first | (with_reducible assumption) | omega | contradiction | trivial))
local macro_rules | `(tactic| walk_at "cj") => `(tactic| repeat' (refine And.intro (by walk_at "rk") ?_))
/-- lists to be looked at: no tuples, not too long -/
def Flat1 : D → Prop
  | .lst xs => datL xs = true ∧ xs.length ≤ 5000
  | .tup _ => False
  | x => x.dat = true
def Flat2 : D → Prop
  | .lst xs => datL xs = true ∧ xs.length ≤ 100000 ∧ ∀ x ∈ xs, Flat1 x
  | .tup _ => False
  | x => x.dat = true
theorem Flat1.dat {x : D} (h : Flat1 x) : x.dat = true := by
  cases x <;> first | exact h | exact h.1 | exact h.elim
theorem Flat2.dat {x : D} (h : Flat2 x) : x.dat = true := by
  cases x <;> first | exact h | exact h.1 | exact h.elim
/-- a fraction in lowest terms -/
def isFr : D → Bool
  | .tup [.int a, .int b] => decide (1 ≤ b) && decide (gc a b = 1)
  | _ => false
/-- the parts of a pair of ints are not too great -/
def FrB (x : D) : Prop := ∀ a b : Int, x = .tup [.int a, .int b] → a.natAbs < 2 ^ 1000 ∧ b.natAbs < 2 ^ 1000
def dgN29 : Array Lean.Name := dgN28 ++ #[`F_Gain_one_is, `F_Gain_other_is, `F_Gain_k_is, `F_Gain_amount_is, `F_Gain_worths_is, `F_Gain___bool___is]
local macro_rules | `(tactic| walk_at "dg") => do let xs ← dgN29.mapM fun n => `(Lean.Parser.Tactic.simpLemma| $(Lean.mkIdent n):term); `(tactic| simp only [$xs,*, List.getElem?_cons_zero, List.getElem?_cons_succ])
def F_is_fraction : Spec
  | [x], R, Rx => x.dat = true ∧ lenD x ≤ 100000 ∧ FrB x ∧ R (.bl (isFr x))
  | _, _, _ => False
theorem F_is_fraction_is {x : D} {R : D → Prop} {Rx : Er → Prop} : F_is_fraction [x] R Rx = (x.dat = true ∧ lenD x ≤ 100000 ∧ FrB x ∧ R (.bl (isFr x))) := rfl
theorem F_is_fraction_of {ds : List D} {R : D → Prop} {Rx : Er → Prop} (z : F_is_fraction ds R Rx) : ∃ (x : D), ds = [x] ∧ (x.dat = true ∧ lenD x ≤ 100000 ∧ FrB x ∧ R (.bl (isFr x))) := by
  unfold F_is_fraction at z
  split at z
  · exact ⟨_, rfl, z⟩
  · exact z.elim
def b_is_fraction (Dx : Df K mg "is_fraction" s_is_fraction) : Binds K Dx.fd ["value"] [] := Dx.F.bindsN fun _ _ _ _ _ _ us hl => match us, hl with | [_], _ => rfl
def n_is_fraction : List Str := ["value"]
theorem sc_is_fraction : FnScope n_is_fraction ["value"] (defScope s_is_fraction) := ⟨rfl, rfl, rfl, by decide +kernel, rfl, by decide +kernel, by decide +kernel⟩
theorem ok_is_fraction (T : Tx mg) (D_is_fraction : Df K mg "is_fraction" s_is_fraction) (D_are_numbers : Df K mg "are_numbers" s_are_numbers) (D_lowest : Df K mg "lowest" s_lowest) (D_divisor : Df K mg "divisor" s_divisor) : FnOk P w K mg base (L2.CX P w) 3 D_is_fraction.f D_is_fraction.fd ["value"] (spD F_is_fraction) := by
  have G_are_numbers := ok_are_numbers (P := P) (w := w) (base := base) T D_are_numbers
  have G_lowest := ok_lowest (P := P) (w := w) (base := base) T D_lowest D_divisor
  refine fn_d D_is_fraction.F sc_is_fraction (fun ds R Rx hs0 => ?_) (fun cdv A outer s H E hr => have hu := hr.units
    (ds_cons (s_if (dw_pt (dw_or (dt_not (dt_tru (d_callB b_isi T.m_isinstance PyProof.Rows.boot_isinstance (da_cons (d_var 0) (da_cons (d_bty T.m_tuple PyProof.Rows.boot_tuple) da_nil))))) (dw_or (dt_cmp (c_ne hu) (d_callB b_len T.m_len boot_len (da_cons (d_var 0) da_nil)) d_int (nomark _)) (dw_or (dt_not (dt_tru (d_call G_are_numbers (hr.mono (by decide)) D_are_numbers.g D_are_numbers.F.kp (b_are_numbers D_are_numbers) .nil dfR_nil pass_d (da_cons (d_var 0) da_nil)))) (dw_or1 (dt_cmp c_lt (d_ix (d_var 0) d_int) d_int (nomark _))))))) (ds_one (s_ret d_bl)) ds_nil)
    (ds_one (s_ret (d_cmp (c_eq hu) (d_call G_lowest (hr.mono (by decide)) D_lowest.g D_lowest.F.kp (b_lowest D_lowest) .nil dfR_nil pass_d (da_cons (d_ix (d_var 0) d_int) (da_cons (d_ix (d_var 0) d_int) da_nil))) (d_var 0) (nomark _))))) ) fun ds R Rx hs0 => ?_
  · obtain ⟨_, rfl, _⟩ := F_is_fraction_of hs0
    rfl
  · obtain ⟨x, rfl, hs⟩ := F_is_fraction_of hs0
    clear hs0
    simp only [n_is_fraction]
    walk_at "dg"
    obtain ⟨hd, hl, hb, hR⟩ := hs
    cases x <;> try exact (Bool.false_ne_true hd).elim
    all_goals walk_at "dg"
    all_goals try exact hR
    rename_i xs
    have hd : datL xs = true := hd
    have no : isFr (.tup xs) = false → R (.bl false) := fun z => by rw [z] at hR; exact hR
    refine ⟨fun z => no ?_, fun z => ?_⟩
    · unfold isFr
      split
      · rename_i e
        injection e with e
        subst e
        exact absurd rfl z
      · rfl
    obtain ⟨x, y, rfl⟩ : ∃ x y, xs = [x, y] := by
      match xs, z with
      | [x, y], _ => exact ⟨x, y, rfl⟩
      | [], z => simp at z
      | [_], z => simp at z
      | _ :: _ :: _ :: _, z => exact absurd z (by simp; omega)
    refine ⟨hd, hl, fun z2 => no ?_, fun z2 => ?_⟩
    · unfold isFr
      split
      · rename_i e
        injection e with e
        cases e
        cases z2
      · rfl
    obtain ⟨ns, e⟩ := ints_of_all z2
    obtain ⟨i, j, rfl, rfl⟩ : ∃ i j, x = .int i ∧ y = .int j := by
      match ns, e with
      | [i, j], e =>
        injection e with e1 e2
        injection e2 with e2 _
        exact ⟨i, j, e1, e2⟩
    obtain ⟨b1, b2⟩ := hb i j rfl
    walk_at "dg"
    refine ⟨fun c => no ?_, fun c => ⟨by omega, Nat.lt_trans b2 (Nat.pow_lt_pow_right (by decide) (by decide)), rfl, by unfold lowD; walk_at "dg"; decide, ?_⟩⟩
    · show (decide (1 ≤ j) && decide (gc i j = 1)) = false
      rw [decide_eq_false (by omega)]
      rfl
    have ef : isFr (.tup [.int i, .int j]) = decide (gc i j = 1) := by
      show (decide (1 ≤ j) && decide (gc i j = 1)) = _
      rw [decide_eq_true (by omega)]
      rfl
    rw [ef] at hR
    have ee : decide (gc i j = 1) = (D.py (lowD i j)).eqv (PyData.tuple [PyData.int i, PyData.int j]) := by
      unfold lowD
      walk_at "dg"
      rw [Bool.eq_iff_iff]
      simp only [decide_eq_true_eq, Bool.and_eq_true]
      constructor
      · intro g1
        rw [g1, Int.ediv_one, Int.ediv_one]
        exact ⟨rfl, rfl⟩
      · rintro ⟨_, g2⟩
        have g3 := Int.ediv_mul_cancel (Int.gcd_dvd_right i j)
        rw [g2] at g3
        have g4 : j * (gc i j - 1) = 0 := by rw [Int.mul_sub, Int.mul_one]; show j * (Int.gcd i j : Int) - j = 0; omega
        rcases Int.mul_eq_zero.mp g4 with q | q <;> omega
    rw [ee] at hR
    exact hR
def F_are_hands (C : Addr) : Spec
  | [r, a, b], R, Rx => asRow C (fun h ts => RowOk h ts ∧ a.dat = true ∧ b.dat = true ∧ R (.bl (decide (ts.length ≤ 200) && (isNum a 0 (h - 1) && isNum b 0 (h - 1))))) r
  | _, _, _ => False
theorem F_are_hands_is {C : Addr} {r : D} {a : D} {b : D} {R : D → Prop} {Rx : Er → Prop} : F_are_hands C [r, a, b] R Rx = (asRow C (fun h ts => RowOk h ts ∧ a.dat = true ∧ b.dat = true ∧ R (.bl (decide (ts.length ≤ 200) && (isNum a 0 (h - 1) && isNum b 0 (h - 1))))) r) := rfl
theorem F_are_hands_of {C : Addr} {ds : List D} {R : D → Prop} {Rx : Er → Prop} (z : F_are_hands C ds R Rx) : ∃ (r : D) (a : D) (b : D), ds = [r, a, b] ∧ (asRow C (fun h ts => RowOk h ts ∧ a.dat = true ∧ b.dat = true ∧ R (.bl (decide (ts.length ≤ 200) && (isNum a 0 (h - 1) && isNum b 0 (h - 1))))) r) := by
  unfold F_are_hands at z
  split at z
  · exact ⟨_, _, _, rfl, z⟩
  · exact z.elim
def b_are_hands (Dx : Df K mg "are_hands" s_are_hands) : Binds K Dx.fd ["row", "one", "other"] [] := Dx.F.bindsN fun _ _ _ _ _ _ us hl => match us, hl with | [_, _, _], _ => rfl
def n_are_hands : List Str := ["row", "one", "other"]
theorem sc_are_hands : FnScope n_are_hands ["row", "one", "other"] (defScope s_are_hands) := ⟨rfl, rfl, rfl, by decide +kernel, rfl, by decide +kernel, by decide +kernel⟩
theorem ok_are_hands (T : Tx mg) (K_Row : Kx_Row K mg) (D_are_hands : Df K mg "are_hands" s_are_hands) (D_is_number : Df K mg "is_number" s_is_number) : FnOk P w K mg base (L2.CX P w) 3 D_are_hands.f D_are_hands.fd ["row", "one", "other"] (spD (F_are_hands K_Row.C)) := by
  have G_Row___len__ := ok_Row___len__ (P := P) (w := w) (base := base) T K_Row
  have G_is_number := ok_is_number (P := P) (w := w) (base := base) D_is_number T.m_isinstance T.m_int T.m_bool
  refine fn_d D_are_hands.F sc_are_hands (fun ds R Rx hs0 => ?_) (fun cdv A outer s H E hr => have hu := hr.units
    (ds_cons (s_if (dt_cmp c_gt (d_callB (b_lenOw K_Row.o___len__ G_Row___len__ (b_Row___len__ K_Row.D___len__) (hr.mono (by decide))) T.m_len boot_len (da_cons (d_var 0) da_nil)) (d_gint T.c_MOST_PLACES) (nomark _)) (ds_one (s_ret d_bl)) ds_nil)
    (ds_one (s_ret (d_and (d_call G_is_number (hr.mono (by decide)) D_is_number.g D_is_number.F.kp (b_is_number D_is_number) .nil dfR_nil pass_d (da_cons (d_var 1) (da_cons d_int (da_cons (d_sub (d_fld (d_var 0) K_Row.cls K_Row.n_hands) d_int) da_nil)))) (d_one (d_call G_is_number (hr.mono (by decide)) D_is_number.g D_is_number.F.kp (b_is_number D_is_number) .nil dfR_nil pass_d (da_cons (d_var 2) (da_cons d_int (da_cons (d_sub (d_fld (d_var 0) K_Row.cls K_Row.n_hands) d_int) da_nil))))))))) ) fun ds R Rx hs0 => ?_
  · obtain ⟨_, _, _, rfl, _⟩ := F_are_hands_of hs0
    rfl
  · obtain ⟨r, a, b, rfl, hs⟩ := F_are_hands_of hs0
    clear hs0
    simp only [n_are_hands]
    walk_at "dg"
    obtain ⟨h, ts, rfl, ok, ha, hb, hR⟩ := asRow_of hs
    walk_at "dg"
    have o4 := ok.2.2.2.1
    refine ⟨o4, by omega, by omega, fun z => ?_, fun z => ⟨ha, fun y => ⟨hb, ?_⟩, fun y => ?_⟩⟩
    · rw [decide_eq_false (by omega)] at hR
      exact hR
    · rw [decide_eq_true (by omega), y] at hR
      exact hR
    · rw [decide_eq_true (by omega), y] at hR
      exact hR
def F_Gain_fits (C CR : Addr) : Spec
  | [p, r], R, Rx => asP5 C ksGain (fun a b k m q => asRow CR (fun h ts => RowOk h ts ∧ a.dat = true ∧ b.dat = true ∧ k.dat = true ∧ R (.bl (decide (ts.length ≤ 200) && (isNum a 0 (h - 1) && isNum b 0 (h - 1)) && isNum k 0 200))) r) p
  | _, _, _ => False
theorem F_Gain_fits_is {C CR : Addr} {p : D} {r : D} {R : D → Prop} {Rx : Er → Prop} : F_Gain_fits C CR [p, r] R Rx = (asP5 C ksGain (fun a b k m q => asRow CR (fun h ts => RowOk h ts ∧ a.dat = true ∧ b.dat = true ∧ k.dat = true ∧ R (.bl (decide (ts.length ≤ 200) && (isNum a 0 (h - 1) && isNum b 0 (h - 1)) && isNum k 0 200))) r) p) := rfl
theorem F_Gain_fits_of {C CR : Addr} {ds : List D} {R : D → Prop} {Rx : Er → Prop} (z : F_Gain_fits C CR ds R Rx) : ∃ (p : D) (r : D), ds = [p, r] ∧ (asP5 C ksGain (fun a b k m q => asRow CR (fun h ts => RowOk h ts ∧ a.dat = true ∧ b.dat = true ∧ k.dat = true ∧ R (.bl (decide (ts.length ≤ 200) && (isNum a 0 (h - 1) && isNum b 0 (h - 1)) && isNum k 0 200))) r) p) := by
  unfold F_Gain_fits at z
  split at z
  · exact ⟨_, _, rfl, z⟩
  · exact z.elim
def b_Gain_fits (Dx : Dm K "fits" "Compared.fits" s_Gain_fits) : Binds K Dx.fd ["self", "row"] [] := Dx.F.bindsN fun _ _ _ _ _ _ us hl => match us, hl with | [_, _], _ => rfl
def n_Gain_fits : List Str := ["self", "row"]
theorem sc_Gain_fits : FnScope n_Gain_fits ["self", "row"] (defScope s_Gain_fits) := ⟨rfl, rfl, rfl, by decide +kernel, rfl, by decide +kernel, by decide +kernel⟩
def dgN30 : Array Lean.Name := dgN29 ++ #[`F_is_fraction_is, `F_are_hands_is, `F_Gain_fits_is]
local macro_rules | `(tactic| walk_at "dg") => do let xs ← dgN30.mapM fun n => `(Lean.Parser.Tactic.simpLemma| $(Lean.mkIdent n):term); `(tactic| simp only [$xs,*, List.getElem?_cons_zero, List.getElem?_cons_succ])
theorem ok_Gain_fits (T : Tx mg) (K_Gain : Kx_Gain K mg P.main.file) (K_Row : Kx_Row K mg) (D_are_hands : Df K mg "are_hands" s_are_hands) (D_is_number : Df K mg "is_number" s_is_number) : FnOk P w K mg base (L2.CX P w) 4 K_Gain.D_fits.f K_Gain.D_fits.fd ["self", "row"] (spD (F_Gain_fits K_Gain.C K_Row.C)) := by
  have G_are_hands := ok_are_hands (P := P) (w := w) (base := base) T K_Row D_are_hands D_is_number
  have G_is_number := ok_is_number (P := P) (w := w) (base := base) D_is_number T.m_isinstance T.m_int T.m_bool
  refine fn_d K_Gain.D_fits.F sc_Gain_fits (fun ds R Rx hs0 => ?_) (fun cdv A outer s H E hr => have hu := hr.units
    (ds_one (s_ret (d_and (d_call G_are_hands (hr.mono (by decide)) D_are_hands.g D_are_hands.F.kp (b_are_hands D_are_hands) .nil dfR_nil pass_d (da_cons (d_var 1) (da_cons (d_fld (d_var 0) K_Gain.cls K_Gain.n_own_one) (da_cons (d_fld (d_var 0) K_Gain.cls K_Gain.n_own_other) da_nil)))) (d_one (d_call G_is_number (hr.mono (by decide)) D_is_number.g D_is_number.F.kp (b_is_number D_is_number) .nil dfR_nil pass_d (da_cons (d_fld (d_var 0) K_Gain.cls K_Gain.n_own_k) (da_cons d_int (da_cons (d_gint T.c_MOST_PLACES) da_nil)))))))) ) fun ds R Rx hs0 => ?_
  · obtain ⟨_, _, rfl, _⟩ := F_Gain_fits_of hs0
    rfl
  · obtain ⟨p, r, rfl, hs⟩ := F_Gain_fits_of hs0
    clear hs0
    simp only [n_Gain_fits]
    walk_at "dg"
    obtain ⟨a, b, k, m, q, rfl, hs2⟩ := asP5_of hs
    obtain ⟨h, ts, rfl, ok, ha, hb, hk, hR⟩ := asRow_of hs2
    walk_at "dg"
    refine ⟨ok, ha, hb, fun ⟨z1, z2, z3⟩ => ⟨hk, ?_⟩, fun z => ?_⟩
    · rw [decide_eq_true z1, z2, z3] at hR
      exact hR
    · rw [z] at hR
      exact hR
/-- the least common multiple of the denominators, as it is worked out -/
def lcmP (ps : List (Int × Int)) : Int := ps.foldl (fun m p => m * (p.2 / gc p.2 m)) 1
def numP (m : Int) (ps : List (Int × Int)) : List Int := ps.map fun p => p.1 * (m / p.2)
def frD (p : Int × Int) : D := .tup [.int p.1, .int p.2]
def frOf : D → Int × Int
  | .tup [.int a, .int b] => (a, b)
  | _ => (0, 1)
def iv : D → Int
  | .int i => i
  | _ => 0
/-- whether a gain of right hands and a right class is right for a list of fractions -/
def gainP (h : Int) (ts : List Int) (a b k : Int) (am : D) (ps : List (Int × Int)) : Bool :=
  !decide (lcmP ps < (numP (lcmP ps) ps).headD 0) && (aocb (min k.toNat (ts.length - 1)) (numP (lcmP ps) ps) && ((lowD (tot ts (numP (lcmP ps) ps) a - tot ts (numP (lcmP ps) ps) b) (lcmP ps)).py.eqv am.py))
/-- whether a certificate of a gain is right -/
def gainB (h : Int) (ts : List Int) (a b k am : D) : D → Bool
  | .lst xs => decide (ts.length ≤ 200) && (isNum a 0 (h - 1) && (isNum b 0 (h - 1) && (isNum k 1 200 && (isFr am && (decide (xs.length = ts.length) && (xs.all isFr && gainP h ts (iv a) (iv b) (iv k) am (xs.map frOf)))))))
  | _ => false
/-- no part of the fractions is too great -/
def QB (q : D) : Prop := ∀ xs, q = .lst xs → (∀ x ∈ xs, FrB x ∧ lenD x ≤ 100000) ∧ (lcmP (xs.map frOf)).natAbs < 2 ^ 8999
theorem frs_of : ∀ {xs : List D}, xs.all isFr = true → ∃ ps : List (Int × Int), xs = ps.map frD ∧ ∀ p ∈ ps, 1 ≤ p.2 ∧ gc p.1 p.2 = 1
  | [], _ => ⟨[], rfl, fun _ h => nomatch h⟩
  | x :: xs, h => by
    rw [List.all_cons, Bool.and_eq_true] at h
    obtain ⟨ps, rfl, hp⟩ := frs_of h.2
    have h1 := h.1
    unfold isFr at h1
    split at h1
    · rename_i a b
      rw [Bool.and_eq_true, decide_eq_true_eq, decide_eq_true_eq] at h1
      exact ⟨(a, b) :: ps, rfl, fun p m => by
        rcases List.mem_cons.mp m with rfl | m
        · exact h1
        · exact hp p m⟩
    · cases h1
theorem frOf_frD (ps : List (Int × Int)) : (ps.map frD).map frOf = ps := by
  rw [List.map_map]
  exact List.map_id' ps
theorem fr_div {a m : Int} (ha : 1 ≤ a) : 1 ≤ a / gc a m ∧ a / gc a m ≤ a ∧ a / gc a m * gc a m = a := by
  have g0 : 0 < gc a m := by
    have : Int.gcd a m ≠ 0 := fun z => by have := (Int.gcd_eq_zero_iff.mp z).1; omega
    show 0 < (Int.gcd a m : Int)
    omega
  have g3 : a / gc a m * gc a m = a := Int.ediv_mul_cancel (Int.gcd_dvd_left a m)
  have g4 : 0 ≤ a / gc a m := Int.ediv_nonneg (by omega) (by omega)
  refine ⟨?_, Int.ediv_le_self _ (by omega), g3⟩
  rcases Int.lt_or_eq_of_le g4 with q | q
  · omega
  · rw [← q, Int.zero_mul] at g3
    omega
theorem lcmP_fold : ∀ (ps : List (Int × Int)) (m : Int), 1 ≤ m → (∀ p ∈ ps, 1 ≤ p.2) → m ≤ ps.foldl (fun m p => m * (p.2 / gc p.2 m)) m
  | [], m, _, _ => Int.le_refl _
  | p :: ps, m, hm, h => by
    have f := (fr_div (a := p.2) (m := m) (h p (List.mem_cons_self ..))).1
    have f2 : m * 1 ≤ m * (p.2 / gc p.2 m) := Int.mul_le_mul_of_nonneg_left f (by omega)
    have := lcmP_fold ps (m * (p.2 / gc p.2 m)) (by omega) fun q hq => h q (List.mem_cons_of_mem _ hq)
    show m ≤ ps.foldl _ (m * (p.2 / gc p.2 m))
    omega
theorem lcmP_le {ps : List (Int × Int)} (h : ∀ p ∈ ps, 1 ≤ p.2) (s : Nat) : 1 ≤ lcmP (ps.take s) ∧ lcmP (ps.take s) ≤ lcmP ps := by
  have a := lcmP_fold (ps.take s) 1 (Int.le_refl _) fun p hp => h p (List.mem_of_mem_take hp)
  refine ⟨a, ?_⟩
  have b := lcmP_fold (ps.drop s) (lcmP (ps.take s)) a fun p hp => h p (List.mem_of_mem_drop hp)
  have e : lcmP ps = (ps.drop s).foldl (fun m p => m * (p.2 / gc p.2 m)) (lcmP (ps.take s)) := by
    unfold lcmP
    rw [← List.foldl_append, List.take_append_drop]
  rw [e]
  exact b
theorem lcmP_succ {ps : List (Int × Int)} {s : Nat} {p : Int × Int} (e : ps[s]? = some p) : lcmP (ps.take (s + 1)) = lcmP (ps.take s) * (p.2 / gc p.2 (lcmP (ps.take s))) := by
  unfold lcmP
  rw [List.take_succ, e, Option.toList_some, List.foldl_append]
  rfl
def F_Gain_holds (C CR : Addr) : Spec
  | [p, r], R, Rx => asP5 C ksGain (fun a b k m q => asRow CR (fun h ts => RowOk h ts ∧ a.dat = true ∧ b.dat = true ∧ k.dat = true ∧ m.dat = true ∧ FrB m ∧ lenD m ≤ 100000 ∧ Flat1 q ∧ QB q ∧ R (.bl (gainB h ts a b k m q))) r) p
  | _, _, _ => False
theorem F_Gain_holds_is {C CR : Addr} {p : D} {r : D} {R : D → Prop} {Rx : Er → Prop} : F_Gain_holds C CR [p, r] R Rx = (asP5 C ksGain (fun a b k m q => asRow CR (fun h ts => RowOk h ts ∧ a.dat = true ∧ b.dat = true ∧ k.dat = true ∧ m.dat = true ∧ FrB m ∧ lenD m ≤ 100000 ∧ Flat1 q ∧ QB q ∧ R (.bl (gainB h ts a b k m q))) r) p) := rfl
theorem F_Gain_holds_of {C CR : Addr} {ds : List D} {R : D → Prop} {Rx : Er → Prop} (z : F_Gain_holds C CR ds R Rx) : ∃ (p : D) (r : D), ds = [p, r] ∧ (asP5 C ksGain (fun a b k m q => asRow CR (fun h ts => RowOk h ts ∧ a.dat = true ∧ b.dat = true ∧ k.dat = true ∧ m.dat = true ∧ FrB m ∧ lenD m ≤ 100000 ∧ Flat1 q ∧ QB q ∧ R (.bl (gainB h ts a b k m q))) r) p) := by
  unfold F_Gain_holds at z
  split at z
  · exact ⟨_, _, rfl, z⟩
  · exact z.elim
def b_Gain_holds (Dx : Dm K "holds" "Gain.holds" s_Gain_holds) : Binds K Dx.fd ["self", "row"] [] := Dx.F.bindsN fun _ _ _ _ _ _ us hl => match us, hl with | [_, _], _ => rfl
def n_Gain_holds : List Str := ["self", "row", "worths", "below", "worth", "numbers", "totals"]
theorem sc_Gain_holds : FnScope n_Gain_holds ["self", "row"] (defScope s_Gain_holds) := ⟨rfl, rfl, rfl, by decide +kernel, rfl, by decide +kernel, by decide +kernel⟩
theorem ok_Gain_holds (T : Tx mg) (K_Gain : Kx_Gain K mg P.main.file) (K_Row : Kx_Row K mg) (X_InvalidWorths : Xe K mg P.main.file "InvalidWorths" s_InvalidWorths___init__) (D_are_hands : Df K mg "are_hands" s_are_hands) (D_is_number : Df K mg "is_number" s_is_number) (D_is_fraction : Df K mg "is_fraction" s_is_fraction) (D_are_numbers : Df K mg "are_numbers" s_are_numbers) (D_lowest : Df K mg "lowest" s_lowest) (D_divisor : Df K mg "divisor" s_divisor) (D_are_of_class : Df K mg "are_of_class" s_are_of_class) (D_differences : Df K mg "differences" s_differences) (hsup : mg "super" = none) (htop : (P.main.scope.names.lookup ("super" : Str)).isSome = false) : FnOk P w K mg base (L2.CX P w) 5 K_Gain.D_holds.f K_Gain.D_holds.fd ["self", "row"] (spD (F_Gain_holds K_Gain.C K_Row.C)) := by
  have G_Gain_fits := ok_Gain_fits (P := P) (w := w) (base := base) T K_Gain K_Row D_are_hands D_is_number
  have G_is_fraction := ok_is_fraction (P := P) (w := w) (base := base) T D_is_fraction D_are_numbers D_lowest D_divisor
  have G_Row___len__ := ok_Row___len__ (P := P) (w := w) (base := base) T K_Row
  have G_lowest := ok_lowest (P := P) (w := w) (base := base) T D_lowest D_divisor
  have G_Row_totals := ok_Row_totals (P := P) (w := w) (base := base) T K_Row X_InvalidWorths D_are_numbers hsup htop
  have G_are_of_class := ok_are_of_class (P := P) (w := w) (base := base) T D_are_of_class D_differences
  refine fn_d K_Gain.D_holds.F sc_Gain_holds (fun ds R Rx hs0 => ?_) (fun cdv A outer s H E hr => have hu := hr.units
    (ds_cons (s_set (i := 2) sc_Gain_holds.nd (d_fld (d_var 0) K_Gain.cls K_Gain.n_own_worths))
    (ds_cons (s_if (dw_pt (dw_or (dt_not (dt_tru (d_meth (d_var 0) K_Gain.cls K_Gain.h_fits G_Gain_fits (hr.mono (by decide)) (b_Gain_fits K_Gain.D_fits) pass_d (da_cons (d_var 1) da_nil)))) (dw_or (dt_cmp c_lt (d_fld (d_var 0) K_Gain.cls K_Gain.n_own_k) d_int (nomark _)) (dw_or1 (dt_not (dt_tru (d_call G_is_fraction (hr.mono (by decide)) D_is_fraction.g D_is_fraction.F.kp (b_is_fraction D_is_fraction) .nil dfR_nil pass_d (da_cons (d_fld (d_var 0) K_Gain.cls K_Gain.n_own_amount) da_nil)))))))) (ds_one (s_ret d_bl)) ds_nil)
    (ds_cons (s_if (dw_pt (dw_or (dt_not (dt_tru (d_callB b_isi T.m_isinstance PyProof.Rows.boot_isinstance (da_cons (d_var 2) (da_cons (d_tup (da_cons (d_bty T.m_list PyProof.Rows.boot_list) (da_cons (d_bty T.m_tuple PyProof.Rows.boot_tuple) da_nil))) da_nil))))) (dw_or1 (dt_cmp (c_ne hu) (d_callB b_len T.m_len boot_len (da_cons (d_var 2) da_nil)) (d_callB (b_lenOw K_Row.o___len__ G_Row___len__ (b_Row___len__ K_Row.D___len__) (hr.mono (by decide))) T.m_len boot_len (da_cons (d_var 1) da_nil)) (nomark _))))) (ds_one (s_ret d_bl)) ds_nil)
    (ds_cons (s_if (dt_not (dt_tru (d_callB (b_all rfl) T.m_all PyProof.Rows.boot_all (da_cons (d_ofF (f_lc rfl sc_Gain_holds.nd (i_list (d_var 2)) (blkOk_by (own := [("worth", 4)]) (N := n_Gain_holds) (sc := defScope s_Gain_holds) (by decide +kernel)) (by decide) (fun _ _ _ _ _ => (g_name (i := 4) sc_Gain_holds.nd)) (fun _ _ _ _ _ => dts_nil) (fun _ _ _ _ _ => (d_call G_is_fraction (hr.mono (by decide)) D_is_fraction.g D_is_fraction.F.kp (b_is_fraction D_is_fraction) .nil dfR_nil passL (da_cons (d_var 4) da_nil))))) da_nil)))) (ds_one (s_ret d_bl)) ds_nil)
    (ds_cons (s_set (i := 3) sc_Gain_holds.nd d_int)
    (ds_cons (s_for (passes_of rfl) rfl (i_list (d_var 2)) (g_name (i := 4) sc_Gain_holds.nd)
      (ds_one (s_set (i := 3) sc_Gain_holds.nd (d_mul (d_var 3) (d_ix (d_call G_lowest (hr.mono (by decide)) D_lowest.g D_lowest.F.kp (b_lowest D_lowest) .nil dfR_nil pass_d (da_cons (d_ix (d_var 4) d_int) (da_cons (d_var 3) da_nil))) d_int)))))
    (ds_cons (s_setLc (i := 5) rfl sc_Gain_holds.nd (i_list (d_var 2)) (blkOk_by (own := [("worth", 4)]) (N := n_Gain_holds) (sc := defScope s_Gain_holds) (by decide +kernel)) (by decide) (fun _ _ _ _ _ => (g_name (i := 4) sc_Gain_holds.nd)) (fun _ _ _ _ _ => dts_nil) (fun _ _ _ _ _ => (d_mul (d_ix (d_var 4) d_int) (d_fdiv (d_var 3) (d_ix (d_var 4) d_int)))))
    (ds_cons (s_set (i := 6) sc_Gain_holds.nd (d_ofN (d_methN (d_var 1) K_Row.cls K_Row.h_totals G_Row_totals (hr.mono (by decide)) (b_Row_totals K_Row.D_totals) pass_d (da_cons (d_var 5) da_nil))))
    (ds_cons (s_if (dw_pt (dw_or (dt_cmp c_gt (d_ix (d_var 5) d_int) (d_var 3) (nomark _)) (dw_or1 (dt_not (dt_tru (d_call G_are_of_class (hr.mono (by decide)) D_are_of_class.g D_are_of_class.F.kp (b_are_of_class D_are_of_class) .nil dfR_nil pass_d (da_cons (d_var 5) (da_cons (d_fld (d_var 0) K_Gain.cls K_Gain.n_own_k) da_nil)))))))) (ds_one (s_ret d_bl)) ds_nil)
    (ds_one (s_ret (d_cmp (c_eq hu) (d_call G_lowest (hr.mono (by decide)) D_lowest.g D_lowest.F.kp (b_lowest D_lowest) .nil dfR_nil pass_d (da_cons (d_sub (d_ix (d_var 6) (d_fld (d_var 0) K_Gain.cls K_Gain.n_own_one)) (d_ix (d_var 6) (d_fld (d_var 0) K_Gain.cls K_Gain.n_own_other))) (da_cons (d_var 3) da_nil))) (d_fld (d_var 0) K_Gain.cls K_Gain.n_own_amount) (nomark _))))))))))))) ) fun ds R Rx hs0 => ?_
  · obtain ⟨_, _, rfl, _⟩ := F_Gain_holds_of hs0
    rfl
  · obtain ⟨p, r, rfl, hs⟩ := F_Gain_holds_of hs0
    clear hs0
    simp only [n_Gain_holds]
    obtain ⟨a, b, k, m, q, rfl, hs2⟩ := asP5_of hs
    obtain ⟨h, ts, rfl, ok, ha, hb, hk, hm, hfb, hml, hq, qb, hR⟩ := asRow_of hs2
    clear hs hs2
    have no : gainB h ts a b k m q = false → R (.bl false) := fun z => by rw [z] at hR; exact hR
    refine seq_step fun N1 hN1 => ?_
    walk_at "dg"
    refine hN1 _ ?_
    clear hN1 N1
    refine seq_step fun N1 hN1 => ?_
    refine if_step fun U W hU hW => ?_
    walk_at "dg"
    refine ⟨ok, ha, hb, hk, fun z => hU _ _ (no ?_), fun ⟨⟨z1, z2, z3⟩, z4⟩ => ?_⟩
    · cases q <;> try rfl
      show (_ && _) = false
      cases c1 : decide (ts.length ≤ 200) with
      | false => rfl
      | true =>
        cases c2 : isNum a 0 (h - 1) with
        | false => rfl
        | true =>
          cases c3 : isNum b 0 (h - 1) with
          | false => rfl
          | true =>
            rw [c1, c2, c3] at z
            cases c4 : isNum k 1 200 with
            | false => rfl
            | true =>
              obtain ⟨i, rfl, i0, i1⟩ := isNum_of c4
              simp [isNum] at z
              omega
    obtain ⟨i, rfl, i0, i1⟩ := isNum_of z2
    obtain ⟨j, rfl, j0, j1⟩ := isNum_of z3
    obtain ⟨n, rfl, n0, n1⟩ := isNum_of z4
    walk_at "dg"
    refine ⟨fun y => hU _ _ (no ?_), fun y => ⟨hm, hml, hfb, fun x => hU _ _ (no ?_), fun x => hW _ _ ?_⟩⟩
    · cases q <;> try rfl
      have : isNum (.int n) 1 200 = false := by simp [isNum]; omega
      simp only [gainB, this, Bool.false_and, Bool.and_false]
    · cases q <;> try rfl
      simp only [gainB, x, Bool.false_and, Bool.and_false]
    clear hU hW U W
    refine hN1 _ ?_
    clear hN1 N1
    refine seq_step fun N1 hN1 => ?_
    refine if_step fun U W hU hW => ?_
    walk_at "dg"
    cases q <;> try exact (Bool.false_ne_true hq.dat).elim
    case tup => exact hq.elim
    case lst xs =>
      obtain ⟨hd, hl⟩ := hq
      obtain ⟨q1, q2⟩ := qb xs rfl
      have o4 := ok.2.2.2.1
      walk_at "dg"
      refine ⟨o4, by omega, by omega, fun z => hU _ _ (no ?_), fun z => hW _ _ ?_⟩
      · simp only [gainB, decide_eq_false (show ¬ xs.length = ts.length by omega), Bool.false_and, Bool.and_false]
      have lx : xs.length = ts.length := by omega
      clear hU hW U W
      refine hN1 _ ?_
      clear hN1 N1
      refine seq_step fun N1 hN1 => ?_
      refine if_step fun U W hU hW => ?_
      walk_at "dg"
      refine LcP.map (fun d => .bl (isFr d)) (by rw [sizeLine_eq]; omega) (fun s d N e hN => ?_) ?_
      · have md := List.mem_of_getElem? e
        walk_at "dg"
        exact ⟨datL_mem hd md, (q1 d md).2, (q1 d md).1, hN⟩
      refine ⟨xs.map isFr, ?_, ?_⟩
      · have := asBls_map (xs.map isFr)
        rw [List.map_map] at this
        exact this
      rw [show (xs.map isFr).all _root_.id = xs.all isFr by rw [List.all_map]; rfl]
      refine ⟨fun z => hU _ _ (no ?_), fun z => hW _ _ ?_⟩
      · simp only [gainB, z, Bool.false_and, Bool.and_false]
      clear hU hW U W
      obtain ⟨ps, rfl, hp⟩ := frs_of z
      rw [frOf_frD] at q2
      rw [List.length_map] at lx
      have eb : gainB h ts (.int i) (.int j) (.int n) m (.lst (ps.map frD)) = gainP h ts i j n m ps := by
        have zn : isNum (.int n) 1 200 = true := by simp [isNum]; omega
        simp only [gainB, z, zn, z2, z3, x, frOf_frD, iv, List.length_map, decide_eq_true lx, decide_eq_true z1, Bool.true_and]
      rw [eb] at hR
      have p2 : ∀ p ∈ ps, p.1.natAbs < 2 ^ 1000 ∧ p.2.natAbs < 2 ^ 1000 := fun p hp => (q1 _ (List.mem_map.mpr ⟨p, hp, rfl⟩)).1 p.1 p.2 rfl
      clear qb no q1 z eb hd hl
      have lm := lcmP_le fun p hq => (hp p hq).1
      have lb : ∀ s, (lcmP (ps.take s)).natAbs < 2 ^ 8999 := fun s => Nat.lt_of_le_of_lt (by have := lm s; omega) q2
      refine hN1 _ ?_
      clear hN1 N1
      refine seq_step fun N1 hN1 => ?_
      walk_at "dg"
      refine hN1 _ ?_
      clear hN1 N1
      refine seq_step fun N1 hN1 => for_step fun B1 hB1 => ?_
      walk_at "dg"
      refine ⟨fun s env => s ≤ ps.length ∧ ∃ e4 e5 e6 : Option DV, env = [some (.val (gaD K_Gain.C (.int i) (.int j) (.int n) m (.lst (ps.map frD)))), some (.val (row K_Row.C h ts)), some (.val (.lst (ps.map frD))), some (.val (.int (lcmP (ps.take s)))), e4, e5, e6], ⟨by omega, _, _, _, rfl⟩, ?_, ?_⟩
      · rintro s d env ed ⟨hs, e4, e5, e6, rfl⟩
        rw [List.getElem?_map] at ed
        cases eq : ps[s]? with
        | none => rw [eq] at ed; cases ed
        | some p =>
          rw [eq] at ed
          cases ed
          have mp := List.mem_of_getElem? eq
          refine hB1 _ _ ?_
          clear hB1 hN1
          walk_at "dg"
          unfold frD
          walk_at "dg"
          refine ⟨(lm s).1, lb s, ?_⟩
          unfold lowD
          walk_at "dg"
          obtain ⟨f1, f2, _⟩ := fr_div (a := p.2) (m := lcmP (ps.take s)) (hp p mp).1
          refine ⟨.inr (wide_mul (a := 8999) (b := 1000) (lb s) (Nat.lt_of_le_of_lt (by omega) (p2 p mp).2) (by decide) (by decide) (by decide)), (List.getElem?_eq_some_iff.mp eq).1, ?_⟩
          rw [lcmP_succ eq]
      rintro env ⟨_, e4, e5, e6, rfl⟩
      rw [List.take_length]
      refine hN1 _ ?_
      clear hN1 hB1
      have l0 := lm ps.length
      rw [List.take_length] at l0
      generalize hL : lcmP ps = L at *
      have l1 := l0.1
      refine seq_step fun N1 hN1 => ?_
      walk_at "dg"
      refine LcP.of (fun p : Int × Int => .int (p.1 * (L / p.2))) (by rw [sizeLine_eq]; omega) (fun s p N e hN => ?_) ?_
      · have mp := List.mem_of_getElem? e
        obtain ⟨f1, _⟩ := hp p mp
        obtain ⟨f2, f3⟩ := p2 p mp
        unfold frD
        walk_at "dg"
        rw [Int.fdiv_eq_ediv_of_nonneg _ (by omega)]
        have f4 : L / p.2 ≤ L := Int.ediv_le_self _ (by omega)
        have f5 : 0 ≤ L / p.2 := Int.ediv_nonneg (by omega) (by omega)
        exact ⟨.inr ⟨by omega, log_lt (k := 1000) f3 (by decide) (by decide)⟩, .inr (wide_mul (a := 1000) (b := 8999) f2 (Nat.lt_of_le_of_lt (by omega) q2) (by decide) (by decide) (by decide)), hN⟩
      have en : (ps.map fun p => D.int (p.1 * (L / p.2))) = (numP L ps).map D.int := by unfold numP; rw [List.map_map]; rfl
      rw [en]
      have nl : (numP L ps).length = ts.length := by unfold numP; rw [List.length_map, lx]
      unfold gainP at hR
      rw [hL] at hR
      generalize hns : numP L ps = ns at *
      refine hN1 _ ?_
      clear hN1 N1
      refine seq_step fun N1 hN1 => ?_
      walk_at "dg"
      refine ⟨rfl, ok, datL_ints, ?_, fun ws e hl => ?_, fun z => ?_⟩
      · show (ns.map D.int).length ≤ 100000
        rw [List.length_map]
        omega
      rotate_left
      · exfalso
        rcases z with z | z
        · rw [show isNums (.lst (ns.map .int)) = true from all_ints] at z
          cases z
        · exact z (show (ns.map D.int).length = ts.length by rw [List.length_map]; exact nl)
      obtain rfl : ns = ws := by
        rwa [map_int_inj] at e
      clear e hl
      refine hN1 _ ?_
      clear hN1 N1
      refine seq_step fun N1 hN1 => ?_
      refine if_step fun U W hU hW => ?_
      walk_at "dg"
      have hd0 : ns.getD 0 0 = ns.headD 0 := by cases ns <;> rfl
      refine ⟨_, at_ints (k := 0) rfl (by have := ok.2.2.1; omega), ?_⟩
      rw [hd0]
      walk_at "dg"
      refine ⟨fun z => hU _ _ ?_, fun z => ⟨by have := ok.2.2.1; omega, by omega, n0, n1, ?_⟩⟩
      · rw [decide_eq_true z] at hR
        exact hR
      rw [nl]
      rw [decide_eq_false z] at hR
      refine ⟨fun z => hU _ _ ?_, fun z => hW _ _ ?_⟩
      · rw [z] at hR
        exact hR
      rw [z] at hR
      clear hU hW U W
      refine hN1 _ ?_
      clear hN1 N1
      walk_at "dg"
      have tl : (totL h ts ns).length = h.toNat := by unfold totL; rw [List.length_map, List.length_range]
      have tg : ∀ i : Int, 0 ≤ i → i ≤ h - 1 → (totL h ts ns).getD i.toNat 0 = tot ts ns i := fun i i0 i1 => by
        unfold totL
        rw [getD_range (by omega), Int.toNat_of_nonneg i0]
      refine ⟨_, at_ints (k := i.toNat) (by omega) (by rw [tl]; omega), _, at_ints (k := j.toNat) (by omega) (by rw [tl]; omega), ?_⟩
      rw [tg i i0 i1, tg j j0 j1]
      walk_at "dg"
      exact ⟨l1, q2, rfl, hm, (by unfold lowD; walk_at "dg"; decide), hR⟩
    all_goals
      walk_at "dg"
      exact hU _ _ (no rfl)
local macro_rules | `(tactic| walk_at "rk") => `(tactic| first
  | assumption
  | (refine rok_app ?_ ?_ ?_ <;> first | walk_at "rk" | (simp only [List.length_append, List.length_reverse, List.length_map, List.length_replicate]; omega))
  | (refine rok_rev ?_; walk_at "rk")
  | (refine rok_map ?_ _ (fun t => fmod_in (by assumption)); walk_at "rk")
  | omega
  | decide
  | (refine log_lt (k := 80) ?_ (by decide) (by decide); omega))
local macro_rules | `(tactic| walk_at "fin") => `(tactic| ((repeat' (first | (with_reducible assumption) | (with_reducible refine And.intro ?_ ?_) | (with_reducible intro _))); all_goals first | (with_reducible assumption) | omega | contradiction | trivial))
local macro_rules | `(tactic| walk_at "cj") => `(tactic| repeat' (refine And.intro (by walk_at "rk") ?_))
abbrev ksNeverWorse : List Str := ["own_one", "own_other", "own_k", "own_numbers"]
theorem fld_nw1 {x y z u : D} : fld ksNeverWorse [x, y, z, u] "own_one" = some x := rfl
theorem fld_nw2 {x y z u : D} : fld ksNeverWorse [x, y, z, u] "own_other" = some y := rfl
theorem fld_nw3 {x y z u : D} : fld ksNeverWorse [x, y, z, u] "own_k" = some z := rfl
theorem fld_nw4 {x y z u : D} : fld ksNeverWorse [x, y, z, u] "own_numbers" = some u := rfl
theorem fld_nw5 {x y z u : D} : fld ksNeverWorse [x, y, z, u] "KIND" = none := rfl
theorem fld_nw6 {x y z u : D} : fld ksNeverWorse [x, y, z, u] "GOOD" = none := rfl
theorem fld_nw7 {x y z u : D} : fld ksNeverWorse [x, y, z, u] "told" = none := rfl
theorem fld_nw8 {x y z u : D} : fld ksNeverWorse [x, y, z, u] "holds" = none := rfl
theorem fld_nw9 {x y z u : D} : fld ksNeverWorse [x, y, z, u] "numbers" = none := rfl
theorem fld_nw10 {x y z u : D} : fld ksNeverWorse [x, y, z, u] "fits" = none := rfl
def dgN31 : Array Lean.Name := dgN30 ++ #[`F_Gain_holds_is, `fld_nw1, `fld_nw2, `fld_nw3, `fld_nw4, `fld_nw5, `fld_nw6, `fld_nw7, `fld_nw8, `fld_nw9, `fld_nw10]
local macro_rules | `(tactic| walk_at "dg") => do let xs ← dgN31.mapM fun n => `(Lean.Parser.Tactic.simpLemma| $(Lean.mkIdent n):term); `(tactic| simp only [$xs,*, List.getElem?_cons_zero, List.getElem?_cons_succ])
def F_NeverWorse_sup___init__ (C : Addr) : Spec
  | [a, b, k], R, Rx => R (.obj C ["own_one", "own_other", "own_k"] [a, b, k])
  | _, _, _ => False
theorem F_NeverWorse_sup___init___is {C : Addr} {a : D} {b : D} {k : D} {R : D → Prop} {Rx : Er → Prop} : F_NeverWorse_sup___init__ C [a, b, k] R Rx = (R (.obj C ["own_one", "own_other", "own_k"] [a, b, k])) := rfl
theorem F_NeverWorse_sup___init___of {C : Addr} {ds : List D} {R : D → Prop} {Rx : Er → Prop} (z : F_NeverWorse_sup___init__ C ds R Rx) : ∃ (a : D) (b : D) (k : D), ds = [a, b, k] ∧ (R (.obj C ["own_one", "own_other", "own_k"] [a, b, k])) := by
  unfold F_NeverWorse_sup___init__ at z
  split at z
  · exact ⟨_, _, _, rfl, z⟩
  · exact z.elim
def b_NeverWorse_sup___init__ (Dx : Dm K "__init__" "Compared.__init__" s_NeverWorse_sup___init__) : Binds K Dx.fd ["self", "one", "other", "k"] [] := Dx.F.bindsN fun _ _ _ _ _ _ us hl => match us, hl with | [_, _, _, _], _ => rfl
def n_NeverWorse_sup___init__ : List Str := ["self", "one", "other", "k"]
theorem sc_NeverWorse_sup___init__ : FnScope n_NeverWorse_sup___init__ ["self", "one", "other", "k"] (defScope s_NeverWorse_sup___init__) := ⟨rfl, rfl, rfl, by decide +kernel, rfl, by decide +kernel, by decide +kernel⟩
theorem ok_NeverWorse_sup___init__ (T : Tx mg) (K_NeverWorse : Kx_NeverWorse K mg P.main.file) : FnOk P w K mg base (L2.CX P w) 5 K_NeverWorse.D_sup___init__.f K_NeverWorse.D_sup___init__.fd ["self", "one", "other", "k"] (spI K_NeverWorse.C (F_NeverWorse_sup___init__ K_NeverWorse.C)) := by

  refine fn_i K_NeverWorse.D_sup___init__.F sc_NeverWorse_sup___init__ (fun ds R Rx hs0 => ?_) (fun p dx cdv A outer s H E hr => have hu := hr.units
    (is_set (d_var 1)
    (is_set (d_var 2)
    (is_set (d_var 3)
    is_nil K_NeverWorse.cls K_NeverWorse.n_own_k) K_NeverWorse.cls K_NeverWorse.n_own_other) K_NeverWorse.cls K_NeverWorse.n_own_one) ) fun p ds R Rx hs0 => ?_
  · obtain ⟨_, _, _, rfl, _⟩ := F_NeverWorse_sup___init___of hs0
    rfl
  · obtain ⟨a, b, k, rfl, hs⟩ := F_NeverWorse_sup___init___of hs0
    clear hs0
    simp only [n_NeverWorse_sup___init__, jSt, jSet, jNil]
    walk_at "dg"
    exact ⟨by decide, by decide, by decide, hs⟩
def F_NeverWorse___init__ (C : Addr) : Spec
  | [a, b, k, q], R, Rx => Good 5 q ∧ R (.obj C ksNeverWorse [a, b, k, toL q])
  | _, _, _ => False
theorem F_NeverWorse___init___is {C : Addr} {a : D} {b : D} {k : D} {q : D} {R : D → Prop} {Rx : Er → Prop} : F_NeverWorse___init__ C [a, b, k, q] R Rx = (Good 5 q ∧ R (.obj C ksNeverWorse [a, b, k, toL q])) := rfl
theorem F_NeverWorse___init___of {C : Addr} {ds : List D} {R : D → Prop} {Rx : Er → Prop} (z : F_NeverWorse___init__ C ds R Rx) : ∃ (a : D) (b : D) (k : D) (q : D), ds = [a, b, k, q] ∧ (Good 5 q ∧ R (.obj C ksNeverWorse [a, b, k, toL q])) := by
  unfold F_NeverWorse___init__ at z
  split at z
  · exact ⟨_, _, _, _, rfl, z⟩
  · exact z.elim
theorem b_NeverWorse___init__ {fl : Str} {C : Addr} (Dx : Dsup K fl "__init__" "NeverWorse.__init__" s_NeverWorse___init__ C) : Binds K Dx.fd ["self", "one", "other", "k", "numbers"] [] := Dx.binds fun _ _ _ _ _ _ _ us hl => match us, hl with | [_, _, _, _, _], _ => rfl
def n_NeverWorse___init__ : List Str := ["self", "one", "other", "k", "numbers"]
theorem sc_NeverWorse___init__ : EXS.SScope n_NeverWorse___init__ ["self", "one", "other", "k", "numbers"] (defScope s_NeverWorse___init__) := ⟨rfl, rfl, rfl, by decide +kernel, rfl, by decide +kernel, by decide +kernel, by decide +kernel, rfl, rfl⟩
def dgN32 : Array Lean.Name := dgN31 ++ #[`F_NeverWorse_sup___init___is, `F_NeverWorse___init___is]
local macro_rules | `(tactic| walk_at "dg") => do let xs ← dgN32.mapM fun n => `(Lean.Parser.Tactic.simpLemma| $(Lean.mkIdent n):term); `(tactic| simp only [$xs,*, List.getElem?_cons_zero, List.getElem?_cons_succ])
theorem ok_NeverWorse___init__ (T : Tx mg) (K_NeverWorse : Kx_NeverWorse K mg P.main.file) (D_as_list : Df K mg "as_list" s_as_list) (D_copied : Df K mg "copied" s_copied) (hsup : mg "super" = none) (htop : (P.main.scope.names.lookup ("super" : Str)).isSome = false) : FnOk P w K mg base (L2.CX P w) 6 K_NeverWorse.D___init__.f K_NeverWorse.D___init__.fd ["self", "one", "other", "k", "numbers"] (spI K_NeverWorse.C (F_NeverWorse___init__ K_NeverWorse.C)) := by
  have G_as_list := ok_as_list (P := P) (w := w) (base := base) T D_as_list D_copied
  have G_NeverWorse_sup___init__ := ok_NeverWorse_sup___init__ (P := P) (w := w) (base := base) T K_NeverWorse
  refine fn_iS K_NeverWorse.D___init__.F K_NeverWorse.su___init__ sc_NeverWorse___init__ hsup htop rfl rfl rfl rfl (FnOk_r0 G_NeverWorse_sup___init__ (b_NeverWorse_sup___init__ K_NeverWorse.D_sup___init__)) (fun ds R Rx hs0 => ?_) (fun p dx A outer s H E hr => have hu := hr.units
    ⟨(da_cons (d_var 1) (da_cons (d_var 2) (da_cons (d_var 3) da_nil))),
    (is_set (d_ofU (d_callU G_as_list (hr.mono (by decide)) D_as_list.g D_as_list.F.kp (b_as_list D_as_list) .nil dfR_nil pass_c (da_cons (d_var 4) da_nil)))
    is_nil K_NeverWorse.cls K_NeverWorse.n_own_numbers)⟩ ) (fun p ds R Rx hs0 => ?_) (fun _ => rfl) (fun _ => rfl) (fun _ => rfl)
  · obtain ⟨_, _, _, _, rfl, _⟩ := F_NeverWorse___init___of hs0
    rfl
  · obtain ⟨a, b, k, q, rfl, hs⟩ := F_NeverWorse___init___of hs0
    clear hs0
    simp only [n_NeverWorse___init__, jSt, jSet, jNil]
    walk_at "dg"
    first
      | exact ⟨hs.1, by decide, hs.2⟩
      | exact ⟨by decide, hs.1, hs.2⟩
      | exact ⟨by decide, hs.1, by decide, hs.2⟩
def F_NeverWorse_told (C : Addr) : Spec
  | [r], R, Rx => asP4 C ksNeverWorse (fun a b k q => R (.str "never worse")) r
  | _, _, _ => False
theorem F_NeverWorse_told_is {C : Addr} {r : D} {R : D → Prop} {Rx : Er → Prop} : F_NeverWorse_told C [r] R Rx = (asP4 C ksNeverWorse (fun a b k q => R (.str "never worse")) r) := rfl
theorem F_NeverWorse_told_of {C : Addr} {ds : List D} {R : D → Prop} {Rx : Er → Prop} (z : F_NeverWorse_told C ds R Rx) : ∃ (r : D), ds = [r] ∧ (asP4 C ksNeverWorse (fun a b k q => R (.str "never worse")) r) := by
  unfold F_NeverWorse_told at z
  split at z
  · exact ⟨_, rfl, z⟩
  · exact z.elim
def b_NeverWorse_told (Dx : Dm K "told" "Paper.told" s_NeverWorse_told) : Binds K Dx.fd ["self"] [] := Dx.F.bindsN fun _ _ _ _ _ _ us hl => match us, hl with | [_], _ => rfl
def n_NeverWorse_told : List Str := ["self"]
theorem sc_NeverWorse_told : FnScope n_NeverWorse_told ["self"] (defScope s_NeverWorse_told) := ⟨rfl, rfl, rfl, by decide +kernel, rfl, by decide +kernel, by decide +kernel⟩
theorem ok_NeverWorse_told (T : Tx mg) (K_NeverWorse : Kx_NeverWorse K mg P.main.file) : FnOk P w K mg base (L2.CX P w) 1 K_NeverWorse.D_told.f K_NeverWorse.D_told.fd ["self"] (spD (F_NeverWorse_told K_NeverWorse.C)) := by

  refine fn_d K_NeverWorse.D_told.F sc_NeverWorse_told (fun ds R Rx hs0 => ?_) (fun cdv A outer s H E hr => have hu := hr.units
    (ds_one (s_ret (d_conS (d_var 0) K_NeverWorse.cls K_NeverWorse.c_KIND))) ) fun ds R Rx hs0 => ?_
  · obtain ⟨_, rfl, _⟩ := F_NeverWorse_told_of hs0
    rfl
  · obtain ⟨r, rfl, hs⟩ := F_NeverWorse_told_of hs0
    clear hs0
    simp only [n_NeverWorse_told]
    walk_at "dg"
    obtain ⟨a, b, k, q, rfl, hR⟩ := asP4_of hs
    walk_at "dg"
    exact hR
abbrev ksWorse : List Str := ["own_one", "own_other", "own_k", "own_worths"]
theorem fld_wo1 {x y z u : D} : fld ksWorse [x, y, z, u] "own_one" = some x := rfl
theorem fld_wo2 {x y z u : D} : fld ksWorse [x, y, z, u] "own_other" = some y := rfl
theorem fld_wo3 {x y z u : D} : fld ksWorse [x, y, z, u] "own_k" = some z := rfl
theorem fld_wo4 {x y z u : D} : fld ksWorse [x, y, z, u] "own_worths" = some u := rfl
theorem fld_wo5 {x y z u : D} : fld ksWorse [x, y, z, u] "KIND" = none := rfl
theorem fld_wo6 {x y z u : D} : fld ksWorse [x, y, z, u] "GOOD" = none := rfl
theorem fld_wo7 {x y z u : D} : fld ksWorse [x, y, z, u] "told" = none := rfl
theorem fld_wo8 {x y z u : D} : fld ksWorse [x, y, z, u] "holds" = none := rfl
theorem fld_wo9 {x y z u : D} : fld ksWorse [x, y, z, u] "worths" = none := rfl
theorem fld_wo10 {x y z u : D} : fld ksWorse [x, y, z, u] "fits" = none := rfl
def dgN33 : Array Lean.Name := dgN32 ++ #[`F_NeverWorse_told_is, `fld_wo1, `fld_wo2, `fld_wo3, `fld_wo4, `fld_wo5, `fld_wo6, `fld_wo7, `fld_wo8, `fld_wo9, `fld_wo10]
local macro_rules | `(tactic| walk_at "dg") => do let xs ← dgN33.mapM fun n => `(Lean.Parser.Tactic.simpLemma| $(Lean.mkIdent n):term); `(tactic| simp only [$xs,*, List.getElem?_cons_zero, List.getElem?_cons_succ])
def F_Worse_sup___init__ (C : Addr) : Spec
  | [a, b, k], R, Rx => R (.obj C ["own_one", "own_other", "own_k"] [a, b, k])
  | _, _, _ => False
theorem F_Worse_sup___init___is {C : Addr} {a : D} {b : D} {k : D} {R : D → Prop} {Rx : Er → Prop} : F_Worse_sup___init__ C [a, b, k] R Rx = (R (.obj C ["own_one", "own_other", "own_k"] [a, b, k])) := rfl
theorem F_Worse_sup___init___of {C : Addr} {ds : List D} {R : D → Prop} {Rx : Er → Prop} (z : F_Worse_sup___init__ C ds R Rx) : ∃ (a : D) (b : D) (k : D), ds = [a, b, k] ∧ (R (.obj C ["own_one", "own_other", "own_k"] [a, b, k])) := by
  unfold F_Worse_sup___init__ at z
  split at z
  · exact ⟨_, _, _, rfl, z⟩
  · exact z.elim
def b_Worse_sup___init__ (Dx : Dm K "__init__" "Compared.__init__" s_Worse_sup___init__) : Binds K Dx.fd ["self", "one", "other", "k"] [] := Dx.F.bindsN fun _ _ _ _ _ _ us hl => match us, hl with | [_, _, _, _], _ => rfl
def n_Worse_sup___init__ : List Str := ["self", "one", "other", "k"]
theorem sc_Worse_sup___init__ : FnScope n_Worse_sup___init__ ["self", "one", "other", "k"] (defScope s_Worse_sup___init__) := ⟨rfl, rfl, rfl, by decide +kernel, rfl, by decide +kernel, by decide +kernel⟩
theorem ok_Worse_sup___init__ (T : Tx mg) (K_Worse : Kx_Worse K mg P.main.file) : FnOk P w K mg base (L2.CX P w) 5 K_Worse.D_sup___init__.f K_Worse.D_sup___init__.fd ["self", "one", "other", "k"] (spI K_Worse.C (F_Worse_sup___init__ K_Worse.C)) := by

  refine fn_i K_Worse.D_sup___init__.F sc_Worse_sup___init__ (fun ds R Rx hs0 => ?_) (fun p dx cdv A outer s H E hr => have hu := hr.units
    (is_set (d_var 1)
    (is_set (d_var 2)
    (is_set (d_var 3)
    is_nil K_Worse.cls K_Worse.n_own_k) K_Worse.cls K_Worse.n_own_other) K_Worse.cls K_Worse.n_own_one) ) fun p ds R Rx hs0 => ?_
  · obtain ⟨_, _, _, rfl, _⟩ := F_Worse_sup___init___of hs0
    rfl
  · obtain ⟨a, b, k, rfl, hs⟩ := F_Worse_sup___init___of hs0
    clear hs0
    simp only [n_Worse_sup___init__, jSt, jSet, jNil]
    walk_at "dg"
    exact ⟨by decide, by decide, by decide, hs⟩
def F_Worse___init__ (C : Addr) : Spec
  | [a, b, k, q], R, Rx => Good 5 q ∧ R (.obj C ksWorse [a, b, k, toL q])
  | _, _, _ => False
theorem F_Worse___init___is {C : Addr} {a : D} {b : D} {k : D} {q : D} {R : D → Prop} {Rx : Er → Prop} : F_Worse___init__ C [a, b, k, q] R Rx = (Good 5 q ∧ R (.obj C ksWorse [a, b, k, toL q])) := rfl
theorem F_Worse___init___of {C : Addr} {ds : List D} {R : D → Prop} {Rx : Er → Prop} (z : F_Worse___init__ C ds R Rx) : ∃ (a : D) (b : D) (k : D) (q : D), ds = [a, b, k, q] ∧ (Good 5 q ∧ R (.obj C ksWorse [a, b, k, toL q])) := by
  unfold F_Worse___init__ at z
  split at z
  · exact ⟨_, _, _, _, rfl, z⟩
  · exact z.elim
theorem b_Worse___init__ {fl : Str} {C : Addr} (Dx : Dsup K fl "__init__" "Worse.__init__" s_Worse___init__ C) : Binds K Dx.fd ["self", "one", "other", "k", "worths"] [] := Dx.binds fun _ _ _ _ _ _ _ us hl => match us, hl with | [_, _, _, _, _], _ => rfl
def n_Worse___init__ : List Str := ["self", "one", "other", "k", "worths"]
theorem sc_Worse___init__ : EXS.SScope n_Worse___init__ ["self", "one", "other", "k", "worths"] (defScope s_Worse___init__) := ⟨rfl, rfl, rfl, by decide +kernel, rfl, by decide +kernel, by decide +kernel, by decide +kernel, rfl, rfl⟩
def dgN34 : Array Lean.Name := dgN33 ++ #[`F_Worse_sup___init___is, `F_Worse___init___is]
local macro_rules | `(tactic| walk_at "dg") => do let xs ← dgN34.mapM fun n => `(Lean.Parser.Tactic.simpLemma| $(Lean.mkIdent n):term); `(tactic| simp only [$xs,*, List.getElem?_cons_zero, List.getElem?_cons_succ])
theorem ok_Worse___init__ (T : Tx mg) (K_Worse : Kx_Worse K mg P.main.file) (D_as_list : Df K mg "as_list" s_as_list) (D_copied : Df K mg "copied" s_copied) (hsup : mg "super" = none) (htop : (P.main.scope.names.lookup ("super" : Str)).isSome = false) : FnOk P w K mg base (L2.CX P w) 6 K_Worse.D___init__.f K_Worse.D___init__.fd ["self", "one", "other", "k", "worths"] (spI K_Worse.C (F_Worse___init__ K_Worse.C)) := by
  have G_as_list := ok_as_list (P := P) (w := w) (base := base) T D_as_list D_copied
  have G_Worse_sup___init__ := ok_Worse_sup___init__ (P := P) (w := w) (base := base) T K_Worse
  refine fn_iS K_Worse.D___init__.F K_Worse.su___init__ sc_Worse___init__ hsup htop rfl rfl rfl rfl (FnOk_r0 G_Worse_sup___init__ (b_Worse_sup___init__ K_Worse.D_sup___init__)) (fun ds R Rx hs0 => ?_) (fun p dx A outer s H E hr => have hu := hr.units
    ⟨(da_cons (d_var 1) (da_cons (d_var 2) (da_cons (d_var 3) da_nil))),
    (is_set (d_ofU (d_callU G_as_list (hr.mono (by decide)) D_as_list.g D_as_list.F.kp (b_as_list D_as_list) .nil dfR_nil pass_c (da_cons (d_var 4) da_nil)))
    is_nil K_Worse.cls K_Worse.n_own_worths)⟩ ) (fun p ds R Rx hs0 => ?_) (fun _ => rfl) (fun _ => rfl) (fun _ => rfl)
  · obtain ⟨_, _, _, _, rfl, _⟩ := F_Worse___init___of hs0
    rfl
  · obtain ⟨a, b, k, q, rfl, hs⟩ := F_Worse___init___of hs0
    clear hs0
    simp only [n_Worse___init__, jSt, jSet, jNil]
    walk_at "dg"
    first
      | exact ⟨hs.1, by decide, hs.2⟩
      | exact ⟨by decide, hs.1, hs.2⟩
      | exact ⟨by decide, hs.1, by decide, hs.2⟩
def F_Worse_told (C : Addr) : Spec
  | [r], R, Rx => asP4 C ksWorse (fun a b k q => R (.str "worse")) r
  | _, _, _ => False
theorem F_Worse_told_is {C : Addr} {r : D} {R : D → Prop} {Rx : Er → Prop} : F_Worse_told C [r] R Rx = (asP4 C ksWorse (fun a b k q => R (.str "worse")) r) := rfl
theorem F_Worse_told_of {C : Addr} {ds : List D} {R : D → Prop} {Rx : Er → Prop} (z : F_Worse_told C ds R Rx) : ∃ (r : D), ds = [r] ∧ (asP4 C ksWorse (fun a b k q => R (.str "worse")) r) := by
  unfold F_Worse_told at z
  split at z
  · exact ⟨_, rfl, z⟩
  · exact z.elim
def b_Worse_told (Dx : Dm K "told" "Paper.told" s_Worse_told) : Binds K Dx.fd ["self"] [] := Dx.F.bindsN fun _ _ _ _ _ _ us hl => match us, hl with | [_], _ => rfl
def n_Worse_told : List Str := ["self"]
theorem sc_Worse_told : FnScope n_Worse_told ["self"] (defScope s_Worse_told) := ⟨rfl, rfl, rfl, by decide +kernel, rfl, by decide +kernel, by decide +kernel⟩
theorem ok_Worse_told (T : Tx mg) (K_Worse : Kx_Worse K mg P.main.file) : FnOk P w K mg base (L2.CX P w) 1 K_Worse.D_told.f K_Worse.D_told.fd ["self"] (spD (F_Worse_told K_Worse.C)) := by

  refine fn_d K_Worse.D_told.F sc_Worse_told (fun ds R Rx hs0 => ?_) (fun cdv A outer s H E hr => have hu := hr.units
    (ds_one (s_ret (d_conS (d_var 0) K_Worse.cls K_Worse.c_KIND))) ) fun ds R Rx hs0 => ?_
  · obtain ⟨_, rfl, _⟩ := F_Worse_told_of hs0
    rfl
  · obtain ⟨r, rfl, hs⟩ := F_Worse_told_of hs0
    clear hs0
    simp only [n_Worse_told]
    walk_at "dg"
    obtain ⟨a, b, k, q, rfl, hR⟩ := asP4_of hs
    walk_at "dg"
    exact hR
def dgN35 : Array Lean.Name := dgN34 ++ #[`F_Worse_told_is]
local macro_rules | `(tactic| walk_at "dg") => do let xs ← dgN35.mapM fun n => `(Lean.Parser.Tactic.simpLemma| $(Lean.mkIdent n):term); `(tactic| simp only [$xs,*, List.getElem?_cons_zero, List.getElem?_cons_succ])
def F_NeverWorse___bool__ (C : Addr) : Spec
  | [r], R, Rx => asP4 C ksNeverWorse (fun a b k q => R (.bl true)) r
  | _, _, _ => False
theorem F_NeverWorse___bool___is {C : Addr} {r : D} {R : D → Prop} {Rx : Er → Prop} : F_NeverWorse___bool__ C [r] R Rx = (asP4 C ksNeverWorse (fun a b k q => R (.bl true)) r) := rfl
theorem F_NeverWorse___bool___of {C : Addr} {ds : List D} {R : D → Prop} {Rx : Er → Prop} (z : F_NeverWorse___bool__ C ds R Rx) : ∃ (r : D), ds = [r] ∧ (asP4 C ksNeverWorse (fun a b k q => R (.bl true)) r) := by
  unfold F_NeverWorse___bool__ at z
  split at z
  · exact ⟨_, rfl, z⟩
  · exact z.elim
def b_NeverWorse___bool__ (Dx : Dm K "__bool__" "Paper.__bool__" s_NeverWorse___bool__) : Binds K Dx.fd ["self"] [] := Dx.F.bindsN fun _ _ _ _ _ _ us hl => match us, hl with | [_], _ => rfl
def n_NeverWorse___bool__ : List Str := ["self"]
theorem sc_NeverWorse___bool__ : FnScope n_NeverWorse___bool__ ["self"] (defScope s_NeverWorse___bool__) := ⟨rfl, rfl, rfl, by decide +kernel, rfl, by decide +kernel, by decide +kernel⟩
theorem ok_NeverWorse___bool__ (T : Tx mg) (K_NeverWorse : Kx_NeverWorse K mg P.main.file) : FnOk P w K mg base (L2.CX P w) 1 K_NeverWorse.D___bool__.f K_NeverWorse.D___bool__.fd ["self"] (spD (F_NeverWorse___bool__ K_NeverWorse.C)) := by

  refine fn_d K_NeverWorse.D___bool__.F sc_NeverWorse___bool__ (fun ds R Rx hs0 => ?_) (fun cdv A outer s H E hr => have hu := hr.units
    (ds_one (s_ret (d_callT b_bool T.m_bool PyProof.Rows.boot_bool (da_cons (d_conB (d_var 0) K_NeverWorse.cls K_NeverWorse.c_GOOD) da_nil)))) ) fun ds R Rx hs0 => ?_
  · obtain ⟨_, rfl, _⟩ := F_NeverWorse___bool___of hs0
    rfl
  · obtain ⟨r, rfl, hs⟩ := F_NeverWorse___bool___of hs0
    clear hs0
    simp only [n_NeverWorse___bool__]
    walk_at "dg"
    obtain ⟨a, b, k, q, rfl, hR⟩ := asP4_of hs
    walk_at "dg"
    exact hR
def dgN36 : Array Lean.Name := dgN35 ++ #[`F_NeverWorse___bool___is]
local macro_rules | `(tactic| walk_at "dg") => do let xs ← dgN36.mapM fun n => `(Lean.Parser.Tactic.simpLemma| $(Lean.mkIdent n):term); `(tactic| simp only [$xs,*, List.getElem?_cons_zero, List.getElem?_cons_succ])
def F_Worse___bool__ (C : Addr) : Spec
  | [r], R, Rx => asP4 C ksWorse (fun a b k q => R (.bl false)) r
  | _, _, _ => False
theorem F_Worse___bool___is {C : Addr} {r : D} {R : D → Prop} {Rx : Er → Prop} : F_Worse___bool__ C [r] R Rx = (asP4 C ksWorse (fun a b k q => R (.bl false)) r) := rfl
theorem F_Worse___bool___of {C : Addr} {ds : List D} {R : D → Prop} {Rx : Er → Prop} (z : F_Worse___bool__ C ds R Rx) : ∃ (r : D), ds = [r] ∧ (asP4 C ksWorse (fun a b k q => R (.bl false)) r) := by
  unfold F_Worse___bool__ at z
  split at z
  · exact ⟨_, rfl, z⟩
  · exact z.elim
def b_Worse___bool__ (Dx : Dm K "__bool__" "Paper.__bool__" s_Worse___bool__) : Binds K Dx.fd ["self"] [] := Dx.F.bindsN fun _ _ _ _ _ _ us hl => match us, hl with | [_], _ => rfl
def n_Worse___bool__ : List Str := ["self"]
theorem sc_Worse___bool__ : FnScope n_Worse___bool__ ["self"] (defScope s_Worse___bool__) := ⟨rfl, rfl, rfl, by decide +kernel, rfl, by decide +kernel, by decide +kernel⟩
theorem ok_Worse___bool__ (T : Tx mg) (K_Worse : Kx_Worse K mg P.main.file) : FnOk P w K mg base (L2.CX P w) 1 K_Worse.D___bool__.f K_Worse.D___bool__.fd ["self"] (spD (F_Worse___bool__ K_Worse.C)) := by

  refine fn_d K_Worse.D___bool__.F sc_Worse___bool__ (fun ds R Rx hs0 => ?_) (fun cdv A outer s H E hr => have hu := hr.units
    (ds_one (s_ret (d_callT b_bool T.m_bool PyProof.Rows.boot_bool (da_cons (d_conB (d_var 0) K_Worse.cls K_Worse.c_GOOD) da_nil)))) ) fun ds R Rx hs0 => ?_
  · obtain ⟨_, rfl, _⟩ := F_Worse___bool___of hs0
    rfl
  · obtain ⟨r, rfl, hs⟩ := F_Worse___bool___of hs0
    clear hs0
    simp only [n_Worse___bool__]
    walk_at "dg"
    obtain ⟨a, b, k, q, rfl, hR⟩ := asP4_of hs
    walk_at "dg"
    exact hR
def F_NeverWorse_numbers (C : Addr) : Spec
  | [r], R, Rx => asP4 C ksNeverWorse (fun a b k q => Good 5 q ∧ R q) r
  | _, _, _ => False
theorem F_NeverWorse_numbers_is {C : Addr} {r : D} {R : D → Prop} {Rx : Er → Prop} : F_NeverWorse_numbers C [r] R Rx = (asP4 C ksNeverWorse (fun a b k q => Good 5 q ∧ R q) r) := rfl
theorem F_NeverWorse_numbers_of {C : Addr} {ds : List D} {R : D → Prop} {Rx : Er → Prop} (z : F_NeverWorse_numbers C ds R Rx) : ∃ (r : D), ds = [r] ∧ (asP4 C ksNeverWorse (fun a b k q => Good 5 q ∧ R q) r) := by
  unfold F_NeverWorse_numbers at z
  split at z
  · exact ⟨_, rfl, z⟩
  · exact z.elim
def b_NeverWorse_numbers (Dx : Dm K "numbers" "NeverWorse.numbers" s_NeverWorse_numbers) : Binds K Dx.fd ["self"] [] := Dx.F.bindsN fun _ _ _ _ _ _ us hl => match us, hl with | [_], _ => rfl
def n_NeverWorse_numbers : List Str := ["self"]
theorem sc_NeverWorse_numbers : FnScope n_NeverWorse_numbers ["self"] (defScope s_NeverWorse_numbers) := ⟨rfl, rfl, rfl, by decide +kernel, rfl, by decide +kernel, by decide +kernel⟩
theorem ok_NeverWorse_numbers (T : Tx mg) (K_NeverWorse : Kx_NeverWorse K mg P.main.file) (D_copied : Df K mg "copied" s_copied) : FnOk P w K mg base (L2.CX P w) 6 K_NeverWorse.D_numbers.f K_NeverWorse.D_numbers.fd ["self"] (spD (F_NeverWorse_numbers K_NeverWorse.C)) := by
  have G_copied := ok_copied (P := P) (w := w) (base := base) T D_copied 5
  refine fn_d K_NeverWorse.D_numbers.F sc_NeverWorse_numbers (fun ds R Rx hs0 => ?_) (fun cdv A outer s H E hr => have hu := hr.units
    (ds_one (s_ret (d_ofU (d_callU G_copied (hr.mono (by decide)) D_copied.g D_copied.F.kp (b_copied D_copied) .nil dfR_nil pass_d (da_cons (d_fld (d_var 0) K_NeverWorse.cls K_NeverWorse.n_own_numbers) da_nil))))) ) fun ds R Rx hs0 => ?_
  · obtain ⟨_, rfl, _⟩ := F_NeverWorse_numbers_of hs0
    rfl
  · obtain ⟨r, rfl, hs⟩ := F_NeverWorse_numbers_of hs0
    clear hs0
    simp only [n_NeverWorse_numbers]
    walk_at "dg"
    obtain ⟨a, b, k, q, rfl, hR⟩ := asP4_of hs
    walk_at "dg"
    exact hR
def F_Worse_worths (C : Addr) : Spec
  | [r], R, Rx => asP4 C ksWorse (fun a b k q => Good 5 q ∧ R q) r
  | _, _, _ => False
theorem F_Worse_worths_is {C : Addr} {r : D} {R : D → Prop} {Rx : Er → Prop} : F_Worse_worths C [r] R Rx = (asP4 C ksWorse (fun a b k q => Good 5 q ∧ R q) r) := rfl
theorem F_Worse_worths_of {C : Addr} {ds : List D} {R : D → Prop} {Rx : Er → Prop} (z : F_Worse_worths C ds R Rx) : ∃ (r : D), ds = [r] ∧ (asP4 C ksWorse (fun a b k q => Good 5 q ∧ R q) r) := by
  unfold F_Worse_worths at z
  split at z
  · exact ⟨_, rfl, z⟩
  · exact z.elim
def b_Worse_worths (Dx : Dm K "worths" "Worse.worths" s_Worse_worths) : Binds K Dx.fd ["self"] [] := Dx.F.bindsN fun _ _ _ _ _ _ us hl => match us, hl with | [_], _ => rfl
def n_Worse_worths : List Str := ["self"]
theorem sc_Worse_worths : FnScope n_Worse_worths ["self"] (defScope s_Worse_worths) := ⟨rfl, rfl, rfl, by decide +kernel, rfl, by decide +kernel, by decide +kernel⟩
theorem ok_Worse_worths (T : Tx mg) (K_Worse : Kx_Worse K mg P.main.file) (D_copied : Df K mg "copied" s_copied) : FnOk P w K mg base (L2.CX P w) 6 K_Worse.D_worths.f K_Worse.D_worths.fd ["self"] (spD (F_Worse_worths K_Worse.C)) := by
  have G_copied := ok_copied (P := P) (w := w) (base := base) T D_copied 5
  refine fn_d K_Worse.D_worths.F sc_Worse_worths (fun ds R Rx hs0 => ?_) (fun cdv A outer s H E hr => have hu := hr.units
    (ds_one (s_ret (d_ofU (d_callU G_copied (hr.mono (by decide)) D_copied.g D_copied.F.kp (b_copied D_copied) .nil dfR_nil pass_d (da_cons (d_fld (d_var 0) K_Worse.cls K_Worse.n_own_worths) da_nil))))) ) fun ds R Rx hs0 => ?_
  · obtain ⟨_, rfl, _⟩ := F_Worse_worths_of hs0
    rfl
  · obtain ⟨r, rfl, hs⟩ := F_Worse_worths_of hs0
    clear hs0
    simp only [n_Worse_worths]
    walk_at "dg"
    obtain ⟨a, b, k, q, rfl, hR⟩ := asP4_of hs
    walk_at "dg"
    exact hR
abbrev nwD (C : Addr) (a b k : Int) (gs : List Int) : D := .obj C ksNeverWorse [.int a, .int b, .int k, .lst (gs.map .int)]
abbrev woD (C : Addr) (a b k : Int) (n K j : Nat) : D := .obj C ksWorse [.int a, .int b, .int k, rowD n K j]
def dgN37 : Array Lean.Name := dgN36 ++ #[`F_Worse___bool___is, `F_NeverWorse_numbers_is, `F_Worse_worths_is]
local macro_rules | `(tactic| walk_at "dg") => do let xs ← dgN37.mapM fun n => `(Lean.Parser.Tactic.simpLemma| $(Lean.mkIdent n):term); `(tactic| simp only [$xs,*, List.getElem?_cons_zero, List.getElem?_cons_succ])
def F_compare (CR CN CW CT CH CI : Addr) : Spec
  | [r, a, b, k], R, Rx => asRow CR (fun h ts => RowOk h ts ∧ a.dat = true ∧ b.dat = true ∧ k.dat = true ∧ questX CT CH h ts.length a b ((isNum k 0 200 = false → Rx (eIN CI k)) ∧ ∀ (i j n : Int) (gs : List Int), a = .int i → b = .int j → k = .int n → 0 ≤ i → i < h → 0 ≤ j → j < h → 0 ≤ n → n ≤ 200 → gs = gainL (min n.toNat (ts.length - 1)) (sgn i j ts) → gs.length = ts.length → ((∀ l, l < ts.length → 0 ≤ gs.getD l 0) → R (nwD CN i j n gs)) ∧ ∀ m, m < ts.length → (∀ l, l < m → 0 ≤ gs.getD l 0) → gs.getD m 0 < 0 → R (woD CW i j n ts.length (min n.toNat (ts.length - 1)) m)) Rx) r
  | _, _, _ => False
theorem F_compare_is {CR CN CW CT CH CI : Addr} {r : D} {a : D} {b : D} {k : D} {R : D → Prop} {Rx : Er → Prop} : F_compare CR CN CW CT CH CI [r, a, b, k] R Rx = (asRow CR (fun h ts => RowOk h ts ∧ a.dat = true ∧ b.dat = true ∧ k.dat = true ∧ questX CT CH h ts.length a b ((isNum k 0 200 = false → Rx (eIN CI k)) ∧ ∀ (i j n : Int) (gs : List Int), a = .int i → b = .int j → k = .int n → 0 ≤ i → i < h → 0 ≤ j → j < h → 0 ≤ n → n ≤ 200 → gs = gainL (min n.toNat (ts.length - 1)) (sgn i j ts) → gs.length = ts.length → ((∀ l, l < ts.length → 0 ≤ gs.getD l 0) → R (nwD CN i j n gs)) ∧ ∀ m, m < ts.length → (∀ l, l < m → 0 ≤ gs.getD l 0) → gs.getD m 0 < 0 → R (woD CW i j n ts.length (min n.toNat (ts.length - 1)) m)) Rx) r) := rfl
theorem F_compare_of {CR CN CW CT CH CI : Addr} {ds : List D} {R : D → Prop} {Rx : Er → Prop} (z : F_compare CR CN CW CT CH CI ds R Rx) : ∃ (r : D) (a : D) (b : D) (k : D), ds = [r, a, b, k] ∧ (asRow CR (fun h ts => RowOk h ts ∧ a.dat = true ∧ b.dat = true ∧ k.dat = true ∧ questX CT CH h ts.length a b ((isNum k 0 200 = false → Rx (eIN CI k)) ∧ ∀ (i j n : Int) (gs : List Int), a = .int i → b = .int j → k = .int n → 0 ≤ i → i < h → 0 ≤ j → j < h → 0 ≤ n → n ≤ 200 → gs = gainL (min n.toNat (ts.length - 1)) (sgn i j ts) → gs.length = ts.length → ((∀ l, l < ts.length → 0 ≤ gs.getD l 0) → R (nwD CN i j n gs)) ∧ ∀ m, m < ts.length → (∀ l, l < m → 0 ≤ gs.getD l 0) → gs.getD m 0 < 0 → R (woD CW i j n ts.length (min n.toNat (ts.length - 1)) m)) Rx) r) := by
  unfold F_compare at z
  split at z
  · exact ⟨_, _, _, _, rfl, z⟩
  · exact z.elim
def b_compare (Dx : Df K mg "compare" s_compare) : Binds K Dx.fd ["row", "one", "other", "k"] [] := Dx.F.bindsN fun _ _ _ _ _ _ us hl => match us, hl with | [_, _, _, _], _ => rfl
def n_compare : List Str := ["row", "one", "other", "k", "numbers", "worths", "number"]
theorem sc_compare : FnScope n_compare ["row", "one", "other", "k"] (defScope s_compare) := ⟨rfl, rfl, rfl, by decide +kernel, rfl, by decide +kernel, by decide +kernel⟩
theorem ok_compare (T : Tx mg) (K_Row : Kx_Row K mg) (K_Worse : Kx_Worse K mg P.main.file) (K_NeverWorse : Kx_NeverWorse K mg P.main.file) (X_InvalidHand : Xe K mg P.main.file "InvalidHand" s_InvalidHand___init__) (X_TooLong : Xe K mg P.main.file "TooLong" s_TooLong___init__) (X_InvalidNumber : Xe K mg P.main.file "InvalidNumber" s_InvalidNumber___init__) (D_compare : Df K mg "compare" s_compare) (D_gains : Df K mg "gains" s_gains) (D_check_question : Df K mg "check_question" s_check_question) (D_check_hand : Df K mg "check_hand" s_check_hand) (D_is_number : Df K mg "is_number" s_is_number) (D_check_class : Df K mg "check_class" s_check_class) (D_gains_of : Df K mg "gains_of" s_gains_of) (D_summed : Df K mg "summed" s_summed) (D_rays : Df K mg "rays" s_rays) (D_choose : Df K mg "choose" s_choose) (D_as_list : Df K mg "as_list" s_as_list) (D_copied : Df K mg "copied" s_copied) (hsup : mg "super" = none) (htop : (P.main.scope.names.lookup ("super" : Str)).isSome = false) : FnOk P w K mg base (L2.CX P w) 8 D_compare.f D_compare.fd ["row", "one", "other", "k"] (spD (F_compare K_Row.C K_NeverWorse.C K_Worse.C X_TooLong.C X_InvalidHand.C X_InvalidNumber.C)) := by
  have G_gains := ok_gains (P := P) (w := w) (base := base) T K_Row X_InvalidHand X_TooLong X_InvalidNumber D_gains D_check_question D_check_hand D_is_number D_check_class D_gains_of D_summed hsup htop
  have G_rays := ok_rays (P := P) (w := w) (base := base) T X_InvalidNumber D_rays D_is_number D_check_class D_choose hsup htop
  have G_Row___len__ := ok_Row___len__ (P := P) (w := w) (base := base) T K_Row
  have G_Worse___init__ := ok_Worse___init__ (P := P) (w := w) (base := base) T K_Worse D_as_list D_copied hsup htop
  have G_NeverWorse___init__ := ok_NeverWorse___init__ (P := P) (w := w) (base := base) T K_NeverWorse D_as_list D_copied hsup htop
  refine fn_d D_compare.F sc_compare (fun ds R Rx hs0 => ?_) (fun cdv A outer s H E hr => have hu := hr.units
    (ds_cons (s_set (i := 4) sc_compare.nd (d_call G_gains (hr.mono (by decide)) D_gains.g D_gains.F.kp (b_gains D_gains) .nil dfR_nil pass_d (da_cons (d_var 0) (da_cons (d_var 1) (da_cons (d_var 2) (da_cons (d_var 3) da_nil))))))
    (ds_cons (s_for (passes_of rfl) rfl (i_zip (da_cons (d_call G_rays (hr.mono (by decide)) D_rays.g D_rays.F.kp (b_rays D_rays) .nil dfR_nil pass_d (da_cons (d_callB (b_lenOw K_Row.o___len__ G_Row___len__ (b_Row___len__ K_Row.D___len__) (hr.mono (by decide))) T.m_len boot_len (da_cons (d_var 0) da_nil)) (da_cons (d_var 3) da_nil))) (da_cons (d_var 4) da_nil)) T.m_zip) (g_tup (n := 2) rfl (gs_cons (g_name (i := 5) sc_compare.nd) (gs_cons (g_name (i := 6) sc_compare.nd) gs_nil)))
      (ds_one (s_if (dt_cmp c_lt (d_var 6) d_int (nomark _)) (ds_one (s_ret (d_make K_Worse.mkr G_Worse___init__ (hr.mono (by decide)) K_Worse.g (b_Worse___init__ K_Worse.D___init__) pass_d (da_cons (d_var 1) (da_cons (d_var 2) (da_cons (d_var 3) (da_cons (d_var 5) da_nil))))))) ds_nil)))
    (ds_one (s_ret (d_make K_NeverWorse.mkr G_NeverWorse___init__ (hr.mono (by decide)) K_NeverWorse.g (b_NeverWorse___init__ K_NeverWorse.D___init__) pass_d (da_cons (d_var 1) (da_cons (d_var 2) (da_cons (d_var 3) (da_cons (d_var 4) da_nil))))))))) ) fun ds R Rx hs0 => ?_
  · obtain ⟨_, _, _, _, rfl, _⟩ := F_compare_of hs0
    rfl
  · obtain ⟨r, a, b, k, rfl, hs⟩ := F_compare_of hs0
    clear hs0
    simp only [n_compare]
    walk_at "dg"
    obtain ⟨h, ts, rfl, ok, ha, hb, hk, h1, h2⟩ := asRow_of hs
    have l0 := ok.2.2.1
    walk_at "dg"
    refine ⟨ok, ha, hb, hk, h1, fun z => ⟨(h2 z).1, fun y => ⟨((h2 z).2 y).1, fun x => ⟨(((h2 z).2 y).2 x).1, fun i j n ea eb ek i0 i1 j0 j1 n0 n1 => ?_⟩⟩⟩⟩
    have h4 := (((h2 z).2 y).2 x).2 i j n _ ea eb ek i0 i1 j0 j1 n0 n1 rfl
    subst ea eb ek
    clear h1 h2 x y ha hb hk hs
    have gln : (gainL (min n.toNat (ts.length - 1)) (sgn i j ts)).length = ts.length := by
      rw [gainL_ray (by rw [sgn_length]; omega), sgn_length, List.length_map, List.length_range]
    obtain ⟨h5, h6⟩ := h4 gln
    clear h4
    generalize hG : gainL (min n.toNat (ts.length - 1)) (sgn i j ts) = gs at *
    walk_at "dg"
    rw [Int.toNat_natCast]
    generalize hK : min n.toNat (ts.length - 1) = K at *
    refine ⟨by have := ok.2.2.2.1; omega, by omega, by omega, by omega, by omega, n0, n1, fun m env => m ≤ ts.length ∧ (∀ l, l < m → 0 ≤ gs.getD l 0) ∧ ∃ e5 e6 : Option DV, env = [some (.val (row K_Row.C h ts)), some (.val (.int i)), some (.val (.int j)), some (.val (.int n)), some (.val (.lst (gs.map D.int))), e5, e6], ⟨by omega, (fun l hl => absurd hl (by omega)), _, _, rfl⟩, ?_, ?_⟩
    · rintro m d env ed ⟨hm, ha, e5, e6, rfl⟩
      obtain ⟨x, y, ex, ey, rfl⟩ := pairs_get _ _ _ _ ed
      obtain ⟨hm2, _⟩ := List.getElem?_eq_some_iff.mp ey
      rw [List.length_map] at hm2
      rw [List.getElem?_map, List.getElem?_range (by omega), Option.map_some] at ex
      cases ex
      rw [getD_map hm2] at ey
      cases ey
      walk_at "dg"
      refine ⟨fun y => ?_, fun y => ⟨by omega, fun l hl => ?_⟩⟩
      · exact ⟨by unfold rowD; exact good_ints (n := 3) (by rw [List.length_map, List.length_range]; omega), h6 m (by omega) ha y⟩
      · by_cases c : l = m
        · subst c
          omega
        · exact ha l (by omega)
    · rintro env ⟨hm, ha, e5, e6, rfl⟩
      walk_at "dg"
      refine ⟨by omega, h5 fun l hl => ha l ?_⟩
      rw [pairs_length, List.length_map, List.length_map, List.length_range, gln, Nat.min_self]
      exact hl
local macro_rules | `(tactic| walk_at "rk") => `(tactic| first
  | assumption
  | (refine rok_app ?_ ?_ ?_ <;> first | walk_at "rk" | (simp only [List.length_append, List.length_reverse, List.length_map, List.length_replicate]; omega))
  | (refine rok_rev ?_; walk_at "rk")
  | (refine rok_map ?_ _ (fun t => fmod_in (by assumption)); walk_at "rk")
  | omega
  | decide
  | (refine log_lt (k := 80) ?_ (by decide) (by decide); omega))
local macro_rules | `(tactic| walk_at "fin") => `(tactic| ((repeat' (first | (with_reducible assumption) | (with_reducible refine And.intro ?_ ?_) | (with_reducible intro _))); all_goals first | (with_reducible assumption) | omega | contradiction | trivial))
local macro_rules | `(tactic| walk_at "cj") => `(tactic| repeat' (refine And.intro (by walk_at "rk") ?_))
def dgN38 : Array Lean.Name := dgN37 ++ #[`F_compare_is]
local macro_rules | `(tactic| walk_at "dg") => do let xs ← dgN38.mapM fun n => `(Lean.Parser.Tactic.simpLemma| $(Lean.mkIdent n):term); `(tactic| simp only [$xs,*, List.getElem?_cons_zero, List.getElem?_cons_succ])
def nwB (h : Int) (ts : List Int) (a b k : D) : D → Bool
  | .lst xs => decide (ts.length ≤ 200) && (isNum a 0 (h - 1) && (isNum b 0 (h - 1) && (isNum k 0 200 && (xs.all isInt && (decide (xs.map iv = gainL (min (iv k).toNat (ts.length - 1)) (sgn (iv a) (iv b) ts)) && !((xs.map iv).any fun x => decide (x < 0)))))))
  | _ => false
def woB (h : Int) (ts : List Int) (a b k : D) : D → Bool
  | .lst xs => decide (ts.length ≤ 200) && (isNum a 0 (h - 1) && (isNum b 0 (h - 1) && (isNum k 0 200 && (xs.all isInt && (decide (xs.length = ts.length) && (aocb (min (iv k).toNat (ts.length - 1)) (xs.map iv) && decide (tot ts (xs.map iv) (iv a) < tot ts (xs.map iv) (iv b))))))))
  | _ => false
theorem ivs_of : ∀ {xs : List D}, xs.all isInt = true → ∃ ns : List Int, xs = ns.map D.int
  | [], _ => ⟨[], rfl⟩
  | x :: xs, h => by
    rw [List.all_cons, Bool.and_eq_true] at h
    obtain ⟨ns, rfl⟩ := ivs_of h.2
    cases x <;> try exact (Bool.false_ne_true h.1).elim
    exact ⟨_ :: ns, rfl⟩
theorem iv_map (ns : List Int) : (ns.map D.int).map iv = ns := by
  rw [List.map_map]
  exact List.map_id ns
theorem nw_fit {h : Int} {ts : List Int} {a b k q : D} (z : (decide (ts.length ≤ 200) && (isNum a 0 (h - 1) && isNum b 0 (h - 1)) && isNum k 0 200) = false) : nwB h ts a b k q = false := by
  cases q <;> try rfl
  simp only [nwB]
  revert z
  cases decide (ts.length ≤ 200) <;> cases isNum a 0 (h - 1) <;> cases isNum b 0 (h - 1) <;> cases isNum k 0 200 <;> simp
theorem wo_fit {h : Int} {ts : List Int} {a b k q : D} (z : (decide (ts.length ≤ 200) && (isNum a 0 (h - 1) && isNum b 0 (h - 1)) && isNum k 0 200) = false) : woB h ts a b k q = false := by
  cases q <;> try rfl
  simp only [woB]
  revert z
  cases decide (ts.length ≤ 200) <;> cases isNum a 0 (h - 1) <;> cases isNum b 0 (h - 1) <;> cases isNum k 0 200 <;> simp
theorem nw_num {h : Int} {ts : List Int} {a b k q : D} (z : isNums q = false) : nwB h ts a b k q = false := by
  cases q <;> try rfl
  rename_i xs
  have z : xs.all isInt = false := z
  simp only [nwB, z, Bool.false_and, Bool.and_false]
theorem wo_num {h : Int} {ts : List Int} {a b k q : D} (z : isNums q = false) : woB h ts a b k q = false := by
  cases q <;> try rfl
  rename_i xs
  have z : xs.all isInt = false := z
  simp only [woB, z, Bool.false_and, Bool.and_false]
theorem nw_val {h i j n : Int} {ts ns : List Int} (hl : ts.length ≤ 200) (z2 : isNum (.int i) 0 (h - 1) = true) (z3 : isNum (.int j) 0 (h - 1) = true) (z4 : isNum (.int n) 0 200 = true) : nwB h ts (.int i) (.int j) (.int n) (.lst (ns.map D.int)) = (decide (ns = gainL (min n.toNat (ts.length - 1)) (sgn i j ts)) && !(ns.any fun x => decide (x < 0))) := by
  simp only [nwB, z2, z3, z4, decide_eq_true hl, Bool.true_and, iv_map, iv, show (ns.map D.int).all isInt = true from all_ints]
theorem wo_val {h i j n : Int} {ts ns : List Int} (hl : ts.length ≤ 200) (z2 : isNum (.int i) 0 (h - 1) = true) (z3 : isNum (.int j) 0 (h - 1) = true) (z4 : isNum (.int n) 0 200 = true) : woB h ts (.int i) (.int j) (.int n) (.lst (ns.map D.int)) = (decide (ns.length = ts.length) && (aocb (min n.toNat (ts.length - 1)) ns && decide (tot ts ns i < tot ts ns j))) := by
  simp only [woB, z2, z3, z4, decide_eq_true hl, Bool.true_and, iv_map, iv, show (ns.map D.int).all isInt = true from all_ints, List.length_map]
theorem fld_m_totals {x y : D} : fld ksRow [x, y] "totals" = none := rfl
def F_NeverWorse_fits (C CR : Addr) : Spec
  | [p, r], R, Rx => asP4 C ksNeverWorse (fun a b k q => asRow CR (fun h ts => RowOk h ts ∧ a.dat = true ∧ b.dat = true ∧ k.dat = true ∧ R (.bl (decide (ts.length ≤ 200) && (isNum a 0 (h - 1) && isNum b 0 (h - 1)) && isNum k 0 200))) r) p
  | _, _, _ => False
theorem F_NeverWorse_fits_is {C CR : Addr} {p : D} {r : D} {R : D → Prop} {Rx : Er → Prop} : F_NeverWorse_fits C CR [p, r] R Rx = (asP4 C ksNeverWorse (fun a b k q => asRow CR (fun h ts => RowOk h ts ∧ a.dat = true ∧ b.dat = true ∧ k.dat = true ∧ R (.bl (decide (ts.length ≤ 200) && (isNum a 0 (h - 1) && isNum b 0 (h - 1)) && isNum k 0 200))) r) p) := rfl
theorem F_NeverWorse_fits_of {C CR : Addr} {ds : List D} {R : D → Prop} {Rx : Er → Prop} (z : F_NeverWorse_fits C CR ds R Rx) : ∃ (p : D) (r : D), ds = [p, r] ∧ (asP4 C ksNeverWorse (fun a b k q => asRow CR (fun h ts => RowOk h ts ∧ a.dat = true ∧ b.dat = true ∧ k.dat = true ∧ R (.bl (decide (ts.length ≤ 200) && (isNum a 0 (h - 1) && isNum b 0 (h - 1)) && isNum k 0 200))) r) p) := by
  unfold F_NeverWorse_fits at z
  split at z
  · exact ⟨_, _, rfl, z⟩
  · exact z.elim
def b_NeverWorse_fits (Dx : Dm K "fits" "Compared.fits" s_NeverWorse_fits) : Binds K Dx.fd ["self", "row"] [] := Dx.F.bindsN fun _ _ _ _ _ _ us hl => match us, hl with | [_, _], _ => rfl
def n_NeverWorse_fits : List Str := ["self", "row"]
theorem sc_NeverWorse_fits : FnScope n_NeverWorse_fits ["self", "row"] (defScope s_NeverWorse_fits) := ⟨rfl, rfl, rfl, by decide +kernel, rfl, by decide +kernel, by decide +kernel⟩
def dgN39 : Array Lean.Name := dgN38 ++ #[`fld_m_totals, `F_NeverWorse_fits_is]
local macro_rules | `(tactic| walk_at "dg") => do let xs ← dgN39.mapM fun n => `(Lean.Parser.Tactic.simpLemma| $(Lean.mkIdent n):term); `(tactic| simp only [$xs,*, List.getElem?_cons_zero, List.getElem?_cons_succ])
theorem ok_NeverWorse_fits (T : Tx mg) (K_NeverWorse : Kx_NeverWorse K mg P.main.file) (K_Row : Kx_Row K mg) (D_are_hands : Df K mg "are_hands" s_are_hands) (D_is_number : Df K mg "is_number" s_is_number) : FnOk P w K mg base (L2.CX P w) 4 K_NeverWorse.D_fits.f K_NeverWorse.D_fits.fd ["self", "row"] (spD (F_NeverWorse_fits K_NeverWorse.C K_Row.C)) := by
  have G_are_hands := ok_are_hands (P := P) (w := w) (base := base) T K_Row D_are_hands D_is_number
  have G_is_number := ok_is_number (P := P) (w := w) (base := base) D_is_number T.m_isinstance T.m_int T.m_bool
  refine fn_d K_NeverWorse.D_fits.F sc_NeverWorse_fits (fun ds R Rx hs0 => ?_) (fun cdv A outer s H E hr => have hu := hr.units
    (ds_one (s_ret (d_and (d_call G_are_hands (hr.mono (by decide)) D_are_hands.g D_are_hands.F.kp (b_are_hands D_are_hands) .nil dfR_nil pass_d (da_cons (d_var 1) (da_cons (d_fld (d_var 0) K_NeverWorse.cls K_NeverWorse.n_own_one) (da_cons (d_fld (d_var 0) K_NeverWorse.cls K_NeverWorse.n_own_other) da_nil)))) (d_one (d_call G_is_number (hr.mono (by decide)) D_is_number.g D_is_number.F.kp (b_is_number D_is_number) .nil dfR_nil pass_d (da_cons (d_fld (d_var 0) K_NeverWorse.cls K_NeverWorse.n_own_k) (da_cons d_int (da_cons (d_gint T.c_MOST_PLACES) da_nil)))))))) ) fun ds R Rx hs0 => ?_
  · obtain ⟨_, _, rfl, _⟩ := F_NeverWorse_fits_of hs0
    rfl
  · obtain ⟨p, r, rfl, hs⟩ := F_NeverWorse_fits_of hs0
    clear hs0
    simp only [n_NeverWorse_fits]
    walk_at "dg"
    obtain ⟨a, b, k, q, rfl, hs2⟩ := asP4_of hs
    obtain ⟨h, ts, rfl, ok, ha, hb, hk, hR⟩ := asRow_of hs2
    walk_at "dg"
    refine ⟨ok, ha, hb, fun ⟨z1, z2, z3⟩ => ⟨hk, ?_⟩, fun z => ?_⟩
    · rw [decide_eq_true z1, z2, z3] at hR
      exact hR
    · rw [z] at hR
      exact hR
def F_Worse_fits (C CR : Addr) : Spec
  | [p, r], R, Rx => asP4 C ksWorse (fun a b k q => asRow CR (fun h ts => RowOk h ts ∧ a.dat = true ∧ b.dat = true ∧ k.dat = true ∧ R (.bl (decide (ts.length ≤ 200) && (isNum a 0 (h - 1) && isNum b 0 (h - 1)) && isNum k 0 200))) r) p
  | _, _, _ => False
theorem F_Worse_fits_is {C CR : Addr} {p : D} {r : D} {R : D → Prop} {Rx : Er → Prop} : F_Worse_fits C CR [p, r] R Rx = (asP4 C ksWorse (fun a b k q => asRow CR (fun h ts => RowOk h ts ∧ a.dat = true ∧ b.dat = true ∧ k.dat = true ∧ R (.bl (decide (ts.length ≤ 200) && (isNum a 0 (h - 1) && isNum b 0 (h - 1)) && isNum k 0 200))) r) p) := rfl
theorem F_Worse_fits_of {C CR : Addr} {ds : List D} {R : D → Prop} {Rx : Er → Prop} (z : F_Worse_fits C CR ds R Rx) : ∃ (p : D) (r : D), ds = [p, r] ∧ (asP4 C ksWorse (fun a b k q => asRow CR (fun h ts => RowOk h ts ∧ a.dat = true ∧ b.dat = true ∧ k.dat = true ∧ R (.bl (decide (ts.length ≤ 200) && (isNum a 0 (h - 1) && isNum b 0 (h - 1)) && isNum k 0 200))) r) p) := by
  unfold F_Worse_fits at z
  split at z
  · exact ⟨_, _, rfl, z⟩
  · exact z.elim
def b_Worse_fits (Dx : Dm K "fits" "Compared.fits" s_Worse_fits) : Binds K Dx.fd ["self", "row"] [] := Dx.F.bindsN fun _ _ _ _ _ _ us hl => match us, hl with | [_, _], _ => rfl
def n_Worse_fits : List Str := ["self", "row"]
theorem sc_Worse_fits : FnScope n_Worse_fits ["self", "row"] (defScope s_Worse_fits) := ⟨rfl, rfl, rfl, by decide +kernel, rfl, by decide +kernel, by decide +kernel⟩
theorem ok_Worse_fits (T : Tx mg) (K_Worse : Kx_Worse K mg P.main.file) (K_Row : Kx_Row K mg) (D_are_hands : Df K mg "are_hands" s_are_hands) (D_is_number : Df K mg "is_number" s_is_number) : FnOk P w K mg base (L2.CX P w) 4 K_Worse.D_fits.f K_Worse.D_fits.fd ["self", "row"] (spD (F_Worse_fits K_Worse.C K_Row.C)) := by
  have G_are_hands := ok_are_hands (P := P) (w := w) (base := base) T K_Row D_are_hands D_is_number
  have G_is_number := ok_is_number (P := P) (w := w) (base := base) D_is_number T.m_isinstance T.m_int T.m_bool
  refine fn_d K_Worse.D_fits.F sc_Worse_fits (fun ds R Rx hs0 => ?_) (fun cdv A outer s H E hr => have hu := hr.units
    (ds_one (s_ret (d_and (d_call G_are_hands (hr.mono (by decide)) D_are_hands.g D_are_hands.F.kp (b_are_hands D_are_hands) .nil dfR_nil pass_d (da_cons (d_var 1) (da_cons (d_fld (d_var 0) K_Worse.cls K_Worse.n_own_one) (da_cons (d_fld (d_var 0) K_Worse.cls K_Worse.n_own_other) da_nil)))) (d_one (d_call G_is_number (hr.mono (by decide)) D_is_number.g D_is_number.F.kp (b_is_number D_is_number) .nil dfR_nil pass_d (da_cons (d_fld (d_var 0) K_Worse.cls K_Worse.n_own_k) (da_cons d_int (da_cons (d_gint T.c_MOST_PLACES) da_nil)))))))) ) fun ds R Rx hs0 => ?_
  · obtain ⟨_, _, rfl, _⟩ := F_Worse_fits_of hs0
    rfl
  · obtain ⟨p, r, rfl, hs⟩ := F_Worse_fits_of hs0
    clear hs0
    simp only [n_Worse_fits]
    walk_at "dg"
    obtain ⟨a, b, k, q, rfl, hs2⟩ := asP4_of hs
    obtain ⟨h, ts, rfl, ok, ha, hb, hk, hR⟩ := asRow_of hs2
    walk_at "dg"
    refine ⟨ok, ha, hb, fun ⟨z1, z2, z3⟩ => ⟨hk, ?_⟩, fun z => ?_⟩
    · rw [decide_eq_true z1, z2, z3] at hR
      exact hR
    · rw [z] at hR
      exact hR
def F_NeverWorse_holds (C CR : Addr) : Spec
  | [p, r], R, Rx => asP4 C ksNeverWorse (fun a b k q => asRow CR (fun h ts => RowOk h ts ∧ a.dat = true ∧ b.dat = true ∧ k.dat = true ∧ Flat1 q ∧ q.dep ≤ 10 ∧ R (.bl (nwB h ts a b k q))) r) p
  | _, _, _ => False
theorem F_NeverWorse_holds_is {C CR : Addr} {p : D} {r : D} {R : D → Prop} {Rx : Er → Prop} : F_NeverWorse_holds C CR [p, r] R Rx = (asP4 C ksNeverWorse (fun a b k q => asRow CR (fun h ts => RowOk h ts ∧ a.dat = true ∧ b.dat = true ∧ k.dat = true ∧ Flat1 q ∧ q.dep ≤ 10 ∧ R (.bl (nwB h ts a b k q))) r) p) := rfl
theorem F_NeverWorse_holds_of {C CR : Addr} {ds : List D} {R : D → Prop} {Rx : Er → Prop} (z : F_NeverWorse_holds C CR ds R Rx) : ∃ (p : D) (r : D), ds = [p, r] ∧ (asP4 C ksNeverWorse (fun a b k q => asRow CR (fun h ts => RowOk h ts ∧ a.dat = true ∧ b.dat = true ∧ k.dat = true ∧ Flat1 q ∧ q.dep ≤ 10 ∧ R (.bl (nwB h ts a b k q))) r) p) := by
  unfold F_NeverWorse_holds at z
  split at z
  · exact ⟨_, _, rfl, z⟩
  · exact z.elim
def b_NeverWorse_holds (Dx : Dm K "holds" "NeverWorse.holds" s_NeverWorse_holds) : Binds K Dx.fd ["self", "row"] [] := Dx.F.bindsN fun _ _ _ _ _ _ us hl => match us, hl with | [_, _], _ => rfl
def n_NeverWorse_holds : List Str := ["self", "row", "number"]
theorem sc_NeverWorse_holds : FnScope n_NeverWorse_holds ["self", "row"] (defScope s_NeverWorse_holds) := ⟨rfl, rfl, rfl, by decide +kernel, rfl, by decide +kernel, by decide +kernel⟩
theorem ok_NeverWorse_holds (T : Tx mg) (K_NeverWorse : Kx_NeverWorse K mg P.main.file) (K_Row : Kx_Row K mg) (D_are_hands : Df K mg "are_hands" s_are_hands) (D_is_number : Df K mg "is_number" s_is_number) (D_are_numbers : Df K mg "are_numbers" s_are_numbers) (D_gains_of : Df K mg "gains_of" s_gains_of) (D_summed : Df K mg "summed" s_summed) : FnOk P w K mg base (L2.CX P w) 5 K_NeverWorse.D_holds.f K_NeverWorse.D_holds.fd ["self", "row"] (spD (F_NeverWorse_holds K_NeverWorse.C K_Row.C)) := by
  have G_NeverWorse_fits := ok_NeverWorse_fits (P := P) (w := w) (base := base) T K_NeverWorse K_Row D_are_hands D_is_number
  have G_are_numbers := ok_are_numbers (P := P) (w := w) (base := base) T D_are_numbers
  have G_gains_of := ok_gains_of (P := P) (w := w) (base := base) T K_Row D_gains_of D_summed
  refine fn_d K_NeverWorse.D_holds.F sc_NeverWorse_holds (fun ds R Rx hs0 => ?_) (fun cdv A outer s H E hr => have hu := hr.units
    (ds_cons (s_if (dw_pt (dw_or (dt_not (dt_tru (d_meth (d_var 0) K_NeverWorse.cls K_NeverWorse.h_fits G_NeverWorse_fits (hr.mono (by decide)) (b_NeverWorse_fits K_NeverWorse.D_fits) pass_d (da_cons (d_var 1) da_nil)))) (dw_or1 (dt_not (dt_tru (d_call G_are_numbers (hr.mono (by decide)) D_are_numbers.g D_are_numbers.F.kp (b_are_numbers D_are_numbers) .nil dfR_nil pass_d (da_cons (d_fld (d_var 0) K_NeverWorse.cls K_NeverWorse.n_own_numbers) da_nil))))))) (ds_one (s_ret d_bl)) ds_nil)
    (ds_cons (s_if (dt_cmp (c_ne hu) (d_ofF (f_list (d_fld (d_var 0) K_NeverWorse.cls K_NeverWorse.n_own_numbers) T.m_list)) (d_call G_gains_of (hr.mono (by decide)) D_gains_of.g D_gains_of.F.kp (b_gains_of D_gains_of) .nil dfR_nil pass_d (da_cons (d_var 1) (da_cons (d_fld (d_var 0) K_NeverWorse.cls K_NeverWorse.n_own_one) (da_cons (d_fld (d_var 0) K_NeverWorse.cls K_NeverWorse.n_own_other) (da_cons (d_fld (d_var 0) K_NeverWorse.cls K_NeverWorse.n_own_k) da_nil))))) (nomark _)) (ds_one (s_ret d_bl)) ds_nil)
    (ds_one (s_ret (d_not (d_callB (b_any rfl) T.m_any PyProof.Rows.boot_any (da_cons (d_ofF (f_lc rfl sc_NeverWorse_holds.nd (i_list (d_fld (d_var 0) K_NeverWorse.cls K_NeverWorse.n_own_numbers)) (blkOk_by (own := [("number", 2)]) (N := n_NeverWorse_holds) (sc := defScope s_NeverWorse_holds) (by decide +kernel)) (by decide) (fun _ _ _ _ _ => (g_name (i := 2) sc_NeverWorse_holds.nd)) (fun _ _ _ _ _ => dts_nil) (fun _ _ _ _ _ => (d_cmp c_lt (d_var 2) d_int (nomark _))))) da_nil))))))) ) fun ds R Rx hs0 => ?_
  · obtain ⟨_, _, rfl, _⟩ := F_NeverWorse_holds_of hs0
    rfl
  · obtain ⟨p, r, rfl, hs⟩ := F_NeverWorse_holds_of hs0
    clear hs0
    simp only [n_NeverWorse_holds]
    obtain ⟨a, b, k, q, rfl, hs2⟩ := asP4_of hs
    obtain ⟨h, ts, rfl, ok, ha, hb, hk, hq, hp, hR⟩ := asRow_of hs2
    clear hs hs2
    have no : nwB h ts a b k q = false → R (.bl false) := fun z => by rw [z] at hR; exact hR
    refine seq_step fun N1 hN1 => ?_
    refine if_step fun U W hU hW => ?_
    walk_at "dg"
    refine ⟨ok, ha, hb, hk, fun z => hU _ _ (no (nw_fit z)), fun ⟨⟨z1, z2, z3⟩, z4⟩ => ⟨hq.dat, ?_, fun z => hU _ _ (no (nw_num z)), fun z => hW _ _ ?_⟩⟩
    · cases q <;> first | exact Nat.zero_le _ | exact hq.elim | exact Nat.le_trans hq.2 (by decide)
    clear hU hW U W
    refine hN1 _ ?_
    clear hN1 N1
    cases q <;> try exact (Bool.false_ne_true z).elim
    case tup => exact hq.elim
    rename_i xs
    obtain ⟨ns, rfl⟩ := ivs_of z
    obtain ⟨i, rfl, i0, i1⟩ := isNum_of z2
    obtain ⟨j, rfl, j0, j1⟩ := isNum_of z3
    obtain ⟨n, rfl, n0, n1⟩ := isNum_of z4
    rw [nw_val z1 z2 z3 z4] at hR no
    have hl : (ns.map D.int).length ≤ 5000 := hq.2
    rw [List.length_map] at hl
    refine seq_step fun N1 hN1 => ?_
    refine if_step fun U W hU hW => ?_
    walk_at "dg"
    refine ⟨ok, by omega, n0, by omega, datL_ints, datL_ints, by have := depL_ints (ns := ns); omega, fun y => hU _ _ (no (by rw [decide_eq_false y]; rfl)), fun y => hW _ _ ?_⟩
    rw [decide_eq_true y, Bool.true_and] at hR
    clear hU hW U W no
    refine hN1 _ ?_
    clear hN1 N1
    walk_at "dg"
    refine LcP.of (fun x : Int => .bl (decide (x < 0))) (by rw [sizeLine_eq]; omega) (fun q x N e hN => ?_) ?_
    · walk_at "dg"
      exact hN
    · have e : asBls (ns.map fun x => D.bl (decide (x < 0))) = some (ns.map fun x => decide (x < 0)) := by
        rw [← asBls_map, List.map_map]
        rfl
      refine ⟨_, e, ?_⟩
      have e2 : (ns.map fun x => decide (x < 0)).any id = ns.any fun x => decide (x < 0) := by
        rw [List.any_map]
        rfl
      rw [e2]
      exact hR
def F_Worse_holds (C CR : Addr) : Spec
  | [p, r], R, Rx => asP4 C ksWorse (fun a b k q => asRow CR (fun h ts => RowOk h ts ∧ a.dat = true ∧ b.dat = true ∧ k.dat = true ∧ Flat1 q ∧ q.dep ≤ 10 ∧ R (.bl (woB h ts a b k q))) r) p
  | _, _, _ => False
theorem F_Worse_holds_is {C CR : Addr} {p : D} {r : D} {R : D → Prop} {Rx : Er → Prop} : F_Worse_holds C CR [p, r] R Rx = (asP4 C ksWorse (fun a b k q => asRow CR (fun h ts => RowOk h ts ∧ a.dat = true ∧ b.dat = true ∧ k.dat = true ∧ Flat1 q ∧ q.dep ≤ 10 ∧ R (.bl (woB h ts a b k q))) r) p) := rfl
theorem F_Worse_holds_of {C CR : Addr} {ds : List D} {R : D → Prop} {Rx : Er → Prop} (z : F_Worse_holds C CR ds R Rx) : ∃ (p : D) (r : D), ds = [p, r] ∧ (asP4 C ksWorse (fun a b k q => asRow CR (fun h ts => RowOk h ts ∧ a.dat = true ∧ b.dat = true ∧ k.dat = true ∧ Flat1 q ∧ q.dep ≤ 10 ∧ R (.bl (woB h ts a b k q))) r) p) := by
  unfold F_Worse_holds at z
  split at z
  · exact ⟨_, _, rfl, z⟩
  · exact z.elim
def b_Worse_holds (Dx : Dm K "holds" "Worse.holds" s_Worse_holds) : Binds K Dx.fd ["self", "row"] [] := Dx.F.bindsN fun _ _ _ _ _ _ us hl => match us, hl with | [_, _], _ => rfl
def n_Worse_holds : List Str := ["self", "row", "worths", "totals"]
theorem sc_Worse_holds : FnScope n_Worse_holds ["self", "row"] (defScope s_Worse_holds) := ⟨rfl, rfl, rfl, by decide +kernel, rfl, by decide +kernel, by decide +kernel⟩
def dgN40 : Array Lean.Name := dgN39 ++ #[`F_Worse_fits_is, `F_NeverWorse_holds_is, `F_Worse_holds_is]
local macro_rules | `(tactic| walk_at "dg") => do let xs ← dgN40.mapM fun n => `(Lean.Parser.Tactic.simpLemma| $(Lean.mkIdent n):term); `(tactic| simp only [$xs,*, List.getElem?_cons_zero, List.getElem?_cons_succ])
theorem ok_Worse_holds (T : Tx mg) (K_Worse : Kx_Worse K mg P.main.file) (K_Row : Kx_Row K mg) (X_InvalidWorths : Xe K mg P.main.file "InvalidWorths" s_InvalidWorths___init__) (D_are_hands : Df K mg "are_hands" s_are_hands) (D_is_number : Df K mg "is_number" s_is_number) (D_are_numbers : Df K mg "are_numbers" s_are_numbers) (D_are_of_class : Df K mg "are_of_class" s_are_of_class) (D_differences : Df K mg "differences" s_differences) (hsup : mg "super" = none) (htop : (P.main.scope.names.lookup ("super" : Str)).isSome = false) : FnOk P w K mg base (L2.CX P w) 5 K_Worse.D_holds.f K_Worse.D_holds.fd ["self", "row"] (spD (F_Worse_holds K_Worse.C K_Row.C)) := by
  have G_Worse_fits := ok_Worse_fits (P := P) (w := w) (base := base) T K_Worse K_Row D_are_hands D_is_number
  have G_are_numbers := ok_are_numbers (P := P) (w := w) (base := base) T D_are_numbers
  have G_Row___len__ := ok_Row___len__ (P := P) (w := w) (base := base) T K_Row
  have G_Row_totals := ok_Row_totals (P := P) (w := w) (base := base) T K_Row X_InvalidWorths D_are_numbers hsup htop
  have G_are_of_class := ok_are_of_class (P := P) (w := w) (base := base) T D_are_of_class D_differences
  refine fn_d K_Worse.D_holds.F sc_Worse_holds (fun ds R Rx hs0 => ?_) (fun cdv A outer s H E hr => have hu := hr.units
    (ds_cons (s_set (i := 2) sc_Worse_holds.nd (d_fld (d_var 0) K_Worse.cls K_Worse.n_own_worths))
    (ds_cons (s_if (dw_pt (dw_or (dt_not (dt_tru (d_meth (d_var 0) K_Worse.cls K_Worse.h_fits G_Worse_fits (hr.mono (by decide)) (b_Worse_fits K_Worse.D_fits) pass_d (da_cons (d_var 1) da_nil)))) (dw_or (dt_not (dt_tru (d_call G_are_numbers (hr.mono (by decide)) D_are_numbers.g D_are_numbers.F.kp (b_are_numbers D_are_numbers) .nil dfR_nil pass_d (da_cons (d_var 2) da_nil)))) (dw_or1 (dt_cmp (c_ne hu) (d_callB b_len T.m_len boot_len (da_cons (d_var 2) da_nil)) (d_callB (b_lenOw K_Row.o___len__ G_Row___len__ (b_Row___len__ K_Row.D___len__) (hr.mono (by decide))) T.m_len boot_len (da_cons (d_var 1) da_nil)) (nomark _)))))) (ds_one (s_ret d_bl)) ds_nil)
    (ds_cons (s_set (i := 3) sc_Worse_holds.nd (d_ofN (d_methN (d_var 1) K_Row.cls K_Row.h_totals G_Row_totals (hr.mono (by decide)) (b_Row_totals K_Row.D_totals) pass_d (da_cons (d_var 2) da_nil))))
    (ds_one (s_ret (d_and (d_call G_are_of_class (hr.mono (by decide)) D_are_of_class.g D_are_of_class.F.kp (b_are_of_class D_are_of_class) .nil dfR_nil pass_d (da_cons (d_var 2) (da_cons (d_fld (d_var 0) K_Worse.cls K_Worse.n_own_k) da_nil))) (d_one (d_cmp c_lt (d_ix (d_var 3) (d_fld (d_var 0) K_Worse.cls K_Worse.n_own_one)) (d_ix (d_var 3) (d_fld (d_var 0) K_Worse.cls K_Worse.n_own_other)) (nomark _))))))))) ) fun ds R Rx hs0 => ?_
  · obtain ⟨_, _, rfl, _⟩ := F_Worse_holds_of hs0
    rfl
  · obtain ⟨p, r, rfl, hs⟩ := F_Worse_holds_of hs0
    clear hs0
    simp only [n_Worse_holds]
    obtain ⟨a, b, k, q, rfl, hs2⟩ := asP4_of hs
    obtain ⟨h, ts, rfl, ok, ha, hb, hk, hq, hp, hR⟩ := asRow_of hs2
    clear hs hs2
    have no : woB h ts a b k q = false → R (.bl false) := fun z => by rw [z] at hR; exact hR
    refine seq_step fun N1 hN1 => ?_
    walk_at "dg"
    refine hN1 _ ?_
    clear hN1 N1
    refine seq_step fun N1 hN1 => ?_
    refine if_step fun U W hU hW => ?_
    walk_at "dg"
    have ql : q.dat = true ∧ lenD q ≤ 100000 := by
      refine ⟨hq.dat, ?_⟩
      cases q <;> first | exact Nat.zero_le _ | exact hq.elim | exact Nat.le_trans hq.2 (by decide)
    refine ⟨ok, ha, hb, hk, fun z => hU _ _ (no (wo_fit z)), fun ⟨⟨z1, z2, z3⟩, z4⟩ => ⟨ql.1, ql.2, fun z => hU _ _ (no (wo_num z)), fun z => ?_⟩⟩
    cases q <;> try exact (Bool.false_ne_true z).elim
    case tup => exact hq.elim
    rename_i xs
    obtain ⟨ns, rfl⟩ := ivs_of z
    obtain ⟨i, rfl, i0, i1⟩ := isNum_of z2
    obtain ⟨j, rfl, j0, j1⟩ := isNum_of z3
    obtain ⟨n, rfl, n0, n1⟩ := isNum_of z4
    rw [wo_val z1 z2 z3 z4] at hR no
    have hl : (ns.map D.int).length ≤ 5000 := hq.2
    rw [List.length_map] at hl
    have o4 := ok.2.2.2.1
    walk_at "dg"
    refine ⟨o4, by omega, by omega, fun y => hU _ _ (no (by rw [decide_eq_false (by omega)]; rfl)), fun y => hW _ _ ?_⟩
    have y : ns.length = ts.length := by omega
    rw [decide_eq_true y, Bool.true_and] at hR
    clear hU hW U W no
    have nl : lenD (.lst (ns.map D.int)) ≤ 100000 := by show (ns.map D.int).length ≤ 100000; rw [List.length_map]; omega
    have tl : ∀ ws : List Int, ∀ x : Int, 0 ≤ x → x < h → atI ((totL h ts ws).map D.int) x = some (.int (tot ts ws x)) := fun ws x x0 x1 => by
      unfold totL
      rw [List.map_map, atI_map (k := x.toNat) (by omega) (by omega)]
      show some (D.int (tot ts ws (x.toNat : Int))) = _
      rw [Int.toNat_of_nonneg x0]
    refine hN1 _ ?_
    clear hN1 N1
    refine seq_step fun N1 hN1 => ?_
    walk_at "dg"
    refine ⟨ok, datL_ints, nl, fun ws ew lw => ?_, fun z => ?_⟩
    · obtain rfl := map_int_eq ew
      have l0 := ok.2.2.1
      refine hN1 _ ?_
      clear hN1 N1
      walk_at "dg"
      rw [y]
      refine ⟨by omega, by omega, n0, n1, fun z => ⟨_, tl _ i i0 (by omega), _, tl _ j j0 (by omega), ?_⟩, fun z => ?_⟩
      · rw [opLt_int]
        rw [z, Bool.true_and] at hR
        exact hR
      · rw [z, Bool.false_and] at hR
        exact hR
    · rcases z with z | z
      · have nk : isNums (.lst (ns.map D.int)) = true := all_ints
        rw [nk] at z
        cases z
      · exact absurd (show (ns.map D.int).length = ts.length by rw [List.length_map]; exact y) z
local macro_rules | `(tactic| walk_at "rk") => `(tactic| first
  | assumption
  | (refine rok_app ?_ ?_ ?_ <;> first | walk_at "rk" | (simp only [List.length_append, List.length_reverse, List.length_map, List.length_replicate]; omega))
  | (refine rok_rev ?_; walk_at "rk")
  | (refine rok_map ?_ _ (fun t => fmod_in (by assumption)); walk_at "rk")
  | omega
  | decide
  | (refine log_lt (k := 80) ?_ (by decide) (by decide); omega))
local macro_rules | `(tactic| walk_at "fin") => `(tactic| ((repeat' (first | (with_reducible assumption) | (with_reducible refine And.intro ?_ ?_) | (with_reducible intro _))); all_goals first | (with_reducible assumption) | omega | contradiction | trivial))
local macro_rules | `(tactic| walk_at "cj") => `(tactic| repeat' (refine And.intro (by walk_at "rk") ?_))
theorem bin_two : ∀ n k : Nat, bin n k ≤ 2 ^ n
  | n, 0 => by rw [bin_zero]; exact Nat.one_le_two_pow
  | 0, k + 1 => by rw [bin]; decide
  | n + 1, k + 1 => by
    rw [bin, Nat.pow_succ]
    have := bin_two n k
    have := bin_two n (k + 1)
    omega
theorem bin_pos : ∀ {n k : Nat}, k ≤ n → 1 ≤ bin n k
  | n, 0, _ => by rw [bin_zero]; exact Nat.le_refl _
  | 0, k + 1, h => absurd h (by omega)
  | n + 1, k + 1, h => by
    rw [bin]
    have := bin_pos (n := n) (k := k) (by omega)
    omega
theorem ray_two {n K j i : Nat} (hK : K < n) (hj : j < n) : (ray n K j i).natAbs ≤ 2 ^ n := by
  have up : ∀ {a b : Nat}, a ≤ n → bin a b ≤ 2 ^ n := fun {a b} h => Nat.le_trans (bin_two a b) (Nat.pow_le_pow_right (by decide) h)
  have one : 1 ≤ 2 ^ n := Nat.one_le_two_pow
  unfold ray
  split
  · split
    · split
      · exact one
      · exact Nat.zero_le _
    · split
      · rw [Int.natAbs_natCast]
        exact up (by omega)
      · exact Nat.zero_le _
  · rw [Int.natAbs_natCast]
    exact up (by omega)
theorem ray_first {n K j : Nat} (hK : K < n) (h1 : 1 ≤ K ∨ n = 1) (hj : j < n) : 1 ≤ ray n K j 0 := by
  unfold ray
  split
  · split
    · rw [if_pos (by omega)]
      decide
    · rw [if_pos (by omega)]
      have := bin_pos (n := j - 0 + K - 1) (k := K - 1) (by omega)
      omega
  · have := bin_pos (n := n - 1 - 0) (k := j - (n - K)) (by omega)
    omega
theorem dotR_up {n : Nat} {xs : List Int} {f : Nat → Int} : dotR (n + 1) xs f = dotR n xs f + xs.getD n 0 * f n := by
  unfold dotR
  rw [List.range_succ, List.map_append, List.sum_append]
  simp
theorem dotR_small {xs : List Int} {f : Nat → Int} {B : Nat} (hx : ∀ i, (xs.getD i 0).natAbs ≤ 1) (hf : ∀ i, (f i).natAbs ≤ B) : ∀ n, (dotR n xs f).natAbs ≤ n * B
  | 0 => by simp [dotR]
  | n + 1 => by
    rw [dotR_up]
    have a := dotR_small hx hf n
    have b : (xs.getD n 0 * f n).natAbs ≤ B := by
      rw [Int.natAbs_mul]
      exact Nat.le_trans (Nat.mul_le_mul (hx n) (hf n)) (by omega)
    rw [Nat.succ_mul]
    omega
theorem sgn_small {a b : Int} {ts : List Int} (i : Nat) : ((sgn a b ts).getD i 0).natAbs ≤ 1 := by
  unfold sgn
  rw [List.getD, List.getElem?_map]
  cases ts[i]? with
  | none => exact Nat.zero_le 1
  | some t =>
    show ((if t = a then (1 : Int) else 0) - (if t = b then 1 else 0)).natAbs ≤ 1
    split <;> split <;> decide
/-- the gain of the ray j -/
def gnR (a b : Int) (ts : List Int) (K j : Nat) : Int := dotR ts.length (sgn a b ts) (ray ts.length K j)
theorem gnR_bits {a b : Int} {ts : List Int} {K j : Nat} (hK : K < ts.length) (hj : j < ts.length) (hl : ts.length ≤ 200) : (gnR a b ts K j).natAbs < 2 ^ 400 := by
  have h := dotR_small (xs := sgn a b ts) (f := ray ts.length K j) (B := 2 ^ ts.length) (fun i => sgn_small i) (fun i => ray_two hK hj) ts.length
  refine Nat.lt_of_le_of_lt (Nat.le_trans h (Nat.mul_le_mul hl (Nat.pow_le_pow_right (by decide) hl))) (by decide)
theorem ray_b400 {n K j i : Nat} (hK : K < n) (hj : j < n) (hn : n ≤ 200) : (ray n K j i).natAbs < 2 ^ 400 := Nat.lt_of_le_of_lt (Nat.le_trans (ray_two hK hj) (Nat.pow_le_pow_right (by decide) hn)) (by decide)
/-- the best ray of the first ones; above and below of its gain -/
def ggA (a b : Int) (ts : List Int) (K : Nat) : Option Nat → Int
  | none => 0
  | some j => gnR a b ts K j
def ggW (n K : Nat) : Option Nat → Int
  | none => 1
  | some j => ray n K j 0
def ggN (a b : Int) (ts : List Int) (K : Nat) : Nat → Option Nat
  | 0 => none
  | s + 1 => if ggA a b ts K (ggN a b ts K s) * ray ts.length K s 0 < gnR a b ts K s * ggW ts.length K (ggN a b ts K s) then some s else ggN a b ts K s
def ggB (n K : Nat) : Option Nat → List Int
  | none => List.replicate n 0
  | some j => (List.range n).map (ray n K j)
theorem ggN_lt {a b : Int} {ts : List Int} {K : Nat} : ∀ {s j : Nat}, ggN a b ts K s = some j → j < s
  | 0, j, h => by cases h
  | s + 1, j, h => by
    rw [ggN] at h
    split at h
    · cases h
      omega
    · have := ggN_lt h
      omega
theorem ggW_pos {n K : Nat} {o : Option Nat} (hK : K < n) (h1 : 1 ≤ K ∨ n = 1) (ho : ∀ j, o = some j → j < n) : 1 ≤ ggW n K o := by
  cases o with
  | none => exact Int.le_refl 1
  | some j => exact ray_first hK h1 (ho j rfl)
theorem ggW_bits {n K : Nat} {o : Option Nat} (hK : K < n) (hn : n ≤ 200) (ho : ∀ j, o = some j → j < n) : (ggW n K o).natAbs < 2 ^ 400 := by
  cases o with
  | none => exact (by decide : (1 : Nat) < 2 ^ 400)
  | some j => exact ray_b400 hK (ho j rfl) hn
theorem ggA_bits {a b : Int} {ts : List Int} {K : Nat} {o : Option Nat} (hK : K < ts.length) (hn : ts.length ≤ 200) (ho : ∀ j, o = some j → j < ts.length) : (ggA a b ts K o).natAbs < 2 ^ 400 := by
  cases o with
  | none => exact (by decide : (0 : Nat) < 2 ^ 400)
  | some j => exact gnR_bits hK (ho j rfl) hn
local macro_rules | `(tactic| walk_at "dg") => do let xs ← dgN40.mapM fun n => `(Lean.Parser.Tactic.simpLemma| $(Lean.mkIdent n):term); `(tactic| simp only [$xs,*, List.getElem?_cons_zero, List.getElem?_cons_succ])
def F_greatest (CR CG : Addr) : Spec
  | [r, .int a, .int b, .int k], R, Rx => asRow CR (fun h ts => RowOk h ts ∧ ts.length ≤ 200 ∧ 0 ≤ a ∧ a < h ∧ 0 ≤ b ∧ b < h ∧ 1 ≤ k ∧ k ≤ 200 ∧ ∀ (K : Nat) (o : Option Nat), K = min k.toNat (ts.length - 1) → o = ggN a b ts K ts.length → R (gaD CG (.int a) (.int b) (.int k) (lowD (ggA a b ts K o) (ggW ts.length K o)) (.lst ((ggB ts.length K o).map fun w => lowD w (ggW ts.length K o))))) r
  | _, _, _ => False
theorem F_greatest_is {CR CG : Addr} {r : D} {a : Int} {b : Int} {k : Int} {R : D → Prop} {Rx : Er → Prop} : F_greatest CR CG [r, .int a, .int b, .int k] R Rx = (asRow CR (fun h ts => RowOk h ts ∧ ts.length ≤ 200 ∧ 0 ≤ a ∧ a < h ∧ 0 ≤ b ∧ b < h ∧ 1 ≤ k ∧ k ≤ 200 ∧ ∀ (K : Nat) (o : Option Nat), K = min k.toNat (ts.length - 1) → o = ggN a b ts K ts.length → R (gaD CG (.int a) (.int b) (.int k) (lowD (ggA a b ts K o) (ggW ts.length K o)) (.lst ((ggB ts.length K o).map fun w => lowD w (ggW ts.length K o))))) r) := rfl
theorem F_greatest_of {CR CG : Addr} {ds : List D} {R : D → Prop} {Rx : Er → Prop} (z : F_greatest CR CG ds R Rx) : ∃ (r : D) (a : Int) (b : Int) (k : Int), ds = [r, .int a, .int b, .int k] ∧ (asRow CR (fun h ts => RowOk h ts ∧ ts.length ≤ 200 ∧ 0 ≤ a ∧ a < h ∧ 0 ≤ b ∧ b < h ∧ 1 ≤ k ∧ k ≤ 200 ∧ ∀ (K : Nat) (o : Option Nat), K = min k.toNat (ts.length - 1) → o = ggN a b ts K ts.length → R (gaD CG (.int a) (.int b) (.int k) (lowD (ggA a b ts K o) (ggW ts.length K o)) (.lst ((ggB ts.length K o).map fun w => lowD w (ggW ts.length K o))))) r) := by
  unfold F_greatest at z
  split at z
  · exact ⟨_, _, _, _, rfl, z⟩
  · exact z.elim
def b_greatest_gain (Dx : Df K mg "greatest_gain" s_greatest_gain) : Binds K Dx.fd ["row", "one", "other", "k"] [] := Dx.F.bindsN fun _ _ _ _ _ _ us hl => match us, hl with | [_, _, _, _], _ => rfl
def n_greatest_gain : List Str := ["row", "one", "other", "k", "above", "below", "best", "worths", "number", "worth"]
theorem sc_greatest_gain : FnScope n_greatest_gain ["row", "one", "other", "k"] (defScope s_greatest_gain) := ⟨rfl, rfl, rfl, by decide +kernel, rfl, by decide +kernel, by decide +kernel⟩
theorem ok_greatest_gain (T : Tx mg) (K_Row : Kx_Row K mg) (K_Gain : Kx_Gain K mg P.main.file) (X_InvalidHand : Xe K mg P.main.file "InvalidHand" s_InvalidHand___init__) (X_TooLong : Xe K mg P.main.file "TooLong" s_TooLong___init__) (X_InvalidNumber : Xe K mg P.main.file "InvalidNumber" s_InvalidNumber___init__) (D_greatest_gain : Df K mg "greatest_gain" s_greatest_gain) (D_check_question : Df K mg "check_question" s_check_question) (D_check_hand : Df K mg "check_hand" s_check_hand) (D_is_number : Df K mg "is_number" s_is_number) (D_check_class : Df K mg "check_class" s_check_class) (D_rays : Df K mg "rays" s_rays) (D_choose : Df K mg "choose" s_choose) (D_gains_of : Df K mg "gains_of" s_gains_of) (D_summed : Df K mg "summed" s_summed) (D_copied : Df K mg "copied" s_copied) (D_as_list : Df K mg "as_list" s_as_list) (D_lowest : Df K mg "lowest" s_lowest) (D_divisor : Df K mg "divisor" s_divisor) (hsup : mg "super" = none) (htop : (P.main.scope.names.lookup ("super" : Str)).isSome = false) : FnOk P w K mg base (L2.CX P w) 8 D_greatest_gain.f D_greatest_gain.fd ["row", "one", "other", "k"] (spD (F_greatest K_Row.C K_Gain.C)) := by
  have G_check_question := ok_check_question (P := P) (w := w) (base := base) T K_Row X_InvalidHand X_TooLong D_check_question D_check_hand D_is_number hsup htop
  have G_check_class := ok_check_class (P := P) (w := w) (base := base) T X_InvalidNumber D_check_class D_is_number hsup htop
  have G_Row___len__ := ok_Row___len__ (P := P) (w := w) (base := base) T K_Row
  have G_rays := ok_rays (P := P) (w := w) (base := base) T X_InvalidNumber D_rays D_is_number D_check_class D_choose hsup htop
  have G_gains_of := ok_gains_of (P := P) (w := w) (base := base) T K_Row D_gains_of D_summed
  have G_Gain___init__ := ok_Gain___init__ (P := P) (w := w) (base := base) T K_Gain D_copied D_as_list hsup htop
  have G_lowest := ok_lowest (P := P) (w := w) (base := base) T D_lowest D_divisor
  refine fn_d D_greatest_gain.F sc_greatest_gain (fun ds R Rx hs0 => ?_) (fun cdv A outer s H E hr => have hu := hr.units
    (ds_cons (s_expr (d_call G_check_question (hr.mono (by decide)) D_check_question.g D_check_question.F.kp (b_check_question D_check_question) .nil dfR_nil pass_d (da_cons (d_var 0) (da_cons (d_var 1) (da_cons (d_var 2) da_nil)))))
    (ds_cons (s_expr (d_call G_check_class (hr.mono (by decide)) D_check_class.g D_check_class.F.kp (b_check_class D_check_class) .nil dfR_nil pass_d (da_cons (d_var 3) (da_cons d_int da_nil))))
    (ds_cons (s_asg (d_tup (da_cons d_int (da_cons d_int (da_cons (d_mul (d_ofF (f_lst (da_cons d_int da_nil))) (d_callB (b_lenOw K_Row.o___len__ G_Row___len__ (b_Row___len__ K_Row.D___len__) (hr.mono (by decide))) T.m_len boot_len (da_cons (d_var 0) da_nil))) da_nil)))) (g_tup (n := 3) rfl (gs_cons (g_name (i := 4) sc_greatest_gain.nd) (gs_cons (g_name (i := 5) sc_greatest_gain.nd) (gs_cons (g_name (i := 6) sc_greatest_gain.nd) gs_nil)))))
    (ds_cons (s_for (passes_of rfl) rfl (i_zip (da_cons (d_call G_rays (hr.mono (by decide)) D_rays.g D_rays.F.kp (b_rays D_rays) .nil dfR_nil pass_d (da_cons (d_callB (b_lenOw K_Row.o___len__ G_Row___len__ (b_Row___len__ K_Row.D___len__) (hr.mono (by decide))) T.m_len boot_len (da_cons (d_var 0) da_nil)) (da_cons (d_var 3) da_nil))) (da_cons (d_call G_gains_of (hr.mono (by decide)) D_gains_of.g D_gains_of.F.kp (b_gains_of D_gains_of) .nil dfR_nil pass_d (da_cons (d_var 0) (da_cons (d_var 1) (da_cons (d_var 2) (da_cons (d_var 3) da_nil))))) da_nil)) T.m_zip) (g_tup (n := 2) rfl (gs_cons (g_name (i := 7) sc_greatest_gain.nd) (gs_cons (g_name (i := 8) sc_greatest_gain.nd) gs_nil)))
      (ds_one (s_if (dt_cmp c_gt (d_mul (d_var 8) (d_var 5)) (d_mul (d_var 4) (d_ix (d_var 7) d_int)) (nomark _)) (ds_one (s_asg (d_tup (da_cons (d_var 8) (da_cons (d_ix (d_var 7) d_int) (da_cons (d_var 7) da_nil)))) (g_tup (n := 3) rfl (gs_cons (g_name (i := 4) sc_greatest_gain.nd) (gs_cons (g_name (i := 5) sc_greatest_gain.nd) (gs_cons (g_name (i := 6) sc_greatest_gain.nd) gs_nil)))))) ds_nil)))
    (ds_one (s_ret (d_ofP (d_makeN K_Gain.mkr G_Gain___init__ (hr.mono (by decide)) K_Gain.g (b_Gain___init__ K_Gain.D___init__) pass_d (da_cons (d_var 1) (da_cons (d_var 2) (da_cons (d_var 3) (da_cons (d_call G_lowest (hr.mono (by decide)) D_lowest.g D_lowest.F.kp (b_lowest D_lowest) .nil dfR_nil pass_d (da_cons (d_var 4) (da_cons (d_var 5) da_nil))) (da_cons (d_ofF (f_lc rfl sc_greatest_gain.nd (i_list (d_var 6)) (blkOk_by (own := [("worth", 9)]) (N := n_greatest_gain) (sc := defScope s_greatest_gain) (by decide +kernel)) (by decide) (fun _ _ _ _ _ => (g_name (i := 9) sc_greatest_gain.nd)) (fun _ _ _ _ _ => dts_nil) (fun _ _ _ _ _ => (d_call G_lowest (hr.mono (by decide)) D_lowest.g D_lowest.F.kp (b_lowest D_lowest) .nil dfR_nil passL (da_cons (d_var 9) (da_cons (d_var 5) da_nil)))))) da_nil))))))))))))) ) fun ds R Rx hs0 => ?_
  · obtain ⟨_, _, _, _, rfl, _⟩ := F_greatest_of hs0
    rfl
  · obtain ⟨r, a, b, k, rfl, hs⟩ := F_greatest_of hs0
    clear hs0
    simp only [n_greatest_gain]
    obtain ⟨h, ts, rfl, ok, l2, a0, a1, b0, b1, k0, k1, hR⟩ := asRow_of hs
    clear hs
    have l0 := ok.2.2.1
    have quest : ∀ {R : Prop} {Rx : Er → Prop}, R → questX X_TooLong.C X_InvalidHand.C h ts.length (.int a) (.int b) R Rx := fun hR => ⟨fun z => absurd z (by omega), fun _ => ⟨fun z => absurd z (by simp [isNum]; omega), fun _ => ⟨fun z => absurd z (by simp [isNum]; omega), fun _ => hR⟩⟩⟩
    refine seq_step fun N1 hN1 => ?_
    walk_at "dg"
    refine ⟨ok, quest ?_⟩
    refine hN1 _ ?_
    clear hN1 N1
    refine seq_step fun N1 hN1 => ?_
    walk_at "dg"
    refine ⟨fun z => absurd z (by simp [isNum]; omega), fun _ => ?_⟩
    refine hN1 _ ?_
    clear hN1 N1
    refine seq_step fun N1 hN1 => ?_
    walk_at "dg"
    have o4 := ok.2.2.2.1
    have hR := hR _ _ rfl rfl
    have hK : min k.toNat (ts.length - 1) < ts.length := by omega
    have hK1 : 1 ≤ min k.toNat (ts.length - 1) ∨ ts.length = 1 := by omega
    generalize hKd : min k.toNat (ts.length - 1) = K at hR hK hK1
    have e0 : (List.replicate ts.length [D.int 0]).flatten = (ggB ts.length K none).map D.int := by
      rw [List.flatten_replicate_singleton]
      show _ = (List.replicate ts.length (0 : Int)).map D.int
      rw [List.map_replicate]
    refine ⟨o4, by omega, by omega, by omega, by omega, by omega, ?_⟩
    rw [Int.toNat_natCast, e0]
    refine hN1 _ ?_
    clear hN1 N1
    refine seq_step fun N1 hN1 => for_step fun B1 hB1 => ?_
    walk_at "dg"
    rw [Int.toNat_natCast, hKd]
    have gln : (gainL K (sgn a b ts)).length = ts.length := by
      rw [gainL_ray (by rw [sgn_length]; omega), sgn_length, List.length_map, List.length_range]
    have gat : ∀ s, s < ts.length → (gainL K (sgn a b ts)).getD s 0 = gnR a b ts K s := fun s hs => by
      rw [gainL_ray (by rw [sgn_length]; omega), sgn_length, getD_range hs]
      rfl
    have olt : ∀ s, s ≤ ts.length → ∀ j, ggN a b ts K s = some j → j < ts.length := fun s hs j e => by
      have := ggN_lt e
      omega
    generalize hG : gainL K (sgn a b ts) = gs at gln gat ⊢
    have ep : (pairs ((List.range ts.length).map (rowD ts.length K)) (gs.map D.int)).length = ts.length := by
      rw [pairs_length, List.length_map, List.length_map, List.length_range, gln, Nat.min_self]
    refine ⟨o4, by omega, by omega, by omega, by omega, by omega, by omega, ok, by omega, by omega, by omega, fun s env => s ≤ ts.length ∧ ∃ e7 e8 e9 : Option DV, env = [some (.val (row K_Row.C h ts)), some (.val (.int a)), some (.val (.int b)), some (.val (.int k)), some (.val (.int (ggA a b ts K (ggN a b ts K s)))), some (.val (.int (ggW ts.length K (ggN a b ts K s)))), some (.val (.lst ((ggB ts.length K (ggN a b ts K s)).map D.int))), e7, e8, e9], ⟨by omega, _, _, _, rfl⟩, ?_, ?_⟩
    · rintro s d env ed ⟨hs, e7, e8, e9, rfl⟩
      obtain ⟨x, y, ex, ey, rfl⟩ := pairs_get _ _ _ _ ed
      obtain ⟨hm2, _⟩ := List.getElem?_eq_some_iff.mp ey
      rw [List.length_map] at hm2
      rw [List.getElem?_map, List.getElem?_range (by omega), Option.map_some] at ex
      cases ex
      rw [getD_map hm2, gat s (by omega)] at ey
      cases ey
      have w1 := ggW_bits hK l2 (olt s hs)
      have a1 := ggA_bits (a := a) (b := b) hK l2 (olt s hs)
      have r1 := ray_b400 (i := 0) hK (show s < ts.length by omega) l2
      have g1 := gnR_bits (a := a) (b := b) hK (show s < ts.length by omega) l2
      walk_at "dg"
      refine hB1 _ _ ?_
      clear hB1 hN1
      unfold rowD
      walk_at "dg"
      refine ⟨.inr (wide_mul (a := 400) (b := 400) g1 w1 (by decide) (by decide) (by decide)), _, at_ints (k := 0) rfl (by rw [List.length_map, List.length_range]; omega), ?_⟩
      rw [getD_range (by omega)]
      walk_at "dg"
      refine ⟨.inr (wide_mul (a := 400) (b := 400) a1 r1 (by decide) (by decide) (by decide)), fun z => ?_, fun z => ?_⟩
      · refine ⟨_, at_ints (k := 0) rfl (by rw [List.length_map, List.length_range]; omega), by omega, ?_⟩
        rw [getD_range (by omega), show ggN a b ts K (s + 1) = some s by rw [ggN, if_pos z]]
        first | rfl | exact ⟨rfl, rfl, rfl⟩ | exact ⟨rfl, rfl⟩
      · refine ⟨by omega, ?_⟩
        rw [show ggN a b ts K (s + 1) = ggN a b ts K s by rw [ggN, if_neg z]]
        first | rfl | exact ⟨rfl, rfl, rfl⟩ | exact ⟨rfl, rfl⟩
    rintro env ⟨_, e7, e8, e9, rfl⟩
    rw [ep]
    refine hN1 _ ?_
    clear hN1 hB1
    have w1 := ggW_bits hK l2 (olt ts.length (Nat.le_refl _))
    have w2 := ggW_pos hK hK1 (olt ts.length (Nat.le_refl _))
    have w3 : (ggW ts.length K (ggN a b ts K ts.length)).natAbs < 2 ^ 8999 := Nat.lt_trans w1 (Nat.pow_lt_pow_right (by decide) (by decide))
    generalize ggN a b ts K ts.length = o at *
    have lb : (ggB ts.length K o).length = ts.length := by
      cases o with
      | none => exact List.length_replicate
      | some j => show ((List.range ts.length).map (ray ts.length K j)).length = _; rw [List.length_map, List.length_range]
    walk_at "dg"
    refine ⟨w2, w3, LcP.of (fun w => lowD w (ggW ts.length K o)) (by rw [lb, sizeLine_eq]; omega) (fun s v N e hN => ?_) ?_⟩
    · walk_at "dg"
      exact ⟨w2, w3, hN⟩
    refine ⟨(by unfold lowD; walk_at "dg"), ⟨by rw [List.length_map, lb]; omega, fun x hx => ?_⟩, hR⟩
    obtain ⟨v, _, rfl⟩ := List.mem_map.mp hx
    unfold lowD
    walk_at "dg"
def dgN41 : Array Lean.Name := dgN40 ++ #[`F_greatest_is]
local macro_rules | `(tactic| walk_at "dg") => do let xs ← dgN41.mapM fun n => `(Lean.Parser.Tactic.simpLemma| $(Lean.mkIdent n):term); `(tactic| simp only [$xs,*, List.getElem?_cons_zero, List.getElem?_cons_succ])
theorem bin_div0 (n i : Nat) : ((bin n i : Nat) : Int) * ((n : Int) - (i : Int)) = (((i + 1) * bin n (i + 1) : Nat) : Int) := by
  by_cases h : i ≤ n
  · rw [bin_step, show (n : Int) - (i : Int) = ((n - i : Nat) : Int) by omega, ← Int.natCast_mul]
  · rw [bin_gt n i (by omega), bin_gt n (i + 1) (by omega)]
    simp
def F__law_choose : Spec
  | [.int n, .int k], R, _ => 0 ≤ n ∧ n < 2 ^ 140 ∧ 0 ≤ k ∧ k ≤ 2000 ∧ R (.int (chs n k))
  | _, _, _ => False
theorem F__law_choose_is {n k : Int} {R : D → Prop} {Rx : Er → Prop} : F__law_choose [.int n, .int k] R Rx = (0 ≤ n ∧ n < 2 ^ 140 ∧ 0 ≤ k ∧ k ≤ 2000 ∧ R (.int (chs n k))) := rfl
def b__law_choose (Dx : Df K mg "_law_choose" s__law_choose) : Binds K Dx.fd ["_law_upper", "_law_lower"] [] := Dx.F.bindsN fun _ _ _ _ _ _ us hl => match us, hl with | [_, _], _ => rfl
def n__law_choose : List Str := ["_law_upper", "_law_lower", "_law_found", "_law_step"]
theorem sc__law_choose : FnScope n__law_choose ["_law_upper", "_law_lower"] (defScope s__law_choose) := ⟨rfl, rfl, rfl, by decide +kernel, rfl, by decide +kernel, by decide +kernel⟩
theorem ok__law_choose (T : Tx mg) (D__law_choose : Df K mg "_law_choose" s__law_choose) : FnOk P w K mg base (L2.CX P w) 1 D__law_choose.f D__law_choose.fd ["_law_upper", "_law_lower"] (spD F__law_choose) := by
  refine fn_d D__law_choose.F sc__law_choose (fun ds R Rx h => ?_) (fun cdv A outer s H E hr => (ds_cons (s_set (i := 2) sc__law_choose.nd d_int)
    (ds_cons (s_for (passes_of rfl) rfl (i_rg1 (da_cons (d_var 1) da_nil) T.m_range) (g_name (i := 3) sc__law_choose.nd)
      (ds_one (s_set (i := 2) sc__law_choose.nd (d_fdiv (d_mul (d_var 2) (d_sub (d_var 0) (d_var 3))) (d_add (d_var 3) d_int)))))
    (ds_one (s_ret (d_if (dt_cmp c_le (d_var 1) (d_var 0) (nomark _)) (d_var 2) d_int))))) ) fun ds R Rx h => ?_
  · match ds, h with
    | [.int n, .int k], h => rfl
  · match ds, h with
    | [.int n, .int k], hh =>
      obtain ⟨n0, n1, k0, k1, hR⟩ := hh
      obtain ⟨m, rfl⟩ : ∃ m : Nat, n = (m : Int) := ⟨n.toNat, by omega⟩
      obtain ⟨j, rfl⟩ : ∃ j : Nat, k = (j : Int) := ⟨k.toNat, by omega⟩
      have m1 : m < 2 ^ 140 := by omega
      rw [chs_nat] at hR
      simp only [n__law_choose]
      walk_at "dg"
      refine ⟨by omega, by omega, fun i env => i ≤ j ∧ ∃ o, env = [some (.val (.int m)), some (.val (.int j)), some (.val (.int (bin m i : Nat))), o], ⟨by omega, none, by rw [bin_zero]; rfl⟩, ?_, ?_⟩
      · rintro i d env e ⟨hi, o, rfl⟩
        obtain ⟨hi2, rfl⟩ := ups_at e
        rw [Int.toNat_natCast] at hi2
        walk_at "dg"
        refine ⟨.inr (wide_mul (a := 282001) (b := 141) ?_ ?_ (by decide) (by decide) (by decide)), .inl ⟨by omega, by omega⟩, by omega, ?_⟩
        · rw [Int.natAbs_natCast]
          exact bin_bits m1 (by omega)
        · omega
        · rw [bin_div0, fdiv_pos (by omega)]
          have : (((i + 1) * bin m (i + 1) : Nat) : Int) / ((i : Int) + 1) = ((bin m (i + 1) : Nat) : Int) := by
            rw [Int.natCast_mul, show ((i + 1 : Nat) : Int) = (i : Int) + 1 by omega]
            exact Int.mul_ediv_cancel_left _ (by omega)
          rw [this]
      · rintro env ⟨_, o, rfl⟩
        rw [Int.toNat_natCast]
        walk_at "dg"
        refine ⟨fun _ => hR, fun z => ?_⟩
        rw [bin_gt m j (by omega)] at hR
        exact hR
def dgN42 : Array Lean.Name := dgN41 ++ #[`F__law_choose_is]
local macro_rules | `(tactic| walk_at "dg") => do let xs ← dgN42.mapM fun n => `(Lean.Parser.Tactic.simpLemma| $(Lean.mkIdent n):term); `(tactic| simp only [$xs,*, List.getElem?_cons_zero, List.getElem?_cons_succ])
def dbl (h : Int) (ts : List Int) (n : Nat) : List Int := (List.range n).flatMap fun (b : Nat) => ts.map fun t => (t + (b : Int)).fmod h
theorem dbl_succ {h : Int} {ts : List Int} {n : Nat} : dbl h ts (n + 1) = dbl h ts n ++ ts.map fun t => (t + (n : Int)).fmod h := by
  unfold dbl
  rw [List.range_succ, List.flatMap_append]
  simp
theorem dbl_length {h : Int} {ts : List Int} : ∀ n, (dbl h ts n).length = n * ts.length
  | 0 => by simp [dbl]
  | n + 1 => by rw [dbl_succ, List.length_append, dbl_length n, List.length_map, Nat.succ_mul]
theorem dbl_in {h : Int} {ts : List Int} (hh : 2 ≤ h) {n : Nat} : ∀ t ∈ dbl h ts n, 0 ≤ t ∧ t < h := fun t ht => by
  unfold dbl at ht
  obtain ⟨b, _, hb⟩ := List.mem_flatMap.mp ht
  obtain ⟨u, _, rfl⟩ := List.mem_map.mp hb
  exact fmod_in hh
def F__law_doubled : Spec
  | [.lst xs, .int h], R, _ => ∃ ts, asInts xs = some ts ∧ 2 ≤ h ∧ h ≤ 4 ∧ ts.length ≤ 2000 ∧ R (.lst ((dbl h ts h.toNat).map .int))
  | _, _, _ => False
theorem F__law_doubled_is {xs : List D} {h : Int} {R : D → Prop} {Rx : Er → Prop} : F__law_doubled [.lst xs, .int h] R Rx = ∃ ts, asInts xs = some ts ∧ 2 ≤ h ∧ h ≤ 4 ∧ ts.length ≤ 2000 ∧ R (.lst ((dbl h ts h.toNat).map .int)) := rfl
def b__law_doubled (Dx : Df K mg "_law_doubled" s__law_doubled) : Binds K Dx.fd ["_law_row", "_law_hands_here"] [] := Dx.F.bindsN fun _ _ _ _ _ _ us hl => match us, hl with | [_, _], _ => rfl
def n__law_doubled : List Str := ["_law_row", "_law_hands_here", "_law_found", "_law_by", "_law_hand"]
theorem sc__law_doubled : FnScope n__law_doubled ["_law_row", "_law_hands_here"] (defScope s__law_doubled) := ⟨rfl, rfl, rfl, by decide +kernel, rfl, by decide +kernel, by decide +kernel⟩
theorem ok__law_doubled (T : Tx mg) (D__law_doubled : Df K mg "_law_doubled" s__law_doubled) : FnOk P w K mg base (L2.CX P w) 1 D__law_doubled.f D__law_doubled.fd ["_law_row", "_law_hands_here"] (spD F__law_doubled) := by
  refine fn_d D__law_doubled.F sc__law_doubled (fun ds R Rx h => ?_) (fun cdv A outer s H E hr => (ds_cons (s_set (i := 2) sc__law_doubled.nd (d_ofF (f_lst da_nil)))
    (ds_cons (s_for (passes_of rfl) rfl (i_rg1 (da_cons (d_var 1) da_nil) T.m_range) (g_name (i := 3) sc__law_doubled.nd)
      (ds_one (s_set (i := 2) sc__law_doubled.nd (d_add (d_var 2) (d_ofF (f_lc rfl sc__law_doubled.nd (i_list (d_var 0)) (blkOk_by (own := [("_law_hand", 4)]) (N := n__law_doubled) (sc := defScope s__law_doubled) (by decide +kernel)) (by decide) (fun _ _ _ _ _ => (g_name (i := 4) sc__law_doubled.nd)) (fun _ _ _ _ _ => dts_nil) (fun _ _ _ _ _ => (d_mod (d_callT b_int T.m_int PyProof.Rows.boot_int (da_cons (d_add (d_var 4) (d_var 3)) da_nil)) (d_var 1)))))))))
    (ds_one (s_ret (d_var 2))))) ) fun ds R Rx h => ?_
  · match ds, h with
    | [.lst xs, .int n], h => rfl
  · match ds, h with
    | [.lst xs, .int h], hh =>
      obtain ⟨ts, e, h2, h4, hl, hR⟩ := hh
      obtain rfl := asInts_eq e
      simp only [n__law_doubled]
      walk_at "dg"
      refine ⟨by omega, by omega, fun i env => i ≤ h.toNat ∧ ∃ e3 e4 : Option DV, env = [some (.val (.lst (ts.map D.int))), some (.val (.int h)), some (.val (.lst ((dbl h ts i).map D.int))), e3, e4], ⟨by omega, none, none, rfl⟩, ?_, ?_⟩
      · rintro i d env e ⟨hi, e3, e4, rfl⟩
        obtain ⟨hi2, rfl⟩ := ups_at e
        walk_at "dg"
        refine LcP.of (fun t => .int ((t + (i : Int)).fmod h)) (by rw [sizeLine_eq]; omega) (fun j t N e hN => ?_) ?_
        · walk_at "dg"
          exact ⟨by omega, hN⟩
        · have hk : i * ts.length ≤ 3 * ts.length := Nat.mul_le_mul_right _ (by omega)
          walk_at "dg"
          refine ⟨by rw [dbl_length]; omega, by omega, ?_⟩
          rw [dbl_succ, List.map_append, List.map_map]
          rfl
      · rintro env ⟨_, e3, e4, rfl⟩
        walk_at "dg"
        exact hR
/-- turns drawn -/
def Drawn (h : Int) (m : Nat) (ts : List Int) : Prop := 0 < ts.length ∧ ts.length ≤ m ∧ ∀ t ∈ ts, 0 ≤ t ∧ t < h
def F__law_even_turns : Spec
  | [.bag, .int h], R, _ => 2 ≤ h ∧ h ≤ 4 ∧ ∀ ts : List Int, Drawn h 64 ts → R (.lst (ts.map .int))
  | _, _, _ => False
theorem F__law_even_turns_is {h : Int} {R : D → Prop} {Rx : Er → Prop} : F__law_even_turns [.bag, .int h] R Rx = (2 ≤ h ∧ h ≤ 4 ∧ ∀ ts : List Int, Drawn h 64 ts → R (.lst (ts.map .int))) := rfl
def b__law_even_turns (Dx : Df K mg "_law_even_turns" s__law_even_turns) : Binds K Dx.fd ["_law_bag_here", "_law_hands_here"] [] := Dx.F.bindsN fun _ _ _ _ _ _ us hl => match us, hl with | [_, _], _ => rfl
def n__law_even_turns : List Str := ["_law_bag_here", "_law_hands_here", "_law_found", "_law_step", "_law_k_z"]
theorem sc__law_even_turns : FnScope n__law_even_turns ["_law_bag_here", "_law_hands_here"] (defScope s__law_even_turns) := ⟨rfl, rfl, rfl, by decide +kernel, rfl, by decide +kernel, by decide +kernel⟩
def dgN43 : Array Lean.Name := dgN42 ++ #[`F__law_doubled_is, `F__law_even_turns_is]
local macro_rules | `(tactic| walk_at "dg") => do let xs ← dgN43.mapM fun n => `(Lean.Parser.Tactic.simpLemma| $(Lean.mkIdent n):term); `(tactic| simp only [$xs,*, List.getElem?_cons_zero, List.getElem?_cons_succ])
theorem ok__law_even_turns (T : Tx mg) (D__law_even_turns : Df K mg "_law_even_turns" s__law_even_turns) (D__law_doubled : Df K mg "_law_doubled" s__law_doubled) (D__law_pull : Df K mg "_law_pull" s__law_pull) : FnOk P w K mg base (L2.CX P w) 2 D__law_even_turns.f D__law_even_turns.fd ["_law_bag_here", "_law_hands_here"] (spD F__law_even_turns) := by
  have G__law_pull := ok__law_pull (P := P) (w := w) (base := base) D__law_pull T.m_int T.m_len
  have G__law_doubled := ok__law_doubled (P := P) (w := w) (base := base) T D__law_doubled
  refine fn_d D__law_even_turns.F sc__law_even_turns (fun ds R Rx h => ?_) (fun cdv A outer s H E hr => (ds_cons (s_setLc (i := 2) rfl sc__law_even_turns.nd (i_rg1 (da_cons (d_add d_int (d_call G__law_pull (hr.mono (by decide)) D__law_pull.g D__law_pull.F.kp (b__law_pull D__law_pull) .nil dfR_nil pass_d (da_cons (d_var 0) (da_cons d_int da_nil)))) da_nil) T.m_range) (blkOk_by (own := [("_law_k_z", 4)]) (N := n__law_even_turns) (sc := defScope s__law_even_turns) (by decide +kernel)) (by decide) (fun _ _ _ _ _ => (g_name (i := 4) sc__law_even_turns.nd)) (fun _ _ _ _ _ => dts_nil) (fun _ _ _ _ _ => (d_call G__law_pull (hr.mono (by decide)) D__law_pull.g D__law_pull.F.kp (b__law_pull D__law_pull) .nil dfR_nil passL (da_cons (d_var 0) (da_cons (d_var 1) da_nil)))))
    (ds_cons (s_for (passes_of rfl) rfl (i_rg1 (da_cons (d_call G__law_pull (hr.mono (by decide)) D__law_pull.g D__law_pull.F.kp (b__law_pull D__law_pull) .nil dfR_nil pass_d (da_cons (d_var 0) (da_cons d_int da_nil))) da_nil) T.m_range) (g_name (i := 3) sc__law_even_turns.nd)
      (ds_one (s_if (dt_cmp c_lt (d_mul (d_callB b_len T.m_len boot_len (da_cons (d_var 2) da_nil)) (d_var 1)) d_int (nomark _)) (ds_one (s_set (i := 2) sc__law_even_turns.nd (d_call G__law_doubled (hr.mono (by decide)) D__law_doubled.g D__law_doubled.F.kp (b__law_doubled D__law_doubled) .nil dfR_nil pass_d (da_cons (d_var 2) (da_cons (d_var 1) da_nil))))) ds_nil)))
    (ds_one (s_ret (d_var 2))))) ) fun ds R Rx h => ?_
  · match ds, h with
    | [.bag, .int n], h => rfl
  · match ds, h with
    | [.bag, .int h], hh =>
      obtain ⟨h2, h4, hR⟩ := hh
      simp only [n__law_even_turns]
      walk_at "dg"
      have lg : ∀ n : Int, 0 ≤ n → n < 2 ^ 60 → n.natAbs.log2 < 9000 := fun n h0 h1 => log_lt (k := 60) (by omega) (by decide) (by decide)
      refine ⟨lg _ (by decide) (by decide), fun r r0 r1 => ⟨by omega, by omega, ?_⟩⟩
      refine LcP.draw (fun n => .int n) (fun n => 0 ≤ n ∧ n < h) (by rw [ups_length, sizeLine_eq]; omega) (fun i d N e hN => ?_) fun ts hl hts => ?_
      · walk_at "dg"
        exact ⟨by omega, lg _ (by omega) (by omega), fun t t0 t1 => hN t ⟨t0, t1⟩⟩
      rw [ups_length] at hl
      refine ⟨lg _ (by decide) (by decide), fun q q0 q1 => ⟨by omega, by omega, fun i env => ∃ (us : List Int) (e3 e4 : Option DV), Drawn h 64 us ∧ env = [some (.val .bag), some (.val (.int h)), some (.val (.lst (us.map D.int))), e3, e4], ⟨ts, none, none, ⟨by omega, by omega, hts⟩, rfl⟩, ?_, ?_⟩⟩
      · rintro i d env e ⟨us, e3, e4, dr, rfl⟩
        walk_at "dg"
        obtain ⟨d1, d2, d3⟩ := dr
        refine ⟨.inr (wide_mul (a := 20) (b := 20) (by omega) (by omega) (by decide) (by decide) (by decide)), fun z => ⟨h2, h4, by omega, ?_⟩, fun z => ⟨us, ⟨d1, d2, d3⟩, rfl⟩⟩
        have hz : (dbl h us h.toNat).length = h.toNat * us.length := dbl_length _
        have hz2 : ((h.toNat * us.length : Nat) : Int) = (us.length : Int) * h := by
          rw [Int.natCast_mul, Int.toNat_of_nonneg (by omega), Int.mul_comm]
        have hz3 : 0 < h.toNat * us.length := Nat.mul_pos (by omega) d1
        exact ⟨_, ⟨by omega, by omega, dbl_in h2⟩, rfl⟩
      · rintro env ⟨us, e3, e4, dr, rfl⟩
        walk_at "dg"
        exact hR us dr
def F__law_some_turns : Spec
  | [.bag, .int h], R, _ => 2 ≤ h ∧ h ≤ 4 ∧ ∀ ts : List Int, Drawn h 64 ts → R (.lst (ts.map .int))
  | _, _, _ => False
theorem F__law_some_turns_is {h : Int} {R : D → Prop} {Rx : Er → Prop} : F__law_some_turns [.bag, .int h] R Rx = (2 ≤ h ∧ h ≤ 4 ∧ ∀ ts : List Int, Drawn h 64 ts → R (.lst (ts.map .int))) := rfl
def b__law_some_turns (Dx : Df K mg "_law_some_turns" s__law_some_turns) : Binds K Dx.fd ["_law_bag_here", "_law_hands_here"] [] := Dx.F.bindsN fun _ _ _ _ _ _ us hl => match us, hl with | [_, _], _ => rfl
def n__law_some_turns : List Str := ["_law_bag_here", "_law_hands_here"]
theorem sc__law_some_turns : FnScope n__law_some_turns ["_law_bag_here", "_law_hands_here"] (defScope s__law_some_turns) := ⟨rfl, rfl, rfl, by decide +kernel, rfl, by decide +kernel, by decide +kernel⟩
def dgN44 : Array Lean.Name := dgN43 ++ #[`F__law_some_turns_is]
local macro_rules | `(tactic| walk_at "dg") => do let xs ← dgN44.mapM fun n => `(Lean.Parser.Tactic.simpLemma| $(Lean.mkIdent n):term); `(tactic| simp only [$xs,*, List.getElem?_cons_zero, List.getElem?_cons_succ])
theorem ok__law_some_turns (T : Tx mg) (D__law_some_turns : Df K mg "_law_some_turns" s__law_some_turns) (D__law_even_turns : Df K mg "_law_even_turns" s__law_even_turns) (D__law_doubled : Df K mg "_law_doubled" s__law_doubled) (D__law_turns : Df K mg "_law_turns" s__law_turns) (D__law_pull : Df K mg "_law_pull" s__law_pull) : FnOk P w K mg base (L2.CX P w) 3 D__law_some_turns.f D__law_some_turns.fd ["_law_bag_here", "_law_hands_here"] (spD F__law_some_turns) := by
  have G__law_pull := ok__law_pull (P := P) (w := w) (base := base) D__law_pull T.m_int T.m_len
  have G__law_turns := ok__law_turns (P := P) (w := w) (base := base) T D__law_turns D__law_pull
  have G__law_even_turns := ok__law_even_turns (P := P) (w := w) (base := base) T D__law_even_turns D__law_doubled D__law_pull
  refine fn_d D__law_some_turns.F sc__law_some_turns (fun ds R Rx h => ?_) (fun cdv A outer s H E hr => have hu := hr.units
    (ds_cons (s_if (dt_cmp (c_eq hu) (d_call G__law_pull (hr.mono (by decide)) D__law_pull.g D__law_pull.F.kp (b__law_pull D__law_pull) .nil dfR_nil pass_d (da_cons (d_var 0) (da_cons d_int da_nil))) d_int (nomark _)) (ds_one (s_ret (d_call G__law_turns (hr.mono (by decide)) D__law_turns.g D__law_turns.F.kp (b__law_turns D__law_turns) .nil dfR_nil pass_d (da_cons (d_var 0) (da_cons (d_var 1) (da_cons d_int da_nil)))))) ds_nil)
    (ds_one (s_ret (d_call G__law_even_turns (hr.mono (by decide)) D__law_even_turns.g D__law_even_turns.F.kp (b__law_even_turns D__law_even_turns) .nil dfR_nil pass_d (da_cons (d_var 0) (da_cons (d_var 1) da_nil)))))) ) fun ds R Rx h => ?_
  · match ds, h with
    | [.bag, .int n], h => rfl
  · match ds, h with
    | [.bag, .int h], hh =>
      obtain ⟨h2, h4, hR⟩ := hh
      simp only [n__law_some_turns]
      walk_at "dg"
      have lg : ∀ n : Int, 0 ≤ n → n < 2 ^ 60 → n.natAbs.log2 < 9000 := fun n h0 h1 => log_lt (k := 60) (by omega) (by decide) (by decide)
      exact ⟨lg _ (by decide) (by decide), fun r r0 r1 => ⟨fun _ => ⟨h2, h4, fun ts ht => hR ts ⟨ht.1, by omega, ht.2.2⟩⟩, fun _ => ⟨h2, h4, hR⟩⟩⟩
def F__law_rays : Spec
  | [.int n, .int k], R, _ => 1 ≤ n ∧ n ≤ 200 ∧ 0 ≤ k ∧ k ≤ 200 ∧ R (.lst ((List.range n.toNat).map (rowD n.toNat (min k.toNat (n.toNat - 1)))))
  | _, _, _ => False
theorem F__law_rays_is {n k : Int} {R : D → Prop} {Rx : Er → Prop} : F__law_rays [.int n, .int k] R Rx = (1 ≤ n ∧ n ≤ 200 ∧ 0 ≤ k ∧ k ≤ 200 ∧ R (.lst ((List.range n.toNat).map (rowD n.toNat (min k.toNat (n.toNat - 1)))))) := rfl
def b__law_rays (Dx : Df K mg "_law_rays" s__law_rays) : Binds K Dx.fd ["_law_many", "_law_deep"] [] := Dx.F.bindsN fun _ _ _ _ _ _ us hl => match us, hl with | [_, _], _ => rfl
def n__law_rays : List Str := ["_law_many", "_law_deep", "_law_found", "_law_end", "_law_low", "_law_at"]
theorem sc__law_rays : FnScope n__law_rays ["_law_many", "_law_deep"] (defScope s__law_rays) := ⟨rfl, rfl, rfl, by decide +kernel, rfl, by decide +kernel, by decide +kernel⟩
theorem ok__law_rays (T : Tx mg) (D__law_rays : Df K mg "_law_rays" s__law_rays) (D__law_choose : Df K mg "_law_choose" s__law_choose) : FnOk P w K mg base (L2.CX P w) 2 D__law_rays.f D__law_rays.fd ["_law_many", "_law_deep"] (spD F__law_rays) := by
  have G__law_choose := ok__law_choose (P := P) (w := w) (base := base) T D__law_choose
  refine fn_d D__law_rays.F sc__law_rays (fun ds R Rx h => ?_) (fun cdv A outer s H E hr => have hu := hr.units
    (ds_cons (s_set (i := 1) sc__law_rays.nd (d_callB (b_min2 rfl) T.m_min PyProof.Rows.boot_min (da_cons (d_var 1) (da_cons (d_sub (d_var 0) d_int) da_nil))))
    (ds_cons (s_setO (i := 2) sc__law_rays.nd (f_lst da_nil))
    (ds_cons (s_for (passes_of rfl) rfl (i_rg1 (da_cons (d_sub (d_var 0) (d_var 1)) da_nil) T.m_range) (g_name (i := 3) sc__law_rays.nd)
      (ds_one (s_if (dt_cmp (c_eq hu) (d_var 1) d_int (nomark _)) (ds_one (s_app 2 (d_ofF (f_lc rfl sc__law_rays.nd (i_rg1 (da_cons (d_var 0) da_nil) T.m_range) (blkOk_by (own := [("_law_at", 5)]) (N := n__law_rays) (sc := defScope s__law_rays) (by decide +kernel)) (by decide) (fun _ _ _ _ _ => (g_name (i := 5) sc__law_rays.nd)) (fun _ _ _ _ _ => dts_nil) (fun _ _ _ _ _ => (d_callT b_int T.m_int PyProof.Rows.boot_int (da_cons (d_cmp (c_eq hu) (d_var 5) (d_var 3) (nomark _)) da_nil))))) (hp := fun h => pe_bm PySem.F.plainAttrs_list PySem.F.slot_list_append PySem.F.type_list_append mt_append (pv 2) (pa_cons h pa_nil)))) (ds_one (s_app 2 (d_ofF (f_lc rfl sc__law_rays.nd (i_rg1 (da_cons (d_var 0) da_nil) T.m_range) (blkOk_by (own := [("_law_at", 5)]) (N := n__law_rays) (sc := defScope s__law_rays) (by decide +kernel)) (by decide) (fun _ _ _ _ _ => (g_name (i := 5) sc__law_rays.nd)) (fun _ _ _ _ _ => dts_nil) (fun _ _ _ _ _ => (d_if (dt_cmp c_le (d_var 5) (d_var 3) (nomark _)) (d_call G__law_choose (hr.mono (by decide)) D__law_choose.g D__law_choose.F.kp (b__law_choose D__law_choose) .nil dfR_nil passL (da_cons (d_sub (d_add (d_sub (d_var 3) (d_var 5)) (d_var 1)) d_int) (da_cons (d_sub (d_var 1) d_int) da_nil))) d_int)))) (hp := fun h => pe_bm PySem.F.plainAttrs_list PySem.F.slot_list_append PySem.F.type_list_append mt_append (pv 2) (pa_cons h pa_nil)))))))
    (ds_cons (s_for (passes_of rfl) rfl (i_rg1 (da_cons (d_var 1) da_nil) T.m_range) (g_name (i := 4) sc__law_rays.nd)
      (ds_one (s_app 2 (d_ofF (f_lc rfl sc__law_rays.nd (i_rg1 (da_cons (d_var 0) da_nil) T.m_range) (blkOk_by (own := [("_law_at", 5)]) (N := n__law_rays) (sc := defScope s__law_rays) (by decide +kernel)) (by decide) (fun _ _ _ _ _ => (g_name (i := 5) sc__law_rays.nd)) (fun _ _ _ _ _ => dts_nil) (fun _ _ _ _ _ => (d_call G__law_choose (hr.mono (by decide)) D__law_choose.g D__law_choose.F.kp (b__law_choose D__law_choose) .nil dfR_nil passL (da_cons (d_sub (d_sub (d_var 0) d_int) (d_var 5)) (da_cons (d_var 4) da_nil)))))) (hp := fun h => pe_bm PySem.F.plainAttrs_list PySem.F.slot_list_append PySem.F.type_list_append mt_append (pv 2) (pa_cons h pa_nil)))))
    (ds_one (s_frz 2 (s_ret (d_var 2)))))))) ) fun ds R Rx h => ?_
  · match ds, h with
    | [.int n, .int k], h => rfl
  · match ds, h with
    | [.int n, .int k], hh =>
      obtain ⟨hn, hn2, hk, hk2, hR⟩ := hh
      simp only [n__law_rays]
      walk_at "dg"
      have eK : (if n - 1 < k then n - 1 else k) = ((min k.toNat (n.toNat - 1) : Nat) : Int) := by split <;> omega
      rw [eK]
      obtain ⟨m, rfl⟩ : ∃ m : Nat, n = (m : Int) := ⟨n.toNat, by omega⟩
      rw [Int.toNat_natCast] at hR ⊢
      generalize hKd : min k.toNat (m - 1) = K at hR
      have hK : K < m := by omega
      have hm : m ≤ 200 := by omega
      have eD : ((m : Int) - (K : Int)).toNat = m - K := by omega
      rw [eD]
      refine ⟨by omega, by omega, fun s env => s ≤ m - K ∧ ∃ e3 e4 e5 : Option DV, env = [some (.val (.int m)), some (.val (.int K)), some (.own ((List.range s).map (rowD m K))), e3, e4, e5], ⟨by omega, none, none, none, rfl⟩, ?_, ?_⟩
      · rintro s d env e ⟨hs, e3, e4, e5, rfl⟩
        obtain ⟨hs2, rfl⟩ := ups_at e
        walk_at "dg"
        have fin : ∀ xs, xs = (List.range m).map (fun i => D.int (ray m K s i)) → s < 16777216 ∧ s + 1 ≤ m - K ∧ List.map (rowD m K) (List.range s) ++ [D.lst xs] = List.map (rowD m K) (List.range (s + 1)) := fun xs hx => by
          refine ⟨by omega, by omega, ?_⟩
          rw [hx, List.range_succ, List.map_append]
          simp [rowD]
        refine ⟨fun z => ⟨by omega, by omega, ?_⟩, fun z => ⟨by omega, by omega, ?_⟩⟩
        · rw [Int.toNat_natCast]
          refine LcP.upto (fun i => .int (ray m K s i)) (by rw [sizeLine_eq]; omega) (fun i N hi hN => ?_) ?_
          · walk_at "dg"
            unfold ray at hN
            rw [if_pos hs2, if_pos (by omega)] at hN
            by_cases y : i = s
            · rw [if_pos y] at hN
              rw [if_pos (by omega)]
              exact hN
            · rw [if_neg y] at hN
              rw [if_neg (by omega)]
              exact hN
          · exact fin _ rfl
        · rw [Int.toNat_natCast]
          refine LcP.upto (fun i => .int (ray m K s i)) (by rw [sizeLine_eq]; omega) (fun i N hi hN => ?_) ?_
          · walk_at "dg"
            unfold ray at hN
            rw [if_pos hs2, if_neg (by omega)] at hN
            refine ⟨fun y => ⟨by omega, by omega, by omega, by omega, ?_⟩, fun y => ?_⟩
            · rw [if_pos (by omega)] at hN
              have ea : (s : Int) - (i : Int) + (K : Int) - 1 = ((s - i + K - 1 : Nat) : Int) := by omega
              have eb : (K : Int) - 1 = ((K - 1 : Nat) : Int) := by omega
              rw [ea, eb, chs_nat]
              exact hN
            · rw [if_neg (by omega)] at hN
              exact hN
          · exact fin _ rfl
      · rintro env ⟨_, e3, e4, e5, rfl⟩
        walk_at "dg"
        refine ⟨by omega, by omega, fun l env => l ≤ K ∧ ∃ e3 e4 e5 : Option DV, env = [some (.val (.int m)), some (.val (.int K)), some (.own ((List.range (m - K)).map (rowD m K) ++ (List.range l).map fun l => rowD m K (m - K + l))), e3, e4, e5], ⟨by omega, e3, e4, e5, by simp⟩, ?_, ?_⟩
        · rintro l d env e ⟨hl, e3, e4, e5, rfl⟩
          obtain ⟨hl2, rfl⟩ := ups_at e
          rw [Int.toNat_natCast] at hl2
          walk_at "dg"
          refine ⟨by omega, by omega, ?_⟩
          rw [Int.toNat_natCast]
          refine LcP.upto (fun i => .int (ray m K (m - K + l) i)) (by rw [sizeLine_eq]; omega) (fun i N2 hi hN2 => ?_) ?_
          · walk_at "dg"
            have ea : (m : Int) - 1 - (i : Int) = ((m - 1 - i : Nat) : Int) := by omega
            rw [ea, chs_nat]
            have er : ray m K (m - K + l) i = ((bin (m - 1 - i) l : Nat) : Int) := by
              unfold ray
              rw [if_neg (by omega)]
              congr 3
              omega
            rw [er] at hN2
            exact ⟨by omega, by omega, by omega, by omega, hN2⟩
          · refine ⟨by omega, by omega, ?_⟩
            rw [rowD_eq, List.range_succ, List.map_append, List.append_assoc]
            rfl
        · rintro env ⟨_, e3, e4, e5, rfl⟩
          rw [Int.toNat_natCast]
          walk_at "dg"
          have ec : List.map (rowD m K) (List.range (m - K)) ++ List.map (fun l => rowD m K (m - K + l)) (List.range K) = List.map (rowD m K) (List.range m) := by
            have e2 : m = m - K + K := by omega
            have e3 : List.range m = List.range (m - K) ++ (List.range K).map (m - K + ·) := by
              rw [← List.range_add]
              congr 1
            rw [e3, List.map_append, List.map_map]
            rfl
          rw [ec]
          exact hR
def dgN45 : Array Lean.Name := dgN44 ++ #[`F__law_rays_is]
local macro_rules | `(tactic| walk_at "dg") => do let xs ← dgN45.mapM fun n => `(Lean.Parser.Tactic.simpLemma| $(Lean.mkIdent n):term); `(tactic| simp only [$xs,*, List.getElem?_cons_zero, List.getElem?_cons_succ])
def F__law_question : Spec
  | [.bag, .int m], R, _ => 1 ≤ m ∧ m ≤ 100 ∧ ∀ (h : Int) (ts : List Int) (a b : Int), 2 ≤ h → h ≤ 4 → Drawn h m.toNat ts → 0 ≤ a → a < h → 0 ≤ b → b < h → R (.tup [.int h, .lst (ts.map .int), .int a, .int b])
  | _, _, _ => False
theorem F__law_question_is {m : Int} {R : D → Prop} {Rx : Er → Prop} : F__law_question [.bag, .int m] R Rx = (1 ≤ m ∧ m ≤ 100 ∧ ∀ (h : Int) (ts : List Int) (a b : Int), 2 ≤ h → h ≤ 4 → Drawn h m.toNat ts → 0 ≤ a → a < h → 0 ≤ b → b < h → R (.tup [.int h, .lst (ts.map .int), .int a, .int b])) := rfl
def b__law_question (Dx : Df K mg "_law_question" s__law_question) : Binds K Dx.fd ["_law_bag_here", "_law_most"] [] := Dx.F.bindsN fun _ _ _ _ _ _ us hl => match us, hl with | [_, _], _ => rfl
def n__law_question : List Str := ["_law_bag_here", "_law_most", "_law_hands_here", "_law_row"]
theorem sc__law_question : FnScope n__law_question ["_law_bag_here", "_law_most"] (defScope s__law_question) := ⟨rfl, rfl, rfl, by decide +kernel, rfl, by decide +kernel, by decide +kernel⟩
theorem ok__law_question (T : Tx mg) (D__law_question : Df K mg "_law_question" s__law_question) (D__law_hands : Df K mg "_law_hands" s__law_hands) (D__law_some_turns : Df K mg "_law_some_turns" s__law_some_turns) (D__law_even_turns : Df K mg "_law_even_turns" s__law_even_turns) (D__law_doubled : Df K mg "_law_doubled" s__law_doubled) (D__law_turns : Df K mg "_law_turns" s__law_turns) (D__law_pull : Df K mg "_law_pull" s__law_pull) : FnOk P w K mg base (L2.CX P w) 4 D__law_question.f D__law_question.fd ["_law_bag_here", "_law_most"] (spD F__law_question) := by
  have G__law_pull := ok__law_pull (P := P) (w := w) (base := base) D__law_pull T.m_int T.m_len
  have G__law_hands := ok__law_hands (P := P) (w := w) (base := base) T D__law_hands D__law_pull
  have G__law_some_turns := ok__law_some_turns (P := P) (w := w) (base := base) T D__law_some_turns D__law_even_turns D__law_doubled D__law_turns D__law_pull
  refine fn_d D__law_question.F sc__law_question (fun ds R Rx h => ?_) (fun cdv A outer s H E hr => (ds_cons (s_set (i := 2) sc__law_question.nd (d_call G__law_hands (hr.mono (by decide)) D__law_hands.g D__law_hands.F.kp (b__law_hands D__law_hands) .nil dfR_nil pass_d (da_cons (d_var 0) da_nil)))
    (ds_cons (s_set (i := 3) sc__law_question.nd (d_slice (d_call G__law_some_turns (hr.mono (by decide)) D__law_some_turns.g D__law_some_turns.F.kp (b__law_some_turns D__law_some_turns) .nil dfR_nil pass_d (da_cons (d_var 0) (da_cons (d_var 2) da_nil))) do_none (do_some (d_var 1))))
    (ds_one (s_ret (d_tup (da_cons (d_var 2) (da_cons (d_var 3) (da_cons (d_call G__law_pull (hr.mono (by decide)) D__law_pull.g D__law_pull.F.kp (b__law_pull D__law_pull) .nil dfR_nil pass_d (da_cons (d_var 0) (da_cons (d_var 2) da_nil))) (da_cons (d_call G__law_pull (hr.mono (by decide)) D__law_pull.g D__law_pull.F.kp (b__law_pull D__law_pull) .nil dfR_nil pass_d (da_cons (d_var 0) (da_cons (d_var 2) da_nil))) da_nil))))))))) ) fun ds R Rx h => ?_
  · match ds, h with
    | [.bag, .int m], h => rfl
  · match ds, h with
    | [.bag, .int m], hh =>
      obtain ⟨m1, m2, hR⟩ := hh
      simp only [n__law_question]
      walk_at "dg"
      have lg : ∀ n : Int, 0 ≤ n → n < 2 ^ 60 → n.natAbs.log2 < 9000 := fun n h0 h1 => log_lt (k := 60) (by omega) (by decide) (by decide)
      refine fun h h2 h4 => ⟨h2, h4, fun ts dr => ⟨by omega, lg _ (by omega) (by omega), fun a a0 a1 => ⟨by omega, lg _ (by omega) (by omega), fun b b0 b1 => ?_⟩⟩⟩
      rw [show m = ((m.toNat : Nat) : Int) by omega, cutD_to, ← List.map_take]
      obtain ⟨d1, d2, d3⟩ := dr
      exact hR h _ a b h2 h4 ⟨by rw [List.length_take]; omega, by rw [List.length_take]; omega, fun t ht => d3 t (List.mem_of_mem_take ht)⟩ a0 a1 b0 b1
def dgN46 : Array Lean.Name := dgN45 ++ #[`F__law_question_is]
local macro_rules | `(tactic| walk_at "dg") => do let xs ← dgN46.mapM fun n => `(Lean.Parser.Tactic.simpLemma| $(Lean.mkIdent n):term); `(tactic| simp only [$xs,*, List.getElem?_cons_zero, List.getElem?_cons_succ])
def F__law_signs : Spec
  | [.lst xs, .int a, .int b], R, _ => ∃ ts, asInts xs = some ts ∧ ts.length ≤ 2000 ∧ R (.lst ((sgn a b ts).map .int))
  | _, _, _ => False
theorem F__law_signs_is {xs : List D} {a b : Int} {R : D → Prop} {Rx : Er → Prop} : F__law_signs [.lst xs, .int a, .int b] R Rx = ∃ ts, asInts xs = some ts ∧ ts.length ≤ 2000 ∧ R (.lst ((sgn a b ts).map .int)) := rfl
def b__law_signs (Dx : Df K mg "_law_signs" s__law_signs) : Binds K Dx.fd ["_law_row", "_law_one_hand", "_law_two_hand"] [] := Dx.F.bindsN fun _ _ _ _ _ _ us hl => match us, hl with | [_, _, _], _ => rfl
def n__law_signs : List Str := ["_law_row", "_law_one_hand", "_law_two_hand", "_law_hand"]
theorem sc__law_signs : FnScope n__law_signs ["_law_row", "_law_one_hand", "_law_two_hand"] (defScope s__law_signs) := ⟨rfl, rfl, rfl, by decide +kernel, rfl, by decide +kernel, by decide +kernel⟩
theorem sgn_map {a b : Int} {ts : List Int} : (ts.map fun t => D.int ((if t = a then 1 else 0) - (if t = b then 1 else 0))) = (sgn a b ts).map D.int := by
  unfold sgn
  rw [List.map_map]
  rfl
theorem ok__law_signs (T : Tx mg) (D__law_signs : Df K mg "_law_signs" s__law_signs) : FnOk P w K mg base (L2.CX P w) 1 D__law_signs.f D__law_signs.fd ["_law_row", "_law_one_hand", "_law_two_hand"] (spD F__law_signs) := by
  refine fn_d D__law_signs.F sc__law_signs (fun ds R Rx h => ?_) (fun cdv A outer s H E hr => have hu := hr.units
    (ds_one (s_ret (d_ofF (f_lc rfl sc__law_signs.nd (i_list (d_var 0)) (blkOk_by (own := [("_law_hand", 3)]) (N := n__law_signs) (sc := defScope s__law_signs) (by decide +kernel)) (by decide) (fun _ _ _ _ _ => (g_name (i := 3) sc__law_signs.nd)) (fun _ _ _ _ _ => dts_nil) (fun _ _ _ _ _ => (d_sub (d_callT b_int T.m_int PyProof.Rows.boot_int (da_cons (d_cmp (c_eq hu) (d_var 3) (d_var 1) (nomark _)) da_nil)) (d_callT b_int T.m_int PyProof.Rows.boot_int (da_cons (d_cmp (c_eq hu) (d_var 3) (d_var 2) (nomark _)) da_nil)))))))) ) fun ds R Rx h => ?_
  · match ds, h with
    | [.lst xs, .int a, .int b], h => rfl
  · match ds, h with
    | [.lst xs, .int a, .int b], hh =>
      obtain ⟨ts, e, hl, hR⟩ := hh
      obtain rfl := asInts_eq e
      simp only [n__law_signs]
      walk_at "dg"
      refine LcP.of (fun t => .int ((if t = a then 1 else 0) - (if t = b then 1 else 0))) (by rw [sizeLine_eq]; omega) (fun i t N e hN => ?_) ?_
      · walk_at "dg"
        exact hN
      · rw [sgn_map]
        exact hR
/-- what a list of worths gives -/
def F__law_gain : Spec
  | [.lst xs, .int a, .int b, .lst ys], R, _ => ∃ ts ws, asInts xs = some ts ∧ asInts ys = some ws ∧ ts.length = ws.length ∧ ts.length ≤ 1000 ∧ (∀ w ∈ ws, w.natAbs < 2 ^ 282001) ∧ R (.int (dotR ts.length (sgn a b ts) fun i => ws.getD i 0))
  | _, _, _ => False
theorem F__law_gain_is {xs ys : List D} {a b : Int} {R : D → Prop} {Rx : Er → Prop} : F__law_gain [.lst xs, .int a, .int b, .lst ys] R Rx = ∃ ts ws, asInts xs = some ts ∧ asInts ys = some ws ∧ ts.length = ws.length ∧ ts.length ≤ 1000 ∧ (∀ w ∈ ws, w.natAbs < 2 ^ 282001) ∧ R (.int (dotR ts.length (sgn a b ts) fun i => ws.getD i 0)) := rfl
def b__law_gain (Dx : Df K mg "_law_gain" s__law_gain) : Binds K Dx.fd ["_law_row", "_law_one_hand", "_law_two_hand", "_law_worths_z"] [] := Dx.F.bindsN fun _ _ _ _ _ _ us hl => match us, hl with | [_, _, _, _], _ => rfl
def n__law_gain : List Str := ["_law_row", "_law_one_hand", "_law_two_hand", "_law_worths_z", "_law_sign", "_law_worth"]
theorem sc__law_gain : FnScope n__law_gain ["_law_row", "_law_one_hand", "_law_two_hand", "_law_worths_z"] (defScope s__law_gain) := ⟨rfl, rfl, rfl, by decide +kernel, rfl, by decide +kernel, by decide +kernel⟩
def dgN47 : Array Lean.Name := dgN46 ++ #[`F__law_signs_is, `F__law_gain_is]
local macro_rules | `(tactic| walk_at "dg") => do let xs ← dgN47.mapM fun n => `(Lean.Parser.Tactic.simpLemma| $(Lean.mkIdent n):term); `(tactic| simp only [$xs,*, List.getElem?_cons_zero, List.getElem?_cons_succ])
theorem ok__law_gain (T : Tx mg) (D__law_gain : Df K mg "_law_gain" s__law_gain) (D__law_signs : Df K mg "_law_signs" s__law_signs) : FnOk P w K mg base (L2.CX P w) 2 D__law_gain.f D__law_gain.fd ["_law_row", "_law_one_hand", "_law_two_hand", "_law_worths_z"] (spD F__law_gain) := by
  have G__law_signs := ok__law_signs (P := P) (w := w) (base := base) T D__law_signs
  refine fn_d D__law_gain.F sc__law_gain (fun ds R Rx h => ?_) (fun cdv A outer s H E hr => (ds_one (s_ret (d_callB (b_sum rfl) T.m_sum PyProof.Rows.boot_sum (da_cons (d_ofF (f_lc rfl sc__law_gain.nd (i_zip (da_cons (d_call G__law_signs (hr.mono (by decide)) D__law_signs.g D__law_signs.F.kp (b__law_signs D__law_signs) .nil dfR_nil pass_d (da_cons (d_var 0) (da_cons (d_var 1) (da_cons (d_var 2) da_nil)))) (da_cons (d_var 3) da_nil)) T.m_zip) (blkOk_by (own := [("_law_sign", 4), ("_law_worth", 5)]) (N := n__law_gain) (sc := defScope s__law_gain) (by decide +kernel)) (by decide) (fun _ _ _ _ _ => (g_tup (n := 2) rfl (gs_cons (g_name (i := 4) sc__law_gain.nd) (gs_cons (g_name (i := 5) sc__law_gain.nd) gs_nil)))) (fun _ _ _ _ _ => dts_nil) (fun _ _ _ _ _ => (d_mul (d_var 4) (d_var 5))))) da_nil)))) ) fun ds R Rx h => ?_
  · match ds, h with
    | [.lst xs, .int a, .int b, .lst ys], h => rfl
  · match ds, h with
    | [.lst xs, .int a, .int b, .lst ys], hh =>
      obtain ⟨ts, ws, e, e2, hl, hl2, hw, hR⟩ := hh
      obtain rfl := asInts_eq e
      obtain rfl := asInts_eq e2
      simp only [n__law_gain]
      walk_at "dg"
      refine ⟨by omega, ?_⟩
      have pl : (pairs ((sgn a b ts).map D.int) (ws.map D.int)).length = ts.length := by rw [pairs_length, List.length_map, List.length_map, sgn_length, hl, Nat.min_self]
      refine LcP.idx (fun i => .int ((sgn a b ts).getD i 0 * ws.getD i 0)) (by rw [pl, sizeLine_eq]; omega) (fun i d N e hN => ?_) ?_
      · obtain ⟨h1, h2, rfl⟩ := pairs_ints e
        have wm : ws.getD i 0 ∈ ws := by
          simp only [List.getD, List.getElem?_eq_getElem h2]
          exact List.getElem_mem h2
        have sm : ((sgn a b ts).getD i 0).natAbs < 2 ^ 2 := by
          have hm : (sgn a b ts).getD i 0 ∈ sgn a b ts := by
            simp only [List.getD, List.getElem?_eq_getElem h1]
            exact List.getElem_mem h1
          obtain ⟨t, _, e⟩ := List.mem_map.mp (show _ ∈ ts.map _ from hm)
          rw [← e]
          split <;> split <;> decide
        walk_at "dg"
        exact ⟨.inr (wide_mul (a := 2) (b := 282001) sm (hw _ wm) (by decide) (by decide) (by decide)), hN⟩
      · rw [pl]
        have em : ((List.range ts.length).map fun i => D.int ((sgn a b ts).getD i 0 * ws.getD i 0)) = ((List.range ts.length).map fun i => (sgn a b ts).getD i 0 * ws.getD i 0).map D.int := by
          rw [List.map_map]
          rfl
        rw [em]
        exact ⟨_, asInts_map _, hR⟩
theorem dotR_succ {n : Nat} {xs : List Int} {f : Nat → Int} : dotR (n + 1) xs f = dotR n xs f + xs.getD n 0 * f n := by
  unfold dotR
  rw [List.range_succ, List.map_append, List.sum_append]
  simp
theorem sgn_get {a b : Int} {ts : List Int} {i : Nat} (h : i < ts.length) : (sgn a b ts).getD i 0 = (if ts.getD i 0 = a then 1 else 0) - (if ts.getD i 0 = b then 1 else 0) := by
  unfold sgn
  simp [List.getD, h]
theorem tot_sub {ts ws : List Int} (hl : ws.length = ts.length) {a b : Int} : ∀ n, n ≤ ts.length → tot (ts.take n) (ws.take n) a - tot (ts.take n) (ws.take n) b = dotR n (sgn a b ts) fun i => ws.getD i 0
  | 0, _ => by simp [tot, dotR]
  | n + 1, h => by
    rw [tot_succ (by omega) (by omega), tot_succ (by omega) (by omega), dotR_succ, ← tot_sub hl n (by omega), sgn_get (by omega)]
    generalize ts.getD n 0 = t
    generalize ws.getD n 0 = v
    by_cases h1 : t = a
    · by_cases h2 : t = b
      · simp only [if_pos h1, if_pos h2]; omega
      · simp only [if_pos h1, if_neg h2]; omega
    · by_cases h2 : t = b
      · simp only [if_neg h1, if_pos h2]; omega
      · simp only [if_neg h1, if_neg h2]; omega
local macro_rules | `(tactic| walk_at "rk") => `(tactic| first
  | assumption
  | (refine rok_app ?_ ?_ ?_ <;> first | walk_at "rk" | (simp only [List.length_append, List.length_reverse, List.length_map, List.length_replicate]; omega))
  | (refine rok_rev ?_; walk_at "rk")
  | (refine rok_map ?_ _ (fun t => fmod_in (by assumption)); walk_at "rk")
  | omega
  | decide
  | (refine log_lt (k := 80) ?_ (by decide) (by decide); omega))
local macro_rules | `(tactic| walk_at "fin") => `(tactic| ((repeat' (first | (with_reducible assumption) | (with_reducible refine And.intro ?_ ?_) | (with_reducible intro _))); all_goals first | (with_reducible assumption) | omega | contradiction | trivial))
local macro_rules | `(tactic| walk_at "cj") => `(tactic| repeat' (refine And.intro (by walk_at "rk") ?_))
theorem any_nn {gs : List Int} : gs.any (fun x => decide (x < 0)) = false ↔ ∀ x ∈ gs, 0 ≤ x := by
  rw [List.any_eq_false]
  exact forall_congr' fun x => by simp
theorem gain_len {a b : Int} {ts : List Int} {K : Nat} (hK : K < ts.length) : (gainL K (sgn a b ts)).length = ts.length := by
  rw [gainL_ray (by rw [sgn_length]; exact hK), sgn_length, List.length_map, List.length_range]
def isNeg : D → Bool
  | .int x => decide (x < 0)
  | _ => false
theorem eqvAll_nil : ∀ {xs : List D}, PyData.eqvAll (pyL xs) [] = xs.isEmpty
  | [] => eqvAll_nn
  | _ :: _ => eqvAll_cn
theorem neg_filter {gs : List Int} : (gs.map D.int).filter isNeg = (gs.filter fun x => decide (x < 0)).map D.int := by
  rw [List.filter_map]
  rfl
theorem neg_empty {gs : List Int} : ((gs.filter fun x => decide (x < 0)).map D.int).isEmpty = !(gs.any fun x => decide (x < 0)) := by
  induction gs with
  | nil => rfl
  | cons g gs ih =>
    rw [List.filter_cons, List.any_cons]
    by_cases c : g < 0
    · simp [c]
    · rw [if_neg (by simpa using c), ih]
      simp [c]
theorem quest_ok {CT CH : Addr} {h : Int} {n : Nat} {a b : Int} {R : Prop} {Rx : Er → Prop} (hn : n ≤ 200) (a0 : 0 ≤ a) (a1 : a < h) (b0 : 0 ≤ b) (b1 : b < h) (hR : R) : questX CT CH h n (.int a) (.int b) R Rx :=
  ⟨fun z => absurd z (by omega), fun _ => ⟨fun z => absurd z (by simp [isNum]; omega), fun _ => ⟨fun z => absurd z (by simp [isNum]; omega), fun _ => hR⟩⟩⟩
local macro_rules | `(tactic| walk_at "dg") => do let xs ← dgN47.mapM fun n => `(Lean.Parser.Tactic.simpLemma| $(Lean.mkIdent n):term); `(tactic| simp only [$xs,*, List.getElem?_cons_zero, List.getElem?_cons_succ])
def F__law_minus : Spec
  | [.lst xs], R, _ => ∃ ns, asInts xs = some ns ∧ ns.length ≤ 1000 ∧ R (.lst ((difs ns).map .int))
  | _, _, _ => False
theorem F__law_minus_is {xs : List D} {R : D → Prop} {Rx : Er → Prop} : F__law_minus [.lst xs] R Rx = ∃ ns, asInts xs = some ns ∧ ns.length ≤ 1000 ∧ R (.lst ((difs ns).map .int)) := rfl
theorem F__law_minus_of {ds : List D} {R : D → Prop} {Rx : Er → Prop} (h : F__law_minus ds R Rx) : ∃ ns : List Int, ds = [.lst (ns.map .int)] ∧ ns.length ≤ 1000 ∧ R (.lst ((difs ns).map .int)) := by
  unfold F__law_minus at h
  split at h
  · obtain ⟨ns, e, h⟩ := h
    exact ⟨ns, by rw [asInts_eq e], h⟩
  · exact h.elim
def b__law_minus (Dx : Df K mg "_law_minus" s__law_minus) : Binds K Dx.fd ["_law_numbers"] [] := Dx.F.bindsN fun _ _ _ _ _ _ us hl => match us, hl with | [_], _ => rfl
def n__law_minus : List Str := ["_law_numbers", "_law_k_z"]
theorem sc__law_minus : FnScope n__law_minus ["_law_numbers"] (defScope s__law_minus) := ⟨rfl, rfl, rfl, by decide +kernel, rfl, by decide +kernel, by decide +kernel⟩
theorem ok__law_minus (T : Tx mg) (D__law_minus : Df K mg "_law_minus" s__law_minus) : FnOk P w K mg base (L2.CX P w) 1 D__law_minus.f D__law_minus.fd ["_law_numbers"] (spD F__law_minus) := by
  refine fn_d D__law_minus.F sc__law_minus (fun ds R Rx h => ?_) (fun cdv A outer s H E hr => (ds_one (s_ret (d_ofF (f_lc rfl sc__law_minus.nd (i_rg1 (da_cons (d_sub (d_callB b_len T.m_len boot_len (da_cons (d_var 0) da_nil)) d_int) da_nil) T.m_range) (blkOk_by (own := [("_law_k_z", 1)]) (N := n__law_minus) (sc := defScope s__law_minus) (by decide +kernel)) (by decide) (fun _ _ _ _ _ => (g_name (i := 1) sc__law_minus.nd)) (fun _ _ _ _ _ => dts_nil) (fun _ _ _ _ _ => (d_sub (d_ix (d_var 0) (d_var 1)) (d_ix (d_var 0) (d_add (d_var 1) d_int)))))))) ) fun ds R Rx h => ?_
  · obtain ⟨ns, rfl, _⟩ := F__law_minus_of h
    rfl
  · obtain ⟨ns, rfl, hn, hR⟩ := F__law_minus_of h
    clear h
    simp only [n__law_minus]
    walk_at "dl"
    have e2 : ((ns.length : Int) - 1).toNat = (difs ns).length := by rw [difs_length]; omega
    rw [e2]
    have hdl := difs_length ns
    refine ⟨by omega, by omega, LcP.upto (fun k => .int ((difs ns).getD k 0)) (by rw [sizeLine_eq]; omega) (fun k N hk hN => ?_) (by rw [range_getD]; exact hR)⟩
    walk_at "dl"
    refine ⟨_, at_ints (k := k) (by omega) (by omega), _, at_ints (k := k + 1) (by omega) (by omega), ?_⟩
    rw [difs_get ns k (by omega)] at hN
    exact hN
def dgN48 : Array Lean.Name := dgN47 ++ #[`F__law_minus_is]
local macro_rules | `(tactic| walk_at "dg") => do let xs ← dgN48.mapM fun n => `(Lean.Parser.Tactic.simpLemma| $(Lean.mkIdent n):term); `(tactic| simp only [$xs,*, List.getElem?_cons_zero, List.getElem?_cons_succ])
def F__law_of_class : Spec
  | [.lst xs, .int k], R, Rx => ∃ ns, asInts xs = some ns ∧ 0 < ns.length ∧ ns.length ≤ 1000 ∧ 0 ≤ k ∧ k ≤ 200 ∧ R (.bl (aocb (min k.toNat (ns.length - 1)) ns))
  | _, _, _ => False
theorem F__law_of_class_is {xs : List D} {k : Int} {R : D → Prop} {Rx : Er → Prop} : F__law_of_class [.lst xs, .int k] R Rx = (∃ ns, asInts xs = some ns ∧ 0 < ns.length ∧ ns.length ≤ 1000 ∧ 0 ≤ k ∧ k ≤ 200 ∧ R (.bl (aocb (min k.toNat (ns.length - 1)) ns))) := rfl
theorem F__law_of_class_of {ds : List D} {R : D → Prop} {Rx : Er → Prop} (z : F__law_of_class ds R Rx) : ∃ (xs : List D) (k : Int), ds = [.lst xs, .int k] ∧ (∃ ns, asInts xs = some ns ∧ 0 < ns.length ∧ ns.length ≤ 1000 ∧ 0 ≤ k ∧ k ≤ 200 ∧ R (.bl (aocb (min k.toNat (ns.length - 1)) ns))) := by
  unfold F__law_of_class at z
  split at z
  · exact ⟨_, _, rfl, z⟩
  · exact z.elim
def b__law_of_class (Dx : Df K mg "_law_of_class" s__law_of_class) : Binds K Dx.fd ["_law_worths_z", "_law_deep"] [] := Dx.F.bindsN fun _ _ _ _ _ _ us hl => match us, hl with | [_, _], _ => rfl
def n__law_of_class : List Str := ["_law_worths_z", "_law_deep", "_law_rest", "_law_step", "_law_number_here"]
theorem sc__law_of_class : FnScope n__law_of_class ["_law_worths_z", "_law_deep"] (defScope s__law_of_class) := ⟨rfl, rfl, rfl, by decide +kernel, rfl, by decide +kernel, by decide +kernel⟩
theorem ok__law_of_class (T : Tx mg) (D__law_of_class : Df K mg "_law_of_class" s__law_of_class) (D__law_minus : Df K mg "_law_minus" s__law_minus) : FnOk P w K mg base (L2.CX P w) 2 D__law_of_class.f D__law_of_class.fd ["_law_worths_z", "_law_deep"] (spD F__law_of_class) := by
  have G__law_minus := ok__law_minus (P := P) (w := w) (base := base) T D__law_minus
  refine fn_d D__law_of_class.F sc__law_of_class (fun ds R Rx hs0 => ?_) (fun cdv A outer s H E hr => have hu := hr.units
    (ds_cons (s_set (i := 2) sc__law_of_class.nd (d_ofF (f_list (d_var 0) T.m_list)))
    (ds_cons (s_for (passes_of rfl) rfl (i_rg1 (da_cons (d_add (d_callB (b_min2 rfl) T.m_min PyProof.Rows.boot_min (da_cons (d_var 1) (da_cons (d_sub (d_callB b_len T.m_len boot_len (da_cons (d_var 0) da_nil)) d_int) da_nil))) d_int) da_nil) T.m_range) (g_name (i := 3) sc__law_of_class.nd)
      (ds_cons (s_if (dt_cmp (c_ne hu) (d_ofF (f_lc rfl sc__law_of_class.nd (i_list (d_var 2)) (blkOk_by (own := [("_law_number_here", 4)]) (N := n__law_of_class) (sc := defScope s__law_of_class) (by decide +kernel)) (by decide) (fun _ _ _ _ _ => (g_name (i := 4) sc__law_of_class.nd)) (fun _ _ _ _ _ => (dts_one (dt_cmp c_lt (d_var 4) d_int (nomark _)))) (fun _ _ _ _ _ => (d_var 4)))) (d_ofF (f_lst da_nil)) (nomark _)) (ds_one (s_ret d_bl)) ds_nil)
        (ds_one (s_set (i := 2) sc__law_of_class.nd (d_call G__law_minus (hr.mono (by decide)) D__law_minus.g D__law_minus.F.kp (b__law_minus D__law_minus) .nil dfR_nil pass_d (da_cons (d_var 2) da_nil))))))
    (ds_one (s_ret d_bl)))) ) fun ds R Rx hs0 => ?_
  · obtain ⟨_, _, rfl, _⟩ := F__law_of_class_of hs0
    rfl
  · obtain ⟨xs, k, rfl, hs⟩ := F__law_of_class_of hs0
    clear hs0
    simp only [n__law_of_class]
    walk_at "dg"
    obtain ⟨ns, e1, hn, hn2, hk, hk2, hR⟩ := hs
    obtain rfl := asInts_eq e1
    clear e1
    rw [List.length_map] at *
    have eK : (if (ns.length : Int) - 1 < k then (ns.length : Int) - 1 else k) = ((min k.toNat (ns.length - 1) : Nat) : Int) := by split <;> omega
    rw [eK]
    generalize hKd : min k.toNat (ns.length - 1) = K at hR
    have hK : K < ns.length := by omega
    have hd := difI_length ns
    refine ⟨by omega, by omega, fun s env => s ≤ K + 1 ∧ (∀ t, t < s → ∀ x ∈ difI t ns, 0 ≤ x) ∧ ∃ e3 e4 : Option DV, env = [some (.val (.lst (ns.map D.int))), some (.val (.int k)), some (.val (.lst ((difI s ns).map D.int))), e3, e4], ⟨by omega, fun t ht => absurd ht (by omega), _, _, rfl⟩, ?_, ?_⟩
    · rintro s d env e ⟨hs, hp, e3, e4, rfl⟩
      obtain ⟨hs2, rfl⟩ := ups_at e
      walk_at "dg"
      refine LcP.filter isNeg (fun d => d) (by rw [sizeLine_eq, List.length_map, hd]; omega) (fun j d N M ed g1 g2 => ?_) ?_
      · obtain ⟨z, _, rfl⟩ := List.mem_map.mp (List.mem_of_getElem? ed)
        walk_at "dg"
        first
          | exact ⟨fun c => g1 (decide_eq_true c), fun c => g2 (decide_eq_false c)⟩
          | exact ⟨fun c => g1 (decide_eq_true c), fun c => g2 (decide_eq_false (by omega))⟩
          | exact ⟨fun c => g2 (decide_eq_false (by omega)), fun c => g1 (decide_eq_true (by omega))⟩
      rw [List.map_id', neg_filter, eqvAll_nil, neg_empty]
      refine ⟨datL_ints, by have := depL_ints (ns := (difI s ns).filter fun x => decide (x < 0)); omega, fun z => ?_, fun z => ⟨by rw [hd]; omega, by omega, fun t ht x hx => ?_, rfl⟩⟩
      · have : aocb K ns = false := by
          cases q : aocb K ns with
          | false => rfl
          | true =>
            unfold aocb at q
            rw [Bool.not_eq_false'] at z
            obtain ⟨x, hx, hx0⟩ := List.any_eq_true.mp z
            have := List.all_eq_true.mp (List.all_eq_true.mp q s (List.mem_range.mpr (by omega))) x hx
            simp only [decide_eq_true_eq] at this hx0
            omega
        rw [this] at hR
        exact hR
      · by_cases q : t < s
        · exact hp t q x hx
        · obtain rfl : t = s := by omega
          rw [Bool.not_eq_true'] at z
          exact any_nn.mp z x hx
    · rintro env ⟨_, hp, e3, e4, rfl⟩
      have : aocb K ns = true := by
        unfold aocb
        refine List.all_eq_true.mpr fun t ht => List.all_eq_true.mpr fun x hx => decide_eq_true (hp t ?_ x hx)
        have := List.mem_range.mp ht
        omega
      rw [this] at hR
      exact hR
local macro_rules | `(tactic| walk_at "rk") => `(tactic| first
  | assumption
  | (refine rok_app ?_ ?_ ?_ <;> first | walk_at "rk" | (simp only [List.length_append, List.length_reverse, List.length_map, List.length_replicate]; omega))
  | (refine rok_rev ?_; walk_at "rk")
  | (refine rok_map ?_ _ (fun t => fmod_in (by assumption)); walk_at "rk")
  | omega
  | decide
  | (refine log_lt (k := 80) ?_ (by decide) (by decide); omega))
local macro_rules | `(tactic| walk_at "fin") => `(tactic| ((repeat' (first | (with_reducible assumption) | (with_reducible refine And.intro ?_ ?_) | (with_reducible intro _))); all_goals first | (with_reducible assumption) | omega | contradiction | trivial))
local macro_rules | `(tactic| walk_at "cj") => `(tactic| repeat' (refine And.intro (by walk_at "rk") ?_))
theorem gc_low {a b : Int} (hb : 1 ≤ b) : 1 ≤ b / gc a b ∧ gc (a / gc a b) (b / gc a b) = 1 ∧ a / gc a b * gc a b = a ∧ b / gc a b * gc a b = b := by
  have g0 := gc_pos (a := a) hb
  have e1 : a / gc a b * gc a b = a := Int.ediv_mul_cancel (Int.gcd_dvd_left a b)
  have e2 : b / gc a b * gc a b = b := Int.ediv_mul_cancel (Int.gcd_dvd_right a b)
  refine ⟨?_, ?_, e1, e2⟩
  · rcases Int.lt_or_le 0 (b / gc a b) with q | q
    · omega
    · have := Int.mul_nonneg (show 0 ≤ -(b / gc a b) by omega) (show 0 ≤ gc a b by omega)
      rw [Int.neg_mul] at this
      omega
  · have h := Int.gcd_mul_right (a / gc a b) (gc a b) (b / gc a b)
    rw [e1, e2] at h
    have h2 : (gc a b).natAbs = Int.gcd a b := Int.natAbs_natCast _
    rw [h2] at h
    have g1 : 0 < Int.gcd a b := by have : (0 : Int) < (Int.gcd a b : Int) := g0; omega
    have h3 : Int.gcd (a / gc a b) (b / gc a b) * Int.gcd a b = 1 * Int.gcd a b := by omega
    have := Nat.eq_of_mul_eq_mul_right g1 h3
    show (Int.gcd (a / gc a b) (b / gc a b) : Int) = 1
    omega
theorem lowD_scale {c a b : Int} (hc : 0 < c) (hb : 1 ≤ b) : lowD (c * a) (c * b) = lowD a b := by
  have g0 := gc_pos (a := a) hb
  have e : gc (c * a) (c * b) = c * gc a b := by
    show (Int.gcd (c * a) (c * b) : Int) = c * (Int.gcd a b : Int)
    rw [Int.gcd_mul_left, Int.natCast_mul, Int.natAbs_of_nonneg (by omega)]
  unfold lowD
  rw [e, Int.mul_ediv_mul_of_pos _ _ hc, Int.mul_ediv_mul_of_pos _ _ hc]
theorem lowD_eq {a b c d : Int} (hb : 1 ≤ b) (hd : 1 ≤ d) (h : a * d = c * b) : lowD a b = lowD c d := by
  rw [← lowD_scale (c := d) (by omega) hb, ← lowD_scale (c := b) (a := c) (b := d) (by omega) hd]
  rw [Int.mul_comm d a, h, Int.mul_comm c b, Int.mul_comm d b]
/-- fractions of one denominator -/
def frW (W : Int) (ws : List Int) : List (Int × Int) := ws.map fun w => (w / gc w W, W / gc w W)
theorem frW_low {W : Int} {ws : List Int} : (frW W ws).map frD = ws.map fun w => lowD w W := by
  unfold frW
  rw [List.map_map]
  rfl
theorem frW_ok {W : Int} {ws : List Int} (hW : 1 ≤ W) : ∀ p ∈ frW W ws, 1 ≤ p.2 ∧ gc p.1 p.2 = 1 ∧ p.2 ∣ W := fun p hp => by
  obtain ⟨w, _, rfl⟩ := List.mem_map.mp hp
  obtain ⟨h1, h2, h3, h4⟩ := gc_low (a := w) hW
  exact ⟨h1, h2, ⟨_, h4.symm⟩⟩
theorem lcm_step {a m : Int} (ha : 1 ≤ a) (hm : 1 ≤ m) : m ∣ m * (a / gc a m) ∧ a ∣ m * (a / gc a m) ∧ ∀ W, m ∣ W → a ∣ W → m * (a / gc a m) ∣ W := by
  have g0 := gc_pos (a := a) hm
  have e1 : a / gc a m * gc a m = a := Int.ediv_mul_cancel (Int.gcd_dvd_left a m)
  obtain ⟨q, hq⟩ := Int.gcd_dvd_right a m
  have hq : m = gc a m * q := hq
  refine ⟨⟨_, rfl⟩, ⟨q, ?_⟩, fun W h1 h2 => ?_⟩
  · calc m * (a / gc a m) = (gc a m * q) * (a / gc a m) := by rw [← hq]
      _ = (a / gc a m * gc a m) * q := by rw [Int.mul_comm (gc a m) q, Int.mul_assoc, Int.mul_comm, Int.mul_comm (gc a m)]
      _ = a * q := by rw [e1]
  · obtain ⟨x, hx⟩ := h1
    obtain ⟨y, hy⟩ := h2
    -- m = g q, a = g r, gcd q r = 1: g q x = g r y
    have hg := (gc_low (a := a) hm).2.1
    have eq : m / gc a m = q := by rw [show m / gc a m = (gc a m * q) / gc a m by rw [← hq], Int.mul_ediv_cancel_left _ (by omega)]
    rw [eq] at hg
    have cop : Int.gcd (a / gc a m) q = 1 := by have : (Int.gcd (a / gc a m) q : Int) = 1 := hg; omega
    generalize hr : a / gc a m = r at *
    have e2 : q * x = r * y := by
      have h3 : gc a m * (q * x) = gc a m * (r * y) := by
        have u1 : gc a m * (q * x) = W := by rw [← Int.mul_assoc, ← hq]; exact hx.symm
        have u2 : gc a m * (r * y) = W := by rw [← Int.mul_assoc, Int.mul_comm (gc a m) r, e1]; exact hy.symm
        rw [u1, u2]
      exact Int.eq_of_mul_eq_mul_left (by omega) h3
    have h4 : r ∣ q * x := ⟨y, e2⟩
    have h5 : r ∣ x := Int.natAbs_dvd_natAbs.mp (Nat.Coprime.dvd_of_dvd_mul_left (show Nat.Coprime r.natAbs q.natAbs from cop) (by rw [← Int.natAbs_mul]; exact Int.natAbs_dvd_natAbs.mpr h4))
    obtain ⟨z, hz⟩ := h5
    exact ⟨z, by rw [hx, hz, Int.mul_assoc]⟩
theorem lcmP_dvd {W : Int} : ∀ (ps : List (Int × Int)) (m : Int), 1 ≤ m → m ∣ W → (∀ p ∈ ps, 1 ≤ p.2 ∧ p.2 ∣ W) → (ps.foldl (fun m p => m * (p.2 / gc p.2 m)) m ∣ W) ∧ (m ∣ ps.foldl (fun m p => m * (p.2 / gc p.2 m)) m) ∧ (∀ p ∈ ps, p.2 ∣ ps.foldl (fun m p => m * (p.2 / gc p.2 m)) m)
  | [], m, _, h, _ => ⟨h, Int.dvd_refl _, fun p hp => nomatch hp⟩
  | p :: ps, m, hm, h, hp => by
    obtain ⟨p1, p2⟩ := hp p (List.mem_cons_self ..)
    obtain ⟨s1, s2, s3⟩ := lcm_step p1 hm
    have f := (fr_div (a := p.2) (m := m) p1).1
    have f2 : m * 1 ≤ m * (p.2 / gc p.2 m) := Int.mul_le_mul_of_nonneg_left f (by omega)
    obtain ⟨r1, r2, r3⟩ := lcmP_dvd ps (m * (p.2 / gc p.2 m)) (by omega) (s3 W h p2) fun q hq => hp q (List.mem_cons_of_mem _ hq)
    refine ⟨r1, Int.dvd_trans s1 r2, fun q hq => ?_⟩
    rcases List.mem_cons.mp hq with rfl | hq
    · exact Int.dvd_trans s2 r2
    · exact r3 q hq
theorem frW_lcm {W : Int} {ws : List Int} (hW : 1 ≤ W) : 1 ≤ lcmP (frW W ws) ∧ lcmP (frW W ws) ≤ W ∧ ∀ p ∈ frW W ws, p.2 ∣ lcmP (frW W ws) := by
  obtain ⟨a, _, c⟩ := lcmP_dvd (frW W ws) 1 (Int.le_refl 1) ⟨W, by omega⟩ fun p hp => ⟨(frW_ok hW p hp).1, (frW_ok hW p hp).2.2⟩
  have h1 := lcmP_fold (frW W ws) 1 (Int.le_refl 1) fun p hp => (frW_ok hW p hp).1
  exact ⟨h1, Int.le_of_dvd (by omega) a, c⟩
/-- the numbers that are looked at are the worths, taken so many times -/
theorem num_scale {W : Int} {ws : List Int} (hW : 1 ≤ W) (i : Nat) : (numP (lcmP (frW W ws)) (frW W ws)).getD i 0 * W = ws.getD i 0 * lcmP (frW W ws) := by
  obtain ⟨l1, l2, l3⟩ := frW_lcm (ws := ws) hW
  generalize lcmP (frW W ws) = L at *
  by_cases c : i < ws.length
  · have e1 : (numP L (frW W ws)).getD i 0 = (ws.getD i 0 / gc (ws.getD i 0) W) * (L / (W / gc (ws.getD i 0) W)) := by
      unfold numP frW
      simp [List.getD, c]
    obtain ⟨h1, h2, h3, h4⟩ := gc_low (a := ws.getD i 0) hW
    have hd : W / gc (ws.getD i 0) W ∣ L := l3 (ws.getD i 0 / gc (ws.getD i 0) W, W / gc (ws.getD i 0) W) (List.mem_map.mpr ⟨ws.getD i 0, by simp [List.getD, c], rfl⟩)
    rw [e1]
    generalize ws.getD i 0 = w at *
    have h5 : L / (W / gc w W) * (W / gc w W) = L := Int.ediv_mul_cancel hd
    generalize hg : gc w W = g at *
    generalize hq : W / g = q at *
    generalize hp : w / g = p at *
    generalize hr : L / q = r at *
    rw [← h4, ← h3, ← h5]
    simp only [Int.mul_assoc, Int.mul_comm, Int.mul_left_comm]
  · have e1 : (numP L (frW W ws)).getD i 0 = 0 := by
      unfold numP frW
      rw [List.getD, List.getElem?_eq_none (by rw [List.length_map, List.length_map]; omega)]
      rfl
    rw [e1, List.getD, List.getElem?_eq_none (by omega)]
    simp
theorem dI_scale {f g : Nat → Int} {W L : Int} (h : ∀ i, f i * W = g i * L) : ∀ s i, dI s f i * W = dI s g i * L
  | 0, i => h i
  | s + 1, i => by
    show (dI s f i - dI s f (i + 1)) * W = (dI s g i - dI s g (i + 1)) * L
    rw [Int.sub_mul, Int.sub_mul, dI_scale h s i, dI_scale h s (i + 1)]
theorem aocb_of {K : Nat} {ns : List Int} (h : ∀ s, s ≤ K → ∀ i, i + s < ns.length → 0 ≤ dI s (fun k => ns.getD k 0) i) : aocb K ns = true := by
  unfold aocb
  refine List.all_eq_true.mpr fun s hs => List.all_eq_true.mpr fun x hx => ?_
  have hs := List.mem_range.mp hs
  obtain ⟨i, hi, rfl⟩ := List.getElem_of_mem hx
  have hl := difI_length ns s
  have e : (difI s ns)[i] = (difI s ns).getD i 0 := by simp [List.getD, hi]
  rw [e, difI_get ns s i (by omega)]
  exact decide_eq_true (h s (by omega) i (by omega))
theorem ray_dI {n K j : Nat} (hK : K < n) (hj : j < n) {s i : Nat} (hs : s ≤ K) (hi : i + s < n) : 0 ≤ dI s (ray n K j) i := by
  have := nonneg_all hK (ray n K j) (fun i hi => by rw [ray_top hK hj hi]; split <;> decide) (fun s hs => by rw [ray_last hK hj hs]; split <;> decide) (K - s) (by omega) i (by omega)
  rwa [show K - (K - s) = s by omega] at this
theorem ggB_dI {n K : Nat} {o : Option Nat} (hK : K < n) (ho : ∀ j, o = some j → j < n) {s i : Nat} (hs : s ≤ K) (hi : i + s < n) : 0 ≤ dI s (fun k => (ggB n K o).getD k 0) i := by
  cases o with
  | none =>
    rw [dI_congr (g := fun _ => 0) s i n (fun k hk => by simp [ggB, List.getD, hk]) hi, dI_zero]
    exact Int.le_refl 0
  | some j =>
    show 0 ≤ dI s (fun k => ((List.range n).map (ray n K j)).getD k 0) i
    rw [dI_congr (g := ray n K j) s i n (fun k hk => getD_range hk) hi]
    exact ray_dI hK (ho j rfl) hs hi
theorem dotR_scale {n : Nat} {xs : List Int} {f g : Nat → Int} {W L : Int} (h : ∀ i, f i * W = g i * L) : dotR n xs f * W = dotR n xs g * L := by
  induction n with
  | zero => simp [dotR]
  | succ n ih =>
    rw [dotR_up, dotR_up, Int.add_mul, Int.add_mul, ih, Int.mul_assoc, h, Int.mul_assoc]
theorem ggB_dot {a b : Int} {ts : List Int} {K : Nat} {o : Option Nat} : dotR ts.length (sgn a b ts) (fun i => (ggB ts.length K o).getD i 0) = ggA a b ts K o := by
  cases o with
  | none =>
    have : ∀ m, dotR m (sgn a b ts) (fun i => (ggB ts.length K none).getD i 0) = 0 := fun m => by
      induction m with
      | zero => rfl
      | succ m ih =>
        rw [dotR_up, ih]
        have : (ggB ts.length K none).getD m 0 = 0 := by
          show (List.replicate ts.length (0 : Int)).getD m 0 = 0
          rw [List.getD, List.getElem?_replicate]
          split <;> rfl
        rw [this]
        omega
    exact this _
  | some j => exact dotR_congr fun i hi => getD_range hi
theorem ggB_length {n K : Nat} {o : Option Nat} : (ggB n K o).length = n := by
  cases o with
  | none => exact List.length_replicate
  | some j => show ((List.range n).map (ray n K j)).length = _; rw [List.length_map, List.length_range]
theorem ggB_first {n K : Nat} {o : Option Nat} (hn : 0 < n) : (ggB n K o).getD 0 0 ≤ ggW n K o := by
  cases o with
  | none =>
    show (List.replicate n (0 : Int)).getD 0 0 ≤ 1
    rw [List.getD, List.getElem?_replicate, if_pos hn]
    decide
  | some j =>
    show ((List.range n).map (ray n K j)).getD 0 0 ≤ ray n K j 0
    rw [getD_range hn]
    exact Int.le_refl _
theorem gain_right {h a b k : Int} {ts : List Int} {K : Nat} {o : Option Nat} (a0 : 0 ≤ a) (a1 : a < h) (b0 : 0 ≤ b) (b1 : b < h) (k0 : 1 ≤ k) (k1 : k ≤ 200) (l0 : 0 < ts.length) (l2 : ts.length ≤ 200) (hKd : min k.toNat (ts.length - 1) = K) (ho : ∀ j, o = some j → j < ts.length) :
    gainB h ts (.int a) (.int b) (.int k) (lowD (ggA a b ts K o) (ggW ts.length K o)) (.lst ((ggB ts.length K o).map fun w => lowD w (ggW ts.length K o))) = true := by
  have hK : K < ts.length := by omega
  have hW := ggW_pos (o := o) hK (by omega) ho
  have hlow : ∀ w, isFr (lowD w (ggW ts.length K o)) = true := fun w => by
    obtain ⟨h1, h2, _⟩ := gc_low (a := w) hW
    show (decide (1 ≤ _) && decide (gc _ _ = 1)) = true
    rw [decide_eq_true h1, decide_eq_true h2]
    rfl
  have c1 : isNum (.int a) 0 (h - 1) = true := by simp [isNum]; omega
  have c2 : isNum (.int b) 0 (h - 1) = true := by simp [isNum]; omega
  have c3 : isNum (.int k) 1 200 = true := by simp [isNum]; omega
  have c4 : ((ggB ts.length K o).map fun w => lowD w (ggW ts.length K o)).all isFr = true := by
    rw [List.all_map]
    exact List.all_eq_true.mpr fun w _ => hlow w
  have c5 : ((ggB ts.length K o).map fun w => lowD w (ggW ts.length K o)).map frOf = frW (ggW ts.length K o) (ggB ts.length K o) := by
    rw [← frW_low, frOf_frD]
  simp only [gainB, c1, c2, c3, c4, hlow, c5, iv, List.length_map, ggB_length, decide_eq_true l2, decide_true, Bool.true_and]
  obtain ⟨m1, m2, _⟩ := frW_lcm (ws := ggB ts.length K o) hW
  have ns := num_scale (ws := ggB ts.length K o) hW
  have nl : (numP (lcmP (frW (ggW ts.length K o) (ggB ts.length K o))) (frW (ggW ts.length K o) (ggB ts.length K o))).length = ts.length := by unfold numP frW; rw [List.length_map, List.length_map, ggB_length]
  unfold gainP
  rw [hKd]
  generalize lcmP (frW (ggW ts.length K o) (ggB ts.length K o)) = L at *
  generalize numP L (frW (ggW ts.length K o) (ggB ts.length K o)) = xs at *
  have hx0 : xs.headD 0 = xs.getD 0 0 := by cases xs <;> rfl
  have d1 : ¬ L < xs.headD 0 := fun z => by
    rw [hx0] at z
    have e1 := ns 0
    have e2 := Int.mul_le_mul_of_nonneg_right (ggB_first (n := ts.length) (K := K) (o := o) l0) (show 0 ≤ L by omega)
    have e3 := Int.mul_lt_mul_of_pos_right z (show 0 < ggW ts.length K o by omega)
    rw [Int.mul_comm L] at e3
    omega
  have d2 : aocb K xs = true := aocb_of fun s hs i hi => by
    have e1 := dI_scale (f := fun k => xs.getD k 0) (g := fun k => (ggB ts.length K o).getD k 0) ns s i
    have e2 := Int.mul_nonneg (ggB_dI hK ho hs (by omega : i + s < ts.length)) (show 0 ≤ L by omega)
    rcases Int.lt_or_le (dI s (fun k => xs.getD k 0) i) 0 with q | q
    · have := Int.mul_neg_of_neg_of_pos q (show 0 < ggW ts.length K o by omega)
      omega
    · exact q
  have d3 : lowD (tot ts xs a - tot ts xs b) L = lowD (ggA a b ts K o) (ggW ts.length K o) := by
    have e0 := tot_sub (ts := ts) (ws := xs) nl (a := a) (b := b) ts.length (Nat.le_refl _)
    rw [List.take_length, ← nl, List.take_length, nl] at e0
    rw [e0]
    refine lowD_eq (by omega) hW ?_
    rw [dotR_scale (g := fun i => (ggB ts.length K o).getD i 0) (L := L) ns, ggB_dot]
  rw [decide_eq_false d1, d2, d3, eqv_self]
  rfl
local macro_rules | `(tactic| walk_at "rk") => `(tactic| first
  | assumption
  | (refine rok_app ?_ ?_ ?_ <;> first | walk_at "rk" | (simp only [List.length_append, List.length_reverse, List.length_map, List.length_replicate]; omega))
  | (refine rok_rev ?_; walk_at "rk")
  | (refine rok_map ?_ _ (fun t => fmod_in (by assumption)); walk_at "rk")
  | omega
  | decide
  | (refine log_lt (k := 80) ?_ (by decide) (by decide); omega))
local macro_rules | `(tactic| walk_at "fin") => `(tactic| ((repeat' (first | (with_reducible assumption) | (with_reducible refine And.intro ?_ ?_) | (with_reducible intro _))); all_goals first | (with_reducible assumption) | omega | contradiction | trivial))
local macro_rules | `(tactic| walk_at "cj") => `(tactic| repeat' (refine And.intro (by walk_at "rk") ?_))
/-- a list to be looked at that is not too deep -/
def P9 : Nat := 2 ^ 900
def P20 : Nat := 2 ^ 2000
def SmB (x : D) : Prop := ∀ i : Int, x = .int i → i.natAbs < P20
theorem smB_0 {x : D} (h : isInt x = false) : SmB x := fun i e => by rw [e] at h; cases h
def Bent (d : D) : Prop := Flat1 d ∧ Good 4 d ∧ d.dep ≤ 5 ∧ ∀ xs, d = .lst xs → ∀ x ∈ xs, SmB x
theorem pw900 : P9 + 10 ^ 18 < P20 := by
  unfold P9 P20
  decide +kernel
theorem pwB : ∃ a b : Nat, P9 = a ∧ P20 = b ∧ a + 1000000000000000000 < b := ⟨_, _, rfl, rfl, by have := pw900; rw [show (10 : Nat) ^ 18 = 1000000000000000000 by decide] at this; exact this⟩
theorem pw_up {z : Int} (h : z.natAbs < P9) : z.natAbs < P20 := by
  obtain ⟨a, b, ea, eb, l⟩ := pwB
  rw [ea] at h
  rw [eb]
  omega
theorem pw_add {z n : Int} (h : z.natAbs < P9) (h1 : -(1000000000000000000) < n) (h2 : n < 1000000000000000000) : (z + n).natAbs < P20 := by
  obtain ⟨a, b, ea, eb, l⟩ := pwB
  rw [ea] at h
  rw [eb]
  omega
theorem pw_sml {n : Int} (h1 : -(1000000000000000000) < n) (h2 : n < 1000000000000000000) : n.natAbs < P20 := by
  obtain ⟨a, b, ea, eb, l⟩ := pwB
  rw [eb]
  omega
theorem good_up : ∀ {n : Nat} {x : D}, Good n x → Good (n + 1) x
  | 0, x, h => (good_0 h).elim
  | n + 1, .lst xs, h => ⟨h.1, fun x m => good_up (h.2 x m)⟩
  | n + 1, .tup xs, h => ⟨h.1, fun x m => good_up (h.2 x m)⟩
  | n + 1, .non, _ => trivial
  | n + 1, .bl _, _ => trivial
  | n + 1, .int _, _ => trivial
  | n + 1, .str _, _ => trivial
theorem bent_lst {xs : List D} (h : ∀ x ∈ xs, Good 3 x ∧ x.dep ≤ 4 ∧ SmB x) (hl : xs.length ≤ 5000) : Bent (.lst xs) := by
  refine ⟨⟨datL_of fun x hx => (good_dat (h x hx).1).1, hl⟩, ⟨by omega, fun x hx => (h x hx).1⟩, ?_, fun ys e x hx => by cases e; exact (h x hx).2.2⟩
  rw [dep_lst]
  have := depL_of (n := 4) (xs := xs) fun x hx => (h x hx).2.1
  omega
theorem bent_ints {ns : List Int} (hl : ns.length ≤ 5000) (hb : ∀ n ∈ ns, n.natAbs < P20) : Bent (.lst (ns.map .int)) := bent_lst (fun x hx => by
  obtain ⟨i, m, rfl⟩ := List.mem_map.mp hx
  exact ⟨trivial, Nat.le_of_ble_eq_true rfl, fun j e => by cases e; exact hb i m⟩) (by rw [List.length_map]; exact hl)
def dgN49 : Array Lean.Name := dgN48 ++ #[`F__law_of_class_is]
local macro_rules | `(tactic| walk_at "dg") => do let xs ← dgN49.mapM fun n => `(Lean.Parser.Tactic.simpLemma| $(Lean.mkIdent n):term); `(tactic| simp only [$xs,*, List.getElem?_cons_zero, List.getElem?_cons_succ])
def F__law_bent : Spec
  | [.bag, .lst xs], R, Rx => ∃ ns, asInts xs = some ns ∧ ns.length ≤ 900 ∧ (∀ n ∈ ns, n.natAbs < P9) ∧ ∀ d : D, Bent d → R d
  | _, _, _ => False
theorem F__law_bent_is {xs : List D} {R : D → Prop} {Rx : Er → Prop} : F__law_bent [.bag, .lst xs] R Rx = (∃ ns, asInts xs = some ns ∧ ns.length ≤ 900 ∧ (∀ n ∈ ns, n.natAbs < P9) ∧ ∀ d : D, Bent d → R d) := rfl
theorem F__law_bent_of {ds : List D} {R : D → Prop} {Rx : Er → Prop} (z : F__law_bent ds R Rx) : ∃ (xs : List D), ds = [.bag, .lst xs] ∧ (∃ ns, asInts xs = some ns ∧ ns.length ≤ 900 ∧ (∀ n ∈ ns, n.natAbs < P9) ∧ ∀ d : D, Bent d → R d) := by
  unfold F__law_bent at z
  split at z
  · exact ⟨_, rfl, z⟩
  · exact z.elim
def b__law_bent (Dx : Df K mg "_law_bent" s__law_bent) : Binds K Dx.fd ["_law_bag_here", "_law_numbers"] [] := Dx.F.bindsN fun _ _ _ _ _ _ us hl => match us, hl with | [_, _], _ => rfl
def n__law_bent : List Str := ["_law_bag_here", "_law_numbers", "_law_spot", "_law_way", "_law_change", "_law_number_here", "_law_k_z"]
theorem sc__law_bent : FnScope n__law_bent ["_law_bag_here", "_law_numbers"] (defScope s__law_bent) := ⟨rfl, rfl, rfl, by decide +kernel, rfl, by decide +kernel, by decide +kernel⟩
theorem ok__law_bent (T : Tx mg) (D__law_bent : Df K mg "_law_bent" s__law_bent) (D__law_pull : Df K mg "_law_pull" s__law_pull) (D__law_pick : Df K mg "_law_pick" s__law_pick) (D__law_number : Df K mg "_law_number" s__law_number) : FnOk P w K mg base (L2.CX P w) 5 D__law_bent.f D__law_bent.fd ["_law_bag_here", "_law_numbers"] (spD F__law_bent) := by
  have G__law_pull := ok__law_pull (P := P) (w := w) (base := base) D__law_pull T.m_int T.m_len
  have G__law_pick := ok__law_pick (P := P) (w := w) (base := base) D__law_pick D__law_pull T.m_int T.m_len
  have G__law_number := ok__law_number (P := P) (w := w) (base := base) D__law_number D__law_pick D__law_pull T.m_int T.m_len
  refine fn_d D__law_bent.F sc__law_bent (fun ds R Rx hs0 => ?_) (fun cdv A outer s H E hr => have hu := hr.units
    (ds_cons (s_asg (d_tup (da_cons (d_call G__law_pull (hr.mono (by decide)) D__law_pull.g D__law_pull.F.kp (b__law_pull D__law_pull) .nil dfR_nil pass_d (da_cons (d_var 0) (da_cons (d_add (d_callB b_len T.m_len boot_len (da_cons (d_var 1) da_nil)) d_int) da_nil))) (da_cons (d_call G__law_pull (hr.mono (by decide)) D__law_pull.g D__law_pull.F.kp (b__law_pull D__law_pull) .nil dfR_nil pass_d (da_cons (d_var 0) (da_cons d_int da_nil))) da_nil))) (g_tup (n := 2) rfl (gs_cons (g_name (i := 2) sc__law_bent.nd) (gs_cons (g_name (i := 3) sc__law_bent.nd) gs_nil))))
    (ds_cons (s_if (dt_cmp (c_eq hu) (d_var 3) d_int (nomark _)) (ds_one (s_ret (d_add (d_add (d_slice (d_var 1) do_none (do_some (d_var 2))) (d_ofF (f_lst (da_cons (d_call G__law_pull (hr.mono (by decide)) D__law_pull.g D__law_pull.F.kp (b__law_pull D__law_pull) .nil dfR_nil pass_d (da_cons (d_var 0) (da_cons d_int da_nil))) da_nil)))) (d_slice (d_var 1) (do_some (d_var 2)) do_none)))) ds_nil)
    (ds_cons (s_if (dt_cmp (c_eq hu) (d_var 3) d_int (nomark _)) (ds_one (s_ret (d_add (d_slice (d_var 1) do_none (do_some (d_var 2))) (d_slice (d_var 1) (do_some (d_add (d_var 2) d_int)) do_none)))) ds_nil)
    (ds_cons (s_if (dt_cmp (c_eq hu) (d_var 3) d_int (nomark _)) (ds_one (s_ret (d_add (d_add (d_slice (d_var 1) do_none (do_some (d_var 2))) (d_ofF (f_lst (da_cons (d_call G__law_pick (hr.mono (by decide)) D__law_pick.g D__law_pick.F.kp (b__law_pick D__law_pick) .nil dfR_nil pass_d (da_cons (d_var 0) (da_cons (d_ofF (f_lst (da_cons d_non (da_cons d_bl (da_cons d_str (da_cons (d_ofF (f_lst (da_cons d_int da_nil))) (da_cons (d_tup (da_cons d_int da_nil)) da_nil))))))) da_nil))) da_nil)))) (d_slice (d_var 1) (do_some (d_add (d_var 2) d_int)) do_none)))) ds_nil)
    (ds_cons (s_if (dt_cmp (c_eq hu) (d_var 3) d_int (nomark _)) (ds_one (s_ret (d_call G__law_pick (hr.mono (by decide)) D__law_pick.g D__law_pick.F.kp (b__law_pick D__law_pick) .nil dfR_nil pass_d (da_cons (d_var 0) (da_cons (d_ofF (f_lst (da_cons d_non (da_cons d_int (da_cons d_str (da_cons d_bl (da_cons (d_ofF (f_lst da_nil)) (da_cons (d_ofF (f_lst (da_cons (d_var 1) da_nil))) da_nil)))))))) da_nil))))) ds_nil)
    (ds_cons (s_if (dt_cmp (c_eq hu) (d_var 3) d_int (nomark _)) (ds_one (s_ret (d_ofF (f_lc rfl sc__law_bent.nd (i_list (d_var 1)) (blkOk_by (own := [("_law_number_here", 5)]) (N := n__law_bent) (sc := defScope s__law_bent) (by decide +kernel)) (by decide) (fun _ _ _ _ _ => (g_name (i := 5) sc__law_bent.nd)) (fun _ _ _ _ _ => dts_nil) (fun _ _ _ _ _ => (d_add (d_var 5) d_int)))))) ds_nil)
    (ds_cons (s_if (dt_cmp (c_eq hu) (d_var 3) d_int (nomark _)) (ds_one (s_ret (d_ofF (f_slice3 (d_var 1) do_none do_none (do_some (d_neg d_int)))))) ds_nil)
    (ds_cons (s_if (dt_cmp (c_eq hu) (d_var 3) d_int (nomark _)) (ds_one (s_ret (d_ofF (f_list (d_var 1) T.m_list)))) ds_nil)
    (ds_cons (s_set (i := 4) sc__law_bent.nd (d_call G__law_number (hr.mono (by decide)) D__law_number.g D__law_number.F.kp (b__law_number D__law_number) .nil dfR_nil pass_d (da_cons (d_var 0) da_nil)))
    (ds_one (s_ret (d_ofF (f_lc rfl sc__law_bent.nd (i_rg1 (da_cons (d_callB b_len T.m_len boot_len (da_cons (d_var 1) da_nil)) da_nil) T.m_range) (blkOk_by (own := [("_law_k_z", 6)]) (N := n__law_bent) (sc := defScope s__law_bent) (by decide +kernel)) (by decide) (fun _ _ _ _ _ => (g_name (i := 6) sc__law_bent.nd)) (fun _ _ _ _ _ => dts_nil) (fun _ _ _ _ _ => (d_add (d_ix (d_var 1) (d_var 6)) (d_if (dt_cmp (c_eq hu) (d_var 6) (d_var 2) (nomark _)) (d_var 4) d_int)))))))))))))))) ) fun ds R Rx hs0 => ?_
  · obtain ⟨_, rfl, _⟩ := F__law_bent_of hs0
    rfl
  · obtain ⟨xs, rfl, hs⟩ := F__law_bent_of hs0
    clear hs0
    simp only [n__law_bent]
    walk_at "dg"
    obtain ⟨ns, e, hn, hb, hR⟩ := hs
    have hb2 : ∀ n ∈ ns, n.natAbs < P20 := fun n m => pw_up (hb n m)
    obtain rfl := asInts_eq e
    have lg : ∀ n : Int, 0 ≤ n → n < 2 ^ 60 → n.natAbs.log2 < 9000 := fun n h0 h1 => log_lt (k := 60) (by omega) (by decide) (by decide)
    have I : ∀ x ∈ ns.map D.int, Good 3 x ∧ x.dep ≤ 4 ∧ SmB x := fun x hx => by
      obtain ⟨i, m, rfl⟩ := List.mem_map.mp hx
      exact ⟨trivial, Nat.le_of_ble_eq_true rfl, fun j e => by cases e; exact hb2 i m⟩
    have It : ∀ (k : Nat), ∀ x ∈ (ns.map D.int).take k, Good 3 x ∧ x.dep ≤ 4 ∧ SmB x := fun k x hx => I x (List.mem_of_mem_take hx)
    have Id : ∀ (k : Nat), ∀ x ∈ (ns.map D.int).drop k, Good 3 x ∧ x.dep ≤ 4 ∧ SmB x := fun k x hx => I x (List.mem_of_mem_drop hx)
    have hl : (ns.map D.int).length = ns.length := List.length_map ..
    have lt : ∀ k : Nat, ((ns.map D.int).take k).length ≤ 900 := fun k => by rw [List.length_take]; omega
    have ld : ∀ k : Nat, ((ns.map D.int).drop k).length ≤ 900 := fun k => by rw [List.length_drop]; omega
    refine ⟨by omega, lg _ (by omega) (by omega), fun r r0 r1 => ⟨lg _ (by decide) (by decide), fun y y0 y1 => ?_⟩⟩
    obtain ⟨k, rfl⟩ : ∃ k : Nat, r = k := ⟨r.toNat, by omega⟩
    rw [show (k : Int) + 1 = ((k + 1 : Nat) : Int) by omega, cutD_to, cutD_from, cutD_from]
    have a1 := lt k
    have a2 := ld k
    have a3 := ld (k + 1)
    refine ⟨fun _ => ⟨lg _ (by decide) (by decide), fun z z0 z1 => ⟨by omega, by omega, hR _ (bent_lst (fun x hx => ?_) (by rw [List.length_append, List.length_append]; simp only [List.length_cons, List.length_nil]; omega))⟩⟩, fun _ => ⟨fun _ => ⟨by omega, hR _ (bent_lst (fun x hx => ?_) (by rw [List.length_append]; omega))⟩, fun _ => ⟨fun _ d hd => ⟨by omega, by omega, hR _ (bent_lst (fun x hx => ?_) (by rw [List.length_append, List.length_append]; simp only [List.length_cons, List.length_nil]; omega))⟩, fun _ => ⟨fun _ d hd => hR _ ?_, fun _ => ⟨fun _ => ?_, fun _ => ⟨fun _ => ⟨by omega, hR _ ?_⟩, fun _ => ⟨fun _ => hR _ ?_, fun _ n n0 n1 => ⟨by omega, by omega, ?_⟩⟩⟩⟩⟩⟩⟩⟩
    · rcases List.mem_append.mp hx with hx | hx
      · rcases List.mem_append.mp hx with hx | hx
        · exact It k x hx
        · rw [List.mem_singleton.mp hx]
          exact ⟨trivial, Nat.le_of_ble_eq_true rfl, fun j e => by cases e; exact pw_sml (by omega) (by omega)⟩
      · exact Id k x hx
    · rcases List.mem_append.mp hx with hx | hx
      · exact It k x hx
      · exact Id _ x hx
    · rcases List.mem_append.mp hx with hx | hx
      · rcases List.mem_append.mp hx with hx | hx
        · exact It k x hx
        · rw [List.mem_singleton.mp hx]
          simp only [List.mem_cons, List.not_mem_nil, or_false] at hd
          rcases hd with rfl | rfl | rfl | rfl | rfl
          · exact ⟨trivial, by decide, smB_0 rfl⟩
          · exact ⟨trivial, by decide, smB_0 rfl⟩
          · exact ⟨trivial, by decide, smB_0 rfl⟩
          · exact ⟨⟨by decide, fun x hx => by rw [List.mem_singleton.mp hx]; trivial⟩, by decide, smB_0 rfl⟩
          · exact ⟨⟨by decide, fun x hx => by rw [List.mem_singleton.mp hx]; trivial⟩, by decide, smB_0 rfl⟩
      · exact Id _ x hx
    · simp only [List.mem_cons, List.not_mem_nil, or_false] at hd
      rcases hd with rfl | rfl | rfl | rfl | rfl | rfl
      · exact ⟨rfl, trivial, by decide, fun _ e => nomatch e⟩
      · exact ⟨rfl, trivial, by decide, fun _ e => nomatch e⟩
      · exact ⟨rfl, trivial, by decide, fun _ e => nomatch e⟩
      · exact ⟨rfl, trivial, by decide, fun _ e => nomatch e⟩
      · exact bent_lst (fun x hx => nomatch hx) (by decide)
      · refine bent_lst (fun x hx => ?_) (Nat.le_of_ble_eq_true rfl)
        rw [List.mem_singleton.mp hx]
        refine ⟨good_ints (n := 1) (by omega), ?_, smB_0 rfl⟩
        rw [dep_lst]
        have := depL_ints (ns := ns)
        omega
    · refine LcP.of (fun i => .int (i + 1)) (by rw [sizeLine_eq]; omega) (fun j i N ei hN => ?_) ?_
      · walk_at "dg"
        exact hN
      · have e : (ns.map fun i => D.int (i + 1)) = (ns.map fun i => i + 1).map D.int := by rw [List.map_map]; rfl
        rw [e]
        exact hR _ (bent_ints (by rw [List.length_map]; omega) fun n m => by
          obtain ⟨i, mi, rfl⟩ := List.mem_map.mp m
          exact pw_add (hb i mi) (by decide) (by decide))
    · rw [← List.map_reverse]
      exact bent_ints (by rw [List.length_reverse]; omega) fun n m => hb2 n (List.mem_reverse.mp m)
    · exact bent_ints (by omega) hb2
    · rw [hl, Int.toNat_natCast]
      refine LcP.upto (fun j => .int (ns.getD j 0 + if (j : Int) = k then n else 0)) (by rw [sizeLine_eq]; omega) (fun j N hj hN => ?_) ?_
      · walk_at "dg"
        refine ⟨_, at_ints (k := j) rfl hj, fun z => ?_, fun z => ?_⟩
        · rw [if_pos z] at hN
          exact hN
        · rw [if_neg z] at hN
          exact hN
      · have e : ((List.range ns.length).map fun j => D.int (ns.getD j 0 + if ((j : Nat) : Int) = k then n else 0)) = ((List.range ns.length).map fun j => ns.getD j 0 + if ((j : Nat) : Int) = k then n else 0).map D.int := by rw [List.map_map]; rfl
        rw [e]
        exact hR _ (bent_ints (by rw [List.length_map, List.length_range]; omega) fun n m => by
          obtain ⟨i, mi, rfl⟩ := List.mem_map.mp m
          have mi := List.mem_range.mp mi
          have g : ns.getD i 0 ∈ ns := by
            simp only [List.getD, List.getElem?_eq_getElem mi]
            exact List.getElem_mem mi
          split
          · exact pw_add (hb _ g) (by omega) (by omega)
          · exact pw_add (hb _ g) (by decide) (by decide))
local macro_rules | `(tactic| walk_at "rk") => `(tactic| first
  | assumption
  | (refine rok_app ?_ ?_ ?_ <;> first | walk_at "rk" | (simp only [List.length_append, List.length_reverse, List.length_map, List.length_replicate]; omega))
  | (refine rok_rev ?_; walk_at "rk")
  | (refine rok_map ?_ _ (fun t => fmod_in (by assumption)); walk_at "rk")
  | omega
  | decide
  | (refine log_lt (k := 80) ?_ (by decide) (by decide); omega))
local macro_rules | `(tactic| walk_at "fin") => `(tactic| ((repeat' (first | (with_reducible assumption) | (with_reducible refine And.intro ?_ ?_) | (with_reducible intro _))); all_goals first | (with_reducible assumption) | omega | contradiction | trivial))
local macro_rules | `(tactic| walk_at "cj") => `(tactic| repeat' (refine And.intro (by walk_at "rk") ?_))
def dgN50 : Array Lean.Name := dgN49 ++ #[`F__law_bent_is]
local macro_rules | `(tactic| walk_at "dg") => do let xs ← dgN50.mapM fun n => `(Lean.Parser.Tactic.simpLemma| $(Lean.mkIdent n):term); `(tactic| simp only [$xs,*, List.getElem?_cons_zero, List.getElem?_cons_succ])
theorem depL_mem : ∀ {xs : List D} {x : D}, x ∈ xs → x.dep ≤ depL xs
  | y :: ys, x, m => by
    rw [depL_cons]
    rcases List.mem_cons.mp m with rfl | m
    · exact Nat.le_max_left _ _
    · exact Nat.le_trans (depL_mem m) (Nat.le_max_right _ _)
theorem filter_ints : ∀ xs : List D, (xs.filter fun d => !isInt d).isEmpty = xs.all isInt
  | [] => rfl
  | x :: xs => by
    rw [List.filter_cons, List.all_cons]
    cases isInt x with
    | true => exact filter_ints xs
    | false => rfl
def numsSo : D → Bool
  | .lst xs => !xs.isEmpty && xs.all isInt
  | _ => false
def F__law_numbers_so : Spec
  | [x], R, Rx => x.dat = true ∧ lenD x ≤ 5000 ∧ x.dep ≤ 10 ∧ R (.bl (numsSo x))
  | _, _, _ => False
theorem F__law_numbers_so_is {x : D} {R : D → Prop} {Rx : Er → Prop} : F__law_numbers_so [x] R Rx = (x.dat = true ∧ lenD x ≤ 5000 ∧ x.dep ≤ 10 ∧ R (.bl (numsSo x))) := rfl
theorem F__law_numbers_so_of {ds : List D} {R : D → Prop} {Rx : Er → Prop} (z : F__law_numbers_so ds R Rx) : ∃ (x : D), ds = [x] ∧ (x.dat = true ∧ lenD x ≤ 5000 ∧ x.dep ≤ 10 ∧ R (.bl (numsSo x))) := by
  unfold F__law_numbers_so at z
  split at z
  · exact ⟨_, rfl, z⟩
  · exact z.elim
def b__law_numbers_so (Dx : Df K mg "_law_numbers_so" s__law_numbers_so) : Binds K Dx.fd ["_law_value"] [] := Dx.F.bindsN fun _ _ _ _ _ _ us hl => match us, hl with | [_], _ => rfl
def n__law_numbers_so : List Str := ["_law_value", "_law_one_z"]
theorem sc__law_numbers_so : FnScope n__law_numbers_so ["_law_value"] (defScope s__law_numbers_so) := ⟨rfl, rfl, rfl, by decide +kernel, rfl, by decide +kernel, by decide +kernel⟩
theorem ok__law_numbers_so (T : Tx mg) (D__law_numbers_so : Df K mg "_law_numbers_so" s__law_numbers_so) : FnOk P w K mg base (L2.CX P w) 1 D__law_numbers_so.f D__law_numbers_so.fd ["_law_value"] (spD F__law_numbers_so) := by

  refine fn_d D__law_numbers_so.F sc__law_numbers_so (fun ds R Rx hs0 => ?_) (fun cdv A outer s H E hr => have hu := hr.units
    (ds_cons (s_if (dw_pt (dw_or (dt_not (dt_tru (d_callB b_isi T.m_isinstance PyProof.Rows.boot_isinstance (da_cons (d_var 0) (da_cons (d_bty T.m_list PyProof.Rows.boot_list) da_nil))))) (dw_or1 (dt_cmp (c_eq hu) (d_var 0) (d_ofF (f_lst da_nil)) (nomark _))))) (ds_one (s_ret d_bl)) ds_nil)
    (ds_one (s_ret (d_cmp (c_eq hu) (d_ofF (f_lc rfl sc__law_numbers_so.nd (i_list (d_var 0)) (blkOk_by (own := [("_law_one_z", 1)]) (N := n__law_numbers_so) (sc := defScope s__law_numbers_so) (by decide +kernel)) (by decide) (fun _ _ _ _ _ => (g_name (i := 1) sc__law_numbers_so.nd)) (fun _ _ _ _ _ => (dts_one (dw_pt (dw_or (dt_not (dt_tru (d_callB b_isi T.m_isinstance PyProof.Rows.boot_isinstance (da_cons (d_var 1) (da_cons (d_bty T.m_int PyProof.Rows.boot_int) da_nil))))) (dw_or1 (dt_tru (d_callB b_isi T.m_isinstance PyProof.Rows.boot_isinstance (da_cons (d_var 1) (da_cons (d_bty T.m_bool PyProof.Rows.boot_bool) da_nil))))))))) (fun _ _ _ _ _ => (d_var 1)))) (d_ofF (f_lst da_nil)) (nomark _))))) ) fun ds R Rx hs0 => ?_
  · obtain ⟨_, rfl, _⟩ := F__law_numbers_so_of hs0
    rfl
  · obtain ⟨x, rfl, hs⟩ := F__law_numbers_so_of hs0
    clear hs0
    simp only [n__law_numbers_so]
    walk_at "dg"
    obtain ⟨hd, hl, hp, hR⟩ := hs
    cases x <;> try exact (Bool.false_ne_true hd).elim
    all_goals walk_at "dg"
    all_goals try exact hR
    rename_i xs
    have hd : datL xs = true := hd
    have hp : 1 + depL xs ≤ 10 := hp
    have hl : xs.length ≤ 5000 := hl
    have e0 : numsSo (D.lst xs) = (!xs.isEmpty && xs.all isInt) := rfl
    rw [e0] at hR
    refine ⟨hd, by omega, fun z => ?_, fun z => ?_⟩
    · rw [eqvAll_nil] at z
      rw [z] at hR
      exact hR
    · rw [eqvAll_nil] at z
      rw [z] at hR
      refine LcP.filter (fun d => !isInt d) (fun d => d) (by rw [sizeLine_eq]; omega) (fun j d N M ed g1 g2 => ?_) ?_
      · have dd := datL_mem hd (List.mem_of_getElem? ed)
        cases d <;> try exact (Bool.false_ne_true dd).elim
        all_goals walk_at "dg"
        all_goals first | exact g1 rfl | exact g2 rfl
      · rw [List.map_id', eqvAll_nil]
        have e1 := filter_ints xs
        rw [e1]
        refine ⟨datL_of fun x hx => datL_mem hd (List.mem_filter.mp hx |>.1), ?_, hR⟩
        have := depL_of (n := depL xs) (xs := xs.filter fun d => !isInt d) fun x hx => depL_mem (List.mem_filter.mp hx |>.1)
        omega
theorem p20 : P20 < 2 ^ 282001 := by
  unfold P20
  exact Nat.pow_lt_pow_right (by decide) (by decide)
theorem gain_law {ts : List Int} {a b : Int} {K : Nat} (hK : K < ts.length) : ((List.range ts.length).map fun j => D.int (dotR ts.length (sgn a b ts) (ray ts.length K j))) = (gainL K (sgn a b ts)).map D.int := by
  rw [gainL_ray (by rw [sgn_length]; exact hK), sgn_length, List.map_map]
  rfl
def F__law_due_so : Spec
  | [.lst xs, .tup [.int h, f, .int j, s], v, .bl g], R, Rx => ∃ ts, asInts xs = some ts ∧ RowOk h ts ∧ ts.length ≤ 20 ∧ 0 ≤ j ∧ j < h ∧ f.flat = true ∧ f.dat = true ∧ s.flat = true ∧ s.dat = true ∧ Bent v ∧ R (.bl (if g = true then nwB h ts f (.int j) s v else woB h ts f (.int j) s v))
  | _, _, _ => False
theorem F__law_due_so_is {xs : List D} {h : Int} {f : D} {j : Int} {s : D} {v : D} {g : Bool} {R : D → Prop} {Rx : Er → Prop} : F__law_due_so [.lst xs, .tup [.int h, f, .int j, s], v, .bl g] R Rx = (∃ ts, asInts xs = some ts ∧ RowOk h ts ∧ ts.length ≤ 20 ∧ 0 ≤ j ∧ j < h ∧ f.flat = true ∧ f.dat = true ∧ s.flat = true ∧ s.dat = true ∧ Bent v ∧ R (.bl (if g = true then nwB h ts f (.int j) s v else woB h ts f (.int j) s v))) := rfl
theorem F__law_due_so_of {ds : List D} {R : D → Prop} {Rx : Er → Prop} (z : F__law_due_so ds R Rx) : ∃ (xs : List D) (h : Int) (f : D) (j : Int) (s : D) (v : D) (g : Bool), ds = [.lst xs, .tup [.int h, f, .int j, s], v, .bl g] ∧ (∃ ts, asInts xs = some ts ∧ RowOk h ts ∧ ts.length ≤ 20 ∧ 0 ≤ j ∧ j < h ∧ f.flat = true ∧ f.dat = true ∧ s.flat = true ∧ s.dat = true ∧ Bent v ∧ R (.bl (if g = true then nwB h ts f (.int j) s v else woB h ts f (.int j) s v))) := by
  unfold F__law_due_so at z
  split at z
  · exact ⟨_, _, _, _, _, _, _, rfl, z⟩
  · exact z.elim
def b__law_due_so (Dx : Df K mg "_law_due_so" s__law_due_so) : Binds K Dx.fd ["_law_row", "_law_question_here", "_law_values_y", "_law_is_good"] [] := Dx.F.bindsN fun _ _ _ _ _ _ us hl => match us, hl with | [_, _, _, _], _ => rfl
def n__law_due_so : List Str := ["_law_row", "_law_question_here", "_law_values_y", "_law_is_good", "_law_hands_here", "_law_first", "_law_other_y", "_law_size", "_law_due", "_law_ray"]
theorem sc__law_due_so : FnScope n__law_due_so ["_law_row", "_law_question_here", "_law_values_y", "_law_is_good"] (defScope s__law_due_so) := ⟨rfl, rfl, rfl, by decide +kernel, rfl, by decide +kernel, by decide +kernel⟩
def dgN51 : Array Lean.Name := dgN50 ++ #[`F__law_numbers_so_is, `F__law_due_so_is]
local macro_rules | `(tactic| walk_at "dg") => do let xs ← dgN51.mapM fun n => `(Lean.Parser.Tactic.simpLemma| $(Lean.mkIdent n):term); `(tactic| simp only [$xs,*, List.getElem?_cons_zero, List.getElem?_cons_succ])
theorem ok__law_due_so (T : Tx mg) (D__law_due_so : Df K mg "_law_due_so" s__law_due_so) (D__law_numbers_so : Df K mg "_law_numbers_so" s__law_numbers_so) (D__law_rays : Df K mg "_law_rays" s__law_rays) (D__law_choose : Df K mg "_law_choose" s__law_choose) (D__law_gain : Df K mg "_law_gain" s__law_gain) (D__law_signs : Df K mg "_law_signs" s__law_signs) (D__law_of_class : Df K mg "_law_of_class" s__law_of_class) (D__law_minus : Df K mg "_law_minus" s__law_minus) : FnOk P w K mg base (L2.CX P w) 8 D__law_due_so.f D__law_due_so.fd ["_law_row", "_law_question_here", "_law_values_y", "_law_is_good"] (spD F__law_due_so) := by
  have G__law_numbers_so := ok__law_numbers_so (P := P) (w := w) (base := base) T D__law_numbers_so
  have G__law_rays := ok__law_rays (P := P) (w := w) (base := base) T D__law_rays D__law_choose
  have G__law_gain := ok__law_gain (P := P) (w := w) (base := base) T D__law_gain D__law_signs
  have G__law_of_class := ok__law_of_class (P := P) (w := w) (base := base) T D__law_of_class D__law_minus
  refine fn_d D__law_due_so.F sc__law_due_so (fun ds R Rx hs0 => ?_) (fun cdv A outer s H E hr => have hu := hr.units
    (ds_cons (s_asg (d_var 1) (g_tup (n := 4) rfl (gs_cons (g_name (i := 4) sc__law_due_so.nd) (gs_cons (g_name (i := 5) sc__law_due_so.nd) (gs_cons (g_name (i := 6) sc__law_due_so.nd) (gs_cons (g_name (i := 7) sc__law_due_so.nd) gs_nil))))))
    (ds_cons (s_if (dw_pt (dw_or (dt_not (dt_tru (d_call G__law_numbers_so (hr.mono (by decide)) D__law_numbers_so.g D__law_numbers_so.F.kp (b__law_numbers_so D__law_numbers_so) .nil dfR_nil pass_d (da_cons (d_ofF (f_lst (da_cons (d_var 5) (da_cons (d_var 7) da_nil)))) da_nil)))) (dw_or (dt_not (dt_chain c_le c_lt d_int (d_var 5) (d_var 4))) (dw_or1 (dt_not (dt_chain c_le c_le d_int (d_var 7) d_int)))))) (ds_one (s_ret d_bl)) ds_nil)
    (ds_cons (s_if (dw_pt (dw_or (dt_not (dt_tru (d_call G__law_numbers_so (hr.mono (by decide)) D__law_numbers_so.g D__law_numbers_so.F.kp (b__law_numbers_so D__law_numbers_so) .nil dfR_nil pass_d (da_cons (d_var 2) da_nil)))) (dw_or1 (dt_cmp (c_ne hu) (d_callB b_len T.m_len boot_len (da_cons (d_var 2) da_nil)) (d_callB b_len T.m_len boot_len (da_cons (d_var 0) da_nil)) (nomark _))))) (ds_one (s_ret d_bl)) ds_nil)
    (ds_cons (s_if (dt_tru (d_var 3)) (ds_cons (s_setLc (i := 8) rfl sc__law_due_so.nd (i_list (d_call G__law_rays (hr.mono (by decide)) D__law_rays.g D__law_rays.F.kp (b__law_rays D__law_rays) .nil dfR_nil pass_d (da_cons (d_callB b_len T.m_len boot_len (da_cons (d_var 0) da_nil)) (da_cons (d_var 7) da_nil)))) (blkOk_by (own := [("_law_ray", 9)]) (N := n__law_due_so) (sc := defScope s__law_due_so) (by decide +kernel)) (by decide) (fun _ _ _ _ _ => (g_name (i := 9) sc__law_due_so.nd)) (fun _ _ _ _ _ => dts_nil) (fun _ _ _ _ _ => (d_call G__law_gain (hr.mono (by decide)) D__law_gain.g D__law_gain.F.kp (b__law_gain D__law_gain) .nil dfR_nil passL (da_cons (d_var 0) (da_cons (d_var 5) (da_cons (d_var 6) (da_cons (d_var 9) da_nil)))))))
        (ds_one (s_ret (d_and (d_cmp (c_eq hu) (d_var 2) (d_var 8) (nomark _)) (d_one (d_cmp c_ge (d_callB (b_min1 rfl) T.m_min PyProof.Rows.boot_min (da_cons (d_var 8) da_nil)) d_int (nomark _))))))) ds_nil)
    (ds_one (s_ret (d_and (d_call G__law_of_class (hr.mono (by decide)) D__law_of_class.g D__law_of_class.F.kp (b__law_of_class D__law_of_class) .nil dfR_nil pass_d (da_cons (d_var 2) (da_cons (d_var 7) da_nil))) (d_one (d_cmp c_lt (d_call G__law_gain (hr.mono (by decide)) D__law_gain.g D__law_gain.F.kp (b__law_gain D__law_gain) .nil dfR_nil pass_d (da_cons (d_var 0) (da_cons (d_var 5) (da_cons (d_var 6) (da_cons (d_var 2) da_nil))))) d_int (nomark _)))))))))) ) fun ds R Rx hs0 => ?_
  · obtain ⟨_, _, _, _, _, _, _, rfl, _⟩ := F__law_due_so_of hs0
    rfl
  · obtain ⟨xs, h, f, j, s, v, g, rfl, hs⟩ := F__law_due_so_of hs0
    clear hs0
    simp only [n__law_due_so]
    obtain ⟨ts, e, ok, hl, j0, j1, ff, fd, sf, sd, bv, hR⟩ := hs
    obtain rfl := asInts_eq e
    clear e
    refine seq_step fun N1 hN1 => ?_
    walk_at "dg"
    refine hN1 _ ?_
    clear hN1 N1
    refine seq_step fun N1 hN1 => ?_
    refine if_step fun U W hU hW => ?_
    walk_at "dg"
    have no : (isNum f 0 (h - 1) && isNum s 0 200) = false → R (.bl false) := fun z => by
      have z2 : (decide (ts.length ≤ 200) && (isNum f 0 (h - 1) && isNum (.int j) 0 (h - 1)) && isNum s 0 200) = false := by
        revert z
        cases isNum f 0 (h - 1) <;> cases isNum s 0 200 <;> simp
      have e : (if g = true then nwB h ts f (.int j) s v else woB h ts f (.int j) s v) = false := by
        cases g
        · exact wo_fit z2
        · exact nw_fit z2
      rw [e] at hR
      exact hR
    have lf : f.dep ≤ 3 ∧ s.dep ≤ 3 := by
      constructor
      · cases f <;> first | exact (Bool.false_ne_true ff).elim | exact Nat.le_of_ble_eq_true rfl
      · cases s <;> first | exact (Bool.false_ne_true sf).elim | exact Nat.le_of_ble_eq_true rfl
    refine ⟨⟨fd, sd⟩, by show 2 ≤ 5000; decide, by omega, fun z => hU _ _ (no ?_), fun z => ?_⟩
    · cases f <;> cases s <;> first | exact (Bool.false_ne_true ff).elim | exact (Bool.false_ne_true sf).elim | exact Bool.noConfusion z | rfl | (simp [isNum])
    obtain ⟨i, rfl⟩ : ∃ i : Int, f = .int i := by
      cases f <;> first | exact ⟨_, rfl⟩ | exact (Bool.false_ne_true z).elim
    obtain ⟨n, rfl⟩ : ∃ i : Int, s = .int i := by
      cases s <;> first | exact ⟨_, rfl⟩ | exact (Bool.false_ne_true z).elim
    walk_at "dg"
    have no2 : ¬ (0 ≤ i ∧ i < h ∧ 0 ≤ n ∧ n ≤ 200) → R (.bl false) := fun y => no (by
      simp only [isNum, Bool.and_eq_false_iff, decide_eq_false_iff_not]
      omega)
    refine ⟨fun i0 => ⟨fun y => hU _ _ (no2 (by omega)), fun i1 => ⟨fun n0 => ⟨fun y => hU _ _ (no2 (by omega)), fun n1 => hW _ _ ?_⟩, fun y => hU _ _ (no2 (by omega))⟩⟩, fun y => hU _ _ (no2 (by omega))⟩
    clear hU hW U W no no2 z lf ff fd sf sd
    refine hN1 _ ?_
    clear hN1 N1
    refine seq_step fun N1 hN1 => ?_
    refine if_step fun U W hU hW => ?_
    walk_at "dg"
    have z2 : isNum (.int i) 0 (h - 1) = true := by simp [isNum]; omega
    have z3 : isNum (.int j) 0 (h - 1) = true := by simp [isNum]; omega
    have z4 : isNum (.int n) 0 200 = true := by simp [isNum]; omega
    obtain ⟨b1, b2, b3, b4⟩ := bv
    have nl : numsSo v = false → R (.bl false) := fun z => by
      have e : (if g = true then nwB h ts (.int i) (.int j) (.int n) v else woB h ts (.int i) (.int j) (.int n) v) = false := by
        cases v <;> try (cases g <;> rfl)
        rename_i xs
        have z : (!xs.isEmpty && xs.all isInt) = false := z
        cases za : xs.all isInt with
        | false =>
          cases g
          · exact wo_num (q := .lst xs) za
          · exact nw_num (q := .lst xs) za
        | true =>
          rw [za, Bool.and_true] at z
          obtain rfl : xs = [] := by
            cases xs with
            | nil => rfl
            | cons _ _ => cases z
          have l0 := ok.2.2.1
          have o1 : ([] : List D) = ([] : List Int).map D.int := rfl
          rw [o1]
          cases g
          · rw [if_neg Bool.false_ne_true, wo_val (by omega) z2 z3 z4, decide_eq_false (by show ¬ 0 = ts.length; omega)]
            rfl
          · rw [if_pos rfl, nw_val (by omega) z2 z3 z4, decide_eq_false (fun y => by
              have := congrArg List.length y
              rw [gain_len (by omega)] at this
              have : 0 = ts.length := this
              omega)]
            rfl
      rw [e] at hR
      exact hR
    have ln : lenD v ≤ 5000 := by
      cases v <;> first | exact Nat.zero_le _ | exact b1.elim | exact b1.2
    refine ⟨b1.dat, ln, by omega, fun z => hU _ _ (nl z), fun z => ?_⟩
    cases v <;> try exact (Bool.false_ne_true z).elim
    rename_i xs
    obtain ⟨ns, rfl⟩ := ivs_of (show xs.all isInt = true by
      have z : (!xs.isEmpty && xs.all isInt) = true := z
      rw [Bool.and_eq_true] at z
      exact z.2)
    rw [nw_val (by omega) z2 z3 z4, wo_val (by omega) z2 z3 z4] at hR
    have b5 : ∀ m ∈ ns, m.natAbs < P20 := fun m hm => b4 _ rfl (.int m) (List.mem_map_of_mem hm) m rfl
    have l0 := ok.2.2.1
    have gln := gain_len (a := i) (b := j) (ts := ts) (K := min n.toNat (ts.length - 1)) (by omega)
    have hnl : ns.length ≤ 5000 := by
      have : (ns.map D.int).length ≤ 5000 := ln
      rw [List.length_map] at this
      exact this
    walk_at "dg"
    refine ⟨fun y => hU _ _ ?_, fun y => hW _ _ ?_⟩
    · have e1 : ¬ ns = gainL (min n.toNat (ts.length - 1)) (sgn i j ts) := fun e => by rw [e, gln] at y; exact y rfl
      have e2 : ¬ ns.length = ts.length := fun e => y (by rw [e])
      rw [decide_eq_false e1, decide_eq_false e2] at hR
      cases g <;> exact hR
    have y : ns.length = ts.length := by omega
    rw [decide_eq_true y, Bool.true_and] at hR
    clear hU hW U W nl b1 b2 b3 b4 z
    refine hN1 _ ?_
    clear hN1 N1
    refine seq_step fun N1 hN1 => ?_
    refine if_step fun U W hU hW => ?_
    walk_at "dg"
    refine ⟨fun eg => hU _ _ ?_, fun eg => hW _ _ ?_⟩
    · subst eg
      rw [if_pos rfl] at hR
      refine seq_step fun N2 hN2 => ?_
      walk_at "dg"
      refine ⟨by omega, by omega, n0, by omega, ?_⟩
      rw [Int.toNat_natCast]
      generalize hKk : min n.toNat (ts.length - 1) = K at hR gln
      have hK : K < ts.length := by omega
      refine LcP.of (fun q => .int (dotR ts.length (sgn i j ts) (ray ts.length K q))) (by rw [List.length_range, sizeLine_eq]; omega) (fun m q N e hN => ?_) ?_
      · have hj : q < ts.length := List.mem_range.mp (List.mem_of_getElem? e)
        unfold rowD
        walk_at "dg"
        refine ⟨by omega, fun w hw => ?_, ?_⟩
        · obtain ⟨i2, hi2, rfl⟩ := List.mem_map.mp hw
          exact ray_bits (by omega) hj
        · rw [dotR_congr (g := ray ts.length K q) fun i hi => getD_range hi]
          exact hN
      rw [gain_law hK]
      refine hN2 _ ?_
      clear hN2 N2
      generalize gainL K (sgn i j ts) = gs at *
      walk_at "dg"
      refine ⟨datL_ints, datL_ints, by have := depL_ints (ns := ns); omega, fun e => ⟨by omega, fun m hm hle => ?_⟩, fun e => ?_⟩
      · rw [decide_eq_true e, Bool.true_and, e] at hR
        have e2 : (!gs.any fun x => decide (x < 0)) = decide (0 ≤ m) := by
          by_cases q : 0 ≤ m
          · rw [decide_eq_true q, any_nn.mpr fun x hx => by have := hle x hx; omega]
            rfl
          · rw [decide_eq_false q]
            cases za : gs.any fun x => decide (x < 0) with
            | true => rfl
            | false => exact absurd (any_nn.mp za m hm) q
        rw [e2] at hR
        exact hR
      · rw [decide_eq_false e, Bool.false_and] at hR
        exact hR
    · subst eg
      rw [if_neg Bool.false_ne_true] at hR
      clear hU hW U W
      refine hN1 _ ?_
      clear hN1 N1
      walk_at "dg"
      rw [y]
      refine ⟨by omega, by omega, n0, n1, fun z => ⟨by omega, by omega, fun m hm => Nat.lt_trans (b5 m hm) p20, ?_⟩, fun z => ?_⟩
      · have ts1 := tot_sub (a := i) (b := j) y ts.length (Nat.le_refl _)
        rw [List.take_of_length_le (Nat.le_refl _), List.take_of_length_le (by omega)] at ts1
        rw [← ts1]
        rw [z, Bool.true_and] at hR
        have e : decide (tot ts ns i - tot ts ns j < 0) = decide (tot ts ns i < tot ts ns j) := by
          by_cases q : tot ts ns i < tot ts ns j
          · rw [decide_eq_true q, decide_eq_true (by omega)]
          · rw [decide_eq_false q, decide_eq_false (by omega)]
        rw [e]
        exact hR
      · rw [z, Bool.false_and] at hR
        exact hR
def smX : D → Bool
  | .tup [.int a, .int b] => decide (a.natAbs < 2 ^ 60) && decide (b.natAbs < 2 ^ 60)
  | .tup xs => decide (xs.length ≤ 100)
  | .lst xs => decide (xs.length ≤ 100)
  | _ => true
theorem p60 {a : Nat} (h : a < 2 ^ 60) : a < 2 ^ 1000 := Nat.lt_trans h (Nat.pow_lt_pow_right (by decide) (by decide))
theorem smX_of {x : D} (h : smX x = true) : FrB x ∧ lenD x ≤ 100000 := by
  unfold smX at h
  split at h
  · rw [Bool.and_eq_true] at h
    refine ⟨fun a b e => ?_, show 2 ≤ 100000 by decide⟩
    cases e
    exact ⟨p60 (of_decide_eq_true h.1), p60 (of_decide_eq_true h.2)⟩
  · rename_i xs hx
    refine ⟨fun a b e => ?_, Nat.le_trans (of_decide_eq_true h) (by decide)⟩
    cases e
    exact (hx a b rfl).elim
  · refine ⟨fun a b e => (nomatch e), ?_⟩
    exact Nat.le_trans (of_decide_eq_true h) (show 100 ≤ 100000 by decide)
  · rename_i h1 h2 h3
    refine ⟨fun a b e => ?_, ?_⟩
    · subst e
      exact (h1 a b rfl).elim
    · cases x <;> first | exact Nat.zero_le _ | exact (h2 _ rfl).elim | exact (h3 _ rfl).elim
theorem qb_ck {xs : List D} (h : xs.all smX = true) (hl : (lcmP (xs.map frOf)).natAbs < 2 ^ 60) : QB (.lst xs) := fun ys e => by
  cases e
  exact ⟨fun x hx => smX_of (List.all_eq_true.mp h x hx), Nat.lt_trans hl (Nat.pow_lt_pow_right (by decide) (by decide))⟩
def F__law_long_papers_so : Spec
  | [], R, Rx => R (.bl true)
  | _, _, _ => False
theorem F__law_long_papers_so_is {R : D → Prop} {Rx : Er → Prop} : F__law_long_papers_so [] R Rx = (R (.bl true)) := rfl
theorem F__law_long_papers_so_of {ds : List D} {R : D → Prop} {Rx : Er → Prop} (z : F__law_long_papers_so ds R Rx) : ds = [] ∧ (R (.bl true)) := by
  unfold F__law_long_papers_so at z
  split at z
  · exact ⟨rfl, z⟩
  · exact z.elim
def b__law_long_papers_so (Dx : Df K mg "_law_long_papers_so" s__law_long_papers_so) : Binds K Dx.fd [] [] := Dx.F.bindsN fun _ _ _ _ _ _ us hl => match us, hl with | [], _ => rfl
def n__law_long_papers_so : List Str := ["_law_found", "_law_many", "_law_row"]
theorem sc__law_long_papers_so : FnScope n__law_long_papers_so [] (defScope s__law_long_papers_so) := ⟨rfl, rfl, rfl, by decide +kernel, rfl, by decide +kernel, by decide +kernel⟩
theorem ok__law_long_papers_so (T : Tx mg) (K_Row : Kx_Row K mg) (K_NeverWorse : Kx_NeverWorse K mg P.main.file) (K_Worse : Kx_Worse K mg P.main.file) (K_Gain : Kx_Gain K mg P.main.file) (X_InvalidHands : Xe K mg P.main.file "InvalidHands" s_InvalidHands___init__) (X_InvalidTurn : Xe K mg P.main.file "InvalidTurn" s_InvalidTurn___init__) (X_InvalidWorths : Xe K mg P.main.file "InvalidWorths" s_InvalidWorths___init__) (D__law_long_papers_so : Df K mg "_law_long_papers_so" s__law_long_papers_so) (D_check_hands : Df K mg "check_hands" s_check_hands) (D_is_number : Df K mg "is_number" s_is_number) (D_as_list : Df K mg "as_list" s_as_list) (D_copied : Df K mg "copied" s_copied) (D_are_hands : Df K mg "are_hands" s_are_hands) (D_are_numbers : Df K mg "are_numbers" s_are_numbers) (D_gains_of : Df K mg "gains_of" s_gains_of) (D_summed : Df K mg "summed" s_summed) (D_are_of_class : Df K mg "are_of_class" s_are_of_class) (D_differences : Df K mg "differences" s_differences) (D_is_fraction : Df K mg "is_fraction" s_is_fraction) (D_lowest : Df K mg "lowest" s_lowest) (D_divisor : Df K mg "divisor" s_divisor) (D__law_same : Df K mg "_law_same" s__law_same) (hsup : mg "super" = none) (htop : (P.main.scope.names.lookup ("super" : Str)).isSome = false) : FnOk P w K mg base (L2.CX P w) 16 D__law_long_papers_so.f D__law_long_papers_so.fd [] (spD F__law_long_papers_so) := by
  have G_Row___init__ := ok_Row___init__ (P := P) (w := w) (base := base) T K_Row D_check_hands D_is_number X_InvalidHands X_InvalidTurn hsup htop
  have G_NeverWorse___init__ := ok_NeverWorse___init__ (P := P) (w := w) (base := base) T K_NeverWorse D_as_list D_copied hsup htop
  have G_NeverWorse_holds := ok_NeverWorse_holds (P := P) (w := w) (base := base) T K_NeverWorse K_Row D_are_hands D_is_number D_are_numbers D_gains_of D_summed
  have G_Worse___init__ := ok_Worse___init__ (P := P) (w := w) (base := base) T K_Worse D_as_list D_copied hsup htop
  have G_Worse_holds := ok_Worse_holds (P := P) (w := w) (base := base) T K_Worse K_Row X_InvalidWorths D_are_hands D_is_number D_are_numbers D_are_of_class D_differences hsup htop
  have G_Gain___init__ := ok_Gain___init__ (P := P) (w := w) (base := base) T K_Gain D_copied D_as_list hsup htop
  have G_Gain_holds := ok_Gain_holds (P := P) (w := w) (base := base) T K_Gain K_Row X_InvalidWorths D_are_hands D_is_number D_is_fraction D_are_numbers D_lowest D_divisor D_are_of_class D_differences hsup htop
  have G__law_same := ok__law_same (P := P) (w := w) (base := base) ⟨T.m_isinstance, T.m_list, T.m_tuple, T.m_bool, T.m_int, T.m_str, T.m_len, T.m_all, T.m_zip⟩ D__law_same 6
  refine fn_d D__law_long_papers_so.F sc__law_long_papers_so (fun ds R Rx hs0 => ?_) (fun cdv A outer s H E hr => have hu := hr.units
    (ds_cons (s_setO (i := 0) sc__law_long_papers_so.nd (f_lst da_nil))
    (ds_cons (s_for (passes_of rfl) rfl (i_tup (d_tup (da_cons d_int (da_cons d_int da_nil)))) (g_name (i := 1) sc__law_long_papers_so.nd)
      (ds_cons (s_set (i := 2) sc__law_long_papers_so.nd (d_make K_Row.mkr G_Row___init__ (hr.mono (by decide)) K_Row.g (b_Row___init__ K_Row.D___init__) pass_d (da_cons d_int (da_cons (d_mul (d_ofF (f_lst (da_cons d_int da_nil))) (d_var 1)) da_nil))))
        (ds_cons (s_app 0 (d_meth (d_make K_NeverWorse.mkr G_NeverWorse___init__ (hr.mono (by decide)) K_NeverWorse.g (b_NeverWorse___init__ K_NeverWorse.D___init__) pass_d (da_cons d_int (da_cons d_int (da_cons d_int (da_cons (d_mul (d_ofF (f_lst (da_cons d_int da_nil))) (d_var 1)) da_nil))))) K_NeverWorse.cls K_NeverWorse.h_holds G_NeverWorse_holds (hr.mono (by decide)) (b_NeverWorse_holds K_NeverWorse.D_holds) pass_d (da_cons (d_var 2) da_nil)) (hp := fun h => pe_bm PySem.F.plainAttrs_list PySem.F.slot_list_append PySem.F.type_list_append mt_append (pv 0) (pa_cons h pa_nil)))
        (ds_cons (s_app 0 (d_meth (d_make K_Worse.mkr G_Worse___init__ (hr.mono (by decide)) K_Worse.g (b_Worse___init__ K_Worse.D___init__) pass_d (da_cons d_int (da_cons d_int (da_cons d_int (da_cons (d_add (d_ofF (f_lst (da_cons d_int da_nil))) (d_mul (d_ofF (f_lst (da_cons d_int da_nil))) (d_sub (d_var 1) d_int))) da_nil))))) K_Worse.cls K_Worse.h_holds G_Worse_holds (hr.mono (by decide)) (b_Worse_holds K_Worse.D_holds) pass_d (da_cons (d_var 2) da_nil)) (hp := fun h => pe_bm PySem.F.plainAttrs_list PySem.F.slot_list_append PySem.F.type_list_append mt_append (pv 0) (pa_cons h pa_nil)))
        (ds_one (s_app 0 (d_meth (d_ofP (d_makeN K_Gain.mkr G_Gain___init__ (hr.mono (by decide)) K_Gain.g (b_Gain___init__ K_Gain.D___init__) pass_d (da_cons d_int (da_cons d_int (da_cons d_int (da_cons (d_tup (da_cons d_int (da_cons d_int da_nil))) (da_cons (d_add (d_ofF (f_lst (da_cons (d_tup (da_cons d_int (da_cons d_int da_nil))) da_nil))) (d_mul (d_ofF (f_lst (da_cons (d_tup (da_cons d_int (da_cons d_int da_nil))) da_nil))) (d_sub (d_var 1) d_int))) da_nil))))))) K_Gain.cls K_Gain.h_holds G_Gain_holds (hr.mono (by decide)) (b_Gain_holds K_Gain.D_holds) pass_d (da_cons (d_var 2) da_nil)) (hp := fun h => pe_bm PySem.F.plainAttrs_list PySem.F.slot_list_append PySem.F.type_list_append mt_append (pv 0) (pa_cons h pa_nil))))))))
    (ds_one (s_frz 0 (s_ret (d_call G__law_same (hr.mono (by decide)) D__law_same.g D__law_same.F.kp (b__law_same D__law_same) .nil dfR_nil pass_d (da_cons (d_var 0) (da_cons (d_add (d_mul (d_ofF (f_lst (da_cons d_bl da_nil))) d_int) (d_mul (d_ofF (f_lst (da_cons d_bl da_nil))) d_int)) da_nil)))))))) ) fun ds R Rx hs0 => ?_
  · obtain ⟨rfl, _⟩ := F__law_long_papers_so_of hs0
    rfl
  · obtain ⟨rfl, hs⟩ := F__law_long_papers_so_of hs0
    clear hs0
    simp only [n__law_long_papers_so]
    refine seq_step fun N1 hN1 => ?_
    walk_at "dg"
    refine hN1 _ ?_
    clear hN1 N1
    refine seq_step fun N1 hN1 => for_step fun B1 hB1 => ?_
    walk_at "dg"
    refine ⟨fun i env => ∃ e1 e2 : Option DV, env = [some (.own ((List.replicate (min i 1 * 3) (D.bl true)) ++ (List.replicate ((i - 1) * 3) (D.bl false)))), e1, e2], ⟨_, _, rfl⟩, ?_, ?_⟩
    · rintro i d env ed ⟨e1, e2, rfl⟩
      refine hB1 _ _ ?_
      clear hB1
      obtain ⟨n, rfl, n2, n3⟩ : ∃ n : Nat, d = .int (n : Nat) ∧ (i = 0 ∧ n = 200 ∨ i = 1 ∧ n = 201) ∧ 200 ≤ n := by
        rcases i with _ | _ | i
        · exact ⟨200, (Option.some.inj ed).symm, .inl ⟨rfl, rfl⟩, by decide⟩
        · exact ⟨201, (Option.some.inj ed).symm, .inr ⟨rfl, rfl⟩, by decide⟩
        · cases ed
      have ok : RowOk 2 (List.replicate n (0 : Int)) := ⟨by decide, by decide, by rw [List.length_replicate]; omega, by rw [List.length_replicate]; omega, fun t ht => by rw [List.eq_of_mem_replicate ht]; decide⟩
      have rp : (List.replicate ((n : Nat) : Int).toNat [D.int 0]).flatten = (List.replicate n (0 : Int)).map D.int := by
        rw [List.flatten_replicate_singleton, Int.toNat_natCast, List.map_replicate]
      clear ed
      refine seq_step fun N1 hN1 => ?_
      walk_at "dg"
      rw [rp]
      refine ⟨by omega, by omega, by omega, initX_good ok ?_⟩
      have fa : nwB 2 (List.replicate n 0) (.int 0) (.int 0) (.int 0) (.lst ((List.replicate n (0 : Int)).map D.int)) = decide (n ≤ 200) := by
        rcases n2 with ⟨rfl, rfl⟩ | ⟨rfl, rfl⟩ <;> decide +kernel
      have fb : woB 2 (List.replicate n 0) (.int 1) (.int 0) (.int 0) (.lst (.int 1 :: (List.replicate (n - 1) (0 : Int)).map D.int)) = decide (n ≤ 200) := by
        rcases n2 with ⟨rfl, rfl⟩ | ⟨rfl, rfl⟩ <;> decide +kernel
      have fc : gainB 2 (List.replicate n 0) (.int 0) (.int 1) (.int 1) (.tup [.int 1, .int 1]) (.lst (.tup [.int 1, .int 1] :: List.replicate (n - 1) (.tup [.int 0, .int 1]))) = decide (n ≤ 200) := by
        rcases n2 with ⟨rfl, rfl⟩ | ⟨rfl, rfl⟩ <;> decide +kernel
      have rq : (List.replicate (((n : Nat) : Int) - 1).toNat [D.int 0]).flatten = (List.replicate (n - 1) (0 : Int)).map D.int := by
        rw [List.flatten_replicate_singleton, show (((n : Nat) : Int) - 1).toNat = n - 1 by omega, List.map_replicate]
      have rt : (List.replicate (((n : Nat) : Int) - 1).toNat [D.tup [.int 0, .int 1]]).flatten = List.replicate (n - 1) (D.tup [.int 0, .int 1]) := by
        rw [List.flatten_replicate_singleton, show (((n : Nat) : Int) - 1).toNat = n - 1 by omega]
      have hlen : (List.replicate n (0 : Int)).length = n := List.length_replicate
      have n4 : n ≤ 201 := by omega
      refine hN1 _ ?_
      clear hN1 N1
      refine seq_step fun N1 hN1 => ?_
      walk_at "dg"
      rw [rp, fa]
      refine ⟨by omega, by omega, by omega, good_ints (n := 3) (by rw [hlen]; omega), ok, ⟨datL_ints, by rw [List.length_map, hlen]; omega⟩, by have := depL_ints (ns := List.replicate n (0 : Int)); omega, by rw [List.length_replicate, List.length_replicate]; omega, ?_⟩
      refine hN1 _ ?_
      clear hN1 N1
      refine seq_step fun N1 hN1 => ?_
      walk_at "dg"
      rw [rq, fb]
      have hz : (List.replicate (min i 1 * 3) (D.bl true)).length + (List.replicate ((i - 1) * 3) (D.bl false)).length ≤ 6 := by
        rw [List.length_replicate, List.length_replicate]
        omega
      have hl1 : ((List.replicate (n - 1) (0 : Int)).map D.int).length = n - 1 := by rw [List.length_map, List.length_replicate]
      have dl := depL_ints (ns := List.replicate (n - 1) (0 : Int))
      refine ⟨by omega, by omega, by omega, by rw [hl1]; omega, ⟨by rw [hl1]; omega, fun x hx => ?_⟩, ok, ⟨datL_ints, by rw [List.length_cons, hl1]; omega⟩, by omega, by omega, ?_⟩
      · obtain ⟨z, _, rfl⟩ := List.mem_map.mp hx
        trivial
      refine hN1 _ ?_
      clear hN1 N1
      walk_at "dg"
      rw [rt, fc]
      have fq : QB (.lst (.tup [.int 1, .int 1] :: List.replicate (n - 1) (.tup [.int 0, .int 1]))) := by
        rcases n2 with ⟨rfl, rfl⟩ | ⟨rfl, rfl⟩ <;> exact qb_ck (by decide +kernel) (by decide +kernel)
      have hl2 : (List.replicate (n - 1) (D.tup [.int 0, .int 1])).length = n - 1 := List.length_replicate
      refine ⟨by omega, by omega, by omega, by omega, ⟨by omega, fun x hx => ?_⟩, ok, (smX_of rfl).1, (smX_of rfl).2, ⟨?_, by rw [List.length_cons]; omega⟩, fq, by omega, ?_⟩
      · rw [List.eq_of_mem_replicate hx]
        exact ⟨by decide, fun y hy => by
          simp only [List.mem_cons, List.not_mem_nil, or_false] at hy
          rcases hy with rfl | rfl <;> trivial⟩
      · refine datL_of fun x hx => ?_
        rcases List.mem_cons.mp hx with rfl | hx
        · rfl
        · rw [List.eq_of_mem_replicate hx]
          rfl
      · rcases n2 with ⟨rfl, rfl⟩ | ⟨rfl, rfl⟩
        · rfl
        · rfl
    · rintro env ⟨e1, e2, rfl⟩
      refine hN1 _ ?_
      clear hN1 hB1 N1
      walk_at "dg"
      exact ⟨by decide, by decide, by decide, rfl, ⟨by decide, fun x hx => by
        rcases List.mem_append.mp hx with hx | hx <;> (rw [List.eq_of_mem_replicate hx]; trivial)⟩, hs⟩
def F__law_gain_alone_so (CR : Addr) : Spec
  | [r], R, Rx => r = row CR 2 [0, 1, 1, 0] ∧ R (.bl true)
  | _, _, _ => False
theorem F__law_gain_alone_so_is {CR : Addr} {r : D} {R : D → Prop} {Rx : Er → Prop} : F__law_gain_alone_so CR [r] R Rx = (r = row CR 2 [0, 1, 1, 0] ∧ R (.bl true)) := rfl
theorem F__law_gain_alone_so_of {CR : Addr} {ds : List D} {R : D → Prop} {Rx : Er → Prop} (z : F__law_gain_alone_so CR ds R Rx) : ∃ (r : D), ds = [r] ∧ (r = row CR 2 [0, 1, 1, 0] ∧ R (.bl true)) := by
  unfold F__law_gain_alone_so at z
  split at z
  · exact ⟨_, rfl, z⟩
  · exact z.elim
def b__law_gain_alone_so (Dx : Df K mg "_law_gain_alone_so" s__law_gain_alone_so) : Binds K Dx.fd ["_law_made"] [] := Dx.F.bindsN fun _ _ _ _ _ _ us hl => match us, hl with | [_], _ => rfl
def n__law_gain_alone_so : List Str := ["_law_made", "_law_late", "_law_held", "_law_rest", "_law_found", "_law_bad", "_law_one_z"]
theorem sc__law_gain_alone_so : FnScope n__law_gain_alone_so ["_law_made"] (defScope s__law_gain_alone_so) := ⟨rfl, rfl, rfl, by decide +kernel, rfl, by decide +kernel, by decide +kernel⟩
theorem ok__law_gain_alone_so (T : Tx mg) (K_Gain : Kx_Gain K mg P.main.file) (K_Row : Kx_Row K mg) (X_InvalidWorths : Xe K mg P.main.file "InvalidWorths" s_InvalidWorths___init__) (D__law_gain_alone_so : Df K mg "_law_gain_alone_so" s__law_gain_alone_so) (D_copied : Df K mg "copied" s_copied) (D_as_list : Df K mg "as_list" s_as_list) (D_are_hands : Df K mg "are_hands" s_are_hands) (D_is_number : Df K mg "is_number" s_is_number) (D_is_fraction : Df K mg "is_fraction" s_is_fraction) (D_are_numbers : Df K mg "are_numbers" s_are_numbers) (D_lowest : Df K mg "lowest" s_lowest) (D_divisor : Df K mg "divisor" s_divisor) (D_are_of_class : Df K mg "are_of_class" s_are_of_class) (D_differences : Df K mg "differences" s_differences) (D__law_same : Df K mg "_law_same" s__law_same) (hsup : mg "super" = none) (htop : (P.main.scope.names.lookup ("super" : Str)).isSome = false) : FnOk P w K mg base (L2.CX P w) 16 D__law_gain_alone_so.f D__law_gain_alone_so.fd ["_law_made"] (spD (F__law_gain_alone_so K_Row.C)) := by
  have G_Gain___init__ := ok_Gain___init__ (P := P) (w := w) (base := base) T K_Gain D_copied D_as_list hsup htop
  have G_Gain_worths := ok_Gain_worths (P := P) (w := w) (base := base) T K_Gain D_copied
  have G_Gain_holds := ok_Gain_holds (P := P) (w := w) (base := base) T K_Gain K_Row X_InvalidWorths D_are_hands D_is_number D_is_fraction D_are_numbers D_lowest D_divisor D_are_of_class D_differences hsup htop
  have G__law_same := ok__law_same (P := P) (w := w) (base := base) ⟨T.m_isinstance, T.m_list, T.m_tuple, T.m_bool, T.m_int, T.m_str, T.m_len, T.m_all, T.m_zip⟩ D__law_same 6
  refine fn_d D__law_gain_alone_so.F sc__law_gain_alone_so (fun ds R Rx hs0 => ?_) (fun cdv A outer s H E hr => have hu := hr.units
    (ds_cons (s_setO (i := 1) sc__law_gain_alone_so.nd (f_lst (da_cons (d_tup (da_cons d_int (da_cons d_int da_nil))) (da_cons (d_tup (da_cons d_int (da_cons d_int da_nil))) (da_cons (d_tup (da_cons d_int (da_cons d_int da_nil))) (da_cons (d_tup (da_cons d_int (da_cons d_int da_nil))) da_nil))))))
    (ds_cons (s_set (i := 2) sc__law_gain_alone_so.nd (d_ofP (p_lend (d_makeN K_Gain.mkr G_Gain___init__ (hr.mono (by decide)) K_Gain.g (b_Gain___init__ K_Gain.D___init__) pass_d (da_cons d_int (da_cons d_int (da_cons d_int (da_cons (d_tup (da_cons d_int (da_cons d_int da_nil))) (da_cons (d_var 1) da_nil)))))))))
    (ds_cons (s_clrO 1 (hp := fun ho => pe_bm0 PySem.F.plainAttrs_list PySem.F.slot_list_clear PySem.F.type_list_clear mt_clear ho))
    (ds_cons (s_appF (f_ofUNos (u_meth0 (d_var 2) K_Gain.cls K_Gain.h_worths G_Gain_worths (hr.mono (by decide)) (b_Gain_worths K_Gain.D_worths) pass_d)) d_int (hp := fun ho h => pe_bm PySem.F.plainAttrs_list PySem.F.slot_list_append PySem.F.type_list_append mt_append ho (pa_cons h pa_nil)))
    (ds_cons (s_set (i := 3) sc__law_gain_alone_so.nd (d_ofF (f_lst (da_cons (d_tup (da_cons d_int (da_cons d_int da_nil))) (da_cons (d_tup (da_cons d_int (da_cons d_int da_nil))) (da_cons (d_tup (da_cons d_int (da_cons d_int da_nil))) da_nil))))))
    (ds_cons (s_set (i := 4) sc__law_gain_alone_so.nd (d_ofF (f_lst (da_cons (d_meth (d_var 2) K_Gain.cls K_Gain.h_holds G_Gain_holds (hr.mono (by decide)) (b_Gain_holds K_Gain.D_holds) pass_d (da_cons (d_var 0) da_nil)) (da_cons (d_ofU (u_meth0 (d_var 2) K_Gain.cls K_Gain.h_worths G_Gain_worths (hr.mono (by decide)) (b_Gain_worths K_Gain.D_worths) pass_d)) (da_cons (d_meth (d_ofP (d_makeN K_Gain.mkr G_Gain___init__ (hr.mono (by decide)) K_Gain.g (b_Gain___init__ K_Gain.D___init__) pass_d (da_cons d_int (da_cons d_int (da_cons d_int (da_cons (d_tup (da_cons d_int (da_cons d_int da_nil))) (da_cons (d_add (d_ofF (f_lst (da_cons (d_tup (da_cons d_int (da_cons d_int da_nil))) da_nil))) (d_var 3)) da_nil))))))) K_Gain.cls K_Gain.h_holds G_Gain_holds (hr.mono (by decide)) (b_Gain_holds K_Gain.D_holds) pass_d (da_cons (d_var 0) da_nil)) da_nil))))))
    (ds_cons (s_set (i := 5) sc__law_gain_alone_so.nd (d_ofF (f_lst (da_cons (d_add (d_ofF (f_lst (da_cons (d_tup (da_cons d_int (da_cons d_int da_nil))) da_nil))) (d_var 3)) (da_cons (d_add (d_ofF (f_lst (da_cons (d_tup (da_cons d_int (da_cons d_int da_nil))) da_nil))) (d_var 3)) (da_cons (d_ofF (f_lst (da_cons (d_tup (da_cons d_int (da_cons d_int da_nil))) (da_cons (d_tup (da_cons d_int (da_cons d_int da_nil))) (da_cons (d_tup (da_cons d_int (da_cons d_int da_nil))) (da_cons (d_tup (da_cons d_int (da_cons d_int da_nil))) da_nil)))))) (da_cons (d_ofF (f_lst (da_cons (d_tup (da_cons d_int (da_cons d_int da_nil))) (da_cons (d_tup (da_cons d_int (da_cons d_int da_nil))) (da_cons (d_tup (da_cons d_int (da_cons d_int da_nil))) (da_cons (d_tup (da_cons d_int (da_cons (d_sub d_int d_int) da_nil))) da_nil)))))) (da_cons (d_add (d_ofF (f_lst (da_cons (d_ofF (f_lst (da_cons d_int (da_cons d_int da_nil)))) da_nil))) (d_var 3)) da_nil))))))))
    (ds_cons (s_set (i := 4) sc__law_gain_alone_so.nd (d_add (d_var 4) (d_ofF (f_lc rfl sc__law_gain_alone_so.nd (i_list (d_var 5)) (blkOk_by (own := [("_law_one_z", 6)]) (N := n__law_gain_alone_so) (sc := defScope s__law_gain_alone_so) (by decide +kernel)) (by decide) (fun _ _ _ _ _ => (g_name (i := 6) sc__law_gain_alone_so.nd)) (fun _ _ _ _ _ => dts_nil) (fun _ _ _ _ _ => (d_meth (d_ofP (d_makeN K_Gain.mkr G_Gain___init__ (hr.mono (by decide)) K_Gain.g (b_Gain___init__ K_Gain.D___init__) passL (da_cons d_int (da_cons d_int (da_cons d_int (da_cons (d_tup (da_cons d_int (da_cons d_int da_nil))) (da_cons (d_var 6) da_nil))))))) K_Gain.cls K_Gain.h_holds G_Gain_holds (hr.mono (by decide)) (b_Gain_holds K_Gain.D_holds) passL (da_cons (d_var 0) da_nil)))))))
    (ds_one (s_ret (d_call G__law_same (hr.mono (by decide)) D__law_same.g D__law_same.F.kp (b__law_same D__law_same) .nil dfR_nil pass_d (da_cons (d_var 4) (da_cons (d_add (d_ofF (f_lst (da_cons d_bl (da_cons (d_ofF (f_lst (da_cons (d_tup (da_cons d_int (da_cons d_int da_nil))) (da_cons (d_tup (da_cons d_int (da_cons d_int da_nil))) (da_cons (d_tup (da_cons d_int (da_cons d_int da_nil))) (da_cons (d_tup (da_cons d_int (da_cons d_int da_nil))) da_nil)))))) (da_cons d_bl da_nil))))) (d_mul (d_ofF (f_lst (da_cons d_bl da_nil))) d_int)) da_nil))))))))))))) ) fun ds R Rx hs0 => ?_
  · obtain ⟨_, rfl, _⟩ := F__law_gain_alone_so_of hs0
    rfl
  · obtain ⟨r, rfl, hs⟩ := F__law_gain_alone_so_of hs0
    clear hs0
    simp only [n__law_gain_alone_so]
    obtain ⟨rfl, hR⟩ := hs
    have r1 : RowOk 2 [0, 1, 1, 0] := ⟨by decide, by decide, by decide, by decide, by decide⟩
    have g1 : gainB 2 [0, 1, 1, 0] (.int 0) (.int 1) (.int 1) (.tup [.int 1, .int 2]) (.lst [.tup [.int 1, .int 2], .tup [.int 0, .int 1], .tup [.int 0, .int 1], .tup [.int 0, .int 1]]) = true := by decide +kernel
    have g2 : gainB 2 [0, 1, 1, 0] (.int 0) (.int 1) (.int 1) (.tup [.int 1, .int 1]) (.lst [.tup [.int 1, .int 1], .tup [.int 0, .int 1], .tup [.int 0, .int 1], .tup [.int 0, .int 1]]) = true := by decide +kernel
    refine seq_step fun N1 hN1 => ?_
    walk_at "dg"
    refine hN1 _ ?_
    clear hN1 N1
    refine seq_step fun N1 hN1 => ?_
    walk_at "dg"
    refine hN1 _ ?_
    clear hN1 N1
    refine seq_step fun N1 hN1 => ?_
    walk_at "dg"
    refine hN1 _ ?_
    clear hN1 N1
    refine seq_step fun N1 hN1 => ?_
    walk_at "dg"
    refine hN1 _ ?_
    clear hN1 N1
    refine seq_step fun N1 hN1 => ?_
    walk_at "dg"
    refine hN1 _ ?_
    clear hN1 N1
    refine seq_step fun N1 hN1 => ?_
    walk_at "dg"
    refine ⟨r1, (smX_of rfl).1, (smX_of rfl).2, ⟨rfl, by decide⟩, qb_ck rfl (by decide +kernel), r1, (smX_of rfl).1, (smX_of rfl).2, ⟨rfl, by decide⟩, qb_ck rfl (by decide +kernel), ?_⟩
    rw [g1, g2]
    refine hN1 _ ?_
    clear hN1 N1
    refine seq_step fun N1 hN1 => ?_
    walk_at "dg"
    refine hN1 _ ?_
    clear hN1 N1
    refine seq_step fun N1 hN1 => ?_
    walk_at "dg"
    have bad : ∀ d ∈ [D.lst [.tup [.int 2, .int 2], .tup [.int 0, .int 1], .tup [.int 0, .int 1], .tup [.int 0, .int 1]], .lst [.tup [.int 1, .int 0], .tup [.int 0, .int 1], .tup [.int 0, .int 1], .tup [.int 0, .int 1]], .lst [.tup [.int 1, .int 1], .tup [.int 0, .int 2], .tup [.int 0, .int 1], .tup [.int 0, .int 1]], .lst [.tup [.int 1, .int 1], .tup [.int 0, .int 1], .tup [.int 0, .int 1], .tup [.int 0, .int (-1)]], .lst [.lst [.int 1, .int 1], .tup [.int 0, .int 1], .tup [.int 0, .int 1], .tup [.int 0, .int 1]]], toL d = d ∧ Good 5 d ∧ Flat1 d ∧ QB d ∧ gainB 2 [0, 1, 1, 0] (.int 0) (.int 1) (.int 1) (.tup [.int 1, .int 1]) d = false := by
      intro d hd
      simp only [List.mem_cons, List.not_mem_nil, or_false] at hd
      rcases hd with rfl | rfl | rfl | rfl | rfl
      all_goals exact ⟨rfl, by walk_at "dg", ⟨rfl, by decide⟩, qb_ck rfl (by decide +kernel), by decide +kernel⟩
    refine LcP.map (fun _ => .bl false) (by rw [sizeLine_eq]; decide) (fun s d N e hN => ?_) ?_
    · obtain ⟨t1, gd, f1, q1, b1⟩ := bad d (List.mem_of_getElem? e)
      walk_at "dg"
      rw [t1, b1]
      exact ⟨gd, r1, (smX_of rfl).1, (smX_of rfl).2, f1, q1, hN⟩
    · walk_at "dg"
      refine hN1 _ ?_
      clear hN1 N1
      walk_at "dg"
      exact ⟨by decide, by decide, rfl, hR⟩
local macro_rules | `(tactic| walk_at "rk") => `(tactic| first
  | assumption
  | (refine rok_app ?_ ?_ ?_ <;> first | walk_at "rk" | (simp only [List.length_append, List.length_reverse, List.length_map, List.length_replicate]; omega))
  | (refine rok_rev ?_; walk_at "rk")
  | (refine rok_map ?_ _ (fun t => fmod_in (by assumption)); walk_at "rk")
  | omega
  | decide
  | (refine log_lt (k := 80) ?_ (by decide) (by decide); omega))
local macro_rules | `(tactic| walk_at "fin") => `(tactic| ((repeat' (first | (with_reducible assumption) | (with_reducible refine And.intro ?_ ?_) | (with_reducible intro _))); all_goals first | (with_reducible assumption) | omega | contradiction | trivial))
local macro_rules | `(tactic| walk_at "cj") => `(tactic| repeat' (refine And.intro (by walk_at "rk") ?_))
theorem log_to {n : Int} {k m : Nat} (h : n.natAbs < 2 ^ k) (hk : k ≤ m) (m0 : 0 < m) : n.natAbs.log2 < m := by
  by_cases z : n.natAbs = 0
  · rw [z]
    exact m0
  · exact Nat.lt_of_lt_of_le ((Nat.log2_lt z).mpr h) hk
theorem low_small {a b : Int} {N : Nat} (hb : 1 ≤ b) (h1 : a.natAbs < N) (h2 : b.natAbs < N) : (a / gc a b).natAbs < N ∧ (b / gc a b).natAbs < N := by
  have g0 := gc_pos (a := a) hb
  obtain ⟨_, _, e1, e2⟩ := gc_low (a := a) hb
  have f1 : (a / gc a b).natAbs ≤ a.natAbs := by
    conv => rhs; rw [← e1, Int.natAbs_mul]
    exact Nat.le_mul_of_pos_right _ (by omega)
  have f2 : (b / gc a b).natAbs ≤ b.natAbs := by
    conv => rhs; rw [← e2, Int.natAbs_mul]
    exact Nat.le_mul_of_pos_right _ (by omega)
  exact ⟨by omega, by omega⟩
theorem low_frB {a b : Int} (hb : 1 ≤ b) (h1 : a.natAbs < 2 ^ 400) (h2 : b.natAbs < 2 ^ 400) : FrB (lowD a b) := fun x y e => by
  unfold lowD at e
  injection e with e
  injection e with e1 e2
  injection e2 with e2
  injection e1 with e1
  injection e2 with e2
  obtain ⟨f1, f2⟩ := low_small hb h1 h2
  have up : (2 : Nat) ^ 400 < 2 ^ 1000 := Nat.pow_lt_pow_right (by decide) (by decide)
  rw [← e1, ← e2]
  exact ⟨Nat.lt_trans f1 up, Nat.lt_trans f2 up⟩
theorem ggB_bits {n K : Nat} {o : Option Nat} (hK : K < n) (hn : n ≤ 200) (ho : ∀ j, o = some j → j < n) : ∀ w ∈ ggB n K o, w.natAbs < 2 ^ 400 := fun w hw => by
  cases o with
  | none => rw [List.eq_of_mem_replicate hw]; exact (by decide : (0 : Nat) < 2 ^ 400)
  | some j =>
    obtain ⟨i, _, rfl⟩ := List.mem_map.mp hw
    exact ray_b400 hK (ho j rfl) hn
/-- the certificate of a greatest gain may be looked at -/
theorem gain_fit {a b : Int} {ts : List Int} {K : Nat} {o : Option Nat} (hK : K < ts.length) (hK1 : 1 ≤ K ∨ ts.length = 1) (l2 : ts.length ≤ 200) (ho : ∀ j, o = some j → j < ts.length) :
    GoodL 4 ((ggB ts.length K o).map fun w => lowD w (ggW ts.length K o)) ∧
    (ggA a b ts K o / gc (ggA a b ts K o) (ggW ts.length K o)).natAbs.log2 < 1920 ∧ (ggW ts.length K o / gc (ggA a b ts K o) (ggW ts.length K o)).natAbs.log2 < 1920 ∧
    FrB (lowD (ggA a b ts K o) (ggW ts.length K o)) ∧ Flat1 (.lst ((ggB ts.length K o).map fun w => lowD w (ggW ts.length K o))) ∧ QB (.lst ((ggB ts.length K o).map fun w => lowD w (ggW ts.length K o))) := by
  have hW := ggW_pos (o := o) hK hK1 ho
  have w1 := ggW_bits hK l2 ho
  have a1 := ggA_bits (a := a) (b := b) hK l2 ho
  have bb := ggB_bits hK l2 ho
  obtain ⟨s1, s2⟩ := low_small hW a1 w1
  refine ⟨fun x hx => ?_, log_to s1 (by decide) (by decide), log_to s2 (by decide) (by decide), low_frB hW a1 w1, ⟨datL_of fun x hx => ?_, by rw [List.length_map, ggB_length]; omega⟩, fun xs e => ?_⟩
  · obtain ⟨w, _, rfl⟩ := List.mem_map.mp hx
    exact ⟨(by decide : 2 ≤ 100000), fun y hy => by
      simp only [List.mem_cons, List.not_mem_nil, or_false] at hy
      rcases hy with rfl | rfl <;> trivial⟩
  · obtain ⟨w, _, rfl⟩ := List.mem_map.mp hx
    rfl
  · injection e with e
    subst e
    refine ⟨fun x hx => ?_, ?_⟩
    · obtain ⟨w, hw, rfl⟩ := List.mem_map.mp hx
      exact ⟨low_frB hW (bb w hw) w1, by show 2 ≤ 100000; decide⟩
    · rw [← frW_low, frOf_frD]
      obtain ⟨m1, m2, _⟩ := frW_lcm (ws := ggB ts.length K o) hW
      exact Nat.lt_trans (Nat.lt_of_le_of_lt (by omega) w1) (Nat.pow_lt_pow_right (by decide) (by decide))
theorem eqv_pair {x y p q : Int} (h : PyData.eqv (D.tup [.int x, .int y]).py (D.tup [.int p, .int q]).py = true) : x = p ∧ y = q := by
  have e1 : (D.tup [.int x, .int y]).py = .tuple [.int x, .int y] := rfl
  have e2 : (D.tup [.int p, .int q]).py = .tuple [.int p, .int q] := rfl
  rw [e1, e2, eqv_tt, eqvAll_cc, eqvAll_cc, eqv_ii, eqv_ii, Bool.and_eq_true, Bool.and_eq_true] at h
  exact ⟨of_decide_eq_true h.1, of_decide_eq_true h.2.1⟩
theorem gain_am {h : Int} {ts : List Int} {a b k q : D} {x y p r : Int} (h1 : gainB h ts a b k (.tup [.int x, .int y]) q = true) (ne : ¬ (p = x ∧ r = y)) : gainB h ts a b k (.tup [.int p, .int r]) q = false := by
  cases z : gainB h ts a b k (.tup [.int p, .int r]) q with
  | false => rfl
  | true =>
    cases q <;> try exact (Bool.false_ne_true h1).elim
    simp only [gainB, gainP, Bool.and_eq_true] at h1 z
    have e1 := eqv_pair h1.2.2.2.2.2.2.2.2.2
    have e2 := eqv_pair z.2.2.2.2.2.2.2.2.2
    exact absurd ⟨e2.1.symm.trans e1.1, e2.2.symm.trans e1.2⟩ ne
theorem gain_c1 {h : Int} {ts : List Int} {a b k am q : D} (z : isNum a 0 (h - 1) = false) : gainB h ts a b k am q = false := by
  cases q <;> try rfl
  simp only [gainB, z, Bool.false_and, Bool.and_false]
theorem gain_c2 {h : Int} {ts : List Int} {a b k am q : D} (z : isNum b 0 (h - 1) = false) : gainB h ts a b k am q = false := by
  cases q <;> try rfl
  simp only [gainB, z, Bool.false_and, Bool.and_false]
theorem gain_c3 {h : Int} {ts : List Int} {a b k am q : D} (z : isNum k 1 200 = false) : gainB h ts a b k am q = false := by
  cases q <;> try rfl
  simp only [gainB, z, Bool.false_and, Bool.and_false]
theorem gain_c4 {h : Int} {ts : List Int} {a b k am q : D} (z : isFr am = false) : gainB h ts a b k am q = false := by
  cases q <;> try rfl
  simp only [gainB, z, Bool.false_and, Bool.and_false]
theorem gain_c5 {h : Int} {ts : List Int} {a b k am : D} {xs : List D} (z : ¬ xs.length = ts.length) : gainB h ts a b k am (.lst xs) = false := by
  simp only [gainB, decide_eq_false z, Bool.false_and, Bool.and_false]
theorem neg_lcm : ∀ (n : Nat) (m : Int), (List.replicate n ((-1 : Int), (1 : Int))).foldl (fun m p => m * (p.2 / gc p.2 m)) m = m
  | 0, m => rfl
  | n + 1, m => by
    rw [List.replicate_succ, List.foldl_cons]
    have e : gc 1 m = 1 := by
      show ((Int.gcd 1 m : Nat) : Int) = 1
      rw [Int.one_gcd]
      rfl
    have e2 : m * ((1 : Int) / gc 1 m) = m := by rw [e]; omega
    show List.foldl _ (m * (1 / gc 1 m)) _ = m
    rw [e2]
    exact neg_lcm n m
theorem neg_frs (n : Nat) : (List.replicate n (D.tup [.int (-1), .int 1])).map frOf = List.replicate n (-1, 1) := by rw [List.map_replicate]; rfl
theorem gain_c6 {h : Int} {ts : List Int} {a b k am : D} {n : Nat} (h0 : 0 < n) : gainB h ts a b k am (.lst (List.replicate n (.tup [.int (-1), .int 1]))) = false := by
  have z : gainP h ts (iv a) (iv b) (iv k) am ((List.replicate n (D.tup [.int (-1), .int 1])).map frOf) = false := by
    rw [neg_frs]
    have e1 : lcmP (List.replicate n ((-1 : Int), (1 : Int))) = 1 := neg_lcm n 1
    have e2 : numP 1 (List.replicate n ((-1 : Int), (1 : Int))) = List.replicate n (-1) := by
      unfold numP
      rw [List.map_replicate]
      rfl
    unfold gainP
    rw [e1, e2]
    have e3 : aocb (min (iv k).toNat (ts.length - 1)) (List.replicate n (-1)) = false := by
      cases y : aocb (min (iv k).toNat (ts.length - 1)) (List.replicate n (-1)) with
      | false => rfl
      | true =>
        unfold aocb at y
        have := List.all_eq_true.mp (List.all_eq_true.mp y 0 (List.mem_range.mpr (by omega))) (-1) (by
          show (-1 : Int) ∈ List.replicate n (-1 : Int)
          exact List.mem_replicate.mpr ⟨by omega, rfl⟩)
        exact absurd (of_decide_eq_true this) (by decide)
    rw [e3, Bool.false_and, Bool.and_false]
  simp only [gainB, z, Bool.false_and, Bool.and_false]
theorem neg_qb {n : Nat} : QB (.lst (List.replicate n (.tup [.int (-1), .int 1]))) := fun xs e => by
  cases e
  refine ⟨fun x hx => ?_, ?_⟩
  · rw [List.eq_of_mem_replicate hx]
    exact smX_of rfl
  · rw [neg_frs, show lcmP (List.replicate n ((-1 : Int), (1 : Int))) = 1 from neg_lcm n 1]
    exact Nat.lt_of_lt_of_le (by decide) (Nat.pow_le_pow_right (by decide) (show 1 ≤ 8999 by decide))
theorem p4up {x : Int} (h : x.natAbs < 2 ^ 400) : (x + 1).natAbs < 2 ^ 1000 ∧ (x * 2).natAbs < 2 ^ 1000 ∧ x.natAbs < 2 ^ 1000 := by
  obtain ⟨A, B, eA, eB, l⟩ : ∃ A B : Nat, 2 ^ 400 = A ∧ 2 ^ 1000 = B ∧ 2 * A + 2 ≤ B := ⟨_, _, rfl, rfl, by decide +kernel⟩
  rw [eA] at h
  rw [eB]
  omega
theorem frb_pair {x y : Int} (hx : x.natAbs < 2 ^ 1000) (hy : y.natAbs < 2 ^ 1000) : FrB (.tup [.int x, .int y]) := fun a b e => by
  cases e
  exact ⟨hx, hy⟩
theorem qb_low {W : Int} {ws : List Int} (hW : 1 ≤ W) (w1 : W.natAbs < 2 ^ 400) (bb : ∀ w ∈ ws, w.natAbs < 2 ^ 400) : QB (.lst (ws.map fun w => lowD w W)) := fun xs e => by
  injection e with e
  subst e
  refine ⟨fun x hx => ?_, ?_⟩
  · obtain ⟨w, hw, rfl⟩ := List.mem_map.mp hx
    exact ⟨low_frB hW (bb w hw) w1, show 2 ≤ 100000 by decide⟩
  · rw [← frW_low, frOf_frD]
    obtain ⟨m1, m2, _⟩ := frW_lcm (ws := ws) hW
    exact Nat.lt_trans (Nat.lt_of_le_of_lt (by omega) w1) (Nat.pow_lt_pow_right (by decide) (by decide))
def F__law_gains_so (CR : Addr) : Spec
  | [r, .tup [.int a, .int b], .int k, .int n], R, Rx => ∃ (h : Int) (ts : List Int), r = row CR h ts ∧ RowOk h ts ∧ ts.length ≤ 20 ∧ 0 ≤ a ∧ a < h ∧ 0 ≤ b ∧ b < h ∧ 1 ≤ k ∧ k ≤ 200 ∧ n = ts.length ∧ R (.bl true)
  | _, _, _ => False
theorem F__law_gains_so_is {CR : Addr} {r : D} {a : Int} {b : Int} {k : Int} {n : Int} {R : D → Prop} {Rx : Er → Prop} : F__law_gains_so CR [r, .tup [.int a, .int b], .int k, .int n] R Rx = (∃ (h : Int) (ts : List Int), r = row CR h ts ∧ RowOk h ts ∧ ts.length ≤ 20 ∧ 0 ≤ a ∧ a < h ∧ 0 ≤ b ∧ b < h ∧ 1 ≤ k ∧ k ≤ 200 ∧ n = ts.length ∧ R (.bl true)) := rfl
theorem F__law_gains_so_of {CR : Addr} {ds : List D} {R : D → Prop} {Rx : Er → Prop} (z : F__law_gains_so CR ds R Rx) : ∃ (r : D) (a : Int) (b : Int) (k : Int) (n : Int), ds = [r, .tup [.int a, .int b], .int k, .int n] ∧ (∃ (h : Int) (ts : List Int), r = row CR h ts ∧ RowOk h ts ∧ ts.length ≤ 20 ∧ 0 ≤ a ∧ a < h ∧ 0 ≤ b ∧ b < h ∧ 1 ≤ k ∧ k ≤ 200 ∧ n = ts.length ∧ R (.bl true)) := by
  unfold F__law_gains_so at z
  split at z
  · exact ⟨_, _, _, _, _, rfl, z⟩
  · exact z.elim
def b__law_gains_so (Dx : Df K mg "_law_gains_so" s__law_gains_so) : Binds K Dx.fd ["_law_made", "_law_hands_two", "_law_deep", "_law_size"] [] := Dx.F.bindsN fun _ _ _ _ _ _ us hl => match us, hl with | [_, _, _, _], _ => rfl
def n__law_gains_so : List Str := ["_law_made", "_law_hands_two", "_law_deep", "_law_size", "_law_one_y", "_law_other_y", "_law_gain_here", "_law_late", "_law_above", "_law_found"]
theorem sc__law_gains_so : FnScope n__law_gains_so ["_law_made", "_law_hands_two", "_law_deep", "_law_size"] (defScope s__law_gains_so) := ⟨rfl, rfl, rfl, by decide +kernel, rfl, by decide +kernel, by decide +kernel⟩
def dgN52 : Array Lean.Name := dgN51 ++ #[`F__law_long_papers_so_is, `F__law_gain_alone_so_is, `F__law_gains_so_is]
local macro_rules | `(tactic| walk_at "dg") => do let xs ← dgN52.mapM fun n => `(Lean.Parser.Tactic.simpLemma| $(Lean.mkIdent n):term); `(tactic| simp only [$xs,*, List.getElem?_cons_zero, List.getElem?_cons_succ])
theorem ok__law_gains_so (T : Tx mg) (K_Gain : Kx_Gain K mg P.main.file) (K_Row : Kx_Row K mg) (X_InvalidHand : Xe K mg P.main.file "InvalidHand" s_InvalidHand___init__) (X_TooLong : Xe K mg P.main.file "TooLong" s_TooLong___init__) (X_InvalidNumber : Xe K mg P.main.file "InvalidNumber" s_InvalidNumber___init__) (X_InvalidWorths : Xe K mg P.main.file "InvalidWorths" s_InvalidWorths___init__) (D__law_gains_so : Df K mg "_law_gains_so" s__law_gains_so) (D_greatest_gain : Df K mg "greatest_gain" s_greatest_gain) (D_check_question : Df K mg "check_question" s_check_question) (D_check_hand : Df K mg "check_hand" s_check_hand) (D_is_number : Df K mg "is_number" s_is_number) (D_check_class : Df K mg "check_class" s_check_class) (D_rays : Df K mg "rays" s_rays) (D_choose : Df K mg "choose" s_choose) (D_gains_of : Df K mg "gains_of" s_gains_of) (D_summed : Df K mg "summed" s_summed) (D_copied : Df K mg "copied" s_copied) (D_as_list : Df K mg "as_list" s_as_list) (D_lowest : Df K mg "lowest" s_lowest) (D_divisor : Df K mg "divisor" s_divisor) (D_are_hands : Df K mg "are_hands" s_are_hands) (D_is_fraction : Df K mg "is_fraction" s_is_fraction) (D_are_numbers : Df K mg "are_numbers" s_are_numbers) (D_are_of_class : Df K mg "are_of_class" s_are_of_class) (D_differences : Df K mg "differences" s_differences) (D__law_same : Df K mg "_law_same" s__law_same) (hsup : mg "super" = none) (htop : (P.main.scope.names.lookup ("super" : Str)).isSome = false) : FnOk P w K mg base (L2.CX P w) 16 D__law_gains_so.f D__law_gains_so.fd ["_law_made", "_law_hands_two", "_law_deep", "_law_size"] (spD (F__law_gains_so K_Row.C)) := by
  have G_greatest_gain := ok_greatest_gain (P := P) (w := w) (base := base) T K_Row K_Gain X_InvalidHand X_TooLong X_InvalidNumber D_greatest_gain D_check_question D_check_hand D_is_number D_check_class D_rays D_choose D_gains_of D_summed D_copied D_as_list D_lowest D_divisor hsup htop
  have G_Gain_worths := ok_Gain_worths (P := P) (w := w) (base := base) T K_Gain D_copied
  have G_Gain_amount := ok_Gain_amount (P := P) (w := w) (base := base) T K_Gain
  have G_Gain___init__ := ok_Gain___init__ (P := P) (w := w) (base := base) T K_Gain D_copied D_as_list hsup htop
  have G_Gain_holds := ok_Gain_holds (P := P) (w := w) (base := base) T K_Gain K_Row X_InvalidWorths D_are_hands D_is_number D_is_fraction D_are_numbers D_lowest D_divisor D_are_of_class D_differences hsup htop
  have G__law_same := ok__law_same (P := P) (w := w) (base := base) ⟨T.m_isinstance, T.m_list, T.m_tuple, T.m_bool, T.m_int, T.m_str, T.m_len, T.m_all, T.m_zip⟩ D__law_same 6
  refine fn_d D__law_gains_so.F sc__law_gains_so (fun ds R Rx hs0 => ?_) (fun cdv A outer s H E hr => have hu := hr.units
    (ds_cons (s_asg (d_var 1) (g_tup (n := 2) rfl (gs_cons (g_name (i := 4) sc__law_gains_so.nd) (gs_cons (g_name (i := 5) sc__law_gains_so.nd) gs_nil))))
    (ds_cons (s_set (i := 6) sc__law_gains_so.nd (d_call G_greatest_gain (hr.mono (by decide)) D_greatest_gain.g D_greatest_gain.F.kp (b_greatest_gain D_greatest_gain) .nil dfR_nil pass_d (da_cons (d_var 0) (da_cons (d_var 4) (da_cons (d_var 5) (da_cons (d_var 2) da_nil))))))
    (ds_cons (s_par2O (i := 7) (j := 8) rfl sc__law_gains_so.nd (f_ofUNos (u_meth0 (d_var 6) K_Gain.cls K_Gain.h_worths G_Gain_worths (hr.mono (by decide)) (b_Gain_worths K_Gain.D_worths) pass_d)) (d_prop (d_var 6) K_Gain.cls K_Gain.p_amount G_Gain_amount (hr.mono (by decide)) (b_Gain_amount K_Gain.D_amount) passL))
    (ds_cons (s_setO (i := 9) sc__law_gains_so.nd (f_lend (f_lst (da_cons (d_meth (d_ofP (d_makeN K_Gain.mkr G_Gain___init__ (hr.mono (by decide)) K_Gain.g (b_Gain___init__ K_Gain.D___init__) pass_d (da_cons (d_var 4) (da_cons (d_var 5) (da_cons (d_var 2) (da_cons (d_tup (da_cons (d_add (d_ix (d_var 8) d_int) d_int) (da_cons (d_ix (d_var 8) d_int) da_nil))) (da_cons (d_var 7) da_nil))))))) K_Gain.cls K_Gain.h_holds G_Gain_holds (hr.mono (by decide)) (b_Gain_holds K_Gain.D_holds) pass_d (da_cons (d_var 0) da_nil)) da_nil))))
    (ds_cons (s_app 9 (d_lend (d_meth (d_ofP (d_makeN K_Gain.mkr G_Gain___init__ (hr.mono (by decide)) K_Gain.g (b_Gain___init__ K_Gain.D___init__) pass_d (da_cons (d_var 4) (da_cons (d_var 5) (da_cons (d_var 2) (da_cons (d_tup (da_cons (d_mul (d_ix (d_var 8) d_int) d_int) (da_cons (d_mul (d_ix (d_var 8) d_int) d_int) da_nil))) (da_cons (d_var 7) da_nil))))))) K_Gain.cls K_Gain.h_holds G_Gain_holds (hr.mono (by decide)) (b_Gain_holds K_Gain.D_holds) pass_d (da_cons (d_var 0) da_nil))) (hp := fun h => pe_bm PySem.F.plainAttrs_list PySem.F.slot_list_append PySem.F.type_list_append mt_append (pv 9) (pa_cons h pa_nil)))
    (ds_cons (s_app 9 (d_lend (d_meth (d_ofP (d_makeN K_Gain.mkr G_Gain___init__ (hr.mono (by decide)) K_Gain.g (b_Gain___init__ K_Gain.D___init__) pass_d (da_cons (d_var 4) (da_cons (d_var 5) (da_cons d_int (da_cons (d_var 8) (da_cons (d_var 7) da_nil))))))) K_Gain.cls K_Gain.h_holds G_Gain_holds (hr.mono (by decide)) (b_Gain_holds K_Gain.D_holds) pass_d (da_cons (d_var 0) da_nil))) (hp := fun h => pe_bm PySem.F.plainAttrs_list PySem.F.slot_list_append PySem.F.type_list_append mt_append (pv 9) (pa_cons h pa_nil)))
    (ds_cons (s_app 9 (d_lend (d_meth (d_ofP (d_makeN K_Gain.mkr G_Gain___init__ (hr.mono (by decide)) K_Gain.g (b_Gain___init__ K_Gain.D___init__) pass_d (da_cons (d_var 4) (da_cons (d_var 5) (da_cons (d_var 2) (da_cons (d_var 8) (da_cons (d_slice (d_var 7) (do_some d_int) do_none) da_nil))))))) K_Gain.cls K_Gain.h_holds G_Gain_holds (hr.mono (by decide)) (b_Gain_holds K_Gain.D_holds) pass_d (da_cons (d_var 0) da_nil))) (hp := fun h => pe_bm PySem.F.plainAttrs_list PySem.F.slot_list_append PySem.F.type_list_append mt_append (pv 9) (pa_cons h pa_nil)))
    (ds_cons (s_app 9 (d_meth (d_ofP (d_makeN K_Gain.mkr G_Gain___init__ (hr.mono (by decide)) K_Gain.g (b_Gain___init__ K_Gain.D___init__) pass_d (da_cons (d_var 4) (da_cons (d_var 5) (da_cons (d_var 2) (da_cons (d_var 8) (da_cons (d_mul (d_ofF (f_lst (da_cons (d_tup (da_cons (d_sub d_int d_int) (da_cons d_int da_nil))) da_nil))) (d_var 3)) da_nil))))))) K_Gain.cls K_Gain.h_holds G_Gain_holds (hr.mono (by decide)) (b_Gain_holds K_Gain.D_holds) pass_d (da_cons (d_var 0) da_nil)) (hp := fun h => pe_bm PySem.F.plainAttrs_list PySem.F.slot_list_append PySem.F.type_list_append mt_append (pv 9) (pa_cons h pa_nil)))
    (ds_cons (s_app 9 (d_lend (d_meth (d_ofP (d_makeN K_Gain.mkr G_Gain___init__ (hr.mono (by decide)) K_Gain.g (b_Gain___init__ K_Gain.D___init__) pass_d (da_cons (d_var 4) (da_cons (d_var 5) (da_cons (d_var 2) (da_cons (d_ofF (f_list (d_var 8) T.m_list)) (da_cons (d_var 7) da_nil))))))) K_Gain.cls K_Gain.h_holds G_Gain_holds (hr.mono (by decide)) (b_Gain_holds K_Gain.D_holds) pass_d (da_cons (d_var 0) da_nil))) (hp := fun h => pe_bm PySem.F.plainAttrs_list PySem.F.slot_list_append PySem.F.type_list_append mt_append (pv 9) (pa_cons h pa_nil)))
    (ds_cons (s_app 9 (d_meth (d_ofP (d_makeN K_Gain.mkr G_Gain___init__ (hr.mono (by decide)) K_Gain.g (b_Gain___init__ K_Gain.D___init__) pass_d (da_cons (d_var 4) (da_cons (d_var 5) (da_cons (d_var 2) (da_cons (d_var 8) (da_cons d_non da_nil))))))) K_Gain.cls K_Gain.h_holds G_Gain_holds (hr.mono (by decide)) (b_Gain_holds K_Gain.D_holds) pass_d (da_cons (d_var 0) da_nil)) (hp := fun h => pe_bm PySem.F.plainAttrs_list PySem.F.slot_list_append PySem.F.type_list_append mt_append (pv 9) (pa_cons h pa_nil)))
    (ds_cons (s_app 9 (d_lend (d_meth (d_ofP (d_makeN K_Gain.mkr G_Gain___init__ (hr.mono (by decide)) K_Gain.g (b_Gain___init__ K_Gain.D___init__) pass_d (da_cons d_int (da_cons (d_var 5) (da_cons (d_var 2) (da_cons (d_var 8) (da_cons (d_var 7) da_nil))))))) K_Gain.cls K_Gain.h_holds G_Gain_holds (hr.mono (by decide)) (b_Gain_holds K_Gain.D_holds) pass_d (da_cons (d_var 0) da_nil))) (hp := fun h => pe_bm PySem.F.plainAttrs_list PySem.F.slot_list_append PySem.F.type_list_append mt_append (pv 9) (pa_cons h pa_nil)))
    (ds_cons (s_app 9 (d_lend (d_meth (d_ofP (d_makeN K_Gain.mkr G_Gain___init__ (hr.mono (by decide)) K_Gain.g (b_Gain___init__ K_Gain.D___init__) pass_d (da_cons (d_var 4) (da_cons d_non (da_cons (d_var 2) (da_cons (d_var 8) (da_cons (d_var 7) da_nil))))))) K_Gain.cls K_Gain.h_holds G_Gain_holds (hr.mono (by decide)) (b_Gain_holds K_Gain.D_holds) pass_d (da_cons (d_var 0) da_nil))) (hp := fun h => pe_bm PySem.F.plainAttrs_list PySem.F.slot_list_append PySem.F.type_list_append mt_append (pv 9) (pa_cons h pa_nil)))
    (ds_cons (s_app 9 (d_lend (d_meth (d_ofP (d_makeN K_Gain.mkr G_Gain___init__ (hr.mono (by decide)) K_Gain.g (b_Gain___init__ K_Gain.D___init__) pass_d (da_cons (d_var 4) (da_cons (d_var 5) (da_cons d_int (da_cons (d_var 8) (da_cons (d_var 7) da_nil))))))) K_Gain.cls K_Gain.h_holds G_Gain_holds (hr.mono (by decide)) (b_Gain_holds K_Gain.D_holds) pass_d (da_cons (d_var 0) da_nil))) (hp := fun h => pe_bm PySem.F.plainAttrs_list PySem.F.slot_list_append PySem.F.type_list_append mt_append (pv 9) (pa_cons h pa_nil)))
    (ds_cons (s_app 7 (d_tup (da_cons d_int (da_cons d_int da_nil))) (hp := fun h => pe_bm PySem.F.plainAttrs_list PySem.F.slot_list_append PySem.F.type_list_append mt_append (pv 7) (pa_cons h pa_nil)))
    (ds_one (s_frz 9 (s_ret (d_and (d_call G__law_same (hr.mono (by decide)) D__law_same.g D__law_same.F.kp (b__law_same D__law_same) .nil dfR_nil pass_d (da_cons (d_var 9) (da_cons (d_mul (d_ofF (f_lst (da_cons d_bl da_nil))) d_int) da_nil))) (d_one (d_call G__law_same (hr.mono (by decide)) D__law_same.g D__law_same.F.kp (b__law_same D__law_same) .nil dfR_nil pass_d (da_cons (d_ofF (f_lst (da_cons (d_meth (d_var 6) K_Gain.cls K_Gain.h_holds G_Gain_holds (hr.mono (by decide)) (b_Gain_holds K_Gain.D_holds) pass_d (da_cons (d_var 0) da_nil)) (da_cons (d_prop (d_var 6) K_Gain.cls K_Gain.p_amount G_Gain_amount (hr.mono (by decide)) (b_Gain_amount K_Gain.D_amount) passL) da_nil)))) (da_cons (d_ofF (f_lst (da_cons d_bl (da_cons (d_var 8) da_nil)))) da_nil)))))))))))))))))))))) ) fun ds R Rx hs0 => ?_
  · obtain ⟨_, _, _, _, _, rfl, _⟩ := F__law_gains_so_of hs0
    rfl
  · obtain ⟨r, a, b, k, n, rfl, hs⟩ := F__law_gains_so_of hs0
    clear hs0
    simp only [n__law_gains_so]
    obtain ⟨h, ts, rfl, ok, hl, a0, a1, b0, b1, k1, k2, rfl, hR⟩ := hs
    have hK : min k.toNat (ts.length - 1) < ts.length := by have := ok.2.2.1; omega
    have hK1 : 1 ≤ min k.toNat (ts.length - 1) ∨ ts.length = 1 := by have := ok.2.2.1; omega
    generalize hKd : min k.toNat (ts.length - 1) = K at hK hK1
    have olt : ∀ j, ggN a b ts K ts.length = some j → j < ts.length := fun j e => ggN_lt e
    have gr := gain_right (h := h) (k := k) a0 a1 b0 b1 k1 k2 ok.2.2.1 (by omega) hKd olt
    obtain ⟨f1, f2, f3, f4, f5, f6⟩ := gain_fit (a := a) (b := b) hK hK1 (by omega) olt
    have w2 := ggW_pos hK hK1 olt
    have gl := ggB_length (n := ts.length) (K := K) (o := ggN a b ts K ts.length)
    refine seq_step fun N1 hN1 => ?_
    walk_at "dg"
    refine hN1 _ ?_
    clear hN1 N1
    refine seq_step fun N1 hN1 => ?_
    walk_at "dg"
    refine ⟨ok, by omega, a0, a1, b0, b1, k1, k2, fun K2 o2 e1 e2 => ?_⟩
    rw [hKd] at e1
    subst e1 e2
    obtain ⟨p, hp⟩ : ∃ p, ggA a b ts K2 (ggN a b ts K2 ts.length) / gc (ggA a b ts K2 (ggN a b ts K2 ts.length)) (ggW ts.length K2 (ggN a b ts K2 ts.length)) = p := ⟨_, rfl⟩
    obtain ⟨q, hq⟩ : ∃ p, ggW ts.length K2 (ggN a b ts K2 ts.length) / gc (ggA a b ts K2 (ggN a b ts K2 ts.length)) (ggW ts.length K2 (ggN a b ts K2 ts.length)) = p := ⟨_, rfl⟩
    have ham : lowD (ggA a b ts K2 (ggN a b ts K2 ts.length)) (ggW ts.length K2 (ggN a b ts K2 ts.length)) = .tup [.int p, .int q] := by
      unfold lowD
      rw [hp, hq]
    have q1 : 1 ≤ q := by rw [← hq]; exact (gc_low w2).1
    have w1 := ggW_bits hK (by omega) olt
    have A1 := ggA_bits (a := a) (b := b) hK (by omega) olt
    have bb := ggB_bits hK (show ts.length ≤ 200 by omega) olt
    obtain ⟨s1, s2⟩ := low_small w2 A1 w1
    rw [hp] at s1 f2
    rw [hq] at s2 f3
    rw [ham] at gr f4 ⊢
    have qql : ((ggB ts.length K2 (ggN a b ts K2 ts.length)).map fun w => lowD w (ggW ts.length K2 (ggN a b ts K2 ts.length))).length = ts.length := by rw [List.length_map, gl]
    have qqn : nosL ((ggB ts.length K2 (ggN a b ts K2 ts.length)).map fun w => lowD w (ggW ts.length K2 (ggN a b ts K2 ts.length))) = true := nosL_of fun x hx => by
      obtain ⟨w, _, rfl⟩ := List.mem_map.mp hx
      rfl
    have qqd : QB (.lst (((ggB ts.length K2 (ggN a b ts K2 ts.length)).map fun w => lowD w (ggW ts.length K2 (ggN a b ts K2 ts.length))).drop 1)) := by
      rw [← List.map_drop]
      exact qb_low w2 w1 fun w hw => bb w (List.mem_of_mem_drop hw)
    clear hp hq ham w1 A1 bb w2 gl olt
    generalize ((ggB ts.length K2 (ggN a b ts K2 ts.length)).map fun w => lowD w (ggW ts.length K2 (ggN a b ts K2 ts.length))) = qq at *
    obtain ⟨u1, u2, u3⟩ := p4up s1
    obtain ⟨v1, v2, v3⟩ := p4up s2
    have g5 : Good 5 (.lst qq) := ⟨by omega, f1⟩
    have l0 := ok.2.2.1
    have h4 := ok.2.1
    refine hN1 _ ?_
    clear hN1 N1
    refine seq_step fun N1 hN1 => ?_
    walk_at "dg"
    refine ⟨⟨by omega, f1⟩, qqn, ?_⟩
    refine hN1 _ ?_
    clear hN1 N1
    refine seq_step fun N1 hN1 => ?_
    walk_at "dg"
    have n2 : (2 : Nat) ≤ 100000 := by decide
    refine ⟨⟨by omega, f1⟩, ok, frb_pair u1 v3, n2, f5, f6, ?_⟩
    rw [gain_am gr (by omega)]
    refine hN1 _ ?_
    clear hN1 N1
    refine seq_step fun N1 hN1 => ?_
    walk_at "dg"
    refine ⟨.inr (wide_mul (a := 400) (b := 400) s1 (by decide +kernel) (by decide) (by decide) (by decide)), .inr (wide_mul (a := 400) (b := 400) s2 (by decide +kernel) (by decide) (by decide) (by decide)), ⟨by omega, f1⟩, ok, frb_pair u2 v2, n2, f5, f6, ?_⟩
    rw [gain_am gr (by omega)]
    refine hN1 _ ?_
    clear hN1 N1
    refine seq_step fun N1 hN1 => ?_
    walk_at "dg"
    refine ⟨⟨by omega, f1⟩, ok, f4, n2, f5, f6, ?_⟩
    rw [gain_c3 rfl]
    refine hN1 _ ?_
    clear hN1 N1
    refine seq_step fun N1 hN1 => ?_
    walk_at "dg"
    have cd : cutD qq (some 1) none = qq.drop 1 := cutD_from (a := 1)
    rw [cd]
    have f5d : Flat1 (.lst (qq.drop 1)) := ⟨datL_of fun x hx => datL_mem f5.1 (List.mem_of_mem_drop hx), by rw [List.length_drop]; omega⟩
    refine ⟨⟨by rw [List.length_drop]; omega, fun x hx => f1 x (List.mem_of_mem_drop hx)⟩, ok, f4, n2, f5d, qqd, ?_⟩
    rw [gain_c5 (by rw [List.length_drop]; omega)]
    refine hN1 _ ?_
    clear hN1 N1
    refine seq_step fun N1 hN1 => ?_
    walk_at "dg"
    rw [List.flatten_replicate_singleton, Int.toNat_natCast]
    refine ⟨by omega, by omega, by omega, ⟨by rw [List.length_replicate]; omega, fun x hx => ?_⟩, ok, f4, n2, ⟨datL_of fun x hx => by rw [List.eq_of_mem_replicate hx]; rfl, by rw [List.length_replicate]; omega⟩, neg_qb, ?_⟩
    · rw [List.eq_of_mem_replicate hx]
      exact ⟨by decide, fun y hy => by
        simp only [List.mem_cons, List.not_mem_nil, or_false] at hy
        rcases hy with rfl | rfl <;> trivial⟩
    rw [gain_c6 l0]
    refine hN1 _ ?_
    clear hN1 N1
    refine seq_step fun N1 hN1 => ?_
    walk_at "dg"
    refine ⟨⟨by omega, f1⟩, ok, (fun _ _ e => nomatch e), n2, f5, f6, ?_⟩
    rw [gain_c4 rfl]
    refine hN1 _ ?_
    clear hN1 N1
    refine seq_step fun N1 hN1 => ?_
    walk_at "dg"
    refine ⟨ok, f4, n2, rfl, (fun _ e => nomatch e), ?_⟩
    rw [show gainB h ts (.int a) (.int b) (.int k) (.tup [.int p, .int q]) .non = false from rfl]
    refine hN1 _ ?_
    clear hN1 N1
    refine seq_step fun N1 hN1 => ?_
    walk_at "dg"
    refine ⟨⟨by omega, f1⟩, ok, f4, n2, f5, f6, ?_⟩
    rw [gain_c1 (by simp [isNum]; omega)]
    refine hN1 _ ?_
    clear hN1 N1
    refine seq_step fun N1 hN1 => ?_
    walk_at "dg"
    refine ⟨⟨by omega, f1⟩, ok, f4, n2, f5, f6, ?_⟩
    rw [gain_c2 rfl]
    refine hN1 _ ?_
    clear hN1 N1
    refine seq_step fun N1 hN1 => ?_
    walk_at "dg"
    refine ⟨⟨by omega, f1⟩, ok, f4, n2, f5, f6, ?_⟩
    rw [gain_c3 rfl]
    refine hN1 _ ?_
    clear hN1 N1
    refine seq_step fun N1 hN1 => ?_
    walk_at "dg"
    refine ⟨by omega, ?_⟩
    refine hN1 _ ?_
    clear hN1 N1
    walk_at "dg"
    exact ⟨by decide, rfl, ok, f4, n2, f5, f6, gr, hR⟩
local macro_rules | `(tactic| walk_at "rk") => `(tactic| first
  | assumption
  | (refine rok_app ?_ ?_ ?_ <;> first | walk_at "rk" | (simp only [List.length_append, List.length_reverse, List.length_map, List.length_replicate]; omega))
  | (refine rok_rev ?_; walk_at "rk")
  | (refine rok_map ?_ _ (fun t => fmod_in (by assumption)); walk_at "rk")
  | omega
  | decide
  | (refine log_lt (k := 80) ?_ (by decide) (by decide); omega))
local macro_rules | `(tactic| walk_at "fin") => `(tactic| ((repeat' (first | (with_reducible assumption) | (with_reducible refine And.intro ?_ ?_) | (with_reducible intro _))); all_goals first | (with_reducible assumption) | omega | contradiction | trivial))
local macro_rules | `(tactic| walk_at "cj") => `(tactic| repeat' (refine And.intro (by walk_at "rk") ?_))
theorem read_of {C CH CI : Addr} {h : Int} {l : List Nat} {R : D → Prop} {Rx : Er → Prop} (h2 : 2 ≤ h) (h4 : h ≤ 4) (hl : l.length ≤ 1000000) (hb : ∀ i : Nat, badC h 0 l = some i → Rx (eIT CI i)) (hg : badC h 0 l = none → initX C CH CI (.int h) ((digL (tx l)).map D.int) R Rx) : readX C CH CI (.str (tx l)) (.int h) R Rx :=
  ⟨rfl, rfl, fun z => by simp [isNum] at z; omega, fun k e h5 h6 => by cases e; exact ⟨(fun z => nomatch z), fun m e => by cases e; exact ⟨hl, hb, hg⟩⟩⟩
theorem read_good {C CH CI : Addr} {h : Int} {ts : List Int} {R : D → Prop} {Rx : Er → Prop} (ok : RowOk h ts) (hR : R (row C h ts)) : readX C CH CI (.str (tx (digC ts))) (.int h) R Rx := by
  have hg : badC h 0 (digC ts) = none := badC_good (digC_in ok.2.2.2.2)
  refine read_of ok.1 ok.2.1 (by rw [digC_length]; have := ok.2.2.2.1; omega) (fun i e => by rw [hg] at e; cases e) fun _ => ?_
  rw [digL_digC ok.figs]
  exact initX_good ok hR
def n_law : List Str := ["_law_script", "_law_bag_here", "_law_turn", "_law_hands_here", "_law_row", "_law_one_y", "_law_other_y", "_law_deep", "_law_made", "_law_paper", "_law_first", "_law_size", "_law_values_y", "_law_bent_here", "_law_due", "_law_found"]
theorem sc_law : FnScope n_law ["_law_script"] (defScope s_law) := ⟨rfl, rfl, rfl, by decide +kernel, rfl, by decide +kernel, by decide +kernel⟩
theorem kb_Worse___init___1_worths_k_other_one {fl : Str} {C : Addr} (Dx : Dsup K fl "__init__" "Worse.__init__" s_Worse___init__ C) : KBd K Dx.fd ["self", "one", "other", "k", "worths"] ["worths", "k", "other", "one"] (gPerm 1 4 [0, 4, 3, 2, 1]) := Dx.kb 1 4 [0, 4, 3, 2, 1] (by simp) fun _ _ _ _ _ _ _ us ws h1 h2 => match us, ws, h1, h2 with | [_], [_, _, _, _], _, _ => rfl
theorem kp_Worse___init___1_worths_k_other_one {x0 x1 x2 x3 x4 : D} : gPerm 1 4 [0, 4, 3, 2, 1] [x0] [x1, x2, x3, x4] = [x0, x4, x3, x2, x1] := rfl
def dgN53 : Array Lean.Name := dgN52 ++ #[`kp_Worse___init___1_worths_k_other_one]
local macro_rules | `(tactic| walk_at "dg") => do let xs ← dgN53.mapM fun n => `(Lean.Parser.Tactic.simpLemma| $(Lean.mkIdent n):term); `(tactic| simp only [$xs,*, List.getElem?_cons_zero, List.getElem?_cons_succ])
theorem gain_at {a b : Int} {ts : List Int} {K j : Nat} (hK : K < ts.length) (hj : j < ts.length) : (gainL K (sgn a b ts)).getD j 0 = dotR ts.length (sgn a b ts) (ray ts.length K j) := by
  rw [gainL_ray (by rw [sgn_length]; exact hK), sgn_length, List.getD, List.getElem?_map, List.getElem?_range hj]
  rfl
theorem ray_class {n K j : Nat} (hK : K < n) (hj : j < n) : aocb K ((List.range n).map (ray n K j)) = true :=
  aocb_of fun s hs i hi => by
    rw [List.length_map, List.length_range] at hi
    rw [dI_congr s i n (fun k hk => getD_range hk) hi]
    exact ray_dI hK hj hs hi
theorem nw_longer {h x y k : Int} {ts gs : List Int} (hl : gs.length = ts.length) (h2 : ts.length ≤ 100) : nwB h (ts ++ [0]) (.int x) (.int y) (.int k) (.lst (gs.map D.int)) = false := by
  have ne : ¬ gs = gainL (min k.toNat ((ts ++ [0]).length - 1)) (sgn x y (ts ++ [0])) := fun e => by
    have := congrArg List.length e
    rw [gain_len (by rw [List.length_append]; simp only [List.length_singleton]; omega), List.length_append, List.length_singleton] at this
    omega
  simp only [nwB, iv_map, iv, decide_eq_false ne, Bool.false_and, Bool.and_false]
theorem wo_longer {h x y k : Int} {ts gs : List Int} (hl : gs.length = ts.length) : woB h (ts ++ [0]) (.int x) (.int y) (.int k) (.lst (gs.map D.int)) = false := by
  have ne : ¬ (gs.map D.int).length = (ts ++ [0]).length := fun e => by
    rw [List.length_map, List.length_append, List.length_singleton] at e
    omega
  simp only [woB, decide_eq_false ne, Bool.false_and, Bool.and_false]
theorem p400 {z : Int} (h : z.natAbs < 2 ^ 400) : z.natAbs < P9 := Nat.lt_trans h (by unfold P9; exact Nat.pow_lt_pow_right (by decide) (by decide))
theorem ok_law (T : Tx mg) (K_Row : Kx_Row K mg) (K_NeverWorse : Kx_NeverWorse K mg P.main.file) (K_Worse : Kx_Worse K mg P.main.file) (K_Gain : Kx_Gain K mg P.main.file) (X_InvalidHands : Xe K mg P.main.file "InvalidHands" s_InvalidHands___init__) (X_InvalidTurn : Xe K mg P.main.file "InvalidTurn" s_InvalidTurn___init__) (X_InvalidHand : Xe K mg P.main.file "InvalidHand" s_InvalidHand___init__) (X_TooLong : Xe K mg P.main.file "TooLong" s_TooLong___init__) (X_InvalidNumber : Xe K mg P.main.file "InvalidNumber" s_InvalidNumber___init__) (X_InvalidWorths : Xe K mg P.main.file "InvalidWorths" s_InvalidWorths___init__) (D_law : Df K mg "law" s_law) (D__law_bag : Df K mg "_law_bag" s__law_bag) (D__law_question : Df K mg "_law_question" s__law_question) (D__law_hands : Df K mg "_law_hands" s__law_hands) (D__law_some_turns : Df K mg "_law_some_turns" s__law_some_turns) (D__law_even_turns : Df K mg "_law_even_turns" s__law_even_turns) (D__law_doubled : Df K mg "_law_doubled" s__law_doubled) (D__law_turns : Df K mg "_law_turns" s__law_turns) (D__law_pull : Df K mg "_law_pull" s__law_pull) (D_check_hands : Df K mg "check_hands" s_check_hands) (D_is_number : Df K mg "is_number" s_is_number) (D_compare : Df K mg "compare" s_compare) (D_gains : Df K mg "gains" s_gains) (D_check_question : Df K mg "check_question" s_check_question) (D_check_hand : Df K mg "check_hand" s_check_hand) (D_check_class : Df K mg "check_class" s_check_class) (D_gains_of : Df K mg "gains_of" s_gains_of) (D_summed : Df K mg "summed" s_summed) (D_rays : Df K mg "rays" s_rays) (D_choose : Df K mg "choose" s_choose) (D_as_list : Df K mg "as_list" s_as_list) (D_copied : Df K mg "copied" s_copied) (D__law_pick : Df K mg "_law_pick" s__law_pick) (D__law_bent : Df K mg "_law_bent" s__law_bent) (D__law_number : Df K mg "_law_number" s__law_number) (D__law_due_so : Df K mg "_law_due_so" s__law_due_so) (D__law_numbers_so : Df K mg "_law_numbers_so" s__law_numbers_so) (D__law_rays : Df K mg "_law_rays" s__law_rays) (D__law_choose : Df K mg "_law_choose" s__law_choose) (D__law_gain : Df K mg "_law_gain" s__law_gain) (D__law_signs : Df K mg "_law_signs" s__law_signs) (D__law_of_class : Df K mg "_law_of_class" s__law_of_class) (D__law_minus : Df K mg "_law_minus" s__law_minus) (D__law_same : Df K mg "_law_same" s__law_same) (D_are_hands : Df K mg "are_hands" s_are_hands) (D_are_numbers : Df K mg "are_numbers" s_are_numbers) (D_are_of_class : Df K mg "are_of_class" s_are_of_class) (D_differences : Df K mg "differences" s_differences) (D__law_gains_so : Df K mg "_law_gains_so" s__law_gains_so) (D_greatest_gain : Df K mg "greatest_gain" s_greatest_gain) (D_lowest : Df K mg "lowest" s_lowest) (D_divisor : Df K mg "divisor" s_divisor) (D_is_fraction : Df K mg "is_fraction" s_is_fraction) (D__law_gain_alone_so : Df K mg "_law_gain_alone_so" s__law_gain_alone_so) (D__law_long_papers_so : Df K mg "_law_long_papers_so" s__law_long_papers_so) (hsup : mg "super" = none) (htop : (P.main.scope.names.lookup ("super" : Str)).isSome = false) :
    FnOk P w K mg base (L2.CX P w) 20 D_law.f D_law.fd ["_law_script"] (spLaw K) := by
  have G__law_question := ok__law_question (P := P) (w := w) (base := base) T D__law_question D__law_hands D__law_some_turns D__law_even_turns D__law_doubled D__law_turns D__law_pull
  have G__law_pull := ok__law_pull (P := P) (w := w) (base := base) D__law_pull T.m_int T.m_len
  have G_Row___init__ := ok_Row___init__ (P := P) (w := w) (base := base) T K_Row D_check_hands D_is_number X_InvalidHands X_InvalidTurn hsup htop
  have G_compare := ok_compare (P := P) (w := w) (base := base) T K_Row K_Worse K_NeverWorse X_InvalidHand X_TooLong X_InvalidNumber D_compare D_gains D_check_question D_check_hand D_is_number D_check_class D_gains_of D_summed D_rays D_choose D_as_list D_copied hsup htop
  have G__law_pick := ok__law_pick (P := P) (w := w) (base := base) D__law_pick D__law_pull T.m_int T.m_len
  have G__law_bent := ok__law_bent (P := P) (w := w) (base := base) T D__law_bent D__law_pull D__law_pick D__law_number
  have G_NeverWorse___bool__ := ok_NeverWorse___bool__ (P := P) (w := w) (base := base) T K_NeverWorse
  have G_Worse___bool__ := ok_Worse___bool__ (P := P) (w := w) (base := base) T K_Worse
  have G_NeverWorse_numbers := ok_NeverWorse_numbers (P := P) (w := w) (base := base) T K_NeverWorse D_copied
  have G_Worse_worths := ok_Worse_worths (P := P) (w := w) (base := base) T K_Worse D_copied
  have G_Worse___init__ := ok_Worse___init__ (P := P) (w := w) (base := base) T K_Worse D_as_list D_copied hsup htop
  have G_NeverWorse___init__ := ok_NeverWorse___init__ (P := P) (w := w) (base := base) T K_NeverWorse D_as_list D_copied hsup htop
  have G__law_due_so := ok__law_due_so (P := P) (w := w) (base := base) T D__law_due_so D__law_numbers_so D__law_rays D__law_choose D__law_gain D__law_signs D__law_of_class D__law_minus
  have G__law_same := ok__law_same (P := P) (w := w) (base := base) ⟨T.m_isinstance, T.m_list, T.m_tuple, T.m_bool, T.m_int, T.m_str, T.m_len, T.m_all, T.m_zip⟩ D__law_same 6
  have G_NeverWorse_holds := ok_NeverWorse_holds (P := P) (w := w) (base := base) T K_NeverWorse K_Row D_are_hands D_is_number D_are_numbers D_gains_of D_summed
  have G_Worse_holds := ok_Worse_holds (P := P) (w := w) (base := base) T K_Worse K_Row X_InvalidWorths D_are_hands D_is_number D_are_numbers D_are_of_class D_differences hsup htop
  have G_NeverWorse_told := ok_NeverWorse_told (P := P) (w := w) (base := base) T K_NeverWorse
  have G_Worse_told := ok_Worse_told (P := P) (w := w) (base := base) T K_Worse
  have G__law_gains_so := ok__law_gains_so (P := P) (w := w) (base := base) T K_Gain K_Row X_InvalidHand X_TooLong X_InvalidNumber X_InvalidWorths D__law_gains_so D_greatest_gain D_check_question D_check_hand D_is_number D_check_class D_rays D_choose D_gains_of D_summed D_copied D_as_list D_lowest D_divisor D_are_hands D_is_fraction D_are_numbers D_are_of_class D_differences D__law_same hsup htop
  have G_Row_read := ok_Row_read (P := P) (w := w) (base := base) T K_Row X_InvalidHands X_InvalidTurn D_check_hands D_is_number hsup htop
  have G_Gain___init__ := ok_Gain___init__ (P := P) (w := w) (base := base) T K_Gain D_copied D_as_list hsup htop
  have G_Gain_holds := ok_Gain_holds (P := P) (w := w) (base := base) T K_Gain K_Row X_InvalidWorths D_are_hands D_is_number D_is_fraction D_are_numbers D_lowest D_divisor D_are_of_class D_differences hsup htop
  have G__law_gain_alone_so := ok__law_gain_alone_so (P := P) (w := w) (base := base) T K_Gain K_Row X_InvalidWorths D__law_gain_alone_so D_copied D_as_list D_are_hands D_is_number D_is_fraction D_are_numbers D_lowest D_divisor D_are_of_class D_differences D__law_same hsup htop
  have G__law_long_papers_so := ok__law_long_papers_so (P := P) (w := w) (base := base) T K_Row K_NeverWorse K_Worse K_Gain X_InvalidHands X_InvalidTurn X_InvalidWorths D__law_long_papers_so D_check_hands D_is_number D_as_list D_copied D_are_hands D_are_numbers D_gains_of D_summed D_are_of_class D_differences D_is_fraction D_lowest D_divisor D__law_same hsup htop
  refine law_d (n := 14) D_law sc_law rfl rfl rfl D__law_bag T.m_int rfl (by first | exact .inl rfl | exact .inr rfl) rfl (by first | exact .inl rfl | exact .inr rfl) (fun cdv A outer s H E hr =>
    have hu := hr.units
    (ds_cons (s_for (passes_of rfl) rfl (i_rg1 (da_cons d_int da_nil) T.m_range) (g_name (i := 2) sc_law.nd)
        (ds_cons (s_asg (d_call G__law_question (hr.mono (by decide)) D__law_question.g D__law_question.F.kp (b__law_question D__law_question) .nil dfR_nil pass_d (da_cons (d_var 1) (da_cons d_int da_nil))) (g_tup (n := 4) rfl (gs_cons (g_name (i := 3) sc_law.nd) (gs_cons (g_name (i := 4) sc_law.nd) (gs_cons (g_name (i := 5) sc_law.nd) (gs_cons (g_name (i := 6) sc_law.nd) gs_nil))))))
          (ds_cons (s_par (i := 7) (j := 8) rfl sc_law.nd (da_cons (d_add d_int (d_call G__law_pull (hr.mono (by decide)) D__law_pull.g D__law_pull.F.kp (b__law_pull D__law_pull) .nil dfR_nil pass_d (da_cons (d_var 1) (da_cons d_int da_nil)))) (da_cons (d_make K_Row.mkr G_Row___init__ (hr.mono (by decide)) K_Row.g (b_Row___init__ K_Row.D___init__) pass_d (da_cons (d_var 3) (da_cons (d_var 4) da_nil))) da_nil)))
          (ds_cons (s_set (i := 9) sc_law.nd (d_call G_compare (hr.mono (by decide)) D_compare.g D_compare.F.kp (b_compare D_compare) .nil dfR_nil pass_d (da_cons (d_var 8) (da_cons (d_var 5) (da_cons (d_var 6) (da_cons (d_var 7) da_nil))))))
          (ds_cons (s_set (i := 10) sc_law.nd (d_call G__law_pick (hr.mono (by decide)) D__law_pick.g D__law_pick.F.kp (b__law_pick D__law_pick) .nil dfR_nil pass_d (da_cons (d_var 1) (da_cons (d_ofF (f_lst (da_cons (d_var 5) (da_cons (d_var 5) (da_cons (d_var 5) (da_cons (d_var 6) (da_cons d_non (da_cons (d_var 3) (da_cons d_bl da_nil))))))))) da_nil))))
          (ds_cons (s_set (i := 11) sc_law.nd (d_call G__law_pick (hr.mono (by decide)) D__law_pick.g D__law_pick.F.kp (b__law_pick D__law_pick) .nil dfR_nil pass_d (da_cons (d_var 1) (da_cons (d_ofF (f_lst (da_cons (d_var 7) (da_cons (d_var 7) (da_cons (d_add (d_var 7) d_int) (da_cons d_int (da_cons d_int (da_cons d_non (da_cons d_bl da_nil))))))))) da_nil))))
          (ds_cons (s_set (i := 12) sc_law.nd (d_call G__law_bent (hr.mono (by decide)) D__law_bent.g D__law_bent.F.kp (b__law_bent D__law_bent) .nil dfR_nil pass_d (da_cons (d_var 1) (da_cons (d_if (dt_tru (d_alt (d_callT (b_boolOw K_NeverWorse.o___bool__ G_NeverWorse___bool__ (b_NeverWorse___bool__ K_NeverWorse.D___bool__) (hr.mono (by decide))) T.m_bool PyProof.Rows.boot_bool (da_cons (d_var 9) da_nil)) (d_callT (b_boolOw K_Worse.o___bool__ G_Worse___bool__ (b_Worse___bool__ K_Worse.D___bool__) (hr.mono (by decide))) T.m_bool PyProof.Rows.boot_bool (da_cons (d_var 9) da_nil)))) (d_meth0 (d_var 9) K_NeverWorse.cls K_NeverWorse.h_numbers G_NeverWorse_numbers (hr.mono (by decide)) (b_NeverWorse_numbers K_NeverWorse.D_numbers) pass_d) (d_meth0 (d_var 9) K_Worse.cls K_Worse.h_worths G_Worse_worths (hr.mono (by decide)) (b_Worse_worths K_Worse.D_worths) pass_d)) da_nil))))
          (ds_cons (s_set (i := 13) sc_law.nd (d_make K_Worse.mkr G_Worse___init__ (hr.mono (by decide)) K_Worse.g (b_Worse___init__ K_Worse.D___init__) pass_d (da_cons (d_var 10) (da_cons (d_var 6) (da_cons (d_var 11) (da_cons (d_var 12) da_nil))))))
          (ds_cons (s_if (dt_tru (d_alt (d_callT (b_boolOw K_NeverWorse.o___bool__ G_NeverWorse___bool__ (b_NeverWorse___bool__ K_NeverWorse.D___bool__) (hr.mono (by decide))) T.m_bool PyProof.Rows.boot_bool (da_cons (d_var 9) da_nil)) (d_callT (b_boolOw K_Worse.o___bool__ G_Worse___bool__ (b_Worse___bool__ K_Worse.D___bool__) (hr.mono (by decide))) T.m_bool PyProof.Rows.boot_bool (da_cons (d_var 9) da_nil)))) (ds_one (s_set (i := 13) sc_law.nd (d_make K_NeverWorse.mkr G_NeverWorse___init__ (hr.mono (by decide)) K_NeverWorse.g (b_NeverWorse___init__ K_NeverWorse.D___init__) pass_d (da_cons (d_var 10) (da_cons (d_var 6) (da_cons (d_var 11) (da_cons (d_var 12) da_nil))))))) ds_nil)
          (ds_cons (s_set (i := 14) sc_law.nd (d_call G__law_due_so (hr.mono (by decide)) D__law_due_so.g D__law_due_so.F.kp (b__law_due_so D__law_due_so) .nil dfR_nil pass_d (da_cons (d_var 4) (da_cons (d_tup (da_cons (d_var 3) (da_cons (d_var 10) (da_cons (d_var 6) (da_cons (d_var 11) da_nil))))) (da_cons (d_var 12) (da_cons (d_alt (d_callT (b_boolOw K_NeverWorse.o___bool__ G_NeverWorse___bool__ (b_NeverWorse___bool__ K_NeverWorse.D___bool__) (hr.mono (by decide))) T.m_bool PyProof.Rows.boot_bool (da_cons (d_var 9) da_nil)) (d_callT (b_boolOw K_Worse.o___bool__ G_Worse___bool__ (b_Worse___bool__ K_Worse.D___bool__) (hr.mono (by decide))) T.m_bool PyProof.Rows.boot_bool (da_cons (d_var 9) da_nil))) da_nil))))))
          (ds_cons (s_if (dt_not (dt_tru (d_call G__law_same (hr.mono (by decide)) D__law_same.g D__law_same.F.kp (b__law_same D__law_same) .nil dfR_nil pass_d (da_cons (d_ofF (f_lst (da_cons (d_alt (d_meth (d_var 13) K_NeverWorse.cls K_NeverWorse.h_holds G_NeverWorse_holds (hr.mono (by decide)) (b_NeverWorse_holds K_NeverWorse.D_holds) pass_d (da_cons (d_var 8) da_nil)) (d_meth (d_var 13) K_Worse.cls K_Worse.h_holds G_Worse_holds (hr.mono (by decide)) (b_Worse_holds K_Worse.D_holds) pass_d (da_cons (d_var 8) da_nil))) (da_cons (d_alt (d_meth (d_var 9) K_NeverWorse.cls K_NeverWorse.h_holds G_NeverWorse_holds (hr.mono (by decide)) (b_NeverWorse_holds K_NeverWorse.D_holds) pass_d (da_cons (d_var 8) da_nil)) (d_meth (d_var 9) K_Worse.cls K_Worse.h_holds G_Worse_holds (hr.mono (by decide)) (b_Worse_holds K_Worse.D_holds) pass_d (da_cons (d_var 8) da_nil))) (da_cons (d_alt (d_meth0 (d_var 13) K_NeverWorse.cls K_NeverWorse.h_told G_NeverWorse_told (hr.mono (by decide)) (b_NeverWorse_told K_NeverWorse.D_told) pass_d) (d_meth0 (d_var 13) K_Worse.cls K_Worse.h_told G_Worse_told (hr.mono (by decide)) (b_Worse_told K_Worse.D_told) pass_d)) (da_cons (d_alt (d_meth (d_var 9) K_NeverWorse.cls K_NeverWorse.h_holds G_NeverWorse_holds (hr.mono (by decide)) (b_NeverWorse_holds K_NeverWorse.D_holds) pass_d (da_cons (d_make K_Row.mkr G_Row___init__ (hr.mono (by decide)) K_Row.g (b_Row___init__ K_Row.D___init__) pass_d (da_cons (d_var 3) (da_cons (d_add (d_var 4) (d_ofF (f_lst (da_cons d_int da_nil)))) da_nil))) da_nil)) (d_meth (d_var 9) K_Worse.cls K_Worse.h_holds G_Worse_holds (hr.mono (by decide)) (b_Worse_holds K_Worse.D_holds) pass_d (da_cons (d_make K_Row.mkr G_Row___init__ (hr.mono (by decide)) K_Row.g (b_Row___init__ K_Row.D___init__) pass_d (da_cons (d_var 3) (da_cons (d_add (d_var 4) (d_ofF (f_lst (da_cons d_int da_nil)))) da_nil))) da_nil))) da_nil)))))) (da_cons (d_ofF (f_lst (da_cons (d_var 14) (da_cons d_bl (da_cons (d_alt (d_meth0 (d_var 9) K_NeverWorse.cls K_NeverWorse.h_told G_NeverWorse_told (hr.mono (by decide)) (b_NeverWorse_told K_NeverWorse.D_told) pass_d) (d_meth0 (d_var 9) K_Worse.cls K_Worse.h_told G_Worse_told (hr.mono (by decide)) (b_Worse_told K_Worse.D_told) pass_d)) (da_cons d_bl da_nil)))))) da_nil))))) (ds_one (s_ret d_bl)) ds_nil)
          (ds_one (s_if (dt_not (dt_tru (d_call G__law_gains_so (hr.mono (by decide)) D__law_gains_so.g D__law_gains_so.F.kp (b__law_gains_so D__law_gains_so) .nil dfR_nil pass_d (da_cons (d_var 8) (da_cons (d_tup (da_cons (d_var 5) (da_cons (d_var 6) da_nil))) (da_cons (d_var 7) (da_cons (d_callB b_len T.m_len boot_len (da_cons (d_var 4) da_nil)) da_nil))))))) (ds_one (s_ret d_bl)) ds_nil)))))))))))))
      (ds_cons (s_set (i := 8) sc_law.nd (d_stat K_Row.t_read G_Row_read (hr.mono (by decide)) K_Row.g K_Row.D_read.F.kp (bd_Row_read K_Row.D_read).choose_spec.2 (bd_Row_read K_Row.D_read).choose_spec.1 (dds := dd_Row_read) df_Row_read pass_d (da_cons d_str da_nil)))
      (ds_cons (s_set (i := 15) sc_law.nd (d_ofF (f_lst (da_cons (d_meth (d_ofP (d_makeN K_Gain.mkr G_Gain___init__ (hr.mono (by decide)) K_Gain.g (b_Gain___init__ K_Gain.D___init__) pass_d (da_cons d_int (da_cons d_int (da_cons d_int (da_cons (d_tup (da_cons d_int (da_cons d_int da_nil))) (da_cons (d_ofF (f_lst (da_cons (d_tup (da_cons d_int (da_cons d_int da_nil))) (da_cons (d_tup (da_cons d_int (da_cons d_int da_nil))) (da_cons (d_tup (da_cons d_int (da_cons d_int da_nil))) (da_cons (d_tup (da_cons d_int (da_cons d_int da_nil))) da_nil)))))) da_nil))))))) K_Gain.cls K_Gain.h_holds G_Gain_holds (hr.mono (by decide)) (b_Gain_holds K_Gain.D_holds) pass_d (da_cons (d_var 8) da_nil)) (da_cons (d_meth (d_ofP (d_makeN K_Gain.mkr G_Gain___init__ (hr.mono (by decide)) K_Gain.g (b_Gain___init__ K_Gain.D___init__) pass_d (da_cons d_int (da_cons d_int (da_cons d_int (da_cons (d_tup (da_cons d_int (da_cons d_int da_nil))) (da_cons (d_ofF (f_lst (da_cons (d_tup (da_cons d_int (da_cons d_int da_nil))) (da_cons (d_tup (da_cons d_int (da_cons d_int da_nil))) (da_cons (d_tup (da_cons d_int (da_cons d_int da_nil))) (da_cons (d_tup (da_cons d_int (da_cons d_int da_nil))) da_nil)))))) da_nil))))))) K_Gain.cls K_Gain.h_holds G_Gain_holds (hr.mono (by decide)) (b_Gain_holds K_Gain.D_holds) pass_d (da_cons (d_var 8) da_nil)) (da_cons (d_meth0 (d_make K_NeverWorse.mkr G_NeverWorse___init__ (hr.mono (by decide)) K_NeverWorse.g (b_NeverWorse___init__ K_NeverWorse.D___init__) pass_d (da_cons d_int (da_cons d_int (da_cons d_int (da_cons (d_ofF (f_lst (da_cons d_int (da_cons d_int (da_cons d_int (da_cons d_int da_nil)))))) da_nil))))) K_NeverWorse.cls K_NeverWorse.h_numbers G_NeverWorse_numbers (hr.mono (by decide)) (b_NeverWorse_numbers K_NeverWorse.D_numbers) pass_d) (da_cons (d_meth0 (d_makeK0 (m := 4) (idx := [3, 2, 1, 0]) (idx0 := [0, 4, 3, 2, 1]) K_Worse.mkr G_Worse___init__ (hr.mono (by decide)) K_Worse.g (kb_Worse___init___1_worths_k_other_one K_Worse.D___init__) pass_d (dk_cons (d_ofF (f_lst (da_cons d_int da_nil))) (dk_cons d_int (dk_cons d_int (dk_cons d_int dk_nil)))) rfl (fun _ zs h => match zs, h with | [_, _, _, _], _ => rfl) (fun _ zs h => match zs, h with | [_, _, _, _], _ => rfl)) K_Worse.cls K_Worse.h_worths G_Worse_worths (hr.mono (by decide)) (b_Worse_worths K_Worse.D_worths) pass_d) da_nil)))))))
      (ds_cons (s_if (dw_pt (dw_or (dt_not (dt_tru (d_call G__law_gain_alone_so (hr.mono (by decide)) D__law_gain_alone_so.g D__law_gain_alone_so.F.kp (b__law_gain_alone_so D__law_gain_alone_so) .nil dfR_nil pass_d (da_cons (d_var 8) da_nil)))) (dw_or1 (dt_not (dt_tru (d_call0 G__law_long_papers_so (hr.mono (by decide)) D__law_long_papers_so.g D__law_long_papers_so.F.kp (b__law_long_papers_so D__law_long_papers_so) .nil dfR_nil pass_d)))))) (ds_one (s_ret d_bl)) ds_nil)
      (ds_one (s_ret (d_call G__law_same (hr.mono (by decide)) D__law_same.g D__law_same.F.kp (b__law_same D__law_same) .nil dfR_nil pass_d (da_cons (d_var 15) (da_cons (d_ofF (f_lst (da_cons d_bl (da_cons d_bl (da_cons (d_ofF (f_lst (da_cons d_int (da_cons d_int (da_cons d_int (da_cons d_int da_nil)))))) (da_cons (d_ofF (f_lst (da_cons d_int da_nil))) da_nil)))))) da_nil)))))))))) fun a => ?_
  simp only [lawEn, List.replicate]
  have lg : ∀ n : Int, 0 ≤ n → n < 2 ^ 60 → n.natAbs.log2 < 9000 := fun n h0 h1 => log_lt (k := 60) (by omega) (by decide) (by decide)
  refine seq_step fun N hN => for_step fun B hB => ?_
  walk_at "dg"
  refine ⟨fun i env => ∃ e2 e3 e4 e5 e6 e7 e8 e9 e10 e11 e12 e13 e14 e15 : Option DV, env = [some (.val (.adr a)), some (.val .bag), e2, e3, e4, e5, e6, e7, e8, e9, e10, e11, e12, e13, e14, e15], ⟨_, _, _, _, _, _, _, _, _, _, _, _, _, _, rfl⟩, ?_, ?_⟩
  rotate_left
  · rintro env ⟨e2, e3, e4, e5, e6, e7, e8, e9, e10, e11, e12, e13, e14, e15, rfl⟩
    refine hN _ ?_
    walk_at "dg"
    have r1 : RowOk 2 [0, 1, 1, 0] := ⟨by decide, by decide, by decide, by decide, by decide⟩
    have t1 : Str.ofString "0110" = tx (digC [0, 1, 1, 0]) := by decide +kernel
    have g1 : gainB 2 [0, 1, 1, 0] (.int 0) (.int 1) (.int 1) (.tup [.int 1, .int 2]) (.lst [.tup [.int 1, .int 2], .tup [.int 0, .int 1], .tup [.int 0, .int 1], .tup [.int 0, .int 1]]) = true := by decide +kernel
    have g2 : gainB 2 [0, 1, 1, 0] (.int 0) (.int 1) (.int 1) (.tup [.int 2, .int 1]) (.lst [.tup [.int 2, .int 1], .tup [.int 0, .int 1], .tup [.int 0, .int 1], .tup [.int 0, .int 1]]) = false := by decide +kernel
    rw [t1]
    refine read_good r1 ?_
    walk_at "dg"
    rw [g1, g2]
    refine ⟨r1, (smX_of rfl).1, (smX_of rfl).2, ⟨rfl, by decide⟩, qb_ck rfl (by decide +kernel), r1, (smX_of rfl).1, (smX_of rfl).2, ⟨rfl, by decide⟩, qb_ck rfl (by decide +kernel), ?_⟩
    rw [show gPerm 0 4 [3, 2, 1, 0] [] [D.lst [D.int 1], D.int 2, D.int 0, D.int 1] = [D.int 1, D.int 0, D.int 2, D.lst [D.int 1]] from rfl]
    walk_at "dg"
  rintro i d env _ ⟨e2, e3, e4, e5, e6, e7, e8, e9, e10, e11, e12, e13, e14, e15, rfl⟩
  walk_at "dg"
  refine hB _ _ ?_
  clear hB hN
  refine seq_step fun N1 hN1 => ?_
  walk_at "dg"
  intro h ts x y h2 h4 ⟨t0, t1, t2⟩ x0 x1 y0 y1
  refine hN1 _ ?_
  clear hN1 N1
  have ro : RowOk h ts := ⟨h2, h4, t0, by omega, t2⟩
  refine seq_step fun N1 hN1 => ?_
  walk_at "dg"
  refine ⟨lg _ (by decide) (by decide), fun r r0 r1 => initX_good ro ?_⟩
  generalize hkk : 1 + r = kk
  have k2 : 1 ≤ kk := by omega
  have k3 : kk ≤ 5 := by omega
  clear hkk r0 r1 r
  have hK : min kk.toNat (ts.length - 1) < ts.length := by omega
  generalize hKd : min kk.toNat (ts.length - 1) = K at hK
  have gln := gain_len (a := x) (b := y) hK
  generalize hG : gainL K (sgn x y ts) = gs at gln
  refine hN1 _ ?_
  clear hN1 N1
  refine seq_step fun N1 hN1 => ?_
  walk_at "dg"
  refine ⟨ro, quest_ok (by omega) x0 x1 y0 y1 ⟨fun z => absurd z (by simp [isNum]; omega), fun i1 j1 n1 gs2 ei ej ek _ _ _ _ _ _ eg el => ?_⟩⟩
  subst ei ej ek
  rw [hKd, hG] at eg
  rw [eg, hKd]
  clear el eg gs2
  refine ⟨fun nn => ?_, fun m hm nn neg1 => ?_⟩
  · have right : nwB h ts (.int x) (.int y) (.int kk) (.lst (gs.map D.int)) = true := by
      rw [nw_val (by omega) (by simp [isNum]; omega) (by simp [isNum]; omega) (by simp [isNum]; omega), hKd, hG, decide_eq_true rfl, any_nn.mpr fun z mz => ?_]
      · rfl
      · obtain ⟨l, hl, rfl⟩ := List.getElem_of_mem mz
        have := nn l (by omega)
        rw [List.getD, List.getElem?_eq_getElem hl] at this
        exact this
    clear nn
    refine hN1 _ ?_
    clear hN1 N1
    refine seq_step fun N1 hN1 => ?_
    walk_at "dg"
    intro f hf
    have ff : f.flat = true ∧ f.dat = true := by
      simp only [List.mem_cons, List.not_mem_nil, or_false] at hf
      rcases hf with rfl | rfl | rfl | rfl | rfl | rfl | rfl <;> exact ⟨rfl, rfl⟩
    clear hf
    refine hN1 _ ?_
    clear hN1 N1
    refine seq_step fun N1 hN1 => ?_
    walk_at "dg"
    intro s hs
    have sf : s.flat = true ∧ s.dat = true := by
      simp only [List.mem_cons, List.not_mem_nil, or_false] at hs
      rcases hs with rfl | rfl | rfl | rfl | rfl | rfl | rfl <;> exact ⟨rfl, rfl⟩
    clear hs
    refine hN1 _ ?_
    clear hN1 N1
    refine seq_step fun N1 hN1 => ?_
    walk_at "dg"
    have gbits : ∀ n ∈ gs, n.natAbs < P9 := fun n hn => by
      rw [← hG, gainL_ray (by rw [sgn_length]; exact hK), sgn_length] at hn
      obtain ⟨j, hj, rfl⟩ := List.mem_map.mp hn
      exact p400 (gnR_bits (a := x) (b := y) hK (List.mem_range.mp hj) (by omega))
    left
    refine ⟨by omega, by omega, gbits, fun v bv => ?_⟩
    refine hN1 _ ?_
    clear hN1 N1
    refine seq_step fun N1 hN1 => ?_
    walk_at "dg"
    refine ⟨good_up bv.2.1, ?_⟩
    have tl : toL v = v := by
      cases v <;> first | rfl | exact bv.1.elim
    rw [tl]
    refine hN1 _ ?_
    clear hN1 N1
    refine seq_step fun N1 hN1 => ?_
    walk_at "dg"
    left
    refine ⟨good_up bv.2.1, ?_⟩
    rw [tl]
    refine hN1 _ ?_
    clear hN1 N1
    refine seq_step fun N1 hN1 => ?_
    walk_at "dg"
    left
    refine ⟨ro, by omega, y0, y1, ff.1, ff.2, sf.1, sf.2, bv, ?_⟩
    refine hN1 _ ?_
    clear hN1 N1
    refine seq_step fun N1 hN1 => ?_
    refine if_step fun U W hU hW => ?_
    walk_at "dg"
    have f1g : Flat1 (.lst (gs.map D.int)) := ⟨datL_ints, by rw [List.length_map]; omega⟩
    have dpg : 1 + depL (gs.map D.int) ≤ 10 := by have := depL_ints (ns := gs); omega
    have ro2 : RowOk h (ts ++ [0]) := ⟨h2, h4, by rw [List.length_append]; omega, by rw [List.length_append, List.length_singleton]; omega, fun t ht => by
      rcases List.mem_append.mp ht with ht | ht
      · exact t2 t ht
      · rw [List.mem_singleton.mp ht]
        omega⟩
    left
    refine ⟨ro, ff.2, sf.2, bv.1, by have := bv.2.2.1; omega, ?_⟩
    left
    refine ⟨ro, f1g, dpg, ?_⟩
    left
    refine .inl ⟨by omega, ?_⟩
    rw [show ts.map D.int ++ [D.int 0] = (ts ++ [0]).map D.int by rw [List.map_append]; rfl]
    refine initX_good ro2 ?_
    walk_at "dg"
    refine ⟨ro2, f1g, dpg, .inl ⟨⟨right, nw_longer gln (by omega)⟩, hW _ _ ?_⟩⟩
    clear hU hW U W
    refine hN1 _ ?_
    clear hN1 N1
    walk_at "dg"
    exact ⟨h, ts, rfl, ro, by omega, x0, x1, y0, y1, k2, by omega, rfl⟩
  · unfold woD rowD
    have gln2 : ((List.range ts.length).map (ray ts.length K m)).length = ts.length := by rw [List.length_map, List.length_range]
    have gbits2 : ∀ n ∈ (List.range ts.length).map (ray ts.length K m), n.natAbs < P9 := fun n hn => by
      obtain ⟨j, hj, rfl⟩ := List.mem_map.mp hn
      exact p400 (ray_b400 hK hm (by omega))
    have right : woB h ts (.int x) (.int y) (.int kk) (.lst (((List.range ts.length).map (ray ts.length K m)).map D.int)) = true := by
      have e0 := tot_sub (ts := ts) (ws := (List.range ts.length).map (ray ts.length K m)) gln2 (a := x) (b := y) ts.length (Nat.le_refl _)
      rw [List.take_of_length_le (Nat.le_refl _), List.take_of_length_le (by omega)] at e0
      rw [dotR_congr (g := ray ts.length K m) fun i hi => getD_range hi, ← gain_at hK hm, hG] at e0
      rw [wo_val (by omega) (by simp [isNum]; omega) (by simp [isNum]; omega) (by simp [isNum]; omega), hKd, decide_eq_true gln2, ray_class hK hm, decide_eq_true (show tot ts ((List.range ts.length).map (ray ts.length K m)) x < tot ts ((List.range ts.length).map (ray ts.length K m)) y by omega)]
      rfl
    clear nn neg1 gln hG gs
    generalize (List.range ts.length).map (ray ts.length K m) = gs at *
    have gln := gln2
    have gbits := gbits2
    clear gln2 gbits2
    refine hN1 _ ?_
    clear hN1 N1
    refine seq_step fun N1 hN1 => ?_
    walk_at "dg"
    intro f hf
    have ff : f.flat = true ∧ f.dat = true := by
      simp only [List.mem_cons, List.not_mem_nil, or_false] at hf
      rcases hf with rfl | rfl | rfl | rfl | rfl | rfl | rfl <;> exact ⟨rfl, rfl⟩
    clear hf
    refine hN1 _ ?_
    clear hN1 N1
    refine seq_step fun N1 hN1 => ?_
    walk_at "dg"
    intro s hs
    have sf : s.flat = true ∧ s.dat = true := by
      simp only [List.mem_cons, List.not_mem_nil, or_false] at hs
      rcases hs with rfl | rfl | rfl | rfl | rfl | rfl | rfl <;> exact ⟨rfl, rfl⟩
    clear hs
    refine hN1 _ ?_
    clear hN1 N1
    refine seq_step fun N1 hN1 => ?_
    walk_at "dg"
    right
    refine ⟨by omega, by omega, gbits, fun v bv => ?_⟩
    refine hN1 _ ?_
    clear hN1 N1
    refine seq_step fun N1 hN1 => ?_
    walk_at "dg"
    refine ⟨good_up bv.2.1, ?_⟩
    have tl : toL v = v := by
      cases v <;> first | rfl | exact bv.1.elim
    rw [tl]
    refine hN1 _ ?_
    clear hN1 N1
    refine seq_step fun N1 hN1 => ?_
    walk_at "dg"
    right
    refine hN1 _ ?_
    clear hN1 N1
    refine seq_step fun N1 hN1 => ?_
    walk_at "dg"
    right
    refine ⟨ro, by omega, y0, y1, ff.1, ff.2, sf.1, sf.2, bv, ?_⟩
    refine hN1 _ ?_
    clear hN1 N1
    refine seq_step fun N1 hN1 => ?_
    refine if_step fun U W hU hW => ?_
    walk_at "dg"
    have f1g : Flat1 (.lst (gs.map D.int)) := ⟨datL_ints, by rw [List.length_map]; omega⟩
    have dpg : 1 + depL (gs.map D.int) ≤ 10 := by have := depL_ints (ns := gs); omega
    have ro2 : RowOk h (ts ++ [0]) := ⟨h2, h4, by rw [List.length_append]; omega, by rw [List.length_append, List.length_singleton]; omega, fun t ht => by
      rcases List.mem_append.mp ht with ht | ht
      · exact t2 t ht
      · rw [List.mem_singleton.mp ht]
        omega⟩
    right
    refine ⟨ro, ff.2, sf.2, bv.1, by have := bv.2.2.1; omega, ?_⟩
    right
    refine ⟨ro, f1g, dpg, ?_⟩
    right
    refine .inr ⟨by omega, ?_⟩
    rw [show ts.map D.int ++ [D.int 0] = (ts ++ [0]).map D.int by rw [List.map_append]; rfl]
    refine initX_good ro2 ?_
    walk_at "dg"
    refine ⟨ro2, f1g, dpg, .inr ⟨⟨right, wo_longer gln⟩, hW _ _ ?_⟩⟩
    clear hU hW U W
    refine hN1 _ ?_
    clear hN1 N1
    walk_at "dg"
    exact ⟨h, ts, rfl, ro, by omega, x0, x1, y0, y1, k2, by omega, rfl⟩
end
end DL
set_option maxHeartbeats 0
namespace Hd
open PySem PySem.Spec L2 DL
@[reducible] instance tb0 : TbC := ⟨[], fun _ => ⟨"", defArgs s_law, .Constant .none 0 ⟨0, 0, 0, 0⟩, defScope s_law, []⟩⟩
theorem facts {P : Program} {w : World} {K : PySem.W.Frag} {h : Heap} {mg : Str → Option Value} {f : Addr} (X : K.In h) (G : h.Ns mainGlobals mg) (hfa : mg ("law" : Str) = some (.ref f)) (hfile : P.main.file = PySem.Challenge.pw_evenpicks_k30_bent_papers_of_classes_fal.main.file) (htop : (P.main.scope.names.lookup ("super" : Str)).isSome = false) (c : Hx.SaysX fx fn K) :
    ∃ fd : FuncData, (∀ (s : Shared) (v : Value), BindsTo s fd ⟨[v], []⟩ [("_law_script", v)]) ∧ ∀ base : Heap, K.In base → base.Ns mainGlobals mg → FnOk P w K mg base (L2.CX P w) 20 f fd ["_law_script"] (spLaw K) := by
  obtain ⟨fd_law, F_law⟩ := c.def_ 56 (d := Hd.d_law) rfl
  obtain ⟨fd__law_bag, F__law_bag⟩ := c.def_ 33 (d := Hd.d__law_bag) rfl
  obtain ⟨fd__law_question, F__law_question⟩ := c.def_ 47 (d := Hd.d__law_question) rfl
  obtain ⟨fd__law_hands, F__law_hands⟩ := c.def_ 39 (d := Hd.d__law_hands) rfl
  obtain ⟨fd__law_some_turns, F__law_some_turns⟩ := c.def_ 42 (d := Hd.d__law_some_turns) rfl
  obtain ⟨fd__law_even_turns, F__law_even_turns⟩ := c.def_ 40 (d := Hd.d__law_even_turns) rfl
  obtain ⟨fd__law_doubled, F__law_doubled⟩ := c.def_ 41 (d := Hd.d__law_doubled) rfl
  obtain ⟨fd__law_turns, F__law_turns⟩ := c.def_ 38 (d := Hd.d__law_turns) rfl
  obtain ⟨fd__law_pull, F__law_pull⟩ := c.def_ 34 (d := Hd.d__law_pull) rfl
  obtain ⟨fd_check_hands, F_check_hands⟩ := c.def_ 8 (d := Hd.d_check_hands) rfl
  obtain ⟨fd_is_number, F_is_number⟩ := c.def_ 0 (d := Hd.d_is_number) rfl
  obtain ⟨fd_compare, F_compare⟩ := c.def_ 27 (d := Hd.d_compare) rfl
  obtain ⟨fd_gains, F_gains⟩ := c.def_ 21 (d := Hd.d_gains) rfl
  obtain ⟨fd_check_question, F_check_question⟩ := c.def_ 18 (d := Hd.d_check_question) rfl
  obtain ⟨fd_check_hand, F_check_hand⟩ := c.def_ 9 (d := Hd.d_check_hand) rfl
  obtain ⟨fd_check_class, F_check_class⟩ := c.def_ 15 (d := Hd.d_check_class) rfl
  obtain ⟨fd_gains_of, F_gains_of⟩ := c.def_ 20 (d := Hd.d_gains_of) rfl
  obtain ⟨fd_summed, F_summed⟩ := c.def_ 19 (d := Hd.d_summed) rfl
  obtain ⟨fd_rays, F_rays⟩ := c.def_ 17 (d := Hd.d_rays) rfl
  obtain ⟨fd_choose, F_choose⟩ := c.def_ 2 (d := Hd.d_choose) rfl
  obtain ⟨fd_as_list, F_as_list⟩ := c.def_ 6 (d := Hd.d_as_list) rfl
  obtain ⟨fd_copied, F_copied⟩ := c.def_ 7 (d := Hd.d_copied) rfl
  obtain ⟨fd__law_pick, F__law_pick⟩ := c.def_ 35 (d := Hd.d__law_pick) rfl
  obtain ⟨fd__law_bent, F__law_bent⟩ := c.def_ 50 (d := Hd.d__law_bent) rfl
  obtain ⟨fd__law_number, F__law_number⟩ := c.def_ 43 (d := Hd.d__law_number) rfl
  obtain ⟨fd__law_due_so, F__law_due_so⟩ := c.def_ 55 (d := Hd.d__law_due_so) rfl
  obtain ⟨fd__law_numbers_so, F__law_numbers_so⟩ := c.def_ 51 (d := Hd.d__law_numbers_so) rfl
  obtain ⟨fd__law_rays, F__law_rays⟩ := c.def_ 46 (d := Hd.d__law_rays) rfl
  obtain ⟨fd__law_choose, F__law_choose⟩ := c.def_ 37 (d := Hd.d__law_choose) rfl
  obtain ⟨fd__law_gain, F__law_gain⟩ := c.def_ 49 (d := Hd.d__law_gain) rfl
  obtain ⟨fd__law_signs, F__law_signs⟩ := c.def_ 48 (d := Hd.d__law_signs) rfl
  obtain ⟨fd__law_of_class, F__law_of_class⟩ := c.def_ 45 (d := Hd.d__law_of_class) rfl
  obtain ⟨fd__law_minus, F__law_minus⟩ := c.def_ 44 (d := Hd.d__law_minus) rfl
  obtain ⟨fd__law_same, F__law_same⟩ := c.def_ 36 (d := Hd.d__law_same) rfl
  obtain ⟨fd_are_hands, F_are_hands⟩ := c.def_ 22 (d := Hd.d_are_hands) rfl
  obtain ⟨fd_are_numbers, F_are_numbers⟩ := c.def_ 1 (d := Hd.d_are_numbers) rfl
  obtain ⟨fd_are_of_class, F_are_of_class⟩ := c.def_ 16 (d := Hd.d_are_of_class) rfl
  obtain ⟨fd_differences, F_differences⟩ := c.def_ 5 (d := Hd.d_differences) rfl
  obtain ⟨fd__law_gains_so, F__law_gains_so⟩ := c.def_ 54 (d := Hd.d__law_gains_so) rfl
  obtain ⟨fd_greatest_gain, F_greatest_gain⟩ := c.def_ 32 (d := Hd.d_greatest_gain) rfl
  obtain ⟨fd_lowest, F_lowest⟩ := c.def_ 4 (d := Hd.d_lowest) rfl
  obtain ⟨fd_divisor, F_divisor⟩ := c.def_ 3 (d := Hd.d_divisor) rfl
  obtain ⟨fd_is_fraction, F_is_fraction⟩ := c.def_ 28 (d := Hd.d_is_fraction) rfl
  obtain ⟨fd__law_gain_alone_so, F__law_gain_alone_so⟩ := c.def_ 52 (d := Hd.d__law_gain_alone_so) rfl
  obtain ⟨fd__law_long_papers_so, F__law_long_papers_so⟩ := c.def_ 53 (d := Hd.d__law_long_papers_so) rfl
  obtain ⟨cc_InvalidHands, cda_InvalidHands, fd_InvalidHands, F_InvalidHands⟩ := c.sup_ 70 (d := Hd.d_InvalidHands___init__) rfl rfl rfl
  let X_InvalidHands : Xe K mg P.main.file "InvalidHands" s_InvalidHands___init__ := { C := He.ga K "InvalidHands", f := He.ma K (He.ga K "InvalidHands") "__init__", cc := cc_InvalidHands, cda := cda_InvalidHands, fd := fd_InvalidHands, g := He.glo_ok X G (c.fact 0 (f := Hx.fGlo "InvalidHands") rfl), e := Hx.err_ok (c.fact 74 (f := Hx.fErr "InvalidHands") rfl), F := by rw [hfile]; exact F_InvalidHands }
  obtain ⟨cc_InvalidTurn, cda_InvalidTurn, fd_InvalidTurn, F_InvalidTurn⟩ := c.sup_ 72 (d := Hd.d_InvalidTurn___init__) rfl rfl rfl
  let X_InvalidTurn : Xe K mg P.main.file "InvalidTurn" s_InvalidTurn___init__ := { C := He.ga K "InvalidTurn", f := He.ma K (He.ga K "InvalidTurn") "__init__", cc := cc_InvalidTurn, cda := cda_InvalidTurn, fd := fd_InvalidTurn, g := He.glo_ok X G (c.fact 2 (f := Hx.fGlo "InvalidTurn") rfl), e := Hx.err_ok (c.fact 76 (f := Hx.fErr "InvalidTurn") rfl), F := by rw [hfile]; exact F_InvalidTurn }
  obtain ⟨cc_InvalidHand, cda_InvalidHand, fd_InvalidHand, F_InvalidHand⟩ := c.sup_ 71 (d := Hd.d_InvalidHand___init__) rfl rfl rfl
  let X_InvalidHand : Xe K mg P.main.file "InvalidHand" s_InvalidHand___init__ := { C := He.ga K "InvalidHand", f := He.ma K (He.ga K "InvalidHand") "__init__", cc := cc_InvalidHand, cda := cda_InvalidHand, fd := fd_InvalidHand, g := He.glo_ok X G (c.fact 1 (f := Hx.fGlo "InvalidHand") rfl), e := Hx.err_ok (c.fact 75 (f := Hx.fErr "InvalidHand") rfl), F := by rw [hfile]; exact F_InvalidHand }
  obtain ⟨cc_TooLong, cda_TooLong, fd_TooLong, F_TooLong⟩ := c.sup_ 75 (d := Hd.d_TooLong___init__) rfl rfl rfl
  let X_TooLong : Xe K mg P.main.file "TooLong" s_TooLong___init__ := { C := He.ga K "TooLong", f := He.ma K (He.ga K "TooLong") "__init__", cc := cc_TooLong, cda := cda_TooLong, fd := fd_TooLong, g := He.glo_ok X G (c.fact 5 (f := Hx.fGlo "TooLong") rfl), e := Hx.err_ok (c.fact 79 (f := Hx.fErr "TooLong") rfl), F := by rw [hfile]; exact F_TooLong }
  obtain ⟨cc_InvalidNumber, cda_InvalidNumber, fd_InvalidNumber, F_InvalidNumber⟩ := c.sup_ 73 (d := Hd.d_InvalidNumber___init__) rfl rfl rfl
  let X_InvalidNumber : Xe K mg P.main.file "InvalidNumber" s_InvalidNumber___init__ := { C := He.ga K "InvalidNumber", f := He.ma K (He.ga K "InvalidNumber") "__init__", cc := cc_InvalidNumber, cda := cda_InvalidNumber, fd := fd_InvalidNumber, g := He.glo_ok X G (c.fact 3 (f := Hx.fGlo "InvalidNumber") rfl), e := Hx.err_ok (c.fact 77 (f := Hx.fErr "InvalidNumber") rfl), F := by rw [hfile]; exact F_InvalidNumber }
  obtain ⟨cc_InvalidWorths, cda_InvalidWorths, fd_InvalidWorths, F_InvalidWorths⟩ := c.sup_ 74 (d := Hd.d_InvalidWorths___init__) rfl rfl rfl
  let X_InvalidWorths : Xe K mg P.main.file "InvalidWorths" s_InvalidWorths___init__ := { C := He.ga K "InvalidWorths", f := He.ma K (He.ga K "InvalidWorths") "__init__", cc := cc_InvalidWorths, cda := cda_InvalidWorths, fd := fd_InvalidWorths, g := He.glo_ok X G (c.fact 4 (f := Hx.fGlo "InvalidWorths") rfl), e := Hx.err_ok (c.fact 78 (f := Hx.fErr "InvalidWorths") rfl), F := by rw [hfile]; exact F_InvalidWorths }
  obtain ⟨fd_Row___init__, F_Row___init__⟩ := c.def_ 10 (d := Hd.d_Row___init__) rfl
  obtain ⟨fd_Row_turns, F_Row_turns⟩ := c.def_ 12 (d := Hd.d_Row_turns) rfl
  obtain ⟨fd_Row_totals, F_Row_totals⟩ := c.def_ 13 (d := Hd.d_Row_totals) rfl
  obtain ⟨fd_Row___len__, F_Row___len__⟩ := c.def_ 14 (d := Hd.d_Row___len__) rfl
  obtain ⟨fd_Row_read, F_Row_read⟩ := c.def_ 11 (d := Hd.d_Row_read) rfl
  let K_Row : Kx_Row K mg := { C := He.ga K "Row", g := He.glo_ok X G (c.fact 18 (f := Hx.fGlo "Row") rfl), cls := He.cls_ok (c.fact 80 (f := Hx.fCls "Row") rfl), n_hands := He.noat_ok (c.fact 82 (f := Hx.fNoat "Row" "hands") rfl), n_own_turns := He.noat_ok (c.fact 83 (f := Hx.fNoat "Row" "own_turns") rfl), D___init__ := ⟨He.ma K (He.ga K "Row") "__init__", fd_Row___init__, F_Row___init__⟩, mkr := He.mkr_ok (c.fact 81 (f := Hx.fMkr "Row") rfl), D_turns := ⟨He.ma K (He.ga K "Row") "turns", fd_Row_turns, F_Row_turns⟩, h_turns := He.meth_ok (c.fact 85 (f := Hx.fMeth "Row" "turns") rfl), D_totals := ⟨He.ma K (He.ga K "Row") "totals", fd_Row_totals, F_Row_totals⟩, h_totals := He.meth_ok (c.fact 86 (f := Hx.fMeth "Row" "totals") rfl), D___len__ := ⟨He.ma K (He.ga K "Row") "__len__", fd_Row___len__, F_Row___len__⟩, o___len__ := Hx.own_ok (c.fact 87 (f := Hx.fOwn "Row" "__len__") rfl), D_read := ⟨Hx.rA "staticmethod" "Row" "read" K, fd_Row_read, F_Row_read⟩, tp_read := He.ma K (He.ga K "Row") "read", t_read := Hx.stat_ok (c.fact 84 (f := Hx.fStat "Row" "read") rfl) }
  obtain ⟨cc_NeverWorse___init__, cda_NeverWorse___init__, fd_NeverWorse___init__, F_NeverWorse___init__⟩ := c.sup_ 57 (d := Hd.d_NeverWorse___init__) rfl rfl rfl
  obtain ⟨fd_NeverWorse_sup___init__, F_NeverWorse_sup___init__⟩ := c.def_ 58 (d := Hd.d_NeverWorse_sup___init__) rfl
  obtain ⟨fd_NeverWorse_numbers, F_NeverWorse_numbers⟩ := c.def_ 23 (d := Hd.d_NeverWorse_numbers) rfl
  obtain ⟨fd_NeverWorse_holds, F_NeverWorse_holds⟩ := c.def_ 24 (d := Hd.d_NeverWorse_holds) rfl
  obtain ⟨fd_NeverWorse_fits, F_NeverWorse_fits⟩ := c.def_ 59 (d := Hd.d_NeverWorse_fits) rfl
  obtain ⟨fd_NeverWorse_told, F_NeverWorse_told⟩ := c.def_ 60 (d := Hd.d_NeverWorse_told) rfl
  obtain ⟨fd_NeverWorse___bool__, F_NeverWorse___bool__⟩ := c.def_ 61 (d := Hd.d_NeverWorse___bool__) rfl
  let K_NeverWorse : Kx_NeverWorse K mg P.main.file := { C := He.ga K "NeverWorse", g := He.glo_ok X G (c.fact 28 (f := Hx.fGlo "NeverWorse") rfl), cls := He.cls_ok (c.fact 88 (f := Hx.fCls "NeverWorse") rfl), n_own_numbers := He.noat_ok (c.fact 93 (f := Hx.fNoat "NeverWorse" "own_numbers") rfl), n_own_one := He.noat_ok (c.fact 94 (f := Hx.fNoat "NeverWorse" "own_one") rfl), n_own_other := He.noat_ok (c.fact 95 (f := Hx.fNoat "NeverWorse" "own_other") rfl), n_own_k := He.noat_ok (c.fact 96 (f := Hx.fNoat "NeverWorse" "own_k") rfl), D___init__ := { f := He.ma K (He.ga K "NeverWorse") "__init__", cc := cc_NeverWorse___init__, cda := cda_NeverWorse___init__, fd := fd_NeverWorse___init__, F := by rw [hfile]; exact F_NeverWorse___init__ }, D_sup___init__ := ⟨Hx.sA "NeverWorse" "__init__" K, fd_NeverWorse_sup___init__, F_NeverWorse_sup___init__⟩, su___init__ := Hx.supM_ok (c.fact 92 (f := Hx.fSup "NeverWorse" "__init__") rfl), mkr := He.mkr_ok (c.fact 89 (f := Hx.fMkr "NeverWorse") rfl), D_numbers := ⟨He.ma K (He.ga K "NeverWorse") "numbers", fd_NeverWorse_numbers, F_NeverWorse_numbers⟩, h_numbers := He.meth_ok (c.fact 97 (f := Hx.fMeth "NeverWorse" "numbers") rfl), D_holds := ⟨He.ma K (He.ga K "NeverWorse") "holds", fd_NeverWorse_holds, F_NeverWorse_holds⟩, h_holds := He.meth_ok (c.fact 98 (f := Hx.fMeth "NeverWorse" "holds") rfl), D_fits := ⟨He.ma K (He.ga K "NeverWorse") "fits", fd_NeverWorse_fits, F_NeverWorse_fits⟩, h_fits := He.meth_ok (c.fact 99 (f := Hx.fMeth "NeverWorse" "fits") rfl), D_told := ⟨He.ma K (He.ga K "NeverWorse") "told", fd_NeverWorse_told, F_NeverWorse_told⟩, h_told := He.meth_ok (c.fact 100 (f := Hx.fMeth "NeverWorse" "told") rfl), D___bool__ := ⟨He.ma K (He.ga K "NeverWorse") "__bool__", fd_NeverWorse___bool__, F_NeverWorse___bool__⟩, o___bool__ := Hx.own_ok (c.fact 101 (f := Hx.fOwn "NeverWorse" "__bool__") rfl), c_KIND := Hx.con_ok (c.fact 90 (f := Hx.fCon "NeverWorse" "KIND" (.str "never worse")) rfl), c_GOOD := Hx.con_ok (c.fact 91 (f := Hx.fCon "NeverWorse" "GOOD" (.bl true)) rfl) }
  obtain ⟨cc_Worse___init__, cda_Worse___init__, fd_Worse___init__, F_Worse___init__⟩ := c.sup_ 62 (d := Hd.d_Worse___init__) rfl rfl rfl
  obtain ⟨fd_Worse_sup___init__, F_Worse_sup___init__⟩ := c.def_ 63 (d := Hd.d_Worse_sup___init__) rfl
  obtain ⟨fd_Worse_worths, F_Worse_worths⟩ := c.def_ 25 (d := Hd.d_Worse_worths) rfl
  obtain ⟨fd_Worse_holds, F_Worse_holds⟩ := c.def_ 26 (d := Hd.d_Worse_holds) rfl
  obtain ⟨fd_Worse_fits, F_Worse_fits⟩ := c.def_ 64 (d := Hd.d_Worse_fits) rfl
  obtain ⟨fd_Worse_told, F_Worse_told⟩ := c.def_ 65 (d := Hd.d_Worse_told) rfl
  obtain ⟨fd_Worse___bool__, F_Worse___bool__⟩ := c.def_ 66 (d := Hd.d_Worse___bool__) rfl
  let K_Worse : Kx_Worse K mg P.main.file := { C := He.ga K "Worse", g := He.glo_ok X G (c.fact 29 (f := Hx.fGlo "Worse") rfl), cls := He.cls_ok (c.fact 102 (f := Hx.fCls "Worse") rfl), n_own_worths := He.noat_ok (c.fact 107 (f := Hx.fNoat "Worse" "own_worths") rfl), n_own_one := He.noat_ok (c.fact 108 (f := Hx.fNoat "Worse" "own_one") rfl), n_own_other := He.noat_ok (c.fact 109 (f := Hx.fNoat "Worse" "own_other") rfl), n_own_k := He.noat_ok (c.fact 110 (f := Hx.fNoat "Worse" "own_k") rfl), D___init__ := { f := He.ma K (He.ga K "Worse") "__init__", cc := cc_Worse___init__, cda := cda_Worse___init__, fd := fd_Worse___init__, F := by rw [hfile]; exact F_Worse___init__ }, D_sup___init__ := ⟨Hx.sA "Worse" "__init__" K, fd_Worse_sup___init__, F_Worse_sup___init__⟩, su___init__ := Hx.supM_ok (c.fact 106 (f := Hx.fSup "Worse" "__init__") rfl), mkr := He.mkr_ok (c.fact 103 (f := Hx.fMkr "Worse") rfl), D_worths := ⟨He.ma K (He.ga K "Worse") "worths", fd_Worse_worths, F_Worse_worths⟩, h_worths := He.meth_ok (c.fact 111 (f := Hx.fMeth "Worse" "worths") rfl), D_holds := ⟨He.ma K (He.ga K "Worse") "holds", fd_Worse_holds, F_Worse_holds⟩, h_holds := He.meth_ok (c.fact 112 (f := Hx.fMeth "Worse" "holds") rfl), D_fits := ⟨He.ma K (He.ga K "Worse") "fits", fd_Worse_fits, F_Worse_fits⟩, h_fits := He.meth_ok (c.fact 113 (f := Hx.fMeth "Worse" "fits") rfl), D_told := ⟨He.ma K (He.ga K "Worse") "told", fd_Worse_told, F_Worse_told⟩, h_told := He.meth_ok (c.fact 114 (f := Hx.fMeth "Worse" "told") rfl), D___bool__ := ⟨He.ma K (He.ga K "Worse") "__bool__", fd_Worse___bool__, F_Worse___bool__⟩, o___bool__ := Hx.own_ok (c.fact 115 (f := Hx.fOwn "Worse" "__bool__") rfl), c_KIND := Hx.con_ok (c.fact 104 (f := Hx.fCon "Worse" "KIND" (.str "worse")) rfl), c_GOOD := Hx.con_ok (c.fact 105 (f := Hx.fCon "Worse" "GOOD" (.bl false)) rfl) }
  obtain ⟨cc_Gain___init__, cda_Gain___init__, fd_Gain___init__, F_Gain___init__⟩ := c.sup_ 67 (d := Hd.d_Gain___init__) rfl rfl rfl
  obtain ⟨fd_Gain_sup___init__, F_Gain_sup___init__⟩ := c.def_ 68 (d := Hd.d_Gain_sup___init__) rfl
  obtain ⟨fd_Gain_worths, F_Gain_worths⟩ := c.def_ 30 (d := Hd.d_Gain_worths) rfl
  obtain ⟨fd_Gain_holds, F_Gain_holds⟩ := c.def_ 31 (d := Hd.d_Gain_holds) rfl
  obtain ⟨fd_Gain_fits, F_Gain_fits⟩ := c.def_ 69 (d := Hd.d_Gain_fits) rfl
  obtain ⟨fd_Gain_amount, F_Gain_amount⟩ := c.def_ 29 (d := Hd.d_Gain_amount) rfl
  let K_Gain : Kx_Gain K mg P.main.file := { C := He.ga K "Gain", g := He.glo_ok X G (c.fact 32 (f := Hx.fGlo "Gain") rfl), cls := He.cls_ok (c.fact 116 (f := Hx.fCls "Gain") rfl), n_own_amount := He.noat_ok (c.fact 119 (f := Hx.fNoat "Gain" "own_amount") rfl), n_own_worths := He.noat_ok (c.fact 120 (f := Hx.fNoat "Gain" "own_worths") rfl), n_own_one := He.noat_ok (c.fact 121 (f := Hx.fNoat "Gain" "own_one") rfl), n_own_other := He.noat_ok (c.fact 122 (f := Hx.fNoat "Gain" "own_other") rfl), n_own_k := He.noat_ok (c.fact 123 (f := Hx.fNoat "Gain" "own_k") rfl), D___init__ := { f := He.ma K (He.ga K "Gain") "__init__", cc := cc_Gain___init__, cda := cda_Gain___init__, fd := fd_Gain___init__, F := by rw [hfile]; exact F_Gain___init__ }, D_sup___init__ := ⟨Hx.sA "Gain" "__init__" K, fd_Gain_sup___init__, F_Gain_sup___init__⟩, su___init__ := Hx.supM_ok (c.fact 118 (f := Hx.fSup "Gain" "__init__") rfl), mkr := He.mkr_ok (c.fact 117 (f := Hx.fMkr "Gain") rfl), D_worths := ⟨He.ma K (He.ga K "Gain") "worths", fd_Gain_worths, F_Gain_worths⟩, h_worths := He.meth_ok (c.fact 125 (f := Hx.fMeth "Gain" "worths") rfl), D_holds := ⟨He.ma K (He.ga K "Gain") "holds", fd_Gain_holds, F_Gain_holds⟩, h_holds := He.meth_ok (c.fact 126 (f := Hx.fMeth "Gain" "holds") rfl), D_fits := ⟨He.ma K (He.ga K "Gain") "fits", fd_Gain_fits, F_Gain_fits⟩, h_fits := He.meth_ok (c.fact 127 (f := Hx.fMeth "Gain" "fits") rfl), D_amount := ⟨Hx.rA "property" "Gain" "amount" K, fd_Gain_amount, F_Gain_amount⟩, q_amount := He.ma K (He.ga K "Gain") "amount", p_amount := Hx.prop_ok (c.fact 124 (f := Hx.fProp "Gain" "amount") rfl) }
  have e := hfa.symm.trans (He.glo_ok X G (c.fact 57 (f := Hx.fGlo "law") rfl))
  cases e
  have b := FunD.bindsA (ps := ["_law_script"]) F_law fun _ _ _ _ _ _ us hl => match us, hl with | [_], _ => rfl
  exact ⟨fd_law, fun s v => b s [v] rfl, fun base _ _ => ok_law (T := ⟨He.free_ok X G (c.fact 58 (f := Hx.fFree "isinstance") rfl), He.free_ok X G (c.fact 59 (f := Hx.fFree "int") rfl), He.free_ok X G (c.fact 60 (f := Hx.fFree "bool") rfl), He.free_ok X G (c.fact 61 (f := Hx.fFree "str") rfl), He.free_ok X G (c.fact 62 (f := Hx.fFree "list") rfl), He.free_ok X G (c.fact 63 (f := Hx.fFree "tuple") rfl), He.free_ok X G (c.fact 64 (f := Hx.fFree "len") rfl), He.free_ok X G (c.fact 65 (f := Hx.fFree "range") rfl), He.free_ok X G (c.fact 66 (f := Hx.fFree "zip") rfl), He.free_ok X G (c.fact 67 (f := Hx.fFree "enumerate") rfl), He.free_ok X G (c.fact 68 (f := Hx.fFree "sum") rfl), He.free_ok X G (c.fact 69 (f := Hx.fFree "min") rfl), He.free_ok X G (c.fact 70 (f := Hx.fFree "all") rfl), He.free_ok X G (c.fact 71 (f := Hx.fFree "any") rfl), He.free_ok X G (c.fact 72 (f := Hx.fFree "abs") rfl), He.free_ok X G (c.fact 73 (f := Hx.fFree "super") rfl), He.int_ok X G (c.fact 14 (f := Hx.fInt "MOST_TURNS" 2000) rfl), He.int_ok X G (c.fact 19 (f := Hx.fInt "MOST_PLACES" 200) rfl), He.str_ok X G (c.fact 15 (f := Hx.fStr "DIGITS" "0123") rfl)⟩) (K_Row := K_Row) (K_NeverWorse := K_NeverWorse) (K_Worse := K_Worse) (K_Gain := K_Gain) (X_InvalidHands := X_InvalidHands) (X_InvalidTurn := X_InvalidTurn) (X_InvalidHand := X_InvalidHand) (X_TooLong := X_TooLong) (X_InvalidNumber := X_InvalidNumber) (X_InvalidWorths := X_InvalidWorths) (D_law := ⟨Hx.gA "law" K, fd_law, F_law, He.glo_ok X G (c.fact 57 (f := Hx.fGlo "law") rfl)⟩) (D__law_bag := ⟨Hx.gA "_law_bag" K, fd__law_bag, F__law_bag, He.glo_ok X G (c.fact 34 (f := Hx.fGlo "_law_bag") rfl)⟩) (D__law_question := ⟨Hx.gA "_law_question" K, fd__law_question, F__law_question, He.glo_ok X G (c.fact 48 (f := Hx.fGlo "_law_question") rfl)⟩) (D__law_hands := ⟨Hx.gA "_law_hands" K, fd__law_hands, F__law_hands, He.glo_ok X G (c.fact 40 (f := Hx.fGlo "_law_hands") rfl)⟩) (D__law_some_turns := ⟨Hx.gA "_law_some_turns" K, fd__law_some_turns, F__law_some_turns, He.glo_ok X G (c.fact 43 (f := Hx.fGlo "_law_some_turns") rfl)⟩) (D__law_even_turns := ⟨Hx.gA "_law_even_turns" K, fd__law_even_turns, F__law_even_turns, He.glo_ok X G (c.fact 41 (f := Hx.fGlo "_law_even_turns") rfl)⟩) (D__law_doubled := ⟨Hx.gA "_law_doubled" K, fd__law_doubled, F__law_doubled, He.glo_ok X G (c.fact 42 (f := Hx.fGlo "_law_doubled") rfl)⟩) (D__law_turns := ⟨Hx.gA "_law_turns" K, fd__law_turns, F__law_turns, He.glo_ok X G (c.fact 39 (f := Hx.fGlo "_law_turns") rfl)⟩) (D__law_pull := ⟨Hx.gA "_law_pull" K, fd__law_pull, F__law_pull, He.glo_ok X G (c.fact 35 (f := Hx.fGlo "_law_pull") rfl)⟩) (D_check_hands := ⟨Hx.gA "check_hands" K, fd_check_hands, F_check_hands, He.glo_ok X G (c.fact 16 (f := Hx.fGlo "check_hands") rfl)⟩) (D_is_number := ⟨Hx.gA "is_number" K, fd_is_number, F_is_number, He.glo_ok X G (c.fact 6 (f := Hx.fGlo "is_number") rfl)⟩) (D_compare := ⟨Hx.gA "compare" K, fd_compare, F_compare, He.glo_ok X G (c.fact 30 (f := Hx.fGlo "compare") rfl)⟩) (D_gains := ⟨Hx.gA "gains" K, fd_gains, F_gains, He.glo_ok X G (c.fact 26 (f := Hx.fGlo "gains") rfl)⟩) (D_check_question := ⟨Hx.gA "check_question" K, fd_check_question, F_check_question, He.glo_ok X G (c.fact 23 (f := Hx.fGlo "check_question") rfl)⟩) (D_check_hand := ⟨Hx.gA "check_hand" K, fd_check_hand, F_check_hand, He.glo_ok X G (c.fact 17 (f := Hx.fGlo "check_hand") rfl)⟩) (D_check_class := ⟨Hx.gA "check_class" K, fd_check_class, F_check_class, He.glo_ok X G (c.fact 20 (f := Hx.fGlo "check_class") rfl)⟩) (D_gains_of := ⟨Hx.gA "gains_of" K, fd_gains_of, F_gains_of, He.glo_ok X G (c.fact 25 (f := Hx.fGlo "gains_of") rfl)⟩) (D_summed := ⟨Hx.gA "summed" K, fd_summed, F_summed, He.glo_ok X G (c.fact 24 (f := Hx.fGlo "summed") rfl)⟩) (D_rays := ⟨Hx.gA "rays" K, fd_rays, F_rays, He.glo_ok X G (c.fact 22 (f := Hx.fGlo "rays") rfl)⟩) (D_choose := ⟨Hx.gA "choose" K, fd_choose, F_choose, He.glo_ok X G (c.fact 8 (f := Hx.fGlo "choose") rfl)⟩) (D_as_list := ⟨Hx.gA "as_list" K, fd_as_list, F_as_list, He.glo_ok X G (c.fact 12 (f := Hx.fGlo "as_list") rfl)⟩) (D_copied := ⟨Hx.gA "copied" K, fd_copied, F_copied, He.glo_ok X G (c.fact 13 (f := Hx.fGlo "copied") rfl)⟩) (D__law_pick := ⟨Hx.gA "_law_pick" K, fd__law_pick, F__law_pick, He.glo_ok X G (c.fact 36 (f := Hx.fGlo "_law_pick") rfl)⟩) (D__law_bent := ⟨Hx.gA "_law_bent" K, fd__law_bent, F__law_bent, He.glo_ok X G (c.fact 51 (f := Hx.fGlo "_law_bent") rfl)⟩) (D__law_number := ⟨Hx.gA "_law_number" K, fd__law_number, F__law_number, He.glo_ok X G (c.fact 44 (f := Hx.fGlo "_law_number") rfl)⟩) (D__law_due_so := ⟨Hx.gA "_law_due_so" K, fd__law_due_so, F__law_due_so, He.glo_ok X G (c.fact 56 (f := Hx.fGlo "_law_due_so") rfl)⟩) (D__law_numbers_so := ⟨Hx.gA "_law_numbers_so" K, fd__law_numbers_so, F__law_numbers_so, He.glo_ok X G (c.fact 52 (f := Hx.fGlo "_law_numbers_so") rfl)⟩) (D__law_rays := ⟨Hx.gA "_law_rays" K, fd__law_rays, F__law_rays, He.glo_ok X G (c.fact 47 (f := Hx.fGlo "_law_rays") rfl)⟩) (D__law_choose := ⟨Hx.gA "_law_choose" K, fd__law_choose, F__law_choose, He.glo_ok X G (c.fact 38 (f := Hx.fGlo "_law_choose") rfl)⟩) (D__law_gain := ⟨Hx.gA "_law_gain" K, fd__law_gain, F__law_gain, He.glo_ok X G (c.fact 50 (f := Hx.fGlo "_law_gain") rfl)⟩) (D__law_signs := ⟨Hx.gA "_law_signs" K, fd__law_signs, F__law_signs, He.glo_ok X G (c.fact 49 (f := Hx.fGlo "_law_signs") rfl)⟩) (D__law_of_class := ⟨Hx.gA "_law_of_class" K, fd__law_of_class, F__law_of_class, He.glo_ok X G (c.fact 46 (f := Hx.fGlo "_law_of_class") rfl)⟩) (D__law_minus := ⟨Hx.gA "_law_minus" K, fd__law_minus, F__law_minus, He.glo_ok X G (c.fact 45 (f := Hx.fGlo "_law_minus") rfl)⟩) (D__law_same := ⟨Hx.gA "_law_same" K, fd__law_same, F__law_same, He.glo_ok X G (c.fact 37 (f := Hx.fGlo "_law_same") rfl)⟩) (D_are_hands := ⟨Hx.gA "are_hands" K, fd_are_hands, F_are_hands, He.glo_ok X G (c.fact 27 (f := Hx.fGlo "are_hands") rfl)⟩) (D_are_numbers := ⟨Hx.gA "are_numbers" K, fd_are_numbers, F_are_numbers, He.glo_ok X G (c.fact 7 (f := Hx.fGlo "are_numbers") rfl)⟩) (D_are_of_class := ⟨Hx.gA "are_of_class" K, fd_are_of_class, F_are_of_class, He.glo_ok X G (c.fact 21 (f := Hx.fGlo "are_of_class") rfl)⟩) (D_differences := ⟨Hx.gA "differences" K, fd_differences, F_differences, He.glo_ok X G (c.fact 11 (f := Hx.fGlo "differences") rfl)⟩) (D__law_gains_so := ⟨Hx.gA "_law_gains_so" K, fd__law_gains_so, F__law_gains_so, He.glo_ok X G (c.fact 55 (f := Hx.fGlo "_law_gains_so") rfl)⟩) (D_greatest_gain := ⟨Hx.gA "greatest_gain" K, fd_greatest_gain, F_greatest_gain, He.glo_ok X G (c.fact 33 (f := Hx.fGlo "greatest_gain") rfl)⟩) (D_lowest := ⟨Hx.gA "lowest" K, fd_lowest, F_lowest, He.glo_ok X G (c.fact 10 (f := Hx.fGlo "lowest") rfl)⟩) (D_divisor := ⟨Hx.gA "divisor" K, fd_divisor, F_divisor, He.glo_ok X G (c.fact 9 (f := Hx.fGlo "divisor") rfl)⟩) (D_is_fraction := ⟨Hx.gA "is_fraction" K, fd_is_fraction, F_is_fraction, He.glo_ok X G (c.fact 31 (f := Hx.fGlo "is_fraction") rfl)⟩) (D__law_gain_alone_so := ⟨Hx.gA "_law_gain_alone_so" K, fd__law_gain_alone_so, F__law_gain_alone_so, He.glo_ok X G (c.fact 53 (f := Hx.fGlo "_law_gain_alone_so") rfl)⟩) (D__law_long_papers_so := ⟨Hx.gA "_law_long_papers_so" K, fd__law_long_papers_so, F__law_long_papers_so, He.glo_ok X G (c.fact 54 (f := Hx.fGlo "_law_long_papers_so") rfl)⟩) (hsup := He.free_ok X G (c.fact 73 (f := Hx.fFree "super") rfl)) (htop := htop)⟩
end Hd
namespace DL
open PySem PySem.Spec PyProof.Rows L2
/-- the end for a law whose defs may raise: what goes out of a call is told by the world -/
theorem walk_ofW {l : PySem.W.OpenLaw} {n k : Nat} {q : Program} {loose : List Str} {XP : (Str → Option Value) → Heap → Prop} {YP : World → Heap → Prop} {d : DefRec} {CX : World → CXT} {x : Str}
    (hn : l.most = some n) (hn2 : n ≤ sizeLine) (hdf : d.params.defaults = []) (hr : Room k callerA)
    (hF : ∀ (w : World) (mg : Str → Option Value) (fa : Addr) (h : Heap), YP w h → h.Ns mainGlobals mg → mg d.name = some (.ref fa) →
      ∃ (K : PySem.W.Frag) (fd : FuncData) (sp : Sp), K.In h ∧ (∀ (s : Shared) (u : Value), BindsTo s fd ⟨[u], []⟩ [(x, u)]) ∧
        (∀ (H : Hp) (a : Addr) (ns : List Int), ns.length ≤ n → Only H → SqL K H a (ns.map V.int) → sp [.ref a] H (fun v _ => v = .bl true) fun _ _ _ => False) ∧
        ∀ base : Heap, K.In base → base.Ns mainGlobals mg → FnOk l.prog w K mg base (CX w) k fa fd [x] sp)
    (hCX : ∀ (w : World) (H : Hp) (s : Shared) (e : Value) (s' : Shared), CX w [] H s (fun _ _ _ => False) e s' → False) :
    PySem.W.WalkO q loose XP YP l.row.toRowW d [] (fun f vs => PySem.call f vs) := by
  refine Att.attach_call hn hdf fun w s0 s1 mg mb fa o pm cd doc a vs ns G Y ho hd hcd hmg hobj hints hlen hg => ?_
  obtain ⟨K, fd, sp, KX, hb, hsp, hok⟩ := hF w mg fa _ Y G.T.g hmg
  exact law_call KX G.T.g G.T.b G.T.builtins G.T.nolimit hg hobj hints (Nat.le_trans hlen hn2) hr hok hb (fun H hO hS => hsp H a ns hlen hO hS) fun H e s' => hCX w H s1 e s'
end DL
open PySem PySem.W PySem.Calls PyProof.Rows
set_option maxHeartbeats 0
theorem PySem.Challenge.cw_evenpicks_k30_bent_papers_of_classes_fal_holds : PySem.Challenge.rw_evenpicks_k30_bent_papers_of_classes_fal.Holds := by
  w_on; o_law
  refine HandSHeadRun.head_any (r := OpenLaw.row PySem.Challenge.rw_evenpicks_k30_bent_papers_of_classes_fal) (q := view (OpenLaw.row PySem.Challenge.rw_evenpicks_k30_bent_papers_of_classes_fal).prog [68]) (H := Hd.hk) (ob := Hd.ob) (M := 16200) (loose := Hd.names) (d := HandSHeadRun.topDef (OpenLaw.row PySem.Challenge.rw_evenpicks_k30_bent_papers_of_classes_fal).prog 68) (kwd := []) Hd.ob_eq
    (by kernel_rfl) (fun s => by kernel_rfl) Hd.run (by kernel_rfl) (by kernel_rfl) (by kernel_rfl) (by rfl) (by first | assumption | decide +kernel) (by decide +kernel) ⟨rfl, rfl, rfl, rfl, rfl, by decide +kernel⟩ ?hw ?hc
  case hw => w_witness2
  case hc =>
    refine DL.walk_ofW (l := PySem.Challenge.rw_evenpicks_k30_bent_papers_of_classes_fal) (n := 63) (k := 20) (x := "_law_script") (CX := fun w => L2.CX (PySem.Challenge.rw_evenpicks_k30_bent_papers_of_classes_fal).prog w) rfl (by decide) (by kernel_rfl) ⟨rfl, by decide, by decide⟩ ?F (fun w H s e s' z => by obtain ⟨_, _, _, _, _, _, _, _, _, _, _, _, z⟩ := z; exact z.elim)
    intro w mg fa h Y G hmg0
    obtain ⟨K, KX, c⟩ := Y
    have hmg : mg ("law" : PySem.Str) = some (.ref fa) := by
      have e : (HandSHeadRun.topDef (OpenLaw.row PySem.Challenge.rw_evenpicks_k30_bent_papers_of_classes_fal).prog 68).name = ("law" : PySem.Str) := by kernel_rfl
      rw [← e]
      exact hmg0
    obtain ⟨fd, hb, hF⟩ := Hd.facts (P := (PySem.Challenge.rw_evenpicks_k30_bent_papers_of_classes_fal).prog) (w := w) KX G hmg (by kernel_rfl) (by kernel_rfl) c
    exact ⟨K, fd, DL.spLaw K, KX, hb, fun H a ns hl _ hS => ⟨a, ns, rfl, hS, hl, (fun p hp => nomatch hp), fun _ => rfl⟩, hF⟩
