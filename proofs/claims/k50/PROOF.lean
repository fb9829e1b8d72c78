import PyProof.Rows.All
import Wide.All
import OpenK.AllK
import Wide.FinOn
import KE.KStateDown
import Lean
import HandS.Base
import HandS.Call
import HandS.Ends
import HandS.More
import HandS.Words
import HandS.WordsExc
import KE.KNestM
import HandS.Defaults
import HandS.Head0
import HandS.Head1
import HandS.Head2
import HandS.HeadEnd
import HandS.HeadHook1
import HandS.HeadHook2
import HandS.Property
import HandS.Exc
import HandS.ExcInit
import HandS.ExcField
import KE.KSuper
import KE.KTryMore
import KE.DataEq
import HandS.ForMost
import HandS.Wide
import HandS.IsInst
import HandS.TupAny
import HandS.Flow
import HandS.Zip
import HandS.Lambda
import KE.KDflt
import HandS.Star
import HandS.Style
import KE.KOpsOwn
import HandS.OwnEq
import HandS.Text
import HandS.ClsMeth
import KE.GoesMore
import KE.KExcSuper
import HandS.HotCalls
import HandS.MakeKwOnly
import HandS.FStr
import KE.GoesEnumKw
import PyProof.ZipIter
import KE.KDictZip
import HandS.SetFor
import HandS.Zip0
import HandS.TupMul
import HandS.EndTab
import HandS.EndOwn
import PySem.Challenge.RW_evenpicks_k50_mends_and_holes_refused
set_option Elab.async false
set_option linter.all false
set_option maxRecDepth 100000
set_option maxHeartbeats 4000000
set_option autoImplicit false
namespace Hx
open PySem PySem.Spec L2
/-- a global's address; a class's method; what a property, a static method of a class holds -/
def gA (x : Str) : PySem.W.Frag → Addr := fun K => He.ga K x
def mA (c m : Str) : PySem.W.Frag → Addr := fun K => He.ma K (He.ga K c) m
structure DefX where
  ad : PySem.W.Frag → Addr
  name : Str
  qual : Str
  params : Arguments
  body : List Stmt
  scope : Scope
  dfl : List He.Dv := []
  kwd : List (Str × He.Dv) := []
  /-- a def that says super(): its class, the program's file -/
  sup : Option (Str × Str) := none
/-- the cell of a class is told apart (supB) -/
def cloX (l : List (Str × Addr)) : List (Str × Addr) := match l with
  | [(n, c)] => if n = "__class__" then [] else [(n, c)]
  | l => l
def fnX (K : PySem.W.Frag) (a : Addr) : He.FnW := match K.lookup a with
  | some ⟨_, _, .func fd, _⟩ => some (fd.name, fd.qualname, fd.params, fd.body, fd.scope, fd.globals, cloX fd.closure, fd.builtins)
  | _ => none
/-- the cell holds the class C, the code is of this file -/
def supB (K : PySem.W.Frag) (C : Addr) (fl : Str) (clo : List (Str × Addr)) (code : Value) : Bool := match clo, code with
  | [(n, cc)], .ref cda => decide (n = "__class__") && ((match K.lookup cc with
      | some ⟨_, _, .cell (some (.ref D)), _⟩ => decide (D = C)
      | _ => false) && ((match K.lookup cda with
      | some ⟨_, _, .fields vs, _⟩ => (match (vs[2]? : Option Value) with
          | some (Value.str file _) => fl == file
          | _ => false)
      | _ => false) && (PySem.W.clsIn K C).isSome))
  | _, _ => false
def cloB (K : PySem.W.Frag) (sup : Option (Str × Str)) (clo : List (Str × Addr)) (code : Value) : Bool := match sup with
  | none => clo.isEmpty
  | some (c, fl) => supB K (He.ga K c) fl clo code
def DefX.val (d : DefX) : He.FnW := some (d.name, d.qual, d.params, .stmts d.body, d.scope, mainGlobals, [], builtinsNs)
def DefX.dvs (K : PySem.W.Frag) (d : DefX) : List V := d.dfl.map (He.Dv.v K)
def DefX.kws (K : PySem.W.Frag) (d : DefX) : List (Str × V) := d.kwd.map fun q => (q.1, q.2.v K)
def DefX.ok (K : PySem.W.Frag) (d : DefX) : Bool := PySem.W.keepIn K (.ref (d.ad K)) && (match K.lookup (d.ad K) with
  | some ⟨_, _, .func fd, _⟩ => (PySem.W.codeIn K fd.code d.qual && (He.dflB K fd.defaults (d.dvs K) && He.kwdB K fd.kwdefaults (d.kws K))) && cloB K d.sup fd.closure fd.code
  | _ => false)
theorem DefX.funD {K : PySem.W.Frag} {d : DefX} (e : fnX K (d.ad K) = d.val) (c : d.ok K = true) (hs : d.sup = none) : ∃ fd, FunD K d.name d.qual d.params d.body d.scope (d.dvs K) (d.kws K) (d.ad K) fd := by
  obtain ⟨kp, c2⟩ := He.ba c
  unfold fnX at e
  cases q : K.lookup (d.ad K) with
  | none =>
    rw [q] at c2
    cases c2
  | some o =>
    obtain ⟨oc, od, dt, osl⟩ := o
    rw [q] at c2 e
    cases dt with
    | func fd =>
      obtain ⟨n1, n2, n3, n4, n5, n6, n7, n8, n9, n10, n11, n12, n13, n14, n15⟩ := fd
      have c9 : ((PySem.W.codeIn K n13 d.qual && (He.dflB K n8 (d.dvs K) && He.kwdB K n9 (d.kws K))) && cloB K d.sup n7 n13) = true := c2
      obtain ⟨c3, c4⟩ := He.ba c9
      have c5 : n7 = [] := by
        rw [hs] at c4
        exact List.isEmpty_iff.mp c4
      subst c5
      have e2 : (some (n1, n2, n3, n4, n5, n6, ([] : List (Str × Addr)), n15) : He.FnW) = some (d.name, d.qual, d.params, .stmts d.body, d.scope, mainGlobals, [], builtinsNs) := e
      simp only [Option.some.injEq, Prod.mk.injEq] at e2
      obtain ⟨h1, h2, h3, h4, h5, h6, h7, h8⟩ := e2
      subst h1 h2 h3 h4 h5 h6 h8
      obtain ⟨k1, k2⟩ := He.ba c3
      obtain ⟨k3, k4⟩ := He.ba k2
      exact ⟨_, ⟨oc, od, n8, n9, n10, n11, n12, n13, n14, osl, rfl, q, k1, He.dflB_ok k3, He.kwdB_ok k4⟩, kp⟩
    | _ => cases c2
def obsX (fx : List (PySem.W.Frag → Bool)) (fn : List DefX) (K : PySem.W.Frag) : He.AlD := ((fx.all fun f => f K) && fn.all fun d => d.ok K, fn.map fun d => fnX K (d.ad K))
def valX (fn : List DefX) : He.AlD := (true, fn.map DefX.val)
def SaysX (fx : List (PySem.W.Frag → Bool)) (fn : List DefX) (K : PySem.W.Frag) : Prop := obsX fx fn K = valX fn
def obsXG (n : (Addr → Option Obj) → List Addr) (fx : List (PySem.W.Frag → Bool)) (fn : List DefX) (g : Addr → Option Obj) : He.AlD := obsX fx fn (He.frG g (n g))
def hookX (n : (Addr → Option Obj) → List Addr) (fx : List (PySem.W.Frag → Bool)) (fn : List DefX) : PySem.W.Hook where
  α := He.AlD
  obs := fun s => obsXG n fx fn s.heap.get?
  val := fun _ => valX fn
  says := fun _ h => ∃ K : PySem.W.Frag, K.In h ∧ SaysX fx fn K
  of := fun _ _ e => ⟨_, He.frG_in, e⟩
  keeps := fun _ _ _ ⟨K, hK, c⟩ k => ⟨K, PySem.W.Frag.In.keeps hK k, c⟩
theorem obsXG_eq {n : (Addr → Option Obj) → List Addr} {fx : List (PySem.W.Frag → Bool)} {fn : List DefX} {g : Addr → Option Obj} {s : Shared} (h : ∀ a, g a = s.heap.get? a) : obsXG n fx fn g = (hookX n fx fn).obs s := by
  have e : g = s.heap.get? := funext h
  rw [e] <;> rfl
section
variable {fx : List (PySem.W.Frag → Bool)} {fn : List DefX} {K : PySem.W.Frag}
theorem SaysX.fact (c : SaysX fx fn K) (i : Nat) {f : PySem.W.Frag → Bool} (h : fx[i]? = some f := by rfl) : f K = true := by
  have c1 := (He.ba (show ((fx.all fun f => f K) && fn.all fun d => d.ok K) = true from congrArg (fun z : He.AlD => z.1) c)).1
  exact List.all_eq_true.mp c1 f (List.mem_of_getElem? h)
theorem SaysX.def_ (c : SaysX fx fn K) (i : Nat) {d : DefX} (h : fn[i]? = some d := by rfl) (hs : d.sup = none := by rfl) : ∃ fd, FunD K d.name d.qual d.params d.body d.scope (d.dvs K) (d.kws K) (d.ad K) fd := by
  have c2 := (He.ba (show ((fx.all fun f => f K) && fn.all fun d => d.ok K) = true from congrArg (fun z : He.AlD => z.1) c)).2
  have e : fn.map (fun d => fnX K (d.ad K)) = fn.map DefX.val := congrArg (fun z : He.AlD => z.2) c
  have e2 : (fn.map fun d => fnX K (d.ad K))[i]? = (fn.map DefX.val)[i]? := by rw [e]
  rw [List.getElem?_map, List.getElem?_map, h] at e2
  exact DefX.funD (Option.some.inj e2) (List.all_eq_true.mp c2 d (List.mem_of_getElem? h)) hs
end
def fGlo (x : Str) : PySem.W.Frag → Bool := fun K => (He.Fa.glo x).ok K
def fFree (x : Str) : PySem.W.Frag → Bool := fun K => (He.Fa.free x).ok K
def fInt (x : Str) (i : Int) : PySem.W.Frag → Bool := fun K => (He.Fa.int x i).ok K
def fStr (x z : Str) : PySem.W.Frag → Bool := fun K => (He.Fa.str x z).ok K
def fCls (x : Str) : PySem.W.Frag → Bool := fun K => (He.Fa.cls x).ok K
def fMkr (x : Str) : PySem.W.Frag → Bool := fun K => (He.Fa.mkr x).ok K
def fMeth (x m : Str) : PySem.W.Frag → Bool := fun K => (He.Fa.meth x m).ok K
def fNoat (x f : Str) : PySem.W.Frag → Bool := fun K => (He.Fa.noat x f).ok K
end Hx
namespace Hx
open PySem PySem.Spec L2
/-- the class x has its own def m (an operator) -/
structure Own (K : PySem.W.Frag) (C : Addr) (m : Str) (g : Addr) : Prop where
  first : PySem.W.selfFirst K C = true
  at_ : PySem.W.findIn K (.ref C) m = some (some (.ref g))
  fn : PySem.W.isFn K (.ref g) = true
def fOwn (x m : Str) : PySem.W.Frag → Bool := fun K => let C := He.ga K x; let g := He.ma K C m
  PySem.W.selfFirst K C && (He.eqO (PySem.W.findIn K (.ref C) m) (some (some (.ref g))) && PySem.W.isFn K (.ref g))
theorem own_ok {K : PySem.W.Frag} {x m : Str} (h : fOwn x m K = true) : Own K (He.ga K x) m (He.ma K (He.ga K x) m) := by
  obtain ⟨h1, h2⟩ := He.ba h
  obtain ⟨h3, h4⟩ := He.ba h2
  exact ⟨h1, He.eqO_ok h3, h4⟩
end Hx
namespace Hx
open PySem PySem.Spec L2
def oexB (K : PySem.W.Frag) (C : Addr) : Bool := match K.lookup C with
  | some ⟨.type "type", _, .cls cd, sl⟩ => (match cd.mro, sl.toList with
      | .ref C' :: bm, [_, _, _, _, some (.builtin n), _] => decide (C' = C) && (decide (n = "ValueError.__new__") && (!cd.hasDel && (cd.hasDict && HandSPX.refsVE bm)))
      | _, _ => false)
  | _ => false
theorem oexB_ok {K : PySem.W.Frag} {C : Addr} (h : oexB K C = true) : ∃ nm q N bs bm sn sub ab col dd k0 k1 k2 k3 k5, K.lookup C = some (excClassObj nm q C N bs bm true sn sub ab col dd k0 k1 k2 k3 k5 "ValueError.__new__") ∧ PySem.HandSPX.refsVE bm = true := by
  unfold oexB at h
  split at h
  · rename_i dd cd sl ho
    split at h
    · rename_i C' bm k0 k1 k2 k3 n k5 hm hs
      obtain ⟨h1, h⟩ := He.ba h
      obtain ⟨h2, h⟩ := He.ba h
      obtain ⟨h3, h⟩ := He.ba h
      obtain ⟨h4, h5⟩ := He.ba h
      have h1 := of_decide_eq_true h1
      have h2 := of_decide_eq_true h2
      subst h1 h2
      obtain ⟨nm, bs, mro, ns, qn, hd, sn, sub, ab, col, del⟩ := cd
      dsimp only at hm h3 h4
      subst hm h4
      have h3 : del = false := by simpa using h3
      subst h3
      have hsl : sl = #[k0, k1, k2, k3, some (.builtin "ValueError.__new__"), k5] := by
        obtain ⟨l⟩ := sl
        simp only at hs
        subst hs
        rfl
      subst hsl
      exact ⟨_, _, _, _, _, _, _, _, _, _, _, _, _, _, _, ho, h5⟩
    · cases h
  · cases h
def errNames : List Str := ["code", "at", "most", "name", "user", "limit", "line", "given"]
/-- all that raising and catching such an exception asks of its class -/
def fErr (x : Str) : PySem.W.Frag → Bool := fun K => let C := He.ga K x; let f := He.ma K C "__init__"
  oexB K C && (He.eqO (PySem.W.findIn K (.ref C) "__setattr__") (some (some (.builtin "object.__setattr__"))) && (decide (PySem.W.subIn K (.ref C) (.type "BaseException") = some true) && (decide (PySem.W.typeIn K (.ref C) = some (.type "type")) && (PySem.W.keepIn K (.ref C) &&
  (decide (PySem.W.nsIn K PySem.cStatics "thirdparty.any" = some none) && (He.eqO (PySem.W.ks_superIn K C C "__init__") (some (some (.builtin "ValueError.__init__"))) && (decide (PySem.W.mroIn K C (.ref C) = some true) && (decide (PySem.W.subIn K (.ref C) (.type "ValueError") = some true) &&
  (He.eqO (PySem.W.findIn K (.ref C) "__init__") (some (some (.ref f))) && (decide (PySem.W.typeIn K (.ref f) = some (.type "function")) && (L2.xfB K C && (errNames.all fun n => He.eqO (PySem.W.findIn K (.ref C) n) (some none)))))))))))))
/-- the class is one of those that the laws catch -/
def fExm (x : Str) : PySem.W.Frag → Bool := fun K => decide (PySem.W.exmAny K (.ref (He.ga K x)) [.ref (He.ga K "PickError"), .ref (He.ga K "Missing"), .ref (He.ga K "NothingLeft")] = some true)
def Exm (K : PySem.W.Frag) (C : Addr) : Prop := PySem.W.exmAny K (.ref C) [.ref (He.ga K "PickError"), .ref (He.ga K "Missing"), .ref (He.ga K "NothingLeft")] = some true
theorem exm_ok {K : PySem.W.Frag} {x : Str} (h : fExm x K = true) : Exm K (He.ga K x) := by unfold Exm; exact of_decide_eq_true h
structure ErrX (K : PySem.W.Frag) (C f : Addr) : Prop where
  ox : OexC K C
  st : PySem.W.nsIn K PySem.cStatics "thirdparty.any" = some none
  su : PySem.W.ks_superIn K C C "__init__" = some (some (.builtin "ValueError.__init__"))
  mr : PySem.W.mroIn K C (.ref C) = some true
  ve : PySem.W.subIn K (.ref C) (.type "ValueError") = some true
  iC : PySem.W.findIn K (.ref C) "__init__" = some (some (.ref f))
  tI : PySem.W.typeIn K (.ref f) = some (.type "function")
  xf : XfC K C
  na : ∀ n ∈ errNames, PySem.W.findIn K (.ref C) n = some none
theorem err_ok {K : PySem.W.Frag} {x : Str} (h : fErr x K = true) : ErrX K (He.ga K x) (He.ma K (He.ga K x) "__init__") := by
  obtain ⟨h1, h⟩ := He.ba h
  obtain ⟨h2, h⟩ := He.ba h
  obtain ⟨h3, h⟩ := He.ba h
  obtain ⟨h4, h⟩ := He.ba h
  obtain ⟨h5, h⟩ := He.ba h
  obtain ⟨h6, h⟩ := He.ba h
  obtain ⟨h7, h⟩ := He.ba h
  obtain ⟨h8, h⟩ := He.ba h
  obtain ⟨h9, h⟩ := He.ba h
  obtain ⟨h10, h⟩ := He.ba h
  obtain ⟨h11, h⟩ := He.ba h
  obtain ⟨h12, h13⟩ := He.ba h
  exact ⟨⟨oexB_ok h1, He.eqO_ok h2, of_decide_eq_true h3, of_decide_eq_true h4, h5⟩, of_decide_eq_true h6, He.eqO_ok h7, of_decide_eq_true h8, of_decide_eq_true h9, He.eqO_ok h10, of_decide_eq_true h11, xfB_ok h12, fun n hn => He.eqO_ok (List.all_eq_true.mp h13 n hn)⟩
end Hx
namespace Hx
open PySem PySem.Spec L2
/-- the law's own def: its code object, the table that its lambdas are entered into -/
def fTab (x : Str) : PySem.W.Frag → Bool := fun K => match K.lookup (He.ga K x) with
  | some ⟨_, _, .func fd, _⟩ => (match fd.code with
    | .ref c => (match K.lookup c with
      | some ⟨_, _, .fields vs, _⟩ => (match (vs[11]? : Option Value) with
        | some (.ref P) => PySem.W.codeHdIn K c P && (K.lookup P).isNone
        | _ => false)
      | _ => false)
    | _ => false)
  | _ => false
/-- the table of a def's code object -/
def tabA (x : Str) (K : PySem.W.Frag) : Option Value := match K.lookup (He.ga K x) with
  | some ⟨_, _, .func fd, _⟩ => (match fd.code with
    | .ref c => (match K.lookup c with
      | some ⟨_, _, .fields vs, _⟩ => vs[11]?
      | _ => none)
    | _ => none)
  | _ => none
theorem tabA_is {K : PySem.W.Frag} {x : Str} {o : Obj} {fd : FuncData} {c P : Addr} {e : Value} {dd : Option Addr} {vs : Array Value} {sl : Array (Option Value)} (h1 : K.lookup (He.ga K x) = some o) (h2 : o.data = .func fd) (h3 : fd.code = .ref c) (h4 : K.lookup c = some ⟨e, dd, .fields vs, sl⟩) (h5 : vs[11]? = some (.ref P)) : tabA x K = some (.ref P) := by
  obtain ⟨a, b, dt, s⟩ := o
  cases h2
  unfold tabA
  rw [h1]
  show (match fd.code with
    | .ref c => (match K.lookup c with
      | some ⟨_, _, .fields vs, _⟩ => vs[11]?
      | _ => none)
    | _ => none) = _
  rw [h3]
  show (match K.lookup c with
      | some ⟨_, _, .fields vs, _⟩ => vs[11]?
      | _ => none) = _
  rw [h4]
  exact h5
/-- the tables of two defs stand apart -/
def fTabNe (x y : Str) : PySem.W.Frag → Bool := fun K => match tabA x K, tabA y K with
  | some (.ref a), some (.ref b) => !decide (a = b)
  | _, _ => false
theorem tabNe_ok {K : PySem.W.Frag} {x y : Str} (h : fTabNe x y K = true) {o o' : Obj} {fd fd' : FuncData} {c P c' P' : Addr} {e e' : Value} {dd dd' : Option Addr} {vs vs' : Array Value} {sl sl' : Array (Option Value)} (h1 : K.lookup (He.ga K x) = some o) (h2 : o.data = .func fd) (h3 : fd.code = .ref c) (h4 : K.lookup c = some ⟨e, dd, .fields vs, sl⟩) (h5 : vs[11]? = some (.ref P))
    (h1' : K.lookup (He.ga K y) = some o') (h2' : o'.data = .func fd') (h3' : fd'.code = .ref c') (h4' : K.lookup c' = some ⟨e', dd', .fields vs', sl'⟩) (h5' : vs'[11]? = some (.ref P')) : P ≠ P' := by
  unfold fTabNe at h
  rw [tabA_is h1 h2 h3 h4 h5, tabA_is h1' h2' h3' h4' h5'] at h
  simpa using h
theorem tab_ok {K : PySem.W.Frag} {x : Str} (h : fTab x K = true) : ∃ (o : Obj) (fd : FuncData) (c P : Addr) (e : Value) (dd : Option Addr) (vs : Array Value) (sl : Array (Option Value)),
    K.lookup (He.ga K x) = some o ∧ o.data = .func fd ∧ fd.code = .ref c ∧ K.lookup c = some ⟨e, dd, .fields vs, sl⟩ ∧ vs[11]? = some (.ref P) ∧ PySem.W.codeHdIn K c P = true ∧ K.lookup P = none := by
  unfold fTab at h
  split at h
  · rename_i o1 o2 fd o4 e1
    split at h
    · rename_i c e2
      split at h
      · rename_i e dd vs sl e3
        split at h
        · rename_i P e4
          obtain ⟨h1, h2⟩ := He.ba h
          exact ⟨_, fd, c, P, e, dd, vs, sl, e1, rfl, e2, e3, e4, h1, Option.isNone_iff_eq_none.mp h2⟩
        · cases h
      · cases h
    · cases h
  · cases h
end Hx
set_option maxHeartbeats 0
namespace Hd
open PySem PySem.Spec PyProof.Rows L2
def top (i : Nat) : Stmt := PySem.Challenge.pw_evenpicks_k50_mends_and_holes_refused.main.body.getD i (.Pass ⟨0, 0, 0, 0⟩)
abbrev s_is_number : Stmt := top 13
def d_is_number : Hx.DefX := ⟨Hx.gA "is_number", "is_number", "is_number", defArgs s_is_number, defBody s_is_number, defScope s_is_number, [], [], none⟩
abbrev s_choose : Stmt := top 14
def d_choose : Hx.DefX := ⟨Hx.gA "choose", "choose", "choose", defArgs s_choose, defBody s_choose, defScope s_choose, [], [], none⟩
abbrev s_check_hands : Stmt := top 18
def d_check_hands : Hx.DefX := ⟨Hx.gA "check_hands", "check_hands", "check_hands", defArgs s_check_hands, defBody s_check_hands, defScope s_check_hands, [], [], none⟩
abbrev s_Row___init__ : Stmt := inClass (top 20) 1
def d_Row___init__ : Hx.DefX := ⟨Hx.mA "Row" "__init__", "__init__", "Row.__init__", defArgs s_Row___init__, defBody s_Row___init__, defScope s_Row___init__, [], [], none⟩
abbrev s_Row_turns : Stmt := inClass (top 20) 4
def d_Row_turns : Hx.DefX := ⟨Hx.mA "Row" "turns", "turns", "Row.turns", defArgs s_Row_turns, defBody s_Row_turns, defScope s_Row_turns, [], [], none⟩
abbrev s_Row___len__ : Stmt := inClass (top 20) 20
def d_Row___len__ : Hx.DefX := ⟨Hx.mA "Row" "__len__", "__len__", "Row.__len__", defArgs s_Row___len__, defBody s_Row___len__, defScope s_Row___len__, [], [], none⟩
abbrev s_deviation_at : Stmt := top 22
def d_deviation_at : Hx.DefX := ⟨Hx.gA "deviation_at", "deviation_at", "deviation_at", defArgs s_deviation_at, defBody s_deviation_at, defScope s_deviation_at, [], [], none⟩
abbrev s_added : Stmt := top 23
def d_added : Hx.DefX := ⟨Hx.gA "added", "added", "added", defArgs s_added, defBody s_added, defScope s_added, [], [], none⟩
abbrev s_negated : Stmt := top 24
def d_negated : Hx.DefX := ⟨Hx.gA "negated", "negated", "negated", defArgs s_negated, defBody s_negated, defScope s_negated, [], [], none⟩
abbrev s_check_height : Stmt := top 30
def d_check_height : Hx.DefX := ⟨Hx.gA "check_height", "check_height", "check_height", defArgs s_check_height, defBody s_check_height, defScope s_check_height, [], [], none⟩
abbrev s_deviation : Stmt := top 31
def d_deviation : Hx.DefX := ⟨Hx.gA "deviation", "deviation", "deviation", defArgs s_deviation, defBody s_deviation, defScope s_deviation, [], [], none⟩
abbrev s_chosen : Stmt := top 32
def d_chosen : Hx.DefX := ⟨Hx.gA "chosen", "chosen", "chosen", defArgs s_chosen, defBody s_chosen, defScope s_chosen, [], [], none⟩
abbrev s_mend : Stmt := top 33
def d_mend : Hx.DefX := ⟨Hx.gA "mend", "mend", "mend", defArgs s_mend, defBody s_mend, defScope s_mend, [], [("most", (.int 2))], none⟩
abbrev s_check_holed : Stmt := top 34
def d_check_holed : Hx.DefX := ⟨Hx.gA "check_holed", "check_holed", "check_holed", defArgs s_check_holed, defBody s_check_holed, defScope s_check_holed, [], [], none⟩
abbrev s_fillings : Stmt := top 35
def d_fillings : Hx.DefX := ⟨Hx.gA "fillings", "fillings", "fillings", defArgs s_fillings, defBody s_fillings, defScope s_fillings, [], [], none⟩
abbrev s_sure_hands : Stmt := top 36
def d_sure_hands : Hx.DefX := ⟨Hx.gA "sure_hands", "sure_hands", "sure_hands", defArgs s_sure_hands, defBody s_sure_hands, defScope s_sure_hands, [], [], none⟩
abbrev s__law_bag : Stmt := top 38
def d__law_bag : Hx.DefX := ⟨Hx.gA "_law_bag", "_law_bag", "_law_bag", defArgs s__law_bag, defBody s__law_bag, defScope s__law_bag, [], [], none⟩
abbrev s__law_pull : Stmt := top 39
def d__law_pull : Hx.DefX := ⟨Hx.gA "_law_pull", "_law_pull", "_law_pull", defArgs s__law_pull, defBody s__law_pull, defScope s__law_pull, [], [], none⟩
abbrev s__law_pick : Stmt := top 40
def d__law_pick : Hx.DefX := ⟨Hx.gA "_law_pick", "_law_pick", "_law_pick", defArgs s__law_pick, defBody s__law_pick, defScope s__law_pick, [], [], none⟩
abbrev s__law_same : Stmt := top 41
def d__law_same : Hx.DefX := ⟨Hx.gA "_law_same", "_law_same", "_law_same", defArgs s__law_same, defBody s__law_same, defScope s__law_same, [], [], none⟩
abbrev s__law_field : Stmt := top 42
def d__law_field : Hx.DefX := ⟨Hx.gA "_law_field", "_law_field", "_law_field", defArgs s__law_field, defBody s__law_field, defScope s__law_field, [], [], none⟩
abbrev s__law_why : Stmt := top 43
def d__law_why : Hx.DefX := ⟨Hx.gA "_law_why", "_law_why", "_law_why", defArgs s__law_why, defBody s__law_why, defScope s__law_why, [], [], none⟩
abbrev s__law_whys : Stmt := top 44
def d__law_whys : Hx.DefX := ⟨Hx.gA "_law_whys", "_law_whys", "_law_whys", defArgs s__law_whys, defBody s__law_whys, defScope s__law_whys, [], [], none⟩
abbrev s__law_turns : Stmt := top 45
def d__law_turns : Hx.DefX := ⟨Hx.gA "_law_turns", "_law_turns", "_law_turns", defArgs s__law_turns, defBody s__law_turns, defScope s__law_turns, [], [], none⟩
abbrev s__law_hands : Stmt := top 46
def d__law_hands : Hx.DefX := ⟨Hx.gA "_law_hands", "_law_hands", "_law_hands", defArgs s__law_hands, defBody s__law_hands, defScope s__law_hands, [], [], none⟩
abbrev s__law_mends_refused_so : Stmt := top 47
def d__law_mends_refused_so : Hx.DefX := ⟨Hx.gA "_law_mends_refused_so", "_law_mends_refused_so", "_law_mends_refused_so", defArgs s__law_mends_refused_so, defBody s__law_mends_refused_so, defScope s__law_mends_refused_so, [], [], none⟩
abbrev s_law : Stmt := top 48
def d_law : Hx.DefX := ⟨Hx.gA "law", "law", "law", defArgs s_law, defBody s_law, defScope s_law, [], [], none⟩
abbrev s_InvalidHands___init__ : Stmt := inClass (top 4) 0
def d_InvalidHands___init__ : Hx.DefX := ⟨Hx.mA "InvalidHands" "__init__", "__init__", "InvalidHands.__init__", defArgs s_InvalidHands___init__, defBody s_InvalidHands___init__, defScope s_InvalidHands___init__, [], [], some ("InvalidHands", PySem.Challenge.pw_evenpicks_k50_mends_and_holes_refused.main.file)⟩
abbrev s_InvalidTurn___init__ : Stmt := inClass (top 6) 0
def d_InvalidTurn___init__ : Hx.DefX := ⟨Hx.mA "InvalidTurn" "__init__", "__init__", "InvalidTurn.__init__", defArgs s_InvalidTurn___init__, defBody s_InvalidTurn___init__, defScope s_InvalidTurn___init__, [], [], some ("InvalidTurn", PySem.Challenge.pw_evenpicks_k50_mends_and_holes_refused.main.file)⟩
abbrev s_InvalidNumber___init__ : Stmt := inClass (top 7) 0
def d_InvalidNumber___init__ : Hx.DefX := ⟨Hx.mA "InvalidNumber" "__init__", "__init__", "InvalidNumber.__init__", defArgs s_InvalidNumber___init__, defBody s_InvalidNumber___init__, defScope s_InvalidNumber___init__, [], [], some ("InvalidNumber", PySem.Challenge.pw_evenpicks_k50_mends_and_holes_refused.main.file)⟩
abbrev s_TooLong___init__ : Stmt := inClass (top 9) 0
def d_TooLong___init__ : Hx.DefX := ⟨Hx.mA "TooLong" "__init__", "__init__", "TooLong.__init__", defArgs s_TooLong___init__, defBody s_TooLong___init__, defScope s_TooLong___init__, [], [], some ("TooLong", PySem.Challenge.pw_evenpicks_k50_mends_and_holes_refused.main.file)⟩
abbrev s_TooMany___init__ : Stmt := inClass (top 10) 0
def d_TooMany___init__ : Hx.DefX := ⟨Hx.mA "TooMany" "__init__", "__init__", "TooMany.__init__", defArgs s_TooMany___init__, defBody s_TooMany___init__, defScope s_TooMany___init__, [], [], some ("TooMany", PySem.Challenge.pw_evenpicks_k50_mends_and_holes_refused.main.file)⟩
def fn0 : List Hx.DefX := [d_is_number, d_choose, d_check_hands, d_Row___init__, d_Row_turns, d_Row___len__, d_deviation_at, d_added, d_negated, d_check_height, d_deviation, d_chosen, d_mend, d_check_holed, d_fillings, d_sure_hands, d__law_bag, d__law_pull, d__law_pick, d__law_same, d__law_field, d__law_why, d__law_whys, d__law_turns, d__law_hands, d__law_mends_refused_so, d_law, d_InvalidHands___init__, d_InvalidTurn___init__, d_InvalidNumber___init__]
def fn1 : List Hx.DefX := [d_TooLong___init__, d_TooMany___init__]
def fn : List Hx.DefX := fn0 ++ fn1
def fx0 : List (PySem.W.Frag → Bool) := [Hx.fGlo "PickError", Hx.fGlo "Missing", Hx.fGlo "InvalidHands", Hx.fGlo "InvalidTurn", Hx.fGlo "InvalidNumber", Hx.fGlo "TooLong", Hx.fGlo "TooMany", Hx.fGlo "NothingLeft", Hx.fGlo "is_number", Hx.fGlo "choose", Hx.fInt "MOST_TURNS" 2000, Hx.fStr "DIGITS" "0123", Hx.fGlo "check_hands", Hx.fGlo "Row", Hx.fGlo "deviation_at", Hx.fGlo "added", Hx.fGlo "negated", Hx.fInt "MOST_MENDED" 16, Hx.fInt "MOST_HOLED" 60, Hx.fInt "MOST_CHOICES" 1024, Hx.fInt "MOST_WANTED" 6, Hx.fGlo "check_height", Hx.fGlo "deviation", Hx.fGlo "chosen", Hx.fGlo "mend", Hx.fGlo "check_holed", Hx.fGlo "fillings", Hx.fGlo "sure_hands", Hx.fGlo "_law_bag", Hx.fGlo "_law_pull"]
def fx1 : List (PySem.W.Frag → Bool) := [Hx.fGlo "_law_pick", Hx.fGlo "_law_same", Hx.fGlo "_law_field", Hx.fGlo "_law_why", Hx.fGlo "_law_whys", Hx.fGlo "_law_turns", Hx.fGlo "_law_hands", Hx.fGlo "_law_mends_refused_so", Hx.fGlo "law", Hx.fFree "isinstance", Hx.fFree "int", Hx.fFree "bool", Hx.fFree "str", Hx.fFree "list", Hx.fFree "tuple", Hx.fFree "len", Hx.fFree "range", Hx.fFree "zip", Hx.fFree "enumerate", Hx.fFree "all", Hx.fFree "any", Hx.fFree "super", Hx.fErr "InvalidHands", Hx.fErr "InvalidTurn", Hx.fErr "InvalidNumber", Hx.fErr "TooLong", Hx.fErr "TooMany", Hx.fExm "InvalidHands", Hx.fExm "InvalidTurn", Hx.fExm "InvalidNumber"]
def fx2 : List (PySem.W.Frag → Bool) := [Hx.fExm "TooLong", Hx.fExm "TooMany", Hx.fCls "Row", Hx.fMkr "Row", Hx.fNoat "Row" "hands", Hx.fNoat "Row" "own_turns", Hx.fMeth "Row" "turns", Hx.fOwn "Row" "__len__", Hx.fTab "_law_mends_refused_so", Hx.fTabNe "_law_mends_refused_so" "law", Hx.fTab "law"]
def fx : List (PySem.W.Frag → Bool) := fx0 ++ fx1 ++ fx2
def names0 : List PySem.Str := [("_wall" : PySem.Str), ("PickError" : PySem.Str), ("Missing" : PySem.Str), ("InvalidHands" : PySem.Str), ("InvalidHand" : PySem.Str), ("InvalidTurn" : PySem.Str), ("InvalidNumber" : PySem.Str), ("Unlike" : PySem.Str), ("TooLong" : PySem.Str), ("TooMany" : PySem.Str), ("NothingLeft" : PySem.Str), ("is_number" : PySem.Str), ("choose" : PySem.Str), ("MOST_TURNS" : PySem.Str), ("DIGITS" : PySem.Str), ("check_hands" : PySem.Str), ("check_hand" : PySem.Str), ("Row" : PySem.Str), ("deviation_at" : PySem.Str), ("added" : PySem.Str), ("negated" : PySem.Str), ("MOST_MENDED" : PySem.Str), ("MOST_HOLED" : PySem.Str), ("MOST_CHOICES" : PySem.Str), ("MOST_WANTED" : PySem.Str), ("check_height" : PySem.Str), ("deviation" : PySem.Str), ("chosen" : PySem.Str), ("mend" : PySem.Str), ("check_holed" : PySem.Str)]
def names1 : List PySem.Str := [("fillings" : PySem.Str), ("sure_hands" : PySem.Str), ("_law_bag" : PySem.Str), ("_law_pull" : PySem.Str), ("_law_pick" : PySem.Str), ("_law_same" : PySem.Str), ("_law_field" : PySem.Str), ("_law_why" : PySem.Str), ("_law_whys" : PySem.Str), ("_law_turns" : PySem.Str), ("_law_hands" : PySem.Str), ("_law_mends_refused_so" : PySem.Str)]
def names : List PySem.Str := names0 ++ names1
abbrev R : PySem.W.OpenRow := PySem.W.OpenLaw.row PySem.Challenge.rw_evenpicks_k50_mends_and_holes_refused
def as0 : List Addr := [3, 2, 6, 4, 21, 31, 44, 66, 87, 108, 129, 150, 171, 192, 213, 223, 230, 237, 244, 405, 414, 419, 424, 431, 438, 445, 453, 460, 465, 470, 475, 482, 489, 494, 501, 508, 513, 518, 525, 532, 539, 0, 20, 30, 43, 65, 86, 107, 128, 149, 170, 191, 212, 222, 229, 236, 243, 404, 413, 418]
def as1 : List Addr := [423, 430, 437, 444, 452, 446, 459, 464, 469, 474, 481, 488, 493, 500, 507, 512, 517, 524, 531, 538, 15, 17, 18, 19, 29, 32, 42, 45, 63, 64, 84, 85, 105, 106, 126, 127, 147, 148, 168, 169, 189, 190, 210, 211, 214, 217, 219, 220, 221, 224, 226, 227, 228, 231, 233, 234, 235, 238, 240, 241]
def as2 : List Addr := [242, 258, 266, 273, 280, 285, 292, 299, 306, 313, 320, 327, 334, 341, 348, 355, 360, 367, 374, 381, 388, 395, 402, 403, 406, 407, 410, 412, 415, 417, 420, 422, 425, 427, 428, 429, 432, 434, 435, 436, 439, 441, 442, 443, 447, 449, 450, 451, 454, 456, 457, 458, 461, 463, 466, 468, 471, 473, 476, 478]
def as3 : List Addr := [479, 480, 483, 485, 486, 487, 490, 492, 495, 497, 498, 499, 502, 504, 505, 506, 509, 511, 514, 516, 519, 521, 522, 523, 526, 528, 529, 530, 533, 535, 536, 537, 62, 51, 83, 72, 104, 93, 125, 114, 146, 135, 167, 156, 188, 177, 209, 198, 257, 264, 265, 272, 279, 284, 291, 298, 305, 312, 319, 326]
def as4 : List Addr := [333, 340, 347, 354, 359, 366, 373, 380, 387, 394, 401, 57, 59, 60, 61, 78, 80, 81, 82, 99, 101, 102, 103, 120, 122, 123, 124, 141, 143, 144, 145, 162, 164, 165, 166, 183, 185, 186, 187, 204, 206, 207, 208, 252, 254, 255, 256, 263, 259, 267, 271, 274, 276, 277, 278, 281, 283, 286, 288, 289]
def as5 : List Addr := [290, 293, 295, 296, 297, 300, 302, 303, 304, 307, 309, 310, 311, 314, 316, 317, 318, 321, 323, 324, 325, 328, 330, 331, 332, 335, 337, 338, 339, 342, 344, 345, 346, 349, 351, 352, 353, 356, 358, 361, 363, 364, 365, 368, 370, 371, 372, 375, 377, 378, 379, 382, 384, 385, 386, 389, 391, 392, 393, 396]
def as6 : List Addr := [398, 399, 400]
def asl : List Addr := as0 ++ (as1 ++ (as2 ++ (as3 ++ (as4 ++ (as5 ++ (as6))))))
abbrev hk : PySem.W.Hook := Hx.hookX (fun _ => asl) fx fn
def ob (s : PySem.W.SharedT) : He.AlD := Hx.obsXG (fun _ => asl) fx fn (HandSHeadRun.getT s)
theorem ob_eq (s : PySem.W.SharedT) : ob s = hk.obs s.abs := Hx.obsXG_eq (HandSHeadRun.getT_eq s)
theorem run (w : World) : HandSHeadRun.RunEq R (PySem.W.view R.prog [47, 48]) hk ob 11200 names w := by
  intro os
  kernel_rfl
end Hd
set_option maxHeartbeats 4000000
namespace DL
open PySem PySem.Spec L2
/-- a lambda of the text: what its making is given; its defaults (whole numbers) -/
structure LamQ where
  qual : Str
  params : Arguments
  body : Expr
  scope : Scope
  dfl : List Int
/-- the tables of code objects that lambdas are entered into; the lambdas of the text -/
class TbC where
  ts : List (Addr × Str)
  lq : Nat → LamQ
inductive D where
  | non | bl (b : Bool) | int (i : Int) | str (s : Str) | ty (n : String) | adr (a : Addr) | bag
  | fn (i : Nat) (cl : List (Str × Addr)) (z : Option (Option Addr × Hp))
  | lst (xs : List D) | tup (xs : List D) | obj (C : Addr) (ks : List Str) (xs : List D) | exc (a dx C : Addr) (ks : List Str) (xs : List D)
  | dct (ks : List Key) (xs : List D) | dcT (ks : List (List Key)) (xs : List D)
variable [TbC]
/-- a lambda's function object at f -/
def LamO (f : Addr) (i : Nat) (cl : List (Str × Addr)) (dV : Value) (c' : Addr) : HO := .ext fun h => ∃ doc pm ctv : Value,
  h.get? f = some (PySem.W.kdv_obj "<lambda>" (TbC.lq i).qual (TbC.lq i).params (.expr (TbC.lq i).body) (TbC.lq i).scope (L2.cloFrom cl (TbC.lq i).scope.names []) dV doc pm c' ctv)
def DfOk (S : Hp) (dV : Value) (ns : List Int) : Prop := (ns = [] ∧ dV = .none) ∨ ns ≠ [] ∧ ∃ t, dV = .ref t ∧ S t = some (.tup (ns.map V.int))
theorem DfOk.mono {S S' : Hp} {dV : Value} {ns : List Int} (h : Same S S') (d : DfOk S dV ns) : DfOk S' dV ns := d.imp id fun ⟨n, t, e, q⟩ => ⟨n, t, e, h _ _ q⟩
mutual
def Rep (B : Option Addr) (S : Hp) : D → V → Prop
  | .non, v => v = .non
  | .bl b, v => v = .bl b
  | .int i, v => v = .int i
  | .str s, v => v = .str s
  | .ty n, v => v = .ty n
  | .adr a, v => v = .ref a
  | .bag, v => ∃ b, B = some b ∧ v = .ref b
  | .fn i cl z, v => ∃ f dV c', v = .ref f ∧ S f = some (LamO f i cl dV c') ∧ S c' = some (LamX.CodeO c' (TbC.lq i).qual) ∧ DfOk S dV (TbC.lq i).dfl ∧ ∀ q, z = some q → B = q.1 ∧ Same q.2 S
  | .lst ds, v => ∃ a vs, v = .ref a ∧ S a = some (.lst vs) ∧ RepL B S ds vs
  | .tup ds, v => ∃ a vs, v = .ref a ∧ S a = some (.tup vs) ∧ RepL B S ds vs
  | .obj C ks ds, v => ∃ a dx vs, v = .ref a ∧ S a = some (.ins C dx (ks.zip vs)) ∧ S dx = some (.own a) ∧ ds.length = ks.length ∧ RepL B S ds vs
  | .exc a dx C ks ds, v => ∃ vs, v = .ref a ∧ S dx = some (.xd (ks.zip vs)) ∧ ds.length = ks.length ∧ RepL B S ds vs
  | .dct ks ds, v => ∃ a vs, v = .ref a ∧ S a = some (.dK (ks.zip vs)) ∧ ds.length = ks.length ∧ RepL B S ds vs
  | .dcT ks ds, v => ∃ a vs, v = .ref a ∧ S a = some (.dT (ks.zip vs)) ∧ ds.length = ks.length ∧ RepL B S ds vs
def RepL (B : Option Addr) (S : Hp) : List D → List V → Prop
  | [], vs => vs = []
  | d :: ds, vs => ∃ v ws, vs = v :: ws ∧ Rep B S d v ∧ RepL B S ds ws
end
mutual
theorem rep_mono {B : Option Addr} {S S' : Hp} (h : Same S S') : ∀ (d : D) (v : V), Rep B S d v → Rep B S' d v
  | .non, _, r => r
  | .bl _, _, r => r
  | .int _, _, r => r
  | .str _, _, r => r
  | .ty _, _, r => r
  | .adr _, _, r => r
  | .bag, _, r => r
  | .fn i cl z, v, r => by
    rw [Rep] at r ⊢
    obtain ⟨f, dV, c', e, q, q2, df, n⟩ := r
    exact ⟨f, dV, c', e, h _ _ q, h _ _ q2, df.mono h, fun y hy => ⟨(n y hy).1, (n y hy).2.trans h⟩⟩
  | .lst ds, v, r => by
    rw [Rep] at r ⊢
    obtain ⟨a, vs, e, q, l⟩ := r
    exact ⟨a, vs, e, h _ _ q, repL_mono h ds vs l⟩
  | .tup ds, v, r => by
    rw [Rep] at r ⊢
    obtain ⟨a, vs, e, q, l⟩ := r
    exact ⟨a, vs, e, h _ _ q, repL_mono h ds vs l⟩
  | .obj C ks ds, v, r => by
    rw [Rep] at r ⊢
    obtain ⟨a, dx, vs, e, q, q2, n, l⟩ := r
    exact ⟨a, dx, vs, e, h _ _ q, h _ _ q2, n, repL_mono h ds vs l⟩
  | .exc a dx C ks ds, v, r => by
    rw [Rep] at r ⊢
    obtain ⟨vs, e, q, n, l⟩ := r
    exact ⟨vs, e, h _ _ q, n, repL_mono h ds vs l⟩
  | .dct ks ds, v, r => by
    rw [Rep] at r ⊢
    obtain ⟨a, vs, e, q, n, l⟩ := r
    exact ⟨a, vs, e, h _ _ q, n, repL_mono h ds vs l⟩
  | .dcT ks ds, v, r => by
    rw [Rep] at r ⊢
    obtain ⟨a, vs, e, q, n, l⟩ := r
    exact ⟨a, vs, e, h _ _ q, n, repL_mono h ds vs l⟩
theorem repL_mono {B : Option Addr} {S S' : Hp} (h : Same S S') : ∀ (ds : List D) (vs : List V), RepL B S ds vs → RepL B S' ds vs
  | [], _, r => r
  | d :: ds, vs, r => by
    rw [RepL] at r ⊢
    obtain ⟨v, ws, e, q, l⟩ := r
    exact ⟨v, ws, e, rep_mono h d v q, repL_mono h ds ws l⟩
end
section
variable {B : Option Addr} {S S' : Hp} {d : D} {ds es : List D} {v : V} {vs ws : List V}
theorem repL_nil : RepL B S [] [] := rfl
theorem repL_cons (h : Rep B S d v) (t : RepL B S ds vs) : RepL B S (d :: ds) (v :: vs) := ⟨v, vs, rfl, h, t⟩
theorem repL_nil_of (h : RepL B S [] vs) : vs = [] := h
theorem repL_cons_of (h : RepL B S (d :: ds) vs) : ∃ v ws, vs = v :: ws ∧ Rep B S d v ∧ RepL B S ds ws := h
theorem RepL.length : ∀ {ds : List D} {vs : List V}, RepL B S ds vs → vs.length = ds.length
  | [], vs, h => by rw [repL_nil_of h]; rfl
  | d :: ds, vs, h => by
    obtain ⟨v, ws, rfl, _, t⟩ := repL_cons_of h
    rw [List.length_cons, List.length_cons, RepL.length t]
theorem RepL.app : ∀ {ds : List D} {vs : List V}, RepL B S ds vs → RepL B S es ws → RepL B S (ds ++ es) (vs ++ ws)
  | [], vs, h, k => by rw [repL_nil_of h]; exact k
  | d :: ds, vs, h, k => by
    obtain ⟨v, us, rfl, r, t⟩ := repL_cons_of h
    exact repL_cons r (RepL.app t k)
theorem RepL.get : ∀ {ds : List D} {vs : List V} {i : Nat} {d : D}, RepL B S ds vs → ds[i]? = some d → ∃ v, vs[i]? = some v ∧ Rep B S d v
  | [], _, _, _, _, e => by simp at e
  | d :: ds, vs, 0, _, h, e => by
    obtain ⟨v, ws, rfl, r, t⟩ := repL_cons_of h
    simp at e
    subst e
    exact ⟨v, rfl, r⟩
  | d :: ds, vs, i + 1, _, h, e => by
    obtain ⟨v, ws, rfl, r, t⟩ := repL_cons_of h
    obtain ⟨u, q, r2⟩ := RepL.get (i := i) t (by simpa using e)
    exact ⟨u, by simpa using q, r2⟩
theorem RepL.set : ∀ {ds : List D} {vs : List V} (i : Nat), RepL B S ds vs → Rep B S d v → RepL B S (ds.set i d) (vs.set i v)
  | [], vs, i, h, r => by rw [repL_nil_of h]; exact repL_nil
  | d :: ds, vs, 0, h, r => by
    obtain ⟨u, ws, rfl, r1, t⟩ := repL_cons_of h
    exact repL_cons r t
  | d :: ds, vs, i + 1, h, r => by
    obtain ⟨u, ws, rfl, r1, t⟩ := repL_cons_of h
    exact repL_cons r1 (RepL.set i t r)
theorem RepL.take : ∀ {ds : List D} {vs : List V} (i : Nat), RepL B S ds vs → RepL B S (ds.take i) (vs.take i)
  | _, _, 0, _ => by simpa using repL_nil
  | [], vs, i + 1, h => by rw [repL_nil_of h]; exact repL_nil
  | d :: ds, vs, i + 1, h => by
    obtain ⟨u, ws, rfl, r1, t⟩ := repL_cons_of h
    exact repL_cons r1 (RepL.take i t)
theorem RepL.drop : ∀ {ds : List D} {vs : List V} (i : Nat), RepL B S ds vs → RepL B S (ds.drop i) (vs.drop i)
  | _, _, 0, h => h
  | [], vs, i + 1, h => by rw [repL_nil_of h]; exact repL_nil
  | d :: ds, vs, i + 1, h => by
    obtain ⟨u, ws, rfl, r1, t⟩ := repL_cons_of h
    exact RepL.drop i t
theorem RepL.rev (h : RepL B S ds vs) : RepL B S ds.reverse vs.reverse := by
  induction ds generalizing vs with
  | nil => rw [repL_nil_of h]; exact repL_nil
  | cons d ds ih =>
    obtain ⟨u, ws, rfl, r1, t⟩ := repL_cons_of h
    rw [List.reverse_cons, List.reverse_cons]
    exact (ih t).app (repL_cons r1 repL_nil)
theorem RepL.rep (h : RepL B S ds vs) : ∀ k : Nat, RepL B S (List.replicate k ds).flatten (List.replicate k vs).flatten
  | 0 => repL_nil
  | k + 1 => by
    rw [List.replicate_succ, List.replicate_succ, List.flatten_cons, List.flatten_cons]
    exact h.app (RepL.rep h k)
theorem RepL.ints {ns : List Int} : ∀ {vs : List V}, RepL B S (ns.map D.int) vs → vs = ns.map V.int := by
  induction ns with
  | nil => intro vs h; exact repL_nil_of h
  | cons n ns ih =>
    intro vs h
    obtain ⟨u, ws, rfl, r1, t⟩ := repL_cons_of h
    rw [ih t, show u = V.int n from r1]
    rfl
end
structure Fm where
  B : Option Addr
  C : Addr
  H0 : Hp
  S0 : Hp
/-- the law's bag: its cells, the next one, what is left of a great cell, the mixed number, the number of draws -/
def BagAt (b ca : Addr) (S H : Hp) : Prop := S b = none ∧ ∃ (cs : List Int) (i g st n : Int), H b = some (.lst [.ref ca, .int i, .int g, .int st, .int n]) ∧ S ca = some (.lst (cs.map V.int)) ∧ 0 ≤ i ∧ 0 ≤ g ∧ 0 ≤ st ∧ st < 2147483549
/-- the tables of code objects as they stand -/
def TabAll (S H : Hp) : Prop := ∀ p ∈ TbC.ts, LamX.TabS H p.1 p.2 ∧ S p.1 = none
/-- what may change though others know it: the bag, the tables -/
def Ex (B : Option Addr) (a : Addr) : Prop := B = some a ∨ ∃ p ∈ TbC.ts, p.1 = a
/-- a code object, a lambda's function object: they stay -/
def Fx (o : HO) : Prop := (∃ c q, o = LamX.CodeO c q) ∨ ∃ f i cl dV c', o = LamO f i cl dV c'
theorem fx_not {o : HO} (h : ∀ φ, o ≠ .ext φ) : ¬ Fx o := fun z => by
  rcases z with ⟨c, q, z⟩ | ⟨f, i, cl, dV, c', z⟩
  · exact h _ z
  · exact h _ z
/-- an object that may change -/
def Mu (x : Option HO) : Prop := x ≠ none ∧ ∀ o, x = some o → ¬ Fx o
theorem mu_ofF {x : Option HO} {o : HO} (e : x = some o) (h : ¬ Fx o) : Mu x := ⟨(by rw [e]; exact fun z => nomatch z), fun u z y => h (by rw [e] at z; cases z; exact y)⟩
theorem mu_of {x : Option HO} {o : HO} (e : x = some o) (h : ∀ φ, o ≠ .ext φ) : Mu x := mu_ofF e (fx_not h)
theorem mu_lst {x : Option HO} {vs : List V} (e : x = some (.lst vs)) : Mu x := mu_of e fun _ z => nomatch z
structure Kf (c : Fm) (H S : Hp) : Prop where
  sub : Same S H
  s0 : Same c.S0 S
  old : ∀ a o, c.H0 a = some o → ¬ Ex c.B a → H a = some o
  new : ∀ a, c.S0 a = none → Mu (c.H0 a) → S a = none
  bag : ∀ b, c.B = some b → BagAt b c.C S H ∧ c.H0 b ≠ none
  tab : TabAll S H ∧ ∀ p ∈ TbC.ts, c.H0 p.1 ≠ none
/-- what a name holds: data, or a list of its own that may change -/
inductive T where
  | dat (d : D)
  | lst (ts : List T)
  | tup (ts : List T)
  | obj (C : Addr) (ks : List Str) (ts : List T)
inductive DV where
  | val (d : D)
  | own (ds : List D)
  | tre (t : T) (as : List Addr)
abbrev En := List (Option DV)
mutual
/-- a tree of lists and objects that stand for nobody else, at the addresses as; its leaves stay as they are -/
def RepT (B : Option Addr) (S H : Hp) : T → V → List Addr → Prop
  | .dat d, v, as => Rep B S d v ∧ as = []
  | .lst ts, v, as => ∃ a vs bs, v = .ref a ∧ H a = some (.lst vs) ∧ RepTL B S H ts vs bs ∧ as = a :: bs
  | .tup ts, v, as => ∃ a vs, v = .ref a ∧ S a = some (.tup vs) ∧ RepTL B S H ts vs as
  | .obj C ks ts, v, as => ∃ a dx vs bs, v = .ref a ∧ H a = some (.ins C dx (ks.zip vs)) ∧ H dx = some (.own a) ∧ ts.length = ks.length ∧ RepTL B S H ts vs bs ∧ as = a :: dx :: bs
def RepTL (B : Option Addr) (S H : Hp) : List T → List V → List Addr → Prop
  | [], vs, as => vs = [] ∧ as = []
  | t :: ts, vs, as => ∃ v ws bs cs, vs = v :: ws ∧ RepT B S H t v bs ∧ RepTL B S H ts ws cs ∧ as = bs ++ cs
end
mutual
theorem repT_mono {B : Option Addr} {S S' H H' : Hp} (h : Same S S') : ∀ (t : T) (v : V) (as : List Addr), (∀ a ∈ as, ∀ o, H a = some o → H' a = some o) → RepT B S H t v as → RepT B S' H' t v as
  | .dat d, v, as, _, r => by
    rw [RepT] at r ⊢
    exact ⟨rep_mono h d v r.1, r.2⟩
  | .lst ts, v, as, q, r => by
    rw [RepT] at r ⊢
    obtain ⟨a, vs, bs, e, e2, l, rfl⟩ := r
    exact ⟨a, vs, bs, e, q a (List.mem_cons_self ..) _ e2, repTL_mono h ts vs bs (fun b hb => q b (List.mem_cons_of_mem _ hb)) l, rfl⟩
  | .tup ts, v, as, q, r => by
    rw [RepT] at r ⊢
    obtain ⟨a, vs, e, e2, l⟩ := r
    exact ⟨a, vs, e, h _ _ e2, repTL_mono h ts vs as q l⟩
  | .obj C ks ts, v, as, q, r => by
    rw [RepT] at r ⊢
    obtain ⟨a, dx, vs, bs, e, e2, e3, n, l, rfl⟩ := r
    exact ⟨a, dx, vs, bs, e, q a (List.mem_cons_self ..) _ e2, q dx (List.mem_cons_of_mem _ (List.mem_cons_self ..)) _ e3, n, repTL_mono h ts vs bs (fun b hb => q b (List.mem_cons_of_mem _ (List.mem_cons_of_mem _ hb))) l, rfl⟩
theorem repTL_mono {B : Option Addr} {S S' H H' : Hp} (h : Same S S') : ∀ (ts : List T) (vs : List V) (as : List Addr), (∀ a ∈ as, ∀ o, H a = some o → H' a = some o) → RepTL B S H ts vs as → RepTL B S' H' ts vs as
  | [], _, _, _, r => r
  | t :: ts, vs, as, q, r => by
    rw [RepTL] at r ⊢
    obtain ⟨v, ws, bs, cs, e, r1, r2, rfl⟩ := r
    exact ⟨v, ws, bs, cs, e, repT_mono h t v bs (fun b hb => q b (List.mem_append_left _ hb)) r1, repTL_mono h ts ws cs (fun b hb => q b (List.mem_append_right _ hb)) r2, rfl⟩
end
mutual
theorem RepT.mu {B : Option Addr} {S H : Hp} : ∀ {t : T} {v : V} {as : List Addr}, RepT B S H t v as → ∀ a ∈ as, Mu (H a)
  | .dat d, v, as, r, a, m => by
    rw [RepT] at r
    rw [r.2] at m
    cases m
  | .lst ts, v, as, r, a, m => by
    rw [RepT] at r
    obtain ⟨a0, vs, bs, e, e2, l, rfl⟩ := r
    rcases List.mem_cons.mp m with rfl | m
    · exact mu_lst e2
    · exact RepTL.mu l a m
  | .tup ts, v, as, r, a, m => by
    rw [RepT] at r
    obtain ⟨a0, vs, e, e2, l⟩ := r
    exact RepTL.mu l a m
  | .obj C ks ts, v, as, r, a, m => by
    rw [RepT] at r
    obtain ⟨a0, dx, vs, bs, e, e2, e3, n, l, rfl⟩ := r
    rcases List.mem_cons.mp m with rfl | m
    · exact mu_of e2 fun _ z => nomatch z
    rcases List.mem_cons.mp m with rfl | m
    · exact mu_of e3 fun _ z => nomatch z
    · exact RepTL.mu l a m
theorem RepTL.mu {B : Option Addr} {S H : Hp} : ∀ {ts : List T} {vs : List V} {as : List Addr}, RepTL B S H ts vs as → ∀ a ∈ as, Mu (H a)
  | [], _, _, r, a, m => by
    rw [RepTL] at r
    rw [r.2] at m
    cases m
  | t :: ts, vs, as, r, a, m => by
    rw [RepTL] at r
    obtain ⟨v, ws, bs, cs, e, r1, r2, rfl⟩ := r
    rcases List.mem_append.mp m with m | m
    · exact RepT.mu r1 a m
    · exact RepTL.mu r2 a m
end
mutual
/-- a tree looked at as a value -/
def T.d : T → D
  | .dat d => d
  | .lst ts => .lst (T.ds ts)
  | .tup ts => .tup (T.ds ts)
  | .obj C ks ts => .obj C ks (T.ds ts)
def T.ds : List T → List D
  | [] => []
  | t :: ts => t.d :: T.ds ts
end
theorem T.ds_length : ∀ {ts : List T}, (T.ds ts).length = ts.length
  | [] => rfl
  | t :: ts => by rw [T.ds, List.length_cons, List.length_cons, T.ds_length]
mutual
theorem rep_tree {B : Option Addr} {S S' H : Hp} (s : Same S S') : ∀ (t : T) (v : V) (as : List Addr), (∀ a ∈ as, S' a = H a) → RepT B S H t v as → Rep B S' t.d v
  | .dat d, v, as, _, r => by
    rw [RepT] at r
    exact rep_mono s d v r.1
  | .lst ts, v, as, q, r => by
    rw [RepT] at r
    obtain ⟨a, vs, bs, e, e2, l, rfl⟩ := r
    rw [T.d, Rep]
    exact ⟨a, vs, e, (q a (List.mem_cons_self ..)).trans e2, repL_tree s ts vs bs (fun b hb => q b (List.mem_cons_of_mem _ hb)) l⟩
  | .tup ts, v, as, q, r => by
    rw [RepT] at r
    obtain ⟨a, vs, e, e2, l⟩ := r
    rw [T.d, Rep]
    exact ⟨a, vs, e, s _ _ e2, repL_tree s ts vs as q l⟩
  | .obj C ks ts, v, as, q, r => by
    rw [RepT] at r
    obtain ⟨a, dx, vs, bs, e, e2, e3, n, l, rfl⟩ := r
    rw [T.d, Rep]
    exact ⟨a, dx, vs, e, (q a (List.mem_cons_self ..)).trans e2, (q dx (List.mem_cons_of_mem _ (List.mem_cons_self ..))).trans e3, by rw [T.ds_length]; exact n, repL_tree s ts vs bs (fun b hb => q b (List.mem_cons_of_mem _ (List.mem_cons_of_mem _ hb))) l⟩
theorem repL_tree {B : Option Addr} {S S' H : Hp} (s : Same S S') : ∀ (ts : List T) (vs : List V) (as : List Addr), (∀ a ∈ as, S' a = H a) → RepTL B S H ts vs as → RepL B S' (T.ds ts) vs
  | [], _, _, _, r => by
    rw [RepTL] at r
    rw [r.1]
    exact repL_nil
  | t :: ts, vs, as, q, r => by
    rw [RepTL] at r
    obtain ⟨v, ws, bs, cs, rfl, r1, r2, rfl⟩ := r
    rw [T.ds]
    exact repL_cons (rep_tree s t v bs (fun b hb => q b (List.mem_append_left _ hb)) r1) (repL_tree s ts ws cs (fun b hb => q b (List.mem_append_right _ hb)) r2)
end
mutual
/-- a value whose lists are all its own -/
def D.tr : D → T
  | .lst xs => .lst (D.trs xs)
  | .tup xs => .tup (D.trs xs)
  | .non => .dat .non | .bl b => .dat (.bl b) | .int i => .dat (.int i) | .str s => .dat (.str s) | .ty n => .dat (.ty n) | .adr a => .dat (.adr a) | .bag => .dat .bag
  | .fn i cl z => .dat (.fn i cl z) | .obj C ks xs => .dat (.obj C ks xs) | .exc a dx C ks xs => .dat (.exc a dx C ks xs) | .dct ks xs => .dat (.dct ks xs) | .dcT ks xs => .dat (.dcT ks xs)
def D.trs : List D → List T
  | [] => []
  | d :: ds => d.tr :: D.trs ds
end
mutual
theorem tr_d : ∀ d : D, d.tr.d = d
  | .lst xs => by rw [D.tr, T.d, trs_ds xs]
  | .tup xs => by rw [D.tr, T.d, trs_ds xs]
  | .non | .bl _ | .int _ | .str _ | .ty _ | .adr _ | .bag | .fn _ _ _ | .obj _ _ _ | .exc _ _ _ _ _ | .dct _ _ | .dcT _ _ => by rw [D.tr, T.d]
theorem trs_ds : ∀ ds : List D, T.ds (D.trs ds) = ds
  | [] => rfl
  | d :: ds => by rw [D.trs, T.ds, tr_d d, trs_ds ds]
end
theorem trs_length : ∀ ds : List D, (D.trs ds).length = ds.length
  | [] => rfl
  | d :: ds => by rw [D.trs, List.length_cons, List.length_cons, trs_length ds]
def DvR (c : Fm) (S H : Hp) : DV → V → Prop
  | .val d, v => Rep c.B S d v
  | .own ds, v => ∃ p vs, v = .ref p ∧ S p = none ∧ c.H0 p = none ∧ H p = some (.lst vs) ∧ RepL c.B S ds vs
  | .tre t as, v => RepT c.B S H t v as ∧ as.Nodup ∧ ∀ a ∈ as, S a = none ∧ c.H0 a = none
/-- what a name holds for itself -/
def Foot : DV → V → Addr → Prop
  | .val _, _, _ => False
  | .own _, v, a => v = .ref a
  | .tre _ as, _, a => a ∈ as
theorem DvR.foot {c : Fm} {S H : Hp} : ∀ {x : DV} {v : V}, DvR c S H x v → ∀ a, Foot x v a → S a = none ∧ c.H0 a = none ∧ Mu (H a)
  | .val _, _, _, _, f => f.elim
  | .own ds, v, r, a, f => by
    obtain ⟨p, vs, e, h1, h2, h3, _⟩ := r
    have f : v = .ref a := f
    rw [e] at f
    cases f
    exact ⟨h1, h2, mu_lst h3⟩
  | .tre t as, v, r, a, f => ⟨(r.2.2 a f).1, (r.2.2 a f).2, r.1.mu a f⟩
/-- what is told of a name stays, if the frozen things grow and what the name holds for itself is as it was -/
theorem DvR.keep {c c' : Fm} {S S' H H' : Hp} (hB : c'.B = c.B) (hs : Same S S') : ∀ {x : DV} {v : V}, DvR c S H x v → (∀ a, Foot x v a → S' a = none ∧ c'.H0 a = none ∧ ∀ o, H a = some o → H' a = some o) → DvR c' S' H' x v
  | .val d, v, r, _ => by
    show Rep c'.B S' d v
    rw [hB]
    exact rep_mono hs d v r
  | .own ds, v, r, q => by
    obtain ⟨p, vs, rfl, h1, h2, h3, h4⟩ := r
    obtain ⟨q1, q2, q3⟩ := q p rfl
    refine ⟨p, vs, rfl, q1, q2, q3 _ h3, ?_⟩
    rw [hB]
    exact repL_mono hs ds vs h4
  | .tre t as, v, r, q => by
    obtain ⟨h1, h2, h3⟩ := r
    refine ⟨?_, h2, fun a m => ⟨(q a m).1, (q a m).2.1⟩⟩
    rw [hB]
    exact repT_mono hs t v as (fun a m => (q a m).2.2) h1
structure Kn (c : Fm) (σ : St) (H S : Hp) (env : En) : Prop where
  kf : Kf c H S
  len : env.length = σ.length
  sl : ∀ (i : Nat) (x : DV), env[i]? = some (some x) → ∃ v, σ[i]? = some (some v) ∧ DvR c S H x v
  apart : ∀ (i j : Nat) (x y : DV) (v u : V) (a : Addr), i ≠ j → env[i]? = some (some x) → env[j]? = some (some y) → σ[i]? = some (some v) → σ[j]? = some (some u) → Foot x v a → ¬ Foot y u a
section
variable {c : Fm} {σ : St} {H H' S S' : Hp} {env : En} {a p : Addr} {o : HO}
/-- an object that is no table and no code object may change -/
theorem TabAll.of (t : TabAll S H) (hH : ∀ a o, H a = some o → ((∃ ps, o = .tbl ps) ∨ Fx o) → H' a = some o) (hn : ∀ p ∈ TbC.ts, S p.1 = none → S' p.1 = none) : TabAll S' H' := fun p hp => by
  obtain ⟨⟨ps, h1, h2, h3⟩, h4⟩ := t p hp
  refine ⟨⟨ps, hH _ _ h1 (.inl ⟨_, rfl⟩), h2, fun pos cv hc => ?_⟩, hn p hp h4⟩
  obtain ⟨c1, e1, e2⟩ := h3 pos cv hc
  exact ⟨c1, e1, hH _ _ e2 (.inr (.inl ⟨_, _, rfl⟩))⟩
theorem TabAll.ne (t : TabAll S H) {p : Addr × Str} (hp : p ∈ TbC.ts) : H p.1 ≠ none := fun z => by
  obtain ⟨⟨ps, h1, _⟩, _⟩ := t p hp
  rw [z] at h1
  cases h1
theorem TabAll.same (t : TabAll S H) (hH : Same H H') (hn : ∀ a, S a = none → Mu (H a) → S' a = none) : TabAll S' H' :=
  t.of (fun a o e _ => hH a o e) fun p hp e => hn _ e (by
    obtain ⟨⟨ps, h1, _⟩, _⟩ := t p hp
    exact mu_of h1 fun _ z => nomatch z)
/-- a list (or anything else that is no table, no code object) at p is told anew -/
theorem TabAll.updHF {u : HO} (t : TabAll S H) (hp : ∀ v, H p = some v → (∀ ps, v ≠ .tbl ps) ∧ ¬ Fx v) (hn : ∀ q ∈ TbC.ts, S q.1 = none → S' q.1 = none) : TabAll S' (upd H p u) :=
  t.of (fun a o e ty => by
    by_cases z : a = p
    · subst z
      obtain ⟨n1, n2⟩ := hp _ e
      rcases ty with ⟨ps, y⟩ | y
      · exact (n1 ps y).elim
      · exact (n2 y).elim
    · rw [upd_ne z]
      exact e) hn
theorem TabAll.updH {u : HO} (t : TabAll S H) (hp : ∀ v, H p = some v → (∀ ps, v ≠ .tbl ps) ∧ ∀ φ, v ≠ .ext φ) (hn : ∀ q ∈ TbC.ts, S q.1 = none → S' q.1 = none) : TabAll S' (upd H p u) := t.updHF (fun v e => ⟨(hp v e).1, fx_not (hp v e).2⟩) hn
theorem lst_ne {vs : List V} : (∀ ps, HO.lst vs ≠ .tbl ps) ∧ ∀ φ, HO.lst vs ≠ .ext φ := ⟨fun ps z => (nomatch z), fun φ z => (nomatch z)⟩
theorem TabAll.lst {vs : List V} {u : HO} (t : TabAll S H) (h : H p = some (.lst vs)) : TabAll S (upd H p u) := t.updH (fun v e => by rw [h] at e; cases e; exact lst_ne) fun _ _ e => e
theorem TabAll.not {vs : List V} (t : TabAll S H) (h : H p = some (.lst vs)) {q : Addr × Str} (hq : q ∈ TbC.ts) : q.1 ≠ p := fun z => by
  obtain ⟨⟨ps, h1, _⟩, _⟩ := t q hq
  rw [z, h] at h1
  cases h1
theorem TabAll.frz {vs : List V} {u : HO} (t : TabAll S H) (h : H p = some (.lst vs)) : TabAll (upd S p u) H := fun q hq => ⟨(t q hq).1, by rw [upd_ne (t.not h hq)]; exact (t q hq).2⟩
theorem Kf.b_ne (k : Kf c H S) (h : H p = none) : c.B ≠ some p := fun e => by
  obtain ⟨⟨_, cs, i, g, st, n, q, _⟩, _⟩ := k.bag p e
  rw [h] at q
  cases q
theorem Kf.x_ne (k : Kf c H S) (h : H p = none) : ¬ Ex c.B p := fun e => by
  rcases e with e | ⟨q, hq, e⟩
  · exact k.b_ne h e
  · exact k.tab.1.ne hq (by rw [e]; exact h)
theorem Kf.x_ne0 (k : Kf c H S) (h : c.H0 p = none) : ¬ Ex c.B p := fun e => by
  rcases e with e | ⟨q, hq, e⟩
  · exact (k.bag p e).2 h
  · exact k.tab.2 q hq (by rw [e]; exact h)
theorem Kf.s_none (k : Kf c H S) (h : H p = none) : S p = none := k.sub.free h
theorem Kf.h0_none (k : Kf c H S) (h : H p = none) : c.H0 p = none := by
  cases e : c.H0 p with
  | none => rfl
  | some o =>
    have q := k.old p o e (k.x_ne h)
    rw [h] at q
    cases q
theorem Kf.back (k : Kf c H S) (q : Mu (c.H0 a)) : Mu (H a) := by
  by_cases x : Ex c.B a
  · rcases x with e | ⟨p, hp, e⟩
    · obtain ⟨⟨_, cs, i, g, st, n, q, _⟩, _⟩ := k.bag a e
      exact mu_lst q
    · obtain ⟨⟨ps, h1, _⟩, _⟩ := k.tab.1 p hp
      rw [← e]
      exact mu_of h1 fun _ z => nomatch z
  · cases e : c.H0 a with
    | none => exact (q.1 e).elim
    | some o => exact mu_ofF (k.old a o e x) (q.2 o e)
/-- the general step -/
theorem Kf.step (k : Kf c H S) (hs : Same S S') (hsub : Same S' H') (hH : ∀ a o, H a = some o → ¬ Ex c.B a → H' a = some o) (hn : ∀ a, S a = none → Mu (H a) → S' a = none) (hb : ∀ b, c.B = some b → BagAt b c.C S' H') (ht : TabAll S' H') : Kf c H' S' :=
  ⟨hsub, k.s0.trans hs, fun a o e n => hH a o (k.old a o e n) n, fun a e n => hn a (k.new a e n) (k.back n), fun b e => ⟨hb b e, (k.bag b e).2⟩, ht, k.tab.2⟩
theorem Kn.step (k : Kn c σ H S env) (hs : Same S S') (hsub : Same S' H') (hH : ∀ a o, H a = some o → ¬ Ex c.B a → H' a = some o) (hn : ∀ a, S a = none → Mu (H a) → S' a = none) (hb : ∀ b, c.B = some b → BagAt b c.C S' H') (ht : TabAll S' H') : Kn c σ H' S' env := by
  refine ⟨k.kf.step hs hsub hH hn hb ht, k.len, fun i x e => ?_, k.apart⟩
  obtain ⟨v, e1, r⟩ := k.sl i x e
  refine ⟨v, e1, r.keep rfl hs fun a f => ?_⟩
  obtain ⟨f1, f2, f3⟩ := r.foot a f
  exact ⟨hn a f1 f3, f2, fun o e5 => hH a o e5 (k.kf.x_ne0 f2)⟩
theorem Kf.bagSame (k : Kf c H S) (hs : Same S S') (hH : Same H H') (hn : ∀ a, S a = none → Mu (H a) → S' a = none) : ∀ b, c.B = some b → BagAt b c.C S' H' := fun b e => by
  obtain ⟨⟨e1, cs, i, g, st, n, q, q2, q3⟩, _⟩ := k.bag b e
  exact ⟨hn b e1 (mu_lst q), cs, i, g, st, n, hH _ _ q, hs _ _ q2, q3⟩
/-- nothing of H has changed -/
theorem Kn.grow (k : Kn c σ H S env) (hs : Same S S') (hsub : Same S' H') (hH : Same H H') (hn : ∀ a, S a = none → Mu (H a) → S' a = none) : Kn c σ H' S' env :=
  k.step hs hsub (fun a o e _ => hH a o e) hn (k.kf.bagSame hs hH hn) (k.kf.tab.1.same hH hn)
theorem same_upd (h : H p = none) : Same H (upd H p o) := fun b u e => by
  rw [upd_ne (ne_of_none e h)]
  exact e
theorem same_upd2 (hs : Same S H) (h : H p = none) : Same (upd S p o) (upd H p o) := fun b u e => by
  by_cases z : b = p
  · subst z
    rw [upd_same] at e ⊢
    exact e
  · rw [upd_ne z] at e ⊢
    exact hs b u e
/-- a new object that stays as it is -/
theorem Kn.new (k : Kn c σ H S env) (h : H p = none) : Kn c σ (upd H p o) (upd S p o) env :=
  k.grow (same_upd (k.kf.s_none h)) (same_upd2 k.kf.sub h) (same_upd h) fun a e n => by
    have z : a ≠ p := fun z => n.1 (by rw [z]; exact h)
    rw [upd_ne z]
    exact e
/-- a new object that may change: known to nobody yet -/
theorem Kn.new0 (k : Kn c σ H S env) (h : H p = none) : Kn c σ (upd H p o) S env :=
  k.grow (Same.refl S) (k.kf.sub.trans (same_upd h)) (same_upd h) fun a e n => e
end
structure Er where
  cls : Addr
  ks : List Str
  ds : List D
def XOk (c : Fm) (E : XK) (Rx : Er → Prop) : Prop := ∀ (er : Er) (d : Addr) (vs : List V) (H S : Hp), Kf c H S → RepL c.B S er.ds vs → er.ds.length = er.ks.length → H d = some (.xd (er.ks.zip vs)) → c.H0 d = none → S d = none → Rx er → E (.ref er.cls) (some d) H
abbrev DT := En → (D → Prop) → (Er → Prop) → Prop
abbrev DTT := En → (Bool → Prop) → (Er → Prop) → Prop
abbrev DTA := En → (List D → Prop) → (Er → Prop) → Prop
/-- a result: of all that stays; made here alone; made here alone, its lists its own -/
inductive Rk where
  | old | nw | tr
structure DEnds where
  nx : En → Prop
  rt : Rk → D → Prop
  bk : En → Prop := fun _ => False
  ct : En → Prop := fun _ => False
  ex : Er → Prop
abbrev DTS := DEnds → En → Prop
/-- an expression's reading t is told by T -/
def Sm (E : XK) (t : TE) (T : DT) : Prop := ∀ (c : Fm) (σ : St) (H S : Hp) (env : En) (R : D → Prop) (Rx : Er → Prop), XOk c E Rx → Kn c σ H S env → T env R Rx →
  ∀ Q : VK, (∀ v H' S' d, Kn c σ H' S' env → Same S S' → Rep c.B S' d v → R d → Q v H') → t σ H Q
def SmT (E : XK) (t : TT) (T : DTT) : Prop := ∀ (c : Fm) (σ : St) (H S : Hp) (env : En) (R : Bool → Prop) (Rx : Er → Prop), XOk c E Rx → Kn c σ H S env → T env R Rx →
  ∀ Q : Bool → Hp → Prop, (∀ b H' S', Kn c σ H' S' env → Same S S' → R b → Q b H') → t σ H Q
def SmA (E : XK) (t : TA) (T : DTA) : Prop := ∀ (c : Fm) (σ : St) (H S : Hp) (env : En) (R : List D → Prop) (Rx : Er → Prop), XOk c E Rx → Kn c σ H S env → T env R Rx →
  ∀ Q : List V → Hp → Prop, (∀ vs H' S' ds, Kn c σ H' S' env → Same S S' → RepL c.B S' ds vs → R ds → Q vs H') → t σ H Q
/-- what is new since H -/
def newH (H S : Hp) : Hp := fun a => match H a with
  | none => S a
  | some _ => none
theorem newH_of {H S : Hp} {a : Addr} (h : H a = none) : newH H S a = S a := by unfold newH; rw [h]
theorem newH_some {H S : Hp} {a : Addr} {o : HO} (e : newH H S a = some o) : H a = none ∧ S a = some o := by
  unfold newH at e
  split at e
  · exact ⟨by assumption, e⟩
  · cases e
theorem newH_sub {H S : Hp} : Same (newH H S) S := fun a o e => (newH_some e).2
open Classical in
noncomputable def frzS (as : List Addr) (H S : Hp) : Hp := fun a => if a ∈ as then H a else S a
theorem frzS_in {as : List Addr} {H S : Hp} {a : Addr} (h : a ∈ as) : frzS as H S a = H a := if_pos h
theorem frzS_out {as : List Addr} {H S : Hp} {a : Addr} (h : a ∉ as) : frzS as H S a = S a := if_neg h
theorem frzS_same {as : List Addr} {H S : Hp} (h : ∀ a ∈ as, S a = none) : Same S (frzS as H S) := fun a o e => by
  by_cases z : a ∈ as
  · rw [h a z] at e
    cases e
  · rw [frzS_out z]
    exact e
theorem Kf.frzT {c : Fm} {H S : Hp} {as : List Addr} (k : Kf c H S) (q : ∀ a ∈ as, S a = none ∧ c.H0 a = none) : Kf c H (frzS as H S) := by
  have s := frzS_same (H := H) fun a m => (q a m).1
  refine ⟨fun a o e => ?_, k.s0.trans s, k.old, fun a e n => ?_, fun b e => ?_, ⟨fun p hp => ⟨(k.tab.1 p hp).1, ?_⟩, k.tab.2⟩⟩
  · by_cases z : a ∈ as
    · rw [frzS_in z] at e
      exact e
    · rw [frzS_out z] at e
      exact k.sub a o e
  · rw [frzS_out fun z => n.1 (q a z).2]
    exact k.new a e n
  · obtain ⟨⟨b1, cs, i, g, st, n, b2, b3, b4⟩, b5⟩ := k.bag b e
    exact ⟨⟨by rw [frzS_out fun z => b5 (q b z).2]; exact b1, cs, i, g, st, n, b2, s _ _ b3, b4⟩, b5⟩
  · rw [frzS_out fun z => k.tab.2 p hp (q _ z).2]
    exact (k.tab.1 p hp).2
theorem repT_frz {c : Fm} {H S : Hp} {t : T} {v : V} {as : List Addr} (r : RepT c.B S H t v as) (q : ∀ a ∈ as, S a = none) : Rep c.B (frzS as H S) t.d v := rep_tree (frzS_same q) t v as (fun _ m => frzS_in m) r
def RepN (c : Fm) (H S : Hp) : Rk → D → V → Prop
  | .old, d, v => Rep c.B S d v
  | .nw, d, v => Rep c.B (newH c.H0 S) d v
  | .tr, d, v => ∃ as, RepT c.B S H d.tr v as ∧ as.Nodup ∧ ∀ a ∈ as, S a = none ∧ c.H0 a = none
theorem RepN.old {c : Fm} {H S : Hp} {n : Rk} {d : D} {v : V} (k : Kf c H S) (r : RepN c H S n d v) : ∃ S', Kf c H S' ∧ Same S S' ∧ Rep c.B S' d v := by
  cases n with
  | old => exact ⟨S, k, Same.refl S, r⟩
  | nw => exact ⟨S, k, Same.refl S, rep_mono newH_sub d v r⟩
  | tr =>
    obtain ⟨as, r, _, q⟩ := r
    refine ⟨_, k.frzT q, frzS_same fun a m => (q a m).1, ?_⟩
    have := repT_frz r fun a m => (q a m).1
    rw [tr_d] at this
    exact this
def mk (c : Fm) (S : Hp) (Q : DEnds) (D : Ends) : Prop :=
  (∀ σ H S' env, Kn c σ H S' env → Same S S' → Q.nx env → D.nx σ H) ∧ (∀ n v H S' d, Kf c H S' → Same S S' → RepN c H S' n d v → Q.rt n d → D.rt v H) ∧
  (∀ σ H S' env, Kn c σ H S' env → Same S S' → Q.bk env → D.bk σ H) ∧ (∀ σ H S' env, Kn c σ H S' env → Same S S' → Q.ct env → D.ct σ H)
def SmS (E : XK) (t : TS) (T : DTS) : Prop := ∀ (c : Fm) (σ : St) (H S : Hp) (env : En) (Q : DEnds), XOk c E Q.ex → Kn c σ H S env → T Q env →
  ∀ D : Ends, mk c S Q D → t D σ H
theorem mk.mono {c : Fm} {S S' : Hp} {Q : DEnds} {D : Ends} (m : mk c S Q D) (h : Same S S') : mk c S' Q D :=
  ⟨fun σ H S2 env k s q => m.1 σ H S2 env k (h.trans s) q, fun n v H S2 d k s r q => m.2.1 n v H S2 d k (h.trans s) r q, fun σ H S2 env k s q => m.2.2.1 σ H S2 env k (h.trans s) q, fun σ H S2 env k s q => m.2.2.2 σ H S2 env k (h.trans s) q⟩
def DE (X : Cx) (E : XK) (e : Expr) (T : DT) : Prop := ∃ t, PE X e t ∧ Sm E t T
def DTe (X : Cx) (E : XK) (e : Expr) (T : DTT) : Prop := ∃ t, PT X e t ∧ SmT E t T
def DWe (X : Cx) (E : XK) (e : Expr) (T : DTT) : Prop := ∃ t, PW X e t ∧ SmT E t T
def DA (X : Cx) (E : XK) (es : List Expr) (T : DTA) : Prop := ∃ t, PA X es t ∧ SmA E t T
def DS (X : Cx) (E : XK) (st : Stmt) (T : DTS) : Prop := ∃ t, PS X st t ∧ SmS E t T
def DSs (X : Cx) (E : XK) (st : List Stmt) (T : DTS) : Prop := ∃ t, PSs X st t ∧ SmS E t T
section
variable {X : Cx} {E : XK} {pos : Pos}
def xVar (i : Nat) : DT := fun env R _ => ∃ d, env[i]? = some (some (.val d)) ∧ R d
def xC (d : D) : DT := fun _ R _ => R d
theorem sm_var (i : Nat) : Sm E (tVar i) (xVar i) := fun c σ H S env R Rx _ k t Q q => by
  obtain ⟨d, e, r⟩ := t
  obtain ⟨v, e1, r1⟩ := k.sl i _ e
  exact ⟨v, e1, q v H S d k (Same.refl S) r1 r⟩
theorem sm_c {v : V} {d : D} (h : ∀ B S, Rep B S d v) : Sm E (tC v) (xC d) := fun c σ H S env R Rx _ k t Q q => q v H S d k (Same.refl S) (h _ _) t
theorem d_var (i : Nat) {x : Str} (hN : X.N[i]? = some x := by rfl) (hv : Vis X.env.scope x := by first | exact Or.inl rfl | exact Or.inr (Or.inl rfl) | exact Or.inr (Or.inr rfl)) (hd : (x == ("__debug__" : Str)) = false := by decide)
    (hcd : (x == ("__classdict__" : Str)) = false := by decide) : DE X E (.Name x pos) (xVar i) := ⟨_, pv i hN hv hd hcd, sm_var i⟩
theorem d_int {i : Int} {j} : DE X E (.Constant (.int i) j pos) (xC (.int i)) := ⟨_, pe_int, sm_c fun _ _ => rfl⟩
theorem d_bl {b : Bool} {j} : DE X E (.Constant (.bool b) j pos) (xC (.bl b)) := ⟨_, pe_bl, sm_c fun _ _ => rfl⟩
theorem d_non {j} : DE X E (.Constant .none j pos) (xC .non) := ⟨_, pe_non, sm_c fun _ _ => rfl⟩
theorem d_str {s : Str} {j} : DE X E (.Constant (.str s) j pos) (xC (.str s)) := ⟨_, pe_str, sm_c fun _ _ => rfl⟩
theorem d_gint {x : Str} {i : Int} (hm : ∃ t, X.mg x = some (.int i t)) (hg : Gl X x := by rfl) (hd : (x == ("__debug__" : Str)) = false := by decide) : DE X E (.Name x pos) (xC (.int i)) := by
  obtain ⟨t, e⟩ := hm
  exact ⟨_, pe_glob (v := .int i) hg e ⟨t, rfl⟩ hd, sm_c fun _ _ => rfl⟩
end
abbrev DOp := D → D → (D → Prop) → Prop
def SmOp (r : R2) (op : DOp) : Prop := ∀ (c : Fm) (σ : St) (H S : Hp) (env : En) (x y : D) (v u : V) (R : D → Prop), Kn c σ H S env → Rep c.B S x v → Rep c.B S y u → op x y R →
  ∀ Q : VK, (∀ z H' S' d, Kn c σ H' S' env → Same S S' → Rep c.B S' d z → R d → Q z H') → r v u H Q
def xOp (op : DOp) (Ta Tb : DT) : DT := fun env R Rx => Ta env (fun x => Tb env (fun y => op x y R) Rx) Rx
section
variable {X : Cx} {E : XK} {pos : Pos} {a b : Expr} {Ta Tb : DT} {ta tb : TE}
theorem sm_op {r : R2} {op : DOp} (ho : SmOp r op) (ha : Sm E ta Ta) (hb : Sm E tb Tb) : Sm E (tOp r ta tb) (xOp op Ta Tb) := fun c σ H S env R Rx x k t Q q =>
  ha c σ H S env _ Rx x k t _ fun v H1 S1 d1 k1 s1 r1 t1 => hb c σ H1 S1 env _ Rx x k1 t1 _ fun u H2 S2 d2 k2 s2 r2 t2 =>
    ho c σ H2 S2 env d1 d2 v u R k2 (rep_mono s2 d1 v r1) r2 t2 Q fun z H3 S3 d3 k3 s3 r3 t3 => q z H3 S3 d3 k3 ((s1.trans s2).trans s3) r3 t3
theorem d_op {op : Operator} {r : R2} {dop : DOp} (h : OpR X (binaryOp op) r) (ho : SmOp r dop) (ha : DE X E a Ta) (hb : DE X E b Tb) : DE X E (.BinOp a op b pos) (xOp dop Ta Tb) := by
  obtain ⟨ta, p1, s1⟩ := ha
  obtain ⟨tb, p2, s2⟩ := hb
  exact ⟨_, pe_op h p1 p2, sm_op ho s1 s2⟩
def opAdd : DOp
  | .int i, .int j, R => R (.int (i + j))
  | .str s, .str t, R => s.length + t.length ≤ sizeLine ∧ R (.str (s ++ t))
  | .lst xs, .lst ys, R => xs.length + ys.length ≤ sizeLine ∧ R (.lst (xs ++ ys))
  | .tup xs, .tup ys, R => xs.length + ys.length ≤ sizeLine ∧ R (.tup (xs ++ ys))
  | _, _, _ => False
def opSub : DOp
  | .int i, .int j, R => R (.int (i - j))
  | _, _, _ => False
/-- what a product of ints asks -/
def MulOk (i j : Int) : Prop := CMul i j ∨ CMulW i j
/-- a text, so many times -/
def mulS (s : Str) (n : Nat) : Str := ⟨(List.replicate n s.cps.toList).flatten.toArray⟩
theorem mulS_is {s : Str} {k : Int} : Txt.mul s k = mulS s k.toNat := by
  obtain ⟨⟨l⟩⟩ := s
  have f0 : ∀ (m : Nat) (a : List Nat), List.foldl (fun x1 x2 => x1 ++ x2) (⟨a⟩ : Array Nat) (List.replicate m ⟨l⟩) = ⟨a ++ (List.replicate m l).flatten⟩ := fun m => by
    induction m with
    | zero => intro a; simp
    | succ m ih =>
      intro a
      rw [List.replicate_succ, List.foldl_cons, List.replicate_succ, List.flatten_cons]
      have : (⟨a⟩ : Array Nat) ++ (⟨l⟩ : Array Nat) = ⟨a ++ l⟩ := by simp
      rw [this, ih, List.append_assoc]
  unfold Txt.mul mulS
  by_cases h1 : k < 1
  · rw [if_pos h1, show k.toNat = 0 by omega]
    rfl
  · rw [if_neg h1]
    split
    · rename_i h2
      rw [Bool.or_eq_true, beq_iff_eq, beq_iff_eq] at h2
      rcases h2 with rfl | h2
      · simp
      · have : l = [] := List.eq_nil_of_length_eq_zero h2
        subst this
        simp
    · have := f0 k.toNat []
      rw [List.nil_append] at this
      show Str.mk _ = Str.mk _
      congr 1
theorem mulOk_of {s : Str} {k : Int} (h1 : -(2 ^ 63) ≤ k) (h2 : k < 2 ^ 63) (h3 : s.length * k.toNat ≤ sizeLine) : PySem.MulOk s k := by
  have e : sizeLine = 16777216 := rfl
  refine ⟨by simp only [Bool.or_eq_false_iff, decide_eq_false_iff_not]; omega, fun z _ => ?_, fun z _ => ?_⟩
  · have hk : (k.toNat : Int) = k := by omega
    have h4 : (s.length : Int) * k ≤ 16777216 := by
      rw [← hk, ← Int.natCast_mul]
      omega
    have : (s.length : Int) ≤ (2 ^ 63 - 1) / k := (Int.le_ediv_iff_mul_le (by omega)).mpr (by omega)
    omega
  · show decide (_ > sizeLine) = false
    rw [decide_eq_false_iff_not]
    omega
abbrev rMulS : R2 := fun x y H Q => ∃ s k, x = .str s ∧ y = .int k ∧ PySem.MulOk s k ∧ Q (.str (Txt.mul s k)) H
theorem op_mulS : OpR X (binaryOp .Mult) rMulS := by
  intro pins s σ H x y v u Q I rx ry h
  obtain ⟨i, j, rfl, rfl, hz, q⟩ := h
  obtain ⟨t, rfl⟩ := rx
  obtain ⟨t', rfl⟩ := ry
  exact SB.mul hz fun t' k => ⟨.str (Txt.mul i j), H, I.tok _, ⟨_, rfl⟩, q⟩
def opMul : DOp
  | .int i, .int j, R => MulOk i j ∧ R (.int (i * j))
  | .lst xs, .int k, R => -(2 ^ 63) ≤ k ∧ k < 2 ^ 63 ∧ xs.length * k.toNat ≤ sizeLine ∧ R (.lst (List.replicate k.toNat xs).flatten)
  | .str s, .int k, R => -(2 ^ 63) ≤ k ∧ k < 2 ^ 63 ∧ s.length * k.toNat ≤ sizeLine ∧ R (.str (mulS s k.toNat))
  | _, _, _ => False
def DivOk (j : Int) : Prop := (j ≠ 0 ∧ j.natAbs < 1073741824) ∨ (0 < j ∧ j.natAbs.log2 < 9000)
def opFdiv : DOp
  | .int i, .int j, R => DivOk j ∧ R (.int (i.fdiv j))
  | _, _, _ => False
def opMod : DOp
  | .int i, .int j, R => j ≠ 0 ∧ R (.int (i.fmod j))
  | _, _, _ => False
def opPow : DOp
  | .int i, .int j, R => (0 ≤ j ∧ j ≤ 1000000 ∧ i.natAbs < 2 ^ 64) ∧ R (.int (i ^ j.toNat))
  | _, _, _ => False
theorem smOp_int {C : Int → Int → Prop} {g : Int → Int → V} {f : Int → Int → D} {op : DOp} (hr : ∀ i j B S, Rep B S (f i j) (g i j)) (h : ∀ x y R, op x y R → ∃ i j, x = .int i ∧ y = .int j ∧ C i j ∧ R (f i j)) : SmOp (rI C g) op :=
  fun c σ H S env x y v u R k r1 r2 t Q q => by
    obtain ⟨i, j, rfl, rfl, hc, t⟩ := h x y R t
    exact ⟨i, j, r1, r2, hc, q _ H S _ k (Same.refl S) (hr i j _ _) t⟩
theorem smOp_int0 {g : Int → Int → V} {f : Int → Int → D} {op : DOp} (hr : ∀ i j B S, Rep B S (f i j) (g i j)) (h : ∀ x y R, op x y R → ∃ i j, x = .int i ∧ y = .int j ∧ R (f i j)) : SmOp (rI0 g) op :=
  fun c σ H S env x y v u R k r1 r2 t Q q => by
    obtain ⟨i, j, rfl, rfl, t2⟩ := h x y R t
    exact ⟨i, j, r1, r2, q _ H S _ k (Same.refl S) (hr i j _ _) t2⟩
theorem lst_of {c : Fm} {σ : St} {H S : Hp} {env : En} {xs : List D} {v : V} (k : Kn c σ H S env) (r : Rep c.B S (.lst xs) v) : ∃ a vs, v = .ref a ∧ H a = some (.lst vs) ∧ S a = some (.lst vs) ∧ RepL c.B S xs vs := by
  obtain ⟨a, vs, e, q, l⟩ := r
  exact ⟨a, vs, e, k.kf.sub _ _ q, q, l⟩
theorem tup_of {c : Fm} {σ : St} {H S : Hp} {env : En} {xs : List D} {v : V} (k : Kn c σ H S env) (r : Rep c.B S (.tup xs) v) : ∃ a vs, v = .ref a ∧ H a = some (.tup vs) ∧ S a = some (.tup vs) ∧ RepL c.B S xs vs := by
  obtain ⟨a, vs, e, q, l⟩ := r
  exact ⟨a, vs, e, k.kf.sub _ _ q, q, l⟩
/-- a new list, a new tuple of known items -/
theorem put_lst {c : Fm} {σ : St} {H S : Hp} {env : En} {ds : List D} {vs : List V} {p : Addr} (k : Kn c σ H S env) (l : RepL c.B S ds vs) (h : H p = none) :
    Kn c σ (upd H p (.lst vs)) (upd S p (.lst vs)) env ∧ Same S (upd S p (.lst vs)) ∧ Rep c.B (upd S p (.lst vs)) (.lst ds) (.ref p) := by
  have s : Same S (upd S p (.lst vs)) := same_upd (k.kf.s_none h)
  exact ⟨k.new h, s, p, vs, rfl, upd_same, repL_mono s ds vs l⟩
theorem put_tup {c : Fm} {σ : St} {H S : Hp} {env : En} {ds : List D} {vs : List V} {p : Addr} (k : Kn c σ H S env) (l : RepL c.B S ds vs) (h : H p = none) :
    Kn c σ (upd H p (.tup vs)) (upd S p (.tup vs)) env ∧ Same S (upd S p (.tup vs)) ∧ Rep c.B (upd S p (.tup vs)) (.tup ds) (.ref p) := by
  have s : Same S (upd S p (.tup vs)) := same_upd (k.kf.s_none h)
  exact ⟨k.new h, s, p, vs, rfl, upd_same, repL_mono s ds vs l⟩
abbrev rAddS0 : R2 := fun x y H Q => ∃ i j, x = .str i ∧ y = .str j ∧ i.length + j.length ≤ sizeLine ∧ Q (.str (i ++ j)) H
abbrev rAddAll (K : PySem.W.Frag) : R2 := fun x y H Q => rI0 (fun i j => .int (i + j)) x y H Q ∨ (fun x y H Q => rAddS0 x y H Q ∨ (fun x y H Q => rCat x y H Q ∨ rCatA K x y H Q) x y H Q) x y H Q
theorem op_addAll : OpR X (binaryOp .Add) (rAddAll X.K) := op_add.or (op_add_str.or (op_cat.or op_catA))
theorem smOp_add {K : PySem.W.Frag} : SmOp (rAddAll K) opAdd := by
  intro c σ H S env x y v u R k r1 r2 t Q q
  cases x <;> cases y <;> try exact (show False from t).elim
  · exact .inl ⟨_, _, r1, r2, q _ H S (.int _) k (Same.refl S) rfl t⟩
  · exact .inr (.inl ⟨_, _, r1, r2, t.1, q _ H S (.str _) k (Same.refl S) rfl t.2⟩)
  · obtain ⟨a, vs, e1, h1, _, l1⟩ := lst_of k r1
    obtain ⟨b, ws, e2, h2, _, l2⟩ := lst_of k r2
    obtain ⟨hz, t⟩ := t
    refine .inr (.inr (.inl ⟨a, b, vs, ws, e1, e2, h1, h2, by rw [l1.length, l2.length]; exact hz, fun p hp => ?_⟩))
    obtain ⟨k', s', r'⟩ := put_lst k (l1.app l2) hp
    exact q _ _ _ _ k' s' r' t
  · obtain ⟨a, vs, e1, h1, hS1, l1⟩ := tup_of k r1
    obtain ⟨b, ws, e2, h2, hS2, l2⟩ := tup_of k r2
    obtain ⟨hz, t⟩ := t
    refine .inr (.inr (.inr ⟨a, b, vs, ws, e1, e2, SqT.of h1, SqT.of h2, by rw [l1.length, l2.length]; exact hz, fun z => ?_, fun z z2 => ?_, fun z z2 p hp => ?_⟩))
    · subst z
      have e0 : ∀ {ds : List D}, RepL c.B S ds [] → ds = [] := fun {ds} l => by
        have := l.length
        exact List.length_eq_zero_iff.mp (by simpa using this.symm)
      have e3 := e0 l1
      subst e3
      exact q _ H S _ k (Same.refl S) (show Rep c.B S (.tup ([] ++ _)) (.ref b) from ⟨b, ws, rfl, hS2, l2⟩) t
    · subst z2
      have e0 : ∀ {ds : List D}, RepL c.B S ds [] → ds = [] := fun {ds} l => by
        have := l.length
        exact List.length_eq_zero_iff.mp (by simpa using this.symm)
      have e3 := e0 l2
      subst e3
      rw [List.append_nil] at t
      exact q _ H S (.tup _) k (Same.refl S) ⟨a, vs, rfl, hS1, l1⟩ t
    · obtain ⟨k', s', r'⟩ := put_tup k (l1.app l2) hp
      exact q _ _ _ _ k' s' r' t
theorem d_add (ha : DE X E a Ta) (hb : DE X E b Tb) : DE X E (.BinOp a .Add b pos) (xOp opAdd Ta Tb) := d_op op_addAll smOp_add ha hb
theorem d_sub (ha : DE X E a Ta) (hb : DE X E b Tb) : DE X E (.BinOp a .Sub b pos) (xOp opSub Ta Tb) := d_op op_sub (smOp_int0 (f := fun i j => .int (i - j)) (fun _ _ _ _ => rfl) fun x y R t => by
  cases x <;> cases y <;> first | exact (show False from t).elim | exact ⟨_, _, rfl, rfl, t⟩) ha hb
theorem d_mul (ha : DE X E a Ta) (hb : DE X E b Tb) : DE X E (.BinOp a .Mult b pos) (xOp opMul Ta Tb) := by
  refine d_op (op_mul.or (op_mulW.or (op_rep.or op_mulS))) ?_ ha hb
  intro c σ H S env x y v u R k r1 r2 t Q q
  cases x <;> cases y <;> try exact (show False from t).elim
  · obtain ⟨hc | hc, t⟩ := t
    · exact .inl ⟨_, _, r1, r2, hc, q _ H S (.int _) k (Same.refl S) rfl t⟩
    · exact .inr (.inl ⟨_, _, r1, r2, hc, q _ H S (.int _) k (Same.refl S) rfl t⟩)
  · obtain ⟨t1, t2, t3, t⟩ := t
    exact .inr (.inr (.inr ⟨_, _, r1, r2, mulOk_of t1 t2 t3, by rw [mulS_is]; exact q _ H S (.str _) k (Same.refl S) rfl t⟩))
  · obtain ⟨t1, t2, t3, t⟩ := t
    obtain ⟨a, vs, e1, h1, _, l1⟩ := lst_of k r1
    refine .inr (.inr (.inl ⟨a, _, vs, e1, r2, h1, t1, t2, by rw [l1.length]; exact t3, fun p hp => ?_⟩))
    obtain ⟨k', s', r'⟩ := put_lst k (l1.rep _) hp
    exact q _ _ _ _ k' s' r' t
theorem fdiv_pos {i j : Int} (h : 0 < j) : i.fdiv j = i / j := Int.fdiv_eq_ediv_of_nonneg i (by omega)
theorem d_fdiv (ha : DE X E a Ta) (hb : DE X E b Tb) : DE X E (.BinOp a .FloorDiv b pos) (xOp opFdiv Ta Tb) := by
  refine d_op (op_fdivN.or op_fdivW) ?_ ha hb
  intro c σ H S env x y v u R k r1 r2 t Q q
  cases x <;> cases y <;> try exact (show False from t).elim
  obtain ⟨hc | hc, t⟩ := t
  · exact .inl ⟨_, _, r1, r2, hc, q _ H S (.int _) k (Same.refl S) rfl t⟩
  · exact .inr ⟨_, _, r1, r2, hc, q _ H S (.int _) k (Same.refl S) (by rw [fdiv_pos hc.1]; rfl) t⟩
theorem d_mod (ha : DE X E a Ta) (hb : DE X E b Tb) : DE X E (.BinOp a .Mod b pos) (xOp opMod Ta Tb) := d_op op_modN (smOp_int (f := fun i j => .int (i.fmod j)) (fun _ _ _ _ => rfl) fun x y R t => by
  cases x <;> cases y <;> first | exact (show False from t).elim | exact ⟨_, _, rfl, rfl, t⟩) ha hb
theorem d_pow (ha : DE X E a Ta) (hb : DE X E b Tb) : DE X E (.BinOp a .Pow b pos) (xOp opPow Ta Tb) := d_op op_pow (smOp_int (f := fun i j => .int (i ^ j.toNat)) (fun _ _ _ _ => rfl) fun x y R t => by
  cases x <;> cases y <;> first | exact (show False from t).elim | exact ⟨_, _, rfl, rfl, t⟩) ha hb
def xUn (f : D → (D → Prop) → Prop) (Ta : DT) : DT := fun env R Rx => Ta env (fun x => f x R) Rx
def opNeg : D → (D → Prop) → Prop
  | .int i, R => R (.int (-i))
  | _, _ => False
theorem d_neg (ha : DE X E a Ta) : DE X E (.UnaryOp .USub a pos) (xUn opNeg Ta) := by
  obtain ⟨ta, p1, s1⟩ := ha
  refine ⟨_, pe_un un_neg p1, fun c σ H S env R Rx x k t Q q => s1 c σ H S env _ Rx x k t _ fun v H1 S1 d k1 s1 r1 t1 => ?_⟩
  cases d <;> try exact (show False from t1).elim
  exact ⟨_, r1, q _ H1 S1 (.int _) k1 s1 rfl t1⟩
end
end DL
namespace DL
open PySem PySem.Spec L2
variable [TbC]
mutual
def D.py : D → PyData
  | .bl b => .bool b
  | .int i => .int i
  | .str s => .str s
  | .lst xs => .list (pyL xs)
  | .tup xs => .tuple (pyL xs)
  | .non | .ty _ | .adr _ | .bag | .fn _ _ _ | .exc _ _ _ _ _ | .dct _ _ | .dcT _ _ | .obj _ _ _ => .none
def pyL : List D → List PyData
  | [] => []
  | x :: xs => x.py :: pyL xs
end
mutual
def D.dat : D → Bool
  | .non | .bl _ | .int _ | .str _ => true
  | .lst xs | .tup xs => datL xs
  | .ty _ | .adr _ | .bag | .fn _ _ _ | .exc _ _ _ _ _ | .dct _ _ | .dcT _ _ | .obj _ _ _ => false
def datL : List D → Bool
  | [] => true
  | x :: xs => x.dat && datL xs
end
mutual
def D.dep : D → Nat
  | .lst xs | .tup xs => 1 + depL xs
  | .non | .bl _ | .int _ | .str _ | .ty _ | .adr _ | .bag | .fn _ _ _ | .exc _ _ _ _ _ | .dct _ _ | .dcT _ _ | .obj _ _ _ => 1
def depL : List D → Nat
  | [] => 0
  | x :: xs => max x.dep (depL xs)
end
mutual
theorem py_plain : ∀ d : D, d.py.plain = true
  | .non | .bl _ | .int _ | .str _ | .ty _ | .adr _ | .bag | .fn _ _ _ | .exc _ _ _ _ _ | .dct _ _ | .dcT _ _ | .obj _ _ _ => rfl
  | .lst xs => py_plainL xs
  | .tup xs => py_plainL xs
theorem py_plainL : ∀ xs : List D, PyData.plainAll (pyL xs) = true
  | [] => rfl
  | x :: xs => by
    show (x.py.plain && PyData.plainAll (pyL xs)) = true
    rw [py_plain x, py_plainL xs]
    rfl
end
section
variable {B : Option Addr} {S H : Hp} {K : PySem.W.Frag}
mutual
theorem rep_dp (h : Same S H) : ∀ (d : D) (v : V), d.dat = true → Rep B S d v → Dp K H v d.py
  | .non, v, _, r => by rw [show v = .non from r]; exact .non
  | .bl b, v, _, r => by rw [show v = .bl b from r]; exact .bl b
  | .int i, v, _, r => by rw [show v = .int i from r]; exact .int i
  | .str s, v, _, r => by rw [show v = .str s from r]; exact .str s
  | .lst ds, v, t, r => by
    rw [Rep] at r
    obtain ⟨a, vs, e, q, l⟩ := r
    subst e
    exact .lst (SqL.of (h _ _ q)) (repL_dp h ds vs t l)
  | .tup ds, v, t, r => by
    rw [Rep] at r
    obtain ⟨a, vs, e, q, l⟩ := r
    subst e
    exact .tup (SqT.of (h _ _ q)) (repL_dp h ds vs t l)
  | .ty _, _, t, _ => nomatch (show false = true from t)
  | .adr _, _, t, _ => nomatch (show false = true from t)
  | .bag, _, t, _ => nomatch (show false = true from t)
  | .fn _ _ _, _, t, _ => nomatch (show false = true from t)
  | .exc _ _ _ _ _, _, t, _ => nomatch (show false = true from t)
  | .dct _ _, _, t, _ => nomatch (show false = true from t)
  | .dcT _ _, _, t, _ => nomatch (show false = true from t)
  | .obj _ _ _, _, t, _ => nomatch (show false = true from t)
theorem repL_dp (h : Same S H) : ∀ (ds : List D) (vs : List V), datL ds = true → RepL B S ds vs → DpAll K H vs (pyL ds)
  | [], vs, _, l => by rw [repL_nil_of l]; exact .nil
  | d :: ds, vs, t, l => by
    obtain ⟨v, ws, e, r, l2⟩ := repL_cons_of l
    subst e
    have t2 : (d.dat && datL ds) = true := t
    rw [Bool.and_eq_true] at t2
    exact .cons (rep_dp h d v t2.1 r) (repL_dp h ds ws t2.2 l2)
end
end
mutual
theorem py_depth : ∀ d : D, d.py.depth ≤ d.dep
  | .non | .bl _ | .int _ | .str _ | .ty _ | .adr _ | .bag | .fn _ _ _ | .exc _ _ _ _ _ | .dct _ _ | .dcT _ _ | .obj _ _ _ => by simp [D.py, D.dep, PyData.depth]
  | .lst xs => by
    have := py_depthL xs
    simp only [D.py, D.dep, PyData.depth]
    omega
  | .tup xs => by
    have := py_depthL xs
    simp only [D.py, D.dep, PyData.depth]
    omega
theorem py_depthL : ∀ xs : List D, PyData.depthAll (pyL xs) ≤ depL xs
  | [] => by simp [pyL, depL, PyData.depthAll]
  | x :: xs => by
    have h1 := py_depth x
    have h2 := py_depthL xs
    simp only [pyL, depL, PyData.depthAll]
    omega
end
section
variable {X : Cx} {E : XK} {pos : Pos} {a b c : Expr} {Ta Tb Tc : DT} {ta tb tc : TE}
def rEqP (K : PySem.W.Frag) : R2 := fun x y H Q => ∃ d e, Dp K H x d ∧ Dp K H y e ∧ d.plain = true ∧ e.plain = true ∧ d.depth ≤ 64 ∧ Q (.bl (PyData.eqv d e)) H
def rNeP (K : PySem.W.Frag) : R2 := fun x y H Q => ∃ d e, Dp K H x d ∧ Dp K H y e ∧ d.plain = true ∧ e.plain = true ∧ d.depth ≤ 64 ∧ Q (.bl (!PyData.eqv d e)) H
theorem op_eqP (hu : X.A.units + 64 < cLine) : OpR X (compareOp .Eq) (rEqP X.K) := by
  intro pins s σ H x y v u Q I rx ry h
  obtain ⟨d, e, hd, he, pd, pe, hz, q⟩ := h
  obtain ⟨as, r1⟩ := Dp.reads I d x v hd rx
  obtain ⟨bs, r2⟩ := Dp.reads I e y u he ry
  exact SeqAt.eq_plain r1 r2 pd pe (by have := Nat.min_le_left d.depth e.depth; omega) ⟨.bl _, H, I, rfl, q⟩
theorem op_neP (hu : X.A.units + 64 < cLine) : OpR X (compareOp .NotEq) (rNeP X.K) := by
  intro pins s σ H x y v u Q I rx ry h
  obtain ⟨d, e, hd, he, pd, pe, hz, q⟩ := h
  obtain ⟨as, r1⟩ := Dp.reads I d x v hd rx
  obtain ⟨bs, r2⟩ := Dp.reads I e y u he ry
  exact SeqAt.ne_plain r1 r2 pd pe (by have := Nat.min_le_left d.depth e.depth; omega) ⟨.bl _, H, I, rfl, q⟩
def opEq : DOp := fun x y R => x.dat = true ∧ y.dat = true ∧ x.dep ≤ 64 ∧ R (.bl (PyData.eqv x.py y.py))
def opNe : DOp := fun x y R => x.dat = true ∧ y.dat = true ∧ x.dep ≤ 64 ∧ R (.bl (!PyData.eqv x.py y.py))
def CmpOk (X : Cx) (op : CmpOp) (dop : DOp) : Prop := ∃ r, OpR X (compareOp op) r ∧ SmOp r dop
theorem c_eq (hu : X.A.units + 64 < cLine) : CmpOk X .Eq opEq := ⟨_, op_eqP hu, fun c σ H S env x y v u R k r1 r2 t Q q => by
  obtain ⟨t1, t2, t3, t⟩ := t
  exact ⟨x.py, y.py, rep_dp k.kf.sub x v t1 r1, rep_dp k.kf.sub y u t2 r2, py_plain x, py_plain y, Nat.le_trans (py_depth x) t3, q _ H S (.bl _) k (Same.refl S) rfl t⟩⟩
theorem c_ne (hu : X.A.units + 64 < cLine) : CmpOk X .NotEq opNe := ⟨_, op_neP hu, fun c σ H S env x y v u R k r1 r2 t Q q => by
  obtain ⟨t1, t2, t3, t⟩ := t
  exact ⟨x.py, y.py, rep_dp k.kf.sub x v t1 r1, rep_dp k.kf.sub y u t2 r2, py_plain x, py_plain y, Nat.le_trans (py_depth x) t3, q _ H S (.bl _) k (Same.refl S) rfl t⟩⟩
def opLt : DOp
  | .int i, .int j, R => R (.bl (decide (i < j)))
  | _, _, _ => False
def opLe : DOp
  | .int i, .int j, R => R (.bl (decide (i ≤ j)))
  | _, _, _ => False
def opGt : DOp
  | .int i, .int j, R => R (.bl (decide (j < i)))
  | _, _, _ => False
def opGe : DOp
  | .int i, .int j, R => R (.bl (decide (j ≤ i)))
  | _, _, _ => False
theorem c_le : CmpOk X .LtE opLe := ⟨_, op_le, smOp_int0 (f := fun i j => .bl (decide (i ≤ j))) (fun _ _ _ _ => rfl) fun x y R t => by
  cases x <;> cases y <;> first | exact (show False from t).elim | exact ⟨_, _, rfl, rfl, t⟩⟩
theorem c_gt : CmpOk X .Gt opGt := ⟨_, op_gt, smOp_int0 (f := fun i j => .bl (decide (j < i))) (fun _ _ _ _ => rfl) fun x y R t => by
  cases x <;> cases y <;> first | exact (show False from t).elim | exact ⟨_, _, rfl, rfl, t⟩⟩
theorem c_ge : CmpOk X .GtE opGe := ⟨_, op_ge, smOp_int0 (f := fun i j => .bl (decide (j ≤ i))) (fun _ _ _ _ => rfl) fun x y R t => by
  cases x <;> cases y <;> first | exact (show False from t).elim | exact ⟨_, _, rfl, rfl, t⟩⟩
/-- is None -/
def D.isN : D → Bool
  | .non => true
  | _ => false
theorem rep_isN {B : Option Addr} {S : Hp} {d : D} {v : V} (r : Rep B S d v) : decide (v = .non) = d.isN := by
  cases d with
  | non => rw [show v = .non from r]; rfl
  | bl _ => rw [show v = _ from r]; rfl
  | int _ => rw [show v = _ from r]; rfl
  | str _ => rw [show v = _ from r]; rfl
  | ty _ => rw [show v = _ from r]; rfl
  | adr _ => rw [show v = _ from r]; rfl
  | bag => obtain ⟨b, _, e⟩ := r; rw [e]; rfl
  | fn _ _ _ => rw [Rep] at r; obtain ⟨_, _, _, e, _⟩ := r; rw [e]; rfl
  | exc _ _ _ _ _ => rw [Rep] at r; obtain ⟨_, e, _⟩ := r; rw [e]; rfl
  | lst _ => rw [Rep] at r; obtain ⟨_, _, e, _⟩ := r; rw [e]; rfl
  | tup _ => rw [Rep] at r; obtain ⟨_, _, e, _⟩ := r; rw [e]; rfl
  | obj _ _ _ => rw [Rep] at r; obtain ⟨_, _, _, e, _⟩ := r; rw [e]; rfl
  | dct _ _ => rw [Rep] at r; obtain ⟨_, _, e, _⟩ := r; rw [e]; rfl
  | dcT _ _ => rw [Rep] at r; obtain ⟨_, _, e, _⟩ := r; rw [e]; rfl
def opIs : DOp := fun x y R => y.isN = true ∧ R (.bl x.isN)
def opIsNot : DOp := fun x y R => y.isN = true ∧ R (.bl (!x.isN))
theorem isN_eq {B : Option Addr} {S : Hp} {d : D} {v : V} (r : Rep B S d v) (h : d.isN = true) : v = .non := by
  rw [← rep_isN r] at h
  exact of_decide_eq_true h
theorem c_is : CmpOk X .Is opIs := ⟨_, op_isN, fun c σ H S env x y v u R k r1 r2 t Q q => ⟨isN_eq r2 t.1, by
  rw [rep_isN r1]
  exact q _ H S (.bl _) k (Same.refl S) rfl t.2⟩⟩
theorem c_isnot : CmpOk X .IsNot opIsNot := ⟨_, op_notN, fun c σ H S env x y v u R k r1 r2 t Q q => ⟨isN_eq r2 t.1, by
  rw [rep_isN r1]
  exact q _ H S (.bl _) k (Same.refl S) rfl t.2⟩⟩
/-- in: scalars in a list, a tuple -/
def D.sc : D → Bool
  | .non | .bl _ | .int _ | .str _ => true
  | _ => false
def D.v : D → V
  | .bl b => .bl b
  | .int i => .int i
  | .str s => .str s
  | _ => .non
theorem rep_v {B : Option Addr} {S : Hp} {d : D} {v : V} (r : Rep B S d v) (h : d.sc = true) : v = d.v ∧ flatV d.v = true := by
  cases d <;> first | exact ⟨r, rfl⟩ | exact nomatch (show false = true from h)
theorem repL_v {B : Option Addr} {S : Hp} : ∀ {ds : List D} {vs : List V}, RepL B S ds vs → ds.all D.sc = true → vs = ds.map D.v ∧ (ds.map D.v).all flatV = true
  | [], vs, r, _ => ⟨repL_nil_of r, rfl⟩
  | d :: ds, vs, r, h => by
    obtain ⟨v, ws, e, r1, l⟩ := repL_cons_of r
    subst e
    rw [List.all_cons, Bool.and_eq_true] at h
    obtain ⟨e1, f1⟩ := rep_v r1 h.1
    obtain ⟨e2, f2⟩ := repL_v l h.2
    subst e1
    subst e2
    exact ⟨rfl, by rw [List.map_cons, List.all_cons, f1, f2]; rfl⟩
/-- one sign in a text -/
def oneSign (s : Str) : Option Nat := match s.cps.toList with
  | [c] => some c
  | _ => none
theorem oneSign_eq {s : Str} {c : Nat} (h : oneSign s = some c) : s = ⟨#[c]⟩ := by
  obtain ⟨⟨l⟩⟩ := s
  unfold oneSign at h
  cases l with
  | nil => cases h
  | cons x r => cases r with
    | nil => cases h; rfl
    | cons y r => cases h
def opIn : DOp := fun x y R => match y with
  | .lst ys | .tup ys => x.sc = true ∧ ys.all D.sc = true ∧ R (.bl (inV x.v (ys.map D.v)))
  | .str z => ∃ s c, x = .str s ∧ oneSign s = some c ∧ R (.bl (decide (c ∈ z.cps.toList)))
  | _ => False
theorem c_in : CmpOk X .In opIn := by
  refine ⟨_, op_in_seq.or op_in_sign, fun c σ H S env x y v u R k r1 r2 t Q q => ?_⟩
  cases y <;> try exact (show False from t).elim
  · obtain ⟨s, c, rfl, e, t⟩ := t
    refine .inr ⟨c, _, ?_, r2, q _ H S (.bl _) k (Same.refl S) rfl t⟩
    rw [← oneSign_eq e]
    exact r1
  · obtain ⟨t1, t2, t⟩ := t
    obtain ⟨a, vs, e, h, _, l⟩ := lst_of k r2
    obtain ⟨e1, f1⟩ := rep_v r1 t1
    obtain ⟨e2, f2⟩ := repL_v l t2
    subst e1
    subst e2
    exact .inl ⟨a, _, e, .inl (SqL.of h), f1, f2, q _ H S (.bl _) k (Same.refl S) rfl t⟩
  · obtain ⟨t1, t2, t⟩ := t
    obtain ⟨a, vs, e, h, _, l⟩ := tup_of k r2
    obtain ⟨e1, f1⟩ := rep_v r1 t1
    obtain ⟨e2, f2⟩ := repL_v l t2
    subst e1
    subst e2
    exact .inl ⟨a, _, e, .inr (SqT.of h), f1, f2, q _ H S (.bl _) k (Same.refl S) rfl t⟩
theorem d_cmp {op : CmpOp} {dop : DOp} (h : CmpOk X op dop) (ha : DE X E a Ta) (hb : DE X E b Tb) (hm : behindInMarks op b = false) : DE X E (.Compare a [op] [b] pos) (xOp dop Ta Tb) := by
  obtain ⟨r, h1, h2⟩ := h
  obtain ⟨ta, p1, s1⟩ := ha
  obtain ⟨tb, p2, s2⟩ := hb
  exact ⟨_, pe_cmpR h1 p1 p2 hm, sm_op h2 s1 s2⟩
/-- a value's truth that is a bool -/
def asB (R : Bool → Prop) : D → Prop
  | .bl b => R b
  | _ => False
def xTest (T : DT) : DTT := fun env R Rx => T env (asB R) Rx
theorem smT_test {t : TE} {T : DT} (h : Sm E t T) : SmT E (tTest t) (xTest T) := fun c σ H S env R Rx x k t Q q =>
  h c σ H S env _ Rx x k t _ fun v H1 S1 d k1 s1 r1 t1 => by
    cases d <;> try exact (show False from t1).elim
    exact ⟨_, r1, q _ H1 S1 k1 s1 t1⟩
theorem dt_cmp {op : CmpOp} {dop : DOp} (h : CmpOk X op dop) (ha : DE X E a Ta) (hb : DE X E b Tb) (hm : behindInMarks op b = false) : DTe X E (.Compare a [op] [b] pos) (xTest (xOp dop Ta Tb)) := by
  obtain ⟨r, h1, h2⟩ := h
  obtain ⟨ta, p1, s1⟩ := ha
  obtain ⟨tb, p2, s2⟩ := hb
  exact ⟨_, pt_cmpR h1 p1 p2 hm, smT_test (sm_op h2 s1 s2)⟩
def xChain (o o' : DOp) (Ta Tb Tc : DT) : DT := fun env R Rx => Ta env (fun x => Tb env (fun y => o x y (asB fun k => (k = true → Tc env (fun z => o' y z R) Rx) ∧ (k = false → R (.bl false)))) Rx) Rx
theorem sm_chain {r r' : R2} {o o' : DOp} (h : SmOp r o) (h' : SmOp r' o') (ha : Sm E ta Ta) (hb : Sm E tb Tb) (hc : Sm E tc Tc) : Sm E (tChain r r' ta tb tc) (xChain o o' Ta Tb Tc) := fun c σ H S env R Rx x k t Q q =>
  ha c σ H S env _ Rx x k t _ fun v H1 S1 d1 k1 s1 r1 t1 => hb c σ H1 S1 env _ Rx x k1 t1 _ fun u H2 S2 d2 k2 s2 r2 t2 =>
    h c σ H2 S2 env d1 d2 v u _ k2 (rep_mono s2 d1 v r1) r2 t2 _ fun z H3 S3 d3 k3 s3 r3 t3 => by
      cases d3 <;> try exact (show False from t3).elim
      rename_i kk
      refine ⟨kk, r3, ?_⟩
      obtain ⟨q1, q2⟩ := t3
      cases kk with
      | true =>
        refine iteT ?_
        exact hc c σ H3 S3 env _ Rx x k3 (q1 rfl) _ fun w' H4 S4 d4 k4 s4 r4 t4 => h' c σ H4 S4 env d2 d4 u w' R k4 (rep_mono (s3.trans s4) d2 u r2) r4 t4 Q fun z H5 S5 d5 k5 s5 r5 t5 => q z H5 S5 d5 k5 ((((s1.trans s2).trans s3).trans s4).trans s5) r5 t5
      | false =>
        refine iteF ?_
        exact q _ H3 S3 (.bl false) k3 ((s1.trans s2).trans s3) rfl (q2 rfl)
theorem d_chain {op op' : CmpOp} {o o' : DOp} (h : CmpOk X op o) (h' : CmpOk X op' o') (ha : DE X E a Ta) (hb : DE X E b Tb) (hc : DE X E c Tc) (hm : lastMarks [op, op'] [b, c] = false := by with_unfolding_all rfl) :
    DE X E (.Compare a [op, op'] [b, c] pos) (xChain o o' Ta Tb Tc) := by
  obtain ⟨r, h1, h2⟩ := h
  obtain ⟨r', h1', h2'⟩ := h'
  obtain ⟨ta, p1, s1⟩ := ha
  obtain ⟨tb, p2, s2⟩ := hb
  obtain ⟨tc, p3, s3⟩ := hc
  exact ⟨_, pe_chain h1 h1' p1 p2 p3 hm, sm_chain h2 h2' s1 s2 s3⟩
variable {TA TB : DTT} {rest : List Expr}
def xAnd (T U : DTT) : DTT := fun env R Rx => T env (fun b => (b = true → U env R Rx) ∧ (b = false → R false)) Rx
def xOr (T U : DTT) : DTT := fun env R Rx => T env (fun b => (b = true → R true) ∧ (b = false → U env R Rx)) Rx
def xNot (T : DTT) : DTT := fun env R Rx => T env (fun b => R (!b)) Rx
theorem dw_pt {e : Expr} {T : DTT} (h : DWe X E e T) : DTe X E e T := by
  obtain ⟨t, p, s⟩ := h
  exact ⟨t, p.pt, s⟩
theorem dw_and1 (h : DTe X E a TA) : DWe X E (.BoolOp .And [a] pos) TA := by
  obtain ⟨t, p, s⟩ := h
  exact ⟨t, pw_and1 p, s⟩
theorem dw_or1 (h : DTe X E a TA) : DWe X E (.BoolOp .Or [a] pos) TA := by
  obtain ⟨t, p, s⟩ := h
  exact ⟨t, pw_or1 p, s⟩
theorem dw_and (h : DTe X E a TA) (h2 : DWe X E (.BoolOp .And (b :: rest) pos) TB) : DWe X E (.BoolOp .And (a :: b :: rest) pos) (xAnd TA TB) := by
  obtain ⟨t, p, s⟩ := h
  obtain ⟨u, p2, s2⟩ := h2
  refine ⟨_, pw_and p p2, fun c σ H S env R Rx x k t Q q => s c σ H S env _ Rx x k t _ fun bb H1 S1 k1 s1 t1 => ?_⟩
  cases bb with
  | true => exact iteT (s2 c σ H1 S1 env R Rx x k1 (t1.1 rfl) Q fun b H2 S2 k2 s3 r => q b H2 S2 k2 (s1.trans s3) r)
  | false => exact iteF (q false H1 S1 k1 s1 (t1.2 rfl))
theorem dw_or (h : DTe X E a TA) (h2 : DWe X E (.BoolOp .Or (b :: rest) pos) TB) : DWe X E (.BoolOp .Or (a :: b :: rest) pos) (xOr TA TB) := by
  obtain ⟨t, p, s⟩ := h
  obtain ⟨u, p2, s2⟩ := h2
  refine ⟨_, pw_or p p2, fun c σ H S env R Rx x k t Q q => s c σ H S env _ Rx x k t _ fun bb H1 S1 k1 s1 t1 => ?_⟩
  cases bb with
  | true => exact iteT (q true H1 S1 k1 s1 (t1.1 rfl))
  | false => exact iteF (s2 c σ H1 S1 env R Rx x k1 (t1.2 rfl) Q fun b H2 S2 k2 s3 r => q b H2 S2 k2 (s1.trans s3) r)
theorem dt_not (h : DTe X E a TA) : DTe X E (.UnaryOp .Not a pos) (xNot TA) := by
  obtain ⟨t, p, s⟩ := h
  exact ⟨_, pt_not p, fun c σ H S env R Rx x k t Q q => s c σ H S env _ Rx x k t _ fun bb H1 S1 k1 s1 t1 => q _ H1 S1 k1 s1 t1⟩
/-- as values -/
def xAndV (Ta Tb : DT) : DT := fun env R Rx => Ta env (asB fun b => (b = true → Tb env R Rx) ∧ (b = false → R (.bl false))) Rx
def xOrV (Ta Tb : DT) : DT := fun env R Rx => Ta env (asB fun b => (b = true → R (.bl true)) ∧ (b = false → Tb env R Rx)) Rx
def xNotV (Ta : DT) : DT := fun env R Rx => Ta env (asB fun b => R (.bl (!b))) Rx
theorem d_one {op : BoolOp} (h : DE X E a Ta) : DE X E (.BoolOp op [a] pos) Ta := by
  obtain ⟨t, p, s⟩ := h
  exact ⟨t, pe_one p, s⟩
theorem d_and (h : DE X E a Ta) (h2 : DE X E (.BoolOp .And (b :: rest) pos) Tb) : DE X E (.BoolOp .And (a :: b :: rest) pos) (xAndV Ta Tb) := by
  obtain ⟨t, p, s⟩ := h
  obtain ⟨u, p2, s2⟩ := h2
  refine ⟨_, pe_and p p2, fun c σ H S env R Rx x k t Q q => s c σ H S env _ Rx x k t _ fun v H1 S1 d k1 s1 r1 t1 => ?_⟩
  cases d <;> try exact (show False from t1).elim
  rename_i bb
  refine ⟨bb, r1, ?_⟩
  have t1 : (bb = true → Tb env R Rx) ∧ (bb = false → R (.bl false)) := t1
  cases bb with
  | true => exact iteT (s2 c σ H1 S1 env R Rx x k1 (t1.1 rfl) Q fun b H2 S2 d2 k2 s3 r => q b H2 S2 d2 k2 (s1.trans s3) r)
  | false => exact iteF (q _ H1 S1 (.bl false) k1 s1 rfl (t1.2 rfl))
theorem d_not (h : DE X E a Ta) : DE X E (.UnaryOp .Not a pos) (xNotV Ta) := by
  obtain ⟨t, p, s⟩ := h
  refine ⟨_, pe_not p, fun c σ H S env R Rx x k t Q q => s c σ H S env _ Rx x k t _ fun v H1 S1 d k1 s1 r1 t1 => ?_⟩
  cases d <;> try exact (show False from t1).elim
  exact ⟨_, r1, q _ H1 S1 (.bl _) k1 s1 rfl t1⟩
def xIf (T : DTT) (Ta Tb : DT) : DT := fun env R Rx => T env (fun b => (b = true → Ta env R Rx) ∧ (b = false → Tb env R Rx)) Rx
theorem d_if {T : DTT} (h : DTe X E c T) (ha : DE X E a Ta) (hb : DE X E b Tb) : DE X E (.IfExp c a b pos) (xIf T Ta Tb) := by
  obtain ⟨t, p, s⟩ := h
  obtain ⟨ta, p1, s1⟩ := ha
  obtain ⟨tb, p2, s2⟩ := hb
  refine ⟨_, pe_ifExp p p1 p2, fun c σ H S env R Rx x k t Q q => s c σ H S env _ Rx x k t _ fun bb H1 S1 k1 s3 t1 => ?_⟩
  cases bb with
  | true => exact iteT (s1 c σ H1 S1 env R Rx x k1 (t1.1 rfl) Q fun v H2 S2 d k2 s4 r => q v H2 S2 d k2 (s3.trans s4) r)
  | false => exact iteF (s2 c σ H1 S1 env R Rx x k1 (t1.2 rfl) Q fun v H2 S2 d k2 s4 r => q v H2 S2 d k2 (s3.trans s4) r)
/-- truth of a value of any kind -/
def D.tru : D → Option Bool
  | .non => some false
  | .bl b => some b
  | .int i => some (i != 0)
  | .str s => if s.length ≤ sizeLine then some ((s.length : Int) != 0) else none
  | .lst xs => some (!xs.isEmpty)
  | .tup xs => some (!xs.isEmpty)
  | _ => none
def xTru (Ta : DT) : DTT := fun env R Rx => Ta env (fun x => ∃ b, x.tru = some b ∧ R b) Rx
theorem dt_tru (h : DE X E a Ta) (he : ∀ whole, isTrue a X.env whole = (do let v ← whole; standAt a.pos; holding [v] (truthy v)) := by intro _; rfl) : DTe X E a (xTru Ta) := by
  obtain ⟨t, p, s⟩ := h
  refine ⟨_, pt_truth p he, fun c σ H S env R Rx x k t Q q => s c σ H S env _ Rx x k t _ fun v H1 S1 d k1 s1 r1 t1 => ?_⟩
  obtain ⟨bb, e, t1⟩ := t1
  refine ⟨bb, ?_, q bb H1 S1 k1 s1 t1⟩
  cases d with
  | non => rw [show v = .non from r1]; cases e; rfl
  | bl _ => rw [show v = _ from r1]; cases e; rfl
  | int _ => rw [show v = _ from r1]; cases e; rfl
  | str z =>
    rw [show v = _ from r1]
    have e : (if z.length ≤ sizeLine then some ((z.length : Int) != 0) else none) = some bb := e
    by_cases hz : z.length ≤ sizeLine
    · rw [if_pos hz] at e
      cases e
      exact ⟨hz, rfl⟩
    · rw [if_neg hz] at e
      cases e
  | lst xs =>
    obtain ⟨a, vs, e1, h1, _, l1⟩ := lst_of k1 r1
    subst e1
    cases e
    refine .inl ⟨vs, SqL.of h1, ?_⟩
    have := l1.length
    cases xs <;> cases vs <;> simp_all
  | tup xs =>
    obtain ⟨a, vs, e1, h1, _, l1⟩ := tup_of k1 r1
    subst e1
    cases e
    refine .inr (.inl ⟨vs, SqT.of h1, ?_⟩)
    have := l1.length
    cases xs <;> cases vs <;> simp_all
  | _ => cases e
variable {es : List Expr} {Tl : DTA}
def xNil : DTA := fun _ R _ => R []
def xCons (Ta : DT) (Tl : DTA) : DTA := fun env R Rx => Ta env (fun x => Tl env (fun xs => R (x :: xs)) Rx) Rx
theorem da_nil : DA X E [] xNil := ⟨_, pa_nil, fun c σ H S env R Rx x k t Q q => q [] H S [] k (Same.refl S) repL_nil t⟩
theorem smA_cons {t : L2.TA} (ha : Sm E ta Ta) (hl : SmA E t Tl) : SmA E (tCons ta t) (xCons Ta Tl) := fun c σ H S env R Rx x k t Q q =>
  ha c σ H S env _ Rx x k t _ fun v H1 S1 d k1 s1 r1 t1 => hl c σ H1 S1 env _ Rx x k1 t1 _ fun vs H2 S2 ds k2 s2 r2 t2 => q _ H2 S2 _ k2 (s1.trans s2) (repL_cons (rep_mono s2 d v r1) r2) t2
theorem da_cons (ha : DE X E a Ta) (hl : DA X E es Tl) (hs : starEach (a :: es) X.env = (false, eval a X.env) :: starEach es X.env := by rfl) : DA X E (a :: es) (xCons Ta Tl) := by
  obtain ⟨ta, p, s⟩ := ha
  obtain ⟨t, p2, s2⟩ := hl
  exact ⟨_, pa_cons p p2 hs, smA_cons s s2⟩
def xLst (Tl : DTA) : DT := fun env R Rx => Tl env (fun xs => xs.length ≤ sizeLine ∧ R (.lst xs)) Rx
def xTup (Tl : DTA) : DT := fun env R Rx => Tl env (fun xs => xs.length ≤ sizeLine ∧ R (.tup xs)) Rx
theorem sm_tup {t : L2.TA} (h : SmA E t Tl) : Sm E (tTup t) (xTup Tl) := fun c σ H S env R Rx x k t Q q =>
  h c σ H S env _ Rx x k t _ fun vs H1 S1 ds k1 s1 r1 t1 => ⟨by rw [r1.length]; exact t1.1, fun p hp => by
    obtain ⟨k', s', r'⟩ := put_tup k1 r1 hp
    exact q _ _ _ _ k' (s1.trans s') r' t1.2⟩
theorem d_tup {x1} (h : DA X E es Tl) : DE X E (.Tuple es x1 pos) (xTup Tl) := by
  obtain ⟨t, p, s⟩ := h
  exact ⟨_, pe_tup p, sm_tup s⟩
def opIx : DOp
  | .lst xs, .int i, R => ∃ d, atI xs i = some d ∧ R d
  | .tup xs, .int i, R => ∃ d, atI xs i = some d ∧ R d
  | .str s, .int i, R => s.length ≤ sizeLine ∧ ∃ c, atI s.cps.toList i = some c ∧ R (.str ⟨#[c]⟩)
  | _, _, _ => False
theorem atI_rep {B : Option Addr} {S : Hp} {xs : List D} {vs : List V} {i : Int} {d : D} (l : RepL B S xs vs) (h : atI xs i = some d) : ∃ v, atI vs i = some v ∧ Rep B S d v := by
  unfold atI at h ⊢
  rw [l.length]
  cases e : ixN xs.length i with
  | none => rw [e] at h; cases h
  | some j =>
    rw [e] at h
    exact l.get h
theorem smOp_ix {K : PySem.W.Frag} : SmOp (rIx K) opIx := by
  intro c σ H S env x y v u R k r1 r2 t Q q
  cases x <;> cases y <;> try exact (show False from t).elim
  · obtain ⟨hz, ch, e, t⟩ := t
    exact .inr (.inr ⟨_, _, ch, r1, r2, hz, e, q _ H S (.str _) k (Same.refl S) rfl t⟩)
  · obtain ⟨d, e, t⟩ := t
    obtain ⟨a, vs, e1, h1, _, l1⟩ := lst_of k r1
    obtain ⟨w', e2, r3⟩ := atI_rep l1 e
    exact .inl ⟨a, vs, _, w', e1, r2, SqL.of h1, e2, q _ H S d k (Same.refl S) r3 t⟩
  · obtain ⟨d, e, t⟩ := t
    obtain ⟨a, vs, e1, h1, _, l1⟩ := tup_of k r1
    obtain ⟨w', e2, r3⟩ := atI_rep l1 e
    exact .inr (.inl ⟨a, vs, _, w', e1, r2, SqT.of h1, e2, q _ H S d k (Same.refl S) r3 t⟩)
theorem d_ix (ha : DE X E a Ta) (hb : DE X E b Tb) (hs : PlainIx b := by exact fun _ _ => rfl) : DE X E (.Subscript a b pos) (xOp opIx Ta Tb) := by
  obtain ⟨ta, p1, s1⟩ := ha
  obtain ⟨tb, p2, s2⟩ := hb
  exact ⟨_, pe_ix ix_seq p1 p2 hs, sm_op smOp_ix s1 s2⟩
/-- xs[e], xs a list of the frame's own in slot i -/
def xIxO (i : Nat) (Tb : DT) : DT := fun env R Rx => ∃ xs, env[i]? = some (some (.own xs)) ∧ Tb env (fun y => match y with
  | .int j => ∃ d, atI xs j = some d ∧ R d
  | _ => False) Rx
theorem own_of {c : Fm} {σ : St} {H S : Hp} {env : En} {i : Nat} {xs : List D} (k : Kn c σ H S env) (e : env[i]? = some (some (.own xs))) : ∃ p vs, σ[i]? = some (some (.ref p)) ∧ S p = none ∧ c.H0 p = none ∧ H p = some (.lst vs) ∧ RepL c.B S xs vs := by
  obtain ⟨v, e1, p, vs, rfl, h⟩ := k.sl i _ e
  exact ⟨p, vs, e1, h⟩
abbrev DTO := En → (Option Int → Prop) → (Er → Prop) → Prop
def SmO (E : XK) (t : TO) (T : DTO) : Prop := ∀ (c : Fm) (σ : St) (H S : Hp) (env : En) (R : Option Int → Prop) (Rx : Er → Prop), XOk c E Rx → Kn c σ H S env → T env R Rx →
  ∀ Q : Option Int → Hp → Prop, (∀ o H' S', Kn c σ H' S' env → Same S S' → R o → Q o H') → t σ H Q
def DO (X : Cx) (E : XK) (e : Option Expr) (T : DTO) : Prop := ∃ t, PO X e t ∧ SmO E t T
def xNoPart : DTO := fun _ R _ => R none
def asI (R : Int → Prop) : D → Prop
  | .int i => R i
  | _ => False
def xPart (Ta : DT) : DTO := fun env R Rx => Ta env (asI fun i => R (some i)) Rx
theorem do_none : DO X E none xNoPart := ⟨_, po_none, fun c σ H S env R Rx x k t Q q => q none H S k (Same.refl S) t⟩
theorem do_some (h : DE X E a Ta) : DO X E (some a) (xPart Ta) := by
  obtain ⟨t, p, s⟩ := h
  refine ⟨_, po_some p, fun c σ H S env R Rx x k t Q q => s c σ H S env _ Rx x k t _ fun v H1 S1 d k1 s1 r1 t1 => ?_⟩
  cases d <;> try exact (show False from t1).elim
  exact ⟨_, r1, q _ H1 S1 k1 s1 t1⟩
def cutD (xs : List D) (lo hi : Option Int) : List D := (xs.drop (HT.sIx xs.length 0 lo)).take (HT.sIx xs.length xs.length hi - HT.sIx xs.length 0 lo)
theorem cut_rep {B : Option Addr} {S : Hp} {xs : List D} {vs : List V} {lo hi : Option Int} (l : RepL B S xs vs) : RepL B S (cutD xs lo hi) (cutV vs lo hi) := by
  unfold cutD cutV
  rw [l.length]
  exact (l.drop _).take _
def opSl (x : D) (lo hi : Option Int) (R : D → Prop) : Prop := match x with
  | .lst xs => R (.lst (cutD xs lo hi))
  | .tup xs => R (.tup (cutD xs lo hi))
  | .str z => z.length ≤ sizeLine ∧ R (.str (cutS z lo hi))
  | _ => False
def xSl (Ta : DT) (Tl Th : DTO) : DT := fun env R Rx => Ta env (fun x => Tl env (fun lo => Th env (fun hi => opSl x lo hi R) Rx) Rx) Rx
theorem cutD_all {xs : List D} {lo hi : Option Int} (h : HT.sIx xs.length 0 lo = 0 ∧ HT.sIx xs.length xs.length hi = xs.length) : cutD xs lo hi = xs := by
  unfold cutD
  rw [h.1, h.2]
  simp
theorem d_slice {lo hi : Option Expr} {Tl Th : DTO} {p2 : Pos} (ha : DE X E a Ta) (hl : DO X E lo Tl) (hh : DO X E hi Th) : DE X E (.Subscript a (.Slice lo hi none p2) pos) (xSl Ta Tl Th) := by
  obtain ⟨ta, pa, sa⟩ := ha
  obtain ⟨tl, pl, sl⟩ := hl
  obtain ⟨th, ph, sh⟩ := hh
  refine ⟨_, pe_slice (sl_list.or (sl_tupA.or sl_str)) pa pl ph, fun c σ H S env R Rx x k t Q q => sa c σ H S env _ Rx x k t _ fun v H1 S1 d k1 s1 r1 t1 => ?_⟩
  refine sl c σ H1 S1 env _ Rx x k1 t1 _ fun lo H2 S2 k2 s2 t2 => sh c σ H2 S2 env _ Rx x k2 t2 _ fun hi H3 S3 k3 s3 t3 => ?_
  have r3 := rep_mono (s2.trans s3) d v r1
  have ss := (s1.trans s2).trans s3
  cases d <;> try exact (show False from t3).elim
  · exact .inr (.inr ⟨_, r3, t3.1, q _ H3 S3 (.str _) k3 ss rfl t3.2⟩)
  · obtain ⟨a, vs, e1, h1, _, l1⟩ := lst_of k3 r3
    refine .inl ⟨a, vs, e1, SqL.of h1, fun p hp => ?_⟩
    obtain ⟨k', s', r'⟩ := put_lst k3 (cut_rep l1) hp
    exact q _ _ _ _ k' (ss.trans s') r' t3
  · obtain ⟨a, vs, e1, h1, hS, l1⟩ := tup_of k3 r3
    refine .inr (.inl ⟨a, vs, e1, SqT.of h1, fun hw => ?_, fun _ p hp => ?_⟩)
    · rw [l1.length] at hw
      have t4 : R (.tup (cutD _ lo hi)) := t3
      rw [cutD_all hw] at t4
      exact q _ H3 S3 (.tup _) k3 ss ⟨a, vs, rfl, hS, l1⟩ t4
    · obtain ⟨k', s', r'⟩ := put_tup k3 (cut_rep l1) hp
      exact q _ _ _ _ k' (ss.trans s') r' t3
end
end DL
namespace DL
open PySem PySem.Spec L2
variable [TbC]
section
variable {c : Fm} {σ : St} {H H' S S' : Hp} {env : En} {i : Nat} {d : D} {v : V} {p : Addr} {vs : List V} {ds xs : List D}
/-- p is nothing of the frame's own -/
def Free (σ : St) (env : En) (p : Addr) : Prop := ∀ (j : Nat) (x : DV) (v : V), env[j]? = some (some x) → σ[j]? = some (some v) → ¬ Foot x v p
theorem get_set {env : En} {i j : Nat} {o : Option DV} {x : DV} (e : (env.set i o)[j]? = some (some x)) : (i = j ∧ o = some x ∧ i < env.length) ∨ (i ≠ j ∧ env[j]? = some (some x)) := by
  by_cases z : i = j
  · subst z
    rw [List.getElem?_set] at e
    simp only [if_true] at e
    split at e
    · rename_i hi
      exact .inl ⟨rfl, Option.some.inj e, hi⟩
    · cases e
  · rw [List.getElem?_set_ne z] at e
    exact .inr ⟨z, e⟩
theorem Free.set (f : Free σ env p) {o : Option DV} (h : ∀ x v, o = some x → σ[i]? = some (some v) → ¬ Foot x v p) : Free σ (env.set i o) p := fun j x v e e2 => by
  rcases get_set e with ⟨rfl, q, _⟩ | ⟨_, e⟩
  · exact h x v q e2
  · exact f j x v e e2
theorem Free.clear (f : Free σ env p) : Free σ (env.set i none) p := f.set fun _ _ q => nomatch q
theorem Kn.put (k : Kn c σ H S env) {x : DV} (r : DvR c S H x v) (f : ∀ a, Foot x v a → Free σ (env.set i none) a) : Kn c (σ.set i (some v)) H S (env.set i (some x)) := by
  refine ⟨k.kf, by rw [List.length_set, List.length_set]; exact k.len, fun j y e => ?_, fun m n y z u w a hmn e1 e2 e3 e4 f1 f2 => ?_⟩
  · rcases get_set e with ⟨rfl, q, hi⟩ | ⟨z, e⟩
    · cases q
      have hi2 : i < σ.length := by rw [← k.len]; exact hi
      exact ⟨v, by rw [List.getElem?_set]; simp [hi2], r⟩
    · rw [List.getElem?_set_ne z]
      exact k.sl j y e
  · have at_i : ∀ {o : V}, (σ.set i (some v))[i]? = some (some o) → o = v := fun {o} q => by
      rw [List.getElem?_set] at q
      simp only [if_true] at q
      split at q <;> cases q
      rfl
    rcases get_set e1 with ⟨rfl, q, _⟩ | ⟨z1, e1⟩
    · cases q
      obtain rfl := at_i e3
      rw [List.getElem?_set_ne hmn] at e4
      exact f a f1 n z w (by rw [List.getElem?_set_ne hmn] at e2 ⊢; exact e2) e4 f2
    · rw [List.getElem?_set_ne z1] at e3
      rcases get_set e2 with ⟨rfl, q, _⟩ | ⟨z2, e2⟩
      · cases q
        obtain rfl := at_i e4
        exact f a f2 m y u (by rw [List.getElem?_set_ne z1]; exact e1) e3 f1
      · rw [List.getElem?_set_ne z2] at e4
        exact k.apart m n y z u w a hmn e1 e2 e3 e4 f1 f2
theorem Kn.set (k : Kn c σ H S env) (r : Rep c.B S d v) : Kn c (σ.set i (some v)) H S (env.set i (some (.val d))) := k.put (x := .val d) r fun _ f => f.elim
theorem Kn.free (k : Kn c σ H S env) (h : H p = none) : Free σ env p := fun j x v e e2 f => by
  obtain ⟨u, e1, r⟩ := k.sl j _ e
  rw [e1] at e2
  cases e2
  exact (r.foot p f).2.2.1 h
theorem Kn.setOwn (k : Kn c σ H S env) (h1 : S p = none) (h2 : c.H0 p = none) (h3 : H p = some (.lst vs)) (l : RepL c.B S ds vs) (f : Free σ env p) : Kn c (σ.set i (some (.ref p))) H S (env.set i (some (.own ds))) :=
  k.put (x := .own ds) ⟨p, vs, rfl, h1, h2, h3, l⟩ fun a e => by
    cases e
    exact f.clear
theorem set_id {α : Type} : ∀ {l : List α} {i : Nat} {x : α}, l[i]? = some x → l.set i x = l
  | [], _, _, e => by simp at e
  | a :: l, 0, x, e => by simp at e; subst e; rfl
  | a :: l, i + 1, x, e => by
    rw [List.set_cons_succ, set_id (by simpa using e)]
/-- what a name holds is forgotten -/
theorem Kn.clear (k : Kn c σ H S env) : Kn c σ H S (env.set i none) :=
  ⟨k.kf, by rw [List.length_set]; exact k.len, fun j x ej => by
    rcases get_set ej with ⟨_, q, _⟩ | ⟨_, ej⟩
    · cases q
    · exact k.sl j x ej, fun m n y z u w a hmn e1 e2 e3 e4 => by
    rcases get_set e1 with ⟨_, q, _⟩ | ⟨_, e1⟩
    · cases q
    rcases get_set e2 with ⟨_, q, _⟩ | ⟨_, e2⟩
    · cases q
    exact k.apart m n y z u w a hmn e1 e2 e3 e4⟩
/-- what a name holds for itself is nothing of the other names' -/
theorem Kn.mine (k : Kn c σ H S env) {x : DV} (e : env[i]? = some (some x)) (e1 : σ[i]? = some (some v)) {a : Addr} (f : Foot x v a) : Free σ (env.set i none) a := fun j y u ej e4 f2 => by
  rcases get_set ej with ⟨_, q, _⟩ | ⟨z, ej⟩
  · cases q
  · exact k.apart i j x y v u a z e ej e1 e4 f f2
theorem Kf.updFF {o0 o : HO} (k : Kf c H S) (h1 : S p = none) (h2 : c.H0 p = none) (h3 : H p = some o0) (h4 : (∀ ps, o0 ≠ .tbl ps) ∧ ¬ Fx o0) : Kf c (upd H p o) S := by
  have nb : c.B ≠ some p := fun z => (k.bag p z).2 h2
  refine ⟨fun a u ea => ?_, k.s0, fun a u ea nea => ?_, k.new, fun b eb => ?_, ⟨k.tab.1.updHF (fun v e => by rw [h3] at e; cases e; exact h4) fun _ _ e => e, k.tab.2⟩⟩
  · rw [upd_ne (ne_of_none ea h1)]
    exact k.sub a u ea
  · rw [upd_ne (ne_of_none ea h2)]
    exact k.old a u ea nea
  · obtain ⟨⟨b1, cs, i, g, st, n, b2, b3⟩, b4⟩ := k.bag b eb
    refine ⟨⟨b1, cs, i, g, st, n, ?_, b3⟩, b4⟩
    rw [upd_ne (fun z => nb (by rw [← z]; exact eb))]
    exact b2
/-- a thing that no name holds changes -/
theorem Kn.updFF {o0 o : HO} (k : Kn c σ H S env) (h1 : S p = none) (h2 : c.H0 p = none) (h3 : H p = some o0) (h4 : (∀ ps, o0 ≠ .tbl ps) ∧ ¬ Fx o0) (f : Free σ env p) : Kn c σ (upd H p o) S env := by
  refine ⟨k.kf.updFF h1 h2 h3 h4, k.len, fun j x ej => ?_, k.apart⟩
  obtain ⟨v, ev, r⟩ := k.sl j x ej
  refine ⟨v, ev, r.keep rfl (Same.refl S) fun a fa => ?_⟩
  obtain ⟨f1, f2, _⟩ := r.foot a fa
  refine ⟨f1, f2, fun u e => ?_⟩
  rw [upd_ne (fun z => f j x v ej ev (by rw [← z]; exact fa))]
  exact e
theorem Kf.updF {o0 o : HO} (k : Kf c H S) (h1 : S p = none) (h2 : c.H0 p = none) (h3 : H p = some o0) (h4 : (∀ ps, o0 ≠ .tbl ps) ∧ ∀ φ, o0 ≠ .ext φ) : Kf c (upd H p o) S := k.updFF h1 h2 h3 ⟨h4.1, fx_not h4.2⟩
theorem Kn.updF {o0 o : HO} (k : Kn c σ H S env) (h1 : S p = none) (h2 : c.H0 p = none) (h3 : H p = some o0) (h4 : (∀ ps, o0 ≠ .tbl ps) ∧ ∀ φ, o0 ≠ .ext φ) (f : Free σ env p) : Kn c σ (upd H p o) S env := k.updFF h1 h2 h3 ⟨h4.1, fx_not h4.2⟩ f
/-- a list of the frame's own changes -/
theorem Kn.change (k : Kn c σ H S env) (e : env[i]? = some (some (.own xs))) (e1 : σ[i]? = some (some (.ref p))) (l : RepL c.B S ds vs) : Kn c σ (upd H p (.lst vs)) S (env.set i (some (.own ds))) := by
  obtain ⟨v, e2, q, ws, rfl, h1, h2, h3, _⟩ := k.sl i _ e
  rw [e1] at e2
  cases e2
  have f : Free σ (env.set i none) p := k.mine e e1 rfl
  have k3 := ((k.clear (i := i)).updF (o := .lst vs) h1 h2 h3 lst_ne f).setOwn (i := i) h1 h2 upd_same l f
  rw [List.set_set, set_id e1] at k3
  exact k3
/-- .. stays as it is from now on -/
theorem Kn.freeze (k : Kn c σ H S env) (h1 : S p = none) (h2 : c.H0 p = none) (h3 : H p = some (.lst vs)) (l : RepL c.B S ds vs) (f : Free σ env p) :
    Kn c σ H (upd S p (.lst vs)) env ∧ Same S (upd S p (.lst vs)) ∧ Rep c.B (upd S p (.lst vs)) (.lst ds) (.ref p) := by
  have s : Same S (upd S p (.lst vs)) := same_upd h1
  refine ⟨⟨⟨fun a o e => ?_, k.kf.s0.trans s, k.kf.old, fun a e n => ?_, fun b eb => ?_, ⟨k.kf.tab.1.frz h3, k.kf.tab.2⟩⟩, k.len, fun j x e => ?_, k.apart⟩, s, p, vs, rfl, upd_same, repL_mono s ds vs l⟩
  · by_cases z : a = p
    · subst z
      rw [upd_same] at e
      rw [h3]
      exact e
    · rw [upd_ne z] at e
      exact k.kf.sub a o e
  · rw [upd_ne (fun z => n.1 (by rw [z]; exact h2))]
    exact k.kf.new a e n
  · obtain ⟨⟨b1, cs, i, g, st, n, b2, b3, b4⟩, b5⟩ := k.kf.bag b eb
    refine ⟨⟨?_, cs, i, g, st, n, b2, s _ _ b3, b4⟩, b5⟩
    rw [upd_ne (fun z => b5 (by rw [z]; exact h2))]
    exact b1
  · obtain ⟨v, ev, r⟩ := k.sl j x e
    refine ⟨v, ev, r.keep rfl s fun a fa => ?_⟩
    obtain ⟨f1, f2, _⟩ := r.foot a fa
    refine ⟨?_, f2, fun _ e => e⟩
    rw [upd_ne (fun z => f j x v e ev (by rw [← z]; exact fa))]
    exact f1
theorem Kn.frz (k : Kn c σ H S env) (e : env[i]? = some (some (.own xs))) : ∃ S', Kn c σ H S' (env.set i (some (.val (.lst xs)))) ∧ Same S S' := by
  obtain ⟨v, e2, p, vs, rfl, h1, h2, h3, l⟩ := k.sl i _ e
  have f : Free σ (env.set i none) p := k.mine e e2 rfl
  obtain ⟨k2, s2, r2⟩ := (k.clear (i := i)).freeze h1 h2 h3 l f
  have k3 := k2.set (i := i) r2
  rw [List.set_set, set_id e2] at k3
  exact ⟨_, k3, s2⟩
end
abbrev DTF := En → (List D → Prop) → (Er → Prop) → Prop
def SmF (E : XK) (t : TE) (T : DTF) : Prop := ∀ (c : Fm) (σ : St) (H S : Hp) (env : En) (R : List D → Prop) (Rx : Er → Prop), XOk c E Rx → Kn c σ H S env → T env R Rx →
  ∀ Q : VK, (∀ p vs H' S' ds, Kn c σ H' S' env → Same S S' → c.H0 p = none → Free σ env p → S' p = none → H' p = some (.lst vs) → RepL c.B S' ds vs → R ds → Q (.ref p) H') → t σ H Q
def DF (X : Cx) (E : XK) (e : Expr) (T : DTF) : Prop := ∃ t, PE X e t ∧ SmF E t T
def xF (T : DTF) : DT := fun env R Rx => T env (fun xs => R (.lst xs)) Rx
section
variable {X : Cx} {E : XK} {pos : Pos} {a b e : Expr} {Ta Tb : DT} {Tl : DTA} {T : DTF} {es : List Expr}
theorem d_ofF (h : DF X E a T) : DE X E a (xF T) := by
  obtain ⟨t, p, s⟩ := h
  refine ⟨t, p, fun c σ H S env R Rx x k t Q q => s c σ H S env _ Rx x k t Q fun p vs H1 S1 ds k1 s1 n0 f n2 e1 l1 r1 => ?_⟩
  obtain ⟨k2, s2, r2⟩ := k1.freeze n2 n0 e1 l1 f
  exact q _ H1 _ _ k2 (s1.trans s2) r2 r1
end
abbrev DFn := List D → (D → Prop) → Prop
def SmC (r : List V → Hp → VK → Prop) (F : DFn) : Prop := ∀ (c : Fm) (σ : St) (H S : Hp) (env : En) (xs : List D) (vs : List V) (R : D → Prop), Kn c σ H S env → RepL c.B S xs vs → F xs R →
  ∀ Q : VK, (∀ z H' S' d, Kn c σ H' S' env → Same S S' → Rep c.B S' d z → R d → Q z H') → r vs H Q
def CallOk (X : Cx) (f : Value) (F : DFn) : Prop := ∃ r, CallR X f r ∧ SmC r F
def xCB (F : DFn) (Tl : DTA) : DT := fun env R Rx => Tl env (fun xs => F xs R) Rx
section
variable {X : Cx} {E : XK} {p pos : Pos} {x : Str} {id ty : String} {a b e : Expr} {Ta Tb : DT} {Tl : DTA} {es : List Expr} {F : DFn}
theorem sm_cb {r : List V → Hp → VK → Prop} {t : L2.TA} (h : SmC r F) (hl : SmA E t Tl) : Sm E (tCB r t) (xCB F Tl) := fun c σ H S env R Rx x k t Q q =>
  hl c σ H S env _ Rx x k t _ fun vs H1 S1 ds k1 s1 r1 t1 => h c σ H1 S1 env ds vs R k1 r1 t1 Q fun z H2 S2 d k2 s2 r2 t2 => q z H2 S2 d k2 (s1.trans s2) r2 t2
theorem d_callB (h : CallOk X (.builtin id) F) (hm : X.mg x = none) (hv : bootBuiltins x = some (.builtin id)) (ha : DA X E (e :: es) Tl) (hg : Gl X x := by rfl) (hn : x ≠ "__name__" := by decide) (hdb : (x == ("__debug__" : Str)) = false := by decide)
    (he : starEach (e :: es) X.env = (false, eval e X.env) :: starEach es X.env := by rfl) (hpl : (backTo pos (starEach es X.env)).any (·.1) = false := by rfl) : DE X E (.Call (.Name x p) (e :: es) [] pos) (xCB F Tl) := by
  obtain ⟨r, h1, h2⟩ := h
  obtain ⟨t, pa, sa⟩ := ha
  exact ⟨_, pe_callB h1 hg hm hv pa hn hdb he hpl, sm_cb h2 sa⟩
theorem d_callT (h : CallOk X (.type ty) F) (hm : X.mg x = none) (hv : bootBuiltins x = some (.type ty)) (ha : DA X E (e :: es) Tl) (hg : Gl X x := by rfl) (hn : x ≠ "__name__" := by decide) (hdb : (x == ("__debug__" : Str)) = false := by decide)
    (he : starEach (e :: es) X.env = (false, eval e X.env) :: starEach es X.env := by rfl) (hpl : (backTo pos (starEach es X.env)).any (·.1) = false := by rfl) : DE X E (.Call (.Name x p) (e :: es) [] pos) (xCB F Tl) := by
  obtain ⟨r, h1, h2⟩ := h
  obtain ⟨t, pa, sa⟩ := ha
  exact ⟨_, pe_callTy h1 hg hm hv pa hn hdb he hpl, sm_cb h2 sa⟩
/-- a built-in type as a value -/
theorem d_bty (hm : X.mg x = none) (hv : bootBuiltins x = some (.type ty)) (hg : Gl X x := by rfl) (hn : x ≠ "__name__" := by decide) (hdb : (x == ("__debug__" : Str)) = false := by decide) : DE X E (.Name x pos) (xC (.ty ty)) :=
  ⟨_, pe_bltn (v := .ty ty) hg hm hv rfl hn hdb, sm_c fun _ _ => rfl⟩
theorem rep1 {B : Option Addr} {S : Hp} {d : D} {vs : List V} (r : RepL B S [d] vs) : ∃ v, vs = [v] ∧ Rep B S d v := by
  obtain ⟨v, ws, e, r1, t⟩ := repL_cons_of r
  rw [repL_nil_of t] at e
  exact ⟨v, e, r1⟩
theorem rep2 {B : Option Addr} {S : Hp} {d d' : D} {vs : List V} (r : RepL B S [d, d'] vs) : ∃ v v', vs = [v, v'] ∧ Rep B S d v ∧ Rep B S d' v' := by
  obtain ⟨v, ws, e, r1, t⟩ := repL_cons_of r
  obtain ⟨v', ws', e', r2, t2⟩ := repL_cons_of t
  rw [repL_nil_of t2] at e'
  rw [e'] at e
  exact ⟨v, v', e, r1, r2⟩
/-- len -/
def fLen : DFn
  | [.str s], R => s.length ≤ sizeLine ∧ R (.int s.length)
  | [.lst xs], R => R (.int xs.length)
  | [.tup xs], R => R (.int xs.length)
  | _, _ => False
theorem b_len : CallOk X (.builtin "len") fLen := by
  refine ⟨_, call_len, fun c σ H S env xs vs R k r t Q q => ?_⟩
  unfold fLen at t
  split at t <;> try exact t.elim
  · obtain ⟨v, rfl, r1⟩ := rep1 r
    exact ⟨v, _, rfl, by rw [show v = _ from r1]; exact ⟨t.1, rfl⟩, q _ H S (.int _) k (Same.refl S) rfl t.2⟩
  · obtain ⟨v, rfl, r1⟩ := rep1 r
    obtain ⟨a, vs, rfl, h1, _, l1⟩ := lst_of k r1
    exact ⟨_, _, rfl, .inl ⟨vs, SqL.of h1, rfl⟩, q _ H S (.int _) k (Same.refl S) (by rw [l1.length]; rfl) t⟩
  · obtain ⟨v, rfl, r1⟩ := rep1 r
    obtain ⟨a, vs, rfl, h1, _, l1⟩ := tup_of k r1
    exact ⟨_, _, rfl, .inr ⟨vs, SqT.of h1, rfl⟩, q _ H S (.int _) k (Same.refl S) (by rw [l1.length]; rfl) t⟩
/-- len(xs), xs of the frame's own -/
def xLenO (i : Nat) : DT := fun env R _ => ∃ xs, env[i]? = some (some (.own xs)) ∧ R (.int (xs.length : Nat))
/-- isinstance against built-in types -/
def D.isi : D → String → Option Bool
  | .non, n => some (n == "NoneType")
  | .bl _, n => some (n == "bool" || n == "int")
  | .int _, n => some (n == "int")
  | .str _, n => some (n == "str")
  | .lst _, n => some (n == "list")
  | .tup _, n => some (n == "tuple")
  | _, _ => none
def tys : List String := ["int", "bool", "str", "list", "tuple"]
def fIsi : DFn
  | [x, .ty n], R => n ∈ tys ∧ ∃ b, x.isi n = some b ∧ R (.bl b)
  | [x, .tup [.ty n, .ty m]], R => n ∈ tys ∧ m ∈ tys ∧ ∃ b b', x.isi n = some b ∧ x.isi m = some b' ∧ R (.bl (b || b'))
  | _, _ => False
theorem isi_ok {c : Fm} {σ : St} {H S : Hp} {env : En} {K : PySem.W.Frag} {d : D} {v : V} (k : Kn c σ H S env) (r : Rep c.B S d v) : (∀ n, d.isi n = none) ∨ ∃ t, TyX K H v t ∧ ∀ n ∈ tys, ∃ b, d.isi n = some b ∧ PySem.W.kitOne K t (.type n) = some b := by
  cases d with
  | non => exact .inr ⟨_, by rw [show v = _ from r]; exact .base .non, by intro n hn; simp only [tys, List.mem_cons, List.not_mem_nil, or_false] at hn; rcases hn with rfl | rfl | rfl | rfl | rfl <;> exact ⟨_, rfl, kit_ty (by decide +kernel)⟩⟩
  | bl b => exact .inr ⟨_, by rw [show v = _ from r]; exact .base (.bl b), by intro n hn; simp only [tys, List.mem_cons, List.not_mem_nil, or_false] at hn; rcases hn with rfl | rfl | rfl | rfl | rfl <;> exact ⟨_, rfl, kit_ty (by decide +kernel)⟩⟩
  | int i => exact .inr ⟨_, by rw [show v = _ from r]; exact .base (.int i), by intro n hn; simp only [tys, List.mem_cons, List.not_mem_nil, or_false] at hn; rcases hn with rfl | rfl | rfl | rfl | rfl <;> exact ⟨_, rfl, kit_ty (by decide +kernel)⟩⟩
  | str s => exact .inr ⟨_, by rw [show v = _ from r]; exact .base (.str s), by intro n hn; simp only [tys, List.mem_cons, List.not_mem_nil, or_false] at hn; rcases hn with rfl | rfl | rfl | rfl | rfl <;> exact ⟨_, rfl, kit_ty (by decide +kernel)⟩⟩
  | lst xs =>
    obtain ⟨a, vs, rfl, h1, _, l1⟩ := lst_of k r
    exact .inr ⟨_, .base (.lst h1), by intro n hn; simp only [tys, List.mem_cons, List.not_mem_nil, or_false] at hn; rcases hn with rfl | rfl | rfl | rfl | rfl <;> exact ⟨_, rfl, kit_ty (by decide +kernel)⟩⟩
  | tup xs =>
    obtain ⟨a, vs, rfl, h1, _, l1⟩ := tup_of k r
    exact .inr ⟨_, .base (.tup h1), by intro n hn; simp only [tys, List.mem_cons, List.not_mem_nil, or_false] at hn; rcases hn with rfl | rfl | rfl | rfl | rfl <;> exact ⟨_, rfl, kit_ty (by decide +kernel)⟩⟩
  | _ => exact .inl fun _ => rfl
theorem b_isi : CallOk X (.builtin "isinstance") fIsi := by
  refine ⟨_, call_isi.or call_isiT, fun c σ H S env xs vs R k r t Q q => ?_⟩
  unfold fIsi at t
  split at t <;> try exact t.elim
  · obtain ⟨hn, bb, eb, t⟩ := t
    obtain ⟨v, v', rfl, r1, r2⟩ := rep2 r
    rcases isi_ok (K := X.K) k r1 with z | ⟨ty, tx, kk⟩
    · rw [z] at eb; cases eb
    · obtain ⟨b2, e2, e3⟩ := kk _ hn
      rw [eb] at e2
      cases e2
      exact .inl ⟨v, v', ty, _, bb, rfl, by rw [show v' = _ from r2]; exact .ty _, tx, e3, q _ H S (.bl _) k (Same.refl S) rfl t⟩
  · obtain ⟨hn, hm, bb, bb', eb, eb', t⟩ := t
    obtain ⟨v, v', rfl, r1, r2⟩ := rep2 r
    obtain ⟨a, us, rfl, h1, _, l1⟩ := tup_of k r2
    obtain ⟨w1, w2, rfl, q1, q2⟩ := rep2 l1
    cases (show w1 = _ from q1)
    cases (show w2 = _ from q2)
    rcases isi_ok (K := X.K) k r1 with z | ⟨ty, tx, kk⟩
    · rw [z] at eb; cases eb
    · obtain ⟨b2, e2, e3⟩ := kk _ hn
      obtain ⟨b3, e4, e5⟩ := kk _ hm
      rw [eb] at e2
      cases e2
      rw [eb'] at e4
      cases e4
      refine .inr ⟨v, a, _, ty, _, _, rfl, h1, .cons (.ty _) (.cons (.ty _) .nil), tx, kitAny_cons e3 (fun z => ?_) (fun z => by rw [z]; rfl), q _ H S (.bl (bb || bb')) k (Same.refl S) rfl t⟩
      subst z
      rw [Bool.false_or]
      refine kitAny_cons e5 (fun z => ?_) (fun z => z)
      rw [z]
      exact kitAny_nil
/-- int -/
def fInt : DFn
  | [.int i], R => R (.int i)
  | [.bl b], R => R (.int (if b then 1 else 0))
  | _, _ => False
theorem b_int : CallOk X (.type "int") fInt := by
  refine ⟨_, call_int1, fun c σ H S env xs vs R k r t Q q => ?_⟩
  unfold fInt at t
  split at t <;> try exact t.elim
  · obtain ⟨v, rfl, r1⟩ := rep1 r
    exact .inl ⟨_, by rw [show v = _ from r1], q _ H S (.int _) k (Same.refl S) rfl t⟩
  · obtain ⟨v, rfl, r1⟩ := rep1 r
    exact .inr ⟨_, by rw [show v = _ from r1], q _ H S (.int _) k (Same.refl S) rfl t⟩
def fAbs : DFn
  | [.int i], R => R (.int (if i < 0 then -i else i))
  | _, _ => False
def fMin2 : DFn
  | [.int i, .int j], R => R (.int (if j < i then j else i))
  | _, _ => False
def fMax2 : DFn
  | [.int i, .int j], R => R (.int (if j > i then j else i))
  | _, _ => False
/-- the ints, the bools of a list -/
def asInts : List D → Option (List Int)
  | [] => some []
  | .int i :: r => (asInts r).map (i :: ·)
  | _ :: _ => none
def asBls : List D → Option (List Bool)
  | [] => some []
  | .bl i :: r => (asBls r).map (i :: ·)
  | _ :: _ => none
theorem asInts_eq : ∀ {ds : List D} {ns : List Int}, asInts ds = some ns → ds = ns.map D.int
  | [], _, e => by cases e; rfl
  | .int i :: r, ns, e => by
    have e : (asInts r).map (i :: ·) = some ns := e
    cases h : asInts r with
    | none => rw [h] at e; cases e
    | some ms =>
      rw [h] at e
      cases e
      rw [asInts_eq h]
      rfl
  | .non :: _, _, e | .bl _ :: _, _, e | .str _ :: _, _, e | .ty _ :: _, _, e | .adr _ :: _, _, e | .fn _ _ _ :: _, _, e | .exc _ _ _ _ _ :: _, _, e | .dct _ _ :: _, _, e | .dcT _ _ :: _, _, e | .bag :: _, _, e | .lst _ :: _, _, e | .tup _ :: _, _, e | .obj _ _ _ :: _, _, e => nomatch e
theorem asBls_eq : ∀ {ds : List D} {ns : List Bool}, asBls ds = some ns → ds = ns.map D.bl
  | [], _, e => by cases e; rfl
  | .bl i :: r, ns, e => by
    have e : (asBls r).map (i :: ·) = some ns := e
    cases h : asBls r with
    | none => rw [h] at e; cases e
    | some ms =>
      rw [h] at e
      cases e
      rw [asBls_eq h]
      rfl
  | .non :: _, _, e | .int _ :: _, _, e | .str _ :: _, _, e | .ty _ :: _, _, e | .adr _ :: _, _, e | .fn _ _ _ :: _, _, e | .exc _ _ _ _ _ :: _, _, e | .dct _ _ :: _, _, e | .dcT _ _ :: _, _, e | .bag :: _, _, e | .lst _ :: _, _, e | .tup _ :: _, _, e | .obj _ _ _ :: _, _, e => nomatch e
theorem asInts_map (ns : List Int) : asInts (ns.map D.int) = some ns := by
  induction ns with
  | nil => rfl
  | cons n ns ih => show (asInts (ns.map D.int)).map (n :: ·) = _; rw [ih]; rfl
theorem asBls_map (ns : List Bool) : asBls (ns.map D.bl) = some ns := by
  induction ns with
  | nil => rfl
  | cons n ns ih => show (asBls (ns.map D.bl)).map (n :: ·) = _; rw [ih]; rfl
theorem RepL.bls {B : Option Addr} {S : Hp} {ns : List Bool} : ∀ {vs : List V}, RepL B S (ns.map D.bl) vs → vs = ns.map V.bl := by
  induction ns with
  | nil => intro vs h; exact repL_nil_of h
  | cons n ns ih =>
    intro vs h
    obtain ⟨u, ws, rfl, r1, t⟩ := repL_cons_of h
    rw [ih t, show u = V.bl n from r1]
    rfl
def fSum : DFn
  | [.lst xs], R => ∃ ns, asInts xs = some ns ∧ R (.int ns.sum)
  | _, _ => False
def fAny : DFn
  | [.lst xs], R => ∃ ns, asBls xs = some ns ∧ R (.bl (ns.any _root_.id))
  | _, _ => False
def fAll : DFn
  | [.lst xs], R => ∃ ns, asBls xs = some ns ∧ R (.bl (ns.all _root_.id))
  | _, _ => False
theorem b_all (hc : X.calm = true) : CallOk X (.builtin "all") fAll := by
  refine ⟨_, cr_all hc, fun c σ H S env xs vs R k r t Q q => ?_⟩
  unfold fAll at t
  split at t <;> try exact t.elim
  obtain ⟨ns, e, t⟩ := t
  obtain ⟨v, rfl, r1⟩ := rep1 r
  obtain ⟨a, vs, rfl, h1, _, l1⟩ := lst_of k r1
  rw [asBls_eq e] at l1
  rw [l1.bls] at h1
  exact ⟨a, ns, rfl, SqL.of h1, q _ H S (.bl _) k (Same.refl S) rfl t⟩
/-- tuple(xs), list(xs) -/
def fTuple : DFn
  | [.lst xs], R => R (.tup xs)
  | [.tup xs], R => R (.tup xs)
  | _, _ => False
theorem b_tuple : CallOk X (.type "tuple") fTuple := by
  refine ⟨_, call_tuple_of, fun c σ H S env xs vs R k r t Q q => ?_⟩
  unfold fTuple at t
  split at t <;> try exact t.elim
  · obtain ⟨v, rfl, r1⟩ := rep1 r
    obtain ⟨a, vs, rfl, h1, _, l1⟩ := lst_of k r1
    refine ⟨a, vs, rfl, .inl ⟨SqL.of h1, fun l hl => ?_⟩⟩
    obtain ⟨k', s', r'⟩ := put_tup k l1 hl
    exact q _ _ _ _ k' s' r' t
  · obtain ⟨v, rfl, r1⟩ := rep1 r
    obtain ⟨a, vs, rfl, h1, hS, l1⟩ := tup_of k r1
    exact ⟨a, vs, rfl, .inr ⟨SqT.of h1, q _ H S (.tup _) k (Same.refl S) ⟨a, vs, rfl, hS, l1⟩ t⟩⟩
/-- a new list of what nobody else holds: a display, list(xs), a slice, xs + ys, xs * k -/
def xNew (Tl : DTA) : DTF := fun env R Rx => Tl env (fun xs => xs.length ≤ sizeLine ∧ R xs) Rx
theorem putO {c : Fm} {σ : St} {H S : Hp} {env : En} {ds : List D} {vs : List V} {p : Addr} (k : Kn c σ H S env) (l : RepL c.B S ds vs) (h : H p = none) :
    Kn c σ (upd H p (.lst vs)) S env ∧ S p = none ∧ c.H0 p = none ∧ Free σ env p := ⟨k.new0 h, k.kf.s_none h, k.kf.h0_none h, k.free h⟩
end
end DL
namespace DL
open PySem PySem.Spec L2
variable [TbC]
section
variable {X : Cx} {E : XK} {p pos : Pos} {a b e : Expr} {Ta Tb : DT} {Tl : DTA} {es : List Expr}
theorem f_lst (h : DA X E es Tl) : DF X E (.List es pos) (xNew Tl) := by
  obtain ⟨t, p, s⟩ := h
  refine ⟨_, pe_lst p, fun c σ H S env R Rx x k t Q q => s c σ H S env _ Rx x k t _ fun vs H1 S1 ds k1 s1 r1 t1 => ⟨by rw [r1.length]; exact t1.1, fun p hp => ?_⟩⟩
  obtain ⟨k2, n2, n0, f⟩ := putO k1 r1 hp
  exact q p vs _ S1 ds k2 s1 n0 f n2 upd_same r1 t1.2
/-- xs + ys -/
def asL (R : List D → Prop) : D → Prop
  | .lst xs => R xs
  | _ => False
def xCatF (Ta Tb : DT) : DTF := fun env R Rx => Ta env (asL fun xs => Tb env (asL fun ys => xs.length + ys.length ≤ sizeLine ∧ R (xs ++ ys)) Rx) Rx
/-- xs * k -/
def xRepF (Ta Tb : DT) : DTF := fun env R Rx => Ta env (asL fun xs => Tb env (asI fun k => -(2 ^ 63) ≤ k ∧ k < 2 ^ 63 ∧ xs.length * k.toNat ≤ sizeLine ∧ R (List.replicate k.toNat xs).flatten) Rx) Rx
/-- list(xs) -/
def asLT (R : List D → Prop) : D → Prop
  | .lst xs => R xs
  | .tup xs => R xs
  | _ => False
def xListF (Ta : DT) : DTF := fun env R Rx => Ta env (asLT R) Rx
theorem f_list (ha : DE X E a Ta) (hm : X.mg "list" = none) (hg : Gl X "list" := by rfl) (he : starEach [a] X.env = (false, eval a X.env) :: starEach [] X.env := by rfl) (hpl : (backTo pos (starEach [] X.env)).any (·.1) = false := by rfl) :
    DF X E (.Call (.Name "list" p) [a] [] pos) (xListF Ta) := by
  obtain ⟨ta, p1, s1⟩ := ha
  refine ⟨_, pe_callTy call_list_of hg hm PyProof.Rows.boot_list (pa_cons p1 pa_nil he) (by decide) (by decide) he hpl, fun c σ H S env R Rx x k t Q q => s1 c σ H S env _ Rx x k t _ fun v H1 S1 d k1 s3 r1 t1 => ?_⟩
  cases d <;> try exact (show False from t1).elim
  · obtain ⟨a, vs, rfl, h1, _, l1⟩ := lst_of k1 r1
    refine ⟨a, vs, rfl, .inl (SqL.of h1), fun p hp => ?_⟩
    obtain ⟨k3, n2, n0, f⟩ := putO k1 l1 hp
    exact q p _ _ S1 _ k3 s3 n0 f n2 upd_same l1 t1
  · obtain ⟨a, vs, rfl, h1, _, l1⟩ := tup_of k1 r1
    refine ⟨a, vs, rfl, .inr (SqT.of h1), fun p hp => ?_⟩
    obtain ⟨k3, n2, n0, f⟩ := putO k1 l1 hp
    exact q p _ _ S1 _ k3 s3 n0 f n2 upd_same l1 t1
/-- xs[lo:hi], xs a list -/
def xSlF (Ta : DT) (Tl Th : DTO) : DTF := fun env R Rx => Ta env (asL fun xs => Tl env (fun lo => Th env (fun hi => R (cutD xs lo hi)) Rx) Rx) Rx
end
abbrev DG := D → En → (En → Prop) → Prop
/-- only the slots js change -/
def Wip (js : List Nat) (σ σ' : St) : Prop := ∀ ws : List Nat, (∀ j ∈ js, j ∈ ws) → wipe σ' ws = wipe σ ws
theorem wipe_set {σ : St} {i : Nat} {o : Option V} : ∀ {ws : List Nat}, i ∈ ws → wipe (σ.set i o) ws = wipe σ ws
  | [], h => nomatch h
  | w :: ws, h => by
    show (wipe (σ.set i o) ws).set w none = (wipe σ ws).set w none
    by_cases z : i ∈ ws
    · rw [wipe_set z]
    · have e : i = w := by
        rcases List.mem_cons.mp h with e | e
        · exact e
        · exact absurd e z
      subst e
      have go : ∀ us : List Nat, (wipe (σ.set i o) us).set i none = (wipe σ us).set i none := fun us => by
        induction us with
        | nil => show (σ.set i o).set i none = σ.set i none; rw [List.set_set]
        | cons u us ih =>
          show ((wipe (σ.set i o) us).set u none).set i none = ((wipe σ us).set u none).set i none
          by_cases hu : u = i
          · subst hu; rw [List.set_set, List.set_set]; exact ih
          · rw [List.set_comm _ _ hu, ih, List.set_comm _ _ (Ne.symm hu)]
      exact go ws
def SmG (g : TG) (G : DG) (js : List Nat) : Prop := ∀ (c : Fm) (σ : St) (H S : Hp) (env : En) (d : D) (v : V) (N : En → Prop), Kn c σ H S env → Rep c.B S d v → G d env N →
  ∀ P : St → Hp → Prop, (∀ σ' H' S' env', Kn c σ' H' S' env' → Same S S' → Wip js σ σ' → N env' → P σ' H') → g v σ H P
def DGt (X : Cx) (e : Expr) (G : DG) (js : List Nat) : Prop := ∃ g, PG X e g ∧ SmG g G js
abbrev DGs := List D → En → (En → Prop) → Prop
def SmGs (g : TGs) (G : DGs) (js : List Nat) : Prop := ∀ (c : Fm) (σ : St) (H S : Hp) (env : En) (ds : List D) (vs : List V) (N : En → Prop), Kn c σ H S env → RepL c.B S ds vs → G ds env N →
  ∀ P : St → Hp → Prop, (∀ σ' H' S' env', Kn c σ' H' S' env' → Same S S' → Wip js σ σ' → N env' → P σ' H') → g vs σ H P
def DGts (X : Cx) (es : List Expr) (G : DGs) (js : List Nat) : Prop := ∃ g, PGs X es g ∧ SmGs g G js
def put (i : Nat) (d : D) (env : En) : En := env.set i (some (.val d))
def putO' (i : Nat) (ds : List D) (env : En) : En := env.set i (some (.own ds))
def yName (i : Nat) : DG := fun d env N => N (put i d env)
def yNil : DGs := fun ds env N => ds = [] ∧ N env
def yCons (G : DG) (Gs : DGs) : DGs := fun ds env N => match ds with
  | [] => False
  | d :: r => G d env fun env' => Gs r env' N
def yTup (n : Nat) (Gs : DGs) : DG := fun d env N => match d with
  | .tup ds => ds.length = n ∧ Gs ds env N
  | _ => False
section
variable {X : Cx} {pos : Pos} {e : Expr} {es : List Expr} {G : DG} {Gs : DGs}
theorem smG_name (i : Nat) : SmG (gName i) (yName i) [i] := fun c σ H S env d v N k r t P q => q _ H S _ (k.set r) (Same.refl S) (fun ws h => wipe_set (h i (List.mem_singleton.mpr rfl))) t
theorem g_name {i : Nat} {x : Str} (hN : X.N.Nodup) (hi : X.N[i]? = some x := by rfl) (hx : Loc X.env.scope x := by first | exact Or.inl rfl | exact Or.inr rfl) (hf : X.fn x = true ∨ X.env.scope.names.lookup x = some .local := by first | exact .inl rfl | exact .inr rfl) : DGt X (.Name x pos) (yName i) [i] :=
  ⟨_, pg_name hN hi hx hf, smG_name i⟩
theorem gs_nil : DGts X [] yNil [] := ⟨_, pgs_nil, fun c σ H S env ds vs N k r t P q => by
  obtain ⟨e, t⟩ := t
  subst e
  exact ⟨repL_nil_of r, q σ H S env k (Same.refl S) (fun ws _ => rfl) t⟩⟩
theorem gs_cons {js js' : List Nat} (h1 : DGt X e G js) (h2 : DGts X es Gs js') (hs : (assignEach (e :: es) X.env).map (·.2) = assign e X.env :: (assignEach es X.env).map (·.2) := by rfl) : DGts X (e :: es) (yCons G Gs) (js ++ js') := by
  obtain ⟨g, p1, s1⟩ := h1
  obtain ⟨gs, p2, s2⟩ := h2
  refine ⟨_, pgs_cons p1 p2 hs, fun c σ H S env ds vs N k r t P q => ?_⟩
  cases ds with
  | nil => exact (show False from t).elim
  | cons d ds =>
    obtain ⟨v, ws, rfl, r1, l⟩ := repL_cons_of r
    exact ⟨v, ws, rfl, s1 c σ H S env d v _ k r1 t _ fun σ1 H1 S1 env1 k1 s w1 t1 => s2 c σ1 H1 S1 env1 ds ws N k1 (repL_mono s ds ws l) t1 P fun σ2 H2 S2 env2 k2 s3 w2 t2 => q σ2 H2 S2 env2 k2 (s.trans s3)
      (fun us h => (w2 us fun j hj => h j (List.mem_append_right _ hj)).trans (w1 us fun j hj => h j (List.mem_append_left _ hj))) t2⟩
theorem g_tup {n k : Nat} {js : List Nat} (hc : X.calm = true) (h : DGts X es Gs js) (hn : (assignEach es X.env).length = n := by rfl) (hst : (assignEach es X.env).findIdx? (·.1) = none := by rfl) : DGt X (.Tuple es k pos) (yTup n Gs) js := by
  obtain ⟨gs, p1, s1⟩ := h
  refine ⟨_, pg_tup hc p1 hn hst, fun c σ H S env d v N k r t P q => ?_⟩
  cases d <;> try exact (show False from t).elim
  obtain ⟨a, vs, e1, h1, _, l1⟩ := tup_of k r
  obtain ⟨hl, t⟩ := t
  exact ⟨a, vs, e1, SqT.of h1, by rw [l1.length]; exact hl, s1 c σ H S env _ vs N k l1 t P q⟩
end
section
variable {X : Cx} {E : XK} {pos p1 : Pos} {a b e tg : Expr} {Ta Tb : DT} {T U : DTS} {TF : DTF} {st : Stmt} {rest sts us : List Stmt} {G : DG}
def zNext : DTS := fun Q env => Q.nx env
def zSeq (T U : DTS) : DTS := fun Q env => T { Q with nx := U Q } env
theorem mk_nx {c : Fm} {S S' : Hp} {Q : DEnds} {D : Ends} {N : St → Hp → Prop} {M : En → Prop} (m : mk c S Q D) (s : Same S S') (h : ∀ σ H S2 env, Kn c σ H S2 env → Same S' S2 → M env → N σ H) : mk c S' { Q with nx := M } { D with nx := N } :=
  ⟨h, (m.mono s).2.1, (m.mono s).2.2.1, (m.mono s).2.2.2⟩
theorem ds_nil : DSs X E [] zNext := ⟨_, pss_nil, fun c σ H S env Q x k t D m => m.1 σ H S env k (Same.refl S) t⟩
theorem ds_cons (h1 : DS X E st T) (h2 : DSs X E rest U) : DSs X E (st :: rest) (zSeq T U) := by
  obtain ⟨t, p1, s1⟩ := h1
  obtain ⟨u, p2, s2⟩ := h2
  refine ⟨_, pss_cons p1 p2, fun c σ H S env Q x k t D m => ?_⟩
  exact s1 c σ H S env { Q with nx := U Q } x k t _ (mk_nx m (Same.refl S) fun σ1 H1 S1 env1 k1 s t1 => s2 c σ1 H1 S1 env1 Q x k1 t1 D (m.mono s))
theorem ds_one (h1 : DS X E st T) : DSs X E [st] T := by
  obtain ⟨t, p1, s1⟩ := h1
  exact ⟨_, pss_one p1, s1⟩
def zBreak : DTS := fun Q env => Q.bk env
def zCont : DTS := fun Q env => Q.ct env
def zRet (Ta : DT) : DTS := fun Q env => Ta env (Q.rt .old) Q.ex
theorem s_ret (h : DE X E a Ta) : DS X E (.Return (some a) pos) (zRet Ta) := by
  obtain ⟨t, p, s⟩ := h
  exact ⟨_, ps_ret p, fun c σ H S env Q x k t D m => s c σ H S env _ _ x k t _ fun v H1 S1 d k1 s1 r1 t1 => m.2.1 .old v H1 S1 d k1.kf s1 r1 t1⟩
def zExpr (Ta : DT) : DTS := fun Q env => Ta env (fun _ => Q.nx env) Q.ex
theorem s_expr (h : DE X E a Ta) (hs : swapsWith a none pos.line X.env = pure false := by rfl) : DS X E (.Expr a pos) (zExpr Ta) := by
  obtain ⟨t, p, s⟩ := h
  exact ⟨_, ps_expr p hs, fun c σ H S env Q x k t D m => s c σ H S env _ _ x k t _ fun v H1 S1 d k1 s1 r1 t1 => m.1 σ H1 S1 env k1 s1 t1⟩
def zIf (T : DTT) (U W : DTS) : DTS := fun Q env => T env (fun b => (b = true → U Q env) ∧ (b = false → W Q env)) Q.ex
theorem s_if {cnd : Expr} {Tc : DTT} {x1 x2 : List Stmt} (hc : DTe X E cnd Tc) (h1 : DSs X E x1 T) (h2 : DSs X E x2 U) : DS X E (.If cnd x1 x2 pos) (zIf Tc T U) := by
  obtain ⟨tc, p, s⟩ := hc
  obtain ⟨t, p1, s1⟩ := h1
  obtain ⟨u, p2, s2⟩ := h2
  refine ⟨_, ps_if p p1 p2, fun c σ H S env Q x k t D m => s c σ H S env _ _ x k t _ fun bb H1 S1 k1 s3 t1 => ?_⟩
  cases bb with
  | true => exact iteT (s1 c σ H1 S1 env Q x k1 (t1.1 rfl) D (m.mono s3))
  | false => exact iteF (s2 c σ H1 S1 env Q x k1 (t1.2 rfl) D (m.mono s3))
def zAsg (Ta : DT) (G : DG) : DTS := fun Q env => Ta env (fun d => G d env Q.nx) Q.ex
theorem smS_asg {t : TE} {g : TG} {js : List Nat} (h : Sm E t Ta) (hg : SmG g G js) : SmS E (tAsg t g) (zAsg Ta G) := fun c σ H S env Q x k t D m =>
  h c σ H S env _ _ x k t _ fun v H1 S1 d k1 s1 r1 t1 => hg c σ H1 S1 env d v _ k1 r1 t1 _ fun σ2 H2 S2 env2 k2 s2 _ t2 => m.1 σ2 H2 S2 env2 k2 (s1.trans s2) t2
theorem s_set {i : Nat} {x : Str} (hN : X.N.Nodup) (h : DE X E e Ta) (hi : X.N[i]? = some x := by rfl) (hx : Loc X.env.scope x := by first | exact Or.inl rfl | exact Or.inr rfl) (hs : swapsWith e (some (.Name x p1)) pos.line X.env = pure false := by rfl)
    (hf : X.fn x = true ∨ X.env.scope.names.lookup x = some .local := by first | exact .inl rfl | exact .inr rfl) : DS X E (.Assign [.Name x p1] e pos) (zAsg Ta (yName i)) := by
  obtain ⟨t, p, s⟩ := h
  exact ⟨_, ps_set hN hi hx p hs hf, smS_asg s (smG_name i)⟩
theorem s_asg {js : List Nat} (h : DE X E e Ta) (hg : DGt X tg G js) (hs : swapsWithSole [tg] e pos.line X.env = pure false := by rfl) (hw : swappedStores [tg] e X.env = pure none := by rfl) (h1 : (assignEach [tg] X.env).map (·.2) = [assign tg X.env] := by rfl) :
    DS X E (.Assign [tg] e pos) (zAsg Ta G) := by
  obtain ⟨t, p, s⟩ := h
  obtain ⟨g, p2, s2⟩ := hg
  exact ⟨_, ps_asg p p2 hs hw h1, smS_asg s s2⟩
/-- name = a new list, from now on of the frame's own -/
def zSetO (i : Nat) (T : DTF) : DTS := fun Q env => T env (fun ds => Q.nx (putO' i ds env)) Q.ex
theorem smS_setO {t : TE} {i : Nat} (h : SmF E t TF) : SmS E (tAsg t (gName i)) (zSetO i TF) := fun c σ H S env Q x k t D m =>
  h c σ H S env _ _ x k t _ fun p vs H1 S1 ds k1 s1 n0 f n2 e1 l1 t1 => m.1 _ H1 S1 _ (k1.setOwn n2 n0 e1 l1 f) s1 t1
theorem s_setO {i : Nat} {x : Str} (hN : X.N.Nodup) (h : DF X E e TF) (hi : X.N[i]? = some x := by rfl) (hx : Loc X.env.scope x := by first | exact Or.inl rfl | exact Or.inr rfl) (hs : swapsWith e (some (.Name x p1)) pos.line X.env = pure false := by rfl)
    (hf : X.fn x = true ∨ X.env.scope.names.lookup x = some .local := by first | exact .inl rfl | exact .inr rfl) : DS X E (.Assign [.Name x p1] e pos) (zSetO i TF) := by
  obtain ⟨t, p, s⟩ := h
  exact ⟨_, ps_set hN hi hx p hs hf, smS_setO s⟩
/-- a, b = x, y -/
def zPar (i j : Nat) (Tl : DTA) : DTS := fun Q env => Tl env (fun ds => match ds with
  | [d, d'] => Q.nx (put j d' (put i d env))
  | _ => False) Q.ex
theorem s_par {i j : Nat} {x y : Str} {px py pt : Pos} {kt k2 pt2} {Tl : DTA} (hc : X.calm = true) (hN : X.N.Nodup) (ha : DA X E [a, b] Tl) (hi : X.N[i]? = some x := by rfl) (hj : X.N[j]? = some y := by rfl) (hij : i ≠ j := by decide)
    (hx : X.env.scope.names.lookup x = some .local := by rfl) (hy : X.env.scope.names.lookup y = some .local := by rfl)
    (hw : swappedStores [.Tuple [.Name x px, .Name y py] kt pt] (.Tuple [a, b] k2 pt2) X.env = pure (some [x, y]) := by rfl)
    (hs : swapsWithSole [.Tuple [.Name x px, .Name y py] kt pt] (.Tuple [a, b] k2 pt2) pos.line X.env = pure false := by rfl) :
    DS X E (.Assign [.Tuple [.Name x px, .Name y py] kt pt] (.Tuple [a, b] k2 pt2) pos) (zPar i j Tl) := by
  obtain ⟨t, p, s⟩ := ha
  refine ⟨_, ps_par hc hN hi hj hij hx hy p hw hs, fun c σ H S env Q x k t D m => s c σ H S env _ _ x k t _ fun vs H1 S1 ds k1 s1 r1 t1 => ?_⟩
  match ds, t1 with
  | [d, d'], t1 =>
    obtain ⟨v, v', rfl, r2, r3⟩ := rep2 r1
    exact ⟨v, v', rfl, m.1 _ H1 S1 _ ((k1.set r2).set r3) s1 t1⟩
/-- the list at slot i stays as it is from here on -/
def zFrz (i : Nat) (T : DTS) : DTS := fun Q env => ∃ xs, env[i]? = some (some (.own xs)) ∧ T Q (put i (.lst xs) env)
theorem s_frz (i : Nat) (h : DS X E st T) : DS X E st (zFrz i T) := by
  obtain ⟨t, p, s⟩ := h
  refine ⟨t, p, fun c σ H S env Q x k t D m => ?_⟩
  obtain ⟨xs, e, t⟩ := t
  obtain ⟨S2, k2, s2⟩ := k.frz e
  exact s c σ H S2 _ Q x k2 t D (m.mono s2)
/-- xs.append(e), xs of the frame's own -/
def zApp (i : Nat) (Ta : DT) : DTS := fun Q env => ∃ xs, env[i]? = some (some (.own xs)) ∧ Ta env (fun d => xs.length < sizeLine ∧ Q.nx (putO' i (xs ++ [d]) env)) Q.ex
theorem s_app (i : Nat) {x : Str} {apos p2 : Pos} (h : DE X E a Ta) (hN : X.N[i]? = some x := by rfl) (hv : Vis X.env.scope x := by first | exact Or.inl rfl | exact Or.inr (Or.inl rfl) | exact Or.inr (Or.inr rfl))
    (hd : (x == ("__debug__" : Str)) = false := by decide) (hcd : (x == ("__classdict__" : Str)) = false := by decide)
    (hp : ∀ {te : TE}, PE X a te → PE X (.Call (.Attribute (.Name x p1) "append" apos) [a] [] p2) (tBM X.K "list" rAppend (tVar i) (tCons te tNil)))
    (hs : swapsWith (.Call (.Attribute (.Name x p1) "append" apos) [a] [] p2) none pos.line X.env = pure false := by rfl) :
    DS X E (.Expr (.Call (.Attribute (.Name x p1) "append" apos) [a] [] p2) pos) (zApp i Ta) := by
  obtain ⟨t, p, s⟩ := h
  refine ⟨_, ps_expr (hp p) hs, fun c σ H S env Q x k t D m => ?_⟩
  obtain ⟨xs, e, t⟩ := t
  obtain ⟨q, vs, e1, h0, h1, h2, l⟩ := own_of k e
  refine ⟨_, e1, .inl ⟨rfl, vs, SqL.of h2⟩, s c σ H S env _ _ x k t _ fun v H1 S1 d k1 s1 r1 t1 => ?_⟩
  obtain ⟨q', vs', e1', _, _, h2', l'⟩ := own_of k1 e
  rw [e1] at e1'
  cases e1'
  have l2 := l'.app (repL_cons r1 repL_nil)
  exact ⟨q, vs', v, rfl, rfl, h2', by rw [l'.length]; exact t1.1, m.1 _ _ S1 _ (k1.change e e1 l2) s1 t1.2⟩
/-- xs[e] = v, xs of the frame's own -/
def zStO (i : Nat) (Tv Ti : DT) : DTS := fun Q env => Tv env (fun d => ∃ xs, env[i]? = some (some (.own xs)) ∧ Ti env (asI fun k => ∃ j, ixN xs.length k = some j ∧ Q.nx (putO' i (xs.set j d) env)) Q.ex) Q.ex
/-- name += e of ints -/
def zAug (i : Nat) (f : Int → Int → Int) (Ta : DT) : DTS := fun Q env => ∃ n, env[i]? = some (some (.val (.int n))) ∧ Ta env (asI fun j => Q.nx (put i (.int (f n j)) env)) Q.ex
/-- never reached -/
def zNever : DTS := fun _ _ => False
theorem s_never : DS X E st zNever := ⟨_, ps_never, fun c σ H S env Q x k t D m => (show False from t).elim⟩
end
abbrev DTI := En → (List D → Prop) → (Er → Prop) → Prop
def ItOk (B : Option Addr) (J : It) (S0 : Hp) (xs : List D) : Prop := ∀ (c : Fm), c.B = B → ∀ (i : Nat) (σ : St) (H S : Hp) (env : En), Kn c σ H S env → Same S0 S →
  (∀ d, xs[i]? = some d → J.go i H ∧ ∀ x H', J.yld i H x H' → ∃ S', Kn c σ H' S' env ∧ Same S S' ∧ Rep c.B S' d x) ∧ (xs.length ≤ i → J.stop i H)
def SmI (E : XK) (wi : TI) (T : DTI) : Prop := ∀ (c : Fm) (σ : St) (H S : Hp) (env : En) (R : List D → Prop) (Rx : Er → Prop), XOk c E Rx → Kn c σ H S env → T env R Rx →
  ∀ Rr : It → Hp → Prop, (∀ J H' S' xs, Kn c σ H' S' env → Same S S' → ItOk c.B J S' xs → R xs → Rr J H') → wi σ H Rr
def DI (X : Cx) (E : XK) (tg e : Expr) (T : DTI) : Prop := ∃ wi, PI X tg e wi ∧ SmI E wi T
theorem ItOk.mono {B : Option Addr} {J : It} {S0 S1 : Hp} {xs : List D} (h : ItOk B J S0 xs) (s : Same S0 S1) : ItOk B J S1 xs := fun c hB i σ H S env k s1 => h c hB i σ H S env k (s.trans s1)
section
variable {X : Cx} {E : XK} {pos p : Pos} {a b e tg : Expr} {Ta Tb : DT} {Tl : DTA}
theorem itl_ok {B : Option Addr} {K : PySem.W.Frag} {S : Hp} {a : Addr} {vs : List V} {xs : List D} (h : S a = some (.lst vs)) (l : RepL B S xs vs) : ItOk B (Itl K a) S xs := fun c hB i σ H S1 env k s => by
  subst hB
  have hH : H a = some (.lst vs) := k.kf.sub _ _ (s _ _ h)
  refine ⟨fun d e => ?_, fun hl => ⟨vs, SqL.of hH, by rw [l.length]; exact hl⟩⟩
  obtain ⟨v, ev, r⟩ := l.get e
  exact ⟨⟨vs, v, SqL.of hH, ev⟩, fun x H' y => by
    obtain ⟨e1, y⟩ := y
    subst e1
    have e2 := y vs (SqL.of hH)
    rw [ev] at e2
    cases e2
    exact ⟨S1, k, Same.refl S1, rep_mono s d v r⟩⟩
theorem itt_ok {B : Option Addr} {K : PySem.W.Frag} {S : Hp} {a : Addr} {vs : List V} {xs : List D} (h : S a = some (.tup vs)) (l : RepL B S xs vs) : ItOk B (Itt K a) S xs := fun c hB i σ H S1 env k s => by
  subst hB
  have hH : H a = some (.tup vs) := k.kf.sub _ _ (s _ _ h)
  refine ⟨fun d e => ?_, fun hl => ⟨vs, SqT.of hH, by rw [l.length]; exact hl⟩⟩
  obtain ⟨v, ev, r⟩ := l.get e
  exact ⟨⟨vs, v, SqT.of hH, ev⟩, fun x H' y => by
    obtain ⟨e1, y⟩ := y
    subst e1
    have e2 := y vs (SqT.of hH)
    rw [ev] at e2
    cases e2
    exact ⟨S1, k, Same.refl S1, rep_mono s d v r⟩⟩
def xItL (Ta : DT) : DTI := fun env R Rx => Ta env (asL R) Rx
def xItT (Ta : DT) : DTI := fun env R Rx => Ta env (fun d => match d with
  | .tup xs => R xs
  | _ => False) Rx
theorem i_list (h : DE X E a Ta) : DI X E tg a (xItL Ta) := by
  obtain ⟨t, p, s⟩ := h
  refine ⟨_, pi_list p, fun c σ H S env R Rx x k t Rr q => s c σ H S env _ Rx x k t _ fun v H1 S1 d k1 s1 r1 t1 => ?_⟩
  cases d <;> try exact (show False from t1).elim
  obtain ⟨a, vs, e, h1, hS, l⟩ := lst_of k1 r1
  exact ⟨a, e, ⟨vs, SqL.of h1⟩, q _ H1 S1 _ k1 s1 (itl_ok hS l) t1⟩
theorem i_tup (h : DE X E a Ta) : DI X E tg a (xItT Ta) := by
  obtain ⟨t, p, s⟩ := h
  refine ⟨_, pi_tup p, fun c σ H S env R Rx x k t Rr q => s c σ H S env _ Rx x k t _ fun v H1 S1 d k1 s1 r1 t1 => ?_⟩
  cases d <;> try exact (show False from t1).elim
  obtain ⟨a, vs, e, h1, hS, l⟩ := tup_of k1 r1
  exact ⟨a, e, ⟨vs, SqT.of h1⟩, q _ H1 S1 _ k1 s1 (itt_ok hS l) t1⟩
/-- lo, lo + 1, .. -/
def ups (lo : Int) : Nat → List D
  | 0 => []
  | n + 1 => .int lo :: ups (lo + 1) n
theorem ups_get : ∀ (n i : Nat) (lo : Int), (ups lo n)[i]? = if i < n then some (.int (lo + i)) else none
  | 0, i, lo => by simp [ups]
  | n + 1, 0, lo => by simp [ups]
  | n + 1, i + 1, lo => by
    show (ups (lo + 1) n)[i]? = _
    rw [ups_get n i (lo + 1)]
    by_cases h : i < n
    · rw [if_pos h, if_pos (by omega)]
      congr 2
      omega
    · rw [if_neg h, if_neg (by omega)]
theorem ups_length : ∀ (n : Nat) (lo : Int), (ups lo n).length = n
  | 0, _ => rfl
  | n + 1, lo => by
    show (ups (lo + 1) n).length + 1 = _
    rw [ups_length]
theorem itr_ok {B : Option Addr} {S : Hp} {lo : Int} {n : Nat} : ItOk B (Itr lo n) S (ups lo n) := fun c hB i σ H S1 env k s => by
  refine ⟨fun d e => ?_, fun hl => by rw [ups_length] at hl; exact hl⟩
  rw [ups_get] at e
  split at e
  · rename_i hi
    cases e
    exact ⟨hi, fun x H' y => by
      obtain ⟨e1, e2⟩ := y
      subst e1
      subst e2
      exact ⟨S1, k, Same.refl S1, rfl⟩⟩
  · cases e
def xRg1 (Tl : DTA) : DTI := fun env R Rx => Tl env (fun ds => match ds with
  | [.int j] => -(2 ^ 62) ≤ j ∧ j < 2 ^ 62 ∧ R (ups 0 j.toNat)
  | _ => False) Rx
def xRg2 (Tl : DTA) : DTI := fun env R Rx => Tl env (fun ds => match ds with
  | [.int i, .int j] => (-(2 ^ 62) ≤ i ∧ i < 2 ^ 62 ∧ -(2 ^ 62) ≤ j ∧ j < 2 ^ 62) ∧ R (ups i (j - i).toNat)
  | _ => False) Rx
theorem i_rg1 (ha : DA X E [a] Tl) (hm : X.mg "range" = none) (hg : Gl X "range" := by rfl) (hs : starEach [a] X.env = [(false, eval a X.env)] := by rfl) : DI X E tg (.Call (.Name "range" p) [a] [] pos) (xRg1 Tl) := by
  obtain ⟨t, pa, s⟩ := ha
  refine ⟨_, pi_range1 hg hm pa hs, fun c σ H S env R Rx x k t Rr q => s c σ H S env _ Rx x k t _ fun vs H1 S1 ds k1 s1 r1 t1 => ?_⟩
  match ds, t1 with
  | [.int j], t1 =>
    obtain ⟨v, rfl, r2⟩ := rep1 r1
    exact ⟨j, by rw [show v = _ from r2], t1.1, t1.2.1, q _ H1 S1 _ k1 s1 itr_ok t1.2.2⟩
theorem i_rg2 (ha : DA X E [a, b] Tl) (hm : X.mg "range" = none) (hg : Gl X "range" := by rfl) (hs : starEach [a, b] X.env = [(false, eval a X.env), (false, eval b X.env)] := by rfl) (hs2 : starEach [b] X.env = [(false, eval b X.env)] := by rfl) :
    DI X E tg (.Call (.Name "range" p) [a, b] [] pos) (xRg2 Tl) := by
  obtain ⟨t, pa, s⟩ := ha
  refine ⟨_, pi_range2 hg hm pa hs hs2, fun c σ H S env R Rx x k t Rr q => s c σ H S env _ Rx x k t _ fun vs H1 S1 ds k1 s1 r1 t1 => ?_⟩
  match ds, t1 with
  | [.int i, .int j], t1 =>
    obtain ⟨v, w, rfl, r2, r3⟩ := rep2 r1
    exact ⟨i, j, by rw [show v = _ from r2, show w = _ from r3], t1.1, q _ H1 S1 _ k1 s1 itr_ok t1.2⟩
/-- zip -/
def pairs : List D → List D → List D
  | x :: xs, y :: ys => .tup [x, y] :: pairs xs ys
  | _, _ => []
theorem pairs_get : ∀ (xs ys : List D) (i : Nat) (d : D), (pairs xs ys)[i]? = some d → ∃ x y, xs[i]? = some x ∧ ys[i]? = some y ∧ d = .tup [x, y]
  | [], _, i, d, h => by simp [pairs] at h
  | _ :: _, [], i, d, h => by simp [pairs] at h
  | x :: xs, y :: ys, 0, d, h => by simp [pairs] at h; exact ⟨x, y, rfl, rfl, h.symm⟩
  | x :: xs, y :: ys, i + 1, d, h => by
    obtain ⟨a, b, e1, e2, e3⟩ := pairs_get xs ys i d (by simpa [pairs] using h)
    exact ⟨a, b, by simpa using e1, by simpa using e2, e3⟩
theorem pairs_length : ∀ (xs ys : List D), (pairs xs ys).length = min xs.length ys.length
  | [], ys => by simp [pairs]
  | _ :: _, [] => by simp [pairs]
  | x :: xs, y :: ys => by
    show (pairs xs ys).length + 1 = _
    rw [pairs_length xs ys, List.length_cons, List.length_cons]
    omega
theorem itz_ok {B : Option Addr} {K : PySem.W.Frag} {S : Hp} {a b : Addr} {vs ws : List V} {xs ys : List D} (h : S a = some (.lst vs)) (h2 : S b = some (.lst ws)) (l : RepL B S xs vs) (l2 : RepL B S ys ws) : ItOk B (Itz K a b) S (pairs xs ys) := fun c hB i σ H S1 env k s => by
  subst hB
  have hH : H a = some (.lst vs) := k.kf.sub _ _ (s _ _ h)
  have hH2 : H b = some (.lst ws) := k.kf.sub _ _ (s _ _ h2)
  refine ⟨fun d e => ?_, fun hl => ⟨vs, ws, SqL.of hH, SqL.of hH2, by rw [pairs_length] at hl; rw [l.length, l2.length]; omega⟩⟩
  obtain ⟨x, y, ex, ey, rfl⟩ := pairs_get _ _ _ _ e
  obtain ⟨v, ev, r⟩ := l.get ex
  obtain ⟨w, ew, r2⟩ := l2.get ey
  refine ⟨⟨vs, ws, v, w, SqL.of hH, SqL.of hH2, ev, ew⟩, fun z H' yl => ?_⟩
  obtain ⟨T, x', y', rfl, hT, rfl, hx, hy⟩ := yl
  have e1 := hx vs (SqL.of hH)
  rw [ev] at e1
  cases e1
  have e2 := hy ws (SqL.of hH2)
  rw [ew] at e2
  cases e2
  obtain ⟨k', s', r'⟩ := put_tup k (repL_cons (rep_mono s _ _ r) (repL_cons (rep_mono s _ _ r2) repL_nil)) hT
  exact ⟨_, k', s', r'⟩
theorem itzT_ok {B : Option Addr} {K : PySem.W.Frag} {S : Hp} {a b : Addr} {vs ws : List V} {xs ys : List D} (h : S a = some (.tup vs)) (h2 : S b = some (.tup ws)) (l : RepL B S xs vs) (l2 : RepL B S ys ws) : ItOk B (RZ.ItzT K a b) S (pairs xs ys) := fun c hB i σ H S1 env k s => by
  subst hB
  have hH : H a = some (.tup vs) := k.kf.sub _ _ (s _ _ h)
  have hH2 : H b = some (.tup ws) := k.kf.sub _ _ (s _ _ h2)
  refine ⟨fun d e => ?_, fun hl => ⟨vs, ws, SqT.of hH, SqT.of hH2, by rw [pairs_length] at hl; rw [l.length, l2.length]; omega⟩⟩
  obtain ⟨x, y, ex, ey, rfl⟩ := pairs_get _ _ _ _ e
  obtain ⟨v, ev, r⟩ := l.get ex
  obtain ⟨w, ew, r2⟩ := l2.get ey
  refine ⟨⟨vs, ws, v, w, SqT.of hH, SqT.of hH2, ev, ew⟩, fun z H' yl => ?_⟩
  obtain ⟨T, x', y', rfl, hT, rfl, hx, hy⟩ := yl
  have e1 := hx vs (SqT.of hH)
  rw [ev] at e1
  cases e1
  have e2 := hy ws (SqT.of hH2)
  rw [ew] at e2
  cases e2
  obtain ⟨k', s', r'⟩ := put_tup k (repL_cons (rep_mono s _ _ r) (repL_cons (rep_mono s _ _ r2) repL_nil)) hT
  exact ⟨_, k', s', r'⟩
def fZip (R : List D → Prop) : List D → Prop
  | [.lst xs, .lst ys] => R (pairs xs ys)
  | [.tup xs, .tup ys] => R (pairs xs ys)
  | _ => False
def xZip (Tl : DTA) : DTI := fun env R Rx => Tl env (fZip R) Rx
theorem i_zip {tpos : Pos} {elts : List Expr} {kk : Nat} (ha : DA X E [a, b] Tl) (hm : X.mg "zip" = none) (hg : Gl X "zip" := by rfl)
    (hs : starEach [a, b] X.env = (false, eval a X.env) :: starEach [b] X.env := by rfl) (hpl : (backTo pos (starEach [b] X.env)).any (·.1) = false := by rfl) :
    DI X E (.Tuple elts kk tpos) (.Call (.Name "zip" p) [a, b] [] pos) (xZip Tl) := by
  obtain ⟨t, pa, s⟩ := ha
  refine ⟨_, RZ.pi_zipA hg hm pa hs hpl, fun c σ H S env R Rx x k t Rr q => s c σ H S env _ Rx x k t _ fun vs H1 S1 ds k1 s1 r1 t1 => ?_⟩
  unfold fZip at t1
  split at t1 <;> try exact t1.elim
  · obtain ⟨v, w, rfl, r2, r3⟩ := rep2 r1
    obtain ⟨a, us, rfl, h1, hS, l⟩ := lst_of k1 r2
    obtain ⟨b, ws, rfl, h2, hS2, l2⟩ := lst_of k1 r3
    exact ⟨a, b, us, ws, rfl, .inl ⟨SqL.of h1, SqL.of h2, q _ H1 S1 _ k1 s1 (itz_ok hS hS2 l l2) t1⟩⟩
  · obtain ⟨v, w, rfl, r2, r3⟩ := rep2 r1
    obtain ⟨a, us, rfl, h1, hS, l⟩ := tup_of k1 r2
    obtain ⟨b, ws, rfl, h2, hS2, l2⟩ := tup_of k1 r3
    exact ⟨a, b, us, ws, rfl, .inr ⟨SqT.of h1, SqT.of h2, q _ H1 S1 _ k1 s1 (itzT_ok hS hS2 l l2) t1⟩⟩
theorem fZip_lst {R : List D → Prop} {xs ys : List D} : fZip R [.lst xs, .lst ys] = R (pairs xs ys) := rfl
theorem fZip_tup {R : List D → Prop} {xs ys : List D} : fZip R [.tup xs, .tup ys] = R (pairs xs ys) := rfl
/-- enumerate -/
def nums (lo : Int) : List D → List D
  | [] => []
  | x :: xs => .tup [.int lo, x] :: nums (lo + 1) xs
theorem nums_get : ∀ (xs : List D) (i : Nat) (lo : Int) (d : D), (nums lo xs)[i]? = some d → ∃ x, xs[i]? = some x ∧ d = .tup [.int (lo + i), x]
  | [], i, lo, d, h => by simp [nums] at h
  | x :: xs, 0, lo, d, h => by simp [nums] at h; exact ⟨x, rfl, by simpa using h.symm⟩
  | x :: xs, i + 1, lo, d, h => by
    obtain ⟨a, e1, e2⟩ := nums_get xs i (lo + 1) d (by simpa [nums] using h)
    refine ⟨a, by simpa using e1, ?_⟩
    rw [e2]
    congr 3
    show (lo + 1) + (i : Int) = lo + ((i + 1 : Nat) : Int)
    omega
theorem nums_length : ∀ (xs : List D) (lo : Int), (nums lo xs).length = xs.length
  | [], _ => rfl
  | x :: xs, lo => by
    show (nums (lo + 1) xs).length + 1 = _
    rw [nums_length xs]
    rfl
theorem ite_ok {B : Option Addr} {K : PySem.W.Frag} {S : Hp} {a : Addr} {vs : List V} {xs : List D} (h : S a = some (.lst vs)) (l : RepL B S xs vs) : ItOk B (Ite K a) S (nums 0 xs) := fun c hB i σ H S1 env k s => by
  subst hB
  have hH : H a = some (.lst vs) := k.kf.sub _ _ (s _ _ h)
  refine ⟨fun d e => ?_, fun hl => ⟨vs, SqL.of hH, by rw [nums_length] at hl; rw [l.length]; exact hl⟩⟩
  obtain ⟨x, ex, rfl⟩ := nums_get _ _ _ _ e
  obtain ⟨v, ev, r⟩ := l.get ex
  refine ⟨⟨vs, v, SqL.of hH, ev⟩, fun z H' yl => ?_⟩
  obtain ⟨T, x', rfl, hT, rfl, hx⟩ := yl
  have e1 := hx vs (SqL.of hH)
  rw [ev] at e1
  cases e1
  obtain ⟨k', s', r'⟩ := put_tup (ds := [.int i, x]) k (repL_cons rfl (repL_cons (rep_mono s _ _ r) repL_nil)) hT
  rw [Int.zero_add]
  exact ⟨_, k', s', r'⟩
def xEnum (Tl : DTA) : DTI := fun env R Rx => Tl env (fun ds => match ds with
  | [.lst xs] => R (nums 0 xs)
  | _ => False) Rx
theorem i_enum {tpos : Pos} {elts : List Expr} {kk : Nat} (ha : DA X E [a] Tl) (hm : X.mg "enumerate" = none) (hg : Gl X "enumerate" := by rfl) (hs : starEach [a] X.env = [(false, eval a X.env)] := by rfl) :
    DI X E (.Tuple elts kk tpos) (.Call (.Name "enumerate" p) [a] [] pos) (xEnum Tl) := by
  obtain ⟨t, pa, s⟩ := ha
  refine ⟨_, pi_enum hg hm pa hs, fun c σ H S env R Rx x k t Rr q => s c σ H S env _ Rx x k t _ fun vs H1 S1 ds k1 s1 r1 t1 => ?_⟩
  match ds, t1 with
  | [.lst xs], t1 =>
    obtain ⟨v, rfl, r2⟩ := rep1 r1
    obtain ⟨a, us, rfl, h1, hS, l⟩ := lst_of k1 r2
    exact ⟨a, us, rfl, SqL.of h1, q _ H1 S1 _ k1 s1 (ite_ok hS l) t1⟩
/-- the signs of a text -/
def signs (s : Str) : List D := s.cps.toList.map fun c => .str ⟨#[c]⟩
def xItS (Ta : DT) : DTI := fun env R Rx => Ta env (fun d => match d with
  | .str s => R (signs s)
  | _ => False) Rx
end
def zFor (Ti : DTI) (G : DG) (Tb : DTS) : DTS := fun Q env => Ti env (fun xs => ∃ I : Nat → En → Prop, I 0 env ∧ (∀ i d env, xs[i]? = some d → I i env → G d env fun env' => Tb { Q with nx := I (i + 1), ct := I (i + 1), bk := Q.nx } env') ∧ ∀ env, I xs.length env → Q.nx env) Q.ex
def zWhile (Tc : DTT) (Tb : DTS) : DTS := fun Q env => ∃ (I : Nat → En → Prop) (m : Nat), I m env ∧ ∀ m env, I m env → Tc env (fun b => (b = true → Tb { Q with nx := fun e => ∃ m', m' < m ∧ I m' e, ct := fun e => ∃ m', m' < m ∧ I m' e, bk := Q.nx } env) ∧ (b = false → Q.nx env)) Q.ex
section
variable {X : Cx} {E : XK} {pos : Pos} {tg iter : Expr} {body : List Stmt} {Ti : DTI} {G : DG} {Tb : DTS}
theorem s_for {js : List Nat} (hp : PassesOwn (model X.prog X.w) X.A X.env X.xe) (hc : X.calm = true) (hi : DI X E tg iter Ti) (hg : DGt X tg G js) (hb : DSs X E body Tb) (hs : ∀ x, foldedSetIterable iter X.env x = pure x := by intro _; rfl) :
    DS X E (.For tg iter body [] pos) (zFor Ti G Tb) := by
  obtain ⟨wi, p1, s1⟩ := hi
  obtain ⟨g, p2, s2⟩ := hg
  obtain ⟨tb, p3, s3⟩ := hb
  refine ⟨_, ps_for hp hc p1 p2 p3 hs, fun c σ H S env Q x k t D m => s1 c σ H S env _ _ x k t _ fun J H1 S1 xs k1 s4 it t1 => ?_⟩
  obtain ⟨I, h0, hstep, hend⟩ := t1
  have m1 := m.mono s4
  refine ⟨fun i n σ H => n = xs.length - i ∧ i ≤ xs.length ∧ ∃ S env, Kn c σ H S env ∧ Same S1 S ∧ I i env, ⟨_, rfl, Nat.zero_le _, S1, env, k1, Same.refl S1, h0⟩, ?_⟩
  rintro i n σ H ⟨rfl, hi, S, env, k, s, hI⟩
  obtain ⟨go, stop⟩ := it c rfl i σ H S env k s
  by_cases hlt : i < xs.length
  · have e : xs[i]? = some xs[i] := by simp [hlt]
    obtain ⟨g1, g2⟩ := go _ e
    refine .inr ⟨g1, fun σ H => ∃ S env, Kn c σ H S env ∧ Same S1 S ∧ I (i + 1) env, fun σ' H' ⟨S', env', k', s', h'⟩ => ⟨_, by omega, rfl, hlt, S', env', k', s', h'⟩, fun v H' y => ?_⟩
    obtain ⟨S', k', s', r'⟩ := g2 v H' y
    refine s2 c σ H' S' env _ v _ k' r' (hstep i _ env e hI) _ fun σ2 H2 S2 env2 k2 s5 _ t2 => ?_
    have s6 : Same S1 S2 := (s.trans s').trans s5
    refine s3 c σ2 H2 S2 env2 { Q with nx := I (i + 1), ct := I (i + 1), bk := Q.nx } x k2 t2 _ ⟨fun σ3 H3 S3 env3 k3 s7 t3 => ⟨S3, env3, k3, s6.trans s7, t3⟩, (m1.mono s6).2.1, fun σ3 H3 S3 env3 k3 s7 t3 => m1.1 σ3 H3 S3 env3 k3 (s6.trans s7) t3, fun σ3 H3 S3 env3 k3 s7 t3 => ⟨S3, env3, k3, s6.trans s7, t3⟩⟩
  · have e : i = xs.length := by omega
    subst e
    exact .inl ⟨stop (Nat.le_refl _), m1.1 σ H S env k s (hend env hI)⟩
end
end DL
namespace DL
open PySem PySem.Spec L2
variable [TbC]
def canE (E : XK) (T : DT) : TE := fun σ H Q => ∃ (c : Fm) (S : Hp) (env : En) (R : D → Prop) (Rx : Er → Prop), XOk c E Rx ∧ Kn c σ H S env ∧ T env R Rx ∧ ∀ v H' S' d, Kn c σ H' S' env → Same S S' → Rep c.B S' d v → R d → Q v H'
theorem sm_can {E : XK} {T : DT} : Sm E (canE E T) T := fun c σ H S env R Rx x k t Q q => ⟨c, S, env, R, Rx, x, k, t, q⟩
theorem pe_can {X : Cx} {E : XK} {e : Expr} {T : DT} (h : DE X E e T) : PE X e (canE E T) := by
  obtain ⟨t, p, s⟩ := h
  exact ⟨fun pins st σ H Q I ⟨c, S, env, R, Rx, x, k, t, q⟩ => p.run pins st σ H Q I (s c σ H S env R Rx x k t Q q)⟩
def canT (E : XK) (T : DTT) : TT := fun σ H Q => ∃ (c : Fm) (S : Hp) (env : En) (R : Bool → Prop) (Rx : Er → Prop), XOk c E Rx ∧ Kn c σ H S env ∧ T env R Rx ∧ ∀ b H' S', Kn c σ H' S' env → Same S S' → R b → Q b H'
theorem smT_can {E : XK} {T : DTT} : SmT E (canT E T) T := fun c σ H S env R Rx x k t Q q => ⟨c, S, env, R, Rx, x, k, t, q⟩
def DTs (X : Cx) (E : XK) (es : List Expr) (T : DTT) : Prop := ∃ t, PTs X es t ∧ SmT E t T
theorem pts_can {X : Cx} {E : XK} {e : List Expr} {T : DTT} (h : DTs X E e T) : PTs X e (canT E T) := by
  obtain ⟨t, p, s⟩ := h
  exact ⟨fun pins st σ H Q I ⟨c, S, env, R, Rx, x, k, t, q⟩ => p.run pins st σ H Q I (s c σ H S env R Rx x k t Q q)⟩
def canG (G : DG) (js : List Nat) : TG := fun v σ H P => ∃ (c : Fm) (S : Hp) (env : En) (d : D) (N : En → Prop), Kn c σ H S env ∧ Rep c.B S d v ∧ G d env N ∧ ∀ σ' H' S' env', Kn c σ' H' S' env' → Same S S' → Wip js σ σ' → N env' → P σ' H'
theorem smG_can {G : DG} {js : List Nat} : SmG (canG G js) G js := fun c σ H S env d v N k r t P q => ⟨c, S, env, d, N, k, r, t, q⟩
theorem pg_can {X : Cx} {e : Expr} {G : DG} {js : List Nat} (h : DGt X e G js) : PG X e (canG G js) := by
  obtain ⟨g, p, s⟩ := h
  exact ⟨fun pins st σ H v u Q I r ⟨c, S, env, d, N, k, r2, t, q⟩ => p.run pins st σ H v u Q I r (s c σ H S env d v N k r2 t Q q)⟩
def xYes : DTT := fun _ R _ => R true
section
variable {X : Cx} {E : XK} {a : Expr} {T : DTT}
theorem dts_nil : DTs X E [] xYes := ⟨_, pts_nil, fun c σ H S env R Rx x k t Q q => q true H S k (Same.refl S) t⟩
theorem dts_one (h : DTe X E a T) : DTs X E [a] T := by
  obtain ⟨t, p, s⟩ := h
  exact ⟨_, pts_one p, s⟩
end
abbrev noX : Er → Prop := fun _ => False
theorem xok0 {c : Fm} {E : XK} : XOk c E noX := fun er d vs H S k r l h _ _ z => z.elim
def Fm.at (c : Fm) (H S : Hp) : Fm := ⟨c.B, c.C, H, S⟩
section
variable {c : Fm} {σ : St} {H H' S S' : Hp} {env : En}
theorem Kf.at (k : Kf c H S) : Kf (c.at H S) H S := ⟨k.sub, Same.refl S, fun _ _ e _ => e, fun a e _ => e, fun b e => ⟨(k.bag b e).1, by
  obtain ⟨⟨_, cs, i, g, st, n, q, _⟩, _⟩ := k.bag b e
  show H b ≠ none
  rw [q]
  exact fun z => nomatch z⟩, ⟨k.tab.1, fun p hp => k.tab.1.ne hp⟩⟩
theorem Kn.back (k : Kn c σ H S env) (k' : Kf (c.at H S) H' S') : Kn c σ H' S' env := k.step k'.s0 k'.sub (fun a o e n => k'.old a o e n) (fun a e n => k'.new a e n) (fun b e => (k'.bag b e).1) k'.tab.1
theorem Kf.back' (k : Kf c H S) (k' : Kf (c.at H S) H' S') : Kf c H' S' := k.step k'.s0 k'.sub (fun a o e n => k'.old a o e n) (fun a e n => k'.new a e n) (fun b e => (k'.bag b e).1) k'.tab.1
theorem XOk.at {E : XK} {Rx : Er → Prop} (x : XOk c E Rx) (k : Kf c H S) : XOk (c.at H S) E Rx := fun er d vs H1 S1 k1 r l h n0 n1 z => x er d vs H1 S1 (k.back' k1) r l h (k.h0_none n0) n1 z
end
def inner : List Nat → En → En
  | [], env => env.map fun o => match o with
    | some (.val d) => some (.val d)
    | _ => none
  | i :: vs, env => (inner vs env).set i none
theorem inner_len {env : En} : ∀ vs : List Nat, (inner vs env).length = env.length
  | [] => by simp [inner]
  | i :: vs => by simp [inner, inner_len vs]
theorem inner_get {env : En} {i : Nat} {x : DV} : ∀ {vs : List Nat}, (inner vs env)[i]? = some (some x) → (∃ d, x = .val d ∧ env[i]? = some (some (.val d))) ∧ i ∉ vs
  | [], h => by
    refine ⟨?_, by simp⟩
    simp only [inner, List.getElem?_map] at h
    cases e : env[i]? with
    | none => rw [e] at h; cases h
    | some o =>
      rw [e] at h
      cases o with
      | none => cases h
      | some y =>
        cases y with
        | val d => cases h; exact ⟨d, rfl, rfl⟩
        | own _ => cases h
        | tre _ _ => cases h
  | v :: vs, h => by
    show _ ∧ i ∉ v :: vs
    simp only [inner] at h
    by_cases z : v = i
    · subst z
      rw [List.getElem?_set] at h
      simp only [if_true] at h
      split at h <;> cases h
    · rw [List.getElem?_set_ne z] at h
      obtain ⟨a, b⟩ := inner_get h
      exact ⟨a, by simp only [List.mem_cons, not_or]; exact ⟨fun e => z e.symm, b⟩⟩
theorem wipe_get {σ : St} {i : Nat} : ∀ {vs : List Nat}, i ∉ vs → (wipe σ vs)[i]? = σ[i]?
  | [], _ => rfl
  | v :: vs, h => by
    simp only [List.mem_cons, not_or] at h
    show ((wipe σ vs).set v none)[i]? = _
    rw [List.getElem?_set_ne (Ne.symm h.1), wipe_get h.2]
theorem wipe_in {j : Nat} : ∀ {us : List Nat} {τ : St}, j ∈ us → (wipe τ us)[j]? = if j < τ.length then some none else none
  | [], _, h => nomatch h
  | u :: us, τ, h => by
    show ((wipe τ us).set u none)[j]? = _
    by_cases hu : u = j
    · subst hu
      rw [List.getElem?_set]
      simp only [if_true, wipe_length]
    · rw [List.getElem?_set_ne hu]
      refine wipe_in ?_
      rcases List.mem_cons.mp h with e | e
      · exact absurd e.symm hu
      · exact e
theorem wipe_wipe (σ : St) (us : List Nat) : wipe (wipe σ us) us = wipe σ us := by
  apply List.ext_getElem?
  intro j
  by_cases hj : j ∈ us
  · rw [wipe_in hj, wipe_in hj, wipe_length]
  · rw [wipe_get hj, wipe_get hj]
theorem Kn.inner {c : Fm} {σ : St} {H S : Hp} {env : En} (k : Kn c σ H S env) (vs : List Nat) : Kn (c.at H S) (wipe σ vs) H S (inner vs env) := by
  refine ⟨k.kf.at, by rw [inner_len, wipe_length]; exact k.len, fun i x e => ?_, fun i j x y v u a _ e _ _ _ f _ => ?_⟩
  · obtain ⟨⟨d, rfl, e1⟩, hi⟩ := inner_get e
    obtain ⟨v, e2, r⟩ := k.sl i _ e1
    exact ⟨v, by rw [wipe_get hi]; exact e2, r⟩
  · obtain ⟨⟨d, rfl, _⟩, _⟩ := inner_get e
    exact f
def xLcF (Ti : DTI) (G : DG) (Tt : DTT) (Te : DT) (vs : List Nat) : DTF := fun env R Rx => Ti env (fun xs => ∃ I : Nat → List D → Prop, I 0 [] ∧
  (∀ i d acc, xs[i]? = some d → I i acc → G d (inner vs env) fun env' => Tt env' (fun b => (b = true → Te env' (fun y => acc.length < sizeLine ∧ I (i + 1) (acc ++ [y])) noX) ∧ (b = false → I (i + 1) acc)) noX) ∧
  ∀ acc, I xs.length acc → R acc) Rx
section
variable {X : Cx} {E : XK} {elt tg iter : Expr} {ifs : List Expr} {scope : Scope} {own : List (Str × Nat)} {pos : Pos} {Ti : DTI} {G : DG} {Tt : DTT} {Te : DT} {js : List Nat}
theorem smF_lc {wi : TI} (hsub : ∀ j ∈ js, j ∈ own.map (·.2)) (hi : SmI E wi Ti) : SmF E (tLc wi (canG G js) (canT E0 Tt) (canE E0 Te) (own.map (·.2))) (xLcF Ti G Tt Te (own.map (·.2))) := fun c σ H S env R Rx x k t Q q =>
  hi c σ H S env _ Rx x k t _ fun J H1 S1 xs k1 s1 it t1 => by
    obtain ⟨I, h0, hstep, hend⟩ := t1
    intro D hD
    have n0 := k1.kf.h0_none hD
    have fD := k1.free hD
    refine ⟨fun i m H => m = xs.length - i ∧ i ≤ xs.length ∧ ∃ S vs acc, Kn c σ H S env ∧ Same S1 S ∧ S D = none ∧ H D = some (.lst vs) ∧ RepL c.B S acc vs ∧ I i acc,
      ⟨_, rfl, Nat.zero_le _, S1, [], [], k1.new0 hD, Same.refl S1, k1.kf.s_none hD, upd_same, repL_nil, h0⟩, ?_⟩
    rintro i m H ⟨rfl, hil, S, vs, acc, k, s, nD, eD, l, hI⟩
    have ki := k.inner (own.map (·.2))
    obtain ⟨go, stop⟩ := it (c.at H S) rfl i _ H S _ ki s
    by_cases hlt : i < xs.length
    · have e : xs[i]? = some xs[i] := by simp [hlt]
      obtain ⟨g1, g2⟩ := go _ e
      refine .inr ⟨g1, fun H => i + 1 ≤ xs.length ∧ ∃ S vs acc, Kn c σ H S env ∧ Same S1 S ∧ S D = none ∧ H D = some (.lst vs) ∧ RepL c.B S acc vs ∧ I (i + 1) acc, fun H' h => ⟨_, by omega, rfl, h⟩, fun v H' y => ?_⟩
      obtain ⟨S', k', s', r'⟩ := g2 v H' y
      refine smG_can (c.at H S) _ H' S' _ _ v _ k' r' (hstep i _ acc e hI) _ fun σ2 H2 S2 env2 k2 s2 w2 t2 => ?_
      refine ⟨?_, ?_⟩
      · have := w2 (own.map (·.2)) hsub
        rw [this]
        exact wipe_wipe _ _
      · refine smT_can (c.at H S) σ2 H2 S2 env2 _ noX xok0 k2 t2 _ fun b H3 S3 k3 s3 t3 => ?_
        have fin : ∀ {H4 S4 : Hp}, Kf (c.at H S) H4 S4 → Kn c σ H4 S4 env ∧ H4 D = some (.lst vs) ∧ S4 D = none ∧ RepL c.B S4 acc vs ∧ Same S1 S4 := fun {H4 S4} kf => by
          refine ⟨k.back kf, kf.old D _ eD (k.kf.x_ne0 n0), kf.new D nD (mu_lst eD), repL_mono kf.s0 acc vs l, s.trans kf.s0⟩
        cases b with
        | true =>
          refine iteT ?_
          refine sm_can (c.at H S) σ2 H3 S3 env2 _ noX xok0 k3 (t3.1 rfl) _ fun u H4 S4 d4 k4 s4 r4 t4 => ?_
          obtain ⟨kn, eD4, nD4, l4, ss⟩ := fin k4.kf
          have l5 := l4.app (repL_cons r4 repL_nil)
          refine ⟨vs, eD4, by rw [l4.length]; exact t4.1, hlt, S4, _, _, ?_, ss, nD4, upd_same, l5, t4.2⟩
          -- the list at D changes: nobody knows it
          exact kn.updF nD4 n0 eD4 lst_ne fD
        | false =>
          refine iteF ?_
          obtain ⟨kn, eD4, nD4, l4, ss⟩ := fin k3.kf
          exact ⟨hlt, S3, vs, acc, kn, ss, nD4, eD4, l4, t3.2 rfl⟩
    · have e : i = xs.length := by omega
      subst e
      exact .inl ⟨stop (Nat.le_refl _), q D vs H S acc k (s1.trans s) n0 fD nD eD l (hend acc hI)⟩
theorem f_lc (hc : X.calm = true) (hN : X.N.Nodup) (hi : DI X E tg iter Ti) (ok : BlkOk X.N X.env.scope scope own) (hsub : ∀ j ∈ js, j ∈ own.map (·.2))
    (hg : ∀ (s : Shared) (H : Hp) (C : Addr) (cl : List (Str × Addr)) (fp : List Addr), DGt (X.blk s H scope (compEnvC scope cl C X.env) fp) tg G js)
    (ht : ∀ (s : Shared) (H : Hp) (C : Addr) (cl : List (Str × Addr)) (fp : List Addr), DTs (X.blk s H scope (compEnvC scope cl C X.env) fp) E0 ifs Tt)
    (he : ∀ (s : Shared) (H : Hp) (C : Addr) (cl : List (Str × Addr)) (fp : List Addr), DE (X.blk s H scope (compEnvC scope cl C X.env) fp) E0 elt Te)
    (hs : ∀ x, foldedSetIterable iter X.env x = pure x := by intro _; rfl) : DF X E (.ListComp elt [⟨tg, iter, ifs, 0⟩] scope pos) (xLcF Ti G Tt Te (own.map (·.2))) := by
  obtain ⟨wi, p, s⟩ := hi
  exact ⟨_, pe_lc hc hN p ok (fun s H C cl fp => pg_can (hg s H C cl fp)) (fun s H C cl fp => pts_can (ht s H C cl fp)) (fun s H C cl fp => pe_can (he s H C cl fp)) hs, smF_lc hsub s⟩
end
abbrev Spec := List D → (D → Prop) → (Er → Prop) → Prop
def spD (F : Spec) : Sp := fun vs H Q E => ∃ (c : Fm) (S : Hp) (ds : List D) (R : D → Prop) (Rx : Er → Prop), c.H0 = H ∧ c.S0 = S ∧ Kf c H S ∧ RepL c.B S ds vs ∧ F ds R Rx ∧ (∀ v H' S' d, Kf c H' S' → Rep c.B S' d v → R d → Q v H') ∧ XOk c E Rx
def xCall (F : Spec) (dds : List D) (Tl : DTA) : DT := fun env R Rx => Tl env (fun xs => F (xs ++ dds) R Rx) Rx
def DfR (dds : List D) (dvs : List V) : Prop := ∀ B S, RepL B S dds dvs
theorem dfR_nil : DfR [] [] := fun _ _ => repL_nil
section
variable {X : Cx} {E : XK} {CX : CXT} {k n : Nat} {f : Addr} {fd : FuncData} {ps ks : List Str} {F : Spec} {dvs : List V} {dds : List D} {ds : List Value} {x : Str} {p pos : Pos} {e : Expr} {es : List Expr} {Tl Tk : DTA} {kws : List Keyword}
theorem sp_call {c : Fm} {σ : St} {H S : Hp} {env : En} {vs : List V} {xs : List D} {R : D → Prop} {Rx : Er → Prop} {Q : VK} (kn : Kn c σ H S env) (x : XOk c E Rx) (l : RepL c.B S xs vs) (t : F xs R Rx)
    (q : ∀ v H' S' d, Kn c σ H' S' env → Same S S' → Rep c.B S' d v → R d → Q v H') : spD F vs H Q E :=
  ⟨c.at H S, S, xs, R, Rx, rfl, rfl, kn.kf.at, l, t, fun v H' S' d k' r z => q v H' S' d (kn.back k') k'.s0 r z, x.at kn.kf⟩
theorem d_call (G : FnOk X.prog X.w X.K X.mg X.base CX k f fd ps (spD F)) (hr : Room k X.A) (hm : X.mg x = some (.ref f)) (hk : PySem.W.keepIn X.K (.ref f) = true) (hb : Binds X.K fd ps ds) (hd : Vals dvs ds) (hdd : DfR dds dvs) (hx : Passes CX X E) (ha : DA X E (e :: es) Tl)
    (hg : Gl X x := by rfl) (hdb : (x == ("__debug__" : Str)) = false := by decide) (he : starEach (e :: es) X.env = (false, eval e X.env) :: starEach es X.env := by rfl) (hpl : (backTo pos (starEach es X.env)).any (·.1) = false := by rfl) :
    DE X E (.Call (.Name x p) (e :: es) [] pos) (xCall F dds Tl) := by
  obtain ⟨t, pa, s⟩ := ha
  refine ⟨_, pe_call G hr hg hm hk hb hd hx pa hdb he hpl, fun c σ H S env R Rx x k t Q q => s c σ H S env _ Rx x k t _ fun vs H1 S1 xs k1 s1 l1 t1 => ?_⟩
  exact sp_call k1 x (l1.app (hdd _ _)) t1 fun v H' S' d k' s' r' t' => q v H' S' d k' (s1.trans s') r' t'
/-- f(.., k = v, ..) -/
def DK (X : Cx) (E : XK) (kws : List Keyword) (T : DTA) : Prop := ∃ t, PK X kws t ∧ SmA E t T
theorem dk_nil : DK X E [] xNil := ⟨_, pk_nil, fun c σ H S env R Rx x k t Q q => q [] H S [] k (Same.refl S) repL_nil t⟩
theorem dk_cons {nm : Option Str} {kpos : Pos} {Ta : DT} (ha : DE X E e Ta) (hl : DK X E kws Tk) : DK X E (⟨nm, e, kpos⟩ :: kws) (xCons Ta Tk) := by
  obtain ⟨ta, p, s⟩ := ha
  obtain ⟨t, p2, s2⟩ := hl
  exact ⟨_, pk_cons p p2, smA_cons s s2⟩
def xCallK (F : Spec) (g : List D → List D → List D) (Tl Tk : DTA) : DT := fun env R Rx => Tl env (fun xs => Tk env (fun zs => F (g xs zs) R Rx) Rx) Rx
end
/-- the names at the entry -/
def startE (N : List Str) (ds : List D) : En := ds.map (fun d => some (.val d)) ++ List.replicate (N.length - ds.length) none
theorem kn_start {c : Fm} {N : List Str} {ds : List D} {vs : List V} {H S : Hp} (k : Kf c H S) (l : RepL c.B S ds vs) : Kn c (L2.start N vs) H S (startE N ds) := by
  have hl := l.length
  refine ⟨k, by unfold startE L2.start; simp [hl], fun i x e => ?_, fun i j x y v u a _ e _ _ _ f _ => ?_⟩
  · unfold startE at e
    unfold L2.start
    by_cases hi : i < ds.length
    · rw [List.getElem?_append_left (by simpa using hi), List.getElem?_map] at e
      cases ed : ds[i]? with
      | none => rw [ed] at e; cases e
      | some d =>
        rw [ed] at e
        cases e
        obtain ⟨v, ev, r⟩ := l.get ed
        exact ⟨v, by rw [List.getElem?_append_left (by simp; omega), List.getElem?_map, ev]; rfl, r⟩
    · rw [List.getElem?_append_right (by simpa using hi), List.getElem?_replicate] at e
      split at e <;> cases e
  · unfold startE at e
    by_cases hi : i < ds.length
    · rw [List.getElem?_append_left (by simpa using hi), List.getElem?_map] at e
      cases ed : ds[i]? with
      | none => rw [ed] at e; cases e
      | some d =>
        rw [ed] at e
        cases e
        exact f
    · rw [List.getElem?_append_right (by simpa using hi), List.getElem?_replicate] at e
      split at e <;> cases e
section
variable {P : Program} {w : World} {K : PySem.W.Frag} {mg : Str → Option Value} {base : Heap} {x qual : Str} {st : Stmt} {dvs : List V} {kws : List (Str × V)} {f : Addr} {fd : FuncData} {N ps : List Str} {k : Nat} {F : Spec}
abbrev FnS (K : PySem.W.Frag) (x qual : Str) (st : Stmt) (dvs : List V) (kws : List (Str × V)) (f : Addr) (fd : FuncData) : Prop := FunD K x qual (defArgs st) (defBody st) (defScope st) dvs kws f fd
/-- THE RULE for a def: its body told by T, and what T says -/
theorem fn_d {T : DTS} (Fd : FnS K x qual st dvs kws f fd) (S : FnScope N ps (defScope st)) (len : ∀ ds R Rx, F ds R Rx → ds.length = ps.length)
    (hbody : ∀ (cdv : Value) (A : Around) (outer : List Env) (s : Shared) (H : Hp) (E : XK), Room k (A.deeper (PyProof.Rows.envOfC qual (defScope st) s.heap.objs.size f cdv)) →
      DSs (cxOf (L2.CX P w) P w K mg base N qual (defScope st) f cdv A outer s H E) E (defBody st) T)
    (hT : ∀ ds R Rx, F ds R Rx → T { nx := fun _ => R .non, rt := fun _ => R, ex := Rx } (startE N ds)) : FnOk P w K mg base (L2.CX P w) (k + 1) f fd ps (spD F) := by
  refine FunD.ok Fd S (fun vs H Q E ⟨c, S, ds, R, Rx, _, _, _, l, h, _⟩ => by rw [l.length]; exact len _ _ _ h) fun cdv A outer s H vs Q E hr hsp => ?_
  obtain ⟨c, Sh, ds, R, Rx, h0, hs0, kf, l, h, q, xo⟩ := hsp
  obtain ⟨t, p, sm⟩ := hbody cdv A outer s H E hr
  refine ⟨t, p, sm c _ H Sh _ _ xo (kn_start kf l) (hT ds R Rx h) _ ⟨fun σ H1 S1 env k1 s1 r1 => ?_, fun n v H1 S1 d k1 s1 r1 t1 => by
    obtain ⟨S2, k2, _, r2⟩ := r1.old k1
    exact q v H1 S2 d k2 r2 t1, fun σ H1 S1 env k1 s1 r1 => r1, fun σ H1 S1 env k1 s1 r1 => r1⟩⟩
  exact q .non H1 S1 .non k1.kf rfl r1
end
end DL
namespace DL
open PySem PySem.Spec L2
variable [TbC]
theorem pass_d {P : Program} {w : World} {K : PySem.W.Frag} {mg : Str → Option Value} {base : Heap} {N : List Str} {qual : Str} {scope : Scope} {f : Addr} {cd : Value} {A : Around} {outer : List Env} {s : Shared} {H : Hp} {E : XK} :
    Passes (L2.CX P w) (cxOf (L2.CX P w) P w K mg base N qual scope f cd A outer s H E) E := passes_call (takes_of rfl rfl rfl rfl) fun _ _ _ _ h => h
/-- a def of the module's top without defaults -/
structure Df (K : PySem.W.Frag) (mg : Str → Option Value) (x : Str) (st : Stmt) where
  f : Addr
  fd : FuncData
  F : FnS K x x st [] [] f fd
  g : mg x = some (.ref f)
section
variable {R : D → Prop} {i j : Int} {b : Bool} {s t : Str} {xs ys : List D} {x y d : D} {env : En} {Rx : Er → Prop}
theorem opAdd_int : opAdd (.int i) (.int j) R = R (.int (i + j)) := rfl
theorem opAdd_str : opAdd (.str s) (.str t) R = (s.length + t.length ≤ sizeLine ∧ R (.str (s ++ t))) := rfl
theorem opAdd_lst : opAdd (.lst xs) (.lst ys) R = (xs.length + ys.length ≤ sizeLine ∧ R (.lst (xs ++ ys))) := rfl
theorem opAdd_tup : opAdd (.tup xs) (.tup ys) R = (xs.length + ys.length ≤ sizeLine ∧ R (.tup (xs ++ ys))) := rfl
theorem opSub_int : opSub (.int i) (.int j) R = R (.int (i - j)) := rfl
theorem opMul_int : opMul (.int i) (.int j) R = (MulOk i j ∧ R (.int (i * j))) := rfl
theorem opMul_lst : opMul (.lst xs) (.int j) R = (-(2 ^ 63) ≤ j ∧ j < 2 ^ 63 ∧ xs.length * j.toNat ≤ sizeLine ∧ R (.lst (List.replicate j.toNat xs).flatten)) := rfl
theorem opMul_str : opMul (.str s) (.int j) R = (-(2 ^ 63) ≤ j ∧ j < 2 ^ 63 ∧ s.length * j.toNat ≤ sizeLine ∧ R (.str (mulS s j.toNat))) := rfl
theorem opFdiv_int : opFdiv (.int i) (.int j) R = (DivOk j ∧ R (.int (i.fdiv j))) := rfl
theorem opMod_int : opMod (.int i) (.int j) R = (j ≠ 0 ∧ R (.int (i.fmod j))) := rfl
theorem opPow_int : opPow (.int i) (.int j) R = ((0 ≤ j ∧ j ≤ 1000000 ∧ i.natAbs < 2 ^ 64) ∧ R (.int (i ^ j.toNat))) := rfl
theorem opNeg_int : opNeg (.int i) R = R (.int (-i)) := rfl
theorem opLt_int : opLt (.int i) (.int j) R = R (.bl (decide (i < j))) := rfl
theorem opLe_int : opLe (.int i) (.int j) R = R (.bl (decide (i ≤ j))) := rfl
theorem opGt_int : opGt (.int i) (.int j) R = R (.bl (decide (j < i))) := rfl
theorem opGe_int : opGe (.int i) (.int j) R = R (.bl (decide (j ≤ i))) := rfl
theorem opIx_lst : opIx (.lst xs) (.int i) R = ∃ d, atI xs i = some d ∧ R d := rfl
theorem opIx_tup : opIx (.tup xs) (.int i) R = ∃ d, atI xs i = some d ∧ R d := rfl
theorem opIx_str : opIx (.str s) (.int i) R = (s.length ≤ sizeLine ∧ ∃ c, atI s.cps.toList i = some c ∧ R (.str ⟨#[c]⟩)) := rfl
theorem opSl_lst {lo hi : Option Int} : opSl (.lst xs) lo hi R = R (.lst (cutD xs lo hi)) := rfl
theorem opSl_tup {lo hi : Option Int} : opSl (.tup xs) lo hi R = R (.tup (cutD xs lo hi)) := rfl
theorem opSl_str {lo hi : Option Int} : opSl (.str s) lo hi R = (s.length ≤ sizeLine ∧ R (.str (cutS s lo hi))) := rfl
theorem asB_bl {Q : Bool → Prop} : asB Q (.bl b) = Q b := rfl
theorem asI_int {Q : Int → Prop} : asI Q (.int i) = Q i := rfl
theorem asL_lst {Q : List D → Prop} : asL Q (.lst xs) = Q xs := rfl
theorem asLT_lst {Q : List D → Prop} : asLT Q (.lst xs) = Q xs := rfl
theorem asLT_tup {Q : List D → Prop} : asLT Q (.tup xs) = Q xs := rfl
theorem fLen_lst : fLen [.lst xs] R = R (.int (xs.length : Nat)) := rfl
theorem fLen_tup : fLen [.tup xs] R = R (.int (xs.length : Nat)) := rfl
theorem fLen_str : fLen [.str s] R = (s.length ≤ sizeLine ∧ R (.int (s.length : Nat))) := rfl
theorem fInt_int : fInt [.int i] R = R (.int i) := rfl
theorem fInt_bl : fInt [.bl b] R = R (.int (if b then 1 else 0)) := rfl
theorem fAbs_int : fAbs [.int i] R = R (.int (if i < 0 then -i else i)) := rfl
theorem fMin2_int : fMin2 [.int i, .int j] R = R (.int (if j < i then j else i)) := rfl
theorem fMax2_int : fMax2 [.int i, .int j] R = R (.int (if j > i then j else i)) := rfl
theorem fSum_lst : fSum [.lst xs] R = ∃ ns, asInts xs = some ns ∧ R (.int ns.sum) := rfl
theorem fAny_lst : fAny [.lst xs] R = ∃ ns, asBls xs = some ns ∧ R (.bl (ns.any _root_.id)) := rfl
theorem fAll_lst : fAll [.lst xs] R = ∃ ns, asBls xs = some ns ∧ R (.bl (ns.all _root_.id)) := rfl
theorem fTuple_lst : fTuple [.lst xs] R = R (.tup xs) := rfl
theorem fTuple_tup : fTuple [.tup xs] R = R (.tup xs) := rfl
/-- isinstance of built-in types, answered -/
theorem fIsi_1 {n : String} {bb : Bool} (h : n ∈ tys) (e : x.isi n = some bb) : fIsi [x, .ty n] R = R (.bl bb) := by
  refine propext ⟨fun t => ?_, fun t => ⟨h, bb, e, t⟩⟩
  obtain ⟨_, b2, e2, t⟩ := t
  rw [e] at e2
  cases e2
  exact t
theorem fIsi_2 {n m : String} {bb bc : Bool} (h : n ∈ tys) (h2 : m ∈ tys) (e : x.isi n = some bb) (e2 : x.isi m = some bc) : fIsi [x, .tup [.ty n, .ty m]] R = R (.bl (bb || bc)) := by
  refine propext ⟨fun t => ?_, fun t => ⟨h, h2, bb, bc, e, e2, t⟩⟩
  obtain ⟨_, _, b2, b3, e3, e4, t⟩ := t
  rw [e] at e3
  rw [e2] at e4
  cases e3
  cases e4
  exact t
theorem xVar_at {n : Nat} (h : env[n]? = some (some (.val d))) : xVar n env R Rx = R d := by
  refine propext ⟨fun ⟨d', e, t⟩ => ?_, fun t => ⟨d, h, t⟩⟩
  rw [h] at e
  cases e
  exact t
theorem xVar_0 {l : En} : xVar 0 (some (.val d) :: l) R Rx = R d := xVar_at rfl
theorem xVar_s {n : Nat} {o : Option DV} {l : En} : xVar (n + 1) (o :: l) R Rx = xVar n l R Rx := rfl
theorem put_0 {o : Option DV} {l : En} : put 0 d (o :: l) = some (.val d) :: l := rfl
theorem put_s {n : Nat} {o : Option DV} {l : En} : put (n + 1) d (o :: l) = o :: put n d l := rfl
theorem putO_0 {o : Option DV} {l : En} : putO' 0 xs (o :: l) = some (.own xs) :: l := rfl
theorem putO_s {n : Nat} {o : Option DV} {l : En} : putO' (n + 1) xs (o :: l) = o :: putO' n xs l := rfl
end
section
variable {R : D → Prop} {i : Int} {b : Bool} {s : Str} {xs : List D}
theorem isi_non_int : fIsi [.non, .ty "int"] R = R (.bl false) := fIsi_1 (by decide) rfl
theorem isi_non_bool : fIsi [.non, .ty "bool"] R = R (.bl false) := fIsi_1 (by decide) rfl
theorem isi_non_str : fIsi [.non, .ty "str"] R = R (.bl false) := fIsi_1 (by decide) rfl
theorem isi_non_list : fIsi [.non, .ty "list"] R = R (.bl false) := fIsi_1 (by decide) rfl
theorem isi_non_tuple : fIsi [.non, .ty "tuple"] R = R (.bl false) := fIsi_1 (by decide) rfl
theorem isi_non_lt : fIsi [.non, .tup [.ty "list", .ty "tuple"]] R = R (.bl false) := fIsi_2 (bb := false) (bc := false) (n := "list") (m := "tuple") (by decide) (by decide) rfl rfl
theorem isi_bl_int : fIsi [(.bl b), .ty "int"] R = R (.bl true) := fIsi_1 (by decide) rfl
theorem isi_bl_bool : fIsi [(.bl b), .ty "bool"] R = R (.bl true) := fIsi_1 (by decide) rfl
theorem isi_bl_str : fIsi [(.bl b), .ty "str"] R = R (.bl false) := fIsi_1 (by decide) rfl
theorem isi_bl_list : fIsi [(.bl b), .ty "list"] R = R (.bl false) := fIsi_1 (by decide) rfl
theorem isi_bl_tuple : fIsi [(.bl b), .ty "tuple"] R = R (.bl false) := fIsi_1 (by decide) rfl
theorem isi_bl_lt : fIsi [(.bl b), .tup [.ty "list", .ty "tuple"]] R = R (.bl false) := fIsi_2 (bb := false) (bc := false) (n := "list") (m := "tuple") (by decide) (by decide) rfl rfl
theorem isi_int_int : fIsi [(.int i), .ty "int"] R = R (.bl true) := fIsi_1 (by decide) rfl
theorem isi_int_bool : fIsi [(.int i), .ty "bool"] R = R (.bl false) := fIsi_1 (by decide) rfl
theorem isi_int_str : fIsi [(.int i), .ty "str"] R = R (.bl false) := fIsi_1 (by decide) rfl
theorem isi_int_list : fIsi [(.int i), .ty "list"] R = R (.bl false) := fIsi_1 (by decide) rfl
theorem isi_int_tuple : fIsi [(.int i), .ty "tuple"] R = R (.bl false) := fIsi_1 (by decide) rfl
theorem isi_int_lt : fIsi [(.int i), .tup [.ty "list", .ty "tuple"]] R = R (.bl false) := fIsi_2 (bb := false) (bc := false) (n := "list") (m := "tuple") (by decide) (by decide) rfl rfl
theorem isi_str_int : fIsi [(.str s), .ty "int"] R = R (.bl false) := fIsi_1 (by decide) rfl
theorem isi_str_bool : fIsi [(.str s), .ty "bool"] R = R (.bl false) := fIsi_1 (by decide) rfl
theorem isi_str_str : fIsi [(.str s), .ty "str"] R = R (.bl true) := fIsi_1 (by decide) rfl
theorem isi_str_list : fIsi [(.str s), .ty "list"] R = R (.bl false) := fIsi_1 (by decide) rfl
theorem isi_str_tuple : fIsi [(.str s), .ty "tuple"] R = R (.bl false) := fIsi_1 (by decide) rfl
theorem isi_str_lt : fIsi [(.str s), .tup [.ty "list", .ty "tuple"]] R = R (.bl false) := fIsi_2 (bb := false) (bc := false) (n := "list") (m := "tuple") (by decide) (by decide) rfl rfl
theorem isi_lst_int : fIsi [(.lst xs), .ty "int"] R = R (.bl false) := fIsi_1 (by decide) rfl
theorem isi_lst_bool : fIsi [(.lst xs), .ty "bool"] R = R (.bl false) := fIsi_1 (by decide) rfl
theorem isi_lst_str : fIsi [(.lst xs), .ty "str"] R = R (.bl false) := fIsi_1 (by decide) rfl
theorem isi_lst_list : fIsi [(.lst xs), .ty "list"] R = R (.bl true) := fIsi_1 (by decide) rfl
theorem isi_lst_tuple : fIsi [(.lst xs), .ty "tuple"] R = R (.bl false) := fIsi_1 (by decide) rfl
theorem isi_lst_lt : fIsi [(.lst xs), .tup [.ty "list", .ty "tuple"]] R = R (.bl true) := fIsi_2 (bb := true) (bc := false) (n := "list") (m := "tuple") (by decide) (by decide) rfl rfl
theorem isi_tup_int : fIsi [(.tup xs), .ty "int"] R = R (.bl false) := fIsi_1 (by decide) rfl
theorem isi_tup_bool : fIsi [(.tup xs), .ty "bool"] R = R (.bl false) := fIsi_1 (by decide) rfl
theorem isi_tup_str : fIsi [(.tup xs), .ty "str"] R = R (.bl false) := fIsi_1 (by decide) rfl
theorem isi_tup_list : fIsi [(.tup xs), .ty "list"] R = R (.bl false) := fIsi_1 (by decide) rfl
theorem isi_tup_tuple : fIsi [(.tup xs), .ty "tuple"] R = R (.bl true) := fIsi_1 (by decide) rfl
theorem isi_tup_lt : fIsi [(.tup xs), .tup [.ty "list", .ty "tuple"]] R = R (.bl true) := fIsi_2 (bb := false) (bc := true) (n := "list") (m := "tuple") (by decide) (by decide) rfl rfl
end
/-- data of at most n levels, each list within bounds -/
def Good : Nat → D → Prop
  | n + 1, .lst xs => xs.length ≤ 100000 ∧ ∀ x ∈ xs, Good n x
  | n + 1, .tup xs => xs.length ≤ 100000 ∧ ∀ x ∈ xs, Good n x
  | _ + 1, .non => True
  | _ + 1, .bl _ => True
  | _ + 1, .int _ => True
  | _ + 1, .str _ => True
  | _, _ => False
theorem datL_of {xs : List D} (h : ∀ x ∈ xs, x.dat = true) : datL xs = true := by
  induction xs with
  | nil => rfl
  | cons x xs ih =>
    show (x.dat && datL xs) = true
    rw [h x (List.mem_cons_self ..), ih fun y hy => h y (List.mem_cons_of_mem _ hy)]
    rfl
theorem depL_of {n : Nat} {xs : List D} (h : ∀ x ∈ xs, x.dep ≤ n) : depL xs ≤ n := by
  induction xs with
  | nil => exact Nat.zero_le _
  | cons x xs ih =>
    show max x.dep (depL xs) ≤ n
    have h1 := h x (List.mem_cons_self ..)
    have h2 := ih fun y hy => h y (List.mem_cons_of_mem _ hy)
    omega
theorem good_dat : ∀ {n : Nat} {d : D}, Good n d → d.dat = true ∧ d.dep ≤ n
  | 0, d, h => by cases d <;> exact (show False from h).elim
  | n + 1, d, h => by
    cases d <;> first
      | exact (show False from h).elim
      | exact ⟨rfl, by simp [D.dep]⟩
      | exact ⟨datL_of fun x hx => (good_dat (h.2 x hx)).1, by
          have : depL _ ≤ n := depL_of fun x hx => (good_dat (h.2 x hx)).2
          simp only [D.dep]
          omega⟩
theorem good_non {n : Nat} : Good (n + 1) .non = True := rfl
theorem good_bl {n : Nat} {b : Bool} : Good (n + 1) (.bl b) = True := rfl
theorem good_int {n : Nat} {i : Int} : Good (n + 1) (.int i) = True := rfl
theorem good_str {n : Nat} {s : Str} : Good (n + 1) (.str s) = True := rfl
/-- the words of comprehensions -/
def LcP (xs : List D) (G : DG) (Tt : DTT) (Te : DT) (vs : List Nat) (env : En) (R : List D → Prop) : Prop := ∃ I : Nat → List D → Prop, I 0 [] ∧
  (∀ i d acc, xs[i]? = some d → I i acc → G d (inner vs env) fun env' => Tt env' (fun b => (b = true → Te env' (fun y => acc.length < sizeLine ∧ I (i + 1) (acc ++ [y])) noX) ∧ (b = false → I (i + 1) acc)) noX) ∧
  ∀ acc, I xs.length acc → R acc
theorem xLcF_is {Ti : DTI} {G : DG} {Tt : DTT} {Te : DT} {vs : List Nat} {env : En} {R : List D → Prop} {Rx : Er → Prop} : xLcF Ti G Tt Te vs env R Rx = Ti env (fun xs => LcP xs G Tt Te vs env R) Rx := rfl
theorem take_succ_map {α β : Type} {xs : List α} {i : Nat} {d : α} (f : α → β) (e : xs[i]? = some d) : (xs.take (i + 1)).map f = (xs.take i).map f ++ [f d] := by
  rw [List.take_succ, e]
  simp
theorem LcP.map {xs : List D} {G : DG} {Te : DT} {vs : List Nat} {env : En} {R : List D → Prop} (f : D → D) (hz : xs.length ≤ sizeLine) (h : ∀ (i : Nat) (d : D) (N : D → Prop), xs[i]? = some d → N (f d) → G d (inner vs env) fun env' => Te env' N noX) (k : R (xs.map f)) :
    LcP xs G xYes Te vs env R := by
  refine ⟨fun i acc => acc = (xs.take i).map f, by simp, fun i d acc e hI => ?_, fun acc hI => by rw [hI, List.take_length]; exact k⟩
  have hi := (List.getElem?_eq_some_iff.mp e).1
  have key := h i d (fun y => acc.length < sizeLine ∧ acc ++ [y] = (xs.take (i + 1)).map f) e ⟨by rw [hI, List.length_map, List.length_take]; omega, by rw [hI, take_succ_map f e]⟩
  have e1 : (fun env' => xYes env' (fun b => (b = true → Te env' (fun y => acc.length < sizeLine ∧ acc ++ [y] = (xs.take (i + 1)).map f) noX) ∧ (b = false → acc = (xs.take (i + 1)).map f)) noX) = fun env' => Te env' (fun y => acc.length < sizeLine ∧ acc ++ [y] = (xs.take (i + 1)).map f) noX := by
    funext env'
    refine propext ⟨fun t => t.1 rfl, fun t => ⟨fun _ => t, fun z => nomatch z⟩⟩
  rw [e1]
  exact key
theorem LcP.filter {xs : List D} {G : DG} {Tt : DTT} {Te : DT} {vs : List Nat} {env : En} {R : List D → Prop} (p : D → Bool) (f : D → D) (hz : xs.length ≤ sizeLine)
    (h : ∀ (i : Nat) (d : D) (N : D → Prop) (M : Prop), xs[i]? = some d → (p d = true → N (f d)) → (p d = false → M) → G d (inner vs env) fun env' => Tt env' (fun b => (b = true → Te env' N noX) ∧ (b = false → M)) noX) (k : R ((xs.filter p).map f)) : LcP xs G Tt Te vs env R := by
  refine ⟨fun i acc => acc = ((xs.take i).filter p).map f, by simp, fun i d acc e hI => ?_, fun acc hI => by rw [hI, List.take_length]; exact k⟩
  have hi := (List.getElem?_eq_some_iff.mp e).1
  have e2 : xs.take (i + 1) = xs.take i ++ [d] := by rw [List.take_succ, e]; rfl
  refine h i d _ _ e (fun hp => ⟨?_, ?_⟩) fun hp => ?_
  · rw [hI, List.length_map]
    have := List.length_filter_le p (xs.take i)
    rw [List.length_take] at this
    omega
  · show acc ++ [f d] = ((xs.take (i + 1)).filter p).map f
    rw [hI, e2, List.filter_append]
    simp [hp]
  · show acc = ((xs.take (i + 1)).filter p).map f
    rw [hI, e2, List.filter_append]
    simp [hp]
/-- the items are not told, but what is true of them -/
theorem LcP.all {xs : List D} {G : DG} {Te : DT} {vs : List Nat} {env : En} {R : List D → Prop} (Pd : D → Prop) (hz : xs.length ≤ sizeLine) (h : ∀ (i : Nat) (d : D) (N : D → Prop), xs[i]? = some d → (∀ y, Pd y → N y) → G d (inner vs env) fun env' => Te env' N noX)
    (k : ∀ acc : List D, acc.length = xs.length → (∀ y ∈ acc, Pd y) → R acc) : LcP xs G xYes Te vs env R := by
  refine ⟨fun i acc => acc.length = i ∧ ∀ y ∈ acc, Pd y, ⟨rfl, fun y hy => nomatch hy⟩, fun i d acc e ⟨h1, h2⟩ => ?_, fun acc ⟨h1, h2⟩ => k acc h1 h2⟩
  have hi := (List.getElem?_eq_some_iff.mp e).1
  have key := h i d (fun y => acc.length < sizeLine ∧ (acc ++ [y]).length = i + 1 ∧ ∀ z ∈ acc ++ [y], Pd z) e fun y hy => ⟨by omega, by simp [h1], fun z hz => by
    rcases List.mem_append.mp hz with q | q
    · exact h2 z q
    · rw [List.mem_singleton.mp q]; exact hy⟩
  have e1 : (fun env' => xYes env' (fun b => (b = true → Te env' (fun y => acc.length < sizeLine ∧ (acc ++ [y]).length = i + 1 ∧ ∀ z ∈ acc ++ [y], Pd z) noX) ∧ (b = false → acc.length = i + 1 ∧ ∀ y ∈ acc, Pd y)) noX) = fun env' => Te env' (fun y => acc.length < sizeLine ∧ (acc ++ [y]).length = i + 1 ∧ ∀ z ∈ acc ++ [y], Pd z) noX := by
    funext env'
    refine propext ⟨fun t => t.1 rfl, fun t => ⟨fun _ => t, fun z => nomatch z⟩⟩
  rw [e1]
  exact key
theorem ints_of {P : Int → Prop} : ∀ {acc : List D}, (∀ y ∈ acc, ∃ n, y = .int n ∧ P n) → ∃ ns : List Int, acc = ns.map D.int ∧ ∀ n ∈ ns, P n
  | [], _ => ⟨[], rfl, fun n h => nomatch h⟩
  | y :: acc, h => by
    obtain ⟨n, rfl, hp⟩ := h y (List.mem_cons_self ..)
    obtain ⟨ns, rfl, hn⟩ := ints_of (acc := acc) fun z hz => h z (List.mem_cons_of_mem _ hz)
    exact ⟨n :: ns, rfl, fun m hm => by
      rcases List.mem_cons.mp hm with e | e
      · rw [e]; exact hp
      · exact hn m e⟩
/-- a word for a loop -/
theorem sm_ofF {E : XK} {t : TE} {T : DTF} (s : SmF E t T) : Sm E t (xF T) := fun c σ H S env R Rx x k t Q q => s c σ H S env _ Rx x k t Q fun p vs H1 S1 ds k1 s1 n0 f n2 e1 l1 r1 => by
  obtain ⟨k2, s2, r2⟩ := k1.freeze n2 n0 e1 l1 f
  exact q _ H1 _ _ k2 (s1.trans s2) r2 r1
end DL
namespace DL
open PySem PySem.Spec L2
variable [TbC]
def gPerm (n m : Nat) (idx : List Nat) {α : Type} (us ws : List α) : List α := if us.length = n ∧ ws.length = m then idx.filterMap (fun i => (us ++ ws)[i]?) else []
theorem vals_pick {vs : List V} {us : List Value} (r : Vals vs us) : ∀ idx : List Nat, Vals (idx.filterMap fun i => vs[i]?) (idx.filterMap fun i => us[i]?)
  | [] => .nil
  | i :: idx => by
    cases e : vs[i]? with
    | none =>
      have e2 := Vals.none_of r e
      rw [List.filterMap_cons, List.filterMap_cons, e, e2]
      exact vals_pick r idx
    | some v =>
      obtain ⟨u, e2, q⟩ := Vals.get r e
      rw [List.filterMap_cons, List.filterMap_cons, e, e2]
      exact .cons q (vals_pick r idx)
theorem rep_pick {B : Option Addr} {S : Hp} {ds : List D} {vs : List V} (r : RepL B S ds vs) : ∀ idx : List Nat, RepL B S (idx.filterMap fun i => ds[i]?) (idx.filterMap fun i => vs[i]?)
  | [] => repL_nil
  | i :: idx => by
    cases e : ds[i]? with
    | none =>
      have hl := r.length
      have e2 : vs[i]? = none := by
        rw [List.getElem?_eq_none_iff] at e ⊢
        omega
      rw [List.filterMap_cons, List.filterMap_cons, e, e2]
      exact rep_pick r idx
    | some v =>
      obtain ⟨u, e2, q⟩ := RepL.get r e
      rw [List.filterMap_cons, List.filterMap_cons, e, e2]
      exact repL_cons q (rep_pick r idx)
end DL
namespace DL
open PySem PySem.Spec L2
variable [TbC]
def D.flat : D → Bool
  | .non | .bl _ | .int _ | .str _ | .ty _ => true
  | _ => false
def flatL (ds : List D) : Bool := ds.all D.flat
theorem flat_rep {B : Option Addr} {S S' : Hp} {d : D} {v : V} (h : d.flat = true) (r : Rep B S d v) : Rep B S' d v := by
  cases d <;> first | exact (Bool.false_ne_true h).elim | exact r
theorem flatL_rep {B : Option Addr} {S S' : Hp} : ∀ {ds : List D} {vs : List V}, flatL ds = true → RepL B S ds vs → RepL B S' ds vs
  | [], _, _, r => r
  | d :: ds, _, h, r => by
    obtain ⟨v, ws, rfl, r1, l⟩ := repL_cons_of r
    have h : (d.flat && flatL ds) = true := h
    rw [Bool.and_eq_true] at h
    exact repL_cons (flat_rep h.1 r1) (flatL_rep h.2 l)
theorem flatL_nil : flatL [] = true := rfl
theorem flatL_cons {d : D} {ds : List D} : flatL (d :: ds) = (d.flat && flatL ds) := rfl
theorem flatL_app {xs ys : List D} : flatL (xs ++ ys) = (flatL xs && flatL ys) := List.all_append
theorem flatL_of {ds : List D} (h : ∀ d ∈ ds, d.flat = true) : flatL ds = true := List.all_eq_true.mpr h
theorem flatL_map {α : Type} {f : α → D} {xs : List α} (h : ∀ x, (f x).flat = true) : flatL (xs.map f) = true := flatL_of fun d hd => by
  obtain ⟨x, _, rfl⟩ := List.mem_map.mp hd
  exact h x
/-- N: parts of H that are not of S, not of the frame's past, no name's own -/
def Reg (c : Fm) (σ : St) (env : En) (H S N : Hp) : Prop := ∀ a o, N a = some o → H a = some o ∧ S a = none ∧ c.H0 a = none ∧ Free σ env a
def uni (S N : Hp) : Hp := fun a => match S a with
  | some o => some o
  | none => N a
theorem uni_l {S N : Hp} : Same S (uni S N) := fun a o e => by unfold uni; rw [e]
theorem uni_r {c : Fm} {σ : St} {env : En} {H S N : Hp} (g : Reg c σ env H S N) : Same N (uni S N) := fun a o e => by
  unfold uni
  rw [(g a o e).2.1]
  exact e
theorem uni_of {S N : Hp} {a : Addr} {o : HO} (e : uni S N a = some o) : S a = some o ∨ (S a = none ∧ N a = some o) := by
  unfold uni at e
  split at e
  · exact .inl (by rw [← e]; assumption)
  · exact .inr ⟨by assumption, e⟩
section
variable {c : Fm} {σ : St} {H H' S S' N : Hp} {env : En} {p : Addr} {vs : List V} {ds : List D}
theorem Kn.uni (k : Kn c σ H S env) (g : Reg c σ env H S N) : Kn c σ H (uni S N) env := by
  have hs : ∀ a, S a = none → N a = none → DL.uni S N a = none := fun a e e2 => by unfold DL.uni; rw [e]; exact e2
  refine ⟨⟨fun a o e => ?_, k.kf.s0.trans uni_l, k.kf.old, fun a e n => ?_, fun b eb => ?_, ⟨fun p hp => ⟨(k.kf.tab.1 p hp).1, hs _ (k.kf.tab.1 p hp).2 (by
    cases en : N p.1 with
    | none => rfl
    | some o => exact absurd (g _ o en).2.2.1 (k.kf.tab.2 p hp))⟩, k.kf.tab.2⟩⟩, k.len, fun j x e => ?_, k.apart⟩
  · rcases uni_of e with e | ⟨_, e⟩
    · exact k.kf.sub a o e
    · exact (g a o e).1
  · refine hs a (k.kf.new a e n) ?_
    cases en : N a with
    | none => rfl
    | some o => exact absurd (g a o en).2.2.1 n.1
  · obtain ⟨⟨b1, cs, i, gg, st, n, b2, b3, b4⟩, b5⟩ := k.kf.bag b eb
    refine ⟨⟨hs b b1 ?_, cs, i, gg, st, n, b2, uni_l _ _ b3, b4⟩, b5⟩
    cases en : N b with
    | none => rfl
    | some o => exact absurd (g b o en).2.2.1 b5
  · obtain ⟨v, ev, r⟩ := k.sl j x e
    refine ⟨v, ev, r.keep rfl uni_l fun a fa => ?_⟩
    obtain ⟨f1, f2, _⟩ := r.foot a fa
    refine ⟨hs a f1 ?_, f2, fun _ e => e⟩
    cases en : N a with
    | none => rfl
    | some o => exact absurd fa ((g a o en).2.2.2 j x v e ev)
theorem Reg.nil : Reg c σ env H S (fun _ => none) := fun a o e => nomatch e
theorem Reg.new {c : Fm} (g : Reg c σ env H S N) : Same N (newH c.H0 (DL.uni S N)) := fun a o e => by
  rw [newH_of (g a o e).2.2.1]
  exact uni_r g a o e
end
/-- an expression whose value is made of new parts -/
def SmN (E : XK) (t : TE) (T : DT) : Prop := ∀ (c : Fm) (σ : St) (H S : Hp) (env : En) (R : D → Prop) (Rx : Er → Prop), XOk c E Rx → Kn c σ H S env → T env R Rx →
  ∀ Q : VK, (∀ v H' S' N d, Kn c σ H' S' env → Same S S' → Reg c σ env H' S' N → Rep c.B N d v → R d → Q v H') → t σ H Q
def DN (X : Cx) (E : XK) (e : Expr) (T : DT) : Prop := ∃ t, PE X e t ∧ SmN E t T
section
variable {X : Cx} {E : XK} {e a b : Expr} {es : List Expr} {T Ta Tb : DT} {TF : DTF} {Tl : DTA} {p pos : Pos}
theorem sm_ofN {t : TE} (s : SmN E t T) : Sm E t T := fun c σ H S env R Rx x k h Q q => s c σ H S env R Rx x k h Q fun v H1 S1 N d k1 s1 g r t1 =>
  q v H1 (uni S1 N) d (k1.uni g) (s1.trans uni_l) (rep_mono (uni_r g) d v r) t1
theorem d_ofN (h : DN X E e T) : DE X E e T := by
  obtain ⟨t, p, s⟩ := h
  exact ⟨t, p, sm_ofN s⟩
/-- .. a list of its own -/
def xNF (T : DT) : DTF := fun env R Rx => T env (fun d => match d with
  | .lst ds => flatL ds = true ∧ R ds
  | _ => False) Rx
/-- a new list of flat data -/
def xFN (T : DTF) : DT := fun env R Rx => T env (fun ds => flatL ds = true ∧ R (.lst ds)) Rx
theorem n_ofF (h : DF X E e TF) : DN X E e (xFN TF) := by
  obtain ⟨t, p, s⟩ := h
  refine ⟨t, p, fun c σ H S env R Rx x k h Q q => s c σ H S env _ Rx x k h Q fun p vs H1 S1 ds k1 s1 n0 f n2 e1 l1 r1 => ?_⟩
  refine q _ H1 S1 (upd (fun _ => none) p (.lst vs)) (.lst ds) k1 s1 (fun a o e => ?_) ⟨p, vs, rfl, upd_same, flatL_rep r1.1 l1⟩ r1.2
  by_cases z : a = p
  · subst z
    rw [upd_same] at e
    cases e
    exact ⟨e1, n2, n0, f⟩
  · rw [upd_ne z] at e
    cases e
/-- flat data -/
def xFl (T : DT) : DT := fun env R Rx => T env (fun d => d.flat = true ∧ R d) Rx
def zRetNew (T : DT) : DTS := fun Q env => T env (Q.rt .nw) Q.ex
theorem s_retNew (h : DN X E e T) : DS X E (.Return (some e) pos) (zRetNew T) := by
  obtain ⟨t, p, s⟩ := h
  exact ⟨_, ps_ret p, fun c σ H S env Q x k t D m => s c σ H S env _ _ x k t _ fun v H1 S1 N d k1 s1 g r t1 => m.2.1 .nw v H1 (uni S1 N) d (k1.uni g).kf (s1.trans uni_l) (rep_mono g.new d v r) t1⟩
def zRetO (i : Nat) : DTS := fun Q env => ∃ xs, env[i]? = some (some (.own xs)) ∧ flatL xs = true ∧ Q.rt .nw (.lst xs)
end
def spN (F : Spec) : Sp := fun vs H Q E => ∃ (c : Fm) (S : Hp) (ds : List D) (R : D → Prop) (Rx : Er → Prop), c.H0 = H ∧ c.S0 = S ∧ Kf c H S ∧ RepL c.B S ds vs ∧ F ds R Rx ∧ (∀ v H' S' d, Kf c H' S' → Rep c.B (newH H S') d v → R d → Q v H') ∧ XOk c E Rx
section
variable {P : Program} {w : World} {K : PySem.W.Frag} {mg : Str → Option Value} {base : Heap} {x qual : Str} {st : Stmt} {dvs : List V} {kws : List (Str × V)} {f : Addr} {fd : FuncData} {N ps : List Str} {k : Nat} {F : Spec} {CX : CXT}
theorem fn_n {T : DTS} (Fd : FnS K x qual st dvs kws f fd) (S : FnScope N ps (defScope st)) (len : ∀ ds R Rx, F ds R Rx → ds.length = ps.length)
    (hbody : ∀ (cdv : Value) (A : Around) (outer : List Env) (s : Shared) (H : Hp) (E : XK), Room k (A.deeper (PyProof.Rows.envOfC qual (defScope st) s.heap.objs.size f cdv)) →
      DSs (cxOf (L2.CX P w) P w K mg base N qual (defScope st) f cdv A outer s H E) E (defBody st) T)
    (hT : ∀ ds R Rx, F ds R Rx → T { nx := fun _ => R .non, rt := fun n d => (n = .nw ∨ d.flat = true) ∧ R d, ex := Rx } (startE N ds)) : FnOk P w K mg base (L2.CX P w) (k + 1) f fd ps (spN F) := by
  refine FunD.ok Fd S (fun vs H Q E ⟨c, S, ds, R, Rx, _, _, _, l, h, _⟩ => by rw [l.length]; exact len _ _ _ h) fun cdv A outer s H vs Q E hr hsp => ?_
  obtain ⟨c, Sh, ds, R, Rx, h0, hs0, kf, l, h, q, xo⟩ := hsp
  obtain ⟨t, p, sm⟩ := hbody cdv A outer s H E hr
  refine ⟨t, p, sm c _ H Sh _ _ xo (kn_start kf l) (hT ds R Rx h) _ ⟨fun σ H1 S1 env k1 s1 r1 => ?_, fun n v H1 S1 d k1 s1 r1 t1 => q v H1 S1 d k1 ?_ t1.2, fun σ H1 S1 env k1 s1 r1 => r1, fun σ H1 S1 env k1 s1 r1 => r1⟩⟩
  · exact q .non H1 S1 .non k1.kf rfl r1
  · cases n with
    | nw => rw [← h0]; exact r1
    | old => exact flat_rep (t1.1.resolve_left (fun z => nomatch z)) (show Rep _ _ d v from r1)
    | tr =>
      obtain ⟨S2, _, _, r2⟩ := r1.old k1
      exact flat_rep (t1.1.resolve_left (fun z => nomatch z)) r2
end
section
variable {X : Cx} {E : XK} {CX : CXT} {k n : Nat} {f : Addr} {fd : FuncData} {ps ks : List Str} {F : Spec} {dvs : List V} {dds : List D} {ds : List Value} {x : Str} {p pos : Pos} {e : Expr} {es : List Expr} {Tl Tk : DTA} {kws : List Keyword}
theorem sp_callN {c : Fm} {σ : St} {H S : Hp} {env : En} {vs : List V} {xs : List D} {R : D → Prop} {Rx : Er → Prop} {Q : VK} (kn : Kn c σ H S env) (x : XOk c E Rx) (l : RepL c.B S xs vs) (t : F xs R Rx)
    (q : ∀ v H' N d, Kn c σ H' S env → Reg c σ env H' S N → Rep c.B N d v → R d → Q v H') : spN F vs H Q E := by
  refine ⟨c.at H S, S, xs, R, Rx, rfl, rfl, kn.kf.at, l, t, fun v H' S' d k' r z => ?_, x.at kn.kf⟩
  have kS : Kf (c.at H S) H' S := ⟨k'.s0.trans k'.sub, Same.refl S, k'.old, fun a e _ => e, fun b eb => by
    obtain ⟨⟨b1, cs, i, g, st, n, b2, b3, b4⟩, b5⟩ := k'.bag b eb
    obtain ⟨⟨d1, cs', _, _, _, _, _, d3, _⟩, _⟩ := kn.kf.bag b eb
    have e3 : cs' = cs := by
      have z := k'.s0 _ _ d3
      have z2 : some (HO.lst (cs'.map V.int)) = some (HO.lst (cs.map V.int)) := z.symm.trans b3
      injection z2 with z2
      injection z2 with z2
      exact List.map_inj_right (fun _ _ h => by injection h) |>.mp z2
    subst e3
    exact ⟨⟨d1, cs', i, g, st, n, b2, d3, b4⟩, b5⟩, ⟨fun p hp => ⟨(k'.tab.1 p hp).1, (kn.kf.tab.1 p hp).2⟩, k'.tab.2⟩⟩
  refine q v H' (newH H S') d (kn.back kS) (fun a o e => ?_) r z
  obtain ⟨e1, e2⟩ := newH_some e
  exact ⟨k'.sub _ _ e2, kn.kf.s_none e1, kn.kf.h0_none e1, kn.free e1⟩
end
section
variable {X : Cx} {E : XK} {e : Expr} {es : List Expr} {Te : DT} {Tl : DTA} {p : Pos}
def xStar (Te : DT) (Tl : DTA) : DTA := fun env R Rx => Te env (asLT fun xs => Tl env (fun ys => R (xs ++ ys)) Rx) Rx
theorem da_star (he : DE X E e Te) (hl : DA X E es Tl) (hs : starEach (.Starred e p :: es) X.env = (true, eval e X.env) :: starEach es X.env := by rfl) : DA X E (.Starred e p :: es) (xStar Te Tl) := by
  obtain ⟨t, p1, s1⟩ := he
  obtain ⟨tl, p2, s2⟩ := hl
  refine ⟨_, StX.pa_star p1 p2 hs, fun c σ H S env R Rx x k t Q q => s1 c σ H S env _ Rx x k t _ fun v H1 S1 d k1 s3 r1 t1 => ?_⟩
  cases d <;> try exact (show False from t1).elim
  · obtain ⟨a, vs, rfl, h1, _, l1⟩ := lst_of k1 r1
    refine ⟨a, vs, rfl, .inr (SqL.of h1), s2 c σ H1 S1 env _ Rx x k1 t1 _ fun us H2 S2 ds k2 s4 l2 t2 => ?_⟩
    exact q _ H2 S2 _ k2 (s3.trans s4) ((repL_mono s4 _ _ l1).app l2) t2
  · obtain ⟨a, vs, rfl, h1, _, l1⟩ := tup_of k1 r1
    refine ⟨a, vs, rfl, .inl (SqT.of h1), s2 c σ H1 S1 env _ Rx x k1 t1 _ fun us H2 S2 ds k2 s4 l2 t2 => ?_⟩
    exact q _ H2 S2 _ k2 (s3.trans s4) ((repL_mono s4 _ _ l1).app l2) t2
end
/-- the places of a slice -/
def pls (n : Nat) (lo hi st : Option Int) : List Nat := PySem.sliceRange (PySem.sliceBounds lo hi st n).1 (PySem.sliceBounds lo hi st n).2.1 (PySem.sliceBounds lo hi st n).2.2
def cut3 (xs : List D) (lo hi st : Option Int) : List D := (pls xs.length lo hi st).filterMap fun i => xs[i]?
section
variable {X : Cx} {E : XK} {e a : Expr} {te : TE} {tl th ts : TO} {lo hi : Option Expr} {st : Expr} {p2 pos : Pos} {Ta : DT} {Tl Th Ts : DTO}
def xSl3 (Ta : DT) (Tl Th Ts : DTO) : DTF := fun env R Rx => Ta env (asL fun xs => Tl env (fun lo => Th env (fun hi => Ts env (fun st => st ≠ some 0 ∧ (pls xs.length lo hi st).length ≤ sizeLine ∧ R (cut3 xs lo hi st)) Rx) Rx) Rx) Rx
end
/-- backwards down to the place m -/
theorem pls_down {n : Nat} {hi : Option Int} {m : Nat} (hm : (PySem.sliceBounds none hi (some (-1)) n).2.1 = (m : Int) - 1) (hle : m ≤ n) : pls n none hi (some (-1)) = (List.range (n - m)).map fun k => n - 1 - k := by
  have b1 : (PySem.sliceBounds none hi (some (-1)) n).1 = (n : Int) - 1 := rfl
  have b3 : (PySem.sliceBounds none hi (some (-1)) n).2.2 = -1 := rfl
  unfold pls PySem.sliceRange
  rw [hm, b1, b3]
  have c1 : ¬ ((-1 : Int) > 0) := by decide
  simp only [c1, if_false]
  by_cases z : m = n
  · subst z
    simp
  · have c2 : (n : Int) - 1 > (m : Int) - 1 := by omega
    have c3 : (((n : Int) - 1 - ((m : Int) - 1) - -1 - 1) / - -1).toNat = n - m := by
      rw [show (- -1 : Int) = 1 by decide, Int.ediv_one]
      omega
    simp only [c2, if_true, c3]
    apply List.map_congr_left
    intro k hk
    have := List.mem_range.mp hk
    omega
theorem cut3_down {xs : List D} {hi : Option Int} {m : Nat} (hm : (PySem.sliceBounds none hi (some (-1)) xs.length).2.1 = (m : Int) - 1) (hle : m ≤ xs.length) : cut3 xs none hi (some (-1)) = (xs.drop m).reverse := by
  unfold cut3
  rw [pls_down hm hle, List.filterMap_map]
  apply List.ext_getElem?
  intro i
  have go : ∀ q : Nat, q ≤ xs.length → ((List.range q).filterMap ((fun i => xs[i]?) ∘ fun k => xs.length - 1 - k)) = (xs.drop (xs.length - q)).reverse := fun q => by
    induction q with
    | zero => intro _; simp
    | succ q ih =>
      intro hq
      rw [List.range_succ, List.filterMap_append, ih (by omega)]
      have hd : xs.drop (xs.length - (q + 1)) = xs[xs.length - (q + 1)] :: xs.drop (xs.length - q) := by
        rw [List.drop_eq_getElem_cons (by omega)]
        congr 2
        omega
      rw [hd, List.reverse_cons]
      congr 1
      have e : xs.length - 1 - q = xs.length - (q + 1) := by omega
      have e2 : ((fun i => xs[i]?) ∘ fun k => xs.length - 1 - k) q = some xs[xs.length - (q + 1)] := by
        show xs[xs.length - 1 - q]? = _
        rw [e]
        exact List.getElem?_eq_getElem (by omega)
      rw [List.filterMap_cons_some e2, List.filterMap_nil]
  rw [go _ (by omega)]
  congr 3
  omega
theorem cut3_rev (xs : List D) : cut3 xs none none (some (-1)) = xs.reverse := cut3_down (m := 0) rfl (Nat.zero_le _)
theorem cut3_rev0 {xs : List D} : cut3 xs none (some 0) (some (-1)) = (xs.drop 1).reverse := by
  by_cases z : xs.length = 0
  · have e : xs = [] := List.length_eq_zero_iff.mp z
    subst e
    rfl
  · refine cut3_down (m := 1) ?_ (by omega)
    show max (-1) (min (if (0 : Int) < 0 then _ else 0) ((xs.length : Int) - 1)) = _
    rw [if_neg (by decide)]
    omega
theorem pls_down_le {n : Nat} {hi : Option Int} {m : Nat} (hm : (PySem.sliceBounds none hi (some (-1)) n).2.1 = (m : Int) - 1) (hle : m ≤ n) : (pls n none hi (some (-1))).length = n - m := by
  rw [pls_down hm hle]
  simp
theorem pls_rev (n : Nat) : (pls n none none (some (-1))).length = n := pls_down_le (m := 0) rfl (Nat.zero_le _)
theorem pls_rev0 (n : Nat) : (pls n none (some 0) (some (-1))).length = n - 1 := by
  by_cases z : n = 0
  · subst z; rfl
  · refine pls_down_le (m := 1) ?_ (by omega)
    show max (-1) (min (if (0 : Int) < 0 then _ else 0) ((n : Int) - 1)) = _
    rw [if_neg (by decide)]
    omega
section
variable {X : Cx} {E : XK} {pos p1 : Pos} {a b : Expr} {T : DTF}
def zParC (i j : Nat) (T : DTF) (d : D) : DTS := fun Q env => T env (fun ds => Q.nx (put j d (putO' i ds env))) Q.ex
def zParV (i j : Nat) (Ta : DT) (T : DTF) : DTS := fun Q env => Ta env (fun d => T env (fun ds => Q.nx (putO' j ds (put i d env))) Q.ex) Q.ex
end
end DL
namespace DL
open PySem PySem.Spec L2
variable [TbC]
def fld : List Str → List D → Str → Option D
  | k :: ks, x :: xs, f => if f = k then some x else fld ks xs f
  | _, _, _ => none
theorem fld_some {B : Option Addr} {S : Hp} {f : Str} : ∀ {ks : List Str} {xs : List D} {vs : List V} {x : D}, RepL B S xs vs → fld ks xs f = some x → ∃ v, (ks.zip vs).lookup f = some v ∧ Rep B S x v
  | [], _, _, _, _, e => nomatch e
  | _ :: _, [], _, _, _, e => nomatch e
  | k :: ks, y :: ys, _, x, l, e => by
    obtain ⟨v, ws, rfl, r, t⟩ := repL_cons_of l
    have e : (if f = k then some y else fld ks ys f) = some x := e
    show ∃ u, List.lookup f ((k, v) :: ks.zip ws) = some u ∧ _
    by_cases z : f = k
    · rw [if_pos z] at e
      cases e
      exact ⟨v, by rw [List.lookup_cons, z]; simp, r⟩
    · rw [if_neg z] at e
      obtain ⟨u, e2, r2⟩ := fld_some t e
      refine ⟨u, ?_, r2⟩
      rw [List.lookup_cons]
      have : (f == k) = false := by simpa using z
      rw [this]
      exact e2
theorem fld_none {B : Option Addr} {S : Hp} {f : Str} : ∀ {ks : List Str} {xs : List D} {vs : List V}, RepL B S xs vs → xs.length = ks.length → fld ks xs f = none → (ks.zip vs).lookup f = none
  | [], _, _, _, _, _ => rfl
  | _ :: _, [], _, _, hl, _ => nomatch hl
  | k :: ks, y :: ys, _, l, hl, e => by
    obtain ⟨v, ws, rfl, r, t⟩ := repL_cons_of l
    have e : (if f = k then some y else fld ks ys f) = none := e
    show List.lookup f ((k, v) :: ks.zip ws) = none
    by_cases z : f = k
    · rw [if_pos z] at e
      cases e
    · rw [if_neg z] at e
      rw [List.lookup_cons]
      have : (f == k) = false := by simpa using z
      rw [this]
      exact fld_none t (by simpa using hl) e
theorem obj_of {c : Fm} {σ : St} {H S : Hp} {env : En} {C : Addr} {ks : List Str} {xs : List D} {v : V} (k : Kn c σ H S env) (r : Rep c.B S (.obj C ks xs) v) : ∃ a dx vs, v = .ref a ∧ H a = some (.ins C dx (ks.zip vs)) ∧ xs.length = ks.length ∧ RepL c.B S xs vs := by
  rw [Rep] at r
  obtain ⟨a, dx, vs, e, q, q2, n, l⟩ := r
  exact ⟨a, dx, vs, e, k.kf.sub _ _ q, n, l⟩
def asO (C : Addr) (R : List Str → List D → Prop) : D → Prop
  | .obj C' ks xs => C' = C ∧ R ks xs
  | _ => False
def xFld (C : Addr) (f : Str) (Te : DT) : DT := fun env R Rx => Te env (asO C fun ks xs => ∃ x, fld ks xs f = some x ∧ R x) Rx
section
variable {X : Cx} {E : XK} {CX : CXT} {k : Nat} {C f : Addr} {fd : FuncData} {ps : List Str} {F : Spec} {m : Str} {o e : Expr} {es : List Expr} {To : DT} {Tl : DTA} {pos apos p : Pos}
theorem d_fld {f : Str} (he : DE X E e To) (c : Cls X.K C) (n : NoAttr X.K C f) (hb : attributeBase e f X.env (eval e X.env) = eval e X.env := by rfl) : DE X E (.Attribute e f pos) (xFld C f To) := by
  obtain ⟨t, p1, s⟩ := he
  refine ⟨_, pe_fld p1 hb, fun c0 σ H S env R Rx x k t Q q => s c0 σ H S env _ Rx x k t _ fun v H1 S1 d k1 s1 r1 t1 => ?_⟩
  cases d <;> try exact (show False from t1).elim
  obtain ⟨rfl, y, e1, t1⟩ := t1
  obtain ⟨a, dx, vs, e2, h1, _, l1⟩ := obj_of k1 r1
  obtain ⟨u, e3, r3⟩ := fld_some l1 e1
  exact ⟨a, _, dx, _, u, e2, h1, c, n, e3, q u H1 S1 y k1 s1 r3 t1⟩
def xMeth (C : Addr) (m : Str) (F : Spec) (To : DT) (Tl : DTA) : DT := fun env R Rx => To env (fun d => asO C (fun ks xs => fld ks xs m = none) d ∧ Tl env (fun ds => F (d :: ds) R Rx) Rx) Rx
theorem d_methN0 {pl : Sem Bool} (he : DE X E o To) (c : Cls X.K C) (hm : Meth X.K C m f) (G : FnOk X.prog X.w X.K X.mg X.base CX k f fd ps (spN F)) (hr : Room k X.A) (hb : Binds X.K fd ps []) (hx : Passes CX X E)
    (ht : eval (.Call (.Attribute o m apos) [] [] pos) X.env = (do
      let ov ← eval o X.env
      standAt apos.atName
      let (f, first) ← holding [ov] (getMethod ov m pl)
      callWith pos f first (backTo pos (starEach [] X.env)) (backToKw pos (keywordEach [] X.env))) := by rfl) :
    DN X E (.Call (.Attribute o m apos) [] [] pos) (xMeth C m F To xNil) := by
  obtain ⟨t, p1, s⟩ := he
  refine ⟨_, pe_meth0 p1 c hm G hr hb .nil hx ht, fun c0 σ H S env R Rx x k t Q q => s c0 σ H S env _ Rx x k t _ fun v H1 S1 d k1 s1 r1 t1 => ?_⟩
  obtain ⟨t0, t1⟩ := t1
  cases d <;> try exact (show False from t0).elim
  obtain ⟨rfl, e1⟩ := t0
  obtain ⟨a, dx, vs, e2, h1, hn, l1⟩ := obj_of k1 r1
  refine ⟨a, dx, _, e2, h1, fld_none l1 hn e1, ?_⟩
  exact sp_callN k1 x (repL_cons r1 repL_nil) t1 fun v H' N d k' g' r' t' => q v H' S1 N d k' s1 g' r' t'
def xProp (C : Addr) (F : Spec) (To : DT) : DT := fun env R Rx => To env (fun d => asO C (fun _ _ => True) d ∧ F [d] R noX) Rx
end
end DL
namespace DL
open PySem PySem.Spec L2
variable [TbC]
theorem putF_end {f : Str} {v : V} : ∀ {ks : List Str} {vs : List V}, f ∉ ks → vs.length = ks.length → putF f v (ks.zip vs) = (ks ++ [f]).zip (vs ++ [v])
  | [], [], _, _ => rfl
  | [], _ :: _, _, h => nomatch h
  | _ :: _, [], _, h => nomatch h
  | k :: ks, u :: us, hf, hl => by
    have ne : ¬ k = f := fun z => hf (by rw [z]; exact List.mem_cons_self)
    show (if k = f then _ else (k, u) :: putF f v (ks.zip us)) = (k, u) :: (ks ++ [f]).zip (us ++ [v])
    rw [if_neg ne, putF_end (fun z => hf (List.mem_cons_of_mem _ z)) (by simpa using hl)]
/-- the tuples of S -/
def tpC (S : Hp) : Hp := fun a => match S a with
  | some (.tup vs) => some (.tup vs)
  | _ => none
theorem tpC_of {S : Hp} {a : Addr} {o : HO} (e : tpC S a = some o) : ∃ vs, o = .tup vs ∧ S a = some (.tup vs) := by
  unfold tpC at e
  split at e
  · rename_i vs h
    cases e
    exact ⟨vs, rfl, h⟩
  · cases e
theorem tpC_tup {S : Hp} {a : Addr} {vs : List V} (e : S a = some (.tup vs)) : tpC S a = some (.tup vs) := by
  unfold tpC
  rw [e]
/-- what is new since H, and tuples -/
def newT (H S : Hp) : Hp := DL.uni (newH H S) (tpC S)
theorem newT_tup {H S : Hp} {a : Addr} {vs : List V} (e : S a = some (.tup vs)) : newT H S a = some (.tup vs) := by
  cases z : newH H S a with
  | none =>
    unfold newT DL.uni
    rw [z]
    exact tpC_tup e
  | some o =>
    have := (newH_some z).2
    rw [e] at this
    cases this
    exact uni_l a _ z
theorem newT_of {H S : Hp} {a : Addr} {o : HO} (e : newT H S a = some o) : (H a = none ∧ S a = some o) ∨ ∃ vs, o = .tup vs ∧ S a = some (.tup vs) := by
  rcases uni_of e with e | ⟨_, e⟩
  · exact .inl (newH_some e)
  · exact .inr (tpC_of e)
theorem newT_mono {c : Fm} {S S' : Hp} (h : Same S S') : Same (newT c.H0 S) (newT c.H0 S') := fun a o e => by
  rcases newT_of e with ⟨e1, e2⟩ | ⟨vs, rfl, e2⟩
  · exact uni_l a o (by rw [newH_of e1]; exact h a o e2)
  · exact newT_tup (h _ _ e2)
/-- what is left of a body that fills the object at p: the attributes so far, the names -/
abbrev ITS := (Bool → List Str → List D → Prop) → (Er → Prop) → Bool → List Str → List D → En → Prop
/-- the frame, the object at p as told -/
def Fm.put (c : Fm) (p : Addr) (o : HO) : Fm := ⟨c.B, c.C, upd c.H0 p o, c.S0⟩
def SmIn (E : XK) (p dx C : Addr) (t : TS) (T : ITS) : Prop := ∀ (c : Fm) (σ : St) (H S : Hp) (env : En) (nf : Bool) (ks : List Str) (xs : List D) (vs : List V) (R : Bool → List Str → List D → Prop) (Rx : Er → Prop),
  XOk c E Rx → Kn c σ H S env → c.H0 p = some (.ins C dx (ks.zip vs)) → ¬ Ex c.B p → S p = none → xs.length = ks.length → RepL c.B S xs vs → (nf = true → RepL c.B (newT c.H0 S) xs vs) → T R Rx nf ks xs env →
  ∀ D : Ends, (∀ σ' H' S' nf' ks' xs' vs', Kf (c.put p (.ins C dx (ks'.zip vs'))) H' S' → Same S S' → xs'.length = ks'.length → RepL c.B S' xs' vs' → (nf' = true → RepL c.B (newT c.H0 S') xs' vs') → R nf' ks' xs' → D.nx σ' H') → t D σ H
def DIs (X : Cx) (E : XK) (p dx C : Addr) (sts : List Stmt) (T : ITS) : Prop := ∃ t, PSs X sts t ∧ SmIn E p dx C t T
theorem Fm.put_self {c : Fm} {p : Addr} {o : HO} (h : c.H0 p = some o) : c.put p o = c := by
  unfold Fm.put
  have : upd c.H0 p o = c.H0 := by
    funext a
    by_cases z : a = p
    · subst z
      rw [upd_same, h]
    · rw [upd_ne z]
  rw [this]
theorem newH_put {c : Fm} {S : Hp} {p : Addr} {o o0 : HO} (h : c.H0 p = some o0) : newH (c.put p o).H0 S = newH c.H0 S := by
  funext a
  have go : ∀ x y : Option HO, (x = none ↔ y = none) → (match x with
    | none => S a
    | some _ => none) = (match y with
    | none => S a
    | some _ => none) := fun x y e => by
    cases x with
    | none => rw [e.mp rfl]
    | some u =>
      cases y with
      | none => exact absurd (e.mpr rfl) (fun z => nomatch z)
      | some w => rfl
  refine go (upd c.H0 p o a) (c.H0 a) ?_
  by_cases z : a = p
  · subst z
    rw [upd_same, h]
    exact ⟨(fun z => nomatch z), (fun z => nomatch z)⟩
  · rw [upd_ne z]
theorem newT_put {c : Fm} {S : Hp} {p : Addr} {o o0 : HO} (h : c.H0 p = some o0) : newT (c.put p o).H0 S = newT c.H0 S := by
  unfold newT
  rw [newH_put h]
/-- values whose lists are new, with the tuples they hang on -/
def SmW (E : XK) (t : TE) (T : DT) : Prop := ∀ (c : Fm) (σ : St) (H S : Hp) (env : En) (R : D → Prop) (Rx : Er → Prop), XOk c E Rx → Kn c σ H S env → T env R Rx →
  ∀ Q : VK, (∀ v H' S' d, Kn c σ H' S' env → Same S S' → Rep c.B S' d v → Rep c.B (newT c.H0 S') d v → R d → Q v H') → t σ H Q
def DWn (X : Cx) (E : XK) (e : Expr) (T : DT) : Prop := ∃ t, PE X e t ∧ SmW E t T
section
variable {X : Cx} {E : XK} {p dx C : Addr} {st : Stmt} {rest : List Stmt} {T : DTS} {U : ITS} {e : Expr} {Te : DT} {pos p1 p2 : Pos}
def jNil : ITS := fun R _ nf ks xs _ => R nf ks xs
theorem is_nil : DIs X E p dx C [] jNil := ⟨_, pss_nil, fun c σ H S env nf ks xs vs R Rx x k h0 np hS hl l ln t D q => q σ H S nf ks xs vs (by rw [Fm.put_self h0]; exact k.kf) (Same.refl S) hl l ln t⟩
/-- a statement that does not touch the object -/
def jSt (T : DTS) (U : ITS) : ITS := fun R Rx nf ks xs env => T { nx := fun env' => U R Rx nf ks xs env', rt := fun _ _ => False, ex := Rx } env
theorem is_st (h1 : DS X E st T) (h2 : DIs X E p dx C rest U) : DIs X E p dx C (st :: rest) (jSt T U) := by
  obtain ⟨t, p1, s1⟩ := h1
  obtain ⟨u, p2, s2⟩ := h2
  refine ⟨_, pss_cons p1 p2, fun c σ H S env nf ks xs vs R Rx x k h0 np hS hl l ln t D q => ?_⟩
  refine s1 c σ H S env { nx := fun env' => U R Rx nf ks xs env', rt := fun _ _ => False, ex := Rx } x k t _ ⟨fun σ1 H1 S1 env1 k1 s t1 => ?_, fun _ _ _ _ _ _ _ _ z => z.elim, fun _ _ _ _ _ _ z => z.elim, fun _ _ _ _ _ _ z => z.elim⟩
  refine s2 c σ1 H1 S1 env1 nf ks xs vs R Rx x k1 h0 np ?_ hl (repL_mono s xs vs l) (fun z => repL_mono (newT_mono s) xs vs (ln z)) t1 D fun σ' H' S' nf' ks' xs' vs' k' s' => q σ' H' S' nf' ks' xs' vs' k' (s.trans s')
  cases z : c.S0 p with
  | none => exact k1.kf.new p z (mu_of h0 fun _ z => nomatch z)
  | some o =>
    have := k.kf.s0 p o z
    rw [hS] at this
    cases this
/-- self.f = e -/
def jSet (p : Addr) (f : Str) (Te : DT) (U : ITS) : ITS := fun R Rx nf ks xs env => Te env (fun d => env[0]? = some (some (.val (.adr p))) ∧ f ∉ ks ∧ ks.length < 1000 ∧ U R noX (nf && d.flat) (ks ++ [f]) (xs ++ [d]) env) Rx
theorem is_set {f : Str} {x0 : Str} (h : DE X E e Te) (h2 : DIs X E p dx C rest U) (c0 : Cls X.K C) (n : NoAttr X.K C f) (hN : X.N[0]? = some x0 := by rfl) (hv : Vis X.env.scope x0 := by first | exact Or.inl rfl | exact Or.inr (Or.inl rfl) | exact Or.inr (Or.inr rfl)) (hd : (x0 == ("__debug__" : Str)) = false := by decide)
    (hcd : (x0 == ("__classdict__" : Str)) = false := by decide) (hs : swapsWith e (some (.Attribute (.Name x0 p1) f p2)) pos.line X.env = pure false := by rfl) : DIs X E p dx C (.Assign [.Attribute (.Name x0 p1) f p2] e pos :: rest) (jSet p f Te U) := by
  obtain ⟨t, pe, s⟩ := h
  obtain ⟨u, pr, sr⟩ := h2
  refine ⟨_, pss_cons (ps_fld (pv 0 hN hv hd hcd) pe hs) pr, fun c σ H S env nf ks xs vs R Rx x k h0 np hS hl l ln t D q => ?_⟩
  refine s c σ H S env _ Rx x k t _ fun v H1 S1 d k1 s1 r1 t1 => ?_
  obtain ⟨e0, hf, hk, t1⟩ := t1
  obtain ⟨w, ew, rw0⟩ := k1.sl 0 _ e0
  cases (show w = .ref p from rw0)
  have hp : H1 p = some (.ins C dx (ks.zip vs)) := k1.kf.old p _ h0 np
  refine ⟨_, ew, p, C, dx, ks.zip vs, rfl, hp, c0, n, ?_, ?_⟩
  · rw [List.length_zip]
    omega
  · have hS0 : c.S0 p = none := by
      cases y : c.S0 p with
      | none => rfl
      | some o => have := k.kf.s0 p o y; rw [hS] at this; cases this
    have hS1 : S1 p = none := k1.kf.new p hS0 (mu_of h0 fun _ z => nomatch z)
    have hvl : vs.length = ks.length := by rw [l.length]; exact hl
    rw [putF_end hf hvl]
    refine sr (c.put p (.ins C dx ((ks ++ [f]).zip (vs ++ [v])))) σ _ S1 env (nf && d.flat) (ks ++ [f]) (xs ++ [d]) (vs ++ [v]) R noX xok0 ⟨⟨fun a o ea => ?_, k1.kf.s0, fun a o ea na => ?_, fun a ea na => ?_, fun b eb => ?_, ⟨k1.kf.tab.1.updH (fun v e => by rw [hp] at e; cases e; exact ⟨fun _ z => (nomatch z), fun _ z => (nomatch z)⟩) (fun _ _ e => e), fun q hq => by
      show upd c.H0 p _ q.1 ≠ none
      by_cases z : q.1 = p
      · rw [z, upd_same]
        exact fun y => nomatch y
      · rw [upd_ne z]
        exact k1.kf.tab.2 q hq⟩⟩, k1.len, fun j x ej => ?_, k1.apart⟩ upd_same np hS1 (by simp [hl]) ((repL_mono s1 xs vs l).app (repL_cons r1 repL_nil)) (fun z => by
      rw [Bool.and_eq_true] at z
      rw [newT_put h0]
      exact (repL_mono (newT_mono s1) xs vs (ln z.1)).app (repL_cons (flat_rep z.2 r1) repL_nil)) t1 D fun σ' H' S' nf' ks' xs' vs' k' s' hl' l' ln' r' => ?_
    · rw [upd_ne (fun z => by rw [z, hS1] at ea; cases ea)]
      exact k1.kf.sub a o ea
    · by_cases z : a = p
      · subst z
        have ea : upd c.H0 a (.ins C dx ((ks ++ [f]).zip (vs ++ [v]))) a = some o := ea
        rw [upd_same] at ea ⊢
        exact ea
      · have ea : upd c.H0 p (.ins C dx ((ks ++ [f]).zip (vs ++ [v]))) a = some o := ea
        rw [upd_ne z] at ea ⊢
        exact k1.kf.old a o ea na
    · by_cases z : a = p
      · rw [z]
        exact hS1
      · have na : Mu (upd c.H0 p (.ins C dx ((ks ++ [f]).zip (vs ++ [v]))) a) := na
        rw [upd_ne z] at na
        exact k1.kf.new a ea na
    · have nb : b ≠ p := fun z => np (.inl (by rw [← z]; exact eb))
      obtain ⟨⟨b1, cs, i, g, st, n, b2, b3⟩, b4⟩ := k1.kf.bag b eb
      refine ⟨⟨b1, cs, i, g, st, n, by rw [upd_ne nb]; exact b2, b3⟩, ?_⟩
      show upd c.H0 p _ b ≠ none
      rw [upd_ne nb]
      exact b4
    · obtain ⟨u, eu, r⟩ := k1.sl j x ej
      refine ⟨u, eu, DvR.keep (c := c) (c' := c.put p (.ins C dx ((ks ++ [f]).zip (vs ++ [v])))) rfl (Same.refl _) r fun q1 fa => ?_⟩
      obtain ⟨q2, q3, _⟩ := r.foot q1 fa
      have nq : q1 ≠ p := fun z => by rw [z, h0] at q3; cases q3
      refine ⟨q2, ?_, fun o e => by rw [upd_ne nq]; exact e⟩
      show upd c.H0 p _ q1 = none
      rw [upd_ne nq]
      exact q3
    · have e9 : (c.put p (.ins C dx ((ks ++ [f]).zip (vs ++ [v])))).put p (.ins C dx (ks'.zip vs')) = c.put p (.ins C dx (ks'.zip vs')) := by
        unfold Fm.put
        rw [upd_upd]
      rw [e9] at k'
      rw [newT_put h0] at ln'
      exact q σ' H' S' nf' ks' xs' vs' k' (s1.trans s') hl' l' ln' r'
/-- .. made new -/
def jSetN (p : Addr) (f : Str) (Te : DT) (U : ITS) : ITS := fun R Rx nf ks xs env => Te env (fun d => env[0]? = some (some (.val (.adr p))) ∧ f ∉ ks ∧ ks.length < 1000 ∧ U R noX nf (ks ++ [f]) (xs ++ [d]) env) Rx
end
def spIg (n : Bool) (C : Addr) (F : Spec) : Sp := fun vs H Q E => ∃ (c : Fm) (S : Hp) (p dx : Addr) (us : List V) (ds : List D) (R : D → Prop) (Rx : Er → Prop), vs = .ref p :: us ∧ c.H0 = H ∧ c.S0 = S ∧ Kf c H S ∧ H p = some (.ins C dx []) ∧ ¬ Ex c.B p ∧ S p = none ∧ RepL c.B S ds us ∧ F ds R Rx ∧
  (∀ H' S' ks xs vs', Kf (c.put p (.ins C dx (ks.zip vs'))) H' S' → xs.length = ks.length → RepL c.B S' xs vs' → (n = true → RepL c.B (newT H S') xs vs') → R (.obj C ks xs) → Q .non H') ∧ XOk c E Rx
abbrev spI (C : Addr) (F : Spec) : Sp := spIg false C F
section
variable {P : Program} {w : World} {K : PySem.W.Frag} {mg : Str → Option Value} {base : Heap} {x qual : Str} {st : Stmt} {dvs : List V} {kws : List (Str × V)} {f C : Addr} {fd : FuncData} {N ps : List Str} {k : Nat} {F : Spec}
theorem fn_i {T : Addr → ITS} (Fd : FnS K x qual st dvs kws f fd) (S : FnScope N ps (defScope st)) (len : ∀ ds R Rx, F ds R Rx → ds.length + 1 = ps.length)
    (hbody : ∀ (p dx : Addr) (cdv : Value) (A : Around) (outer : List Env) (s : Shared) (H : Hp) (E : XK), Room k (A.deeper (PyProof.Rows.envOfC qual (defScope st) s.heap.objs.size f cdv)) →
      DIs (cxOf (L2.CX P w) P w K mg base N qual (defScope st) f cdv A outer s H E) E p dx C (defBody st) (T p))
    (hT : ∀ p ds R Rx, F ds R Rx → T p (fun _ ks xs => R (.obj C ks xs)) Rx true [] [] (startE N (.adr p :: ds))) : FnOk P w K mg base (L2.CX P w) (k + 1) f fd ps (spI C F) := by
  refine FunD.ok Fd S (fun vs H Q E ⟨c, S, p, dx, us, ds, R, Rx, e, _, _, _, _, _, _, l, h, _⟩ => by rw [e, List.length_cons, l.length]; exact len _ _ _ h) fun cdv A outer s H vs Q E hr hsp => ?_
  obtain ⟨c, Sh, p, dx, us, ds, R, Rx, e, h0, hs0, kf, hp, np, hS, l, h, q, xo⟩ := hsp
  subst e
  obtain ⟨t, pp, sm⟩ := hbody p dx cdv A outer s H E hr
  refine ⟨t, pp, sm c _ H Sh (startE N (.adr p :: ds)) true [] [] [] _ Rx xo (kn_start kf (repL_cons rfl l)) (by rw [h0]; exact hp) np hS rfl repL_nil (fun _ => repL_nil) (hT p ds R Rx h) _ fun σ' H' S' nf' ks' xs' vs' k' _ hl' l' ln' r' => ?_⟩
  exact q H' S' ks' xs' vs' k' hl' l' (fun z => nomatch z) r'
end
section
variable {X : Cx} {E : XK} {CX : CXT} {k : Nat} {C f : Addr} {fd : FuncData} {ps : List Str} {F : Spec} {x : Str} {e : Expr} {es : List Expr} {Tl : DTA} {pos p : Pos}
def xMake (F : Spec) (Tl : DTA) : DT := fun env R Rx => Tl env (fun ds => F ds R Rx) Rx
theorem sp_make {c : Fm} {σ : St} {H S : Hp} {env : En} {vs : List V} {xs : List D} {R : D → Prop} {Rx : Er → Prop} {Q : VK} {a dx : Addr} (kn : Kn c σ H S env) (x : XOk c E Rx) (l : RepL c.B S xs vs) (t : F xs R Rx) (ha : H a = none) (hdx : H dx = none) (ne : dx ≠ a)
    (q : ∀ v H' S' d, Kn c σ H' S' env → Same S S' → Rep c.B S' d v → R d → Q v H') : spI C F (.ref a :: vs) (upd (upd H dx (.own a)) a (.ins C dx [])) (fun v H2 => v = .non ∧ Q (.ref a) H2) E := by
  have k1 := (kn.new0 (o := .own a) hdx)
  have ha1 : upd H dx (.own a) a = none := by rw [upd_ne (Ne.symm ne)]; exact ha
  have k2 := k1.new0 (o := .ins C dx []) ha1
  refine ⟨c.at _ S, S, a, dx, vs, xs, R, Rx, rfl, rfl, rfl, k2.kf.at, upd_same, kn.kf.x_ne ha, kn.kf.s_none ha, l, t, fun H' S' ks ys us k' hl l' _ r' => ⟨rfl, ?_⟩, x.at k2.kf⟩
  have h2 : ∀ b o, b ≠ a → b ≠ dx → H b = some o → upd (upd (upd H dx (.own a)) a (.ins C dx [])) a (.ins C dx (ks.zip us)) b = some o := fun b o n1 n2 e => by rw [upd_ne n1, upd_ne n1, upd_ne n2]; exact e
  have hda : H' dx = some (.own a) := k'.old dx _ (by show upd (upd (upd H dx (.own a)) a (.ins C dx [])) a _ dx = _; rw [upd_ne ne, upd_ne ne, upd_same]) (kn.kf.x_ne hdx)
  have haa : H' a = some (.ins C dx (ks.zip us)) := k'.old a _ upd_same (kn.kf.x_ne ha)
  have sa : S' a = none := k'.new a (kn.kf.s_none ha) (by show Mu (upd _ a _ a); rw [upd_same]; exact mu_of rfl fun _ z => nomatch z)
  have sdx : S' dx = none := k'.new dx (kn.kf.s_none hdx) (by show Mu (upd (upd (upd H dx (.own a)) a (.ins C dx [])) a _ dx); rw [upd_ne ne, upd_ne ne, upd_same]; exact mu_of rfl fun _ z => nomatch z)
  have sd1 : upd S' dx (.own a) a = none := by rw [upd_ne (Ne.symm ne)]; exact sa
  have s3 : Same S' (upd (upd S' dx (.own a)) a (.ins C dx (ks.zip us))) := (same_upd sdx).trans (same_upd sd1)
  have kn2 : Kn c σ H' (upd (upd S' dx (.own a)) a (.ins C dx (ks.zip us))) env := by
    refine kn.step (k'.s0.trans s3) (fun b o eb => ?_) (fun b o eb nb => ?_) (fun b eb nb => ?_) (fun b eb => ?_) (fun q hq => ⟨(k'.tab.1 q hq).1, by rw [upd_ne (fun z => kn.kf.x_ne ha (.inr ⟨q, hq, z⟩)), upd_ne (fun z => kn.kf.x_ne hdx (.inr ⟨q, hq, z⟩))]; exact (k'.tab.1 q hq).2⟩)
    · by_cases z : b = a
      · subst z
        rw [upd_same] at eb
        rw [haa]
        exact eb
      · rw [upd_ne z] at eb
        by_cases y : b = dx
        · subst y
          rw [upd_same] at eb
          rw [hda]
          exact eb
        · rw [upd_ne y] at eb
          exact k'.sub b o eb
    · exact k'.old b o (h2 b o (fun z => by rw [z, ha] at eb; cases eb) (fun z => by rw [z, hdx] at eb; cases eb) eb) nb
    · have n1 : b ≠ a := fun z => nb.1 (by rw [z]; exact ha)
      have n2 : b ≠ dx := fun z => nb.1 (by rw [z]; exact hdx)
      rw [upd_ne n1, upd_ne n2]
      refine k'.new b eb ?_
      show Mu (upd (upd (upd H dx (.own a)) a (.ins C dx [])) a _ b)
      rw [upd_ne n1, upd_ne n1, upd_ne n2]
      exact nb
    · obtain ⟨⟨b1, cs, i, g, st, n, b2, b3, b4⟩, b5⟩ := k'.bag b eb
      have n1 : b ≠ a := fun z => kn.kf.b_ne ha (by rw [← z]; exact eb)
      have n2 : b ≠ dx := fun z => kn.kf.b_ne hdx (by rw [← z]; exact eb)
      refine ⟨?_, cs, i, g, st, n, b2, s3 _ _ b3, b4⟩
      rw [upd_ne n1, upd_ne n2]
      exact b1
  refine q (.ref a) H' _ (.obj C ks ys) kn2 (k'.s0.trans s3) ?_ r'
  rw [Rep]
  exact ⟨a, dx, us, rfl, upd_same, by rw [upd_ne ne, upd_same], hl, repL_mono s3 ys us l'⟩
theorem d_make (M : Mk X.K C f) (G : FnOk X.prog X.w X.K X.mg X.base CX k f fd ps (spI C F)) (hr : Room (k + 1) X.A) (hm : X.mg x = some (.ref C)) (hb : Binds X.K fd ps []) (hx : Passes CX X E) (ha : DA X E (e :: es) Tl)
    (hg : Gl X x := by rfl) (hdb : (x == ("__debug__" : Str)) = false := by decide) (he : starEach (e :: es) X.env = (false, eval e X.env) :: starEach es X.env := by rfl) (hpl : (backTo pos (starEach es X.env)).any (·.1) = false := by rfl) :
    DE X E (.Call (.Name x p) (e :: es) [] pos) (xMake F Tl) := by
  obtain ⟨t, p1, s⟩ := ha
  refine ⟨_, pe_make M G hr hg hm hb .nil hx p1 hdb he hpl, fun c σ H S env R Rx x k t Q q => s c σ H S env _ Rx x k t _ fun vs H1 S1 xs k1 s1 l1 t1 a dx hxa hxd ne => ?_⟩
  rw [List.append_nil]
  exact sp_make k1 x l1 t1 hxa hxd ne fun v H' S' d k' s' r' z => q v H' S' d k' (s1.trans s') r' z
end
end DL
namespace DL
open PySem PySem.Spec L2
variable [TbC]
section
variable {X : Cx} {CX : CXT} {k : Nat} {C g : Addr} {fd : FuncData} {ps : List Str} {F : Spec} {E : XK} {a b : Expr} {Ta Tb : DT} {pos : Pos}
def xOB (C : Addr) (F : Spec) (Ta Tb : DT) : DT := fun env R Rx => Ta env (fun x => Tb env (fun y => asO C (fun _ _ => True) x ∧ asO C (fun _ _ => True) y ∧ F [x, y] R Rx) Rx) Rx
def xOBi (C : Addr) (F : Spec) (Ta Tb : DT) : DT := fun env R Rx => Ta env (fun x => Tb env (fun y => asO C (fun _ _ => True) x ∧ asI (fun _ => True) y ∧ F [x, y] R Rx) Rx) Rx
def xInv (C : Addr) (F : Spec) (Ta : DT) : DT := fun env R Rx => Ta env (fun x => asO C (fun _ _ => True) x ∧ F [x] R Rx) Rx
end
end DL
namespace DL
open PySem PySem.Spec L2
variable [TbC]
/-- a method, a getter: its function -/
structure Dm (K : PySem.W.Frag) (x qual : Str) (st : Stmt) where
  f : Addr
  fd : FuncData
  F : FnS K x qual st [] [] f fd
end DL
namespace DL
open PySem PySem.Spec L2
variable [TbC]
/-- isinstance(x, C), C an own class -/
def isO (C : Addr) : D → Option Bool
  | .obj C' _ _ => if C' = C then some true else none
  | .non | .bl _ | .int _ | .str _ | .lst _ | .tup _ => some false
  | _ => none
def fIsiO (C : Addr) : DFn
  | [x, .adr c], R => c = C ∧ ∃ b, isO C x = some b ∧ R (.bl b)
  | _, _ => False
end DL
namespace DL
open PySem PySem.Spec L2
variable [TbC]
/-- x == y, two objects of the class at C with an own == -/
def opOwn (C : Addr) (F : Spec) : DOp := fun x y R => asO C (fun _ _ => True) x ∧ asO C (fun _ _ => True) y ∧ F [x, y] R noX
end DL
namespace DL
open PySem PySem.Spec L2
variable [TbC]
def xMethK (C : Addr) (m : Str) (F : Spec) (g : List D → List D → List D) (To : DT) (Tk : DTA) : DT := fun env R Rx => To env (fun d => asO C (fun ks xs => fld ks xs m = none) d ∧ Tk env (fun zs => F (g [d] zs) R Rx) Rx) Rx
end DL
namespace DL
open PySem PySem.Spec L2
end DL
namespace DL
open PySem PySem.Spec L2
end DL
namespace DL
open PySem PySem.Spec L2
end DL
namespace DL
open PySem PySem.Spec L2
variable [TbC]
section
variable {α : Type} {G : DG} {Te : DT} {Tt : DTT} {vs : List Nat} {env : En} {R : List D → Prop}
theorem LcP.of {as : List α} {g : α → D} (f : α → D) (hz : as.length ≤ sizeLine) (h : ∀ (i : Nat) (a : α) (N : D → Prop), as[i]? = some a → N (f a) → G (g a) (inner vs env) fun env' => Te env' N noX) (k : R (as.map f)) :
    LcP (as.map g) G xYes Te vs env R := by
  refine ⟨fun i acc => acc = (as.take i).map f, by simp, fun i d acc e hI => ?_, fun acc hI => by rw [hI, List.length_map, List.take_length]; exact k⟩
  rw [List.getElem?_map] at e
  cases q : as[i]? with
  | none => rw [q] at e; cases e
  | some a =>
    rw [q] at e
    cases e
    have hi := (List.getElem?_eq_some_iff.mp q).1
    have key := h i a (fun y => acc.length < sizeLine ∧ acc ++ [y] = (as.take (i + 1)).map f) q ⟨by rw [hI, List.length_map, List.length_take]; omega, by rw [hI, take_succ_map f q]⟩
    have e1 : (fun env' => xYes env' (fun b => (b = true → Te env' (fun y => acc.length < sizeLine ∧ acc ++ [y] = (as.take (i + 1)).map f) noX) ∧ (b = false → acc = (as.take (i + 1)).map f)) noX) = fun env' => Te env' (fun y => acc.length < sizeLine ∧ acc ++ [y] = (as.take (i + 1)).map f) noX := by
      funext env'
      refine propext ⟨fun t => t.1 rfl, fun t => ⟨fun _ => t, fun z => nomatch z⟩⟩
    rw [e1]
    exact key
theorem LcP.filt {as : List α} {g : α → D} (p : α → Bool) (f : α → D) (hz : as.length ≤ sizeLine)
    (h : ∀ (i : Nat) (a : α) (N : D → Prop) (M : Prop), as[i]? = some a → (p a = true → N (f a)) → (p a = false → M) → G (g a) (inner vs env) fun env' => Tt env' (fun b => (b = true → Te env' N noX) ∧ (b = false → M)) noX) (k : R ((as.filter p).map f)) :
    LcP (as.map g) G Tt Te vs env R := by
  refine ⟨fun i acc => acc = ((as.take i).filter p).map f, by simp, fun i d acc e hI => ?_, fun acc hI => by rw [hI, List.length_map, List.take_length]; exact k⟩
  rw [List.getElem?_map] at e
  cases q : as[i]? with
  | none => rw [q] at e; cases e
  | some a =>
    rw [q] at e
    cases e
    have hi := (List.getElem?_eq_some_iff.mp q).1
    have e2 : as.take (i + 1) = as.take i ++ [a] := by rw [List.take_succ, q]; rfl
    refine h i a _ _ q (fun hp => ⟨?_, ?_⟩) fun hp => ?_
    · rw [hI, List.length_map]
      have := List.length_filter_le p (as.take i)
      rw [List.length_take] at this
      omega
    · show acc ++ [f a] = ((as.take (i + 1)).filter p).map f
      rw [hI, e2, List.filter_append]
      simp [hp]
    · show acc = ((as.take (i + 1)).filter p).map f
      rw [hI, e2, List.filter_append]
      simp [hp]
end
section
variable {x0 x1 x2 x3 x4 x5 x6 x7 : D} {r : List D}
theorem w_at0 : atI (x0 :: r) 0 = some x0 := by simp [atI, ixN]
theorem w_at1 : atI (x0 :: x1 :: r) 1 = some x1 := by
  unfold atI ixN
  rw [if_pos (by decide), if_pos (by simp only [List.length_cons]; omega)]
  rfl
theorem w_at2 : atI (x0 :: x1 :: x2 :: r) 2 = some x2 := by
  unfold atI ixN
  rw [if_pos (by decide), if_pos (by simp only [List.length_cons]; omega)]
  rfl
theorem w_at3 : atI (x0 :: x1 :: x2 :: x3 :: r) 3 = some x3 := by
  unfold atI ixN
  rw [if_pos (by decide), if_pos (by simp only [List.length_cons]; omega)]
  rfl
theorem w_at4 : atI (x0 :: x1 :: x2 :: x3 :: x4 :: r) 4 = some x4 := by
  unfold atI ixN
  rw [if_pos (by decide), if_pos (by simp only [List.length_cons]; omega)]
  rfl
theorem w_at5 : atI (x0 :: x1 :: x2 :: x3 :: x4 :: x5 :: r) 5 = some x5 := by
  unfold atI ixN
  rw [if_pos (by decide), if_pos (by simp only [List.length_cons]; omega)]
  rfl
end
end DL
namespace DL
open PySem PySem.Spec L2
variable [TbC]
section
variable {X : Cx} {pins : List (Addr × Obj)} {σ : St} {H : Hp} {s : Shared} {k : Nat} {f g C : Addr} {fd : FuncData} {ps : List Str} {sp : Sp} {F : Spec}
theorem run_in1 {Q : VK} {us : List Value} {vs : List V} {E' : Value → Shared → Prop} (G : FnOk X.prog X.w X.K X.mg X.base (L2.CX X.prog X.w) k f fd ps sp) (hr : Room (k + 1) X.A) (hb : Binds X.K fd ps []) (I : Inv X pins σ H s) (r : Vals vs us) (h : sp vs H Q E0) :
    wpAny (model X.prog X.w) X.A.in1 (call (.ref f) us) (EP X pins σ Q) E' s := by
  have hl : (us ++ []).length = ps.length := by rw [List.append_nil, ← r.length]; exact G.len _ _ _ _ h
  have hb2 := hb s us I.kIn hl
  rw [List.append_nil] at hb2
  refine wpAny_call (codeAny_mono (G.run X.A.in1 X.stack s H ⟨us, []⟩ us vs Q E0 hr.in1 I.env0.in1 hb2 r h) fun r s' hq => ?_)
  cases r with
  | error er => exact False.elim ((passL (X := X.nox)) pins σ H s er s' (I.wish _) hq)
  | ok fl =>
    cases fl with
    | ret u => exact I.after hq
    | next => exact False.elim hq
    | brk => exact False.elim hq
    | cont => exact False.elim hq
def rLenOw (C : Addr) (sp : Sp) : List V → Hp → VK → Prop := fun xs H Q => ∃ a dx fs, xs = [.ref a] ∧ H a = some (.ins C dx fs) ∧ sp [.ref a] H (fun v H' => ∃ n : Int, v = .int n ∧ 0 ≤ n ∧ n < 2 ^ 63 ∧ Q (.int n) H') E0
theorem call_lenOw (o : Hx.Own X.K C "__len__" g) (G : FnOk X.prog X.w X.K X.mg X.base (L2.CX X.prog X.w) k g fd ps sp) (hb : Binds X.K fd ps []) (hr : Room (k + 1) X.A) : CallR X (.builtin "len") (rLenOw C sp) := by
  intro pins s σ H xs us Q I r h
  obtain ⟨a, dx, fs, rfl, ha, q⟩ := h
  obtain ⟨u, rfl, ru⟩ := vals1 r
  obtain rfl : u = Value.ref a := ru
  obtain ⟨mA, J, _⟩ := ins_get I.hok ha
  obtain ⟨od, J, _⟩ := J.look
  obtain ⟨m, hF⟩ := I.fr
  refine PySem.W.len_K hF I.ok.mod.kin J o.at_ o.fn (wpAny_mono (run_in1 (us := [.ref a]) (vs := [.ref a]) G hr hb I (.cons rfl .nil) q) (fun u s' hq => ?_) fun _ _ z => z)
  obtain ⟨v, H', I', rv, n, rfl, h0, h1, q2⟩ := hq
  obtain ⟨t, rfl⟩ := rv
  exact ⟨⟨h0, h1⟩, .int n, H', I'.tok _, ⟨_, rfl⟩, q2⟩
def natR (R : D → Prop) : D → Prop
  | .int n => 0 ≤ n ∧ n < 2 ^ 63 ∧ R (.int n)
  | _ => False
theorem w_natR {R : D → Prop} {n : Int} : natR R (.int n) = (0 ≤ n ∧ n < 2 ^ 63 ∧ R (.int n)) := rfl
def fLenOw (C : Addr) (F : Spec) : DFn
  | [x], R => asO C (fun _ _ => True) x ∧ F [x] (natR R) noX
  | _, _ => False
theorem w_fLenOw {C : Addr} {F : Spec} {x : D} {R : D → Prop} : fLenOw C F [x] R = (asO C (fun _ _ => True) x ∧ F [x] (natR R) noX) := rfl
theorem b_lenOw (o : Hx.Own X.K C "__len__" g) (G : FnOk X.prog X.w X.K X.mg X.base (L2.CX X.prog X.w) k g fd ps (spD F)) (hb : Binds X.K fd ps []) (hr : Room (k + 1) X.A) : CallOk X (.builtin "len") (fLenOw C F) := by
  refine ⟨_, call_lenOw o G hb hr, fun c σ H S env xs vs R kn r t Q q => ?_⟩
  match xs, t with
  | [x], t2 =>
  obtain ⟨t0, t3⟩ := t2
  obtain ⟨v, rfl, r1⟩ := rep1 r
  cases x <;> try exact (show False from t0).elim
  obtain ⟨rfl, _⟩ := t0
  obtain ⟨a, dx, vs, rfl, h1, hn, l1⟩ := obj_of kn r1
  refine ⟨a, dx, _, rfl, h1, sp_call kn xok0 (repL_cons r1 repL_nil) t3 fun v H' S' d k' s' r' t' => ?_⟩
  cases d <;> try exact (show False from t').elim
  obtain ⟨n0, n1, t'⟩ := t'
  exact ⟨_, r', n0, n1, q _ H' S' (.int _) k' s' rfl t'⟩
end
section
variable {X : Cx} {E : XK} {a b c : Expr} {pos : Pos}
def zPar3 (i j l : Nat) (Tl : DTA) : DTS := fun Q env => Tl env (fun ds => match ds with
  | [d, d', d''] => Q.nx (put l d'' (put j d' (put i d env)))
  | _ => False) Q.ex
end
end DL
namespace DL
open PySem PySem.Spec L2
variable [TbC]
/-- its function; kws its keyword-only defaults -/
structure Dst (K : PySem.W.Frag) (x qual : Str) (st : Stmt) (kws : List (Str × V)) where
  f : Addr
  fd : FuncData
  F : FnS K x qual st [] kws f fd
end DL
namespace DL
open PySem PySem.Spec L2
variable [TbC]
def canI (E : XK) (T : DTI) : TI := fun σ H Rr => ∃ (c : Fm) (S : Hp) (env : En) (R : List D → Prop) (Rx : Er → Prop), XOk c E Rx ∧ Kn c σ H S env ∧ T env R Rx ∧ ∀ J H' S' xs, Kn c σ H' S' env → Same S S' → ItOk c.B J S' xs → R xs → Rr J H'
theorem smI_can {E : XK} {T : DTI} : SmI E (canI E T) T := fun c σ H S env R Rx x k t Rr q => ⟨c, S, env, R, Rx, x, k, t, q⟩
theorem pi_can {X : Cx} {E : XK} {tg e : Expr} {T : DTI} (h : DI X E tg e T) : PI X tg e (canI E T) := by
  obtain ⟨wi, p, s⟩ := h
  exact ⟨fun pins st σ H Rr I ⟨c, S, env, R, Rx, x, k, t, q⟩ => p.run pins st σ H Rr I (s c σ H S env R Rx x k t Rr q)⟩
section
variable {c : Fm} {σ σ2 : St} {H H2 S S2 : Hp} {env env2 : En} {D : Addr} {vs ws : List V}
/-- a list that nobody knows of changes -/
theorem Kn.updD {vs0 : List V} (k : Kn c σ H S env) (hL : H D = some (.lst vs0)) (nD : S D = none) (n0 : c.H0 D = none) (f : Free σ env D) : Kn c σ (upd H D (.lst ws)) S env := k.updF nD n0 hL lst_ne f
/-- what is known behind a block is known ahead of it -/
theorem Kn.up (k : Kf c H S) (k2 : Kn (c.at H S) σ2 H2 S2 env2) : Kn c σ2 H2 S2 env2 := by
  refine ⟨k.back' k2.kf, k2.len, fun j x ej => ?_, k2.apart⟩
  obtain ⟨w, ew, r⟩ := k2.sl j x ej
  refine ⟨w, ew, DvR.keep (c := c.at H S) (c' := c) rfl (Same.refl _) r fun a fa => ?_⟩
  obtain ⟨f1, f2, _⟩ := r.foot a fa
  exact ⟨f1, k.h0_none f2, fun _ e => e⟩
theorem Kn.freeD (k2 : Kn (c.at H S) σ2 H2 S2 env2) (h : H D ≠ none) : Free σ2 env2 D := fun j x v e e2 fa => by
  obtain ⟨w, ew, r⟩ := k2.sl j _ e
  rw [ew] at e2
  cases e2
  exact h (r.foot D fa).2.1
end
def xLc2F (Ti : DTI) (G : DG) (Tt : DTT) (Ti1 : DTI) (G1 : DG) (Tt1 : DTT) (Te : DT) (vs vs1 : List Nat) : DTF := fun env R Rx => Ti env (fun xs => ∃ I : Nat → List D → Prop, I 0 [] ∧
  (∀ i d acc, xs[i]? = some d → I i acc → G d (inner vs env) fun env' => Tt env' (fun b => (b = true → Ti1 env' (fun ys => ∃ I1 : Nat → List D → Prop, I1 0 acc ∧
      (∀ j e acc, ys[j]? = some e → I1 j acc → G1 e (inner vs1 env') fun env'' => Tt1 env'' (fun b => (b = true → Te env'' (fun y => acc.length < sizeLine ∧ I1 (j + 1) (acc ++ [y])) noX) ∧ (b = false → I1 (j + 1) acc)) noX) ∧
      ∀ acc, I1 ys.length acc → I (i + 1) acc) noX) ∧ (b = false → I (i + 1) acc)) noX) ∧
  ∀ acc, I xs.length acc → R acc) Rx
section
variable {X : Cx} {E : XK} {elt tg iter tg1 iter1 : Expr} {ifs ifs1 : List Expr} {scope : Scope} {own : List (Str × Nat)} {pos : Pos} {Ti Ti1 : DTI} {G G1 : DG} {Tt Tt1 : DTT} {Te : DT} {js js1 vs1 : List Nat}
theorem smF_lc2 {wi : TI} (hsub : ∀ j ∈ js, j ∈ own.map (·.2)) (hsub1 : ∀ j ∈ js1, j ∈ vs1) (hi : SmI E wi Ti) :
    SmF E (tLc2 wi (canG G js) (canT E0 Tt) (canI E0 Ti1) (canG G1 js1) (canT E0 Tt1) (canE E0 Te) (own.map (·.2)) vs1) (xLc2F Ti G Tt Ti1 G1 Tt1 Te (own.map (·.2)) vs1) := fun c σ H S env R Rx x k t Q q =>
  hi c σ H S env _ Rx x k t _ fun J H1 S1 xs k1 s1 it t1 => by
    obtain ⟨I, h0, hstep, hend⟩ := t1
    intro D hD
    have n0 := k1.kf.h0_none hD
    have fD := k1.free hD
    refine ⟨fun i m H => m = xs.length - i ∧ i ≤ xs.length ∧ ∃ S vs acc, Kn c σ H S env ∧ Same S1 S ∧ S D = none ∧ H D = some (.lst vs) ∧ RepL c.B S acc vs ∧ I i acc,
      ⟨_, rfl, Nat.zero_le _, S1, [], [], k1.new0 hD, Same.refl S1, k1.kf.s_none hD, upd_same, repL_nil, h0⟩, ?_⟩
    rintro i m H ⟨rfl, hil, S, vs, acc, k, s, nD, eD, l, hI⟩
    have ki := k.inner (own.map (·.2))
    obtain ⟨go, stop⟩ := it (c.at H S) rfl i _ H S _ ki s
    by_cases hlt : i < xs.length
    · have e : xs[i]? = some xs[i] := by simp [hlt]
      obtain ⟨g1, g2⟩ := go _ e
      refine .inr ⟨g1, fun H => i + 1 ≤ xs.length ∧ ∃ S vs acc, Kn c σ H S env ∧ Same S1 S ∧ S D = none ∧ H D = some (.lst vs) ∧ RepL c.B S acc vs ∧ I (i + 1) acc, fun H' h => ⟨_, by omega, rfl, h⟩, fun v H' y => ?_⟩
      obtain ⟨S', k', s', r'⟩ := g2 v H' y
      refine smG_can (c.at H S) _ H' S' _ _ v _ k' r' (hstep i _ acc e hI) _ fun σ2 H2 S2 env2 k2 s2 w2 t2 => ⟨?_, ?_⟩
      · rw [w2 (own.map (·.2)) hsub]
        exact wipe_wipe _ _
      · have eDn : Mu (H D) := mu_lst eD
        have fin : ∀ {H4 S4 : Hp}, Kf (c.at H S) H4 S4 → Kn c σ H4 S4 env ∧ H4 D = some (.lst vs) ∧ S4 D = none ∧ RepL c.B S4 acc vs ∧ Same S1 S4 := fun {H4 S4} kf => by
          refine ⟨k.back kf, kf.old D _ eD (k.kf.x_ne0 n0), kf.new D nD eDn, repL_mono kf.s0 acc vs l, s.trans kf.s0⟩
        refine smT_can (c.at H S) σ2 H2 S2 env2 _ noX xok0 k2 t2 _ fun b H3 S3 k3 s3 t3 => ?_
        cases b with
        | false =>
          refine iteF ?_
          obtain ⟨kn, eD4, nD4, l4, ss⟩ := fin k3.kf
          exact ⟨hlt, S3, vs, acc, kn, ss, nD4, eD4, l4, t3.2 rfl⟩
        | true =>
          refine iteT ?_
          refine smI_can (c.at H S) σ2 H3 S3 env2 _ noX xok0 k3 (t3.1 rfl) _ fun J1 H4 S4 ys k4 s4 it1 t4 => ?_
          obtain ⟨I1, h10, hstep1, hend1⟩ := t4
          obtain ⟨kn, eD4, nD4, l4, ss⟩ := fin k4.kf
          have k2c := Kn.up k.kf k4
          have f2 : Free σ2 env2 D := k4.freeD eDn.1
          refine ⟨fun j m H => m = ys.length - j ∧ j ≤ ys.length ∧ ∃ S vs acc, Kn c σ H S env ∧ Kn c σ2 H S env2 ∧ Same S4 S ∧ S D = none ∧ H D = some (.lst vs) ∧ RepL c.B S acc vs ∧ I1 j acc,
            ⟨_, rfl, Nat.zero_le _, S4, vs, acc, kn, k2c, Same.refl S4, nD4, eD4, l4, h10⟩, ?_⟩
          rintro j m1 H5 ⟨rfl, hjl, S5, vs5, acc5, ka, kb, s5, nD5, eD5, l5, hI1⟩
          have kbi := kb.inner vs1
          obtain ⟨go1, stop1⟩ := it1 (c.at H5 S5) rfl j _ H5 S5 _ kbi s5
          by_cases hlt1 : j < ys.length
          · have e1 : ys[j]? = some ys[j] := by simp [hlt1]
            obtain ⟨g3, g4⟩ := go1 _ e1
            refine .inr ⟨g3, fun H => j + 1 ≤ ys.length ∧ ∃ S vs acc, Kn c σ H S env ∧ Kn c σ2 H S env2 ∧ Same S4 S ∧ S D = none ∧ H D = some (.lst vs) ∧ RepL c.B S acc vs ∧ I1 (j + 1) acc, fun H' h => ⟨_, by omega, rfl, h⟩, fun v1 H6 y1 => ?_⟩
            obtain ⟨S6, k6, s6, r6⟩ := g4 v1 H6 y1
            refine smG_can (c.at H5 S5) _ H6 S6 _ _ v1 _ k6 r6 (hstep1 j _ acc5 e1 hI1) _ fun σ3 H7 S7 env3 k7 s7 w7 t7 => ⟨?_, ?_⟩
            · rw [w7 vs1 hsub1]
              exact wipe_wipe _ _
            · have eDn5 : Mu (H5 D) := mu_lst eD5
              have fin1 : ∀ {H4 S9 : Hp}, Kf (c.at H5 S5) H4 S9 → Kn c σ H4 S9 env ∧ Kn c σ2 H4 S9 env2 ∧ H4 D = some (.lst vs5) ∧ S9 D = none ∧ RepL c.B S9 acc5 vs5 ∧ Same S4 S9 := fun {H4 S9} kf => by
                refine ⟨ka.back kf, kb.back kf, kf.old D _ eD5 (ka.kf.x_ne0 n0), kf.new D nD5 eDn5, repL_mono kf.s0 acc5 vs5 l5, s5.trans kf.s0⟩
              refine smT_can (c.at H5 S5) σ3 H7 S7 env3 _ noX xok0 k7 t7 _ fun b H8 S8 k8 s8 t8 => ?_
              cases b with
              | true =>
                refine iteT ?_
                refine sm_can (c.at H5 S5) σ3 H8 S8 env3 _ noX xok0 k8 (t8.1 rfl) _ fun u H9 S9 d9 k9 s9 r9 t9 => ?_
                obtain ⟨ka9, kb9, eD9, nD9, l9, ss9⟩ := fin1 k9.kf
                have l10 := l9.app (repL_cons r9 repL_nil)
                exact ⟨vs5, eD9, by rw [l9.length]; exact t9.1, hlt1, S9, _, _, ka9.updD eD9 nD9 n0 fD, kb9.updD eD9 nD9 n0 f2, ss9, nD9, upd_same, l10, t9.2⟩
              | false =>
                refine iteF ?_
                obtain ⟨ka9, kb9, eD9, nD9, l9, ss9⟩ := fin1 k8.kf
                exact ⟨hlt1, S8, vs5, acc5, ka9, kb9, ss9, nD9, eD9, l9, t8.2 rfl⟩
          · have ej : j = ys.length := by omega
            subst ej
            exact .inl ⟨stop1 (Nat.le_refl _), hlt, S5, vs5, acc5, ka, ss.trans s5, nD5, eD5, l5, hend1 acc5 hI1⟩
    · have e : i = xs.length := by omega
      subst e
      exact .inl ⟨stop (Nat.le_refl _), q D vs H S acc k (s1.trans s) n0 fD nD eD l (hend acc hI)⟩
theorem f_lc2 (hc : X.calm = true) (hN : X.N.Nodup) (hi : DI X E tg iter Ti) (ok : BlkOk X.N X.env.scope scope own) (hsub : ∀ j ∈ js, j ∈ own.map (·.2)) (hv : ∀ i ∈ vs1, i ∈ own.map (·.2)) (hsub1 : ∀ j ∈ js1, j ∈ vs1)
    (hg : ∀ (s : Shared) (H : Hp) (C : Addr) (cl : List (Str × Addr)) (fp : List Addr), DGt (X.blk s H scope (compEnvC scope cl C X.env) fp) tg G js)
    (ht : ∀ (s : Shared) (H : Hp) (C : Addr) (cl : List (Str × Addr)) (fp : List Addr), DTs (X.blk s H scope (compEnvC scope cl C X.env) fp) E0 ifs Tt)
    (hi1 : ∀ (s : Shared) (H : Hp) (C : Addr) (cl : List (Str × Addr)) (fp : List Addr), DI (X.blk s H scope (compEnvC scope cl C X.env) fp) E0 tg1 iter1 Ti1)
    (hg1 : ∀ (s : Shared) (H : Hp) (C : Addr) (cl : List (Str × Addr)) (fp : List Addr), DGt (X.blk s H scope (compEnvC scope cl C X.env) fp) tg1 G1 js1)
    (ht1 : ∀ (s : Shared) (H : Hp) (C : Addr) (cl : List (Str × Addr)) (fp : List Addr), DTs (X.blk s H scope (compEnvC scope cl C X.env) fp) E0 ifs1 Tt1)
    (he : ∀ (s : Shared) (H : Hp) (C : Addr) (cl : List (Str × Addr)) (fp : List Addr), DE (X.blk s H scope (compEnvC scope cl C X.env) fp) E0 elt Te)
    (hs : ∀ x, foldedSetIterable iter X.env x = pure x := by intro _; rfl) (hs1 : ∀ env x, foldedSetIterable iter1 env x = pure x := by intro _ _; rfl) : DF X E (.ListComp elt [⟨tg, iter, ifs, 0⟩, ⟨tg1, iter1, ifs1, 0⟩] scope pos) (xLc2F Ti G Tt Ti1 G1 Tt1 Te (own.map (·.2)) vs1) := by
  obtain ⟨wi, p, s⟩ := hi
  exact ⟨_, pe_lc2 hc hN p ok hv (fun s H C cl fp => pg_can (hg s H C cl fp)) (fun s H C cl fp => pts_can (ht s H C cl fp)) (fun s H C cl fp => pi_can (hi1 s H C cl fp)) (fun s H C cl fp => pg_can (hg1 s H C cl fp)) (fun s H C cl fp => pts_can (ht1 s H C cl fp)) (fun s H C cl fp => pe_can (he s H C cl fp)) hs hs1, smF_lc2 hsub hsub1 s⟩
theorem s_setLc2 {i : Nat} {y : Str} {py spos : Pos} (hc : X.calm = true) (hN : X.N.Nodup) (hi : DI X E tg iter Ti) (ok : BlkOk X.N X.env.scope scope own) (hsub : ∀ j ∈ js, j ∈ own.map (·.2)) (hv : ∀ i ∈ vs1, i ∈ own.map (·.2)) (hsub1 : ∀ j ∈ js1, j ∈ vs1)
    (hg : ∀ (s : Shared) (H : Hp) (C : Addr) (cl : List (Str × Addr)) (fp : List Addr), DGt (X.blk s H scope (compEnvC scope cl C X.env) fp) tg G js)
    (ht : ∀ (s : Shared) (H : Hp) (C : Addr) (cl : List (Str × Addr)) (fp : List Addr), DTs (X.blk s H scope (compEnvC scope cl C X.env) fp) E0 ifs Tt)
    (hi1 : ∀ (s : Shared) (H : Hp) (C : Addr) (cl : List (Str × Addr)) (fp : List Addr), DI (X.blk s H scope (compEnvC scope cl C X.env) fp) E0 tg1 iter1 Ti1)
    (hg1 : ∀ (s : Shared) (H : Hp) (C : Addr) (cl : List (Str × Addr)) (fp : List Addr), DGt (X.blk s H scope (compEnvC scope cl C X.env) fp) tg1 G1 js1)
    (ht1 : ∀ (s : Shared) (H : Hp) (C : Addr) (cl : List (Str × Addr)) (fp : List Addr), DTs (X.blk s H scope (compEnvC scope cl C X.env) fp) E0 ifs1 Tt1)
    (he : ∀ (s : Shared) (H : Hp) (C : Addr) (cl : List (Str × Addr)) (fp : List Addr), DE (X.blk s H scope (compEnvC scope cl C X.env) fp) E0 elt Te)
    (hy : X.N[i]? = some y := by rfl) (hyl : X.env.scope.names.lookup y = some .local := by rfl)
    (hsw : swapsWith (.ListComp elt [⟨tg, iter, ifs, 0⟩, ⟨tg1, iter1, ifs1, 0⟩] scope pos) (some (.Name y py)) spos.line X.env = pure true := by exact sw_true rfl rfl rfl (by decide +kernel))
    (hs : ∀ x, foldedSetIterable iter X.env x = pure x := by intro _; rfl) (hs1 : ∀ env x, foldedSetIterable iter1 env x = pure x := by intro _ _; rfl) : DS X E (.Assign [.Name y py] (.ListComp elt [⟨tg, iter, ifs, 0⟩, ⟨tg1, iter1, ifs1, 0⟩] scope pos) spos) (zAsg (xF (xLc2F Ti G Tt Ti1 G1 Tt1 Te (own.map (·.2)) vs1)) (yName i)) := by
  obtain ⟨wi, p, s⟩ := hi
  exact ⟨_, ps_setLc2 hc hN hy hyl hsw p ok hv (fun s H C cl fp => pg_can (hg s H C cl fp)) (fun s H C cl fp => pts_can (ht s H C cl fp)) (fun s H C cl fp => pi_can (hi1 s H C cl fp)) (fun s H C cl fp => pg_can (hg1 s H C cl fp)) (fun s H C cl fp => pts_can (ht1 s H C cl fp)) (fun s H C cl fp => pe_can (he s H C cl fp)) hs hs1, smS_asg (sm_ofF (smF_lc2 hsub hsub1 s)) (smG_name i)⟩
end
/-- the word: typed lists both -/
def Lc2P (xs : List D) (G : DG) (Tt : DTT) (Ti1 : DTI) (G1 : DG) (Tt1 : DTT) (Te : DT) (vs vs1 : List Nat) (env : En) (R : List D → Prop) : Prop := ∃ I : Nat → List D → Prop, I 0 [] ∧
  (∀ i d acc, xs[i]? = some d → I i acc → G d (inner vs env) fun env' => Tt env' (fun b => (b = true → Ti1 env' (fun ys => ∃ I1 : Nat → List D → Prop, I1 0 acc ∧
      (∀ j e acc, ys[j]? = some e → I1 j acc → G1 e (inner vs1 env') fun env'' => Tt1 env'' (fun b => (b = true → Te env'' (fun y => acc.length < sizeLine ∧ I1 (j + 1) (acc ++ [y])) noX) ∧ (b = false → I1 (j + 1) acc)) noX) ∧
      ∀ acc, I1 ys.length acc → I (i + 1) acc) noX) ∧ (b = false → I (i + 1) acc)) noX) ∧
  ∀ acc, I xs.length acc → R acc
theorem w_lc2 {Ti Ti1 : DTI} {G G1 : DG} {Tt Tt1 : DTT} {Te : DT} {vs vs1 : List Nat} {env : En} {R : List D → Prop} {Rx : Er → Prop} : xLc2F Ti G Tt Ti1 G1 Tt1 Te vs vs1 env R Rx = Ti env (fun xs => Lc2P xs G Tt Ti1 G1 Tt1 Te vs vs1 env R) Rx := rfl
/-- no tests: all f a b, in order -/
theorem Lc2P.of {α β : Type} {as : List α} {g : α → D} {Ti1 : DTI} {G G1 : DG} {Te : DT} {vs vs1 : List Nat} {env : En} {R : List D → Prop} (bs : List β) (g1 : β → D) (f : α → β → D) (hz : as.length * bs.length ≤ sizeLine)
    (h2 : ∀ (i : Nat) (a : α) (R1 : En → Prop), as[i]? = some a → (∀ env' : En, (∀ M : List D → Prop, M (bs.map g1) → Ti1 env' M noX) → (∀ (j : Nat) (b : β) (N : D → Prop), bs[j]? = some b → N (f a b) → G1 (g1 b) (inner vs1 env') fun env'' => Te env'' N noX) → R1 env') → G (g a) (inner vs env) R1)
    (k : R (as.flatMap fun a => bs.map (f a))) : Lc2P (as.map g) G xYes Ti1 G1 xYes Te vs vs1 env R := by
  refine ⟨fun i acc => acc = (as.take i).flatMap fun a => bs.map (f a), by simp, fun i d acc e hI => ?_, fun acc hI => by rw [hI, List.length_map, List.take_length]; exact k⟩
  rw [List.getElem?_map] at e
  cases q : as[i]? with
  | none => rw [q] at e; cases e
  | some a =>
    rw [q] at e
    cases e
    have hi := (List.getElem?_eq_some_iff.mp q).1
    have eacc : acc.length = i * bs.length := by
      rw [hI, List.length_flatMap]
      have : (as.take i).map (fun a => (bs.map (f a)).length) = List.replicate i bs.length := by
        apply List.ext_getElem
        · simp; omega
        · intro n h1 h2
          simp
      rw [this, List.sum_replicate_nat]
    have et : as.take (i + 1) = as.take i ++ [a] := by rw [List.take_succ, q]; rfl
    refine h2 i a _ q fun env' hT hE => ⟨fun _ => hT _ ⟨fun j acc2 => acc2 = acc ++ (bs.take j).map (f a), by simp, fun j d acc2 e2 hI2 => ?_, fun acc2 hI2 => ?_⟩, fun z => nomatch z⟩
    · rw [List.getElem?_map] at e2
      cases q2 : bs[j]? with
      | none => rw [q2] at e2; cases e2
      | some b =>
        rw [q2] at e2
        cases e2
        have hj := (List.getElem?_eq_some_iff.mp q2).1
        have key := hE j b (fun y => acc2.length < sizeLine ∧ acc2 ++ [y] = acc ++ (bs.take (j + 1)).map (f a)) q2 ⟨by
          rw [hI2, List.length_append, List.length_map, List.length_take, eacc]
          have : (i + 1) * bs.length ≤ as.length * bs.length := Nat.mul_le_mul_right _ hi
          rw [Nat.succ_mul] at this
          omega, by rw [hI2, take_succ_map (f a) q2, List.append_assoc]⟩
        have e1 : (fun env'' => xYes env'' (fun b => (b = true → Te env'' (fun y => acc2.length < sizeLine ∧ acc2 ++ [y] = acc ++ (bs.take (j + 1)).map (f a)) noX) ∧ (b = false → acc2 = acc ++ (bs.take (j + 1)).map (f a))) noX) = fun env'' => Te env'' (fun y => acc2.length < sizeLine ∧ acc2 ++ [y] = acc ++ (bs.take (j + 1)).map (f a)) noX := by
          funext env''
          refine propext ⟨fun t => t.1 rfl, fun t => ⟨fun _ => t, fun z => nomatch z⟩⟩
        rw [e1]
        exact key
    · show acc2 = (as.take (i + 1)).flatMap fun a => bs.map (f a)
      rw [hI2, List.length_map, List.take_length, et, List.flatMap_append, hI]
      simp
def asStrs : List D → Option (List Str)
  | [] => some []
  | .str i :: r => (asStrs r).map (i :: ·)
  | _ :: _ => none
theorem w_asStrs (ns : List Str) : asStrs (ns.map D.str) = some ns := by
  induction ns with
  | nil => rfl
  | cons n ns ih => show (asStrs (ns.map D.str)).map (n :: ·) = _; rw [ih]; rfl
def asS (R : Str → Prop) : D → Prop
  | .str s => R s
  | _ => False
theorem w_asS {Q : Str → Prop} {s : Str} : asS Q (.str s) = Q s := rfl
def opJoin (a : Str) : D → (D → Prop) → Prop
  | .lst xs, R => ∃ ys : List Str, asStrs xs = some ys ∧ (ys.map (·.length)).sum + ys.length * a.length ≤ 16777216 ∧ R (.str (Txt.join a ys))
  | _, _ => False
theorem w_join {a : Str} {xs : List D} {R : D → Prop} : opJoin a (.lst xs) R = ∃ ys : List Str, asStrs xs = some ys ∧ (ys.map (·.length)).sum + ys.length * a.length ≤ 16777216 ∧ R (.str (Txt.join a ys)) := rfl
def opFind (a : Str) : D → (D → Prop) → Prop
  | .str b, R => R (.int (Txt.find a b))
  | _, _ => False
theorem w_find {a b : Str} {R : D → Prop} : opFind a (.str b) R = R (.int (Txt.find a b)) := rfl
def xM1 (op : Str → D → (D → Prop) → Prop) (To Te : DT) : DT := fun env R Rx => To env (asS fun a => Te env (fun y => op a y R) Rx) Rx
theorem w_m1 {op : Str → D → (D → Prop) → Prop} {To Te : DT} {env : En} {R : D → Prop} {Rx : Er → Prop} : xM1 op To Te env R Rx = To env (asS fun a => Te env (fun y => op a y R) Rx) Rx := rfl
section
variable {X : Cx} {E : XK} {o e : Expr} {To Te : DT} {apos pos : Pos}
def fStrI : DFn
  | [.int i], R => i.natAbs.log2 < 1920 ∧ R (.str (toString i))
  | _, _ => False
theorem w_fStrI {i : Int} {R : D → Prop} : fStrI [.int i] R = (i.natAbs.log2 < 1920 ∧ R (.str (toString i))) := rfl
end
end DL
namespace DL
open PySem PySem.Spec L2 PyProof.Rows
variable [TbC]
section
variable {X : Cx} {E : XK} {a b e ix : Expr} {pos p1 p2 : Pos} {Ti Tv : DT}
/-- xs[k] op= e -/
def zAugO (i : Nat) (f : Int → Int → Int) (Ti Tv : DT) : DTS := fun Q env => ∃ xs, env[i]? = some (some (.own xs)) ∧ Ti env (asI fun k => ∃ j n, ixN xs.length k = some j ∧ xs[j]? = some (.int n) ∧ Tv env (asI fun m => Q.nx (putO' i (xs.set j (.int (f n m))) env)) Q.ex) Q.ex
theorem w_zAugO {i : Nat} {f : Int → Int → Int} {Q : DEnds} {env : En} : zAugO i f Ti Tv Q env = ∃ xs, env[i]? = some (some (.own xs)) ∧ Ti env (asI fun k => ∃ j n, ixN xs.length k = some j ∧ xs[j]? = some (.int n) ∧ Tv env (asI fun m => Q.nx (putO' i (xs.set j (.int (f n m))) env)) Q.ex) Q.ex := rfl
end
end DL
namespace DL
open PySem PySem.Spec L2
variable [TbC]
def thaw1 : Option DV → Option DV
  | some (.own xs) => some (.val (.lst xs))
  | some (.tre t _) => some (.val t.d)
  | o => o
def thaw (env : En) : En := env.map thaw1
theorem w_thaw_nil : thaw [] = [] := rfl
theorem w_thaw_cons {o : Option DV} {l : En} : thaw (o :: l) = thaw1 o :: thaw l := rfl
theorem w_thaw_own {xs : List D} : thaw1 (some (.own xs)) = some (.val (.lst xs)) := rfl
theorem w_thaw_val {d : D} : thaw1 (some (.val d)) = some (.val d) := rfl
theorem w_thaw_none : thaw1 none = none := rfl
theorem w_thaw_tre {t : T} {as : List Addr} : thaw1 (some (.tre t as)) = some (.val t.d) := rfl
theorem thaw_get {env : En} {j : Nat} {x : DV} (e : (thaw env)[j]? = some (some x)) : (∃ d, x = .val d ∧ env[j]? = some (some (.val d))) ∨ (∃ xs, x = .val (.lst xs) ∧ env[j]? = some (some (.own xs))) ∨ ∃ t as, x = .val t.d ∧ env[j]? = some (some (.tre t as)) := by
  unfold thaw at e
  rw [List.getElem?_map] at e
  cases q : env[j]? with
  | none => rw [q] at e; cases e
  | some o =>
    rw [q] at e
    cases o with
    | none => cases e
    | some y =>
      cases y with
      | val d => cases e; exact .inl ⟨d, rfl, rfl⟩
      | own xs => cases e; exact .inr (.inl ⟨xs, rfl, rfl⟩)
      | tre t as => cases e; exact .inr (.inr ⟨t, as, rfl, rfl⟩)
/-- a is the address of a thing of the frame's own -/
def OwnA (σ : St) (env : En) (a : Addr) : Prop := ∃ (j : Nat) (x : DV) (v : V), env[j]? = some (some x) ∧ σ[j]? = some (some v) ∧ Foot x v a
open Classical in
noncomputable def lendS (σ : St) (env : En) (H S : Hp) : Hp := fun a => if OwnA σ env a then H a else S a
open Classical in
noncomputable def backS (σ : St) (env : En) (S : Hp) : Hp := fun a => if OwnA σ env a then none else S a
section
variable {c : Fm} {σ : St} {H H' S S' : Hp} {env : En} {a : Addr}
theorem lend_own (o : OwnA σ env a) : lendS σ env H S a = H a := if_pos o
theorem lend_not (o : ¬ OwnA σ env a) : lendS σ env H S a = S a := if_neg o
theorem back_own (o : OwnA σ env a) : backS σ env S a = none := if_pos o
theorem back_not (o : ¬ OwnA σ env a) : backS σ env S a = S a := if_neg o
theorem ownA_at (k : Kn c σ H S env) (o : OwnA σ env a) : S a = none ∧ c.H0 a = none ∧ Mu (H a) := by
  obtain ⟨j, x, v, e, e1, f⟩ := o
  obtain ⟨u, e2, r⟩ := k.sl j _ e
  rw [e1] at e2
  cases e2
  exact r.foot a f
theorem not_own (k : Kn c σ H S env) {o : HO} (e : S a = some o) : ¬ OwnA σ env a := fun z => by
  rw [(ownA_at k z).1] at e
  cases e
theorem same_lend (k : Kn c σ H S env) : Same S (lendS σ env H S) := fun a o e => by
  rw [lend_not (not_own k e)]
  exact e
theorem Kn.lend (k : Kn c σ H S env) : Kn (c.at H (lendS σ env H S)) σ H (lendS σ env H S) (thaw env) := by
  refine ⟨⟨fun a o e => ?_, Same.refl _, fun _ _ e _ => e, fun a e _ => e, fun b e => ?_, ⟨fun p hp => ⟨(k.kf.tab.1 p hp).1, by rw [lend_not fun z => k.kf.tab.2 p hp (ownA_at k z).2.1]; exact (k.kf.tab.1 p hp).2⟩, fun p hp => k.kf.tab.1.ne hp⟩⟩, ?_, fun j x e => ?_, fun i j x y v u a _ e _ _ _ f _ => ?_⟩
  · by_cases z : OwnA σ env a
    · rw [lend_own z] at e
      exact e
    · rw [lend_not z] at e
      exact k.kf.sub a o e
  · obtain ⟨⟨b1, cs, i, g, st, n, b2, b3, b4⟩, b5⟩ := k.kf.bag b e
    have nb : ¬ OwnA σ env b := fun z => b5 (ownA_at k z).2.1
    refine ⟨⟨by rw [lend_not nb]; exact b1, cs, i, g, st, n, b2, same_lend k _ _ b3, b4⟩, ?_⟩
    show H b ≠ none
    rw [b2]
    exact fun z => nomatch z
  · unfold thaw
    rw [List.length_map]
    exact k.len
  · rcases thaw_get e with ⟨d, rfl, e2⟩ | ⟨xs, rfl, e2⟩ | ⟨t, as, rfl, e2⟩
    · obtain ⟨v, e3, r⟩ := k.sl j _ e2
      exact ⟨v, e3, rep_mono (same_lend k) d v r⟩
    · obtain ⟨v, e3, p, vs, rfl, h1, h2, h3, h4⟩ := k.sl j _ e2
      refine ⟨_, e3, ?_⟩
      show Rep c.B _ (.lst xs) (.ref p)
      rw [Rep]
      exact ⟨p, vs, rfl, by rw [lend_own ⟨j, _, _, e2, e3, rfl⟩]; exact h3, repL_mono (same_lend k) _ _ h4⟩
    · obtain ⟨v, e3, r⟩ := k.sl j _ e2
      exact ⟨v, e3, rep_tree (same_lend k) t v as (fun a m => lend_own ⟨j, _, _, e2, e3, m⟩) r.1⟩
  · rcases thaw_get e with ⟨d, rfl, _⟩ | ⟨xs, rfl, _⟩ | ⟨t, as, rfl, _⟩ <;> exact f
theorem Kf.lendX (k : Kn c σ H S env) (k' : Kf (c.at H (lendS σ env H S)) H' S') : Kf c H' S' := by
  refine ⟨k'.sub, (k.kf.s0.trans (same_lend k)).trans k'.s0, fun a o e n => k'.old a o (k.kf.old a o e n) n, fun a e n => ?_, fun b e => ⟨(k'.bag b e).1, (k.kf.bag b e).2⟩, ⟨k'.tab.1, k.kf.tab.2⟩⟩
  refine k'.new a ?_ (k.kf.back n)
  show lendS σ env H S a = none
  rw [lend_not fun z => n.1 (ownA_at k z).2.1]
  exact k.kf.new a e n
theorem XOk.lend {E : XK} {Rx : Er → Prop} (x : XOk c E Rx) (k : Kn c σ H S env) : XOk (c.at H (lendS σ env H S)) E Rx := fun er d vs H1 S1 k1 r l h n0 n1 z => x er d vs H1 S1 (Kf.lendX k k1) r l h (k.kf.h0_none n0) n1 z
theorem Kn.unlend (k : Kn c σ H S env) (k' : Kf (c.at H (lendS σ env H S)) H' S') : Kn c σ H' (backS σ env S') env ∧ Same S (backS σ env S') := by
  have ss : Same S (backS σ env S') := fun a o e => by
    rw [back_not (not_own k e)]
    exact k'.s0 _ _ (same_lend k _ _ e)
  have kx := Kf.lendX k k'
  have bs : Same (backS σ env S') S' := fun a o e => by
    by_cases z : OwnA σ env a
    · rw [back_own z] at e
      cases e
    · rw [back_not z] at e
      exact e
  refine ⟨⟨⟨fun a o e => kx.sub a o (bs a o e), k.kf.s0.trans ss, kx.old, fun a e n => ?_, fun b e => ?_, ⟨fun p hp => ⟨(kx.tab.1 p hp).1, by
    by_cases z : OwnA σ env p.1
    · exact back_own z
    · rw [back_not z]
      exact (kx.tab.1 p hp).2⟩, k.kf.tab.2⟩⟩, k.len, fun j x e => ?_, k.apart⟩, ss⟩
  · have := kx.new a e n
    by_cases z : OwnA σ env a
    · exact back_own z
    · rw [back_not z]
      exact this
  · obtain ⟨⟨b1, cs, i, g, st, n, b2, b3, b4⟩, b5⟩ := kx.bag b e
    obtain ⟨⟨_, cs0, _, _, _, _, _, b3', _⟩, _⟩ := k.kf.bag b e
    refine ⟨⟨?_, cs, i, g, st, n, b2, ?_, b4⟩, b5⟩
    · by_cases z : OwnA σ env b
      · exact back_own z
      · rw [back_not z]
        exact b1
    · rw [back_not (not_own k b3')]
      exact b3
  · obtain ⟨v, e3, r⟩ := k.sl j x e
    refine ⟨v, e3, r.keep rfl ss fun a fa => ?_⟩
    obtain ⟨f1, f2, _⟩ := r.foot a fa
    exact ⟨back_own ⟨j, x, v, e, e3, fa⟩, f2, fun o e4 => k'.old a o e4 (k.kf.x_ne0 f2)⟩
end
section
variable {X : Cx} {E : XK} {e : Expr}
def xLendT (T : DTT) : DTT := fun env R Rx => T (thaw env) R Rx
theorem w_lendT {T : DTT} {env : En} {R : Bool → Prop} {Rx : Er → Prop} : xLendT T env R Rx = T (thaw env) R Rx := rfl
theorem dt_lend {T : DTT} (h : DTe X E e T) : DTe X E e (xLendT T) := by
  obtain ⟨t, p, s⟩ := h
  refine ⟨t, p, fun c σ H S env R Rx x k t Q q => s _ σ H _ _ R Rx (x.lend k) k.lend t Q fun b H1 S1 k1 s1 r1 => ?_⟩
  obtain ⟨k2, s2⟩ := k.unlend k1.kf
  exact q b H1 _ k2 s2 r1
def xLend (T : DT) : DT := fun env R Rx => T (thaw env) (fun d => d.flat = true ∧ R d) Rx
theorem w_lend {T : DT} {env : En} {R : D → Prop} {Rx : Er → Prop} : xLend T env R Rx = T (thaw env) (fun d => d.flat = true ∧ R d) Rx := rfl
def xLendN (T : DT) : DT := fun env R Rx => T (thaw env) R Rx
theorem w_lendN {T : DT} {env : En} {R : D → Prop} {Rx : Er → Prop} : xLendN T env R Rx = T (thaw env) R Rx := rfl
end
end DL
namespace DL
open PySem PySem.Spec L2 PyProof.Rows
variable [TbC]
def xEnumS (Tl : DTA) : DTI := fun env R Rx => Tl env (fun ds => match ds with
  | [.str s] => R (nums 0 (signs s))
  | _ => False) Rx
section
variable {X : Cx} {E : XK} {p pos : Pos} {a : Expr} {Tl : DTA}
theorem w_enumS {env : En} {R : List D → Prop} {Rx : Er → Prop} : xEnumS Tl env R Rx = Tl env (fun ds => match ds with
  | [.str s] => R (nums 0 (signs s))
  | _ => False) Rx := rfl
end
end DL
namespace DL
open PySem PySem.Spec L2
variable [TbC]
section
variable {X : Cx} {E : XK} {pos p1 : Pos} {a : Expr} {T : DTF}
def zParN (i j l : Nat) (T : DTF) : DTS := fun Q env => T env (fun ds => ∃ d, env[l]? = some (some (.val d)) ∧ Q.nx (put j d (putO' i ds env))) Q.ex
theorem w_zParN {i j l : Nat} {Q : DEnds} {env : En} : zParN i j l T Q env = T env (fun ds => ∃ d, env[l]? = some (some (.val d)) ∧ Q.nx (put j d (putO' i ds env))) Q.ex := rfl
end
end DL
namespace EXS
open PySem PySem.Spec L2 PyProof.Rows
section
open PySem.W
variable {prog : Program} {w : World} {A : Around} {E : Value → Shared → Prop} {h : Heap} {g : Array GenState} {d : Drawn} {t : Nat} {os : OsState}
variable {nm q : Str} {C N : Addr} {bs bm : List Value} {hdct : Bool} {sn : List Str} {sub : List Value} {ab : Bool} {col : Option Bool} {dd : Option Addr} {k0 k1 k2 k3 k5 : Option Value} {newId : String}
theorem call_mw {B i : String} {bmB : List Value} (F : ExcBaseFacts B newId i bmB) {u e t0 : Addr} {rest : List Value} {Q : Value → Shared → Prop}
    (hC : h.get? C = some (excClassObj nm q C N bs bm hdct sn sub ab col dd k0 k1 k2 k3 k5 newId)) (he : h.get? e = some (PySem.HandSPX.excO C t0)) (hu : h.get? u = some (PySem.W.kxs_mw i e)) (hrest : rest.length ≤ sizeLine)
    (hq : ∀ h' t1, (∀ b o, b ≠ e → h.get? b = some o → h'.get? b = some o) → h'.get? e = some (PySem.HandSPX.excO C t1) → Q .none ⟨h', g, d, t, os⟩) :
    wpAny (model prog w) A (call (.ref u) rest) Q E ⟨h, g, d, t, os⟩ := by
  refine wpAny_call (codeAny_of_tree ?_)
  show wpAny _ A.in1 (callAny (.ref u) ⟨rest, []⟩) _ _ _
  simp only [callAny]
  refine wpAny_bind (wpAny_load hu ?_)
  simp only [PySem.W.kxs_mw, show (Value.type "method-wrapper" == Value.type "method" || Value.type "method-wrapper" == Value.type "builtin_function_or_method" || Value.type "method-wrapper" == Value.type "method-wrapper") = true by decide, if_true]
  refine PySem.W.KFB.if_so (by decide) ?_
  refine wpAny_bind (PySem.W.check_bound_init F.toExcCallFacts hC he rfl ?_)
  refine wpAny_bind (wpAny_pure (wpAny_pure ?_))
  refine ⟨by first | exact plainId_quiet F.init.plain _ | exact PySem.plainId_quiet F.init.plain _ | exact PySem.Calls.plainId_quiet F.init.plain _, codeAny_builtin F.initEntry ?_⟩
  rw [Around.under_plainId F.init.plain _]
  wp_walk
  refine hq _ h.objs.size (fun b o hb ho => ?_) ?_
  · rw [Heap.get?_update_other _ _ (Ne.symm hb)]
    exact Heap.get?_push_of_some _ ho
  · rw [Heap.get?_update_self _ (Heap.get?_push_of_some _ he) rfl]
    rfl
end
/-- the context of its body -/
def cxC (CX : CXT) (P : Program) (w : World) (K : PySem.W.Frag) (mg : Str → Option Value) (base : Heap) (N : List Str) (qual : Str) (scope : Scope) (f cc : Addr) (cd : Value) (A : Around) (outer : List Env) (s : Shared) (H : Hp) (E : XK) : Cx where
  prog := P
  w := w
  K := K
  mg := mg
  base := base
  A := A.deeper (PySem.W.ksEnv qual scope s.heap.objs.size f cd cc)
  N := N
  s_0 := s
  H_0 := H
  env := PySem.W.ksEnv qual scope s.heap.objs.size f cd cc
  outer := outer
  stack := PySem.W.ksEnv qual scope s.heap.objs.size f cd cc :: outer
  ex := []
  calm := true
  fn := fun x => !decide (x = "__class__")
  pn := []
  xe := fun e s' => wpAny (model P w) (A.deeper (PySem.W.ksEnv qual scope s.heap.objs.size f cd cc)) (leaving (PySem.W.ksEnv qual scope s.heap.objs.size f cd cc) e) (fun _ s'' => CX outer H s E e s'') (fun e' s'' => CX outer H s E e' s'') s'
/-- its names: parameters local, no cell of its own, of outer names only __class__ -/
structure SScope (N P : List Str) (sc : Scope) : Prop where
  kind : sc.kind = .function
  co : sc.isCoroutine = false
  gen : sc.isGenerator = false
  nd : N.Nodup
  pre : N.take P.length = P
  par : ∀ x ∈ P, sc.names.lookup x = some .local
  nocell : ∀ y ∈ sc.names, y.2 ≠ .cell
  free : ∀ y ∈ sc.names, y.2 = .free → y.1 = "__class__"
  sup : sc.names.lookup ("super" : Str) = some .globalImplicit
  cls : sc.names.lookup ("__class__" : Str) = some .free
theorem lookup_rev : ∀ {ps : List Str} {us : List Value} {i : Nat} {y : Str} {u : Value}, ps.Nodup → ps[i]? = some y → us[i]? = some u → (ps.zip us).reverse.lookup y = some u
  | [], _, _, _, _, _, h, _ => by simp at h
  | p :: ps, [], i, _, _, _, _, h => by simp at h
  | p :: ps, u0 :: us, 0, y, u, nd, h1, h2 => by
    simp at h1 h2
    subst h1
    subst h2
    rw [List.zip_cons_cons, List.reverse_cons, List.lookup_append]
    have hn : (ps.zip us).reverse.lookup p = none := by
      rw [List.lookup_eq_none_iff]
      intro q hq
      have hq2 := (List.of_mem_zip (List.mem_reverse.mp hq)).1
      have : p ∉ ps := (List.nodup_cons.mp nd).1
      simp
      exact fun z => this (z ▸ hq2)
    rw [hn]
    simp
  | p :: ps, u0 :: us, i + 1, y, u, nd, h1, h2 => by
    rw [List.zip_cons_cons, List.reverse_cons, List.lookup_append, lookup_rev (List.nodup_cons.mp nd).2 (by simpa using h1) (by simpa using h2)]
    rfl
theorem cell_of {K : PySem.W.Frag} {cc Cd : Addr} {h : Heap} (X : K.In h) (e : ∃ cl cld csl, K.lookup cc = some ⟨cl, cld, .cell (some (.ref Cd)), csl⟩) : h.IsCell cc (some (.ref Cd)) := by
  obtain ⟨cl, cld, csl, e⟩ := e
  exact ⟨_, X _ _ e, rfl⟩
theorem inv_startC {CX : CXT} {P : Program} {w : World} {K : PySem.W.Frag} {mg : Str → Option Value} {base : Heap} {N ps : List Str} {qual : Str} {scope : Scope} {f cc Cd : Addr} {cd : Value} {A : Around} {outer : List Env} {s : Shared} {h₁ : Heap} {tk : Nat} {H : Hp} {E : XK} {us : List Value} {vs : List V}
    (S : SScope N ps scope) (hd : A.handled = none) (e0 : Env0 P w K mg base A outer s H) (hl : vs.length = ps.length) (r : Vals vs us) (hcc : ∃ cl cld csl, K.lookup cc = some ⟨cl, cld, .cell (some (.ref Cd)), csl⟩)
    (hns : h₁.Ns s.heap.objs.size fun y => (ps.zip us).reverse.lookup y) (kp : ∀ b o, s.heap.get? b = some o → h₁.get? b = some o) :
    Inv (cxC CX P w K mg base N qual scope f cc cd A outer s H E) [] (L2.start N vs) H { s with heap := h₁, toks := tk } := by
  have hpl : ps.length ≤ N.length := by have := congrArg List.length S.pre; rw [List.length_take] at this; omega
  have noA : ∀ b : Addr, b ∉ (cxC CX P w K mg base N qual scope f cc cd A outer s H E).ex := fun b z => absurd (show b ∈ ([] : List Addr) from z) (by simp)
  have look : ∀ {y c}, ([(("__class__" : Str), cc)] : List (Str × Addr)).lookup y = some c → y = "__class__" ∧ c = cc := fun {y c} e => by
    simp only [List.lookup] at e
    split at e
    · rename_i q
      cases e
      exact ⟨by simpa using q, rfl⟩
    · cases e
  have X : K.In s.heap := e0.mod.kin.keeps fun b o e => (e0.bs b o e).1
  have Xb : K.In base := e0.mod.kin
  have hcn : H cc = none := by
    obtain ⟨cl, cld, csl, e⟩ := hcc
    exact (e0.bs cc _ (Xb _ _ e)).2
  refine ⟨⟨e0.mod, S.kind, rfl, rfl, Nat.le_refl _, fun y z c h1 h2 => ?_, fun y hy => ?_, fun y c z h => ?_, fun _ => hd, Around.frames_deeper e0.frames, .inr ⟨rfl, rfl⟩, fun b z => absurd z (noA b), e0.bs, e0.bsz, fun b _ _ => noA b, fun b z => absurd z (noA b), e0.funs, e0.frf⟩,
    rfl, e0.bare, Un.kept kp, ⟨_, hns, fun i y v h1 h2 h3 => ?_⟩, fun y c h => ?_, e0.hok.fresh (Nat.le_refl _), fun y c h => ?_, fun p hp => absurd (show p ∈ ([] : List (Addr × Obj)) from hp) (by simp), e0.hok.kept kp, ?_⟩
  · exact (look h1).1.trans (look h2).1.symm
  · have hy : scope.names.lookup y = some .cell ∨ scope.names.lookup y = some .free := hy
    rcases hy with hy | hy
    · exact absurd rfl (S.nocell _ (PySem.mem_of_lookup hy))
    · have e := S.free _ (PySem.mem_of_lookup hy) rfl
      have e : y = "__class__" := e
      subst e
      exact ⟨cc, rfl⟩
  · have e := (look h).1
    subst e
    exact nomatch (show (!decide (("__class__" : Str) = "__class__")) = true from z)
  · have hi : i < vs.length := by
      unfold L2.start at h2
      by_cases hi : i < vs.length
      · exact hi
      · rw [List.getElem?_append_right (by simpa using hi)] at h2
        rw [List.getElem?_replicate] at h2
        split at h2 <;> cases h2
    have ha : vs[i]? = some v := by
      unfold L2.start at h2
      rw [List.getElem?_append_left (by simpa using hi), List.getElem?_map] at h2
      cases e : vs[i]? with
      | none => rw [e] at h2; cases h2
      | some a => rw [e] at h2; cases h2; rfl
    obtain ⟨u, hu, rv⟩ := r.get ha
    have hp : ps[i]? = some y := by
      rw [← S.pre, List.getElem?_take_of_lt (by omega)]; exact h1
    have ndP : ps.Nodup := by rw [← S.pre]; exact S.nd.sublist (List.take_sublist _ _)
    exact ⟨u, rv, .inl ⟨S.par y (List.mem_of_getElem? hp), lookup_rev ndP hp hu⟩⟩
  · obtain ⟨e1, e2⟩ := look h
    subst e2
    obtain ⟨o, ho, hdd⟩ := cell_of X hcc
    exact ⟨_, _, kp _ _ ho, hdd⟩
  · obtain ⟨e1, e2⟩ := look h
    rw [e2]
    exact hcn
  · unfold L2.start
    show _ = N.length
    rw [List.length_append, List.length_map, List.length_replicate]
    omega
end EXS
namespace EXS
open PySem PySem.Spec L2 PyProof.Rows
section
variable {X : Cx} {pins : List (Addr × Obj)} {σ : List (Option V)} {H : Hp} {s : Shared}
theorem at_super {body : List Stmt} {qual : Str} {scope : Scope} {L f cc cda D x C : Addr} {p0 p1 : Pos} {attr : Str} {whole : Sem Value} {fd : FuncData} {ar : Arg} {vs : Array Value} {file : Str} {tf : Tok} {oc ccl cl : Value} {od cdd cld : Option Addr} {osl ccs csl : Array (Option Value)} {cdD : ClassData} {ox : Obj} {Q : Value → Shared → Prop} {E : Value → Shared → Prop}
    (I : Inv X pins σ H s) (heq : X.env = PySem.W.ksEnv qual scope L f (.ref cda) cc)
    (hf : X.K.lookup f = some ⟨oc, od, .func fd, osl⟩) (hp : (fd.params.posonlyargs ++ fd.params.args).head? = some ar)
    (hcode : X.K.lookup cda = some ⟨ccl, cdd, .fields vs, ccs⟩) (hvs : vs[2]? = some (.str file tf)) (hfile : ((X.prog.main.file : Str) == file) = true)
    (hcell : X.K.lookup cc = some ⟨cl, cld, .cell (some (.ref D)), csl⟩) (hD : PySem.W.clsIn X.K D = some cdD) (hsub : PySem.W.mroIn X.K C (.ref D) = some true) (hsuper : X.mg "super" = none)
    (hat : (attr == ("__class__" : Str)) = false) (hks : scope.names.lookup ("super" : Str) = some .globalImplicit) (hkc : scope.names.lookup ("__class__" : Str) = some .free) (hka : scope.names.lookup ar.arg = some .local)
    (htop : (X.prog.main.scope.names.lookup ("super" : Str)).isSome = false)
    (hv : ∃ i : Nat, X.N[i]? = some ar.arg ∧ σ[i]? = some (some (V.ref x))) (hx : s.heap.get? x = some ox) (hxc : ox.cls = .ref C) (hnc : ∀ c, ox.data ≠ .cls c)
    (h : ∀ h', h'.get? s.heap.objs.size = some (PySem.W.ks_superObj D x C) → (∀ b o, s.heap.get? b = some o → h'.get? b = some o) → Q (.ref s.heap.objs.size) { s with heap := h' }) :
    PySem.wpAt (model X.prog X.w) X.A (.func body X.env) (attributeBase (.Call (.Name "super" p0) [] [] p1) attr X.env whole) Q E s := by
  have XK : X.K.In s.heap := I.kIn
  have hk : X.env.scope.kind = .function := I.ok.kind
  have hk2 : scope.kind = .function := by rw [heq] at hk; exact hk
  obtain ⟨m, hns, hlk⟩ := I.loc
  obtain ⟨i, hN, hσ⟩ := hv
  have hval : m ar.arg = some (.ref x) := by
    obtain ⟨u, ru, lu⟩ := hlk i _ _ hN hσ (.inl (by rw [heq]; exact hka))
    obtain rfl : u = Value.ref x := ru
    rcases lu with ⟨_, e⟩ | ⟨e, _⟩
    · exact e
    · rw [heq] at e
      have e : scope.names.lookup ar.arg = some .cell ∨ scope.names.lookup ar.arg = some .free := e
      rw [hka] at e
      rcases e with e | e <;> cases e
  obtain ⟨mb, hb1, hb2⟩ := I.mod.blt
  obtain ⟨oD, hD1, hD2⟩ : ∃ oD, s.heap.get? D = some oD ∧ oD.data = .cls cdD := by
    unfold PySem.W.clsIn at hD
    split at hD
    · rename_i c d cd' sl ho
      cases hD
      exact ⟨_, XK _ _ ho, rfl⟩
    · cases hD
  have hglob := I.ok.glob
  have hblt := I.ok.blt
  have g1 : s.heap.Ns X.env.globals X.mg := by rw [hglob]; exact I.mod.glob.keeps I.bk
  have g2 : s.heap.Ns X.env.builtins mb := by rw [hblt]; exact hb1.keeps I.bk
  rw [heq] at hns g1 g2 ⊢
  obtain ⟨hh, g, d, t, os⟩ := s
  refine PySem.ks_wpAt_super_base (env := PySem.W.ksEnv qual scope L f (.ref cda) cc) hks hkc hat rfl (XK _ _ hf) rfl hp rfl (XK _ _ hcode) rfl hvs hfile htop ?_
  refine PySem.W.ks_loadName_global hk2 hks (PySem.Calls.loadGlobal_builtin g1 hsuper g2 ((hb2 _ (by decide)).trans (show bootBuiltins "super" = some (.type "super") by first | boot_by_name | rfl | kernel_rfl)) ⟨rfl, ?_⟩)
  refine PySem.wpAny_loadName_free hk2 hkc rfl ⟨_, XK _ _ hcell, rfl⟩ ?_
  refine PySem.wpAny_loadName_local hk2 hka hns hval ?_
  refine PySem.ks_wpAny_isType_cls hD1 hD2 ⟨rfl, ?_⟩
  exact PySem.ks_wpAny_call_super hD1 hD2 hx hxc hnc (PySem.W.looks_mroIn XK hsub) (fun h' e k => h h' e k)
end
end EXS
namespace EXS
open PySem PySem.Spec L2 PyProof.Rows
structure SupFn (K : PySem.W.Frag) (fl : Str) (name qual : Str) (params : Arguments) (body : List Stmt) (scope : Scope) (D : Addr) (f cc cda : Addr) (fd : FuncData) : Prop where
  ex : ∃ (oc ccl cl dV kV doc pm ct : Value) (an od cdd cld : Option Addr) (osl ccs csl : Array (Option Value)) (vs : Array Value) (file : Str) (tf : Tok) (cdD : ClassData),
    fd = PySem.W.ksFn name qual params body scope dV kV doc pm an (.ref cda) ct cc ∧ K.lookup f = some ⟨oc, od, .func fd, osl⟩ ∧ PySem.W.codeIn K (.ref cda) qual = true ∧
    K.lookup cda = some ⟨ccl, cdd, .fields vs, ccs⟩ ∧ vs[2]? = some (.str file tf) ∧ (fl == file) = true ∧ K.lookup cc = some ⟨cl, cld, .cell (some (.ref D)), csl⟩ ∧ PySem.W.clsIn K D = some cdD ∧ dV = .none
  keep : PySem.W.keepIn K (.ref f) = true
/-- what it says of the class D whose __init__ this is: an exception over ValueError -/
structure ExcD (K : PySem.W.Frag) (D : Addr) : Prop where
  ox : OexC K D
  st : PySem.W.nsIn K PySem.cStatics "thirdparty.any" = some none
  su : PySem.W.ks_superIn K D D "__init__" = some (some (.builtin "ValueError.__init__"))
  mr : PySem.W.mroIn K D (.ref D) = some true
  ve : PySem.W.subIn K (.ref D) (.type "ValueError") = some true
section
variable {CX : CXT} {P : Program} {w : World} {K : PySem.W.Frag} {mg : Str → Option Value} {base : Heap} {k : Nat} {name qual : Str} {params : Arguments} {rest : List Stmt} {scope : Scope} {D f cc cda : Addr} {fd : FuncData} {N ps : List Str} {sp : Sp} {e : Expr} {es : List Expr} {p0 p1 p2 p3 p4 : Pos} {x0 : Str} {ar : Arg}
theorem fn_exc (F : SupFn K P.main.file name qual params (.Expr (.Call (.Attribute (.Call (.Name "super" p0) [] [] p1) "__init__" p2) (e :: es) [] p3) p4 :: rest) scope D f cc cda fd) (G : ExcD K D) (S : SScope N ps scope)
    (hsup : mg "super" = none) (htop : (P.main.scope.names.lookup ("super" : Str)).isSome = false) (hps : ps.head? = some x0) (hN : N[0]? = some x0) (hp : (params.posonlyargs ++ params.args).head? = some ar) (hx0 : ar.arg = x0)
    (len : ∀ vs H Q E, sp vs H Q E → vs.length = ps.length)
    (hobj : ∀ vs H Q E, sp vs H Q E → ∃ a ws, vs = .ref a :: ws ∧ H a = some (exo a D none))
    (hbody : ∀ (A : Around) (outer : List Env) (s : Shared) (H : Hp) (vs : List V) (Q : VK) (E : XK) (a : Addr) (ws : List V), Room k (A.deeper (PySem.W.ksEnv qual scope s.heap.objs.size f (.ref cda) cc)) → sp vs H Q E → vs = .ref a :: ws →
      ∃ ta t, PA (cxC CX P w K mg base N qual scope f cc (.ref cda) A outer s H E) (e :: es) ta ∧ PSs (cxC CX P w K mg base N qual scope f cc (.ref cda) A outer s H E) rest t ∧
        ta (L2.start N vs) H fun us H1 => us.length ≤ 1000 ∧ H1 a = some (exo a D none) ∧ t { nx := fun _ H' => Q .non H', rt := Q } (L2.start N vs) H1)
    (he : ∀ env, starEach (e :: es) env = (false, eval e env) :: starEach es env) (hpl : ∀ env, (backTo p3 (starEach es env)).any (·.1) = false) {pl : Env → Sem Bool}
    (hcl : ∀ env, eval (.Call (.Attribute (.Call (.Name "super" p0) [] [] p1) "__init__" p2) (e :: es) [] p3) env = (do
      let ov ← attributeBase (.Call (.Name "super" p0) [] [] p1) "__init__" env (eval (.Call (.Name "super" p0) [] [] p1) env)
      standAt p2.atName
      let (f, first) ← holding [ov] (getMethod ov "__init__" (pl env))
      callWith p3 f first (backTo p3 (starEach (e :: es) env)) [])) :
    FnOk P w K mg base CX (k + 1) f fd ps sp := by
  refine ⟨len, fun A outer s H args us vs Q E hr e0 hb r hsp => ?_⟩
  obtain ⟨oc, ccl, cl, dV, kV, doc, pm, ct, an, od, cdd, cld, osl, ccs, csl, vs2, file, tf, cdD, hfd, lk, hcd, lcd, hvs, hfile, lcc, hcD, _⟩ := F.ex
  have hl := len _ _ _ _ hsp
  have KX : K.In s.heap := e0.mod.kin.keeps fun b o e => (e0.bs b o e).1
  have lim : s.heap.NoLimit := e0.mod.nolimit.keeps fun b o e => (e0.bs b o e).1
  obtain ⟨a, ws, hvs0, hHa⟩ := hobj _ _ _ _ hsp
  subst hfd
  refine PySem.ks_codeAny_call_defAt (fd := PySem.W.ksFn name qual params _ scope dV kV doc pm an (.ref cda) ct cc) hr.depth (KX _ _ lk) rfl lim (PySem.W.codeRec_of KX hcd) rfl hb S.nocell (fun x hx => S.par x.1 (List.of_mem_zip hx).1) (fun h1 hns kp => ?_) S.co S.gen S.kind
  show PySem.wpAt (model P w) (A.deeper (PySem.W.ksEnv qual scope s.heap.objs.size f (.ref cda) cc)) _ _ _ _ _
  obtain ⟨ta, t, hPA, hPSs, hq⟩ := hbody A outer s H vs Q E a ws (hr.deeper _) hsp hvs0
  generalize hX : cxC CX P w K mg base N qual scope f cc (.ref cda) A outer s H E = X at hPA hPSs
  have I : Inv X [] (L2.start N vs) H { s with heap := h1, toks := s.toks + (ps.zip us).length } := by
    rw [← hX]
    exact inv_startC S hr.hd e0 hl r ⟨_, _, _, lcc⟩ hns kp
  have hXp : X.prog = P := by rw [← hX]; rfl
  have hXw : X.w = w := by rw [← hX]; rfl
  have hXK : X.K = K := by rw [← hX]; rfl
  have hXmg : X.mg = mg := by rw [← hX]; rfl
  have hXA : X.A = A.deeper (PySem.W.ksEnv qual scope s.heap.objs.size f (.ref cda) cc) := by rw [← hX]; rfl
  have hXe : X.env = PySem.W.ksEnv qual scope s.heap.objs.size f (.ref cda) cc := by rw [← hX]; rfl
  have hXN : X.N = N := by rw [← hX]; rfl
  have hXxe : X.xe = fun e s' => wpAny (model P w) (A.deeper (PySem.W.ksEnv qual scope s.heap.objs.size f (.ref cda) cc)) (leaving (PySem.W.ksEnv qual scope s.heap.objs.size f (.ref cda) cc) e) (fun _ s'' => CX outer H s E e s'') (fun e' s'' => CX outer H s E e' s'') s' := by rw [← hX]; rfl
  have oX : OexC X.K D := by rw [hXK]; exact G.ox
  have fin : ∀ {σ' : L2.St} {H' : Hp} {v : V} {u : Value} {s' : Shared}, Inv X [] σ' H' s' → RelV v u → Q v H' → CE outer P w H s Q u s' := by
    intro σ' H' v u s' J rv q
    subst hX
    exact ⟨v, H', J.os, J.bare, J.base, J.hok, rv, q⟩
  have go : PySem.wpAt (model X.prog X.w) X.A (.func (.Expr (.Call (.Attribute (.Call (.Name "super" p0) [] [] p1) "__init__" p2) (e :: es) [] p3) p4 :: rest) X.env) (execs (.Expr (.Call (.Attribute (.Call (.Name "super" p0) [] [] p1) "__init__" p2) (e :: es) [] p3) p4 :: rest) X.env)
      (SP X [] { nx := fun _ H' => Q .non H', rt := Q }) X.xe { s with heap := h1, toks := s.toks + (ps.zip us).length } := by
    have hint : interactive X.env = false := I.quiet
    refine PySem.ks_wpAt_execs_cons (PySem.ks_wpAt_Expr_any (PySem.ks_wpAt_MethodCall (pl := pl X.env) ?_ (hcl X.env)) hint)
    obtain ⟨t1, hex⟩ := exo_at I.hok hHa
    have hps0 : (0 : Nat) < ps.length := by cases ps with | nil => cases hps | cons _ _ => exact Nat.zero_lt_succ _
    have hxin : x0 ∈ ps := by cases ps with | nil => cases hps | cons z _ => cases (Option.some.inj hps); exact List.mem_cons_self
    refine at_super (D := D) (x := a) (C := D) I hXe (by rw [hXK]; exact lk) hp (by rw [hXK]; exact lcd) hvs (by rw [hXp]; exact hfile) (by rw [hXK]; exact lcc) (by rw [hXK]; exact hcD) (by rw [hXK]; exact G.mr) (by rw [hXmg]; exact hsup) (by decide) S.sup S.cls (by rw [hx0]; exact S.par x0 hxin) (by rw [hXp]; exact htop)
      ⟨0, by rw [hXN, hx0]; cases N with | nil => cases hN | cons z _ => exact hN, by rw [hvs0]; rfl⟩ hex rfl (fun c z => by cases z) (fun h2 so k2 => ?_)
    -- the wrapper
    have I2 : Inv X [] (L2.start N vs) H { s with heap := h2, toks := s.toks + (ps.zip us).length } := I.kept (t' := s.toks + (ps.zip us).length) k2
    have XK2 : X.K.In h2 := I2.kIn
    have hexo := k2 _ _ hex
    have hsu : PySem.W.ks_superIn X.K D D "__init__" = some (some (.builtin "ValueError.__init__")) := by rw [hXK]; exact G.su
    cases hc : PySem.W.clsIn X.K D with
    | none => unfold PySem.W.ks_superIn at hsu; rw [hc] at hsu; cases hsu
    | some cd =>
    unfold PySem.W.ks_superIn at hsu
    rw [hc] at hsu
    have hse : ∀ (u : Addr) (o : Obj), h2.get? u = some o → u ≠ h2.objs.size := fun u o z => Nat.ne_of_lt (Heap.lt_size z)
    have haD : a ≠ D := by
      intro z
      unfold PySem.W.clsIn at hc
      split at hc
      · rename_i c d cd' sl ho
        have q := XK2 _ _ ho
        rw [← z, hexo] at q
        cases q
      · cases hc
    have hty : PySem.W.Looks (model X.prog X.w) h2 (isInstance (.ref a) (.type "ValueError")) true := by
      have II : PySem.W.InstAt h2 a _ D none := ⟨hexo, rfl, rfl, trivial⟩
      exact II.type.andThen (PySem.W.looks_subIn XK2 (by rw [hXK]; exact G.ve))
    refine PySem.W.kxs_getMethod PySem.W.kxs_ValueError (l₀ := cd.mro) so (PySem.W.looks_opaque XK2 (by rw [hXK]; exact G.st)) ?_ rfl XK2 hsu hty haD (by decide) ?_
    · exact fun A Q E s k q => wpAny_bind ((PySem.W.looks_clsIn XK2 hc) A _ E s k (wpAny_pure q))
    have hmw : (h2.push (PySem.W.kxs_mw "ValueError.__init__" a)).get? h2.objs.size = some (PySem.W.kxs_mw "ValueError.__init__" a) := Heap.get?_push_at rfl rfl
    have I3 : Inv X [] (L2.start N vs) H { s with heap := h2.push (PySem.W.kxs_mw "ValueError.__init__" a), toks := s.toks + (ps.zip us).length + 1 } := I2.kept (t' := s.toks + (ps.zip us).length + 1) (fun b u z => Heap.get?_push_of_some _ z)
    have hHn : H h2.objs.size = none := I2.hok.fresh (Nat.le_refl _)
    have I4 : Inv X [(h2.objs.size, PySem.W.kxs_mw "ValueError.__init__" a)] (L2.start N vs) H { s with heap := h2.push (PySem.W.kxs_mw "ValueError.__init__" a), toks := s.toks + (ps.zip us).length + 1 } := by
      refine I3.pins_of fun p hp => ?_
      cases hp with
      | tail _ z => cases z
      | head =>
      refine ⟨hmw, hHn, fun z => ?_, I2.nofs (Nat.le_refl _), fun v z => by cases z⟩
      have := I2.lt
      rw [← z] at this
      exact absurd this (Nat.lt_irrefl _)
    rw [he X.env]
    refine PySem.W.kxs_callWith (i := "ValueError.__init__") (x := a) (by show (false || (backTo p3 (starEach es X.env)).any (·.1)) = false; rw [hpl]; rfl) (PySem.Calls.evalArgs_plain ?_)
    have h5 := hPA.run p3 _ _ _ H _ I4 hq
    rw [he X.env] at h5
    refine thn h5 fun us2 s5 ⟨vs5, H5, I5, r5, hz5, ea5, q5⟩ => ?_
    have hmw5 : s5.heap.get? h2.objs.size = some (PySem.W.kxs_mw "ValueError.__init__" a) := (I5.pin _ (List.mem_append_right _ List.mem_cons_self)).1
    refine ⟨hmw5, ?_⟩
    obtain ⟨nm, qq, N1, bs, bm, sn, sub, ab, col, dd, k0, k1, k22, k3, k5, hC, hbm⟩ := oX.cls
    obtain ⟨t5, hex5⟩ := exo_at I5.hok ea5
    obtain ⟨hp5, g5, d5, tk5, os5⟩ := s5
    have hlen : us2.length ≤ sizeLine := by
      rw [← Paired.length r5, sizeLine_eq]
      omega
    refine call_mw PySem.F.excBase_ValueError (I5.kIn _ _ hC) hex5 hmw5 hlen fun h6 t6 k6 hx6 => ?_
    have J := I5.write (t' := tk5) (x := a) (e := a) (o := exo a D none) (by rw [ea5]; exact True.intro) (.inl rfl) k6 ⟨_, hx6⟩ (exo_ok hx6)
    have eu : upd H5 a (exo a D none) = H5 := by
      funext b
      by_cases hb : b = a
      · rw [hb, upd_same, ea5]
      · rw [upd_ne hb]
    rw [eu] at J
    exact wpAt_of_wpAny (hPSs.run [] _ _ H5 _ (J.pins_of fun p hp => by cases hp) q5)
  rw [hXp, hXw, hXA, hXxe, hXe] at go
  refine PySem.ks_wpAt_mono go (fun fl s' hs => ?_) fun e s' z => z
  cases fl with
  | ret u =>
    obtain ⟨v, σ', H', J, rv, q⟩ := hs
    exact fin J rv q
  | next =>
    obtain ⟨σ', H', J, q⟩ := hs
    exact fin (v := V.non) (u := Value.none) J rfl q
  | brk =>
    obtain ⟨_, _, _, q⟩ := hs
    exact False.elim q
  | cont =>
    obtain ⟨_, _, _, q⟩ := hs
    exact False.elim q
end
end EXS
namespace L2
open PySem PySem.Spec PyProof.Rows
theorem _root_.PySem.HandSPX.FlyingZ.keeps {base h h' : Heap} {l : List Env} {e : Addr} {Z : Obj → Prop} (f : HandSPX.FlyingZ base l e Z h) (k : ∀ b o, h.get? b = some o → h'.get? b = some o) : HandSPX.FlyingZ base l e Z h' := by
  obtain ⟨f1, f2, f3, oe, vs, T, oT, ts, e1, e2, e3, e4, e5, e6, e7, e8, e9⟩ := f
  exact ⟨fun b o z => k b o (f1 b o z), f2, Heap.FunFrames.of_keeps (fun b o z _ => ⟨o, k b o z, rfl⟩) f3, oe, vs, T, oT, ts, k _ _ e1, e2, e3, e4, e5, e6, k _ _ e7, e8, e9⟩
/-- what the clause wishes -/
def wAs3 (K : PySem.W.Frag) (n : Nat) (c1 c2 c3 : Value) (i : Nat) (ts : Addr → Value → Option Addr → TS) (Wout : WX) (D : Ends) : WX := fun cls d σ H => σ.length = n →
  ∃ b, PySem.W.exmAny K cls [c1, c2, c3] = some b ∧ (b = true → ∀ a, H a = none → ts a cls d { nx := fun σ' H' => D.nx (σ'.set i none) H', rt := D.rt, bk := fun σ' H' => D.bk (σ'.set i none) H', ct := fun σ' H' => D.ct (σ'.set i none) H' } (σ.set i (some (.ref a))) H) ∧
    (b = false → Wout cls d σ H)
section
variable {X : Cx} {x1 x2 x3 n : Str} {c1 c2 c3 : Value} {i tk0 : Nat} {body suite : List Stmt} {b₀ : Stmt} {np1 np2 np3 tpos pos pos' : Pos} {tb : WX → TS} {ts : Addr → Value → Option Addr → TS} {Wout : WX}
theorem ps_try_as3 (hs : X.stack = X.env :: X.outer) (hf : X.env.frame = some X.env.locals) (hN : X.N.Nodup) (hi : X.N[i]? = some n) (hln : X.env.kindOf n = some .local) (hc1 : Names X x1 c1) (hc2 : Names X x2 c2) (hc3 : Names X x3 c3) (tk : Takes X Wout)
    (hb : ∀ (W : WX) (pn : List (Addr × Obj)) (xe : Value → Shared → Prop), Takes (X.tr pn xe) W → PassesOwn (model X.prog X.w) X.A X.env xe → PSs (X.tr pn xe) body (tb W))
    (hsu : ∀ (a : Addr) (oe : Obj) (cls : Value) (d : Option Addr) (pn : List (Addr × Obj)), Zc cls d oe → (∃ vs, oe.data = .fields vs) → PSs (X.suite a ((a, oe) :: pn)) (b₀ :: suite) (ts a cls d)) :
    PS X (.Try body [.ExceptHandler (some (.Tuple [.Name x1 np1, .Name x2 np2, .Name x3 np3] tk0 tpos)) (some n) (b₀ :: suite) pos'] [] [] pos) (fun D σ H => tb (wAs3 X.K X.N.length c1 c2 c3 i ts Wout D) D σ H) := by
  refine ⟨fun pins s σ H D I h => ?_⟩
  have ok := I.ok
  have hfr : X.A.frames = some (X.env :: X.outer) := by rw [ok.frames, hs]
  have hloc : Loc X.env.scope n := .inl hln
  refine wpAny_Try_except ?_
  refine wpAny_mono ((hb (wAs3 X.K X.N.length c1 c2 c3 i ts Wout D) (X.pn ++ pins) (fun e s₁ => wpAny (model X.prog X.w) X.A (noteFrame e X.env) (fun _ s₂ => wpAny (model X.prog X.w) X.A (setFlight e none) (fun _ s₃ =>
    wpAny (model X.prog X.w) X.A (handleBy e X.env [.ExceptHandler (some (.Tuple [.Name x1 np1, .Name x2 np2, .Name x3 np3] tk0 tpos)) (some n) (b₀ :: suite) pos']) (SP X pins D) X.xe s₃) X.xe s₂) X.xe s₁) (fun u s' xx => ?_) PassesOwn.looking).run [] s σ H D (I.toTry _) h) (fun f s1 hsp => ?_) (fun e s1 he => he)
  · -- the catch
    obtain ⟨a, B, sI, pins', σ', H', cls, d, rfl, J', nb, up, sky, na, os, ag, wq⟩ := xx
    obtain ⟨b, hb1, hyes, hno⟩ := wq J'.len
    have J : Inv X pins σ' H' sI := J'.ofTry ok
    have sky' : Sky B (X.env :: X.outer) a (Zc cls d) X.env.locals s'.heap := by rw [← hs]; exact sky
    show wpAny (model X.prog X.w) X.A (noteFrame (.ref a) X.env) _ _ _
    refine Sky.land Zc.steady hfr hf sky' fun h3 fl3 up3 => ?_
    have J3 : Inv X pins σ' H' { s' with heap := h3 } := J.landed nb fl3.1 (up.trans up3) os ag
    obtain ⟨oe3, vs3, he3, hz3, hd3⟩ := fl3.there
    have notFr : ∀ {h : Heap} {o : Obj} {vs : Array Value}, h.FunFrames B (X.env :: X.outer) → h.get? a = some o → o.data = .fields vs → a ∉ frs (X.env :: X.outer) := fun {h o vs} ff e dd hm => by
      obtain ⟨_, o', e', hnf⟩ := ff.mem hm
      rw [e] at e'; cases e'
      exact hnf _ dd
    have nfr := notFr fl3.2.2.1 he3 hd3
    have nL : a ≠ X.env.locals := fun z => nfr (List.mem_filterMap.mpr ⟨X.env, List.mem_cons_self, by rw [hf, z]⟩)
    have nF : a ∉ X.fs := fun hm => by
      obtain ⟨e, he, q⟩ := List.mem_filterMap.mp hm
      exact nfr (List.mem_filterMap.mpr ⟨e, List.mem_cons_of_mem _ he, q⟩)
    have S3 := J3.suite he3 hd3 na nL nF
    refine wpAny_handleBy_cons (codeAny_handlers_test ?_) (by intro q; cases q)
    have LT : PySem.W.Looks (model X.prog X.w) h3 (typeOf (.ref a)) cls := fun A Q E s k q => wpAny_typeOf_ref (k _ _ he3) (by rw [hz3.1]; exact q)
    have ld : ∀ {x : Str} {np : Pos} {c : Value} {Q : Value → Shared → Prop} {E : Value → Shared → Prop}, Names X x c → Q c { s' with heap := h3 } → wpAny (model X.prog X.w) (X.A.mark (some (.ref a))) (eval (.Name x np) X.env) Q E { s' with heap := h3 } := fun {x np c Q E} hc q => by
      obtain ⟨hg, hdbg, hm | ⟨hm, hv, hnn⟩⟩ := hc
      · exact ld_glob (X := X.suite a ((a, oe3) :: (X.pn ++ pins))) S3 hg hm q hdbg
      · exact ld_blt (X := X.suite a ((a, oe3) :: (X.pn ++ pins))) S3 hg hm hv q hnn hdbg
    refine wpAny_Tuple (PySem.wpAny_items_cons (ld hc1 (PySem.wpAny_items_cons (ld hc2 (PySem.wpAny_items_cons (ld hc3 (PySem.wpAny_items_nil ⟨by size_fits, ?_⟩)))))))
    have kp : ∀ q o, h3.get? q = some o → (h3.push { cls := .type "tuple", data := .seq [c1, c2, c3].toArray }).get? q = some o := fun _ _ z => Heap.get?_push_of_some _ z
    refine (PySem.W.exm_tup3 (J3.kIn.keeps kp) (LT.keeps kp) (Heap.get?_push_size h3 rfl) hb1).here ?_
    have fl3o := fl3
    have up3o := up3
    generalize hh3 : h3.push { cls := .type "tuple", data := .seq [c1, c2, c3].toArray } = h3n at kp
    have fl3 := fl3o.keeps kp
    have up3 := up3o.trans (Heap.UpToSlots.of_keeps kp)
    cases b with
    | true =>
      refine codeAny_handlers_suite_as ?_
      refine HandSPX.lands_againZ fl3 fun h4 fl4 up4 => ?_
      have J4 : Inv X pins σ' H' { s' with heap := h4 } := J.landed nb fl4.1 ((up.trans up3).trans up4) os ag
      obtain ⟨oe4, vs4, he4, hz4, hd4⟩ := fl4.there
      have S4 := J4.suite he4 hd4 na nL nF
      refine store_ok (X := X.suite a ((a, oe4) :: (X.pn ++ pins))) (v := .ref a) S4 hN hi hloc rfl (fun s5 S5 => ?_) (.inr hln)
      refine wpAny_mono ((hsu a oe4 cls d (X.pn ++ pins) hz4 ⟨_, hd4⟩).run [] s5 _ H' _ S5 (hyes rfl a na)) (fun f s6 hsp => ?_) (fun _ _ z => False.elim z)
      have end_ : ∀ {σ6 : St} {H6 : Hp} {Q : Shared → Prop}, Inv (X.suite a ((a, oe4) :: (X.pn ++ pins))) [] σ6 H6 s6 → (∀ s7, Inv X pins (σ6.set i none) H6 s7 → Q s7) →
          wpAny (model X.prog X.w) X.A (do bindName X.env n .none; unbindBehindTheSuite X.env n pos') (fun _ s7 => Q s7) X.xe s6 := fun {σ6 H6 Q} S6 hq => gone_ok (S6.unsuite ok) hN hi hln hq
      cases f with
      | next =>
        obtain ⟨σ6, H6, S6, q6⟩ := hsp
        exact end_ S6 fun s7 J7 => ⟨_, _, J7, q6⟩
      | brk =>
        obtain ⟨σ6, H6, S6, q6⟩ := hsp
        exact end_ S6 fun s7 J7 => ⟨_, _, J7, q6⟩
      | cont =>
        obtain ⟨σ6, H6, S6, q6⟩ := hsp
        exact end_ S6 fun s7 J7 => ⟨_, _, J7, q6⟩
      | ret u =>
        obtain ⟨v6, σ6, H6, S6, r6, q6⟩ := hsp
        exact end_ S6 fun s7 J7 => ⟨_, _, _, J7, r6, q6⟩
    | false =>
      show wpAny _ X.A (handleBy (.ref a) X.env []) _ _ _
      refine wpAny_handleBy_nil ?_
      obtain ⟨k1, k2, k3, oe, vs, T, oT, ts', he, hz, hd, h1, hr⟩ := id fl3
      unfold PySem.passOn
      refine wpAny_bind (wpAny_field he hd h1 ?_)
      rw [if_neg (show ¬ ((Value.ref T == Value.none) = true) from by simp)]
      have fin : wpAny (model X.prog X.w) X.A (setFlight (.ref a) X.env.frame) (fun _ s4 => wpAny (model X.prog X.w) X.A (throw (.ref a) : Sem Flow) (SP X pins D) X.xe s4) X.xe { s' with heap := h3n } := by
        rw [hf]
        refine HandSPX.setFlight_upZ fl3 fun h4 hh4 up4 => wpAny_throw (tk _ _ ?_)
        exact ⟨a, B, sI, pins, σ', H', cls, d, rfl, J, nb, (up.trans up3).trans up4, .inr (.inr (by rw [hs]; exact hh4)), na, os, ag, hno rfl⟩
      first
        | exact wpAny_bind (wpAny_pure (wpAny_bind fin))
        | exact wpAny_bind fin
  · cases f with
    | next =>
      obtain ⟨σ', H', J', q⟩ := hsp
      exact wpAny_execs_nil ⟨σ', H', J'.ofTry ok, q⟩
    | brk =>
      obtain ⟨σ', H', J', q⟩ := hsp
      exact ⟨σ', H', J'.ofTry ok, q⟩
    | cont =>
      obtain ⟨σ', H', J', q⟩ := hsp
      exact ⟨σ', H', J'.ofTry ok, q⟩
    | ret u =>
      obtain ⟨v, σ', H', J', r, q⟩ := hsp
      exact ⟨v, σ', H', J'.ofTry ok, r, q⟩
end
end L2
namespace DL
open PySem PySem.Spec L2
variable [TbC]
/-- what a field is set to: a text, a parameter (behind self) -/
inductive Src where
  | str (s : Str) | par (i : Nat)
def Src.v (ws : List V) : Src → V
  | .str s => .str s
  | .par i => ws[i]?.getD .non
def Src.d (ds : List D) : Src → D
  | .str s => .str s
  | .par i => ds[i]?.getD .non
def Src.t : Src → TE
  | .str s => tC (.str s)
  | .par i => tVar (i + 1)
def Src.fits (n : Nat) : Src → Bool
  | .str _ => true
  | .par i => decide (i < n)
abbrev FL := List (Str × Src)
def fsV (l : FL) (ws : List V) : List (Str × V) := (l.map fun p => (p.1, p.2.v ws)).reverse
def fsK (l : FL) : List Str := (l.map (·.1)).reverse
def fsD (l : FL) (ds : List D) : List D := (l.map fun p => p.2.d ds).reverse
def fsW (l : FL) (ws : List V) : List V := (l.map fun p => p.2.v ws).reverse
theorem zip_map2 {α β γ : Type} (f : α → β) (g : α → γ) : ∀ l : List α, (l.map f).zip (l.map g) = l.map fun a => (f a, g a)
  | [] => rfl
  | a :: l => by rw [List.map_cons, List.map_cons, List.zip_cons_cons, zip_map2 f g l, List.map_cons]
theorem fs_zip (l : FL) (ws : List V) : (fsK l).zip (fsW l ws) = fsV l ws := by
  unfold fsK fsW fsV
  rw [← List.map_reverse, ← List.map_reverse, ← List.map_reverse, zip_map2]
theorem fs_rep {B : Option Addr} {S : Hp} {ds : List D} {ws : List V} {n : Nat} (r : RepL B S ds ws) (hn : ds.length = n) : ∀ (l : FL), l.all (fun p => p.2.fits n) = true → RepL B S (l.map fun p => p.2.d ds) (l.map fun p => p.2.v ws)
  | [], _ => repL_nil
  | (f, s) :: l, h => by
    rw [List.all_cons, Bool.and_eq_true] at h
    refine repL_cons ?_ (fs_rep r hn l h.2)
    cases s with
    | str s => exact rfl
    | par i =>
      have hi : i < ds.length := by rw [hn]; exact of_decide_eq_true h.1
      obtain ⟨v, e, q⟩ := r.get (i := i) (d := ds[i]) (by simp [hi])
      show Rep B S (ds[i]?.getD .non) (ws[i]?.getD .non)
      rw [e, List.getElem?_eq_getElem hi]
      exact q
def tCh (K : PySem.W.Frag) : FL → TS
  | [] => tNext
  | p :: l => tSeq (tOst K p.1 (tVar 0) p.2.t) (tCh K l)
section
variable {K : PySem.W.Frag} {C a dx : Addr} {σ : St} {H : Hp} {ws : List V} {n : Nat} {fs : List (Str × V)} {D0 : Ends}
theorem src_run {s : Src} {Q : VK} (h0 : ∀ i, i < n → σ[i + 1]? = some (some (ws[i]?.getD .non))) (hs : s.fits n = true) (q : Q (s.v ws) H) : s.t σ H Q := by
  cases s with
  | str s => exact q
  | par i => exact ⟨_, h0 i (of_decide_eq_true hs), q⟩
theorem chain_go (ox : OexC K C) (e0 : σ[0]? = some (some (.ref a))) (h0 : ∀ i, i < n → σ[i + 1]? = some (some (ws[i]?.getD .non))) : ∀ (l : FL) (fs : List (Str × V)) (H : Hp), (∀ p ∈ l, PySem.W.findIn K (.ref C) p.1 = some none) → l.all (fun p => p.2.fits n) = true → fs.length + l.length ≤ 900 →
    H a = some (exo a C (some dx)) → H dx = some (exd dx fs) → dx ≠ a → D0.nx σ (upd H dx (exd dx (fsV l ws ++ fs))) → tCh K l D0 σ H
  | [], fs, H, _, _, _, ea, ed, ne, q => by
    show D0.nx σ H
    have : upd H dx (exd dx (fsV [] ws ++ fs)) = H := by
      funext b
      by_cases z : b = dx
      · subst z
        rw [upd_same, ed]
        rfl
      · rw [upd_ne z]
    rw [this] at q
    exact q
  | p :: l, fs, H, na, hf, hl, ea, ed, ne, q => by
    rw [List.all_cons, Bool.and_eq_true] at hf
    refine src_run h0 hf.1 ?_
    refine ⟨_, e0, a, C, rfl, ox, na p List.mem_cons_self, .inr ⟨dx, fs, ea, ed, by rw [List.length_cons] at hl; omega, ?_⟩⟩
    refine chain_go ox e0 h0 l ((p.1, p.2.v ws) :: fs) _ (fun r hr => na r (List.mem_cons_of_mem _ hr)) hf.2 (by rw [List.length_cons] at hl ⊢; omega) (by rw [upd_ne ne.symm]; exact ea) upd_same ne ?_
    rw [upd_upd]
    have e : fsV (p :: l) ws ++ fs = fsV l ws ++ (p.1, p.2.v ws) :: fs := by
      unfold fsV
      rw [List.map_cons, List.reverse_cons, List.append_assoc]
      rfl
    rw [e] at q
    exact q
theorem chain_start (ox : OexC K C) (e0 : σ[0]? = some (some (.ref a))) (h0 : ∀ i, i < n → σ[i + 1]? = some (some (ws[i]?.getD .non))) {p : Str × Src} {l : FL} (na : ∀ r ∈ p :: l, PySem.W.findIn K (.ref C) r.1 = some none) (hf : (p :: l).all (fun p => p.2.fits n) = true) (hl : (p :: l).length ≤ 900)
    (ea : H a = some (exo a C none)) (q : ∀ d, H d = none → d ≠ a → D0.nx σ (upd (upd H d (exd d (fsV (p :: l) ws))) a (exo a C (some d)))) : tCh K (p :: l) D0 σ H := by
  have hf' := hf
  rw [List.all_cons, Bool.and_eq_true] at hf'
  refine src_run h0 hf'.1 ?_
  refine ⟨_, e0, a, C, rfl, ox, na p List.mem_cons_self, .inl ⟨ea, fun d hd ne => ?_⟩⟩
  have h1 : upd (upd H d (exd d [(p.1, p.2.v ws)])) a (exo a C (some d)) d = some (exd d [(p.1, p.2.v ws)]) := by rw [upd_ne ne, upd_same]
  refine chain_go (dx := d) ox e0 h0 l [(p.1, p.2.v ws)] _ (fun r hr => na r (List.mem_cons_of_mem _ hr)) hf'.2 (by rw [List.length_cons] at hl; simp; omega) upd_same h1 ne ?_
  have e : fsV l ws ++ [(p.1, p.2.v ws)] = fsV (p :: l) ws := by
    unfold fsV
    rw [List.map_cons, List.reverse_cons]
  rw [e]
  have e2 : upd (upd (upd H d (exd d [(p.1, p.2.v ws)])) a (exo a C (some d))) d (exd d (fsV (p :: l) ws)) = upd (upd H d (exd d (fsV (p :: l) ws))) a (exo a C (some d)) := by
    funext b
    by_cases z : b = d
    · subst z
      rw [upd_same, upd_ne ne, upd_same]
    · rw [upd_ne z]
      by_cases y : b = a
      · subst y
        rw [upd_same, upd_same]
      · rw [upd_ne y, upd_ne z, upd_ne y, upd_ne z]
  rw [e2]
  exact q d hd ne
end
/-- the promise of such an __init__ -/
def spX (C : Addr) (n : Nat) (l : FL) : Sp := fun vs H Q _ => ∃ (a : Addr) (ws : List V), vs = .ref a :: ws ∧ ws.length = n ∧ H a = some (exo a C none) ∧ ∀ d, H d = none → d ≠ a → Q .non (upd (upd H d (exd d (fsV l ws))) a (exo a C (some d)))
section
variable {P : Program} {w : World} {K : PySem.W.Frag} {mg : Str → Option Value} {base : Heap} {k : Nat} {name qual : Str} {params : Arguments} {rest : List Stmt} {scope : Scope} {C f cc cda : Addr} {fd : FuncData} {N ps : List Str} {txt : Str} {kk : Nat} {p0 p1 p2 p3 p4 p5 : Pos} {x0 : Str} {ar : Arg} {n : Nat} {l : FL} {pf : Str × Src}
theorem fn_x (F : EXS.SupFn K P.main.file name qual params (.Expr (.Call (.Attribute (.Call (.Name "super" p0) [] [] p1) "__init__" p2) [.Constant (.str txt) kk p5] [] p3) p4 :: rest) scope C f cc cda fd) (G : EXS.ExcD K C) (S : EXS.SScope N ps scope)
    (hsup : mg "super" = none) (htop : (P.main.scope.names.lookup ("super" : Str)).isSome = false) (hps : ps.head? = some x0) (hN : N[0]? = some x0) (hp : (params.posonlyargs ++ params.args).head? = some ar) (hx0 : ar.arg = x0) (hn : ps.length = n + 1)
    (na : ∀ r ∈ pf :: l, PySem.W.findIn K (.ref C) r.1 = some none) (hf : (pf :: l).all (fun p => p.2.fits n) = true) (hl : (pf :: l).length ≤ 900)
    {pl : Env → Sem Bool} (hcl : ∀ env, eval (.Call (.Attribute (.Call (.Name "super" p0) [] [] p1) "__init__" p2) [.Constant (.str txt) kk p5] [] p3) env = (do
      let ov ← attributeBase (.Call (.Name "super" p0) [] [] p1) "__init__" env (eval (.Call (.Name "super" p0) [] [] p1) env)
      standAt p2.atName
      let (f, first) ← holding [ov] (getMethod ov "__init__" (pl env))
      callWith p3 f first (backTo p3 (starEach [.Constant (.str txt) kk p5] env)) []))
    (hbody : ∀ (A : Around) (outer : List Env) (s : Shared) (H : Hp) (E : XK), PSs (EXS.cxC (L2.CX P w) P w K mg base N qual scope f cc (.ref cda) A outer s H E) rest (tCh K (pf :: l))) :
    FnOk P w K mg base (L2.CX P w) (k + 1) f fd ps (spX C n (pf :: l)) := by
  refine EXS.fn_exc (hcl := hcl) F G S hsup htop hps hN hp hx0 (fun vs H Q E ⟨a, ws, e, hw, _⟩ => by rw [e, List.length_cons, hw, hn]) (fun vs H Q E ⟨a, ws, e, hw, ha, _⟩ => ⟨a, ws, e, ha⟩) (fun A outer s H vs Q E a ws hr hsp ev => ?_) (fun env => rfl) (fun env => rfl)
  · obtain ⟨a', ws', e', hw, ha, q⟩ := hsp
    rw [ev] at e'
    cases e'
    refine ⟨_, _, pa_cons pe_str pa_nil, hbody A outer s H E, ?_⟩
    refine ⟨Nat.le_of_ble_eq_true rfl, ha, ?_⟩
    rw [ev]
    refine chain_start (n := n) (ws := ws) G.ox rfl (fun i hi => ?_) na hf hl ha fun d hd ne => q d hd ne
    unfold L2.start
    have hi2 : i < ws.length := by rw [hw]; exact hi
    show ((V.ref a :: ws).map some ++ _)[i + 1]? = _
    rw [List.getElem?_append_left (by simp; omega), List.getElem?_map, List.getElem?_cons_succ, List.getElem?_eq_getElem hi2]
    rfl
end
section
variable {X : Cx} {E : XK} {CX : CXT} {x : Str} {C fI : Addr} {k n : Nat} {fd : FuncData} {ps : List Str} {l : FL} {e : Expr} {es : List Expr} {Tl : DTA} {p pos pos2 : Pos}
/-- raise of an exception of the class C with these fields -/
def zRaise (C : Addr) (n : Nat) (l : FL) (Tl : DTA) : DTS := fun Q env => Tl env (fun ds => ds.length = n ∧ Q.ex ⟨C, fsK l, fsD l ds⟩) Q.ex
theorem exo_gone {H1 : Hp} {a d : Addr} {C : Addr} {fs : List (Str × V)} (ha : H1 a = none) (ne : d ≠ a) : upd (del (upd (upd (upd H1 a (exo a C none)) d (exd d fs)) a (exo a C (some d))) a) d (.xd fs) = upd H1 d (.xd fs) := by
  funext b
  by_cases z : b = d
  · subst z
    rw [upd_same, upd_same]
  · rw [upd_ne z, upd_ne z]
    by_cases y : b = a
    · subst y
      rw [del_same, ha]
    · rw [del_ne y, upd_ne y, upd_ne z, upd_ne y]
theorem raise_end {c : Fm} {σ : St} {H S : Hp} {env : En} {Rx : Er → Prop} {vs : List V} {ds : List D} (hfit : l.all (fun p => p.2.fits n) = true) (x : XOk c E Rx) (k : Kn c σ H S env) (r : RepL c.B S ds vs) (hn : ds.length = n) (q : Rx ⟨C, fsK l, fsD l ds⟩) {a : Addr} (ha : H a = none) :
    spX C n l (.ref a :: (vs ++ [])) (upd H a (exo a C none)) (fun v H2 => v = .non ∧ ∃ (d : Addr) (fs : List (Str × V)), H2 a = some (exo a C (some d)) ∧ H2 d = some (exd d fs) ∧ H d = none ∧ E (.ref C) (some d) (upd (del H2 a) d (.xd fs))) (fun _ _ _ => False) := by
  rw [List.append_nil]
  refine ⟨a, vs, rfl, by rw [r.length]; exact hn, upd_same, fun d hd ne => ⟨rfl, d, fsV l vs, upd_same, by rw [upd_ne ne, upd_same], by rw [upd_ne ne] at hd; exact hd, ?_⟩⟩
  rw [upd_ne ne] at hd
  rw [exo_gone ha ne]
  have k2 := k.new0 (o := .xd (fsV l vs)) hd
  refine x ⟨C, fsK l, fsD l ds⟩ d (fsW l vs) _ S k2.kf (RepL.rev (fs_rep r hn l hfit)) ?_ ?_ (k.kf.h0_none hd) (k.kf.s_none hd) q
  · show (fsD l ds).length = (fsK l).length
    unfold fsD fsK
    rw [List.length_reverse, List.length_reverse, List.length_map, List.length_map]
  · show upd H d (.xd (fsV l vs)) d = some (.xd ((fsK l).zip (fsW l vs)))
    rw [upd_same, fs_zip]
theorem s_raise (T : OexC X.K C) (iC : PySem.W.findIn X.K (.ref C) "__init__" = some (some (.ref fI))) (tI : PySem.W.typeIn X.K (.ref fI) = some (.type "function")) (hfit : l.all (fun p => p.2.fits n) = true) (hn : n ≤ 900)
    (G : FnOk X.prog X.w X.K X.mg X.base CX k fI fd ps (spX C n l)) (hr : Room (k + 1) X.A) (hb : L2.Binds X.K fd ps []) (hx : Passes CX X (fun _ _ _ => False)) (hm : X.mg x = some (.ref C)) (hc : X.calm = true) (tk : Takes X (fun cls d _ H => E cls d H)) (ha : DA X E (e :: es) Tl)
    (hg : Gl X x := by rfl) (hdb : (x == ("__debug__" : Str)) = false := by decide) (he : starEach (e :: es) X.env = (false, eval e X.env) :: starEach es X.env := by rfl) (hpl : (backTo pos (starEach es X.env)).any (·.1) = false := by rfl) :
    DS X E (.Raise (some (.Call (.Name x p) (e :: es) [] pos)) none pos2) (zRaise C n l Tl) := by
  obtain ⟨t, pa, s⟩ := ha
  refine ⟨_, ps_raise hc tk (pmk_oex T iC tI G hr hb .nil hx hg hm pa hdb he hpl), fun c σ H S env Q x k t1 D m => s c σ H S env _ _ x k t1 _ fun vs H1 S1 ds k1 s1 r1 t2 => ⟨by rw [r1.length, t2.1]; omega, fun a ha => ?_⟩⟩
  exact raise_end hfit x k1 r1 t2.1 t2.2 ha
end
end DL
namespace DL
open PySem PySem.Spec L2 PyProof.Rows LamX
variable [TbC]
section
variable {X : Cx} {pins : List (Addr × Obj)} {σ : List (Option V)} {H : Hp} {s : Shared} {E : Value → Shared → Prop} {Q : Value → Shared → Prop}
/-- what the making leaves: the function object at f, the code object at c' known; all but the table at P stays -/
structure LamMade (H H1 : Hp) (P : Addr) (q : Str) (f c' : Addr) (i : Nat) (cl : List (Str × Addr)) (dV : Value) : Prop where
  fn : H f = none
  at_ : H1 f = some (LamO f i cl dV c')
  code : H1 c' = some (CodeO c' q)
  old : H c' = none ∨ H c' = some (CodeO c' q)
  ne : c' ≠ f
  keep : ∀ b o, b ≠ P → H b = some o → H1 b = some o
  tab : TabS H1 P q
theorem lam_tail {i : Nat} {c P : Addr} {params : Arguments} {body : Expr} {scope : Scope} {dfl : List Int} {dV : Value} {pos : Pos} {fl : Nat} (I : Inv X pins σ H s) (TB : TabB X.base X.mg c P) (hcode : X.env.code = .ref c) (hT : TabS H P (X.env.qual ++ "<lambda>"))
    (hq : TbC.lq i = ⟨X.env.qual ++ "<lambda>", params, body, scope, dfl⟩) (hfree : ∀ y ∈ scope.names, y.2 = .free → ∃ c, X.env.cells.lookup y.1 = some c)
    (h : ∀ (f c' : Addr) (H1 : Hp) (s' : Shared), Inv X pins σ H1 s' → LamMade H H1 P (X.env.qual ++ "<lambda>") f c' i X.env.cells dV → Q (.ref f) s') :
    wpAny (model X.prog X.w) X.A (makeTail "<lambda>" (X.env.qual ++ "<lambda>") params (.expr body) scope X.env dV .none none pos fl) Q E s := by
  obtain ⟨ps, hP, ht, ha⟩ := hT
  have bP : s.heap.BuiltinsAt X.mg P := TB.bm.keeps I.bk
  have hP' : s.heap.get? P = some { cls := .none, data := .fields ps } := I.hok P _ hP
  have LO : ∀ (f c' : Addr) (cl : List (Str × Addr)), LamO f i cl dV c' = .ext fun h => ∃ doc pm ctv : Value, h.get? f = some (PySem.W.kdv_obj "<lambda>" (X.env.qual ++ "<lambda>") params (.expr body) scope (cloFrom cl scope.names []) dV doc pm c' ctv) := fun f c' cl => by
    unfold LamO
    rw [hq]
  -- the function object is laid
  have lay : ∀ {H1 : Hp} {h' : Heap} {f c' : Addr} {doc pm ctv : Value} {tk : Nat}, Inv X pins σ H1 { s with heap := h', toks := tk } → f = h'.objs.size →
      Inv X pins σ (upd H1 f (LamO f i X.env.cells dV c')) { s with heap := h'.push (PySem.W.kdv_obj "<lambda>" (X.env.qual ++ "<lambda>") params (.expr body) scope (cloFrom X.env.cells scope.names []) dV doc pm c' ctv), toks := tk } := by
    intro H1 h' f c' doc pm ctv tk I1 ef
    subst ef
    have hg : (h'.push (PySem.W.kdv_obj "<lambda>" (X.env.qual ++ "<lambda>") params (.expr body) scope (cloFrom X.env.cells scope.names []) dV doc pm c' ctv)).get? h'.objs.size = some (PySem.W.kdv_obj "<lambda>" (X.env.qual ++ "<lambda>") params (.expr body) scope (cloFrom X.env.cells scope.names []) dV doc pm c' ctv) := Heap.get?_push_size _ rfl
    refine I1.laid (t' := tk) (fun b u z => Heap.get?_push_of_some _ z) (Nat.le_refl _) ?_
    rw [LO]
    exact ⟨⟨doc, pm, ctv, hg⟩, ⟨_, hg⟩, fun h1 h2 ⟨doc, pm, ctv, e⟩ k => ⟨doc, pm, ctv, k _ e⟩⟩
  cases hc : codeAmong pos ps.toList with
  | none =>
    refine PySem.W.kdv_makeTail (mg := X.mg) (c := c) (P := P) (ps := ps) (closure_ok hfree) I.ok.glob (I.mod.glob.keeps I.bk) hcode (TB.code.keeps I.bk) hP' ht hc TB.gP bP fun c' ctv doc h' tk hx hge hlt hrec htb => ?_
    obtain ⟨c2, oc, vs, t, e2, hoc, hd, hv⟩ := hrec
    cases e2
    have nC : H c' = none := I.hok.fresh hge
    have nF : H h'.objs.size = none := I.hok.fresh (Nat.le_trans hge (Nat.le_of_lt hlt))
    have I1 := inv_table (t' := tk) (more := #[rawInt pos.line, rawInt pos.col, .ref c']) (h' := h') (q := X.env.qual ++ "<lambda>") I hP (fun b o hb e => hx b o hb e) htb hge ⟨oc, vs, t, hoc, hd, hv⟩
    have I2 := lay (tk := tk) (doc := doc) (pm := (X.mg "__name__").getD .none) (ctv := ctv) (c' := c') I1 rfl
    have n1 : c' ≠ h'.objs.size := Nat.ne_of_lt hlt
    have n2 : P ≠ h'.objs.size := ne_of_none hP nF
    have n3 : P ≠ c' := ne_of_none hP nC
    have kp : ∀ b o, b ≠ P → H b = some o → upd (upd (upd H P (.tbl (ps ++ #[rawInt pos.line, rawInt pos.col, .ref c']))) c' (CodeO c' (X.env.qual ++ "<lambda>"))) h'.objs.size (LamO h'.objs.size i X.env.cells dV c') b = some o := fun b o hb e => by
      rw [upd_ne (ne_of_none e nF), upd_ne (ne_of_none e nC), upd_ne hb]
      exact e
    refine h h'.objs.size c' _ _ I2 ⟨nF, upd_same, by rw [upd_ne n1, upd_same], .inl nC, n1, kp, ?_⟩
    have eL : (ps ++ #[rawInt pos.line, rawInt pos.col, .ref c']).toList = ps.toList ++ [rawInt pos.line, rawInt pos.col, .ref c'] := by simp
    refine ⟨_, by rw [upd_ne n2, upd_ne n3, upd_same], by rw [eL]; exact PySem.TriplesOk_snoc _ _ _ _ ht, fun p' cv hcv => ?_⟩
    rw [eL] at hcv
    rcases among_app _ ht hcv with z | z
    · obtain ⟨c0, e1, e2⟩ := ha p' cv z
      exact ⟨c0, e1, kp _ _ (fun y => by rw [y, hP] at e2; exact codeO_ne _ (Option.some.inj e2).symm) e2⟩
    · exact ⟨c', z, by rw [upd_ne n1, upd_same]⟩
  | some cv =>
    obtain ⟨c', e, hco⟩ := ha pos cv hc
    subst e
    refine PySem.W.kdv_makeTailHit (mg := X.mg) (c := c) (P := P) (ps := ps) (closure_ok hfree) I.ok.glob (I.mod.glob.keeps I.bk) hcode (TB.code.keeps I.bk) hP' ht hc bP fun ctv doc h' tk hx hsz => ?_
    have nF : H h'.objs.size = none := I.hok.fresh hsz
    have I1 : Inv X pins σ H { s with heap := h', toks := tk } := I.kept (t' := tk) hx
    have I2 := lay (tk := tk) (doc := doc) (pm := (X.mg "__name__").getD .none) (ctv := ctv) (c' := c') I1 rfl
    have kp : ∀ b o, b ≠ P → H b = some o → upd H h'.objs.size (LamO h'.objs.size i X.env.cells dV c') b = some o := fun b o _ e => by
      rw [upd_ne (ne_of_none e nF)]
      exact e
    have n1 : c' ≠ h'.objs.size := ne_of_none hco nF
    refine h h'.objs.size c' _ _ I2 ⟨nF, upd_same, by rw [upd_ne n1]; exact hco, .inr hco, n1, kp, ps, by rw [upd_ne (ne_of_none hP nF)]; exact hP, ht, fun p' cv' hcv => ?_⟩
    obtain ⟨c0, e1, e2⟩ := ha p' cv' hcv
    exact ⟨c0, e1, by rw [upd_ne (ne_of_none e2 nF)]; exact e2⟩
end
section
variable {c : Fm} {σ : L2.St} {H H1 S : Hp} {env : En} {P f c' : Addr} {q : Str} {i : Nat} {cl : List (Str × Addr)} {dV : Value}
theorem kn_lam (k : Kn c σ H S env) (m : LamMade H H1 P q f c' i cl dV) (hP : (P, q) ∈ TbC.ts) (hu : ∀ p ∈ TbC.ts, p.1 = P → p.2 = q) :
    ∃ S1, Kn c σ H1 S1 env ∧ Same S S1 ∧ S1 f = some (LamO f i cl dV c') ∧ S1 c' = some (CodeO c' q) := by
  have sf : S f = none := k.kf.s_none m.fn
  have xP : ∀ b, ¬ Ex c.B b → b ≠ P := fun b x z => x (.inr ⟨_, hP, z.symm⟩)
  have sP : S P = none := (k.kf.tab.1 _ hP).2
  have hTP : ∃ ps, H P = some (.tbl ps) := by
    obtain ⟨⟨ps, h1, _⟩, _⟩ := k.kf.tab.1 _ hP
    exact ⟨ps, h1⟩
  have sc : ∀ o, S c' = some o → o = CodeO c' q := fun o e => by
    have e2 := k.kf.sub _ _ e
    rcases m.old with z | z
    · rw [z] at e2
      cases e2
    · rw [z] at e2
      exact (Option.some.inj e2).symm
  refine ⟨fun b => if b = f then some (LamO f i cl dV c') else if b = c' then some (CodeO c' q) else S b, ?_, fun b o e => ?_, if_pos rfl, (if_neg m.ne).trans (if_pos rfl)⟩
  · have ss : Same S (fun b => if b = f then some (LamO f i cl dV c') else if b = c' then some (CodeO c' q) else S b) := fun b o e => by
      by_cases z : b = f
      · rw [z, sf] at e
        cases e
      · show (if b = f then _ else _) = _
        rw [if_neg z]
        by_cases y : b = c'
        · rw [if_pos y]
          rw [y] at e
          rw [sc o e]
        · rw [if_neg y]
          exact e
    have sn : ∀ b, S b = none → Mu (H b) → (fun b => if b = f then some (LamO f i cl dV c') else if b = c' then some (CodeO c' q) else S b) b = none := fun b e n => by
      have z : b ≠ f := fun z => n.1 (by rw [z]; exact m.fn)
      have y : b ≠ c' := fun y => by
        rcases m.old with x | x
        · exact n.1 (by rw [y]; exact x)
        · exact n.2 _ (by rw [y, x]) (.inl ⟨_, _, rfl⟩)
      show (if b = f then _ else _) = _
      rw [if_neg z, if_neg y]
      exact e
    refine k.step ss (fun b o e => ?_) (fun b o e x => m.keep b o (xP b x) e) sn (fun b e => ?_) (fun p hp => ?_)
    · have e : (if b = f then some (LamO f i cl dV c') else if b = c' then some (CodeO c' q) else S b) = some o := e
      by_cases z : b = f
      · rw [if_pos z] at e
        rw [z, m.at_]
        exact e
      · rw [if_neg z] at e
        by_cases y : b = c'
        · rw [if_pos y] at e
          rw [y, m.code]
          exact e
        · rw [if_neg y] at e
          exact m.keep b o (fun w => by rw [w, sP] at e; cases e) (k.kf.sub b o e)
    · obtain ⟨⟨b1, cs, i', g, st, n, b2, b3, b4⟩, b5⟩ := k.kf.bag b e
      have bP : b ≠ P := fun z => by
        obtain ⟨ps, h1⟩ := hTP
        rw [z, h1] at b2
        cases b2
      exact ⟨sn b b1 (mu_lst b2), cs, i', g, st, n, m.keep _ _ bP b2, ss _ _ b3, b4⟩
    · obtain ⟨⟨ps, h1, h2, h3⟩, h4⟩ := k.kf.tab.1 p hp
      refine ⟨?_, sn p.1 h4 (mu_of h1 fun _ z => nomatch z)⟩
      by_cases z : p.1 = P
      · rw [hu p hp z, z]
        exact m.tab
      · refine ⟨ps, m.keep _ _ z h1, h2, fun pos cv hc => ?_⟩
        obtain ⟨c0, e1, e2⟩ := h3 pos cv hc
        refine ⟨c0, e1, m.keep _ _ (fun y => ?_) e2⟩
        obtain ⟨ps', h1'⟩ := hTP
        rw [y, h1'] at e2
        exact codeO_ne _ (Option.some.inj e2).symm
  · show (if b = f then _ else _) = _
    by_cases z : b = f
    · rw [z, sf] at e
      cases e
    · rw [if_neg z]
      by_cases y : b = c'
      · rw [if_pos y]
        rw [y] at e
        rw [sc o e]
      · rw [if_neg y]
        exact e
end
section
variable {X : Cx} {E : XK} {i : Nat} {c P : Addr} {params : Arguments} {body : Expr} {scope : Scope} {pos : Pos}
/-- lambda: .. : the value is told with the maker's cells -/
def xLam (i : Nat) (cl : List (Str × Addr)) : DT := fun _ R _ => R (.fn i cl none)
theorem d_lam0 (TB : TabB X.base X.mg c P) (hcode : X.env.code = .ref c) (hP : (P, X.env.qual ++ "<lambda>") ∈ TbC.ts) (hu : ∀ p ∈ TbC.ts, p.1 = P → p.2 = X.env.qual ++ "<lambda>")
    (hq : TbC.lq i = ⟨X.env.qual ++ "<lambda>", params, body, scope, []⟩) (L : LamS X.env.scope scope) (hdef : defaultsOf params X.env = ([], [])) {cl : List (Str × Addr)} (hcl : X.env.cells = cl) : DE X E (.Lambda params body scope pos) (xLam i cl) := by
  subst hcl
  refine ⟨fun σ H Q => TabS H P (X.env.qual ++ "<lambda>") ∧ ∀ f c' H1, LamMade H H1 P (X.env.qual ++ "<lambda>") f c' i X.env.cells .none → Q (.ref f) H1, ⟨fun pins s σ H Q I h => ?_⟩, fun c0 σ H S env R Rx x k t Q q => ⟨(k.kf.tab.1 _ hP).1, fun f c' H1 m => ?_⟩⟩
  · refine PySem.W.kla_eval hdef ?_
    rw [makeFunction_eq]
    simp only [List.zip_nil_right, List.filterMap_nil, List.isEmpty_nil, if_true, pure_bind]
    exact lam_tail I TB hcode h.1 hq (L.has I.ok) fun f c' H1 s' I1 m => ⟨.ref f, H1, I1, rfl, h.2 f c' H1 m⟩
  · obtain ⟨S1, k1, ss, e1, e2⟩ := kn_lam k m hP hu
    refine q _ H1 S1 (.fn i X.env.cells none) k1 ss ?_ t
    rw [Rep]
    refine ⟨f, _, c', rfl, e1, by rw [hq]; exact e2, .inl ⟨by rw [hq], rfl⟩, fun y hy => by cases hy⟩
/-- .. with one default, a whole number -/
theorem d_lam1 {n : Int} {kk : Nat} {p1 : Pos} (TB : TabB X.base X.mg c P) (hcode : X.env.code = .ref c) (hP : (P, X.env.qual ++ "<lambda>") ∈ TbC.ts) (hu : ∀ p ∈ TbC.ts, p.1 = P → p.2 = X.env.qual ++ "<lambda>")
    (hq : TbC.lq i = ⟨X.env.qual ++ "<lambda>", params, body, scope, [n]⟩) (hfree : ∀ y ∈ scope.names, y.2 = .free → X.env.scope.names.lookup y.1 = some .cell ∨ X.env.scope.names.lookup y.1 = some .free) (hd : params.defaults = [.Constant (.int n) kk p1]) (hk : params.kw_defaults = []) {cl : List (Str × Addr)} (hcl : X.env.cells = cl) :
    DE X E (.Lambda params body scope pos) (xLam i cl) := by
  subst hcl
  refine ⟨fun σ H Q => TabS H P (X.env.qual ++ "<lambda>") ∧ ∀ t, H t = none → ∀ f c' H1, LamMade (upd H t (.tup [.int n])) H1 P (X.env.qual ++ "<lambda>") f c' i X.env.cells (.ref t) → Q (.ref f) H1, ⟨fun pins s σ H Q I h => ?_⟩, fun c0 σ H S env R Rx x k t Q q => ⟨(k.kf.tab.1 _ hP).1, fun t0 ht f c' H1 m => ?_⟩⟩
  · refine PySem.W.kdv_lam (by rw [hd]; rfl) hk ?_
    rw [hd]
    refine PySem.W.kdv_all1 (wpAny_Constant_int (PySem.W.kdv_all0 ?_))
    rw [makeFunction_eq]
    simp only [List.zip_nil_right, List.filterMap_nil, List.isEmpty_nil, List.isEmpty_cons, Bool.false_eq_true, if_false, if_true, pure_bind]
    refine wpAny_bind (wpAny_newTextTuple ?_)
    have I0 : L2.Inv X pins σ H { s with toks := s.toks + 1 } := I.tok _
    have ht : H s.heap.objs.size = none := I.hok.fresh (Nat.le_refl _)
    have hg : (s.heap.push { cls := .type "tuple", data := .seq ([.int n s.toks] : List Value).toArray }).get? s.heap.objs.size = some { cls := .type "tuple", data := .seq ([.int n s.toks] : List Value).toArray } := Heap.get?_push_size _ rfl
    have I1 := I0.laid (t' := s.toks + 1) (a := s.heap.objs.size) (o := .tup [.int n]) (h' := s.heap.push { cls := .type "tuple", data := .seq ([.int n s.toks] : List Value).toArray }) (fun b u z => Heap.get?_push_of_some _ z) (Nat.le_refl _)
      ⟨Nat.le_of_ble_eq_true rfl, [.int n s.toks], .cons ⟨_, rfl⟩ .nil, _, hg, rfl, _, rfl⟩
    exact lam_tail I1 TB hcode (h.1.ext fun b o e => by rw [upd_ne (ne_of_none e ht)]; exact e) hq (fun y hy e => by
      rcases hfree y hy e with z | z
      · exact I.ok.has _ (.inl z)
      · exact I.ok.has _ (.inr z)) fun f c' H1 s' I2 m => ⟨.ref f, H1, I2, rfl, h.2 _ ht f c' H1 m⟩
  · have k0 := k.new (o := .tup [.int n]) ht
    obtain ⟨S1, k1, ss, e1, e2⟩ := kn_lam k0 m hP hu
    refine q _ H1 S1 (.fn i X.env.cells none) k1 ((same_upd (k.kf.s_none ht)).trans ss) ?_ t
    rw [Rep]
    refine ⟨f, _, c', rfl, e1, by rw [hq]; exact e2, .inr ⟨by rw [hq]; exact List.cons_ne_nil _ _, t0, rfl, ?_⟩, fun y hy => by cases hy⟩
    rw [hq]
    exact ss _ _ upd_same
end
end DL
namespace DL
open PySem PySem.Spec L2 PyProof.Rows LamX
variable [TbC]
def wideB (s : Shared) (H : Hp) (l : List Env) : Heap := PySem.W.hideAll (hidT s.heap H) (frs l)
section
variable {X : Cx} {pins : List (Addr × Obj)} {σ : List (Option V)} {H : Hp} {s : Shared} {l : List Env} {b : Addr} {o : Obj}
theorem wideB_of (h : (wideB s H l).get? b = some o) : s.heap.get? b = some o ∧ H b = none := of_hidT (PySem.W.of_hideAll _ h)
theorem wideB_get (e : s.heap.get? b = some o) (n : H b = none) (hf : b ∉ frs l) : (wideB s H l).get? b = some o := PySem.W.hideAll_get _ (hidT_get e n) hf
theorem inv_wide (I : L2.Inv X pins σ H s) : ∀ b o, X.base.get? b = some o → (wideB s H X.stack).get? b = some o := fun b o e => wideB_get (I.bs b o e).1 (I.bs b o e).2 fun hb => by
  have := (I.stack.mem hb).1
  rw [e] at this
  cases this
theorem mod_wide {K : PySem.W.Frag} {mg : Str → Option Value} {base base' : Heap} (m : Mod K mg base) (k : ∀ b o, base.get? b = some o → base'.get? b = some o) : Mod K mg base' := by
  obtain ⟨h1, h2, ⟨mb, h3, h4⟩, h5⟩ := m
  exact ⟨h1.keeps k, h2.keeps k, ⟨mb, h3.keeps k, h4⟩, h5.keeps k⟩
theorem env0_wide (I : L2.Inv X pins σ H s) : Env0 X.prog X.w X.K X.mg (wideB s H X.stack) X.A X.stack s H := by
  have e := I.env0
  refine ⟨e.frames, mod_wide e.mod (inv_wide I), fun b o h => wideB_of h, ?_, funFrames_none I.stack fun L hL => PySem.W.hideAll_none _ hL, e.frf, e.hok, e.bare⟩
  unfold wideB
  rw [PySem.W.hideAll_size, hidT_size]
  exact Nat.le_refl _
theorem run_fnB {CX : CXT} {k : Nat} {f : Addr} {fd : FuncData} {ps : List Str} {sp : Sp} {E : XK} {Q : VK} {us : List Value} {vs : List V} (F : FnOk X.prog X.w X.K X.mg (wideB s H X.stack) CX k f fd ps sp) (hr : Room k X.A) (hb : Binds X.K fd ps []) (hx : Passes CX X E)
    (I : L2.Inv X pins σ H s) (r : Vals vs us) (h : sp vs H Q E) : wpAny (model X.prog X.w) X.A (call (.ref f) us) (EP X pins σ Q) X.xe s := by
  have hl : (us ++ []).length = ps.length := by rw [List.append_nil, ← r.length]; exact F.len _ _ _ _ h
  have hb2 := hb s us I.kIn hl
  rw [List.append_nil] at hb2
  refine wpAny_call (codeAny_mono (F.run X.A X.stack s H ⟨us, []⟩ us vs Q E hr (env0_wide I) hb2 r h) fun r s' hq => ?_)
  cases r with
  | error e => exact hx pins σ H s e s' I hq
  | ok fl =>
    cases fl with
    | ret u => exact I.after hq
    | next => exact False.elim hq
    | brk => exact False.elim hq
    | cont => exact False.elim hq
end
abbrev lamEnvB (q : LamQ) (cl : List (Str × Addr)) (L f c' : Addr) : Env := PySem.W.envX q.qual q.scope L f (.ref c') (cloFrom cl q.scope.names [])
def lamCxB (P : Program) (w : World) (K : PySem.W.Frag) (mg : Str → Option Value) (base : Heap) (A : Around) (outer : List Env) (s : Shared) (H : Hp) (E : XK) (N : List Str) (q : LamQ) (cl : List (Str × Addr)) (f c' : Addr) : Cx where
  prog := P
  w := w
  K := K
  mg := mg
  base := base
  A := A.deeper (lamEnvB q cl s.heap.objs.size f c')
  N := N
  s_0 := s
  H_0 := H
  env := lamEnvB q cl s.heap.objs.size f c'
  outer := outer
  stack := lamEnvB q cl s.heap.objs.size f c' :: outer
  ex := []
  fn := fun _ => false
  calm := true
  pn := []
  xe := fun e s' => wpAny (model P w) (A.deeper (lamEnvB q cl s.heap.objs.size f c')) (leaving (lamEnvB q cl s.heap.objs.size f c') e) (fun _ s'' => L2.CX P w outer H s E e s'') (fun e' s'' => L2.CX P w outer H s E e' s'') s'
/-- the defaults as they lie -/
def DfAt (h : Heap) (dV : Value) (ns : List Int) : Prop := (ns = [] ∧ dV = .none) ∨ ns ≠ [] ∧ ∃ (t : Addr) (o : Obj) (its : List Value) (n : Nat), dV = .ref t ∧ h.get? t = some o ∧ o.data = .seq its.toArray n ∧ Vals (ns.map V.int) its
/-- lambda i of the text: its captured names Ni, where they stand among the maker's -/
structure LamI (N : List Str) (sc : Scope) (i : Nat) (Ni : List Str) (js : List Nat) : Prop where
  kind : (TbC.lq i).scope.kind = .function
  co : (TbC.lq i).scope.isCoroutine = false
  gen : (TbC.lq i).scope.isGenerator = false
  nocell : ∀ y ∈ (TbC.lq i).scope.names, y.2 ≠ .cell
  free : ∀ y ∈ (TbC.lq i).scope.names, y.2 = .free → sc.names.lookup y.1 = some .cell ∨ sc.names.lookup y.1 = some .free
  names : ∀ (t : Nat) (y : Str), Ni[t]? = some y → (TbC.lq i).scope.names.lookup y = some .free ∧ ∃ j : Nat, js[t]? = some j ∧ N[j]? = some y
  len : js.length = Ni.length
  bind : ∀ (cl : List (Str × Addr)) (dV doc pm cdv ctv : Value) (s : Shared), DfAt s.heap dV (TbC.lq i).dfl → ∃ bs, BindsTo s (PySem.W.kdv_fn "<lambda>" (TbC.lq i).qual (TbC.lq i).params (.expr (TbC.lq i).body) (TbC.lq i).scope cl dV doc pm cdv ctv) ⟨[], []⟩ bs ∧ ∀ y ∈ bs, (TbC.lq i).scope.names.lookup y.1 = some .local
theorem lamB_start {P : Program} {w : World} {K : PySem.W.Frag} {mg : Str → Option Value} {base : Heap} {A : Around} {outer : List Env} {s1 : Shared} {HZ : Hp} {E : XK} {N Ni : List Str} {sc : Scope} {i : Nat} {js : List Nat} {cl : List (Str × Addr)} {f c' : Addr} {σi : List (Option V)} {h₁ : Heap} {tk : Nat} {m : Str → Option Value}
    (L : LamI N sc i Ni js) (e0 : Env0 P w K mg base A outer s1 HZ) (hd : A.handled = none) (hcl : ∀ y ∈ (TbC.lq i).scope.names, y.2 = .free → ∃ c, cl.lookup y.1 = some c) (hinj : ∀ y z c, cl.lookup y = some c → cl.lookup z = some c → y = z)
    (hcell : ∀ y c, cl.lookup y = some c → ∃ v, base.IsCell c v) (hl : σi.length = Ni.length) (hval : ∀ (t : Nat) (y : Str) (v : V), Ni[t]? = some y → σi[t]? = some (some v) → ∃ u c, RelV v u ∧ cl.lookup y = some c ∧ base.IsCell c (some u))
    (hns : h₁.Ns s1.heap.objs.size m) (kp : ∀ b o, s1.heap.get? b = some o → h₁.get? b = some o) :
    L2.Inv (lamCxB P w K mg base A outer s1 HZ E Ni (TbC.lq i) cl f c') [] σi HZ { s1 with heap := h₁, toks := tk } := by
  have cm : ∀ {y c}, (cloFrom cl (TbC.lq i).scope.names []).lookup y = some c → cl.lookup y = some c := fun {y c} e => by
    rcases cloFrom_mem (PySem.mem_of_lookup e) with hm | ⟨h1, h2⟩
    · cases hm
    · obtain ⟨c1, hc⟩ := hcl _ h1 rfl
      have hc : cl.lookup y = some c1 := hc
      have e2 : c = c1 := by
        rw [h2, hc] <;> rfl
      rw [e2]
      exact hc
  have look : ∀ {y}, (TbC.lq i).scope.names.lookup y = some .free → ∃ c, (cloFrom cl (TbC.lq i).scope.names []).lookup y = some c := fun {y} hl => by
    have hy : (y, NameKind.free) ∈ (TbC.lq i).scope.names := PySem.mem_of_lookup hl
    exact mem_lookup (cloFrom_has (cells := cl) (acc := []) hy)
  have cellK : ∀ {c : Addr} {v : Option Value}, base.IsCell c v → h₁.IsCell c v := fun {c v} ⟨o, ho, hd⟩ => ⟨o, kp _ _ (e0.bs _ _ ho).1, hd⟩
  have noA : ∀ b : Addr, b ∉ (lamCxB P w K mg base A outer s1 HZ E Ni (TbC.lq i) cl f c').ex := fun b z => absurd (show b ∈ ([] : List Addr) from z) (by simp)
  refine ⟨⟨e0.mod, L.kind, rfl, rfl, Nat.le_refl _, fun y z c e1 e2 => hinj y z c (cm e1) (cm e2), fun y hy => ?_, fun y c z _ => ?_, fun _ => hd, Around.frames_deeper e0.frames, .inr ⟨rfl, rfl⟩, fun b z => absurd z (noA b), e0.bs, e0.bsz, fun b _ _ => noA b,
      fun b z => absurd z (noA b), e0.funs, e0.frf⟩,
    rfl, e0.bare, Un.kept kp, ⟨m, hns, fun t y v e1 e2 e3 => ?_⟩, fun y c e => ?_, e0.hok.fresh (Nat.le_refl _), fun y c e => ?_, fun q hq => absurd (show q ∈ ([] : List (Addr × Obj)) ++ [] from hq) (by simp), e0.hok.kept kp, hl⟩
  · have hy : (TbC.lq i).scope.names.lookup y = some .cell ∨ (TbC.lq i).scope.names.lookup y = some .free := hy
    rcases hy with hy | hy
    · exact absurd rfl (L.nocell _ (PySem.mem_of_lookup hy))
    · exact look hy
  · have z : false = true := z
    cases z
  · have e1 : Ni[t]? = some y := e1
    obtain ⟨k, _⟩ := L.names t y e1
    obtain ⟨u, c, r, ec, ic⟩ := hval t y v e1 e2
    obtain ⟨c2, h2⟩ := look k
    have e4 := cm h2
    rw [ec] at e4
    cases e4
    exact ⟨u, r, .inr ⟨.inr k, c, h2, cellK ic⟩⟩
  · obtain ⟨v, ic⟩ := hcell y c (cm e)
    exact ⟨v, cellK ic⟩
  · obtain ⟨v, o, ho, _⟩ := hcell y c (cm e)
    exact (e0.bs _ _ ho).2
abbrev Zf := Nat → (D → Prop) → (Er → Prop) → Prop
structure LamOk (P : Program) (w : World) (K : PySem.W.Frag) (mg : Str → Option Value) (base : Heap) (k : Nat) (cl : List (Str × Addr)) (B0 : Option Addr) (S0 : Hp) (Z : Zf) : Prop where
  run : ∀ (A : Around) (outer : List Env) (s : Shared) (H : Hp) (i : Nat) (f c' : Addr) (dV : Value) (Q : VK) (E : XK) (c : Fm) (S : Hp) (R : D → Prop) (Rx : Er → Prop), Room k A → Env0 P w K mg base A outer s H → c.H0 = H → c.S0 = S → Kf c H S → c.B = B0 → Same S0 S →
    H f = some (LamO f i cl dV c') → H c' = some (CodeO c' (TbC.lq i).qual) → DfOk S dV (TbC.lq i).dfl → Z i R Rx → (∀ v H' S' d, Kf c H' S' → Rep c.B S' d v → R d → Q v H') → XOk c E Rx →
    codeAny (model P w) A (.call (.ref f) ⟨[], []⟩) (CR (L2.CX P w) outer P w H s Q E) s
/-- the captured values -/
def pickE (js : List Nat) (env : En) : En := js.map fun j => match (env[j]? : Option (Option DV)) with
  | some (some (DV.val d)) => some (DV.val d)
  | _ => none
def pickV (js : List Nat) (σ : L2.St) : L2.St := js.map fun j => σ[j]?.join
/-- lambda i's reading by the maker's names -/
def ZL (LT : Nat → Option (List Nat × DT)) (env : En) : Zf := fun i R Rx => match LT i with
  | some (js, T) => T (pickE js env) R Rx
  | none => False
section
variable {X : Cx} {pins : List (Addr × Obj)} {σ : List (Option V)} {H : Hp} {s : Shared} {S : Hp} {c : Fm} {env : En}
theorem pickE_get {js : List Nat} {t : Nat} {d : DV} (e : (pickE js env)[t]? = some (some d)) : ∃ (j : Nat) (x : D), js[t]? = some j ∧ d = .val x ∧ env[j]? = some (some (.val x)) := by
  unfold pickE at e
  rw [List.getElem?_map] at e
  obtain ⟨j, ej, e2⟩ := Option.map_eq_some_iff.mp e
  split at e2
  · rename_i x h
    cases e2
    exact ⟨j, x, ej, rfl, h⟩
  · cases e2
/-- from the maker's state: what its lambdas give below a call -/
theorem lamOk_of {kk : Nat} {LT : Nat → Option (List Nat × DT)} (I : L2.Inv X pins σ H s) (k : Kn c σ H S env) (hca : ∀ (y : Str) (a : Addr), X.env.cells.lookup y = some a → a ∉ frs X.stack)
    (hLT : ∀ i js T, LT i = some (js, T) → ∃ Ni, LamI X.N X.env.scope i Ni js ∧ ∀ (base : Heap) (A : Around) (outer : List Env) (s : Shared) (H : Hp) (E : XK) (f c' : Addr) (cl : List (Str × Addr)), Room kk (A.deeper (lamEnvB (TbC.lq i) cl s.heap.objs.size f c')) →
      DE (lamCxB X.prog X.w X.K X.mg base A outer s H E Ni (TbC.lq i) cl f c') E (TbC.lq i).body T) :
    LamOk X.prog X.w X.K X.mg (wideB s H X.stack) (kk + 1) X.env.cells c.B S (ZL LT env) := by
  refine ⟨fun A outer s1 HZ i f c' dV Q E cZ SZ R Rx hr e0 h0 hs0 kf hB hS hf hc hdf hz hq hx => ?_⟩
  unfold ZL at hz
  cases hlt : LT i with
  | none =>
    rw [hlt] at hz
    exact hz.elim
  | some p =>
  obtain ⟨js, T⟩ := p
  rw [hlt] at hz
  have hz : T (pickE js env) R Rx := hz
  obtain ⟨Ni, L, hbody⟩ := hLT i js T hlt
  have of0 := e0.hok f _ hf
  unfold LamO at of0
  obtain ⟨⟨doc, pm, ctv, of1⟩, _, _⟩ := of0
  obtain ⟨⟨oc, vs, t, hoc, hdc, hvc⟩, _, _⟩ := e0.hok c' _ hc
  have hda : DfAt s1.heap dV (TbC.lq i).dfl := by
    rcases hdf with ⟨e1, e2⟩ | ⟨nn, t, e1, e2⟩
    · exact .inl ⟨e1, e2⟩
    · obtain ⟨_, its, hv, o, ho, _, n, hd⟩ := e0.hok t _ (kf.sub _ _ e2)
      exact .inr ⟨nn, t, o, its, n, e1, ho, hd, hv⟩
  obtain ⟨bs, hb, hloc⟩ := L.bind (cloFrom X.env.cells (TbC.lq i).scope.names []) dV doc pm (.ref c') ctv s1 hda
  have KX : X.K.In s1.heap := e0.mod.kin.keeps fun b o e => (e0.bs b o e).1
  have lim : s1.heap.NoLimit := e0.mod.nolimit.keeps fun b o e => (e0.bs b o e).1
  refine PySem.W.kla_callFunE hr.depth of1 rfl L.co L.gen rfl ⟨c', oc, vs, t, rfl, hoc, hdc, hvc⟩ (hb _ _ _ _ ?_)
  refine wpAny_newFunctionEnv L.nocell hloc (fun h₁ hns hsb => ⟨lim.fresh _ hsb, ?_⟩) L.kind
  show codeAny _ _ (.expr (TbC.lq i).body (lamEnvB (TbC.lq i) X.env.cells s1.heap.objs.size f c')) _ _
  have kp : ∀ b o, s1.heap.get? b = some o → h₁.get? b = some o := fun b o e => hsb.extBut b o (Nat.ne_of_lt (Heap.lt_size e)) (Heap.get?_push_of_some _ e)
  have cellW : ∀ {y : Str} {a : Addr} {v : Option Value}, X.env.cells.lookup y = some a → s.heap.IsCell a v → (wideB s H X.stack).IsCell a v := fun {y a v} e ⟨o, ho, hd⟩ => ⟨o, wideB_get ho (I.freeC y a e) (hca y a e), hd⟩
  have J : L2.Inv (lamCxB X.prog X.w X.K X.mg (wideB s H X.stack) A outer s1 HZ E Ni (TbC.lq i) X.env.cells f c') [] (pickV js σ) HZ { s1 with heap := h₁, toks := s1.toks + bs.length } := by
    refine lamB_start L e0 hr.hd (fun y hy e => ?_) I.ok.inj (fun y a e => ?_) ?_ (fun t y v e1 e2 => ?_) hns kp
    · rcases L.free y hy e with z | z
      · exact I.ok.has _ (.inl z)
      · exact I.ok.has _ (.inr z)
    · obtain ⟨v, ic⟩ := I.cell y a e
      exact ⟨v, cellW e ic⟩
    · unfold pickV
      rw [List.length_map, L.len]
    · obtain ⟨k1, j, ej, eN⟩ := L.names t y e1
      unfold pickV at e2
      rw [List.getElem?_map, ej] at e2
      have e2 : some (σ[j]?.join) = some (some v) := e2
      have e3 : σ[j]?.join = some v := Option.some.inj e2
      have e4 : σ[j]? = some (some v) := by
        cases z : σ[j]? with
        | none => rw [z] at e3; cases e3
        | some w => rw [z] at e3; rw [show w = some v from e3]
      have hk : X.env.scope.names.lookup y = some .cell ∨ X.env.scope.names.lookup y = some .free := L.free _ (PySem.mem_of_lookup k1) rfl
      obtain ⟨m, hn, hlk⟩ := I.loc
      obtain ⟨u, r, lu⟩ := hlk j y v eN e4 (hk.elim (fun z => .inr (.inl z)) (fun z => .inr (.inr z)))
      rcases lu with ⟨z, _⟩ | ⟨_, a, ea, ic⟩
      · have z : X.env.scope.names.lookup y = some .local := z
        rcases hk with q | q <;> rw [q] at z <;> cases z
      · exact ⟨u, a, r, ea, cellW ea ic⟩
  obtain ⟨tb, pb, sb⟩ := hbody (wideB s H X.stack) A outer s1 HZ E f c' X.env.cells (hr.deeper _)
  have kn : Kn cZ (pickV js σ) HZ SZ (pickE js env) := by
    refine ⟨kf, by unfold pickE pickV; rw [List.length_map, List.length_map], fun t x e => ?_, fun a b x y v u a2 _ e _ _ _ f _ => ?_⟩
    · obtain ⟨j, d, ej, rfl, ed⟩ := pickE_get e
      obtain ⟨v, ev, r⟩ := k.sl j _ ed
      refine ⟨v, ?_, ?_⟩
      · unfold pickV
        rw [List.getElem?_map, ej]
        show some (σ[j]?.join) = some (some v)
        rw [ev]
        rfl
      · show Rep cZ.B SZ d v
        rw [hB]
        exact rep_mono hS d v r
    · obtain ⟨j, d, _, z, _⟩ := pickE_get e
      subst z
      exact f
  refine PySem.W.kla_codeExpr (wpAny_mono (pb.run [] _ _ HZ Q J (sb cZ _ HZ SZ _ R Rx hx kn hz Q fun v H' S' d k' s' r' z => hq v H' S' d k'.kf r' z)) (fun v s' hq' => ?_) fun e s' hq' => hq')
  obtain ⟨w', H', J', rv, q⟩ := hq'
  exact ⟨w', H', J'.os, J'.bare, J'.base, J'.hok, rv, q⟩
end
end DL
namespace DL
open PySem PySem.Spec L2 PyProof.Rows LamX
variable [TbC]
section
variable {X : Cx} {E : XK} {j : Nat} {cl : List (Str × Addr)} {z : Option Addr × Hp} {Z : Zf} {kl : Nat} {a : Str} {p1 p2 : Pos}
def xAct (j : Nat) (cl : List (Str × Addr)) (z : Option Addr × Hp) (Z : Zf) : DT := fun env R Rx => ∃ i, env[j]? = some (some (.val (.fn i cl (some z)))) ∧ ∃ (R' : D → Prop) (Rx' : Er → Prop), Z i R' Rx' ∧ (∀ d, R' d → R d) ∧ ∀ er, Rx' er → Rx er
theorem d_act (G : LamOk X.prog X.w X.K X.mg X.base kl cl z.1 z.2 Z) (hr : Room kl X.A) (hx : Passes (L2.CX X.prog X.w) X E) (hN : X.N[j]? = some a := by rfl) (hv : Vis X.env.scope a := by first | exact Or.inl rfl | exact Or.inr (Or.inl rfl) | exact Or.inr (Or.inr rfl))
    (hd : (a == ("__debug__" : Str)) = false := by decide) (hcd : (a == ("__classdict__" : Str)) = false := by decide) : DE X E (.Call (.Name a p1) [] [] p2) (xAct j cl z Z) := by
  refine ⟨fun σ H Q => ∃ (f c' i : Addr) (dV : Value) (c : Fm) (S : Hp) (R : D → Prop) (Rx : Er → Prop), σ[j]? = some (some (.ref f)) ∧ c.H0 = H ∧ c.S0 = S ∧ Kf c H S ∧ c.B = z.1 ∧ Same z.2 S ∧ H f = some (LamO f i cl dV c') ∧ H c' = some (CodeO c' (TbC.lq i).qual) ∧ DfOk S dV (TbC.lq i).dfl ∧ Z i R Rx ∧
      (∀ v H' S' d, Kf c H' S' → Rep c.B S' d v → R d → Q v H') ∧ XOk c E Rx, ⟨fun pins s σ H Q I h => ?_⟩, fun c σ H S env R Rx x k t Q q => ?_⟩
  · obtain ⟨f, c', i, dV, c, S, R, Rx, hs, h0, hs0, kf, hB, hS, hf, hc, hdf, hz, hq, xo⟩ := h
    refine wpAny_Call_Name_kw (thn ((pe_var (pos := p1) (i := j) hN hv hd hcd).run pins s σ H (fun v H1 => v = .ref f ∧ H1 = H) I ⟨.ref f, hs, rfl, rfl⟩) fun u s1 ⟨v, H1, I1, r1, q1⟩ => ?_)
    obtain ⟨ev, eH⟩ := q1
    subst ev
    rw [eH] at I1
    obtain rfl : u = Value.ref f := r1
    have of0 := I1.hok f _ hf
    unfold LamO at of0
    obtain ⟨⟨doc, pm, ctv, of1⟩, _, _⟩ := of0
    refine PySem.W.callWith_F0 ⟨_, _, _, _, of1⟩ ?_
    refine wpAny_call (codeAny_mono (G.run X.A X.stack s1 H i f c' dV Q E c S R Rx hr I1.env0 h0 hs0 kf hB hS hf hc hdf hz hq xo) fun r s' hq' => ?_)
    cases r with
    | error e => exact hx pins σ H s1 e s' I1 hq'
    | ok fl =>
      cases fl with
      | ret u => exact I1.after hq'
      | next => exact False.elim hq'
      | brk => exact False.elim hq'
      | cont => exact False.elim hq'
  · obtain ⟨i, e, R', Rx', hz, mR, mX⟩ := t
    obtain ⟨v, ev, r⟩ := k.sl j _ e
    have r : Rep c.B S (.fn i cl (some z)) v := r
    rw [Rep] at r
    obtain ⟨f, dV, c', rfl, e1, e2, hdf, hn⟩ := r
    obtain ⟨hB, hS⟩ := hn z rfl
    exact ⟨f, c', i, dV, c.at H S, S, R', Rx', ev, rfl, rfl, k.kf.at, hB, hS, k.kf.sub _ _ e1, k.kf.sub _ _ e2, hdf, hz, fun v H' S' d k' r' y => q v H' S' d (k.back k') k'.s0 r' (mR d y), fun er d vs H1 S1 k1 r1 l1 h1 n0 n1 y => x.at k.kf er d vs H1 S1 k1 r1 l1 h1 n0 n1 (mX er y)⟩
end
mutual
def closeD (z : Option Addr × Hp) : D → D
  | .fn i cl none => .fn i cl (some z)
  | .lst ds => .lst (closeL z ds)
  | .tup ds => .tup (closeL z ds)
  | d => d
def closeL (z : Option Addr × Hp) : List D → List D
  | [] => []
  | d :: ds => closeD z d :: closeL z ds
end
mutual
theorem rep_close {B : Option Addr} {S : Hp} : ∀ (d : D) (v : V), Rep B S d v → Rep B S (closeD (B, S) d) v
  | .non, _, r => r
  | .bl _, _, r => r
  | .int _, _, r => r
  | .str _, _, r => r
  | .ty _, _, r => r
  | .adr _, _, r => r
  | .bag, _, r => r
  | .fn i cl (some y), _, r => r
  | .fn i cl none, v, r => by
    rw [closeD, Rep]
    rw [Rep] at r
    obtain ⟨f, dV, c', e, q, q2, df, _⟩ := r
    exact ⟨f, dV, c', e, q, q2, df, fun y hy => by cases hy; exact ⟨rfl, Same.refl S⟩⟩
  | .lst ds, v, r => by
    rw [closeD, Rep]
    rw [Rep] at r
    obtain ⟨a, vs, e, q, l⟩ := r
    exact ⟨a, vs, e, q, repL_close ds vs l⟩
  | .tup ds, v, r => by
    rw [closeD, Rep]
    rw [Rep] at r
    obtain ⟨a, vs, e, q, l⟩ := r
    exact ⟨a, vs, e, q, repL_close ds vs l⟩
  | .obj C ks ds, v, r => r
  | .dct ks ds, v, r => r
  | .dcT ks ds, v, r => r
  | .exc a dx C ks ds, v, r => r
theorem repL_close {B : Option Addr} {S : Hp} : ∀ (ds : List D) (vs : List V), RepL B S ds vs → RepL B S (closeL (B, S) ds) vs
  | [], _, r => r
  | d :: ds, vs, r => by
    rw [closeL]
    obtain ⟨v, ws, e, q, l⟩ := repL_cons_of r
    exact ⟨v, ws, e, rep_close d v q, repL_close ds ws l⟩
end
section
variable {X : Cx} {E : XK} {k kk : Nat} {f : Addr} {fd : FuncData} {ps : List Str} {x : Str} {p pos : Pos} {e : Expr} {es : List Expr} {Tl : DTA} {cl : List (Str × Addr)} {F : Option Addr × Hp → Zf → Spec} {LT : Nat → Option (List Nat × DT)}
def xCallZ (F : Option Addr × Hp → Zf → Spec) (LT : Nat → Option (List Nat × DT)) (Tl : DTA) : DT := fun env R Rx => Tl env (fun ds => ∀ z, F z (ZL LT env) (closeL z ds) R Rx) Rx
theorem d_callZ (hcl : X.env.cells = cl) (hfn : ∀ y, X.fn y = true) (hst : X.stack = X.env :: X.outer) (hfr : X.env.frame = some X.env.locals)
    (hLT : ∀ i js T, LT i = some (js, T) → ∃ Ni, LamI X.N X.env.scope i Ni js ∧ ∀ (base : Heap) (A : Around) (outer : List Env) (s : Shared) (H : Hp) (E : XK) (f c' : Addr) (cl : List (Str × Addr)), Room kk (A.deeper (lamEnvB (TbC.lq i) cl s.heap.objs.size f c')) →
      DE (lamCxB X.prog X.w X.K X.mg base A outer s H E Ni (TbC.lq i) cl f c') E (TbC.lq i).body T)
    (G : ∀ (base : Heap) (z : Option Addr × Hp) (Z : Zf), LamOk X.prog X.w X.K X.mg base (kk + 1) cl z.1 z.2 Z → FnOk X.prog X.w X.K X.mg base (L2.CX X.prog X.w) k f fd ps (spD (F z Z)))
    (hr : Room k X.A) (hm : X.mg x = some (.ref f)) (hk : PySem.W.keepIn X.K (.ref f) = true) (hb : Binds X.K fd ps []) (hx : Passes (L2.CX X.prog X.w) X E) (ha : DA X E (e :: es) Tl)
    (hg : Gl X x := by rfl) (hdb : (x == ("__debug__" : Str)) = false := by decide) (he : starEach (e :: es) X.env = (false, eval e X.env) :: starEach es X.env := by rfl) (hpl : (backTo pos (starEach es X.env)).any (·.1) = false := by rfl) :
    DE X E (.Call (.Name x p) (e :: es) [] pos) (xCallZ F LT Tl) := by
  subst hcl
  obtain ⟨t, pa, s⟩ := ha
  refine ⟨fun σ H Q => t σ H fun vs H1 => ∃ (c : Fm) (S : Hp) (env : En) (ds : List D) (R : D → Prop) (Rx : Er → Prop), Kn c σ H1 S env ∧ XOk c E Rx ∧ RepL c.B S ds vs ∧ F (c.B, S) (ZL LT env) ds R Rx ∧ (∀ v H' S' d, Kn c σ H' S' env → Same S S' → Rep c.B S' d v → R d → Q v H'), ⟨fun pins s σ H Q I h => ?_⟩, fun c σ H S env R Rx x k t Q q => s c σ H S env _ Rx x k t _ fun vs H1 S1 xs k1 s1 l1 t1 => ?_⟩
  · refine wpAny_Call_Name_kw (ld_glob I hg hm ?_ hdb)
    refine PySem.W.callWith_K (h₀ := X.base) I.ok.mod.kin hk (thn (pa.run pos pins s σ H _ I h) fun us s1 ⟨vs, H1, I1, r, q⟩ => ⟨I1.kIn, ?_⟩) he hpl
    obtain ⟨c, S, env, ds, R, Rx, kn, xo, l, hF, hq⟩ := q
    have ok := lamOk_of (kk := kk) (LT := LT) I1 kn (fun y a ea hm => by
      have h1 := I1.ok.cab y a (hfn y) ea
      rw [hst] at hm
      unfold frs at hm
      rw [List.filterMap_cons, hfr] at hm
      rcases List.mem_cons.mp hm with z | z
      · exact I1.cne y a ea z
      · have h2 : a ∈ X.fs := z
        obtain ⟨_, o, ho, _⟩ := I1.ok.funs.mem h2
        exact absurd (Heap.lt_size ho) (Nat.not_lt.mpr h1)) hLT
    exact run_fnB (G _ (c.B, S) (ZL LT env) ok) hr hb hx I1 r (sp_call kn xo l hF hq)
  · exact ⟨c, S1, env, _, R, Rx, k1, x, repL_close xs vs l1, t1 (c.B, S1), fun v H' S' d k' s' r' t' => q v H' S' d k' (s1.trans s') r' t'⟩
end
end DL
namespace DL
open PySem PySem.Spec L2 PyProof.Rows LamX
variable [TbC]
theorem lk_put {α : Type} (f g : Str) (y : α) (fs : List (Str × α)) : ((f, y) :: fs).lookup g = if g = f then some y else fs.lookup g := by
  by_cases h : g = f
  · subst h
    simp [List.lookup]
  · have e : (g == f) = false := by simpa using h
    rw [if_neg h]
    simp [List.lookup, e]
theorem lookup_rep {B : Option Addr} {S : Hp} {f : Str} {x : D} : ∀ {ks : List Str} {ds : List D} {vs : List V}, RepL B S ds vs → (ks.zip ds).lookup f = some x → ∃ v, (ks.zip vs).lookup f = some v ∧ Rep B S x v
  | [], _, _, _, h => by simp at h
  | k :: ks, [], _, _, h => by simp at h
  | k :: ks, d :: ds, vs, r, h => by
    obtain ⟨v, ws, rfl, r1, r2⟩ := repL_cons_of r
    rw [List.zip_cons_cons, lk_put] at h
    rw [List.zip_cons_cons, lk_put]
    by_cases z : f = k
    · rw [if_pos z] at h ⊢
      cases h
      exact ⟨v, rfl, r1⟩
    · rw [if_neg z] at h ⊢
      exact lookup_rep r2 h
/-- the exception object of the class C at a, its dict at dx -/
def ExHeld (X : Cx) (a dx C : Addr) : Prop := ∀ (pins : List (Addr × Obj)) (σ : L2.St) (H : Hp) (s : Shared), L2.Inv X pins σ H s → ∃ oe vs, s.heap.get? a = some oe ∧ Zc (.ref C) (some dx) oe ∧ oe.data = .fields vs
theorem exHeld_base {X : Cx} {a dx C : Addr} {oe : Obj} {vs : Array Value} (h : X.base.get? a = some oe) (z : Zc (.ref C) (some dx) oe) (d : oe.data = .fields vs) : ExHeld X a dx C := fun _ _ _ _ I => ⟨oe, vs, I.bk _ _ h, z, d⟩
theorem exHeld_pin {X : Cx} {a dx C : Addr} {oe : Obj} {vs : Array Value} (h : (a, oe) ∈ X.pn) (z : Zc (.ref C) (some dx) oe) (d : oe.data = .fields vs) : ExHeld X a dx C := fun _ _ _ _ I => ⟨oe, vs, (I.pin (a, oe) (List.mem_append_left _ h)).1, z, d⟩
section
variable {X : Cx} {E : XK} {o : Expr} {To : DT} {a dx C : Addr} {n : Str} {pos : Pos}
/-- what reading n of an exception of the class C asks -/
def ErrAt (K : PySem.W.Frag) (C : Addr) (n : Str) : Prop := XfC K C ∧ PySem.W.findIn K (.ref C) n = some none
def xXat (K : PySem.W.Frag) (a dx C : Addr) (n : Str) (To : DT) : DT := fun env R Rx => ErrAt K C n ∧ To env (fun d => ∃ ks ds x, d = .exc a dx C ks ds ∧ (ks.zip ds).lookup n = some x ∧ R x) Rx
theorem d_xat {K : PySem.W.Frag} (hK : X.K = K) (hA : ExHeld X a dx C) (he : DE X E o To) (hb : attributeBase o n X.env (eval o X.env) = eval o X.env := by rfl) : DE X E (.Attribute o n pos) (xXat K a dx C n To) := by
  subst hK
  obtain ⟨te, pe, se⟩ := he
  refine ⟨fun σ H Q => ErrAt X.K C n ∧ te σ H fun x H1 => x = .ref a ∧ ∃ (fs : List (Str × V)) (v : V), H1 dx = some (.xd fs) ∧ fs.lookup n = some v ∧ Q v H1, ⟨fun pins s σ H Q I h => ?_⟩, fun c σ H S env R Rx x k t Q q => ⟨t.1, se c σ H S env _ Rx x k t.2 _ fun v H1 S1 d k1 s1 r1 t1 => ?_⟩⟩
  · obtain ⟨⟨T, hno⟩, h⟩ := h
    refine attr_of hb (thn (pe.run pins s σ H _ I h) fun u s1 hh => ?_)
    obtain ⟨x, H1, I1, rx, ex, fs, v, ea, l, q⟩ := hh
    subst ex
    obtain rfl : u = Value.ref a := rx
    obtain ⟨oe, vs, ha, hz, hd⟩ := hA _ _ _ _ I1
    have hx : ObjOk X.prog X.w H1 s1.heap dx (.xd fs) := I1.hok dx _ ea
    obtain ⟨mA, hns, hr⟩ := hx
    obtain ⟨od, ho, hl⟩ := lookIn_ns hns
    obtain ⟨u, hu, ru⟩ := RelO.some_of (v := v) (o := mA n) (by rw [← l]; exact hr n)
    have J : PySem.W.InstAt s1.heap a oe C (some od) := ⟨ha, hz.1, by unfold PySem.W.notCls; rw [hd] <;> rfl, by rw [hz.2]; exact ho⟩
    exact HandSPX.exc_get I1.kIn J T.ga T.gg T.exC (PySem.W.findObj_own T.hdC hno rfl (by rw [hl, hu])) (handed_of ru) ⟨v, H1, I1.tok _, ru, q⟩
  · obtain ⟨ks, ds, x, rfl, hl, hR⟩ := t1
    rw [Rep] at r1
    obtain ⟨vs, ev, eS, _, l⟩ := r1
    obtain ⟨w, hw, rw1⟩ := lookup_rep l hl
    exact ⟨ev, _, w, k1.kf.sub _ _ eS, hw, q w H1 S1 x k1 s1 rw1 hR⟩
end
def canS (E : XK) (T : DTS) : TS := fun D σ H => ∃ (c : Fm) (S : Hp) (env : En) (Q : DEnds), XOk c E Q.ex ∧ Kn c σ H S env ∧ T Q env ∧ mk c S Q D
theorem pss_can {X : Cx} {E : XK} {st : List Stmt} {T : DTS} (h : DSs X E st T) : PSs X st (canS E T) := by
  obtain ⟨t, p, s⟩ := h
  exact ⟨fun pins sh σ H D I ⟨c, S, env, Q, x, k, t, m⟩ => p.run pins sh σ H D I (s c σ H S env Q x k t D m)⟩
def excE (n i : Nat) (d : D) : En := (List.replicate n none).set i (some (.val d))
def noE : XK := fun _ _ _ => False
/-- the names that hold data -/
def valE (env : En) : En := env.map fun x => match x with
  | some (DV.val d) => some (DV.val d)
  | _ => none
theorem valE_get {env : En} {j : Nat} {y : DV} (e : (valE env)[j]? = some (some y)) : ∃ d, y = .val d ∧ env[j]? = some (some (.val d)) := by
  unfold valE at e
  rw [List.getElem?_map] at e
  obtain ⟨x, ex, e2⟩ := Option.map_eq_some_iff.mp e
  split at e2
  · rename_i d
    cases e2
    exact ⟨d, rfl, ex⟩
  · cases e2
theorem Kn.vals {c : Fm} {σ : L2.St} {H S : Hp} {env : En} (k : Kn c σ H S env) : Kn (c.at H S) σ H S (valE env) := by
  refine ⟨k.kf.at, by unfold valE; rw [List.length_map]; exact k.len, fun j y e => ?_, fun j1 j2 x y v u a _ e _ _ _ f _ => ?_⟩
  · obtain ⟨d, rfl, e2⟩ := valE_get e
    exact k.sl j _ e2
  · obtain ⟨d, rfl, _⟩ := valE_get e
    exact f
theorem RepN.at {c : Fm} {H S H' S' : Hp} {d : D} {v : V} (k : Kf c H S) {b : Rk} (r : RepN (c.at H S) H' S' b d v) : RepN c H' S' b d v := by
  cases b with
  | old => exact r
  | nw =>
    refine rep_mono (fun a o e => ?_) d v r
    obtain ⟨e1, e2⟩ := newH_some e
    show newH c.H0 S' a = some o
    rw [newH_of (k.h0_none e1)]
    exact e2
  | tr =>
    obtain ⟨as, r, n, q⟩ := r
    exact ⟨as, r, n, fun a m => ⟨(q a m).1, k.h0_none (q a m).2⟩⟩
/-- what a clause makes of an exception that it catches -/
def zTry3 (K : PySem.W.Frag) (n : Nat) (c1 c2 c3 : Value) (i : Nat) (Tb : DTS) (Th : Addr → Addr → Addr → DTS) : DTS := fun Q env =>
  Tb { nx := Q.nx, rt := Q.rt, bk := Q.bk, ct := Q.ct, ex := fun er => PySem.W.exmAny K (.ref er.cls) [c1, c2, c3] = some true ∧ ∀ a dx, Th a dx er.cls { nx := fun _ => False, rt := fun b d => Q.rt b d, ex := noX } (excE n i (.exc a dx er.cls er.ks er.ds)) } (valE env)
section
variable {X : Cx} {E : XK} {x1 x2 x3 n : Str} {c1 c2 c3 : Value} {i tk0 : Nat} {body suite : List Stmt} {b₀ : Stmt} {np1 np2 np3 tpos pos pos' : Pos} {Tb : DTS} {Th : Addr → Addr → Addr → DTS}
theorem s_try3 {K : PySem.W.Frag} {m : Nat} (hK : X.K = K) (hm : X.N.length = m) (hs : X.stack = X.env :: X.outer) (hf : X.env.frame = some X.env.locals) (hN : X.N.Nodup) (hi : X.N[i]? = some n) (hln : X.env.kindOf n = some .local) (hc1 : Names X x1 c1) (hc2 : Names X x2 c2) (hc3 : Names X x3 c3)
    (hb : ∀ (W : WX) (pn : List (Addr × Obj)) (xe : Value → Shared → Prop), Takes (X.tr pn xe) W → DSs (X.tr pn xe) (fun cls d H => ∀ σ', W cls d σ' H) body Tb)
    (hsu : ∀ (a dx C : Addr) (oe : Obj) (pn : List (Addr × Obj)), Zc (.ref C) (some dx) oe → (∃ vs, oe.data = .fields vs) → DSs (X.suite a ((a, oe) :: pn)) noE (b₀ :: suite) (Th a dx C)) :
    DS X E (.Try body [.ExceptHandler (some (.Tuple [.Name x1 np1, .Name x2 np2, .Name x3 np3] tk0 tpos)) (some n) (b₀ :: suite) pos'] [] [] pos) (zTry3 K m c1 c2 c3 i Tb Th) := by
  subst hK hm
  have hil : i < X.N.length := (List.getElem?_eq_some_iff.mp hi).1
  refine ⟨_, ps_try_as3 (Wout := fun _ _ _ _ => False) (tb := fun W => canS (fun cls d H => ∀ σ', W cls d σ' H) Tb) (ts := fun a cls d => match cls, d with
    | .ref C, some dx => canS noE (Th a dx C)
    | _, _ => tNever) hs hf hN hi hln hc1 hc2 hc3 LamX.takes0 (fun W pn xe tk _ => pss_can (hb W pn xe tk)) (fun a oe cls d pn hz hfd => ?_), fun c σ H S env Q x k t D m => ?_⟩
  · cases cls with
    | ref C =>
      cases d with
      | some dx => exact pss_can (hsu a dx C oe pn hz hfd)
      | none => exact pss_never
    | _ => exact pss_never
  · refine ⟨c.at H S, S, valE env, { nx := Q.nx, rt := Q.rt, bk := Q.bk, ct := Q.ct, ex := fun er => PySem.W.exmAny X.K (.ref er.cls) [c1, c2, c3] = some true ∧ ∀ a dx, Th a dx er.cls { nx := fun _ => False, rt := fun b d => Q.rt b d, ex := noX } (excE X.N.length i (.exc a dx er.cls er.ks er.ds)) }, ?_, k.vals, t, fun σ' H' S' env' k' s' q => m.1 σ' H' S' env' (Kn.up k.kf k') s' q, fun b v H' S' d kf' s' r q => m.2.1 b v H' S' d (k.kf.back' kf') s' (RepN.at k.kf r) q,
      fun σ' H' S' env' k' s' q => m.2.2.1 σ' H' S' env' (Kn.up k.kf k') s' q, fun σ' H' S' env' k' s' q => m.2.2.2 σ' H' S' env' (Kn.up k.kf k') s' q⟩
    intro er d vs H1 S1 kf1 r hl hd n0 n1 ⟨hex, hT⟩ σ' hlen
    refine ⟨true, hex, fun _ a ha => ?_, fun z => nomatch z⟩
    show canS noE (Th a d er.cls) _ (σ'.set i (some (.ref a))) H1
    have sm : Same S1 (upd S1 d (.xd (er.ks.zip vs))) := same_upd n1
    have kf2 : Kf (c.at H S) H1 (upd S1 d (.xd (er.ks.zip vs))) := by
      refine ⟨fun b o e => ?_, kf1.s0.trans sm, kf1.old, fun b e mu => ?_, fun b e => ?_, ⟨fun p hp => ⟨(kf1.tab.1 p hp).1, ?_⟩, kf1.tab.2⟩⟩
      · by_cases z : b = d
        · subst z
          rw [upd_same] at e
          rw [hd]
          exact e
        · rw [upd_ne z] at e
          exact kf1.sub b o e
      · rw [upd_ne (fun z => mu.1 (by rw [z]; exact n0))]
        exact kf1.new b e mu
      · obtain ⟨⟨b1, cs, j, g, st, nn, b2, b3, b4⟩, b5⟩ := kf1.bag b e
        refine ⟨⟨?_, cs, j, g, st, nn, b2, sm _ _ b3, b4⟩, b5⟩
        rw [upd_ne (fun z => b5 (by rw [z]; exact n0))]
        exact b1
      · rw [upd_ne (fun z => kf1.tab.2 p hp (by rw [z]; exact n0))]
        exact (kf1.tab.1 p hp).2
    refine ⟨c.at H S, _, excE X.N.length i (.exc a d er.cls er.ks er.ds), _, xok0, ⟨kf2, ?_, fun j y e => ?_, fun j1 j2 x y v u a2 _ e _ _ _ f _ => ?_⟩, hT a d, fun σ2 H2 S2 env2 k2 s2 z => z.elim, fun b v H2 S2 dd k2 s2 r2 z => ?_, fun σ2 H2 S2 env2 k2 s2 z => z.elim, fun σ2 H2 S2 env2 k2 s2 z => z.elim⟩
    · unfold excE
      rw [List.length_set, List.length_set, List.length_replicate, hlen]
    · unfold excE at e
      rw [List.getElem?_set] at e
      split at e
      · rename_i hij
        subst hij
        split at e
        · cases e
          refine ⟨.ref a, ?_, ?_⟩
          · rw [List.getElem?_set_self (by rw [hlen]; exact hil)]
          · show Rep c.B _ (.exc a d er.cls er.ks er.ds) (.ref a)
            rw [Rep]
            exact ⟨vs, rfl, upd_same, hl, repL_mono sm _ _ r⟩
        · cases e
      · rw [List.getElem?_replicate] at e
        split at e <;> cases e
    · unfold excE at e
      rw [List.getElem?_set] at e
      split at e
      · split at e <;> cases e
        exact f
      · rw [List.getElem?_replicate] at e
        split at e <;> cases e
    · exact m.2.1 b v H2 S2 dd (k.kf.back' k2) ((kf1.s0.trans sm).trans s2) (RepN.at k.kf r2) z
end
end DL
namespace DL
open PySem PySem.Spec L2 PyProof.Rows LamX
variable [TbC]
/-- the exception object of the class C at a stays below -/
def ExIn (base : Heap) (a dx C : Addr) : Prop := ∃ oe vs, base.get? a = some oe ∧ Zc (.ref C) (some dx) oe ∧ oe.data = .fields vs
theorem exHeld_in {X : Cx} {a dx C : Addr} (h : ExIn X.base a dx C) : ExHeld X a dx C := by
  obtain ⟨oe, vs, e, z, d⟩ := h
  exact exHeld_base e z d
structure FnQ (P : Program) (w : World) (K : PySem.W.Frag) (mg : Str → Option Value) (base : Heap) (CX : CXT) (k : Nat) (f : Addr) (fd : FuncData) (ps : List Str) (sp : Sp) : Prop where
  len : ∀ vs H Q E, sp vs H Q E → vs.length = ps.length
  run : ∀ (A : Around) (outer : List Env) (s : Shared) (H : Hp) (args : Args) (us : List Value) (vs : List V) (Q : VK) (E : XK), L2H.RoomH k A → Env0 P w K mg base A outer s H → BindsTo s fd args (ps.zip us) → Vals vs us → sp vs H Q E →
    codeAny (model P w) A (.call (.ref f) args) (CR CX outer P w H s Q E) s
section
variable {P : Program} {w : World} {K : PySem.W.Frag} {mg : Str → Option Value} {base : Heap} {x qual : Str} {st : Stmt} {dvs : List V} {kws : List (Str × V)} {f a dx C : Addr} {fd : FuncData} {N ps : List Str} {k : Nat} {F : Spec}
theorem fn_dQ {T : DTS} (hE : ExIn base a dx C) (Fd : FnS K x qual st dvs kws f fd) (S : FnScope N ps (defScope st)) (len : ∀ ds R Rx, F ds R Rx → ds.length = ps.length)
    (hbody : ∀ (oe : Obj) (cdv : Value) (A : Around) (outer : List Env) (s : Shared) (H : Hp) (E : XK), L2H.RoomH k (A.deeper (PyProof.Rows.envOfC qual (defScope st) s.heap.objs.size f cdv)) →
      DSs (L2H.cxH (L2.CX P w) P w K mg base N qual (defScope st) f cdv A outer s H E (a, oe)) E (defBody st) T)
    (hT : ∀ ds R Rx, F ds R Rx → T { nx := fun _ => R .non, rt := fun _ => R, ex := Rx } (startE N ds)) : FnQ P w K mg base (L2.CX P w) (k + 1) f fd ps (spD F) := by
  obtain ⟨oc, od, dV, kV, doc, pm, an, cdv, ct, osl, rfl, lk, hcd, _, _⟩ := Fd.ex
  obtain ⟨oe, ve, hbe, hz, hfe⟩ := hE
  have hlen : ∀ vs H Q E, spD F vs H Q E → vs.length = ps.length := fun vs H Q E ⟨c, S, ds, R, Rx, _, _, _, l, h, _⟩ => by rw [l.length]; exact len _ _ _ h
  refine ⟨hlen, fun A outer s H args us vs Q E hr e0 hb r hsp => ?_⟩
  have hl := hlen _ _ _ _ hsp
  have KX : K.In s.heap := e0.mod.kin.keeps fun b o e => (e0.bs b o e).1
  have lim : s.heap.NoLimit := e0.mod.nolimit.keeps fun b o e => (e0.bs b o e).1
  have hpin : L2H.PinOk outer H s (a, oe) := ⟨(e0.bs _ _ hbe).1, (e0.bs _ _ hbe).2, (fun hm => by
    have h9 := (e0.funs.mem hm).1
    rw [hbe] at h9
    cases h9), (fun v z => by
    have z' : oe.data = .cell v := z
    rw [hfe] at z'
    cases z')⟩
  have hkind : ∀ y ∈ ps.zip us, (defScope st).names.lookup y.1 = some .local ∨ ((defScope st).names.lookup y.1 = some .cell ∧ ((cellsFrom (s.heap.objs.size + 1) (defScope st).names []).lookup y.1).isSome = true) := fun ⟨n, v⟩ hy => by
    rcases S.par n (List.of_mem_zip hy).1 with q | q
    · exact .inl q
    · exact .inr ⟨q, PySem.W.cellsFrom_some _ _ _ (.inl q)⟩
  refine codeAny_call_function hr.depth (KX _ _ lk) rfl S.co S.gen rfl (PySem.W.codeRec_of KX hcd) (hb _ _ _ _ ?_)
  refine wpAny_newFunctionEnv_cells S.kind hkind fun env he s1 x => ?_
  subst he
  refine ⟨lim.keeps x.toInCall.keep, codeAny_func ?_⟩
  obtain ⟨c, Sh, ds, R, Rx, h0, hs0, kf, l, h, q, xo⟩ := hsp
  obtain ⟨t, p, sm⟩ := hbody oe cdv A outer s H E (hr.deeper _)
  have I : L2.Inv (L2H.cxH (L2.CX P w) P w K mg base N qual (defScope st) f cdv A outer s H E (a, oe)) [] (L2.start N vs) H s1 := L2H.inv_startH S hpin e0 hl r x
  refine wpAny_mono (p.run [] s1 (L2.start N vs) H _ I (sm c _ H Sh _ _ xo (kn_start kf l) (hT ds R Rx h) { nx := fun _ H' => Q .non H', rt := Q }
    ⟨fun σ H1 S1 env k1 s1 r1 => q .non H1 S1 .non k1.kf rfl r1, fun n v H1 S1 d k1 s1 r1 t1 => by
      obtain ⟨S2, k2, _, r2⟩ := r1.old k1
      exact q v H1 S2 d k2 r2 t1, fun σ H1 S1 env k1 s1 r1 => r1, fun σ H1 S1 env k1 s1 r1 => r1⟩)) (fun fl s' hs => ?_) fun e s' hs => hs
  have fin : ∀ {σ' : L2.St} {H' : Hp} {v : V} {u : Value}, L2.Inv (L2H.cxH (L2.CX P w) P w K mg base N qual (defScope st) f cdv A outer s H E (a, oe)) [] σ' H' s' → RelV v u → Q v H' → CE outer P w H s Q u s' :=
    fun {σ' H' v u} J rv q => ⟨v, H', J.os, J.bare, J.base, J.hok, rv, q⟩
  cases fl with
  | ret u =>
    obtain ⟨v, σ', H', J, rv, q⟩ := hs
    exact fin J rv q
  | next =>
    obtain ⟨σ', H', J, q⟩ := hs
    exact fin (v := V.non) (u := Value.none) J rfl q
  | brk =>
    obtain ⟨_, _, _, q⟩ := hs
    exact False.elim q
  | cont =>
    obtain ⟨_, _, _, q⟩ := hs
    exact False.elim q
end
section
variable {X : Cx} {pins : List (Addr × Obj)} {σ : List (Option V)} {H : Hp} {s : Shared}
theorem run_fnQ {CX : CXT} {k : Nat} {f : Addr} {fd : FuncData} {ps : List Str} {sp : Sp} {E : XK} {Q : VK} {us : List Value} {vs : List V} (F : FnQ X.prog X.w X.K X.mg (wideB s H X.stack) CX k f fd ps sp) (hr : L2H.RoomH k X.A) (hb : Binds X.K fd ps []) (hx : Passes CX X E)
    (I : L2.Inv X pins σ H s) (r : Vals vs us) (h : sp vs H Q E) : wpAny (model X.prog X.w) X.A (call (.ref f) us) (EP X pins σ Q) X.xe s := by
  have hl : (us ++ []).length = ps.length := by rw [List.append_nil, ← r.length]; exact F.len _ _ _ _ h
  have hb2 := hb s us I.kIn hl
  rw [List.append_nil] at hb2
  refine wpAny_call (codeAny_mono (F.run X.A X.stack s H ⟨us, []⟩ us vs Q E hr (env0_wide I) hb2 r h) fun r s' hq => ?_)
  cases r with
  | error e => exact hx pins σ H s e s' I hq
  | ok fl =>
    cases fl with
    | ret u => exact I.after hq
    | next => exact False.elim hq
    | brk => exact False.elim hq
    | cont => exact False.elim hq
end
section
variable {X : Cx} {E : XK} {a dx C : Addr} {oe : Obj} {k : Nat} {f : Addr} {fd : FuncData} {ps : List Str} {x : Str} {p pos : Pos} {e : Expr} {es : List Expr} {Tl : DTA} {F : Spec} {Ok : Prop}
def xCallX (Ok : Prop) (F : Spec) (Tl : DTA) : DT := fun env R Rx => Ok ∧ Tl env (fun ds => F ds R Rx) Rx
theorem d_callX (hp : (a, oe) ∈ X.pn) (hz : Zc (.ref C) (some dx) oe) (hfd : ∃ vs, oe.data = .fields vs) (G : ∀ base, ExIn base a dx C → Ok → FnQ X.prog X.w X.K X.mg base (L2.CX X.prog X.w) k f fd ps (spD F))
    (hr : L2H.RoomH k X.A) (hm : X.mg x = some (.ref f)) (hk : PySem.W.keepIn X.K (.ref f) = true) (hb : Binds X.K fd ps []) (hx : Passes (L2.CX X.prog X.w) X E) (ha : DA X E (e :: es) Tl)
    (hg : Gl X x := by rfl) (hdb : (x == ("__debug__" : Str)) = false := by decide) (he : starEach (e :: es) X.env = (false, eval e X.env) :: starEach es X.env := by rfl) (hpl : (backTo pos (starEach es X.env)).any (·.1) = false := by rfl) :
    DE X E (.Call (.Name x p) (e :: es) [] pos) (xCallX Ok F Tl) := by
  obtain ⟨t, pa, s⟩ := ha
  refine ⟨fun σ H Q => Ok ∧ t σ H fun vs H1 => spD F vs H1 Q E, ⟨fun pins s σ H Q I h => ?_⟩, fun c σ H S env R Rx x k t Q q => ⟨t.1, s c σ H S env _ Rx x k t.2 _ fun vs H1 S1 xs k1 s1 l1 t1 => ?_⟩⟩
  · obtain ⟨ok, h⟩ := h
    refine wpAny_Call_Name_kw (ld_glob I hg hm ?_ hdb)
    refine PySem.W.callWith_K (h₀ := X.base) I.ok.mod.kin hk (thn (pa.run pos pins s σ H _ I h) fun us s1 ⟨vs, H1, I1, r, q⟩ => ⟨I1.kIn, ?_⟩) he hpl
    obtain ⟨h1, h2, h3, h4, _⟩ := I1.pin (a, oe) (List.mem_append_left _ hp)
    obtain ⟨vv, hfd⟩ := hfd
    have hin : ExIn (wideB s1 H1 X.stack) a dx C := ⟨oe, vv, wideB_get h1 h2 (fun hb => by
      rcases List.mem_cons.mp (I1.stkSub a hb) with z | z
      · exact h3 z
      · exact h4 z), hz, hfd⟩
    exact run_fnQ (G _ hin ok) hr hb hx I1 r q
  · exact sp_call k1 x l1 t1 fun v H' S' d k' s' r' t' => q v H' S' d k' (s1.trans s') r' t'
end
theorem roomH_suite {X : Cx} {a : Addr} {pn : List (Addr × Obj)} {j k : Nat} (r : Room k X.A) (h : j ≤ k) : L2H.RoomH j (X.suite a pn).A := L2H.RoomH.mono (k := k) ⟨r.dp, r.un⟩ h
/-- nothing leaves a suite -/
theorem pass_suite {X : Cx} {a : Addr} {pn : List (Addr × Obj)} : Passes (L2.CX X.prog X.w) (X.suite a pn) noE := passL
/-- .. what leaves a def's or a try's body -/
theorem pass_tr {X : Cx} {pn : List (Addr × Obj)} {xe : Value → Shared → Prop} {W : WX} (tk : Takes (X.tr pn xe) W) : Passes (L2.CX X.prog X.w) (X.tr pn xe) (fun cls d H => ∀ σ', W cls d σ' H) := passes_call tk fun cls d σ H h => h σ
theorem pass_lam {P : Program} {w : World} {K : PySem.W.Frag} {mg : Str → Option Value} {base : Heap} {A : Around} {outer : List Env} {s : Shared} {H : Hp} {E : XK} {N : List Str} {q : LamQ} {cl : List (Str × Addr)} {f c' : Addr} :
    Passes (L2.CX P w) (lamCxB P w K mg base A outer s H E N q cl f c') E := passes_call (takes_of rfl rfl rfl rfl) fun _ _ _ _ h => h
end DL
namespace Hx
open PySem PySem.Spec L2
theorem sup_ok {K : PySem.W.Frag} {C : Addr} {fl : Str} {clo : List (Str × Addr)} {code : Value} (h : supB K C fl clo code = true) : ∃ (cc cda : Addr) (ccl cl : Value) (cdd cld : Option Addr) (ccs csl : Array (Option Value)) (vs : Array Value) (file : Str) (tf : Tok) (cdD : ClassData),
    clo = [(("__class__" : Str), cc)] ∧ code = .ref cda ∧ K.lookup cda = some ⟨ccl, cdd, .fields vs, ccs⟩ ∧ vs[2]? = some (.str file tf) ∧ (fl == file) = true ∧ K.lookup cc = some ⟨cl, cld, .cell (some (.ref C)), csl⟩ ∧ PySem.W.clsIn K C = some cdD := by
  unfold supB at h
  split at h
  · rename_i n cc cda
    obtain ⟨h1, h⟩ := He.ba h
    obtain ⟨h2, h⟩ := He.ba h
    obtain ⟨h3, h4⟩ := He.ba h
    have h1 := of_decide_eq_true h1
    subst h1
    split at h2
    · rename_i cl cld D csl e2
      have h2 := of_decide_eq_true h2
      subst h2
      split at h3
      · rename_i ccl cdd vs ccs e3
        split at h3
        · rename_i file tf e4
          obtain ⟨cdD, hD⟩ := Option.isSome_iff_exists.mp h4
          exact ⟨cc, cda, ccl, cl, cdd, cld, ccs, csl, vs, file, tf, cdD, rfl, rfl, e3, e4, h3, e2, hD⟩
        · cases h3
      · cases h3
    · cases h2
  · cases h
theorem DefX.supF {K : PySem.W.Frag} {d : DefX} {x fl : Str} (e : fnX K (d.ad K) = d.val) (c : d.ok K = true) (hs : d.sup = some (x, fl)) (hd : d.dfl = []) : ∃ (cc cda : Addr) (fd : FuncData), EXS.SupFn K fl d.name d.qual d.params d.body d.scope (He.ga K x) (d.ad K) cc cda fd := by
  obtain ⟨kp, c2⟩ := He.ba c
  unfold fnX at e
  cases q : K.lookup (d.ad K) with
  | none =>
    rw [q] at c2
    cases c2
  | some o =>
    obtain ⟨oc, od, dt, osl⟩ := o
    rw [q] at c2 e
    cases dt with
    | func fd =>
      obtain ⟨n1, n2, n3, n4, n5, n6, n7, n8, n9, n10, n11, n12, n13, n14, n15⟩ := fd
      have c9 : ((PySem.W.codeIn K n13 d.qual && (He.dflB K n8 (d.dvs K) && He.kwdB K n9 (d.kws K))) && cloB K d.sup n7 n13) = true := c2
      obtain ⟨c3, c4⟩ := He.ba c9
      rw [hs] at c4
      have c5 : supB K (He.ga K x) fl n7 n13 = true := c4
      obtain ⟨cc, cda, ccl, cl, cdd, cld, ccs, csl, vs, file, tf, cdD, r1, r2, r3, r4, r5, r6, r7⟩ := sup_ok c5
      subst r1 r2
      have e2 : (some (n1, n2, n3, n4, n5, n6, ([] : List (Str × Addr)), n15) : He.FnW) = some (d.name, d.qual, d.params, .stmts d.body, d.scope, mainGlobals, [], builtinsNs) := e
      simp only [Option.some.injEq, Prod.mk.injEq] at e2
      obtain ⟨h1, h2, h3, h4, h5, h6, _, h8⟩ := e2
      subst h1 h2 h3 h4 h5 h6 h8
      obtain ⟨k1, k2⟩ := He.ba c3
      obtain ⟨k3, _⟩ := He.ba k2
      have k4 := He.dflB_ok k3
      have hdv : d.dvs K = [] := by unfold DefX.dvs; rw [hd]; rfl
      rw [hdv] at k4
      have k5 : n8 = .none := by
        rcases k4 with ⟨_, z⟩ | ⟨z, _⟩
        · exact z
        · exact absurd rfl z
      exact ⟨cc, cda, _, ⟨oc, ccl, cl, n8, n9, n10, n11, n14, n12, od, cdd, cld, osl, ccs, csl, vs, file, tf, cdD, rfl, q, k1, r3, r4, r5, r6, r7, k5⟩, kp⟩
    | _ => cases c2
theorem SaysX.sup_ {fx : List (PySem.W.Frag → Bool)} {fn : List DefX} {K : PySem.W.Frag} (c : SaysX fx fn K) (i : Nat) {d : DefX} {x fl : Str} (h : fn[i]? = some d := by rfl) (hs : d.sup = some (x, fl) := by rfl) (hd : d.dfl = [] := by rfl) : ∃ (cc cda : Addr) (fd : FuncData), EXS.SupFn K fl d.name d.qual d.params d.body d.scope (He.ga K x) (d.ad K) cc cda fd := by
  have c2 := (He.ba (show ((fx.all fun f => f K) && fn.all fun d => d.ok K) = true from congrArg (fun z : He.AlD => z.1) c)).2
  have e : fn.map (fun d => fnX K (d.ad K)) = fn.map DefX.val := congrArg (fun z : He.AlD => z.2) c
  have e2 : (fn.map fun d => fnX K (d.ad K))[i]? = (fn.map DefX.val)[i]? := by rw [e]
  rw [List.getElem?_map, List.getElem?_map, h] at e2
  exact DefX.supF (Option.some.inj e2) (List.all_eq_true.mp c2 d (List.mem_of_getElem? h)) hs hd
theorem ErrX.excD {K : PySem.W.Frag} {C f : Addr} (h : ErrX K C f) : EXS.ExcD K C := ⟨h.ox, h.st, h.su, h.mr, h.ve⟩
end Hx
namespace DL
open PySem PySem.Spec L2
/-- an own error class of the text, known by its name -/
structure Xe (K : PySem.W.Frag) (mg : Str → Option Value) (fl : Str) (x : Str) (st : Stmt) where
  C : Addr
  f : Addr
  cc : Addr
  cda : Addr
  fd : FuncData
  g : mg x = some (.ref C)
  e : Hx.ErrX K C f
  F : EXS.SupFn K fl "__init__" (x ++ ".__init__") (defArgs st) (defBody st) (defScope st) C f cc cda fd
theorem Xe.binds {K : PySem.W.Frag} {mg : Str → Option Value} {fl x : Str} {st : Stmt} {ps : List Str} (D : Xe K mg fl x st)
    (h : ∀ (kV doc pm cdv ct : Value) (an : Option Addr) (cc : Addr) (us : List Value), us.length = ps.length → bindArgs (PySem.W.ksFn "__init__" (x ++ ".__init__") (defArgs st) (defBody st) (defScope st) .none kV doc pm an cdv ct cc) ⟨us, []⟩ = pure (ps.zip us)) : Binds K D.fd ps [] := by
  obtain ⟨_, _, _, dV, _, _, _, _, _, _, _, _, _, _, _, _, _, _, _, e, _, _, _, _, _, _, _, e2⟩ := D.F.ex
  rw [e, e2]
  exact Binds.all (h _ _ _ _ _ _ _)
end DL
namespace DL
open PySem PySem.Spec L2
def noPos : Pos := ⟨0, 0, 0, 0⟩
def noEx : Expr := .Constant .none 0 noPos
/-- an expression's i-th part -/
def kid : Expr → Nat → Expr
  | .Call f _ _ _, 0 => f
  | .Call _ as _ _, i + 1 => as.getD i noEx
  | .List es _, i => es.getD i noEx
  | .Tuple es _ _, i => es.getD i noEx
  | .BoolOp _ es _, i => es.getD i noEx
  | .BinOp l _ _ _, 0 => l
  | .BinOp _ _ r _, _ + 1 => r
  | .UnaryOp _ x _, _ => x
  | .Compare l _ _ _, 0 => l
  | .Compare _ _ cs _, i + 1 => cs.getD i noEx
  | .Attribute v _ _, _ => v
  | .Subscript v _ _, 0 => v
  | .Subscript _ s _, _ + 1 => s
  | .IfExp t _ _ _, 0 => t
  | .IfExp _ b _ _, 1 => b
  | .IfExp _ _ o _, _ => o
  | _, _ => noEx
/-- a statement's expression -/
def sEx : Stmt → Expr
  | .Assign _ v _ => v
  | .Return (some v) _ => v
  | .Expr v _ => v
  | .If t _ _ _ => t
  | .For _ it _ _ _ => it
  | .While t _ _ _ => t
  | _ => noEx
/-- a statement's i-th part: its body, then its else -/
def sSub : Stmt → Nat → Stmt
  | .For _ _ b _ _, i => b.getD i (.Pass noPos)
  | .While _ b _ _, i => b.getD i (.Pass noPos)
  | .If _ b o _, i => (b ++ o).getD i (.Pass noPos)
  | _, _ => .Pass noPos
def lamQ (qual : Str) (dfl : List Int) : Expr → LamQ
  | .Lambda ps b sc _ => ⟨qual, ps, b, sc, dfl⟩
  | e => ⟨qual, defArgs (.Pass noPos), e, defScope (.Pass noPos), dfl⟩
/-- no default: nothing is bound -/
theorem bind0 {q : LamQ} (h : ∀ (cl : List (Str × Addr)) (doc pm cdv ctv : Value), bindArgs (PySem.W.kdv_fn "<lambda>" q.qual q.params (.expr q.body) q.scope cl .none doc pm cdv ctv) ⟨[], []⟩ = pure []) (hd : q.dfl = []) :
    ∀ (cl : List (Str × Addr)) (dV doc pm cdv ctv : Value) (s : Shared), DfAt s.heap dV q.dfl → ∃ bs, BindsTo s (PySem.W.kdv_fn "<lambda>" q.qual q.params (.expr q.body) q.scope cl dV doc pm cdv ctv) ⟨[], []⟩ bs ∧ ∀ y ∈ bs, q.scope.names.lookup y.1 = some .local := by
  intro cl dV doc pm cdv ctv s hA
  rw [hd] at hA
  rcases hA with ⟨_, e⟩ | ⟨z, _⟩
  · subst e
    exact ⟨[], BindsTo.of_eq (h _ _ _ _ _), fun y hy => nomatch hy⟩
  · exact absurd rfl z
/-- one default -/
theorem bind1 {q : LamQ} {x : Str} {n : Int} (h : ∀ (cl : List (Str × Addr)) (doc pm cdv ctv : Value) (t : Addr) (u : Value), ∃ k : Option (Array Value) → Sem (List (Str × Value)), bindArgs (PySem.W.kdv_fn "<lambda>" q.qual q.params (.expr q.body) q.scope cl (.ref t) doc pm cdv ctv) ⟨[], []⟩ = seqItems? (.ref t) >>= k ∧ k (some #[u]) = pure [(x, u)])
    (hd : q.dfl = [n]) (hx : q.scope.names.lookup x = some .local) :
    ∀ (cl : List (Str × Addr)) (dV doc pm cdv ctv : Value) (s : Shared), DfAt s.heap dV q.dfl → ∃ bs, BindsTo s (PySem.W.kdv_fn "<lambda>" q.qual q.params (.expr q.body) q.scope cl dV doc pm cdv ctv) ⟨[], []⟩ bs ∧ ∀ y ∈ bs, q.scope.names.lookup y.1 = some .local := by
  intro cl dV doc pm cdv ctv s hA
  rw [hd] at hA
  rcases hA with ⟨z, _⟩ | ⟨_, t, o, its, m, e, ho, hs, hv⟩
  · cases z
  · subst e
    cases hv with
    | @cons _ u _ us hu hv =>
      cases hv
      obtain ⟨k, h1, h2⟩ := h cl doc pm cdv ctv t u
      refine ⟨[(x, u)], BindsTo.of_defaults rfl ho hs h1 h2, fun y hy => ?_⟩
      rw [List.mem_singleton.mp hy]
      exact hx
end DL
namespace DL
open PySem PySem.Spec L2
variable [TbC]
section
variable {X : Cx} {k : Nat} {C g : Addr} {fd : FuncData} {ps : List Str} {sp : Sp} {F : Spec}
def negR (R : D → Prop) : D → Prop
  | .bl b => R (.bl (!b))
  | _ => False
theorem w_negR {R : D → Prop} {b : Bool} : negR R (.bl b) = R (.bl (!b)) := rfl
def opOwnN (C : Addr) (F : Spec) : DOp := fun x y R => asO C (fun _ _ => True) x ∧ asO C (fun _ _ => True) y ∧ F [x, y] (negR R) noX
theorem w_opOwnN {C : Addr} {F : Spec} {x y : D} {R : D → Prop} : opOwnN C F x y R = (asO C (fun _ _ => True) x ∧ asO C (fun _ _ => True) y ∧ F [x, y] (negR R) noX) := rfl
end
theorem w_par3 {i j l : Nat} {Tl : DTA} {Q : DEnds} {env : En} : zPar3 i j l Tl Q env = Tl env (fun ds => match ds with
  | [d, d', d''] => Q.nx (put l d'' (put j d' (put i d env)))
  | _ => False) Q.ex := rfl
end DL
namespace DL
open PySem PySem.Spec L2 PyProof.Rows LamX
variable [TbC]
/-- i-th statement of a def's body -/
def dSub (st : Stmt) (i : Nat) : Stmt := (defBody st).getD i (.Pass noPos)
def lamQual (qual : Str) (sc : Scope) : Str := (PyProof.Rows.envOfC qual sc 0 0 .none).qual ++ "<lambda>"
/-- what lambda q may name, asked by reckoning -/
def lamIB (N : List Str) (sc : Scope) (q : LamQ) (Ni : List Str) (js : List Nat) : Bool :=
  decide (q.scope.kind = .function) && !q.scope.isCoroutine && !q.scope.isGenerator && (q.scope.names.all fun y => !decide (y.2 = .cell) && (!decide (y.2 = .free) || decide (sc.names.lookup y.1 = some .cell) || decide (sc.names.lookup y.1 = some .free))) &&
  (Ni.all fun y => decide (q.scope.names.lookup y = some .free)) && decide (js.map (fun j => N[j]?) = Ni.map some)
def BindL (q : LamQ) : Prop := ∀ (cl : List (Str × Addr)) (dV doc pm cdv ctv : Value) (s : Shared), DfAt s.heap dV q.dfl → ∃ bs, BindsTo s (PySem.W.kdv_fn "<lambda>" q.qual q.params (.expr q.body) q.scope cl dV doc pm cdv ctv) ⟨[], []⟩ bs ∧ ∀ y ∈ bs, q.scope.names.lookup y.1 = some .local
theorem lamI_of {N : List Str} {sc : Scope} {i : Nat} {q : LamQ} {Ni : List Str} {js : List Nat} (hq : TbC.lq i = q) (h : lamIB N sc q Ni js = true) (hb : BindL q) : LamI N sc i Ni js := by
  unfold lamIB at h
  simp only [Bool.and_eq_true, Bool.or_eq_true, Bool.not_eq_true', decide_eq_true_eq, decide_eq_false_iff_not, List.all_eq_true] at h
  obtain ⟨⟨⟨⟨⟨h1, h2⟩, h3⟩, h4⟩, h5⟩, h6⟩ := h
  subst hq
  refine ⟨h1, h2, h3, fun y hy => (h4 y hy).1, fun y hy e => ?_, fun t y e => ?_, ?_, hb⟩
  · rcases (h4 y hy).2 with (z | z) | z
    · exact absurd e z
    · exact .inl z
    · exact .inr z
  · have e2 := congrArg (fun l => l[t]?) h6
    simp only [List.getElem?_map, e, Option.map_some] at e2
    refine ⟨h5 y (List.mem_of_getElem? e), ?_⟩
    cases q : js[t]? with
    | none => rw [q] at e2; cases e2
    | some j =>
      rw [q] at e2
      exact ⟨j, rfl, Option.some.inj e2⟩
  · have := congrArg List.length h6
    simpa using this
/-- the lambdas of a def: their captured names' places, what they tell -/
def ltab (L : List (Nat × List Nat × DT)) (i : Nat) : Option (List Nat × DT) := L.lookup i
def LTok (P : Program) (w : World) (K : PySem.W.Frag) (mg : Str → Option Value) (kk : Nat) (N : List Str) (sc : Scope) (L : List (Nat × List Nat × DT)) : Prop :=
  ∀ i js T, ltab L i = some (js, T) → ∃ Ni, LamI N sc i Ni js ∧ ∀ (base : Heap) (A : Around) (outer : List Env) (s : Shared) (H : Hp) (E : XK) (f c' : Addr) (cl : List (Str × Addr)), Room kk (A.deeper (lamEnvB (TbC.lq i) cl s.heap.objs.size f c')) →
      DE (lamCxB P w K mg base A outer s H E Ni (TbC.lq i) cl f c') E (TbC.lq i).body T
section
variable {P : Program} {w : World} {K : PySem.W.Frag} {mg : Str → Option Value} {kk : Nat} {N : List Str} {sc : Scope}
theorem lt_nil : LTok P w K mg kk N sc [] := fun i js T e => nomatch (show (none : Option (List Nat × DT)) = some (js, T) from e)
theorem lt_cons {i : Nat} {q : LamQ} {Ni : List Str} {js : List Nat} {T : DT} {L : List (Nat × List Nat × DT)} (hq : TbC.lq i = q) (hI : lamIB N sc q Ni js = true) (hb : BindL q)
    (hd : ∀ (base : Heap) (A : Around) (outer : List Env) (s : Shared) (H : Hp) (E : XK) (f c' : Addr) (cl : List (Str × Addr)), Room kk (A.deeper (lamEnvB q cl s.heap.objs.size f c')) → DE (lamCxB P w K mg base A outer s H E Ni q cl f c') E q.body T)
    (rest : LTok P w K mg kk N sc L) : LTok P w K mg kk N sc ((i, js, T) :: L) := fun i' js' T' e => by
  unfold ltab at e
  rw [List.lookup_cons] at e
  by_cases z : i' = i
  · subst z
    rw [beq_self_eq_true] at e
    cases e
    exact ⟨Ni, lamI_of hq hI hb, by rw [hq]; exact hd⟩
  · rw [beq_false_of_ne z] at e
    exact rest i' js' T' e
/-- what the table says of lambda i -/
theorem ZL_at {L : List (Nat × List Nat × DT)} {env : En} {i : Nat} {js : List Nat} {T : DT} {R : D → Prop} {Rx : Er → Prop} (h : ltab L i = some (js, T)) : ZL (ltab L) env i R Rx = T (pickE js env) R Rx := by
  unfold ZL
  rw [h]
end
/-- free names of a lambda are cells of its maker -/
def lamFB (sc scope : Scope) : Bool := scope.names.all fun y => !decide (y.2 = .free) || decide (sc.names.lookup y.1 = some .cell) || decide (sc.names.lookup y.1 = some .free)
theorem lamF_by {sc scope : Scope} (h : lamFB sc scope = true) : ∀ y ∈ scope.names, y.2 = .free → sc.names.lookup y.1 = some .cell ∨ sc.names.lookup y.1 = some .free := by
  unfold lamFB at h
  simp only [Bool.or_eq_true, Bool.not_eq_true', decide_eq_true_eq, decide_eq_false_iff_not, List.all_eq_true] at h
  intro y hy e
  rcases h y hy with (z | z) | z
  · exact absurd e z
  · exact .inl z
  · exact .inr z
section
variable {X : Cx} {E : XK} {i : Nat} {c P : Addr} {params : Arguments} {body : Expr} {scope : Scope} {pos : Pos} {q : Str}
theorem d_lamQ0 (hqe : X.env.qual ++ "<lambda>" = q) (TB : TabB X.base X.mg c P) (hcode : X.env.code = .ref c) (hP : (P, q) ∈ TbC.ts) (hu : ∀ p ∈ TbC.ts, p.1 = P → p.2 = q)
    (hq : TbC.lq i = ⟨q, params, body, scope, []⟩) (L : LamS X.env.scope scope) (hdef : defaultsOf params X.env = ([], [])) {cl : List (Str × Addr)} (hcl : X.env.cells = cl) : DE X E (.Lambda params body scope pos) (xLam i cl) := by
  subst hqe
  exact d_lam0 TB hcode hP hu hq L hdef hcl
theorem d_lamQ1 {n : Int} {kk : Nat} {p1 : Pos} (hqe : X.env.qual ++ "<lambda>" = q) (TB : TabB X.base X.mg c P) (hcode : X.env.code = .ref c) (hP : (P, q) ∈ TbC.ts) (hu : ∀ p ∈ TbC.ts, p.1 = P → p.2 = q)
    (hq : TbC.lq i = ⟨q, params, body, scope, [n]⟩) (hfree : ∀ y ∈ scope.names, y.2 = .free → X.env.scope.names.lookup y.1 = some .cell ∨ X.env.scope.names.lookup y.1 = some .free) (hd : params.defaults = [.Constant (.int n) kk p1]) (hk : params.kw_defaults = []) {cl : List (Str × Addr)} (hcl : X.env.cells = cl) :
    DE X E (.Lambda params body scope pos) (xLam i cl) := by
  subst hqe
  exact d_lam1 TB hcode hP hu hq hfree hd hk hcl
end
end DL
namespace DL
open PySem PySem.Spec L2
variable [TbC]
theorem seq_step {A B : DTS} {Q : DEnds} {env : En} (h : ∀ N : En → Prop, (∀ e, B Q e → N e) → A { Q with nx := N } env) : zSeq A B Q env := h _ fun _ h => h
theorem for_step {Ti : DTI} {G : DG} {Tb : DTS} {Q : DEnds} {env : En} (h : ∀ B : DEnds → En → Prop, (∀ Q e, Tb Q e → B Q e) → zFor Ti G B Q env) : zFor Ti G Tb Q env := h _ fun _ _ h => h
/-- both ways behind a test -/
theorem if_step {T : DTT} {U W : DTS} {Q : DEnds} {env : En} (h : ∀ U' W' : DEnds → En → Prop, (∀ Q e, U Q e → U' Q e) → (∀ Q e, W Q e → W' Q e) → zIf T U' W' Q env) : zIf T U W Q env := h _ _ (fun _ _ h => h) fun _ _ h => h
section
variable {P : Program} {w : World} {K : PySem.W.Frag} {mg : Str → Option Value} {kk : Nat} {N : List Str} {sc : Scope} {L : List (Nat × List Nat × DT)}
theorem lt_hide (h : LTok P w K mg kk N sc L) : ∃ L', LTok P w K mg kk N sc L' ∧ ∀ i js T, ltab L i = some (js, T) → ∀ (env : En) (R : D → Prop) (Rx : Er → Prop), ZL (ltab L') env i R Rx = T (pickE js env) R Rx := ⟨L, h, fun i js T e env R Rx => ZL_at e⟩
end
def pk : Option (Option DV) → Option DV
  | some (some (.val d)) => some (.val d)
  | _ => none
theorem w_pk {d : D} : pk (some (some (.val d))) = some (.val d) := rfl
theorem w_pickE_nil {env : En} : pickE [] env = [] := rfl
theorem w_pickE_cons {j : Nat} {js : List Nat} {env : En} : pickE (j :: js) env = pk env[j]? :: pickE js env := rfl
theorem w_xLam {i : Nat} {cl : List (Str × Addr)} {env : En} {R : D → Prop} {Rx : Er → Prop} : xLam i cl env R Rx = R (.fn i cl none) := rfl
theorem w_callZ {F : Option Addr × Hp → Zf → Spec} {LT : Nat → Option (List Nat × DT)} {Tl : DTA} {env : En} {R : D → Prop} {Rx : Er → Prop} : xCallZ F LT Tl env R Rx = Tl env (fun ds => ∀ z, F z (ZL LT env) (closeL z ds) R Rx) Rx := rfl
theorem repN_0 : List.replicate 0 (none : Option DV) = [] := rfl
theorem repN_s {n : Nat} : List.replicate (n + 1) (none : Option DV) = none :: List.replicate n none := rfl
theorem repints {ts : List Int} : ∀ {n : Nat}, (List.replicate n (ts.map D.int)).flatten = ((List.replicate n ts).flatten).map D.int
  | 0 => rfl
  | n + 1 => by
    rw [List.replicate_succ, List.replicate_succ, List.flatten_cons, List.flatten_cons, List.map_append, repints (n := n)]
theorem repone {α : Type} {n : Nat} {x : α} : (List.replicate n [x]).flatten = List.replicate n x := by
  rw [List.flatten_replicate_singleton]
end DL
namespace DL
open PySem PySem.Spec L2
variable [TbC]
/-- data of the built-in types -/
def D.bty : D → Option String
  | .non => some "NoneType"
  | .bl _ => some "bool"
  | .int _ => some "int"
  | .str _ => some "str"
  | .lst _ => some "list"
  | .tup _ => some "tuple"
  | _ => none
def asA (d : D) : Prop := d.bty ≠ none
theorem w_asA_int {i : Int} : asA (.int i) = True := eq_true fun z => nomatch z
theorem w_asA_non : asA .non = True := eq_true fun z => nomatch z
theorem w_asA_bl {b : Bool} : asA (.bl b) = True := eq_true fun z => nomatch z
theorem w_asA_str {s : Str} : asA (.str s) = True := eq_true fun z => nomatch z
theorem w_asA_lst {xs : List D} : asA (.lst xs) = True := eq_true fun z => nomatch z
theorem w_asA_tup {xs : List D} : asA (.tup xs) = True := eq_true fun z => nomatch z
section
variable {X : Cx} {CX : CXT} {k : Nat} {C g : Addr} {fd : FuncData} {ps : List Str} {F : Spec} {E : XK} {a b : Expr} {Ta Tb : DT} {pos : Pos}
def xOBa (C : Addr) (F : Spec) (Ta Tb : DT) : DT := fun env R Rx => Ta env (fun x => Tb env (fun y => asO C (fun _ _ => True) x ∧ asA y ∧ F [x, y] R Rx) Rx) Rx
theorem w_xOBa {C : Addr} {F : Spec} {Ta Tb : DT} {env : En} {R : D → Prop} {Rx : Er → Prop} : xOBa C F Ta Tb env R Rx = Ta env (fun x => Tb env (fun y => asO C (fun _ _ => True) x ∧ asA y ∧ F [x, y] R Rx) Rx) Rx := rfl
end
end DL
namespace DL
open PySem PySem.Spec L2
end DL
namespace DL
open PySem PySem.Spec L2
variable [TbC]
/-- the text with these signs -/
def tx (l : List Nat) : Str := ⟨⟨l⟩⟩
theorem w_tx_len {l : List Nat} : (tx l).length = l.length := rfl
theorem w_tx_size {l : List Nat} : (tx l).cps.size = l.length := rfl
theorem w_tx_cps {l : List Nat} : (tx l).cps.toList = l := rfl
theorem w_tx_app {a b : List Nat} : tx a ++ tx b = tx (a ++ b) := by
  show Str.mk _ = Str.mk _
  congr 1
  show (⟨a⟩ : Array Nat) ++ (⟨b⟩ : Array Nat) = ⟨a ++ b⟩
  simp
theorem tx_inj {a b : List Nat} (h : tx a = tx b) : a = b := by
  have := congrArg (fun s : Str => s.cps.toList) h
  exact this
theorem w_tx_eq {a b : List Nat} : (tx a = tx b) = (a = b) := propext ⟨tx_inj, fun h => by rw [h]⟩
theorem w_tx_beq {a b : List Nat} : (tx a == tx b) = decide (a = b) := by
  rw [Bool.eq_iff_iff, beq_iff_eq, decide_eq_true_eq]
  exact ⟨tx_inj, fun h => by rw [h]⟩
theorem w_tx_mul {a : List Nat} {n : Nat} : mulS (tx a) n = tx (List.replicate n a).flatten := rfl
theorem w_tx_signs {l : List Nat} : signs (tx l) = l.map fun c => .str (tx [c]) := rfl
theorem w_tx_emp : (Str.ofString "") = tx [] := by decide +kernel
theorem w_tx_one {c : Nat} : (Str.mk #[c]) = tx [c] := rfl
end DL
namespace DL
open PySem PySem.Spec L2
variable [TbC]
/-- n values at places, keywords ks: in the parameters' order, defaults put in (told by gD) -/
def KBm (K : PySem.W.Frag) (fd : FuncData) (ps : List Str) (n : Nat) (ks : List Str) (gD : List D → List D → List D) : Prop :=
  ∃ (g : List Value → List Value → List Value) (gV : List V → List V → List V), KBn K fd ps n ks g gV ∧
    ∀ (B : Option Addr) (S : Hp) (xs zs : List D) (vs ws : List V), xs.length = n → zs.length = ks.length → RepL B S xs vs → RepL B S zs ws → RepL B S (gD xs zs) (gV vs ws)
def xCallM (F : Spec) (n m : Nat) (gD : List D → List D → List D) (Tl Tk : DTA) : DT := fun env R Rx => Tl env (fun xs => Tk env (fun zs => xs.length = n ∧ zs.length = m ∧ F (gD xs zs) R Rx) Rx) Rx
theorem w_callM {F : Spec} {n m : Nat} {gD : List D → List D → List D} {Tl Tk : DTA} {env : En} {R : D → Prop} {Rx : Er → Prop} : xCallM F n m gD Tl Tk env R Rx = Tl env (fun xs => Tk env (fun zs => xs.length = n ∧ zs.length = m ∧ F (gD xs zs) R Rx) Rx) Rx := rfl
theorem Dst.kbm {K : PySem.W.Frag} {x qual : Str} {st : Stmt} {kws : List (Str × V)} (Dx : Dst K x qual st kws) {ps ks : List Str} (n : Nat) (ms : List (Str × V)) (dds : List D) (idx : List Nat) (hk : kws ≠ []) (hms : ∀ q ∈ ms, q ∈ kws) (hd : DfR dds (ms.map (·.2)))
    (h : ∀ (D : Addr) (doc pm : Value) (an : Option Addr) (cdv ct : Value) (us mv ws : List Value), us.length = n → mv.length = ms.length → ws.length = ks.length →
      KwChain D ((ms.map (·.1)).zip mv) (bindArgs (PySem.W.fnOf x qual (defArgs st) (defBody st) (defScope st) .none (.ref D) doc pm an cdv ct) ⟨us, ks.zip ws⟩) (ps.zip (idx.filterMap fun i => ((us ++ mv) ++ ws)[i]?))) :
    KBm K Dx.fd ps n ks (fun xs zs => idx.filterMap fun i => ((xs ++ dds) ++ zs)[i]?) := by
  obtain ⟨mv, hb⟩ := Dx.F.kbinds0 (ps := ps) n ks ms (fun us mv ws => idx.filterMap fun i => ((us ++ mv) ++ ws)[i]?) hk hms (fun r1 r2 r3 => vals_pick ((r1.append r2).append r3) idx) h
  exact ⟨_, _, hb, fun B S xs zs vs ws _ _ r1 r2 => rep_pick ((r1.app (hd _ _)).app r2) idx⟩
end DL
namespace DL
open PySem PySem.Spec L2
variable [TbC]
section
variable {P : Program} {w : World} {K : PySem.W.Frag} {mg : Str → Option Value} {base : Heap} {k : Nat} {name qual : Str} {params : Arguments} {rest : List Stmt} {scope : Scope} {C Dd f cc cda g2 : Addr} {fd : FuncData} {N ps : List Str} {e : Expr} {es : List Expr} {p0 p1 p2 p3 p4 : Pos} {x0 : Str} {ar : Arg} {Fs Fb : Spec}
/-- what the base's __init__ leaves, handed to the rest of the body -/
def toRest (C : Addr) (U : List Str → List D → Prop) : D → Prop
  | .obj C' ks xs => C' = C ∧ U ks xs
  | _ => False
end
end DL
namespace DL
open PySem PySem.Spec L2
variable [TbC]
/-- {x}: a text or an int, as a text -/
def fFmt (R : Str → Prop) : D → Prop
  | .str y => y.length ≤ sizeLine ∧ R y
  | .int i => i.natAbs.log2 < 1920 ∧ R (toString i)
  | _ => False
theorem w_fFmtS {R : Str → Prop} {y : Str} : fFmt R (.str y) = (y.length ≤ sizeLine ∧ R y) := rfl
theorem w_fFmtI {R : Str → Prop} {i : Int} : fFmt R (.int i) = (i.natAbs.log2 < 1920 ∧ R (toString i)) := rfl
/-- the parts of an f-string: what is joined so far, what follows -/
abbrev DTJ := Str → En → (Str → Prop) → (Er → Prop) → Prop
def jfNil : DTJ := fun acc _ R _ => R acc
def jfCons (T : DT) (U : DTJ) : DTJ := fun acc env R Rx => T env (fun d => match d with
  | .str y => (acc ++ y).length ≤ sizeLine ∧ U (acc ++ y) env R Rx
  | _ => False) Rx
theorem w_jfNil {acc : Str} {env : En} {R : Str → Prop} {Rx : Er → Prop} : jfNil acc env R Rx = R acc := rfl
def asTx (R : Str → Prop) : D → Prop
  | .str y => R y
  | _ => False
theorem w_asTx {R : Str → Prop} {y : Str} : asTx R (.str y) = R y := rfl
theorem w_jfCons {T : DT} {U : DTJ} {acc : Str} {env : En} {R : Str → Prop} {Rx : Er → Prop} : jfCons T U acc env R Rx = T env (asTx fun y => (acc ++ y).length ≤ sizeLine ∧ U (acc ++ y) env R Rx) Rx := by
  unfold jfCons asTx
  rfl
section
variable {X : Cx} {E : XK} {e : Expr} {es : List Expr} {T : DT} {U : DTJ} {pos : Pos}
def xFmt (T : DT) : DT := fun env R Rx => T env (fFmt fun y => R (.str y)) Rx
theorem w_xFmt {T : DT} {env : En} {R : D → Prop} {Rx : Er → Prop} : xFmt T env R Rx = T env (fFmt fun y => R (.str y)) Rx := rfl
def xJoined (U : DTJ) : DT := fun env R Rx => U Str.empty env (fun out => R (.str out)) Rx
theorem w_xJoined {U : DTJ} {env : En} {R : D → Prop} {Rx : Er → Prop} : xJoined U env R Rx = U Str.empty env (fun out => R (.str out)) Rx := rfl
end
end DL
namespace DL
open PySem PySem.Spec L2
variable [TbC]
section
variable {X : Cx} {E : XK} {e : Expr} {st : Stmt} {sts : List Stmt} {T U : DT}
def xAlt (T U : DT) : DT := fun env R Rx => T env R Rx ∨ U env R Rx
theorem d_alt (h : DE X E e T) (h2 : DE X E e U) : DE X E e (xAlt T U) := by
  obtain ⟨t, p, s⟩ := h
  obtain ⟨t2, p2, s2⟩ := h2
  refine ⟨fun σ H Q => t σ H Q ∨ t2 σ H Q, ⟨fun pins s0 σ H Q I q => ?_⟩, fun c σ H S env R Rx x k q Q hq => ?_⟩
  · rcases q with q | q
    · exact p.run pins s0 σ H Q I q
    · exact p2.run pins s0 σ H Q I q
  · rcases q with q | q
    · exact .inl (s c σ H S env R Rx x k q Q hq)
    · exact .inr (s2 c σ H S env R Rx x k q Q hq)
end
section
variable {X : Cx} {E : XK} {e : Expr} {f : Str} {pos : Pos} {C : Addr} {u : Value} {d0 : D} {To : DT}
def xCon (C : Addr) (f : Str) (d0 : D) (Te : DT) : DT := fun env R Rx => Te env (asO C fun ks xs => fld ks xs f = none ∧ R d0) Rx
end
end DL
namespace PySem
open Sem (wp)
end PySem
namespace DL
open PySem PySem.Spec L2
variable [TbC]
section
variable {X : Cx} {pins : List (Addr × Obj)} {σ : St} {H : Hp} {s : Shared} {k : Nat} {f g C : Addr} {fd : FuncData} {ps : List Str} {sp : Sp} {F : Spec}
def blR (R : D → Prop) : D → Prop
  | .bl n => R (.bl n)
  | _ => False
theorem w_blR {R : D → Prop} {n : Bool} : blR R (.bl n) = R (.bl n) := rfl
def fBoolOw (C : Addr) (F : Spec) : DFn
  | [x], R => asO C (fun _ _ => True) x ∧ F [x] (blR R) noX
  | _, _ => False
theorem w_fBoolOw {C : Addr} {F : Spec} {x : D} {R : D → Prop} : fBoolOw C F [x] R = (asO C (fun _ _ => True) x ∧ F [x] (blR R) noX) := rfl
def stR (R : D → Prop) : D → Prop
  | .str n => R (.str n)
  | _ => False
theorem w_stR {R : D → Prop} {n : Str} : stR R (.str n) = R (.str n) := rfl
def fReprOw (C : Addr) (F : Spec) : DFn
  | [x], R => asO C (fun _ _ => True) x ∧ F [x] (stR R) noX
  | _, _ => False
theorem w_fReprOw {C : Addr} {F : Spec} {x : D} {R : D → Prop} : fReprOw C F [x] R = (asO C (fun _ _ => True) x ∧ F [x] (stR R) noX) := rfl
def xTruOw (C : Addr) (F : Spec) (Ta : DT) : DTT := fun env R Rx => Ta env (fun x => asO C (fun _ _ => True) x ∧ F [x] (asB R) noX) Rx
def fBool : DFn
  | [.bl b], R => R (.bl b)
  | [.int i], R => R (.bl (i != 0))
  | _, _ => False
theorem w_fBoolB {b : Bool} {R : D → Prop} : fBool [.bl b] R = R (.bl b) := rfl
theorem w_fBoolI {i : Int} {R : D → Prop} : fBool [.int i] R = R (.bl (i != 0)) := rfl
end
end DL
namespace DL
open PySem PySem.Spec L2
variable [TbC]
/-- a def that says super(): its function -/
structure Dsup (K : PySem.W.Frag) (fl x qual : Str) (st : Stmt) (D : Addr) where
  f : Addr
  cc : Addr
  cda : Addr
  fd : FuncData
  F : EXS.SupFn K fl x qual (defArgs st) (defBody st) (defScope st) D f cc cda fd
theorem Dsup.binds {K : PySem.W.Frag} {fl x qual : Str} {st : Stmt} {C : Addr} {ps : List Str} (D : Dsup K fl x qual st C)
    (h : ∀ (kV doc pm cdv ct : Value) (an : Option Addr) (cc : Addr) (us : List Value), us.length = ps.length → bindArgs (PySem.W.ksFn x qual (defArgs st) (defBody st) (defScope st) .none kV doc pm an cdv ct cc) ⟨us, []⟩ = pure (ps.zip us)) : Binds K D.fd ps [] := by
  obtain ⟨_, _, _, dV, _, _, _, _, _, _, _, _, _, _, _, _, _, _, _, e, _, _, _, _, _, _, _, e2⟩ := D.F.ex
  rw [e, e2]
  exact Binds.all (h _ _ _ _ _ _ _)
theorem w_toRest {C C' : Addr} {U : List Str → List D → Prop} {ks : List Str} {xs : List D} : toRest C U (.obj C' ks xs) = (C' = C ∧ U ks xs) := rfl
theorem w_xCon {C : Addr} {f : Str} {d0 : D} {Te : DT} {env : En} {R : D → Prop} {Rx : Er → Prop} : xCon C f d0 Te env R Rx = Te env (asO C fun ks xs => fld ks xs f = none ∧ R d0) Rx := rfl
theorem w_xAlt {T U : DT} {env : En} {R : D → Prop} {Rx : Er → Prop} : xAlt T U env R Rx = (T env R Rx ∨ U env R Rx) := rfl
end DL
namespace DL
open PySem PySem.Spec L2
variable [TbC]
section
variable {X : Cx} {E : XK} {a : Expr} {p pos : Pos} {Tl Tk : DTA}
def fEnumK (R : List D → Prop) (ds : List D) : List D → Prop
  | [.int k] => match ds with
    | [.lst xs] => -(2 ^ 63) ≤ k ∧ k < 2 ^ 63 ∧ R (nums k xs)
    | _ => False
  | _ => False
def xEnumK (Tl Tk : DTA) : DTI := fun env R Rx => Tl env (fun ds => Tk env (fun es => fEnumK R ds es) Rx) Rx
theorem w_xEnumK {Tl Tk : DTA} {env : En} {R : List D → Prop} {Rx : Er → Prop} : xEnumK Tl Tk env R Rx = Tl env (fun ds => Tk env (fun es => fEnumK R ds es) Rx) Rx := rfl
theorem w_fEnumK {R : List D → Prop} {xs : List D} {k : Int} : fEnumK R [.lst xs] [.int k] = (-(2 ^ 63) ≤ k ∧ k < 2 ^ 63 ∧ R (nums k xs)) := rfl
end
end DL
namespace DL
open PySem PySem.Spec L2 PyProof.Rows
variable [TbC]
theorem truth_intsD {prog : Program} {w : World} {A : Around} {ns : List Int} {its : List Value} (h : Vals (ns.map V.int) its) :
    TruthOf prog w A (fun i v => its.toArray[i]? = some v) (fun i => (ns.map fun n => n != 0).getD i false) := fun i v s Q E hv hq => by
  have h1 : its[i]? = some v := by simpa using hv
  obtain ⟨y, hy, ry⟩ : ∃ y, (ns.map V.int)[i]? = some y ∧ RelV y v := by
    obtain ⟨hi, e⟩ := List.getElem?_eq_some_iff.mp h1
    have hl := h.length
    rw [List.length_map] at hl
    have h2 : (ns.map V.int)[i]? = some (.int (ns[i]'(by omega))) := by simp [List.getElem?_map, List.getElem?_eq_getElem (show i < ns.length by omega)]
    obtain ⟨u, hu, ru⟩ := h.get h2
    rw [h1] at hu
    cases hu
    exact ⟨_, h2, ru⟩
  rw [List.getElem?_map] at hy
  obtain ⟨n, hn, rfl⟩ := Option.map_eq_some_iff.mp hy
  obtain ⟨t, rfl⟩ := ry
  have e2 : (ns.map fun n => n != 0).getD i false = (n != 0) := by rw [List.getD, List.getElem?_map, hn]; rfl
  have hq2 : Q ((ns.map fun n => n != 0).getD i false) s := hq
  rw [e2] at hq2
  exact PySem.P.truthy_int hq2
section
variable {X : Cx}
def rAnyI (K : PySem.W.Frag) : List V → Hp → VK → Prop := fun vs H Q => ∃ (a : Addr) (ns : List Int), vs = [V.ref a] ∧ (SqL K H a (ns.map V.int) ∨ SqT K H a (ns.map V.int)) ∧ Q (.bl (ns.any fun n => n != 0)) H
theorem cr_anyI (hc : X.calm = true) : CallR X (.builtin "any") (rAnyI X.K) := by
  intro pins s σ H vs us Q I r h
  obtain ⟨a, ns, rfl, hs, q⟩ := h
  rw [Vals.ref1 r]
  have eq : ∀ m : Nat, m = ns.length → (List.range m).any (fun i => (ns.map fun n => n != 0).getD i false) = ns.any fun n => n != 0 := fun m hm => by
    have := L2.any_range (ns.map fun n => n != 0)
    rw [List.length_map] at this
    rw [hm, this, List.any_map]
    rfl
  rcases hs with hs | hs
  · obtain ⟨its, rv, hl, _⟩ := I.list hs
    have hn : its.toArray.size = ns.length := by rw [List.size_toArray, ← rv.length, List.length_map]
    refine call_any_walk (iter_any hl.isList fun s₂ e2 st hne => ?_)
    subst e2
    refine ⟨_, _, _, _, _, _, _, rfl, Walks.list (A := X.A.in1) (I.ok.hd hc) _ a hne its.toArray, st, truth_intsD rv, fun h' tk hk => ?_⟩
    refine ⟨.bl _, H, I.kept fun b o eo => hk b o (fun hmem => ?_) (Heap.get?_push_of_some _ eo), ?_, q⟩
    · rcases List.mem_cons.mp hmem with e1 | hmem
      · exact absurd (e1 ▸ Heap.lt_size eo) (Nat.lt_irrefl _)
      · cases hmem
    · show Value.bool _ = Value.bool _
      rw [eq _ hn]
  · obtain ⟨its, rv, ⟨oT, eT, cT, nT, dT⟩, _⟩ := I.tuple hs
    have hn : its.toArray.size = ns.length := by rw [List.size_toArray, ← rv.length, List.length_map]
    have ht : s.heap.IsTuple a its.toArray := ⟨oT, eT, cT, nT, dT⟩
    have hlt : a < s.heap.objs.size := Heap.lt_size eT
    refine call_any_walk (wpAny_pyIter_tuple ht ?_)
    refine ⟨_, _, _, _, _, _, _, rfl, Walks.tuple (A := X.A.in1) (I.ok.hd hc) _ a (Nat.ne_of_lt hlt) its.toArray, ⟨⟨_, Heap.get?_push_size _ rfl, rfl, rfl⟩, ht.at fun o e => Heap.get?_push_of_some _ e⟩, truth_intsD rv, fun h' tk hk => ?_⟩
    refine ⟨.bl _, H, I.kept fun b o eo => hk b o (fun hmem => ?_) (Heap.get?_push_of_some _ eo), ?_, q⟩
    · rcases List.mem_cons.mp hmem with e1 | hmem
      · exact absurd (e1 ▸ Heap.lt_size eo) (Nat.lt_irrefl _)
      · cases hmem
    · show Value.bool _ = Value.bool _
      rw [eq _ hn]
def fAnyI : DFn
  | [.lst xs], R => ∃ ns, asInts xs = some ns ∧ R (.bl (ns.any fun n => n != 0))
  | [.tup xs], R => ∃ ns, asInts xs = some ns ∧ R (.bl (ns.any fun n => n != 0))
  | _, _ => False
theorem w_fAnyI {xs : List D} {R : D → Prop} : fAnyI [.lst xs] R = ∃ ns, asInts xs = some ns ∧ R (.bl (ns.any fun n => n != 0)) := rfl
theorem w_fAnyIT {xs : List D} {R : D → Prop} : fAnyI [.tup xs] R = ∃ ns, asInts xs = some ns ∧ R (.bl (ns.any fun n => n != 0)) := rfl
theorem b_anyI (hc : X.calm = true) : CallOk X (.builtin "any") fAnyI := by
  refine ⟨_, cr_anyI hc, fun c σ H S env xs vs R k r t Q q => ?_⟩
  match xs, t with
  | [.lst xs], t =>
    obtain ⟨ns, e, t⟩ := t
    obtain ⟨v, rfl, r1⟩ := rep1 r
    obtain ⟨a, vs, rfl, h1, _, l1⟩ := lst_of k r1
    rw [asInts_eq e] at l1
    rw [l1.ints] at h1
    exact ⟨a, ns, rfl, .inl (SqL.of h1), q _ H S (.bl _) k (Same.refl S) rfl t⟩
  | [.tup xs], t =>
    obtain ⟨ns, e, t⟩ := t
    obtain ⟨v, rfl, r1⟩ := rep1 r
    obtain ⟨a, vs, rfl, h1, _, l1⟩ := tup_of k r1
    rw [asInts_eq e] at l1
    rw [l1.ints] at h1
    exact ⟨a, ns, rfl, .inr (SqT.of h1), q _ H S (.bl _) k (Same.refl S) rfl t⟩
end
end DL
namespace DL
open PySem PySem.Spec L2 PyProof.Rows
variable [TbC]
def fLenSetL (R : D → Prop) : D → Prop
  | .lst xs => ∃ ns, asInts xs = some ns ∧ ns.length ≤ 60 ∧ ∀ out : List Int, out.Nodup → (∀ k, k ∈ out ↔ k ∈ ns) → R (.int (out.length : Nat))
  | _ => False
def xLenSetL (Ta : DT) : DT := fun env R Rx => Ta env (fLenSetL R) Rx
theorem w_xLenSetL {Ta : DT} {env : En} {R : D → Prop} {Rx : Er → Prop} : xLenSetL Ta env R Rx = Ta env (fLenSetL R) Rx := rfl
theorem w_fLenSetL {xs : List D} {R : D → Prop} : fLenSetL R (.lst xs) = ∃ ns, asInts xs = some ns ∧ ns.length ≤ 60 ∧ ∀ out : List Int, out.Nodup → (∀ k, k ∈ out ↔ k ∈ ns) → R (.int (out.length : Nat)) := rfl
end DL
namespace DL
open PySem PySem.Spec L2
variable [TbC]
def xItAlt (T U : DTI) : DTI := fun env R Rx => T env R Rx ∨ U env R Rx
theorem w_xItAlt {T U : DTI} {env : En} {R : List D → Prop} {Rx : Er → Prop} : xItAlt T U env R Rx = (T env R Rx ∨ U env R Rx) := rfl
end DL
namespace DL
open PySem PySem.Spec L2
end DL
namespace DL
open PySem PySem.Spec L2
variable [TbC]
theorem fIsiO_same {C a : Addr} {ks : List Str} {xs : List D} {R : D → Prop} : fIsiO C [.obj C ks xs, .adr a] R = (a = C ∧ R (.bl true)) := by
  unfold fIsiO
  simp [isO]
end DL
namespace DL
open PySem PySem.Spec L2
variable [TbC]
def xMakeK (F : Spec) (m : Nat) (idx : List Nat) (Tk : DTA) : DT := fun env R Rx => Tk env (fun zs => zs.length = m ∧ F (gPerm 0 m idx [] zs) R Rx) Rx
theorem w_xMakeK {F : Spec} {m : Nat} {idx : List Nat} {Tk : DTA} {env : En} {R : D → Prop} {Rx : Er → Prop} : xMakeK F m idx Tk env R Rx = Tk env (fun zs => zs.length = m ∧ F (gPerm 0 m idx [] zs) R Rx) Rx := rfl
end DL
namespace DL
open PySem PySem.Spec L2
variable [TbC]
section
variable {X : Cx} {E : XK} {e : Expr} {T U : DTT}
def xAltT (T U : DTT) : DTT := fun env R Rx => T env R Rx ∨ U env R Rx
theorem w_xAltT {T U : DTT} {env : En} {R : Bool → Prop} {Rx : Er → Prop} : xAltT T U env R Rx = (T env R Rx ∨ U env R Rx) := rfl
theorem w_xTruOw {C : Addr} {F : Spec} {Ta : DT} {env : En} {R : Bool → Prop} {Rx : Er → Prop} : xTruOw C F Ta env R Rx = Ta env (fun x => asO C (fun _ _ => True) x ∧ F [x] (asB R) noX) Rx := rfl
end
end DL
namespace DL
open PySem PySem.Spec L2
variable [TbC]
theorem w_valE_nil : valE [] = [] := rfl
theorem w_valE_val {d : D} {l : En} : valE (some (.val d) :: l) = some (.val d) :: valE l := rfl
theorem w_valE_own {xs : List D} {l : En} : valE (some (.own xs) :: l) = none :: valE l := rfl
theorem w_valE_tre {t : T} {as : List Addr} {l : En} : valE (some (.tre t as) :: l) = none :: valE l := rfl
theorem w_valE_none {l : En} : valE (none :: l) = none :: valE l := rfl
/-- addresses known to nobody else -/
def New (c : Fm) (σ : St) (S : Hp) (env : En) (as : List Addr) : Prop := ∀ a ∈ as, S a = none ∧ c.H0 a = none ∧ Free σ env a
section
variable {c : Fm} {σ : St} {H H' S S' : Hp} {env : En} {as bs : List Addr} {t : T} {ts : List T} {v : V} {vs : List V} {i : Nat}
theorem New.nil : New c σ S env [] := fun a m => nomatch m
theorem Kn.frzT (k : Kn c σ H S env) (q : New c σ S env as) : Kn c σ H (frzS as H S) env ∧ Same S (frzS as H S) := by
  have s := frzS_same (H := H) fun a m => (q a m).1
  refine ⟨⟨k.kf.frzT fun a m => ⟨(q a m).1, (q a m).2.1⟩, k.len, fun j x e => ?_, k.apart⟩, s⟩
  obtain ⟨u, eu, r⟩ := k.sl j x e
  refine ⟨u, eu, r.keep rfl s fun a fa => ?_⟩
  obtain ⟨f1, f2, _⟩ := r.foot a fa
  exact ⟨by rw [frzS_out fun z => (q a z).2.2 j x u e eu fa]; exact f1, f2, fun _ e => e⟩
/-- what stood at H stands behind what the frame at H has done -/
theorem New.keep (k : Kn c σ H S env) (k' : Kf (c.at H S) H' S') (q : New c σ S env as) (mu : ∀ a ∈ as, Mu (H a)) : New c σ S' env as ∧ ∀ a ∈ as, ∀ o, H a = some o → H' a = some o :=
  ⟨fun a m => ⟨k'.new a (q a m).1 (mu a m), (q a m).2.1, (q a m).2.2⟩, fun a m o e => k'.old a o e (k.kf.x_ne0 (q a m).2.1)⟩
theorem New.app (q1 : New c σ S env as) (q2 : New c σ S env bs) : New c σ S env (as ++ bs) := fun a m => by
  rcases List.mem_append.mp m with m | m
  · exact q1 a m
  · exact q2 a m
end
def SmU (E : XK) (t : TE) (T : DT) : Prop := ∀ (c : Fm) (σ : St) (H S : Hp) (env : En) (R : D → Prop) (Rx : Er → Prop), XOk c E Rx → Kn c σ H S env → T env R Rx →
  ∀ Q : VK, (∀ v H' S' as d, Kn c σ H' S' env → Same S S' → RepT c.B S' H' d.tr v as → as.Nodup → New c σ S' env as → R d → Q v H') → t σ H Q
def DU (X : Cx) (E : XK) (e : Expr) (T : DT) : Prop := ∃ t, PE X e t ∧ SmU E t T
def SmUA (E : XK) (t : L2.TA) (T : DTA) : Prop := ∀ (c : Fm) (σ : St) (H S : Hp) (env : En) (R : List D → Prop) (Rx : Er → Prop), XOk c E Rx → Kn c σ H S env → T env R Rx →
  ∀ Q : List V → Hp → Prop, (∀ vs H' S' as ds, Kn c σ H' S' env → Same S S' → RepTL c.B S' H' (D.trs ds) vs as → as.Nodup → New c σ S' env as → R ds → Q vs H') → t σ H Q
def DUA (X : Cx) (E : XK) (es : List Expr) (T : DTA) : Prop := ∃ t, PA X es t ∧ SmUA E t T
/-- flat data are trees without lists -/
theorem flat_tr {B : Option Addr} {S S' H : Hp} {d : D} {v : V} (h : d.flat = true) (r : Rep B S d v) : RepT B S' H d.tr v [] := by
  have : d.tr = .dat d := by cases d <;> first | rfl | exact (Bool.false_ne_true h).elim
  rw [this, RepT]
  exact ⟨flat_rep h r, rfl⟩
theorem RepTL.app {B : Option Addr} {S H : Hp} {us : List T} {ws : List V} {bs : List Addr} : ∀ {ts : List T} {vs : List V} {as : List Addr}, RepTL B S H ts vs as → RepTL B S H us ws bs → RepTL B S H (ts ++ us) (vs ++ ws) (as ++ bs)
  | [], vs, as, r, q => by
    rw [RepTL] at r
    rw [r.1, r.2]
    exact q
  | t :: ts, vs, as, r, q => by
    rw [RepTL] at r
    obtain ⟨v, us2, b1, b2, rfl, r1, r2, rfl⟩ := r
    rw [List.cons_append, RepTL]
    exact ⟨v, us2 ++ ws, b1, b2 ++ bs, rfl, r1, RepTL.app r2 q, by rw [List.append_assoc]⟩
theorem RepTL.len {B : Option Addr} {S H : Hp} : ∀ {ts : List T} {vs : List V} {as : List Addr}, RepTL B S H ts vs as → vs.length = ts.length
  | [], vs, as, r => by
    rw [RepTL] at r
    rw [r.1]
    rfl
  | t :: ts, vs, as, r => by
    rw [RepTL] at r
    obtain ⟨v, us2, b1, b2, rfl, r1, r2, rfl⟩ := r
    rw [List.length_cons, List.length_cons, RepTL.len r2]
section
variable {X : Cx} {E : XK} {e a b : Expr} {es : List Expr} {T Ta Tb : DT} {TF : DTF} {Tl : DTA} {p pos : Pos}
theorem sm_ofU {t : TE} (s : SmU E t T) : Sm E t T := fun c σ H S env R Rx x k h Q q => s c σ H S env R Rx x k h Q fun v H1 S1 as d k1 s1 r n g t1 => by
  obtain ⟨k2, s2⟩ := k1.frzT g
  have := repT_frz r fun a m => (g a m).1
  rw [tr_d] at this
  exact q v H1 _ d k2 (s1.trans s2) this t1
theorem d_ofU (h : DU X E e T) : DE X E e T := by
  obtain ⟨t, p, s⟩ := h
  exact ⟨t, p, sm_ofU s⟩
theorem u_flat (h : DE X E e T) : DU X E e (xFl T) := by
  obtain ⟨t, p, s⟩ := h
  exact ⟨t, p, fun c σ H S env R Rx x k h Q q => s c σ H S env _ Rx x k h Q fun v H1 S1 d k1 s1 r t1 => q v H1 S1 [] d k1 s1 (flat_tr t1.1 r) List.nodup_nil New.nil t1.2⟩
theorem da_uNil : DUA X E [] xNil := ⟨_, pa_nil, fun c σ H S env R Rx x k t Q q => q [] H S [] [] k (Same.refl S) (by rw [D.trs, RepTL]; exact ⟨rfl, rfl⟩) List.nodup_nil New.nil t⟩
def xConsU (Ta : DT) (Tl : DTA) : DTA := fun env R Rx => Ta env (fun x => Tl (valE env) (fun xs => R (x :: xs)) Rx) Rx
theorem w_consU {env : En} {R : List D → Prop} {Rx : Er → Prop} : xConsU Ta Tl env R Rx = Ta env (fun x => Tl (valE env) (fun xs => R (x :: xs)) Rx) Rx := rfl
/-- [a, b, ..] -/
theorem u_lst (h : DUA X E es Tl) : DU X E (.List es pos) (xLst Tl) := by
  obtain ⟨t, p, s⟩ := h
  refine ⟨_, pe_lst p, fun c σ H S env R Rx x k t Q q => s c σ H S env _ Rx x k t _ fun vs H1 S1 as ds k1 s1 r1 n1 g1 t1 => ⟨by rw [r1.len, trs_length]; exact t1.1, fun p hp => ?_⟩⟩
  obtain ⟨k2, n2, n0, f⟩ := (⟨k1.new0 hp, k1.kf.s_none hp, k1.kf.h0_none hp, k1.free hp⟩ : Kn c σ (upd H1 p (.lst vs)) S1 env ∧ S1 p = none ∧ c.H0 p = none ∧ Free σ env p)
  have np : p ∉ as := fun m => (r1.mu p m).1 hp
  refine q _ _ S1 (p :: as) (.lst ds) k2 s1 ?_ (List.nodup_cons.mpr ⟨np, n1⟩) (fun a m => ?_) t1.2
  · rw [D.tr, RepT]
    exact ⟨p, vs, as, rfl, upd_same, repTL_mono (Same.refl _) _ _ _ (fun a m o e => by rw [upd_ne (fun z => np (by rw [← z]; exact m))]; exact e) r1, rfl⟩
  · rcases List.mem_cons.mp m with rfl | m
    · exact ⟨n2, n0, f⟩
    · exact g1 a m
end
def spU (F : Spec) : Sp := fun vs H Q E => ∃ (c : Fm) (S : Hp) (ds : List D) (R : D → Prop) (Rx : Er → Prop), c.H0 = H ∧ c.S0 = S ∧ Kf c H S ∧ RepL c.B S ds vs ∧ F ds R Rx ∧
  (∀ v H' S' d as, Kf c H' S' → RepT c.B S' H' d.tr v as → as.Nodup → (∀ a ∈ as, S' a = none ∧ H a = none) → R d → Q v H') ∧ XOk c E Rx
section
variable {P : Program} {w : World} {K : PySem.W.Frag} {mg : Str → Option Value} {base : Heap} {x qual : Str} {st : Stmt} {dvs : List V} {kws : List (Str × V)} {f : Addr} {fd : FuncData} {N ps : List Str} {k : Nat} {F : Spec} {CX : CXT}
theorem fn_u {T : DTS} (Fd : FnS K x qual st dvs kws f fd) (S : FnScope N ps (defScope st)) (len : ∀ ds R Rx, F ds R Rx → ds.length = ps.length)
    (hbody : ∀ (cdv : Value) (A : Around) (outer : List Env) (s : Shared) (H : Hp) (E : XK), Room k (A.deeper (PyProof.Rows.envOfC qual (defScope st) s.heap.objs.size f cdv)) →
      DSs (cxOf (L2.CX P w) P w K mg base N qual (defScope st) f cdv A outer s H E) E (defBody st) T)
    (hT : ∀ ds R Rx, F ds R Rx → T { nx := fun _ => R .non, rt := fun n d => (n = .tr ∨ d.flat = true) ∧ R d, ex := Rx } (startE N ds)) : FnOk P w K mg base (L2.CX P w) (k + 1) f fd ps (spU F) := by
  refine FunD.ok Fd S (fun vs H Q E ⟨c, S, ds, R, Rx, _, _, _, l, h, _⟩ => by rw [l.length]; exact len _ _ _ h) fun cdv A outer s H vs Q E hr hsp => ?_
  obtain ⟨c, Sh, ds, R, Rx, h0, hs0, kf, l, h, q, xo⟩ := hsp
  obtain ⟨t, p, sm⟩ := hbody cdv A outer s H E hr
  refine ⟨t, p, sm c _ H Sh _ _ xo (kn_start kf l) (hT ds R Rx h) _ ⟨fun σ H1 S1 env k1 s1 r1 => ?_, fun n v H1 S1 d k1 s1 r1 t1 => ?_, fun σ H1 S1 env k1 s1 r1 => r1, fun σ H1 S1 env k1 s1 r1 => r1⟩⟩
  · exact q .non H1 S1 .non [] k1.kf (flat_tr (S := S1) rfl rfl) List.nodup_nil (fun a m => nomatch m) r1
  · have fl : d.flat = true → Q v H1 := fun z => by
      obtain ⟨S2, _, _, r2⟩ := r1.old k1
      exact q v H1 S1 d [] k1 (flat_tr z r2) List.nodup_nil (fun a m => nomatch m) t1.2
    rcases t1.1 with z | z
    · subst z
      obtain ⟨as, r, n, g⟩ := r1
      exact q v H1 S1 d as k1 r n (fun a m => ⟨(g a m).1, by rw [← h0]; exact (g a m).2⟩) t1.2
    · exact fl z
end
section
variable {X : Cx} {E : XK} {CX : CXT} {k n : Nat} {f : Addr} {fd : FuncData} {ps ks : List Str} {F : Spec} {dvs : List V} {dds : List D} {ds : List Value} {x : Str} {p pos : Pos} {e : Expr} {es : List Expr} {Tl Tk : DTA} {kws : List Keyword}
theorem sp_callU {c : Fm} {σ : St} {H S : Hp} {env : En} {vs : List V} {xs : List D} {R : D → Prop} {Rx : Er → Prop} {Q : VK} (kn : Kn c σ H S env) (x : XOk c E Rx) (l : RepL c.B S xs vs) (t : F xs R Rx)
    (q : ∀ v H' S' as d, Kn c σ H' S' env → Same S S' → RepT c.B S' H' d.tr v as → as.Nodup → New c σ S' env as → R d → Q v H') : spU F vs H Q E :=
  ⟨c.at H S, S, xs, R, Rx, rfl, rfl, kn.kf.at, l, t, fun v H' S' d as k' r n g z => q v H' S' as d (kn.back k') k'.s0 r n (fun a m => ⟨(g a m).1, kn.kf.h0_none (g a m).2, kn.free (g a m).2⟩) z, x.at kn.kf⟩
theorem d_callU (G : FnOk X.prog X.w X.K X.mg X.base CX k f fd ps (spU F)) (hr : Room k X.A) (hm : X.mg x = some (.ref f)) (hk : PySem.W.keepIn X.K (.ref f) = true) (hb : Binds X.K fd ps ds) (hd : Vals dvs ds) (hdd : DfR dds dvs) (hx : Passes CX X E) (ha : DA X E (e :: es) Tl)
    (hg : Gl X x := by rfl) (hdb : (x == ("__debug__" : Str)) = false := by decide) (he : starEach (e :: es) X.env = (false, eval e X.env) :: starEach es X.env := by rfl) (hpl : (backTo pos (starEach es X.env)).any (·.1) = false := by rfl) :
    DU X E (.Call (.Name x p) (e :: es) [] pos) (xCall F dds Tl) := by
  obtain ⟨t, pa, s⟩ := ha
  refine ⟨_, pe_call G hr hg hm hk hb hd hx pa hdb he hpl, fun c σ H S env R Rx x k t Q q => s c σ H S env _ Rx x k t _ fun vs H1 S1 xs k1 s1 l1 t1 => ?_⟩
  exact sp_callU k1 x (l1.app (hdd _ _)) t1 fun v H' S' as d k' s' r' n' g' t' => q v H' S' as d k' (s1.trans s') r' n' g' t'
end
def putT (i : Nat) (t : T) (as : List Addr) (env : En) : En := env.set i (some (.tre t as))
theorem w_putT_0 {t : T} {as : List Addr} {o : Option DV} {l : En} : putT 0 t as (o :: l) = some (.tre t as) :: l := rfl
theorem w_putT_s {n : Nat} {t : T} {as : List Addr} {o : Option DV} {l : En} : putT (n + 1) t as (o :: l) = o :: putT n t as l := rfl
def zSetU (i : Nat) (T : DT) : DTS := fun Q env => T env (fun d => ∀ as, Q.nx (putT i d.tr as env)) Q.ex
theorem w_setU {i : Nat} {T : DT} {Q : DEnds} {env : En} : zSetU i T Q env = T env (fun d => ∀ as, Q.nx (putT i d.tr as env)) Q.ex := rfl
section
variable {X : Cx} {E : XK} {pos p1 : Pos} {e : Expr} {T : DT}
theorem smS_setU {t : TE} {i : Nat} (h : SmU E t T) : SmS E (tAsg t (gName i)) (zSetU i T) := fun c σ H S env Q x k t D m =>
  h c σ H S env _ _ x k t _ fun v H1 S1 as d k1 s1 r n g t1 => m.1 _ H1 S1 _ (k1.put (x := .tre d.tr as) ⟨r, n, fun a m => ⟨(g a m).1, (g a m).2.1⟩⟩ fun a m => (g a m).2.2.clear) s1 (t1 as)
theorem s_setU {i : Nat} {x : Str} (hN : X.N.Nodup) (h : DU X E e T) (hi : X.N[i]? = some x := by rfl) (hx : Loc X.env.scope x := by first | exact Or.inl rfl | exact Or.inr rfl) (hs : swapsWith e (some (.Name x p1)) pos.line X.env = pure false := by rfl)
    (hf : X.fn x = true ∨ X.env.scope.names.lookup x = some .local := by first | exact .inl rfl | exact .inr rfl) : DS X E (.Assign [.Name x p1] e pos) (zSetU i T) := by
  obtain ⟨t, p, s⟩ := h
  exact ⟨_, ps_set hN hi hx p hs hf, smS_setU s⟩
end
end DL
namespace DL
open PySem PySem.Spec L2
variable [TbC]
def T.at' : List Nat → T → Option T
  | [], t => some t
  | j :: r, t => match t with
    | .lst ts => (ts[j]?).bind (T.at' r)
    | .tup ts => (ts[j]?).bind (T.at' r)
    | _ => none
def T.setAt : List Nat → T → T → T
  | [], _, u => u
  | j :: r, t, u => match t with
    | .lst ts => match ts[j]? with
      | some t => .lst (ts.set j (T.setAt r t u))
      | none => .lst ts
    | .tup ts => match ts[j]? with
      | some t => .tup (ts.set j (T.setAt r t u))
      | none => .tup ts
    | t => t
theorem w_at_nil {t : T} : T.at' [] t = some t := rfl
theorem w_at_lst {j : Nat} {r : List Nat} {ts : List T} : T.at' (j :: r) (.lst ts) = (ts[j]?).bind (T.at' r) := rfl
theorem w_at_tup {j : Nat} {r : List Nat} {ts : List T} : T.at' (j :: r) (.tup ts) = (ts[j]?).bind (T.at' r) := rfl
theorem w_setAt_nil {t u : T} : T.setAt [] t u = u := rfl
theorem w_setAt_l0 {r : List Nat} {ts : List T} {t u : T} : T.setAt (0 :: r) (.lst (t :: ts)) u = .lst (T.setAt r t u :: ts) := rfl
/-- what stands at a place -/
def VAt (H : Hp) : List Nat → V → V → Prop
  | [], v, u => u = v
  | j :: r, v, u => ∃ a vs w, v = .ref a ∧ (H a = some (.lst vs) ∨ H a = some (.tup vs)) ∧ vs[j]? = some w ∧ VAt H r w u
theorem RepTL.at {B : Option Addr} {S H : Hp} : ∀ {ts : List T} {vs : List V} {bs : List Addr} {j : Nat} {tj : T}, RepTL B S H ts vs bs → ts[j]? = some tj →
    ∃ w A bj C, vs[j]? = some w ∧ RepT B S H tj w bj ∧ bs = A ++ (bj ++ C) ∧ ∀ (t' : T) (b' : List Addr) (H' : Hp), (∀ a, a ∈ A ∨ a ∈ C → ∀ o, H a = some o → H' a = some o) → RepT B S H' t' w b' → RepTL B S H' (ts.set j t') vs (A ++ (b' ++ C))
  | [], _, _, j, tj, _, e => by simp at e
  | t :: ts, vs, bs, 0, tj, r, e => by
    rw [RepTL] at r
    obtain ⟨v, ws, b1, b2, rfl, r1, r2, rfl⟩ := r
    simp at e
    subst e
    refine ⟨v, [], b1, b2, rfl, r1, rfl, fun t' b' H' q r' => ?_⟩
    rw [List.set_cons_zero, List.nil_append, RepTL]
    exact ⟨v, ws, b', b2, rfl, r', repTL_mono (Same.refl S) _ _ _ (fun a m => q a (.inr m)) r2, rfl⟩
  | t :: ts, vs, bs, j + 1, tj, r, e => by
    rw [RepTL] at r
    obtain ⟨v, ws, b1, b2, rfl, r1, r2, rfl⟩ := r
    obtain ⟨w, A, bj, C, e1, e2, rfl, e4⟩ := RepTL.at (j := j) r2 (by simpa using e)
    refine ⟨w, b1 ++ A, bj, C, by simpa using e1, e2, by rw [List.append_assoc], fun t' b' H' q r' => ?_⟩
    rw [List.set_cons_succ, List.append_assoc, RepTL]
    exact ⟨v, ws, b1, A ++ (b' ++ C), rfl, repT_mono (Same.refl S) _ _ _ (fun a m => q a (.inl (List.mem_append_left _ m))) r1, e4 t' b' H' (fun a m => q a (m.imp (List.mem_append_right _) id)) r', rfl⟩
/-- .. stays, where the frame at H has gone on -/
theorem VAt.keep {B : Option Addr} {S H H' S' : Hp} (sub : Same S H) (s : Same S S') (sub' : Same S' H') : ∀ (path : List Nat) {t : T} {v : V} {as : List Addr} {u : V}, RepT B S H t v as → T.at' path t ≠ none → (∀ a ∈ as, ∀ o, H a = some o → H' a = some o) → VAt H path v u → VAt H' path v u
  | [], t, v, as, u, r, _, _, q => q
  | j :: rr, t, v, as, u, r, ne, k, q => by
    obtain ⟨a, vs, w, rfl, ea, ew, q⟩ := q
    cases t with
    | dat d => exact (ne rfl).elim
    | obj C ks us => exact (ne rfl).elim
    | lst us =>
      rw [RepT] at r
      obtain ⟨a2, vs2, bs, e0, e1, l, rfl⟩ := r
      cases e0
      rcases ea with ea | ea <;> rw [e1] at ea <;> cases ea
      rw [w_at_lst] at ne
      cases ej : us[j]? with
      | none => rw [ej] at ne; exact (ne rfl).elim
      | some tj =>
        rw [ej] at ne
        obtain ⟨w', A, bj, C, ew', rj, rfl, _⟩ := l.at ej
        rw [ew] at ew'
        cases ew'
        exact ⟨a, vs, w, rfl, .inl (k a List.mem_cons_self _ e1), ew, VAt.keep sub s sub' rr rj ne (fun b m => k b (List.mem_cons_of_mem _ (List.mem_append_right _ (List.mem_append_left _ m)))) q⟩
    | tup us =>
      rw [RepT] at r
      obtain ⟨a2, vs2, e0, e1, l⟩ := r
      cases e0
      have e1h := sub _ _ e1
      rcases ea with ea | ea <;> rw [e1h] at ea <;> cases ea
      rw [w_at_tup] at ne
      cases ej : us[j]? with
      | none => rw [ej] at ne; exact (ne rfl).elim
      | some tj =>
        rw [ej] at ne
        obtain ⟨w', A, bj, C, ew', rj, rfl, _⟩ := l.at ej
        rw [ew] at ew'
        cases ew'
        exact ⟨a, vs, w, rfl, .inr (sub' _ _ (s _ _ e1)), ew, VAt.keep sub s sub' rr rj ne (fun b m => k b (List.mem_append_right _ (List.mem_append_left _ m))) q⟩
end DL
namespace DL
open PySem PySem.Spec L2
variable [TbC]
theorem w_tre_inj {t u : T} {as bs : List Addr} : (DV.tre t as = DV.tre u bs) = (t = u ∧ as = bs) := by rw [DV.tre.injEq]
def isTre (i : Nat) (env : En) (P : T → List Addr → Prop) : Prop := ∃ t as, env[i]? = some (some (.tre t as)) ∧ P t as
theorem isTre_at {i : Nat} {env : En} {t : T} {as : List Addr} {P : T → List Addr → Prop} (h : env[i]? = some (some (.tre t as))) : isTre i env P = P t as := by
  refine propext ⟨fun ⟨t', as', e, q⟩ => ?_, fun q => ⟨t, as, h, q⟩⟩
  rw [h] at e
  cases e
  exact q
theorem w_isTre_0 {t : T} {as : List Addr} {l : En} {P : T → List Addr → Prop} : isTre 0 (some (.tre t as) :: l) P = P t as := isTre_at rfl
theorem w_isTre_s {n : Nat} {o : Option DV} {l : En} {P : T → List Addr → Prop} : isTre (n + 1) (o :: l) P = isTre n l P := rfl
theorem VAt.inj {H : Hp} : ∀ {path : List Nat} {v u w : V}, VAt H path v u → VAt H path v w → u = w
  | [], _, _, _, q, q2 => by cases q; cases q2; rfl
  | j :: r, v, u, w, q, q2 => by
    obtain ⟨a, vs, x, rfl, ea, ex, q⟩ := q
    obtain ⟨a2, vs2, x2, e, ea2, ex2, q2⟩ := q2
    cases e
    have ev : vs2 = vs := by rcases ea with ea | ea <;> rcases ea2 with ea2 | ea2 <;> rw [ea] at ea2 <;> cases ea2 <;> rfl
    subst ev
    rw [ex] at ex2
    cases ex2
    exact VAt.inj q q2
abbrev DTP := En → (List Nat → Prop) → (Er → Prop) → Prop
def xPlN (i : Nat) : DTP := fun env R _ => isTre i env fun _ _ => R []
theorem w_plN {i : Nat} {env : En} {R : List Nat → Prop} {Rx : Er → Prop} : xPlN i env R Rx = isTre i env fun _ _ => R [] := rfl
/-- one step further -/
def ixAt (path : List Nat) (tt : T) (k : Int) (R : List Nat → Prop) : Prop := ∃ ts j, (T.at' path tt = some (.lst ts) ∨ T.at' path tt = some (.tup ts)) ∧ ixN ts.length k = some j ∧ R (path ++ [j])
theorem ixAt_lst {path : List Nat} {tt : T} {k : Int} {ts : List T} {R : List Nat → Prop} (h : T.at' path tt = some (.lst ts)) : ixAt path tt k R = ∃ j, ixN ts.length k = some j ∧ R (path ++ [j]) := by
  refine propext ⟨fun ⟨us, j, e, ej, q⟩ => ?_, fun ⟨j, ej, q⟩ => ⟨ts, j, .inl h, ej, q⟩⟩
  rcases e with e | e <;> rw [h] at e <;> cases e
  exact ⟨j, ej, q⟩
theorem w_ixAt_0 {k : Int} {ts : List T} {R : List Nat → Prop} : ixAt [] (.lst ts) k R = ∃ j, ixN ts.length k = some j ∧ R ([] ++ [j]) := ixAt_lst rfl
def xPlI (i : Nat) (Tp : DTP) (Tb : DT) : DTP := fun env R Rx => Tp env (fun path => Tb (thaw env) (asI fun k => isTre i env fun tt _ => ixAt path tt k R) Rx) Rx
theorem w_plI {i : Nat} {Tp : DTP} {Tb : DT} {env : En} {R : List Nat → Prop} {Rx : Er → Prop} : xPlI i Tp Tb env R Rx = Tp env (fun path => Tb (thaw env) (asI fun k => isTre i env fun tt _ => ixAt path tt k R) Rx) Rx := rfl
section
variable {X : Cx} {E : XK} {pos p1 : Pos} {a b e : Expr} {Ta Tb Tv Ti : DT} {Tp : DTP} {i : Nat}
def zAppL (i : Nat) (Tp : DTP) (Ta : DT) : DTS := fun Q env => Tp env (fun path => isTre i env fun tt _ => ∃ us, T.at' path tt = some (.lst us) ∧ Ta (valE env) (fun d => us.length < sizeLine ∧ ∀ as', Q.nx (putT i (T.setAt path tt (.lst (us ++ [d.tr]))) as' env)) Q.ex) Q.ex
theorem w_appL {Q : DEnds} {env : En} : zAppL i Tp Ta Q env = Tp env (fun path => isTre i env fun tt _ => ∃ us, T.at' path tt = some (.lst us) ∧ Ta (valE env) (fun d => us.length < sizeLine ∧ ∀ as', Q.nx (putT i (T.setAt path tt (.lst (us ++ [d.tr]))) as' env)) Q.ex) Q.ex := rfl
def zClrL (i : Nat) (Tp : DTP) : DTS := fun Q env => Tp env (fun path => isTre i env fun tt _ => ∃ us, T.at' path tt = some (.lst us) ∧ ∀ as', Q.nx (putT i (T.setAt path tt (.lst [])) as' env)) Q.ex
theorem w_clrL {Q : DEnds} {env : En} : zClrL i Tp Q env = Tp env (fun path => isTre i env fun tt _ => ∃ us, T.at' path tt = some (.lst us) ∧ ∀ as', Q.nx (putT i (T.setAt path tt (.lst [])) as' env)) Q.ex := rfl
def zStL (i : Nat) (Tv : DT) (Tp : DTP) (Ti : DT) : DTS := fun Q env => Tv env (fun d => Tp env (fun path => Ti (thaw env) (asI fun k => isTre i env fun tt _ => ∃ us j, T.at' path tt = some (.lst us) ∧ ixN us.length k = some j ∧ ∀ as', Q.nx (putT i (T.setAt path tt (.lst (us.set j d.tr))) as' env)) Q.ex) Q.ex) Q.ex
theorem w_stL {Q : DEnds} {env : En} : zStL i Tv Tp Ti Q env = Tv env (fun d => Tp env (fun path => Ti (thaw env) (asI fun k => isTre i env fun tt _ => ∃ us j, T.at' path tt = some (.lst us) ∧ ixN us.length k = some j ∧ ∀ as', Q.nx (putT i (T.setAt path tt (.lst (us.set j d.tr))) as' env)) Q.ex) Q.ex) Q.ex := rfl
end
end DL
namespace DL
open PySem PySem.Spec L2
variable [TbC]
theorem w_trs_ds {ds : List D} : T.ds (D.trs ds) = ds := trs_ds ds
theorem w_tr_d {d : D} : d.tr.d = d := tr_d d
theorem w_trs_length {ds : List D} : (D.trs ds).length = ds.length := trs_length ds
theorem w_tr_int {i : Int} : (D.int i).tr = .dat (.int i) := rfl
mutual
theorem RepT.nt {B : Option Addr} {S H : Hp} : ∀ {t : T} {v : V} {as : List Addr}, RepT B S H t v as → ∀ a ∈ as, ∀ vs, H a ≠ some (.tup vs)
  | .dat d, v, as, r, a, m => by
    rw [RepT] at r
    rw [r.2] at m
    cases m
  | .lst ts, v, as, r, a, m => by
    rw [RepT] at r
    obtain ⟨a0, vs, bs, e, e2, l, rfl⟩ := r
    rcases List.mem_cons.mp m with rfl | m
    · rw [e2]
      exact fun vs z => nomatch z
    · exact RepTL.nt l a m
  | .tup ts, v, as, r, a, m => by
    rw [RepT] at r
    obtain ⟨a0, vs, e, e2, l⟩ := r
    exact RepTL.nt l a m
  | .obj C ks ts, v, as, r, a, m => by
    rw [RepT] at r
    obtain ⟨a0, dx, vs, bs, e, e2, e3, n, l, rfl⟩ := r
    rcases List.mem_cons.mp m with rfl | m
    · rw [e2]
      exact fun vs z => nomatch z
    rcases List.mem_cons.mp m with rfl | m
    · rw [e3]
      exact fun vs z => nomatch z
    · exact RepTL.nt l a m
theorem RepTL.nt {B : Option Addr} {S H : Hp} : ∀ {ts : List T} {vs : List V} {as : List Addr}, RepTL B S H ts vs as → ∀ a ∈ as, ∀ vs, H a ≠ some (.tup vs)
  | [], _, _, r, a, m => by
    rw [RepTL] at r
    rw [r.2] at m
    cases m
  | t :: ts, vs, as, r, a, m => by
    rw [RepTL] at r
    obtain ⟨v, ws, bs, cs, e, r1, r2, rfl⟩ := r
    rcases List.mem_append.mp m with m | m
    · exact RepT.nt r1 a m
    · exact RepTL.nt r2 a m
end
section
variable {X : Cx} {E : XK} {e a b : Expr} {T Ta : DT} {TF : DTF} {p pos : Pos}
def xLendU (T : DT) : DT := fun env R Rx => T (thaw env) (fun d => d.dat = true ∧ R d) Rx
theorem w_lendU {env : En} {R : D → Prop} {Rx : Er → Prop} : xLendU T env R Rx = T (thaw env) (fun d => d.dat = true ∧ R d) Rx := rfl
def xLendF (TF : DTF) : DTF := fun env R Rx => TF (thaw env) (fun ds => flatL ds = true ∧ R ds) Rx
theorem w_lendF {env : En} {R : List D → Prop} {Rx : Er → Prop} : xLendF TF env R Rx = TF (thaw env) (fun ds => flatL ds = true ∧ R ds) Rx := rfl
end
section
variable {X : Cx} {E : XK} {pos p1 : Pos} {e b a : Expr} {st : Stmt} {sts : List Stmt} {T : DTS} {Tu Ta : DT} {TF : DTF}
def zFrzU (i : Nat) (T : DTS) : DTS := fun Q env => isTre i env fun tt _ => T Q (put i tt.d env)
theorem w_frzU {i : Nat} {Q : DEnds} {env : En} : zFrzU i T Q env = isTre i env fun tt _ => T Q (put i tt.d env) := rfl
def zRetU (i : Nat) : DTS := fun Q env => isTre i env fun tt _ => ∃ d : D, tt = d.tr ∧ Q.rt .tr d
theorem w_retU {i : Nat} {Q : DEnds} {env : En} : zRetU i Q env = isTre i env fun tt _ => ∃ d : D, tt = d.tr ∧ Q.rt .tr d := rfl
theorem s_retU (i : Nat) {x : Str} {p2 : Pos} (hN : X.N[i]? = some x := by rfl) (hv : Vis X.env.scope x := by first | exact Or.inl rfl | exact Or.inr (Or.inl rfl) | exact Or.inr (Or.inr rfl)) (hd : (x == ("__debug__" : Str)) = false := by decide)
    (hcd : (x == ("__classdict__" : Str)) = false := by decide) : DS X E (.Return (some (.Name x p2)) pos) (zRetU i) := by
  refine ⟨_, ps_ret (pv i hN hv hd hcd), fun c σ H S env Q x k t D m => ?_⟩
  obtain ⟨tt, as, e, d, rfl, t⟩ := t
  obtain ⟨v, e1, r, n, g⟩ := k.sl i _ e
  exact ⟨v, e1, m.2.1 .tr v H S d k.kf (Same.refl S) ⟨as, r, n, g⟩ t⟩
def zRetUe (Tu : DT) : DTS := fun Q env => Tu env (Q.rt .tr) Q.ex
theorem w_retUe {Q : DEnds} {env : En} : zRetUe Tu Q env = Tu env (Q.rt .tr) Q.ex := rfl
theorem s_retUe (h : DU X E e Tu) : DS X E (.Return (some e) pos) (zRetUe Tu) := by
  obtain ⟨t, p, s⟩ := h
  exact ⟨_, ps_ret p, fun c σ H S env Q x k t D m => s c σ H S env _ _ x k t _ fun v H1 S1 as d k1 s1 r1 n1 g1 t1 => m.2.1 .tr v H1 S1 d k1.kf s1 ⟨as, r1, n1, fun a m => ⟨(g1 a m).1, (g1 a m).2.1⟩⟩ t1⟩
def zAppF (TF : DTF) (Ta : DT) : DTS := fun Q env => TF env (fun ds => Ta (valE env) (fun d => ds.length < sizeLine ∧ Q.nx env) Q.ex) Q.ex
theorem w_appF {Q : DEnds} {env : En} : zAppF TF Ta Q env = TF env (fun ds => Ta (valE env) (fun d => ds.length < sizeLine ∧ Q.nx env) Q.ex) Q.ex := rfl
def zClrF (TF : DTF) : DTS := fun Q env => TF env (fun _ => Q.nx env) Q.ex
theorem w_clrF {Q : DEnds} {env : En} : zClrF TF Q env = TF env (fun _ => Q.nx env) Q.ex := rfl
/-- xs.clear(), xs of the frame's own -/
def zClrO (i : Nat) : DTS := fun Q env => ∃ xs, env[i]? = some (some (.own xs)) ∧ Q.nx (putO' i [] env)
theorem w_clrO_0 {xs : List D} {l : En} {Q : DEnds} : zClrO 0 Q (some (.own xs) :: l) = Q.nx (some (.own []) :: l) := by
  refine propext ⟨fun ⟨_, _, q⟩ => q, fun q => ⟨xs, rfl, q⟩⟩
theorem w_clrO {i : Nat} {Q : DEnds} {env : En} : zClrO i Q env = ∃ xs, env[i]? = some (some (.own xs)) ∧ Q.nx (putO' i [] env) := rfl
end
end DL
namespace DL
open PySem PySem.Spec L2
variable [TbC]
theorem w_setN {p : Addr} {f : Str} {Te : DT} {U : ITS} {R : Bool → List Str → List D → Prop} {Rx : Er → Prop} {nf : Bool} {ks : List Str} {xs : List D} {env : En} : jSetN p f Te U R Rx nf ks xs env = Te env (fun d => env[0]? = some (some (.val (.adr p))) ∧ f ∉ ks ∧ ks.length < 1000 ∧ U R noX nf (ks ++ [f]) (xs ++ [d]) env) Rx := rfl
mutual
/-- without tuples and objects -/
def D.nt : D → Bool
  | .lst xs => ntL xs
  | .non | .bl _ | .int _ | .str _ | .ty _ => true
  | .tup _ | .adr _ | .bag | .fn _ _ _ | .exc _ _ _ _ _ | .dct _ _ | .dcT _ _ | .obj _ _ _ => false
def ntL : List D → Bool
  | [] => true
  | x :: xs => x.nt && ntL xs
end
theorem w_nt_lst {xs : List D} : (D.lst xs).nt = ntL xs := rfl
theorem w_nt_int {i : Int} : (D.int i).nt = true := rfl
theorem w_nt_non : D.non.nt = true := rfl
theorem w_nt_bl {b : Bool} : (D.bl b).nt = true := rfl
theorem w_nt_str {s : Str} : (D.str s).nt = true := rfl
theorem w_ntL_nil : ntL [] = true := rfl
theorem w_ntL_cons {x : D} {xs : List D} : ntL (x :: xs) = (x.nt && ntL xs) := rfl
theorem w_ntL_ints {ns : List Int} : ntL (ns.map D.int) = true := by
  induction ns with
  | nil => rfl
  | cons n ns ih => rw [List.map_cons, w_ntL_cons, ih]; rfl
section
variable {X : Cx} {E : XK} {e : Expr} {T : DT}
def xNT (T : DT) : DT := fun env R Rx => T env (fun d => d.nt = true ∧ R d) Rx
theorem w_xNT {env : En} {R : D → Prop} {Rx : Er → Prop} : xNT T env R Rx = T env (fun d => d.nt = true ∧ R d) Rx := rfl
end
mutual
theorem rep_dat2 {B : Option Addr} {S H N : Hp} (sub : ∀ a vs, S a = some (.tup vs) → N a = some (.tup vs)) : ∀ (d : D) (v : V) (as : List Addr), d.dat = true → (∀ a ∈ as, N a = H a) → RepT B S H d.tr v as → Rep B N d v
  | .lst xs, v, as, q, h, r => by
    rw [D.tr, RepT] at r
    obtain ⟨a, vs, bs, e, e2, l, rfl⟩ := r
    rw [Rep]
    exact ⟨a, vs, e, (h a List.mem_cons_self).trans e2, repL_dat2 sub xs vs bs q (fun b m => h b (List.mem_cons_of_mem _ m)) l⟩
  | .tup xs, v, as, q, h, r => by
    rw [D.tr, RepT] at r
    obtain ⟨a, vs, e, e2, l⟩ := r
    rw [Rep]
    exact ⟨a, vs, e, sub _ _ e2, repL_dat2 sub xs vs as q h l⟩
  | .non, v, as, _, _, r | .bl _, v, as, _, _, r | .int _, v, as, _, _, r | .str _, v, as, _, _, r => by
    rw [D.tr, RepT] at r
    exact flat_rep rfl r.1
  | .ty _, _, _, q, _, _ | .adr _, _, _, q, _, _ | .bag, _, _, q, _, _ | .fn _ _ _, _, _, q, _, _ | .obj _ _ _, _, _, q, _, _ | .exc _ _ _ _ _, _, _, q, _, _ | .dct _ _, _, _, q, _, _ | .dcT _ _, _, _, q, _, _ => nomatch (show false = true from q)
theorem repL_dat2 {B : Option Addr} {S H N : Hp} (sub : ∀ a vs, S a = some (.tup vs) → N a = some (.tup vs)) : ∀ (ds : List D) (vs : List V) (as : List Addr), datL ds = true → (∀ a ∈ as, N a = H a) → RepTL B S H (D.trs ds) vs as → RepL B N ds vs
  | [], vs, as, _, _, r => by
    rw [D.trs, RepTL] at r
    rw [r.1]
    exact repL_nil
  | d :: ds, vs, as, q, h, r => by
    rw [D.trs, RepTL] at r
    obtain ⟨v, ws, bs, cs, rfl, r1, r2, rfl⟩ := r
    have q : (d.dat && datL ds) = true := q
    rw [Bool.and_eq_true] at q
    exact repL_cons (rep_dat2 sub d v bs q.1 (fun a m => h a (List.mem_append_left _ m)) r1) (repL_dat2 sub ds ws cs q.2 (fun a m => h a (List.mem_append_right _ m)) r2)
end
section
variable {X : Cx} {E : XK} {p dx C : Addr} {rest : List Stmt} {U : ITS} {T : DT} {pos p1 p2 : Pos}
/-- a tree as a value of new lists -/
def xDatU (T : DT) : DT := fun env R Rx => T env (fun d => d.dat = true ∧ R d) Rx
theorem w_xDatU {env : En} {R : D → Prop} {Rx : Er → Prop} : xDatU T env R Rx = T env (fun d => d.dat = true ∧ R d) Rx := rfl
theorem w_ofU {e : Expr} {T : DT} (h : DU X E e T) : DWn X E e (xDatU T) := by
  obtain ⟨t, p, s⟩ := h
  refine ⟨t, p, fun c σ H S env R Rx x k h Q q => s c σ H S env _ Rx x k h Q fun v H1 S1 as d k1 s1 r n g t1 => ?_⟩
  obtain ⟨k2, s2⟩ := k1.frzT g
  have r1 := repT_frz r fun a m => (g a m).1
  rw [tr_d] at r1
  refine q v H1 _ d k2 (s1.trans s2) r1 ?_ t1.2
  have sub : ∀ a vs, S1 a = some (.tup vs) → newT c.H0 (frzS as H1 S1) a = some (.tup vs) := fun a vs e => newT_tup (s2 _ _ e)
  refine rep_dat2 sub d v as t1.1 (fun a m => ?_) r
  cases e : H1 a with
  | none => exact absurd e (r.mu a m).1
  | some o => exact uni_l a o (by rw [newH_of (g a m).2.1, frzS_in m]; exact e)
end
section
variable {X : Cx} {E : XK} {a b c : Expr} {Ta Tb : DT} {TFa TFb : DTF} {TT : DTT} {pos : Pos}
theorem u_if (h : DTe X E c TT) (ha : DU X E a Ta) (hb : DU X E b Tb) : DU X E (.IfExp c a b pos) (xIf TT Ta Tb) := by
  obtain ⟨t, p, s⟩ := h
  obtain ⟨ta, p1, s1⟩ := ha
  obtain ⟨tb, p2, s2⟩ := hb
  refine ⟨_, pe_ifExp p p1 p2, fun c σ H S env R Rx x k t Q q => s c σ H S env _ Rx x k t _ fun bb H1 S1 k1 s3 t1 => ?_⟩
  cases bb with
  | true => exact iteT (s1 c σ H1 S1 env R Rx x k1 (t1.1 rfl) Q fun v H2 S2 as d k2 s4 r n g => q v H2 S2 as d k2 (s3.trans s4) r n g)
  | false => exact iteF (s2 c σ H1 S1 env R Rx x k1 (t1.2 rfl) Q fun v H2 S2 as d k2 s4 r n g => q v H2 S2 as d k2 (s3.trans s4) r n g)
/-- a, b = new lists, both of the frame's own -/
def zParOO (i j : Nat) (Ta : DTF) (Tb : DTF) : DTS := fun Q env => Ta env (fun ds => Tb (valE env) (fun es => Q.nx (putO' j es (putO' i ds env))) Q.ex) Q.ex
theorem w_parOO {i j : Nat} {Q : DEnds} {env : En} : zParOO i j TFa TFb Q env = TFa env (fun ds => TFb (valE env) (fun es => Q.nx (putO' j es (putO' i ds env))) Q.ex) Q.ex := rfl
end
end DL
namespace DL
open PySem PySem.Spec L2
variable [TbC]
section
variable {X : Cx}
def opIsNotB : DOp := fun x y R => ∃ b c, x = .bl b ∧ y = .bl c ∧ R (.bl (!decide (b = c)))
theorem w_isNotB {b c : Bool} {R : D → Prop} : opIsNotB (.bl b) (.bl c) R = R (.bl (!decide (b = c))) := by
  refine propext ⟨fun ⟨b2, c2, e1, e2, q⟩ => ?_, fun q => ⟨b, c, rfl, rfl, q⟩⟩
  cases e1
  cases e2
  exact q
end
end DL
namespace ZN
open PySem Sem
/-- an iterator over a list -/
structure Zp where
  it : Addr
  l : Addr
  xs : Array Value
def Its (h : Heap) (ps : List Zp) (i : Nat) : Prop := ∀ p ∈ ps, h.IsListIter p.it p.l i
def Lss (h : Heap) (ps : List Zp) : Prop := ∀ p ∈ ps, h.IsList p.l p.xs
def refs (ps : List Zp) : List Value := ps.map fun p => .ref p.it
structure Ap (z TI TO : Addr) (ps : List Zp) : Prop where
  zTI : z ≠ TI
  zTO : z ≠ TO
  TITO : TI ≠ TO
  it : ∀ p ∈ ps, p.it ≠ z ∧ p.it ≠ TI ∧ p.it ≠ TO
  nd : (ps.map (·.it)).Nodup
  ls : ∀ p ∈ ps, p.l ≠ z ∧ p.l ≠ TO ∧ ∀ q ∈ ps, p.l ≠ q.it
/-- what stays: all but the zip, its tuple, the iterators -/
def Keep (z TO : Addr) (ps : List Zp) (h h' : Heap) : Prop := ∀ c o, c ≠ z → c ≠ TO → (∀ p ∈ ps, c ≠ p.it) → h.get? c = some o → h'.get? c = some o
section
variable {prog : Program} {w : World} {A : Around} {E : Value → Shared → Prop} {s : Shared} {z TI TO : Addr} {ps : List Zp}
theorem Lss.keep {h h' : Heap} (D : Ap z TI TO ps) (k : Keep z TO ps h h') (L : Lss h ps) : Lss h' ps := fun p m => by
  obtain ⟨d1, d2, d3⟩ := D.ls p m
  exact (L p m).at fun o e => k _ o d1 d2 d3 e
theorem nd_app {xs ys : List Zp} {p : Zp} (h : ((xs ++ p :: ys).map (·.it)).Nodup) : (∀ q ∈ xs, q.it ≠ p.it) ∧ ∀ q ∈ ys, q.it ≠ p.it := by
  rw [List.map_append, List.map_cons, List.nodup_append] at h
  obtain ⟨_, h2, h3⟩ := h
  rw [List.nodup_cons] at h2
  refine ⟨fun q m e => ?_, fun q m e => h2.1 (by rw [← e]; exact List.mem_map_of_mem m)⟩
  exact (h3 q.it (List.mem_map_of_mem m) p.it List.mem_cons_self) e
/-- the state in the middle of a draw -/
def Mid (h0 : Heap) (z TI TO : Addr) (ps : List Zp) (i : Nat) (vs : List Value) (f : Heap → Nat → Prop) (r : List Value) (acc : List Value) (h2 : Heap) : Prop :=
  ∃ don rst : List Zp, ps = don ++ rst ∧ r = refs rst ∧ acc = vs.take don.length ∧ Its h2 don (i + 1) ∧ Its h2 rst i ∧ h2.objs.size = h0.objs.size ∧ Keep z TO ps h0 h2 ∧ f h2 don.length
theorem refs_cons {r : List Zp} {x : Value} {rest : List Value} (e : x :: rest = refs r) : ∃ p r', r = p :: r' ∧ x = .ref p.it ∧ rest = refs r' := by
  cases r with
  | nil => cases e
  | cons p r =>
    have e : x :: rest = .ref p.it :: refs r := e
    injection e with e1 e2
    exact ⟨p, r, rfl, e1, e2⟩
theorem Mid.step {h0 h2 : Heap} {i : Nat} {vs : List Value} {f : Heap → Nat → Prop} {x : Value} {rest acc : List Value} (D : Ap z TI TO ps) (L : Lss h0 ps) (hv : ps.map (fun p => p.xs[i]?) = vs.map some)
    (M : Mid h0 z TI TO ps i vs f (x :: rest) acc h2) : ∃ p v, p ∈ ps ∧ x = .ref p.it ∧ h2.IsListIter p.it p.l i ∧ h2.IsList p.l p.xs ∧ p.xs[i]? = some v ∧ vs[acc.length]? = some v ∧ acc.length < ps.length ∧ acc = vs.take acc.length ∧ f h2 acc.length ∧
      ∀ h3, h3.IsListIter p.it p.l (i + 1) → h3.objs.size = h2.objs.size → (∀ c o, c ≠ p.it → c ≠ TO → h2.get? c = some o → h3.get? c = some o) → f h3 (acc.length + 1) → Mid h0 z TI TO ps i vs f rest (acc ++ [v]) h3 := by
  obtain ⟨don, rst, e1, e2, e3, i1, i2, sz, kp, hf⟩ := M
  obtain ⟨p, r', rfl, rfl, e4⟩ := refs_cons e2
  have hp : p ∈ ps := by rw [e1]; exact List.mem_append_right _ List.mem_cons_self
  have vl : vs.length = ps.length := by
    have := congrArg List.length hv
    rw [List.length_map, List.length_map] at this
    exact this.symm
  have dl : don.length < ps.length := by rw [e1, List.length_append, List.length_cons]; omega
  have al : acc.length = don.length := by rw [e3, List.length_take]; omega
  have hx : p.xs[i]? = some (vs[don.length]'(by omega)) := by
    have := congrArg (fun l => l[don.length]?) hv
    simp only [List.getElem?_map] at this
    rw [e1, List.getElem?_append_right (Nat.le_refl _), Nat.sub_self, List.getElem?_cons_zero, List.getElem?_eq_getElem (by omega)] at this
    simpa using this
  refine ⟨p, vs[don.length]'(by omega), hp, rfl, i2 p List.mem_cons_self, (L.keep D kp) p hp, hx, by rw [al]; exact List.getElem?_eq_getElem _, by omega, by rw [al]; exact e3, by rw [al]; exact hf, fun h3 g1 g2 g3 g4 => ?_⟩
  have nd := D.nd
  rw [e1] at nd
  obtain ⟨n1, n2⟩ := nd_app nd
  have ito : ∀ q ∈ ps, q.it ≠ TO := fun q m => (D.it q m).2.2
  refine ⟨don ++ [p], r', by rw [e1]; simp, e4, ?_, fun q m => ?_, fun q m => ?_, by rw [g2, sz], fun c o c1 c2 c3 e => ?_, ?_⟩
  · have z : vs.take (don ++ [p]).length = vs.take don.length ++ [vs[don.length]'(by omega)] := by
      rw [List.length_append, List.length_cons, List.length_nil, List.take_add_one, List.getElem?_eq_getElem (by omega)]
      rfl
    rw [z, ← e3]
  · rcases List.mem_append.mp m with m | m
    · exact (i1 q m).at fun o e => g3 _ o (n1 q m) (ito q (by rw [e1]; exact List.mem_append_left _ m)) e
    · rw [List.mem_singleton.mp m]
      exact g1
  · exact (i2 q (List.mem_cons_of_mem _ m)).at fun o e => g3 _ o (n2 q m) (ito q (by rw [e1]; exact List.mem_append_right _ (List.mem_cons_of_mem _ m))) e
  · exact g3 c o (c3 p hp) c2 (kp c o c1 c2 c3 e)
  · rw [List.length_append, List.length_cons, List.length_nil, ← al]
    exact g4
theorem Mid.start {h0 h2 : Heap} {i : Nat} {vs : List Value} {f : Heap → Nat → Prop} (hi : Its h2 ps i) (sz : h2.objs.size = h0.objs.size) (k : Keep z TO ps h0 h2) (hf : f h2 0) : Mid h0 z TI TO ps i vs f (refs ps) [] h2 :=
  ⟨[], ps, rfl, rfl, by simp, (fun p m => nomatch m), hi, sz, k, hf⟩
theorem Mid.fin {h0 h2 : Heap} {i : Nat} {vs acc : List Value} {f : Heap → Nat → Prop} (hl : vs.length = ps.length) (M : Mid h0 z TI TO ps i vs f [] acc h2) : acc = vs ∧ Its h2 ps (i + 1) ∧ h2.objs.size = h0.objs.size ∧ Keep z TO ps h0 h2 ∧ f h2 ps.length := by
  obtain ⟨don, rst, e1, e2, e3, i1, i2, sz, kp, hf⟩ := M
  have : rst = [] := by
    cases rst with
    | nil => rfl
    | cons p r => cases e2
  subst this
  rw [List.append_nil] at e1
  subst e1
  exact ⟨by rw [e3, List.take_of_length_le (by omega)], i1, sz, kp, hf⟩
end
theorem typeCall_zip_2 (a0 a1 : Value) : checkTypeCall "zip" ⟨[a0, a1], []⟩ = Pure.pure () := by kernel_rfl
theorem newCall_zip_2 (a0 a1 : Value) : checkBuiltinCall "zip.__new__" ⟨[.type "zip", a0, a1], []⟩ = Pure.pure () := by kernel_rfl
theorem args_object_init_3 (o a0 a1 : Value) : argsOk "object.__init__" ⟨[o, a0, a1], []⟩ := by
  unfold argsOk; rw [signature?_of (id := "object.__init__") (n := ['_', '_', 't', 'i', 'n', 'i', '_', '_']) (o := ['t', 'c', 'e', 'j', 'b', 'o']) (by kernel_rfl) F.owner_object]; kernel_rfl
abbrev zz2_1 (h : Heap) (l1 l2 : Addr) : Heap := h.push { cls := .type "list_iterator", data := .fields #[.ref l1, .int 0 0] }
abbrev zz2_2 (h : Heap) (l1 l2 : Addr) : Heap := (zz2_1 h l1 l2).push { cls := .type "list_iterator", data := .fields #[.ref l2, .int 0 0] }
abbrev zz2_t (h : Heap) (l1 l2 : Addr) : Heap := (zz2_2 h l1 l2).push { cls := .type "tuple", data := .seq #[.ref h.objs.size, .ref (zz2_1 h l1 l2).objs.size] }
abbrev zz2_u (h : Heap) (l1 l2 : Addr) : Heap := (zz2_t h l1 l2).push { cls := .type "tuple", data := .seq #[.none, .none] }
abbrev zz2_z (h : Heap) (l1 l2 : Addr) : Heap := (zz2_u h l1 l2).push { cls := .type "zip", data := .fields #[.none, .bool false, .bool false, .ref (zz2_2 h l1 l2).objs.size, .ref (zz2_t h l1 l2).objs.size] }
theorem meets_zip_new_2 (l1 l2 : Addr) (x1 x2 : Array Value) :
    Meets (Builtin.«zip.__new__» ⟨[.type "zip", .ref l1, .ref l2], []⟩) (fun _ R s => s.heap.IsList l1 x1 ∧ s.heap.IsList l2 x2 ∧
      R (.ok (.ret (.ref (zz2_u s.heap l1 l2).objs.size))) { s with heap := zz2_z s.heap l1 l2 }) :=
  .of_wp fun prog w A R s h => by
    obtain ⟨hp, g, d, tk, os⟩ := s; obtain ⟨e1, e2, h⟩ := h
    have hsub := sub_zip
    have q1 : Heap.IsList (Shared.heap ⟨hp, g, d, tk, os⟩) l1 x1 := e1
    have q2 : Heap.IsList (Shared.heap ⟨(hp).push { cls := .type "list_iterator", data := .fields #[.ref l1, .int 0 0] }, g, d, tk, os⟩) l2 x2 := (Heap.IsList.push e2 _)
    wp_walk using wpAny_pyIter_list q1, wpAny_pyIter_list q2
    exact ⟨_, rfl, h⟩
theorem call_zip_2 {prog : Program} {w : World} {A : Around} {E : Value → Shared → Prop} {s : Shared} {l1 l2 : Addr} {x1 x2 : Array Value} {Q : Value → Shared → Prop} (e1 : s.heap.IsList l1 x1) (e2 : s.heap.IsList l2 x2)
    (hQ : Q (.ref (zz2_u s.heap l1 l2).objs.size) { s with heap := zz2_z s.heap l1 l2 }) :
    wpAny (model prog w) A (call (.type "zip") [.ref l1, .ref l2]) Q E s := by
  refine callType_new F.called_zip (by decide) (typeCall_zip_2 _ _) (newCall_zip_2 _ _) (fun obj => args_object_init_3 obj _ _) F.entry_zip_new
    (meets_zip_new_2 l1 l2 x1 x2) ⟨e1, e2, ?_⟩
  exact ⟨⟨_, Heap.get?_push_size _ rfl, rfl⟩, hQ⟩
end ZN
namespace DL
open PySem PySem.Spec L2
variable [TbC]
/-- the i-th items of all lists, numbered -/
def cols (m : Nat) (yss : List (List D)) : List D := (List.range m).map fun (i : Nat) => .tup [.int (i : Int), .tup (yss.map fun ys => ys.getD i .non)]
def xEz (Te : DT) : DTI := fun env R Rx => Te env (fun d => ∃ (m : Nat) (yss : List (List D)), d = .lst (yss.map .lst) ∧ 2 ≤ yss.length ∧ yss.length ≤ 4 ∧ (∀ ys ∈ yss, ys.length = m) ∧ R (cols m yss)) Rx
theorem w_xEz {Te : DT} {env : En} {R : List D → Prop} {Rx : Er → Prop} : xEz Te env R Rx = Te env (fun d => ∃ (m : Nat) (yss : List (List D)), d = .lst (yss.map .lst) ∧ 2 ≤ yss.length ∧ yss.length ≤ 4 ∧ (∀ ys ∈ yss, ys.length = m) ∧ R (cols m yss)) Rx := rfl
end DL
namespace DL
open PySem PySem.Spec L2
variable [TbC]
def fLenSet (R : D → Prop) : D → Prop
  | .tup xs => ∃ ns, asInts xs = some ns ∧ ns.length ≤ 60 ∧ ∀ out : List Int, out.Nodup → (∀ k, k ∈ out ↔ k ∈ ns) → R (.int (out.length : Nat))
  | _ => False
def xLenSet (Ta : DT) : DT := fun env R Rx => Ta env (fLenSet R) Rx
theorem w_xLenSet {Ta : DT} {env : En} {R : D → Prop} {Rx : Er → Prop} : xLenSet Ta env R Rx = Ta env (fLenSet R) Rx := rfl
theorem w_fLenSet {xs : List D} {R : D → Prop} : fLenSet R (.tup xs) = ∃ ns, asInts xs = some ns ∧ ns.length ≤ 60 ∧ ∀ out : List Int, out.Nodup → (∀ k, k ∈ out ↔ k ∈ ns) → R (.int (out.length : Nat)) := rfl
end DL
namespace ZM
open PySem Sem
/-- an iterator over a list -/
structure Zp where
  it : Addr
  l : Addr
  xs : Array Value
  t : Bool
/-- an iterator over a tuple or a list, at its i-th item -/
def ItAt (p : Zp) (h : Heap) (i : Nat) : Prop := if p.t then h.IsTupleIter p.it p.l i else h.IsListIter p.it p.l i
def SqAt (p : Zp) (h : Heap) : Prop := if p.t then h.IsTuple p.l p.xs else h.IsList p.l p.xs
theorem ItAt.at {p : Zp} {h h' : Heap} {i : Nat} (x : ItAt p h i) (e : ∀ o, h.get? p.it = some o → h'.get? p.it = some o) : ItAt p h' i := by
  unfold ItAt at x ⊢
  split at x
  · rw [if_pos (by assumption)]; exact Heap.IsTupleIter.at x e
  · rw [if_neg (by assumption)]; exact Heap.IsListIter.at x e
theorem SqAt.at {p : Zp} {h h' : Heap} (x : SqAt p h) (e : ∀ o, h.get? p.l = some o → h'.get? p.l = some o) : SqAt p h' := by
  unfold SqAt at x ⊢
  split at x
  · rw [if_pos (by assumption)]; exact Heap.IsTuple.at x e
  · rw [if_neg (by assumption)]; exact Heap.IsList.at x e
theorem ItAt.extBut {p : Zp} {h h' : Heap} {i : Nat} {b : Addr} (x : ItAt p h i) (hs : Heap.ExtBut b h h') (n : p.it ≠ b) : ItAt p h' i := x.at fun o q => hs _ _ n q
theorem SqAt.extBut {p : Zp} {h h' : Heap} {b : Addr} (x : SqAt p h) (hs : Heap.ExtBut b h h') (n : p.l ≠ b) : SqAt p h' := x.at fun o q => hs _ _ n q
theorem ItAt.obj {p : Zp} {h : Heap} {i : Nat} (x : ItAt p h i) : ∃ o, h.get? p.it = some o ∧ ∀ v, o.data ≠ .cell v := by
  unfold ItAt at x
  split at x <;> (obtain ⟨o, e, _, d⟩ := x; exact ⟨o, e, fun v q => by rw [d] at q; cases q⟩)
theorem next_item {prog : Program} {w : World} {A : Around} {E : Value → Shared → Prop} {s : Shared} {p : Zp} {i : Nat} {x : Value} {Q : Value → Shared → Prop} (q1 : ItAt p s.heap i) (q2 : SqAt p s.heap) (q3 : p.xs[i]? = some x)
    (hQ : ∀ h', ItAt p h' (i + 1) → Heap.SameBut p.it s.heap h' → Q x { s with heap := h' }) : wpAny (model prog w) A (Builtin.SmallTypes.nextOf (.ref p.it)) Q E s := by
  obtain ⟨it, l, xs, t⟩ := p
  cases t
  · exact wpAny_nextOf_list_item (show s.heap.IsListIter it l i from q1) (show s.heap.IsList l xs from q2) q3 hQ
  · exact RZ.nextOf_tuple_item (show s.heap.IsTupleIter it l i from q1) (show s.heap.IsTuple l xs from q2) q3 hQ
theorem next_end {prog : Program} {w : World} {A : Around} {E : Value → Shared → Prop} {s : Shared} {p : Zp} {i : Nat} {Q : Value → Shared → Prop} (hh : A.handled = none) (q1 : ItAt p s.heap i) (q2 : SqAt p s.heap) (q3 : p.xs[i]? = none)
    (hE : ∀ h' e, Heap.ExtBut p.it s.heap h' → (∃ o, h'.get? e = some o ∧ o.cls = .type "StopIteration") → E (.ref e) { s with heap := h' }) : wpAny (model prog w) A (Builtin.SmallTypes.nextOf (.ref p.it)) Q E s := by
  obtain ⟨it, l, xs, t⟩ := p
  cases t
  · exact wpAny_nextOf_list_end hh (show s.heap.IsListIter it l i from q1) (show s.heap.IsList l xs from q2) q3 hE
  · exact RZ.nextOf_tuple_end hh (show s.heap.IsTupleIter it l i from q1) (show s.heap.IsTuple l xs from q2) q3 hE
def Its (h : Heap) (ps : List Zp) (i : Nat) : Prop := ∀ p ∈ ps, ItAt p h i
def Lss (h : Heap) (ps : List Zp) : Prop := ∀ p ∈ ps, SqAt p h
abbrev Seq (h : Heap) (T : Addr) (vs : List Value) : Prop := h.get? T = some { cls := .type "tuple", data := .seq ⟨vs⟩ }
def refs (ps : List Zp) : List Value := ps.map fun p => .ref p.it
structure Ap (z TI TO : Addr) (ps : List Zp) : Prop where
  zTI : z ≠ TI
  zTO : z ≠ TO
  TITO : TI ≠ TO
  it : ∀ p ∈ ps, p.it ≠ z ∧ p.it ≠ TI ∧ p.it ≠ TO
  nd : (ps.map (·.it)).Nodup
  ls : ∀ p ∈ ps, p.l ≠ z ∧ p.l ≠ TO ∧ ∀ q ∈ ps, p.l ≠ q.it
abbrev IsZipF (h : Heap) (z TI TO : Addr) (f0 : Value) (f : Bool) : Prop :=
  h.get? z = some { cls := .type "zip", dict := none, data := .fields #[f0, .bool f, .bool false, .ref TI, .ref TO], slots := #[] }
/-- what stays: all but the zip, its tuple, the iterators -/
def Keep (z TO : Addr) (ps : List Zp) (h h' : Heap) : Prop := ∀ c o, c ≠ z → c ≠ TO → (∀ p ∈ ps, c ≠ p.it) → h.get? c = some o → h'.get? c = some o
section
variable {prog : Program} {w : World} {A : Around} {E : Value → Shared → Prop} {s : Shared} {z TI TO : Addr} {ps : List Zp}
theorem Lss.keep {h h' : Heap} (D : Ap z TI TO ps) (k : Keep z TO ps h h') (L : Lss h ps) : Lss h' ps := fun p m => by
  obtain ⟨d1, d2, d3⟩ := D.ls p m
  exact (L p m).at fun o e => k _ o d1 d2 d3 e
theorem nd_app {xs ys : List Zp} {p : Zp} (h : ((xs ++ p :: ys).map (·.it)).Nodup) : (∀ q ∈ xs, q.it ≠ p.it) ∧ ∀ q ∈ ys, q.it ≠ p.it := by
  rw [List.map_append, List.map_cons, List.nodup_append] at h
  obtain ⟨_, h2, h3⟩ := h
  rw [List.nodup_cons] at h2
  refine ⟨fun q m e => ?_, fun q m e => h2.1 (by rw [← e]; exact List.mem_map_of_mem m)⟩
  exact (h3 q.it (List.mem_map_of_mem m) p.it List.mem_cons_self) e
/-- the state in the middle of a draw -/
def Mid (h0 : Heap) (z TI TO : Addr) (ps : List Zp) (i : Nat) (vs : List Value) (f : Heap → Nat → Prop) (r : List Value) (acc : List Value) (h2 : Heap) : Prop :=
  ∃ don rst : List Zp, ps = don ++ rst ∧ r = refs rst ∧ acc = vs.take don.length ∧ Its h2 don (i + 1) ∧ Its h2 rst i ∧ h2.objs.size = h0.objs.size ∧ Keep z TO ps h0 h2 ∧ f h2 don.length
theorem refs_cons {r : List Zp} {x : Value} {rest : List Value} (e : x :: rest = refs r) : ∃ p r', r = p :: r' ∧ x = .ref p.it ∧ rest = refs r' := by
  cases r with
  | nil => cases e
  | cons p r =>
    have e : x :: rest = .ref p.it :: refs r := e
    injection e with e1 e2
    exact ⟨p, r, rfl, e1, e2⟩
theorem Mid.step {h0 h2 : Heap} {i : Nat} {vs : List Value} {f : Heap → Nat → Prop} {x : Value} {rest acc : List Value} (D : Ap z TI TO ps) (L : Lss h0 ps) (hv : ps.map (fun p => p.xs[i]?) = vs.map some)
    (M : Mid h0 z TI TO ps i vs f (x :: rest) acc h2) : ∃ p v, p ∈ ps ∧ x = .ref p.it ∧ ItAt p h2 i ∧ SqAt p h2 ∧ p.xs[i]? = some v ∧ vs[acc.length]? = some v ∧ acc.length < ps.length ∧ acc = vs.take acc.length ∧ f h2 acc.length ∧
      ∀ h3, ItAt p h3 (i + 1) → h3.objs.size = h2.objs.size → (∀ c o, c ≠ p.it → c ≠ TO → h2.get? c = some o → h3.get? c = some o) → f h3 (acc.length + 1) → Mid h0 z TI TO ps i vs f rest (acc ++ [v]) h3 := by
  obtain ⟨don, rst, e1, e2, e3, i1, i2, sz, kp, hf⟩ := M
  obtain ⟨p, r', rfl, rfl, e4⟩ := refs_cons e2
  have hp : p ∈ ps := by rw [e1]; exact List.mem_append_right _ List.mem_cons_self
  have vl : vs.length = ps.length := by
    have := congrArg List.length hv
    rw [List.length_map, List.length_map] at this
    exact this.symm
  have dl : don.length < ps.length := by rw [e1, List.length_append, List.length_cons]; omega
  have al : acc.length = don.length := by rw [e3, List.length_take]; omega
  have hx : p.xs[i]? = some (vs[don.length]'(by omega)) := by
    have := congrArg (fun l => l[don.length]?) hv
    simp only [List.getElem?_map] at this
    rw [e1, List.getElem?_append_right (Nat.le_refl _), Nat.sub_self, List.getElem?_cons_zero, List.getElem?_eq_getElem (by omega)] at this
    simpa using this
  refine ⟨p, vs[don.length]'(by omega), hp, rfl, i2 p List.mem_cons_self, (L.keep D kp) p hp, hx, by rw [al]; exact List.getElem?_eq_getElem _, by omega, by rw [al]; exact e3, by rw [al]; exact hf, fun h3 g1 g2 g3 g4 => ?_⟩
  have nd := D.nd
  rw [e1] at nd
  obtain ⟨n1, n2⟩ := nd_app nd
  have ito : ∀ q ∈ ps, q.it ≠ TO := fun q m => (D.it q m).2.2
  refine ⟨don ++ [p], r', by rw [e1]; simp, e4, ?_, fun q m => ?_, fun q m => ?_, by rw [g2, sz], fun c o c1 c2 c3 e => ?_, ?_⟩
  · have z : vs.take (don ++ [p]).length = vs.take don.length ++ [vs[don.length]'(by omega)] := by
      rw [List.length_append, List.length_cons, List.length_nil, List.take_add_one, List.getElem?_eq_getElem (by omega)]
      rfl
    rw [z, ← e3]
  · rcases List.mem_append.mp m with m | m
    · exact (i1 q m).at fun o e => g3 _ o (n1 q m) (ito q (by rw [e1]; exact List.mem_append_left _ m)) e
    · rw [List.mem_singleton.mp m]
      exact g1
  · exact (i2 q (List.mem_cons_of_mem _ m)).at fun o e => g3 _ o (n2 q m) (ito q (by rw [e1]; exact List.mem_append_right _ (List.mem_cons_of_mem _ m))) e
  · exact g3 c o (c3 p hp) c2 (kp c o c1 c2 c3 e)
  · rw [List.length_append, List.length_cons, List.length_nil, ← al]
    exact g4
theorem Mid.start {h0 h2 : Heap} {i : Nat} {vs : List Value} {f : Heap → Nat → Prop} (hi : Its h2 ps i) (sz : h2.objs.size = h0.objs.size) (k : Keep z TO ps h0 h2) (hf : f h2 0) : Mid h0 z TI TO ps i vs f (refs ps) [] h2 :=
  ⟨[], ps, rfl, rfl, by simp, (fun p m => nomatch m), hi, sz, k, hf⟩
theorem Mid.fin {h0 h2 : Heap} {i : Nat} {vs acc : List Value} {f : Heap → Nat → Prop} (hl : vs.length = ps.length) (M : Mid h0 z TI TO ps i vs f [] acc h2) : acc = vs ∧ Its h2 ps (i + 1) ∧ h2.objs.size = h0.objs.size ∧ Keep z TO ps h0 h2 ∧ f h2 ps.length := by
  obtain ⟨don, rst, e1, e2, e3, i1, i2, sz, kp, hf⟩ := M
  have : rst = [] := by
    cases rst with
    | nil => rfl
    | cons p r => cases e2
  subst this
  rw [List.append_nil] at e1
  subst e1
  exact ⟨by rw [e3, List.take_of_length_le (by omega)], i1, sz, kp, hf⟩
theorem dead {a : Addr} {Q : Option Obj → Shared → Prop} (ho : s.heap.get? a = none) (h : Q none s) : wpAny (model prog w) A (PySem.loadIfAlive a) Q E s := by
  have h' : Q (s.heap.get? a) s := by rw [ho]; exact h
  exact fun _ _ _ => h'
theorem tupleFree {f0 : Value} {f : Bool} {Q : Bool → Shared → Prop} (hz : IsZipF s.heap z TI TO f0 f) (hfr : f0 = .none ∨ ∃ T : Nat, f0 = rawInt T ∧ s.heap.get? T = none) (h : Q true s) : wpAny (model prog w) A (Builtin.SmallTypes.ownedTupleIsFree (.ref z)) Q E s := by
  unfold Builtin.SmallTypes.ownedTupleIsFree
  rcases hfr with rfl | ⟨T, rfl, hT⟩
  · exact wpAny_bind (wpAny_field hz rfl (x := .none) rfl (wpAny_pure h))
  · refine wpAny_bind (wpAny_field hz rfl (x := rawInt T) rfl ?_)
    show wpAny _ _ (PySem.loadIfAlive ((T : Int).toNat) >>= _) _ _ _
    rw [Int.toNat_natCast]
    refine wpAny_bind (dead hT ?_)
    simp only [Option.isNone_none, if_true]
    exact wpAny_pure h
theorem zipIdx_fst : ∀ (l : List Value) (n : Nat), (l.zipIdx n).map (·.1) = l
  | [], _ => rfl
  | x :: l, n => by rw [List.zipIdx_cons, List.map_cons, zipIdx_fst l (n + 1)]
theorem zipN_free {f0 : Value} {f : Bool} {i : Nat} {vs kept : List Value} {Q : Value → Shared → Prop} (D : Ap z TI TO ps)
    (hz : IsZipF s.heap z TI TO f0 f) (hfr : f0 = .none ∨ ∃ T : Nat, f0 = rawInt T ∧ s.heap.get? T = none) (hTO : Seq s.heap TO kept) (hkl : kept.length = ps.length) (hTI : Seq s.heap TI (refs ps)) (ne : ps ≠ []) (hn : ps.length ≤ 1000) (hi : Its s.heap ps i) (hl : Lss s.heap ps) (hv : ps.map (fun p => p.xs[i]?) = vs.map some)
    (hQ : ∀ h', IsZip h' z TI TO (rawInt s.heap.objs.size) → Its h' ps (i + 1) → Seq h' s.heap.objs.size vs → h'.objs.size = s.heap.objs.size + 1 → Keep z TO ps s.heap h' → Seq h' TO vs → Q (.ref s.heap.objs.size) { s with heap := h' }) :
    wpAny (model prog w) A (Builtin.«zip.__next__» ⟨[.ref z], []⟩) (fun fin s' => ∃ v, fin = .done (.ret v) ∧ Q v s') E s := by
  have vl : vs.length = ps.length := by
    have := congrArg List.length hv
    rw [List.length_map, List.length_map] at this
    exact this.symm
  show wpAny _ _ (field (.ref z) 2 >>= _) _ _ _
  refine wpAny_bind (wpAny_field hz rfl (x := .bool false) rfl ?_)
  show wpAny _ _ (field (.ref z) 3 >>= _) _ _ _
  refine wpAny_bind (wpAny_field hz rfl (x := .ref TI) rfl ?_)
  refine wpAny_bind (wpAny_seqItems hTI rfl ?_)
  have ne2 : (⟨refs ps⟩ : Array Value).isEmpty = false := by
    cases ps with
    | nil => exact absurd rfl ne
    | cons p ps => rfl
  simp only [ne2, Bool.false_eq_true, if_false]
  show wpAny _ _ (Builtin.SmallTypes.ownedTupleIsFree (.ref z) >>= _) _ _ _
  refine wpAny_bind (tupleFree hz hfr ?_)
  simp only [if_true]
  refine wpAny_bind (wpAny_rule ?_)
  refine wpAny_bind (wpAny_field hz rfl (x := .ref TO) rfl ?_)
  refine wpAny_bind (wpAny_setField_rec hz (by simp) fun h₁ hz₁ hs₁ => ?_)
  replace hz₁ : IsZipF h₁ z TI TO .ellipsis f := hz₁
  refine wpAny_bind ?_
  refine wpAny_forIn_list _ (fun r b s' => b.1 = none ∧ ∃ h2 acc, s' = { s with heap := h2 } ∧ r = (r.map (·.1)).zipIdx acc.length ∧ Mid s.heap z TI TO ps i vs (fun h2 n => IsZipF h2 z TI TO .ellipsis f ∧ ∃ kp, Seq h2 TO kp ∧ kp.length = ps.length ∧ kp.take n = vs.take n) (r.map (·.1)) acc h2) _ (fun x rest b s' hI => ?_) (fun b s' hI => ?_) _ _ ?_
  · obtain ⟨b1, h2, acc, rfl, ex, M⟩ := hI
    rw [List.map_cons, List.zipIdx_cons] at ex
    injection ex with ex1 ex2
    obtain ⟨x0, k0⟩ := x
    injection ex1 with _ ek
    rw [List.map_cons] at M
    obtain ⟨p, v, hp, e0, q1, q2, q3, q4, q5, q6, ⟨q7, kp, k1, k2, k3⟩, go⟩ := M.step D hl hv
    have e0 : x0 = .ref p.it := e0
    have ek : k0 = acc.length := ek
    subst e0
    subst ek
    obtain ⟨d1, d2, d3⟩ := D.it p hp
    refine wpAny_bind (wpAny_onRaise ?_)
    show wpAny _ _ (Builtin.SmallTypes.nextOf (.ref p.it) >>= _) _ _ _
    refine wpAny_bind (next_item q1 q2 q3 fun h₂ h1₂ hs₂ => wpAny_pure ?_)
    have hTO₂ : Seq h₂ TO kp := hs₂.extBut _ _ d3.symm k1
    refine wpAny_bind (wpAny_seqItems hTO₂ rfl ?_)
    refine wpAny_bind (wpAny_updateSeq hTO₂ rfl ?_ (by show kp.length ≤ 16777216; omega) (by simp; show kp.length ≤ 16777216 + 1; omega))
    have hs₃ : Heap.SameBut TO h₂ (h₂.update TO (Obj.mapSeq fun a => a.setIfInBounds acc.length v)) := Heap.SameBut.update ..
    have hTO₃ : Seq (h₂.update TO (Obj.mapSeq fun a => a.setIfInBounds acc.length v)) TO (kp.set acc.length v) := by
      show Heap.get? _ _ = _
      rw [Heap.get?_update_self _ hTO₂ rfl]
      simp [Obj.mapSeq]
    generalize h₂.update TO (Obj.mapSeq fun a => a.setIfInBounds acc.length v) = h₃ at hs₃ hTO₃
    refine wpAny_bind (wpAny_letGo (wpAny_pure ?_))
    refine ⟨rfl, h₃, acc ++ [v], rfl, by rw [List.length_append]; exact ex2, go h₃ (h1₂.at fun o e => hs₃.extBut _ _ d3 e) (by rw [hs₃.1, hs₂.1]) (fun c o c1 c2 e => hs₃.extBut _ _ c2 (hs₂.extBut c o c1 e)) ⟨hs₃.extBut _ _ D.zTO (hs₂.extBut _ _ d1.symm q7), _, hTO₃, by rw [List.length_set]; exact k2, ?_⟩⟩
    have z1 : (kp.set acc.length v).take (acc.length + 1) = kp.take acc.length ++ [v] := by
      rw [List.take_add_one, List.take_set_of_le (Nat.le_refl _), List.getElem?_set_self (by omega)]
      rfl
    rw [z1, k3, List.take_add_one, q4]
    rfl
  · obtain ⟨b1, h2, acc, rfl, ex, M⟩ := hI
    obtain ⟨e1, i2, sz, kpp, hz2, kp, k1, k2, k3⟩ := M.fin vl
    rw [List.take_of_length_le (by omega), List.take_of_length_le (by omega)] at k3
    subst k3
    obtain ⟨b0, ba⟩ := b
    cases b1
    refine wpAny_bind (wpAny_seqItems k1 rfl ?_)
    refine wpAny_bind (wpAny_newTuple ?_ (by show kp.length ≤ 16777216; omega))
    have hzlt : z < h2.objs.size := Heap.lt_size hz2
    have up0 : ∀ c o, h2.get? c = some o → (h2.push { cls := .type "tuple", data := .seq (⟨kp⟩ : Array Value) }).get? c = some o := fun c o e => Heap.get?_push_of_some _ e
    have hT0 : Seq (h2.push { cls := .type "tuple", data := .seq ⟨kp⟩ }) h2.objs.size kp := Heap.get?_push_size _ rfl
    have hz4 : (h2.push { cls := .type "tuple", data := .seq (⟨kp⟩ : Array Value) }).objs.size = h2.objs.size + 1 := Heap.size_push ..
    have hz₆ : IsZipF (h2.push { cls := .type "tuple", data := .seq ⟨kp⟩ }) z TI TO .ellipsis f := up0 _ _ hz2
    show wpAny _ _ (Builtin.SmallTypes.ownedTupleHandOut (.ref z) (.ref h2.objs.size) >>= _) _ _ _
    refine wpAny_bind ?_
    unfold Builtin.SmallTypes.ownedTupleHandOut
    refine wpAny_bind (wpAny_setField_rec hz₆ (by simp) fun h₇ hz₇ hs₇ => ?_)
    replace hz₇ : IsZipF h₇ z TI TO (rawInt h2.objs.size) f := hz₇
    refine wpAny_setField_rec hz₇ (by simp) fun h₈ hz₈ hs₈ => ?_
    replace hz₈ : IsZip h₈ z TI TO (rawInt h2.objs.size) := hz₈
    have up : ∀ c o, c ≠ z → h2.get? c = some o → h₈.get? c = some o := fun c o c1 e => hs₈.extBut _ _ c1 (hs₇.extBut _ _ c1 (up0 _ _ e))
    have hT₈ : Seq h₈ h2.objs.size kp := hs₈.extBut _ _ (Nat.ne_of_gt hzlt) (hs₇.extBut _ _ (Nat.ne_of_gt hzlt) hT0)
    have hz8 : h₈.objs.size = h2.objs.size + 1 := by rw [hs₈.1, hs₇.1]; exact hz4
    refine wpAny_pure ⟨_, rfl, ?_⟩
    show Q (.ref h2.objs.size) _
    rw [sz] at hz₈ hT₈ hz8 ⊢
    exact hQ h₈ hz₈ (fun p m => (i2 p m).at fun o e => up _ o (D.it p m).1 e) hT₈ hz8 (fun c o c1 c2 c3 e => up c o c1 (kpp c o c1 c2 c3 e)) (up _ _ D.zTO.symm k1)
  · refine ⟨rfl, h₁, [], rfl, ?_, ?_⟩
    · show (refs ps).zipIdx = _
      have : ((refs ps).zipIdx).map (·.1) = refs ps := zipIdx_fst _ _
      rw [this]
      rfl
    · have : ((refs ps).zipIdx).map (·.1) = refs ps := zipIdx_fst _ _
      show Mid _ _ _ _ _ _ _ _ (((refs ps).zipIdx).map (·.1)) _ _
      rw [this]
      refine Mid.start (fun p m => (hi p m).at fun o e => hs₁.extBut _ _ (D.it p m).1 e) hs₁.1 (fun c o c1 _ _ e => hs₁.extBut c o c1 e) ⟨hz₁, kept, hs₁.extBut _ _ D.zTO.symm hTO, hkl, by simp⟩
theorem zipN_end_free {f0 : Value} {f : Bool} {i : Nat} {p : Zp} {Q : Fin → Shared → Prop} (hh : A.handled = none) (D : Ap z TI TO (p :: ps))
    (hz : IsZipF s.heap z TI TO f0 f) (hfr : f0 = .none ∨ ∃ T : Nat, f0 = rawInt T ∧ s.heap.get? T = none) (hTI : Seq s.heap TI (refs (p :: ps))) (hi : Its s.heap (p :: ps) i) (hl : Lss s.heap (p :: ps)) (hv : p.xs[i]? = none)
    (hE : ∀ h' e, Keep z TO (p :: ps) s.heap h' → (∃ o, h'.get? e = some o ∧ o.cls = .type "StopIteration") → E (.ref e) { s with heap := h' }) :
    wpAny (model prog w) A (Builtin.«zip.__next__» ⟨[.ref z], []⟩) Q E s := by
  show wpAny _ _ (field (.ref z) 2 >>= _) _ _ _
  refine wpAny_bind (wpAny_field hz rfl (x := .bool false) rfl ?_)
  show wpAny _ _ (field (.ref z) 3 >>= _) _ _ _
  refine wpAny_bind (wpAny_field hz rfl (x := .ref TI) rfl ?_)
  refine wpAny_bind (wpAny_seqItems hTI rfl ?_)
  have ne2 : (⟨refs (p :: ps)⟩ : Array Value).isEmpty = false := rfl
  simp only [ne2, Bool.false_eq_true, if_false]
  show wpAny _ _ (Builtin.SmallTypes.ownedTupleIsFree (.ref z) >>= _) _ _ _
  refine wpAny_bind (tupleFree hz hfr ?_)
  simp only [if_true]
  refine wpAny_bind (wpAny_rule ?_)
  refine wpAny_bind (wpAny_field hz rfl (x := .ref TO) rfl ?_)
  refine wpAny_bind (wpAny_setField_rec hz (by simp) fun h₁ hz₁ hs₁ => ?_)
  replace hz₁ : IsZipF h₁ z TI TO .ellipsis f := hz₁
  refine wpAny_bind ?_
  show wpAny _ _ (forIn ((Value.ref p.it, 0) :: (refs ps).zipIdx 1) _ _) _ _ _
  rw [List.forIn_cons]
  refine wpAny_bind (wpAny_bind (wpAny_onRaise ?_))
  show wpAny _ _ (Builtin.SmallTypes.nextOf (.ref p.it) >>= _) _ _ _
  obtain ⟨d1, d2, d3⟩ := D.it p List.mem_cons_self
  obtain ⟨l1, l2, l3⟩ := D.ls p List.mem_cons_self
  refine wpAny_bind (next_end hh ((hi p List.mem_cons_self).extBut hs₁.extBut d1) ((hl p List.mem_cons_self).extBut hs₁.extBut l1) hv fun h₂ e hs₂ he => ?_)
  obtain ⟨oe, hoe, hce⟩ := he
  have hz₂ : IsZipF h₂ z TI TO .ellipsis f := hs₂ _ _ d1.symm hz₁
  have hez : e ≠ z := fun x => by subst x; rw [hz₂] at hoe; cases hoe; simp at hce
  refine wpAny_setField_rec hz₂ (by simp) fun h₃ _ hs₃ => hE h₃ e (fun c o c1 c2 c3 x => hs₃.extBut _ _ c1 (hs₂ _ _ (c3 p List.mem_cons_self) (hs₁.extBut _ _ c1 x))) ⟨oe, hs₃.extBut _ _ hez hoe, hce⟩
theorem draw_x {i : Nat} {vs kept : List Value} {Q : Option Value → Shared → Prop} (D : Ap z TI TO ps) (hz : IsZipF s.heap z TI TO .none false) (hTO : Seq s.heap TO kept) (hkl : kept.length = ps.length) (hTI : Seq s.heap TI (refs ps)) (ne : ps ≠ []) (hn : ps.length ≤ 1000) (hi : Its s.heap ps i) (hl : Lss s.heap ps) (hv : ps.map (fun p => p.xs[i]?) = vs.map some)
    (hQ : ∀ h', IsZip h' z TI TO (rawInt s.heap.objs.size) → Its h' ps (i + 1) → Seq h' s.heap.objs.size vs → h'.objs.size = s.heap.objs.size + 1 → Keep z TO ps s.heap h' → Seq h' TO vs → Q (some (.ref s.heap.objs.size)) { s with heap := h' }) :
    wpAny (model prog w) A (pyNext (.ref z)) Q E s := by
  have ty : s.TypeIs (.ref z) "zip" := ⟨_, hz, rfl⟩
  unfold pyNext
  refine wpAny_bind (wpAny_attempt (wpAny_callSpecial?_slot (name := Str.ofString "__next__") ty F.slot_zip_next ?_))
  refine wpAny_call_entry F.slot_zip_next ty F.entry_zip_next ?_ (F.args_zip_next_1 _)
  exact zipN_free D hz (.inl rfl) hTO hkl hTI ne hn hi hl hv fun h' a1 a2 a3 a4 a5 a6 => wpAny_pure (hQ h' a1 a2 a3 a4 a5 a6)
theorem end_x {i : Nat} {p : Zp} {Q : Option Value → Shared → Prop} (hh : A.handled = none) (D : Ap z TI TO (p :: ps)) (hz : IsZipF s.heap z TI TO .none false) (hTI : Seq s.heap TI (refs (p :: ps))) (hi : Its s.heap (p :: ps) i) (hl : Lss s.heap (p :: ps)) (hv : p.xs[i]? = none)
    (hQ : ∀ h', Keep z TO (p :: ps) s.heap h' → Q none { s with heap := h' }) : wpAny (model prog w) A (pyNext (.ref z)) Q E s := by
  have ty : s.TypeIs (.ref z) "zip" := ⟨_, hz, rfl⟩
  unfold pyNext
  refine wpAny_bind (wpAny_attempt (wpAny_callSpecial?_slot (name := Str.ofString "__next__") ty F.slot_zip_next ?_))
  refine wpAny_call_entry F.slot_zip_next ty F.entry_zip_next (zipN_end_free hh D hz (.inl rfl) hTI hi hl hv fun h' e hk he => ?_) (F.args_zip_next_1 _)
  obtain ⟨o, ho, hc⟩ := he
  refine wpAny_bind (wpAny_isInstance (T := "StopIteration") (b := true) ⟨o, ho, hc⟩ isSubtype_stop (wpAny_pure (hQ _ hk)))
end
end ZM
namespace ZM
open PySem PySem.Spec PyProof.Rows L2
def SqX (t : Bool) (K : PySem.W.Frag) (H : Hp) (a : Addr) (xs : List V) : Prop := if t then SqT K H a xs else SqL K H a xs
theorem sqx {X : Cx} {pins : List (Addr × Obj)} {σ : L2.St} {H : Hp} {s : Shared} {t : Bool} {a : Addr} {xs : List V} (I : Inv X pins σ H s) (h : SqX t X.K H a xs) : ∃ its, Vals xs its ∧ ∀ it, SqAt ⟨it, a, its.toArray, t⟩ s.heap := by
  cases t
  · obtain ⟨its, rv, p, _⟩ := I.list (show SqL X.K H a xs from h)
    exact ⟨its, rv, fun it => p.isList⟩
  · obtain ⟨its, rv, p, _⟩ := I.tuple (show SqT X.K H a xs from h)
    exact ⟨its, rv, fun it => p⟩
theorem sqx_inj {X : Cx} {pins : List (Addr × Obj)} {σ : L2.St} {H : Hp} {s : Shared} {t : Bool} {a : Addr} {xs ys : List V} (I : Inv X pins σ H s) (h : SqX t X.K H a xs) (h' : SqX t X.K H a ys) : xs = ys := by
  cases t
  · exact I.list_inj (show SqL X.K H a xs from h) h'
  · exact I.tuple_inj (show SqT X.K H a xs from h) h'
/-- the lists or tuples at a and b, the items in new pairs -/
def ItzX (K : PySem.W.Frag) (t1 t2 : Bool) (a b : Addr) : It :=
  ⟨fun i H => ∃ (xs ys : List V) (x y : V), SqX t1 K H a xs ∧ SqX t2 K H b ys ∧ xs[i]? = some x ∧ ys[i]? = some y,
    fun i H v H' => ∃ T x y, v = .ref T ∧ H T = none ∧ H' = upd H T (.tup [x, y]) ∧ (∀ xs, SqX t1 K H a xs → xs[i]? = some x) ∧ ∀ ys, SqX t2 K H b ys → ys[i]? = some y,
    fun i H => ∃ xs ys : List V, SqX t1 K H a xs ∧ SqX t2 K H b ys ∧ xs.length ≤ i⟩
abbrev two (i1 i2 a b : Addr) (t1 t2 : Bool) (X Y : Array Value) : List Zp := [⟨i1, a, X, t1⟩, ⟨i2, b, Y, t2⟩]
def StX (z TI TO i1 i2 a b : Addr) (t1 t2 : Bool) (i : Nat) (h : Heap) : Prop :=
  IsZip h z TI TO .none ∧ Seq h TI [.ref i1, .ref i2] ∧ (∃ kp : List Value, Seq h TO kp ∧ kp.length = 2) ∧ ItAt ⟨i1, a, #[], t1⟩ h i ∧ ItAt ⟨i2, b, #[], t2⟩ h i
theorem its2 {i1 i2 a b : Addr} {t1 t2 : Bool} {X Y : Array Value} {h : Heap} {i : Nat} (h1 : ItAt ⟨i1, a, #[], t1⟩ h i) (h2 : ItAt ⟨i2, b, #[], t2⟩ h i) : Its h (two i1 i2 a b t1 t2 X Y) i := fun p m => by
  simp only [List.mem_cons, List.not_mem_nil, or_false] at m
  rcases m with rfl | rfl
  · exact h1
  · exact h2
theorem turn_x {P : Program} {w : World} {K : PySem.W.Frag} {elts : List Expr} {kk : Nat} {tpos : Pos} {z TI TO i1 i2 a b : Addr} {t1 t2 : Bool} (D : ∀ X Y, Ap z TI TO (two i1 i2 a b t1 t2 X Y)) :
    Turn P w K (.Tuple elts kk tpos) (ItzX K t1 t2 a b) [z, TI, TO, i1, i2] z (fun i h => StX z TI TO i1 i2 a b t1 t2 i h) where
  mem := by simp
  obj := fun i h st c hc => by
    obtain ⟨hz, hTI, ⟨kp, hTO, _⟩, h1, h2⟩ := st
    simp only [List.mem_cons, List.not_mem_nil, or_false] at hc
    rcases hc with rfl | rfl | rfl | rfl | rfl
    · exact ⟨_, hz, fun v q => nomatch q⟩
    · exact ⟨_, hTI, fun v q => nomatch q⟩
    · exact ⟨_, hTO, fun v q => nomatch q⟩
    · exact h1.obj
    · exact h2.obj
  keep := fun i h h' st k => by
    obtain ⟨hz, hTI, ⟨kp, hTO, hk⟩, h1, h2⟩ := st
    exact ⟨k z (by simp) _ hz, k TI (by simp) _ hTI, ⟨kp, k TO (by simp) _ hTO, hk⟩, h1.at fun o q => k i1 (by simp) o q, h2.at fun o q => k i2 (by simp) o q⟩
  item := by
    intro X hP hw hK hc i pins s σ H E I hf st hg
    subst hP hw hK
    obtain ⟨hz, hTI, ⟨kp, hTO, hkl⟩, h1, h2⟩ := st
    obtain ⟨xs, ys, x, y, hqx, hqy, hx, hy⟩ := hg
    obtain ⟨its, rv, p⟩ := sqx I hqx
    obtain ⟨itt, rv2, p2⟩ := sqx I hqy
    obtain ⟨u, hu, ru⟩ := rv.get hx
    obtain ⟨u2, hu2, ru2⟩ := rv2.get hy
    have D1 := D its.toArray itt.toArray
    obtain ⟨e1, e2, e3⟩ := D1.it _ List.mem_cons_self
    obtain ⟨f1, f2, f3⟩ := D1.it _ (List.mem_cons_of_mem _ List.mem_cons_self)
    refine draw_x (vs := [u, u2]) D1 hz hTO hkl hTI (by simp) (by simp) (its2 h1 h2) (fun q m => ?_) (by simp [hu, hu2]) fun h' z' ii sq hsz hk TO' => ?_
    · simp only [List.mem_cons, List.not_mem_nil, or_false] at m
      rcases m with rfl | rfl
      · exact p _
      · exact p2 _
    have hzl : z < s.heap.objs.size := Heap.lt_size hz
    refine ⟨_, rfl, wpAny_letOwnedTupleGo_zip (s := { s with heap := h' }) z' fun h'' z'' sb => ?_⟩
    have hT2 : h''.get? s.heap.objs.size = some { cls := .type "tuple", data := .seq ⟨[u, u2]⟩ } := (sb.2 _ (Nat.ne_of_gt hzl)).trans sq
    have new : ObjOk X.prog X.w (upd H s.heap.objs.size (.tup [x, y])) h'' s.heap.objs.size (.tup [x, y]) :=
      ⟨by show 2 ≤ sizeLine; decide, _, .cons ru (.cons ru2 .nil), ⟨_, hT2, rfl, _, rfl⟩⟩
    have I1 : Inv X pins σ (upd H s.heap.objs.size (.tup [x, y])) { s with heap := h'' } :=
      I.turnedNew (t' := s.toks) (ch := [z, TI, TO, i1, i2]) (fun c o hb q => (sb.2 c (fun q' => hb (by simp [q']))).trans (hk c o (fun q' => hb (by simp [q'])) (fun q' => hb (by simp [q'])) (fun r m q' => by
        simp only [List.mem_cons, List.not_mem_nil, or_false] at m
        rcases m with rfl | rfl
        · exact hb (by simp [q'])
        · exact hb (by simp [q'])) q)) hf (Nat.le_refl _) new
    refine ⟨.ref s.heap.objs.size, _, I1, rfl, ⟨_, x, y, rfl, I.hok.fresh (Nat.le_refl _), rfl, fun l hl => by rw [sqx_inj I hl hqx]; exact hx, fun l hl => by rw [sqx_inj I hl hqy]; exact hy⟩, ⟨z'', ?_, ⟨_, (sb.2 _ D1.zTO.symm).trans TO', rfl⟩, ?_, ?_⟩, fun c hcm => ?_⟩
    · exact (sb.2 _ D1.zTI.symm).trans (hk _ _ D1.zTI.symm D1.TITO (fun r m => (D1.it r m).2.1.symm) hTI)
    · exact (show ItAt ⟨i1, a, #[], t1⟩ h' (i + 1) from ii ⟨i1, a, its.toArray, t1⟩ List.mem_cons_self).at fun o q => (sb.2 _ e1).trans q
    · exact (show ItAt ⟨i2, b, #[], t2⟩ h' (i + 1) from ii ⟨i2, b, itt.toArray, t2⟩ (List.mem_cons_of_mem _ List.mem_cons_self)).at fun o q => (sb.2 _ f1).trans q
    · have hlt : c < s.heap.objs.size := by
        simp only [List.mem_cons, List.not_mem_nil, or_false] at hcm
        rcases hcm with q | q | q | q | q
        · rw [q]; exact hzl
        · rw [q]; exact Heap.lt_size hTI
        · rw [q]; exact Heap.lt_size hTO
        · rw [q]; obtain ⟨_, g1, _⟩ := h1.obj; exact Heap.lt_size g1
        · rw [q]; obtain ⟨_, g1, _⟩ := h2.obj; exact Heap.lt_size g1
      rw [upd_ne (Nat.ne_of_lt hlt)]
      exact (hf c hcm).1
  done := by
    intro X hP hw hK hc i pins s σ H E I hf st hg
    subst hP hw hK
    obtain ⟨hz, hTI, ⟨kp, hTO, hkl⟩, h1, h2⟩ := st
    obtain ⟨xs, ys, hqx, hqy, hend⟩ := hg
    obtain ⟨its, rv, p⟩ := sqx I hqx
    obtain ⟨itt, rv2, p2⟩ := sqx I hqy
    have l1 := rv.length
    refine end_x (i := i) (I.ok.hd hc) (D its.toArray itt.toArray) hz hTI (its2 h1 h2) (fun q m => ?_) (by simp; omega) fun h' hk => ⟨rfl, I.turnedL (t' := s.toks) (ch := [z, TI, TO, i1, i2]) (fun c o hb q => hk c o (fun q' => hb (by simp [q'])) (fun q' => hb (by simp [q'])) (fun r m q' => ?_) q) hf⟩
    · simp only [List.mem_cons, List.not_mem_nil, or_false] at m
      rcases m with rfl | rfl
      · exact p _
      · exact p2 _
    · simp only [List.mem_cons, List.not_mem_nil, or_false] at m
      rcases m with rfl | rfl
      · exact hb (by simp [q'])
      · exact hb (by simp [q'])
  self := fun A i s Q E st h => wpAny_pyIter_zip st.1 h
abbrev hx1 (h : Heap) (a : Addr) : Heap := h.push { cls := .type "list_iterator", data := .fields #[.ref a, .int 0 0] }
abbrev hx2 (h : Heap) (a b : Addr) : Heap := (hx1 h a).push { cls := .type "tuple_iterator", data := .fields #[.ref b, .int 0 0] }
abbrev hx3 (h : Heap) (a b : Addr) : Heap := (hx2 h a b).push { cls := .type "tuple", data := .seq #[.ref h.objs.size, .ref (hx1 h a).objs.size] }
abbrev hx4 (h : Heap) (a b : Addr) : Heap := (hx3 h a b).push { cls := .type "tuple", data := .seq #[.none, .none] }
abbrev hx5 (h : Heap) (a b : Addr) : Heap := (hx4 h a b).push { cls := .type "zip", data := .fields #[.none, .bool false, .bool false, .ref (hx2 h a b).objs.size, .ref (hx3 h a b).objs.size] }
theorem meets_x (a b : Addr) (xs ys : Array Value) :
    Meets (Builtin.«zip.__new__» ⟨[.type "zip", .ref a, .ref b], []⟩) (fun _ R s => s.heap.IsList a xs ∧ s.heap.IsTuple b ys ∧ R (.ok (.ret (.ref (hx4 s.heap a b).objs.size))) { s with heap := hx5 s.heap a b }) :=
  .of_wp fun prog w A R s h => by
    obtain ⟨hp, g, d, tk, os⟩ := s
    obtain ⟨e1, e2, h⟩ := h
    have hsub := sub_zip
    have q1 : Heap.IsList (Shared.heap ⟨hp, g, d, tk, os⟩) a xs := e1
    have q2 : Heap.IsTuple (Shared.heap ⟨hp.push { cls := .type "list_iterator", data := .fields #[.ref a, .int 0 0] }, g, d, tk, os⟩) b ys := Heap.IsTuple.push e2 _
    wp_walk using wpAny_pyIter_list q1, wpAny_pyIter_tuple q2
    exact ⟨_, rfl, h⟩
section
variable {prog : Program} {w : World} {A : Around} {E : Value → Shared → Prop} {s : Shared}
theorem call_lt {a b : Addr} {xs ys : Array Value} {Q : Value → Shared → Prop} (e1 : s.heap.IsList a xs) (e2 : s.heap.IsTuple b ys)
    (h : ∀ h', StX (s.heap.objs.size + 4) (s.heap.objs.size + 2) (s.heap.objs.size + 3) s.heap.objs.size (s.heap.objs.size + 1) a b false true 0 h' → (∀ c o, s.heap.get? c = some o → h'.get? c = some o) → Q (.ref (s.heap.objs.size + 4)) { s with heap := h' }) :
    wpAny (model prog w) A (call (.type "zip") [.ref a, .ref b]) Q E s := by
  refine callType_new F.called_zip (by decide) (F.typeCall_zip_2 _ _) (F.newCall_zip_2 _ _) (fun obj => F.args_object_init_3 obj _ _) F.entry_zip_new (meets_x a b xs ys) ⟨e1, e2, ?_⟩
  have z1 : (hx1 s.heap a).objs.size = s.heap.objs.size + 1 := Heap.size_push ..
  have z2 : (hx2 s.heap a b).objs.size = s.heap.objs.size + 2 := by rw [Heap.size_push, z1]
  have z3 : (hx3 s.heap a b).objs.size = s.heap.objs.size + 3 := by rw [Heap.size_push, z2]
  have z4 : (hx4 s.heap a b).objs.size = s.heap.objs.size + 4 := by rw [Heap.size_push, z3]
  have g5 : (hx5 s.heap a b).get? (hx4 s.heap a b).objs.size = some _ := Heap.get?_push_size _ rfl
  have g4 : (hx5 s.heap a b).get? (hx3 s.heap a b).objs.size = some _ := Heap.get?_push_of_some _ (Heap.get?_push_size _ rfl)
  have g3 : (hx5 s.heap a b).get? (hx2 s.heap a b).objs.size = some _ := Heap.get?_push_of_some _ (Heap.get?_push_of_some _ (Heap.get?_push_size _ rfl))
  have g2 : (hx5 s.heap a b).get? (hx1 s.heap a).objs.size = some _ := Heap.get?_push_of_some _ (Heap.get?_push_of_some _ (Heap.get?_push_of_some _ (Heap.get?_push_size _ rfl)))
  have g1 : (hx5 s.heap a b).get? s.heap.objs.size = some _ := Heap.get?_push_of_some _ (Heap.get?_push_of_some _ (Heap.get?_push_of_some _ (Heap.get?_push_of_some _ (Heap.get?_push_size _ rfl))))
  show _ ∧ _
  rw [z2, z3, z4] at g5
  rw [z1, z2] at g3
  rw [z3] at g4
  rw [z1] at g2
  rw [z4]
  exact ⟨⟨_, g5, rfl⟩, h _ ⟨g5, g3, ⟨[.none, .none], g4, rfl⟩, ⟨_, g1, rfl, rfl⟩, ⟨_, g2, rfl, rfl⟩⟩ fun c o x => Heap.get?_push_of_some _ (Heap.get?_push_of_some _ (Heap.get?_push_of_some _ (Heap.get?_push_of_some _ (Heap.get?_push_of_some _ x))))⟩
theorem call_x {a b : Addr} {t1 t2 : Bool} {xs ys : Array Value} {Q : Value → Shared → Prop} (ht : t1 = true → t2 = true) (e1 : ∀ it, SqAt ⟨it, a, xs, t1⟩ s.heap) (e2 : ∀ it, SqAt ⟨it, b, ys, t2⟩ s.heap)
    (h : ∀ h', StX (s.heap.objs.size + 4) (s.heap.objs.size + 2) (s.heap.objs.size + 3) s.heap.objs.size (s.heap.objs.size + 1) a b t1 t2 0 h' → (∀ c o, s.heap.get? c = some o → h'.get? c = some o) → Q (.ref (s.heap.objs.size + 4)) { s with heap := h' }) :
    wpAny (model prog w) A (call (.type "zip") [.ref a, .ref b]) Q E s := by
  cases t1 <;> cases t2
  · exact PySem.call_zip_2 (e1 0) (e2 0) fun h' hz hTI hTO h1 h2 _ hk => h h' ⟨hz, hTI, ⟨[.none, .none], hTO, rfl⟩, h1, h2⟩ hk
  · exact call_lt (e1 0) (e2 0) h
  · cases ht rfl
  · exact RZ.call_zipT (e1 0) (e2 0) fun h' hz hTI hTO h1 h2 _ hk => h h' ⟨hz, hTI, ⟨[.none, .none], hTO, rfl⟩, h1, h2⟩ hk
end
theorem sq_lt {p : Zp} {h : Heap} (x : SqAt p h) : @LT.lt Nat _ p.l h.objs.size := by
  unfold SqAt at x
  split at x
  · obtain ⟨o, e, _⟩ := x; exact Heap.lt_size e
  · obtain ⟨o, e, _⟩ := x; exact Heap.lt_size e
theorem nn {a b : Nat} (h : ¬ a = b) : @Ne Addr a b := h
theorem ap_x {n a b : Nat} {t1 t2 : Bool} {X Y : Array Value} (ha : a < n) (hb : b < n) : Ap (n + 4) (n + 2) (n + 3) (two n (n + 1) a b t1 t2 X Y) := by
  refine ⟨nn (by omega), nn (by omega), nn (by omega), fun p m => ?_, ?_, fun p m => ?_⟩
  · simp only [List.mem_cons, List.not_mem_nil, or_false] at m
    rcases m with rfl | rfl <;> refine ⟨nn ?_, nn ?_, nn ?_⟩ <;> (try dsimp only) <;> omega
  · show List.Nodup (α := Nat) _
    simp only [List.map_cons, List.map_nil, List.nodup_cons, List.mem_cons, List.not_mem_nil, or_false, not_false_eq_true, List.nodup_nil, and_true]
    omega
  · simp only [List.mem_cons, List.not_mem_nil, or_false] at m
    rcases m with rfl | rfl <;> refine ⟨nn ?_, nn ?_, fun q mq => nn ?_⟩ <;> (try dsimp only) <;> first | omega | (simp only [List.mem_cons, List.not_mem_nil, or_false] at mq; rcases mq with rfl | rfl <;> (try dsimp only) <;> omega)
def iZipX (K : PySem.W.Frag) (ta : TA) : TI := fun σ H R => ta σ H fun vs H1 => ∃ a b t1 t2 xs ys, vs = [.ref a, .ref b] ∧ (t1 = true → t2 = true) ∧ SqX t1 K H1 a xs ∧ SqX t2 K H1 b ys ∧ R (ItzX K t1 t2 a b) H1
theorem pi_zipX {X : Cx} {e e2 : Expr} {ta : TA} {p pos tpos : Pos} {elts : List Expr} {kk : Nat} (hg : Gl X "zip") (hm : X.mg "zip" = none) (ha : PA X [e, e2] ta)
    (hs : starEach [e, e2] X.env = (false, eval e X.env) :: starEach [e2] X.env := by rfl) (hpl : (backTo pos (starEach [e2] X.env)).any (·.1) = false := by rfl) :
    PI X (.Tuple elts kk tpos) (.Call (.Name "zip" p) [e, e2] [] pos) (iZipX X.K ta) := by
  refine ⟨fun pins s σ H R I h => Call_ (ld_blt I hg hm PyProof.Rows.boot_zip (PyProof.Rows.callWith_type1 (thn (ha.run pos pins s σ H _ I h) ?_) hs hpl))⟩
  rintro us s1 ⟨vs, H1, I1, r1, a, b, t1, t2, xs, ys, ex, ht, hqx, hqy, q⟩
  subst ex
  obtain ⟨its, rv, p1⟩ := sqx I1 hqx
  obtain ⟨itt, rv2, p2⟩ := sqx I1 hqy
  have eu : us = [.ref a, .ref b] := by
    cases r1 with
    | cons r rr =>
      cases rr with
      | cons r' rr =>
        cases rr
        cases r
        cases r'
        rfl
  subst eu
  refine call_x ht p1 p2 fun h' st hk => wpAny_pyIter_zip st.1 ?_
  have I2 : Inv X pins σ H1 { s1 with heap := h' } := I1.kept (t' := s1.toks) hk
  refine ⟨s1.heap.objs.size + 4, [s1.heap.objs.size + 4, s1.heap.objs.size + 2, s1.heap.objs.size + 3, s1.heap.objs.size, s1.heap.objs.size + 1], _, _, H1, rfl, I2, turn_x fun X Y => ap_x (sq_lt (p1 0)) (sq_lt (p2 0)), st, fun c hcm => ?_, q⟩
  have hle : s1.heap.objs.size ≤ c := by
    simp only [List.mem_cons, List.not_mem_nil, or_false] at hcm
    rcases hcm with z | z | z | z | z
    · rw [z]; exact Nat.le_add_right _ _
    · rw [z]; exact Nat.le_add_right _ _
    · rw [z]; exact Nat.le_add_right _ _
    · rw [z]; exact Nat.le_refl _
    · rw [z]; exact Nat.le_add_right _ _
  exact I1.fpOk hle (I1.hok.fresh hle)
end ZM
namespace DL
open PySem PySem.Spec L2
variable [TbC]
/-- a list or a tuple, its items -/
theorem sq_ok {B : Option Addr} {K : PySem.W.Frag} {S : Hp} {t : Bool} {a : Addr} {vs : List V} (h : S a = some (if t then .tup vs else .lst vs)) : ∀ {H : Hp}, (∀ b o, S b = some o → H b = some o) → ZM.SqX t K H a vs := fun s => by
  have := s _ _ h
  cases t
  · exact SqL.of this
  · exact SqT.of this
theorem itzX_ok {B : Option Addr} {K : PySem.W.Frag} {S : Hp} {t1 t2 : Bool} {a b : Addr} {vs ws : List V} {xs ys : List D} (h : S a = some (if t1 then .tup vs else .lst vs)) (h2 : S b = some (if t2 then .tup ws else .lst ws)) (l : RepL B S xs vs) (l2 : RepL B S ys ws) (hl : xs.length ≤ ys.length) : ItOk B (ZM.ItzX K t1 t2 a b) S (pairs xs ys) := fun c hB i σ H S1 env k s => by
  subst hB
  have hH : ZM.SqX t1 K H a vs := sq_ok (B := c.B) h fun b o e => k.kf.sub _ _ (s _ _ e)
  have hH2 : ZM.SqX t2 K H b ws := sq_ok (B := c.B) h2 fun b o e => k.kf.sub _ _ (s _ _ e)
  refine ⟨fun d e => ?_, fun hh => ⟨vs, ws, hH, hH2, by rw [pairs_length] at hh; rw [l.length]; omega⟩⟩
  obtain ⟨x, y, ex, ey, rfl⟩ := pairs_get _ _ _ _ e
  obtain ⟨v, ev, r⟩ := l.get ex
  obtain ⟨w, ew, r2⟩ := l2.get ey
  refine ⟨⟨vs, ws, v, w, hH, hH2, ev, ew⟩, fun z H' yl => ?_⟩
  obtain ⟨T, x', y', rfl, hT, rfl, hx, hy⟩ := yl
  have e1 := hx vs hH
  rw [ev] at e1
  cases e1
  have e2 := hy ws hH2
  rw [ew] at e2
  cases e2
  obtain ⟨k', s', r'⟩ := put_tup k (repL_cons (rep_mono s _ _ r) (repL_cons (rep_mono s _ _ r2) repL_nil)) hT
  exact ⟨_, k', s', r'⟩
def fZipX (R : List D → Prop) : List D → Prop
  | [.lst xs, .lst ys] => xs.length ≤ ys.length ∧ R (pairs xs ys)
  | [.lst xs, .tup ys] => xs.length ≤ ys.length ∧ R (pairs xs ys)
  | [.tup xs, .tup ys] => xs.length ≤ ys.length ∧ R (pairs xs ys)
  | _ => False
theorem w_fZipX_ll {R : List D → Prop} {xs ys : List D} : fZipX R [.lst xs, .lst ys] = (xs.length ≤ ys.length ∧ R (pairs xs ys)) := rfl
theorem w_fZipX_lt {R : List D → Prop} {xs ys : List D} : fZipX R [.lst xs, .tup ys] = (xs.length ≤ ys.length ∧ R (pairs xs ys)) := rfl
theorem w_fZipX_tt {R : List D → Prop} {xs ys : List D} : fZipX R [.tup xs, .tup ys] = (xs.length ≤ ys.length ∧ R (pairs xs ys)) := rfl
def xZipX (Tl : DTA) : DTI := fun env R Rx => Tl env (fZipX R) Rx
theorem w_xZipX {Tl : DTA} {env : En} {R : List D → Prop} {Rx : Er → Prop} : xZipX Tl env R Rx = Tl env (fZipX R) Rx := rfl
theorem i_zipX {X : Cx} {E : XK} {a b : Expr} {Tl : DTA} {p pos tpos : Pos} {elts : List Expr} {kk : Nat} (ha : DA X E [a, b] Tl) (hm : X.mg "zip" = none) (hg : Gl X "zip" := by rfl)
    (hs : starEach [a, b] X.env = (false, eval a X.env) :: starEach [b] X.env := by rfl) (hpl : (backTo pos (starEach [b] X.env)).any (·.1) = false := by rfl) :
    DI X E (.Tuple elts kk tpos) (.Call (.Name "zip" p) [a, b] [] pos) (xZipX Tl) := by
  obtain ⟨t, pa, s⟩ := ha
  refine ⟨_, ZM.pi_zipX hg hm pa hs hpl, fun c σ H S env R Rx x k t Rr q => s c σ H S env _ Rx x k t _ fun vs H1 S1 ds k1 s1 r1 t1 => ?_⟩
  unfold fZipX at t1
  split at t1 <;> try exact t1.elim
  all_goals obtain ⟨v, w, rfl, r2, r3⟩ := rep2 r1
  · obtain ⟨a, us, rfl, h1, hS, l⟩ := lst_of k1 r2
    obtain ⟨b, ws, rfl, h2, hS2, l2⟩ := lst_of k1 r3
    exact ⟨a, b, false, false, us, ws, rfl, fun z => z, SqL.of h1, SqL.of h2, q _ H1 S1 _ k1 s1 (itzX_ok hS hS2 l l2 t1.1) t1.2⟩
  · obtain ⟨a, us, rfl, h1, hS, l⟩ := lst_of k1 r2
    obtain ⟨b, ws, rfl, h2, hS2, l2⟩ := tup_of k1 r3
    exact ⟨a, b, false, true, us, ws, rfl, fun _ => rfl, SqL.of h1, SqT.of h2, q _ H1 S1 _ k1 s1 (itzX_ok hS hS2 l l2 t1.1) t1.2⟩
  · obtain ⟨a, us, rfl, h1, hS, l⟩ := tup_of k1 r2
    obtain ⟨b, ws, rfl, h2, hS2, l2⟩ := tup_of k1 r3
    exact ⟨a, b, true, true, us, ws, rfl, fun z => z, SqT.of h1, SqT.of h2, q _ H1 S1 _ k1 s1 (itzX_ok hS hS2 l l2 t1.1) t1.2⟩
end DL
namespace L2
open PySem PySem.Spec PyProof.Rows
theorem tuple_mulS (l : Addr) (items : Array Value) (n : Nat) (dd : Option Addr) (sl : Array (Option Value)) (u : Tok) :
    Meets (Builtin.«tuple.__mul__» ⟨[.ref l, .int 1 u], []⟩) (fun _ R s => s.heap.get? l = some { cls := .type "tuple", dict := dd, data := .seq items n, slots := sl } ∧ R (.ok (.ret (Value.ref l))) s) :=
  .of_wp fun prog w A R s h => by
    obtain ⟨hp, g, d, tk, os⟩ := s
    obtain ⟨hl, h⟩ := h
    have f1 := AutoSeq1.idx_int
    wp_walk using wpAny_loadPart' hl
    exact ⟨_, rfl, h⟩
def rRepT1 (K : PySem.W.Frag) : R2 := fun x y H Q => ∃ l xs, x = .ref l ∧ y = .int 1 ∧ SqT K H l xs ∧ Q (.ref l) H
section
variable {X : Cx}
theorem op_repT1 : OpR X (binaryOp .Mult) (rRepT1 X.K) := by
  intro pins s σ H x y v u Q I rx ry h
  obtain ⟨l, xs, rfl, rfl, hT, q⟩ := h
  cases rx
  obtain ⟨t, rfl⟩ := ry
  obtain ⟨its, r, ⟨⟨cls, dd, data, sl⟩, ho, hc, n, hd⟩, hs⟩ := I.tuple hT
  simp only at hc hd
  subst hc hd
  refine wpAny_binaryOp_repeat_ref (T := "tuple") (U := "int") (by decide) ⟨_, ho, rfl⟩ (fun s' => typeIs_int s' 1 t) noFill_tuple_mul F.fills_int_mul F.slot_int_rmul repeat_tuple F.slot_int_index.lookup
    (call_meets F.slot_int_rmul (typeIs_int s 1 t) F.entry_int_rmul (F.args_int_rmul_2 _ _) (int_rmul_tuple 1 t l its.toArray n dd sl)
      ⟨ho, rfl, ⟨_, ho, rfl⟩, call_meets F.slot_tuple_mul ⟨_, ho, rfl⟩ F.entry_tuple_mul (F.args_tuple_mul_2 _ _) (tuple_mulS l its.toArray n dd sl t) ⟨ho, ?_⟩⟩)
  exact ⟨.ref l, H, I, rfl, q⟩
end
end L2
namespace DL
open PySem PySem.Spec L2
section
variable [TbC] {X : Cx} {E : XK} {Ta Tb : DT} {a b : Expr} {pos : Pos}
def opMulT : DOp
  | .tup xs, .int k, R => xs ≠ [] ∧ 1 ≤ k ∧ k ≤ 1000 ∧ xs.length ≤ 1000 ∧ R (.tup (List.replicate k.toNat xs).flatten)
  | _, _, _ => False
theorem d_mulT (ha : DE X E a Ta) (hb : DE X E b Tb) : DE X E (.BinOp a .Mult b pos) (xOp opMulT Ta Tb) := by
  refine d_op (op_repT.or op_repT1) ?_ ha hb
  intro c σ H S env x y v u R k r1 r2 t Q q
  cases x <;> cases y <;> try exact (show False from t).elim
  rename_i xs i
  obtain ⟨t1, t2, t3, t4, t⟩ := t
  obtain ⟨a, vs, e1, h1, hS, l1⟩ := tup_of k r1
  by_cases hi : i = 1
  · subst hi
    have e2 : (List.replicate (1 : Int).toNat xs).flatten = xs := by
      show (List.replicate 1 xs).flatten = xs
      simp
    rw [e2] at t
    subst e1
    exact .inr ⟨a, vs, rfl, r2, SqT.of h1, q _ H S (.tup xs) k (Same.refl S) ⟨a, vs, rfl, hS, l1⟩ t⟩
  · refine .inl ⟨a, i, vs, e1, r2, SqT.of h1, fun e => t1 (List.length_eq_zero_iff.mp (by have := l1.length; rw [e] at this; simpa using this.symm)), by omega, t3, by rw [l1.length]; exact t4, fun p hp => ?_⟩
    obtain ⟨k', s', r'⟩ := put_tup k (l1.rep _) hp
    exact q _ _ _ _ k' s' r' t
end
end DL
namespace DL
open PySem PySem.Spec L2
variable [TbC]
mutual
def D.nos : D → Bool
  | .lst _ => false
  | .tup xs => nosL xs
  | .non | .bl _ | .int _ | .str _ | .ty _ | .adr _ | .bag | .fn _ _ _ | .obj _ _ _ | .exc _ _ _ _ _ | .dct _ _ | .dcT _ _ => true
def nosL : List D → Bool
  | [] => true
  | x :: xs => x.nos && nosL xs
end
theorem w_nos_tup {xs : List D} : D.nos (.tup xs) = nosL xs := rfl
theorem w_nos_non : D.nos .non = true := rfl
theorem w_nos_bl {b : Bool} : D.nos (.bl b) = true := rfl
theorem w_nos_int {i : Int} : D.nos (.int i) = true := rfl
theorem w_nos_str {s : Str} : D.nos (.str s) = true := rfl
theorem w_nos_obj {C : Addr} {ks : List Str} {xs : List D} : D.nos (.obj C ks xs) = true := rfl
theorem w_nosL_nil : nosL [] = true := rfl
theorem w_nosL_cons {x : D} {xs : List D} : nosL (x :: xs) = (x.nos && nosL xs) := rfl
theorem nosL_of : ∀ {xs : List D}, (∀ x ∈ xs, x.nos = true) → nosL xs = true
  | [], _ => rfl
  | x :: xs, h => by
    rw [w_nosL_cons, h x List.mem_cons_self, nosL_of fun y hy => h y (List.mem_cons_of_mem _ hy)]
    rfl
mutual
theorem nos_tr {B : Option Addr} {S H : Hp} : ∀ (d : D) (v : V), d.nos = true → Rep B S d v → RepT B S H d.tr v []
  | .lst _, v, z, _ => (Bool.false_ne_true z).elim
  | .tup xs, v, z, r => by
    rw [Rep] at r
    obtain ⟨a, vs, e, ea, l⟩ := r
    rw [D.tr, RepT]
    exact ⟨a, vs, e, ea, nos_trs xs vs z l⟩
  | .non, v, _, r => ⟨r, rfl⟩
  | .bl _, v, _, r => ⟨r, rfl⟩
  | .int _, v, _, r => ⟨r, rfl⟩
  | .str _, v, _, r => ⟨r, rfl⟩
  | .ty _, v, _, r => ⟨r, rfl⟩
  | .adr _, v, _, r => ⟨r, rfl⟩
  | .bag, v, _, r => ⟨r, rfl⟩
  | .fn _ _ _, v, _, r => ⟨r, rfl⟩
  | .obj _ _ _, v, _, r => ⟨r, rfl⟩
  | .exc _ _ _ _ _, v, _, r => ⟨r, rfl⟩
  | .dct _ _, v, _, r => ⟨r, rfl⟩
  | .dcT _ _, v, _, r => ⟨r, rfl⟩
theorem nos_trs {B : Option Addr} {S H : Hp} : ∀ (xs : List D) (vs : List V), nosL xs = true → RepL B S xs vs → RepTL B S H (D.trs xs) vs []
  | [], vs, _, r => by
    rw [repL_nil_of r, D.trs, RepTL]
    exact ⟨rfl, rfl⟩
  | x :: xs, vs, z, r => by
    have z : (x.nos && nosL xs) = true := z
    rw [Bool.and_eq_true] at z
    obtain ⟨v, ws, rfl, r1, l⟩ := repL_cons_of r
    rw [D.trs, RepTL]
    exact ⟨v, ws, [], [], rfl, nos_tr x v z.1 r1, nos_trs xs ws z.2 l, rfl⟩
end
section
variable {X : Cx} {E : XK} {e : Expr} {T : DT} {TF : DTF}
def xNos (T : DT) : DT := fun env R Rx => T env (fun d => d.nos = true ∧ R d) Rx
theorem w_xNos {env : En} {R : D → Prop} {Rx : Er → Prop} : xNos T env R Rx = T env (fun d => d.nos = true ∧ R d) Rx := rfl
/-- a new list of things without lists -/
def xFNos (TF : DTF) : DT := fun env R Rx => TF env (fun ds => nosL ds = true ∧ R (.lst ds)) Rx
theorem w_xFNos {env : En} {R : D → Prop} {Rx : Er → Prop} : xFNos TF env R Rx = TF env (fun ds => nosL ds = true ∧ R (.lst ds)) Rx := rfl
theorem u_ofFNos (h : DF X E e TF) : DU X E e (xFNos TF) := by
  obtain ⟨t, p, s⟩ := h
  refine ⟨t, p, fun c σ H S env R Rx x k h Q q => s c σ H S env _ Rx x k h Q fun p vs H1 S1 ds k1 s1 n0 f n2 e1 l1 r1 => ?_⟩
  refine q _ H1 S1 [p] (.lst ds) k1 s1 ?_ (List.nodup_cons.mpr ⟨by simp, List.nodup_nil⟩) (fun a m => ?_) r1.2
  · rw [D.tr, RepT]
    exact ⟨p, vs, [], rfl, e1, nos_trs ds vs r1.1 l1, rfl⟩
  · rw [List.mem_singleton.mp m]
    exact ⟨n2, n0, f⟩
/-- .. as a list of its own -/
def xNFol (T : DT) : DTF := fun env R Rx => T env (fun d => match d with
  | .lst ds => nosL ds = true ∧ R ds
  | _ => False) Rx
theorem w_xNFol {env : En} {R : List D → Prop} {Rx : Er → Prop} : xNFol T env R Rx = T env (fun d => match d with
  | .lst ds => nosL ds = true ∧ R ds
  | _ => False) Rx := rfl
end
end DL
namespace DL
open PySem PySem.Spec L2
variable [TbC]
structure Dfk (K : PySem.W.Frag) (mg : Str → Option Value) (x : Str) (st : Stmt) (kws : List (Str × V)) where
  f : Addr
  fd : FuncData
  F : FnS K x x st [] kws f fd
  g : mg x = some (.ref f)
def Dfk.st {K : PySem.W.Frag} {mg : Str → Option Value} {x : Str} {st : Stmt} {kws : List (Str × V)} (D : Dfk K mg x st kws) : Dst K x x st kws := ⟨D.f, D.fd, D.F⟩
section
variable {X : Cx} {E : XK} {CX : CXT} {k : Nat} {f : Addr} {fd : FuncData} {ps ks : List Str} {F : Spec} {x : Str} {p pos : Pos} {gD : List D → List D → List D} {kw : Keyword} {kws : List Keyword} {Tk : DTA}
theorem d_callUM {n : Nat} {e : Expr} {es : List Expr} {Tl : DTA} (G : FnOk X.prog X.w X.K X.mg X.base CX k f fd ps (spU F)) (hr : Room k X.A) (hm : X.mg x = some (.ref f)) (hk : PySem.W.keepIn X.K (.ref f) = true) (hb : KBm X.K fd ps n ks gD) (hx : Passes CX X E) (ha : DA X E (e :: es) Tl) (hkw : DK X E (kw :: kws) Tk)
    (hg : Gl X x := by rfl) (hdb : (x == ("__debug__" : Str)) = false := by decide) (he : starEach (e :: es) X.env = (false, eval e X.env) :: starEach es X.env := by rfl)
    (hall : (backToKw pos (keywordEach (kw :: kws) X.env)).all (·.1.isSome) = true := by rfl) (hks : (backToKw pos (keywordEach (kw :: kws) X.env)).filterMap (·.1) = ks := by rfl)
    (hpl : ((backTo pos (starEach (e :: es) X.env)).any (·.1) || (backToKw pos (keywordEach (kw :: kws) X.env)).any (·.1.isNone)) = false := by rfl) :
    DU X E (.Call (.Name x p) (e :: es) (kw :: kws) pos) (xCallM F n ks.length gD Tl Tk) := by
  obtain ⟨t, pa, sa⟩ := ha
  obtain ⟨tk, pk, sk⟩ := hkw
  obtain ⟨g, gV, hb, hrep⟩ := hb
  refine ⟨fun σ H Q => t σ H fun vs H1 => tk σ H1 fun zs H2 => vs.length = n ∧ zs.length = ks.length ∧ spU F (gV vs zs) H2 Q E, ⟨fun pins s σ H Q I h => ?_⟩, fun c σ H S env R Rx x k t Q q => sa c σ H S env _ Rx x k t _ fun vs H1 S1 xs k1 s1 l1 t1 => sk c σ H1 S1 env _ Rx x k1 t1 _ fun ws H2 S2 zs k2 s2 l2 t2 => ?_⟩
  · refine wpAny_Call_Name_kw (ld_glob I hg hm ?_ hdb)
    refine PySem.W.callWith_KW (first := []) (h₀ := X.base) I.ok.mod.kin hk hall ?_ hpl he
    refine thn (pa.run pos pins _ σ H _ I h) fun us s1 ⟨vs, H1, I2, r, q⟩ => thn (pk.run pos pins s1 σ H1 _ I2 q) fun ws s2 ⟨zs, H2, I3, rz, l0, l2, q2⟩ => ⟨I3.kIn, ?_⟩
    rw [hks]
    exact run_fnN G hr hb hx I3 r rz l0 l2 q2
  · obtain ⟨t0, t3, t2⟩ := t2
    exact ⟨by rw [l1.length]; exact t0, by rw [l2.length]; exact t3, sp_callU k2 x (hrep _ _ xs zs vs ws t0 t3 (repL_mono s2 _ _ l1) l2) t2 fun v H' S' as d k' s' r' n' g' t' => q v H' S' as d k' ((s1.trans s2).trans s') r' n' g' t'⟩
end
/-- frozen where it is the frame's own; a value stays as it is -/
def zFrzV (i : Nat) (T : DTS) : DTS := fun Q env => match env[i]? with
  | some (some (.own xs)) => T Q (put i (.lst xs) env)
  | _ => T Q env
theorem w_frzV_own {T : DTS} {i : Nat} {Q : DEnds} {env : En} {xs : List D} (h : env[i]? = some (some (.own xs))) : zFrzV i T Q env = T Q (put i (.lst xs) env) := by
  unfold zFrzV
  rw [h]
theorem w_frzV_val {T : DTS} {i : Nat} {Q : DEnds} {env : En} {d : D} (h : env[i]? = some (some (.val d))) : zFrzV i T Q env = T Q env := by
  unfold zFrzV
  rw [h]
end DL
namespace DL
open PySem PySem.Spec L2 PyProof.Rows LamX
variable [TbC]
/-- lambda i of the text: closed, its parameters ps, no defaults -/
structure LamC (i : Nat) (ps : List Str) : Prop where
  kind : (TbC.lq i).scope.kind = .function
  co : (TbC.lq i).scope.isCoroutine = false
  gen : (TbC.lq i).scope.isGenerator = false
  names : ∀ y ∈ (TbC.lq i).scope.names, y.2 ≠ .cell ∧ y.2 ≠ .free
  par : ∀ y ∈ ps, (TbC.lq i).scope.names.lookup y = some .local
  nd : ps.Nodup
  dfl : (TbC.lq i).dfl = []
  bind : ∀ (cl : List (Str × Addr)) (doc pm cdv ctv : Value) (s : Shared) (us : List Value), us.length = ps.length →
    BindsTo s (PySem.W.kdv_fn "<lambda>" (TbC.lq i).qual (TbC.lq i).params (.expr (TbC.lq i).body) (TbC.lq i).scope cl .none doc pm cdv ctv) ⟨us, []⟩ (ps.zip us)
theorem lamC_start {P : Program} {w : World} {K : PySem.W.Frag} {mg : Str → Option Value} {base : Heap} {A : Around} {outer : List Env} {s1 : Shared} {HZ : Hp} {E : XK} {ps : List Str} {i : Nat} {cl : List (Str × Addr)} {f c' : Addr} {vs : List V} {us : List Value} {h₁ : Heap} {tk : Nat}
    (L : LamC i ps) (e0 : Env0 P w K mg base A outer s1 HZ) (hd : A.handled = none) (hl : vs.length = ps.length) (r : Vals vs us)
    (hns : h₁.Ns s1.heap.objs.size fun y => (ps.zip us).reverse.lookup y) (kp : ∀ b o, s1.heap.get? b = some o → h₁.get? b = some o) :
    L2.Inv (lamCxB P w K mg base A outer s1 HZ E ps (TbC.lq i) cl f c') [] (vs.map some) HZ { s1 with heap := h₁, toks := tk } := by
  have cm : ∀ {y c}, (cloFrom cl (TbC.lq i).scope.names []).lookup y = some c → False := fun {y c} e => by
    rcases cloFrom_mem (PySem.mem_of_lookup e) with hm | ⟨h1, h2⟩
    · cases hm
    · exact (L.names _ h1).2 rfl
  have noA : ∀ b : Addr, b ∉ (lamCxB P w K mg base A outer s1 HZ E ps (TbC.lq i) cl f c').ex := fun b z => absurd (show b ∈ ([] : List Addr) from z) (by simp)
  refine ⟨⟨e0.mod, L.kind, rfl, rfl, Nat.le_refl _, fun y z c e1 e2 => (cm e1).elim, fun y hy => ?_, fun y c z _ => ?_, fun _ => hd, Around.frames_deeper e0.frames, .inr ⟨rfl, rfl⟩, fun b z => absurd z (noA b), e0.bs, e0.bsz, fun b _ _ => noA b,
      fun b z => absurd z (noA b), e0.funs, e0.frf⟩,
    rfl, e0.bare, Un.kept kp, ⟨_, hns, fun t y v e1 e2 e3 => ?_⟩, fun y c e => ?_, e0.hok.fresh (Nat.le_refl _), fun y c e => ?_, fun q hq => absurd (show q ∈ ([] : List (Addr × Obj)) ++ [] from hq) (by simp), e0.hok.kept kp, ?_⟩
  · have hy : (TbC.lq i).scope.names.lookup y = some .cell ∨ (TbC.lq i).scope.names.lookup y = some .free := hy
    rcases hy with hy | hy
    · exact absurd rfl (L.names _ (PySem.mem_of_lookup hy)).1
    · exact absurd rfl (L.names _ (PySem.mem_of_lookup hy)).2
  · have z : false = true := z
    cases z
  · have e1 : ps[t]? = some y := e1
    rw [List.getElem?_map] at e2
    cases e4 : vs[t]? with
    | none => rw [e4] at e2; cases e2
    | some a =>
      rw [e4] at e2
      cases e2
      obtain ⟨u, hu, rv⟩ := r.get e4
      exact ⟨u, rv, .inl ⟨L.par y (List.mem_of_getElem? e1), EXS.lookup_rev L.nd e1 hu⟩⟩
  · exact (cm e).elim
  · exact (cm e).elim
  · show (vs.map some).length = ps.length
    rw [List.length_map, hl]
section
variable {X : Cx} {E : XK} {kl : Nat} {ps : List Str} {x : Str} {p pos : Pos} {e : Expr} {es : List Expr} {Tl : DTA} {T : DT}
theorem repL_at {B : Option Addr} {S : Hp} : ∀ {ds : List D} {vs : List V} {t : Nat} {d : D}, RepL B S ds vs → ds[t]? = some d → ∃ v, vs[t]? = some v ∧ Rep B S d v
  | [], _, t, d, _, e => by simp at e
  | d0 :: ds, vs, t, d, r, e => by
    obtain ⟨v, ws, e2, r1, r2⟩ := repL_cons_of r
    subst e2
    cases t with
    | zero =>
      cases e
      exact ⟨v, rfl, r1⟩
    | succ t => exact repL_at (ds := ds) (t := t) r2 (by simpa using e)
def argE (xs : List D) : En := xs.map fun d => some (.val d)
theorem w_argE {d : D} {ds : List D} : argE (d :: ds) = some (.val d) :: argE ds := rfl
theorem w_argE0 : argE [] = [] := rfl
/-- slot j holds lambda i -/
def xCallFn (j i n : Nat) (Tl : DTA) (T : DT) : DT := fun env R Rx => (∃ cl z, env[j]? = some (some (.val (.fn i cl z)))) ∧ Tl env (fun xs => xs.length = n ∧ T (argE xs) R Rx) Rx
theorem w_callFn {j i n : Nat} {env : En} {R : D → Prop} {Rx : Er → Prop} : xCallFn j i n Tl T env R Rx = ((∃ cl z, env[j]? = some (some (.val (.fn i cl z)))) ∧ Tl env (fun xs => xs.length = n ∧ T (argE xs) R Rx) Rx) := rfl
theorem d_callFn (j i : Nat) (L : LamC i ps)
    (hT : ∀ (A : Around) (outer : List Env) (s : Shared) (H : Hp) (E : XK) (f c' : Addr) (cl : List (Str × Addr)), Room kl (A.deeper (lamEnvB (TbC.lq i) cl s.heap.objs.size f c')) → DE (lamCxB X.prog X.w X.K X.mg X.base A outer s H E ps (TbC.lq i) cl f c') E (TbC.lq i).body T)
    (hr : Room (kl + 1) X.A) (hx : Passes (L2.CX X.prog X.w) X E) (ha : DA X E (e :: es) Tl)
    (hN : X.N[j]? = some x := by rfl) (hv : Vis X.env.scope x := by first | exact Or.inl rfl | exact Or.inr (Or.inl rfl) | exact Or.inr (Or.inr rfl)) (hdb : (x == ("__debug__" : Str)) = false := by decide) (hcd : (x == ("__classdict__" : Str)) = false := by decide)
    (he : starEach (e :: es) X.env = (false, eval e X.env) :: starEach es X.env := by rfl) (hpl : (backTo pos (starEach es X.env)).any (·.1) = false := by rfl) :
    DE X E (.Call (.Name x p) (e :: es) [] pos) (xCallFn j i ps.length Tl T) := by
  obtain ⟨t, pa, sm⟩ := ha
  refine ⟨fun σ H Q => ∃ f, σ[j]? = some (some (.ref f)) ∧ (∃ cl dV c', H f = some (LamO f i cl dV c')) ∧ t σ H fun vs H1 => ∃ (cl : List (Str × Addr)) (dV : Value) (c' : Addr) (c : Fm) (S : Hp) (xs : List D) (R : D → Prop) (Rx : Er → Prop),
      c.H0 = H1 ∧ c.S0 = S ∧ Kf c H1 S ∧ H1 f = some (LamO f i cl dV c') ∧ H1 c' = some (CodeO c' (TbC.lq i).qual) ∧ DfOk S dV (TbC.lq i).dfl ∧ RepL c.B S xs vs ∧ xs.length = ps.length ∧ T (argE xs) R Rx ∧
      (∀ v H' S' d, Kf c H' S' → Rep c.B S' d v → R d → Q v H') ∧ XOk c E Rx, ⟨fun pins s σ H Q I h => ?_⟩, fun c σ H S env R Rx x k t Q q => ?_⟩
  · obtain ⟨f, hs, ⟨cl0, dV0, c0, hf0⟩, h⟩ := h
    refine wpAny_Call_Name_kw (thn ((pe_var (pos := p) (i := j) hN hv hdb hcd).run pins s σ H (fun v H1 => v = .ref f ∧ H1 = H) I ⟨.ref f, hs, rfl, rfl⟩) fun u s1 ⟨v, H1, I1, r1, q1⟩ => ?_)
    obtain ⟨ev, eH⟩ := q1
    subst ev
    rw [eH] at I1
    obtain rfl : u = Value.ref f := r1
    have fnAt : ∀ {s : Shared} {H : Hp} {cl dV c'}, L2.Inv X pins σ H s → H f = some (LamO f i cl dV c') → PySem.W.FnAt f s.heap := fun {s H cl dV c'} I hf => by
      have of0 := I.hok f _ hf
      unfold LamO at of0
      obtain ⟨⟨doc, pm, ctv, of1⟩, _, _⟩ := of0
      exact ⟨_, _, _, _, of1⟩
    refine PySem.W.callWith_F (fnAt I1 hf0) (thn (pa.run pos pins s1 σ H _ I1 h) fun us s2 ⟨vs, H2, I2, r2, cl, dV, c', c, S, xs, R, Rx, h0, hs0, kf, hf, hc, hdf, rl, hlen, hz, hq, xo⟩ => ⟨fnAt I2 hf, ?_⟩) he hpl
    have e0 := I2.env0
    have hlv : vs.length = ps.length := by rw [← hlen]; exact rl.length
    have hlu : us.length = ps.length := by rw [← hlv]; exact (Vals.length r2).symm
    have of0 := I2.hok f _ hf
    unfold LamO at of0
    obtain ⟨⟨doc, pm, ctv, of1⟩, _, _⟩ := of0
    obtain ⟨⟨oc, vs5, t5, hoc, hdc, hvc⟩, _, _⟩ := I2.hok c' _ hc
    have edV : dV = .none := by
      rcases hdf with ⟨_, e2⟩ | ⟨nn, _⟩
      · exact e2
      · exact absurd L.dfl nn
    subst edV
    have hb := L.bind (cloFrom cl (TbC.lq i).scope.names []) doc pm (.ref c') ctv s2 us hlu
    have KX : X.K.In s2.heap := I2.kIn
    have lim : s2.heap.NoLimit := e0.mod.nolimit.keeps fun b o e => (e0.bs b o e).1
    refine wpAny_call (codeAny_mono (R := CR (L2.CX X.prog X.w) X.stack X.prog X.w H2 s2 Q E) ?_ fun r s' hq' => ?_)
    · refine PySem.W.kla_callFunE hr.depth of1 rfl L.co L.gen rfl ⟨c', oc, vs5, t5, rfl, hoc, hdc, hvc⟩ (hb _ _ _ _ ?_)
      refine wpAny_newFunctionEnv (fun y hy => (L.names y hy).1) (fun y hy => L.par y.1 (List.of_mem_zip hy).1) (fun h₁ hns hsb => ⟨lim.fresh _ hsb, ?_⟩) L.kind
      show codeAny _ _ (.expr (TbC.lq i).body (lamEnvB (TbC.lq i) cl s2.heap.objs.size f c')) _ _
      have kp : ∀ b o, s2.heap.get? b = some o → h₁.get? b = some o := fun b o e => hsb.extBut b o (Nat.ne_of_lt (Heap.lt_size e)) (Heap.get?_push_of_some _ e)
      have J : L2.Inv (lamCxB X.prog X.w X.K X.mg X.base X.A X.stack s2 H2 E ps (TbC.lq i) cl f c') [] (vs.map some) H2 { s2 with heap := h₁, toks := s2.toks + (ps.zip us).length } := lamC_start L e0 hr.hd hlv r2 hns kp
      obtain ⟨tb, pb, sb⟩ := hT X.A X.stack s2 H2 E f c' cl (hr.deeper _)
      have kn : Kn c (vs.map some) H2 S (argE xs) := by
        refine ⟨kf, by unfold argE; rw [List.length_map, List.length_map]; exact rl.length.symm, fun t x e => ?_, fun a b x y v u a2 _ e _ _ _ f _ => ?_⟩
        · unfold argE at e
          rw [List.getElem?_map] at e
          obtain ⟨d, ed, e2⟩ := Option.map_eq_some_iff.mp e
          cases e2
          obtain ⟨v, ev, rv⟩ := repL_at rl ed
          refine ⟨v, by rw [List.getElem?_map, ev]; rfl, rv⟩
        · unfold argE at e
          rw [List.getElem?_map] at e
          obtain ⟨d, ed, e2⟩ := Option.map_eq_some_iff.mp e
          cases e2
          exact f
      refine PySem.W.kla_codeExpr (wpAny_mono (pb.run [] _ _ H2 Q J (sb c _ H2 S _ R Rx xo kn hz Q fun v H' S' d k' s' r' z => hq v H' S' d k'.kf r' z)) (fun v s' hq' => ?_) fun e s' hq' => hq')
      obtain ⟨w', H', J', rv, q⟩ := hq'
      exact ⟨w', H', J'.os, J'.bare, J'.base, J'.hok, rv, q⟩
    · cases r with
      | error e => exact hx pins σ H2 s2 e s' I2 hq'
      | ok fl =>
        cases fl with
        | ret u => exact I2.after hq'
        | next => exact False.elim hq'
        | brk => exact False.elim hq'
        | cont => exact False.elim hq'
  · obtain ⟨⟨cl, z, e⟩, t⟩ := t
    obtain ⟨v, ev, r⟩ := k.sl j _ e
    have r : Rep c.B S (.fn i cl z) v := r
    rw [Rep] at r
    obtain ⟨f, dV, c', rfl, e1, e2, hdf, hn⟩ := r
    refine ⟨f, ev, ⟨cl, dV, c', k.kf.sub _ _ e1⟩, sm c σ H S env _ Rx x k t _ fun vs H1 S1 xs k1 s1 l1 t1 => ?_⟩
    exact ⟨cl, dV, c', c.at H1 S1, S1, xs, R, Rx, rfl, rfl, k1.kf.at, k1.kf.sub _ _ (s1 _ _ e1), k1.kf.sub _ _ (s1 _ _ e2), hdf.mono s1, l1, t1.1, t1.2, fun v H' S' d k' r' y => q v H' S' d (k1.back k') (s1.trans k'.s0) r' y,
      fun er d vs H2 S2 k2 r2 l2 h2 n0 n1 y => x.at k1.kf er d vs H2 S2 k2 r2 l2 h2 n0 n1 y⟩
theorem d_callFnQ (j i : Nat) {q : LamQ} (hq : TbC.lq i = q) (L : LamC i ps)
    (hT : ∀ (A : Around) (outer : List Env) (s : Shared) (H : Hp) (E : XK) (f c' : Addr) (cl : List (Str × Addr)), Room kl (A.deeper (lamEnvB q cl s.heap.objs.size f c')) → DE (lamCxB X.prog X.w X.K X.mg X.base A outer s H E ps q cl f c') E q.body T)
    (hr : Room (kl + 1) X.A) (hx : Passes (L2.CX X.prog X.w) X E) (ha : DA X E (e :: es) Tl)
    (hN : X.N[j]? = some x := by rfl) (hv : Vis X.env.scope x := by first | exact Or.inl rfl | exact Or.inr (Or.inl rfl) | exact Or.inr (Or.inr rfl)) (hdb : (x == ("__debug__" : Str)) = false := by decide) (hcd : (x == ("__classdict__" : Str)) = false := by decide)
    (he : starEach (e :: es) X.env = (false, eval e X.env) :: starEach es X.env := by rfl) (hpl : (backTo pos (starEach es X.env)).any (·.1) = false := by rfl) :
    DE X E (.Call (.Name x p) (e :: es) [] pos) (xCallFn j i ps.length Tl T) := by
  subst hq
  exact d_callFn j i L hT hr hx ha hN hv hdb hcd he hpl
end
/-- what is asked of lambda i, by reckoning -/
def lamCB (q : LamQ) (ps : List Str) : Bool :=
  decide (q.scope.kind = .function) && !q.scope.isCoroutine && !q.scope.isGenerator && (q.scope.names.all fun y => !decide (y.2 = .cell) && !decide (y.2 = .free)) && (ps.all fun y => decide (q.scope.names.lookup y = some .local)) && decide ps.Nodup && decide (q.dfl = [])
theorem lamC_of {i : Nat} {q : LamQ} {ps : List Str} (hq : TbC.lq i = q) (h : lamCB q ps = true)
    (hb : ∀ (cl : List (Str × Addr)) (doc pm cdv ctv : Value) (us : List Value), us.length = ps.length → bindArgs (PySem.W.kdv_fn "<lambda>" q.qual q.params (.expr q.body) q.scope cl .none doc pm cdv ctv) ⟨us, []⟩ = pure (ps.zip us)) : LamC i ps := by
  unfold lamCB at h
  simp only [Bool.and_eq_true, Bool.not_eq_true', decide_eq_true_eq, decide_eq_false_iff_not, List.all_eq_true] at h
  obtain ⟨⟨⟨⟨⟨⟨h1, h2⟩, h3⟩, h4⟩, h5⟩, h6⟩, h7⟩ := h
  subst hq
  exact ⟨h1, h2, h3, h4, h5, h6, h7, fun cl doc pm cdv ctv s us hl => BindsTo.of_eq (hb cl doc pm cdv ctv us hl)⟩
section
variable {X : Cx} {E : XK} {i : Nat} {c P : Addr} {params : Arguments} {body : Expr} {scope : Scope} {pos : Pos} {q : Str}
theorem d_lamP0 (hqe : X.env.qual ++ "<lambda>" = q) (TB : TabB X.base X.mg c P) (hcode : X.env.code = .ref c) (hP : (P, q) ∈ TbC.ts) (hu : ∀ p ∈ TbC.ts, p.1 = P → p.2 = q)
    (hq : TbC.lq i = ⟨q, params, body, scope, []⟩) (hfree : ∀ y ∈ scope.names, y.2 = .free → X.env.scope.names.lookup y.1 = some .cell ∨ X.env.scope.names.lookup y.1 = some .free) (hdef : defaultsOf params X.env = ([], [])) {cl : List (Str × Addr)} (hcl : X.env.cells = cl) : DE X E (.Lambda params body scope pos) (xLam i cl) := by
  subst hqe
  subst hcl
  refine ⟨fun σ H Q => TabS H P (X.env.qual ++ "<lambda>") ∧ ∀ f c' H1, LamMade H H1 P (X.env.qual ++ "<lambda>") f c' i X.env.cells .none → Q (.ref f) H1, ⟨fun pins s σ H Q I h => ?_⟩, fun c0 σ H S env R Rx x k t Q q => ⟨(k.kf.tab.1 _ hP).1, fun f c' H1 m => ?_⟩⟩
  · refine PySem.W.kla_eval hdef ?_
    rw [makeFunction_eq]
    simp only [List.zip_nil_right, List.filterMap_nil, List.isEmpty_nil, if_true, pure_bind]
    exact lam_tail I TB hcode h.1 hq (fun y hy e => by
      rcases hfree y hy e with z | z
      · exact I.ok.has _ (.inl z)
      · exact I.ok.has _ (.inr z)) fun f c' H1 s' I1 m => ⟨.ref f, H1, I1, rfl, h.2 f c' H1 m⟩
  · obtain ⟨S1, k1, ss, e1, e2⟩ := kn_lam k m hP hu
    refine q _ H1 S1 (.fn i X.env.cells none) k1 ss ?_ t
    rw [Rep]
    refine ⟨f, _, c', rfl, e1, by rw [hq]; exact e2, .inl ⟨by rw [hq], rfl⟩, fun y hy => by cases hy⟩
end
end DL
namespace DL
end DL
namespace DL
open PySem PySem.Spec L2 Hd
section
variable [TbC] {P : Program} {w : World} {K : PySem.W.Frag} {mg : Str → Option Value} {base : Heap}
theorem tru_non : D.tru .non = some false := rfl
theorem tru_bl {b : Bool} : D.tru (.bl b) = some b := rfl
theorem tru_int {i : Int} : D.tru (.int i) = some (i != 0) := rfl
theorem tru_str {s : Str} : D.tru (.str s) = if s.length ≤ sizeLine then some ((s.length : Int) != 0) else none := rfl
theorem tru_lst {xs : List D} : D.tru (.lst xs) = some (!xs.isEmpty) := rfl
theorem tru_tup {xs : List D} : D.tru (.tup xs) = some (!xs.isEmpty) := rfl
theorem isN_non : D.isN .non = true := rfl
theorem isN_bl {b : Bool} : D.isN (.bl b) = false := rfl
theorem isN_int {i : Int} : D.isN (.int i) = false := rfl
theorem isN_str {s : Str} : D.isN (.str s) = false := rfl
theorem isN_lst {xs : List D} : D.isN (.lst xs) = false := rfl
theorem isN_tup {xs : List D} : D.isN (.tup xs) = false := rfl
theorem isN_obj {C : Addr} {ks : List Str} {xs : List D} : D.isN (.obj C ks xs) = false := rfl
theorem dat_non : D.dat .non = true := rfl
theorem dat_bl {b : Bool} : D.dat (.bl b) = true := rfl
theorem dat_int {i : Int} : D.dat (.int i) = true := rfl
theorem dat_str {s : Str} : D.dat (.str s) = true := rfl
theorem dat_lst {xs : List D} : D.dat (.lst xs) = datL xs := rfl
theorem dat_tup {xs : List D} : D.dat (.tup xs) = datL xs := rfl
theorem datL_nil : datL [] = true := rfl
theorem datL_cons {x : D} {xs : List D} : datL (x :: xs) = (x.dat && datL xs) := rfl
theorem dep_non : D.dep .non = 1 := rfl
theorem dep_bl {b : Bool} : D.dep (.bl b) = 1 := rfl
theorem dep_int {i : Int} : D.dep (.int i) = 1 := rfl
theorem dep_str {s : Str} : D.dep (.str s) = 1 := rfl
theorem dep_lst {xs : List D} : D.dep (.lst xs) = 1 + depL xs := rfl
theorem dep_tup {xs : List D} : D.dep (.tup xs) = 1 + depL xs := rfl
theorem depL_nil : depL [] = 0 := rfl
theorem depL_cons {x : D} {xs : List D} : depL (x :: xs) = max x.dep (depL xs) := rfl
theorem py_non : D.py .non = .none := rfl
theorem py_bl {b : Bool} : D.py (.bl b) = .bool b := rfl
theorem py_int {i : Int} : D.py (.int i) = .int i := rfl
theorem py_str {s : Str} : D.py (.str s) = .str s := rfl
theorem py_lst {xs : List D} : D.py (.lst xs) = .list (pyL xs) := rfl
theorem py_tup {xs : List D} : D.py (.tup xs) = .tuple (pyL xs) := rfl
theorem pyL_nil : pyL [] = [] := rfl
theorem pyL_cons {x : D} {xs : List D} : pyL (x :: xs) = x.py :: pyL xs := rfl
theorem eqv_self (d : D) : PyData.eqv d.py d.py = true := SeqAt.eqv_refl_plain d.py (py_plain d)
def GoodL (n : Nat) (xs : List D) : Prop := ∀ x ∈ xs, Good n x
theorem goodL_nil {n : Nat} : GoodL n [] = True := by simp [GoodL]
theorem goodL_cons {n : Nat} {x : D} {xs : List D} : GoodL n (x :: xs) = (Good n x ∧ GoodL n xs) := by simp [GoodL]
theorem goodl_lst {n : Nat} {xs : List D} : Good (n + 1) (.lst xs) = (xs.length ≤ 100000 ∧ GoodL n xs) := rfl
theorem goodl_tup {n : Nat} {xs : List D} : Good (n + 1) (.tup xs) = (xs.length ≤ 100000 ∧ GoodL n xs) := rfl
/-- a comprehension whose items are told by their place -/
theorem LcP.idx {xs : List D} {G : DG} {Te : DT} {vs : List Nat} {env : En} {R : List D → Prop} (g : Nat → D) (hz : xs.length ≤ sizeLine) (h : ∀ (i : Nat) (d : D) (N : D → Prop), xs[i]? = some d → N (g i) → G d (inner vs env) fun env' => Te env' N noX) (k : R ((List.range xs.length).map g)) :
    LcP xs G xYes Te vs env R := by
  refine ⟨fun i acc => acc = (List.range i).map g, rfl, fun i d acc e hI => ?_, fun acc hI => by rw [hI]; exact k⟩
  have hi := (List.getElem?_eq_some_iff.mp e).1
  have key := h i d (fun y => acc.length < sizeLine ∧ acc ++ [y] = (List.range (i + 1)).map g) e ⟨by rw [hI, List.length_map, List.length_range]; omega, by rw [hI, List.range_succ, List.map_append]; rfl⟩
  have e1 : (fun env' => xYes env' (fun b => (b = true → Te env' (fun y => acc.length < sizeLine ∧ acc ++ [y] = (List.range (i + 1)).map g) noX) ∧ (b = false → acc = (List.range (i + 1)).map g)) noX) = fun env' => Te env' (fun y => acc.length < sizeLine ∧ acc ++ [y] = (List.range (i + 1)).map g) noX := by
    funext env'
    refine propext ⟨fun t => t.1 rfl, fun t => ⟨fun _ => t, fun z => nomatch z⟩⟩
  rw [e1]
  exact key
theorem ups_at {lo : Int} {n i : Nat} {d : D} (e : (DL.ups lo n)[i]? = some d) : i < n ∧ d = .int (lo + i) := by
  rw [ups_get] at e
  split at e <;> cases e
  rename_i hi
  exact ⟨hi, rfl⟩
theorem flat_non : D.flat .non = true := rfl
theorem flat_bl {b : Bool} : D.flat (.bl b) = true := rfl
theorem flat_int {i : Int} : D.flat (.int i) = true := rfl
theorem flat_str {s : Str} : D.flat (.str s) = true := rfl
theorem flatL_ints {ns : List Int} : flatL (ns.map D.int) = true := flatL_map fun _ => rfl
theorem asInts_nil : asInts [] = some [] := rfl
theorem asInts_cons {i : Int} {xs : List D} : asInts (.int i :: xs) = (asInts xs).map (i :: ·) := by
  rw [asInts]
theorem getD_map {xs : List Int} {k : Nat} (h : k < xs.length) : (xs.map D.int)[k]? = some (.int (xs.getD k 0)) := by
  rw [List.getElem?_map, List.getElem?_eq_getElem h]
  simp [List.getD, List.getElem?_eq_getElem h]
theorem at_ints {xs : List Int} {k : Nat} {j : Int} (hj : j = k) (h : k < xs.length) : atI (xs.map D.int) j = some (.int (xs.getD k 0)) := by
  subst hj
  exact atI_nat (getD_map h)
theorem pairs_ints {xs ys : List Int} {i : Nat} {d : D} (h : (pairs (xs.map D.int) (ys.map D.int))[i]? = some d) : i < xs.length ∧ i < ys.length ∧ d = .tup [.int (xs.getD i 0), .int (ys.getD i 0)] := by
  obtain ⟨a, b, e1, e2, e3⟩ := pairs_get _ _ _ _ h
  have h1 : i < xs.length := by have := (List.getElem?_eq_some_iff.mp e1).1; simpa using this
  have h2 : i < ys.length := by have := (List.getElem?_eq_some_iff.mp e2).1; simpa using this
  rw [getD_map h1] at e1
  rw [getD_map h2] at e2
  cases e1
  cases e2
  exact ⟨h1, h2, e3⟩
theorem cutD_from {xs : List D} {a : Nat} : cutD xs (some (a : Int)) none = xs.drop a := by
  unfold cutD
  rw [HT.sIx_nat xs.length 0 a, HT.sIx_none]
  by_cases h : a ≤ xs.length
  · rw [Nat.min_eq_left h, List.take_of_length_le (by rw [List.length_drop]; omega)]
  · rw [List.drop_eq_nil_of_le (by omega), List.drop_eq_nil_of_le (by omega)]
    simp
theorem cutD_to {xs : List D} {b : Nat} : cutD xs none (some (b : Int)) = xs.take b := by
  unfold cutD
  rw [HT.sIx_nat xs.length xs.length b, HT.sIx_none, List.drop_zero, List.take_eq_take_iff]
  omega
theorem goodL_ints {n : Nat} {ns : List Int} : GoodL (n + 1) (ns.map D.int) = True := by
  simp only [eq_iff_iff, iff_true]
  exact fun x hx => by
    obtain ⟨i, _, rfl⟩ := List.mem_map.mp hx
    trivial
theorem eqv_nn : PyData.eqv .none .none = true := rfl
theorem eqv_bb {a b : Bool} : PyData.eqv (.bool a) (.bool b) = decide (a = b) := by simp only [PyData.eqv]; cases a <;> cases b <;> rfl
theorem eqv_ii {a b : Int} : PyData.eqv (.int a) (.int b) = decide (a = b) := by simp only [PyData.eqv]; exact Bool.beq_eq_decide_eq a b
theorem eqv_ss {a b : Str} : PyData.eqv (.str a) (.str b) = (a == b) := by simp only [PyData.eqv]
theorem eqv_ll {a b : List PyData} : PyData.eqv (.list a) (.list b) = PyData.eqvAll a b := by simp only [PyData.eqv]
theorem eqv_tt {a b : List PyData} : PyData.eqv (.tuple a) (.tuple b) = PyData.eqvAll a b := by simp only [PyData.eqv]
theorem eqv_lt {a b : List PyData} : PyData.eqv (.list a) (.tuple b) = false := by simp only [PyData.eqv]
theorem eqv_tl {a b : List PyData} : PyData.eqv (.tuple a) (.list b) = false := by simp only [PyData.eqv]
theorem eqv_nb {b : Bool} : PyData.eqv .none (.bool b) = false := by simp only [PyData.eqv]
theorem eqv_bn {b : Bool} : PyData.eqv (.bool b) .none = false := by simp only [PyData.eqv]
theorem eqv_ni {i : Int} : PyData.eqv .none (.int i) = false := by simp only [PyData.eqv]
theorem eqv_in {i : Int} : PyData.eqv (.int i) .none = false := by simp only [PyData.eqv]
theorem eqv_ns {s : Str} : PyData.eqv .none (.str s) = false := by simp only [PyData.eqv]
theorem eqv_sn {s : Str} : PyData.eqv (.str s) .none = false := by simp only [PyData.eqv]
theorem eqv_nl {l : List PyData} : PyData.eqv .none (.list l) = false := by simp only [PyData.eqv]
theorem eqv_ln {l : List PyData} : PyData.eqv (.list l) .none = false := by simp only [PyData.eqv]
theorem eqvAll_nn : PyData.eqvAll [] [] = true := by simp only [PyData.eqvAll]
theorem eqvAll_nc {x : PyData} {xs : List PyData} : PyData.eqvAll [] (x :: xs) = false := by simp only [PyData.eqvAll]
theorem eqvAll_cn {x : PyData} {xs : List PyData} : PyData.eqvAll (x :: xs) [] = false := by simp only [PyData.eqvAll]
theorem eqvAll_cc {x y : PyData} {xs ys : List PyData} : PyData.eqvAll (x :: xs) (y :: ys) = (PyData.eqv x y && PyData.eqvAll xs ys) := by simp only [PyData.eqvAll]
theorem eqvAll_self {xs : List D} : PyData.eqvAll (pyL xs) (pyL xs) = true := by
  have h := eqv_self (.lst xs)
  rw [py_lst, eqv_ll] at h
  exact h
theorem eqvAll_ints : ∀ {xs ys : List Int}, PyData.eqvAll (pyL (xs.map D.int)) (pyL (ys.map D.int)) = decide (xs = ys)
  | [], [] => by simp only [List.map_nil, pyL_nil, eqvAll_nn, decide_true]
  | [], y :: ys => by simp [pyL_nil, pyL_cons, eqvAll_nc]
  | x :: xs, [] => by simp [pyL_nil, pyL_cons, eqvAll_cn]
  | x :: xs, y :: ys => by
    rw [List.map_cons, List.map_cons, pyL_cons, pyL_cons, eqvAll_cc, eqvAll_ints, py_int, py_int, eqv_ii]
    simp
theorem datL_ints {ns : List Int} : datL (ns.map D.int) = true := datL_of fun x hx => by
  obtain ⟨i, _, rfl⟩ := List.mem_map.mp hx
  rfl
theorem asO_obj {C C' : Addr} {ks : List Str} {xs : List D} {R : List Str → List D → Prop} : asO C R (.obj C' ks xs) = (C' = C ∧ R ks xs) := rfl
def dgN1 : Array Lean.Name := #[`zRaise, `xFld, `xMeth, `xMethK, `opOwn, `xProp, `xMake, `xOB, `xOBi, `xInv, `asO_obj, `xNF, `xFN, `xFl, `zRetNew, `zRetO, `xStar, `xSl3, `zNever, `zParC, `zParV, `flat_non, `flat_bl, `flat_int, `flat_str, `flatL_nil, `flatL_cons, `flatL_app, `cut3_rev, `cut3_rev0, `pls_rev, `pls_rev0, `List.length_reverse, `asLT_lst, `asLT_tup, `true_or, `or_true, `startE, `inner, `zSeq, `zIf, `zNext, `zRet, `zAsg, `zSetO, `zPar, `zFrz, `zApp, `zStO, `zAug, `zExpr, `zFor, `zWhile, `zBreak, `zCont, `xTest, `xAnd, `xOr, `xNot, `xAndV, `xOrV, `xNotV, `xIf, `xTru, `xOp, `xUn, `xC, `xNil, `xCons, `xLst, `xTup, `xIxO, `xLenO, `xNoPart, `xPart, `xSl, `xChain, `xF, `xNew, `xCatF, `xRepF, `xListF, `xSlF, `xCB, `xCall, `xCallK, `xItL, `xItT, `xRg1, `xRg2, `xZip, `fZip_lst, `fZip_tup, `xEnum, `xItS, `xLcF_is, `xYes, `yName, `yNil, `yCons, `yTup, `put_0, `put_s, `putO_0, `putO_s, `xVar_0, `xVar_s, `opAdd_int, `opAdd_str, `opAdd_lst, `opAdd_tup, `opSub_int, `opMul_int, `opMul_lst, `opMul_str, `opFdiv_int, `opMod_int, `opPow_int, `opNeg_int, `opLt_int, `opLe_int, `opGt_int, `opGe_int, `opIx_lst, `opIx_tup, `opIx_str, `opSl_lst, `opSl_tup, `opSl_str, `opEq, `opNe, `opIs, `opIsNot, `isN_non, `isN_bl, `isN_int, `isN_str, `isN_lst, `isN_tup, `isN_obj, `dat_non, `dat_bl, `dat_int, `dat_str, `dat_lst, `dat_tup, `datL_nil, `datL_cons, `dep_non, `dep_bl, `dep_int, `dep_str, `dep_lst, `dep_tup, `depL_nil, `depL_cons, `tru_non, `tru_bl, `tru_int, `tru_str, `tru_lst, `tru_tup, `asB_bl, `asI_int, `asL_lst, `asLT_lst, `asLT_tup, `fLen_lst, `fLen_tup, `fLen_str, `fInt_int, `fInt_bl, `fAbs_int, `fMin2_int, `fMax2_int, `fSum_lst, `fAny_lst, `fAll_lst, `fTuple_lst, `fTuple_tup, `py_non, `py_bl, `py_int, `py_str, `py_lst, `py_tup, `pyL_nil, `pyL_cons, `eqv_self, `eqvAll_self, `eqvAll_ints, `eqv_nn, `eqv_bb, `eqv_ii, `eqv_ss, `eqv_ll, `eqv_tt, `eqv_lt, `eqv_tl, `eqv_nb, `eqv_bn, `eqv_ni, `eqv_in, `eqv_ns, `eqv_sn, `eqv_nl, `eqv_ln, `eqvAll_nn, `eqvAll_nc, `eqvAll_cn, `eqvAll_cc, `Bool.and_true, `Bool.true_and, `Bool.and_false, `Bool.false_and, `Bool.or_true, `Bool.true_or, `Bool.or_false, `Bool.false_or, `Bool.not_true, `Bool.not_false, `bne_self_eq_false, `beq_self_eq_true, `Bool.beq_eq_decide_eq, `List.map_cons, `List.map_nil, `List.length_cons, `List.length_nil, `List.length_append, `List.length_map, `Nat.reduceAdd, `Nat.reduceSub, `repN_0, `repN_s, `List.cons_append, `List.nil_append, `List.append_nil, `List.set_cons_zero, `List.set_cons_succ, `List.all_cons, `List.all_nil, `Option.some.injEq, `DV.own.injEq, `DV.val.injEq, `D.int.injEq, `D.bl.injEq, `D.lst.injEq, `D.tup.injEq, `D.str.injEq, `List.cons.injEq, `exists_eq_left', `exists_eq_left, `exists_eq_right, `exists_eq_right', `decide_eq_true_eq, `decide_eq_false_iff_not, `reduceCtorEq, `true_implies, `false_implies, `implies_true, `forall_const, `eq_self, `and_true, `true_and, `and_self, `if_true, `if_false, `decide_true, `decide_false, `Bool.false_eq_true, `ite_true, `ite_false, `goodl_lst, `goodl_tup, `good_non, `good_bl, `good_int, `good_str, `goodL_nil, `goodL_cons, `sizeLine_eq, `Nat.reduceLeDiff, `Nat.reduceLT, `isi_non_int, `isi_non_bool, `isi_non_str, `isi_non_list, `isi_non_tuple, `isi_non_lt, `isi_bl_int, `isi_bl_bool, `isi_bl_str, `isi_bl_list, `isi_bl_tuple, `isi_bl_lt, `isi_int_int, `isi_int_bool, `isi_int_str, `isi_int_list, `isi_int_tuple, `isi_int_lt, `isi_str_int, `isi_str_bool, `isi_str_str, `isi_str_list, `isi_str_tuple, `isi_str_lt, `isi_lst_int, `isi_lst_bool, `isi_lst_str, `isi_lst_list, `isi_lst_tuple, `isi_lst_lt, `isi_tup_int, `isi_tup_bool, `isi_tup_str, `isi_tup_list, `isi_tup_tuple, `isi_tup_lt, `Nat.max_self, `Bool.not_eq_true', `Bool.not_eq_false', `Bool.or_eq_true, `Bool.and_eq_true]
local macro_rules | `(tactic| walk_at "dl") => do let xs ← dgN1.mapM fun n => `(Lean.Parser.Tactic.simpLemma| $(Lean.mkIdent n):term); `(tactic| simp only [$xs,*, List.getElem?_cons_zero, List.getElem?_cons_succ])
def spBag (K : PySem.W.Frag) : Sp := fun vs H Q _ => ∃ (a : Addr) (ns : List Int), vs = [.ref a] ∧ SqL K H a (ns.map V.int) ∧ ns.length ≤ 63 ∧
  ∀ (b ca : Addr) (H' : Hp) (st : Int), b ≠ ca → Same H H' → H' b = some (.lst [.ref ca, .int 0, .int 0, .int st, .int 0]) → H' ca = some (.lst (ns.map V.int)) → 0 ≤ st → st < 2147483549 → Q (.ref b) H'
def n__law_bag : List Str := ["_law_script", "_law_state", "_law_cell"]
theorem sc__law_bag : FnScope n__law_bag ["_law_script"] (defScope s__law_bag) := ⟨rfl, rfl, rfl, by decide +kernel, rfl, by decide +kernel, by decide +kernel⟩
theorem cut63 {ns : List Int} (h : ns.length ≤ 63) : cutV (ns.map V.int) none (some 63) = ns.map V.int := by
  unfold cutV
  rw [HT.sIx_none]
  have e : HT.sIx (ns.map V.int).length (ns.map V.int).length (some 63) = ns.length := by
    have := HT.sIx_nat (ns.map V.int).length (ns.map V.int).length 63
    rw [List.length_map] at this ⊢
    exact this.trans (by omega)
  rw [e, List.drop_zero, Nat.sub_zero]
  have := List.take_length (l := ns.map V.int)
  rw [List.length_map] at this
  exact this
theorem ok__law_bag (D__law_bag : Df K mg "_law_bag" s__law_bag) (m_int : mg "int" = none) : FnOk P w K mg base (L2.CX P w) 1 D__law_bag.f D__law_bag.fd ["_law_script"] (spBag K) := by
  refine FunD.ok D__law_bag.F sc__law_bag (fun vs H Q E h => ?_) (fun cdv A outer s H vs Q E hr h => ?_)
  · obtain ⟨a, ns, rfl, _⟩ := h
    rfl
  · obtain ⟨a, ns, rfl, hS, hlen, k⟩ := h
    refine ⟨_, PSs.nox (pss_cons (ps_set (i := 1) sc__law_bag.nd rfl (.inl rfl) pe_int)
      (pss_cons (ps_for PassesOwn.never rfl (pi_list (pe_slice sl_list (pv 0) po_none (po_some pe_int))) (pg_name (i := 2) sc__law_bag.nd rfl (.inl rfl))
        (pss_one (ps_set (i := 1) sc__law_bag.nd rfl (.inl rfl) (pe_op op_mod (pe_callTy call_int1 (by rfl) m_int PyProof.Rows.boot_int (pa_cons (pe_op op_add (pe_op op_add (pe_op op_mul (pv 1) pe_int) (pe_op op_mod (pe_callTy call_int1 (by rfl) m_int PyProof.Rows.boot_int (pa_cons (pv 2) pa_nil)) pe_int)) pe_int) pa_nil)) pe_int))))
      (pss_one (ps_ret (pe_lst (pa_cons (pe_lc (own := [("_law_cell", 2)]) rfl sc__law_bag.nd (pi_list (pe_slice sl_list (pv 0) po_none (po_some pe_int))) (blkOk_by (own := [("_law_cell", 2)]) (N := n__law_bag) (sc := defScope s__law_bag) (by decide +kernel)) (fun _ _ _ _ _ => pg_name (i := 2) sc__law_bag.nd rfl (.inl rfl)) (fun _ _ _ _ _ => pts_nil)
        (fun _ _ _ _ _ => pe_callTy call_int1 (by rfl) m_int PyProof.Rows.boot_int (pa_cons (pv 2) pa_nil))) (pa_cons pe_int (pa_cons pe_int (pa_cons (pv 1) (pa_cons pe_int pa_nil)))))))))), ?_⟩
    refine ⟨_, rfl, 63, rfl, a, _, rfl, hS, fun p hp => ?_⟩
    rw [cut63 hlen]
    refine ⟨p, rfl, ⟨_, SqL.of upd_same⟩, for_list (K := K) (a := p) (xs := ns.map V.int) (fun i σ H2 => H2 = upd H p (.lst (ns.map V.int)) ∧ ∃ (st : Int) (v : Option V), σ = [some (.ref a), some (.int st), v] ∧ 0 ≤ st ∧ st < 2147483549)
      ⟨rfl, 10001, none, rfl, by decide, by decide⟩ (fun i σ H2 _ ⟨e, _⟩ => by rw [e]; exact SqL.of upd_same) ?_ ?_⟩
    · rintro i x σ H2 hx ⟨rfl, st, v, rfl, h0, h1⟩
      rw [List.getElem?_map] at hx
      obtain ⟨z, hz, rfl⟩ := Option.map_eq_some_iff.mp hx
      refine ⟨_, rfl, st, 50123, rfl, rfl, .inr ⟨by decide, by decide⟩, _, rfl, .inl ⟨z, rfl, ?_⟩⟩
      refine ⟨_, _, rfl, rfl, by show (0 : Int) < 2147483587; decide, _, _, rfl, rfl, _, _, rfl, rfl, .inl ⟨_, rfl, ?_⟩⟩
      refine ⟨_, _, rfl, rfl, by show (0 : Int) < 2147483549; decide, rfl, _, _, rfl, ?_, ?_⟩
      · exact Int.emod_nonneg _ (by decide)
      · exact Int.emod_lt_of_pos _ (by decide)
    · rintro σ H2 ⟨rfl, st, v, rfl, h0, h1⟩
      have s1 : Same H (upd H p (.lst (ns.map V.int))) := fun b o e => by rw [upd_ne (ne_of_none e hp)]; exact e
      refine ⟨_, rfl, 63, rfl, a, _, rfl, s1.seq hS, fun p2 hp2 => ?_⟩
      rw [cut63 hlen]
      refine ⟨p2, rfl, ⟨_, SqL.of upd_same⟩, fun ca hca => ?_⟩
      have n2 : ca ≠ p2 := fun z => by
        subst z
        rw [upd_same] at hca
        cases hca
      refine lc_list (K := K) (a := p2) (xs := ns.map V.int) (fun i H3 => Same (upd (upd H p (.lst (ns.map V.int))) p2 (.lst (ns.map V.int))) H3 ∧ H3 ca = some (.lst ((ns.take i).map V.int))) ⟨fun b o e => by
        rw [upd_ne (ne_of_none e hca)]
        exact e, by rw [upd_same]; simp⟩ (fun i H3 _ ⟨sm, _⟩ => SqL.of (sm _ _ upd_same)) ?_ ?_
      · rintro i x H3 hx ⟨sm, e3⟩
        rw [List.getElem?_map] at hx
        obtain ⟨z, hz, rfl⟩ := Option.map_eq_some_iff.mp hx
        have hi := (List.getElem?_eq_some_iff.mp hz).1
        refine ⟨rfl, ?_⟩
        simp only [tYes, if_true]
        refine ⟨_, rfl, .inl ⟨z, rfl, _, e3, ?_, ?_, ?_⟩⟩
        · rw [List.length_map, List.length_take]
          exact Nat.lt_of_le_of_lt (Nat.min_le_right _ _) (Nat.lt_of_le_of_lt hlen (by decide))
        · intro b o e
          have nb : b ≠ ca := ne_of_none e hca
          rw [upd_ne nb]
          exact sm b o e
        · rw [upd_same, List.take_succ, hz]
          simp
      · rintro H3 ⟨sm, e3⟩
        rw [List.length_map, List.take_length] at e3
        refine ⟨_, rfl, by show 5 ≤ sizeLine; decide, fun b hb => ?_⟩
        have nb : b ≠ ca := fun z => by
          subst z
          rw [e3] at hb
          cases hb
        refine k b ca _ st nb (fun c o e => ?_) upd_same (by rw [upd_ne nb.symm]; exact e3) h0 h1
        have h2 := s1 c o e
        have h3 : upd (upd H p (.lst (ns.map V.int))) p2 (.lst (ns.map V.int)) c = some o := by rw [upd_ne (ne_of_none h2 hp2)]; exact h2
        have h4 := sm c o h3
        rw [upd_ne (ne_of_none h4 hb)]
        exact h4
def F__law_pull : Spec
  | [.bag, .int n], R, _ => 0 < n ∧ n.natAbs.log2 < 9000 ∧ ∀ r : Int, 0 ≤ r → r < n → R (.int r)
  | _, _, _ => False
theorem F__law_pull_is {n : Int} {R : D → Prop} {Rx : Er → Prop} : F__law_pull [.bag, .int n] R Rx = (0 < n ∧ n.natAbs.log2 < 9000 ∧ ∀ r : Int, 0 ≤ r → r < n → R (.int r)) := rfl
theorem F__law_pull_of {ds : List D} {R : D → Prop} {Rx : Er → Prop} (h : F__law_pull ds R Rx) : ∃ n : Int, ds = [.bag, .int n] ∧ 0 < n ∧ n.natAbs.log2 < 9000 ∧ ∀ r : Int, 0 ≤ r → r < n → R (.int r) := by
  unfold F__law_pull at h
  split at h
  · exact ⟨_, rfl, h⟩
  · exact h.elim
def n__law_pull : List Str := ["_law_bag_here", "_law_many", "_law_cell", "_law_digit", "_law_state"]
theorem sc__law_pull : FnScope n__law_pull ["_law_bag_here", "_law_many"] (defScope s__law_pull) := ⟨rfl, rfl, rfl, by decide +kernel, rfl, by decide +kernel, by decide +kernel⟩
def bagL (ca : Addr) (i g st n : Int) : HO := .lst [.ref ca, .int i, .int g, .int st, .int n]
theorem ok__law_pull (D__law_pull : Df K mg "_law_pull" s__law_pull) (m_int : mg "int" = none) (m_len : mg "len" = none) : FnOk P w K mg base (L2.CX P w) 1 D__law_pull.f D__law_pull.fd ["_law_bag_here", "_law_many"] (spD F__law_pull) := by
  refine FunD.ok D__law_pull.F sc__law_pull (fun vs H Q E ⟨c, S, ds, R, Rx, _, _, _, l, h, _⟩ => ?_) (fun cdv A outer s H vs Q E hr hsp => ?_)
  · obtain ⟨n, rfl, _⟩ := F__law_pull_of h
    exact l.length
  obtain ⟨c, S, ds, R, Rx, h0, hs0, kf, l, h, q, _⟩ := hsp
  obtain ⟨n, rfl, hn, hn9, hR⟩ := F__law_pull_of h
  obtain ⟨v1, v2, rfl, r1, r2⟩ := rep2 l
  obtain ⟨b, eB, rfl⟩ := r1
  cases (show v2 = .int n from r2)
  obtain ⟨⟨nb, cs, i0, g0, st0, cnt0, eb, eca, i0n, g0n, st0n, st0l⟩, hb0⟩ := kf.bag b eB
  have hca : H c.C = some (.lst (cs.map V.int)) := kf.sub _ _ eca
  have nca : c.C ≠ b := fun z => by subst z; rw [nb] at eca; cases eca
  -- the end: any result, any right bag
  have fin : ∀ (r : Int) (i g st cnt : Int), 0 ≤ r → r < n → 0 ≤ i → 0 ≤ g → 0 ≤ st → st < 2147483549 → Q (.int r) (upd H b (bagL c.C i g st cnt)) := fun r i g st cnt h1 h2 h3 h4 h5 h6 => by
    refine q _ _ S (.int r) ⟨fun a o e => ?_, kf.s0, fun a o e ne => ?_, kf.new, fun b' e => ?_, ⟨kf.tab.1.lst eb, kf.tab.2⟩⟩ rfl (hR r h1 h2)
    · rw [upd_ne (fun z => by subst z; rw [nb] at e; cases e)]
      exact kf.sub a o e
    · rw [upd_ne (fun z => ne (.inl (by rw [z]; exact eB)))]
      exact kf.old a o e ne
    · rw [eB] at e
      cases e
      exact ⟨⟨nb, cs, i, g, st, cnt, upd_same, eca, h3, h4, h5, h6⟩, hb0⟩
  have hl : ∀ (o : HO), (upd H b o) c.C = some (.lst (cs.map V.int)) := fun o => by rw [upd_ne nca]; exact hca
  -- behind the first if
  obtain ⟨t2, p2, h2⟩ : ∃ t2, PSs (cxOf (L2.CX P w) P w K mg base n__law_pull "_law_pull" (defScope s__law_pull) D__law_pull.f cdv A outer s H E).nox ((defBody s__law_pull).drop 2) t2 ∧
      ∀ (v : Option V) (i g st cnt : Int), 0 ≤ i → 0 ≤ g → 0 ≤ st → st < 2147483549 → t2 { nx := fun _ H' => Q .non H', rt := Q } [some (.ref b), some (.int n), v, none, none] (upd H b (bagL c.C i g st cnt)) := by
    refine ⟨_, pss_cons (ps_if (pt_cmpR op_gt (pe_ix ix_list (pv 0) pe_int (fun _ _ => rfl)) pe_int (nomark _))
        (pss_cons (ps_set (i := 3) sc__law_pull.nd rfl (.inl rfl) (pe_op op_mod (pe_callTy call_int1 (by rfl) m_int PyProof.Rows.boot_int (pa_cons (pe_ix ix_list (pv 0) pe_int (fun _ _ => rfl)) pa_nil)) (pv 1)))
        (pss_cons (ps_asg (pe_op op_fdivW (pe_callTy call_int1 (by rfl) m_int PyProof.Rows.boot_int (pa_cons (pe_ix ix_list (pv 0) pe_int (fun _ _ => rfl)) pa_nil)) (pv 1)) (pg_sub (pv 0) pe_int set_list))
        (pss_one (ps_ret (pv 3))))) pss_nil)
      (pss_cons (ps_set (i := 4) sc__law_pull.nd rfl (.inl rfl) (pe_ix ix_list (pv 0) pe_int (fun _ _ => rfl)))
      (pss_cons (ps_asg (pe_op op_mod (pe_callTy call_int1 (by rfl) m_int PyProof.Rows.boot_int (pa_cons (pe_op op_add (pe_op op_add (pe_op op_add (pe_op op_pow (pv 4) pe_int) (pe_op op_mul (pv 4) pe_int)) (pe_op op_mul (pe_ix ix_list (pv 0) pe_int (fun _ _ => rfl)) pe_int)) pe_int) pa_nil)) pe_int) (pg_sub (pv 0) pe_int set_list))
      (pss_one (ps_ret (pe_op op_mod (pe_callTy call_int1 (by rfl) m_int PyProof.Rows.boot_int (pa_cons (pe_op op_add (pe_op op_fdiv (pe_ix ix_list (pv 0) pe_int (fun _ _ => rfl)) pe_int) (pe_op op_mul (pe_op op_mod (pe_callTy call_int1 (by rfl) m_int PyProof.Rows.boot_int (pa_cons (pe_ix ix_list (pv 0) pe_int (fun _ _ => rfl)) pa_nil)) pe_int) pe_int)) pa_nil)) (pv 1)))))), fun v i g st cnt hi hg hst hst2 => ?_⟩
    refine ⟨_, rfl, b, _, 2, .int g, rfl, rfl, SqL.of upd_same, rfl, g, 0, rfl, rfl, _, rfl, ?_⟩
    by_cases hgp : 0 < g
    · rw [decide_eq_true hgp]
      refine iteT ?_
      refine ⟨_, rfl, b, _, 2, .int g, rfl, rfl, SqL.of upd_same, rfl, .inl ⟨g, rfl, ?_⟩⟩
      refine ⟨_, rfl, g, n, rfl, rfl, hn, ?_⟩
      refine ⟨_, rfl, b, _, 2, .int g, rfl, rfl, SqL.of upd_same, rfl, .inl ⟨g, rfl, ?_⟩⟩
      refine ⟨_, rfl, g, n, rfl, rfl, ⟨hn, hn9⟩, ?_⟩
      refine ⟨_, rfl, b, _, 2, 2, rfl, rfl, upd_same, rfl, ?_⟩
      refine ⟨_, rfl, ?_⟩
      rw [upd_upd]
      exact fin (g % n) i (g / n) st cnt (Int.emod_nonneg _ (by omega)) (Int.emod_lt_of_pos _ hn) hi (Int.ediv_nonneg hg (by omega)) hst hst2
    · rw [decide_eq_false hgp]
      refine iteF ?_
      refine ⟨_, rfl, b, _, 3, .int st, rfl, rfl, SqL.of upd_same, rfl, ?_⟩
      refine ⟨_, rfl, st, 3, rfl, rfl, ⟨by decide, by decide, by omega⟩, ?_⟩
      refine ⟨_, rfl, st, 40427, rfl, rfl, .inr ⟨by decide, by decide⟩, ?_⟩
      refine ⟨_, _, rfl, rfl, ?_⟩
      refine ⟨_, rfl, b, _, 4, .int cnt, rfl, rfl, SqL.of upd_same, rfl, ?_⟩
      refine ⟨cnt, 1299709, rfl, rfl, .inr ⟨by decide, by decide⟩, ?_⟩
      refine ⟨_, _, rfl, rfl, ?_⟩
      refine ⟨_, _, rfl, rfl, .inl ⟨_, rfl, ?_⟩⟩
      refine ⟨_, _, rfl, rfl, by show (0 : Int) < 2147483549; decide, ?_⟩
      refine ⟨_, rfl, b, _, 3, 3, rfl, rfl, upd_same, rfl, ?_⟩
      rw [upd_upd]
      refine ⟨_, rfl, b, _, 3, _, rfl, rfl, SqL.of upd_same, rfl, ?_⟩
      refine ⟨_, 83, rfl, rfl, ⟨by decide, by decide⟩, ?_⟩
      refine ⟨_, rfl, b, _, 3, _, rfl, rfl, SqL.of upd_same, rfl, .inl ⟨_, rfl, ?_⟩⟩
      refine ⟨_, 7901, rfl, rfl, by show (0 : Int) < 7901; decide, ?_⟩
      refine ⟨_, 67, rfl, rfl, .inr ⟨by decide, by decide⟩, ?_⟩
      refine ⟨_, _, rfl, rfl, .inl ⟨_, rfl, ?_⟩⟩
      refine ⟨_, rfl, _, n, rfl, rfl, hn, ?_⟩
      exact fin _ i g _ cnt (Int.emod_nonneg _ (by omega)) (Int.emod_lt_of_pos _ hn) hi hg (Int.emod_nonneg _ (by decide)) (Int.emod_lt_of_pos _ (by decide))
  refine ⟨_, PSs.nox (pss_cons (ps_asg (pe_op op_add (pe_ix ix_list (pv 0) pe_int (fun _ _ => rfl)) pe_int) (pg_sub (pv 0) pe_int set_list))
    (pss_cons (ps_if (PW.pt (pw_and (pt_cmpR op_eq (pe_ix ix_list (pv 0) pe_int (fun _ _ => rfl)) pe_int (nomark _)) (pw_and1 (pt_cmpR op_lt (pe_ix ix_list (pv 0) pe_int (fun _ _ => rfl)) (pe_callB call_len (by rfl) m_len boot_len (pa_cons (pe_ix ix_list (pv 0) pe_int (fun _ _ => rfl)) pa_nil)) (nomark _)))))
      (pss_cons (ps_set (i := 2) sc__law_pull.nd rfl (.inl rfl) (pe_ix ix_list (pe_ix ix_list (pv 0) pe_int (fun _ _ => rfl)) (pe_ix ix_list (pv 0) pe_int (fun _ _ => rfl)) (fun _ _ => rfl)))
      (pss_cons (ps_asg (pe_op op_add (pe_ix ix_list (pv 0) pe_int (fun _ _ => rfl)) pe_int) (pg_sub (pv 0) pe_int set_list))
      (pss_cons (ps_if (pt_cmpR op_ge (pv 2) (pe_op op_pow pe_int pe_int) (nomark _)) (pss_one (ps_asg (pv 2) (pg_sub (pv 0) pe_int set_list))) pss_nil)
      (pss_one (ps_asg (pe_op op_mod (pe_callTy call_int1 (by rfl) m_int PyProof.Rows.boot_int (pa_cons (pe_op op_add (pe_op op_add (pe_op op_mul (pe_ix ix_list (pv 0) pe_int (fun _ _ => rfl)) pe_int) (pe_op op_mul (pe_op op_mod (pe_callTy call_int1 (by rfl) m_int PyProof.Rows.boot_int (pa_cons (pv 2) pa_nil)) pe_int) pe_int)) pe_int) pa_nil)) pe_int) (pg_sub (pv 0) pe_int set_list)))))) pss_nil) p2)), ?_⟩
  refine ⟨_, rfl, b, _, 4, .int cnt0, rfl, rfl, SqL.of eb, rfl, cnt0, 1, rfl, rfl, ?_⟩
  refine ⟨_, rfl, b, _, 4, 4, rfl, rfl, eb, rfl, ?_⟩
  refine ⟨_, rfl, b, _, 2, .int g0, rfl, rfl, SqL.of upd_same, rfl, rfl, _, rfl, ?_⟩
  by_cases hg0 : g0 = 0
  · subst hg0
    rw [show decide (V.int 0 = V.int 0) = true from decide_eq_true rfl]
    refine iteT ?_
    refine ⟨_, rfl, b, _, 1, .int i0, rfl, rfl, SqL.of upd_same, rfl, ?_⟩
    refine ⟨_, rfl, b, _, 0, .ref c.C, rfl, rfl, SqL.of upd_same, rfl, ?_⟩
    refine ⟨_, (cs.map V.int).length, rfl, .inl ⟨_, SqL.of (hl _), rfl⟩, ?_⟩
    refine ⟨_, _, rfl, rfl, _, rfl, ?_⟩
    by_cases hlt : i0 < ((cs.map V.int).length : Nat)
    · rw [decide_eq_true hlt]
      refine iteT ?_
      obtain ⟨z, eat⟩ : ∃ z, atI (cs.map V.int) i0 = some (.int z) := by
        obtain ⟨kk, ek⟩ : ∃ kk : Nat, i0 = (kk : Int) := ⟨i0.toNat, by omega⟩
        subst ek
        have hin : kk < cs.length := by rw [List.length_map] at hlt; omega
        exact ⟨cs[kk], atI_nat (by rw [List.getElem?_map]; simp [hin])⟩
      refine ⟨_, rfl, b, _, 0, .ref c.C, rfl, rfl, SqL.of upd_same, rfl, ?_⟩
      refine ⟨_, rfl, b, _, 1, .int i0, rfl, rfl, SqL.of upd_same, rfl, ?_⟩
      refine ⟨c.C, _, i0, .int z, rfl, rfl, SqL.of (hl _), eat, ?_⟩
      refine ⟨_, rfl, b, _, 1, .int i0, rfl, rfl, SqL.of upd_same, rfl, i0, 1, rfl, rfl, ?_⟩
      refine ⟨_, rfl, b, _, 1, 1, rfl, rfl, upd_same, rfl, ?_⟩
      rw [upd_upd]
      refine ⟨_, rfl, 10, 18, rfl, rfl, ⟨by decide, by decide, by decide⟩, ?_⟩
      refine ⟨z, _, rfl, rfl, _, rfl, ?_⟩
      by_cases hz : (10 : Int) ^ (18 : Int).toNat ≤ z
      · rw [decide_eq_true hz]
        refine iteT ?_
        refine ⟨_, rfl, _, rfl, b, _, 2, 2, rfl, rfl, upd_same, rfl, ?_⟩
        rw [upd_upd]
        have zp : 0 ≤ z := by
          have : (0 : Int) ≤ (10 : Int) ^ (18 : Int).toNat := by decide
          omega
        refine ⟨_, rfl, b, _, 3, .int st0, rfl, rfl, SqL.of upd_same, rfl, ?_⟩
        refine ⟨st0, 39989, rfl, rfl, .inr ⟨by decide, by decide⟩, ?_⟩
        refine ⟨_, rfl, .inl ⟨z, rfl, ?_⟩⟩
        refine ⟨z, 2147483489, rfl, rfl, by show (0 : Int) < 2147483489; decide, ?_⟩
        refine ⟨_, 40787, rfl, rfl, .inr ⟨by decide, by decide⟩, ?_⟩
        refine ⟨_, _, rfl, rfl, ?_⟩
        refine ⟨_, _, rfl, rfl, .inl ⟨_, rfl, ?_⟩⟩
        refine ⟨_, _, rfl, rfl, by show (0 : Int) < 2147483549; decide, ?_⟩
        refine ⟨_, rfl, b, _, 3, 3, rfl, rfl, upd_same, rfl, ?_⟩
        rw [upd_upd]
        exact h2 _ (i0 + 1) z _ (cnt0 + 1) (by omega) zp (Int.emod_nonneg _ (by decide)) (Int.emod_lt_of_pos _ (by decide))
      · rw [decide_eq_false hz]
        refine iteF ?_
        refine ⟨_, rfl, b, _, 3, .int st0, rfl, rfl, SqL.of upd_same, rfl, ?_⟩
        refine ⟨st0, 39989, rfl, rfl, .inr ⟨by decide, by decide⟩, ?_⟩
        refine ⟨_, rfl, .inl ⟨z, rfl, ?_⟩⟩
        refine ⟨z, 2147483489, rfl, rfl, by show (0 : Int) < 2147483489; decide, ?_⟩
        refine ⟨_, 40787, rfl, rfl, .inr ⟨by decide, by decide⟩, ?_⟩
        refine ⟨_, _, rfl, rfl, ?_⟩
        refine ⟨_, _, rfl, rfl, .inl ⟨_, rfl, ?_⟩⟩
        refine ⟨_, _, rfl, rfl, by show (0 : Int) < 2147483549; decide, ?_⟩
        refine ⟨_, rfl, b, _, 3, 3, rfl, rfl, upd_same, rfl, ?_⟩
        rw [upd_upd]
        exact h2 _ (i0 + 1) 0 _ (cnt0 + 1) (by omega) (by decide) (Int.emod_nonneg _ (by decide)) (Int.emod_lt_of_pos _ (by decide))
    · rw [decide_eq_false hlt]
      refine iteF ?_
      exact h2 none i0 0 st0 (cnt0 + 1) i0n (by decide) st0n st0l
  · rw [show decide (V.int g0 = V.int 0) = false from decide_eq_false (fun z => hg0 (V.int.inj z))]
    refine iteF (iteF ?_)
    exact h2 none i0 g0 st0 (cnt0 + 1) i0n g0n st0n st0l
theorem log_lt {n : Int} {k : Nat} (h : n.natAbs < 2 ^ k) (hk : k ≤ 9000) (k0 : 0 < k) : n.natAbs.log2 < 9000 := by
  by_cases z : n.natAbs = 0
  · rw [z]; decide
  · exact Nat.lt_of_lt_of_le ((Nat.log2_lt z).mpr h) hk
def b__law_pull (Dx : Df K mg "_law_pull" s__law_pull) : Binds K Dx.fd ["_law_bag_here", "_law_many"] [] := Dx.F.bindsN fun _ _ _ _ _ _ us hl => match us, hl with | [_, _], _ => rfl
def F__law_pick : Spec
  | [.bag, .lst rows], R, _ => 0 < rows.length ∧ rows.length ≤ 100000 ∧ ∀ d ∈ rows, R d
  | _, _, _ => False
theorem F__law_pick_is {rows : List D} {R : D → Prop} {Rx : Er → Prop} : F__law_pick [.bag, .lst rows] R Rx = (0 < rows.length ∧ rows.length ≤ 100000 ∧ ∀ d ∈ rows, R d) := rfl
theorem F__law_pick_of {ds : List D} {R : D → Prop} {Rx : Er → Prop} (h : F__law_pick ds R Rx) : ∃ rows, ds = [.bag, .lst rows] ∧ 0 < rows.length ∧ rows.length ≤ 100000 ∧ ∀ d ∈ rows, R d := by
  unfold F__law_pick at h
  split at h
  · exact ⟨_, rfl, h⟩
  · exact h.elim
def n__law_pick : List Str := ["_law_bag_here", "_law_rows"]
theorem sc__law_pick : FnScope n__law_pick ["_law_bag_here", "_law_rows"] (defScope s__law_pick) := ⟨rfl, rfl, rfl, by decide +kernel, rfl, by decide +kernel, by decide +kernel⟩
theorem ok__law_pick (D__law_pick : Df K mg "_law_pick" s__law_pick) (D__law_pull : Df K mg "_law_pull" s__law_pull) (m_int : mg "int" = none) (m_len : mg "len" = none) : FnOk P w K mg base (L2.CX P w) 2 D__law_pick.f D__law_pick.fd ["_law_bag_here", "_law_rows"] (spD F__law_pick) := by
  have G__law_pull := ok__law_pull (P := P) (w := w) (base := base) D__law_pull m_int m_len
  refine fn_d D__law_pick.F sc__law_pick (fun ds R Rx h => ?_) (fun cdv A outer s H E hr =>
    (ds_one (s_ret (d_ix (d_var 1) (d_call G__law_pull (hr.mono (by decide)) D__law_pull.g D__law_pull.F.kp (b__law_pull D__law_pull) .nil dfR_nil pass_d (da_cons (d_var 0) (da_cons (d_callB b_len m_len boot_len (da_cons (d_var 1) da_nil)) da_nil))))))) fun ds R Rx h => ?_
  · obtain ⟨rows, rfl, _⟩ := F__law_pick_of h
    rfl
  · obtain ⟨rows, rfl, h0, h1, h⟩ := F__law_pick_of h
    walk_at "dl"
    simp only [n__law_pick, F__law_pull_is]
    walk_at "dl"
    refine ⟨by omega, log_lt (k := 20) (by omega) (by decide) (by decide), fun r hr0 hr1 => ?_⟩
    obtain ⟨j, rfl⟩ : ∃ j : Nat, r = (j : Int) := ⟨r.toNat, by omega⟩
    have hj : j < rows.length := by omega
    exact ⟨rows[j], atI_nat (by simp [hj]), h _ (List.getElem_mem hj)⟩
def b__law_pick (Dx : Df K mg "_law_pick" s__law_pick) : Binds K Dx.fd ["_law_bag_here", "_law_rows"] [] := Dx.F.bindsN fun _ _ _ _ _ _ us hl => match us, hl with | [_, _], _ => rfl
theorem fn_false {x : Str} {st : Stmt} {F : Spec} {ps : List Str} (D0 : Df K mg x st) (h : ∀ ds R Rx, ¬ F ds R Rx) : FnOk P w K mg base (L2.CX P w) 0 D0.f D0.fd ps (spD F) :=
  ⟨fun vs H Q E ⟨_, _, ds, R, Rx, _, _, _, _, z, _⟩ => (h ds R Rx z).elim, fun A outer s H args us vs Q E _ _ _ _ ⟨_, _, ds, R, Rx, _, _, _, _, z, _⟩ => (h ds R Rx z).elim⟩
def F__law_same (n : Nat) : Spec
  | [x, y], R, _ => x = y ∧ Good n x ∧ R (.bl true)
  | _, _, _ => False
theorem F__law_same_is {n : Nat} {x y : D} {R : D → Prop} {Rx : Er → Prop} : F__law_same n [x, y] R Rx = (x = y ∧ Good n x ∧ R (.bl true)) := rfl
theorem F__law_same_of {n : Nat} {ds : List D} {R : D → Prop} {Rx : Er → Prop} (h : F__law_same n ds R Rx) : ∃ x, ds = [x, x] ∧ Good n x ∧ R (.bl true) := by
  unfold F__law_same at h
  split at h
  · obtain ⟨rfl, h⟩ := h
    exact ⟨_, rfl, h⟩
  · exact h.elim
theorem pairs_self {xs : List D} {i : Nat} {d : D} (h : (pairs xs xs)[i]? = some d) : ∃ x, x ∈ xs ∧ d = .tup [x, x] := by
  obtain ⟨a, b, e1, e2, e3⟩ := pairs_get _ _ _ _ h
  rw [e1] at e2
  cases e2
  exact ⟨a, List.mem_of_getElem? e1, e3⟩
theorem trues (xs : List D) : asBls (xs.map fun _ => D.bl true) = some (xs.map fun _ => true) := by
  have := asBls_map (xs.map fun _ => true)
  rw [List.map_map] at this
  exact this
theorem trues_all (xs : List D) : (xs.map fun _ => true).all _root_.id = true := by
  induction xs with
  | nil => rfl
  | cons x xs ih => exact ih
def b__law_same (Dx : Df K mg "_law_same" s__law_same) : Binds K Dx.fd ["_law_found", "_law_due"] [] := Dx.F.bindsN fun _ _ _ _ _ _ us hl => match us, hl with | [_, _], _ => rfl
def n__law_same : List Str := ["_law_found", "_law_due", "_law_one", "_law_two"]
theorem sc__law_same : FnScope n__law_same ["_law_found", "_law_due"] (defScope s__law_same) := ⟨rfl, rfl, rfl, by decide +kernel, rfl, by decide +kernel, by decide +kernel⟩
structure TSame (mg : Str → Option Value) : Prop where
  m_isinstance : mg "isinstance" = none
  m_list : mg "list" = none
  m_tuple : mg "tuple" = none
  m_bool : mg "bool" = none
  m_int : mg "int" = none
  m_str : mg "str" = none
  m_len : mg "len" = none
  m_all : mg "all" = none
  m_zip : mg "zip" = none
theorem ok__law_same (T : TSame mg) (D__law_same : Df K mg "_law_same" s__law_same) : ∀ n : Nat, FnOk P w K mg base (L2.CX P w) n D__law_same.f D__law_same.fd ["_law_found", "_law_due"] (spD (F__law_same n))
  | 0 => fn_false D__law_same fun ds R Rx h => by
    obtain ⟨x, _, z, _⟩ := F__law_same_of h
    cases x <;> exact (show False from z).elim
  | n + 1 => by
    have G__law_same := ok__law_same T D__law_same n
    refine fn_d D__law_same.F sc__law_same (fun ds R Rx h => ?_) (fun cdv A outer s H E hr =>
      have hu := hr.units
      (ds_cons (s_if (dt_tru (d_callB b_isi T.m_isinstance PyProof.Rows.boot_isinstance (da_cons (d_var 1) (da_cons (d_tup (da_cons (d_bty T.m_list PyProof.Rows.boot_list) (da_cons (d_bty T.m_tuple PyProof.Rows.boot_tuple) da_nil))) da_nil)))) (ds_cons (s_if (dt_cmp (c_ne hu) (d_callB b_isi T.m_isinstance PyProof.Rows.boot_isinstance (da_cons (d_var 0) (da_cons (d_bty T.m_list PyProof.Rows.boot_list) da_nil))) (d_callB b_isi T.m_isinstance PyProof.Rows.boot_isinstance (da_cons (d_var 1) (da_cons (d_bty T.m_list PyProof.Rows.boot_list) da_nil))) (nomark _)) (ds_one (s_ret d_bl)) ds_nil)
          (ds_cons (s_if (dt_cmp (c_ne hu) (d_callB b_isi T.m_isinstance PyProof.Rows.boot_isinstance (da_cons (d_var 0) (da_cons (d_bty T.m_tuple PyProof.Rows.boot_tuple) da_nil))) (d_callB b_isi T.m_isinstance PyProof.Rows.boot_isinstance (da_cons (d_var 1) (da_cons (d_bty T.m_tuple PyProof.Rows.boot_tuple) da_nil))) (nomark _)) (ds_one (s_ret d_bl)) ds_nil)
          (ds_one (s_ret (d_and (d_cmp (c_eq hu) (d_callB b_len T.m_len boot_len (da_cons (d_var 0) da_nil)) (d_callB b_len T.m_len boot_len (da_cons (d_var 1) da_nil)) (nomark _)) (d_one (d_callB (b_all rfl) T.m_all PyProof.Rows.boot_all (da_cons (d_ofF (f_lc rfl sc__law_same.nd (i_zip (da_cons (d_var 0) (da_cons (d_var 1) da_nil)) T.m_zip) (blkOk_by (own := [("_law_one", 2), ("_law_two", 3)]) (N := n__law_same) (sc := defScope s__law_same) (by decide +kernel)) (by decide) (fun _ _ _ _ _ => (g_tup (n := 2) rfl (gs_cons (g_name (i := 2) sc__law_same.nd) (gs_cons (g_name (i := 3) sc__law_same.nd) gs_nil)))) (fun _ _ _ _ _ => dts_nil) (fun _ _ _ _ _ => (d_call G__law_same hr D__law_same.g D__law_same.F.kp (b__law_same D__law_same) .nil dfR_nil passL (da_cons (d_var 2) (da_cons (d_var 3) da_nil)))))) da_nil)))))))) ds_nil)
      (ds_cons (s_if (dw_pt (dw_or (dt_cmp c_is (d_var 1) d_non (nomark _)) (dw_or1 (dt_cmp c_is (d_var 0) d_non (nomark _))))) (ds_one (s_ret (d_and (d_cmp c_is (d_var 1) d_non (nomark _)) (d_one (d_cmp c_is (d_var 0) d_non (nomark _)))))) ds_nil)
      (ds_cons (s_if (dt_cmp (c_ne hu) (d_callB b_isi T.m_isinstance PyProof.Rows.boot_isinstance (da_cons (d_var 1) (da_cons (d_bty T.m_bool PyProof.Rows.boot_bool) da_nil))) (d_callB b_isi T.m_isinstance PyProof.Rows.boot_isinstance (da_cons (d_var 0) (da_cons (d_bty T.m_bool PyProof.Rows.boot_bool) da_nil))) (nomark _)) (ds_one (s_ret d_bl)) ds_nil)
      (ds_cons (s_if (dt_cmp (c_ne hu) (d_callB b_isi T.m_isinstance PyProof.Rows.boot_isinstance (da_cons (d_var 1) (da_cons (d_bty T.m_int PyProof.Rows.boot_int) da_nil))) (d_callB b_isi T.m_isinstance PyProof.Rows.boot_isinstance (da_cons (d_var 0) (da_cons (d_bty T.m_int PyProof.Rows.boot_int) da_nil))) (nomark _)) (ds_one (s_ret d_bl)) ds_nil)
      (ds_one (s_ret (d_and (d_cmp (c_eq hu) (d_callB b_isi T.m_isinstance PyProof.Rows.boot_isinstance (da_cons (d_var 1) (da_cons (d_bty T.m_str PyProof.Rows.boot_str) da_nil))) (d_callB b_isi T.m_isinstance PyProof.Rows.boot_isinstance (da_cons (d_var 0) (da_cons (d_bty T.m_str PyProof.Rows.boot_str) da_nil))) (nomark _)) (d_one (d_cmp (c_eq hu) (d_var 0) (d_var 1) (nomark _))))))))))) fun ds R Rx h => ?_
    · obtain ⟨x, rfl, _⟩ := F__law_same_of h
      rfl
    · obtain ⟨x, rfl, hg, hR⟩ := F__law_same_of h
      clear h
      obtain ⟨hd, hn⟩ := good_dat hg
      cases x <;> try exact (Bool.false_ne_true hd).elim
      all_goals
        simp only [n__law_same]
        walk_at "dl"
        try exact hR
      all_goals
        refine LcP.map (fun _ => .bl true) ?_ (fun i d N e hN => ?_) ?_
        · have := hg.1
          rw [pairs_length, sizeLine_eq]
          omega
        · obtain ⟨x, hx, rfl⟩ := pairs_self e
          walk_at "dl"
          exact ⟨rfl, hg.2 x hx, hN⟩
        · exact ⟨_, trues _, by rw [trues_all]; exact hR⟩
def isNum : D → Int → Int → Bool
  | .int i, lo, hi => decide (lo ≤ i) && decide (i ≤ hi)
  | _, _, _ => false
def F_is_number : Spec
  | [x, .int lo, .int hi], R, _ => x.dat = true ∧ R (.bl (isNum x lo hi))
  | _, _, _ => False
theorem F_is_number_is {x : D} {lo hi : Int} {R : D → Prop} {Rx : Er → Prop} : F_is_number [x, .int lo, .int hi] R Rx = (x.dat = true ∧ R (.bl (isNum x lo hi))) := rfl
theorem F_is_number_of {ds : List D} {R : D → Prop} {Rx : Er → Prop} (h : F_is_number ds R Rx) : ∃ x lo hi, ds = [x, .int lo, .int hi] ∧ x.dat = true ∧ R (.bl (isNum x lo hi)) := by
  unfold F_is_number at h
  split at h
  · exact ⟨_, _, _, rfl, h⟩
  · exact h.elim
def b_is_number (Dx : Df K mg "is_number" s_is_number) : Binds K Dx.fd ["value", "least", "most"] [] := Dx.F.bindsN fun _ _ _ _ _ _ us hl => match us, hl with | [_, _, _], _ => rfl
def n_is_number : List Str := ["value", "least", "most"]
theorem sc_is_number : FnScope n_is_number ["value", "least", "most"] (defScope s_is_number) := ⟨rfl, rfl, rfl, by decide +kernel, rfl, by decide +kernel, by decide +kernel⟩
theorem ok_is_number (D_is_number : Df K mg "is_number" s_is_number) (m_isinstance : mg "isinstance" = none) (m_int : mg "int" = none) (m_bool : mg "bool" = none) : FnOk P w K mg base (L2.CX P w) 1 D_is_number.f D_is_number.fd ["value", "least", "most"] (spD F_is_number) := by
  refine fn_d D_is_number.F sc_is_number (fun ds R Rx h => ?_) (fun cdv A outer s H E hr =>
    (ds_one (s_ret (d_and (d_callB b_isi m_isinstance PyProof.Rows.boot_isinstance (da_cons (d_var 0) (da_cons (d_bty m_int PyProof.Rows.boot_int) da_nil))) (d_and (d_not (d_callB b_isi m_isinstance PyProof.Rows.boot_isinstance (da_cons (d_var 0) (da_cons (d_bty m_bool PyProof.Rows.boot_bool) da_nil)))) (d_one (d_chain c_le c_le (d_var 1) (d_var 0) (d_var 2)))))))) fun ds R Rx h => ?_
  · obtain ⟨x, lo, hi, rfl, _⟩ := F_is_number_of h
    rfl
  · obtain ⟨x, lo, hi, rfl, hd, hR⟩ := F_is_number_of h
    clear h
    simp only [n_is_number]
    cases x <;> try exact (Bool.false_ne_true hd).elim
    all_goals
      simp only [isNum] at hR
      walk_at "dl"
      try exact hR
    rename_i i
    refine ⟨fun z => ?_, fun z => ?_⟩
    · rw [decide_eq_true z, Bool.true_and] at hR
      exact hR
    · rw [decide_eq_false z, Bool.false_and] at hR
      exact hR
def bin : Nat → Nat → Nat
  | _, 0 => 1
  | 0, _ + 1 => 0
  | n + 1, k + 1 => bin n k + bin n (k + 1)
theorem bin_zero (n : Nat) : bin n 0 = 1 := by cases n <;> rfl
theorem bin_gt : ∀ (n k : Nat), n < k → bin n k = 0
  | n, 0, h => absurd h (by omega)
  | 0, k + 1, _ => rfl
  | n + 1, k + 1, h => by rw [bin, bin_gt n k (by omega), bin_gt n (k + 1) (by omega)]
/-- (k + 1) C(n, k + 1) = C(n, k) (n - k) -/
theorem bin_step : ∀ (n k : Nat), (k + 1) * bin n (k + 1) = bin n k * (n - k)
  | 0, 0 => rfl
  | 0, k + 1 => by simp [bin]
  | n + 1, 0 => by
    have h := bin_step n 0
    rw [bin_zero] at h
    have e : bin n 1 = n := by
      have h : (0 + 1) * bin n 1 = 1 * (n - 0) := h
      omega
    rw [bin_zero]
    show (0 + 1) * (bin n 0 + bin n 1) = 1 * (n + 1 - 0)
    rw [bin_zero, e]
    omega
  | n + 1, k + 1 => by
    have h1 := bin_step n k
    have h2 := bin_step n (k + 1)
    by_cases hk : k < n
    · obtain ⟨m, rfl⟩ : ∃ m, n = k + 1 + m := ⟨n - k - 1, by omega⟩
      rw [bin]
      have e1 : k + 1 + m - k = m + 1 := by omega
      have e2 : k + 1 + m - (k + 1) = m := by omega
      have e3 : k + 1 + m + 1 - (k + 1) = m + 1 := by omega
      rw [e1] at h1
      rw [e2] at h2
      rw [e3, Nat.mul_add, h2]
      show (k + 1 + 1) * bin (k + 1 + m) (k + 1) + bin (k + 1 + m) (k + 1) * m = (bin (k + 1 + m) k + bin (k + 1 + m) (k + 1)) * (m + 1)
      generalize bin (k + 1 + m) (k + 1) = b at h1
      rw [Nat.add_mul (bin (k + 1 + m) k), ← h1, Nat.mul_succ b m, Nat.succ_mul (k + 1) b]
      omega
    · by_cases hk2 : k = n
      · subst hk2
        rw [bin_gt (k + 1) (k + 1 + 1) (by omega)]
        have e : k + 1 - (k + 1) = 0 := by omega
        rw [e]
        simp
      · rw [bin_gt (n + 1) (k + 1 + 1) (by omega), bin_gt (n + 1) (k + 1) (by omega)]
        simp
theorem bin_le_pow : ∀ (n k : Nat), bin n k ≤ (n + 1) ^ k
  | n, 0 => by rw [bin_zero]; exact Nat.le_refl _
  | 0, k + 1 => by rw [bin]; exact Nat.zero_le _
  | n + 1, k + 1 => by
    rw [bin]
    have h1 := bin_le_pow n k
    have h2 := bin_le_pow n (k + 1)
    have h3 : (n + 1) ^ k ≤ (n + 1 + 1) ^ k := Nat.pow_le_pow_left (by omega) k
    rw [Nat.pow_succ] at h2 ⊢
    have h4 : (n + 1) ^ k * (n + 1) ≤ (n + 1 + 1) ^ k * (n + 1) := Nat.mul_le_mul_right _ h3
    rw [Nat.mul_succ]
    omega
/-- the quotient of a turn -/
theorem bin_div {n i : Nat} (h : i ≤ n) : (((bin n i : Nat) : Int) * ((n : Int) - (i : Int))).fdiv ((i : Int) + 1) = ((bin n (i + 1) : Nat) : Int) := by
  have e : ((n : Int) - (i : Int)) = ((n - i : Nat) : Int) := by omega
  rw [e, ← Int.natCast_mul, ← bin_step n i, Int.natCast_mul]
  rw [Int.fdiv_eq_ediv_of_nonneg _ (by omega)]
  have e2 : (((i + 1 : Nat) : Int)) = (i : Int) + 1 := by omega
  rw [e2]
  exact Int.mul_ediv_cancel_left _ (by omega)
theorem bin_bits {n i : Nat} (hn : n < 2 ^ 140) (hi : i ≤ 2000) : bin n i < 2 ^ 282001 := by
  have h1 := bin_le_pow n i
  have h2 : (n + 1) ^ i ≤ (2 ^ 141) ^ i := Nat.pow_le_pow_left (by omega) i
  have h3 : (2 ^ 141) ^ i = 2 ^ (141 * i) := (Nat.pow_mul 2 141 i).symm
  have h4 : 2 ^ (141 * i) ≤ 2 ^ 282000 := Nat.pow_le_pow_right (by decide) (by omega)
  have h5 : 2 ^ 282000 < 2 ^ 282001 := Nat.pow_lt_pow_right (by decide) (by decide)
  omega
def chs (n k : Int) : Int := if n < k then 0 else ((bin n.toNat k.toNat : Nat) : Int)
theorem chs_nat (a b : Nat) : chs (a : Int) (b : Int) = ((bin a b : Nat) : Int) := by
  unfold chs
  split
  · rw [bin_gt a b (by omega)]
    rfl
  · rw [Int.toNat_natCast, Int.toNat_natCast]
def F_choose : Spec
  | [.int n, .int k], R, _ => 0 ≤ n ∧ n < 2 ^ 140 ∧ 0 ≤ k ∧ k ≤ 2000 ∧ R (.int (chs n k))
  | _, _, _ => False
theorem F_choose_is {n k : Int} {R : D → Prop} {Rx : Er → Prop} : F_choose [.int n, .int k] R Rx = (0 ≤ n ∧ n < 2 ^ 140 ∧ 0 ≤ k ∧ k ≤ 2000 ∧ R (.int (chs n k))) := rfl
theorem F_choose_of {ds : List D} {R : D → Prop} {Rx : Er → Prop} (h : F_choose ds R Rx) : ∃ n k, ds = [.int n, .int k] ∧ 0 ≤ n ∧ n < 2 ^ 140 ∧ 0 ≤ k ∧ k ≤ 2000 ∧ R (.int (chs n k)) := by
  unfold F_choose at h
  split at h
  · exact ⟨_, _, rfl, h⟩
  · exact h.elim
def b_choose (Dx : Df K mg "choose" s_choose) : Binds K Dx.fd ["n", "k"] [] := Dx.F.bindsN fun _ _ _ _ _ _ us hl => match us, hl with | [_, _], _ => rfl
def n_choose : List Str := ["n", "k", "found", "at"]
theorem sc_choose : FnScope n_choose ["n", "k"] (defScope s_choose) := ⟨rfl, rfl, rfl, by decide +kernel, rfl, by decide +kernel, by decide +kernel⟩
theorem ok_choose (D_choose : Df K mg "choose" s_choose) (m_range : mg "range" = none) : FnOk P w K mg base (L2.CX P w) 1 D_choose.f D_choose.fd ["n", "k"] (spD F_choose) := by
  refine fn_d D_choose.F sc_choose (fun ds R Rx h => ?_) (fun cdv A outer s H E hr =>
    ds_cons (s_if (dt_cmp c_gt (d_var 1) (d_var 0) (nomark _)) (ds_one (s_ret d_int)) ds_nil)
    (ds_cons (s_set (i := 2) sc_choose.nd d_int)
    (ds_cons (s_for (passes_of rfl) rfl (i_rg1 (da_cons (d_var 1) da_nil) m_range) (g_name (i := 3) sc_choose.nd) (ds_one (s_set (i := 2) sc_choose.nd (d_fdiv (d_mul (d_var 2) (d_sub (d_var 0) (d_var 3))) (d_add (d_var 3) d_int)))))
    (ds_one (s_ret (d_var 2)))))) fun ds R Rx h => ?_
  · obtain ⟨n, k, rfl, _⟩ := F_choose_of h
    rfl
  · obtain ⟨n, k, rfl, n0, n1, k0, k1, hR⟩ := F_choose_of h
    clear h
    simp only [n_choose]
    walk_at "dl"
    unfold chs at hR
    refine ⟨fun z => ?_, fun z => ?_⟩
    · rw [if_pos z] at hR
      exact hR
    · rw [if_neg z] at hR
      obtain ⟨m, rfl⟩ : ∃ m : Nat, n = (m : Int) := ⟨n.toNat, by omega⟩
      obtain ⟨j, rfl⟩ : ∃ j : Nat, k = (j : Int) := ⟨k.toNat, by omega⟩
      rw [Int.toNat_natCast, Int.toNat_natCast] at hR
      have m1 : m < 2 ^ 140 := by omega
      refine ⟨by omega, by omega, fun i env => ∃ o, env = [some (.val (.int m)), some (.val (.int j)), some (.val (.int (bin m i : Nat))), o], ⟨none, by rw [bin_zero]; rfl⟩, ?_, ?_⟩
      · rintro i d env e ⟨o, rfl⟩
        rw [ups_get] at e
        split at e <;> cases e
        rename_i hi
        rw [Int.toNat_natCast] at hi
        walk_at "dl"
        refine ⟨.inr (wide_mul (a := 282001) (b := 141) ?_ ?_ (by decide) (by decide) (by decide)), .inl ⟨by omega, by omega⟩, ?_⟩
        · rw [Int.natAbs_natCast]
          exact bin_bits m1 (by omega)
        · omega
        · rw [Int.zero_add, bin_div (by omega)]
      · rintro env ⟨o, rfl⟩
        rw [ups_length, Int.toNat_natCast]
        walk_at "dl"
        exact hR
def spLaw (K : PySem.W.Frag) : Sp := fun vs H Q _ => ∃ (a : Addr) (ns : List Int), vs = [.ref a] ∧ SqL K H a (ns.map V.int) ∧ ns.length ≤ 63 ∧ (∀ p ∈ TbC.ts, H p.1 = some (.tbl #[])) ∧ ∀ H', Q (.bl true) H'
def b__law_bag (Dx : Df K mg "_law_bag" s__law_bag) : Binds K Dx.fd ["_law_script"] [] := Dx.F.bindsN fun _ _ _ _ _ _ us hl => match us, hl with | [_], _ => rfl
def lawEn (a : Addr) (n : Nat) : En := some (.val (.adr a)) :: some (.val .bag) :: List.replicate n none
theorem FunD_okC {CX : CXT} {x qual : Str} {params : Arguments} {body : List Stmt} {scope : Scope} {dvs : List V} {kws : List (Str × V)} {f : Addr} {fd : FuncData} {N ps : List Str} {k : Nat} {sp : Sp} (F : FunD K x qual params body scope dvs kws f fd) (S : FnScope N ps scope) (len : ∀ vs H Q E, sp vs H Q E → vs.length = ps.length)
    (hbody : ∀ (A : Around) (outer : List Env) (s : Shared) (H : Hp) (vs : List V) (Q : VK) (E : XK), Room k (A.deeper (PyProof.Rows.envOfC qual scope s.heap.objs.size f fd.code)) → sp vs H Q E →
      ∃ t, PSs (cxOf CX P w K mg base N qual scope f fd.code A outer s H E) body t ∧ t { nx := fun _ H' => Q .non H', rt := Q } (L2.start N vs) H) : FnOk P w K mg base CX (k + 1) f fd ps sp := by
  obtain ⟨oc, od, dV, kV, doc, pm, an, cdv, ct, osl, rfl, lk, hcd, _, _⟩ := F.ex
  exact fn_of lk hcd S len fun A outer s H vs Q E hr hsp => hbody A outer s H vs Q E hr hsp
theorem law_dL {T : List (Str × Addr) → DTS} {N : List Str} {n k : Nat} {rest : List Stmt} {p1 p2 p3 p4 : Pos} {ps : Pos} (D_law : Df K mg "law" s_law) (S : FnScope N ["_law_script"] (defScope s_law)) (hN : N[1]? = some ("_law_bag_here" : Str)) (hN0 : N[0]? = some ("_law_script" : Str)) (hn : N.length = n + 2) (D__law_bag : Df K mg "_law_bag" s__law_bag) (m_int : mg "int" = none)
    (hb : defBody s_law = .Assign [.Name "_law_bag_here" p1] (.Call (.Name "_law_bag" p2) [.Name "_law_script" p3] [] p4) ps :: rest)
    (hx : Loc (defScope s_law) "_law_bag_here") (hg : (defScope s_law).names.lookup ("_law_bag" : Str) = some .globalImplicit) (hv : Vis (defScope s_law) "_law_script")
    (hbody : ∀ (cl : List (Str × Addr)) (A : Around) (outer : List Env) (s : Shared) (H : Hp) (E : XK), Room (k + 1) (A.deeper (PyProof.Rows.envOfC "law" (defScope s_law) s.heap.objs.size D_law.f D_law.fd.code)) → (cxOf (L2.CX P w) P w K mg base N "law" (defScope s_law) D_law.f D_law.fd.code A outer s H E).env.cells = cl → DSs (cxOf (L2.CX P w) P w K mg base N "law" (defScope s_law) D_law.f D_law.fd.code A outer s H E) E rest (T cl))
    (hT : ∀ a cl, T cl { nx := fun _ => False, rt := fun _ d => d = .bl true, ex := noX } (lawEn a n)) : FnOk P w K mg base (L2.CX P w) (k + 2) D_law.f D_law.fd ["_law_script"] (spLaw K) := by
  have G := ok__law_bag (P := P) (w := w) (base := base) D__law_bag m_int
  refine FunD_okC D_law.F S (fun vs H Q E ⟨a, ns, z, _⟩ => by rw [z]; rfl) fun A outer s H vs Q E hr h => ?_
  obtain ⟨a, ns, rfl, hS, hlen, hTb, q⟩ := h
  obtain ⟨t, p, sm⟩ := hbody _ A outer s H E hr rfl
  have hf : (cxOf (L2.CX P w) P w K mg base N "law" (defScope s_law) D_law.f D_law.fd.code A outer s H E).fn ("_law_bag_here" : Str) = true := rfl
  rw [hb]
  refine ⟨_, pss_cons (ps_set (i := 1) S.nd hN hx (pe_call G (hr.mono (by omega)) hg D__law_bag.g D__law_bag.F.kp (b__law_bag D__law_bag) .nil passL (pa_cons (pe_var (i := 0) hN0 hv) pa_nil)) rfl (.inl hf)) p, ?_⟩
  have e0 : (L2.start N [.ref a])[0]? = some (some (V.ref a)) := rfl
  refine ⟨_, e0, a, ns, rfl, hS, hlen, fun b ca H' st nb same eb eca h0 h1 => ?_⟩
  -- from here on only the cells are known to stay
  refine sm ⟨some b, ca, H', fun x => if x = ca then some (.lst (ns.map V.int)) else none⟩ _ H' (fun x => if x = ca then some (.lst (ns.map V.int)) else none) (lawEn a n) { nx := fun _ => False, rt := fun _ d => d = .bl true, ex := noX } xok0 ?_ (hT a _) _
    ⟨fun _ _ _ _ _ _ z => z.elim, fun n v H1 S1 d k1 s1 r1 z => ?_, fun _ _ _ _ _ _ z => z.elim, fun _ _ _ _ _ _ z => z.elim⟩
  · refine ⟨⟨fun x o e => ?_, Same.refl _, fun _ _ e _ => e, fun x e _ => e, fun b' e => ?_, ⟨fun p hp => ⟨LamX.TabS.nil (same _ _ (hTb p hp)), if_neg fun z => by
      have e := same _ _ (hTb p hp)
      rw [z, eca] at e
      cases e⟩, fun p hp => by
      show H' p.1 ≠ none
      rw [same _ _ (hTb p hp)]
      exact fun z => nomatch z⟩⟩, ?_, fun i x e => ?_, fun i j x1 x2 v1 v2 a2 _ e _ _ _ f _ => ?_⟩
    · by_cases z : x = ca
      · subst z
        have e2 : some (HO.lst (ns.map V.int)) = some o := by rw [← e]; exact (if_pos rfl).symm
        rw [eca]
        exact e2
      · have e2 : (none : Option HO) = some o := by rw [← e]; exact (if_neg z).symm
        cases e2
    · cases e
      refine ⟨⟨if_neg nb, ns, 0, 0, st, 0, eb, if_pos rfl, by decide, by decide, h0, h1⟩, ?_⟩
      show H' b ≠ none
      rw [eb]
      exact fun z => nomatch z
    · unfold lawEn L2.start
      simp [hn]
    · match i, e with
      | 0, e =>
        cases e
        refine ⟨.ref a, ?_, rfl⟩
        rw [List.getElem?_set_ne (by decide)]
        exact e0
      | 1, e =>
        cases e
        refine ⟨.ref b, ?_, b, rfl, rfl⟩
        rw [List.getElem?_set_self (by unfold L2.start; simp [hn])]
      | i + 2, e =>
        have e : (List.replicate n (none : Option DV))[i]? = some (some x) := e
        rw [List.getElem?_replicate] at e
        split at e <;> cases e
    · match i, e with
      | 0, e => cases e; exact f
      | 1, e => cases e; exact f
      | i + 2, e =>
        have e : (List.replicate n (none : Option DV))[i]? = some (some x1) := e
        rw [List.getElem?_replicate] at e
        split at e <;> cases e
  · have z : d = .bl true := z
    subst z
    obtain ⟨_, _, _, r2⟩ := r1.old k1
    rw [show v = .bl true from r2]
    exact q H1
/-- a def with lambdas in it -/
theorem fn_dL {T : List (Str × Addr) → DTS} {x qual : Str} {st : Stmt} {dvs : List V} {kws : List (Str × V)} {f : Addr} {fd : FuncData} {N ps : List Str} {k : Nat} {F : Spec} (Fd : FnS K x qual st dvs kws f fd) (S : FnScope N ps (defScope st)) (len : ∀ ds R Rx, F ds R Rx → ds.length = ps.length)
    (hbody : ∀ (cl : List (Str × Addr)) (A : Around) (outer : List Env) (s : Shared) (H : Hp) (E : XK), Room k (A.deeper (PyProof.Rows.envOfC qual (defScope st) s.heap.objs.size f fd.code)) → (cxOf (L2.CX P w) P w K mg base N qual (defScope st) f fd.code A outer s H E).env.cells = cl →
      DSs (cxOf (L2.CX P w) P w K mg base N qual (defScope st) f fd.code A outer s H E) E (defBody st) (T cl))
    (hT : ∀ cl ds R Rx, F ds R Rx → T cl { nx := fun _ => R .non, rt := fun _ => R, ex := Rx } (startE N ds)) : FnOk P w K mg base (L2.CX P w) (k + 1) f fd ps (spD F) := by
  refine FunD_okC Fd S (fun vs H Q E ⟨c, S, ds, R, Rx, _, _, _, l, h, _⟩ => by rw [l.length]; exact len _ _ _ h) fun A outer s H vs Q E hr hsp => ?_
  obtain ⟨c, Sh, ds, R, Rx, h0, hs0, kf, l, h, q, xo⟩ := hsp
  obtain ⟨t, p, sm⟩ := hbody _ A outer s H E hr rfl
  refine ⟨t, p, sm c _ H Sh _ _ xo (kn_start kf l) (hT _ ds R Rx h) _ ⟨fun σ H1 S1 env k1 s1 r1 => ?_, fun n v H1 S1 d k1 s1 r1 t1 => by
    obtain ⟨S2, k2, _, r2⟩ := r1.old k1
    exact q v H1 S2 d k2 r2 t1, fun σ H1 S1 env k1 s1 r1 => r1, fun σ H1 S1 env k1 s1 r1 => r1⟩⟩
  exact q .non H1 S1 .non k1.kf rfl r1
def errN : List Str := ["code", "at", "most", "name", "user", "limit", "line", "given"]
/-- an error class of the program: its instances' attributes can be read -/
def ErrOk (K : PySem.W.Frag) (C : Addr) : Prop := ∀ n ∈ errN, ErrAt K C n
def fldOf (code : Str) (get : Str → Option D) : Option (List D) :=
  if code = "InvalidTurn" ∨ code = "InvalidChange" ∨ code = "InvalidForm" ∨ code = "InvalidCommand" then (get "at").map ([·])
  else if code = "Unlike" ∨ code = "Ended" ∨ code = "NothingLeft" then some []
  else if code = "TooLong" ∨ code = "TooMany" ∨ code = "TooHigh" then (get "most").map ([·])
  else if code = "InUse" then (get "name").bind fun x => (get "user").map fun y => [x, y]
  else if code = "NotClosed" ∨ code = "UnknownName" ∨ code = "DuplicateName" then (get "name").map ([·])
  else if code = "Full" then (get "limit").map ([·])
  else if code = "InvalidPage" then (get "line").map ([·])
  else (get "given").map ([·])
def F__law_field (a dx C : Addr) : Spec
  | [.exc a' dx' C' ks ds], R, _ => (a' = a ∧ dx' = dx ∧ C' = C) ∧ ∃ code xs, (ks.zip ds).lookup ("code" : Str) = some (D.str code) ∧ fldOf code (fun n => (ks.zip ds).lookup n) = some xs ∧ R (.tup xs)
  | _, _, _ => False
theorem F__law_field_of {a dx C : Addr} {ds : List D} {R : D → Prop} {Rx : Er → Prop} (h : F__law_field a dx C ds R Rx) : ∃ ks es code xs, ds = [.exc a dx C ks es] ∧ (ks.zip es).lookup ("code" : Str) = some (D.str code) ∧ fldOf code (fun n => (ks.zip es).lookup n) = some xs ∧ R (.tup xs) := by
  unfold F__law_field at h
  split at h
  · obtain ⟨⟨rfl, rfl, rfl⟩, code, xs, h1, h2, h3⟩ := h
    exact ⟨_, _, code, xs, rfl, h1, h2, h3⟩
  · exact h.elim
def n__law_field : List Str := ["_law_e"]
theorem sc__law_field : FnScope n__law_field ["_law_e"] (defScope s__law_field) := ⟨rfl, rfl, rfl, by decide +kernel, rfl, by decide +kernel, by decide +kernel⟩
def b__law_field (Dx : Df K mg "_law_field" s__law_field) : Binds K Dx.fd ["_law_e"] [] := Dx.F.bindsN fun _ _ _ _ _ _ us hl => match us, hl with | [_], _ => rfl
theorem xXat_var {K : PySem.W.Frag} {a dx C : Addr} {n : Str} {env : En} {R : D → Prop} {Rx : Er → Prop} {ks : List Str} {es : List D} : xXat K a dx C n (xVar 0) (some (.val (.exc a dx C ks es)) :: env) R Rx = (ErrAt K C n ∧ ∃ x, (ks.zip es).lookup n = some x ∧ R x) := by
  unfold xXat
  rw [xVar_0]
  simp only [D.exc.injEq, true_and, Option.some.injEq, DV.val.injEq, exists_eq_left', and_assoc]
  apply propext
  constructor
  · rintro ⟨h, ks', es', x, rfl, rfl, h1, h2⟩
    exact ⟨h, x, h1, h2⟩
  · rintro ⟨h, x, h1, h2⟩
    exact ⟨h, ks, es, x, rfl, rfl, h1, h2⟩
theorem opIn3 {x a b c : Str} {F : Bool → Prop} : opIn (.str x) (.tup [.str a, .str b, .str c]) (asB F) = F (decide (x = a ∨ x = b ∨ x = c)) := by
  have e : inV (V.str x) [V.str a, V.str b, V.str c] = decide (x = a ∨ x = b ∨ x = c) := by
    unfold inV
    rw [Bool.eq_iff_iff]
    simp only [List.any_cons, List.any_nil, eqV, Bool.or_false, Bool.or_eq_true, beq_iff_eq, decide_eq_true_eq, eq_comm (a := x)]
  show (true = true ∧ true = true ∧ F (inV (V.str x) [V.str a, V.str b, V.str c])) = _
  rw [e]
  simp only [true_and]
theorem opIn4 {x a b c d : Str} {F : Bool → Prop} : opIn (.str x) (.tup [.str a, .str b, .str c, .str d]) (asB F) = F (decide (x = a ∨ x = b ∨ x = c ∨ x = d)) := by
  have e : inV (V.str x) [V.str a, V.str b, V.str c, V.str d] = decide (x = a ∨ x = b ∨ x = c ∨ x = d) := by
    unfold inV
    rw [Bool.eq_iff_iff]
    simp only [List.any_cons, List.any_nil, eqV, Bool.or_false, Bool.or_eq_true, beq_iff_eq, decide_eq_true_eq, eq_comm (a := x)]
  show (true = true ∧ true = true ∧ F (inV (V.str x) [V.str a, V.str b, V.str c, V.str d])) = _
  rw [e]
  simp only [true_and]
theorem ok__law_field {a dx C : Addr} (D__law_field : Df K mg "_law_field" s__law_field) (eo : ErrOk K C) (hE : ExIn base a dx C) : FnQ P w K mg base (L2.CX P w) 1 D__law_field.f D__law_field.fd ["_law_e"] (spD (F__law_field a dx C)) := by
  refine fn_dQ (N := n__law_field) hE D__law_field.F sc__law_field (fun ds R Rx h => ?_) (fun oe cdv A outer s H E hr => by
      have hu : (A.deeper (PyProof.Rows.envOfC "_law_field" (defScope s__law_field) s.heap.objs.size D__law_field.f cdv)).units + 64 < cLine := by have := hr.un; omega
      have hA : ExHeld (L2H.cxH (L2.CX P w) P w K mg base n__law_field "_law_field" (defScope s__law_field) D__law_field.f cdv A outer s H E (a, oe)) a dx C := exHeld_in hE
      exact (ds_cons (s_if (dt_cmp c_in (d_xat (K := K) rfl hA (d_var 0)) (d_tup (da_cons d_str (da_cons d_str (da_cons d_str (da_cons d_str da_nil))))) rfl) (ds_one (s_ret (d_tup (da_cons (d_xat (K := K) rfl hA (d_var 0)) da_nil)))) ds_nil)
    (ds_cons (s_if (dt_cmp c_in (d_xat (K := K) rfl hA (d_var 0)) (d_tup (da_cons d_str (da_cons d_str (da_cons d_str da_nil)))) rfl) (ds_one (s_ret (d_tup da_nil))) ds_nil)
    (ds_cons (s_if (dt_cmp c_in (d_xat (K := K) rfl hA (d_var 0)) (d_tup (da_cons d_str (da_cons d_str (da_cons d_str da_nil)))) rfl) (ds_one (s_ret (d_tup (da_cons (d_xat (K := K) rfl hA (d_var 0)) da_nil)))) ds_nil)
    (ds_cons (s_if (dt_cmp (c_eq hu) (d_xat (K := K) rfl hA (d_var 0)) d_str (nomark _)) (ds_one (s_ret (d_tup (da_cons (d_xat (K := K) rfl hA (d_var 0)) (da_cons (d_xat (K := K) rfl hA (d_var 0)) da_nil))))) ds_nil)
    (ds_cons (s_if (dt_cmp c_in (d_xat (K := K) rfl hA (d_var 0)) (d_tup (da_cons d_str (da_cons d_str (da_cons d_str da_nil)))) rfl) (ds_one (s_ret (d_tup (da_cons (d_xat (K := K) rfl hA (d_var 0)) da_nil)))) ds_nil)
    (ds_cons (s_if (dt_cmp (c_eq hu) (d_xat (K := K) rfl hA (d_var 0)) d_str (nomark _)) (ds_one (s_ret (d_tup (da_cons (d_xat (K := K) rfl hA (d_var 0)) da_nil)))) ds_nil)
    (ds_one (s_ret (d_if (dt_cmp (c_eq hu) (d_xat (K := K) rfl hA (d_var 0)) d_str (nomark _)) (d_tup (da_cons (d_xat (K := K) rfl hA (d_var 0)) da_nil)) (d_tup (da_cons (d_xat (K := K) rfl hA (d_var 0)) da_nil)))))))))))) (fun ds R Rx h => ?_)
  · obtain ⟨ks, es, code, xs, rfl, _⟩ := F__law_field_of h
    rfl
  · obtain ⟨ks, es, code, xs, rfl, hc, hf, hR⟩ := F__law_field_of h
    walk_at "dl"
    simp only [xXat_var, hc, Option.some.injEq, exists_eq_left', opIn3, opIn4, opEq, py_str, eqv_ss, dat_str, dep_str, asB_bl, decide_eq_true_eq, decide_eq_false_iff_not, beq_iff_eq, beq_eq_false_iff_ne, true_and, Nat.reduceLeDiff]
    unfold fldOf at hf
    have ec : ErrAt K C "code" := eo _ (by decide)
    have one : ∀ {n : Str}, ((List.lookup n (ks.zip es)).map ([·])) = some xs → ∃ x, List.lookup n (ks.zip es) = some x ∧ R (.tup [x]) := fun {n} z => by
      obtain ⟨x, e1, e2⟩ := Option.map_eq_some_iff.mp z
      subst e2
      exact ⟨x, e1, hR⟩
    refine ⟨ec, fun h1 => ?_, fun h1 => ⟨ec, fun h2 => ?_, fun h2 => ⟨ec, fun h3 => ?_, fun h3 => ⟨ec, fun h4 => ?_, fun h4 => ⟨ec, fun h5 => ?_, fun h5 => ⟨ec, fun h6 => ?_, fun h6 => ⟨ec, fun h7 => ?_, fun h7 => ?_⟩⟩⟩⟩⟩⟩⟩
    · rw [if_pos h1] at hf
      exact ⟨eo _ (by decide), one hf⟩
    all_goals rw [if_neg h1] at hf
    · rw [if_pos h2] at hf
      cases hf
      exact hR
    all_goals rw [if_neg h2] at hf
    · rw [if_pos h3] at hf
      exact ⟨eo _ (by decide), one hf⟩
    all_goals rw [if_neg h3] at hf
    · rw [if_pos h4] at hf
      obtain ⟨x, e1, z⟩ := Option.bind_eq_some_iff.mp hf
      obtain ⟨y, e2, e3⟩ := Option.map_eq_some_iff.mp z
      subst e3
      exact ⟨eo _ (by decide), x, e1, eo _ (by decide), y, e2, hR⟩
    all_goals rw [if_neg h4] at hf
    · rw [if_pos h5] at hf
      exact ⟨eo _ (by decide), one hf⟩
    all_goals rw [if_neg h5] at hf
    · rw [if_pos h6] at hf
      exact ⟨eo _ (by decide), one hf⟩
    all_goals rw [if_neg h6] at hf
    · rw [if_pos h7] at hf
      exact ⟨eo _ (by decide), one hf⟩
    · rw [if_neg h7] at hf
      exact ⟨eo _ (by decide), one hf⟩
/-- an error class that the law catches -/
def ErrC (K : PySem.W.Frag) (CP CM CN C : Addr) : Prop := PySem.W.exmAny K (.ref C) [.ref CP, .ref CM, .ref CN] = some true ∧ ErrOk K C
def whyE (K : PySem.W.Frag) (CP CM CN : Addr) (R : D → Prop) (er : Er) : Prop := ErrC K CP CM CN er.cls ∧ ∃ code xs, (er.ks.zip er.ds).lookup ("code" : Str) = some (D.str code) ∧ fldOf code (fun n => (er.ks.zip er.ds).lookup n) = some xs ∧ R (.tup [.str code, .tup xs])
def F__law_why (K : PySem.W.Frag) (CP CM CN : Addr) (cl : List (Str × Addr)) (z : Option Addr × Hp) (Z : Zf) : Spec
  | [.fn i cl' z'], R, _ => (cl' = cl ∧ z' = some z) ∧ ∃ R' : D → Prop, Z i (fun d => R' (.tup [.str "value", d])) (whyE K CP CM CN R') ∧ ∀ d, R' d → R d
  | _, _, _ => False
theorem F__law_why_of {CP CM CN : Addr} {cl : List (Str × Addr)} {z : Option Addr × Hp} {Z : Zf} {ds : List D} {R : D → Prop} {Rx : Er → Prop} (h : F__law_why K CP CM CN cl z Z ds R Rx) : ∃ (i : Nat) (R' : D → Prop), ds = [.fn i cl (some z)] ∧ Z i (fun d => R' (.tup [.str "value", d])) (whyE K CP CM CN R') ∧ ∀ d, R' d → R d := by
  unfold F__law_why at h
  split at h
  · obtain ⟨⟨rfl, rfl⟩, R', h⟩ := h
    exact ⟨_, R', rfl, h⟩
  · exact h.elim
def n__law_why : List Str := ["_law_ask", "_law_e"]
theorem sc__law_why : FnScope n__law_why ["_law_ask"] (defScope s__law_why) := ⟨rfl, rfl, rfl, by decide +kernel, rfl, by decide +kernel, by decide +kernel⟩
def b__law_why (Dx : Df K mg "_law_why" s__law_why) : Binds K Dx.fd ["_law_ask"] [] := Dx.F.bindsN fun _ _ _ _ _ _ us hl => match us, hl with | [_], _ => rfl
theorem ok__law_why {CP CM CN : Addr} {kl : Nat} {cl : List (Str × Addr)} {z : Option Addr × Hp} {Z : Zf} (D__law_why : Df K mg "_law_why" s__law_why) (D__law_field : Df K mg "_law_field" s__law_field) (gP : mg "PickError" = some (.ref CP)) (gM : mg "Missing" = some (.ref CM)) (gN : mg "NothingLeft" = some (.ref CN))
    (GL : LamOk P w K mg base (kl + 1) cl z.1 z.2 Z) : FnOk P w K mg base (L2.CX P w) (kl + 2) D__law_why.f D__law_why.fd ["_law_ask"] (spD (F__law_why K CP CM CN cl z Z)) := by
  refine fn_d (N := n__law_why) D__law_why.F sc__law_why (fun ds R Rx h => ?_) (fun cdv A outer s H E hr => by
      exact (ds_one (s_try3 (K := K) (m := 2) (i := 1) rfl rfl rfl rfl sc__law_why.nd rfl rfl ⟨rfl, by decide, .inl gP⟩ ⟨rfl, by decide, .inl gM⟩ ⟨rfl, by decide, .inl gN⟩
        (fun W pn xe tk => ds_one (s_ret (d_tup (da_cons d_str (da_cons (d_act (j := 0) GL (hr.mono (by omega)) (pass_tr tk)) da_nil)))))
        (fun a dx C oe pn hz hfd => by
          obtain ⟨vs, hd⟩ := hfd
          exact ds_one (s_ret (d_tup (da_cons (d_xat (K := K) rfl (exHeld_pin List.mem_cons_self hz hd) (d_var 1)) (da_cons (d_callX (k := 1) (Ok := ErrOk K C) List.mem_cons_self hz ⟨vs, hd⟩ (fun base hE eo => ok__law_field D__law_field eo hE) (roomH_suite hr (by omega)) D__law_field.g D__law_field.F.kp (b__law_field D__law_field) pass_suite (da_cons (d_var 1) da_nil)) da_nil))))))))
    (fun ds R Rx h => ?_)
  · obtain ⟨i, R', rfl, _⟩ := F__law_why_of h
    rfl
  · obtain ⟨i, R', rfl, hz, mR⟩ := F__law_why_of h
    unfold zTry3
    refine ⟨i, rfl, _, _, hz, fun d hd => ⟨Nat.le_of_ble_eq_true rfl, mR _ hd⟩, fun er he => ?_⟩
    obtain ⟨⟨h1, h2⟩, code, xs, h3, h4, h5⟩ := he
    refine ⟨h1, fun a dx => ?_⟩
    have e : excE 2 1 (.exc a dx er.cls er.ks er.ds) = [none, some (.val (.exc a dx er.cls er.ks er.ds))] := rfl
    rw [e]
    walk_at "dl"
    unfold xXat xCallX
    walk_at "dl"
    exact ⟨h2 _ (by decide), er.ks, er.ds, _, rfl, h3, h2, ⟨rfl, rfl, rfl⟩, code, xs, h3, h4, mR _ h5⟩
/-- the calls one behind another; what they give, behind acc -/
def runs (K : PySem.W.Frag) (CP CM CN : Addr) (Z : Zf) : List Nat → List D → (D → Prop) → Prop
  | [], acc, R => R (.lst acc)
  | i :: is, acc, R => Z i (fun d => runs K CP CM CN Z is (acc ++ [.tup [.str "value", d]]) R) (whyE K CP CM CN fun t => runs K CP CM CN Z is (acc ++ [t]) R)
def F__law_whys (K : PySem.W.Frag) (CP CM CN : Addr) (cl : List (Str × Addr)) (z : Option Addr × Hp) (Z : Zf) : Spec
  | [.lst xs], R, _ => ∃ is : List Nat, xs = is.map (fun i => D.fn i cl (some z)) ∧ is.length ≤ 1000 ∧ runs K CP CM CN Z is [] R
  | _, _, _ => False
theorem F__law_whys_of {CP CM CN : Addr} {cl : List (Str × Addr)} {z : Option Addr × Hp} {Z : Zf} {ds : List D} {R : D → Prop} {Rx : Er → Prop} (h : F__law_whys K CP CM CN cl z Z ds R Rx) : ∃ is : List Nat, ds = [.lst (is.map (fun i => D.fn i cl (some z)))] ∧ is.length ≤ 1000 ∧ runs K CP CM CN Z is [] R := by
  unfold F__law_whys at h
  split at h
  · obtain ⟨is, rfl, h1, h2⟩ := h
    exact ⟨is, rfl, h1, h2⟩
  · exact h.elim
def n__law_whys : List Str := ["_law_asks", "_law_ask"]
theorem sc__law_whys : FnScope n__law_whys ["_law_asks"] (defScope s__law_whys) := ⟨rfl, rfl, rfl, by decide +kernel, rfl, by decide +kernel, by decide +kernel⟩
def b__law_whys (Dx : Df K mg "_law_whys" s__law_whys) : Binds K Dx.fd ["_law_asks"] [] := Dx.F.bindsN fun _ _ _ _ _ _ us hl => match us, hl with | [_], _ => rfl
theorem ok__law_whys {CP CM CN : Addr} {kl : Nat} {cl : List (Str × Addr)} {z : Option Addr × Hp} {Z : Zf} (D__law_whys : Df K mg "_law_whys" s__law_whys) (D__law_why : Df K mg "_law_why" s__law_why) (D__law_field : Df K mg "_law_field" s__law_field) (gP : mg "PickError" = some (.ref CP)) (gM : mg "Missing" = some (.ref CM)) (gN : mg "NothingLeft" = some (.ref CN))
    (GL : LamOk P w K mg base (kl + 1) cl z.1 z.2 Z) : FnOk P w K mg base (L2.CX P w) (kl + 3) D__law_whys.f D__law_whys.fd ["_law_asks"] (spD (F__law_whys K CP CM CN cl z Z)) := by
  have G__law_why := ok__law_why D__law_why D__law_field gP gM gN GL
  refine fn_d (N := n__law_whys) D__law_whys.F sc__law_whys (fun ds R Rx h => ?_) (fun cdv A outer s H E hr =>
      (ds_one (s_ret (d_ofF (f_lc rfl sc__law_whys.nd (i_list (d_var 0)) (blkOk_by (own := [("_law_ask", 1)]) (N := n__law_whys) (sc := defScope s__law_whys) (by decide +kernel)) (by decide) (fun _ _ _ _ _ => (g_name (i := 1) sc__law_whys.nd)) (fun _ _ _ _ _ => dts_nil) (fun _ _ _ _ _ => (d_call G__law_why (hr.mono (by omega)) D__law_why.g D__law_why.F.kp (b__law_why D__law_why) .nil dfR_nil passL (da_cons (d_var 1) da_nil))))))))
    (fun ds R Rx h => ?_)
  · obtain ⟨i, rfl, _⟩ := F__law_whys_of h
    rfl
  · obtain ⟨is, rfl, hl, hz⟩ := F__law_whys_of h
    walk_at "dl"
    refine ⟨fun i acc => acc.length = i ∧ runs K CP CM CN Z (is.drop i) acc R, ⟨rfl, hz⟩, fun i d acc e ⟨h1, h2⟩ => ?_, fun acc ⟨h1, h2⟩ => ?_⟩
    · rw [List.getElem?_map] at e
      obtain ⟨j, ej, rfl⟩ := Option.map_eq_some_iff.mp e
      have hi := (List.getElem?_eq_some_iff.mp ej).1
      have ed : is.drop i = j :: is.drop (i + 1) := by
        rw [List.drop_eq_getElem_cons hi]
        rw [List.getElem?_eq_getElem hi] at ej
        cases ej
        rfl
      rw [ed] at h2
      walk_at "dl"
      refine ⟨_, rfl, ?_⟩
      exact ⟨⟨rfl, rfl⟩, fun t => runs K CP CM CN Z (is.drop (i + 1)) (acc ++ [t]) R, h2, fun t ht => ⟨by omega, by omega, ht⟩⟩
    · rw [List.length_map, List.drop_length] at h2
      exact h2
theorem errC_of {C f : Addr} (h : Hx.ErrX K C f) (ex : Hx.Exm K C) : ErrC K (He.ga K "PickError") (He.ga K "Missing") (He.ga K "NothingLeft") C := ⟨ex, fun n hn => ⟨h.xf, h.na n hn⟩⟩
theorem whyE_of {CP CM CN C : Addr} {ks : List Str} {ds : List D} {R : D → Prop} {code : Str} {xs : List D} (h : ErrC K CP CM CN C) (hc : (ks.zip ds).lookup ("code" : Str) = some (D.str code)) (hf : fldOf code (fun n => (ks.zip ds).lookup n) = some xs) (hR : R (.tup [.str code, .tup xs])) : whyE K CP CM CN R ⟨C, ks, ds⟩ := ⟨h, code, xs, hc, hf, hR⟩
theorem runs_step {CP CM CN : Addr} {Z : Zf} {i : Nat} {is : List Nat} {acc : List D} {R : D → Prop} (h : ∀ N : D → Prop, (∀ t, runs K CP CM CN Z is (acc ++ [t]) R → N t) → Z i (fun d => N (.tup [.str "value", d])) (whyE K CP CM CN N)) : runs K CP CM CN Z (i :: is) acc R := h (fun t => runs K CP CM CN Z is (acc ++ [t]) R) fun _ h => h
theorem runs_end {CP CM CN : Addr} {Z : Zf} {acc : List D} {R : D → Prop} (h : R (.lst acc)) : runs K CP CM CN Z [] acc R := h
theorem whys_mk {CP CM CN : Addr} {cl : List (Str × Addr)} {z : Option Addr × Hp} {Z : Zf} (is : List Nat) {R : D → Prop} {Rx : Er → Prop} (hl : is.length ≤ 1000) (h : runs K CP CM CN Z is [] R) : F__law_whys K CP CM CN cl z Z [.lst (is.map fun i => D.fn i cl (some z))] R Rx := ⟨is, rfl, hl, h⟩
structure Tx (mg : Str → Option Value) : Prop where
  m_isinstance : mg "isinstance" = none
  m_int : mg "int" = none
  m_bool : mg "bool" = none
  m_str : mg "str" = none
  m_list : mg "list" = none
  m_tuple : mg "tuple" = none
  m_len : mg "len" = none
  m_range : mg "range" = none
  m_zip : mg "zip" = none
  m_enumerate : mg "enumerate" = none
  m_all : mg "all" = none
  m_any : mg "any" = none
  m_super : mg "super" = none
  c_MOST_TURNS : ∃ t, mg "MOST_TURNS" = some (.int 2000 t)
  c_MOST_MENDED : ∃ t, mg "MOST_MENDED" = some (.int 16 t)
  c_MOST_HOLED : ∃ t, mg "MOST_HOLED" = some (.int 60 t)
  c_MOST_CHOICES : ∃ t, mg "MOST_CHOICES" = some (.int 1024 t)
  c_MOST_WANTED : ∃ t, mg "MOST_WANTED" = some (.int 6 t)
  c_DIGITS : ∃ t, mg "DIGITS" = some (.str "0123" t)
def xf_InvalidHands : FL := [("code", .str "InvalidHands"), ("given", .par 0)]
def n_InvalidHands___init__ : List Str := ["self", "given"]
theorem sc_InvalidHands___init__ : EXS.SScope n_InvalidHands___init__ ["self", "given"] (defScope s_InvalidHands___init__) := ⟨rfl, rfl, rfl, by decide +kernel, rfl, by decide +kernel, by decide +kernel, by decide +kernel, rfl, rfl⟩
theorem ok_InvalidHands___init__ (D : Xe K mg P.main.file "InvalidHands" s_InvalidHands___init__) (hsup : mg "super" = none) (htop : (P.main.scope.names.lookup ("super" : Str)).isSome = false) : FnOk P w K mg base (L2.CX P w) 1 D.f D.fd ["self", "given"] (spX D.C 1 xf_InvalidHands) :=
  fn_x (ar := (defArgs s_InvalidHands___init__).args.getD 0 default) D.F D.e.excD sc_InvalidHands___init__ hsup htop rfl rfl rfl rfl rfl (fun r hr => D.e.na _ (by revert hr; revert r; decide)) (by decide) (by decide) (hcl := fun env => rfl) (fun A outer s H E => (pss_cons (ps_ost (pv 0) pe_str) (pss_cons (ps_ost (pv 0) (pv 1)) pss_nil)))
theorem b_InvalidHands___init__ (D : Xe K mg P.main.file "InvalidHands" s_InvalidHands___init__) : Binds K D.fd ["self", "given"] [] := D.binds fun _ _ _ _ _ _ _ us hl => match us, hl with | [_, _], _ => rfl
theorem w_fk_InvalidHands : fsK xf_InvalidHands = (["given", "code"] : List Str) := rfl
theorem w_fd_InvalidHands {a0 : D} : fsD xf_InvalidHands [a0] = [a0, D.str "InvalidHands"] := rfl
def xf_InvalidTurn : FL := [("code", .str "InvalidTurn"), ("at", .par 0)]
def n_InvalidTurn___init__ : List Str := ["self", "at"]
theorem sc_InvalidTurn___init__ : EXS.SScope n_InvalidTurn___init__ ["self", "at"] (defScope s_InvalidTurn___init__) := ⟨rfl, rfl, rfl, by decide +kernel, rfl, by decide +kernel, by decide +kernel, by decide +kernel, rfl, rfl⟩
theorem ok_InvalidTurn___init__ (D : Xe K mg P.main.file "InvalidTurn" s_InvalidTurn___init__) (hsup : mg "super" = none) (htop : (P.main.scope.names.lookup ("super" : Str)).isSome = false) : FnOk P w K mg base (L2.CX P w) 1 D.f D.fd ["self", "at"] (spX D.C 1 xf_InvalidTurn) :=
  fn_x (ar := (defArgs s_InvalidTurn___init__).args.getD 0 default) D.F D.e.excD sc_InvalidTurn___init__ hsup htop rfl rfl rfl rfl rfl (fun r hr => D.e.na _ (by revert hr; revert r; decide)) (by decide) (by decide) (hcl := fun env => rfl) (fun A outer s H E => (pss_cons (ps_ost (pv 0) pe_str) (pss_cons (ps_ost (pv 0) (pv 1)) pss_nil)))
theorem b_InvalidTurn___init__ (D : Xe K mg P.main.file "InvalidTurn" s_InvalidTurn___init__) : Binds K D.fd ["self", "at"] [] := D.binds fun _ _ _ _ _ _ _ us hl => match us, hl with | [_, _], _ => rfl
theorem w_fk_InvalidTurn : fsK xf_InvalidTurn = (["at", "code"] : List Str) := rfl
theorem w_fd_InvalidTurn {a0 : D} : fsD xf_InvalidTurn [a0] = [a0, D.str "InvalidTurn"] := rfl
def xf_InvalidNumber : FL := [("code", .str "InvalidNumber"), ("given", .par 0)]
def n_InvalidNumber___init__ : List Str := ["self", "given"]
theorem sc_InvalidNumber___init__ : EXS.SScope n_InvalidNumber___init__ ["self", "given"] (defScope s_InvalidNumber___init__) := ⟨rfl, rfl, rfl, by decide +kernel, rfl, by decide +kernel, by decide +kernel, by decide +kernel, rfl, rfl⟩
theorem ok_InvalidNumber___init__ (D : Xe K mg P.main.file "InvalidNumber" s_InvalidNumber___init__) (hsup : mg "super" = none) (htop : (P.main.scope.names.lookup ("super" : Str)).isSome = false) : FnOk P w K mg base (L2.CX P w) 1 D.f D.fd ["self", "given"] (spX D.C 1 xf_InvalidNumber) :=
  fn_x (ar := (defArgs s_InvalidNumber___init__).args.getD 0 default) D.F D.e.excD sc_InvalidNumber___init__ hsup htop rfl rfl rfl rfl rfl (fun r hr => D.e.na _ (by revert hr; revert r; decide)) (by decide) (by decide) (hcl := fun env => rfl) (fun A outer s H E => (pss_cons (ps_ost (pv 0) pe_str) (pss_cons (ps_ost (pv 0) (pv 1)) pss_nil)))
theorem b_InvalidNumber___init__ (D : Xe K mg P.main.file "InvalidNumber" s_InvalidNumber___init__) : Binds K D.fd ["self", "given"] [] := D.binds fun _ _ _ _ _ _ _ us hl => match us, hl with | [_, _], _ => rfl
theorem w_fk_InvalidNumber : fsK xf_InvalidNumber = (["given", "code"] : List Str) := rfl
theorem w_fd_InvalidNumber {a0 : D} : fsD xf_InvalidNumber [a0] = [a0, D.str "InvalidNumber"] := rfl
def xf_TooLong : FL := [("code", .str "TooLong"), ("most", .par 0)]
def n_TooLong___init__ : List Str := ["self", "most"]
theorem sc_TooLong___init__ : EXS.SScope n_TooLong___init__ ["self", "most"] (defScope s_TooLong___init__) := ⟨rfl, rfl, rfl, by decide +kernel, rfl, by decide +kernel, by decide +kernel, by decide +kernel, rfl, rfl⟩
theorem ok_TooLong___init__ (D : Xe K mg P.main.file "TooLong" s_TooLong___init__) (hsup : mg "super" = none) (htop : (P.main.scope.names.lookup ("super" : Str)).isSome = false) : FnOk P w K mg base (L2.CX P w) 1 D.f D.fd ["self", "most"] (spX D.C 1 xf_TooLong) :=
  fn_x (ar := (defArgs s_TooLong___init__).args.getD 0 default) D.F D.e.excD sc_TooLong___init__ hsup htop rfl rfl rfl rfl rfl (fun r hr => D.e.na _ (by revert hr; revert r; decide)) (by decide) (by decide) (hcl := fun env => rfl) (fun A outer s H E => (pss_cons (ps_ost (pv 0) pe_str) (pss_cons (ps_ost (pv 0) (pv 1)) pss_nil)))
theorem b_TooLong___init__ (D : Xe K mg P.main.file "TooLong" s_TooLong___init__) : Binds K D.fd ["self", "most"] [] := D.binds fun _ _ _ _ _ _ _ us hl => match us, hl with | [_, _], _ => rfl
theorem w_fk_TooLong : fsK xf_TooLong = (["most", "code"] : List Str) := rfl
theorem w_fd_TooLong {a0 : D} : fsD xf_TooLong [a0] = [a0, D.str "TooLong"] := rfl
def xf_TooMany : FL := [("code", .str "TooMany"), ("most", .par 0)]
def n_TooMany___init__ : List Str := ["self", "most"]
theorem sc_TooMany___init__ : EXS.SScope n_TooMany___init__ ["self", "most"] (defScope s_TooMany___init__) := ⟨rfl, rfl, rfl, by decide +kernel, rfl, by decide +kernel, by decide +kernel, by decide +kernel, rfl, rfl⟩
theorem ok_TooMany___init__ (D : Xe K mg P.main.file "TooMany" s_TooMany___init__) (hsup : mg "super" = none) (htop : (P.main.scope.names.lookup ("super" : Str)).isSome = false) : FnOk P w K mg base (L2.CX P w) 1 D.f D.fd ["self", "most"] (spX D.C 1 xf_TooMany) :=
  fn_x (ar := (defArgs s_TooMany___init__).args.getD 0 default) D.F D.e.excD sc_TooMany___init__ hsup htop rfl rfl rfl rfl rfl (fun r hr => D.e.na _ (by revert hr; revert r; decide)) (by decide) (by decide) (hcl := fun env => rfl) (fun A outer s H E => (pss_cons (ps_ost (pv 0) pe_str) (pss_cons (ps_ost (pv 0) (pv 1)) pss_nil)))
theorem b_TooMany___init__ (D : Xe K mg P.main.file "TooMany" s_TooMany___init__) : Binds K D.fd ["self", "most"] [] := D.binds fun _ _ _ _ _ _ _ us hl => match us, hl with | [_, _], _ => rfl
theorem w_fk_TooMany : fsK xf_TooMany = (["most", "code"] : List Str) := rfl
theorem w_fd_TooMany {a0 : D} : fsD xf_TooMany [a0] = [a0, D.str "TooMany"] := rfl
structure Kx_Row (K : PySem.W.Frag) (mg : Str → Option Value) where
  C : Addr
  g : mg "Row" = some (.ref C)
  cls : Cls K C
  n_hands : NoAttr K C "hands"
  n_own_turns : NoAttr K C "own_turns"
  D___init__ : Dm K "__init__" "Row.__init__" s_Row___init__
  mkr : Mk K C D___init__.f
  D_turns : Dm K "turns" "Row.turns" s_Row_turns
  h_turns : Meth K C "turns" D_turns.f
  D___len__ : Dm K "__len__" "Row.__len__" s_Row___len__
  o___len__ : Hx.Own K C "__len__" D___len__.f
abbrev ksRow : List Str := ["hands", "own_turns"]
abbrev row (C : Addr) (h : Int) (ts : List Int) : D := .obj C ksRow [.int h, .lst (ts.map D.int)]
theorem fld_hands {x y : D} : fld ksRow [x, y] "hands" = some x := rfl
theorem fld_turns {x y : D} : fld ksRow [x, y] "own_turns" = some y := rfl
theorem fld_m_turns {x y : D} : fld ksRow [x, y] "turns" = none := rfl
theorem fld_m_turned {x y : D} : fld ksRow [x, y] "turned" = none := rfl
theorem fld_m_with_turns {x y : D} : fld ksRow [x, y] "with_turns" = none := rfl
theorem fld_m_need_like {x y : D} : fld ksRow [x, y] "need_like" = none := rfl
/-- a row as the law makes it -/
def RowOk (h : Int) (ts : List Int) : Prop := 2 ≤ h ∧ h ≤ 4 ∧ 0 < ts.length ∧ ts.length ≤ 2000 ∧ ∀ t ∈ ts, 0 ≤ t ∧ t < h
def eTLn (C : Addr) (n : Int) : Er := ⟨C, ["most", "code"], [.int n, .str "TooLong"]⟩
def eIN (C : Addr) (v : D) : Er := ⟨C, ["given", "code"], [v, .str "InvalidNumber"]⟩
def eIH (C : Addr) (v : D) : Er := ⟨C, ["given", "code"], [v, .str "InvalidHands"]⟩
def eIT (C : Addr) (i : Int) : Er := ⟨C, ["at", "code"], [.int i, .str "InvalidTurn"]⟩
def dgN2 : Array Lean.Name := dgN1 ++ #[`ups_length, `exists_eq, `exists_eq', `Int.reduceToNat, `Int.reduceLE, `Int.reduceLT, `Int.reducePow, `Int.reduceNeg, `Int.reduceSub, `Int.reduceAdd, `Int.reduceMul, `List.length_range, `Option.map_some, `ne_eq, `not_true_eq_false, `not_false_eq_true, `goodL_ints, `asInts_map, `asInts_nil, `asInts_cons, `exists_and_left, `exists_and_right, `Int.zero_add, `Nat.reducePow, `w_at0, `w_at1, `w_at2, `w_at3, `w_at4, `w_at5, `w_natR, `w_fLenOw, `w_lc2, `w_asStrs, `w_asS, `w_join, `w_find, `w_m1, `w_fStrI, `w_zAugO, `w_thaw_nil, `w_thaw_cons, `w_thaw_own, `w_thaw_val, `w_thaw_none, `w_thaw_tre, `w_lendT, `w_lend, `w_lendN, `w_enumS, `w_zParN, `w_negR, `w_opOwnN, `w_par3, `w_pk, `w_pickE_nil, `w_pickE_cons, `w_xLam, `w_callZ, `w_asA_int, `w_asA_non, `w_asA_bl, `w_asA_str, `w_asA_lst, `w_asA_tup, `w_xOBa, `w_tx_len, `w_tx_size, `w_tx_cps, `w_tx_app, `w_tx_eq, `w_tx_beq, `w_tx_mul, `w_tx_signs, `w_tx_emp, `w_tx_one, `w_callM, `w_fFmtS, `w_fFmtI, `w_jfNil, `w_asTx, `w_jfCons, `w_xFmt, `w_xJoined, `w_blR, `w_fBoolOw, `w_stR, `w_fReprOw, `w_fBoolB, `w_fBoolI, `w_toRest, `w_xCon, `w_xAlt, `w_xEnumK, `w_fEnumK, `w_fAnyI, `w_fAnyIT, `w_xLenSetL, `w_fLenSetL, `w_xItAlt, `fIsiO_same, `w_xMakeK, `w_xAltT, `w_xTruOw, `w_valE_nil, `w_valE_val, `w_valE_own, `w_valE_tre, `w_valE_none, `w_consU, `w_putT_0, `w_putT_s, `w_setU, `w_at_nil, `w_at_lst, `w_at_tup, `w_setAt_nil, `w_setAt_l0, `w_tre_inj, `w_isTre_0, `w_isTre_s, `w_plN, `w_ixAt_0, `w_plI, `w_appL, `w_clrL, `w_stL, `w_trs_ds, `w_tr_d, `w_trs_length, `w_tr_int, `w_lendU, `w_lendF, `w_frzU, `w_retU, `w_retUe, `w_appF, `w_clrF, `w_clrO_0, `w_clrO, `w_setN, `w_nt_lst, `w_nt_int, `w_nt_non, `w_nt_bl, `w_nt_str, `w_ntL_nil, `w_ntL_cons, `w_ntL_ints, `w_xNT, `w_xDatU, `w_ofU, `w_parOO, `w_isNotB, `w_xEz, `w_xLenSet, `w_fLenSet, `w_fZipX_ll, `w_fZipX_lt, `w_fZipX_tt, `w_xZipX, `w_nos_tup, `w_nos_non, `w_nos_bl, `w_nos_int, `w_nos_str, `w_nos_obj, `w_nosL_nil, `w_nosL_cons, `w_xNos, `w_xFNos, `w_xNFol, `w_frzV_own, `w_frzV_val, `w_argE, `w_argE0, `w_callFn, `flatL_ints, `F__law_pull_is, `F__law_pick_is, `F__law_same_is, `F_is_number_is, `F_choose_is, `w_fk_InvalidHands, `w_fd_InvalidHands, `w_fk_InvalidTurn, `w_fd_InvalidTurn, `w_fk_InvalidNumber, `w_fd_InvalidNumber, `w_fk_TooLong, `w_fd_TooLong, `w_fk_TooMany, `w_fd_TooMany, `fld_hands, `fld_turns, `fld_m_turns, `fld_m_turned, `fld_m_with_turns, `fld_m_need_like]
local macro_rules | `(tactic| walk_at "dg") => do let xs ← dgN2.mapM fun n => `(Lean.Parser.Tactic.simpLemma| $(Lean.mkIdent n):term); `(tactic| simp only [$xs,*, List.getElem?_cons_zero, List.getElem?_cons_succ])
def F_check_hands (CH : Addr) : Spec
  | [v], R, Rx => v.dat = true ∧ (isNum v 2 4 = true → R .non) ∧ (isNum v 2 4 = false → Rx (eIH CH v))
  | _, _, _ => False
theorem F_check_hands_is {CH : Addr} {v : D} {R : D → Prop} {Rx : Er → Prop} : F_check_hands CH [v] R Rx = (v.dat = true ∧ (isNum v 2 4 = true → R .non) ∧ (isNum v 2 4 = false → Rx (eIH CH v))) := rfl
def b_check_hands (Dx : Df K mg "check_hands" s_check_hands) : Binds K Dx.fd ["hands"] [] := Dx.F.bindsN fun _ _ _ _ _ _ us hl => match us, hl with | [_], _ => rfl
def n_check_hands : List Str := ["hands"]
theorem sc_check_hands : FnScope n_check_hands ["hands"] (defScope s_check_hands) := ⟨rfl, rfl, rfl, by decide +kernel, rfl, by decide +kernel, by decide +kernel⟩
def dgN3 : Array Lean.Name := dgN2 ++ #[`F_check_hands_is]
local macro_rules | `(tactic| walk_at "dg") => do let xs ← dgN3.mapM fun n => `(Lean.Parser.Tactic.simpLemma| $(Lean.mkIdent n):term); `(tactic| simp only [$xs,*, List.getElem?_cons_zero, List.getElem?_cons_succ])
theorem ok_check_hands (T : Tx mg) (D_check_hands : Df K mg "check_hands" s_check_hands) (D_is_number : Df K mg "is_number" s_is_number) (X_InvalidHands : Xe K mg P.main.file "InvalidHands" s_InvalidHands___init__) (hsup : mg "super" = none) (htop : (P.main.scope.names.lookup ("super" : Str)).isSome = false) : FnOk P w K mg base (L2.CX P w) 3 D_check_hands.f D_check_hands.fd ["hands"] (spD (F_check_hands X_InvalidHands.C)) := by
  have GX_InvalidHands := ok_InvalidHands___init__ (P := P) (w := w) (base := base) X_InvalidHands hsup htop
  have G_is_number := ok_is_number (P := P) (w := w) (base := base) D_is_number T.m_isinstance T.m_int T.m_bool
  refine fn_d D_check_hands.F sc_check_hands (fun ds R Rx h => ?_) (fun cdv A outer s H E hr => (ds_one (s_if (dt_not (dt_tru (d_call G_is_number (hr.mono (by decide)) D_is_number.g D_is_number.F.kp (b_is_number D_is_number) .nil dfR_nil pass_d (da_cons (d_var 0) (da_cons d_int (da_cons d_int da_nil)))))) (ds_one (s_raise X_InvalidHands.e.ox X_InvalidHands.e.iC X_InvalidHands.e.tI (by decide) (by decide) GX_InvalidHands (hr.mono (by decide)) (b_InvalidHands___init__ X_InvalidHands) passL X_InvalidHands.g rfl (takes_of rfl rfl rfl rfl) (da_cons (d_var 0) da_nil))) ds_nil)) ) fun ds R Rx h => ?_
  · match ds, h with
    | [v], _ => rfl
  · match ds, h with
    | [v], hh =>
      obtain ⟨h1, h2, h3⟩ := hh
      simp only [n_check_hands]
      walk_at "dg"
      cases e : isNum v 2 4 with
      | true =>
        walk_at "dg"
        exact ⟨h1, h2 e⟩
      | false =>
        walk_at "dg"
        exact ⟨h1, h3 e⟩
/-- the first wrong place -/
def badAt (h : Int) : Nat → List D → Option Nat
  | _, [] => none
  | i, x :: xs => if 2000 ≤ i ∨ isNum x 0 (h - 1) = false then some i else badAt h (i + 1) xs
theorem isNum_of {x : D} {lo hi : Int} (h : isNum x lo hi = true) : ∃ n, x = .int n ∧ lo ≤ n ∧ n ≤ hi := by
  cases x <;> simp only [isNum, Bool.false_eq_true, Bool.and_eq_true, decide_eq_true_eq] at h
  exact ⟨_, rfl, h⟩
theorem badAt_none {h : Int} : ∀ {xs : List D} {i : Nat}, badAt h i xs = none → ∃ ts : List Int, xs = ts.map D.int ∧ (∀ t ∈ ts, 0 ≤ t ∧ t < h) ∧ (xs = [] ∨ i + xs.length ≤ 2000)
  | [], _, _ => ⟨[], rfl, (fun t ht => nomatch ht), .inl rfl⟩
  | x :: xs, i, e => by
    unfold badAt at e
    split at e
    · cases e
    · rename_i z
      obtain ⟨z1, z2⟩ := not_or.mp z
      obtain ⟨n, rfl, n1, n2⟩ := isNum_of (Bool.of_not_eq_false z2)
      obtain ⟨ts, rfl, ht, hl⟩ := badAt_none e
      refine ⟨n :: ts, rfl, fun t hm => ?_, .inr ?_⟩
      · rcases List.mem_cons.mp hm with rfl | hm
        · exact ⟨n1, by omega⟩
        · exact ht t hm
      · rw [List.length_cons]
        rcases hl with hl | hl
        · rw [hl]
          simp
          omega
        · omega
theorem badAt_good {h : Int} : ∀ {ts : List Int} {i : Nat}, (∀ t ∈ ts, 0 ≤ t ∧ t < h) → i + ts.length ≤ 2000 → badAt h i (ts.map D.int) = none
  | [], _, _, _ => rfl
  | t :: ts, i, ht, hl => by
    rw [List.length_cons] at hl
    show (if 2000 ≤ i ∨ isNum (.int t) 0 (h - 1) = false then some i else badAt h (i + 1) (ts.map D.int)) = none
    have h1 := ht t List.mem_cons_self
    rw [if_neg, badAt_good (fun u hu => ht u (List.mem_cons_of_mem _ hu)) (by omega)]
    simp only [isNum, Bool.and_eq_false_iff, decide_eq_false_iff_not, not_or, Classical.not_not]
    omega
theorem badAt_cons {h : Int} {y : D} {ys : List D} {i : Nat} (hb : 2000 ≤ i ∨ isNum y 0 (h - 1) = false) : badAt h i (y :: ys) = some i := if_pos hb
def initX (C CH CI : Addr) (hv : D) (xs : List D) (R : D → Prop) (Rx : Er → Prop) : Prop := hv.dat = true ∧ datL xs = true ∧ xs.length ≤ 1000000 ∧ (isNum hv 2 4 = false → Rx (eIH CH hv)) ∧ ∀ h, hv = .int h → 2 ≤ h → h ≤ 4 →
  (∀ i : Nat, badAt h 0 xs = some i → Rx (eIT CI i)) ∧ (badAt h 0 xs = none → (xs = [] → Rx (eIT CI 0)) ∧ ∀ ts, xs = ts.map D.int → RowOk h ts → R (row C h ts))
def F_Row___init__ (C CH CI : Addr) : Spec
  | [hv, .lst xs], R, Rx => initX C CH CI hv xs R Rx
  | _, _, _ => False
theorem F_Row___init___is {C CH CI : Addr} {hv : D} {xs : List D} {R : D → Prop} {Rx : Er → Prop} : F_Row___init__ C CH CI [hv, .lst xs] R Rx = initX C CH CI hv xs R Rx := rfl
theorem map_int_eq {xs ys : List Int} (h : xs.map D.int = ys.map D.int) : xs = ys := by
  have := congrArg asInts h
  rw [asInts_map, asInts_map] at this
  exact Option.some.inj this
theorem initX_good {C CH CI : Addr} {h : Int} {ts : List Int} {R : D → Prop} {Rx : Er → Prop} (ok : RowOk h ts) (hR : R (row C h ts)) : initX C CH CI (.int h) (ts.map D.int) R Rx := by
  obtain ⟨h2, h4, l0, l1, ht⟩ := ok
  refine ⟨rfl, datL_ints, by rw [List.length_map]; omega, fun z => ?_, fun k e _ _ => ?_⟩
  · simp only [isNum, Bool.and_eq_false_iff, decide_eq_false_iff_not] at z
    omega
  · cases e
    rw [badAt_good ht (by omega)]
    refine ⟨(fun i z => nomatch z), fun _ => ⟨fun z => ?_, fun us e _ => ?_⟩⟩
    · rw [List.map_eq_nil_iff] at z
      rw [z] at l0
      cases l0
    · rw [← map_int_eq e]
      exact hR
def b_Row___init__ (Dx : Dm K "__init__" "Row.__init__" s_Row___init__) : Binds K Dx.fd ["self", "hands", "turns"] [] := Dx.F.bindsN fun _ _ _ _ _ _ us hl => match us, hl with | [_, _, _], _ => rfl
def n_Row___init__ : List Str := ["self", "hands", "turns", "at", "hand"]
theorem sc_Row___init__ : FnScope n_Row___init__ ["self", "hands", "turns"] (defScope s_Row___init__) := ⟨rfl, rfl, rfl, by decide +kernel, rfl, by decide +kernel, by decide +kernel⟩
theorem datL_at {xs : List D} {i : Nat} {x : D} (h : datL xs = true) (e : xs[i]? = some x) : x.dat = true := by
  induction xs generalizing i with
  | nil => simp at e
  | cons y ys ih =>
    rw [datL_cons, Bool.and_eq_true] at h
    cases i with
    | zero => simp at e; rw [← e]; exact h.1
    | succ i => exact ih h.2 (by simpa using e)
theorem ok_Row___init__ (T : Tx mg) (K_Row : Kx_Row K mg) (D_check_hands : Df K mg "check_hands" s_check_hands) (D_is_number : Df K mg "is_number" s_is_number) (X_InvalidHands : Xe K mg P.main.file "InvalidHands" s_InvalidHands___init__) (X_InvalidTurn : Xe K mg P.main.file "InvalidTurn" s_InvalidTurn___init__) (hsup : mg "super" = none) (htop : (P.main.scope.names.lookup ("super" : Str)).isSome = false) :
    FnOk P w K mg base (L2.CX P w) 4 K_Row.D___init__.f K_Row.D___init__.fd ["self", "hands", "turns"] (spI K_Row.C (F_Row___init__ K_Row.C X_InvalidHands.C X_InvalidTurn.C)) := by
  have G_is_number := ok_is_number (P := P) (w := w) (base := base) D_is_number T.m_isinstance T.m_int T.m_bool
  have G_check_hands := ok_check_hands (P := P) (w := w) (base := base) T D_check_hands D_is_number X_InvalidHands hsup htop
  have GX_InvalidTurn := ok_InvalidTurn___init__ (P := P) (w := w) (base := base) X_InvalidTurn hsup htop
  refine fn_i K_Row.D___init__.F sc_Row___init__ (fun ds R Rx h => ?_) (fun p dx cdv A outer s H E hr => have hu := hr.units
    (is_st (s_expr (d_call G_check_hands (hr.mono (by decide)) D_check_hands.g D_check_hands.F.kp (b_check_hands D_check_hands) .nil dfR_nil pass_d (da_cons (d_var 1) da_nil)))
    (is_st (s_for (passes_of rfl) rfl (i_enum (da_cons (d_var 2) da_nil) T.m_enumerate) (g_tup (n := 2) rfl (gs_cons (g_name (i := 3) sc_Row___init__.nd) (gs_cons (g_name (i := 4) sc_Row___init__.nd) gs_nil)))
      (ds_one (s_if (dw_pt (dw_or (dt_cmp c_ge (d_var 3) (d_gint T.c_MOST_TURNS) (nomark _)) (dw_or1 (dt_not (dt_tru (d_call G_is_number (hr.mono (by decide)) D_is_number.g D_is_number.F.kp (b_is_number D_is_number) .nil dfR_nil pass_d (da_cons (d_var 4) (da_cons d_int (da_cons (d_sub (d_var 1) d_int) da_nil))))))))) (ds_one (s_raise X_InvalidTurn.e.ox X_InvalidTurn.e.iC X_InvalidTurn.e.tI (by decide) (by decide) GX_InvalidTurn (hr.mono (by decide)) (b_InvalidTurn___init__ X_InvalidTurn) passL X_InvalidTurn.g rfl (takes_of rfl rfl rfl rfl) (da_cons (d_var 3) da_nil))) ds_nil)))
    (is_st (s_if (dt_cmp (c_eq hu) (d_callB b_len T.m_len boot_len (da_cons (d_var 2) da_nil)) d_int (nomark _)) (ds_one (s_raise X_InvalidTurn.e.ox X_InvalidTurn.e.iC X_InvalidTurn.e.tI (by decide) (by decide) GX_InvalidTurn (hr.mono (by decide)) (b_InvalidTurn___init__ X_InvalidTurn) passL X_InvalidTurn.g rfl (takes_of rfl rfl rfl rfl) (da_cons d_int da_nil))) ds_nil)
    (is_set (d_var 1)
    (is_set (d_ofF (f_list (d_var 2) T.m_list))
    is_nil K_Row.cls K_Row.n_own_turns) K_Row.cls K_Row.n_hands)))) ) fun p ds R Rx h => ?_
  · match ds, h with
    | [hv, .lst xs], _ => rfl
  · match ds, h with
    | [hv, .lst xs], hh =>
      obtain ⟨d1, d2, hl, hH, hx⟩ := hh
      simp only [n_Row___init__, jSt, jSet, jNil]
      walk_at "dg"
      refine ⟨d1, fun z => ?_, fun z => hH z⟩
      obtain ⟨k, rfl, k1, k2⟩ := isNum_of z
      obtain ⟨hb, hg⟩ := hx k rfl k1 k2
      have d3 : ∀ (i : Nat) (x : D), xs[i]? = some x → x.dat = true := fun i x e => datL_at d2 e
      refine ⟨fun i env => i ≤ xs.length ∧ badAt k i (xs.drop i) = badAt k 0 xs ∧ ∃ e3 e4 : Option DV, env = [some (.val (.adr p)), some (.val (.int k)), some (.val (.lst xs)), e3, e4], ⟨by omega, rfl, none, none, rfl⟩, ?_, ?_⟩
      · rintro i d env e ⟨hi, hbi, e3, e4, rfl⟩
        obtain ⟨y, ey, rfl⟩ := nums_get _ _ _ _ e
        have hi2 := (List.getElem?_eq_some_iff.mp ey).1
        have ed : xs.drop i = y :: xs.drop (i + 1) := by
          rw [List.drop_eq_getElem_cons hi2]
          rw [List.getElem?_eq_getElem hi2] at ey
          cases ey
          rfl
        rw [ed] at hbi
        walk_at "dg"
        have hw : (2000 ≤ i ∨ isNum y 0 (k - 1) = false) → Rx (eIT X_InvalidTurn.C (i : Int)) := fun z => hb i (by rw [← hbi]; exact badAt_cons z)
        refine ⟨fun z => ?_, fun z => ⟨d3 i y ey, ?_⟩⟩
        · have e0 : (0 : Int) + (i : Int) = i := by omega
          first | exact hw (.inl (by omega)) | (rw [e0]; exact hw (.inl (by omega)))
        · cases en : isNum y 0 (k - 1) with
          | false =>
            walk_at "dg"
            exact hw (.inr en)
          | true =>
            walk_at "dg"
            refine ⟨by omega, ?_⟩
            rw [← hbi]
            show _ = (if 2000 ≤ i ∨ isNum y 0 (k - 1) = false then some i else badAt k (i + 1) (xs.drop (i + 1)))
            rw [if_neg]
            rw [en]
            simp
            omega
      · rintro env ⟨_, hbi, e3, e4, rfl⟩
        have el : (nums 0 xs).length = xs.length := nums_length _ _
        rw [el, List.drop_length] at hbi
        obtain ⟨g1, g2⟩ := hg hbi.symm
        walk_at "dg"
        refine ⟨fun z => g1 (List.eq_nil_of_length_eq_zero (by omega)), fun z => ?_⟩
        obtain ⟨ts, rfl, t1, t2⟩ := badAt_none hbi.symm
        refine ⟨by simp, by decide, g2 ts rfl ⟨k1, k2, ?_, ?_, t1⟩⟩
        · rw [List.length_map] at z
          omega
        · rw [List.length_map] at t2
          rcases t2 with t2 | t2
          · rw [List.map_eq_nil_iff] at t2
            rw [t2]
            decide
          · omega
theorem rok_app {h : Int} {ts us : List Int} (a : RowOk h ts) (b : RowOk h us) (hl : ts.length + us.length ≤ 2000) : RowOk h (ts ++ us) :=
  ⟨a.1, a.2.1, by rw [List.length_append]; have := a.2.2.1; omega, by rw [List.length_append]; exact hl, fun t ht => by
    rcases List.mem_append.mp ht with q | q
    · exact a.2.2.2.2 t q
    · exact b.2.2.2.2 t q⟩
theorem rok_rev {h : Int} {ts : List Int} (a : RowOk h ts) : RowOk h ts.reverse := ⟨a.1, a.2.1, by rw [List.length_reverse]; exact a.2.2.1, by rw [List.length_reverse]; exact a.2.2.2.1, fun t ht => a.2.2.2.2 t (List.mem_reverse.mp ht)⟩
theorem rok_map {h : Int} {ts : List Int} (a : RowOk h ts) (f : Int → Int) (hf : ∀ t, 0 ≤ f t ∧ f t < h) : RowOk h (ts.map f) := ⟨a.1, a.2.1, by rw [List.length_map]; exact a.2.2.1, by rw [List.length_map]; exact a.2.2.2.1, fun t ht => by
  obtain ⟨u, _, rfl⟩ := List.mem_map.mp ht
  exact hf u⟩
theorem fmod_in {h t : Int} (hh : 2 ≤ h) : 0 ≤ t.fmod h ∧ t.fmod h < h := ⟨Int.fmod_nonneg_of_pos _ (by omega), Int.fmod_lt_of_pos _ (by omega)⟩
def dgN4 : Array Lean.Name := dgN3 ++ #[`F_Row___init___is]
local macro_rules | `(tactic| walk_at "dg") => do let xs ← dgN4.mapM fun n => `(Lean.Parser.Tactic.simpLemma| $(Lean.mkIdent n):term); `(tactic| simp only [$xs,*, List.getElem?_cons_zero, List.getElem?_cons_succ])
def asRow (C : Addr) (R : Int → List Int → Prop) : D → Prop
  | .obj C' ks [.int h, .lst xs] => C' = C ∧ ks = ksRow ∧ ∃ ts, asInts xs = some ts ∧ R h ts
  | _ => False
theorem asRow_is {C : Addr} {R : Int → List Int → Prop} {h : Int} {xs : List D} : asRow C R (.obj C ksRow [.int h, .lst xs]) = ∃ ts, asInts xs = some ts ∧ R h ts := by
  simp [asRow]
theorem asRow_of {C : Addr} {R : Int → List Int → Prop} {d : D} (h : asRow C R d) : ∃ k ts, d = row C k ts ∧ R k ts := by
  unfold asRow at h
  split at h
  · obtain ⟨rfl, rfl, ts, e, h⟩ := h
    exact ⟨_, ts, by rw [asInts_eq e], h⟩
  · exact h.elim
def dgN5 : Array Lean.Name := dgN4 ++ #[`asRow_is]
local macro_rules | `(tactic| walk_at "dg") => do let xs ← dgN5.mapM fun n => `(Lean.Parser.Tactic.simpLemma| $(Lean.mkIdent n):term); `(tactic| simp only [$xs,*, List.getElem?_cons_zero, List.getElem?_cons_succ])
def F_Row_turns (C : Addr) : Spec
  | [r], R, _ => asRow C (fun _ ts => R (.lst (ts.map .int))) r
  | _, _, _ => False
theorem F_Row_turns_is {C : Addr} {r : D} {R : D → Prop} {Rx : Er → Prop} : F_Row_turns C [r] R Rx = asRow C (fun _ ts => R (.lst (ts.map .int))) r := rfl
def b_Row_turns (Dx : Dm K "turns" "Row.turns" s_Row_turns) : Binds K Dx.fd ["self"] [] := Dx.F.bindsN fun _ _ _ _ _ _ us hl => match us, hl with | [_], _ => rfl
def n_Row_turns : List Str := ["self"]
theorem sc_Row_turns : FnScope n_Row_turns ["self"] (defScope s_Row_turns) := ⟨rfl, rfl, rfl, by decide +kernel, rfl, by decide +kernel, by decide +kernel⟩
def dgN6 : Array Lean.Name := dgN5 ++ #[`F_Row_turns_is]
local macro_rules | `(tactic| walk_at "dg") => do let xs ← dgN6.mapM fun n => `(Lean.Parser.Tactic.simpLemma| $(Lean.mkIdent n):term); `(tactic| simp only [$xs,*, List.getElem?_cons_zero, List.getElem?_cons_succ])
theorem ok_Row_turns (T : Tx mg) (K_Row : Kx_Row K mg) : FnOk P w K mg base (L2.CX P w) 1 K_Row.D_turns.f K_Row.D_turns.fd ["self"] (spN (F_Row_turns K_Row.C)) := by
  refine fn_n K_Row.D_turns.F sc_Row_turns (fun ds R Rx h => ?_) (fun cdv A outer s H E hr => (ds_one (s_retNew (n_ofF (f_list (d_fld (d_var 0) K_Row.cls K_Row.n_own_turns) T.m_list)))) ) fun ds R Rx h => ?_
  · match ds, h with
    | [r], h => rfl
  · match ds, h with
    | [r], h =>
      obtain ⟨k, ts, rfl, hR⟩ := asRow_of h
      simp only [n_Row_turns]
      walk_at "dg"
      exact hR
def F_Row___len__ (C : Addr) : Spec
  | [r], R, _ => asRow C (fun _ ts => ts.length ≤ 2000 ∧ R (.int ts.length)) r
  | _, _, _ => False
theorem F_Row___len___is {C : Addr} {r : D} {R : D → Prop} {Rx : Er → Prop} : F_Row___len__ C [r] R Rx = asRow C (fun _ ts => ts.length ≤ 2000 ∧ R (.int ts.length)) r := rfl
def b_Row___len__ (Dx : Dm K "__len__" "Row.__len__" s_Row___len__) : Binds K Dx.fd ["self"] [] := Dx.F.bindsN fun _ _ _ _ _ _ us hl => match us, hl with | [_], _ => rfl
def n_Row___len__ : List Str := ["self"]
theorem sc_Row___len__ : FnScope n_Row___len__ ["self"] (defScope s_Row___len__) := ⟨rfl, rfl, rfl, by decide +kernel, rfl, by decide +kernel, by decide +kernel⟩
theorem ok_Row___len__ (T : Tx mg) (K_Row : Kx_Row K mg) : FnOk P w K mg base (L2.CX P w) 1 K_Row.D___len__.f K_Row.D___len__.fd ["self"] (spD (F_Row___len__ K_Row.C)) := by
  refine fn_d K_Row.D___len__.F sc_Row___len__ (fun ds R Rx h => ?_) (fun cdv A outer s H E hr => (ds_one (s_ret (d_callB b_len T.m_len boot_len (da_cons (d_fld (d_var 0) K_Row.cls K_Row.n_own_turns) da_nil)))) ) fun ds R Rx h => ?_
  · match ds, h with
    | [r], h => rfl
  · match ds, h with
    | [r], h =>
      obtain ⟨k, ts, rfl, hl, hR⟩ := asRow_of h
      simp only [n_Row___len__]
      walk_at "dg"
      exact hR
local macro_rules | `(tactic| walk_at "rk") => `(tactic| first
  | assumption
  | (refine rok_app ?_ ?_ ?_ <;> first | walk_at "rk" | (simp only [List.length_append, List.length_reverse, List.length_map, List.length_replicate]; omega))
  | (refine rok_rev ?_; walk_at "rk")
  | (refine rok_map ?_ _ (fun t => fmod_in (by assumption)); walk_at "rk")
  | omega
  | decide
  | (refine log_lt (k := 80) ?_ (by decide) (by decide); omega))
local macro_rules | `(tactic| walk_at "fin") => `(tactic| ((repeat' (first | (with_reducible assumption) | (with_reducible refine And.intro ?_ ?_) | (with_reducible intro _))); all_goals first | (with_reducible assumption) | omega | contradiction | trivial))
local macro_rules | `(tactic| walk_at "cj") => `(tactic| repeat' (refine And.intro (by walk_at "rk") ?_))
def dgN7 : Array Lean.Name := dgN6 ++ #[`F_Row___len___is]
local macro_rules | `(tactic| walk_at "dg") => do let xs ← dgN7.mapM fun n => `(Lean.Parser.Tactic.simpLemma| $(Lean.mkIdent n):term); `(tactic| simp only [$xs,*, List.getElem?_cons_zero, List.getElem?_cons_succ])
def F__law_hands : Spec
  | [.bag], R, _ => ∀ h : Int, 2 ≤ h → h ≤ 4 → R (.int h)
  | _, _, _ => False
theorem F__law_hands_is {R : D → Prop} {Rx : Er → Prop} : F__law_hands [.bag] R Rx = ∀ h : Int, 2 ≤ h → h ≤ 4 → R (.int h) := rfl
theorem F__law_hands_of {ds : List D} {R : D → Prop} {Rx : Er → Prop} (h : F__law_hands ds R Rx) : ds = [.bag] ∧ ∀ h : Int, 2 ≤ h → h ≤ 4 → R (.int h) := by
  unfold F__law_hands at h
  split at h
  · exact ⟨rfl, h⟩
  · exact h.elim
def b__law_hands (Dx : Df K mg "_law_hands" s__law_hands) : Binds K Dx.fd ["_law_bag_here"] [] := Dx.F.bindsN fun _ _ _ _ _ _ us hl => match us, hl with | [_], _ => rfl
def n__law_hands : List Str := ["_law_bag_here"]
theorem sc__law_hands : FnScope n__law_hands ["_law_bag_here"] (defScope s__law_hands) := ⟨rfl, rfl, rfl, by decide +kernel, rfl, by decide +kernel, by decide +kernel⟩
def dgN8 : Array Lean.Name := dgN7 ++ #[`F__law_hands_is]
local macro_rules | `(tactic| walk_at "dg") => do let xs ← dgN8.mapM fun n => `(Lean.Parser.Tactic.simpLemma| $(Lean.mkIdent n):term); `(tactic| simp only [$xs,*, List.getElem?_cons_zero, List.getElem?_cons_succ])
theorem ok__law_hands (T : Tx mg) (D__law_hands : Df K mg "_law_hands" s__law_hands) (D__law_pull : Df K mg "_law_pull" s__law_pull) : FnOk P w K mg base (L2.CX P w) 2 D__law_hands.f D__law_hands.fd ["_law_bag_here"] (spD F__law_hands) := by
  have G__law_pull := ok__law_pull (P := P) (w := w) (base := base) D__law_pull T.m_int T.m_len
  refine fn_d D__law_hands.F sc__law_hands (fun ds R Rx h => ?_) (fun cdv A outer s H E hr => (ds_one (s_ret (d_add d_int (d_call G__law_pull (hr.mono (by decide)) D__law_pull.g D__law_pull.F.kp (b__law_pull D__law_pull) .nil dfR_nil pass_d (da_cons (d_var 0) (da_cons d_int da_nil)))))) ) fun ds R Rx h => ?_
  · obtain ⟨rfl, _⟩ := F__law_hands_of h
    rfl
  · obtain ⟨rfl, hR⟩ := F__law_hands_of h
    simp only [n__law_hands]
    walk_at "dg"
    exact ⟨log_lt (k := 20) (by decide) (by decide) (by decide), fun r h1 h2 => hR _ (by omega) (by omega)⟩
def F__law_turns : Spec
  | [.bag, .int h, .int m], R, _ => 2 ≤ h ∧ h ≤ 4 ∧ 0 < m ∧ m ≤ 2000 ∧ ∀ ts : List Int, (0 < ts.length ∧ (ts.length : Int) ≤ m ∧ ∀ t ∈ ts, 0 ≤ t ∧ t < h) → R (.lst (ts.map .int))
  | _, _, _ => False
theorem F__law_turns_is {h m : Int} {R : D → Prop} {Rx : Er → Prop} : F__law_turns [.bag, .int h, .int m] R Rx = (2 ≤ h ∧ h ≤ 4 ∧ 0 < m ∧ m ≤ 2000 ∧ ∀ ts : List Int, (0 < ts.length ∧ (ts.length : Int) ≤ m ∧ ∀ t ∈ ts, 0 ≤ t ∧ t < h) → R (.lst (ts.map .int))) := rfl
theorem F__law_turns_of {ds : List D} {R : D → Prop} {Rx : Er → Prop} (z : F__law_turns ds R Rx) : ∃ h m : Int, ds = [.bag, .int h, .int m] ∧ 2 ≤ h ∧ h ≤ 4 ∧ 0 < m ∧ m ≤ 2000 ∧ ∀ ts : List Int, (0 < ts.length ∧ (ts.length : Int) ≤ m ∧ ∀ t ∈ ts, 0 ≤ t ∧ t < h) → R (.lst (ts.map .int)) := by
  unfold F__law_turns at z
  split at z
  · exact ⟨_, _, rfl, z⟩
  · exact z.elim
def b__law_turns (Dx : Df K mg "_law_turns" s__law_turns) : Binds K Dx.fd ["_law_bag_here", "_law_hands_here", "_law_most_z"] [] := Dx.F.bindsN fun _ _ _ _ _ _ us hl => match us, hl with | [_, _, _], _ => rfl
def n__law_turns : List Str := ["_law_bag_here", "_law_hands_here", "_law_most_z", "_law_many", "_law_way", "_law_part", "_law_k"]
theorem sc__law_turns : FnScope n__law_turns ["_law_bag_here", "_law_hands_here", "_law_most_z"] (defScope s__law_turns) := ⟨rfl, rfl, rfl, by decide +kernel, rfl, by decide +kernel, by decide +kernel⟩
theorem ok__law_turns (T : Tx mg) (D__law_turns : Df K mg "_law_turns" s__law_turns) (D__law_pull : Df K mg "_law_pull" s__law_pull) : FnOk P w K mg base (L2.CX P w) 2 D__law_turns.f D__law_turns.fd ["_law_bag_here", "_law_hands_here", "_law_most_z"] (spD F__law_turns) := by
  have G__law_pull := ok__law_pull (P := P) (w := w) (base := base) D__law_pull T.m_int T.m_len
  refine fn_d D__law_turns.F sc__law_turns (fun ds R Rx hsp => ?_) (fun cdv A outer s H E hr => have hu := hr.units
    (ds_cons (s_par (i := 3) (j := 4) rfl sc__law_turns.nd (da_cons (d_add d_int (d_call G__law_pull (hr.mono (by decide)) D__law_pull.g D__law_pull.F.kp (b__law_pull D__law_pull) .nil dfR_nil pass_d (da_cons (d_var 0) (da_cons (d_var 2) da_nil)))) (da_cons (d_call G__law_pull (hr.mono (by decide)) D__law_pull.g D__law_pull.F.kp (b__law_pull D__law_pull) .nil dfR_nil pass_d (da_cons (d_var 0) (da_cons d_int da_nil))) da_nil)))
    (ds_cons (s_if (dt_cmp (c_eq hu) (d_var 4) d_int (nomark _)) (ds_one (s_ret (d_mul (d_ofF (f_lst (da_cons (d_call G__law_pull (hr.mono (by decide)) D__law_pull.g D__law_pull.F.kp (b__law_pull D__law_pull) .nil dfR_nil pass_d (da_cons (d_var 0) (da_cons (d_var 1) da_nil))) da_nil))) (d_var 3)))) ds_nil)
    (ds_cons (s_if (dt_cmp (c_eq hu) (d_var 4) d_int (nomark _)) (ds_cons (s_set (i := 5) sc__law_turns.nd (d_ofF (f_lc rfl sc__law_turns.nd (i_rg1 (da_cons (d_add d_int (d_call G__law_pull (hr.mono (by decide)) D__law_pull.g D__law_pull.F.kp (b__law_pull D__law_pull) .nil dfR_nil pass_d (da_cons (d_var 0) (da_cons d_int da_nil)))) da_nil) T.m_range) (blkOk_by (own := [("_law_k", 6)]) (N := n__law_turns) (sc := defScope s__law_turns) (by decide +kernel)) (by decide) (fun _ _ _ _ _ => (g_name (i := 6) sc__law_turns.nd)) (fun _ _ _ _ _ => dts_nil) (fun _ _ _ _ _ => (d_call G__law_pull (hr.mono (by decide)) D__law_pull.g D__law_pull.F.kp (b__law_pull D__law_pull) .nil dfR_nil passL (da_cons (d_var 0) (da_cons (d_var 1) da_nil)))))))
        (ds_one (s_ret (d_ofF (f_lc rfl sc__law_turns.nd (i_rg1 (da_cons (d_var 3) da_nil) T.m_range) (blkOk_by (own := [("_law_k", 6)]) (N := n__law_turns) (sc := defScope s__law_turns) (by decide +kernel)) (by decide) (fun _ _ _ _ _ => (g_name (i := 6) sc__law_turns.nd)) (fun _ _ _ _ _ => dts_nil) (fun _ _ _ _ _ => (d_ix (d_var 5) (d_mod (d_callT b_int T.m_int PyProof.Rows.boot_int (da_cons (d_var 6) da_nil)) (d_callB b_len T.m_len boot_len (da_cons (d_var 5) da_nil)))))))))) ds_nil)
    (ds_one (s_ret (d_ofF (f_lc rfl sc__law_turns.nd (i_rg1 (da_cons (d_var 3) da_nil) T.m_range) (blkOk_by (own := [("_law_k", 6)]) (N := n__law_turns) (sc := defScope s__law_turns) (by decide +kernel)) (by decide) (fun _ _ _ _ _ => (g_name (i := 6) sc__law_turns.nd)) (fun _ _ _ _ _ => dts_nil) (fun _ _ _ _ _ => (d_call G__law_pull (hr.mono (by decide)) D__law_pull.g D__law_pull.F.kp (b__law_pull D__law_pull) .nil dfR_nil passL (da_cons (d_var 0) (da_cons (d_var 1) da_nil))))))))))) ) fun ds R Rx hsp => ?_
  · obtain ⟨h, m, rfl, _⟩ := F__law_turns_of hsp
    rfl
  · obtain ⟨h, m, rfl, h1, h2, h3, h4, hR⟩ := F__law_turns_of hsp
    clear hsp
    simp only [n__law_turns]
    walk_at "dg"
    have lg : ∀ n : Int, 0 ≤ n → n < 2 ^ 60 → n.natAbs.log2 < 9000 := fun n h0 h1 => log_lt (k := 60) (by omega) (by decide) (by decide)
    have drawn : ∀ (q : Nat) (R2 : List D → Prop) (o2 o3 o4 o5 : Option DV), q ≤ 2000 → (∀ ts : List Int, ts.length = q → (∀ t ∈ ts, 0 ≤ t ∧ t < h) → R2 (ts.map .int)) →
        LcP (ups 0 q) (yName 6) xYes (xCall F__law_pull [] (xCons (xVar 0) (xCons (xVar 1) xNil))) [6] [some (DV.val D.bag), some (DV.val (D.int h)), o2, o3, o4, o5, none] R2 := by
      intro q R2 o2 o3 o4 o5 hq hR2
      refine LcP.all (fun y => ∃ n : Int, y = .int n ∧ (0 ≤ n ∧ n < h)) (by rw [ups_length, sizeLine_eq]; omega) (fun i d N e hN => ?_) fun acc hl hacc => ?_
      · walk_at "dg"
        exact ⟨by omega, lg _ (by omega) (by omega), fun r h5 h6 => hN _ ⟨r, rfl, h5, h6⟩⟩
      · obtain ⟨ts, rfl, hts⟩ := ints_of hacc
        rw [ups_length, List.length_map] at hl
        exact hR2 ts hl hts
    refine ⟨h3, lg _ (by omega) (by omega), fun r r0 r1 => ⟨lg _ (by decide) (by decide), fun c c0 c1 => ⟨fun z => ⟨by omega, lg _ (by omega) (by omega), fun q q0 q1 => ⟨by omega, by omega, by omega, ?_⟩⟩, fun z => ⟨fun z2 => ⟨lg _ (by decide) (by decide), fun q q0 q1 => ⟨by omega, by omega, ?_⟩⟩, fun z2 => ⟨by omega, by omega, ?_⟩⟩⟩⟩⟩
    · have e : (List.replicate (1 + r).toNat [D.int q]).flatten = (List.replicate (1 + r).toNat q).map D.int := by
        rw [List.flatten_replicate_singleton, List.map_replicate]
      rw [e]
      exact hR _ ⟨by rw [List.length_replicate]; omega, by rw [List.length_replicate]; omega, fun t ht => by rw [List.eq_of_mem_replicate ht]; exact ⟨q0, q1⟩⟩
    · refine drawn _ _ _ _ _ _ (by omega) fun part hp hpm => ⟨by omega, by omega, ?_⟩
      refine LcP.all (fun y => ∃ n : Int, y = .int n ∧ (0 ≤ n ∧ n < h)) (by rw [ups_length, sizeLine_eq]; omega) (fun i d N e hN => ?_) fun acc hl hacc => ?_
      · obtain ⟨hi, rfl⟩ := ups_at e
        walk_at "dg"
        have hpl : 0 < part.length := by omega
        have hlt : i % part.length < part.length := Nat.mod_lt _ hpl
        have ef : ((i : Int)).fmod (part.length : Int) = ((i % part.length : Nat) : Int) := by
          rw [Int.fmod_eq_emod_of_nonneg _ (by omega)]
          rfl
        refine ⟨by omega, _, at_ints (k := i % part.length) ef hlt, hN _ ⟨_, rfl, hpm _ ?_⟩⟩
        simp only [List.getD, List.getElem?_eq_getElem hlt]
        exact List.getElem_mem hlt
      · obtain ⟨ts, rfl, hts⟩ := ints_of hacc
        rw [ups_length, List.length_map] at hl
        exact hR ts ⟨by omega, by omega, hts⟩
    · exact drawn _ _ _ _ _ _ (by omega) fun ts hl hts => hR ts ⟨by omega, by omega, hts⟩
local macro_rules | `(tactic| walk_at "rk") => `(tactic| first
  | assumption
  | (refine rok_app ?_ ?_ ?_ <;> first | walk_at "rk" | (simp only [List.length_append, List.length_reverse, List.length_map, List.length_replicate]; omega))
  | (refine rok_rev ?_; walk_at "rk")
  | (refine rok_map ?_ _ (fun t => fmod_in (by assumption)); walk_at "rk")
  | omega
  | decide
  | (refine log_lt (k := 80) ?_ (by decide) (by decide); omega))
local macro_rules | `(tactic| walk_at "fin") => `(tactic| ((repeat' (first | (with_reducible assumption) | (with_reducible refine And.intro ?_ ?_) | (with_reducible intro _))); all_goals first | (with_reducible assumption) | omega | contradiction | trivial))
local macro_rules | `(tactic| walk_at "cj") => `(tactic| repeat' (refine And.intro (by walk_at "rk") ?_))
/-- the first index at which some lists differ -/
def un (tt : List (List Int)) (i : Nat) : Bool := !(tt.all fun l => l.getD i 0 == (tt.headD []).getD i 0)
/-- what a hand gets of a function of the place -/
def ga : List Int → (Nat → Int) → Int → Int
  | [], _, _ => 0
  | t :: ts, g, k => (if t = k then g 0 else 0) + ga ts (fun i => g (i + 1)) k
theorem ga_app {us : List Int} {k : Int} : ∀ {ts : List Int} {g : Nat → Int}, ga (ts ++ us) g k = ga ts g k + ga us (fun i => g (ts.length + i)) k
  | [], g => by
    show ga us g k = 0 + ga us (fun i => g (0 + i)) k
    simp only [Nat.zero_add, Int.zero_add]
  | t :: ts, g => by
    show (if t = k then g 0 else 0) + ga (ts ++ us) (fun i => g (i + 1)) k = (if t = k then g 0 else 0) + ga ts (fun i => g (i + 1)) k + ga us (fun i => g ((t :: ts).length + i)) k
    rw [ga_app, Int.add_assoc]
    congr 2
    refine congrArg (fun f => ga us f k) (funext fun i => ?_)
    rw [List.length_cons]
    congr 1
    omega
theorem ga_congr {k : Int} : ∀ {ts : List Int} {f g : Nat → Int}, (∀ i, i < ts.length → f i = g i) → ga ts f k = ga ts g k
  | [], _, _, _ => rfl
  | t :: ts, f, g, h => by
    show (if t = k then f 0 else 0) + ga ts (fun i => f (i + 1)) k = (if t = k then g 0 else 0) + ga ts (fun i => g (i + 1)) k
    rw [h 0 (by simp), ga_congr (g := fun i => g (i + 1)) fun i hi => h (i + 1) (by rw [List.length_cons]; omega)]
theorem ga_add {k : Int} : ∀ {ts : List Int} {f g : Nat → Int}, ga ts (fun i => f i + g i) k = ga ts f k + ga ts g k
  | [], _, _ => rfl
  | t :: ts, f, g => by
    show (if t = k then f 0 + g 0 else 0) + ga ts (fun i => f (i + 1) + g (i + 1)) k = (if t = k then f 0 else 0) + ga ts (fun i => f (i + 1)) k + ((if t = k then g 0 else 0) + ga ts (fun i => g (i + 1)) k)
    rw [ga_add (f := fun i => f (i + 1)) (g := fun i => g (i + 1))]
    split <;> omega
theorem ga_mul {k c : Int} : ∀ {ts : List Int} {f : Nat → Int}, ga ts (fun i => c * f i) k = c * ga ts f k
  | [], _ => (Int.mul_zero c).symm
  | t :: ts, f => by
    show (if t = k then c * f 0 else 0) + ga ts (fun i => c * f (i + 1)) k = c * ((if t = k then f 0 else 0) + ga ts (fun i => f (i + 1)) k)
    rw [ga_mul (f := fun i => f (i + 1)), Int.mul_add]
    split <;> simp
/-- binomial numbers as ints -/
def bz (i j : Nat) : Int := ((bin i j : Nat) : Int)
theorem bz_zero (i : Nat) : bz i 0 = 1 := by unfold bz; rw [bin_zero]; rfl
theorem bz_succ (i j : Nat) : bz (i + 1) (j + 1) = bz i j + bz i (j + 1) := by
  show ((bin i j + bin i (j + 1) : Nat) : Int) = _
  rw [Int.natCast_add]
  rfl
/-- polynomials of a degree below q -/
def Pl : Nat → (Nat → Int) → Prop
  | 0, g => ∀ i, g i = 0
  | q + 1, g => ∃ c : Int, Pl q (fun i => g i - c * bz i q)
theorem Pl.congr : ∀ {q : Nat} {f g : Nat → Int}, Pl q f → (∀ i, f i = g i) → Pl q g
  | 0, _, _, h, e => fun i => by rw [← e]; exact h i
  | q + 1, _, _, ⟨c, h⟩, e => ⟨c, h.congr fun i => by rw [e]⟩
theorem Pl.add : ∀ {q : Nat} {f g : Nat → Int}, Pl q f → Pl q g → Pl q fun i => f i + g i
  | 0, f, g, h1, h2 => fun i => by
    show f i + g i = 0
    rw [h1 i, h2 i]
    rfl
  | q + 1, f, g, ⟨c, h1⟩, ⟨d, h2⟩ => ⟨c + d, (Pl.add h1 h2).congr fun i => by
    show f i - c * DL.bz i q + (g i - d * DL.bz i q) = f i + g i - (c + d) * DL.bz i q
    rw [Int.add_mul]
    omega⟩
theorem Pl.mul {c : Int} : ∀ {q : Nat} {f : Nat → Int}, Pl q f → Pl q fun i => c * f i
  | 0, f, h => fun i => by
    show c * f i = 0
    rw [h i]
    exact Int.mul_zero c
  | q + 1, f, ⟨d, h⟩ => ⟨c * d, (Pl.mul (c := c) h).congr fun i => by
    show c * (f i - d * DL.bz i q) = c * f i - c * d * DL.bz i q
    rw [Int.mul_sub, Int.mul_assoc]⟩
theorem Pl.sub {q : Nat} {f g : Nat → Int} (h1 : Pl q f) (h2 : Pl q g) : Pl q fun i => f i - g i := (h1.add (h2.mul (c := -1))).congr fun i => by show f i + -1 * g i = f i - g i; omega
theorem Pl.zero : ∀ {q : Nat}, Pl q fun _ => 0
  | 0 => fun _ => rfl
  | q + 1 => ⟨0, (Pl.zero (q := q)).congr fun i => by show (0 : Int) = 0 - 0 * DL.bz i q; omega⟩
theorem Pl.up {q : Nat} {f : Nat → Int} (h : Pl q f) : Pl (q + 1) f := ⟨0, h.congr fun i => by show f i = f i - 0 * DL.bz i q; omega⟩
theorem Pl.mono {q r : Nat} {f : Nat → Int} (h : Pl q f) (l : q ≤ r) : Pl r f := by
  induction r with
  | zero =>
    have : q = 0 := by omega
    subst this
    exact h
  | succ r ih =>
    by_cases e : q = r + 1
    · subst e; exact h
    · exact (ih (by omega)).up
theorem Pl.int : ∀ {q : Nat} {g : Nat → Int}, (Pl q fun i => g (i + 1) - g i) → Pl (q + 1) g
  | 0, g, h => ⟨g 0, fun i => by
    show g i - g 0 * DL.bz i 0 = 0
    rw [bz_zero]
    induction i with
    | zero => omega
    | succ i ih =>
      have h1 : g (i + 1) - g i = 0 := h i
      omega⟩
  | q + 1, g, ⟨c, h⟩ => ⟨c, Pl.int (h.congr fun i => by
    show g (i + 1) - g i - c * DL.bz i q = g (i + 1) - c * DL.bz (i + 1) (q + 1) - (g i - c * DL.bz i (q + 1))
    rw [bz_succ, Int.mul_add]
    omega)⟩
/-- all hands get alike of g -/
def Al (h : Int) (ts : List Int) (g : Nat → Int) : Prop := ∀ a b : Int, 0 ≤ a → a < h → 0 ≤ b → b < h → ga ts g a = ga ts g b
theorem Al.congr {h : Int} {ts : List Int} {f g : Nat → Int} (a : Al h ts f) (e : ∀ i, i < ts.length → f i = g i) : Al h ts g := fun x y x0 x1 y0 y1 => by
  rw [← ga_congr e, ← ga_congr e]
  exact a x y x0 x1 y0 y1
theorem Al.add {h : Int} {ts : List Int} {f g : Nat → Int} (a : Al h ts f) (b : Al h ts g) : Al h ts fun i => f i + g i := fun x y x0 x1 y0 y1 => by
  rw [ga_add, ga_add, a x y x0 x1 y0 y1, b x y x0 x1 y0 y1]
theorem Al.mul {h c : Int} {ts : List Int} {f : Nat → Int} (a : Al h ts f) : Al h ts fun i => c * f i := fun x y x0 x1 y0 y1 => by
  rw [ga_mul, ga_mul, a x y x0 x1 y0 y1]
/-- the height of a row -/
def Ht (h : Int) (ts : List Int) (q : Nat) : Prop := (∀ p, p < q → Al h ts fun i => bz i p) ∧ ¬ Al h ts fun i => bz i q
theorem Ht.inj {h : Int} {ts : List Int} {q r : Nat} (a : Ht h ts q) (b : Ht h ts r) : q = r := by
  rcases Nat.lt_trichotomy q r with z | z | z
  · exact absurd (b.1 q z) a.2
  · exact z
  · exact absurd (a.1 r z) b.2
theorem Ht.ex {h : Int} {ts : List Int} : ∀ {r : Nat}, (¬ Al h ts fun i => bz i r) → ∃ q, q ≤ r ∧ Ht h ts q := fun {r} b => by
  induction r using Nat.strongRecOn with
  | _ r ih =>
    by_cases z : ∀ p, p < r → Al h ts fun i => bz i p
    · exact ⟨r, Nat.le_refl _, z, b⟩
    · obtain ⟨p, hp⟩ := Classical.not_forall.mp z
      obtain ⟨h1, h2⟩ := Classical.not_imp.mp hp
      obtain ⟨q, hq, e⟩ := ih p h1 h2
      exact ⟨q, by omega, e⟩
theorem ga_snoc {ts : List Int} {t k : Int} {g : Nat → Int} : ga (ts ++ [t]) g k = ga ts g k + if t = k then g ts.length else 0 := by
  rw [ga_app]
  show _ + ((if t = k then g (ts.length + 0) else 0) + 0) = _
  rw [Nat.add_zero, Int.add_zero]
theorem ups_range {n : Nat} : ups 0 n = (List.range n).map fun (i : Nat) => D.int (i : Int) := by
  apply List.ext_getElem?
  intro i
  rw [ups_get, List.getElem?_map, Int.zero_add]
  by_cases hi : i < n
  · rw [if_pos hi, List.getElem?_range hi]
    rfl
  · rw [if_neg hi, List.getElem?_eq_none (by rw [List.length_range]; omega)]
    rfl
local macro_rules | `(tactic| walk_at "rk") => `(tactic| first
  | assumption
  | (refine rok_app ?_ ?_ ?_ <;> first | walk_at "rk" | (simp only [List.length_append, List.length_reverse, List.length_map, List.length_replicate]; omega))
  | (refine rok_rev ?_; walk_at "rk")
  | (refine rok_map ?_ _ (fun t => fmod_in (by assumption)); walk_at "rk")
  | omega
  | decide
  | (refine log_lt (k := 80) ?_ (by decide) (by decide); omega))
local macro_rules | `(tactic| walk_at "fin") => `(tactic| ((repeat' (first | (with_reducible assumption) | (with_reducible refine And.intro ?_ ?_) | (with_reducible intro _))); all_goals first | (with_reducible assumption) | omega | contradiction | trivial))
local macro_rules | `(tactic| walk_at "cj") => `(tactic| repeat' (refine And.intro (by walk_at "rk") ?_))
def dvG (n K : Nat) (f : Nat → Nat → Int) : List Int := (List.range (n - 1)).flatMap fun l => (List.range K).map fun k => f l k
theorem dvG_add {n K : Nat} {f g : Nat → Nat → Int} : List.zipWith (· + ·) (dvG n K f) (dvG n K g) = dvG n K fun l k => f l k + g l k := by
  unfold dvG
  generalize List.range (n - 1) = L
  induction L with
  | nil => rfl
  | cons l L ih =>
    rw [List.flatMap_cons, List.flatMap_cons, List.flatMap_cons, List.zipWith_append (by rw [List.length_map, List.length_map]), ih]
    congr 1
    rw [List.zipWith_map_left, List.zipWith_map_right, List.zipWith_self]
theorem dvG_neg {n K : Nat} {f : Nat → Nat → Int} : (dvG n K f).map (fun i => -i) = dvG n K fun l k => - f l k := by
  unfold dvG
  rw [List.map_flatMap]
  congr 1
  funext l
  rw [List.map_map]
  rfl
def ind (x y : Int) : Int := if x = y then 1 else 0
/-- the deviation of one turn -/
def dvA (at0 : Nat) (x : Int) : Nat → Nat → Int := fun l k => bz at0 k * (ind x ((l : Int) + 1) - ind x 0)
/-- the deviation of a row -/
def dvR (ts : List Int) : Nat → Nat → Int := fun l k => ga ts (fun i => bz i k) ((l : Int) + 1) - ga ts (fun i => bz i k) 0
theorem dvR_snoc {ts : List Int} {t : Int} : dvR (ts ++ [t]) = fun l k => dvR ts l k + dvA ts.length t l k := by
  funext l k
  unfold dvR dvA ind
  rw [ga_snoc, ga_snoc]
  split <;> split <;> simp <;> omega
theorem ga_set {x y : Int} : ∀ {ts : List Int} {p : Nat} {g : Nat → Int}, p < ts.length → ga (ts.set p y) g x = ga ts g x - g p * ind (ts.getD p 0) x + g p * ind y x
  | [], p, g, h => by simp at h
  | t :: ts, 0, g, _ => by
    show (if y = x then g 0 else 0) + ga ts (fun i => g (i + 1)) x = (if t = x then g 0 else 0) + ga ts (fun i => g (i + 1)) x - g 0 * ind t x + g 0 * ind y x
    unfold ind
    split <;> split <;> simp <;> omega
  | t :: ts, p + 1, g, h => by
    have ih := ga_set (x := x) (y := y) (ts := ts) (p := p) (g := fun i => g (i + 1)) (by simpa using h)
    show (if t = x then g 0 else 0) + ga (ts.set p y) (fun i => g (i + 1)) x = (if t = x then g 0 else 0) + ga ts (fun i => g (i + 1)) x - g (p + 1) * ind (ts.getD p 0) x + g (p + 1) * ind y x
    rw [ih]
    omega
/-- what a changed turn changes -/
def dvC (ts : List Int) (p : Nat) (y : Int) : Nat → Nat → Int := fun l k => - dvA p (ts.getD p 0) l k + dvA p y l k
theorem dvR_set {ts : List Int} {p : Nat} {y : Int} (h : p < ts.length) : dvR (ts.set p y) = fun l k => dvR ts l k + dvC ts p y l k := by
  funext l k
  unfold dvR dvC dvA
  rw [ga_set h, ga_set h, Int.mul_sub, Int.mul_sub]
  omega
abbrev Pr := Nat × Nat
/-- all changes of one turn from a place on -/
def opsF (n : Nat) (ts : List Int) (f : Nat) : List Pr := ((List.range ts.length).filter fun p => decide (f ≤ p)).flatMap fun p => ((List.range n).filter fun (x : Nat) => decide ((x : Int) ≠ ts.getD p 0)).map fun x => (p, x)
def enF (n : Nat) (ts : List Int) : Nat → Nat → List (List Pr)
  | 0, _ => [[]]
  | m + 1, f => (opsF n ts f).flatMap fun o => (enF n ts m (o.1 + 1)).map (o :: ·)
theorem opsF_filter {n f : Nat} {ts : List Int} : (opsF n ts 0).filter (fun o => decide (f ≤ o.1)) = opsF n ts f := by
  unfold opsF
  generalize List.range ts.length = L
  induction L with
  | nil => rfl
  | cons p L ih =>
    have h0 : (fun p : Nat => decide (0 ≤ p)) p = true := decide_eq_true (Nat.zero_le _)
    rw [List.filter_cons_of_pos (p := fun p : Nat => decide (0 ≤ p)) h0, List.flatMap_cons, List.filter_append, ih]
    by_cases z : f ≤ p
    · rw [List.filter_cons_of_pos (p := fun p : Nat => decide (f ≤ p)) (decide_eq_true z), List.flatMap_cons]
      congr 1
      rw [List.filter_eq_self]
      intro o ho
      obtain ⟨x, _, rfl⟩ := List.mem_map.mp ho
      exact decide_eq_true z
    · rw [List.filter_cons_of_neg (p := fun p : Nat => decide (f ≤ p)) (by simpa using z)]
      have : List.filter (fun o : Pr => decide (f ≤ o.1)) (((List.range n).filter fun (x : Nat) => decide ((x : Int) ≠ ts.getD p 0)).map fun x => (p, x)) = [] := by
        rw [List.filter_eq_nil_iff]
        intro o ho
        obtain ⟨x, _, rfl⟩ := List.mem_map.mp ho
        simpa using z
      rw [this, List.nil_append]
theorem opsF_mem {n f : Nat} {ts : List Int} {o : Pr} (h : o ∈ opsF n ts f) : f ≤ o.1 ∧ o.1 < ts.length ∧ o.2 < n ∧ (o.2 : Int) ≠ ts.getD o.1 0 := by
  unfold opsF at h
  obtain ⟨p, hp, h⟩ := List.mem_flatMap.mp h
  obtain ⟨x, hx, rfl⟩ := List.mem_map.mp h
  have h1 := List.mem_filter.mp hp
  have h2 := List.mem_filter.mp hx
  exact ⟨of_decide_eq_true h1.2, List.mem_range.mp h1.1, List.mem_range.mp h2.1, of_decide_eq_true h2.2⟩
/-- a deviation is none -/
def zeroG (n K : Nat) (g : Nat → Nat → Int) : Bool := !(dvG n K g).any fun i => decide (i ≠ 0)
def sumC (ts : List Int) : List Pr → Nat → Nat → Int
  | [] => fun _ _ => 0
  | o :: ps => fun l k => dvC ts o.1 (o.2 : Int) l k + sumC ts ps l k
/-- the search of the program -/
def chF (n K : Nat) (ts : List Int) : Nat → (Nat → Nat → Int) → Nat → Option (List Pr)
  | 0, g, _ => if zeroG n K g then some [] else none
  | m + 1, g, f => (opsF n ts f).findSome? fun o => (chF n K ts m (fun l k => g l k + - dvC ts o.1 (o.2 : Int) l k) (o.1 + 1)).map (o :: ·)
theorem chF_is {n K : Nat} {ts : List Int} : ∀ {m f : Nat} {g : Nat → Nat → Int}, chF n K ts m g f = (enF n ts m f).find? fun ps => zeroG n K fun l k => g l k - sumC ts ps l k
  | 0, f, g => by
    show (if zeroG n K g then some [] else none) = List.find? _ [[]]
    rw [List.find?_singleton]
    have : (fun l k => g l k - sumC ts [] l k) = g := by
      funext l k
      show g l k - 0 = g l k
      omega
    rw [this]
  | m + 1, f, g => by
    rw [chF, enF, List.find?_flatMap]
    congr 1
    funext o
    rw [chF_is, List.find?_map]
    congr 2
    funext ps
    show zeroG n K _ = zeroG n K _
    congr 1
    funext l k
    show g l k + - dvC ts o.1 (o.2 : Int) l k - sumC ts ps l k = g l k - (dvC ts o.1 (o.2 : Int) l k + sumC ts ps l k)
    omega
def appP (ts : List Int) (ps : List Pr) : List Int := ps.foldl (fun r o => r.set o.1 (o.2 : Int)) ts
theorem appP_dv {n : Nat} {ts : List Int} : ∀ {m f : Nat} {ps : List Pr} {r : List Int}, ps ∈ enF n ts m f → r.length = ts.length → (∀ p, f ≤ p → r.getD p 0 = ts.getD p 0) → dvR (appP r ps) = (fun l k => dvR r l k + sumC ts ps l k) ∧ (appP r ps).length = ts.length
  | 0, f, ps, r, h, hl, _ => by
    rw [enF, List.mem_singleton] at h
    subst h
    exact ⟨by funext l k; show dvR r l k = dvR r l k + 0; omega, hl⟩
  | m + 1, f, ps, r, h, hl, hr => by
    rw [enF] at h
    obtain ⟨o, ho, h⟩ := List.mem_flatMap.mp h
    obtain ⟨qs, hq, rfl⟩ := List.mem_map.mp h
    obtain ⟨o1, o2, _, _⟩ := opsF_mem ho
    obtain ⟨e1, e2⟩ := appP_dv (r := r.set o.1 (o.2 : Int)) hq (by rw [List.length_set]; exact hl) (fun p hp => by
      rw [List.getD_eq_getElem?_getD, List.getElem?_set_ne (by omega), ← List.getD_eq_getElem?_getD]
      exact hr p (by omega))
    refine ⟨?_, e2⟩
    show dvR (appP (r.set o.1 (o.2 : Int)) qs) = _
    rw [e1, dvR_set (by omega)]
    funext l k
    show dvR r l k + dvC r o.1 (o.2 : Int) l k + sumC ts qs l k = dvR r l k + (dvC ts o.1 (o.2 : Int) l k + sumC ts qs l k)
    have : dvC r o.1 (o.2 : Int) = dvC ts o.1 (o.2 : Int) := by
      unfold dvC
      rw [hr o.1 o1]
    rw [this]
    omega
/-- what both find -/
def mendF (n K : Nat) (ts : List Int) (most : Nat) : Option (List Pr) := (List.range (most + 1)).findSome? fun s => (enF n ts s 0).find? fun ps => zeroG n K (dvR (appP ts ps))
theorem find_congr {α : Type} {p q : α → Bool} : ∀ {l : List α}, (∀ x ∈ l, p x = q x) → l.find? p = l.find? q
  | [], _ => rfl
  | x :: l, h => by
    rw [List.find?_cons, List.find?_cons, h x List.mem_cons_self, find_congr fun y hy => h y (List.mem_cons_of_mem _ hy)]
theorem chF_goal {n K m : Nat} {ts : List Int} : chF n K ts m (fun l k => - dvR ts l k) 0 = (enF n ts m 0).find? fun ps => zeroG n K (dvR (appP ts ps)) := by
  rw [chF_is]
  refine find_congr fun ps hps => ?_
  rw [(appP_dv hps rfl fun _ _ => rfl).1]
  unfold zeroG
  congr 1
  rw [Bool.eq_iff_iff]
  have e : (fun l k => - dvR ts l k - sumC ts ps l k) = fun l k => - (dvR ts l k + sumC ts ps l k) := by
    funext l k
    omega
  rw [e, ← dvG_neg, List.any_map]
  rw [List.any_eq_true, List.any_eq_true]
  constructor
  · rintro ⟨x, hx, h⟩
    refine ⟨x, hx, ?_⟩
    have h : decide (-x ≠ 0) = true := h
    simpa using h
  · rintro ⟨x, hx, h⟩
    refine ⟨x, hx, ?_⟩
    show decide (-x ≠ 0) = true
    simpa using h
local macro_rules | `(tactic| walk_at "rk") => `(tactic| first
  | assumption
  | (refine rok_app ?_ ?_ ?_ <;> first | walk_at "rk" | (simp only [List.length_append, List.length_reverse, List.length_map, List.length_replicate]; omega))
  | (refine rok_rev ?_; walk_at "rk")
  | (refine rok_map ?_ _ (fun t => fmod_in (by assumption)); walk_at "rk")
  | omega
  | decide
  | (refine log_lt (k := 80) ?_ (by decide) (by decide); omega))
local macro_rules | `(tactic| walk_at "fin") => `(tactic| ((repeat' (first | (with_reducible assumption) | (with_reducible refine And.intro ?_ ?_) | (with_reducible intro _))); all_goals first | (with_reducible assumption) | omega | contradiction | trivial))
local macro_rules | `(tactic| walk_at "cj") => `(tactic| repeat' (refine And.intro (by walk_at "rk") ?_))
def dgN9 : Array Lean.Name := dgN8 ++ #[`F__law_turns_is]
local macro_rules | `(tactic| walk_at "dg") => do let xs ← dgN9.mapM fun n => `(Lean.Parser.Tactic.simpLemma| $(Lean.mkIdent n):term); `(tactic| simp only [$xs,*, List.getElem?_cons_zero, List.getElem?_cons_succ])
def F_deviation_at : Spec
  | [.int h, .int K, .int at0, .int x], R, Rx => ∃ (n m p : Nat), h = n ∧ K = m ∧ at0 = p ∧ 2 ≤ n ∧ n ≤ 4 ∧ m ≤ 10 ∧ p ≤ 2000 ∧ R (.tup ((dvG n m (dvA p x)).map .int))
  | _, _, _ => False
theorem F_deviation_at_is {h : Int} {K : Int} {at0 : Int} {x : Int} {R : D → Prop} {Rx : Er → Prop} : F_deviation_at [.int h, .int K, .int at0, .int x] R Rx = (∃ (n m p : Nat), h = n ∧ K = m ∧ at0 = p ∧ 2 ≤ n ∧ n ≤ 4 ∧ m ≤ 10 ∧ p ≤ 2000 ∧ R (.tup ((dvG n m (dvA p x)).map .int))) := rfl
theorem F_deviation_at_of {ds : List D} {R : D → Prop} {Rx : Er → Prop} (z : F_deviation_at ds R Rx) : ∃ (h : Int) (K : Int) (at0 : Int) (x : Int), ds = [.int h, .int K, .int at0, .int x] ∧ (∃ (n m p : Nat), h = n ∧ K = m ∧ at0 = p ∧ 2 ≤ n ∧ n ≤ 4 ∧ m ≤ 10 ∧ p ≤ 2000 ∧ R (.tup ((dvG n m (dvA p x)).map .int))) := by
  unfold F_deviation_at at z
  split at z
  · exact ⟨_, _, _, _, rfl, z⟩
  · exact z.elim
def b_deviation_at (Dx : Df K mg "deviation_at" s_deviation_at) : Binds K Dx.fd ["hands", "wanted", "at", "hand"] [] := Dx.F.bindsN fun _ _ _ _ _ _ us hl => match us, hl with | [_, _, _, _], _ => rfl
def n_deviation_at : List Str := ["hands", "wanted", "at", "hand", "ways", "k", "late", "way"]
theorem sc_deviation_at : FnScope n_deviation_at ["hands", "wanted", "at", "hand"] (defScope s_deviation_at) := ⟨rfl, rfl, rfl, by decide +kernel, rfl, by decide +kernel, by decide +kernel⟩
theorem ok_deviation_at (T : Tx mg) (D_deviation_at : Df K mg "deviation_at" s_deviation_at) (D_choose : Df K mg "choose" s_choose) : FnOk P w K mg base (L2.CX P w) 3 D_deviation_at.f D_deviation_at.fd ["hands", "wanted", "at", "hand"] (spD F_deviation_at) := by
  have G_choose := ok_choose (P := P) (w := w) (base := base) D_choose T.m_range
  refine fn_d D_deviation_at.F sc_deviation_at (fun ds R Rx hs0 => ?_) (fun cdv A outer s H E hr => have hu := hr.units
    (ds_cons (s_set (i := 4) sc_deviation_at.nd (d_ofF (f_lc rfl sc_deviation_at.nd (i_rg1 (da_cons (d_var 1) da_nil) T.m_range) (blkOk_by (own := [("k", 5)]) (N := n_deviation_at) (sc := defScope s_deviation_at) (by decide +kernel)) (by decide) (fun _ _ _ _ _ => (g_name (i := 5) sc_deviation_at.nd)) (fun _ _ _ _ _ => dts_nil) (fun _ _ _ _ _ => (d_call G_choose (hr.mono (by decide)) D_choose.g D_choose.F.kp (b_choose D_choose) .nil dfR_nil passL (da_cons (d_var 2) (da_cons (d_var 5) da_nil)))))))
    (ds_one (s_ret (d_callT b_tuple T.m_tuple PyProof.Rows.boot_tuple (da_cons (d_ofF (f_lc2 rfl sc_deviation_at.nd (i_rg2 (da_cons d_int (da_cons (d_var 0) da_nil)) T.m_range) (blkOk_by (own := [("late", 6), ("way", 7)]) (N := n_deviation_at) (sc := defScope s_deviation_at) (by decide +kernel)) (by decide) (vs1 := [7]) (by decide) (by decide) (fun _ _ _ _ _ => (g_name (i := 6) sc_deviation_at.nd)) (fun _ _ _ _ _ => dts_nil) (fun _ _ _ _ _ => (i_list (d_var 4))) (fun _ _ _ _ _ => (g_name (i := 7) sc_deviation_at.nd)) (fun _ _ _ _ _ => dts_nil) (fun _ _ _ _ _ => (d_mul (d_var 7) (d_sub (d_callT b_int T.m_int PyProof.Rows.boot_int (da_cons (d_cmp (c_eq hu) (d_var 3) (d_var 6) (nomark _)) da_nil)) (d_callT b_int T.m_int PyProof.Rows.boot_int (da_cons (d_cmp (c_eq hu) (d_var 3) d_int (nomark _)) da_nil))))))) da_nil))))) ) fun ds R Rx hs0 => ?_
  · obtain ⟨_, _, _, _, rfl, _⟩ := F_deviation_at_of hs0
    rfl
  · obtain ⟨h, K, at0, x, rfl, hs⟩ := F_deviation_at_of hs0
    clear hs0
    simp only [n_deviation_at]
    walk_at "dg"
    obtain ⟨n, m, p, rfl, rfl, rfl, n2, n4, m10, p2, hR⟩ := hs
    refine ⟨by omega, by omega, ?_⟩
    rw [Int.toNat_natCast, ups_range]
    refine LcP.of (fun (k : Nat) => .int (bz p k)) (by rw [List.length_range, sizeLine_eq]; omega) (fun j k N ek hN => ?_) ?_
    · have hk : k < m := List.mem_range.mp (List.mem_of_getElem? ek)
      walk_at "dg"
      refine ⟨by omega, by omega, by omega, by omega, ?_⟩
      rw [chs_nat]
      exact hN
    refine ⟨⟨by omega, by omega⟩, ?_⟩
    have e1 : ups 1 ((n : Int) - 1).toNat = (List.range (n - 1)).map fun (l : Nat) => D.int ((l : Int) + 1) := by
      apply List.ext_getElem?
      intro i
      rw [ups_get, List.getElem?_map, show ((n : Int) - 1).toNat = n - 1 by omega]
      by_cases hi : i < n - 1
      · rw [if_pos hi, List.getElem?_range hi]
        show some (D.int (1 + (i : Int))) = some (D.int ((i : Int) + 1))
        rw [Int.add_comm]
      · rw [if_neg hi, List.getElem?_eq_none (by rw [List.length_range]; omega)]
        rfl
    have em : (List.range m).map (fun (k : Nat) => D.int (bz p k)) = ((List.range m).map fun k => bz p k).map D.int := by rw [List.map_map]; rfl
    rw [e1]
    refine Lc2P.of (List.range m) (fun (k : Nat) => D.int (bz p k)) (fun (l k : Nat) => .int (dvA p x l k)) (by rw [List.length_range, List.length_range, sizeLine_eq]; exact Nat.le_trans (Nat.mul_le_mul (show n - 1 ≤ 10 by omega) m10) (by decide)) (fun i l R1 e h1 => ?_) ?_
    · walk_at "dg"
      refine h1 _ (fun M hM => ?_) fun j k N e hN => ?_
      · walk_at "dg"
        exact hM
      · walk_at "dg"
        have hk : k < m := List.mem_range.mp (List.mem_of_getElem? e)
        have bb := bin_bits (n := p) (i := k) (Nat.lt_of_lt_of_le (show p < 2001 by omega) (by decide)) (by omega)
        have bi : ∀ a b : Int, (ind a b = 0 ∨ ind a b = 1) := fun a b => by unfold ind; split <;> simp
        have i1 := bi x ((l : Int) + 1)
        have i2 := bi x 0
        show MulOk (bz p k) (ind x ((l : Int) + 1) - ind x 0) ∧ N (D.int (bz p k * (ind x ((l : Int) + 1) - ind x 0)))
        refine ⟨.inr (wide_mul (a := 282001) (b := 10) (by unfold bz; rw [Int.natAbs_natCast]; exact bb) (by omega) (by decide) (by decide) (by decide)), hN⟩
    · have e : ((List.range (n - 1)).flatMap fun l => (List.range m).map fun k => D.int (dvA p x l k)) = (dvG n m (dvA p x)).map D.int := by
        unfold dvG
        rw [List.map_flatMap]
        congr 1
        funext l
        rw [List.map_map]
        rfl
      rw [e]
      exact hR
def dgN10 : Array Lean.Name := dgN9 ++ #[`F_deviation_at_is]
local macro_rules | `(tactic| walk_at "dg") => do let xs ← dgN10.mapM fun n => `(Lean.Parser.Tactic.simpLemma| $(Lean.mkIdent n):term); `(tactic| simp only [$xs,*, List.getElem?_cons_zero, List.getElem?_cons_succ])
def F_added : Spec
  | [.tup xs, .tup ys], R, Rx => ∃ a b : List Int, xs = a.map .int ∧ ys = b.map .int ∧ a.length = b.length ∧ a.length ≤ 1000 ∧ R (.tup ((List.zipWith (· + ·) a b).map .int))
  | _, _, _ => False
theorem F_added_is {xs : List D} {ys : List D} {R : D → Prop} {Rx : Er → Prop} : F_added [.tup xs, .tup ys] R Rx = (∃ a b : List Int, xs = a.map .int ∧ ys = b.map .int ∧ a.length = b.length ∧ a.length ≤ 1000 ∧ R (.tup ((List.zipWith (· + ·) a b).map .int))) := rfl
theorem F_added_of {ds : List D} {R : D → Prop} {Rx : Er → Prop} (z : F_added ds R Rx) : ∃ (xs : List D) (ys : List D), ds = [.tup xs, .tup ys] ∧ (∃ a b : List Int, xs = a.map .int ∧ ys = b.map .int ∧ a.length = b.length ∧ a.length ≤ 1000 ∧ R (.tup ((List.zipWith (· + ·) a b).map .int))) := by
  unfold F_added at z
  split at z
  · exact ⟨_, _, rfl, z⟩
  · exact z.elim
def b_added (Dx : Df K mg "added" s_added) : Binds K Dx.fd ["one", "other"] [] := Dx.F.bindsN fun _ _ _ _ _ _ us hl => match us, hl with | [_, _], _ => rfl
def n_added : List Str := ["one", "other", "early", "late"]
theorem sc_added : FnScope n_added ["one", "other"] (defScope s_added) := ⟨rfl, rfl, rfl, by decide +kernel, rfl, by decide +kernel, by decide +kernel⟩
theorem ok_added (T : Tx mg) (D_added : Df K mg "added" s_added) : FnOk P w K mg base (L2.CX P w) 1 D_added.f D_added.fd ["one", "other"] (spD F_added) := by

  refine fn_d D_added.F sc_added (fun ds R Rx hs0 => ?_) (fun cdv A outer s H E hr => have hu := hr.units
    (ds_one (s_ret (d_callT b_tuple T.m_tuple PyProof.Rows.boot_tuple (da_cons (d_ofF (f_lc rfl sc_added.nd (i_zipX (da_cons (d_var 0) (da_cons (d_var 1) da_nil)) T.m_zip) (blkOk_by (own := [("early", 2), ("late", 3)]) (N := n_added) (sc := defScope s_added) (by decide +kernel)) (by decide) (fun _ _ _ _ _ => (g_tup (n := 2) rfl (gs_cons (g_name (i := 2) sc_added.nd) (gs_cons (g_name (i := 3) sc_added.nd) gs_nil)))) (fun _ _ _ _ _ => dts_nil) (fun _ _ _ _ _ => (d_add (d_var 2) (d_var 3))))) da_nil)))) ) fun ds R Rx hs0 => ?_
  · obtain ⟨_, _, rfl, _⟩ := F_added_of hs0
    rfl
  · obtain ⟨xs, ys, rfl, hs⟩ := F_added_of hs0
    clear hs0
    simp only [n_added]
    walk_at "dg"
    obtain ⟨a, b, rfl, rfl, hl, h1, hR⟩ := hs
    refine ⟨by rw [List.length_map, List.length_map]; omega, ?_⟩
    refine LcP.idx (fun i => .int ((List.zipWith (· + ·) a b).getD i 0)) (by rw [pairs_length, List.length_map, sizeLine_eq]; omega) (fun i d N e hN => ?_) ?_
    · obtain ⟨q1, q2, rfl⟩ := pairs_ints e
      walk_at "dg"
      rw [List.getD_eq_getElem?_getD, List.getElem?_zipWith, List.getElem?_eq_getElem q1, List.getElem?_eq_getElem q2] at hN
      rw [List.getD_eq_getElem?_getD, List.getD_eq_getElem?_getD, List.getElem?_eq_getElem q1, List.getElem?_eq_getElem q2]
      exact hN
    · have e : ((List.range (pairs (a.map D.int) (b.map D.int)).length).map fun i => D.int ((List.zipWith (· + ·) a b).getD i 0)) = (List.zipWith (· + ·) a b).map D.int := by
        rw [pairs_length, List.length_map, List.length_map]
        apply List.ext_getElem?
        intro i
        rw [List.getElem?_map, List.getElem?_map]
        by_cases hi : i < (List.zipWith (· + ·) a b).length
        · have h2 := hi
          rw [List.length_zipWith] at h2
          rw [List.getElem?_range h2, List.getElem?_eq_getElem hi]
          show some (D.int ((List.zipWith (· + ·) a b).getD i 0)) = some (D.int _)
          rw [List.getD_eq_getElem?_getD, List.getElem?_eq_getElem hi]
          rfl
        · have h2 := hi
          rw [List.length_zipWith] at h2
          rw [List.getElem?_eq_none (by rw [List.length_range]; omega), List.getElem?_eq_none (by omega)]
          rfl
      rw [e]
      exact hR
def dgN11 : Array Lean.Name := dgN10 ++ #[`F_added_is]
local macro_rules | `(tactic| walk_at "dg") => do let xs ← dgN11.mapM fun n => `(Lean.Parser.Tactic.simpLemma| $(Lean.mkIdent n):term); `(tactic| simp only [$xs,*, List.getElem?_cons_zero, List.getElem?_cons_succ])
def F_negated : Spec
  | [.tup xs], R, Rx => ∃ a : List Int, xs = a.map .int ∧ a.length ≤ 1000 ∧ R (.tup ((a.map fun i => -i).map .int))
  | _, _, _ => False
theorem F_negated_is {xs : List D} {R : D → Prop} {Rx : Er → Prop} : F_negated [.tup xs] R Rx = (∃ a : List Int, xs = a.map .int ∧ a.length ≤ 1000 ∧ R (.tup ((a.map fun i => -i).map .int))) := rfl
theorem F_negated_of {ds : List D} {R : D → Prop} {Rx : Er → Prop} (z : F_negated ds R Rx) : ∃ (xs : List D), ds = [.tup xs] ∧ (∃ a : List Int, xs = a.map .int ∧ a.length ≤ 1000 ∧ R (.tup ((a.map fun i => -i).map .int))) := by
  unfold F_negated at z
  split at z
  · exact ⟨_, rfl, z⟩
  · exact z.elim
def b_negated (Dx : Df K mg "negated" s_negated) : Binds K Dx.fd ["one"] [] := Dx.F.bindsN fun _ _ _ _ _ _ us hl => match us, hl with | [_], _ => rfl
def n_negated : List Str := ["one", "number"]
theorem sc_negated : FnScope n_negated ["one"] (defScope s_negated) := ⟨rfl, rfl, rfl, by decide +kernel, rfl, by decide +kernel, by decide +kernel⟩
theorem ok_negated (T : Tx mg) (D_negated : Df K mg "negated" s_negated) : FnOk P w K mg base (L2.CX P w) 1 D_negated.f D_negated.fd ["one"] (spD F_negated) := by

  refine fn_d D_negated.F sc_negated (fun ds R Rx hs0 => ?_) (fun cdv A outer s H E hr => have hu := hr.units
    (ds_one (s_ret (d_callT b_tuple T.m_tuple PyProof.Rows.boot_tuple (da_cons (d_ofF (f_lc rfl sc_negated.nd (i_tup (d_var 0)) (blkOk_by (own := [("number", 1)]) (N := n_negated) (sc := defScope s_negated) (by decide +kernel)) (by decide) (fun _ _ _ _ _ => (g_name (i := 1) sc_negated.nd)) (fun _ _ _ _ _ => dts_nil) (fun _ _ _ _ _ => (d_neg (d_var 1))))) da_nil)))) ) fun ds R Rx hs0 => ?_
  · obtain ⟨_, rfl, _⟩ := F_negated_of hs0
    rfl
  · obtain ⟨xs, rfl, hs⟩ := F_negated_of hs0
    clear hs0
    simp only [n_negated]
    walk_at "dg"
    obtain ⟨a, rfl, h1, hR⟩ := hs
    refine LcP.of (fun i : Int => .int (-i)) (by rw [sizeLine_eq]; omega) (fun i a N e hN => ?_) ?_
    · walk_at "dg"
      exact hN
    · rw [List.map_map] at hR
      exact hR
local macro_rules | `(tactic| walk_at "rk") => `(tactic| first
  | assumption
  | (refine rok_app ?_ ?_ ?_ <;> first | walk_at "rk" | (simp only [List.length_append, List.length_reverse, List.length_map, List.length_replicate]; omega))
  | (refine rok_rev ?_; walk_at "rk")
  | (refine rok_map ?_ _ (fun t => fmod_in (by assumption)); walk_at "rk")
  | omega
  | decide
  | (refine log_lt (k := 80) ?_ (by decide) (by decide); omega))
local macro_rules | `(tactic| walk_at "fin") => `(tactic| ((repeat' (first | (with_reducible assumption) | (with_reducible refine And.intro ?_ ?_) | (with_reducible intro _))); all_goals first | (with_reducible assumption) | omega | contradiction | trivial))
local macro_rules | `(tactic| walk_at "cj") => `(tactic| repeat' (refine And.intro (by walk_at "rk") ?_))
theorem dvG_len {n K : Nat} {f : Nat → Nat → Int} : (dvG n K f).length = (n - 1) * K := by
  unfold dvG
  rw [List.length_flatMap]
  simp [List.map_const', List.sum_replicate_nat]
theorem dvG_nil {n K : Nat} : dvG n K (dvR []) = List.replicate ((n - 1) * K) 0 := by
  refine List.eq_replicate_iff.mpr ⟨dvG_len, fun b hb => ?_⟩
  unfold dvG at hb
  obtain ⟨l, _, h⟩ := List.mem_flatMap.mp hb
  obtain ⟨k, _, rfl⟩ := List.mem_map.mp h
  rfl
theorem dvG_le {n K : Nat} (n4 : n ≤ 4) (m10 : K ≤ 10) : (n - 1) * K ≤ 30 := Nat.mul_le_mul (show n - 1 ≤ 3 by omega) m10
/-- what a turn that may be a hole brings -/
def dvP (at0 : Nat) : Option Int → Nat → Nat → Int
  | none => fun _ _ => 0
  | some t => dvA at0 t
def dvO : Nat → List (Option Int) → Nat → Nat → Int
  | _, [] => fun _ _ => 0
  | a, o :: os => fun l k => dvP a o l k + dvO (a + 1) os l k
theorem dvO_snoc {o : Option Int} : ∀ {os : List (Option Int)} {a : Nat}, dvO a (os ++ [o]) = fun l k => dvO a os l k + dvP (a + os.length) o l k
  | [], a => by
    funext l k
    show dvP a o l k + 0 = 0 + dvP (a + 0) o l k
    rw [Nat.add_zero]
    omega
  | p :: os, a => by
    funext l k
    show dvP a p l k + dvO (a + 1) (os ++ [o]) l k = (dvP a p l k + dvO (a + 1) os l k) + dvP (a + (os.length + 1)) o l k
    rw [dvO_snoc, show a + (os.length + 1) = a + 1 + os.length by omega]
    dsimp only
    omega
theorem dvO_some {ts : List Int} : dvO 0 (ts.map some) = dvR ts := by
  have key : ∀ i, i ≤ ts.length → dvO 0 ((ts.take i).map some) = dvR (ts.take i) := fun i => by
    induction i with
    | zero => intro _; rw [List.take_zero]; rfl
    | succ i ih =>
      intro hi
      have e : ts.take (i + 1) = ts.take i ++ [ts[i]] := by rw [List.take_succ, List.getElem?_eq_getElem (by omega)]; rfl
      rw [e, List.map_append, List.map_cons, List.map_nil, dvO_snoc, dvR_snoc, ih (by omega), List.length_map]
      funext l k
      rw [Nat.zero_add]
      rfl
  have := key ts.length (Nat.le_refl _)
  rwa [List.take_length] at this
def holD : Option Int → D
  | none => .non
  | some t => .int t
theorem dvG_zero0 {n K : Nat} : dvG n K (dvO 0 []) = List.replicate ((n - 1) * K) 0 := dvG_nil
def dgN12 : Array Lean.Name := dgN11 ++ #[`F_negated_is]
local macro_rules | `(tactic| walk_at "dg") => do let xs ← dgN12.mapM fun n => `(Lean.Parser.Tactic.simpLemma| $(Lean.mkIdent n):term); `(tactic| simp only [$xs,*, List.getElem?_cons_zero, List.getElem?_cons_succ])
def F_deviation : Spec
  | [.int h, .lst xs, .int K], R, Rx => ∃ (n m : Nat) (os : List (Option Int)), h = n ∧ K = m ∧ xs = os.map holD ∧ 2 ≤ n ∧ n ≤ 4 ∧ 1 ≤ m ∧ m ≤ 10 ∧ os.length ≤ 2000 ∧ R (.tup ((dvG n m (dvO 0 os)).map .int))
  | _, _, _ => False
theorem F_deviation_is {h : Int} {xs : List D} {K : Int} {R : D → Prop} {Rx : Er → Prop} : F_deviation [.int h, .lst xs, .int K] R Rx = (∃ (n m : Nat) (os : List (Option Int)), h = n ∧ K = m ∧ xs = os.map holD ∧ 2 ≤ n ∧ n ≤ 4 ∧ 1 ≤ m ∧ m ≤ 10 ∧ os.length ≤ 2000 ∧ R (.tup ((dvG n m (dvO 0 os)).map .int))) := rfl
theorem F_deviation_of {ds : List D} {R : D → Prop} {Rx : Er → Prop} (z : F_deviation ds R Rx) : ∃ (h : Int) (xs : List D) (K : Int), ds = [.int h, .lst xs, .int K] ∧ (∃ (n m : Nat) (os : List (Option Int)), h = n ∧ K = m ∧ xs = os.map holD ∧ 2 ≤ n ∧ n ≤ 4 ∧ 1 ≤ m ∧ m ≤ 10 ∧ os.length ≤ 2000 ∧ R (.tup ((dvG n m (dvO 0 os)).map .int))) := by
  unfold F_deviation at z
  split at z
  · exact ⟨_, _, _, rfl, z⟩
  · exact z.elim
def b_deviation (Dx : Df K mg "deviation" s_deviation) : Binds K Dx.fd ["hands", "turns", "wanted"] [] := Dx.F.bindsN fun _ _ _ _ _ _ us hl => match us, hl with | [_, _, _], _ => rfl
def n_deviation : List Str := ["hands", "turns", "wanted", "found", "at", "hand"]
theorem sc_deviation : FnScope n_deviation ["hands", "turns", "wanted"] (defScope s_deviation) := ⟨rfl, rfl, rfl, by decide +kernel, rfl, by decide +kernel, by decide +kernel⟩
theorem ok_deviation (T : Tx mg) (D_deviation : Df K mg "deviation" s_deviation) (D_added : Df K mg "added" s_added) (D_deviation_at : Df K mg "deviation_at" s_deviation_at) (D_choose : Df K mg "choose" s_choose) : FnOk P w K mg base (L2.CX P w) 5 D_deviation.f D_deviation.fd ["hands", "turns", "wanted"] (spD F_deviation) := by
  have G_added := ok_added (P := P) (w := w) (base := base) T D_added
  have G_deviation_at := ok_deviation_at (P := P) (w := w) (base := base) T D_deviation_at D_choose
  refine fn_d D_deviation.F sc_deviation (fun ds R Rx hs0 => ?_) (fun cdv A outer s H E hr => have hu := hr.units
    (ds_cons (s_set (i := 3) sc_deviation.nd (d_mulT (d_tup (da_cons d_int da_nil)) (d_mul (d_var 2) (d_sub (d_var 0) d_int))))
    (ds_cons (s_for (passes_of rfl) rfl (i_enum (da_cons (d_var 1) da_nil) T.m_enumerate) (g_tup (n := 2) rfl (gs_cons (g_name (i := 4) sc_deviation.nd) (gs_cons (g_name (i := 5) sc_deviation.nd) gs_nil)))
      (ds_one (s_if (dt_cmp c_isnot (d_var 5) d_non (nomark _)) (ds_one (s_set (i := 3) sc_deviation.nd (d_call G_added (hr.mono (by decide)) D_added.g D_added.F.kp (b_added D_added) .nil dfR_nil pass_d (da_cons (d_var 3) (da_cons (d_call G_deviation_at (hr.mono (by decide)) D_deviation_at.g D_deviation_at.F.kp (b_deviation_at D_deviation_at) .nil dfR_nil pass_d (da_cons (d_var 0) (da_cons (d_var 2) (da_cons (d_var 4) (da_cons (d_var 5) da_nil))))) da_nil))))) ds_nil)))
    (ds_one (s_ret (d_var 3))))) ) fun ds R Rx hs0 => ?_
  · obtain ⟨_, _, _, rfl, _⟩ := F_deviation_of hs0
    rfl
  · obtain ⟨h, xs, K, rfl, hs⟩ := F_deviation_of hs0
    clear hs0
    simp only [n_deviation]
    walk_at "dg"
    obtain ⟨n, m, os, rfl, rfl, rfl, n2, n4, m1, m10, h1, hR⟩ := hs
    have em : (m : Int) * ((n : Int) - 1) = (((n - 1) * m : Nat) : Int) := by
      rw [Int.natCast_mul, Int.mul_comm, show ((n - 1 : Nat) : Int) = (n : Int) - 1 by omega]
    have hm : 1 ≤ (n - 1) * m := Nat.mul_le_mul (show 1 ≤ n - 1 by omega) m1
    have hm2 := dvG_le n4 m10
    refine ⟨.inl (.inl ⟨by omega, by omega⟩), ?_⟩
    rw [em]
    refine ⟨by simp, by omega, by omega, by simp, ?_⟩
    have e0 : (List.replicate ((((n - 1) * m : Nat) : Int)).toNat [D.int 0]).flatten = (dvG n m (dvO 0 (os.take 0))).map D.int := by
      rw [List.take_zero, dvG_zero0, Int.toNat_natCast, repone, List.map_replicate]
    rw [e0]
    refine ⟨fun i env => ∃ x y, env = [some (.val (.int n)), some (.val (.lst (os.map holD))), some (.val (.int m)), some (.val (.tup ((dvG n m (dvO 0 (os.take i))).map .int))), x, y], ⟨_, _, rfl⟩, ?_, ?_⟩
    · rintro i d _ ed ⟨x, y, rfl⟩
      obtain ⟨c, ec, rfl⟩ := nums_get _ _ _ _ ed
      rw [List.getElem?_map] at ec
      obtain ⟨t, et, rfl⟩ := Option.map_eq_some_iff.mp ec
      have hi := (List.getElem?_eq_some_iff.mp et).1
      rw [show (0 : Int) + (i : Int) = (i : Int) by omega]
      have es : os.take (i + 1) = os.take i ++ [t] := by rw [List.take_succ, et]; rfl
      have ed : dvO 0 (os.take (i + 1)) = fun l k => dvO 0 (os.take i) l k + dvP i t l k := by
        rw [es, dvO_snoc, List.length_take, Nat.min_eq_left (Nat.le_of_lt hi), Nat.zero_add]
      cases t with
      | none =>
        have e2 : dvO 0 (os.take (i + 1)) = dvO 0 (os.take i) := by
          rw [ed]
          funext l k
          show _ + 0 = _
          rw [Int.add_zero]
        simp only [holD]
        walk_at "dg"
        rw [e2]
      | some t =>
        simp only [holD]
        walk_at "dg"
        refine ⟨n, rfl, m, rfl, i, rfl, n2, n4, m10, by omega, _, rfl, _, rfl, by rw [dvG_len, dvG_len], by rw [dvG_len]; omega, ?_⟩
        rw [dvG_add, ed]
        rfl
    · rintro _ ⟨x, y, rfl⟩
      rw [nums_length, List.length_map, List.take_length]
      walk_at "dg"
      exact hR
def prD (o : Pr) : D := .tup [.int o.1, .int o.2]
def optD (n K : Nat) (ts : List Int) (o : Pr) : D := .tup [prD o, .tup ((dvG n K (dvC ts o.1 (o.2 : Int))).map .int)]
def ansD : Option (List Pr) → D
  | none => .non
  | some ps => .lst (ps.map prD)
theorem find_filter {α β : Type} {p : α → Bool} {F : α → Option β} : ∀ {l : List α}, (l.filter p).findSome? F = l.findSome? fun a => if p a then F a else none
  | [] => rfl
  | x :: l => by
    rw [List.filter_cons, List.findSome?_cons]
    cases h : p x
    · exact find_filter (l := l)
    · show List.findSome? F (x :: List.filter p l) = _
      rw [List.findSome?_cons, find_filter (l := l)]
      rfl
def chO (n K : Nat) (ts : List Int) (m : Nat) (g : Nat → Nat → Int) (f : Nat) (o : Pr) : Option (List Pr) := if f ≤ o.1 then (chF n K ts m (fun l k => g l k + - dvC ts o.1 (o.2 : Int) l k) (o.1 + 1)).map (o :: ·) else none
theorem chF_opts {n K m f : Nat} {ts : List Int} {g : Nat → Nat → Int} : chF n K ts (m + 1) g f = (opsF n ts 0).findSome? (chO n K ts m g f) := by
  show (opsF n ts f).findSome? _ = _
  rw [← opsF_filter, find_filter]
  congr 1
  funext o
  unfold chO
  by_cases h : f ≤ o.1
  · rw [if_pos h, decide_eq_true h]
    rfl
  · rw [if_neg h, decide_eq_false h]
    rfl
theorem chF_len {n K : Nat} {ts : List Int} : ∀ {m f : Nat} {g : Nat → Nat → Int} {ps : List Pr}, chF n K ts m g f = some ps → ps.length = m
  | 0, f, g, ps, h => by
    have h : (if zeroG n K g then some [] else none) = some ps := h
    split at h
    · rw [← Option.some.inj h]
      rfl
    · exact absurd h (by simp)
  | m + 1, f, g, ps, h => by
    have h : ((opsF n ts f).findSome? fun o => (chF n K ts m (fun l k => g l k + - dvC ts o.1 (o.2 : Int) l k) (o.1 + 1)).map (o :: ·)) = some ps := h
    obtain ⟨o, _, h⟩ := List.exists_of_findSome?_eq_some h
    obtain ⟨qs, hq, rfl⟩ := Option.map_eq_some_iff.mp h
    rw [List.length_cons, chF_len hq]
theorem fn_falseU {x : Str} {st : Stmt} {F : Spec} {ps : List Str} (D0 : Df K mg x st) (h : ∀ ds R Rx, ¬ F ds R Rx) : FnOk P w K mg base (L2.CX P w) 0 D0.f D0.fd ps (spU F) :=
  ⟨fun vs H Q E ⟨_, _, ds, R, Rx, _, _, _, _, z, _⟩ => (h ds R Rx z).elim, fun A outer s H args us vs Q E _ _ _ _ ⟨_, _, ds, R, Rx, _, _, _, _, z, _⟩ => (h ds R Rx z).elim⟩
def dgN13 : Array Lean.Name := dgN12 ++ #[`F_deviation_is]
local macro_rules | `(tactic| walk_at "dg") => do let xs ← dgN13.mapM fun n => `(Lean.Parser.Tactic.simpLemma| $(Lean.mkIdent n):term); `(tactic| simp only [$xs,*, List.getElem?_cons_zero, List.getElem?_cons_succ])
def F_chosen (d : Nat) : Spec
  | [.lst xs, .tup ys, .int m, .int f], R, Rx => ∃ (n K j e : Nat) (ts : List Int) (g : Nat → Nat → Int), xs = (opsF n ts 0).map (optD n K ts) ∧ ys = (dvG n K g).map .int ∧ m = j ∧ f = e ∧ j < d ∧ j ≤ 3 ∧ n ≤ 4 ∧ K ≤ 10 ∧ ts.length ≤ 2000 ∧ R (ansD (chF n K ts j g e))
  | _, _, _ => False
theorem F_chosen_is {d : Nat} {xs : List D} {ys : List D} {m : Int} {f : Int} {R : D → Prop} {Rx : Er → Prop} : F_chosen d [.lst xs, .tup ys, .int m, .int f] R Rx = (∃ (n K j e : Nat) (ts : List Int) (g : Nat → Nat → Int), xs = (opsF n ts 0).map (optD n K ts) ∧ ys = (dvG n K g).map .int ∧ m = j ∧ f = e ∧ j < d ∧ j ≤ 3 ∧ n ≤ 4 ∧ K ≤ 10 ∧ ts.length ≤ 2000 ∧ R (ansD (chF n K ts j g e))) := rfl
theorem F_chosen_of {d : Nat} {ds : List D} {R : D → Prop} {Rx : Er → Prop} (z : F_chosen d ds R Rx) : ∃ (xs : List D) (ys : List D) (m : Int) (f : Int), ds = [.lst xs, .tup ys, .int m, .int f] ∧ (∃ (n K j e : Nat) (ts : List Int) (g : Nat → Nat → Int), xs = (opsF n ts 0).map (optD n K ts) ∧ ys = (dvG n K g).map .int ∧ m = j ∧ f = e ∧ j < d ∧ j ≤ 3 ∧ n ≤ 4 ∧ K ≤ 10 ∧ ts.length ≤ 2000 ∧ R (ansD (chF n K ts j g e))) := by
  unfold F_chosen at z
  split at z
  · exact ⟨_, _, _, _, rfl, z⟩
  · exact z.elim
theorem z0_chosen {ds : List D} {R : D → Prop} {Rx : Er → Prop} : ¬ F_chosen 0 ds R Rx := fun h => by
  obtain ⟨xs, ys, m, f, rfl, h⟩ := F_chosen_of h
  obtain ⟨n, K, j, e, ts, g, _, _, _, _, h, _⟩ := h
  omega
def b_chosen (Dx : Df K mg "chosen" s_chosen) : Binds K Dx.fd ["options", "goal", "many", "first"] [] := Dx.F.bindsN fun _ _ _ _ _ _ us hl => match us, hl with | [_, _, _, _], _ => rfl
def n_chosen : List Str := ["options", "goal", "many", "first", "pair", "change", "rest"]
theorem sc_chosen : FnScope n_chosen ["options", "goal", "many", "first"] (defScope s_chosen) := ⟨rfl, rfl, rfl, by decide +kernel, rfl, by decide +kernel, by decide +kernel⟩
def dgN14 : Array Lean.Name := dgN13 ++ #[`F_chosen_is]
local macro_rules | `(tactic| walk_at "dg") => do let xs ← dgN14.mapM fun n => `(Lean.Parser.Tactic.simpLemma| $(Lean.mkIdent n):term); `(tactic| simp only [$xs,*, List.getElem?_cons_zero, List.getElem?_cons_succ])
theorem ok_chosen (T : Tx mg) (D_chosen : Df K mg "chosen" s_chosen) (D_added : Df K mg "added" s_added) (D_negated : Df K mg "negated" s_negated) : ∀ m : Nat, FnOk P w K mg base (L2.CX P w) (3 + m) D_chosen.f D_chosen.fd ["options", "goal", "many", "first"] (spU (F_chosen m))
| 0 => FnOk.mono (fn_falseU D_chosen fun ds R Rx h => z0_chosen h) (by omega)
| m + 1 => by
  have G_chosen := ok_chosen T D_chosen D_added D_negated m
  have G_added := ok_added (P := P) (w := w) (base := base) T D_added
  have G_negated := ok_negated (P := P) (w := w) (base := base) T D_negated
  refine fn_u D_chosen.F sc_chosen (fun ds R Rx hs0 => ?_) (fun cdv A outer s H E hr => have hu := hr.units
    (ds_cons (s_if (dt_cmp (c_eq hu) (d_var 2) d_int (nomark _)) (ds_one (s_retUe (u_if (dt_tru (d_callB (b_anyI rfl) T.m_any PyProof.Rows.boot_any (da_cons (d_var 1) da_nil))) (u_flat d_non) (u_lst da_uNil)))) ds_nil)
    (ds_cons (s_for (passes_of rfl) rfl (i_list (d_var 0)) (g_tup (n := 2) rfl (gs_cons (g_name (i := 4) sc_chosen.nd) (gs_cons (g_name (i := 5) sc_chosen.nd) gs_nil)))
      (ds_one (s_if (dt_cmp c_ge (d_ix (d_var 4) d_int) (d_var 3) (nomark _)) (ds_cons (s_set (i := 6) sc_chosen.nd (d_ofU (d_callU G_chosen (hr.mono (by first | exact Nat.le_refl _ | exact Nat.le_succ _ | exact Nat.le_trans (show _ ≤ 3 by decide) (Nat.le_add_right 3 _))) D_chosen.g D_chosen.F.kp (b_chosen D_chosen) .nil dfR_nil pass_d (da_cons (d_var 0) (da_cons (d_call G_added (hr.mono (by first | exact Nat.le_refl _ | exact Nat.le_succ _ | exact Nat.le_trans (show _ ≤ 3 by decide) (Nat.le_add_right 3 _))) D_added.g D_added.F.kp (b_added D_added) .nil dfR_nil pass_d (da_cons (d_var 1) (da_cons (d_call G_negated (hr.mono (by first | exact Nat.le_refl _ | exact Nat.le_succ _ | exact Nat.le_trans (show _ ≤ 3 by decide) (Nat.le_add_right 3 _))) D_negated.g D_negated.F.kp (b_negated D_negated) .nil dfR_nil pass_d (da_cons (d_var 5) da_nil)) da_nil))) (da_cons (d_sub (d_var 2) d_int) (da_cons (d_add (d_ix (d_var 4) d_int) d_int) da_nil)))))))
            (ds_one (s_if (dt_cmp c_isnot (d_var 6) d_non (nomark _)) (ds_one (s_retUe (u_ofFNos (f_lst (da_cons (d_var 4) (da_star (d_var 6) da_nil)))))) ds_nil))) ds_nil)))
    (ds_one (s_retUe (u_flat d_non))))) ) fun ds R Rx hs0 => ?_
  · obtain ⟨_, _, _, _, rfl, _⟩ := F_chosen_of hs0
    rfl
  · obtain ⟨xs, ys, m, f, rfl, hs⟩ := F_chosen_of hs0
    clear hs0
    simp only [n_chosen]
    obtain ⟨n, K, j, e, ts, g, rfl, rfl, rfl, rfl, hj, j3, n4, k10, h1, hR⟩ := hs
    cases j with
    | zero =>
      walk_at "dg"
      have ez : zeroG n K g = !((dvG n K g).any fun n => n != 0) := by
        unfold zeroG
        congr 2
        funext i
        rw [Bool.eq_iff_iff, decide_eq_true_eq, bne_iff_ne]
      have hR : R (ansD (if zeroG n K g then some [] else none)) := hR
      refine ⟨fun _ => ⟨fun z => ?_, fun z => ?_⟩, fun z => absurd rfl z⟩
      · rw [ez, z] at hR
        exact hR
      · rw [ez, z] at hR
        exact hR
    | succ j =>
      walk_at "dg"
      refine ⟨fun z => absurd z (by omega), fun _ => ⟨fun i env => ∃ x y w, env = [some (.val (.lst ((opsF n ts 0).map (optD n K ts)))), some (.val (.tup ((dvG n K g).map .int))), some (.val (.int ((j + 1 : Nat) : Int))), some (.val (.int e)), x, y, w] ∧ chF n K ts (j + 1) g e = ((opsF n ts 0).drop i).findSome? (chO n K ts j g e), ⟨_, _, _, rfl, chF_opts⟩, ?_, ?_⟩⟩
      · rintro i d _ ed ⟨x, y, w, rfl, eI⟩
        rw [List.getElem?_map] at ed
        obtain ⟨o, eo, rfl⟩ := Option.map_eq_some_iff.mp ed
        obtain ⟨hi, eo⟩ := List.getElem?_eq_some_iff.mp eo
        rw [List.drop_eq_getElem_cons hi, eo, List.findSome?_cons] at eI
        unfold optD prD
        walk_at "dg"
        have hl := dvG_le n4 k10
        refine ⟨fun z => ⟨_, rfl, by rw [dvG_len]; omega, _, rfl, _, rfl, by rw [List.length_map, dvG_len, dvG_len], by rw [dvG_len]; omega, n, K, j, o.1 + 1, ts, rfl, _, by rw [dvG_neg, dvG_add], by omega, by omega, by omega, by omega, n4, k10, h1, ?_⟩, fun z => ?_⟩
        · have ec : chO n K ts j g e o = (chF n K ts j (fun l k => g l k + - dvC ts o.1 (o.2 : Int) l k) (o.1 + 1)).map (o :: ·) := if_pos (by omega)
          rw [ec] at eI
          cases hc : chF n K ts j (fun l k => g l k + - dvC ts o.1 (o.2 : Int) l k) (o.1 + 1) with
          | none =>
            rw [hc] at eI
            exact ⟨fun z => absurd z (by simp [ansD, D.isN]), fun _ => eI⟩
          | some ps =>
            rw [hc] at eI
            refine ⟨fun _ => ⟨?_, ?_⟩, fun z => absurd z (by simp [ansD, D.isN])⟩
            · rw [List.length_map, chF_len hc]
              omega
            · rw [eI] at hR
              refine ⟨nosL_of fun x hx => ?_, hR⟩
              obtain ⟨q, _, rfl⟩ := List.mem_map.mp hx
              rfl
        · have ec : chO n K ts j g e o = none := if_neg (by omega)
          rw [ec] at eI
          exact eI
      · rintro _ ⟨x, y, w, rfl, eI⟩
        rw [List.drop_length] at eI
        rw [eI] at hR
        exact hR
local macro_rules | `(tactic| walk_at "rk") => `(tactic| first
  | assumption
  | (refine rok_app ?_ ?_ ?_ <;> first | walk_at "rk" | (simp only [List.length_append, List.length_reverse, List.length_map, List.length_replicate]; omega))
  | (refine rok_rev ?_; walk_at "rk")
  | (refine rok_map ?_ _ (fun t => fmod_in (by assumption)); walk_at "rk")
  | omega
  | decide
  | (refine log_lt (k := 80) ?_ (by decide) (by decide); omega))
local macro_rules | `(tactic| walk_at "fin") => `(tactic| ((repeat' (first | (with_reducible assumption) | (with_reducible refine And.intro ?_ ?_) | (with_reducible intro _))); all_goals first | (with_reducible assumption) | omega | contradiction | trivial))
local macro_rules | `(tactic| walk_at "cj") => `(tactic| repeat' (refine And.intro (by walk_at "rk") ?_))
def opsG (n : Nat) (ts : List Int) (p : Nat) : List Pr := ((List.range n).filter fun (x : Nat) => decide ((x : Int) ≠ ts.getD p 0)).map fun x => (p, x)
def opsI (n : Nat) (ts : List Int) (i : Nat) : List Pr := (List.range i).flatMap (opsG n ts)
def opsJ (n : Nat) (ts : List Int) (i j : Nat) : List Pr := opsI n ts i ++ ((List.range j).filter fun (x : Nat) => decide ((x : Int) ≠ ts.getD i 0)).map fun x => (i, x)
theorem opsI_s {n i : Nat} {ts : List Int} : opsI n ts (i + 1) = opsJ n ts i n := by
  unfold opsI opsJ opsI
  rw [List.range_succ, List.flatMap_append, List.flatMap_cons, List.flatMap_nil, List.append_nil]
  rfl
theorem opsI_all {n : Nat} {ts : List Int} : opsI n ts ts.length = opsF n ts 0 := by
  unfold opsI opsF
  rw [List.filter_eq_self.mpr (fun a _ => by simp)]
  rfl
theorem opsJ_no {n i j : Nat} {ts : List Int} (h : (j : Int) = ts.getD i 0) : opsJ n ts i (j + 1) = opsJ n ts i j := by
  unfold opsJ
  rw [List.range_succ, List.filter_append, List.filter_cons_of_neg (by simp [h]), List.filter_nil, List.append_nil]
theorem opsJ_yes {n i j : Nat} {ts : List Int} (h : ¬ (j : Int) = ts.getD i 0) : opsJ n ts i (j + 1) = opsJ n ts i j ++ [(i, j)] := by
  unfold opsJ
  rw [List.range_succ, List.filter_append, List.filter_cons_of_pos (by simpa using h), List.filter_nil, List.map_append, List.append_assoc]
  rfl
theorem opsJ_len {n i j : Nat} {ts : List Int} (hj : j ≤ n) : (opsJ n ts i j).length ≤ (i + 1) * n := by
  have e : ∀ i, (opsI n ts i).length ≤ i * n := fun i => by
    induction i with
    | zero => exact Nat.zero_le _
    | succ i ih =>
      unfold opsI at ih ⊢
      rw [List.range_succ, List.flatMap_append, List.length_append, List.flatMap_cons, List.flatMap_nil, List.append_nil, Nat.succ_mul]
      have : (opsG n ts i).length ≤ n := by
        unfold opsG
        rw [List.length_map]
        exact Nat.le_trans (List.length_filter_le _ _) (by rw [List.length_range]; exact Nat.le_refl _)
      omega
  unfold opsJ
  rw [List.length_append, List.length_map, Nat.succ_mul]
  have h1 := e i
  have h2 : ((List.range j).filter fun (x : Nat) => decide ((x : Int) ≠ ts.getD i 0)).length ≤ n := Nat.le_trans (List.length_filter_le _ _) (by rw [List.length_range]; exact hj)
  omega
theorem mendF_ch {n K q : Nat} {ts : List Int} : mendF n K ts q = (List.range (q + 1)).findSome? fun s => chF n K ts s (fun l k => - dvR ts l k) 0 := by
  unfold mendF
  congr 1
  funext s
  rw [chF_goal]
local macro_rules | `(tactic| walk_at "dg") => do let xs ← dgN14.mapM fun n => `(Lean.Parser.Tactic.simpLemma| $(Lean.mkIdent n):term); `(tactic| simp only [$xs,*, List.getElem?_cons_zero, List.getElem?_cons_succ])
def F_check_height (CN : Addr) : Spec
  | [v], R, Rx => v.dat = true ∧ (isNum v 1 6 = true → R .non) ∧ (isNum v 1 6 = false → Rx (eIN CN v))
  | _, _, _ => False
theorem F_check_height_is {CN : Addr} {v : D} {R : D → Prop} {Rx : Er → Prop} : F_check_height CN [v] R Rx = (v.dat = true ∧ (isNum v 1 6 = true → R .non) ∧ (isNum v 1 6 = false → Rx (eIN CN v))) := rfl
theorem F_check_height_of {CN : Addr} {ds : List D} {R : D → Prop} {Rx : Er → Prop} (z : F_check_height CN ds R Rx) : ∃ (v : D), ds = [v] ∧ (v.dat = true ∧ (isNum v 1 6 = true → R .non) ∧ (isNum v 1 6 = false → Rx (eIN CN v))) := by
  unfold F_check_height at z
  split at z
  · exact ⟨_, rfl, z⟩
  · exact z.elim
def b_check_height (Dx : Df K mg "check_height" s_check_height) : Binds K Dx.fd ["wanted"] [] := Dx.F.bindsN fun _ _ _ _ _ _ us hl => match us, hl with | [_], _ => rfl
def n_check_height : List Str := ["wanted"]
theorem sc_check_height : FnScope n_check_height ["wanted"] (defScope s_check_height) := ⟨rfl, rfl, rfl, by decide +kernel, rfl, by decide +kernel, by decide +kernel⟩
theorem ok_check_height (T : Tx mg) (X_InvalidNumber : Xe K mg P.main.file "InvalidNumber" s_InvalidNumber___init__) (D_check_height : Df K mg "check_height" s_check_height) (D_is_number : Df K mg "is_number" s_is_number) (hsup : mg "super" = none) (htop : (P.main.scope.names.lookup ("super" : Str)).isSome = false) : FnOk P w K mg base (L2.CX P w) 3 D_check_height.f D_check_height.fd ["wanted"] (spD (F_check_height X_InvalidNumber.C)) := by
  have G_is_number := ok_is_number (P := P) (w := w) (base := base) D_is_number T.m_isinstance T.m_int T.m_bool
  have GX_InvalidNumber := ok_InvalidNumber___init__ (P := P) (w := w) (base := base) X_InvalidNumber hsup htop
  refine fn_d D_check_height.F sc_check_height (fun ds R Rx hs0 => ?_) (fun cdv A outer s H E hr => have hu := hr.units
    (ds_one (s_if (dt_not (dt_tru (d_call G_is_number (hr.mono (by decide)) D_is_number.g D_is_number.F.kp (b_is_number D_is_number) .nil dfR_nil pass_d (da_cons (d_var 0) (da_cons d_int (da_cons (d_gint T.c_MOST_WANTED) da_nil)))))) (ds_one (s_raise X_InvalidNumber.e.ox X_InvalidNumber.e.iC X_InvalidNumber.e.tI (by decide) (by decide) GX_InvalidNumber (hr.mono (by decide)) (b_InvalidNumber___init__ X_InvalidNumber) passL X_InvalidNumber.g rfl (takes_of rfl rfl rfl rfl) (da_cons (d_var 0) da_nil))) ds_nil)) ) fun ds R Rx hs0 => ?_
  · obtain ⟨_, rfl, _⟩ := F_check_height_of hs0
    rfl
  · obtain ⟨v, rfl, hs⟩ := F_check_height_of hs0
    clear hs0
    simp only [n_check_height]
    obtain ⟨h1, h2, h3⟩ := hs
    walk_at "dg"
    exact ⟨h1, h3, h2⟩
def dgN15 : Array Lean.Name := dgN14 ++ #[`F_check_height_is]
local macro_rules | `(tactic| walk_at "dg") => do let xs ← dgN15.mapM fun n => `(Lean.Parser.Tactic.simpLemma| $(Lean.mkIdent n):term); `(tactic| simp only [$xs,*, List.getElem?_cons_zero, List.getElem?_cons_succ])
def F_mend (C CL CN : Addr) : Spec
  | [r, K, j], R, Rx => asRow C (fun h ts => RowOk h ts ∧ (16 < ts.length → Rx (eTLn CL 16)) ∧ (ts.length ≤ 16 → K.dat = true ∧ (isNum K 1 6 = false → Rx (eIN CN K)) ∧ ∀ m : Nat, K = .int m → 1 ≤ m → m ≤ 6 → j.dat = true ∧ (isNum j 0 3 = false → Rx (eIN CN j)) ∧ ∀ q : Nat, j = .int q → q ≤ 3 → ∃ n : Nat, h = n ∧ R (ansD (mendF n m ts q)))) r
  | _, _, _ => False
theorem F_mend_is {C CL CN : Addr} {r : D} {K : D} {j : D} {R : D → Prop} {Rx : Er → Prop} : F_mend C CL CN [r, K, j] R Rx = (asRow C (fun h ts => RowOk h ts ∧ (16 < ts.length → Rx (eTLn CL 16)) ∧ (ts.length ≤ 16 → K.dat = true ∧ (isNum K 1 6 = false → Rx (eIN CN K)) ∧ ∀ m : Nat, K = .int m → 1 ≤ m → m ≤ 6 → j.dat = true ∧ (isNum j 0 3 = false → Rx (eIN CN j)) ∧ ∀ q : Nat, j = .int q → q ≤ 3 → ∃ n : Nat, h = n ∧ R (ansD (mendF n m ts q)))) r) := rfl
theorem F_mend_of {C CL CN : Addr} {ds : List D} {R : D → Prop} {Rx : Er → Prop} (z : F_mend C CL CN ds R Rx) : ∃ (r : D) (K : D) (j : D), ds = [r, K, j] ∧ (asRow C (fun h ts => RowOk h ts ∧ (16 < ts.length → Rx (eTLn CL 16)) ∧ (ts.length ≤ 16 → K.dat = true ∧ (isNum K 1 6 = false → Rx (eIN CN K)) ∧ ∀ m : Nat, K = .int m → 1 ≤ m → m ≤ 6 → j.dat = true ∧ (isNum j 0 3 = false → Rx (eIN CN j)) ∧ ∀ q : Nat, j = .int q → q ≤ 3 → ∃ n : Nat, h = n ∧ R (ansD (mendF n m ts q)))) r) := by
  unfold F_mend at z
  split at z
  · exact ⟨_, _, _, rfl, z⟩
  · exact z.elim
theorem bd_mend (Dx : Dfk K mg "mend" s_mend [("most", (V.int 2))]) : ∃ ds, Vals [(V.int 2)] ds ∧ Binds K Dx.fd ["row", "wanted", "most"] ds := Dx.F.binds0 2 (by simp) rfl fun _ _ _ _ _ _ us ks h1 h2 => match us, ks, h1, h2 with | [_, _], [_], _, _ => ⟨_, _, _, _, _, _, rfl, rfl, rfl⟩
def dd_mend : List D := [(D.int 2)]
theorem df_mend : DfR dd_mend [(V.int 2)] := fun _ _ => repL_cons rfl (repL_nil)
theorem w_dd_mend : dd_mend = [(D.int 2)] := rfl
def n_mend : List Str := ["row", "wanted", "most", "options", "at", "own", "before", "hand", "goal", "many", "found"]
theorem sc_mend : FnScope n_mend ["row", "wanted", "most"] (defScope s_mend) := ⟨rfl, rfl, rfl, by decide +kernel, rfl, by decide +kernel, by decide +kernel⟩
def dgN16 : Array Lean.Name := dgN15 ++ #[`F_mend_is, `w_dd_mend]
local macro_rules | `(tactic| walk_at "dg") => do let xs ← dgN16.mapM fun n => `(Lean.Parser.Tactic.simpLemma| $(Lean.mkIdent n):term); `(tactic| simp only [$xs,*, List.getElem?_cons_zero, List.getElem?_cons_succ])
theorem ok_mend (T : Tx mg) (K_Row : Kx_Row K mg) (X_InvalidNumber : Xe K mg P.main.file "InvalidNumber" s_InvalidNumber___init__) (X_TooLong : Xe K mg P.main.file "TooLong" s_TooLong___init__) (D_mend : Dfk K mg "mend" s_mend [("most", (V.int 2))]) (D_check_height : Df K mg "check_height" s_check_height) (D_is_number : Df K mg "is_number" s_is_number) (D_negated : Df K mg "negated" s_negated) (D_deviation_at : Df K mg "deviation_at" s_deviation_at) (D_choose : Df K mg "choose" s_choose) (D_added : Df K mg "added" s_added) (D_deviation : Df K mg "deviation" s_deviation) (D_chosen : Df K mg "chosen" s_chosen) (hsup : mg "super" = none) (htop : (P.main.scope.names.lookup ("super" : Str)).isSome = false) : FnOk P w K mg base (L2.CX P w) 9 D_mend.f D_mend.fd ["row", "wanted", "most"] (spU (F_mend K_Row.C X_TooLong.C X_InvalidNumber.C)) := by
  have G_Row___len__ := ok_Row___len__ (P := P) (w := w) (base := base) T K_Row
  have G_check_height := ok_check_height (P := P) (w := w) (base := base) T X_InvalidNumber D_check_height D_is_number hsup htop
  have G_is_number := ok_is_number (P := P) (w := w) (base := base) D_is_number T.m_isinstance T.m_int T.m_bool
  have G_Row_turns := ok_Row_turns (P := P) (w := w) (base := base) T K_Row
  have G_negated := ok_negated (P := P) (w := w) (base := base) T D_negated
  have G_deviation_at := ok_deviation_at (P := P) (w := w) (base := base) T D_deviation_at D_choose
  have G_added := ok_added (P := P) (w := w) (base := base) T D_added
  have G_deviation := ok_deviation (P := P) (w := w) (base := base) T D_deviation D_added D_deviation_at D_choose
  have G_chosen := ok_chosen (P := P) (w := w) (base := base) T D_chosen D_added D_negated 4
  have GX_TooLong := ok_TooLong___init__ (P := P) (w := w) (base := base) X_TooLong hsup htop
  have GX_InvalidNumber := ok_InvalidNumber___init__ (P := P) (w := w) (base := base) X_InvalidNumber hsup htop
  refine fn_u D_mend.F sc_mend (fun ds R Rx hs0 => ?_) (fun cdv A outer s H E hr => have hu := hr.units
    (ds_cons (s_if (dt_cmp c_gt (d_callB (b_lenOw K_Row.o___len__ G_Row___len__ (b_Row___len__ K_Row.D___len__) (hr.mono (by decide))) T.m_len boot_len (da_cons (d_var 0) da_nil)) (d_gint T.c_MOST_MENDED) (nomark _)) (ds_one (s_raise X_TooLong.e.ox X_TooLong.e.iC X_TooLong.e.tI (by decide) (by decide) GX_TooLong (hr.mono (by decide)) (b_TooLong___init__ X_TooLong) passL X_TooLong.g rfl (takes_of rfl rfl rfl rfl) (da_cons (d_gint T.c_MOST_MENDED) da_nil))) ds_nil)
    (ds_cons (s_expr (d_call G_check_height (hr.mono (by decide)) D_check_height.g D_check_height.F.kp (b_check_height D_check_height) .nil dfR_nil pass_d (da_cons (d_var 1) da_nil)))
    (ds_cons (s_if (dt_not (dt_tru (d_call G_is_number (hr.mono (by decide)) D_is_number.g D_is_number.F.kp (b_is_number D_is_number) .nil dfR_nil pass_d (da_cons (d_var 2) (da_cons d_int (da_cons d_int da_nil)))))) (ds_one (s_raise X_InvalidNumber.e.ox X_InvalidNumber.e.iC X_InvalidNumber.e.tI (by decide) (by decide) GX_InvalidNumber (hr.mono (by decide)) (b_InvalidNumber___init__ X_InvalidNumber) passL X_InvalidNumber.g rfl (takes_of rfl rfl rfl rfl) (da_cons (d_var 2) da_nil))) ds_nil)
    (ds_cons (s_setO (i := 3) sc_mend.nd (f_lst da_nil))
    (ds_cons (s_for (passes_of rfl) rfl (i_enum (da_cons (d_ofN (d_methN0 (d_var 0) K_Row.cls K_Row.h_turns G_Row_turns (hr.mono (by decide)) (b_Row_turns K_Row.D_turns) pass_d)) da_nil) T.m_enumerate) (g_tup (n := 2) rfl (gs_cons (g_name (i := 4) sc_mend.nd) (gs_cons (g_name (i := 5) sc_mend.nd) gs_nil)))
      (ds_cons (s_set (i := 6) sc_mend.nd (d_call G_negated (hr.mono (by decide)) D_negated.g D_negated.F.kp (b_negated D_negated) .nil dfR_nil pass_d (da_cons (d_call G_deviation_at (hr.mono (by decide)) D_deviation_at.g D_deviation_at.F.kp (b_deviation_at D_deviation_at) .nil dfR_nil pass_d (da_cons (d_fld (d_var 0) K_Row.cls K_Row.n_hands) (da_cons (d_var 1) (da_cons (d_var 4) (da_cons (d_var 5) da_nil))))) da_nil)))
        (ds_one (s_for (passes_of rfl) rfl (i_rg1 (da_cons (d_fld (d_var 0) K_Row.cls K_Row.n_hands) da_nil) T.m_range) (g_name (i := 7) sc_mend.nd)
          (ds_one (s_if (dt_cmp (c_ne hu) (d_var 7) (d_var 5) (nomark _)) (ds_one (s_app 3 (d_tup (da_cons (d_tup (da_cons (d_var 4) (da_cons (d_var 7) da_nil))) (da_cons (d_call G_added (hr.mono (by decide)) D_added.g D_added.F.kp (b_added D_added) .nil dfR_nil pass_d (da_cons (d_var 6) (da_cons (d_call G_deviation_at (hr.mono (by decide)) D_deviation_at.g D_deviation_at.F.kp (b_deviation_at D_deviation_at) .nil dfR_nil pass_d (da_cons (d_fld (d_var 0) K_Row.cls K_Row.n_hands) (da_cons (d_var 1) (da_cons (d_var 4) (da_cons (d_var 7) da_nil))))) da_nil))) da_nil))) (hp := fun h => pe_bm PySem.F.plainAttrs_list PySem.F.slot_list_append PySem.F.type_list_append mt_append (pv 3) (pa_cons h pa_nil)))) ds_nil))))))
    (ds_cons (s_set (i := 8) sc_mend.nd (d_call G_negated (hr.mono (by decide)) D_negated.g D_negated.F.kp (b_negated D_negated) .nil dfR_nil pass_d (da_cons (d_call G_deviation (hr.mono (by decide)) D_deviation.g D_deviation.F.kp (b_deviation D_deviation) .nil dfR_nil pass_d (da_cons (d_fld (d_var 0) K_Row.cls K_Row.n_hands) (da_cons (d_ofN (d_methN0 (d_var 0) K_Row.cls K_Row.h_turns G_Row_turns (hr.mono (by decide)) (b_Row_turns K_Row.D_turns) pass_d)) (da_cons (d_var 1) da_nil)))) da_nil)))
    (ds_cons (s_frz 3 (s_for (passes_of rfl) rfl (i_rg1 (da_cons (d_add (d_var 2) d_int) da_nil) T.m_range) (g_name (i := 9) sc_mend.nd)
      (ds_cons (s_setU (i := 10) sc_mend.nd (d_callU G_chosen (hr.mono (by decide)) D_chosen.g D_chosen.F.kp (b_chosen D_chosen) .nil dfR_nil pass_d (da_cons (d_var 3) (da_cons (d_var 8) (da_cons (d_var 9) (da_cons d_int da_nil))))))
        (ds_one (s_if (dt_lend (dt_cmp c_isnot (d_var 10) d_non (nomark _))) (ds_one (s_retU 10)) ds_nil)))))
    (ds_one (s_retUe (u_flat d_non)))))))))) ) fun ds R Rx hs0 => ?_
  · obtain ⟨_, _, _, rfl, _⟩ := F_mend_of hs0
    rfl
  · obtain ⟨r, K, j, rfl, hs⟩ := F_mend_of hs0
    clear hs0
    simp only [n_mend]
    obtain ⟨h, ts, rfl, ok, hL, hs⟩ := asRow_of hs
    walk_at "dg"
    have ol := ok.2.2.2.1
    refine ⟨ol, by omega, by omega, fun z => hL (by omega), fun z => ?_⟩
    obtain ⟨hKd, hKn, hs⟩ := hs (by omega)
    refine ⟨hKd, fun zK => ?_, hKn⟩
    obtain ⟨m', rfl, m1, m6⟩ := isNum_of zK
    obtain ⟨m, rfl⟩ : ∃ m : Nat, m' = (m : Int) := ⟨m'.toNat, by omega⟩
    obtain ⟨hj, hjn, hs⟩ := hs m rfl (by omega) (by omega)
    refine ⟨hj, hjn, fun zj => ?_⟩
    obtain ⟨q', rfl, q0, q3⟩ := isNum_of zj
    obtain ⟨q, rfl⟩ : ∃ q : Nat, q' = (q : Int) := ⟨q'.toNat, by omega⟩
    obtain ⟨n, rfl, hR⟩ := hs q rfl (by omega)
    clear hs hKn hjn hL
    have q1 := ok.1
    have q2 := ok.2.1
    have h1 : ts.length ≤ 16 := by omega
    refine ⟨fun i env => ∃ a b c d e f g, env = [some (.val (row K_Row.C n ts)), some (.val (.int m)), some (.val (.int q)), some (.own ((opsI n ts i).map (optD n m ts))), a, b, c, d, e, f, g], ⟨_, _, _, _, _, _, _, rfl⟩, ?_, ?_⟩
    · rintro i d _ ed ⟨a, b, c, d, e, f, g, rfl⟩
      obtain ⟨x, ec, rfl⟩ := nums_get _ _ _ _ ed
      rw [List.getElem?_map] at ec
      obtain ⟨t, et, rfl⟩ := Option.map_eq_some_iff.mp ec
      obtain ⟨hi, et2⟩ := List.getElem?_eq_some_iff.mp et
      have egt : ts.getD i 0 = t := by rw [List.getD_eq_getElem?_getD, et]; rfl
      rw [show (0 : Int) + (i : Int) = (i : Int) by omega]
      walk_at "dg"
      have hl := dvG_le (n := n) (K := m) (by omega) (by omega)
      refine ⟨n, rfl, m, rfl, i, rfl, by omega, by omega, by omega, by omega, _, rfl, by rw [dvG_len]; omega, by omega, by omega, fun j env => ∃ d, env = [some (.val (row K_Row.C n ts)), some (.val (.int m)), some (.val (.int q)), some (.own ((opsJ n ts i j).map (optD n m ts))), some (.val (.int i)), some (.val (.int t)), some (.val (.tup (((dvG n m (dvA i t)).map fun i => -i).map .int))), d, e, f, g], ⟨d, ?_⟩, ?_, ?_⟩
      · unfold opsJ
        rw [List.range_zero, List.filter_nil, List.map_nil, List.append_nil]
      · rintro j d _ ed ⟨d', rfl⟩
        rw [ups_get] at ed
        split at ed
        · rename_i hj
          cases ed
          rw [show (0 : Int) + (j : Int) = (j : Int) by omega]
          walk_at "dg"
          refine ⟨fun z => ⟨n, rfl, m, rfl, i, rfl, by omega, by omega, by omega, by omega, _, rfl, _, rfl, by rw [List.length_map, dvG_len, dvG_len], by rw [List.length_map, dvG_len]; omega, ?_, ?_⟩, fun z => ?_⟩
          · have h2 := opsJ_len (n := n) (ts := ts) (i := i) (j := j) (by omega)
            have h3 : (i + 1) * n ≤ 17 * 4 := Nat.mul_le_mul (by omega) (by omega)
            omega
          · rw [opsJ_yes (by rw [egt]; exact z), List.map_append, dvG_neg, dvG_add]
            show _ ++ [_] = _ ++ [optD n m ts (i, j)]
            unfold optD dvC prD
            rw [egt]
          · rw [opsJ_no (by rw [egt]; exact z)]
        · cases ed
      · rintro _ ⟨d', rfl⟩
        rw [Int.toNat_natCast, ← opsI_s]
        exact ⟨_, _, _, _, _, _, _, rfl⟩
    · rintro _ ⟨a, b, c, d, e, f, g, rfl⟩
      rw [nums_length, List.length_map, opsI_all]
      walk_at "dg"
      have hl := dvG_le (n := n) (K := m) (by omega) (by omega)
      refine ⟨n, rfl, m, rfl, ts.map some, by rw [List.map_map]; rfl, by omega, by omega, by omega, by omega, by rw [List.length_map]; omega, ?_⟩
      rw [dvO_some]
      refine ⟨_, rfl, by rw [dvG_len]; omega, by omega, by omega, fun j env => ∃ f g, env = [some (.val (row K_Row.C n ts)), some (.val (.int m)), some (.val (.int q)), some (.val (.lst ((opsF n ts 0).map (optD n m ts)))), a, b, c, d, some (.val (.tup (((dvG n m (dvR ts)).map fun i => -i).map .int))), f, g] ∧ mendF n m ts q = ((List.range (q + 1)).drop j).findSome? fun s => chF n m ts s (fun l k => - dvR ts l k) 0, ⟨_, _, rfl, mendF_ch⟩, ?_, ?_⟩
      · rintro j d _ ed ⟨f, g, rfl, eI⟩
        rw [ups_get] at ed
        split at ed
        · rename_i hj
          cases ed
          rw [show (0 : Int) + (j : Int) = (j : Int) by omega]
          have hj2 : j < (List.range (q + 1)).length := by rw [List.length_range]; omega
          rw [List.drop_eq_getElem_cons hj2, List.getElem_range, List.findSome?_cons] at eI
          walk_at "dg"
          refine ⟨n, m, j, 0, ts, rfl, _, by rw [dvG_neg], rfl, rfl, by omega, by omega, by omega, by omega, by omega, fun z => ⟨_, rfl, ?_⟩, fun z => ?_⟩
          · cases hc : chF n m ts j (fun l k => - dvR ts l k) 0 with
            | none =>
              rw [hc] at z
              exact absurd z (by simp [ansD, D.isN])
            | some ps =>
              rw [hc] at eI
              rw [eI] at hR
              exact hR
          · cases hc : chF n m ts j (fun l k => - dvR ts l k) 0 with
            | none =>
              rw [hc] at eI
              exact eI
            | some ps =>
              rw [hc] at z
              exact absurd z (by simp [ansD, D.isN])
        · cases ed
      · rintro _ ⟨f, g, rfl, eI⟩
        rw [List.drop_of_length_le (by rw [List.length_range]; omega)] at eI
        rw [eI] at hR
        exact hR
local macro_rules | `(tactic| walk_at "rk") => `(tactic| first
  | assumption
  | (refine rok_app ?_ ?_ ?_ <;> first | walk_at "rk" | (simp only [List.length_append, List.length_reverse, List.length_map, List.length_replicate]; omega))
  | (refine rok_rev ?_; walk_at "rk")
  | (refine rok_map ?_ _ (fun t => fmod_in (by assumption)); walk_at "rk")
  | omega
  | decide
  | (refine log_lt (k := 80) ?_ (by decide) (by decide); omega))
local macro_rules | `(tactic| walk_at "fin") => `(tactic| ((repeat' (first | (with_reducible assumption) | (with_reducible refine And.intro ?_ ?_) | (with_reducible intro _))); all_goals first | (with_reducible assumption) | omega | contradiction | trivial))
local macro_rules | `(tactic| walk_at "cj") => `(tactic| repeat' (refine And.intro (by walk_at "rk") ?_))
def eTM (C : Addr) (n : Int) : Er := ⟨C, ["most", "code"], [.int n, .str "TooMany"]⟩
/-- the first wrong place of a row with holes -/
def badHole (n : Nat) : Nat → List D → Option Nat
  | _, [] => none
  | i, x :: xs => if decide (60 ≤ i) || (!x.isN && !isNum x 0 ((n : Int) - 1)) then some i else badHole n (i + 1) xs
/-- how many fillings, reckoned until there are too many -/
def manyF (n : Nat) : Nat → List D → Nat
  | m, [] => m
  | m, x :: xs => manyF n (if x.isN && decide (m ≤ 1024) then m * n else m) xs
local macro_rules | `(tactic| walk_at "dg") => do let xs ← dgN16.mapM fun n => `(Lean.Parser.Tactic.simpLemma| $(Lean.mkIdent n):term); `(tactic| simp only [$xs,*, List.getElem?_cons_zero, List.getElem?_cons_succ])
def F_check_holed (CH CT CN CM : Addr) : Spec
  | [hv, .lst xs, wv], R, Rx => hv.dat = true ∧ (isNum hv 2 4 = false → Rx (eIH CH hv)) ∧ ∀ n : Nat, hv = .int n → 2 ≤ n → n ≤ 4 → (∀ x ∈ xs, x.dat = true) ∧ xs.length ≤ 2000 ∧ (∀ i, badHole n 0 xs = some i → Rx (eIT CT i)) ∧ (badHole n 0 xs = none → (xs = [] → Rx (eIT CT 0)) ∧ (xs ≠ [] → wv.dat = true ∧ (isNum wv 1 6 = false → Rx (eIN CN wv)) ∧ (isNum wv 1 6 = true → (1024 < manyF n 1 xs → Rx (eTM CM 1024)) ∧ (manyF n 1 xs ≤ 1024 → R .non))))
  | _, _, _ => False
theorem F_check_holed_is {CH CT CN CM : Addr} {hv : D} {xs : List D} {wv : D} {R : D → Prop} {Rx : Er → Prop} : F_check_holed CH CT CN CM [hv, .lst xs, wv] R Rx = (hv.dat = true ∧ (isNum hv 2 4 = false → Rx (eIH CH hv)) ∧ ∀ n : Nat, hv = .int n → 2 ≤ n → n ≤ 4 → (∀ x ∈ xs, x.dat = true) ∧ xs.length ≤ 2000 ∧ (∀ i, badHole n 0 xs = some i → Rx (eIT CT i)) ∧ (badHole n 0 xs = none → (xs = [] → Rx (eIT CT 0)) ∧ (xs ≠ [] → wv.dat = true ∧ (isNum wv 1 6 = false → Rx (eIN CN wv)) ∧ (isNum wv 1 6 = true → (1024 < manyF n 1 xs → Rx (eTM CM 1024)) ∧ (manyF n 1 xs ≤ 1024 → R .non))))) := rfl
theorem F_check_holed_of {CH CT CN CM : Addr} {ds : List D} {R : D → Prop} {Rx : Er → Prop} (z : F_check_holed CH CT CN CM ds R Rx) : ∃ (hv : D) (xs : List D) (wv : D), ds = [hv, .lst xs, wv] ∧ (hv.dat = true ∧ (isNum hv 2 4 = false → Rx (eIH CH hv)) ∧ ∀ n : Nat, hv = .int n → 2 ≤ n → n ≤ 4 → (∀ x ∈ xs, x.dat = true) ∧ xs.length ≤ 2000 ∧ (∀ i, badHole n 0 xs = some i → Rx (eIT CT i)) ∧ (badHole n 0 xs = none → (xs = [] → Rx (eIT CT 0)) ∧ (xs ≠ [] → wv.dat = true ∧ (isNum wv 1 6 = false → Rx (eIN CN wv)) ∧ (isNum wv 1 6 = true → (1024 < manyF n 1 xs → Rx (eTM CM 1024)) ∧ (manyF n 1 xs ≤ 1024 → R .non))))) := by
  unfold F_check_holed at z
  split at z
  · exact ⟨_, _, _, rfl, z⟩
  · exact z.elim
def b_check_holed (Dx : Df K mg "check_holed" s_check_holed) : Binds K Dx.fd ["hands", "turns", "wanted"] [] := Dx.F.bindsN fun _ _ _ _ _ _ us hl => match us, hl with | [_, _, _], _ => rfl
def n_check_holed : List Str := ["hands", "turns", "wanted", "at", "hand", "many"]
theorem sc_check_holed : FnScope n_check_holed ["hands", "turns", "wanted"] (defScope s_check_holed) := ⟨rfl, rfl, rfl, by decide +kernel, rfl, by decide +kernel, by decide +kernel⟩
theorem ok_check_holed (T : Tx mg) (X_InvalidHands : Xe K mg P.main.file "InvalidHands" s_InvalidHands___init__) (X_InvalidNumber : Xe K mg P.main.file "InvalidNumber" s_InvalidNumber___init__) (X_InvalidTurn : Xe K mg P.main.file "InvalidTurn" s_InvalidTurn___init__) (X_TooMany : Xe K mg P.main.file "TooMany" s_TooMany___init__) (D_check_holed : Df K mg "check_holed" s_check_holed) (D_check_hands : Df K mg "check_hands" s_check_hands) (D_is_number : Df K mg "is_number" s_is_number) (D_check_height : Df K mg "check_height" s_check_height) (hsup : mg "super" = none) (htop : (P.main.scope.names.lookup ("super" : Str)).isSome = false) : FnOk P w K mg base (L2.CX P w) 6 D_check_holed.f D_check_holed.fd ["hands", "turns", "wanted"] (spD (F_check_holed X_InvalidHands.C X_InvalidTurn.C X_InvalidNumber.C X_TooMany.C)) := by
  have G_check_hands := ok_check_hands (P := P) (w := w) (base := base) T D_check_hands D_is_number X_InvalidHands hsup htop
  have G_is_number := ok_is_number (P := P) (w := w) (base := base) D_is_number T.m_isinstance T.m_int T.m_bool
  have G_check_height := ok_check_height (P := P) (w := w) (base := base) T X_InvalidNumber D_check_height D_is_number hsup htop
  have GX_InvalidTurn := ok_InvalidTurn___init__ (P := P) (w := w) (base := base) X_InvalidTurn hsup htop
  have GX_TooMany := ok_TooMany___init__ (P := P) (w := w) (base := base) X_TooMany hsup htop
  refine fn_d D_check_holed.F sc_check_holed (fun ds R Rx hs0 => ?_) (fun cdv A outer s H E hr => have hu := hr.units
    (ds_cons (s_expr (d_call G_check_hands (hr.mono (by decide)) D_check_hands.g D_check_hands.F.kp (b_check_hands D_check_hands) .nil dfR_nil pass_d (da_cons (d_var 0) da_nil)))
    (ds_cons (s_for (passes_of rfl) rfl (i_enum (da_cons (d_var 1) da_nil) T.m_enumerate) (g_tup (n := 2) rfl (gs_cons (g_name (i := 3) sc_check_holed.nd) (gs_cons (g_name (i := 4) sc_check_holed.nd) gs_nil)))
      (ds_one (s_if (dw_pt (dw_or (dt_cmp c_ge (d_var 3) (d_gint T.c_MOST_HOLED) (nomark _)) (dw_or1 (dw_pt (dw_and (dt_cmp c_isnot (d_var 4) d_non (nomark _)) (dw_and1 (dt_not (dt_tru (d_call G_is_number (hr.mono (by decide)) D_is_number.g D_is_number.F.kp (b_is_number D_is_number) .nil dfR_nil pass_d (da_cons (d_var 4) (da_cons d_int (da_cons (d_sub (d_var 0) d_int) da_nil)))))))))))) (ds_one (s_raise X_InvalidTurn.e.ox X_InvalidTurn.e.iC X_InvalidTurn.e.tI (by decide) (by decide) GX_InvalidTurn (hr.mono (by decide)) (b_InvalidTurn___init__ X_InvalidTurn) passL X_InvalidTurn.g rfl (takes_of rfl rfl rfl rfl) (da_cons (d_var 3) da_nil))) ds_nil)))
    (ds_cons (s_if (dt_cmp (c_eq hu) (d_callB b_len T.m_len boot_len (da_cons (d_var 1) da_nil)) d_int (nomark _)) (ds_one (s_raise X_InvalidTurn.e.ox X_InvalidTurn.e.iC X_InvalidTurn.e.tI (by decide) (by decide) GX_InvalidTurn (hr.mono (by decide)) (b_InvalidTurn___init__ X_InvalidTurn) passL X_InvalidTurn.g rfl (takes_of rfl rfl rfl rfl) (da_cons d_int da_nil))) ds_nil)
    (ds_cons (s_expr (d_call G_check_height (hr.mono (by decide)) D_check_height.g D_check_height.F.kp (b_check_height D_check_height) .nil dfR_nil pass_d (da_cons (d_var 2) da_nil)))
    (ds_cons (s_set (i := 5) sc_check_holed.nd d_int)
    (ds_cons (s_for (passes_of rfl) rfl (i_list (d_var 1)) (g_name (i := 4) sc_check_holed.nd)
      (ds_one (s_set (i := 5) sc_check_holed.nd (d_mul (d_var 5) (d_if (dw_pt (dw_and (dt_cmp c_is (d_var 4) d_non (nomark _)) (dw_and1 (dt_cmp c_le (d_var 5) (d_gint T.c_MOST_CHOICES) (nomark _))))) (d_var 0) d_int)))))
    (ds_one (s_if (dt_cmp c_gt (d_var 5) (d_gint T.c_MOST_CHOICES) (nomark _)) (ds_one (s_raise X_TooMany.e.ox X_TooMany.e.iC X_TooMany.e.tI (by decide) (by decide) GX_TooMany (hr.mono (by decide)) (b_TooMany___init__ X_TooMany) passL X_TooMany.g rfl (takes_of rfl rfl rfl rfl) (da_cons (d_gint T.c_MOST_CHOICES) da_nil))) ds_nil)))))))) ) fun ds R Rx hs0 => ?_
  · obtain ⟨_, _, _, rfl, _⟩ := F_check_holed_of hs0
    rfl
  · obtain ⟨hv, xs, wv, rfl, hs⟩ := F_check_holed_of hs0
    clear hs0
    simp only [n_check_holed]
    obtain ⟨h1, hH, hs⟩ := hs
    refine seq_step fun N1 hN1 => ?_
    walk_at "dg"
    refine ⟨h1, fun z => ?_, hH⟩
    obtain ⟨hn, rfl, h2, h4⟩ := isNum_of z
    obtain ⟨n, rfl⟩ : ∃ n : Nat, hn = (n : Int) := ⟨hn.toNat, by omega⟩
    obtain ⟨hd, hl, hB, hs⟩ := hs n rfl (by omega) (by omega)
    refine hN1 _ ?_
    clear hN1 N1
    refine seq_step fun N1 hN1 => ?_
    have rest : badHole n 0 xs = none → ∀ e3 e4 e5 : Option DV, N1 [some (.val (.int (n : Int))), some (.val (.lst xs)), some (.val wv), e3, e4, e5] := by
      intro hb e3 e4 e5
      refine hN1 _ ?_
      clear hN1
      obtain ⟨hE, hs⟩ := hs hb
      refine seq_step fun N2 hN2 => ?_
      walk_at "dg"
      refine ⟨fun z => hE (List.length_eq_zero_iff.mp (by omega)), fun z => ?_⟩
      obtain ⟨hw, hwn, hs⟩ := hs fun e => z (by rw [e]; rfl)
      refine hN2 _ ?_
      clear hN2 N2
      refine seq_step fun N1 hN1 => ?_
      walk_at "dg"
      refine ⟨hw, fun y => ?_, hwn⟩
      obtain ⟨hM, hs⟩ := hs y
      refine hN1 _ ?_
      clear hN1 N1
      refine seq_step fun N1 hN1 => ?_
      walk_at "dg"
      refine hN1 _ ?_
      clear hN1 N1
      refine seq_step fun N1 hN1 => ?_
      have fin : ∀ e3 e4 : Option DV, N1 [some (.val (.int (n : Int))), some (.val (.lst xs)), some (.val wv), e3, e4, some (.val (.int (manyF n 1 xs : Nat)))] := by
        intro e3 e4
        refine hN1 _ ?_
        walk_at "dg"
        exact ⟨fun q => hM (by omega), fun q => hs (by omega)⟩
      clear hN1
      refine for_step fun B hB2 => ?_
      walk_at "dg"
      refine ⟨fun i env => ∃ (m : Nat) (e3 e4 : Option DV), env = [some (.val (.int (n : Int))), some (.val (.lst xs)), some (.val wv), e3, e4, some (.val (.int (m : Int)))] ∧ manyF n 1 xs = manyF n m (xs.drop i) ∧ m ≤ 4096, ⟨1, e3, e4, rfl, by rw [List.drop_zero], by omega⟩, ?_, ?_⟩
      · rintro i d _ ed ⟨m, e3, e4, rfl, eI, hm⟩
        obtain ⟨hi, ex⟩ := List.getElem?_eq_some_iff.mp ed
        rw [List.drop_eq_getElem_cons hi, ex] at eI
        have eI : manyF n 1 xs = manyF n (if d.isN && decide (m ≤ 1024) then m * n else m) (xs.drop (i + 1)) := eI
        refine hB2 _ _ ?_
        clear hB2 fin
        walk_at "dg"
        have one : MulOk (m : Int) 1 ∧ ∃ m_1 : Nat, (m : Int) * 1 = m_1 ∧ m_1 = m := ⟨.inr (wide_mul (a := 4097) (b := 2) (by omega) (by omega) (by decide) (by decide) (by decide)), m, by omega, rfl⟩
        obtain ⟨o1, m1, o2, rfl⟩ := one
        refine ⟨fun q => ⟨fun q2 => ?_, fun q2 => ?_⟩, fun q => ?_⟩
        · rw [q, decide_eq_true (show m1 ≤ 1024 by omega)] at eI
          refine ⟨.inr (wide_mul (a := 4097) (b := 5) (by omega) (by omega) (by decide) (by decide) (by decide)), m1 * n, by rw [Int.natCast_mul], eI, Nat.le_trans (Nat.mul_le_mul (show m1 ≤ 1024 by omega) (show n ≤ 4 by omega)) (by decide)⟩
        · rw [q, decide_eq_false (show ¬ m1 ≤ 1024 by omega)] at eI
          exact ⟨o1, m1, o2, eI, hm⟩
        · rw [q] at eI
          exact ⟨o1, m1, o2, eI, hm⟩
      · rintro _ ⟨m, e3, e4, rfl, eI, _⟩
        rw [List.drop_length] at eI
        have eI : manyF n 1 xs = m := eI
        rw [← eI]
        exact fin _ _
    clear hN1 hs
    refine for_step fun B hB2 => ?_
    walk_at "dg"
    refine ⟨fun i env => ∃ e3 e4 e5 : Option DV, env = [some (.val (.int (n : Int))), some (.val (.lst xs)), some (.val wv), e3, e4, e5] ∧ badHole n 0 xs = badHole n i (xs.drop i), ⟨none, none, none, rfl, by rw [List.drop_zero]⟩, ?_, ?_⟩
    · rintro i d _ ed ⟨e3, e4, e5, rfl, eI⟩
      obtain ⟨x, ec, rfl⟩ := nums_get _ _ _ _ ed
      obtain ⟨hi, ex⟩ := List.getElem?_eq_some_iff.mp ec
      rw [List.drop_eq_getElem_cons hi, ex] at eI
      have hx := hd x (List.mem_of_getElem? ec)
      rw [show (0 : Int) + (i : Int) = (i : Int) by omega]
      walk_at "dg"
      refine hB2 _ _ ?_
      clear hB2 rest
      walk_at "dg"
      have eI : badHole n 0 xs = if decide (60 ≤ i) || (!x.isN && !isNum x 0 ((n : Int) - 1)) then some i else badHole n (i + 1) (xs.drop (i + 1)) := eI
      refine ⟨fun y => hB i ?_, fun y => ⟨fun zN => ⟨hx, fun q => hB i ?_, fun q => ?_⟩, fun zN => ?_⟩⟩
      · rw [eI, decide_eq_true (show 60 ≤ i by omega), Bool.true_or, if_pos rfl]
      · rw [eI, zN, q, if_pos (by simp)]
      · rw [eI, zN, q, decide_eq_false (show ¬ 60 ≤ i by omega)]
        rfl
      · rw [eI, zN, decide_eq_false (show ¬ 60 ≤ i by omega)]
        rfl
    · rintro _ ⟨e3, e4, e5, rfl, eI⟩
      rw [nums_length, List.drop_length] at eI
      exact rest eI _ _ _
/-- a row with holes that is filled -/
def fstep (n m a : Nat) (L : List (List Int × List Int)) : List (List Int × List Int) := L.flatMap fun p => (List.range n).map fun (h : Nat) => (p.1 ++ [(h : Int)], List.zipWith (· + ·) p.2 (dvG n m (dvA a h)))
def fillL (n m : Nat) : Nat → List (Option Int) → List (List Int × List Int) → List (List Int × List Int)
  | _, [], L => L
  | a, none :: os, L => fillL n m (a + 1) os (fstep n m a L)
  | a, some _ :: os, L => fillL n m (a + 1) os L
def fillF (n m : Nat) (os : List (Option Int)) : List (List Int) := ((fillL n m 0 os [([], dvG n m (dvO 0 os))]).filter fun p => !p.2.any fun i => i != 0).map fun p => p.1
def filD (p : List Int × List Int) : D := .tup [.lst (p.1.map .int), .tup (p.2.map .int)]
theorem nums_rangeA {g : Nat → D} : ∀ (n a : Nat), nums (a : Int) ((List.range' a n).map g) = (List.range' a n).map fun (j : Nat) => D.tup [.int (j : Int), g j]
  | 0, a => rfl
  | n + 1, a => by
    rw [List.range'_succ, List.map_cons, List.map_cons]
    show D.tup [.int (a : Int), g a] :: nums ((a : Int) + 1) ((List.range' (a + 1) n).map g) = _
    rw [show (a : Int) + 1 = ((a + 1 : Nat) : Int) by omega, nums_rangeA n (a + 1)]
theorem nums_range0 {g : Nat → D} {n : Nat} : nums 0 ((List.range n).map g) = (List.range n).map fun (j : Nat) => D.tup [.int (j : Int), g j] := by
  rw [List.range_eq_range']
  exact nums_rangeA n 0
theorem fstep_len {n m a : Nat} {L : List (List Int × List Int)} : (fstep n m a L).length = L.length * n := by
  unfold fstep
  induction L with
  | nil => simp
  | cons p L ih =>
    rw [List.flatMap_cons, List.length_append, List.length_map, List.length_range, ih, List.length_cons, Nat.succ_mul]
    omega
theorem fstep_wf {n m a c : Nat} {L : List (List Int × List Int)} (h : ∀ p ∈ L, p.1.length ≤ c ∧ p.2.length = (n - 1) * m) : ∀ p ∈ fstep n m a L, p.1.length ≤ c + 1 ∧ p.2.length = (n - 1) * m := by
  intro p hp
  obtain ⟨q, hq, hp⟩ := List.mem_flatMap.mp hp
  obtain ⟨x, _, rfl⟩ := List.mem_map.mp hp
  obtain ⟨h1, h2⟩ := h q hq
  refine ⟨by rw [List.length_append]; exact Nat.add_le_add_right h1 1, ?_⟩
  rw [List.length_zipWith, dvG_len, h2, Nat.min_self]
def dgN17 : Array Lean.Name := dgN16 ++ #[`F_check_holed_is]
local macro_rules | `(tactic| walk_at "dg") => do let xs ← dgN17.mapM fun n => `(Lean.Parser.Tactic.simpLemma| $(Lean.mkIdent n):term); `(tactic| simp only [$xs,*, List.getElem?_cons_zero, List.getElem?_cons_succ])
def F_fillings (CH CT CN CM : Addr) : Spec
  | [hv, .lst xs, wv], R, Rx => F_check_holed CH CT CN CM [hv, .lst xs, wv] (fun _ => ∃ (n m : Nat) (os : List (Option Int)), hv = .int n ∧ wv = .int m ∧ xs = os.map holD ∧ 2 ≤ n ∧ n ≤ 4 ∧ 1 ≤ m ∧ m ≤ 6 ∧ os.length ≤ 60 ∧ n ^ (os.count none) ≤ 1024 ∧ R (.lst ((fillF n m os).map fun l => .lst (l.map .int)))) Rx
  | _, _, _ => False
theorem F_fillings_is {CH CT CN CM : Addr} {hv : D} {xs : List D} {wv : D} {R : D → Prop} {Rx : Er → Prop} : F_fillings CH CT CN CM [hv, .lst xs, wv] R Rx = (F_check_holed CH CT CN CM [hv, .lst xs, wv] (fun _ => ∃ (n m : Nat) (os : List (Option Int)), hv = .int n ∧ wv = .int m ∧ xs = os.map holD ∧ 2 ≤ n ∧ n ≤ 4 ∧ 1 ≤ m ∧ m ≤ 6 ∧ os.length ≤ 60 ∧ n ^ (os.count none) ≤ 1024 ∧ R (.lst ((fillF n m os).map fun l => .lst (l.map .int)))) Rx) := rfl
theorem F_fillings_of {CH CT CN CM : Addr} {ds : List D} {R : D → Prop} {Rx : Er → Prop} (z : F_fillings CH CT CN CM ds R Rx) : ∃ (hv : D) (xs : List D) (wv : D), ds = [hv, .lst xs, wv] ∧ (F_check_holed CH CT CN CM [hv, .lst xs, wv] (fun _ => ∃ (n m : Nat) (os : List (Option Int)), hv = .int n ∧ wv = .int m ∧ xs = os.map holD ∧ 2 ≤ n ∧ n ≤ 4 ∧ 1 ≤ m ∧ m ≤ 6 ∧ os.length ≤ 60 ∧ n ^ (os.count none) ≤ 1024 ∧ R (.lst ((fillF n m os).map fun l => .lst (l.map .int)))) Rx) := by
  unfold F_fillings at z
  split at z
  · exact ⟨_, _, _, rfl, z⟩
  · exact z.elim
def b_fillings (Dx : Df K mg "fillings" s_fillings) : Binds K Dx.fd ["hands", "turns", "wanted"] [] := Dx.F.bindsN fun _ _ _ _ _ _ us hl => match us, hl with | [_, _, _], _ => rfl
def n_fillings : List Str := ["hands", "turns", "wanted", "found", "at", "own", "steps", "hand", "filling", "total", "step"]
theorem sc_fillings : FnScope n_fillings ["hands", "turns", "wanted"] (defScope s_fillings) := ⟨rfl, rfl, rfl, by decide +kernel, rfl, by decide +kernel, by decide +kernel⟩
theorem ok_fillings (T : Tx mg) (X_InvalidHands : Xe K mg P.main.file "InvalidHands" s_InvalidHands___init__) (X_InvalidNumber : Xe K mg P.main.file "InvalidNumber" s_InvalidNumber___init__) (X_InvalidTurn : Xe K mg P.main.file "InvalidTurn" s_InvalidTurn___init__) (X_TooMany : Xe K mg P.main.file "TooMany" s_TooMany___init__) (D_fillings : Df K mg "fillings" s_fillings) (D_check_holed : Df K mg "check_holed" s_check_holed) (D_check_hands : Df K mg "check_hands" s_check_hands) (D_is_number : Df K mg "is_number" s_is_number) (D_check_height : Df K mg "check_height" s_check_height) (D_deviation : Df K mg "deviation" s_deviation) (D_added : Df K mg "added" s_added) (D_deviation_at : Df K mg "deviation_at" s_deviation_at) (D_choose : Df K mg "choose" s_choose) (hsup : mg "super" = none) (htop : (P.main.scope.names.lookup ("super" : Str)).isSome = false) : FnOk P w K mg base (L2.CX P w) 8 D_fillings.f D_fillings.fd ["hands", "turns", "wanted"] (spD (F_fillings X_InvalidHands.C X_InvalidTurn.C X_InvalidNumber.C X_TooMany.C)) := by
  have G_check_holed := ok_check_holed (P := P) (w := w) (base := base) T X_InvalidHands X_InvalidNumber X_InvalidTurn X_TooMany D_check_holed D_check_hands D_is_number D_check_height hsup htop
  have G_deviation := ok_deviation (P := P) (w := w) (base := base) T D_deviation D_added D_deviation_at D_choose
  have G_deviation_at := ok_deviation_at (P := P) (w := w) (base := base) T D_deviation_at D_choose
  have G_added := ok_added (P := P) (w := w) (base := base) T D_added
  refine fn_d D_fillings.F sc_fillings (fun ds R Rx hs0 => ?_) (fun cdv A outer s H E hr => have hu := hr.units
    (ds_cons (s_expr (d_call G_check_holed (hr.mono (by decide)) D_check_holed.g D_check_holed.F.kp (b_check_holed D_check_holed) .nil dfR_nil pass_d (da_cons (d_var 0) (da_cons (d_var 1) (da_cons (d_var 2) da_nil)))))
    (ds_cons (s_set (i := 3) sc_fillings.nd (d_ofF (f_lst (da_cons (d_tup (da_cons (d_ofF (f_lst da_nil)) (da_cons (d_call G_deviation (hr.mono (by decide)) D_deviation.g D_deviation.F.kp (b_deviation D_deviation) .nil dfR_nil pass_d (da_cons (d_var 0) (da_cons (d_var 1) (da_cons (d_var 2) da_nil)))) da_nil))) da_nil))))
    (ds_cons (s_for (passes_of rfl) rfl (i_enum (da_cons (d_var 1) da_nil) T.m_enumerate) (g_tup (n := 2) rfl (gs_cons (g_name (i := 4) sc_fillings.nd) (gs_cons (g_name (i := 5) sc_fillings.nd) gs_nil)))
      (ds_one (s_if (dt_cmp c_is (d_var 5) d_non (nomark _)) (ds_cons (s_set (i := 6) sc_fillings.nd (d_ofF (f_lc rfl sc_fillings.nd (i_rg1 (da_cons (d_var 0) da_nil) T.m_range) (blkOk_by (own := [("hand", 7)]) (N := n_fillings) (sc := defScope s_fillings) (by decide +kernel)) (by decide) (fun _ _ _ _ _ => (g_name (i := 7) sc_fillings.nd)) (fun _ _ _ _ _ => dts_nil) (fun _ _ _ _ _ => (d_call G_deviation_at (hr.mono (by decide)) D_deviation_at.g D_deviation_at.F.kp (b_deviation_at D_deviation_at) .nil dfR_nil passL (da_cons (d_var 0) (da_cons (d_var 2) (da_cons (d_var 4) (da_cons (d_var 7) da_nil)))))))))
            (ds_one (s_setLc2 (i := 3) rfl sc_fillings.nd (i_list (d_var 3)) (blkOk_by (own := [("filling", 8), ("total", 9), ("hand", 7), ("step", 10)]) (N := n_fillings) (sc := defScope s_fillings) (by decide +kernel)) (by decide) (vs1 := [7, 10]) (by decide) (by decide) (fun _ _ _ _ _ => (g_tup (n := 2) rfl (gs_cons (g_name (i := 8) sc_fillings.nd) (gs_cons (g_name (i := 9) sc_fillings.nd) gs_nil)))) (fun _ _ _ _ _ => dts_nil) (fun _ _ _ _ _ => (i_enum (da_cons (d_var 6) da_nil) T.m_enumerate)) (fun _ _ _ _ _ => (g_tup (n := 2) rfl (gs_cons (g_name (i := 7) sc_fillings.nd) (gs_cons (g_name (i := 10) sc_fillings.nd) gs_nil)))) (fun _ _ _ _ _ => dts_nil) (fun _ _ _ _ _ => (d_tup (da_cons (d_ofF (f_lst (da_star (d_var 8) (da_cons (d_var 7) da_nil)))) (da_cons (d_call G_added (hr.mono (by decide)) D_added.g D_added.F.kp (b_added D_added) .nil dfR_nil passL (da_cons (d_var 9) (da_cons (d_var 10) da_nil))) da_nil))))))) ds_nil)))
    (ds_one (s_ret (d_ofF (f_lc rfl sc_fillings.nd (i_list (d_var 3)) (blkOk_by (own := [("filling", 8), ("total", 9)]) (N := n_fillings) (sc := defScope s_fillings) (by decide +kernel)) (by decide) (fun _ _ _ _ _ => (g_tup (n := 2) rfl (gs_cons (g_name (i := 8) sc_fillings.nd) (gs_cons (g_name (i := 9) sc_fillings.nd) gs_nil)))) (fun _ _ _ _ _ => (dts_one (dt_not (dt_tru (d_callB (b_anyI rfl) T.m_any PyProof.Rows.boot_any (da_cons (d_var 9) da_nil)))))) (fun _ _ _ _ _ => (d_var 8))))))))) ) fun ds R Rx hs0 => ?_
  · obtain ⟨_, _, _, rfl, _⟩ := F_fillings_of hs0
    rfl
  · obtain ⟨hv, xs, wv, rfl, hs⟩ := F_fillings_of hs0
    clear hs0
    simp only [n_fillings]
    refine seq_step fun N1 hN1 => ?_
    walk_at "dg"
    rw [F_check_holed_is] at hs
    obtain ⟨a1, a2, a3⟩ := hs
    refine ⟨a1, a2, fun n en n2 n4 => ?_⟩
    obtain ⟨b1, b2, b3, b4⟩ := a3 n en n2 n4
    refine ⟨b1, b2, b3, fun e => ?_⟩
    obtain ⟨c1, c2⟩ := b4 e
    refine ⟨c1, fun e => ?_⟩
    obtain ⟨d1, d2, d3⟩ := c2 e
    refine ⟨d1, d2, fun e => ⟨(d3 e).1, fun e2 => ?_⟩⟩
    obtain ⟨n', m, os, en', rfl, rfl, n2, n4, m1, m6, hl, hc, hR⟩ := (d3 e).2 e2
    rw [en] at en'
    obtain rfl : n = n' := by injection en' with z; omega
    subst en
    clear a1 a2 a3 b1 b2 b3 b4 c1 c2 d1 d2 d3 e2
    refine hN1 _ ?_
    clear hN1 N1
    refine seq_step fun N1 hN1 => ?_
    walk_at "dg"
    refine ⟨n, rfl, m, rfl, os, rfl, n2, n4, by omega, by omega, by omega, ?_⟩
    refine hN1 _ ?_
    clear hN1 N1
    refine seq_step fun N1 hN1 => ?_
    have hm2 := dvG_le (n := n) (K := m) n4 (by omega)
    have fin : ∀ (L : List (List Int × List Int)) (e4 e5 e6 e7 e8 e9 e10 : Option DV), fillL n m 0 os [([], dvG n m (dvO 0 os))] = L → (∀ p ∈ L, p.1.length ≤ os.length ∧ p.2.length = (n - 1) * m) → L.length ≤ 1024 → N1 [some (.val (.int (n : Int))), some (.val (.lst (os.map holD))), some (.val (.int (m : Int))), some (.val (.lst (L.map filD))), e4, e5, e6, e7, e8, e9, e10] := by
      intro L e4 e5 e6 e7 e8 e9 e10 eL hw hL
      refine hN1 _ ?_
      walk_at "dg"
      refine LcP.filt (as := L) (g := filD) (fun p => !p.2.any fun i => i != 0) (fun p => .lst (p.1.map .int)) (by rw [sizeLine_eq]; omega) (fun i q N M ei g1 g2 => ?_) ?_
      · have h3 := hw q (List.mem_of_getElem? ei)
        obtain ⟨l, c⟩ := q
        simp only [filD]
        walk_at "dg"
        exact ⟨fun z => g1 (by show (!c.any fun i => i != 0) = true; rw [z]; rfl), fun z => g2 (by show (!c.any fun i => i != 0) = false; rw [z]; rfl)⟩
      · subst eL
        unfold fillF at hR
        rw [List.map_map] at hR
        exact hR
    clear hN1
    refine for_step fun B hB2 => ?_
    walk_at "dg"
    refine ⟨fun i env => ∃ (L : List (List Int × List Int)) (e4 e5 e6 e7 e8 e9 e10 : Option DV), env = [some (.val (.int (n : Int))), some (.val (.lst (os.map holD))), some (.val (.int (m : Int))), some (.val (.lst (L.map filD))), e4, e5, e6, e7, e8, e9, e10] ∧ fillL n m 0 os [([], dvG n m (dvO 0 os))] = fillL n m i (os.drop i) L ∧ (∀ p ∈ L, p.1.length ≤ i ∧ p.2.length = (n - 1) * m) ∧ L.length * n ^ ((os.drop i).count none) ≤ 1024, ⟨[([], dvG n m (dvO 0 os))], none, none, none, none, none, none, none, rfl, by rw [List.drop_zero], fun p hp => (by rw [List.mem_singleton.mp hp]; exact ⟨Nat.zero_le _, dvG_len⟩), by rw [List.drop_zero, List.length_singleton, Nat.one_mul]; exact hc⟩, ?_, ?_⟩
    · rintro i d _ ed ⟨L, e4, e5, e6, e7, e8, e9, e10, rfl, eI, hw, hL⟩
      obtain ⟨x, ec, rfl⟩ := nums_get _ _ _ _ ed
      rw [List.getElem?_map] at ec
      obtain ⟨o, eo, rfl⟩ := Option.map_eq_some_iff.mp ec
      obtain ⟨hi, ex⟩ := List.getElem?_eq_some_iff.mp eo
      rw [List.drop_eq_getElem_cons hi, ex] at eI hL
      rw [show (0 : Int) + (i : Int) = (i : Int) by omega]
      cases o with
      | some t =>
        simp only [holD]
        have eI : _ = fillL n m (i + 1) (os.drop (i + 1)) L := eI
        rw [List.count_cons_of_ne (by simp)] at hL
        walk_at "dg"
        refine hB2 _ _ ?_
        clear hB2 fin
        walk_at "dg"
        exact ⟨L, rfl, eI, fun p hp => ⟨Nat.le_succ_of_le (hw p hp).1, (hw p hp).2⟩, hL⟩
      | none =>
        simp only [holD]
        have eI : _ = fillL n m (i + 1) (os.drop (i + 1)) (fstep n m i L) := eI
        rw [List.count_cons_self, Nat.pow_succ, Nat.mul_comm _ n, ← Nat.mul_assoc] at hL
        walk_at "dg"
        refine hB2 _ _ ?_
        clear hB2 fin
        walk_at "dg"
        have hLn : L.length * n ≤ 1024 := by
          have : 1 ≤ n ^ ((os.drop (i + 1)).count none) := Nat.one_le_pow _ _ (by omega)
          exact Nat.le_trans (Nat.le_mul_of_pos_right _ this) hL
        refine ⟨by omega, by omega, ?_⟩
        rw [Int.toNat_natCast, ups_range]
        refine LcP.of (fun (h : Nat) => .tup ((dvG n m (dvA i (h : Int))).map .int)) (by rw [List.length_range, sizeLine_eq]; omega) (fun j h N ej hN => ?_) ?_
        · walk_at "dg"
          exact ⟨n, rfl, m, rfl, i, rfl, n2, n4, by omega, by omega, hN⟩
        refine Lc2P.of (as := L) (g := filD) (List.range n) (fun (h : Nat) => D.tup [.int (h : Int), .tup ((dvG n m (dvA i (h : Int))).map .int)]) (fun p (h : Nat) => filD (p.1 ++ [(h : Int)], List.zipWith (· + ·) p.2 (dvG n m (dvA i (h : Int))))) (by rw [List.length_range, sizeLine_eq]; omega) (fun j q R1 eq h1 => ?_) ?_
        · have h3 := hw q (List.mem_of_getElem? eq)
          obtain ⟨l, c⟩ := q
          have h3 : l.length ≤ i ∧ c.length = (n - 1) * m := h3
          simp only [filD] at h1 ⊢
          walk_at "dg"
          refine h1 _ (fun M hM => ?_) fun j2 h N e hN => ?_
          · walk_at "dg"
            rw [nums_range0]
            exact hM
          · walk_at "dg"
            refine ⟨by omega, c, rfl, _, rfl, by rw [dvG_len, h3.2], by rw [h3.2]; omega, ?_⟩
            rw [List.map_append] at hN
            exact hN
        · refine ⟨fstep n m i L, ?_, eI, fstep_wf hw, by rw [fstep_len]; exact hL⟩
          unfold fstep
          rw [List.map_flatMap]
          congr 1
          funext q
          rw [List.map_map]
          rfl
    · rintro _ ⟨L, e4, e5, e6, e7, e8, e9, e10, rfl, eI, hw, hL⟩
      rw [nums_length, List.length_map] at *
      rw [List.drop_length] at eI hL
      exact fin L _ _ _ _ _ _ _ eI hw (by simpa using hL)
theorem holed_mono {CH CT CN CM : Addr} {hv wv : D} {xs : List D} {R R2 : D → Prop} {Rx : Er → Prop} (h : F_check_holed CH CT CN CM [hv, .lst xs, wv] R Rx) (m : ∀ d, R d → R2 d) : F_check_holed CH CT CN CM [hv, .lst xs, wv] R2 Rx := by
  rw [F_check_holed_is] at h ⊢
  obtain ⟨a1, a2, a3⟩ := h
  refine ⟨a1, a2, fun n en n2 n4 => ?_⟩
  obtain ⟨b1, b2, b3, b4⟩ := a3 n en n2 n4
  refine ⟨b1, b2, b3, fun e => ?_⟩
  obtain ⟨c1, c2⟩ := b4 e
  refine ⟨c1, fun e => ?_⟩
  obtain ⟨d1, d2, d3⟩ := c2 e
  exact ⟨d1, d2, fun e => ⟨(d3 e).1, fun e2 => m _ ((d3 e).2 e2)⟩⟩
def F_sure_hands (CH CT CN CM : Addr) : Spec
  | [hv, .lst xs, wv], R, Rx => F_check_holed CH CT CN CM [hv, .lst xs, wv] (fun _ => False) Rx
  | _, _, _ => False
theorem F_sure_hands_is {CH CT CN CM : Addr} {hv : D} {xs : List D} {wv : D} {R : D → Prop} {Rx : Er → Prop} : F_sure_hands CH CT CN CM [hv, .lst xs, wv] R Rx = (F_check_holed CH CT CN CM [hv, .lst xs, wv] (fun _ => False) Rx) := rfl
theorem F_sure_hands_of {CH CT CN CM : Addr} {ds : List D} {R : D → Prop} {Rx : Er → Prop} (z : F_sure_hands CH CT CN CM ds R Rx) : ∃ (hv : D) (xs : List D) (wv : D), ds = [hv, .lst xs, wv] ∧ (F_check_holed CH CT CN CM [hv, .lst xs, wv] (fun _ => False) Rx) := by
  unfold F_sure_hands at z
  split at z
  · exact ⟨_, _, _, rfl, z⟩
  · exact z.elim
def b_sure_hands (Dx : Df K mg "sure_hands" s_sure_hands) : Binds K Dx.fd ["hands", "turns", "wanted"] [] := Dx.F.bindsN fun _ _ _ _ _ _ us hl => match us, hl with | [_, _, _], _ => rfl
def n_sure_hands : List Str := ["hands", "turns", "wanted", "ways", "holes", "k", "at", "way", "hand"]
theorem sc_sure_hands : FnScope n_sure_hands ["hands", "turns", "wanted"] (defScope s_sure_hands) := ⟨rfl, rfl, rfl, by decide +kernel, rfl, by decide +kernel, by decide +kernel⟩
theorem ok_sure_hands (T : Tx mg) (X_InvalidHands : Xe K mg P.main.file "InvalidHands" s_InvalidHands___init__) (X_InvalidNumber : Xe K mg P.main.file "InvalidNumber" s_InvalidNumber___init__) (X_InvalidTurn : Xe K mg P.main.file "InvalidTurn" s_InvalidTurn___init__) (X_TooMany : Xe K mg P.main.file "TooMany" s_TooMany___init__) (D_sure_hands : Df K mg "sure_hands" s_sure_hands) (D_fillings : Df K mg "fillings" s_fillings) (D_check_holed : Df K mg "check_holed" s_check_holed) (D_check_hands : Df K mg "check_hands" s_check_hands) (D_is_number : Df K mg "is_number" s_is_number) (D_check_height : Df K mg "check_height" s_check_height) (D_deviation : Df K mg "deviation" s_deviation) (D_added : Df K mg "added" s_added) (D_deviation_at : Df K mg "deviation_at" s_deviation_at) (D_choose : Df K mg "choose" s_choose) (hsup : mg "super" = none) (htop : (P.main.scope.names.lookup ("super" : Str)).isSome = false) : FnOk P w K mg base (L2.CX P w) 9 D_sure_hands.f D_sure_hands.fd ["hands", "turns", "wanted"] (spD (F_sure_hands X_InvalidHands.C X_InvalidTurn.C X_InvalidNumber.C X_TooMany.C)) := by
  have G_fillings := ok_fillings (P := P) (w := w) (base := base) T X_InvalidHands X_InvalidNumber X_InvalidTurn X_TooMany D_fillings D_check_holed D_check_hands D_is_number D_check_height D_deviation D_added D_deviation_at D_choose hsup htop
  refine fn_d D_sure_hands.F sc_sure_hands (fun ds R Rx hs0 => ?_) (fun cdv A outer s H E hr => have hu := hr.units
    (ds_cons (s_set (i := 3) sc_sure_hands.nd (d_call G_fillings (hr.mono (by decide)) D_fillings.g D_fillings.F.kp (b_fillings D_fillings) .nil dfR_nil pass_d (da_cons (d_var 0) (da_cons (d_var 1) (da_cons (d_var 2) da_nil)))))
    (ds_cons s_never
    (ds_cons s_never
    (ds_one s_never)))) ) fun ds R Rx hs0 => ?_
  · obtain ⟨_, _, _, rfl, _⟩ := F_sure_hands_of hs0
    rfl
  · obtain ⟨hv, xs, wv, rfl, hs⟩ := F_sure_hands_of hs0
    clear hs0
    simp only [n_sure_hands]
    refine seq_step fun N1 hN1 => ?_
    walk_at "dl"
    rw [F_fillings_is]
    exact holed_mono hs fun _ z => z.elim
local macro_rules | `(tactic| walk_at "rk") => `(tactic| first
  | assumption
  | (refine rok_app ?_ ?_ ?_ <;> first | walk_at "rk" | (simp only [List.length_append, List.length_reverse, List.length_map, List.length_replicate]; omega))
  | (refine rok_rev ?_; walk_at "rk")
  | (refine rok_map ?_ _ (fun t => fmod_in (by assumption)); walk_at "rk")
  | omega
  | decide
  | (refine log_lt (k := 80) ?_ (by decide) (by decide); omega))
local macro_rules | `(tactic| walk_at "fin") => `(tactic| ((repeat' (first | (with_reducible assumption) | (with_reducible refine And.intro ?_ ?_) | (with_reducible intro _))); all_goals first | (with_reducible assumption) | omega | contradiction | trivial))
local macro_rules | `(tactic| walk_at "cj") => `(tactic| repeat' (refine And.intro (by walk_at "rk") ?_))
theorem whyE_tln {CP CM CN C : Addr} {R : D → Prop} {n : Int} (h : ErrC K CP CM CN C) (hR : R (.tup [.str "TooLong", .tup [.int n]])) : whyE K CP CM CN R (eTLn C n) := whyE_of h rfl rfl hR
theorem whyE_in {CP CM CN C : Addr} {R : D → Prop} {v : D} (h : ErrC K CP CM CN C) (hR : R (.tup [.str "InvalidNumber", .tup [v]])) : whyE K CP CM CN R (eIN C v) := whyE_of h rfl rfl hR
theorem whyE_ih {CP CM CN C : Addr} {R : D → Prop} {v : D} (h : ErrC K CP CM CN C) (hR : R (.tup [.str "InvalidHands", .tup [v]])) : whyE K CP CM CN R (eIH C v) := whyE_of h rfl rfl hR
theorem whyE_it {CP CM CN C : Addr} {R : D → Prop} {i : Int} (h : ErrC K CP CM CN C) (hR : R (.tup [.str "InvalidTurn", .tup [.int i]])) : whyE K CP CM CN R (eIT C i) := whyE_of h rfl rfl hR
theorem whyE_tm {CP CM CN C : Addr} {R : D → Prop} {n : Int} (h : ErrC K CP CM CN C) (hR : R (.tup [.str "TooMany", .tup [.int n]])) : whyE K CP CM CN R (eTM C n) := whyE_of h rfl rfl hR
def rowC (k : Nat) (ts : List Int) : List Int := ((List.replicate k ts).flatten).take k
theorem rep_len {ts : List Int} : ∀ k : Nat, ((List.replicate k ts).flatten).length = k * ts.length
  | 0 => by simp
  | k + 1 => by rw [List.replicate_succ, List.flatten_cons, List.length_append, rep_len k, Nat.succ_mul]; omega
theorem rowC_len {k : Nat} {ts : List Int} (h : 0 < ts.length) : (rowC k ts).length = k := by
  unfold rowC
  rw [List.length_take, rep_len, Nat.min_eq_left (Nat.le_mul_of_pos_right _ h)]
theorem rowC_ok {n : Int} {k : Nat} {ts : List Int} (ok : RowOk n ts) (h1 : 0 < k) (h2 : k ≤ 2000) : RowOk n (rowC k ts) := by
  refine ⟨ok.1, ok.2.1, by rw [rowC_len ok.2.2.1]; exact h1, by rw [rowC_len ok.2.2.1]; exact h2, fun t ht => ?_⟩
  unfold rowC at ht
  obtain ⟨l, hl, hm⟩ := List.mem_flatten.mp (List.mem_of_mem_take ht)
  rw [(List.mem_replicate.mp hl).2] at hm
  exact ok.2.2.2.2 t hm
theorem cut_rowC {k : Nat} {ts : List Int} : cutD (List.replicate k (ts.map D.int)).flatten none (some (k : Int)) = (rowC k ts).map D.int := by
  rw [cutD_to, repints, ← List.map_take]
  rfl
def lq__law_mends_refused_so : Str := lamQual "_law_mends_refused_so" (defScope s__law_mends_refused_so)
theorem lqe__law_mends_refused_so (n : Nat) (a : Addr) (v : Value) : (PyProof.Rows.envOfC "_law_mends_refused_so" (defScope s__law_mends_refused_so) n a v).qual ++ "<lambda>" = lq__law_mends_refused_so := by unfold lq__law_mends_refused_so lamQual; rfl
def lam_0 : LamQ := lamQ lq__law_mends_refused_so [] (kid (sEx (dSub s__law_mends_refused_so 2)) 0)
theorem lls_0 : LamX.lamSB (defScope s__law_mends_refused_so) lam_0.scope = true := by decide +kernel
def lam_1 : LamQ := lamQ lq__law_mends_refused_so [0] (kid (sEx (dSub s__law_mends_refused_so 2)) 1)
theorem lls_1 : lamFB (defScope s__law_mends_refused_so) lam_1.scope = true := by decide +kernel
def lam_2 : LamQ := lamQ lq__law_mends_refused_so [0] (kid (sEx (dSub s__law_mends_refused_so 2)) 2)
theorem lls_2 : lamFB (defScope s__law_mends_refused_so) lam_2.scope = true := by decide +kernel
def lam_3 : LamQ := lamQ lq__law_mends_refused_so [0] (kid (sEx (dSub s__law_mends_refused_so 2)) 3)
theorem lls_3 : lamFB (defScope s__law_mends_refused_so) lam_3.scope = true := by decide +kernel
def lam_4 : LamQ := lamQ lq__law_mends_refused_so [0] (kid (sEx (dSub s__law_mends_refused_so 2)) 4)
theorem lls_4 : lamFB (defScope s__law_mends_refused_so) lam_4.scope = true := by decide +kernel
def lq_law : Str := lamQual "law" (defScope s_law)
theorem lqe_law (n : Nat) (a : Addr) (v : Value) : (PyProof.Rows.envOfC "law" (defScope s_law) n a v).qual ++ "<lambda>" = lq_law := by unfold lq_law lamQual; rfl
def lam_5 : LamQ := lamQ lq_law [] (kid (sEx (sSub (dSub s_law 1) 8)) 0)
theorem lls_5 : lamFB (defScope s_law) lam_5.scope = true := by decide +kernel
def lam_6 : LamQ := lamQ lq_law [] (kid (sEx (sSub (dSub s_law 1) 8)) 1)
theorem lls_6 : lamFB (defScope s_law) lam_6.scope = true := by decide +kernel
def lam_7 : LamQ := lamQ lq_law [] (kid (sEx (sSub (sSub (dSub s_law 1) 8) 0)) 0)
theorem lls_7 : LamX.lamSB (defScope s_law) lam_7.scope = true := by decide +kernel
def lam_8 : LamQ := lamQ lq_law [0] (kid (sEx (sSub (sSub (dSub s_law 1) 8) 0)) 1)
theorem lls_8 : lamFB (defScope s_law) lam_8.scope = true := by decide +kernel
def lam_9 : LamQ := lamQ lq_law [0] (kid (sEx (sSub (sSub (dSub s_law 1) 8) 0)) 2)
theorem lls_9 : lamFB (defScope s_law) lam_9.scope = true := by decide +kernel
def lam_10 : LamQ := lamQ lq_law [0] (kid (sEx (sSub (sSub (dSub s_law 1) 8) 0)) 3)
theorem lls_10 : lamFB (defScope s_law) lam_10.scope = true := by decide +kernel
def lam_11 : LamQ := lamQ lq_law [0] (kid (sEx (sSub (sSub (dSub s_law 1) 8) 0)) 4)
theorem lls_11 : lamFB (defScope s_law) lam_11.scope = true := by decide +kernel
def lam_12 : LamQ := lamQ lq_law [0] (kid (sEx (sSub (sSub (dSub s_law 1) 8) 0)) 5)
theorem lls_12 : lamFB (defScope s_law) lam_12.scope = true := by decide +kernel
def lam_13 : LamQ := lamQ lq_law [0] (kid (sEx (sSub (sSub (dSub s_law 1) 8) 0)) 6)
theorem lls_13 : lamFB (defScope s_law) lam_13.scope = true := by decide +kernel
def lam_14 : LamQ := lamQ lq_law [0] (kid (sEx (sSub (sSub (dSub s_law 1) 8) 0)) 7)
theorem lls_14 : lamFB (defScope s_law) lam_14.scope = true := by decide +kernel
def lamTab : List LamQ := [lam_0, lam_1, lam_2, lam_3, lam_4, lam_5, lam_6, lam_7, lam_8, lam_9, lam_10, lam_11, lam_12, lam_13, lam_14]
local macro_rules | `(tactic| walk_at "dg") => do let xs ← dgN17.mapM fun n => `(Lean.Parser.Tactic.simpLemma| $(Lean.mkIdent n):term); `(tactic| simp only [$xs,*, List.getElem?_cons_zero, List.getElem?_cons_succ])
def F__law_mends_refused_so (C CL CN : Addr) : Spec
  | [.bag, .int h, .lst xs, b], R, Rx => ∃ (n : Nat) (ts : List Int), h = n ∧ xs = ts.map .int ∧ RowOk n ts ∧ ts.length ≤ 8 ∧ b.dat = true ∧ isNum b 1 6 = false ∧ Good 3 b ∧ R (.bl true)
  | _, _, _ => False
theorem F__law_mends_refused_so_is {C CL CN : Addr} {h : Int} {xs : List D} {b : D} {R : D → Prop} {Rx : Er → Prop} : F__law_mends_refused_so C CL CN [.bag, .int h, .lst xs, b] R Rx = (∃ (n : Nat) (ts : List Int), h = n ∧ xs = ts.map .int ∧ RowOk n ts ∧ ts.length ≤ 8 ∧ b.dat = true ∧ isNum b 1 6 = false ∧ Good 3 b ∧ R (.bl true)) := rfl
theorem F__law_mends_refused_so_of {C CL CN : Addr} {ds : List D} {R : D → Prop} {Rx : Er → Prop} (z : F__law_mends_refused_so C CL CN ds R Rx) : ∃ (h : Int) (xs : List D) (b : D), ds = [.bag, .int h, .lst xs, b] ∧ (∃ (n : Nat) (ts : List Int), h = n ∧ xs = ts.map .int ∧ RowOk n ts ∧ ts.length ≤ 8 ∧ b.dat = true ∧ isNum b 1 6 = false ∧ Good 3 b ∧ R (.bl true)) := by
  unfold F__law_mends_refused_so at z
  split at z
  · exact ⟨_, _, _, rfl, z⟩
  · exact z.elim
def b__law_mends_refused_so (Dx : Df K mg "_law_mends_refused_so" s__law_mends_refused_so) : Binds K Dx.fd ["_law_bag_here", "_law_hands_here", "_law_row", "_law_bad"] [] := Dx.F.bindsN fun _ _ _ _ _ _ us hl => match us, hl with | [_, _, _, _], _ => rfl
def n__law_mends_refused_so : List Str := ["_law_bag_here", "_law_hands_here", "_law_row", "_law_bad", "_law_long", "_law_most_y", "_law_odd", "_law_asks", "_law_due"]
theorem sc__law_mends_refused_so : FnScope n__law_mends_refused_so ["_law_bag_here", "_law_hands_here", "_law_row", "_law_bad"] (defScope s__law_mends_refused_so) := ⟨rfl, rfl, rfl, by decide +kernel, rfl, by decide +kernel, by decide +kernel⟩
def gd_mend_2_most : List D → List D → List D := fun xs zs => [0, 1, 2].filterMap fun i => ((xs ++ []) ++ zs)[i]?
theorem kd_mend_2_most (Dx : Dfk K mg "mend" s_mend [("most", (V.int 2))]) : KBm K Dx.fd ["row", "wanted", "most"] 2 ["most"] gd_mend_2_most := Dx.st.kbm 2 [] [] [0, 1, 2] (by simp) (by simp) (fun _ _ => repL_nil) fun _ _ _ _ _ _ us mv ws h1 h2 h3 => match us, mv, ws, h1, h2, h3 with | [_, _], [], [_], _, _, _ => rfl
theorem kp_gd_mend_2_most {x0 x1 x2 : D} : gd_mend_2_most [x0, x1] [x2] = [x0, x1, x2] := rfl
def dgN18 : Array Lean.Name := dgN17 ++ #[`F__law_mends_refused_so_is, `kp_gd_mend_2_most]
local macro_rules | `(tactic| walk_at "dg") => do let xs ← dgN18.mapM fun n => `(Lean.Parser.Tactic.simpLemma| $(Lean.mkIdent n):term); `(tactic| simp only [$xs,*, List.getElem?_cons_zero, List.getElem?_cons_succ])
theorem ok__law_mends_refused_so (T : Tx mg) (K_Row : Kx_Row K mg) (X_InvalidHands : Xe K mg P.main.file "InvalidHands" s_InvalidHands___init__) (X_InvalidTurn : Xe K mg P.main.file "InvalidTurn" s_InvalidTurn___init__) (X_InvalidNumber : Xe K mg P.main.file "InvalidNumber" s_InvalidNumber___init__) (X_TooLong : Xe K mg P.main.file "TooLong" s_TooLong___init__) (D__law_mends_refused_so : Df K mg "_law_mends_refused_so" s__law_mends_refused_so) (D_check_hands : Df K mg "check_hands" s_check_hands) (D_is_number : Df K mg "is_number" s_is_number) (D__law_pick : Df K mg "_law_pick" s__law_pick) (D__law_pull : Df K mg "_law_pull" s__law_pull) (D__law_same : Df K mg "_law_same" s__law_same) (D_mend : Dfk K mg "mend" s_mend [("most", (V.int 2))]) (D_check_height : Df K mg "check_height" s_check_height) (D_negated : Df K mg "negated" s_negated) (D_deviation_at : Df K mg "deviation_at" s_deviation_at) (D_choose : Df K mg "choose" s_choose) (D_added : Df K mg "added" s_added) (D_deviation : Df K mg "deviation" s_deviation) (D_chosen : Df K mg "chosen" s_chosen) (D__law_whys : Df K mg "_law_whys" s__law_whys) (D__law_why : Df K mg "_law_why" s__law_why) (D__law_field : Df K mg "_law_field" s__law_field) (hsup : mg "super" = none) (htop : (P.main.scope.names.lookup ("super" : Str)).isSome = false) (gP : mg "PickError" = some (.ref (He.ga K "PickError"))) (gM : mg "Missing" = some (.ref (He.ga K "Missing"))) (gN : mg "NothingLeft" = some (.ref (He.ga K "NothingLeft"))) (ex_InvalidHands : Hx.Exm K X_InvalidHands.C) (ex_InvalidTurn : Hx.Exm K X_InvalidTurn.C) (ex_InvalidNumber : Hx.Exm K X_InvalidNumber.C) (ex_TooLong : Hx.Exm K X_TooLong.C) {cd__law_mends_refused_so tb__law_mends_refused_so : Addr} (hcd__law_mends_refused_so : D__law_mends_refused_so.fd.code = .ref cd__law_mends_refused_so) (hTB__law_mends_refused_so : LamX.TabB base mg cd__law_mends_refused_so tb__law_mends_refused_so) (hmem__law_mends_refused_so : (tb__law_mends_refused_so, lq__law_mends_refused_so) ∈ TbC.ts) (hmu__law_mends_refused_so : ∀ p ∈ TbC.ts, p.1 = tb__law_mends_refused_so → p.2 = lq__law_mends_refused_so) (hlq : ∀ (i : Nat) (q : LamQ), lamTab[i]? = some q → TbC.lq i = q) : FnOk P w K mg base (L2.CX P w) 20 D__law_mends_refused_so.f D__law_mends_refused_so.fd ["_law_bag_here", "_law_hands_here", "_law_row", "_law_bad"] (spD (F__law_mends_refused_so K_Row.C X_TooLong.C X_InvalidNumber.C)) := by
  have GG_Row___init__ := fun base : Heap => ok_Row___init__ (P := P) (w := w) (base := base) T K_Row D_check_hands D_is_number X_InvalidHands X_InvalidTurn hsup htop
  have G_Row___init__ := GG_Row___init__ base
  have GG__law_pick := fun base : Heap => ok__law_pick (P := P) (w := w) (base := base) D__law_pick D__law_pull T.m_int T.m_len
  have G__law_pick := GG__law_pick base
  have GG__law_same := fun base : Heap => ok__law_same (P := P) (w := w) (base := base) ⟨T.m_isinstance, T.m_list, T.m_tuple, T.m_bool, T.m_int, T.m_str, T.m_len, T.m_all, T.m_zip⟩ D__law_same 6
  have G__law_same := GG__law_same base
  have GG_mend := fun base : Heap => ok_mend (P := P) (w := w) (base := base) T K_Row X_InvalidNumber X_TooLong D_mend D_check_height D_is_number D_negated D_deviation_at D_choose D_added D_deviation D_chosen hsup htop
  have G_mend := GG_mend base
  obtain ⟨L__law_mends_refused_so, hLT__law_mends_refused_so, zl⟩ := lt_hide ((lt_cons (i := 0) (q := lam_0) (Ni := ["_law_long", "_law_bad", "_law_odd"]) (js := [4, 3, 6]) (hlq 0 _ rfl) (by decide +kernel) (bind0 (fun _ _ _ _ _ => rfl) rfl) (fun base A outer s H E f c' cl hr =>
      have hu := hr.units
      have G_mend := GG_mend base
      (d_ofU (d_callUM G_mend (hr.mono (by decide)) D_mend.g D_mend.F.kp (kd_mend_2_most D_mend) pass_lam (da_cons (d_var 0) (da_cons (d_var 1) da_nil)) (dk_cons (d_var 2) dk_nil))))
    (lt_cons (i := 1) (q := lam_1) (Ni := ["_law_most_y", "_law_bad", "_law_odd"]) (js := [5, 3, 6]) (hlq 1 _ rfl) (by decide +kernel) (bind1 (x := "_law_a") (n := 0) (fun _ _ _ _ _ t u => ⟨_, rfl, rfl⟩) rfl (by rfl)) (fun base A outer s H E f c' cl hr =>
      have hu := hr.units
      have G_mend := GG_mend base
      (d_ofU (d_callUM G_mend (hr.mono (by decide)) D_mend.g D_mend.F.kp (kd_mend_2_most D_mend) pass_lam (da_cons (d_var 0) (da_cons (d_var 1) da_nil)) (dk_cons (d_var 2) dk_nil))))
    (lt_cons (i := 2) (q := lam_2) (Ni := ["_law_most_y", "_law_odd"]) (js := [5, 6]) (hlq 2 _ rfl) (by decide +kernel) (bind1 (x := "_law_b") (n := 0) (fun _ _ _ _ _ t u => ⟨_, rfl, rfl⟩) rfl (by rfl)) (fun base A outer s H E f c' cl hr =>
      have hu := hr.units
      have G_mend := GG_mend base
      (d_ofU (d_callUM G_mend (hr.mono (by decide)) D_mend.g D_mend.F.kp (kd_mend_2_most D_mend) pass_lam (da_cons (d_var 0) (da_cons d_int da_nil)) (dk_cons (d_var 1) dk_nil))))
    (lt_cons (i := 3) (q := lam_3) (Ni := ["_law_hands_here"]) (js := [1]) (hlq 3 _ rfl) (by decide +kernel) (bind1 (x := "_law_c") (n := 0) (fun _ _ _ _ _ t u => ⟨_, rfl, rfl⟩) rfl (by rfl)) (fun base A outer s H E f c' cl hr =>
      have hu := hr.units
      have G_mend := GG_mend base
      have G_Row___init__ := GG_Row___init__ base
      (d_ofU (d_callUM G_mend (hr.mono (by decide)) D_mend.g D_mend.F.kp (kd_mend_2_most D_mend) pass_lam (da_cons (d_make K_Row.mkr G_Row___init__ (hr.mono (by decide)) K_Row.g (b_Row___init__ K_Row.D___init__) pass_lam (da_cons (d_var 0) (da_cons (d_mul (d_ofF (f_lst (da_cons d_int da_nil))) d_int) da_nil))) (da_cons d_int da_nil)) (dk_cons d_int dk_nil))))
    (lt_cons (i := 4) (q := lam_4) (Ni := ["_law_long"]) (js := [4]) (hlq 4 _ rfl) (by decide +kernel) (bind1 (x := "_law_d") (n := 0) (fun _ _ _ _ _ t u => ⟨_, rfl, rfl⟩) rfl (by rfl)) (fun base A outer s H E f c' cl hr =>
      have hu := hr.units
      have G_mend := GG_mend base
      (d_ofU (d_callU G_mend (hr.mono (by decide)) D_mend.g D_mend.F.kp (bd_mend D_mend).choose_spec.2 (bd_mend D_mend).choose_spec.1 (dds := dd_mend) df_mend pass_lam (da_cons (d_var 0) (da_cons d_int da_nil)))))
    lt_nil))))) : LTok P w K mg 16 n__law_mends_refused_so (defScope s__law_mends_refused_so) _)
  have GZ__law_whys := fun (cl : List (Str × Addr)) (base : Heap) (z : Option Addr × Hp) (Z : Zf) (GL : LamOk P w K mg base 17 cl z.1 z.2 Z) => ok__law_whys (P := P) (w := w) (base := base) D__law_whys D__law_why D__law_field gP gM gN GL
  refine fn_dL D__law_mends_refused_so.F sc__law_mends_refused_so (fun ds R Rx hs0 => ?_) (fun cl A outer s H E hr hcl =>
    have hu := hr.units
    have GZ__law_whys := GZ__law_whys cl
    (ds_cons (s_asg (d_tup (da_cons (d_make K_Row.mkr G_Row___init__ (hr.mono (by decide)) K_Row.g (b_Row___init__ K_Row.D___init__) pass_d (da_cons (d_var 1) (da_cons (d_slice (d_mul (d_var 2) d_int) do_none (do_some d_int)) da_nil))) (da_cons (d_make K_Row.mkr G_Row___init__ (hr.mono (by decide)) K_Row.g (b_Row___init__ K_Row.D___init__) pass_d (da_cons (d_var 1) (da_cons (d_slice (d_mul (d_var 2) d_int) do_none (do_some d_int)) da_nil))) da_nil))) (g_tup (n := 2) rfl (gs_cons (g_name (i := 4) sc__law_mends_refused_so.nd) (gs_cons (g_name (i := 5) sc__law_mends_refused_so.nd) gs_nil))))
    (ds_cons (s_set (i := 6) sc__law_mends_refused_so.nd (d_call G__law_pick (hr.mono (by decide)) D__law_pick.g D__law_pick.F.kp (b__law_pick D__law_pick) .nil dfR_nil pass_d (da_cons (d_var 0) (da_cons (d_ofF (f_lst (da_cons (d_sub d_int d_int) (da_cons d_int (da_cons d_non (da_cons d_bl (da_cons d_str (da_cons (d_tup (da_cons d_int da_nil)) da_nil)))))))) da_nil))))
    (ds_cons (s_set (i := 7) sc__law_mends_refused_so.nd (d_ofF (f_lst (da_cons (d_lamQ0 (i := 0) (q := lq__law_mends_refused_so) (by exact lqe__law_mends_refused_so _ _ _) hTB__law_mends_refused_so hcd__law_mends_refused_so hmem__law_mends_refused_so hmu__law_mends_refused_so (hlq 0 _ rfl) (LamX.lamS_by (by exact lls_0)) rfl hcl) (da_cons (d_lamQ1 (i := 1) (q := lq__law_mends_refused_so) (n := 0) (by exact lqe__law_mends_refused_so _ _ _) hTB__law_mends_refused_so hcd__law_mends_refused_so hmem__law_mends_refused_so hmu__law_mends_refused_so (hlq 1 _ rfl) (lamF_by (by exact lls_1)) rfl rfl hcl) (da_cons (d_lamQ1 (i := 2) (q := lq__law_mends_refused_so) (n := 0) (by exact lqe__law_mends_refused_so _ _ _) hTB__law_mends_refused_so hcd__law_mends_refused_so hmem__law_mends_refused_so hmu__law_mends_refused_so (hlq 2 _ rfl) (lamF_by (by exact lls_2)) rfl rfl hcl) (da_cons (d_lamQ1 (i := 3) (q := lq__law_mends_refused_so) (n := 0) (by exact lqe__law_mends_refused_so _ _ _) hTB__law_mends_refused_so hcd__law_mends_refused_so hmem__law_mends_refused_so hmu__law_mends_refused_so (hlq 3 _ rfl) (lamF_by (by exact lls_3)) rfl rfl hcl) (da_cons (d_lamQ1 (i := 4) (q := lq__law_mends_refused_so) (n := 0) (by exact lqe__law_mends_refused_so _ _ _) hTB__law_mends_refused_so hcd__law_mends_refused_so hmem__law_mends_refused_so hmu__law_mends_refused_so (hlq 4 _ rfl) (lamF_by (by exact lls_4)) rfl rfl hcl) da_nil))))))))
    (ds_cons (s_set (i := 8) sc__law_mends_refused_so.nd (d_ofF (f_lst (da_cons (d_tup (da_cons d_str (da_cons (d_tup (da_cons d_int da_nil)) da_nil))) (da_cons (d_tup (da_cons d_str (da_cons (d_tup (da_cons (d_var 3) da_nil)) da_nil))) (da_cons (d_tup (da_cons d_str (da_cons (d_tup (da_cons (d_var 6) da_nil)) da_nil))) (da_cons (d_tup (da_cons d_str (da_cons d_non da_nil))) (da_cons (d_tup (da_cons d_str (da_cons (d_tup (da_cons d_int da_nil)) da_nil))) da_nil))))))))
    (ds_one (s_ret (d_call G__law_same (hr.mono (by decide)) D__law_same.g D__law_same.F.kp (b__law_same D__law_same) .nil dfR_nil pass_d (da_cons (d_callZ hcl (fun _ => rfl) rfl rfl hLT__law_mends_refused_so GZ__law_whys (hr.mono (by decide)) D__law_whys.g D__law_whys.F.kp (b__law_whys D__law_whys) pass_d (da_cons (d_var 7) da_nil)) (da_cons (d_var 8) da_nil)))))))))) fun cl ds R Rx hs0 => ?_
  · obtain ⟨_, _, _, rfl, _⟩ := F__law_mends_refused_so_of hs0
    rfl
  · obtain ⟨h, xs, b, rfl, hs⟩ := F__law_mends_refused_so_of hs0
    clear hs0 hLT__law_mends_refused_so
    simp only [n__law_mends_refused_so]
    obtain ⟨n, ts, rfl, rfl, ok, h8, hb, hb2, gb, hR⟩ := hs
    have cN := errC_of X_InvalidNumber.e ex_InvalidNumber
    have cL := errC_of X_TooLong.e ex_TooLong
    refine seq_step fun N1 hN1 => ?_
    walk_at "dg"
    rw [show (some (17 : Int)) = some ((17 : Nat) : Int) from rfl, show (some (16 : Int)) = some ((16 : Nat) : Int) from rfl, cut_rowC, cut_rowC]
    have o17 := rowC_ok (k := 17) ok (by decide) (by decide)
    have o16 := rowC_ok (k := 16) ok (by decide) (by decide)
    have l17 := rowC_len (k := 17) ok.2.2.1
    have l16 := rowC_len (k := 16) ok.2.2.1
    refine ⟨by omega, initX_good o17 ⟨by omega, initX_good o16 ?_⟩⟩
    refine hN1 _ ?_
    clear hN1 N1
    refine seq_step fun N1 hN1 => ?_
    walk_at "dg"
    intro q hq
    obtain ⟨q1, q2⟩ : q.dat = true ∧ isNum q 0 3 = false := by
      simp only [List.mem_cons, List.not_mem_nil, or_false] at hq
      rcases hq with rfl | rfl | rfl | rfl | rfl | rfl <;> exact ⟨rfl, by decide⟩
    have qg : Good 3 q := by
      simp only [List.mem_cons, List.not_mem_nil, or_false] at hq
      rcases hq with rfl | rfl | rfl | rfl | rfl | rfl <;> walk_at "dg"
    clear hq
    refine hN1 _ ?_
    clear hN1 N1
    refine seq_step fun N1 hN1 => ?_
    walk_at "dg"
    refine hN1 _ ?_
    clear hN1 N1
    refine seq_step fun N1 hN1 => ?_
    walk_at "dg"
    refine hN1 _ ?_
    clear hN1 N1
    walk_at "dg"
    intro z
    refine whys_mk [0, 1, 2, 3, 4] (by decide) ?_
    refine runs_step fun M hM => ?_
    rw [zl 0 _ _ rfl]
    walk_at "dg"
    refine ⟨o17, fun _ => whyE_tln cL (hM _ ?_), fun y => by rw [l17] at y; omega⟩
    clear hM M
    refine runs_step fun M hM => ?_
    rw [zl 1 _ _ rfl]
    walk_at "dg"
    refine ⟨o16, fun y => by rw [l16] at y; omega, fun _ => ⟨hb, fun _ => whyE_in cN (hM _ ?_), fun m em m1 m6 => ?_⟩⟩
    rotate_left
    · rw [em] at hb2
      exact absurd hb2 (by simp [isNum]; omega)
    clear hM M
    refine runs_step fun M hM => ?_
    rw [zl 2 _ _ rfl]
    walk_at "dg"
    refine ⟨o16, fun y => by rw [l16] at y; omega, fun _ => ⟨fun y => absurd y (by decide), fun m em m1 m6 => ⟨q1, fun _ => whyE_in cN (hM _ ?_), fun k ek k3 => ?_⟩⟩⟩
    rotate_left
    · rw [ek] at q2
      exact absurd q2 (by simp [isNum]; omega)
    clear hM M
    refine runs_step fun M hM => ?_
    rw [zl 3 _ _ rfl]
    walk_at "dg"
    rw [show (List.replicate 16 [D.int 0]).flatten = (List.replicate 16 (0 : Int)).map D.int from rfl]
    have oz : RowOk (n : Int) (List.replicate 16 0) := ⟨ok.1, ok.2.1, by decide, by decide, fun t ht => by rw [(List.mem_replicate.mp ht).2]; have := ok.1; omega⟩
    refine ⟨by decide, initX_good oz ?_⟩
    walk_at "dg"
    refine ⟨oz, fun y => absurd y (by decide), fun _ => ⟨fun y => absurd y (by decide), fun m em m1 m6 => ⟨fun y => absurd y (by decide), fun k ek k3 => ⟨n, rfl, ?_⟩⟩⟩⟩
    obtain rfl : m = 1 := by omega
    obtain rfl : k = 0 := by omega
    have n2 := ok.1
    have n4 := ok.2.1
    have e0 : mendF n 1 (List.replicate 16 0) 0 = none := by
      have : n = 2 ∨ n = 3 ∨ n = 4 := by omega
      rcases this with rfl | rfl | rfl <;> decide +kernel
    rw [e0]
    refine hM _ ?_
    clear hM M
    refine runs_step fun M hM => ?_
    rw [zl 4 _ _ rfl]
    walk_at "dg"
    refine ⟨o17, fun _ => whyE_tln cL (hM _ ?_), fun y => by rw [l17] at y; omega⟩
    clear hM M
    refine runs_end ?_
    refine ⟨rfl, ?_, hR⟩
    unfold ansD
    walk_at "dg"
    exact ⟨gb, qg⟩
local macro_rules | `(tactic| walk_at "rk") => `(tactic| first
  | assumption
  | (refine rok_app ?_ ?_ ?_ <;> first | walk_at "rk" | (simp only [List.length_append, List.length_reverse, List.length_map, List.length_replicate]; omega))
  | (refine rok_rev ?_; walk_at "rk")
  | (refine rok_map ?_ _ (fun t => fmod_in (by assumption)); walk_at "rk")
  | omega
  | decide
  | (refine log_lt (k := 80) ?_ (by decide) (by decide); omega))
local macro_rules | `(tactic| walk_at "fin") => `(tactic| ((repeat' (first | (with_reducible assumption) | (with_reducible refine And.intro ?_ ?_) | (with_reducible intro _))); all_goals first | (with_reducible assumption) | omega | contradiction | trivial))
local macro_rules | `(tactic| walk_at "cj") => `(tactic| repeat' (refine And.intro (by walk_at "rk") ?_))
theorem bad_mixed {n : Nat} {f : D} {rest : List D} (h2 : f.isN = false) (h3 : isNum f 0 ((n : Int) - 1) = false) : ∀ {us : List Int} {a : Nat}, (∀ t ∈ us, 0 ≤ t ∧ t < (n : Int)) → a + us.length < 60 → badHole n a (us.map D.int ++ f :: rest) = some (a + us.length)
  | [], a, _, ha => by
    show (if decide (60 ≤ a) || (!f.isN && !isNum f 0 ((n : Int) - 1)) then some a else badHole n (a + 1) rest) = some (a + 0)
    rw [h2, h3, if_pos (by simp)]
    rfl
  | t :: us, a, ht, ha => by
    have h1 := ht t List.mem_cons_self
    have e : isNum (.int t) 0 ((n : Int) - 1) = true := by simp [isNum]; omega
    rw [List.length_cons] at ha
    show (if decide (60 ≤ a) || (!(D.int t).isN && !isNum (.int t) 0 ((n : Int) - 1)) then some a else badHole n (a + 1) (us.map D.int ++ f :: rest)) = some (a + (us.length + 1))
    rw [e, if_neg (by simp; omega), bad_mixed h2 h3 (fun x hx => ht x (List.mem_cons_of_mem _ hx)) (by omega)]
    congr 1
    omega
theorem bad_none {n : Nat} : ∀ {us : List Int} {a : Nat}, (∀ t ∈ us, 0 ≤ t ∧ t < (n : Int)) → a + us.length ≤ 60 → badHole n a (us.map D.int) = none
  | [], a, _, ha => rfl
  | t :: us, a, ht, ha => by
    have h1 := ht t List.mem_cons_self
    have e : isNum (.int t) 0 ((n : Int) - 1) = true := by simp [isNum]; omega
    rw [List.length_cons] at ha
    show (if decide (60 ≤ a) || (!(D.int t).isN && !isNum (.int t) 0 ((n : Int) - 1)) then some a else badHole n (a + 1) (us.map D.int)) = none
    rw [e, if_neg (by simp; omega), bad_none (fun x hx => ht x (List.mem_cons_of_mem _ hx)) (by omega)]
theorem bad_long : ∀ n, n ∈ [2, 3, 4] → badHole n 0 (List.replicate 61 (D.int 0)) = some 60 := by decide +kernel
theorem bad_holes : ∀ n, n ∈ [2, 3, 4] → badHole n 0 (List.replicate 60 D.non) = none ∧ 1024 < manyF n 1 (List.replicate 60 D.non) := by decide +kernel
/-- how many holes are too many -/
def kH (n : Nat) : Nat := if n = 2 then 10 else if n = 3 then 6 else 5
theorem bad_some : ∀ n, n ∈ [2, 3, 4] → badHole n 0 (List.replicate (kH n) D.non ++ [.non]) = none ∧ 1024 < manyF n 1 (List.replicate (kH n) D.non ++ [.non]) := by decide +kernel
theorem holed_mk {CH CT CN CM : Addr} {n : Nat} {xs : List D} {wv : D} {Rx : Er → Prop} (n2 : 2 ≤ n) (n4 : n ≤ 4) (hd : ∀ x ∈ xs, x.dat = true) (hl : xs.length ≤ 2000)
    (h : (∃ i, badHole n 0 xs = some i ∧ Rx (eIT CT (i : Int))) ∨ badHole n 0 xs = none ∧ (xs = [] ∧ Rx (eIT CT 0) ∨ xs ≠ [] ∧ wv.dat = true ∧ (isNum wv 1 6 = false ∧ Rx (eIN CN wv) ∨ isNum wv 1 6 = true ∧ 1024 < manyF n 1 xs ∧ Rx (eTM CM 1024)))) :
    F_check_holed CH CT CN CM [.int (n : Int), .lst xs, wv] (fun _ => False) Rx := by
  rw [F_check_holed_is]
  refine ⟨rfl, fun z => absurd z (by simp [isNum]; omega), fun k ek k2 k4 => ?_⟩
  obtain rfl : n = k := by injection ek with z; omega
  refine ⟨hd, hl, fun i hi => ?_, fun hb => ?_⟩
  · rcases h with ⟨j, hj, hR⟩ | ⟨hn, _⟩
    · rw [hi] at hj
      rw [Option.some.inj hj]
      exact hR
    · rw [hi] at hn
      cases hn
  · rcases h with ⟨j, hj, hR⟩ | ⟨_, h⟩
    · rw [hb] at hj
      cases hj
    refine ⟨fun e => ?_, fun e => ?_⟩
    · rcases h with ⟨_, hR⟩ | ⟨ne, _⟩
      · exact hR
      · exact absurd e ne
    · rcases h with ⟨e2, _⟩ | ⟨_, hw, h⟩
      · exact absurd e2 e
      refine ⟨hw, fun z => ?_, fun z => ⟨fun q => ?_, fun q => ?_⟩⟩
      · rcases h with ⟨_, hR⟩ | ⟨y, _⟩
        · exact hR
        · rw [z] at y; cases y
      · rcases h with ⟨y, _⟩ | ⟨_, _, hR⟩
        · rw [z] at y; cases y
        · exact hR
      · rcases h with ⟨y, _⟩ | ⟨_, y, _⟩
        · rw [z] at y; cases y
        · omega
theorem holed_bad {CH CT CN CM : Addr} {hv : D} {xs : List D} {wv : D} {Rx : Er → Prop} (h1 : hv.dat = true) (h2 : isNum hv 2 4 = false) (hR : Rx (eIH CH hv)) : F_check_holed CH CT CN CM [hv, .lst xs, wv] (fun _ => False) Rx := by
  rw [F_check_holed_is]
  refine ⟨h1, fun _ => hR, fun k ek k2 k4 => ?_⟩
  rw [ek] at h2
  exact absurd h2 (by simp [isNum]; omega)
theorem fill_of {CH CT CN CM : Addr} {hv : D} {xs : List D} {wv : D} {R : D → Prop} {Rx : Er → Prop} (h : F_check_holed CH CT CN CM [hv, .lst xs, wv] (fun _ => False) Rx) : F_fillings CH CT CN CM [hv, .lst xs, wv] R Rx := by
  rw [F_fillings_is]
  exact holed_mono h fun _ z => z.elim
theorem sure_of {CH CT CN CM : Addr} {hv : D} {xs : List D} {wv : D} {R : D → Prop} {Rx : Er → Prop} (h : F_check_holed CH CT CN CM [hv, .lst xs, wv] (fun _ => False) Rx) : F_sure_hands CH CT CN CM [hv, .lst xs, wv] R Rx := by
  rw [F_sure_hands_is]
  exact h
theorem fill_val {CH CT CN CM : Addr} {n m : Nat} {os : List (Option Int)} {R : D → Prop} {Rx : Er → Prop} (n2 : 2 ≤ n) (n4 : n ≤ 4) (m1 : 1 ≤ m) (m6 : m ≤ 6) (hl : os.length ≤ 60) (hb : badHole n 0 (os.map holD) = none) (hc : n ^ (os.count none) ≤ 1024) (hm : manyF n 1 (os.map holD) ≤ 1024) (ne : os.map holD ≠ [])
    (hR : R (.lst ((fillF n m os).map fun l => .lst (l.map .int)))) : F_fillings CH CT CN CM [.int (n : Int), .lst (os.map holD), .int (m : Int)] R Rx := by
  rw [F_fillings_is, F_check_holed_is]
  have k6 : isNum (.int (m : Int)) 1 6 = true := by simp [isNum]; omega
  refine ⟨rfl, fun z => absurd z (by simp [isNum]; omega), fun k ek k2 k4 => ⟨fun x hx => ?_, by rw [List.length_map]; omega, fun i hi => ?_, fun _ => ⟨fun e => absurd e ne, fun _ => ⟨rfl, fun z => (by rw [k6] at z; cases z), fun _ => ⟨fun q => ?_, fun _ => ⟨n, m, os, rfl, rfl, rfl, n2, n4, m1, m6, hl, hc, hR⟩⟩⟩⟩⟩⟩
  · obtain ⟨o, _, rfl⟩ := List.mem_map.mp hx
    cases o <;> rfl
  · obtain rfl : n = k := by injection ek with z; omega
    rw [hb] at hi
    cases hi
  · obtain rfl : n = k := by injection ek with z; omega
    omega
theorem val1 : (fillF 2 1 (List.replicate 10 none)).length = 252 := by decide +kernel
theorem val2 : (fillF 4 1 (List.replicate 5 none ++ [some 0])).length = 0 := by decide +kernel
theorem val3 : fillF 2 1 ((List.replicate 30 [some (0 : Int), some 1]).flatten) = [[]] := by decide +kernel
def n_law : List Str := ["_law_script", "_law_bag_here", "_law_turn", "_law_hands_here", "_law_row", "_law_bad", "_law_spot", "_law_far", "_law_mixed", "_law_value", "_law_some", "_law_ask", "_law_asks", "_law_due"]
theorem sc_law : FnScope n_law ["_law_script"] (defScope s_law) := ⟨rfl, rfl, rfl, by decide +kernel, rfl, by decide +kernel, by decide +kernel⟩
local macro_rules | `(tactic| walk_at "dg") => do let xs ← dgN18.mapM fun n => `(Lean.Parser.Tactic.simpLemma| $(Lean.mkIdent n):term); `(tactic| simp only [$xs,*, List.getElem?_cons_zero, List.getElem?_cons_succ])
theorem ok_law (T : Tx mg) (K_Row : Kx_Row K mg) (X_InvalidHands : Xe K mg P.main.file "InvalidHands" s_InvalidHands___init__) (X_InvalidTurn : Xe K mg P.main.file "InvalidTurn" s_InvalidTurn___init__) (X_InvalidNumber : Xe K mg P.main.file "InvalidNumber" s_InvalidNumber___init__) (X_TooLong : Xe K mg P.main.file "TooLong" s_TooLong___init__) (X_TooMany : Xe K mg P.main.file "TooMany" s_TooMany___init__) (D_law : Df K mg "law" s_law) (D__law_bag : Df K mg "_law_bag" s__law_bag) (D__law_hands : Df K mg "_law_hands" s__law_hands) (D__law_pull : Df K mg "_law_pull" s__law_pull) (D__law_turns : Df K mg "_law_turns" s__law_turns) (D__law_pick : Df K mg "_law_pick" s__law_pick) (D__law_mends_refused_so : Df K mg "_law_mends_refused_so" s__law_mends_refused_so) (D_check_hands : Df K mg "check_hands" s_check_hands) (D_is_number : Df K mg "is_number" s_is_number) (D__law_same : Df K mg "_law_same" s__law_same) (D_mend : Dfk K mg "mend" s_mend [("most", (V.int 2))]) (D_check_height : Df K mg "check_height" s_check_height) (D_negated : Df K mg "negated" s_negated) (D_deviation_at : Df K mg "deviation_at" s_deviation_at) (D_choose : Df K mg "choose" s_choose) (D_added : Df K mg "added" s_added) (D_deviation : Df K mg "deviation" s_deviation) (D_chosen : Df K mg "chosen" s_chosen) (D__law_whys : Df K mg "_law_whys" s__law_whys) (D__law_why : Df K mg "_law_why" s__law_why) (D__law_field : Df K mg "_law_field" s__law_field) (D_fillings : Df K mg "fillings" s_fillings) (D_check_holed : Df K mg "check_holed" s_check_holed) (D_sure_hands : Df K mg "sure_hands" s_sure_hands) (hsup : mg "super" = none) (htop : (P.main.scope.names.lookup ("super" : Str)).isSome = false) (gP : mg "PickError" = some (.ref (He.ga K "PickError"))) (gM : mg "Missing" = some (.ref (He.ga K "Missing"))) (gN : mg "NothingLeft" = some (.ref (He.ga K "NothingLeft"))) (ex_InvalidHands : Hx.Exm K X_InvalidHands.C) (ex_InvalidTurn : Hx.Exm K X_InvalidTurn.C) (ex_InvalidNumber : Hx.Exm K X_InvalidNumber.C) (ex_TooLong : Hx.Exm K X_TooLong.C) (ex_TooMany : Hx.Exm K X_TooMany.C) {cd__law_mends_refused_so tb__law_mends_refused_so : Addr} (hcd__law_mends_refused_so : D__law_mends_refused_so.fd.code = .ref cd__law_mends_refused_so) (hTB__law_mends_refused_so : LamX.TabB base mg cd__law_mends_refused_so tb__law_mends_refused_so) (hmem__law_mends_refused_so : (tb__law_mends_refused_so, lq__law_mends_refused_so) ∈ TbC.ts) (hmu__law_mends_refused_so : ∀ p ∈ TbC.ts, p.1 = tb__law_mends_refused_so → p.2 = lq__law_mends_refused_so) {cd_law tb_law : Addr} (hcd_law : D_law.fd.code = .ref cd_law) (hTB_law : LamX.TabB base mg cd_law tb_law) (hmem_law : (tb_law, lq_law) ∈ TbC.ts) (hmu_law : ∀ p ∈ TbC.ts, p.1 = tb_law → p.2 = lq_law) (hlq : ∀ (i : Nat) (q : LamQ), lamTab[i]? = some q → TbC.lq i = q) :
    FnOk P w K mg base (L2.CX P w) 30 D_law.f D_law.fd ["_law_script"] (spLaw K) := by
  have GG__law_hands := fun base : Heap => ok__law_hands (P := P) (w := w) (base := base) T D__law_hands D__law_pull
  have G__law_hands := GG__law_hands base
  have GG__law_turns := fun base : Heap => ok__law_turns (P := P) (w := w) (base := base) T D__law_turns D__law_pull
  have G__law_turns := GG__law_turns base
  have GG__law_pick := fun base : Heap => ok__law_pick (P := P) (w := w) (base := base) D__law_pick D__law_pull T.m_int T.m_len
  have G__law_pick := GG__law_pick base
  have G__law_mends_refused_so := ok__law_mends_refused_so (P := P) (w := w) (base := base) T K_Row X_InvalidHands X_InvalidTurn X_InvalidNumber X_TooLong D__law_mends_refused_so D_check_hands D_is_number D__law_pick D__law_pull D__law_same D_mend D_check_height D_negated D_deviation_at D_choose D_added D_deviation D_chosen D__law_whys D__law_why D__law_field hsup htop gP gM gN ex_InvalidHands ex_InvalidTurn ex_InvalidNumber ex_TooLong hcd__law_mends_refused_so hTB__law_mends_refused_so hmem__law_mends_refused_so hmu__law_mends_refused_so hlq
  have GG__law_pull := fun base : Heap => ok__law_pull (P := P) (w := w) (base := base) D__law_pull T.m_int T.m_len
  have G__law_pull := GG__law_pull base
  have GG__law_same := fun base : Heap => ok__law_same (P := P) (w := w) (base := base) ⟨T.m_isinstance, T.m_list, T.m_tuple, T.m_bool, T.m_int, T.m_str, T.m_len, T.m_all, T.m_zip⟩ D__law_same 6
  have G__law_same := GG__law_same base
  have GG_fillings := fun base : Heap => ok_fillings (P := P) (w := w) (base := base) T X_InvalidHands X_InvalidNumber X_InvalidTurn X_TooMany D_fillings D_check_holed D_check_hands D_is_number D_check_height D_deviation D_added D_deviation_at D_choose hsup htop
  have G_fillings := GG_fillings base
  have GG_sure_hands := fun base : Heap => ok_sure_hands (P := P) (w := w) (base := base) T X_InvalidHands X_InvalidNumber X_InvalidTurn X_TooMany D_sure_hands D_fillings D_check_holed D_check_hands D_is_number D_check_height D_deviation D_added D_deviation_at D_choose hsup htop
  have G_sure_hands := GG_sure_hands base
  obtain ⟨L_law, hLT_law, zl⟩ := lt_hide ((lt_cons (i := 7) (q := lam_7) (Ni := ["_law_ask", "_law_value", "_law_mixed", "_law_bad"]) (js := [11, 9, 8, 5]) (hlq 7 _ rfl) (by decide +kernel) (bind0 (fun _ _ _ _ _ => rfl) rfl) (fun base A outer s H E f c' cl hr =>
      have hu := hr.units
      have G_fillings := GG_fillings base
      have G_sure_hands := GG_sure_hands base
      (d_alt (d_callFnQ (kl := 10) 0 5 (hlq 5 _ rfl) (lamC_of (hlq 5 _ rfl) (by decide +kernel) (fun _ _ _ _ _ us hl => match us, hl with | [_, _, _], _ => rfl)) (ps := ["_law_one", "_law_two", "_law_three"]) (fun A outer s H E f c' cl hr => have hu := hr.units; (d_call G_fillings (hr.mono (by decide)) D_fillings.g D_fillings.F.kp (b_fillings D_fillings) .nil dfR_nil pass_lam (da_cons (d_var 0) (da_cons (d_var 1) (da_cons (d_var 2) da_nil))))) (hr.mono (by decide)) pass_lam (da_cons (d_var 1) (da_cons (d_var 2) (da_cons (d_var 3) da_nil)))) (d_callFnQ (kl := 10) 0 6 (hlq 6 _ rfl) (lamC_of (hlq 6 _ rfl) (by decide +kernel) (fun _ _ _ _ _ us hl => match us, hl with | [_, _, _], _ => rfl)) (ps := ["_law_four", "_law_five", "_law_six"]) (fun A outer s H E f c' cl hr => have hu := hr.units; (d_ofF (f_list (d_call G_sure_hands (hr.mono (by decide)) D_sure_hands.g D_sure_hands.F.kp (b_sure_hands D_sure_hands) .nil dfR_nil pass_lam (da_cons (d_var 0) (da_cons (d_var 1) (da_cons (d_var 2) da_nil)))) T.m_list))) (hr.mono (by decide)) pass_lam (da_cons (d_var 1) (da_cons (d_var 2) (da_cons (d_var 3) da_nil))))))
    (lt_cons (i := 8) (q := lam_8) (Ni := ["_law_ask", "_law_hands_here", "_law_mixed", "_law_bad"]) (js := [11, 3, 8, 5]) (hlq 8 _ rfl) (by decide +kernel) (bind1 (x := "_law_a") (n := 0) (fun _ _ _ _ _ t u => ⟨_, rfl, rfl⟩) rfl (by rfl)) (fun base A outer s H E f c' cl hr =>
      have hu := hr.units
      have G_fillings := GG_fillings base
      have G_sure_hands := GG_sure_hands base
      (d_alt (d_callFnQ (kl := 10) 0 5 (hlq 5 _ rfl) (lamC_of (hlq 5 _ rfl) (by decide +kernel) (fun _ _ _ _ _ us hl => match us, hl with | [_, _, _], _ => rfl)) (ps := ["_law_one", "_law_two", "_law_three"]) (fun A outer s H E f c' cl hr => have hu := hr.units; (d_call G_fillings (hr.mono (by decide)) D_fillings.g D_fillings.F.kp (b_fillings D_fillings) .nil dfR_nil pass_lam (da_cons (d_var 0) (da_cons (d_var 1) (da_cons (d_var 2) da_nil))))) (hr.mono (by decide)) pass_lam (da_cons (d_var 1) (da_cons (d_var 2) (da_cons (d_var 3) da_nil)))) (d_callFnQ (kl := 10) 0 6 (hlq 6 _ rfl) (lamC_of (hlq 6 _ rfl) (by decide +kernel) (fun _ _ _ _ _ us hl => match us, hl with | [_, _, _], _ => rfl)) (ps := ["_law_four", "_law_five", "_law_six"]) (fun A outer s H E f c' cl hr => have hu := hr.units; (d_ofF (f_list (d_call G_sure_hands (hr.mono (by decide)) D_sure_hands.g D_sure_hands.F.kp (b_sure_hands D_sure_hands) .nil dfR_nil pass_lam (da_cons (d_var 0) (da_cons (d_var 1) (da_cons (d_var 2) da_nil)))) T.m_list))) (hr.mono (by decide)) pass_lam (da_cons (d_var 1) (da_cons (d_var 2) (da_cons (d_var 3) da_nil))))))
    (lt_cons (i := 9) (q := lam_9) (Ni := ["_law_ask", "_law_hands_here", "_law_bad"]) (js := [11, 3, 5]) (hlq 9 _ rfl) (by decide +kernel) (bind1 (x := "_law_b") (n := 0) (fun _ _ _ _ _ t u => ⟨_, rfl, rfl⟩) rfl (by rfl)) (fun base A outer s H E f c' cl hr =>
      have hu := hr.units
      have G_fillings := GG_fillings base
      have G_sure_hands := GG_sure_hands base
      (d_alt (d_callFnQ (kl := 10) 0 5 (hlq 5 _ rfl) (lamC_of (hlq 5 _ rfl) (by decide +kernel) (fun _ _ _ _ _ us hl => match us, hl with | [_, _, _], _ => rfl)) (ps := ["_law_one", "_law_two", "_law_three"]) (fun A outer s H E f c' cl hr => have hu := hr.units; (d_call G_fillings (hr.mono (by decide)) D_fillings.g D_fillings.F.kp (b_fillings D_fillings) .nil dfR_nil pass_lam (da_cons (d_var 0) (da_cons (d_var 1) (da_cons (d_var 2) da_nil))))) (hr.mono (by decide)) pass_lam (da_cons (d_var 1) (da_cons (d_ofF (f_lst da_nil)) (da_cons (d_var 2) da_nil)))) (d_callFnQ (kl := 10) 0 6 (hlq 6 _ rfl) (lamC_of (hlq 6 _ rfl) (by decide +kernel) (fun _ _ _ _ _ us hl => match us, hl with | [_, _, _], _ => rfl)) (ps := ["_law_four", "_law_five", "_law_six"]) (fun A outer s H E f c' cl hr => have hu := hr.units; (d_ofF (f_list (d_call G_sure_hands (hr.mono (by decide)) D_sure_hands.g D_sure_hands.F.kp (b_sure_hands D_sure_hands) .nil dfR_nil pass_lam (da_cons (d_var 0) (da_cons (d_var 1) (da_cons (d_var 2) da_nil)))) T.m_list))) (hr.mono (by decide)) pass_lam (da_cons (d_var 1) (da_cons (d_ofF (f_lst da_nil)) (da_cons (d_var 2) da_nil))))))
    (lt_cons (i := 10) (q := lam_10) (Ni := ["_law_ask", "_law_hands_here", "_law_bad"]) (js := [11, 3, 5]) (hlq 10 _ rfl) (by decide +kernel) (bind1 (x := "_law_c") (n := 0) (fun _ _ _ _ _ t u => ⟨_, rfl, rfl⟩) rfl (by rfl)) (fun base A outer s H E f c' cl hr =>
      have hu := hr.units
      have G_fillings := GG_fillings base
      have G_sure_hands := GG_sure_hands base
      (d_alt (d_callFnQ (kl := 10) 0 5 (hlq 5 _ rfl) (lamC_of (hlq 5 _ rfl) (by decide +kernel) (fun _ _ _ _ _ us hl => match us, hl with | [_, _, _], _ => rfl)) (ps := ["_law_one", "_law_two", "_law_three"]) (fun A outer s H E f c' cl hr => have hu := hr.units; (d_call G_fillings (hr.mono (by decide)) D_fillings.g D_fillings.F.kp (b_fillings D_fillings) .nil dfR_nil pass_lam (da_cons (d_var 0) (da_cons (d_var 1) (da_cons (d_var 2) da_nil))))) (hr.mono (by decide)) pass_lam (da_cons (d_var 1) (da_cons (d_mul (d_ofF (f_lst (da_cons d_int da_nil))) d_int) (da_cons (d_var 2) da_nil)))) (d_callFnQ (kl := 10) 0 6 (hlq 6 _ rfl) (lamC_of (hlq 6 _ rfl) (by decide +kernel) (fun _ _ _ _ _ us hl => match us, hl with | [_, _, _], _ => rfl)) (ps := ["_law_four", "_law_five", "_law_six"]) (fun A outer s H E f c' cl hr => have hu := hr.units; (d_ofF (f_list (d_call G_sure_hands (hr.mono (by decide)) D_sure_hands.g D_sure_hands.F.kp (b_sure_hands D_sure_hands) .nil dfR_nil pass_lam (da_cons (d_var 0) (da_cons (d_var 1) (da_cons (d_var 2) da_nil)))) T.m_list))) (hr.mono (by decide)) pass_lam (da_cons (d_var 1) (da_cons (d_mul (d_ofF (f_lst (da_cons d_int da_nil))) d_int) (da_cons (d_var 2) da_nil))))))
    (lt_cons (i := 11) (q := lam_11) (Ni := ["_law_ask", "_law_hands_here", "_law_row", "_law_bad"]) (js := [11, 3, 4, 5]) (hlq 11 _ rfl) (by decide +kernel) (bind1 (x := "_law_d") (n := 0) (fun _ _ _ _ _ t u => ⟨_, rfl, rfl⟩) rfl (by rfl)) (fun base A outer s H E f c' cl hr =>
      have hu := hr.units
      have G_fillings := GG_fillings base
      have G_sure_hands := GG_sure_hands base
      (d_alt (d_callFnQ (kl := 10) 0 5 (hlq 5 _ rfl) (lamC_of (hlq 5 _ rfl) (by decide +kernel) (fun _ _ _ _ _ us hl => match us, hl with | [_, _, _], _ => rfl)) (ps := ["_law_one", "_law_two", "_law_three"]) (fun A outer s H E f c' cl hr => have hu := hr.units; (d_call G_fillings (hr.mono (by decide)) D_fillings.g D_fillings.F.kp (b_fillings D_fillings) .nil dfR_nil pass_lam (da_cons (d_var 0) (da_cons (d_var 1) (da_cons (d_var 2) da_nil))))) (hr.mono (by decide)) pass_lam (da_cons (d_var 1) (da_cons (d_var 2) (da_cons (d_var 3) da_nil)))) (d_callFnQ (kl := 10) 0 6 (hlq 6 _ rfl) (lamC_of (hlq 6 _ rfl) (by decide +kernel) (fun _ _ _ _ _ us hl => match us, hl with | [_, _, _], _ => rfl)) (ps := ["_law_four", "_law_five", "_law_six"]) (fun A outer s H E f c' cl hr => have hu := hr.units; (d_ofF (f_list (d_call G_sure_hands (hr.mono (by decide)) D_sure_hands.g D_sure_hands.F.kp (b_sure_hands D_sure_hands) .nil dfR_nil pass_lam (da_cons (d_var 0) (da_cons (d_var 1) (da_cons (d_var 2) da_nil)))) T.m_list))) (hr.mono (by decide)) pass_lam (da_cons (d_var 1) (da_cons (d_var 2) (da_cons (d_var 3) da_nil))))))
    (lt_cons (i := 12) (q := lam_12) (Ni := ["_law_ask", "_law_hands_here", "_law_some"]) (js := [11, 3, 10]) (hlq 12 _ rfl) (by decide +kernel) (bind1 (x := "_law_f") (n := 0) (fun _ _ _ _ _ t u => ⟨_, rfl, rfl⟩) rfl (by rfl)) (fun base A outer s H E f c' cl hr =>
      have hu := hr.units
      have G_fillings := GG_fillings base
      have G_sure_hands := GG_sure_hands base
      (d_alt (d_callFnQ (kl := 10) 0 5 (hlq 5 _ rfl) (lamC_of (hlq 5 _ rfl) (by decide +kernel) (fun _ _ _ _ _ us hl => match us, hl with | [_, _, _], _ => rfl)) (ps := ["_law_one", "_law_two", "_law_three"]) (fun A outer s H E f c' cl hr => have hu := hr.units; (d_call G_fillings (hr.mono (by decide)) D_fillings.g D_fillings.F.kp (b_fillings D_fillings) .nil dfR_nil pass_lam (da_cons (d_var 0) (da_cons (d_var 1) (da_cons (d_var 2) da_nil))))) (hr.mono (by decide)) pass_lam (da_cons (d_var 1) (da_cons (d_add (d_var 2) (d_ofF (f_lst (da_cons d_non da_nil)))) (da_cons d_int da_nil)))) (d_callFnQ (kl := 10) 0 6 (hlq 6 _ rfl) (lamC_of (hlq 6 _ rfl) (by decide +kernel) (fun _ _ _ _ _ us hl => match us, hl with | [_, _, _], _ => rfl)) (ps := ["_law_four", "_law_five", "_law_six"]) (fun A outer s H E f c' cl hr => have hu := hr.units; (d_ofF (f_list (d_call G_sure_hands (hr.mono (by decide)) D_sure_hands.g D_sure_hands.F.kp (b_sure_hands D_sure_hands) .nil dfR_nil pass_lam (da_cons (d_var 0) (da_cons (d_var 1) (da_cons (d_var 2) da_nil)))) T.m_list))) (hr.mono (by decide)) pass_lam (da_cons (d_var 1) (da_cons (d_add (d_var 2) (d_ofF (f_lst (da_cons d_non da_nil)))) (da_cons d_int da_nil))))))
    (lt_cons (i := 13) (q := lam_13) (Ni := ["_law_ask", "_law_hands_here"]) (js := [11, 3]) (hlq 13 _ rfl) (by decide +kernel) (bind1 (x := "_law_g") (n := 0) (fun _ _ _ _ _ t u => ⟨_, rfl, rfl⟩) rfl (by rfl)) (fun base A outer s H E f c' cl hr =>
      have hu := hr.units
      have G_fillings := GG_fillings base
      have G_sure_hands := GG_sure_hands base
      (d_alt (d_callFnQ (kl := 10) 0 5 (hlq 5 _ rfl) (lamC_of (hlq 5 _ rfl) (by decide +kernel) (fun _ _ _ _ _ us hl => match us, hl with | [_, _, _], _ => rfl)) (ps := ["_law_one", "_law_two", "_law_three"]) (fun A outer s H E f c' cl hr => have hu := hr.units; (d_call G_fillings (hr.mono (by decide)) D_fillings.g D_fillings.F.kp (b_fillings D_fillings) .nil dfR_nil pass_lam (da_cons (d_var 0) (da_cons (d_var 1) (da_cons (d_var 2) da_nil))))) (hr.mono (by decide)) pass_lam (da_cons (d_var 1) (da_cons (d_mul (d_ofF (f_lst (da_cons d_non da_nil))) d_int) (da_cons d_int da_nil)))) (d_callFnQ (kl := 10) 0 6 (hlq 6 _ rfl) (lamC_of (hlq 6 _ rfl) (by decide +kernel) (fun _ _ _ _ _ us hl => match us, hl with | [_, _, _], _ => rfl)) (ps := ["_law_four", "_law_five", "_law_six"]) (fun A outer s H E f c' cl hr => have hu := hr.units; (d_ofF (f_list (d_call G_sure_hands (hr.mono (by decide)) D_sure_hands.g D_sure_hands.F.kp (b_sure_hands D_sure_hands) .nil dfR_nil pass_lam (da_cons (d_var 0) (da_cons (d_var 1) (da_cons (d_var 2) da_nil)))) T.m_list))) (hr.mono (by decide)) pass_lam (da_cons (d_var 1) (da_cons (d_mul (d_ofF (f_lst (da_cons d_non da_nil))) d_int) (da_cons d_int da_nil))))))
    (lt_cons (i := 14) (q := lam_14) (Ni := ["_law_ask", "_law_hands_here", "_law_bad", "_law_some"]) (js := [11, 3, 5, 10]) (hlq 14 _ rfl) (by decide +kernel) (bind1 (x := "_law_h") (n := 0) (fun _ _ _ _ _ t u => ⟨_, rfl, rfl⟩) rfl (by rfl)) (fun base A outer s H E f c' cl hr =>
      have hu := hr.units
      have G_fillings := GG_fillings base
      have G_sure_hands := GG_sure_hands base
      (d_alt (d_callFnQ (kl := 10) 0 5 (hlq 5 _ rfl) (lamC_of (hlq 5 _ rfl) (by decide +kernel) (fun _ _ _ _ _ us hl => match us, hl with | [_, _, _], _ => rfl)) (ps := ["_law_one", "_law_two", "_law_three"]) (fun A outer s H E f c' cl hr => have hu := hr.units; (d_call G_fillings (hr.mono (by decide)) D_fillings.g D_fillings.F.kp (b_fillings D_fillings) .nil dfR_nil pass_lam (da_cons (d_var 0) (da_cons (d_var 1) (da_cons (d_var 2) da_nil))))) (hr.mono (by decide)) pass_lam (da_cons (d_var 1) (da_cons (d_add (d_var 3) (d_ofF (f_lst (da_cons d_non da_nil)))) (da_cons (d_var 2) da_nil)))) (d_callFnQ (kl := 10) 0 6 (hlq 6 _ rfl) (lamC_of (hlq 6 _ rfl) (by decide +kernel) (fun _ _ _ _ _ us hl => match us, hl with | [_, _, _], _ => rfl)) (ps := ["_law_four", "_law_five", "_law_six"]) (fun A outer s H E f c' cl hr => have hu := hr.units; (d_ofF (f_list (d_call G_sure_hands (hr.mono (by decide)) D_sure_hands.g D_sure_hands.F.kp (b_sure_hands D_sure_hands) .nil dfR_nil pass_lam (da_cons (d_var 0) (da_cons (d_var 1) (da_cons (d_var 2) da_nil)))) T.m_list))) (hr.mono (by decide)) pass_lam (da_cons (d_var 1) (da_cons (d_add (d_var 3) (d_ofF (f_lst (da_cons d_non da_nil)))) (da_cons (d_var 2) da_nil))))))
    lt_nil)))))))) : LTok P w K mg 26 n_law (defScope s_law) _)
  have GZ__law_whys := fun (cl : List (Str × Addr)) (base : Heap) (z : Option Addr × Hp) (Z : Zf) (GL : LamOk P w K mg base 27 cl z.1 z.2 Z) => ok__law_whys (P := P) (w := w) (base := base) D__law_whys D__law_why D__law_field gP gM gN GL
  refine law_dL (n := 12) D_law sc_law rfl rfl rfl D__law_bag T.m_int rfl (by first | exact .inl rfl | exact .inr rfl) rfl (by first | exact .inl rfl | exact .inr rfl) (fun cl A outer s H E hr hcl =>
    have hu := hr.units
    have GZ__law_whys := GZ__law_whys cl
    (ds_cons (s_for (passes_of rfl) rfl (i_rg1 (da_cons d_int da_nil) T.m_range) (g_name (i := 2) sc_law.nd)
        (ds_cons (s_set (i := 3) sc_law.nd (d_call G__law_hands (hr.mono (by decide)) D__law_hands.g D__law_hands.F.kp (b__law_hands D__law_hands) .nil dfR_nil pass_d (da_cons (d_var 1) da_nil)))
          (ds_cons (s_set (i := 4) sc_law.nd (d_call G__law_turns (hr.mono (by decide)) D__law_turns.g D__law_turns.F.kp (b__law_turns D__law_turns) .nil dfR_nil pass_d (da_cons (d_var 1) (da_cons (d_var 3) (da_cons d_int da_nil)))))
          (ds_cons (s_set (i := 5) sc_law.nd (d_call G__law_pick (hr.mono (by decide)) D__law_pick.g D__law_pick.F.kp (b__law_pick D__law_pick) .nil dfR_nil pass_d (da_cons (d_var 1) (da_cons (d_ofF (f_lst (da_cons d_int (da_cons d_int (da_cons d_non (da_cons d_bl (da_cons d_str (da_cons (d_sub d_int d_int) da_nil)))))))) da_nil))))
          (ds_cons (s_if (dt_not (dt_tru (d_call G__law_mends_refused_so (hr.mono (by decide)) D__law_mends_refused_so.g D__law_mends_refused_so.F.kp (b__law_mends_refused_so D__law_mends_refused_so) .nil dfR_nil pass_d (da_cons (d_var 1) (da_cons (d_var 3) (da_cons (d_var 4) (da_cons (d_var 5) da_nil))))))) (ds_one (s_ret d_bl)) ds_nil)
          (ds_cons (s_par (i := 6) (j := 7) rfl sc_law.nd (da_cons (d_call G__law_pull (hr.mono (by decide)) D__law_pull.g D__law_pull.F.kp (b__law_pull D__law_pull) .nil dfR_nil pass_d (da_cons (d_var 1) (da_cons (d_add (d_callB b_len T.m_len boot_len (da_cons (d_var 4) da_nil)) d_int) da_nil))) (da_cons (d_call G__law_pick (hr.mono (by decide)) D__law_pick.g D__law_pick.F.kp (b__law_pick D__law_pick) .nil dfR_nil pass_d (da_cons (d_var 1) (da_cons (d_ofF (f_lst (da_cons (d_var 3) (da_cons (d_sub d_int d_int) (da_cons d_bl (da_cons d_str (da_cons (d_tup (da_cons d_int da_nil)) (da_cons (d_ofF (f_lst (da_cons d_int da_nil))) (da_cons (d_pow d_int d_int) (da_cons d_str da_nil)))))))))) da_nil))) da_nil)))
          (ds_cons (s_set (i := 8) sc_law.nd (d_add (d_add (d_add (d_slice (d_var 4) do_none (do_some (d_var 6))) (d_ofF (f_lst (da_cons (d_var 7) da_nil)))) (d_slice (d_var 4) (do_some (d_var 6)) do_none)) (d_ofF (f_lst (da_cons d_str da_nil)))))
          (ds_cons (s_set (i := 9) sc_law.nd (d_ix (d_ofF (f_lst (da_cons d_int (da_cons d_int (da_cons d_non (da_cons d_str (da_cons d_bl da_nil))))))) (d_call G__law_pull (hr.mono (by decide)) D__law_pull.g D__law_pull.F.kp (b__law_pull D__law_pull) .nil dfR_nil pass_d (da_cons (d_var 1) (da_cons d_int da_nil)))))
          (ds_cons (s_set (i := 10) sc_law.nd (d_mul (d_ofF (f_lst (da_cons d_non da_nil))) (d_ix (d_ofF (f_lst (da_cons d_int (da_cons d_int (da_cons d_int (da_cons d_int (da_cons d_int da_nil))))))) (d_var 3))))
          (ds_one (s_for (passes_of rfl) rfl (i_list (d_ofF (f_lst (da_cons (d_lamP0 (i := 5) (q := lq_law) (by exact lqe_law _ _ _) hTB_law hcd_law hmem_law hmu_law (hlq 5 _ rfl) (lamF_by (by exact lls_5)) rfl hcl) (da_cons (d_lamP0 (i := 6) (q := lq_law) (by exact lqe_law _ _ _) hTB_law hcd_law hmem_law hmu_law (hlq 6 _ rfl) (lamF_by (by exact lls_6)) rfl hcl) da_nil))))) (g_name (i := 11) sc_law.nd)
            (ds_cons (s_set (i := 12) sc_law.nd (d_ofF (f_lst (da_cons (d_lamQ0 (i := 7) (q := lq_law) (by exact lqe_law _ _ _) hTB_law hcd_law hmem_law hmu_law (hlq 7 _ rfl) (LamX.lamS_by (by exact lls_7)) rfl hcl) (da_cons (d_lamQ1 (i := 8) (q := lq_law) (n := 0) (by exact lqe_law _ _ _) hTB_law hcd_law hmem_law hmu_law (hlq 8 _ rfl) (lamF_by (by exact lls_8)) rfl rfl hcl) (da_cons (d_lamQ1 (i := 9) (q := lq_law) (n := 0) (by exact lqe_law _ _ _) hTB_law hcd_law hmem_law hmu_law (hlq 9 _ rfl) (lamF_by (by exact lls_9)) rfl rfl hcl) (da_cons (d_lamQ1 (i := 10) (q := lq_law) (n := 0) (by exact lqe_law _ _ _) hTB_law hcd_law hmem_law hmu_law (hlq 10 _ rfl) (lamF_by (by exact lls_10)) rfl rfl hcl) (da_cons (d_lamQ1 (i := 11) (q := lq_law) (n := 0) (by exact lqe_law _ _ _) hTB_law hcd_law hmem_law hmu_law (hlq 11 _ rfl) (lamF_by (by exact lls_11)) rfl rfl hcl) (da_cons (d_lamQ1 (i := 12) (q := lq_law) (n := 0) (by exact lqe_law _ _ _) hTB_law hcd_law hmem_law hmu_law (hlq 12 _ rfl) (lamF_by (by exact lls_12)) rfl rfl hcl) (da_cons (d_lamQ1 (i := 13) (q := lq_law) (n := 0) (by exact lqe_law _ _ _) hTB_law hcd_law hmem_law hmu_law (hlq 13 _ rfl) (lamF_by (by exact lls_13)) rfl rfl hcl) (da_cons (d_lamQ1 (i := 14) (q := lq_law) (n := 0) (by exact lqe_law _ _ _) hTB_law hcd_law hmem_law hmu_law (hlq 14 _ rfl) (lamF_by (by exact lls_14)) rfl rfl hcl) da_nil)))))))))))
              (ds_cons (s_set (i := 13) sc_law.nd (d_ofF (f_lst (da_cons (d_tup (da_cons d_str (da_cons (d_tup (da_cons (d_var 9) da_nil)) da_nil))) (da_cons (d_tup (da_cons d_str (da_cons (d_tup (da_cons (d_var 6) da_nil)) da_nil))) (da_cons (d_tup (da_cons d_str (da_cons (d_tup (da_cons d_int da_nil)) da_nil))) (da_cons (d_tup (da_cons d_str (da_cons (d_tup (da_cons d_int da_nil)) da_nil))) (da_cons (d_tup (da_cons d_str (da_cons (d_tup (da_cons (d_var 5) da_nil)) da_nil))) (da_cons (d_tup (da_cons d_str (da_cons (d_tup (da_cons d_int da_nil)) da_nil))) (da_cons (d_tup (da_cons d_str (da_cons (d_tup (da_cons d_int da_nil)) da_nil))) (da_cons (d_tup (da_cons d_str (da_cons (d_tup (da_cons (d_var 5) da_nil)) da_nil))) da_nil)))))))))))
              (ds_one (s_if (dt_not (dt_tru (d_call G__law_same (hr.mono (by decide)) D__law_same.g D__law_same.F.kp (b__law_same D__law_same) .nil dfR_nil pass_d (da_cons (d_callZ hcl (fun _ => rfl) rfl rfl hLT_law GZ__law_whys (hr.mono (by decide)) D__law_whys.g D__law_whys.F.kp (b__law_whys D__law_whys) pass_d (da_cons (d_var 12) da_nil)) (da_cons (d_var 13) da_nil))))) (ds_one (s_ret d_bl)) ds_nil)))))))))))))))
      (ds_one (s_ret (d_and (d_cmp (c_eq hu) (d_callB b_len T.m_len boot_len (da_cons (d_call G_fillings (hr.mono (by decide)) D_fillings.g D_fillings.F.kp (b_fillings D_fillings) .nil dfR_nil pass_d (da_cons d_int (da_cons (d_mul (d_ofF (f_lst (da_cons d_non da_nil))) d_int) (da_cons d_int da_nil)))) da_nil)) d_int (nomark _)) (d_and (d_cmp (c_eq hu) (d_callB b_len T.m_len boot_len (da_cons (d_call G_fillings (hr.mono (by decide)) D_fillings.g D_fillings.F.kp (b_fillings D_fillings) .nil dfR_nil pass_d (da_cons d_int (da_cons (d_add (d_mul (d_ofF (f_lst (da_cons d_non da_nil))) d_int) (d_ofF (f_lst (da_cons d_int da_nil)))) (da_cons d_int da_nil)))) da_nil)) d_int (nomark _)) (d_one (d_cmp (c_eq hu) (d_call G_fillings (hr.mono (by decide)) D_fillings.g D_fillings.F.kp (b_fillings D_fillings) .nil dfR_nil pass_d (da_cons d_int (da_cons (d_mul (d_ofF (f_lst (da_cons d_int (da_cons d_int da_nil)))) d_int) (da_cons d_int da_nil)))) (d_ofF (f_lst (da_cons (d_ofF (f_lst da_nil)) da_nil))) (nomark _))))))))) fun a cl => ?_
  clear hLT_law
  simp only [lawEn, List.replicate]
  have lg : ∀ n : Int, 0 ≤ n → n < 2 ^ 60 → n.natAbs.log2 < 9000 := fun n h0 h1 => log_lt (k := 60) (by omega) (by decide) (by decide)
  refine seq_step fun N hN => for_step fun B hB => ?_
  walk_at "dg"
  refine ⟨fun i env => ∃ e2 e3 e4 e5 e6 e7 e8 e9 e10 e11 e12 e13 : Option DV, env = [some (.val (.adr a)), some (.val .bag), e2, e3, e4, e5, e6, e7, e8, e9, e10, e11, e12, e13], ⟨_, _, _, _, _, _, _, _, _, _, _, _, rfl⟩, ?_, ?_⟩
  rotate_left
  · rintro env ⟨e2, e3, e4, e5, e6, e7, e8, e9, e10, e11, e12, e13, rfl⟩
    refine hN _ ?_
    walk_at "dg"
    refine ⟨by decide, fill_val (n := 2) (m := 1) (os := List.replicate 10 none) (by decide) (by decide) (by decide) (by decide) (by decide) (by decide +kernel) (by decide +kernel) (by decide +kernel) (by simp) ?_⟩
    have v1 := val1
    generalize fillF 2 1 (List.replicate 10 none) = F1 at *
    have v1 : (F1.map fun l => D.lst (l.map D.int)).length = 252 := by rw [List.length_map]; exact v1
    generalize (F1.map fun l => D.lst (l.map D.int)) = G1 at *
    walk_at "dg"
    refine ⟨fun _ => ⟨by decide, by decide, ?_⟩, fun y => by omega⟩
    refine fill_val (n := 4) (m := 1) (os := List.replicate 5 none ++ [some 0]) (by decide) (by decide) (by decide) (by decide) (by decide) (by decide +kernel) (by decide +kernel) (by decide +kernel) (by simp) ?_
    have v2 := val2
    generalize fillF 4 1 (List.replicate 5 none ++ [some 0]) = F2 at *
    have v2 : (F2.map fun l => D.lst (l.map D.int)).length = 0 := by rw [List.length_map]; exact v2
    generalize (F2.map fun l => D.lst (l.map D.int)) = G2 at *
    walk_at "dg"
    refine ⟨fun _ => ⟨by decide, ?_⟩, fun y => by omega⟩
    refine fill_val (n := 2) (m := 1) (os := (List.replicate 30 [some (0 : Int), some 1]).flatten) (by decide) (by decide) (by decide) (by decide) (by decide) (by decide +kernel) (by decide +kernel) (by decide +kernel) (by simp) ?_
    rw [val3]
    walk_at "dg"
    decide
  rintro i d env _ ⟨e2, e3, e4, e5, e6, e7, e8, e9, e10, e11, e12, e13, rfl⟩
  walk_at "dg"
  refine hB _ _ ?_
  clear hB hN
  refine seq_step fun N1 hN1 => ?_
  walk_at "dg"
  intro h h2 h4
  obtain ⟨n, rfl⟩ : ∃ n : Nat, h = (n : Int) := ⟨h.toNat, by omega⟩
  have n2 : 2 ≤ n := by omega
  have n4 : n ≤ 4 := by omega
  clear h2 h4
  refine hN1 _ ?_
  clear hN1 N1
  refine seq_step fun N1 hN1 => ?_
  walk_at "dg"
  refine ⟨by omega, by omega, fun ts ⟨t0, t8, ht⟩ => ?_⟩
  have ok : RowOk (n : Int) ts := ⟨by omega, by omega, t0, by omega, ht⟩
  have t8 : ts.length ≤ 8 := by omega
  refine hN1 _ ?_
  clear hN1 N1
  refine seq_step fun N1 hN1 => ?_
  walk_at "dg"
  intro b hb
  obtain ⟨b1, b2, b3⟩ : b.dat = true ∧ isNum b 1 6 = false ∧ Good 3 b := by
    simp only [List.mem_cons, List.not_mem_nil, or_false] at hb
    rcases hb with rfl | rfl | rfl | rfl | rfl | rfl
    all_goals exact ⟨rfl, by decide, by walk_at "dg"⟩
  clear hb
  refine hN1 _ ?_
  clear hN1 N1
  refine seq_step fun N1 hN1 => ?_
  refine if_step fun U W hU hW => ?_
  walk_at "dg"
  refine ⟨n, rfl, ts, rfl, ok, t8, b1, b2, b3, hW _ _ ?_⟩
  clear hU hW U W
  walk_at "dg"
  refine hN1 _ ?_
  clear hN1 N1
  refine seq_step fun N1 hN1 => ?_
  walk_at "dg"
  refine ⟨by omega, log_lt (k := 20) (by omega) (by omega) (by decide), fun r r0 r1 => ⟨by decide, fun f hf => ?_⟩⟩
  obtain ⟨p, rfl⟩ : ∃ p : Nat, r = (p : Int) := ⟨r.toNat, by omega⟩
  have hp : p ≤ ts.length := by omega
  obtain ⟨f1, f2, f3⟩ : f.dat = true ∧ f.isN = false ∧ isNum f 0 ((n : Int) - 1) = false := by
    simp only [List.mem_cons, List.not_mem_nil, or_false] at hf
    rcases hf with rfl | rfl | rfl | rfl | rfl | rfl | rfl | rfl
    all_goals refine ⟨rfl, rfl, ?_⟩
    all_goals first | rfl | (simp [isNum]; done) | (simp [isNum]; omega)
  clear hf r0 r1
  refine hN1 _ ?_
  clear hN1 N1
  refine seq_step fun N1 hN1 => ?_
  walk_at "dg"
  rw [cutD_to, cutD_from]
  have l1 : ((ts.map D.int).take p).length ≤ 8 := by rw [List.length_take, List.length_map]; omega
  have l2 : ((ts.map D.int).drop p).length ≤ 8 := by rw [List.length_drop, List.length_map]; omega
  obtain ⟨X, hX, xd, xl, xb⟩ : ∃ X : List D, (ts.map D.int).take p ++ [f] ++ (ts.map D.int).drop p ++ [D.str "x"] = X ∧ (∀ x ∈ X, x.dat = true) ∧ X.length ≤ 20 ∧ badHole n 0 X = some p := by
    refine ⟨_, rfl, fun x hx => ?_, ?_, ?_⟩
    · simp only [List.mem_append, List.mem_singleton] at hx
      rcases hx with ((hx | rfl) | hx) | rfl
      · obtain ⟨t, _, rfl⟩ := List.mem_map.mp (List.mem_of_mem_take hx)
        rfl
      · exact f1
      · obtain ⟨t, _, rfl⟩ := List.mem_map.mp (List.mem_of_mem_drop hx)
        rfl
      · rfl
    · simp only [List.length_append, List.length_singleton]
      omega
    · rw [← List.map_take, List.append_assoc, List.append_assoc]
      have := bad_mixed (n := n) (rest := (ts.map D.int).drop p ++ [D.str "x"]) f2 f3 (us := ts.take p) (a := 0) (fun t h => ok.2.2.2.2 t (List.mem_of_mem_take h)) (by rw [List.length_take]; omega)
      rw [List.length_take, Nat.min_eq_left hp, Nat.zero_add] at this
      exact this
  rw [hX]
  refine ⟨by omega, by omega, by omega, ?_⟩
  clear hX l1 l2
  refine hN1 _ ?_
  clear hN1 N1
  refine seq_step fun N1 hN1 => ?_
  walk_at "dg"
  refine ⟨by decide +kernel, fun r r0 r1 => ?_⟩
  obtain ⟨v, hv, v1, v2, v3⟩ : ∃ v, atI [D.int 1, D.int 5, D.non, D.str "2", D.bl true] r = some v ∧ v.dat = true ∧ isNum v 2 4 = false ∧ Good 3 v := by
    have : r = 0 ∨ r = 1 ∨ r = 2 ∨ r = 3 ∨ r = 4 := by omega
    rcases this with rfl | rfl | rfl | rfl | rfl
    all_goals exact ⟨_, rfl, rfl, by decide, by walk_at "dg"⟩
  refine ⟨v, hv, ?_⟩
  clear hv r0 r1
  refine hN1 _ ?_
  clear hN1 N1
  refine seq_step fun N1 hN1 => ?_
  walk_at "dg"
  have hk : atI [D.int 0, D.int 0, D.int 10, D.int 6, D.int 5] (n : Int) = some (.int (kH n : Nat)) := by
    have : n = 2 ∨ n = 3 ∨ n = 4 := by omega
    rcases this with rfl | rfl | rfl <;> rfl
  refine ⟨_, hk, ?_⟩
  walk_at "dg"
  have k10 : kH n ≤ 10 := by unfold kH; split <;> (try split) <;> omega
  rw [Int.toNat_natCast, repone]
  refine ⟨by omega, by omega, by omega, ?_⟩
  have nin : n ∈ [2, 3, 4] := by
    have : n = 2 ∨ n = 3 ∨ n = 4 := by omega
    rcases this with rfl | rfl | rfl <;> decide
  obtain ⟨sb, sm⟩ := bad_some n nin
  obtain ⟨S, hS, sl⟩ : ∃ S : List D, List.replicate (kH n) D.non = S ∧ S.length ≤ 10 := ⟨_, rfl, by rw [List.length_replicate]; exact k10⟩
  have sd : ∀ x ∈ S, x.dat = true := fun x hx => by rw [← hS] at hx; rw [(List.mem_replicate.mp hx).2]; rfl
  rw [hS] at sb sm ⊢
  clear hS hk k10
  refine hN1 _ ?_
  clear hN1
  refine for_step fun B hB => ?_
  walk_at "dg"
  refine ⟨fun _ env => ∃ e11 e12 e13 : Option DV, env = [some (.val (.adr a)), some (.val .bag), some (.val d), some (.val (.int (n : Int))), some (.val (.lst (ts.map .int))), some (.val b), some (.val (.int (p : Int))), some (.val f), some (.val (.lst X)), some (.val v), some (.val (.lst S)), e11, e12, e13], ⟨_, _, _, rfl⟩, ?_, ?_⟩
  rotate_left
  · rintro env ⟨e11, e12, e13, rfl⟩
    exact ⟨_, _, _, _, _, _, _, _, _, _, _, _, rfl⟩
  rintro i2 d2 env ed ⟨e11, e12, e13, rfl⟩
  obtain ⟨w, rfl, hw⟩ : ∃ w, d2 = D.fn w cl none ∧ (w = 5 ∨ w = 6) := by
    match i2, ed with
    | 0, ed => cases ed; exact ⟨_, rfl, .inl rfl⟩
    | 1, ed => cases ed; exact ⟨_, rfl, .inr rfl⟩
  walk_at "dg"
  refine hB _ _ ?_
  clear hB ed
  refine seq_step fun N1 hN1 => ?_
  walk_at "dg"
  refine hN1 _ ?_
  clear hN1 N1
  refine seq_step fun N1 hN1 => ?_
  walk_at "dg"
  refine hN1 _ ?_
  clear hN1 N1
  refine if_step fun U W hU hW => ?_
  walk_at "dg"
  intro z
  refine whys_mk [7, 8, 9, 10, 11, 12, 13, 14] (by decide) ?_
  have cH := errC_of X_InvalidHands.e ex_InvalidHands
  have cT := errC_of X_InvalidTurn.e ex_InvalidTurn
  have cN := errC_of X_InvalidNumber.e ex_InvalidNumber
  have cM := errC_of X_TooMany.e ex_TooMany
  refine runs_step fun M hM => ?_
  rw [zl 7 _ _ rfl]
  walk_at "dg"
  suffices h : F_check_holed X_InvalidHands.C X_InvalidTurn.C X_InvalidNumber.C X_TooMany.C [v, .lst (X), b] (fun _ => False) (whyE K (He.ga K "PickError") (He.ga K "Missing") (He.ga K "NothingLeft") M) by
    rcases hw with rfl | rfl
    · exact .inl ⟨⟨cl, none, rfl⟩, fill_of h⟩
    · exact .inr ⟨⟨cl, none, rfl⟩, sure_of h⟩
  refine holed_bad v1 v2 (whyE_ih cH (hM _ ?_))
  clear hM M
  refine runs_step fun M hM => ?_
  rw [zl 8 _ _ rfl]
  walk_at "dg"
  suffices h : F_check_holed X_InvalidHands.C X_InvalidTurn.C X_InvalidNumber.C X_TooMany.C [.int (n : Int), .lst (X), b] (fun _ => False) (whyE K (He.ga K "PickError") (He.ga K "Missing") (He.ga K "NothingLeft") M) by
    rcases hw with rfl | rfl
    · exact .inl ⟨⟨cl, none, rfl⟩, fill_of h⟩
    · exact .inr ⟨⟨cl, none, rfl⟩, sure_of h⟩
  refine holed_mk n2 n4 xd (by omega) (.inl ⟨p, xb, whyE_it cT (hM _ ?_)⟩)
  clear hM M
  refine runs_step fun M hM => ?_
  rw [zl 9 _ _ rfl]
  walk_at "dg"
  suffices h : F_check_holed X_InvalidHands.C X_InvalidTurn.C X_InvalidNumber.C X_TooMany.C [.int (n : Int), .lst ([]), b] (fun _ => False) (whyE K (He.ga K "PickError") (He.ga K "Missing") (He.ga K "NothingLeft") M) by
    rcases hw with rfl | rfl
    · exact .inl ⟨⟨cl, none, rfl⟩, fill_of h⟩
    · exact .inr ⟨⟨cl, none, rfl⟩, sure_of h⟩
  refine holed_mk n2 n4 (fun x hx => by cases hx) (by decide) (.inr ⟨rfl, .inl ⟨rfl, whyE_it cT (hM _ ?_)⟩⟩)
  clear hM M
  refine runs_step fun M hM => ?_
  rw [zl 10 _ _ rfl]
  walk_at "dg"
  suffices h : F_check_holed X_InvalidHands.C X_InvalidTurn.C X_InvalidNumber.C X_TooMany.C [.int (n : Int), .lst (List.replicate 61 (D.int 0)), b] (fun _ => False) (whyE K (He.ga K "PickError") (He.ga K "Missing") (He.ga K "NothingLeft") M) by
    rcases hw with rfl | rfl
    · exact .inl ⟨⟨cl, none, rfl⟩, by decide, fill_of h⟩
    · exact .inr ⟨⟨cl, none, rfl⟩, by decide, sure_of h⟩
  refine holed_mk n2 n4 (fun x hx => by rw [(List.mem_replicate.mp hx).2]; rfl) (by rw [List.length_replicate]; decide) (.inl ⟨60, bad_long n nin, whyE_it cT (hM _ ?_)⟩)
  clear hM M
  refine runs_step fun M hM => ?_
  rw [zl 11 _ _ rfl]
  walk_at "dg"
  suffices h : F_check_holed X_InvalidHands.C X_InvalidTurn.C X_InvalidNumber.C X_TooMany.C [.int (n : Int), .lst (ts.map D.int), b] (fun _ => False) (whyE K (He.ga K "PickError") (He.ga K "Missing") (He.ga K "NothingLeft") M) by
    rcases hw with rfl | rfl
    · exact .inl ⟨⟨cl, none, rfl⟩, fill_of h⟩
    · exact .inr ⟨⟨cl, none, rfl⟩, sure_of h⟩
  refine holed_mk n2 n4 (fun x hx => by obtain ⟨t, _, rfl⟩ := List.mem_map.mp hx; rfl) (by rw [List.length_map]; omega) (.inr ⟨bad_none ok.2.2.2.2 (by omega), .inr ⟨fun e => (by have := congrArg List.length e; rw [List.length_map, List.length_nil] at this; omega), b1, .inl ⟨b2, whyE_in cN (hM _ ?_)⟩⟩⟩)
  clear hM M
  refine runs_step fun M hM => ?_
  rw [zl 12 _ _ rfl]
  walk_at "dg"
  suffices h : F_check_holed X_InvalidHands.C X_InvalidTurn.C X_InvalidNumber.C X_TooMany.C [.int (n : Int), .lst (S ++ [D.non]), .int 1] (fun _ => False) (whyE K (He.ga K "PickError") (He.ga K "Missing") (He.ga K "NothingLeft") M) by
    rcases hw with rfl | rfl
    · exact .inl ⟨⟨cl, none, rfl⟩, by omega, fill_of h⟩
    · exact .inr ⟨⟨cl, none, rfl⟩, by omega, sure_of h⟩
  refine holed_mk n2 n4 (fun x hx => by rcases List.mem_append.mp hx with q | q; exact sd x q; rw [List.mem_singleton.mp q]; rfl) (by rw [List.length_append, List.length_singleton]; omega) (.inr ⟨sb, .inr ⟨by simp, rfl, .inr ⟨by decide, sm, whyE_tm cM (hM _ ?_)⟩⟩⟩)
  clear hM M
  refine runs_step fun M hM => ?_
  rw [zl 13 _ _ rfl]
  walk_at "dg"
  suffices h : F_check_holed X_InvalidHands.C X_InvalidTurn.C X_InvalidNumber.C X_TooMany.C [.int (n : Int), .lst (List.replicate 60 D.non), .int 6] (fun _ => False) (whyE K (He.ga K "PickError") (He.ga K "Missing") (He.ga K "NothingLeft") M) by
    rcases hw with rfl | rfl
    · exact .inl ⟨⟨cl, none, rfl⟩, by decide, fill_of h⟩
    · exact .inr ⟨⟨cl, none, rfl⟩, by decide, sure_of h⟩
  refine holed_mk n2 n4 (fun x hx => by rw [(List.mem_replicate.mp hx).2]; rfl) (by rw [List.length_replicate]; decide) (.inr ⟨(bad_holes n nin).1, .inr ⟨by simp, rfl, .inr ⟨by decide, (bad_holes n nin).2, whyE_tm cM (hM _ ?_)⟩⟩⟩)
  clear hM M
  refine runs_step fun M hM => ?_
  rw [zl 14 _ _ rfl]
  walk_at "dg"
  suffices h : F_check_holed X_InvalidHands.C X_InvalidTurn.C X_InvalidNumber.C X_TooMany.C [.int (n : Int), .lst (S ++ [D.non]), b] (fun _ => False) (whyE K (He.ga K "PickError") (He.ga K "Missing") (He.ga K "NothingLeft") M) by
    rcases hw with rfl | rfl
    · exact .inl ⟨⟨cl, none, rfl⟩, by omega, fill_of h⟩
    · exact .inr ⟨⟨cl, none, rfl⟩, by omega, sure_of h⟩
  refine holed_mk n2 n4 (fun x hx => by rcases List.mem_append.mp hx with q | q; exact sd x q; rw [List.mem_singleton.mp q]; rfl) (by rw [List.length_append, List.length_singleton]; omega) (.inr ⟨sb, .inr ⟨by simp, b1, .inl ⟨b2, whyE_in cN (hM _ ?_)⟩⟩⟩)
  clear hM M
  refine runs_end ?_
  refine ⟨rfl, ?_, hW _ _ ?_⟩
  · walk_at "dg"
    exact ⟨v3, b3⟩
  clear hU hW U W
  walk_at "dg"
end
end DL
set_option maxHeartbeats 0
namespace Hd
open PySem PySem.Spec L2 DL
theorem facts {P : Program} {w : World} {K : PySem.W.Frag} {h : Heap} {mg : Str → Option Value} {f : Addr} (X : K.In h) (G : h.Ns mainGlobals mg) (hfa : mg ("law" : Str) = some (.ref f)) (hfile : P.main.file = PySem.Challenge.pw_evenpicks_k50_mends_and_holes_refused.main.file) (htop : (P.main.scope.names.lookup ("super" : Str)).isSome = false) (own : ∀ (K : PySem.W.Frag) (y : Str) (a : Addr), K.In h → y ∈ (["_law_mends_refused_so", "law"] : List Str) → mg y = some (.ref a) → LamX.OwnTab K a h) (c : Hx.SaysX fx fn K) :
    ∃ (cs : List (Addr × Addr)) (fd : FuncData) (sp : Sp), (∀ p ∈ cs, h.get? p.2 = some { cls := .none, data := .fields #[] }) ∧ (∀ p ∈ cs, K.lookup p.2 = none) ∧ (∀ p ∈ cs, PySem.W.CodeHd h p.1 p.2) ∧ (∀ (s : Shared) (v : Value), BindsTo s fd ⟨[v], []⟩ [("_law_script", v)]) ∧
      (∀ (H : Hp) (a : Addr) (ns : List Int), ns.length ≤ 63 → (∀ p ∈ cs, H p.2 = some (.tbl #[])) → SqL K H a (ns.map V.int) → sp [.ref a] H (fun v _ => v = .bl true) fun _ _ _ => False) ∧
      ∀ base : Heap, K.In base → base.Ns mainGlobals mg → (∀ p ∈ cs, LamX.TabB base mg p.1 p.2) → FnOk P w K mg base (L2.CX P w) 30 f fd ["_law_script"] sp := by
  obtain ⟨fd_law, F_law⟩ := c.def_ 26 (d := Hd.d_law) rfl
  obtain ⟨fd__law_bag, F__law_bag⟩ := c.def_ 16 (d := Hd.d__law_bag) rfl
  obtain ⟨fd__law_hands, F__law_hands⟩ := c.def_ 24 (d := Hd.d__law_hands) rfl
  obtain ⟨fd__law_pull, F__law_pull⟩ := c.def_ 17 (d := Hd.d__law_pull) rfl
  obtain ⟨fd__law_turns, F__law_turns⟩ := c.def_ 23 (d := Hd.d__law_turns) rfl
  obtain ⟨fd__law_pick, F__law_pick⟩ := c.def_ 18 (d := Hd.d__law_pick) rfl
  obtain ⟨fd__law_mends_refused_so, F__law_mends_refused_so⟩ := c.def_ 25 (d := Hd.d__law_mends_refused_so) rfl
  obtain ⟨fd_check_hands, F_check_hands⟩ := c.def_ 2 (d := Hd.d_check_hands) rfl
  obtain ⟨fd_is_number, F_is_number⟩ := c.def_ 0 (d := Hd.d_is_number) rfl
  obtain ⟨fd__law_same, F__law_same⟩ := c.def_ 19 (d := Hd.d__law_same) rfl
  obtain ⟨fd_mend, F_mend⟩ := c.def_ 12 (d := Hd.d_mend) rfl
  obtain ⟨fd_check_height, F_check_height⟩ := c.def_ 9 (d := Hd.d_check_height) rfl
  obtain ⟨fd_negated, F_negated⟩ := c.def_ 8 (d := Hd.d_negated) rfl
  obtain ⟨fd_deviation_at, F_deviation_at⟩ := c.def_ 6 (d := Hd.d_deviation_at) rfl
  obtain ⟨fd_choose, F_choose⟩ := c.def_ 1 (d := Hd.d_choose) rfl
  obtain ⟨fd_added, F_added⟩ := c.def_ 7 (d := Hd.d_added) rfl
  obtain ⟨fd_deviation, F_deviation⟩ := c.def_ 10 (d := Hd.d_deviation) rfl
  obtain ⟨fd_chosen, F_chosen⟩ := c.def_ 11 (d := Hd.d_chosen) rfl
  obtain ⟨fd__law_whys, F__law_whys⟩ := c.def_ 22 (d := Hd.d__law_whys) rfl
  obtain ⟨fd__law_why, F__law_why⟩ := c.def_ 21 (d := Hd.d__law_why) rfl
  obtain ⟨fd__law_field, F__law_field⟩ := c.def_ 20 (d := Hd.d__law_field) rfl
  obtain ⟨fd_fillings, F_fillings⟩ := c.def_ 14 (d := Hd.d_fillings) rfl
  obtain ⟨fd_check_holed, F_check_holed⟩ := c.def_ 13 (d := Hd.d_check_holed) rfl
  obtain ⟨fd_sure_hands, F_sure_hands⟩ := c.def_ 15 (d := Hd.d_sure_hands) rfl
  obtain ⟨cc_InvalidHands, cda_InvalidHands, fd_InvalidHands, F_InvalidHands⟩ := c.sup_ 27 (d := Hd.d_InvalidHands___init__) rfl rfl rfl
  let X_InvalidHands : Xe K mg P.main.file "InvalidHands" s_InvalidHands___init__ := { C := He.ga K "InvalidHands", f := He.ma K (He.ga K "InvalidHands") "__init__", cc := cc_InvalidHands, cda := cda_InvalidHands, fd := fd_InvalidHands, g := He.glo_ok X G (c.fact 2 (f := Hx.fGlo "InvalidHands") rfl), e := Hx.err_ok (c.fact 52 (f := Hx.fErr "InvalidHands") rfl), F := by rw [hfile]; exact F_InvalidHands }
  obtain ⟨cc_InvalidTurn, cda_InvalidTurn, fd_InvalidTurn, F_InvalidTurn⟩ := c.sup_ 28 (d := Hd.d_InvalidTurn___init__) rfl rfl rfl
  let X_InvalidTurn : Xe K mg P.main.file "InvalidTurn" s_InvalidTurn___init__ := { C := He.ga K "InvalidTurn", f := He.ma K (He.ga K "InvalidTurn") "__init__", cc := cc_InvalidTurn, cda := cda_InvalidTurn, fd := fd_InvalidTurn, g := He.glo_ok X G (c.fact 3 (f := Hx.fGlo "InvalidTurn") rfl), e := Hx.err_ok (c.fact 53 (f := Hx.fErr "InvalidTurn") rfl), F := by rw [hfile]; exact F_InvalidTurn }
  obtain ⟨cc_InvalidNumber, cda_InvalidNumber, fd_InvalidNumber, F_InvalidNumber⟩ := c.sup_ 29 (d := Hd.d_InvalidNumber___init__) rfl rfl rfl
  let X_InvalidNumber : Xe K mg P.main.file "InvalidNumber" s_InvalidNumber___init__ := { C := He.ga K "InvalidNumber", f := He.ma K (He.ga K "InvalidNumber") "__init__", cc := cc_InvalidNumber, cda := cda_InvalidNumber, fd := fd_InvalidNumber, g := He.glo_ok X G (c.fact 4 (f := Hx.fGlo "InvalidNumber") rfl), e := Hx.err_ok (c.fact 54 (f := Hx.fErr "InvalidNumber") rfl), F := by rw [hfile]; exact F_InvalidNumber }
  obtain ⟨cc_TooLong, cda_TooLong, fd_TooLong, F_TooLong⟩ := c.sup_ 30 (d := Hd.d_TooLong___init__) rfl rfl rfl
  let X_TooLong : Xe K mg P.main.file "TooLong" s_TooLong___init__ := { C := He.ga K "TooLong", f := He.ma K (He.ga K "TooLong") "__init__", cc := cc_TooLong, cda := cda_TooLong, fd := fd_TooLong, g := He.glo_ok X G (c.fact 5 (f := Hx.fGlo "TooLong") rfl), e := Hx.err_ok (c.fact 55 (f := Hx.fErr "TooLong") rfl), F := by rw [hfile]; exact F_TooLong }
  obtain ⟨cc_TooMany, cda_TooMany, fd_TooMany, F_TooMany⟩ := c.sup_ 31 (d := Hd.d_TooMany___init__) rfl rfl rfl
  let X_TooMany : Xe K mg P.main.file "TooMany" s_TooMany___init__ := { C := He.ga K "TooMany", f := He.ma K (He.ga K "TooMany") "__init__", cc := cc_TooMany, cda := cda_TooMany, fd := fd_TooMany, g := He.glo_ok X G (c.fact 6 (f := Hx.fGlo "TooMany") rfl), e := Hx.err_ok (c.fact 56 (f := Hx.fErr "TooMany") rfl), F := by rw [hfile]; exact F_TooMany }
  obtain ⟨fd_Row___init__, F_Row___init__⟩ := c.def_ 3 (d := Hd.d_Row___init__) rfl
  obtain ⟨fd_Row_turns, F_Row_turns⟩ := c.def_ 4 (d := Hd.d_Row_turns) rfl
  obtain ⟨fd_Row___len__, F_Row___len__⟩ := c.def_ 5 (d := Hd.d_Row___len__) rfl
  let K_Row : Kx_Row K mg := { C := He.ga K "Row", g := He.glo_ok X G (c.fact 13 (f := Hx.fGlo "Row") rfl), cls := He.cls_ok (c.fact 62 (f := Hx.fCls "Row") rfl), n_hands := He.noat_ok (c.fact 64 (f := Hx.fNoat "Row" "hands") rfl), n_own_turns := He.noat_ok (c.fact 65 (f := Hx.fNoat "Row" "own_turns") rfl), D___init__ := ⟨He.ma K (He.ga K "Row") "__init__", fd_Row___init__, F_Row___init__⟩, mkr := He.mkr_ok (c.fact 63 (f := Hx.fMkr "Row") rfl), D_turns := ⟨He.ma K (He.ga K "Row") "turns", fd_Row_turns, F_Row_turns⟩, h_turns := He.meth_ok (c.fact 66 (f := Hx.fMeth "Row" "turns") rfl), D___len__ := ⟨He.ma K (He.ga K "Row") "__len__", fd_Row___len__, F_Row___len__⟩, o___len__ := Hx.own_ok (c.fact 67 (f := Hx.fOwn "Row" "__len__") rfl) }
  have e := hfa.symm.trans (He.glo_ok X G (c.fact 38 (f := Hx.fGlo "law") rfl))
  cases e
  have b := FunD.bindsA (ps := ["_law_script"]) F_law fun _ _ _ _ _ _ us hl => match us, hl with | [_], _ => rfl
  obtain ⟨o__law_mends_refused_so, fdt__law_mends_refused_so, cd__law_mends_refused_so, tb__law_mends_refused_so, e__law_mends_refused_so, dd__law_mends_refused_so, vs__law_mends_refused_so, sl__law_mends_refused_so, t1__law_mends_refused_so, t2__law_mends_refused_so, t3__law_mends_refused_so, t4__law_mends_refused_so, t5__law_mends_refused_so, t6__law_mends_refused_so, t7__law_mends_refused_so⟩ := Hx.tab_ok (c.fact 68 (f := Hx.fTab "_law_mends_refused_so") rfl)
  have hcd__law_mends_refused_so : fd__law_mends_refused_so.code = .ref cd__law_mends_refused_so := by
    obtain ⟨_, _, _, _, _, _, _, _, _, _, _, z, _⟩ := F__law_mends_refused_so.ex
    have y := t1__law_mends_refused_so.symm.trans z
    cases y
    cases t2__law_mends_refused_so
    exact t3__law_mends_refused_so
  have hP__law_mends_refused_so := own K "_law_mends_refused_so" _ X (by decide) (He.glo_ok X G (c.fact 37 (f := Hx.fGlo "_law_mends_refused_so") rfl)) cd__law_mends_refused_so tb__law_mends_refused_so _ _ e__law_mends_refused_so dd__law_mends_refused_so vs__law_mends_refused_so sl__law_mends_refused_so t1__law_mends_refused_so t2__law_mends_refused_so t3__law_mends_refused_so t4__law_mends_refused_so t5__law_mends_refused_so
  obtain ⟨o_law, fdt_law, cd_law, tb_law, e_law, dd_law, vs_law, sl_law, t1_law, t2_law, t3_law, t4_law, t5_law, t6_law, t7_law⟩ := Hx.tab_ok (c.fact 70 (f := Hx.fTab "law") rfl)
  have hcd_law : fd_law.code = .ref cd_law := by
    obtain ⟨_, _, _, _, _, _, _, _, _, _, _, z, _⟩ := F_law.ex
    have y := t1_law.symm.trans z
    cases y
    cases t2_law
    exact t3_law
  have hP_law := own K "law" _ X (by decide) (He.glo_ok X G (c.fact 38 (f := Hx.fGlo "law") rfl)) cd_law tb_law _ _ e_law dd_law vs_law sl_law t1_law t2_law t3_law t4_law t5_law
  have hne__law_mends_refused_so_law : tb__law_mends_refused_so ≠ tb_law := Hx.tabNe_ok (c.fact 69 (f := Hx.fTabNe "_law_mends_refused_so" "law") rfl) t1__law_mends_refused_so t2__law_mends_refused_so t3__law_mends_refused_so t4__law_mends_refused_so t5__law_mends_refused_so t1_law t2_law t3_law t4_law t5_law
  let tb : TbC := ⟨[(tb__law_mends_refused_so, lq__law_mends_refused_so), (tb_law, lq_law)], fun i => lamTab.getD i lam_0⟩
  refine ⟨[(cd__law_mends_refused_so, tb__law_mends_refused_so), (cd_law, tb_law)], fd_law, @spLaw tb K, fun p hp => by have hp2 : p ∈ ([(cd__law_mends_refused_so, tb__law_mends_refused_so), (cd_law, tb_law)] : List (Addr × Addr)) := hp; simp only [List.mem_cons, List.not_mem_nil, or_false] at hp2; rcases hp2 with rfl | rfl <;> first | exact hP__law_mends_refused_so | exact hP_law, fun p hp => by have hp2 : p ∈ ([(cd__law_mends_refused_so, tb__law_mends_refused_so), (cd_law, tb_law)] : List (Addr × Addr)) := hp; simp only [List.mem_cons, List.not_mem_nil, or_false] at hp2; rcases hp2 with rfl | rfl <;> first | exact t7__law_mends_refused_so | exact t7_law, fun p hp => by have hp2 : p ∈ ([(cd__law_mends_refused_so, tb__law_mends_refused_so), (cd_law, tb_law)] : List (Addr × Addr)) := hp; simp only [List.mem_cons, List.not_mem_nil, or_false] at hp2; rcases hp2 with rfl | rfl <;> first | exact PySem.W.codeHd_of_K X t6__law_mends_refused_so | exact PySem.W.codeHd_of_K X t6_law, fun s v => b s [v] rfl, fun H a ns hl hT hS => ⟨a, ns, rfl, hS, hl, fun p hp => by have hp2 : p ∈ ([(tb__law_mends_refused_so, lq__law_mends_refused_so), (tb_law, lq_law)] : List (Addr × Str)) := hp; simp only [List.mem_cons, List.not_mem_nil, or_false] at hp2; rcases hp2 with rfl | rfl <;> first | exact hT (cd__law_mends_refused_so, tb__law_mends_refused_so) (List.mem_cons_self) | exact hT (cd_law, tb_law) (List.mem_cons_of_mem _ (List.mem_cons_self)), fun _ => rfl⟩, fun base _ _ hB => ?_⟩
  exact ok_law (T := ⟨He.free_ok X G (c.fact 39 (f := Hx.fFree "isinstance") rfl), He.free_ok X G (c.fact 40 (f := Hx.fFree "int") rfl), He.free_ok X G (c.fact 41 (f := Hx.fFree "bool") rfl), He.free_ok X G (c.fact 42 (f := Hx.fFree "str") rfl), He.free_ok X G (c.fact 43 (f := Hx.fFree "list") rfl), He.free_ok X G (c.fact 44 (f := Hx.fFree "tuple") rfl), He.free_ok X G (c.fact 45 (f := Hx.fFree "len") rfl), He.free_ok X G (c.fact 46 (f := Hx.fFree "range") rfl), He.free_ok X G (c.fact 47 (f := Hx.fFree "zip") rfl), He.free_ok X G (c.fact 48 (f := Hx.fFree "enumerate") rfl), He.free_ok X G (c.fact 49 (f := Hx.fFree "all") rfl), He.free_ok X G (c.fact 50 (f := Hx.fFree "any") rfl), He.free_ok X G (c.fact 51 (f := Hx.fFree "super") rfl), He.int_ok X G (c.fact 10 (f := Hx.fInt "MOST_TURNS" 2000) rfl), He.int_ok X G (c.fact 17 (f := Hx.fInt "MOST_MENDED" 16) rfl), He.int_ok X G (c.fact 18 (f := Hx.fInt "MOST_HOLED" 60) rfl), He.int_ok X G (c.fact 19 (f := Hx.fInt "MOST_CHOICES" 1024) rfl), He.int_ok X G (c.fact 20 (f := Hx.fInt "MOST_WANTED" 6) rfl), He.str_ok X G (c.fact 11 (f := Hx.fStr "DIGITS" "0123") rfl)⟩) (K_Row := K_Row) (X_InvalidHands := X_InvalidHands) (X_InvalidTurn := X_InvalidTurn) (X_InvalidNumber := X_InvalidNumber) (X_TooLong := X_TooLong) (X_TooMany := X_TooMany) (D_law := ⟨Hx.gA "law" K, fd_law, F_law, He.glo_ok X G (c.fact 38 (f := Hx.fGlo "law") rfl)⟩) (D__law_bag := ⟨Hx.gA "_law_bag" K, fd__law_bag, F__law_bag, He.glo_ok X G (c.fact 28 (f := Hx.fGlo "_law_bag") rfl)⟩) (D__law_hands := ⟨Hx.gA "_law_hands" K, fd__law_hands, F__law_hands, He.glo_ok X G (c.fact 36 (f := Hx.fGlo "_law_hands") rfl)⟩) (D__law_pull := ⟨Hx.gA "_law_pull" K, fd__law_pull, F__law_pull, He.glo_ok X G (c.fact 29 (f := Hx.fGlo "_law_pull") rfl)⟩) (D__law_turns := ⟨Hx.gA "_law_turns" K, fd__law_turns, F__law_turns, He.glo_ok X G (c.fact 35 (f := Hx.fGlo "_law_turns") rfl)⟩) (D__law_pick := ⟨Hx.gA "_law_pick" K, fd__law_pick, F__law_pick, He.glo_ok X G (c.fact 30 (f := Hx.fGlo "_law_pick") rfl)⟩) (D__law_mends_refused_so := ⟨Hx.gA "_law_mends_refused_so" K, fd__law_mends_refused_so, F__law_mends_refused_so, He.glo_ok X G (c.fact 37 (f := Hx.fGlo "_law_mends_refused_so") rfl)⟩) (D_check_hands := ⟨Hx.gA "check_hands" K, fd_check_hands, F_check_hands, He.glo_ok X G (c.fact 12 (f := Hx.fGlo "check_hands") rfl)⟩) (D_is_number := ⟨Hx.gA "is_number" K, fd_is_number, F_is_number, He.glo_ok X G (c.fact 8 (f := Hx.fGlo "is_number") rfl)⟩) (D__law_same := ⟨Hx.gA "_law_same" K, fd__law_same, F__law_same, He.glo_ok X G (c.fact 31 (f := Hx.fGlo "_law_same") rfl)⟩) (D_mend := ⟨Hx.gA "mend" K, fd_mend, F_mend, He.glo_ok X G (c.fact 24 (f := Hx.fGlo "mend") rfl)⟩) (D_check_height := ⟨Hx.gA "check_height" K, fd_check_height, F_check_height, He.glo_ok X G (c.fact 21 (f := Hx.fGlo "check_height") rfl)⟩) (D_negated := ⟨Hx.gA "negated" K, fd_negated, F_negated, He.glo_ok X G (c.fact 16 (f := Hx.fGlo "negated") rfl)⟩) (D_deviation_at := ⟨Hx.gA "deviation_at" K, fd_deviation_at, F_deviation_at, He.glo_ok X G (c.fact 14 (f := Hx.fGlo "deviation_at") rfl)⟩) (D_choose := ⟨Hx.gA "choose" K, fd_choose, F_choose, He.glo_ok X G (c.fact 9 (f := Hx.fGlo "choose") rfl)⟩) (D_added := ⟨Hx.gA "added" K, fd_added, F_added, He.glo_ok X G (c.fact 15 (f := Hx.fGlo "added") rfl)⟩) (D_deviation := ⟨Hx.gA "deviation" K, fd_deviation, F_deviation, He.glo_ok X G (c.fact 22 (f := Hx.fGlo "deviation") rfl)⟩) (D_chosen := ⟨Hx.gA "chosen" K, fd_chosen, F_chosen, He.glo_ok X G (c.fact 23 (f := Hx.fGlo "chosen") rfl)⟩) (D__law_whys := ⟨Hx.gA "_law_whys" K, fd__law_whys, F__law_whys, He.glo_ok X G (c.fact 34 (f := Hx.fGlo "_law_whys") rfl)⟩) (D__law_why := ⟨Hx.gA "_law_why" K, fd__law_why, F__law_why, He.glo_ok X G (c.fact 33 (f := Hx.fGlo "_law_why") rfl)⟩) (D__law_field := ⟨Hx.gA "_law_field" K, fd__law_field, F__law_field, He.glo_ok X G (c.fact 32 (f := Hx.fGlo "_law_field") rfl)⟩) (D_fillings := ⟨Hx.gA "fillings" K, fd_fillings, F_fillings, He.glo_ok X G (c.fact 26 (f := Hx.fGlo "fillings") rfl)⟩) (D_check_holed := ⟨Hx.gA "check_holed" K, fd_check_holed, F_check_holed, He.glo_ok X G (c.fact 25 (f := Hx.fGlo "check_holed") rfl)⟩) (D_sure_hands := ⟨Hx.gA "sure_hands" K, fd_sure_hands, F_sure_hands, He.glo_ok X G (c.fact 27 (f := Hx.fGlo "sure_hands") rfl)⟩) (hsup := He.free_ok X G (c.fact 51 (f := Hx.fFree "super") rfl)) (htop := htop) (ex_InvalidHands := Hx.exm_ok (c.fact 57 (f := Hx.fExm "InvalidHands") rfl)) (ex_InvalidTurn := Hx.exm_ok (c.fact 58 (f := Hx.fExm "InvalidTurn") rfl)) (ex_InvalidNumber := Hx.exm_ok (c.fact 59 (f := Hx.fExm "InvalidNumber") rfl)) (ex_TooLong := Hx.exm_ok (c.fact 60 (f := Hx.fExm "TooLong") rfl)) (ex_TooMany := Hx.exm_ok (c.fact 61 (f := Hx.fExm "TooMany") rfl)) (gP := He.glo_ok X G (c.fact 0 (f := Hx.fGlo "PickError") rfl)) (gM := He.glo_ok X G (c.fact 1 (f := Hx.fGlo "Missing") rfl)) (gN := He.glo_ok X G (c.fact 7 (f := Hx.fGlo "NothingLeft") rfl)) (hcd__law_mends_refused_so := hcd__law_mends_refused_so) (hTB__law_mends_refused_so := hB (cd__law_mends_refused_so, tb__law_mends_refused_so) (List.mem_cons_self)) (hmem__law_mends_refused_so := List.mem_cons_self) (hmu__law_mends_refused_so := fun p hp hp2 => by have hp3 : p ∈ ([(tb__law_mends_refused_so, lq__law_mends_refused_so), (tb_law, lq_law)] : List (Addr × Str)) := hp; simp only [List.mem_cons, List.not_mem_nil, or_false] at hp3; rcases hp3 with rfl | rfl <;> first | exact (hne__law_mends_refused_so_law hp2.symm).elim | rfl) (hcd_law := hcd_law) (hTB_law := hB (cd_law, tb_law) (List.mem_cons_of_mem _ (List.mem_cons_self))) (hmem_law := List.mem_cons_of_mem _ (List.mem_cons_self)) (hmu_law := fun p hp hp2 => by have hp3 : p ∈ ([(tb__law_mends_refused_so, lq__law_mends_refused_so), (tb_law, lq_law)] : List (Addr × Str)) := hp; simp only [List.mem_cons, List.not_mem_nil, or_false] at hp3; rcases hp3 with rfl | rfl <;> first | exact (hne__law_mends_refused_so_law hp2).elim | rfl) (hlq := fun i q e => by show lamTab.getD i lam_0 = q; rw [List.getD, e]; rfl)
end Hd
namespace DL
open PySem PySem.Spec PyProof.Rows L2
/-- the end for a law with lambdas: its tables of code objects are empty at first -/
theorem walk_ofL {l : PySem.W.OpenLaw} {n k : Nat} {q : Program} {loose : List Str} {XP : (Str → Option Value) → Heap → Prop} {YP : World → Heap → Prop} {d : DefRec} {CX : World → CXT} {x : Str} {fs : List Str}
    (hn : l.most = some n) (hn2 : n ≤ sizeLine) (hdf : d.params.defaults = []) (hr : Room k callerA) (hrec : fs.all (fun y => (recsOf q).any fun e => e.name == y) = true)
    (hF : ∀ (w : World) (mg : Str → Option Value) (fa : Addr) (h : Heap), YP w h → h.Ns mainGlobals mg → mg d.name = some (.ref fa) → (∀ (K : PySem.W.Frag) (y : Str) (a : Addr), K.In h → y ∈ fs → mg y = some (.ref a) → LamX.OwnTab K a h) →
      ∃ (K : PySem.W.Frag) (cs : List (Addr × Addr)) (fd : FuncData) (sp : Sp), K.In h ∧ (∀ p ∈ cs, h.get? p.2 = some { cls := .none, data := .fields #[] }) ∧ (∀ p ∈ cs, K.lookup p.2 = none) ∧ (∀ p ∈ cs, PySem.W.CodeHd h p.1 p.2) ∧ (∀ (s : Shared) (u : Value), BindsTo s fd ⟨[u], []⟩ [(x, u)]) ∧
        (∀ (H : Hp) (a : Addr) (ns : List Int), ns.length ≤ n → (∀ p ∈ cs, H p.2 = some (.tbl #[])) → SqL K H a (ns.map V.int) → sp [.ref a] H (fun v _ => v = .bl true) fun _ _ _ => False) ∧
        ∀ base : Heap, K.In base → base.Ns mainGlobals mg → (∀ p ∈ cs, LamX.TabB base mg p.1 p.2) → FnOk l.prog w K mg base (CX w) k fa fd [x] sp)
    (hCX : ∀ (w : World) (H : Hp) (s : Shared) (e : Value) (s' : Shared), CX w [] H s (fun _ _ _ => False) e s' → False) :
    PySem.W.WalkO q loose XP YP l.row.toRowW d [] (fun f vs => PySem.call f vs) := by
  refine Att.attach_callB hn hdf fun w s0 s1 mg mb fa o pm cd doc a vs ns G Y ho hd hcd hmg hobj hints hlen hbits hg => ?_
  have own : ∀ (K : PySem.W.Frag) (y : Str) (b : Addr), K.In s1.heap → y ∈ fs → mg y = some (.ref b) → LamX.OwnTab K b s1.heap := fun K y b hK hy hb c P o1 fd1 e dd vs1 sl k1 k2 k3 k4 k5 => by
    obtain ⟨dL, hm, hn1⟩ := List.any_eq_true.mp (List.all_eq_true.mp hrec y hy)
    obtain ⟨a', o', fd', c', P', h1, h2, h3, h4, h5, h6⟩ := G.T.tab dL hm
    have en : dL.name = y := beq_iff_eq.mp hn1
    have hb2 : mg dL.name = some (.ref b) := by rw [en]; exact hb
    have z1 := h1.symm.trans hb2
    cases z1
    have z2 := h2.symm.trans (hK _ _ k1)
    cases z2
    have z3 := h3.symm.trans k2
    cases z3
    have z4 := h4.symm.trans k3
    cases z4
    obtain ⟨⟨oc, vc, e1, _, e3, e4⟩, hP⟩ := h6
    have z5 := e1.symm.trans (hK _ _ k4)
    cases z5
    cases e3
    have z6 := e4.symm.trans k5
    cases z6
    exact hP
  obtain ⟨K, cs, fd, sp, KX, hT, nT, hC, hb, hsp, hok⟩ := hF w mg fa _ Y G.T.g hmg own
  exact LamX.law_callTs KX G.T.g G.T.b G.T.builtins G.T.nolimit hg hT nT hC G.T.bmain hobj hints (Nat.le_trans hlen hn2) hr hok hb (fun H hH hS => hsp H a ns hlen hH hS) fun H e s' => hCX w H s1 e s'
end DL
open PySem PySem.W PySem.Calls PyProof.Rows
set_option maxHeartbeats 0
theorem PySem.Challenge.cw_evenpicks_k50_mends_and_holes_refused_holds : PySem.Challenge.rw_evenpicks_k50_mends_and_holes_refused.Holds := by
  w_on; o_law
  refine HandSHeadRun.head_any (r := OpenLaw.row PySem.Challenge.rw_evenpicks_k50_mends_and_holes_refused) (q := view (OpenLaw.row PySem.Challenge.rw_evenpicks_k50_mends_and_holes_refused).prog [47, 48]) (H := Hd.hk) (ob := Hd.ob) (M := 11200) (loose := Hd.names) (d := HandSHeadRun.topDef (OpenLaw.row PySem.Challenge.rw_evenpicks_k50_mends_and_holes_refused).prog 48) (kwd := []) Hd.ob_eq
    (by kernel_rfl) (fun s => by kernel_rfl) Hd.run (by kernel_rfl) (by kernel_rfl) (by kernel_rfl) (by rfl) (by first | assumption | decide +kernel) (by decide +kernel) ⟨rfl, rfl, rfl, rfl, rfl, by decide +kernel⟩ ?hw ?hc
  case hw => w_witness2
  case hc =>
    refine DL.walk_ofL (l := PySem.Challenge.rw_evenpicks_k50_mends_and_holes_refused) (n := 63) (k := 30) (x := "_law_script") (fs := ["_law_mends_refused_so", "law"]) (CX := fun w => L2.CX (PySem.Challenge.rw_evenpicks_k50_mends_and_holes_refused).prog w) rfl (by decide) (by kernel_rfl) ⟨rfl, by decide, by decide⟩ (by kernel_rfl) ?F (fun w H s e s' z => by obtain ⟨_, _, _, _, _, _, _, _, _, _, _, _, z⟩ := z; exact z.elim)
    intro w mg fa h Y G hmg0 own
    obtain ⟨K, KX, c⟩ := Y
    have hmg : mg ("law" : PySem.Str) = some (.ref fa) := by
      have e : (HandSHeadRun.topDef (OpenLaw.row PySem.Challenge.rw_evenpicks_k50_mends_and_holes_refused).prog 48).name = ("law" : PySem.Str) := by kernel_rfl
      rw [← e]
      exact hmg0
    obtain ⟨cs, fd, sp, h1, h2, h3, h4, h5, h6⟩ := Hd.facts (P := (PySem.Challenge.rw_evenpicks_k50_mends_and_holes_refused).prog) (w := w) KX G hmg (by kernel_rfl) (by kernel_rfl) own c
    exact ⟨K, cs, fd, sp, KX, h1, h2, h3, h4, h5, h6⟩
