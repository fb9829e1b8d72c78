import PyProof.Rows.All
import Wide.All
import OpenK.AllK
import Wide.FinOn
import KE.KStateDown
import Lean
import HandS.Base
import HandS.Call
import HandS.Ends
import HandS.More
import HandS.Words
import HandS.WordsExc
import KE.KNestM
import HandS.Defaults
import HandS.Head0
import HandS.Head1
import HandS.Head2
import HandS.HeadEnd
import HandS.HeadHook1
import HandS.HeadHook2
import HandS.Property
import HandS.Exc
import HandS.ExcInit
import HandS.ExcField
import KE.KSuper
import KE.KTryMore
import KE.DataEq
import HandS.ForMost
import HandS.Wide
import HandS.IsInst
import HandS.TupAny
import HandS.Flow
import HandS.Zip
import HandS.Lambda
import KE.KDflt
import HandS.Star
import HandS.Style
import KE.KOpsOwn
import HandS.OwnEq
import HandS.Text
import HandS.ClsMeth
import KE.GoesMore
import KE.KExcSuper
import HandS.HotCalls
import HandS.MakeKwOnly
import HandS.FStr
import KE.GoesEnumKw
import HandS.TupMul
import HandS.List
import HandS.Strs
import KE.KeyNested
import HandS.EndTab
import HandS.EndOwn
import PySem.Challenge.RW_evenpicks_k14_rows_that_never_change
set_option Elab.async false
set_option linter.all false
set_option maxRecDepth 100000
set_option maxHeartbeats 4000000
set_option autoImplicit false
namespace Hx
open PySem PySem.Spec L2
/-- a global's address; a class's method; what a property, a static method of a class holds -/
def gA (x : Str) : PySem.W.Frag → Addr := fun K => He.ga K x
def mA (c m : Str) : PySem.W.Frag → Addr := fun K => He.ma K (He.ga K c) m
def rA (kind : String) (c m : Str) : PySem.W.Frag → Addr := fun K => match PySem.W.recIn K (He.ma K (He.ga K c) m) kind with
  | some (.ref g :: _) => g
  | _ => 0
structure DefX where
  ad : PySem.W.Frag → Addr
  name : Str
  qual : Str
  params : Arguments
  body : List Stmt
  scope : Scope
  dfl : List He.Dv := []
  kwd : List (Str × He.Dv) := []
  /-- a def that says super(): its class, the program's file -/
  sup : Option (Str × Str) := none
/-- the cell of a class is told apart (supB) -/
def cloX (l : List (Str × Addr)) : List (Str × Addr) := match l with
  | [(n, c)] => if n = "__class__" then [] else [(n, c)]
  | l => l
def fnX (K : PySem.W.Frag) (a : Addr) : He.FnW := match K.lookup a with
  | some ⟨_, _, .func fd, _⟩ => some (fd.name, fd.qualname, fd.params, fd.body, fd.scope, fd.globals, cloX fd.closure, fd.builtins)
  | _ => none
/-- the cell holds the class C, the code is of this file -/
def supB (K : PySem.W.Frag) (C : Addr) (fl : Str) (clo : List (Str × Addr)) (code : Value) : Bool := match clo, code with
  | [(n, cc)], .ref cda => decide (n = "__class__") && ((match K.lookup cc with
      | some ⟨_, _, .cell (some (.ref D)), _⟩ => decide (D = C)
      | _ => false) && ((match K.lookup cda with
      | some ⟨_, _, .fields vs, _⟩ => (match (vs[2]? : Option Value) with
          | some (Value.str file _) => fl == file
          | _ => false)
      | _ => false) && (PySem.W.clsIn K C).isSome))
  | _, _ => false
def cloB (K : PySem.W.Frag) (sup : Option (Str × Str)) (clo : List (Str × Addr)) (code : Value) : Bool := match sup with
  | none => clo.isEmpty
  | some (c, fl) => supB K (He.ga K c) fl clo code
def DefX.val (d : DefX) : He.FnW := some (d.name, d.qual, d.params, .stmts d.body, d.scope, mainGlobals, [], builtinsNs)
def DefX.dvs (K : PySem.W.Frag) (d : DefX) : List V := d.dfl.map (He.Dv.v K)
def DefX.kws (K : PySem.W.Frag) (d : DefX) : List (Str × V) := d.kwd.map fun q => (q.1, q.2.v K)
def DefX.ok (K : PySem.W.Frag) (d : DefX) : Bool := PySem.W.keepIn K (.ref (d.ad K)) && (match K.lookup (d.ad K) with
  | some ⟨_, _, .func fd, _⟩ => (PySem.W.codeIn K fd.code d.qual && (He.dflB K fd.defaults (d.dvs K) && He.kwdB K fd.kwdefaults (d.kws K))) && cloB K d.sup fd.closure fd.code
  | _ => false)
theorem DefX.funD {K : PySem.W.Frag} {d : DefX} (e : fnX K (d.ad K) = d.val) (c : d.ok K = true) (hs : d.sup = none) : ∃ fd, FunD K d.name d.qual d.params d.body d.scope (d.dvs K) (d.kws K) (d.ad K) fd := by
  obtain ⟨kp, c2⟩ := He.ba c
  unfold fnX at e
  cases q : K.lookup (d.ad K) with
  | none =>
    rw [q] at c2
    cases c2
  | some o =>
    obtain ⟨oc, od, dt, osl⟩ := o
    rw [q] at c2 e
    cases dt with
    | func fd =>
      obtain ⟨n1, n2, n3, n4, n5, n6, n7, n8, n9, n10, n11, n12, n13, n14, n15⟩ := fd
      have c9 : ((PySem.W.codeIn K n13 d.qual && (He.dflB K n8 (d.dvs K) && He.kwdB K n9 (d.kws K))) && cloB K d.sup n7 n13) = true := c2
      obtain ⟨c3, c4⟩ := He.ba c9
      have c5 : n7 = [] := by
        rw [hs] at c4
        exact List.isEmpty_iff.mp c4
      subst c5
      have e2 : (some (n1, n2, n3, n4, n5, n6, ([] : List (Str × Addr)), n15) : He.FnW) = some (d.name, d.qual, d.params, .stmts d.body, d.scope, mainGlobals, [], builtinsNs) := e
      simp only [Option.some.injEq, Prod.mk.injEq] at e2
      obtain ⟨h1, h2, h3, h4, h5, h6, h7, h8⟩ := e2
      subst h1 h2 h3 h4 h5 h6 h8
      obtain ⟨k1, k2⟩ := He.ba c3
      obtain ⟨k3, k4⟩ := He.ba k2
      exact ⟨_, ⟨oc, od, n8, n9, n10, n11, n12, n13, n14, osl, rfl, q, k1, He.dflB_ok k3, He.kwdB_ok k4⟩, kp⟩
    | _ => cases c2
def obsX (fx : List (PySem.W.Frag → Bool)) (fn : List DefX) (K : PySem.W.Frag) : He.AlD := ((fx.all fun f => f K) && fn.all fun d => d.ok K, fn.map fun d => fnX K (d.ad K))
def valX (fn : List DefX) : He.AlD := (true, fn.map DefX.val)
def SaysX (fx : List (PySem.W.Frag → Bool)) (fn : List DefX) (K : PySem.W.Frag) : Prop := obsX fx fn K = valX fn
def obsXG (n : (Addr → Option Obj) → List Addr) (fx : List (PySem.W.Frag → Bool)) (fn : List DefX) (g : Addr → Option Obj) : He.AlD := obsX fx fn (He.frG g (n g))
def hookX (n : (Addr → Option Obj) → List Addr) (fx : List (PySem.W.Frag → Bool)) (fn : List DefX) : PySem.W.Hook where
  α := He.AlD
  obs := fun s => obsXG n fx fn s.heap.get?
  val := fun _ => valX fn
  says := fun _ h => ∃ K : PySem.W.Frag, K.In h ∧ SaysX fx fn K
  of := fun _ _ e => ⟨_, He.frG_in, e⟩
  keeps := fun _ _ _ ⟨K, hK, c⟩ k => ⟨K, PySem.W.Frag.In.keeps hK k, c⟩
theorem obsXG_eq {n : (Addr → Option Obj) → List Addr} {fx : List (PySem.W.Frag → Bool)} {fn : List DefX} {g : Addr → Option Obj} {s : Shared} (h : ∀ a, g a = s.heap.get? a) : obsXG n fx fn g = (hookX n fx fn).obs s := by
  have e : g = s.heap.get? := funext h
  rw [e] <;> rfl
section
variable {fx : List (PySem.W.Frag → Bool)} {fn : List DefX} {K : PySem.W.Frag}
theorem SaysX.fact (c : SaysX fx fn K) (i : Nat) {f : PySem.W.Frag → Bool} (h : fx[i]? = some f := by rfl) : f K = true := by
  have c1 := (He.ba (show ((fx.all fun f => f K) && fn.all fun d => d.ok K) = true from congrArg (fun z : He.AlD => z.1) c)).1
  exact List.all_eq_true.mp c1 f (List.mem_of_getElem? h)
theorem SaysX.def_ (c : SaysX fx fn K) (i : Nat) {d : DefX} (h : fn[i]? = some d := by rfl) (hs : d.sup = none := by rfl) : ∃ fd, FunD K d.name d.qual d.params d.body d.scope (d.dvs K) (d.kws K) (d.ad K) fd := by
  have c2 := (He.ba (show ((fx.all fun f => f K) && fn.all fun d => d.ok K) = true from congrArg (fun z : He.AlD => z.1) c)).2
  have e : fn.map (fun d => fnX K (d.ad K)) = fn.map DefX.val := congrArg (fun z : He.AlD => z.2) c
  have e2 : (fn.map fun d => fnX K (d.ad K))[i]? = (fn.map DefX.val)[i]? := by rw [e]
  rw [List.getElem?_map, List.getElem?_map, h] at e2
  exact DefX.funD (Option.some.inj e2) (List.all_eq_true.mp c2 d (List.mem_of_getElem? h)) hs
end
def fGlo (x : Str) : PySem.W.Frag → Bool := fun K => (He.Fa.glo x).ok K
def fFree (x : Str) : PySem.W.Frag → Bool := fun K => (He.Fa.free x).ok K
def fInt (x : Str) (i : Int) : PySem.W.Frag → Bool := fun K => (He.Fa.int x i).ok K
def fStr (x z : Str) : PySem.W.Frag → Bool := fun K => (He.Fa.str x z).ok K
def fCls (x : Str) : PySem.W.Frag → Bool := fun K => (He.Fa.cls x).ok K
def fMkr (x : Str) : PySem.W.Frag → Bool := fun K => (He.Fa.mkr x).ok K
def fMeth (x m : Str) : PySem.W.Frag → Bool := fun K => (He.Fa.meth x m).ok K
def fNoat (x f : Str) : PySem.W.Frag → Bool := fun K => (He.Fa.noat x f).ok K
/-- a property f of the class x -/
def fProp (x f : Str) : PySem.W.Frag → Bool := fun K => let C := He.ga K x; let p := He.ma K C f
  He.eqO (PySem.W.findIn K (.ref C) f) (some (some (.ref p))) && (decide (PySem.W.specialIn K (.ref p) "__get__" = some (some (.builtin "property.__get__"))) && (decide (PySem.W.takesIn K (.ref p) = some true) &&
    (match PySem.W.recIn K p "property" with
      | some (.ref g :: _) => true
      | _ => false)))
theorem prop_ok {K : PySem.W.Frag} {x f : Str} (h : fProp x f K = true) : PropOf K (He.ga K x) f (He.ma K (He.ga K x) f) (rA "property" x f K) := by
  obtain ⟨h1, h2⟩ := He.ba h
  obtain ⟨h3, h4⟩ := He.ba h2
  obtain ⟨h5, h6⟩ := He.ba h4
  refine ⟨He.eqO_ok h1, of_decide_eq_true h3, of_decide_eq_true h5, ?_⟩
  unfold rA
  split at h6
  · rename_i g rest e
    exact ⟨rest, by rw [e]⟩
  · cases h6
end Hx
namespace Hx
open PySem PySem.Spec L2
/-- the class x has its own def m (an operator) -/
structure Own (K : PySem.W.Frag) (C : Addr) (m : Str) (g : Addr) : Prop where
  first : PySem.W.selfFirst K C = true
  at_ : PySem.W.findIn K (.ref C) m = some (some (.ref g))
  fn : PySem.W.isFn K (.ref g) = true
def fOwn (x m : Str) : PySem.W.Frag → Bool := fun K => let C := He.ga K x; let g := He.ma K C m
  PySem.W.selfFirst K C && (He.eqO (PySem.W.findIn K (.ref C) m) (some (some (.ref g))) && PySem.W.isFn K (.ref g))
theorem own_ok {K : PySem.W.Frag} {x m : Str} (h : fOwn x m K = true) : Own K (He.ga K x) m (He.ma K (He.ga K x) m) := by
  obtain ⟨h1, h2⟩ := He.ba h
  obtain ⟨h3, h4⟩ := He.ba h2
  exact ⟨h1, He.eqO_ok h3, h4⟩
end Hx
namespace Hx
open PySem PySem.Spec L2
def oexB (K : PySem.W.Frag) (C : Addr) : Bool := match K.lookup C with
  | some ⟨.type "type", _, .cls cd, sl⟩ => (match cd.mro, sl.toList with
      | .ref C' :: bm, [_, _, _, _, some (.builtin n), _] => decide (C' = C) && (decide (n = "ValueError.__new__") && (!cd.hasDel && (cd.hasDict && HandSPX.refsVE bm)))
      | _, _ => false)
  | _ => false
theorem oexB_ok {K : PySem.W.Frag} {C : Addr} (h : oexB K C = true) : ∃ nm q N bs bm sn sub ab col dd k0 k1 k2 k3 k5, K.lookup C = some (excClassObj nm q C N bs bm true sn sub ab col dd k0 k1 k2 k3 k5 "ValueError.__new__") ∧ PySem.HandSPX.refsVE bm = true := by
  unfold oexB at h
  split at h
  · rename_i dd cd sl ho
    split at h
    · rename_i C' bm k0 k1 k2 k3 n k5 hm hs
      obtain ⟨h1, h⟩ := He.ba h
      obtain ⟨h2, h⟩ := He.ba h
      obtain ⟨h3, h⟩ := He.ba h
      obtain ⟨h4, h5⟩ := He.ba h
      have h1 := of_decide_eq_true h1
      have h2 := of_decide_eq_true h2
      subst h1 h2
      obtain ⟨nm, bs, mro, ns, qn, hd, sn, sub, ab, col, del⟩ := cd
      dsimp only at hm h3 h4
      subst hm h4
      have h3 : del = false := by simpa using h3
      subst h3
      have hsl : sl = #[k0, k1, k2, k3, some (.builtin "ValueError.__new__"), k5] := by
        obtain ⟨l⟩ := sl
        simp only at hs
        subst hs
        rfl
      subst hsl
      exact ⟨_, _, _, _, _, _, _, _, _, _, _, _, _, _, _, ho, h5⟩
    · cases h
  · cases h
def errNames : List Str := ["code", "at", "most", "name", "user", "limit", "line", "given"]
/-- all that raising and catching such an exception asks of its class -/
def fErr (x : Str) : PySem.W.Frag → Bool := fun K => let C := He.ga K x; let f := He.ma K C "__init__"
  oexB K C && (He.eqO (PySem.W.findIn K (.ref C) "__setattr__") (some (some (.builtin "object.__setattr__"))) && (decide (PySem.W.subIn K (.ref C) (.type "BaseException") = some true) && (decide (PySem.W.typeIn K (.ref C) = some (.type "type")) && (PySem.W.keepIn K (.ref C) &&
  (decide (PySem.W.nsIn K PySem.cStatics "thirdparty.any" = some none) && (He.eqO (PySem.W.ks_superIn K C C "__init__") (some (some (.builtin "ValueError.__init__"))) && (decide (PySem.W.mroIn K C (.ref C) = some true) && (decide (PySem.W.subIn K (.ref C) (.type "ValueError") = some true) &&
  (He.eqO (PySem.W.findIn K (.ref C) "__init__") (some (some (.ref f))) && (decide (PySem.W.typeIn K (.ref f) = some (.type "function")) && (L2.xfB K C && (errNames.all fun n => He.eqO (PySem.W.findIn K (.ref C) n) (some none)))))))))))))
structure ErrX (K : PySem.W.Frag) (C f : Addr) : Prop where
  ox : OexC K C
  st : PySem.W.nsIn K PySem.cStatics "thirdparty.any" = some none
  su : PySem.W.ks_superIn K C C "__init__" = some (some (.builtin "ValueError.__init__"))
  mr : PySem.W.mroIn K C (.ref C) = some true
  ve : PySem.W.subIn K (.ref C) (.type "ValueError") = some true
  iC : PySem.W.findIn K (.ref C) "__init__" = some (some (.ref f))
  tI : PySem.W.typeIn K (.ref f) = some (.type "function")
  xf : XfC K C
  na : ∀ n ∈ errNames, PySem.W.findIn K (.ref C) n = some none
theorem err_ok {K : PySem.W.Frag} {x : Str} (h : fErr x K = true) : ErrX K (He.ga K x) (He.ma K (He.ga K x) "__init__") := by
  obtain ⟨h1, h⟩ := He.ba h
  obtain ⟨h2, h⟩ := He.ba h
  obtain ⟨h3, h⟩ := He.ba h
  obtain ⟨h4, h⟩ := He.ba h
  obtain ⟨h5, h⟩ := He.ba h
  obtain ⟨h6, h⟩ := He.ba h
  obtain ⟨h7, h⟩ := He.ba h
  obtain ⟨h8, h⟩ := He.ba h
  obtain ⟨h9, h⟩ := He.ba h
  obtain ⟨h10, h⟩ := He.ba h
  obtain ⟨h11, h⟩ := He.ba h
  obtain ⟨h12, h13⟩ := He.ba h
  exact ⟨⟨oexB_ok h1, He.eqO_ok h2, of_decide_eq_true h3, of_decide_eq_true h4, h5⟩, of_decide_eq_true h6, He.eqO_ok h7, of_decide_eq_true h8, of_decide_eq_true h9, He.eqO_ok h10, of_decide_eq_true h11, xfB_ok h12, fun n hn => He.eqO_ok (List.all_eq_true.mp h13 n hn)⟩
end Hx
namespace Hx
open PySem PySem.Spec L2
/-- the law's own def: its code object, the table that its lambdas are entered into -/
def fTab (x : Str) : PySem.W.Frag → Bool := fun K => match K.lookup (He.ga K x) with
  | some ⟨_, _, .func fd, _⟩ => (match fd.code with
    | .ref c => (match K.lookup c with
      | some ⟨_, _, .fields vs, _⟩ => (match (vs[11]? : Option Value) with
        | some (.ref P) => PySem.W.codeHdIn K c P && (K.lookup P).isNone
        | _ => false)
      | _ => false)
    | _ => false)
  | _ => false
theorem tab_ok {K : PySem.W.Frag} {x : Str} (h : fTab x K = true) : ∃ (o : Obj) (fd : FuncData) (c P : Addr) (e : Value) (dd : Option Addr) (vs : Array Value) (sl : Array (Option Value)),
    K.lookup (He.ga K x) = some o ∧ o.data = .func fd ∧ fd.code = .ref c ∧ K.lookup c = some ⟨e, dd, .fields vs, sl⟩ ∧ vs[11]? = some (.ref P) ∧ PySem.W.codeHdIn K c P = true ∧ K.lookup P = none := by
  unfold fTab at h
  split at h
  · rename_i o1 o2 fd o4 e1
    split at h
    · rename_i c e2
      split at h
      · rename_i e dd vs sl e3
        split at h
        · rename_i P e4
          obtain ⟨h1, h2⟩ := He.ba h
          exact ⟨_, fd, c, P, e, dd, vs, sl, e1, rfl, e2, e3, e4, h1, Option.isNone_iff_eq_none.mp h2⟩
        · cases h
      · cases h
    · cases h
  · cases h
end Hx
set_option maxHeartbeats 0
namespace Hd
open PySem PySem.Spec PyProof.Rows L2
def top (i : Nat) : Stmt := PySem.Challenge.pw_evenpicks_k14_rows_that_never_change.main.body.getD i (.Pass ⟨0, 0, 0, 0⟩)
abbrev s_is_number : Stmt := top 12
def d_is_number : Hx.DefX := ⟨Hx.gA "is_number", "is_number", "is_number", defArgs s_is_number, defBody s_is_number, defScope s_is_number, [], [], none⟩
abbrev s_are_numbers : Stmt := top 13
def d_are_numbers : Hx.DefX := ⟨Hx.gA "are_numbers", "are_numbers", "are_numbers", defArgs s_are_numbers, defBody s_are_numbers, defScope s_are_numbers, [], [], none⟩
abbrev s_check_hands : Stmt := top 18
def d_check_hands : Hx.DefX := ⟨Hx.gA "check_hands", "check_hands", "check_hands", defArgs s_check_hands, defBody s_check_hands, defScope s_check_hands, [], [], none⟩
abbrev s_check_hand : Stmt := top 19
def d_check_hand : Hx.DefX := ⟨Hx.gA "check_hand", "check_hand", "check_hand", defArgs s_check_hand, defBody s_check_hand, defScope s_check_hand, [], [], none⟩
abbrev s_check_most : Stmt := top 20
def d_check_most : Hx.DefX := ⟨Hx.gA "check_most", "check_most", "check_most", defArgs s_check_most, defBody s_check_most, defScope s_check_most, [], [], none⟩
abbrev s_is_change : Stmt := top 21
def d_is_change : Hx.DefX := ⟨Hx.gA "is_change", "is_change", "is_change", defArgs s_is_change, defBody s_is_change, defScope s_is_change, [], [], none⟩
abbrev s_Row___init__ : Stmt := inClass (top 22) 1
def d_Row___init__ : Hx.DefX := ⟨Hx.mA "Row" "__init__", "__init__", "Row.__init__", defArgs s_Row___init__, defBody s_Row___init__, defScope s_Row___init__, [], [], none⟩
abbrev s_Row_text : Stmt := inClass (top 22) 3
def d_Row_text : Hx.DefX := ⟨Hx.rA "property" "Row" "text", "text", "Row.text", defArgs s_Row_text, defBody s_Row_text, defScope s_Row_text, [], [], none⟩
abbrev s_Row_turns : Stmt := inClass (top 22) 4
def d_Row_turns : Hx.DefX := ⟨Hx.mA "Row" "turns", "turns", "Row.turns", defArgs s_Row_turns, defBody s_Row_turns, defScope s_Row_turns, [], [], none⟩
abbrev s_Row_places : Stmt := inClass (top 22) 5
def d_Row_places : Hx.DefX := ⟨Hx.mA "Row" "places", "places", "Row.places", defArgs s_Row_places, defBody s_Row_places, defScope s_Row_places, [], [], none⟩
abbrev s_Row_counts : Stmt := inClass (top 22) 6
def d_Row_counts : Hx.DefX := ⟨Hx.mA "Row" "counts", "counts", "Row.counts", defArgs s_Row_counts, defBody s_Row_counts, defScope s_Row_counts, [], [], none⟩
abbrev s_Row_totals : Stmt := inClass (top 22) 7
def d_Row_totals : Hx.DefX := ⟨Hx.mA "Row" "totals", "totals", "Row.totals", defArgs s_Row_totals, defBody s_Row_totals, defScope s_Row_totals, [], [], none⟩
abbrev s_Row_table : Stmt := inClass (top 22) 8
def d_Row_table : Hx.DefX := ⟨Hx.mA "Row" "table", "table", "Row.table", defArgs s_Row_table, defBody s_Row_table, defScope s_Row_table, [], [], none⟩
abbrev s_Row_turned : Stmt := inClass (top 22) 9
def d_Row_turned : Hx.DefX := ⟨Hx.mA "Row" "turned", "turned", "Row.turned", defArgs s_Row_turned, defBody s_Row_turned, defScope s_Row_turned, [], [], none⟩
abbrev s_Row_handed : Stmt := inClass (top 22) 10
def d_Row_handed : Hx.DefX := ⟨Hx.mA "Row" "handed", "handed", "Row.handed", defArgs s_Row_handed, defBody s_Row_handed, defScope s_Row_handed, [], [], none⟩
abbrev s_Row_need_like : Stmt := inClass (top 22) 13
def d_Row_need_like : Hx.DefX := ⟨Hx.mA "Row" "need_like", "need_like", "Row.need_like", defArgs s_Row_need_like, defBody s_Row_need_like, defScope s_Row_need_like, [], [], none⟩
abbrev s_Row___xor__ : Stmt := inClass (top 22) 16
def d_Row___xor__ : Hx.DefX := ⟨Hx.mA "Row" "__xor__", "__xor__", "Row.__xor__", defArgs s_Row___xor__, defBody s_Row___xor__, defScope s_Row___xor__, [], [], none⟩
abbrev s_Row___len__ : Stmt := inClass (top 22) 20
def d_Row___len__ : Hx.DefX := ⟨Hx.mA "Row" "__len__", "__len__", "Row.__len__", defArgs s_Row___len__, defBody s_Row___len__, defScope s_Row___len__, [], [], none⟩
abbrev s__law_bag : Stmt := top 24
def d__law_bag : Hx.DefX := ⟨Hx.gA "_law_bag", "_law_bag", "_law_bag", defArgs s__law_bag, defBody s__law_bag, defScope s__law_bag, [], [], none⟩
abbrev s__law_pull : Stmt := top 25
def d__law_pull : Hx.DefX := ⟨Hx.gA "_law_pull", "_law_pull", "_law_pull", defArgs s__law_pull, defBody s__law_pull, defScope s__law_pull, [], [], none⟩
abbrev s__law_same : Stmt := top 26
def d__law_same : Hx.DefX := ⟨Hx.gA "_law_same", "_law_same", "_law_same", defArgs s__law_same, defBody s__law_same, defScope s__law_same, [], [], none⟩
abbrev s__law_choose : Stmt := top 27
def d__law_choose : Hx.DefX := ⟨Hx.gA "_law_choose", "_law_choose", "_law_choose", defArgs s__law_choose, defBody s__law_choose, defScope s__law_choose, [], [], none⟩
abbrev s__law_turns : Stmt := top 28
def d__law_turns : Hx.DefX := ⟨Hx.gA "_law_turns", "_law_turns", "_law_turns", defArgs s__law_turns, defBody s__law_turns, defScope s__law_turns, [], [], none⟩
abbrev s__law_hands : Stmt := top 29
def d__law_hands : Hx.DefX := ⟨Hx.gA "_law_hands", "_law_hands", "_law_hands", defArgs s__law_hands, defBody s__law_hands, defScope s__law_hands, [], [], none⟩
abbrev s__law_table : Stmt := top 30
def d__law_table : Hx.DefX := ⟨Hx.gA "_law_table", "_law_table", "_law_table", defArgs s__law_table, defBody s__law_table, defScope s__law_table, [], [], none⟩
abbrev s__law_totals : Stmt := top 31
def d__law_totals : Hx.DefX := ⟨Hx.gA "_law_totals", "_law_totals", "_law_totals", defArgs s__law_totals, defBody s__law_totals, defScope s__law_totals, [], [], none⟩
abbrev s__law_digits : Stmt := top 32
def d__law_digits : Hx.DefX := ⟨Hx.gA "_law_digits", "_law_digits", "_law_digits", defArgs s__law_digits, defBody s__law_digits, defScope s__law_digits, [], [], none⟩
abbrev s__law_within : Stmt := top 33
def d__law_within : Hx.DefX := ⟨Hx.gA "_law_within", "_law_within", "_law_within", defArgs s__law_within, defBody s__law_within, defScope s__law_within, [], [], none⟩
abbrev s_law : Stmt := top 34
def d_law : Hx.DefX := ⟨Hx.gA "law", "law", "law", defArgs s_law, defBody s_law, defScope s_law, [], [], none⟩
abbrev s_InvalidHands___init__ : Stmt := inClass (top 3) 0
def d_InvalidHands___init__ : Hx.DefX := ⟨Hx.mA "InvalidHands" "__init__", "__init__", "InvalidHands.__init__", defArgs s_InvalidHands___init__, defBody s_InvalidHands___init__, defScope s_InvalidHands___init__, [], [], some ("InvalidHands", PySem.Challenge.pw_evenpicks_k14_rows_that_never_change.main.file)⟩
abbrev s_InvalidHand___init__ : Stmt := inClass (top 4) 0
def d_InvalidHand___init__ : Hx.DefX := ⟨Hx.mA "InvalidHand" "__init__", "__init__", "InvalidHand.__init__", defArgs s_InvalidHand___init__, defBody s_InvalidHand___init__, defScope s_InvalidHand___init__, [], [], some ("InvalidHand", PySem.Challenge.pw_evenpicks_k14_rows_that_never_change.main.file)⟩
abbrev s_InvalidTurn___init__ : Stmt := inClass (top 5) 0
def d_InvalidTurn___init__ : Hx.DefX := ⟨Hx.mA "InvalidTurn" "__init__", "__init__", "InvalidTurn.__init__", defArgs s_InvalidTurn___init__, defBody s_InvalidTurn___init__, defScope s_InvalidTurn___init__, [], [], some ("InvalidTurn", PySem.Challenge.pw_evenpicks_k14_rows_that_never_change.main.file)⟩
abbrev s_InvalidNumber___init__ : Stmt := inClass (top 6) 0
def d_InvalidNumber___init__ : Hx.DefX := ⟨Hx.mA "InvalidNumber" "__init__", "__init__", "InvalidNumber.__init__", defArgs s_InvalidNumber___init__, defBody s_InvalidNumber___init__, defScope s_InvalidNumber___init__, [], [], some ("InvalidNumber", PySem.Challenge.pw_evenpicks_k14_rows_that_never_change.main.file)⟩
abbrev s_InvalidWorths___init__ : Stmt := inClass (top 7) 0
def d_InvalidWorths___init__ : Hx.DefX := ⟨Hx.mA "InvalidWorths" "__init__", "__init__", "InvalidWorths.__init__", defArgs s_InvalidWorths___init__, defBody s_InvalidWorths___init__, defScope s_InvalidWorths___init__, [], [], some ("InvalidWorths", PySem.Challenge.pw_evenpicks_k14_rows_that_never_change.main.file)⟩
abbrev s_InvalidChange___init__ : Stmt := inClass (top 8) 0
def d_InvalidChange___init__ : Hx.DefX := ⟨Hx.mA "InvalidChange" "__init__", "__init__", "InvalidChange.__init__", defArgs s_InvalidChange___init__, defBody s_InvalidChange___init__, defScope s_InvalidChange___init__, [], [], some ("InvalidChange", PySem.Challenge.pw_evenpicks_k14_rows_that_never_change.main.file)⟩
abbrev s_Unlike___init__ : Stmt := inClass (top 9) 0
def d_Unlike___init__ : Hx.DefX := ⟨Hx.mA "Unlike" "__init__", "__init__", "Unlike.__init__", defArgs s_Unlike___init__, defBody s_Unlike___init__, defScope s_Unlike___init__, [], [], some ("Unlike", PySem.Challenge.pw_evenpicks_k14_rows_that_never_change.main.file)⟩
abbrev s_TooLong___init__ : Stmt := inClass (top 10) 0
def d_TooLong___init__ : Hx.DefX := ⟨Hx.mA "TooLong" "__init__", "__init__", "TooLong.__init__", defArgs s_TooLong___init__, defBody s_TooLong___init__, defScope s_TooLong___init__, [], [], some ("TooLong", PySem.Challenge.pw_evenpicks_k14_rows_that_never_change.main.file)⟩
def fn0 : List Hx.DefX := [d_is_number, d_are_numbers, d_check_hands, d_check_hand, d_check_most, d_is_change, d_Row___init__, d_Row_text, d_Row_turns, d_Row_places, d_Row_counts, d_Row_totals, d_Row_table, d_Row_turned, d_Row_handed, d_Row_need_like, d_Row___xor__, d_Row___len__, d__law_bag, d__law_pull, d__law_same, d__law_choose, d__law_turns, d__law_hands, d__law_table, d__law_totals, d__law_digits, d__law_within, d_law, d_InvalidHands___init__]
def fn1 : List Hx.DefX := [d_InvalidHand___init__, d_InvalidTurn___init__, d_InvalidNumber___init__, d_InvalidWorths___init__, d_InvalidChange___init__, d_Unlike___init__, d_TooLong___init__]
def fn : List Hx.DefX := fn0 ++ fn1
def fx0 : List (PySem.W.Frag → Bool) := [Hx.fGlo "PickError", Hx.fGlo "InvalidHands", Hx.fGlo "InvalidHand", Hx.fGlo "InvalidTurn", Hx.fGlo "InvalidNumber", Hx.fGlo "InvalidWorths", Hx.fGlo "InvalidChange", Hx.fGlo "Unlike", Hx.fGlo "TooLong", Hx.fGlo "is_number", Hx.fGlo "are_numbers", Hx.fInt "MOST_TURNS" 2000, Hx.fInt "MOST_TABLE" 40, Hx.fStr "DIGITS" "0123", Hx.fGlo "check_hands", Hx.fGlo "check_hand", Hx.fGlo "check_most", Hx.fGlo "is_change", Hx.fGlo "Row", Hx.fGlo "_law_bag", Hx.fGlo "_law_pull", Hx.fGlo "_law_same", Hx.fGlo "_law_choose", Hx.fGlo "_law_turns", Hx.fGlo "_law_hands", Hx.fGlo "_law_table", Hx.fGlo "_law_totals", Hx.fGlo "_law_digits", Hx.fGlo "_law_within", Hx.fGlo "law"]
def fx1 : List (PySem.W.Frag → Bool) := [Hx.fFree "isinstance", Hx.fFree "int", Hx.fFree "bool", Hx.fFree "str", Hx.fFree "list", Hx.fFree "tuple", Hx.fFree "len", Hx.fFree "range", Hx.fFree "zip", Hx.fFree "enumerate", Hx.fFree "sum", Hx.fFree "all", Hx.fFree "set", Hx.fFree "super", Hx.fErr "InvalidHands", Hx.fErr "InvalidHand", Hx.fErr "InvalidTurn", Hx.fErr "InvalidNumber", Hx.fErr "InvalidWorths", Hx.fErr "InvalidChange", Hx.fErr "Unlike", Hx.fErr "TooLong", Hx.fCls "Row", Hx.fMkr "Row", Hx.fNoat "Row" "hands", Hx.fNoat "Row" "own_turns", Hx.fProp "Row" "text", Hx.fMeth "Row" "turns", Hx.fMeth "Row" "places", Hx.fMeth "Row" "counts"]
def fx2 : List (PySem.W.Frag → Bool) := [Hx.fMeth "Row" "totals", Hx.fMeth "Row" "table", Hx.fMeth "Row" "turned", Hx.fMeth "Row" "handed", Hx.fMeth "Row" "need_like", Hx.fOwn "Row" "__xor__", Hx.fOwn "Row" "__len__", Hx.fTab "law"]
def fx : List (PySem.W.Frag → Bool) := fx0 ++ fx1 ++ fx2
def names0 : List PySem.Str := [("_wall" : PySem.Str), ("PickError" : PySem.Str), ("InvalidHands" : PySem.Str), ("InvalidHand" : PySem.Str), ("InvalidTurn" : PySem.Str), ("InvalidNumber" : PySem.Str), ("InvalidWorths" : PySem.Str), ("InvalidChange" : PySem.Str), ("Unlike" : PySem.Str), ("TooLong" : PySem.Str), ("is_number" : PySem.Str), ("are_numbers" : PySem.Str), ("MOST_TURNS" : PySem.Str), ("MOST_TABLE" : PySem.Str), ("DIGITS" : PySem.Str), ("check_hands" : PySem.Str), ("check_hand" : PySem.Str), ("check_most" : PySem.Str), ("is_change" : PySem.Str), ("Row" : PySem.Str), ("_law_bag" : PySem.Str), ("_law_pull" : PySem.Str), ("_law_same" : PySem.Str), ("_law_choose" : PySem.Str), ("_law_turns" : PySem.Str), ("_law_hands" : PySem.Str), ("_law_table" : PySem.Str), ("_law_totals" : PySem.Str), ("_law_digits" : PySem.Str), ("_law_within" : PySem.Str)]
def names : List PySem.Str := names0
abbrev R : PySem.W.OpenRow := PySem.W.OpenLaw.row PySem.Challenge.rw_evenpicks_k14_rows_that_never_change
def as0 : List Addr := [3, 2, 6, 4, 21, 31, 53, 74, 95, 116, 137, 158, 179, 200, 209, 214, 221, 228, 235, 242, 397, 406, 413, 418, 425, 430, 437, 442, 449, 454, 459, 464, 0, 20, 30, 52, 73, 94, 115, 136, 157, 178, 199, 208, 213, 220, 227, 234, 241, 396, 405, 412, 417, 424, 429, 436, 441, 448, 453, 458]
def as1 : List Addr := [463, 15, 17, 18, 19, 29, 32, 50, 51, 71, 72, 92, 93, 113, 114, 134, 135, 155, 156, 176, 177, 197, 198, 203, 205, 206, 207, 210, 212, 215, 217, 218, 219, 222, 224, 225, 226, 229, 231, 232, 233, 236, 238, 239, 240, 256, 264, 271, 278, 283, 288, 295, 300, 305, 312, 319, 326, 333, 340, 347]
def as2 : List Addr := [352, 359, 366, 373, 380, 387, 394, 395, 398, 399, 402, 404, 407, 409, 410, 411, 414, 416, 419, 421, 422, 423, 426, 428, 431, 433, 434, 435, 438, 440, 443, 445, 446, 447, 450, 452, 455, 457, 460, 462, 49, 38, 70, 59, 91, 80, 112, 101, 133, 122, 154, 143, 175, 164, 196, 185, 255, 262, 263, 270]
def as3 : List Addr := [277, 282, 287, 294, 299, 304, 311, 318, 325, 332, 339, 346, 351, 358, 365, 372, 379, 386, 393, 44, 46, 47, 48, 65, 67, 68, 69, 86, 88, 89, 90, 107, 109, 110, 111, 128, 130, 131, 132, 149, 151, 152, 153, 170, 172, 173, 174, 191, 193, 194, 195, 250, 252, 253, 254, 261, 257, 265, 269, 272]
def as4 : List Addr := [274, 275, 276, 279, 281, 284, 286, 289, 291, 292, 293, 296, 298, 301, 303, 306, 308, 309, 310, 313, 315, 316, 317, 320, 322, 323, 324, 327, 329, 330, 331, 334, 336, 337, 338, 341, 343, 344, 345, 348, 350, 353, 355, 356, 357, 360, 362, 363, 364, 367, 369, 370, 371, 374, 376, 377, 378, 381, 383, 384]
def as5 : List Addr := [385, 388, 390, 391, 392]
def asl : List Addr := as0 ++ (as1 ++ (as2 ++ (as3 ++ (as4 ++ (as5)))))
abbrev hk : PySem.W.Hook := Hx.hookX (fun _ => asl) fx fn
def ob (s : PySem.W.SharedT) : He.AlD := Hx.obsXG (fun _ => asl) fx fn (HandSHeadRun.getT s)
theorem ob_eq (s : PySem.W.SharedT) : ob s = hk.obs s.abs := Hx.obsXG_eq (HandSHeadRun.getT_eq s)
theorem run (w : World) : HandSHeadRun.RunEq R (PySem.W.view R.prog [34]) hk ob 9700 names w := by
  intro os
  kernel_rfl
end Hd
set_option maxHeartbeats 4000000
namespace DL
open PySem PySem.Spec L2
/-- a lambda of the text: what its making is given; its defaults (whole numbers) -/
structure LamQ where
  qual : Str
  params : Arguments
  body : Expr
  scope : Scope
  dfl : List Int
/-- the tables of code objects that lambdas are entered into; the lambdas of the text -/
class TbC where
  ts : List (Addr × Str)
  lq : Nat → LamQ
inductive D where
  | non | bl (b : Bool) | int (i : Int) | str (s : Str) | ty (n : String) | adr (a : Addr) | bag
  | fn (i : Nat) (cl : List (Str × Addr)) (z : Option (Option Addr × Hp))
  | lst (xs : List D) | tup (xs : List D) | obj (C : Addr) (ks : List Str) (xs : List D) | exc (a dx C : Addr) (ks : List Str) (xs : List D)
  | dct (ks : List Key) (xs : List D) | dcT (ks : List (List Key)) (xs : List D)
variable [TbC]
/-- a lambda's function object at f -/
def LamO (f : Addr) (i : Nat) (cl : List (Str × Addr)) (dV : Value) (c' : Addr) : HO := .ext fun h => ∃ doc pm ctv : Value,
  h.get? f = some (PySem.W.kdv_obj "<lambda>" (TbC.lq i).qual (TbC.lq i).params (.expr (TbC.lq i).body) (TbC.lq i).scope (L2.cloFrom cl (TbC.lq i).scope.names []) dV doc pm c' ctv)
def DfOk (S : Hp) (dV : Value) (ns : List Int) : Prop := (ns = [] ∧ dV = .none) ∨ ns ≠ [] ∧ ∃ t, dV = .ref t ∧ S t = some (.tup (ns.map V.int))
theorem DfOk.mono {S S' : Hp} {dV : Value} {ns : List Int} (h : Same S S') (d : DfOk S dV ns) : DfOk S' dV ns := d.imp id fun ⟨n, t, e, q⟩ => ⟨n, t, e, h _ _ q⟩
mutual
def Rep (B : Option Addr) (S : Hp) : D → V → Prop
  | .non, v => v = .non
  | .bl b, v => v = .bl b
  | .int i, v => v = .int i
  | .str s, v => v = .str s
  | .ty n, v => v = .ty n
  | .adr a, v => v = .ref a
  | .bag, v => ∃ b, B = some b ∧ v = .ref b
  | .fn i cl z, v => ∃ f dV c', v = .ref f ∧ S f = some (LamO f i cl dV c') ∧ S c' = some (LamX.CodeO c' (TbC.lq i).qual) ∧ DfOk S dV (TbC.lq i).dfl ∧ ∀ q, z = some q → B = q.1 ∧ Same q.2 S
  | .lst ds, v => ∃ a vs, v = .ref a ∧ S a = some (.lst vs) ∧ RepL B S ds vs
  | .tup ds, v => ∃ a vs, v = .ref a ∧ S a = some (.tup vs) ∧ RepL B S ds vs
  | .obj C ks ds, v => ∃ a dx vs, v = .ref a ∧ S a = some (.ins C dx (ks.zip vs)) ∧ S dx = some (.own a) ∧ ds.length = ks.length ∧ RepL B S ds vs
  | .exc a dx C ks ds, v => ∃ vs, v = .ref a ∧ S dx = some (.xd (ks.zip vs)) ∧ ds.length = ks.length ∧ RepL B S ds vs
  | .dct ks ds, v => ∃ a vs, v = .ref a ∧ S a = some (.dK (ks.zip vs)) ∧ ds.length = ks.length ∧ RepL B S ds vs
  | .dcT ks ds, v => ∃ a vs, v = .ref a ∧ S a = some (.dT (ks.zip vs)) ∧ ds.length = ks.length ∧ RepL B S ds vs
def RepL (B : Option Addr) (S : Hp) : List D → List V → Prop
  | [], vs => vs = []
  | d :: ds, vs => ∃ v ws, vs = v :: ws ∧ Rep B S d v ∧ RepL B S ds ws
end
mutual
theorem rep_mono {B : Option Addr} {S S' : Hp} (h : Same S S') : ∀ (d : D) (v : V), Rep B S d v → Rep B S' d v
  | .non, _, r => r
  | .bl _, _, r => r
  | .int _, _, r => r
  | .str _, _, r => r
  | .ty _, _, r => r
  | .adr _, _, r => r
  | .bag, _, r => r
  | .fn i cl z, v, r => by
    rw [Rep] at r ⊢
    obtain ⟨f, dV, c', e, q, q2, df, n⟩ := r
    exact ⟨f, dV, c', e, h _ _ q, h _ _ q2, df.mono h, fun y hy => ⟨(n y hy).1, (n y hy).2.trans h⟩⟩
  | .lst ds, v, r => by
    rw [Rep] at r ⊢
    obtain ⟨a, vs, e, q, l⟩ := r
    exact ⟨a, vs, e, h _ _ q, repL_mono h ds vs l⟩
  | .tup ds, v, r => by
    rw [Rep] at r ⊢
    obtain ⟨a, vs, e, q, l⟩ := r
    exact ⟨a, vs, e, h _ _ q, repL_mono h ds vs l⟩
  | .obj C ks ds, v, r => by
    rw [Rep] at r ⊢
    obtain ⟨a, dx, vs, e, q, q2, n, l⟩ := r
    exact ⟨a, dx, vs, e, h _ _ q, h _ _ q2, n, repL_mono h ds vs l⟩
  | .exc a dx C ks ds, v, r => by
    rw [Rep] at r ⊢
    obtain ⟨vs, e, q, n, l⟩ := r
    exact ⟨vs, e, h _ _ q, n, repL_mono h ds vs l⟩
  | .dct ks ds, v, r => by
    rw [Rep] at r ⊢
    obtain ⟨a, vs, e, q, n, l⟩ := r
    exact ⟨a, vs, e, h _ _ q, n, repL_mono h ds vs l⟩
  | .dcT ks ds, v, r => by
    rw [Rep] at r ⊢
    obtain ⟨a, vs, e, q, n, l⟩ := r
    exact ⟨a, vs, e, h _ _ q, n, repL_mono h ds vs l⟩
theorem repL_mono {B : Option Addr} {S S' : Hp} (h : Same S S') : ∀ (ds : List D) (vs : List V), RepL B S ds vs → RepL B S' ds vs
  | [], _, r => r
  | d :: ds, vs, r => by
    rw [RepL] at r ⊢
    obtain ⟨v, ws, e, q, l⟩ := r
    exact ⟨v, ws, e, rep_mono h d v q, repL_mono h ds ws l⟩
end
section
variable {B : Option Addr} {S S' : Hp} {d : D} {ds es : List D} {v : V} {vs ws : List V}
theorem repL_nil : RepL B S [] [] := rfl
theorem repL_cons (h : Rep B S d v) (t : RepL B S ds vs) : RepL B S (d :: ds) (v :: vs) := ⟨v, vs, rfl, h, t⟩
theorem repL_nil_of (h : RepL B S [] vs) : vs = [] := h
theorem repL_cons_of (h : RepL B S (d :: ds) vs) : ∃ v ws, vs = v :: ws ∧ Rep B S d v ∧ RepL B S ds ws := h
theorem RepL.length : ∀ {ds : List D} {vs : List V}, RepL B S ds vs → vs.length = ds.length
  | [], vs, h => by rw [repL_nil_of h]; rfl
  | d :: ds, vs, h => by
    obtain ⟨v, ws, rfl, _, t⟩ := repL_cons_of h
    rw [List.length_cons, List.length_cons, RepL.length t]
theorem RepL.app : ∀ {ds : List D} {vs : List V}, RepL B S ds vs → RepL B S es ws → RepL B S (ds ++ es) (vs ++ ws)
  | [], vs, h, k => by rw [repL_nil_of h]; exact k
  | d :: ds, vs, h, k => by
    obtain ⟨v, us, rfl, r, t⟩ := repL_cons_of h
    exact repL_cons r (RepL.app t k)
theorem RepL.get : ∀ {ds : List D} {vs : List V} {i : Nat} {d : D}, RepL B S ds vs → ds[i]? = some d → ∃ v, vs[i]? = some v ∧ Rep B S d v
  | [], _, _, _, _, e => by simp at e
  | d :: ds, vs, 0, _, h, e => by
    obtain ⟨v, ws, rfl, r, t⟩ := repL_cons_of h
    simp at e
    subst e
    exact ⟨v, rfl, r⟩
  | d :: ds, vs, i + 1, _, h, e => by
    obtain ⟨v, ws, rfl, r, t⟩ := repL_cons_of h
    obtain ⟨u, q, r2⟩ := RepL.get (i := i) t (by simpa using e)
    exact ⟨u, by simpa using q, r2⟩
theorem RepL.set : ∀ {ds : List D} {vs : List V} (i : Nat), RepL B S ds vs → Rep B S d v → RepL B S (ds.set i d) (vs.set i v)
  | [], vs, i, h, r => by rw [repL_nil_of h]; exact repL_nil
  | d :: ds, vs, 0, h, r => by
    obtain ⟨u, ws, rfl, r1, t⟩ := repL_cons_of h
    exact repL_cons r t
  | d :: ds, vs, i + 1, h, r => by
    obtain ⟨u, ws, rfl, r1, t⟩ := repL_cons_of h
    exact repL_cons r1 (RepL.set i t r)
theorem RepL.take : ∀ {ds : List D} {vs : List V} (i : Nat), RepL B S ds vs → RepL B S (ds.take i) (vs.take i)
  | _, _, 0, _ => by simpa using repL_nil
  | [], vs, i + 1, h => by rw [repL_nil_of h]; exact repL_nil
  | d :: ds, vs, i + 1, h => by
    obtain ⟨u, ws, rfl, r1, t⟩ := repL_cons_of h
    exact repL_cons r1 (RepL.take i t)
theorem RepL.drop : ∀ {ds : List D} {vs : List V} (i : Nat), RepL B S ds vs → RepL B S (ds.drop i) (vs.drop i)
  | _, _, 0, h => h
  | [], vs, i + 1, h => by rw [repL_nil_of h]; exact repL_nil
  | d :: ds, vs, i + 1, h => by
    obtain ⟨u, ws, rfl, r1, t⟩ := repL_cons_of h
    exact RepL.drop i t
theorem RepL.rev (h : RepL B S ds vs) : RepL B S ds.reverse vs.reverse := by
  induction ds generalizing vs with
  | nil => rw [repL_nil_of h]; exact repL_nil
  | cons d ds ih =>
    obtain ⟨u, ws, rfl, r1, t⟩ := repL_cons_of h
    rw [List.reverse_cons, List.reverse_cons]
    exact (ih t).app (repL_cons r1 repL_nil)
theorem RepL.rep (h : RepL B S ds vs) : ∀ k : Nat, RepL B S (List.replicate k ds).flatten (List.replicate k vs).flatten
  | 0 => repL_nil
  | k + 1 => by
    rw [List.replicate_succ, List.replicate_succ, List.flatten_cons, List.flatten_cons]
    exact h.app (RepL.rep h k)
theorem RepL.ints {ns : List Int} : ∀ {vs : List V}, RepL B S (ns.map D.int) vs → vs = ns.map V.int := by
  induction ns with
  | nil => intro vs h; exact repL_nil_of h
  | cons n ns ih =>
    intro vs h
    obtain ⟨u, ws, rfl, r1, t⟩ := repL_cons_of h
    rw [ih t, show u = V.int n from r1]
    rfl
end
structure Fm where
  B : Option Addr
  C : Addr
  H0 : Hp
  S0 : Hp
/-- the law's bag: its cells, the next one, what is left of a great cell, the mixed number, the number of draws -/
def BagAt (b ca : Addr) (S H : Hp) : Prop := S b = none ∧ ∃ (cs : List Int) (i g st n : Int), H b = some (.lst [.ref ca, .int i, .int g, .int st, .int n]) ∧ S ca = some (.lst (cs.map V.int)) ∧ 0 ≤ i ∧ 0 ≤ g ∧ 0 ≤ st ∧ st < 2147483549
/-- the tables of code objects as they stand -/
def TabAll (S H : Hp) : Prop := ∀ p ∈ TbC.ts, LamX.TabS H p.1 p.2 ∧ S p.1 = none
/-- what may change though others know it: the bag, the tables -/
def Ex (B : Option Addr) (a : Addr) : Prop := B = some a ∨ ∃ p ∈ TbC.ts, p.1 = a
/-- a code object, a lambda's function object: they stay -/
def Fx (o : HO) : Prop := (∃ c q, o = LamX.CodeO c q) ∨ ∃ f i cl dV c', o = LamO f i cl dV c'
theorem fx_not {o : HO} (h : ∀ φ, o ≠ .ext φ) : ¬ Fx o := fun z => by
  rcases z with ⟨c, q, z⟩ | ⟨f, i, cl, dV, c', z⟩
  · exact h _ z
  · exact h _ z
/-- an object that may change -/
def Mu (x : Option HO) : Prop := x ≠ none ∧ ∀ o, x = some o → ¬ Fx o
theorem mu_ofF {x : Option HO} {o : HO} (e : x = some o) (h : ¬ Fx o) : Mu x := ⟨(by rw [e]; exact fun z => nomatch z), fun u z y => h (by rw [e] at z; cases z; exact y)⟩
theorem mu_of {x : Option HO} {o : HO} (e : x = some o) (h : ∀ φ, o ≠ .ext φ) : Mu x := mu_ofF e (fx_not h)
theorem mu_lst {x : Option HO} {vs : List V} (e : x = some (.lst vs)) : Mu x := mu_of e fun _ z => nomatch z
structure Kf (c : Fm) (H S : Hp) : Prop where
  sub : Same S H
  s0 : Same c.S0 S
  old : ∀ a o, c.H0 a = some o → ¬ Ex c.B a → H a = some o
  new : ∀ a, c.S0 a = none → Mu (c.H0 a) → S a = none
  bag : ∀ b, c.B = some b → BagAt b c.C S H ∧ c.H0 b ≠ none
  tab : TabAll S H ∧ ∀ p ∈ TbC.ts, c.H0 p.1 ≠ none
/-- what a name holds: data, or a list of its own that may change -/
inductive T where
  | dat (d : D)
  | lst (ts : List T)
  | tup (ts : List T)
  | obj (C : Addr) (ks : List Str) (ts : List T)
inductive DV where
  | val (d : D)
  | own (ds : List D)
  | tre (t : T) (as : List Addr)
abbrev En := List (Option DV)
mutual
/-- a tree of lists and objects that stand for nobody else, at the addresses as; its leaves stay as they are -/
def RepT (B : Option Addr) (S H : Hp) : T → V → List Addr → Prop
  | .dat d, v, as => Rep B S d v ∧ as = []
  | .lst ts, v, as => ∃ a vs bs, v = .ref a ∧ H a = some (.lst vs) ∧ RepTL B S H ts vs bs ∧ as = a :: bs
  | .tup ts, v, as => ∃ a vs, v = .ref a ∧ S a = some (.tup vs) ∧ RepTL B S H ts vs as
  | .obj C ks ts, v, as => ∃ a dx vs bs, v = .ref a ∧ H a = some (.ins C dx (ks.zip vs)) ∧ H dx = some (.own a) ∧ ts.length = ks.length ∧ RepTL B S H ts vs bs ∧ as = a :: dx :: bs
def RepTL (B : Option Addr) (S H : Hp) : List T → List V → List Addr → Prop
  | [], vs, as => vs = [] ∧ as = []
  | t :: ts, vs, as => ∃ v ws bs cs, vs = v :: ws ∧ RepT B S H t v bs ∧ RepTL B S H ts ws cs ∧ as = bs ++ cs
end
mutual
theorem repT_mono {B : Option Addr} {S S' H H' : Hp} (h : Same S S') : ∀ (t : T) (v : V) (as : List Addr), (∀ a ∈ as, ∀ o, H a = some o → H' a = some o) → RepT B S H t v as → RepT B S' H' t v as
  | .dat d, v, as, _, r => by
    rw [RepT] at r ⊢
    exact ⟨rep_mono h d v r.1, r.2⟩
  | .lst ts, v, as, q, r => by
    rw [RepT] at r ⊢
    obtain ⟨a, vs, bs, e, e2, l, rfl⟩ := r
    exact ⟨a, vs, bs, e, q a (List.mem_cons_self ..) _ e2, repTL_mono h ts vs bs (fun b hb => q b (List.mem_cons_of_mem _ hb)) l, rfl⟩
  | .tup ts, v, as, q, r => by
    rw [RepT] at r ⊢
    obtain ⟨a, vs, e, e2, l⟩ := r
    exact ⟨a, vs, e, h _ _ e2, repTL_mono h ts vs as q l⟩
  | .obj C ks ts, v, as, q, r => by
    rw [RepT] at r ⊢
    obtain ⟨a, dx, vs, bs, e, e2, e3, n, l, rfl⟩ := r
    exact ⟨a, dx, vs, bs, e, q a (List.mem_cons_self ..) _ e2, q dx (List.mem_cons_of_mem _ (List.mem_cons_self ..)) _ e3, n, repTL_mono h ts vs bs (fun b hb => q b (List.mem_cons_of_mem _ (List.mem_cons_of_mem _ hb))) l, rfl⟩
theorem repTL_mono {B : Option Addr} {S S' H H' : Hp} (h : Same S S') : ∀ (ts : List T) (vs : List V) (as : List Addr), (∀ a ∈ as, ∀ o, H a = some o → H' a = some o) → RepTL B S H ts vs as → RepTL B S' H' ts vs as
  | [], _, _, _, r => r
  | t :: ts, vs, as, q, r => by
    rw [RepTL] at r ⊢
    obtain ⟨v, ws, bs, cs, e, r1, r2, rfl⟩ := r
    exact ⟨v, ws, bs, cs, e, repT_mono h t v bs (fun b hb => q b (List.mem_append_left _ hb)) r1, repTL_mono h ts ws cs (fun b hb => q b (List.mem_append_right _ hb)) r2, rfl⟩
end
mutual
theorem RepT.mu {B : Option Addr} {S H : Hp} : ∀ {t : T} {v : V} {as : List Addr}, RepT B S H t v as → ∀ a ∈ as, Mu (H a)
  | .dat d, v, as, r, a, m => by
    rw [RepT] at r
    rw [r.2] at m
    cases m
  | .lst ts, v, as, r, a, m => by
    rw [RepT] at r
    obtain ⟨a0, vs, bs, e, e2, l, rfl⟩ := r
    rcases List.mem_cons.mp m with rfl | m
    · exact mu_lst e2
    · exact RepTL.mu l a m
  | .tup ts, v, as, r, a, m => by
    rw [RepT] at r
    obtain ⟨a0, vs, e, e2, l⟩ := r
    exact RepTL.mu l a m
  | .obj C ks ts, v, as, r, a, m => by
    rw [RepT] at r
    obtain ⟨a0, dx, vs, bs, e, e2, e3, n, l, rfl⟩ := r
    rcases List.mem_cons.mp m with rfl | m
    · exact mu_of e2 fun _ z => nomatch z
    rcases List.mem_cons.mp m with rfl | m
    · exact mu_of e3 fun _ z => nomatch z
    · exact RepTL.mu l a m
theorem RepTL.mu {B : Option Addr} {S H : Hp} : ∀ {ts : List T} {vs : List V} {as : List Addr}, RepTL B S H ts vs as → ∀ a ∈ as, Mu (H a)
  | [], _, _, r, a, m => by
    rw [RepTL] at r
    rw [r.2] at m
    cases m
  | t :: ts, vs, as, r, a, m => by
    rw [RepTL] at r
    obtain ⟨v, ws, bs, cs, e, r1, r2, rfl⟩ := r
    rcases List.mem_append.mp m with m | m
    · exact RepT.mu r1 a m
    · exact RepTL.mu r2 a m
end
mutual
/-- a tree looked at as a value -/
def T.d : T → D
  | .dat d => d
  | .lst ts => .lst (T.ds ts)
  | .tup ts => .tup (T.ds ts)
  | .obj C ks ts => .obj C ks (T.ds ts)
def T.ds : List T → List D
  | [] => []
  | t :: ts => t.d :: T.ds ts
end
theorem T.ds_length : ∀ {ts : List T}, (T.ds ts).length = ts.length
  | [] => rfl
  | t :: ts => by rw [T.ds, List.length_cons, List.length_cons, T.ds_length]
mutual
theorem rep_tree {B : Option Addr} {S S' H : Hp} (s : Same S S') : ∀ (t : T) (v : V) (as : List Addr), (∀ a ∈ as, S' a = H a) → RepT B S H t v as → Rep B S' t.d v
  | .dat d, v, as, _, r => by
    rw [RepT] at r
    exact rep_mono s d v r.1
  | .lst ts, v, as, q, r => by
    rw [RepT] at r
    obtain ⟨a, vs, bs, e, e2, l, rfl⟩ := r
    rw [T.d, Rep]
    exact ⟨a, vs, e, (q a (List.mem_cons_self ..)).trans e2, repL_tree s ts vs bs (fun b hb => q b (List.mem_cons_of_mem _ hb)) l⟩
  | .tup ts, v, as, q, r => by
    rw [RepT] at r
    obtain ⟨a, vs, e, e2, l⟩ := r
    rw [T.d, Rep]
    exact ⟨a, vs, e, s _ _ e2, repL_tree s ts vs as q l⟩
  | .obj C ks ts, v, as, q, r => by
    rw [RepT] at r
    obtain ⟨a, dx, vs, bs, e, e2, e3, n, l, rfl⟩ := r
    rw [T.d, Rep]
    exact ⟨a, dx, vs, e, (q a (List.mem_cons_self ..)).trans e2, (q dx (List.mem_cons_of_mem _ (List.mem_cons_self ..))).trans e3, by rw [T.ds_length]; exact n, repL_tree s ts vs bs (fun b hb => q b (List.mem_cons_of_mem _ (List.mem_cons_of_mem _ hb))) l⟩
theorem repL_tree {B : Option Addr} {S S' H : Hp} (s : Same S S') : ∀ (ts : List T) (vs : List V) (as : List Addr), (∀ a ∈ as, S' a = H a) → RepTL B S H ts vs as → RepL B S' (T.ds ts) vs
  | [], _, _, _, r => by
    rw [RepTL] at r
    rw [r.1]
    exact repL_nil
  | t :: ts, vs, as, q, r => by
    rw [RepTL] at r
    obtain ⟨v, ws, bs, cs, rfl, r1, r2, rfl⟩ := r
    rw [T.ds]
    exact repL_cons (rep_tree s t v bs (fun b hb => q b (List.mem_append_left _ hb)) r1) (repL_tree s ts ws cs (fun b hb => q b (List.mem_append_right _ hb)) r2)
end
mutual
/-- a value whose lists are all its own -/
def D.tr : D → T
  | .lst xs => .lst (D.trs xs)
  | .tup xs => .tup (D.trs xs)
  | .non => .dat .non | .bl b => .dat (.bl b) | .int i => .dat (.int i) | .str s => .dat (.str s) | .ty n => .dat (.ty n) | .adr a => .dat (.adr a) | .bag => .dat .bag
  | .fn i cl z => .dat (.fn i cl z) | .obj C ks xs => .dat (.obj C ks xs) | .exc a dx C ks xs => .dat (.exc a dx C ks xs) | .dct ks xs => .dat (.dct ks xs) | .dcT ks xs => .dat (.dcT ks xs)
def D.trs : List D → List T
  | [] => []
  | d :: ds => d.tr :: D.trs ds
end
mutual
theorem tr_d : ∀ d : D, d.tr.d = d
  | .lst xs => by rw [D.tr, T.d, trs_ds xs]
  | .tup xs => by rw [D.tr, T.d, trs_ds xs]
  | .non | .bl _ | .int _ | .str _ | .ty _ | .adr _ | .bag | .fn _ _ _ | .obj _ _ _ | .exc _ _ _ _ _ | .dct _ _ | .dcT _ _ => by rw [D.tr, T.d]
theorem trs_ds : ∀ ds : List D, T.ds (D.trs ds) = ds
  | [] => rfl
  | d :: ds => by rw [D.trs, T.ds, tr_d d, trs_ds ds]
end
theorem trs_length : ∀ ds : List D, (D.trs ds).length = ds.length
  | [] => rfl
  | d :: ds => by rw [D.trs, List.length_cons, List.length_cons, trs_length ds]
theorem trs_app : ∀ xs ys : List D, D.trs (xs ++ ys) = D.trs xs ++ D.trs ys
  | [], ys => rfl
  | x :: xs, ys => by rw [List.cons_append, D.trs, D.trs, trs_app xs ys, List.cons_append]
theorem trs_map (ds : List D) : D.trs ds = ds.map D.tr := by
  induction ds with
  | nil => rfl
  | cons d ds ih => rw [D.trs, ih, List.map_cons]
def DvR (c : Fm) (S H : Hp) : DV → V → Prop
  | .val d, v => Rep c.B S d v
  | .own ds, v => ∃ p vs, v = .ref p ∧ S p = none ∧ c.H0 p = none ∧ H p = some (.lst vs) ∧ RepL c.B S ds vs
  | .tre t as, v => RepT c.B S H t v as ∧ as.Nodup ∧ ∀ a ∈ as, S a = none ∧ c.H0 a = none
/-- what a name holds for itself -/
def Foot : DV → V → Addr → Prop
  | .val _, _, _ => False
  | .own _, v, a => v = .ref a
  | .tre _ as, _, a => a ∈ as
theorem DvR.foot {c : Fm} {S H : Hp} : ∀ {x : DV} {v : V}, DvR c S H x v → ∀ a, Foot x v a → S a = none ∧ c.H0 a = none ∧ Mu (H a)
  | .val _, _, _, _, f => f.elim
  | .own ds, v, r, a, f => by
    obtain ⟨p, vs, e, h1, h2, h3, _⟩ := r
    have f : v = .ref a := f
    rw [e] at f
    cases f
    exact ⟨h1, h2, mu_lst h3⟩
  | .tre t as, v, r, a, f => ⟨(r.2.2 a f).1, (r.2.2 a f).2, r.1.mu a f⟩
/-- what is told of a name stays, if the frozen things grow and what the name holds for itself is as it was -/
theorem DvR.keep {c c' : Fm} {S S' H H' : Hp} (hB : c'.B = c.B) (hs : Same S S') : ∀ {x : DV} {v : V}, DvR c S H x v → (∀ a, Foot x v a → S' a = none ∧ c'.H0 a = none ∧ ∀ o, H a = some o → H' a = some o) → DvR c' S' H' x v
  | .val d, v, r, _ => by
    show Rep c'.B S' d v
    rw [hB]
    exact rep_mono hs d v r
  | .own ds, v, r, q => by
    obtain ⟨p, vs, rfl, h1, h2, h3, h4⟩ := r
    obtain ⟨q1, q2, q3⟩ := q p rfl
    refine ⟨p, vs, rfl, q1, q2, q3 _ h3, ?_⟩
    rw [hB]
    exact repL_mono hs ds vs h4
  | .tre t as, v, r, q => by
    obtain ⟨h1, h2, h3⟩ := r
    refine ⟨?_, h2, fun a m => ⟨(q a m).1, (q a m).2.1⟩⟩
    rw [hB]
    exact repT_mono hs t v as (fun a m => (q a m).2.2) h1
structure Kn (c : Fm) (σ : St) (H S : Hp) (env : En) : Prop where
  kf : Kf c H S
  len : env.length = σ.length
  sl : ∀ (i : Nat) (x : DV), env[i]? = some (some x) → ∃ v, σ[i]? = some (some v) ∧ DvR c S H x v
  apart : ∀ (i j : Nat) (x y : DV) (v u : V) (a : Addr), i ≠ j → env[i]? = some (some x) → env[j]? = some (some y) → σ[i]? = some (some v) → σ[j]? = some (some u) → Foot x v a → ¬ Foot y u a
section
variable {c : Fm} {σ : St} {H H' S S' : Hp} {env : En} {a p : Addr} {o : HO}
/-- an object that is no table and no code object may change -/
theorem TabAll.of (t : TabAll S H) (hH : ∀ a o, H a = some o → ((∃ ps, o = .tbl ps) ∨ Fx o) → H' a = some o) (hn : ∀ p ∈ TbC.ts, S p.1 = none → S' p.1 = none) : TabAll S' H' := fun p hp => by
  obtain ⟨⟨ps, h1, h2, h3⟩, h4⟩ := t p hp
  refine ⟨⟨ps, hH _ _ h1 (.inl ⟨_, rfl⟩), h2, fun pos cv hc => ?_⟩, hn p hp h4⟩
  obtain ⟨c1, e1, e2⟩ := h3 pos cv hc
  exact ⟨c1, e1, hH _ _ e2 (.inr (.inl ⟨_, _, rfl⟩))⟩
theorem TabAll.ne (t : TabAll S H) {p : Addr × Str} (hp : p ∈ TbC.ts) : H p.1 ≠ none := fun z => by
  obtain ⟨⟨ps, h1, _⟩, _⟩ := t p hp
  rw [z] at h1
  cases h1
theorem TabAll.same (t : TabAll S H) (hH : Same H H') (hn : ∀ a, S a = none → Mu (H a) → S' a = none) : TabAll S' H' :=
  t.of (fun a o e _ => hH a o e) fun p hp e => hn _ e (by
    obtain ⟨⟨ps, h1, _⟩, _⟩ := t p hp
    exact mu_of h1 fun _ z => nomatch z)
/-- a list (or anything else that is no table, no code object) at p is told anew -/
theorem TabAll.updHF {u : HO} (t : TabAll S H) (hp : ∀ v, H p = some v → (∀ ps, v ≠ .tbl ps) ∧ ¬ Fx v) (hn : ∀ q ∈ TbC.ts, S q.1 = none → S' q.1 = none) : TabAll S' (upd H p u) :=
  t.of (fun a o e ty => by
    by_cases z : a = p
    · subst z
      obtain ⟨n1, n2⟩ := hp _ e
      rcases ty with ⟨ps, y⟩ | y
      · exact (n1 ps y).elim
      · exact (n2 y).elim
    · rw [upd_ne z]
      exact e) hn
theorem TabAll.updH {u : HO} (t : TabAll S H) (hp : ∀ v, H p = some v → (∀ ps, v ≠ .tbl ps) ∧ ∀ φ, v ≠ .ext φ) (hn : ∀ q ∈ TbC.ts, S q.1 = none → S' q.1 = none) : TabAll S' (upd H p u) := t.updHF (fun v e => ⟨(hp v e).1, fx_not (hp v e).2⟩) hn
theorem lst_ne {vs : List V} : (∀ ps, HO.lst vs ≠ .tbl ps) ∧ ∀ φ, HO.lst vs ≠ .ext φ := ⟨fun ps z => (nomatch z), fun φ z => (nomatch z)⟩
theorem TabAll.lst {vs : List V} {u : HO} (t : TabAll S H) (h : H p = some (.lst vs)) : TabAll S (upd H p u) := t.updH (fun v e => by rw [h] at e; cases e; exact lst_ne) fun _ _ e => e
theorem TabAll.not {vs : List V} (t : TabAll S H) (h : H p = some (.lst vs)) {q : Addr × Str} (hq : q ∈ TbC.ts) : q.1 ≠ p := fun z => by
  obtain ⟨⟨ps, h1, _⟩, _⟩ := t q hq
  rw [z, h] at h1
  cases h1
theorem TabAll.frz {vs : List V} {u : HO} (t : TabAll S H) (h : H p = some (.lst vs)) : TabAll (upd S p u) H := fun q hq => ⟨(t q hq).1, by rw [upd_ne (t.not h hq)]; exact (t q hq).2⟩
theorem Kf.b_ne (k : Kf c H S) (h : H p = none) : c.B ≠ some p := fun e => by
  obtain ⟨⟨_, cs, i, g, st, n, q, _⟩, _⟩ := k.bag p e
  rw [h] at q
  cases q
theorem Kf.x_ne (k : Kf c H S) (h : H p = none) : ¬ Ex c.B p := fun e => by
  rcases e with e | ⟨q, hq, e⟩
  · exact k.b_ne h e
  · exact k.tab.1.ne hq (by rw [e]; exact h)
theorem Kf.x_ne0 (k : Kf c H S) (h : c.H0 p = none) : ¬ Ex c.B p := fun e => by
  rcases e with e | ⟨q, hq, e⟩
  · exact (k.bag p e).2 h
  · exact k.tab.2 q hq (by rw [e]; exact h)
theorem Kf.s_none (k : Kf c H S) (h : H p = none) : S p = none := k.sub.free h
theorem Kf.h0_none (k : Kf c H S) (h : H p = none) : c.H0 p = none := by
  cases e : c.H0 p with
  | none => rfl
  | some o =>
    have q := k.old p o e (k.x_ne h)
    rw [h] at q
    cases q
theorem Kf.back (k : Kf c H S) (q : Mu (c.H0 a)) : Mu (H a) := by
  by_cases x : Ex c.B a
  · rcases x with e | ⟨p, hp, e⟩
    · obtain ⟨⟨_, cs, i, g, st, n, q, _⟩, _⟩ := k.bag a e
      exact mu_lst q
    · obtain ⟨⟨ps, h1, _⟩, _⟩ := k.tab.1 p hp
      rw [← e]
      exact mu_of h1 fun _ z => nomatch z
  · cases e : c.H0 a with
    | none => exact (q.1 e).elim
    | some o => exact mu_ofF (k.old a o e x) (q.2 o e)
/-- the general step -/
theorem Kf.step (k : Kf c H S) (hs : Same S S') (hsub : Same S' H') (hH : ∀ a o, H a = some o → ¬ Ex c.B a → H' a = some o) (hn : ∀ a, S a = none → Mu (H a) → S' a = none) (hb : ∀ b, c.B = some b → BagAt b c.C S' H') (ht : TabAll S' H') : Kf c H' S' :=
  ⟨hsub, k.s0.trans hs, fun a o e n => hH a o (k.old a o e n) n, fun a e n => hn a (k.new a e n) (k.back n), fun b e => ⟨hb b e, (k.bag b e).2⟩, ht, k.tab.2⟩
theorem Kn.step (k : Kn c σ H S env) (hs : Same S S') (hsub : Same S' H') (hH : ∀ a o, H a = some o → ¬ Ex c.B a → H' a = some o) (hn : ∀ a, S a = none → Mu (H a) → S' a = none) (hb : ∀ b, c.B = some b → BagAt b c.C S' H') (ht : TabAll S' H') : Kn c σ H' S' env := by
  refine ⟨k.kf.step hs hsub hH hn hb ht, k.len, fun i x e => ?_, k.apart⟩
  obtain ⟨v, e1, r⟩ := k.sl i x e
  refine ⟨v, e1, r.keep rfl hs fun a f => ?_⟩
  obtain ⟨f1, f2, f3⟩ := r.foot a f
  exact ⟨hn a f1 f3, f2, fun o e5 => hH a o e5 (k.kf.x_ne0 f2)⟩
theorem Kf.bagSame (k : Kf c H S) (hs : Same S S') (hH : Same H H') (hn : ∀ a, S a = none → Mu (H a) → S' a = none) : ∀ b, c.B = some b → BagAt b c.C S' H' := fun b e => by
  obtain ⟨⟨e1, cs, i, g, st, n, q, q2, q3⟩, _⟩ := k.bag b e
  exact ⟨hn b e1 (mu_lst q), cs, i, g, st, n, hH _ _ q, hs _ _ q2, q3⟩
/-- nothing of H has changed -/
theorem Kn.grow (k : Kn c σ H S env) (hs : Same S S') (hsub : Same S' H') (hH : Same H H') (hn : ∀ a, S a = none → Mu (H a) → S' a = none) : Kn c σ H' S' env :=
  k.step hs hsub (fun a o e _ => hH a o e) hn (k.kf.bagSame hs hH hn) (k.kf.tab.1.same hH hn)
theorem same_upd (h : H p = none) : Same H (upd H p o) := fun b u e => by
  rw [upd_ne (ne_of_none e h)]
  exact e
theorem same_upd2 (hs : Same S H) (h : H p = none) : Same (upd S p o) (upd H p o) := fun b u e => by
  by_cases z : b = p
  · subst z
    rw [upd_same] at e ⊢
    exact e
  · rw [upd_ne z] at e ⊢
    exact hs b u e
/-- a new object that stays as it is -/
theorem Kn.new (k : Kn c σ H S env) (h : H p = none) : Kn c σ (upd H p o) (upd S p o) env :=
  k.grow (same_upd (k.kf.s_none h)) (same_upd2 k.kf.sub h) (same_upd h) fun a e n => by
    have z : a ≠ p := fun z => n.1 (by rw [z]; exact h)
    rw [upd_ne z]
    exact e
/-- a new object that may change: known to nobody yet -/
theorem Kn.new0 (k : Kn c σ H S env) (h : H p = none) : Kn c σ (upd H p o) S env :=
  k.grow (Same.refl S) (k.kf.sub.trans (same_upd h)) (same_upd h) fun a e n => e
end
structure Er where
  cls : Addr
  ks : List Str
  ds : List D
def XOk (c : Fm) (E : XK) (Rx : Er → Prop) : Prop := ∀ (er : Er) (d : Addr) (vs : List V) (H S : Hp), Kf c H S → RepL c.B S er.ds vs → er.ds.length = er.ks.length → H d = some (.xd (er.ks.zip vs)) → c.H0 d = none → S d = none → Rx er → E (.ref er.cls) (some d) H
abbrev DT := En → (D → Prop) → (Er → Prop) → Prop
abbrev DTT := En → (Bool → Prop) → (Er → Prop) → Prop
abbrev DTA := En → (List D → Prop) → (Er → Prop) → Prop
/-- a result: of all that stays; made here alone; made here alone, its lists its own -/
inductive Rk where
  | old | nw | tr
structure DEnds where
  nx : En → Prop
  rt : Rk → D → Prop
  bk : En → Prop := fun _ => False
  ct : En → Prop := fun _ => False
  ex : Er → Prop
abbrev DTS := DEnds → En → Prop
/-- an expression's reading t is told by T -/
def Sm (E : XK) (t : TE) (T : DT) : Prop := ∀ (c : Fm) (σ : St) (H S : Hp) (env : En) (R : D → Prop) (Rx : Er → Prop), XOk c E Rx → Kn c σ H S env → T env R Rx →
  ∀ Q : VK, (∀ v H' S' d, Kn c σ H' S' env → Same S S' → Rep c.B S' d v → R d → Q v H') → t σ H Q
def SmT (E : XK) (t : TT) (T : DTT) : Prop := ∀ (c : Fm) (σ : St) (H S : Hp) (env : En) (R : Bool → Prop) (Rx : Er → Prop), XOk c E Rx → Kn c σ H S env → T env R Rx →
  ∀ Q : Bool → Hp → Prop, (∀ b H' S', Kn c σ H' S' env → Same S S' → R b → Q b H') → t σ H Q
def SmA (E : XK) (t : TA) (T : DTA) : Prop := ∀ (c : Fm) (σ : St) (H S : Hp) (env : En) (R : List D → Prop) (Rx : Er → Prop), XOk c E Rx → Kn c σ H S env → T env R Rx →
  ∀ Q : List V → Hp → Prop, (∀ vs H' S' ds, Kn c σ H' S' env → Same S S' → RepL c.B S' ds vs → R ds → Q vs H') → t σ H Q
/-- what is new since H -/
def newH (H S : Hp) : Hp := fun a => match H a with
  | none => S a
  | some _ => none
theorem newH_of {H S : Hp} {a : Addr} (h : H a = none) : newH H S a = S a := by unfold newH; rw [h]
theorem newH_some {H S : Hp} {a : Addr} {o : HO} (e : newH H S a = some o) : H a = none ∧ S a = some o := by
  unfold newH at e
  split at e
  · exact ⟨by assumption, e⟩
  · cases e
theorem newH_sub {H S : Hp} : Same (newH H S) S := fun a o e => (newH_some e).2
open Classical in
noncomputable def frzS (as : List Addr) (H S : Hp) : Hp := fun a => if a ∈ as then H a else S a
theorem frzS_in {as : List Addr} {H S : Hp} {a : Addr} (h : a ∈ as) : frzS as H S a = H a := if_pos h
theorem frzS_out {as : List Addr} {H S : Hp} {a : Addr} (h : a ∉ as) : frzS as H S a = S a := if_neg h
theorem frzS_same {as : List Addr} {H S : Hp} (h : ∀ a ∈ as, S a = none) : Same S (frzS as H S) := fun a o e => by
  by_cases z : a ∈ as
  · rw [h a z] at e
    cases e
  · rw [frzS_out z]
    exact e
theorem Kf.frzT {c : Fm} {H S : Hp} {as : List Addr} (k : Kf c H S) (q : ∀ a ∈ as, S a = none ∧ c.H0 a = none) : Kf c H (frzS as H S) := by
  have s := frzS_same (H := H) fun a m => (q a m).1
  refine ⟨fun a o e => ?_, k.s0.trans s, k.old, fun a e n => ?_, fun b e => ?_, ⟨fun p hp => ⟨(k.tab.1 p hp).1, ?_⟩, k.tab.2⟩⟩
  · by_cases z : a ∈ as
    · rw [frzS_in z] at e
      exact e
    · rw [frzS_out z] at e
      exact k.sub a o e
  · rw [frzS_out fun z => n.1 (q a z).2]
    exact k.new a e n
  · obtain ⟨⟨b1, cs, i, g, st, n, b2, b3, b4⟩, b5⟩ := k.bag b e
    exact ⟨⟨by rw [frzS_out fun z => b5 (q b z).2]; exact b1, cs, i, g, st, n, b2, s _ _ b3, b4⟩, b5⟩
  · rw [frzS_out fun z => k.tab.2 p hp (q _ z).2]
    exact (k.tab.1 p hp).2
theorem repT_frz {c : Fm} {H S : Hp} {t : T} {v : V} {as : List Addr} (r : RepT c.B S H t v as) (q : ∀ a ∈ as, S a = none) : Rep c.B (frzS as H S) t.d v := rep_tree (frzS_same q) t v as (fun _ m => frzS_in m) r
def RepN (c : Fm) (H S : Hp) : Rk → D → V → Prop
  | .old, d, v => Rep c.B S d v
  | .nw, d, v => Rep c.B (newH c.H0 S) d v
  | .tr, d, v => ∃ as, RepT c.B S H d.tr v as ∧ as.Nodup ∧ ∀ a ∈ as, S a = none ∧ c.H0 a = none
theorem RepN.old {c : Fm} {H S : Hp} {n : Rk} {d : D} {v : V} (k : Kf c H S) (r : RepN c H S n d v) : ∃ S', Kf c H S' ∧ Same S S' ∧ Rep c.B S' d v := by
  cases n with
  | old => exact ⟨S, k, Same.refl S, r⟩
  | nw => exact ⟨S, k, Same.refl S, rep_mono newH_sub d v r⟩
  | tr =>
    obtain ⟨as, r, _, q⟩ := r
    refine ⟨_, k.frzT q, frzS_same fun a m => (q a m).1, ?_⟩
    have := repT_frz r fun a m => (q a m).1
    rw [tr_d] at this
    exact this
def mk (c : Fm) (S : Hp) (Q : DEnds) (D : Ends) : Prop :=
  (∀ σ H S' env, Kn c σ H S' env → Same S S' → Q.nx env → D.nx σ H) ∧ (∀ n v H S' d, Kf c H S' → Same S S' → RepN c H S' n d v → Q.rt n d → D.rt v H) ∧
  (∀ σ H S' env, Kn c σ H S' env → Same S S' → Q.bk env → D.bk σ H) ∧ (∀ σ H S' env, Kn c σ H S' env → Same S S' → Q.ct env → D.ct σ H)
def SmS (E : XK) (t : TS) (T : DTS) : Prop := ∀ (c : Fm) (σ : St) (H S : Hp) (env : En) (Q : DEnds), XOk c E Q.ex → Kn c σ H S env → T Q env →
  ∀ D : Ends, mk c S Q D → t D σ H
theorem mk.mono {c : Fm} {S S' : Hp} {Q : DEnds} {D : Ends} (m : mk c S Q D) (h : Same S S') : mk c S' Q D :=
  ⟨fun σ H S2 env k s q => m.1 σ H S2 env k (h.trans s) q, fun n v H S2 d k s r q => m.2.1 n v H S2 d k (h.trans s) r q, fun σ H S2 env k s q => m.2.2.1 σ H S2 env k (h.trans s) q, fun σ H S2 env k s q => m.2.2.2 σ H S2 env k (h.trans s) q⟩
def DE (X : Cx) (E : XK) (e : Expr) (T : DT) : Prop := ∃ t, PE X e t ∧ Sm E t T
def DTe (X : Cx) (E : XK) (e : Expr) (T : DTT) : Prop := ∃ t, PT X e t ∧ SmT E t T
def DWe (X : Cx) (E : XK) (e : Expr) (T : DTT) : Prop := ∃ t, PW X e t ∧ SmT E t T
def DA (X : Cx) (E : XK) (es : List Expr) (T : DTA) : Prop := ∃ t, PA X es t ∧ SmA E t T
def DS (X : Cx) (E : XK) (st : Stmt) (T : DTS) : Prop := ∃ t, PS X st t ∧ SmS E t T
def DSs (X : Cx) (E : XK) (st : List Stmt) (T : DTS) : Prop := ∃ t, PSs X st t ∧ SmS E t T
section
variable {X : Cx} {E : XK} {pos : Pos}
def xVar (i : Nat) : DT := fun env R _ => ∃ d, env[i]? = some (some (.val d)) ∧ R d
def xC (d : D) : DT := fun _ R _ => R d
theorem sm_var (i : Nat) : Sm E (tVar i) (xVar i) := fun c σ H S env R Rx _ k t Q q => by
  obtain ⟨d, e, r⟩ := t
  obtain ⟨v, e1, r1⟩ := k.sl i _ e
  exact ⟨v, e1, q v H S d k (Same.refl S) r1 r⟩
theorem sm_c {v : V} {d : D} (h : ∀ B S, Rep B S d v) : Sm E (tC v) (xC d) := fun c σ H S env R Rx _ k t Q q => q v H S d k (Same.refl S) (h _ _) t
theorem d_var (i : Nat) {x : Str} (hN : X.N[i]? = some x := by rfl) (hv : Vis X.env.scope x := by first | exact Or.inl rfl | exact Or.inr (Or.inl rfl) | exact Or.inr (Or.inr rfl)) (hd : (x == ("__debug__" : Str)) = false := by decide)
    (hcd : (x == ("__classdict__" : Str)) = false := by decide) : DE X E (.Name x pos) (xVar i) := ⟨_, pv i hN hv hd hcd, sm_var i⟩
theorem d_int {i : Int} {j} : DE X E (.Constant (.int i) j pos) (xC (.int i)) := ⟨_, pe_int, sm_c fun _ _ => rfl⟩
theorem d_bl {b : Bool} {j} : DE X E (.Constant (.bool b) j pos) (xC (.bl b)) := ⟨_, pe_bl, sm_c fun _ _ => rfl⟩
theorem d_non {j} : DE X E (.Constant .none j pos) (xC .non) := ⟨_, pe_non, sm_c fun _ _ => rfl⟩
theorem d_str {s : Str} {j} : DE X E (.Constant (.str s) j pos) (xC (.str s)) := ⟨_, pe_str, sm_c fun _ _ => rfl⟩
theorem d_gint {x : Str} {i : Int} (hm : ∃ t, X.mg x = some (.int i t)) (hg : Gl X x := by rfl) (hd : (x == ("__debug__" : Str)) = false := by decide) : DE X E (.Name x pos) (xC (.int i)) := by
  obtain ⟨t, e⟩ := hm
  exact ⟨_, pe_glob (v := .int i) hg e ⟨t, rfl⟩ hd, sm_c fun _ _ => rfl⟩
end
abbrev DOp := D → D → (D → Prop) → Prop
def SmOp (r : R2) (op : DOp) : Prop := ∀ (c : Fm) (σ : St) (H S : Hp) (env : En) (x y : D) (v u : V) (R : D → Prop), Kn c σ H S env → Rep c.B S x v → Rep c.B S y u → op x y R →
  ∀ Q : VK, (∀ z H' S' d, Kn c σ H' S' env → Same S S' → Rep c.B S' d z → R d → Q z H') → r v u H Q
def xOp (op : DOp) (Ta Tb : DT) : DT := fun env R Rx => Ta env (fun x => Tb env (fun y => op x y R) Rx) Rx
section
variable {X : Cx} {E : XK} {pos : Pos} {a b : Expr} {Ta Tb : DT} {ta tb : TE}
theorem sm_op {r : R2} {op : DOp} (ho : SmOp r op) (ha : Sm E ta Ta) (hb : Sm E tb Tb) : Sm E (tOp r ta tb) (xOp op Ta Tb) := fun c σ H S env R Rx x k t Q q =>
  ha c σ H S env _ Rx x k t _ fun v H1 S1 d1 k1 s1 r1 t1 => hb c σ H1 S1 env _ Rx x k1 t1 _ fun u H2 S2 d2 k2 s2 r2 t2 =>
    ho c σ H2 S2 env d1 d2 v u R k2 (rep_mono s2 d1 v r1) r2 t2 Q fun z H3 S3 d3 k3 s3 r3 t3 => q z H3 S3 d3 k3 ((s1.trans s2).trans s3) r3 t3
theorem d_op {op : Operator} {r : R2} {dop : DOp} (h : OpR X (binaryOp op) r) (ho : SmOp r dop) (ha : DE X E a Ta) (hb : DE X E b Tb) : DE X E (.BinOp a op b pos) (xOp dop Ta Tb) := by
  obtain ⟨ta, p1, s1⟩ := ha
  obtain ⟨tb, p2, s2⟩ := hb
  exact ⟨_, pe_op h p1 p2, sm_op ho s1 s2⟩
def opAdd : DOp
  | .int i, .int j, R => R (.int (i + j))
  | .str s, .str t, R => s.length + t.length ≤ sizeLine ∧ R (.str (s ++ t))
  | .lst xs, .lst ys, R => xs.length + ys.length ≤ sizeLine ∧ R (.lst (xs ++ ys))
  | .tup xs, .tup ys, R => xs.length + ys.length ≤ sizeLine ∧ R (.tup (xs ++ ys))
  | _, _, _ => False
def opSub : DOp
  | .int i, .int j, R => R (.int (i - j))
  | _, _, _ => False
/-- what a product of ints asks -/
def MulOk (i j : Int) : Prop := CMul i j ∨ CMulW i j
/-- a text, so many times -/
def mulS (s : Str) (n : Nat) : Str := ⟨(List.replicate n s.cps.toList).flatten.toArray⟩
theorem mulS_is {s : Str} {k : Int} : Txt.mul s k = mulS s k.toNat := by
  obtain ⟨⟨l⟩⟩ := s
  have f0 : ∀ (m : Nat) (a : List Nat), List.foldl (fun x1 x2 => x1 ++ x2) (⟨a⟩ : Array Nat) (List.replicate m ⟨l⟩) = ⟨a ++ (List.replicate m l).flatten⟩ := fun m => by
    induction m with
    | zero => intro a; simp
    | succ m ih =>
      intro a
      rw [List.replicate_succ, List.foldl_cons, List.replicate_succ, List.flatten_cons]
      have : (⟨a⟩ : Array Nat) ++ (⟨l⟩ : Array Nat) = ⟨a ++ l⟩ := by simp
      rw [this, ih, List.append_assoc]
  unfold Txt.mul mulS
  by_cases h1 : k < 1
  · rw [if_pos h1, show k.toNat = 0 by omega]
    rfl
  · rw [if_neg h1]
    split
    · rename_i h2
      rw [Bool.or_eq_true, beq_iff_eq, beq_iff_eq] at h2
      rcases h2 with rfl | h2
      · simp
      · have : l = [] := List.eq_nil_of_length_eq_zero h2
        subst this
        simp
    · have := f0 k.toNat []
      rw [List.nil_append] at this
      show Str.mk _ = Str.mk _
      congr 1
theorem mulOk_of {s : Str} {k : Int} (h1 : -(2 ^ 63) ≤ k) (h2 : k < 2 ^ 63) (h3 : s.length * k.toNat ≤ sizeLine) : PySem.MulOk s k := by
  have e : sizeLine = 16777216 := rfl
  refine ⟨by simp only [Bool.or_eq_false_iff, decide_eq_false_iff_not]; omega, fun z _ => ?_, fun z _ => ?_⟩
  · have hk : (k.toNat : Int) = k := by omega
    have h4 : (s.length : Int) * k ≤ 16777216 := by
      rw [← hk, ← Int.natCast_mul]
      omega
    have : (s.length : Int) ≤ (2 ^ 63 - 1) / k := (Int.le_ediv_iff_mul_le (by omega)).mpr (by omega)
    omega
  · show decide (_ > sizeLine) = false
    rw [decide_eq_false_iff_not]
    omega
abbrev rMulS : R2 := fun x y H Q => ∃ s k, x = .str s ∧ y = .int k ∧ PySem.MulOk s k ∧ Q (.str (Txt.mul s k)) H
theorem op_mulS : OpR X (binaryOp .Mult) rMulS := by
  intro pins s σ H x y v u Q I rx ry h
  obtain ⟨i, j, rfl, rfl, hz, q⟩ := h
  obtain ⟨t, rfl⟩ := rx
  obtain ⟨t', rfl⟩ := ry
  exact SB.mul hz fun t' k => ⟨.str (Txt.mul i j), H, I.tok _, ⟨_, rfl⟩, q⟩
def opMul : DOp
  | .int i, .int j, R => MulOk i j ∧ R (.int (i * j))
  | .lst xs, .int k, R => -(2 ^ 63) ≤ k ∧ k < 2 ^ 63 ∧ xs.length * k.toNat ≤ sizeLine ∧ R (.lst (List.replicate k.toNat xs).flatten)
  | .str s, .int k, R => -(2 ^ 63) ≤ k ∧ k < 2 ^ 63 ∧ s.length * k.toNat ≤ sizeLine ∧ R (.str (mulS s k.toNat))
  | _, _, _ => False
def DivOk (j : Int) : Prop := (j ≠ 0 ∧ j.natAbs < 1073741824) ∨ (0 < j ∧ j.natAbs.log2 < 9000)
def opFdiv : DOp
  | .int i, .int j, R => DivOk j ∧ R (.int (i.fdiv j))
  | _, _, _ => False
def opMod : DOp
  | .int i, .int j, R => j ≠ 0 ∧ R (.int (i.fmod j))
  | _, _, _ => False
def opPow : DOp
  | .int i, .int j, R => (0 ≤ j ∧ j ≤ 1000000 ∧ i.natAbs < 2 ^ 64) ∧ R (.int (i ^ j.toNat))
  | _, _, _ => False
theorem smOp_int {C : Int → Int → Prop} {g : Int → Int → V} {f : Int → Int → D} {op : DOp} (hr : ∀ i j B S, Rep B S (f i j) (g i j)) (h : ∀ x y R, op x y R → ∃ i j, x = .int i ∧ y = .int j ∧ C i j ∧ R (f i j)) : SmOp (rI C g) op :=
  fun c σ H S env x y v u R k r1 r2 t Q q => by
    obtain ⟨i, j, rfl, rfl, hc, t⟩ := h x y R t
    exact ⟨i, j, r1, r2, hc, q _ H S _ k (Same.refl S) (hr i j _ _) t⟩
theorem smOp_int0 {g : Int → Int → V} {f : Int → Int → D} {op : DOp} (hr : ∀ i j B S, Rep B S (f i j) (g i j)) (h : ∀ x y R, op x y R → ∃ i j, x = .int i ∧ y = .int j ∧ R (f i j)) : SmOp (rI0 g) op :=
  fun c σ H S env x y v u R k r1 r2 t Q q => by
    obtain ⟨i, j, rfl, rfl, t2⟩ := h x y R t
    exact ⟨i, j, r1, r2, q _ H S _ k (Same.refl S) (hr i j _ _) t2⟩
theorem lst_of {c : Fm} {σ : St} {H S : Hp} {env : En} {xs : List D} {v : V} (k : Kn c σ H S env) (r : Rep c.B S (.lst xs) v) : ∃ a vs, v = .ref a ∧ H a = some (.lst vs) ∧ S a = some (.lst vs) ∧ RepL c.B S xs vs := by
  obtain ⟨a, vs, e, q, l⟩ := r
  exact ⟨a, vs, e, k.kf.sub _ _ q, q, l⟩
theorem tup_of {c : Fm} {σ : St} {H S : Hp} {env : En} {xs : List D} {v : V} (k : Kn c σ H S env) (r : Rep c.B S (.tup xs) v) : ∃ a vs, v = .ref a ∧ H a = some (.tup vs) ∧ S a = some (.tup vs) ∧ RepL c.B S xs vs := by
  obtain ⟨a, vs, e, q, l⟩ := r
  exact ⟨a, vs, e, k.kf.sub _ _ q, q, l⟩
/-- a new list, a new tuple of known items -/
theorem put_lst {c : Fm} {σ : St} {H S : Hp} {env : En} {ds : List D} {vs : List V} {p : Addr} (k : Kn c σ H S env) (l : RepL c.B S ds vs) (h : H p = none) :
    Kn c σ (upd H p (.lst vs)) (upd S p (.lst vs)) env ∧ Same S (upd S p (.lst vs)) ∧ Rep c.B (upd S p (.lst vs)) (.lst ds) (.ref p) := by
  have s : Same S (upd S p (.lst vs)) := same_upd (k.kf.s_none h)
  exact ⟨k.new h, s, p, vs, rfl, upd_same, repL_mono s ds vs l⟩
theorem put_tup {c : Fm} {σ : St} {H S : Hp} {env : En} {ds : List D} {vs : List V} {p : Addr} (k : Kn c σ H S env) (l : RepL c.B S ds vs) (h : H p = none) :
    Kn c σ (upd H p (.tup vs)) (upd S p (.tup vs)) env ∧ Same S (upd S p (.tup vs)) ∧ Rep c.B (upd S p (.tup vs)) (.tup ds) (.ref p) := by
  have s : Same S (upd S p (.tup vs)) := same_upd (k.kf.s_none h)
  exact ⟨k.new h, s, p, vs, rfl, upd_same, repL_mono s ds vs l⟩
abbrev rAddS0 : R2 := fun x y H Q => ∃ i j, x = .str i ∧ y = .str j ∧ i.length + j.length ≤ sizeLine ∧ Q (.str (i ++ j)) H
abbrev rAddAll (K : PySem.W.Frag) : R2 := fun x y H Q => rI0 (fun i j => .int (i + j)) x y H Q ∨ (fun x y H Q => rAddS0 x y H Q ∨ (fun x y H Q => rCat x y H Q ∨ rCatA K x y H Q) x y H Q) x y H Q
theorem op_addAll : OpR X (binaryOp .Add) (rAddAll X.K) := op_add.or (op_add_str.or (op_cat.or op_catA))
theorem smOp_add {K : PySem.W.Frag} : SmOp (rAddAll K) opAdd := by
  intro c σ H S env x y v u R k r1 r2 t Q q
  cases x <;> cases y <;> try exact (show False from t).elim
  · exact .inl ⟨_, _, r1, r2, q _ H S (.int _) k (Same.refl S) rfl t⟩
  · exact .inr (.inl ⟨_, _, r1, r2, t.1, q _ H S (.str _) k (Same.refl S) rfl t.2⟩)
  · obtain ⟨a, vs, e1, h1, _, l1⟩ := lst_of k r1
    obtain ⟨b, ws, e2, h2, _, l2⟩ := lst_of k r2
    obtain ⟨hz, t⟩ := t
    refine .inr (.inr (.inl ⟨a, b, vs, ws, e1, e2, h1, h2, by rw [l1.length, l2.length]; exact hz, fun p hp => ?_⟩))
    obtain ⟨k', s', r'⟩ := put_lst k (l1.app l2) hp
    exact q _ _ _ _ k' s' r' t
  · obtain ⟨a, vs, e1, h1, hS1, l1⟩ := tup_of k r1
    obtain ⟨b, ws, e2, h2, hS2, l2⟩ := tup_of k r2
    obtain ⟨hz, t⟩ := t
    refine .inr (.inr (.inr ⟨a, b, vs, ws, e1, e2, SqT.of h1, SqT.of h2, by rw [l1.length, l2.length]; exact hz, fun z => ?_, fun z z2 => ?_, fun z z2 p hp => ?_⟩))
    · subst z
      have e0 : ∀ {ds : List D}, RepL c.B S ds [] → ds = [] := fun {ds} l => by
        have := l.length
        exact List.length_eq_zero_iff.mp (by simpa using this.symm)
      have e3 := e0 l1
      subst e3
      exact q _ H S _ k (Same.refl S) (show Rep c.B S (.tup ([] ++ _)) (.ref b) from ⟨b, ws, rfl, hS2, l2⟩) t
    · subst z2
      have e0 : ∀ {ds : List D}, RepL c.B S ds [] → ds = [] := fun {ds} l => by
        have := l.length
        exact List.length_eq_zero_iff.mp (by simpa using this.symm)
      have e3 := e0 l2
      subst e3
      rw [List.append_nil] at t
      exact q _ H S (.tup _) k (Same.refl S) ⟨a, vs, rfl, hS1, l1⟩ t
    · obtain ⟨k', s', r'⟩ := put_tup k (l1.app l2) hp
      exact q _ _ _ _ k' s' r' t
theorem d_add (ha : DE X E a Ta) (hb : DE X E b Tb) : DE X E (.BinOp a .Add b pos) (xOp opAdd Ta Tb) := d_op op_addAll smOp_add ha hb
theorem d_sub (ha : DE X E a Ta) (hb : DE X E b Tb) : DE X E (.BinOp a .Sub b pos) (xOp opSub Ta Tb) := d_op op_sub (smOp_int0 (f := fun i j => .int (i - j)) (fun _ _ _ _ => rfl) fun x y R t => by
  cases x <;> cases y <;> first | exact (show False from t).elim | exact ⟨_, _, rfl, rfl, t⟩) ha hb
theorem d_mul (ha : DE X E a Ta) (hb : DE X E b Tb) : DE X E (.BinOp a .Mult b pos) (xOp opMul Ta Tb) := by
  refine d_op (op_mul.or (op_mulW.or (op_rep.or op_mulS))) ?_ ha hb
  intro c σ H S env x y v u R k r1 r2 t Q q
  cases x <;> cases y <;> try exact (show False from t).elim
  · obtain ⟨hc | hc, t⟩ := t
    · exact .inl ⟨_, _, r1, r2, hc, q _ H S (.int _) k (Same.refl S) rfl t⟩
    · exact .inr (.inl ⟨_, _, r1, r2, hc, q _ H S (.int _) k (Same.refl S) rfl t⟩)
  · obtain ⟨t1, t2, t3, t⟩ := t
    exact .inr (.inr (.inr ⟨_, _, r1, r2, mulOk_of t1 t2 t3, by rw [mulS_is]; exact q _ H S (.str _) k (Same.refl S) rfl t⟩))
  · obtain ⟨t1, t2, t3, t⟩ := t
    obtain ⟨a, vs, e1, h1, _, l1⟩ := lst_of k r1
    refine .inr (.inr (.inl ⟨a, _, vs, e1, r2, h1, t1, t2, by rw [l1.length]; exact t3, fun p hp => ?_⟩))
    obtain ⟨k', s', r'⟩ := put_lst k (l1.rep _) hp
    exact q _ _ _ _ k' s' r' t
theorem fdiv_pos {i j : Int} (h : 0 < j) : i.fdiv j = i / j := Int.fdiv_eq_ediv_of_nonneg i (by omega)
theorem d_fdiv (ha : DE X E a Ta) (hb : DE X E b Tb) : DE X E (.BinOp a .FloorDiv b pos) (xOp opFdiv Ta Tb) := by
  refine d_op (op_fdivN.or op_fdivW) ?_ ha hb
  intro c σ H S env x y v u R k r1 r2 t Q q
  cases x <;> cases y <;> try exact (show False from t).elim
  obtain ⟨hc | hc, t⟩ := t
  · exact .inl ⟨_, _, r1, r2, hc, q _ H S (.int _) k (Same.refl S) rfl t⟩
  · exact .inr ⟨_, _, r1, r2, hc, q _ H S (.int _) k (Same.refl S) (by rw [fdiv_pos hc.1]; rfl) t⟩
theorem d_mod (ha : DE X E a Ta) (hb : DE X E b Tb) : DE X E (.BinOp a .Mod b pos) (xOp opMod Ta Tb) := d_op op_modN (smOp_int (f := fun i j => .int (i.fmod j)) (fun _ _ _ _ => rfl) fun x y R t => by
  cases x <;> cases y <;> first | exact (show False from t).elim | exact ⟨_, _, rfl, rfl, t⟩) ha hb
def xUn (f : D → (D → Prop) → Prop) (Ta : DT) : DT := fun env R Rx => Ta env (fun x => f x R) Rx
def opNeg : D → (D → Prop) → Prop
  | .int i, R => R (.int (-i))
  | _, _ => False
end
end DL
namespace DL
open PySem PySem.Spec L2
variable [TbC]
mutual
def D.py : D → PyData
  | .bl b => .bool b
  | .int i => .int i
  | .str s => .str s
  | .lst xs => .list (pyL xs)
  | .tup xs => .tuple (pyL xs)
  | .non | .ty _ | .adr _ | .bag | .fn _ _ _ | .exc _ _ _ _ _ | .dct _ _ | .dcT _ _ | .obj _ _ _ => .none
def pyL : List D → List PyData
  | [] => []
  | x :: xs => x.py :: pyL xs
end
mutual
def D.dat : D → Bool
  | .non | .bl _ | .int _ | .str _ => true
  | .lst xs | .tup xs => datL xs
  | .ty _ | .adr _ | .bag | .fn _ _ _ | .exc _ _ _ _ _ | .dct _ _ | .dcT _ _ | .obj _ _ _ => false
def datL : List D → Bool
  | [] => true
  | x :: xs => x.dat && datL xs
end
mutual
def D.dep : D → Nat
  | .lst xs | .tup xs => 1 + depL xs
  | .non | .bl _ | .int _ | .str _ | .ty _ | .adr _ | .bag | .fn _ _ _ | .exc _ _ _ _ _ | .dct _ _ | .dcT _ _ | .obj _ _ _ => 1
def depL : List D → Nat
  | [] => 0
  | x :: xs => max x.dep (depL xs)
end
mutual
theorem py_plain : ∀ d : D, d.py.plain = true
  | .non | .bl _ | .int _ | .str _ | .ty _ | .adr _ | .bag | .fn _ _ _ | .exc _ _ _ _ _ | .dct _ _ | .dcT _ _ | .obj _ _ _ => rfl
  | .lst xs => py_plainL xs
  | .tup xs => py_plainL xs
theorem py_plainL : ∀ xs : List D, PyData.plainAll (pyL xs) = true
  | [] => rfl
  | x :: xs => by
    show (x.py.plain && PyData.plainAll (pyL xs)) = true
    rw [py_plain x, py_plainL xs]
    rfl
end
section
variable {B : Option Addr} {S H : Hp} {K : PySem.W.Frag}
mutual
theorem rep_dp (h : Same S H) : ∀ (d : D) (v : V), d.dat = true → Rep B S d v → Dp K H v d.py
  | .non, v, _, r => by rw [show v = .non from r]; exact .non
  | .bl b, v, _, r => by rw [show v = .bl b from r]; exact .bl b
  | .int i, v, _, r => by rw [show v = .int i from r]; exact .int i
  | .str s, v, _, r => by rw [show v = .str s from r]; exact .str s
  | .lst ds, v, t, r => by
    rw [Rep] at r
    obtain ⟨a, vs, e, q, l⟩ := r
    subst e
    exact .lst (SqL.of (h _ _ q)) (repL_dp h ds vs t l)
  | .tup ds, v, t, r => by
    rw [Rep] at r
    obtain ⟨a, vs, e, q, l⟩ := r
    subst e
    exact .tup (SqT.of (h _ _ q)) (repL_dp h ds vs t l)
  | .ty _, _, t, _ => nomatch (show false = true from t)
  | .adr _, _, t, _ => nomatch (show false = true from t)
  | .bag, _, t, _ => nomatch (show false = true from t)
  | .fn _ _ _, _, t, _ => nomatch (show false = true from t)
  | .exc _ _ _ _ _, _, t, _ => nomatch (show false = true from t)
  | .dct _ _, _, t, _ => nomatch (show false = true from t)
  | .dcT _ _, _, t, _ => nomatch (show false = true from t)
  | .obj _ _ _, _, t, _ => nomatch (show false = true from t)
theorem repL_dp (h : Same S H) : ∀ (ds : List D) (vs : List V), datL ds = true → RepL B S ds vs → DpAll K H vs (pyL ds)
  | [], vs, _, l => by rw [repL_nil_of l]; exact .nil
  | d :: ds, vs, t, l => by
    obtain ⟨v, ws, e, r, l2⟩ := repL_cons_of l
    subst e
    have t2 : (d.dat && datL ds) = true := t
    rw [Bool.and_eq_true] at t2
    exact .cons (rep_dp h d v t2.1 r) (repL_dp h ds ws t2.2 l2)
end
end
mutual
theorem py_depth : ∀ d : D, d.py.depth ≤ d.dep
  | .non | .bl _ | .int _ | .str _ | .ty _ | .adr _ | .bag | .fn _ _ _ | .exc _ _ _ _ _ | .dct _ _ | .dcT _ _ | .obj _ _ _ => by simp [D.py, D.dep, PyData.depth]
  | .lst xs => by
    have := py_depthL xs
    simp only [D.py, D.dep, PyData.depth]
    omega
  | .tup xs => by
    have := py_depthL xs
    simp only [D.py, D.dep, PyData.depth]
    omega
theorem py_depthL : ∀ xs : List D, PyData.depthAll (pyL xs) ≤ depL xs
  | [] => by simp [pyL, depL, PyData.depthAll]
  | x :: xs => by
    have h1 := py_depth x
    have h2 := py_depthL xs
    simp only [pyL, depL, PyData.depthAll]
    omega
end
section
variable {X : Cx} {E : XK} {pos : Pos} {a b c : Expr} {Ta Tb Tc : DT} {ta tb tc : TE}
def rEqP (K : PySem.W.Frag) : R2 := fun x y H Q => ∃ d e, Dp K H x d ∧ Dp K H y e ∧ d.plain = true ∧ e.plain = true ∧ d.depth ≤ 64 ∧ Q (.bl (PyData.eqv d e)) H
def rNeP (K : PySem.W.Frag) : R2 := fun x y H Q => ∃ d e, Dp K H x d ∧ Dp K H y e ∧ d.plain = true ∧ e.plain = true ∧ d.depth ≤ 64 ∧ Q (.bl (!PyData.eqv d e)) H
theorem op_eqP (hu : X.A.units + 64 < cLine) : OpR X (compareOp .Eq) (rEqP X.K) := by
  intro pins s σ H x y v u Q I rx ry h
  obtain ⟨d, e, hd, he, pd, pe, hz, q⟩ := h
  obtain ⟨as, r1⟩ := Dp.reads I d x v hd rx
  obtain ⟨bs, r2⟩ := Dp.reads I e y u he ry
  exact SeqAt.eq_plain r1 r2 pd pe (by have := Nat.min_le_left d.depth e.depth; omega) ⟨.bl _, H, I, rfl, q⟩
theorem op_neP (hu : X.A.units + 64 < cLine) : OpR X (compareOp .NotEq) (rNeP X.K) := by
  intro pins s σ H x y v u Q I rx ry h
  obtain ⟨d, e, hd, he, pd, pe, hz, q⟩ := h
  obtain ⟨as, r1⟩ := Dp.reads I d x v hd rx
  obtain ⟨bs, r2⟩ := Dp.reads I e y u he ry
  exact SeqAt.ne_plain r1 r2 pd pe (by have := Nat.min_le_left d.depth e.depth; omega) ⟨.bl _, H, I, rfl, q⟩
def opEq : DOp := fun x y R => x.dat = true ∧ y.dat = true ∧ x.dep ≤ 64 ∧ R (.bl (PyData.eqv x.py y.py))
def opNe : DOp := fun x y R => x.dat = true ∧ y.dat = true ∧ x.dep ≤ 64 ∧ R (.bl (!PyData.eqv x.py y.py))
def CmpOk (X : Cx) (op : CmpOp) (dop : DOp) : Prop := ∃ r, OpR X (compareOp op) r ∧ SmOp r dop
theorem c_eq (hu : X.A.units + 64 < cLine) : CmpOk X .Eq opEq := ⟨_, op_eqP hu, fun c σ H S env x y v u R k r1 r2 t Q q => by
  obtain ⟨t1, t2, t3, t⟩ := t
  exact ⟨x.py, y.py, rep_dp k.kf.sub x v t1 r1, rep_dp k.kf.sub y u t2 r2, py_plain x, py_plain y, Nat.le_trans (py_depth x) t3, q _ H S (.bl _) k (Same.refl S) rfl t⟩⟩
theorem c_ne (hu : X.A.units + 64 < cLine) : CmpOk X .NotEq opNe := ⟨_, op_neP hu, fun c σ H S env x y v u R k r1 r2 t Q q => by
  obtain ⟨t1, t2, t3, t⟩ := t
  exact ⟨x.py, y.py, rep_dp k.kf.sub x v t1 r1, rep_dp k.kf.sub y u t2 r2, py_plain x, py_plain y, Nat.le_trans (py_depth x) t3, q _ H S (.bl _) k (Same.refl S) rfl t⟩⟩
def opLt : DOp
  | .int i, .int j, R => R (.bl (decide (i < j)))
  | _, _, _ => False
def opLe : DOp
  | .int i, .int j, R => R (.bl (decide (i ≤ j)))
  | _, _, _ => False
def opGt : DOp
  | .int i, .int j, R => R (.bl (decide (j < i)))
  | _, _, _ => False
def opGe : DOp
  | .int i, .int j, R => R (.bl (decide (j ≤ i)))
  | _, _, _ => False
theorem c_le : CmpOk X .LtE opLe := ⟨_, op_le, smOp_int0 (f := fun i j => .bl (decide (i ≤ j))) (fun _ _ _ _ => rfl) fun x y R t => by
  cases x <;> cases y <;> first | exact (show False from t).elim | exact ⟨_, _, rfl, rfl, t⟩⟩
theorem c_gt : CmpOk X .Gt opGt := ⟨_, op_gt, smOp_int0 (f := fun i j => .bl (decide (j < i))) (fun _ _ _ _ => rfl) fun x y R t => by
  cases x <;> cases y <;> first | exact (show False from t).elim | exact ⟨_, _, rfl, rfl, t⟩⟩
theorem c_ge : CmpOk X .GtE opGe := ⟨_, op_ge, smOp_int0 (f := fun i j => .bl (decide (j ≤ i))) (fun _ _ _ _ => rfl) fun x y R t => by
  cases x <;> cases y <;> first | exact (show False from t).elim | exact ⟨_, _, rfl, rfl, t⟩⟩
/-- is None -/
def D.isN : D → Bool
  | .non => true
  | _ => false
theorem rep_isN {B : Option Addr} {S : Hp} {d : D} {v : V} (r : Rep B S d v) : decide (v = .non) = d.isN := by
  cases d with
  | non => rw [show v = .non from r]; rfl
  | bl _ => rw [show v = _ from r]; rfl
  | int _ => rw [show v = _ from r]; rfl
  | str _ => rw [show v = _ from r]; rfl
  | ty _ => rw [show v = _ from r]; rfl
  | adr _ => rw [show v = _ from r]; rfl
  | bag => obtain ⟨b, _, e⟩ := r; rw [e]; rfl
  | fn _ _ _ => rw [Rep] at r; obtain ⟨_, _, _, e, _⟩ := r; rw [e]; rfl
  | exc _ _ _ _ _ => rw [Rep] at r; obtain ⟨_, e, _⟩ := r; rw [e]; rfl
  | lst _ => rw [Rep] at r; obtain ⟨_, _, e, _⟩ := r; rw [e]; rfl
  | tup _ => rw [Rep] at r; obtain ⟨_, _, e, _⟩ := r; rw [e]; rfl
  | obj _ _ _ => rw [Rep] at r; obtain ⟨_, _, _, e, _⟩ := r; rw [e]; rfl
  | dct _ _ => rw [Rep] at r; obtain ⟨_, _, e, _⟩ := r; rw [e]; rfl
  | dcT _ _ => rw [Rep] at r; obtain ⟨_, _, e, _⟩ := r; rw [e]; rfl
def opIs : DOp := fun x y R => y.isN = true ∧ R (.bl x.isN)
def opIsNot : DOp := fun x y R => y.isN = true ∧ R (.bl (!x.isN))
theorem isN_eq {B : Option Addr} {S : Hp} {d : D} {v : V} (r : Rep B S d v) (h : d.isN = true) : v = .non := by
  rw [← rep_isN r] at h
  exact of_decide_eq_true h
theorem c_is : CmpOk X .Is opIs := ⟨_, op_isN, fun c σ H S env x y v u R k r1 r2 t Q q => ⟨isN_eq r2 t.1, by
  rw [rep_isN r1]
  exact q _ H S (.bl _) k (Same.refl S) rfl t.2⟩⟩
/-- in: scalars in a list, a tuple -/
def D.sc : D → Bool
  | .non | .bl _ | .int _ | .str _ => true
  | _ => false
def D.v : D → V
  | .bl b => .bl b
  | .int i => .int i
  | .str s => .str s
  | _ => .non
theorem rep_v {B : Option Addr} {S : Hp} {d : D} {v : V} (r : Rep B S d v) (h : d.sc = true) : v = d.v ∧ flatV d.v = true := by
  cases d <;> first | exact ⟨r, rfl⟩ | exact nomatch (show false = true from h)
theorem repL_v {B : Option Addr} {S : Hp} : ∀ {ds : List D} {vs : List V}, RepL B S ds vs → ds.all D.sc = true → vs = ds.map D.v ∧ (ds.map D.v).all flatV = true
  | [], vs, r, _ => ⟨repL_nil_of r, rfl⟩
  | d :: ds, vs, r, h => by
    obtain ⟨v, ws, e, r1, l⟩ := repL_cons_of r
    subst e
    rw [List.all_cons, Bool.and_eq_true] at h
    obtain ⟨e1, f1⟩ := rep_v r1 h.1
    obtain ⟨e2, f2⟩ := repL_v l h.2
    subst e1
    subst e2
    exact ⟨rfl, by rw [List.map_cons, List.all_cons, f1, f2]; rfl⟩
/-- one sign in a text -/
def oneSign (s : Str) : Option Nat := match s.cps.toList with
  | [c] => some c
  | _ => none
theorem oneSign_eq {s : Str} {c : Nat} (h : oneSign s = some c) : s = ⟨#[c]⟩ := by
  obtain ⟨⟨l⟩⟩ := s
  unfold oneSign at h
  cases l with
  | nil => cases h
  | cons x r => cases r with
    | nil => cases h; rfl
    | cons y r => cases h
def opIn : DOp := fun x y R => match y with
  | .lst ys | .tup ys => x.sc = true ∧ ys.all D.sc = true ∧ R (.bl (inV x.v (ys.map D.v)))
  | .str z => ∃ s c, x = .str s ∧ oneSign s = some c ∧ R (.bl (decide (c ∈ z.cps.toList)))
  | _ => False
def opNotIn : DOp := fun x y R => opIn x y fun d => match d with
  | .bl b => R (.bl (!b))
  | _ => False
theorem c_notin : CmpOk X .NotIn opNotIn := by
  refine ⟨_, op_notIn_seq.or op_notIn_sign, fun c σ H S env x y v u R k r1 r2 t Q q => ?_⟩
  cases y <;> try exact (show False from t).elim
  · obtain ⟨s, c, rfl, e, t⟩ := t
    refine .inr ⟨c, _, ?_, r2, q _ H S (.bl _) k (Same.refl S) rfl t⟩
    rw [← oneSign_eq e]
    exact r1
  · obtain ⟨t1, t2, t⟩ := t
    obtain ⟨a, vs, e, h, _, l⟩ := lst_of k r2
    obtain ⟨e1, f1⟩ := rep_v r1 t1
    obtain ⟨e2, f2⟩ := repL_v l t2
    subst e1
    subst e2
    exact .inl ⟨a, _, e, .inl (SqL.of h), f1, f2, q _ H S (.bl _) k (Same.refl S) rfl t⟩
  · obtain ⟨t1, t2, t⟩ := t
    obtain ⟨a, vs, e, h, _, l⟩ := tup_of k r2
    obtain ⟨e1, f1⟩ := rep_v r1 t1
    obtain ⟨e2, f2⟩ := repL_v l t2
    subst e1
    subst e2
    exact .inl ⟨a, _, e, .inr (SqT.of h), f1, f2, q _ H S (.bl _) k (Same.refl S) rfl t⟩
theorem d_cmp {op : CmpOp} {dop : DOp} (h : CmpOk X op dop) (ha : DE X E a Ta) (hb : DE X E b Tb) (hm : behindInMarks op b = false) : DE X E (.Compare a [op] [b] pos) (xOp dop Ta Tb) := by
  obtain ⟨r, h1, h2⟩ := h
  obtain ⟨ta, p1, s1⟩ := ha
  obtain ⟨tb, p2, s2⟩ := hb
  exact ⟨_, pe_cmpR h1 p1 p2 hm, sm_op h2 s1 s2⟩
/-- a value's truth that is a bool -/
def asB (R : Bool → Prop) : D → Prop
  | .bl b => R b
  | _ => False
def xTest (T : DT) : DTT := fun env R Rx => T env (asB R) Rx
theorem smT_test {t : TE} {T : DT} (h : Sm E t T) : SmT E (tTest t) (xTest T) := fun c σ H S env R Rx x k t Q q =>
  h c σ H S env _ Rx x k t _ fun v H1 S1 d k1 s1 r1 t1 => by
    cases d <;> try exact (show False from t1).elim
    exact ⟨_, r1, q _ H1 S1 k1 s1 t1⟩
theorem dt_cmp {op : CmpOp} {dop : DOp} (h : CmpOk X op dop) (ha : DE X E a Ta) (hb : DE X E b Tb) (hm : behindInMarks op b = false) : DTe X E (.Compare a [op] [b] pos) (xTest (xOp dop Ta Tb)) := by
  obtain ⟨r, h1, h2⟩ := h
  obtain ⟨ta, p1, s1⟩ := ha
  obtain ⟨tb, p2, s2⟩ := hb
  exact ⟨_, pt_cmpR h1 p1 p2 hm, smT_test (sm_op h2 s1 s2)⟩
def xChain (o o' : DOp) (Ta Tb Tc : DT) : DT := fun env R Rx => Ta env (fun x => Tb env (fun y => o x y (asB fun k => (k = true → Tc env (fun z => o' y z R) Rx) ∧ (k = false → R (.bl false)))) Rx) Rx
theorem sm_chain {r r' : R2} {o o' : DOp} (h : SmOp r o) (h' : SmOp r' o') (ha : Sm E ta Ta) (hb : Sm E tb Tb) (hc : Sm E tc Tc) : Sm E (tChain r r' ta tb tc) (xChain o o' Ta Tb Tc) := fun c σ H S env R Rx x k t Q q =>
  ha c σ H S env _ Rx x k t _ fun v H1 S1 d1 k1 s1 r1 t1 => hb c σ H1 S1 env _ Rx x k1 t1 _ fun u H2 S2 d2 k2 s2 r2 t2 =>
    h c σ H2 S2 env d1 d2 v u _ k2 (rep_mono s2 d1 v r1) r2 t2 _ fun z H3 S3 d3 k3 s3 r3 t3 => by
      cases d3 <;> try exact (show False from t3).elim
      rename_i kk
      refine ⟨kk, r3, ?_⟩
      obtain ⟨q1, q2⟩ := t3
      cases kk with
      | true =>
        refine iteT ?_
        exact hc c σ H3 S3 env _ Rx x k3 (q1 rfl) _ fun w' H4 S4 d4 k4 s4 r4 t4 => h' c σ H4 S4 env d2 d4 u w' R k4 (rep_mono (s3.trans s4) d2 u r2) r4 t4 Q fun z H5 S5 d5 k5 s5 r5 t5 => q z H5 S5 d5 k5 ((((s1.trans s2).trans s3).trans s4).trans s5) r5 t5
      | false =>
        refine iteF ?_
        exact q _ H3 S3 (.bl false) k3 ((s1.trans s2).trans s3) rfl (q2 rfl)
theorem d_chain {op op' : CmpOp} {o o' : DOp} (h : CmpOk X op o) (h' : CmpOk X op' o') (ha : DE X E a Ta) (hb : DE X E b Tb) (hc : DE X E c Tc) (hm : lastMarks [op, op'] [b, c] = false := by with_unfolding_all rfl) :
    DE X E (.Compare a [op, op'] [b, c] pos) (xChain o o' Ta Tb Tc) := by
  obtain ⟨r, h1, h2⟩ := h
  obtain ⟨r', h1', h2'⟩ := h'
  obtain ⟨ta, p1, s1⟩ := ha
  obtain ⟨tb, p2, s2⟩ := hb
  obtain ⟨tc, p3, s3⟩ := hc
  exact ⟨_, pe_chain h1 h1' p1 p2 p3 hm, sm_chain h2 h2' s1 s2 s3⟩
variable {TA TB : DTT} {rest : List Expr}
def xAnd (T U : DTT) : DTT := fun env R Rx => T env (fun b => (b = true → U env R Rx) ∧ (b = false → R false)) Rx
def xOr (T U : DTT) : DTT := fun env R Rx => T env (fun b => (b = true → R true) ∧ (b = false → U env R Rx)) Rx
def xNot (T : DTT) : DTT := fun env R Rx => T env (fun b => R (!b)) Rx
theorem dw_pt {e : Expr} {T : DTT} (h : DWe X E e T) : DTe X E e T := by
  obtain ⟨t, p, s⟩ := h
  exact ⟨t, p.pt, s⟩
theorem dw_or1 (h : DTe X E a TA) : DWe X E (.BoolOp .Or [a] pos) TA := by
  obtain ⟨t, p, s⟩ := h
  exact ⟨t, pw_or1 p, s⟩
theorem dw_or (h : DTe X E a TA) (h2 : DWe X E (.BoolOp .Or (b :: rest) pos) TB) : DWe X E (.BoolOp .Or (a :: b :: rest) pos) (xOr TA TB) := by
  obtain ⟨t, p, s⟩ := h
  obtain ⟨u, p2, s2⟩ := h2
  refine ⟨_, pw_or p p2, fun c σ H S env R Rx x k t Q q => s c σ H S env _ Rx x k t _ fun bb H1 S1 k1 s1 t1 => ?_⟩
  cases bb with
  | true => exact iteT (q true H1 S1 k1 s1 (t1.1 rfl))
  | false => exact iteF (s2 c σ H1 S1 env R Rx x k1 (t1.2 rfl) Q fun b H2 S2 k2 s3 r => q b H2 S2 k2 (s1.trans s3) r)
theorem dt_not (h : DTe X E a TA) : DTe X E (.UnaryOp .Not a pos) (xNot TA) := by
  obtain ⟨t, p, s⟩ := h
  exact ⟨_, pt_not p, fun c σ H S env R Rx x k t Q q => s c σ H S env _ Rx x k t _ fun bb H1 S1 k1 s1 t1 => q _ H1 S1 k1 s1 t1⟩
/-- as values -/
def xAndV (Ta Tb : DT) : DT := fun env R Rx => Ta env (asB fun b => (b = true → Tb env R Rx) ∧ (b = false → R (.bl false))) Rx
def xOrV (Ta Tb : DT) : DT := fun env R Rx => Ta env (asB fun b => (b = true → R (.bl true)) ∧ (b = false → Tb env R Rx)) Rx
def xNotV (Ta : DT) : DT := fun env R Rx => Ta env (asB fun b => R (.bl (!b))) Rx
theorem d_one {op : BoolOp} (h : DE X E a Ta) : DE X E (.BoolOp op [a] pos) Ta := by
  obtain ⟨t, p, s⟩ := h
  exact ⟨t, pe_one p, s⟩
theorem d_and (h : DE X E a Ta) (h2 : DE X E (.BoolOp .And (b :: rest) pos) Tb) : DE X E (.BoolOp .And (a :: b :: rest) pos) (xAndV Ta Tb) := by
  obtain ⟨t, p, s⟩ := h
  obtain ⟨u, p2, s2⟩ := h2
  refine ⟨_, pe_and p p2, fun c σ H S env R Rx x k t Q q => s c σ H S env _ Rx x k t _ fun v H1 S1 d k1 s1 r1 t1 => ?_⟩
  cases d <;> try exact (show False from t1).elim
  rename_i bb
  refine ⟨bb, r1, ?_⟩
  have t1 : (bb = true → Tb env R Rx) ∧ (bb = false → R (.bl false)) := t1
  cases bb with
  | true => exact iteT (s2 c σ H1 S1 env R Rx x k1 (t1.1 rfl) Q fun b H2 S2 d2 k2 s3 r => q b H2 S2 d2 k2 (s1.trans s3) r)
  | false => exact iteF (q _ H1 S1 (.bl false) k1 s1 rfl (t1.2 rfl))
theorem d_not (h : DE X E a Ta) : DE X E (.UnaryOp .Not a pos) (xNotV Ta) := by
  obtain ⟨t, p, s⟩ := h
  refine ⟨_, pe_not p, fun c σ H S env R Rx x k t Q q => s c σ H S env _ Rx x k t _ fun v H1 S1 d k1 s1 r1 t1 => ?_⟩
  cases d <;> try exact (show False from t1).elim
  exact ⟨_, r1, q _ H1 S1 (.bl _) k1 s1 rfl t1⟩
def xIf (T : DTT) (Ta Tb : DT) : DT := fun env R Rx => T env (fun b => (b = true → Ta env R Rx) ∧ (b = false → Tb env R Rx)) Rx
theorem d_if {T : DTT} (h : DTe X E c T) (ha : DE X E a Ta) (hb : DE X E b Tb) : DE X E (.IfExp c a b pos) (xIf T Ta Tb) := by
  obtain ⟨t, p, s⟩ := h
  obtain ⟨ta, p1, s1⟩ := ha
  obtain ⟨tb, p2, s2⟩ := hb
  refine ⟨_, pe_ifExp p p1 p2, fun c σ H S env R Rx x k t Q q => s c σ H S env _ Rx x k t _ fun bb H1 S1 k1 s3 t1 => ?_⟩
  cases bb with
  | true => exact iteT (s1 c σ H1 S1 env R Rx x k1 (t1.1 rfl) Q fun v H2 S2 d k2 s4 r => q v H2 S2 d k2 (s3.trans s4) r)
  | false => exact iteF (s2 c σ H1 S1 env R Rx x k1 (t1.2 rfl) Q fun v H2 S2 d k2 s4 r => q v H2 S2 d k2 (s3.trans s4) r)
/-- truth of a value of any kind -/
def D.tru : D → Option Bool
  | .non => some false
  | .bl b => some b
  | .int i => some (i != 0)
  | .str s => if s.length ≤ sizeLine then some ((s.length : Int) != 0) else none
  | .lst xs => some (!xs.isEmpty)
  | .tup xs => some (!xs.isEmpty)
  | _ => none
def xTru (Ta : DT) : DTT := fun env R Rx => Ta env (fun x => ∃ b, x.tru = some b ∧ R b) Rx
theorem dt_tru (h : DE X E a Ta) (he : ∀ whole, isTrue a X.env whole = (do let v ← whole; standAt a.pos; holding [v] (truthy v)) := by intro _; rfl) : DTe X E a (xTru Ta) := by
  obtain ⟨t, p, s⟩ := h
  refine ⟨_, pt_truth p he, fun c σ H S env R Rx x k t Q q => s c σ H S env _ Rx x k t _ fun v H1 S1 d k1 s1 r1 t1 => ?_⟩
  obtain ⟨bb, e, t1⟩ := t1
  refine ⟨bb, ?_, q bb H1 S1 k1 s1 t1⟩
  cases d with
  | non => rw [show v = .non from r1]; cases e; rfl
  | bl _ => rw [show v = _ from r1]; cases e; rfl
  | int _ => rw [show v = _ from r1]; cases e; rfl
  | str z =>
    rw [show v = _ from r1]
    have e : (if z.length ≤ sizeLine then some ((z.length : Int) != 0) else none) = some bb := e
    by_cases hz : z.length ≤ sizeLine
    · rw [if_pos hz] at e
      cases e
      exact ⟨hz, rfl⟩
    · rw [if_neg hz] at e
      cases e
  | lst xs =>
    obtain ⟨a, vs, e1, h1, _, l1⟩ := lst_of k1 r1
    subst e1
    cases e
    refine .inl ⟨vs, SqL.of h1, ?_⟩
    have := l1.length
    cases xs <;> cases vs <;> simp_all
  | tup xs =>
    obtain ⟨a, vs, e1, h1, _, l1⟩ := tup_of k1 r1
    subst e1
    cases e
    refine .inr (.inl ⟨vs, SqT.of h1, ?_⟩)
    have := l1.length
    cases xs <;> cases vs <;> simp_all
  | _ => cases e
variable {es : List Expr} {Tl : DTA}
def xNil : DTA := fun _ R _ => R []
def xCons (Ta : DT) (Tl : DTA) : DTA := fun env R Rx => Ta env (fun x => Tl env (fun xs => R (x :: xs)) Rx) Rx
theorem da_nil : DA X E [] xNil := ⟨_, pa_nil, fun c σ H S env R Rx x k t Q q => q [] H S [] k (Same.refl S) repL_nil t⟩
theorem smA_cons {t : L2.TA} (ha : Sm E ta Ta) (hl : SmA E t Tl) : SmA E (tCons ta t) (xCons Ta Tl) := fun c σ H S env R Rx x k t Q q =>
  ha c σ H S env _ Rx x k t _ fun v H1 S1 d k1 s1 r1 t1 => hl c σ H1 S1 env _ Rx x k1 t1 _ fun vs H2 S2 ds k2 s2 r2 t2 => q _ H2 S2 _ k2 (s1.trans s2) (repL_cons (rep_mono s2 d v r1) r2) t2
theorem da_cons (ha : DE X E a Ta) (hl : DA X E es Tl) (hs : starEach (a :: es) X.env = (false, eval a X.env) :: starEach es X.env := by rfl) : DA X E (a :: es) (xCons Ta Tl) := by
  obtain ⟨ta, p, s⟩ := ha
  obtain ⟨t, p2, s2⟩ := hl
  exact ⟨_, pa_cons p p2 hs, smA_cons s s2⟩
def xLst (Tl : DTA) : DT := fun env R Rx => Tl env (fun xs => xs.length ≤ sizeLine ∧ R (.lst xs)) Rx
def xTup (Tl : DTA) : DT := fun env R Rx => Tl env (fun xs => xs.length ≤ sizeLine ∧ R (.tup xs)) Rx
theorem sm_tup {t : L2.TA} (h : SmA E t Tl) : Sm E (tTup t) (xTup Tl) := fun c σ H S env R Rx x k t Q q =>
  h c σ H S env _ Rx x k t _ fun vs H1 S1 ds k1 s1 r1 t1 => ⟨by rw [r1.length]; exact t1.1, fun p hp => by
    obtain ⟨k', s', r'⟩ := put_tup k1 r1 hp
    exact q _ _ _ _ k' (s1.trans s') r' t1.2⟩
theorem d_tup {x1} (h : DA X E es Tl) : DE X E (.Tuple es x1 pos) (xTup Tl) := by
  obtain ⟨t, p, s⟩ := h
  exact ⟨_, pe_tup p, sm_tup s⟩
def opIx : DOp
  | .lst xs, .int i, R => ∃ d, atI xs i = some d ∧ R d
  | .tup xs, .int i, R => ∃ d, atI xs i = some d ∧ R d
  | .str s, .int i, R => s.length ≤ sizeLine ∧ ∃ c, atI s.cps.toList i = some c ∧ R (.str ⟨#[c]⟩)
  | _, _, _ => False
theorem atI_rep {B : Option Addr} {S : Hp} {xs : List D} {vs : List V} {i : Int} {d : D} (l : RepL B S xs vs) (h : atI xs i = some d) : ∃ v, atI vs i = some v ∧ Rep B S d v := by
  unfold atI at h ⊢
  rw [l.length]
  cases e : ixN xs.length i with
  | none => rw [e] at h; cases h
  | some j =>
    rw [e] at h
    exact l.get h
theorem smOp_ix {K : PySem.W.Frag} : SmOp (rIx K) opIx := by
  intro c σ H S env x y v u R k r1 r2 t Q q
  cases x <;> cases y <;> try exact (show False from t).elim
  · obtain ⟨hz, ch, e, t⟩ := t
    exact .inr (.inr ⟨_, _, ch, r1, r2, hz, e, q _ H S (.str _) k (Same.refl S) rfl t⟩)
  · obtain ⟨d, e, t⟩ := t
    obtain ⟨a, vs, e1, h1, _, l1⟩ := lst_of k r1
    obtain ⟨w', e2, r3⟩ := atI_rep l1 e
    exact .inl ⟨a, vs, _, w', e1, r2, SqL.of h1, e2, q _ H S d k (Same.refl S) r3 t⟩
  · obtain ⟨d, e, t⟩ := t
    obtain ⟨a, vs, e1, h1, _, l1⟩ := tup_of k r1
    obtain ⟨w', e2, r3⟩ := atI_rep l1 e
    exact .inr (.inl ⟨a, vs, _, w', e1, r2, SqT.of h1, e2, q _ H S d k (Same.refl S) r3 t⟩)
theorem d_ix (ha : DE X E a Ta) (hb : DE X E b Tb) (hs : PlainIx b := by exact fun _ _ => rfl) : DE X E (.Subscript a b pos) (xOp opIx Ta Tb) := by
  obtain ⟨ta, p1, s1⟩ := ha
  obtain ⟨tb, p2, s2⟩ := hb
  exact ⟨_, pe_ix ix_seq p1 p2 hs, sm_op smOp_ix s1 s2⟩
/-- xs[e], xs a list of the frame's own in slot i -/
def xIxO (i : Nat) (Tb : DT) : DT := fun env R Rx => ∃ xs, env[i]? = some (some (.own xs)) ∧ Tb env (fun y => match y with
  | .int j => ∃ d, atI xs j = some d ∧ R d
  | _ => False) Rx
theorem own_of {c : Fm} {σ : St} {H S : Hp} {env : En} {i : Nat} {xs : List D} (k : Kn c σ H S env) (e : env[i]? = some (some (.own xs))) : ∃ p vs, σ[i]? = some (some (.ref p)) ∧ S p = none ∧ c.H0 p = none ∧ H p = some (.lst vs) ∧ RepL c.B S xs vs := by
  obtain ⟨v, e1, p, vs, rfl, h⟩ := k.sl i _ e
  exact ⟨p, vs, e1, h⟩
theorem d_ixO (i : Nat) {x : Str} {p1 : Pos} (hb : DE X E b Tb) (hN : X.N[i]? = some x := by rfl) (hv : Vis X.env.scope x := by first | exact Or.inl rfl | exact Or.inr (Or.inl rfl) | exact Or.inr (Or.inr rfl)) (hs : PlainIx b := by exact fun _ _ => rfl)
    (hd : (x == ("__debug__" : Str)) = false := by decide) (hcd : (x == ("__classdict__" : Str)) = false := by decide) : DE X E (.Subscript (.Name x p1) b pos) (xIxO i Tb) := by
  obtain ⟨tb, p2, s2⟩ := hb
  refine ⟨_, pe_ix ix_list (pv i hN hv hd hcd) p2 hs, fun c σ H S env R Rx x k t Q q => ?_⟩
  obtain ⟨xs, e, t⟩ := t
  obtain ⟨p, vs, e1, h⟩ := own_of k e
  refine ⟨_, e1, s2 c σ H S env _ Rx x k t _ fun v H1 S1 d k1 s1 r1 t1 => ?_⟩
  cases d <;> try exact (show False from t1).elim
  obtain ⟨d, e2, t1⟩ := t1
  obtain ⟨p', vs', e1', h'⟩ := own_of k1 e
  rw [e1] at e1'
  cases e1'
  obtain ⟨w', e3, r3⟩ := atI_rep h'.2.2.2 e2
  exact ⟨p, vs', _, w', rfl, r1, SqL.of h'.2.2.1, e3, q _ H1 S1 d k1 s1 r3 t1⟩
abbrev DTO := En → (Option Int → Prop) → (Er → Prop) → Prop
def SmO (E : XK) (t : TO) (T : DTO) : Prop := ∀ (c : Fm) (σ : St) (H S : Hp) (env : En) (R : Option Int → Prop) (Rx : Er → Prop), XOk c E Rx → Kn c σ H S env → T env R Rx →
  ∀ Q : Option Int → Hp → Prop, (∀ o H' S', Kn c σ H' S' env → Same S S' → R o → Q o H') → t σ H Q
def DO (X : Cx) (E : XK) (e : Option Expr) (T : DTO) : Prop := ∃ t, PO X e t ∧ SmO E t T
def xNoPart : DTO := fun _ R _ => R none
def asI (R : Int → Prop) : D → Prop
  | .int i => R i
  | _ => False
def xPart (Ta : DT) : DTO := fun env R Rx => Ta env (asI fun i => R (some i)) Rx
theorem do_none : DO X E none xNoPart := ⟨_, po_none, fun c σ H S env R Rx x k t Q q => q none H S k (Same.refl S) t⟩
theorem do_some (h : DE X E a Ta) : DO X E (some a) (xPart Ta) := by
  obtain ⟨t, p, s⟩ := h
  refine ⟨_, po_some p, fun c σ H S env R Rx x k t Q q => s c σ H S env _ Rx x k t _ fun v H1 S1 d k1 s1 r1 t1 => ?_⟩
  cases d <;> try exact (show False from t1).elim
  exact ⟨_, r1, q _ H1 S1 k1 s1 t1⟩
def cutD (xs : List D) (lo hi : Option Int) : List D := (xs.drop (HT.sIx xs.length 0 lo)).take (HT.sIx xs.length xs.length hi - HT.sIx xs.length 0 lo)
theorem cut_rep {B : Option Addr} {S : Hp} {xs : List D} {vs : List V} {lo hi : Option Int} (l : RepL B S xs vs) : RepL B S (cutD xs lo hi) (cutV vs lo hi) := by
  unfold cutD cutV
  rw [l.length]
  exact (l.drop _).take _
def opSl (x : D) (lo hi : Option Int) (R : D → Prop) : Prop := match x with
  | .lst xs => R (.lst (cutD xs lo hi))
  | .tup xs => R (.tup (cutD xs lo hi))
  | .str z => z.length ≤ sizeLine ∧ R (.str (cutS z lo hi))
  | _ => False
def xSl (Ta : DT) (Tl Th : DTO) : DT := fun env R Rx => Ta env (fun x => Tl env (fun lo => Th env (fun hi => opSl x lo hi R) Rx) Rx) Rx
theorem cutD_all {xs : List D} {lo hi : Option Int} (h : HT.sIx xs.length 0 lo = 0 ∧ HT.sIx xs.length xs.length hi = xs.length) : cutD xs lo hi = xs := by
  unfold cutD
  rw [h.1, h.2]
  simp
theorem d_slice {lo hi : Option Expr} {Tl Th : DTO} {p2 : Pos} (ha : DE X E a Ta) (hl : DO X E lo Tl) (hh : DO X E hi Th) : DE X E (.Subscript a (.Slice lo hi none p2) pos) (xSl Ta Tl Th) := by
  obtain ⟨ta, pa, sa⟩ := ha
  obtain ⟨tl, pl, sl⟩ := hl
  obtain ⟨th, ph, sh⟩ := hh
  refine ⟨_, pe_slice (sl_list.or (sl_tupA.or sl_str)) pa pl ph, fun c σ H S env R Rx x k t Q q => sa c σ H S env _ Rx x k t _ fun v H1 S1 d k1 s1 r1 t1 => ?_⟩
  refine sl c σ H1 S1 env _ Rx x k1 t1 _ fun lo H2 S2 k2 s2 t2 => sh c σ H2 S2 env _ Rx x k2 t2 _ fun hi H3 S3 k3 s3 t3 => ?_
  have r3 := rep_mono (s2.trans s3) d v r1
  have ss := (s1.trans s2).trans s3
  cases d <;> try exact (show False from t3).elim
  · exact .inr (.inr ⟨_, r3, t3.1, q _ H3 S3 (.str _) k3 ss rfl t3.2⟩)
  · obtain ⟨a, vs, e1, h1, _, l1⟩ := lst_of k3 r3
    refine .inl ⟨a, vs, e1, SqL.of h1, fun p hp => ?_⟩
    obtain ⟨k', s', r'⟩ := put_lst k3 (cut_rep l1) hp
    exact q _ _ _ _ k' (ss.trans s') r' t3
  · obtain ⟨a, vs, e1, h1, hS, l1⟩ := tup_of k3 r3
    refine .inr (.inl ⟨a, vs, e1, SqT.of h1, fun hw => ?_, fun _ p hp => ?_⟩)
    · rw [l1.length] at hw
      have t4 : R (.tup (cutD _ lo hi)) := t3
      rw [cutD_all hw] at t4
      exact q _ H3 S3 (.tup _) k3 ss ⟨a, vs, rfl, hS, l1⟩ t4
    · obtain ⟨k', s', r'⟩ := put_tup k3 (cut_rep l1) hp
      exact q _ _ _ _ k' (ss.trans s') r' t3
end
end DL
namespace DL
open PySem PySem.Spec L2
variable [TbC]
section
variable {c : Fm} {σ : St} {H H' S S' : Hp} {env : En} {i : Nat} {d : D} {v : V} {p : Addr} {vs : List V} {ds xs : List D}
/-- p is nothing of the frame's own -/
def Free (σ : St) (env : En) (p : Addr) : Prop := ∀ (j : Nat) (x : DV) (v : V), env[j]? = some (some x) → σ[j]? = some (some v) → ¬ Foot x v p
theorem get_set {env : En} {i j : Nat} {o : Option DV} {x : DV} (e : (env.set i o)[j]? = some (some x)) : (i = j ∧ o = some x ∧ i < env.length) ∨ (i ≠ j ∧ env[j]? = some (some x)) := by
  by_cases z : i = j
  · subst z
    rw [List.getElem?_set] at e
    simp only [if_true] at e
    split at e
    · rename_i hi
      exact .inl ⟨rfl, Option.some.inj e, hi⟩
    · cases e
  · rw [List.getElem?_set_ne z] at e
    exact .inr ⟨z, e⟩
theorem Free.set (f : Free σ env p) {o : Option DV} (h : ∀ x v, o = some x → σ[i]? = some (some v) → ¬ Foot x v p) : Free σ (env.set i o) p := fun j x v e e2 => by
  rcases get_set e with ⟨rfl, q, _⟩ | ⟨_, e⟩
  · exact h x v q e2
  · exact f j x v e e2
theorem Free.clear (f : Free σ env p) : Free σ (env.set i none) p := f.set fun _ _ q => nomatch q
theorem Kn.put (k : Kn c σ H S env) {x : DV} (r : DvR c S H x v) (f : ∀ a, Foot x v a → Free σ (env.set i none) a) : Kn c (σ.set i (some v)) H S (env.set i (some x)) := by
  refine ⟨k.kf, by rw [List.length_set, List.length_set]; exact k.len, fun j y e => ?_, fun m n y z u w a hmn e1 e2 e3 e4 f1 f2 => ?_⟩
  · rcases get_set e with ⟨rfl, q, hi⟩ | ⟨z, e⟩
    · cases q
      have hi2 : i < σ.length := by rw [← k.len]; exact hi
      exact ⟨v, by rw [List.getElem?_set]; simp [hi2], r⟩
    · rw [List.getElem?_set_ne z]
      exact k.sl j y e
  · have at_i : ∀ {o : V}, (σ.set i (some v))[i]? = some (some o) → o = v := fun {o} q => by
      rw [List.getElem?_set] at q
      simp only [if_true] at q
      split at q <;> cases q
      rfl
    rcases get_set e1 with ⟨rfl, q, _⟩ | ⟨z1, e1⟩
    · cases q
      obtain rfl := at_i e3
      rw [List.getElem?_set_ne hmn] at e4
      exact f a f1 n z w (by rw [List.getElem?_set_ne hmn] at e2 ⊢; exact e2) e4 f2
    · rw [List.getElem?_set_ne z1] at e3
      rcases get_set e2 with ⟨rfl, q, _⟩ | ⟨z2, e2⟩
      · cases q
        obtain rfl := at_i e4
        exact f a f2 m y u (by rw [List.getElem?_set_ne z1]; exact e1) e3 f1
      · rw [List.getElem?_set_ne z2] at e4
        exact k.apart m n y z u w a hmn e1 e2 e3 e4 f1 f2
theorem Kn.set (k : Kn c σ H S env) (r : Rep c.B S d v) : Kn c (σ.set i (some v)) H S (env.set i (some (.val d))) := k.put (x := .val d) r fun _ f => f.elim
theorem Kn.free (k : Kn c σ H S env) (h : H p = none) : Free σ env p := fun j x v e e2 f => by
  obtain ⟨u, e1, r⟩ := k.sl j _ e
  rw [e1] at e2
  cases e2
  exact (r.foot p f).2.2.1 h
theorem Kn.setOwn (k : Kn c σ H S env) (h1 : S p = none) (h2 : c.H0 p = none) (h3 : H p = some (.lst vs)) (l : RepL c.B S ds vs) (f : Free σ env p) : Kn c (σ.set i (some (.ref p))) H S (env.set i (some (.own ds))) :=
  k.put (x := .own ds) ⟨p, vs, rfl, h1, h2, h3, l⟩ fun a e => by
    cases e
    exact f.clear
theorem set_id {α : Type} : ∀ {l : List α} {i : Nat} {x : α}, l[i]? = some x → l.set i x = l
  | [], _, _, e => by simp at e
  | a :: l, 0, x, e => by simp at e; subst e; rfl
  | a :: l, i + 1, x, e => by
    rw [List.set_cons_succ, set_id (by simpa using e)]
/-- what a name holds is forgotten -/
theorem Kn.clear (k : Kn c σ H S env) : Kn c σ H S (env.set i none) :=
  ⟨k.kf, by rw [List.length_set]; exact k.len, fun j x ej => by
    rcases get_set ej with ⟨_, q, _⟩ | ⟨_, ej⟩
    · cases q
    · exact k.sl j x ej, fun m n y z u w a hmn e1 e2 e3 e4 => by
    rcases get_set e1 with ⟨_, q, _⟩ | ⟨_, e1⟩
    · cases q
    rcases get_set e2 with ⟨_, q, _⟩ | ⟨_, e2⟩
    · cases q
    exact k.apart m n y z u w a hmn e1 e2 e3 e4⟩
/-- what a name holds for itself is nothing of the other names' -/
theorem Kn.mine (k : Kn c σ H S env) {x : DV} (e : env[i]? = some (some x)) (e1 : σ[i]? = some (some v)) {a : Addr} (f : Foot x v a) : Free σ (env.set i none) a := fun j y u ej e4 f2 => by
  rcases get_set ej with ⟨_, q, _⟩ | ⟨z, ej⟩
  · cases q
  · exact k.apart i j x y v u a z e ej e1 e4 f f2
theorem Kf.updFF {o0 o : HO} (k : Kf c H S) (h1 : S p = none) (h2 : c.H0 p = none) (h3 : H p = some o0) (h4 : (∀ ps, o0 ≠ .tbl ps) ∧ ¬ Fx o0) : Kf c (upd H p o) S := by
  have nb : c.B ≠ some p := fun z => (k.bag p z).2 h2
  refine ⟨fun a u ea => ?_, k.s0, fun a u ea nea => ?_, k.new, fun b eb => ?_, ⟨k.tab.1.updHF (fun v e => by rw [h3] at e; cases e; exact h4) fun _ _ e => e, k.tab.2⟩⟩
  · rw [upd_ne (ne_of_none ea h1)]
    exact k.sub a u ea
  · rw [upd_ne (ne_of_none ea h2)]
    exact k.old a u ea nea
  · obtain ⟨⟨b1, cs, i, g, st, n, b2, b3⟩, b4⟩ := k.bag b eb
    refine ⟨⟨b1, cs, i, g, st, n, ?_, b3⟩, b4⟩
    rw [upd_ne (fun z => nb (by rw [← z]; exact eb))]
    exact b2
/-- a thing that no name holds changes -/
theorem Kn.updFF {o0 o : HO} (k : Kn c σ H S env) (h1 : S p = none) (h2 : c.H0 p = none) (h3 : H p = some o0) (h4 : (∀ ps, o0 ≠ .tbl ps) ∧ ¬ Fx o0) (f : Free σ env p) : Kn c σ (upd H p o) S env := by
  refine ⟨k.kf.updFF h1 h2 h3 h4, k.len, fun j x ej => ?_, k.apart⟩
  obtain ⟨v, ev, r⟩ := k.sl j x ej
  refine ⟨v, ev, r.keep rfl (Same.refl S) fun a fa => ?_⟩
  obtain ⟨f1, f2, _⟩ := r.foot a fa
  refine ⟨f1, f2, fun u e => ?_⟩
  rw [upd_ne (fun z => f j x v ej ev (by rw [← z]; exact fa))]
  exact e
theorem Kf.updF {o0 o : HO} (k : Kf c H S) (h1 : S p = none) (h2 : c.H0 p = none) (h3 : H p = some o0) (h4 : (∀ ps, o0 ≠ .tbl ps) ∧ ∀ φ, o0 ≠ .ext φ) : Kf c (upd H p o) S := k.updFF h1 h2 h3 ⟨h4.1, fx_not h4.2⟩
theorem Kn.updF {o0 o : HO} (k : Kn c σ H S env) (h1 : S p = none) (h2 : c.H0 p = none) (h3 : H p = some o0) (h4 : (∀ ps, o0 ≠ .tbl ps) ∧ ∀ φ, o0 ≠ .ext φ) (f : Free σ env p) : Kn c σ (upd H p o) S env := k.updFF h1 h2 h3 ⟨h4.1, fx_not h4.2⟩ f
/-- a list of the frame's own changes -/
theorem Kn.change (k : Kn c σ H S env) (e : env[i]? = some (some (.own xs))) (e1 : σ[i]? = some (some (.ref p))) (l : RepL c.B S ds vs) : Kn c σ (upd H p (.lst vs)) S (env.set i (some (.own ds))) := by
  obtain ⟨v, e2, q, ws, rfl, h1, h2, h3, _⟩ := k.sl i _ e
  rw [e1] at e2
  cases e2
  have f : Free σ (env.set i none) p := k.mine e e1 rfl
  have k3 := ((k.clear (i := i)).updF (o := .lst vs) h1 h2 h3 lst_ne f).setOwn (i := i) h1 h2 upd_same l f
  rw [List.set_set, set_id e1] at k3
  exact k3
/-- .. stays as it is from now on -/
theorem Kn.freeze (k : Kn c σ H S env) (h1 : S p = none) (h2 : c.H0 p = none) (h3 : H p = some (.lst vs)) (l : RepL c.B S ds vs) (f : Free σ env p) :
    Kn c σ H (upd S p (.lst vs)) env ∧ Same S (upd S p (.lst vs)) ∧ Rep c.B (upd S p (.lst vs)) (.lst ds) (.ref p) := by
  have s : Same S (upd S p (.lst vs)) := same_upd h1
  refine ⟨⟨⟨fun a o e => ?_, k.kf.s0.trans s, k.kf.old, fun a e n => ?_, fun b eb => ?_, ⟨k.kf.tab.1.frz h3, k.kf.tab.2⟩⟩, k.len, fun j x e => ?_, k.apart⟩, s, p, vs, rfl, upd_same, repL_mono s ds vs l⟩
  · by_cases z : a = p
    · subst z
      rw [upd_same] at e
      rw [h3]
      exact e
    · rw [upd_ne z] at e
      exact k.kf.sub a o e
  · rw [upd_ne (fun z => n.1 (by rw [z]; exact h2))]
    exact k.kf.new a e n
  · obtain ⟨⟨b1, cs, i, g, st, n, b2, b3, b4⟩, b5⟩ := k.kf.bag b eb
    refine ⟨⟨?_, cs, i, g, st, n, b2, s _ _ b3, b4⟩, b5⟩
    rw [upd_ne (fun z => b5 (by rw [z]; exact h2))]
    exact b1
  · obtain ⟨v, ev, r⟩ := k.sl j x e
    refine ⟨v, ev, r.keep rfl s fun a fa => ?_⟩
    obtain ⟨f1, f2, _⟩ := r.foot a fa
    refine ⟨?_, f2, fun _ e => e⟩
    rw [upd_ne (fun z => f j x v e ev (by rw [← z]; exact fa))]
    exact f1
theorem Kn.frz (k : Kn c σ H S env) (e : env[i]? = some (some (.own xs))) : ∃ S', Kn c σ H S' (env.set i (some (.val (.lst xs)))) ∧ Same S S' := by
  obtain ⟨v, e2, p, vs, rfl, h1, h2, h3, l⟩ := k.sl i _ e
  have f : Free σ (env.set i none) p := k.mine e e2 rfl
  obtain ⟨k2, s2, r2⟩ := (k.clear (i := i)).freeze h1 h2 h3 l f
  have k3 := k2.set (i := i) r2
  rw [List.set_set, set_id e2] at k3
  exact ⟨_, k3, s2⟩
end
abbrev DTF := En → (List D → Prop) → (Er → Prop) → Prop
def SmF (E : XK) (t : TE) (T : DTF) : Prop := ∀ (c : Fm) (σ : St) (H S : Hp) (env : En) (R : List D → Prop) (Rx : Er → Prop), XOk c E Rx → Kn c σ H S env → T env R Rx →
  ∀ Q : VK, (∀ p vs H' S' ds, Kn c σ H' S' env → Same S S' → c.H0 p = none → Free σ env p → S' p = none → H' p = some (.lst vs) → RepL c.B S' ds vs → R ds → Q (.ref p) H') → t σ H Q
def DF (X : Cx) (E : XK) (e : Expr) (T : DTF) : Prop := ∃ t, PE X e t ∧ SmF E t T
def xF (T : DTF) : DT := fun env R Rx => T env (fun xs => R (.lst xs)) Rx
section
variable {X : Cx} {E : XK} {pos : Pos} {a b e : Expr} {Ta Tb : DT} {Tl : DTA} {T : DTF} {es : List Expr}
theorem d_ofF (h : DF X E a T) : DE X E a (xF T) := by
  obtain ⟨t, p, s⟩ := h
  refine ⟨t, p, fun c σ H S env R Rx x k t Q q => s c σ H S env _ Rx x k t Q fun p vs H1 S1 ds k1 s1 n0 f n2 e1 l1 r1 => ?_⟩
  obtain ⟨k2, s2, r2⟩ := k1.freeze n2 n0 e1 l1 f
  exact q _ H1 _ _ k2 (s1.trans s2) r2 r1
end
abbrev DFn := List D → (D → Prop) → Prop
def SmC (r : List V → Hp → VK → Prop) (F : DFn) : Prop := ∀ (c : Fm) (σ : St) (H S : Hp) (env : En) (xs : List D) (vs : List V) (R : D → Prop), Kn c σ H S env → RepL c.B S xs vs → F xs R →
  ∀ Q : VK, (∀ z H' S' d, Kn c σ H' S' env → Same S S' → Rep c.B S' d z → R d → Q z H') → r vs H Q
def CallOk (X : Cx) (f : Value) (F : DFn) : Prop := ∃ r, CallR X f r ∧ SmC r F
def xCB (F : DFn) (Tl : DTA) : DT := fun env R Rx => Tl env (fun xs => F xs R) Rx
section
variable {X : Cx} {E : XK} {p pos : Pos} {x : Str} {id ty : String} {a b e : Expr} {Ta Tb : DT} {Tl : DTA} {es : List Expr} {F : DFn}
theorem sm_cb {r : List V → Hp → VK → Prop} {t : L2.TA} (h : SmC r F) (hl : SmA E t Tl) : Sm E (tCB r t) (xCB F Tl) := fun c σ H S env R Rx x k t Q q =>
  hl c σ H S env _ Rx x k t _ fun vs H1 S1 ds k1 s1 r1 t1 => h c σ H1 S1 env ds vs R k1 r1 t1 Q fun z H2 S2 d k2 s2 r2 t2 => q z H2 S2 d k2 (s1.trans s2) r2 t2
theorem d_callB (h : CallOk X (.builtin id) F) (hm : X.mg x = none) (hv : bootBuiltins x = some (.builtin id)) (ha : DA X E (e :: es) Tl) (hg : Gl X x := by rfl) (hn : x ≠ "__name__" := by decide) (hdb : (x == ("__debug__" : Str)) = false := by decide)
    (he : starEach (e :: es) X.env = (false, eval e X.env) :: starEach es X.env := by rfl) (hpl : (backTo pos (starEach es X.env)).any (·.1) = false := by rfl) : DE X E (.Call (.Name x p) (e :: es) [] pos) (xCB F Tl) := by
  obtain ⟨r, h1, h2⟩ := h
  obtain ⟨t, pa, sa⟩ := ha
  exact ⟨_, pe_callB h1 hg hm hv pa hn hdb he hpl, sm_cb h2 sa⟩
theorem d_callT (h : CallOk X (.type ty) F) (hm : X.mg x = none) (hv : bootBuiltins x = some (.type ty)) (ha : DA X E (e :: es) Tl) (hg : Gl X x := by rfl) (hn : x ≠ "__name__" := by decide) (hdb : (x == ("__debug__" : Str)) = false := by decide)
    (he : starEach (e :: es) X.env = (false, eval e X.env) :: starEach es X.env := by rfl) (hpl : (backTo pos (starEach es X.env)).any (·.1) = false := by rfl) : DE X E (.Call (.Name x p) (e :: es) [] pos) (xCB F Tl) := by
  obtain ⟨r, h1, h2⟩ := h
  obtain ⟨t, pa, sa⟩ := ha
  exact ⟨_, pe_callTy h1 hg hm hv pa hn hdb he hpl, sm_cb h2 sa⟩
/-- a built-in type as a value -/
theorem d_bty (hm : X.mg x = none) (hv : bootBuiltins x = some (.type ty)) (hg : Gl X x := by rfl) (hn : x ≠ "__name__" := by decide) (hdb : (x == ("__debug__" : Str)) = false := by decide) : DE X E (.Name x pos) (xC (.ty ty)) :=
  ⟨_, pe_bltn (v := .ty ty) hg hm hv rfl hn hdb, sm_c fun _ _ => rfl⟩
theorem rep1 {B : Option Addr} {S : Hp} {d : D} {vs : List V} (r : RepL B S [d] vs) : ∃ v, vs = [v] ∧ Rep B S d v := by
  obtain ⟨v, ws, e, r1, t⟩ := repL_cons_of r
  rw [repL_nil_of t] at e
  exact ⟨v, e, r1⟩
theorem rep2 {B : Option Addr} {S : Hp} {d d' : D} {vs : List V} (r : RepL B S [d, d'] vs) : ∃ v v', vs = [v, v'] ∧ Rep B S d v ∧ Rep B S d' v' := by
  obtain ⟨v, ws, e, r1, t⟩ := repL_cons_of r
  obtain ⟨v', ws', e', r2, t2⟩ := repL_cons_of t
  rw [repL_nil_of t2] at e'
  rw [e'] at e
  exact ⟨v, v', e, r1, r2⟩
/-- len -/
def fLen : DFn
  | [.str s], R => s.length ≤ sizeLine ∧ R (.int s.length)
  | [.lst xs], R => R (.int xs.length)
  | [.tup xs], R => R (.int xs.length)
  | _, _ => False
theorem b_len : CallOk X (.builtin "len") fLen := by
  refine ⟨_, call_len, fun c σ H S env xs vs R k r t Q q => ?_⟩
  unfold fLen at t
  split at t <;> try exact t.elim
  · obtain ⟨v, rfl, r1⟩ := rep1 r
    exact ⟨v, _, rfl, by rw [show v = _ from r1]; exact ⟨t.1, rfl⟩, q _ H S (.int _) k (Same.refl S) rfl t.2⟩
  · obtain ⟨v, rfl, r1⟩ := rep1 r
    obtain ⟨a, vs, rfl, h1, _, l1⟩ := lst_of k r1
    exact ⟨_, _, rfl, .inl ⟨vs, SqL.of h1, rfl⟩, q _ H S (.int _) k (Same.refl S) (by rw [l1.length]; rfl) t⟩
  · obtain ⟨v, rfl, r1⟩ := rep1 r
    obtain ⟨a, vs, rfl, h1, _, l1⟩ := tup_of k r1
    exact ⟨_, _, rfl, .inr ⟨vs, SqT.of h1, rfl⟩, q _ H S (.int _) k (Same.refl S) (by rw [l1.length]; rfl) t⟩
/-- len(xs), xs of the frame's own -/
def xLenO (i : Nat) : DT := fun env R _ => ∃ xs, env[i]? = some (some (.own xs)) ∧ R (.int (xs.length : Nat))
/-- isinstance against built-in types -/
def D.isi : D → String → Option Bool
  | .non, n => some (n == "NoneType")
  | .bl _, n => some (n == "bool" || n == "int")
  | .int _, n => some (n == "int")
  | .str _, n => some (n == "str")
  | .lst _, n => some (n == "list")
  | .tup _, n => some (n == "tuple")
  | _, _ => none
def tys : List String := ["int", "bool", "str", "list", "tuple"]
def fIsi : DFn
  | [x, .ty n], R => n ∈ tys ∧ ∃ b, x.isi n = some b ∧ R (.bl b)
  | [x, .tup [.ty n, .ty m]], R => n ∈ tys ∧ m ∈ tys ∧ ∃ b b', x.isi n = some b ∧ x.isi m = some b' ∧ R (.bl (b || b'))
  | _, _ => False
theorem isi_ok {c : Fm} {σ : St} {H S : Hp} {env : En} {K : PySem.W.Frag} {d : D} {v : V} (k : Kn c σ H S env) (r : Rep c.B S d v) : (∀ n, d.isi n = none) ∨ ∃ t, TyX K H v t ∧ ∀ n ∈ tys, ∃ b, d.isi n = some b ∧ PySem.W.kitOne K t (.type n) = some b := by
  cases d with
  | non => exact .inr ⟨_, by rw [show v = _ from r]; exact .base .non, by intro n hn; simp only [tys, List.mem_cons, List.not_mem_nil, or_false] at hn; rcases hn with rfl | rfl | rfl | rfl | rfl <;> exact ⟨_, rfl, kit_ty (by decide +kernel)⟩⟩
  | bl b => exact .inr ⟨_, by rw [show v = _ from r]; exact .base (.bl b), by intro n hn; simp only [tys, List.mem_cons, List.not_mem_nil, or_false] at hn; rcases hn with rfl | rfl | rfl | rfl | rfl <;> exact ⟨_, rfl, kit_ty (by decide +kernel)⟩⟩
  | int i => exact .inr ⟨_, by rw [show v = _ from r]; exact .base (.int i), by intro n hn; simp only [tys, List.mem_cons, List.not_mem_nil, or_false] at hn; rcases hn with rfl | rfl | rfl | rfl | rfl <;> exact ⟨_, rfl, kit_ty (by decide +kernel)⟩⟩
  | str s => exact .inr ⟨_, by rw [show v = _ from r]; exact .base (.str s), by intro n hn; simp only [tys, List.mem_cons, List.not_mem_nil, or_false] at hn; rcases hn with rfl | rfl | rfl | rfl | rfl <;> exact ⟨_, rfl, kit_ty (by decide +kernel)⟩⟩
  | lst xs =>
    obtain ⟨a, vs, rfl, h1, _, l1⟩ := lst_of k r
    exact .inr ⟨_, .base (.lst h1), by intro n hn; simp only [tys, List.mem_cons, List.not_mem_nil, or_false] at hn; rcases hn with rfl | rfl | rfl | rfl | rfl <;> exact ⟨_, rfl, kit_ty (by decide +kernel)⟩⟩
  | tup xs =>
    obtain ⟨a, vs, rfl, h1, _, l1⟩ := tup_of k r
    exact .inr ⟨_, .base (.tup h1), by intro n hn; simp only [tys, List.mem_cons, List.not_mem_nil, or_false] at hn; rcases hn with rfl | rfl | rfl | rfl | rfl <;> exact ⟨_, rfl, kit_ty (by decide +kernel)⟩⟩
  | _ => exact .inl fun _ => rfl
theorem b_isi : CallOk X (.builtin "isinstance") fIsi := by
  refine ⟨_, call_isi.or call_isiT, fun c σ H S env xs vs R k r t Q q => ?_⟩
  unfold fIsi at t
  split at t <;> try exact t.elim
  · obtain ⟨hn, bb, eb, t⟩ := t
    obtain ⟨v, v', rfl, r1, r2⟩ := rep2 r
    rcases isi_ok (K := X.K) k r1 with z | ⟨ty, tx, kk⟩
    · rw [z] at eb; cases eb
    · obtain ⟨b2, e2, e3⟩ := kk _ hn
      rw [eb] at e2
      cases e2
      exact .inl ⟨v, v', ty, _, bb, rfl, by rw [show v' = _ from r2]; exact .ty _, tx, e3, q _ H S (.bl _) k (Same.refl S) rfl t⟩
  · obtain ⟨hn, hm, bb, bb', eb, eb', t⟩ := t
    obtain ⟨v, v', rfl, r1, r2⟩ := rep2 r
    obtain ⟨a, us, rfl, h1, _, l1⟩ := tup_of k r2
    obtain ⟨w1, w2, rfl, q1, q2⟩ := rep2 l1
    cases (show w1 = _ from q1)
    cases (show w2 = _ from q2)
    rcases isi_ok (K := X.K) k r1 with z | ⟨ty, tx, kk⟩
    · rw [z] at eb; cases eb
    · obtain ⟨b2, e2, e3⟩ := kk _ hn
      obtain ⟨b3, e4, e5⟩ := kk _ hm
      rw [eb] at e2
      cases e2
      rw [eb'] at e4
      cases e4
      refine .inr ⟨v, a, _, ty, _, _, rfl, h1, .cons (.ty _) (.cons (.ty _) .nil), tx, kitAny_cons e3 (fun z => ?_) (fun z => by rw [z]; rfl), q _ H S (.bl (bb || bb')) k (Same.refl S) rfl t⟩
      subst z
      rw [Bool.false_or]
      refine kitAny_cons e5 (fun z => ?_) (fun z => z)
      rw [z]
      exact kitAny_nil
/-- int -/
def fInt : DFn
  | [.int i], R => R (.int i)
  | [.bl b], R => R (.int (if b then 1 else 0))
  | _, _ => False
theorem b_int : CallOk X (.type "int") fInt := by
  refine ⟨_, call_int1, fun c σ H S env xs vs R k r t Q q => ?_⟩
  unfold fInt at t
  split at t <;> try exact t.elim
  · obtain ⟨v, rfl, r1⟩ := rep1 r
    exact .inl ⟨_, by rw [show v = _ from r1], q _ H S (.int _) k (Same.refl S) rfl t⟩
  · obtain ⟨v, rfl, r1⟩ := rep1 r
    exact .inr ⟨_, by rw [show v = _ from r1], q _ H S (.int _) k (Same.refl S) rfl t⟩
def fAbs : DFn
  | [.int i], R => R (.int (if i < 0 then -i else i))
  | _, _ => False
def fMin2 : DFn
  | [.int i, .int j], R => R (.int (if j < i then j else i))
  | _, _ => False
def fMax2 : DFn
  | [.int i, .int j], R => R (.int (if j > i then j else i))
  | _, _ => False
/-- the ints, the bools of a list -/
def asInts : List D → Option (List Int)
  | [] => some []
  | .int i :: r => (asInts r).map (i :: ·)
  | _ :: _ => none
def asBls : List D → Option (List Bool)
  | [] => some []
  | .bl i :: r => (asBls r).map (i :: ·)
  | _ :: _ => none
theorem asInts_eq : ∀ {ds : List D} {ns : List Int}, asInts ds = some ns → ds = ns.map D.int
  | [], _, e => by cases e; rfl
  | .int i :: r, ns, e => by
    have e : (asInts r).map (i :: ·) = some ns := e
    cases h : asInts r with
    | none => rw [h] at e; cases e
    | some ms =>
      rw [h] at e
      cases e
      rw [asInts_eq h]
      rfl
  | .non :: _, _, e | .bl _ :: _, _, e | .str _ :: _, _, e | .ty _ :: _, _, e | .adr _ :: _, _, e | .fn _ _ _ :: _, _, e | .exc _ _ _ _ _ :: _, _, e | .dct _ _ :: _, _, e | .dcT _ _ :: _, _, e | .bag :: _, _, e | .lst _ :: _, _, e | .tup _ :: _, _, e | .obj _ _ _ :: _, _, e => nomatch e
theorem asBls_eq : ∀ {ds : List D} {ns : List Bool}, asBls ds = some ns → ds = ns.map D.bl
  | [], _, e => by cases e; rfl
  | .bl i :: r, ns, e => by
    have e : (asBls r).map (i :: ·) = some ns := e
    cases h : asBls r with
    | none => rw [h] at e; cases e
    | some ms =>
      rw [h] at e
      cases e
      rw [asBls_eq h]
      rfl
  | .non :: _, _, e | .int _ :: _, _, e | .str _ :: _, _, e | .ty _ :: _, _, e | .adr _ :: _, _, e | .fn _ _ _ :: _, _, e | .exc _ _ _ _ _ :: _, _, e | .dct _ _ :: _, _, e | .dcT _ _ :: _, _, e | .bag :: _, _, e | .lst _ :: _, _, e | .tup _ :: _, _, e | .obj _ _ _ :: _, _, e => nomatch e
theorem asInts_map (ns : List Int) : asInts (ns.map D.int) = some ns := by
  induction ns with
  | nil => rfl
  | cons n ns ih => show (asInts (ns.map D.int)).map (n :: ·) = _; rw [ih]; rfl
theorem asBls_map (ns : List Bool) : asBls (ns.map D.bl) = some ns := by
  induction ns with
  | nil => rfl
  | cons n ns ih => show (asBls (ns.map D.bl)).map (n :: ·) = _; rw [ih]; rfl
theorem RepL.bls {B : Option Addr} {S : Hp} {ns : List Bool} : ∀ {vs : List V}, RepL B S (ns.map D.bl) vs → vs = ns.map V.bl := by
  induction ns with
  | nil => intro vs h; exact repL_nil_of h
  | cons n ns ih =>
    intro vs h
    obtain ⟨u, ws, rfl, r1, t⟩ := repL_cons_of h
    rw [ih t, show u = V.bl n from r1]
    rfl
def fSum : DFn
  | [.lst xs], R => ∃ ns, asInts xs = some ns ∧ R (.int ns.sum)
  | _, _ => False
theorem b_sum (hc : X.calm = true) : CallOk X (.builtin "sum") fSum := by
  refine ⟨_, cr_sum hc, fun c σ H S env xs vs R k r t Q q => ?_⟩
  unfold fSum at t
  split at t <;> try exact t.elim
  obtain ⟨ns, e, t⟩ := t
  obtain ⟨v, rfl, r1⟩ := rep1 r
  obtain ⟨a, vs, rfl, h1, _, l1⟩ := lst_of k r1
  rw [asInts_eq e] at l1
  rw [l1.ints] at h1
  exact ⟨a, ns, rfl, SqL.of h1, q _ H S (.int _) k (Same.refl S) rfl t⟩
def fAny : DFn
  | [.lst xs], R => ∃ ns, asBls xs = some ns ∧ R (.bl (ns.any _root_.id))
  | _, _ => False
def fAll : DFn
  | [.lst xs], R => ∃ ns, asBls xs = some ns ∧ R (.bl (ns.all _root_.id))
  | _, _ => False
theorem b_all (hc : X.calm = true) : CallOk X (.builtin "all") fAll := by
  refine ⟨_, cr_all hc, fun c σ H S env xs vs R k r t Q q => ?_⟩
  unfold fAll at t
  split at t <;> try exact t.elim
  obtain ⟨ns, e, t⟩ := t
  obtain ⟨v, rfl, r1⟩ := rep1 r
  obtain ⟨a, vs, rfl, h1, _, l1⟩ := lst_of k r1
  rw [asBls_eq e] at l1
  rw [l1.bls] at h1
  exact ⟨a, ns, rfl, SqL.of h1, q _ H S (.bl _) k (Same.refl S) rfl t⟩
/-- tuple(xs), list(xs) -/
def fTuple : DFn
  | [.lst xs], R => R (.tup xs)
  | [.tup xs], R => R (.tup xs)
  | _, _ => False
/-- a new list of what nobody else holds: a display, list(xs), a slice, xs + ys, xs * k -/
def xNew (Tl : DTA) : DTF := fun env R Rx => Tl env (fun xs => xs.length ≤ sizeLine ∧ R xs) Rx
theorem putO {c : Fm} {σ : St} {H S : Hp} {env : En} {ds : List D} {vs : List V} {p : Addr} (k : Kn c σ H S env) (l : RepL c.B S ds vs) (h : H p = none) :
    Kn c σ (upd H p (.lst vs)) S env ∧ S p = none ∧ c.H0 p = none ∧ Free σ env p := ⟨k.new0 h, k.kf.s_none h, k.kf.h0_none h, k.free h⟩
end
end DL
namespace DL
open PySem PySem.Spec L2
variable [TbC]
section
variable {X : Cx} {E : XK} {p pos : Pos} {a b e : Expr} {Ta Tb : DT} {Tl : DTA} {es : List Expr}
theorem f_lst (h : DA X E es Tl) : DF X E (.List es pos) (xNew Tl) := by
  obtain ⟨t, p, s⟩ := h
  refine ⟨_, pe_lst p, fun c σ H S env R Rx x k t Q q => s c σ H S env _ Rx x k t _ fun vs H1 S1 ds k1 s1 r1 t1 => ⟨by rw [r1.length]; exact t1.1, fun p hp => ?_⟩⟩
  obtain ⟨k2, n2, n0, f⟩ := putO k1 r1 hp
  exact q p vs _ S1 ds k2 s1 n0 f n2 upd_same r1 t1.2
/-- xs + ys -/
def asL (R : List D → Prop) : D → Prop
  | .lst xs => R xs
  | _ => False
def xCatF (Ta Tb : DT) : DTF := fun env R Rx => Ta env (asL fun xs => Tb env (asL fun ys => xs.length + ys.length ≤ sizeLine ∧ R (xs ++ ys)) Rx) Rx
/-- xs * k -/
def xRepF (Ta Tb : DT) : DTF := fun env R Rx => Ta env (asL fun xs => Tb env (asI fun k => -(2 ^ 63) ≤ k ∧ k < 2 ^ 63 ∧ xs.length * k.toNat ≤ sizeLine ∧ R (List.replicate k.toNat xs).flatten) Rx) Rx
theorem f_mul (ha : DE X E a Ta) (hb : DE X E b Tb) : DF X E (.BinOp a .Mult b pos) (xRepF Ta Tb) := by
  obtain ⟨ta, p1, s1⟩ := ha
  obtain ⟨tb, p2, s2⟩ := hb
  refine ⟨_, pe_op op_rep p1 p2, fun c σ H S env R Rx x k t Q q => s1 c σ H S env _ Rx x k t _ fun v H1 S1 d1 k1 s3 r1 t1 => ?_⟩
  cases d1 <;> try exact (show False from t1).elim
  refine s2 c σ H1 S1 env _ Rx x k1 t1 _ fun u H2 S2 d2 k2 s4 r2 t2 => ?_
  cases d2 <;> try exact (show False from t2).elim
  obtain ⟨a, vs, e1, h1, _, l1⟩ := lst_of k2 (rep_mono s4 _ v r1)
  obtain ⟨t3, t4, t5, t6⟩ := t2
  refine ⟨a, _, vs, e1, r2, h1, t3, t4, by rw [l1.length]; exact t5, fun p hp => ?_⟩
  obtain ⟨k3, n2, n0, f⟩ := putO k2 (l1.rep _) hp
  exact q p _ _ S2 _ k3 (s3.trans s4) n0 f n2 upd_same (l1.rep _) t6
/-- list(xs) -/
def asLT (R : List D → Prop) : D → Prop
  | .lst xs => R xs
  | .tup xs => R xs
  | _ => False
def xListF (Ta : DT) : DTF := fun env R Rx => Ta env (asLT R) Rx
theorem f_list (ha : DE X E a Ta) (hm : X.mg "list" = none) (hg : Gl X "list" := by rfl) (he : starEach [a] X.env = (false, eval a X.env) :: starEach [] X.env := by rfl) (hpl : (backTo pos (starEach [] X.env)).any (·.1) = false := by rfl) :
    DF X E (.Call (.Name "list" p) [a] [] pos) (xListF Ta) := by
  obtain ⟨ta, p1, s1⟩ := ha
  refine ⟨_, pe_callTy call_list_of hg hm PyProof.Rows.boot_list (pa_cons p1 pa_nil he) (by decide) (by decide) he hpl, fun c σ H S env R Rx x k t Q q => s1 c σ H S env _ Rx x k t _ fun v H1 S1 d k1 s3 r1 t1 => ?_⟩
  cases d <;> try exact (show False from t1).elim
  · obtain ⟨a, vs, rfl, h1, _, l1⟩ := lst_of k1 r1
    refine ⟨a, vs, rfl, .inl (SqL.of h1), fun p hp => ?_⟩
    obtain ⟨k3, n2, n0, f⟩ := putO k1 l1 hp
    exact q p _ _ S1 _ k3 s3 n0 f n2 upd_same l1 t1
  · obtain ⟨a, vs, rfl, h1, _, l1⟩ := tup_of k1 r1
    refine ⟨a, vs, rfl, .inr (SqT.of h1), fun p hp => ?_⟩
    obtain ⟨k3, n2, n0, f⟩ := putO k1 l1 hp
    exact q p _ _ S1 _ k3 s3 n0 f n2 upd_same l1 t1
/-- xs[lo:hi], xs a list -/
def xSlF (Ta : DT) (Tl Th : DTO) : DTF := fun env R Rx => Ta env (asL fun xs => Tl env (fun lo => Th env (fun hi => R (cutD xs lo hi)) Rx) Rx) Rx
end
abbrev DG := D → En → (En → Prop) → Prop
/-- only the slots js change -/
def Wip (js : List Nat) (σ σ' : St) : Prop := ∀ ws : List Nat, (∀ j ∈ js, j ∈ ws) → wipe σ' ws = wipe σ ws
theorem wipe_set {σ : St} {i : Nat} {o : Option V} : ∀ {ws : List Nat}, i ∈ ws → wipe (σ.set i o) ws = wipe σ ws
  | [], h => nomatch h
  | w :: ws, h => by
    show (wipe (σ.set i o) ws).set w none = (wipe σ ws).set w none
    by_cases z : i ∈ ws
    · rw [wipe_set z]
    · have e : i = w := by
        rcases List.mem_cons.mp h with e | e
        · exact e
        · exact absurd e z
      subst e
      have go : ∀ us : List Nat, (wipe (σ.set i o) us).set i none = (wipe σ us).set i none := fun us => by
        induction us with
        | nil => show (σ.set i o).set i none = σ.set i none; rw [List.set_set]
        | cons u us ih =>
          show ((wipe (σ.set i o) us).set u none).set i none = ((wipe σ us).set u none).set i none
          by_cases hu : u = i
          · subst hu; rw [List.set_set, List.set_set]; exact ih
          · rw [List.set_comm _ _ hu, ih, List.set_comm _ _ (Ne.symm hu)]
      exact go ws
def SmG (g : TG) (G : DG) (js : List Nat) : Prop := ∀ (c : Fm) (σ : St) (H S : Hp) (env : En) (d : D) (v : V) (N : En → Prop), Kn c σ H S env → Rep c.B S d v → G d env N →
  ∀ P : St → Hp → Prop, (∀ σ' H' S' env', Kn c σ' H' S' env' → Same S S' → Wip js σ σ' → N env' → P σ' H') → g v σ H P
def DGt (X : Cx) (e : Expr) (G : DG) (js : List Nat) : Prop := ∃ g, PG X e g ∧ SmG g G js
abbrev DGs := List D → En → (En → Prop) → Prop
def SmGs (g : TGs) (G : DGs) (js : List Nat) : Prop := ∀ (c : Fm) (σ : St) (H S : Hp) (env : En) (ds : List D) (vs : List V) (N : En → Prop), Kn c σ H S env → RepL c.B S ds vs → G ds env N →
  ∀ P : St → Hp → Prop, (∀ σ' H' S' env', Kn c σ' H' S' env' → Same S S' → Wip js σ σ' → N env' → P σ' H') → g vs σ H P
def DGts (X : Cx) (es : List Expr) (G : DGs) (js : List Nat) : Prop := ∃ g, PGs X es g ∧ SmGs g G js
def put (i : Nat) (d : D) (env : En) : En := env.set i (some (.val d))
def putO' (i : Nat) (ds : List D) (env : En) : En := env.set i (some (.own ds))
def yName (i : Nat) : DG := fun d env N => N (put i d env)
def yNil : DGs := fun ds env N => ds = [] ∧ N env
def yCons (G : DG) (Gs : DGs) : DGs := fun ds env N => match ds with
  | [] => False
  | d :: r => G d env fun env' => Gs r env' N
def yTup (n : Nat) (Gs : DGs) : DG := fun d env N => match d with
  | .tup ds => ds.length = n ∧ Gs ds env N
  | _ => False
section
variable {X : Cx} {pos : Pos} {e : Expr} {es : List Expr} {G : DG} {Gs : DGs}
theorem smG_name (i : Nat) : SmG (gName i) (yName i) [i] := fun c σ H S env d v N k r t P q => q _ H S _ (k.set r) (Same.refl S) (fun ws h => wipe_set (h i (List.mem_singleton.mpr rfl))) t
theorem g_name {i : Nat} {x : Str} (hN : X.N.Nodup) (hi : X.N[i]? = some x := by rfl) (hx : Loc X.env.scope x := by first | exact Or.inl rfl | exact Or.inr rfl) (hf : X.fn x = true ∨ X.env.scope.names.lookup x = some .local := by first | exact .inl rfl | exact .inr rfl) : DGt X (.Name x pos) (yName i) [i] :=
  ⟨_, pg_name hN hi hx hf, smG_name i⟩
theorem gs_nil : DGts X [] yNil [] := ⟨_, pgs_nil, fun c σ H S env ds vs N k r t P q => by
  obtain ⟨e, t⟩ := t
  subst e
  exact ⟨repL_nil_of r, q σ H S env k (Same.refl S) (fun ws _ => rfl) t⟩⟩
theorem gs_cons {js js' : List Nat} (h1 : DGt X e G js) (h2 : DGts X es Gs js') (hs : (assignEach (e :: es) X.env).map (·.2) = assign e X.env :: (assignEach es X.env).map (·.2) := by rfl) : DGts X (e :: es) (yCons G Gs) (js ++ js') := by
  obtain ⟨g, p1, s1⟩ := h1
  obtain ⟨gs, p2, s2⟩ := h2
  refine ⟨_, pgs_cons p1 p2 hs, fun c σ H S env ds vs N k r t P q => ?_⟩
  cases ds with
  | nil => exact (show False from t).elim
  | cons d ds =>
    obtain ⟨v, ws, rfl, r1, l⟩ := repL_cons_of r
    exact ⟨v, ws, rfl, s1 c σ H S env d v _ k r1 t _ fun σ1 H1 S1 env1 k1 s w1 t1 => s2 c σ1 H1 S1 env1 ds ws N k1 (repL_mono s ds ws l) t1 P fun σ2 H2 S2 env2 k2 s3 w2 t2 => q σ2 H2 S2 env2 k2 (s.trans s3)
      (fun us h => (w2 us fun j hj => h j (List.mem_append_right _ hj)).trans (w1 us fun j hj => h j (List.mem_append_left _ hj))) t2⟩
theorem g_tup {n k : Nat} {js : List Nat} (hc : X.calm = true) (h : DGts X es Gs js) (hn : (assignEach es X.env).length = n := by rfl) (hst : (assignEach es X.env).findIdx? (·.1) = none := by rfl) : DGt X (.Tuple es k pos) (yTup n Gs) js := by
  obtain ⟨gs, p1, s1⟩ := h
  refine ⟨_, pg_tup hc p1 hn hst, fun c σ H S env d v N k r t P q => ?_⟩
  cases d <;> try exact (show False from t).elim
  obtain ⟨a, vs, e1, h1, _, l1⟩ := tup_of k r
  obtain ⟨hl, t⟩ := t
  exact ⟨a, vs, e1, SqT.of h1, by rw [l1.length]; exact hl, s1 c σ H S env _ vs N k l1 t P q⟩
end
section
variable {X : Cx} {E : XK} {pos p1 : Pos} {a b e tg : Expr} {Ta Tb : DT} {T U : DTS} {TF : DTF} {st : Stmt} {rest sts us : List Stmt} {G : DG}
def zNext : DTS := fun Q env => Q.nx env
def zSeq (T U : DTS) : DTS := fun Q env => T { Q with nx := U Q } env
theorem mk_nx {c : Fm} {S S' : Hp} {Q : DEnds} {D : Ends} {N : St → Hp → Prop} {M : En → Prop} (m : mk c S Q D) (s : Same S S') (h : ∀ σ H S2 env, Kn c σ H S2 env → Same S' S2 → M env → N σ H) : mk c S' { Q with nx := M } { D with nx := N } :=
  ⟨h, (m.mono s).2.1, (m.mono s).2.2.1, (m.mono s).2.2.2⟩
theorem ds_nil : DSs X E [] zNext := ⟨_, pss_nil, fun c σ H S env Q x k t D m => m.1 σ H S env k (Same.refl S) t⟩
theorem ds_cons (h1 : DS X E st T) (h2 : DSs X E rest U) : DSs X E (st :: rest) (zSeq T U) := by
  obtain ⟨t, p1, s1⟩ := h1
  obtain ⟨u, p2, s2⟩ := h2
  refine ⟨_, pss_cons p1 p2, fun c σ H S env Q x k t D m => ?_⟩
  exact s1 c σ H S env { Q with nx := U Q } x k t _ (mk_nx m (Same.refl S) fun σ1 H1 S1 env1 k1 s t1 => s2 c σ1 H1 S1 env1 Q x k1 t1 D (m.mono s))
theorem ds_one (h1 : DS X E st T) : DSs X E [st] T := by
  obtain ⟨t, p1, s1⟩ := h1
  exact ⟨_, pss_one p1, s1⟩
def zBreak : DTS := fun Q env => Q.bk env
def zCont : DTS := fun Q env => Q.ct env
def zRet (Ta : DT) : DTS := fun Q env => Ta env (Q.rt .old) Q.ex
theorem s_ret (h : DE X E a Ta) : DS X E (.Return (some a) pos) (zRet Ta) := by
  obtain ⟨t, p, s⟩ := h
  exact ⟨_, ps_ret p, fun c σ H S env Q x k t D m => s c σ H S env _ _ x k t _ fun v H1 S1 d k1 s1 r1 t1 => m.2.1 .old v H1 S1 d k1.kf s1 r1 t1⟩
def zExpr (Ta : DT) : DTS := fun Q env => Ta env (fun _ => Q.nx env) Q.ex
theorem s_expr (h : DE X E a Ta) (hs : swapsWith a none pos.line X.env = pure false := by rfl) : DS X E (.Expr a pos) (zExpr Ta) := by
  obtain ⟨t, p, s⟩ := h
  exact ⟨_, ps_expr p hs, fun c σ H S env Q x k t D m => s c σ H S env _ _ x k t _ fun v H1 S1 d k1 s1 r1 t1 => m.1 σ H1 S1 env k1 s1 t1⟩
def zIf (T : DTT) (U W : DTS) : DTS := fun Q env => T env (fun b => (b = true → U Q env) ∧ (b = false → W Q env)) Q.ex
theorem s_if {cnd : Expr} {Tc : DTT} {x1 x2 : List Stmt} (hc : DTe X E cnd Tc) (h1 : DSs X E x1 T) (h2 : DSs X E x2 U) : DS X E (.If cnd x1 x2 pos) (zIf Tc T U) := by
  obtain ⟨tc, p, s⟩ := hc
  obtain ⟨t, p1, s1⟩ := h1
  obtain ⟨u, p2, s2⟩ := h2
  refine ⟨_, ps_if p p1 p2, fun c σ H S env Q x k t D m => s c σ H S env _ _ x k t _ fun bb H1 S1 k1 s3 t1 => ?_⟩
  cases bb with
  | true => exact iteT (s1 c σ H1 S1 env Q x k1 (t1.1 rfl) D (m.mono s3))
  | false => exact iteF (s2 c σ H1 S1 env Q x k1 (t1.2 rfl) D (m.mono s3))
def zAsg (Ta : DT) (G : DG) : DTS := fun Q env => Ta env (fun d => G d env Q.nx) Q.ex
theorem smS_asg {t : TE} {g : TG} {js : List Nat} (h : Sm E t Ta) (hg : SmG g G js) : SmS E (tAsg t g) (zAsg Ta G) := fun c σ H S env Q x k t D m =>
  h c σ H S env _ _ x k t _ fun v H1 S1 d k1 s1 r1 t1 => hg c σ H1 S1 env d v _ k1 r1 t1 _ fun σ2 H2 S2 env2 k2 s2 _ t2 => m.1 σ2 H2 S2 env2 k2 (s1.trans s2) t2
theorem s_set {i : Nat} {x : Str} (hN : X.N.Nodup) (h : DE X E e Ta) (hi : X.N[i]? = some x := by rfl) (hx : Loc X.env.scope x := by first | exact Or.inl rfl | exact Or.inr rfl) (hs : swapsWith e (some (.Name x p1)) pos.line X.env = pure false := by rfl)
    (hf : X.fn x = true ∨ X.env.scope.names.lookup x = some .local := by first | exact .inl rfl | exact .inr rfl) : DS X E (.Assign [.Name x p1] e pos) (zAsg Ta (yName i)) := by
  obtain ⟨t, p, s⟩ := h
  exact ⟨_, ps_set hN hi hx p hs hf, smS_asg s (smG_name i)⟩
theorem s_asg {js : List Nat} (h : DE X E e Ta) (hg : DGt X tg G js) (hs : swapsWithSole [tg] e pos.line X.env = pure false := by rfl) (hw : swappedStores [tg] e X.env = pure none := by rfl) (h1 : (assignEach [tg] X.env).map (·.2) = [assign tg X.env] := by rfl) :
    DS X E (.Assign [tg] e pos) (zAsg Ta G) := by
  obtain ⟨t, p, s⟩ := h
  obtain ⟨g, p2, s2⟩ := hg
  exact ⟨_, ps_asg p p2 hs hw h1, smS_asg s s2⟩
/-- name = a new list, from now on of the frame's own -/
def zSetO (i : Nat) (T : DTF) : DTS := fun Q env => T env (fun ds => Q.nx (putO' i ds env)) Q.ex
theorem smS_setO {t : TE} {i : Nat} (h : SmF E t TF) : SmS E (tAsg t (gName i)) (zSetO i TF) := fun c σ H S env Q x k t D m =>
  h c σ H S env _ _ x k t _ fun p vs H1 S1 ds k1 s1 n0 f n2 e1 l1 t1 => m.1 _ H1 S1 _ (k1.setOwn n2 n0 e1 l1 f) s1 t1
theorem s_setO {i : Nat} {x : Str} (hN : X.N.Nodup) (h : DF X E e TF) (hi : X.N[i]? = some x := by rfl) (hx : Loc X.env.scope x := by first | exact Or.inl rfl | exact Or.inr rfl) (hs : swapsWith e (some (.Name x p1)) pos.line X.env = pure false := by rfl)
    (hf : X.fn x = true ∨ X.env.scope.names.lookup x = some .local := by first | exact .inl rfl | exact .inr rfl) : DS X E (.Assign [.Name x p1] e pos) (zSetO i TF) := by
  obtain ⟨t, p, s⟩ := h
  exact ⟨_, ps_set hN hi hx p hs hf, smS_setO s⟩
/-- a, b = x, y -/
def zPar (i j : Nat) (Tl : DTA) : DTS := fun Q env => Tl env (fun ds => match ds with
  | [d, d'] => Q.nx (put j d' (put i d env))
  | _ => False) Q.ex
theorem s_par {i j : Nat} {x y : Str} {px py pt : Pos} {kt k2 pt2} {Tl : DTA} (hc : X.calm = true) (hN : X.N.Nodup) (ha : DA X E [a, b] Tl) (hi : X.N[i]? = some x := by rfl) (hj : X.N[j]? = some y := by rfl) (hij : i ≠ j := by decide)
    (hx : X.env.scope.names.lookup x = some .local := by rfl) (hy : X.env.scope.names.lookup y = some .local := by rfl)
    (hw : swappedStores [.Tuple [.Name x px, .Name y py] kt pt] (.Tuple [a, b] k2 pt2) X.env = pure (some [x, y]) := by rfl)
    (hs : swapsWithSole [.Tuple [.Name x px, .Name y py] kt pt] (.Tuple [a, b] k2 pt2) pos.line X.env = pure false := by rfl) :
    DS X E (.Assign [.Tuple [.Name x px, .Name y py] kt pt] (.Tuple [a, b] k2 pt2) pos) (zPar i j Tl) := by
  obtain ⟨t, p, s⟩ := ha
  refine ⟨_, ps_par hc hN hi hj hij hx hy p hw hs, fun c σ H S env Q x k t D m => s c σ H S env _ _ x k t _ fun vs H1 S1 ds k1 s1 r1 t1 => ?_⟩
  match ds, t1 with
  | [d, d'], t1 =>
    obtain ⟨v, v', rfl, r2, r3⟩ := rep2 r1
    exact ⟨v, v', rfl, m.1 _ H1 S1 _ ((k1.set r2).set r3) s1 t1⟩
/-- the list at slot i stays as it is from here on -/
def zFrz (i : Nat) (T : DTS) : DTS := fun Q env => ∃ xs, env[i]? = some (some (.own xs)) ∧ T Q (put i (.lst xs) env)
theorem s_frz (i : Nat) (h : DS X E st T) : DS X E st (zFrz i T) := by
  obtain ⟨t, p, s⟩ := h
  refine ⟨t, p, fun c σ H S env Q x k t D m => ?_⟩
  obtain ⟨xs, e, t⟩ := t
  obtain ⟨S2, k2, s2⟩ := k.frz e
  exact s c σ H S2 _ Q x k2 t D (m.mono s2)
/-- xs.append(e), xs of the frame's own -/
def zApp (i : Nat) (Ta : DT) : DTS := fun Q env => ∃ xs, env[i]? = some (some (.own xs)) ∧ Ta env (fun d => xs.length < sizeLine ∧ Q.nx (putO' i (xs ++ [d]) env)) Q.ex
theorem s_app (i : Nat) {x : Str} {apos p2 : Pos} (h : DE X E a Ta) (hN : X.N[i]? = some x := by rfl) (hv : Vis X.env.scope x := by first | exact Or.inl rfl | exact Or.inr (Or.inl rfl) | exact Or.inr (Or.inr rfl))
    (hd : (x == ("__debug__" : Str)) = false := by decide) (hcd : (x == ("__classdict__" : Str)) = false := by decide)
    (hp : ∀ {te : TE}, PE X a te → PE X (.Call (.Attribute (.Name x p1) "append" apos) [a] [] p2) (tBM X.K "list" rAppend (tVar i) (tCons te tNil)))
    (hs : swapsWith (.Call (.Attribute (.Name x p1) "append" apos) [a] [] p2) none pos.line X.env = pure false := by rfl) :
    DS X E (.Expr (.Call (.Attribute (.Name x p1) "append" apos) [a] [] p2) pos) (zApp i Ta) := by
  obtain ⟨t, p, s⟩ := h
  refine ⟨_, ps_expr (hp p) hs, fun c σ H S env Q x k t D m => ?_⟩
  obtain ⟨xs, e, t⟩ := t
  obtain ⟨q, vs, e1, h0, h1, h2, l⟩ := own_of k e
  refine ⟨_, e1, .inl ⟨rfl, vs, SqL.of h2⟩, s c σ H S env _ _ x k t _ fun v H1 S1 d k1 s1 r1 t1 => ?_⟩
  obtain ⟨q', vs', e1', _, _, h2', l'⟩ := own_of k1 e
  rw [e1] at e1'
  cases e1'
  have l2 := l'.app (repL_cons r1 repL_nil)
  exact ⟨q, vs', v, rfl, rfl, h2', by rw [l'.length]; exact t1.1, m.1 _ _ S1 _ (k1.change e e1 l2) s1 t1.2⟩
/-- xs[e] = v, xs of the frame's own -/
def zStO (i : Nat) (Tv Ti : DT) : DTS := fun Q env => Tv env (fun d => ∃ xs, env[i]? = some (some (.own xs)) ∧ Ti env (asI fun k => ∃ j, ixN xs.length k = some j ∧ Q.nx (putO' i (xs.set j d) env)) Q.ex) Q.ex
theorem s_stO (i : Nat) {x : Str} {p2 : Pos} {ix v : Expr} {Tv Ti : DT} (hv : DE X E v Tv) (hi : DE X E ix Ti) (hN : X.N[i]? = some x := by rfl) (hvi : Vis X.env.scope x := by first | exact Or.inl rfl | exact Or.inr (Or.inl rfl) | exact Or.inr (Or.inr rfl))
    (hd : (x == ("__debug__" : Str)) = false := by decide) (hcd : (x == ("__classdict__" : Str)) = false := by decide)
    (ha : ∀ v, assign (.Subscript (.Name x p1) ix p2) X.env v = (do
      let ov ← holding [v] (eval (.Name x p1) X.env)
      let iv ← holding [v, ov] (eval ix X.env)
      standAt p2
      holding [v, ov, iv] (setItem ov iv v)
      release [v, ov, iv] []) := by intro _; rfl)
    (hs : swapsWithSole [.Subscript (.Name x p1) ix p2] v pos.line X.env = pure false := by rfl) (hw : swappedStores [.Subscript (.Name x p1) ix p2] v X.env = pure none := by rfl) (h1 : (assignEach [.Subscript (.Name x p1) ix p2] X.env).map (·.2) = [assign (.Subscript (.Name x p1) ix p2) X.env] := by rfl) :
    DS X E (.Assign [.Subscript (.Name x p1) ix p2] v pos) (zStO i Tv Ti) := by
  obtain ⟨tv, pv1, sv⟩ := hv
  obtain ⟨ti, pi1, si⟩ := hi
  refine ⟨_, ps_asg pv1 (pg_sub (pv i hN hvi hd hcd) pi1 set_list ha) hs hw h1, fun c σ H S env Q x k t D m => sv c σ H S env _ _ x k t _ fun w H1 S1 d k1 s1 r1 t1 => ?_⟩
  obtain ⟨xs, e, t1⟩ := t1
  obtain ⟨q, vs, e1, h0, h1, h2, l⟩ := own_of k1 e
  refine ⟨_, e1, si c σ H1 S1 env _ _ x k1 t1 _ fun u H2 S2 d2 k2 s2 r2 t2 => ?_⟩
  cases d2 <;> try exact (show False from t2).elim
  obtain ⟨j, ej, t2⟩ := t2
  obtain ⟨q', vs', e1', _, _, h2', l'⟩ := own_of k2 e
  rw [e1] at e1'
  cases e1'
  have l2 := l'.set j (rep_mono s2 d w r1)
  exact ⟨q, vs', _, j, rfl, r2, h2', by rw [l'.length]; exact ej, m.1 _ _ S2 _ (k2.change e e1 l2) (s1.trans s2) t2⟩
/-- name += e of ints -/
def zAug (i : Nat) (f : Int → Int → Int) (Ta : DT) : DTS := fun Q env => ∃ n, env[i]? = some (some (.val (.int n))) ∧ Ta env (asI fun j => Q.nx (put i (.int (f n j)) env)) Q.ex
/-- never reached -/
def zNever : DTS := fun _ _ => False
end
abbrev DTI := En → (List D → Prop) → (Er → Prop) → Prop
def ItOk (B : Option Addr) (J : It) (S0 : Hp) (xs : List D) : Prop := ∀ (c : Fm), c.B = B → ∀ (i : Nat) (σ : St) (H S : Hp) (env : En), Kn c σ H S env → Same S0 S →
  (∀ d, xs[i]? = some d → J.go i H ∧ ∀ x H', J.yld i H x H' → ∃ S', Kn c σ H' S' env ∧ Same S S' ∧ Rep c.B S' d x) ∧ (xs.length ≤ i → J.stop i H)
def SmI (E : XK) (wi : TI) (T : DTI) : Prop := ∀ (c : Fm) (σ : St) (H S : Hp) (env : En) (R : List D → Prop) (Rx : Er → Prop), XOk c E Rx → Kn c σ H S env → T env R Rx →
  ∀ Rr : It → Hp → Prop, (∀ J H' S' xs, Kn c σ H' S' env → Same S S' → ItOk c.B J S' xs → R xs → Rr J H') → wi σ H Rr
def DI (X : Cx) (E : XK) (tg e : Expr) (T : DTI) : Prop := ∃ wi, PI X tg e wi ∧ SmI E wi T
theorem ItOk.mono {B : Option Addr} {J : It} {S0 S1 : Hp} {xs : List D} (h : ItOk B J S0 xs) (s : Same S0 S1) : ItOk B J S1 xs := fun c hB i σ H S env k s1 => h c hB i σ H S env k (s.trans s1)
section
variable {X : Cx} {E : XK} {pos p : Pos} {a b e tg : Expr} {Ta Tb : DT} {Tl : DTA}
theorem itl_ok {B : Option Addr} {K : PySem.W.Frag} {S : Hp} {a : Addr} {vs : List V} {xs : List D} (h : S a = some (.lst vs)) (l : RepL B S xs vs) : ItOk B (Itl K a) S xs := fun c hB i σ H S1 env k s => by
  subst hB
  have hH : H a = some (.lst vs) := k.kf.sub _ _ (s _ _ h)
  refine ⟨fun d e => ?_, fun hl => ⟨vs, SqL.of hH, by rw [l.length]; exact hl⟩⟩
  obtain ⟨v, ev, r⟩ := l.get e
  exact ⟨⟨vs, v, SqL.of hH, ev⟩, fun x H' y => by
    obtain ⟨e1, y⟩ := y
    subst e1
    have e2 := y vs (SqL.of hH)
    rw [ev] at e2
    cases e2
    exact ⟨S1, k, Same.refl S1, rep_mono s d v r⟩⟩
theorem itt_ok {B : Option Addr} {K : PySem.W.Frag} {S : Hp} {a : Addr} {vs : List V} {xs : List D} (h : S a = some (.tup vs)) (l : RepL B S xs vs) : ItOk B (Itt K a) S xs := fun c hB i σ H S1 env k s => by
  subst hB
  have hH : H a = some (.tup vs) := k.kf.sub _ _ (s _ _ h)
  refine ⟨fun d e => ?_, fun hl => ⟨vs, SqT.of hH, by rw [l.length]; exact hl⟩⟩
  obtain ⟨v, ev, r⟩ := l.get e
  exact ⟨⟨vs, v, SqT.of hH, ev⟩, fun x H' y => by
    obtain ⟨e1, y⟩ := y
    subst e1
    have e2 := y vs (SqT.of hH)
    rw [ev] at e2
    cases e2
    exact ⟨S1, k, Same.refl S1, rep_mono s d v r⟩⟩
def xItL (Ta : DT) : DTI := fun env R Rx => Ta env (asL R) Rx
def xItT (Ta : DT) : DTI := fun env R Rx => Ta env (fun d => match d with
  | .tup xs => R xs
  | _ => False) Rx
theorem i_list (h : DE X E a Ta) : DI X E tg a (xItL Ta) := by
  obtain ⟨t, p, s⟩ := h
  refine ⟨_, pi_list p, fun c σ H S env R Rx x k t Rr q => s c σ H S env _ Rx x k t _ fun v H1 S1 d k1 s1 r1 t1 => ?_⟩
  cases d <;> try exact (show False from t1).elim
  obtain ⟨a, vs, e, h1, hS, l⟩ := lst_of k1 r1
  exact ⟨a, e, ⟨vs, SqL.of h1⟩, q _ H1 S1 _ k1 s1 (itl_ok hS l) t1⟩
theorem i_tup (h : DE X E a Ta) : DI X E tg a (xItT Ta) := by
  obtain ⟨t, p, s⟩ := h
  refine ⟨_, pi_tup p, fun c σ H S env R Rx x k t Rr q => s c σ H S env _ Rx x k t _ fun v H1 S1 d k1 s1 r1 t1 => ?_⟩
  cases d <;> try exact (show False from t1).elim
  obtain ⟨a, vs, e, h1, hS, l⟩ := tup_of k1 r1
  exact ⟨a, e, ⟨vs, SqT.of h1⟩, q _ H1 S1 _ k1 s1 (itt_ok hS l) t1⟩
/-- lo, lo + 1, .. -/
def ups (lo : Int) : Nat → List D
  | 0 => []
  | n + 1 => .int lo :: ups (lo + 1) n
theorem ups_get : ∀ (n i : Nat) (lo : Int), (ups lo n)[i]? = if i < n then some (.int (lo + i)) else none
  | 0, i, lo => by simp [ups]
  | n + 1, 0, lo => by simp [ups]
  | n + 1, i + 1, lo => by
    show (ups (lo + 1) n)[i]? = _
    rw [ups_get n i (lo + 1)]
    by_cases h : i < n
    · rw [if_pos h, if_pos (by omega)]
      congr 2
      omega
    · rw [if_neg h, if_neg (by omega)]
theorem ups_length : ∀ (n : Nat) (lo : Int), (ups lo n).length = n
  | 0, _ => rfl
  | n + 1, lo => by
    show (ups (lo + 1) n).length + 1 = _
    rw [ups_length]
theorem itr_ok {B : Option Addr} {S : Hp} {lo : Int} {n : Nat} : ItOk B (Itr lo n) S (ups lo n) := fun c hB i σ H S1 env k s => by
  refine ⟨fun d e => ?_, fun hl => by rw [ups_length] at hl; exact hl⟩
  rw [ups_get] at e
  split at e
  · rename_i hi
    cases e
    exact ⟨hi, fun x H' y => by
      obtain ⟨e1, e2⟩ := y
      subst e1
      subst e2
      exact ⟨S1, k, Same.refl S1, rfl⟩⟩
  · cases e
def xRg1 (Tl : DTA) : DTI := fun env R Rx => Tl env (fun ds => match ds with
  | [.int j] => -(2 ^ 62) ≤ j ∧ j < 2 ^ 62 ∧ R (ups 0 j.toNat)
  | _ => False) Rx
def xRg2 (Tl : DTA) : DTI := fun env R Rx => Tl env (fun ds => match ds with
  | [.int i, .int j] => (-(2 ^ 62) ≤ i ∧ i < 2 ^ 62 ∧ -(2 ^ 62) ≤ j ∧ j < 2 ^ 62) ∧ R (ups i (j - i).toNat)
  | _ => False) Rx
theorem i_rg1 (ha : DA X E [a] Tl) (hm : X.mg "range" = none) (hg : Gl X "range" := by rfl) (hs : starEach [a] X.env = [(false, eval a X.env)] := by rfl) : DI X E tg (.Call (.Name "range" p) [a] [] pos) (xRg1 Tl) := by
  obtain ⟨t, pa, s⟩ := ha
  refine ⟨_, pi_range1 hg hm pa hs, fun c σ H S env R Rx x k t Rr q => s c σ H S env _ Rx x k t _ fun vs H1 S1 ds k1 s1 r1 t1 => ?_⟩
  match ds, t1 with
  | [.int j], t1 =>
    obtain ⟨v, rfl, r2⟩ := rep1 r1
    exact ⟨j, by rw [show v = _ from r2], t1.1, t1.2.1, q _ H1 S1 _ k1 s1 itr_ok t1.2.2⟩
/-- zip -/
def pairs : List D → List D → List D
  | x :: xs, y :: ys => .tup [x, y] :: pairs xs ys
  | _, _ => []
theorem pairs_get : ∀ (xs ys : List D) (i : Nat) (d : D), (pairs xs ys)[i]? = some d → ∃ x y, xs[i]? = some x ∧ ys[i]? = some y ∧ d = .tup [x, y]
  | [], _, i, d, h => by simp [pairs] at h
  | _ :: _, [], i, d, h => by simp [pairs] at h
  | x :: xs, y :: ys, 0, d, h => by simp [pairs] at h; exact ⟨x, y, rfl, rfl, h.symm⟩
  | x :: xs, y :: ys, i + 1, d, h => by
    obtain ⟨a, b, e1, e2, e3⟩ := pairs_get xs ys i d (by simpa [pairs] using h)
    exact ⟨a, b, by simpa using e1, by simpa using e2, e3⟩
theorem pairs_length : ∀ (xs ys : List D), (pairs xs ys).length = min xs.length ys.length
  | [], ys => by simp [pairs]
  | _ :: _, [] => by simp [pairs]
  | x :: xs, y :: ys => by
    show (pairs xs ys).length + 1 = _
    rw [pairs_length xs ys, List.length_cons, List.length_cons]
    omega
theorem itz_ok {B : Option Addr} {K : PySem.W.Frag} {S : Hp} {a b : Addr} {vs ws : List V} {xs ys : List D} (h : S a = some (.lst vs)) (h2 : S b = some (.lst ws)) (l : RepL B S xs vs) (l2 : RepL B S ys ws) : ItOk B (Itz K a b) S (pairs xs ys) := fun c hB i σ H S1 env k s => by
  subst hB
  have hH : H a = some (.lst vs) := k.kf.sub _ _ (s _ _ h)
  have hH2 : H b = some (.lst ws) := k.kf.sub _ _ (s _ _ h2)
  refine ⟨fun d e => ?_, fun hl => ⟨vs, ws, SqL.of hH, SqL.of hH2, by rw [pairs_length] at hl; rw [l.length, l2.length]; omega⟩⟩
  obtain ⟨x, y, ex, ey, rfl⟩ := pairs_get _ _ _ _ e
  obtain ⟨v, ev, r⟩ := l.get ex
  obtain ⟨w, ew, r2⟩ := l2.get ey
  refine ⟨⟨vs, ws, v, w, SqL.of hH, SqL.of hH2, ev, ew⟩, fun z H' yl => ?_⟩
  obtain ⟨T, x', y', rfl, hT, rfl, hx, hy⟩ := yl
  have e1 := hx vs (SqL.of hH)
  rw [ev] at e1
  cases e1
  have e2 := hy ws (SqL.of hH2)
  rw [ew] at e2
  cases e2
  obtain ⟨k', s', r'⟩ := put_tup k (repL_cons (rep_mono s _ _ r) (repL_cons (rep_mono s _ _ r2) repL_nil)) hT
  exact ⟨_, k', s', r'⟩
theorem itzT_ok {B : Option Addr} {K : PySem.W.Frag} {S : Hp} {a b : Addr} {vs ws : List V} {xs ys : List D} (h : S a = some (.tup vs)) (h2 : S b = some (.tup ws)) (l : RepL B S xs vs) (l2 : RepL B S ys ws) : ItOk B (RZ.ItzT K a b) S (pairs xs ys) := fun c hB i σ H S1 env k s => by
  subst hB
  have hH : H a = some (.tup vs) := k.kf.sub _ _ (s _ _ h)
  have hH2 : H b = some (.tup ws) := k.kf.sub _ _ (s _ _ h2)
  refine ⟨fun d e => ?_, fun hl => ⟨vs, ws, SqT.of hH, SqT.of hH2, by rw [pairs_length] at hl; rw [l.length, l2.length]; omega⟩⟩
  obtain ⟨x, y, ex, ey, rfl⟩ := pairs_get _ _ _ _ e
  obtain ⟨v, ev, r⟩ := l.get ex
  obtain ⟨w, ew, r2⟩ := l2.get ey
  refine ⟨⟨vs, ws, v, w, SqT.of hH, SqT.of hH2, ev, ew⟩, fun z H' yl => ?_⟩
  obtain ⟨T, x', y', rfl, hT, rfl, hx, hy⟩ := yl
  have e1 := hx vs (SqT.of hH)
  rw [ev] at e1
  cases e1
  have e2 := hy ws (SqT.of hH2)
  rw [ew] at e2
  cases e2
  obtain ⟨k', s', r'⟩ := put_tup k (repL_cons (rep_mono s _ _ r) (repL_cons (rep_mono s _ _ r2) repL_nil)) hT
  exact ⟨_, k', s', r'⟩
def fZip (R : List D → Prop) : List D → Prop
  | [.lst xs, .lst ys] => R (pairs xs ys)
  | [.tup xs, .tup ys] => R (pairs xs ys)
  | _ => False
def xZip (Tl : DTA) : DTI := fun env R Rx => Tl env (fZip R) Rx
theorem i_zip {tpos : Pos} {elts : List Expr} {kk : Nat} (ha : DA X E [a, b] Tl) (hm : X.mg "zip" = none) (hg : Gl X "zip" := by rfl)
    (hs : starEach [a, b] X.env = (false, eval a X.env) :: starEach [b] X.env := by rfl) (hpl : (backTo pos (starEach [b] X.env)).any (·.1) = false := by rfl) :
    DI X E (.Tuple elts kk tpos) (.Call (.Name "zip" p) [a, b] [] pos) (xZip Tl) := by
  obtain ⟨t, pa, s⟩ := ha
  refine ⟨_, RZ.pi_zipA hg hm pa hs hpl, fun c σ H S env R Rx x k t Rr q => s c σ H S env _ Rx x k t _ fun vs H1 S1 ds k1 s1 r1 t1 => ?_⟩
  unfold fZip at t1
  split at t1 <;> try exact t1.elim
  · obtain ⟨v, w, rfl, r2, r3⟩ := rep2 r1
    obtain ⟨a, us, rfl, h1, hS, l⟩ := lst_of k1 r2
    obtain ⟨b, ws, rfl, h2, hS2, l2⟩ := lst_of k1 r3
    exact ⟨a, b, us, ws, rfl, .inl ⟨SqL.of h1, SqL.of h2, q _ H1 S1 _ k1 s1 (itz_ok hS hS2 l l2) t1⟩⟩
  · obtain ⟨v, w, rfl, r2, r3⟩ := rep2 r1
    obtain ⟨a, us, rfl, h1, hS, l⟩ := tup_of k1 r2
    obtain ⟨b, ws, rfl, h2, hS2, l2⟩ := tup_of k1 r3
    exact ⟨a, b, us, ws, rfl, .inr ⟨SqT.of h1, SqT.of h2, q _ H1 S1 _ k1 s1 (itzT_ok hS hS2 l l2) t1⟩⟩
theorem fZip_lst {R : List D → Prop} {xs ys : List D} : fZip R [.lst xs, .lst ys] = R (pairs xs ys) := rfl
theorem fZip_tup {R : List D → Prop} {xs ys : List D} : fZip R [.tup xs, .tup ys] = R (pairs xs ys) := rfl
/-- enumerate -/
def nums (lo : Int) : List D → List D
  | [] => []
  | x :: xs => .tup [.int lo, x] :: nums (lo + 1) xs
theorem nums_get : ∀ (xs : List D) (i : Nat) (lo : Int) (d : D), (nums lo xs)[i]? = some d → ∃ x, xs[i]? = some x ∧ d = .tup [.int (lo + i), x]
  | [], i, lo, d, h => by simp [nums] at h
  | x :: xs, 0, lo, d, h => by simp [nums] at h; exact ⟨x, rfl, by simpa using h.symm⟩
  | x :: xs, i + 1, lo, d, h => by
    obtain ⟨a, e1, e2⟩ := nums_get xs i (lo + 1) d (by simpa [nums] using h)
    refine ⟨a, by simpa using e1, ?_⟩
    rw [e2]
    congr 3
    show (lo + 1) + (i : Int) = lo + ((i + 1 : Nat) : Int)
    omega
theorem nums_length : ∀ (xs : List D) (lo : Int), (nums lo xs).length = xs.length
  | [], _ => rfl
  | x :: xs, lo => by
    show (nums (lo + 1) xs).length + 1 = _
    rw [nums_length xs]
    rfl
theorem ite_ok {B : Option Addr} {K : PySem.W.Frag} {S : Hp} {a : Addr} {vs : List V} {xs : List D} (h : S a = some (.lst vs)) (l : RepL B S xs vs) : ItOk B (Ite K a) S (nums 0 xs) := fun c hB i σ H S1 env k s => by
  subst hB
  have hH : H a = some (.lst vs) := k.kf.sub _ _ (s _ _ h)
  refine ⟨fun d e => ?_, fun hl => ⟨vs, SqL.of hH, by rw [nums_length] at hl; rw [l.length]; exact hl⟩⟩
  obtain ⟨x, ex, rfl⟩ := nums_get _ _ _ _ e
  obtain ⟨v, ev, r⟩ := l.get ex
  refine ⟨⟨vs, v, SqL.of hH, ev⟩, fun z H' yl => ?_⟩
  obtain ⟨T, x', rfl, hT, rfl, hx⟩ := yl
  have e1 := hx vs (SqL.of hH)
  rw [ev] at e1
  cases e1
  obtain ⟨k', s', r'⟩ := put_tup (ds := [.int i, x]) k (repL_cons rfl (repL_cons (rep_mono s _ _ r) repL_nil)) hT
  rw [Int.zero_add]
  exact ⟨_, k', s', r'⟩
def xEnum (Tl : DTA) : DTI := fun env R Rx => Tl env (fun ds => match ds with
  | [.lst xs] => R (nums 0 xs)
  | _ => False) Rx
theorem i_enum {tpos : Pos} {elts : List Expr} {kk : Nat} (ha : DA X E [a] Tl) (hm : X.mg "enumerate" = none) (hg : Gl X "enumerate" := by rfl) (hs : starEach [a] X.env = [(false, eval a X.env)] := by rfl) :
    DI X E (.Tuple elts kk tpos) (.Call (.Name "enumerate" p) [a] [] pos) (xEnum Tl) := by
  obtain ⟨t, pa, s⟩ := ha
  refine ⟨_, pi_enum hg hm pa hs, fun c σ H S env R Rx x k t Rr q => s c σ H S env _ Rx x k t _ fun vs H1 S1 ds k1 s1 r1 t1 => ?_⟩
  match ds, t1 with
  | [.lst xs], t1 =>
    obtain ⟨v, rfl, r2⟩ := rep1 r1
    obtain ⟨a, us, rfl, h1, hS, l⟩ := lst_of k1 r2
    exact ⟨a, us, rfl, SqL.of h1, q _ H1 S1 _ k1 s1 (ite_ok hS l) t1⟩
/-- the signs of a text -/
def signs (s : Str) : List D := s.cps.toList.map fun c => .str ⟨#[c]⟩
def xItS (Ta : DT) : DTI := fun env R Rx => Ta env (fun d => match d with
  | .str s => R (signs s)
  | _ => False) Rx
end
def zFor (Ti : DTI) (G : DG) (Tb : DTS) : DTS := fun Q env => Ti env (fun xs => ∃ I : Nat → En → Prop, I 0 env ∧ (∀ i d env, xs[i]? = some d → I i env → G d env fun env' => Tb { Q with nx := I (i + 1), ct := I (i + 1), bk := Q.nx } env') ∧ ∀ env, I xs.length env → Q.nx env) Q.ex
def zWhile (Tc : DTT) (Tb : DTS) : DTS := fun Q env => ∃ (I : Nat → En → Prop) (m : Nat), I m env ∧ ∀ m env, I m env → Tc env (fun b => (b = true → Tb { Q with nx := fun e => ∃ m', m' < m ∧ I m' e, ct := fun e => ∃ m', m' < m ∧ I m' e, bk := Q.nx } env) ∧ (b = false → Q.nx env)) Q.ex
section
variable {X : Cx} {E : XK} {pos : Pos} {tg iter : Expr} {body : List Stmt} {Ti : DTI} {G : DG} {Tb : DTS}
theorem s_for {js : List Nat} (hp : PassesOwn (model X.prog X.w) X.A X.env X.xe) (hc : X.calm = true) (hi : DI X E tg iter Ti) (hg : DGt X tg G js) (hb : DSs X E body Tb) (hs : ∀ x, foldedSetIterable iter X.env x = pure x := by intro _; rfl) :
    DS X E (.For tg iter body [] pos) (zFor Ti G Tb) := by
  obtain ⟨wi, p1, s1⟩ := hi
  obtain ⟨g, p2, s2⟩ := hg
  obtain ⟨tb, p3, s3⟩ := hb
  refine ⟨_, ps_for hp hc p1 p2 p3 hs, fun c σ H S env Q x k t D m => s1 c σ H S env _ _ x k t _ fun J H1 S1 xs k1 s4 it t1 => ?_⟩
  obtain ⟨I, h0, hstep, hend⟩ := t1
  have m1 := m.mono s4
  refine ⟨fun i n σ H => n = xs.length - i ∧ i ≤ xs.length ∧ ∃ S env, Kn c σ H S env ∧ Same S1 S ∧ I i env, ⟨_, rfl, Nat.zero_le _, S1, env, k1, Same.refl S1, h0⟩, ?_⟩
  rintro i n σ H ⟨rfl, hi, S, env, k, s, hI⟩
  obtain ⟨go, stop⟩ := it c rfl i σ H S env k s
  by_cases hlt : i < xs.length
  · have e : xs[i]? = some xs[i] := by simp [hlt]
    obtain ⟨g1, g2⟩ := go _ e
    refine .inr ⟨g1, fun σ H => ∃ S env, Kn c σ H S env ∧ Same S1 S ∧ I (i + 1) env, fun σ' H' ⟨S', env', k', s', h'⟩ => ⟨_, by omega, rfl, hlt, S', env', k', s', h'⟩, fun v H' y => ?_⟩
    obtain ⟨S', k', s', r'⟩ := g2 v H' y
    refine s2 c σ H' S' env _ v _ k' r' (hstep i _ env e hI) _ fun σ2 H2 S2 env2 k2 s5 _ t2 => ?_
    have s6 : Same S1 S2 := (s.trans s').trans s5
    refine s3 c σ2 H2 S2 env2 { Q with nx := I (i + 1), ct := I (i + 1), bk := Q.nx } x k2 t2 _ ⟨fun σ3 H3 S3 env3 k3 s7 t3 => ⟨S3, env3, k3, s6.trans s7, t3⟩, (m1.mono s6).2.1, fun σ3 H3 S3 env3 k3 s7 t3 => m1.1 σ3 H3 S3 env3 k3 (s6.trans s7) t3, fun σ3 H3 S3 env3 k3 s7 t3 => ⟨S3, env3, k3, s6.trans s7, t3⟩⟩
  · have e : i = xs.length := by omega
    subst e
    exact .inl ⟨stop (Nat.le_refl _), m1.1 σ H S env k s (hend env hI)⟩
end
end DL
namespace DL
open PySem PySem.Spec L2
variable [TbC]
def canE (E : XK) (T : DT) : TE := fun σ H Q => ∃ (c : Fm) (S : Hp) (env : En) (R : D → Prop) (Rx : Er → Prop), XOk c E Rx ∧ Kn c σ H S env ∧ T env R Rx ∧ ∀ v H' S' d, Kn c σ H' S' env → Same S S' → Rep c.B S' d v → R d → Q v H'
theorem sm_can {E : XK} {T : DT} : Sm E (canE E T) T := fun c σ H S env R Rx x k t Q q => ⟨c, S, env, R, Rx, x, k, t, q⟩
theorem pe_can {X : Cx} {E : XK} {e : Expr} {T : DT} (h : DE X E e T) : PE X e (canE E T) := by
  obtain ⟨t, p, s⟩ := h
  exact ⟨fun pins st σ H Q I ⟨c, S, env, R, Rx, x, k, t, q⟩ => p.run pins st σ H Q I (s c σ H S env R Rx x k t Q q)⟩
def canT (E : XK) (T : DTT) : TT := fun σ H Q => ∃ (c : Fm) (S : Hp) (env : En) (R : Bool → Prop) (Rx : Er → Prop), XOk c E Rx ∧ Kn c σ H S env ∧ T env R Rx ∧ ∀ b H' S', Kn c σ H' S' env → Same S S' → R b → Q b H'
theorem smT_can {E : XK} {T : DTT} : SmT E (canT E T) T := fun c σ H S env R Rx x k t Q q => ⟨c, S, env, R, Rx, x, k, t, q⟩
def DTs (X : Cx) (E : XK) (es : List Expr) (T : DTT) : Prop := ∃ t, PTs X es t ∧ SmT E t T
theorem pts_can {X : Cx} {E : XK} {e : List Expr} {T : DTT} (h : DTs X E e T) : PTs X e (canT E T) := by
  obtain ⟨t, p, s⟩ := h
  exact ⟨fun pins st σ H Q I ⟨c, S, env, R, Rx, x, k, t, q⟩ => p.run pins st σ H Q I (s c σ H S env R Rx x k t Q q)⟩
def canG (G : DG) (js : List Nat) : TG := fun v σ H P => ∃ (c : Fm) (S : Hp) (env : En) (d : D) (N : En → Prop), Kn c σ H S env ∧ Rep c.B S d v ∧ G d env N ∧ ∀ σ' H' S' env', Kn c σ' H' S' env' → Same S S' → Wip js σ σ' → N env' → P σ' H'
theorem smG_can {G : DG} {js : List Nat} : SmG (canG G js) G js := fun c σ H S env d v N k r t P q => ⟨c, S, env, d, N, k, r, t, q⟩
theorem pg_can {X : Cx} {e : Expr} {G : DG} {js : List Nat} (h : DGt X e G js) : PG X e (canG G js) := by
  obtain ⟨g, p, s⟩ := h
  exact ⟨fun pins st σ H v u Q I r ⟨c, S, env, d, N, k, r2, t, q⟩ => p.run pins st σ H v u Q I r (s c σ H S env d v N k r2 t Q q)⟩
def xYes : DTT := fun _ R _ => R true
section
variable {X : Cx} {E : XK} {a : Expr} {T : DTT}
theorem dts_nil : DTs X E [] xYes := ⟨_, pts_nil, fun c σ H S env R Rx x k t Q q => q true H S k (Same.refl S) t⟩
theorem dts_one (h : DTe X E a T) : DTs X E [a] T := by
  obtain ⟨t, p, s⟩ := h
  exact ⟨_, pts_one p, s⟩
end
abbrev noX : Er → Prop := fun _ => False
theorem xok0 {c : Fm} {E : XK} : XOk c E noX := fun er d vs H S k r l h _ _ z => z.elim
def Fm.at (c : Fm) (H S : Hp) : Fm := ⟨c.B, c.C, H, S⟩
section
variable {c : Fm} {σ : St} {H H' S S' : Hp} {env : En}
theorem Kf.at (k : Kf c H S) : Kf (c.at H S) H S := ⟨k.sub, Same.refl S, fun _ _ e _ => e, fun a e _ => e, fun b e => ⟨(k.bag b e).1, by
  obtain ⟨⟨_, cs, i, g, st, n, q, _⟩, _⟩ := k.bag b e
  show H b ≠ none
  rw [q]
  exact fun z => nomatch z⟩, ⟨k.tab.1, fun p hp => k.tab.1.ne hp⟩⟩
theorem Kn.back (k : Kn c σ H S env) (k' : Kf (c.at H S) H' S') : Kn c σ H' S' env := k.step k'.s0 k'.sub (fun a o e n => k'.old a o e n) (fun a e n => k'.new a e n) (fun b e => (k'.bag b e).1) k'.tab.1
theorem Kf.back' (k : Kf c H S) (k' : Kf (c.at H S) H' S') : Kf c H' S' := k.step k'.s0 k'.sub (fun a o e n => k'.old a o e n) (fun a e n => k'.new a e n) (fun b e => (k'.bag b e).1) k'.tab.1
theorem XOk.at {E : XK} {Rx : Er → Prop} (x : XOk c E Rx) (k : Kf c H S) : XOk (c.at H S) E Rx := fun er d vs H1 S1 k1 r l h n0 n1 z => x er d vs H1 S1 (k.back' k1) r l h (k.h0_none n0) n1 z
end
def inner : List Nat → En → En
  | [], env => env.map fun o => match o with
    | some (.val d) => some (.val d)
    | _ => none
  | i :: vs, env => (inner vs env).set i none
theorem inner_len {env : En} : ∀ vs : List Nat, (inner vs env).length = env.length
  | [] => by simp [inner]
  | i :: vs => by simp [inner, inner_len vs]
theorem inner_get {env : En} {i : Nat} {x : DV} : ∀ {vs : List Nat}, (inner vs env)[i]? = some (some x) → (∃ d, x = .val d ∧ env[i]? = some (some (.val d))) ∧ i ∉ vs
  | [], h => by
    refine ⟨?_, by simp⟩
    simp only [inner, List.getElem?_map] at h
    cases e : env[i]? with
    | none => rw [e] at h; cases h
    | some o =>
      rw [e] at h
      cases o with
      | none => cases h
      | some y =>
        cases y with
        | val d => cases h; exact ⟨d, rfl, rfl⟩
        | own _ => cases h
        | tre _ _ => cases h
  | v :: vs, h => by
    show _ ∧ i ∉ v :: vs
    simp only [inner] at h
    by_cases z : v = i
    · subst z
      rw [List.getElem?_set] at h
      simp only [if_true] at h
      split at h <;> cases h
    · rw [List.getElem?_set_ne z] at h
      obtain ⟨a, b⟩ := inner_get h
      exact ⟨a, by simp only [List.mem_cons, not_or]; exact ⟨fun e => z e.symm, b⟩⟩
theorem wipe_get {σ : St} {i : Nat} : ∀ {vs : List Nat}, i ∉ vs → (wipe σ vs)[i]? = σ[i]?
  | [], _ => rfl
  | v :: vs, h => by
    simp only [List.mem_cons, not_or] at h
    show ((wipe σ vs).set v none)[i]? = _
    rw [List.getElem?_set_ne (Ne.symm h.1), wipe_get h.2]
theorem wipe_in {j : Nat} : ∀ {us : List Nat} {τ : St}, j ∈ us → (wipe τ us)[j]? = if j < τ.length then some none else none
  | [], _, h => nomatch h
  | u :: us, τ, h => by
    show ((wipe τ us).set u none)[j]? = _
    by_cases hu : u = j
    · subst hu
      rw [List.getElem?_set]
      simp only [if_true, wipe_length]
    · rw [List.getElem?_set_ne hu]
      refine wipe_in ?_
      rcases List.mem_cons.mp h with e | e
      · exact absurd e.symm hu
      · exact e
theorem wipe_wipe (σ : St) (us : List Nat) : wipe (wipe σ us) us = wipe σ us := by
  apply List.ext_getElem?
  intro j
  by_cases hj : j ∈ us
  · rw [wipe_in hj, wipe_in hj, wipe_length]
  · rw [wipe_get hj, wipe_get hj]
theorem Kn.inner {c : Fm} {σ : St} {H S : Hp} {env : En} (k : Kn c σ H S env) (vs : List Nat) : Kn (c.at H S) (wipe σ vs) H S (inner vs env) := by
  refine ⟨k.kf.at, by rw [inner_len, wipe_length]; exact k.len, fun i x e => ?_, fun i j x y v u a _ e _ _ _ f _ => ?_⟩
  · obtain ⟨⟨d, rfl, e1⟩, hi⟩ := inner_get e
    obtain ⟨v, e2, r⟩ := k.sl i _ e1
    exact ⟨v, by rw [wipe_get hi]; exact e2, r⟩
  · obtain ⟨⟨d, rfl, _⟩, _⟩ := inner_get e
    exact f
def xLcF (Ti : DTI) (G : DG) (Tt : DTT) (Te : DT) (vs : List Nat) : DTF := fun env R Rx => Ti env (fun xs => ∃ I : Nat → List D → Prop, I 0 [] ∧
  (∀ i d acc, xs[i]? = some d → I i acc → G d (inner vs env) fun env' => Tt env' (fun b => (b = true → Te env' (fun y => acc.length < sizeLine ∧ I (i + 1) (acc ++ [y])) noX) ∧ (b = false → I (i + 1) acc)) noX) ∧
  ∀ acc, I xs.length acc → R acc) Rx
section
variable {X : Cx} {E : XK} {elt tg iter : Expr} {ifs : List Expr} {scope : Scope} {own : List (Str × Nat)} {pos : Pos} {Ti : DTI} {G : DG} {Tt : DTT} {Te : DT} {js : List Nat}
theorem smF_lc {wi : TI} (hsub : ∀ j ∈ js, j ∈ own.map (·.2)) (hi : SmI E wi Ti) : SmF E (tLc wi (canG G js) (canT E0 Tt) (canE E0 Te) (own.map (·.2))) (xLcF Ti G Tt Te (own.map (·.2))) := fun c σ H S env R Rx x k t Q q =>
  hi c σ H S env _ Rx x k t _ fun J H1 S1 xs k1 s1 it t1 => by
    obtain ⟨I, h0, hstep, hend⟩ := t1
    intro D hD
    have n0 := k1.kf.h0_none hD
    have fD := k1.free hD
    refine ⟨fun i m H => m = xs.length - i ∧ i ≤ xs.length ∧ ∃ S vs acc, Kn c σ H S env ∧ Same S1 S ∧ S D = none ∧ H D = some (.lst vs) ∧ RepL c.B S acc vs ∧ I i acc,
      ⟨_, rfl, Nat.zero_le _, S1, [], [], k1.new0 hD, Same.refl S1, k1.kf.s_none hD, upd_same, repL_nil, h0⟩, ?_⟩
    rintro i m H ⟨rfl, hil, S, vs, acc, k, s, nD, eD, l, hI⟩
    have ki := k.inner (own.map (·.2))
    obtain ⟨go, stop⟩ := it (c.at H S) rfl i _ H S _ ki s
    by_cases hlt : i < xs.length
    · have e : xs[i]? = some xs[i] := by simp [hlt]
      obtain ⟨g1, g2⟩ := go _ e
      refine .inr ⟨g1, fun H => i + 1 ≤ xs.length ∧ ∃ S vs acc, Kn c σ H S env ∧ Same S1 S ∧ S D = none ∧ H D = some (.lst vs) ∧ RepL c.B S acc vs ∧ I (i + 1) acc, fun H' h => ⟨_, by omega, rfl, h⟩, fun v H' y => ?_⟩
      obtain ⟨S', k', s', r'⟩ := g2 v H' y
      refine smG_can (c.at H S) _ H' S' _ _ v _ k' r' (hstep i _ acc e hI) _ fun σ2 H2 S2 env2 k2 s2 w2 t2 => ?_
      refine ⟨?_, ?_⟩
      · have := w2 (own.map (·.2)) hsub
        rw [this]
        exact wipe_wipe _ _
      · refine smT_can (c.at H S) σ2 H2 S2 env2 _ noX xok0 k2 t2 _ fun b H3 S3 k3 s3 t3 => ?_
        have fin : ∀ {H4 S4 : Hp}, Kf (c.at H S) H4 S4 → Kn c σ H4 S4 env ∧ H4 D = some (.lst vs) ∧ S4 D = none ∧ RepL c.B S4 acc vs ∧ Same S1 S4 := fun {H4 S4} kf => by
          refine ⟨k.back kf, kf.old D _ eD (k.kf.x_ne0 n0), kf.new D nD (mu_lst eD), repL_mono kf.s0 acc vs l, s.trans kf.s0⟩
        cases b with
        | true =>
          refine iteT ?_
          refine sm_can (c.at H S) σ2 H3 S3 env2 _ noX xok0 k3 (t3.1 rfl) _ fun u H4 S4 d4 k4 s4 r4 t4 => ?_
          obtain ⟨kn, eD4, nD4, l4, ss⟩ := fin k4.kf
          have l5 := l4.app (repL_cons r4 repL_nil)
          refine ⟨vs, eD4, by rw [l4.length]; exact t4.1, hlt, S4, _, _, ?_, ss, nD4, upd_same, l5, t4.2⟩
          -- the list at D changes: nobody knows it
          exact kn.updF nD4 n0 eD4 lst_ne fD
        | false =>
          refine iteF ?_
          obtain ⟨kn, eD4, nD4, l4, ss⟩ := fin k3.kf
          exact ⟨hlt, S3, vs, acc, kn, ss, nD4, eD4, l4, t3.2 rfl⟩
    · have e : i = xs.length := by omega
      subst e
      exact .inl ⟨stop (Nat.le_refl _), q D vs H S acc k (s1.trans s) n0 fD nD eD l (hend acc hI)⟩
theorem f_lc (hc : X.calm = true) (hN : X.N.Nodup) (hi : DI X E tg iter Ti) (ok : BlkOk X.N X.env.scope scope own) (hsub : ∀ j ∈ js, j ∈ own.map (·.2))
    (hg : ∀ (s : Shared) (H : Hp) (C : Addr) (cl : List (Str × Addr)) (fp : List Addr), DGt (X.blk s H scope (compEnvC scope cl C X.env) fp) tg G js)
    (ht : ∀ (s : Shared) (H : Hp) (C : Addr) (cl : List (Str × Addr)) (fp : List Addr), DTs (X.blk s H scope (compEnvC scope cl C X.env) fp) E0 ifs Tt)
    (he : ∀ (s : Shared) (H : Hp) (C : Addr) (cl : List (Str × Addr)) (fp : List Addr), DE (X.blk s H scope (compEnvC scope cl C X.env) fp) E0 elt Te)
    (hs : ∀ x, foldedSetIterable iter X.env x = pure x := by intro _; rfl) : DF X E (.ListComp elt [⟨tg, iter, ifs, 0⟩] scope pos) (xLcF Ti G Tt Te (own.map (·.2))) := by
  obtain ⟨wi, p, s⟩ := hi
  exact ⟨_, pe_lc hc hN p ok (fun s H C cl fp => pg_can (hg s H C cl fp)) (fun s H C cl fp => pts_can (ht s H C cl fp)) (fun s H C cl fp => pe_can (he s H C cl fp)) hs, smF_lc hsub s⟩
end
abbrev Spec := List D → (D → Prop) → (Er → Prop) → Prop
def spD (F : Spec) : Sp := fun vs H Q E => ∃ (c : Fm) (S : Hp) (ds : List D) (R : D → Prop) (Rx : Er → Prop), c.H0 = H ∧ c.S0 = S ∧ Kf c H S ∧ RepL c.B S ds vs ∧ F ds R Rx ∧ (∀ v H' S' d, Kf c H' S' → Rep c.B S' d v → R d → Q v H') ∧ XOk c E Rx
def xCall (F : Spec) (dds : List D) (Tl : DTA) : DT := fun env R Rx => Tl env (fun xs => F (xs ++ dds) R Rx) Rx
def DfR (dds : List D) (dvs : List V) : Prop := ∀ B S, RepL B S dds dvs
theorem dfR_nil : DfR [] [] := fun _ _ => repL_nil
section
variable {X : Cx} {E : XK} {CX : CXT} {k n : Nat} {f : Addr} {fd : FuncData} {ps ks : List Str} {F : Spec} {dvs : List V} {dds : List D} {ds : List Value} {x : Str} {p pos : Pos} {e : Expr} {es : List Expr} {Tl Tk : DTA} {kws : List Keyword}
theorem sp_call {c : Fm} {σ : St} {H S : Hp} {env : En} {vs : List V} {xs : List D} {R : D → Prop} {Rx : Er → Prop} {Q : VK} (kn : Kn c σ H S env) (x : XOk c E Rx) (l : RepL c.B S xs vs) (t : F xs R Rx)
    (q : ∀ v H' S' d, Kn c σ H' S' env → Same S S' → Rep c.B S' d v → R d → Q v H') : spD F vs H Q E :=
  ⟨c.at H S, S, xs, R, Rx, rfl, rfl, kn.kf.at, l, t, fun v H' S' d k' r z => q v H' S' d (kn.back k') k'.s0 r z, x.at kn.kf⟩
theorem d_call (G : FnOk X.prog X.w X.K X.mg X.base CX k f fd ps (spD F)) (hr : Room k X.A) (hm : X.mg x = some (.ref f)) (hk : PySem.W.keepIn X.K (.ref f) = true) (hb : Binds X.K fd ps ds) (hd : Vals dvs ds) (hdd : DfR dds dvs) (hx : Passes CX X E) (ha : DA X E (e :: es) Tl)
    (hg : Gl X x := by rfl) (hdb : (x == ("__debug__" : Str)) = false := by decide) (he : starEach (e :: es) X.env = (false, eval e X.env) :: starEach es X.env := by rfl) (hpl : (backTo pos (starEach es X.env)).any (·.1) = false := by rfl) :
    DE X E (.Call (.Name x p) (e :: es) [] pos) (xCall F dds Tl) := by
  obtain ⟨t, pa, s⟩ := ha
  refine ⟨_, pe_call G hr hg hm hk hb hd hx pa hdb he hpl, fun c σ H S env R Rx x k t Q q => s c σ H S env _ Rx x k t _ fun vs H1 S1 xs k1 s1 l1 t1 => ?_⟩
  exact sp_call k1 x (l1.app (hdd _ _)) t1 fun v H' S' d k' s' r' t' => q v H' S' d k' (s1.trans s') r' t'
def xCallK (F : Spec) (g : List D → List D → List D) (Tl Tk : DTA) : DT := fun env R Rx => Tl env (fun xs => Tk env (fun zs => F (g xs zs) R Rx) Rx) Rx
end
/-- the names at the entry -/
def startE (N : List Str) (ds : List D) : En := ds.map (fun d => some (.val d)) ++ List.replicate (N.length - ds.length) none
theorem kn_start {c : Fm} {N : List Str} {ds : List D} {vs : List V} {H S : Hp} (k : Kf c H S) (l : RepL c.B S ds vs) : Kn c (L2.start N vs) H S (startE N ds) := by
  have hl := l.length
  refine ⟨k, by unfold startE L2.start; simp [hl], fun i x e => ?_, fun i j x y v u a _ e _ _ _ f _ => ?_⟩
  · unfold startE at e
    unfold L2.start
    by_cases hi : i < ds.length
    · rw [List.getElem?_append_left (by simpa using hi), List.getElem?_map] at e
      cases ed : ds[i]? with
      | none => rw [ed] at e; cases e
      | some d =>
        rw [ed] at e
        cases e
        obtain ⟨v, ev, r⟩ := l.get ed
        exact ⟨v, by rw [List.getElem?_append_left (by simp; omega), List.getElem?_map, ev]; rfl, r⟩
    · rw [List.getElem?_append_right (by simpa using hi), List.getElem?_replicate] at e
      split at e <;> cases e
  · unfold startE at e
    by_cases hi : i < ds.length
    · rw [List.getElem?_append_left (by simpa using hi), List.getElem?_map] at e
      cases ed : ds[i]? with
      | none => rw [ed] at e; cases e
      | some d =>
        rw [ed] at e
        cases e
        exact f
    · rw [List.getElem?_append_right (by simpa using hi), List.getElem?_replicate] at e
      split at e <;> cases e
section
variable {P : Program} {w : World} {K : PySem.W.Frag} {mg : Str → Option Value} {base : Heap} {x qual : Str} {st : Stmt} {dvs : List V} {kws : List (Str × V)} {f : Addr} {fd : FuncData} {N ps : List Str} {k : Nat} {F : Spec}
abbrev FnS (K : PySem.W.Frag) (x qual : Str) (st : Stmt) (dvs : List V) (kws : List (Str × V)) (f : Addr) (fd : FuncData) : Prop := FunD K x qual (defArgs st) (defBody st) (defScope st) dvs kws f fd
/-- THE RULE for a def: its body told by T, and what T says -/
theorem fn_d {T : DTS} (Fd : FnS K x qual st dvs kws f fd) (S : FnScope N ps (defScope st)) (len : ∀ ds R Rx, F ds R Rx → ds.length = ps.length)
    (hbody : ∀ (cdv : Value) (A : Around) (outer : List Env) (s : Shared) (H : Hp) (E : XK), Room k (A.deeper (PyProof.Rows.envOfC qual (defScope st) s.heap.objs.size f cdv)) →
      DSs (cxOf (L2.CX P w) P w K mg base N qual (defScope st) f cdv A outer s H E) E (defBody st) T)
    (hT : ∀ ds R Rx, F ds R Rx → T { nx := fun _ => R .non, rt := fun _ => R, ex := Rx } (startE N ds)) : FnOk P w K mg base (L2.CX P w) (k + 1) f fd ps (spD F) := by
  refine FunD.ok Fd S (fun vs H Q E ⟨c, S, ds, R, Rx, _, _, _, l, h, _⟩ => by rw [l.length]; exact len _ _ _ h) fun cdv A outer s H vs Q E hr hsp => ?_
  obtain ⟨c, Sh, ds, R, Rx, h0, hs0, kf, l, h, q, xo⟩ := hsp
  obtain ⟨t, p, sm⟩ := hbody cdv A outer s H E hr
  refine ⟨t, p, sm c _ H Sh _ _ xo (kn_start kf l) (hT ds R Rx h) _ ⟨fun σ H1 S1 env k1 s1 r1 => ?_, fun n v H1 S1 d k1 s1 r1 t1 => by
    obtain ⟨S2, k2, _, r2⟩ := r1.old k1
    exact q v H1 S2 d k2 r2 t1, fun σ H1 S1 env k1 s1 r1 => r1, fun σ H1 S1 env k1 s1 r1 => r1⟩⟩
  exact q .non H1 S1 .non k1.kf rfl r1
end
end DL
namespace DL
open PySem PySem.Spec L2
variable [TbC]
theorem pass_d {P : Program} {w : World} {K : PySem.W.Frag} {mg : Str → Option Value} {base : Heap} {N : List Str} {qual : Str} {scope : Scope} {f : Addr} {cd : Value} {A : Around} {outer : List Env} {s : Shared} {H : Hp} {E : XK} :
    Passes (L2.CX P w) (cxOf (L2.CX P w) P w K mg base N qual scope f cd A outer s H E) E := passes_call (takes_of rfl rfl rfl rfl) fun _ _ _ _ h => h
/-- a def of the module's top without defaults -/
structure Df (K : PySem.W.Frag) (mg : Str → Option Value) (x : Str) (st : Stmt) where
  f : Addr
  fd : FuncData
  F : FnS K x x st [] [] f fd
  g : mg x = some (.ref f)
section
variable {R : D → Prop} {i j : Int} {b : Bool} {s t : Str} {xs ys : List D} {x y d : D} {env : En} {Rx : Er → Prop}
theorem opAdd_int : opAdd (.int i) (.int j) R = R (.int (i + j)) := rfl
theorem opAdd_str : opAdd (.str s) (.str t) R = (s.length + t.length ≤ sizeLine ∧ R (.str (s ++ t))) := rfl
theorem opAdd_lst : opAdd (.lst xs) (.lst ys) R = (xs.length + ys.length ≤ sizeLine ∧ R (.lst (xs ++ ys))) := rfl
theorem opAdd_tup : opAdd (.tup xs) (.tup ys) R = (xs.length + ys.length ≤ sizeLine ∧ R (.tup (xs ++ ys))) := rfl
theorem opSub_int : opSub (.int i) (.int j) R = R (.int (i - j)) := rfl
theorem opMul_int : opMul (.int i) (.int j) R = (MulOk i j ∧ R (.int (i * j))) := rfl
theorem opMul_lst : opMul (.lst xs) (.int j) R = (-(2 ^ 63) ≤ j ∧ j < 2 ^ 63 ∧ xs.length * j.toNat ≤ sizeLine ∧ R (.lst (List.replicate j.toNat xs).flatten)) := rfl
theorem opMul_str : opMul (.str s) (.int j) R = (-(2 ^ 63) ≤ j ∧ j < 2 ^ 63 ∧ s.length * j.toNat ≤ sizeLine ∧ R (.str (mulS s j.toNat))) := rfl
theorem opFdiv_int : opFdiv (.int i) (.int j) R = (DivOk j ∧ R (.int (i.fdiv j))) := rfl
theorem opMod_int : opMod (.int i) (.int j) R = (j ≠ 0 ∧ R (.int (i.fmod j))) := rfl
theorem opPow_int : opPow (.int i) (.int j) R = ((0 ≤ j ∧ j ≤ 1000000 ∧ i.natAbs < 2 ^ 64) ∧ R (.int (i ^ j.toNat))) := rfl
theorem opNeg_int : opNeg (.int i) R = R (.int (-i)) := rfl
theorem opLt_int : opLt (.int i) (.int j) R = R (.bl (decide (i < j))) := rfl
theorem opLe_int : opLe (.int i) (.int j) R = R (.bl (decide (i ≤ j))) := rfl
theorem opGt_int : opGt (.int i) (.int j) R = R (.bl (decide (j < i))) := rfl
theorem opGe_int : opGe (.int i) (.int j) R = R (.bl (decide (j ≤ i))) := rfl
theorem opIx_lst : opIx (.lst xs) (.int i) R = ∃ d, atI xs i = some d ∧ R d := rfl
theorem opIx_tup : opIx (.tup xs) (.int i) R = ∃ d, atI xs i = some d ∧ R d := rfl
theorem opIx_str : opIx (.str s) (.int i) R = (s.length ≤ sizeLine ∧ ∃ c, atI s.cps.toList i = some c ∧ R (.str ⟨#[c]⟩)) := rfl
theorem opSl_lst {lo hi : Option Int} : opSl (.lst xs) lo hi R = R (.lst (cutD xs lo hi)) := rfl
theorem opSl_tup {lo hi : Option Int} : opSl (.tup xs) lo hi R = R (.tup (cutD xs lo hi)) := rfl
theorem opSl_str {lo hi : Option Int} : opSl (.str s) lo hi R = (s.length ≤ sizeLine ∧ R (.str (cutS s lo hi))) := rfl
theorem asB_bl {Q : Bool → Prop} : asB Q (.bl b) = Q b := rfl
theorem asI_int {Q : Int → Prop} : asI Q (.int i) = Q i := rfl
theorem asL_lst {Q : List D → Prop} : asL Q (.lst xs) = Q xs := rfl
theorem asLT_lst {Q : List D → Prop} : asLT Q (.lst xs) = Q xs := rfl
theorem asLT_tup {Q : List D → Prop} : asLT Q (.tup xs) = Q xs := rfl
theorem fLen_lst : fLen [.lst xs] R = R (.int (xs.length : Nat)) := rfl
theorem fLen_tup : fLen [.tup xs] R = R (.int (xs.length : Nat)) := rfl
theorem fLen_str : fLen [.str s] R = (s.length ≤ sizeLine ∧ R (.int (s.length : Nat))) := rfl
theorem fInt_int : fInt [.int i] R = R (.int i) := rfl
theorem fInt_bl : fInt [.bl b] R = R (.int (if b then 1 else 0)) := rfl
theorem fAbs_int : fAbs [.int i] R = R (.int (if i < 0 then -i else i)) := rfl
theorem fMin2_int : fMin2 [.int i, .int j] R = R (.int (if j < i then j else i)) := rfl
theorem fMax2_int : fMax2 [.int i, .int j] R = R (.int (if j > i then j else i)) := rfl
theorem fSum_lst : fSum [.lst xs] R = ∃ ns, asInts xs = some ns ∧ R (.int ns.sum) := rfl
theorem fAny_lst : fAny [.lst xs] R = ∃ ns, asBls xs = some ns ∧ R (.bl (ns.any _root_.id)) := rfl
theorem fAll_lst : fAll [.lst xs] R = ∃ ns, asBls xs = some ns ∧ R (.bl (ns.all _root_.id)) := rfl
theorem fTuple_lst : fTuple [.lst xs] R = R (.tup xs) := rfl
theorem fTuple_tup : fTuple [.tup xs] R = R (.tup xs) := rfl
/-- isinstance of built-in types, answered -/
theorem fIsi_1 {n : String} {bb : Bool} (h : n ∈ tys) (e : x.isi n = some bb) : fIsi [x, .ty n] R = R (.bl bb) := by
  refine propext ⟨fun t => ?_, fun t => ⟨h, bb, e, t⟩⟩
  obtain ⟨_, b2, e2, t⟩ := t
  rw [e] at e2
  cases e2
  exact t
theorem fIsi_2 {n m : String} {bb bc : Bool} (h : n ∈ tys) (h2 : m ∈ tys) (e : x.isi n = some bb) (e2 : x.isi m = some bc) : fIsi [x, .tup [.ty n, .ty m]] R = R (.bl (bb || bc)) := by
  refine propext ⟨fun t => ?_, fun t => ⟨h, h2, bb, bc, e, e2, t⟩⟩
  obtain ⟨_, _, b2, b3, e3, e4, t⟩ := t
  rw [e] at e3
  rw [e2] at e4
  cases e3
  cases e4
  exact t
theorem xVar_at {n : Nat} (h : env[n]? = some (some (.val d))) : xVar n env R Rx = R d := by
  refine propext ⟨fun ⟨d', e, t⟩ => ?_, fun t => ⟨d, h, t⟩⟩
  rw [h] at e
  cases e
  exact t
theorem xVar_0 {l : En} : xVar 0 (some (.val d) :: l) R Rx = R d := xVar_at rfl
theorem xVar_s {n : Nat} {o : Option DV} {l : En} : xVar (n + 1) (o :: l) R Rx = xVar n l R Rx := rfl
theorem put_0 {o : Option DV} {l : En} : put 0 d (o :: l) = some (.val d) :: l := rfl
theorem put_s {n : Nat} {o : Option DV} {l : En} : put (n + 1) d (o :: l) = o :: put n d l := rfl
theorem putO_0 {o : Option DV} {l : En} : putO' 0 xs (o :: l) = some (.own xs) :: l := rfl
theorem putO_s {n : Nat} {o : Option DV} {l : En} : putO' (n + 1) xs (o :: l) = o :: putO' n xs l := rfl
end
section
variable {R : D → Prop} {i : Int} {b : Bool} {s : Str} {xs : List D}
theorem isi_non_int : fIsi [.non, .ty "int"] R = R (.bl false) := fIsi_1 (by decide) rfl
theorem isi_non_bool : fIsi [.non, .ty "bool"] R = R (.bl false) := fIsi_1 (by decide) rfl
theorem isi_non_str : fIsi [.non, .ty "str"] R = R (.bl false) := fIsi_1 (by decide) rfl
theorem isi_non_list : fIsi [.non, .ty "list"] R = R (.bl false) := fIsi_1 (by decide) rfl
theorem isi_non_tuple : fIsi [.non, .ty "tuple"] R = R (.bl false) := fIsi_1 (by decide) rfl
theorem isi_non_lt : fIsi [.non, .tup [.ty "list", .ty "tuple"]] R = R (.bl false) := fIsi_2 (bb := false) (bc := false) (n := "list") (m := "tuple") (by decide) (by decide) rfl rfl
theorem isi_bl_int : fIsi [(.bl b), .ty "int"] R = R (.bl true) := fIsi_1 (by decide) rfl
theorem isi_bl_bool : fIsi [(.bl b), .ty "bool"] R = R (.bl true) := fIsi_1 (by decide) rfl
theorem isi_bl_str : fIsi [(.bl b), .ty "str"] R = R (.bl false) := fIsi_1 (by decide) rfl
theorem isi_bl_list : fIsi [(.bl b), .ty "list"] R = R (.bl false) := fIsi_1 (by decide) rfl
theorem isi_bl_tuple : fIsi [(.bl b), .ty "tuple"] R = R (.bl false) := fIsi_1 (by decide) rfl
theorem isi_bl_lt : fIsi [(.bl b), .tup [.ty "list", .ty "tuple"]] R = R (.bl false) := fIsi_2 (bb := false) (bc := false) (n := "list") (m := "tuple") (by decide) (by decide) rfl rfl
theorem isi_int_int : fIsi [(.int i), .ty "int"] R = R (.bl true) := fIsi_1 (by decide) rfl
theorem isi_int_bool : fIsi [(.int i), .ty "bool"] R = R (.bl false) := fIsi_1 (by decide) rfl
theorem isi_int_str : fIsi [(.int i), .ty "str"] R = R (.bl false) := fIsi_1 (by decide) rfl
theorem isi_int_list : fIsi [(.int i), .ty "list"] R = R (.bl false) := fIsi_1 (by decide) rfl
theorem isi_int_tuple : fIsi [(.int i), .ty "tuple"] R = R (.bl false) := fIsi_1 (by decide) rfl
theorem isi_int_lt : fIsi [(.int i), .tup [.ty "list", .ty "tuple"]] R = R (.bl false) := fIsi_2 (bb := false) (bc := false) (n := "list") (m := "tuple") (by decide) (by decide) rfl rfl
theorem isi_str_int : fIsi [(.str s), .ty "int"] R = R (.bl false) := fIsi_1 (by decide) rfl
theorem isi_str_bool : fIsi [(.str s), .ty "bool"] R = R (.bl false) := fIsi_1 (by decide) rfl
theorem isi_str_str : fIsi [(.str s), .ty "str"] R = R (.bl true) := fIsi_1 (by decide) rfl
theorem isi_str_list : fIsi [(.str s), .ty "list"] R = R (.bl false) := fIsi_1 (by decide) rfl
theorem isi_str_tuple : fIsi [(.str s), .ty "tuple"] R = R (.bl false) := fIsi_1 (by decide) rfl
theorem isi_str_lt : fIsi [(.str s), .tup [.ty "list", .ty "tuple"]] R = R (.bl false) := fIsi_2 (bb := false) (bc := false) (n := "list") (m := "tuple") (by decide) (by decide) rfl rfl
theorem isi_lst_int : fIsi [(.lst xs), .ty "int"] R = R (.bl false) := fIsi_1 (by decide) rfl
theorem isi_lst_bool : fIsi [(.lst xs), .ty "bool"] R = R (.bl false) := fIsi_1 (by decide) rfl
theorem isi_lst_str : fIsi [(.lst xs), .ty "str"] R = R (.bl false) := fIsi_1 (by decide) rfl
theorem isi_lst_list : fIsi [(.lst xs), .ty "list"] R = R (.bl true) := fIsi_1 (by decide) rfl
theorem isi_lst_tuple : fIsi [(.lst xs), .ty "tuple"] R = R (.bl false) := fIsi_1 (by decide) rfl
theorem isi_lst_lt : fIsi [(.lst xs), .tup [.ty "list", .ty "tuple"]] R = R (.bl true) := fIsi_2 (bb := true) (bc := false) (n := "list") (m := "tuple") (by decide) (by decide) rfl rfl
theorem isi_tup_int : fIsi [(.tup xs), .ty "int"] R = R (.bl false) := fIsi_1 (by decide) rfl
theorem isi_tup_bool : fIsi [(.tup xs), .ty "bool"] R = R (.bl false) := fIsi_1 (by decide) rfl
theorem isi_tup_str : fIsi [(.tup xs), .ty "str"] R = R (.bl false) := fIsi_1 (by decide) rfl
theorem isi_tup_list : fIsi [(.tup xs), .ty "list"] R = R (.bl false) := fIsi_1 (by decide) rfl
theorem isi_tup_tuple : fIsi [(.tup xs), .ty "tuple"] R = R (.bl true) := fIsi_1 (by decide) rfl
theorem isi_tup_lt : fIsi [(.tup xs), .tup [.ty "list", .ty "tuple"]] R = R (.bl true) := fIsi_2 (bb := false) (bc := true) (n := "list") (m := "tuple") (by decide) (by decide) rfl rfl
end
/-- data of at most n levels, each list within bounds -/
def Good : Nat → D → Prop
  | n + 1, .lst xs => xs.length ≤ 100000 ∧ ∀ x ∈ xs, Good n x
  | n + 1, .tup xs => xs.length ≤ 100000 ∧ ∀ x ∈ xs, Good n x
  | _ + 1, .non => True
  | _ + 1, .bl _ => True
  | _ + 1, .int _ => True
  | _ + 1, .str _ => True
  | _, _ => False
theorem datL_of {xs : List D} (h : ∀ x ∈ xs, x.dat = true) : datL xs = true := by
  induction xs with
  | nil => rfl
  | cons x xs ih =>
    show (x.dat && datL xs) = true
    rw [h x (List.mem_cons_self ..), ih fun y hy => h y (List.mem_cons_of_mem _ hy)]
    rfl
theorem depL_of {n : Nat} {xs : List D} (h : ∀ x ∈ xs, x.dep ≤ n) : depL xs ≤ n := by
  induction xs with
  | nil => exact Nat.zero_le _
  | cons x xs ih =>
    show max x.dep (depL xs) ≤ n
    have h1 := h x (List.mem_cons_self ..)
    have h2 := ih fun y hy => h y (List.mem_cons_of_mem _ hy)
    omega
theorem good_dat : ∀ {n : Nat} {d : D}, Good n d → d.dat = true ∧ d.dep ≤ n
  | 0, d, h => by cases d <;> exact (show False from h).elim
  | n + 1, d, h => by
    cases d <;> first
      | exact (show False from h).elim
      | exact ⟨rfl, by simp [D.dep]⟩
      | exact ⟨datL_of fun x hx => (good_dat (h.2 x hx)).1, by
          have : depL _ ≤ n := depL_of fun x hx => (good_dat (h.2 x hx)).2
          simp only [D.dep]
          omega⟩
theorem good_non {n : Nat} : Good (n + 1) .non = True := rfl
theorem good_bl {n : Nat} {b : Bool} : Good (n + 1) (.bl b) = True := rfl
theorem good_int {n : Nat} {i : Int} : Good (n + 1) (.int i) = True := rfl
theorem good_str {n : Nat} {s : Str} : Good (n + 1) (.str s) = True := rfl
theorem good_ints {n : Nat} {ns : List Int} (h : ns.length ≤ 100000) : Good (n + 2) (.lst (ns.map D.int)) := ⟨by rw [List.length_map]; exact h, fun x hx => by
  obtain ⟨i, _, rfl⟩ := List.mem_map.mp hx
  trivial⟩
/-- the words of comprehensions -/
def LcP (xs : List D) (G : DG) (Tt : DTT) (Te : DT) (vs : List Nat) (env : En) (R : List D → Prop) : Prop := ∃ I : Nat → List D → Prop, I 0 [] ∧
  (∀ i d acc, xs[i]? = some d → I i acc → G d (inner vs env) fun env' => Tt env' (fun b => (b = true → Te env' (fun y => acc.length < sizeLine ∧ I (i + 1) (acc ++ [y])) noX) ∧ (b = false → I (i + 1) acc)) noX) ∧
  ∀ acc, I xs.length acc → R acc
theorem xLcF_is {Ti : DTI} {G : DG} {Tt : DTT} {Te : DT} {vs : List Nat} {env : En} {R : List D → Prop} {Rx : Er → Prop} : xLcF Ti G Tt Te vs env R Rx = Ti env (fun xs => LcP xs G Tt Te vs env R) Rx := rfl
theorem take_succ_map {α β : Type} {xs : List α} {i : Nat} {d : α} (f : α → β) (e : xs[i]? = some d) : (xs.take (i + 1)).map f = (xs.take i).map f ++ [f d] := by
  rw [List.take_succ, e]
  simp
theorem LcP.map {xs : List D} {G : DG} {Te : DT} {vs : List Nat} {env : En} {R : List D → Prop} (f : D → D) (hz : xs.length ≤ sizeLine) (h : ∀ (i : Nat) (d : D) (N : D → Prop), xs[i]? = some d → N (f d) → G d (inner vs env) fun env' => Te env' N noX) (k : R (xs.map f)) :
    LcP xs G xYes Te vs env R := by
  refine ⟨fun i acc => acc = (xs.take i).map f, by simp, fun i d acc e hI => ?_, fun acc hI => by rw [hI, List.take_length]; exact k⟩
  have hi := (List.getElem?_eq_some_iff.mp e).1
  have key := h i d (fun y => acc.length < sizeLine ∧ acc ++ [y] = (xs.take (i + 1)).map f) e ⟨by rw [hI, List.length_map, List.length_take]; omega, by rw [hI, take_succ_map f e]⟩
  have e1 : (fun env' => xYes env' (fun b => (b = true → Te env' (fun y => acc.length < sizeLine ∧ acc ++ [y] = (xs.take (i + 1)).map f) noX) ∧ (b = false → acc = (xs.take (i + 1)).map f)) noX) = fun env' => Te env' (fun y => acc.length < sizeLine ∧ acc ++ [y] = (xs.take (i + 1)).map f) noX := by
    funext env'
    refine propext ⟨fun t => t.1 rfl, fun t => ⟨fun _ => t, fun z => nomatch z⟩⟩
  rw [e1]
  exact key
theorem LcP.filter {xs : List D} {G : DG} {Tt : DTT} {Te : DT} {vs : List Nat} {env : En} {R : List D → Prop} (p : D → Bool) (f : D → D) (hz : xs.length ≤ sizeLine)
    (h : ∀ (i : Nat) (d : D) (N : D → Prop) (M : Prop), xs[i]? = some d → (p d = true → N (f d)) → (p d = false → M) → G d (inner vs env) fun env' => Tt env' (fun b => (b = true → Te env' N noX) ∧ (b = false → M)) noX) (k : R ((xs.filter p).map f)) : LcP xs G Tt Te vs env R := by
  refine ⟨fun i acc => acc = ((xs.take i).filter p).map f, by simp, fun i d acc e hI => ?_, fun acc hI => by rw [hI, List.take_length]; exact k⟩
  have hi := (List.getElem?_eq_some_iff.mp e).1
  have e2 : xs.take (i + 1) = xs.take i ++ [d] := by rw [List.take_succ, e]; rfl
  refine h i d _ _ e (fun hp => ⟨?_, ?_⟩) fun hp => ?_
  · rw [hI, List.length_map]
    have := List.length_filter_le p (xs.take i)
    rw [List.length_take] at this
    omega
  · show acc ++ [f d] = ((xs.take (i + 1)).filter p).map f
    rw [hI, e2, List.filter_append]
    simp [hp]
  · show acc = ((xs.take (i + 1)).filter p).map f
    rw [hI, e2, List.filter_append]
    simp [hp]
/-- the items are not told, but what is true of them -/
theorem LcP.all {xs : List D} {G : DG} {Te : DT} {vs : List Nat} {env : En} {R : List D → Prop} (Pd : D → Prop) (hz : xs.length ≤ sizeLine) (h : ∀ (i : Nat) (d : D) (N : D → Prop), xs[i]? = some d → (∀ y, Pd y → N y) → G d (inner vs env) fun env' => Te env' N noX)
    (k : ∀ acc : List D, acc.length = xs.length → (∀ y ∈ acc, Pd y) → R acc) : LcP xs G xYes Te vs env R := by
  refine ⟨fun i acc => acc.length = i ∧ ∀ y ∈ acc, Pd y, ⟨rfl, fun y hy => nomatch hy⟩, fun i d acc e ⟨h1, h2⟩ => ?_, fun acc ⟨h1, h2⟩ => k acc h1 h2⟩
  have hi := (List.getElem?_eq_some_iff.mp e).1
  have key := h i d (fun y => acc.length < sizeLine ∧ (acc ++ [y]).length = i + 1 ∧ ∀ z ∈ acc ++ [y], Pd z) e fun y hy => ⟨by omega, by simp [h1], fun z hz => by
    rcases List.mem_append.mp hz with q | q
    · exact h2 z q
    · rw [List.mem_singleton.mp q]; exact hy⟩
  have e1 : (fun env' => xYes env' (fun b => (b = true → Te env' (fun y => acc.length < sizeLine ∧ (acc ++ [y]).length = i + 1 ∧ ∀ z ∈ acc ++ [y], Pd z) noX) ∧ (b = false → acc.length = i + 1 ∧ ∀ y ∈ acc, Pd y)) noX) = fun env' => Te env' (fun y => acc.length < sizeLine ∧ (acc ++ [y]).length = i + 1 ∧ ∀ z ∈ acc ++ [y], Pd z) noX := by
    funext env'
    refine propext ⟨fun t => t.1 rfl, fun t => ⟨fun _ => t, fun z => nomatch z⟩⟩
  rw [e1]
  exact key
theorem ints_of {P : Int → Prop} : ∀ {acc : List D}, (∀ y ∈ acc, ∃ n, y = .int n ∧ P n) → ∃ ns : List Int, acc = ns.map D.int ∧ ∀ n ∈ ns, P n
  | [], _ => ⟨[], rfl, fun n h => nomatch h⟩
  | y :: acc, h => by
    obtain ⟨n, rfl, hp⟩ := h y (List.mem_cons_self ..)
    obtain ⟨ns, rfl, hn⟩ := ints_of (acc := acc) fun z hz => h z (List.mem_cons_of_mem _ hz)
    exact ⟨n :: ns, rfl, fun m hm => by
      rcases List.mem_cons.mp hm with e | e
      · rw [e]; exact hp
      · exact hn m e⟩
/-- a word for a loop -/
theorem sm_ofF {E : XK} {t : TE} {T : DTF} (s : SmF E t T) : Sm E t (xF T) := fun c σ H S env R Rx x k t Q q => s c σ H S env _ Rx x k t Q fun p vs H1 S1 ds k1 s1 n0 f n2 e1 l1 r1 => by
  obtain ⟨k2, s2, r2⟩ := k1.freeze n2 n0 e1 l1 f
  exact q _ H1 _ _ k2 (s1.trans s2) r2 r1
end DL
namespace DL
open PySem PySem.Spec L2
variable [TbC]
def gPerm (n m : Nat) (idx : List Nat) {α : Type} (us ws : List α) : List α := if us.length = n ∧ ws.length = m then idx.filterMap (fun i => (us ++ ws)[i]?) else []
end DL
namespace DL
open PySem PySem.Spec L2
variable [TbC]
def D.flat : D → Bool
  | .non | .bl _ | .int _ | .str _ | .ty _ => true
  | _ => false
def flatL (ds : List D) : Bool := ds.all D.flat
theorem flat_rep {B : Option Addr} {S S' : Hp} {d : D} {v : V} (h : d.flat = true) (r : Rep B S d v) : Rep B S' d v := by
  cases d <;> first | exact (Bool.false_ne_true h).elim | exact r
theorem flatL_rep {B : Option Addr} {S S' : Hp} : ∀ {ds : List D} {vs : List V}, flatL ds = true → RepL B S ds vs → RepL B S' ds vs
  | [], _, _, r => r
  | d :: ds, _, h, r => by
    obtain ⟨v, ws, rfl, r1, l⟩ := repL_cons_of r
    have h : (d.flat && flatL ds) = true := h
    rw [Bool.and_eq_true] at h
    exact repL_cons (flat_rep h.1 r1) (flatL_rep h.2 l)
theorem flatL_nil : flatL [] = true := rfl
theorem flatL_cons {d : D} {ds : List D} : flatL (d :: ds) = (d.flat && flatL ds) := rfl
theorem flatL_app {xs ys : List D} : flatL (xs ++ ys) = (flatL xs && flatL ys) := List.all_append
theorem flatL_of {ds : List D} (h : ∀ d ∈ ds, d.flat = true) : flatL ds = true := List.all_eq_true.mpr h
theorem flatL_map {α : Type} {f : α → D} {xs : List α} (h : ∀ x, (f x).flat = true) : flatL (xs.map f) = true := flatL_of fun d hd => by
  obtain ⟨x, _, rfl⟩ := List.mem_map.mp hd
  exact h x
/-- N: parts of H that are not of S, not of the frame's past, no name's own -/
def Reg (c : Fm) (σ : St) (env : En) (H S N : Hp) : Prop := ∀ a o, N a = some o → H a = some o ∧ S a = none ∧ c.H0 a = none ∧ Free σ env a
def uni (S N : Hp) : Hp := fun a => match S a with
  | some o => some o
  | none => N a
theorem uni_l {S N : Hp} : Same S (uni S N) := fun a o e => by unfold uni; rw [e]
theorem uni_r {c : Fm} {σ : St} {env : En} {H S N : Hp} (g : Reg c σ env H S N) : Same N (uni S N) := fun a o e => by
  unfold uni
  rw [(g a o e).2.1]
  exact e
theorem uni_of {S N : Hp} {a : Addr} {o : HO} (e : uni S N a = some o) : S a = some o ∨ (S a = none ∧ N a = some o) := by
  unfold uni at e
  split at e
  · exact .inl (by rw [← e]; assumption)
  · exact .inr ⟨by assumption, e⟩
section
variable {c : Fm} {σ : St} {H H' S S' N : Hp} {env : En} {p : Addr} {vs : List V} {ds : List D}
theorem Kn.uni (k : Kn c σ H S env) (g : Reg c σ env H S N) : Kn c σ H (uni S N) env := by
  have hs : ∀ a, S a = none → N a = none → DL.uni S N a = none := fun a e e2 => by unfold DL.uni; rw [e]; exact e2
  refine ⟨⟨fun a o e => ?_, k.kf.s0.trans uni_l, k.kf.old, fun a e n => ?_, fun b eb => ?_, ⟨fun p hp => ⟨(k.kf.tab.1 p hp).1, hs _ (k.kf.tab.1 p hp).2 (by
    cases en : N p.1 with
    | none => rfl
    | some o => exact absurd (g _ o en).2.2.1 (k.kf.tab.2 p hp))⟩, k.kf.tab.2⟩⟩, k.len, fun j x e => ?_, k.apart⟩
  · rcases uni_of e with e | ⟨_, e⟩
    · exact k.kf.sub a o e
    · exact (g a o e).1
  · refine hs a (k.kf.new a e n) ?_
    cases en : N a with
    | none => rfl
    | some o => exact absurd (g a o en).2.2.1 n.1
  · obtain ⟨⟨b1, cs, i, gg, st, n, b2, b3, b4⟩, b5⟩ := k.kf.bag b eb
    refine ⟨⟨hs b b1 ?_, cs, i, gg, st, n, b2, uni_l _ _ b3, b4⟩, b5⟩
    cases en : N b with
    | none => rfl
    | some o => exact absurd (g b o en).2.2.1 b5
  · obtain ⟨v, ev, r⟩ := k.sl j x e
    refine ⟨v, ev, r.keep rfl uni_l fun a fa => ?_⟩
    obtain ⟨f1, f2, _⟩ := r.foot a fa
    refine ⟨hs a f1 ?_, f2, fun _ e => e⟩
    cases en : N a with
    | none => rfl
    | some o => exact absurd fa ((g a o en).2.2.2 j x v e ev)
theorem Reg.nil : Reg c σ env H S (fun _ => none) := fun a o e => nomatch e
theorem Reg.new {c : Fm} (g : Reg c σ env H S N) : Same N (newH c.H0 (DL.uni S N)) := fun a o e => by
  rw [newH_of (g a o e).2.2.1]
  exact uni_r g a o e
end
/-- an expression whose value is made of new parts -/
def SmN (E : XK) (t : TE) (T : DT) : Prop := ∀ (c : Fm) (σ : St) (H S : Hp) (env : En) (R : D → Prop) (Rx : Er → Prop), XOk c E Rx → Kn c σ H S env → T env R Rx →
  ∀ Q : VK, (∀ v H' S' N d, Kn c σ H' S' env → Same S S' → Reg c σ env H' S' N → Rep c.B N d v → R d → Q v H') → t σ H Q
def DN (X : Cx) (E : XK) (e : Expr) (T : DT) : Prop := ∃ t, PE X e t ∧ SmN E t T
section
variable {X : Cx} {E : XK} {e a b : Expr} {es : List Expr} {T Ta Tb : DT} {TF : DTF} {Tl : DTA} {p pos : Pos}
theorem sm_ofN {t : TE} (s : SmN E t T) : Sm E t T := fun c σ H S env R Rx x k h Q q => s c σ H S env R Rx x k h Q fun v H1 S1 N d k1 s1 g r t1 =>
  q v H1 (uni S1 N) d (k1.uni g) (s1.trans uni_l) (rep_mono (uni_r g) d v r) t1
theorem d_ofN (h : DN X E e T) : DE X E e T := by
  obtain ⟨t, p, s⟩ := h
  exact ⟨t, p, sm_ofN s⟩
/-- .. a list of its own -/
def xNF (T : DT) : DTF := fun env R Rx => T env (fun d => match d with
  | .lst ds => flatL ds = true ∧ R ds
  | _ => False) Rx
theorem f_ofN (h : DN X E e T) : DF X E e (xNF T) := by
  obtain ⟨t, p, s⟩ := h
  refine ⟨t, p, fun c σ H S env R Rx x k h Q q => s c σ H S env _ Rx x k h Q fun v H1 S1 N d k1 s1 g r t1 => ?_⟩
  cases d <;> try exact (show False from t1).elim
  obtain ⟨a, vs, rfl, e, l⟩ := r
  obtain ⟨g1, g2, g3, g4⟩ := g a _ e
  exact q a vs H1 S1 _ k1 s1 g3 g4 g2 g1 (flatL_rep t1.1 l) t1.2
/-- a new list of flat data -/
def xFN (T : DTF) : DT := fun env R Rx => T env (fun ds => flatL ds = true ∧ R (.lst ds)) Rx
theorem n_ofF (h : DF X E e TF) : DN X E e (xFN TF) := by
  obtain ⟨t, p, s⟩ := h
  refine ⟨t, p, fun c σ H S env R Rx x k h Q q => s c σ H S env _ Rx x k h Q fun p vs H1 S1 ds k1 s1 n0 f n2 e1 l1 r1 => ?_⟩
  refine q _ H1 S1 (upd (fun _ => none) p (.lst vs)) (.lst ds) k1 s1 (fun a o e => ?_) ⟨p, vs, rfl, upd_same, flatL_rep r1.1 l1⟩ r1.2
  by_cases z : a = p
  · subst z
    rw [upd_same] at e
    cases e
    exact ⟨e1, n2, n0, f⟩
  · rw [upd_ne z] at e
    cases e
/-- flat data -/
def xFl (T : DT) : DT := fun env R Rx => T env (fun d => d.flat = true ∧ R d) Rx
def zRetNew (T : DT) : DTS := fun Q env => T env (Q.rt .nw) Q.ex
theorem s_retNew (h : DN X E e T) : DS X E (.Return (some e) pos) (zRetNew T) := by
  obtain ⟨t, p, s⟩ := h
  exact ⟨_, ps_ret p, fun c σ H S env Q x k t D m => s c σ H S env _ _ x k t _ fun v H1 S1 N d k1 s1 g r t1 => m.2.1 .nw v H1 (uni S1 N) d (k1.uni g).kf (s1.trans uni_l) (rep_mono g.new d v r) t1⟩
def zRetO (i : Nat) : DTS := fun Q env => ∃ xs, env[i]? = some (some (.own xs)) ∧ flatL xs = true ∧ Q.rt .nw (.lst xs)
theorem s_retO (i : Nat) {x : Str} {p2 : Pos} (hN : X.N[i]? = some x := by rfl) (hv : Vis X.env.scope x := by first | exact Or.inl rfl | exact Or.inr (Or.inl rfl) | exact Or.inr (Or.inr rfl)) (hd : (x == ("__debug__" : Str)) = false := by decide)
    (hcd : (x == ("__classdict__" : Str)) = false := by decide) : DS X E (.Return (some (.Name x p2)) pos) (zRetO i) := by
  refine ⟨_, ps_ret (pv i hN hv hd hcd), fun c σ H S env Q x k t D m => ?_⟩
  obtain ⟨xs, e, hf, t⟩ := t
  obtain ⟨p, vs, e1, h1, h2, h3, l⟩ := own_of k e
  refine ⟨_, e1, ?_⟩
  have hs : Same S (upd S p (.lst vs)) := same_upd h1
  have kf : Kf c H (upd S p (.lst vs)) := by
    refine ⟨fun a o ea => ?_, k.kf.s0.trans hs, k.kf.old, fun a ea n => ?_, fun b eb => ?_, ⟨k.kf.tab.1.frz h3, k.kf.tab.2⟩⟩
    · by_cases z : a = p
      · subst z
        rw [upd_same] at ea
        rw [h3]
        exact ea
      · rw [upd_ne z] at ea
        exact k.kf.sub a o ea
    · rw [upd_ne (fun z => n.1 (by rw [z]; exact h2))]
      exact k.kf.new a ea n
    · obtain ⟨⟨b1, cs, i, g, st, n, b2, b3, b4⟩, b5⟩ := k.kf.bag b eb
      refine ⟨⟨?_, cs, i, g, st, n, b2, hs _ _ b3, b4⟩, b5⟩
      rw [upd_ne (fun z => b5 (by rw [z]; exact h2))]
      exact b1
  exact m.2.1 .nw (.ref p) H _ (.lst xs) kf hs ⟨p, vs, rfl, by show newH c.H0 _ p = _; rw [newH_of h2, upd_same], flatL_rep hf l⟩ t
end
def spN (F : Spec) : Sp := fun vs H Q E => ∃ (c : Fm) (S : Hp) (ds : List D) (R : D → Prop) (Rx : Er → Prop), c.H0 = H ∧ c.S0 = S ∧ Kf c H S ∧ RepL c.B S ds vs ∧ F ds R Rx ∧ (∀ v H' S' d, Kf c H' S' → Rep c.B (newH H S') d v → R d → Q v H') ∧ XOk c E Rx
section
variable {P : Program} {w : World} {K : PySem.W.Frag} {mg : Str → Option Value} {base : Heap} {x qual : Str} {st : Stmt} {dvs : List V} {kws : List (Str × V)} {f : Addr} {fd : FuncData} {N ps : List Str} {k : Nat} {F : Spec} {CX : CXT}
theorem fn_n {T : DTS} (Fd : FnS K x qual st dvs kws f fd) (S : FnScope N ps (defScope st)) (len : ∀ ds R Rx, F ds R Rx → ds.length = ps.length)
    (hbody : ∀ (cdv : Value) (A : Around) (outer : List Env) (s : Shared) (H : Hp) (E : XK), Room k (A.deeper (PyProof.Rows.envOfC qual (defScope st) s.heap.objs.size f cdv)) →
      DSs (cxOf (L2.CX P w) P w K mg base N qual (defScope st) f cdv A outer s H E) E (defBody st) T)
    (hT : ∀ ds R Rx, F ds R Rx → T { nx := fun _ => R .non, rt := fun n d => (n = .nw ∨ d.flat = true) ∧ R d, ex := Rx } (startE N ds)) : FnOk P w K mg base (L2.CX P w) (k + 1) f fd ps (spN F) := by
  refine FunD.ok Fd S (fun vs H Q E ⟨c, S, ds, R, Rx, _, _, _, l, h, _⟩ => by rw [l.length]; exact len _ _ _ h) fun cdv A outer s H vs Q E hr hsp => ?_
  obtain ⟨c, Sh, ds, R, Rx, h0, hs0, kf, l, h, q, xo⟩ := hsp
  obtain ⟨t, p, sm⟩ := hbody cdv A outer s H E hr
  refine ⟨t, p, sm c _ H Sh _ _ xo (kn_start kf l) (hT ds R Rx h) _ ⟨fun σ H1 S1 env k1 s1 r1 => ?_, fun n v H1 S1 d k1 s1 r1 t1 => q v H1 S1 d k1 ?_ t1.2, fun σ H1 S1 env k1 s1 r1 => r1, fun σ H1 S1 env k1 s1 r1 => r1⟩⟩
  · exact q .non H1 S1 .non k1.kf rfl r1
  · cases n with
    | nw => rw [← h0]; exact r1
    | old => exact flat_rep (t1.1.resolve_left (fun z => nomatch z)) (show Rep _ _ d v from r1)
    | tr =>
      obtain ⟨S2, _, _, r2⟩ := r1.old k1
      exact flat_rep (t1.1.resolve_left (fun z => nomatch z)) r2
end
section
variable {X : Cx} {E : XK} {CX : CXT} {k n : Nat} {f : Addr} {fd : FuncData} {ps ks : List Str} {F : Spec} {dvs : List V} {dds : List D} {ds : List Value} {x : Str} {p pos : Pos} {e : Expr} {es : List Expr} {Tl Tk : DTA} {kws : List Keyword}
theorem sp_callN {c : Fm} {σ : St} {H S : Hp} {env : En} {vs : List V} {xs : List D} {R : D → Prop} {Rx : Er → Prop} {Q : VK} (kn : Kn c σ H S env) (x : XOk c E Rx) (l : RepL c.B S xs vs) (t : F xs R Rx)
    (q : ∀ v H' N d, Kn c σ H' S env → Reg c σ env H' S N → Rep c.B N d v → R d → Q v H') : spN F vs H Q E := by
  refine ⟨c.at H S, S, xs, R, Rx, rfl, rfl, kn.kf.at, l, t, fun v H' S' d k' r z => ?_, x.at kn.kf⟩
  have kS : Kf (c.at H S) H' S := ⟨k'.s0.trans k'.sub, Same.refl S, k'.old, fun a e _ => e, fun b eb => by
    obtain ⟨⟨b1, cs, i, g, st, n, b2, b3, b4⟩, b5⟩ := k'.bag b eb
    obtain ⟨⟨d1, cs', _, _, _, _, _, d3, _⟩, _⟩ := kn.kf.bag b eb
    have e3 : cs' = cs := by
      have z := k'.s0 _ _ d3
      have z2 : some (HO.lst (cs'.map V.int)) = some (HO.lst (cs.map V.int)) := z.symm.trans b3
      injection z2 with z2
      injection z2 with z2
      exact List.map_inj_right (fun _ _ h => by injection h) |>.mp z2
    subst e3
    exact ⟨⟨d1, cs', i, g, st, n, b2, d3, b4⟩, b5⟩, ⟨fun p hp => ⟨(k'.tab.1 p hp).1, (kn.kf.tab.1 p hp).2⟩, k'.tab.2⟩⟩
  refine q v H' (newH H S') d (kn.back kS) (fun a o e => ?_) r z
  obtain ⟨e1, e2⟩ := newH_some e
  exact ⟨k'.sub _ _ e2, kn.kf.s_none e1, kn.kf.h0_none e1, kn.free e1⟩
end
section
variable {X : Cx} {E : XK} {e : Expr} {es : List Expr} {Te : DT} {Tl : DTA} {p : Pos}
def xStar (Te : DT) (Tl : DTA) : DTA := fun env R Rx => Te env (asLT fun xs => Tl env (fun ys => R (xs ++ ys)) Rx) Rx
theorem da_star (he : DE X E e Te) (hl : DA X E es Tl) (hs : starEach (.Starred e p :: es) X.env = (true, eval e X.env) :: starEach es X.env := by rfl) : DA X E (.Starred e p :: es) (xStar Te Tl) := by
  obtain ⟨t, p1, s1⟩ := he
  obtain ⟨tl, p2, s2⟩ := hl
  refine ⟨_, StX.pa_star p1 p2 hs, fun c σ H S env R Rx x k t Q q => s1 c σ H S env _ Rx x k t _ fun v H1 S1 d k1 s3 r1 t1 => ?_⟩
  cases d <;> try exact (show False from t1).elim
  · obtain ⟨a, vs, rfl, h1, _, l1⟩ := lst_of k1 r1
    refine ⟨a, vs, rfl, .inr (SqL.of h1), s2 c σ H1 S1 env _ Rx x k1 t1 _ fun us H2 S2 ds k2 s4 l2 t2 => ?_⟩
    exact q _ H2 S2 _ k2 (s3.trans s4) ((repL_mono s4 _ _ l1).app l2) t2
  · obtain ⟨a, vs, rfl, h1, _, l1⟩ := tup_of k1 r1
    refine ⟨a, vs, rfl, .inl (SqT.of h1), s2 c σ H1 S1 env _ Rx x k1 t1 _ fun us H2 S2 ds k2 s4 l2 t2 => ?_⟩
    exact q _ H2 S2 _ k2 (s3.trans s4) ((repL_mono s4 _ _ l1).app l2) t2
end
/-- the places of a slice -/
def pls (n : Nat) (lo hi st : Option Int) : List Nat := PySem.sliceRange (PySem.sliceBounds lo hi st n).1 (PySem.sliceBounds lo hi st n).2.1 (PySem.sliceBounds lo hi st n).2.2
def cut3 (xs : List D) (lo hi st : Option Int) : List D := (pls xs.length lo hi st).filterMap fun i => xs[i]?
section
variable {X : Cx} {E : XK} {e a : Expr} {te : TE} {tl th ts : TO} {lo hi : Option Expr} {st : Expr} {p2 pos : Pos} {Ta : DT} {Tl Th Ts : DTO}
def xSl3 (Ta : DT) (Tl Th Ts : DTO) : DTF := fun env R Rx => Ta env (asL fun xs => Tl env (fun lo => Th env (fun hi => Ts env (fun st => st ≠ some 0 ∧ (pls xs.length lo hi st).length ≤ sizeLine ∧ R (cut3 xs lo hi st)) Rx) Rx) Rx) Rx
end
/-- backwards down to the place m -/
theorem pls_down {n : Nat} {hi : Option Int} {m : Nat} (hm : (PySem.sliceBounds none hi (some (-1)) n).2.1 = (m : Int) - 1) (hle : m ≤ n) : pls n none hi (some (-1)) = (List.range (n - m)).map fun k => n - 1 - k := by
  have b1 : (PySem.sliceBounds none hi (some (-1)) n).1 = (n : Int) - 1 := rfl
  have b3 : (PySem.sliceBounds none hi (some (-1)) n).2.2 = -1 := rfl
  unfold pls PySem.sliceRange
  rw [hm, b1, b3]
  have c1 : ¬ ((-1 : Int) > 0) := by decide
  simp only [c1, if_false]
  by_cases z : m = n
  · subst z
    simp
  · have c2 : (n : Int) - 1 > (m : Int) - 1 := by omega
    have c3 : (((n : Int) - 1 - ((m : Int) - 1) - -1 - 1) / - -1).toNat = n - m := by
      rw [show (- -1 : Int) = 1 by decide, Int.ediv_one]
      omega
    simp only [c2, if_true, c3]
    apply List.map_congr_left
    intro k hk
    have := List.mem_range.mp hk
    omega
theorem cut3_down {xs : List D} {hi : Option Int} {m : Nat} (hm : (PySem.sliceBounds none hi (some (-1)) xs.length).2.1 = (m : Int) - 1) (hle : m ≤ xs.length) : cut3 xs none hi (some (-1)) = (xs.drop m).reverse := by
  unfold cut3
  rw [pls_down hm hle, List.filterMap_map]
  apply List.ext_getElem?
  intro i
  have go : ∀ q : Nat, q ≤ xs.length → ((List.range q).filterMap ((fun i => xs[i]?) ∘ fun k => xs.length - 1 - k)) = (xs.drop (xs.length - q)).reverse := fun q => by
    induction q with
    | zero => intro _; simp
    | succ q ih =>
      intro hq
      rw [List.range_succ, List.filterMap_append, ih (by omega)]
      have hd : xs.drop (xs.length - (q + 1)) = xs[xs.length - (q + 1)] :: xs.drop (xs.length - q) := by
        rw [List.drop_eq_getElem_cons (by omega)]
        congr 2
        omega
      rw [hd, List.reverse_cons]
      congr 1
      have e : xs.length - 1 - q = xs.length - (q + 1) := by omega
      have e2 : ((fun i => xs[i]?) ∘ fun k => xs.length - 1 - k) q = some xs[xs.length - (q + 1)] := by
        show xs[xs.length - 1 - q]? = _
        rw [e]
        exact List.getElem?_eq_getElem (by omega)
      rw [List.filterMap_cons_some e2, List.filterMap_nil]
  rw [go _ (by omega)]
  congr 3
  omega
theorem cut3_rev (xs : List D) : cut3 xs none none (some (-1)) = xs.reverse := cut3_down (m := 0) rfl (Nat.zero_le _)
theorem cut3_rev0 {xs : List D} : cut3 xs none (some 0) (some (-1)) = (xs.drop 1).reverse := by
  by_cases z : xs.length = 0
  · have e : xs = [] := List.length_eq_zero_iff.mp z
    subst e
    rfl
  · refine cut3_down (m := 1) ?_ (by omega)
    show max (-1) (min (if (0 : Int) < 0 then _ else 0) ((xs.length : Int) - 1)) = _
    rw [if_neg (by decide)]
    omega
theorem pls_down_le {n : Nat} {hi : Option Int} {m : Nat} (hm : (PySem.sliceBounds none hi (some (-1)) n).2.1 = (m : Int) - 1) (hle : m ≤ n) : (pls n none hi (some (-1))).length = n - m := by
  rw [pls_down hm hle]
  simp
theorem pls_rev (n : Nat) : (pls n none none (some (-1))).length = n := pls_down_le (m := 0) rfl (Nat.zero_le _)
theorem pls_rev0 (n : Nat) : (pls n none (some 0) (some (-1))).length = n - 1 := by
  by_cases z : n = 0
  · subst z; rfl
  · refine pls_down_le (m := 1) ?_ (by omega)
    show max (-1) (min (if (0 : Int) < 0 then _ else 0) ((n : Int) - 1)) = _
    rw [if_neg (by decide)]
    omega
section
variable {X : Cx} {E : XK} {pos p1 : Pos} {a b : Expr} {T : DTF}
def zParC (i j : Nat) (T : DTF) (d : D) : DTS := fun Q env => T env (fun ds => Q.nx (put j d (putO' i ds env))) Q.ex
def zParV (i j : Nat) (Ta : DT) (T : DTF) : DTS := fun Q env => Ta env (fun d => T env (fun ds => Q.nx (putO' j ds (put i d env))) Q.ex) Q.ex
end
end DL
namespace DL
open PySem PySem.Spec L2
variable [TbC]
def fld : List Str → List D → Str → Option D
  | k :: ks, x :: xs, f => if f = k then some x else fld ks xs f
  | _, _, _ => none
theorem fld_some {B : Option Addr} {S : Hp} {f : Str} : ∀ {ks : List Str} {xs : List D} {vs : List V} {x : D}, RepL B S xs vs → fld ks xs f = some x → ∃ v, (ks.zip vs).lookup f = some v ∧ Rep B S x v
  | [], _, _, _, _, e => nomatch e
  | _ :: _, [], _, _, _, e => nomatch e
  | k :: ks, y :: ys, _, x, l, e => by
    obtain ⟨v, ws, rfl, r, t⟩ := repL_cons_of l
    have e : (if f = k then some y else fld ks ys f) = some x := e
    show ∃ u, List.lookup f ((k, v) :: ks.zip ws) = some u ∧ _
    by_cases z : f = k
    · rw [if_pos z] at e
      cases e
      exact ⟨v, by rw [List.lookup_cons, z]; simp, r⟩
    · rw [if_neg z] at e
      obtain ⟨u, e2, r2⟩ := fld_some t e
      refine ⟨u, ?_, r2⟩
      rw [List.lookup_cons]
      have : (f == k) = false := by simpa using z
      rw [this]
      exact e2
theorem fld_none {B : Option Addr} {S : Hp} {f : Str} : ∀ {ks : List Str} {xs : List D} {vs : List V}, RepL B S xs vs → xs.length = ks.length → fld ks xs f = none → (ks.zip vs).lookup f = none
  | [], _, _, _, _, _ => rfl
  | _ :: _, [], _, _, hl, _ => nomatch hl
  | k :: ks, y :: ys, _, l, hl, e => by
    obtain ⟨v, ws, rfl, r, t⟩ := repL_cons_of l
    have e : (if f = k then some y else fld ks ys f) = none := e
    show List.lookup f ((k, v) :: ks.zip ws) = none
    by_cases z : f = k
    · rw [if_pos z] at e
      cases e
    · rw [if_neg z] at e
      rw [List.lookup_cons]
      have : (f == k) = false := by simpa using z
      rw [this]
      exact fld_none t (by simpa using hl) e
theorem obj_of {c : Fm} {σ : St} {H S : Hp} {env : En} {C : Addr} {ks : List Str} {xs : List D} {v : V} (k : Kn c σ H S env) (r : Rep c.B S (.obj C ks xs) v) : ∃ a dx vs, v = .ref a ∧ H a = some (.ins C dx (ks.zip vs)) ∧ xs.length = ks.length ∧ RepL c.B S xs vs := by
  rw [Rep] at r
  obtain ⟨a, dx, vs, e, q, q2, n, l⟩ := r
  exact ⟨a, dx, vs, e, k.kf.sub _ _ q, n, l⟩
def asO (C : Addr) (R : List Str → List D → Prop) : D → Prop
  | .obj C' ks xs => C' = C ∧ R ks xs
  | _ => False
def xFld (C : Addr) (f : Str) (Te : DT) : DT := fun env R Rx => Te env (asO C fun ks xs => ∃ x, fld ks xs f = some x ∧ R x) Rx
section
variable {X : Cx} {E : XK} {CX : CXT} {k : Nat} {C f : Addr} {fd : FuncData} {ps : List Str} {F : Spec} {m : Str} {o e : Expr} {es : List Expr} {To : DT} {Tl : DTA} {pos apos p : Pos}
theorem d_fld {f : Str} (he : DE X E e To) (c : Cls X.K C) (n : NoAttr X.K C f) (hb : attributeBase e f X.env (eval e X.env) = eval e X.env := by rfl) : DE X E (.Attribute e f pos) (xFld C f To) := by
  obtain ⟨t, p1, s⟩ := he
  refine ⟨_, pe_fld p1 hb, fun c0 σ H S env R Rx x k t Q q => s c0 σ H S env _ Rx x k t _ fun v H1 S1 d k1 s1 r1 t1 => ?_⟩
  cases d <;> try exact (show False from t1).elim
  obtain ⟨rfl, y, e1, t1⟩ := t1
  obtain ⟨a, dx, vs, e2, h1, _, l1⟩ := obj_of k1 r1
  obtain ⟨u, e3, r3⟩ := fld_some l1 e1
  exact ⟨a, _, dx, _, u, e2, h1, c, n, e3, q u H1 S1 y k1 s1 r3 t1⟩
def xMeth (C : Addr) (m : Str) (F : Spec) (To : DT) (Tl : DTA) : DT := fun env R Rx => To env (fun d => asO C (fun ks xs => fld ks xs m = none) d ∧ Tl env (fun ds => F (d :: ds) R Rx) Rx) Rx
theorem d_meth {pl : Sem Bool} (he : DE X E o To) (c : Cls X.K C) (hm : Meth X.K C m f) (G : FnOk X.prog X.w X.K X.mg X.base CX k f fd ps (spD F)) (hr : Room k X.A) (hb : Binds X.K fd ps []) (hx : Passes CX X E) (ha : DA X E (e :: es) Tl)
    (hst : starEach (e :: es) X.env = (false, eval e X.env) :: starEach es X.env := by rfl) (hpl : (backTo pos (starEach es X.env)).any (·.1) = false := by rfl)
    (ht : eval (.Call (.Attribute o m apos) (e :: es) [] pos) X.env = (do
      let ov ← eval o X.env
      standAt apos.atName
      let (f, first) ← holding [ov] (getMethod ov m pl)
      callWith pos f first (backTo pos (starEach (e :: es) X.env)) (backToKw pos (keywordEach [] X.env))) := by rfl) :
    DE X E (.Call (.Attribute o m apos) (e :: es) [] pos) (xMeth C m F To Tl) := by
  obtain ⟨t, p1, s⟩ := he
  obtain ⟨tl, p2, sl⟩ := ha
  refine ⟨_, pe_meth p1 c hm G hr hb .nil hx p2 hst hpl ht, fun c0 σ H S env R Rx x k t Q q => s c0 σ H S env _ Rx x k t _ fun v H1 S1 d k1 s1 r1 t1 => ?_⟩
  obtain ⟨t0, t1⟩ := t1
  cases d <;> try exact (show False from t0).elim
  obtain ⟨rfl, e1⟩ := t0
  obtain ⟨a, dx, vs, e2, h1, hn, l1⟩ := obj_of k1 r1
  refine ⟨a, dx, _, e2, h1, fld_none l1 hn e1, sl c0 σ H1 S1 env _ Rx x k1 t1 _ fun us H2 S2 ds k2 s2 l2 t2 => ?_⟩
  rw [List.append_nil]
  exact sp_call k2 x (repL_cons (rep_mono s2 _ v r1) l2) t2 fun v H' S' d k' s' r' t' => q v H' S' d k' ((s1.trans s2).trans s') r' t'
/-- .. whose result is made new -/
theorem d_methN {pl : Sem Bool} (he : DE X E o To) (c : Cls X.K C) (hm : Meth X.K C m f) (G : FnOk X.prog X.w X.K X.mg X.base CX k f fd ps (spN F)) (hr : Room k X.A) (hb : Binds X.K fd ps []) (hx : Passes CX X E) (ha : DA X E (e :: es) Tl)
    (hst : starEach (e :: es) X.env = (false, eval e X.env) :: starEach es X.env := by rfl) (hpl : (backTo pos (starEach es X.env)).any (·.1) = false := by rfl)
    (ht : eval (.Call (.Attribute o m apos) (e :: es) [] pos) X.env = (do
      let ov ← eval o X.env
      standAt apos.atName
      let (f, first) ← holding [ov] (getMethod ov m pl)
      callWith pos f first (backTo pos (starEach (e :: es) X.env)) (backToKw pos (keywordEach [] X.env))) := by rfl) :
    DN X E (.Call (.Attribute o m apos) (e :: es) [] pos) (xMeth C m F To Tl) := by
  obtain ⟨t, p1, s⟩ := he
  obtain ⟨tl, p2, sl⟩ := ha
  refine ⟨_, pe_meth p1 c hm G hr hb .nil hx p2 hst hpl ht, fun c0 σ H S env R Rx x k t Q q => s c0 σ H S env _ Rx x k t _ fun v H1 S1 d k1 s1 r1 t1 => ?_⟩
  obtain ⟨t0, t1⟩ := t1
  cases d <;> try exact (show False from t0).elim
  obtain ⟨rfl, e1⟩ := t0
  obtain ⟨a, dx, vs, e2, h1, hn, l1⟩ := obj_of k1 r1
  refine ⟨a, dx, _, e2, h1, fld_none l1 hn e1, sl c0 σ H1 S1 env _ Rx x k1 t1 _ fun us H2 S2 ds k2 s2 l2 t2 => ?_⟩
  rw [List.append_nil]
  exact sp_callN k2 x (repL_cons (rep_mono s2 _ v r1) l2) t2 fun v H' N d k' g' r' t' => q v H' S2 N d k' (s1.trans s2) g' r' t'
theorem d_methN0 {pl : Sem Bool} (he : DE X E o To) (c : Cls X.K C) (hm : Meth X.K C m f) (G : FnOk X.prog X.w X.K X.mg X.base CX k f fd ps (spN F)) (hr : Room k X.A) (hb : Binds X.K fd ps []) (hx : Passes CX X E)
    (ht : eval (.Call (.Attribute o m apos) [] [] pos) X.env = (do
      let ov ← eval o X.env
      standAt apos.atName
      let (f, first) ← holding [ov] (getMethod ov m pl)
      callWith pos f first (backTo pos (starEach [] X.env)) (backToKw pos (keywordEach [] X.env))) := by rfl) :
    DN X E (.Call (.Attribute o m apos) [] [] pos) (xMeth C m F To xNil) := by
  obtain ⟨t, p1, s⟩ := he
  refine ⟨_, pe_meth0 p1 c hm G hr hb .nil hx ht, fun c0 σ H S env R Rx x k t Q q => s c0 σ H S env _ Rx x k t _ fun v H1 S1 d k1 s1 r1 t1 => ?_⟩
  obtain ⟨t0, t1⟩ := t1
  cases d <;> try exact (show False from t0).elim
  obtain ⟨rfl, e1⟩ := t0
  obtain ⟨a, dx, vs, e2, h1, hn, l1⟩ := obj_of k1 r1
  refine ⟨a, dx, _, e2, h1, fld_none l1 hn e1, ?_⟩
  exact sp_callN k1 x (repL_cons r1 repL_nil) t1 fun v H' N d k' g' r' t' => q v H' S1 N d k' s1 g' r' t'
def xProp (C : Addr) (F : Spec) (To : DT) : DT := fun env R Rx => To env (fun d => asO C (fun _ _ => True) d ∧ F [d] R noX) Rx
theorem d_prop {f : Str} {pa g : Addr} {fd : FuncData} {ps : List Str} (he : DE X E e To) (c : Cls X.K C) (hp : PropOf X.K C f pa g) (G : FnOk X.prog X.w X.K X.mg X.base CX k g fd ps (spD F)) (hr : Room (k + 1) X.A) (hb : Binds X.K fd ps []) (hx : Passes CX X.nox E0)
    (hab : attributeBase e f X.env (eval e X.env) = eval e X.env := by rfl) : DE X E (.Attribute e f pos) (xProp C F To) := by
  obtain ⟨t, p1, s⟩ := he
  refine ⟨_, pe_prop p1 c hp G hr hb .nil hx hab, fun c0 σ H S env R Rx x k t Q q => s c0 σ H S env _ Rx x k t _ fun v H1 S1 d k1 s1 r1 t1 => ?_⟩
  obtain ⟨t0, t1⟩ := t1
  cases d <;> try exact (show False from t0).elim
  obtain ⟨rfl, _⟩ := t0
  obtain ⟨a, dx, vs, rfl, h1, hn, l1⟩ := obj_of k1 r1
  exact ⟨a, dx, _, rfl, h1, sp_call k1 xok0 (repL_cons r1 repL_nil) t1 fun v H' S' d k' s' r' t' => q v H' S' d k' (s1.trans s') r' t'⟩
end
end DL
namespace DL
open PySem PySem.Spec L2
variable [TbC]
theorem putF_end {f : Str} {v : V} : ∀ {ks : List Str} {vs : List V}, f ∉ ks → vs.length = ks.length → putF f v (ks.zip vs) = (ks ++ [f]).zip (vs ++ [v])
  | [], [], _, _ => rfl
  | [], _ :: _, _, h => nomatch h
  | _ :: _, [], _, h => nomatch h
  | k :: ks, u :: us, hf, hl => by
    have ne : ¬ k = f := fun z => hf (by rw [z]; exact List.mem_cons_self)
    show (if k = f then _ else (k, u) :: putF f v (ks.zip us)) = (k, u) :: (ks ++ [f]).zip (us ++ [v])
    rw [if_neg ne, putF_end (fun z => hf (List.mem_cons_of_mem _ z)) (by simpa using hl)]
/-- the tuples of S -/
def tpC (S : Hp) : Hp := fun a => match S a with
  | some (.tup vs) => some (.tup vs)
  | _ => none
theorem tpC_of {S : Hp} {a : Addr} {o : HO} (e : tpC S a = some o) : ∃ vs, o = .tup vs ∧ S a = some (.tup vs) := by
  unfold tpC at e
  split at e
  · rename_i vs h
    cases e
    exact ⟨vs, rfl, h⟩
  · cases e
theorem tpC_tup {S : Hp} {a : Addr} {vs : List V} (e : S a = some (.tup vs)) : tpC S a = some (.tup vs) := by
  unfold tpC
  rw [e]
/-- what is new since H, and tuples -/
def newT (H S : Hp) : Hp := DL.uni (newH H S) (tpC S)
theorem newT_tup {H S : Hp} {a : Addr} {vs : List V} (e : S a = some (.tup vs)) : newT H S a = some (.tup vs) := by
  cases z : newH H S a with
  | none =>
    unfold newT DL.uni
    rw [z]
    exact tpC_tup e
  | some o =>
    have := (newH_some z).2
    rw [e] at this
    cases this
    exact uni_l a _ z
theorem newT_of {H S : Hp} {a : Addr} {o : HO} (e : newT H S a = some o) : (H a = none ∧ S a = some o) ∨ ∃ vs, o = .tup vs ∧ S a = some (.tup vs) := by
  rcases uni_of e with e | ⟨_, e⟩
  · exact .inl (newH_some e)
  · exact .inr (tpC_of e)
theorem newT_mono {c : Fm} {S S' : Hp} (h : Same S S') : Same (newT c.H0 S) (newT c.H0 S') := fun a o e => by
  rcases newT_of e with ⟨e1, e2⟩ | ⟨vs, rfl, e2⟩
  · exact uni_l a o (by rw [newH_of e1]; exact h a o e2)
  · exact newT_tup (h _ _ e2)
/-- what is left of a body that fills the object at p: the attributes so far, the names -/
abbrev ITS := (Bool → List Str → List D → Prop) → (Er → Prop) → Bool → List Str → List D → En → Prop
/-- the frame, the object at p as told -/
def Fm.put (c : Fm) (p : Addr) (o : HO) : Fm := ⟨c.B, c.C, upd c.H0 p o, c.S0⟩
def SmIn (E : XK) (p dx C : Addr) (t : TS) (T : ITS) : Prop := ∀ (c : Fm) (σ : St) (H S : Hp) (env : En) (nf : Bool) (ks : List Str) (xs : List D) (vs : List V) (R : Bool → List Str → List D → Prop) (Rx : Er → Prop),
  XOk c E Rx → Kn c σ H S env → c.H0 p = some (.ins C dx (ks.zip vs)) → ¬ Ex c.B p → S p = none → xs.length = ks.length → RepL c.B S xs vs → (nf = true → RepL c.B (newT c.H0 S) xs vs) → T R Rx nf ks xs env →
  ∀ D : Ends, (∀ σ' H' S' nf' ks' xs' vs', Kf (c.put p (.ins C dx (ks'.zip vs'))) H' S' → Same S S' → xs'.length = ks'.length → RepL c.B S' xs' vs' → (nf' = true → RepL c.B (newT c.H0 S') xs' vs') → R nf' ks' xs' → D.nx σ' H') → t D σ H
def DIs (X : Cx) (E : XK) (p dx C : Addr) (sts : List Stmt) (T : ITS) : Prop := ∃ t, PSs X sts t ∧ SmIn E p dx C t T
theorem Fm.put_self {c : Fm} {p : Addr} {o : HO} (h : c.H0 p = some o) : c.put p o = c := by
  unfold Fm.put
  have : upd c.H0 p o = c.H0 := by
    funext a
    by_cases z : a = p
    · subst z
      rw [upd_same, h]
    · rw [upd_ne z]
  rw [this]
theorem newH_put {c : Fm} {S : Hp} {p : Addr} {o o0 : HO} (h : c.H0 p = some o0) : newH (c.put p o).H0 S = newH c.H0 S := by
  funext a
  have go : ∀ x y : Option HO, (x = none ↔ y = none) → (match x with
    | none => S a
    | some _ => none) = (match y with
    | none => S a
    | some _ => none) := fun x y e => by
    cases x with
    | none => rw [e.mp rfl]
    | some u =>
      cases y with
      | none => exact absurd (e.mpr rfl) (fun z => nomatch z)
      | some w => rfl
  refine go (upd c.H0 p o a) (c.H0 a) ?_
  by_cases z : a = p
  · subst z
    rw [upd_same, h]
    exact ⟨(fun z => nomatch z), (fun z => nomatch z)⟩
  · rw [upd_ne z]
theorem newT_put {c : Fm} {S : Hp} {p : Addr} {o o0 : HO} (h : c.H0 p = some o0) : newT (c.put p o).H0 S = newT c.H0 S := by
  unfold newT
  rw [newH_put h]
/-- values whose lists are new, with the tuples they hang on -/
def SmW (E : XK) (t : TE) (T : DT) : Prop := ∀ (c : Fm) (σ : St) (H S : Hp) (env : En) (R : D → Prop) (Rx : Er → Prop), XOk c E Rx → Kn c σ H S env → T env R Rx →
  ∀ Q : VK, (∀ v H' S' d, Kn c σ H' S' env → Same S S' → Rep c.B S' d v → Rep c.B (newT c.H0 S') d v → R d → Q v H') → t σ H Q
def DWn (X : Cx) (E : XK) (e : Expr) (T : DT) : Prop := ∃ t, PE X e t ∧ SmW E t T
theorem w_ofN {X : Cx} {E : XK} {e : Expr} {T : DT} (h : DN X E e T) : DWn X E e T := by
  obtain ⟨t, p, s⟩ := h
  refine ⟨t, p, fun c σ H S env R Rx x k h Q q => s c σ H S env R Rx x k h Q fun v H1 S0 N d k0 s0 g0 r0 t1 => ?_⟩
  exact q v H1 _ d (k0.uni g0) (s0.trans uni_l) (rep_mono (uni_r g0) d v r0) (rep_mono uni_l d v (rep_mono g0.new d v r0)) t1
section
variable {X : Cx} {E : XK} {p dx C : Addr} {st : Stmt} {rest : List Stmt} {T : DTS} {U : ITS} {e : Expr} {Te : DT} {pos p1 p2 : Pos}
def jNil : ITS := fun R _ nf ks xs _ => R nf ks xs
theorem is_nil : DIs X E p dx C [] jNil := ⟨_, pss_nil, fun c σ H S env nf ks xs vs R Rx x k h0 np hS hl l ln t D q => q σ H S nf ks xs vs (by rw [Fm.put_self h0]; exact k.kf) (Same.refl S) hl l ln t⟩
/-- a statement that does not touch the object -/
def jSt (T : DTS) (U : ITS) : ITS := fun R Rx nf ks xs env => T { nx := fun env' => U R Rx nf ks xs env', rt := fun _ _ => False, ex := Rx } env
theorem is_st (h1 : DS X E st T) (h2 : DIs X E p dx C rest U) : DIs X E p dx C (st :: rest) (jSt T U) := by
  obtain ⟨t, p1, s1⟩ := h1
  obtain ⟨u, p2, s2⟩ := h2
  refine ⟨_, pss_cons p1 p2, fun c σ H S env nf ks xs vs R Rx x k h0 np hS hl l ln t D q => ?_⟩
  refine s1 c σ H S env { nx := fun env' => U R Rx nf ks xs env', rt := fun _ _ => False, ex := Rx } x k t _ ⟨fun σ1 H1 S1 env1 k1 s t1 => ?_, fun _ _ _ _ _ _ _ _ z => z.elim, fun _ _ _ _ _ _ z => z.elim, fun _ _ _ _ _ _ z => z.elim⟩
  refine s2 c σ1 H1 S1 env1 nf ks xs vs R Rx x k1 h0 np ?_ hl (repL_mono s xs vs l) (fun z => repL_mono (newT_mono s) xs vs (ln z)) t1 D fun σ' H' S' nf' ks' xs' vs' k' s' => q σ' H' S' nf' ks' xs' vs' k' (s.trans s')
  cases z : c.S0 p with
  | none => exact k1.kf.new p z (mu_of h0 fun _ z => nomatch z)
  | some o =>
    have := k.kf.s0 p o z
    rw [hS] at this
    cases this
/-- self.f = e -/
def jSet (p : Addr) (f : Str) (Te : DT) (U : ITS) : ITS := fun R Rx nf ks xs env => Te env (fun d => env[0]? = some (some (.val (.adr p))) ∧ f ∉ ks ∧ ks.length < 1000 ∧ U R noX (nf && d.flat) (ks ++ [f]) (xs ++ [d]) env) Rx
theorem is_set {f : Str} {x0 : Str} (h : DE X E e Te) (h2 : DIs X E p dx C rest U) (c0 : Cls X.K C) (n : NoAttr X.K C f) (hN : X.N[0]? = some x0 := by rfl) (hv : Vis X.env.scope x0 := by first | exact Or.inl rfl | exact Or.inr (Or.inl rfl) | exact Or.inr (Or.inr rfl)) (hd : (x0 == ("__debug__" : Str)) = false := by decide)
    (hcd : (x0 == ("__classdict__" : Str)) = false := by decide) (hs : swapsWith e (some (.Attribute (.Name x0 p1) f p2)) pos.line X.env = pure false := by rfl) : DIs X E p dx C (.Assign [.Attribute (.Name x0 p1) f p2] e pos :: rest) (jSet p f Te U) := by
  obtain ⟨t, pe, s⟩ := h
  obtain ⟨u, pr, sr⟩ := h2
  refine ⟨_, pss_cons (ps_fld (pv 0 hN hv hd hcd) pe hs) pr, fun c σ H S env nf ks xs vs R Rx x k h0 np hS hl l ln t D q => ?_⟩
  refine s c σ H S env _ Rx x k t _ fun v H1 S1 d k1 s1 r1 t1 => ?_
  obtain ⟨e0, hf, hk, t1⟩ := t1
  obtain ⟨w, ew, rw0⟩ := k1.sl 0 _ e0
  cases (show w = .ref p from rw0)
  have hp : H1 p = some (.ins C dx (ks.zip vs)) := k1.kf.old p _ h0 np
  refine ⟨_, ew, p, C, dx, ks.zip vs, rfl, hp, c0, n, ?_, ?_⟩
  · rw [List.length_zip]
    omega
  · have hS0 : c.S0 p = none := by
      cases y : c.S0 p with
      | none => rfl
      | some o => have := k.kf.s0 p o y; rw [hS] at this; cases this
    have hS1 : S1 p = none := k1.kf.new p hS0 (mu_of h0 fun _ z => nomatch z)
    have hvl : vs.length = ks.length := by rw [l.length]; exact hl
    rw [putF_end hf hvl]
    refine sr (c.put p (.ins C dx ((ks ++ [f]).zip (vs ++ [v])))) σ _ S1 env (nf && d.flat) (ks ++ [f]) (xs ++ [d]) (vs ++ [v]) R noX xok0 ⟨⟨fun a o ea => ?_, k1.kf.s0, fun a o ea na => ?_, fun a ea na => ?_, fun b eb => ?_, ⟨k1.kf.tab.1.updH (fun v e => by rw [hp] at e; cases e; exact ⟨fun _ z => (nomatch z), fun _ z => (nomatch z)⟩) (fun _ _ e => e), fun q hq => by
      show upd c.H0 p _ q.1 ≠ none
      by_cases z : q.1 = p
      · rw [z, upd_same]
        exact fun y => nomatch y
      · rw [upd_ne z]
        exact k1.kf.tab.2 q hq⟩⟩, k1.len, fun j x ej => ?_, k1.apart⟩ upd_same np hS1 (by simp [hl]) ((repL_mono s1 xs vs l).app (repL_cons r1 repL_nil)) (fun z => by
      rw [Bool.and_eq_true] at z
      rw [newT_put h0]
      exact (repL_mono (newT_mono s1) xs vs (ln z.1)).app (repL_cons (flat_rep z.2 r1) repL_nil)) t1 D fun σ' H' S' nf' ks' xs' vs' k' s' hl' l' ln' r' => ?_
    · rw [upd_ne (fun z => by rw [z, hS1] at ea; cases ea)]
      exact k1.kf.sub a o ea
    · by_cases z : a = p
      · subst z
        have ea : upd c.H0 a (.ins C dx ((ks ++ [f]).zip (vs ++ [v]))) a = some o := ea
        rw [upd_same] at ea ⊢
        exact ea
      · have ea : upd c.H0 p (.ins C dx ((ks ++ [f]).zip (vs ++ [v]))) a = some o := ea
        rw [upd_ne z] at ea ⊢
        exact k1.kf.old a o ea na
    · by_cases z : a = p
      · rw [z]
        exact hS1
      · have na : Mu (upd c.H0 p (.ins C dx ((ks ++ [f]).zip (vs ++ [v]))) a) := na
        rw [upd_ne z] at na
        exact k1.kf.new a ea na
    · have nb : b ≠ p := fun z => np (.inl (by rw [← z]; exact eb))
      obtain ⟨⟨b1, cs, i, g, st, n, b2, b3⟩, b4⟩ := k1.kf.bag b eb
      refine ⟨⟨b1, cs, i, g, st, n, by rw [upd_ne nb]; exact b2, b3⟩, ?_⟩
      show upd c.H0 p _ b ≠ none
      rw [upd_ne nb]
      exact b4
    · obtain ⟨u, eu, r⟩ := k1.sl j x ej
      refine ⟨u, eu, DvR.keep (c := c) (c' := c.put p (.ins C dx ((ks ++ [f]).zip (vs ++ [v])))) rfl (Same.refl _) r fun q1 fa => ?_⟩
      obtain ⟨q2, q3, _⟩ := r.foot q1 fa
      have nq : q1 ≠ p := fun z => by rw [z, h0] at q3; cases q3
      refine ⟨q2, ?_, fun o e => by rw [upd_ne nq]; exact e⟩
      show upd c.H0 p _ q1 = none
      rw [upd_ne nq]
      exact q3
    · have e9 : (c.put p (.ins C dx ((ks ++ [f]).zip (vs ++ [v])))).put p (.ins C dx (ks'.zip vs')) = c.put p (.ins C dx (ks'.zip vs')) := by
        unfold Fm.put
        rw [upd_upd]
      rw [e9] at k'
      rw [newT_put h0] at ln'
      exact q σ' H' S' nf' ks' xs' vs' k' (s1.trans s') hl' l' ln' r'
/-- .. made new -/
def jSetN (p : Addr) (f : Str) (Te : DT) (U : ITS) : ITS := fun R Rx nf ks xs env => Te env (fun d => env[0]? = some (some (.val (.adr p))) ∧ f ∉ ks ∧ ks.length < 1000 ∧ U R noX nf (ks ++ [f]) (xs ++ [d]) env) Rx
theorem is_setW {f : Str} {x0 : Str} (h : DWn X E e Te) (h2 : DIs X E p dx C rest U) (c0 : Cls X.K C) (n : NoAttr X.K C f) (hN : X.N[0]? = some x0 := by rfl) (hv : Vis X.env.scope x0 := by first | exact Or.inl rfl | exact Or.inr (Or.inl rfl) | exact Or.inr (Or.inr rfl)) (hd : (x0 == ("__debug__" : Str)) = false := by decide)
    (hcd : (x0 == ("__classdict__" : Str)) = false := by decide) (hs : swapsWith e (some (.Attribute (.Name x0 p1) f p2)) pos.line X.env = pure false := by rfl) : DIs X E p dx C (.Assign [.Attribute (.Name x0 p1) f p2] e pos :: rest) (jSetN p f Te U) := by
  obtain ⟨t, pe, s⟩ := h
  obtain ⟨u, pr, sr⟩ := h2
  refine ⟨_, pss_cons (ps_fld (pv 0 hN hv hd hcd) pe hs) pr, fun c σ H S env nf ks xs vs R Rx x k h0 np hS hl l ln t D q => ?_⟩
  refine s c σ H S env _ Rx x k t _ fun v H1 S1 d k1 s1 r1 r2 t1 => ?_
  obtain ⟨e0, hf, hk, t1⟩ := t1
  obtain ⟨w, ew, rw0⟩ := k1.sl 0 _ e0
  cases (show w = .ref p from rw0)
  have hp : H1 p = some (.ins C dx (ks.zip vs)) := k1.kf.old p _ h0 np
  refine ⟨_, ew, p, C, dx, ks.zip vs, rfl, hp, c0, n, ?_, ?_⟩
  · rw [List.length_zip]
    omega
  · have hS0 : c.S0 p = none := by
      cases y : c.S0 p with
      | none => rfl
      | some o => have := k.kf.s0 p o y; rw [hS] at this; cases this
    have hS1 : S1 p = none := k1.kf.new p hS0 (mu_of h0 fun _ z => nomatch z)
    have hvl : vs.length = ks.length := by rw [l.length]; exact hl
    rw [putF_end hf hvl]
    refine sr (c.put p (.ins C dx ((ks ++ [f]).zip (vs ++ [v])))) σ _ S1 env nf (ks ++ [f]) (xs ++ [d]) (vs ++ [v]) R noX xok0 ⟨⟨fun a o ea => ?_, k1.kf.s0, fun a o ea na => ?_, fun a ea na => ?_, fun b eb => ?_, ⟨k1.kf.tab.1.updH (fun v e => by rw [hp] at e; cases e; exact ⟨fun _ z => (nomatch z), fun _ z => (nomatch z)⟩) (fun _ _ e => e), fun q hq => by
      show upd c.H0 p _ q.1 ≠ none
      by_cases z : q.1 = p
      · rw [z, upd_same]
        exact fun y => nomatch y
      · rw [upd_ne z]
        exact k1.kf.tab.2 q hq⟩⟩, k1.len, fun j x ej => ?_, k1.apart⟩ upd_same np hS1 (by simp [hl]) ((repL_mono s1 xs vs l).app (repL_cons r1 repL_nil)) (fun z => by
      rw [newT_put h0]
      exact (repL_mono (newT_mono s1) xs vs (ln z)).app (repL_cons (r2) repL_nil)) t1 D fun σ' H' S' nf' ks' xs' vs' k' s' hl' l' ln' r' => ?_
    · rw [upd_ne (fun z => by rw [z, hS1] at ea; cases ea)]
      exact k1.kf.sub a o ea
    · by_cases z : a = p
      · subst z
        have ea : upd c.H0 a (.ins C dx ((ks ++ [f]).zip (vs ++ [v]))) a = some o := ea
        rw [upd_same] at ea ⊢
        exact ea
      · have ea : upd c.H0 p (.ins C dx ((ks ++ [f]).zip (vs ++ [v]))) a = some o := ea
        rw [upd_ne z] at ea ⊢
        exact k1.kf.old a o ea na
    · by_cases z : a = p
      · rw [z]
        exact hS1
      · have na : Mu (upd c.H0 p (.ins C dx ((ks ++ [f]).zip (vs ++ [v]))) a) := na
        rw [upd_ne z] at na
        exact k1.kf.new a ea na
    · have nb : b ≠ p := fun z => np (.inl (by rw [← z]; exact eb))
      obtain ⟨⟨b1, cs, i, g, st, n, b2, b3⟩, b4⟩ := k1.kf.bag b eb
      refine ⟨⟨b1, cs, i, g, st, n, by rw [upd_ne nb]; exact b2, b3⟩, ?_⟩
      show upd c.H0 p _ b ≠ none
      rw [upd_ne nb]
      exact b4
    · obtain ⟨u, eu, r⟩ := k1.sl j x ej
      refine ⟨u, eu, DvR.keep (c := c) (c' := c.put p (.ins C dx ((ks ++ [f]).zip (vs ++ [v])))) rfl (Same.refl _) r fun q1 fa => ?_⟩
      obtain ⟨q2, q3, _⟩ := r.foot q1 fa
      have nq : q1 ≠ p := fun z => by rw [z, h0] at q3; cases q3
      refine ⟨q2, ?_, fun o e => by rw [upd_ne nq]; exact e⟩
      show upd c.H0 p _ q1 = none
      rw [upd_ne nq]
      exact q3
    · have e9 : (c.put p (.ins C dx ((ks ++ [f]).zip (vs ++ [v])))).put p (.ins C dx (ks'.zip vs')) = c.put p (.ins C dx (ks'.zip vs')) := by
        unfold Fm.put
        rw [upd_upd]
      rw [e9] at k'
      rw [newT_put h0] at ln'
      exact q σ' H' S' nf' ks' xs' vs' k' (s1.trans s') hl' l' ln' r'
theorem is_setN {f : Str} {x0 : Str} (h : DN X E e Te) (h2 : DIs X E p dx C rest U) (c0 : Cls X.K C) (n : NoAttr X.K C f) (hN : X.N[0]? = some x0 := by rfl) (hv : Vis X.env.scope x0 := by first | exact Or.inl rfl | exact Or.inr (Or.inl rfl) | exact Or.inr (Or.inr rfl)) (hd : (x0 == ("__debug__" : Str)) = false := by decide)
    (hcd : (x0 == ("__classdict__" : Str)) = false := by decide) (hs : swapsWith e (some (.Attribute (.Name x0 p1) f p2)) pos.line X.env = pure false := by rfl) : DIs X E p dx C (.Assign [.Attribute (.Name x0 p1) f p2] e pos :: rest) (jSetN p f Te U) := is_setW (w_ofN h) h2 c0 n hN hv hd hcd hs
end
def spIg (n : Bool) (C : Addr) (F : Spec) : Sp := fun vs H Q E => ∃ (c : Fm) (S : Hp) (p dx : Addr) (us : List V) (ds : List D) (R : D → Prop) (Rx : Er → Prop), vs = .ref p :: us ∧ c.H0 = H ∧ c.S0 = S ∧ Kf c H S ∧ H p = some (.ins C dx []) ∧ ¬ Ex c.B p ∧ S p = none ∧ RepL c.B S ds us ∧ F ds R Rx ∧
  (∀ H' S' ks xs vs', Kf (c.put p (.ins C dx (ks.zip vs'))) H' S' → xs.length = ks.length → RepL c.B S' xs vs' → (n = true → RepL c.B (newT H S') xs vs') → R (.obj C ks xs) → Q .non H') ∧ XOk c E Rx
abbrev spIN (C : Addr) (F : Spec) : Sp := spIg true C F
section
variable {P : Program} {w : World} {K : PySem.W.Frag} {mg : Str → Option Value} {base : Heap} {x qual : Str} {st : Stmt} {dvs : List V} {kws : List (Str × V)} {f C : Addr} {fd : FuncData} {N ps : List Str} {k : Nat} {F : Spec}
theorem fn_iN {T : Addr → ITS} (Fd : FnS K x qual st dvs kws f fd) (S : FnScope N ps (defScope st)) (len : ∀ ds R Rx, F ds R Rx → ds.length + 1 = ps.length)
    (hbody : ∀ (p dx : Addr) (cdv : Value) (A : Around) (outer : List Env) (s : Shared) (H : Hp) (E : XK), Room k (A.deeper (PyProof.Rows.envOfC qual (defScope st) s.heap.objs.size f cdv)) →
      DIs (cxOf (L2.CX P w) P w K mg base N qual (defScope st) f cdv A outer s H E) E p dx C (defBody st) (T p))
    (hT : ∀ p ds R Rx, F ds R Rx → T p (fun nf ks xs => nf = true ∧ R (.obj C ks xs)) Rx true [] [] (startE N (.adr p :: ds))) : FnOk P w K mg base (L2.CX P w) (k + 1) f fd ps (spIN C F) := by
  refine FunD.ok Fd S (fun vs H Q E ⟨c, S, p, dx, us, ds, R, Rx, e, _, _, _, _, _, _, l, h, _⟩ => by rw [e, List.length_cons, l.length]; exact len _ _ _ h) fun cdv A outer s H vs Q E hr hsp => ?_
  obtain ⟨c, Sh, p, dx, us, ds, R, Rx, e, h0, hs0, kf, hp, np, hS, l, h, q, xo⟩ := hsp
  subst e
  obtain ⟨t, pp, sm⟩ := hbody p dx cdv A outer s H E hr
  refine ⟨t, pp, sm c _ H Sh (startE N (.adr p :: ds)) true [] [] [] _ Rx xo (kn_start kf (repL_cons rfl l)) (by rw [h0]; exact hp) np hS rfl repL_nil (fun _ => repL_nil) (hT p ds R Rx h) _ fun σ' H' S' nf' ks' xs' vs' k' _ hl' l' ln' r' => ?_⟩
  exact q H' S' ks' xs' vs' k' hl' l' (fun _ => by rw [← h0]; exact ln' r'.1) r'.2
end
section
variable {X : Cx} {E : XK} {CX : CXT} {k : Nat} {C f : Addr} {fd : FuncData} {ps : List Str} {F : Spec} {x : Str} {e : Expr} {es : List Expr} {Tl : DTA} {pos p : Pos}
def xMake (F : Spec) (Tl : DTA) : DT := fun env R Rx => Tl env (fun ds => F ds R Rx) Rx
end
end DL
namespace DL
open PySem PySem.Spec L2
variable [TbC]
theorem back_of {P : Value → Shared → Prop} {z : V} {v : Value} {s' : Shared} (r : RelV z v) (h : P v s') : PySem.W.CmpBack P v s' := by
  cases z with
  | non => cases (show v = Value.none from r); exact h
  | bl b => cases (show v = Value.bool b from r); exact h
  | int i =>
    obtain ⟨t, e⟩ := (show ∃ t, v = Value.int i t from r)
    cases e
    exact h
  | str i =>
    obtain ⟨t, e⟩ := (show ∃ t, v = Value.str i t from r)
    cases e
    exact h
  | byt b =>
    obtain ⟨t, e⟩ := (show ∃ t, v = Value.bytes b t from r)
    cases e
    exact h
  | flt b =>
    obtain ⟨t, e⟩ := (show ∃ t, v = Value.float b t from r)
    cases e
    exact h
  | ref a => cases (show v = Value.ref a from r); exact h
  | ty n => cases (show v = Value.type n from r); exact h
section
variable {X : Cx} {CX : CXT} {n : Nat} {C g : Addr} {fd : FuncData} {ps : List Str} {sp : Sp} {E : XK}
/-- x op y, both instances of the class at C, whose def for op is at g -/
def rOB (C : Addr) (sp : Sp) (E : XK) : R2 := fun x y H Q => ∃ a dx fs b dy gs, x = .ref a ∧ y = .ref b ∧ H a = some (.ins C dx fs) ∧ H b = some (.ins C dy gs) ∧ sp [x, y] H Q E
theorem op_ownB {op : Operator} (hc : PySem.W.selfFirst X.K C = true) (hs : PySem.W.findIn X.K (.ref C) (PySem.dunder op.info.2) = some (some (.ref g))) (hf : PySem.W.isFn X.K (.ref g) = true) (F : FnOk X.prog X.w X.K X.mg X.base CX n g fd ps sp)
    (hb : Binds X.K fd ps []) (hr : Room n X.A) (hx : Passes CX X E) : OpR X (binaryOp op) (rOB C sp E) := by
  intro pins s σ H x y v u Q I rx ry h
  obtain ⟨a, dx, fs, b, dy, gs, rfl, rfl, ha, hb2, q⟩ := h
  cases (show v = Value.ref a from rx)
  cases (show u = Value.ref b from ry)
  obtain ⟨mA, J, _⟩ := ins_get I.hok ha
  obtain ⟨mB, J', _⟩ := ins_get I.hok hb2
  obtain ⟨od, J, _⟩ := J.look
  obtain ⟨od', J', _⟩ := J'.look
  obtain ⟨m, hF⟩ := I.fr
  refine PySem.W.binop_K hF I.ok.mod.kin J J'.type hc hs hf ?_
  refine thn (run_fn (us := [.ref a, .ref b]) (vs := [.ref a, .ref b]) (dvs := []) F hr hb .nil hx I (.cons rfl (.cons rfl .nil)) (by rw [List.append_nil]; exact q)) fun w s' z => ?_
  obtain ⟨z', H', I', rz, qz⟩ := z
  exact back_of rz ⟨z', H', I', rz, qz⟩
end
section
variable {X : Cx} {CX : CXT} {k : Nat} {C g : Addr} {fd : FuncData} {ps : List Str} {F : Spec} {E : XK} {a b : Expr} {Ta Tb : DT} {pos : Pos}
def xOB (C : Addr) (F : Spec) (Ta Tb : DT) : DT := fun env R Rx => Ta env (fun x => Tb env (fun y => asO C (fun _ _ => True) x ∧ asO C (fun _ _ => True) y ∧ F [x, y] R Rx) Rx) Rx
theorem d_ownB {op : Operator} (hc : PySem.W.selfFirst X.K C = true) (hs : PySem.W.findIn X.K (.ref C) (PySem.dunder op.info.2) = some (some (.ref g))) (hf : PySem.W.isFn X.K (.ref g) = true) (G : FnOk X.prog X.w X.K X.mg X.base CX k g fd ps (spD F))
    (hb : Binds X.K fd ps []) (hr : Room k X.A) (hx : Passes CX X E) (ha : DE X E a Ta) (hbb : DE X E b Tb) : DE X E (.BinOp a op b pos) (xOB C F Ta Tb) := by
  obtain ⟨ta, p1, s1⟩ := ha
  obtain ⟨tb, p2, s2⟩ := hbb
  refine ⟨_, pe_op (op_ownB hc hs hf G hb hr hx) p1 p2, fun c σ H S env R Rx x k t Q q => s1 c σ H S env _ Rx x k t _ fun v H1 S1 d1 k1 s3 r1 t1 => s2 c σ H1 S1 env _ Rx x k1 t1 _ fun u H2 S2 d2 k2 s4 r2 t2 => ?_⟩
  obtain ⟨o1, o2, t2⟩ := t2
  cases d1 <;> try exact (show False from o1).elim
  cases d2 <;> try exact (show False from o2).elim
  obtain ⟨rfl, _⟩ := o1
  obtain ⟨e2, _⟩ := o2
  subst e2
  have r1' := rep_mono s4 _ v r1
  obtain ⟨a1, dx, vs, e1, h1, _, l1⟩ := obj_of k2 r1'
  obtain ⟨a2, dy, ws, e2, h2, _, l2⟩ := obj_of k2 r2
  refine ⟨a1, dx, _, a2, dy, _, e1, e2, h1, h2, ?_⟩
  exact sp_call k2 x (repL_cons r1' (repL_cons r2 repL_nil)) t2 fun v H' S' d k' s' r' t' => q v H' S' d k' ((s3.trans s4).trans s') r' t'
def xOBi (C : Addr) (F : Spec) (Ta Tb : DT) : DT := fun env R Rx => Ta env (fun x => Tb env (fun y => asO C (fun _ _ => True) x ∧ asI (fun _ => True) y ∧ F [x, y] R Rx) Rx) Rx
def xInv (C : Addr) (F : Spec) (Ta : DT) : DT := fun env R Rx => Ta env (fun x => asO C (fun _ _ => True) x ∧ F [x] R Rx) Rx
end
end DL
namespace DL
open PySem PySem.Spec L2
variable [TbC]
/-- a method, a getter: its function -/
structure Dm (K : PySem.W.Frag) (x qual : Str) (st : Stmt) where
  f : Addr
  fd : FuncData
  F : FnS K x qual st [] [] f fd
end DL
namespace DL
open PySem PySem.Spec L2
variable [TbC]
/-- isinstance(x, C), C an own class -/
def isO (C : Addr) : D → Option Bool
  | .obj C' _ _ => if C' = C then some true else none
  | .non | .bl _ | .int _ | .str _ | .lst _ | .tup _ => some false
  | _ => none
def fIsiO (C : Addr) : DFn
  | [x, .adr c], R => c = C ∧ ∃ b, isO C x = some b ∧ R (.bl b)
  | _, _ => False
end DL
namespace DL
open PySem PySem.Spec L2
variable [TbC]
/-- x == y, two objects of the class at C with an own == -/
def opOwn (C : Addr) (F : Spec) : DOp := fun x y R => asO C (fun _ _ => True) x ∧ asO C (fun _ _ => True) y ∧ F [x, y] R noX
end DL
namespace DL
open PySem PySem.Spec L2
variable [TbC]
def xMethK (C : Addr) (m : Str) (F : Spec) (g : List D → List D → List D) (To : DT) (Tk : DTA) : DT := fun env R Rx => To env (fun d => asO C (fun ks xs => fld ks xs m = none) d ∧ Tk env (fun zs => F (g [d] zs) R Rx) Rx) Rx
end DL
namespace DL
open PySem PySem.Spec L2
variable [TbC]
section
variable {P : Program} {w : World} {K : PySem.W.Frag} {mg : Str → Option Value} {base : Heap} {x qual : Str} {st : Stmt} {f : Addr} {fd : FuncData} {N ps : List Str} {pv : Str} {k : Nat} {F : Spec}
theorem fn_dS {T : DTS} (Fd : FnS K x qual st [] [] f fd) (S : FnScope N (ps ++ [pv]) (defScope st)) (len : ∀ ds R Rx, F ds R Rx → ps.length ≤ ds.length ∧ ds.length ≤ sizeLine)
    (hb : ∀ (kV doc pm : Value) (an : Option Addr) (cdv ct : Value) (us rest : List Value), us.length = ps.length → bindArgs (PySem.W.fnOf x qual (defArgs st) (defBody st) (defScope st) .none kV doc pm an cdv ct) ⟨us ++ rest, []⟩ = (newTuple rest >>= fun t => pure (ps.zip us ++ [(pv, t)])))
    (hbody : ∀ (cdv : Value) (A : Around) (outer : List Env) (s : Shared) (H : Hp) (E : XK), Room k (A.deeper (PyProof.Rows.envOfC qual (defScope st) s.heap.objs.size f cdv)) →
      DSs (cxOf (L2.CX P w) P w K mg base N qual (defScope st) f cdv A outer s H E) E (defBody st) T)
    (hT : ∀ ds R Rx, F ds R Rx → T { nx := fun _ => R .non, rt := fun _ => R, ex := Rx } (startE N (ds.take ps.length ++ [.tup (ds.drop ps.length)]))) : FnR P w K mg base (L2.CX P w) (k + 1) f (spD F) := by
  obtain ⟨oc, od, dV, kV, doc, pm, an, cdv, ct, osl, rfl, lk, hcd, hdv, _⟩ := Fd.ex
  obtain rfl : dV = .none := by
    rcases hdv with ⟨_, z⟩ | ⟨z, _⟩
    · exact z
    · exact absurd rfl z
  have G : FnR P w K mg base (L2.CX P w) (k + 1) f (fun vs H Q E => ∃ ws rest, vs = ws ++ rest ∧ ws.length = ps.length ∧ rest.length ≤ sizeLine ∧ ∀ p, H p = Option.none → (spD fun ds R Rx => ∃ as bs, ds = as ++ [.tup bs] ∧ as.length = ps.length ∧ F (as ++ bs) R Rx) (ws ++ [V.ref p]) (upd H p (.tup rest)) Q E) :=
    StX.fn_star lk hcd S StX.cxUp (hb kV doc pm an cdv ct) fun A outer s H vs Q E hr hsp => by
      obtain ⟨c, Sh, ds, R, Rx, h0, hs0, kf, l, ⟨as, bs, rfl, hl, h⟩, q, xo⟩ := hsp
      obtain ⟨t, p, sm⟩ := hbody cdv A outer s H E hr
      have h2 := hT (as ++ bs) R Rx h
      rw [List.take_left' hl, List.drop_left' hl] at h2
      refine ⟨t, p, sm c _ H Sh _ _ xo (kn_start kf l) h2 _ ⟨fun σ H1 S1 env k1 s1 r1 => ?_, fun n v H1 S1 d k1 s1 r1 t1 => by
        obtain ⟨S2, k2, _, r2⟩ := r1.old k1
        exact q v H1 S2 d k2 r2 t1, fun σ H1 S1 env k1 s1 r1 => r1, fun σ H1 S1 env k1 s1 r1 => r1⟩⟩
      exact q .non H1 S1 .non k1.kf rfl r1
  intro A outer s H us vs Q E hr e0 r hsp
  refine G A outer s H us vs Q E hr e0 r ?_
  obtain ⟨c, Sh, ds, R, Rx, h0, hs0, kf, l, h, q, xo⟩ := hsp
  obtain ⟨l1, l2⟩ := len _ _ _ h
  have hvl := l.length
  refine ⟨vs.take ps.length, vs.drop ps.length, (List.take_append_drop _ _).symm, by rw [List.length_take]; omega, by rw [List.length_drop]; omega, fun p hp => ?_⟩
  subst h0
  subst hs0
  have kn0 : Kn c [] c.H0 c.S0 [] := ⟨kf, rfl, fun i x e => by simp at e, fun i j x y v u a _ e => by simp at e⟩
  have kn := kn0.new (o := .tup (vs.drop ps.length)) hp
  have sS : Same c.S0 (upd c.S0 p (.tup (vs.drop ps.length))) := same_upd (kf.s_none hp)
  refine ⟨c.at _ (upd c.S0 p (.tup (vs.drop ps.length))), _, ds.take ps.length ++ [.tup (ds.drop ps.length)], R, Rx, rfl, rfl, kn.kf.at, ?_, ⟨_, _, rfl, by rw [List.length_take]; omega, by rw [List.take_append_drop]; exact h⟩, fun v H' S' d k' r' z => ?_, xo.at kn.kf⟩
  · refine (repL_mono sS _ _ (l.take _)).app (repL_cons ?_ repL_nil)
    rw [Rep]
    exact ⟨p, _, rfl, upd_same, repL_mono sS _ _ (l.drop _)⟩
  · exact q v H' S' d (kn.kf.back' k') r' z
end
end DL
namespace DL
open PySem PySem.Spec L2
end DL
namespace DL
open PySem PySem.Spec L2
end DL
namespace DL
open PySem PySem.Spec L2
variable [TbC]
section
variable {α : Type} {G : DG} {Te : DT} {Tt : DTT} {vs : List Nat} {env : En} {R : List D → Prop}
theorem LcP.of {as : List α} {g : α → D} (f : α → D) (hz : as.length ≤ sizeLine) (h : ∀ (i : Nat) (a : α) (N : D → Prop), as[i]? = some a → N (f a) → G (g a) (inner vs env) fun env' => Te env' N noX) (k : R (as.map f)) :
    LcP (as.map g) G xYes Te vs env R := by
  refine ⟨fun i acc => acc = (as.take i).map f, by simp, fun i d acc e hI => ?_, fun acc hI => by rw [hI, List.length_map, List.take_length]; exact k⟩
  rw [List.getElem?_map] at e
  cases q : as[i]? with
  | none => rw [q] at e; cases e
  | some a =>
    rw [q] at e
    cases e
    have hi := (List.getElem?_eq_some_iff.mp q).1
    have key := h i a (fun y => acc.length < sizeLine ∧ acc ++ [y] = (as.take (i + 1)).map f) q ⟨by rw [hI, List.length_map, List.length_take]; omega, by rw [hI, take_succ_map f q]⟩
    have e1 : (fun env' => xYes env' (fun b => (b = true → Te env' (fun y => acc.length < sizeLine ∧ acc ++ [y] = (as.take (i + 1)).map f) noX) ∧ (b = false → acc = (as.take (i + 1)).map f)) noX) = fun env' => Te env' (fun y => acc.length < sizeLine ∧ acc ++ [y] = (as.take (i + 1)).map f) noX := by
      funext env'
      refine propext ⟨fun t => t.1 rfl, fun t => ⟨fun _ => t, fun z => nomatch z⟩⟩
    rw [e1]
    exact key
theorem LcP.filt {as : List α} {g : α → D} (p : α → Bool) (f : α → D) (hz : as.length ≤ sizeLine)
    (h : ∀ (i : Nat) (a : α) (N : D → Prop) (M : Prop), as[i]? = some a → (p a = true → N (f a)) → (p a = false → M) → G (g a) (inner vs env) fun env' => Tt env' (fun b => (b = true → Te env' N noX) ∧ (b = false → M)) noX) (k : R ((as.filter p).map f)) :
    LcP (as.map g) G Tt Te vs env R := by
  refine ⟨fun i acc => acc = ((as.take i).filter p).map f, by simp, fun i d acc e hI => ?_, fun acc hI => by rw [hI, List.length_map, List.take_length]; exact k⟩
  rw [List.getElem?_map] at e
  cases q : as[i]? with
  | none => rw [q] at e; cases e
  | some a =>
    rw [q] at e
    cases e
    have hi := (List.getElem?_eq_some_iff.mp q).1
    have e2 : as.take (i + 1) = as.take i ++ [a] := by rw [List.take_succ, q]; rfl
    refine h i a _ _ q (fun hp => ⟨?_, ?_⟩) fun hp => ?_
    · rw [hI, List.length_map]
      have := List.length_filter_le p (as.take i)
      rw [List.length_take] at this
      omega
    · show acc ++ [f a] = ((as.take (i + 1)).filter p).map f
      rw [hI, e2, List.filter_append]
      simp [hp]
    · show acc = ((as.take (i + 1)).filter p).map f
      rw [hI, e2, List.filter_append]
      simp [hp]
/-- items drawn: of them only P is known -/
theorem mapped_of (g : α → D) {P : α → Prop} : ∀ {acc : List D}, (∀ y ∈ acc, ∃ a, y = g a ∧ P a) → ∃ as : List α, acc = as.map g ∧ ∀ a ∈ as, P a
  | [], _ => ⟨[], rfl, fun n h => nomatch h⟩
  | y :: acc, h => by
    obtain ⟨n, rfl, hp⟩ := h y (List.mem_cons_self ..)
    obtain ⟨ns, rfl, hn⟩ := mapped_of g (acc := acc) fun z hz => h z (List.mem_cons_of_mem _ hz)
    exact ⟨n :: ns, rfl, fun m hm => by
      rcases List.mem_cons.mp hm with e | e
      · rw [e]; exact hp
      · exact hn m e⟩
theorem LcP.draw {xs : List D} (g : α → D) (P : α → Prop) (hz : xs.length ≤ sizeLine) (h : ∀ (i : Nat) (d : D) (N : D → Prop), xs[i]? = some d → (∀ a, P a → N (g a)) → G d (inner vs env) fun env' => Te env' N noX)
    (k : ∀ as : List α, as.length = xs.length → (∀ a ∈ as, P a) → R (as.map g)) : LcP xs G xYes Te vs env R := by
  refine LcP.all (fun y => ∃ a, y = g a ∧ P a) hz (fun i d N e hN => h i d N e fun a ha => hN _ ⟨a, rfl, ha⟩) fun acc hl hacc => ?_
  obtain ⟨as, rfl, has⟩ := mapped_of g hacc
  exact k as (by rw [List.length_map] at hl; exact hl) has
end
section
variable {x0 x1 x2 x3 x4 x5 x6 x7 : D} {r : List D}
theorem w_at0 : atI (x0 :: r) 0 = some x0 := by simp [atI, ixN]
theorem w_at1 : atI (x0 :: x1 :: r) 1 = some x1 := by
  unfold atI ixN
  rw [if_pos (by decide), if_pos (by simp only [List.length_cons]; omega)]
  rfl
theorem w_at2 : atI (x0 :: x1 :: x2 :: r) 2 = some x2 := by
  unfold atI ixN
  rw [if_pos (by decide), if_pos (by simp only [List.length_cons]; omega)]
  rfl
theorem w_at3 : atI (x0 :: x1 :: x2 :: x3 :: r) 3 = some x3 := by
  unfold atI ixN
  rw [if_pos (by decide), if_pos (by simp only [List.length_cons]; omega)]
  rfl
theorem w_at4 : atI (x0 :: x1 :: x2 :: x3 :: x4 :: r) 4 = some x4 := by
  unfold atI ixN
  rw [if_pos (by decide), if_pos (by simp only [List.length_cons]; omega)]
  rfl
theorem w_at5 : atI (x0 :: x1 :: x2 :: x3 :: x4 :: x5 :: r) 5 = some x5 := by
  unfold atI ixN
  rw [if_pos (by decide), if_pos (by simp only [List.length_cons]; omega)]
  rfl
end
end DL
namespace DL
open PySem PySem.Spec L2
variable [TbC]
section
variable {X : Cx} {pins : List (Addr × Obj)} {σ : St} {H : Hp} {s : Shared} {k : Nat} {f g C : Addr} {fd : FuncData} {ps : List Str} {sp : Sp} {F : Spec}
theorem run_in1 {Q : VK} {us : List Value} {vs : List V} {E' : Value → Shared → Prop} (G : FnOk X.prog X.w X.K X.mg X.base (L2.CX X.prog X.w) k f fd ps sp) (hr : Room (k + 1) X.A) (hb : Binds X.K fd ps []) (I : Inv X pins σ H s) (r : Vals vs us) (h : sp vs H Q E0) :
    wpAny (model X.prog X.w) X.A.in1 (call (.ref f) us) (EP X pins σ Q) E' s := by
  have hl : (us ++ []).length = ps.length := by rw [List.append_nil, ← r.length]; exact G.len _ _ _ _ h
  have hb2 := hb s us I.kIn hl
  rw [List.append_nil] at hb2
  refine wpAny_call (codeAny_mono (G.run X.A.in1 X.stack s H ⟨us, []⟩ us vs Q E0 hr.in1 I.env0.in1 hb2 r h) fun r s' hq => ?_)
  cases r with
  | error er => exact False.elim ((passL (X := X.nox)) pins σ H s er s' (I.wish _) hq)
  | ok fl =>
    cases fl with
    | ret u => exact I.after hq
    | next => exact False.elim hq
    | brk => exact False.elim hq
    | cont => exact False.elim hq
def rLenOw (C : Addr) (sp : Sp) : List V → Hp → VK → Prop := fun xs H Q => ∃ a dx fs, xs = [.ref a] ∧ H a = some (.ins C dx fs) ∧ sp [.ref a] H (fun v H' => ∃ n : Int, v = .int n ∧ 0 ≤ n ∧ n < 2 ^ 63 ∧ Q (.int n) H') E0
theorem call_lenOw (o : Hx.Own X.K C "__len__" g) (G : FnOk X.prog X.w X.K X.mg X.base (L2.CX X.prog X.w) k g fd ps sp) (hb : Binds X.K fd ps []) (hr : Room (k + 1) X.A) : CallR X (.builtin "len") (rLenOw C sp) := by
  intro pins s σ H xs us Q I r h
  obtain ⟨a, dx, fs, rfl, ha, q⟩ := h
  obtain ⟨u, rfl, ru⟩ := vals1 r
  obtain rfl : u = Value.ref a := ru
  obtain ⟨mA, J, _⟩ := ins_get I.hok ha
  obtain ⟨od, J, _⟩ := J.look
  obtain ⟨m, hF⟩ := I.fr
  refine PySem.W.len_K hF I.ok.mod.kin J o.at_ o.fn (wpAny_mono (run_in1 (us := [.ref a]) (vs := [.ref a]) G hr hb I (.cons rfl .nil) q) (fun u s' hq => ?_) fun _ _ z => z)
  obtain ⟨v, H', I', rv, n, rfl, h0, h1, q2⟩ := hq
  obtain ⟨t, rfl⟩ := rv
  exact ⟨⟨h0, h1⟩, .int n, H', I'.tok _, ⟨_, rfl⟩, q2⟩
def natR (R : D → Prop) : D → Prop
  | .int n => 0 ≤ n ∧ n < 2 ^ 63 ∧ R (.int n)
  | _ => False
theorem w_natR {R : D → Prop} {n : Int} : natR R (.int n) = (0 ≤ n ∧ n < 2 ^ 63 ∧ R (.int n)) := rfl
def fLenOw (C : Addr) (F : Spec) : DFn
  | [x], R => asO C (fun _ _ => True) x ∧ F [x] (natR R) noX
  | _, _ => False
theorem w_fLenOw {C : Addr} {F : Spec} {x : D} {R : D → Prop} : fLenOw C F [x] R = (asO C (fun _ _ => True) x ∧ F [x] (natR R) noX) := rfl
theorem b_lenOw (o : Hx.Own X.K C "__len__" g) (G : FnOk X.prog X.w X.K X.mg X.base (L2.CX X.prog X.w) k g fd ps (spD F)) (hb : Binds X.K fd ps []) (hr : Room (k + 1) X.A) : CallOk X (.builtin "len") (fLenOw C F) := by
  refine ⟨_, call_lenOw o G hb hr, fun c σ H S env xs vs R kn r t Q q => ?_⟩
  match xs, t with
  | [x], t2 =>
  obtain ⟨t0, t3⟩ := t2
  obtain ⟨v, rfl, r1⟩ := rep1 r
  cases x <;> try exact (show False from t0).elim
  obtain ⟨rfl, _⟩ := t0
  obtain ⟨a, dx, vs, rfl, h1, hn, l1⟩ := obj_of kn r1
  refine ⟨a, dx, _, rfl, h1, sp_call kn xok0 (repL_cons r1 repL_nil) t3 fun v H' S' d k' s' r' t' => ?_⟩
  cases d <;> try exact (show False from t').elim
  obtain ⟨n0, n1, t'⟩ := t'
  exact ⟨_, r', n0, n1, q _ H' S' (.int _) k' s' rfl t'⟩
end
section
variable {X : Cx} {E : XK} {a b c : Expr} {pos : Pos}
def zPar3 (i j l : Nat) (Tl : DTA) : DTS := fun Q env => Tl env (fun ds => match ds with
  | [d, d', d''] => Q.nx (put l d'' (put j d' (put i d env)))
  | _ => False) Q.ex
end
end DL
namespace DL
open PySem PySem.Spec L2
end DL
namespace DL
open PySem PySem.Spec L2
variable [TbC]
def canI (E : XK) (T : DTI) : TI := fun σ H Rr => ∃ (c : Fm) (S : Hp) (env : En) (R : List D → Prop) (Rx : Er → Prop), XOk c E Rx ∧ Kn c σ H S env ∧ T env R Rx ∧ ∀ J H' S' xs, Kn c σ H' S' env → Same S S' → ItOk c.B J S' xs → R xs → Rr J H'
theorem smI_can {E : XK} {T : DTI} : SmI E (canI E T) T := fun c σ H S env R Rx x k t Rr q => ⟨c, S, env, R, Rx, x, k, t, q⟩
theorem pi_can {X : Cx} {E : XK} {tg e : Expr} {T : DTI} (h : DI X E tg e T) : PI X tg e (canI E T) := by
  obtain ⟨wi, p, s⟩ := h
  exact ⟨fun pins st σ H Rr I ⟨c, S, env, R, Rx, x, k, t, q⟩ => p.run pins st σ H Rr I (s c σ H S env R Rx x k t Rr q)⟩
section
variable {c : Fm} {σ σ2 : St} {H H2 S S2 : Hp} {env env2 : En} {D : Addr} {vs ws : List V}
/-- a list that nobody knows of changes -/
theorem Kn.updD {vs0 : List V} (k : Kn c σ H S env) (hL : H D = some (.lst vs0)) (nD : S D = none) (n0 : c.H0 D = none) (f : Free σ env D) : Kn c σ (upd H D (.lst ws)) S env := k.updF nD n0 hL lst_ne f
/-- what is known behind a block is known ahead of it -/
theorem Kn.up (k : Kf c H S) (k2 : Kn (c.at H S) σ2 H2 S2 env2) : Kn c σ2 H2 S2 env2 := by
  refine ⟨k.back' k2.kf, k2.len, fun j x ej => ?_, k2.apart⟩
  obtain ⟨w, ew, r⟩ := k2.sl j x ej
  refine ⟨w, ew, DvR.keep (c := c.at H S) (c' := c) rfl (Same.refl _) r fun a fa => ?_⟩
  obtain ⟨f1, f2, _⟩ := r.foot a fa
  exact ⟨f1, k.h0_none f2, fun _ e => e⟩
theorem Kn.freeD (k2 : Kn (c.at H S) σ2 H2 S2 env2) (h : H D ≠ none) : Free σ2 env2 D := fun j x v e e2 fa => by
  obtain ⟨w, ew, r⟩ := k2.sl j _ e
  rw [ew] at e2
  cases e2
  exact h (r.foot D fa).2.1
end
def xLc2F (Ti : DTI) (G : DG) (Tt : DTT) (Ti1 : DTI) (G1 : DG) (Tt1 : DTT) (Te : DT) (vs vs1 : List Nat) : DTF := fun env R Rx => Ti env (fun xs => ∃ I : Nat → List D → Prop, I 0 [] ∧
  (∀ i d acc, xs[i]? = some d → I i acc → G d (inner vs env) fun env' => Tt env' (fun b => (b = true → Ti1 env' (fun ys => ∃ I1 : Nat → List D → Prop, I1 0 acc ∧
      (∀ j e acc, ys[j]? = some e → I1 j acc → G1 e (inner vs1 env') fun env'' => Tt1 env'' (fun b => (b = true → Te env'' (fun y => acc.length < sizeLine ∧ I1 (j + 1) (acc ++ [y])) noX) ∧ (b = false → I1 (j + 1) acc)) noX) ∧
      ∀ acc, I1 ys.length acc → I (i + 1) acc) noX) ∧ (b = false → I (i + 1) acc)) noX) ∧
  ∀ acc, I xs.length acc → R acc) Rx
section
variable {X : Cx} {E : XK} {elt tg iter tg1 iter1 : Expr} {ifs ifs1 : List Expr} {scope : Scope} {own : List (Str × Nat)} {pos : Pos} {Ti Ti1 : DTI} {G G1 : DG} {Tt Tt1 : DTT} {Te : DT} {js js1 vs1 : List Nat}
theorem smF_lc2 {wi : TI} (hsub : ∀ j ∈ js, j ∈ own.map (·.2)) (hsub1 : ∀ j ∈ js1, j ∈ vs1) (hi : SmI E wi Ti) :
    SmF E (tLc2 wi (canG G js) (canT E0 Tt) (canI E0 Ti1) (canG G1 js1) (canT E0 Tt1) (canE E0 Te) (own.map (·.2)) vs1) (xLc2F Ti G Tt Ti1 G1 Tt1 Te (own.map (·.2)) vs1) := fun c σ H S env R Rx x k t Q q =>
  hi c σ H S env _ Rx x k t _ fun J H1 S1 xs k1 s1 it t1 => by
    obtain ⟨I, h0, hstep, hend⟩ := t1
    intro D hD
    have n0 := k1.kf.h0_none hD
    have fD := k1.free hD
    refine ⟨fun i m H => m = xs.length - i ∧ i ≤ xs.length ∧ ∃ S vs acc, Kn c σ H S env ∧ Same S1 S ∧ S D = none ∧ H D = some (.lst vs) ∧ RepL c.B S acc vs ∧ I i acc,
      ⟨_, rfl, Nat.zero_le _, S1, [], [], k1.new0 hD, Same.refl S1, k1.kf.s_none hD, upd_same, repL_nil, h0⟩, ?_⟩
    rintro i m H ⟨rfl, hil, S, vs, acc, k, s, nD, eD, l, hI⟩
    have ki := k.inner (own.map (·.2))
    obtain ⟨go, stop⟩ := it (c.at H S) rfl i _ H S _ ki s
    by_cases hlt : i < xs.length
    · have e : xs[i]? = some xs[i] := by simp [hlt]
      obtain ⟨g1, g2⟩ := go _ e
      refine .inr ⟨g1, fun H => i + 1 ≤ xs.length ∧ ∃ S vs acc, Kn c σ H S env ∧ Same S1 S ∧ S D = none ∧ H D = some (.lst vs) ∧ RepL c.B S acc vs ∧ I (i + 1) acc, fun H' h => ⟨_, by omega, rfl, h⟩, fun v H' y => ?_⟩
      obtain ⟨S', k', s', r'⟩ := g2 v H' y
      refine smG_can (c.at H S) _ H' S' _ _ v _ k' r' (hstep i _ acc e hI) _ fun σ2 H2 S2 env2 k2 s2 w2 t2 => ⟨?_, ?_⟩
      · rw [w2 (own.map (·.2)) hsub]
        exact wipe_wipe _ _
      · have eDn : Mu (H D) := mu_lst eD
        have fin : ∀ {H4 S4 : Hp}, Kf (c.at H S) H4 S4 → Kn c σ H4 S4 env ∧ H4 D = some (.lst vs) ∧ S4 D = none ∧ RepL c.B S4 acc vs ∧ Same S1 S4 := fun {H4 S4} kf => by
          refine ⟨k.back kf, kf.old D _ eD (k.kf.x_ne0 n0), kf.new D nD eDn, repL_mono kf.s0 acc vs l, s.trans kf.s0⟩
        refine smT_can (c.at H S) σ2 H2 S2 env2 _ noX xok0 k2 t2 _ fun b H3 S3 k3 s3 t3 => ?_
        cases b with
        | false =>
          refine iteF ?_
          obtain ⟨kn, eD4, nD4, l4, ss⟩ := fin k3.kf
          exact ⟨hlt, S3, vs, acc, kn, ss, nD4, eD4, l4, t3.2 rfl⟩
        | true =>
          refine iteT ?_
          refine smI_can (c.at H S) σ2 H3 S3 env2 _ noX xok0 k3 (t3.1 rfl) _ fun J1 H4 S4 ys k4 s4 it1 t4 => ?_
          obtain ⟨I1, h10, hstep1, hend1⟩ := t4
          obtain ⟨kn, eD4, nD4, l4, ss⟩ := fin k4.kf
          have k2c := Kn.up k.kf k4
          have f2 : Free σ2 env2 D := k4.freeD eDn.1
          refine ⟨fun j m H => m = ys.length - j ∧ j ≤ ys.length ∧ ∃ S vs acc, Kn c σ H S env ∧ Kn c σ2 H S env2 ∧ Same S4 S ∧ S D = none ∧ H D = some (.lst vs) ∧ RepL c.B S acc vs ∧ I1 j acc,
            ⟨_, rfl, Nat.zero_le _, S4, vs, acc, kn, k2c, Same.refl S4, nD4, eD4, l4, h10⟩, ?_⟩
          rintro j m1 H5 ⟨rfl, hjl, S5, vs5, acc5, ka, kb, s5, nD5, eD5, l5, hI1⟩
          have kbi := kb.inner vs1
          obtain ⟨go1, stop1⟩ := it1 (c.at H5 S5) rfl j _ H5 S5 _ kbi s5
          by_cases hlt1 : j < ys.length
          · have e1 : ys[j]? = some ys[j] := by simp [hlt1]
            obtain ⟨g3, g4⟩ := go1 _ e1
            refine .inr ⟨g3, fun H => j + 1 ≤ ys.length ∧ ∃ S vs acc, Kn c σ H S env ∧ Kn c σ2 H S env2 ∧ Same S4 S ∧ S D = none ∧ H D = some (.lst vs) ∧ RepL c.B S acc vs ∧ I1 (j + 1) acc, fun H' h => ⟨_, by omega, rfl, h⟩, fun v1 H6 y1 => ?_⟩
            obtain ⟨S6, k6, s6, r6⟩ := g4 v1 H6 y1
            refine smG_can (c.at H5 S5) _ H6 S6 _ _ v1 _ k6 r6 (hstep1 j _ acc5 e1 hI1) _ fun σ3 H7 S7 env3 k7 s7 w7 t7 => ⟨?_, ?_⟩
            · rw [w7 vs1 hsub1]
              exact wipe_wipe _ _
            · have eDn5 : Mu (H5 D) := mu_lst eD5
              have fin1 : ∀ {H4 S9 : Hp}, Kf (c.at H5 S5) H4 S9 → Kn c σ H4 S9 env ∧ Kn c σ2 H4 S9 env2 ∧ H4 D = some (.lst vs5) ∧ S9 D = none ∧ RepL c.B S9 acc5 vs5 ∧ Same S4 S9 := fun {H4 S9} kf => by
                refine ⟨ka.back kf, kb.back kf, kf.old D _ eD5 (ka.kf.x_ne0 n0), kf.new D nD5 eDn5, repL_mono kf.s0 acc5 vs5 l5, s5.trans kf.s0⟩
              refine smT_can (c.at H5 S5) σ3 H7 S7 env3 _ noX xok0 k7 t7 _ fun b H8 S8 k8 s8 t8 => ?_
              cases b with
              | true =>
                refine iteT ?_
                refine sm_can (c.at H5 S5) σ3 H8 S8 env3 _ noX xok0 k8 (t8.1 rfl) _ fun u H9 S9 d9 k9 s9 r9 t9 => ?_
                obtain ⟨ka9, kb9, eD9, nD9, l9, ss9⟩ := fin1 k9.kf
                have l10 := l9.app (repL_cons r9 repL_nil)
                exact ⟨vs5, eD9, by rw [l9.length]; exact t9.1, hlt1, S9, _, _, ka9.updD eD9 nD9 n0 fD, kb9.updD eD9 nD9 n0 f2, ss9, nD9, upd_same, l10, t9.2⟩
              | false =>
                refine iteF ?_
                obtain ⟨ka9, kb9, eD9, nD9, l9, ss9⟩ := fin1 k8.kf
                exact ⟨hlt1, S8, vs5, acc5, ka9, kb9, ss9, nD9, eD9, l9, t8.2 rfl⟩
          · have ej : j = ys.length := by omega
            subst ej
            exact .inl ⟨stop1 (Nat.le_refl _), hlt, S5, vs5, acc5, ka, ss.trans s5, nD5, eD5, l5, hend1 acc5 hI1⟩
    · have e : i = xs.length := by omega
      subst e
      exact .inl ⟨stop (Nat.le_refl _), q D vs H S acc k (s1.trans s) n0 fD nD eD l (hend acc hI)⟩
theorem s_setLc2 {i : Nat} {y : Str} {py spos : Pos} (hc : X.calm = true) (hN : X.N.Nodup) (hi : DI X E tg iter Ti) (ok : BlkOk X.N X.env.scope scope own) (hsub : ∀ j ∈ js, j ∈ own.map (·.2)) (hv : ∀ i ∈ vs1, i ∈ own.map (·.2)) (hsub1 : ∀ j ∈ js1, j ∈ vs1)
    (hg : ∀ (s : Shared) (H : Hp) (C : Addr) (cl : List (Str × Addr)) (fp : List Addr), DGt (X.blk s H scope (compEnvC scope cl C X.env) fp) tg G js)
    (ht : ∀ (s : Shared) (H : Hp) (C : Addr) (cl : List (Str × Addr)) (fp : List Addr), DTs (X.blk s H scope (compEnvC scope cl C X.env) fp) E0 ifs Tt)
    (hi1 : ∀ (s : Shared) (H : Hp) (C : Addr) (cl : List (Str × Addr)) (fp : List Addr), DI (X.blk s H scope (compEnvC scope cl C X.env) fp) E0 tg1 iter1 Ti1)
    (hg1 : ∀ (s : Shared) (H : Hp) (C : Addr) (cl : List (Str × Addr)) (fp : List Addr), DGt (X.blk s H scope (compEnvC scope cl C X.env) fp) tg1 G1 js1)
    (ht1 : ∀ (s : Shared) (H : Hp) (C : Addr) (cl : List (Str × Addr)) (fp : List Addr), DTs (X.blk s H scope (compEnvC scope cl C X.env) fp) E0 ifs1 Tt1)
    (he : ∀ (s : Shared) (H : Hp) (C : Addr) (cl : List (Str × Addr)) (fp : List Addr), DE (X.blk s H scope (compEnvC scope cl C X.env) fp) E0 elt Te)
    (hy : X.N[i]? = some y := by rfl) (hyl : X.env.scope.names.lookup y = some .local := by rfl)
    (hsw : swapsWith (.ListComp elt [⟨tg, iter, ifs, 0⟩, ⟨tg1, iter1, ifs1, 0⟩] scope pos) (some (.Name y py)) spos.line X.env = pure true := by exact sw_true rfl rfl rfl (by decide +kernel))
    (hs : ∀ x, foldedSetIterable iter X.env x = pure x := by intro _; rfl) (hs1 : ∀ env x, foldedSetIterable iter1 env x = pure x := by intro _ _; rfl) : DS X E (.Assign [.Name y py] (.ListComp elt [⟨tg, iter, ifs, 0⟩, ⟨tg1, iter1, ifs1, 0⟩] scope pos) spos) (zAsg (xF (xLc2F Ti G Tt Ti1 G1 Tt1 Te (own.map (·.2)) vs1)) (yName i)) := by
  obtain ⟨wi, p, s⟩ := hi
  exact ⟨_, ps_setLc2 hc hN hy hyl hsw p ok hv (fun s H C cl fp => pg_can (hg s H C cl fp)) (fun s H C cl fp => pts_can (ht s H C cl fp)) (fun s H C cl fp => pi_can (hi1 s H C cl fp)) (fun s H C cl fp => pg_can (hg1 s H C cl fp)) (fun s H C cl fp => pts_can (ht1 s H C cl fp)) (fun s H C cl fp => pe_can (he s H C cl fp)) hs hs1, smS_asg (sm_ofF (smF_lc2 hsub hsub1 s)) (smG_name i)⟩
end
/-- the word: typed lists both -/
def Lc2P (xs : List D) (G : DG) (Tt : DTT) (Ti1 : DTI) (G1 : DG) (Tt1 : DTT) (Te : DT) (vs vs1 : List Nat) (env : En) (R : List D → Prop) : Prop := ∃ I : Nat → List D → Prop, I 0 [] ∧
  (∀ i d acc, xs[i]? = some d → I i acc → G d (inner vs env) fun env' => Tt env' (fun b => (b = true → Ti1 env' (fun ys => ∃ I1 : Nat → List D → Prop, I1 0 acc ∧
      (∀ j e acc, ys[j]? = some e → I1 j acc → G1 e (inner vs1 env') fun env'' => Tt1 env'' (fun b => (b = true → Te env'' (fun y => acc.length < sizeLine ∧ I1 (j + 1) (acc ++ [y])) noX) ∧ (b = false → I1 (j + 1) acc)) noX) ∧
      ∀ acc, I1 ys.length acc → I (i + 1) acc) noX) ∧ (b = false → I (i + 1) acc)) noX) ∧
  ∀ acc, I xs.length acc → R acc
theorem w_lc2 {Ti Ti1 : DTI} {G G1 : DG} {Tt Tt1 : DTT} {Te : DT} {vs vs1 : List Nat} {env : En} {R : List D → Prop} {Rx : Er → Prop} : xLc2F Ti G Tt Ti1 G1 Tt1 Te vs vs1 env R Rx = Ti env (fun xs => Lc2P xs G Tt Ti1 G1 Tt1 Te vs vs1 env R) Rx := rfl
/-- no tests: all f a b, in order -/
theorem Lc2P.of {α β : Type} {as : List α} {g : α → D} {Ti1 : DTI} {G G1 : DG} {Te : DT} {vs vs1 : List Nat} {env : En} {R : List D → Prop} (bs : List β) (g1 : β → D) (f : α → β → D) (hz : as.length * bs.length ≤ sizeLine)
    (h2 : ∀ (i : Nat) (a : α) (R1 : En → Prop), as[i]? = some a → (∀ env' : En, (∀ M : List D → Prop, M (bs.map g1) → Ti1 env' M noX) → (∀ (j : Nat) (b : β) (N : D → Prop), bs[j]? = some b → N (f a b) → G1 (g1 b) (inner vs1 env') fun env'' => Te env'' N noX) → R1 env') → G (g a) (inner vs env) R1)
    (k : R (as.flatMap fun a => bs.map (f a))) : Lc2P (as.map g) G xYes Ti1 G1 xYes Te vs vs1 env R := by
  refine ⟨fun i acc => acc = (as.take i).flatMap fun a => bs.map (f a), by simp, fun i d acc e hI => ?_, fun acc hI => by rw [hI, List.length_map, List.take_length]; exact k⟩
  rw [List.getElem?_map] at e
  cases q : as[i]? with
  | none => rw [q] at e; cases e
  | some a =>
    rw [q] at e
    cases e
    have hi := (List.getElem?_eq_some_iff.mp q).1
    have eacc : acc.length = i * bs.length := by
      rw [hI, List.length_flatMap]
      have : (as.take i).map (fun a => (bs.map (f a)).length) = List.replicate i bs.length := by
        apply List.ext_getElem
        · simp; omega
        · intro n h1 h2
          simp
      rw [this, List.sum_replicate_nat]
    have et : as.take (i + 1) = as.take i ++ [a] := by rw [List.take_succ, q]; rfl
    refine h2 i a _ q fun env' hT hE => ⟨fun _ => hT _ ⟨fun j acc2 => acc2 = acc ++ (bs.take j).map (f a), by simp, fun j d acc2 e2 hI2 => ?_, fun acc2 hI2 => ?_⟩, fun z => nomatch z⟩
    · rw [List.getElem?_map] at e2
      cases q2 : bs[j]? with
      | none => rw [q2] at e2; cases e2
      | some b =>
        rw [q2] at e2
        cases e2
        have hj := (List.getElem?_eq_some_iff.mp q2).1
        have key := hE j b (fun y => acc2.length < sizeLine ∧ acc2 ++ [y] = acc ++ (bs.take (j + 1)).map (f a)) q2 ⟨by
          rw [hI2, List.length_append, List.length_map, List.length_take, eacc]
          have : (i + 1) * bs.length ≤ as.length * bs.length := Nat.mul_le_mul_right _ hi
          rw [Nat.succ_mul] at this
          omega, by rw [hI2, take_succ_map (f a) q2, List.append_assoc]⟩
        have e1 : (fun env'' => xYes env'' (fun b => (b = true → Te env'' (fun y => acc2.length < sizeLine ∧ acc2 ++ [y] = acc ++ (bs.take (j + 1)).map (f a)) noX) ∧ (b = false → acc2 = acc ++ (bs.take (j + 1)).map (f a))) noX) = fun env'' => Te env'' (fun y => acc2.length < sizeLine ∧ acc2 ++ [y] = acc ++ (bs.take (j + 1)).map (f a)) noX := by
          funext env''
          refine propext ⟨fun t => t.1 rfl, fun t => ⟨fun _ => t, fun z => nomatch z⟩⟩
        rw [e1]
        exact key
    · show acc2 = (as.take (i + 1)).flatMap fun a => bs.map (f a)
      rw [hI2, List.length_map, List.take_length, et, List.flatMap_append, hI]
      simp
def asStrs : List D → Option (List Str)
  | [] => some []
  | .str i :: r => (asStrs r).map (i :: ·)
  | _ :: _ => none
theorem asStrs_eq : ∀ {ds : List D} {ns : List Str}, asStrs ds = some ns → ds = ns.map D.str
  | [], _, e => by cases e; rfl
  | .str i :: r, ns, e => by
    have e : (asStrs r).map (i :: ·) = some ns := e
    cases h : asStrs r with
    | none => rw [h] at e; cases e
    | some ms =>
      rw [h] at e
      cases e
      rw [asStrs_eq h]
      rfl
  | .non :: _, _, e | .bl _ :: _, _, e | .int _ :: _, _, e | .ty _ :: _, _, e | .adr _ :: _, _, e | .fn _ _ _ :: _, _, e | .exc _ _ _ _ _ :: _, _, e | .dct _ _ :: _, _, e | .dcT _ _ :: _, _, e | .bag :: _, _, e | .lst _ :: _, _, e | .tup _ :: _, _, e | .obj _ _ _ :: _, _, e => nomatch e
theorem w_asStrs (ns : List Str) : asStrs (ns.map D.str) = some ns := by
  induction ns with
  | nil => rfl
  | cons n ns ih => show (asStrs (ns.map D.str)).map (n :: ·) = _; rw [ih]; rfl
theorem RepL.strs {B : Option Addr} {S : Hp} {ns : List Str} : ∀ {vs : List V}, RepL B S (ns.map D.str) vs → vs = ns.map V.str := by
  induction ns with
  | nil => intro vs h; exact repL_nil_of h
  | cons n ns ih =>
    intro vs h
    obtain ⟨u, ws, rfl, r1, t⟩ := repL_cons_of h
    rw [ih t, show u = V.str n from r1]
    rfl
def asS (R : Str → Prop) : D → Prop
  | .str s => R s
  | _ => False
theorem w_asS {Q : Str → Prop} {s : Str} : asS Q (.str s) = Q s := rfl
def opJoin (a : Str) : D → (D → Prop) → Prop
  | .lst xs, R => ∃ ys : List Str, asStrs xs = some ys ∧ (ys.map (·.length)).sum + ys.length * a.length ≤ 16777216 ∧ R (.str (Txt.join a ys))
  | _, _ => False
theorem w_join {a : Str} {xs : List D} {R : D → Prop} : opJoin a (.lst xs) R = ∃ ys : List Str, asStrs xs = some ys ∧ (ys.map (·.length)).sum + ys.length * a.length ≤ 16777216 ∧ R (.str (Txt.join a ys)) := rfl
def opFind (a : Str) : D → (D → Prop) → Prop
  | .str b, R => R (.int (Txt.find a b))
  | _, _ => False
theorem w_find {a b : Str} {R : D → Prop} : opFind a (.str b) R = R (.int (Txt.find a b)) := rfl
def xM1 (op : Str → D → (D → Prop) → Prop) (To Te : DT) : DT := fun env R Rx => To env (asS fun a => Te env (fun y => op a y R) Rx) Rx
theorem w_m1 {op : Str → D → (D → Prop) → Prop} {To Te : DT} {env : En} {R : D → Prop} {Rx : Er → Prop} : xM1 op To Te env R Rx = To env (asS fun a => Te env (fun y => op a y R) Rx) Rx := rfl
section
variable {X : Cx} {E : XK} {o e : Expr} {To Te : DT} {apos pos : Pos}
theorem d_join (ho : DE X E o To) (he : DE X E e Te) (hs : starEach [e] X.env = [(false, eval e X.env)] := by rfl) (hbase : attributeBase o "join" X.env (eval o X.env) = eval o X.env := by rfl) (hline : (apos.endLine == pos.line) = true := by rfl) :
    DE X E (.Call (.Attribute o "join" apos) [e] [] pos) (xM1 opJoin To Te) := by
  obtain ⟨to, p1, s1⟩ := ho
  obtain ⟨te, p2, s2⟩ := he
  refine ⟨_, pe_join p1 p2 hs hbase hline, fun c σ H S env R Rx x k t Q q => s1 c σ H S env _ Rx x k t _ fun v H1 S1 d k1 s3 r1 t1 => ?_⟩
  cases d <;> try exact (show False from t1).elim
  refine ⟨⟨_, r1⟩, s2 c σ H1 S1 env _ Rx x k1 t1 _ fun u H2 S2 d2 k2 s4 r2 t2 => ?_⟩
  cases d2 <;> try exact (show False from t2).elim
  obtain ⟨ys, e1, hz, t2⟩ := t2
  obtain ⟨a, vs, rfl, h1, _, l1⟩ := lst_of k2 r2
  rw [asStrs_eq e1] at l1
  rw [l1.strs] at h1
  exact ⟨_, a, ys, r1, rfl, .inl (SqL.of h1), hz, q _ H2 S2 (.str _) k2 (s3.trans s4) rfl t2⟩
def fStrI : DFn
  | [.int i], R => i.natAbs.log2 < 1920 ∧ R (.str (toString i))
  | _, _ => False
theorem w_fStrI {i : Int} {R : D → Prop} : fStrI [.int i] R = (i.natAbs.log2 < 1920 ∧ R (.str (toString i))) := rfl
theorem b_str : CallOk X (.type "str") fStrI := by
  refine ⟨_, call_str_int, fun c σ H S env xs vs R k r t Q q => ?_⟩
  unfold fStrI at t
  split at t <;> try exact t.elim
  obtain ⟨v, rfl, r1⟩ := rep1 r
  exact ⟨_, by rw [show v = _ from r1], t.1, q _ H S (.str _) k (Same.refl S) rfl t.2⟩
end
end DL
namespace DL
open PySem PySem.Spec L2 PyProof.Rows
variable [TbC]
section
variable {X : Cx} {E : XK} {a b e ix : Expr} {pos p1 p2 : Pos} {Ti Tv : DT}
theorem get_list : PGet X (rIxL X.K) := by
  intro pins s σ H x y v u Q I rx ry h
  obtain ⟨p, xs, i, z, rfl, rfl, hq, he, q⟩ := h
  cases rx
  obtain ⟨t, rfl⟩ := ry
  obtain ⟨its, r, pl, hz⟩ := I.list hq
  obtain ⟨j, h1, h2, h3, h4, h5⟩ := atI_get he
  obtain ⟨w, ew, rw'⟩ := r.get h2
  have hl := r.length
  have hn := line63
  have fin : EP X pins σ Q w s := ⟨z, H, I, rw', q⟩
  by_cases h0 : 0 ≤ i
  · have hj : i.toNat = j := by
      rw [seqIndex_of h0 h5] at h1
      exact Option.some.inj h1
    exact wpAny_getItem_list pl.isList h0 (by omega) (by rw [hj]; simpa using ew) fin
  · have hj : (i + (its.toArray.size : Int)).toNat = j := by
      rw [seqIndex_neg (by omega) h4] at h1
      rw [List.size_toArray, ← hl]
      exact Option.some.inj h1
    exact wpAny_getItem_list_neg pl.isList (by omega) (by rw [List.size_toArray] <;> omega) (by omega) (by rw [hj]; simpa using ew) fin
theorem atI_ixN {α : Type} {xs : List α} {k : Int} {j : Nat} (h : ixN xs.length k = some j) : atI xs k = xs[j]? := by
  unfold atI
  rw [h]
  rfl
/-- xs[k] op= e -/
def zAugO (i : Nat) (f : Int → Int → Int) (Ti Tv : DT) : DTS := fun Q env => ∃ xs, env[i]? = some (some (.own xs)) ∧ Ti env (asI fun k => ∃ j n, ixN xs.length k = some j ∧ xs[j]? = some (.int n) ∧ Tv env (asI fun m => Q.nx (putO' i (xs.set j (.int (f n m))) env)) Q.ex) Q.ex
theorem w_zAugO {i : Nat} {f : Int → Int → Int} {Q : DEnds} {env : En} : zAugO i f Ti Tv Q env = ∃ xs, env[i]? = some (some (.own xs)) ∧ Ti env (asI fun k => ∃ j n, ixN xs.length k = some j ∧ xs[j]? = some (.int n) ∧ Tv env (asI fun m => Q.nx (putO' i (xs.set j (.int (f n m))) env)) Q.ex) Q.ex := rfl
theorem s_augO (i : Nat) {x : Str} {op : Operator} {f : Int → Int → Int} (ho : PIp X op (ipI f)) (hi : DE X E ix Ti) (hv : DE X E e Tv) (hN : X.N[i]? = some x := by rfl) (hvi : Vis X.env.scope x := by first | exact Or.inl rfl | exact Or.inr (Or.inl rfl) | exact Or.inr (Or.inr rfl))
    (hd : (x == ("__debug__" : Str)) = false := by decide) (hcd : (x == ("__classdict__" : Str)) = false := by decide)
    (ha : ∀ ov iv new, augStore ix ov iv new = (do holding [new, ov, iv] (setItem ov iv new); release [new, ov, iv] []; pure .next) := by intros; rfl) :
    DS X E (.AugAssign (.Subscript (.Name x p1) ix p2) op e pos) (zAugO i f Ti Tv) := by
  obtain ⟨ti, pi1, si⟩ := hi
  obtain ⟨tv, pv1, sv⟩ := hv
  refine ⟨_, ps_augS (pv i hN hvi hd hcd) pi1 get_list pv1 ho set_list ha, fun c σ H S env Q x k t Dn m => ?_⟩
  obtain ⟨xs, exs, t⟩ := t
  obtain ⟨p, vs0, ep, _⟩ := own_of k exs
  refine ⟨_, ep, si c σ H S env _ _ x k t _ fun u H1 S1 d k1 s1 r1 t1 => ?_⟩
  cases d <;> try exact (show False from t1).elim
  rename_i kk
  obtain ⟨j, n, ej, en, t1⟩ := t1
  obtain ⟨q, vs, e1, _, _, h2, l⟩ := own_of k1 exs
  rw [ep] at e1
  cases e1
  obtain ⟨w, ew, rw'⟩ := l.get en
  have hj : ixN vs.length kk = some j := by rw [l.length]; exact ej
  refine ⟨p, vs, kk, w, rfl, r1, SqL.of h2, by rw [atI_ixN hj]; exact ew, ?_⟩
  refine sv c σ H1 S1 env _ _ x k1 t1 _ fun v2 H4 S4 d4 k4 s4 r4 t4 => ?_
  cases d4 <;> try exact (show False from t4).elim
  rename_i mm
  obtain ⟨q', vs', e1', _, _, h2', l'⟩ := own_of k4 exs
  rw [ep] at e1'
  cases e1'

  refine ⟨n, mm, rw', r4, p, vs', kk, j, rfl, r1, h2', by rw [l'.length]; exact ej, ?_⟩
  have l2 := l'.set j (d := .int (f n mm)) (v := .int (f n mm)) rfl
  exact m.1 _ _ S4 _ (k4.change exs ep l2) (s1.trans s4) t4
end
end DL
namespace DL
open PySem PySem.Spec L2
variable [TbC]
def thaw1 : Option DV → Option DV
  | some (.own xs) => some (.val (.lst xs))
  | some (.tre t _) => some (.val t.d)
  | o => o
def thaw (env : En) : En := env.map thaw1
theorem w_thaw_nil : thaw [] = [] := rfl
theorem w_thaw_cons {o : Option DV} {l : En} : thaw (o :: l) = thaw1 o :: thaw l := rfl
theorem w_thaw_own {xs : List D} : thaw1 (some (.own xs)) = some (.val (.lst xs)) := rfl
theorem w_thaw_val {d : D} : thaw1 (some (.val d)) = some (.val d) := rfl
theorem w_thaw_none : thaw1 none = none := rfl
theorem w_thaw_tre {t : T} {as : List Addr} : thaw1 (some (.tre t as)) = some (.val t.d) := rfl
theorem thaw_get {env : En} {j : Nat} {x : DV} (e : (thaw env)[j]? = some (some x)) : (∃ d, x = .val d ∧ env[j]? = some (some (.val d))) ∨ (∃ xs, x = .val (.lst xs) ∧ env[j]? = some (some (.own xs))) ∨ ∃ t as, x = .val t.d ∧ env[j]? = some (some (.tre t as)) := by
  unfold thaw at e
  rw [List.getElem?_map] at e
  cases q : env[j]? with
  | none => rw [q] at e; cases e
  | some o =>
    rw [q] at e
    cases o with
    | none => cases e
    | some y =>
      cases y with
      | val d => cases e; exact .inl ⟨d, rfl, rfl⟩
      | own xs => cases e; exact .inr (.inl ⟨xs, rfl, rfl⟩)
      | tre t as => cases e; exact .inr (.inr ⟨t, as, rfl, rfl⟩)
/-- a is the address of a thing of the frame's own -/
def OwnA (σ : St) (env : En) (a : Addr) : Prop := ∃ (j : Nat) (x : DV) (v : V), env[j]? = some (some x) ∧ σ[j]? = some (some v) ∧ Foot x v a
open Classical in
noncomputable def lendS (σ : St) (env : En) (H S : Hp) : Hp := fun a => if OwnA σ env a then H a else S a
open Classical in
noncomputable def backS (σ : St) (env : En) (S : Hp) : Hp := fun a => if OwnA σ env a then none else S a
section
variable {c : Fm} {σ : St} {H H' S S' : Hp} {env : En} {a : Addr}
theorem lend_own (o : OwnA σ env a) : lendS σ env H S a = H a := if_pos o
theorem lend_not (o : ¬ OwnA σ env a) : lendS σ env H S a = S a := if_neg o
theorem back_own (o : OwnA σ env a) : backS σ env S a = none := if_pos o
theorem back_not (o : ¬ OwnA σ env a) : backS σ env S a = S a := if_neg o
theorem ownA_at (k : Kn c σ H S env) (o : OwnA σ env a) : S a = none ∧ c.H0 a = none ∧ Mu (H a) := by
  obtain ⟨j, x, v, e, e1, f⟩ := o
  obtain ⟨u, e2, r⟩ := k.sl j _ e
  rw [e1] at e2
  cases e2
  exact r.foot a f
theorem not_own (k : Kn c σ H S env) {o : HO} (e : S a = some o) : ¬ OwnA σ env a := fun z => by
  rw [(ownA_at k z).1] at e
  cases e
theorem same_lend (k : Kn c σ H S env) : Same S (lendS σ env H S) := fun a o e => by
  rw [lend_not (not_own k e)]
  exact e
theorem Kn.lend (k : Kn c σ H S env) : Kn (c.at H (lendS σ env H S)) σ H (lendS σ env H S) (thaw env) := by
  refine ⟨⟨fun a o e => ?_, Same.refl _, fun _ _ e _ => e, fun a e _ => e, fun b e => ?_, ⟨fun p hp => ⟨(k.kf.tab.1 p hp).1, by rw [lend_not fun z => k.kf.tab.2 p hp (ownA_at k z).2.1]; exact (k.kf.tab.1 p hp).2⟩, fun p hp => k.kf.tab.1.ne hp⟩⟩, ?_, fun j x e => ?_, fun i j x y v u a _ e _ _ _ f _ => ?_⟩
  · by_cases z : OwnA σ env a
    · rw [lend_own z] at e
      exact e
    · rw [lend_not z] at e
      exact k.kf.sub a o e
  · obtain ⟨⟨b1, cs, i, g, st, n, b2, b3, b4⟩, b5⟩ := k.kf.bag b e
    have nb : ¬ OwnA σ env b := fun z => b5 (ownA_at k z).2.1
    refine ⟨⟨by rw [lend_not nb]; exact b1, cs, i, g, st, n, b2, same_lend k _ _ b3, b4⟩, ?_⟩
    show H b ≠ none
    rw [b2]
    exact fun z => nomatch z
  · unfold thaw
    rw [List.length_map]
    exact k.len
  · rcases thaw_get e with ⟨d, rfl, e2⟩ | ⟨xs, rfl, e2⟩ | ⟨t, as, rfl, e2⟩
    · obtain ⟨v, e3, r⟩ := k.sl j _ e2
      exact ⟨v, e3, rep_mono (same_lend k) d v r⟩
    · obtain ⟨v, e3, p, vs, rfl, h1, h2, h3, h4⟩ := k.sl j _ e2
      refine ⟨_, e3, ?_⟩
      show Rep c.B _ (.lst xs) (.ref p)
      rw [Rep]
      exact ⟨p, vs, rfl, by rw [lend_own ⟨j, _, _, e2, e3, rfl⟩]; exact h3, repL_mono (same_lend k) _ _ h4⟩
    · obtain ⟨v, e3, r⟩ := k.sl j _ e2
      exact ⟨v, e3, rep_tree (same_lend k) t v as (fun a m => lend_own ⟨j, _, _, e2, e3, m⟩) r.1⟩
  · rcases thaw_get e with ⟨d, rfl, _⟩ | ⟨xs, rfl, _⟩ | ⟨t, as, rfl, _⟩ <;> exact f
theorem Kf.lendX (k : Kn c σ H S env) (k' : Kf (c.at H (lendS σ env H S)) H' S') : Kf c H' S' := by
  refine ⟨k'.sub, (k.kf.s0.trans (same_lend k)).trans k'.s0, fun a o e n => k'.old a o (k.kf.old a o e n) n, fun a e n => ?_, fun b e => ⟨(k'.bag b e).1, (k.kf.bag b e).2⟩, ⟨k'.tab.1, k.kf.tab.2⟩⟩
  refine k'.new a ?_ (k.kf.back n)
  show lendS σ env H S a = none
  rw [lend_not fun z => n.1 (ownA_at k z).2.1]
  exact k.kf.new a e n
theorem XOk.lend {E : XK} {Rx : Er → Prop} (x : XOk c E Rx) (k : Kn c σ H S env) : XOk (c.at H (lendS σ env H S)) E Rx := fun er d vs H1 S1 k1 r l h n0 n1 z => x er d vs H1 S1 (Kf.lendX k k1) r l h (k.kf.h0_none n0) n1 z
theorem Kn.unlend (k : Kn c σ H S env) (k' : Kf (c.at H (lendS σ env H S)) H' S') : Kn c σ H' (backS σ env S') env ∧ Same S (backS σ env S') := by
  have ss : Same S (backS σ env S') := fun a o e => by
    rw [back_not (not_own k e)]
    exact k'.s0 _ _ (same_lend k _ _ e)
  have kx := Kf.lendX k k'
  have bs : Same (backS σ env S') S' := fun a o e => by
    by_cases z : OwnA σ env a
    · rw [back_own z] at e
      cases e
    · rw [back_not z] at e
      exact e
  refine ⟨⟨⟨fun a o e => kx.sub a o (bs a o e), k.kf.s0.trans ss, kx.old, fun a e n => ?_, fun b e => ?_, ⟨fun p hp => ⟨(kx.tab.1 p hp).1, by
    by_cases z : OwnA σ env p.1
    · exact back_own z
    · rw [back_not z]
      exact (kx.tab.1 p hp).2⟩, k.kf.tab.2⟩⟩, k.len, fun j x e => ?_, k.apart⟩, ss⟩
  · have := kx.new a e n
    by_cases z : OwnA σ env a
    · exact back_own z
    · rw [back_not z]
      exact this
  · obtain ⟨⟨b1, cs, i, g, st, n, b2, b3, b4⟩, b5⟩ := kx.bag b e
    obtain ⟨⟨_, cs0, _, _, _, _, _, b3', _⟩, _⟩ := k.kf.bag b e
    refine ⟨⟨?_, cs, i, g, st, n, b2, ?_, b4⟩, b5⟩
    · by_cases z : OwnA σ env b
      · exact back_own z
      · rw [back_not z]
        exact b1
    · rw [back_not (not_own k b3')]
      exact b3
  · obtain ⟨v, e3, r⟩ := k.sl j x e
    refine ⟨v, e3, r.keep rfl ss fun a fa => ?_⟩
    obtain ⟨f1, f2, _⟩ := r.foot a fa
    exact ⟨back_own ⟨j, x, v, e, e3, fa⟩, f2, fun o e4 => k'.old a o e4 (k.kf.x_ne0 f2)⟩
end
section
variable {X : Cx} {E : XK} {e : Expr}
def xLendT (T : DTT) : DTT := fun env R Rx => T (thaw env) R Rx
theorem w_lendT {T : DTT} {env : En} {R : Bool → Prop} {Rx : Er → Prop} : xLendT T env R Rx = T (thaw env) R Rx := rfl
def xLend (T : DT) : DT := fun env R Rx => T (thaw env) (fun d => d.flat = true ∧ R d) Rx
theorem w_lend {T : DT} {env : En} {R : D → Prop} {Rx : Er → Prop} : xLend T env R Rx = T (thaw env) (fun d => d.flat = true ∧ R d) Rx := rfl
def xLendN (T : DT) : DT := fun env R Rx => T (thaw env) R Rx
theorem w_lendN {T : DT} {env : En} {R : D → Prop} {Rx : Er → Prop} : xLendN T env R Rx = T (thaw env) R Rx := rfl
end
end DL
namespace DL
open PySem PySem.Spec L2 PyProof.Rows
variable [TbC]
def xEnumS (Tl : DTA) : DTI := fun env R Rx => Tl env (fun ds => match ds with
  | [.str s] => R (nums 0 (signs s))
  | _ => False) Rx
section
variable {X : Cx} {E : XK} {p pos : Pos} {a : Expr} {Tl : DTA}
theorem w_enumS {env : En} {R : List D → Prop} {Rx : Er → Prop} : xEnumS Tl env R Rx = Tl env (fun ds => match ds with
  | [.str s] => R (nums 0 (signs s))
  | _ => False) Rx := rfl
end
end DL
namespace DL
open PySem PySem.Spec L2
variable [TbC]
section
variable {X : Cx} {E : XK} {pos p1 : Pos} {a : Expr} {T : DTF}
def zParN (i j l : Nat) (T : DTF) : DTS := fun Q env => T env (fun ds => ∃ d, env[l]? = some (some (.val d)) ∧ Q.nx (put j d (putO' i ds env))) Q.ex
theorem w_zParN {i j l : Nat} {Q : DEnds} {env : En} : zParN i j l T Q env = T env (fun ds => ∃ d, env[l]? = some (some (.val d)) ∧ Q.nx (put j d (putO' i ds env))) Q.ex := rfl
end
end DL
namespace EXS
open PySem PySem.Spec L2 PyProof.Rows
section
open PySem.W
variable {prog : Program} {w : World} {A : Around} {E : Value → Shared → Prop} {h : Heap} {g : Array GenState} {d : Drawn} {t : Nat} {os : OsState}
variable {nm q : Str} {C N : Addr} {bs bm : List Value} {hdct : Bool} {sn : List Str} {sub : List Value} {ab : Bool} {col : Option Bool} {dd : Option Addr} {k0 k1 k2 k3 k5 : Option Value} {newId : String}
theorem call_mw {B i : String} {bmB : List Value} (F : ExcBaseFacts B newId i bmB) {u e t0 : Addr} {rest : List Value} {Q : Value → Shared → Prop}
    (hC : h.get? C = some (excClassObj nm q C N bs bm hdct sn sub ab col dd k0 k1 k2 k3 k5 newId)) (he : h.get? e = some (PySem.HandSPX.excO C t0)) (hu : h.get? u = some (PySem.W.kxs_mw i e)) (hrest : rest.length ≤ sizeLine)
    (hq : ∀ h' t1, (∀ b o, b ≠ e → h.get? b = some o → h'.get? b = some o) → h'.get? e = some (PySem.HandSPX.excO C t1) → Q .none ⟨h', g, d, t, os⟩) :
    wpAny (model prog w) A (call (.ref u) rest) Q E ⟨h, g, d, t, os⟩ := by
  refine wpAny_call (codeAny_of_tree ?_)
  show wpAny _ A.in1 (callAny (.ref u) ⟨rest, []⟩) _ _ _
  simp only [callAny]
  refine wpAny_bind (wpAny_load hu ?_)
  simp only [PySem.W.kxs_mw, show (Value.type "method-wrapper" == Value.type "method" || Value.type "method-wrapper" == Value.type "builtin_function_or_method" || Value.type "method-wrapper" == Value.type "method-wrapper") = true by decide, if_true]
  refine PySem.W.KFB.if_so (by decide) ?_
  refine wpAny_bind (PySem.W.check_bound_init F.toExcCallFacts hC he rfl ?_)
  refine wpAny_bind (wpAny_pure (wpAny_pure ?_))
  refine ⟨by first | exact plainId_quiet F.init.plain _ | exact PySem.plainId_quiet F.init.plain _ | exact PySem.Calls.plainId_quiet F.init.plain _, codeAny_builtin F.initEntry ?_⟩
  rw [Around.under_plainId F.init.plain _]
  wp_walk
  refine hq _ h.objs.size (fun b o hb ho => ?_) ?_
  · rw [Heap.get?_update_other _ _ (Ne.symm hb)]
    exact Heap.get?_push_of_some _ ho
  · rw [Heap.get?_update_self _ (Heap.get?_push_of_some _ he) rfl]
    rfl
end
/-- the context of its body -/
def cxC (CX : CXT) (P : Program) (w : World) (K : PySem.W.Frag) (mg : Str → Option Value) (base : Heap) (N : List Str) (qual : Str) (scope : Scope) (f cc : Addr) (cd : Value) (A : Around) (outer : List Env) (s : Shared) (H : Hp) (E : XK) : Cx where
  prog := P
  w := w
  K := K
  mg := mg
  base := base
  A := A.deeper (PySem.W.ksEnv qual scope s.heap.objs.size f cd cc)
  N := N
  s_0 := s
  H_0 := H
  env := PySem.W.ksEnv qual scope s.heap.objs.size f cd cc
  outer := outer
  stack := PySem.W.ksEnv qual scope s.heap.objs.size f cd cc :: outer
  ex := []
  calm := true
  fn := fun x => !decide (x = "__class__")
  pn := []
  xe := fun e s' => wpAny (model P w) (A.deeper (PySem.W.ksEnv qual scope s.heap.objs.size f cd cc)) (leaving (PySem.W.ksEnv qual scope s.heap.objs.size f cd cc) e) (fun _ s'' => CX outer H s E e s'') (fun e' s'' => CX outer H s E e' s'') s'
/-- its names: parameters local, no cell of its own, of outer names only __class__ -/
structure SScope (N P : List Str) (sc : Scope) : Prop where
  kind : sc.kind = .function
  co : sc.isCoroutine = false
  gen : sc.isGenerator = false
  nd : N.Nodup
  pre : N.take P.length = P
  par : ∀ x ∈ P, sc.names.lookup x = some .local
  nocell : ∀ y ∈ sc.names, y.2 ≠ .cell
  free : ∀ y ∈ sc.names, y.2 = .free → y.1 = "__class__"
  sup : sc.names.lookup ("super" : Str) = some .globalImplicit
  cls : sc.names.lookup ("__class__" : Str) = some .free
theorem lookup_rev : ∀ {ps : List Str} {us : List Value} {i : Nat} {y : Str} {u : Value}, ps.Nodup → ps[i]? = some y → us[i]? = some u → (ps.zip us).reverse.lookup y = some u
  | [], _, _, _, _, _, h, _ => by simp at h
  | p :: ps, [], i, _, _, _, _, h => by simp at h
  | p :: ps, u0 :: us, 0, y, u, nd, h1, h2 => by
    simp at h1 h2
    subst h1
    subst h2
    rw [List.zip_cons_cons, List.reverse_cons, List.lookup_append]
    have hn : (ps.zip us).reverse.lookup p = none := by
      rw [List.lookup_eq_none_iff]
      intro q hq
      have hq2 := (List.of_mem_zip (List.mem_reverse.mp hq)).1
      have : p ∉ ps := (List.nodup_cons.mp nd).1
      simp
      exact fun z => this (z ▸ hq2)
    rw [hn]
    simp
  | p :: ps, u0 :: us, i + 1, y, u, nd, h1, h2 => by
    rw [List.zip_cons_cons, List.reverse_cons, List.lookup_append, lookup_rev (List.nodup_cons.mp nd).2 (by simpa using h1) (by simpa using h2)]
    rfl
theorem cell_of {K : PySem.W.Frag} {cc Cd : Addr} {h : Heap} (X : K.In h) (e : ∃ cl cld csl, K.lookup cc = some ⟨cl, cld, .cell (some (.ref Cd)), csl⟩) : h.IsCell cc (some (.ref Cd)) := by
  obtain ⟨cl, cld, csl, e⟩ := e
  exact ⟨_, X _ _ e, rfl⟩
theorem inv_startC {CX : CXT} {P : Program} {w : World} {K : PySem.W.Frag} {mg : Str → Option Value} {base : Heap} {N ps : List Str} {qual : Str} {scope : Scope} {f cc Cd : Addr} {cd : Value} {A : Around} {outer : List Env} {s : Shared} {h₁ : Heap} {tk : Nat} {H : Hp} {E : XK} {us : List Value} {vs : List V}
    (S : SScope N ps scope) (hd : A.handled = none) (e0 : Env0 P w K mg base A outer s H) (hl : vs.length = ps.length) (r : Vals vs us) (hcc : ∃ cl cld csl, K.lookup cc = some ⟨cl, cld, .cell (some (.ref Cd)), csl⟩)
    (hns : h₁.Ns s.heap.objs.size fun y => (ps.zip us).reverse.lookup y) (kp : ∀ b o, s.heap.get? b = some o → h₁.get? b = some o) :
    Inv (cxC CX P w K mg base N qual scope f cc cd A outer s H E) [] (L2.start N vs) H { s with heap := h₁, toks := tk } := by
  have hpl : ps.length ≤ N.length := by have := congrArg List.length S.pre; rw [List.length_take] at this; omega
  have noA : ∀ b : Addr, b ∉ (cxC CX P w K mg base N qual scope f cc cd A outer s H E).ex := fun b z => absurd (show b ∈ ([] : List Addr) from z) (by simp)
  have look : ∀ {y c}, ([(("__class__" : Str), cc)] : List (Str × Addr)).lookup y = some c → y = "__class__" ∧ c = cc := fun {y c} e => by
    simp only [List.lookup] at e
    split at e
    · rename_i q
      cases e
      exact ⟨by simpa using q, rfl⟩
    · cases e
  have X : K.In s.heap := e0.mod.kin.keeps fun b o e => (e0.bs b o e).1
  have Xb : K.In base := e0.mod.kin
  have hcn : H cc = none := by
    obtain ⟨cl, cld, csl, e⟩ := hcc
    exact (e0.bs cc _ (Xb _ _ e)).2
  refine ⟨⟨e0.mod, S.kind, rfl, rfl, Nat.le_refl _, fun y z c h1 h2 => ?_, fun y hy => ?_, fun y c z h => ?_, fun _ => hd, Around.frames_deeper e0.frames, .inr ⟨rfl, rfl⟩, fun b z => absurd z (noA b), e0.bs, e0.bsz, fun b _ _ => noA b, fun b z => absurd z (noA b), e0.funs, e0.frf⟩,
    rfl, e0.bare, Un.kept kp, ⟨_, hns, fun i y v h1 h2 h3 => ?_⟩, fun y c h => ?_, e0.hok.fresh (Nat.le_refl _), fun y c h => ?_, fun p hp => absurd (show p ∈ ([] : List (Addr × Obj)) from hp) (by simp), e0.hok.kept kp, ?_⟩
  · exact (look h1).1.trans (look h2).1.symm
  · have hy : scope.names.lookup y = some .cell ∨ scope.names.lookup y = some .free := hy
    rcases hy with hy | hy
    · exact absurd rfl (S.nocell _ (PySem.mem_of_lookup hy))
    · have e := S.free _ (PySem.mem_of_lookup hy) rfl
      have e : y = "__class__" := e
      subst e
      exact ⟨cc, rfl⟩
  · have e := (look h).1
    subst e
    exact nomatch (show (!decide (("__class__" : Str) = "__class__")) = true from z)
  · have hi : i < vs.length := by
      unfold L2.start at h2
      by_cases hi : i < vs.length
      · exact hi
      · rw [List.getElem?_append_right (by simpa using hi)] at h2
        rw [List.getElem?_replicate] at h2
        split at h2 <;> cases h2
    have ha : vs[i]? = some v := by
      unfold L2.start at h2
      rw [List.getElem?_append_left (by simpa using hi), List.getElem?_map] at h2
      cases e : vs[i]? with
      | none => rw [e] at h2; cases h2
      | some a => rw [e] at h2; cases h2; rfl
    obtain ⟨u, hu, rv⟩ := r.get ha
    have hp : ps[i]? = some y := by
      rw [← S.pre, List.getElem?_take_of_lt (by omega)]; exact h1
    have ndP : ps.Nodup := by rw [← S.pre]; exact S.nd.sublist (List.take_sublist _ _)
    exact ⟨u, rv, .inl ⟨S.par y (List.mem_of_getElem? hp), lookup_rev ndP hp hu⟩⟩
  · obtain ⟨e1, e2⟩ := look h
    subst e2
    obtain ⟨o, ho, hdd⟩ := cell_of X hcc
    exact ⟨_, _, kp _ _ ho, hdd⟩
  · obtain ⟨e1, e2⟩ := look h
    rw [e2]
    exact hcn
  · unfold L2.start
    show _ = N.length
    rw [List.length_append, List.length_map, List.length_replicate]
    omega
end EXS
namespace EXS
open PySem PySem.Spec L2 PyProof.Rows
section
variable {X : Cx} {pins : List (Addr × Obj)} {σ : List (Option V)} {H : Hp} {s : Shared}
theorem at_super {body : List Stmt} {qual : Str} {scope : Scope} {L f cc cda D x C : Addr} {p0 p1 : Pos} {attr : Str} {whole : Sem Value} {fd : FuncData} {ar : Arg} {vs : Array Value} {file : Str} {tf : Tok} {oc ccl cl : Value} {od cdd cld : Option Addr} {osl ccs csl : Array (Option Value)} {cdD : ClassData} {ox : Obj} {Q : Value → Shared → Prop} {E : Value → Shared → Prop}
    (I : Inv X pins σ H s) (heq : X.env = PySem.W.ksEnv qual scope L f (.ref cda) cc)
    (hf : X.K.lookup f = some ⟨oc, od, .func fd, osl⟩) (hp : (fd.params.posonlyargs ++ fd.params.args).head? = some ar)
    (hcode : X.K.lookup cda = some ⟨ccl, cdd, .fields vs, ccs⟩) (hvs : vs[2]? = some (.str file tf)) (hfile : ((X.prog.main.file : Str) == file) = true)
    (hcell : X.K.lookup cc = some ⟨cl, cld, .cell (some (.ref D)), csl⟩) (hD : PySem.W.clsIn X.K D = some cdD) (hsub : PySem.W.mroIn X.K C (.ref D) = some true) (hsuper : X.mg "super" = none)
    (hat : (attr == ("__class__" : Str)) = false) (hks : scope.names.lookup ("super" : Str) = some .globalImplicit) (hkc : scope.names.lookup ("__class__" : Str) = some .free) (hka : scope.names.lookup ar.arg = some .local)
    (htop : (X.prog.main.scope.names.lookup ("super" : Str)).isSome = false)
    (hv : ∃ i : Nat, X.N[i]? = some ar.arg ∧ σ[i]? = some (some (V.ref x))) (hx : s.heap.get? x = some ox) (hxc : ox.cls = .ref C) (hnc : ∀ c, ox.data ≠ .cls c)
    (h : ∀ h', h'.get? s.heap.objs.size = some (PySem.W.ks_superObj D x C) → (∀ b o, s.heap.get? b = some o → h'.get? b = some o) → Q (.ref s.heap.objs.size) { s with heap := h' }) :
    PySem.wpAt (model X.prog X.w) X.A (.func body X.env) (attributeBase (.Call (.Name "super" p0) [] [] p1) attr X.env whole) Q E s := by
  have XK : X.K.In s.heap := I.kIn
  have hk : X.env.scope.kind = .function := I.ok.kind
  have hk2 : scope.kind = .function := by rw [heq] at hk; exact hk
  obtain ⟨m, hns, hlk⟩ := I.loc
  obtain ⟨i, hN, hσ⟩ := hv
  have hval : m ar.arg = some (.ref x) := by
    obtain ⟨u, ru, lu⟩ := hlk i _ _ hN hσ (.inl (by rw [heq]; exact hka))
    obtain rfl : u = Value.ref x := ru
    rcases lu with ⟨_, e⟩ | ⟨e, _⟩
    · exact e
    · rw [heq] at e
      have e : scope.names.lookup ar.arg = some .cell ∨ scope.names.lookup ar.arg = some .free := e
      rw [hka] at e
      rcases e with e | e <;> cases e
  obtain ⟨mb, hb1, hb2⟩ := I.mod.blt
  obtain ⟨oD, hD1, hD2⟩ : ∃ oD, s.heap.get? D = some oD ∧ oD.data = .cls cdD := by
    unfold PySem.W.clsIn at hD
    split at hD
    · rename_i c d cd' sl ho
      cases hD
      exact ⟨_, XK _ _ ho, rfl⟩
    · cases hD
  have hglob := I.ok.glob
  have hblt := I.ok.blt
  have g1 : s.heap.Ns X.env.globals X.mg := by rw [hglob]; exact I.mod.glob.keeps I.bk
  have g2 : s.heap.Ns X.env.builtins mb := by rw [hblt]; exact hb1.keeps I.bk
  rw [heq] at hns g1 g2 ⊢
  obtain ⟨hh, g, d, t, os⟩ := s
  refine PySem.ks_wpAt_super_base (env := PySem.W.ksEnv qual scope L f (.ref cda) cc) hks hkc hat rfl (XK _ _ hf) rfl hp rfl (XK _ _ hcode) rfl hvs hfile htop ?_
  refine PySem.W.ks_loadName_global hk2 hks (PySem.Calls.loadGlobal_builtin g1 hsuper g2 ((hb2 _ (by decide)).trans (show bootBuiltins "super" = some (.type "super") by first | boot_by_name | rfl | kernel_rfl)) ⟨rfl, ?_⟩)
  refine PySem.wpAny_loadName_free hk2 hkc rfl ⟨_, XK _ _ hcell, rfl⟩ ?_
  refine PySem.wpAny_loadName_local hk2 hka hns hval ?_
  refine PySem.ks_wpAny_isType_cls hD1 hD2 ⟨rfl, ?_⟩
  exact PySem.ks_wpAny_call_super hD1 hD2 hx hxc hnc (PySem.W.looks_mroIn XK hsub) (fun h' e k => h h' e k)
end
end EXS
namespace EXS
open PySem PySem.Spec L2 PyProof.Rows
structure SupFn (K : PySem.W.Frag) (fl : Str) (name qual : Str) (params : Arguments) (body : List Stmt) (scope : Scope) (D : Addr) (f cc cda : Addr) (fd : FuncData) : Prop where
  ex : ∃ (oc ccl cl dV kV doc pm ct : Value) (an od cdd cld : Option Addr) (osl ccs csl : Array (Option Value)) (vs : Array Value) (file : Str) (tf : Tok) (cdD : ClassData),
    fd = PySem.W.ksFn name qual params body scope dV kV doc pm an (.ref cda) ct cc ∧ K.lookup f = some ⟨oc, od, .func fd, osl⟩ ∧ PySem.W.codeIn K (.ref cda) qual = true ∧
    K.lookup cda = some ⟨ccl, cdd, .fields vs, ccs⟩ ∧ vs[2]? = some (.str file tf) ∧ (fl == file) = true ∧ K.lookup cc = some ⟨cl, cld, .cell (some (.ref D)), csl⟩ ∧ PySem.W.clsIn K D = some cdD ∧ dV = .none
  keep : PySem.W.keepIn K (.ref f) = true
/-- what it says of the class D whose __init__ this is: an exception over ValueError -/
structure ExcD (K : PySem.W.Frag) (D : Addr) : Prop where
  ox : OexC K D
  st : PySem.W.nsIn K PySem.cStatics "thirdparty.any" = some none
  su : PySem.W.ks_superIn K D D "__init__" = some (some (.builtin "ValueError.__init__"))
  mr : PySem.W.mroIn K D (.ref D) = some true
  ve : PySem.W.subIn K (.ref D) (.type "ValueError") = some true
section
variable {CX : CXT} {P : Program} {w : World} {K : PySem.W.Frag} {mg : Str → Option Value} {base : Heap} {k : Nat} {name qual : Str} {params : Arguments} {rest : List Stmt} {scope : Scope} {D f cc cda : Addr} {fd : FuncData} {N ps : List Str} {sp : Sp} {e : Expr} {es : List Expr} {p0 p1 p2 p3 p4 : Pos} {x0 : Str} {ar : Arg}
theorem fn_exc (F : SupFn K P.main.file name qual params (.Expr (.Call (.Attribute (.Call (.Name "super" p0) [] [] p1) "__init__" p2) (e :: es) [] p3) p4 :: rest) scope D f cc cda fd) (G : ExcD K D) (S : SScope N ps scope)
    (hsup : mg "super" = none) (htop : (P.main.scope.names.lookup ("super" : Str)).isSome = false) (hps : ps.head? = some x0) (hN : N[0]? = some x0) (hp : (params.posonlyargs ++ params.args).head? = some ar) (hx0 : ar.arg = x0)
    (len : ∀ vs H Q E, sp vs H Q E → vs.length = ps.length)
    (hobj : ∀ vs H Q E, sp vs H Q E → ∃ a ws, vs = .ref a :: ws ∧ H a = some (exo a D none))
    (hbody : ∀ (A : Around) (outer : List Env) (s : Shared) (H : Hp) (vs : List V) (Q : VK) (E : XK) (a : Addr) (ws : List V), Room k (A.deeper (PySem.W.ksEnv qual scope s.heap.objs.size f (.ref cda) cc)) → sp vs H Q E → vs = .ref a :: ws →
      ∃ ta t, PA (cxC CX P w K mg base N qual scope f cc (.ref cda) A outer s H E) (e :: es) ta ∧ PSs (cxC CX P w K mg base N qual scope f cc (.ref cda) A outer s H E) rest t ∧
        ta (L2.start N vs) H fun us H1 => us.length ≤ 1000 ∧ H1 a = some (exo a D none) ∧ t { nx := fun _ H' => Q .non H', rt := Q } (L2.start N vs) H1)
    (he : ∀ env, starEach (e :: es) env = (false, eval e env) :: starEach es env) (hpl : ∀ env, (backTo p3 (starEach es env)).any (·.1) = false) {pl : Env → Sem Bool}
    (hcl : ∀ env, eval (.Call (.Attribute (.Call (.Name "super" p0) [] [] p1) "__init__" p2) (e :: es) [] p3) env = (do
      let ov ← attributeBase (.Call (.Name "super" p0) [] [] p1) "__init__" env (eval (.Call (.Name "super" p0) [] [] p1) env)
      standAt p2.atName
      let (f, first) ← holding [ov] (getMethod ov "__init__" (pl env))
      callWith p3 f first (backTo p3 (starEach (e :: es) env)) [])) :
    FnOk P w K mg base CX (k + 1) f fd ps sp := by
  refine ⟨len, fun A outer s H args us vs Q E hr e0 hb r hsp => ?_⟩
  obtain ⟨oc, ccl, cl, dV, kV, doc, pm, ct, an, od, cdd, cld, osl, ccs, csl, vs2, file, tf, cdD, hfd, lk, hcd, lcd, hvs, hfile, lcc, hcD, _⟩ := F.ex
  have hl := len _ _ _ _ hsp
  have KX : K.In s.heap := e0.mod.kin.keeps fun b o e => (e0.bs b o e).1
  have lim : s.heap.NoLimit := e0.mod.nolimit.keeps fun b o e => (e0.bs b o e).1
  obtain ⟨a, ws, hvs0, hHa⟩ := hobj _ _ _ _ hsp
  subst hfd
  refine PySem.ks_codeAny_call_defAt (fd := PySem.W.ksFn name qual params _ scope dV kV doc pm an (.ref cda) ct cc) hr.depth (KX _ _ lk) rfl lim (PySem.W.codeRec_of KX hcd) rfl hb S.nocell (fun x hx => S.par x.1 (List.of_mem_zip hx).1) (fun h1 hns kp => ?_) S.co S.gen S.kind
  show PySem.wpAt (model P w) (A.deeper (PySem.W.ksEnv qual scope s.heap.objs.size f (.ref cda) cc)) _ _ _ _ _
  obtain ⟨ta, t, hPA, hPSs, hq⟩ := hbody A outer s H vs Q E a ws (hr.deeper _) hsp hvs0
  generalize hX : cxC CX P w K mg base N qual scope f cc (.ref cda) A outer s H E = X at hPA hPSs
  have I : Inv X [] (L2.start N vs) H { s with heap := h1, toks := s.toks + (ps.zip us).length } := by
    rw [← hX]
    exact inv_startC S hr.hd e0 hl r ⟨_, _, _, lcc⟩ hns kp
  have hXp : X.prog = P := by rw [← hX]; rfl
  have hXw : X.w = w := by rw [← hX]; rfl
  have hXK : X.K = K := by rw [← hX]; rfl
  have hXmg : X.mg = mg := by rw [← hX]; rfl
  have hXA : X.A = A.deeper (PySem.W.ksEnv qual scope s.heap.objs.size f (.ref cda) cc) := by rw [← hX]; rfl
  have hXe : X.env = PySem.W.ksEnv qual scope s.heap.objs.size f (.ref cda) cc := by rw [← hX]; rfl
  have hXN : X.N = N := by rw [← hX]; rfl
  have hXxe : X.xe = fun e s' => wpAny (model P w) (A.deeper (PySem.W.ksEnv qual scope s.heap.objs.size f (.ref cda) cc)) (leaving (PySem.W.ksEnv qual scope s.heap.objs.size f (.ref cda) cc) e) (fun _ s'' => CX outer H s E e s'') (fun e' s'' => CX outer H s E e' s'') s' := by rw [← hX]; rfl
  have oX : OexC X.K D := by rw [hXK]; exact G.ox
  have fin : ∀ {σ' : L2.St} {H' : Hp} {v : V} {u : Value} {s' : Shared}, Inv X [] σ' H' s' → RelV v u → Q v H' → CE outer P w H s Q u s' := by
    intro σ' H' v u s' J rv q
    subst hX
    exact ⟨v, H', J.os, J.bare, J.base, J.hok, rv, q⟩
  have go : PySem.wpAt (model X.prog X.w) X.A (.func (.Expr (.Call (.Attribute (.Call (.Name "super" p0) [] [] p1) "__init__" p2) (e :: es) [] p3) p4 :: rest) X.env) (execs (.Expr (.Call (.Attribute (.Call (.Name "super" p0) [] [] p1) "__init__" p2) (e :: es) [] p3) p4 :: rest) X.env)
      (SP X [] { nx := fun _ H' => Q .non H', rt := Q }) X.xe { s with heap := h1, toks := s.toks + (ps.zip us).length } := by
    have hint : interactive X.env = false := I.quiet
    refine PySem.ks_wpAt_execs_cons (PySem.ks_wpAt_Expr_any (PySem.ks_wpAt_MethodCall (pl := pl X.env) ?_ (hcl X.env)) hint)
    obtain ⟨t1, hex⟩ := exo_at I.hok hHa
    have hps0 : (0 : Nat) < ps.length := by cases ps with | nil => cases hps | cons _ _ => exact Nat.zero_lt_succ _
    have hxin : x0 ∈ ps := by cases ps with | nil => cases hps | cons z _ => cases (Option.some.inj hps); exact List.mem_cons_self
    refine at_super (D := D) (x := a) (C := D) I hXe (by rw [hXK]; exact lk) hp (by rw [hXK]; exact lcd) hvs (by rw [hXp]; exact hfile) (by rw [hXK]; exact lcc) (by rw [hXK]; exact hcD) (by rw [hXK]; exact G.mr) (by rw [hXmg]; exact hsup) (by decide) S.sup S.cls (by rw [hx0]; exact S.par x0 hxin) (by rw [hXp]; exact htop)
      ⟨0, by rw [hXN, hx0]; cases N with | nil => cases hN | cons z _ => exact hN, by rw [hvs0]; rfl⟩ hex rfl (fun c z => by cases z) (fun h2 so k2 => ?_)
    -- the wrapper
    have I2 : Inv X [] (L2.start N vs) H { s with heap := h2, toks := s.toks + (ps.zip us).length } := I.kept (t' := s.toks + (ps.zip us).length) k2
    have XK2 : X.K.In h2 := I2.kIn
    have hexo := k2 _ _ hex
    have hsu : PySem.W.ks_superIn X.K D D "__init__" = some (some (.builtin "ValueError.__init__")) := by rw [hXK]; exact G.su
    cases hc : PySem.W.clsIn X.K D with
    | none => unfold PySem.W.ks_superIn at hsu; rw [hc] at hsu; cases hsu
    | some cd =>
    unfold PySem.W.ks_superIn at hsu
    rw [hc] at hsu
    have hse : ∀ (u : Addr) (o : Obj), h2.get? u = some o → u ≠ h2.objs.size := fun u o z => Nat.ne_of_lt (Heap.lt_size z)
    have haD : a ≠ D := by
      intro z
      unfold PySem.W.clsIn at hc
      split at hc
      · rename_i c d cd' sl ho
        have q := XK2 _ _ ho
        rw [← z, hexo] at q
        cases q
      · cases hc
    have hty : PySem.W.Looks (model X.prog X.w) h2 (isInstance (.ref a) (.type "ValueError")) true := by
      have II : PySem.W.InstAt h2 a _ D none := ⟨hexo, rfl, rfl, trivial⟩
      exact II.type.andThen (PySem.W.looks_subIn XK2 (by rw [hXK]; exact G.ve))
    refine PySem.W.kxs_getMethod PySem.W.kxs_ValueError (l₀ := cd.mro) so (PySem.W.looks_opaque XK2 (by rw [hXK]; exact G.st)) ?_ rfl XK2 hsu hty haD (by decide) ?_
    · exact fun A Q E s k q => wpAny_bind ((PySem.W.looks_clsIn XK2 hc) A _ E s k (wpAny_pure q))
    have hmw : (h2.push (PySem.W.kxs_mw "ValueError.__init__" a)).get? h2.objs.size = some (PySem.W.kxs_mw "ValueError.__init__" a) := Heap.get?_push_at rfl rfl
    have I3 : Inv X [] (L2.start N vs) H { s with heap := h2.push (PySem.W.kxs_mw "ValueError.__init__" a), toks := s.toks + (ps.zip us).length + 1 } := I2.kept (t' := s.toks + (ps.zip us).length + 1) (fun b u z => Heap.get?_push_of_some _ z)
    have hHn : H h2.objs.size = none := I2.hok.fresh (Nat.le_refl _)
    have I4 : Inv X [(h2.objs.size, PySem.W.kxs_mw "ValueError.__init__" a)] (L2.start N vs) H { s with heap := h2.push (PySem.W.kxs_mw "ValueError.__init__" a), toks := s.toks + (ps.zip us).length + 1 } := by
      refine I3.pins_of fun p hp => ?_
      cases hp with
      | tail _ z => cases z
      | head =>
      refine ⟨hmw, hHn, fun z => ?_, I2.nofs (Nat.le_refl _), fun v z => by cases z⟩
      have := I2.lt
      rw [← z] at this
      exact absurd this (Nat.lt_irrefl _)
    rw [he X.env]
    refine PySem.W.kxs_callWith (i := "ValueError.__init__") (x := a) (by show (false || (backTo p3 (starEach es X.env)).any (·.1)) = false; rw [hpl]; rfl) (PySem.Calls.evalArgs_plain ?_)
    have h5 := hPA.run p3 _ _ _ H _ I4 hq
    rw [he X.env] at h5
    refine thn h5 fun us2 s5 ⟨vs5, H5, I5, r5, hz5, ea5, q5⟩ => ?_
    have hmw5 : s5.heap.get? h2.objs.size = some (PySem.W.kxs_mw "ValueError.__init__" a) := (I5.pin _ (List.mem_append_right _ List.mem_cons_self)).1
    refine ⟨hmw5, ?_⟩
    obtain ⟨nm, qq, N1, bs, bm, sn, sub, ab, col, dd, k0, k1, k22, k3, k5, hC, hbm⟩ := oX.cls
    obtain ⟨t5, hex5⟩ := exo_at I5.hok ea5
    obtain ⟨hp5, g5, d5, tk5, os5⟩ := s5
    have hlen : us2.length ≤ sizeLine := by
      rw [← Paired.length r5, sizeLine_eq]
      omega
    refine call_mw PySem.F.excBase_ValueError (I5.kIn _ _ hC) hex5 hmw5 hlen fun h6 t6 k6 hx6 => ?_
    have J := I5.write (t' := tk5) (x := a) (e := a) (o := exo a D none) (by rw [ea5]; exact True.intro) (.inl rfl) k6 ⟨_, hx6⟩ (exo_ok hx6)
    have eu : upd H5 a (exo a D none) = H5 := by
      funext b
      by_cases hb : b = a
      · rw [hb, upd_same, ea5]
      · rw [upd_ne hb]
    rw [eu] at J
    exact wpAt_of_wpAny (hPSs.run [] _ _ H5 _ (J.pins_of fun p hp => by cases hp) q5)
  rw [hXp, hXw, hXA, hXxe, hXe] at go
  refine PySem.ks_wpAt_mono go (fun fl s' hs => ?_) fun e s' z => z
  cases fl with
  | ret u =>
    obtain ⟨v, σ', H', J, rv, q⟩ := hs
    exact fin J rv q
  | next =>
    obtain ⟨σ', H', J, q⟩ := hs
    exact fin (v := V.non) (u := Value.none) J rfl q
  | brk =>
    obtain ⟨_, _, _, q⟩ := hs
    exact False.elim q
  | cont =>
    obtain ⟨_, _, _, q⟩ := hs
    exact False.elim q
end
end EXS
namespace L2
open PySem PySem.Spec PyProof.Rows
theorem _root_.PySem.HandSPX.FlyingZ.keeps {base h h' : Heap} {l : List Env} {e : Addr} {Z : Obj → Prop} (f : HandSPX.FlyingZ base l e Z h) (k : ∀ b o, h.get? b = some o → h'.get? b = some o) : HandSPX.FlyingZ base l e Z h' := by
  obtain ⟨f1, f2, f3, oe, vs, T, oT, ts, e1, e2, e3, e4, e5, e6, e7, e8, e9⟩ := f
  exact ⟨fun b o z => k b o (f1 b o z), f2, Heap.FunFrames.of_keeps (fun b o z _ => ⟨o, k b o z, rfl⟩) f3, oe, vs, T, oT, ts, k _ _ e1, e2, e3, e4, e5, e6, k _ _ e7, e8, e9⟩
end L2
namespace DL
open PySem PySem.Spec L2
variable [TbC]
/-- what a field is set to: a text, a parameter (behind self) -/
inductive Src where
  | str (s : Str) | par (i : Nat)
def Src.v (ws : List V) : Src → V
  | .str s => .str s
  | .par i => ws[i]?.getD .non
def Src.d (ds : List D) : Src → D
  | .str s => .str s
  | .par i => ds[i]?.getD .non
def Src.t : Src → TE
  | .str s => tC (.str s)
  | .par i => tVar (i + 1)
def Src.fits (n : Nat) : Src → Bool
  | .str _ => true
  | .par i => decide (i < n)
abbrev FL := List (Str × Src)
def fsV (l : FL) (ws : List V) : List (Str × V) := (l.map fun p => (p.1, p.2.v ws)).reverse
def fsK (l : FL) : List Str := (l.map (·.1)).reverse
def fsD (l : FL) (ds : List D) : List D := (l.map fun p => p.2.d ds).reverse
def fsW (l : FL) (ws : List V) : List V := (l.map fun p => p.2.v ws).reverse
theorem zip_map2 {α β γ : Type} (f : α → β) (g : α → γ) : ∀ l : List α, (l.map f).zip (l.map g) = l.map fun a => (f a, g a)
  | [] => rfl
  | a :: l => by rw [List.map_cons, List.map_cons, List.zip_cons_cons, zip_map2 f g l, List.map_cons]
theorem fs_zip (l : FL) (ws : List V) : (fsK l).zip (fsW l ws) = fsV l ws := by
  unfold fsK fsW fsV
  rw [← List.map_reverse, ← List.map_reverse, ← List.map_reverse, zip_map2]
theorem fs_rep {B : Option Addr} {S : Hp} {ds : List D} {ws : List V} {n : Nat} (r : RepL B S ds ws) (hn : ds.length = n) : ∀ (l : FL), l.all (fun p => p.2.fits n) = true → RepL B S (l.map fun p => p.2.d ds) (l.map fun p => p.2.v ws)
  | [], _ => repL_nil
  | (f, s) :: l, h => by
    rw [List.all_cons, Bool.and_eq_true] at h
    refine repL_cons ?_ (fs_rep r hn l h.2)
    cases s with
    | str s => exact rfl
    | par i =>
      have hi : i < ds.length := by rw [hn]; exact of_decide_eq_true h.1
      obtain ⟨v, e, q⟩ := r.get (i := i) (d := ds[i]) (by simp [hi])
      show Rep B S (ds[i]?.getD .non) (ws[i]?.getD .non)
      rw [e, List.getElem?_eq_getElem hi]
      exact q
def tCh (K : PySem.W.Frag) : FL → TS
  | [] => tNext
  | p :: l => tSeq (tOst K p.1 (tVar 0) p.2.t) (tCh K l)
section
variable {K : PySem.W.Frag} {C a dx : Addr} {σ : St} {H : Hp} {ws : List V} {n : Nat} {fs : List (Str × V)} {D0 : Ends}
theorem src_run {s : Src} {Q : VK} (h0 : ∀ i, i < n → σ[i + 1]? = some (some (ws[i]?.getD .non))) (hs : s.fits n = true) (q : Q (s.v ws) H) : s.t σ H Q := by
  cases s with
  | str s => exact q
  | par i => exact ⟨_, h0 i (of_decide_eq_true hs), q⟩
theorem chain_go (ox : OexC K C) (e0 : σ[0]? = some (some (.ref a))) (h0 : ∀ i, i < n → σ[i + 1]? = some (some (ws[i]?.getD .non))) : ∀ (l : FL) (fs : List (Str × V)) (H : Hp), (∀ p ∈ l, PySem.W.findIn K (.ref C) p.1 = some none) → l.all (fun p => p.2.fits n) = true → fs.length + l.length ≤ 900 →
    H a = some (exo a C (some dx)) → H dx = some (exd dx fs) → dx ≠ a → D0.nx σ (upd H dx (exd dx (fsV l ws ++ fs))) → tCh K l D0 σ H
  | [], fs, H, _, _, _, ea, ed, ne, q => by
    show D0.nx σ H
    have : upd H dx (exd dx (fsV [] ws ++ fs)) = H := by
      funext b
      by_cases z : b = dx
      · subst z
        rw [upd_same, ed]
        rfl
      · rw [upd_ne z]
    rw [this] at q
    exact q
  | p :: l, fs, H, na, hf, hl, ea, ed, ne, q => by
    rw [List.all_cons, Bool.and_eq_true] at hf
    refine src_run h0 hf.1 ?_
    refine ⟨_, e0, a, C, rfl, ox, na p List.mem_cons_self, .inr ⟨dx, fs, ea, ed, by rw [List.length_cons] at hl; omega, ?_⟩⟩
    refine chain_go ox e0 h0 l ((p.1, p.2.v ws) :: fs) _ (fun r hr => na r (List.mem_cons_of_mem _ hr)) hf.2 (by rw [List.length_cons] at hl ⊢; omega) (by rw [upd_ne ne.symm]; exact ea) upd_same ne ?_
    rw [upd_upd]
    have e : fsV (p :: l) ws ++ fs = fsV l ws ++ (p.1, p.2.v ws) :: fs := by
      unfold fsV
      rw [List.map_cons, List.reverse_cons, List.append_assoc]
      rfl
    rw [e] at q
    exact q
theorem chain_start (ox : OexC K C) (e0 : σ[0]? = some (some (.ref a))) (h0 : ∀ i, i < n → σ[i + 1]? = some (some (ws[i]?.getD .non))) {p : Str × Src} {l : FL} (na : ∀ r ∈ p :: l, PySem.W.findIn K (.ref C) r.1 = some none) (hf : (p :: l).all (fun p => p.2.fits n) = true) (hl : (p :: l).length ≤ 900)
    (ea : H a = some (exo a C none)) (q : ∀ d, H d = none → d ≠ a → D0.nx σ (upd (upd H d (exd d (fsV (p :: l) ws))) a (exo a C (some d)))) : tCh K (p :: l) D0 σ H := by
  have hf' := hf
  rw [List.all_cons, Bool.and_eq_true] at hf'
  refine src_run h0 hf'.1 ?_
  refine ⟨_, e0, a, C, rfl, ox, na p List.mem_cons_self, .inl ⟨ea, fun d hd ne => ?_⟩⟩
  have h1 : upd (upd H d (exd d [(p.1, p.2.v ws)])) a (exo a C (some d)) d = some (exd d [(p.1, p.2.v ws)]) := by rw [upd_ne ne, upd_same]
  refine chain_go (dx := d) ox e0 h0 l [(p.1, p.2.v ws)] _ (fun r hr => na r (List.mem_cons_of_mem _ hr)) hf'.2 (by rw [List.length_cons] at hl; simp; omega) upd_same h1 ne ?_
  have e : fsV l ws ++ [(p.1, p.2.v ws)] = fsV (p :: l) ws := by
    unfold fsV
    rw [List.map_cons, List.reverse_cons]
  rw [e]
  have e2 : upd (upd (upd H d (exd d [(p.1, p.2.v ws)])) a (exo a C (some d))) d (exd d (fsV (p :: l) ws)) = upd (upd H d (exd d (fsV (p :: l) ws))) a (exo a C (some d)) := by
    funext b
    by_cases z : b = d
    · subst z
      rw [upd_same, upd_ne ne, upd_same]
    · rw [upd_ne z]
      by_cases y : b = a
      · subst y
        rw [upd_same, upd_same]
      · rw [upd_ne y, upd_ne z, upd_ne y, upd_ne z]
  rw [e2]
  exact q d hd ne
end
/-- the promise of such an __init__ -/
def spX (C : Addr) (n : Nat) (l : FL) : Sp := fun vs H Q _ => ∃ (a : Addr) (ws : List V), vs = .ref a :: ws ∧ ws.length = n ∧ H a = some (exo a C none) ∧ ∀ d, H d = none → d ≠ a → Q .non (upd (upd H d (exd d (fsV l ws))) a (exo a C (some d)))
section
variable {P : Program} {w : World} {K : PySem.W.Frag} {mg : Str → Option Value} {base : Heap} {k : Nat} {name qual : Str} {params : Arguments} {rest : List Stmt} {scope : Scope} {C f cc cda : Addr} {fd : FuncData} {N ps : List Str} {txt : Str} {kk : Nat} {p0 p1 p2 p3 p4 p5 : Pos} {x0 : Str} {ar : Arg} {n : Nat} {l : FL} {pf : Str × Src}
theorem fn_x (F : EXS.SupFn K P.main.file name qual params (.Expr (.Call (.Attribute (.Call (.Name "super" p0) [] [] p1) "__init__" p2) [.Constant (.str txt) kk p5] [] p3) p4 :: rest) scope C f cc cda fd) (G : EXS.ExcD K C) (S : EXS.SScope N ps scope)
    (hsup : mg "super" = none) (htop : (P.main.scope.names.lookup ("super" : Str)).isSome = false) (hps : ps.head? = some x0) (hN : N[0]? = some x0) (hp : (params.posonlyargs ++ params.args).head? = some ar) (hx0 : ar.arg = x0) (hn : ps.length = n + 1)
    (na : ∀ r ∈ pf :: l, PySem.W.findIn K (.ref C) r.1 = some none) (hf : (pf :: l).all (fun p => p.2.fits n) = true) (hl : (pf :: l).length ≤ 900)
    {pl : Env → Sem Bool} (hcl : ∀ env, eval (.Call (.Attribute (.Call (.Name "super" p0) [] [] p1) "__init__" p2) [.Constant (.str txt) kk p5] [] p3) env = (do
      let ov ← attributeBase (.Call (.Name "super" p0) [] [] p1) "__init__" env (eval (.Call (.Name "super" p0) [] [] p1) env)
      standAt p2.atName
      let (f, first) ← holding [ov] (getMethod ov "__init__" (pl env))
      callWith p3 f first (backTo p3 (starEach [.Constant (.str txt) kk p5] env)) []))
    (hbody : ∀ (A : Around) (outer : List Env) (s : Shared) (H : Hp) (E : XK), PSs (EXS.cxC (L2.CX P w) P w K mg base N qual scope f cc (.ref cda) A outer s H E) rest (tCh K (pf :: l))) :
    FnOk P w K mg base (L2.CX P w) (k + 1) f fd ps (spX C n (pf :: l)) := by
  refine EXS.fn_exc (hcl := hcl) F G S hsup htop hps hN hp hx0 (fun vs H Q E ⟨a, ws, e, hw, _⟩ => by rw [e, List.length_cons, hw, hn]) (fun vs H Q E ⟨a, ws, e, hw, ha, _⟩ => ⟨a, ws, e, ha⟩) (fun A outer s H vs Q E a ws hr hsp ev => ?_) (fun env => rfl) (fun env => rfl)
  · obtain ⟨a', ws', e', hw, ha, q⟩ := hsp
    rw [ev] at e'
    cases e'
    refine ⟨_, _, pa_cons pe_str pa_nil, hbody A outer s H E, ?_⟩
    refine ⟨Nat.le_of_ble_eq_true rfl, ha, ?_⟩
    rw [ev]
    refine chain_start (n := n) (ws := ws) G.ox rfl (fun i hi => ?_) na hf hl ha fun d hd ne => q d hd ne
    unfold L2.start
    have hi2 : i < ws.length := by rw [hw]; exact hi
    show ((V.ref a :: ws).map some ++ _)[i + 1]? = _
    rw [List.getElem?_append_left (by simp; omega), List.getElem?_map, List.getElem?_cons_succ, List.getElem?_eq_getElem hi2]
    rfl
end
section
variable {X : Cx} {E : XK} {CX : CXT} {x : Str} {C fI : Addr} {k n : Nat} {fd : FuncData} {ps : List Str} {l : FL} {e : Expr} {es : List Expr} {Tl : DTA} {p pos pos2 : Pos}
/-- X(): an own exception without arguments -/
theorem pmk_oex0 {sp : Sp} (T : OexC X.K C) (iC : PySem.W.findIn X.K (.ref C) "__init__" = some (some (.ref fI))) (tI : PySem.W.typeIn X.K (.ref fI) = some (.type "function"))
    (F1 : FnOk X.prog X.w X.K X.mg X.base CX k fI fd ps sp) (hr : Room (k + 1) X.A) (hb : L2.Binds X.K fd ps []) (hx : Passes CX X (fun _ _ _ => False)) (hg : Gl X x) (hm : X.mg x = some (.ref C)) (hdb : (x == ("__debug__" : Str)) = false := by decide) :
    PMk X (.Call (.Name x p) [] [] pos) (tMkO C sp [] tNil) := by
  intro pins s σ H Q I h
  obtain ⟨nm, q, N, bs, bm, sn, sub, ab, col, dd, k0, k1, k2, k3, k5, hC, hbm⟩ := T.cls
  refine wpAny_Call_Name_kw (ld_glob I hg hm ?_ hdb)
  refine PySem.W.callWith_K0 I.kIn T.kC ?_
  obtain ⟨hz, q1⟩ := h
  show wpAny _ _ (call (.ref C) []) _ _ _
  obtain ⟨hp, g, dr, tk, os⟩ := s
  have hsz : hp.objs.size ≤ hp.objs.size + 1 := Nat.le_succ _
  have hn : H (hp.objs.size + 1) = none := I.hok.fresh hsz
  have hq := q1 (hp.objs.size + 1) hn
  have kk : ∀ b o, hp.get? b = some o → ((hp.push (PySem.W.kdv_tup [])).push (PySem.HandSPX.excO C hp.objs.size)).get? b = some o := fun b o e => Heap.get?_push_of_some _ (Heap.get?_push_of_some _ e)
  have hget : ((hp.push (PySem.W.kdv_tup [])).push (PySem.HandSPX.excO C hp.objs.size)).get? (hp.objs.size + 1) = some (PySem.HandSPX.excO C hp.objs.size) := by heap_get
  have I2 : Inv X pins σ (upd H (hp.objs.size + 1) (exo (hp.objs.size + 1) C none)) ⟨(hp.push (PySem.W.kdv_tup [])).push (PySem.HandSPX.excO C hp.objs.size), g, dr, tk, os⟩ :=
    I.laid (t' := tk) (a := hp.objs.size + 1) (o := exo (hp.objs.size + 1) C none) (h' := (hp.push (PySem.W.kdv_tup [])).push (PySem.HandSPX.excO C hp.objs.size)) kk hsz (exo_ok hget)
  have r2 : Vals [V.ref (hp.objs.size + 1)] [Value.ref (hp.objs.size + 1)] := .cons rfl .nil
  have hl : [Value.ref (hp.objs.size + 1)].length = ps.length := by
    have e : [V.ref (hp.objs.size + 1)].length = ps.length := F1.len _ _ _ _ hq
    exact e
  refine wpAny_call (PySem.HandSPX.call_own F.excBase_ValueError (fun Y => PySem.HandSPX.refsVE_contains Y bm hbm) (I.kIn _ _ hC) (PySem.W.looks_findIn I.kIn iC) (fun self => PySem.W.bind_fn I.kIn self tI) (Nat.zero_le _)
    (codeAny_mono (F1.run _ X.stack _ _ ⟨[Value.ref (hp.objs.size + 1)], []⟩ [Value.ref (hp.objs.size + 1)] _ _ (fun _ _ _ => False) (hr.make C [] []) (I2.env0.make C [] []) (hb _ [Value.ref (hp.objs.size + 1)] I2.kIn hl) r2 hq) fun r s' hq' => ?_))
  cases r with
  | error er => exact hx pins σ _ _ er s' I2 hq'
  | ok fl =>
    cases fl with
    | ret u =>
      obtain ⟨v, H2, os2, bare2, un2, hok2, rv, ev, d, fs, ea, ed, hd1, q2⟩ := hq'
      subst ev
      obtain ⟨h2, g2, d2, t2, os'⟩ := s'
      exact ⟨rv, mk_end (raises_own T.exC T.tyC) I hsz kk un2 hok2 os2 bare2 ea ed hd1 q2⟩
    | next => exact False.elim hq'
    | brk => exact False.elim hq'
    | cont => exact False.elim hq'
/-- raise of an exception of the class C with these fields -/
def zRaise (C : Addr) (n : Nat) (l : FL) (Tl : DTA) : DTS := fun Q env => Tl env (fun ds => ds.length = n ∧ Q.ex ⟨C, fsK l, fsD l ds⟩) Q.ex
theorem exo_gone {H1 : Hp} {a d : Addr} {C : Addr} {fs : List (Str × V)} (ha : H1 a = none) (ne : d ≠ a) : upd (del (upd (upd (upd H1 a (exo a C none)) d (exd d fs)) a (exo a C (some d))) a) d (.xd fs) = upd H1 d (.xd fs) := by
  funext b
  by_cases z : b = d
  · subst z
    rw [upd_same, upd_same]
  · rw [upd_ne z, upd_ne z]
    by_cases y : b = a
    · subst y
      rw [del_same, ha]
    · rw [del_ne y, upd_ne y, upd_ne z, upd_ne y]
theorem raise_end {c : Fm} {σ : St} {H S : Hp} {env : En} {Rx : Er → Prop} {vs : List V} {ds : List D} (hfit : l.all (fun p => p.2.fits n) = true) (x : XOk c E Rx) (k : Kn c σ H S env) (r : RepL c.B S ds vs) (hn : ds.length = n) (q : Rx ⟨C, fsK l, fsD l ds⟩) {a : Addr} (ha : H a = none) :
    spX C n l (.ref a :: (vs ++ [])) (upd H a (exo a C none)) (fun v H2 => v = .non ∧ ∃ (d : Addr) (fs : List (Str × V)), H2 a = some (exo a C (some d)) ∧ H2 d = some (exd d fs) ∧ H d = none ∧ E (.ref C) (some d) (upd (del H2 a) d (.xd fs))) (fun _ _ _ => False) := by
  rw [List.append_nil]
  refine ⟨a, vs, rfl, by rw [r.length]; exact hn, upd_same, fun d hd ne => ⟨rfl, d, fsV l vs, upd_same, by rw [upd_ne ne, upd_same], by rw [upd_ne ne] at hd; exact hd, ?_⟩⟩
  rw [upd_ne ne] at hd
  rw [exo_gone ha ne]
  have k2 := k.new0 (o := .xd (fsV l vs)) hd
  refine x ⟨C, fsK l, fsD l ds⟩ d (fsW l vs) _ S k2.kf (RepL.rev (fs_rep r hn l hfit)) ?_ ?_ (k.kf.h0_none hd) (k.kf.s_none hd) q
  · show (fsD l ds).length = (fsK l).length
    unfold fsD fsK
    rw [List.length_reverse, List.length_reverse, List.length_map, List.length_map]
  · show upd H d (.xd (fsV l vs)) d = some (.xd ((fsK l).zip (fsW l vs)))
    rw [upd_same, fs_zip]
theorem s_raise (T : OexC X.K C) (iC : PySem.W.findIn X.K (.ref C) "__init__" = some (some (.ref fI))) (tI : PySem.W.typeIn X.K (.ref fI) = some (.type "function")) (hfit : l.all (fun p => p.2.fits n) = true) (hn : n ≤ 900)
    (G : FnOk X.prog X.w X.K X.mg X.base CX k fI fd ps (spX C n l)) (hr : Room (k + 1) X.A) (hb : L2.Binds X.K fd ps []) (hx : Passes CX X (fun _ _ _ => False)) (hm : X.mg x = some (.ref C)) (hc : X.calm = true) (tk : Takes X (fun cls d _ H => E cls d H)) (ha : DA X E (e :: es) Tl)
    (hg : Gl X x := by rfl) (hdb : (x == ("__debug__" : Str)) = false := by decide) (he : starEach (e :: es) X.env = (false, eval e X.env) :: starEach es X.env := by rfl) (hpl : (backTo pos (starEach es X.env)).any (·.1) = false := by rfl) :
    DS X E (.Raise (some (.Call (.Name x p) (e :: es) [] pos)) none pos2) (zRaise C n l Tl) := by
  obtain ⟨t, pa, s⟩ := ha
  refine ⟨_, ps_raise hc tk (pmk_oex T iC tI G hr hb .nil hx hg hm pa hdb he hpl), fun c σ H S env Q x k t1 D m => s c σ H S env _ _ x k t1 _ fun vs H1 S1 ds k1 s1 r1 t2 => ⟨by rw [r1.length, t2.1]; omega, fun a ha => ?_⟩⟩
  exact raise_end hfit x k1 r1 t2.1 t2.2 ha
theorem s_raise0 (T : OexC X.K C) (iC : PySem.W.findIn X.K (.ref C) "__init__" = some (some (.ref fI))) (tI : PySem.W.typeIn X.K (.ref fI) = some (.type "function")) (hfit : l.all (fun p => p.2.fits 0) = true)
    (G : FnOk X.prog X.w X.K X.mg X.base CX k fI fd ps (spX C 0 l)) (hr : Room (k + 1) X.A) (hb : L2.Binds X.K fd ps []) (hx : Passes CX X (fun _ _ _ => False)) (hm : X.mg x = some (.ref C)) (hc : X.calm = true) (tk : Takes X (fun cls d _ H => E cls d H))
    (hg : Gl X x := by rfl) (hdb : (x == ("__debug__" : Str)) = false := by decide) :
    DS X E (.Raise (some (.Call (.Name x p) [] [] pos)) none pos2) (zRaise C 0 l (fun _ R _ => R [])) := by
  refine ⟨_, ps_raise hc tk (pmk_oex0 T iC tI G hr hb hx hg hm hdb), fun c σ H S env Q x k t1 D m => ⟨Nat.zero_le _, fun a ha => ?_⟩⟩
  exact raise_end (vs := []) hfit x k repL_nil t1.1 t1.2 ha
end
end DL
namespace DL
open PySem PySem.Spec L2 PyProof.Rows LamX
variable [TbC]
section
variable {X : Cx} {pins : List (Addr × Obj)} {σ : List (Option V)} {H : Hp} {s : Shared} {E : Value → Shared → Prop} {Q : Value → Shared → Prop}
/-- what the making leaves: the function object at f, the code object at c' known; all but the table at P stays -/
structure LamMade (H H1 : Hp) (P : Addr) (q : Str) (f c' : Addr) (i : Nat) (cl : List (Str × Addr)) (dV : Value) : Prop where
  fn : H f = none
  at_ : H1 f = some (LamO f i cl dV c')
  code : H1 c' = some (CodeO c' q)
  old : H c' = none ∨ H c' = some (CodeO c' q)
  ne : c' ≠ f
  keep : ∀ b o, b ≠ P → H b = some o → H1 b = some o
  tab : TabS H1 P q
theorem lam_tail {i : Nat} {c P : Addr} {params : Arguments} {body : Expr} {scope : Scope} {dfl : List Int} {dV : Value} {pos : Pos} {fl : Nat} (I : Inv X pins σ H s) (TB : TabB X.base X.mg c P) (hcode : X.env.code = .ref c) (hT : TabS H P (X.env.qual ++ "<lambda>"))
    (hq : TbC.lq i = ⟨X.env.qual ++ "<lambda>", params, body, scope, dfl⟩) (hfree : ∀ y ∈ scope.names, y.2 = .free → ∃ c, X.env.cells.lookup y.1 = some c)
    (h : ∀ (f c' : Addr) (H1 : Hp) (s' : Shared), Inv X pins σ H1 s' → LamMade H H1 P (X.env.qual ++ "<lambda>") f c' i X.env.cells dV → Q (.ref f) s') :
    wpAny (model X.prog X.w) X.A (makeTail "<lambda>" (X.env.qual ++ "<lambda>") params (.expr body) scope X.env dV .none none pos fl) Q E s := by
  obtain ⟨ps, hP, ht, ha⟩ := hT
  have bP : s.heap.BuiltinsAt X.mg P := TB.bm.keeps I.bk
  have hP' : s.heap.get? P = some { cls := .none, data := .fields ps } := I.hok P _ hP
  have LO : ∀ (f c' : Addr) (cl : List (Str × Addr)), LamO f i cl dV c' = .ext fun h => ∃ doc pm ctv : Value, h.get? f = some (PySem.W.kdv_obj "<lambda>" (X.env.qual ++ "<lambda>") params (.expr body) scope (cloFrom cl scope.names []) dV doc pm c' ctv) := fun f c' cl => by
    unfold LamO
    rw [hq]
  -- the function object is laid
  have lay : ∀ {H1 : Hp} {h' : Heap} {f c' : Addr} {doc pm ctv : Value} {tk : Nat}, Inv X pins σ H1 { s with heap := h', toks := tk } → f = h'.objs.size →
      Inv X pins σ (upd H1 f (LamO f i X.env.cells dV c')) { s with heap := h'.push (PySem.W.kdv_obj "<lambda>" (X.env.qual ++ "<lambda>") params (.expr body) scope (cloFrom X.env.cells scope.names []) dV doc pm c' ctv), toks := tk } := by
    intro H1 h' f c' doc pm ctv tk I1 ef
    subst ef
    have hg : (h'.push (PySem.W.kdv_obj "<lambda>" (X.env.qual ++ "<lambda>") params (.expr body) scope (cloFrom X.env.cells scope.names []) dV doc pm c' ctv)).get? h'.objs.size = some (PySem.W.kdv_obj "<lambda>" (X.env.qual ++ "<lambda>") params (.expr body) scope (cloFrom X.env.cells scope.names []) dV doc pm c' ctv) := Heap.get?_push_size _ rfl
    refine I1.laid (t' := tk) (fun b u z => Heap.get?_push_of_some _ z) (Nat.le_refl _) ?_
    rw [LO]
    exact ⟨⟨doc, pm, ctv, hg⟩, ⟨_, hg⟩, fun h1 h2 ⟨doc, pm, ctv, e⟩ k => ⟨doc, pm, ctv, k _ e⟩⟩
  cases hc : codeAmong pos ps.toList with
  | none =>
    refine PySem.W.kdv_makeTail (mg := X.mg) (c := c) (P := P) (ps := ps) (closure_ok hfree) I.ok.glob (I.mod.glob.keeps I.bk) hcode (TB.code.keeps I.bk) hP' ht hc TB.gP bP fun c' ctv doc h' tk hx hge hlt hrec htb => ?_
    obtain ⟨c2, oc, vs, t, e2, hoc, hd, hv⟩ := hrec
    cases e2
    have nC : H c' = none := I.hok.fresh hge
    have nF : H h'.objs.size = none := I.hok.fresh (Nat.le_trans hge (Nat.le_of_lt hlt))
    have I1 := inv_table (t' := tk) (more := #[rawInt pos.line, rawInt pos.col, .ref c']) (h' := h') (q := X.env.qual ++ "<lambda>") I hP (fun b o hb e => hx b o hb e) htb hge ⟨oc, vs, t, hoc, hd, hv⟩
    have I2 := lay (tk := tk) (doc := doc) (pm := (X.mg "__name__").getD .none) (ctv := ctv) (c' := c') I1 rfl
    have n1 : c' ≠ h'.objs.size := Nat.ne_of_lt hlt
    have n2 : P ≠ h'.objs.size := ne_of_none hP nF
    have n3 : P ≠ c' := ne_of_none hP nC
    have kp : ∀ b o, b ≠ P → H b = some o → upd (upd (upd H P (.tbl (ps ++ #[rawInt pos.line, rawInt pos.col, .ref c']))) c' (CodeO c' (X.env.qual ++ "<lambda>"))) h'.objs.size (LamO h'.objs.size i X.env.cells dV c') b = some o := fun b o hb e => by
      rw [upd_ne (ne_of_none e nF), upd_ne (ne_of_none e nC), upd_ne hb]
      exact e
    refine h h'.objs.size c' _ _ I2 ⟨nF, upd_same, by rw [upd_ne n1, upd_same], .inl nC, n1, kp, ?_⟩
    have eL : (ps ++ #[rawInt pos.line, rawInt pos.col, .ref c']).toList = ps.toList ++ [rawInt pos.line, rawInt pos.col, .ref c'] := by simp
    refine ⟨_, by rw [upd_ne n2, upd_ne n3, upd_same], by rw [eL]; exact PySem.TriplesOk_snoc _ _ _ _ ht, fun p' cv hcv => ?_⟩
    rw [eL] at hcv
    rcases among_app _ ht hcv with z | z
    · obtain ⟨c0, e1, e2⟩ := ha p' cv z
      exact ⟨c0, e1, kp _ _ (fun y => by rw [y, hP] at e2; exact codeO_ne _ (Option.some.inj e2).symm) e2⟩
    · exact ⟨c', z, by rw [upd_ne n1, upd_same]⟩
  | some cv =>
    obtain ⟨c', e, hco⟩ := ha pos cv hc
    subst e
    refine PySem.W.kdv_makeTailHit (mg := X.mg) (c := c) (P := P) (ps := ps) (closure_ok hfree) I.ok.glob (I.mod.glob.keeps I.bk) hcode (TB.code.keeps I.bk) hP' ht hc bP fun ctv doc h' tk hx hsz => ?_
    have nF : H h'.objs.size = none := I.hok.fresh hsz
    have I1 : Inv X pins σ H { s with heap := h', toks := tk } := I.kept (t' := tk) hx
    have I2 := lay (tk := tk) (doc := doc) (pm := (X.mg "__name__").getD .none) (ctv := ctv) (c' := c') I1 rfl
    have kp : ∀ b o, b ≠ P → H b = some o → upd H h'.objs.size (LamO h'.objs.size i X.env.cells dV c') b = some o := fun b o _ e => by
      rw [upd_ne (ne_of_none e nF)]
      exact e
    have n1 : c' ≠ h'.objs.size := ne_of_none hco nF
    refine h h'.objs.size c' _ _ I2 ⟨nF, upd_same, by rw [upd_ne n1]; exact hco, .inr hco, n1, kp, ps, by rw [upd_ne (ne_of_none hP nF)]; exact hP, ht, fun p' cv' hcv => ?_⟩
    obtain ⟨c0, e1, e2⟩ := ha p' cv' hcv
    exact ⟨c0, e1, by rw [upd_ne (ne_of_none e2 nF)]; exact e2⟩
end
section
variable {c : Fm} {σ : L2.St} {H H1 S : Hp} {env : En} {P f c' : Addr} {q : Str} {i : Nat} {cl : List (Str × Addr)} {dV : Value}
theorem kn_lam (k : Kn c σ H S env) (m : LamMade H H1 P q f c' i cl dV) (hP : (P, q) ∈ TbC.ts) (hu : ∀ p ∈ TbC.ts, p.1 = P → p.2 = q) :
    ∃ S1, Kn c σ H1 S1 env ∧ Same S S1 ∧ S1 f = some (LamO f i cl dV c') ∧ S1 c' = some (CodeO c' q) := by
  have sf : S f = none := k.kf.s_none m.fn
  have xP : ∀ b, ¬ Ex c.B b → b ≠ P := fun b x z => x (.inr ⟨_, hP, z.symm⟩)
  have sP : S P = none := (k.kf.tab.1 _ hP).2
  have hTP : ∃ ps, H P = some (.tbl ps) := by
    obtain ⟨⟨ps, h1, _⟩, _⟩ := k.kf.tab.1 _ hP
    exact ⟨ps, h1⟩
  have sc : ∀ o, S c' = some o → o = CodeO c' q := fun o e => by
    have e2 := k.kf.sub _ _ e
    rcases m.old with z | z
    · rw [z] at e2
      cases e2
    · rw [z] at e2
      exact (Option.some.inj e2).symm
  refine ⟨fun b => if b = f then some (LamO f i cl dV c') else if b = c' then some (CodeO c' q) else S b, ?_, fun b o e => ?_, if_pos rfl, (if_neg m.ne).trans (if_pos rfl)⟩
  · have ss : Same S (fun b => if b = f then some (LamO f i cl dV c') else if b = c' then some (CodeO c' q) else S b) := fun b o e => by
      by_cases z : b = f
      · rw [z, sf] at e
        cases e
      · show (if b = f then _ else _) = _
        rw [if_neg z]
        by_cases y : b = c'
        · rw [if_pos y]
          rw [y] at e
          rw [sc o e]
        · rw [if_neg y]
          exact e
    have sn : ∀ b, S b = none → Mu (H b) → (fun b => if b = f then some (LamO f i cl dV c') else if b = c' then some (CodeO c' q) else S b) b = none := fun b e n => by
      have z : b ≠ f := fun z => n.1 (by rw [z]; exact m.fn)
      have y : b ≠ c' := fun y => by
        rcases m.old with x | x
        · exact n.1 (by rw [y]; exact x)
        · exact n.2 _ (by rw [y, x]) (.inl ⟨_, _, rfl⟩)
      show (if b = f then _ else _) = _
      rw [if_neg z, if_neg y]
      exact e
    refine k.step ss (fun b o e => ?_) (fun b o e x => m.keep b o (xP b x) e) sn (fun b e => ?_) (fun p hp => ?_)
    · have e : (if b = f then some (LamO f i cl dV c') else if b = c' then some (CodeO c' q) else S b) = some o := e
      by_cases z : b = f
      · rw [if_pos z] at e
        rw [z, m.at_]
        exact e
      · rw [if_neg z] at e
        by_cases y : b = c'
        · rw [if_pos y] at e
          rw [y, m.code]
          exact e
        · rw [if_neg y] at e
          exact m.keep b o (fun w => by rw [w, sP] at e; cases e) (k.kf.sub b o e)
    · obtain ⟨⟨b1, cs, i', g, st, n, b2, b3, b4⟩, b5⟩ := k.kf.bag b e
      have bP : b ≠ P := fun z => by
        obtain ⟨ps, h1⟩ := hTP
        rw [z, h1] at b2
        cases b2
      exact ⟨sn b b1 (mu_lst b2), cs, i', g, st, n, m.keep _ _ bP b2, ss _ _ b3, b4⟩
    · obtain ⟨⟨ps, h1, h2, h3⟩, h4⟩ := k.kf.tab.1 p hp
      refine ⟨?_, sn p.1 h4 (mu_of h1 fun _ z => nomatch z)⟩
      by_cases z : p.1 = P
      · rw [hu p hp z, z]
        exact m.tab
      · refine ⟨ps, m.keep _ _ z h1, h2, fun pos cv hc => ?_⟩
        obtain ⟨c0, e1, e2⟩ := h3 pos cv hc
        refine ⟨c0, e1, m.keep _ _ (fun y => ?_) e2⟩
        obtain ⟨ps', h1'⟩ := hTP
        rw [y, h1'] at e2
        exact codeO_ne _ (Option.some.inj e2).symm
  · show (if b = f then _ else _) = _
    by_cases z : b = f
    · rw [z, sf] at e
      cases e
    · rw [if_neg z]
      by_cases y : b = c'
      · rw [if_pos y]
        rw [y] at e
        rw [sc o e]
      · rw [if_neg y]
        exact e
end
section
variable {X : Cx} {E : XK} {i : Nat} {c P : Addr} {params : Arguments} {body : Expr} {scope : Scope} {pos : Pos}
/-- lambda: .. : the value is told with the maker's cells -/
def xLam (i : Nat) (cl : List (Str × Addr)) : DT := fun _ R _ => R (.fn i cl none)
theorem d_lam0 (TB : TabB X.base X.mg c P) (hcode : X.env.code = .ref c) (hP : (P, X.env.qual ++ "<lambda>") ∈ TbC.ts) (hu : ∀ p ∈ TbC.ts, p.1 = P → p.2 = X.env.qual ++ "<lambda>")
    (hq : TbC.lq i = ⟨X.env.qual ++ "<lambda>", params, body, scope, []⟩) (L : LamS X.env.scope scope) (hdef : defaultsOf params X.env = ([], [])) {cl : List (Str × Addr)} (hcl : X.env.cells = cl) : DE X E (.Lambda params body scope pos) (xLam i cl) := by
  subst hcl
  refine ⟨fun σ H Q => TabS H P (X.env.qual ++ "<lambda>") ∧ ∀ f c' H1, LamMade H H1 P (X.env.qual ++ "<lambda>") f c' i X.env.cells .none → Q (.ref f) H1, ⟨fun pins s σ H Q I h => ?_⟩, fun c0 σ H S env R Rx x k t Q q => ⟨(k.kf.tab.1 _ hP).1, fun f c' H1 m => ?_⟩⟩
  · refine PySem.W.kla_eval hdef ?_
    rw [makeFunction_eq]
    simp only [List.zip_nil_right, List.filterMap_nil, List.isEmpty_nil, if_true, pure_bind]
    exact lam_tail I TB hcode h.1 hq (L.has I.ok) fun f c' H1 s' I1 m => ⟨.ref f, H1, I1, rfl, h.2 f c' H1 m⟩
  · obtain ⟨S1, k1, ss, e1, e2⟩ := kn_lam k m hP hu
    refine q _ H1 S1 (.fn i X.env.cells none) k1 ss ?_ t
    rw [Rep]
    refine ⟨f, _, c', rfl, e1, by rw [hq]; exact e2, .inl ⟨by rw [hq], rfl⟩, fun y hy => by cases hy⟩
/-- .. with one default, a whole number -/
theorem d_lam1 {n : Int} {kk : Nat} {p1 : Pos} (TB : TabB X.base X.mg c P) (hcode : X.env.code = .ref c) (hP : (P, X.env.qual ++ "<lambda>") ∈ TbC.ts) (hu : ∀ p ∈ TbC.ts, p.1 = P → p.2 = X.env.qual ++ "<lambda>")
    (hq : TbC.lq i = ⟨X.env.qual ++ "<lambda>", params, body, scope, [n]⟩) (hfree : ∀ y ∈ scope.names, y.2 = .free → X.env.scope.names.lookup y.1 = some .cell ∨ X.env.scope.names.lookup y.1 = some .free) (hd : params.defaults = [.Constant (.int n) kk p1]) (hk : params.kw_defaults = []) {cl : List (Str × Addr)} (hcl : X.env.cells = cl) :
    DE X E (.Lambda params body scope pos) (xLam i cl) := by
  subst hcl
  refine ⟨fun σ H Q => TabS H P (X.env.qual ++ "<lambda>") ∧ ∀ t, H t = none → ∀ f c' H1, LamMade (upd H t (.tup [.int n])) H1 P (X.env.qual ++ "<lambda>") f c' i X.env.cells (.ref t) → Q (.ref f) H1, ⟨fun pins s σ H Q I h => ?_⟩, fun c0 σ H S env R Rx x k t Q q => ⟨(k.kf.tab.1 _ hP).1, fun t0 ht f c' H1 m => ?_⟩⟩
  · refine PySem.W.kdv_lam (by rw [hd]; rfl) hk ?_
    rw [hd]
    refine PySem.W.kdv_all1 (wpAny_Constant_int (PySem.W.kdv_all0 ?_))
    rw [makeFunction_eq]
    simp only [List.zip_nil_right, List.filterMap_nil, List.isEmpty_nil, List.isEmpty_cons, Bool.false_eq_true, if_false, if_true, pure_bind]
    refine wpAny_bind (wpAny_newTextTuple ?_)
    have I0 : L2.Inv X pins σ H { s with toks := s.toks + 1 } := I.tok _
    have ht : H s.heap.objs.size = none := I.hok.fresh (Nat.le_refl _)
    have hg : (s.heap.push { cls := .type "tuple", data := .seq ([.int n s.toks] : List Value).toArray }).get? s.heap.objs.size = some { cls := .type "tuple", data := .seq ([.int n s.toks] : List Value).toArray } := Heap.get?_push_size _ rfl
    have I1 := I0.laid (t' := s.toks + 1) (a := s.heap.objs.size) (o := .tup [.int n]) (h' := s.heap.push { cls := .type "tuple", data := .seq ([.int n s.toks] : List Value).toArray }) (fun b u z => Heap.get?_push_of_some _ z) (Nat.le_refl _)
      ⟨Nat.le_of_ble_eq_true rfl, [.int n s.toks], .cons ⟨_, rfl⟩ .nil, _, hg, rfl, _, rfl⟩
    exact lam_tail I1 TB hcode (h.1.ext fun b o e => by rw [upd_ne (ne_of_none e ht)]; exact e) hq (fun y hy e => by
      rcases hfree y hy e with z | z
      · exact I.ok.has _ (.inl z)
      · exact I.ok.has _ (.inr z)) fun f c' H1 s' I2 m => ⟨.ref f, H1, I2, rfl, h.2 _ ht f c' H1 m⟩
  · have k0 := k.new (o := .tup [.int n]) ht
    obtain ⟨S1, k1, ss, e1, e2⟩ := kn_lam k0 m hP hu
    refine q _ H1 S1 (.fn i X.env.cells none) k1 ((same_upd (k.kf.s_none ht)).trans ss) ?_ t
    rw [Rep]
    refine ⟨f, _, c', rfl, e1, by rw [hq]; exact e2, .inr ⟨by rw [hq]; exact List.cons_ne_nil _ _, t0, rfl, ?_⟩, fun y hy => by cases hy⟩
    rw [hq]
    exact ss _ _ upd_same
end
end DL
namespace DL
open PySem PySem.Spec L2 PyProof.Rows LamX
variable [TbC]
def wideB (s : Shared) (H : Hp) (l : List Env) : Heap := PySem.W.hideAll (hidT s.heap H) (frs l)
section
variable {X : Cx} {pins : List (Addr × Obj)} {σ : List (Option V)} {H : Hp} {s : Shared} {l : List Env} {b : Addr} {o : Obj}
theorem wideB_of (h : (wideB s H l).get? b = some o) : s.heap.get? b = some o ∧ H b = none := of_hidT (PySem.W.of_hideAll _ h)
theorem wideB_get (e : s.heap.get? b = some o) (n : H b = none) (hf : b ∉ frs l) : (wideB s H l).get? b = some o := PySem.W.hideAll_get _ (hidT_get e n) hf
theorem inv_wide (I : L2.Inv X pins σ H s) : ∀ b o, X.base.get? b = some o → (wideB s H X.stack).get? b = some o := fun b o e => wideB_get (I.bs b o e).1 (I.bs b o e).2 fun hb => by
  have := (I.stack.mem hb).1
  rw [e] at this
  cases this
theorem mod_wide {K : PySem.W.Frag} {mg : Str → Option Value} {base base' : Heap} (m : Mod K mg base) (k : ∀ b o, base.get? b = some o → base'.get? b = some o) : Mod K mg base' := by
  obtain ⟨h1, h2, ⟨mb, h3, h4⟩, h5⟩ := m
  exact ⟨h1.keeps k, h2.keeps k, ⟨mb, h3.keeps k, h4⟩, h5.keeps k⟩
theorem env0_wide (I : L2.Inv X pins σ H s) : Env0 X.prog X.w X.K X.mg (wideB s H X.stack) X.A X.stack s H := by
  have e := I.env0
  refine ⟨e.frames, mod_wide e.mod (inv_wide I), fun b o h => wideB_of h, ?_, funFrames_none I.stack fun L hL => PySem.W.hideAll_none _ hL, e.frf, e.hok, e.bare⟩
  unfold wideB
  rw [PySem.W.hideAll_size, hidT_size]
  exact Nat.le_refl _
end
abbrev lamEnvB (q : LamQ) (cl : List (Str × Addr)) (L f c' : Addr) : Env := PySem.W.envX q.qual q.scope L f (.ref c') (cloFrom cl q.scope.names [])
def lamCxB (P : Program) (w : World) (K : PySem.W.Frag) (mg : Str → Option Value) (base : Heap) (A : Around) (outer : List Env) (s : Shared) (H : Hp) (E : XK) (N : List Str) (q : LamQ) (cl : List (Str × Addr)) (f c' : Addr) : Cx where
  prog := P
  w := w
  K := K
  mg := mg
  base := base
  A := A.deeper (lamEnvB q cl s.heap.objs.size f c')
  N := N
  s_0 := s
  H_0 := H
  env := lamEnvB q cl s.heap.objs.size f c'
  outer := outer
  stack := lamEnvB q cl s.heap.objs.size f c' :: outer
  ex := []
  fn := fun _ => false
  calm := true
  pn := []
  xe := fun e s' => wpAny (model P w) (A.deeper (lamEnvB q cl s.heap.objs.size f c')) (leaving (lamEnvB q cl s.heap.objs.size f c') e) (fun _ s'' => L2.CX P w outer H s E e s'') (fun e' s'' => L2.CX P w outer H s E e' s'') s'
/-- the defaults as they lie -/
def DfAt (h : Heap) (dV : Value) (ns : List Int) : Prop := (ns = [] ∧ dV = .none) ∨ ns ≠ [] ∧ ∃ (t : Addr) (o : Obj) (its : List Value) (n : Nat), dV = .ref t ∧ h.get? t = some o ∧ o.data = .seq its.toArray n ∧ Vals (ns.map V.int) its
/-- lambda i of the text: its captured names Ni, where they stand among the maker's -/
structure LamI (N : List Str) (sc : Scope) (i : Nat) (Ni : List Str) (js : List Nat) : Prop where
  kind : (TbC.lq i).scope.kind = .function
  co : (TbC.lq i).scope.isCoroutine = false
  gen : (TbC.lq i).scope.isGenerator = false
  nocell : ∀ y ∈ (TbC.lq i).scope.names, y.2 ≠ .cell
  free : ∀ y ∈ (TbC.lq i).scope.names, y.2 = .free → sc.names.lookup y.1 = some .cell ∨ sc.names.lookup y.1 = some .free
  names : ∀ (t : Nat) (y : Str), Ni[t]? = some y → (TbC.lq i).scope.names.lookup y = some .free ∧ ∃ j : Nat, js[t]? = some j ∧ N[j]? = some y
  len : js.length = Ni.length
  bind : ∀ (cl : List (Str × Addr)) (dV doc pm cdv ctv : Value) (s : Shared), DfAt s.heap dV (TbC.lq i).dfl → ∃ bs, BindsTo s (PySem.W.kdv_fn "<lambda>" (TbC.lq i).qual (TbC.lq i).params (.expr (TbC.lq i).body) (TbC.lq i).scope cl dV doc pm cdv ctv) ⟨[], []⟩ bs ∧ ∀ y ∈ bs, (TbC.lq i).scope.names.lookup y.1 = some .local
theorem lamB_start {P : Program} {w : World} {K : PySem.W.Frag} {mg : Str → Option Value} {base : Heap} {A : Around} {outer : List Env} {s1 : Shared} {HZ : Hp} {E : XK} {N Ni : List Str} {sc : Scope} {i : Nat} {js : List Nat} {cl : List (Str × Addr)} {f c' : Addr} {σi : List (Option V)} {h₁ : Heap} {tk : Nat} {m : Str → Option Value}
    (L : LamI N sc i Ni js) (e0 : Env0 P w K mg base A outer s1 HZ) (hd : A.handled = none) (hcl : ∀ y ∈ (TbC.lq i).scope.names, y.2 = .free → ∃ c, cl.lookup y.1 = some c) (hinj : ∀ y z c, cl.lookup y = some c → cl.lookup z = some c → y = z)
    (hcell : ∀ y c, cl.lookup y = some c → ∃ v, base.IsCell c v) (hl : σi.length = Ni.length) (hval : ∀ (t : Nat) (y : Str) (v : V), Ni[t]? = some y → σi[t]? = some (some v) → ∃ u c, RelV v u ∧ cl.lookup y = some c ∧ base.IsCell c (some u))
    (hns : h₁.Ns s1.heap.objs.size m) (kp : ∀ b o, s1.heap.get? b = some o → h₁.get? b = some o) :
    L2.Inv (lamCxB P w K mg base A outer s1 HZ E Ni (TbC.lq i) cl f c') [] σi HZ { s1 with heap := h₁, toks := tk } := by
  have cm : ∀ {y c}, (cloFrom cl (TbC.lq i).scope.names []).lookup y = some c → cl.lookup y = some c := fun {y c} e => by
    rcases cloFrom_mem (PySem.mem_of_lookup e) with hm | ⟨h1, h2⟩
    · cases hm
    · obtain ⟨c1, hc⟩ := hcl _ h1 rfl
      have hc : cl.lookup y = some c1 := hc
      have e2 : c = c1 := by
        rw [h2, hc] <;> rfl
      rw [e2]
      exact hc
  have look : ∀ {y}, (TbC.lq i).scope.names.lookup y = some .free → ∃ c, (cloFrom cl (TbC.lq i).scope.names []).lookup y = some c := fun {y} hl => by
    have hy : (y, NameKind.free) ∈ (TbC.lq i).scope.names := PySem.mem_of_lookup hl
    exact mem_lookup (cloFrom_has (cells := cl) (acc := []) hy)
  have cellK : ∀ {c : Addr} {v : Option Value}, base.IsCell c v → h₁.IsCell c v := fun {c v} ⟨o, ho, hd⟩ => ⟨o, kp _ _ (e0.bs _ _ ho).1, hd⟩
  have noA : ∀ b : Addr, b ∉ (lamCxB P w K mg base A outer s1 HZ E Ni (TbC.lq i) cl f c').ex := fun b z => absurd (show b ∈ ([] : List Addr) from z) (by simp)
  refine ⟨⟨e0.mod, L.kind, rfl, rfl, Nat.le_refl _, fun y z c e1 e2 => hinj y z c (cm e1) (cm e2), fun y hy => ?_, fun y c z _ => ?_, fun _ => hd, Around.frames_deeper e0.frames, .inr ⟨rfl, rfl⟩, fun b z => absurd z (noA b), e0.bs, e0.bsz, fun b _ _ => noA b,
      fun b z => absurd z (noA b), e0.funs, e0.frf⟩,
    rfl, e0.bare, Un.kept kp, ⟨m, hns, fun t y v e1 e2 e3 => ?_⟩, fun y c e => ?_, e0.hok.fresh (Nat.le_refl _), fun y c e => ?_, fun q hq => absurd (show q ∈ ([] : List (Addr × Obj)) ++ [] from hq) (by simp), e0.hok.kept kp, hl⟩
  · have hy : (TbC.lq i).scope.names.lookup y = some .cell ∨ (TbC.lq i).scope.names.lookup y = some .free := hy
    rcases hy with hy | hy
    · exact absurd rfl (L.nocell _ (PySem.mem_of_lookup hy))
    · exact look hy
  · have z : false = true := z
    cases z
  · have e1 : Ni[t]? = some y := e1
    obtain ⟨k, _⟩ := L.names t y e1
    obtain ⟨u, c, r, ec, ic⟩ := hval t y v e1 e2
    obtain ⟨c2, h2⟩ := look k
    have e4 := cm h2
    rw [ec] at e4
    cases e4
    exact ⟨u, r, .inr ⟨.inr k, c, h2, cellK ic⟩⟩
  · obtain ⟨v, ic⟩ := hcell y c (cm e)
    exact ⟨v, cellK ic⟩
  · obtain ⟨v, o, ho, _⟩ := hcell y c (cm e)
    exact (e0.bs _ _ ho).2
abbrev Zf := Nat → (D → Prop) → (Er → Prop) → Prop
/-- the captured values -/
def pickE (js : List Nat) (env : En) : En := js.map fun j => match (env[j]? : Option (Option DV)) with
  | some (some (DV.val d)) => some (DV.val d)
  | _ => none
def pickV (js : List Nat) (σ : L2.St) : L2.St := js.map fun j => σ[j]?.join
/-- lambda i's reading by the maker's names -/
def ZL (LT : Nat → Option (List Nat × DT)) (env : En) : Zf := fun i R Rx => match LT i with
  | some (js, T) => T (pickE js env) R Rx
  | none => False
section
variable {X : Cx} {pins : List (Addr × Obj)} {σ : List (Option V)} {H : Hp} {s : Shared} {S : Hp} {c : Fm} {env : En}
theorem pickE_get {js : List Nat} {t : Nat} {d : DV} (e : (pickE js env)[t]? = some (some d)) : ∃ (j : Nat) (x : D), js[t]? = some j ∧ d = .val x ∧ env[j]? = some (some (.val x)) := by
  unfold pickE at e
  rw [List.getElem?_map] at e
  obtain ⟨j, ej, e2⟩ := Option.map_eq_some_iff.mp e
  split at e2
  · rename_i x h
    cases e2
    exact ⟨j, x, ej, rfl, h⟩
  · cases e2
end
end DL
namespace DL
open PySem PySem.Spec L2 PyProof.Rows LamX
variable [TbC]
mutual
def closeD (z : Option Addr × Hp) : D → D
  | .fn i cl none => .fn i cl (some z)
  | .lst ds => .lst (closeL z ds)
  | .tup ds => .tup (closeL z ds)
  | d => d
def closeL (z : Option Addr × Hp) : List D → List D
  | [] => []
  | d :: ds => closeD z d :: closeL z ds
end
section
variable {X : Cx} {E : XK} {k kk : Nat} {f : Addr} {fd : FuncData} {ps : List Str} {x : Str} {p pos : Pos} {e : Expr} {es : List Expr} {Tl : DTA} {cl : List (Str × Addr)} {F : Option Addr × Hp → Zf → Spec} {LT : Nat → Option (List Nat × DT)}
def xCallZ (F : Option Addr × Hp → Zf → Spec) (LT : Nat → Option (List Nat × DT)) (Tl : DTA) : DT := fun env R Rx => Tl env (fun ds => ∀ z, F z (ZL LT env) (closeL z ds) R Rx) Rx
end
end DL
namespace DL
open PySem PySem.Spec L2 PyProof.Rows LamX
variable [TbC]
/-- the names that hold data -/
def valE (env : En) : En := env.map fun x => match x with
  | some (DV.val d) => some (DV.val d)
  | _ => none
theorem valE_get {env : En} {j : Nat} {y : DV} (e : (valE env)[j]? = some (some y)) : ∃ d, y = .val d ∧ env[j]? = some (some (.val d)) := by
  unfold valE at e
  rw [List.getElem?_map] at e
  obtain ⟨x, ex, e2⟩ := Option.map_eq_some_iff.mp e
  split at e2
  · rename_i d
    cases e2
    exact ⟨d, rfl, ex⟩
  · cases e2
theorem Kn.vals {c : Fm} {σ : L2.St} {H S : Hp} {env : En} (k : Kn c σ H S env) : Kn (c.at H S) σ H S (valE env) := by
  refine ⟨k.kf.at, by unfold valE; rw [List.length_map]; exact k.len, fun j y e => ?_, fun j1 j2 x y v u a _ e _ _ _ f _ => ?_⟩
  · obtain ⟨d, rfl, e2⟩ := valE_get e
    exact k.sl j _ e2
  · obtain ⟨d, rfl, _⟩ := valE_get e
    exact f
theorem RepN.at {c : Fm} {H S H' S' : Hp} {d : D} {v : V} (k : Kf c H S) {b : Rk} (r : RepN (c.at H S) H' S' b d v) : RepN c H' S' b d v := by
  cases b with
  | old => exact r
  | nw =>
    refine rep_mono (fun a o e => ?_) d v r
    obtain ⟨e1, e2⟩ := newH_some e
    show newH c.H0 S' a = some o
    rw [newH_of (k.h0_none e1)]
    exact e2
  | tr =>
    obtain ⟨as, r, n, q⟩ := r
    exact ⟨as, r, n, fun a m => ⟨(q a m).1, k.h0_none (q a m).2⟩⟩
end DL
namespace DL
open PySem PySem.Spec L2 PyProof.Rows LamX
variable [TbC]
theorem pass_lam {P : Program} {w : World} {K : PySem.W.Frag} {mg : Str → Option Value} {base : Heap} {A : Around} {outer : List Env} {s : Shared} {H : Hp} {E : XK} {N : List Str} {q : LamQ} {cl : List (Str × Addr)} {f c' : Addr} :
    Passes (L2.CX P w) (lamCxB P w K mg base A outer s H E N q cl f c') E := passes_call (takes_of rfl rfl rfl rfl) fun _ _ _ _ h => h
end DL
namespace Hx
open PySem PySem.Spec L2
theorem sup_ok {K : PySem.W.Frag} {C : Addr} {fl : Str} {clo : List (Str × Addr)} {code : Value} (h : supB K C fl clo code = true) : ∃ (cc cda : Addr) (ccl cl : Value) (cdd cld : Option Addr) (ccs csl : Array (Option Value)) (vs : Array Value) (file : Str) (tf : Tok) (cdD : ClassData),
    clo = [(("__class__" : Str), cc)] ∧ code = .ref cda ∧ K.lookup cda = some ⟨ccl, cdd, .fields vs, ccs⟩ ∧ vs[2]? = some (.str file tf) ∧ (fl == file) = true ∧ K.lookup cc = some ⟨cl, cld, .cell (some (.ref C)), csl⟩ ∧ PySem.W.clsIn K C = some cdD := by
  unfold supB at h
  split at h
  · rename_i n cc cda
    obtain ⟨h1, h⟩ := He.ba h
    obtain ⟨h2, h⟩ := He.ba h
    obtain ⟨h3, h4⟩ := He.ba h
    have h1 := of_decide_eq_true h1
    subst h1
    split at h2
    · rename_i cl cld D csl e2
      have h2 := of_decide_eq_true h2
      subst h2
      split at h3
      · rename_i ccl cdd vs ccs e3
        split at h3
        · rename_i file tf e4
          obtain ⟨cdD, hD⟩ := Option.isSome_iff_exists.mp h4
          exact ⟨cc, cda, ccl, cl, cdd, cld, ccs, csl, vs, file, tf, cdD, rfl, rfl, e3, e4, h3, e2, hD⟩
        · cases h3
      · cases h3
    · cases h2
  · cases h
theorem DefX.supF {K : PySem.W.Frag} {d : DefX} {x fl : Str} (e : fnX K (d.ad K) = d.val) (c : d.ok K = true) (hs : d.sup = some (x, fl)) (hd : d.dfl = []) : ∃ (cc cda : Addr) (fd : FuncData), EXS.SupFn K fl d.name d.qual d.params d.body d.scope (He.ga K x) (d.ad K) cc cda fd := by
  obtain ⟨kp, c2⟩ := He.ba c
  unfold fnX at e
  cases q : K.lookup (d.ad K) with
  | none =>
    rw [q] at c2
    cases c2
  | some o =>
    obtain ⟨oc, od, dt, osl⟩ := o
    rw [q] at c2 e
    cases dt with
    | func fd =>
      obtain ⟨n1, n2, n3, n4, n5, n6, n7, n8, n9, n10, n11, n12, n13, n14, n15⟩ := fd
      have c9 : ((PySem.W.codeIn K n13 d.qual && (He.dflB K n8 (d.dvs K) && He.kwdB K n9 (d.kws K))) && cloB K d.sup n7 n13) = true := c2
      obtain ⟨c3, c4⟩ := He.ba c9
      rw [hs] at c4
      have c5 : supB K (He.ga K x) fl n7 n13 = true := c4
      obtain ⟨cc, cda, ccl, cl, cdd, cld, ccs, csl, vs, file, tf, cdD, r1, r2, r3, r4, r5, r6, r7⟩ := sup_ok c5
      subst r1 r2
      have e2 : (some (n1, n2, n3, n4, n5, n6, ([] : List (Str × Addr)), n15) : He.FnW) = some (d.name, d.qual, d.params, .stmts d.body, d.scope, mainGlobals, [], builtinsNs) := e
      simp only [Option.some.injEq, Prod.mk.injEq] at e2
      obtain ⟨h1, h2, h3, h4, h5, h6, _, h8⟩ := e2
      subst h1 h2 h3 h4 h5 h6 h8
      obtain ⟨k1, k2⟩ := He.ba c3
      obtain ⟨k3, _⟩ := He.ba k2
      have k4 := He.dflB_ok k3
      have hdv : d.dvs K = [] := by unfold DefX.dvs; rw [hd]; rfl
      rw [hdv] at k4
      have k5 : n8 = .none := by
        rcases k4 with ⟨_, z⟩ | ⟨z, _⟩
        · exact z
        · exact absurd rfl z
      exact ⟨cc, cda, _, ⟨oc, ccl, cl, n8, n9, n10, n11, n14, n12, od, cdd, cld, osl, ccs, csl, vs, file, tf, cdD, rfl, q, k1, r3, r4, r5, r6, r7, k5⟩, kp⟩
    | _ => cases c2
theorem SaysX.sup_ {fx : List (PySem.W.Frag → Bool)} {fn : List DefX} {K : PySem.W.Frag} (c : SaysX fx fn K) (i : Nat) {d : DefX} {x fl : Str} (h : fn[i]? = some d := by rfl) (hs : d.sup = some (x, fl) := by rfl) (hd : d.dfl = [] := by rfl) : ∃ (cc cda : Addr) (fd : FuncData), EXS.SupFn K fl d.name d.qual d.params d.body d.scope (He.ga K x) (d.ad K) cc cda fd := by
  have c2 := (He.ba (show ((fx.all fun f => f K) && fn.all fun d => d.ok K) = true from congrArg (fun z : He.AlD => z.1) c)).2
  have e : fn.map (fun d => fnX K (d.ad K)) = fn.map DefX.val := congrArg (fun z : He.AlD => z.2) c
  have e2 : (fn.map fun d => fnX K (d.ad K))[i]? = (fn.map DefX.val)[i]? := by rw [e]
  rw [List.getElem?_map, List.getElem?_map, h] at e2
  exact DefX.supF (Option.some.inj e2) (List.all_eq_true.mp c2 d (List.mem_of_getElem? h)) hs hd
theorem ErrX.excD {K : PySem.W.Frag} {C f : Addr} (h : ErrX K C f) : EXS.ExcD K C := ⟨h.ox, h.st, h.su, h.mr, h.ve⟩
end Hx
namespace DL
open PySem PySem.Spec L2
/-- an own error class of the text, known by its name -/
structure Xe (K : PySem.W.Frag) (mg : Str → Option Value) (fl : Str) (x : Str) (st : Stmt) where
  C : Addr
  f : Addr
  cc : Addr
  cda : Addr
  fd : FuncData
  g : mg x = some (.ref C)
  e : Hx.ErrX K C f
  F : EXS.SupFn K fl "__init__" (x ++ ".__init__") (defArgs st) (defBody st) (defScope st) C f cc cda fd
theorem Xe.binds {K : PySem.W.Frag} {mg : Str → Option Value} {fl x : Str} {st : Stmt} {ps : List Str} (D : Xe K mg fl x st)
    (h : ∀ (kV doc pm cdv ct : Value) (an : Option Addr) (cc : Addr) (us : List Value), us.length = ps.length → bindArgs (PySem.W.ksFn "__init__" (x ++ ".__init__") (defArgs st) (defBody st) (defScope st) .none kV doc pm an cdv ct cc) ⟨us, []⟩ = pure (ps.zip us)) : Binds K D.fd ps [] := by
  obtain ⟨_, _, _, dV, _, _, _, _, _, _, _, _, _, _, _, _, _, _, _, e, _, _, _, _, _, _, _, e2⟩ := D.F.ex
  rw [e, e2]
  exact Binds.all (h _ _ _ _ _ _ _)
end DL
namespace DL
open PySem PySem.Spec L2
def noPos : Pos := ⟨0, 0, 0, 0⟩
def noEx : Expr := .Constant .none 0 noPos
/-- an expression's i-th part -/
def kid : Expr → Nat → Expr
  | .Call f _ _ _, 0 => f
  | .Call _ as _ _, i + 1 => as.getD i noEx
  | .List es _, i => es.getD i noEx
  | .Tuple es _ _, i => es.getD i noEx
  | .BoolOp _ es _, i => es.getD i noEx
  | .BinOp l _ _ _, 0 => l
  | .BinOp _ _ r _, _ + 1 => r
  | .UnaryOp _ x _, _ => x
  | .Compare l _ _ _, 0 => l
  | .Compare _ _ cs _, i + 1 => cs.getD i noEx
  | .Attribute v _ _, _ => v
  | .Subscript v _ _, 0 => v
  | .Subscript _ s _, _ + 1 => s
  | .IfExp t _ _ _, 0 => t
  | .IfExp _ b _ _, 1 => b
  | .IfExp _ _ o _, _ => o
  | _, _ => noEx
/-- a statement's expression -/
def sEx : Stmt → Expr
  | .Assign _ v _ => v
  | .Return (some v) _ => v
  | .Expr v _ => v
  | .If t _ _ _ => t
  | .For _ it _ _ _ => it
  | .While t _ _ _ => t
  | _ => noEx
/-- a statement's i-th part: its body, then its else -/
def sSub : Stmt → Nat → Stmt
  | .For _ _ b _ _, i => b.getD i (.Pass noPos)
  | .While _ b _ _, i => b.getD i (.Pass noPos)
  | .If _ b o _, i => (b ++ o).getD i (.Pass noPos)
  | _, _ => .Pass noPos
def lamQ (qual : Str) (dfl : List Int) : Expr → LamQ
  | .Lambda ps b sc _ => ⟨qual, ps, b, sc, dfl⟩
  | e => ⟨qual, defArgs (.Pass noPos), e, defScope (.Pass noPos), dfl⟩
/-- no default: nothing is bound -/
theorem bind0 {q : LamQ} (h : ∀ (cl : List (Str × Addr)) (doc pm cdv ctv : Value), bindArgs (PySem.W.kdv_fn "<lambda>" q.qual q.params (.expr q.body) q.scope cl .none doc pm cdv ctv) ⟨[], []⟩ = pure []) (hd : q.dfl = []) :
    ∀ (cl : List (Str × Addr)) (dV doc pm cdv ctv : Value) (s : Shared), DfAt s.heap dV q.dfl → ∃ bs, BindsTo s (PySem.W.kdv_fn "<lambda>" q.qual q.params (.expr q.body) q.scope cl dV doc pm cdv ctv) ⟨[], []⟩ bs ∧ ∀ y ∈ bs, q.scope.names.lookup y.1 = some .local := by
  intro cl dV doc pm cdv ctv s hA
  rw [hd] at hA
  rcases hA with ⟨_, e⟩ | ⟨z, _⟩
  · subst e
    exact ⟨[], BindsTo.of_eq (h _ _ _ _ _), fun y hy => nomatch hy⟩
  · exact absurd rfl z
/-- one default -/
theorem bind1 {q : LamQ} {x : Str} {n : Int} (h : ∀ (cl : List (Str × Addr)) (doc pm cdv ctv : Value) (t : Addr) (u : Value), ∃ k : Option (Array Value) → Sem (List (Str × Value)), bindArgs (PySem.W.kdv_fn "<lambda>" q.qual q.params (.expr q.body) q.scope cl (.ref t) doc pm cdv ctv) ⟨[], []⟩ = seqItems? (.ref t) >>= k ∧ k (some #[u]) = pure [(x, u)])
    (hd : q.dfl = [n]) (hx : q.scope.names.lookup x = some .local) :
    ∀ (cl : List (Str × Addr)) (dV doc pm cdv ctv : Value) (s : Shared), DfAt s.heap dV q.dfl → ∃ bs, BindsTo s (PySem.W.kdv_fn "<lambda>" q.qual q.params (.expr q.body) q.scope cl dV doc pm cdv ctv) ⟨[], []⟩ bs ∧ ∀ y ∈ bs, q.scope.names.lookup y.1 = some .local := by
  intro cl dV doc pm cdv ctv s hA
  rw [hd] at hA
  rcases hA with ⟨z, _⟩ | ⟨_, t, o, its, m, e, ho, hs, hv⟩
  · cases z
  · subst e
    cases hv with
    | @cons _ u _ us hu hv =>
      cases hv
      obtain ⟨k, h1, h2⟩ := h cl doc pm cdv ctv t u
      refine ⟨[(x, u)], BindsTo.of_defaults rfl ho hs h1 h2, fun y hy => ?_⟩
      rw [List.mem_singleton.mp hy]
      exact hx
end DL
namespace DL
open PySem PySem.Spec L2
variable [TbC]
section
variable {X : Cx} {k : Nat} {C g : Addr} {fd : FuncData} {ps : List Str} {sp : Sp} {F : Spec}
def negR (R : D → Prop) : D → Prop
  | .bl b => R (.bl (!b))
  | _ => False
theorem w_negR {R : D → Prop} {b : Bool} : negR R (.bl b) = R (.bl (!b)) := rfl
def opOwnN (C : Addr) (F : Spec) : DOp := fun x y R => asO C (fun _ _ => True) x ∧ asO C (fun _ _ => True) y ∧ F [x, y] (negR R) noX
theorem w_opOwnN {C : Addr} {F : Spec} {x y : D} {R : D → Prop} : opOwnN C F x y R = (asO C (fun _ _ => True) x ∧ asO C (fun _ _ => True) y ∧ F [x, y] (negR R) noX) := rfl
end
theorem w_par3 {i j l : Nat} {Tl : DTA} {Q : DEnds} {env : En} : zPar3 i j l Tl Q env = Tl env (fun ds => match ds with
  | [d, d', d''] => Q.nx (put l d'' (put j d' (put i d env)))
  | _ => False) Q.ex := rfl
end DL
namespace DL
open PySem PySem.Spec L2 PyProof.Rows LamX
variable [TbC]
/-- i-th statement of a def's body -/
def dSub (st : Stmt) (i : Nat) : Stmt := (defBody st).getD i (.Pass noPos)
def lamQual (qual : Str) (sc : Scope) : Str := (PyProof.Rows.envOfC qual sc 0 0 .none).qual ++ "<lambda>"
/-- what lambda q may name, asked by reckoning -/
def lamIB (N : List Str) (sc : Scope) (q : LamQ) (Ni : List Str) (js : List Nat) : Bool :=
  decide (q.scope.kind = .function) && !q.scope.isCoroutine && !q.scope.isGenerator && (q.scope.names.all fun y => !decide (y.2 = .cell) && (!decide (y.2 = .free) || decide (sc.names.lookup y.1 = some .cell) || decide (sc.names.lookup y.1 = some .free))) &&
  (Ni.all fun y => decide (q.scope.names.lookup y = some .free)) && decide (js.map (fun j => N[j]?) = Ni.map some)
def BindL (q : LamQ) : Prop := ∀ (cl : List (Str × Addr)) (dV doc pm cdv ctv : Value) (s : Shared), DfAt s.heap dV q.dfl → ∃ bs, BindsTo s (PySem.W.kdv_fn "<lambda>" q.qual q.params (.expr q.body) q.scope cl dV doc pm cdv ctv) ⟨[], []⟩ bs ∧ ∀ y ∈ bs, q.scope.names.lookup y.1 = some .local
theorem lamI_of {N : List Str} {sc : Scope} {i : Nat} {q : LamQ} {Ni : List Str} {js : List Nat} (hq : TbC.lq i = q) (h : lamIB N sc q Ni js = true) (hb : BindL q) : LamI N sc i Ni js := by
  unfold lamIB at h
  simp only [Bool.and_eq_true, Bool.or_eq_true, Bool.not_eq_true', decide_eq_true_eq, decide_eq_false_iff_not, List.all_eq_true] at h
  obtain ⟨⟨⟨⟨⟨h1, h2⟩, h3⟩, h4⟩, h5⟩, h6⟩ := h
  subst hq
  refine ⟨h1, h2, h3, fun y hy => (h4 y hy).1, fun y hy e => ?_, fun t y e => ?_, ?_, hb⟩
  · rcases (h4 y hy).2 with (z | z) | z
    · exact absurd e z
    · exact .inl z
    · exact .inr z
  · have e2 := congrArg (fun l => l[t]?) h6
    simp only [List.getElem?_map, e, Option.map_some] at e2
    refine ⟨h5 y (List.mem_of_getElem? e), ?_⟩
    cases q : js[t]? with
    | none => rw [q] at e2; cases e2
    | some j =>
      rw [q] at e2
      exact ⟨j, rfl, Option.some.inj e2⟩
  · have := congrArg List.length h6
    simpa using this
/-- the lambdas of a def: their captured names' places, what they tell -/
def ltab (L : List (Nat × List Nat × DT)) (i : Nat) : Option (List Nat × DT) := L.lookup i
def LTok (P : Program) (w : World) (K : PySem.W.Frag) (mg : Str → Option Value) (kk : Nat) (N : List Str) (sc : Scope) (L : List (Nat × List Nat × DT)) : Prop :=
  ∀ i js T, ltab L i = some (js, T) → ∃ Ni, LamI N sc i Ni js ∧ ∀ (base : Heap) (A : Around) (outer : List Env) (s : Shared) (H : Hp) (E : XK) (f c' : Addr) (cl : List (Str × Addr)), Room kk (A.deeper (lamEnvB (TbC.lq i) cl s.heap.objs.size f c')) →
      DE (lamCxB P w K mg base A outer s H E Ni (TbC.lq i) cl f c') E (TbC.lq i).body T
section
variable {P : Program} {w : World} {K : PySem.W.Frag} {mg : Str → Option Value} {kk : Nat} {N : List Str} {sc : Scope}
theorem lt_nil : LTok P w K mg kk N sc [] := fun i js T e => nomatch (show (none : Option (List Nat × DT)) = some (js, T) from e)
theorem lt_cons {i : Nat} {q : LamQ} {Ni : List Str} {js : List Nat} {T : DT} {L : List (Nat × List Nat × DT)} (hq : TbC.lq i = q) (hI : lamIB N sc q Ni js = true) (hb : BindL q)
    (hd : ∀ (base : Heap) (A : Around) (outer : List Env) (s : Shared) (H : Hp) (E : XK) (f c' : Addr) (cl : List (Str × Addr)), Room kk (A.deeper (lamEnvB q cl s.heap.objs.size f c')) → DE (lamCxB P w K mg base A outer s H E Ni q cl f c') E q.body T)
    (rest : LTok P w K mg kk N sc L) : LTok P w K mg kk N sc ((i, js, T) :: L) := fun i' js' T' e => by
  unfold ltab at e
  rw [List.lookup_cons] at e
  by_cases z : i' = i
  · subst z
    rw [beq_self_eq_true] at e
    cases e
    exact ⟨Ni, lamI_of hq hI hb, by rw [hq]; exact hd⟩
  · rw [beq_false_of_ne z] at e
    exact rest i' js' T' e
/-- what the table says of lambda i -/
theorem ZL_at {L : List (Nat × List Nat × DT)} {env : En} {i : Nat} {js : List Nat} {T : DT} {R : D → Prop} {Rx : Er → Prop} (h : ltab L i = some (js, T)) : ZL (ltab L) env i R Rx = T (pickE js env) R Rx := by
  unfold ZL
  rw [h]
end
/-- free names of a lambda are cells of its maker -/
def lamFB (sc scope : Scope) : Bool := scope.names.all fun y => !decide (y.2 = .free) || decide (sc.names.lookup y.1 = some .cell) || decide (sc.names.lookup y.1 = some .free)
theorem lamF_by {sc scope : Scope} (h : lamFB sc scope = true) : ∀ y ∈ scope.names, y.2 = .free → sc.names.lookup y.1 = some .cell ∨ sc.names.lookup y.1 = some .free := by
  unfold lamFB at h
  simp only [Bool.or_eq_true, Bool.not_eq_true', decide_eq_true_eq, decide_eq_false_iff_not, List.all_eq_true] at h
  intro y hy e
  rcases h y hy with (z | z) | z
  · exact absurd e z
  · exact .inl z
  · exact .inr z
section
variable {X : Cx} {E : XK} {i : Nat} {c P : Addr} {params : Arguments} {body : Expr} {scope : Scope} {pos : Pos} {q : Str}
theorem d_lamQ0 (hqe : X.env.qual ++ "<lambda>" = q) (TB : TabB X.base X.mg c P) (hcode : X.env.code = .ref c) (hP : (P, q) ∈ TbC.ts) (hu : ∀ p ∈ TbC.ts, p.1 = P → p.2 = q)
    (hq : TbC.lq i = ⟨q, params, body, scope, []⟩) (L : LamS X.env.scope scope) (hdef : defaultsOf params X.env = ([], [])) {cl : List (Str × Addr)} (hcl : X.env.cells = cl) : DE X E (.Lambda params body scope pos) (xLam i cl) := by
  subst hqe
  exact d_lam0 TB hcode hP hu hq L hdef hcl
theorem d_lamQ1 {n : Int} {kk : Nat} {p1 : Pos} (hqe : X.env.qual ++ "<lambda>" = q) (TB : TabB X.base X.mg c P) (hcode : X.env.code = .ref c) (hP : (P, q) ∈ TbC.ts) (hu : ∀ p ∈ TbC.ts, p.1 = P → p.2 = q)
    (hq : TbC.lq i = ⟨q, params, body, scope, [n]⟩) (hfree : ∀ y ∈ scope.names, y.2 = .free → X.env.scope.names.lookup y.1 = some .cell ∨ X.env.scope.names.lookup y.1 = some .free) (hd : params.defaults = [.Constant (.int n) kk p1]) (hk : params.kw_defaults = []) {cl : List (Str × Addr)} (hcl : X.env.cells = cl) :
    DE X E (.Lambda params body scope pos) (xLam i cl) := by
  subst hqe
  exact d_lam1 TB hcode hP hu hq hfree hd hk hcl
end
end DL
namespace DL
open PySem PySem.Spec L2
variable [TbC]
theorem seq_step {A B : DTS} {Q : DEnds} {env : En} (h : ∀ N : En → Prop, (∀ e, B Q e → N e) → A { Q with nx := N } env) : zSeq A B Q env := h _ fun _ h => h
theorem for_step {Ti : DTI} {G : DG} {Tb : DTS} {Q : DEnds} {env : En} (h : ∀ B : DEnds → En → Prop, (∀ Q e, Tb Q e → B Q e) → zFor Ti G B Q env) : zFor Ti G Tb Q env := h _ fun _ _ h => h
/-- both ways behind a test -/
theorem if_step {T : DTT} {U W : DTS} {Q : DEnds} {env : En} (h : ∀ U' W' : DEnds → En → Prop, (∀ Q e, U Q e → U' Q e) → (∀ Q e, W Q e → W' Q e) → zIf T U' W' Q env) : zIf T U W Q env := h _ _ (fun _ _ h => h) fun _ _ h => h
section
variable {P : Program} {w : World} {K : PySem.W.Frag} {mg : Str → Option Value} {kk : Nat} {N : List Str} {sc : Scope} {L : List (Nat × List Nat × DT)}
theorem lt_hide (h : LTok P w K mg kk N sc L) : ∃ L', LTok P w K mg kk N sc L' ∧ ∀ i js T, ltab L i = some (js, T) → ∀ (env : En) (R : D → Prop) (Rx : Er → Prop), ZL (ltab L') env i R Rx = T (pickE js env) R Rx := ⟨L, h, fun i js T e env R Rx => ZL_at e⟩
end
def pk : Option (Option DV) → Option DV
  | some (some (.val d)) => some (.val d)
  | _ => none
theorem w_pk {d : D} : pk (some (some (.val d))) = some (.val d) := rfl
theorem w_pickE_nil {env : En} : pickE [] env = [] := rfl
theorem w_pickE_cons {j : Nat} {js : List Nat} {env : En} : pickE (j :: js) env = pk env[j]? :: pickE js env := rfl
theorem w_xLam {i : Nat} {cl : List (Str × Addr)} {env : En} {R : D → Prop} {Rx : Er → Prop} : xLam i cl env R Rx = R (.fn i cl none) := rfl
theorem w_callZ {F : Option Addr × Hp → Zf → Spec} {LT : Nat → Option (List Nat × DT)} {Tl : DTA} {env : En} {R : D → Prop} {Rx : Er → Prop} : xCallZ F LT Tl env R Rx = Tl env (fun ds => ∀ z, F z (ZL LT env) (closeL z ds) R Rx) Rx := rfl
theorem repN_0 : List.replicate 0 (none : Option DV) = [] := rfl
theorem repN_s {n : Nat} : List.replicate (n + 1) (none : Option DV) = none :: List.replicate n none := rfl
theorem repone {α : Type} {n : Nat} {x : α} : (List.replicate n [x]).flatten = List.replicate n x := by
  rw [List.flatten_replicate_singleton]
theorem repint {n : Nat} {x : Int} : List.replicate n (D.int x) = (List.replicate n x).map D.int := by rw [List.map_replicate]
end DL
namespace DL
open PySem PySem.Spec L2
variable [TbC]
/-- data of the built-in types -/
def D.bty : D → Option String
  | .non => some "NoneType"
  | .bl _ => some "bool"
  | .int _ => some "int"
  | .str _ => some "str"
  | .lst _ => some "list"
  | .tup _ => some "tuple"
  | _ => none
def asA (d : D) : Prop := d.bty ≠ none
theorem w_asA_int {i : Int} : asA (.int i) = True := eq_true fun z => nomatch z
theorem w_asA_non : asA .non = True := eq_true fun z => nomatch z
theorem w_asA_bl {b : Bool} : asA (.bl b) = True := eq_true fun z => nomatch z
theorem w_asA_str {s : Str} : asA (.str s) = True := eq_true fun z => nomatch z
theorem w_asA_lst {xs : List D} : asA (.lst xs) = True := eq_true fun z => nomatch z
theorem w_asA_tup {xs : List D} : asA (.tup xs) = True := eq_true fun z => nomatch z
section
variable {X : Cx} {CX : CXT} {k : Nat} {C g : Addr} {fd : FuncData} {ps : List Str} {F : Spec} {E : XK} {a b : Expr} {Ta Tb : DT} {pos : Pos}
def xOBa (C : Addr) (F : Spec) (Ta Tb : DT) : DT := fun env R Rx => Ta env (fun x => Tb env (fun y => asO C (fun _ _ => True) x ∧ asA y ∧ F [x, y] R Rx) Rx) Rx
theorem w_xOBa {C : Addr} {F : Spec} {Ta Tb : DT} {env : En} {R : D → Prop} {Rx : Er → Prop} : xOBa C F Ta Tb env R Rx = Ta env (fun x => Tb env (fun y => asO C (fun _ _ => True) x ∧ asA y ∧ F [x, y] R Rx) Rx) Rx := rfl
end
end DL
namespace DL
open PySem PySem.Spec L2
end DL
namespace DL
open PySem PySem.Spec L2
variable [TbC]
/-- the text with these signs -/
def tx (l : List Nat) : Str := ⟨⟨l⟩⟩
theorem tx_of (s : Str) : s = tx s.cps.toList := rfl
theorem w_tx_len {l : List Nat} : (tx l).length = l.length := rfl
theorem w_tx_size {l : List Nat} : (tx l).cps.size = l.length := rfl
theorem w_tx_cps {l : List Nat} : (tx l).cps.toList = l := rfl
theorem w_tx_app {a b : List Nat} : tx a ++ tx b = tx (a ++ b) := by
  show Str.mk _ = Str.mk _
  congr 1
  show (⟨a⟩ : Array Nat) ++ (⟨b⟩ : Array Nat) = ⟨a ++ b⟩
  simp
theorem tx_inj {a b : List Nat} (h : tx a = tx b) : a = b := by
  have := congrArg (fun s : Str => s.cps.toList) h
  exact this
theorem w_tx_eq {a b : List Nat} : (tx a = tx b) = (a = b) := propext ⟨tx_inj, fun h => by rw [h]⟩
theorem w_tx_beq {a b : List Nat} : (tx a == tx b) = decide (a = b) := by
  rw [Bool.eq_iff_iff, beq_iff_eq, decide_eq_true_eq]
  exact ⟨tx_inj, fun h => by rw [h]⟩
theorem w_tx_mul {a : List Nat} {n : Nat} : mulS (tx a) n = tx (List.replicate n a).flatten := rfl
theorem w_tx_signs {l : List Nat} : signs (tx l) = l.map fun c => .str (tx [c]) := rfl
theorem tx_join (xs : List (List Nat)) : Txt.join (tx []) (xs.map tx) = tx xs.flatten := by
  show Builtin.Str.glued (tx []) (xs.map tx) = _
  rw [StrLaws.glued_eq_join]
  have e0 : ∀ a : Str, a ++ tx [] = a := fun a => by rw [tx_of a, w_tx_app, List.append_nil]
  induction xs with
  | nil => rfl
  | cons a r ih =>
    cases r with
    | nil => show tx a = _; simp
    | cons b r =>
      show tx a ++ tx [] ++ Str.join (tx []) ((b :: r).map tx) = _
      rw [ih, e0, w_tx_app]
      rfl
/-- the signs of a digit -/
theorem tx_digit {n : Int} (h0 : 0 ≤ n) (h1 : n < 10) : ((toString n : String) : Str) = tx [(48 + n).toNat] := by
  have : n = 0 ∨ n = 1 ∨ n = 2 ∨ n = 3 ∨ n = 4 ∨ n = 5 ∨ n = 6 ∨ n = 7 ∨ n = 8 ∨ n = 9 := by omega
  rcases this with rfl | rfl | rfl | rfl | rfl | rfl | rfl | rfl | rfl | rfl <;> decide +kernel
theorem w_tx_emp : (Str.ofString "") = tx [] := by decide +kernel
theorem w_tx_one {c : Nat} : (Str.mk #[c]) = tx [c] := rfl
end DL
namespace DL
open PySem PySem.Spec L2
variable [TbC]
def xCallM (F : Spec) (n m : Nat) (gD : List D → List D → List D) (Tl Tk : DTA) : DT := fun env R Rx => Tl env (fun xs => Tk env (fun zs => xs.length = n ∧ zs.length = m ∧ F (gD xs zs) R Rx) Rx) Rx
theorem w_callM {F : Spec} {n m : Nat} {gD : List D → List D → List D} {Tl Tk : DTA} {env : En} {R : D → Prop} {Rx : Er → Prop} : xCallM F n m gD Tl Tk env R Rx = Tl env (fun xs => Tk env (fun zs => xs.length = n ∧ zs.length = m ∧ F (gD xs zs) R Rx) Rx) Rx := rfl
end DL
namespace DL
open PySem PySem.Spec L2
variable [TbC]
section
variable {P : Program} {w : World} {K : PySem.W.Frag} {mg : Str → Option Value} {base : Heap} {k : Nat} {name qual : Str} {params : Arguments} {rest : List Stmt} {scope : Scope} {C Dd f cc cda g2 : Addr} {fd : FuncData} {N ps : List Str} {e : Expr} {es : List Expr} {p0 p1 p2 p3 p4 : Pos} {x0 : Str} {ar : Arg} {Fs Fb : Spec}
/-- what the base's __init__ leaves, handed to the rest of the body -/
def toRest (C : Addr) (U : List Str → List D → Prop) : D → Prop
  | .obj C' ks xs => C' = C ∧ U ks xs
  | _ => False
end
end DL
namespace DL
open PySem PySem.Spec L2
variable [TbC]
/-- {x}: a text or an int, as a text -/
def fFmt (R : Str → Prop) : D → Prop
  | .str y => y.length ≤ sizeLine ∧ R y
  | .int i => i.natAbs.log2 < 1920 ∧ R (toString i)
  | _ => False
theorem w_fFmtS {R : Str → Prop} {y : Str} : fFmt R (.str y) = (y.length ≤ sizeLine ∧ R y) := rfl
theorem w_fFmtI {R : Str → Prop} {i : Int} : fFmt R (.int i) = (i.natAbs.log2 < 1920 ∧ R (toString i)) := rfl
/-- the parts of an f-string: what is joined so far, what follows -/
abbrev DTJ := Str → En → (Str → Prop) → (Er → Prop) → Prop
def jfNil : DTJ := fun acc _ R _ => R acc
def jfCons (T : DT) (U : DTJ) : DTJ := fun acc env R Rx => T env (fun d => match d with
  | .str y => (acc ++ y).length ≤ sizeLine ∧ U (acc ++ y) env R Rx
  | _ => False) Rx
theorem w_jfNil {acc : Str} {env : En} {R : Str → Prop} {Rx : Er → Prop} : jfNil acc env R Rx = R acc := rfl
def asTx (R : Str → Prop) : D → Prop
  | .str y => R y
  | _ => False
theorem w_asTx {R : Str → Prop} {y : Str} : asTx R (.str y) = R y := rfl
theorem w_jfCons {T : DT} {U : DTJ} {acc : Str} {env : En} {R : Str → Prop} {Rx : Er → Prop} : jfCons T U acc env R Rx = T env (asTx fun y => (acc ++ y).length ≤ sizeLine ∧ U (acc ++ y) env R Rx) Rx := by
  unfold jfCons asTx
  rfl
section
variable {X : Cx} {E : XK} {e : Expr} {es : List Expr} {T : DT} {U : DTJ} {pos : Pos}
def xFmt (T : DT) : DT := fun env R Rx => T env (fFmt fun y => R (.str y)) Rx
theorem w_xFmt {T : DT} {env : En} {R : D → Prop} {Rx : Er → Prop} : xFmt T env R Rx = T env (fFmt fun y => R (.str y)) Rx := rfl
def xJoined (U : DTJ) : DT := fun env R Rx => U Str.empty env (fun out => R (.str out)) Rx
theorem w_xJoined {U : DTJ} {env : En} {R : D → Prop} {Rx : Er → Prop} : xJoined U env R Rx = U Str.empty env (fun out => R (.str out)) Rx := rfl
end
end DL
namespace DL
open PySem PySem.Spec L2
variable [TbC]
section
variable {X : Cx} {E : XK} {e : Expr} {st : Stmt} {sts : List Stmt} {T U : DT}
def xAlt (T U : DT) : DT := fun env R Rx => T env R Rx ∨ U env R Rx
end
section
variable {X : Cx} {E : XK} {e : Expr} {f : Str} {pos : Pos} {C : Addr} {u : Value} {d0 : D} {To : DT}
def xCon (C : Addr) (f : Str) (d0 : D) (Te : DT) : DT := fun env R Rx => Te env (asO C fun ks xs => fld ks xs f = none ∧ R d0) Rx
end
end DL
namespace PySem
open Sem (wp)
end PySem
namespace DL
open PySem PySem.Spec L2
variable [TbC]
section
variable {X : Cx} {pins : List (Addr × Obj)} {σ : St} {H : Hp} {s : Shared} {k : Nat} {f g C : Addr} {fd : FuncData} {ps : List Str} {sp : Sp} {F : Spec}
def blR (R : D → Prop) : D → Prop
  | .bl n => R (.bl n)
  | _ => False
theorem w_blR {R : D → Prop} {n : Bool} : blR R (.bl n) = R (.bl n) := rfl
def fBoolOw (C : Addr) (F : Spec) : DFn
  | [x], R => asO C (fun _ _ => True) x ∧ F [x] (blR R) noX
  | _, _ => False
theorem w_fBoolOw {C : Addr} {F : Spec} {x : D} {R : D → Prop} : fBoolOw C F [x] R = (asO C (fun _ _ => True) x ∧ F [x] (blR R) noX) := rfl
def stR (R : D → Prop) : D → Prop
  | .str n => R (.str n)
  | _ => False
theorem w_stR {R : D → Prop} {n : Str} : stR R (.str n) = R (.str n) := rfl
def fReprOw (C : Addr) (F : Spec) : DFn
  | [x], R => asO C (fun _ _ => True) x ∧ F [x] (stR R) noX
  | _, _ => False
theorem w_fReprOw {C : Addr} {F : Spec} {x : D} {R : D → Prop} : fReprOw C F [x] R = (asO C (fun _ _ => True) x ∧ F [x] (stR R) noX) := rfl
def xTruOw (C : Addr) (F : Spec) (Ta : DT) : DTT := fun env R Rx => Ta env (fun x => asO C (fun _ _ => True) x ∧ F [x] (asB R) noX) Rx
def fBool : DFn
  | [.bl b], R => R (.bl b)
  | [.int i], R => R (.bl (i != 0))
  | _, _ => False
theorem w_fBoolB {b : Bool} {R : D → Prop} : fBool [.bl b] R = R (.bl b) := rfl
theorem w_fBoolI {i : Int} {R : D → Prop} : fBool [.int i] R = R (.bl (i != 0)) := rfl
end
end DL
namespace DL
open PySem PySem.Spec L2
variable [TbC]
/-- a def that says super(): its function -/
structure Dsup (K : PySem.W.Frag) (fl x qual : Str) (st : Stmt) (D : Addr) where
  f : Addr
  cc : Addr
  cda : Addr
  fd : FuncData
  F : EXS.SupFn K fl x qual (defArgs st) (defBody st) (defScope st) D f cc cda fd
theorem Dsup.binds {K : PySem.W.Frag} {fl x qual : Str} {st : Stmt} {C : Addr} {ps : List Str} (D : Dsup K fl x qual st C)
    (h : ∀ (kV doc pm cdv ct : Value) (an : Option Addr) (cc : Addr) (us : List Value), us.length = ps.length → bindArgs (PySem.W.ksFn x qual (defArgs st) (defBody st) (defScope st) .none kV doc pm an cdv ct cc) ⟨us, []⟩ = pure (ps.zip us)) : Binds K D.fd ps [] := by
  obtain ⟨_, _, _, dV, _, _, _, _, _, _, _, _, _, _, _, _, _, _, _, e, _, _, _, _, _, _, _, e2⟩ := D.F.ex
  rw [e, e2]
  exact Binds.all (h _ _ _ _ _ _ _)
theorem w_toRest {C C' : Addr} {U : List Str → List D → Prop} {ks : List Str} {xs : List D} : toRest C U (.obj C' ks xs) = (C' = C ∧ U ks xs) := rfl
theorem w_xCon {C : Addr} {f : Str} {d0 : D} {Te : DT} {env : En} {R : D → Prop} {Rx : Er → Prop} : xCon C f d0 Te env R Rx = Te env (asO C fun ks xs => fld ks xs f = none ∧ R d0) Rx := rfl
theorem w_xAlt {T U : DT} {env : En} {R : D → Prop} {Rx : Er → Prop} : xAlt T U env R Rx = (T env R Rx ∨ U env R Rx) := rfl
end DL
namespace DL
open PySem PySem.Spec L2
variable [TbC]
section
variable {X : Cx} {E : XK} {a : Expr} {p pos : Pos} {Tl Tk : DTA}
def fEnumK (R : List D → Prop) (ds : List D) : List D → Prop
  | [.int k] => match ds with
    | [.lst xs] => -(2 ^ 63) ≤ k ∧ k < 2 ^ 63 ∧ R (nums k xs)
    | _ => False
  | _ => False
def xEnumK (Tl Tk : DTA) : DTI := fun env R Rx => Tl env (fun ds => Tk env (fun es => fEnumK R ds es) Rx) Rx
theorem w_xEnumK {Tl Tk : DTA} {env : En} {R : List D → Prop} {Rx : Er → Prop} : xEnumK Tl Tk env R Rx = Tl env (fun ds => Tk env (fun es => fEnumK R ds es) Rx) Rx := rfl
theorem w_fEnumK {R : List D → Prop} {xs : List D} {k : Int} : fEnumK R [.lst xs] [.int k] = (-(2 ^ 63) ≤ k ∧ k < 2 ^ 63 ∧ R (nums k xs)) := rfl
end
end DL
namespace DL
open PySem PySem.Spec L2 PyProof.Rows
variable [TbC]
section
variable {X : Cx}
def fAnyI : DFn
  | [.lst xs], R => ∃ ns, asInts xs = some ns ∧ R (.bl (ns.any fun n => n != 0))
  | [.tup xs], R => ∃ ns, asInts xs = some ns ∧ R (.bl (ns.any fun n => n != 0))
  | _, _ => False
theorem w_fAnyI {xs : List D} {R : D → Prop} : fAnyI [.lst xs] R = ∃ ns, asInts xs = some ns ∧ R (.bl (ns.any fun n => n != 0)) := rfl
theorem w_fAnyIT {xs : List D} {R : D → Prop} : fAnyI [.tup xs] R = ∃ ns, asInts xs = some ns ∧ R (.bl (ns.any fun n => n != 0)) := rfl
end
end DL
namespace DL
open PySem PySem.Spec L2 PyProof.Rows
variable [TbC]
def fLenSetL (R : D → Prop) : D → Prop
  | .lst xs => ∃ ns, asInts xs = some ns ∧ ns.length ≤ 60 ∧ ∀ out : List Int, out.Nodup → (∀ k, k ∈ out ↔ k ∈ ns) → R (.int (out.length : Nat))
  | _ => False
def xLenSetL (Ta : DT) : DT := fun env R Rx => Ta env (fLenSetL R) Rx
theorem w_xLenSetL {Ta : DT} {env : En} {R : D → Prop} {Rx : Er → Prop} : xLenSetL Ta env R Rx = Ta env (fLenSetL R) Rx := rfl
theorem w_fLenSetL {xs : List D} {R : D → Prop} : fLenSetL R (.lst xs) = ∃ ns, asInts xs = some ns ∧ ns.length ≤ 60 ∧ ∀ out : List Int, out.Nodup → (∀ k, k ∈ out ↔ k ∈ ns) → R (.int (out.length : Nat)) := rfl
end DL
namespace DL
open PySem PySem.Spec L2
variable [TbC]
def xItAlt (T U : DTI) : DTI := fun env R Rx => T env R Rx ∨ U env R Rx
theorem w_xItAlt {T U : DTI} {env : En} {R : List D → Prop} {Rx : Er → Prop} : xItAlt T U env R Rx = (T env R Rx ∨ U env R Rx) := rfl
theorem i_alt {X : Cx} {E : XK} {tg e : Expr} {T U : DTI} (h : DI X E tg e T) (h2 : DI X E tg e U) : DI X E tg e (xItAlt T U) := by
  obtain ⟨t, p, s⟩ := h
  obtain ⟨t2, p2, s2⟩ := h2
  refine ⟨fun σ H Q => t σ H Q ∨ t2 σ H Q, ⟨fun pins s0 σ H Q I q => ?_⟩, fun c σ H S env R Rx x k q Q hq => ?_⟩
  · rcases q with q | q
    · exact p.run pins s0 σ H Q I q
    · exact p2.run pins s0 σ H Q I q
  · rcases q with q | q
    · exact .inl (s c σ H S env R Rx x k q Q hq)
    · exact .inr (s2 c σ H S env R Rx x k q Q hq)
end DL
namespace DL
open PySem PySem.Spec L2
end DL
namespace DL
open PySem PySem.Spec L2
variable [TbC]
theorem fIsiO_same {C a : Addr} {ks : List Str} {xs : List D} {R : D → Prop} : fIsiO C [.obj C ks xs, .adr a] R = (a = C ∧ R (.bl true)) := by
  unfold fIsiO
  simp [isO]
end DL
namespace DL
open PySem PySem.Spec L2
variable [TbC]
def xMakeK (F : Spec) (m : Nat) (idx : List Nat) (Tk : DTA) : DT := fun env R Rx => Tk env (fun zs => zs.length = m ∧ F (gPerm 0 m idx [] zs) R Rx) Rx
theorem w_xMakeK {F : Spec} {m : Nat} {idx : List Nat} {Tk : DTA} {env : En} {R : D → Prop} {Rx : Er → Prop} : xMakeK F m idx Tk env R Rx = Tk env (fun zs => zs.length = m ∧ F (gPerm 0 m idx [] zs) R Rx) Rx := rfl
end DL
namespace DL
open PySem PySem.Spec L2
variable [TbC]
section
variable {X : Cx} {E : XK} {e : Expr} {T U : DTT}
def xAltT (T U : DTT) : DTT := fun env R Rx => T env R Rx ∨ U env R Rx
theorem w_xAltT {T U : DTT} {env : En} {R : Bool → Prop} {Rx : Er → Prop} : xAltT T U env R Rx = (T env R Rx ∨ U env R Rx) := rfl
theorem w_xTruOw {C : Addr} {F : Spec} {Ta : DT} {env : En} {R : Bool → Prop} {Rx : Er → Prop} : xTruOw C F Ta env R Rx = Ta env (fun x => asO C (fun _ _ => True) x ∧ F [x] (asB R) noX) Rx := rfl
end
end DL
namespace DL
open PySem PySem.Spec L2
variable [TbC]
theorem w_valE_nil : valE [] = [] := rfl
theorem w_valE_val {d : D} {l : En} : valE (some (.val d) :: l) = some (.val d) :: valE l := rfl
theorem w_valE_own {xs : List D} {l : En} : valE (some (.own xs) :: l) = none :: valE l := rfl
theorem w_valE_tre {t : T} {as : List Addr} {l : En} : valE (some (.tre t as) :: l) = none :: valE l := rfl
theorem w_valE_none {l : En} : valE (none :: l) = none :: valE l := rfl
/-- addresses known to nobody else -/
def New (c : Fm) (σ : St) (S : Hp) (env : En) (as : List Addr) : Prop := ∀ a ∈ as, S a = none ∧ c.H0 a = none ∧ Free σ env a
section
variable {c : Fm} {σ : St} {H H' S S' : Hp} {env : En} {as bs : List Addr} {t : T} {ts : List T} {v : V} {vs : List V} {i : Nat}
theorem New.nil : New c σ S env [] := fun a m => nomatch m
theorem Kn.frzT (k : Kn c σ H S env) (q : New c σ S env as) : Kn c σ H (frzS as H S) env ∧ Same S (frzS as H S) := by
  have s := frzS_same (H := H) fun a m => (q a m).1
  refine ⟨⟨k.kf.frzT fun a m => ⟨(q a m).1, (q a m).2.1⟩, k.len, fun j x e => ?_, k.apart⟩, s⟩
  obtain ⟨u, eu, r⟩ := k.sl j x e
  refine ⟨u, eu, r.keep rfl s fun a fa => ?_⟩
  obtain ⟨f1, f2, _⟩ := r.foot a fa
  exact ⟨by rw [frzS_out fun z => (q a z).2.2 j x u e eu fa]; exact f1, f2, fun _ e => e⟩
/-- what stood at H stands behind what the frame at H has done -/
theorem New.keep (k : Kn c σ H S env) (k' : Kf (c.at H S) H' S') (q : New c σ S env as) (mu : ∀ a ∈ as, Mu (H a)) : New c σ S' env as ∧ ∀ a ∈ as, ∀ o, H a = some o → H' a = some o :=
  ⟨fun a m => ⟨k'.new a (q a m).1 (mu a m), (q a m).2.1, (q a m).2.2⟩, fun a m o e => k'.old a o e (k.kf.x_ne0 (q a m).2.1)⟩
theorem New.app (q1 : New c σ S env as) (q2 : New c σ S env bs) : New c σ S env (as ++ bs) := fun a m => by
  rcases List.mem_append.mp m with m | m
  · exact q1 a m
  · exact q2 a m
end
def SmU (E : XK) (t : TE) (T : DT) : Prop := ∀ (c : Fm) (σ : St) (H S : Hp) (env : En) (R : D → Prop) (Rx : Er → Prop), XOk c E Rx → Kn c σ H S env → T env R Rx →
  ∀ Q : VK, (∀ v H' S' as d, Kn c σ H' S' env → Same S S' → RepT c.B S' H' d.tr v as → as.Nodup → New c σ S' env as → R d → Q v H') → t σ H Q
def DU (X : Cx) (E : XK) (e : Expr) (T : DT) : Prop := ∃ t, PE X e t ∧ SmU E t T
/-- flat data are trees without lists -/
theorem flat_tr {B : Option Addr} {S S' H : Hp} {d : D} {v : V} (h : d.flat = true) (r : Rep B S d v) : RepT B S' H d.tr v [] := by
  have : d.tr = .dat d := by cases d <;> first | rfl | exact (Bool.false_ne_true h).elim
  rw [this, RepT]
  exact ⟨flat_rep h r, rfl⟩
theorem flat_trs {B : Option Addr} {S S' H : Hp} : ∀ {ds : List D} {vs : List V}, flatL ds = true → RepL B S ds vs → RepTL B S' H (D.trs ds) vs []
  | [], vs, _, r => by
    rw [repL_nil_of r, D.trs, RepTL]
    exact ⟨rfl, rfl⟩
  | d :: ds, vs, h, r => by
    obtain ⟨v, ws, rfl, r1, l⟩ := repL_cons_of r
    have h : (d.flat && flatL ds) = true := h
    rw [Bool.and_eq_true] at h
    rw [D.trs, RepTL]
    exact ⟨v, ws, [], [], rfl, flat_tr h.1 r1, flat_trs h.2 l, rfl⟩
theorem RepTL.app {B : Option Addr} {S H : Hp} {us : List T} {ws : List V} {bs : List Addr} : ∀ {ts : List T} {vs : List V} {as : List Addr}, RepTL B S H ts vs as → RepTL B S H us ws bs → RepTL B S H (ts ++ us) (vs ++ ws) (as ++ bs)
  | [], vs, as, r, q => by
    rw [RepTL] at r
    rw [r.1, r.2]
    exact q
  | t :: ts, vs, as, r, q => by
    rw [RepTL] at r
    obtain ⟨v, us2, b1, b2, rfl, r1, r2, rfl⟩ := r
    rw [List.cons_append, RepTL]
    exact ⟨v, us2 ++ ws, b1, b2 ++ bs, rfl, r1, RepTL.app r2 q, by rw [List.append_assoc]⟩
theorem RepTL.len {B : Option Addr} {S H : Hp} : ∀ {ts : List T} {vs : List V} {as : List Addr}, RepTL B S H ts vs as → vs.length = ts.length
  | [], vs, as, r => by
    rw [RepTL] at r
    rw [r.1]
    rfl
  | t :: ts, vs, as, r => by
    rw [RepTL] at r
    obtain ⟨v, us2, b1, b2, rfl, r1, r2, rfl⟩ := r
    rw [List.length_cons, List.length_cons, RepTL.len r2]
section
variable {X : Cx} {E : XK} {e a b : Expr} {es : List Expr} {T Ta Tb : DT} {TF : DTF} {Tl : DTA} {p pos : Pos}
theorem sm_ofU {t : TE} (s : SmU E t T) : Sm E t T := fun c σ H S env R Rx x k h Q q => s c σ H S env R Rx x k h Q fun v H1 S1 as d k1 s1 r n g t1 => by
  obtain ⟨k2, s2⟩ := k1.frzT g
  have := repT_frz r fun a m => (g a m).1
  rw [tr_d] at this
  exact q v H1 _ d k2 (s1.trans s2) this t1
theorem d_ofU (h : DU X E e T) : DE X E e T := by
  obtain ⟨t, p, s⟩ := h
  exact ⟨t, p, sm_ofU s⟩
/-- a new list of flat data -/
theorem u_ofF (h : DF X E e TF) : DU X E e (xFN TF) := by
  obtain ⟨t, p, s⟩ := h
  refine ⟨t, p, fun c σ H S env R Rx x k h Q q => s c σ H S env _ Rx x k h Q fun p vs H1 S1 ds k1 s1 n0 f n2 e1 l1 r1 => ?_⟩
  refine q _ H1 S1 [p] (.lst ds) k1 s1 ?_ (List.nodup_cons.mpr ⟨by simp, List.nodup_nil⟩) (fun a m => ?_) r1.2
  · rw [D.tr, RepT]
    exact ⟨p, vs, [], rfl, e1, flat_trs r1.1 l1, rfl⟩
  · rw [List.mem_singleton.mp m]
    exact ⟨n2, n0, f⟩
def xConsU (Ta : DT) (Tl : DTA) : DTA := fun env R Rx => Ta env (fun x => Tl (valE env) (fun xs => R (x :: xs)) Rx) Rx
theorem w_consU {env : En} {R : List D → Prop} {Rx : Er → Prop} : xConsU Ta Tl env R Rx = Ta env (fun x => Tl (valE env) (fun xs => R (x :: xs)) Rx) Rx := rfl
end
def spU (F : Spec) : Sp := fun vs H Q E => ∃ (c : Fm) (S : Hp) (ds : List D) (R : D → Prop) (Rx : Er → Prop), c.H0 = H ∧ c.S0 = S ∧ Kf c H S ∧ RepL c.B S ds vs ∧ F ds R Rx ∧
  (∀ v H' S' d as, Kf c H' S' → RepT c.B S' H' d.tr v as → as.Nodup → (∀ a ∈ as, S' a = none ∧ H a = none) → R d → Q v H') ∧ XOk c E Rx
section
variable {P : Program} {w : World} {K : PySem.W.Frag} {mg : Str → Option Value} {base : Heap} {x qual : Str} {st : Stmt} {dvs : List V} {kws : List (Str × V)} {f : Addr} {fd : FuncData} {N ps : List Str} {k : Nat} {F : Spec} {CX : CXT}
theorem fn_u {T : DTS} (Fd : FnS K x qual st dvs kws f fd) (S : FnScope N ps (defScope st)) (len : ∀ ds R Rx, F ds R Rx → ds.length = ps.length)
    (hbody : ∀ (cdv : Value) (A : Around) (outer : List Env) (s : Shared) (H : Hp) (E : XK), Room k (A.deeper (PyProof.Rows.envOfC qual (defScope st) s.heap.objs.size f cdv)) →
      DSs (cxOf (L2.CX P w) P w K mg base N qual (defScope st) f cdv A outer s H E) E (defBody st) T)
    (hT : ∀ ds R Rx, F ds R Rx → T { nx := fun _ => R .non, rt := fun n d => (n = .tr ∨ d.flat = true) ∧ R d, ex := Rx } (startE N ds)) : FnOk P w K mg base (L2.CX P w) (k + 1) f fd ps (spU F) := by
  refine FunD.ok Fd S (fun vs H Q E ⟨c, S, ds, R, Rx, _, _, _, l, h, _⟩ => by rw [l.length]; exact len _ _ _ h) fun cdv A outer s H vs Q E hr hsp => ?_
  obtain ⟨c, Sh, ds, R, Rx, h0, hs0, kf, l, h, q, xo⟩ := hsp
  obtain ⟨t, p, sm⟩ := hbody cdv A outer s H E hr
  refine ⟨t, p, sm c _ H Sh _ _ xo (kn_start kf l) (hT ds R Rx h) _ ⟨fun σ H1 S1 env k1 s1 r1 => ?_, fun n v H1 S1 d k1 s1 r1 t1 => ?_, fun σ H1 S1 env k1 s1 r1 => r1, fun σ H1 S1 env k1 s1 r1 => r1⟩⟩
  · exact q .non H1 S1 .non [] k1.kf (flat_tr (S := S1) rfl rfl) List.nodup_nil (fun a m => nomatch m) r1
  · have fl : d.flat = true → Q v H1 := fun z => by
      obtain ⟨S2, _, _, r2⟩ := r1.old k1
      exact q v H1 S1 d [] k1 (flat_tr z r2) List.nodup_nil (fun a m => nomatch m) t1.2
    rcases t1.1 with z | z
    · subst z
      obtain ⟨as, r, n, g⟩ := r1
      exact q v H1 S1 d as k1 r n (fun a m => ⟨(g a m).1, by rw [← h0]; exact (g a m).2⟩) t1.2
    · exact fl z
end
section
variable {X : Cx} {E : XK} {CX : CXT} {k n : Nat} {f : Addr} {fd : FuncData} {ps ks : List Str} {F : Spec} {dvs : List V} {dds : List D} {ds : List Value} {x : Str} {p pos : Pos} {e : Expr} {es : List Expr} {Tl Tk : DTA} {kws : List Keyword}
theorem sp_callU {c : Fm} {σ : St} {H S : Hp} {env : En} {vs : List V} {xs : List D} {R : D → Prop} {Rx : Er → Prop} {Q : VK} (kn : Kn c σ H S env) (x : XOk c E Rx) (l : RepL c.B S xs vs) (t : F xs R Rx)
    (q : ∀ v H' S' as d, Kn c σ H' S' env → Same S S' → RepT c.B S' H' d.tr v as → as.Nodup → New c σ S' env as → R d → Q v H') : spU F vs H Q E :=
  ⟨c.at H S, S, xs, R, Rx, rfl, rfl, kn.kf.at, l, t, fun v H' S' d as k' r n g z => q v H' S' as d (kn.back k') k'.s0 r n (fun a m => ⟨(g a m).1, kn.kf.h0_none (g a m).2, kn.free (g a m).2⟩) z, x.at kn.kf⟩
end
def putT (i : Nat) (t : T) (as : List Addr) (env : En) : En := env.set i (some (.tre t as))
theorem w_putT_0 {t : T} {as : List Addr} {o : Option DV} {l : En} : putT 0 t as (o :: l) = some (.tre t as) :: l := rfl
theorem w_putT_s {n : Nat} {t : T} {as : List Addr} {o : Option DV} {l : En} : putT (n + 1) t as (o :: l) = o :: putT n t as l := rfl
def zSetU (i : Nat) (T : DT) : DTS := fun Q env => T env (fun d => ∀ as, Q.nx (putT i d.tr as env)) Q.ex
theorem w_setU {i : Nat} {T : DT} {Q : DEnds} {env : En} : zSetU i T Q env = T env (fun d => ∀ as, Q.nx (putT i d.tr as env)) Q.ex := rfl
section
variable {X : Cx} {E : XK} {pos p1 : Pos} {e : Expr} {T : DT}
theorem smS_setU {t : TE} {i : Nat} (h : SmU E t T) : SmS E (tAsg t (gName i)) (zSetU i T) := fun c σ H S env Q x k t D m =>
  h c σ H S env _ _ x k t _ fun v H1 S1 as d k1 s1 r n g t1 => m.1 _ H1 S1 _ (k1.put (x := .tre d.tr as) ⟨r, n, fun a m => ⟨(g a m).1, (g a m).2.1⟩⟩ fun a m => (g a m).2.2.clear) s1 (t1 as)
end
end DL
namespace DL
open PySem PySem.Spec L2
variable [TbC]
def T.at' : List Nat → T → Option T
  | [], t => some t
  | j :: r, t => match t with
    | .lst ts => (ts[j]?).bind (T.at' r)
    | .tup ts => (ts[j]?).bind (T.at' r)
    | _ => none
def T.setAt : List Nat → T → T → T
  | [], _, u => u
  | j :: r, t, u => match t with
    | .lst ts => match ts[j]? with
      | some t => .lst (ts.set j (T.setAt r t u))
      | none => .lst ts
    | .tup ts => match ts[j]? with
      | some t => .tup (ts.set j (T.setAt r t u))
      | none => .tup ts
    | t => t
theorem w_at_nil {t : T} : T.at' [] t = some t := rfl
theorem w_at_lst {j : Nat} {r : List Nat} {ts : List T} : T.at' (j :: r) (.lst ts) = (ts[j]?).bind (T.at' r) := rfl
theorem w_at_tup {j : Nat} {r : List Nat} {ts : List T} : T.at' (j :: r) (.tup ts) = (ts[j]?).bind (T.at' r) := rfl
theorem w_setAt_nil {t u : T} : T.setAt [] t u = u := rfl
theorem setAt_lst {j : Nat} {r : List Nat} {ts : List T} {t u : T} (h : ts[j]? = some t) : T.setAt (j :: r) (.lst ts) u = .lst (ts.set j (T.setAt r t u)) := by
  show (match ts[j]? with
      | some t => T.lst (ts.set j (T.setAt r t u))
      | none => .lst ts) = _
  rw [h]
theorem setAt_tup {j : Nat} {r : List Nat} {ts : List T} {t u : T} (h : ts[j]? = some t) : T.setAt (j :: r) (.tup ts) u = .tup (ts.set j (T.setAt r t u)) := by
  show (match ts[j]? with
      | some t => T.tup (ts.set j (T.setAt r t u))
      | none => .tup ts) = _
  rw [h]
theorem w_setAt_l0 {r : List Nat} {ts : List T} {t u : T} : T.setAt (0 :: r) (.lst (t :: ts)) u = .lst (T.setAt r t u :: ts) := rfl
/-- what stands at a place -/
def VAt (H : Hp) : List Nat → V → V → Prop
  | [], v, u => u = v
  | j :: r, v, u => ∃ a vs w, v = .ref a ∧ (H a = some (.lst vs) ∨ H a = some (.tup vs)) ∧ vs[j]? = some w ∧ VAt H r w u
theorem RepTL.at {B : Option Addr} {S H : Hp} : ∀ {ts : List T} {vs : List V} {bs : List Addr} {j : Nat} {tj : T}, RepTL B S H ts vs bs → ts[j]? = some tj →
    ∃ w A bj C, vs[j]? = some w ∧ RepT B S H tj w bj ∧ bs = A ++ (bj ++ C) ∧ ∀ (t' : T) (b' : List Addr) (H' : Hp), (∀ a, a ∈ A ∨ a ∈ C → ∀ o, H a = some o → H' a = some o) → RepT B S H' t' w b' → RepTL B S H' (ts.set j t') vs (A ++ (b' ++ C))
  | [], _, _, j, tj, _, e => by simp at e
  | t :: ts, vs, bs, 0, tj, r, e => by
    rw [RepTL] at r
    obtain ⟨v, ws, b1, b2, rfl, r1, r2, rfl⟩ := r
    simp at e
    subst e
    refine ⟨v, [], b1, b2, rfl, r1, rfl, fun t' b' H' q r' => ?_⟩
    rw [List.set_cons_zero, List.nil_append, RepTL]
    exact ⟨v, ws, b', b2, rfl, r', repTL_mono (Same.refl S) _ _ _ (fun a m => q a (.inr m)) r2, rfl⟩
  | t :: ts, vs, bs, j + 1, tj, r, e => by
    rw [RepTL] at r
    obtain ⟨v, ws, b1, b2, rfl, r1, r2, rfl⟩ := r
    obtain ⟨w, A, bj, C, e1, e2, rfl, e4⟩ := RepTL.at (j := j) r2 (by simpa using e)
    refine ⟨w, b1 ++ A, bj, C, by simpa using e1, e2, by rw [List.append_assoc], fun t' b' H' q r' => ?_⟩
    rw [List.set_cons_succ, List.append_assoc, RepTL]
    exact ⟨v, ws, b1, A ++ (b' ++ C), rfl, repT_mono (Same.refl S) _ _ _ (fun a m => q a (.inl (List.mem_append_left _ m))) r1, e4 t' b' H' (fun a m => q a (m.imp (List.mem_append_right _) id)) r', rfl⟩
/-- a list of the tree: where it stands, what changing it makes of the tree -/
theorem repT_path {B : Option Addr} {S H : Hp} (sub : Same S H) : ∀ (path : List Nat) {t : T} {v : V} {as : List Addr}, RepT B S H t v as → as.Nodup → ∀ {us : List T}, T.at' path t = some (.lst us) →
    ∃ p vs bs, VAt H path v (.ref p) ∧ p ∈ as ∧ H p = some (.lst vs) ∧ RepTL B S H us vs bs ∧ p ∉ bs ∧ bs.Nodup ∧ (∀ a ∈ bs, a ∈ as) ∧
    ∀ (us' : List T) (vs' : List V) (bs' : List Addr), RepTL B S (upd H p (.lst vs')) us' vs' bs' → bs'.Nodup → p ∉ bs' → (∀ a ∈ bs', a ∈ bs ∨ a ∉ as) →
      ∃ as', RepT B S (upd H p (.lst vs')) (T.setAt path t (.lst us')) v as' ∧ as'.Nodup ∧ ∀ a ∈ as', a ∈ as ∨ a ∈ bs'
  | [], t, v, as, r, nd, us, e => by
    rw [w_at_nil] at e
    cases e
    rw [RepT] at r
    obtain ⟨a, vs, bs, rfl, e1, l, rfl⟩ := r
    have nd' := List.nodup_cons.mp nd
    refine ⟨a, vs, bs, rfl, List.mem_cons_self, e1, l, nd'.1, nd'.2, fun b m => List.mem_cons_of_mem _ m, fun us' vs' bs' l' n' p' q' => ⟨a :: bs', ?_, List.nodup_cons.mpr ⟨p', n'⟩, fun b m => ?_⟩⟩
    · rw [w_setAt_nil, RepT]
      exact ⟨a, vs', bs', rfl, upd_same, l', rfl⟩
    · rcases List.mem_cons.mp m with rfl | m
      · exact .inl List.mem_cons_self
      · exact .inr m
  | j :: r, t, v, as, rt, nd, us, e => by
    cases t with
    | dat d => cases e
    | obj C ks ts => cases e
    | lst ts =>
      rw [w_at_lst] at e
      obtain ⟨tj, ej, e⟩ := Option.bind_eq_some_iff.mp e
      rw [RepT] at rt
      obtain ⟨a, vs0, bs0, rfl, e1, l, rfl⟩ := rt
      obtain ⟨w, A, bj, C, ew, rj, rfl, back⟩ := l.at ej
      have nd' := List.nodup_cons.mp nd
      have nA := List.nodup_append.mp nd'.2
      have nB := List.nodup_append.mp nA.2.1
      obtain ⟨p, vs, bs, va, pm, ep, lu, pb, nb, sb, fin⟩ := repT_path sub r rj nB.1 e
      have pa : p ≠ a := fun z => nd'.1 (by rw [← z]; exact List.mem_append_right _ (List.mem_append_left _ pm))
      refine ⟨p, vs, bs, ⟨a, vs0, w, rfl, .inl e1, ew, va⟩, List.mem_cons_of_mem _ (List.mem_append_right _ (List.mem_append_left _ pm)), ep, lu, pb, nb, fun b m => List.mem_cons_of_mem _ (List.mem_append_right _ (List.mem_append_left _ (sb b m))), fun us' vs' bs' l' n' p' q' => ?_⟩
      obtain ⟨aj, ra, na, qa⟩ := fin us' vs' bs' l' n' p' fun b m => (q' b m).imp id fun z y => z (List.mem_cons_of_mem _ (List.mem_append_right _ (List.mem_append_left _ y)))
      have out : ∀ b, b ∈ A ∨ b ∈ C → b ≠ p := fun b m z => by
        subst z
        rcases m with m | m
        · exact nA.2.2 b m b (List.mem_append_left _ pm) rfl
        · exact nB.2.2 b pm b m rfl
      -- of the new part: of the old one or of none
      have cls : ∀ b ∈ aj, b ∈ bj ∨ b ∉ a :: (A ++ (bj ++ C)) := fun b m => by
        rcases qa b m with m | m
        · exact .inl m
        · exact (q' b m).imp (sb b) id
      refine ⟨a :: (A ++ (aj ++ C)), ?_, ?_, fun b m => ?_⟩
      · rw [setAt_lst ej, RepT]
        exact ⟨a, vs0, _, rfl, by rw [upd_ne (Ne.symm pa)]; exact e1, back _ _ _ (fun b m o eo => by rw [upd_ne (out b m)]; exact eo) ra, rfl⟩
      · refine List.nodup_cons.mpr ⟨fun m => ?_, List.nodup_append.mpr ⟨nA.1, List.nodup_append.mpr ⟨na, nB.2.1, fun b m b2 m2 z => ?_⟩, fun b m b2 m2 z => ?_⟩⟩
        · rcases List.mem_append.mp m with m | m
          · exact nd'.1 (List.mem_append_left _ m)
          · rcases List.mem_append.mp m with m | m
            · rcases cls a m with y | y
              · exact nd'.1 (List.mem_append_right _ (List.mem_append_left _ y))
              · exact y List.mem_cons_self
            · exact nd'.1 (List.mem_append_right _ (List.mem_append_right _ m))
        · subst z
          rcases cls b m with y | y
          · exact nB.2.2 b y b m2 rfl
          · exact y (List.mem_cons_of_mem _ (List.mem_append_right _ (List.mem_append_right _ m2)))
        · subst z
          rcases List.mem_append.mp m2 with m2 | m2
          · rcases cls b m2 with y | y
            · exact nA.2.2 b m b (List.mem_append_left _ y) rfl
            · exact y (List.mem_cons_of_mem _ (List.mem_append_left _ m))
          · exact nA.2.2 b m b (List.mem_append_right _ m2) rfl
      · rcases List.mem_cons.mp m with rfl | m
        · exact .inl List.mem_cons_self
        rcases List.mem_append.mp m with m | m
        · exact .inl (List.mem_cons_of_mem _ (List.mem_append_left _ m))
        rcases List.mem_append.mp m with m | m
        · exact (qa b m).imp (fun y => List.mem_cons_of_mem _ (List.mem_append_right _ (List.mem_append_left _ y))) id
        · exact .inl (List.mem_cons_of_mem _ (List.mem_append_right _ (List.mem_append_right _ m)))
    | tup ts =>
      rw [w_at_tup] at e
      obtain ⟨tj, ej, e⟩ := Option.bind_eq_some_iff.mp e
      rw [RepT] at rt
      obtain ⟨a, vs0, rfl, e1, l⟩ := rt
      obtain ⟨w, A, bj, C, ew, rj, rfl, back⟩ := l.at ej
      have nA := List.nodup_append.mp nd
      have nB := List.nodup_append.mp nA.2.1
      obtain ⟨p, vs, bs, va, pm, ep, lu, pb, nb, sb, fin⟩ := repT_path sub r rj nB.1 e
      refine ⟨p, vs, bs, ⟨a, vs0, w, rfl, .inr (sub _ _ e1), ew, va⟩, List.mem_append_right _ (List.mem_append_left _ pm), ep, lu, pb, nb, fun b m => List.mem_append_right _ (List.mem_append_left _ (sb b m)), fun us' vs' bs' l' n' p' q' => ?_⟩
      obtain ⟨aj, ra, na, qa⟩ := fin us' vs' bs' l' n' p' fun b m => (q' b m).imp id fun z y => z (List.mem_append_right _ (List.mem_append_left _ y))
      have out : ∀ b, b ∈ A ∨ b ∈ C → b ≠ p := fun b m z => by
        subst z
        rcases m with m | m
        · exact nA.2.2 b m b (List.mem_append_left _ pm) rfl
        · exact nB.2.2 b pm b m rfl
      have cls : ∀ b ∈ aj, b ∈ bj ∨ b ∉ (A ++ (bj ++ C)) := fun b m => by
        rcases qa b m with m | m
        · exact .inl m
        · exact (q' b m).imp (sb b) id
      refine ⟨(A ++ (aj ++ C)), ?_, ?_, fun b m => ?_⟩
      · rw [setAt_tup ej, RepT]
        exact ⟨a, vs0, rfl, e1, back _ _ _ (fun b m o eo => by rw [upd_ne (out b m)]; exact eo) ra⟩
      · refine List.nodup_append.mpr ⟨nA.1, List.nodup_append.mpr ⟨na, nB.2.1, fun b m b2 m2 z => ?_⟩, fun b m b2 m2 z => ?_⟩
        · subst z
          rcases cls b m with y | y
          · exact nB.2.2 b y b m2 rfl
          · exact y (List.mem_append_right _ (List.mem_append_right _ m2))
        · subst z
          rcases List.mem_append.mp m2 with m2 | m2
          · rcases cls b m2 with y | y
            · exact nA.2.2 b m b (List.mem_append_left _ y) rfl
            · exact y (List.mem_append_left _ m)
          · exact nA.2.2 b m b (List.mem_append_right _ m2) rfl
      · rcases List.mem_append.mp m with m | m
        · exact .inl (List.mem_append_left _ m)
        rcases List.mem_append.mp m with m | m
        · exact (qa b m).imp (fun y => List.mem_append_right _ (List.mem_append_left _ y)) id
        · exact .inl (List.mem_append_right _ (List.mem_append_right _ m))
/-- .. stays, where the frame at H has gone on -/
theorem VAt.keep {B : Option Addr} {S H H' S' : Hp} (sub : Same S H) (s : Same S S') (sub' : Same S' H') : ∀ (path : List Nat) {t : T} {v : V} {as : List Addr} {u : V}, RepT B S H t v as → T.at' path t ≠ none → (∀ a ∈ as, ∀ o, H a = some o → H' a = some o) → VAt H path v u → VAt H' path v u
  | [], t, v, as, u, r, _, _, q => q
  | j :: rr, t, v, as, u, r, ne, k, q => by
    obtain ⟨a, vs, w, rfl, ea, ew, q⟩ := q
    cases t with
    | dat d => exact (ne rfl).elim
    | obj C ks us => exact (ne rfl).elim
    | lst us =>
      rw [RepT] at r
      obtain ⟨a2, vs2, bs, e0, e1, l, rfl⟩ := r
      cases e0
      rcases ea with ea | ea <;> rw [e1] at ea <;> cases ea
      rw [w_at_lst] at ne
      cases ej : us[j]? with
      | none => rw [ej] at ne; exact (ne rfl).elim
      | some tj =>
        rw [ej] at ne
        obtain ⟨w', A, bj, C, ew', rj, rfl, _⟩ := l.at ej
        rw [ew] at ew'
        cases ew'
        exact ⟨a, vs, w, rfl, .inl (k a List.mem_cons_self _ e1), ew, VAt.keep sub s sub' rr rj ne (fun b m => k b (List.mem_cons_of_mem _ (List.mem_append_right _ (List.mem_append_left _ m)))) q⟩
    | tup us =>
      rw [RepT] at r
      obtain ⟨a2, vs2, e0, e1, l⟩ := r
      cases e0
      have e1h := sub _ _ e1
      rcases ea with ea | ea <;> rw [e1h] at ea <;> cases ea
      rw [w_at_tup] at ne
      cases ej : us[j]? with
      | none => rw [ej] at ne; exact (ne rfl).elim
      | some tj =>
        rw [ej] at ne
        obtain ⟨w', A, bj, C, ew', rj, rfl, _⟩ := l.at ej
        rw [ew] at ew'
        cases ew'
        exact ⟨a, vs, w, rfl, .inr (sub' _ _ (s _ _ e1)), ew, VAt.keep sub s sub' rr rj ne (fun b m => k b (List.mem_append_right _ (List.mem_append_left _ m))) q⟩
end DL
namespace DL
open PySem PySem.Spec L2
variable [TbC]
theorem w_tre_inj {t u : T} {as bs : List Addr} : (DV.tre t as = DV.tre u bs) = (t = u ∧ as = bs) := by rw [DV.tre.injEq]
def isTre (i : Nat) (env : En) (P : T → List Addr → Prop) : Prop := ∃ t as, env[i]? = some (some (.tre t as)) ∧ P t as
theorem isTre_at {i : Nat} {env : En} {t : T} {as : List Addr} {P : T → List Addr → Prop} (h : env[i]? = some (some (.tre t as))) : isTre i env P = P t as := by
  refine propext ⟨fun ⟨t', as', e, q⟩ => ?_, fun q => ⟨t, as, h, q⟩⟩
  rw [h] at e
  cases e
  exact q
theorem w_isTre_0 {t : T} {as : List Addr} {l : En} {P : T → List Addr → Prop} : isTre 0 (some (.tre t as) :: l) P = P t as := isTre_at rfl
theorem w_isTre_s {n : Nat} {o : Option DV} {l : En} {P : T → List Addr → Prop} : isTre (n + 1) (o :: l) P = isTre n l P := rfl
theorem VAt.inj {H : Hp} : ∀ {path : List Nat} {v u w : V}, VAt H path v u → VAt H path v w → u = w
  | [], _, _, _, q, q2 => by cases q; cases q2; rfl
  | j :: r, v, u, w, q, q2 => by
    obtain ⟨a, vs, x, rfl, ea, ex, q⟩ := q
    obtain ⟨a2, vs2, x2, e, ea2, ex2, q2⟩ := q2
    cases e
    have ev : vs2 = vs := by rcases ea with ea | ea <;> rcases ea2 with ea2 | ea2 <;> rw [ea] at ea2 <;> cases ea2 <;> rfl
    subst ev
    rw [ex] at ex2
    cases ex2
    exact VAt.inj q q2
theorem RepTL.setV {B : Option Addr} {S H : Hp} : ∀ {ts : List T} {vs : List V} {bs : List Addr} {j : Nat} {tj : T}, RepTL B S H ts vs bs → ts[j]? = some tj →
    ∃ A bj C, bs = A ++ (bj ++ C) ∧ ∀ (t' : T) (w' : V) (b' : List Addr) (H' : Hp), (∀ a, a ∈ A ∨ a ∈ C → ∀ o, H a = some o → H' a = some o) → RepT B S H' t' w' b' → RepTL B S H' (ts.set j t') (vs.set j w') (A ++ (b' ++ C))
  | [], _, _, j, tj, _, e => by simp at e
  | t :: ts, vs, bs, 0, tj, r, e => by
    rw [RepTL] at r
    obtain ⟨v, ws, b1, b2, rfl, r1, r2, rfl⟩ := r
    refine ⟨[], b1, b2, rfl, fun t' w' b' H' q r' => ?_⟩
    rw [List.set_cons_zero, List.set_cons_zero, List.nil_append, RepTL]
    exact ⟨w', ws, b', b2, rfl, r', repTL_mono (Same.refl S) _ _ _ (fun a m => q a (.inr m)) r2, rfl⟩
  | t :: ts, vs, bs, j + 1, tj, r, e => by
    rw [RepTL] at r
    obtain ⟨v, ws, b1, b2, rfl, r1, r2, rfl⟩ := r
    obtain ⟨A, bj, C, rfl, e4⟩ := RepTL.setV (j := j) r2 (by simpa using e)
    refine ⟨b1 ++ A, bj, C, by rw [List.append_assoc], fun t' w' b' H' q r' => ?_⟩
    rw [List.set_cons_succ, List.set_cons_succ, List.append_assoc, RepTL]
    exact ⟨v, _, b1, A ++ (b' ++ C), rfl, repT_mono (Same.refl S) _ _ _ (fun a m => q a (.inl (List.mem_append_left _ m))) r1, e4 t' w' b' H' (fun a m => q a (m.imp (List.mem_append_right _) id)) r', rfl⟩
section
variable {c : Fm} {σ : St} {H H' S S' : Hp} {env : En} {as : List Addr} {tt : T} {v0 u : V} {i : Nat} {us : List T} {path : List Nat}
/-- a list of a tree changes -/
theorem Kn.chgT (k : Kn c σ H S env) (e : env[i]? = some (some (.tre tt as))) (e1 : σ[i]? = some (some v0)) (at1 : T.at' path tt = some (.lst us)) (va : VAt H path v0 u) :
    ∃ p vs bs, u = .ref p ∧ H p = some (.lst vs) ∧ RepTL c.B S H us vs bs ∧ p ∉ bs ∧ bs.Nodup ∧ (∀ a ∈ bs, a ∈ as) ∧ p ∈ as ∧
    ∀ us' vs' bs', RepTL c.B S (upd H p (.lst vs')) us' vs' bs' → bs'.Nodup → (∀ a ∈ bs', a ∈ bs ∨ (S a = none ∧ c.H0 a = none ∧ Free σ env a)) → ∃ as', Kn c σ (upd H p (.lst vs')) S (putT i (T.setAt path tt (.lst us')) as' env) := by
  obtain ⟨v, ev, r, nd, g⟩ := k.sl i _ e
  rw [e1] at ev
  cases ev
  obtain ⟨p, vs, bs, va2, pm, ep, l, pb, nb, sb, fin⟩ := repT_path k.kf.sub path r nd at1
  have eu := va.inj va2
  refine ⟨p, vs, bs, eu, ep, l, pb, nb, sb, pm, fun us' vs' bs' l' n' q' => ?_⟩
  have nas : ∀ a, Free σ env a → a ∉ as := fun a f m => f i _ v0 e e1 m
  obtain ⟨as', r', na, qa⟩ := fin us' vs' bs' l' n' (fun m => (q' p m).elim pb fun z => nas p z.2.2 pm) fun a m => (q' a m).imp id fun z => nas a z.2.2
  have k1 := (k.clear (i := i)).updF (o := .lst vs') (g p pm).1 (g p pm).2 ep lst_ne (k.mine e e1 pm)
  have all : ∀ a ∈ as', S a = none ∧ c.H0 a = none ∧ Free σ (env.set i none) a := fun a m => by
    have old : ∀ a ∈ as, S a = none ∧ c.H0 a = none ∧ Free σ (env.set i none) a := fun a m => ⟨(g a m).1, (g a m).2, k.mine e e1 m⟩
    rcases qa a m with m | m
    · exact old a m
    · rcases q' a m with m | ⟨z1, z2, z3⟩
      · exact old a (sb a m)
      · exact ⟨z1, z2, z3.clear⟩
  have k2 := k1.put (i := i) (v := v0) (x := .tre (T.setAt path tt (.lst us')) as') ⟨r', na, fun a m => ⟨(all a m).1, (all a m).2.1⟩⟩ fun a m => (all a m).2.2.clear
  rw [List.set_set, set_id e1] at k2
  exact ⟨as', k2⟩
end
abbrev DTP := En → (List Nat → Prop) → (Er → Prop) → Prop
def SmL (E : XK) (t : TE) (i : Nat) (Tp : DTP) : Prop := ∀ (c : Fm) (σ : St) (H S : Hp) (env : En) (R : List Nat → Prop) (Rx : Er → Prop), XOk c E Rx → Kn c σ H S env → Tp env R Rx →
  ∀ Q : VK, (∀ v H' S' path tt as v0, Kn c σ H' S' env → Same S S' → (∀ a o, H a = some o → ¬ Ex c.B a → H' a = some o) → (∀ a, S a = none → Mu (H a) → S' a = none) → env[i]? = some (some (.tre tt as)) → σ[i]? = some (some v0) → T.at' path tt ≠ none → VAt H' path v0 v → R path → Q v H') → t σ H Q
def DL_ (X : Cx) (E : XK) (e : Expr) (i : Nat) (Tp : DTP) : Prop := ∃ t, PE X e t ∧ SmL E t i Tp
def xPlN (i : Nat) : DTP := fun env R _ => isTre i env fun _ _ => R []
theorem w_plN {i : Nat} {env : En} {R : List Nat → Prop} {Rx : Er → Prop} : xPlN i env R Rx = isTre i env fun _ _ => R [] := rfl
/-- one step further -/
def ixAt (path : List Nat) (tt : T) (k : Int) (R : List Nat → Prop) : Prop := ∃ ts j, (T.at' path tt = some (.lst ts) ∨ T.at' path tt = some (.tup ts)) ∧ ixN ts.length k = some j ∧ R (path ++ [j])
theorem ixAt_lst {path : List Nat} {tt : T} {k : Int} {ts : List T} {R : List Nat → Prop} (h : T.at' path tt = some (.lst ts)) : ixAt path tt k R = ∃ j, ixN ts.length k = some j ∧ R (path ++ [j]) := by
  refine propext ⟨fun ⟨us, j, e, ej, q⟩ => ?_, fun ⟨j, ej, q⟩ => ⟨ts, j, .inl h, ej, q⟩⟩
  rcases e with e | e <;> rw [h] at e <;> cases e
  exact ⟨j, ej, q⟩
theorem w_ixAt_0 {k : Int} {ts : List T} {R : List Nat → Prop} : ixAt [] (.lst ts) k R = ∃ j, ixN ts.length k = some j ∧ R ([] ++ [j]) := ixAt_lst rfl
def xPlI (i : Nat) (Tp : DTP) (Tb : DT) : DTP := fun env R Rx => Tp env (fun path => Tb (thaw env) (asI fun k => isTre i env fun tt _ => ixAt path tt k R) Rx) Rx
theorem w_plI {i : Nat} {Tp : DTP} {Tb : DT} {env : En} {R : List Nat → Prop} {Rx : Er → Prop} : xPlI i Tp Tb env R Rx = Tp env (fun path => Tb (thaw env) (asI fun k => isTre i env fun tt _ => ixAt path tt k R) Rx) Rx := rfl
section
variable {X : Cx} {E : XK} {pos p1 : Pos} {a b e : Expr} {Ta Tb Tv Ti : DT} {Tp : DTP} {i : Nat}
theorem pl_name (i : Nat) {x : Str} (hN : X.N[i]? = some x := by rfl) (hv : Vis X.env.scope x := by first | exact Or.inl rfl | exact Or.inr (Or.inl rfl) | exact Or.inr (Or.inr rfl)) (hd : (x == ("__debug__" : Str)) = false := by decide)
    (hcd : (x == ("__classdict__" : Str)) = false := by decide) : DL_ X E (.Name x pos) i (xPlN i) := by
  refine ⟨_, pv i hN hv hd hcd, fun c σ H S env R Rx x k t Q q => ?_⟩
  obtain ⟨tt, as, e, t⟩ := t
  obtain ⟨v, e1, _⟩ := k.sl i _ e
  exact ⟨v, e1, q v H S [] tt as v k (Same.refl S) (fun _ _ e _ => e) (fun _ e _ => e) e e1 (fun z => nomatch z) rfl t⟩
def zAppL (i : Nat) (Tp : DTP) (Ta : DT) : DTS := fun Q env => Tp env (fun path => isTre i env fun tt _ => ∃ us, T.at' path tt = some (.lst us) ∧ Ta (valE env) (fun d => us.length < sizeLine ∧ ∀ as', Q.nx (putT i (T.setAt path tt (.lst (us ++ [d.tr]))) as' env)) Q.ex) Q.ex
theorem w_appL {Q : DEnds} {env : En} : zAppL i Tp Ta Q env = Tp env (fun path => isTre i env fun tt _ => ∃ us, T.at' path tt = some (.lst us) ∧ Ta (valE env) (fun d => us.length < sizeLine ∧ ∀ as', Q.nx (putT i (T.setAt path tt (.lst (us ++ [d.tr]))) as' env)) Q.ex) Q.ex := rfl
def zClrL (i : Nat) (Tp : DTP) : DTS := fun Q env => Tp env (fun path => isTre i env fun tt _ => ∃ us, T.at' path tt = some (.lst us) ∧ ∀ as', Q.nx (putT i (T.setAt path tt (.lst [])) as' env)) Q.ex
theorem w_clrL {Q : DEnds} {env : En} : zClrL i Tp Q env = Tp env (fun path => isTre i env fun tt _ => ∃ us, T.at' path tt = some (.lst us) ∧ ∀ as', Q.nx (putT i (T.setAt path tt (.lst [])) as' env)) Q.ex := rfl
def zStL (i : Nat) (Tv : DT) (Tp : DTP) (Ti : DT) : DTS := fun Q env => Tv env (fun d => Tp env (fun path => Ti (thaw env) (asI fun k => isTre i env fun tt _ => ∃ us j, T.at' path tt = some (.lst us) ∧ ixN us.length k = some j ∧ ∀ as', Q.nx (putT i (T.setAt path tt (.lst (us.set j d.tr))) as' env)) Q.ex) Q.ex) Q.ex
theorem w_stL {Q : DEnds} {env : En} : zStL i Tv Tp Ti Q env = Tv env (fun d => Tp env (fun path => Ti (thaw env) (asI fun k => isTre i env fun tt _ => ∃ us j, T.at' path tt = some (.lst us) ∧ ixN us.length k = some j ∧ ∀ as', Q.nx (putT i (T.setAt path tt (.lst (us.set j d.tr))) as' env)) Q.ex) Q.ex) Q.ex := rfl
/-- what is changed behind a place: the heap of a frame that has gone on -/
theorem mu_on {c : Fm} {H S H1 S1 : Hp} {a : Addr} (k1 : Kf c H1 S1) (old : ∀ o, H a = some o → ¬ Ex c.B a → H1 a = some o) (m : Mu (H a)) : Mu (H1 a) := by
  obtain ⟨m1, m2⟩ := m
  cases eo : H a with
  | none => exact (m1 eo).elim
  | some o =>
    by_cases ex : Ex c.B a
    · rcases ex with ex | ⟨q, hq, ex⟩
      · obtain ⟨⟨_, cs, i, g, st, n, q, _⟩, _⟩ := k1.bag a ex
        exact mu_lst q
      · obtain ⟨⟨ps, h1, _⟩, _⟩ := k1.tab.1 q hq
        rw [← ex]
        exact mu_of h1 fun _ z => nomatch z
    · exact mu_ofF (old o eo ex) (m2 o eo)
theorem s_stL {p2 : Pos} {ix v : Expr} (hv : DU X E v Tv) (hpl : DL_ X E b i Tp) (hi : DE X E ix Ti)
    (ha : ∀ v, assign (.Subscript b ix p2) X.env v = (do
      let ov ← holding [v] (eval b X.env)
      let iv ← holding [v, ov] (eval ix X.env)
      standAt p2
      holding [v, ov, iv] (setItem ov iv v)
      release [v, ov, iv] []) := by intro _; rfl)
    (hs : swapsWithSole [.Subscript b ix p2] v pos.line X.env = pure false := by rfl) (hw : swappedStores [.Subscript b ix p2] v X.env = pure none := by rfl) (h1 : (assignEach [.Subscript b ix p2] X.env).map (·.2) = [assign (.Subscript b ix p2) X.env] := by rfl) :
    DS X E (.Assign [.Subscript b ix p2] v pos) (zStL i Tv Tp Ti) := by
  obtain ⟨tv, pv1, sv⟩ := hv
  obtain ⟨to, po, so⟩ := hpl
  obtain ⟨ti, pi1, si⟩ := hi
  refine ⟨_, ps_asg pv1 (pg_sub po pi1 set_list ha) hs hw h1, fun c σ H S env Q x k t D m => sv c σ H S env _ _ x k t _ fun w H0 S0 bsv d k0 s0 r0 n0 g0 t0 => ?_⟩
  refine so c σ H0 S0 env _ _ x k0 t0 _ fun v H1 S1 path tt as v0 k1 ss1 old1 new1 e e1 ne va t1 => ?_
  refine si _ σ H1 _ (thaw env) _ _ (x.lend k1) k1.lend t1 _ fun u H2 S2 dd k2 s3 r2 t2 => ?_
  obtain ⟨k3, s4⟩ := k1.unlend k2.kf
  cases dd <;> try exact (show False from t2).elim
  rename_i n
  obtain ⟨tt', as', e', us, j, at1, ej, t2⟩ := t2
  rw [e] at e'
  cases e'
  obtain ⟨vv, ev, r, nd, g⟩ := k1.sl i _ e
  rw [e1] at ev
  cases ev
  have old2 : ∀ a o, H1 a = some o → ¬ Ex c.B a → H2 a = some o := fun a o ea na => k2.kf.old a o ea na
  have va2 : VAt H2 path v0 v := VAt.keep k1.kf.sub s4 k3.kf.sub path r ne (fun a m o ea => old2 a o ea (k1.kf.x_ne0 (g a m).2)) va
  obtain ⟨p, vs, bs, rfl, hp2, l, pb, nb, sb, pm, fin⟩ := k3.chgT e e1 at1 va2
  have mu0 : ∀ a ∈ bsv, Mu (H0 a) := r0.mu
  have mu1 : ∀ a ∈ bsv, Mu (H1 a) := fun a m => mu_on (S := S) k1.kf (old1 a) (mu0 a m)
  have g3 : New c σ (backS σ env S2) env bsv := fun a m => by
    obtain ⟨q1, q2, q3⟩ := g0 a m
    have no : ¬ OwnA σ env a := fun ⟨j, y, u, ey, eu, fy⟩ => q3 j y u ey eu fy
    exact ⟨by rw [back_not no]; exact k2.kf.new a (by show lendS σ env H1 S1 a = none; rw [lend_not no]; exact new1 a q1 (mu0 a m)) (mu1 a m), q2, q3⟩
  have dis : ∀ a ∈ as, a ∉ bsv := fun a m z => (g3 a z).2.2 i _ v0 e e1 m
  have r3 : RepT c.B (backS σ env S2) H2 d.tr w bsv := repT_mono (ss1.trans s4) _ _ _ (fun a m o ea => old2 a o (old1 a o ea (k0.kf.x_ne0 (g0 a m).2.1)) (k0.kf.x_ne0 (g0 a m).2.1)) r0
  have hj : j < us.length := by
    unfold ixN at ej
    split at ej <;> (split at ej <;> cases ej; omega)
  obtain ⟨A, bj, C, rfl, back⟩ := l.setV (List.getElem?_eq_getElem hj)
  have nA := List.nodup_append.mp nb
  have nB := List.nodup_append.mp nA.2.1
  have outp : ∀ a, a ∈ A ∨ a ∈ C → a ≠ p := fun a m z => pb (by
    rw [← z]
    rcases m with m | m
    · exact List.mem_append_left _ m
    · exact List.mem_append_right _ (List.mem_append_right _ m))
  have l2 : RepTL c.B (backS σ env S2) (upd H2 p (.lst (vs.set j w))) (us.set j d.tr) (vs.set j w) (A ++ (bsv ++ C)) :=
    back _ _ _ _ (fun a m o eo => by rw [upd_ne (outp a m)]; exact eo) (repT_mono (Same.refl _) _ _ _ (fun a m o eo => by rw [upd_ne (fun z => dis p pm (by rw [← z]; exact m))]; exact eo) r3)
  have inA : ∀ a ∈ A, a ∈ A ++ (bj ++ C) := fun a m => List.mem_append_left _ m
  have inC : ∀ a ∈ C, a ∈ A ++ (bj ++ C) := fun a m => List.mem_append_right _ (List.mem_append_right _ m)
  obtain ⟨as', k4⟩ := fin (us.set j d.tr) (vs.set j w) (A ++ (bsv ++ C)) l2 (List.nodup_append.mpr ⟨nA.1, List.nodup_append.mpr ⟨n0, nB.2.1, fun a m b m2 z => by subst z; exact dis a (sb a (inC a m2)) m⟩, fun a m b m2 z => by
    subst z
    rcases List.mem_append.mp m2 with m2 | m2
    · exact dis a (sb a (inA a m)) m2
    · exact nA.2.2 a m a (List.mem_append_right _ m2) rfl⟩) fun a m => by
    rcases List.mem_append.mp m with m | m
    · exact .inl (inA a m)
    rcases List.mem_append.mp m with m | m
    · exact .inr (g3 a m)
    · exact .inl (inC a m)
  refine ⟨p, vs, n, j, rfl, r2, hp2, by rw [l.len]; exact ej, m.1 σ _ _ _ k4 ((s0.trans ss1).trans s4) (t2 as')⟩
end
end DL
namespace DL
open PySem PySem.Spec L2
variable [TbC]
section
variable {X : Cx} {E : XK} {CX : CXT} {k : Nat} {C f : Addr} {fd : FuncData} {ps : List Str} {F : Spec} {m : Str} {o e : Expr} {es : List Expr} {To : DT} {Tl : DTA} {pos apos p : Pos}
theorem u_meth {pl : Sem Bool} (he : DE X E o To) (c : Cls X.K C) (hm : Meth X.K C m f) (G : FnOk X.prog X.w X.K X.mg X.base CX k f fd ps (spU F)) (hr : Room k X.A) (hb : Binds X.K fd ps []) (hx : Passes CX X E) (ha : DA X E (e :: es) Tl)
    (hst : starEach (e :: es) X.env = (false, eval e X.env) :: starEach es X.env := by rfl) (hpl : (backTo pos (starEach es X.env)).any (·.1) = false := by rfl)
    (ht : eval (.Call (.Attribute o m apos) (e :: es) [] pos) X.env = (do
      let ov ← eval o X.env
      standAt apos.atName
      let (f, first) ← holding [ov] (getMethod ov m pl)
      callWith pos f first (backTo pos (starEach (e :: es) X.env)) (backToKw pos (keywordEach [] X.env))) := by rfl) :
    DU X E (.Call (.Attribute o m apos) (e :: es) [] pos) (xMeth C m F To Tl) := by
  obtain ⟨t, p1, s⟩ := he
  obtain ⟨tl, p2, sl⟩ := ha
  refine ⟨_, pe_meth p1 c hm G hr hb .nil hx p2 hst hpl ht, fun c0 σ H S env R Rx x k t Q q => s c0 σ H S env _ Rx x k t _ fun v H1 S1 d k1 s1 r1 t1 => ?_⟩
  obtain ⟨t0, t1⟩ := t1
  cases d <;> try exact (show False from t0).elim
  obtain ⟨rfl, e1⟩ := t0
  obtain ⟨a, dx, vs, e2, h1, hn, l1⟩ := obj_of k1 r1
  refine ⟨a, dx, _, e2, h1, fld_none l1 hn e1, sl c0 σ H1 S1 env _ Rx x k1 t1 _ fun us H2 S2 ds k2 s2 l2 t2 => ?_⟩
  rw [List.append_nil]
  exact sp_callU k2 x (repL_cons (rep_mono s2 _ v r1) l2) t2 fun v H' S' as d k' s' r' n' g' t' => q v H' S' as d k' ((s1.trans s2).trans s') r' n' g' t'
end
def canU (E : XK) (T : DT) : TE := fun σ H Q => ∃ (c : Fm) (S : Hp) (env : En) (R : D → Prop) (Rx : Er → Prop), XOk c E Rx ∧ Kn c σ H S env ∧ T env R Rx ∧ ∀ v H' S' as d, Kn c σ H' S' env → Same S S' → RepT c.B S' H' d.tr v as → as.Nodup → New c σ S' env as → R d → Q v H'
theorem smU_can {E : XK} {T : DT} : SmU E (canU E T) T := fun c σ H S env R Rx x k t Q q => ⟨c, S, env, R, Rx, x, k, t, q⟩
theorem pe_canU {X : Cx} {E : XK} {e : Expr} {T : DT} (h : DU X E e T) : PE X e (canU E T) := by
  obtain ⟨t, p, s⟩ := h
  exact ⟨fun pins st σ H Q I ⟨c, S, env, R, Rx, x, k, t, q⟩ => p.run pins st σ H Q I (s c σ H S env R Rx x k t Q q)⟩
section
variable {X : Cx} {E : XK} {elt tg iter : Expr} {ifs : List Expr} {scope : Scope} {own : List (Str × Nat)} {pos : Pos} {Ti : DTI} {G : DG} {Tt : DTT} {Te : DT} {js : List Nat}
theorem smU_lc {wi : TI} (hsub : ∀ j ∈ js, j ∈ own.map (·.2)) (hi : SmI E wi Ti) : SmU E (tLc wi (canG G js) (canT E0 Tt) (canU E0 Te) (own.map (·.2))) (xF (xLcF Ti G Tt Te (own.map (·.2)))) := fun c σ H S env R Rx x k t Q q =>
  hi c σ H S env _ Rx x k t _ fun J H1 S1 xs k1 s1 it t1 => by
    obtain ⟨I, h0, hstep, hend⟩ := t1
    intro L hL
    have n0 := k1.kf.h0_none hL
    have fL := k1.free hL
    refine ⟨fun i m H => m = xs.length - i ∧ i ≤ xs.length ∧ ∃ S vs acc bs, Kn c σ H S env ∧ Same S1 S ∧ S L = none ∧ H L = some (.lst vs) ∧ RepTL c.B S H (D.trs acc) vs bs ∧ bs.Nodup ∧ New c σ S env bs ∧ L ∉ bs ∧ I i acc,
      ⟨_, rfl, Nat.zero_le _, S1, [], [], [], k1.new0 hL, Same.refl S1, k1.kf.s_none hL, upd_same, (by rw [D.trs, RepTL]; exact ⟨rfl, rfl⟩), List.nodup_nil, New.nil, (fun z => nomatch z), h0⟩, ?_⟩
    rintro i m H ⟨rfl, hil, S, vs, acc, bs, k, s, nL, eL, l, nb, gb, Lb, hI⟩
    have ki := k.inner (own.map (·.2))
    obtain ⟨go, stop⟩ := it (c.at H S) rfl i _ H S _ ki s
    by_cases hlt : i < xs.length
    · have e : xs[i]? = some xs[i] := by simp [hlt]
      obtain ⟨g1, g2⟩ := go _ e
      refine .inr ⟨g1, fun H => i + 1 ≤ xs.length ∧ ∃ S vs acc bs, Kn c σ H S env ∧ Same S1 S ∧ S L = none ∧ H L = some (.lst vs) ∧ RepTL c.B S H (D.trs acc) vs bs ∧ bs.Nodup ∧ New c σ S env bs ∧ L ∉ bs ∧ I (i + 1) acc, fun H' h => ⟨_, by omega, rfl, h⟩, fun v H' y => ?_⟩
      obtain ⟨S', k', s', r'⟩ := g2 v H' y
      refine smG_can (c.at H S) _ H' S' _ _ v _ k' r' (hstep i _ acc e hI) _ fun σ2 H2 S2 env2 k2 s2 w2 t2 => ?_
      refine ⟨?_, ?_⟩
      · have := w2 (own.map (·.2)) hsub
        rw [this]
        exact wipe_wipe _ _
      · refine smT_can (c.at H S) σ2 H2 S2 env2 _ noX xok0 k2 t2 _ fun b H3 S3 k3 s3 t3 => ?_
        have fin : ∀ {H4 S4 : Hp}, Kf (c.at H S) H4 S4 → Kn c σ H4 S4 env ∧ H4 L = some (.lst vs) ∧ S4 L = none ∧ RepTL c.B S4 H4 (D.trs acc) vs bs ∧ New c σ S4 env bs ∧ Same S1 S4 := fun {H4 S4} kf => by
          obtain ⟨gb2, old⟩ := gb.keep k kf l.mu
          exact ⟨k.back kf, kf.old L _ eL (k.kf.x_ne0 n0), kf.new L nL (mu_lst eL), repTL_mono kf.s0 _ _ _ old l, gb2, s.trans kf.s0⟩
        cases b with
        | true =>
          refine iteT ?_
          refine smU_can (c.at H S) σ2 H3 S3 env2 _ noX xok0 k3 (t3.1 rfl) _ fun u H4 S4 as4 d4 k4 s4 r4 n4 g4 t4 => ?_
          obtain ⟨kn, eL4, nL4, l4, gb4, ss⟩ := fin k4.kf
          have hb : ∀ a ∈ bs, a ∉ as4 := fun a m z => (l.mu a m).1 (g4 a z).2.1
          have hL4 : L ∉ as4 := fun z => by
            have : H L = none := (g4 L z).2.1
            rw [eL] at this
            cases this
          have hLb : L ∉ bs ++ as4 := fun z => (List.mem_append.mp z).elim Lb hL4
          have l5 : RepTL c.B S4 H4 (D.trs (acc ++ [d4])) (vs ++ [u]) (bs ++ as4) := by
            rw [trs_app]
            refine l4.app ?_
            rw [D.trs, RepTL]
            refine ⟨u, [], as4, [], rfl, r4, ?_, by rw [List.append_nil]⟩
            rw [D.trs, RepTL]
            exact ⟨rfl, rfl⟩
          refine ⟨vs, eL4, by rw [l4.len, trs_length]; exact t4.1, hlt, S4, _, _, bs ++ as4, kn.updF nL4 n0 eL4 lst_ne fL, ss, nL4, upd_same,
            repTL_mono (Same.refl _) _ _ _ (fun a m o eo => by rw [upd_ne (fun z => hLb (by rw [← z]; exact m))]; exact eo) l5,
            List.nodup_append.mpr ⟨nb, n4, fun a m b m2 z => by subst z; exact hb a m m2⟩, gb4.app fun a m => ⟨(g4 a m).1, k.kf.h0_none (g4 a m).2.1, k.free (g4 a m).2.1⟩, hLb, t4.2⟩
        | false =>
          refine iteF ?_
          obtain ⟨kn, eL4, nL4, l4, gb4, ss⟩ := fin k3.kf
          exact ⟨hlt, S3, vs, acc, bs, kn, ss, nL4, eL4, l4, nb, gb4, Lb, t3.2 rfl⟩
    · have e : i = xs.length := by omega
      subst e
      refine .inl ⟨stop (Nat.le_refl _), q (.ref L) H S (L :: bs) (.lst acc) k (s1.trans s) ?_ (List.nodup_cons.mpr ⟨Lb, nb⟩) (fun a m => ?_) (hend acc hI)⟩
      · rw [D.tr, RepT]
        exact ⟨L, vs, bs, rfl, eL, l, rfl⟩
      · rcases List.mem_cons.mp m with rfl | m
        · exact ⟨nL, n0, fL⟩
        · exact gb a m
/-- name = [..] on one line -/
theorem s_setLcU {i : Nat} {y : Str} {py spos : Pos} (hc : X.calm = true) (hN : X.N.Nodup) (hi : DI X E tg iter Ti) (ok : BlkOk X.N X.env.scope scope own) (hsub : ∀ j ∈ js, j ∈ own.map (·.2))
    (hg : ∀ (s : Shared) (H : Hp) (C : Addr) (cl : List (Str × Addr)) (fp : List Addr), DGt (X.blk s H scope (compEnvC scope cl C X.env) fp) tg G js)
    (ht : ∀ (s : Shared) (H : Hp) (C : Addr) (cl : List (Str × Addr)) (fp : List Addr), DTs (X.blk s H scope (compEnvC scope cl C X.env) fp) E0 ifs Tt)
    (he : ∀ (s : Shared) (H : Hp) (C : Addr) (cl : List (Str × Addr)) (fp : List Addr), DU (X.blk s H scope (compEnvC scope cl C X.env) fp) E0 elt Te)
    (hy : X.N[i]? = some y := by rfl) (hyl : X.env.scope.names.lookup y = some .local := by rfl)
    (hsw : swapsWith (.ListComp elt [⟨tg, iter, ifs, 0⟩] scope pos) (some (.Name y py)) spos.line X.env = pure true := by exact sw_true rfl rfl rfl (by decide +kernel))
    (hs : ∀ x, foldedSetIterable iter X.env x = pure x := by intro _; rfl) : DS X E (.Assign [.Name y py] (.ListComp elt [⟨tg, iter, ifs, 0⟩] scope pos) spos) (zSetU i (xF (xLcF Ti G Tt Te (own.map (·.2))))) := by
  obtain ⟨wi, p, s⟩ := hi
  exact ⟨_, ps_setLc hc hN hy hyl hsw p ok (fun s H C cl fp => pg_can (hg s H C cl fp)) (fun s H C cl fp => pts_can (ht s H C cl fp)) (fun s H C cl fp => pe_canU (he s H C cl fp)) hs, smS_setU (smU_lc hsub s)⟩
end
theorem w_trs_ds {ds : List D} : T.ds (D.trs ds) = ds := trs_ds ds
theorem w_tr_d {d : D} : d.tr.d = d := tr_d d
theorem trs_set {ds : List D} {d : D} : ∀ {i : Nat}, (D.trs ds).set i d.tr = D.trs (ds.set i d) := fun {i} => by rw [trs_map, trs_map, List.map_set]
theorem w_trs_length {ds : List D} : (D.trs ds).length = ds.length := trs_length ds
theorem w_tr_int {i : Int} : (D.int i).tr = .dat (.int i) := rfl
mutual
theorem RepT.nt {B : Option Addr} {S H : Hp} : ∀ {t : T} {v : V} {as : List Addr}, RepT B S H t v as → ∀ a ∈ as, ∀ vs, H a ≠ some (.tup vs)
  | .dat d, v, as, r, a, m => by
    rw [RepT] at r
    rw [r.2] at m
    cases m
  | .lst ts, v, as, r, a, m => by
    rw [RepT] at r
    obtain ⟨a0, vs, bs, e, e2, l, rfl⟩ := r
    rcases List.mem_cons.mp m with rfl | m
    · rw [e2]
      exact fun vs z => nomatch z
    · exact RepTL.nt l a m
  | .tup ts, v, as, r, a, m => by
    rw [RepT] at r
    obtain ⟨a0, vs, e, e2, l⟩ := r
    exact RepTL.nt l a m
  | .obj C ks ts, v, as, r, a, m => by
    rw [RepT] at r
    obtain ⟨a0, dx, vs, bs, e, e2, e3, n, l, rfl⟩ := r
    rcases List.mem_cons.mp m with rfl | m
    · rw [e2]
      exact fun vs z => nomatch z
    rcases List.mem_cons.mp m with rfl | m
    · rw [e3]
      exact fun vs z => nomatch z
    · exact RepTL.nt l a m
theorem RepTL.nt {B : Option Addr} {S H : Hp} : ∀ {ts : List T} {vs : List V} {as : List Addr}, RepTL B S H ts vs as → ∀ a ∈ as, ∀ vs, H a ≠ some (.tup vs)
  | [], _, _, r, a, m => by
    rw [RepTL] at r
    rw [r.2] at m
    cases m
  | t :: ts, vs, as, r, a, m => by
    rw [RepTL] at r
    obtain ⟨v, ws, bs, cs, e, r1, r2, rfl⟩ := r
    rcases List.mem_append.mp m with m | m
    · exact RepT.nt r1 a m
    · exact RepTL.nt r2 a m
end
section
variable {X : Cx} {E : XK} {e a b : Expr} {T Ta : DT} {TF : DTF} {p pos : Pos}
def xLendU (T : DT) : DT := fun env R Rx => T (thaw env) (fun d => d.dat = true ∧ R d) Rx
theorem w_lendU {env : En} {R : D → Prop} {Rx : Er → Prop} : xLendU T env R Rx = T (thaw env) (fun d => d.dat = true ∧ R d) Rx := rfl
def xLendF (TF : DTF) : DTF := fun env R Rx => TF (thaw env) (fun ds => flatL ds = true ∧ R ds) Rx
theorem w_lendF {env : En} {R : List D → Prop} {Rx : Er → Prop} : xLendF TF env R Rx = TF (thaw env) (fun ds => flatL ds = true ∧ R ds) Rx := rfl
theorem f_lend (h : DF X E e TF) : DF X E e (xLendF TF) := by
  obtain ⟨t, p, s⟩ := h
  refine ⟨t, p, fun c σ H S env R Rx x k t Q q => s _ σ H _ _ _ Rx (x.lend k) k.lend t Q fun p vs H1 S1 ds k1 s1 n0 f n2 e1 l1 t1 => ?_⟩
  obtain ⟨k2, s2⟩ := k.unlend k1.kf
  have nh : H p = none := n0
  refine q p vs H1 _ ds k2 s2 (k.kf.h0_none nh) (k.free nh) ?_ e1 (flatL_rep t1.1 l1) t1.2
  by_cases z : OwnA σ env p
  · exact back_own z
  · rw [back_not z]
    exact n2
end
section
variable {X : Cx} {E : XK} {pos p1 : Pos} {e b a : Expr} {st : Stmt} {sts : List Stmt} {T : DTS} {Tu Ta : DT} {TF : DTF}
def zFrzU (i : Nat) (T : DTS) : DTS := fun Q env => isTre i env fun tt _ => T Q (put i tt.d env)
theorem w_frzU {i : Nat} {Q : DEnds} {env : En} : zFrzU i T Q env = isTre i env fun tt _ => T Q (put i tt.d env) := rfl
def zRetU (i : Nat) : DTS := fun Q env => isTre i env fun tt _ => ∃ d : D, tt = d.tr ∧ Q.rt .tr d
theorem w_retU {i : Nat} {Q : DEnds} {env : En} : zRetU i Q env = isTre i env fun tt _ => ∃ d : D, tt = d.tr ∧ Q.rt .tr d := rfl
theorem s_retU (i : Nat) {x : Str} {p2 : Pos} (hN : X.N[i]? = some x := by rfl) (hv : Vis X.env.scope x := by first | exact Or.inl rfl | exact Or.inr (Or.inl rfl) | exact Or.inr (Or.inr rfl)) (hd : (x == ("__debug__" : Str)) = false := by decide)
    (hcd : (x == ("__classdict__" : Str)) = false := by decide) : DS X E (.Return (some (.Name x p2)) pos) (zRetU i) := by
  refine ⟨_, ps_ret (pv i hN hv hd hcd), fun c σ H S env Q x k t D m => ?_⟩
  obtain ⟨tt, as, e, d, rfl, t⟩ := t
  obtain ⟨v, e1, r, n, g⟩ := k.sl i _ e
  exact ⟨v, e1, m.2.1 .tr v H S d k.kf (Same.refl S) ⟨as, r, n, g⟩ t⟩
def zRetUe (Tu : DT) : DTS := fun Q env => Tu env (Q.rt .tr) Q.ex
theorem w_retUe {Q : DEnds} {env : En} : zRetUe Tu Q env = Tu env (Q.rt .tr) Q.ex := rfl
def zAppF (TF : DTF) (Ta : DT) : DTS := fun Q env => TF env (fun ds => Ta (valE env) (fun d => ds.length < sizeLine ∧ Q.nx env) Q.ex) Q.ex
theorem w_appF {Q : DEnds} {env : En} : zAppF TF Ta Q env = TF env (fun ds => Ta (valE env) (fun d => ds.length < sizeLine ∧ Q.nx env) Q.ex) Q.ex := rfl
theorem s_appF {apos p2 : Pos} (hb : DF X E b TF) (h : DE X E a Ta)
    (hp : ∀ {to te : TE}, PE X b to → PE X a te → PE X (.Call (.Attribute b "append" apos) [a] [] p2) (tBM X.K "list" rAppend to (tCons te tNil)))
    (hs : swapsWith (.Call (.Attribute b "append" apos) [a] [] p2) none pos.line X.env = pure false := by rfl) :
    DS X E (.Expr (.Call (.Attribute b "append" apos) [a] [] p2) pos) (zAppF TF Ta) := by
  obtain ⟨to, po, so⟩ := hb
  obtain ⟨te, pe, se⟩ := h
  refine ⟨_, ps_expr (hp po pe) hs, fun c σ H S env Q x k t D m => so c σ H S env _ _ x k t _ fun p vs H1 S1 ds k1 s1 n0 f n2 e1 l1 t1 => ?_⟩
  refine ⟨.inl ⟨rfl, vs, SqL.of e1⟩, se (c.at H1 S1) σ H1 S1 (valE env) _ _ (x.at k1.kf) k1.vals t1 _ fun w H2 S2 d k2 s2 r2 t2 => ?_⟩
  have k3 := k1.back k2.kf
  have e2 := k2.kf.old p _ e1 (k1.kf.x_ne0 n0)
  have n3 : S2 p = none := k2.kf.new p n2 (mu_lst e1)
  exact ⟨p, vs, w, rfl, rfl, e2, by rw [l1.length]; exact t2.1, m.1 σ _ S2 env (k3.updF n3 n0 e2 lst_ne f) (s1.trans s2) t2.2⟩
def zClrF (TF : DTF) : DTS := fun Q env => TF env (fun _ => Q.nx env) Q.ex
theorem w_clrF {Q : DEnds} {env : En} : zClrF TF Q env = TF env (fun _ => Q.nx env) Q.ex := rfl
/-- xs.clear(), xs of the frame's own -/
def zClrO (i : Nat) : DTS := fun Q env => ∃ xs, env[i]? = some (some (.own xs)) ∧ Q.nx (putO' i [] env)
theorem w_clrO_0 {xs : List D} {l : En} {Q : DEnds} : zClrO 0 Q (some (.own xs) :: l) = Q.nx (some (.own []) :: l) := by
  refine propext ⟨fun ⟨_, _, q⟩ => q, fun q => ⟨xs, rfl, q⟩⟩
theorem w_clrO {i : Nat} {Q : DEnds} {env : En} : zClrO i Q env = ∃ xs, env[i]? = some (some (.own xs)) ∧ Q.nx (putO' i [] env) := rfl
end
end DL
namespace DL
open PySem PySem.Spec L2
variable [TbC]
theorem w_setN {p : Addr} {f : Str} {Te : DT} {U : ITS} {R : Bool → List Str → List D → Prop} {Rx : Er → Prop} {nf : Bool} {ks : List Str} {xs : List D} {env : En} : jSetN p f Te U R Rx nf ks xs env = Te env (fun d => env[0]? = some (some (.val (.adr p))) ∧ f ∉ ks ∧ ks.length < 1000 ∧ U R noX nf (ks ++ [f]) (xs ++ [d]) env) Rx := rfl
mutual
/-- without tuples and objects -/
def D.nt : D → Bool
  | .lst xs => ntL xs
  | .non | .bl _ | .int _ | .str _ | .ty _ => true
  | .tup _ | .adr _ | .bag | .fn _ _ _ | .exc _ _ _ _ _ | .dct _ _ | .dcT _ _ | .obj _ _ _ => false
def ntL : List D → Bool
  | [] => true
  | x :: xs => x.nt && ntL xs
end
theorem w_nt_lst {xs : List D} : (D.lst xs).nt = ntL xs := rfl
theorem w_nt_int {i : Int} : (D.int i).nt = true := rfl
theorem w_nt_non : D.non.nt = true := rfl
theorem w_nt_bl {b : Bool} : (D.bl b).nt = true := rfl
theorem w_nt_str {s : Str} : (D.str s).nt = true := rfl
theorem w_ntL_nil : ntL [] = true := rfl
theorem w_ntL_cons {x : D} {xs : List D} : ntL (x :: xs) = (x.nt && ntL xs) := rfl
theorem w_ntL_ints {ns : List Int} : ntL (ns.map D.int) = true := by
  induction ns with
  | nil => rfl
  | cons n ns ih => rw [List.map_cons, w_ntL_cons, ih]; rfl
section
variable {X : Cx} {E : XK} {e : Expr} {T : DT}
def xNT (T : DT) : DT := fun env R Rx => T env (fun d => d.nt = true ∧ R d) Rx
theorem w_xNT {env : En} {R : D → Prop} {Rx : Er → Prop} : xNT T env R Rx = T env (fun d => d.nt = true ∧ R d) Rx := rfl
end
section
variable {X : Cx} {E : XK} {CX : CXT} {k : Nat} {C f : Addr} {fd : FuncData} {ps : List Str} {F : Spec} {x : Str} {e : Expr} {es : List Expr} {Tl : DTA} {pos p : Pos}
theorem sp_makeN {c : Fm} {σ : St} {H S : Hp} {env : En} {vs : List V} {xs : List D} {R : D → Prop} {Rx : Er → Prop} {Q : VK} {a dx : Addr} (kn : Kn c σ H S env) (x : XOk c E Rx) (l : RepL c.B S xs vs) (t : F xs R Rx) (ha : H a = none) (hdx : H dx = none) (ne : dx ≠ a)
    (q : ∀ v H' S' N d, Kn c σ H' S' env → Same S S' → Reg c σ env H' S' N → Rep c.B (uni (tpC S') N) d v → R d → Q v H') : spIN C F (.ref a :: vs) (upd (upd H dx (.own a)) a (.ins C dx [])) (fun v H2 => v = .non ∧ Q (.ref a) H2) E := by
  have k1 := (kn.new0 (o := .own a) hdx)
  have ha1 : upd H dx (.own a) a = none := by rw [upd_ne (Ne.symm ne)]; exact ha
  have k2 := k1.new0 (o := .ins C dx []) ha1
  refine ⟨c.at _ S, S, a, dx, vs, xs, R, Rx, rfl, rfl, rfl, k2.kf.at, upd_same, kn.kf.x_ne ha, kn.kf.s_none ha, l, t, fun H' S' ks ys us k' hl _ ln r' => ⟨rfl, ?_⟩, x.at k2.kf⟩
  have ln := ln rfl
  have h2 : ∀ b o, b ≠ a → b ≠ dx → H b = some o → upd (upd (upd H dx (.own a)) a (.ins C dx [])) a (.ins C dx (ks.zip us)) b = some o := fun b o n1 n2 e => by rw [upd_ne n1, upd_ne n1, upd_ne n2]; exact e
  have hda : H' dx = some (.own a) := k'.old dx _ (by show upd (upd (upd H dx (.own a)) a (.ins C dx [])) a _ dx = _; rw [upd_ne ne, upd_ne ne, upd_same]) (kn.kf.x_ne hdx)
  have haa : H' a = some (.ins C dx (ks.zip us)) := k'.old a _ upd_same (kn.kf.x_ne ha)
  have kS : Kf (c.at H S) H' S := ⟨k'.s0.trans k'.sub, Same.refl S, fun b o eb nb => k'.old b o (h2 b o (fun z => by rw [z] at eb; have : H a = some o := eb; rw [ha] at this; cases this) (fun z => by rw [z] at eb; have : H dx = some o := eb; rw [hdx] at this; cases this) eb) nb, fun b e _ => e, fun b eb => by
    obtain ⟨⟨b1, cs, i, g, st, n, b2, b3, b4⟩, b5⟩ := k'.bag b eb
    obtain ⟨⟨d1, cs', _, _, _, _, d2, d3, _⟩, _⟩ := kn.kf.bag b eb
    have e3 : cs' = cs := by
      have z := k'.s0 _ _ d3
      have z2 : some (HO.lst (cs'.map V.int)) = some (HO.lst (cs.map V.int)) := z.symm.trans b3
      injection z2 with z2
      injection z2 with z2
      exact List.map_inj_right (fun _ _ h => by injection h) |>.mp z2
    subst e3
    exact ⟨⟨d1, cs', i, g, st, n, b2, d3, b4⟩, by show H b ≠ none; rw [d2]; exact fun z => nomatch z⟩, ⟨fun p hp => ⟨(k'.tab.1 p hp).1, (kn.kf.tab.1 p hp).2⟩, fun p hp => kn.kf.tab.1.ne hp⟩⟩
  have knS := kn.back kS
  let H2 := upd (upd H dx (.own a)) a (.ins C dx [])
  have H2a : H2 a = some (.ins C dx []) := upd_same
  have H2d : H2 dx = some (.own a) := by show upd (upd H dx (.own a)) a (.ins C dx []) dx = _; rw [upd_ne ne, upd_same]
  have h2n : ∀ {b}, H2 b = none → H b = none ∧ b ≠ a ∧ b ≠ dx := fun {b} e1 => by
    have n1 : b ≠ a := fun z => by rw [z, H2a] at e1; cases e1
    have n2 : b ≠ dx := fun z => by rw [z, H2d] at e1; cases e1
    have e1 : upd (upd H dx (.own a)) a (.ins C dx []) b = none := e1
    rw [upd_ne n1, upd_ne n2] at e1
    exact ⟨e1, n1, n2⟩
  -- a tuple of S' is one of S or is new
  have tpn : ∀ {b vs0}, S' b = some (.tup vs0) → S b = some (.tup vs0) ∨ (S b = none ∧ H2 b = none) := fun {b vs0} e => by
    cases sb : S b with
    | some o =>
      have := k'.s0 b o sb
      rw [e] at this
      cases this
      exact .inl rfl
    | none =>
      refine .inr ⟨rfl, ?_⟩
      cases hb : H2 b with
      | none => rfl
      | some o =>
        have hm : ¬ Mu (H2 b) := fun m => by
          have nb : b ≠ a := fun z => by
            subst z
            have s1 := k'.new b sb (by show Mu (upd _ b _ b); rw [upd_same]; exact mu_of rfl fun _ z => nomatch z)
            rw [e] at s1
            cases s1
          have s1 := k'.new b sb (by
            show Mu (upd H2 a (.ins C dx (ks.zip us)) b)
            rw [upd_ne nb]
            exact m)
          rw [e] at s1
          cases s1
        have nb : b ≠ a := fun z => hm (by rw [z, H2a]; exact mu_of rfl fun _ z => nomatch z)
        have hx : ¬ Ex c.B b := fun z => by
          have z2 := k'.sub b _ e
          rcases z with z | ⟨q, hq, z⟩
          · have := (k'.bag b z).1.1
            rw [e] at this
            cases this
          · have := (k'.tab.1 q hq).2
            rw [z, e] at this
            cases this
        have h3 : H' b = some o := k'.old b o (by show upd H2 a (.ins C dx (ks.zip us)) b = _; rw [upd_ne nb]; exact hb) hx
        rw [k'.sub b _ e] at h3
        cases h3
        exact absurd (mu_of hb fun _ z => nomatch z) hm
  have g1 : Reg c σ env H' S (newH H2 (tpC S')) := fun b o e => by
    obtain ⟨e1, e2⟩ := newH_some e
    obtain ⟨vs0, rfl, e3⟩ := tpC_of e2
    obtain ⟨e4, n1, n2⟩ := h2n e1
    exact ⟨k'.sub _ _ e3, kn.kf.s_none e4, kn.kf.h0_none e4, kn.free e4⟩
  have kn1 := knS.uni g1
  have sz : ∀ {b}, H b = none → (∀ vs0, S' b ≠ some (.tup vs0)) → uni S (newH H2 (tpC S')) b = none := fun {b} e1 e2 => by
    cases z : uni S (newH H2 (tpC S')) b with
    | none => rfl
    | some o =>
      rcases uni_of z with z | ⟨_, z⟩
      · rw [kn.kf.s_none e1] at z
        cases z
      · obtain ⟨vs0, _, e3⟩ := tpC_of (newH_some z).2
        exact absurd e3 (e2 vs0)
  have sd : ∀ {b}, H b = none → b = a ∨ b = dx → uni S (newH H2 (tpC S')) b = none := fun {b} e1 e2 => by
    cases z : uni S (newH H2 (tpC S')) b with
    | none => rfl
    | some o =>
      rcases uni_of z with z | ⟨_, z⟩
      · rw [kn.kf.s_none e1] at z
        cases z
      · obtain ⟨_, n1, n2⟩ := h2n (newH_some z).1
        rcases e2 with e2 | e2
        · exact absurd e2 n1
        · exact absurd e2 n2
  let N0 : Hp := fun b => match tpC S' b with
    | some _ => none
    | none => newH H2 S' b
  have n0 : ∀ {b o}, N0 b = some o → H2 b = none ∧ S' b = some o ∧ ∀ vs0, S' b ≠ some (.tup vs0) := fun {b o} e => by
    have e : (match tpC S' b with
      | some _ => none
      | none => newH H2 S' b) = some o := e
    split at e
    · cases e
    · rename_i h
      obtain ⟨e1, e2⟩ := newH_some e
      exact ⟨e1, e2, fun vs0 z => by rw [tpC_tup z] at h; cases h⟩
  have n0i : ∀ {b o}, H2 b = none → S' b = some o → (∀ vs0, S' b ≠ some (.tup vs0)) → N0 b = some o := fun {b o} e1 e2 e3 => by
    show (match tpC S' b with
      | some _ => none
      | none => newH H2 S' b) = some o
    cases h : tpC S' b with
    | some o2 =>
      obtain ⟨vs0, _, e4⟩ := tpC_of h
      exact absurd e4 (e3 vs0)
    | none => show newH H2 S' b = some o; rw [newH_of e1]; exact e2
  let S3 : Hp := uni S (newH H2 (tpC S'))
  let N1 : Hp := upd (upd N0 dx (.own a)) a (.ins C dx (ks.zip us))
  have sN : Same (newT H2 S') (uni (tpC S3) N1) := fun b o e => by
    have tup : ∀ vs0, S' b = some (.tup vs0) → uni (tpC S3) N1 b = some (.tup vs0) := fun vs0 e5 => by
      refine uni_l b _ (tpC_tup ?_)
      rcases tpn e5 with z | ⟨z1, z2⟩
      · exact uni_l b _ z
      · show DL.uni S (newH H2 (tpC S')) b = _
        unfold DL.uni
        rw [z1]
        show newH H2 (tpC S') b = _
        rw [newH_of z2]
        exact tpC_tup e5
    rcases newT_of e with ⟨e1, e2⟩ | ⟨vs0, rfl, e2⟩
    · by_cases z : ∃ vs0, S' b = some (.tup vs0)
      · obtain ⟨vs0, z⟩ := z
        rw [z] at e2
        cases e2
        exact tup vs0 z
      · have z2 : ∀ vs0, S' b ≠ some (.tup vs0) := fun vs0 y => z ⟨vs0, y⟩
        obtain ⟨e4, m1, m2⟩ := h2n e1
        have e6 : N1 b = some o := by
          show upd (upd N0 dx (.own a)) a (.ins C dx (ks.zip us)) b = _
          rw [upd_ne m1, upd_ne m2]
          exact n0i e1 e2 z2
        show DL.uni (tpC S3) N1 b = some o
        unfold DL.uni
        cases y : tpC S3 b with
        | none => exact e6
        | some o2 =>
          obtain ⟨vs0, _, e7⟩ := tpC_of y
          have : S3 b = none := sz e4 z2
          rw [this] at e7
          cases e7
    · exact tup vs0 e2
  have tn : ∀ {b}, b = a ∨ b = dx → tpC S3 b = none := fun {b} e => by
    cases y : tpC S3 b with
    | none => rfl
    | some o2 =>
      obtain ⟨vs0, _, e7⟩ := tpC_of y
      have hb : H b = none := by rcases e with rfl | rfl <;> assumption
      have : S3 b = none := sd hb e
      rw [this] at e7
      cases e7
  refine q (.ref a) H' S3 N1 (.obj C ks ys) kn1 uni_l (fun b o e => ?_) ?_ r'
  · have e : upd (upd N0 dx (.own a)) a (.ins C dx (ks.zip us)) b = some o := e
    by_cases z : b = a
    · subst z
      rw [upd_same] at e
      cases e
      exact ⟨haa, sd ha (.inl rfl), kn.kf.h0_none ha, kn.free ha⟩
    · rw [upd_ne z] at e
      by_cases y : b = dx
      · subst y
        rw [upd_same] at e
        cases e
        exact ⟨hda, sd hdx (.inr rfl), kn.kf.h0_none hdx, kn.free hdx⟩
      · rw [upd_ne y] at e
        obtain ⟨e1, e2, e3⟩ := n0 e
        obtain ⟨e4, _, _⟩ := h2n e1
        exact ⟨k'.sub _ _ e2, sz e4 e3, kn.kf.h0_none e4, kn.free e4⟩
  · rw [Rep]
    refine ⟨a, dx, us, rfl, ?_, ?_, hl, repL_mono sN ys us ln⟩
    · show DL.uni (tpC S3) N1 a = _
      unfold DL.uni
      rw [tn (.inl rfl)]
      exact upd_same
    · show DL.uni (tpC S3) N1 dx = _
      unfold DL.uni
      rw [tn (.inr rfl)]
      show upd (upd N0 dx (.own a)) a _ dx = _
      rw [upd_ne ne, upd_same]
/-- values of new parts and of tuples -/
def SmP (E : XK) (t : TE) (T : DT) : Prop := ∀ (c : Fm) (σ : St) (H S : Hp) (env : En) (R : D → Prop) (Rx : Er → Prop), XOk c E Rx → Kn c σ H S env → T env R Rx →
  ∀ Q : VK, (∀ v H' S' N d, Kn c σ H' S' env → Same S S' → Reg c σ env H' S' N → Rep c.B (uni (tpC S') N) d v → R d → Q v H') → t σ H Q
def DP (X : Cx) (E : XK) (e : Expr) (T : DT) : Prop := ∃ t, PE X e t ∧ SmP E t T
theorem tp_uni {c : Fm} {σ : St} {env : En} {H S N : Hp} (g : Reg c σ env H S N) : Same (DL.uni (tpC S) N) (DL.uni S N) := fun a o e => by
  rcases uni_of e with e | ⟨_, e2⟩
  · obtain ⟨vs, rfl, h⟩ := tpC_of e
    exact uni_l a _ h
  · exact uni_r g a o e2
theorem d_ofP {e : Expr} {T : DT} (h : DP X E e T) : DE X E e T := by
  obtain ⟨t, p, s⟩ := h
  exact ⟨t, p, fun c σ H S env R Rx x k h Q q => s c σ H S env R Rx x k h Q fun v H1 S1 N d k1 s1 g r t1 => q v H1 (uni S1 N) d (k1.uni g) (s1.trans uni_l) (rep_mono (tp_uni g) d v r) t1⟩
theorem d_makeN (M : Mk X.K C f) (G : FnOk X.prog X.w X.K X.mg X.base CX k f fd ps (spIN C F)) (hr : Room (k + 1) X.A) (hm : X.mg x = some (.ref C)) (hb : Binds X.K fd ps []) (hx : Passes CX X E) (ha : DA X E (e :: es) Tl)
    (hg : Gl X x := by rfl) (hdb : (x == ("__debug__" : Str)) = false := by decide) (he : starEach (e :: es) X.env = (false, eval e X.env) :: starEach es X.env := by rfl) (hpl : (backTo pos (starEach es X.env)).any (·.1) = false := by rfl) :
    DP X E (.Call (.Name x p) (e :: es) [] pos) (xMake F Tl) := by
  obtain ⟨t, p1, s⟩ := ha
  refine ⟨_, pe_make M G hr hg hm hb .nil hx p1 hdb he hpl, fun c σ H S env R Rx x k t Q q => s c σ H S env _ Rx x k t _ fun vs H1 S1 xs k1 s1 l1 t1 a dx hxa hxd ne => ?_⟩
  rw [List.append_nil]
  exact sp_makeN k1 x l1 t1 hxa hxd ne fun v H' S' N d k' s' g' r' z => q v H' S' N d k' (s1.trans s') g' r' z
end
mutual
theorem rep_dat2 {B : Option Addr} {S H N : Hp} (sub : ∀ a vs, S a = some (.tup vs) → N a = some (.tup vs)) : ∀ (d : D) (v : V) (as : List Addr), d.dat = true → (∀ a ∈ as, N a = H a) → RepT B S H d.tr v as → Rep B N d v
  | .lst xs, v, as, q, h, r => by
    rw [D.tr, RepT] at r
    obtain ⟨a, vs, bs, e, e2, l, rfl⟩ := r
    rw [Rep]
    exact ⟨a, vs, e, (h a List.mem_cons_self).trans e2, repL_dat2 sub xs vs bs q (fun b m => h b (List.mem_cons_of_mem _ m)) l⟩
  | .tup xs, v, as, q, h, r => by
    rw [D.tr, RepT] at r
    obtain ⟨a, vs, e, e2, l⟩ := r
    rw [Rep]
    exact ⟨a, vs, e, sub _ _ e2, repL_dat2 sub xs vs as q h l⟩
  | .non, v, as, _, _, r | .bl _, v, as, _, _, r | .int _, v, as, _, _, r | .str _, v, as, _, _, r => by
    rw [D.tr, RepT] at r
    exact flat_rep rfl r.1
  | .ty _, _, _, q, _, _ | .adr _, _, _, q, _, _ | .bag, _, _, q, _, _ | .fn _ _ _, _, _, q, _, _ | .obj _ _ _, _, _, q, _, _ | .exc _ _ _ _ _, _, _, q, _, _ | .dct _ _, _, _, q, _, _ | .dcT _ _, _, _, q, _, _ => nomatch (show false = true from q)
theorem repL_dat2 {B : Option Addr} {S H N : Hp} (sub : ∀ a vs, S a = some (.tup vs) → N a = some (.tup vs)) : ∀ (ds : List D) (vs : List V) (as : List Addr), datL ds = true → (∀ a ∈ as, N a = H a) → RepTL B S H (D.trs ds) vs as → RepL B N ds vs
  | [], vs, as, _, _, r => by
    rw [D.trs, RepTL] at r
    rw [r.1]
    exact repL_nil
  | d :: ds, vs, as, q, h, r => by
    rw [D.trs, RepTL] at r
    obtain ⟨v, ws, bs, cs, rfl, r1, r2, rfl⟩ := r
    have q : (d.dat && datL ds) = true := q
    rw [Bool.and_eq_true] at q
    exact repL_cons (rep_dat2 sub d v bs q.1 (fun a m => h a (List.mem_append_left _ m)) r1) (repL_dat2 sub ds ws cs q.2 (fun a m => h a (List.mem_append_right _ m)) r2)
end
section
variable {X : Cx} {E : XK} {p dx C : Addr} {rest : List Stmt} {U : ITS} {T : DT} {pos p1 p2 : Pos}
/-- a tree as a value of new lists -/
def xDatU (T : DT) : DT := fun env R Rx => T env (fun d => d.dat = true ∧ R d) Rx
theorem w_xDatU {env : En} {R : D → Prop} {Rx : Er → Prop} : xDatU T env R Rx = T env (fun d => d.dat = true ∧ R d) Rx := rfl
theorem w_ofU {e : Expr} {T : DT} (h : DU X E e T) : DWn X E e (xDatU T) := by
  obtain ⟨t, p, s⟩ := h
  refine ⟨t, p, fun c σ H S env R Rx x k h Q q => s c σ H S env _ Rx x k h Q fun v H1 S1 as d k1 s1 r n g t1 => ?_⟩
  obtain ⟨k2, s2⟩ := k1.frzT g
  have r1 := repT_frz r fun a m => (g a m).1
  rw [tr_d] at r1
  refine q v H1 _ d k2 (s1.trans s2) r1 ?_ t1.2
  have sub : ∀ a vs, S1 a = some (.tup vs) → newT c.H0 (frzS as H1 S1) a = some (.tup vs) := fun a vs e => newT_tup (s2 _ _ e)
  refine rep_dat2 sub d v as t1.1 (fun a m => ?_) r
  cases e : H1 a with
  | none => exact absurd e (r.mu a m).1
  | some o => exact uni_l a o (by rw [newH_of (g a m).2.1, frzS_in m]; exact e)
end
section
variable {X : Cx} {E : XK} {a b c : Expr} {Ta Tb : DT} {TFa TFb : DTF} {TT : DTT} {pos : Pos}
/-- a, b = new lists, both of the frame's own -/
def zParOO (i j : Nat) (Ta : DTF) (Tb : DTF) : DTS := fun Q env => Ta env (fun ds => Tb (valE env) (fun es => Q.nx (putO' j es (putO' i ds env))) Q.ex) Q.ex
theorem w_parOO {i j : Nat} {Q : DEnds} {env : En} : zParOO i j TFa TFb Q env = TFa env (fun ds => TFb (valE env) (fun es => Q.nx (putO' j es (putO' i ds env))) Q.ex) Q.ex := rfl
end
end DL
namespace DL
open PySem PySem.Spec L2
variable [TbC]
section
variable {X : Cx}
def opIsNotB : DOp := fun x y R => ∃ b c, x = .bl b ∧ y = .bl c ∧ R (.bl (!decide (b = c)))
theorem w_isNotB {b c : Bool} {R : D → Prop} : opIsNotB (.bl b) (.bl c) R = R (.bl (!decide (b = c))) := by
  refine propext ⟨fun ⟨b2, c2, e1, e2, q⟩ => ?_, fun q => ⟨b, c, rfl, rfl, q⟩⟩
  cases e1
  cases e2
  exact q
end
end DL
namespace DL
open PySem PySem.Spec L2
variable [TbC]
def xCv (d : D) : DT := fun _ R _ => R d
theorem w_xCv {d : D} {env : En} {R : D → Prop} {Rx : Er → Prop} : xCv d env R Rx = R d := rfl
/-- x == y, x an own object, y a list -/
def opOwnL (C : Addr) (F : Spec) : DOp := fun x y R => asO C (fun _ _ => True) x ∧ (∃ ys, y = .lst ys) ∧ F [x, y] R noX
theorem w_opOwnL {C : Addr} {F : Spec} {x : D} {ys : List D} {R : D → Prop} : opOwnL C F x (.lst ys) R = (asO C (fun _ _ => True) x ∧ F [x, .lst ys] R noX) := by
  apply propext
  exact ⟨fun ⟨a, _, b⟩ => ⟨a, b⟩, fun ⟨a, b⟩ => ⟨a, ⟨_, rfl⟩, b⟩⟩
def xTruLen (C : Addr) (F : Spec) (Ta : DT) : DTT := fun env R Rx => Ta env (fun x => asO C (fun _ _ => True) x ∧ F [x] (natR fun d => match d with | .int n => R (n != 0) | _ => False) noX) Rx
theorem w_xTruLen {C : Addr} {F : Spec} {Ta : DT} {env : En} {R : Bool → Prop} {Rx : Er → Prop} : xTruLen C F Ta env R Rx = Ta env (fun x => asO C (fun _ _ => True) x ∧ F [x] (natR fun d => match d with | .int n => R (n != 0) | _ => False) noX) Rx := rfl
end DL
namespace ZM
open PySem Sem
theorem meets_enum_tup {l : Addr} {xs : Array Value} : Meets (Builtin.«enumerate.__new__» ⟨[.type "enumerate", .ref l], []⟩) (fun _ R s => s.heap.IsTuple l xs ∧
    R (.ok (.ret (.ref (s.heap.objs.size + 1)))) { s with heap := (s.heap.push { cls := .type "tuple_iterator", data := .fields #[.ref l, .int 0 0] }).push { cls := .type "enumerate", data := .fields #[.none, .bool false, .ref s.heap.objs.size, rawInt 0, .none, .none] } }) :=
  .of_wp fun prog w A R s h => by
    obtain ⟨hp, g, d, tk, os⟩ := s
    obtain ⟨e1, h⟩ := h
    have hsub := sub_enumerate
    have q1 : Heap.IsTuple (Shared.heap ⟨hp, g, d, tk, os⟩) l xs := e1
    have sz : (hp.push { cls := .type "tuple_iterator", data := .fields #[.ref l, .int 0 0] }).objs.size = hp.objs.size + 1 := Heap.size_push ..
    dsimp only at h
    rw [← sz] at h
    wp_walk using wpAny_pyIter_tuple q1
    refine wpAny_stack_any fun st => wpAny_pure ?_
    split
    · rename_i c _ _ _ _ _
      cases (c == Value.type "enumerate")
      · wp_walk using wpAny_pyIter_tuple q1
        exact ⟨_, rfl, h⟩
      · wp_walk using wpAny_pyIter_tuple q1
        exact ⟨_, rfl, h⟩
    · wp_walk using wpAny_pyIter_tuple q1
      exact ⟨_, rfl, h⟩
theorem call_enum_tup {prog : Program} {w : World} {A : Around} {E : Value → Shared → Prop} {s : Shared} {l : Addr} {xs : Array Value} {Q : Value → Shared → Prop} (hl : s.heap.IsTuple l xs)
    (h : ∀ h', IsEnum h' (s.heap.objs.size + 1) s.heap.objs.size 0 .none → h'.IsTupleIter s.heap.objs.size l 0 → (∀ b o, s.heap.get? b = some o → h'.get? b = some o) → Q (.ref (s.heap.objs.size + 1)) { s with heap := h' }) :
    wpAny (model prog w) A (call (.type "enumerate") [.ref l]) Q E s := by
  refine callType_new F.called_enumerate (by decide) (F.typeCall_enumerate_1 _) (F.newCall_enumerate_1 _) (fun obj => F.args_object_init_2 obj _) F.entry_enumerate_new meets_enum_tup ⟨hl, ?_⟩
  have sz : (s.heap.push { cls := .type "tuple_iterator", data := .fields #[.ref l, .int 0 0] }).objs.size = s.heap.objs.size + 1 := Heap.size_push ..
  have he : IsEnum ((s.heap.push { cls := .type "tuple_iterator", data := .fields #[.ref l, .int 0 0] }).push { cls := .type "enumerate", data := .fields #[.none, .bool false, .ref s.heap.objs.size, rawInt 0, .none, .none] }) (s.heap.objs.size + 1) s.heap.objs.size 0 .none := by
    rw [← sz]
    exact Heap.get?_push_size _ rfl
  exact ⟨⟨_, he, rfl⟩, h _ he ⟨_, Heap.get?_push_of_some _ (Heap.get?_push_size _ rfl), rfl, rfl⟩ fun b o x => Heap.get?_push_of_some _ (Heap.get?_push_of_some _ x)⟩
end ZM
namespace DL
open PySem PySem.Spec L2 PyProof.Rows
variable [TbC]
/-- the items of the tuple at a (n of them), each in a new pair with its number -/
def IteT (K : PySem.W.Frag) (a : Addr) (n : Nat) : It := ⟨fun i H => ∃ (xs : List V) (x : V), SqT K H a xs ∧ xs.length = n ∧ xs[i]? = some x,
  fun i H v H' => ∃ T x, v = .ref T ∧ H T = none ∧ H' = upd H T (.tup [.int (i : Nat), x]) ∧ ∀ ys, SqT K H a ys → ys[i]? = some x, fun i H => ∃ xs : List V, SqT K H a xs ∧ xs.length = n ∧ n ≤ i⟩
theorem turn_enumT {P : Program} {w : World} {K : PySem.W.Frag} {elts : List Expr} {kk : Nat} {tpos : Pos} (a e it : Addr) (n : Nat) (ne : a ≠ it) (hne : e ≠ it) (hea : e ≠ a) :
    Turn P w K (.Tuple elts kk tpos) (IteT K a n) [e, it] e (fun i h => i ≤ n ∧ (∃ old, IsEnum h e it ((i : Nat) : Int) old) ∧ h.IsTupleIter it a i) where
  mem := by simp
  obj := fun i h st b hb => by
    obtain ⟨_, ⟨old, he⟩, ⟨o, ho, hc, hd⟩⟩ := st
    have e' : b = e ∨ b = it := by simpa using hb
    rcases e' with z | z
    · rw [z]; exact ⟨_, he, fun v q => nomatch q⟩
    · rw [z]; exact ⟨o, ho, fun v q => by rw [hd] at q; cases q⟩
  keep := fun i h h' st k => let ⟨hl, ⟨old, he⟩, hi⟩ := st; ⟨hl, ⟨old, k e (by simp) _ he⟩, hi.at fun o q => k it (by simp) o q⟩
  item := by
    intro X hP hw hK hc i pins s σ H E I hf st hg
    subst hP hw hK
    obtain ⟨hl, ⟨old, he⟩, hit⟩ := st
    obtain ⟨xs, x, hq, hn, hx⟩ := hg
    obtain ⟨its, rv, p, _⟩ := I.tuple hq
    have lv := rv.length
    have hlt : i < xs.length := (List.getElem?_eq_some_iff.mp hx).1
    have hel : e < s.heap.objs.size := Heap.lt_size he
    have hil : it < s.heap.objs.size := by obtain ⟨_, q, _⟩ := hit; exact Heap.lt_size q
    have Dr := Draws.tuple (prog := X.prog) (w := X.w) (A := X.A.in1) (show X.A.in1.handled = none from I.ok.hd hc) it a ne its.toArray
    refine wpAny_pyNext_enum_itemD Dr he ⟨hit, p⟩ (by simp; omega) hne (by simp; exact ⟨hne, hea⟩) fun u h' tk hP ho hit' hT hsz hk => ?_
    have ru : RelV x u := by
      obtain ⟨u2, hu2, r2⟩ := rv.get hx
      have hP : its[i]? = some u := by simpa using hP
      rw [hP] at hu2
      cases hu2
      exact r2
    refine ⟨_, rfl, wpAny_letOwnedTupleGo_enum (s := { s with heap := h', toks := tk + 1 }) ho fun h'' he' sb => ?_⟩
    have hT2 : h''.get? s.heap.objs.size = some { cls := .type "tuple", data := .seq #[.int i tk, u] } := (sb.2 _ (Nat.ne_of_gt hel)).trans hT
    have new : ObjOk X.prog X.w (upd H s.heap.objs.size (.tup [.int (i : Nat), x])) h'' s.heap.objs.size (.tup [.int (i : Nat), x]) :=
      ⟨by show 2 ≤ sizeLine; decide, [.int i tk, u], .cons ⟨_, rfl⟩ (.cons ru .nil), ⟨_, hT2, rfl, _, rfl⟩⟩
    have I1 : Inv X pins σ (upd H s.heap.objs.size (.tup [.int (i : Nat), x])) { s with heap := h'', toks := tk + 1 } :=
      I.turnedNew (ch := [e, it]) (fun b ob hb q => (sb.2 b (fun z => hb (by simp [z]))).trans (hk b ob (fun z => hb (by simp [z])) (fun z => hb (by simp [z])) q)) hf (Nat.le_refl _) new
    refine ⟨.ref s.heap.objs.size, _, I1, rfl, ⟨_, x, rfl, I.hok.fresh (Nat.le_refl _), rfl, fun ys hy => by rw [I.tuple_inj hy hq]; exact hx⟩, ⟨by omega, ⟨u, ?_⟩, hit'.1.at fun o q => (sb.2 it (Ne.symm hne)).trans q⟩, fun b hb => ?_⟩
    · have e1 : ((i + 1 : Nat) : Int) = (i : Int) + 1 := by omega
      rw [e1]; exact he'
    · have hb' : b < s.heap.objs.size := by
        have e' : b = e ∨ b = it := by simpa using hb
        rcases e' with z | z
        · rw [z]; exact hel
        · rw [z]; exact hil
      rw [upd_ne (Nat.ne_of_lt hb')]
      exact (hf b hb).1
  done := by
    intro X hP hw hK hc i pins s σ H E I hf st hg
    subst hP hw hK
    obtain ⟨hl, ⟨old, he⟩, hit⟩ := st
    obtain ⟨xs, hq, hn, hx⟩ := hg
    obtain ⟨its, rv, p, _⟩ := I.tuple hq
    have lv := rv.length
    obtain ⟨f0, f1, f2, f3, f4, f5⟩ := hf it (by simp)
    have Dr := Draws.tuple (prog := X.prog) (w := X.w) (A := X.A.in1) (show X.A.in1.handled = none from I.ok.hd hc) it a ne its.toArray
    have ei : i = its.toArray.size := by simp; omega
    subst ei
    exact wpAny_pyNext_enum_endD Dr he ⟨hit, p⟩ fun h' eb => ⟨rfl, I.turned (t' := s.toks) (fun b o hb q => eb b o hb q) f0 f1 f3 f4 f5⟩
  self := fun A i s Q E st h => let ⟨_, ⟨_, he⟩, _⟩ := st; wpAny_pyIter_enum he h
def iEnumT (K : PySem.W.Frag) (ta : TA) : TI := fun σ H R => ta σ H fun vs H1 => ∃ a xs, vs = [.ref a] ∧ SqT K H1 a xs ∧ R (IteT K a xs.length) H1
theorem pi_enumT {X : Cx} {e : Expr} {ta : TA} {p pos tpos : Pos} {elts : List Expr} {kk : Nat} (hg : Gl X "enumerate") (hm : X.mg "enumerate" = none) (ha : PA X [e] ta) (hs : starEach [e] X.env = [(false, eval e X.env)] := by rfl) :
    PI X (.Tuple elts kk tpos) (.Call (.Name "enumerate" p) [e] [] pos) (iEnumT X.K ta) := by
  refine ⟨fun pins s σ H R I h => Call_ (ld_blt I hg hm boot_enumerate (PyProof.Rows.callWith_type1 (thn (ha.run pos pins s σ H _ I h) ?_) hs rfl))⟩
  rintro us s1 ⟨vs, H1, I1, r1, a, xs, ex, hq, q⟩
  subst ex
  cases r1 with
  | cons r rr =>
    cases rr
    cases r
    obtain ⟨its, rv, p, _⟩ := I1.tuple hq
    have pl : @LT.lt Nat _ a s1.heap.objs.size := by obtain ⟨o, e, _⟩ := id p; exact Heap.lt_size e
    refine ZM.call_enum_tup (xs := its.toArray) p fun h' he hit hk => wpAny_pyIter_enum he ?_
    have I2 : Inv X pins σ H1 { s1 with heap := h' } := I1.kept (t' := s1.toks) hk
    refine ⟨s1.heap.objs.size + 1, [s1.heap.objs.size + 1, s1.heap.objs.size], _, _, H1, rfl, I2, turn_enumT a (s1.heap.objs.size + 1) s1.heap.objs.size xs.length (Nat.ne_of_lt pl) (Nat.succ_ne_self _) (Nat.ne_of_gt (Nat.lt_succ_of_lt pl)), ⟨Nat.zero_le _, ⟨.none, he⟩, hit⟩, fun b hb => ?_, q⟩
    have e' : b = s1.heap.objs.size + 1 ∨ b = s1.heap.objs.size := by simpa using hb
    have hle : s1.heap.objs.size ≤ b := by
      rcases e' with z | z
      · rw [z]; exact Nat.le_add_right _ _
      · rw [z]; exact Nat.le_refl _
    exact I1.fpOk hle (I1.hok.fresh hle)
theorem iteT_ok {B : Option Addr} {K : PySem.W.Frag} {S : Hp} {a : Addr} {vs : List V} {xs : List D} (h : S a = some (.tup vs)) (l : RepL B S xs vs) : ItOk B (IteT K a vs.length) S (nums 0 xs) := fun c hB i σ H S1 env k s => by
  subst hB
  have hH : H a = some (.tup vs) := k.kf.sub _ _ (s _ _ h)
  refine ⟨fun d e => ?_, fun hl => ⟨vs, SqT.of hH, rfl, by rw [nums_length] at hl; rw [l.length]; exact hl⟩⟩
  obtain ⟨x, ex, rfl⟩ := nums_get _ _ _ _ e
  obtain ⟨v, ev, r⟩ := l.get ex
  refine ⟨⟨vs, v, SqT.of hH, rfl, ev⟩, fun z H' yl => ?_⟩
  obtain ⟨T, x', rfl, hT, rfl, hx⟩ := yl
  have e1 := hx vs (SqT.of hH)
  rw [ev] at e1
  cases e1
  obtain ⟨k', s', r'⟩ := put_tup (ds := [.int i, x]) k (repL_cons rfl (repL_cons (rep_mono s _ _ r) repL_nil)) hT
  rw [Int.zero_add]
  exact ⟨_, k', s', r'⟩
def fEnumT (R : List D → Prop) : List D → Prop
  | [.tup xs] => R (nums 0 xs)
  | _ => False
def xEnumT (Tl : DTA) : DTI := fun env R Rx => Tl env (fEnumT R) Rx
theorem w_xEnumT {Tl : DTA} {env : En} {R : List D → Prop} {Rx : Er → Prop} : xEnumT Tl env R Rx = Tl env (fEnumT R) Rx := rfl
theorem w_fEnumT {R : List D → Prop} {xs : List D} : fEnumT R [.tup xs] = R (nums 0 xs) := rfl
theorem i_enumT {X : Cx} {E : XK} {p pos : Pos} {a : Expr} {Tl : DTA} {tpos : Pos} {elts : List Expr} {kk : Nat} (ha : DA X E [a] Tl) (hm : X.mg "enumerate" = none) (hg : Gl X "enumerate" := by rfl) (hs : starEach [a] X.env = [(false, eval a X.env)] := by rfl) :
    DI X E (.Tuple elts kk tpos) (.Call (.Name "enumerate" p) [a] [] pos) (xEnumT Tl) := by
  obtain ⟨t, pa, s⟩ := ha
  refine ⟨_, pi_enumT hg hm pa hs, fun c σ H S env R Rx x k t Rr q => s c σ H S env _ Rx x k t _ fun vs H1 S1 ds k1 s1 r1 t1 => ?_⟩
  unfold fEnumT at t1
  split at t1 <;> try exact t1.elim
  obtain ⟨v, rfl, r2⟩ := rep1 r1
  obtain ⟨a, us, rfl, h1, hS, l⟩ := tup_of k1 r2
  exact ⟨a, us, rfl, SqT.of h1, q _ H1 S1 _ k1 s1 (iteT_ok hS l) t1⟩
end DL
namespace L2
open PySem PySem.Spec PyProof.Rows
end L2
namespace DL
open PySem PySem.Spec L2
end DL
namespace DL
open PySem PySem.Spec L2
variable [TbC]
mutual
def D.nos : D → Bool
  | .lst _ => false
  | .tup xs => nosL xs
  | .non | .bl _ | .int _ | .str _ | .ty _ | .adr _ | .bag | .fn _ _ _ | .obj _ _ _ | .exc _ _ _ _ _ | .dct _ _ | .dcT _ _ => true
def nosL : List D → Bool
  | [] => true
  | x :: xs => x.nos && nosL xs
end
theorem w_nos_tup {xs : List D} : D.nos (.tup xs) = nosL xs := rfl
theorem w_nos_non : D.nos .non = true := rfl
theorem w_nos_bl {b : Bool} : D.nos (.bl b) = true := rfl
theorem w_nos_int {i : Int} : D.nos (.int i) = true := rfl
theorem w_nos_str {s : Str} : D.nos (.str s) = true := rfl
theorem w_nos_obj {C : Addr} {ks : List Str} {xs : List D} : D.nos (.obj C ks xs) = true := rfl
theorem w_nosL_nil : nosL [] = true := rfl
theorem w_nosL_cons {x : D} {xs : List D} : nosL (x :: xs) = (x.nos && nosL xs) := rfl
section
variable {X : Cx} {E : XK} {e : Expr} {T : DT} {TF : DTF}
def xNos (T : DT) : DT := fun env R Rx => T env (fun d => d.nos = true ∧ R d) Rx
theorem w_xNos {env : En} {R : D → Prop} {Rx : Er → Prop} : xNos T env R Rx = T env (fun d => d.nos = true ∧ R d) Rx := rfl
/-- a new list of things without lists -/
def xFNos (TF : DTF) : DT := fun env R Rx => TF env (fun ds => nosL ds = true ∧ R (.lst ds)) Rx
theorem w_xFNos {env : En} {R : D → Prop} {Rx : Er → Prop} : xFNos TF env R Rx = TF env (fun ds => nosL ds = true ∧ R (.lst ds)) Rx := rfl
/-- .. as a list of its own -/
def xNFol (T : DT) : DTF := fun env R Rx => T env (fun d => match d with
  | .lst ds => nosL ds = true ∧ R ds
  | _ => False) Rx
theorem w_xNFol {env : En} {R : List D → Prop} {Rx : Er → Prop} : xNFol T env R Rx = T env (fun d => match d with
  | .lst ds => nosL ds = true ∧ R ds
  | _ => False) Rx := rfl
end
end DL
namespace DL
open PySem PySem.Spec L2
variable [TbC]
section
variable {X : Cx} {E : XK} {e : Expr} {T : DT} {p pos : Pos}
def xTupC (T : DT) : DT := fun env R Rx => T env (fun d => match d with
  | .lst xs => R (.tup xs)
  | _ => False) Rx
theorem w_xTupC {env : En} {R : D → Prop} {Rx : Er → Prop} : xTupC T env R Rx = T env (fun d => match d with
  | .lst xs => R (.tup xs)
  | _ => False) Rx := rfl
end
section
variable {X : Cx} {E : XK} {pos : Pos} {a b : Expr} {TFa : DTF} {Tb : DT}
def zPar2O (i j : Nat) (Ta : DTF) (Tb : DT) : DTS := fun Q env => Ta env (fun ds => Tb (valE env) (fun d => Q.nx (put j d (putO' i ds env))) Q.ex) Q.ex
theorem w_par2O {i j : Nat} {Q : DEnds} {env : En} : zPar2O i j TFa Tb Q env = TFa env (fun ds => Tb (valE env) (fun d => Q.nx (put j d (putO' i ds env))) Q.ex) Q.ex := rfl
end
end DL
namespace DL
open PySem PySem.Spec L2
variable [TbC]
def fMin1 : DFn
  | [.lst xs], R => ∃ ns, asInts xs = some ns ∧ 0 < ns.length ∧ ∀ m, m ∈ ns → (∀ y, y ∈ ns → m ≤ y) → R (.int m)
  | _, _ => False
theorem w_fMin1 {xs : List D} {R : D → Prop} : fMin1 [.lst xs] R = ∃ ns, asInts xs = some ns ∧ 0 < ns.length ∧ ∀ m, m ∈ ns → (∀ y, y ∈ ns → m ≤ y) → R (.int m) := rfl
end DL
namespace DL
open PySem PySem.Spec L2
variable [TbC]
section
variable {X : Cx} {E : XK} {C : Addr} {x : Str} {p pos : Pos}
def xMake00 (C : Addr) : DT := fun _ R _ => R (.obj C [] [])
theorem w_xMake00 {env : En} {R : D → Prop} {Rx : Er → Prop} : xMake00 C env R Rx = R (.obj C [] []) := rfl
/-- isinstance(v, C), v of another own class C' -/
def fIsiK (C' C : Addr) (b : Bool) : DFn
  | [.obj D _ _, .adr c], R => D = C' ∧ c = C ∧ R (.bl b)
  | _, _ => False
theorem w_fIsiK {C' : Addr} {b : Bool} {D c : Addr} {ks : List Str} {xs : List DL.D} {R : DL.D → Prop} : fIsiK C' C b [.obj D ks xs, .adr c] R = (D = C' ∧ c = C ∧ R (.bl b)) := rfl
end
section
variable {X : Cx} {E : XK} {b ix a : Expr} {Tb Ti Ta : DT} {pos : Pos}
def zAppU (Tb : DT) (k : Int) (Ta : DT) : DTS := fun Q env => Tb env (fun d => ∃ xs j ys, d = .lst xs ∧ ixN xs.length k = some j ∧ xs[j]? = some (.lst ys) ∧ ys.length < sizeLine ∧ Ta (valE env) (fun _ => Q.nx env) Q.ex) Q.ex
theorem w_appU {k : Int} {Q : DEnds} {env : En} : zAppU Tb k Ta Q env = Tb env (fun d => ∃ xs j ys, d = .lst xs ∧ ixN xs.length k = some j ∧ xs[j]? = some (.lst ys) ∧ ys.length < sizeLine ∧ Ta (valE env) (fun _ => Q.nx env) Q.ex) Q.ex := rfl
end
end DL
namespace DL
open PySem PySem.Spec L2
variable [TbC]
mutual
def keyN : D → NestedKey
  | .bl b => .num (if b = true then 1 else 0)
  | .int i => .num i
  | .str s => .text s
  | .tup xs => .tup (keyNs xs)
  | _ => .none
def keyNs : List D → List NestedKey
  | [] => []
  | d :: ds => keyN d :: keyNs ds
end
mutual
def D.kok : D → Bool
  | .non | .bl _ | .int _ | .str _ => true
  | .tup xs => kokL xs
  | _ => false
def kokL : List D → Bool
  | [] => true
  | d :: ds => d.kok && kokL ds
end
/-- a key of a dict: a tuple -/
def D.key : D → Bool
  | .tup xs => kokL xs && decide ((NestedKey.tup (keyNs xs)).depth ≤ 8)
  | _ => false
/-- the dict at a: its keys, where they stand, its values -/
def DnO (P : Program) (w : World) (a : Addr) (es : List (NestedKey × Addr × V)) : HO := .ext fun h => es.length ≤ sizeLine ∧ (a == sysModules) = false ∧ (es.map (·.1)).Nodup ∧
  ∃ (o : Obj) (ents : Array DictEntry) (ep : Nat) (xs : List (NestedKey × Addr × Value)), h.get? a = some o ∧ o.ExactDict ∧ o.data = .dict ents ep ∧ ents.toList = xs.map (entryOfKey (nestedKind P w)) ∧ Paired (fun p q => p.1 = q.1 ∧ p.2.1 = q.2.1 ∧ RelV p.2.2 q.2.2) es xs
inductive Nd where
  | lst (xs : List D)
  | dct (ks : List Key) (xs : List D)
  | dcT (ks : List (List Key)) (xs : List D)
  | ins (C dx : Addr) (ks : List Str) (xs : List D)
  | st (w : World) (S : Int → Bool) (n : Nat)
  | dn (P : Program) (w : World) (ks xs : List D)
abbrev Mem := Addr → Option Nd
def mset (M : Mem) (a : Addr) (n : Nd) : Mem := fun b => if b = a then some n else M b
theorem mset_same {M : Mem} {a : Addr} {n : Nd} : mset M a n a = some n := if_pos rfl
theorem mset_ne {M : Mem} {a b : Addr} {n : Nd} (h : b ≠ a) : mset M a n b = M b := if_neg h
theorem mset_mset {M : Mem} {a : Addr} {n m : Nd} : mset (mset M a n) a m = mset M a m := by
  funext b
  unfold mset
  split <;> rfl
/-- a heap of one object again and again -/
theorem rep_get {n a : Nat} {o o' : Obj} (h : Heap.get? ⟨Array.replicate n o, {}⟩ a = some o') : o' = o := by
  unfold Heap.get? at h
  by_cases z : a < n
  · have e : (Array.replicate n o)[a]? = some o := by simp [z]
    rw [e] at h
    split at h
    · cases h
    · rename_i x y
      simp only [Option.some.injEq] at y h
      first | exact h.symm | (cases h; rfl) | (rw [← h, ← y])
  · have e : (Array.replicate n o)[a]? = none := by simp; omega
    rw [e] at h
    cases h
/-- a set is no code object, no lambda -/
theorem set_fx {w : World} {a : Addr} {S : Int → Bool} {n : Nat} : ¬ Fx (SetO w a S n) := fun z => by
  rcases z with ⟨c, q, z⟩ | ⟨f, i, cl, dV, c', z⟩
  · injection z with z
    have e := congrFun z ⟨Array.replicate (c + 1) { cls := .none, data := .fields #[.none, .str q default] }, {}⟩
    have hs := e.mpr ⟨{ cls := .none, data := .fields #[.none, .str q default] }, #[.none, .str q default], default, by
      unfold Heap.get?
      have e : (Array.replicate (c + 1) ({ cls := .none, data := .fields #[.none, .str q default] } : Obj))[c]? = some { cls := .none, data := .fields #[.none, .str q default] } := by simp
      rw [e], rfl, rfl⟩
    obtain ⟨o, es, ep, t, ho, _, hd, _⟩ := hs
    rw [rep_get ho] at hd
    cases hd
  · injection z with z
    have e := congrFun z ⟨Array.replicate (f + 1) (PySem.W.kdv_obj "<lambda>" (TbC.lq i).qual (TbC.lq i).params (.expr (TbC.lq i).body) (TbC.lq i).scope (L2.cloFrom cl (TbC.lq i).scope.names []) dV .none .none c' .none), {}⟩
    have hs := e.mpr ⟨.none, .none, .none, by
      unfold Heap.get?
      have e : (Array.replicate (f + 1) (PySem.W.kdv_obj "<lambda>" (TbC.lq i).qual (TbC.lq i).params (.expr (TbC.lq i).body) (TbC.lq i).scope (L2.cloFrom cl (TbC.lq i).scope.names []) dV .none .none c' .none))[f]? = some (PySem.W.kdv_obj "<lambda>" (TbC.lq i).qual (TbC.lq i).params (.expr (TbC.lq i).body) (TbC.lq i).scope (L2.cloFrom cl (TbC.lq i).scope.names []) dV .none .none c' .none) := by simp
      rw [e]; first | done | rfl⟩
    obtain ⟨o, es, ep, t, ho, _, hd, _⟩ := hs
    rw [rep_get ho] at hd
    cases hd
theorem dn_fx {P : Program} {w : World} {a : Addr} {es : List (NestedKey × Addr × V)} (h0 : es.length ≤ sizeLine ∧ (a == sysModules) = false ∧ (es.map (·.1)).Nodup) : ¬ Fx (DnO P w a es) := fun z => by
  rcases z with ⟨c, q, z⟩ | ⟨f, i, cl, dV, c', z⟩
  · injection z with z
    have e := congrFun z ⟨Array.replicate (c + 1) { cls := .none, data := .fields #[.none, .str q default] }, {}⟩
    have hs := e.mpr ⟨{ cls := .none, data := .fields #[.none, .str q default] }, #[.none, .str q default], default, by
      unfold Heap.get?
      have e : (Array.replicate (c + 1) ({ cls := .none, data := .fields #[.none, .str q default] } : Obj))[c]? = some { cls := .none, data := .fields #[.none, .str q default] } := by simp
      rw [e], rfl, rfl⟩
    obtain ⟨_, _, _, o, ents, ep, xs, ho, _, hd, _⟩ := hs
    rw [rep_get ho] at hd
    cases hd
  · injection z with z
    have e := congrFun z ⟨Array.replicate (f + 1) (PySem.W.kdv_obj "<lambda>" (TbC.lq i).qual (TbC.lq i).params (.expr (TbC.lq i).body) (TbC.lq i).scope (L2.cloFrom cl (TbC.lq i).scope.names []) dV .none .none c' .none), {}⟩
    have hs := e.mpr ⟨.none, .none, .none, by
      unfold Heap.get?
      have e : (Array.replicate (f + 1) (PySem.W.kdv_obj "<lambda>" (TbC.lq i).qual (TbC.lq i).params (.expr (TbC.lq i).body) (TbC.lq i).scope (L2.cloFrom cl (TbC.lq i).scope.names []) dV .none .none c' .none))[f]? = some (PySem.W.kdv_obj "<lambda>" (TbC.lq i).qual (TbC.lq i).params (.expr (TbC.lq i).body) (TbC.lq i).scope (L2.cloFrom cl (TbC.lq i).scope.names []) dV .none .none c' .none) := by simp
      rw [e]; first | done | rfl⟩
    obtain ⟨_, _, _, o, ents, ep, xs, ho, _, hd, _⟩ := hs
    rw [rep_get ho] at hd
    cases hd
/-- keys where they stand, values -/
def zip3 : List D → List Addr → List V → List (NestedKey × Addr × V)
  | k :: ks, a :: as, v :: vs => (keyN k, a, v) :: zip3 ks as vs
  | _, _, _ => []
def KeysOk (ks : List D) : Prop := (keyNs ks).Nodup ∧ ∀ k ∈ ks, k.key = true
theorem zip3_keys : ∀ {ks : List D} {as : List Addr} {vs : List V}, as.length = ks.length → vs.length = ks.length → (zip3 ks as vs).map (·.1) = keyNs ks
  | [], _, _, _, _ => by simp [zip3, keyNs]
  | k :: ks, [], _, h, _ => by simp at h
  | k :: ks, a :: as, [], _, h => by simp at h
  | k :: ks, a :: as, v :: vs, h1, h2 => by
    rw [zip3, List.map_cons, zip3_keys (by simpa using h1) (by simpa using h2)]
    rfl
theorem zip3_length : ∀ {ks : List D} {as : List Addr} {vs : List V}, (zip3 ks as vs).length ≤ ks.length
  | [], _, _ => by simp [zip3]
  | k :: ks, [], _ => by simp [zip3]
  | k :: ks, a :: as, [] => by simp [zip3]
  | k :: ks, a :: as, v :: vs => by
    rw [zip3, List.length_cons, List.length_cons]
    exact Nat.succ_le_succ zip3_length
theorem dn_h0 {a : Addr} {ks xs : List D} {as : List Addr} {vs : List V} (n : xs.length = ks.length) (z1 : ks.length ≤ sizeLine) (z2 : (a == sysModules) = false) (hk : KeysOk ks) (l1 : (as.map V.ref).length = ks.length) (l2 : vs.length = xs.length) :
    (zip3 ks as vs).length ≤ sizeLine ∧ (a == sysModules) = false ∧ ((zip3 ks as vs).map (·.1)).Nodup := by
  rw [List.length_map] at l1
  refine ⟨Nat.le_trans zip3_length z1, z2, ?_⟩
  rw [zip3_keys l1 (by omega)]
  exact hk.1
def NdR (B : Option Addr) (S H : Hp) (a : Addr) : Nd → Prop
  | .lst xs => ∃ vs, H a = some (.lst vs) ∧ RepL B S xs vs
  | .dct ks xs => ∃ vs, H a = some (.dK (ks.zip vs)) ∧ xs.length = ks.length ∧ RepL B S xs vs
  | .dcT ks xs => ∃ vs, H a = some (.dT (ks.zip vs)) ∧ xs.length = ks.length ∧ RepL B S xs vs
  | .ins C dx ks xs => ∃ vs, H a = some (.ins C dx (ks.zip vs)) ∧ H dx = some (.own a) ∧ xs.length = ks.length ∧ RepL B S xs vs
  | .st w s n => H a = some (SetO w a s n)
  | .dn P w ks xs => ∃ (as : List Addr) (vs : List V), H a = some (DnO P w a (zip3 ks as vs)) ∧ xs.length = ks.length ∧ ks.length ≤ sizeLine ∧ (a == sysModules) = false ∧ KeysOk ks ∧ RepL B S ks (as.map V.ref) ∧ RepL B S xs vs
/-- what belongs to the store -/
def MF (M : Mem) (b : Addr) : Prop := M b ≠ none ∨ ∃ a C ks xs, M a = some (.ins C b ks xs)
noncomputable instance mfDec (M : Mem) (b : Addr) : Decidable (MF M b) := Classical.propDecidable _
theorem MF.of {M : Mem} {a : Addr} {n : Nd} (h : M a = some n) : MF M a := .inl (by rw [h]; exact fun z => nomatch z)
theorem NdR.keep {B : Option Addr} {S S' H H' : Hp} {a : Addr} : ∀ {n : Nd}, Same S S' → (∀ b, b = a ∨ (∃ C ks xs, n = .ins C b ks xs) → ∀ o, H b = some o → H' b = some o) → NdR B S H a n → NdR B S' H' a n
  | .lst xs, s, q, r => by
    obtain ⟨vs, e, l⟩ := r
    exact ⟨vs, q a (.inl rfl) _ e, repL_mono s xs vs l⟩
  | .dct ks xs, s, q, r => by
    obtain ⟨vs, e, n, l⟩ := r
    exact ⟨vs, q a (.inl rfl) _ e, n, repL_mono s xs vs l⟩
  | .dcT ks xs, s, q, r => by
    obtain ⟨vs, e, n, l⟩ := r
    exact ⟨vs, q a (.inl rfl) _ e, n, repL_mono s xs vs l⟩
  | .ins C dx ks xs, s, q, r => by
    obtain ⟨vs, e, e2, n, l⟩ := r
    exact ⟨vs, q a (.inl rfl) _ e, q dx (.inr ⟨_, _, _, rfl⟩) _ e2, n, repL_mono s xs vs l⟩
  | .st w s n, _, q, r => q a (.inl rfl) _ r
  | .dn P w ks xs, s, q, r => by
    obtain ⟨as, vs, e, n, z1, z2, hk, l1, l2⟩ := r
    exact ⟨as, vs, q a (.inl rfl) _ e, n, z1, z2, hk, repL_mono s ks _ l1, repL_mono s xs vs l2⟩
theorem NdR.mu {B : Option Addr} {S H : Hp} {a : Addr} : ∀ {n : Nd}, NdR B S H a n → Mu (H a)
  | .lst xs, r => by obtain ⟨vs, e, l⟩ := r; exact mu_lst e
  | .dct ks xs, r => by obtain ⟨vs, e, l⟩ := r; exact mu_of e fun _ z => nomatch z
  | .dcT ks xs, r => by obtain ⟨vs, e, l⟩ := r; exact mu_of e fun _ z => nomatch z
  | .ins C dx ks xs, r => by obtain ⟨vs, e, l⟩ := r; exact mu_of e fun _ z => nomatch z
  | .st w s n, r => mu_ofF r set_fx
  | .dn P w ks xs, r => by
    obtain ⟨as, vs, e, n, z1, z2, hk, l1, l2⟩ := r
    exact mu_ofF e (dn_fx (dn_h0 n z1 z2 hk l1.length l2.length))
structure MemR (c : Fm) (H S : Hp) (M : Mem) : Prop where
  nd : ∀ a n, M a = some n → NdR c.B S H a n
  out : ∀ a, MF M a → S a = none ∧ c.H0 a = none
/-- no store at all -/
def mem0 : Mem := fun _ => none
theorem mem0_f {a : Addr} : ¬ MF mem0 a := fun z => by
  rcases z with z | ⟨_, _, _, _, z⟩
  · exact z rfl
  · cases z
theorem MemR.nil {c : Fm} {H S : Hp} : MemR c H S mem0 := ⟨fun a n e => (nomatch e), fun a z => (mem0_f z).elim⟩
/-- what names hold at this level: values -/
abbrev EnM := List (Option D)
def vl1 : Option D → Option DV
  | some d => some (.val d)
  | none => none
def vl (ev : EnM) : En := ev.map vl1
theorem w_vl_nil : vl [] = [] := rfl
theorem w_vl_cons {o : Option D} {l : EnM} : vl (o :: l) = vl1 o :: vl l := rfl
theorem w_vl1_some {d : D} : vl1 (some d) = some (.val d) := rfl
theorem w_vl1_none : vl1 none = none := rfl
theorem vl_get {ev : EnM} {i : Nat} {x : DV} (e : (vl ev)[i]? = some (some x)) : ∃ d, x = .val d ∧ ev[i]? = some (some d) := by
  unfold vl at e
  rw [List.getElem?_map] at e
  cases q : ev[i]? with
  | none => rw [q] at e; cases e
  | some o =>
    rw [q] at e
    cases o with
    | none => cases e
    | some d => cases e; exact ⟨d, rfl, rfl⟩
theorem vl_at {ev : EnM} {i : Nat} {d : D} (e : ev[i]? = some (some d)) : (vl ev)[i]? = some (some (.val d)) := by
  unfold vl
  rw [List.getElem?_map, e]
  rfl
theorem vl_set {ev : EnM} {i : Nat} {d : D} : vl (ev.set i (some d)) = put i d (vl ev) := by
  unfold vl put
  rw [List.map_set]
  rfl
theorem vl_length {ev : EnM} : (vl ev).length = ev.length := List.length_map ..
structure KM (c : Fm) (σ : St) (H S : Hp) (ev : EnM) (M : Mem) : Prop where
  kn : Kn c σ H S (vl ev)
  mr : MemR c H S M
section
variable {c : Fm} {σ : St} {H H' S S' : Hp} {ev : EnM} {M M' : Mem} {a : Addr}
theorem MemR.mu (m : MemR c H S M) (z : MF M a) : Mu (H a) := by
  rcases z with z | ⟨b, C, ks, xs, z⟩
  · cases e : M a with
    | none => exact (z e).elim
    | some n => exact (m.nd a n e).mu
  · obtain ⟨vs, _, e2, _⟩ := m.nd b _ z
    exact mu_of e2 fun _ z => nomatch z
theorem MemR.notF (m : MemR c H S M) (h : H a = none) : ¬ MF M a := fun z => (m.mu z).1 h
theorem MemR.notS (m : MemR c H S M) {o : HO} (h : S a = some o) : ¬ MF M a := fun z => by
  rw [(m.out a z).1] at h
  cases h
theorem MemR.not0 (m : MemR c H S M) (h : c.H0 a ≠ none) : ¬ MF M a := fun z => h (m.out a z).2
/-- the frame's facts told anew -/
theorem kn_vl (kf : Kf c H' S') (len : ev.length = σ.length) (sl : ∀ (i : Nat) (d : D), ev[i]? = some (some d) → ∃ v, σ[i]? = some (some v) ∧ Rep c.B S' d v) : Kn c σ H' S' (vl ev) := by
  refine ⟨kf, by rw [vl_length]; exact len, fun i x e => ?_, fun i j x y v u b _ e _ _ _ f _ => ?_⟩
  · obtain ⟨d, rfl, e2⟩ := vl_get e
    exact sl i d e2
  · obtain ⟨d, rfl, e⟩ := vl_get e
    exact f
theorem KM.at (k : KM c σ H S ev M) {i : Nat} {d : D} (e : ev[i]? = some (some d)) : ∃ v, σ[i]? = some (some v) ∧ Rep c.B S d v := k.kn.sl i _ (vl_at e)
theorem KM.len (k : KM c σ H S ev M) : ev.length = σ.length := by
  have := k.kn.len
  rw [vl_length] at this
  exact this
theorem KM.move (k : KM c σ H S ev M) (kf : Kf c H' S') (s : Same S S') (m : MemR c H' S' M') : KM c σ H' S' ev M' :=
  ⟨kn_vl kf k.len fun i d e => by
    obtain ⟨v, e1, r⟩ := k.at e
    exact ⟨v, e1, rep_mono s d v r⟩, m⟩
theorem KM.free (k : KM c σ H S ev M) : Free σ (vl ev) a := fun j x v e _ f => by
  obtain ⟨d, rfl, _⟩ := vl_get e
  exact f
noncomputable def Fm.mm (c : Fm) (H S : Hp) (M : Mem) : Fm := ⟨c.B, c.C, fun a => if MF M a then H a else c.H0 a, S⟩
theorem Kf.mm (k : Kf c H S) (m : MemR c H S M) : Kf (c.mm H S M) H S := by
  refine ⟨k.sub, Same.refl S, fun a o e n => ?_, fun a e n => e, fun b e => ⟨(k.bag b e).1, ?_⟩, ⟨k.tab.1, fun p hp => ?_⟩⟩
  · have e : (if MF M a then H a else c.H0 a) = some o := e
    by_cases z : MF M a
    · rw [if_pos z] at e
      exact e
    · rw [if_neg z] at e
      exact k.old a o e n
  · show (if MF M b then H b else c.H0 b) ≠ none
    rw [if_neg (m.not0 (k.bag b e).2)]
    exact (k.bag b e).2
  · show (if MF M p.1 then H p.1 else c.H0 p.1) ≠ none
    rw [if_neg (m.not0 (k.tab.2 p hp))]
    exact k.tab.2 p hp
theorem Kf.ofmm (k : Kf c H S) (m : MemR c H S M) (k' : Kf (c.mm H S M) H' S') : Kf c H' S' := by
  refine ⟨k'.sub, k.s0.trans k'.s0, fun a o e n => k'.old a o ?_ n, fun a e n => k'.new a (k.new a e n) ?_, fun b e => ⟨(k'.bag b e).1, (k.bag b e).2⟩, ⟨k'.tab.1, k.tab.2⟩⟩
  · show (if MF M a then H a else c.H0 a) = some o
    rw [if_neg (m.not0 (by rw [e]; exact fun z => nomatch z))]
    exact e
  · show Mu (if MF M a then H a else c.H0 a)
    rw [if_neg (m.not0 n.1)]
    exact n
theorem MemR.ofmm (k : Kf c H S) (m : MemR c H S M) (k' : Kf (c.mm H S M) H' S') : MemR c H' S' M := by
  have keep : ∀ b, MF M b → ∀ o, H b = some o → H' b = some o := fun b z o e => k'.old b o (by
    show (if MF M b then H b else c.H0 b) = some o
    rw [if_pos z]
    exact e) (k.x_ne0 (m.out b z).2)
  refine ⟨fun a n e => (m.nd a n e).keep k'.s0 fun b hb => ?_, fun a z => ⟨k'.new a (m.out a z).1 ?_, (m.out a z).2⟩⟩
  · rcases hb with rfl | ⟨C, ks, xs, rfl⟩
    · exact keep b (MF.of e)
    · exact keep b (.inr ⟨_, _, _, _, e⟩)
  · show Mu (if MF M a then H a else c.H0 a)
    rw [if_pos z]
    exact m.mu z
theorem KM.mm (k : KM c σ H S ev M) : Kn (c.mm H S M) σ H S (vl ev) := kn_vl (k.kn.kf.mm k.mr) k.len fun _ _ e => k.at e
theorem KM.ofmm (k : KM c σ H S ev M) (k' : Kf (c.mm H S M) H' S') : KM c σ H' S' ev M := k.move (k.kn.kf.ofmm k.mr k') k'.s0 (MemR.ofmm k.kn.kf k.mr k')
theorem mm_out (k : Kf c H S) (m : MemR c H S M) {d : Addr} (h : (c.mm H S M).H0 d = none) : ¬ MF M d ∧ c.H0 d = none := by
  have h : (if MF M d then H d else c.H0 d) = none := h
  by_cases z : MF M d
  · rw [if_pos z] at h
    exact ((m.mu z).1 h).elim
  · rw [if_neg z] at h
    exact ⟨z, h⟩
theorem Kf.new0 (k : Kf c H S) {p : Addr} {o : HO} (h : H p = none) : Kf c (upd H p o) S :=
  k.step (Same.refl S) (k.sub.trans (same_upd h)) (fun a o e _ => same_upd h a o e) (fun a e n => e) (k.bagSame (Same.refl S) (same_upd h) fun a e n => e) (k.tab.1.same (same_upd h) fun a e n => e)
theorem MF.mset {M : Mem} {a b : Addr} {n : Nd} (z : MF (mset M a n) b) : MF M b ∨ b = a ∨ ∃ C ks xs, n = .ins C b ks xs := by
  rcases z with z | ⟨d, C, ks, xs, z⟩
  · by_cases e : b = a
    · exact .inr (.inl e)
    · rw [mset_ne e] at z
      exact .inl (.inl z)
  · by_cases e : d = a
    · subst e
      rw [mset_same] at z
      cases z
      exact .inr (.inr ⟨_, _, _, rfl⟩)
    · rw [mset_ne e] at z
      exact .inl (.inr ⟨_, _, _, _, z⟩)
/-- a new thing without a dict of its own -/
theorem KM.new (k : KM c σ H S ev M) {p : Addr} {o : HO} {n : Nd} (h : H p = none) (r : ∀ H', H' p = some o → NdR c.B S H' p n) (ni : ∀ C b ks xs, n ≠ .ins C b ks xs) : KM c σ (upd H p o) S ev (mset M p n) := by
  refine k.move (k.kn.kf.new0 h) (Same.refl S) ⟨fun a m e => ?_, fun a z => ?_⟩
  · by_cases q : a = p
    · subst q
      rw [mset_same] at e
      cases e
      exact r _ upd_same
    · rw [mset_ne q] at e
      exact (k.mr.nd a m e).keep (Same.refl S) fun b _ o e2 => same_upd h b o e2
  · rcases z.mset with z | rfl | ⟨C, ks, xs, rfl⟩
    · exact k.mr.out a z
    · exact ⟨k.kn.kf.s_none h, k.kn.kf.h0_none h⟩
    · exact (ni _ _ _ _ rfl).elim
theorem KM.newL (k : KM c σ H S ev M) {p : Addr} {vs : List V} {xs : List D} (h : H p = none) (l : RepL c.B S xs vs) : KM c σ (upd H p (.lst vs)) S ev (mset M p (.lst xs)) :=
  k.new h (fun H' e => ⟨vs, e, l⟩) fun _ _ _ _ z => nomatch z
/-- a thing made new joins the store -/
theorem KM.adopt (k : KM c σ H S ev M) {p : Addr} {n : Nd} (r : NdR c.B S H p n) (hp : S p = none) (h0 : c.H0 p = none) (ni : ∀ C b ks xs, n ≠ .ins C b ks xs) : KM c σ H S ev (mset M p n) := by
  refine k.move k.kn.kf (Same.refl S) ⟨fun a m e => ?_, fun a z => ?_⟩
  · by_cases q : a = p
    · subst q
      rw [mset_same] at e
      cases e
      exact r
    · rw [mset_ne q] at e
      exact k.mr.nd a m e
  · rcases z.mset with z | rfl | ⟨C, ks, xs, rfl⟩
    · exact k.mr.out a z
    · exact ⟨hp, h0⟩
    · exact (ni _ _ _ _ rfl).elim
/-- what a thing of the store holds changes -/
theorem KM.chg (k : KM c σ H S ev M) {p : Addr} {o0 o : HO} {n n' : Nd} (hM : M p = some n) (h : H p = some o0) (h4 : (∀ ps, o0 ≠ .tbl ps) ∧ ¬ Fx o0) (no : ∀ b, o0 ≠ .own b)
    (r : ∀ H', H' p = some o → (∀ b o, b ≠ p → H b = some o → H' b = some o) → NdR c.B S H' p n') (same : ∀ C b ks xs, n' = .ins C b ks xs → ∃ C2 ks2 xs2, n = .ins C2 b ks2 xs2) : KM c σ (upd H p o) S ev (mset M p n') := by
  have hf := k.mr.out p (MF.of hM)
  refine k.move (k.kn.kf.updFF hf.1 hf.2 h h4) (Same.refl S) ⟨fun a m e => ?_, fun a z => ?_⟩
  · by_cases q : a = p
    · subst q
      rw [mset_same] at e
      cases e
      exact r _ upd_same fun b o nb e2 => by rw [upd_ne nb]; exact e2
    · rw [mset_ne q] at e
      refine (k.mr.nd a m e).keep (Same.refl S) fun b hb o e2 => ?_
      have nb : b ≠ p := fun y => by
        subst y
        rcases hb with rfl | ⟨C, ks, xs, rfl⟩
        · exact q rfl
        · obtain ⟨vs, _, e3, _⟩ := k.mr.nd a _ e
          rw [h] at e3
          exact no _ (Option.some.inj e3)
      rw [upd_ne nb]
      exact e2
  · rcases z.mset with z | rfl | ⟨C, ks, xs, rfl⟩
    · exact k.mr.out a z
    · exact hf
    · obtain ⟨C2, ks2, xs2, rfl⟩ := same _ _ _ _ rfl
      exact k.mr.out a (.inr ⟨_, _, _, _, hM⟩)
theorem KM.chgL (k : KM c σ H S ev M) {p : Addr} {xs xs' : List D} {vs vs' : List V} (hM : M p = some (.lst xs)) (h : H p = some (.lst vs)) (l : RepL c.B S xs' vs') : KM c σ (upd H p (.lst vs')) S ev (mset M p (.lst xs')) :=
  k.chg hM h ⟨lst_ne.1, fx_not lst_ne.2⟩ (fun _ z => nomatch z) (fun H' e _ => ⟨vs', e, l⟩) fun _ _ _ _ z => nomatch z
theorem KM.lst (k : KM c σ H S ev M) {p : Addr} {xs : List D} (hM : M p = some (.lst xs)) : ∃ vs, H p = some (.lst vs) ∧ RepL c.B S xs vs := k.mr.nd p _ hM
theorem KM.ins (k : KM c σ H S ev M) {p C dx : Addr} {ks : List Str} {xs : List D} (hM : M p = some (.ins C dx ks xs)) : ∃ vs, H p = some (.ins C dx (ks.zip vs)) ∧ H dx = some (.own p) ∧ xs.length = ks.length ∧ RepL c.B S xs vs := k.mr.nd p _ hM
mutual
inductive Unf (M : Mem) : D → D → Prop
  | refl (d : D) : Unf M d d
  | lst {a : Addr} {xs ys : List D} : M a = some (.lst xs) → UnfL M xs ys → Unf M (.adr a) (.lst ys)
  | dct {a : Addr} {ks : List Key} {xs ys : List D} : M a = some (.dct ks xs) → UnfL M xs ys → Unf M (.adr a) (.dct ks ys)
  | dcT {a : Addr} {ks : List (List Key)} {xs ys : List D} : M a = some (.dcT ks xs) → UnfL M xs ys → Unf M (.adr a) (.dcT ks ys)
  | obj {a C dx : Addr} {ks : List Str} {xs ys : List D} : M a = some (.ins C dx ks xs) → UnfL M xs ys → Unf M (.adr a) (.obj C ks ys)
  | tup {xs ys : List D} : UnfL M xs ys → Unf M (.tup xs) (.tup ys)
inductive UnfL (M : Mem) : List D → List D → Prop
  | nil : UnfL M [] []
  | cons {x y : D} {xs ys : List D} : Unf M x y → UnfL M xs ys → UnfL M (x :: xs) (y :: ys)
end
theorem UnfL.refl {M : Mem} : ∀ xs : List D, UnfL M xs xs
  | [] => .nil
  | x :: xs => .cons (.refl x) (UnfL.refl xs)
theorem UnfL.length {M : Mem} : ∀ {xs ys : List D}, UnfL M xs ys → ys.length = xs.length
  | [], [], .nil => rfl
  | x :: xs, y :: ys, .cons _ t => by rw [List.length_cons, List.length_cons, UnfL.length t]
noncomputable def lendM (H S : Hp) (M : Mem) : Hp := fun a => if MF M a then H a else S a
noncomputable def backM (S : Hp) (M : Mem) : Hp := fun a => if MF M a then none else S a
theorem lendM_in (z : MF M a) : lendM H S M a = H a := if_pos z
theorem lendM_out (z : ¬ MF M a) : lendM H S M a = S a := if_neg z
theorem backM_in (z : MF M a) : backM S M a = none := if_pos z
theorem backM_out (z : ¬ MF M a) : backM S M a = S a := if_neg z
theorem same_lendM (m : MemR c H S M) : Same S (lendM H S M) := fun a o e => by
  rw [lendM_out (m.notS e)]
  exact e
mutual
theorem Unf.rep (m : MemR c H S M) : ∀ {d d' : D} {v : V}, Unf M d d' → Rep c.B S d v → Rep c.B (lendM H S M) d' v
  | d, _, v, .refl _, r => rep_mono (same_lendM m) d v r
  | _, _, v, .lst (a := a) e u, r => by
    cases (show v = .ref a from r)
    obtain ⟨vs, e1, l⟩ := m.nd a _ e
    rw [Rep]
    exact ⟨a, vs, rfl, by rw [lendM_in (MF.of e)]; exact e1, UnfL.rep m u l⟩
  | _, _, v, .dct (a := a) e u, r => by
    cases (show v = .ref a from r)
    obtain ⟨vs, e1, n, l⟩ := m.nd a _ e
    rw [Rep]
    exact ⟨a, vs, rfl, by rw [lendM_in (MF.of e)]; exact e1, by rw [UnfL.length u]; exact n, UnfL.rep m u l⟩
  | _, _, v, .dcT (a := a) e u, r => by
    cases (show v = .ref a from r)
    obtain ⟨vs, e1, n, l⟩ := m.nd a _ e
    rw [Rep]
    exact ⟨a, vs, rfl, by rw [lendM_in (MF.of e)]; exact e1, by rw [UnfL.length u]; exact n, UnfL.rep m u l⟩
  | _, _, v, .obj (a := a) (dx := dx) e u, r => by
    cases (show v = .ref a from r)
    obtain ⟨vs, e1, e2, n, l⟩ := m.nd a _ e
    rw [Rep]
    exact ⟨a, dx, vs, rfl, by rw [lendM_in (MF.of e)]; exact e1, by rw [lendM_in (.inr ⟨_, _, _, _, e⟩)]; exact e2, by rw [UnfL.length u]; exact n, UnfL.rep m u l⟩
  | _, _, v, .tup u, r => by
    rw [Rep] at r ⊢
    obtain ⟨a, vs, e, e1, l⟩ := r
    exact ⟨a, vs, e, same_lendM m _ _ e1, UnfL.rep m u l⟩
theorem UnfL.rep (m : MemR c H S M) : ∀ {xs ys : List D} {vs : List V}, UnfL M xs ys → RepL c.B S xs vs → RepL c.B (lendM H S M) ys vs
  | _, _, vs, .nil, r => r
  | _, _, vs, .cons h t, r => by
    obtain ⟨v, ws, rfl, r1, l⟩ := repL_cons_of r
    exact repL_cons (Unf.rep m h r1) (UnfL.rep m t l)
end
theorem Kf.toLend (k : Kf c H S) (m : MemR c H S M) : Kf (c.at H (lendM H S M)) H (lendM H S M) := by
  refine ⟨fun a o e => ?_, Same.refl _, fun _ _ e _ => e, fun a e _ => e, fun b e => ?_, ⟨fun p hp => ⟨(k.tab.1 p hp).1, by rw [lendM_out (m.not0 (k.tab.2 p hp))]; exact (k.tab.1 p hp).2⟩, fun p hp => k.tab.1.ne hp⟩⟩
  · by_cases z : MF M a
    · rw [lendM_in z] at e
      exact e
    · rw [lendM_out z] at e
      exact k.sub a o e
  · obtain ⟨⟨b1, cs, i, g, st, n, b2, b3, b4⟩, b5⟩ := k.bag b e
    refine ⟨⟨by rw [lendM_out (m.not0 b5)]; exact b1, cs, i, g, st, n, b2, same_lendM m _ _ b3, b4⟩, ?_⟩
    show H b ≠ none
    rw [b2]
    exact fun z => nomatch z
/-- the lent is given back -/
theorem Kf.ofLend (k : Kf c H S) (m : MemR c H S M) (k' : Kf (c.at H (lendM H S M)) H' S') : Kf c H' (backM S' M) ∧ Same S (backM S' M) ∧ MemR c H' (backM S' M) M := by
  have ss : Same S (backM S' M) := fun a o e => by
    rw [backM_out (m.notS e)]
    exact k'.s0 _ _ (same_lendM m _ _ e)
  have bs : Same (backM S' M) S' := fun a o e => by
    by_cases z : MF M a
    · rw [backM_in z] at e
      cases e
    · rw [backM_out z] at e
      exact e
  have keep : ∀ b, MF M b → ∀ o, H b = some o → H' b = some o := fun b z o e => k'.old b o e (k.x_ne0 (m.out b z).2)
  refine ⟨⟨fun a o e => k'.sub a o (bs a o e), k.s0.trans ss, fun a o e n => k'.old a o (k.old a o e n) n, fun a e n => ?_, fun b e => ?_, ⟨fun p hp => ⟨(k'.tab.1 p hp).1, ?_⟩, k.tab.2⟩⟩, ss, ⟨fun a n e => (m.nd a n e).keep ss fun b hb => ?_, fun a z => ⟨backM_in z, (m.out a z).2⟩⟩⟩
  · have nz : ¬ MF M a := m.not0 n.1
    rw [backM_out nz]
    refine k'.new a ?_ (k.back n)
    show lendM H S M a = none
    rw [lendM_out nz]
    exact k.new a e n
  · obtain ⟨⟨b1, cs, i, g, st, n, b2, b3, b4⟩, b5⟩ := k'.bag b e
    obtain ⟨⟨_, cs0, _, _, _, _, _, b3', _⟩, b6⟩ := k.bag b e
    exact ⟨⟨by rw [backM_out (m.not0 b6)]; exact b1, cs, i, g, st, n, b2, by rw [backM_out (m.notS b3')]; exact b3, b4⟩, b6⟩
  · rw [backM_out (m.not0 (k.tab.2 p hp))]
    exact (k'.tab.1 p hp).2
  · rcases hb with rfl | ⟨C, ks, xs, rfl⟩
    · exact keep b (MF.of e)
    · exact keep b (.inr ⟨_, _, _, _, e⟩)
theorem KM.ofLend (k : KM c σ H S ev M) (k' : Kf (c.at H (lendM H S M)) H' S') : KM c σ H' (backM S' M) ev M := by
  obtain ⟨a1, a2, a3⟩ := k.kn.kf.ofLend k.mr k'
  exact k.move a1 a2 a3
end
end DL
namespace DL
open PySem PySem.Spec L2
variable [TbC]
abbrev DTM := EnM → Mem → (D → Mem → Prop) → (Er → Mem → Prop) → Prop
abbrev DTMT := EnM → Mem → (Bool → Mem → Prop) → (Er → Mem → Prop) → Prop
abbrev DTMA := EnM → Mem → (List D → Mem → Prop) → (Er → Mem → Prop) → Prop
structure DEndsM where
  nx : EnM → Mem → Prop
  rt : D → Mem → Prop
  bk : EnM → Mem → Prop := fun _ _ => False
  ct : EnM → Mem → Prop := fun _ _ => False
  ex : Er → Mem → Prop
abbrev DTMS := DEndsM → EnM → Mem → Prop
def XOkM (c : Fm) (E : XK) (Rx : Er → Mem → Prop) : Prop := ∀ (er : Er) (d : Addr) (vs : List V) (H S : Hp) (M : Mem), Kf c H S → MemR c H S M → RepL c.B S er.ds vs → er.ds.length = er.ks.length → H d = some (.xd (er.ks.zip vs)) → c.H0 d = none → S d = none → Rx er M → E (.ref er.cls) (some d) H
def SmM (E : XK) (t : TE) (T : DTM) : Prop := ∀ (c : Fm) (σ : St) (H S : Hp) (ev : EnM) (M : Mem) (R : D → Mem → Prop) (Rx : Er → Mem → Prop), XOkM c E Rx → KM c σ H S ev M → T ev M R Rx →
  ∀ Q : VK, (∀ v H' S' d M', KM c σ H' S' ev M' → Same S S' → Rep c.B S' d v → R d M' → Q v H') → t σ H Q
def SmMT (E : XK) (t : TT) (T : DTMT) : Prop := ∀ (c : Fm) (σ : St) (H S : Hp) (ev : EnM) (M : Mem) (R : Bool → Mem → Prop) (Rx : Er → Mem → Prop), XOkM c E Rx → KM c σ H S ev M → T ev M R Rx →
  ∀ Q : Bool → Hp → Prop, (∀ b H' S' M', KM c σ H' S' ev M' → Same S S' → R b M' → Q b H') → t σ H Q
def mkM (c : Fm) (S : Hp) (Q : DEndsM) (D : Ends) : Prop :=
  (∀ σ H S' ev M, KM c σ H S' ev M → Same S S' → Q.nx ev M → D.nx σ H) ∧ (∀ v H S' d M, Kf c H S' → MemR c H S' M → Same S S' → Rep c.B S' d v → Q.rt d M → D.rt v H) ∧
  (∀ σ H S' ev M, KM c σ H S' ev M → Same S S' → Q.bk ev M → D.bk σ H) ∧ (∀ σ H S' ev M, KM c σ H S' ev M → Same S S' → Q.ct ev M → D.ct σ H)
theorem mkM.mono {c : Fm} {S S' : Hp} {Q : DEndsM} {D : Ends} (m : mkM c S Q D) (h : Same S S') : mkM c S' Q D :=
  ⟨fun σ H S2 ev M k s q => m.1 σ H S2 ev M k (h.trans s) q, fun v H S2 d M k mr s r q => m.2.1 v H S2 d M k mr (h.trans s) r q, fun σ H S2 ev M k s q => m.2.2.1 σ H S2 ev M k (h.trans s) q, fun σ H S2 ev M k s q => m.2.2.2 σ H S2 ev M k (h.trans s) q⟩
theorem mkM_nx {c : Fm} {S S' : Hp} {Q : DEndsM} {D : Ends} {N : St → Hp → Prop} {W : EnM → Mem → Prop} (m : mkM c S Q D) (s : Same S S') (h : ∀ σ H S2 ev M, KM c σ H S2 ev M → Same S' S2 → W ev M → N σ H) : mkM c S' { Q with nx := W } { D with nx := N } :=
  ⟨h, (m.mono s).2.1, (m.mono s).2.2.1, (m.mono s).2.2.2⟩
def SmMS (E : XK) (t : TS) (T : DTMS) : Prop := ∀ (c : Fm) (σ : St) (H S : Hp) (ev : EnM) (M : Mem) (Q : DEndsM), XOkM c E Q.ex → KM c σ H S ev M → T Q ev M → ∀ D : Ends, mkM c S Q D → t D σ H
def DM (X : Cx) (E : XK) (e : Expr) (T : DTM) : Prop := ∃ t, PE X e t ∧ SmM E t T
def DMT (X : Cx) (E : XK) (e : Expr) (T : DTMT) : Prop := ∃ t, PT X e t ∧ SmMT E t T
def DMW (X : Cx) (E : XK) (e : Expr) (T : DTMT) : Prop := ∃ t, PW X e t ∧ SmMT E t T
def DMS (X : Cx) (E : XK) (st : Stmt) (T : DTMS) : Prop := ∃ t, PS X st t ∧ SmMS E t T
def DMSs (X : Cx) (E : XK) (st : List Stmt) (T : DTMS) : Prop := ∃ t, PSs X st t ∧ SmMS E t T
section
variable {c : Fm} {σ : St} {H H' S S' : Hp} {ev : EnM} {M M' : Mem} {E : XK} {Rx : Er → Mem → Prop}
abbrev noXM : Er → Mem → Prop := fun _ _ => False
theorem XOkM.mm (x : XOkM c E Rx) (k : KM c σ H S ev M) : XOk (c.mm H S M) E (fun er => Rx er M) := fun er d vs H1 S1 k1 r l h n0 n1 z =>
  x er d vs H1 S1 M (k.kn.kf.ofmm k.mr k1) (MemR.ofmm k.kn.kf k.mr k1) r l h (mm_out k.kn.kf k.mr n0).2 n1 z
theorem XOkM.lend (x : XOkM c E Rx) (k : KM c σ H S ev M) : XOk (c.at H (lendM H S M)) E (fun er => flatL er.ds = true ∧ Rx er M) := fun er d vs H1 S1 k1 r l h n0 n1 z => by
  obtain ⟨a1, a2, a3⟩ := k.kn.kf.ofLend k.mr k1
  refine x er d vs H1 _ M a1 a3 ?_ l h (k.kn.kf.h0_none n0) ?_ z.2
  · have go : ∀ {ds : List D} {vs : List V}, flatL ds = true → RepL c.B S1 ds vs → RepL c.B (backM S1 M) ds vs := fun {ds} => by
      induction ds with
      | nil => intro vs _ r; rw [repL_nil_of r]; exact repL_nil
      | cons d ds ih =>
        intro vs f r
        obtain ⟨v, ws, rfl, r1, r2⟩ := repL_cons_of r
        have f : (d.flat && flatL ds) = true := f
        rw [Bool.and_eq_true] at f
        exact repL_cons (flat_rep f.1 r1) (ih f.2 r2)
    exact go z.1 r
  · by_cases y : MF M d
    · exact backM_in y
    · rw [backM_out y]
      exact n1
end
section
variable {X : Cx} {E : XK} {e : Expr} {es : List Expr} {T : DT} {TT' : DTT} {TF : DTF} {Tl : DTA} {kws : List Keyword}
def mE (T : DT) : DTM := fun ev M R Rx => T (vl ev) (fun d => R d M) (fun er => Rx er M)
def mT (T : DTT) : DTMT := fun ev M R Rx => T (vl ev) (fun b => R b M) (fun er => Rx er M)
def mA (T : DTA) : DTMA := fun ev M R Rx => T (vl ev) (fun ds => R ds M) (fun er => Rx er M)
/-- a list made new joins the store -/
def mF (T : DTF) : DTM := fun ev M R Rx => T (vl ev) (fun xs => ∀ a, M a = none → R (.adr a) (mset M a (.lst xs))) (fun er => Rx er M)
theorem m_of (h : DE X E e T) : DM X E e (mE T) := by
  obtain ⟨t, p, s⟩ := h
  exact ⟨t, p, fun c σ H S ev M R Rx x k t Q q => s _ σ H S (vl ev) _ _ (x.mm k) k.mm t Q fun v H1 S1 d k1 s1 r t1 => q v H1 S1 d M (k.ofmm k1.kf) s1 r t1⟩
theorem mt_of (h : DTe X E e TT') : DMT X E e (mT TT') := by
  obtain ⟨t, p, s⟩ := h
  exact ⟨t, p, fun c σ H S ev M R Rx x k t Q q => s _ σ H S (vl ev) _ _ (x.mm k) k.mm t Q fun b H1 S1 k1 s1 t1 => q b H1 S1 M (k.ofmm k1.kf) s1 t1⟩
theorem m_ofF (h : DF X E e TF) : DM X E e (mF TF) := by
  obtain ⟨t, p, s⟩ := h
  refine ⟨t, p, fun c σ H S ev M R Rx x k t Q q => s _ σ H S (vl ev) _ _ (x.mm k) k.mm t Q fun p vs H1 S1 ds k1 s1 n0 f n1 e1 l1 t1 => ?_⟩
  obtain ⟨n2, n3⟩ := mm_out k.kn.kf k.mr n0
  have k2 := k.ofmm k1.kf
  have hM : M p = none := Classical.byContradiction fun z => n2 (.inl z)
  exact q (.ref p) H1 S1 (.adr p) _ (k2.adopt (n := .lst ds) ⟨vs, e1, l1⟩ n1 n3 fun _ _ _ _ z => nomatch z) s1 rfl (t1 p hM)
def lendW (M : Mem) (ev0 : EnM) : List Nat → EnM → (EnM → Prop) → Prop
  | [], ev, N => N ev
  | i :: is, ev, N => ∃ d, ev0[i]? = some (some d) ∧ ∃ d', Unf M d d' ∧ lendW M ev0 is (ev.set i (some d')) N
theorem w_lendW_nil {M : Mem} {ev0 ev : EnM} {N : EnM → Prop} : lendW M ev0 [] ev N = N ev := rfl
theorem w_lendW_cons {M : Mem} {ev0 ev : EnM} {i : Nat} {is : List Nat} {N : EnM → Prop} : lendW M ev0 (i :: is) ev N = ∃ d, ev0[i]? = some (some d) ∧ ∃ d', Unf M d d' ∧ lendW M ev0 is (ev.set i (some d')) N := rfl
theorem lendW_kn {c : Fm} {σ : St} {H S : Hp} {ev0 : EnM} {M : Mem} (k : KM c σ H S ev0 M) : ∀ {is : List Nat} {ev : EnM} {N : EnM → Prop}, ev.length = σ.length → (∀ (i : Nat) (d : D), ev[i]? = some (some d) → ∃ v, σ[i]? = some (some v) ∧ Rep c.B (lendM H S M) d v) →
    lendW M ev0 is ev N → ∃ ev', Kn (c.at H (lendM H S M)) σ H (lendM H S M) (vl ev') ∧ N ev'
  | [], ev, N, hl, h, w => ⟨ev, kn_vl (k.kn.kf.toLend k.mr) hl h, w⟩
  | i :: is, ev, N, hl, h, w => by
    obtain ⟨d, e, d', u, w⟩ := w
    refine lendW_kn k (by rw [List.length_set]; exact hl) (fun j d2 e2 => ?_) w
    by_cases z : i = j
    · subst z
      rw [List.getElem?_set] at e2
      simp only [if_true] at e2
      split at e2 <;> cases e2
      obtain ⟨v, e3, r⟩ := k.at e
      exact ⟨v, e3, u.rep k.mr r⟩
    · rw [List.getElem?_set_ne z] at e2
      exact h j d2 e2
theorem KM.lend0 {c : Fm} {σ : St} {H S : Hp} {ev : EnM} {M : Mem} (k : KM c σ H S ev M) {is : List Nat} {N : EnM → Prop} (w : lendW M ev is ev N) : ∃ ev', Kn (c.at H (lendM H S M)) σ H (lendM H S M) (vl ev') ∧ N ev' :=
  lendW_kn k k.len (fun i d e => by
    obtain ⟨v, e1, r⟩ := k.at e
    exact ⟨v, e1, rep_mono (same_lendM k.mr) d v r⟩) w
def mLend (is : List Nat) (T : DT) : DTM := fun ev M R Rx => lendW M ev is ev fun ev' => T (vl ev') (fun d => d.flat = true ∧ R d M) fun er => flatL er.ds = true ∧ Rx er M
def mLendT (is : List Nat) (T : DTT) : DTMT := fun ev M R Rx => lendW M ev is ev fun ev' => T (vl ev') (fun b => R b M) fun er => flatL er.ds = true ∧ Rx er M
/-- a new list of flat things, made while the store is lent -/
def mLendF (is : List Nat) (T : DTF) : DTM := fun ev M R Rx => lendW M ev is ev fun ev' => T (vl ev') (fun xs => flatL xs = true ∧ ∀ a, M a = none → R (.adr a) (mset M a (.lst xs))) fun er => flatL er.ds = true ∧ Rx er M
/-- .. that stays as it is -/
def mLendN (is : List Nat) (T : DT) : DTM := fun ev M R Rx => lendW M ev is ev fun ev' => T (vl ev') (fun d => R d M) fun er => flatL er.ds = true ∧ Rx er M
end
end DL
namespace DL
open PySem PySem.Spec L2
variable [TbC]
section
variable {X : Cx} {E : XK} {e a b : Expr} {es : List Expr} {Ta Tb : DTM} {Tl Tk : DTMA} {kws : List Keyword} {p pos : Pos}
def mNil : DTMA := fun _ M R _ => R [] M
def mCons (Ta : DTM) (Tl : DTMA) : DTMA := fun ev M R Rx => Ta ev M (fun x M1 => Tl ev M1 (fun xs M2 => R (x :: xs) M2) Rx) Rx
end
section
variable {X : Cx} {E : XK} {e a b cnd : Expr} {es : List Expr} {Ta Tb : DTM} {TA TB Tc : DTMT} {Tl : DTMA} {p pos : Pos} {rest : List Expr}
def mOp (op : DOp) (Ta Tb : DTM) : DTM := fun ev M R Rx => Ta ev M (fun x M1 => Tb ev M1 (fun y M2 => op x y (fun z => R z M2)) Rx) Rx
def asBM (R : Bool → Mem → Prop) : D → Mem → Prop
  | .bl b, M => R b M
  | _, _ => False
def mTest (T : DTM) : DTMT := fun ev M R Rx => T ev M (asBM R) Rx
def mAnd (TA TB : DTMT) : DTMT := fun ev M R Rx => TA ev M (fun b M1 => (b = true → TB ev M1 R Rx) ∧ (b = false → R false M1)) Rx
def mOr (TA TB : DTMT) : DTMT := fun ev M R Rx => TA ev M (fun b M1 => (b = true → R true M1) ∧ (b = false → TB ev M1 R Rx)) Rx
def mNot (T : DTMT) : DTMT := fun ev M R Rx => T ev M (fun b M1 => R (!b) M1) Rx
theorem mw_pt (h : DMW X E e TA) : DMT X E e TA := by
  obtain ⟨t, p, s⟩ := h
  exact ⟨t, p.pt, s⟩
theorem mw_or1 (h : DMT X E a TA) : DMW X E (.BoolOp .Or [a] pos) TA := by
  obtain ⟨t, p, s⟩ := h
  exact ⟨t, pw_or1 p, s⟩
theorem mw_or (h : DMT X E a TA) (h2 : DMW X E (.BoolOp .Or (b :: rest) pos) TB) : DMW X E (.BoolOp .Or (a :: b :: rest) pos) (mOr TA TB) := by
  obtain ⟨t, p, s⟩ := h
  obtain ⟨u, p2, s2⟩ := h2
  refine ⟨_, pw_or p p2, fun c σ H S ev M R Rx x k t Q q => s c σ H S ev M _ Rx x k t _ fun bb H1 S1 M1 k1 s1 t1 => ?_⟩
  cases bb with
  | true => exact iteT (q true H1 S1 M1 k1 s1 (t1.1 rfl))
  | false => exact iteF (s2 c σ H1 S1 ev M1 R Rx x k1 (t1.2 rfl) Q fun b H2 S2 M2 k2 s3 r => q b H2 S2 M2 k2 (s1.trans s3) r)
/-- the truth of None, bools, ints -/
def D.tru3 : D → Option Bool
  | .non => some false
  | .bl b => some b
  | .int i => some (i != 0)
  | _ => none
def mTru (T : DTM) : DTMT := fun ev M R Rx => T ev M (fun d M1 => ∃ b, d.tru3 = some b ∧ R b M1) Rx
def mIf (T : DTMT) (Ta Tb : DTM) : DTM := fun ev M R Rx => T ev M (fun b M1 => (b = true → Ta ev M1 R Rx) ∧ (b = false → Tb ev M1 R Rx)) Rx
/-- a tuple, a list that stay -/
def mTup (Tl : DTMA) : DTM := fun ev M R Rx => Tl ev M (fun xs M1 => xs.length ≤ sizeLine ∧ R (.tup xs) M1) Rx
def mLst (Tl : DTMA) : DTM := fun ev M R Rx => Tl ev M (fun xs M1 => xs.length ≤ sizeLine ∧ R (.lst xs) M1) Rx
/-- a list of the store -/
def mLstN (Tl : DTMA) : DTM := fun ev M R Rx => Tl ev M (fun xs M1 => xs.length ≤ sizeLine ∧ ∀ a, M1 a = none → R (.adr a) (mset M1 a (.lst xs))) Rx
end
/-- d is the object of class C at an address of the store -/
def asIns (C : Addr) (R : Addr → List Str → List D → Prop) (d : D) (M : Mem) : Prop := ∃ a dx ks xs, d = .adr a ∧ M a = some (.ins C dx ks xs) ∧ R a ks xs
abbrev SpecM := List D → Mem → (D → Mem → Prop) → (Er → Mem → Prop) → Prop
section
variable {X : Cx} {E : XK} {CX : CXT} {k n : Nat} {f C : Addr} {fd : FuncData} {ps ks : List Str} {F : SpecM} {F0 : Spec} {dvs : List V} {dds : List D} {ds : List Value} {x m : Str} {p pos apos : Pos} {e o : Expr} {es : List Expr} {Tl Tk : DTMA} {To : DTM} {kws : List Keyword} {kw : Keyword}
def mCall (F : SpecM) (dds : List D) (Tl : DTMA) : DTM := fun ev M R Rx => Tl ev M (fun xs M1 => F (xs ++ dds) M1 R Rx) Rx
def upM (F : Spec) : SpecM := fun ds M R Rx => F ds (fun d => R d M) (fun er => Rx er M)
theorem w_upM {F : Spec} {ds : List D} {M : Mem} {R : D → Mem → Prop} {Rx : Er → Mem → Prop} : upM F ds M R Rx = F ds (fun d => R d M) (fun er => Rx er M) := rfl
def mCallK (F : SpecM) (g : List D → List D → List D) (Tl Tk : DTMA) : DTM := fun ev M R Rx => Tl ev M (fun xs M1 => Tk ev M1 (fun zs M2 => F (g xs zs) M2 R Rx) Rx) Rx
def mMeth (C : Addr) (m : Str) (F : SpecM) (To : DTM) (Tl : DTMA) : DTM := fun ev M R Rx => To ev M (fun d M1 => asIns C (fun _ ks xs => fld ks xs m = none) d M1 ∧ Tl ev M1 (fun ds M2 => F (d :: ds) M2 R Rx) Rx) Rx
/-- a method of an object that stays, its argument read off the store -/
def mMethD (C : Addr) (m : Str) (F : Spec) (To : DTM) (Tl : DTMA) : DTM := fun ev M R Rx => To ev M (fun d M1 => asO C (fun ks xs => fld ks xs m = none) d ∧ Tl ev M1 (fun ds M2 => F (d :: ds) (fun d => R d M2) (fun er => Rx er M2)) Rx) Rx
def mFld (C : Addr) (f : Str) (To : DTM) : DTM := fun ev M R Rx => To ev M (fun d M1 => asIns C (fun _ ks xs => ∃ y, fld ks xs f = some y ∧ R y M1) d M1) Rx
/-- an attribute of an object that stays, the object read off the store -/
def mFldD (C : Addr) (f : Str) (To : DTM) : DTM := fun ev M R Rx => To ev M (fun d M1 => asO C (fun ks xs => ∃ y, fld ks xs f = some y ∧ R y M1) d) Rx
def mProp (C : Addr) (F : SpecM) (To : DTM) : DTM := fun ev M R Rx => To ev M (fun d M1 => asIns C (fun _ _ _ => True) d M1 ∧ F [d] M1 R noXM) Rx
def mMake (C : Addr) (F : SpecM) (Tl : DTMA) : DTM := fun ev M R Rx => Tl ev M (fun ds M1 => ∀ a dx, M1 a = none → M1 dx = none → a ≠ dx → F (.adr a :: ds) (mset M1 a (.ins C dx [] [])) (fun d M2 => d = .non ∧ R (.adr a) M2) Rx) Rx
end
end DL
namespace DL
open PySem PySem.Spec L2
variable [TbC]
def unv1 : Option DV → Option D
  | some (.val d) => some d
  | _ => none
def unv (env : En) : EnM := env.map unv1
def AllV (env : En) : Prop := ∀ x ∈ env, x = none ∨ ∃ d, x = some (.val d)
theorem w_unv_nil : unv [] = [] := rfl
theorem w_unv_val {d : D} {l : En} : unv (some (.val d) :: l) = some d :: unv l := rfl
theorem w_unv_none {l : En} : unv (none :: l) = none :: unv l := rfl
theorem w_unv_vl1 {o : Option D} {l : En} : unv (vl1 o :: l) = o :: unv l := by
  cases o <;> rfl
theorem w_AllV_nil : AllV [] = True := propext ⟨fun _ => trivial, fun _ x m => nomatch m⟩
theorem allV_cons {o : Option DV} {l : En} (h : o = none ∨ ∃ d, o = some (.val d)) : AllV (o :: l) = AllV l := by
  refine propext ⟨fun q x m => q x (List.mem_cons_of_mem _ m), fun q x m => ?_⟩
  rcases List.mem_cons.mp m with rfl | m
  · exact h
  · exact q x m
theorem w_AllV_val {d : D} {l : En} : AllV (some (.val d) :: l) = AllV l := allV_cons (.inr ⟨_, rfl⟩)
theorem w_AllV_none {l : En} : AllV (none :: l) = AllV l := allV_cons (.inl rfl)
theorem w_AllV_vl1 {o : Option D} {l : En} : AllV (vl1 o :: l) = AllV l := allV_cons (by
  cases o with
  | none => exact .inl rfl
  | some d => exact .inr ⟨d, rfl⟩)
theorem vl_unv : ∀ {env : En}, AllV env → vl (unv env) = env
  | [], _ => rfl
  | o :: l, h => by
    have ih := vl_unv (env := l) fun x m => h x (List.mem_cons_of_mem _ m)
    show vl1 (unv1 o) :: vl (unv l) = o :: l
    rw [ih]
    rcases h o List.mem_cons_self with rfl | ⟨d, rfl⟩ <;> rfl
section
variable {X : Cx} {E : XK} {pos p1 p2 : Pos} {a b e tg cnd : Expr} {Ta Tb To : DTM} {Tc : DTMT} {T U : DTMS} {T0 : DTS} {st : Stmt} {rest sts x1 x2 : List Stmt} {G : DG}
theorem KM.ofKn {c : Fm} {σ σ' : St} {H H' S S' : Hp} {ev ev' : EnM} {M : Mem} (k : KM c σ H S ev M) (k' : Kn (c.mm H S M) σ' H' S' (vl ev')) : KM c σ' H' S' ev' M :=
  ⟨kn_vl (k.kn.kf.ofmm k.mr k'.kf) (by have := k'.len; rw [vl_length] at this; exact this) fun i d e => k'.sl i _ (vl_at e), MemR.ofmm k.kn.kf k.mr k'.kf⟩
/-- a statement of the lower level -/
def zUp (T : DTS) : DTMS := fun Q ev M => T { nx := fun env' => AllV env' ∧ Q.nx (unv env') M, rt := fun _ d => Q.rt d M, bk := fun env' => AllV env' ∧ Q.bk (unv env') M, ct := fun env' => AllV env' ∧ Q.ct (unv env') M, ex := fun er => Q.ex er M } (vl ev)
theorem smMS_up {t : TS} (s : SmS E t T0) : SmMS E t (zUp T0) := fun c σ H S ev M Q x k t D m => by
  have nx : ∀ {N : St → Hp → Prop} {W : EnM → Mem → Prop}, (∀ σ H S' ev M, KM c σ H S' ev M → Same S S' → W ev M → N σ H) → ∀ σ1 H1 S1 env1, Kn (c.mm H S M) σ1 H1 S1 env1 → Same S S1 → (AllV env1 ∧ W (unv env1) M) → N σ1 H1 := fun {N W} mm σ1 H1 S1 env1 k1 s1 t1 =>
    mm σ1 H1 S1 (unv env1) M (k.ofKn (by rw [vl_unv t1.1]; exact k1)) s1 t1.2
  refine s (c.mm H S M) σ H S (vl ev) _ (x.mm k) k.mm t D ⟨nx m.1, fun n v H1 S1 d kf s1 r q => ?_, nx m.2.2.1, nx m.2.2.2⟩
  obtain ⟨S2, kf2, s2, r2⟩ := r.old kf
  exact m.2.1 v H1 S2 d M (k.kn.kf.ofmm k.mr kf2) (MemR.ofmm k.kn.kf k.mr kf2) (s1.trans s2) r2 q
theorem ms_up (h : DS X E st T0) : DMS X E st (zUp T0) := by
  obtain ⟨t, p, s⟩ := h
  exact ⟨t, p, smMS_up s⟩
def yNext : DTMS := fun Q ev M => Q.nx ev M
def ySeq (T U : DTMS) : DTMS := fun Q ev M => T { Q with nx := U Q } ev M
theorem mss_nil : DMSs X E [] yNext := ⟨_, pss_nil, fun c σ H S ev M Q x k t D m => m.1 σ H S ev M k (Same.refl S) t⟩
theorem mss_cons (h1 : DMS X E st T) (h2 : DMSs X E rest U) : DMSs X E (st :: rest) (ySeq T U) := by
  obtain ⟨t, p1, s1⟩ := h1
  obtain ⟨u, p2, s2⟩ := h2
  refine ⟨_, pss_cons p1 p2, fun c σ H S ev M Q x k t D m => ?_⟩
  exact s1 c σ H S ev M { Q with nx := U Q } x k t _ (mkM_nx m (Same.refl S) fun σ1 H1 S1 ev1 M1 k1 s t1 => s2 c σ1 H1 S1 ev1 M1 Q x k1 t1 D (m.mono s))
theorem mss_one (h1 : DMS X E st T) : DMSs X E [st] T := by
  obtain ⟨t, p1, s1⟩ := h1
  exact ⟨_, pss_one p1, s1⟩
def yRet (Ta : DTM) : DTMS := fun Q ev M => Ta ev M Q.rt Q.ex
theorem ms_ret (h : DM X E a Ta) : DMS X E (.Return (some a) pos) (yRet Ta) := by
  obtain ⟨t, p, s⟩ := h
  exact ⟨_, ps_ret p, fun c σ H S ev M Q x k t D m => s c σ H S ev M _ _ x k t _ fun v H1 S1 d M1 k1 s1 r1 t1 => m.2.1 v H1 S1 d M1 k1.kn.kf k1.mr s1 r1 t1⟩
def yRetN : DTMS := fun Q ev M => Q.rt .non M
def yExpr (Ta : DTM) : DTMS := fun Q ev M => Ta ev M (fun _ M1 => Q.nx ev M1) Q.ex
theorem ms_expr (h : DM X E a Ta) (hs : swapsWith a none pos.line X.env = pure false := by rfl) : DMS X E (.Expr a pos) (yExpr Ta) := by
  obtain ⟨t, p, s⟩ := h
  exact ⟨_, ps_expr p hs, fun c σ H S ev M Q x k t D m => s c σ H S ev M _ _ x k t _ fun v H1 S1 d M1 k1 s1 r1 t1 => m.1 σ H1 S1 ev M1 k1 s1 t1⟩
def yIf (T : DTMT) (U W : DTMS) : DTMS := fun Q ev M => T ev M (fun b M1 => (b = true → U Q ev M1) ∧ (b = false → W Q ev M1)) Q.ex
theorem ms_if (hc : DMT X E cnd Tc) (h1 : DMSs X E x1 T) (h2 : DMSs X E x2 U) : DMS X E (.If cnd x1 x2 pos) (yIf Tc T U) := by
  obtain ⟨tc, p, s⟩ := hc
  obtain ⟨t, p1, s1⟩ := h1
  obtain ⟨u, p2, s2⟩ := h2
  refine ⟨_, ps_if p p1 p2, fun c σ H S ev M Q x k t D m => s c σ H S ev M _ _ x k t _ fun bb H1 S1 M1 k1 s3 t1 => ?_⟩
  cases bb with
  | true => exact iteT (s1 c σ H1 S1 ev M1 Q x k1 (t1.1 rfl) D (m.mono s3))
  | false => exact iteF (s2 c σ H1 S1 ev M1 Q x k1 (t1.2 rfl) D (m.mono s3))
/-- a target -/
def mG (G : DG) (d : D) (ev : EnM) (N : EnM → Prop) : Prop := G d (vl ev) fun env' => AllV env' ∧ N (unv env')
def yAsg (Ta : DTM) (G : DG) : DTMS := fun Q ev M => Ta ev M (fun d M1 => mG G d ev fun ev' => Q.nx ev' M1) Q.ex
/-- name = e -/
def ySet (i : Nat) (Ta : DTM) : DTMS := fun Q ev M => Ta ev M (fun d M1 => Q.nx (ev.set i (some d)) M1) Q.ex
theorem KM.set {c : Fm} {σ : St} {H S : Hp} {ev : EnM} {M : Mem} {i : Nat} {d : D} {v : V} (k : KM c σ H S ev M) (r : Rep c.B S d v) : KM c (σ.set i (some v)) H S (ev.set i (some d)) M := by
  refine ⟨?_, k.mr⟩
  rw [vl_set]
  exact k.kn.set r
theorem ms_set {i : Nat} {x : Str} (hN : X.N.Nodup) (h : DM X E e Ta) (hi : X.N[i]? = some x := by rfl) (hx : Loc X.env.scope x := by first | exact Or.inl rfl | exact Or.inr rfl) (hs : swapsWith e (some (.Name x p1)) pos.line X.env = pure false := by rfl)
    (hf : X.fn x = true ∨ X.env.scope.names.lookup x = some .local := by first | exact .inl rfl | exact .inr rfl) : DMS X E (.Assign [.Name x p1] e pos) (ySet i Ta) := by
  obtain ⟨t, p, s⟩ := h
  refine ⟨_, ps_set hN hi hx p hs hf, fun c σ H S ev M Q x k t D m => s c σ H S ev M _ _ x k t _ fun v H1 S1 d M1 k1 s1 r1 t1 => ?_⟩
  exact m.1 _ H1 S1 _ M1 (k1.set r1) s1 t1
/-- a, b = x, y -/
def yPar (i j : Nat) (Tl : DTMA) : DTMS := fun Q ev M => Tl ev M (fun ds M1 => ∃ d d', ds = [d, d'] ∧ Q.nx ((ev.set i (some d)).set j (some d')) M1) Q.ex
def kput (f : Str) : List Str → List Str
  | k :: ks => if k = f then k :: ks else k :: kput f ks
  | [] => [f]
def fput {α : Type} (f : Str) (d : α) : List Str → List α → List α
  | k :: ks, x :: xs => if k = f then d :: xs else x :: fput f d ks xs
  | _, _ => [d]
/-- o.f = e -/
def yFld (C : Addr) (f : Str) (Te To : DTM) : DTMS := fun Q ev M => Te ev M (fun d M1 => To ev M1 (fun o M2 => ∃ a dx ks xs, o = .adr a ∧ M2 a = some (.ins C dx ks xs) ∧ ks.length < 1000 ∧ Q.nx ev (mset M2 a (.ins C dx (kput f ks) (fput f d ks xs)))) Q.ex) Q.ex
def yApp (To Te : DTM) : DTMS := fun Q ev M => To ev M (fun o M1 => (∃ a xs, o = .adr a ∧ M1 a = some (.lst xs)) ∧ Te ev M1 (fun d M2 => ∃ a xs, o = .adr a ∧ M2 a = some (.lst xs) ∧ xs.length < sizeLine ∧ Q.nx ev (mset M2 a (.lst (xs ++ [d])))) Q.ex) Q.ex
def yClr (To : DTM) : DTMS := fun Q ev M => To ev M (fun o M1 => ∃ a xs, o = .adr a ∧ M1 a = some (.lst xs) ∧ Q.nx ev (mset M1 a (.lst []))) Q.ex
/-- xs.pop() -/
def mPop (To : DTM) : DTM := fun ev M R Rx => To ev M (fun o M1 => ∃ a xs d, o = .adr a ∧ M1 a = some (.lst xs) ∧ xs[xs.length - 1]? = some d ∧ R d (mset M1 a (.lst xs.dropLast))) Rx
theorem RepL.dropLast {B : Option Addr} {S : Hp} {ds : List D} {vs : List V} (l : RepL B S ds vs) : RepL B S ds.dropLast vs.dropLast := by
  rw [List.dropLast_eq_take, List.dropLast_eq_take, l.length]
  exact l.take _
def yFor (Ti : DTI) (G : DG) (Tb : DTMS) : DTMS := fun Q ev M => Ti (vl ev) (fun xs => ∃ I : Nat → EnM → Mem → Prop, I 0 ev M ∧ (∀ i d ev M, xs[i]? = some d → I i ev M → mG G d ev fun ev' => Tb { Q with nx := I (i + 1), ct := I (i + 1), bk := Q.nx } ev' M) ∧ ∀ ev M, I xs.length ev M → Q.nx ev M) fun er => Q.ex er M
theorem ms_for {iter : Expr} {body : List Stmt} {Ti : DTI} {Tb : DTMS} {js : List Nat} (hp : PassesOwn (model X.prog X.w) X.A X.env X.xe) (hc : X.calm = true) (hi : DI X E tg iter Ti) (hg : DGt X tg G js) (hb : DMSs X E body Tb) (hs : ∀ x, foldedSetIterable iter X.env x = pure x := by intro _; rfl) :
    DMS X E (.For tg iter body [] pos) (yFor Ti G Tb) := by
  obtain ⟨wi, p1, s1⟩ := hi
  obtain ⟨g, p2, s2⟩ := hg
  obtain ⟨tb, p3, s3⟩ := hb
  refine ⟨_, ps_for hp hc p1 p2 p3 hs, fun c σ H S ev M Q x k t D m => s1 (c.mm H S M) σ H S (vl ev) _ _ (x.mm k) k.mm t _ fun J H1 S1 xs k1 s4 it t1 => ?_⟩
  obtain ⟨I, h0, hstep, hend⟩ := t1
  have m1 := m.mono s4
  refine ⟨fun i n σ H => n = xs.length - i ∧ i ≤ xs.length ∧ ∃ S ev M, KM c σ H S ev M ∧ Same S1 S ∧ I i ev M, ⟨_, rfl, Nat.zero_le _, S1, ev, M, k.ofmm k1.kf, Same.refl S1, h0⟩, ?_⟩
  rintro i n σ H ⟨rfl, hi, S, ev, M, k, s, hI⟩
  obtain ⟨go, stop⟩ := it (c.mm H S M) rfl i σ H S (vl ev) k.mm s
  by_cases hlt : i < xs.length
  · have e : xs[i]? = some xs[i] := by simp [hlt]
    obtain ⟨g1, g2⟩ := go _ e
    refine .inr ⟨g1, fun σ H => ∃ S ev M, KM c σ H S ev M ∧ Same S1 S ∧ I (i + 1) ev M, fun σ' H' ⟨S', ev', M', k', s', h'⟩ => ⟨_, by omega, rfl, hlt, S', ev', M', k', s', h'⟩, fun v H' y => ?_⟩
    obtain ⟨S', k', s', r'⟩ := g2 v H' y
    have kk := k.ofmm k'.kf
    refine s2 (c.mm H' S' M) σ H' S' (vl ev) _ v _ kk.mm r' (hstep i _ ev M e hI) _ fun σ2 H2 S2 env2 k2 s5 _ t2 => ?_
    have s6 : Same S1 S2 := (s.trans s').trans s5
    exact s3 c σ2 H2 S2 (unv env2) M { Q with nx := I (i + 1), ct := I (i + 1), bk := Q.nx } x (kk.ofKn (by rw [vl_unv t2.1]; exact k2)) t2.2 _ ⟨fun σ3 H3 S3 ev3 M3 k3 s7 t3 => ⟨S3, ev3, M3, k3, s6.trans s7, t3⟩, (m1.mono s6).2.1, fun σ3 H3 S3 ev3 M3 k3 s7 t3 => m1.1 σ3 H3 S3 ev3 M3 k3 (s6.trans s7) t3, fun σ3 H3 S3 ev3 M3 k3 s7 t3 => ⟨S3, ev3, M3, k3, s6.trans s7, t3⟩⟩
  · have e : i = xs.length := by omega
    subst e
    exact .inl ⟨stop (Nat.le_refl _), m1.1 σ H S ev M k s (hend ev M hI)⟩
def yWhile (Tc : DTMT) (Tb : DTMS) : DTMS := fun Q ev M => ∃ (I : Nat → EnM → Mem → Prop) (m : Nat), I m ev M ∧ ∀ m ev M, I m ev M → Tc ev M (fun b M1 => (b = true → Tb { Q with nx := fun e N => ∃ m', m' < m ∧ I m' e N, ct := fun e N => ∃ m', m' < m ∧ I m' e N, bk := Q.nx } ev M1) ∧ (b = false → Q.nx ev M1)) Q.ex
/-- a block that ends by returning what is flat or made new, the store lent -/
def zLend (is : List Nat) (T : DTS) : DTMS := fun Q ev M => lendW M ev is ev fun ev' => T { nx := fun _ => False, rt := fun n d => (n = .nw ∨ n = .old ∧ d.flat = true) ∧ Q.rt d M, ex := fun er => flatL er.ds = true ∧ Q.ex er M } (vl ev')
end
section
variable {X : Cx} {E : XK} {sts : List Stmt} {T : DTMS}
def zOfM (T : DTMS) : DTS := fun Q env => AllV env ∧ T { nx := fun ev _ => Q.nx (vl ev), rt := fun d _ => Q.rt .old d, bk := fun ev _ => Q.bk (vl ev), ct := fun ev _ => Q.ct (vl ev), ex := fun er _ => Q.ex er } (unv env) mem0
theorem dss_ofM (h : DMSs X E sts T) : DSs X E sts (zOfM T) := by
  obtain ⟨t, p, s⟩ := h
  refine ⟨t, p, fun c σ H S env Q x k t D m => ?_⟩
  obtain ⟨av, t⟩ := t
  refine s c σ H S (unv env) mem0 _ (fun er d vs H1 S1 M1 k1 _ r l h n0 n1 z => x er d vs H1 S1 k1 r l h n0 n1 z) ⟨by rw [vl_unv av]; exact k, MemR.nil⟩ t D
    ⟨fun σ1 H1 S1 ev1 M1 k1 s1 q => m.1 σ1 H1 S1 (vl ev1) k1.kn s1 q, fun v H1 S1 d M1 k1 _ s1 r q => m.2.1 .old v H1 S1 d k1 s1 r q, fun σ1 H1 S1 ev1 M1 k1 s1 q => m.2.2.1 σ1 H1 S1 (vl ev1) k1.kn s1 q, fun σ1 H1 S1 ev1 M1 k1 s1 q => m.2.2.2 σ1 H1 S1 (vl ev1) k1.kn s1 q⟩
end
end DL
namespace DL
open PySem PySem.Spec L2
variable [TbC]
section
variable {ev : EnM} {M : Mem} {R : D → Mem → Prop} {RB : Bool → Mem → Prop} {RL : List D → Mem → Prop} {Rx : Er → Mem → Prop} {Q : DEndsM} {T0 : DT} {TT0 : DTT} {TF : DTF} {TA0 : DTA} {Ta Tb To Te : DTM} {TA TB Tc : DTMT} {Tl Tk : DTMA} {U W T : DTMS} {S0 : DTS} {i j : Nat} {is : List Nat} {C : Addr} {f m : Str} {F : SpecM} {F0 : Spec} {dds : List D} {op : DOp} {G : DG} {d : D} {N : EnM → Prop}
theorem w_mE : mE T0 ev M R Rx = T0 (vl ev) (fun d => R d M) (fun er => Rx er M) := rfl
theorem w_mT : mT TT0 ev M RB Rx = TT0 (vl ev) (fun b => RB b M) (fun er => Rx er M) := rfl
theorem w_mA : mA TA0 ev M RL Rx = TA0 (vl ev) (fun ds => RL ds M) (fun er => Rx er M) := rfl
theorem w_mF : mF TF ev M R Rx = TF (vl ev) (fun xs => ∀ a, M a = none → R (.adr a) (mset M a (.lst xs))) (fun er => Rx er M) := rfl
theorem w_mLend : mLend is T0 ev M R Rx = lendW M ev is ev fun ev' => T0 (vl ev') (fun d => d.flat = true ∧ R d M) fun er => flatL er.ds = true ∧ Rx er M := rfl
theorem w_mLendT : mLendT is TT0 ev M RB Rx = lendW M ev is ev fun ev' => TT0 (vl ev') (fun b => RB b M) fun er => flatL er.ds = true ∧ Rx er M := rfl
theorem w_mLendF : mLendF is TF ev M R Rx = lendW M ev is ev fun ev' => TF (vl ev') (fun xs => flatL xs = true ∧ ∀ a, M a = none → R (.adr a) (mset M a (.lst xs))) fun er => flatL er.ds = true ∧ Rx er M := rfl
theorem w_mLendN : mLendN is T0 ev M R Rx = lendW M ev is ev fun ev' => T0 (vl ev') (fun d => R d M) fun er => flatL er.ds = true ∧ Rx er M := rfl
theorem w_mNil : mNil ev M RL Rx = RL [] M := rfl
theorem w_mCons : mCons Ta Tl ev M RL Rx = Ta ev M (fun x M1 => Tl ev M1 (fun xs M2 => RL (x :: xs) M2) Rx) Rx := rfl
theorem w_mOp : mOp op Ta Tb ev M R Rx = Ta ev M (fun x M1 => Tb ev M1 (fun y M2 => op x y (fun z => R z M2)) Rx) Rx := rfl
theorem w_mTest : mTest Ta ev M RB Rx = Ta ev M (asBM RB) Rx := rfl
theorem w_asBM {b : Bool} : asBM RB (.bl b) M = RB b M := rfl
theorem w_mAnd : mAnd TA TB ev M RB Rx = TA ev M (fun b M1 => (b = true → TB ev M1 RB Rx) ∧ (b = false → RB false M1)) Rx := rfl
theorem w_mOr : mOr TA TB ev M RB Rx = TA ev M (fun b M1 => (b = true → RB true M1) ∧ (b = false → TB ev M1 RB Rx)) Rx := rfl
theorem w_mNot : mNot TA ev M RB Rx = TA ev M (fun b M1 => RB (!b) M1) Rx := rfl
theorem w_mTru : mTru Ta ev M RB Rx = Ta ev M (fun d M1 => ∃ b, d.tru3 = some b ∧ RB b M1) Rx := rfl
theorem w_tru3_non : D.tru3 .non = some false := rfl
theorem w_tru3_bl {b : Bool} : D.tru3 (.bl b) = some b := rfl
theorem w_tru3_int {n : Int} : D.tru3 (.int n) = some (n != 0) := rfl
theorem w_mIf : mIf Tc Ta Tb ev M R Rx = Tc ev M (fun b M1 => (b = true → Ta ev M1 R Rx) ∧ (b = false → Tb ev M1 R Rx)) Rx := rfl
theorem w_mTup : mTup Tl ev M R Rx = Tl ev M (fun xs M1 => xs.length ≤ sizeLine ∧ R (.tup xs) M1) Rx := rfl
theorem w_mLst : mLst Tl ev M R Rx = Tl ev M (fun xs M1 => xs.length ≤ sizeLine ∧ R (.lst xs) M1) Rx := rfl
theorem w_mLstN : mLstN Tl ev M R Rx = Tl ev M (fun xs M1 => xs.length ≤ sizeLine ∧ ∀ a, M1 a = none → R (.adr a) (mset M1 a (.lst xs))) Rx := rfl
theorem w_mCall : mCall F dds Tl ev M R Rx = Tl ev M (fun xs M1 => F (xs ++ dds) M1 R Rx) Rx := rfl
theorem w_mCallK {g : List D → List D → List D} : mCallK F g Tl Tk ev M R Rx = Tl ev M (fun xs M1 => Tk ev M1 (fun zs M2 => F (g xs zs) M2 R Rx) Rx) Rx := rfl
theorem w_mMeth : mMeth C m F To Tl ev M R Rx = To ev M (fun d M1 => asIns C (fun _ ks xs => fld ks xs m = none) d M1 ∧ Tl ev M1 (fun ds M2 => F (d :: ds) M2 R Rx) Rx) Rx := rfl
theorem w_mMethD : mMethD C m F0 To Tl ev M R Rx = To ev M (fun d M1 => asO C (fun ks xs => fld ks xs m = none) d ∧ Tl ev M1 (fun ds M2 => F0 (d :: ds) (fun d => R d M2) (fun er => Rx er M2)) Rx) Rx := rfl
theorem w_mFld : mFld C f To ev M R Rx = To ev M (fun d M1 => asIns C (fun _ ks xs => ∃ y, fld ks xs f = some y ∧ R y M1) d M1) Rx := rfl
theorem w_mFldD : mFldD C f To ev M R Rx = To ev M (fun d M1 => asO C (fun ks xs => ∃ y, fld ks xs f = some y ∧ R y M1) d) Rx := rfl
theorem w_mProp : mProp C F To ev M R Rx = To ev M (fun d M1 => asIns C (fun _ _ _ => True) d M1 ∧ F [d] M1 R noXM) Rx := rfl
theorem w_mMake : mMake C F Tl ev M R Rx = Tl ev M (fun ds M1 => ∀ a dx, M1 a = none → M1 dx = none → a ≠ dx → F (.adr a :: ds) (mset M1 a (.ins C dx [] [])) (fun d M2 => d = .non ∧ R (.adr a) M2) Rx) Rx := rfl
theorem w_zUp : zUp S0 Q ev M = S0 { nx := fun env' => AllV env' ∧ Q.nx (unv env') M, rt := fun _ d => Q.rt d M, bk := fun env' => AllV env' ∧ Q.bk (unv env') M, ct := fun env' => AllV env' ∧ Q.ct (unv env') M, ex := fun er => Q.ex er M } (vl ev) := rfl
theorem w_yNext : yNext Q ev M = Q.nx ev M := rfl
theorem w_ySeq : ySeq T U Q ev M = T { Q with nx := U Q } ev M := rfl
theorem w_yRet : yRet Ta Q ev M = Ta ev M Q.rt Q.ex := rfl
theorem w_yRetN : yRetN Q ev M = Q.rt .non M := rfl
theorem w_yExpr : yExpr Ta Q ev M = Ta ev M (fun _ M1 => Q.nx ev M1) Q.ex := rfl
theorem w_yIf : yIf Tc U W Q ev M = Tc ev M (fun b M1 => (b = true → U Q ev M1) ∧ (b = false → W Q ev M1)) Q.ex := rfl
theorem w_mG : mG G d ev N = G d (vl ev) fun env' => AllV env' ∧ N (unv env') := rfl
theorem w_yAsg : yAsg Ta G Q ev M = Ta ev M (fun d M1 => mG G d ev fun ev' => Q.nx ev' M1) Q.ex := rfl
theorem w_ySet : ySet i Ta Q ev M = Ta ev M (fun d M1 => Q.nx (ev.set i (some d)) M1) Q.ex := rfl
theorem w_yPar : yPar i j Tl Q ev M = Tl ev M (fun ds M1 => ∃ d d', ds = [d, d'] ∧ Q.nx ((ev.set i (some d)).set j (some d')) M1) Q.ex := rfl
theorem w_yFld : yFld C f Te To Q ev M = Te ev M (fun d M1 => To ev M1 (fun o M2 => ∃ a dx ks xs, o = .adr a ∧ M2 a = some (.ins C dx ks xs) ∧ ks.length < 1000 ∧ Q.nx ev (mset M2 a (.ins C dx (kput f ks) (fput f d ks xs)))) Q.ex) Q.ex := rfl
theorem w_yApp : yApp To Te Q ev M = To ev M (fun o M1 => (∃ a xs, o = .adr a ∧ M1 a = some (.lst xs)) ∧ Te ev M1 (fun d M2 => ∃ a xs, o = .adr a ∧ M2 a = some (.lst xs) ∧ xs.length < sizeLine ∧ Q.nx ev (mset M2 a (.lst (xs ++ [d])))) Q.ex) Q.ex := rfl
theorem w_yClr : yClr To Q ev M = To ev M (fun o M1 => ∃ a xs, o = .adr a ∧ M1 a = some (.lst xs) ∧ Q.nx ev (mset M1 a (.lst []))) Q.ex := rfl
theorem w_mPop : mPop To ev M R Rx = To ev M (fun o M1 => ∃ a xs d, o = .adr a ∧ M1 a = some (.lst xs) ∧ xs[xs.length - 1]? = some d ∧ R d (mset M1 a (.lst xs.dropLast))) Rx := rfl
theorem w_yFor {Ti : DTI} {Tb : DTMS} : yFor Ti G Tb Q ev M = Ti (vl ev) (fun xs => ∃ I : Nat → EnM → Mem → Prop, I 0 ev M ∧ (∀ i d ev M, xs[i]? = some d → I i ev M → mG G d ev fun ev' => Tb { Q with nx := I (i + 1), ct := I (i + 1), bk := Q.nx } ev' M) ∧ ∀ ev M, I xs.length ev M → Q.nx ev M) fun er => Q.ex er M := rfl
theorem w_yWhile {Tc : DTMT} {Tb : DTMS} : yWhile Tc Tb Q ev M = ∃ (I : Nat → EnM → Mem → Prop) (m : Nat), I m ev M ∧ ∀ m ev M, I m ev M → Tc ev M (fun b M1 => (b = true → Tb { Q with nx := fun e N => ∃ m', m' < m ∧ I m' e N, ct := fun e N => ∃ m', m' < m ∧ I m' e N, bk := Q.nx } ev M1) ∧ (b = false → Q.nx ev M1)) Q.ex := rfl
theorem w_zLend : zLend is S0 Q ev M = lendW M ev is ev fun ev' => S0 { nx := fun _ => False, rt := fun n d => (n = .nw ∨ n = .old ∧ d.flat = true) ∧ Q.rt d M, ex := fun er => flatL er.ds = true ∧ Q.ex er M } (vl ev') := rfl
theorem w_zOfM {Q : DEnds} {env : En} : zOfM T Q env = (AllV env ∧ T { nx := fun ev _ => Q.nx (vl ev), rt := fun d _ => Q.rt .old d, bk := fun ev _ => Q.bk (vl ev), ct := fun ev _ => Q.ct (vl ev), ex := fun er _ => Q.ex er } (unv env) mem0) := rfl
theorem w_adr_inj {a b : Addr} : (D.adr a = D.adr b) = (a = b) := by rw [D.adr.injEq]
theorem w_ins_inj {C C' dx dx' : Addr} {ks ks' : List Str} {xs xs' : List D} : (some (Nd.ins C dx ks xs) = some (Nd.ins C' dx' ks' xs')) = (C = C' ∧ dx = dx' ∧ ks = ks' ∧ xs = xs') := by rw [Option.some.injEq, Nd.ins.injEq]
theorem w_lst_inj {xs ys : List D} : (some (Nd.lst xs) = some (Nd.lst ys)) = (xs = ys) := by rw [Option.some.injEq, Nd.lst.injEq]
theorem w_mset_same {a : Addr} {n : Nd} : mset M a n a = some n := mset_same
theorem w_mset_mset {a : Addr} {n n' : Nd} : mset (mset M a n) a n' = mset M a n' := mset_mset
theorem w_vl_set {n : Nat} {o : Option D} {l : EnM} : List.set (o :: l) (n + 1) (some d) = o :: l.set n (some d) := rfl
end
mutual
inductive AdT : Mem → T → D → Mem → Prop
  | dat {M : Mem} {d : D} : AdT M (.dat d) d M
  | lst {M M1 : Mem} {ts : List T} {xs : List D} {a : Addr} : AdL M ts xs M1 → M1 a = none → AdT M (.lst ts) (.adr a) (mset M1 a (.lst xs))
inductive AdL : Mem → List T → List D → Mem → Prop
  | nil {M : Mem} : AdL M [] [] M
  | cons {M M1 M2 : Mem} {t : T} {ts : List T} {x : D} {xs : List D} : AdT M t x M1 → AdL M1 ts xs M2 → AdL M (t :: ts) (x :: xs) M2
end
mutual
/-- no tuples, no objects of its own -/
def T.pl : T → Bool
  | .dat _ => true
  | .lst ts => T.plL ts
  | _ => false
def T.plL : List T → Bool
  | [] => true
  | t :: ts => t.pl && T.plL ts
end
section
variable {X : Cx} {E : XK} {e a b : Expr} {T : DT} {Ta Tb To : DTM} {pos : Pos}
def mU (T : DT) : DTM := fun ev M R Rx => T (vl ev) (fun d => d.tr.pl = true ∧ ∀ x M', AdT M d.tr x M' → R x M') (fun er => Rx er M)
theorem w_mU {ev : EnM} {M : Mem} {R : D → Mem → Prop} {Rx : Er → Mem → Prop} : mU T ev M R Rx = T (vl ev) (fun d => d.tr.pl = true ∧ ∀ x M', AdT M d.tr x M' → R x M') (fun er => Rx er M) := rfl
/-- xs[i], xs a list of the store -/
def mIxL (Ta Tb : DTM) : DTM := fun ev M R Rx => Ta ev M (fun x M1 => Tb ev M1 (fun y M2 => ∃ a xs i d, x = .adr a ∧ y = .int i ∧ M2 a = some (.lst xs) ∧ atI xs i = some d ∧ R d M2) Rx) Rx
theorem w_mIxL {ev : EnM} {M : Mem} {R : D → Mem → Prop} {Rx : Er → Mem → Prop} : mIxL Ta Tb ev M R Rx = Ta ev M (fun x M1 => Tb ev M1 (fun y M2 => ∃ a xs i d, x = .adr a ∧ y = .int i ∧ M2 a = some (.lst xs) ∧ atI xs i = some d ∧ R d M2) Rx) Rx := rfl
/-- list(xs), xs a list of the store: a list of the store -/
def mLi (To : DTM) : DTM := fun ev M R Rx => To ev M (fun o M1 => ∃ a xs, o = .adr a ∧ M1 a = some (.lst xs) ∧ ∀ b, M1 b = none → R (.adr b) (mset M1 b (.lst xs))) Rx
theorem w_mLi {ev : EnM} {M : Mem} {R : D → Mem → Prop} {Rx : Er → Mem → Prop} : mLi To ev M R Rx = To ev M (fun o M1 => ∃ a xs, o = .adr a ∧ M1 a = some (.lst xs) ∧ ∀ b, M1 b = none → R (.adr b) (mset M1 b (.lst xs))) Rx := rfl
/-- .. that stays -/
def mLiF (To : DTM) : DTM := fun ev M R Rx => To ev M (fun o M1 => ∃ a xs, o = .adr a ∧ M1 a = some (.lst xs) ∧ R (.lst xs) M1) Rx
theorem w_mLiF {ev : EnM} {M : Mem} {R : D → Mem → Prop} {Rx : Er → Mem → Prop} : mLiF To ev M R Rx = To ev M (fun o M1 => ∃ a xs, o = .adr a ∧ M1 a = some (.lst xs) ∧ R (.lst xs) M1) Rx := rfl
theorem m_list {p : Pos} (ha : DM X E a To) (hm : X.mg "list" = none) (hg : Gl X "list" := by rfl) (he : starEach [a] X.env = (false, eval a X.env) :: starEach [] X.env := by rfl) (hpl : (backTo pos (starEach [] X.env)).any (·.1) = false := by rfl) :
    DM X E (.Call (.Name "list" p) [a] [] pos) (mLi To) := by
  obtain ⟨ta, p1, s1⟩ := ha
  refine ⟨_, pe_callTy call_list_of hg hm PyProof.Rows.boot_list (pa_cons p1 pa_nil he) (by decide) (by decide) he hpl, fun c σ H S ev M R Rx x k t Q q => s1 c σ H S ev M _ Rx x k t _ fun v H1 S1 d M1 k1 s3 r1 t1 => ?_⟩
  obtain ⟨p, xs, rfl, hM, t1⟩ := t1
  cases (show v = .ref p from r1)
  obtain ⟨vs, h1, l1⟩ := k1.lst hM
  refine ⟨p, vs, rfl, .inl (SqL.of h1), fun b hb => ?_⟩
  have hb2 : M1 b = none := Classical.byContradiction fun z => k1.mr.notF hb (.inl z)
  exact q (.ref b) _ S1 (.adr b) _ (k1.newL hb l1) s3 rfl (t1 b hb2)
end
section
variable {X : Cx} {E : XK} {elt tg iter : Expr} {ifs : List Expr} {scope : Scope} {own : List (Str × Nat)} {pos : Pos} {Ti : DTI} {G : DG} {Tt : DTT} {Te : DT} {js : List Nat}
def ySetF (i : Nat) (T : DTF) : DTMS := fun Q ev M => T (vl ev) (fun xs => ∀ a, M a = none → Q.nx (ev.set i (some (.adr a))) (mset M a (.lst xs))) fun er => Q.ex er M
theorem w_ySetF {i : Nat} {T : DTF} {Q : DEndsM} {ev : EnM} {M : Mem} : ySetF i T Q ev M = T (vl ev) (fun xs => ∀ a, M a = none → Q.nx (ev.set i (some (.adr a))) (mset M a (.lst xs))) fun er => Q.ex er M := rfl
end
end DL
namespace DL
open PySem PySem.Spec L2
variable [TbC]
section
variable {X : Cx} {E : XK} {pos : Pos} {a b c : Expr}
def yPar3 (i j l : Nat) (Tl : DTMA) : DTMS := fun Q ev M => Tl ev M (fun ds M1 => ∃ d d' d'', ds = [d, d', d''] ∧ Q.nx (((ev.set i (some d)).set j (some d')).set l (some d'')) M1) Q.ex
theorem w_yPar3 {i j l : Nat} {Tl : DTMA} {Q : DEndsM} {ev : EnM} {M : Mem} : yPar3 i j l Tl Q ev M = Tl ev M (fun ds M1 => ∃ d d' d'', ds = [d, d', d''] ∧ Q.nx (((ev.set i (some d)).set j (some d')).set l (some d'')) M1) Q.ex := rfl
end
end DL
namespace DL
open PySem PySem.Spec L2
variable [TbC]
section
variable {c : Fm} {σ : St} {H S : Hp} {ev : EnM} {M : Mem}
theorem KM.st (k : KM c σ H S ev M) {p : Addr} {w : World} {s : Int → Bool} {n : Nat} (hM : M p = some (.st w s n)) : H p = some (SetO w p s n) := k.mr.nd p _ hM
end
section
variable {X : Cx} {E : XK} {e a b v ix : Expr} {es : List Expr} {Ta Tb To Te Tv Ti : DTM} {Tl : DTMA} {p pos : Pos}
/-- set() -/
def mSet0 (w : World) : DTM := fun _ M R _ => ∀ a, M a = none → R (.adr a) (mset M a (.st w (fun _ => false) 0))
theorem w_mSet0 {w : World} {ev : EnM} {M : Mem} {R : D → Mem → Prop} {Rx : Er → Mem → Prop} : mSet0 w ev M R Rx = ∀ a, M a = none → R (.adr a) (mset M a (.st w (fun _ => false) 0)) := rfl
theorem m_set0 {w : World} (hw : X.w = w) (hm : X.mg "set" = none) (hg : Gl X "set" := by rfl) : DM X E (.Call (.Name "set" p) [] [] pos) (mSet0 w) := by
  subst hw
  refine ⟨_, pe_callTy0 cr_set0 hg hm (by decide +kernel) (by decide) (by decide), fun c σ H S ev M R Rx x k t Q q => ⟨rfl, fun a ha => ?_⟩⟩
  have hM : M a = none := Classical.byContradiction fun z => k.mr.notF ha (.inl z)
  exact q (.ref a) _ S (.adr a) _ (k.new (n := .st X.w (fun _ => false) 0) ha (fun H' e => e) fun _ _ _ _ z => nomatch z) (Same.refl S) rfl (t a hM)
/-- k in s, k not in s -/
def mSIn (w : World) (neg : Bool) (Ta Tb : DTM) : DTM := fun ev M R Rx => Ta ev M (fun x M1 => Tb ev M1 (fun y M2 => ∃ k a s n, x = .int k ∧ y = .adr a ∧ M2 a = some (.st w s n) ∧ R (.bl (if neg then !s k else s k)) M2) Rx) Rx
theorem w_mSIn {w : World} {neg : Bool} {ev : EnM} {M : Mem} {R : D → Mem → Prop} {Rx : Er → Mem → Prop} : mSIn w neg Ta Tb ev M R Rx = Ta ev M (fun x M1 => Tb ev M1 (fun y M2 => ∃ k a s n, x = .int k ∧ y = .adr a ∧ M2 a = some (.st w s n) ∧ R (.bl (if neg then !s k else s k)) M2) Rx) Rx := rfl
theorem mt_sin {w : World} (hw : X.w = w) (ha : DM X E a Ta) (hb : DM X E b Tb) (hm : behindInMarks .In b = false := by rfl) : DMT X E (.Compare a [.In] [b] pos) (mTest (mSIn w false Ta Tb)) := by
  subst hw
  obtain ⟨ta, p1, s1⟩ := ha
  obtain ⟨tb, p2, s2⟩ := hb
  refine ⟨_, pt_cmpR or_sin p1 p2 hm, fun c σ H S ev M R Rx x k t Q q => s1 c σ H S ev M _ Rx x k t _ fun v H1 S1 d1 M1 k1 s3 r1 t1 => s2 c σ H1 S1 ev M1 _ Rx x k1 t1 _ fun u H2 S2 d2 M2 k2 s4 r2 t2 => ?_⟩
  obtain ⟨j, p, s, n, rfl, rfl, hM, t2⟩ := t2
  exact ⟨j, p, s, n, r1, r2, k2.st hM, _, rfl, q _ H2 S2 M2 k2 (s3.trans s4) t2⟩
/-- s.add(k) -/
def mSAdd (w : World) (To Te : DTM) : DTM := fun ev M R Rx => To ev M (fun o M1 => (∃ a s n, o = .adr a ∧ M1 a = some (.st w s n)) ∧ Te ev M1 (fun d M2 => ∃ a s n k, o = .adr a ∧ d = .int k ∧ M2 a = some (.st w s n) ∧ n + 1 < scanBound ∧ R .non (mset M2 a (.st w (fun j => s j || decide (j = k)) (if s k = true then n else n + 1)))) Rx) Rx
theorem w_mSAdd {w : World} {ev : EnM} {M : Mem} {R : D → Mem → Prop} {Rx : Er → Mem → Prop} : mSAdd w To Te ev M R Rx = To ev M (fun o M1 => (∃ a s n, o = .adr a ∧ M1 a = some (.st w s n)) ∧ Te ev M1 (fun d M2 => ∃ a s n k, o = .adr a ∧ d = .int k ∧ M2 a = some (.st w s n) ∧ n + 1 < scanBound ∧ R .non (mset M2 a (.st w (fun j => s j || decide (j = k)) (if s k = true then n else n + 1)))) Rx) Rx := rfl
theorem m_sadd {w : World} {apos : Pos} (hw : X.w = w) (ho : DM X E a To) (he : DM X E e Te)
    (hbase : attributeBase a "add" X.env (eval a X.env) = eval a X.env := by rfl)
    (hfew : ((backTo pos (starEach [e] X.env)).all (fun x => !x.1) && (backToKw pos (keywordEach [] X.env)).all (fun x => x.1.isSome)
      && decide (([e] : List Expr).length + ([] : List Keyword).length + (if ([] : List Keyword).isEmpty then 0 else 1) < 30)) = true := by rfl)
    (hline : (apos.endLine == pos.line) = true := by rfl) (hs : starEach [e] X.env = (false, eval e X.env) :: starEach [] X.env := by rfl) (hplain : (backTo pos (starEach [] X.env)).any (·.1) = false := by rfl) :
    DM X E (.Call (.Attribute a "add" apos) [e] [] pos) (mSAdd w To Te) := by
  subst hw
  obtain ⟨to, p1, s1⟩ := ho
  obtain ⟨te, p2, s2⟩ := he
  refine ⟨_, pe_sadd p1 (pa_cons p2 pa_nil hs) hbase hfew hline hs hplain, fun c σ H S ev M R Rx x k t Q q => s1 c σ H S ev M _ Rx x k t _ fun v H1 S1 o M1 k1 s3 r1 t1 => ?_⟩
  obtain ⟨⟨p, s0, n0, rfl, hM0⟩, t1⟩ := t1
  cases (show v = .ref p from r1)
  refine ⟨⟨p, s0, n0, rfl, k1.st hM0⟩, s2 c σ H1 S1 ev M1 _ Rx x k1 t1 _ fun u H2 S2 d M2 k2 s4 r2 t2 => ?_⟩
  obtain ⟨p2, s, n, j, e1, rfl, hM, hn, t2⟩ := t2
  cases e1
  cases (show u = .int j from r2)
  refine ⟨p, j, s, n, rfl, rfl, k2.st hM, hn, ?_⟩
  exact q .non _ S2 .non _ (k2.chg (n' := .st X.w (fun i => s i || decide (i = j)) (if s j = true then n else n + 1)) hM (k2.st hM) ⟨fun _ z => (nomatch z), set_fx⟩ (fun _ z => nomatch z) (fun H' e _ => e) fun _ _ _ _ z => nomatch z) (s3.trans s4) rfl t2
/-- xs[i] = e, xs a list of the store -/
def yStL (Tv To Ti : DTM) : DTMS := fun Q ev M => Tv ev M (fun d M1 => To ev M1 (fun o M2 => Ti ev M2 (fun y M3 => ∃ a xs i j, o = .adr a ∧ y = .int i ∧ M3 a = some (.lst xs) ∧ ixN xs.length i = some j ∧ Q.nx ev (mset M3 a (.lst (xs.set j d)))) Q.ex) Q.ex) Q.ex
theorem w_yStL {Q : DEndsM} {ev : EnM} {M : Mem} : yStL Tv To Ti Q ev M = Tv ev M (fun d M1 => To ev M1 (fun o M2 => Ti ev M2 (fun y M3 => ∃ a xs i j, o = .adr a ∧ y = .int i ∧ M3 a = some (.lst xs) ∧ ixN xs.length i = some j ∧ Q.nx ev (mset M3 a (.lst (xs.set j d)))) Q.ex) Q.ex) Q.ex := rfl
theorem ms_stL {p2 : Pos} (hv : DM X E v Tv) (ho : DM X E b To) (hi : DM X E ix Ti)
    (ha : ∀ v, assign (.Subscript b ix p2) X.env v = (do
      let ov ← holding [v] (eval b X.env)
      let iv ← holding [v, ov] (eval ix X.env)
      standAt p2
      holding [v, ov, iv] (setItem ov iv v)
      release [v, ov, iv] []) := by intro _; rfl)
    (hs : swapsWithSole [.Subscript b ix p2] v pos.line X.env = pure false := by rfl) (hw : swappedStores [.Subscript b ix p2] v X.env = pure none := by rfl) (h1 : (assignEach [.Subscript b ix p2] X.env).map (·.2) = [assign (.Subscript b ix p2) X.env] := by rfl) :
    DMS X E (.Assign [.Subscript b ix p2] v pos) (yStL Tv To Ti) := by
  obtain ⟨tv, pv1, sv⟩ := hv
  obtain ⟨to, po, so⟩ := ho
  obtain ⟨ti, pi1, si⟩ := hi
  refine ⟨_, ps_asg pv1 (pg_sub po pi1 set_list ha) hs hw h1, fun c σ H S ev M Q x k t D m => sv c σ H S ev M _ _ x k t _ fun w H1 S1 d M1 k1 s1 r1 t1 => so c σ H1 S1 ev M1 _ _ x k1 t1 _ fun u H2 S2 o M2 k2 s2 r2 t2 => si c σ H2 S2 ev M2 _ _ x k2 t2 _ fun y H3 S3 d3 M3 k3 s3 r3 t3 => ?_⟩
  obtain ⟨p, xs, i, j, rfl, rfl, hM, ej, t3⟩ := t3
  cases (show u = .ref p from r2)
  obtain ⟨vs, h3, l3⟩ := k3.lst hM
  have l2 := l3.set j (rep_mono (s2.trans s3) d w r1)
  exact ⟨p, vs, i, j, rfl, r3, h3, by rw [l3.length]; exact ej, m.1 _ _ S3 ev _ (k3.chgL hM h3 l2) ((s1.trans s2).trans s3) t3⟩
/-- name[i] += e is name[i] = name[i] + e (ints), over a list of the store: for x in xs, xs a list of the store -/
def yForL (To : DTM) (G : DG) (Tb : DTMS) : DTMS := fun Q ev M => To ev M (fun o M1 => ∃ a xs, o = .adr a ∧ M1 a = some (.lst xs) ∧ ∃ I : Nat → EnM → Mem → Prop, I 0 ev M1 ∧ (∀ i ev M, i ≤ xs.length → I i ev M → M a = some (.lst xs)) ∧
  (∀ i d ev M, xs[i]? = some d → I i ev M → mG G d ev fun ev' => Tb { Q with nx := I (i + 1), ct := I (i + 1), bk := Q.nx } ev' M) ∧ ∀ ev M, I xs.length ev M → Q.nx ev M) Q.ex
theorem w_yForL {G : DG} {Tb : DTMS} {Q : DEndsM} {ev : EnM} {M : Mem} : yForL To G Tb Q ev M = To ev M (fun o M1 => ∃ a xs, o = .adr a ∧ M1 a = some (.lst xs) ∧ ∃ I : Nat → EnM → Mem → Prop, I 0 ev M1 ∧ (∀ i ev M, i ≤ xs.length → I i ev M → M a = some (.lst xs)) ∧
  (∀ i d ev M, xs[i]? = some d → I i ev M → mG G d ev fun ev' => Tb { Q with nx := I (i + 1), ct := I (i + 1), bk := Q.nx } ev' M) ∧ ∀ ev M, I xs.length ev M → Q.nx ev M) Q.ex := rfl
end
section
variable {X : Cx} {E : XK} {CX : CXT} {k : Nat} {C f : Addr} {F : Spec} {m : Str} {o e : Expr} {es : List Expr} {To : DT} {Tl : DTA} {pos apos p : Pos}
theorem d_methR {pl : Sem Bool} (he : DE X E o To) (c : Cls X.K C) (hm : Meth X.K C m f) (G : FnR X.prog X.w X.K X.mg X.base CX k f (spD F)) (hr : Room k X.A) (hx : Passes CX X E) (ha : DA X E (e :: es) Tl)
    (hst : starEach (e :: es) X.env = (false, eval e X.env) :: starEach es X.env := by rfl) (hpl : (backTo pos (starEach es X.env)).any (·.1) = false := by rfl)
    (ht : eval (.Call (.Attribute o m apos) (e :: es) [] pos) X.env = (do
      let ov ← eval o X.env
      standAt apos.atName
      let (f, first) ← holding [ov] (getMethod ov m pl)
      callWith pos f first (backTo pos (starEach (e :: es) X.env)) (backToKw pos (keywordEach [] X.env))) := by rfl) :
    DE X E (.Call (.Attribute o m apos) (e :: es) [] pos) (xMeth C m F To Tl) := by
  obtain ⟨t, p1, s⟩ := he
  obtain ⟨tl, p2, sl⟩ := ha
  refine ⟨_, pe_methR p1 c hm G hr hx p2 hst hpl ht, fun c0 σ H S env R Rx x k t Q q => s c0 σ H S env _ Rx x k t _ fun v H1 S1 d k1 s1 r1 t1 => ?_⟩
  obtain ⟨t0, t1⟩ := t1
  cases d <;> try exact (show False from t0).elim
  obtain ⟨rfl, e1⟩ := t0
  obtain ⟨a, dx, vs, rfl, h1, hn, l1⟩ := obj_of k1 r1
  refine ⟨a, dx, _, rfl, h1, fld_none l1 hn e1, sl c0 σ H1 S1 env _ Rx x k1 t1 _ fun us H2 S2 ds k2 s2 l2 t2 => ?_⟩
  exact sp_call k2 x (repL_cons (rep_mono s2 _ _ r1) l2) t2 fun v H' S' d k' s' r' t' => q v H' S' d k' ((s1.trans s2).trans s') r' t'
end
end DL
namespace DL
open PySem PySem.Spec L2
variable [TbC]
def mdel (M : Mem) (a : Addr) : Mem := fun b => if b = a then none else M b
theorem mdel_same {M : Mem} {a : Addr} : mdel M a a = none := if_pos rfl
theorem mdel_ne {M : Mem} {a b : Addr} (h : b ≠ a) : mdel M a b = M b := if_neg h
section
variable {c : Fm} {σ : St} {H S : Hp} {ev : EnM} {M : Mem}
theorem KM.frz (k : KM c σ H S ev M) {i : Nat} {a : Addr} {xs : List D} (e : ev[i]? = some (some (.adr a))) (hM : M a = some (.lst xs)) : ∃ S', KM c σ H S' (ev.set i (some (.lst xs))) (mdel M a) ∧ Same S S' := by
  obtain ⟨vs, h1, l⟩ := k.lst hM
  obtain ⟨q1, q2⟩ := k.mr.out a (MF.of hM)
  obtain ⟨k1, s1, r1⟩ := k.kn.freeze q1 q2 h1 l k.free
  obtain ⟨v, ev1, rv⟩ := k.at e
  cases (show v = .ref a from rv)
  refine ⟨_, ⟨?_, ⟨fun b n eb => ?_, fun b z => ?_⟩⟩, s1⟩
  · have := k1.set (i := i) (d := .lst xs) (v := .ref a) r1
    have e2 : σ.set i (some (.ref a)) = σ := by
      apply List.ext_getElem?
      intro j
      by_cases z : i = j
      · subst z
        rw [List.getElem?_set_self (by obtain ⟨z, _⟩ := List.getElem?_eq_some_iff.mp ev1; exact z), ev1]
      · rw [List.getElem?_set_ne z]
    rw [e2] at this
    rw [vl_set]
    exact this
  · by_cases z : b = a
    · rw [z, mdel_same] at eb
      cases eb
    · rw [mdel_ne z] at eb
      exact (k.mr.nd b n eb).keep s1 fun _ _ o eo => eo
  · have nb : b ≠ a := fun y => by
      subst y
      rcases z with z | ⟨d, C, ks, ys, z⟩
      · exact z mdel_same
      · by_cases y : d = b
        · rw [y, mdel_same] at z
          cases z
        · rw [mdel_ne y] at z
          obtain ⟨_, _, e3, _⟩ := k.mr.nd d _ z
          rw [h1] at e3
          cases e3
    have zM : MF M b := by
      rcases z with z | ⟨d, C, ks, ys, z⟩
      · rw [mdel_ne nb] at z
        exact .inl z
      · by_cases y : d = a
        · rw [y, mdel_same] at z
          cases z
        · rw [mdel_ne y] at z
          exact .inr ⟨_, _, _, _, z⟩
    obtain ⟨o1, o2⟩ := k.mr.out b zM
    exact ⟨by rw [upd_ne nb]; exact o1, o2⟩
end
section
variable {X : Cx} {E : XK} {st : Stmt} {T : DTMS} {b ix : Expr} {To Ti : DTM} {pos : Pos}
def yFrz (i : Nat) (T : DTMS) : DTMS := fun Q ev M => ∃ a xs, ev[i]? = some (some (.adr a)) ∧ M a = some (.lst xs) ∧ T Q (ev.set i (some (.lst xs))) (mdel M a)
theorem w_yFrz {i : Nat} {Q : DEndsM} {ev : EnM} {M : Mem} : yFrz i T Q ev M = ∃ a xs, ev[i]? = some (some (.adr a)) ∧ M a = some (.lst xs) ∧ T Q (ev.set i (some (.lst xs))) (mdel M a) := rfl
/-- xs.pop(i), i from 0 on -/
def mPopAt (To Ti : DTM) : DTM := fun ev M R Rx => To ev M (fun o M1 => (∃ a xs, o = .adr a ∧ M1 a = some (.lst xs)) ∧ Ti ev M1 (fun y M2 => ∃ (a : Addr) (xs : List D) (j : Nat) (d : D), o = .adr a ∧ y = .int (j : Int) ∧ M2 a = some (.lst xs) ∧ j < 2 ^ 62 ∧ xs[j]? = some d ∧ R d (mset M2 a (.lst (xs.eraseIdx j)))) Rx) Rx
theorem w_mPopAt {ev : EnM} {M : Mem} {R : D → Mem → Prop} {Rx : Er → Mem → Prop} : mPopAt To Ti ev M R Rx = To ev M (fun o M1 => (∃ a xs, o = .adr a ∧ M1 a = some (.lst xs)) ∧ Ti ev M1 (fun y M2 => ∃ (a : Addr) (xs : List D) (j : Nat) (d : D), o = .adr a ∧ y = .int (j : Int) ∧ M2 a = some (.lst xs) ∧ j < 2 ^ 62 ∧ xs[j]? = some d ∧ R d (mset M2 a (.lst (xs.eraseIdx j)))) Rx) Rx := rfl
theorem RepL.eraseIdx {B : Option Addr} {S : Hp} : ∀ {ds : List D} {vs : List V} (j : Nat), RepL B S ds vs → RepL B S (ds.eraseIdx j) (vs.eraseIdx j)
  | [], vs, j, l => by rw [repL_nil_of l]; exact repL_nil
  | d :: ds, vs, 0, l => by
    obtain ⟨v, ws, rfl, _, l1⟩ := repL_cons_of l
    exact l1
  | d :: ds, vs, j + 1, l => by
    obtain ⟨v, ws, rfl, r1, l1⟩ := repL_cons_of l
    exact repL_cons r1 (RepL.eraseIdx j l1)
end
end DL
namespace DL
theorem w_ex2 {α : Type} {x y : α} {P : α → α → Prop} : (∃ d d', (x = d ∧ y = d') ∧ P d d') = P x y := propext ⟨fun ⟨_, _, ⟨e1, e2⟩, h⟩ => by subst e1; subst e2; exact h, fun h => ⟨x, y, ⟨rfl, rfl⟩, h⟩⟩
theorem w_ex3 {α : Type} {x y z : α} {P : α → α → α → Prop} : (∃ d d' d'', (x = d ∧ y = d' ∧ z = d'') ∧ P d d' d'') = P x y z := propext ⟨fun ⟨_, _, _, ⟨e1, e2, e3⟩, h⟩ => by subst e1; subst e2; subst e3; exact h, fun h => ⟨x, y, z, ⟨rfl, rfl, rfl⟩, h⟩⟩
end DL
namespace DL
open PySem PySem.Spec L2
variable [TbC]
section
variable {c : Fm} {σ : St} {H S : Hp} {ev : EnM} {M : Mem} {a : Addr}
theorem MemR.notT2 (m : MemR c H S M) (z : MF M a) : ∃ o, H a = some o ∧ ∀ vs, o ≠ .tup vs := by
  rcases z with z | ⟨b, C, ks, xs, z⟩
  · cases e : M a with
    | none => exact (z e).elim
    | some n =>
      have r := m.nd a n e
      cases n with
      | lst xs => obtain ⟨vs, e1, _⟩ := r; exact ⟨_, e1, fun _ z => nomatch z⟩
      | dct ks xs => obtain ⟨vs, e1, _⟩ := r; exact ⟨_, e1, fun _ z => nomatch z⟩
      | dcT ks xs => obtain ⟨vs, e1, _⟩ := r; exact ⟨_, e1, fun _ z => nomatch z⟩
      | ins C dx ks xs => obtain ⟨vs, e1, _⟩ := r; exact ⟨_, e1, fun _ z => nomatch z⟩
      | st w s n => exact ⟨_, r, fun _ z => nomatch z⟩
      | dn P w ks xs => obtain ⟨as, vs, e1, _⟩ := r; exact ⟨_, e1, fun _ z => nomatch z⟩
  · obtain ⟨vs, _, e2, _⟩ := m.nd b _ z
    exact ⟨_, e2, fun _ z => nomatch z⟩
end
section
variable {X : Cx} {E : XK} {e : Expr} {T : DT}
theorem m_lendP (is : List Nat) (h : DP X E e T) : DM X E e (mLendN is T) := by
  obtain ⟨t, p, s⟩ := h
  refine ⟨t, p, fun c σ H S ev M R Rx x k t Q q => ?_⟩
  obtain ⟨ev', k0, t⟩ := k.lend0 t
  refine s _ σ H _ (vl ev') _ _ (x.lend k) k0 t Q fun v H1 S1 N d k1 s1 g r t1 => ?_
  have k2 := k.ofLend k1.kf
  have g2 : Reg c σ (vl ev) H1 (backM S1 M) N := fun a o ea => by
    obtain ⟨g1, g2, g3, g4⟩ := g a o ea
    have g3 : H a = none := g3
    exact ⟨g1, by rw [backM_out (k.mr.notF g3)]; exact g2, k.kn.kf.h0_none g3, k2.free⟩
  have k3 := k2.kn.uni g2
  have sN : Same (backM S1 M) (uni (backM S1 M) N) := uni_l
  have k4 : KM c σ H1 (uni (backM S1 M) N) ev M := k2.move k3.kf sN ⟨fun a n ea => (k2.mr.nd a n ea).keep sN fun b _ o eb => eb, fun a z => ⟨by
    have n1 : backM S1 M a = none := backM_in z
    have n2 : N a = none := by
      cases ea : N a with
      | none => rfl
      | some o =>
        obtain ⟨_, _, g3, _⟩ := g a o ea
        exact ((k.mr.mu z).1 g3).elim
    cases eu : uni (backM S1 M) N a with
    | none => rfl
    | some o =>
      unfold uni at eu
      rw [n1] at eu
      rw [← eu]
      exact n2, (k2.mr.out a z).2⟩⟩
  refine q v H1 _ d M k4 ((k.kn.kf.ofLend k.mr k1.kf).2.1.trans sN) (rep_mono (fun a o ea => ?_) d v r) t1
  rcases uni_of ea with ea | ⟨_, ea⟩
  · obtain ⟨vs, rfl, eb⟩ := tpC_of ea
    refine uni_l a _ ?_
    rw [backM_out fun z => ?_]
    · exact eb
    · obtain ⟨o2, eo, nt⟩ := k.mr.notT2 z
      have := s1 a o2 (by unfold lendM; rw [if_pos z]; exact eo)
      rw [eb] at this
      cases this
      exact nt vs rfl
  · exact uni_r g2 a o ea
end
end DL
namespace DL
open PySem PySem.Spec L2 PyProof.Rows LamX
variable [TbC]
section
variable {X : Cx} {E : XK} {pins : List (Addr × Obj)} {σ : List (Option V)} {H : Hp} {s : Shared} {S : Hp} {c : Fm} {env : En} {kk i : Nat} {f c' : Addr} {dV : Value} {Ni : List Str} {js : List Nat} {tb : TE} {Q : VK}
theorem lamRunP (I : L2.Inv X pins σ H s) (k : Kn c σ H S env) (hca : ∀ (y : Str) (a : Addr), X.env.cells.lookup y = some a → a ∉ frs X.stack) (L : LamI X.N X.env.scope i Ni js) (hr : Room (kk + 1) X.A)
    (hf : H f = some (LamO f i X.env.cells dV c')) (hc : H c' = some (CodeO c' (TbC.lq i).qual)) (hdf : DfOk S dV (TbC.lq i).dfl)
    (pb : PE (lamCxB X.prog X.w X.K X.mg (wideB s H X.stack) X.A X.stack s H E Ni (TbC.lq i) X.env.cells f c') (TbC.lq i).body tb) (ht : tb (pickV js σ) H Q) :
    codeAny (model X.prog X.w) X.A (.call (.ref f) ⟨[], []⟩) (CR (L2.CX X.prog X.w) X.stack X.prog X.w H s Q E) s := by
  have e0 := env0_wide I
  have of0 := e0.hok f _ hf
  unfold LamO at of0
  obtain ⟨⟨doc, pm, ctv, of1⟩, _, _⟩ := of0
  obtain ⟨⟨oc, vs, t, hoc, hdc, hvc⟩, _, _⟩ := e0.hok c' _ hc
  have hda : DfAt s.heap dV (TbC.lq i).dfl := by
    rcases hdf with ⟨e1, e2⟩ | ⟨nn, t, e1, e2⟩
    · exact .inl ⟨e1, e2⟩
    · obtain ⟨_, its, hv, o, ho, _, n, hd⟩ := e0.hok t _ (k.kf.sub _ _ e2)
      exact .inr ⟨nn, t, o, its, n, e1, ho, hd, hv⟩
  obtain ⟨bs, hb, hloc⟩ := L.bind (cloFrom X.env.cells (TbC.lq i).scope.names []) dV doc pm (.ref c') ctv s hda
  have KX : X.K.In s.heap := e0.mod.kin.keeps fun b o e => (e0.bs b o e).1
  have lim : s.heap.NoLimit := e0.mod.nolimit.keeps fun b o e => (e0.bs b o e).1
  refine PySem.W.kla_callFunE hr.depth of1 rfl L.co L.gen rfl ⟨c', oc, vs, t, rfl, hoc, hdc, hvc⟩ (hb _ _ _ _ ?_)
  refine wpAny_newFunctionEnv L.nocell hloc (fun h₁ hns hsb => ⟨lim.fresh _ hsb, ?_⟩) L.kind
  show codeAny _ _ (.expr (TbC.lq i).body (lamEnvB (TbC.lq i) X.env.cells s.heap.objs.size f c')) _ _
  have kp : ∀ b o, s.heap.get? b = some o → h₁.get? b = some o := fun b o e => hsb.extBut b o (Nat.ne_of_lt (Heap.lt_size e)) (Heap.get?_push_of_some _ e)
  have cellW : ∀ {y : Str} {a : Addr} {v : Option Value}, X.env.cells.lookup y = some a → s.heap.IsCell a v → (wideB s H X.stack).IsCell a v := fun {y a v} e ⟨o, ho, hd⟩ => ⟨o, wideB_get ho (I.freeC y a e) (hca y a e), hd⟩
  have J : L2.Inv (lamCxB X.prog X.w X.K X.mg (wideB s H X.stack) X.A X.stack s H E Ni (TbC.lq i) X.env.cells f c') [] (pickV js σ) H { s with heap := h₁, toks := s.toks + bs.length } := by
    refine lamB_start L e0 hr.hd (fun y hy e => ?_) I.ok.inj (fun y a e => ?_) ?_ (fun t y v e1 e2 => ?_) hns kp
    · rcases L.free y hy e with z | z
      · exact I.ok.has _ (.inl z)
      · exact I.ok.has _ (.inr z)
    · obtain ⟨v, ic⟩ := I.cell y a e
      exact ⟨v, cellW e ic⟩
    · unfold pickV
      rw [List.length_map, L.len]
    · obtain ⟨k1, j, ej, eN⟩ := L.names t y e1
      unfold pickV at e2
      rw [List.getElem?_map, ej] at e2
      have e2 : some (σ[j]?.join) = some (some v) := e2
      have e3 : σ[j]?.join = some v := Option.some.inj e2
      have e4 : σ[j]? = some (some v) := by
        cases z : σ[j]? with
        | none => rw [z] at e3; cases e3
        | some w => rw [z] at e3; rw [show w = some v from e3]
      have hk : X.env.scope.names.lookup y = some .cell ∨ X.env.scope.names.lookup y = some .free := L.free _ (PySem.mem_of_lookup k1) rfl
      obtain ⟨m, hn, hlk⟩ := I.loc
      obtain ⟨u, r, lu⟩ := hlk j y v eN e4 (hk.elim (fun z => .inr (.inl z)) (fun z => .inr (.inr z)))
      rcases lu with ⟨z, _⟩ | ⟨_, a, ea, ic⟩
      · have z : X.env.scope.names.lookup y = some .local := z
        rcases hk with q | q <;> rw [q] at z <;> cases z
      · exact ⟨u, a, r, ea, cellW ea ic⟩
  refine PySem.W.kla_codeExpr (wpAny_mono (pb.run [] _ _ H Q J ht) (fun v s' hq' => ?_) fun e s' hq' => hq')
  obtain ⟨w', H', J', rv, q⟩ := hq'
  exact ⟨w', H', J'.os, J'.bare, J'.base, J'.hok, rv, q⟩
theorem kn_pick (k : Kn c σ H S env) : Kn (c.at H S) (pickV js σ) H S (pickE js env) := by
  refine ⟨k.kf.at, by unfold pickE pickV; rw [List.length_map, List.length_map], fun t x e => ?_, fun a b x y v u a2 _ e _ _ _ f _ => ?_⟩
  · obtain ⟨j, d, ej, rfl, ed⟩ := pickE_get e
    obtain ⟨v, ev, r⟩ := k.sl j _ ed
    refine ⟨v, ?_, r⟩
    unfold pickV
    rw [List.getElem?_map, ej]
    show some (σ[j]?.join) = some (some v)
    rw [ev]
    rfl
  · obtain ⟨j, d, _, z, _⟩ := pickE_get e
    subst z
    exact f
theorem hca_of (I : L2.Inv X pins σ H s) (hfn : ∀ y, X.fn y = true) (hst : X.stack = X.env :: X.outer) (hfr : X.env.frame = some X.env.locals) : ∀ (y : Str) (a : Addr), X.env.cells.lookup y = some a → a ∉ frs X.stack := fun y a ea hm => by
  have h1 := I.ok.cab y a (hfn y) ea
  rw [hst] at hm
  unfold frs at hm
  rw [List.filterMap_cons, hfr] at hm
  rcases List.mem_cons.mp hm with z | z
  · exact I.cne y a ea z
  · have h2 : a ∈ X.fs := z
    obtain ⟨_, o, ho, _⟩ := I.ok.funs.mem h2
    exact absurd (Heap.lt_size ho) (Nat.not_lt.mpr h1)
end
/-- a tree that is a list: its items stay from here on, the list is the frame's own -/
def xNFz (T : DT) : DTF := fun env R Rx => T env (fun d => match d with
  | .lst ds => R ds
  | _ => False) Rx
theorem w_xNFz {T : DT} {env : En} {R : List D → Prop} {Rx : Er → Prop} : xNFz T env R Rx = T env (fun d => match d with
  | .lst ds => R ds
  | _ => False) Rx := rfl
theorem f_ofUZ {X : Cx} {E : XK} {e : Expr} {T : DT} (h : DU X E e T) : DF X E e (xNFz T) := by
  obtain ⟨t, p, s⟩ := h
  refine ⟨t, p, fun c σ H S env R Rx x k h Q q => s c σ H S env _ Rx x k h Q fun v H1 S1 as d k1 s1 r n g t1 => ?_⟩
  cases d <;> try exact (show False from t1).elim
  rename_i xs
  rw [D.tr, RepT] at r
  obtain ⟨a, vs, bs, rfl, e, l, rfl⟩ := r
  obtain ⟨g1, g2, g3⟩ := g a (List.mem_cons_self ..)
  have gb : New c σ S1 env bs := fun b m => g b (List.mem_cons_of_mem _ m)
  obtain ⟨k2, s2⟩ := k1.frzT gb
  have hab : a ∉ bs := (List.nodup_cons.mp n).1
  have l2 := repL_tree (frzS_same fun b m => (gb b m).1) (D.trs xs) vs bs (fun _ m => frzS_in m) l
  rw [trs_ds] at l2
  exact q a vs H1 _ xs k2 (s1.trans s2) g2 g3 (by rw [frzS_out hab]; exact g1) e l2 t1
/-- slot j holds lambda i of the frame's own: read by LT -/
def xActL (j : Nat) (cl : List (Str × Addr)) (LT : Nat → Option (List Nat × DT)) : DT := fun env R Rx => ∃ i z, env[j]? = some (some (.val (.fn i cl z))) ∧ ZL LT env i R Rx
theorem w_actL {j : Nat} {cl : List (Str × Addr)} {LT : Nat → Option (List Nat × DT)} {env : En} {R : D → Prop} {Rx : Er → Prop} : xActL j cl LT env R Rx = ∃ i z, env[j]? = some (some (.val (.fn i cl z))) ∧ ZL LT env i R Rx := rfl
/-- .. its result a new list -/
def ZF (LF : Nat → Option (List Nat × DTF)) (env : En) (i : Nat) (R : List D → Prop) (Rx : Er → Prop) : Prop := match LF i with
  | some (js, T) => T (pickE js env) R Rx
  | none => False
def xActF (j : Nat) (cl : List (Str × Addr)) (LF : Nat → Option (List Nat × DTF)) : DTF := fun env R Rx => ∃ i z, env[j]? = some (some (.val (.fn i cl z))) ∧ ZF LF env i R Rx
theorem w_actF {j : Nat} {cl : List (Str × Addr)} {LF : Nat → Option (List Nat × DTF)} {env : En} {R : List D → Prop} {Rx : Er → Prop} : xActF j cl LF env R Rx = ∃ i z, env[j]? = some (some (.val (.fn i cl z))) ∧ ZF LF env i R Rx := rfl
/-- the lambdas of a def whose results are new lists -/
def lftab (L : List (Nat × List Nat × DTF)) (i : Nat) : Option (List Nat × DTF) := L.lookup i
def LFok (P : Program) (w : World) (K : PySem.W.Frag) (mg : Str → Option Value) (kk : Nat) (N : List Str) (sc : Scope) (L : List (Nat × List Nat × DTF)) : Prop :=
  ∀ i js T, lftab L i = some (js, T) → ∃ Ni, LamI N sc i Ni js ∧ ∀ (base : Heap) (A : Around) (outer : List Env) (s : Shared) (H : Hp) (E : XK) (f c' : Addr) (cl : List (Str × Addr)), Room kk (A.deeper (lamEnvB (TbC.lq i) cl s.heap.objs.size f c')) →
      DF (lamCxB P w K mg base A outer s H E Ni (TbC.lq i) cl f c') E (TbC.lq i).body T
section
variable {P : Program} {w : World} {K : PySem.W.Frag} {mg : Str → Option Value} {kk : Nat} {N : List Str} {sc : Scope} {L : List (Nat × List Nat × DTF)}
theorem lf_nil : LFok P w K mg kk N sc [] := fun i js T e => nomatch (show (none : Option (List Nat × DTF)) = some (js, T) from e)
theorem lf_cons {i : Nat} {q : LamQ} {Ni : List Str} {js : List Nat} {T : DTF} (hq : TbC.lq i = q) (hI : lamIB N sc q Ni js = true) (hb : BindL q)
    (hd : ∀ (base : Heap) (A : Around) (outer : List Env) (s : Shared) (H : Hp) (E : XK) (f c' : Addr) (cl : List (Str × Addr)), Room kk (A.deeper (lamEnvB q cl s.heap.objs.size f c')) → DF (lamCxB P w K mg base A outer s H E Ni q cl f c') E q.body T)
    (rest : LFok P w K mg kk N sc L) : LFok P w K mg kk N sc ((i, js, T) :: L) := fun i' js' T' e => by
  unfold lftab at e
  rw [List.lookup_cons] at e
  by_cases z : i' = i
  · subst z
    rw [beq_self_eq_true] at e
    cases e
    exact ⟨Ni, lamI_of hq hI hb, by rw [hq]; exact hd⟩
  · rw [beq_false_of_ne z] at e
    exact rest i' js' T' e
theorem lf_hide (h : LFok P w K mg kk N sc L) : ∃ L', LFok P w K mg kk N sc L' ∧ ∀ i js T, lftab L i = some (js, T) → ∀ (env : En) (R : List D → Prop) (Rx : Er → Prop), ZF (lftab L') env i R Rx = T (pickE js env) R Rx := ⟨L, h, fun i js T e env R Rx => by
  unfold ZF
  rw [e]⟩
end
section
variable {X : Cx} {E : XK} {j kk : Nat} {cl : List (Str × Addr)} {a : Str} {p1 p2 : Pos}
theorem d_actL {LT : Nat → Option (List Nat × DT)} (hcl : X.env.cells = cl) (hfn : ∀ y, X.fn y = true) (hst : X.stack = X.env :: X.outer) (hfr : X.env.frame = some X.env.locals)
    (hLT : ∀ i js T, LT i = some (js, T) → ∃ Ni, LamI X.N X.env.scope i Ni js ∧ ∀ (base : Heap) (A : Around) (outer : List Env) (s : Shared) (H : Hp) (E : XK) (f c' : Addr) (cl : List (Str × Addr)), Room kk (A.deeper (lamEnvB (TbC.lq i) cl s.heap.objs.size f c')) →
      DE (lamCxB X.prog X.w X.K X.mg base A outer s H E Ni (TbC.lq i) cl f c') E (TbC.lq i).body T)
    (hr : Room (kk + 1) X.A) (hx : Passes (L2.CX X.prog X.w) X E) (hN : X.N[j]? = some a := by rfl) (hv : Vis X.env.scope a := by first | exact Or.inl rfl | exact Or.inr (Or.inl rfl) | exact Or.inr (Or.inr rfl))
    (hd : (a == ("__debug__" : Str)) = false := by decide) (hcd : (a == ("__classdict__" : Str)) = false := by decide) : DE X E (.Call (.Name a p1) [] [] p2) (xActL j cl LT) := by
  subst hcl
  refine ⟨fun σ H Q => ∃ (f c' : Addr) (i : Nat) (dV : Value) (c : Fm) (S : Hp) (env : En) (js : List Nat) (T : DT) (R : D → Prop) (Rx : Er → Prop), σ[j]? = some (some (.ref f)) ∧ Kn c σ H S env ∧ H f = some (LamO f i X.env.cells dV c') ∧ H c' = some (CodeO c' (TbC.lq i).qual) ∧ DfOk S dV (TbC.lq i).dfl ∧ LT i = some (js, T) ∧ T (pickE js env) R Rx ∧
      (∀ v H' S' d, Kn c σ H' S' env → Same S S' → Rep c.B S' d v → R d → Q v H') ∧ XOk c E Rx, ⟨fun pins s σ H Q I h => ?_⟩, fun c σ H S env R Rx x k t Q q => ?_⟩
  · obtain ⟨f, c', i, dV, c, S, env, js, T, R, Rx, hs, kn, hf, hc, hdf, hlt, hz, hq, xo⟩ := h
    refine wpAny_Call_Name_kw (thn ((pe_var (pos := p1) (i := j) hN hv hd hcd).run pins s σ H (fun v H1 => v = .ref f ∧ H1 = H) I ⟨.ref f, hs, rfl, rfl⟩) fun u s1 ⟨v, H1, I1, r1, q1⟩ => ?_)
    obtain ⟨ev, eH⟩ := q1
    subst ev
    rw [eH] at I1
    obtain rfl : u = Value.ref f := r1
    have of0 := I1.hok f _ hf
    unfold LamO at of0
    obtain ⟨⟨doc, pm, ctv, of1⟩, _, _⟩ := of0
    refine PySem.W.callWith_F0 ⟨_, _, _, _, of1⟩ ?_
    obtain ⟨Ni, L, hbody⟩ := hLT i js T hlt
    obtain ⟨tb, pb, sb⟩ := hbody (wideB s1 H X.stack) X.A X.stack s1 H E f c' X.env.cells (hr.deeper _)
    refine wpAny_call (codeAny_mono (lamRunP I1 kn (hca_of I1 hfn hst hfr) L hr hf hc hdf pb (sb (c.at H S) _ H S _ R Rx (xo.at kn.kf) (kn_pick kn) hz Q fun v H' S' d k' s' r' z => hq v H' S' d (kn.back k'.kf) k'.kf.s0 r' z)) fun r s' hq' => ?_)
    cases r with
    | error e => exact hx pins σ H s1 e s' I1 hq'
    | ok fl =>
      cases fl with
      | ret u => exact I1.after hq'
      | next => exact False.elim hq'
      | brk => exact False.elim hq'
      | cont => exact False.elim hq'
  · obtain ⟨i, z, e, hz⟩ := t
    obtain ⟨v, ev, r⟩ := k.sl j _ e
    have r : Rep c.B S (.fn i X.env.cells z) v := r
    rw [Rep] at r
    obtain ⟨f, dV, c', rfl, e1, e2, hdf, hn⟩ := r
    unfold ZL at hz
    cases hlt : LT i with
    | none =>
      rw [hlt] at hz
      exact hz.elim
    | some p =>
      obtain ⟨js, T⟩ := p
      rw [hlt] at hz
      exact ⟨f, c', i, dV, c, S, env, js, T, R, Rx, ev, k, k.kf.sub _ _ e1, k.kf.sub _ _ e2, hdf, hlt, hz, fun v H' S' d k' s' r' y => q v H' S' d k' s' r' y, x⟩
theorem f_actL {LF : Nat → Option (List Nat × DTF)} (hcl : X.env.cells = cl) (hfn : ∀ y, X.fn y = true) (hst : X.stack = X.env :: X.outer) (hfr : X.env.frame = some X.env.locals)
    (hLT : ∀ i js T, LF i = some (js, T) → ∃ Ni, LamI X.N X.env.scope i Ni js ∧ ∀ (base : Heap) (A : Around) (outer : List Env) (s : Shared) (H : Hp) (E : XK) (f c' : Addr) (cl : List (Str × Addr)), Room kk (A.deeper (lamEnvB (TbC.lq i) cl s.heap.objs.size f c')) →
      DF (lamCxB X.prog X.w X.K X.mg base A outer s H E Ni (TbC.lq i) cl f c') E (TbC.lq i).body T)
    (hr : Room (kk + 1) X.A) (hx : Passes (L2.CX X.prog X.w) X E) (hN : X.N[j]? = some a := by rfl) (hv : Vis X.env.scope a := by first | exact Or.inl rfl | exact Or.inr (Or.inl rfl) | exact Or.inr (Or.inr rfl))
    (hd : (a == ("__debug__" : Str)) = false := by decide) (hcd : (a == ("__classdict__" : Str)) = false := by decide) : DF X E (.Call (.Name a p1) [] [] p2) (xActF j cl LF) := by
  subst hcl
  refine ⟨fun σ H Q => ∃ (f c' : Addr) (i : Nat) (dV : Value) (c : Fm) (S : Hp) (env : En) (js : List Nat) (T : DTF) (R : List D → Prop) (Rx : Er → Prop), σ[j]? = some (some (.ref f)) ∧ Kn c σ H S env ∧ H f = some (LamO f i X.env.cells dV c') ∧ H c' = some (CodeO c' (TbC.lq i).qual) ∧ DfOk S dV (TbC.lq i).dfl ∧ LF i = some (js, T) ∧ T (pickE js env) R Rx ∧
      (∀ p vs H' S' ds, Kn c σ H' S' env → Same S S' → c.H0 p = none → Free σ env p → S' p = none → H' p = some (.lst vs) → RepL c.B S' ds vs → R ds → Q (.ref p) H') ∧ XOk c E Rx, ⟨fun pins s σ H Q I h => ?_⟩, fun c σ H S env R Rx x k t Q q => ?_⟩
  · obtain ⟨f, c', i, dV, c, S, env, js, T, R, Rx, hs, kn, hf, hc, hdf, hlt, hz, hq, xo⟩ := h
    refine wpAny_Call_Name_kw (thn ((pe_var (pos := p1) (i := j) hN hv hd hcd).run pins s σ H (fun v H1 => v = .ref f ∧ H1 = H) I ⟨.ref f, hs, rfl, rfl⟩) fun u s1 ⟨v, H1, I1, r1, q1⟩ => ?_)
    obtain ⟨ev, eH⟩ := q1
    subst ev
    rw [eH] at I1
    obtain rfl : u = Value.ref f := r1
    have of0 := I1.hok f _ hf
    unfold LamO at of0
    obtain ⟨⟨doc, pm, ctv, of1⟩, _, _⟩ := of0
    refine PySem.W.callWith_F0 ⟨_, _, _, _, of1⟩ ?_
    obtain ⟨Ni, L, hbody⟩ := hLT i js T hlt
    obtain ⟨tb, pb, sb⟩ := hbody (wideB s1 H X.stack) X.A X.stack s1 H E f c' X.env.cells (hr.deeper _)
    refine wpAny_call (codeAny_mono (lamRunP I1 kn (hca_of I1 hfn hst hfr) L hr hf hc hdf pb (sb (c.at H S) _ H S _ R Rx (xo.at kn.kf) (kn_pick kn) hz Q fun p vs H' S' ds k' s' n0 fr np e1 l1 z => hq p vs H' S' ds (kn.back k'.kf) k'.kf.s0 (kn.kf.h0_none n0) (kn.free n0) np e1 l1 z)) fun r s' hq' => ?_)
    cases r with
    | error e => exact hx pins σ H s1 e s' I1 hq'
    | ok fl =>
      cases fl with
      | ret u => exact I1.after hq'
      | next => exact False.elim hq'
      | brk => exact False.elim hq'
      | cont => exact False.elim hq'
  · obtain ⟨i, z, e, hz⟩ := t
    obtain ⟨v, ev, r⟩ := k.sl j _ e
    have r : Rep c.B S (.fn i X.env.cells z) v := r
    rw [Rep] at r
    obtain ⟨f, dV, c', rfl, e1, e2, hdf, hn⟩ := r
    unfold ZF at hz
    cases hlt : LF i with
    | none =>
      rw [hlt] at hz
      exact hz.elim
    | some p =>
      obtain ⟨js, T⟩ := p
      rw [hlt] at hz
      exact ⟨f, c', i, dV, c, S, env, js, T, R, Rx, ev, k, k.kf.sub _ _ e1, k.kf.sub _ _ e2, hdf, hlt, hz, q, x⟩
end
end DL
namespace DL
open PySem PySem.Spec L2 Hd
section
variable [TbC] {P : Program} {w : World} {K : PySem.W.Frag} {mg : Str → Option Value} {base : Heap}
theorem tru_non : D.tru .non = some false := rfl
theorem tru_bl {b : Bool} : D.tru (.bl b) = some b := rfl
theorem tru_int {i : Int} : D.tru (.int i) = some (i != 0) := rfl
theorem tru_str {s : Str} : D.tru (.str s) = if s.length ≤ sizeLine then some ((s.length : Int) != 0) else none := rfl
theorem tru_lst {xs : List D} : D.tru (.lst xs) = some (!xs.isEmpty) := rfl
theorem tru_tup {xs : List D} : D.tru (.tup xs) = some (!xs.isEmpty) := rfl
theorem isN_non : D.isN .non = true := rfl
theorem isN_bl {b : Bool} : D.isN (.bl b) = false := rfl
theorem isN_int {i : Int} : D.isN (.int i) = false := rfl
theorem isN_str {s : Str} : D.isN (.str s) = false := rfl
theorem isN_lst {xs : List D} : D.isN (.lst xs) = false := rfl
theorem isN_tup {xs : List D} : D.isN (.tup xs) = false := rfl
theorem isN_obj {C : Addr} {ks : List Str} {xs : List D} : D.isN (.obj C ks xs) = false := rfl
theorem dat_non : D.dat .non = true := rfl
theorem dat_bl {b : Bool} : D.dat (.bl b) = true := rfl
theorem dat_int {i : Int} : D.dat (.int i) = true := rfl
theorem dat_str {s : Str} : D.dat (.str s) = true := rfl
theorem dat_lst {xs : List D} : D.dat (.lst xs) = datL xs := rfl
theorem dat_tup {xs : List D} : D.dat (.tup xs) = datL xs := rfl
theorem datL_nil : datL [] = true := rfl
theorem datL_cons {x : D} {xs : List D} : datL (x :: xs) = (x.dat && datL xs) := rfl
theorem dep_non : D.dep .non = 1 := rfl
theorem dep_bl {b : Bool} : D.dep (.bl b) = 1 := rfl
theorem dep_int {i : Int} : D.dep (.int i) = 1 := rfl
theorem dep_str {s : Str} : D.dep (.str s) = 1 := rfl
theorem dep_lst {xs : List D} : D.dep (.lst xs) = 1 + depL xs := rfl
theorem dep_tup {xs : List D} : D.dep (.tup xs) = 1 + depL xs := rfl
theorem depL_nil : depL [] = 0 := rfl
theorem depL_cons {x : D} {xs : List D} : depL (x :: xs) = max x.dep (depL xs) := rfl
theorem py_non : D.py .non = .none := rfl
theorem py_bl {b : Bool} : D.py (.bl b) = .bool b := rfl
theorem py_int {i : Int} : D.py (.int i) = .int i := rfl
theorem py_str {s : Str} : D.py (.str s) = .str s := rfl
theorem py_lst {xs : List D} : D.py (.lst xs) = .list (pyL xs) := rfl
theorem py_tup {xs : List D} : D.py (.tup xs) = .tuple (pyL xs) := rfl
theorem pyL_nil : pyL [] = [] := rfl
theorem pyL_cons {x : D} {xs : List D} : pyL (x :: xs) = x.py :: pyL xs := rfl
theorem eqv_self (d : D) : PyData.eqv d.py d.py = true := SeqAt.eqv_refl_plain d.py (py_plain d)
def GoodL (n : Nat) (xs : List D) : Prop := ∀ x ∈ xs, Good n x
theorem goodL_nil {n : Nat} : GoodL n [] = True := by simp [GoodL]
theorem goodL_cons {n : Nat} {x : D} {xs : List D} : GoodL n (x :: xs) = (Good n x ∧ GoodL n xs) := by simp [GoodL]
theorem goodl_lst {n : Nat} {xs : List D} : Good (n + 1) (.lst xs) = (xs.length ≤ 100000 ∧ GoodL n xs) := rfl
theorem goodl_tup {n : Nat} {xs : List D} : Good (n + 1) (.tup xs) = (xs.length ≤ 100000 ∧ GoodL n xs) := rfl
/-- a comprehension whose items are told by their place -/
theorem LcP.idx {xs : List D} {G : DG} {Te : DT} {vs : List Nat} {env : En} {R : List D → Prop} (g : Nat → D) (hz : xs.length ≤ sizeLine) (h : ∀ (i : Nat) (d : D) (N : D → Prop), xs[i]? = some d → N (g i) → G d (inner vs env) fun env' => Te env' N noX) (k : R ((List.range xs.length).map g)) :
    LcP xs G xYes Te vs env R := by
  refine ⟨fun i acc => acc = (List.range i).map g, rfl, fun i d acc e hI => ?_, fun acc hI => by rw [hI]; exact k⟩
  have hi := (List.getElem?_eq_some_iff.mp e).1
  have key := h i d (fun y => acc.length < sizeLine ∧ acc ++ [y] = (List.range (i + 1)).map g) e ⟨by rw [hI, List.length_map, List.length_range]; omega, by rw [hI, List.range_succ, List.map_append]; rfl⟩
  have e1 : (fun env' => xYes env' (fun b => (b = true → Te env' (fun y => acc.length < sizeLine ∧ acc ++ [y] = (List.range (i + 1)).map g) noX) ∧ (b = false → acc = (List.range (i + 1)).map g)) noX) = fun env' => Te env' (fun y => acc.length < sizeLine ∧ acc ++ [y] = (List.range (i + 1)).map g) noX := by
    funext env'
    refine propext ⟨fun t => t.1 rfl, fun t => ⟨fun _ => t, fun z => nomatch z⟩⟩
  rw [e1]
  exact key
theorem LcP.upto {lo : Int} {n : Nat} {G : DG} {Te : DT} {vs : List Nat} {env : En} {R : List D → Prop} (g : Nat → D) (hz : n ≤ sizeLine) (h : ∀ (i : Nat) (N : D → Prop), i < n → N (g i) → G (.int (lo + i)) (inner vs env) fun env' => Te env' N noX) (k : R ((List.range n).map g)) :
    LcP (DL.ups lo n) G xYes Te vs env R := by
  refine LcP.idx g (by rw [ups_length]; exact hz) (fun i d N e hN => ?_) (by rw [ups_length]; exact k)
  rw [ups_get] at e
  split at e <;> cases e
  rename_i hi
  exact h i N hi hN
theorem ups_at {lo : Int} {n i : Nat} {d : D} (e : (DL.ups lo n)[i]? = some d) : i < n ∧ d = .int (lo + i) := by
  rw [ups_get] at e
  split at e <;> cases e
  rename_i hi
  exact ⟨hi, rfl⟩
theorem atI_map {g : Nat → D} {m k : Nat} {j : Int} (hj : j = k) (h : k < m) : atI ((List.range m).map g) j = some (g k) := by
  subst hj
  exact atI_nat (by simp [h])
theorem flat_non : D.flat .non = true := rfl
theorem flat_bl {b : Bool} : D.flat (.bl b) = true := rfl
theorem flat_int {i : Int} : D.flat (.int i) = true := rfl
theorem flat_str {s : Str} : D.flat (.str s) = true := rfl
theorem flatL_ints {ns : List Int} : flatL (ns.map D.int) = true := flatL_map fun _ => rfl
theorem asInts_nil : asInts [] = some [] := rfl
theorem asInts_cons {i : Int} {xs : List D} : asInts (.int i :: xs) = (asInts xs).map (i :: ·) := by
  rw [asInts]
theorem getD_map {xs : List Int} {k : Nat} (h : k < xs.length) : (xs.map D.int)[k]? = some (.int (xs.getD k 0)) := by
  rw [List.getElem?_map, List.getElem?_eq_getElem h]
  simp [List.getD, List.getElem?_eq_getElem h]
theorem at_ints {xs : List Int} {k : Nat} {j : Int} (hj : j = k) (h : k < xs.length) : atI (xs.map D.int) j = some (.int (xs.getD k 0)) := by
  subst hj
  exact atI_nat (getD_map h)
theorem pairs_ints {xs ys : List Int} {i : Nat} {d : D} (h : (pairs (xs.map D.int) (ys.map D.int))[i]? = some d) : i < xs.length ∧ i < ys.length ∧ d = .tup [.int (xs.getD i 0), .int (ys.getD i 0)] := by
  obtain ⟨a, b, e1, e2, e3⟩ := pairs_get _ _ _ _ h
  have h1 : i < xs.length := by have := (List.getElem?_eq_some_iff.mp e1).1; simpa using this
  have h2 : i < ys.length := by have := (List.getElem?_eq_some_iff.mp e2).1; simpa using this
  rw [getD_map h1] at e1
  rw [getD_map h2] at e2
  cases e1
  cases e2
  exact ⟨h1, h2, e3⟩
theorem cutD_from {xs : List D} {a : Nat} : cutD xs (some (a : Int)) none = xs.drop a := by
  unfold cutD
  rw [HT.sIx_nat xs.length 0 a, HT.sIx_none]
  by_cases h : a ≤ xs.length
  · rw [Nat.min_eq_left h, List.take_of_length_le (by rw [List.length_drop]; omega)]
  · rw [List.drop_eq_nil_of_le (by omega), List.drop_eq_nil_of_le (by omega)]
    simp
theorem cutD_to {xs : List D} {b : Nat} : cutD xs none (some (b : Int)) = xs.take b := by
  unfold cutD
  rw [HT.sIx_nat xs.length xs.length b, HT.sIx_none, List.drop_zero, List.take_eq_take_iff]
  omega
theorem cutD_1 {xs : List D} : cutD xs (some 1) none = xs.drop 1 := cutD_from (a := 1)
theorem goodL_ints {n : Nat} {ns : List Int} : GoodL (n + 1) (ns.map D.int) = True := by
  simp only [eq_iff_iff, iff_true]
  exact fun x hx => by
    obtain ⟨i, _, rfl⟩ := List.mem_map.mp hx
    trivial
theorem eqv_nn : PyData.eqv .none .none = true := rfl
theorem eqv_bb {a b : Bool} : PyData.eqv (.bool a) (.bool b) = decide (a = b) := by simp only [PyData.eqv]; cases a <;> cases b <;> rfl
theorem eqv_ii {a b : Int} : PyData.eqv (.int a) (.int b) = decide (a = b) := by simp only [PyData.eqv]; exact Bool.beq_eq_decide_eq a b
theorem eqv_ss {a b : Str} : PyData.eqv (.str a) (.str b) = (a == b) := by simp only [PyData.eqv]
theorem eqv_ll {a b : List PyData} : PyData.eqv (.list a) (.list b) = PyData.eqvAll a b := by simp only [PyData.eqv]
theorem eqv_tt {a b : List PyData} : PyData.eqv (.tuple a) (.tuple b) = PyData.eqvAll a b := by simp only [PyData.eqv]
theorem eqv_lt {a b : List PyData} : PyData.eqv (.list a) (.tuple b) = false := by simp only [PyData.eqv]
theorem eqv_tl {a b : List PyData} : PyData.eqv (.tuple a) (.list b) = false := by simp only [PyData.eqv]
theorem eqv_nb {b : Bool} : PyData.eqv .none (.bool b) = false := by simp only [PyData.eqv]
theorem eqv_bn {b : Bool} : PyData.eqv (.bool b) .none = false := by simp only [PyData.eqv]
theorem eqv_ni {i : Int} : PyData.eqv .none (.int i) = false := by simp only [PyData.eqv]
theorem eqv_in {i : Int} : PyData.eqv (.int i) .none = false := by simp only [PyData.eqv]
theorem eqv_ns {s : Str} : PyData.eqv .none (.str s) = false := by simp only [PyData.eqv]
theorem eqv_sn {s : Str} : PyData.eqv (.str s) .none = false := by simp only [PyData.eqv]
theorem eqv_nl {l : List PyData} : PyData.eqv .none (.list l) = false := by simp only [PyData.eqv]
theorem eqv_ln {l : List PyData} : PyData.eqv (.list l) .none = false := by simp only [PyData.eqv]
theorem eqvAll_nn : PyData.eqvAll [] [] = true := by simp only [PyData.eqvAll]
theorem eqvAll_nc {x : PyData} {xs : List PyData} : PyData.eqvAll [] (x :: xs) = false := by simp only [PyData.eqvAll]
theorem eqvAll_cn {x : PyData} {xs : List PyData} : PyData.eqvAll (x :: xs) [] = false := by simp only [PyData.eqvAll]
theorem eqvAll_cc {x y : PyData} {xs ys : List PyData} : PyData.eqvAll (x :: xs) (y :: ys) = (PyData.eqv x y && PyData.eqvAll xs ys) := by simp only [PyData.eqvAll]
theorem eqvAll_self {xs : List D} : PyData.eqvAll (pyL xs) (pyL xs) = true := by
  have h := eqv_self (.lst xs)
  rw [py_lst, eqv_ll] at h
  exact h
theorem eqvAll_ints : ∀ {xs ys : List Int}, PyData.eqvAll (pyL (xs.map D.int)) (pyL (ys.map D.int)) = decide (xs = ys)
  | [], [] => by simp only [List.map_nil, pyL_nil, eqvAll_nn, decide_true]
  | [], y :: ys => by simp [pyL_nil, pyL_cons, eqvAll_nc]
  | x :: xs, [] => by simp [pyL_nil, pyL_cons, eqvAll_cn]
  | x :: xs, y :: ys => by
    rw [List.map_cons, List.map_cons, pyL_cons, pyL_cons, eqvAll_cc, eqvAll_ints, py_int, py_int, eqv_ii]
    simp
theorem datL_ints {ns : List Int} : datL (ns.map D.int) = true := datL_of fun x hx => by
  obtain ⟨i, _, rfl⟩ := List.mem_map.mp hx
  rfl
theorem asO_obj {C C' : Addr} {ks : List Str} {xs : List D} {R : List Str → List D → Prop} : asO C R (.obj C' ks xs) = (C' = C ∧ R ks xs) := rfl
def dgN1 : Array Lean.Name := #[`zRaise, `xFld, `xMeth, `xMethK, `opOwn, `xProp, `xMake, `xOB, `xOBi, `xInv, `asO_obj, `xNF, `xFN, `xFl, `zRetNew, `zRetO, `xStar, `xSl3, `zNever, `zParC, `zParV, `flat_non, `flat_bl, `flat_int, `flat_str, `flatL_nil, `flatL_cons, `flatL_app, `cut3_rev, `cut3_rev0, `pls_rev, `pls_rev0, `List.length_reverse, `asLT_lst, `asLT_tup, `true_or, `or_true, `startE, `inner, `zSeq, `zIf, `zNext, `zRet, `zAsg, `zSetO, `zPar, `zFrz, `zApp, `zStO, `zAug, `zExpr, `zFor, `zWhile, `zBreak, `zCont, `xTest, `xAnd, `xOr, `xNot, `xAndV, `xOrV, `xNotV, `xIf, `xTru, `xOp, `xUn, `xC, `xNil, `xCons, `xLst, `xTup, `xIxO, `xLenO, `xNoPart, `xPart, `xSl, `xChain, `xF, `xNew, `xCatF, `xRepF, `xListF, `xSlF, `xCB, `xCall, `xCallK, `xItL, `xItT, `xRg1, `xRg2, `xZip, `fZip_lst, `fZip_tup, `xEnum, `xItS, `xLcF_is, `xYes, `yName, `yNil, `yCons, `yTup, `put_0, `put_s, `putO_0, `putO_s, `xVar_0, `xVar_s, `opAdd_int, `opAdd_str, `opAdd_lst, `opAdd_tup, `opSub_int, `opMul_int, `opMul_lst, `opMul_str, `opFdiv_int, `opMod_int, `opPow_int, `opNeg_int, `opLt_int, `opLe_int, `opGt_int, `opGe_int, `opIx_lst, `opIx_tup, `opIx_str, `opSl_lst, `opSl_tup, `opSl_str, `opEq, `opNe, `opIs, `opIsNot, `isN_non, `isN_bl, `isN_int, `isN_str, `isN_lst, `isN_tup, `isN_obj, `dat_non, `dat_bl, `dat_int, `dat_str, `dat_lst, `dat_tup, `datL_nil, `datL_cons, `dep_non, `dep_bl, `dep_int, `dep_str, `dep_lst, `dep_tup, `depL_nil, `depL_cons, `tru_non, `tru_bl, `tru_int, `tru_str, `tru_lst, `tru_tup, `asB_bl, `asI_int, `asL_lst, `asLT_lst, `asLT_tup, `fLen_lst, `fLen_tup, `fLen_str, `fInt_int, `fInt_bl, `fAbs_int, `fMin2_int, `fMax2_int, `fSum_lst, `fAny_lst, `fAll_lst, `fTuple_lst, `fTuple_tup, `py_non, `py_bl, `py_int, `py_str, `py_lst, `py_tup, `pyL_nil, `pyL_cons, `eqv_self, `eqvAll_self, `eqvAll_ints, `eqv_nn, `eqv_bb, `eqv_ii, `eqv_ss, `eqv_ll, `eqv_tt, `eqv_lt, `eqv_tl, `eqv_nb, `eqv_bn, `eqv_ni, `eqv_in, `eqv_ns, `eqv_sn, `eqv_nl, `eqv_ln, `eqvAll_nn, `eqvAll_nc, `eqvAll_cn, `eqvAll_cc, `Bool.and_true, `Bool.true_and, `Bool.and_false, `Bool.false_and, `Bool.or_true, `Bool.true_or, `Bool.or_false, `Bool.false_or, `Bool.not_true, `Bool.not_false, `bne_self_eq_false, `beq_self_eq_true, `Bool.beq_eq_decide_eq, `List.map_cons, `List.map_nil, `List.length_cons, `List.length_nil, `List.length_append, `List.length_map, `Nat.reduceAdd, `Nat.reduceSub, `repN_0, `repN_s, `List.cons_append, `List.nil_append, `List.append_nil, `List.set_cons_zero, `List.set_cons_succ, `List.all_cons, `List.all_nil, `Option.some.injEq, `DV.own.injEq, `DV.val.injEq, `D.int.injEq, `D.bl.injEq, `D.lst.injEq, `D.tup.injEq, `D.str.injEq, `List.cons.injEq, `exists_eq_left', `exists_eq_left, `exists_eq_right, `exists_eq_right', `decide_eq_true_eq, `decide_eq_false_iff_not, `reduceCtorEq, `true_implies, `false_implies, `implies_true, `forall_const, `eq_self, `and_true, `true_and, `and_self, `if_true, `if_false, `decide_true, `decide_false, `Bool.false_eq_true, `ite_true, `ite_false, `goodl_lst, `goodl_tup, `good_non, `good_bl, `good_int, `good_str, `goodL_nil, `goodL_cons, `sizeLine_eq, `Nat.reduceLeDiff, `Nat.reduceLT, `isi_non_int, `isi_non_bool, `isi_non_str, `isi_non_list, `isi_non_tuple, `isi_non_lt, `isi_bl_int, `isi_bl_bool, `isi_bl_str, `isi_bl_list, `isi_bl_tuple, `isi_bl_lt, `isi_int_int, `isi_int_bool, `isi_int_str, `isi_int_list, `isi_int_tuple, `isi_int_lt, `isi_str_int, `isi_str_bool, `isi_str_str, `isi_str_list, `isi_str_tuple, `isi_str_lt, `isi_lst_int, `isi_lst_bool, `isi_lst_str, `isi_lst_list, `isi_lst_tuple, `isi_lst_lt, `isi_tup_int, `isi_tup_bool, `isi_tup_str, `isi_tup_list, `isi_tup_tuple, `isi_tup_lt, `Nat.max_self, `Bool.not_eq_true', `Bool.not_eq_false', `Bool.or_eq_true, `Bool.and_eq_true]
local macro_rules | `(tactic| walk_at "dl") => do let xs ← dgN1.mapM fun n => `(Lean.Parser.Tactic.simpLemma| $(Lean.mkIdent n):term); `(tactic| simp only [$xs,*, List.getElem?_cons_zero, List.getElem?_cons_succ])
def spBag (K : PySem.W.Frag) : Sp := fun vs H Q _ => ∃ (a : Addr) (ns : List Int), vs = [.ref a] ∧ SqL K H a (ns.map V.int) ∧ ns.length ≤ 63 ∧
  ∀ (b ca : Addr) (H' : Hp) (st : Int), b ≠ ca → Same H H' → H' b = some (.lst [.ref ca, .int 0, .int 0, .int st, .int 0]) → H' ca = some (.lst (ns.map V.int)) → 0 ≤ st → st < 2147483549 → Q (.ref b) H'
def n__law_bag : List Str := ["_law_script", "_law_state", "_law_cell"]
theorem sc__law_bag : FnScope n__law_bag ["_law_script"] (defScope s__law_bag) := ⟨rfl, rfl, rfl, by decide +kernel, rfl, by decide +kernel, by decide +kernel⟩
theorem cut63 {ns : List Int} (h : ns.length ≤ 63) : cutV (ns.map V.int) none (some 63) = ns.map V.int := by
  unfold cutV
  rw [HT.sIx_none]
  have e : HT.sIx (ns.map V.int).length (ns.map V.int).length (some 63) = ns.length := by
    have := HT.sIx_nat (ns.map V.int).length (ns.map V.int).length 63
    rw [List.length_map] at this ⊢
    exact this.trans (by omega)
  rw [e, List.drop_zero, Nat.sub_zero]
  have := List.take_length (l := ns.map V.int)
  rw [List.length_map] at this
  exact this
theorem ok__law_bag (D__law_bag : Df K mg "_law_bag" s__law_bag) (m_int : mg "int" = none) : FnOk P w K mg base (L2.CX P w) 1 D__law_bag.f D__law_bag.fd ["_law_script"] (spBag K) := by
  refine FunD.ok D__law_bag.F sc__law_bag (fun vs H Q E h => ?_) (fun cdv A outer s H vs Q E hr h => ?_)
  · obtain ⟨a, ns, rfl, _⟩ := h
    rfl
  · obtain ⟨a, ns, rfl, hS, hlen, k⟩ := h
    refine ⟨_, PSs.nox (pss_cons (ps_set (i := 1) sc__law_bag.nd rfl (.inl rfl) pe_int)
      (pss_cons (ps_for PassesOwn.never rfl (pi_list (pe_slice sl_list (pv 0) po_none (po_some pe_int))) (pg_name (i := 2) sc__law_bag.nd rfl (.inl rfl))
        (pss_one (ps_set (i := 1) sc__law_bag.nd rfl (.inl rfl) (pe_op op_mod (pe_callTy call_int1 (by rfl) m_int PyProof.Rows.boot_int (pa_cons (pe_op op_add (pe_op op_add (pe_op op_mul (pv 1) pe_int) (pe_op op_mod (pe_callTy call_int1 (by rfl) m_int PyProof.Rows.boot_int (pa_cons (pv 2) pa_nil)) pe_int)) pe_int) pa_nil)) pe_int))))
      (pss_one (ps_ret (pe_lst (pa_cons (pe_lc (own := [("_law_cell", 2)]) rfl sc__law_bag.nd (pi_list (pe_slice sl_list (pv 0) po_none (po_some pe_int))) (blkOk_by (own := [("_law_cell", 2)]) (N := n__law_bag) (sc := defScope s__law_bag) (by decide +kernel)) (fun _ _ _ _ _ => pg_name (i := 2) sc__law_bag.nd rfl (.inl rfl)) (fun _ _ _ _ _ => pts_nil)
        (fun _ _ _ _ _ => pe_callTy call_int1 (by rfl) m_int PyProof.Rows.boot_int (pa_cons (pv 2) pa_nil))) (pa_cons pe_int (pa_cons pe_int (pa_cons (pv 1) (pa_cons pe_int pa_nil)))))))))), ?_⟩
    refine ⟨_, rfl, 63, rfl, a, _, rfl, hS, fun p hp => ?_⟩
    rw [cut63 hlen]
    refine ⟨p, rfl, ⟨_, SqL.of upd_same⟩, for_list (K := K) (a := p) (xs := ns.map V.int) (fun i σ H2 => H2 = upd H p (.lst (ns.map V.int)) ∧ ∃ (st : Int) (v : Option V), σ = [some (.ref a), some (.int st), v] ∧ 0 ≤ st ∧ st < 2147483549)
      ⟨rfl, 10001, none, rfl, by decide, by decide⟩ (fun i σ H2 _ ⟨e, _⟩ => by rw [e]; exact SqL.of upd_same) ?_ ?_⟩
    · rintro i x σ H2 hx ⟨rfl, st, v, rfl, h0, h1⟩
      rw [List.getElem?_map] at hx
      obtain ⟨z, hz, rfl⟩ := Option.map_eq_some_iff.mp hx
      refine ⟨_, rfl, st, 50123, rfl, rfl, .inr ⟨by decide, by decide⟩, _, rfl, .inl ⟨z, rfl, ?_⟩⟩
      refine ⟨_, _, rfl, rfl, by show (0 : Int) < 2147483587; decide, _, _, rfl, rfl, _, _, rfl, rfl, .inl ⟨_, rfl, ?_⟩⟩
      refine ⟨_, _, rfl, rfl, by show (0 : Int) < 2147483549; decide, rfl, _, _, rfl, ?_, ?_⟩
      · exact Int.emod_nonneg _ (by decide)
      · exact Int.emod_lt_of_pos _ (by decide)
    · rintro σ H2 ⟨rfl, st, v, rfl, h0, h1⟩
      have s1 : Same H (upd H p (.lst (ns.map V.int))) := fun b o e => by rw [upd_ne (ne_of_none e hp)]; exact e
      refine ⟨_, rfl, 63, rfl, a, _, rfl, s1.seq hS, fun p2 hp2 => ?_⟩
      rw [cut63 hlen]
      refine ⟨p2, rfl, ⟨_, SqL.of upd_same⟩, fun ca hca => ?_⟩
      have n2 : ca ≠ p2 := fun z => by
        subst z
        rw [upd_same] at hca
        cases hca
      refine lc_list (K := K) (a := p2) (xs := ns.map V.int) (fun i H3 => Same (upd (upd H p (.lst (ns.map V.int))) p2 (.lst (ns.map V.int))) H3 ∧ H3 ca = some (.lst ((ns.take i).map V.int))) ⟨fun b o e => by
        rw [upd_ne (ne_of_none e hca)]
        exact e, by rw [upd_same]; simp⟩ (fun i H3 _ ⟨sm, _⟩ => SqL.of (sm _ _ upd_same)) ?_ ?_
      · rintro i x H3 hx ⟨sm, e3⟩
        rw [List.getElem?_map] at hx
        obtain ⟨z, hz, rfl⟩ := Option.map_eq_some_iff.mp hx
        have hi := (List.getElem?_eq_some_iff.mp hz).1
        refine ⟨rfl, ?_⟩
        simp only [tYes, if_true]
        refine ⟨_, rfl, .inl ⟨z, rfl, _, e3, ?_, ?_, ?_⟩⟩
        · rw [List.length_map, List.length_take]
          exact Nat.lt_of_le_of_lt (Nat.min_le_right _ _) (Nat.lt_of_le_of_lt hlen (by decide))
        · intro b o e
          have nb : b ≠ ca := ne_of_none e hca
          rw [upd_ne nb]
          exact sm b o e
        · rw [upd_same, List.take_succ, hz]
          simp
      · rintro H3 ⟨sm, e3⟩
        rw [List.length_map, List.take_length] at e3
        refine ⟨_, rfl, by show 5 ≤ sizeLine; decide, fun b hb => ?_⟩
        have nb : b ≠ ca := fun z => by
          subst z
          rw [e3] at hb
          cases hb
        refine k b ca _ st nb (fun c o e => ?_) upd_same (by rw [upd_ne nb.symm]; exact e3) h0 h1
        have h2 := s1 c o e
        have h3 : upd (upd H p (.lst (ns.map V.int))) p2 (.lst (ns.map V.int)) c = some o := by rw [upd_ne (ne_of_none h2 hp2)]; exact h2
        have h4 := sm c o h3
        rw [upd_ne (ne_of_none h4 hb)]
        exact h4
def F__law_pull : Spec
  | [.bag, .int n], R, _ => 0 < n ∧ n.natAbs.log2 < 9000 ∧ ∀ r : Int, 0 ≤ r → r < n → R (.int r)
  | _, _, _ => False
theorem F__law_pull_is {n : Int} {R : D → Prop} {Rx : Er → Prop} : F__law_pull [.bag, .int n] R Rx = (0 < n ∧ n.natAbs.log2 < 9000 ∧ ∀ r : Int, 0 ≤ r → r < n → R (.int r)) := rfl
theorem F__law_pull_of {ds : List D} {R : D → Prop} {Rx : Er → Prop} (h : F__law_pull ds R Rx) : ∃ n : Int, ds = [.bag, .int n] ∧ 0 < n ∧ n.natAbs.log2 < 9000 ∧ ∀ r : Int, 0 ≤ r → r < n → R (.int r) := by
  unfold F__law_pull at h
  split at h
  · exact ⟨_, rfl, h⟩
  · exact h.elim
def n__law_pull : List Str := ["_law_bag_here", "_law_many", "_law_cell", "_law_digit", "_law_state"]
theorem sc__law_pull : FnScope n__law_pull ["_law_bag_here", "_law_many"] (defScope s__law_pull) := ⟨rfl, rfl, rfl, by decide +kernel, rfl, by decide +kernel, by decide +kernel⟩
def bagL (ca : Addr) (i g st n : Int) : HO := .lst [.ref ca, .int i, .int g, .int st, .int n]
theorem ok__law_pull (D__law_pull : Df K mg "_law_pull" s__law_pull) (m_int : mg "int" = none) (m_len : mg "len" = none) : FnOk P w K mg base (L2.CX P w) 1 D__law_pull.f D__law_pull.fd ["_law_bag_here", "_law_many"] (spD F__law_pull) := by
  refine FunD.ok D__law_pull.F sc__law_pull (fun vs H Q E ⟨c, S, ds, R, Rx, _, _, _, l, h, _⟩ => ?_) (fun cdv A outer s H vs Q E hr hsp => ?_)
  · obtain ⟨n, rfl, _⟩ := F__law_pull_of h
    exact l.length
  obtain ⟨c, S, ds, R, Rx, h0, hs0, kf, l, h, q, _⟩ := hsp
  obtain ⟨n, rfl, hn, hn9, hR⟩ := F__law_pull_of h
  obtain ⟨v1, v2, rfl, r1, r2⟩ := rep2 l
  obtain ⟨b, eB, rfl⟩ := r1
  cases (show v2 = .int n from r2)
  obtain ⟨⟨nb, cs, i0, g0, st0, cnt0, eb, eca, i0n, g0n, st0n, st0l⟩, hb0⟩ := kf.bag b eB
  have hca : H c.C = some (.lst (cs.map V.int)) := kf.sub _ _ eca
  have nca : c.C ≠ b := fun z => by subst z; rw [nb] at eca; cases eca
  -- the end: any result, any right bag
  have fin : ∀ (r : Int) (i g st cnt : Int), 0 ≤ r → r < n → 0 ≤ i → 0 ≤ g → 0 ≤ st → st < 2147483549 → Q (.int r) (upd H b (bagL c.C i g st cnt)) := fun r i g st cnt h1 h2 h3 h4 h5 h6 => by
    refine q _ _ S (.int r) ⟨fun a o e => ?_, kf.s0, fun a o e ne => ?_, kf.new, fun b' e => ?_, ⟨kf.tab.1.lst eb, kf.tab.2⟩⟩ rfl (hR r h1 h2)
    · rw [upd_ne (fun z => by subst z; rw [nb] at e; cases e)]
      exact kf.sub a o e
    · rw [upd_ne (fun z => ne (.inl (by rw [z]; exact eB)))]
      exact kf.old a o e ne
    · rw [eB] at e
      cases e
      exact ⟨⟨nb, cs, i, g, st, cnt, upd_same, eca, h3, h4, h5, h6⟩, hb0⟩
  have hl : ∀ (o : HO), (upd H b o) c.C = some (.lst (cs.map V.int)) := fun o => by rw [upd_ne nca]; exact hca
  -- behind the first if
  obtain ⟨t2, p2, h2⟩ : ∃ t2, PSs (cxOf (L2.CX P w) P w K mg base n__law_pull "_law_pull" (defScope s__law_pull) D__law_pull.f cdv A outer s H E).nox ((defBody s__law_pull).drop 2) t2 ∧
      ∀ (v : Option V) (i g st cnt : Int), 0 ≤ i → 0 ≤ g → 0 ≤ st → st < 2147483549 → t2 { nx := fun _ H' => Q .non H', rt := Q } [some (.ref b), some (.int n), v, none, none] (upd H b (bagL c.C i g st cnt)) := by
    refine ⟨_, pss_cons (ps_if (pt_cmpR op_gt (pe_ix ix_list (pv 0) pe_int (fun _ _ => rfl)) pe_int (nomark _))
        (pss_cons (ps_set (i := 3) sc__law_pull.nd rfl (.inl rfl) (pe_op op_mod (pe_callTy call_int1 (by rfl) m_int PyProof.Rows.boot_int (pa_cons (pe_ix ix_list (pv 0) pe_int (fun _ _ => rfl)) pa_nil)) (pv 1)))
        (pss_cons (ps_asg (pe_op op_fdivW (pe_callTy call_int1 (by rfl) m_int PyProof.Rows.boot_int (pa_cons (pe_ix ix_list (pv 0) pe_int (fun _ _ => rfl)) pa_nil)) (pv 1)) (pg_sub (pv 0) pe_int set_list))
        (pss_one (ps_ret (pv 3))))) pss_nil)
      (pss_cons (ps_set (i := 4) sc__law_pull.nd rfl (.inl rfl) (pe_ix ix_list (pv 0) pe_int (fun _ _ => rfl)))
      (pss_cons (ps_asg (pe_op op_mod (pe_callTy call_int1 (by rfl) m_int PyProof.Rows.boot_int (pa_cons (pe_op op_add (pe_op op_add (pe_op op_add (pe_op op_pow (pv 4) pe_int) (pe_op op_mul (pv 4) pe_int)) (pe_op op_mul (pe_ix ix_list (pv 0) pe_int (fun _ _ => rfl)) pe_int)) pe_int) pa_nil)) pe_int) (pg_sub (pv 0) pe_int set_list))
      (pss_one (ps_ret (pe_op op_mod (pe_callTy call_int1 (by rfl) m_int PyProof.Rows.boot_int (pa_cons (pe_op op_add (pe_op op_fdiv (pe_ix ix_list (pv 0) pe_int (fun _ _ => rfl)) pe_int) (pe_op op_mul (pe_op op_mod (pe_callTy call_int1 (by rfl) m_int PyProof.Rows.boot_int (pa_cons (pe_ix ix_list (pv 0) pe_int (fun _ _ => rfl)) pa_nil)) pe_int) pe_int)) pa_nil)) (pv 1)))))), fun v i g st cnt hi hg hst hst2 => ?_⟩
    refine ⟨_, rfl, b, _, 2, .int g, rfl, rfl, SqL.of upd_same, rfl, g, 0, rfl, rfl, _, rfl, ?_⟩
    by_cases hgp : 0 < g
    · rw [decide_eq_true hgp]
      refine iteT ?_
      refine ⟨_, rfl, b, _, 2, .int g, rfl, rfl, SqL.of upd_same, rfl, .inl ⟨g, rfl, ?_⟩⟩
      refine ⟨_, rfl, g, n, rfl, rfl, hn, ?_⟩
      refine ⟨_, rfl, b, _, 2, .int g, rfl, rfl, SqL.of upd_same, rfl, .inl ⟨g, rfl, ?_⟩⟩
      refine ⟨_, rfl, g, n, rfl, rfl, ⟨hn, hn9⟩, ?_⟩
      refine ⟨_, rfl, b, _, 2, 2, rfl, rfl, upd_same, rfl, ?_⟩
      refine ⟨_, rfl, ?_⟩
      rw [upd_upd]
      exact fin (g % n) i (g / n) st cnt (Int.emod_nonneg _ (by omega)) (Int.emod_lt_of_pos _ hn) hi (Int.ediv_nonneg hg (by omega)) hst hst2
    · rw [decide_eq_false hgp]
      refine iteF ?_
      refine ⟨_, rfl, b, _, 3, .int st, rfl, rfl, SqL.of upd_same, rfl, ?_⟩
      refine ⟨_, rfl, st, 3, rfl, rfl, ⟨by decide, by decide, by omega⟩, ?_⟩
      refine ⟨_, rfl, st, 40427, rfl, rfl, .inr ⟨by decide, by decide⟩, ?_⟩
      refine ⟨_, _, rfl, rfl, ?_⟩
      refine ⟨_, rfl, b, _, 4, .int cnt, rfl, rfl, SqL.of upd_same, rfl, ?_⟩
      refine ⟨cnt, 1299709, rfl, rfl, .inr ⟨by decide, by decide⟩, ?_⟩
      refine ⟨_, _, rfl, rfl, ?_⟩
      refine ⟨_, _, rfl, rfl, .inl ⟨_, rfl, ?_⟩⟩
      refine ⟨_, _, rfl, rfl, by show (0 : Int) < 2147483549; decide, ?_⟩
      refine ⟨_, rfl, b, _, 3, 3, rfl, rfl, upd_same, rfl, ?_⟩
      rw [upd_upd]
      refine ⟨_, rfl, b, _, 3, _, rfl, rfl, SqL.of upd_same, rfl, ?_⟩
      refine ⟨_, 83, rfl, rfl, ⟨by decide, by decide⟩, ?_⟩
      refine ⟨_, rfl, b, _, 3, _, rfl, rfl, SqL.of upd_same, rfl, .inl ⟨_, rfl, ?_⟩⟩
      refine ⟨_, 7901, rfl, rfl, by show (0 : Int) < 7901; decide, ?_⟩
      refine ⟨_, 67, rfl, rfl, .inr ⟨by decide, by decide⟩, ?_⟩
      refine ⟨_, _, rfl, rfl, .inl ⟨_, rfl, ?_⟩⟩
      refine ⟨_, rfl, _, n, rfl, rfl, hn, ?_⟩
      exact fin _ i g _ cnt (Int.emod_nonneg _ (by omega)) (Int.emod_lt_of_pos _ hn) hi hg (Int.emod_nonneg _ (by decide)) (Int.emod_lt_of_pos _ (by decide))
  refine ⟨_, PSs.nox (pss_cons (ps_asg (pe_op op_add (pe_ix ix_list (pv 0) pe_int (fun _ _ => rfl)) pe_int) (pg_sub (pv 0) pe_int set_list))
    (pss_cons (ps_if (PW.pt (pw_and (pt_cmpR op_eq (pe_ix ix_list (pv 0) pe_int (fun _ _ => rfl)) pe_int (nomark _)) (pw_and1 (pt_cmpR op_lt (pe_ix ix_list (pv 0) pe_int (fun _ _ => rfl)) (pe_callB call_len (by rfl) m_len boot_len (pa_cons (pe_ix ix_list (pv 0) pe_int (fun _ _ => rfl)) pa_nil)) (nomark _)))))
      (pss_cons (ps_set (i := 2) sc__law_pull.nd rfl (.inl rfl) (pe_ix ix_list (pe_ix ix_list (pv 0) pe_int (fun _ _ => rfl)) (pe_ix ix_list (pv 0) pe_int (fun _ _ => rfl)) (fun _ _ => rfl)))
      (pss_cons (ps_asg (pe_op op_add (pe_ix ix_list (pv 0) pe_int (fun _ _ => rfl)) pe_int) (pg_sub (pv 0) pe_int set_list))
      (pss_cons (ps_if (pt_cmpR op_ge (pv 2) (pe_op op_pow pe_int pe_int) (nomark _)) (pss_one (ps_asg (pv 2) (pg_sub (pv 0) pe_int set_list))) pss_nil)
      (pss_one (ps_asg (pe_op op_mod (pe_callTy call_int1 (by rfl) m_int PyProof.Rows.boot_int (pa_cons (pe_op op_add (pe_op op_add (pe_op op_mul (pe_ix ix_list (pv 0) pe_int (fun _ _ => rfl)) pe_int) (pe_op op_mul (pe_op op_mod (pe_callTy call_int1 (by rfl) m_int PyProof.Rows.boot_int (pa_cons (pv 2) pa_nil)) pe_int) pe_int)) pe_int) pa_nil)) pe_int) (pg_sub (pv 0) pe_int set_list)))))) pss_nil) p2)), ?_⟩
  refine ⟨_, rfl, b, _, 4, .int cnt0, rfl, rfl, SqL.of eb, rfl, cnt0, 1, rfl, rfl, ?_⟩
  refine ⟨_, rfl, b, _, 4, 4, rfl, rfl, eb, rfl, ?_⟩
  refine ⟨_, rfl, b, _, 2, .int g0, rfl, rfl, SqL.of upd_same, rfl, rfl, _, rfl, ?_⟩
  by_cases hg0 : g0 = 0
  · subst hg0
    rw [show decide (V.int 0 = V.int 0) = true from decide_eq_true rfl]
    refine iteT ?_
    refine ⟨_, rfl, b, _, 1, .int i0, rfl, rfl, SqL.of upd_same, rfl, ?_⟩
    refine ⟨_, rfl, b, _, 0, .ref c.C, rfl, rfl, SqL.of upd_same, rfl, ?_⟩
    refine ⟨_, (cs.map V.int).length, rfl, .inl ⟨_, SqL.of (hl _), rfl⟩, ?_⟩
    refine ⟨_, _, rfl, rfl, _, rfl, ?_⟩
    by_cases hlt : i0 < ((cs.map V.int).length : Nat)
    · rw [decide_eq_true hlt]
      refine iteT ?_
      obtain ⟨z, eat⟩ : ∃ z, atI (cs.map V.int) i0 = some (.int z) := by
        obtain ⟨kk, ek⟩ : ∃ kk : Nat, i0 = (kk : Int) := ⟨i0.toNat, by omega⟩
        subst ek
        have hin : kk < cs.length := by rw [List.length_map] at hlt; omega
        exact ⟨cs[kk], atI_nat (by rw [List.getElem?_map]; simp [hin])⟩
      refine ⟨_, rfl, b, _, 0, .ref c.C, rfl, rfl, SqL.of upd_same, rfl, ?_⟩
      refine ⟨_, rfl, b, _, 1, .int i0, rfl, rfl, SqL.of upd_same, rfl, ?_⟩
      refine ⟨c.C, _, i0, .int z, rfl, rfl, SqL.of (hl _), eat, ?_⟩
      refine ⟨_, rfl, b, _, 1, .int i0, rfl, rfl, SqL.of upd_same, rfl, i0, 1, rfl, rfl, ?_⟩
      refine ⟨_, rfl, b, _, 1, 1, rfl, rfl, upd_same, rfl, ?_⟩
      rw [upd_upd]
      refine ⟨_, rfl, 10, 18, rfl, rfl, ⟨by decide, by decide, by decide⟩, ?_⟩
      refine ⟨z, _, rfl, rfl, _, rfl, ?_⟩
      by_cases hz : (10 : Int) ^ (18 : Int).toNat ≤ z
      · rw [decide_eq_true hz]
        refine iteT ?_
        refine ⟨_, rfl, _, rfl, b, _, 2, 2, rfl, rfl, upd_same, rfl, ?_⟩
        rw [upd_upd]
        have zp : 0 ≤ z := by
          have : (0 : Int) ≤ (10 : Int) ^ (18 : Int).toNat := by decide
          omega
        refine ⟨_, rfl, b, _, 3, .int st0, rfl, rfl, SqL.of upd_same, rfl, ?_⟩
        refine ⟨st0, 39989, rfl, rfl, .inr ⟨by decide, by decide⟩, ?_⟩
        refine ⟨_, rfl, .inl ⟨z, rfl, ?_⟩⟩
        refine ⟨z, 2147483489, rfl, rfl, by show (0 : Int) < 2147483489; decide, ?_⟩
        refine ⟨_, 40787, rfl, rfl, .inr ⟨by decide, by decide⟩, ?_⟩
        refine ⟨_, _, rfl, rfl, ?_⟩
        refine ⟨_, _, rfl, rfl, .inl ⟨_, rfl, ?_⟩⟩
        refine ⟨_, _, rfl, rfl, by show (0 : Int) < 2147483549; decide, ?_⟩
        refine ⟨_, rfl, b, _, 3, 3, rfl, rfl, upd_same, rfl, ?_⟩
        rw [upd_upd]
        exact h2 _ (i0 + 1) z _ (cnt0 + 1) (by omega) zp (Int.emod_nonneg _ (by decide)) (Int.emod_lt_of_pos _ (by decide))
      · rw [decide_eq_false hz]
        refine iteF ?_
        refine ⟨_, rfl, b, _, 3, .int st0, rfl, rfl, SqL.of upd_same, rfl, ?_⟩
        refine ⟨st0, 39989, rfl, rfl, .inr ⟨by decide, by decide⟩, ?_⟩
        refine ⟨_, rfl, .inl ⟨z, rfl, ?_⟩⟩
        refine ⟨z, 2147483489, rfl, rfl, by show (0 : Int) < 2147483489; decide, ?_⟩
        refine ⟨_, 40787, rfl, rfl, .inr ⟨by decide, by decide⟩, ?_⟩
        refine ⟨_, _, rfl, rfl, ?_⟩
        refine ⟨_, _, rfl, rfl, .inl ⟨_, rfl, ?_⟩⟩
        refine ⟨_, _, rfl, rfl, by show (0 : Int) < 2147483549; decide, ?_⟩
        refine ⟨_, rfl, b, _, 3, 3, rfl, rfl, upd_same, rfl, ?_⟩
        rw [upd_upd]
        exact h2 _ (i0 + 1) 0 _ (cnt0 + 1) (by omega) (by decide) (Int.emod_nonneg _ (by decide)) (Int.emod_lt_of_pos _ (by decide))
    · rw [decide_eq_false hlt]
      refine iteF ?_
      exact h2 none i0 0 st0 (cnt0 + 1) i0n (by decide) st0n st0l
  · rw [show decide (V.int g0 = V.int 0) = false from decide_eq_false (fun z => hg0 (V.int.inj z))]
    refine iteF (iteF ?_)
    exact h2 none i0 g0 st0 (cnt0 + 1) i0n g0n st0n st0l
theorem log_lt {n : Int} {k : Nat} (h : n.natAbs < 2 ^ k) (hk : k ≤ 9000) (k0 : 0 < k) : n.natAbs.log2 < 9000 := by
  by_cases z : n.natAbs = 0
  · rw [z]; decide
  · exact Nat.lt_of_lt_of_le ((Nat.log2_lt z).mpr h) hk
def b__law_pull (Dx : Df K mg "_law_pull" s__law_pull) : Binds K Dx.fd ["_law_bag_here", "_law_many"] [] := Dx.F.bindsN fun _ _ _ _ _ _ us hl => match us, hl with | [_, _], _ => rfl
theorem fn_false {x : Str} {st : Stmt} {F : Spec} {ps : List Str} (D0 : Df K mg x st) (h : ∀ ds R Rx, ¬ F ds R Rx) : FnOk P w K mg base (L2.CX P w) 0 D0.f D0.fd ps (spD F) :=
  ⟨fun vs H Q E ⟨_, _, ds, R, Rx, _, _, _, _, z, _⟩ => (h ds R Rx z).elim, fun A outer s H args us vs Q E _ _ _ _ ⟨_, _, ds, R, Rx, _, _, _, _, z, _⟩ => (h ds R Rx z).elim⟩
def F__law_same (n : Nat) : Spec
  | [x, y], R, _ => x = y ∧ Good n x ∧ R (.bl true)
  | _, _, _ => False
theorem F__law_same_is {n : Nat} {x y : D} {R : D → Prop} {Rx : Er → Prop} : F__law_same n [x, y] R Rx = (x = y ∧ Good n x ∧ R (.bl true)) := rfl
theorem F__law_same_of {n : Nat} {ds : List D} {R : D → Prop} {Rx : Er → Prop} (h : F__law_same n ds R Rx) : ∃ x, ds = [x, x] ∧ Good n x ∧ R (.bl true) := by
  unfold F__law_same at h
  split at h
  · obtain ⟨rfl, h⟩ := h
    exact ⟨_, rfl, h⟩
  · exact h.elim
theorem pairs_self {xs : List D} {i : Nat} {d : D} (h : (pairs xs xs)[i]? = some d) : ∃ x, x ∈ xs ∧ d = .tup [x, x] := by
  obtain ⟨a, b, e1, e2, e3⟩ := pairs_get _ _ _ _ h
  rw [e1] at e2
  cases e2
  exact ⟨a, List.mem_of_getElem? e1, e3⟩
theorem trues (xs : List D) : asBls (xs.map fun _ => D.bl true) = some (xs.map fun _ => true) := by
  have := asBls_map (xs.map fun _ => true)
  rw [List.map_map] at this
  exact this
theorem trues_all (xs : List D) : (xs.map fun _ => true).all _root_.id = true := by
  induction xs with
  | nil => rfl
  | cons x xs ih => exact ih
def b__law_same (Dx : Df K mg "_law_same" s__law_same) : Binds K Dx.fd ["_law_found", "_law_due"] [] := Dx.F.bindsN fun _ _ _ _ _ _ us hl => match us, hl with | [_, _], _ => rfl
def n__law_same : List Str := ["_law_found", "_law_due", "_law_one", "_law_two"]
theorem sc__law_same : FnScope n__law_same ["_law_found", "_law_due"] (defScope s__law_same) := ⟨rfl, rfl, rfl, by decide +kernel, rfl, by decide +kernel, by decide +kernel⟩
structure TSame (mg : Str → Option Value) : Prop where
  m_isinstance : mg "isinstance" = none
  m_list : mg "list" = none
  m_tuple : mg "tuple" = none
  m_bool : mg "bool" = none
  m_int : mg "int" = none
  m_str : mg "str" = none
  m_len : mg "len" = none
  m_all : mg "all" = none
  m_zip : mg "zip" = none
theorem ok__law_same (T : TSame mg) (D__law_same : Df K mg "_law_same" s__law_same) : ∀ n : Nat, FnOk P w K mg base (L2.CX P w) n D__law_same.f D__law_same.fd ["_law_found", "_law_due"] (spD (F__law_same n))
  | 0 => fn_false D__law_same fun ds R Rx h => by
    obtain ⟨x, _, z, _⟩ := F__law_same_of h
    cases x <;> exact (show False from z).elim
  | n + 1 => by
    have G__law_same := ok__law_same T D__law_same n
    refine fn_d D__law_same.F sc__law_same (fun ds R Rx h => ?_) (fun cdv A outer s H E hr =>
      have hu := hr.units
      (ds_cons (s_if (dt_tru (d_callB b_isi T.m_isinstance PyProof.Rows.boot_isinstance (da_cons (d_var 1) (da_cons (d_tup (da_cons (d_bty T.m_list PyProof.Rows.boot_list) (da_cons (d_bty T.m_tuple PyProof.Rows.boot_tuple) da_nil))) da_nil)))) (ds_cons (s_if (dt_cmp (c_ne hu) (d_callB b_isi T.m_isinstance PyProof.Rows.boot_isinstance (da_cons (d_var 0) (da_cons (d_bty T.m_list PyProof.Rows.boot_list) da_nil))) (d_callB b_isi T.m_isinstance PyProof.Rows.boot_isinstance (da_cons (d_var 1) (da_cons (d_bty T.m_list PyProof.Rows.boot_list) da_nil))) (nomark _)) (ds_one (s_ret d_bl)) ds_nil)
          (ds_cons (s_if (dt_cmp (c_ne hu) (d_callB b_isi T.m_isinstance PyProof.Rows.boot_isinstance (da_cons (d_var 0) (da_cons (d_bty T.m_tuple PyProof.Rows.boot_tuple) da_nil))) (d_callB b_isi T.m_isinstance PyProof.Rows.boot_isinstance (da_cons (d_var 1) (da_cons (d_bty T.m_tuple PyProof.Rows.boot_tuple) da_nil))) (nomark _)) (ds_one (s_ret d_bl)) ds_nil)
          (ds_one (s_ret (d_and (d_cmp (c_eq hu) (d_callB b_len T.m_len boot_len (da_cons (d_var 0) da_nil)) (d_callB b_len T.m_len boot_len (da_cons (d_var 1) da_nil)) (nomark _)) (d_one (d_callB (b_all rfl) T.m_all PyProof.Rows.boot_all (da_cons (d_ofF (f_lc rfl sc__law_same.nd (i_zip (da_cons (d_var 0) (da_cons (d_var 1) da_nil)) T.m_zip) (blkOk_by (own := [("_law_one", 2), ("_law_two", 3)]) (N := n__law_same) (sc := defScope s__law_same) (by decide +kernel)) (by decide) (fun _ _ _ _ _ => (g_tup (n := 2) rfl (gs_cons (g_name (i := 2) sc__law_same.nd) (gs_cons (g_name (i := 3) sc__law_same.nd) gs_nil)))) (fun _ _ _ _ _ => dts_nil) (fun _ _ _ _ _ => (d_call G__law_same hr D__law_same.g D__law_same.F.kp (b__law_same D__law_same) .nil dfR_nil passL (da_cons (d_var 2) (da_cons (d_var 3) da_nil)))))) da_nil)))))))) ds_nil)
      (ds_cons (s_if (dw_pt (dw_or (dt_cmp c_is (d_var 1) d_non (nomark _)) (dw_or1 (dt_cmp c_is (d_var 0) d_non (nomark _))))) (ds_one (s_ret (d_and (d_cmp c_is (d_var 1) d_non (nomark _)) (d_one (d_cmp c_is (d_var 0) d_non (nomark _)))))) ds_nil)
      (ds_cons (s_if (dt_cmp (c_ne hu) (d_callB b_isi T.m_isinstance PyProof.Rows.boot_isinstance (da_cons (d_var 1) (da_cons (d_bty T.m_bool PyProof.Rows.boot_bool) da_nil))) (d_callB b_isi T.m_isinstance PyProof.Rows.boot_isinstance (da_cons (d_var 0) (da_cons (d_bty T.m_bool PyProof.Rows.boot_bool) da_nil))) (nomark _)) (ds_one (s_ret d_bl)) ds_nil)
      (ds_cons (s_if (dt_cmp (c_ne hu) (d_callB b_isi T.m_isinstance PyProof.Rows.boot_isinstance (da_cons (d_var 1) (da_cons (d_bty T.m_int PyProof.Rows.boot_int) da_nil))) (d_callB b_isi T.m_isinstance PyProof.Rows.boot_isinstance (da_cons (d_var 0) (da_cons (d_bty T.m_int PyProof.Rows.boot_int) da_nil))) (nomark _)) (ds_one (s_ret d_bl)) ds_nil)
      (ds_one (s_ret (d_and (d_cmp (c_eq hu) (d_callB b_isi T.m_isinstance PyProof.Rows.boot_isinstance (da_cons (d_var 1) (da_cons (d_bty T.m_str PyProof.Rows.boot_str) da_nil))) (d_callB b_isi T.m_isinstance PyProof.Rows.boot_isinstance (da_cons (d_var 0) (da_cons (d_bty T.m_str PyProof.Rows.boot_str) da_nil))) (nomark _)) (d_one (d_cmp (c_eq hu) (d_var 0) (d_var 1) (nomark _))))))))))) fun ds R Rx h => ?_
    · obtain ⟨x, rfl, _⟩ := F__law_same_of h
      rfl
    · obtain ⟨x, rfl, hg, hR⟩ := F__law_same_of h
      clear h
      obtain ⟨hd, hn⟩ := good_dat hg
      cases x <;> try exact (Bool.false_ne_true hd).elim
      all_goals
        simp only [n__law_same]
        walk_at "dl"
        try exact hR
      all_goals
        refine LcP.map (fun _ => .bl true) ?_ (fun i d N e hN => ?_) ?_
        · have := hg.1
          rw [pairs_length, sizeLine_eq]
          omega
        · obtain ⟨x, hx, rfl⟩ := pairs_self e
          walk_at "dl"
          exact ⟨rfl, hg.2 x hx, hN⟩
        · exact ⟨_, trues _, by rw [trues_all]; exact hR⟩
def bin : Nat → Nat → Nat
  | _, 0 => 1
  | 0, _ + 1 => 0
  | n + 1, k + 1 => bin n k + bin n (k + 1)
theorem bin_zero (n : Nat) : bin n 0 = 1 := by cases n <;> rfl
theorem bin_gt : ∀ (n k : Nat), n < k → bin n k = 0
  | n, 0, h => absurd h (by omega)
  | 0, k + 1, _ => rfl
  | n + 1, k + 1, h => by rw [bin, bin_gt n k (by omega), bin_gt n (k + 1) (by omega)]
/-- (k + 1) C(n, k + 1) = C(n, k) (n - k) -/
theorem bin_step : ∀ (n k : Nat), (k + 1) * bin n (k + 1) = bin n k * (n - k)
  | 0, 0 => rfl
  | 0, k + 1 => by simp [bin]
  | n + 1, 0 => by
    have h := bin_step n 0
    rw [bin_zero] at h
    have e : bin n 1 = n := by
      have h : (0 + 1) * bin n 1 = 1 * (n - 0) := h
      omega
    rw [bin_zero]
    show (0 + 1) * (bin n 0 + bin n 1) = 1 * (n + 1 - 0)
    rw [bin_zero, e]
    omega
  | n + 1, k + 1 => by
    have h1 := bin_step n k
    have h2 := bin_step n (k + 1)
    by_cases hk : k < n
    · obtain ⟨m, rfl⟩ : ∃ m, n = k + 1 + m := ⟨n - k - 1, by omega⟩
      rw [bin]
      have e1 : k + 1 + m - k = m + 1 := by omega
      have e2 : k + 1 + m - (k + 1) = m := by omega
      have e3 : k + 1 + m + 1 - (k + 1) = m + 1 := by omega
      rw [e1] at h1
      rw [e2] at h2
      rw [e3, Nat.mul_add, h2]
      show (k + 1 + 1) * bin (k + 1 + m) (k + 1) + bin (k + 1 + m) (k + 1) * m = (bin (k + 1 + m) k + bin (k + 1 + m) (k + 1)) * (m + 1)
      generalize bin (k + 1 + m) (k + 1) = b at h1
      rw [Nat.add_mul (bin (k + 1 + m) k), ← h1, Nat.mul_succ b m, Nat.succ_mul (k + 1) b]
      omega
    · by_cases hk2 : k = n
      · subst hk2
        rw [bin_gt (k + 1) (k + 1 + 1) (by omega)]
        have e : k + 1 - (k + 1) = 0 := by omega
        rw [e]
        simp
      · rw [bin_gt (n + 1) (k + 1 + 1) (by omega), bin_gt (n + 1) (k + 1) (by omega)]
        simp
theorem bin_le_pow : ∀ (n k : Nat), bin n k ≤ (n + 1) ^ k
  | n, 0 => by rw [bin_zero]; exact Nat.le_refl _
  | 0, k + 1 => by rw [bin]; exact Nat.zero_le _
  | n + 1, k + 1 => by
    rw [bin]
    have h1 := bin_le_pow n k
    have h2 := bin_le_pow n (k + 1)
    have h3 : (n + 1) ^ k ≤ (n + 1 + 1) ^ k := Nat.pow_le_pow_left (by omega) k
    rw [Nat.pow_succ] at h2 ⊢
    have h4 : (n + 1) ^ k * (n + 1) ≤ (n + 1 + 1) ^ k * (n + 1) := Nat.mul_le_mul_right _ h3
    rw [Nat.mul_succ]
    omega
theorem bin_bits {n i : Nat} (hn : n < 2 ^ 140) (hi : i ≤ 2000) : bin n i < 2 ^ 282001 := by
  have h1 := bin_le_pow n i
  have h2 : (n + 1) ^ i ≤ (2 ^ 141) ^ i := Nat.pow_le_pow_left (by omega) i
  have h3 : (2 ^ 141) ^ i = 2 ^ (141 * i) := (Nat.pow_mul 2 141 i).symm
  have h4 : 2 ^ (141 * i) ≤ 2 ^ 282000 := Nat.pow_le_pow_right (by decide) (by omega)
  have h5 : 2 ^ 282000 < 2 ^ 282001 := Nat.pow_lt_pow_right (by decide) (by decide)
  omega
def chs (n k : Int) : Int := if n < k then 0 else ((bin n.toNat k.toNat : Nat) : Int)
theorem chs_nat (a b : Nat) : chs (a : Int) (b : Int) = ((bin a b : Nat) : Int) := by
  unfold chs
  split
  · rw [bin_gt a b (by omega)]
    rfl
  · rw [Int.toNat_natCast, Int.toNat_natCast]
def isNum : D → Int → Int → Bool
  | .int i, lo, hi => decide (lo ≤ i) && decide (i ≤ hi)
  | _, _, _ => false
def F_is_number : Spec
  | [x, .int lo, .int hi], R, _ => x.dat = true ∧ R (.bl (isNum x lo hi))
  | _, _, _ => False
theorem F_is_number_is {x : D} {lo hi : Int} {R : D → Prop} {Rx : Er → Prop} : F_is_number [x, .int lo, .int hi] R Rx = (x.dat = true ∧ R (.bl (isNum x lo hi))) := rfl
theorem F_is_number_of {ds : List D} {R : D → Prop} {Rx : Er → Prop} (h : F_is_number ds R Rx) : ∃ x lo hi, ds = [x, .int lo, .int hi] ∧ x.dat = true ∧ R (.bl (isNum x lo hi)) := by
  unfold F_is_number at h
  split at h
  · exact ⟨_, _, _, rfl, h⟩
  · exact h.elim
def b_is_number (Dx : Df K mg "is_number" s_is_number) : Binds K Dx.fd ["value", "least", "most"] [] := Dx.F.bindsN fun _ _ _ _ _ _ us hl => match us, hl with | [_, _, _], _ => rfl
def n_is_number : List Str := ["value", "least", "most"]
theorem sc_is_number : FnScope n_is_number ["value", "least", "most"] (defScope s_is_number) := ⟨rfl, rfl, rfl, by decide +kernel, rfl, by decide +kernel, by decide +kernel⟩
theorem ok_is_number (D_is_number : Df K mg "is_number" s_is_number) (m_isinstance : mg "isinstance" = none) (m_int : mg "int" = none) (m_bool : mg "bool" = none) : FnOk P w K mg base (L2.CX P w) 1 D_is_number.f D_is_number.fd ["value", "least", "most"] (spD F_is_number) := by
  refine fn_d D_is_number.F sc_is_number (fun ds R Rx h => ?_) (fun cdv A outer s H E hr =>
    (ds_one (s_ret (d_and (d_callB b_isi m_isinstance PyProof.Rows.boot_isinstance (da_cons (d_var 0) (da_cons (d_bty m_int PyProof.Rows.boot_int) da_nil))) (d_and (d_not (d_callB b_isi m_isinstance PyProof.Rows.boot_isinstance (da_cons (d_var 0) (da_cons (d_bty m_bool PyProof.Rows.boot_bool) da_nil)))) (d_one (d_chain c_le c_le (d_var 1) (d_var 0) (d_var 2)))))))) fun ds R Rx h => ?_
  · obtain ⟨x, lo, hi, rfl, _⟩ := F_is_number_of h
    rfl
  · obtain ⟨x, lo, hi, rfl, hd, hR⟩ := F_is_number_of h
    clear h
    simp only [n_is_number]
    cases x <;> try exact (Bool.false_ne_true hd).elim
    all_goals
      simp only [isNum] at hR
      walk_at "dl"
      try exact hR
    rename_i i
    refine ⟨fun z => ?_, fun z => ?_⟩
    · rw [decide_eq_true z, Bool.true_and] at hR
      exact hR
    · rw [decide_eq_false z, Bool.false_and] at hR
      exact hR
def spLaw (K : PySem.W.Frag) : Sp := fun vs H Q _ => ∃ (a : Addr) (ns : List Int), vs = [.ref a] ∧ SqL K H a (ns.map V.int) ∧ ns.length ≤ 63 ∧ (∀ p ∈ TbC.ts, H p.1 = some (.tbl #[])) ∧ ∀ H', Q (.bl true) H'
def b__law_bag (Dx : Df K mg "_law_bag" s__law_bag) : Binds K Dx.fd ["_law_script"] [] := Dx.F.bindsN fun _ _ _ _ _ _ us hl => match us, hl with | [_], _ => rfl
def lawEn (a : Addr) (n : Nat) : En := some (.val (.adr a)) :: some (.val .bag) :: List.replicate n none
theorem FunD_okC {CX : CXT} {x qual : Str} {params : Arguments} {body : List Stmt} {scope : Scope} {dvs : List V} {kws : List (Str × V)} {f : Addr} {fd : FuncData} {N ps : List Str} {k : Nat} {sp : Sp} (F : FunD K x qual params body scope dvs kws f fd) (S : FnScope N ps scope) (len : ∀ vs H Q E, sp vs H Q E → vs.length = ps.length)
    (hbody : ∀ (A : Around) (outer : List Env) (s : Shared) (H : Hp) (vs : List V) (Q : VK) (E : XK), Room k (A.deeper (PyProof.Rows.envOfC qual scope s.heap.objs.size f fd.code)) → sp vs H Q E →
      ∃ t, PSs (cxOf CX P w K mg base N qual scope f fd.code A outer s H E) body t ∧ t { nx := fun _ H' => Q .non H', rt := Q } (L2.start N vs) H) : FnOk P w K mg base CX (k + 1) f fd ps sp := by
  obtain ⟨oc, od, dV, kV, doc, pm, an, cdv, ct, osl, rfl, lk, hcd, _, _⟩ := F.ex
  exact fn_of lk hcd S len fun A outer s H vs Q E hr hsp => hbody A outer s H vs Q E hr hsp
theorem law_dL {T : List (Str × Addr) → DTS} {N : List Str} {n k : Nat} {rest : List Stmt} {p1 p2 p3 p4 : Pos} {ps : Pos} (D_law : Df K mg "law" s_law) (S : FnScope N ["_law_script"] (defScope s_law)) (hN : N[1]? = some ("_law_bag_here" : Str)) (hN0 : N[0]? = some ("_law_script" : Str)) (hn : N.length = n + 2) (D__law_bag : Df K mg "_law_bag" s__law_bag) (m_int : mg "int" = none)
    (hb : defBody s_law = .Assign [.Name "_law_bag_here" p1] (.Call (.Name "_law_bag" p2) [.Name "_law_script" p3] [] p4) ps :: rest)
    (hx : Loc (defScope s_law) "_law_bag_here") (hg : (defScope s_law).names.lookup ("_law_bag" : Str) = some .globalImplicit) (hv : Vis (defScope s_law) "_law_script")
    (hbody : ∀ (cl : List (Str × Addr)) (A : Around) (outer : List Env) (s : Shared) (H : Hp) (E : XK), Room (k + 1) (A.deeper (PyProof.Rows.envOfC "law" (defScope s_law) s.heap.objs.size D_law.f D_law.fd.code)) → (cxOf (L2.CX P w) P w K mg base N "law" (defScope s_law) D_law.f D_law.fd.code A outer s H E).env.cells = cl → DSs (cxOf (L2.CX P w) P w K mg base N "law" (defScope s_law) D_law.f D_law.fd.code A outer s H E) E rest (T cl))
    (hT : ∀ a cl, T cl { nx := fun _ => False, rt := fun _ d => d = .bl true, ex := noX } (lawEn a n)) : FnOk P w K mg base (L2.CX P w) (k + 2) D_law.f D_law.fd ["_law_script"] (spLaw K) := by
  have G := ok__law_bag (P := P) (w := w) (base := base) D__law_bag m_int
  refine FunD_okC D_law.F S (fun vs H Q E ⟨a, ns, z, _⟩ => by rw [z]; rfl) fun A outer s H vs Q E hr h => ?_
  obtain ⟨a, ns, rfl, hS, hlen, hTb, q⟩ := h
  obtain ⟨t, p, sm⟩ := hbody _ A outer s H E hr rfl
  have hf : (cxOf (L2.CX P w) P w K mg base N "law" (defScope s_law) D_law.f D_law.fd.code A outer s H E).fn ("_law_bag_here" : Str) = true := rfl
  rw [hb]
  refine ⟨_, pss_cons (ps_set (i := 1) S.nd hN hx (pe_call G (hr.mono (by omega)) hg D__law_bag.g D__law_bag.F.kp (b__law_bag D__law_bag) .nil passL (pa_cons (pe_var (i := 0) hN0 hv) pa_nil)) rfl (.inl hf)) p, ?_⟩
  have e0 : (L2.start N [.ref a])[0]? = some (some (V.ref a)) := rfl
  refine ⟨_, e0, a, ns, rfl, hS, hlen, fun b ca H' st nb same eb eca h0 h1 => ?_⟩
  -- from here on only the cells are known to stay
  refine sm ⟨some b, ca, H', fun x => if x = ca then some (.lst (ns.map V.int)) else none⟩ _ H' (fun x => if x = ca then some (.lst (ns.map V.int)) else none) (lawEn a n) { nx := fun _ => False, rt := fun _ d => d = .bl true, ex := noX } xok0 ?_ (hT a _) _
    ⟨fun _ _ _ _ _ _ z => z.elim, fun n v H1 S1 d k1 s1 r1 z => ?_, fun _ _ _ _ _ _ z => z.elim, fun _ _ _ _ _ _ z => z.elim⟩
  · refine ⟨⟨fun x o e => ?_, Same.refl _, fun _ _ e _ => e, fun x e _ => e, fun b' e => ?_, ⟨fun p hp => ⟨LamX.TabS.nil (same _ _ (hTb p hp)), if_neg fun z => by
      have e := same _ _ (hTb p hp)
      rw [z, eca] at e
      cases e⟩, fun p hp => by
      show H' p.1 ≠ none
      rw [same _ _ (hTb p hp)]
      exact fun z => nomatch z⟩⟩, ?_, fun i x e => ?_, fun i j x1 x2 v1 v2 a2 _ e _ _ _ f _ => ?_⟩
    · by_cases z : x = ca
      · subst z
        have e2 : some (HO.lst (ns.map V.int)) = some o := by rw [← e]; exact (if_pos rfl).symm
        rw [eca]
        exact e2
      · have e2 : (none : Option HO) = some o := by rw [← e]; exact (if_neg z).symm
        cases e2
    · cases e
      refine ⟨⟨if_neg nb, ns, 0, 0, st, 0, eb, if_pos rfl, by decide, by decide, h0, h1⟩, ?_⟩
      show H' b ≠ none
      rw [eb]
      exact fun z => nomatch z
    · unfold lawEn L2.start
      simp [hn]
    · match i, e with
      | 0, e =>
        cases e
        refine ⟨.ref a, ?_, rfl⟩
        rw [List.getElem?_set_ne (by decide)]
        exact e0
      | 1, e =>
        cases e
        refine ⟨.ref b, ?_, b, rfl, rfl⟩
        rw [List.getElem?_set_self (by unfold L2.start; simp [hn])]
      | i + 2, e =>
        have e : (List.replicate n (none : Option DV))[i]? = some (some x) := e
        rw [List.getElem?_replicate] at e
        split at e <;> cases e
    · match i, e with
      | 0, e => cases e; exact f
      | 1, e => cases e; exact f
      | i + 2, e =>
        have e : (List.replicate n (none : Option DV))[i]? = some (some x1) := e
        rw [List.getElem?_replicate] at e
        split at e <;> cases e
  · have z : d = .bl true := z
    subst z
    obtain ⟨_, _, _, r2⟩ := r1.old k1
    rw [show v = .bl true from r2]
    exact q H1
structure Tx (mg : Str → Option Value) : Prop where
  m_isinstance : mg "isinstance" = none
  m_int : mg "int" = none
  m_bool : mg "bool" = none
  m_str : mg "str" = none
  m_list : mg "list" = none
  m_tuple : mg "tuple" = none
  m_len : mg "len" = none
  m_range : mg "range" = none
  m_zip : mg "zip" = none
  m_enumerate : mg "enumerate" = none
  m_sum : mg "sum" = none
  m_all : mg "all" = none
  m_set : mg "set" = none
  m_super : mg "super" = none
  c_MOST_TURNS : ∃ t, mg "MOST_TURNS" = some (.int 2000 t)
  c_MOST_TABLE : ∃ t, mg "MOST_TABLE" = some (.int 40 t)
  c_DIGITS : ∃ t, mg "DIGITS" = some (.str "0123" t)
def xf_InvalidHands : FL := [("code", .str "InvalidHands"), ("given", .par 0)]
def n_InvalidHands___init__ : List Str := ["self", "given"]
theorem sc_InvalidHands___init__ : EXS.SScope n_InvalidHands___init__ ["self", "given"] (defScope s_InvalidHands___init__) := ⟨rfl, rfl, rfl, by decide +kernel, rfl, by decide +kernel, by decide +kernel, by decide +kernel, rfl, rfl⟩
theorem ok_InvalidHands___init__ (D : Xe K mg P.main.file "InvalidHands" s_InvalidHands___init__) (hsup : mg "super" = none) (htop : (P.main.scope.names.lookup ("super" : Str)).isSome = false) : FnOk P w K mg base (L2.CX P w) 1 D.f D.fd ["self", "given"] (spX D.C 1 xf_InvalidHands) :=
  fn_x (ar := (defArgs s_InvalidHands___init__).args.getD 0 default) D.F D.e.excD sc_InvalidHands___init__ hsup htop rfl rfl rfl rfl rfl (fun r hr => D.e.na _ (by revert hr; revert r; decide)) (by decide) (by decide) (hcl := fun env => rfl) (fun A outer s H E => (pss_cons (ps_ost (pv 0) pe_str) (pss_cons (ps_ost (pv 0) (pv 1)) pss_nil)))
theorem b_InvalidHands___init__ (D : Xe K mg P.main.file "InvalidHands" s_InvalidHands___init__) : Binds K D.fd ["self", "given"] [] := D.binds fun _ _ _ _ _ _ _ us hl => match us, hl with | [_, _], _ => rfl
theorem w_fk_InvalidHands : fsK xf_InvalidHands = (["given", "code"] : List Str) := rfl
theorem w_fd_InvalidHands {a0 : D} : fsD xf_InvalidHands [a0] = [a0, D.str "InvalidHands"] := rfl
def xf_InvalidTurn : FL := [("code", .str "InvalidTurn"), ("at", .par 0)]
def n_InvalidTurn___init__ : List Str := ["self", "at"]
theorem sc_InvalidTurn___init__ : EXS.SScope n_InvalidTurn___init__ ["self", "at"] (defScope s_InvalidTurn___init__) := ⟨rfl, rfl, rfl, by decide +kernel, rfl, by decide +kernel, by decide +kernel, by decide +kernel, rfl, rfl⟩
theorem ok_InvalidTurn___init__ (D : Xe K mg P.main.file "InvalidTurn" s_InvalidTurn___init__) (hsup : mg "super" = none) (htop : (P.main.scope.names.lookup ("super" : Str)).isSome = false) : FnOk P w K mg base (L2.CX P w) 1 D.f D.fd ["self", "at"] (spX D.C 1 xf_InvalidTurn) :=
  fn_x (ar := (defArgs s_InvalidTurn___init__).args.getD 0 default) D.F D.e.excD sc_InvalidTurn___init__ hsup htop rfl rfl rfl rfl rfl (fun r hr => D.e.na _ (by revert hr; revert r; decide)) (by decide) (by decide) (hcl := fun env => rfl) (fun A outer s H E => (pss_cons (ps_ost (pv 0) pe_str) (pss_cons (ps_ost (pv 0) (pv 1)) pss_nil)))
theorem b_InvalidTurn___init__ (D : Xe K mg P.main.file "InvalidTurn" s_InvalidTurn___init__) : Binds K D.fd ["self", "at"] [] := D.binds fun _ _ _ _ _ _ _ us hl => match us, hl with | [_, _], _ => rfl
theorem w_fk_InvalidTurn : fsK xf_InvalidTurn = (["at", "code"] : List Str) := rfl
theorem w_fd_InvalidTurn {a0 : D} : fsD xf_InvalidTurn [a0] = [a0, D.str "InvalidTurn"] := rfl
def xf_InvalidChange : FL := [("code", .str "InvalidChange"), ("at", .par 0)]
def n_InvalidChange___init__ : List Str := ["self", "at"]
theorem sc_InvalidChange___init__ : EXS.SScope n_InvalidChange___init__ ["self", "at"] (defScope s_InvalidChange___init__) := ⟨rfl, rfl, rfl, by decide +kernel, rfl, by decide +kernel, by decide +kernel, by decide +kernel, rfl, rfl⟩
theorem ok_InvalidChange___init__ (D : Xe K mg P.main.file "InvalidChange" s_InvalidChange___init__) (hsup : mg "super" = none) (htop : (P.main.scope.names.lookup ("super" : Str)).isSome = false) : FnOk P w K mg base (L2.CX P w) 1 D.f D.fd ["self", "at"] (spX D.C 1 xf_InvalidChange) :=
  fn_x (ar := (defArgs s_InvalidChange___init__).args.getD 0 default) D.F D.e.excD sc_InvalidChange___init__ hsup htop rfl rfl rfl rfl rfl (fun r hr => D.e.na _ (by revert hr; revert r; decide)) (by decide) (by decide) (hcl := fun env => rfl) (fun A outer s H E => (pss_cons (ps_ost (pv 0) pe_str) (pss_cons (ps_ost (pv 0) (pv 1)) pss_nil)))
theorem b_InvalidChange___init__ (D : Xe K mg P.main.file "InvalidChange" s_InvalidChange___init__) : Binds K D.fd ["self", "at"] [] := D.binds fun _ _ _ _ _ _ _ us hl => match us, hl with | [_, _], _ => rfl
theorem w_fk_InvalidChange : fsK xf_InvalidChange = (["at", "code"] : List Str) := rfl
theorem w_fd_InvalidChange {a0 : D} : fsD xf_InvalidChange [a0] = [a0, D.str "InvalidChange"] := rfl
def xf_InvalidHand : FL := [("code", .str "InvalidHand"), ("given", .par 0)]
def n_InvalidHand___init__ : List Str := ["self", "given"]
theorem sc_InvalidHand___init__ : EXS.SScope n_InvalidHand___init__ ["self", "given"] (defScope s_InvalidHand___init__) := ⟨rfl, rfl, rfl, by decide +kernel, rfl, by decide +kernel, by decide +kernel, by decide +kernel, rfl, rfl⟩
theorem ok_InvalidHand___init__ (D : Xe K mg P.main.file "InvalidHand" s_InvalidHand___init__) (hsup : mg "super" = none) (htop : (P.main.scope.names.lookup ("super" : Str)).isSome = false) : FnOk P w K mg base (L2.CX P w) 1 D.f D.fd ["self", "given"] (spX D.C 1 xf_InvalidHand) :=
  fn_x (ar := (defArgs s_InvalidHand___init__).args.getD 0 default) D.F D.e.excD sc_InvalidHand___init__ hsup htop rfl rfl rfl rfl rfl (fun r hr => D.e.na _ (by revert hr; revert r; decide)) (by decide) (by decide) (hcl := fun env => rfl) (fun A outer s H E => (pss_cons (ps_ost (pv 0) pe_str) (pss_cons (ps_ost (pv 0) (pv 1)) pss_nil)))
theorem b_InvalidHand___init__ (D : Xe K mg P.main.file "InvalidHand" s_InvalidHand___init__) : Binds K D.fd ["self", "given"] [] := D.binds fun _ _ _ _ _ _ _ us hl => match us, hl with | [_, _], _ => rfl
theorem w_fk_InvalidHand : fsK xf_InvalidHand = (["given", "code"] : List Str) := rfl
theorem w_fd_InvalidHand {a0 : D} : fsD xf_InvalidHand [a0] = [a0, D.str "InvalidHand"] := rfl
def xf_InvalidNumber : FL := [("code", .str "InvalidNumber"), ("given", .par 0)]
def n_InvalidNumber___init__ : List Str := ["self", "given"]
theorem sc_InvalidNumber___init__ : EXS.SScope n_InvalidNumber___init__ ["self", "given"] (defScope s_InvalidNumber___init__) := ⟨rfl, rfl, rfl, by decide +kernel, rfl, by decide +kernel, by decide +kernel, by decide +kernel, rfl, rfl⟩
theorem ok_InvalidNumber___init__ (D : Xe K mg P.main.file "InvalidNumber" s_InvalidNumber___init__) (hsup : mg "super" = none) (htop : (P.main.scope.names.lookup ("super" : Str)).isSome = false) : FnOk P w K mg base (L2.CX P w) 1 D.f D.fd ["self", "given"] (spX D.C 1 xf_InvalidNumber) :=
  fn_x (ar := (defArgs s_InvalidNumber___init__).args.getD 0 default) D.F D.e.excD sc_InvalidNumber___init__ hsup htop rfl rfl rfl rfl rfl (fun r hr => D.e.na _ (by revert hr; revert r; decide)) (by decide) (by decide) (hcl := fun env => rfl) (fun A outer s H E => (pss_cons (ps_ost (pv 0) pe_str) (pss_cons (ps_ost (pv 0) (pv 1)) pss_nil)))
theorem b_InvalidNumber___init__ (D : Xe K mg P.main.file "InvalidNumber" s_InvalidNumber___init__) : Binds K D.fd ["self", "given"] [] := D.binds fun _ _ _ _ _ _ _ us hl => match us, hl with | [_, _], _ => rfl
theorem w_fk_InvalidNumber : fsK xf_InvalidNumber = (["given", "code"] : List Str) := rfl
theorem w_fd_InvalidNumber {a0 : D} : fsD xf_InvalidNumber [a0] = [a0, D.str "InvalidNumber"] := rfl
def xf_InvalidWorths : FL := [("code", .str "InvalidWorths"), ("given", .par 0)]
def n_InvalidWorths___init__ : List Str := ["self", "given"]
theorem sc_InvalidWorths___init__ : EXS.SScope n_InvalidWorths___init__ ["self", "given"] (defScope s_InvalidWorths___init__) := ⟨rfl, rfl, rfl, by decide +kernel, rfl, by decide +kernel, by decide +kernel, by decide +kernel, rfl, rfl⟩
theorem ok_InvalidWorths___init__ (D : Xe K mg P.main.file "InvalidWorths" s_InvalidWorths___init__) (hsup : mg "super" = none) (htop : (P.main.scope.names.lookup ("super" : Str)).isSome = false) : FnOk P w K mg base (L2.CX P w) 1 D.f D.fd ["self", "given"] (spX D.C 1 xf_InvalidWorths) :=
  fn_x (ar := (defArgs s_InvalidWorths___init__).args.getD 0 default) D.F D.e.excD sc_InvalidWorths___init__ hsup htop rfl rfl rfl rfl rfl (fun r hr => D.e.na _ (by revert hr; revert r; decide)) (by decide) (by decide) (hcl := fun env => rfl) (fun A outer s H E => (pss_cons (ps_ost (pv 0) pe_str) (pss_cons (ps_ost (pv 0) (pv 1)) pss_nil)))
theorem b_InvalidWorths___init__ (D : Xe K mg P.main.file "InvalidWorths" s_InvalidWorths___init__) : Binds K D.fd ["self", "given"] [] := D.binds fun _ _ _ _ _ _ _ us hl => match us, hl with | [_, _], _ => rfl
theorem w_fk_InvalidWorths : fsK xf_InvalidWorths = (["given", "code"] : List Str) := rfl
theorem w_fd_InvalidWorths {a0 : D} : fsD xf_InvalidWorths [a0] = [a0, D.str "InvalidWorths"] := rfl
def xf_Unlike : FL := [("code", .str "Unlike")]
def n_Unlike___init__ : List Str := ["self"]
theorem sc_Unlike___init__ : EXS.SScope n_Unlike___init__ ["self"] (defScope s_Unlike___init__) := ⟨rfl, rfl, rfl, by decide +kernel, rfl, by decide +kernel, by decide +kernel, by decide +kernel, rfl, rfl⟩
theorem ok_Unlike___init__ (D : Xe K mg P.main.file "Unlike" s_Unlike___init__) (hsup : mg "super" = none) (htop : (P.main.scope.names.lookup ("super" : Str)).isSome = false) : FnOk P w K mg base (L2.CX P w) 1 D.f D.fd ["self"] (spX D.C 0 xf_Unlike) :=
  fn_x (ar := (defArgs s_Unlike___init__).args.getD 0 default) D.F D.e.excD sc_Unlike___init__ hsup htop rfl rfl rfl rfl rfl (fun r hr => D.e.na _ (by revert hr; revert r; decide)) (by decide) (by decide) (hcl := fun env => rfl) (fun A outer s H E => (pss_cons (ps_ost (pv 0) pe_str) pss_nil))
theorem b_Unlike___init__ (D : Xe K mg P.main.file "Unlike" s_Unlike___init__) : Binds K D.fd ["self"] [] := D.binds fun _ _ _ _ _ _ _ us hl => match us, hl with | [_], _ => rfl
theorem w_fk_Unlike : fsK xf_Unlike = (["code"] : List Str) := rfl
theorem w_fd_Unlike : fsD xf_Unlike [] = [D.str "Unlike"] := rfl
def xf_TooLong : FL := [("code", .str "TooLong"), ("most", .par 0)]
def n_TooLong___init__ : List Str := ["self", "most"]
theorem sc_TooLong___init__ : EXS.SScope n_TooLong___init__ ["self", "most"] (defScope s_TooLong___init__) := ⟨rfl, rfl, rfl, by decide +kernel, rfl, by decide +kernel, by decide +kernel, by decide +kernel, rfl, rfl⟩
theorem ok_TooLong___init__ (D : Xe K mg P.main.file "TooLong" s_TooLong___init__) (hsup : mg "super" = none) (htop : (P.main.scope.names.lookup ("super" : Str)).isSome = false) : FnOk P w K mg base (L2.CX P w) 1 D.f D.fd ["self", "most"] (spX D.C 1 xf_TooLong) :=
  fn_x (ar := (defArgs s_TooLong___init__).args.getD 0 default) D.F D.e.excD sc_TooLong___init__ hsup htop rfl rfl rfl rfl rfl (fun r hr => D.e.na _ (by revert hr; revert r; decide)) (by decide) (by decide) (hcl := fun env => rfl) (fun A outer s H E => (pss_cons (ps_ost (pv 0) pe_str) (pss_cons (ps_ost (pv 0) (pv 1)) pss_nil)))
theorem b_TooLong___init__ (D : Xe K mg P.main.file "TooLong" s_TooLong___init__) : Binds K D.fd ["self", "most"] [] := D.binds fun _ _ _ _ _ _ _ us hl => match us, hl with | [_, _], _ => rfl
theorem w_fk_TooLong : fsK xf_TooLong = (["most", "code"] : List Str) := rfl
theorem w_fd_TooLong {a0 : D} : fsD xf_TooLong [a0] = [a0, D.str "TooLong"] := rfl
structure Kx_Row (K : PySem.W.Frag) (mg : Str → Option Value) where
  C : Addr
  g : mg "Row" = some (.ref C)
  cls : Cls K C
  n_hands : NoAttr K C "hands"
  n_own_turns : NoAttr K C "own_turns"
  D___init__ : Dm K "__init__" "Row.__init__" s_Row___init__
  mkr : Mk K C D___init__.f
  D_turns : Dm K "turns" "Row.turns" s_Row_turns
  h_turns : Meth K C "turns" D_turns.f
  D_places : Dm K "places" "Row.places" s_Row_places
  h_places : Meth K C "places" D_places.f
  D_counts : Dm K "counts" "Row.counts" s_Row_counts
  h_counts : Meth K C "counts" D_counts.f
  D_totals : Dm K "totals" "Row.totals" s_Row_totals
  h_totals : Meth K C "totals" D_totals.f
  D_table : Dm K "table" "Row.table" s_Row_table
  h_table : Meth K C "table" D_table.f
  D_turned : Dm K "turned" "Row.turned" s_Row_turned
  h_turned : Meth K C "turned" D_turned.f
  D_handed : Dm K "handed" "Row.handed" s_Row_handed
  h_handed : Meth K C "handed" D_handed.f
  D_need_like : Dm K "need_like" "Row.need_like" s_Row_need_like
  h_need_like : Meth K C "need_like" D_need_like.f
  D___xor__ : Dm K "__xor__" "Row.__xor__" s_Row___xor__
  o___xor__ : Hx.Own K C "__xor__" D___xor__.f
  D___len__ : Dm K "__len__" "Row.__len__" s_Row___len__
  o___len__ : Hx.Own K C "__len__" D___len__.f
  D_text : Dm K "text" "Row.text" s_Row_text
  q_text : Addr
  p_text : PropOf K C "text" q_text D_text.f
abbrev ksRow : List Str := ["hands", "own_turns"]
abbrev row (C : Addr) (h : Int) (ts : List Int) : D := .obj C ksRow [.int h, .lst (ts.map D.int)]
theorem fld_hands {x y : D} : fld ksRow [x, y] "hands" = some x := rfl
theorem fld_turns {x y : D} : fld ksRow [x, y] "own_turns" = some y := rfl
theorem fld_m_turns {x y : D} : fld ksRow [x, y] "turns" = none := rfl
theorem fld_m_turned {x y : D} : fld ksRow [x, y] "turned" = none := rfl
theorem fld_m_with_turns {x y : D} : fld ksRow [x, y] "with_turns" = none := rfl
theorem fld_m_need_like {x y : D} : fld ksRow [x, y] "need_like" = none := rfl
/-- a row as the law makes it -/
def RowOk (h : Int) (ts : List Int) : Prop := 2 ≤ h ∧ h ≤ 4 ∧ 0 < ts.length ∧ ts.length ≤ 2000 ∧ ∀ t ∈ ts, 0 ≤ t ∧ t < h
def eUn (C : Addr) : Er := ⟨C, ["code"], [.str "Unlike"]⟩
def eTL (C : Addr) : Er := ⟨C, ["most", "code"], [.int 2000, .str "TooLong"]⟩
def eIN (C : Addr) (v : D) : Er := ⟨C, ["given", "code"], [v, .str "InvalidNumber"]⟩
def eIH (C : Addr) (v : D) : Er := ⟨C, ["given", "code"], [v, .str "InvalidHands"]⟩
def eHd (C : Addr) (v : D) : Er := ⟨C, ["given", "code"], [v, .str "InvalidHand"]⟩
def eIT (C : Addr) (i : Int) : Er := ⟨C, ["at", "code"], [.int i, .str "InvalidTurn"]⟩
def eIW (C : Addr) (v : D) : Er := ⟨C, ["given", "code"], [v, .str "InvalidWorths"]⟩
def eIC (C : Addr) (i : Int) : Er := ⟨C, ["at", "code"], [.int i, .str "InvalidChange"]⟩
def dgN2 : Array Lean.Name := dgN1 ++ #[`ups_length, `exists_eq, `exists_eq', `Int.reduceToNat, `Int.reduceLE, `Int.reduceLT, `Int.reducePow, `Int.reduceNeg, `Int.reduceSub, `Int.reduceAdd, `Int.reduceMul, `List.length_range, `Option.map_some, `ne_eq, `not_true_eq_false, `not_false_eq_true, `goodL_ints, `asInts_map, `asInts_nil, `asInts_cons, `exists_and_left, `exists_and_right, `Int.zero_add, `Nat.reducePow, `w_at0, `w_at1, `w_at2, `w_at3, `w_at4, `w_at5, `w_natR, `w_fLenOw, `w_lc2, `w_asStrs, `w_asS, `w_join, `w_find, `w_m1, `w_fStrI, `w_zAugO, `w_thaw_nil, `w_thaw_cons, `w_thaw_own, `w_thaw_val, `w_thaw_none, `w_thaw_tre, `w_lendT, `w_lend, `w_lendN, `w_enumS, `w_zParN, `w_negR, `w_opOwnN, `w_par3, `w_pk, `w_pickE_nil, `w_pickE_cons, `w_xLam, `w_callZ, `w_asA_int, `w_asA_non, `w_asA_bl, `w_asA_str, `w_asA_lst, `w_asA_tup, `w_xOBa, `w_tx_len, `w_tx_size, `w_tx_cps, `w_tx_app, `w_tx_eq, `w_tx_beq, `w_tx_mul, `w_tx_signs, `w_tx_emp, `w_tx_one, `w_callM, `w_fFmtS, `w_fFmtI, `w_jfNil, `w_asTx, `w_jfCons, `w_xFmt, `w_xJoined, `w_blR, `w_fBoolOw, `w_stR, `w_fReprOw, `w_fBoolB, `w_fBoolI, `w_toRest, `w_xCon, `w_xAlt, `w_xEnumK, `w_fEnumK, `w_fAnyI, `w_fAnyIT, `w_xLenSetL, `w_fLenSetL, `w_xItAlt, `fIsiO_same, `w_xMakeK, `w_xAltT, `w_xTruOw, `w_valE_nil, `w_valE_val, `w_valE_own, `w_valE_tre, `w_valE_none, `w_consU, `w_putT_0, `w_putT_s, `w_setU, `w_at_nil, `w_at_lst, `w_at_tup, `w_setAt_nil, `w_setAt_l0, `w_tre_inj, `w_isTre_0, `w_isTre_s, `w_plN, `w_ixAt_0, `w_plI, `w_appL, `w_clrL, `w_stL, `w_trs_ds, `w_tr_d, `w_trs_length, `w_tr_int, `w_lendU, `w_lendF, `w_frzU, `w_retU, `w_retUe, `w_appF, `w_clrF, `w_clrO_0, `w_clrO, `w_setN, `w_nt_lst, `w_nt_int, `w_nt_non, `w_nt_bl, `w_nt_str, `w_ntL_nil, `w_ntL_cons, `w_ntL_ints, `w_xNT, `w_xDatU, `w_ofU, `w_parOO, `w_isNotB, `w_xCv, `w_opOwnL, `w_xTruLen, `w_xEnumT, `w_fEnumT, `w_nos_tup, `w_nos_non, `w_nos_bl, `w_nos_int, `w_nos_str, `w_nos_obj, `w_nosL_nil, `w_nosL_cons, `w_xNos, `w_xFNos, `w_xNFol, `w_xTupC, `w_par2O, `w_fMin1, `w_xMake00, `w_fIsiK, `w_appU, `w_vl_nil, `w_vl_cons, `w_vl1_some, `w_vl1_none, `w_lendW_nil, `w_lendW_cons, `w_upM, `w_unv_nil, `w_unv_val, `w_unv_none, `w_unv_vl1, `w_AllV_nil, `w_AllV_val, `w_AllV_none, `w_AllV_vl1, `w_mE, `w_mT, `w_mA, `w_mF, `w_mLend, `w_mLendT, `w_mLendF, `w_mLendN, `w_mNil, `w_mCons, `w_mOp, `w_mTest, `w_asBM, `w_mAnd, `w_mOr, `w_mNot, `w_mTru, `w_tru3_non, `w_tru3_bl, `w_tru3_int, `w_mIf, `w_mTup, `w_mLst, `w_mLstN, `w_mCall, `w_mCallK, `w_mMeth, `w_mMethD, `w_mFld, `w_mFldD, `w_mProp, `w_mMake, `w_zUp, `w_yNext, `w_ySeq, `w_yRet, `w_yRetN, `w_yExpr, `w_yIf, `w_mG, `w_yAsg, `w_ySet, `w_yPar, `w_yFld, `w_yApp, `w_yClr, `w_mPop, `w_yFor, `w_yWhile, `w_zLend, `w_zOfM, `w_adr_inj, `w_ins_inj, `w_lst_inj, `w_mset_same, `w_mset_mset, `w_vl_set, `w_mU, `w_mIxL, `w_mLi, `w_mLiF, `w_ySetF, `w_yPar3, `w_mSet0, `w_mSIn, `w_mSAdd, `w_yStL, `w_yForL, `w_yFrz, `w_mPopAt, `w_ex2, `w_ex3, `w_xNFz, `w_actL, `w_actF, `flatL_ints, `F__law_pull_is, `F__law_same_is, `F_is_number_is, `w_fk_InvalidHands, `w_fd_InvalidHands, `w_fk_InvalidTurn, `w_fd_InvalidTurn, `w_fk_InvalidChange, `w_fd_InvalidChange, `w_fk_InvalidHand, `w_fd_InvalidHand, `w_fk_InvalidNumber, `w_fd_InvalidNumber, `w_fk_InvalidWorths, `w_fd_InvalidWorths, `w_fk_Unlike, `w_fd_Unlike, `w_fk_TooLong, `w_fd_TooLong, `fld_hands, `fld_turns, `fld_m_turns, `fld_m_turned, `fld_m_with_turns, `fld_m_need_like]
local macro_rules | `(tactic| walk_at "dg") => do let xs ← dgN2.mapM fun n => `(Lean.Parser.Tactic.simpLemma| $(Lean.mkIdent n):term); `(tactic| simp only [$xs,*, List.getElem?_cons_zero, List.getElem?_cons_succ])
def F_check_hands (CH : Addr) : Spec
  | [v], R, Rx => v.dat = true ∧ (isNum v 2 4 = true → R .non) ∧ (isNum v 2 4 = false → Rx (eIH CH v))
  | _, _, _ => False
theorem F_check_hands_is {CH : Addr} {v : D} {R : D → Prop} {Rx : Er → Prop} : F_check_hands CH [v] R Rx = (v.dat = true ∧ (isNum v 2 4 = true → R .non) ∧ (isNum v 2 4 = false → Rx (eIH CH v))) := rfl
def b_check_hands (Dx : Df K mg "check_hands" s_check_hands) : Binds K Dx.fd ["hands"] [] := Dx.F.bindsN fun _ _ _ _ _ _ us hl => match us, hl with | [_], _ => rfl
def n_check_hands : List Str := ["hands"]
theorem sc_check_hands : FnScope n_check_hands ["hands"] (defScope s_check_hands) := ⟨rfl, rfl, rfl, by decide +kernel, rfl, by decide +kernel, by decide +kernel⟩
def dgN3 : Array Lean.Name := dgN2 ++ #[`F_check_hands_is]
local macro_rules | `(tactic| walk_at "dg") => do let xs ← dgN3.mapM fun n => `(Lean.Parser.Tactic.simpLemma| $(Lean.mkIdent n):term); `(tactic| simp only [$xs,*, List.getElem?_cons_zero, List.getElem?_cons_succ])
theorem ok_check_hands (T : Tx mg) (D_check_hands : Df K mg "check_hands" s_check_hands) (D_is_number : Df K mg "is_number" s_is_number) (X_InvalidHands : Xe K mg P.main.file "InvalidHands" s_InvalidHands___init__) (hsup : mg "super" = none) (htop : (P.main.scope.names.lookup ("super" : Str)).isSome = false) : FnOk P w K mg base (L2.CX P w) 3 D_check_hands.f D_check_hands.fd ["hands"] (spD (F_check_hands X_InvalidHands.C)) := by
  have GX_InvalidHands := ok_InvalidHands___init__ (P := P) (w := w) (base := base) X_InvalidHands hsup htop
  have G_is_number := ok_is_number (P := P) (w := w) (base := base) D_is_number T.m_isinstance T.m_int T.m_bool
  refine fn_d D_check_hands.F sc_check_hands (fun ds R Rx h => ?_) (fun cdv A outer s H E hr => (ds_one (s_if (dt_not (dt_tru (d_call G_is_number (hr.mono (by decide)) D_is_number.g D_is_number.F.kp (b_is_number D_is_number) .nil dfR_nil pass_d (da_cons (d_var 0) (da_cons d_int (da_cons d_int da_nil)))))) (ds_one (s_raise X_InvalidHands.e.ox X_InvalidHands.e.iC X_InvalidHands.e.tI (by decide) (by decide) GX_InvalidHands (hr.mono (by decide)) (b_InvalidHands___init__ X_InvalidHands) passL X_InvalidHands.g rfl (takes_of rfl rfl rfl rfl) (da_cons (d_var 0) da_nil))) ds_nil)) ) fun ds R Rx h => ?_
  · match ds, h with
    | [v], _ => rfl
  · match ds, h with
    | [v], hh =>
      obtain ⟨h1, h2, h3⟩ := hh
      simp only [n_check_hands]
      walk_at "dg"
      cases e : isNum v 2 4 with
      | true =>
        walk_at "dg"
        exact ⟨h1, h2 e⟩
      | false =>
        walk_at "dg"
        exact ⟨h1, h3 e⟩
/-- the first wrong place -/
def badAt (h : Int) : Nat → List D → Option Nat
  | _, [] => none
  | i, x :: xs => if 2000 ≤ i ∨ isNum x 0 (h - 1) = false then some i else badAt h (i + 1) xs
theorem isNum_of {x : D} {lo hi : Int} (h : isNum x lo hi = true) : ∃ n, x = .int n ∧ lo ≤ n ∧ n ≤ hi := by
  cases x <;> simp only [isNum, Bool.false_eq_true, Bool.and_eq_true, decide_eq_true_eq] at h
  exact ⟨_, rfl, h⟩
theorem badAt_none {h : Int} : ∀ {xs : List D} {i : Nat}, badAt h i xs = none → ∃ ts : List Int, xs = ts.map D.int ∧ (∀ t ∈ ts, 0 ≤ t ∧ t < h) ∧ (xs = [] ∨ i + xs.length ≤ 2000)
  | [], _, _ => ⟨[], rfl, (fun t ht => nomatch ht), .inl rfl⟩
  | x :: xs, i, e => by
    unfold badAt at e
    split at e
    · cases e
    · rename_i z
      obtain ⟨z1, z2⟩ := not_or.mp z
      obtain ⟨n, rfl, n1, n2⟩ := isNum_of (Bool.of_not_eq_false z2)
      obtain ⟨ts, rfl, ht, hl⟩ := badAt_none e
      refine ⟨n :: ts, rfl, fun t hm => ?_, .inr ?_⟩
      · rcases List.mem_cons.mp hm with rfl | hm
        · exact ⟨n1, by omega⟩
        · exact ht t hm
      · rw [List.length_cons]
        rcases hl with hl | hl
        · rw [hl]
          simp
          omega
        · omega
theorem badAt_good {h : Int} : ∀ {ts : List Int} {i : Nat}, (∀ t ∈ ts, 0 ≤ t ∧ t < h) → i + ts.length ≤ 2000 → badAt h i (ts.map D.int) = none
  | [], _, _, _ => rfl
  | t :: ts, i, ht, hl => by
    rw [List.length_cons] at hl
    show (if 2000 ≤ i ∨ isNum (.int t) 0 (h - 1) = false then some i else badAt h (i + 1) (ts.map D.int)) = none
    have h1 := ht t List.mem_cons_self
    rw [if_neg, badAt_good (fun u hu => ht u (List.mem_cons_of_mem _ hu)) (by omega)]
    simp only [isNum, Bool.and_eq_false_iff, decide_eq_false_iff_not, not_or, Classical.not_not]
    omega
theorem badAt_cons {h : Int} {y : D} {ys : List D} {i : Nat} (hb : 2000 ≤ i ∨ isNum y 0 (h - 1) = false) : badAt h i (y :: ys) = some i := if_pos hb
def initX (C CH CI : Addr) (hv : D) (xs : List D) (R : D → Prop) (Rx : Er → Prop) : Prop := hv.dat = true ∧ datL xs = true ∧ xs.length ≤ 1000000 ∧ (isNum hv 2 4 = false → Rx (eIH CH hv)) ∧ ∀ h, hv = .int h → 2 ≤ h → h ≤ 4 →
  (∀ i : Nat, badAt h 0 xs = some i → Rx (eIT CI i)) ∧ (badAt h 0 xs = none → (xs = [] → Rx (eIT CI 0)) ∧ ∀ ts, xs = ts.map D.int → RowOk h ts → R (row C h ts))
theorem map_int_eq {xs ys : List Int} (h : xs.map D.int = ys.map D.int) : xs = ys := by
  have := congrArg asInts h
  rw [asInts_map, asInts_map] at this
  exact Option.some.inj this
theorem initX_good {C CH CI : Addr} {h : Int} {ts : List Int} {R : D → Prop} {Rx : Er → Prop} (ok : RowOk h ts) (hR : R (row C h ts)) : initX C CH CI (.int h) (ts.map D.int) R Rx := by
  obtain ⟨h2, h4, l0, l1, ht⟩ := ok
  refine ⟨rfl, datL_ints, by rw [List.length_map]; omega, fun z => ?_, fun k e _ _ => ?_⟩
  · simp only [isNum, Bool.and_eq_false_iff, decide_eq_false_iff_not] at z
    omega
  · cases e
    rw [badAt_good ht (by omega)]
    refine ⟨(fun i z => nomatch z), fun _ => ⟨fun z => ?_, fun us e _ => ?_⟩⟩
    · rw [List.map_eq_nil_iff] at z
      rw [z] at l0
      cases l0
    · rw [← map_int_eq e]
      exact hR
theorem datL_at {xs : List D} {i : Nat} {x : D} (h : datL xs = true) (e : xs[i]? = some x) : x.dat = true := by
  induction xs generalizing i with
  | nil => simp at e
  | cons y ys ih =>
    rw [datL_cons, Bool.and_eq_true] at h
    cases i with
    | zero => simp at e; rw [← e]; exact h.1
    | succ i => exact ih h.2 (by simpa using e)
def F_Row___init__ (C CH CI : Addr) : Spec
  | [hv, tv], R, Rx => ∃ xs, (tv = .lst xs ∨ tv = .tup xs) ∧ initX C CH CI hv xs R Rx
  | _, _, _ => False
theorem F_Row___init___is {C CH CI : Addr} {hv : D} {tv : D} {R : D → Prop} {Rx : Er → Prop} : F_Row___init__ C CH CI [hv, tv] R Rx = (∃ xs, (tv = .lst xs ∨ tv = .tup xs) ∧ initX C CH CI hv xs R Rx) := rfl
theorem F_Row___init___of {C CH CI : Addr} {ds : List D} {R : D → Prop} {Rx : Er → Prop} (z : F_Row___init__ C CH CI ds R Rx) : ∃ (hv : D) (tv : D), ds = [hv, tv] ∧ (∃ xs, (tv = .lst xs ∨ tv = .tup xs) ∧ initX C CH CI hv xs R Rx) := by
  unfold F_Row___init__ at z
  split at z
  · exact ⟨_, _, rfl, z⟩
  · exact z.elim
theorem w_init_l {C CH CI : Addr} {hv : D} {xs : List D} {R : D → Prop} {Rx : Er → Prop} : (∃ ys, (D.lst xs = .lst ys ∨ D.lst xs = .tup ys) ∧ initX C CH CI hv ys R Rx) = initX C CH CI hv xs R Rx := by
  apply propext
  constructor
  · rintro ⟨ys, e | e, h⟩
    · cases e; exact h
    · cases e
  · exact fun h => ⟨xs, .inl rfl, h⟩
theorem w_init_t {C CH CI : Addr} {hv : D} {xs : List D} {R : D → Prop} {Rx : Er → Prop} : (∃ ys, (D.tup xs = .lst ys ∨ D.tup xs = .tup ys) ∧ initX C CH CI hv ys R Rx) = initX C CH CI hv xs R Rx := by
  apply propext
  constructor
  · rintro ⟨ys, e | e, h⟩
    · cases e
    · cases e; exact h
  · exact fun h => ⟨xs, .inr rfl, h⟩
def dgN4 : Array Lean.Name := dgN3 ++ #[`F_Row___init___is, `w_init_l, `w_init_t]
local macro_rules | `(tactic| walk_at "dg") => do let xs ← dgN4.mapM fun n => `(Lean.Parser.Tactic.simpLemma| $(Lean.mkIdent n):term); `(tactic| simp only [$xs,*, List.getElem?_cons_zero, List.getElem?_cons_succ])
def b_Row___init__ (Dx : Dm K "__init__" "Row.__init__" s_Row___init__) : Binds K Dx.fd ["self", "hands", "turns"] [] := Dx.F.bindsN fun _ _ _ _ _ _ us hl => match us, hl with | [_, _, _], _ => rfl
def n_Row___init__ : List Str := ["self", "hands", "turns", "at", "hand"]
theorem sc_Row___init__ : FnScope n_Row___init__ ["self", "hands", "turns"] (defScope s_Row___init__) := ⟨rfl, rfl, rfl, by decide +kernel, rfl, by decide +kernel, by decide +kernel⟩
theorem ok_Row___init__ (T : Tx mg) (K_Row : Kx_Row K mg) (X_InvalidHands : Xe K mg P.main.file "InvalidHands" s_InvalidHands___init__) (X_InvalidTurn : Xe K mg P.main.file "InvalidTurn" s_InvalidTurn___init__) (D_check_hands : Df K mg "check_hands" s_check_hands) (D_is_number : Df K mg "is_number" s_is_number) (hsup : mg "super" = none) (htop : (P.main.scope.names.lookup ("super" : Str)).isSome = false) : FnOk P w K mg base (L2.CX P w) 4 K_Row.D___init__.f K_Row.D___init__.fd ["self", "hands", "turns"] (spIN K_Row.C (F_Row___init__ K_Row.C X_InvalidHands.C X_InvalidTurn.C)) := by
  have G_check_hands := ok_check_hands (P := P) (w := w) (base := base) T D_check_hands D_is_number X_InvalidHands hsup htop
  have G_is_number := ok_is_number (P := P) (w := w) (base := base) D_is_number T.m_isinstance T.m_int T.m_bool
  have GX_InvalidTurn := ok_InvalidTurn___init__ (P := P) (w := w) (base := base) X_InvalidTurn hsup htop
  refine fn_iN K_Row.D___init__.F sc_Row___init__ (fun ds R Rx hs0 => ?_) (fun p dx cdv A outer s H E hr => have hu := hr.units
    (is_st (s_expr (d_call G_check_hands (hr.mono (by decide)) D_check_hands.g D_check_hands.F.kp (b_check_hands D_check_hands) .nil dfR_nil pass_d (da_cons (d_var 1) da_nil)))
    (is_st (s_for (passes_of rfl) rfl (i_alt (i_enum (da_cons (d_var 2) da_nil) T.m_enumerate) (i_enumT (da_cons (d_var 2) da_nil) T.m_enumerate)) (g_tup (n := 2) rfl (gs_cons (g_name (i := 3) sc_Row___init__.nd) (gs_cons (g_name (i := 4) sc_Row___init__.nd) gs_nil)))
      (ds_one (s_if (dw_pt (dw_or (dt_cmp c_ge (d_var 3) (d_gint T.c_MOST_TURNS) (nomark _)) (dw_or1 (dt_not (dt_tru (d_call G_is_number (hr.mono (by decide)) D_is_number.g D_is_number.F.kp (b_is_number D_is_number) .nil dfR_nil pass_d (da_cons (d_var 4) (da_cons d_int (da_cons (d_sub (d_var 1) d_int) da_nil))))))))) (ds_one (s_raise X_InvalidTurn.e.ox X_InvalidTurn.e.iC X_InvalidTurn.e.tI (by decide) (by decide) GX_InvalidTurn (hr.mono (by decide)) (b_InvalidTurn___init__ X_InvalidTurn) passL X_InvalidTurn.g rfl (takes_of rfl rfl rfl rfl) (da_cons (d_var 3) da_nil))) ds_nil)))
    (is_st (s_if (dt_cmp (c_eq hu) (d_callB b_len T.m_len boot_len (da_cons (d_var 2) da_nil)) d_int (nomark _)) (ds_one (s_raise X_InvalidTurn.e.ox X_InvalidTurn.e.iC X_InvalidTurn.e.tI (by decide) (by decide) GX_InvalidTurn (hr.mono (by decide)) (b_InvalidTurn___init__ X_InvalidTurn) passL X_InvalidTurn.g rfl (takes_of rfl rfl rfl rfl) (da_cons d_int da_nil))) ds_nil)
    (is_set (d_var 1)
    (is_setN (n_ofF (f_list (d_var 2) T.m_list))
    is_nil K_Row.cls K_Row.n_own_turns) K_Row.cls K_Row.n_hands)))) ) fun p ds R Rx hs0 => ?_
  · obtain ⟨_, _, rfl, _⟩ := F_Row___init___of hs0
    rfl
  · obtain ⟨hv, tv, rfl, hs⟩ := F_Row___init___of hs0
    clear hs0
    simp only [n_Row___init__, jSt, jSet, jNil]
    walk_at "dg"
    obtain ⟨xs, ht, d1, d2, hl, hH, hx⟩ := hs
    rcases ht with rfl | rfl
    · walk_at "dg"
      refine ⟨d1, fun z => ?_, fun z => hH z⟩
      obtain ⟨k, rfl, k1, k2⟩ := isNum_of z
      obtain ⟨hb, hg⟩ := hx k rfl k1 k2
      have d3 : ∀ (i : Nat) (x : D), xs[i]? = some x → x.dat = true := fun i x e => datL_at d2 e
      left
      refine ⟨fun i env => i ≤ xs.length ∧ badAt k i (xs.drop i) = badAt k 0 xs ∧ ∃ e3 e4 : Option DV, env = [some (.val (.adr p)), some (.val (.int k)), some (.val (.lst xs)), e3, e4], ⟨by omega, rfl, none, none, rfl⟩, ?_, ?_⟩
      · rintro i d env e ⟨hi, hbi, e3, e4, rfl⟩
        obtain ⟨y, ey, rfl⟩ := nums_get _ _ _ _ e
        have hi2 := (List.getElem?_eq_some_iff.mp ey).1
        have ed : xs.drop i = y :: xs.drop (i + 1) := by
          rw [List.drop_eq_getElem_cons hi2]
          rw [List.getElem?_eq_getElem hi2] at ey
          cases ey
          rfl
        rw [ed] at hbi
        walk_at "dg"
        have hw : (2000 ≤ i ∨ isNum y 0 (k - 1) = false) → Rx (eIT X_InvalidTurn.C (i : Int)) := fun z => hb i (by rw [← hbi]; exact badAt_cons z)
        refine ⟨fun z => ?_, fun z => ⟨d3 i y ey, ?_⟩⟩
        · have e0 : (0 : Int) + (i : Int) = i := by omega
          first | exact hw (.inl (by omega)) | (rw [e0]; exact hw (.inl (by omega)))
        · cases en : isNum y 0 (k - 1) with
          | false =>
            walk_at "dg"
            exact hw (.inr en)
          | true =>
            walk_at "dg"
            refine ⟨by omega, ?_⟩
            rw [← hbi]
            show _ = (if 2000 ≤ i ∨ isNum y 0 (k - 1) = false then some i else badAt k (i + 1) (xs.drop (i + 1)))
            rw [if_neg]
            rw [en]
            simp
            omega
      · rintro env ⟨_, hbi, e3, e4, rfl⟩
        have el : (nums 0 xs).length = xs.length := nums_length _ _
        rw [el, List.drop_length] at hbi
        obtain ⟨g1, g2⟩ := hg hbi.symm
        walk_at "dg"
        refine ⟨fun z => g1 (List.eq_nil_of_length_eq_zero (by omega)), fun z => ?_⟩
        obtain ⟨ts, rfl, t1, t2⟩ := badAt_none hbi.symm
        refine ⟨by simp, flatL_ints, by decide, rfl, g2 ts rfl ⟨k1, k2, ?_, ?_, t1⟩⟩
        · rw [List.length_map] at z
          omega
        · rw [List.length_map] at t2
          rcases t2 with t2 | t2
          · rw [List.map_eq_nil_iff] at t2
            rw [t2]
            decide
          · omega
    · walk_at "dg"
      refine ⟨d1, fun z => ?_, fun z => hH z⟩
      obtain ⟨k, rfl, k1, k2⟩ := isNum_of z
      obtain ⟨hb, hg⟩ := hx k rfl k1 k2
      have d3 : ∀ (i : Nat) (x : D), xs[i]? = some x → x.dat = true := fun i x e => datL_at d2 e
      right
      refine ⟨fun i env => i ≤ xs.length ∧ badAt k i (xs.drop i) = badAt k 0 xs ∧ ∃ e3 e4 : Option DV, env = [some (.val (.adr p)), some (.val (.int k)), some (.val (.tup xs)), e3, e4], ⟨by omega, rfl, none, none, rfl⟩, ?_, ?_⟩
      · rintro i d env e ⟨hi, hbi, e3, e4, rfl⟩
        obtain ⟨y, ey, rfl⟩ := nums_get _ _ _ _ e
        have hi2 := (List.getElem?_eq_some_iff.mp ey).1
        have ed : xs.drop i = y :: xs.drop (i + 1) := by
          rw [List.drop_eq_getElem_cons hi2]
          rw [List.getElem?_eq_getElem hi2] at ey
          cases ey
          rfl
        rw [ed] at hbi
        walk_at "dg"
        have hw : (2000 ≤ i ∨ isNum y 0 (k - 1) = false) → Rx (eIT X_InvalidTurn.C (i : Int)) := fun z => hb i (by rw [← hbi]; exact badAt_cons z)
        refine ⟨fun z => ?_, fun z => ⟨d3 i y ey, ?_⟩⟩
        · have e0 : (0 : Int) + (i : Int) = i := by omega
          first | exact hw (.inl (by omega)) | (rw [e0]; exact hw (.inl (by omega)))
        · cases en : isNum y 0 (k - 1) with
          | false =>
            walk_at "dg"
            exact hw (.inr en)
          | true =>
            walk_at "dg"
            refine ⟨by omega, ?_⟩
            rw [← hbi]
            show _ = (if 2000 ≤ i ∨ isNum y 0 (k - 1) = false then some i else badAt k (i + 1) (xs.drop (i + 1)))
            rw [if_neg]
            rw [en]
            simp
            omega
      · rintro env ⟨_, hbi, e3, e4, rfl⟩
        have el : (nums 0 xs).length = xs.length := nums_length _ _
        rw [el, List.drop_length] at hbi
        obtain ⟨g1, g2⟩ := hg hbi.symm
        walk_at "dg"
        refine ⟨fun z => g1 (List.eq_nil_of_length_eq_zero (by omega)), fun z => ?_⟩
        obtain ⟨ts, rfl, t1, t2⟩ := badAt_none hbi.symm
        refine ⟨by simp, flatL_ints, by decide, rfl, g2 ts rfl ⟨k1, k2, ?_, ?_, t1⟩⟩
        · rw [List.length_map] at z
          omega
        · rw [List.length_map] at t2
          rcases t2 with t2 | t2
          · rw [List.map_eq_nil_iff] at t2
            rw [t2]
            decide
          · omega
theorem rok_app {h : Int} {ts us : List Int} (a : RowOk h ts) (b : RowOk h us) (hl : ts.length + us.length ≤ 2000) : RowOk h (ts ++ us) :=
  ⟨a.1, a.2.1, by rw [List.length_append]; have := a.2.2.1; omega, by rw [List.length_append]; exact hl, fun t ht => by
    rcases List.mem_append.mp ht with q | q
    · exact a.2.2.2.2 t q
    · exact b.2.2.2.2 t q⟩
theorem rok_rev {h : Int} {ts : List Int} (a : RowOk h ts) : RowOk h ts.reverse := ⟨a.1, a.2.1, by rw [List.length_reverse]; exact a.2.2.1, by rw [List.length_reverse]; exact a.2.2.2.1, fun t ht => a.2.2.2.2 t (List.mem_reverse.mp ht)⟩
theorem rok_map {h : Int} {ts : List Int} (a : RowOk h ts) (f : Int → Int) (hf : ∀ t, 0 ≤ f t ∧ f t < h) : RowOk h (ts.map f) := ⟨a.1, a.2.1, by rw [List.length_map]; exact a.2.2.1, by rw [List.length_map]; exact a.2.2.2.1, fun t ht => by
  obtain ⟨u, _, rfl⟩ := List.mem_map.mp ht
  exact hf u⟩
theorem fmod_in {h t : Int} (hh : 2 ≤ h) : 0 ≤ t.fmod h ∧ t.fmod h < h := ⟨Int.fmod_nonneg_of_pos _ (by omega), Int.fmod_lt_of_pos _ (by omega)⟩
local macro_rules | `(tactic| walk_at "dg") => do let xs ← dgN4.mapM fun n => `(Lean.Parser.Tactic.simpLemma| $(Lean.mkIdent n):term); `(tactic| simp only [$xs,*, List.getElem?_cons_zero, List.getElem?_cons_succ])
def asRow (C : Addr) (R : Int → List Int → Prop) : D → Prop
  | .obj C' ks [.int h, .lst xs] => C' = C ∧ ks = ksRow ∧ ∃ ts, asInts xs = some ts ∧ R h ts
  | _ => False
theorem asRow_is {C : Addr} {R : Int → List Int → Prop} {h : Int} {xs : List D} : asRow C R (.obj C ksRow [.int h, .lst xs]) = ∃ ts, asInts xs = some ts ∧ R h ts := by
  simp [asRow]
theorem asRow_of {C : Addr} {R : Int → List Int → Prop} {d : D} (h : asRow C R d) : ∃ k ts, d = row C k ts ∧ R k ts := by
  unfold asRow at h
  split at h
  · obtain ⟨rfl, rfl, ts, e, h⟩ := h
    exact ⟨_, ts, by rw [asInts_eq e], h⟩
  · exact h.elim
def dgN5 : Array Lean.Name := dgN4 ++ #[`asRow_is]
local macro_rules | `(tactic| walk_at "dg") => do let xs ← dgN5.mapM fun n => `(Lean.Parser.Tactic.simpLemma| $(Lean.mkIdent n):term); `(tactic| simp only [$xs,*, List.getElem?_cons_zero, List.getElem?_cons_succ])
def F_Row_turns (C : Addr) : Spec
  | [r], R, _ => asRow C (fun _ ts => R (.lst (ts.map .int))) r
  | _, _, _ => False
theorem F_Row_turns_is {C : Addr} {r : D} {R : D → Prop} {Rx : Er → Prop} : F_Row_turns C [r] R Rx = asRow C (fun _ ts => R (.lst (ts.map .int))) r := rfl
def b_Row_turns (Dx : Dm K "turns" "Row.turns" s_Row_turns) : Binds K Dx.fd ["self"] [] := Dx.F.bindsN fun _ _ _ _ _ _ us hl => match us, hl with | [_], _ => rfl
def n_Row_turns : List Str := ["self"]
theorem sc_Row_turns : FnScope n_Row_turns ["self"] (defScope s_Row_turns) := ⟨rfl, rfl, rfl, by decide +kernel, rfl, by decide +kernel, by decide +kernel⟩
def dgN6 : Array Lean.Name := dgN5 ++ #[`F_Row_turns_is]
local macro_rules | `(tactic| walk_at "dg") => do let xs ← dgN6.mapM fun n => `(Lean.Parser.Tactic.simpLemma| $(Lean.mkIdent n):term); `(tactic| simp only [$xs,*, List.getElem?_cons_zero, List.getElem?_cons_succ])
theorem ok_Row_turns (T : Tx mg) (K_Row : Kx_Row K mg) : FnOk P w K mg base (L2.CX P w) 1 K_Row.D_turns.f K_Row.D_turns.fd ["self"] (spN (F_Row_turns K_Row.C)) := by
  refine fn_n K_Row.D_turns.F sc_Row_turns (fun ds R Rx h => ?_) (fun cdv A outer s H E hr => (ds_one (s_retNew (n_ofF (f_list (d_fld (d_var 0) K_Row.cls K_Row.n_own_turns) T.m_list)))) ) fun ds R Rx h => ?_
  · match ds, h with
    | [r], h => rfl
  · match ds, h with
    | [r], h =>
      obtain ⟨k, ts, rfl, hR⟩ := asRow_of h
      simp only [n_Row_turns]
      walk_at "dg"
      exact hR
theorem nums_ints : ∀ {ts : List Int} {lo : Nat}, nums (lo : Int) (ts.map D.int) = (List.range ts.length).map fun i => D.tup [.int ((lo + i : Nat) : Int), .int (ts.getD i 0)]
  | [], _ => rfl
  | t :: ts, lo => by
    have ih := nums_ints (ts := ts) (lo := lo + 1)
    show D.tup [.int (lo : Int), .int t] :: nums ((lo : Int) + 1) (ts.map D.int) = _
    rw [show ((lo : Int) + 1) = ((lo + 1 : Nat) : Int) from rfl, ih, List.length_cons, List.range_succ_eq_map, List.map_cons, List.map_map]
    congr 1
    refine List.map_congr_left fun i _ => ?_
    show D.tup [.int ((lo + 1 + i : Nat) : Int), .int (ts.getD i 0)] = D.tup [.int ((lo + (i + 1) : Nat) : Int), .int ((t :: ts).getD (i + 1) 0)]
    rw [show lo + 1 + i = lo + (i + 1) by omega]
    rfl
theorem nums_ints0 {ts : List Int} : nums 0 (ts.map D.int) = (List.range ts.length).map fun (i : Nat) => D.tup [.int (i : Int), .int (ts.getD i 0)] := by
  have := nums_ints (ts := ts) (lo := 0)
  simp only [Nat.zero_add] at this
  exact this
theorem pairs_intsL : ∀ {xs ys : List Int}, pairs (xs.map D.int) (ys.map D.int) = (xs.zip ys).map fun p => D.tup [.int p.1, .int p.2]
  | [], _ => by simp [pairs]
  | _ :: _, [] => by simp [pairs]
  | x :: xs, y :: ys => by
    show D.tup [.int x, .int y] :: pairs (xs.map D.int) (ys.map D.int) = _
    rw [pairs_intsL]
    rfl
theorem zip_add {xs ys : List Int} : ((xs.zip ys).map fun p => D.int (p.1 + p.2)) = (List.zipWith (fun a b => a + b) xs ys).map D.int := by
  rw [List.zip_eq_zipWith, List.map_zipWith, List.map_zipWith]
def eqQ (C : Addr) (h : Int) (ts : List Int) (R : D → Prop) : D → Prop
  | .lst _ => R (.bl false)
  | q => asRow C (fun h2 us => ts.length ≤ 2000 ∧ us.length ≤ 2000 ∧ R (.bl (decide (h = h2) && decide (ts = us)))) q
theorem w_eqQ_lst {C : Addr} {h : Int} {ts : List Int} {R : D → Prop} {xs : List D} : eqQ C h ts R (.lst xs) = R (.bl false) := rfl
theorem w_eqQ_row {C : Addr} {h h2 : Int} {ts us : List Int} {R : D → Prop} : eqQ C h ts R (row C h2 us) = (ts.length ≤ 2000 ∧ us.length ≤ 2000 ∧ R (.bl (decide (h = h2) && decide (ts = us)))) := by
  unfold eqQ
  split
  · rename_i z
    cases z
  · rw [asRow_is, asInts_map]
    simp only [Option.some.injEq, exists_eq_left']
theorem fIsiO_obj {C : Addr} {ks : List Str} {xs : List D} {R : D → Prop} : fIsiO C [.obj C ks xs, .adr C] R = R (.bl true) := by
  simp [fIsiO, isO]
theorem w_fIsiO_lst {C : Addr} {xs : List D} {R : D → Prop} : fIsiO C [.lst xs, .adr C] R = R (.bl false) := by
  simp [fIsiO, isO]
def dgN7 : Array Lean.Name := dgN6 ++ #[`w_eqQ_lst, `w_eqQ_row, `fIsiO_obj, `w_fIsiO_lst]
local macro_rules | `(tactic| walk_at "dg") => do let xs ← dgN7.mapM fun n => `(Lean.Parser.Tactic.simpLemma| $(Lean.mkIdent n):term); `(tactic| simp only [$xs,*, List.getElem?_cons_zero, List.getElem?_cons_succ])
def F_Row___eq__ (C : Addr) : Spec
  | [r, q], R, Rx => asRow C (fun h ts => eqQ C h ts R q) r
  | _, _, _ => False
theorem F_Row___eq___is {C : Addr} {r : D} {q : D} {R : D → Prop} {Rx : Er → Prop} : F_Row___eq__ C [r, q] R Rx = (asRow C (fun h ts => eqQ C h ts R q) r) := rfl
def dgN8 : Array Lean.Name := dgN7 ++ #[`F_Row___eq___is]
local macro_rules | `(tactic| walk_at "dg") => do let xs ← dgN8.mapM fun n => `(Lean.Parser.Tactic.simpLemma| $(Lean.mkIdent n):term); `(tactic| simp only [$xs,*, List.getElem?_cons_zero, List.getElem?_cons_succ])
def F_Row___len__ (C : Addr) : Spec
  | [r], R, _ => asRow C (fun _ ts => ts.length ≤ 2000 ∧ R (.int ts.length)) r
  | _, _, _ => False
theorem F_Row___len___is {C : Addr} {r : D} {R : D → Prop} {Rx : Er → Prop} : F_Row___len__ C [r] R Rx = asRow C (fun _ ts => ts.length ≤ 2000 ∧ R (.int ts.length)) r := rfl
def b_Row___len__ (Dx : Dm K "__len__" "Row.__len__" s_Row___len__) : Binds K Dx.fd ["self"] [] := Dx.F.bindsN fun _ _ _ _ _ _ us hl => match us, hl with | [_], _ => rfl
def n_Row___len__ : List Str := ["self"]
theorem sc_Row___len__ : FnScope n_Row___len__ ["self"] (defScope s_Row___len__) := ⟨rfl, rfl, rfl, by decide +kernel, rfl, by decide +kernel, by decide +kernel⟩
theorem ok_Row___len__ (T : Tx mg) (K_Row : Kx_Row K mg) : FnOk P w K mg base (L2.CX P w) 1 K_Row.D___len__.f K_Row.D___len__.fd ["self"] (spD (F_Row___len__ K_Row.C)) := by
  refine fn_d K_Row.D___len__.F sc_Row___len__ (fun ds R Rx h => ?_) (fun cdv A outer s H E hr => (ds_one (s_ret (d_callB b_len T.m_len boot_len (da_cons (d_fld (d_var 0) K_Row.cls K_Row.n_own_turns) da_nil)))) ) fun ds R Rx h => ?_
  · match ds, h with
    | [r], h => rfl
  · match ds, h with
    | [r], h =>
      obtain ⟨k, ts, rfl, hl, hR⟩ := asRow_of h
      simp only [n_Row___len__]
      walk_at "dg"
      exact hR
/-- what the hand k gets -/
def tot (ts ws : List Int) (k : Int) : Int := (List.zipWith (fun t w => if t = k then w else 0) ts ws).sum
theorem tot_succ {ts ws : List Int} {k : Int} {i : Nat} (h1 : i < ts.length) (h2 : i < ws.length) : tot (ts.take (i + 1)) (ws.take (i + 1)) k = tot (ts.take i) (ws.take i) k + if ts.getD i 0 = k then ws.getD i 0 else 0 := by
  unfold tot
  have e1 : ts.take (i + 1) = ts.take i ++ [ts.getD i 0] := by rw [List.take_succ, List.getD, List.getElem?_eq_getElem h1]; rfl
  have e2 : ws.take (i + 1) = ws.take i ++ [ws.getD i 0] := by rw [List.take_succ, List.getD, List.getElem?_eq_getElem h2]; rfl
  rw [e1, e2, List.zipWith_append (by simp; omega), List.sum_append]
  simp
def totL (h : Int) (ts ws : List Int) : List Int := (List.range h.toNat).map fun (k : Nat) => tot ts ws (k : Int)
theorem totL_set {h t x : Int} {f : Nat → Int} (h0 : 0 ≤ t) (h1 : t < h) : ((List.range h.toNat).map f).set t.toNat x = (List.range h.toNat).map fun k => if k = t.toNat then x else f k := by
  apply List.ext_getElem?
  intro i
  rw [List.getElem?_set, List.getElem?_map, List.getElem?_map]
  by_cases hi : i < h.toNat
  · rw [List.getElem?_range hi]
    by_cases e : t.toNat = i
    · subst e
      simp; omega
    · have e2 : ¬ i = t.toNat := fun z => e z.symm
      simp [e, e2]
  · have : (List.range h.toNat)[i]? = none := by rw [List.getElem?_eq_none_iff, List.length_range]; omega
    rw [this]
    simp; omega
def dgN9 : Array Lean.Name := dgN8 ++ #[`F_Row___len___is]
local macro_rules | `(tactic| walk_at "dg") => do let xs ← dgN9.mapM fun n => `(Lean.Parser.Tactic.simpLemma| $(Lean.mkIdent n):term); `(tactic| simp only [$xs,*, List.getElem?_cons_zero, List.getElem?_cons_succ])
def F_check_most (CN : Addr) : Spec
  | [v], R, Rx => v.dat = true ∧ (isNum v 0 40 = true → R .non) ∧ (isNum v 0 40 = false → Rx (eIN CN v))
  | _, _, _ => False
theorem F_check_most_is {CN : Addr} {v : D} {R : D → Prop} {Rx : Er → Prop} : F_check_most CN [v] R Rx = (v.dat = true ∧ (isNum v 0 40 = true → R .non) ∧ (isNum v 0 40 = false → Rx (eIN CN v))) := rfl
def b_check_most (Dx : Df K mg "check_most" s_check_most) : Binds K Dx.fd ["most"] [] := Dx.F.bindsN fun _ _ _ _ _ _ us hl => match us, hl with | [_], _ => rfl
def n_check_most : List Str := ["most"]
theorem sc_check_most : FnScope n_check_most ["most"] (defScope s_check_most) := ⟨rfl, rfl, rfl, by decide +kernel, rfl, by decide +kernel, by decide +kernel⟩
def dgN10 : Array Lean.Name := dgN9 ++ #[`F_check_most_is]
local macro_rules | `(tactic| walk_at "dg") => do let xs ← dgN10.mapM fun n => `(Lean.Parser.Tactic.simpLemma| $(Lean.mkIdent n):term); `(tactic| simp only [$xs,*, List.getElem?_cons_zero, List.getElem?_cons_succ])
theorem ok_check_most (T : Tx mg) (D_check_most : Df K mg "check_most" s_check_most) (D_is_number : Df K mg "is_number" s_is_number) (X_InvalidNumber : Xe K mg P.main.file "InvalidNumber" s_InvalidNumber___init__) (hsup : mg "super" = none) (htop : (P.main.scope.names.lookup ("super" : Str)).isSome = false) : FnOk P w K mg base (L2.CX P w) 3 D_check_most.f D_check_most.fd ["most"] (spD (F_check_most X_InvalidNumber.C)) := by
  have GX_InvalidNumber := ok_InvalidNumber___init__ (P := P) (w := w) (base := base) X_InvalidNumber hsup htop
  have G_is_number := ok_is_number (P := P) (w := w) (base := base) D_is_number T.m_isinstance T.m_int T.m_bool
  refine fn_d D_check_most.F sc_check_most (fun ds R Rx h => ?_) (fun cdv A outer s H E hr => (ds_one (s_if (dt_not (dt_tru (d_call G_is_number (hr.mono (by decide)) D_is_number.g D_is_number.F.kp (b_is_number D_is_number) .nil dfR_nil pass_d (da_cons (d_var 0) (da_cons d_int (da_cons (d_gint T.c_MOST_TABLE) da_nil)))))) (ds_one (s_raise X_InvalidNumber.e.ox X_InvalidNumber.e.iC X_InvalidNumber.e.tI (by decide) (by decide) GX_InvalidNumber (hr.mono (by decide)) (b_InvalidNumber___init__ X_InvalidNumber) passL X_InvalidNumber.g rfl (takes_of rfl rfl rfl rfl) (da_cons (d_var 0) da_nil))) ds_nil)) ) fun ds R Rx h => ?_
  · match ds, h with
    | [v], _ => rfl
  · match ds, h with
    | [v], hh =>
      obtain ⟨h1, h2, h3⟩ := hh
      simp only [n_check_most]
      walk_at "dg"
      cases e : isNum v 0 40 with
      | true =>
        walk_at "dg"
        exact ⟨h1, h2 e⟩
      | false =>
        walk_at "dg"
        exact ⟨h1, h3 e⟩
/-- a row of binomial numbers -/
def pasc (K i : Nat) : List Int := (List.range K).map fun j => ((bin i j : Nat) : Int)
theorem pasc_length {K i : Nat} : (pasc K i).length = K := by unfold pasc; rw [List.length_map, List.length_range]
theorem pasc_at {K i j : Nat} (h : j < K) : (pasc K i)[j]? = some ((bin i j : Nat) : Int) := by
  unfold pasc
  rw [List.getElem?_map, List.getElem?_range h]
  rfl
theorem pasc_zero {K : Nat} : ((1 : Int) :: List.replicate K 0).take K = pasc K 0 := by
  apply List.ext_getElem?
  intro j
  by_cases h : j < K
  · rw [pasc_at h, List.getElem?_take, if_pos h]
    cases j with
    | zero => rfl
    | succ j =>
      rw [List.getElem?_cons_succ, List.getElem?_replicate, if_pos (by omega)]
      rfl
  · rw [List.getElem?_eq_none (by rw [List.length_take, List.length_cons, List.length_replicate]; omega), List.getElem?_eq_none (by rw [pasc_length]; omega)]
theorem pasc_succ {K i : Nat} : (pasc K i).take 1 ++ List.zipWith (fun a b => a + b) ((pasc K i).drop 1) (pasc K i) = pasc K (i + 1) := by
  apply List.ext_getElem?
  intro j
  by_cases h : j < K
  · rw [pasc_at h]
    cases j with
    | zero =>
      rw [List.getElem?_append_left (by rw [List.length_take, pasc_length]; omega), List.getElem?_take, if_pos (by omega), pasc_at h, bin_zero, bin_zero]
    | succ j =>
      have l1 : ((pasc K i).take 1).length = 1 := by rw [List.length_take, pasc_length]; omega
      rw [List.getElem?_append_right (by omega), l1, Nat.add_sub_cancel, List.getElem?_zipWith, List.getElem?_drop, Nat.add_comm 1 j, pasc_at h, pasc_at (show j < K by omega)]
      show some (((bin i (j + 1) : Nat) : Int) + ((bin i j : Nat) : Int)) = some (((bin i j + bin i (j + 1) : Nat)) : Int)
      rw [Int.natCast_add, Int.add_comm]
  · rw [List.getElem?_eq_none (by rw [List.length_append, List.length_take, List.length_zipWith, List.length_drop, pasc_length]; omega), List.getElem?_eq_none (by rw [pasc_length]; omega)]
/-- the binomial numbers of the places, below one another -/
def binW (n j : Nat) : List Int := (List.range n).map fun i => ((bin i j : Nat) : Int)
theorem binW_length {n j : Nat} : (binW n j).length = n := by unfold binW; rw [List.length_map, List.length_range]
theorem binW_take {n j i : Nat} (h : i ≤ n) : (binW n j).take i = binW i j := by
  unfold binW
  rw [← List.map_take, List.take_range, Nat.min_eq_left h]
theorem binW_at {n j i : Nat} (h : i < n) : (binW n j).getD i 0 = ((bin i j : Nat) : Int) := by
  unfold binW
  rw [List.getD, List.getElem?_map, List.getElem?_range h]
  rfl
/-- the sum of the binomial numbers of a hand's places -/
def tabN (ts : List Int) (k : Int) (j : Nat) : Int := tot ts (binW ts.length j) k
theorem tabN_succ {ts : List Int} {k : Int} {j i : Nat} (h : i < ts.length) : tabN (ts.take (i + 1)) k j = tabN (ts.take i) k j + if ts.getD i 0 = k then ((bin i j : Nat) : Int) else 0 := by
  unfold tabN
  have e := tot_succ (ts := ts) (ws := binW ts.length j) (k := k) h (by rw [binW_length]; exact h)
  rw [binW_take (by omega), binW_take (by omega), binW_at h] at e
  have l1 : (ts.take (i + 1)).length = i + 1 := by rw [List.length_take]; omega
  have l2 : (ts.take i).length = i := by rw [List.length_take]; omega
  rw [l1, l2]
  exact e
def tabR (ts : List Int) (m : Nat) (k : Nat) : List Int := (List.range m).map fun j => tabN ts (k : Int) j
def tabL (h : Int) (ts : List Int) (m : Nat) : List (List Int) := (List.range h.toNat).map fun k => tabR ts m k
theorem tabR_length {ts : List Int} {m k : Nat} : (tabR ts m k).length = m := by unfold tabR; rw [List.length_map, List.length_range]
theorem tabR_zero {m k : Nat} : tabR [] m k = List.replicate m 0 := by
  unfold tabR tabN tot
  apply List.ext_getElem?
  intro j
  by_cases h : j < m <;> simp [h]
theorem tabR_same {ts : List Int} {m k i : Nat} (h : i < ts.length) (hk : ts.getD i 0 = (k : Int)) : tabR (ts.take (i + 1)) m k = List.zipWith (fun a b => a + b) (tabR (ts.take i) m k) (pasc m i) := by
  apply List.ext_getElem?
  intro j
  by_cases hj : j < m
  · rw [List.getElem?_zipWith, pasc_at hj]
    unfold tabR
    rw [List.getElem?_map, List.getElem?_map, List.getElem?_range hj]
    show some (tabN (ts.take (i + 1)) k j) = some (tabN (ts.take i) k j + ((bin i j : Nat) : Int))
    rw [tabN_succ h, if_pos hk]
  · rw [List.getElem?_eq_none (by rw [tabR_length]; omega), List.getElem?_eq_none (by rw [List.length_zipWith, tabR_length, pasc_length]; omega)]
theorem tabR_other {ts : List Int} {m k i : Nat} (h : i < ts.length) (hk : ts.getD i 0 ≠ (k : Int)) : tabR (ts.take (i + 1)) m k = tabR (ts.take i) m k := by
  unfold tabR
  refine List.map_congr_left fun j _ => ?_
  rw [tabN_succ h, if_neg hk, Int.add_zero]
theorem tabL_set {h : Int} {ts : List Int} {m i : Nat} (hi : i < ts.length) (t0 : 0 ≤ ts.getD i 0) (t1 : ts.getD i 0 < h) :
    (tabL h (ts.take i) m).set (ts.getD i 0).toNat (List.zipWith (fun a b => a + b) (tabR (ts.take i) m (ts.getD i 0).toNat) (pasc m i)) = tabL h (ts.take (i + 1)) m := by
  apply List.ext_getElem?
  intro k
  unfold tabL
  rw [List.getElem?_set, List.getElem?_map, List.getElem?_map]
  by_cases hk : k < h.toNat
  · rw [List.getElem?_range hk]
    by_cases e : (ts.getD i 0).toNat = k
    · subst e
      rw [if_pos rfl, if_pos (by rw [List.length_map, List.length_range]; omega)]
      show some _ = some (tabR (ts.take (i + 1)) m (ts.getD i 0).toNat)
      rw [tabR_same hi (by omega)]
    · rw [if_neg e]
      show some (tabR (ts.take i) m k) = some (tabR (ts.take (i + 1)) m k)
      rw [tabR_other hi (by omega)]
  · have : (List.range h.toNat)[k]? = none := by rw [List.getElem?_eq_none_iff, List.length_range]; omega
    rw [this]
    split
    · split
      · rename_i z1 z2
        rw [List.length_map, List.length_range] at z2
        omega
      · rfl
    · rfl
def F_Row_table (C CN : Addr) : Spec
  | [r, v], R, Rx => asRow C (fun h ts => RowOk h ts ∧ v.dat = true ∧ (isNum v 0 40 = false → Rx (eIN CN v)) ∧ ∀ m, v = .int m → 0 ≤ m → m ≤ 40 → R (.lst ((tabL h ts m.toNat).map fun l => .lst (l.map .int)))) r
  | _, _, _ => False
theorem F_Row_table_is {C CN : Addr} {r v : D} {R : D → Prop} {Rx : Er → Prop} : F_Row_table C CN [r, v] R Rx = asRow C (fun h ts => RowOk h ts ∧ v.dat = true ∧ (isNum v 0 40 = false → Rx (eIN CN v)) ∧ ∀ m, v = .int m → 0 ≤ m → m ≤ 40 → R (.lst ((tabL h ts m.toNat).map fun l => .lst (l.map .int)))) r := rfl
def b_Row_table (Dx : Dm K "table" "Row.table" s_Row_table) : Binds K Dx.fd ["self", "most"] [] := Dx.F.bindsN fun _ _ _ _ _ _ us hl => match us, hl with | [_, _], _ => rfl
def n_Row_table : List Str := ["self", "most", "found", "here", "hand", "total", "number", "less"]
theorem sc_Row_table : FnScope n_Row_table ["self", "most"] (defScope s_Row_table) := ⟨rfl, rfl, rfl, by decide +kernel, rfl, by decide +kernel, by decide +kernel⟩
def dgN11 : Array Lean.Name := dgN10 ++ #[`F_Row_table_is]
local macro_rules | `(tactic| walk_at "dg") => do let xs ← dgN11.mapM fun n => `(Lean.Parser.Tactic.simpLemma| $(Lean.mkIdent n):term); `(tactic| simp only [$xs,*, List.getElem?_cons_zero, List.getElem?_cons_succ])
theorem ok_Row_table (T : Tx mg) (K_Row : Kx_Row K mg) (D_check_most : Df K mg "check_most" s_check_most) (D_is_number : Df K mg "is_number" s_is_number) (X_InvalidNumber : Xe K mg P.main.file "InvalidNumber" s_InvalidNumber___init__) (hsup : mg "super" = none) (htop : (P.main.scope.names.lookup ("super" : Str)).isSome = false) :
    FnOk P w K mg base (L2.CX P w) 4 K_Row.D_table.f K_Row.D_table.fd ["self", "most"] (spU (F_Row_table K_Row.C X_InvalidNumber.C)) := by
  have G_check_most := ok_check_most (P := P) (w := w) (base := base) T D_check_most D_is_number X_InvalidNumber hsup htop
  refine fn_u K_Row.D_table.F sc_Row_table (fun ds R Rx h => ?_) (fun cdv A outer s H E hr => have hu := hr.units
    (ds_cons (s_expr (d_call G_check_most (hr.mono (by decide)) D_check_most.g D_check_most.F.kp (b_check_most D_check_most) .nil dfR_nil pass_d (da_cons (d_var 1) da_nil)))
    (ds_cons (s_setLcU (i := 2) rfl sc_Row_table.nd (i_rg1 (da_cons (d_fld (d_var 0) K_Row.cls K_Row.n_hands) da_nil) T.m_range) (blkOk_by (own := [("hand", 4)]) (N := n_Row_table) (sc := defScope s_Row_table) (by decide +kernel)) (by decide) (fun _ _ _ _ _ => (g_name (i := 4) sc_Row_table.nd)) (fun _ _ _ _ _ => dts_nil) (fun _ _ _ _ _ => (u_ofF (f_mul (d_ofF (f_lst (da_cons d_int da_nil))) (d_var 1)))))
    (ds_cons (s_set (i := 3) sc_Row_table.nd (d_slice (d_ofF (f_lst (da_cons d_int (da_star (d_mul (d_ofF (f_lst (da_cons d_int da_nil))) (d_var 1)) da_nil)))) do_none (do_some (d_var 1))))
    (ds_cons (s_for (passes_of rfl) rfl (i_list (d_fld (d_var 0) K_Row.cls K_Row.n_own_turns)) (g_name (i := 4) sc_Row_table.nd)
      (ds_cons (s_stL (u_ofF (f_lend (f_lc rfl sc_Row_table.nd (i_zip (da_cons (d_ix (d_var 2) (d_var 4)) (da_cons (d_var 3) da_nil)) T.m_zip) (blkOk_by (own := [("total", 5), ("number", 6)]) (N := n_Row_table) (sc := defScope s_Row_table) (by decide +kernel)) (by decide) (fun _ _ _ _ _ => (g_tup (n := 2) rfl (gs_cons (g_name (i := 5) sc_Row_table.nd) (gs_cons (g_name (i := 6) sc_Row_table.nd) gs_nil)))) (fun _ _ _ _ _ => dts_nil) (fun _ _ _ _ _ => (d_add (d_var 5) (d_var 6)))))) (pl_name 2) (d_var 4))
        (ds_one (s_set (i := 3) sc_Row_table.nd (d_add (d_slice (d_var 3) do_none (do_some d_int)) (d_ofF (f_lc rfl sc_Row_table.nd (i_zip (da_cons (d_slice (d_var 3) (do_some d_int) do_none) (da_cons (d_var 3) da_nil)) T.m_zip) (blkOk_by (own := [("number", 6), ("less", 7)]) (N := n_Row_table) (sc := defScope s_Row_table) (by decide +kernel)) (by decide) (fun _ _ _ _ _ => (g_tup (n := 2) rfl (gs_cons (g_name (i := 6) sc_Row_table.nd) (gs_cons (g_name (i := 7) sc_Row_table.nd) gs_nil)))) (fun _ _ _ _ _ => dts_nil) (fun _ _ _ _ _ => (d_add (d_var 6) (d_var 7))))))))))
    (ds_one (s_retU 2)))))) ) fun ds R Rx h => ?_
  · match ds, h with
    | [r, v], _ => rfl
  · match ds, h with
    | [r, v], hh =>
      obtain ⟨h, ts, rfl, ok, hd, hx, hR⟩ := asRow_of hh
      simp only [n_Row_table]
      walk_at "dg"
      refine ⟨hd, fun z => ?_, hx⟩
      obtain ⟨m, rfl, m0, m1⟩ := isNum_of z
      obtain ⟨o1, o2, o3, o4, o5⟩ := ok
      obtain ⟨M, rfl⟩ : ∃ M : Nat, m = (M : Int) := ⟨m.toNat, by omega⟩
      have hR := hR _ rfl m0 m1
      rw [Int.toNat_natCast] at hR
      have r0 : (List.replicate M [D.int 0]).flatten = (List.replicate M (0 : Int)).map D.int := by rw [repone, repint]
      refine ⟨by omega, by omega, ?_⟩
      refine LcP.all (fun y => y = .lst ((List.replicate M (0 : Int)).map D.int)) (by rw [ups_length, sizeLine_eq]; omega) (fun i d N e hN => ?_) fun acc hl hacc => ?_
      · walk_at "dg"
        rw [Int.toNat_natCast]
        refine ⟨by omega, by omega, by omega, ?_⟩
        rw [r0]
        exact ⟨flatL_ints, hN _ rfl⟩
      rw [ups_length] at hl
      have ea : acc = (tabL h (ts.take 0) M).map fun l => D.lst (l.map D.int) := by
        unfold tabL
        rw [List.take_zero, List.map_map]
        apply List.ext_getElem?
        intro i
        rw [List.getElem?_map]
        by_cases hi : i < h.toNat
        · rw [List.getElem?_range hi, List.getElem?_eq_getElem (by omega)]
          rw [hacc _ (List.getElem_mem _)]
          show some _ = some (D.lst ((tabR [] M i).map D.int))
          rw [tabR_zero]
        · rw [List.getElem?_eq_none (by omega), List.getElem?_eq_none (by rw [List.length_range]; omega)]
          rfl
      intro bs0
      walk_at "dg"
      rw [Int.toNat_natCast]
      refine ⟨by omega, by omega, by omega, ?_⟩
      rw [r0]
      have h0 : cutD (D.int 1 :: (List.replicate M (0 : Int)).map D.int) none (some (M : Int)) = (pasc M 0).map D.int := by
        rw [cutD_to (b := M), ← List.map_cons, ← List.map_take, pasc_zero]
      rw [h0, ea]
      have tl : ∀ i, (tabL h (ts.take i) M).length = h.toNat := fun i => by unfold tabL; rw [List.length_map, List.length_range]
      refine ⟨by rw [List.length_map, List.length_replicate]; omega, fun i env => i ≤ ts.length ∧ ∃ (bs : List Addr) (e4 e5 e6 e7 : Option DV), env = [some (.val (row K_Row.C h ts)), some (.val (.int M)), some (.tre (D.lst ((tabL h (ts.take i) M).map fun l => D.lst (l.map D.int))).tr bs), some (.val (.lst ((pasc M i).map D.int))), e4, e5, e6, e7], ⟨by omega, _, _, _, _, _, rfl⟩, ?_, ?_⟩
      · rintro i d env e ⟨hi, bs, e4, e5, e6, e7, rfl⟩
        rw [List.getElem?_map] at e
        have hi2 : i < ts.length := by
          cases q : ts[i]? with
          | none => rw [q] at e; cases e
          | some z => exact (List.getElem?_eq_some_iff.mp q).1
        rw [List.getElem?_eq_getElem hi2] at e
        cases e
        have eg : ts[i] = ts.getD i 0 := by rw [List.getD, List.getElem?_eq_getElem hi2]; rfl
        have tm : ts.getD i 0 ∈ ts := by rw [← eg]; exact List.getElem_mem hi2
        obtain ⟨t0, t1⟩ := o5 _ tm
        rw [eg]
        generalize ht : ts.getD i 0 = t at t0 t1
        have hat : atI ((tabL h (ts.take i) M).map fun l => D.lst (l.map D.int)) t = some (D.lst ((tabR (ts.take i) M t.toNat).map D.int)) := by
          unfold tabL
          rw [List.map_map]
          exact atI_map (k := t.toNat) (by omega) (by omega)
        have hs := tabL_set (m := M) hi2 (by rw [ht]; exact t0) (by rw [ht]; exact t1)
        rw [ht] at hs
        walk_at "dg"
        refine ⟨_, hat, ?_⟩
        rw [fZip_lst, pairs_intsL]
        refine LcP.of (fun p => .int (p.1 + p.2)) (by rw [List.length_zip, tabR_length, pasc_length, sizeLine_eq]; omega) (fun j p N e hN => ?_) ?_
        · walk_at "dg"
          exact hN
        rw [zip_add]
        refine ⟨flatL_ints, flatL_ints, _, rfl, t.toNat, by unfold ixN; rw [trs_length, List.length_map, tl, if_pos t0, if_pos (by omega)], fun bs2 => ?_⟩
        have c1 : cutD ((pasc M i).map D.int) none (some 1) = ((pasc M i).take 1).map D.int := (cutD_to (b := 1)).trans (by rw [List.map_take])
        rw [c1, cutD_1, ← List.map_drop, pairs_intsL]
        refine LcP.of (fun p => .int (p.1 + p.2)) (by rw [List.length_zip, List.length_drop, pasc_length, sizeLine_eq]; omega) (fun j p N e hN => ?_) ?_
        · walk_at "dg"
          exact hN
        rw [zip_add]
        refine ⟨by simp only [List.length_map, List.length_zipWith, List.length_take, List.length_drop, pasc_length]; omega, by omega, ?_, ?_⟩
        · rw [trs_set, ← hs, List.map_set]
          rfl
        · rw [← List.map_append, pasc_succ]
      · rintro env ⟨_, bs, e4, e5, e6, e7, rfl⟩
        rw [List.take_length]
        walk_at "dg"
        exact ⟨_, rfl, hR⟩
local macro_rules | `(tactic| walk_at "dg") => do let xs ← dgN11.mapM fun n => `(Lean.Parser.Tactic.simpLemma| $(Lean.mkIdent n):term); `(tactic| simp only [$xs,*, List.getElem?_cons_zero, List.getElem?_cons_succ])
def isInt : D → Bool
  | .int _ => true
  | _ => false
def isNums : D → Bool
  | .lst xs => xs.all isInt
  | .tup xs => xs.all isInt
  | _ => false
def lenD : D → Nat
  | .lst xs => xs.length
  | .tup xs => xs.length
  | _ => 0
theorem all_ints {ns : List Int} : (ns.map D.int).all isInt = true := by
  rw [List.all_map]
  exact List.all_eq_true.mpr fun _ _ => rfl
theorem ints_of_all : ∀ {xs : List D}, xs.all isInt = true → ∃ ns : List Int, xs = ns.map D.int
  | [], _ => ⟨[], rfl⟩
  | x :: xs, h => by
    rw [List.all_cons, Bool.and_eq_true] at h
    obtain ⟨ns, rfl⟩ := ints_of_all h.2
    cases x <;> first | exact (Bool.false_ne_true h.1).elim | exact ⟨_ :: ns, rfl⟩
theorem datL_mem : ∀ {xs : List D} {x : D}, datL xs = true → x ∈ xs → x.dat = true
  | y :: ys, x, h, m => by
    rw [datL_cons, Bool.and_eq_true] at h
    rcases List.mem_cons.mp m with rfl | m
    · exact h.1
    · exact datL_mem h.2 m
def F_are_numbers : Spec
  | [x], R, Rx => x.dat = true ∧ lenD x ≤ 100000 ∧ R (.bl (isNums x))
  | _, _, _ => False
theorem F_are_numbers_is {x : D} {R : D → Prop} {Rx : Er → Prop} : F_are_numbers [x] R Rx = (x.dat = true ∧ lenD x ≤ 100000 ∧ R (.bl (isNums x))) := rfl
theorem F_are_numbers_of {ds : List D} {R : D → Prop} {Rx : Er → Prop} (z : F_are_numbers ds R Rx) : ∃ (x : D), ds = [x] ∧ (x.dat = true ∧ lenD x ≤ 100000 ∧ R (.bl (isNums x))) := by
  unfold F_are_numbers at z
  split at z
  · exact ⟨_, rfl, z⟩
  · exact z.elim
def b_are_numbers (Dx : Df K mg "are_numbers" s_are_numbers) : Binds K Dx.fd ["value"] [] := Dx.F.bindsN fun _ _ _ _ _ _ us hl => match us, hl with | [_], _ => rfl
def n_are_numbers : List Str := ["value", "number"]
theorem sc_are_numbers : FnScope n_are_numbers ["value"] (defScope s_are_numbers) := ⟨rfl, rfl, rfl, by decide +kernel, rfl, by decide +kernel, by decide +kernel⟩
theorem ok_are_numbers (T : Tx mg) (D_are_numbers : Df K mg "are_numbers" s_are_numbers) : FnOk P w K mg base (L2.CX P w) 1 D_are_numbers.f D_are_numbers.fd ["value"] (spD F_are_numbers) := by

  refine fn_d D_are_numbers.F sc_are_numbers (fun ds R Rx hs0 => ?_) (fun cdv A outer s H E hr => have hu := hr.units
    (ds_cons (s_if (dt_not (dt_tru (d_callB b_isi T.m_isinstance PyProof.Rows.boot_isinstance (da_cons (d_var 0) (da_cons (d_tup (da_cons (d_bty T.m_list PyProof.Rows.boot_list) (da_cons (d_bty T.m_tuple PyProof.Rows.boot_tuple) da_nil))) da_nil))))) (ds_one (s_ret d_bl)) ds_nil)
    (ds_one (s_ret (d_callB (b_all rfl) T.m_all PyProof.Rows.boot_all (da_cons (d_ofF (f_lc rfl sc_are_numbers.nd (i_alt (i_list (d_var 0)) (i_tup (d_var 0))) (blkOk_by (own := [("number", 1)]) (N := n_are_numbers) (sc := defScope s_are_numbers) (by decide +kernel)) (by decide) (fun _ _ _ _ _ => (g_name (i := 1) sc_are_numbers.nd)) (fun _ _ _ _ _ => dts_nil) (fun _ _ _ _ _ => (d_and (d_callB b_isi T.m_isinstance PyProof.Rows.boot_isinstance (da_cons (d_var 1) (da_cons (d_bty T.m_int PyProof.Rows.boot_int) da_nil))) (d_one (d_not (d_callB b_isi T.m_isinstance PyProof.Rows.boot_isinstance (da_cons (d_var 1) (da_cons (d_bty T.m_bool PyProof.Rows.boot_bool) da_nil))))))))) da_nil))))) ) fun ds R Rx hs0 => ?_
  · obtain ⟨_, rfl, _⟩ := F_are_numbers_of hs0
    rfl
  · obtain ⟨x, rfl, hs⟩ := F_are_numbers_of hs0
    clear hs0
    simp only [n_are_numbers]
    walk_at "dg"
    obtain ⟨hd, hl, hR⟩ := hs
    cases x <;> try exact (Bool.false_ne_true hd).elim
    all_goals walk_at "dg"
    all_goals try exact hR
    · rename_i xs
      have hd : datL xs = true := hd
      left
      refine LcP.map (fun d => .bl (isInt d)) (by rw [sizeLine_eq]; exact Nat.le_trans hl (by decide)) (fun i d N e hN => ?_) ?_
      · have dd := datL_mem hd (List.mem_of_getElem? e)
        cases d <;> first | exact (Bool.false_ne_true dd).elim | (walk_at "dg"; exact hN)
      · have e : asBls (xs.map fun d => D.bl (isInt d)) = some (xs.map isInt) := by
          have := asBls_map (xs.map isInt)
          rw [List.map_map] at this
          exact this
        refine ⟨_, e, ?_⟩
        rw [List.all_map]
        exact hR
    · rename_i xs
      have hd : datL xs = true := hd
      right
      refine LcP.map (fun d => .bl (isInt d)) (by rw [sizeLine_eq]; exact Nat.le_trans hl (by decide)) (fun i d N e hN => ?_) ?_
      · have dd := datL_mem hd (List.mem_of_getElem? e)
        cases d <;> first | exact (Bool.false_ne_true dd).elim | (walk_at "dg"; exact hN)
      · have e : asBls (xs.map fun d => D.bl (isInt d)) = some (xs.map isInt) := by
          have := asBls_map (xs.map isInt)
          rw [List.map_map] at this
          exact this
        refine ⟨_, e, ?_⟩
        rw [List.all_map]
        exact hR
def dgN12 : Array Lean.Name := dgN11 ++ #[`F_are_numbers_is]
local macro_rules | `(tactic| walk_at "dg") => do let xs ← dgN12.mapM fun n => `(Lean.Parser.Tactic.simpLemma| $(Lean.mkIdent n):term); `(tactic| simp only [$xs,*, List.getElem?_cons_zero, List.getElem?_cons_succ])
def F_Row_totals (C CW : Addr) : Spec
  | [r, x], R, Rx => asRow C (fun h ts => RowOk h ts ∧ x.dat = true ∧ lenD x ≤ 100000 ∧ (∀ xs, x = .tup xs → isNums x = false ∨ lenD x ≠ ts.length) ∧ (∀ ws : List Int, x = .lst (ws.map .int) → ws.length = ts.length → R (.lst ((totL h ts ws).map .int))) ∧ ((isNums x = false ∨ lenD x ≠ ts.length) → Rx (eIW CW x))) r
  | _, _, _ => False
theorem F_Row_totals_is {C CW : Addr} {r : D} {x : D} {R : D → Prop} {Rx : Er → Prop} : F_Row_totals C CW [r, x] R Rx = (asRow C (fun h ts => RowOk h ts ∧ x.dat = true ∧ lenD x ≤ 100000 ∧ (∀ xs, x = .tup xs → isNums x = false ∨ lenD x ≠ ts.length) ∧ (∀ ws : List Int, x = .lst (ws.map .int) → ws.length = ts.length → R (.lst ((totL h ts ws).map .int))) ∧ ((isNums x = false ∨ lenD x ≠ ts.length) → Rx (eIW CW x))) r) := rfl
theorem F_Row_totals_of {C CW : Addr} {ds : List D} {R : D → Prop} {Rx : Er → Prop} (z : F_Row_totals C CW ds R Rx) : ∃ (r : D) (x : D), ds = [r, x] ∧ (asRow C (fun h ts => RowOk h ts ∧ x.dat = true ∧ lenD x ≤ 100000 ∧ (∀ xs, x = .tup xs → isNums x = false ∨ lenD x ≠ ts.length) ∧ (∀ ws : List Int, x = .lst (ws.map .int) → ws.length = ts.length → R (.lst ((totL h ts ws).map .int))) ∧ ((isNums x = false ∨ lenD x ≠ ts.length) → Rx (eIW CW x))) r) := by
  unfold F_Row_totals at z
  split at z
  · exact ⟨_, _, rfl, z⟩
  · exact z.elim
def b_Row_totals (Dx : Dm K "totals" "Row.totals" s_Row_totals) : Binds K Dx.fd ["self", "worths"] [] := Dx.F.bindsN fun _ _ _ _ _ _ us hl => match us, hl with | [_, _], _ => rfl
def n_Row_totals : List Str := ["self", "worths", "found", "hand", "worth"]
theorem sc_Row_totals : FnScope n_Row_totals ["self", "worths"] (defScope s_Row_totals) := ⟨rfl, rfl, rfl, by decide +kernel, rfl, by decide +kernel, by decide +kernel⟩
theorem ok_Row_totals (T : Tx mg) (K_Row : Kx_Row K mg) (X_InvalidWorths : Xe K mg P.main.file "InvalidWorths" s_InvalidWorths___init__) (D_are_numbers : Df K mg "are_numbers" s_are_numbers) (hsup : mg "super" = none) (htop : (P.main.scope.names.lookup ("super" : Str)).isSome = false) : FnOk P w K mg base (L2.CX P w) 3 K_Row.D_totals.f K_Row.D_totals.fd ["self", "worths"] (spN (F_Row_totals K_Row.C X_InvalidWorths.C)) := by
  have G_are_numbers := ok_are_numbers (P := P) (w := w) (base := base) T D_are_numbers
  have GX_InvalidWorths := ok_InvalidWorths___init__ (P := P) (w := w) (base := base) X_InvalidWorths hsup htop
  refine fn_n K_Row.D_totals.F sc_Row_totals (fun ds R Rx hs0 => ?_) (fun cdv A outer s H E hr => have hu := hr.units
    (ds_cons (s_if (dw_pt (dw_or (dt_not (dt_tru (d_call G_are_numbers (hr.mono (by decide)) D_are_numbers.g D_are_numbers.F.kp (b_are_numbers D_are_numbers) .nil dfR_nil pass_d (da_cons (d_var 1) da_nil)))) (dw_or1 (dt_cmp (c_ne hu) (d_callB b_len T.m_len boot_len (da_cons (d_var 1) da_nil)) (d_callB b_len T.m_len boot_len (da_cons (d_fld (d_var 0) K_Row.cls K_Row.n_own_turns) da_nil)) (nomark _))))) (ds_one (s_raise X_InvalidWorths.e.ox X_InvalidWorths.e.iC X_InvalidWorths.e.tI (by decide) (by decide) GX_InvalidWorths (hr.mono (by decide)) (b_InvalidWorths___init__ X_InvalidWorths) passL X_InvalidWorths.g rfl (takes_of rfl rfl rfl rfl) (da_cons (d_var 1) da_nil))) ds_nil)
    (ds_cons (s_setO (i := 2) sc_Row_totals.nd (f_mul (d_ofF (f_lst (da_cons d_int da_nil))) (d_fld (d_var 0) K_Row.cls K_Row.n_hands)))
    (ds_cons (s_for (passes_of rfl) rfl (i_zip (da_cons (d_fld (d_var 0) K_Row.cls K_Row.n_own_turns) (da_cons (d_var 1) da_nil)) T.m_zip) (g_tup (n := 2) rfl (gs_cons (g_name (i := 3) sc_Row_totals.nd) (gs_cons (g_name (i := 4) sc_Row_totals.nd) gs_nil)))
      (ds_one (s_augO 2 ip_add (d_var 3) (d_var 4))))
    (ds_one (s_retO 2))))) ) fun ds R Rx hs0 => ?_
  · obtain ⟨_, _, rfl, _⟩ := F_Row_totals_of hs0
    rfl
  · obtain ⟨r, x, rfl, hs⟩ := F_Row_totals_of hs0
    clear hs0
    simp only [n_Row_totals]
    walk_at "dg"
    obtain ⟨h, ts, rfl, ok, hd, hl, ht, hR, hx⟩ := asRow_of hs
    clear hs
    walk_at "dg"
    refine ⟨hd, hl, fun z => hx (.inl z), fun z => ?_⟩
    cases x <;> try exact (Bool.false_ne_true z).elim
    case tup xs =>
      walk_at "dg"
      have y := (ht xs rfl).resolve_left (by rw [z]; decide)
      exact ⟨fun _ => hx (.inr y), fun y2 => absurd y2 (by have y3 : xs.length ≠ ts.length := y; omega)⟩
    rename_i xs
    obtain ⟨ws, rfl⟩ := ints_of_all z
    have hl2 : ws.length ≤ 100000 := by have : (ws.map D.int).length ≤ 100000 := hl; rw [List.length_map] at this; exact this
    walk_at "dg"
    have hR := hR ws rfl
    obtain ⟨o1, o2, o3, o4, o5⟩ := ok
    have e0 : (List.replicate h.toNat [D.int 0]).flatten = (totL h (ts.take 0) (ws.take 0)).map D.int := by
      rw [List.flatten_replicate_singleton]
      unfold totL tot
      apply List.ext_getElem?
      intro i
      by_cases hi : i < h.toNat
      · simp [hi]
      · simp [hi]
    refine ⟨fun y => hx (.inr (show (ws.map D.int).length ≠ ts.length by rw [List.length_map]; omega)), fun y => ⟨by omega, by omega, by omega, fun i env => i ≤ ts.length ∧ ∃ e3 e4 : Option DV, env = [some (.val (row K_Row.C h ts)), some (.val (.lst (ws.map D.int))), some (.own ((totL h (ts.take i) (ws.take i)).map D.int)), e3, e4], ⟨by omega, _, _, by rw [e0]⟩, ?_, ?_⟩⟩
    · rintro i d env e ⟨hi, e3, e4, rfl⟩
      obtain ⟨h1, h2, rfl⟩ := pairs_ints e
      have tm : ts.getD i 0 ∈ ts := by
        simp only [List.getD, List.getElem?_eq_getElem h1]
        exact List.getElem_mem h1
      obtain ⟨t0, t1⟩ := o5 _ tm
      walk_at "dg"
      have ht : (ts.getD i 0).toNat < h.toNat := by omega
      have lt : (totL h (ts.take i) (ws.take i)).length = h.toNat := by unfold totL; simp
      refine ⟨(ts.getD i 0).toNat, ?_, tot (ts.take i) (ws.take i) (ts.getD i 0), ?_, by omega, ?_⟩
      · unfold ixN
        rw [lt, if_pos t0, if_pos (by omega)]
      · unfold totL
        simp only [List.getElem?_map, List.getElem?_range ht, Option.map_some]
        rw [Int.toNat_of_nonneg t0]
      · rw [show totL h (ts.take i) (ws.take i) = (List.range h.toNat).map fun (k : Nat) => tot (ts.take i) (ws.take i) (k : Int) from rfl, ← List.map_set, totL_set t0 t1]
        congr 1
        unfold totL
        refine List.map_congr_left fun k hk => ?_
        have hk := List.mem_range.mp hk
        rw [tot_succ h1 h2]
        by_cases z : k = (ts.getD i 0).toNat
        · have z2 : ts.getD i 0 = (k : Int) := by omega
          rw [if_pos z, if_pos z2, z2]
        · have z2 : ¬ ts.getD i 0 = (k : Int) := by omega
          rw [if_neg z, if_neg z2, Int.add_zero]
    · rintro env ⟨_, e3, e4, rfl⟩
      have hl : ws.length = ts.length := by omega
      have el : (pairs (ts.map D.int) (ws.map D.int)).length = ts.length := by rw [pairs_length, List.length_map, List.length_map, hl, Nat.min_self]
      rw [el, List.take_length, ← hl, List.take_length]
      walk_at "dg"
      exact hR hl
local macro_rules | `(tactic| walk_at "rk") => `(tactic| first
  | assumption
  | (refine rok_app ?_ ?_ ?_ <;> first | walk_at "rk" | (simp only [List.length_append, List.length_reverse, List.length_map, List.length_replicate]; omega))
  | (refine rok_rev ?_; walk_at "rk")
  | (refine rok_map ?_ _ (fun t => fmod_in (by assumption)); walk_at "rk")
  | omega
  | decide
  | (refine log_lt (k := 80) ?_ (by decide) (by decide); omega))
local macro_rules | `(tactic| walk_at "fin") => `(tactic| ((repeat' (first | (with_reducible assumption) | (with_reducible refine And.intro ?_ ?_) | (with_reducible intro _))); all_goals first | (with_reducible assumption) | omega | contradiction | trivial))
local macro_rules | `(tactic| walk_at "cj") => `(tactic| repeat' (refine And.intro (by walk_at "rk") ?_))
/-- a right change of a row of n turns of h hands -/
def chOk (h : Int) (n : Nat) : D → Bool
  | .tup [x, y] => isNum x 0 ((n : Int) - 1) && isNum y 0 (h - 1)
  | _ => false
def F_is_change (C : Addr) : Spec
  | [r, v], R, Rx => asRow C (fun h ts => RowOk h ts ∧ v.dat = true ∧ (match v with | .tup xs => xs.length ≤ 1000 | _ => True) ∧ R (.bl (chOk h ts.length v))) r
  | _, _, _ => False
theorem F_is_change_is {C : Addr} {r : D} {v : D} {R : D → Prop} {Rx : Er → Prop} : F_is_change C [r, v] R Rx = (asRow C (fun h ts => RowOk h ts ∧ v.dat = true ∧ (match v with | .tup xs => xs.length ≤ 1000 | _ => True) ∧ R (.bl (chOk h ts.length v))) r) := rfl
theorem F_is_change_of {C : Addr} {ds : List D} {R : D → Prop} {Rx : Er → Prop} (z : F_is_change C ds R Rx) : ∃ (r : D) (v : D), ds = [r, v] ∧ (asRow C (fun h ts => RowOk h ts ∧ v.dat = true ∧ (match v with | .tup xs => xs.length ≤ 1000 | _ => True) ∧ R (.bl (chOk h ts.length v))) r) := by
  unfold F_is_change at z
  split at z
  · exact ⟨_, _, rfl, z⟩
  · exact z.elim
def b_is_change (Dx : Df K mg "is_change" s_is_change) : Binds K Dx.fd ["row", "value"] [] := Dx.F.bindsN fun _ _ _ _ _ _ us hl => match us, hl with | [_, _], _ => rfl
def n_is_change : List Str := ["row", "value"]
theorem sc_is_change : FnScope n_is_change ["row", "value"] (defScope s_is_change) := ⟨rfl, rfl, rfl, by decide +kernel, rfl, by decide +kernel, by decide +kernel⟩
theorem ok_is_change (T : Tx mg) (K_Row : Kx_Row K mg) (D_is_change : Df K mg "is_change" s_is_change) (D_is_number : Df K mg "is_number" s_is_number) : FnOk P w K mg base (L2.CX P w) 3 D_is_change.f D_is_change.fd ["row", "value"] (spD (F_is_change K_Row.C)) := by
  have G_is_number := ok_is_number (P := P) (w := w) (base := base) D_is_number T.m_isinstance T.m_int T.m_bool
  have G_Row___len__ := ok_Row___len__ (P := P) (w := w) (base := base) T K_Row
  refine fn_d D_is_change.F sc_is_change (fun ds R Rx hs0 => ?_) (fun cdv A outer s H E hr => have hu := hr.units
    (ds_cons (s_if (dw_pt (dw_or (dt_not (dt_tru (d_callB b_isi T.m_isinstance PyProof.Rows.boot_isinstance (da_cons (d_var 1) (da_cons (d_bty T.m_tuple PyProof.Rows.boot_tuple) da_nil))))) (dw_or1 (dt_cmp (c_ne hu) (d_callB b_len T.m_len boot_len (da_cons (d_var 1) da_nil)) d_int (nomark _))))) (ds_one (s_ret d_bl)) ds_nil)
    (ds_one (s_ret (d_and (d_call G_is_number (hr.mono (by decide)) D_is_number.g D_is_number.F.kp (b_is_number D_is_number) .nil dfR_nil pass_d (da_cons (d_ix (d_var 1) d_int) (da_cons d_int (da_cons (d_sub (d_callB (b_lenOw K_Row.o___len__ G_Row___len__ (b_Row___len__ K_Row.D___len__) (hr.mono (by decide))) T.m_len boot_len (da_cons (d_var 0) da_nil)) d_int) da_nil)))) (d_one (d_call G_is_number (hr.mono (by decide)) D_is_number.g D_is_number.F.kp (b_is_number D_is_number) .nil dfR_nil pass_d (da_cons (d_ix (d_var 1) d_int) (da_cons d_int (da_cons (d_sub (d_fld (d_var 0) K_Row.cls K_Row.n_hands) d_int) da_nil))))))))) ) fun ds R Rx hs0 => ?_
  · obtain ⟨_, _, rfl, _⟩ := F_is_change_of hs0
    rfl
  · obtain ⟨r, v, rfl, hs⟩ := F_is_change_of hs0
    clear hs0
    simp only [n_is_change]
    obtain ⟨h, ts, rfl, ro, vd, vl, hR⟩ := asRow_of hs
    have hl := ro.2.2.2.1
    cases v with
    | tup xs =>
      walk_at "dg"
      match xs, vd, vl, hR with
      | [], vd, vl, hR => walk_at "dg"; exact ⟨fun _ => hR, fun z => absurd z (by decide)⟩
      | [x], vd, vl, hR => walk_at "dg"; exact ⟨fun _ => hR, fun z => absurd z (by decide)⟩
      | x :: y :: z :: r, vd, vl, hR =>
        walk_at "dg"
        exact ⟨fun _ => hR, fun z => absurd z (by omega)⟩
      | [x, y], vd, vl, hR =>
        walk_at "dg"
        have vd : (x.dat && (y.dat && true)) = true := vd
        simp only [Bool.and_true, Bool.and_eq_true] at vd
        have hR : R (.bl (isNum x 0 ((ts.length : Int) - 1) && isNum y 0 (h - 1))) := hR
        refine ⟨fun z => absurd rfl z, fun _ => ⟨hl, by omega, by omega, vd.1, fun z => ⟨vd.2, ?_⟩, fun z => ?_⟩⟩
        · rw [z, Bool.true_and] at hR
          exact hR
        · rw [z, Bool.false_and] at hR
          exact hR
    | _ => first | exact (Bool.false_ne_true vd).elim | (walk_at "dg"; exact hR)
theorem nums_atX {xs : List D} {i : Nat} {d : D} (e : (nums 0 xs)[i]? = some d) : ∃ c, xs[i]? = some c ∧ d = .tup [.int (i : Int), c] := by
  obtain ⟨c, e1, e2⟩ := nums_get xs i 0 d e
  rw [Int.zero_add] at e2
  exact ⟨c, e1, e2⟩
theorem chOk_of {h : Int} {n : Nat} {c : D} (z : chOk h n c = true) : ∃ p v : Int, c = .tup [.int p, .int v] ∧ 0 ≤ p ∧ p < n ∧ 0 ≤ v ∧ v < h := by
  cases c <;> try exact (Bool.false_ne_true z).elim
  rename_i xs
  match xs, z with
  | [], z => exact (Bool.false_ne_true z).elim
  | [x], z => exact (Bool.false_ne_true z).elim
  | x :: y :: q :: r, z => exact (Bool.false_ne_true z).elim
  | [x, y], z =>
    have z : (isNum x 0 ((n : Int) - 1) && isNum y 0 (h - 1)) = true := z
    rw [Bool.and_eq_true] at z
    obtain ⟨p, rfl, p0, p1⟩ := isNum_of z.1
    obtain ⟨v, rfl, v0, v1⟩ := isNum_of z.2
    exact ⟨p, v, rfl, p0, by omega, v0, by omega⟩
/-- what a row makes of changes: the place of the first wrong one, or the turns -/
def handX (h : Int) : Nat → List D → List Int → List Int → Sum Nat (List Int)
  | _, [], _, ts => .inr ts
  | i, c :: cs, seen, ts => match c with
    | .tup [.int p, .int v] => if chOk h ts.length (.tup [.int p, .int v]) = true ∧ p ∉ seen then handX h (i + 1) cs (p :: seen) (ts.set p.toNat v) else .inl i
    | _ => .inl i
theorem handX_t {h : Int} {i : Nat} {p v : Int} {cs : List D} {seen ts : List Int} : handX h i (.tup [.int p, .int v] :: cs) seen ts = if chOk h ts.length (.tup [.int p, .int v]) = true ∧ p ∉ seen then handX h (i + 1) cs (p :: seen) (ts.set p.toNat v) else .inl i := rfl
def F_Row_handed (C CC : Addr) : Spec := fun ds R Rx => ∃ (h : Int) (ts : List Int) (cs : List D), ds = row C h ts :: cs ∧ RowOk h ts ∧ cs.length ≤ 1000 ∧ (∀ c ∈ cs, c.dat = true ∧ ∀ xs, c = .tup xs → xs.length ≤ 1000) ∧ (∀ i, handX h 0 cs [] ts = .inl i → Rx (eIC CC i)) ∧ ∀ us, handX h 0 cs [] ts = .inr us → R (row C h us)
def n_Row_handed : List Str := ["self", "changes", "found", "seen", "at", "change"]
theorem sc_Row_handed : FnScope n_Row_handed ["self", "changes"] (defScope s_Row_handed) := ⟨rfl, rfl, rfl, by decide +kernel, rfl, by decide +kernel, by decide +kernel⟩
def dgN13 : Array Lean.Name := dgN12 ++ #[`F_Row_totals_is, `F_is_change_is]
local macro_rules | `(tactic| walk_at "dg") => do let xs ← dgN13.mapM fun n => `(Lean.Parser.Tactic.simpLemma| $(Lean.mkIdent n):term); `(tactic| simp only [$xs,*, List.getElem?_cons_zero, List.getElem?_cons_succ])
theorem ok_Row_handed (T : Tx mg) (K_Row : Kx_Row K mg) (X_InvalidHands : Xe K mg P.main.file "InvalidHands" s_InvalidHands___init__) (X_InvalidTurn : Xe K mg P.main.file "InvalidTurn" s_InvalidTurn___init__) (X_InvalidChange : Xe K mg P.main.file "InvalidChange" s_InvalidChange___init__) (D_is_change : Df K mg "is_change" s_is_change) (D_is_number : Df K mg "is_number" s_is_number) (D_check_hands : Df K mg "check_hands" s_check_hands) (hsup : mg "super" = none) (htop : (P.main.scope.names.lookup ("super" : Str)).isSome = false) : FnR P w K mg base (L2.CX P w) 6 K_Row.D_handed.f (spD (F_Row_handed K_Row.C X_InvalidChange.C)) := by
  have G_is_change := ok_is_change (P := P) (w := w) (base := base) T K_Row D_is_change D_is_number
  have G_Row___init__ := ok_Row___init__ (P := P) (w := w) (base := base) T K_Row X_InvalidHands X_InvalidTurn D_check_hands D_is_number hsup htop
  have GX_InvalidChange := ok_InvalidChange___init__ (P := P) (w := w) (base := base) X_InvalidChange hsup htop
  refine fn_dS (ps := ["self"]) (pv := "changes") K_Row.D_handed.F sc_Row_handed (fun ds R Rx h => ?_) (fun kV doc pm an cdv ct us rest hl => ?_) (fun cdv A outer s H E hr => have hu := hr.units
    (dss_ofM (mss_cons (ms_set (i := 2) sc_Row_handed.nd (m_ofF (f_list (d_fld (d_var 0) K_Row.cls K_Row.n_own_turns) T.m_list)))
    (mss_cons (ms_set (i := 3) sc_Row_handed.nd (m_set0 (w := w) rfl T.m_set))
    (mss_cons (ms_for (passes_of rfl) rfl (i_enumT (da_cons (d_var 1) da_nil) T.m_enumerate) (g_tup (n := 2) rfl (gs_cons (g_name (i := 4) sc_Row_handed.nd) (gs_cons (g_name (i := 5) sc_Row_handed.nd) gs_nil)))
      (mss_cons (ms_if (mw_pt (mw_or (mt_of (dt_not (dt_tru (d_call G_is_change (hr.mono (by decide)) D_is_change.g D_is_change.F.kp (b_is_change D_is_change) .nil dfR_nil pass_d (da_cons (d_var 0) (da_cons (d_var 5) da_nil)))))) (mw_or1 (mt_sin (w := w) rfl (m_of (d_ix (d_var 5) d_int)) (m_of (d_var 3))))))
          (mss_one (ms_up (s_raise X_InvalidChange.e.ox X_InvalidChange.e.iC X_InvalidChange.e.tI (by decide) (by decide) GX_InvalidChange (hr.mono (by decide)) (b_InvalidChange___init__ X_InvalidChange) passL X_InvalidChange.g rfl (takes_of rfl rfl rfl rfl) (da_cons (d_var 4) da_nil))))
          mss_nil)
        (mss_cons (ms_expr (m_sadd (w := w) rfl (m_of (d_var 3)) (m_of (d_ix (d_var 5) d_int))))
        (mss_one (ms_stL (m_of (d_ix (d_var 5) d_int)) (m_of (d_var 2)) (m_of (d_ix (d_var 5) d_int)))))))
    (mss_one (ms_ret (m_lendP [2] (d_makeN K_Row.mkr G_Row___init__ (hr.mono (by decide)) K_Row.g (b_Row___init__ K_Row.D___init__) pass_d (da_cons (d_fld (d_var 0) K_Row.cls K_Row.n_hands) (da_cons (d_var 2) da_nil)))))))))) ) fun ds R Rx h => ?_
  · obtain ⟨h, ts, cs, rfl, ro, hl, _⟩ := h
    simp [sizeLine_eq]
    omega
  · exact StX.bind_star1 (B := fun us => bindArgs (PySem.W.fnOf "handed" "Row.handed" (defArgs s_Row_handed) (defBody s_Row_handed) (defScope s_Row_handed) .none kV doc pm an cdv ct) ⟨us, []⟩) (p1 := "self") (pv := "changes") (fun a => rfl) (fun a r rs => rfl) us rest hl
  · obtain ⟨h, ts, cs, rfl, ro, hl, hc, hx, hR⟩ := h
    simp only [n_Row_handed, List.length_cons, List.length_nil, List.take_succ_cons, List.take_zero, List.drop_succ_cons, List.drop_zero, List.cons_append, List.nil_append]
    walk_at "dg"
    intro a _ a2 ha2
    have na : a2 ≠ a := fun z => by
      rw [z, mset_same] at ha2
      cases ha2
    have ht := ro.2.2.2.2
    refine ⟨fun i ev M => ∃ (seen cur : List Int) (e4 e5 : Option D), ev = [some (row K_Row.C h ts), some (.tup cs), some (.adr a), some (.adr a2), e4, e5] ∧ M a = some (.lst (cur.map D.int)) ∧ (∃ s n, M a2 = some (.st w s n) ∧ (∀ k : Int, s k = true ↔ k ∈ seen) ∧ n ≤ i) ∧ cur.length = ts.length ∧ (∀ t ∈ cur, 0 ≤ t ∧ t < h) ∧ handX h i (cs.drop i) seen cur = handX h 0 cs [] ts ∧ i ≤ cs.length, ⟨[], ts, none, none, rfl, by rw [mset_ne na.symm, mset_same], ⟨_, 0, mset_same, fun k => by simp, Nat.le_refl _⟩, rfl, ht, rfl, Nat.zero_le _⟩, ?_, ?_⟩
    · rintro i d ev M ed ⟨seen, cur, e4, e5, rfl, hMa, ⟨s, n, hMs, hs, hn⟩, hcl, hct, hX, hi⟩
      obtain ⟨c, ec, rfl⟩ := nums_atX ed
      obtain ⟨hi2, _⟩ := List.getElem?_eq_some_iff.mp ec
      have hd : cs.drop i = c :: cs.drop (i + 1) := by
        rw [List.drop_eq_getElem_cons hi2]
        rw [List.getElem?_eq_getElem hi2] at ec
        cases ec
        rfl
      rw [hd] at hX
      obtain ⟨c1, c2⟩ := hc c (List.mem_of_getElem? ec)
      walk_at "dg"
      have bad : ∀ e : Er, e = ⟨X_InvalidChange.C, ["at", "code"], [.int (i : Int), .str "InvalidChange"]⟩ → handX h i (c :: cs.drop (i + 1)) seen cur = .inl i → Rx e := fun e z y => by
        rw [z]
        exact hx i (by rw [← hX]; exact y)
      refine ⟨ro, c1, ?_, fun z => bad _ rfl ?_, fun z => ?_⟩
      · cases c <;> first | trivial | exact c2 _ rfl
      · unfold handX
        split
        · rw [hcl, if_neg (fun y => by rw [z] at y; exact Bool.false_ne_true y.1)]
        · rfl
      obtain ⟨p, v, rfl, p0, p1, v0, v1⟩ := chOk_of z
      walk_at "dg"
      refine ⟨s, ⟨n, hMs⟩, fun y => bad _ rfl ?_, fun y => ⟨⟨s, n, hMs⟩, s, n, hMs, ?_, cur.map D.int, ?_, p.toNat, ?_, p :: seen, cur.set p.toNat v, ?_, ⟨fun j => s j || decide (j = p), if s p = true then n else n + 1, by rw [mset_ne na, mset_same], fun k => ?_, ?_⟩, ?_, fun t m => ?_, ?_, hi2⟩⟩
      · rw [handX_t, if_neg (fun q => q.2 ((hs p).mp y))]
      · have : scanBound = 4096 := rfl
        omega
      · rw [mset_ne na.symm]
        exact hMa
      · unfold ixN
        rw [List.length_map, if_pos p0, if_pos (by omega)]
      · rw [List.map_set]
      · simp only [Bool.or_eq_true, decide_eq_true_eq, List.mem_cons]
        rw [hs k]
        exact or_comm
      · split <;> omega
      · rw [List.length_set, hcl]
      · rcases List.mem_or_eq_of_mem_set m with m | rfl
        · exact hct t m
        · exact ⟨v0, v1⟩
      · rw [handX_t, hcl, if_pos ⟨z, fun q => by rw [(hs p).mpr q] at y; cases y⟩] at hX
        exact hX
    · rintro ev M ⟨seen, cur, e4, e5, rfl, hMa, ⟨s, n, hMs, hs, hn⟩, hcl, hct, hX, hi⟩
      walk_at "dg"
      rw [nums_length, List.drop_length] at hX
      have o2 : RowOk h cur := ⟨ro.1, ro.2.1, by have := ro.2.2.1; omega, by have := ro.2.2.2.1; omega, hct⟩
      exact ⟨_, .lst hMa (UnfL.refl _), _, .inl rfl, initX_good o2 (hR cur hX.symm)⟩
local macro_rules | `(tactic| walk_at "rk") => `(tactic| first
  | assumption
  | (refine rok_app ?_ ?_ ?_ <;> first | walk_at "rk" | (simp only [List.length_append, List.length_reverse, List.length_map, List.length_replicate]; omega))
  | (refine rok_rev ?_; walk_at "rk")
  | (refine rok_map ?_ _ (fun t => fmod_in (by assumption)); walk_at "rk")
  | omega
  | decide
  | (refine log_lt (k := 80) ?_ (by decide) (by decide); omega))
local macro_rules | `(tactic| walk_at "fin") => `(tactic| ((repeat' (first | (with_reducible assumption) | (with_reducible refine And.intro ?_ ?_) | (with_reducible intro _))); all_goals first | (with_reducible assumption) | omega | contradiction | trivial))
local macro_rules | `(tactic| walk_at "cj") => `(tactic| repeat' (refine And.intro (by walk_at "rk") ?_))
local macro_rules | `(tactic| walk_at "dg") => do let xs ← dgN13.mapM fun n => `(Lean.Parser.Tactic.simpLemma| $(Lean.mkIdent n):term); `(tactic| simp only [$xs,*, List.getElem?_cons_zero, List.getElem?_cons_succ])
def F_check_hand (CX : Addr) : Spec
  | [.int h, v], R, Rx => v.dat = true ∧ (isNum v 0 (h - 1) = true → R .non) ∧ (isNum v 0 (h - 1) = false → Rx (eHd CX v))
  | _, _, _ => False
theorem F_check_hand_is {CX : Addr} {h : Int} {v : D} {R : D → Prop} {Rx : Er → Prop} : F_check_hand CX [.int h, v] R Rx = (v.dat = true ∧ (isNum v 0 (h - 1) = true → R .non) ∧ (isNum v 0 (h - 1) = false → Rx (eHd CX v))) := rfl
def b_check_hand (Dx : Df K mg "check_hand" s_check_hand) : Binds K Dx.fd ["hands", "hand"] [] := Dx.F.bindsN fun _ _ _ _ _ _ us hl => match us, hl with | [_, _], _ => rfl
def n_check_hand : List Str := ["hands", "hand"]
theorem sc_check_hand : FnScope n_check_hand ["hands", "hand"] (defScope s_check_hand) := ⟨rfl, rfl, rfl, by decide +kernel, rfl, by decide +kernel, by decide +kernel⟩
def dgN14 : Array Lean.Name := dgN13 ++ #[`F_check_hand_is]
local macro_rules | `(tactic| walk_at "dg") => do let xs ← dgN14.mapM fun n => `(Lean.Parser.Tactic.simpLemma| $(Lean.mkIdent n):term); `(tactic| simp only [$xs,*, List.getElem?_cons_zero, List.getElem?_cons_succ])
theorem ok_check_hand (T : Tx mg) (D_check_hand : Df K mg "check_hand" s_check_hand) (D_is_number : Df K mg "is_number" s_is_number) (X_InvalidHand : Xe K mg P.main.file "InvalidHand" s_InvalidHand___init__) (hsup : mg "super" = none) (htop : (P.main.scope.names.lookup ("super" : Str)).isSome = false) : FnOk P w K mg base (L2.CX P w) 3 D_check_hand.f D_check_hand.fd ["hands", "hand"] (spD (F_check_hand X_InvalidHand.C)) := by
  have GX_InvalidHand := ok_InvalidHand___init__ (P := P) (w := w) (base := base) X_InvalidHand hsup htop
  have G_is_number := ok_is_number (P := P) (w := w) (base := base) D_is_number T.m_isinstance T.m_int T.m_bool
  refine fn_d D_check_hand.F sc_check_hand (fun ds R Rx h => ?_) (fun cdv A outer s H E hr => (ds_one (s_if (dt_not (dt_tru (d_call G_is_number (hr.mono (by decide)) D_is_number.g D_is_number.F.kp (b_is_number D_is_number) .nil dfR_nil pass_d (da_cons (d_var 1) (da_cons d_int (da_cons (d_sub (d_var 0) d_int) da_nil)))))) (ds_one (s_raise X_InvalidHand.e.ox X_InvalidHand.e.iC X_InvalidHand.e.tI (by decide) (by decide) GX_InvalidHand (hr.mono (by decide)) (b_InvalidHand___init__ X_InvalidHand) passL X_InvalidHand.g rfl (takes_of rfl rfl rfl rfl) (da_cons (d_var 1) da_nil))) ds_nil)) ) fun ds R Rx h => ?_
  · match ds, h with
    | [.int k, v], _ => rfl
  · match ds, h with
    | [.int k, v], hh =>
      obtain ⟨h1, h2, h3⟩ := hh
      simp only [n_check_hand]
      walk_at "dg"
      cases e : isNum v 0 (k - 1) with
      | true =>
        walk_at "dg"
        exact ⟨h1, h2 e⟩
      | false =>
        walk_at "dg"
        exact ⟨h1, h3 e⟩
/-- the places of a hand -/
def plcs (ts : List Int) (k : Int) : List Int := ((List.range ts.length).filter fun i => decide (ts.getD i 0 = k)).map fun (i : Nat) => (i : Int)
def F_Row_places (C CX : Addr) : Spec
  | [r, v], R, Rx => asRow C (fun h ts => RowOk h ts ∧ v.dat = true ∧ (isNum v 0 (h - 1) = false → Rx (eHd CX v)) ∧ ∀ k, v = .int k → 0 ≤ k → k < h → R (.lst ((plcs ts k).map .int))) r
  | _, _, _ => False
theorem F_Row_places_is {C CX : Addr} {r v : D} {R : D → Prop} {Rx : Er → Prop} : F_Row_places C CX [r, v] R Rx = asRow C (fun h ts => RowOk h ts ∧ v.dat = true ∧ (isNum v 0 (h - 1) = false → Rx (eHd CX v)) ∧ ∀ k, v = .int k → 0 ≤ k → k < h → R (.lst ((plcs ts k).map .int))) r := rfl
def b_Row_places (Dx : Dm K "places" "Row.places" s_Row_places) : Binds K Dx.fd ["self", "hand"] [] := Dx.F.bindsN fun _ _ _ _ _ _ us hl => match us, hl with | [_, _], _ => rfl
def n_Row_places : List Str := ["self", "hand", "at", "own"]
theorem sc_Row_places : FnScope n_Row_places ["self", "hand"] (defScope s_Row_places) := ⟨rfl, rfl, rfl, by decide +kernel, rfl, by decide +kernel, by decide +kernel⟩
def dgN15 : Array Lean.Name := dgN14 ++ #[`F_Row_places_is]
local macro_rules | `(tactic| walk_at "dg") => do let xs ← dgN15.mapM fun n => `(Lean.Parser.Tactic.simpLemma| $(Lean.mkIdent n):term); `(tactic| simp only [$xs,*, List.getElem?_cons_zero, List.getElem?_cons_succ])
theorem ok_Row_places (T : Tx mg) (K_Row : Kx_Row K mg) (D_check_hand : Df K mg "check_hand" s_check_hand) (D_is_number : Df K mg "is_number" s_is_number) (X_InvalidHand : Xe K mg P.main.file "InvalidHand" s_InvalidHand___init__) (hsup : mg "super" = none) (htop : (P.main.scope.names.lookup ("super" : Str)).isSome = false) :
    FnOk P w K mg base (L2.CX P w) 4 K_Row.D_places.f K_Row.D_places.fd ["self", "hand"] (spN (F_Row_places K_Row.C X_InvalidHand.C)) := by
  have G_check_hand := ok_check_hand (P := P) (w := w) (base := base) T D_check_hand D_is_number X_InvalidHand hsup htop
  refine fn_n K_Row.D_places.F sc_Row_places (fun ds R Rx h => ?_) (fun cdv A outer s H E hr => have hu := hr.units
    (ds_cons (s_expr (d_call G_check_hand (hr.mono (by decide)) D_check_hand.g D_check_hand.F.kp (b_check_hand D_check_hand) .nil dfR_nil pass_d (da_cons (d_fld (d_var 0) K_Row.cls K_Row.n_hands) (da_cons (d_var 1) da_nil))))
    (ds_one (s_retNew (n_ofF (f_lc rfl sc_Row_places.nd (i_enum (da_cons (d_fld (d_var 0) K_Row.cls K_Row.n_own_turns) da_nil) T.m_enumerate) (blkOk_by (own := [("at", 2), ("own", 3)]) (N := n_Row_places) (sc := defScope s_Row_places) (by decide +kernel)) (by decide) (fun _ _ _ _ _ => (g_tup (n := 2) rfl (gs_cons (g_name (i := 2) sc_Row_places.nd) (gs_cons (g_name (i := 3) sc_Row_places.nd) gs_nil)))) (fun _ _ _ _ _ => (dts_one (dt_cmp (c_eq hu) (d_var 3) (d_var 1) (nomark _)))) (fun _ _ _ _ _ => (d_var 2))))))) ) fun ds R Rx h => ?_
  · match ds, h with
    | [r, v], _ => rfl
  · match ds, h with
    | [r, v], hh =>
      obtain ⟨h, ts, rfl, ok, hd, hx, hR⟩ := asRow_of hh
      simp only [n_Row_places]
      walk_at "dg"
      refine ⟨hd, fun z => ?_, hx⟩
      obtain ⟨k, rfl, k0, k1⟩ := isNum_of z
      have l1 := ok.2.2.2.1
      rw [nums_ints0]
      refine LcP.filt (fun i => decide (ts.getD i 0 = k)) (fun (i : Nat) => .int (i : Int)) (by rw [List.length_range, sizeLine_eq]; omega) (fun j i N M e h1 h2 => ?_) ?_
      · walk_at "dg"
        refine ⟨fun q => h1 ?_, fun q => h2 ?_⟩
        · simpa using q
        · simpa using q
      · have e : (((List.range ts.length).filter fun i => decide (ts.getD i 0 = k)).map fun (i : Nat) => D.int (i : Int)) = (plcs ts k).map D.int := by
          unfold plcs
          rw [List.map_map]
          rfl
        rw [e]
        walk_at "dg"
        exact hR k rfl k0 (by omega)
theorem fld_m_counts {x y : D} : fld ksRow [x, y] "counts" = none := rfl
theorem fld_m_places {x y : D} : fld ksRow [x, y] "places" = none := rfl
def dgN16 : Array Lean.Name := dgN15 ++ #[`fld_m_counts, `fld_m_places]
local macro_rules | `(tactic| walk_at "dg") => do let xs ← dgN16.mapM fun n => `(Lean.Parser.Tactic.simpLemma| $(Lean.mkIdent n):term); `(tactic| simp only [$xs,*, List.getElem?_cons_zero, List.getElem?_cons_succ])
def F_Row_counts (C : Addr) : Spec
  | [r], R, Rx => asRow C (fun h ts => RowOk h ts ∧ R (.lst ((List.range h.toNat).map fun (k : Nat) => .int ((plcs ts (k : Int)).length : Nat)))) r
  | _, _, _ => False
theorem F_Row_counts_is {C : Addr} {r : D} {R : D → Prop} {Rx : Er → Prop} : F_Row_counts C [r] R Rx = (asRow C (fun h ts => RowOk h ts ∧ R (.lst ((List.range h.toNat).map fun (k : Nat) => .int ((plcs ts (k : Int)).length : Nat)))) r) := rfl
theorem F_Row_counts_of {C : Addr} {ds : List D} {R : D → Prop} {Rx : Er → Prop} (z : F_Row_counts C ds R Rx) : ∃ (r : D), ds = [r] ∧ (asRow C (fun h ts => RowOk h ts ∧ R (.lst ((List.range h.toNat).map fun (k : Nat) => .int ((plcs ts (k : Int)).length : Nat)))) r) := by
  unfold F_Row_counts at z
  split at z
  · exact ⟨_, rfl, z⟩
  · exact z.elim
def b_Row_counts (Dx : Dm K "counts" "Row.counts" s_Row_counts) : Binds K Dx.fd ["self"] [] := Dx.F.bindsN fun _ _ _ _ _ _ us hl => match us, hl with | [_], _ => rfl
def n_Row_counts : List Str := ["self", "hand"]
theorem sc_Row_counts : FnScope n_Row_counts ["self"] (defScope s_Row_counts) := ⟨rfl, rfl, rfl, by decide +kernel, rfl, by decide +kernel, by decide +kernel⟩
theorem ok_Row_counts (T : Tx mg) (K_Row : Kx_Row K mg) (X_InvalidHand : Xe K mg P.main.file "InvalidHand" s_InvalidHand___init__) (D_check_hand : Df K mg "check_hand" s_check_hand) (D_is_number : Df K mg "is_number" s_is_number) (hsup : mg "super" = none) (htop : (P.main.scope.names.lookup ("super" : Str)).isSome = false) : FnOk P w K mg base (L2.CX P w) 5 K_Row.D_counts.f K_Row.D_counts.fd ["self"] (spN (F_Row_counts K_Row.C)) := by
  have G_Row_places := ok_Row_places (P := P) (w := w) (base := base) T K_Row D_check_hand D_is_number X_InvalidHand hsup htop
  refine fn_n K_Row.D_counts.F sc_Row_counts (fun ds R Rx hs0 => ?_) (fun cdv A outer s H E hr => have hu := hr.units
    (ds_one (s_retNew (n_ofF (f_lc rfl sc_Row_counts.nd (i_rg1 (da_cons (d_fld (d_var 0) K_Row.cls K_Row.n_hands) da_nil) T.m_range) (blkOk_by (own := [("hand", 1)]) (N := n_Row_counts) (sc := defScope s_Row_counts) (by decide +kernel)) (by decide) (fun _ _ _ _ _ => (g_name (i := 1) sc_Row_counts.nd)) (fun _ _ _ _ _ => dts_nil) (fun _ _ _ _ _ => (d_callB b_len T.m_len boot_len (da_cons (d_ofN (d_methN (d_var 0) K_Row.cls K_Row.h_places G_Row_places (hr.mono (by decide)) (b_Row_places K_Row.D_places) passL (da_cons (d_var 1) da_nil))) da_nil))))))) ) fun ds R Rx hs0 => ?_
  · obtain ⟨_, rfl, _⟩ := F_Row_counts_of hs0
    rfl
  · obtain ⟨r, rfl, hs⟩ := F_Row_counts_of hs0
    clear hs0
    simp only [n_Row_counts]
    walk_at "dg"
    obtain ⟨h, ts, rfl, ok, hR⟩ := asRow_of hs
    have q1 := ok.1
    have q2 := ok.2.1
    have q3 := ok.2.2.2.1
    walk_at "dg"
    refine ⟨by omega, by omega, LcP.upto (fun k => .int ((plcs ts (k : Int)).length : Nat)) (by rw [sizeLine_eq]; omega) (fun k N hk hN => ?_) ?_⟩
    · walk_at "dg"
      refine ⟨ok, (fun z => by simp [isNum] at z; omega), fun j e _ _ => ?_⟩
      cases e
      exact hN
    exact ⟨flatL_map fun _ => rfl, hR⟩
def dgN17 : Array Lean.Name := dgN16 ++ #[`F_Row_counts_is]
local macro_rules | `(tactic| walk_at "dg") => do let xs ← dgN17.mapM fun n => `(Lean.Parser.Tactic.simpLemma| $(Lean.mkIdent n):term); `(tactic| simp only [$xs,*, List.getElem?_cons_zero, List.getElem?_cons_succ])
def F_Row_need_like (C CU : Addr) : Spec
  | [r, q], R, Rx => asRow C (fun h _ => asRow C (fun h2 _ => (h = h2 → R .non) ∧ (h ≠ h2 → Rx (eUn CU))) q) r
  | _, _, _ => False
theorem F_Row_need_like_is {C CU : Addr} {r : D} {q : D} {R : D → Prop} {Rx : Er → Prop} : F_Row_need_like C CU [r, q] R Rx = (asRow C (fun h _ => asRow C (fun h2 _ => (h = h2 → R .non) ∧ (h ≠ h2 → Rx (eUn CU))) q) r) := rfl
theorem F_Row_need_like_of {C CU : Addr} {ds : List D} {R : D → Prop} {Rx : Er → Prop} (z : F_Row_need_like C CU ds R Rx) : ∃ (r : D) (q : D), ds = [r, q] ∧ (asRow C (fun h _ => asRow C (fun h2 _ => (h = h2 → R .non) ∧ (h ≠ h2 → Rx (eUn CU))) q) r) := by
  unfold F_Row_need_like at z
  split at z
  · exact ⟨_, _, rfl, z⟩
  · exact z.elim
def b_Row_need_like (Dx : Dm K "need_like" "Row.need_like" s_Row_need_like) : Binds K Dx.fd ["self", "other"] [] := Dx.F.bindsN fun _ _ _ _ _ _ us hl => match us, hl with | [_, _], _ => rfl
def n_Row_need_like : List Str := ["self", "other"]
theorem sc_Row_need_like : FnScope n_Row_need_like ["self", "other"] (defScope s_Row_need_like) := ⟨rfl, rfl, rfl, by decide +kernel, rfl, by decide +kernel, by decide +kernel⟩
theorem ok_Row_need_like (T : Tx mg) (K_Row : Kx_Row K mg) (X_Unlike : Xe K mg P.main.file "Unlike" s_Unlike___init__) (hsup : mg "super" = none) (htop : (P.main.scope.names.lookup ("super" : Str)).isSome = false) : FnOk P w K mg base (L2.CX P w) 3 K_Row.D_need_like.f K_Row.D_need_like.fd ["self", "other"] (spD (F_Row_need_like K_Row.C X_Unlike.C)) := by
  have GX_Unlike := ok_Unlike___init__ (P := P) (w := w) (base := base) X_Unlike hsup htop
  refine fn_d K_Row.D_need_like.F sc_Row_need_like (fun ds R Rx hs0 => ?_) (fun cdv A outer s H E hr => have hu := hr.units
    (ds_one (s_if (dt_cmp (c_ne hu) (d_fld (d_var 0) K_Row.cls K_Row.n_hands) (d_fld (d_var 1) K_Row.cls K_Row.n_hands) (nomark _)) (ds_one (s_raise0 X_Unlike.e.ox X_Unlike.e.iC X_Unlike.e.tI (by decide) GX_Unlike (hr.mono (by decide)) (b_Unlike___init__ X_Unlike) passL X_Unlike.g rfl (takes_of rfl rfl rfl rfl))) ds_nil)) ) fun ds R Rx hs0 => ?_
  · obtain ⟨_, _, rfl, _⟩ := F_Row_need_like_of hs0
    rfl
  · obtain ⟨r, q, rfl, hs⟩ := F_Row_need_like_of hs0
    clear hs0
    simp only [n_Row_need_like]
    walk_at "dg"
    obtain ⟨k, ts, rfl, h2⟩ := asRow_of hs
    obtain ⟨k2, us, rfl, hR, hX⟩ := asRow_of h2
    walk_at "dg"
    exact ⟨hX, hR⟩
def dgN18 : Array Lean.Name := dgN17 ++ #[`F_Row_need_like_is]
local macro_rules | `(tactic| walk_at "dg") => do let xs ← dgN18.mapM fun n => `(Lean.Parser.Tactic.simpLemma| $(Lean.mkIdent n):term); `(tactic| simp only [$xs,*, List.getElem?_cons_zero, List.getElem?_cons_succ])
def xorL (h : Int) (ts us : List Int) : List Int := ts.flatMap fun b => us.map fun t => (t + b).fmod h
theorem xorL_length {h : Int} {ts us : List Int} : (xorL h ts us).length = ts.length * us.length := by
  unfold xorL
  induction ts with
  | nil => simp
  | cons t ts ih => rw [List.flatMap_cons, List.length_append, ih, List.length_map, List.length_cons, Nat.succ_mul, Nat.add_comm]
theorem rok_xor {h : Int} {ts us : List Int} (a : RowOk h ts) (b : RowOk h us) (hl : ts.length * us.length ≤ 2000) : RowOk h (xorL h ts us) := by
  refine ⟨a.1, a.2.1, by rw [xorL_length]; exact Nat.mul_pos a.2.2.1 b.2.2.1, by rw [xorL_length]; exact hl, fun t ht => ?_⟩
  unfold xorL at ht
  obtain ⟨y, _, hy⟩ := List.mem_flatMap.mp ht
  obtain ⟨z, _, rfl⟩ := List.mem_map.mp hy
  exact fmod_in a.1
def F_Row___xor__ (C CU CT : Addr) : Spec
  | [r, q], R, Rx => asRow C (fun h ts => asRow C (fun h2 us => (RowOk h ts ∧ RowOk h2 us) ∧ (h ≠ h2 → Rx (eUn CU)) ∧ (h = h2 → 2000 < ts.length * us.length → Rx (eTL CT)) ∧ (h = h2 → ts.length * us.length ≤ 2000 → R (row C h (xorL h ts us)))) q) r
  | _, _, _ => False
theorem F_Row___xor___is {C CU CT : Addr} {r : D} {q : D} {R : D → Prop} {Rx : Er → Prop} : F_Row___xor__ C CU CT [r, q] R Rx = (asRow C (fun h ts => asRow C (fun h2 us => (RowOk h ts ∧ RowOk h2 us) ∧ (h ≠ h2 → Rx (eUn CU)) ∧ (h = h2 → 2000 < ts.length * us.length → Rx (eTL CT)) ∧ (h = h2 → ts.length * us.length ≤ 2000 → R (row C h (xorL h ts us)))) q) r) := rfl
theorem F_Row___xor___of {C CU CT : Addr} {ds : List D} {R : D → Prop} {Rx : Er → Prop} (z : F_Row___xor__ C CU CT ds R Rx) : ∃ (r : D) (q : D), ds = [r, q] ∧ (asRow C (fun h ts => asRow C (fun h2 us => (RowOk h ts ∧ RowOk h2 us) ∧ (h ≠ h2 → Rx (eUn CU)) ∧ (h = h2 → 2000 < ts.length * us.length → Rx (eTL CT)) ∧ (h = h2 → ts.length * us.length ≤ 2000 → R (row C h (xorL h ts us)))) q) r) := by
  unfold F_Row___xor__ at z
  split at z
  · exact ⟨_, _, rfl, z⟩
  · exact z.elim
def b_Row___xor__ (Dx : Dm K "__xor__" "Row.__xor__" s_Row___xor__) : Binds K Dx.fd ["self", "other"] [] := Dx.F.bindsN fun _ _ _ _ _ _ us hl => match us, hl with | [_, _], _ => rfl
def n_Row___xor__ : List Str := ["self", "other", "turns", "by", "hand"]
theorem sc_Row___xor__ : FnScope n_Row___xor__ ["self", "other"] (defScope s_Row___xor__) := ⟨rfl, rfl, rfl, by decide +kernel, rfl, by decide +kernel, by decide +kernel⟩
theorem ok_Row___xor__ (T : Tx mg) (K_Row : Kx_Row K mg) (X_Unlike : Xe K mg P.main.file "Unlike" s_Unlike___init__) (X_InvalidHands : Xe K mg P.main.file "InvalidHands" s_InvalidHands___init__) (X_InvalidTurn : Xe K mg P.main.file "InvalidTurn" s_InvalidTurn___init__) (X_TooLong : Xe K mg P.main.file "TooLong" s_TooLong___init__) (D_check_hands : Df K mg "check_hands" s_check_hands) (D_is_number : Df K mg "is_number" s_is_number) (hsup : mg "super" = none) (htop : (P.main.scope.names.lookup ("super" : Str)).isSome = false) : FnOk P w K mg base (L2.CX P w) 6 K_Row.D___xor__.f K_Row.D___xor__.fd ["self", "other"] (spD (F_Row___xor__ K_Row.C X_Unlike.C X_TooLong.C)) := by
  have G_Row_need_like := ok_Row_need_like (P := P) (w := w) (base := base) T K_Row X_Unlike hsup htop
  have G_Row___init__ := ok_Row___init__ (P := P) (w := w) (base := base) T K_Row X_InvalidHands X_InvalidTurn D_check_hands D_is_number hsup htop
  have GX_TooLong := ok_TooLong___init__ (P := P) (w := w) (base := base) X_TooLong hsup htop
  refine fn_d K_Row.D___xor__.F sc_Row___xor__ (fun ds R Rx hs0 => ?_) (fun cdv A outer s H E hr => have hu := hr.units
    (ds_cons (s_expr (d_meth (d_var 0) K_Row.cls K_Row.h_need_like G_Row_need_like (hr.mono (by decide)) (b_Row_need_like K_Row.D_need_like) pass_d (da_cons (d_var 1) da_nil)))
    (ds_cons (s_if (dt_cmp c_gt (d_mul (d_callB b_len T.m_len boot_len (da_cons (d_fld (d_var 0) K_Row.cls K_Row.n_own_turns) da_nil)) (d_callB b_len T.m_len boot_len (da_cons (d_fld (d_var 1) K_Row.cls K_Row.n_own_turns) da_nil))) (d_gint T.c_MOST_TURNS) (nomark _)) (ds_one (s_raise X_TooLong.e.ox X_TooLong.e.iC X_TooLong.e.tI (by decide) (by decide) GX_TooLong (hr.mono (by decide)) (b_TooLong___init__ X_TooLong) passL X_TooLong.g rfl (takes_of rfl rfl rfl rfl) (da_cons (d_gint T.c_MOST_TURNS) da_nil))) ds_nil)
    (ds_cons (s_setLc2 (i := 2) rfl sc_Row___xor__.nd (i_list (d_fld (d_var 0) K_Row.cls K_Row.n_own_turns)) (blkOk_by (own := [("by", 3), ("hand", 4)]) (N := n_Row___xor__) (sc := defScope s_Row___xor__) (by decide +kernel)) (by decide) (vs1 := [4]) (by decide) (by decide) (fun _ _ _ _ _ => (g_name (i := 3) sc_Row___xor__.nd)) (fun _ _ _ _ _ => dts_nil) (fun _ _ _ _ _ => (i_list (d_fld (d_var 1) K_Row.cls K_Row.n_own_turns))) (fun _ _ _ _ _ => (g_name (i := 4) sc_Row___xor__.nd)) (fun _ _ _ _ _ => dts_nil) (fun _ _ _ _ _ => (d_mod (d_add (d_var 4) (d_var 3)) (d_fld (d_var 0) K_Row.cls K_Row.n_hands))))
    (ds_one (s_ret (d_ofP (d_makeN K_Row.mkr G_Row___init__ (hr.mono (by decide)) K_Row.g (b_Row___init__ K_Row.D___init__) pass_d (da_cons (d_fld (d_var 0) K_Row.cls K_Row.n_hands) (da_cons (d_var 2) da_nil))))))))) ) fun ds R Rx hs0 => ?_
  · obtain ⟨_, _, rfl, _⟩ := F_Row___xor___of hs0
    rfl
  · obtain ⟨r, q, rfl, hs⟩ := F_Row___xor___of hs0
    clear hs0
    simp only [n_Row___xor__]
    walk_at "dg"
    obtain ⟨k, ts, rfl, h2⟩ := asRow_of hs
    obtain ⟨k2, us, rfl, ⟨o1, o2⟩, hU, hT, hR⟩ := asRow_of h2
    walk_at "dg"
    refine ⟨fun e => ?_, hU⟩
    subst e
    have q1 := o1.2.2.2.1
    have q2 := o2.2.2.2.1
    have hz : ((ts.length * us.length : Nat) : Int) = (ts.length : Int) * (us.length : Int) := Int.natCast_mul _ _
    refine ⟨.inr (wide_mul (a := 20) (b := 20) (by omega) (by omega) (by decide) (by decide) (by decide)), fun z => hT rfl (by omega), fun z => ?_⟩
    have hl : ts.length * us.length ≤ 2000 := by omega
    refine Lc2P.of us D.int (fun b t => .int ((t + b).fmod k)) (by rw [sizeLine_eq]; omega) (fun i a R1 e h1 => ?_) ?_
    · walk_at "dg"
      refine h1 _ (fun M hM => ?_) fun j b N e hN => ?_
      · walk_at "dg"
        exact hM
      · walk_at "dg"
        exact ⟨by have := o1.1; omega, hN⟩
    · have e : (ts.flatMap fun b => us.map fun t => D.int ((t + b).fmod k)) = (xorL k ts us).map D.int := by
        unfold xorL
        rw [List.map_flatMap]
        congr 1
        funext b
        rw [List.map_map]
        rfl
      rw [e]
      exact ⟨_, .inl rfl, initX_good (rok_xor o1 o2 hl) (hR rfl hl)⟩
local macro_rules | `(tactic| walk_at "rk") => `(tactic| first
  | assumption
  | (refine rok_app ?_ ?_ ?_ <;> first | walk_at "rk" | (simp only [List.length_append, List.length_reverse, List.length_map, List.length_replicate]; omega))
  | (refine rok_rev ?_; walk_at "rk")
  | (refine rok_map ?_ _ (fun t => fmod_in (by assumption)); walk_at "rk")
  | omega
  | decide
  | (refine log_lt (k := 80) ?_ (by decide) (by decide); omega))
local macro_rules | `(tactic| walk_at "fin") => `(tactic| ((repeat' (first | (with_reducible assumption) | (with_reducible refine And.intro ?_ ?_) | (with_reducible intro _))); all_goals first | (with_reducible assumption) | omega | contradiction | trivial))
local macro_rules | `(tactic| walk_at "cj") => `(tactic| repeat' (refine And.intro (by walk_at "rk") ?_))
theorem fld_m_text {x y : D} : fld ksRow [x, y] "text" = none := rfl
/-- turns as digits -/
def digC (ts : List Int) : List Nat := ts.map fun t => (48 + t).toNat
/-- turns that are signs of one figure -/
def Figs (ts : List Int) : Prop := ∀ t ∈ ts, 0 ≤ t ∧ t < 10
theorem RowOk.figs {h : Int} {ts : List Int} (o : RowOk h ts) : Figs ts := fun t m => by
  have := o.2.2.2.2 t m
  have := o.2.1
  omega
theorem figs_join {ts : List Int} (f : Figs ts) : Txt.join (tx []) (ts.map fun t => ((toString t : String) : Str)) = tx (digC ts) := by
  have e : (ts.map fun t => ((toString t : String) : Str)) = (ts.map fun t => [(48 + t).toNat]).map tx := by
    rw [List.map_map]
    exact List.map_congr_left fun t m => tx_digit (f t m).1 (f t m).2
  rw [e, tx_join]
  congr 1
  unfold digC
  rw [← List.flatMap_def]
  clear e f
  induction ts with
  | nil => rfl
  | cons t ts ih => rw [List.flatMap_cons, List.map_cons, ih]; rfl
theorem figs_log {t : Int} (h0 : 0 ≤ t) (h1 : t < 10) : t.natAbs.log2 < 1920 := by
  have : t.natAbs < 10 := by omega
  have : t.natAbs.log2 < 4 := by
    by_cases z : t.natAbs = 0
    · rw [z]; decide
    · exact (Nat.log2_lt z).mpr (by omega)
  omega
theorem figs_len {ts : List Int} (f : Figs ts) : ((ts.map fun t => ((toString t : String) : Str)).map (·.length)).sum = ts.length := by
  induction ts with
  | nil => rfl
  | cons t ts ih =>
    rw [List.map_cons, List.map_cons, List.sum_cons, ih fun u m => f u (List.mem_cons_of_mem _ m), tx_digit (f t List.mem_cons_self).1 (f t List.mem_cons_self).2, List.length_cons]
    show 1 + _ = _
    omega
def dgN19 : Array Lean.Name := dgN18 ++ #[`F_Row___xor___is, `fld_m_text]
local macro_rules | `(tactic| walk_at "dg") => do let xs ← dgN19.mapM fun n => `(Lean.Parser.Tactic.simpLemma| $(Lean.mkIdent n):term); `(tactic| simp only [$xs,*, List.getElem?_cons_zero, List.getElem?_cons_succ])
def F_Row_text (C : Addr) : Spec
  | [r], R, Rx => asRow C (fun h ts => RowOk h ts ∧ R (.str (tx (digC ts)))) r
  | _, _, _ => False
theorem F_Row_text_is {C : Addr} {r : D} {R : D → Prop} {Rx : Er → Prop} : F_Row_text C [r] R Rx = (asRow C (fun h ts => RowOk h ts ∧ R (.str (tx (digC ts)))) r) := rfl
theorem F_Row_text_of {C : Addr} {ds : List D} {R : D → Prop} {Rx : Er → Prop} (z : F_Row_text C ds R Rx) : ∃ (r : D), ds = [r] ∧ (asRow C (fun h ts => RowOk h ts ∧ R (.str (tx (digC ts)))) r) := by
  unfold F_Row_text at z
  split at z
  · exact ⟨_, rfl, z⟩
  · exact z.elim
def b_Row_text (Dx : Dm K "text" "Row.text" s_Row_text) : Binds K Dx.fd ["self"] [] := Dx.F.bindsN fun _ _ _ _ _ _ us hl => match us, hl with | [_], _ => rfl
def n_Row_text : List Str := ["self", "hand"]
theorem sc_Row_text : FnScope n_Row_text ["self"] (defScope s_Row_text) := ⟨rfl, rfl, rfl, by decide +kernel, rfl, by decide +kernel, by decide +kernel⟩
theorem ok_Row_text (T : Tx mg) (K_Row : Kx_Row K mg) : FnOk P w K mg base (L2.CX P w) 1 K_Row.D_text.f K_Row.D_text.fd ["self"] (spD (F_Row_text K_Row.C)) := by

  refine fn_d K_Row.D_text.F sc_Row_text (fun ds R Rx hs0 => ?_) (fun cdv A outer s H E hr => have hu := hr.units
    (ds_one (s_ret (d_join d_str (d_ofF (f_lc rfl sc_Row_text.nd (i_list (d_fld (d_var 0) K_Row.cls K_Row.n_own_turns)) (blkOk_by (own := [("hand", 1)]) (N := n_Row_text) (sc := defScope s_Row_text) (by decide +kernel)) (by decide) (fun _ _ _ _ _ => (g_name (i := 1) sc_Row_text.nd)) (fun _ _ _ _ _ => dts_nil) (fun _ _ _ _ _ => (d_callT b_str T.m_str PyProof.Rows.boot_str (da_cons (d_var 1) da_nil)))))))) ) fun ds R Rx hs0 => ?_
  · obtain ⟨_, rfl, _⟩ := F_Row_text_of hs0
    rfl
  · obtain ⟨r, rfl, hs⟩ := F_Row_text_of hs0
    clear hs0
    simp only [n_Row_text]
    walk_at "dg"
    obtain ⟨h, ts, rfl, ok, hR⟩ := asRow_of hs
    have f := ok.figs
    walk_at "dg"
    refine LcP.of (fun t : Int => .str (toString t)) (by have := ok.2.2.2.1; rw [sizeLine_eq]; omega) (fun i t N e hN => ?_) ?_
    · walk_at "dg"
      exact ⟨figs_log (f t (List.mem_of_getElem? e)).1 (f t (List.mem_of_getElem? e)).2, hN⟩
    · rw [show (ts.map fun t : Int => D.str (toString t)) = (ts.map fun t : Int => ((toString t : String) : Str)).map D.str by rw [List.map_map]; rfl]
      walk_at "dg"
      refine ⟨?_, ?_⟩
      · rw [figs_len f]
        have := ok.2.2.2.1
        show _ + _ * 0 ≤ 16777216
        omega
      · rw [figs_join f]
        exact hR
def dgN20 : Array Lean.Name := dgN19 ++ #[`F_Row_text_is]
local macro_rules | `(tactic| walk_at "dg") => do let xs ← dgN20.mapM fun n => `(Lean.Parser.Tactic.simpLemma| $(Lean.mkIdent n):term); `(tactic| simp only [$xs,*, List.getElem?_cons_zero, List.getElem?_cons_succ])
def shift (h b : Int) (ts : List Int) : List Int := ts.map fun t => (t + b).fmod h
theorem shift_ok {h b : Int} {ts : List Int} (ok : RowOk h ts) : RowOk h (shift h b ts) := by
  refine ⟨ok.1, ok.2.1, by unfold shift; rw [List.length_map]; exact ok.2.2.1, by unfold shift; rw [List.length_map]; exact ok.2.2.2.1, fun t ht => ?_⟩
  unfold shift at ht
  obtain ⟨u, _, rfl⟩ := List.mem_map.mp ht
  have := ok.1
  exact ⟨Int.fmod_nonneg_of_pos _ (by omega), Int.fmod_lt_of_pos _ (by omega)⟩
def F_Row_turned (C CX : Addr) : Spec
  | [r, v], R, Rx => asRow C (fun h ts => RowOk h ts ∧ v.dat = true ∧ (isNum v 0 (h - 1) = false → Rx (eHd CX v)) ∧ ∀ k, v = .int k → 0 ≤ k → k < h → R (row C h (shift h k ts))) r
  | _, _, _ => False
theorem F_Row_turned_is {C CX : Addr} {r : D} {v : D} {R : D → Prop} {Rx : Er → Prop} : F_Row_turned C CX [r, v] R Rx = (asRow C (fun h ts => RowOk h ts ∧ v.dat = true ∧ (isNum v 0 (h - 1) = false → Rx (eHd CX v)) ∧ ∀ k, v = .int k → 0 ≤ k → k < h → R (row C h (shift h k ts))) r) := rfl
theorem F_Row_turned_of {C CX : Addr} {ds : List D} {R : D → Prop} {Rx : Er → Prop} (z : F_Row_turned C CX ds R Rx) : ∃ (r : D) (v : D), ds = [r, v] ∧ (asRow C (fun h ts => RowOk h ts ∧ v.dat = true ∧ (isNum v 0 (h - 1) = false → Rx (eHd CX v)) ∧ ∀ k, v = .int k → 0 ≤ k → k < h → R (row C h (shift h k ts))) r) := by
  unfold F_Row_turned at z
  split at z
  · exact ⟨_, _, rfl, z⟩
  · exact z.elim
def b_Row_turned (Dx : Dm K "turned" "Row.turned" s_Row_turned) : Binds K Dx.fd ["self", "by"] [] := Dx.F.bindsN fun _ _ _ _ _ _ us hl => match us, hl with | [_, _], _ => rfl
def n_Row_turned : List Str := ["self", "by", "hand"]
theorem sc_Row_turned : FnScope n_Row_turned ["self", "by"] (defScope s_Row_turned) := ⟨rfl, rfl, rfl, by decide +kernel, rfl, by decide +kernel, by decide +kernel⟩
theorem ok_Row_turned (T : Tx mg) (K_Row : Kx_Row K mg) (X_InvalidHand : Xe K mg P.main.file "InvalidHand" s_InvalidHand___init__) (X_InvalidHands : Xe K mg P.main.file "InvalidHands" s_InvalidHands___init__) (X_InvalidTurn : Xe K mg P.main.file "InvalidTurn" s_InvalidTurn___init__) (D_check_hand : Df K mg "check_hand" s_check_hand) (D_is_number : Df K mg "is_number" s_is_number) (D_check_hands : Df K mg "check_hands" s_check_hands) (hsup : mg "super" = none) (htop : (P.main.scope.names.lookup ("super" : Str)).isSome = false) : FnOk P w K mg base (L2.CX P w) 6 K_Row.D_turned.f K_Row.D_turned.fd ["self", "by"] (spD (F_Row_turned K_Row.C X_InvalidHand.C)) := by
  have G_check_hand := ok_check_hand (P := P) (w := w) (base := base) T D_check_hand D_is_number X_InvalidHand hsup htop
  have G_Row___init__ := ok_Row___init__ (P := P) (w := w) (base := base) T K_Row X_InvalidHands X_InvalidTurn D_check_hands D_is_number hsup htop
  refine fn_d K_Row.D_turned.F sc_Row_turned (fun ds R Rx hs0 => ?_) (fun cdv A outer s H E hr => have hu := hr.units
    (ds_cons (s_expr (d_call G_check_hand (hr.mono (by decide)) D_check_hand.g D_check_hand.F.kp (b_check_hand D_check_hand) .nil dfR_nil pass_d (da_cons (d_fld (d_var 0) K_Row.cls K_Row.n_hands) (da_cons (d_var 1) da_nil))))
    (ds_one (s_ret (d_ofP (d_makeN K_Row.mkr G_Row___init__ (hr.mono (by decide)) K_Row.g (b_Row___init__ K_Row.D___init__) pass_d (da_cons (d_fld (d_var 0) K_Row.cls K_Row.n_hands) (da_cons (d_ofF (f_lc rfl sc_Row_turned.nd (i_list (d_fld (d_var 0) K_Row.cls K_Row.n_own_turns)) (blkOk_by (own := [("hand", 2)]) (N := n_Row_turned) (sc := defScope s_Row_turned) (by decide +kernel)) (by decide) (fun _ _ _ _ _ => (g_name (i := 2) sc_Row_turned.nd)) (fun _ _ _ _ _ => dts_nil) (fun _ _ _ _ _ => (d_mod (d_add (d_var 2) (d_var 1)) (d_fld (d_var 0) K_Row.cls K_Row.n_hands))))) da_nil))))))) ) fun ds R Rx hs0 => ?_
  · obtain ⟨_, _, rfl, _⟩ := F_Row_turned_of hs0
    rfl
  · obtain ⟨r, v, rfl, hs⟩ := F_Row_turned_of hs0
    clear hs0
    simp only [n_Row_turned]
    walk_at "dg"
    obtain ⟨h, ts, rfl, ok, hd, hx, hR⟩ := asRow_of hs
    walk_at "dg"
    refine ⟨hd, fun z => ?_, hx⟩
    obtain ⟨b, rfl, b0, b1⟩ := isNum_of z
    have l1 := ok.2.2.2.1
    refine LcP.map (fun d => match d with | .int t => .int ((t + b).fmod h) | d => d) (by rw [sizeLine_eq, List.length_map]; omega) (fun i d N e hN => ?_) ?_
    · obtain ⟨t, _, rfl⟩ := List.mem_map.mp (List.mem_of_getElem? e)
      walk_at "dg"
      exact ⟨by have := ok.1; omega, hN⟩
    · have e : (ts.map D.int).map (fun d => match d with | .int t => .int ((t + b).fmod h) | d => d) = (shift h b ts).map D.int := by
        unfold shift
        rw [List.map_map, List.map_map]
        rfl
      rw [e]
      exact ⟨_, .inl rfl, initX_good (shift_ok ok) (hR b rfl b0 (by omega))⟩
local macro_rules | `(tactic| walk_at "rk") => `(tactic| first
  | assumption
  | (refine rok_app ?_ ?_ ?_ <;> first | walk_at "rk" | (simp only [List.length_append, List.length_reverse, List.length_map, List.length_replicate]; omega))
  | (refine rok_rev ?_; walk_at "rk")
  | (refine rok_map ?_ _ (fun t => fmod_in (by assumption)); walk_at "rk")
  | omega
  | decide
  | (refine log_lt (k := 80) ?_ (by decide) (by decide); omega))
local macro_rules | `(tactic| walk_at "fin") => `(tactic| ((repeat' (first | (with_reducible assumption) | (with_reducible refine And.intro ?_ ?_) | (with_reducible intro _))); all_goals first | (with_reducible assumption) | omega | contradiction | trivial))
local macro_rules | `(tactic| walk_at "cj") => `(tactic| repeat' (refine And.intro (by walk_at "rk") ?_))
def dgN21 : Array Lean.Name := dgN20 ++ #[`F_Row_turned_is]
local macro_rules | `(tactic| walk_at "dg") => do let xs ← dgN21.mapM fun n => `(Lean.Parser.Tactic.simpLemma| $(Lean.mkIdent n):term); `(tactic| simp only [$xs,*, List.getElem?_cons_zero, List.getElem?_cons_succ])
def F__law_hands : Spec
  | [.bag], R, _ => ∀ h : Int, 2 ≤ h → h ≤ 4 → R (.int h)
  | _, _, _ => False
theorem F__law_hands_is {R : D → Prop} {Rx : Er → Prop} : F__law_hands [.bag] R Rx = ∀ h : Int, 2 ≤ h → h ≤ 4 → R (.int h) := rfl
theorem F__law_hands_of {ds : List D} {R : D → Prop} {Rx : Er → Prop} (h : F__law_hands ds R Rx) : ds = [.bag] ∧ ∀ h : Int, 2 ≤ h → h ≤ 4 → R (.int h) := by
  unfold F__law_hands at h
  split at h
  · exact ⟨rfl, h⟩
  · exact h.elim
def b__law_hands (Dx : Df K mg "_law_hands" s__law_hands) : Binds K Dx.fd ["_law_bag_here"] [] := Dx.F.bindsN fun _ _ _ _ _ _ us hl => match us, hl with | [_], _ => rfl
def n__law_hands : List Str := ["_law_bag_here"]
theorem sc__law_hands : FnScope n__law_hands ["_law_bag_here"] (defScope s__law_hands) := ⟨rfl, rfl, rfl, by decide +kernel, rfl, by decide +kernel, by decide +kernel⟩
def dgN22 : Array Lean.Name := dgN21 ++ #[`F__law_hands_is]
local macro_rules | `(tactic| walk_at "dg") => do let xs ← dgN22.mapM fun n => `(Lean.Parser.Tactic.simpLemma| $(Lean.mkIdent n):term); `(tactic| simp only [$xs,*, List.getElem?_cons_zero, List.getElem?_cons_succ])
theorem ok__law_hands (T : Tx mg) (D__law_hands : Df K mg "_law_hands" s__law_hands) (D__law_pull : Df K mg "_law_pull" s__law_pull) : FnOk P w K mg base (L2.CX P w) 2 D__law_hands.f D__law_hands.fd ["_law_bag_here"] (spD F__law_hands) := by
  have G__law_pull := ok__law_pull (P := P) (w := w) (base := base) D__law_pull T.m_int T.m_len
  refine fn_d D__law_hands.F sc__law_hands (fun ds R Rx h => ?_) (fun cdv A outer s H E hr => (ds_one (s_ret (d_add d_int (d_call G__law_pull (hr.mono (by decide)) D__law_pull.g D__law_pull.F.kp (b__law_pull D__law_pull) .nil dfR_nil pass_d (da_cons (d_var 0) (da_cons d_int da_nil)))))) ) fun ds R Rx h => ?_
  · obtain ⟨rfl, _⟩ := F__law_hands_of h
    rfl
  · obtain ⟨rfl, hR⟩ := F__law_hands_of h
    simp only [n__law_hands]
    walk_at "dg"
    exact ⟨log_lt (k := 20) (by decide) (by decide) (by decide), fun r h1 h2 => hR _ (by omega) (by omega)⟩
def F__law_turns : Spec
  | [.bag, .int h, .int m], R, _ => 2 ≤ h ∧ h ≤ 4 ∧ 0 < m ∧ m ≤ 2000 ∧ ∀ ts : List Int, (0 < ts.length ∧ (ts.length : Int) ≤ m ∧ ∀ t ∈ ts, 0 ≤ t ∧ t < h) → R (.lst (ts.map .int))
  | _, _, _ => False
theorem F__law_turns_is {h m : Int} {R : D → Prop} {Rx : Er → Prop} : F__law_turns [.bag, .int h, .int m] R Rx = (2 ≤ h ∧ h ≤ 4 ∧ 0 < m ∧ m ≤ 2000 ∧ ∀ ts : List Int, (0 < ts.length ∧ (ts.length : Int) ≤ m ∧ ∀ t ∈ ts, 0 ≤ t ∧ t < h) → R (.lst (ts.map .int))) := rfl
theorem F__law_turns_of {ds : List D} {R : D → Prop} {Rx : Er → Prop} (z : F__law_turns ds R Rx) : ∃ h m : Int, ds = [.bag, .int h, .int m] ∧ 2 ≤ h ∧ h ≤ 4 ∧ 0 < m ∧ m ≤ 2000 ∧ ∀ ts : List Int, (0 < ts.length ∧ (ts.length : Int) ≤ m ∧ ∀ t ∈ ts, 0 ≤ t ∧ t < h) → R (.lst (ts.map .int)) := by
  unfold F__law_turns at z
  split at z
  · exact ⟨_, _, rfl, z⟩
  · exact z.elim
def b__law_turns (Dx : Df K mg "_law_turns" s__law_turns) : Binds K Dx.fd ["_law_bag_here", "_law_hands_here", "_law_most"] [] := Dx.F.bindsN fun _ _ _ _ _ _ us hl => match us, hl with | [_, _, _], _ => rfl
def n__law_turns : List Str := ["_law_bag_here", "_law_hands_here", "_law_most", "_law_many", "_law_way", "_law_part", "_law_k"]
theorem sc__law_turns : FnScope n__law_turns ["_law_bag_here", "_law_hands_here", "_law_most"] (defScope s__law_turns) := ⟨rfl, rfl, rfl, by decide +kernel, rfl, by decide +kernel, by decide +kernel⟩
theorem ok__law_turns (T : Tx mg) (D__law_turns : Df K mg "_law_turns" s__law_turns) (D__law_pull : Df K mg "_law_pull" s__law_pull) : FnOk P w K mg base (L2.CX P w) 2 D__law_turns.f D__law_turns.fd ["_law_bag_here", "_law_hands_here", "_law_most"] (spD F__law_turns) := by
  have G__law_pull := ok__law_pull (P := P) (w := w) (base := base) D__law_pull T.m_int T.m_len
  refine fn_d D__law_turns.F sc__law_turns (fun ds R Rx hsp => ?_) (fun cdv A outer s H E hr => have hu := hr.units
    (ds_cons (s_par (i := 3) (j := 4) rfl sc__law_turns.nd (da_cons (d_add d_int (d_call G__law_pull (hr.mono (by decide)) D__law_pull.g D__law_pull.F.kp (b__law_pull D__law_pull) .nil dfR_nil pass_d (da_cons (d_var 0) (da_cons (d_var 2) da_nil)))) (da_cons (d_call G__law_pull (hr.mono (by decide)) D__law_pull.g D__law_pull.F.kp (b__law_pull D__law_pull) .nil dfR_nil pass_d (da_cons (d_var 0) (da_cons d_int da_nil))) da_nil)))
    (ds_cons (s_if (dt_cmp (c_eq hu) (d_var 4) d_int (nomark _)) (ds_one (s_ret (d_mul (d_ofF (f_lst (da_cons (d_call G__law_pull (hr.mono (by decide)) D__law_pull.g D__law_pull.F.kp (b__law_pull D__law_pull) .nil dfR_nil pass_d (da_cons (d_var 0) (da_cons (d_var 1) da_nil))) da_nil))) (d_var 3)))) ds_nil)
    (ds_cons (s_if (dt_cmp (c_eq hu) (d_var 4) d_int (nomark _)) (ds_cons (s_set (i := 5) sc__law_turns.nd (d_ofF (f_lc rfl sc__law_turns.nd (i_rg1 (da_cons (d_add d_int (d_call G__law_pull (hr.mono (by decide)) D__law_pull.g D__law_pull.F.kp (b__law_pull D__law_pull) .nil dfR_nil pass_d (da_cons (d_var 0) (da_cons d_int da_nil)))) da_nil) T.m_range) (blkOk_by (own := [("_law_k", 6)]) (N := n__law_turns) (sc := defScope s__law_turns) (by decide +kernel)) (by decide) (fun _ _ _ _ _ => (g_name (i := 6) sc__law_turns.nd)) (fun _ _ _ _ _ => dts_nil) (fun _ _ _ _ _ => (d_call G__law_pull (hr.mono (by decide)) D__law_pull.g D__law_pull.F.kp (b__law_pull D__law_pull) .nil dfR_nil passL (da_cons (d_var 0) (da_cons (d_var 1) da_nil)))))))
        (ds_one (s_ret (d_ofF (f_lc rfl sc__law_turns.nd (i_rg1 (da_cons (d_var 3) da_nil) T.m_range) (blkOk_by (own := [("_law_k", 6)]) (N := n__law_turns) (sc := defScope s__law_turns) (by decide +kernel)) (by decide) (fun _ _ _ _ _ => (g_name (i := 6) sc__law_turns.nd)) (fun _ _ _ _ _ => dts_nil) (fun _ _ _ _ _ => (d_ix (d_var 5) (d_mod (d_callT b_int T.m_int PyProof.Rows.boot_int (da_cons (d_var 6) da_nil)) (d_callB b_len T.m_len boot_len (da_cons (d_var 5) da_nil)))))))))) ds_nil)
    (ds_one (s_ret (d_ofF (f_lc rfl sc__law_turns.nd (i_rg1 (da_cons (d_var 3) da_nil) T.m_range) (blkOk_by (own := [("_law_k", 6)]) (N := n__law_turns) (sc := defScope s__law_turns) (by decide +kernel)) (by decide) (fun _ _ _ _ _ => (g_name (i := 6) sc__law_turns.nd)) (fun _ _ _ _ _ => dts_nil) (fun _ _ _ _ _ => (d_call G__law_pull (hr.mono (by decide)) D__law_pull.g D__law_pull.F.kp (b__law_pull D__law_pull) .nil dfR_nil passL (da_cons (d_var 0) (da_cons (d_var 1) da_nil))))))))))) ) fun ds R Rx hsp => ?_
  · obtain ⟨h, m, rfl, _⟩ := F__law_turns_of hsp
    rfl
  · obtain ⟨h, m, rfl, h1, h2, h3, h4, hR⟩ := F__law_turns_of hsp
    clear hsp
    simp only [n__law_turns]
    walk_at "dg"
    have lg : ∀ n : Int, 0 ≤ n → n < 2 ^ 60 → n.natAbs.log2 < 9000 := fun n h0 h1 => log_lt (k := 60) (by omega) (by decide) (by decide)
    have drawn : ∀ (q : Nat) (R2 : List D → Prop) (o2 o3 o4 o5 : Option DV), q ≤ 2000 → (∀ ts : List Int, ts.length = q → (∀ t ∈ ts, 0 ≤ t ∧ t < h) → R2 (ts.map .int)) →
        LcP (ups 0 q) (yName 6) xYes (xCall F__law_pull [] (xCons (xVar 0) (xCons (xVar 1) xNil))) [6] [some (DV.val D.bag), some (DV.val (D.int h)), o2, o3, o4, o5, none] R2 := by
      intro q R2 o2 o3 o4 o5 hq hR2
      refine LcP.all (fun y => ∃ n : Int, y = .int n ∧ (0 ≤ n ∧ n < h)) (by rw [ups_length, sizeLine_eq]; omega) (fun i d N e hN => ?_) fun acc hl hacc => ?_
      · walk_at "dg"
        exact ⟨by omega, lg _ (by omega) (by omega), fun r h5 h6 => hN _ ⟨r, rfl, h5, h6⟩⟩
      · obtain ⟨ts, rfl, hts⟩ := ints_of hacc
        rw [ups_length, List.length_map] at hl
        exact hR2 ts hl hts
    refine ⟨h3, lg _ (by omega) (by omega), fun r r0 r1 => ⟨lg _ (by decide) (by decide), fun c c0 c1 => ⟨fun z => ⟨by omega, lg _ (by omega) (by omega), fun q q0 q1 => ⟨by omega, by omega, by omega, ?_⟩⟩, fun z => ⟨fun z2 => ⟨lg _ (by decide) (by decide), fun q q0 q1 => ⟨by omega, by omega, ?_⟩⟩, fun z2 => ⟨by omega, by omega, ?_⟩⟩⟩⟩⟩
    · have e : (List.replicate (1 + r).toNat [D.int q]).flatten = (List.replicate (1 + r).toNat q).map D.int := by
        rw [List.flatten_replicate_singleton, List.map_replicate]
      rw [e]
      exact hR _ ⟨by rw [List.length_replicate]; omega, by rw [List.length_replicate]; omega, fun t ht => by rw [List.eq_of_mem_replicate ht]; exact ⟨q0, q1⟩⟩
    · refine drawn _ _ _ _ _ _ (by omega) fun part hp hpm => ⟨by omega, by omega, ?_⟩
      refine LcP.all (fun y => ∃ n : Int, y = .int n ∧ (0 ≤ n ∧ n < h)) (by rw [ups_length, sizeLine_eq]; omega) (fun i d N e hN => ?_) fun acc hl hacc => ?_
      · obtain ⟨hi, rfl⟩ := ups_at e
        walk_at "dg"
        have hpl : 0 < part.length := by omega
        have hlt : i % part.length < part.length := Nat.mod_lt _ hpl
        have ef : ((i : Int)).fmod (part.length : Int) = ((i % part.length : Nat) : Int) := by
          rw [Int.fmod_eq_emod_of_nonneg _ (by omega)]
          rfl
        refine ⟨by omega, _, at_ints (k := i % part.length) ef hlt, hN _ ⟨_, rfl, hpm _ ?_⟩⟩
        simp only [List.getD, List.getElem?_eq_getElem hlt]
        exact List.getElem_mem hlt
      · obtain ⟨ts, rfl, hts⟩ := ints_of hacc
        rw [ups_length, List.length_map] at hl
        exact hR ts ⟨by omega, by omega, hts⟩
    · exact drawn _ _ _ _ _ _ (by omega) fun ts hl hts => hR ts ⟨by omega, by omega, hts⟩
def dgN23 : Array Lean.Name := dgN22 ++ #[`F__law_turns_is]
local macro_rules | `(tactic| walk_at "dg") => do let xs ← dgN23.mapM fun n => `(Lean.Parser.Tactic.simpLemma| $(Lean.mkIdent n):term); `(tactic| simp only [$xs,*, List.getElem?_cons_zero, List.getElem?_cons_succ])
theorem bin_div0 (n i : Nat) : ((bin n i : Nat) : Int) * ((n : Int) - (i : Int)) = (((i + 1) * bin n (i + 1) : Nat) : Int) := by
  by_cases h : i ≤ n
  · rw [bin_step, show (n : Int) - (i : Int) = ((n - i : Nat) : Int) by omega, ← Int.natCast_mul]
  · rw [bin_gt n i (by omega), bin_gt n (i + 1) (by omega)]
    simp
def F__law_choose : Spec
  | [.int n, .int k], R, _ => 0 ≤ n ∧ n < 2 ^ 140 ∧ 0 ≤ k ∧ k ≤ 2000 ∧ R (.int (chs n k))
  | _, _, _ => False
theorem F__law_choose_is {n k : Int} {R : D → Prop} {Rx : Er → Prop} : F__law_choose [.int n, .int k] R Rx = (0 ≤ n ∧ n < 2 ^ 140 ∧ 0 ≤ k ∧ k ≤ 2000 ∧ R (.int (chs n k))) := rfl
def b__law_choose (Dx : Df K mg "_law_choose" s__law_choose) : Binds K Dx.fd ["_law_upper", "_law_lower"] [] := Dx.F.bindsN fun _ _ _ _ _ _ us hl => match us, hl with | [_, _], _ => rfl
def n__law_choose : List Str := ["_law_upper", "_law_lower", "_law_found", "_law_step"]
theorem sc__law_choose : FnScope n__law_choose ["_law_upper", "_law_lower"] (defScope s__law_choose) := ⟨rfl, rfl, rfl, by decide +kernel, rfl, by decide +kernel, by decide +kernel⟩
theorem ok__law_choose (T : Tx mg) (D__law_choose : Df K mg "_law_choose" s__law_choose) : FnOk P w K mg base (L2.CX P w) 1 D__law_choose.f D__law_choose.fd ["_law_upper", "_law_lower"] (spD F__law_choose) := by
  refine fn_d D__law_choose.F sc__law_choose (fun ds R Rx h => ?_) (fun cdv A outer s H E hr => (ds_cons (s_set (i := 2) sc__law_choose.nd d_int)
    (ds_cons (s_for (passes_of rfl) rfl (i_rg1 (da_cons (d_var 1) da_nil) T.m_range) (g_name (i := 3) sc__law_choose.nd)
      (ds_one (s_set (i := 2) sc__law_choose.nd (d_fdiv (d_mul (d_var 2) (d_sub (d_var 0) (d_var 3))) (d_add (d_var 3) d_int)))))
    (ds_one (s_ret (d_if (dt_cmp c_le (d_var 1) (d_var 0) (nomark _)) (d_var 2) d_int))))) ) fun ds R Rx h => ?_
  · match ds, h with
    | [.int n, .int k], h => rfl
  · match ds, h with
    | [.int n, .int k], hh =>
      obtain ⟨n0, n1, k0, k1, hR⟩ := hh
      obtain ⟨m, rfl⟩ : ∃ m : Nat, n = (m : Int) := ⟨n.toNat, by omega⟩
      obtain ⟨j, rfl⟩ : ∃ j : Nat, k = (j : Int) := ⟨k.toNat, by omega⟩
      have m1 : m < 2 ^ 140 := by omega
      rw [chs_nat] at hR
      simp only [n__law_choose]
      walk_at "dg"
      refine ⟨by omega, by omega, fun i env => i ≤ j ∧ ∃ o, env = [some (.val (.int m)), some (.val (.int j)), some (.val (.int (bin m i : Nat))), o], ⟨by omega, none, by rw [bin_zero]; rfl⟩, ?_, ?_⟩
      · rintro i d env e ⟨hi, o, rfl⟩
        obtain ⟨hi2, rfl⟩ := ups_at e
        rw [Int.toNat_natCast] at hi2
        walk_at "dg"
        refine ⟨.inr (wide_mul (a := 282001) (b := 141) ?_ ?_ (by decide) (by decide) (by decide)), .inl ⟨by omega, by omega⟩, by omega, ?_⟩
        · rw [Int.natAbs_natCast]
          exact bin_bits m1 (by omega)
        · omega
        · rw [bin_div0, fdiv_pos (by omega)]
          have : (((i + 1) * bin m (i + 1) : Nat) : Int) / ((i : Int) + 1) = ((bin m (i + 1) : Nat) : Int) := by
            rw [Int.natCast_mul, show ((i + 1 : Nat) : Int) = (i : Int) + 1 by omega]
            exact Int.mul_ediv_cancel_left _ (by omega)
          rw [this]
      · rintro env ⟨_, o, rfl⟩
        rw [Int.toNat_natCast]
        walk_at "dg"
        refine ⟨fun _ => hR, fun z => ?_⟩
        rw [bin_gt m j (by omega)] at hR
        exact hR
def dgN24 : Array Lean.Name := dgN23 ++ #[`F__law_choose_is]
local macro_rules | `(tactic| walk_at "dg") => do let xs ← dgN24.mapM fun n => `(Lean.Parser.Tactic.simpLemma| $(Lean.mkIdent n):term); `(tactic| simp only [$xs,*, List.getElem?_cons_zero, List.getElem?_cons_succ])
def F__law_totals : Spec
  | [.int h, .lst xs, .lst ys], R, Rx => ∃ ts ws, asInts xs = some ts ∧ asInts ys = some ws ∧ 2 ≤ h ∧ h ≤ 4 ∧ (∀ t ∈ ts, 0 ≤ t ∧ t < h) ∧ ws.length = ts.length ∧ ts.length ≤ 2000 ∧ R (.lst ((totL h ts ws).map .int))
  | _, _, _ => False
theorem F__law_totals_is {h : Int} {xs : List D} {ys : List D} {R : D → Prop} {Rx : Er → Prop} : F__law_totals [.int h, .lst xs, .lst ys] R Rx = (∃ ts ws, asInts xs = some ts ∧ asInts ys = some ws ∧ 2 ≤ h ∧ h ≤ 4 ∧ (∀ t ∈ ts, 0 ≤ t ∧ t < h) ∧ ws.length = ts.length ∧ ts.length ≤ 2000 ∧ R (.lst ((totL h ts ws).map .int))) := rfl
theorem F__law_totals_of {ds : List D} {R : D → Prop} {Rx : Er → Prop} (z : F__law_totals ds R Rx) : ∃ (h : Int) (xs : List D) (ys : List D), ds = [.int h, .lst xs, .lst ys] ∧ (∃ ts ws, asInts xs = some ts ∧ asInts ys = some ws ∧ 2 ≤ h ∧ h ≤ 4 ∧ (∀ t ∈ ts, 0 ≤ t ∧ t < h) ∧ ws.length = ts.length ∧ ts.length ≤ 2000 ∧ R (.lst ((totL h ts ws).map .int))) := by
  unfold F__law_totals at z
  split at z
  · exact ⟨_, _, _, rfl, z⟩
  · exact z.elim
def b__law_totals (Dx : Df K mg "_law_totals" s__law_totals) : Binds K Dx.fd ["_law_hands_here", "_law_row", "_law_worths"] [] := Dx.F.bindsN fun _ _ _ _ _ _ us hl => match us, hl with | [_, _, _], _ => rfl
def n__law_totals : List Str := ["_law_hands_here", "_law_row", "_law_worths", "_law_found", "_law_hand", "_law_worth"]
theorem sc__law_totals : FnScope n__law_totals ["_law_hands_here", "_law_row", "_law_worths"] (defScope s__law_totals) := ⟨rfl, rfl, rfl, by decide +kernel, rfl, by decide +kernel, by decide +kernel⟩
theorem ok__law_totals (T : Tx mg) (D__law_totals : Df K mg "_law_totals" s__law_totals) : FnOk P w K mg base (L2.CX P w) 1 D__law_totals.f D__law_totals.fd ["_law_hands_here", "_law_row", "_law_worths"] (spD F__law_totals) := by

  refine fn_d D__law_totals.F sc__law_totals (fun ds R Rx hs0 => ?_) (fun cdv A outer s H E hr => have hu := hr.units
    (ds_cons (s_setO (i := 3) sc__law_totals.nd (f_mul (d_ofF (f_lst (da_cons d_int da_nil))) (d_var 0)))
    (ds_cons (s_for (passes_of rfl) rfl (i_zip (da_cons (d_var 1) (da_cons (d_var 2) da_nil)) T.m_zip) (g_tup (n := 2) rfl (gs_cons (g_name (i := 4) sc__law_totals.nd) (gs_cons (g_name (i := 5) sc__law_totals.nd) gs_nil)))
      (ds_one (s_stO 3 (d_add (d_ixO 3 (d_var 4)) (d_var 5)) (d_var 4))))
    (ds_one (s_frz 3 (s_ret (d_var 3)))))) ) fun ds R Rx hs0 => ?_
  · obtain ⟨_, _, _, rfl, _⟩ := F__law_totals_of hs0
    rfl
  · obtain ⟨h, xs, ys, rfl, hs⟩ := F__law_totals_of hs0
    clear hs0
    simp only [n__law_totals]
    walk_at "dg"
    obtain ⟨ts, ws, e1, e2, h2, h4, o5, hl, hn, hR⟩ := hs
    obtain rfl := asInts_eq e1
    obtain rfl := asInts_eq e2
    have e0 : (List.replicate h.toNat [D.int 0]).flatten = (totL h (ts.take 0) (ws.take 0)).map D.int := by
      rw [List.flatten_replicate_singleton]
      unfold totL tot
      apply List.ext_getElem?
      intro i
      by_cases hi : i < h.toNat
      · simp [hi]
      · simp [hi]
    refine ⟨by omega, by omega, by omega, fun i env => i ≤ ts.length ∧ ∃ e3 e4 : Option DV, env = [some (.val (.int h)), some (.val (.lst (ts.map D.int))), some (.val (.lst (ws.map D.int))), some (.own ((totL h (ts.take i) (ws.take i)).map D.int)), e3, e4], ⟨by omega, _, _, by rw [e0]⟩, ?_, ?_⟩
    · rintro i d env e ⟨hi, e3, e4, rfl⟩
      obtain ⟨h1, h3, rfl⟩ := pairs_ints e
      have tm : ts.getD i 0 ∈ ts := by
        simp only [List.getD, List.getElem?_eq_getElem h1]
        exact List.getElem_mem h1
      obtain ⟨t0, t1⟩ := o5 _ tm
      walk_at "dg"
      have ht : (ts.getD i 0).toNat < h.toNat := by omega
      have lt : (totL h (ts.take i) (ws.take i)).length = h.toNat := by unfold totL; simp
      have at0 : atI ((totL h (ts.take i) (ws.take i)).map D.int) (ts.getD i 0) = some (D.int (tot (ts.take i) (ws.take i) (ts.getD i 0))) := by
        unfold totL
        rw [List.map_map, atI_map (k := (ts.getD i 0).toNat) (by omega) ht]
        show some (D.int (tot (ts.take i) (ws.take i) ((ts.getD i 0).toNat : Int))) = _
        rw [Int.toNat_of_nonneg t0]
      refine ⟨_, at0, ?_⟩
      walk_at "dg"
      refine ⟨(ts.getD i 0).toNat, ?_, by omega, ?_⟩
      · unfold ixN
        rw [lt, if_pos t0, if_pos (by omega)]
      · rw [show totL h (ts.take i) (ws.take i) = (List.range h.toNat).map fun (k : Nat) => tot (ts.take i) (ws.take i) (k : Int) from rfl, ← List.map_set, totL_set t0 t1]
        congr 1
        unfold totL
        refine List.map_congr_left fun k hk => ?_
        have hk := List.mem_range.mp hk
        rw [tot_succ h1 h3]
        by_cases z : k = (ts.getD i 0).toNat
        · have z2 : ts.getD i 0 = (k : Int) := by omega
          rw [if_pos z, if_pos z2, z2]
        · have z2 : ¬ ts.getD i 0 = (k : Int) := by omega
          rw [if_neg z, if_neg z2, Int.add_zero]
    · rintro env ⟨_, e3, e4, rfl⟩
      have el : (pairs (ts.map D.int) (ws.map D.int)).length = ts.length := by rw [pairs_length, List.length_map, List.length_map, hl, Nat.min_self]
      rw [el, List.take_length, ← hl, List.take_length]
      walk_at "dg"
      exact hR
def dgN25 : Array Lean.Name := dgN24 ++ #[`F__law_totals_is]
local macro_rules | `(tactic| walk_at "dg") => do let xs ← dgN25.mapM fun n => `(Lean.Parser.Tactic.simpLemma| $(Lean.mkIdent n):term); `(tactic| simp only [$xs,*, List.getElem?_cons_zero, List.getElem?_cons_succ])
def F__law_within : Spec
  | [.lst xs, .lst ys, .int h], R, _ => ∃ ts, asInts xs = some ts ∧ ∃ us, asInts ys = some us ∧ 2 ≤ h ∧ h ≤ 4 ∧ ts.length * us.length ≤ 2000 ∧ us.length ≤ 2000 ∧ R (.lst ((xorL h ts us).map .int))
  | _, _, _ => False
theorem F__law_within_is {xs ys : List D} {h : Int} {R : D → Prop} {Rx : Er → Prop} : F__law_within [.lst xs, .lst ys, .int h] R Rx = ∃ ts, asInts xs = some ts ∧ ∃ us, asInts ys = some us ∧ 2 ≤ h ∧ h ≤ 4 ∧ ts.length * us.length ≤ 2000 ∧ us.length ≤ 2000 ∧ R (.lst ((xorL h ts us).map .int)) := rfl
def b__law_within (Dx : Df K mg "_law_within" s__law_within) : Binds K Dx.fd ["_law_row", "_law_part", "_law_hands_here"] [] := Dx.F.bindsN fun _ _ _ _ _ _ us hl => match us, hl with | [_, _, _], _ => rfl
def n__law_within : List Str := ["_law_row", "_law_part", "_law_hands_here", "_law_found", "_law_by", "_law_hand"]
theorem sc__law_within : FnScope n__law_within ["_law_row", "_law_part", "_law_hands_here"] (defScope s__law_within) := ⟨rfl, rfl, rfl, by decide +kernel, rfl, by decide +kernel, by decide +kernel⟩
def dgN26 : Array Lean.Name := dgN25 ++ #[`F__law_within_is]
local macro_rules | `(tactic| walk_at "dg") => do let xs ← dgN26.mapM fun n => `(Lean.Parser.Tactic.simpLemma| $(Lean.mkIdent n):term); `(tactic| simp only [$xs,*, List.getElem?_cons_zero, List.getElem?_cons_succ])
theorem xorL_take {h : Int} {ts us : List Int} {i : Nat} {t : Int} (e : ts[i]? = some t) : xorL h (ts.take (i + 1)) us = xorL h (ts.take i) us ++ us.map fun u => (u + t).fmod h := by
  unfold xorL
  rw [List.take_succ, e, List.flatMap_append]
  simp
theorem ok__law_within (T : Tx mg) (D__law_within : Df K mg "_law_within" s__law_within) : FnOk P w K mg base (L2.CX P w) 1 D__law_within.f D__law_within.fd ["_law_row", "_law_part", "_law_hands_here"] (spD F__law_within) := by
  refine fn_d D__law_within.F sc__law_within (fun ds R Rx h => ?_) (fun cdv A outer s H E hr => (ds_cons (s_set (i := 3) sc__law_within.nd (d_ofF (f_lst da_nil)))
    (ds_cons (s_for (passes_of rfl) rfl (i_list (d_var 0)) (g_name (i := 4) sc__law_within.nd)
      (ds_one (s_set (i := 3) sc__law_within.nd (d_add (d_var 3) (d_ofF (f_lc rfl sc__law_within.nd (i_list (d_var 1)) (blkOk_by (own := [("_law_hand", 5)]) (N := n__law_within) (sc := defScope s__law_within) (by decide +kernel)) (by decide) (fun _ _ _ _ _ => (g_name (i := 5) sc__law_within.nd)) (fun _ _ _ _ _ => dts_nil) (fun _ _ _ _ _ => (d_mod (d_callT b_int T.m_int PyProof.Rows.boot_int (da_cons (d_add (d_var 5) (d_var 4)) da_nil)) (d_var 2)))))))))
    (ds_one (s_ret (d_var 3))))) ) fun ds R Rx h => ?_
  · match ds, h with
    | [.lst xs, .lst ys, .int n], h => rfl
  · match ds, h with
    | [.lst xs, .lst ys, .int h], hh =>
      obtain ⟨ts, e, us, e2, h2, h4, hl, hu2, hR⟩ := hh
      obtain rfl := asInts_eq e
      obtain rfl := asInts_eq e2
      simp only [n__law_within]
      walk_at "dg"
      refine ⟨fun i env => i ≤ ts.length ∧ ∃ e4 e5 : Option DV, env = [some (.val (.lst (ts.map D.int))), some (.val (.lst (us.map D.int))), some (.val (.int h)), some (.val (.lst ((xorL h (ts.take i) us).map D.int))), e4, e5], ⟨by omega, none, none, rfl⟩, ?_, ?_⟩
      · rintro i d env e ⟨hi, e4, e5, rfl⟩
        rw [List.getElem?_map] at e
        cases q : ts[i]? with
        | none => rw [q] at e; cases e
        | some t =>
          rw [q] at e
          cases e
          have hi2 := (List.getElem?_eq_some_iff.mp q).1
          walk_at "dg"
          refine LcP.of (fun u => .int ((u + t).fmod h)) (by rw [sizeLine_eq]; omega) (fun j t N e hN => ?_) ?_
          · walk_at "dg"
            exact ⟨by omega, hN⟩
          · have hk : i * us.length ≤ ts.length * us.length := Nat.mul_le_mul_right _ (by omega)
            have hl2 : (xorL h (ts.take i) us).length = i * us.length := by rw [xorL_length, List.length_take]; congr 1; omega
            walk_at "dg"
            refine ⟨by omega, by omega, ?_⟩
            rw [xorL_take q, List.map_append, List.map_map]
            rfl
      · rintro env ⟨_, e4, e5, rfl⟩
        rw [List.take_length]
        walk_at "dg"
        exact hR
def F__law_digits : Spec
  | [.lst xs], R, Rx => ∃ ts, asInts xs = some ts ∧ Figs ts ∧ ts.length ≤ 100000 ∧ R (.str (tx (digC ts)))
  | _, _, _ => False
theorem F__law_digits_is {xs : List D} {R : D → Prop} {Rx : Er → Prop} : F__law_digits [.lst xs] R Rx = (∃ ts, asInts xs = some ts ∧ Figs ts ∧ ts.length ≤ 100000 ∧ R (.str (tx (digC ts)))) := rfl
theorem F__law_digits_of {ds : List D} {R : D → Prop} {Rx : Er → Prop} (z : F__law_digits ds R Rx) : ∃ (xs : List D), ds = [.lst xs] ∧ (∃ ts, asInts xs = some ts ∧ Figs ts ∧ ts.length ≤ 100000 ∧ R (.str (tx (digC ts)))) := by
  unfold F__law_digits at z
  split at z
  · exact ⟨_, rfl, z⟩
  · exact z.elim
def b__law_digits (Dx : Df K mg "_law_digits" s__law_digits) : Binds K Dx.fd ["_law_row"] [] := Dx.F.bindsN fun _ _ _ _ _ _ us hl => match us, hl with | [_], _ => rfl
def n__law_digits : List Str := ["_law_row", "_law_hand"]
theorem sc__law_digits : FnScope n__law_digits ["_law_row"] (defScope s__law_digits) := ⟨rfl, rfl, rfl, by decide +kernel, rfl, by decide +kernel, by decide +kernel⟩
theorem ok__law_digits (T : Tx mg) (D__law_digits : Df K mg "_law_digits" s__law_digits) : FnOk P w K mg base (L2.CX P w) 1 D__law_digits.f D__law_digits.fd ["_law_row"] (spD F__law_digits) := by

  refine fn_d D__law_digits.F sc__law_digits (fun ds R Rx hs0 => ?_) (fun cdv A outer s H E hr => have hu := hr.units
    (ds_one (s_ret (d_join d_str (d_ofF (f_lc rfl sc__law_digits.nd (i_list (d_var 0)) (blkOk_by (own := [("_law_hand", 1)]) (N := n__law_digits) (sc := defScope s__law_digits) (by decide +kernel)) (by decide) (fun _ _ _ _ _ => (g_name (i := 1) sc__law_digits.nd)) (fun _ _ _ _ _ => dts_nil) (fun _ _ _ _ _ => (d_callT b_str T.m_str PyProof.Rows.boot_str (da_cons (d_var 1) da_nil)))))))) ) fun ds R Rx hs0 => ?_
  · obtain ⟨_, rfl, _⟩ := F__law_digits_of hs0
    rfl
  · obtain ⟨xs, rfl, hs⟩ := F__law_digits_of hs0
    clear hs0
    simp only [n__law_digits]
    walk_at "dg"
    obtain ⟨ts, e, f, hl, hR⟩ := hs
    obtain rfl := asInts_eq e
    refine LcP.of (fun t : Int => .str (toString t)) (by rw [sizeLine_eq]; omega) (fun i t N e hN => ?_) ?_
    · walk_at "dg"
      exact ⟨figs_log (f t (List.mem_of_getElem? e)).1 (f t (List.mem_of_getElem? e)).2, hN⟩
    · rw [show (ts.map fun t : Int => D.str (toString t)) = (ts.map fun t : Int => ((toString t : String) : Str)).map D.str by rw [List.map_map]; rfl]
      walk_at "dg"
      refine ⟨?_, ?_⟩
      · rw [figs_len f]
        show _ + _ * 0 ≤ 16777216
        omega
      · rw [figs_join f]
        exact hR
def dgN27 : Array Lean.Name := dgN26 ++ #[`F__law_digits_is]
local macro_rules | `(tactic| walk_at "dg") => do let xs ← dgN27.mapM fun n => `(Lean.Parser.Tactic.simpLemma| $(Lean.mkIdent n):term); `(tactic| simp only [$xs,*, List.getElem?_cons_zero, List.getElem?_cons_succ])
theorem tabN_filt {ts : List Int} {k : Int} {j : Nat} : tabN ts k j = ((((List.range ts.length).filter fun i => decide (ts.getD i 0 = k)).map fun i => ((bin i j : Nat) : Int))).sum := by
  have go : ∀ n, n ≤ ts.length → tabN (ts.take n) k j = ((((List.range n).filter fun i => decide (ts.getD i 0 = k)).map fun i => ((bin i j : Nat) : Int))).sum := fun n => by
    induction n with
    | zero => intro _; rfl
    | succ n ih =>
      intro hn
      rw [tabN_succ (by omega), ih (by omega), List.range_succ, List.filter_append, List.map_append, List.sum_append]
      congr 1
      by_cases c : ts.getD n 0 = k
      · have e : decide (ts.getD n 0 = k) = true := decide_eq_true c
        rw [if_pos c, List.filter_cons, e, if_pos rfl, List.filter_nil, List.map_cons, List.map_nil, List.sum_cons, List.sum_nil, Int.add_zero]
      · have e : decide (ts.getD n 0 = k) = false := decide_eq_false c
        rw [if_neg c, List.filter_cons, e, if_neg Bool.false_ne_true, List.filter_nil, List.map_nil, List.sum_nil]
  have := go ts.length (Nat.le_refl _)
  rw [List.take_length] at this
  exact this
theorem atI_tsq {ts : List Int} {q : Nat} (hq : q < ts.length) : atI (ts.map D.int) (q : Int) = some (.int (ts.getD q 0)) := by
  have e : ixN (ts.map D.int).length (q : Int) = some q := by
    unfold ixN
    rw [List.length_map, if_pos (by omega), if_pos (by omega)]
    rfl
  rw [atI_ixN e, List.getElem?_map, List.getElem?_eq_getElem hq, List.getD, List.getElem?_eq_getElem hq]
  rfl
theorem ups_rg {n : Nat} : ups 0 n = (List.range n).map fun (i : Nat) => D.int (i : Int) := by
  apply List.ext_getElem?
  intro i
  rw [ups_get, List.getElem?_map]
  by_cases h : i < n
  · rw [if_pos h, List.getElem?_range h, Int.zero_add]
    rfl
  · rw [if_neg h, List.getElem?_eq_none (by rw [List.length_range]; omega)]
    rfl
def F__law_table : Spec
  | [.int h, .lst xs, .int m], R, Rx => ∃ ts, asInts xs = some ts ∧ 2 ≤ h ∧ h ≤ 4 ∧ ts.length ≤ 100 ∧ 0 ≤ m ∧ m ≤ 40 ∧ R (.lst ((tabL h ts m.toNat).map fun l => .lst (l.map .int)))
  | _, _, _ => False
theorem F__law_table_is {h : Int} {xs : List D} {m : Int} {R : D → Prop} {Rx : Er → Prop} : F__law_table [.int h, .lst xs, .int m] R Rx = (∃ ts, asInts xs = some ts ∧ 2 ≤ h ∧ h ≤ 4 ∧ ts.length ≤ 100 ∧ 0 ≤ m ∧ m ≤ 40 ∧ R (.lst ((tabL h ts m.toNat).map fun l => .lst (l.map .int)))) := rfl
theorem F__law_table_of {ds : List D} {R : D → Prop} {Rx : Er → Prop} (z : F__law_table ds R Rx) : ∃ (h : Int) (xs : List D) (m : Int), ds = [.int h, .lst xs, .int m] ∧ (∃ ts, asInts xs = some ts ∧ 2 ≤ h ∧ h ≤ 4 ∧ ts.length ≤ 100 ∧ 0 ≤ m ∧ m ≤ 40 ∧ R (.lst ((tabL h ts m.toNat).map fun l => .lst (l.map .int)))) := by
  unfold F__law_table at z
  split at z
  · exact ⟨_, _, _, rfl, z⟩
  · exact z.elim
def b__law_table (Dx : Df K mg "_law_table" s__law_table) : Binds K Dx.fd ["_law_hands_here", "_law_row", "_law_deep"] [] := Dx.F.bindsN fun _ _ _ _ _ _ us hl => match us, hl with | [_, _, _], _ => rfl
def n__law_table : List Str := ["_law_hands_here", "_law_row", "_law_deep", "_law_found", "_law_hand", "_law_places", "_law_at", "_law_k"]
theorem sc__law_table : FnScope n__law_table ["_law_hands_here", "_law_row", "_law_deep"] (defScope s__law_table) := ⟨rfl, rfl, rfl, by decide +kernel, rfl, by decide +kernel, by decide +kernel⟩
theorem ok__law_table (T : Tx mg) (D__law_table : Df K mg "_law_table" s__law_table) (D__law_choose : Df K mg "_law_choose" s__law_choose) : FnOk P w K mg base (L2.CX P w) 2 D__law_table.f D__law_table.fd ["_law_hands_here", "_law_row", "_law_deep"] (spD F__law_table) := by
  have G__law_choose := ok__law_choose (P := P) (w := w) (base := base) T D__law_choose
  refine fn_d D__law_table.F sc__law_table (fun ds R Rx hs0 => ?_) (fun cdv A outer s H E hr => have hu := hr.units
    (ds_cons (s_setO (i := 3) sc__law_table.nd (f_lst da_nil))
    (ds_cons (s_for (passes_of rfl) rfl (i_rg1 (da_cons (d_var 0) da_nil) T.m_range) (g_name (i := 4) sc__law_table.nd)
      (ds_cons (s_set (i := 5) sc__law_table.nd (d_ofF (f_lc rfl sc__law_table.nd (i_rg1 (da_cons (d_callB b_len T.m_len boot_len (da_cons (d_var 1) da_nil)) da_nil) T.m_range) (blkOk_by (own := [("_law_at", 6)]) (N := n__law_table) (sc := defScope s__law_table) (by decide +kernel)) (by decide) (fun _ _ _ _ _ => (g_name (i := 6) sc__law_table.nd)) (fun _ _ _ _ _ => (dts_one (dt_cmp (c_eq hu) (d_ix (d_var 1) (d_var 6)) (d_var 4) (nomark _)))) (fun _ _ _ _ _ => (d_var 6)))))
        (ds_one (s_app 3 (d_ofF (f_lc rfl sc__law_table.nd (i_rg1 (da_cons (d_var 2) da_nil) T.m_range) (blkOk_by (own := [("_law_k", 7)]) (N := n__law_table) (sc := defScope s__law_table) (by decide +kernel)) (by decide) (fun _ _ _ _ _ => (g_name (i := 7) sc__law_table.nd)) (fun _ _ _ _ _ => dts_nil) (fun _ _ _ _ _ => (d_callB (b_sum rfl) T.m_sum PyProof.Rows.boot_sum (da_cons (d_ofF (f_lc rfl sc__law_table.nd (i_list (d_var 5)) (blkOk_by (own := [("_law_at", 6)]) (N := n__law_table) (by kernel_rfl)) (by decide) (fun _ _ _ _ _ => (g_name (i := 6) sc__law_table.nd)) (fun _ _ _ _ _ => dts_nil) (fun _ _ _ _ _ => (d_call G__law_choose (hr.mono (by decide)) D__law_choose.g D__law_choose.F.kp (b__law_choose D__law_choose) .nil dfR_nil passL (da_cons (d_var 6) (da_cons (d_var 7) da_nil)))))) da_nil))))) (hp := fun h => pe_bm PySem.F.plainAttrs_list PySem.F.slot_list_append PySem.F.type_list_append mt_append (pv 3) (pa_cons h pa_nil))))))
    (ds_one (s_frz 3 (s_ret (d_var 3)))))) ) fun ds R Rx hs0 => ?_
  · obtain ⟨_, _, _, rfl, _⟩ := F__law_table_of hs0
    rfl
  · obtain ⟨h, xs, m, rfl, hs⟩ := F__law_table_of hs0
    clear hs0
    simp only [n__law_table]
    walk_at "dg"
    obtain ⟨ts, e1, h2, h4, hn, m0, m1, hR⟩ := hs
    obtain rfl := asInts_eq e1
    obtain ⟨M, rfl⟩ : ∃ M : Nat, m = (M : Int) := ⟨m.toNat, by omega⟩
    rw [Int.toNat_natCast] at hR
    refine ⟨by omega, by omega, fun i env => i ≤ h.toNat ∧ ∃ e5 e6 e7 e8 : Option DV, env = [some (.val (.int h)), some (.val (.lst (ts.map D.int))), some (.val (.int (M : Int))), some (.own (((List.range i).map fun k => tabR ts M k).map fun l => .lst (l.map .int))), e5, e6, e7, e8], ⟨by omega, _, _, _, _, rfl⟩, ?_, ?_⟩
    · rintro i d env e ⟨hi, e5, e6, e7, e8, rfl⟩
      obtain ⟨hi2, rfl⟩ := ups_at e
      walk_at "dg"
      refine ⟨by omega, by omega, ?_⟩
      rw [Int.toNat_natCast, ups_rg]
      refine LcP.filt (fun q => decide (ts.getD q 0 = (i : Int))) (fun (q : Nat) => .int (q : Int)) (by rw [List.length_range, sizeLine_eq]; omega) (fun j q N M2 eq h1 h3 => ?_) ?_
      · have hq : q < ts.length := List.mem_range.mp (List.mem_of_getElem? eq)
        have hat : atI (ts.map D.int) (q : Int) = some (.int (ts.getD q 0)) := atI_tsq hq
        walk_at "dg"
        refine ⟨_, hat, ?_⟩
        walk_at "dg"
        exact ⟨fun z => h1 (decide_eq_true z), fun z => h3 (decide_eq_false z)⟩
      rw [ups_rg, Int.toNat_natCast]
      refine ⟨by omega, by omega, ?_⟩
      refine LcP.of (fun q : Nat => .int (tabN ts (i : Int) q)) (by rw [List.length_range, sizeLine_eq]; omega) (fun j q N eq hN => ?_) ?_
      · have hq : q < M := List.mem_range.mp (List.mem_of_getElem? eq)
        walk_at "dg"
        refine LcP.of (fun x : Nat => .int ((bin x q : Nat) : Int)) (by rw [sizeLine_eq]; refine Nat.le_trans (List.length_filter_le _ _) ?_; rw [List.length_range]; omega) (fun j2 x N2 ex hN2 => ?_) ?_
        · have hx := List.mem_range.mp (List.mem_filter.mp (List.mem_of_getElem? ex)).1
          walk_at "dg"
          refine ⟨by omega, by omega, by omega, by omega, ?_⟩
          rw [chs_nat]
          exact hN2
        refine ⟨((List.range ts.length).filter fun q => decide (ts.getD q 0 = (i : Int))).map fun x => ((bin x q : Nat) : Int), ?_, ?_⟩
        · rw [← asInts_map, List.map_map]
          rfl
        · rw [← tabN_filt]
          exact hN
      refine ⟨by omega, by omega, ?_⟩
      rw [List.range_succ, List.map_append, List.map_append]
      unfold tabR
      rw [List.map_cons, List.map_cons, List.map_nil, List.map_nil, List.map_map, List.map_map (l := List.range M)]
      rfl
    · rintro env ⟨_, e5, e6, e7, e8, rfl⟩
      walk_at "dg"
      exact hR
theorem cnt_plcs {ts : List Int} {k : Int} : (ts.filter fun t => decide (t = k)).length = (plcs ts k).length := by
  unfold plcs
  rw [List.length_map]
  have go : ∀ n, n ≤ ts.length → ((ts.take n).filter fun t => decide (t = k)).length = ((List.range n).filter fun i => decide (ts.getD i 0 = k)).length := fun n => by
    induction n with
    | zero => intro _; rfl
    | succ n ih =>
      intro hn
      have e1 : ts.take (n + 1) = ts.take n ++ [ts.getD n 0] := by
        rw [List.take_succ, List.getD, List.getElem?_eq_getElem hn]
        rfl
      rw [e1, List.filter_append, List.length_append, ih (by omega), List.range_succ, List.filter_append, List.length_append]
      by_cases c : ts.getD n 0 = k
      · rw [List.filter_cons, List.filter_cons, decide_eq_true c]
        rfl
      · rw [List.filter_cons, List.filter_cons, decide_eq_false c]
        rfl
  have := go ts.length (Nat.le_refl _)
  rw [List.take_length] at this
  exact this
theorem set0_eq {ts : List Int} {b : Int} (h : 0 < ts.length) : D.int b :: cutD (ts.map D.int) (some 1) none = (ts.set 0 b).map D.int := by
  cases ts with
  | nil => cases h
  | cons t ts =>
    have e : cutD ((t :: ts).map D.int) (some ((1 : Nat) : Int)) none = ((t :: ts).map D.int).drop 1 := cutD_from
    have e : cutD ((t :: ts).map D.int) (some 1) none = ts.map D.int := e
    rw [e]
    rfl
theorem plcs_le {ts : List Int} {k : Int} : (plcs ts k).length ≤ ts.length := by
  unfold plcs
  rw [List.length_map]
  exact Nat.le_trans (List.length_filter_le _ _) (by rw [List.length_range]; omega)
theorem notIn2 {x a b : Int} {F : Bool → Prop} : opNotIn (.int x) (.tup [.int a, .int b]) (asB F) = F (!decide (x = a ∨ x = b)) := by
  have e : inV (V.int x) [V.int a, V.int b] = decide (x = a ∨ x = b) := by
    unfold inV
    rw [Bool.eq_iff_iff]
    simp only [List.any_cons, List.any_nil, eqV, Bool.or_false, Bool.or_eq_true, beq_iff_eq, decide_eq_true_eq, eq_comm (a := x)]
  show (true = true ∧ true = true ∧ F (!inV (V.int x) [V.int a, V.int b])) = _
  rw [e]
  simp only [true_and]
theorem totL_length {h : Int} {ts ws : List Int} : (totL h ts ws).length = h.toNat := by unfold totL; rw [List.length_map, List.length_range]
theorem flatL_fints {α : Type} {f : α → Int} : ∀ l : List α, flatL (l.map fun a => D.int (f a)) = true
  | [] => rfl
  | _ :: l => flatL_fints l
local macro_rules | `(tactic| walk_at "rk") => `(tactic| first
  | assumption
  | (refine rok_app ?_ ?_ ?_ <;> first | walk_at "rk" | (simp only [List.length_append, List.length_reverse, List.length_map, List.length_replicate]; omega))
  | (refine rok_rev ?_; walk_at "rk")
  | (refine rok_map ?_ _ (fun t => fmod_in (by assumption)); walk_at "rk")
  | omega
  | decide
  | (refine log_lt (k := 80) ?_ (by decide) (by decide); omega))
local macro_rules | `(tactic| walk_at "fin") => `(tactic| ((repeat' (first | (with_reducible assumption) | (with_reducible refine And.intro ?_ ?_) | (with_reducible intro _))); all_goals first | (with_reducible assumption) | omega | contradiction | trivial))
local macro_rules | `(tactic| walk_at "cj") => `(tactic| repeat' (refine And.intro (by walk_at "rk") ?_))
def n_law : List Str := ["_law_script", "_law_bag_here", "_law_hands_here", "_law_lists", "_law_rows", "_law_step", "_law_at", "_law_way", "_law_row", "_law_made", "_law_worths_y", "_law_by", "_law_asked", "_law_due", "_law_k", "_law_one", "_law_hand"]
theorem sc_law : FnScope n_law ["_law_script"] (defScope s_law) := ⟨rfl, rfl, rfl, by decide +kernel, rfl, by decide +kernel, by decide +kernel⟩
def lq_law : Str := lamQual "law" (defScope s_law)
theorem lqe_law (n : Nat) (a : Addr) (v : Value) : (PyProof.Rows.envOfC "law" (defScope s_law) n a v).qual ++ "<lambda>" = lq_law := by unfold lq_law lamQual; rfl
def lam_0 : LamQ := lamQ lq_law [] (kid (kid (sEx (sSub (dSub s_law 4) 4)) 0) 0)
theorem lls_0 : LamX.lamSB (defScope s_law) lam_0.scope = true := by decide +kernel
def lam_1 : LamQ := lamQ lq_law [0] (kid (kid (sEx (sSub (dSub s_law 4) 4)) 0) 1)
theorem lls_1 : lamFB (defScope s_law) lam_1.scope = true := by decide +kernel
def lam_2 : LamQ := lamQ lq_law [0] (kid (kid (sEx (sSub (dSub s_law 4) 4)) 0) 2)
theorem lls_2 : lamFB (defScope s_law) lam_2.scope = true := by decide +kernel
def lam_3 : LamQ := lamQ lq_law [0] (kid (kid (sEx (sSub (dSub s_law 4) 4)) 0) 3)
theorem lls_3 : lamFB (defScope s_law) lam_3.scope = true := by decide +kernel
def lam_4 : LamQ := lamQ lq_law [0] (kid (kid (sEx (sSub (dSub s_law 4) 4)) 0) 4)
theorem lls_4 : lamFB (defScope s_law) lam_4.scope = true := by decide +kernel
def lam_5 : LamQ := lamQ lq_law [0] (kid (kid (sEx (sSub (dSub s_law 4) 4)) 0) 5)
theorem lls_5 : lamFB (defScope s_law) lam_5.scope = true := by decide +kernel
def lam_6 : LamQ := lamQ lq_law [0] (kid (kid (sEx (sSub (dSub s_law 4) 4)) 0) 6)
theorem lls_6 : lamFB (defScope s_law) lam_6.scope = true := by decide +kernel
def lam_7 : LamQ := lamQ lq_law [0] (kid (kid (sEx (sSub (dSub s_law 4) 4)) 0) 7)
theorem lls_7 : lamFB (defScope s_law) lam_7.scope = true := by decide +kernel
def lamTab : List LamQ := [lam_0, lam_1, lam_2, lam_3, lam_4, lam_5, lam_6, lam_7]
def dgN28 : Array Lean.Name := dgN27 ++ #[`F__law_table_is]
local macro_rules | `(tactic| walk_at "dg") => do let xs ← dgN28.mapM fun n => `(Lean.Parser.Tactic.simpLemma| $(Lean.mkIdent n):term); `(tactic| simp only [$xs,*, List.getElem?_cons_zero, List.getElem?_cons_succ])
theorem ok_law (T : Tx mg) (K_Row : Kx_Row K mg) (X_InvalidHands : Xe K mg P.main.file "InvalidHands" s_InvalidHands___init__) (X_InvalidTurn : Xe K mg P.main.file "InvalidTurn" s_InvalidTurn___init__) (X_InvalidHand : Xe K mg P.main.file "InvalidHand" s_InvalidHand___init__) (X_InvalidWorths : Xe K mg P.main.file "InvalidWorths" s_InvalidWorths___init__) (X_InvalidNumber : Xe K mg P.main.file "InvalidNumber" s_InvalidNumber___init__) (X_Unlike : Xe K mg P.main.file "Unlike" s_Unlike___init__) (X_TooLong : Xe K mg P.main.file "TooLong" s_TooLong___init__) (X_InvalidChange : Xe K mg P.main.file "InvalidChange" s_InvalidChange___init__) (D_law : Df K mg "law" s_law) (D__law_bag : Df K mg "_law_bag" s__law_bag) (D__law_hands : Df K mg "_law_hands" s__law_hands) (D__law_pull : Df K mg "_law_pull" s__law_pull) (D__law_turns : Df K mg "_law_turns" s__law_turns) (D_check_hands : Df K mg "check_hands" s_check_hands) (D_is_number : Df K mg "is_number" s_is_number) (D__law_totals : Df K mg "_law_totals" s__law_totals) (D__law_table : Df K mg "_law_table" s__law_table) (D__law_choose : Df K mg "_law_choose" s__law_choose) (D__law_within : Df K mg "_law_within" s__law_within) (D__law_digits : Df K mg "_law_digits" s__law_digits) (D__law_same : Df K mg "_law_same" s__law_same) (D_check_hand : Df K mg "check_hand" s_check_hand) (D_are_numbers : Df K mg "are_numbers" s_are_numbers) (D_check_most : Df K mg "check_most" s_check_most) (D_is_change : Df K mg "is_change" s_is_change) (hsup : mg "super" = none) (htop : (P.main.scope.names.lookup ("super" : Str)).isSome = false) {cd_law tb_law : Addr} (hcd_law : D_law.fd.code = .ref cd_law) (hTB_law : LamX.TabB base mg cd_law tb_law) (hmem_law : (tb_law, lq_law) ∈ TbC.ts) (hmu_law : ∀ p ∈ TbC.ts, p.1 = tb_law → p.2 = lq_law) (hlq : ∀ (i : Nat) (q : LamQ), lamTab[i]? = some q → TbC.lq i = q) :
    FnOk P w K mg base (L2.CX P w) 12 D_law.f D_law.fd ["_law_script"] (spLaw K) := by
  have GG__law_hands := fun base : Heap => ok__law_hands (P := P) (w := w) (base := base) T D__law_hands D__law_pull
  have G__law_hands := GG__law_hands base
  have GG__law_turns := fun base : Heap => ok__law_turns (P := P) (w := w) (base := base) T D__law_turns D__law_pull
  have G__law_turns := GG__law_turns base
  have GG_Row___init__ := fun base : Heap => ok_Row___init__ (P := P) (w := w) (base := base) T K_Row X_InvalidHands X_InvalidTurn D_check_hands D_is_number hsup htop
  have G_Row___init__ := GG_Row___init__ base
  have GG__law_pull := fun base : Heap => ok__law_pull (P := P) (w := w) (base := base) D__law_pull T.m_int T.m_len
  have G__law_pull := GG__law_pull base
  have GG__law_totals := fun base : Heap => ok__law_totals (P := P) (w := w) (base := base) T D__law_totals
  have G__law_totals := GG__law_totals base
  have GG__law_table := fun base : Heap => ok__law_table (P := P) (w := w) (base := base) T D__law_table D__law_choose
  have G__law_table := GG__law_table base
  have GG__law_within := fun base : Heap => ok__law_within (P := P) (w := w) (base := base) T D__law_within
  have G__law_within := GG__law_within base
  have GG__law_digits := fun base : Heap => ok__law_digits (P := P) (w := w) (base := base) T D__law_digits
  have G__law_digits := GG__law_digits base
  have GG__law_same := fun base : Heap => ok__law_same (P := P) (w := w) (base := base) ⟨T.m_isinstance, T.m_list, T.m_tuple, T.m_bool, T.m_int, T.m_str, T.m_len, T.m_all, T.m_zip⟩ D__law_same 6
  have G__law_same := GG__law_same base
  have GG_Row_turns := fun base : Heap => ok_Row_turns (P := P) (w := w) (base := base) T K_Row
  have G_Row_turns := GG_Row_turns base
  have GG_Row_counts := fun base : Heap => ok_Row_counts (P := P) (w := w) (base := base) T K_Row X_InvalidHand D_check_hand D_is_number hsup htop
  have G_Row_counts := GG_Row_counts base
  have GG_Row_totals := fun base : Heap => ok_Row_totals (P := P) (w := w) (base := base) T K_Row X_InvalidWorths D_are_numbers hsup htop
  have G_Row_totals := GG_Row_totals base
  have GG_Row_table := fun base : Heap => ok_Row_table (P := P) (w := w) (base := base) T K_Row D_check_most D_is_number X_InvalidNumber hsup htop
  have G_Row_table := GG_Row_table base
  have GG_Row___xor__ := fun base : Heap => ok_Row___xor__ (P := P) (w := w) (base := base) T K_Row X_Unlike X_InvalidHands X_InvalidTurn X_TooLong D_check_hands D_is_number hsup htop
  have G_Row___xor__ := GG_Row___xor__ base
  have GG_Row_places := fun base : Heap => ok_Row_places (P := P) (w := w) (base := base) T K_Row D_check_hand D_is_number X_InvalidHand hsup htop
  have G_Row_places := GG_Row_places base
  have GG_Row_handed := fun base : Heap => ok_Row_handed (P := P) (w := w) (base := base) T K_Row X_InvalidHands X_InvalidTurn X_InvalidChange D_is_change D_is_number D_check_hands hsup htop
  have G_Row_handed := GG_Row_handed base
  have GG_Row_text := fun base : Heap => ok_Row_text (P := P) (w := w) (base := base) T K_Row
  have G_Row_text := GG_Row_text base
  have GG_Row_turned := fun base : Heap => ok_Row_turned (P := P) (w := w) (base := base) T K_Row X_InvalidHand X_InvalidHands X_InvalidTurn D_check_hand D_is_number D_check_hands hsup htop
  have G_Row_turned := GG_Row_turned base
  obtain ⟨L_law, hLT_law, zl⟩ := lt_hide ((lt_cons (i := 0) (q := lam_0) (Ni := ["_law_made"]) (js := [9]) (hlq 0 _ rfl) (by decide +kernel) (bind0 (fun _ _ _ _ _ => rfl) rfl) (fun base A outer s H E f c' cl hr =>
      have hu := hr.units
      have G_Row_turns := GG_Row_turns base
      (d_ofN (d_methN0 (d_var 0) K_Row.cls K_Row.h_turns G_Row_turns (hr.mono (by decide)) (b_Row_turns K_Row.D_turns) pass_lam)))
    (lt_cons (i := 1) (q := lam_1) (Ni := ["_law_made"]) (js := [9]) (hlq 1 _ rfl) (by decide +kernel) (bind1 (x := "_law_a") (n := 0) (fun _ _ _ _ _ t u => ⟨_, rfl, rfl⟩) rfl (by rfl)) (fun base A outer s H E f c' cl hr =>
      have hu := hr.units
      have G_Row_counts := GG_Row_counts base
      (d_ofN (d_methN0 (d_var 0) K_Row.cls K_Row.h_counts G_Row_counts (hr.mono (by decide)) (b_Row_counts K_Row.D_counts) pass_lam)))
    (lt_cons (i := 2) (q := lam_2) (Ni := ["_law_worths_y", "_law_made"]) (js := [10, 9]) (hlq 2 _ rfl) (by decide +kernel) (bind1 (x := "_law_b") (n := 0) (fun _ _ _ _ _ t u => ⟨_, rfl, rfl⟩) rfl (by rfl)) (fun base A outer s H E f c' cl hr =>
      have hu := hr.units
      have G_Row_totals := GG_Row_totals base
      (d_ofN (d_methN (d_var 1) K_Row.cls K_Row.h_totals G_Row_totals (hr.mono (by decide)) (b_Row_totals K_Row.D_totals) pass_lam (da_cons (d_var 0) da_nil))))
    (lt_cons (i := 3) (q := lam_3) (Ni := ["_law_made"]) (js := [9]) (hlq 3 _ rfl) (by decide +kernel) (bind1 (x := "_law_c") (n := 0) (fun _ _ _ _ _ t u => ⟨_, rfl, rfl⟩) rfl (by rfl)) (fun base A outer s H E f c' cl hr =>
      have hu := hr.units
      have G_Row_table := GG_Row_table base
      (d_ofU (u_meth (d_var 0) K_Row.cls K_Row.h_table G_Row_table (hr.mono (by decide)) (b_Row_table K_Row.D_table) pass_lam (da_cons d_int da_nil))))
    (lt_cons (i := 4) (q := lam_4) (Ni := ["_law_made", "_law_rows", "_law_at"]) (js := [9, 4, 6]) (hlq 4 _ rfl) (by decide +kernel) (bind1 (x := "_law_d") (n := 0) (fun _ _ _ _ _ t u => ⟨_, rfl, rfl⟩) rfl (by rfl)) (fun base A outer s H E f c' cl hr =>
      have hu := hr.units
      have G_Row_turns := GG_Row_turns base
      have G_Row___xor__ := GG_Row___xor__ base
      (d_ofN (d_methN0 (d_ownB K_Row.o___xor__.first K_Row.o___xor__.at_ K_Row.o___xor__.fn G_Row___xor__ (b_Row___xor__ K_Row.D___xor__) (hr.mono (by decide)) pass_lam (d_var 0) (d_ix (d_var 1) (d_sub d_int (d_var 2)))) K_Row.cls K_Row.h_turns G_Row_turns (hr.mono (by decide)) (b_Row_turns K_Row.D_turns) pass_lam)))
    (lt_cons (i := 5) (q := lam_5) (Ni := ["_law_by", "_law_made"]) (js := [11, 9]) (hlq 5 _ rfl) (by decide +kernel) (bind1 (x := "_law_f") (n := 0) (fun _ _ _ _ _ t u => ⟨_, rfl, rfl⟩) rfl (by rfl)) (fun base A outer s H E f c' cl hr =>
      have hu := hr.units
      have G_Row_places := GG_Row_places base
      (d_ofN (d_methN (d_var 1) K_Row.cls K_Row.h_places G_Row_places (hr.mono (by decide)) (b_Row_places K_Row.D_places) pass_lam (da_cons (d_var 0) da_nil))))
    (lt_cons (i := 6) (q := lam_6) (Ni := ["_law_made", "_law_by"]) (js := [9, 11]) (hlq 6 _ rfl) (by decide +kernel) (bind1 (x := "_law_g") (n := 0) (fun _ _ _ _ _ t u => ⟨_, rfl, rfl⟩) rfl (by rfl)) (fun base A outer s H E f c' cl hr =>
      have hu := hr.units
      have G_Row_turns := GG_Row_turns base
      have G_Row_handed := GG_Row_handed base
      (d_ofN (d_methN0 (d_methR (d_var 0) K_Row.cls K_Row.h_handed G_Row_handed (hr.mono (by decide)) pass_lam (da_cons (d_tup (da_cons d_int (da_cons (d_var 1) da_nil))) da_nil)) K_Row.cls K_Row.h_turns G_Row_turns (hr.mono (by decide)) (b_Row_turns K_Row.D_turns) pass_lam)))
    (lt_cons (i := 7) (q := lam_7) (Ni := ["_law_by", "_law_made"]) (js := [11, 9]) (hlq 7 _ rfl) (by decide +kernel) (bind1 (x := "_law_h") (n := 0) (fun _ _ _ _ _ t u => ⟨_, rfl, rfl⟩) rfl (by rfl)) (fun base A outer s H E f c' cl hr =>
      have hu := hr.units
      have G_Row_text := GG_Row_text base
      have G_Row_turned := GG_Row_turned base
      (d_prop (d_meth (d_var 1) K_Row.cls K_Row.h_turned G_Row_turned (hr.mono (by decide)) (b_Row_turned K_Row.D_turned) pass_lam (da_cons (d_var 0) da_nil)) K_Row.cls K_Row.p_text G_Row_text (hr.mono (by decide)) (b_Row_text K_Row.D_text) passL))
    lt_nil)))))))) : LTok P w K mg 8 n_law (defScope s_law) _)
  obtain ⟨LF_law, hLF_law, zf⟩ := lf_hide ((lf_cons (i := 0) (q := lam_0) (Ni := ["_law_made"]) (js := [9]) (hlq 0 _ rfl) (by decide +kernel) (bind0 (fun _ _ _ _ _ => rfl) rfl) (fun base A outer s H E f c' cl hr =>
      have hu := hr.units
      have G_Row_turns := GG_Row_turns base
      (f_ofN (d_methN0 (d_var 0) K_Row.cls K_Row.h_turns G_Row_turns (hr.mono (by decide)) (b_Row_turns K_Row.D_turns) pass_lam)))
    (lf_cons (i := 1) (q := lam_1) (Ni := ["_law_made"]) (js := [9]) (hlq 1 _ rfl) (by decide +kernel) (bind1 (x := "_law_a") (n := 0) (fun _ _ _ _ _ t u => ⟨_, rfl, rfl⟩) rfl (by rfl)) (fun base A outer s H E f c' cl hr =>
      have hu := hr.units
      have G_Row_counts := GG_Row_counts base
      (f_ofN (d_methN0 (d_var 0) K_Row.cls K_Row.h_counts G_Row_counts (hr.mono (by decide)) (b_Row_counts K_Row.D_counts) pass_lam)))
    (lf_cons (i := 2) (q := lam_2) (Ni := ["_law_worths_y", "_law_made"]) (js := [10, 9]) (hlq 2 _ rfl) (by decide +kernel) (bind1 (x := "_law_b") (n := 0) (fun _ _ _ _ _ t u => ⟨_, rfl, rfl⟩) rfl (by rfl)) (fun base A outer s H E f c' cl hr =>
      have hu := hr.units
      have G_Row_totals := GG_Row_totals base
      (f_ofN (d_methN (d_var 1) K_Row.cls K_Row.h_totals G_Row_totals (hr.mono (by decide)) (b_Row_totals K_Row.D_totals) pass_lam (da_cons (d_var 0) da_nil))))
    (lf_cons (i := 3) (q := lam_3) (Ni := ["_law_made"]) (js := [9]) (hlq 3 _ rfl) (by decide +kernel) (bind1 (x := "_law_c") (n := 0) (fun _ _ _ _ _ t u => ⟨_, rfl, rfl⟩) rfl (by rfl)) (fun base A outer s H E f c' cl hr =>
      have hu := hr.units
      have G_Row_table := GG_Row_table base
      (f_ofUZ (u_meth (d_var 0) K_Row.cls K_Row.h_table G_Row_table (hr.mono (by decide)) (b_Row_table K_Row.D_table) pass_lam (da_cons d_int da_nil))))
    (lf_cons (i := 4) (q := lam_4) (Ni := ["_law_made", "_law_rows", "_law_at"]) (js := [9, 4, 6]) (hlq 4 _ rfl) (by decide +kernel) (bind1 (x := "_law_d") (n := 0) (fun _ _ _ _ _ t u => ⟨_, rfl, rfl⟩) rfl (by rfl)) (fun base A outer s H E f c' cl hr =>
      have hu := hr.units
      have G_Row_turns := GG_Row_turns base
      have G_Row___xor__ := GG_Row___xor__ base
      (f_ofN (d_methN0 (d_ownB K_Row.o___xor__.first K_Row.o___xor__.at_ K_Row.o___xor__.fn G_Row___xor__ (b_Row___xor__ K_Row.D___xor__) (hr.mono (by decide)) pass_lam (d_var 0) (d_ix (d_var 1) (d_sub d_int (d_var 2)))) K_Row.cls K_Row.h_turns G_Row_turns (hr.mono (by decide)) (b_Row_turns K_Row.D_turns) pass_lam)))
    (lf_cons (i := 5) (q := lam_5) (Ni := ["_law_by", "_law_made"]) (js := [11, 9]) (hlq 5 _ rfl) (by decide +kernel) (bind1 (x := "_law_f") (n := 0) (fun _ _ _ _ _ t u => ⟨_, rfl, rfl⟩) rfl (by rfl)) (fun base A outer s H E f c' cl hr =>
      have hu := hr.units
      have G_Row_places := GG_Row_places base
      (f_ofN (d_methN (d_var 1) K_Row.cls K_Row.h_places G_Row_places (hr.mono (by decide)) (b_Row_places K_Row.D_places) pass_lam (da_cons (d_var 0) da_nil))))
    (lf_cons (i := 6) (q := lam_6) (Ni := ["_law_made", "_law_by"]) (js := [9, 11]) (hlq 6 _ rfl) (by decide +kernel) (bind1 (x := "_law_g") (n := 0) (fun _ _ _ _ _ t u => ⟨_, rfl, rfl⟩) rfl (by rfl)) (fun base A outer s H E f c' cl hr =>
      have hu := hr.units
      have G_Row_turns := GG_Row_turns base
      have G_Row_handed := GG_Row_handed base
      (f_ofN (d_methN0 (d_methR (d_var 0) K_Row.cls K_Row.h_handed G_Row_handed (hr.mono (by decide)) pass_lam (da_cons (d_tup (da_cons d_int (da_cons (d_var 1) da_nil))) da_nil)) K_Row.cls K_Row.h_turns G_Row_turns (hr.mono (by decide)) (b_Row_turns K_Row.D_turns) pass_lam)))
    lf_nil))))))) : LFok P w K mg 8 n_law (defScope s_law) _)
  refine law_dL (n := 15) D_law sc_law rfl rfl rfl D__law_bag T.m_int rfl (by first | exact .inl rfl | exact .inr rfl) rfl (by first | exact .inl rfl | exact .inr rfl) (fun cl A outer s H E hr hcl =>
    have hu := hr.units
    (ds_cons (s_set (i := 2) sc_law.nd (d_call G__law_hands (hr.mono (by decide)) D__law_hands.g D__law_hands.F.kp (b__law_hands D__law_hands) .nil dfR_nil pass_d (da_cons (d_var 1) da_nil)))
      (ds_cons (s_set (i := 3) sc_law.nd (d_ofF (f_lst (da_cons (d_call G__law_turns (hr.mono (by decide)) D__law_turns.g D__law_turns.F.kp (b__law_turns D__law_turns) .nil dfR_nil pass_d (da_cons (d_var 1) (da_cons (d_var 2) (da_cons d_int da_nil)))) (da_cons (d_call G__law_turns (hr.mono (by decide)) D__law_turns.g D__law_turns.F.kp (b__law_turns D__law_turns) .nil dfR_nil pass_d (da_cons (d_var 1) (da_cons (d_var 2) (da_cons d_int da_nil)))) da_nil)))))
      (ds_cons (s_set (i := 4) sc_law.nd (d_ofF (f_lst (da_cons (d_ofP (d_makeN K_Row.mkr G_Row___init__ (hr.mono (by decide)) K_Row.g (b_Row___init__ K_Row.D___init__) pass_d (da_cons (d_var 2) (da_cons (d_ix (d_var 3) d_int) da_nil)))) (da_cons (d_ofP (d_makeN K_Row.mkr G_Row___init__ (hr.mono (by decide)) K_Row.g (b_Row___init__ K_Row.D___init__) pass_d (da_cons (d_var 2) (da_cons (d_ix (d_var 3) d_int) da_nil)))) da_nil)))))
      (ds_cons (s_for (passes_of rfl) rfl (i_rg1 (da_cons d_int da_nil) T.m_range) (g_name (i := 5) sc_law.nd)
        (ds_cons (s_asg (d_tup (da_cons (d_call G__law_pull (hr.mono (by decide)) D__law_pull.g D__law_pull.F.kp (b__law_pull D__law_pull) .nil dfR_nil pass_d (da_cons (d_var 1) (da_cons d_int da_nil))) (da_cons (d_call G__law_pull (hr.mono (by decide)) D__law_pull.g D__law_pull.F.kp (b__law_pull D__law_pull) .nil dfR_nil pass_d (da_cons (d_var 1) (da_cons d_int da_nil))) da_nil))) (g_tup (n := 2) rfl (gs_cons (g_name (i := 6) sc_law.nd) (gs_cons (g_name (i := 7) sc_law.nd) gs_nil))))
          (ds_cons (s_asg (d_tup (da_cons (d_ix (d_var 3) (d_var 6)) (da_cons (d_ix (d_var 4) (d_var 6)) da_nil))) (g_tup (n := 2) rfl (gs_cons (g_name (i := 8) sc_law.nd) (gs_cons (g_name (i := 9) sc_law.nd) gs_nil))))
          (ds_cons (s_set (i := 10) sc_law.nd (d_ofF (f_lc rfl sc_law.nd (i_rg1 (da_cons (d_callB b_len T.m_len boot_len (da_cons (d_var 8) da_nil)) da_nil) T.m_range) (blkOk_by (own := [("_law_k", 14)]) (N := n_law) (sc := defScope s_law) (by decide +kernel)) (by decide) (fun _ _ _ _ _ => (g_name (i := 14) sc_law.nd)) (fun _ _ _ _ _ => dts_nil) (fun _ _ _ _ _ => (d_call G__law_pull (hr.mono (by decide)) D__law_pull.g D__law_pull.F.kp (b__law_pull D__law_pull) .nil dfR_nil passL (da_cons (d_var 1) (da_cons d_int da_nil)))))))
          (ds_cons (s_set (i := 11) sc_law.nd (d_call G__law_pull (hr.mono (by decide)) D__law_pull.g D__law_pull.F.kp (b__law_pull D__law_pull) .nil dfR_nil pass_d (da_cons (d_var 1) (da_cons (d_var 2) da_nil))))
          (ds_cons (s_set (i := 12) sc_law.nd (d_ix (d_ofF (f_lst (da_cons (d_lamQ0 (i := 0) (q := lq_law) (by exact lqe_law _ _ _) hTB_law hcd_law hmem_law hmu_law (hlq 0 _ rfl) (LamX.lamS_by (by exact lls_0)) rfl hcl) (da_cons (d_lamQ1 (i := 1) (q := lq_law) (n := 0) (by exact lqe_law _ _ _) hTB_law hcd_law hmem_law hmu_law (hlq 1 _ rfl) (lamF_by (by exact lls_1)) rfl rfl hcl) (da_cons (d_lamQ1 (i := 2) (q := lq_law) (n := 0) (by exact lqe_law _ _ _) hTB_law hcd_law hmem_law hmu_law (hlq 2 _ rfl) (lamF_by (by exact lls_2)) rfl rfl hcl) (da_cons (d_lamQ1 (i := 3) (q := lq_law) (n := 0) (by exact lqe_law _ _ _) hTB_law hcd_law hmem_law hmu_law (hlq 3 _ rfl) (lamF_by (by exact lls_3)) rfl rfl hcl) (da_cons (d_lamQ1 (i := 4) (q := lq_law) (n := 0) (by exact lqe_law _ _ _) hTB_law hcd_law hmem_law hmu_law (hlq 4 _ rfl) (lamF_by (by exact lls_4)) rfl rfl hcl) (da_cons (d_lamQ1 (i := 5) (q := lq_law) (n := 0) (by exact lqe_law _ _ _) hTB_law hcd_law hmem_law hmu_law (hlq 5 _ rfl) (lamF_by (by exact lls_5)) rfl rfl hcl) (da_cons (d_lamQ1 (i := 6) (q := lq_law) (n := 0) (by exact lqe_law _ _ _) hTB_law hcd_law hmem_law hmu_law (hlq 6 _ rfl) (lamF_by (by exact lls_6)) rfl rfl hcl) (da_cons (d_lamQ1 (i := 7) (q := lq_law) (n := 0) (by exact lqe_law _ _ _) hTB_law hcd_law hmem_law hmu_law (hlq 7 _ rfl) (lamF_by (by exact lls_7)) rfl rfl hcl) da_nil)))))))))) (d_var 7)))
          (ds_cons (s_set (i := 13) sc_law.nd (d_ix (d_ofF (f_lst (da_cons (d_var 8) (da_cons (d_ofF (f_lc rfl sc_law.nd (i_rg1 (da_cons (d_var 2) da_nil) T.m_range) (blkOk_by (own := [("_law_one", 15)]) (N := n_law) (sc := defScope s_law) (by decide +kernel)) (by decide) (fun _ _ _ _ _ => (g_name (i := 15) sc_law.nd)) (fun _ _ _ _ _ => dts_nil) (fun _ _ _ _ _ => (d_callB b_len T.m_len boot_len (da_cons (d_ofF (f_lc rfl sc_law.nd (i_list (d_var 8)) (blkOk_by (own := [("_law_hand", 16)]) (N := n_law) (by kernel_rfl)) (by decide) (fun _ _ _ _ _ => (g_name (i := 16) sc_law.nd)) (fun _ _ _ _ _ => (dts_one (dt_cmp (c_eq hu) (d_var 16) (d_var 15) (nomark _)))) (fun _ _ _ _ _ => (d_var 16)))) da_nil))))) (da_cons (d_call G__law_totals (hr.mono (by decide)) D__law_totals.g D__law_totals.F.kp (b__law_totals D__law_totals) .nil dfR_nil pass_d (da_cons (d_var 2) (da_cons (d_var 8) (da_cons (d_var 10) da_nil)))) (da_cons (d_call G__law_table (hr.mono (by decide)) D__law_table.g D__law_table.F.kp (b__law_table D__law_table) .nil dfR_nil pass_d (da_cons (d_var 2) (da_cons (d_var 8) (da_cons d_int da_nil)))) (da_cons (d_call G__law_within (hr.mono (by decide)) D__law_within.g D__law_within.F.kp (b__law_within D__law_within) .nil dfR_nil pass_d (da_cons (d_var 8) (da_cons (d_ix (d_var 3) (d_sub d_int (d_var 6))) (da_cons (d_var 2) da_nil)))) (da_cons (d_ofF (f_lc rfl sc_law.nd (i_rg1 (da_cons (d_callB b_len T.m_len boot_len (da_cons (d_var 8) da_nil)) da_nil) T.m_range) (blkOk_by (own := [("_law_k", 14)]) (N := n_law) (sc := defScope s_law) (by decide +kernel)) (by decide) (fun _ _ _ _ _ => (g_name (i := 14) sc_law.nd)) (fun _ _ _ _ _ => (dts_one (dt_cmp (c_eq hu) (d_ix (d_var 8) (d_var 14)) (d_var 11) (nomark _)))) (fun _ _ _ _ _ => (d_var 14)))) (da_cons (d_add (d_ofF (f_lst (da_cons (d_var 11) da_nil))) (d_slice (d_var 8) (do_some d_int) do_none)) (da_cons (d_call G__law_digits (hr.mono (by decide)) D__law_digits.g D__law_digits.F.kp (b__law_digits D__law_digits) .nil dfR_nil pass_d (da_cons (d_ofF (f_lc rfl sc_law.nd (i_list (d_var 8)) (blkOk_by (own := [("_law_hand", 16)]) (N := n_law) (sc := defScope s_law) (by decide +kernel)) (by decide) (fun _ _ _ _ _ => (g_name (i := 16) sc_law.nd)) (fun _ _ _ _ _ => dts_nil) (fun _ _ _ _ _ => (d_mod (d_callT b_int T.m_int PyProof.Rows.boot_int (da_cons (d_add (d_var 16) (d_var 11)) da_nil)) (d_var 2))))) da_nil)) da_nil)))))))))) (d_var 7)))
          (ds_cons (s_if (dt_not (dt_tru (d_call G__law_same (hr.mono (by decide)) D__law_same.g D__law_same.F.kp (b__law_same D__law_same) .nil dfR_nil pass_d (da_cons (d_actL (j := 12) hcl (fun _ => rfl) rfl rfl hLT_law (hr.mono (by decide)) pass_d) (da_cons (d_var 13) da_nil))))) (ds_one (s_ret d_bl)) ds_nil)
          (ds_cons (s_if (dt_cmp c_notin (d_var 7) (d_tup (da_cons d_int (da_cons d_int da_nil))) rfl) (ds_one (s_appF (f_actL (j := 12) hcl (fun _ => rfl) rfl rfl hLF_law (hr.mono (by decide)) pass_d) d_int (hp := fun ho h => pe_bm PySem.F.plainAttrs_list PySem.F.slot_list_append PySem.F.type_list_append mt_append ho (pa_cons h pa_nil)))) ds_nil)
          (ds_one (s_if (dt_not (dt_tru (d_call G__law_same (hr.mono (by decide)) D__law_same.g D__law_same.F.kp (b__law_same D__law_same) .nil dfR_nil pass_d (da_cons (d_ofF (f_lst (da_cons (d_ofN (d_methN0 (d_ix (d_var 4) d_int) K_Row.cls K_Row.h_turns G_Row_turns (hr.mono (by decide)) (b_Row_turns K_Row.D_turns) pass_d)) (da_cons (d_ofN (d_methN0 (d_ix (d_var 4) d_int) K_Row.cls K_Row.h_turns G_Row_turns (hr.mono (by decide)) (b_Row_turns K_Row.D_turns) pass_d)) da_nil)))) (da_cons (d_var 3) da_nil))))) (ds_one (s_ret d_bl)) ds_nil)))))))))))
      (ds_one (s_ret d_bl))))))) fun a cl => ?_
  clear hLT_law hLF_law
  simp only [lawEn, List.replicate]
  have lg : ∀ n : Int, 0 ≤ n → n < 2 ^ 60 → n.natAbs.log2 < 9000 := fun n h0 h1 => log_lt (k := 60) (by omega) (by decide) (by decide)
  refine seq_step fun N1 hN1 => ?_
  walk_at "dg"
  intro h h2 h4
  refine hN1 _ ?_
  clear hN1 N1
  refine seq_step fun N1 hN1 => ?_
  walk_at "dg"
  refine ⟨h2, by omega, fun ts0 st0 => ⟨h2, by omega, fun ts1 st1 => ?_⟩⟩
  refine hN1 _ ?_
  clear hN1 N1
  have o0 : RowOk h ts0 := ⟨h2, by omega, st0.1, by omega, st0.2.2⟩
  have o1 : RowOk h ts1 := ⟨h2, by omega, st1.1, by omega, st1.2.2⟩
  refine seq_step fun N1 hN1 => ?_
  walk_at "dg"
  refine ⟨_, .inl rfl, initX_good o0 ⟨_, .inl rfl, initX_good o1 ?_⟩⟩
  refine hN1 _ ?_
  clear hN1 N1
  refine seq_step fun N hN => for_step fun B hB => ?_
  walk_at "dg"
  refine ⟨fun i env => ∃ e5 e6 e7 e8 e9 e10 e11 e12 e13 e14 e15 e16 : Option DV, env = [some (.val (.adr a)), some (.val .bag), some (.val (.int h)), some (.val (.lst [.lst (ts0.map D.int), .lst (ts1.map D.int)])), some (.val (.lst [row K_Row.C h ts0, row K_Row.C h ts1])), e5, e6, e7, e8, e9, e10, e11, e12, e13, e14, e15, e16], ⟨_, _, _, _, _, _, _, _, _, _, _, _, rfl⟩, ?_, ?_⟩
  rotate_left
  · rintro env ⟨e5, e6, e7, e8, e9, e10, e11, e12, e13, e14, e15, e16, rfl⟩
    refine hN _ ?_
    walk_at "dg"
  rintro i d env _ ⟨e5, e6, e7, e8, e9, e10, e11, e12, e13, e14, e15, e16, rfl⟩
  walk_at "dg"
  refine hB _ _ ?_
  clear hB hN
  refine seq_step fun N1 hN1 => ?_
  walk_at "dg"
  refine ⟨lg _ (by decide) (by decide), fun q q0 q1 => ⟨lg _ (by decide) (by decide), fun way w0 w1 => ?_⟩⟩
  refine hN1 _ ?_
  clear hN1 N1
  obtain ⟨ts, us, hl, hr, hl2, hr2, ro, uo, lts, lus⟩ : ∃ ts us : List Int, atI [D.lst (ts0.map D.int), .lst (ts1.map D.int)] q = some (.lst (ts.map D.int)) ∧ atI [row K_Row.C h ts0, row K_Row.C h ts1] q = some (row K_Row.C h ts) ∧ atI [D.lst (ts0.map D.int), .lst (ts1.map D.int)] (1 - q) = some (.lst (us.map D.int)) ∧ atI [row K_Row.C h ts0, row K_Row.C h ts1] (1 - q) = some (row K_Row.C h us) ∧ RowOk h ts ∧ RowOk h us ∧ ts.length ≤ 12 ∧ us.length ≤ 12 := by
    obtain rfl | rfl : q = 0 ∨ q = 1 := by omega
    · exact ⟨ts0, ts1, rfl, rfl, rfl, rfl, o0, o1, by omega, by omega⟩
    · exact ⟨ts1, ts0, rfl, rfl, rfl, rfl, o1, o0, by omega, by omega⟩
  refine seq_step fun N1 hN1 => ?_
  walk_at "dg"
  refine ⟨_, hl, _, hr, ?_⟩
  refine hN1 _ ?_
  clear hN1 N1
  refine seq_step fun N1 hN1 => ?_
  walk_at "dg"
  refine ⟨by omega, by omega, ?_⟩
  refine LcP.draw D.int (fun n => 0 ≤ n ∧ n < 50) (by rw [ups_length, sizeLine_eq]; omega) (fun i d N e hN => ?_) fun ws hwl hws => ?_
  · walk_at "dg"
    exact ⟨lg _ (by decide) (by decide), fun n n0 n1 => hN n ⟨n0, n1⟩⟩
  rw [ups_length, Int.toNat_natCast] at hwl
  refine hN1 _ ?_
  clear hN1 N1
  refine seq_step fun N1 hN1 => ?_
  walk_at "dg"
  refine ⟨by omega, lg _ (by omega) (by omega), fun b b0 b1 => ?_⟩
  refine hN1 _ ?_
  clear hN1 N1
  refine seq_step fun N1 hN1 => ?_
  walk_at "dg"
  obtain ⟨wy, rfl⟩ : ∃ i : Nat, way = i := ⟨way.toNat, by omega⟩
  have hat : atI [D.fn 0 cl none, D.fn 1 cl none, D.fn 2 cl none, D.fn 3 cl none, D.fn 4 cl none, D.fn 5 cl none, D.fn 6 cl none, D.fn 7 cl none] (wy : Int) = some (.fn wy cl none) := by
    match wy, w1 with
    | 0, _ => rfl
    | 1, _ => rfl
    | 2, _ => rfl
    | 3, _ => rfl
    | 4, _ => rfl
    | 5, _ => rfl
    | 6, _ => rfl
    | 7, _ => rfl
    | n + 8, h => omega
  refine ⟨_, hat, ?_⟩
  refine hN1 _ ?_
  clear hN1 N1
  refine seq_step fun N1 hN1 => ?_
  walk_at "dg"
  refine ⟨by omega, by omega, ?_⟩
  rw [ups_rg]
  refine LcP.of (fun k : Nat => .int ((plcs ts (k : Int)).length : Nat)) (by rw [List.length_range, sizeLine_eq]; omega) (fun j k N e hN => ?_) ?_
  · walk_at "dg"
    refine LcP.filt (fun t => decide (t = (k : Int))) D.int (by rw [sizeLine_eq]; omega) (fun j2 t N2 M2 e2 q1 q2 => ?_) ?_
    · walk_at "dg"
      exact ⟨fun z => q1 (decide_eq_true z), fun z => q2 (decide_eq_false z)⟩
    · rw [List.length_map, cnt_plcs]
      exact hN
  have mul : ts.length * us.length ≤ 2000 := Nat.le_trans (Nat.mul_le_mul lts lus) (by decide)
  refine ⟨h2, h4, ro.2.2.2.2, hwl, by omega, h2, h4, by omega, _, hl2, ?_⟩
  rw [F__law_within_is]
  refine ⟨ts, asInts_map _, us, asInts_map _, h2, h4, mul, by omega, ?_⟩
  refine ⟨by omega, by omega, ?_⟩
  rw [Int.toNat_natCast, ups_rg]
  refine LcP.filt (fun i => decide (ts.getD i 0 = b)) (fun (i : Nat) => .int (i : Int)) (by rw [List.length_range, sizeLine_eq]; omega) (fun j i N M e q1 q2 => ?_) ?_
  · have hi : i < ts.length := List.mem_range.mp (List.mem_of_getElem? e)
    walk_at "dg"
    refine ⟨_, atI_tsq hi, ?_⟩
    walk_at "dg"
    exact ⟨fun z => q1 (decide_eq_true z), fun z => q2 (decide_eq_false z)⟩
  have ep : (((List.range ts.length).filter fun i => decide (ts.getD i 0 = b)).map fun (i : Nat) => D.int (i : Int)) = (plcs ts b).map D.int := by
    unfold plcs
    rw [List.map_map]
    rfl
  rw [ep, set0_eq ro.2.2.1]
  refine ⟨by have := congrArg List.length (set0_eq (b := b) ro.2.2.1); rw [List.length_cons, List.length_map, List.length_set] at this; omega, ?_⟩
  refine LcP.of (fun t : Int => .int ((t + b).fmod h)) (by rw [sizeLine_eq]; omega) (fun j t N e hN => ?_) ?_
  · walk_at "dg"
    exact ⟨by omega, hN⟩
  have es : (ts.map fun t : Int => D.int ((t + b).fmod h)) = (shift h b ts).map D.int := by
    unfold shift
    rw [List.map_map]
    rfl
  rw [es]
  have so := shift_ok (b := b) ro
  refine ⟨shift h b ts, asInts_map _, so.figs, by unfold shift; rw [List.length_map]; omega, ?_⟩
  have fin : ∀ dv : D, Good 6 dv → (∀ R : D → Prop, R dv → ZL (ltab L_law) [some (.val (.adr a)), some (.val .bag), some (.val (.int h)), some (.val (.lst [.lst (ts0.map D.int), .lst (ts1.map D.int)])), some (.val (.lst [row K_Row.C h ts0, row K_Row.C h ts1])), some (.val d), some (.val (.int q)), some (.val (.int wy)), some (.val (.lst (ts.map D.int))), some (.val (row K_Row.C h ts)), some (.val (.lst (ws.map D.int))), some (.val (.int b)), some (.val (.fn wy cl none)), some (.val dv), e14, e15, e16] wy R noX) → (wy ≠ 4 → wy ≠ 7 → ∀ R : List D → Prop, (∀ xs, xs.length < 16777216 → R xs) → ZF (lftab LF_law) [some (.val (.adr a)), some (.val .bag), some (.val (.int h)), some (.val (.lst [.lst (ts0.map D.int), .lst (ts1.map D.int)])), some (.val (.lst [row K_Row.C h ts0, row K_Row.C h ts1])), some (.val d), some (.val (.int q)), some (.val (.int wy)), some (.val (.lst (ts.map D.int))), some (.val (row K_Row.C h ts)), some (.val (.lst (ws.map D.int))), some (.val (.int b)), some (.val (.fn wy cl none)), some (.val dv), e14, e15, e16] wy R noX) → N1 [some (.val (.adr a)), some (.val .bag), some (.val (.int h)), some (.val (.lst [.lst (ts0.map D.int), .lst (ts1.map D.int)])), some (.val (.lst [row K_Row.C h ts0, row K_Row.C h ts1])), some (.val d), some (.val (.int q)), some (.val (.int wy)), some (.val (.lst (ts.map D.int))), some (.val (row K_Row.C h ts)), some (.val (.lst (ws.map D.int))), some (.val (.int b)), some (.val (.fn wy cl none)), some (.val dv), e14, e15, e16] := fun dv gd hz hf => by
    refine hN1 _ ?_
    clear hN1 N1
    refine seq_step fun N1 hN1 => ?_
    refine if_step fun U W hU hW => ?_
    walk_at "dg"
    refine ⟨_, ⟨_, rfl⟩, hz _ ⟨rfl, gd, hW _ _ ?_⟩⟩
    clear hU hW U W
    refine hN1 _ ?_
    clear hN1 N1
    refine seq_step fun N1 hN1 => ?_
    have rest : N1 [some (.val (.adr a)), some (.val .bag), some (.val (.int h)), some (.val (.lst [.lst (ts0.map D.int), .lst (ts1.map D.int)])), some (.val (.lst [row K_Row.C h ts0, row K_Row.C h ts1])), some (.val d), some (.val (.int q)), some (.val (.int wy)), some (.val (.lst (ts.map D.int))), some (.val (row K_Row.C h ts)), some (.val (.lst (ws.map D.int))), some (.val (.int b)), some (.val (.fn wy cl none)), some (.val dv), e14, e15, e16] := by
      refine hN1 _ ?_
      clear hN1 N1
      refine if_step fun U W hU hW => ?_
      walk_at "dg"
      exact ⟨⟨by omega, by omega⟩, hW _ _ ⟨_, _, _, _, _, _, _, _, _, _, _, _, rfl⟩⟩
    clear hN1
    refine if_step fun U W hU hW => ?_
    walk_at "dg"
    rw [notIn2]
    refine ⟨fun z => hU _ _ ?_, fun z => hW _ _ rest⟩
    walk_at "dg"
    simp only [Bool.not_eq_true', decide_eq_false_iff_not] at z
    exact ⟨_, ⟨_, rfl⟩, hf (fun y => z (.inl (by omega))) (fun y => z (.inr (by omega))) _ fun xs hx => ⟨hx, rest⟩⟩
  have gi : ∀ l : List Int, l.length ≤ 2000 → Good 6 (.lst (l.map D.int)) := fun l hl => good_ints (by omega)
  have nums2 : ¬ (isNums (.lst (ws.map D.int)) = false ∨ ¬ lenD (.lst (ws.map D.int)) = ts.length) := fun z => by
    rcases z with z | z
    · have e : isNums (.lst (ws.map D.int)) = true := all_ints
      rw [e] at z
      cases z
    · exact z (by show (ws.map D.int).length = _; rw [List.length_map]; exact hwl)
  have hx : handX h 0 [.tup [.int 0, .int b]] [] ts = .inr (ts.set 0 b) := by
    have hc : chOk h ts.length (.tup [.int 0, .int b]) = true := by
      show (isNum (.int 0) 0 ((ts.length : Int) - 1) && isNum (.int b) 0 (h - 1)) = true
      have := ro.2.2.1
      simp [isNum]
      omega
    rw [handX_t, if_pos ⟨hc, by simp⟩]
    rfl
  have c8 : wy = 0 ∨ wy = 1 ∨ wy = 2 ∨ wy = 3 ∨ wy = 4 ∨ wy = 5 ∨ wy = 6 ∨ wy = 7 := by omega
  rcases c8 with rfl | rfl | rfl | rfl | rfl | rfl | rfl | rfl
  · refine ⟨_, rfl, fin _ ?_ (fun R hR => ?_) (fun n4 n7 R hR => ?_)⟩
    · exact gi ts (by omega)
    · rw [zl 0 _ _ rfl]
      walk_at "dg"
      exact hR
    · rw [zf 0 _ _ rfl]
      walk_at "dg"
      exact hR _ (by rw [List.length_map]; omega)
  · refine ⟨_, rfl, fin _ ?_ (fun R hR => ?_) (fun n4 n7 R hR => ?_)⟩
    · show Good 6 (.lst ((List.range h.toNat).map (D.int ∘ fun k : Nat => ((plcs ts (k : Int)).length : Int))))
      rw [← List.map_map]
      exact gi _ (by rw [List.length_map, List.length_range]; omega)
    · rw [zl 1 _ _ rfl]
      walk_at "dg"
      exact ⟨ro, hR⟩
    · rw [zf 1 _ _ rfl]
      walk_at "dg"
      exact ⟨ro, flatL_fints _, hR _ (by rw [List.length_map, List.length_range]; omega)⟩
  · refine ⟨_, rfl, fin _ ?_ (fun R hR => ?_) (fun n4 n7 R hR => ?_)⟩
    · exact gi _ (by rw [totL_length]; omega)
    · rw [zl 2 _ _ rfl]
      walk_at "dg"
      refine ⟨rfl, ro, datL_ints, by show (ws.map D.int).length ≤ 100000; rw [List.length_map]; omega, fun us e hl => ?_, fun z => ?_⟩
      · rw [← map_int_eq e]
        exact hR
      · exact absurd z nums2
    · rw [zf 2 _ _ rfl]
      walk_at "dg"
      refine ⟨rfl, ro, datL_ints, by show (ws.map D.int).length ≤ 100000; rw [List.length_map]; omega, fun us e hl => ?_, fun z => ?_⟩
      · rw [← map_int_eq e]
        exact hR _ (by rw [List.length_map, totL_length]; omega)
      · exact absurd z nums2
  · refine ⟨_, rfl, fin _ ?_ (fun R hR => ?_) (fun n4 n7 R hR => ?_)⟩
    · refine ⟨by rw [List.length_map]; unfold tabL; rw [List.length_map, List.length_range]; omega, fun x hx => ?_⟩
      obtain ⟨l, ml, rfl⟩ := List.mem_map.mp hx
      obtain ⟨k, _, rfl⟩ := List.mem_map.mp (show l ∈ (List.range h.toNat).map fun k => tabR ts 3 k from ml)
      exact good_ints (by rw [tabR_length]; omega)
    · rw [zl 3 _ _ rfl]
      walk_at "dg"
      refine ⟨rfl, ro, (fun z => by simp [isNum] at z), fun m em _ _ => ?_⟩
      subst em
      exact hR
    · rw [zf 3 _ _ rfl]
      walk_at "dg"
      refine ⟨rfl, ro, (fun z => by simp [isNum] at z), fun m em _ _ => ?_⟩
      subst em
      exact hR _ (by rw [List.length_map]; unfold tabL; rw [List.length_map, List.length_range]; omega)
  · refine ⟨_, rfl, fin _ ?_ (fun R hR => ?_) (fun n4 n7 R hR => ?_)⟩
    · exact gi _ (by rw [xorL_length]; omega)
    · rw [zl 4 _ _ rfl]
      walk_at "dg"
      refine ⟨_, hr2, ?_⟩
      walk_at "dg"
      exact ⟨⟨ro, uo⟩, (fun y => absurd mul (by omega)), fun _ => hR⟩
    · exact absurd rfl n4
  · refine ⟨_, rfl, fin _ ?_ (fun R hR => ?_) (fun n4 n7 R hR => ?_)⟩
    · exact gi _ (by have := plcs_le (ts := ts) (k := b); omega)
    · rw [zl 5 _ _ rfl]
      walk_at "dg"
      refine ⟨ro, (fun z => by simp [isNum] at z; omega), fun k e _ _ => ?_⟩
      subst e
      exact hR
    · rw [zf 5 _ _ rfl]
      walk_at "dg"
      refine ⟨ro, (fun z => by simp [isNum] at z; omega), fun k e _ _ => ?_⟩
      subst e
      exact hR _ (by rw [List.length_map]; have := plcs_le (ts := ts) (k := b); omega)
  · refine ⟨_, rfl, fin _ ?_ (fun R hR => ?_) (fun n4 n7 R hR => ?_)⟩
    · exact gi _ (by rw [List.length_set]; omega)
    · rw [zl 6 _ _ rfl]
      walk_at "dg"
      refine ⟨rfl, h, ts, [.tup [.int 0, .int b]], rfl, ro, by simp, fun c m => ?_, fun i e => ?_, fun us e => ?_⟩
      · rw [List.mem_singleton.mp m]
        exact ⟨rfl, fun xs e => by cases e; simp⟩
      · rw [hx] at e
        cases e
      · rw [hx] at e
        cases e
        walk_at "dg"
        exact hR
    · rw [zf 6 _ _ rfl]
      walk_at "dg"
      refine ⟨rfl, h, ts, [.tup [.int 0, .int b]], rfl, ro, by simp, fun c m => ?_, fun i e => ?_, fun us e => ?_⟩
      · rw [List.mem_singleton.mp m]
        exact ⟨rfl, fun xs e => by cases e; simp⟩
      · rw [hx] at e
        cases e
      · rw [hx] at e
        cases e
        walk_at "dg"
        exact hR _ (by rw [List.length_map, List.length_set]; omega)
  · refine ⟨_, rfl, fin _ ?_ (fun R hR => ?_) (fun n4 n7 R hR => ?_)⟩
    · trivial
    · rw [zl 7 _ _ rfl]
      walk_at "dg"
      refine ⟨ro, (fun z => by simp [isNum] at z; omega), fun k e _ _ => ?_⟩
      subst e
      exact ⟨so, hR⟩
    · exact absurd rfl n7
end
end DL
set_option maxHeartbeats 0
namespace Hd
open PySem PySem.Spec L2 DL
theorem facts {P : Program} {w : World} {K : PySem.W.Frag} {h : Heap} {mg : Str → Option Value} {f : Addr} (X : K.In h) (G : h.Ns mainGlobals mg) (hfa : mg ("law" : Str) = some (.ref f)) (hfile : P.main.file = PySem.Challenge.pw_evenpicks_k14_rows_that_never_change.main.file) (htop : (P.main.scope.names.lookup ("super" : Str)).isSome = false) (own : ∀ (K : PySem.W.Frag) (y : Str) (a : Addr), K.In h → y ∈ (["law"] : List Str) → mg y = some (.ref a) → LamX.OwnTab K a h) (c : Hx.SaysX fx fn K) :
    ∃ (cs : List (Addr × Addr)) (fd : FuncData) (sp : Sp), (∀ p ∈ cs, h.get? p.2 = some { cls := .none, data := .fields #[] }) ∧ (∀ p ∈ cs, K.lookup p.2 = none) ∧ (∀ p ∈ cs, PySem.W.CodeHd h p.1 p.2) ∧ (∀ (s : Shared) (v : Value), BindsTo s fd ⟨[v], []⟩ [("_law_script", v)]) ∧
      (∀ (H : Hp) (a : Addr) (ns : List Int), ns.length ≤ 63 → (∀ p ∈ cs, H p.2 = some (.tbl #[])) → SqL K H a (ns.map V.int) → sp [.ref a] H (fun v _ => v = .bl true) fun _ _ _ => False) ∧
      ∀ base : Heap, K.In base → base.Ns mainGlobals mg → (∀ p ∈ cs, LamX.TabB base mg p.1 p.2) → FnOk P w K mg base (L2.CX P w) 12 f fd ["_law_script"] sp := by
  obtain ⟨fd_law, F_law⟩ := c.def_ 28 (d := Hd.d_law) rfl
  obtain ⟨fd__law_bag, F__law_bag⟩ := c.def_ 18 (d := Hd.d__law_bag) rfl
  obtain ⟨fd__law_hands, F__law_hands⟩ := c.def_ 23 (d := Hd.d__law_hands) rfl
  obtain ⟨fd__law_pull, F__law_pull⟩ := c.def_ 19 (d := Hd.d__law_pull) rfl
  obtain ⟨fd__law_turns, F__law_turns⟩ := c.def_ 22 (d := Hd.d__law_turns) rfl
  obtain ⟨fd_check_hands, F_check_hands⟩ := c.def_ 2 (d := Hd.d_check_hands) rfl
  obtain ⟨fd_is_number, F_is_number⟩ := c.def_ 0 (d := Hd.d_is_number) rfl
  obtain ⟨fd__law_totals, F__law_totals⟩ := c.def_ 25 (d := Hd.d__law_totals) rfl
  obtain ⟨fd__law_table, F__law_table⟩ := c.def_ 24 (d := Hd.d__law_table) rfl
  obtain ⟨fd__law_choose, F__law_choose⟩ := c.def_ 21 (d := Hd.d__law_choose) rfl
  obtain ⟨fd__law_within, F__law_within⟩ := c.def_ 27 (d := Hd.d__law_within) rfl
  obtain ⟨fd__law_digits, F__law_digits⟩ := c.def_ 26 (d := Hd.d__law_digits) rfl
  obtain ⟨fd__law_same, F__law_same⟩ := c.def_ 20 (d := Hd.d__law_same) rfl
  obtain ⟨fd_check_hand, F_check_hand⟩ := c.def_ 3 (d := Hd.d_check_hand) rfl
  obtain ⟨fd_are_numbers, F_are_numbers⟩ := c.def_ 1 (d := Hd.d_are_numbers) rfl
  obtain ⟨fd_check_most, F_check_most⟩ := c.def_ 4 (d := Hd.d_check_most) rfl
  obtain ⟨fd_is_change, F_is_change⟩ := c.def_ 5 (d := Hd.d_is_change) rfl
  obtain ⟨cc_InvalidHands, cda_InvalidHands, fd_InvalidHands, F_InvalidHands⟩ := c.sup_ 29 (d := Hd.d_InvalidHands___init__) rfl rfl rfl
  let X_InvalidHands : Xe K mg P.main.file "InvalidHands" s_InvalidHands___init__ := { C := He.ga K "InvalidHands", f := He.ma K (He.ga K "InvalidHands") "__init__", cc := cc_InvalidHands, cda := cda_InvalidHands, fd := fd_InvalidHands, g := He.glo_ok X G (c.fact 1 (f := Hx.fGlo "InvalidHands") rfl), e := Hx.err_ok (c.fact 44 (f := Hx.fErr "InvalidHands") rfl), F := by rw [hfile]; exact F_InvalidHands }
  obtain ⟨cc_InvalidTurn, cda_InvalidTurn, fd_InvalidTurn, F_InvalidTurn⟩ := c.sup_ 31 (d := Hd.d_InvalidTurn___init__) rfl rfl rfl
  let X_InvalidTurn : Xe K mg P.main.file "InvalidTurn" s_InvalidTurn___init__ := { C := He.ga K "InvalidTurn", f := He.ma K (He.ga K "InvalidTurn") "__init__", cc := cc_InvalidTurn, cda := cda_InvalidTurn, fd := fd_InvalidTurn, g := He.glo_ok X G (c.fact 3 (f := Hx.fGlo "InvalidTurn") rfl), e := Hx.err_ok (c.fact 46 (f := Hx.fErr "InvalidTurn") rfl), F := by rw [hfile]; exact F_InvalidTurn }
  obtain ⟨cc_InvalidHand, cda_InvalidHand, fd_InvalidHand, F_InvalidHand⟩ := c.sup_ 30 (d := Hd.d_InvalidHand___init__) rfl rfl rfl
  let X_InvalidHand : Xe K mg P.main.file "InvalidHand" s_InvalidHand___init__ := { C := He.ga K "InvalidHand", f := He.ma K (He.ga K "InvalidHand") "__init__", cc := cc_InvalidHand, cda := cda_InvalidHand, fd := fd_InvalidHand, g := He.glo_ok X G (c.fact 2 (f := Hx.fGlo "InvalidHand") rfl), e := Hx.err_ok (c.fact 45 (f := Hx.fErr "InvalidHand") rfl), F := by rw [hfile]; exact F_InvalidHand }
  obtain ⟨cc_InvalidWorths, cda_InvalidWorths, fd_InvalidWorths, F_InvalidWorths⟩ := c.sup_ 33 (d := Hd.d_InvalidWorths___init__) rfl rfl rfl
  let X_InvalidWorths : Xe K mg P.main.file "InvalidWorths" s_InvalidWorths___init__ := { C := He.ga K "InvalidWorths", f := He.ma K (He.ga K "InvalidWorths") "__init__", cc := cc_InvalidWorths, cda := cda_InvalidWorths, fd := fd_InvalidWorths, g := He.glo_ok X G (c.fact 5 (f := Hx.fGlo "InvalidWorths") rfl), e := Hx.err_ok (c.fact 48 (f := Hx.fErr "InvalidWorths") rfl), F := by rw [hfile]; exact F_InvalidWorths }
  obtain ⟨cc_InvalidNumber, cda_InvalidNumber, fd_InvalidNumber, F_InvalidNumber⟩ := c.sup_ 32 (d := Hd.d_InvalidNumber___init__) rfl rfl rfl
  let X_InvalidNumber : Xe K mg P.main.file "InvalidNumber" s_InvalidNumber___init__ := { C := He.ga K "InvalidNumber", f := He.ma K (He.ga K "InvalidNumber") "__init__", cc := cc_InvalidNumber, cda := cda_InvalidNumber, fd := fd_InvalidNumber, g := He.glo_ok X G (c.fact 4 (f := Hx.fGlo "InvalidNumber") rfl), e := Hx.err_ok (c.fact 47 (f := Hx.fErr "InvalidNumber") rfl), F := by rw [hfile]; exact F_InvalidNumber }
  obtain ⟨cc_Unlike, cda_Unlike, fd_Unlike, F_Unlike⟩ := c.sup_ 35 (d := Hd.d_Unlike___init__) rfl rfl rfl
  let X_Unlike : Xe K mg P.main.file "Unlike" s_Unlike___init__ := { C := He.ga K "Unlike", f := He.ma K (He.ga K "Unlike") "__init__", cc := cc_Unlike, cda := cda_Unlike, fd := fd_Unlike, g := He.glo_ok X G (c.fact 7 (f := Hx.fGlo "Unlike") rfl), e := Hx.err_ok (c.fact 50 (f := Hx.fErr "Unlike") rfl), F := by rw [hfile]; exact F_Unlike }
  obtain ⟨cc_TooLong, cda_TooLong, fd_TooLong, F_TooLong⟩ := c.sup_ 36 (d := Hd.d_TooLong___init__) rfl rfl rfl
  let X_TooLong : Xe K mg P.main.file "TooLong" s_TooLong___init__ := { C := He.ga K "TooLong", f := He.ma K (He.ga K "TooLong") "__init__", cc := cc_TooLong, cda := cda_TooLong, fd := fd_TooLong, g := He.glo_ok X G (c.fact 8 (f := Hx.fGlo "TooLong") rfl), e := Hx.err_ok (c.fact 51 (f := Hx.fErr "TooLong") rfl), F := by rw [hfile]; exact F_TooLong }
  obtain ⟨cc_InvalidChange, cda_InvalidChange, fd_InvalidChange, F_InvalidChange⟩ := c.sup_ 34 (d := Hd.d_InvalidChange___init__) rfl rfl rfl
  let X_InvalidChange : Xe K mg P.main.file "InvalidChange" s_InvalidChange___init__ := { C := He.ga K "InvalidChange", f := He.ma K (He.ga K "InvalidChange") "__init__", cc := cc_InvalidChange, cda := cda_InvalidChange, fd := fd_InvalidChange, g := He.glo_ok X G (c.fact 6 (f := Hx.fGlo "InvalidChange") rfl), e := Hx.err_ok (c.fact 49 (f := Hx.fErr "InvalidChange") rfl), F := by rw [hfile]; exact F_InvalidChange }
  obtain ⟨fd_Row___init__, F_Row___init__⟩ := c.def_ 6 (d := Hd.d_Row___init__) rfl
  obtain ⟨fd_Row_turns, F_Row_turns⟩ := c.def_ 8 (d := Hd.d_Row_turns) rfl
  obtain ⟨fd_Row_places, F_Row_places⟩ := c.def_ 9 (d := Hd.d_Row_places) rfl
  obtain ⟨fd_Row_counts, F_Row_counts⟩ := c.def_ 10 (d := Hd.d_Row_counts) rfl
  obtain ⟨fd_Row_totals, F_Row_totals⟩ := c.def_ 11 (d := Hd.d_Row_totals) rfl
  obtain ⟨fd_Row_table, F_Row_table⟩ := c.def_ 12 (d := Hd.d_Row_table) rfl
  obtain ⟨fd_Row_turned, F_Row_turned⟩ := c.def_ 13 (d := Hd.d_Row_turned) rfl
  obtain ⟨fd_Row_handed, F_Row_handed⟩ := c.def_ 14 (d := Hd.d_Row_handed) rfl
  obtain ⟨fd_Row_need_like, F_Row_need_like⟩ := c.def_ 15 (d := Hd.d_Row_need_like) rfl
  obtain ⟨fd_Row___xor__, F_Row___xor__⟩ := c.def_ 16 (d := Hd.d_Row___xor__) rfl
  obtain ⟨fd_Row___len__, F_Row___len__⟩ := c.def_ 17 (d := Hd.d_Row___len__) rfl
  obtain ⟨fd_Row_text, F_Row_text⟩ := c.def_ 7 (d := Hd.d_Row_text) rfl
  let K_Row : Kx_Row K mg := { C := He.ga K "Row", g := He.glo_ok X G (c.fact 18 (f := Hx.fGlo "Row") rfl), cls := He.cls_ok (c.fact 52 (f := Hx.fCls "Row") rfl), n_hands := He.noat_ok (c.fact 54 (f := Hx.fNoat "Row" "hands") rfl), n_own_turns := He.noat_ok (c.fact 55 (f := Hx.fNoat "Row" "own_turns") rfl), D___init__ := ⟨He.ma K (He.ga K "Row") "__init__", fd_Row___init__, F_Row___init__⟩, mkr := He.mkr_ok (c.fact 53 (f := Hx.fMkr "Row") rfl), D_turns := ⟨He.ma K (He.ga K "Row") "turns", fd_Row_turns, F_Row_turns⟩, h_turns := He.meth_ok (c.fact 57 (f := Hx.fMeth "Row" "turns") rfl), D_places := ⟨He.ma K (He.ga K "Row") "places", fd_Row_places, F_Row_places⟩, h_places := He.meth_ok (c.fact 58 (f := Hx.fMeth "Row" "places") rfl), D_counts := ⟨He.ma K (He.ga K "Row") "counts", fd_Row_counts, F_Row_counts⟩, h_counts := He.meth_ok (c.fact 59 (f := Hx.fMeth "Row" "counts") rfl), D_totals := ⟨He.ma K (He.ga K "Row") "totals", fd_Row_totals, F_Row_totals⟩, h_totals := He.meth_ok (c.fact 60 (f := Hx.fMeth "Row" "totals") rfl), D_table := ⟨He.ma K (He.ga K "Row") "table", fd_Row_table, F_Row_table⟩, h_table := He.meth_ok (c.fact 61 (f := Hx.fMeth "Row" "table") rfl), D_turned := ⟨He.ma K (He.ga K "Row") "turned", fd_Row_turned, F_Row_turned⟩, h_turned := He.meth_ok (c.fact 62 (f := Hx.fMeth "Row" "turned") rfl), D_handed := ⟨He.ma K (He.ga K "Row") "handed", fd_Row_handed, F_Row_handed⟩, h_handed := He.meth_ok (c.fact 63 (f := Hx.fMeth "Row" "handed") rfl), D_need_like := ⟨He.ma K (He.ga K "Row") "need_like", fd_Row_need_like, F_Row_need_like⟩, h_need_like := He.meth_ok (c.fact 64 (f := Hx.fMeth "Row" "need_like") rfl), D___xor__ := ⟨He.ma K (He.ga K "Row") "__xor__", fd_Row___xor__, F_Row___xor__⟩, o___xor__ := Hx.own_ok (c.fact 65 (f := Hx.fOwn "Row" "__xor__") rfl), D___len__ := ⟨He.ma K (He.ga K "Row") "__len__", fd_Row___len__, F_Row___len__⟩, o___len__ := Hx.own_ok (c.fact 66 (f := Hx.fOwn "Row" "__len__") rfl), D_text := ⟨Hx.rA "property" "Row" "text" K, fd_Row_text, F_Row_text⟩, q_text := He.ma K (He.ga K "Row") "text", p_text := Hx.prop_ok (c.fact 56 (f := Hx.fProp "Row" "text") rfl) }
  have e := hfa.symm.trans (He.glo_ok X G (c.fact 29 (f := Hx.fGlo "law") rfl))
  cases e
  have b := FunD.bindsA (ps := ["_law_script"]) F_law fun _ _ _ _ _ _ us hl => match us, hl with | [_], _ => rfl
  obtain ⟨o_law, fdt_law, cd_law, tb_law, e_law, dd_law, vs_law, sl_law, t1_law, t2_law, t3_law, t4_law, t5_law, t6_law, t7_law⟩ := Hx.tab_ok (c.fact 67 (f := Hx.fTab "law") rfl)
  have hcd_law : fd_law.code = .ref cd_law := by
    obtain ⟨_, _, _, _, _, _, _, _, _, _, _, z, _⟩ := F_law.ex
    have y := t1_law.symm.trans z
    cases y
    cases t2_law
    exact t3_law
  have hP_law := own K "law" _ X (by decide) (He.glo_ok X G (c.fact 29 (f := Hx.fGlo "law") rfl)) cd_law tb_law _ _ e_law dd_law vs_law sl_law t1_law t2_law t3_law t4_law t5_law
  let tb : TbC := ⟨[(tb_law, lq_law)], fun i => lamTab.getD i lam_0⟩
  refine ⟨[(cd_law, tb_law)], fd_law, @spLaw tb K, fun p hp => by have hp2 : p ∈ ([(cd_law, tb_law)] : List (Addr × Addr)) := hp; simp only [List.mem_cons, List.not_mem_nil, or_false] at hp2; rcases hp2 with rfl <;> first | exact hP_law, fun p hp => by have hp2 : p ∈ ([(cd_law, tb_law)] : List (Addr × Addr)) := hp; simp only [List.mem_cons, List.not_mem_nil, or_false] at hp2; rcases hp2 with rfl <;> first | exact t7_law, fun p hp => by have hp2 : p ∈ ([(cd_law, tb_law)] : List (Addr × Addr)) := hp; simp only [List.mem_cons, List.not_mem_nil, or_false] at hp2; rcases hp2 with rfl <;> first | exact PySem.W.codeHd_of_K X t6_law, fun s v => b s [v] rfl, fun H a ns hl hT hS => ⟨a, ns, rfl, hS, hl, fun p hp => by have hp2 : p ∈ ([(tb_law, lq_law)] : List (Addr × Str)) := hp; simp only [List.mem_cons, List.not_mem_nil, or_false] at hp2; rcases hp2 with rfl <;> first | exact hT (cd_law, tb_law) (List.mem_cons_self), fun _ => rfl⟩, fun base _ _ hB => ?_⟩
  exact ok_law (T := ⟨He.free_ok X G (c.fact 30 (f := Hx.fFree "isinstance") rfl), He.free_ok X G (c.fact 31 (f := Hx.fFree "int") rfl), He.free_ok X G (c.fact 32 (f := Hx.fFree "bool") rfl), He.free_ok X G (c.fact 33 (f := Hx.fFree "str") rfl), He.free_ok X G (c.fact 34 (f := Hx.fFree "list") rfl), He.free_ok X G (c.fact 35 (f := Hx.fFree "tuple") rfl), He.free_ok X G (c.fact 36 (f := Hx.fFree "len") rfl), He.free_ok X G (c.fact 37 (f := Hx.fFree "range") rfl), He.free_ok X G (c.fact 38 (f := Hx.fFree "zip") rfl), He.free_ok X G (c.fact 39 (f := Hx.fFree "enumerate") rfl), He.free_ok X G (c.fact 40 (f := Hx.fFree "sum") rfl), He.free_ok X G (c.fact 41 (f := Hx.fFree "all") rfl), He.free_ok X G (c.fact 42 (f := Hx.fFree "set") rfl), He.free_ok X G (c.fact 43 (f := Hx.fFree "super") rfl), He.int_ok X G (c.fact 11 (f := Hx.fInt "MOST_TURNS" 2000) rfl), He.int_ok X G (c.fact 12 (f := Hx.fInt "MOST_TABLE" 40) rfl), He.str_ok X G (c.fact 13 (f := Hx.fStr "DIGITS" "0123") rfl)⟩) (K_Row := K_Row) (X_InvalidHands := X_InvalidHands) (X_InvalidTurn := X_InvalidTurn) (X_InvalidHand := X_InvalidHand) (X_InvalidWorths := X_InvalidWorths) (X_InvalidNumber := X_InvalidNumber) (X_Unlike := X_Unlike) (X_TooLong := X_TooLong) (X_InvalidChange := X_InvalidChange) (D_law := ⟨Hx.gA "law" K, fd_law, F_law, He.glo_ok X G (c.fact 29 (f := Hx.fGlo "law") rfl)⟩) (D__law_bag := ⟨Hx.gA "_law_bag" K, fd__law_bag, F__law_bag, He.glo_ok X G (c.fact 19 (f := Hx.fGlo "_law_bag") rfl)⟩) (D__law_hands := ⟨Hx.gA "_law_hands" K, fd__law_hands, F__law_hands, He.glo_ok X G (c.fact 24 (f := Hx.fGlo "_law_hands") rfl)⟩) (D__law_pull := ⟨Hx.gA "_law_pull" K, fd__law_pull, F__law_pull, He.glo_ok X G (c.fact 20 (f := Hx.fGlo "_law_pull") rfl)⟩) (D__law_turns := ⟨Hx.gA "_law_turns" K, fd__law_turns, F__law_turns, He.glo_ok X G (c.fact 23 (f := Hx.fGlo "_law_turns") rfl)⟩) (D_check_hands := ⟨Hx.gA "check_hands" K, fd_check_hands, F_check_hands, He.glo_ok X G (c.fact 14 (f := Hx.fGlo "check_hands") rfl)⟩) (D_is_number := ⟨Hx.gA "is_number" K, fd_is_number, F_is_number, He.glo_ok X G (c.fact 9 (f := Hx.fGlo "is_number") rfl)⟩) (D__law_totals := ⟨Hx.gA "_law_totals" K, fd__law_totals, F__law_totals, He.glo_ok X G (c.fact 26 (f := Hx.fGlo "_law_totals") rfl)⟩) (D__law_table := ⟨Hx.gA "_law_table" K, fd__law_table, F__law_table, He.glo_ok X G (c.fact 25 (f := Hx.fGlo "_law_table") rfl)⟩) (D__law_choose := ⟨Hx.gA "_law_choose" K, fd__law_choose, F__law_choose, He.glo_ok X G (c.fact 22 (f := Hx.fGlo "_law_choose") rfl)⟩) (D__law_within := ⟨Hx.gA "_law_within" K, fd__law_within, F__law_within, He.glo_ok X G (c.fact 28 (f := Hx.fGlo "_law_within") rfl)⟩) (D__law_digits := ⟨Hx.gA "_law_digits" K, fd__law_digits, F__law_digits, He.glo_ok X G (c.fact 27 (f := Hx.fGlo "_law_digits") rfl)⟩) (D__law_same := ⟨Hx.gA "_law_same" K, fd__law_same, F__law_same, He.glo_ok X G (c.fact 21 (f := Hx.fGlo "_law_same") rfl)⟩) (D_check_hand := ⟨Hx.gA "check_hand" K, fd_check_hand, F_check_hand, He.glo_ok X G (c.fact 15 (f := Hx.fGlo "check_hand") rfl)⟩) (D_are_numbers := ⟨Hx.gA "are_numbers" K, fd_are_numbers, F_are_numbers, He.glo_ok X G (c.fact 10 (f := Hx.fGlo "are_numbers") rfl)⟩) (D_check_most := ⟨Hx.gA "check_most" K, fd_check_most, F_check_most, He.glo_ok X G (c.fact 16 (f := Hx.fGlo "check_most") rfl)⟩) (D_is_change := ⟨Hx.gA "is_change" K, fd_is_change, F_is_change, He.glo_ok X G (c.fact 17 (f := Hx.fGlo "is_change") rfl)⟩) (hsup := He.free_ok X G (c.fact 43 (f := Hx.fFree "super") rfl)) (htop := htop) (hcd_law := hcd_law) (hTB_law := hB (cd_law, tb_law) (List.mem_cons_self)) (hmem_law := List.mem_cons_self) (hmu_law := fun p hp hp2 => by have hp3 : p ∈ ([(tb_law, lq_law)] : List (Addr × Str)) := hp; simp only [List.mem_cons, List.not_mem_nil, or_false] at hp3; rcases hp3 with rfl <;> first  | rfl) (hlq := fun i q e => by show lamTab.getD i lam_0 = q; rw [List.getD, e]; rfl)
end Hd
namespace DL
open PySem PySem.Spec PyProof.Rows L2
/-- the end for a law with lambdas: its tables of code objects are empty at first -/
theorem walk_ofL {l : PySem.W.OpenLaw} {n k : Nat} {q : Program} {loose : List Str} {XP : (Str → Option Value) → Heap → Prop} {YP : World → Heap → Prop} {d : DefRec} {CX : World → CXT} {x : Str} {fs : List Str}
    (hn : l.most = some n) (hn2 : n ≤ sizeLine) (hdf : d.params.defaults = []) (hr : Room k callerA) (hrec : fs.all (fun y => (recsOf q).any fun e => e.name == y) = true)
    (hF : ∀ (w : World) (mg : Str → Option Value) (fa : Addr) (h : Heap), YP w h → h.Ns mainGlobals mg → mg d.name = some (.ref fa) → (∀ (K : PySem.W.Frag) (y : Str) (a : Addr), K.In h → y ∈ fs → mg y = some (.ref a) → LamX.OwnTab K a h) →
      ∃ (K : PySem.W.Frag) (cs : List (Addr × Addr)) (fd : FuncData) (sp : Sp), K.In h ∧ (∀ p ∈ cs, h.get? p.2 = some { cls := .none, data := .fields #[] }) ∧ (∀ p ∈ cs, K.lookup p.2 = none) ∧ (∀ p ∈ cs, PySem.W.CodeHd h p.1 p.2) ∧ (∀ (s : Shared) (u : Value), BindsTo s fd ⟨[u], []⟩ [(x, u)]) ∧
        (∀ (H : Hp) (a : Addr) (ns : List Int), ns.length ≤ n → (∀ p ∈ cs, H p.2 = some (.tbl #[])) → SqL K H a (ns.map V.int) → sp [.ref a] H (fun v _ => v = .bl true) fun _ _ _ => False) ∧
        ∀ base : Heap, K.In base → base.Ns mainGlobals mg → (∀ p ∈ cs, LamX.TabB base mg p.1 p.2) → FnOk l.prog w K mg base (CX w) k fa fd [x] sp)
    (hCX : ∀ (w : World) (H : Hp) (s : Shared) (e : Value) (s' : Shared), CX w [] H s (fun _ _ _ => False) e s' → False) :
    PySem.W.WalkO q loose XP YP l.row.toRowW d [] (fun f vs => PySem.call f vs) := by
  refine Att.attach_callB hn hdf fun w s0 s1 mg mb fa o pm cd doc a vs ns G Y ho hd hcd hmg hobj hints hlen hbits hg => ?_
  have own : ∀ (K : PySem.W.Frag) (y : Str) (b : Addr), K.In s1.heap → y ∈ fs → mg y = some (.ref b) → LamX.OwnTab K b s1.heap := fun K y b hK hy hb c P o1 fd1 e dd vs1 sl k1 k2 k3 k4 k5 => by
    obtain ⟨dL, hm, hn1⟩ := List.any_eq_true.mp (List.all_eq_true.mp hrec y hy)
    obtain ⟨a', o', fd', c', P', h1, h2, h3, h4, h5, h6⟩ := G.T.tab dL hm
    have en : dL.name = y := beq_iff_eq.mp hn1
    have hb2 : mg dL.name = some (.ref b) := by rw [en]; exact hb
    have z1 := h1.symm.trans hb2
    cases z1
    have z2 := h2.symm.trans (hK _ _ k1)
    cases z2
    have z3 := h3.symm.trans k2
    cases z3
    have z4 := h4.symm.trans k3
    cases z4
    obtain ⟨⟨oc, vc, e1, _, e3, e4⟩, hP⟩ := h6
    have z5 := e1.symm.trans (hK _ _ k4)
    cases z5
    cases e3
    have z6 := e4.symm.trans k5
    cases z6
    exact hP
  obtain ⟨K, cs, fd, sp, KX, hT, nT, hC, hb, hsp, hok⟩ := hF w mg fa _ Y G.T.g hmg own
  exact LamX.law_callTs KX G.T.g G.T.b G.T.builtins G.T.nolimit hg hT nT hC G.T.bmain hobj hints (Nat.le_trans hlen hn2) hr hok hb (fun H hH hS => hsp H a ns hlen hH hS) fun H e s' => hCX w H s1 e s'
end DL
open PySem PySem.W PySem.Calls PyProof.Rows
set_option maxHeartbeats 0
theorem PySem.Challenge.cw_evenpicks_k14_rows_that_never_change_holds : PySem.Challenge.rw_evenpicks_k14_rows_that_never_change.Holds := by
  w_on; o_law
  refine HandSHeadRun.head_any (r := OpenLaw.row PySem.Challenge.rw_evenpicks_k14_rows_that_never_change) (q := view (OpenLaw.row PySem.Challenge.rw_evenpicks_k14_rows_that_never_change).prog [34]) (H := Hd.hk) (ob := Hd.ob) (M := 9700) (loose := Hd.names) (d := HandSHeadRun.topDef (OpenLaw.row PySem.Challenge.rw_evenpicks_k14_rows_that_never_change).prog 34) (kwd := []) Hd.ob_eq
    (by kernel_rfl) (fun s => by kernel_rfl) Hd.run (by kernel_rfl) (by kernel_rfl) (by kernel_rfl) (by rfl) (by first | assumption | decide +kernel) (by decide +kernel) ⟨rfl, rfl, rfl, rfl, rfl, by decide +kernel⟩ ?hw ?hc
  case hw => w_witness2
  case hc =>
    refine DL.walk_ofL (l := PySem.Challenge.rw_evenpicks_k14_rows_that_never_change) (n := 63) (k := 12) (x := "_law_script") (fs := ["law"]) (CX := fun w => L2.CX (PySem.Challenge.rw_evenpicks_k14_rows_that_never_change).prog w) rfl (by decide) (by kernel_rfl) ⟨rfl, by decide, by decide⟩ (by kernel_rfl) ?F (fun w H s e s' z => by obtain ⟨_, _, _, _, _, _, _, _, _, _, _, _, z⟩ := z; exact z.elim)
    intro w mg fa h Y G hmg0 own
    obtain ⟨K, KX, c⟩ := Y
    have hmg : mg ("law" : PySem.Str) = some (.ref fa) := by
      have e : (HandSHeadRun.topDef (OpenLaw.row PySem.Challenge.rw_evenpicks_k14_rows_that_never_change).prog 34).name = ("law" : PySem.Str) := by kernel_rfl
      rw [← e]
      exact hmg0
    obtain ⟨cs, fd, sp, h1, h2, h3, h4, h5, h6⟩ := Hd.facts (P := (PySem.Challenge.rw_evenpicks_k14_rows_that_never_change).prog) (w := w) KX G hmg (by kernel_rfl) (by kernel_rfl) own c
    exact ⟨K, cs, fd, sp, KX, h1, h2, h3, h4, h5, h6⟩
