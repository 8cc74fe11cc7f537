import PyProof.Rows.All
import Wide.All
import OpenK.AllK
import Wide.FinOn
import KE.KStateDown
import KE.KOpsOwn
import KE.KEqSeq
import KE.KSuper
import PyProof.P3Eq
import HandS.ForMost
import HandS.Wide
import HandS.Exc
import HandS.Defaults
import HandS.Property
import HandS.MakeKwOnly
import HandS.ClsMeth
import HandS.Star
import HandS.Codes
import HandS.WordsExc
import HandS.IsInst
import HandS.Head0
import HandS.Head1
import HandS.Head2
import HandS.HeadEnd
import HandS.HeadHook1
import HandS.HeadHook2
import HandS.ExcIs
import HandS.ExcOwn
import HandS.ExcInit
import HandS.ExcField
import HandS.ExcValue
import HandS.OwnEq
import HandS.SlotsOwn
import HandS.More
import HandS.FStr
import HandS.HotCalls
import KE.KSuperObj
import KE.KExcSuper
import HandS.Nested
import HandS.ExcSuper
import KE.KParD
import PyProof.DictUpdate
import HandS.Dict
import HandS.Iter
import OpenK.KMake
import HandS.Zip
import HandS.Walk
import HandS.TupAny
import HandS.WideBits
import PyProof.FString3
import KE.GoesMore
import KE.KxField
import PyProof.TwoTypes
import PyProof.FactsAll.int_3
import HandS.Deep
import PyProof.P3In
import KE.GoesEnum
import PyProof.EnumMake
import KE.SortData
import HandS.OwnIter
import HandS.IterVal
import PyProof.Rows.Range3
import HandS.Small
import PySem.Challenge.RW_huerounds_k16_makes_and_writes
set_option Elab.async false
set_option linter.all false
set_option maxRecDepth 100000
set_option maxHeartbeats 4000000
/-! The base of all our proofs about huerounds: the head's facts by names (own hook), own rules, own words. -/
namespace Hue
open PySem PySem.Spec PyProof.Rows L2

/-! ### defs of the text, found by an address of K -/
def noFd : FuncData := PySem.W.fnOf Str.empty Str.empty (defArgs (.Pass ⟨0, 0, 0, 0⟩)) [] (defScope (.Pass ⟨0, 0, 0, 0⟩)) .none .none .none .none none .none .none
def fdD (K : PySem.W.Frag) (a : Addr) : FuncData :=
  match K.lookup a with
  | some ⟨_, _, .func g, _⟩ => g
  | _ => noFd
abbrev Row8 : Type := Option (Str × Str × Arguments × FuncBody × Scope × Addr × List Str × Addr)
def rowAt (K : PySem.W.Frag) (a : Addr) : Row8 :=
  match K.lookup a with
  | some ⟨_, _, .func g, _⟩ => some (g.name, g.qualname, g.params, g.body, g.scope, g.globals, g.closure.map (·.1), g.builtins)
  | _ => none
/-- a def of the text: where it stands, its names, its statement, its defaults -/
structure DX where
  ad : PySem.W.Frag → Addr
  nm : Str
  ql : Str
  st : Stmt
  df : List He.Dv := []
  kd : List (Str × He.Dv) := []
  fr : List Str := []
def DX.row (d : DX) : Row8 := some (d.nm, d.ql, defArgs d.st, .stmts (defBody d.st), defScope d.st, mainGlobals, d.fr, builtinsNs)
def DX.dvs (K : PySem.W.Frag) (d : DX) : List V := d.df.map (He.Dv.v K)
def DX.kws (K : PySem.W.Frag) (d : DX) : List (Str × V) := d.kd.map fun q => (q.1, q.2.v K)
def DX.okB (K : PySem.W.Frag) (d : DX) : Bool :=
  PySem.W.keepIn K (.ref (d.ad K)) &&
  (match K.lookup (d.ad K) with
  | some ⟨_, _, .func g, _⟩ => PySem.W.codeIn K g.code d.ql && (He.dflB K g.defaults (d.dvs K) && He.kwdB K g.kwdefaults (d.kws K))
  | _ => false)
theorem map_nil_of {l : List (Str × Addr)} (h : l.map (·.1) = []) : l = [] := by
  cases l with
  | nil => rfl
  | cons a r => cases h
theorem DX.funD {K : PySem.W.Frag} {d : DX} (e : rowAt K (d.ad K) = d.row) (c : d.okB K = true) (hf : d.fr = []) :
    FunD K d.nm d.ql (defArgs d.st) (defBody d.st) (defScope d.st) (d.dvs K) (d.kws K) (d.ad K) (fdD K (d.ad K)) := by
  obtain ⟨kp, c2⟩ := He.ba c
  unfold rowAt at e
  unfold fdD
  cases q : K.lookup (d.ad K) with
  | none => rw [q] at c2; cases c2
  | some o =>
    obtain ⟨oc, od, dt, osl⟩ := o
    rw [q] at c2 e
    cases dt with
    | func g =>
      obtain ⟨n1, n2, n3, n4, n5, n6, n7, n8, n9, n10, n11, n12, n13, n14, n15⟩ := g
      have e2 : (some (n1, n2, n3, n4, n5, n6, n7.map (·.1), n15) : Row8) = d.row := e
      unfold DX.row at e2
      simp only [Option.some.injEq, Prod.mk.injEq] at e2
      obtain ⟨h1, h2, h3, h4, h5, h6, h7, h8⟩ := e2
      rw [hf] at h7
      have h7' := map_nil_of h7
      subst h1 h2 h3 h4 h5 h6 h7' h8
      obtain ⟨k1, k2⟩ := He.ba (show (PySem.W.codeIn K n13 d.ql && (He.dflB K n8 (d.dvs K) && He.kwdB K n9 (d.kws K))) = true from c2)
      obtain ⟨k3, k4⟩ := He.ba k2
      exact ⟨⟨oc, od, n8, n9, n10, n11, n12, n13, n14, osl, rfl, q, k1, He.dflB_ok k3, He.kwdB_ok k4⟩, kp⟩
    | _ => cases c2
/-- a def of a class that says super(): its one cell -/
structure FunC (K : PySem.W.Frag) (x qual : Str) (params : Arguments) (body : List Stmt) (scope : Scope) (f cc : Addr) (cdv : Value) (fd : FuncData) : Prop where
  ex : ∃ (oc : Value) (od : Option Addr) (dV kV doc pm : Value) (an : Option Addr) (ct : Value) (osl : Array (Option Value)),
    fd = PySem.W.fnX x qual params body scope [("__class__", cc)] dV kV doc pm an cdv ct ∧ K.lookup f = some ⟨oc, od, .func fd, osl⟩ ∧ PySem.W.codeIn K cdv qual = true ∧ dV = .none
  kp : PySem.W.keepIn K (.ref f) = true
theorem DX.funC {K : PySem.W.Frag} {d : DX} (e : rowAt K (d.ad K) = d.row) (c : d.okB K = true) (hf : d.fr = [("__class__" : Str)]) (hd : d.df = []) :
    ∃ cc cdv, FunC K d.nm d.ql (defArgs d.st) (defBody d.st) (defScope d.st) (d.ad K) cc cdv (fdD K (d.ad K)) := by
  obtain ⟨kp, c2⟩ := He.ba c
  unfold rowAt at e
  unfold fdD
  cases q : K.lookup (d.ad K) with
  | none => rw [q] at c2; cases c2
  | some o =>
    obtain ⟨oc, od, dt, osl⟩ := o
    rw [q] at c2 e
    cases dt with
    | func g =>
      obtain ⟨n1, n2, n3, n4, n5, n6, n7, n8, n9, n10, n11, n12, n13, n14, n15⟩ := g
      have e2 : (some (n1, n2, n3, n4, n5, n6, n7.map (·.1), n15) : Row8) = d.row := e
      unfold DX.row at e2
      simp only [Option.some.injEq, Prod.mk.injEq] at e2
      obtain ⟨h1, h2, h3, h4, h5, h6, h7, h8⟩ := e2
      rw [hf] at h7
      obtain ⟨cc, h7'⟩ : ∃ cc, n7 = [(("__class__" : Str), cc)] := by
        match n7, h7 with
        | [(y, cc)], z =>
          have z2 : [y] = [("__class__" : Str)] := z
          injection z2 with z3 _
          exact ⟨cc, by rw [z3]⟩
      subst h1 h2 h3 h4 h5 h6 h7' h8
      obtain ⟨k1, k2⟩ := He.ba (show (PySem.W.codeIn K n13 d.ql && (He.dflB K n8 (d.dvs K) && He.kwdB K n9 (d.kws K))) = true from c2)
      obtain ⟨k3, k4⟩ := He.ba k2
      have hD := He.dflB_ok k3
      have e0 : n8 = .none := by
        rcases hD with ⟨_, e⟩ | ⟨e, _⟩
        · exact e
        · exact absurd (show DX.dvs K d = [] by unfold DX.dvs; rw [hd]; rfl) e
      exact ⟨cc, n13, ⟨oc, od, n8, n9, n10, n11, n12, n14, osl, rfl, q, k1, e0⟩, kp⟩
    | _ => cases c2

/-! ### more facts of the top -/
abbrev gad (x : Str) (K : PySem.W.Frag) : Addr := He.ga K x
abbrev mad (C m : Str) (K : PySem.W.Frag) : Addr := He.ma K (He.ga K C) m
/-- the getter behind a property, the def behind a classmethod -/
def pad (T : String) (C m : Str) (K : PySem.W.Frag) : Addr :=
  match PySem.W.recIn K (He.ma K (He.ga K C) m) T with
  | some (.ref g :: _) => g
  | _ => 0
/-- the def behind a property's setter -/
def sad (C m : Str) (K : PySem.W.Frag) : Addr :=
  match PySem.W.recIn K (He.ma K (He.ga K C) m) "property" with
  | some (_ :: .ref g :: _) => g
  | _ => 0
inductive Kx where
  | ty (n : String)
  | own (x : Str)
def Kx.v (K : PySem.W.Frag) : Kx → Value
  | .ty n => .type n
  | .own x => .ref (He.ga K x)
inductive Fx where
  | prop (C f : Str)
  | tup (x : Str) (vs : List He.Dv)
  | inst (C : Str)
  | kit (t c : Kx) (b : Bool)
  | bop (C m r : Str) (T : String)
  | cread (C : Str)
  | cmeth (C m : Str)
  | cint (C f : Str) (i : Int)
  | own (C m : Str)
  | excC (D : Str)
  | nf (C : Str) (t : Kx)
  | sub (C : Str) (t : Kx) (b : Bool)
  | oex (C : Str)
  | sup (C D : Str) (fl ar : Str)
  | einit (C D : Str)
  | pset (C f : Str)
  | bopr (C m r : Str) (T : String)
  | bopo (C m : Str)
def eqB (a b : Option Bool) : Bool := decide (a = b)
def someO (a : Option (Option Value)) : Bool := a.isSome
def Fx.ok (K : PySem.W.Frag) : Fx → Bool
  | .prop C f =>
    He.eqO (PySem.W.findIn K (.ref (gad C K)) f) (some (some (.ref (mad C f K)))) &&
    (He.eqO (PySem.W.specialIn K (.ref (mad C f K)) "__get__") (some (some (.builtin "property.__get__"))) &&
    (eqB (PySem.W.takesIn K (.ref (mad C f K))) (some true) &&
    (match PySem.W.recIn K (mad C f K) "property" with
      | some (.ref _ :: _) => true
      | _ => false)))
  | .tup x vs => He.tupB K x vs
  | .inst C =>
    He.eqO (PySem.W.findIn K (.ref (gad C K)) "__class__") (some (some (.builtin "object.__class__"))) &&
    (He.eqO (PySem.W.specialIn K (.builtin "object.__class__") "__get__") (some (some (.builtin "getset_descriptor.__get__"))) &&
    (eqB (PySem.W.takesIn K (.builtin "object.__class__")) (some true) &&
    eqB (PySem.W.mroIn K (gad C K) (.type "object")) (some true)))
  | .kit t c b => eqB (PySem.W.kitOne K (t.v K) (c.v K)) (some b)
  | .bop C m r T =>
    PySem.W.selfFirst K (gad C K) &&
    (He.eqO (PySem.W.findIn K (.ref (gad C K)) m) (some (some (.ref (mad C m K)))) &&
    (PySem.W.isFn K (.ref (mad C m K)) &&
    (He.eqO (PySem.W.findIn K (.ref (gad C K)) r) (some none) &&
    (someO (PySem.W.findIn K (.type T) m) && (someO (PySem.W.findIn K (.type T) r) &&
    eqB (PySem.W.subIn K (.type T) (.ref (gad C K))) (some false))))))
  | .cread C => PySem.W.readsIn K (gad C K) (.type "type") && He.eqO (PySem.W.specialIn K (.ref (gad C K)) "__getattribute__") (some (some (.builtin "type.__getattribute__")))
  | .cmeth C m =>
    (match PySem.W.findCls K (.ref (gad C K)) (.type "type") m with
      | some (.get (.builtin g) (.ref p) .none (.ref D)) => decide (g = "classmethod.__get__") && (decide (p = mad C m K) && decide (D = gad C K))
      | _ => false) &&
    ((match PySem.W.recIn K (mad C m K) "classmethod" with
      | some (.ref _ :: _) => true
      | _ => false) && PySem.W.fnIn K (pad "classmethod" C m K))
  | .cint C f i =>
    (match PySem.W.findCls K (.ref (gad C K)) (.type "type") f with
      | some (.val (.int j _)) => decide (j = i)
      | _ => false)
  | .own C m => He.eqO (PySem.W.findIn K (.ref (gad C K)) m) (some (some (.ref (mad C m K)))) && (PySem.W.isFn K (.ref (mad C m K)) && (PySem.W.fnIn K (mad C m K) && PySem.W.noSeq K (gad C K)))
  | .excC D =>
    He.eqO (PySem.W.findIn K (.ref (gad D K)) "__getattribute__") (some (some (.builtin "BaseException.__getattribute__"))) &&
    (He.eqO (PySem.W.findIn K (.ref (gad D K)) "__getattr__") (some none) &&
    (eqB (PySem.W.subIn K (.ref (gad D K)) (.type "BaseException")) (some true) &&
    (PySem.W.hasDictIn K (gad D K) &&
    (He.eqO (PySem.W.findIn K (.ref (gad D K)) "__class__") (some (some (.builtin "object.__class__"))) &&
    (He.eqO (PySem.W.specialIn K (.builtin "object.__class__") "__get__") (some (some (.builtin "getset_descriptor.__get__"))) &&
    (eqB (PySem.W.takesIn K (.builtin "object.__class__")) (some true) &&
    eqB (PySem.W.mroIn K (gad D K) (.type "object")) (some true)))))))
  | .nf C t => PySem.W.notFirst K (gad C K) (t.v K)
  | .sub C t b => eqB (PySem.W.subIn K (.ref (gad C K)) (t.v K)) (some b)
  | .oex C =>
    (match K.lookup (gad C K) with
      | some ⟨.type "type", _, .cls cd, sl⟩ => (match cd.mro, sl.toList with
        | .ref C' :: bm, [_, _, _, _, some (.builtin n), _] => decide (C' = gad C K) && (decide (n = "ValueError.__new__") && (!cd.hasDel && (cd.hasDict && PySem.HandSPX.refsVE bm)))
        | _, _ => false)
      | _ => false) &&
    (He.eqO (PySem.W.findIn K (.ref (gad C K)) "__setattr__") (some (some (.builtin "object.__setattr__"))) &&
    (eqB (PySem.W.subIn K (.ref (gad C K)) (.type "BaseException")) (some true) &&
    (decide (PySem.W.typeIn K (.ref (gad C K)) = some (.type "type")) && PySem.W.keepIn K (.ref (gad C K)))))
  | .sup C D fl ar =>
    (match K.lookup (mad D "__init__" K) with
      | some ⟨_, _, .func fd, _⟩ =>
        (match (fd.params.posonlyargs ++ fd.params.args).head? with
          | some a => decide (a.arg = ar)
          | none => false) &&
        ((match fd.closure with
          | [(_, cc)] => (match K.lookup cc with
            | some ⟨_, _, .cell (some (.ref a)), _⟩ => decide (a = gad D K)
            | _ => false)
          | _ => false) &&
        (match fd.code with
          | .ref c => (match K.lookup c with
            | some ⟨_, _, .fields vs, _⟩ => (match (vs[2]? : Option Value) with
              | some (Value.str z _) => decide (z = fl)
              | _ => false)
            | _ => false)
          | _ => false))
      | _ => false) &&
    ((PySem.W.clsIn K (gad D K)).isSome && ((PySem.W.clsIn K (gad C K)).isSome && (eqB (PySem.W.mroIn K (gad C K) (.ref (gad D K))) (some true) && (He.eqO (PySem.W.nsIn K cStatics "thirdparty.any") (some none) &&
    (He.eqO (PySem.W.ks_superIn K (gad C K) (gad D K) "__init__") (some (some (.builtin "ValueError.__init__"))) && eqB (PySem.W.subIn K (.ref (gad C K)) (.type "ValueError")) (some true))))))
  | .pset C f =>
    He.eqO (PySem.W.takerIn K (gad C K) f) (some (some (.ref (mad C f K)))) && (decide (PySem.W.typeIn K (.ref (mad C f K)) = some (.type "property")) &&
    (match PySem.W.recIn K (mad C f K) "property" with
      | some (_ :: .ref _ :: _) => true
      | _ => false))
  | .bopr C m r T =>
    PySem.W.selfFirst K (gad C K) &&
    (He.eqO (PySem.W.findIn K (.ref (gad C K)) m) (some (some (.ref (mad C m K)))) &&
    (PySem.W.isFn K (.ref (mad C m K)) &&
    (He.eqO (PySem.W.findIn K (.ref (gad C K)) r) (some (some (.ref (mad C r K)))) &&
    (PySem.W.isFn K (.ref (mad C r K)) &&
    (someO (PySem.W.findIn K (.type T) m) && (someO (PySem.W.findIn K (.type T) r) &&
    (eqB (PySem.W.subIn K (.type T) (.ref (gad C K))) (some false) && eqB (PySem.W.subIn K (.ref (gad C K)) (.type T)) (some false))))))))
  | .bopo C m => PySem.W.selfFirst K (gad C K) && (He.eqO (PySem.W.findIn K (.ref (gad C K)) m) (some (some (.ref (mad C m K)))) && PySem.W.isFn K (.ref (mad C m K)))
  | .einit C D => He.eqO (PySem.W.findIn K (.ref (gad C K)) "__init__") (some (some (.ref (mad D "__init__" K)))) && decide (PySem.W.typeIn K (.ref (mad D "__init__" K)) = some (.type "function"))
section
variable {K : PySem.W.Frag}
theorem rec_ok {T : String} {C m : Str} (c : (match PySem.W.recIn K (mad C m K) T with
      | some (.ref _ :: _) => true
      | _ => false) = true) : ∃ rest, PySem.W.recIn K (mad C m K) T = some (.ref (pad T C m K) :: rest) := by
  unfold pad
  cases e : PySem.W.recIn K (mad C m K) T with
  | none => rw [e] at c; cases c
  | some l =>
    rw [e] at c
    cases l with
    | nil => cases c
    | cons v r =>
      cases v with
      | ref g => exact ⟨r, rfl⟩
      | _ => cases c
theorem cread_ok {C : Str} (c : (Fx.cread C).ok K = true) : ClX.CRead K (gad C K) (.type "type") := by
  obtain ⟨c1, c2⟩ := He.ba c
  exact ⟨c1, He.eqO_ok c2⟩
theorem cmeth_ok {C m : Str} (c : (Fx.cmeth C m).ok K = true) : ClX.CMet K (gad C K) (.type "type") m (mad C m K) (pad "classmethod" C m K) := by
  obtain ⟨c1, c⟩ := He.ba c
  obtain ⟨c2, c3⟩ := He.ba c
  refine ⟨?_, rec_ok c2, c3⟩
  split at c1
  · rename_i g p D e
    obtain ⟨k1, k⟩ := He.ba c1
    obtain ⟨k2, k3⟩ := He.ba k
    rw [e, of_decide_eq_true k1, of_decide_eq_true k2, of_decide_eq_true k3]
  · cases c1
theorem cint_ok {C f : Str} {i : Int} (c : (Fx.cint C f i).ok K = true) : ∃ u, ClX.CVal K (gad C K) (.type "type") f (.int i) u := by
  have c1 : (match PySem.W.findCls K (.ref (gad C K)) (.type "type") f with
      | some (.val (.int j _)) => decide (j = i)
      | _ => false) = true := c
  split at c1
  · rename_i j t e
    refine ⟨_, e, ⟨t, ?_⟩⟩
    rw [of_decide_eq_true c1]
  · cases c1
theorem prop_ok {C f : Str} (c : (Fx.prop C f).ok K = true) : PropOf K (gad C K) f (mad C f K) (pad "property" C f K) := by
  obtain ⟨c1, c⟩ := He.ba c
  obtain ⟨c2, c⟩ := He.ba c
  obtain ⟨c3, c4⟩ := He.ba c
  refine ⟨He.eqO_ok c1, He.eqO_ok c2, of_decide_eq_true c3, ?_⟩
  unfold pad
  cases e : PySem.W.recIn K (mad C f K) "property" with
  | none => rw [e] at c4; cases c4
  | some l =>
    rw [e] at c4
    cases l with
    | nil => cases c4
    | cons v r =>
      cases v with
      | ref g =>
        exact ⟨r, rfl⟩
      | _ => cases c4
/-- a property with a setter -/
structure PSetOf (K : PySem.W.Frag) (C : Addr) (f : Str) (p g : Addr) : Prop where
  tk : PySem.W.takerIn K C f = some (some (.ref p))
  ty : PySem.W.typeIn K (.ref p) = some (.type "property")
  rc : ∃ a rest, PySem.W.recIn K p "property" = some (a :: .ref g :: rest)
theorem pset_ok {C f : Str} (c : (Fx.pset C f).ok K = true) : PSetOf K (gad C K) f (mad C f K) (sad C f K) := by
  obtain ⟨c1, c⟩ := He.ba c
  obtain ⟨c2, c3⟩ := He.ba c
  refine ⟨He.eqO_ok c1, of_decide_eq_true c2, ?_⟩
  unfold sad
  split at c3
  · rename_i a g rest e
    exact ⟨a, rest, by rw [e]⟩
  · cases c3
theorem inst_ty {C : Str} (c : (Fx.inst C).ok K = true) (cl : Cls K (gad C K)) {H : Hp} {a dx : Addr} {fs : List (Str × V)} (e : H a = some (.ins (gad C K) dx fs)) : TyX K H (.ref a) (.ref (gad C K)) := by
  obtain ⟨c1, c⟩ := He.ba c
  obtain ⟨c2, c⟩ := He.ba c
  obtain ⟨c3, c4⟩ := He.ba c
  exact .base (.ins e cl (He.eqO_ok c1) (He.eqO_ok c2) (of_decide_eq_true c3) (of_decide_eq_true c4))
theorem nf_ok {C : Str} {t : Kx} (h : (Fx.nf C t).ok K = true) : PySem.W.notFirst K (gad C K) (t.v K) = true := h
theorem sub_ok {C : Str} {t : Kx} {b : Bool} (h : (Fx.sub C t b).ok K = true) : PySem.W.subIn K (.ref (gad C K)) (t.v K) = some b := of_decide_eq_true h
theorem kit_ok {t c : Kx} {b : Bool} (h : (Fx.kit t c b).ok K = true) : PySem.W.kitOne K (t.v K) (c.v K) = some b := of_decide_eq_true h
end
/-! ### the hook -/
abbrev AlX : Type := Bool × List Row8
def obsX (fa : List He.Fa) (fx : List Fx) (ds : List DX) (K : PySem.W.Frag) : AlX :=
  ((fa.all fun f => f.ok K) && ((fx.all fun f => f.ok K) && ds.all fun d => d.okB K), ds.map fun d => rowAt K (d.ad K))
def valX (ds : List DX) : AlX := (true, ds.map DX.row)
def SaysX (fa : List He.Fa) (fx : List Fx) (ds : List DX) (K : PySem.W.Frag) : Prop := obsX fa fx ds K = valX ds
def obsXG (n : Nat) (fa : List He.Fa) (fx : List Fx) (ds : List DX) (g : Addr → Option Obj) : AlX := obsX fa fx ds (He.frG g (cStatics :: He.asD g n))
def hookX (n : Nat) (fa : List He.Fa) (fx : List Fx) (ds : List DX) : PySem.W.Hook where
  α := AlX
  obs := fun s => obsXG n fa fx ds s.heap.get?
  val := fun _ => valX ds
  says := fun _ h => ∃ K : PySem.W.Frag, K.In h ∧ SaysX fa fx ds K
  of := fun _ _ e => ⟨_, He.frG_in, e⟩
  keeps := fun _ _ _ ⟨K, hK, c⟩ k => ⟨K, PySem.W.Frag.In.keeps hK k, c⟩
theorem obsXG_eq {n : Nat} {fa : List He.Fa} {fx : List Fx} {ds : List DX} {g : Addr → Option Obj} {s : Shared} (h : ∀ a, g a = s.heap.get? a) : obsXG n fa fx ds g = (hookX n fa fx ds).obs s := by
  cases (funext h : g = s.heap.get?)
  rfl
section
variable {fa : List He.Fa} {fx : List Fx} {ds : List DX} {K : PySem.W.Frag}
theorem SaysX.fact (c : SaysX fa fx ds K) (i : Nat) {f : He.Fa} (h : fa[i]? = some f := by rfl) : f.ok K = true :=
  List.all_eq_true.mp (He.ba (show ((fa.all fun f => f.ok K) && ((fx.all fun f => f.ok K) && ds.all fun d => d.okB K)) = true from congrArg (fun z : AlX => z.1) c)).1 f (List.mem_of_getElem? h)
theorem SaysX.more (c : SaysX fa fx ds K) (i : Nat) {f : Fx} (h : fx[i]? = some f := by rfl) : f.ok K = true :=
  List.all_eq_true.mp (He.ba (He.ba (show ((fa.all fun f => f.ok K) && ((fx.all fun f => f.ok K) && ds.all fun d => d.okB K)) = true from congrArg (fun z : AlX => z.1) c)).2).1 f (List.mem_of_getElem? h)
theorem SaysX.fdc (c : SaysX fa fx ds K) (i : Nat) {d : DX} (h : ds[i]? = some d := by rfl) (hf : d.fr = [("__class__" : Str)] := by rfl) (hd : d.df = [] := by rfl) :
    ∃ cc cdv, FunC K d.nm d.ql (defArgs d.st) (defBody d.st) (defScope d.st) (d.ad K) cc cdv (fdD K (d.ad K)) := by
  have c2 := (He.ba (He.ba (show ((fa.all fun f => f.ok K) && ((fx.all fun f => f.ok K) && ds.all fun d => d.okB K)) = true from congrArg (fun z : AlX => z.1) c)).2).2
  have e : ds.map (fun d => rowAt K (d.ad K)) = ds.map DX.row := congrArg (fun z : AlX => z.2) c
  have e2 : (ds.map fun d => rowAt K (d.ad K))[i]? = (ds.map DX.row)[i]? := by rw [e]
  rw [List.getElem?_map, List.getElem?_map, h] at e2
  exact DX.funC (Option.some.inj e2) (List.all_eq_true.mp c2 d (List.mem_of_getElem? h)) hf hd
theorem SaysX.fd (c : SaysX fa fx ds K) (i : Nat) {d : DX} (h : ds[i]? = some d := by rfl) (hf : d.fr = [] := by rfl) :
    FunD K d.nm d.ql (defArgs d.st) (defBody d.st) (defScope d.st) (d.dvs K) (d.kws K) (d.ad K) (fdD K (d.ad K)) := by
  have c2 := (He.ba (He.ba (show ((fa.all fun f => f.ok K) && ((fx.all fun f => f.ok K) && ds.all fun d => d.okB K)) = true from congrArg (fun z : AlX => z.1) c)).2).2
  have e : ds.map (fun d => rowAt K (d.ad K)) = ds.map DX.row := congrArg (fun z : AlX => z.2) c
  have e2 : (ds.map fun d => rowAt K (d.ad K))[i]? = (ds.map DX.row)[i]? := by rw [e]
  rw [List.getElem?_map, List.getElem?_map, h] at e2
  exact DX.funD (Option.some.inj e2) (List.all_eq_true.mp c2 d (List.mem_of_getElem? h)) hf
end

/-! ### constants of the top -/
abbrev SqTk (K : PySem.W.Frag) (a : Addr) (vs : List V) : Prop := ∀ H : Hp, SqT K H a vs
theorem tup_ok {K : PySem.W.Frag} {x : Str} {vs : List He.Dv} (h : (Fx.tup x vs).ok K = true) : SqTk K (gad x K) (vs.map (He.Dv.v K)) := fun H => He.tupB_ok h H
section
variable {X : Cx}
theorem pe_gi {x : Str} {i : Int} {pos : Pos} (hg : Gl X x) (h : ∃ t, X.mg x = some (.int i t)) (hd : (x == ("__debug__" : Str)) = false := by decide) : PE X (.Name x pos) (tC (.int i)) := by
  obtain ⟨t, h⟩ := h
  exact pe_glob hg h ⟨t, rfl⟩ hd
theorem pe_gs {x z : Str} {pos : Pos} (hg : Gl X x) (h : ∃ t, X.mg x = some (.str z t)) (hd : (x == ("__debug__" : Str)) = false := by decide) : PE X (.Name x pos) (tC (.str z)) := by
  obtain ⟨t, h⟩ := h
  exact pe_glob hg h ⟨t, rfl⟩ hd
theorem pe_gr {x : Str} {a : Addr} {pos : Pos} (hg : Gl X x) (h : X.mg x = some (.ref a)) (hd : (x == ("__debug__" : Str)) = false := by decide) : PE X (.Name x pos) (tC (.ref a)) := pe_glob hg h rfl hd
theorem pe_bty {x : Str} (n : String) {pos : Pos} (hg : Gl X x) (h : X.mg x = none) (hv : bootBuiltins x = some (.type n)) (hn : x ≠ "__name__" := by decide) (hd : (x == ("__debug__" : Str)) = false := by decide) : PE X (.Name x pos) (tC (.ty n)) := pe_bltn hg h hv rfl hn hd
/-! ### int(..) by the kind of its argument -/
theorem call_intI : CallR X (.type "int") (fun xs H Q => ∃ i, xs = [.int i] ∧ Q (.int i) H) := fun pins s σ H xs us Q I r ⟨i, e, q⟩ => call_int1 pins s σ H xs us Q I r (.inl ⟨i, e, q⟩)
theorem call_intB : CallR X (.type "int") (fun xs H Q => ∃ k, xs = [.bl k] ∧ Q (.int (if k then 1 else 0)) H) := fun pins s σ H xs us Q I r ⟨k, e, q⟩ => call_int1 pins s σ H xs us Q I r (.inr ⟨k, e, q⟩)
end
/-! ### what stands in a heap, found by steps (the word "hp") -/
/-- all but the objects of S are as they were -/
def Fr (S : Addr → Prop) (H H' : Hp) : Prop := ∀ a o, ¬ S a → H a = some o → H' a = some o
theorem upd_old {H : Hp} {p a : Addr} {o u : HO} (n : H p = none) (h : H a = some o) : upd H p u a = some o := by rw [upd_ne (ne_of_none h n)]; exact h
theorem upd_oth {H : Hp} {p a : Addr} {o u : HO} (n : a ≠ p) (h : H a = some o) : upd H p u a = some o := by rw [upd_ne n]; exact h
theorem upd_oldN {H : Hp} {p a : Addr} {u : HO} (n : a ≠ p) (h : H a = none) : upd H p u a = none := by rw [upd_ne n]; exact h
theorem same_get {H H' : Hp} {a : Addr} {o : HO} (e : Same H H') (h : H a = some o) : H' a = some o := e a o h
theorem iteB {c : Bool} {A B : Prop} (h1 : c = true → A) (h2 : c = false → B) : if c = true then A else B := by
  cases c with
  | true => exact iteT (h1 rfl)
  | false => exact iteF (h2 rfl)
theorem Same.upd {H H' : Hp} {p : Addr} {u : HO} (e : Same H H') (n : H p = none) : Same H (upd H' p u) := fun a o h => by rw [upd_ne (ne_of_none h n)]; exact e a o h
theorem Same.new {H : Hp} {p : Addr} {u : HO} (n : H p = none) : Same H (L2.upd H p u) := Same.upd (Same.refl H) n

/-! ### an own class's operator with a built-in value on the right -/
/-- o op i, o an instance of C, i an int -/
def rOwnI (C : Addr) (sp : Sp) (E : XK) : R2 := fun x y H Q => ∃ a dx fs i, x = .ref a ∧ H a = some (.ins C dx fs) ∧ y = .int i ∧ sp [.ref a, .int i] H Q E
theorem op_ownI {X : Cx} {CX : CXT} {op : Operator} {C m r : Str} {k : Nat} {fd : FuncData} {ps : List Str} {sp : Sp} {E : XK}
    (cl : Cls X.K (gad C X.K)) (b : (Fx.bop C m r "int").ok X.K = true) (em : PySem.dunder op.info.2 = m) (er : PySem.dunderR op.info.2 = r)
    (F : FnOk X.prog X.w X.K X.mg X.base CX k (mad C m X.K) fd ps sp) (hr : Room k X.A) (hb : Binds X.K fd ps []) (hx : Passes CX X E) : OpR X (binaryOp op) (rOwnI (gad C X.K) sp E) := by
  intro pins s σ H x y v u Q I rx ry h
  obtain ⟨a, dx, fs, i, rfl, ea, rfl, q⟩ := h
  obtain rfl : v = Value.ref a := rx
  obtain ⟨t, rfl⟩ := ry
  obtain ⟨c1, c⟩ := He.ba b
  obtain ⟨c2, c⟩ := He.ba c
  obtain ⟨c3, c⟩ := He.ba c
  obtain ⟨c4, c⟩ := He.ba c
  obtain ⟨c5, c⟩ := He.ba c
  obtain ⟨c6, c7⟩ := He.ba c
  obtain ⟨fo, h5⟩ := Option.isSome_iff_exists.mp c5
  obtain ⟨ro, h6⟩ := Option.isSome_iff_exists.mp c6
  obtain ⟨mA, O, _⟩ := ins_get I.hok ea
  obtain ⟨od, J, _⟩ := O.look
  obtain ⟨m0, Fm⟩ := I.fr
  subst em er
  refine PySem.W.ksp_binT (T := "int") Fm I.ok.mod.kin J rfl c1 (He.eqO_ok c2) c3 (He.eqO_ok c4) (.inl rfl) h5 h6 (of_decide_eq_true c7) ?_
  refine thn (run_fn (us := [.ref a, .int i t]) (vs := [.ref a, .int i]) F hr hb .nil hx I (.cons rfl (.cons ⟨t, rfl⟩ .nil)) q) fun u s' hq => ?_
  obtain ⟨z, H', I', rz, qz⟩ := hq
  have fin : EP X pins σ Q u s' := ⟨z, H', I', rz, qz⟩
  cases z with
  | non => obtain rfl : u = Value.none := rz; exact fin
  | bl _ => obtain rfl : u = Value.bool _ := rz; exact fin
  | int _ => obtain ⟨t', rfl⟩ := rz; exact fin
  | str _ => obtain ⟨t', rfl⟩ := rz; exact fin
  | byt _ => obtain ⟨t', rfl⟩ := rz; exact fin
  | flt _ => obtain ⟨t', rfl⟩ := rz; exact fin
  | ref _ => obtain rfl : u = Value.ref _ := rz; exact fin
  | ty _ => obtain rfl : u = Value.type _ := rz; exact fin

/-! ### a class called with a starred list; a def with a starred parameter -/
/-- C(*y): a new instance, __init__ with the items -/
def tMakeSt (K0 : PySem.W.Frag) (C : Addr) (sp : Sp) (E : XK) (te : TE) : TE := fun σ H Q => te σ H fun y H1 => ∃ a xs, y = V.ref a ∧ (SqT K0 H1 a xs ∨ SqL K0 H1 a xs) ∧ ∀ x dx, H1 x = none → H1 dx = none → dx ≠ x →
  sp (.ref x :: xs) (upd (upd H1 dx (.own x)) x (.ins C dx [])) (fun v H2 => v = .non ∧ Q (.ref x) H2) E
/-- .. where slot i holds the class -/
def tMakeLS (K0 : PySem.W.Frag) (i : Nat) (C : Addr) (sp : Sp) (E : XK) (te : TE) : TE := fun σ H Q => σ[i]? = some (some (.ref C)) ∧ tMakeSt K0 C sp E te σ H Q
section
variable {X : Cx} {CX : CXT} {k i : Nat} {f C : Addr} {sp : Sp} {E : XK} {x : Str} {e : Expr} {te : TE} {p q pos : Pos}
theorem pe_makeGS (M : Mk X.K C f) (F : FnR X.prog X.w X.K X.mg X.base CX k f sp) (hr : Room (k + 1) X.A) (hx : Passes CX X E) (hg : Gl X x) (hm : X.mg x = some (.ref C)) (he : PE X e te)
    (hd : (x == ("__debug__" : Str)) = false := by decide) (hst : starEach [.Starred e q] X.env = [(true, eval e X.env)] := by rfl) :
    PE X (.Call (.Name x p) [.Starred e q] [] pos) (tMakeSt X.K C sp E te) := by
  refine ⟨fun pins s σ H Q I h => ?_⟩
  refine wpAny_Call_Name_kw (ld_glob I hg hm ?_ hd)
  refine PySem.W.callWith_S (h₀ := X.base) I.ok.mod.kin M.kp (thn (he.run pins s σ H _ I h) fun v s1 ⟨y, H1, I1, ry, a, xs, ey, hxs, z⟩ => ?_) hst
  subst ey
  obtain rfl : v = Value.ref a := ry
  exact StX.star_any I1 hxs fun us s2 I2 rv => ⟨I2.kIn, StX.run_makeR M F hr hx I2 rv z⟩
theorem pe_makeLS (M : Mk X.K C f) (F : FnR X.prog X.w X.K X.mg X.base CX k f sp) (hr : Room (k + 1) X.A) (hx : Passes CX X E) (hN : X.N[i]? = some x) (hv : Vis X.env.scope x) (he : PE X e te)
    (hd : (x == ("__debug__" : Str)) = false := by decide) (hcd : (x == ("__classdict__" : Str)) = false := by decide) (hst : starEach [.Starred e q] X.env = [(true, eval e X.env)] := by rfl) :
    PE X (.Call (.Name x p) [.Starred e q] [] pos) (tMakeLS X.K i C sp E te) := by
  refine ⟨fun pins s σ H Q I h => ?_⟩
  obtain ⟨hs, h⟩ := h
  refine wpAny_Call_Name_kw (thn ((pe_var (pos := p) (i := i) hN hv hd hcd).run pins s σ H (fun v H1 => v = .ref C ∧ H1 = H) I ⟨.ref C, hs, rfl, rfl⟩) fun u s1 ⟨v, H1, I1, r1, ev, eH⟩ => ?_)
  subst ev
  rw [eH] at I1
  cases r1
  refine PySem.W.callWith_S (h₀ := X.base) I.ok.mod.kin M.kp (thn (he.run pins s1 σ H _ I1 h) fun v s2 ⟨y, H2, I2, ry, a, xs, ey, hxs, z⟩ => ?_) hst
  subst ey
  obtain rfl : v = Value.ref a := ry
  exact StX.star_any I2 hxs fun us s3 I3 rv => ⟨I3.kIn, StX.run_makeR M F hr hx I3 rv z⟩
end
section
variable {P : Program} {w : World} {K : PySem.W.Frag} {mg : Str → Option Value} {base : Heap} {CX : CXT} {k : Nat} {f : Addr} {fd : FuncData} {ps N : List Str} {sp : Sp} {x qual pv : Str} {params : Arguments} {body : List Stmt} {scope : Scope}
theorem fnr_of (F : FnOk P w K mg base CX k f fd ps sp) (hb : Binds K fd ps []) : FnR P w K mg base CX k f sp :=
  (F.raw hb .nil).imp fun vs H Q E h => by
    show sp (vs ++ []) H Q E
    rw [List.append_nil]
    exact h
/-- the promise of a def f(a, .., *v) by the promise of its body -/
def spStar (n : Nat) (sp : Sp) : Sp := fun vs H Q E => ∃ ws rest, vs = ws ++ rest ∧ ws.length = n ∧ rest.length ≤ sizeLine ∧ ∀ p, H p = none → sp (ws ++ [V.ref p]) (upd H p (.tup rest)) Q E
theorem fnr_star (F : FunD K x qual params body scope [] [] f fd) (S : FnScope N (ps ++ [pv]) scope) (hCX : StX.CXUp CX)
    (hb : ∀ (kV doc pm : Value) (an : Option Addr) (cdv ct : Value) (us rest : List Value), us.length = ps.length → bindArgs (PySem.W.fnOf x qual params body scope .none kV doc pm an cdv ct) ⟨us ++ rest, []⟩ = (newTuple rest >>= fun t => pure (ps.zip us ++ [(pv, t)])))
    (hbody : ∀ (cdv : Value) (A : Around) (outer : List Env) (s : Shared) (H : Hp) (vs : List V) (Q : VK) (E : XK), Room k (A.deeper (envOfC qual scope s.heap.objs.size f cdv)) → sp vs H Q E →
      ∃ t, PSs (cxOf CX P w K mg base N qual scope f cdv A outer s H E) body t ∧ t { nx := fun _ H' => Q .non H', rt := Q } (start N vs) H) :
    FnR P w K mg base CX (k + 1) f (spStar ps.length sp) := by
  obtain ⟨oc, od, dV, kV, doc, pm, an, cdv, ct, osl, rfl, lk, hcd, hD, _⟩ := F.ex
  rcases hD with ⟨_, rfl⟩ | ⟨e, _⟩
  · exact StX.fn_star lk hcd S hCX (fun us rest hl => hb kV doc pm an cdv ct us rest hl) fun A outer s H vs Q E hr h => hbody cdv A outer s H vs Q E hr h
  · exact absurd rfl e
end

/-! ### o[i], o[i] = e, len(o) by the class's own methods -/
structure OwnM (K : PySem.W.Frag) (C : Addr) (m : Str) (f : Addr) : Prop where
  at_ : PySem.W.findIn K (.ref C) m = some (some (.ref f))
  fn : PySem.W.isFn K (.ref f) = true
  fi : PySem.W.fnIn K f = true
  nq : PySem.W.noSeq K C = true
theorem own_ok {K : PySem.W.Frag} {C m : Str} (c : (Fx.own C m).ok K = true) : OwnM K (gad C K) m (mad C m K) := by
  obtain ⟨c1, c⟩ := He.ba c
  obtain ⟨c2, c⟩ := He.ba c
  obtain ⟨c3, c4⟩ := He.ba c
  exact ⟨He.eqO_ok c1, c2, c3, c4⟩
section
variable {X : Cx} {CX : CXT} {k : Nat} {C f : Addr} {sp : Sp} {E : XK} {a b : Expr} {ta tb : TE} {pos : Pos}
theorem run_in1 {pins : List (Addr × Obj)} {σ : L2.St} {H : Hp} {s : Shared} {Q : VK} {us : List Value} {vs : List V} (F : FnR X.prog X.w X.K X.mg X.base CX k f sp) (hr : Room (k + 1) X.A) (hx : Passes CX X E) (I : Inv X pins σ H s) (r : Vals vs us) (h : sp vs H Q E) :
    wpAny (model X.prog X.w) X.A.in1 (call (.ref f) us) (EP X pins σ Q) X.xe s := by
  refine wpAny_call (codeAny_mono (F X.A.in1 X.stack s H us vs Q E hr.in1 I.env0.in1 r h) fun r s' hq => ?_)
  cases r with
  | error e => exact hx pins σ H s e s' I hq
  | ok fl =>
    cases fl with
    | ret u => exact I.after hq
    | next => exact False.elim hq
    | brk => exact False.elim hq
    | cont => exact False.elim hq
def tIxO (C : Addr) (sp : Sp) (E : XK) (ta tb : TE) : TE := fun σ H Q => ta σ H fun x H1 => tb σ H1 fun y H2 => ∃ a dx fs, x = .ref a ∧ H2 a = some (.ins C dx fs) ∧ sp [.ref a, y] H2 Q E
theorem pe_ixO (o : OwnM X.K C "__getitem__" f) (F : FnR X.prog X.w X.K X.mg X.base CX k f sp) (hr : Room (k + 1) X.A) (hx : Passes CX X E) (ha : PE X a ta) (hb : PE X b tb)
    (hs : ∀ o i, subscripted b true o i = runValue (.builtin "lifetime.subscript" ⟨[o, i], []⟩) := by intro _ _; rfl) : PE X (.Subscript a b pos) (tIxO C sp E ta tb) := by
  refine ⟨fun pins s σ H Q I h => ?_⟩
  refine Subscript_ (binT ha hb I h fun v u s2 x y H2 I2 rx ry q => ?_)
  obtain ⟨a, dx, fs, rfl, ea, q⟩ := q
  obtain rfl : v = Value.ref a := rx
  obtain ⟨mA, O, _⟩ := ins_get I2.hok ea
  obtain ⟨od, J, _⟩ := O.look
  obtain ⟨m0, Fm⟩ := I2.fr
  exact PySem.W.sub_K Fm I2.ok.mod.kin J o.at_ o.fi o.fn (run_in1 (us := [.ref a, u]) (vs := [.ref a, y]) F hr hx I2 (.cons rfl (.cons ry .nil)) q) (hs _ _)
def rLenO (C : Addr) (sp : Sp) (E : XK) : List V → Hp → VK → Prop := fun xs H Q => ∃ a dx fs, xs = [.ref a] ∧ H a = some (.ins C dx fs) ∧ sp [.ref a] H (fun v H' => ∃ n : Nat, v = .int n ∧ n < 1000 ∧ Q (.int n) H') E
theorem call_lenO (o : OwnM X.K C "__len__" f) (F : FnR X.prog X.w X.K X.mg X.base CX k f sp) (hr : Room (k + 1) X.A) (hx : Passes CX X E) : CallR X (.builtin "len") (rLenO C sp E) := by
  intro pins s σ H xs us Q I r h
  obtain ⟨a, dx, fs, rfl, ea, q⟩ := h
  obtain ⟨u, rfl, ru⟩ := vals1 r
  obtain rfl : u = Value.ref a := ru
  obtain ⟨mA, O, _⟩ := ins_get I.hok ea
  obtain ⟨od, J, _⟩ := O.look
  obtain ⟨m0, Fm⟩ := I.fr
  refine PySem.W.len_K Fm I.ok.mod.kin J o.at_ o.fn (thn (run_in1 (us := [.ref a]) (vs := [.ref a]) F hr hx I (.cons rfl .nil) q) fun u s' hq => ?_)
  obtain ⟨z, H', I', rz, n, rfl, hn, qz⟩ := hq
  obtain ⟨t, rfl⟩ := rz
  refine ⟨⟨by omega, by omega⟩, ?_⟩
  exact ⟨.int n, H', I'.tok _, ⟨_, rfl⟩, qz⟩
def rSetO (C : Addr) (sp : Sp) (E : XK) : TSet := fun o i v H Q => ∃ a dx fs, o = .ref a ∧ H a = some (.ins C dx fs) ∧ sp [.ref a, i, v] H (fun _ H' => Q H') E
theorem set_own (o : OwnM X.K C "__setitem__" f) (F : FnR X.prog X.w X.K X.mg X.base CX k f sp) (hr : Room k X.A) (hx : Passes CX X E) : PSet X (rSetO C sp E) := by
  intro pins s σ H ov i v ou iu u Q I ro ri rv h
  obtain ⟨a, dx, fs, rfl, ea, q⟩ := h
  obtain rfl : ou = Value.ref a := ro
  obtain ⟨mA, O, _⟩ := ins_get I.hok ea
  obtain ⟨od, J, _⟩ := O.look
  obtain ⟨m0, Fm⟩ := I.fr
  refine PySem.W.ksp_setItem Fm I.ok.mod.kin J o.nq o.at_ o.fn (thn (wpAny_call (run_fnR (us := [.ref a, iu, u]) (vs := [.ref a, i, v]) F hr hx I (.cons rfl (.cons ri (.cons rv .nil))) q)) fun w s' hq => ?_)
  obtain ⟨z, H', I', rz, qz⟩ := hq
  exact ⟨H', I', qz⟩
end

/-! ### the rules that name K, for blocks of comprehensions (whose K is K) -/
section
variable {X : Cx} {K : PySem.W.Frag}
theorem ix_listK (e : X.K = K) : IxR X (rIxL K) := e ▸ ix_list
theorem ix_tupK (e : X.K = K) : IxR X (rIxT K) := e ▸ ix_tup
theorem sl_listK (e : X.K = K) : SlR X (rSlL K) := e ▸ sl_list
theorem sl_tupK (e : X.K = K) : SlR X (rSlT K) := e ▸ sl_tup
theorem op_catTK (e : X.K = K) : OpR X (binaryOp .Add) (rCatT K) := e ▸ op_catT
theorem op_in_seqK (e : X.K = K) : OpR X (compareOp .In) (rIn K false) := e ▸ op_in_seq
theorem op_notIn_seqK (e : X.K = K) : OpR X (compareOp .NotIn) (rIn K true) := e ▸ op_notIn_seq
theorem op_eqDK (e : X.K = K) (hu : X.A.units + 64 < cLine) : OpR X (compareOp .Eq) (rEqD K) := e ▸ op_eqD hu
theorem op_neDK (e : X.K = K) (hu : X.A.units + 64 < cLine) : OpR X (compareOp .NotEq) (rNeD K) := e ▸ op_neD hu
def rLn (K : PySem.W.Frag) : List V → Hp → VK → Prop := fun xs H Q => ∃ p ys, xs = [.ref p] ∧ (SqL K H p ys ∨ SqT K H p ys) ∧ Q (.int (List.length (α := V) ys : Nat)) H
theorem call_len_seqK (e : X.K = K) : CallR X (.builtin "len") (rLn K) := e ▸ call_len_seq
def rLo (K : PySem.W.Frag) : List V → Hp → VK → Prop := fun xs H Q => ∃ p ys, xs = [.ref p] ∧ (SqL K H p ys ∨ SqT K H p ys) ∧ ∀ l, H l = none → Q (.ref l) (upd H l (.lst ys))
theorem call_list_ofK (e : X.K = K) : CallR X (.type "list") (rLo K) := e ▸ call_list_of
theorem call_isiK' (e : X.K = K) : CallR X (.builtin "isinstance") (rIsi K) := e ▸ call_isi
theorem pe_fldK {e : Expr} {f : Str} {ta : TE} {pos : Pos} (ek : X.K = K) (he : PE X e ta) (hb : attributeBase e f X.env (eval e X.env) = eval e X.env) : PE X (.Attribute e f pos) (tFld K ta f) := ek ▸ pe_fld he hb
theorem pi_listK {l tg : Expr} {tl : TE} (e : X.K = K) (hl : PE X l tl) : PI X tg l (iList K tl) := e ▸ pi_list hl
theorem pi_tupK {l tg : Expr} {tl : TE} (e : X.K = K) (hl : PE X l tl) : PI X tg l (iTup K tl) := e ▸ pi_tup hl
end
end Hue

set_option Elab.async false
set_option linter.all false
set_option maxRecDepth 100000
set_option maxHeartbeats 4000000
/-! try .. except X as e: suite, where e is tracked as a value; defs called in such a suite; isinstance of such a value. -/
namespace Hue
open PySem PySem.Spec PyProof.Rows L2

/-- a caught error of the class cls at a, its own dict at d -/
def Exn (cls : Value) (d : Option Addr) (a : Addr) : HO := .ext fun h => ∃ (oe : Obj) (vs : Array Value), h.get? a = some oe ∧ Zc cls d oe ∧ oe.data = .fields vs
theorem exn_ok {P : Program} {w : World} {H : Hp} {h : Heap} {a : Addr} {cls : Value} {d : Option Addr} {oe : Obj} {vs : Array Value} (e : h.get? a = some oe) (z : Zc cls d oe) (q : oe.data = .fields vs) : ObjOk P w H h a (Exn cls d a) :=
  ⟨⟨oe, vs, e, z, q⟩, ⟨oe, e⟩, fun _ _ ⟨o, v, q, r⟩ k => ⟨o, v, k o q, r⟩⟩
section
variable {X : Cx} {pins : List (Addr × Obj)} {σ : L2.St} {H : Hp} {sI s s' : Shared} {B : Heap} {a : Addr}
theorem landedX {cls : Value} {d : Option Addr} {oe : Obj} {vs : Array Value} (I : Inv X pins σ H sI) (nb : ∀ b o, sI.heap.get? b = some o → b ∉ frs X.stack → B.get? b = some o) (st : B.StaysIn s'.heap) (up : sI.heap.UpToSlots s'.heap) (os : s'.os = sI.os) (ag : AllBare s'.gens)
    (hne : sI.heap.get? a = none) (na : H a = none) (e : s'.heap.get? a = some oe) (z : Zc cls d oe) (q : oe.data = .fields vs) : Inv X pins σ (upd H a (Exn cls d a)) s' := by
  have nf : ∀ b ∈ frs X.stack, ∀ o, sI.heap.get? b = some o → ∃ sl, s'.heap.get? b = some { o with slots := sl } := fun b hb o e => by
    obtain ⟨_, o', e', hd⟩ := I.stack.mem hb
    rw [e] at e'; cases e'
    exact up b o e hd
  have ne : ∀ b o, sI.heap.get? b = some o → b ≠ a := fun b o e z => by rw [z, hne] at e; cases e
  have hokS : HOk X.prog X.w H s'.heap := (I.inGround nb).kept st
  have J := I.call (ch := []) (h' := s'.heap) (g' := s'.gens) (t' := s'.toks) (d' := s'.drawn) (H' := upd H a (Exn cls d a))
    ⟨fun b o e _ hb _ => st b o (nb b o e hb), fun b o e _ hb _ => nf b hb o e, fun b o e n _ => by rw [upd_ne (ne b o e)]; exact n, fun b o e _ => by
      by_cases hb : b ∈ frs X.stack
      · obtain ⟨sl, q⟩ := nf b hb o e
        exact ⟨_, q⟩
      · exact ⟨o, st b o (nb b o e hb)⟩, fun b xs e => by rw [upd_ne (ne_of_none e na)]; exact e, fun b o u e => by rw [upd_ne (ne_of_none e na)]; exact e, fun b ps e => ⟨#[], by rw [upd_ne (ne_of_none e na), e]; simp⟩⟩
    (HOk.laidN hokS (fun _ _ z => z) na (exn_ok e z q)) ag (fun _ z => nomatch z)
  obtain ⟨a1, a2, a3, a4, a5⟩ := s'
  have e5 : a5 = sI.os := os
  subst e5
  exact J
theorem toSuite (I : Inv X pins σ H s) (a : Addr) : Inv (X.suite a (X.pn ++ pins)) [] σ H s :=
  ⟨I.ok.suite _ _, I.os, I.bare, I.base, I.loc, I.cell, I.free, I.freeC, fun p hp => I.pin p (by rw [List.append_nil] at hp; exact hp), I.hok, I.len⟩
theorem ofSuite {pn' : List (Addr × Obj)} (I : Inv (X.suite a (X.pn ++ pins)) pn' σ H s) (ok : X.Ok) : Inv X pins σ H s :=
  ⟨ok, I.os, I.bare, I.base, I.loc, I.cell, I.free, I.freeC, fun p hp => I.pin p (List.mem_append_left _ hp), I.hok, I.len⟩
end
/-- what the clause 'except x as n' wishes of an exception of the body -/
def wTry (K : PySem.W.Frag) (c : Value) (i : Nat) (ts : TS) (Wout : WX) (D : Ends) : WX := fun cls d σ H =>
  ∃ b, PySem.W.exmOne K cls c = some b ∧ (b = true → ∀ a, H a = none → ts { nx := fun σ' H' => D.nx (σ'.set i none) H', rt := D.rt, bk := fun σ' H' => D.bk (σ'.set i none) H', ct := fun σ' H' => D.ct (σ'.set i none) H' } (σ.set i (some (.ref a))) (upd H a (Exn cls d a))) ∧
    (b = false → Wout cls d σ H)
section
variable {X : Cx} {x n : Str} {c : Value} {i : Nat} {body suite : List Stmt} {b₀ : Stmt} {np pos pos' : Pos} {tb : WX → TS} {ts : TS} {Wout : WX}
theorem ps_try_val (hs : X.stack = X.env :: X.outer) (hf : X.env.frame = some X.env.locals) (hN : X.N.Nodup) (hi : X.N[i]? = some n) (hln : X.env.kindOf n = some .local) (hc : Names X x c) (tk : Takes X Wout)
    (hb : ∀ (W : WX) (pn : List (Addr × Obj)) (xe : Value → Shared → Prop), Takes (X.tr pn xe) W → PassesOwn (model X.prog X.w) X.A X.env xe → PSs (X.tr pn xe) body (tb W))
    (hsu : ∀ (a : Addr) (pn : List (Addr × Obj)), PSs (X.suite a pn) (b₀ :: suite) ts) :
    PS X (.Try body [.ExceptHandler (some (.Name x np)) (some n) (b₀ :: suite) pos'] [] [] pos) (fun D σ H => tb (wTry X.K c i ts Wout D) D σ H) := by
  refine ⟨fun pins s σ H D I h => ?_⟩
  have ok := I.ok
  have hfr : X.A.frames = some (X.env :: X.outer) := by rw [ok.frames, hs]
  have hloc : Loc X.env.scope n := .inl hln
  refine wpAny_Try_except ?_
  refine wpAny_mono ((hb (wTry X.K c i ts Wout D) (X.pn ++ pins) (fun e s₁ => wpAny (model X.prog X.w) X.A (noteFrame e X.env) (fun _ s₂ => wpAny (model X.prog X.w) X.A (setFlight e none) (fun _ s₃ =>
    wpAny (model X.prog X.w) X.A (handleBy e X.env [.ExceptHandler (some (.Name x np)) (some n) (b₀ :: suite) pos']) (SP X pins D) X.xe s₃) X.xe s₂) X.xe s₁) (fun u s' xx => ?_) PassesOwn.looking).run [] s σ H D (I.toTry _) h) (fun f s1 hsp => ?_) (fun e s1 he => he)
  · obtain ⟨a, B, sI, pins', σ', H', cls, d, rfl, J', nb, up, sky, na, os, ag, b, hb1, hyes, hno⟩ := xx
    have J : Inv X pins σ' H' sI := J'.ofTry ok
    have sky' : Sky B (X.env :: X.outer) a (Zc cls d) X.env.locals s'.heap := by rw [← hs]; exact sky
    show wpAny (model X.prog X.w) X.A (noteFrame (.ref a) X.env) _ _ _
    refine Sky.land Zc.steady hfr hf sky' fun h3 fl3 up3 => ?_
    have J3 : Inv X pins σ' H' { s' with heap := h3 } := J.landed nb fl3.1 (up.trans up3) os ag
    obtain ⟨oe3, vs3, he3, hz3, hd3⟩ := fl3.there
    have notFr : ∀ {h : Heap} {o : Obj} {vs : Array Value}, h.FunFrames B (X.env :: X.outer) → h.get? a = some o → o.data = .fields vs → a ∉ frs (X.env :: X.outer) := fun {h o vs} ff e dd hm => by
      obtain ⟨_, o', e', hnf⟩ := ff.mem hm
      rw [e] at e'; cases e'
      exact hnf _ dd
    have nfr := notFr fl3.2.2.1 he3 hd3
    have nI : sI.heap.get? a = none := by
      cases q : sI.heap.get? a with
      | none => rfl
      | some o =>
        have z := nb a o q (by rw [hs]; exact nfr)
        rw [fl3.2.1] at z
        cases z
    have S3 := toSuite J3 a
    refine wpAny_handleBy_cons (codeAny_handlers_test ?_) (by intro q; cases q)
    have LT : PySem.W.Looks (model X.prog X.w) h3 (typeOf (.ref a)) cls := fun A Q E s k q => wpAny_typeOf_ref (k _ _ he3) (by rw [hz3.1]; exact q)
    have LM := PySem.W.exm_one (M := model X.prog X.w) (J3.kIn) LT hb1
    have test : ∀ {Q : Value → Shared → Prop} {E : Value → Shared → Prop}, Q c { s' with heap := h3 } → wpAny (model X.prog X.w) (X.A.mark (some (.ref a))) (eval (.Name x np) X.env) Q E { s' with heap := h3 } := fun {Q E} q => by
      obtain ⟨hg, hdbg, hm | ⟨hm, hv, hnn⟩⟩ := hc
      · exact ld_glob (X := X.suite a (X.pn ++ pins)) S3 hg hm q hdbg
      · exact ld_blt (X := X.suite a (X.pn ++ pins)) S3 hg hm hv q hnn hdbg
    refine test (LM.here ?_)
    cases b with
    | true =>
      refine codeAny_handlers_suite_as ?_
      refine HandSPX.lands_againZ fl3 fun h4 fl4 up4 => ?_
      obtain ⟨oe4, vs4, he4, hz4, hd4⟩ := fl4.there
      have J4 : Inv X pins σ' (upd H' a (Exn cls d a)) { s' with heap := h4 } := landedX J nb fl4.1 ((up.trans up3).trans up4) os ag nI na he4 hz4 hd4
      have S4 := toSuite J4 a
      refine store_ok (X := X.suite a (X.pn ++ pins)) (v := .ref a) S4 hN hi hloc rfl (fun s5 S5 => ?_) (.inr hln)
      refine wpAny_mono ((hsu a (X.pn ++ pins)).run [] s5 _ _ _ S5 (hyes rfl a na)) (fun f s6 hsp => ?_) (fun _ _ z => False.elim z)
      have end_ : ∀ {σ6 : L2.St} {H6 : Hp} {Q : Shared → Prop}, Inv (X.suite a (X.pn ++ pins)) [] σ6 H6 s6 → (∀ s7, Inv X pins (σ6.set i none) H6 s7 → Q s7) →
          wpAny (model X.prog X.w) X.A (do bindName X.env n .none; unbindBehindTheSuite X.env n pos') (fun _ s7 => Q s7) X.xe s6 := fun {σ6 H6 Q} S6 hq => gone_ok (ofSuite S6 ok) hN hi hln hq
      cases f with
      | next =>
        obtain ⟨σ6, H6, S6, q6⟩ := hsp
        exact end_ S6 fun s7 J7 => ⟨_, _, J7, q6⟩
      | brk =>
        obtain ⟨σ6, H6, S6, q6⟩ := hsp
        exact end_ S6 fun s7 J7 => ⟨_, _, J7, q6⟩
      | cont =>
        obtain ⟨σ6, H6, S6, q6⟩ := hsp
        exact end_ S6 fun s7 J7 => ⟨_, _, J7, q6⟩
      | ret u =>
        obtain ⟨v6, σ6, H6, S6, r6, q6⟩ := hsp
        exact end_ S6 fun s7 J7 => ⟨_, _, _, J7, r6, q6⟩
    | false =>
      show wpAny _ X.A (handleBy (.ref a) X.env []) _ _ _
      refine wpAny_handleBy_nil ?_
      obtain ⟨k1, k2, k3, oe, vs, T, oT, ts', he, hz, hd, h1, hr⟩ := id fl3
      unfold PySem.passOn
      refine wpAny_bind (wpAny_field he hd h1 ?_)
      rw [if_neg (show ¬ ((Value.ref T == Value.none) = true) from by simp)]
      have fin : wpAny (model X.prog X.w) X.A (setFlight (.ref a) X.env.frame) (fun _ s4 => wpAny (model X.prog X.w) X.A (throw (.ref a) : Sem Flow) (SP X pins D) X.xe s4) X.xe { s' with heap := h3 } := by
        rw [hf]
        refine HandSPX.setFlight_upZ fl3 fun h4 hh4 up4 => wpAny_throw (tk _ _ ?_)
        exact ⟨a, B, sI, pins, σ', H', cls, d, rfl, J, nb, (up.trans up3).trans up4, .inr (.inr (by rw [hs]; exact hh4)), na, os, ag, hno rfl⟩
      first
        | exact wpAny_bind (wpAny_pure (wpAny_bind fin))
        | exact wpAny_bind fin
  · cases f with
    | next =>
      obtain ⟨σ', H', J', q⟩ := hsp
      exact wpAny_execs_nil ⟨σ', H', J'.ofTry ok, q⟩
    | brk =>
      obtain ⟨σ', H', J', q⟩ := hsp
      exact ⟨σ', H', J'.ofTry ok, q⟩
    | cont =>
      obtain ⟨σ', H', J', q⟩ := hsp
      exact ⟨σ', H', J'.ofTry ok, q⟩
    | ret u =>
      obtain ⟨v, σ', H', J', r, q⟩ := hsp
      exact ⟨v, σ', H', J'.ofTry ok, r, q⟩
end
/-- no exception leaves: nothing is asked of Wout -/
theorem takes0 {X : Cx} : Takes X (fun _ _ _ _ => False) := fun _ _ ⟨_, _, _, _, _, _, _, _, _, _, _, _, _, _, _, _, w⟩ => w.elim
/-- a call in a try's body: what it may let out is wished of all slots -/
def eT (n : Nat) (W : WX) : XK := fun cls d H => ∀ σ : L2.St, σ.length = n → W cls d σ H
theorem passT {X : Cx} {W : WX} {N : List Str} (tk : Takes X W) (hN : X.N = N) : Passes (L2.CX X.prog X.w) X (eT N.length W) :=
  fun _ σ _ _ e s' I c => tk e s' (XE.of_call I (fun _ _ _ h => h σ (by rw [← hN]; exact I.len)) c)

/-! ### defs called in an except suite -/
def cxS (P : Program) (w : World) (K : PySem.W.Frag) (mg : Str → Option Value) (base : Heap) (N : List Str) (qual : Str) (scope : Scope) (f : Addr) (cd : Value) (A : Around) (outer : List Env) (s : Shared) (H : Hp) (E : XK) : Cx :=
  { cxOf CX0 P w K mg base N qual scope f cd A outer s H E with calm := false, xe := fun _ _ => False }
structure FnS (P : Program) (w : World) (K : PySem.W.Frag) (mg : Str → Option Value) (base : Heap) (k : Nat) (f : Addr) (fd : FuncData) (ps : List Str) (sp : Sp) : Prop where
  len : ∀ vs H Q E, sp vs H Q E → vs.length = ps.length
  run : ∀ (A : Around) (outer : List Env) (s : Shared) (H : Hp) (args : Args) (us : List Value) (vs : List V) (Q : VK) (E : XK), L2H.RoomH k A → Env0 P w K mg base A outer s H → BindsTo s fd args (ps.zip us) → Vals vs us → sp vs H Q E →
    codeAny (model P w) A (.call (.ref f) args) (CR CX0 outer P w H s Q E) s
theorem roomS {k : Nat} {A : Around} {v : Option Value} (r : Room k A) : L2H.RoomH k (A.mark v) := ⟨r.dp, r.un⟩
theorem inv_startS {P : Program} {w : World} {K : PySem.W.Frag} {mg : Str → Option Value} {base : Heap} {N ps : List Str} {qual : Str} {scope : Scope} {f : Addr} {cd : Value} {A : Around} {outer : List Env} {s s1 : Shared} {H : Hp} {E : XK} {us : List Value} {vs : List V}
    (S : FnScope N ps scope) (e0 : Env0 P w K mg base A outer s H) (hl : vs.length = ps.length) (r : Vals vs us)
    (x : InCallC s s.heap.objs.size (bindL (envOfC qual scope s.heap.objs.size f cd).kindOf (ps.zip us) fun _ => none) (cellsFrom (s.heap.objs.size + 1) scope.names []) (bindC (envOfC qual scope s.heap.objs.size f cd).kindOf (ps.zip us) fun _ => none) s1) :
    Inv (cxS P w K mg base N qual scope f cd A outer s H E) [] (L2.start N vs) H s1 := by
  have hpl : ps.length ≤ N.length := by have := congrArg List.length S.pre; rw [List.length_take] at this; omega
  obtain ⟨h1, tk, rfl, hk⟩ := x.done
  have noA : ∀ b : Addr, b ∉ (cxS P w K mg base N qual scope f cd A outer s H E).ex := fun b z => absurd (show b ∈ ([] : List Addr) from z) (by simp)
  refine ⟨⟨e0.mod, S.kind, rfl, rfl, Nat.le_refl _, fun y z c h1 h2 => ?_, fun y hy => ?_, fun y c _ h => ?_, (fun z => Bool.noConfusion (show false = true from z)), Around.frames_deeper e0.frames, .inr ⟨rfl, rfl⟩, fun b z => absurd z (noA b), e0.bs, e0.bsz, fun b _ _ => noA b, fun b z => absurd z (noA b), e0.funs, e0.frf⟩,
    rfl, e0.bare, Un.kept hk, ⟨_, x.toInCall.ns, fun i y v h1 h2 h3 => ?_⟩, fun y c h => ⟨_, x.cell y c h⟩, e0.hok.fresh (Nat.le_refl _), fun y c h => ?_, fun q hq => ?_, e0.hok.kept hk, ?_⟩
  · exact name_of_addr x.apart (PySem.mem_of_lookup h1) (PySem.mem_of_lookup h2)
  · have hy : scope.names.lookup y = some .cell ∨ scope.names.lookup y = some .free := hy
    rcases hy with hy | hy
    · exact cell_has hy
    · exact absurd rfl (S.nofree _ (PySem.mem_of_lookup hy))
  · exact Nat.le_of_lt (x.above y c (PySem.mem_of_lookup h))
  · have hi : i < vs.length := by
      unfold L2.start at h2
      by_cases hi : i < vs.length
      · exact hi
      · rw [List.getElem?_append_right (by simpa using hi)] at h2
        rw [List.getElem?_replicate] at h2
        split at h2 <;> cases h2
    have ha : vs[i]? = some v := by
      unfold L2.start at h2
      rw [List.getElem?_append_left (by simpa using hi), List.getElem?_map] at h2
      cases e : vs[i]? with
      | none => rw [e] at h2; cases h2
      | some a => rw [e] at h2; cases h2; rfl
    obtain ⟨u, hu, rv⟩ := r.get ha
    have hp : ps[i]? = some y := by
      rw [← S.pre, List.getElem?_take_of_lt (by omega)]; exact h1
    have ndP : ps.Nodup := by rw [← S.pre]; exact S.nd.sublist (List.take_sublist _ _)
    refine ⟨u, rv, ?_⟩
    rcases S.par y (List.mem_of_getElem? hp) with k | k
    · exact .inl ⟨k, bindL_get ndP hp hu k⟩
    · obtain ⟨c, e⟩ := cell_has (n := s.heap.objs.size + 1) k
      refine .inr ⟨.inl k, c, e, ?_⟩
      have q := x.cell y c e
      rw [bindC_get ndP hp hu (by show scope.names.lookup y ≠ _; rw [k]; decide)] at q
      exact q
  · exact e0.hok.fresh (Nat.le_of_lt (x.above y c (PySem.mem_of_lookup h)))
  · exact absurd (show q ∈ ([] : List (Addr × Obj)) ++ ([] : List (Addr × Obj)) from hq) (by simp)
  · unfold L2.start
    show _ = N.length
    rw [List.length_append, List.length_map, List.length_replicate]
    omega
theorem fnS_of {P : Program} {w : World} {K : PySem.W.Frag} {mg : Str → Option Value} {base : Heap} {k : Nat} {f : Addr} {fd : FuncData} {name qual : Str} {params : Arguments} {body : List Stmt} {scope : Scope} {dvs : List V} {kws : List (Str × V)}
    {N ps : List Str} {sp : Sp} (F : FunD K name qual params body scope dvs kws f fd) (S : FnScope N ps scope)
    (len : ∀ vs H Q E, sp vs H Q E → vs.length = ps.length)
    (hbody : ∀ (cdv : Value) (A : Around) (outer : List Env) (s : Shared) (H : Hp) (vs : List V) (Q : VK) (E : XK), L2H.RoomH k (A.deeper (envOfC qual scope s.heap.objs.size f cdv)) → sp vs H Q E →
      ∃ t, PSs (cxS P w K mg base N qual scope f cdv A outer s H E) body t ∧ t { nx := fun _ H' => Q .non H', rt := Q } (L2.start N vs) H) :
    FnS P w K mg base (k + 1) f fd ps sp := by
  obtain ⟨oc, od, dV, kV, doc, pm, an, cdv, ct, osl, rfl, lk, hcd, _, _⟩ := F.ex
  refine ⟨len, fun A outer s H args us vs Q E hr e0 hb r hsp => ?_⟩
  have hl := len _ _ _ _ hsp
  have KX : K.In s.heap := e0.mod.kin.keeps fun b o e => (e0.bs b o e).1
  have lim : s.heap.NoLimit := e0.mod.nolimit.keeps fun b o e => (e0.bs b o e).1
  have hkind : ∀ y ∈ ps.zip us, scope.names.lookup y.1 = some .local ∨ (scope.names.lookup y.1 = some .cell ∧ ((cellsFrom (s.heap.objs.size + 1) scope.names []).lookup y.1).isSome = true) := fun ⟨n, v⟩ hy => by
    rcases S.par n (List.of_mem_zip hy).1 with q | q
    · exact .inl q
    · exact .inr ⟨q, PySem.W.cellsFrom_some _ _ _ (.inl q)⟩
  refine codeAny_call_function hr.depth (KX _ _ lk) rfl S.co S.gen rfl (PySem.W.codeRec_of KX hcd) (hb _ _ _ _ ?_)
  refine wpAny_newFunctionEnv_cells S.kind hkind fun env he s1 x => ?_
  subst he
  refine ⟨lim.keeps x.toInCall.keep, codeAny_func ?_⟩
  obtain ⟨t, ht, hq⟩ := hbody cdv A outer s H vs Q E (hr.deeper _) hsp
  have I : Inv (cxS P w K mg base N qual scope f cdv A outer s H E) [] (L2.start N vs) H s1 := inv_startS S e0 hl r x
  refine wpAny_mono (ht.run [] s1 (L2.start N vs) H _ I hq) (fun fl s' hs => ?_) fun e s' hs => False.elim hs
  have fin : ∀ {σ' : L2.St} {H' : Hp} {v : V} {u : Value}, Inv (cxS P w K mg base N qual scope f cdv A outer s H E) [] σ' H' s' → RelV v u → Q v H' → CE outer P w H s Q u s' :=
    fun {σ' H' v u} J rv q => ⟨v, H', J.os, J.bare, J.base, J.hok, rv, q⟩
  cases fl with
  | ret u =>
    obtain ⟨v, σ', H', J, rv, q⟩ := hs
    exact fin J rv q
  | next =>
    obtain ⟨σ', H', J, q⟩ := hs
    exact fin (v := V.non) (u := Value.none) J rfl q
  | brk =>
    obtain ⟨_, _, _, q⟩ := hs
    exact False.elim q
  | cont =>
    obtain ⟨_, _, _, q⟩ := hs
    exact False.elim q
section
variable {X : Cx} {k : Nat} {f C : Addr} {fd : FuncData} {ps : List Str} {sp : Sp} {E : XK} {x m : Str} {q pos apos : Pos} {e o : Expr} {es : List Expr} {ta : TE} {t : TA}
theorem run_fnX {pins : List (Addr × Obj)} {σ : L2.St} {H : Hp} {s : Shared} {Q : VK} {us : List Value} {vs : List V} (F : FnS X.prog X.w X.K X.mg X.base k f fd ps sp) (hr : L2H.RoomH k X.A) (hb : Binds X.K fd ps [])
    (I : Inv X pins σ H s) (r : Vals vs us) (h : sp vs H Q E) : wpAny (model X.prog X.w) X.A (call (.ref f) us) (EP X pins σ Q) X.xe s := by
  have hl : us.length = ps.length := by rw [← r.length]; exact F.len _ _ _ _ h
  have b := hb s us I.kIn (by rw [List.append_nil]; exact hl)
  rw [List.append_nil] at b
  refine wpAny_call (codeAny_mono (F.run X.A X.stack s H ⟨us, []⟩ us vs Q E hr I.env0 b r h) fun r s' hq => ?_)
  cases r with
  | error e => exact hq.elim
  | ok fl =>
    cases fl with
    | ret u => exact I.after hq
    | next => exact False.elim hq
    | brk => exact False.elim hq
    | cont => exact False.elim hq
theorem pe_callX (F : FnS X.prog X.w X.K X.mg X.base k f fd ps sp) (hr : L2H.RoomH k X.A) (hg : Gl X x) (hm : X.mg x = some (.ref f)) (hk : PySem.W.keepIn X.K (.ref f) = true) (hb : Binds X.K fd ps [])
    (ha : PA X (e :: es) t) (hdb : (x == ("__debug__" : Str)) = false := by decide) (he : starEach (e :: es) X.env = (false, eval e X.env) :: starEach es X.env := by rfl) (hpl : (backTo pos (starEach es X.env)).any (·.1) = false := by rfl) :
    PE X (.Call (.Name x q) (e :: es) [] pos) (fun σ H Q => t σ H fun vs H1 => sp vs H1 Q E0) := by
  refine ⟨fun pins s σ H Q I h => ?_⟩
  refine wpAny_Call_Name_kw (ld_glob I hg hm ?_ hdb)
  refine PySem.W.callWith_K (h₀ := X.base) I.ok.mod.kin hk (thn (ha.run pos pins s σ H _ I h) fun us s1 ⟨vs, H1, I1, r, q⟩ => ⟨I1.kIn, ?_⟩) he hpl
  exact run_fnX F hr hb I1 r q
end

/-! ### isinstance of a caught error -/
/-- isinstance(e, c) -/
def rIsX (K : PySem.W.Frag) (D : Addr) : List V → Hp → VK → Prop := fun xs H Q => ∃ (a : Addr) (c : V) (u : Value) (b : Bool), xs = [.ref a, c] ∧ H a = some (Exn (.ref D) none a) ∧ ClsV c u ∧ PySem.W.kitOne K (.ref D) u = some b ∧ Q (.bl b) H
def rIsXT (K : PySem.W.Frag) (D : Addr) : List V → Hp → VK → Prop := fun xs H Q => ∃ (a tp : Addr) (cs : List V) (us : List Value) (b : Bool), xs = [.ref a, .ref tp] ∧ H a = some (Exn (.ref D) none a) ∧ H tp = some (.tup cs) ∧ Paired ClsV cs us ∧ PySem.W.kitAny K (.ref D) us = some b ∧ Q (.bl b) H
section
variable {X : Cx} {D : Addr} {pins : List (Addr × Obj)} {σ : L2.St} {H : Hp} {s : Shared}
theorem exn_at {a : Addr} {cls : Value} {d : Option Addr} (I : Inv X pins σ H s) (h : H a = some (Exn cls d a)) : ∃ (oe : Obj) (vs : Array Value), s.heap.get? a = some oe ∧ Zc cls d oe ∧ oe.data = .fields vs := (I.hok a _ h).1
theorem exn_inst {a : Addr} (I : Inv X pins σ H s) (h : H a = some (Exn (.ref D) none a)) : ∃ oe, PySem.W.InstAt s.heap a oe D none := by
  obtain ⟨oe, vs, hget, hz, hv⟩ := exn_at I h
  refine ⟨oe, ?_⟩
  obtain ⟨oc, od, oda, osl⟩ := oe
  obtain ⟨h1, h2⟩ := hz
  dsimp only at h1 h2 hv
  subst h1 h2 hv
  exact ⟨hget, rfl, rfl, trivial⟩
theorem call_isX (C : ExcC X.K D) : CallR X (.builtin "isinstance") (rIsX X.K D) := by
  intro pins s σ H xs us Q I r h
  obtain ⟨a, c, u, b, rfl, ha, hcv, e, q⟩ := h
  obtain ⟨u1, u2, rfl, r1, r2⟩ := vals2 r
  obtain rfl : u1 = Value.ref a := r1
  have ec := hcv.eq r2
  subst ec
  obtain ⟨oe, J⟩ := exn_inst I ha
  exact PySem.W.kia_one (PySem.W.handS_kitx_exc C.hg C.hk C.hs C.hd C.ha C.hn C.ht C.hm) I.kIn J e (fun z => nomatch z) fun tk => ⟨.bl b, H, I.tok tk, rfl, q⟩
theorem call_isXT (C : ExcC X.K D) : CallR X (.builtin "isinstance") (rIsXT X.K D) := by
  intro pins s σ H xs us Q I r h
  obtain ⟨a, tp, cs, ws, b, rfl, ha, hT, k, e, q⟩ := h
  obtain ⟨u1, u2, rfl, r1, r2⟩ := vals2 r
  obtain rfl : u1 = Value.ref a := r1
  cases (show u2 = Value.ref tp from r2)
  obtain ⟨oe, J⟩ := exn_inst I ha
  obtain ⟨_, its, rv, o, h1, h2, n, h3⟩ := (show ObjOk X.prog X.w H s.heap tp (.tup cs) from I.hok tp _ hT)
  have e3 := ClsV.all k rv
  subst e3
  obtain ⟨oc, od, dt, sl⟩ := o
  simp only at h2 h3
  subst h2 h3
  exact PySem.W.kia_tup (PySem.W.handS_kitx_exc C.hg C.hk C.hs C.hd C.ha C.hn C.ht C.hm) I.kIn J h1 e (fun z => nomatch z) fun tk => ⟨.bl b, H, I.tok tk, rfl, q⟩
end
/-! ### own == and its reflection; str(o) -/
section
variable {prog : Program} {w : World} {A : Around} {E : Value → Shared → Prop} {s : Shared} {K : PySem.W.Frag} {y C f : Addr} {oy : Obj} {od : Option Obj} {h₀ : Heap} {L : Addr} {m : Str → Option Value} {x : Value}
theorem decl_none {Q : Value → Shared → Prop} (h : Q .notImplemented s) : wpAny (model prog w) A (call (.builtin "NoneType.__eq__") [.none, .ref y]) Q E s :=
  call_gives F.slot_NoneType_eq_refl rfl F.entry_NoneType_eq (F.args_NoneType_eq_2 _ _) (PySem.SeqAt.NoneType___eq___none_ref_0 y) h
theorem decl_str {z : Str} {t : Tok} {Q : Value → Shared → Prop} (hg : s.heap.get? y = some oy) (hp : oy.data = .plain) (h : Q .notImplemented s) : wpAny (model prog w) A (call (.builtin "str.__eq__") [.str z t, .ref y]) Q E s := by
  refine GQ.call_here F.slot_str_eq (typeIs_str s z t) F.entry_str_eq (F.args_str_eq_2 _ _) ?_
  obtain ⟨c, d, dt, sl⟩ := oy
  dsimp only at hp
  subst hp
  obtain ⟨hp, g, d, tk, os⟩ := s
  wp_walk
  exact h
theorem decl_tup {l : Addr} {Q : Value → Shared → Prop} (hT : s.TypeIs (.ref l) "tuple") (X : K.In s.heap) (I : PySem.W.InstAt s.heap y oy C od) (hs : PySem.W.subIn K (.ref C) (.type "tuple") = some false) (h : Q .notImplemented s) :
    wpAny (model prog w) A (call (.builtin "tuple.__eq__") [.ref l, .ref y]) Q E s := by
  refine GQ.call_here F.slot_tuple_eq hT F.entry_tuple_eq (F.args_tuple_eq_2 _ _) ?_
  have LI : PySem.W.Looks (model prog w) s.heap (isInstance (.ref y) (.type "tuple")) false := I.type.andThen (PySem.W.looks_subIn X hs)
  obtain ⟨hp, g, d, tk, os⟩ := s
  wp_walk using LI.here
  exact h
theorem decl_lst {l : Addr} {Q : Value → Shared → Prop} (hT : s.TypeIs (.ref l) "list") (X : K.In s.heap) (I : PySem.W.InstAt s.heap y oy C od) (hs : PySem.W.subIn K (.ref C) (.type "list") = some false) (h : Q .notImplemented s) :
    wpAny (model prog w) A (call (.builtin "list.__eq__") [.ref l, .ref y]) Q E s := by
  refine GQ.call_here F.slot_list_eq hT F.entry_list_eq (F.args_list_eq_2 _ _) ?_
  have LI : PySem.W.Looks (model prog w) s.heap (isInstance (.ref y) (.type "list")) false := I.type.andThen (PySem.W.looks_subIn X hs)
  obtain ⟨hp, g, d, tk, os⟩ := s
  wp_walk using LI.here
  exact h
theorem rc_refl {T id : String} {Q : Value → Shared → Prop} (hu : A.units < cLine) (Fm : PyProof.Rows.Fr h₀ L s.heap m) (X₀ : K.In h₀) (I : PySem.W.InstAt s.heap y oy C od) (hT : s.TypeIs x T) (slot : Slot T "__eq__" id)
    (hd : ∀ Q : Value → Shared → Prop, Q .notImplemented s → wpAny (model prog w) A (call (.builtin id) [x, .ref y]) Q E s) (hsub : PySem.W.subIn K (.ref C) (.type T) = some false)
    (hs : PySem.W.findIn K (.ref C) "__eq__" = some (some (.ref f))) (hf : PySem.W.isFn K (.ref f) = true)
    (h : wpAny (model prog w) A (call (.ref f) [.ref y, x]) (PySem.W.CmpBack Q) E s) : wpAny (model prog w) A (richCompare .Eq x (.ref y)) Q E s := by
  have X := X₀.keeps Fm.keep
  have one : wpAny (model prog w) A (tryCompare x "__eq__" (.ref y)) (fun r s' => r = none ∧ s' = s) E s := wpAny_tryCompare_declines hT slot (hd _ ⟨rfl, rfl, rfl⟩)
  have two : wpAny (model prog w) A (tryCompare (.ref y) "__eq__" x) (fun r s' => ∃ v, r = some v ∧ Q v s') E s := by
    unfold tryCompare
    refine wpAny_bind (PySem.W.ifBound_K X I hs hf (wpAny_mono h (fun v s' hv => ?_) fun _ _ e => e))
    cases v <;> first | exact hv.elim | exact wpAny_pure ⟨_, rfl, hv⟩
  simp only [richCompare, cmpInfo_Eq, hT.oneThing_none]
  refine wpAny_holding (wpAny_bind (wpAny_cRoomFor hu ?_))
  refine wpAny_bind (wpAny_typeOf hT ?_)
  refine wpAny_bind (I.type.here ?_)
  split
  · refine wpAny_bind ((PySem.W.looks_subIn X hsub).here ?_)
    simp only [Bool.false_eq_true, if_false, Bool.not_false, if_true]
    refine wpAny_bind (m := tryCompare x _ (.ref y)) (wpAny_mono one (fun r s1 z => ?_) fun _ _ e => e)
    obtain ⟨z1, z2⟩ := z
    subst z1
    subst z2
    refine wpAny_bind (m := tryCompare (.ref y) _ x) (wpAny_mono two (fun r s2 z => ?_) fun _ _ e => e)
    obtain ⟨v, rfl, hq⟩ := z
    exact wpAny_pure hq
  · rename_i q
    exact absurd (by simp) q
end
theorem excC_ok {K : PySem.W.Frag} {D : Str} (c : (Fx.excC D).ok K = true) : ExcC K (gad D K) := by
  obtain ⟨c1, c⟩ := He.ba c
  obtain ⟨c2, c⟩ := He.ba c
  obtain ⟨c3, c⟩ := He.ba c
  obtain ⟨c4, c⟩ := He.ba c
  obtain ⟨c5, c⟩ := He.ba c
  obtain ⟨c6, c⟩ := He.ba c
  obtain ⟨c7, c8⟩ := He.ba c
  exact ⟨He.eqO_ok c1, He.eqO_ok c2, of_decide_eq_true c3, c4, He.eqO_ok c5, He.eqO_ok c6, of_decide_eq_true c7, of_decide_eq_true c8⟩
/-- o == y, o an own instance with an own ==, y no instance of a class below -/
def rEqO (K : PySem.W.Frag) (C : Addr) (sp : Sp) (E : XK) : R2 := fun x y H Q => ∃ a dx fs t, x = .ref a ∧ H a = some (.ins C dx fs) ∧ TyX K H y t ∧ PySem.W.notFirst K C t = true ∧ sp [x, y] H Q E
/-- x == o, x None, a text, a tuple or a list -/
def rEqR (K : PySem.W.Frag) (C : Addr) (sp : Sp) (E : XK) : R2 := fun x y H Q => ∃ a dx fs, y = .ref a ∧ H a = some (.ins C dx fs) ∧ (x = .non ∨ (∃ z, x = .str z) ∨ ∃ p xs, x = .ref p ∧ (SqT K H p xs ∨ SqL K H p xs)) ∧ sp [y, x] H Q E
def rStrO (C : Addr) (sp : Sp) (E : XK) : List V → Hp → VK → Prop := fun xs H Q => ∃ a dx fs, xs = [.ref a] ∧ H a = some (.ins C dx fs) ∧ sp [.ref a] H (fun v H' => ∃ z : Str, v = .str z ∧ Q (.str z) H') E
/-- the class at C has no base among None's, texts', tuples', lists' types -/
structure NoSubs (K : PySem.W.Frag) (C : Addr) : Prop where
  non : PySem.W.subIn K (.ref C) (.type "NoneType") = some false
  str : PySem.W.subIn K (.ref C) (.type "str") = some false
  tup : PySem.W.subIn K (.ref C) (.type "tuple") = some false
  lst : PySem.W.subIn K (.ref C) (.type "list") = some false
section
variable {X : Cx} {CX : CXT} {k : Nat} {C f : Addr} {sp : Sp} {E : XK}
theorem op_eqO (o : OwnM X.K C "__eq__" f) (F : FnR X.prog X.w X.K X.mg X.base CX k f sp) (hr : Room k X.A) (hx : Passes CX X E) : OpR X (compareOp .Eq) (rEqO X.K C sp E) := by
  intro pins s σ H x y v u Q I rx ry h
  obtain ⟨a, dx, fs, t, rfl, ea, ty, nf, q⟩ := h
  obtain rfl : v = Value.ref a := rx
  obtain ⟨mA, O, _⟩ := ins_get I.hok ea
  obtain ⟨od, J, _⟩ := O.look
  obtain ⟨m0, Fm⟩ := I.fr
  obtain ⟨P, Z, p, _⟩ := kit_of I ry ty
  show wpAny (model X.prog X.w) X.A (richCompare .Eq (.ref a) u) (EP X pins σ Q) X.xe s
  refine PySem.W.cmp_K (op := .Eq) (tb := t) hr.units0 Fm I.ok.mod.kin J (Z.ty _ _ I.kIn p) nf o.at_ o.fn ?_
  refine thn (wpAny_call (run_fnR (us := [.ref a, u]) (vs := [.ref a, y]) F hr hx I (.cons rfl (.cons ry .nil)) q)) fun w s' z => ?_
  obtain ⟨z', H', I', rz, qz⟩ := z
  exact SlX.cmpback rz ⟨z', H', I', rz, qz⟩
theorem op_eqR (o : OwnM X.K C "__eq__" f) (n : NoSubs X.K C) (F : FnR X.prog X.w X.K X.mg X.base CX k f sp) (hr : Room k X.A) (hx : Passes CX X E) : OpR X (compareOp .Eq) (rEqR X.K C sp E) := by
  intro pins s σ H x y v u Q I rx ry h
  obtain ⟨a, dx, fs, rfl, ea, hx', q⟩ := h
  obtain rfl : u = Value.ref a := ry
  obtain ⟨mA, O, _⟩ := ins_get I.hok ea
  obtain ⟨od, J, _⟩ := O.look
  obtain ⟨m0, Fm⟩ := I.fr
  have fin : ∀ {x : V} {v : Value}, RelV x v → sp [.ref a, x] H Q E → wpAny (model X.prog X.w) X.A (call (.ref f) [.ref a, v]) (PySem.W.CmpBack (EP X pins σ Q)) X.xe s := fun {x v} rx q => by
    refine thn (wpAny_call (run_fnR (us := [.ref a, v]) (vs := [.ref a, x]) F hr hx I (.cons rfl (.cons rx .nil)) q)) fun w s' z => ?_
    obtain ⟨z', H', I', rz, qz⟩ := z
    exact SlX.cmpback rz ⟨z', H', I', rz, qz⟩
  show wpAny (model X.prog X.w) X.A (richCompare .Eq v (.ref a)) (EP X pins σ Q) X.xe s
  rcases hx' with rfl | ⟨z, rfl⟩ | ⟨p, xs, rfl, hS | hS⟩
  · obtain rfl : v = Value.none := rx
    exact rc_refl (T := "NoneType") hr.units0 Fm I.ok.mod.kin J rfl PySem.F.slot_NoneType_eq_refl (fun _ h => decl_none h) n.non o.at_ o.fn (fin (x := .non) rfl q)
  · obtain ⟨t, rfl⟩ := rx
    exact rc_refl (T := "str") hr.units0 Fm I.ok.mod.kin J (typeIs_str s z t) PySem.F.slot_str_eq (fun _ h => decl_str J.1 rfl h) n.str o.at_ o.fn (fin (x := .str z) ⟨t, rfl⟩ q)
  · obtain rfl : v = Value.ref p := rx
    obtain ⟨its, r, e, z⟩ := I.tuple hS
    have hT : s.TypeIs (.ref p) "tuple" := by
      obtain ⟨o1, ho, hc, _⟩ := e
      exact ⟨o1, ho, hc⟩
    exact rc_refl (T := "tuple") hr.units0 Fm I.ok.mod.kin J hT PySem.F.slot_tuple_eq (fun _ h => decl_tup hT I.kIn J n.tup h) n.tup o.at_ o.fn (fin (x := .ref p) rfl q)
  · obtain rfl : v = Value.ref p := rx
    obtain ⟨its, r, pl, hz⟩ := I.list hS
    obtain ⟨o1, ho, hc, n1, hd⟩ := pl.isList
    have hT : s.TypeIs (.ref p) "list" := ⟨o1, ho, hc⟩
    exact rc_refl (T := "list") hr.units0 Fm I.ok.mod.kin J hT PySem.F.slot_list_eq (fun _ h => decl_lst hT I.kIn J n.lst h) n.lst o.at_ o.fn (fin (x := .ref p) rfl q)
theorem run_in2 {pins : List (Addr × Obj)} {σ : L2.St} {H : Hp} {s : Shared} {Q : VK} {us : List Value} {vs : List V} (F : FnR X.prog X.w X.K X.mg X.base CX k f sp) (hr : Room (k + 2) X.A) (hx : Passes CX X E) (I : Inv X pins σ H s) (r : Vals vs us) (h : sp vs H Q E) :
    wpAny (model X.prog X.w) X.A.in1.in1 (call (.ref f) us) (EP X pins σ Q) X.xe s := by
  refine wpAny_call (codeAny_mono (F X.A.in1.in1 X.stack s H us vs Q E (show Room (k + 1) X.A.in1 from hr.in1).in1 I.env0.in1.in1 r h) fun r s' hq => ?_)
  cases r with
  | error e => exact hx pins σ H s e s' I hq
  | ok fl =>
    cases fl with
    | ret u => exact I.after hq
    | next => exact False.elim hq
    | brk => exact False.elim hq
    | cont => exact False.elim hq
theorem call_strO (o : OwnM X.K C "__str__" f) (F : FnR X.prog X.w X.K X.mg X.base CX k f sp) (hr : Room (k + 2) X.A) (hx : Passes CX X E) : CallR X (.type "str") (rStrO C sp E) := by
  intro pins s σ H xs us Q I r h
  obtain ⟨a, dx, fs, rfl, ea, q⟩ := h
  obtain ⟨u, rfl, ru⟩ := vals1 r
  obtain rfl : u = Value.ref a := ru
  obtain ⟨mA, O, _⟩ := ins_get I.hok ea
  obtain ⟨od, J, _⟩ := O.look
  have hu : X.A.in1.in1.units < cLine := (show Room k X.A.in1.in1 from (show Room (k + 1) X.A.in1 from hr.in1).in1).units0
  refine PySem.W.kso_call hu I.kIn J o.at_ o.fn (thn (run_in2 (us := [.ref a]) (vs := [.ref a]) F hr hx I (.cons rfl .nil) q) fun u s' hq => ?_)
  obtain ⟨z', H', I', rz, z, rfl, qz⟩ := hq
  obtain ⟨t, rfl⟩ := rz
  exact ⟨.str z, H', I', ⟨t, rfl⟩, qz⟩
end
/-! ### C(e, ..) where slot i holds the class -/
def tMakeL (i : Nat) (C : Addr) (sp : Sp) (E : XK) (t : TA) : TE := fun σ H Q => σ[i]? = some (some (.ref C)) ∧ tMake C sp [] E t σ H Q
theorem pe_makeLp {X : Cx} {CX : CXT} {k i : Nat} {f C : Addr} {fd : FuncData} {ps : List Str} {sp : Sp} {E : XK} {x : Str} {e : Expr} {es : List Expr} {t : TA} {p pos : Pos} (M : Mk X.K C f) (F : FnOk X.prog X.w X.K X.mg X.base CX k f fd ps sp) (hr : Room (k + 1) X.A)
    (hN : X.N[i]? = some x) (hv : Vis X.env.scope x) (hb : Binds X.K fd ps []) (hx : Passes CX X E) (ha : PA X (e :: es) t)
    (hd : (x == ("__debug__" : Str)) = false := by decide) (hcd : (x == ("__classdict__" : Str)) = false := by decide) (he : starEach (e :: es) X.env = (false, eval e X.env) :: starEach es X.env := by rfl) (hpl : (backTo pos (starEach es X.env)).any (·.1) = false := by rfl) :
    PE X (.Call (.Name x p) (e :: es) [] pos) (tMakeL i C sp E t) := by
  refine ⟨fun pins s σ H Q I h => ?_⟩
  obtain ⟨hs, h⟩ := h
  refine wpAny_Call_Name_kw (thn ((pe_var (pos := p) (i := i) hN hv hd hcd).run pins s σ H (fun v H1 => v = .ref C ∧ H1 = H) I ⟨.ref C, hs, rfl, rfl⟩) fun u s1 ⟨v, H1, I1, r1, ev, eH⟩ => ?_)
  subst ev
  rw [eH] at I1
  cases r1
  refine PySem.W.callWith_K (h₀ := X.base) I1.ok.mod.kin M.kp (thn (ha.run pos pins s1 σ H _ I1 h) fun us s2 ⟨vs, H2, I2, r, q⟩ => ⟨I2.kIn, ?_⟩) he hpl
  exact run_make M F hr hb .nil hx I2 r q
end Hue

set_option Elab.async false
set_option linter.all false
set_option maxRecDepth 100000
set_option maxHeartbeats 4000000
/-! an own exception's __init__ that begins with super().__init__('..') -/
namespace Hue
open PySem PySem.Spec PyProof.Rows L2
/-- the program's file, as its code objects tell it -/
class SupP (P : Program) (fl : Str) : Prop where
  file : ((P.main.file : Str) == fl) = true
  top : (P.main.scope.names.lookup ("super" : Str)).isSome = false
/-- what the written part says: D the class of the def at f (its cell cc, its code at cda), C the object's class -/
structure SupK (K : PySem.W.Frag) (C D f cc cda : Addr) (fl ar : Str) : Prop where
  fn : ∃ oc od fd osl, K.lookup f = some ⟨oc, od, .func fd, osl⟩ ∧ ∃ a, (fd.params.posonlyargs ++ fd.params.args).head? = some a ∧ a.arg = ar
  code : ∃ oc od vs sl tf, K.lookup cda = some ⟨oc, od, .fields vs, sl⟩ ∧ vs[2]? = some (.str fl tf)
  cell : ∃ oc od sl, K.lookup cc = some ⟨oc, od, .cell (some (.ref D)), sl⟩
  cls : (PySem.W.clsIn K D).isSome = true
  clsC : (PySem.W.clsIn K C).isSome = true
  sub : PySem.W.mroIn K C (.ref D) = some true
  tp : PySem.W.nsIn K cStatics "thirdparty.any" = some none
  sup : PySem.W.ks_superIn K C D "__init__" = some (some (.builtin "ValueError.__init__"))
  ve : PySem.W.subIn K (.ref C) (.type "ValueError") = some true
section
variable {prog : Program} {w : World} {A : Around} {E : Value → Shared → Prop} {h : Heap} {g : Array GenState} {d : Drawn} {t : Nat} {os : OsState}
variable {nm q : Str} {C N : Addr} {bs bm : List Value} {hdct : Bool} {sn : List Str} {sub : List Value} {ab : Bool} {col : Option Bool} {dd : Option Addr} {k0 k1 k2 k3 k5 : Option Value}
theorem call_bwV {u e t0 : Addr} {rest : List Value} {Q : Value → Shared → Prop}
    (hC : h.get? C = some (excClassObj nm q C N bs bm hdct sn sub ab col dd k0 k1 k2 k3 k5 "ValueError.__new__")) (hbm : HandSPX.refsVE bm = true) (he : h.get? e = some (HandSPX.excO C t0)) (hu : h.get? u = some (PySem.W.kxs_mw "ValueError.__init__" e)) (hrest : rest.length ≤ sizeLine)
    (hq : ∀ h' t1, (∀ b o, b ≠ e → h.get? b = some o → h'.get? b = some o) → h'.get? e = some (HandSPX.excO C t1) → Q .none ⟨h', g, d, t, os⟩) :
    wpAny (model prog w) A (call (.ref u) rest) Q E ⟨h, g, d, t, os⟩ := by
  refine wpAny_call (codeAny_of_tree ?_)
  show wpAny _ A.in1 (callAny (.ref u) ⟨rest, []⟩) _ _ _
  simp only [callAny]
  refine wpAny_bind (wpAny_load hu ?_)
  simp only [PySem.W.kxs_mw, show (Value.type "method-wrapper" == Value.type "method" || Value.type "method-wrapper" == Value.type "builtin_function_or_method" || Value.type "method-wrapper" == Value.type "method-wrapper") = true by decide, if_true]
  refine PySem.W.KFB.if_so (by decide) ?_
  refine wpAny_bind (PySem.ESX.check_bound F.excBase_ValueError hC he rfl ?_)
  refine wpAny_bind (wpAny_pure (wpAny_pure ?_))
  refine ⟨Code.quiet_builtin _ (by decide +kernel), codeAny_builtin F.excBase_ValueError.initEntry ?_⟩
  rw [Around.under_plainId F.excBase_ValueError.init.plain _]
  wp_walk
  refine hq _ h.objs.size (fun b o hb ho => ?_) ?_
  · rw [Heap.get?_update_other _ _ (Ne.symm hb)]
    exact Heap.get?_push_of_some _ ho
  · rw [Heap.get?_update_self _ (Heap.get?_push_of_some _ he) rfl]
    rfl
end
section
variable {X : Cx} {pins : List (Addr × Obj)} {σ : L2.St} {H : Hp} {s : Shared} {a C D f cc cda : Addr} {fl ar : Str}
theorem exo_inst {t1 : Addr} (ho : s.heap.get? a = some ({ cls := .ref C, data := .fields #[.ref t1, .none, .none, .none, .bool false, .none] } : Obj)) : PySem.W.InstAt s.heap a { cls := .ref C, data := .fields #[.ref t1, .none, .none, .none, .bool false, .none] } C none := ⟨ho, rfl, rfl, trivial⟩
/-- super().__init__('..') -/
theorem sup_first [SP : SupP X.prog fl] {body : List Stmt} {p0 p1 p2 p3 p4 p5 : Pos} {m : Str} {j : Nat} {E : Value → Shared → Prop} (SK : SupK X.K C D f cc cda fl ar) (T : OexC X.K C) (hfu : X.env.func = some f) (hco : X.env.code = .ref cda) (hcl : X.env.cells.lookup ("__class__" : Str) = some cc)
    (hks : X.env.kindOf "super" = some .globalImplicit) (hkc : X.env.kindOf "__class__" = some .free) (hka : X.env.kindOf ar = some .local) (hN : X.N[0]? = some ar) (hn : X.mg "super" = none)
    (I : Inv X pins σ H s) (hσ : σ[0]? = some (some (.ref a))) (he : H a = some (exo a C none)) {pl : Sem Bool}
    (hev : eval (.Call (.Attribute (.Call (.Name "super" p0) [] [] p1) "__init__" p2) [.Constant (.str m) j p3] [] p4) X.env = (do
      let ov ← attributeBase (.Call (.Name "super" p0) [] [] p1) "__init__" X.env (eval (.Call (.Name "super" p0) [] [] p1) X.env)
      standAt p2.atName
      let (f, first) ← holding [ov] (getMethod ov "__init__" pl)
      callWith p4 f first (backTo p4 (starEach [.Constant (.str m) j p3] X.env)) []))
    (hsw : swapsWith (.Call (.Attribute (.Call (.Name "super" p0) [] [] p1) "__init__" p2) [.Constant (.str m) j p3] [] p4) none p5.line X.env = pure false) :
    PySem.wpAt (model X.prog X.w) X.A (.func body X.env) (exec (.Expr (.Call (.Attribute (.Call (.Name "super" p0) [] [] p1) "__init__" p2) [.Constant (.str m) j p3] [] p4) p5) X.env) (fun f s' => f = .next ∧ Inv X pins σ H s') E s := by
  have hk := I.ok.kind
  have KI := I.kIn
  obtain ⟨oc, od, fd, osl, hf, arg, hp, rfl⟩ := SK.fn
  obtain ⟨coc, cod, vs, csl, tf, hcda, hvs⟩ := SK.code
  obtain ⟨ceo, ced, cesl, hcc⟩ := SK.cell
  obtain ⟨t1, ho⟩ := exo_at I.hok he
  obtain ⟨cdD, hD⟩ := Option.isSome_iff_exists.mp SK.cls
  obtain ⟨oD, hD1, hD2⟩ : ∃ oD, s.heap.get? D = some oD ∧ oD.data = .cls cdD := by
    unfold PySem.W.clsIn at hD
    split at hD
    · rename_i c d cd' sl ho
      cases hD
      exact ⟨_, KI _ _ ho, rfl⟩
    · cases hD
  obtain ⟨nm, q, N, bs, bm, sn, sub, ab, col, dd, k0, k1, k2, k3, k5, hCo, hbm⟩ := T.cls
  refine ks_wpAt_Expr_any (ks_wpAt_MethodCall (pl := pl) ?_ hev) (by
    unfold interactive
    rw [hk]
    rfl) hsw
  refine ks_wpAt_super_base hks hkc (by decide) hfu (KI _ _ hf) rfl hp hco (KI _ _ hcda) rfl hvs SP.file SP.top ?_
  obtain ⟨mb, b1, b2⟩ := I.mod.blt
  refine PySem.W.ks_loadName_global hk hks (Calls.loadGlobal_builtin (by rw [I.ok.glob]; exact I.mod.glob.keeps I.bk) hn (by rw [I.ok.blt]; exact b1.keeps I.bk) ((b2 "super" (by decide)).trans (show bootBuiltins "super" = some (.type "super") by decide +kernel)) ⟨rfl, ?_⟩)
  refine wpAny_loadName_free hk hkc hcl ⟨_, KI _ _ hcc, rfl⟩ ?_
  obtain ⟨mm, hns, hlk⟩ := I.loc
  obtain ⟨u0, r0, lk⟩ := hlk 0 arg.arg (.ref a) hN hσ (.inl hka)
  obtain rfl : u0 = Value.ref a := r0
  have hm0 : mm arg.arg = some (.ref a) := by
    rcases lk with ⟨_, e⟩ | ⟨k, c, e, z⟩
    · exact e
    · exfalso
      rcases k with k | k <;> rw [hka] at k <;> cases k
  refine wpAny_loadName_local hk hka hns hm0 ?_
  obtain ⟨hh, g, dr, tk, os⟩ := s
  refine ks_wpAny_isType_cls hD1 hD2 ⟨rfl, ?_⟩
  refine ks_wpAny_call_super (cdD := cdD) hD1 hD2 ho rfl (fun c e => by cases e) (PySem.W.looks_mroIn KI SK.sub) (fun h1 e1 k1 => ?_)
  have K1 : X.K.In h1 := KI.keeps k1
  have J1 : PySem.W.InstAt h1 a { cls := .ref C, data := .fields #[.ref t1, .none, .none, .none, .bool false, .none] } C none := ⟨k1 _ _ ho, rfl, rfl, trivial⟩
  obtain ⟨cdC, hcC⟩ := Option.isSome_iff_exists.mp SK.clsC
  have hsup := SK.sup
  unfold PySem.W.ks_superIn at hsup
  rw [hcC] at hsup
  refine PySem.W.kxs_getMethod PySem.W.kxs_ValueError e1 (PySem.W.looks_opaque K1 SK.tp) (l₀ := cdC.mro) (fun A Q E s k q => wpAny_bind ((PySem.W.looks_clsIn K1 hcC) A _ E s k (wpAny_pure q))) rfl K1 hsup (J1.type.andThen (PySem.W.looks_subIn K1 SK.ve)) (PySem.W.ks_ne K1 J1 hcC) (by decide) ?_
  have kk : ∀ b o, hh.get? b = some o → (h1.push (PySem.W.kxs_mw "ValueError.__init__" a)).get? b = some o := fun b o e => Heap.get?_push_of_some _ (k1 b o e)
  have I1 : Inv X pins σ H ⟨h1.push (PySem.W.kxs_mw "ValueError.__init__" a), g, dr, tk + 1, os⟩ := I.kept (t' := tk + 1) kk
  have hu : (h1.push (PySem.W.kxs_mw "ValueError.__init__" a)).get? h1.objs.size = some (PySem.W.kxs_mw "ValueError.__init__" a) := Heap.get?_push_size _ rfl
  have hsz : hh.objs.size ≤ h1.objs.size := Nat.le_of_lt (Heap.lt_size e1)
  refine PySem.W.kxs_callWith (i := "ValueError.__init__") (x := a) rfl (Calls.evalArgs_plain ?_)
  have ha : PA X [.Constant (.str m) j p3] (tCons (tC (.str m)) tNil) := pa_cons pe_str pa_nil
  have I2 : Inv X ((h1.objs.size, PySem.W.kxs_mw "ValueError.__init__" a) :: pins) σ H ⟨h1.push (PySem.W.kxs_mw "ValueError.__init__" a), g, dr, tk + 1, os⟩ := I1.pins_of fun q hq => by
    rcases List.mem_cons.mp hq with e | e
    · subst e
      exact ⟨hu, I.hok.fresh hsz, Nat.ne_of_gt (Nat.lt_of_lt_of_le I.lt hsz), I.nofs hsz, fun v z => nomatch z⟩
    · exact I1.pin q (List.mem_append_right _ e)
  refine thn (ha.run p4 _ _ σ H (fun vs H1 => vs = [V.str m] ∧ H = H1) I2 ⟨rfl, rfl⟩) fun us s3 hh3 => ?_
  obtain ⟨vs3, H3, I3, r3, ev, eH⟩ := hh3
  subst ev
  rw [← eH] at I3
  have hu3 : s3.heap.get? h1.objs.size = some (PySem.W.kxs_mw "ValueError.__init__" a) := (I3.pin (h1.objs.size, PySem.W.kxs_mw "ValueError.__init__" a) (List.mem_append_right _ List.mem_cons_self)).1
  refine ⟨hu3, ?_⟩
  have I4 : Inv X pins σ H s3 := I3.pins_of fun q hq => I3.pin q (List.mem_append_right _ (List.mem_cons_of_mem _ hq))
  obtain ⟨t3, ho3⟩ := exo_at I4.hok he
  obtain ⟨h3, g3, d3, tk3, os3⟩ := s3
  refine call_bwV (I4.kIn _ _ hCo) hbm ho3 hu3 (by show us.length ≤ sizeLine; rw [← r3.length]; exact (show (1 : Nat) ≤ sizeLine by decide)) fun h' t4 k hx => ?_
  have J := I4.write (t' := tk3) (x := a) (e := a) (o := exo a C none) (by rw [he]; exact True.intro) (.inl rfl) k ⟨_, hx⟩ (exo_ok hx)
  have eu : upd H a (exo a C none) = H := by
    funext b
    by_cases hb : b = a
    · rw [hb, upd_same, he]
    · rw [upd_ne hb]
  rw [eu] at J
  exact ⟨rfl, J⟩
end
theorem fnC_of {P : Program} {w : World} {K : PySem.W.Frag} {mg : Str → Option Value} {base : Heap} {CX : CXT} {k : Nat} {fl ar : Str} {f cc C D : Addr} {name qual : Str} {params : Arguments} {rest : List Stmt} {scope : Scope} {dV kV doc pm cdv ct oc : Value} {an od : Option Addr}
    {osl : Array (Option Value)} {N ps : List Str} {sp : Sp} {p0 p1 p2 p3 p4 p5 : Pos} {m : Str} {j : Nat} [SP : SupP P fl]
    (lk : K.lookup f = some ⟨oc, od, .func (PySem.W.fnX name qual params (.Expr (.Call (.Attribute (.Call (.Name "super" p0) [] [] p1) "__init__" p2) [.Constant (.str m) j p3] [] p4) p5 :: rest) scope [("__class__", cc)] dV kV doc pm an cdv ct), osl⟩)
    (hcd : PySem.W.codeIn K cdv qual = true) (S : NdefX.NScope N ps [("__class__" : Str)] scope) (SK : ∀ cda, cdv = .ref cda → SupK K C D f cc cda fl ar) (T : OexC K C) (hn : mg "super" = none) (hks : scope.names.lookup ("super" : Str) = some .globalImplicit) (hpa : ∃ r, ps = ar :: r)
    (len : ∀ vs H Q E, sp vs H Q E → vs.length = ps.length) (hob : ∀ vs H Q E, sp vs H Q E → ∃ a ws, vs = V.ref a :: ws ∧ H a = some (exo a C none)) {pl : Sem Bool}
    (hev : ∀ env : Env, eval (.Call (.Attribute (.Call (.Name "super" p0) [] [] p1) "__init__" p2) [.Constant (.str m) j p3] [] p4) env = (do
      let ov ← attributeBase (.Call (.Name "super" p0) [] [] p1) "__init__" env (eval (.Call (.Name "super" p0) [] [] p1) env)
      standAt p2.atName
      let (f, first) ← holding [ov] (getMethod ov "__init__" pl)
      callWith p4 f first (backTo p4 (starEach [.Constant (.str m) j p3] env)) []))
    (hsw : ∀ env : Env, swapsWith (.Call (.Attribute (.Call (.Name "super" p0) [] [] p1) "__init__" p2) [.Constant (.str m) j p3] [] p4) none p5.line env = pure false)
    (hbody : ∀ (F : NdefX.NF) (A : Around) (outer : List Env) (s : Shared) (H : Hp) (vs : List V) (Q : VK) (E : XK), F.scope = scope → F.qual = qual → F.cl = [(("__class__" : Str), cc)] → sp vs H Q E →
      ∃ t, PSs (NdefX.ncx CX P w K mg base N F f A outer s H E) rest t ∧ t { nx := fun _ H' => Q .non H', rt := Q } (NdefX.startF N vs [some (.ref D)]) H) :
    FnOk P w K mg base CX (k + 1) f (PySem.W.fnX name qual params (.Expr (.Call (.Attribute (.Call (.Name "super" p0) [] [] p1) "__init__" p2) [.Constant (.str m) j p3] [] p4) p5 :: rest) scope [("__class__", cc)] dV kV doc pm an cdv ct) ps sp := by
  refine ⟨len, fun A outer s H args us vs Q E hr e0 hb r hsp => ?_⟩
  have hl := len _ _ _ _ hsp
  have KX : K.In s.heap := e0.mod.kin.keeps fun b o e => (e0.bs b o e).1
  have lim : s.heap.NoLimit := e0.mod.nolimit.keeps fun b o e => (e0.bs b o e).1
  have hrec := PySem.W.codeRec_of KX hcd
  obtain ⟨cda, oc2, vs2, t2, ecd, _⟩ := id hrec
  subst ecd
  have SK := SK cda rfl
  obtain ⟨ceo, ced, cesl, hcc⟩ := id SK.cell
  obtain ⟨pr, rfl⟩ := hpa
  obtain ⟨a, ws, rfl, ha⟩ := hob _ _ _ _ hsp
  let F : NdefX.NF := ⟨name, qual, params, (.Expr (.Call (.Attribute (.Call (.Name "super" p0) [] [] p1) "__init__" p2) [.Constant (.str m) j p3] [] p4) p5 :: rest), scope, [("__class__", cc)], cda⟩
  have Ce : NdefX.CellsAt F.cl [("__class__" : Str)] [some (V.ref D)] s.heap H := by
    have look : ∀ {y c}, F.cl.lookup y = some c → y = ("__class__" : Str) ∧ c = cc := fun {y c} e => by
      have e' : (match y == ("__class__" : Str) with | true => some cc | false => none) = some c := by
        have e2 : List.lookup y [(("__class__" : Str), cc)] = some c := e
        unfold List.lookup at e2
        split at e2
        · rename_i q; rw [q]; exact e2
        · cases e2
      split at e'
      · rename_i q
        exact ⟨eq_of_beq q, (Option.some.inj e').symm⟩
      · cases e'
    refine ⟨rfl, fun y c e => ?_, fun x y c e1 e2 => ?_, fun i y hi => ?_⟩
    · obtain ⟨_, rfl⟩ := look e
      exact ⟨(e0.bs _ _ (e0.mod.kin _ _ hcc)).2, _, _, KX _ _ hcc, rfl⟩
    · rw [(look e1).1, (look e2).1]
    · have h0 : i = 0 := by
        have z := (List.getElem?_eq_some_iff.mp hi).1
        simp at z
        exact z
      subst h0
      have ey : y = ("__class__" : Str) := (Option.some.inj hi).symm
      subst ey
      refine ⟨cc, (by show List.lookup (("__class__" : Str)) [(("__class__" : Str), cc)] = some cc; unfold List.lookup; rw [show (("__class__" : Str) == ("__class__" : Str)) = true from beq_self_eq_true _]), fun v hv => ?_⟩
      have ev : v = V.ref D := by
        have z : some (some (V.ref D)) = some (some v) := hv
        cases z
        rfl
      subst ev
      exact ⟨_, rfl, _, KX _ _ hcc, rfl⟩
  refine codeAny_call_function hr.depth (KX _ _ lk) rfl S.co S.gen rfl hrec (hb _ _ _ _ ?_)
  refine wpAny_newFunctionEnv S.nocell (fun ⟨n, _⟩ hy => S.par n (List.of_mem_zip hy).1) (fun h₁ hns hsb => ⟨lim.fresh _ hsb, ?_⟩) S.kind
  show codeAny _ _ (.func F.body (NdefX.envF F f s.heap.objs.size)) _ _
  refine ks_codeAny_funcAt ?_
  have kp : ∀ b o, s.heap.get? b = some o → h₁.get? b = some o := fun b o e => hsb.extBut b o (Nat.ne_of_lt (Heap.lt_size e)) (Heap.get?_push_of_some _ e)
  obtain ⟨t, ht, hq⟩ := hbody F A outer s H _ Q E rfl rfl rfl hsp
  have I : Inv (NdefX.ncx CX P w K mg base N F f A outer s H E) [] (NdefX.startF N (V.ref a :: ws) [some (.ref D)]) H { s with heap := h₁, toks := s.toks + ((ar :: pr).zip us).length } := NdefX.inv_startN S hr.hd e0 hl r Ce hns kp
  have hkp : F.scope.names.lookup ar = some .local := S.par ar List.mem_cons_self
  have hN0 : N[0]? = some ar := by
    have z := S.pre
    have h0 : (N.take ((ar :: pr).length + [("__class__" : Str)].length))[0]? = some ar := by rw [z]; rfl
    rw [List.getElem?_take_of_lt (by simp)] at h0
    exact h0
  have st0 := sup_first (X := NdefX.ncx CX P w K mg base N F f A outer s H E) (SP := SP) (body := F.body) (E := fun e s' => wpAny (model P w) (A.deeper (NdefX.envF F f s.heap.objs.size)) (leaving (NdefX.envF F f s.heap.objs.size) e) (fun _ s'' => CX outer H s E e s'') (fun e' s'' => CX outer H s E e' s'') s')
    SK T rfl rfl (show List.lookup (("__class__" : Str)) [(("__class__" : Str), cc)] = some cc by unfold List.lookup; rw [show (("__class__" : Str) == ("__class__" : Str)) = true from beq_self_eq_true _]) hks (S.frk _ List.mem_cons_self) hkp hN0 hn I rfl ha (hev _) (hsw _)
  refine ks_wpAt_execs_cons (PySem.wpAt_mono st0 (fun fl s' z => ?_) fun _ _ z => z)
  obtain ⟨ef, J⟩ := z
  subst ef
  refine wpAt_of_wpAny (wpAny_mono (ht.run [] s' _ H _ J hq) (fun fl s' hs => ?_) fun e s' hs => hs)
  have fin : ∀ {σ' : L2.St} {H' : Hp} {v : V} {u : Value}, Inv (NdefX.ncx CX P w K mg base N F f A outer s H E) [] σ' H' s' → L2.RelV v u → Q v H' → CE outer P w H s Q u s' :=
    fun {σ' H' v u} J rv q => ⟨v, H', J.os, J.bare, J.base, J.hok, rv, q⟩
  cases fl with
  | ret u =>
    obtain ⟨v, σ', H', J, rv, q⟩ := hs
    exact fin J rv q
  | next =>
    obtain ⟨σ', H', J, q⟩ := hs
    exact fin (v := V.non) (u := Value.none) J rfl q
  | brk =>
    obtain ⟨_, _, _, q⟩ := hs
    exact False.elim q
  | cont =>
    obtain ⟨_, _, _, q⟩ := hs
    exact False.elim q
/-! ### the facts -/
theorem oex_ok {K : PySem.W.Frag} {C : Str} (c : (Fx.oex C).ok K = true) : OexC K (gad C K) := by
  obtain ⟨c1, c⟩ := He.ba c
  obtain ⟨c2, c⟩ := He.ba c
  obtain ⟨c3, c⟩ := He.ba c
  obtain ⟨c4, c5⟩ := He.ba c
  refine ⟨?_, He.eqO_ok c2, of_decide_eq_true c3, of_decide_eq_true c4, c5⟩
  split at c1
  · rename_i dd cd sl ho
    split at c1
    · rename_i C' bm k0 k1 k2 k3 n k5 hm hs
      obtain ⟨d1, c1⟩ := He.ba c1
      obtain ⟨d2, c1⟩ := He.ba c1
      obtain ⟨d3, c1⟩ := He.ba c1
      obtain ⟨d4, d5⟩ := He.ba c1
      have e1 := of_decide_eq_true d1
      have e2 := of_decide_eq_true d2
      have e3 : cd.hasDel = false := by simpa using d3
      obtain ⟨nm, bs, mro, ns, qn, hd, sn, sub, ab, col, del⟩ := cd
      dsimp only at hm e3 d4
      subst hm e3 d4 e2
      rw [e1] at ho
      have hsl : sl = #[k0, k1, k2, k3, some (.builtin "ValueError.__new__"), k5] := by
        obtain ⟨l⟩ := sl
        simp only at hs
        rw [hs]
      subst hsl
      exact ⟨nm, qn, ns, bs, bm, sn, sub, ab, col, dd, k0, k1, k2, k3, k5, ho, d5⟩
    · cases c1
  · cases c1
theorem sup_ok {K : PySem.W.Frag} {C D fl ar : Str} (c : (Fx.sup C D fl ar).ok K = true) {x qual : Str} {params : Arguments} {body : List Stmt} {scope : Scope} {cc : Addr} {cdv : Value} {fd : FuncData} (F : FunC K x qual params body scope (mad D "__init__" K) cc cdv fd) :
    ∀ cda, cdv = .ref cda → SupK K (gad C K) (gad D K) (mad D "__init__" K) cc cda fl ar := by
  rintro cda rfl
  obtain ⟨oc, od, dV, kV, doc, pm, an, ct, osl, rfl, lk, hcd, _⟩ := F.ex
  obtain ⟨c1, c⟩ := He.ba c
  obtain ⟨c2, c⟩ := He.ba c
  obtain ⟨c3, c⟩ := He.ba c
  obtain ⟨c4, c⟩ := He.ba c
  obtain ⟨c5, c⟩ := He.ba c
  obtain ⟨c6, c7⟩ := He.ba c
  rw [lk] at c1
  obtain ⟨a1, c1⟩ := He.ba c1
  obtain ⟨a2, a3⟩ := He.ba c1
  refine ⟨⟨_, _, _, _, lk, ?_⟩, ?_, ?_, c2, c3, of_decide_eq_true c4, He.eqO_ok c5, He.eqO_ok c6, of_decide_eq_true c7⟩
  · split at a1
    · rename_i a e
      exact ⟨a, e, of_decide_eq_true a1⟩
    · cases a1
  · dsimp only at a3
    split at a3
    · rename_i k1 k2 vs k3 e
      split at a3
      · rename_i z tk e2
        have e3 := of_decide_eq_true a3
        subst e3
        exact ⟨_, _, vs, _, tk, e, e2⟩
      · cases a3
    · cases a3
  · dsimp only at a2
    split at a2
    · rename_i k1 k2 a k3 e
      have e3 := of_decide_eq_true a2
      subst e3
      exact ⟨_, _, _, e⟩
    · cases a2
theorem einit_ok {K : PySem.W.Frag} {C D : Str} (c : (Fx.einit C D).ok K = true) : PySem.W.findIn K (.ref (gad C K)) "__init__" = some (some (.ref (mad D "__init__" K))) ∧ PySem.W.typeIn K (.ref (mad D "__init__" K)) = some (.type "function") := by
  obtain ⟨c1, c2⟩ := He.ba c
  exact ⟨He.eqO_ok c1, of_decide_eq_true c2⟩
/-! ### isinstance, fields of a caught error that has a dict -/
section
variable {prog : Program} {w : World} {A : Around} {E : Value → Shared → Prop} {s : Shared} {K : PySem.W.Frag} {x D : Addr} {ox od : Obj}
theorem kin_classD {Q : Option Value → Shared → Prop} (hga : PySem.W.findIn K (.ref D) "__getattribute__" = some (some (.builtin "BaseException.__getattribute__"))) (hgt : PySem.W.findIn K (.ref D) "__getattr__" = some none) (hsub : PySem.W.subIn K (.ref D) (.type "BaseException") = some true)
    (hdct : PySem.W.hasDictIn K D = true) (ha : PySem.W.findIn K (.ref D) "__class__" = some (some (.builtin "object.__class__")))
    (hn : PySem.W.specialIn K (.builtin "object.__class__") "__get__" = some (some (.builtin "getset_descriptor.__get__"))) (htk : PySem.W.takesIn K (.builtin "object.__class__") = some true) (hm : PySem.W.mroIn K D (.type "object") = some true)
    (X : K.In s.heap) (I : PySem.W.InstAt s.heap x ox D (some od)) (h : Q (some (.ref D)) { s with toks := s.toks + 1 }) : wpAny (model prog w) A (getAttr? (.ref x) "__class__") Q E s := by
  have hf : PySem.W.findObj K D (some od) "__class__" = some (.bind (.builtin "getset_descriptor.__get__") (.builtin "object.__class__")) := PySem.W.findObj_data (by obtain ⟨cd, hc, _⟩ := PySem.W.any_some hdct; show (PySem.W.clsIn K D).isSome = true; rw [hc]; rfl) ha hn htk
  obtain ⟨hp, g, d, t, os⟩ := s
  have L0 := I.type (M := model prog w)
  have L1 := PySem.W.looks_findIn (M := model prog w) X hga
  have L2 := PySem.W.looks_findIn (M := model prog w) X hgt
  have L3 := PySem.W.looks_find (M := model prog w) X I hf
  have sub : PySem.W.Looks (model prog w) hp (isInstance (.ref x) (.type "BaseException")) true := L0.andThen (PySem.W.looks_subIn X hsub)
  have hx0 : (false && onTheHeap (Value.builtin "BaseException.__getattribute__")) = false := rfl
  have hx2 : (Value.builtin "BaseException.__getattribute__" == Value.builtin "object.__getattribute__") = false := by decide +kernel
  have hx1 : (onTheHeap (Value.ref D) && Value.builtin "BaseException.__getattribute__" == Value.builtin "object.__getattribute__") = false := by rw [hx2]; rfl
  unfold getAttr? getAttrBy? getAttrBy
  refine wpAny_bind (wpAny_mkText (wpAny_bind (wpAny_attempt (wpAny_holding (wpAny_bind (L0.at (wpAny_bind (L1.at ?_))))))))
  show wpAny _ _ (if (onTheHeap (Value.ref D) && Value.builtin "BaseException.__getattribute__" == Value.builtin "object.__getattribute__") = true then _ else _) _ _ _
  rw [hx1, if_neg Bool.false_ne_true]
  unfold getAttrByItsOwn hookBefore
  refine wpAny_bind ?_
  rw [if_pos (show onTheHeap (Value.ref D) = true from rfl)]
  refine L2.at ?_
  refine wpAny_bind (wpAny_attempt (wpAny_holding ?_))
  unfold callGetattribute
  rw [hx0, if_neg Bool.false_ne_true]
  unfold boundAndCalled
  rw [PySem.F.excAttr_ValueError.ga.bind (.ref x)]
  refine wpAny_bind (wpAny_pure ?_)
  show wpAny _ _ (call (.builtin "BaseException.__getattribute__") [.ref x, .str "__class__" t]) _ _ _
  refine wpAny_call (codeAny_call_builtin PySem.F.excAttr_ValueError.ga.plain PySem.F.entry_bexc_ga ?_)
  refine @PySem.W.check_slot (model prog w) _ _ ⟨hp, g, d, t + 1, os⟩ "BaseException.__getattribute__" "BaseException" "__getattribute__" (.ref x) [.str "__class__" t] [] _ (by decide +kernel) (by decide +kernel) sub (PySem.F.args_bexc_ga (.ref x) (.str "__class__" t)) ?_
  unfold Builtin.«object.__getattribute__»
  refine wpAny_bind (wpAny_of_eq (a := ((Value.ref x : Value), [Value.str "__class__" t])) (by first | rfl | (simp only [slotArgs]; rfl)) ?_)
  refine wpAny_bind (wpAny_pure (wpAny_bind (L0.at (wpAny_bind (L3.at ?_)))))
  show wpAny _ _ (holding [Value.builtin "object.__class__"] (call (.builtin "getset_descriptor.__get__") [.builtin "object.__class__", .ref x, .ref D]) >>= ret) _ _ _
  refine wpAny_bind (wpAny_holding (wpAny_call (PySem.W.class_get (s := ⟨hp, g, d, t + 1, os⟩) (ox := ox) (od := some od) X I hm ?_)))
  refine wpAny_pure ?_
  show wpAny _ _ (handedOut (.ref D)) _ _ _
  rw [PySem.W.handedOut_of (v := .ref D) rfl]
  first
    | exact wpAny_pure (wpAny_pure h)
    | exact wpAny_pure h
    | exact wpAny_pure (wpAny_bind (wpAny_pure (wpAny_pure h)))
theorem kitx_excD (c : ExcC K D) : PySem.W.KitX K (.ref x) (.ref D) (fun h => PySem.W.InstAt h x ox D (some od)) where
  ty := fun _ _ _ I => I.type
  it := fun _ _ X _ => by
    obtain ⟨cdD, hcD, _⟩ := PySem.W.any_some c.hd
    unfold PySem.W.clsIn at hcD
    split at hcD
    · rename_i c' d' cd' sl' ho
      intro A' Q' E' s' k q
      unfold isType loadHead
      exact wpAny_bind (wpAny_loadPart (k _ _ (X _ _ ho)) (wpAny_pure q))
    · cases hcD
  ne := fun h tp dd its n sl X htp => by
    obtain ⟨cdD, hcD, _⟩ := PySem.W.any_some c.hd
    refine Bool.eq_false_iff.mpr fun q => ?_
    have e : D = tp := Value.ref.inj (beq_iff_eq.mp q)
    subst e
    unfold PySem.W.clsIn at hcD
    split at hcD
    · rename_i c' d' cd' sl' ho
      have z := (X _ _ ho).symm.trans htp
      cases z
    · cases hcD
  ca := fun X I k => kin_classD c.hg c.hk c.hs c.hd c.ha c.hn c.ht c.hm X I k
end
/-- an error of the class at D with these fields is held at a -/
def ExF (H : Hp) (D a : Addr) (fs : List (Str × V)) : Prop := ∃ dd, H a = some (Exn (.ref D) (some dd) a) ∧ H dd = some (.xd fs)
theorem ExF.same {H H' : Hp} {D a : Addr} {fs : List (Str × V)} (h : ExF H D a fs) (e : Same H H') : ExF H' D a fs := by
  obtain ⟨dd, h1, h2⟩ := h
  exact ⟨dd, e _ _ h1, e _ _ h2⟩
def rIsD (K : PySem.W.Frag) (D : Addr) : List V → Hp → VK → Prop := fun xs H Q => ∃ (a : Addr) (fs : List (Str × V)) (c : V) (u : Value) (b : Bool), xs = [.ref a, c] ∧ ExF H D a fs ∧ ClsV c u ∧ PySem.W.kitOne K (.ref D) u = some b ∧ Q (.bl b) H
def rIsDT (K : PySem.W.Frag) (D : Addr) : List V → Hp → VK → Prop := fun xs H Q => ∃ (a tp : Addr) (fs : List (Str × V)) (cs : List V) (us : List Value) (b : Bool), xs = [.ref a, .ref tp] ∧ ExF H D a fs ∧ H tp = some (.tup cs) ∧ Paired ClsV cs us ∧ PySem.W.kitAny K (.ref D) us = some b ∧ Q (.bl b) H
def tXv (D : Addr) (n : Str) (te : TE) : TE := fun σ H Q => te σ H fun x H1 => ∃ (a : Addr) (fs : List (Str × V)) (v : V), x = .ref a ∧ ExF H1 D a fs ∧ fs.lookup n = some v ∧ Q v H1
section
variable {X : Cx} {D : Addr} {pins : List (Addr × Obj)} {σ : L2.St} {H : Hp} {s : Shared}
theorem exf_inst {a : Addr} {fs : List (Str × V)} (I : Inv X pins σ H s) (h : ExF H D a fs) : ∃ oe od, PySem.W.InstAt s.heap a oe D (some od) ∧ ∃ mA : Str → Option Value, (∀ f, RelO (fs.lookup f) (mA f)) ∧ ∀ n, PySem.W.lookIn n od = some (mA n) := by
  obtain ⟨dd, h1, h2⟩ := h
  obtain ⟨oe, vs, hget, hz, hv⟩ := exn_at I h1
  obtain ⟨mA, hns, hr⟩ := (show ObjOk X.prog X.w H s.heap dd (.xd fs) from I.hok dd _ h2)
  obtain ⟨od, ho, hl⟩ := lookIn_ns hns
  exact ⟨oe, od, ⟨hget, hz.1, by unfold PySem.W.notCls; rw [hv] <;> rfl, by rw [hz.2]; exact ho⟩, mA, hr, hl⟩
theorem call_isD (C : ExcC X.K D) : CallR X (.builtin "isinstance") (rIsD X.K D) := by
  intro pins s σ H xs us Q I r h
  obtain ⟨a, fs, c, u, b, rfl, ha, hcv, e, q⟩ := h
  obtain ⟨u1, u2, rfl, r1, r2⟩ := vals2 r
  obtain rfl : u1 = Value.ref a := r1
  have ec := hcv.eq r2
  subst ec
  obtain ⟨oe, od, J, _⟩ := exf_inst I ha
  exact PySem.W.kia_one (kitx_excD C) I.kIn J e (fun z => nomatch z) fun tk => ⟨.bl b, H, I.tok tk, rfl, q⟩
theorem call_isDT (C : ExcC X.K D) : CallR X (.builtin "isinstance") (rIsDT X.K D) := by
  intro pins s σ H xs us Q I r h
  obtain ⟨a, tp, fs, cs, ws, b, rfl, ha, hT, k, e, q⟩ := h
  obtain ⟨u1, u2, rfl, r1, r2⟩ := vals2 r
  obtain rfl : u1 = Value.ref a := r1
  cases (show u2 = Value.ref tp from r2)
  obtain ⟨oe, od, J, _⟩ := exf_inst I ha
  obtain ⟨_, its, rv, o, h1, h2, n, h3⟩ := (show ObjOk X.prog X.w H s.heap tp (.tup cs) from I.hok tp _ hT)
  have e3 := ClsV.all k rv
  subst e3
  obtain ⟨oc, od, dt, sl⟩ := o
  simp only at h2 h3
  subst h2 h3
  exact PySem.W.kia_tup (kitx_excD C) I.kIn J h1 e (fun z => nomatch z) fun tk => ⟨.bl b, H, I.tok tk, rfl, q⟩
theorem pe_xv {e : Expr} {te : TE} {pos : Pos} {n : Str} (C : ExcC X.K D) (hno : PySem.W.findIn X.K (.ref D) n = some none) (he : PE X e te) (hb : attributeBase e n X.env (eval e X.env) = eval e X.env := by rfl) : PE X (.Attribute e n pos) (tXv D n te) := by
  refine ⟨fun pins s σ H Q I h => ?_⟩
  refine attr_of hb (thn (he.run pins s σ H _ I h) fun u s1 hh => ?_)
  obtain ⟨x, H1, I1, rx, a, fs, v, rfl, ha, l, q⟩ := hh
  obtain rfl : u = Value.ref a := rx
  obtain ⟨oe, od, J, mA, hr, hl⟩ := exf_inst I1 ha
  obtain ⟨u, hu, ru⟩ := RelO.some_of (v := v) (o := mA n) (by rw [← l]; exact hr n)
  exact HandSPX.exc_get I1.kIn J C.hg C.hk C.hs (PySem.W.findObj_own C.hd hno rfl (by rw [hl, hu])) (handed_of ru) ⟨v, H1, I1.tok _, ru, q⟩
end
theorem FunC.binds {K : PySem.W.Frag} {x qual : Str} {params : Arguments} {body : List Stmt} {scope : Scope} {f cc : Addr} {cdv : Value} {fd : FuncData} {ps : List Str} (F : FunC K x qual params body scope f cc cdv fd)
    (h : ∀ (kV doc pm : Value) (an : Option Addr) (cdv ct : Value) (us : List Value), us.length = ps.length → bindArgs (PySem.W.fnX x qual params body scope [("__class__", cc)] .none kV doc pm an cdv ct) ⟨us, []⟩ = pure (ps.zip us)) : Binds K fd ps [] := by
  obtain ⟨oc, od, dV, kV, doc, pm, an, ct, osl, rfl, lk, hcd, rfl⟩ := F.ex
  exact .all (h kV doc pm an cdv ct)
/-! ### making and raising such an error: one field; three -/
/-- __init__(self, v): one field -/
def spEx1 (K : PySem.W.Frag) (C : Addr) (n : Str) : Sp := fun vs H Q _ => ∃ (a : Addr) (v : V), vs = [.ref a, v] ∧ H a = some (exo a C none) ∧ ∀ dx, H dx = none → dx ≠ a → Q .non (upd (upd H dx (exd dx [(n, v)])) a (exo a C (some dx)))
theorem mkO1 {K : PySem.W.Frag} {C : Addr} {n : Str} {v : V} {H : Hp} {E : XK} (k : ∀ dd H', H dd = none → Same H H' → H' dd = some (.xd [(n, v)]) → E (.ref C) (some dd) H') :
    [v].length ≤ 1000 ∧ ∀ a, H a = none → spEx1 K C n (.ref a :: ([v] ++ [])) (upd H a (exo a C none))
      (fun w H2 => w = .non ∧ ∃ (d : Addr) (fs : List (Str × V)), H2 a = some (exo a C (some d)) ∧ H2 d = some (exd d fs) ∧ H d = none ∧ E (.ref C) (some d) (upd (L2.del H2 a) d (.xd fs))) (fun _ _ _ => False) := by
  refine ⟨(by decide : 1 ≤ 1000), fun a na => ⟨a, v, rfl, upd_same, fun dx nd ne => ⟨rfl, dx, [(n, v)], upd_same, ?_, ?_, ?_⟩⟩⟩
  · rw [upd_ne ne, upd_same]
  · rw [upd_ne ne] at nd; exact nd
  · have nd' : H dx = none := by rw [upd_ne ne] at nd; exact nd
    refine k dx _ nd' (fun b o e => ?_) upd_same
    have b1 : b ≠ a := ne_of_none e na
    have b2 : b ≠ dx := ne_of_none e nd'
    rw [upd_ne b2, L2.del_ne b1, upd_ne b1, upd_ne b2, upd_ne b1]
    exact e
end Hue

set_option Elab.async false
set_option linter.all false
set_option maxRecDepth 100000
set_option maxHeartbeats 4000000
/-! def f(self, **kw) called with keywords; C(**d); d.update(e) -/
namespace Hue
open PySem PySem.Spec PyProof.Rows L2
/-! ### a fresh dict filled by names -/
section
variable {prog : Program} {w : World} {A : Around} {E : Value → Shared → Prop} {d : Addr}
theorem kw_nsSet {s : Shared} {es : List DictEntry} {n : Nat} {k : Str} {v : Value} {Q : Unit → Shared → Prop} (D : s.heap.get? d = some (PySem.W.dictOf es n))
    (hs : ∀ e ∈ es, e.key.isStr k = false) (hr : ∀ e ∈ es, e.refKey = false)
    (h : ∀ h', h'.get? d = some (PySem.W.dictOf (es ++ [⟨PyData.keyHash w.params k, .str k s.toks, v⟩]) (n + 1)) → (∀ b o, b ≠ d → s.heap.get? b = some o → h'.get? b = some o) → Q () { s with heap := h', toks := s.toks + 1 }) :
    wpAny (model prog w) A (nsSet d k v) Q E s := by
  have e1 : es.any (·.key.isStr k) = false := by
    cases q : es.any (·.key.isStr k) with
    | false => rfl
    | true => obtain ⟨e, he, z⟩ := List.any_eq_true.mp q; rw [hs e he] at z; cases z
  have e2 : es.any (·.refKey) = false := by
    cases q : es.any (·.refKey) with
    | false => rfl
    | true => obtain ⟨e, he, z⟩ := List.any_eq_true.mp q; rw [hr e he] at z; cases z
  have e : Obj.putName k (PyData.keyHash w.params k) (.str k s.toks) v (PySem.W.dictOf es n) = PySem.W.dictOf (es ++ [⟨PyData.keyHash w.params k, .str k s.toks, v⟩]) (n + 1) := by
    rw [PySem.W.putName_dict, PySem.W.putL_new hs]
    show PySem.W.dictOf _ (if es.any (·.key.isStr k) then n else n + 1) = _
    rw [e1, if_neg Bool.false_ne_true]
  have c : aRefKeyMayBeTheName k es.toArray = false := by
    rw [aRefKeyMayBeTheName_at, ← Array.any_toList, ← Array.any_toList]
    show (!es.any (·.key.isStr k) && es.any (·.refKey)) = false
    rw [e2, Bool.and_false]
  unfold nsSet
  refine wpAny_bind (wpAny_bind (wpAny_askSetting (wpAny_pure (wpAny_bind (wpAny_mkText (wpAny_bind (wpAny_loadPart D ?_)))))))
  dsimp only
  rw [c]
  refine wpAny_updatePart D (h _ ?_ fun b o hb eb => ?_)
  · have z := Heap.get?_update_self (Obj.putName k (PyData.keyHash w.params k) (.str k s.toks) v) D (by rw [e]; rfl)
    rw [e] at z
    exact z
  · rw [Heap.get?_update_other _ _ (Ne.symm hb)]
    exact eb
theorem kw_fill {Q : PUnit → Shared → Prop} : ∀ (ex : List (Str × Value)) (s : Shared) (es : List DictEntry) (n : Nat), s.heap.get? d = some (PySem.W.dictOf es n) →
    (∀ e ∈ es, ∀ x ∈ ex, e.key.isStr x.1 = false) → (∀ e ∈ es, e.refKey = false) → (ex.map (·.1)).Nodup →
    (∀ h', h'.get? d = some (PySem.W.dictOf (es ++ PySem.W.kwEs w.params s.toks ex) (n + ex.length)) → (∀ b o, b ≠ d → s.heap.get? b = some o → h'.get? b = some o) → Q ⟨⟩ { s with heap := h', toks := s.toks + ex.length }) →
    wpAny (model prog w) A (forIn ex PUnit.unit fun x _ => (nsSet d x.1 x.2 >>= fun _ => pure (ForInStep.yield PUnit.unit))) Q E s
  | [], s, es, n, D, _, _, _, h => by
    rw [List.forIn_nil]
    refine wpAny_pure (h s.heap ?_ fun _ _ _ e => e)
    show s.heap.get? d = some (PySem.W.dictOf (es ++ []) n)
    rw [List.append_nil]
    exact D
  | x :: r, s, es, n, D, hs, hr, hn, h => by
    obtain ⟨hn1, hn2⟩ := List.nodup_cons.mp (show (x.1 :: r.map (·.1)).Nodup from hn)
    rw [List.forIn_cons]
    refine wpAny_bind (wpAny_bind (kw_nsSet D (fun e he => hs e he x (.head _)) hr fun h' D' k' => wpAny_pure ?_))
    show wpAny (model prog w) A (forIn r PUnit.unit fun x _ => (nsSet d x.1 x.2 >>= fun _ => pure (ForInStep.yield PUnit.unit))) Q E { s with heap := h', toks := s.toks + 1 }
    refine kw_fill r { s with heap := h', toks := s.toks + 1 } _ _ D' (fun e he y hy => ?_) (fun e he => ?_) hn2 fun h'' D'' k'' => ?_
    · rcases List.mem_append.mp he with he | he
      · exact hs e he y (.tail _ hy)
      · obtain rfl := List.mem_singleton.mp he
        show (x.1 == y.1) = false
        exact beq_eq_false_iff_ne.mpr fun q => hn1 (by rw [q]; exact List.mem_map_of_mem hy)
    · rcases List.mem_append.mp he with he | he
      · exact hr e he
      · obtain rfl := List.mem_singleton.mp he
        rfl
    · have t1 : s.toks + 1 + r.length = s.toks + (r.length + 1) := by omega
      have t2 : n + 1 + r.length = n + (r.length + 1) := by omega
      show Q ⟨⟩ { s with heap := h'', toks := s.toks + 1 + r.length }
      rw [t1]
      refine h h'' ?_ fun b o hb e => k'' b o hb (k' b o hb e)
      rw [t2, List.append_assoc] at D''
      exact D''
theorem kwx_pairs : ∀ (ex : List (Str × Value)) (t : Tok), PySem.Pairs (mixKind prog w) (PySem.W.kwEs w.params t ex) (ex.map fun x => ((Sum.inr x.1 : Key), x.2))
  | [], _ => .nil
  | x :: r, t => .cons (keyIs_str x.1 t) rfl (kwx_pairs r (t + 1))
theorem kwx_dict {h : Heap} {ex : List (Str × Value)} (t : Tok) (n : Nat) (D : h.get? d = some (PySem.W.dictOf (PySem.W.kwEs w.params t ex) n)) (hn : (ex.map (·.1)).Nodup) : h.DictOf (mixKind prog w) d (ex.map fun x => ((Sum.inr x.1 : Key), x.2)) :=
  ⟨_, _, n, D, ⟨rfl, rfl, rfl⟩, rfl, fun e he => by
    obtain ⟨k, u, hk, hh⟩ := PySem.W.kwEs_key ex t e (List.mem_toArray.mp he)
    exact ⟨.inr k, by rw [hk]; exact keyIs_str k u, hh.trans rfl⟩, kwx_pairs ex t, by
      rw [List.map_map]
      have e : (ex.map fun x => ((Sum.inr x.1 : Key))) = (ex.map (·.1)).map Sum.inr := by rw [List.map_map]; rfl
      show (ex.map fun x => ((Sum.inr x.1 : Key))).Nodup
      rw [e]
      exact List.pairwise_map.mpr (hn.imp fun h q => h (Sum.inr.inj q))⟩
end
/-! ### def f(self, **kw) -/
/-- the pairs by names -/
def kwV (ks : List Str) (zs : List V) : List (Key × V) := (ks.zip zs).map fun x => ((Sum.inr x.1 : Key), x.2)
theorem kv_zip : ∀ {ks : List Str} {zs : List V} {ws : List Value}, Vals zs ws → KV (kwV ks zs) ((ks.zip ws).map fun x => ((Sum.inr x.1 : Key), x.2))
  | [], _, _, _ => .nil
  | _ :: _, [], [], .nil => .nil
  | k :: ks, z :: zs, u :: us, .cons a r => .cons ⟨rfl, a⟩ (kv_zip (ks := ks) r)
structure FnKs (P : Program) (w : World) (K : PySem.W.Frag) (mg : Str → Option Value) (base : Heap) (CX : CXT) (k : Nat) (f : Addr) (ks : List Str) (sp : Sp) : Prop where
  run : ∀ (A : Around) (outer : List Env) (s : Shared) (H : Hp) (u : Value) (v : V) (ws : List Value) (zs : List V) (Q : VK) (E : XK), Room k A → Env0 P w K mg base A outer s H → RelV v u → Vals zs ws → zs.length = ks.length → sp (v :: zs) H Q E →
    codeAny (model P w) A (.call (.ref f) ⟨[u], ks.zip ws⟩) (CR CX outer P w H s Q E) s
theorem fnKs_of {P : Program} {w : World} {K : PySem.W.Frag} {mg : Str → Option Value} {base : Heap} {CX : CXT} {k : Nat} {f : Addr} {fd : FuncData} {x qual p0 pd : Str} {params : Arguments} {body : List Stmt} {scope : Scope} {N : List Str} {sp : Sp} {ks : List Str}
    (F : FunD K x qual params body scope [] [] f fd) (S : FnScope N [p0, pd] scope) (hCX : StX.CXUp CX) (hn : ks.Nodup) (hz : ks.length ≤ 100)
    (hb : ∀ (kV doc pm : Value) (an : Option Addr) (cdv ct : Value) (a : Value) (ws : List Value), ws.length = ks.length → bindArgs (PySem.W.fnOf x qual params body scope .none kV doc pm an cdv ct) ⟨[a], ks.zip ws⟩ =
      ((alloc ({ cls := .type "dict", data := .dict #[] } : Obj) : Sem Addr) >>= fun d => (forIn (ks.zip ws) PUnit.unit fun x _ => (nsSet d x.1 x.2 >>= fun _ => pure (ForInStep.yield PUnit.unit))) >>= fun _ => pure [(p0, a), (pd, Value.ref d)]))
    (hbody : ∀ (cdv : Value) (A : Around) (outer : List Env) (s : Shared) (H : Hp) (vs : List V) (Q : VK) (E : XK), Room k (A.deeper (envOfC qual scope s.heap.objs.size f cdv)) → sp vs H Q E →
      ∃ t, PSs (cxOf CX P w K mg base N qual scope f cdv A outer s H E) body t ∧ t { nx := fun _ H' => Q .non H', rt := Q } (L2.start N vs) H) :
    FnKs P w K mg base CX (k + 1) f ks (fun vs H Q E => ∃ v zs, vs = v :: zs ∧ ∀ d, H d = none → sp [v, .ref d] (upd H d (.dK (kwV ks zs))) Q E) := by
  refine ⟨fun A outer s H u v ws zs Q E hr e0 ru rz hl hsp => ?_⟩
  obtain ⟨v', zs', e, hq⟩ := hsp
  injection e with e1 e2
  subst e1 e2
  obtain ⟨oc, od, dV, kV, doc, pm, an, cdv, ct, osl, rfl, lk, hcd, hD, _⟩ := F.ex
  rcases hD with ⟨_, rfl⟩ | ⟨e, _⟩
  · have hn0 : H s.heap.objs.size = none := e0.hok.fresh (Nat.le_refl _)
    have hwl : ws.length = ks.length := by rw [← rz.length]; exact hl
    refine StX.run_bnd lk hcd S hr e0 (G := fun xs H2 => ∃ d, H d = none ∧ xs = [v, .ref d] ∧ H2 = upd H d (.dK (kwV ks zs))) (fun A' Ex Q' h => ?_) fun s2 H2 xs ⟨d, hd, ex, eH⟩ hr' => ?_
    · rw [hb kV doc pm an cdv ct u ws hwl]
      refine wpAny_bind (wpAny_alloc (wpAny_bind ?_))
      have D0 : (s.heap.push ({ cls := .type "dict", data := .dict #[] } : Obj)).get? s.heap.objs.size = some (PySem.W.dictOf [] 0) := Heap.get?_push_size _ rfl
      have kz : ((ks.zip ws).map (·.1)) = ks := List.map_fst_zip (by omega)
      refine kw_fill (ks.zip ws) _ [] 0 D0 (fun _ he => nomatch he) (fun _ he => nomatch he) (by rw [kz]; exact hn) fun h' D' k' => wpAny_pure ?_
      have kp : ∀ b o, s.heap.get? b = some o → h'.get? b = some o := fun b o e => k' b o (Nat.ne_of_lt (Heap.lt_size e)) (Heap.get?_push_of_some _ e)
      have zlen : (kwV ks zs).length ≤ sizeLine := by
        unfold kwV
        rw [List.length_map, List.length_zip]
        exact Nat.le_trans (show _ ≤ 100 by omega) (by decide)
      have hsys : (s.heap.objs.size == sysModules) = false := beq_eq_false_iff_ne.mpr (Ne.symm (Nat.ne_of_lt (StX.env0_big e0)))
      have new : ObjOk P w (upd H s.heap.objs.size (.dK (kwV ks zs))) h' s.heap.objs.size (.dK (kwV ks zs)) := ⟨zlen, hsys, _, kv_zip rz, kwx_dict _ _ D' (by rw [kz]; exact hn)⟩
      have un : Un (frs outer) [] H (upd H s.heap.objs.size (.dK (kwV ks zs))) s.heap h' := Un.laid kp (Nat.le_refl _) hn0
      refine h { s with heap := h', toks := s.toks + (ks.zip ws).length } _ [v, .ref s.heap.objs.size] [u, .ref s.heap.objs.size] ⟨e0.frames, e0.mod, fun b o e => ⟨kp b o (e0.bs b o e).1, ?_⟩, ?_, Heap.FunFrames.of_keeps (fun b o e _ => ⟨o, kp b o e, rfl⟩) e0.funs, fun b hb => ?_, e0.hok.laid kp (Nat.le_refl _) new, e0.bare⟩ un rfl
        (fun e s' z => hCX outer s H { s with heap := h', toks := s.toks + (ks.zip ws).length } _ E e s' un kp rfl z) (.cons ru (.cons rfl .nil)) rfl ⟨_, hn0, rfl, rfl⟩
      · rw [upd_ne (Nat.ne_of_lt (Heap.lt_size (e0.bs b o e).1))]
        exact (e0.bs b o e).2
      · have h1 := Heap.lt_size D'
        exact Nat.le_trans e0.bsz (Nat.le_of_lt h1)
      · obtain ⟨_, o, ho, _⟩ := e0.funs.mem hb
        rw [upd_ne (Nat.ne_of_lt (Heap.lt_size ho))]
        exact e0.frf b hb
    · subst ex eH
      exact hbody cdv A outer s2 _ _ Q E hr' (hq d hd)
  · exact absurd rfl e
/-! ### **d in a call: its pairs are merged into a new dict, and read off it -/
section
variable {prog : Program} {w : World} {A : Around} {E : Value → Shared → Prop} {s : Shared}
theorem key_noref {k : Key} {v : Value} (h : (mixKind prog w).is k v = true) : ∀ a, v ≠ .ref a := fun a z => by
  rcases keyIs_shape h with ⟨i, t, _, e⟩ | ⟨x, t, _, e⟩ <;> rw [e] at z <;> cases z
theorem wpAny_dictPutNew {t : Sem Unit} {d : Addr} {kvs : List (Key × Value)} {k : Key} {key v : Value} {Q : Unit → Shared → Prop} (hkey : (mixKind prog w).is k key = true) (hm : s.heap.DictOf (mixKind prog w) d kvs) (hnot : k ∉ kvs.map (·.1))
    (hQ : ∀ h', h'.DictOf (mixKind prog w) d (kvs ++ [(k, v)]) → Heap.SameBut d s.heap h' → Q () { s with heap := h' }) (hsz : kvs.length ≤ sizeLine) :
    wpAny (model prog w) A (dictFind d key ((mixKind prog w).hash k) >>= fun r => if r.isSome = true then t else dictPut d ((mixKind prog w).hash k) key v) Q E s := by
  obtain ⟨o, es, ep, ho, hc, hd, hk, hp, hn⟩ := hm
  have hes : es.size ≤ sizeLine := by
    have e1 := hp.length
    have e2 : es.toList.length = es.size := by simp
    omega
  have hidx : (es.findIdx? fun e => (mixKind prog w).is k e.key) = kvs.findIdx? fun kv => decide (kv.1 = k) := by
    rw [← hp.findIdx k]; obtain ⟨l⟩ := es; simp
  have hnone : (es.findIdx? fun e => (mixKind prog w).is k e.key) = none := by
    rw [hidx, List.findIdx?_eq_none_iff]
    intro x hx
    exact decide_eq_false fun e => hnot (e ▸ List.mem_map_of_mem hx)
  refine wpAny_bind (wpAny_dictFind_of hkey ho hd hk ?_)
  rw [hnone, if_neg (by simp)]
  unfold dictPut
  refine wpAny_bind (wpAny_dictFind_of hkey ho hd hk ?_)
  rw [hnone]
  refine wpAny_updateDictKeys (hz := hes) ho hd (hQ _ ⟨_, _, ep + 1, Heap.get?_update_self _ ho (Obj.isFreed_of_dict (Obj.data_mapDictKeys hd _)), hc.mapDictKeys _, Obj.data_mapDictKeys hd _, hk.push hkey _, ?_, ?_⟩ (Heap.SameBut.update ..))
  · have := hp.append hkey ((mixKind prog w).hash k) v
    obtain ⟨l⟩ := es
    simpa using this
  · rw [List.map_append, List.nodup_append]
    refine ⟨hn, by simp, ?_⟩
    intro a ha b hb
    simp only [List.map_cons, List.map_nil, List.mem_singleton] at hb
    subst hb
    exact fun e => hnot (e ▸ ha)
theorem wpAny_mergeMap {d o : Addr} {more : List (Key × Value)} {Q : Unit → Shared → Prop} (hdo : d ≠ o) (hoS : (o == sysModules) = false)
    (hd : s.heap.DictOf (mixKind prog w) d []) (ho : s.heap.DictOf (mixKind prog w) o more)
    (hQ : ∀ h', h'.DictOf (mixKind prog w) d more → Heap.SameBut d s.heap h' → Q () { s with heap := h' }) (hsz : more.length ≤ sizeLine) :
    wpAny (model prog w) A (mergeMapping d (.ref o) true) Q E s := by
  obtain ⟨od, esd, epd, hod, hcd, hdd, hkd, hpd, hnd⟩ := id hd
  obtain ⟨oo, eso, epo, hoo, hco, hdo', hko, hpo, hno⟩ := id ho
  have hlen : more.length = eso.size := by rw [← hpo.length]; simp
  unfold mergeMapping
  refine wpAny_bind (wpAny_isInstance ho.typeIs isSubtype_dict_dict ?_)
  simp only [if_true]
  refine wpAny_bind (wpAny_specialOf ho.typeIs F.slot_dict_iter.lookup ?_)
  simp only [beq_self_eq_true]
  refine wpAny_bind (wpAny_pure ?_)
  dsimp only
  rw [if_neg (by rw [hoS]; exact Bool.false_ne_true)]
  have h0 : esd = #[] := by
    have z := hpd.length
    have z2 : esd.toList.length = 0 := z
    exact Array.eq_empty_of_size_eq_zero (by simpa using z2)
  refine wpAny_bind (wpAny_dictEntries hod hdd ?_)
  rw [if_pos (by rw [h0]; rfl)]
  refine wpAny_bind (wpAny_dictEntries hoo hdo' ?_)
  refine wpAny_bind ?_
  rw [← Array.forIn_toList]
  refine wpAny_forIn_list _ (fun rest _ s' => s' = s ∧ ∀ e ∈ rest, e ∈ eso.toList) _ ?_ ?_ _ _ ⟨rfl, fun _ h => h⟩
  · rintro x rest b s' ⟨rfl, hm⟩
    have hx : x ∈ eso := by simpa using hm x (List.mem_cons_self ..)
    obtain ⟨k', hkey', hhash⟩ := hko x hx
    have nr := key_noref hkey'
    split
    · rename_i a' e'
      exact absurd e' (nr a')
    · exact wpAny_pure ⟨rfl, fun e he => hm e (List.mem_cons_of_mem _ he)⟩
  · rintro b s' ⟨rfl, _⟩
    refine wpAny_bind (wpAny_dictEntries hoo hdo' ?_)
    refine wpAny_bind (wpAny_dictEpoch hoo hdo' ?_)
    refine wpAny_bind ?_
    have er : List.range eso.size = List.range' 0 eso.size := List.range_eq_range'
    rw [er]
    refine wpAny_forIn_list _
      (fun rest _ s2 => ∃ h' i, s2 = { s' with heap := h' } ∧ rest = List.range' i (eso.size - i) ∧ i ≤ eso.size ∧ h'.DictOf (mixKind prog w) d (more.take i) ∧ h'.get? o = some oo ∧ Heap.SameBut d s'.heap h')
      _ ?_ ?_ _ _ ⟨s'.heap, 0, rfl, by simp, Nat.zero_le _, by simpa using hd, hoo, Heap.SameBut.refl _ _⟩
    · rintro x rest b s2 ⟨h', i, rfl, hr, hi, hd', hoo', hs'⟩
      have hlt : i < eso.size := by
        rcases Nat.lt_or_ge i eso.size with h | h
        · exact h
        · rw [Nat.sub_eq_zero_of_le h] at hr; simp at hr
      obtain ⟨rfl, hrest⟩ : x = i ∧ rest = List.range' (i + 1) (eso.size - (i + 1)) := by
        have e : eso.size - i = (eso.size - (i + 1)) + 1 := by omega
        rw [e, List.range'_succ] at hr
        injection hr with h1 h2
        exact ⟨h1, h2⟩
      refine wpAny_bind (wpAny_dictEntries hoo' hdo' ?_)
      rw [Array.getElem?_eq_getElem hlt]
      obtain ⟨kv, hkv⟩ : ∃ kv, more[x]? = some kv := ⟨more[x]'(by rw [hlen]; exact hlt), List.getElem?_eq_getElem _⟩
      obtain ⟨k, v⟩ := kv
      obtain ⟨hkey, hval⟩ := hpo.get? (e := eso[x]) (by simp [hlt]) hkv
      obtain ⟨k', hkey', hhash⟩ := hko eso[x] (Array.getElem_mem hlt)
      obtain rfl : k' = k := (mixKind prog w).inj _ _ _ hkey' hkey
      have fresh : k' ∉ (more.take x).map (·.1) := by
        intro hin
        have hx2 : x < more.length := by rw [hlen]; exact hlt
        have e1 : more = more.take x ++ more.drop x := (List.take_append_drop x more).symm
        have e2 : more.drop x = (k', v) :: more.drop (x + 1) := by
          rw [List.drop_eq_getElem_cons hx2]
          have : more[x] = (k', v) := by
            have := List.getElem?_eq_getElem hx2
            rw [hkv] at this
            exact (Option.some.inj this).symm
          rw [this]
        rw [e1, e2, List.map_append, List.map_cons, List.nodup_append] at hno
        exact hno.2.2 _ hin _ List.mem_cons_self rfl
      dsimp only
      rw [hhash, hval]
      have hmx : (more.take x).length ≤ sizeLine := by
        have e2 : (more.take x).length ≤ more.length := by rw [List.length_take]; omega
        omega
      refine wpAny_bind (wpAny_holding (wpAny_dictPutNew hkey hd' fresh (fun h'' hd'' hs'' => ?_) hmx))
      have hoo'' : h''.get? o = some oo := (hs''.2 o (Ne.symm hdo)).trans hoo'
      refine wpAny_bind (wpAny_dictEpoch hoo'' hdo' ?_)
      rw [if_neg (by simp)]
      refine wpAny_pure ⟨h'', x + 1, rfl, hrest, hlt, ?_, hoo'', hs'.trans hs''⟩
      rw [List.take_add_one, hkv]
      exact hd''
    · rintro b s2 ⟨h', i, rfl, hr, hi, hd', hoo', hs'⟩
      have hin : i = eso.size := by
        rcases Nat.lt_or_ge i eso.size with h | h
        · have e : eso.size - i = (eso.size - (i + 1)) + 1 := by omega
          rw [e, List.range'_succ] at hr; exact nomatch hr
        · exact Nat.le_antisymm hi h
      refine wpAny_pure (hQ h' ?_ hs')
      rw [hin, ← hlen, List.take_length] at hd'
      exact hd'
end
section
variable {prog : Program} {w : World} {A : Around} {E : Value → Shared → Prop} {s : Shared}
abbrev emptyD : Obj := { cls := .type "dict", data := .dict #[] }
theorem emptyD_of {h : Heap} {d : Addr} (e : h.get? d = some emptyD) : h.DictOf (mixKind prog w) d [] := ⟨_, #[], 0, e, ⟨rfl, rfl, rfl⟩, rfl, fun _ h => by simp at h, .nil, List.nodup_nil⟩
theorem wpAny_mergedOne {x : Sem Value} {f : Value} {Q : Addr → Shared → Prop}
    (h : wpAny (model prog w) A x (fun v s1 => ∃ o more, v = .ref o ∧ (o == sysModules) = false ∧ s1.heap.DictOf (mixKind prog w) o more ∧ more.length ≤ sizeLine ∧ s1.heap.get? s.heap.objs.size = some emptyD ∧ s.heap.objs.size ≠ o ∧
      ∀ h', h'.DictOf (mixKind prog w) s.heap.objs.size more → Heap.SameBut s.heap.objs.size s1.heap h' → Q s.heap.objs.size { s1 with heap := h' }) E { s with heap := s.heap.push emptyD }) :
    wpAny (model prog w) A (mergedKeywords f [(none, x)]) Q E s := by
  unfold mergedKeywords
  refine wpAny_bind (wpAny_alloc ?_)
  refine wpAny_bind (wpAny_holding ?_)
  dsimp only
  rw [List.forIn_cons]
  dsimp only
  refine wpAny_bind (wpAny_bind ?_)
  rw [if_pos (by rfl)]
  refine wpAny_bind (wpAny_pure ?_)
  refine wpAny_bind (wpAny_mono h (fun v s1 hv => ?_) fun _ _ z => z)
  obtain ⟨o, more, rfl, hoS, ho, hsz, hd, hne, hQ⟩ := hv
  have go : ∀ (P : Unit → Shared → Prop) (E' : Value → Shared → Prop), (∀ h', h'.DictOf (mixKind prog w) s.heap.objs.size more → Heap.SameBut s.heap.objs.size s1.heap h' → P () { s1 with heap := h' }) → wpAny (model prog w) A (mergeMapping s.heap.objs.size (.ref o) true) P E' s1 :=
    fun P E' hP => wpAny_mergeMap hne hoS (emptyD_of hd) ho hP hsz
  refine wpAny_bind (wpAny_onRaise (wpAny_holding (wpAny_tryCatch (wpAny_onRaise (go _ _ fun h' hd' hs' => ?_)))))
  refine wpAny_pure ?_
  dsimp only
  rw [List.forIn_nil]
  refine wpAny_pure ?_
  rw [if_pos (by rfl)]
  exact wpAny_pure (wpAny_pure (hQ h' hd' hs'))
theorem wpAny_keywordsIn {f : Value} {d : Addr} {kvs : List (Str × Value)} {Q : List (Str × Value) → Shared → Prop} (hd : s.heap.DictOf (mixKind prog w) d (kvs.map fun x => ((Sum.inr x.1 : Key), x.2))) (h : Q kvs s) : wpAny (model prog w) A (keywordsIn f d) Q E s := by
  obtain ⟨o, es, ep, ho, hc, hdd, hk, hp, hn⟩ := hd
  have hlen : kvs.length = es.size := by
    have z := hp.length
    rw [List.length_map] at z
    have z2 : es.toList.length = es.size := by simp
    omega
  unfold keywordsIn
  refine wpAny_bind (wpAny_dictEntries ho hdd ?_)
  refine wpAny_bind ?_
  rw [← Array.forIn_toList]
  refine wpAny_forIn_list _ (fun rest b s' => s' = s ∧ ∃ i, rest = es.toList.drop i ∧ b = kvs.take i) _ ?_ ?_ _ _ ⟨rfl, 0, by simp, by simp⟩
  · rintro x rest b s' ⟨rfl, i, hr, rfl⟩
    have hlt : i < es.toList.length := by
      rcases Nat.lt_or_ge i es.toList.length with h' | h'
      · exact h'
      · rw [List.drop_of_length_le h'] at hr; cases hr
    rw [List.drop_eq_getElem_cons hlt] at hr
    injection hr with hx hrest
    have hlk : i < kvs.length := by
      have : es.toList.length = es.size := by simp
      omega
    cases hkv : kvs[i]
    rename_i k v
    have hk1 : kvs[i]? = some (k, v) := by rw [List.getElem?_eq_getElem hlk, hkv]
    have hk2 : (kvs.map fun x => ((Sum.inr x.1 : Key), x.2))[i]? = some ((Sum.inr k : Key), v) := by rw [List.getElem?_map, hk1]; rfl
    obtain ⟨hkey, hval⟩ := hp.get? (e := x) (by rw [hx]; exact List.getElem?_eq_getElem hlt) hk2
    rcases keyIs_shape (k := (Sum.inr k : Key)) (v := x.key) hkey with ⟨j, t, e1, _⟩ | ⟨y, t, e1, e2⟩
    · cases e1
    · obtain rfl : k = y := Sum.inr.inj e1
      split
      · rename_i z tk e3
        rw [e2] at e3
        injection e3 with e4 _
        subst e4
        refine wpAny_pure ⟨rfl, i + 1, hrest, ?_⟩
        rw [List.take_add_one, hk1, hval]
        rfl
      · rename_i hno
        exact absurd e2 (hno _ _)
  · rintro b s' ⟨rfl, i, hr, rfl⟩
    have hge : es.toList.length ≤ i := by
      rcases Nat.lt_or_ge i es.toList.length with h' | h'
      · rw [List.drop_eq_getElem_cons h'] at hr; cases hr
      · exact h'
    have e : kvs.take i = kvs := List.take_of_length_le (by
      have : es.toList.length = es.size := by simp
      omega)
    rw [e]
    exact wpAny_pure h
end
theorem kv_unzip : ∀ {ks : List Str} {zs : List V} {vs : List (Key × Value)}, KV (kwV ks zs) vs → zs.length = ks.length → ∃ ws, Vals zs ws ∧ vs = (ks.zip ws).map fun x => ((Sum.inr x.1 : Key), x.2)
  | [], [], _, .nil, _ => ⟨[], .nil, rfl⟩
  | [], _ :: _, _, _, h => by cases h
  | _ :: _, [], _, _, h => by cases h
  | k :: ks, z :: zs, (a, u) :: vs, .cons ⟨e, r⟩ t, h => by
    obtain ⟨ws, rw', ew⟩ := kv_unzip (ks := ks) (zs := zs) t (Nat.succ.inj h)
    refine ⟨u :: ws, .cons r rw', ?_⟩
    have e' : (Sum.inr k : Key) = a := e
    rw [ew, ← e']
    rfl
section
variable {M : Model} {A : Around} {E : Value → Shared → Prop} {s : Shared}
theorem callWith_SS {f : Value} {pos : Pos} {x : Sem Value} {Q : Value → Shared → Prop} {P : Heap → Prop} (hk : ∀ h, P h → ∃ k, (k = Keeper.frame ∨ k = Keeper.machine ∨ k = Keeper.boundFrame) ∧ PySem.W.Looks M h (keeperOf f) k)
    (h : wpAny M A (evalArgs f true [] [(none, x)]) (fun a s₁ => P s₁.heap ∧ wpAny M A (call f ([] ++ a.pos) a.kw) Q E s₁) E s) : wpAny M A (callWith pos f [] [] [(none, x)]) Q E s := by
  unfold callWith
  refine wpAny_bind (wpAny_holding (wpAny_mono h (fun a s₁ h₁ => wpAny_bind (wpAny_standAt ?_)) fun _ _ x => x))
  obtain ⟨k, hk', L⟩ := hk _ h₁.1
  simp only [List.any_nil, List.any_cons, Option.isNone_none, Bool.false_or, Bool.true_or]
  refine wpAny_bind (L.here ?_)
  have tail : ∀ {t : Sem Value}, wpAny M A t Q E s₁ → wpAny M A (t >>= fun r => holding [r] point >>= fun _ => pure r) Q E s₁ :=
    fun ht => wpAny_bind (wpAny_mono ht (fun r s₂ hr => wpAny_bind (wpAny_holding (wpAny_point (wpAny_pure hr)))) fun _ _ x => x)
  have marked (mk : Value) : wpAny M A (callMarked mk f ([] ++ a.pos) a.kw) Q E s₁ := by unfold callMarked; exact Calls.wpAny_keep h₁.2
  rcases hk' with rfl | rfl | rfl <;> dsimp only <;> first | exact tail (marked _) | exact tail (wpAny_operating h₁.2)
theorem evalArgs_SS {f : Value} {x : Sem Value} {Q : Args → Shared → Prop} (h : wpAny M A (mergedKeywords f [(none, x)]) (fun d s1 => wpAny M A (keywordsIn f d) (fun kw s2 => Q ⟨[], kw⟩ s2) E s1) E s) : wpAny M A (evalArgs f true [] [(none, x)]) Q E s := by
  unfold evalArgs
  simp only [spliced]
  refine wpAny_bind (wpAny_bind (wpAny_pure (wpAny_pure ?_)))
  refine wpAny_bind (wpAny_pure ?_)
  refine wpAny_holding ?_
  dsimp only
  rw [if_neg (by simp)]
  refine wpAny_bind (wpAny_mono h (fun d s1 h1 => ?_) fun _ _ z => z)
  refine wpAny_bind (wpAny_pure ?_)
  exact wpAny_bind (wpAny_holding (wpAny_mono h1 (fun kw s2 h2 => wpAny_pure h2) fun _ _ z => z))
end
/-- C(**e): e a dict of the names ks -/
def tMakeSS (C : Addr) (ks : List Str) (sp : Sp) (gV : List V → List V → List V) (E : XK) (te : TE) : TE := fun σ H Q => te σ H fun y H1 => ∃ o zs, y = .ref o ∧ H1 o = some (.dK (kwV ks zs)) ∧ zs.length = ks.length ∧ ∀ x dx, H1 x = none → H1 dx = none → dx ≠ x →
  sp (gV [.ref x] zs) (upd (upd H1 dx (.own x)) x (.ins C dx [])) (fun v H3 => v = .non ∧ Q (.ref x) H3) E
theorem pe_makeSS {X : Cx} {CX : CXT} {k : Nat} {f C : Addr} {fd : FuncData} {ps ks : List Str} {sp : Sp} {E : XK} {x : Str} {p pos : Pos} {e : Expr} {kws : List Keyword} {te : TE} {g : List Value → List Value → List Value} {gV : List V → List V → List V}
    (M : Mk X.K C f) (F : FnOk X.prog X.w X.K X.mg X.base CX k f fd ps sp) (hr : Room (k + 1) X.A) (hg : Gl X x) (hm : X.mg x = some (.ref C)) (hb : KBn X.K fd ps 1 ks g gV) (hx : Passes CX X E) (he : PE X e te)
    (hdb : (x == ("__debug__" : Str)) = false := by decide) (hkw : backToKw pos (keywordEach kws X.env) = [(none, (do let v ← eval e X.env; standAt pos; pure v))] := by rfl) (hpos : backTo pos (starEach [] X.env) = [] := by rfl) :
    PE X (.Call (.Name x p) [] kws pos) (tMakeSS C ks sp gV E te) := by
  refine ⟨fun pins s σ H Q I h => ?_⟩
  refine wpAny_Call_Name_kw (ld_glob I hg hm ?_ hdb)
  rw [hkw, hpos]
  refine callWith_SS (P := X.K.In) (PySem.W.keeps_K M.kp) (evalArgs_SS (wpAny_mergedOne ?_))
  have hn : H s.heap.objs.size = none := I.hok.fresh (Nat.le_refl _)
  have I1 : Inv X pins σ H { s with heap := s.heap.push emptyD } := I.kept (t' := s.toks) fun b o e => Heap.get?_push_of_some _ e
  have hd : (s.heap.push emptyD).get? s.heap.objs.size = some emptyD := Heap.get?_push_size _ rfl
  have I2 : Inv X ((s.heap.objs.size, emptyD) :: pins) σ H { s with heap := s.heap.push emptyD } := I1.pins_of fun q hq => by
    rcases List.mem_cons.mp hq with e | e
    · subst e
      exact ⟨hd, hn, Nat.ne_of_gt I.lt, I.nofs (Nat.le_refl _), fun v z => nomatch z⟩
    · exact I1.pin q (List.mem_append_right _ e)
  refine wpAny_bind (thn (he.run _ _ σ H _ I2 h) fun v s1 hv => wpAny_bind (wpAny_standAt (wpAny_pure ?_)))
  obtain ⟨y, H1, I3, ry, o, zs, rfl, ho, hl, hq⟩ := hv
  obtain rfl : v = Value.ref o := ry
  obtain ⟨hz, hsys, vs, kv, hdo⟩ := (show ObjOk X.prog X.w H1 s1.heap o (.dK (kwV ks zs)) from I3.hok o _ ho)
  obtain ⟨ws, rws, ews⟩ := kv_unzip kv hl
  have P3 := I3.pin (s.heap.objs.size, emptyD) (List.mem_append_right _ List.mem_cons_self)
  have I4 : Inv X pins σ H1 s1 := I3.pins_of fun q hq => I3.pin q (List.mem_append_right _ (List.mem_cons_of_mem _ hq))
  have ne : s.heap.objs.size ≠ o := fun z => by
    rw [← z] at ho
    rw [P3.2.1] at ho
    cases ho
  refine ⟨o, vs, rfl, hsys, hdo, (by rw [← kv.length]; exact hz), P3.1, ne, fun h' hd' hs' => ?_⟩
  have fp : FpOk X pins H1 s.heap.objs.size := ⟨P3.2.1, (I.fpOk (Nat.le_refl _) hn).2.1, (I.fpOk (Nat.le_refl _) hn).2.2.1, (I.fpOk (Nat.le_refl _) hn).2.2.2.1, (I.fpOk (Nat.le_refl _) hn).2.2.2.2.1, (I.fpOk (Nat.le_refl _) hn).2.2.2.2.2⟩
  have I5 : Inv X pins σ H1 { s1 with heap := h' } := I4.turned (t' := s1.toks) (fun b o hb e => (hs'.2 b hb).trans e) fp.1 fp.2.1 fp.2.2.2.1 fp.2.2.2.2.1 fp.2.2.2.2.2
  rw [ews] at hd'
  refine wpAny_keywordsIn (prog := X.prog) (w := X.w) hd' ⟨I5.kIn, ?_⟩
  exact run_makeK (us := []) (vs := []) (n := 0) M F hr hb hx I5 .nil rws rfl hl hq
/-! ### o.m(k = v, ..), m a def with **kw -/
def tMethKs (C : Addr) (m : Str) (n : Nat) (sp : Sp) (E : XK) (ta : TE) (tk : TA) : TE := fun σ H Q => ta σ H fun x H1 => ∃ a dx fs, x = .ref a ∧ H1 a = some (.ins C dx fs) ∧ fs.lookup m = none ∧ tk σ H1 fun zs H2 => zs.length = n ∧ sp (x :: zs) H2 Q E
section
variable {X : Cx} {CX : CXT} {k : Nat} {f C : Addr} {ks : List Str} {sp : Sp} {E : XK} {m : Str} {pos apos : Pos} {o : Expr} {kws : List Keyword} {ta : TE} {tk : TA} {pl : Sem Bool}
theorem run_fnKs {pins : List (Addr × Obj)} {σ : L2.St} {H : Hp} {s : Shared} {Q : VK} {a : Addr} {ws : List Value} {zs : List V} (F : FnKs X.prog X.w X.K X.mg X.base CX k f ks sp) (hr : Room k X.A) (hx : Passes CX X E)
    (I : Inv X pins σ H s) (rz : Vals zs ws) (l2 : zs.length = ks.length) (h : sp (.ref a :: zs) H Q E) : wpAny (model X.prog X.w) X.A (call (.ref f) [.ref a] (ks.zip ws)) (EP X pins σ Q) X.xe s := by
  refine wpAny_call (codeAny_mono (F.run X.A X.stack s H (.ref a) (.ref a) ws zs Q E hr I.env0 rfl rz l2 h) fun r s' hq => ?_)
  cases r with
  | error e => exact hx pins σ H s e s' I hq
  | ok fl =>
    cases fl with
    | ret u => exact I.after hq
    | next => exact False.elim hq
    | brk => exact False.elim hq
    | cont => exact False.elim hq
theorem pe_methKs (he : PE X o ta) (c : Cls X.K C) (hm : Meth X.K C m f) (F : FnKs X.prog X.w X.K X.mg X.base CX k f ks sp) (hr : Room k X.A) (hx : Passes CX X E) (hkw : PK X kws tk)
    (hall : (backToKw pos (keywordEach kws X.env)).all (·.1.isSome) = true := by rfl) (hks : (backToKw pos (keywordEach kws X.env)).filterMap (·.1) = ks := by rfl)
    (hpl : ((backTo pos (starEach [] X.env)).any (·.1) || (backToKw pos (keywordEach kws X.env)).any (·.1.isNone)) = false := by rfl)
    (ht : eval (.Call (.Attribute o m apos) [] kws pos) X.env = (do
      let ov ← eval o X.env
      standAt apos.atName
      let (f, first) ← holding [ov] (getMethod ov m pl)
      callWith pos f first (backTo pos (starEach [] X.env)) (backToKw pos (keywordEach kws X.env))) := by rfl) :
    PE X (.Call (.Attribute o m apos) [] kws pos) (tMethKs C m ks.length sp E ta tk) := by
  refine ⟨fun pins s σ H Q I h => ?_⟩
  refine PySem.W.methodCall_KW (pl := pl) (thn (he.run pins s σ H _ I h) fun u s1 ⟨x, H1, I1, rx, a, dx, fs, ex, ea, l, q⟩ => ?_) ht
  subst ex
  obtain rfl : u = Value.ref a := rx
  refine getmeth_ok I1 ea c hm l ?_
  refine PySem.W.callWith_KW0 (first := [.ref a]) (h₀ := X.base) I.ok.mod.kin hm.kp hall ?_ hpl
  refine thn (hkw.run pos pins s1 σ H1 _ I1 q) fun ws s2 ⟨zs, H2, I2, rz, l2, q2⟩ => ⟨I2.kIn, ?_⟩
  rw [hks]
  exact run_fnKs F hr hx I2 rz l2 q2
end
/-! ### d.update(e), e another dict -/
def rDUpd : V → List V → Hp → VK → Prop := fun x vs H Q => ∃ (a o : Addr) (kvs more : List (Key × V)), x = .ref a ∧ vs = [.ref o] ∧ H a = some (.dK kvs) ∧ H o = some (.dK more) ∧ a ≠ o ∧ kvs.length + more.length ≤ sizeLine ∧ Q .non (upd H a (.dK (mergeK kvs more)))
theorem mtd_update {X : Cx} : MtR X "dict.update" rDUpd := by
  intro pins s σ H x vs v us Q I rx rv h
  obtain ⟨a, o, kvs, more, ex, ev, e, eo, ne, hz, q⟩ := h
  subst ex
  subst ev
  obtain rfl : v = Value.ref a := rx
  cases rv with
  | cons r0 r1 =>
    cases r1
    rename_i u
    obtain rfl : u = Value.ref o := r0
    obtain ⟨z, hd, ks, rel, dd⟩ := dk_of I.hok e
    obtain ⟨z2, hd2, ks2, rel2, dd2⟩ := dk_of I.hok eo
    refine call_meetsIn PySem.F.slot_dict_update dd.typeIs PySem.F.entry_dict_update (PySem.F.args_dict_update_2 _ _) (meets_dict_update (mixKind X.prog X.w) a o ne hd2) ⟨ks, ks2, dd, dd2, by rw [← rel.length, ← rel2.length]; exact hz, fun h' dd' _ hs => ⟨.non, _, ?_, rfl, q⟩⟩
    have he : ∃ q, h'.get? a = some q := let ⟨q, _, _, hq, _⟩ := dd'; ⟨q, hq⟩
    have hm : (mergeK kvs more).length ≤ sizeLine := Nat.le_trans (length_mergeK more kvs) hz
    exact d_write (t' := s.toks) I (by rw [e]; exact True.intro) hs he (dk_new hm hd (rel2.merge rel) dd')
end Hue

set_option Elab.async false
set_option linter.all false
set_option maxRecDepth 100000
set_option maxHeartbeats 4000000
/-! o.f = v, f a property with a setter -/
namespace Hue
open PySem PySem.Spec PyProof.Rows L2
def sPset (C : Addr) (ta tv : TE) (sp : Sp) (E : XK) : TS := fun D σ H => tv σ H fun y H1 => ta σ H1 fun x H2 => ∃ a dx fs, x = .ref a ∧ H2 a = some (.ins C dx fs) ∧ sp [.ref a, y] H2 (fun _ H3 => D.nx σ H3) E
section
variable {X : Cx} {CX : CXT} {k : Nat} {C p g : Addr} {f : Str} {fd : FuncData} {ps : List Str} {sp : Sp} {E : XK} {o value : Expr} {pos pos' : Pos} {ta tv : TE}
theorem setprop_ok {pins : List (Addr × Obj)} {σ : L2.St} {H : Hp} {s : Shared} {Q : VK} {a dx : Addr} {fs : List (Str × V)} {y : V} {u : Value} {Qd : Unit → Shared → Prop} (I : Inv X pins σ H s) (ea : H a = some (.ins C dx fs)) (c : Cls X.K C) (hp : PSetOf X.K C f p g)
    (F : FnOk X.prog X.w X.K X.mg X.base CX k g fd ps sp) (hr : Room (k + 2) X.A) (hb : Binds X.K fd ps []) (hx : Passes CX X E) (ry : RelV y u) (h : sp [.ref a, y] H Q E) (hq : ∀ v H' s', Inv X pins σ H' s' → Q v H' → Qd () s') :
    wpAny (model X.prog X.w) X.A (setAttr (.ref a) f u) Qd X.xe s := by
  obtain ⟨mA, O, _, _, _, _⟩ := ins_get I.hok ea
  obtain ⟨od, J, _⟩ := O.look
  obtain ⟨z, rest, hrec⟩ := hp.rc
  have I1 := I.tok (s.toks + 1)
  have hl : ([Value.ref a, u] ++ []).length = ps.length := by
    rw [← F.len _ _ _ _ h]; rfl
  refine PySem.W.set_plain I.kIn J c.sa (PySem.W.osa_descr (s := { s with toks := s.toks + 1 }) PySem.W.KF.slot_pset I.kIn J c.po hp.tk hp.ty (PySem.W.prop_set (s := { s with toks := s.toks + 1 }) I.kIn hrec ?_))
  refine codeAny_mono (F.run X.A.in1.in1 X.stack { s with toks := s.toks + 1 } H ⟨[.ref a, u], []⟩ [.ref a, u] [.ref a, y] Q E hr.in1.in1 I1.env0.in1.in1 (hb _ [.ref a, u] I1.kIn hl) (.cons rfl (.cons ry .nil)) h) fun r s' hq' => ?_
  cases r with
  | error er => exact hx pins σ H { s with toks := s.toks + 1 } er s' I1 hq'
  | ok fl =>
    cases fl with
    | ret u =>
      obtain ⟨v, H', I3, rv, q3⟩ := I1.after hq'
      exact hq v H' s' I3 q3
    | next => exact False.elim hq'
    | brk => exact False.elim hq'
    | cont => exact False.elim hq'
theorem ps_pset (c : Cls X.K C) (hp : PSetOf X.K C f p g) (F : FnOk X.prog X.w X.K X.mg X.base CX k g fd ps sp) (hr : Room (k + 2) X.A) (hb : Binds X.K fd ps []) (hx : Passes CX X E) (ha : PE X o ta) (hv : PE X value tv)
    (hs : swapsWith value (some (.Attribute o f pos')) pos.line X.env = pure false := by rfl) : PS X (.Assign [.Attribute o f pos'] value pos) (sPset C ta tv sp E) := by
  refine ⟨fun pins s σ H D I h => ?_⟩
  refine plainObj_wpAny_Assign_Attribute (thn (hv.run pins s σ H _ I h) fun u s1 ⟨y, H1, I1, ry, q⟩ => thn (ha.run pins s1 σ H1 _ I1 q) fun ov s2 ⟨x, H2, I2, rx, a, dx, fs, ex, ea, q2⟩ => ?_) hs
  subst ex
  obtain rfl : ov = Value.ref a := rx
  exact setprop_ok I2 ea c hp F hr hb hx ry q2 fun v H' s' I3 q3 => ⟨σ, H', I3, q3⟩
end
end Hue

set_option Elab.async false
set_option linter.all false
set_option maxRecDepth 100000
set_option maxHeartbeats 1000000
/-! a list and a tuple walked together; defs with a starred parameter as methods; {x:spec} -/
namespace Hue
open PySem PySem.Spec PyProof.Rows L2

/-! ### zip(list, tuple) -/
def ItLT (K : PySem.W.Frag) (a b : Addr) : It :=
  ⟨fun i H => ∃ (us zs : List V) (u z : V), SqL K H a us ∧ SqT K H b zs ∧ us[i]? = some u ∧ zs[i]? = some z,
    fun i H v H' => ∃ q u z, v = .ref q ∧ H q = none ∧ H' = L2.upd H q (.tup [u, z]) ∧ (∀ us, SqL K H a us → us[i]? = some u) ∧ ∀ zs, SqT K H b zs → zs[i]? = some z,
    fun i H => ∃ us zs : List V, SqL K H a us ∧ SqT K H b zs ∧ i ≤ us.length ∧ i ≤ zs.length ∧ (i = us.length ∨ i = zs.length)⟩
structure LtApart (z ti tq i1 i2 a b : Addr) : Prop where
  s : ZipSep2 z ti tq i1 i2 [i1, a] [i2, b]
  n1 : a ≠ i1
  n2 : b ≠ i2
  n3 : tq ≠ i1
  n4 : tq ≠ i2
abbrev ltC (z ti tq i1 i2 : Addr) : List Addr := [z, ti, tq, i1, i2]
theorem ltC_mem {z ti tq i1 i2 c : Addr} (h : c ∈ ltC z ti tq i1 i2) : c = z ∨ c = ti ∨ c = tq ∨ c = i1 ∨ c = i2 := by simpa using h
theorem turn_LT {P : Program} {w : World} {K : PySem.W.Frag} {elts : List Expr} {kk : Nat} {tpos : Pos} {a b z ti tq i1 i2 : Addr} (Z : LtApart z ti tq i1 i2 a b) :
    Turn P w K (.Tuple elts kk tpos) (ItLT K a b) (ltC z ti tq i1 i2) z (fun i h => IsZip h z ti tq .none ∧ IsTupOf2 h ti (.ref i1) (.ref i2) ∧ (∃ u v, IsTupOf2 h tq u v) ∧ h.IsListIter i1 a i ∧ h.IsTupleIter i2 b i) where
  mem := List.mem_cons_self
  obj := fun i h st c hc => by
    obtain ⟨hz, hti, ⟨u, v, htq⟩, ⟨o1, e1, _, d1⟩, ⟨o2, e2, _, d2⟩⟩ := st
    rcases ltC_mem hc with rfl | rfl | rfl | rfl | rfl
    · exact ⟨_, hz, nofun⟩
    · exact ⟨_, hti, nofun⟩
    · exact ⟨_, htq, nofun⟩
    · exact ⟨o1, e1, fun v q => by rw [d1] at q; cases q⟩
    · exact ⟨o2, e2, fun v q => by rw [d2] at q; cases q⟩
  keep := fun i h h' ⟨hz, hti, ⟨u, v, htq⟩, k1, k2⟩ kp =>
    ⟨kp z (by simp) _ hz, kp ti (by simp) _ hti, ⟨u, v, kp tq (by simp) _ htq⟩, k1.at fun o => kp i1 (by simp) o, k2.at fun o => kp i2 (by simp) o⟩
  item := by
    intro X hP hw hK hc i pins s σ H E I hf ⟨hz, hti, ⟨u0, v0, htq⟩, k1, k2⟩ ⟨us, zs, u, v, hqu, hqz, hu, hv⟩
    subst hP hw hK
    obtain ⟨its, rv, p, _⟩ := I.list hqu
    obtain ⟨its2, rv2, p2, _⟩ := I.tuple hqz
    obtain ⟨y1, g1, r1⟩ := rv.get hu
    obtain ⟨y2, g2, r2⟩ := rv2.get hv
    have hlt1 : i < its.toArray.size := by have := (List.getElem?_eq_some_iff.mp g1).1; simpa using this
    have hlt2 : i < its2.toArray.size := by have := (List.getElem?_eq_some_iff.mp g2).1; simpa using this
    have hh : X.A.in1.handled = none := I.ok.hd hc
    have zl : z < s.heap.objs.size := Heap.lt_size hz
    refine wpAny_pyNext_zipD2_item Z.s (Draws.list hh i1 a Z.n1 its.toArray) (Draws.tuple hh i2 b Z.n2 its2.toArray) hz hti htq ⟨k1, p.isList⟩ ⟨k2, p2⟩ hlt1 hlt2 fun w1 w2 h' tk e1 e2 z' q' m1 m2 new sz kp => ?_
    have e1' : w1 = y1 := by
      have : its[i]? = some w1 := by simpa using e1
      rw [g1] at this; exact (Option.some.inj this).symm
    have e2' : w2 = y2 := by
      have : its2[i]? = some w2 := by simpa using e2
      rw [g2] at this; exact (Option.some.inj this).symm
    subst e1' e2'
    refine ⟨_, rfl, wpAny_letOwnedTupleGo_zip (s := { s with heap := h', toks := tk }) z' fun h2 z2 sb => ?_⟩
    have keep2 : ∀ c o, c ∉ ltC z ti tq i1 i2 → s.heap.get? c = some o → h2.get? c = some o := fun c o nc q =>
      (sb.2 c (fun e => nc (by simp [e]))).trans (kp c o (fun e => nc (by simp [e])) (fun e => nc (by simp [e])) (fun e => nc (by simp [e])) (fun e => nc (by simp [e])) q)
    have nq : h2.get? s.heap.objs.size = some { cls := .type "tuple", data := .seq #[w1, w2] } := (sb.2 _ (Nat.ne_of_gt zl)).trans new
    have I2 := I.turnedNew (t' := tk) (ob := .tup [u, v]) (h' := h2) keep2 hf (Nat.le_refl _) ⟨by show 2 ≤ sizeLine; decide, [w1, w2], .cons r1 (.cons r2 .nil), ⟨_, nq, rfl, _, rfl⟩⟩
    refine ⟨.ref s.heap.objs.size, _, I2, rfl, ⟨_, u, v, rfl, I.hok.fresh (Nat.le_refl _), rfl, fun l hl => by rw [I.list_inj hl hqu]; exact hu, fun l hl => by rw [I.tuple_inj hl hqz]; exact hv⟩, ⟨z2, ?_, ⟨w1, w2, ?_⟩, ?_, ?_⟩, fun c hcm => ?_⟩
    · exact (sb.2 _ Z.s.TIz).trans (kp _ _ Z.s.TIz Z.s.TITO Z.s.TIi1 Z.s.TIi2 hti)
    · exact (sb.2 _ Z.s.TOz).trans q'
    · exact m1.1.at fun o q => (sb.2 _ Z.s.zi1.symm).trans q
    · exact m2.1.at fun o q => (sb.2 _ Z.s.zi2.symm).trans q
    · have lt : c < s.heap.objs.size := by
        rcases ltC_mem hcm with rfl | rfl | rfl | rfl | rfl
        · exact zl
        · exact Heap.lt_size hti
        · exact Heap.lt_size htq
        · obtain ⟨_, e, _⟩ := k1; exact Heap.lt_size e
        · obtain ⟨_, e, _⟩ := k2; exact Heap.lt_size e
      rw [upd_ne (Nat.ne_of_lt lt)]
      exact (hf c hcm).1
  done := by
    intro X hP hw hK hc i pins s σ H E I hf ⟨hz, hti, ⟨u0, v0, htq⟩, k1, k2⟩ ⟨us, zs, hqu, hqz, le1, le2, hend⟩
    subst hP hw hK
    obtain ⟨its, rv, p, _⟩ := I.list hqu
    obtain ⟨its2, rv2, p2, _⟩ := I.tuple hqz
    have l1 := rv.length
    have l2 := rv2.length
    have hh : X.A.in1.handled = none := I.ok.hd hc
    exact wpAny_pyNext_zipD2_end Z.s (Draws.list hh i1 a Z.n1 its.toArray) (Draws.tuple hh i2 b Z.n2 its2.toArray) hz hti htq ⟨k1, p.isList⟩ ⟨k2, p2⟩ (by simp; omega) (by simp; omega) (by simp; omega) fun h' tk kp =>
      ⟨rfl, I.turnedL (t' := tk) (ch := ltC z ti tq i1 i2) (fun c o nc q => kp c o (fun e => nc (by simp [e])) (fun e => nc (by simp [e])) (fun e => nc (by simp [e])) (fun e => nc (by simp [e])) q) hf⟩
  self := fun A i s Q E st q => wpAny_pyIter_zip st.1 q
def iZipLT (K : PySem.W.Frag) (ta : TA) : TI := fun σ H R => ta σ H fun vs H1 => ∃ a b us zs, vs = [.ref a, .ref b] ∧ SqL K H1 a us ∧ SqT K H1 b zs ∧ R (ItLT K a b) H1
theorem nin2 {x p q : Nat} (h1 : x ≠ p) (h2 : x ≠ q) : x ∉ [p, q] := by simp [h1, h2]
theorem ltApart_new (n a b : Nat) (ha : a < n) (hb : b < n) : LtApart (n + 4) (n + 2) (n + 3) n (n + 1) a b :=
  have e (x y : Nat) (h : x ≠ y) : n + x ≠ n + y := fun z => h (Nat.add_left_cancel z)
  have u (x y : Nat) (h : y < n) : n + x ≠ y := Nat.ne_of_gt (Nat.lt_of_lt_of_le h (Nat.le_add_right _ _))
  have o (x : Nat) (h : 0 ≠ x) : n ≠ n + x := e 0 x h
  ⟨⟨e 2 4 (by decide), e 3 4 (by decide), e 2 3 (by decide), e 2 0 (by decide), by simp, nin2 (e 4 0 (by decide)) (u 4 a ha), nin2 (e 3 0 (by decide)) (u 3 a ha), e 2 1 (by decide), by simp, nin2 (e 4 1 (by decide)) (u 4 b hb), nin2 (e 3 1 (by decide)) (u 3 b hb), nin2 (o 1 (by decide)) (u 0 b hb), nin2 (e 1 0 (by decide)) (u 1 a ha)⟩,
    (u 0 a ha).symm, (u 1 b hb).symm, e 3 0 (by decide), e 3 1 (by decide)⟩
theorem vals2r {a b : Addr} {us : List Value} (r : Vals [V.ref a, V.ref b] us) : us = [Value.ref a, Value.ref b] := by
  cases r with
  | cons r rr =>
    cases rr with
    | cons r' rr =>
      cases rr
      cases r
      cases r'
      rfl
theorem pi_zipLT {X : Cx} {e e2 : Expr} {ta : TA} {p pos tpos : Pos} {elts : List Expr} {kk : Nat} (hg : Gl X "zip") (hm : X.mg "zip" = none) (ha : PA X [e, e2] ta)
    (hst : starEach [e, e2] X.env = (false, eval e X.env) :: starEach [e2] X.env := by rfl) (hp : (backTo pos (starEach [e2] X.env)).any (·.1) = false := by rfl) :
    PI X (.Tuple elts kk tpos) (.Call (.Name "zip" p) [e, e2] [] pos) (iZipLT X.K ta) := by
  refine ⟨fun pins s σ H R I h => Call_ (ld_blt I hg hm PyProof.Rows.boot_zip (PyProof.Rows.callWith_type1 (thn (ha.run pos pins s σ H _ I h) fun us s1 ⟨vs, H1, I1, r1, a, b, xs, zs, ex, hqx, hqz, q⟩ => ?_) hst hp))⟩
  subst ex
  obtain rfl := vals2r r1
  obtain ⟨its, rv, p1, _⟩ := I1.list hqx
  obtain ⟨its2, rv2, p2, _⟩ := I1.tuple hqz
  have lb : b < s1.heap.objs.size := by obtain ⟨_, e, _⟩ := id p2; exact Heap.lt_size e
  refine zip_begins2 (begins_list a its.toArray) (begins_tuple b its2.toArray) p1.isList p2 fun h' hz hti htq g1 g2 sz kp => wpAny_pyIter_zip hz ?_
  refine ⟨s1.heap.objs.size + 4, _, _, _, H1, rfl, I1.kept (t' := s1.toks) kp, turn_LT (ltApart_new _ a b p1.lt lb), ⟨hz, hti, ⟨_, _, htq⟩, ⟨_, g1, rfl, rfl⟩, ⟨_, g2, rfl, rfl⟩⟩, fun c hcm => ?_, q⟩
  have le : s1.heap.objs.size ≤ c := by
    rcases ltC_mem hcm with rfl | rfl | rfl | rfl | rfl <;> first | exact Nat.le_add_right _ _ | exact Nat.le_refl _
  exact I1.fpOk le (I1.hok.fresh le)
theorem walk_LT {K : PySem.W.Frag} {a b : Addr} {xs ys : List V} (hn : xs.length = ys.length) : Walk (ItLT K a b) xs.length (fun H => SqL K H a xs ∧ SqT K H b ys) (YPair (fun i => xs[i]?) (fun i => ys[i]?)) := by
  refine ⟨fun i _ hi q => ?_, fun _ q => ⟨xs, ys, q.1, q.2, Nat.le_refl _, by omega, .inl rfl⟩, fun i H v H' _ q y => ?_⟩
  · exact ⟨xs, ys, xs[i], ys[i], q.1, q.2, by simp [hi], by simp [show i < ys.length by omega]⟩
  · obtain ⟨t, x, z, h1, h2, h3, h4, h5⟩ := y
    exact ⟨t, x, z, h1, h2, h3, h4 xs q.1, h5 ys q.2⟩

theorem pg_tupK {X : Cx} {K : PySem.W.Frag} {es : List Expr} {k : Nat} {pos : Pos} {t : TGs} {n : Nat} (ek : X.K = K) (hc : X.calm = true) (h : PGs X es t)
    (hn : (assignEach es X.env).length = n := by rfl) (hst : (assignEach es X.env).findIdx? (·.1) = none := by rfl) : PG X (.Tuple es k pos) (gTup K n t) := ek ▸ pg_tup hc h hn hst
/-! ### o.m(..), m a def told by FnR -/
def tMethR (C : Addr) (m : Str) (sp : Sp) (E : XK) (ta : TE) (t : TA) : TE := fun σ H Q => ta σ H fun x H1 => ∃ a dx fs, x = .ref a ∧ H1 a = some (.ins C dx fs) ∧ fs.lookup m = none ∧ t σ H1 fun vs H2 => sp (.ref a :: vs) H2 Q E
section
variable {X : Cx} {CX : CXT} {k : Nat} {C f : Addr} {m : Str} {sp : Sp} {E : XK} {o e : Expr} {es : List Expr} {ta : TE} {t : TA} {pos apos : Pos} {pl : Sem Bool}
theorem pe_methR (he : PE X o ta) (c : Cls X.K C) (hm : Meth X.K C m f) (F : FnR X.prog X.w X.K X.mg X.base CX k f sp) (hr : Room k X.A) (hx : Passes CX X E) (ha : PA X (e :: es) t)
    (h1 : starEach (e :: es) X.env = (false, eval e X.env) :: starEach es X.env := by rfl) (h2 : (backTo pos (starEach es X.env)).any (·.1) = false := by rfl)
    (h3 : eval (.Call (.Attribute o m apos) (e :: es) [] pos) X.env = (do
      let z ← eval o X.env
      standAt apos.atName
      let (g, frst) ← holding [z] (getMethod z m pl)
      callWith pos g frst (backTo pos (starEach (e :: es) X.env)) (backToKw pos (keywordEach [] X.env))) := by rfl) :
    PE X (.Call (.Attribute o m apos) (e :: es) [] pos) (tMethR C m sp E ta t) := by
  refine ⟨fun pins s σ H Q I h => PySem.W.methodCall_KW (pl := pl) (thn (he.run pins s σ H _ I h) fun u s1 ⟨x, H1, I1, rx, a, dx, fs, ex, ea, l, q⟩ => ?_) h3⟩
  subst ex
  obtain rfl : u = Value.ref a := rx
  refine getmeth_ok I1 ea c hm l (PySem.W.callWith_K (first := [.ref a]) (h₀ := X.base) I.ok.mod.kin hm.kp (thn (ha.run pos pins s1 σ H1 _ I1 q) fun us s2 ⟨vs, H2, I2, r, q2⟩ => ⟨I2.kIn, ?_⟩) h1 h2)
  exact wpAny_call (run_fnR (us := .ref a :: us) (vs := .ref a :: vs) F hr hx I2 (.cons rfl r) q2)
theorem pe_methR0 (he : PE X o ta) (c : Cls X.K C) (hm : Meth X.K C m f) (F : FnR X.prog X.w X.K X.mg X.base CX k f sp) (hr : Room k X.A) (hx : Passes CX X E)
    (h3 : eval (.Call (.Attribute o m apos) [] [] pos) X.env = (do
      let z ← eval o X.env
      standAt apos.atName
      let (g, frst) ← holding [z] (getMethod z m pl)
      callWith pos g frst (backTo pos (starEach [] X.env)) (backToKw pos (keywordEach [] X.env))) := by rfl) :
    PE X (.Call (.Attribute o m apos) [] [] pos) (tMethR C m sp E ta tNil) := by
  refine ⟨fun pins s σ H Q I h => PySem.W.methodCall_KW (pl := pl) (thn (he.run pins s σ H _ I h) fun u s1 ⟨x, H1, I1, rx, a, dx, fs, ex, ea, l, q⟩ => ?_) h3⟩
  subst ex
  obtain rfl : u = Value.ref a := rx
  refine getmeth_ok I1 ea c hm l ?_
  exact PySem.W.callWith_K0 (first := [.ref a]) I1.kIn hm.kp (wpAny_call (run_fnR (us := [.ref a]) (vs := [.ref a]) F hr hx I1 (.cons rfl .nil) q))
end

/-! ### {x:spec} -/
/-- v written by the spec sp is the text y -/
def FmtOk (sp : Str) (x : V) (y : Str) : Prop := ∀ (prog : Program) (w : World) (A : Around) (E : Value → Shared → Prop) (s : Shared) (v : Value) (Q : Value → Shared → Prop), RelV x v →
  (∀ t k, Q (.str y t) { s with toks := k }) → wpAny (model prog w) A (formatField v sp) Q E s
def tFmtS (sp : Str) (te : TE) : TE := fun σ H Q => te σ H fun x H1 => ∃ y, FmtOk sp x y ∧ Q (.str y) H1
theorem pe_fmtS {X : Cx} {e spec : Expr} {te : TE} {sp : Str} {pos : Pos} (hs : PE X spec (tC (.str sp))) (he : PE X e te) : PE X (.FormattedValue e (-1) (some spec) pos) (tFmtS sp te) := by
  refine ⟨fun pins s σ H Q I h => wpAny_FormattedValue_spec (thn (he.run pins s σ H _ I h) fun v s1 ⟨x, H1, I1, r1, y, fo, q⟩ => ?_)⟩
  refine thn (hs.run pins s1 σ H1 (fun z H2 => z = .str sp ∧ H2 = H1) I1 ⟨rfl, rfl⟩) fun r s2 ⟨z, H2, I2, r2, ez, eH⟩ => ?_
  subst ez eH
  obtain ⟨t, rfl⟩ := r2
  exact ⟨sp, t, rfl, fo _ _ _ _ _ _ _ r1 fun t' k => ⟨.str y, H2, I2.tok _, ⟨t', rfl⟩, q⟩⟩
set_option hygiene false in
local macro_rules | `(tactic| walk_at "fmti") => `(tactic| (
  intro prog w A E s v Q r h
  obtain ⟨t, rfl⟩ := r
  refine PySem.W.KXf.field_int rfl (by decide +kernel) (by decide +kernel) ?_ h
  kxf_run_i))
set_option hygiene false in
local macro_rules | `(tactic| walk_at "fmts") => `(tactic| (
  intro prog w A E s v Q r h
  obtain ⟨t, rfl⟩ := r
  refine PySem.W.KXf.field_str rfl rfl (by decide +kernel) (by decide +kernel) ?_ h
  kxf_run_s))
theorem fr0 : FmtOk ">2" (.int 0) " 0" := by walk_at "fmti"
theorem fr1 : FmtOk ">2" (.int 1) " 1" := by walk_at "fmti"
theorem fr2 : FmtOk ">2" (.int 2) " 2" := by walk_at "fmti"
theorem fr3 : FmtOk ">2" (.int 3) " 3" := by walk_at "fmti"
theorem fr4 : FmtOk ">2" (.int 4) " 4" := by walk_at "fmti"
theorem fr5 : FmtOk ">2" (.int 5) " 5" := by walk_at "fmti"
theorem fs0 : FmtOk "_>4" (.int 0) "___0" := by walk_at "fmti"
theorem fs1 : FmtOk "_>4" (.int 1) "___1" := by walk_at "fmti"
theorem fs2 : FmtOk "_>4" (.int 2) "___2" := by walk_at "fmti"
theorem fs3 : FmtOk "_>4" (.int 3) "___3" := by walk_at "fmti"
theorem fs4 : FmtOk "_>4" (.int 4) "___4" := by walk_at "fmti"
theorem fs5 : FmtOk "_>4" (.int 5) "___5" := by walk_at "fmti"
theorem fs6 : FmtOk "_>4" (.int 6) "___6" := by walk_at "fmti"
theorem fs7 : FmtOk "_>4" (.int 7) "___7" := by walk_at "fmti"
theorem fb0 : FmtOk "<8" (.str "none") "none    " := by walk_at "fmts"
theorem fb1 : FmtOk "<8" (.str "follow") "follow  " := by walk_at "fmts"
theorem fb2 : FmtOk "<8" (.str "plain") "plain   " := by walk_at "fmts"
theorem fb3 : FmtOk "<8" (.str "guarded") "guarded " := by walk_at "fmts"
end Hue

set_option Elab.async false
set_option linter.all false
set_option maxRecDepth 100000
set_option maxHeartbeats 1000000
/-! list comprehensions whose item may raise (a call in it lets an exception out) -/
namespace Hue
open PySem PySem.Spec PyProof.Rows L2

/-- the end of a block: as it ends, or with what is raised, at the block's own frame -/
def endLc (M : Model) (A : Around) (E : Value → Shared → Prop) (use : Option (Value → Sem Unit)) (Q : Value → Shared → Prop) (acc : Value) (ce : Env) (r : Result) (s' : Shared) : Prop :=
  match r with
  | .ok f => compPost M A E use Q acc ce.locals (.ok f) s'
  | .error x => ∃ m, s'.heap.Ns ce.locals m ∧ ∀ h', Heap.SameBut ce.locals s'.heap h' → wpAny M A (passOn "comprehension.variables-let-go" x ce : Sem Value) (fun _ _ => False) E { s' with heap := h' }
theorem comp_end {M : Model} {A : Around} {E : Value → Shared → Prop} {s : Shared} {env : Env} {e : Expr} {scope : Scope} {pos : Pos} {mk0 fst0 : Sem Value} {g : Comprehension} {gs : List Comprehension} {cl : List (Str × Addr)} {use : Option (Value → Sem Unit)}
    {Q : Value → Shared → Prop} (h1 : clausesOf e = g :: gs) (h2 : ∀ x, foldedSetIterable g.iter env x = pure x) (h3 : closureFor scope env = pure cl) (h4 : scope.kind = .function)
    (h5 : ∀ x ∈ scope.names, x.2 = .local → scope.names.lookup x.1 = some .local)
    (h : wpAny M A fst0 (fun x s1 => wpAny M A (pyIter x) (fun it s2 => wpAny M A mk0 (fun acc s3 => wpAny M A (newFunctionEnv scope env.globals cl [] env.qual none .none (some env)) (fun ce s4 =>
      codeAny M A (.compStart e 0 it acc { ce with scope := relabel scope env }) (endLc M A E use Q acc { ce with scope := relabel scope env }) s4) E s3) E s2) E s1) E s) :
    wpAny M A (comprehension e scope env pos mk0 false fst0 use) Q E s := by
  unfold comprehension
  rw [h3, h1]
  refine wpAny_bind (wpAny_mono h (fun x s1 k1 => wpAny_bind (wpAny_standAt (wpAny_bind (wpAny_of_eq (h2 x) (wpAny_bind (wpAny_holding (wpAny_mono k1 (fun it s2 k2 => wpAny_standIf (wpAny_bind (wpAny_mono k2 (fun acc s3 k3 =>
    wpAny_bind (wpAny_pure (wpAny_bind (wpAny_mono k3 (fun ce s4 k4 => ?_) fun _ _ z => z)))) fun _ _ z => z))) fun _ _ z => z))))))) fun _ _ z => z)
  dsimp only
  have kv : ∀ x ∈ (scope.names.filter fun x => (x.2 == .local || x.2 == .cell) && x.1 != (".0" : Str)).reverse, x.2 = .local → Env.kindOf { ce with scope := relabel scope env } x.1 = some .local :=
    fun x hx hl => lookup_relabel_local (h5 x (List.mem_filter.mp (List.mem_reverse.mp hx)).1 hl)
  have kw : ∀ x ∈ (scope.names.filter fun x => (x.2 == .local || x.2 == .cell) && x.1 != (".0" : Str)).reverse.drop 1 ++ (scope.names.filter fun x => (x.2 == .local || x.2 == .cell) && x.1 != (".0" : Str)).reverse.take 1,
      x.2 = .local → Env.kindOf { ce with scope := relabel scope env } x.1 = some .local := fun x hx hl => (List.mem_append.mp hx).elim (fun z => kv x (List.mem_of_mem_drop z) hl) fun z => kv x (List.mem_of_mem_take z) hl
  refine wpAny_holding (wpAny_bind (wpAny_attempt (wpAny_holding (wpAny_run (codeAny_mono k4 fun r s' hr => ?_)))))
  cases r with
  | ok f =>
    cases use with
    | none =>
      obtain ⟨m, hn, hr⟩ := hr
      exact wpAny_bind (wpAny_holding (wpAny_comp_letGo (cenv := { ce with scope := relabel scope env }) h4 _ s' m kv hn fun h' m' _ hs' => wpAny_pure (hr h' hs')))
    | some u =>
      refine wpAny_bind (wpAny_rule (wpAny_bind (wpAny_holding (wpAny_mono hr (fun _ s'' ⟨m, hn, hr'⟩ => ?_) fun _ _ z => z))))
      exact wpAny_bind (wpAny_comp_letGo (cenv := { ce with scope := relabel scope env }) h4 _ s'' m kw hn fun h' m' _ hs' => wpAny_pure (hr' h' hs'))
  | error x =>
    obtain ⟨m, hn, hr⟩ := hr
    exact wpAny_bind (wpAny_holding (wpAny_comp_letGo (cenv := { ce with scope := relabel scope env }) h4 _ s' m kv hn fun h' m' _ hs' => wpAny_mono (hr h' hs') (fun _ _ f => f.elim) fun _ _ y => y))

/-- the block's context where its item may raise: what a call in it lets out, wished for as W -/
abbrev blkX (X : Cx) (W : XK) (s : Shared) (H : Hp) (scope : Scope) (ce : Env) (fp : List Addr) : Cx :=
  { X.blk s H scope ce fp with xe := fun u s' => ∃ (pins : List (Addr × Obj)) (σ : L2.St) (H' : Hp) (s0 : Shared), Inv (X.blk s H scope ce fp) pins σ H' s0 ∧ L2.CX X.prog X.w X.stack H' s0 W u s' }
theorem Inv.ofX {X : Cx} {W : XK} {s : Shared} {H : Hp} {scope : Scope} {ce : Env} {fp : List Addr} {pins : List (Addr × Obj)} {σ : L2.St} {H' : Hp} {s0 : Shared} (I : Inv (blkX X W s H scope ce fp) pins σ H' s0) : Inv (X.blk s H scope ce fp) pins σ H' s0 :=
  ⟨⟨I.ok.1, I.ok.2, I.ok.3, I.ok.4, I.ok.5, I.ok.6, I.ok.7, I.ok.8, I.ok.9, I.ok.10, I.ok.11, I.ok.12, I.ok.13, I.ok.14, I.ok.15, I.ok.16, I.ok.17, I.ok.18⟩, I.os, I.bare, I.base, I.loc, I.cell, I.free, I.freeC, I.pin, I.hok, I.len⟩
theorem Inv.toX {X : Cx} {W : XK} {s : Shared} {H : Hp} {scope : Scope} {ce : Env} {fp : List Addr} {pins : List (Addr × Obj)} {σ : L2.St} {H' : Hp} {s0 : Shared} (I : Inv (X.blk s H scope ce fp) pins σ H' s0) : Inv (blkX X W s H scope ce fp) pins σ H' s0 :=
  ⟨⟨I.ok.1, I.ok.2, I.ok.3, I.ok.4, I.ok.5, I.ok.6, I.ok.7, I.ok.8, I.ok.9, I.ok.10, I.ok.11, I.ok.12, I.ok.13, I.ok.14, I.ok.15, I.ok.16, I.ok.17, I.ok.18⟩, I.os, I.bare, I.base, I.loc, I.cell, I.free, I.freeC, I.pin, I.hok, I.len⟩
theorem cx_mono {P : Program} {w : World} {outer : List Env} {H : Hp} {s : Shared} {E W : XK} {u : Value} {s' : Shared} (c : L2.CX P w outer H s E u s') (h : ∀ cls d H, E cls d H → W cls d H) : L2.CX P w outer H s W u s' := by
  obtain ⟨a, B, H', cls, d, c1, c2, c3, c4, c5, c6, c7, c8⟩ := c
  exact ⟨a, B, H', cls, d, c1, c2, c3, c4, c5, c6, c7, h _ _ _ c8⟩
theorem passB {X : Cx} {W : XK} {s : Shared} {H : Hp} {scope : Scope} {ce : Env} {fp : List Addr} : Passes (L2.CX X.prog X.w) (blkX X W s H scope ce fp) W :=
  fun pins σ H' s0 u s' I c => ⟨pins, σ, H', s0, Inv.ofX I, c⟩
theorem note_frame {x : Value} {ce env : Env} (h : ce.frame = env.frame) : noteFrame x ce = noteFrame x env := by
  unfold noteFrame PySem.frameOf
  rw [h]
theorem frames_but {h h' base base' : Heap} {C : Addr} (sb : Heap.SameBut C h h') (hb : ∀ b, base.get? b = none → base'.get? b = none) : ∀ {l : List Env}, h.FunFrames base l → C ∉ frs l → h'.FunFrames base' l
  | [], _, _ => trivial
  | env :: l, ⟨k1, ⟨L, o, f1, f2, f3, f4⟩, k3⟩, n => by
    refine ⟨k1, ⟨L, o, f1, hb _ f2, (sb.2 L ?_).trans f3, f4⟩, frames_but sb hb k3 fun hm => n ?_⟩
    · intro e
      exact n (List.mem_filterMap.mpr ⟨env, List.mem_cons_self, by rw [f1, e]⟩)
    · obtain ⟨e, he, q⟩ := List.mem_filterMap.mp hm
      exact List.mem_filterMap.mpr ⟨e, List.mem_cons_of_mem _ he, q⟩
/-- what a call in the block lets out, noted there, is in the def's own air -/
theorem blk_err {X : Cx} {pins pins' : List (Addr × Obj)} {σ σ' : L2.St} {H3 H' : Hp} {s3 s0 s' : Shared} {W : XK} {scope : Scope} {ce : Env} {fp : List Addr} {u : Value} (I3 : Inv X pins σ H3 s3) (hs : X.stack = X.env :: X.outer) (hf : X.env.frame = some X.env.locals)
    (hfr : ce.frame = X.env.frame) (hC : ce.locals = s3.heap.objs.size) (f3 : ∀ b ∈ fp, FpOk X pins H3 b) (tk : L2.Takes X fun cls d _ H => W cls d H) (I : Inv (X.blk s3 H3 scope ce fp) pins' σ' H' s0) (c : L2.CX X.prog X.w X.stack H' s0 W u s') (what : String) :
    notedBy (model X.prog X.w) X.A ce (fun e s2 => ∃ m, s2.heap.Ns ce.locals m ∧ ∀ h', Heap.SameBut ce.locals s2.heap h' → wpAny (model X.prog X.w) X.A (passOn what e ce : Sem Value) (fun _ _ => False) X.xe { s2 with heap := h' }) u s' := by
  obtain ⟨a, B, H2, cls, d, rfl, fl, hok, ub, na, os, ag, hW⟩ := c
  obtain ⟨mC, nsC, _⟩ := I.loc
  have nC : H' ce.locals = none := I.free
  have frC : ce.locals ∉ frs X.stack := fun hm => by
    obtain ⟨_, o, e, _⟩ := I3.stack.mem hm
    rw [hC] at e
    exact absurd (Heap.lt_size e) (Nat.lt_irrefl _)
  have nsB : B.Ns ce.locals mC := nsC.at fun o e => ub.keep _ o e nC frC
  have ns' : s'.heap.Ns ce.locals mC := nsB.at fun o e => fl.1 _ o e
  have hfA : X.A.frames = some (X.env :: X.outer) := by rw [I3.ok.frames, hs]
  unfold notedBy
  rw [note_frame hfr]
  rw [hs] at fl
  refine HandSPX.looks_onZ Zc.steady hfA hf fl fun h1 hl up1 => ?_
  have ns1 : h1.Ns ce.locals mC := nsB.at fun o e => hl.1 _ o e
  refine ⟨mC, ns1, fun h2 sb => ?_⟩
  -- the ground without the block's variables
  generalize hB2 : PySem.W.hideAll B [ce.locals] = B2
  have b2s : ∀ b o, B2.get? b = some o → B.get? b = some o ∧ b ≠ ce.locals := fun b o e => by
    rw [← hB2] at e
    refine ⟨PySem.W.of_hideAll _ e, fun z => ?_⟩
    rw [z, PySem.W.hideAll_none [ce.locals] (List.mem_singleton.mpr rfl)] at e
    cases e
  have b2g : ∀ b o, B.get? b = some o → b ≠ ce.locals → B2.get? b = some o := fun b o e n => by
    rw [← hB2]
    exact PySem.W.hideAll_get _ e fun z => n (List.mem_singleton.mp z)
  have b2n : ∀ b, B.get? b = none → B2.get? b = none := fun b e => by
    cases q : B2.get? b with
    | none => rfl
    | some o => rw [(b2s b o q).1] at e; cases e
  obtain ⟨g1, g2, g3, oe, vs, T, oT, ts, t1, t2, t3, t4, t5, t6, t7, t8, t9⟩ := hl
  have nfC : ∀ o vs, h1.get? ce.locals = some o → o.data ≠ .fields vs := fun o vs e q => by
    obtain ⟨oC, es, ep, q1, q2, _⟩ := ns1
    rw [q1] at e; cases e
    rw [q2] at q; cases q
  have aC : a ≠ ce.locals := fun e => nfC oe vs (by rw [← e]; exact t1) t3
  have TC : T ≠ ce.locals := fun e => nfC oT ts (by rw [← e]; exact t7) t8
  have hl2 : HandSPX.HeldZ B2 (X.env :: X.outer) a (Zc cls d) X.env.locals h2 := by
    refine ⟨fun b o e => ?_, b2n _ g2, frames_but sb b2n g3 (by rw [← hs]; exact frC), oe, vs, T, oT, ts, (sb.2 _ aC).trans t1, t2, t3, t4, b2n _ t5, t6, (sb.2 _ TC).trans t7, t8, t9⟩
    obtain ⟨k1, k2⟩ := b2s b o e
    exact (sb.2 _ k2).trans (g1 _ _ k1)
  unfold PySem.passOn
  refine wpAny_bind (wpAny_field (s := { s' with heap := h2 }) ((sb.2 _ aC).trans t1) t3 t4 ?_)
  rw [if_neg (by simp)]
  rw [hfr, hf]
  refine wpAny_bind (HandSPX.setFlight_onZ (s := { s' with heap := h2 }) hl2 fun h3 hl3 up3 => wpAny_throw (tk _ _ ?_))
  obtain ⟨G, q1, q2⟩ := restrict s'.heap fun b => (B2.get? b).isSome || decide (b ∈ frs X.stack)
  have stB : B.StaysIn s'.heap := fl.1
  have gB : ∀ b o, B2.get? b = some o → G.get? b = some o := fun b o e => by
    rw [q1 b (by simp [e])]
    exact stB b o (b2s b o e).1
  have gF : ∀ b, b ∈ frs X.stack → G.get? b = s'.heap.get? b := fun b hb => q1 b (by simp [hb])
  have og : ∀ b o, G.get? b = some o → s'.heap.get? b = some o ∧ ((B2.get? b).isSome = true ∨ b ∈ frs X.stack) := fun b o e => by
    cases q : ((B2.get? b).isSome || decide (b ∈ frs X.stack)) with
    | false => rw [q2 b q] at e; cases e
    | true =>
      rw [q1 b q] at e
      exact ⟨e, by simpa [Bool.or_eq_true] using q⟩
  have gC : ∀ o, G.get? ce.locals ≠ some o := fun o e => by
    rcases (og _ _ e).2 with z | z
    · obtain ⟨o', z⟩ := Option.isSome_iff_exists.mp z
      exact (b2s _ _ z).2 rfl
    · exact frC z
  -- the state ahead of the call, without the block's variables
  have hid : ∀ b o, s0.heap.get? b = some o → b ≠ ce.locals → (PySem.W.hideAll s0.heap [ce.locals]).get? b = some o := fun b o e n => PySem.W.hideAll_get _ e fun z => n (List.mem_singleton.mp z)
  have ltC : ∀ b o, s3.heap.get? b = some o → b ≠ ce.locals := fun b o e z => by
    rw [z, hC] at e
    exact absurd (Heap.lt_size e) (Nat.lt_irrefl _)
  have tr : ∀ (Hx : Hp) (h h' : Heap), Hx ce.locals = none → HOk X.prog X.w Hx h → (∀ b o, h.get? b = some o → b ≠ ce.locals → h'.get? b = some o) → HOk X.prog X.w Hx h' := fun Hx h h' nx k kp b o e =>
    (k b o e).stay (fun c u hc r => kp c u r fun z => by
      rcases hc with hc | hc
      · rw [← hc, z, nx] at e; cases e
      · rw [z, nx] at hc; cases hc) (fun _ r => r) fun _ _ r => r
  have U := I.base
  have I1 : Inv X pins σ H' { s0 with heap := PySem.W.hideAll s0.heap [ce.locals] } := by
    refine I3.call' (ch := fp) I.os ⟨fun b o e n hb hx => ?_, fun b o e n hb hx => ?_, U.free, fun b o e hx => ?_, U.tups, U.frzs, U.tbls⟩ (tr H' _ _ nC I.hok hid) I.bare fun b hb => ⟨(f3 b hb).2.2.2.1, (f3 b hb).2.1, (f3 b hb).2.2.2.2.1, (f3 b hb).2.2.2.2.2⟩
    · exact hid _ _ (U.keep b o e n hb hx) (ltC b o e)
    · obtain ⟨sl, q⟩ := U.slot b o e n hb hx
      exact ⟨sl, hid _ _ q (ltC b o e)⟩
    · obtain ⟨o', q⟩ := U.there b o e hx
      exact ⟨o', hid _ _ q (ltC b o e)⟩
  have nC2 : H2 ce.locals = none := by
    obtain ⟨oC, es, ep, e1, _⟩ := nsC
    exact ub.free _ oC e1 nC
  have hs0 : ∀ b o, (PySem.W.hideAll s0.heap [ce.locals]).get? b = some o → s0.heap.get? b = some o ∧ b ≠ ce.locals := fun b o e => ⟨PySem.W.of_hideAll _ e, fun z => by
    rw [z, PySem.W.hideAll_none [ce.locals] (List.mem_singleton.mpr rfl)] at e
    cases e⟩
  have I2 : Inv X pins σ H2 { s0 with heap := G, gens := s'.gens, drawn := s'.drawn, toks := s'.toks } := by
    refine Inv.call (s := { s0 with heap := PySem.W.hideAll s0.heap [ce.locals] }) (h' := G) (H' := H2) I1 (ch := []) (g' := s'.gens) (t' := s'.toks) (d' := s'.drawn) ⟨fun b o e n hb _ => ?_, fun b o e n hb _ => ?_, fun b o e n _ => ub.free b o (hs0 b o e).1 n, fun b o e _ => ?_, ub.tups, ub.frzs, ub.tbls⟩ (tr H2 B G nC2 hok fun b o e n => gB b o (b2g b o e n)) ag (fun _ z => nomatch z)
    · exact gB b o (b2g b o (ub.keep b o (hs0 b o e).1 n hb) (hs0 b o e).2)
    · obtain ⟨sl, q⟩ := ub.slot b o (hs0 b o e).1 hb
      exact ⟨sl, by rw [gF b hb]; exact q⟩
    · by_cases hb : b ∈ frs X.stack
      · obtain ⟨sl, q⟩ := ub.slot b o (hs0 b o e).1 hb
        exact ⟨_, by rw [gF b hb]; exact q⟩
      · obtain ⟨o', q⟩ := ub.there b o (hs0 b o e).1 hb
        exact ⟨o', gB b o' (b2g b o' q (hs0 b o e).2)⟩
  refine ⟨a, B2, _, pins, σ, H2, cls, d, rfl, I2, fun b o e hb => ?_, fun b o e hnf => ?_, .inr (.inr (by rw [hs]; exact hl3)), na, os, ag, hW⟩
  · obtain ⟨e', z⟩ := og b o e
    rcases z with z | z
    · obtain ⟨o', z⟩ := Option.isSome_iff_exists.mp z
      have q := stB b o' (b2s b o' z).1
      rw [e'] at q; cases q
      exact z
    · exact absurd z hb
  · have bC : b ≠ ce.locals := fun z => gC o (by rw [← z]; exact e)
    obtain ⟨sl, e1⟩ := up1 b o (og b o e).1 hnf
    obtain ⟨sl2, e2⟩ := up3 b _ ((sb.2 _ bC).trans e1) hnf
    exact ⟨sl2, e2⟩

section
variable {X : Cx} {W : XK} {elt tg iter : Expr} {ifs : List Expr} {scope : Scope} {own : List (Str × Nat)} {wi : TI} {g : TG} {tt : TT} {te : TE}
/-- as the library's block of one clause, its item judged where a call in it may raise -/
theorem lcx_core {pins : List (Addr × Obj)} {s : Shared} {σ : L2.St} {H : Hp} {Q : VK} {pos pos' : Pos} {use : Option (Value → Sem Unit)} {Qf : Value → Shared → Prop}
    (hc : X.calm = true) (hN : X.N.Nodup) (hst : X.stack = X.env :: X.outer) (hfr : X.env.frame = some X.env.locals) (tk : L2.Takes X fun cls d _ H => W cls d H) (I : Inv X pins σ H s) (hi : PI X tg iter wi) (ok : BlkOk X.N X.env.scope scope own)
    (hg : ∀ (s : Shared) (H : Hp) (C : Addr) (cl : List (Str × Addr)) (fp : List Addr), PG (X.blk s H scope (compEnvC scope cl C X.env) fp) tg g) (ht : ∀ (s : Shared) (H : Hp) (C : Addr) (cl : List (Str × Addr)) (fp : List Addr), PTs (X.blk s H scope (compEnvC scope cl C X.env) fp) ifs tt)
    (he : ∀ (s : Shared) (H : Hp) (C : Addr) (cl : List (Str × Addr)) (fp : List Addr), PE (blkX X W s H scope (compEnvC scope cl C X.env) fp) elt te) (hsi : ∀ x, foldedSetIterable iter X.env x = pure x)
    (h : tLc wi g tt te (own.map (·.2)) σ H Q)
    (fin : ∀ D C s' m H', Inv X pins σ H' s' → Q (.ref D) H' → s'.heap.Ns C m → FpOk X pins H' C → compPost (model X.prog X.w) X.A X.xe use Qf (.ref D) C (.ok .next) s') :
    wpAny (model X.prog X.w) X.A (comprehension (.ListComp elt [⟨tg, iter, ifs, 0⟩] scope pos) scope X.env pos' (newList []) false (eval iter X.env) use) Qf X.xe s := by
  have fre : ∀ y ∈ scope.names, y.2 = .free → ∃ c, X.env.cells.lookup y.1 = some c := fun y hy e => (ok.free y hy e).elim (fun z => I.ok.has _ (.inl z)) fun z => I.ok.has _ (.inr z)
  refine comp_end (use := use) rfl hsi (closure_ok fre) ok.kind (fun y hy e => by rw [ok.uniq y hy, e])
    (thn (hi.run pins s σ H _ I h) fun xv s1 hx => thn hx fun itv s2 ⟨it, fp, tn, J, H2, e, I2, T, st2, f2, q⟩ => ?_)
  subst e
  refine wpAny_newObj_type (newEnv_comp ?_) (Nat.zero_le _)
  generalize hD : s2.heap.objs.size = D
  have nD : H2 D = none := I2.hok.fresh (Nat.le_of_eq hD)
  obtain ⟨Wv, ⟨m0, w0⟩, turn⟩ := q D nD
  generalize hs3 : ({ s2 with heap := s2.heap.push { cls := .type "list", data := .seq ([] : List Value).toArray } } : Shared) = s3
  have h3 : s3.heap = s2.heap.push { cls := .type "list", data := .seq ([] : List Value).toArray } := by rw [← hs3]
  have I3 : Inv X pins σ (L2.upd H2 D (.lst [])) s3 := by
    rw [← hs3]
    refine I2.laid (t' := s2.toks) (fun b o e => Heap.get?_push_of_some _ e) (Nat.le_of_eq hD) ⟨Nat.zero_le _, [], 0, .nil, ?_⟩
    rw [← hD]
    exact Heap.get?_push_size _ rfl
  have lt2 : ∀ b ∈ fp, b < s2.heap.objs.size := fun b hb => by
    obtain ⟨o, e, _⟩ := T.obj _ _ st2 b hb
    exact Heap.lt_size e
  have f3 : ∀ b ∈ fp, FpOk X pins (L2.upd H2 D (.lst [])) b ∧ b < s3.heap.objs.size := fun b hb =>
    ⟨⟨by rw [upd_ne (by rw [← hD]; exact Nat.ne_of_lt (lt2 b hb))]; exact (f2 b hb).1, (f2 b hb).2⟩, by rw [h3, Heap.size_push]; exact Nat.lt_succ_of_lt (lt2 b hb)⟩
  have st3 : tn 0 s3.heap := T.keep _ _ _ st2 fun b _ o e => by rw [h3]; exact Heap.get?_push_of_some _ e
  have I4 := block_start I3 ok hN f3
  have pg := hg s3 (L2.upd H2 D (.lst [])) s3.heap.objs.size (cellsFrom (s3.heap.objs.size + 1) scope.names (cloFrom X.env.cells scope.names [])) fp
  have pt := ht s3 (L2.upd H2 D (.lst [])) s3.heap.objs.size (cellsFrom (s3.heap.objs.size + 1) scope.names (cloFrom X.env.cells scope.names [])) fp
  have pe := he s3 (L2.upd H2 D (.lst [])) s3.heap.objs.size (cellsFrom (s3.heap.objs.size + 1) scope.names (cloFrom X.env.cells scope.names [])) fp
  show codeAny _ _ (.compStart (.ListComp elt [⟨tg, iter, ifs, 0⟩] scope pos) 0 (.ref it) (.ref D) (compEnvC scope (cellsFrom (s3.heap.objs.size + 1) scope.names (cloFrom X.env.cells scope.names [])) s3.heap.objs.size X.env)) (endLc (model X.prog X.w) X.A X.xe use Qf (.ref D) (compEnvC scope (cellsFrom (s3.heap.objs.size + 1) scope.names (cloFrom X.env.cells scope.names [])) s3.heap.objs.size X.env)) { s3 with heap := pushCells (s3.heap.push { cls := .type "dict", data := .dict #[] }) scope.names }
  generalize hce : compEnvC scope (cellsFrom (s3.heap.objs.size + 1) scope.names (cloFrom X.env.cells scope.names [])) s3.heap.objs.size X.env = ce at I4 pg pt pe ⊢
  have cL : ce.locals = s3.heap.objs.size := by subst hce; rfl
  have cF : ce.frame = X.env.frame := by subst hce; rfl
  generalize hH3 : L2.upd H2 D (.lst []) = H3 at I3 I4 pg pt pe w0 f3
  generalize hs4 : ({ s3 with heap := pushCells (s3.heap.push { cls := .type "dict", data := .dict #[] }) scope.names } : Shared) = s4 at I4 ⊢
  have st4 : tn 0 s4.heap := T.keep _ _ _ st3 fun b _ o e => by rw [← hs4]; exact pushCells_keeps _ _ _ _ (Heap.get?_push_of_some _ e)
  have stat : ∀ {σ' : L2.St} {H' : Hp} {s' : Shared}, Inv (X.blk s3 H3 scope ce fp) [] σ' H' s' → (∀ b ∈ fp, H' b = none) → ∀ b ∈ fp, FpOk (X.blk s3 H3 scope ce fp) [] H' b := fun {σ' H' s'} I' hn b hb =>
    ⟨hn b hb, (I'.ok.exf b hb).1, I'.ok.exfs b hb, .inl hb, fun x c e => (I'.ok.exf b hb).2 x c e, fun p hp => absurd (show p ∈ ([] : List (Addr × Obj)) ++ [] from hp) (by simp)⟩
  have loop : codeAny (model X.prog X.w) X.A (.compLoop (.ListComp elt [⟨tg, iter, ifs, 0⟩] scope pos) 0 (.ref it) (.ref D) ce) (endLc (model X.prog X.w) X.A X.xe use Qf (.ref D) ce) s4 := by
    refine compLoop_any (fun n s' => ∃ i H', Inv (X.blk s3 H3 scope ce fp) [] (wipe σ (own.map (·.2))) H' s' ∧ tn i s'.heap ∧ (∀ b ∈ fp, H' b = none) ∧ Wv i n H') ?_ m0 ⟨0, H3, I4, st4, fun b hb => (f3 b hb).1.1, w0⟩
    rintro n s5 ⟨i, H5, I5, st5, n5, w5⟩
    rcases turn i n H5 w5 with ⟨stop, qq⟩ | ⟨go, Nx, hNx, step⟩
    · refine thnF (T.done (X.blk s3 H3 scope ce fp) rfl rfl rfl hc i [] s5 _ H5 (fun _ _ => False) I5 (stat I5 n5) st5 stop) fun r s6 ⟨hr, I6⟩ => ?_
      subst hr
      have I7 : Inv X pins σ H5 s6 := I3.call' (ch := fp) I6.os I6.base I6.hok I6.bare fun b hb => ⟨(f3 b hb).1.2.2.2.1, (f3 b hb).1.2.1, (f3 b hb).1.2.2.2.2.1, (f3 b hb).1.2.2.2.2.2⟩
      have nC : H5 s3.heap.objs.size = none := by rw [← cL]; exact I6.free
      obtain ⟨m, hn, _⟩ := I6.loc
      show compPost (model X.prog X.w) X.A X.xe use Qf (.ref D) ce.locals (.ok .next) s6
      rw [cL]
      exact fin D s3.heap.objs.size s6 m H5 I7 qq (by rw [← cL]; exact hn) (I3.fpOk (Nat.le_refl _) nC)
    · refine thnF (T.item (X.blk s3 H3 scope ce fp) rfl rfl rfl hc i [] s5 _ H5 (fun _ _ => False) I5 (stat I5 n5) st5 go) fun r s6 ⟨u, hr, h6⟩ => ?_
      subst hr
      refine thnF h6 fun _ s7 ⟨x, H7, I7, r7, y7, st7, n7⟩ => ?_
      refine thnF (pg.run _ s7 _ H7 x u _ (I7.pinned (stat I7 n7) (T.obj _ _ st7)) r7 (step x H7 y7)) fun _ s8 ⟨σ8, H8, I8, hw8, q8⟩ => ?_
      refine thnF (pt.run _ s8 σ8 H8 _ I8 q8) fun b s9 ⟨H9, I9, q9⟩ => ?_
      have back : ∀ {s' : Shared} {H' : Hp}, Inv (X.blk s3 H3 scope ce fp) ([] ++ pinsAt fp s7.heap) σ8 H' s' → Nx H' → ∃ m, m < n ∧ ∃ i H', Inv (X.blk s3 H3 scope ce fp) [] (wipe σ (own.map (·.2))) H' s' ∧ tn i s'.heap ∧ (∀ b ∈ fp, H' b = none) ∧ Wv i m H' := fun {s' H'} I' nx => by
        obtain ⟨m', hm, w'⟩ := hNx H' nx
        have pin' : ∀ b ∈ fp, ∀ o, s7.heap.get? b = some o → s'.heap.get? b = some o ∧ H' b = none := fun b hb o e =>
          let z := I'.pin (b, o) (List.mem_append_right _ (List.mem_append_right _ (mem_pinsAt hb e)))
          ⟨z.1, z.2.1⟩
        refine ⟨m', hm, i + 1, H', (I'.unpinned (pins := [])).weak (by rw [← hw8, wipe_length]) (fun j v e => ?_), T.keep _ _ _ st7 fun b hb o e => (pin' b hb o e).1, fun b hb => ?_, w'⟩
        · rw [← hw8] at e
          exact (wipe_some e).1
        · obtain ⟨o, e, _⟩ := T.obj _ _ st7 b hb
          exact (pin' b hb o e).2
      cases b with
      | false =>
        simp only [Bool.false_eq_true, if_false] at q9 ⊢
        exact back I9 q9
      | true =>
        simp only [if_true] at q9 ⊢
        refine wpAny_mono (pe.run _ s9 σ8 H9 _ (Inv.toX I9) q9) (fun z s10 ⟨yv, H10, I10, r10, acc, hD10, hz10, nx⟩ => ?_) fun u s' ⟨pins', σ', H', s0, I', c⟩ => ?_
        · exact app_ok (X := X.blk s3 H3 scope ce fp) (Inv.ofX I10) hD10 hz10 r10 fun s11 I11 => back I11 nx
        · exact blk_err I3 hst hfr cF cL (fun b hb => (f3 b hb).1) tk I' c _
  exact codeAny_compStart_list loop (T.self X.A 0 _ _ _ st4 loop)
theorem pe_lcX {pos : Pos} (hst : X.stack = X.env :: X.outer) (hfr : X.env.frame = some X.env.locals) (tk : L2.Takes X fun cls d _ H => W cls d H) (hc : X.calm = true) (hN : X.N.Nodup) (hi : PI X tg iter wi) (ok : BlkOk X.N X.env.scope scope own)
    (hg : ∀ (s : Shared) (H : Hp) (C : Addr) (cl : List (Str × Addr)) (fp : List Addr), PG (X.blk s H scope (compEnvC scope cl C X.env) fp) tg g) (ht : ∀ (s : Shared) (H : Hp) (C : Addr) (cl : List (Str × Addr)) (fp : List Addr), PTs (X.blk s H scope (compEnvC scope cl C X.env) fp) ifs tt)
    (he : ∀ (s : Shared) (H : Hp) (C : Addr) (cl : List (Str × Addr)) (fp : List Addr), PE (blkX X W s H scope (compEnvC scope cl C X.env) fp) elt te) (hsi : ∀ x, foldedSetIterable iter X.env x = pure x := by intro _; rfl) :
    PE X (.ListComp elt [⟨tg, iter, ifs, 0⟩] scope pos) (tLc wi g tt te (own.map (·.2))) := by
  refine ⟨fun pins s σ H Q I h => ?_⟩
  rw [eval_ListComp]
  refine lcx_core hc hN hst hfr tk I hi ok hg ht he hsi h fun D C s' m H' I' q hn ⟨k0, k1, k2, k3, k4, k5⟩ => ⟨m, hn, fun h2 sb => ?_⟩
  exact ⟨.ref D, H', I'.turned (t' := s'.toks) (fun b o hb e => (sb.2 b hb).trans e) k0 k1 k3 k4 k5, rfl, q⟩
theorem ps_setLcX {i : Nat} {y : Str} {py pos spos : Pos} (hst : X.stack = X.env :: X.outer) (hfr : X.env.frame = some X.env.locals) (tk : L2.Takes X fun cls d _ H => W cls d H) (hc : X.calm = true) (hN : X.N.Nodup) (hy : X.N[i]? = some y) (hyl : X.env.scope.names.lookup y = some .local)
    (hsw : swapsWith (.ListComp elt [⟨tg, iter, ifs, 0⟩] scope pos) (some (.Name y py)) spos.line X.env = pure true) (hi : PI X tg iter wi) (ok : BlkOk X.N X.env.scope scope own)
    (hg : ∀ (s : Shared) (H : Hp) (C : Addr) (cl : List (Str × Addr)) (fp : List Addr), PG (X.blk s H scope (compEnvC scope cl C X.env) fp) tg g) (ht : ∀ (s : Shared) (H : Hp) (C : Addr) (cl : List (Str × Addr)) (fp : List Addr), PTs (X.blk s H scope (compEnvC scope cl C X.env) fp) ifs tt)
    (he : ∀ (s : Shared) (H : Hp) (C : Addr) (cl : List (Str × Addr)) (fp : List Addr), PE (blkX X W s H scope (compEnvC scope cl C X.env) fp) elt te) (hsi : ∀ x, foldedSetIterable iter X.env x = pure x := by intro _; rfl) :
    PS X (.Assign [.Name y py] (.ListComp elt [⟨tg, iter, ifs, 0⟩] scope pos) spos) (tAsg (tLc wi g tt te (own.map (·.2))) (gName i)) := by
  refine ⟨fun pins s σ H D I h => ?_⟩
  rw [exec_Assign_Name_used _ _ _ _ hsw]
  refine wpAny_bind (wpAny_standAt (wpAny_bind ?_))
  show wpAny _ X.A (do let _ ← comprehension (.ListComp elt [⟨tg, iter, ifs, 0⟩] scope pos) scope X.env (firstIterPos [⟨tg, iter, ifs, 0⟩] pos) (newList []) false (eval iter X.env) (some (assign (.Name y py) X.env))) _ _ s
  refine wpAny_bind (thn (lcx_core (Qf := fun _ s' => SP X pins D .next s') (Q := fun x H1 => gName i x σ H1 D.nx) hc hN hst hfr tk I hi ok hg ht he hsi h fun L C s' m H' I' q hn ⟨k0, k1, k2, k3, k4, k5⟩ => ?_) fun _ s' hq => wpAny_pure (wpAny_pure hq))
  show wpAny _ _ (assign (.Name y py) X.env (.ref L)) _ _ _
  refine wpAny_assign_Name (store_ok2 (v := V.ref L) I' hN hy (.inl hyl) rfl (fun s2 I2 ⟨a, sb, ha⟩ => ?_) (.inr hyl))
  have haC : C ≠ a := by
    rcases ha with z | z
    · rw [z]; exact k1
    · exact fun e => k4 y a z e.symm
  exact ⟨m, hn.sameBut sb haC, fun h3 sb3 => ⟨_, H', I2.turned (t' := s2.toks) (fun b o hb e => (sb3.2 b hb).trans e) k0 k1 k3 k4 k5, q⟩⟩
end
end Hue
namespace Hue
open PySem PySem.Spec PyProof.Rows L2
theorem callR_or {X : Cx} {f : Value} {r1 r2 : List V → Hp → VK → Prop} (h1 : CallR X f r1) (h2 : CallR X f r2) : CallR X f (fun xs H Q => r1 xs H Q ∨ r2 xs H Q) :=
  fun pins s σ H xs us Q I r h => h.elim (fun z => h1 pins s σ H xs us Q I r z) fun z => h2 pins s σ H xs us Q I r z
end Hue

set_option Elab.async false
set_option linter.all false
set_option maxRecDepth 100000
set_option maxHeartbeats 1000000
/-! operators of an own class: own + own, own * int and int * own where the class has both -/
namespace Hue
open PySem PySem.Spec PyProof.Rows L2
def rOwnO (C : Addr) (sp : Sp) (E : XK) : R2 := fun x y H Q => ∃ a b dx fs d2 f2, x = .ref a ∧ H a = some (.ins C dx fs) ∧ y = .ref b ∧ H b = some (.ins C d2 f2) ∧ sp [.ref a, .ref b] H Q E
def rIntO (C : Addr) (sp : Sp) (E : XK) : R2 := fun x y H Q => ∃ i b dx fs, x = .int i ∧ y = .ref b ∧ H b = some (.ins C dx fs) ∧ sp [.ref b, .int i] H Q E
theorem ep_back {X : Cx} {pins : List (Addr × Obj)} {σ : L2.St} {Q : VK} {u : Value} {s' : Shared} (hq : EP X pins σ Q u s') : PySem.W.CmpBack (EP X pins σ Q) u s' := by
  obtain ⟨z, H', I', rz, qz⟩ := hq
  exact SlX.cmpback rz ⟨z, H', I', rz, qz⟩
section
variable {prog : Program} {w : World} {A : Around} {E : Value → Shared → Prop} {s : Shared} {K : PySem.W.Frag} {x y C f L : Addr} {h0 : Heap} {m : Str → Option Value} {ox oy : Obj} {od oe : Option Obj}
/-- both of one own class -/
theorem bin_same {op : Operator} {Q : Value → Shared → Prop} (Fm : PyProof.Rows.Fr h0 L s.heap m) (X0 : K.In h0) (I : PySem.W.InstAt s.heap x ox C od) (J : PySem.W.InstAt s.heap y oy C oe) (hc : PySem.W.selfFirst K C = true)
    (hs : PySem.W.findIn K (.ref C) (PySem.dunder op.info.2) = some (some (.ref f))) (hf : PySem.W.isFn K (.ref f) = true)
    (h : wpAny (model prog w) A (call (.ref f) [.ref x, .ref y]) (PySem.W.CmpBack Q) E s) : wpAny (model prog w) A (binaryOp op (.ref x) (.ref y)) Q E s := by
  have X := X0.keeps Fm.keep
  obtain ⟨cd, rest, hcd, hm⟩ := PySem.W.ksp_first hc
  rcases hi : op.info with ⟨sym, nm⟩
  rw [hi] at hs
  dsimp only at hs
  have one := PySem.W.ksp_try X I hs hf h
  obtain ⟨hh, g, d, tt, os⟩ := s
  have L1 : PySem.W.Looks (model prog w) hh (typeOf (.ref x)) (.ref C) := I.type
  have L2' : PySem.W.Looks (model prog w) hh (typeOf (.ref y)) (.ref C) := J.type
  have L3 : PySem.W.Looks (model prog w) hh (fillsNumberSlot (.ref C) nm) true := PySem.W.fills_K X hcd hm hs
  have he : (Value.ref C == Value.ref C) = true := beq_self_eq_true _
  simp only [binaryOp, hi]
  refine wpAny_holding (wpAny_bind ?_)
  unfold binaryOp1
  refine wpAny_bind (L1.at (wpAny_bind (L2'.at (wpAny_bind (L3.at ?_)))))
  simp only [he, if_true]
  ksp_lk
  refine wpAny_mono one (fun r s' hr' => ?_) fun _ _ e => e
  obtain ⟨v, rfl, hq⟩ := hr'
  ksp_lk
  exact hq
theorem decl_int {i : Int} {t : Tok} {Q : Value → Shared → Prop} (hg : s.heap.get? y = some oy) (hp : oy.data = .plain) (h : Q .notImplemented s) : wpAny (model prog w) A (call (.builtin "int.__mul__") [.int i t, .ref y]) Q E s := by
  refine GQ.call_here PySem.F.slot_int_mul (typeIs_int s i t) PySem.F.entry_int_mul (PySem.F.args_int_mul_2 _ _) ?_
  obtain ⟨c, d, dt, sl⟩ := oy
  dsimp only at hp
  subst hp
  obtain ⟨hp, g, d, tk, os⟩ := s
  unfold Builtin.«int.__mul__» Builtin.Int.intBinary
  wp_walk
  exact h
theorem try_decl {v u : Value} {T id : String} {nm : Str} (hT : s.TypeIs v T) (hS : Slot T nm id) (h : wpAny (model prog w) A (call (.builtin id) [v, u]) (fun r s' => r = .notImplemented ∧ s' = s) E s) : wpAny (model prog w) A (tryMethod v nm u) (fun r s' => r = none ∧ s' = s) E s :=
  wpAny_tryMethod_declines hT hS (wpAny_mono h (fun _ _ ⟨a, b⟩ => ⟨a, rfl, b⟩) fun _ _ z => z)
/-- a built-in value on the left, its own method declines -/
theorem bin_left {op : Operator} {sym nm T id : String} {v : Value} {Q : Value → Shared → Prop} (hop : op.info = (sym, nm)) (Fm : PyProof.Rows.Fr h0 L s.heap m) (X0 : K.In h0) (I : PySem.W.InstAt s.heap y oy C od) (hc : PySem.W.selfFirst K C = true)
    (hs : PySem.W.findIn K (.ref C) (PySem.dunder nm) = some (some (.ref x))) (hr : PySem.W.findIn K (.ref C) (PySem.dunderR nm) = some (some (.ref f))) (hf : PySem.W.isFn K (.ref f) = true) (hsub : PySem.W.subIn K (.ref C) (.type T) = some false)
    (hv : typeOf v = pure (.type T)) (hT : s.TypeIs v T) (hS : Slot T (PySem.dunder nm) id) (hfl : fillsNumberSlot (.type T) nm = pure true) (hd : wpAny (model prog w) A (call (.builtin id) [v, .ref y]) (fun r s' => r = .notImplemented ∧ s' = s) E s)
    (h : wpAny (model prog w) A (call (.ref f) [.ref y, v]) (PySem.W.CmpBack Q) E s) : wpAny (model prog w) A (binaryOp op v (.ref y)) Q E s := by
  have X := X0.keeps Fm.keep
  obtain ⟨cd, rest, hcd, hm⟩ := PySem.W.ksp_first hc
  have two := PySem.W.ksp_try X I hr hf h
  have one := try_decl hT hS hd
  obtain ⟨hh, g, d, tt, os⟩ := s
  have L1 : PySem.W.Looks (model prog w) hh (typeOf v) (.type T) := PySem.W.Looks.of_pure hv
  have L2' : PySem.W.Looks (model prog w) hh (typeOf (.ref y)) (.ref C) := I.type
  have L3 : PySem.W.Looks (model prog w) hh (fillsNumberSlot (.type T) nm) true := PySem.W.Looks.of_pure hfl
  have L4 : PySem.W.Looks (model prog w) hh (fillsNumberSlot (.ref C) nm) true := PySem.W.fills_K X hcd hm hs
  have L5 : PySem.W.Looks (model prog w) hh (isSubtype (.ref C) (.type T)) false := PySem.W.looks_subIn X hsub
  have L6 : PySem.W.Looks (model prog w) hh (numberSlotInPython (.type T) nm) false := PySem.W.Looks.of_pure rfl
  have hne : (Value.type T == Value.ref C) = false := Bool.eq_false_iff.mpr fun q => by cases beq_iff_eq.mp q
  simp only [binaryOp, hop]
  refine wpAny_holding (wpAny_bind ?_)
  unfold binaryOp1
  refine wpAny_bind (L1.at (wpAny_bind (L2'.at (wpAny_bind (L3.at ?_)))))
  simp only [hne, Bool.false_eq_true, if_false]
  ksp_lk
  refine wpAny_mono one (fun r s' hr' => ?_) fun _ _ e => e
  obtain ⟨rfl, rfl⟩ := hr'
  ksp_lk
  refine wpAny_mono two (fun r s' hr' => ?_) fun _ _ e => e
  obtain ⟨v, rfl, hq⟩ := hr'
  ksp_lk
  exact hq
end
section
variable {X : Cx} {CX : CXT} {op : Operator} {C m r : Str} {k : Nat} {sp : Sp} {E : XK}
theorem op_own2 (b : (Fx.bopo C m).ok X.K = true) (em : PySem.dunder op.info.2 = m) (F : FnR X.prog X.w X.K X.mg X.base CX k (mad C m X.K) sp) (hr : Room k X.A) (hx : Passes CX X E) : OpR X (binaryOp op) (rOwnO (gad C X.K) sp E) := by
  intro pins s σ H x y v u Q I rx ry ⟨a, b', dx, fs, d2, f2, ex, ea, ey, eb, q⟩
  subst ex ey
  obtain rfl : v = Value.ref a := rx
  obtain rfl : u = Value.ref b' := ry
  obtain ⟨c1, c⟩ := He.ba b
  obtain ⟨c2, c3⟩ := He.ba c
  obtain ⟨mA, O, _⟩ := ins_get I.hok ea
  obtain ⟨od, J, _⟩ := O.look
  obtain ⟨mB, O2, _⟩ := ins_get I.hok eb
  obtain ⟨oe, J2, _⟩ := O2.look
  obtain ⟨m0, Fm⟩ := I.fr
  subst em
  exact bin_same Fm I.ok.mod.kin J J2 c1 (He.eqO_ok c2) c3 (thn (wpAny_call (run_fnR (us := [.ref a, .ref b']) (vs := [.ref a, .ref b']) F hr hx I (.cons rfl (.cons rfl .nil)) q)) fun w s' z => ep_back z)
theorem op_ownIr (b : (Fx.bopr C m r "int").ok X.K = true) (em : PySem.dunder op.info.2 = m) (er : PySem.dunderR op.info.2 = r) (F : FnR X.prog X.w X.K X.mg X.base CX k (mad C m X.K) sp) (hr : Room k X.A) (hx : Passes CX X E) : OpR X (binaryOp op) (rOwnI (gad C X.K) sp E) := by
  intro pins s σ H x y v u Q I rx ry ⟨a, dx, fs, i, ex, ea, ey, q⟩
  subst ex ey
  obtain rfl : v = Value.ref a := rx
  obtain ⟨t, rfl⟩ := ry
  obtain ⟨c1, c⟩ := He.ba b
  obtain ⟨c2, c⟩ := He.ba c
  obtain ⟨c3, c⟩ := He.ba c
  obtain ⟨c4, c⟩ := He.ba c
  obtain ⟨c5, c⟩ := He.ba c
  obtain ⟨c6, c⟩ := He.ba c
  obtain ⟨c7, c⟩ := He.ba c
  obtain ⟨c8, c9⟩ := He.ba c
  obtain ⟨fo, h5⟩ := Option.isSome_iff_exists.mp c6
  obtain ⟨ro, h6⟩ := Option.isSome_iff_exists.mp c7
  obtain ⟨mA, O, _⟩ := ins_get I.hok ea
  obtain ⟨od, J, _⟩ := O.look
  obtain ⟨m0, Fm⟩ := I.fr
  subst em er
  exact PySem.W.ksp_binT (T := "int") Fm I.ok.mod.kin J rfl c1 (He.eqO_ok c2) c3 (He.eqO_ok c4) (.inr ⟨_, rfl⟩) h5 h6 (of_decide_eq_true c8) (thn (wpAny_call (run_fnR (us := [.ref a, .int i t]) (vs := [.ref a, .int i]) F hr hx I (.cons rfl (.cons ⟨t, rfl⟩ .nil)) q)) fun w s' z => ep_back z)
theorem op_intO (b : (Fx.bopr C "__mul__" "__rmul__" "int").ok X.K = true) (F : FnR X.prog X.w X.K X.mg X.base CX k (mad C "__rmul__" X.K) sp) (hr : Room k X.A) (hx : Passes CX X E) : OpR X (binaryOp .Mult) (rIntO (gad C X.K) sp E) := by
  intro pins s σ H x y v u Q I rx ry ⟨i, a, dx, fs, ex, ey, ea, q⟩
  subst ex ey
  obtain ⟨t, rfl⟩ := rx
  obtain rfl : u = Value.ref a := ry
  obtain ⟨c1, c⟩ := He.ba b
  obtain ⟨c2, c⟩ := He.ba c
  obtain ⟨c3, c⟩ := He.ba c
  obtain ⟨c4, c⟩ := He.ba c
  obtain ⟨c5, c⟩ := He.ba c
  obtain ⟨c6, c⟩ := He.ba c
  obtain ⟨c7, c⟩ := He.ba c
  obtain ⟨c8, c9⟩ := He.ba c
  obtain ⟨mA, O, _⟩ := ins_get I.hok ea
  obtain ⟨od, J, _⟩ := O.look
  obtain ⟨m0, Fm⟩ := I.fr
  exact bin_left (nm := "mul") (T := "int") rfl Fm I.ok.mod.kin J c1 (He.eqO_ok c2) (He.eqO_ok c4) c5 (of_decide_eq_true c9) rfl (typeIs_int s i t) PySem.F.slot_int_mul PySem.F.fills_int_mul (decl_int J.1 rfl ⟨rfl, rfl⟩) (thn (wpAny_call (run_fnR (us := [.ref a, .int i t]) (vs := [.ref a, .int i]) F hr hx I (.cons rfl (.cons ⟨t, rfl⟩ .nil)) q)) fun w s' z => ep_back z)
theorem op_own2K {K : PySem.W.Frag} (e : X.K = K) (b : (Fx.bopo C m).ok K = true) (em : PySem.dunder op.info.2 = m) (F : FnR X.prog X.w K X.mg X.base CX k (mad C m K) sp) (hr : Room k X.A) (hx : Passes CX X E) : OpR X (binaryOp op) (rOwnO (gad C K) sp E) := by subst e; exact op_own2 b em F hr hx
theorem op_ownIrK {K : PySem.W.Frag} (e : X.K = K) (b : (Fx.bopr C m r "int").ok K = true) (em : PySem.dunder op.info.2 = m) (er : PySem.dunderR op.info.2 = r) (F : FnR X.prog X.w K X.mg X.base CX k (mad C m K) sp) (hr : Room k X.A) (hx : Passes CX X E) : OpR X (binaryOp op) (rOwnI (gad C K) sp E) := by subst e; exact op_ownIr b em er F hr hx
theorem op_intOK {K : PySem.W.Frag} (e : X.K = K) (b : (Fx.bopr C "__mul__" "__rmul__" "int").ok K = true) (F : FnR X.prog X.w K X.mg X.base CX k (mad C "__rmul__" K) sp) (hr : Room k X.A) (hx : Passes CX X E) : OpR X (binaryOp .Mult) (rIntO (gad C K) sp E) := by subst e; exact op_intO b F hr hx
end
/-! ### the same in a try body: what the callee raises is wished of the slots as they are -/
def eS (W : WX) (σ : L2.St) : XK := fun cls d H => W cls d σ H
def OpRS (X : Cx) (f : Value → Value → Sem Value) (r : L2.St → R2) : Prop :=
  ∀ (pins : List (Addr × Obj)) (s : Shared) (σ : L2.St) (H : Hp) (x y : V) (v u : Value) (Q : VK), Inv X pins σ H s → RelV x v → RelV y u → r σ x y H Q → wpAny (model X.prog X.w) X.A (f v u) (EP X pins σ Q) X.xe s
def tOpS (r : L2.St → R2) (ta tb : TE) : TE := fun σ H Q => tOp (r σ) ta tb σ H Q
section
variable {X : Cx} {op : Operator} {C m r : Str} {k : Nat} {sp : Sp} {W : WX}
theorem pe_opS {a b : Expr} {ta tb : TE} {pos : Pos} {r : L2.St → R2} (ho : OpRS X (binaryOp op) r) (ha : PE X a ta) (hb : PE X b tb) : PE X (.BinOp a op b pos) (tOpS r ta tb) := by
  refine ⟨fun pins s σ H Q I h => ?_⟩
  exact wpAny_BinOp (binT ha hb I h fun v u s2 x y H2 I2 rx ry q => ho pins s2 σ H2 x y v u Q I2 rx ry q)
theorem passS {pins : List (Addr × Obj)} {σ : L2.St} {H : Hp} {s : Shared} (tk : Takes X W) (I : Inv X pins σ H s) : ∀ e s', L2.CX X.prog X.w X.stack H s (eS W σ) e s' → X.xe e s' :=
  fun e s' c => tk e s' (XE.of_call I (fun _ _ _ h => h) c)
theorem run_fnRp {pins : List (Addr × Obj)} {σ : L2.St} {H : Hp} {s : Shared} {CX : CXT} {k : Nat} {f : Addr} {sp : Sp} {E : XK} {Q : VK} {us : List Value} {vs : List V} (F : FnR X.prog X.w X.K X.mg X.base CX k f sp) (hr : Room k X.A) (hx : ∀ e s', CX X.stack H s E e s' → X.xe e s') (I : Inv X pins σ H s) (r : Vals vs us) (h : sp vs H Q E) :
    codeAny (model X.prog X.w) X.A (.call (.ref f) ⟨us, []⟩) (fun r s' => match r with | .ok (.ret v) => EP X pins σ Q v s' | .ok _ => False | .error e => X.xe e s') s := by
  refine codeAny_mono (F X.A X.stack s H us vs Q E hr I.env0 r h) fun r s' hq => ?_
  cases r with
  | error e => exact hx e s' hq
  | ok fl =>
    cases fl with
    | ret u => exact I.after hq
    | next => exact False.elim hq
    | brk => exact False.elim hq
    | cont => exact False.elim hq
theorem op_own2S (b : (Fx.bopo C m).ok X.K = true) (em : PySem.dunder op.info.2 = m) (F : FnR X.prog X.w X.K X.mg X.base (L2.CX X.prog X.w) k (mad C m X.K) sp) (hr : Room k X.A) (tk : Takes X W) : OpRS X (binaryOp op) (fun σ => rOwnO (gad C X.K) sp (eS W σ)) := by
  intro pins s σ H x y v u Q I rx ry ⟨a, b', dx, fs, d2, f2, ex, ea, ey, eb, q⟩
  subst ex ey
  obtain rfl : v = Value.ref a := rx
  obtain rfl : u = Value.ref b' := ry
  obtain ⟨c1, c⟩ := He.ba b
  obtain ⟨c2, c3⟩ := He.ba c
  obtain ⟨mA, O, _⟩ := ins_get I.hok ea
  obtain ⟨od, J, _⟩ := O.look
  obtain ⟨mB, O2, _⟩ := ins_get I.hok eb
  obtain ⟨oe, J2, _⟩ := O2.look
  obtain ⟨m0, Fm⟩ := I.fr
  subst em
  exact bin_same Fm I.ok.mod.kin J J2 c1 (He.eqO_ok c2) c3 (thn (wpAny_call (run_fnRp (us := [.ref a, .ref b']) (vs := [.ref a, .ref b']) F hr (passS tk I) I (.cons rfl (.cons rfl .nil)) q)) fun w s' z => ep_back z)
theorem op_ownIrS (b : (Fx.bopr C m r "int").ok X.K = true) (em : PySem.dunder op.info.2 = m) (er : PySem.dunderR op.info.2 = r) (F : FnR X.prog X.w X.K X.mg X.base (L2.CX X.prog X.w) k (mad C m X.K) sp) (hr : Room k X.A) (tk : Takes X W) : OpRS X (binaryOp op) (fun σ => rOwnI (gad C X.K) sp (eS W σ)) := by
  intro pins s σ H x y v u Q I rx ry ⟨a, dx, fs, i, ex, ea, ey, q⟩
  subst ex ey
  obtain rfl : v = Value.ref a := rx
  obtain ⟨t, rfl⟩ := ry
  obtain ⟨c1, c⟩ := He.ba b
  obtain ⟨c2, c⟩ := He.ba c
  obtain ⟨c3, c⟩ := He.ba c
  obtain ⟨c4, c⟩ := He.ba c
  obtain ⟨c5, c⟩ := He.ba c
  obtain ⟨c6, c⟩ := He.ba c
  obtain ⟨c7, c⟩ := He.ba c
  obtain ⟨c8, c9⟩ := He.ba c
  obtain ⟨fo, h5⟩ := Option.isSome_iff_exists.mp c6
  obtain ⟨ro, h6⟩ := Option.isSome_iff_exists.mp c7
  obtain ⟨mA, O, _⟩ := ins_get I.hok ea
  obtain ⟨od, J, _⟩ := O.look
  obtain ⟨m0, Fm⟩ := I.fr
  subst em er
  exact PySem.W.ksp_binT (T := "int") Fm I.ok.mod.kin J rfl c1 (He.eqO_ok c2) c3 (He.eqO_ok c4) (.inr ⟨_, rfl⟩) h5 h6 (of_decide_eq_true c8) (thn (wpAny_call (run_fnRp (us := [.ref a, .int i t]) (vs := [.ref a, .int i]) F hr (passS tk I) I (.cons rfl (.cons ⟨t, rfl⟩ .nil)) q)) fun w s' z => ep_back z)
theorem op_intOS (b : (Fx.bopr C "__mul__" "__rmul__" "int").ok X.K = true) (F : FnR X.prog X.w X.K X.mg X.base (L2.CX X.prog X.w) k (mad C "__rmul__" X.K) sp) (hr : Room k X.A) (tk : Takes X W) : OpRS X (binaryOp .Mult) (fun σ => rIntO (gad C X.K) sp (eS W σ)) := by
  intro pins s σ H x y v u Q I rx ry ⟨i, a, dx, fs, ex, ey, ea, q⟩
  subst ex ey
  obtain ⟨t, rfl⟩ := rx
  obtain rfl : u = Value.ref a := ry
  obtain ⟨c1, c⟩ := He.ba b
  obtain ⟨c2, c⟩ := He.ba c
  obtain ⟨c3, c⟩ := He.ba c
  obtain ⟨c4, c⟩ := He.ba c
  obtain ⟨c5, c⟩ := He.ba c
  obtain ⟨c6, c⟩ := He.ba c
  obtain ⟨c7, c⟩ := He.ba c
  obtain ⟨c8, c9⟩ := He.ba c
  obtain ⟨mA, O, _⟩ := ins_get I.hok ea
  obtain ⟨od, J, _⟩ := O.look
  obtain ⟨m0, Fm⟩ := I.fr
  exact bin_left (nm := "mul") (T := "int") rfl Fm I.ok.mod.kin J c1 (He.eqO_ok c2) (He.eqO_ok c4) c5 (of_decide_eq_true c9) rfl (typeIs_int s i t) PySem.F.slot_int_mul PySem.F.fills_int_mul (decl_int J.1 rfl ⟨rfl, rfl⟩) (thn (wpAny_call (run_fnRp (us := [.ref a, .int i t]) (vs := [.ref a, .int i]) F hr (passS tk I) I (.cons rfl (.cons ⟨t, rfl⟩ .nil)) q)) fun w s' z => ep_back z)
theorem op_own2SK {K : PySem.W.Frag} (e : X.K = K) (b : (Fx.bopo C m).ok K = true) (em : PySem.dunder op.info.2 = m) (F : FnR X.prog X.w K X.mg X.base (L2.CX X.prog X.w) k (mad C m K) sp) (hr : Room k X.A) (tk : Takes X W) : OpRS X (binaryOp op) (fun σ => rOwnO (gad C K) sp (eS W σ)) := by subst e; exact op_own2S b em F hr tk
theorem op_ownIrSK {K : PySem.W.Frag} (e : X.K = K) (b : (Fx.bopr C m r "int").ok K = true) (em : PySem.dunder op.info.2 = m) (er : PySem.dunderR op.info.2 = r) (F : FnR X.prog X.w K X.mg X.base (L2.CX X.prog X.w) k (mad C m K) sp) (hr : Room k X.A) (tk : Takes X W) : OpRS X (binaryOp op) (fun σ => rOwnI (gad C K) sp (eS W σ)) := by subst e; exact op_ownIrS b em er F hr tk
theorem op_intOSK {K : PySem.W.Frag} (e : X.K = K) (b : (Fx.bopr C "__mul__" "__rmul__" "int").ok K = true) (F : FnR X.prog X.w K X.mg X.base (L2.CX X.prog X.w) k (mad C "__rmul__" K) sp) (hr : Room k X.A) (tk : Takes X W) : OpRS X (binaryOp .Mult) (fun σ => rIntO (gad C K) sp (eS W σ)) := by subst e; exact op_intOS b F hr tk
end
/-! ### C(*y, *z) -/
theorem args_two {M : Model} {A : Around} {E : Value → Shared → Prop} {s : Shared} {f : Value} {x y : Sem Value} {Q : Args → Shared → Prop} (h : wpAny M A (spliced [(true, x), (true, y)]) (fun vs s1 => Q ⟨vs, []⟩ s1) E s) : wpAny M A (evalArgs f true [(true, x), (true, y)] []) Q E s := by
  unfold evalArgs
  show wpAny M A (spliced [(true, x), (true, y)] >>= _) Q E s
  exact wpAny_bind (wpAny_mono h (fun vs s' h' => wpAny_holding (wpAny_bind (wpAny_pure (wpAny_bind (wpAny_pure (wpAny_pure h')))))) fun _ _ z => z)
theorem pe_make2 {X : Cx} {CX : CXT} {k : Nat} {f C : Addr} {sp : Sp} {E : XK} {x : Str} {e1 e2 : Expr} {p p1 p2 pos : Pos} {t : TA} (M : Mk X.K C f) (F : FnR X.prog X.w X.K X.mg X.base CX k f sp) (hr : Room (k + 1) X.A) (hg : Gl X x) (hm : X.mg x = some (.ref C)) (hx : Passes CX X E)
    (ha : PA X [.Starred e1 p1, .Starred e2 p2] t) (hd : (x == ("__debug__" : Str)) = false := by decide)
    (hst : starEach [.Starred e1 p1, .Starred e2 p2] X.env = [(true, eval e1 X.env), (true, eval e2 X.env)] := by rfl) : PE X (.Call (.Name x p) [.Starred e1 p1, .Starred e2 p2] [] pos) (StX.tMakeR C sp E t) := by
  refine ⟨fun pins s σ H Q I h => wpAny_Call_Name_kw (ld_glob I hg hm ?_ hd)⟩
  have z := thn (ha.run pos pins s σ H _ I h) (Q' := fun us s1 => X.K.In s1.heap ∧ wpAny (model X.prog X.w) X.A (call (.ref C) us) (EP X pins σ Q) X.xe s1) fun us s1 ⟨vs, H1, I1, r, q⟩ => ⟨I1.kIn, StX.run_makeR M F hr hx I1 r q⟩
  rw [hst] at z ⊢
  exact PySem.W.ks_call (first := []) (P := fun h => X.K.In h) rfl (PySem.W.keeps_K M.kp) (args_two z)
end Hue

set_option Elab.async false
set_option linter.all false
set_option maxRecDepth 100000
set_option maxHeartbeats 1000000
/-! x in t, t a tuple of data of any depth -/
namespace Hue
open PySem PySem.Spec PyProof.Rows L2
section
variable {X : Cx} {K : PySem.W.Frag}
def rInT (K : PySem.W.Frag) (no : Bool) : R2 := fun x y H Q => ∃ d ds, Dp K H x d ∧ Dp K H y (.tuple ds) ∧ SeqAt.shaped d = true ∧ SeqAt.shaped (.list ds) = true ∧ Q (.bl (no != (ds.any fun z => PyData.eqv z d))) H
theorem op_inT (hu : X.A.units + 65 < cLine) : OpR X (compareOp .In) (rInT X.K false) := by
  intro pins s σ H x y v u Q I rx ry h
  obtain ⟨d, ds, hd, he, sd, se, q⟩ := h
  obtain ⟨as, r1⟩ := Dp.reads I d x v hd rx
  obtain ⟨bs, r2⟩ := Dp.reads I (.tuple ds) y u he ry
  exact SeqAt.in_tuple_reads r2 r1 (SeqAt.canLay_of_shaped se) (SeqAt.canLay_of_shaped sd) (room_in_shaped sd hu) ⟨.bl (ds.any fun z => PyData.eqv z d), H, I, rfl, by rw [Bool.false_bne] at q; exact q⟩
theorem op_notInT (hu : X.A.units + 65 < cLine) : OpR X (compareOp .NotIn) (rInT X.K true) := by
  intro pins s σ H x y v u Q I rx ry h
  obtain ⟨d, ds, hd, he, sd, se, q⟩ := h
  obtain ⟨as, r1⟩ := Dp.reads I d x v hd rx
  obtain ⟨bs, r2⟩ := Dp.reads I (.tuple ds) y u he ry
  exact SeqAt.notIn_tuple_reads r2 r1 (SeqAt.canLay_of_shaped se) (SeqAt.canLay_of_shaped sd) (room_in_shaped sd hu) ⟨.bl (!ds.any fun z => PyData.eqv z d), H, I, rfl, by rw [Bool.true_bne] at q; exact q⟩
theorem op_inDK (e : X.K = K) (hu : X.A.units + 65 < cLine) : OpR X (compareOp .In) (rInD K) := e ▸ op_inD hu
theorem op_notInDK (e : X.K = K) (hu : X.A.units + 65 < cLine) : OpR X (compareOp .NotIn) (rNotInD K) := e ▸ op_notInD hu
theorem op_inTK (e : X.K = K) (hu : X.A.units + 65 < cLine) : OpR X (compareOp .In) (rInT K false) := e ▸ op_inT hu
theorem op_notInTK (e : X.K = K) (hu : X.A.units + 65 < cLine) : OpR X (compareOp .NotIn) (rInT K true) := e ▸ op_notInT hu
end
theorem room65 {k : Nat} {A : Around} (r : Room k A) : A.units + 65 < cLine := by have := r.un; omega
/-- a word with a number -/
def sD (z : Str × Int) : PyData := .tuple [.str z.1, .int z.2]
def sVs (z : Str × Int) : List V := [.str z.1, .int z.2]
theorem sD_eqv (z y : Str × Int) : PyData.eqv (sD z) (sD y) = decide (z = y) := by
  obtain ⟨a, i⟩ := z
  obtain ⟨b, j⟩ := y
  have e : PyData.eqv (sD (a, i)) (sD (b, j)) = ((a == b) && ((i == j) && true)) := by simp only [sD, PyData.eqv, PyData.eqvAll]
  rw [e, Bool.and_true]
  by_cases h : (a, i) = (b, j)
  · cases h
    simp
  · rw [decide_eq_false h]
    by_cases h1 : a = b
    · have h2 : ¬ i = j := fun z => h (by rw [h1, z])
      rw [beq_eq_false_iff_ne.mpr h2, Bool.and_false]
    · rw [beq_eq_false_iff_ne.mpr h1, Bool.false_and]
abbrev SOk (z : Str × Int) : Prop := PyData.strOk z.1 = true
theorem sD_lay {z : Str × Int} (h : SOk z) : (sD z).canLay0 = true := by
  obtain ⟨a, i⟩ := z
  simp only [sD, PyData.canLay0, PyData.canLayAll0, Bool.and_true]
  exact h
theorem sD_depth (z : Str × Int) : (sD z).depth = 1 := by simp [sD, PyData.depth, PyData.depthAll]
theorem sD_shaped {z : Str × Int} (h : SOk z) : SeqAt.shaped (sD z) = true := by
  show ((sD z).canLay0 && decide ((sD z).depth ≤ 64)) = true
  rw [Bool.and_eq_true]
  exact ⟨sD_lay h, decide_eq_true (by rw [sD_depth]; omega)⟩
theorem sDs_lay : ∀ zs : List (Str × Int), (∀ z ∈ zs, SOk z) → PyData.canLayAll0 (zs.map sD) = true
  | [], _ => by simp [PyData.canLayAll0]
  | z :: zs, h => by
    simp only [List.map_cons, PyData.canLayAll0, Bool.and_eq_true]
    exact ⟨sD_lay (h z List.mem_cons_self), sDs_lay zs fun y hy => h y (List.mem_cons_of_mem _ hy)⟩
theorem sDs_depth : ∀ zs : List (Str × Int), PyData.depthAll (zs.map sD) ≤ 1
  | [] => by simp [PyData.depthAll]
  | z :: zs => by
    have h1 := sDs_depth zs
    have h2 := sD_depth z
    simp only [List.map_cons, PyData.depthAll]
    omega
theorem sDs_shaped {zs : List (Str × Int)} (h : ∀ z ∈ zs, SOk z) : SeqAt.shaped (.list (zs.map sD)) = true := by
  have h1 := sDs_depth zs
  have h2 : PyData.depth (.list (zs.map sD)) ≤ 64 := by
    simp only [PyData.depth]
    omega
  show (PyData.canLay0 (.list (zs.map sD)) && decide (PyData.depth (.list (zs.map sD)) ≤ 64)) = true
  rw [Bool.and_eq_true]
  exact ⟨by simp only [PyData.canLay0]; exact sDs_lay zs h, decide_eq_true h2⟩
theorem sDs_any (zs : List (Str × Int)) (y : Str × Int) : ((zs.map sD).any fun z => PyData.eqv z (sD y)) = decide (y ∈ zs) := by
  induction zs with
  | nil => rfl
  | cons z zs ih =>
    rw [List.map_cons, List.any_cons, ih, sD_eqv]
    by_cases h : z = y
    · subst h; simp
    · have h' : ¬ y = z := fun q => h q.symm
      simp [h, h']
end Hue

set_option Elab.async false
set_option linter.all false
set_option maxRecDepth 100000
set_option maxHeartbeats 1000000
/-! enumerate of a tuple -/
namespace Hue
open PySem PySem.Spec PyProof.Rows L2
theorem meets_enum1 {v : Value} {o : Obj} {H : Heap → Prop} (B : Begins v o H) :
    Meets (Builtin.«enumerate.__new__» ⟨[.type "enumerate", v], []⟩) (fun _ R s => H s.heap ∧
      R (.ok (.ret (.ref (s.heap.push o).objs.size))) { s with heap := (s.heap.push o).push { cls := .type "enumerate", data := .fields #[.none, .bool false, .ref s.heap.objs.size, rawInt 0, .none, .none] } }) :=
  .of_wp fun prog w A R s h => by
    obtain ⟨hp, g, d, tk, os⟩ := s; obtain ⟨h1, h⟩ := h
    have hsub := sub_enumerate
    have q1 : ∀ {A' : Around} {E : Value → Shared → Prop} {Q : Value → Shared → Prop}, Q (.ref hp.objs.size) ⟨hp.push o, g, d, tk, os⟩ → wpAny (model prog w) A' (pyIter v) Q E ⟨hp, g, d, tk, os⟩ :=
      fun q => B.iter prog w _ _ ⟨hp, g, d, tk, os⟩ _ h1 q
    wp_walk using q1
    refine wpAny_stack_any fun st => wpAny_pure ?_
    split
    · rename_i c _ _ _ _ _
      cases (c == Value.type "enumerate")
      · wp_walk using q1
        exact ⟨_, rfl, h⟩
      · wp_walk using q1
        exact ⟨_, rfl, h⟩
    · wp_walk using q1
      exact ⟨_, rfl, h⟩
theorem enum_begins1 {prog : Program} {w : World} {A : Around} {E : Value → Shared → Prop} {s : Shared} {v : Value} {o : Obj} {H : Heap → Prop} {Q : Value → Shared → Prop} (B : Begins v o H) (h1 : H s.heap)
    (h : ∀ h', IsEnum h' (s.heap.objs.size + 1) s.heap.objs.size 0 .none → h'.get? s.heap.objs.size = some o → h'.objs.size = s.heap.objs.size + 2 →
      (∀ b o, s.heap.get? b = some o → h'.get? b = some o) → Q (.ref (s.heap.objs.size + 1)) { s with heap := h' }) :
    wpAny (model prog w) A (call (.type "enumerate") [v]) Q E s := by
  refine callType_new F.called_enumerate (by decide) (F.typeCall_enumerate_1 _) (F.newCall_enumerate_1 _) (fun obj => F.args_object_init_2 obj _) F.entry_enumerate_new
    (meets_enum1 B) ⟨h1, ?_⟩
  have hz : (s.heap.push o).objs.size = s.heap.objs.size + 1 := Heap.size_push ..
  show _ ∧ _
  rw [hz]
  have he : IsEnum ((s.heap.push o).push { cls := .type "enumerate", data := .fields #[.none, .bool false, .ref s.heap.objs.size, rawInt 0, .none, .none] }) (s.heap.objs.size + 1) s.heap.objs.size 0 .none := by
    have := Heap.get?_push_size (s.heap.push o) (o := { cls := .type "enumerate", data := .fields #[.none, .bool false, .ref s.heap.objs.size, rawInt 0, .none, .none] }) rfl
    rw [hz] at this; exact this
  refine ⟨⟨_, he, rfl⟩, h _ he (Heap.get?_push_of_some _ (Heap.get?_push_size _ B.free)) (by rw [Heap.size_push, hz]) fun b o x => Heap.get?_push_of_some _ (Heap.get?_push_of_some _ x)⟩
/-- the tuple at a, each item in a new pair -/
def ItET (K : PySem.W.Frag) (a : Addr) : It :=
  ⟨fun i H => ∃ (xs : List V) (x : V), SqT K H a xs ∧ xs[i]? = some x, fun i H v H' => ∃ T x, v = .ref T ∧ H T = none ∧ H' = upd H T (.tup [.int (i : Nat), x]) ∧ ∀ xs, SqT K H a xs → xs[i]? = some x, fun i H => ∃ xs : List V, SqT K H a xs ∧ i = xs.length⟩
theorem turn_ET {P : Program} {w : World} {K : PySem.W.Frag} {elts : List Expr} {kk : Nat} {tpos : Pos} (a e it : Addr) (na : a ≠ it) (ne : e ≠ a) :
    Turn P w K (.Tuple elts kk tpos) (ItET K a) [e, it] e (fun i h => (∃ old, IsEnum h e it ((i : Nat) : Int) old) ∧ h.IsTupleIter it a i ∧ e ≠ it) where
  mem := by simp
  obj := fun i h st b hb => by
    obtain ⟨⟨old, he⟩, ⟨o, ho, hc, hd⟩, _⟩ := st
    have e' : b = e ∨ b = it := by simpa using hb
    rcases e' with z | z
    · rw [z]; exact ⟨_, he, fun v q => nomatch q⟩
    · rw [z]; exact ⟨o, ho, fun v q => by rw [hd] at q; cases q⟩
  keep := fun i h h' st k => let ⟨⟨old, he⟩, hi, hne⟩ := st; ⟨⟨old, k e (by simp) _ he⟩, hi.at fun o q => k it (by simp) o q, hne⟩
  item := by
    intro X hP hw hK hc i pins s σ H E I hf st hg
    subst hP hw hK
    obtain ⟨⟨old, he⟩, hit, hne⟩ := st
    obtain ⟨xs, x, hq, hx⟩ := hg
    obtain ⟨its, rv, p, hz⟩ := I.tuple hq
    obtain ⟨u, hu, ru⟩ := rv.get hx
    have hel : e < s.heap.objs.size := Heap.lt_size he
    have hil : it < s.heap.objs.size := by obtain ⟨_, q, _⟩ := hit; exact Heap.lt_size q
    have hh : X.A.in1.handled = none := I.ok.hd hc
    have hlt : i < its.toArray.size := by have := (List.getElem?_eq_some_iff.mp hu).1; simpa using this
    refine wpAny_pyNext_enum_itemD (Draws.tuple hh it a na its.toArray) he ⟨hit, p⟩ hlt hne (by simp [hne, ne]) fun u' h' tk e1 ho hst' hT hsz hk => ?_
    have eu : u' = u := by
      have : its[i]? = some u' := by simpa using e1
      rw [hu] at this; exact (Option.some.inj this).symm
    subst eu
    refine ⟨_, rfl, wpAny_letOwnedTupleGo_enum (s := { s with heap := h', toks := tk + 1 }) ho fun h'' he' sb => ?_⟩
    have hT2 : h''.get? s.heap.objs.size = some { cls := .type "tuple", data := .seq #[.int i tk, u'] } := (sb.2 _ (Nat.ne_of_gt hel)).trans hT
    have new : ObjOk X.prog X.w (upd H s.heap.objs.size (.tup [.int (i : Nat), x])) h'' s.heap.objs.size (.tup [.int (i : Nat), x]) :=
      ⟨by show 2 ≤ sizeLine; decide, [.int i tk, u'], .cons ⟨_, rfl⟩ (.cons ru .nil), ⟨_, hT2, rfl, _, rfl⟩⟩
    have I1 : Inv X pins σ (upd H s.heap.objs.size (.tup [.int (i : Nat), x])) { s with heap := h'', toks := tk + 1 } :=
      I.turnedNew (ch := [e, it]) (fun b ob hb q => (sb.2 b (fun z => hb (by simp [z]))).trans (hk b ob (fun z => hb (by simp [z])) (fun z => hb (by simp [z])) q)) hf (Nat.le_refl _) new
    refine ⟨.ref s.heap.objs.size, _, I1, rfl, ⟨_, x, rfl, I.hok.fresh (Nat.le_refl _), rfl, fun ys hy => by rw [I.tuple_inj hy hq]; exact hx⟩, ⟨⟨u', ?_⟩, hst'.1.at fun o q => (sb.2 it (Ne.symm hne)).trans q, hne⟩, fun b hb => ?_⟩
    · have e1 : ((i + 1 : Nat) : Int) = (i : Int) + 1 := by omega
      rw [e1]; exact he'
    · have hb' : b < s.heap.objs.size := by
        have e' : b = e ∨ b = it := by simpa using hb
        rcases e' with z | z
        · rw [z]; exact hel
        · rw [z]; exact hil
      rw [upd_ne (Nat.ne_of_lt hb')]
      exact (hf b hb).1
  done := by
    intro X hP hw hK hc i pins s σ H E I hf st hg
    subst hP hw hK
    obtain ⟨⟨old, he⟩, hit, hne⟩ := st
    obtain ⟨xs, hq, hx⟩ := hg
    obtain ⟨its, rv, p, hz⟩ := I.tuple hq
    obtain ⟨f0, f1, f2, f3, f4, f5⟩ := hf it (by simp)
    have hl := rv.length
    have hh : X.A.in1.handled = none := I.ok.hd hc
    have ei : i = its.toArray.size := by simp; omega
    subst ei
    exact wpAny_pyNext_enum_endD (Draws.tuple hh it a na its.toArray) he ⟨hit, p⟩ fun h' eb => ⟨rfl, I.turned (t' := s.toks) (fun b o hb q => eb b o hb q) f0 f1 f3 f4 f5⟩
  self := fun A i s Q E st h => let ⟨⟨_, he⟩, _⟩ := st; wpAny_pyIter_enum he h
def iEnumT (K : PySem.W.Frag) (ta : TA) : TI := fun σ H R => ta σ H fun vs H1 => ∃ a xs, vs = [.ref a] ∧ SqT K H1 a xs ∧ R (ItET K a) H1
theorem pi_enumT {X : Cx} {e : Expr} {ta : TA} {p pos tpos : Pos} {elts : List Expr} {kk : Nat} (hg : Gl X "enumerate") (hm : X.mg "enumerate" = none) (ha : PA X [e] ta) (hs : starEach [e] X.env = [(false, eval e X.env)] := by rfl) :
    PI X (.Tuple elts kk tpos) (.Call (.Name "enumerate" p) [e] [] pos) (iEnumT X.K ta) := by
  refine ⟨fun pins s σ H R I h => ?_⟩
  refine Call_ (ld_blt I hg hm boot_enumerate (PyProof.Rows.callWith_type1 (thn (ha.run pos pins s σ H _ I h) fun us s1 ⟨vs, H1, I1, r1, q1⟩ => ?_) hs rfl))
  obtain ⟨a, xs, ex, hq, q⟩ := q1
  subst ex
  cases r1 with
  | cons r rr =>
    cases rr
    cases r
    obtain ⟨its, rv, p', hz⟩ := I1.tuple hq
    have la : a < s1.heap.objs.size := by obtain ⟨_, e, _⟩ := id p'; exact Heap.lt_size e
    refine enum_begins1 (begins_tuple a its.toArray) p' fun h' he hit hsz hk => wpAny_pyIter_enum he ?_
    have I2 : Inv X pins σ H1 { s1 with heap := h' } := I1.kept (t' := s1.toks) hk
    refine ⟨s1.heap.objs.size + 1, [s1.heap.objs.size + 1, s1.heap.objs.size], _, _, H1, rfl, I2, turn_ET a (s1.heap.objs.size + 1) s1.heap.objs.size (Nat.ne_of_lt la) (Nat.ne_of_gt (Nat.lt_succ_of_lt la)), ⟨⟨.none, he⟩, ⟨_, hit, rfl, rfl⟩, Nat.succ_ne_self _⟩, fun b hb => ?_, q⟩
    have e' : b = s1.heap.objs.size + 1 ∨ b = s1.heap.objs.size := by simpa using hb
    have hle : s1.heap.objs.size ≤ b := by
      rcases e' with z | z
      · rw [z]; exact Nat.le_add_right _ _
      · rw [z]; exact Nat.le_refl _
    exact I1.fpOk hle (I1.hok.fresh hle)
theorem walk_enumT {K : PySem.W.Frag} {a : Addr} {xs : List V} : Walk (ItET K a) xs.length (fun H => SqT K H a xs) (YPair (fun i => some (.int (i : Nat))) (fun i => xs[i]?)) := by
  refine ⟨fun i _ hi q => ⟨xs, xs[i], q, by simp [hi]⟩, fun _ q => ⟨xs, q, rfl⟩, fun i H v H' _ q y => ?_⟩
  obtain ⟨T, x, h1, h2, h3, h4⟩ := y
  exact ⟨T, .int (i : Nat), x, h1, h2, h3, rfl, h4 xs q⟩
end Hue

set_option Elab.async false
set_option linter.all false
set_option maxRecDepth 100000
set_option maxHeartbeats 1000000
/-! sorted(xs) of data of any depth: one ascending list -/
namespace Hue
open PySem PySem.Spec PyProof.Rows L2
theorem each_vals {bs : List (V × PyData)} : ∀ {its : List Value}, Vals (bs.map (·.1)) its → PySem.W.EachIs (fun v (b : V × PyData) => RelV b.1 v) its bs := by
  induction bs with
  | nil => intro its h; cases h; exact .nil
  | cons b bs ih => intro its h; cases h with | cons r t => exact .cons r (ih t)
theorem vals_each {bs : List (V × PyData)} : ∀ {its : List Value}, PySem.W.EachIs (fun v (b : V × PyData) => RelV b.1 v) its bs → Vals (bs.map (·.1)) its := by
  induction bs with
  | nil => intro its h; cases h; exact .nil
  | cons b bs ih => intro its h; cases h with | cons r t => exact .cons r (ih t)
theorem each_in {α β : Type} {R R' : α → β → Prop} {as : List α} {bs : List β} (h : PySem.W.EachIs R as bs) (k : ∀ a b, b ∈ bs → R a b → R' a b) : PySem.W.EachIs R' as bs := by
  induction h with
  | nil => exact .nil
  | cons r t ih => exact .cons (k _ _ List.mem_cons_self r) (ih fun a b m => k a b (List.mem_cons_of_mem _ m))
/-- the pairs in ascending order of their data -/
noncomputable def ascD (bs : List (V × PyData)) : List (V × PyData) := bs.mergeSort (PySem.W.dataLe false (·.2))
section
variable {X : Cx}
def rSortedD (K : PySem.W.Frag) : List V → Hp → VK → Prop := fun vs H Q => ∃ (a : Addr) (bs : List (V × PyData)), vs = [V.ref a] ∧ SqL K H a (bs.map (·.1)) ∧ (∀ b ∈ bs, Dp K H b.1 b.2) ∧ PySem.W.AllAlike (bs.map (·.2)) ∧ PySem.W.Sortable (bs.map (·.2)) ∧ (∀ b ∈ bs, b.2.depth ≤ 60) ∧
  ∀ p, H p = none → Q (.ref p) (upd H p (.lst ((ascD bs).map (·.1))))
theorem cr_sortedD (hu : X.A.units + 65 < cLine) : CallR X (.builtin "sorted") (rSortedD X.K) := by
  intro pins s σ H vs us Q I r h
  obtain ⟨a, bs, rfl, hs, hd, hal, hk, hdep, q⟩ := h
  obtain ⟨its, rv, hl, hz⟩ := I.list hs
  rw [Vals.ref1 r]
  have er0 := each_vals rv
  have er : PySem.W.EachIs (fun v (b : V × PyData) => ∃ as, Reads s.heap v b.2 as) its bs := each_in er0 fun v b m rb => Dp.reads I b.2 b.1 v (hd b m) rb
  have hz' : bs.length ≤ sizeLine := by rw [List.length_map] at hz; exact hz
  refine PySem.W.sorted_data (enc := fun b : V × PyData => b.2) hl.isList er0 er hal hk hz' (fun b hb => by have := hdep b hb; omega) fun out hlen ho => ?_
  obtain ⟨ep, he'⟩ := PyProof.Rows.sortedAll_at s.heap its out.toArray
  have hlen' : ((ascD bs).map (·.1)).length ≤ sizeLine := by
    unfold ascD
    rw [List.length_map, List.length_mergeSort]
    exact hz'
  exact ⟨.ref _, upd H (s.heap.objs.size + 1) (.lst ((ascD bs).map (·.1))), I.laid (t' := s.toks) (fun _ _ => PyProof.Rows.sortedAll_old) (Nat.le_succ _) ⟨hlen', out, ep, vals_each ho, he'⟩, rfl, q _ (I.hok.fresh (Nat.le_succ _))⟩
end
/-- a list in order is the one list of these items in strict order -/
theorem asc_one {α : Type} {lt : α → α → Bool} : ∀ {xs ys : List α}, xs.Perm ys → xs.Pairwise (fun a b => lt b a = false) → ys.Pairwise (fun a b => lt a b = true) → xs = ys
  | [], ys, p, _, _ => (List.Perm.nil_eq p)
  | x :: xs, [], p, _, _ => absurd p.length_eq (by simp)
  | x :: xs, y :: ys, p, h1, h2 => by
    have h1' := List.pairwise_cons.mp h1
    have h2' := List.pairwise_cons.mp h2
    have e : x = y := by
      have a : x ∈ y :: ys := p.mem_iff.mp List.mem_cons_self
      have b : y ∈ x :: xs := p.mem_iff.mpr List.mem_cons_self
      rcases List.mem_cons.mp a with a | a
      · exact a
      · rcases List.mem_cons.mp b with b | b
        · exact b.symm
        · have u := h1'.1 y b
          have v := h2'.1 x a
          rw [u] at v
          cases v
    subst e
    rw [asc_one (p.cons_inv) h1'.2 h2'.2]
theorem ascD_data {bs : List (V × PyData)} {ds : List PyData} (p : (bs.map (·.2)).Perm ds) (s : ds.Pairwise fun a b => PySem.W.dataLt a b = true) : (ascD bs).map (·.2) = ds := by
  refine asc_one (lt := PySem.W.dataLt) (((List.mergeSort_perm bs _).map _).trans p) ?_ s
  have h := PySem.W.sort_pairwise (PySem.W.sortLe_total (listOrd itemOrd) false fun b : V × PyData => PySem.W.keyToks b.2) bs
  refine List.pairwise_map.mpr (h.imp fun {a b} h => ?_)
  have h' : (!PySem.W.dataLt b.2 a.2) = true := h
  simpa using h'
theorem ascD_mem {bs : List (V × PyData)} {b : V × PyData} (h : b ∈ ascD bs) : b ∈ bs := (List.mergeSort_perm bs _).mem_iff.mp h
theorem ascD_dp {K : PySem.W.Frag} {H : Hp} {bs : List (V × PyData)} (h : ∀ b ∈ bs, Dp K H b.1 b.2) : Paired (Dp K H) ((ascD bs).map (·.1)) ((ascD bs).map (·.2)) := by
  have : ∀ xs : List (V × PyData), (∀ b ∈ xs, Dp K H b.1 b.2) → Paired (Dp K H) (xs.map (·.1)) (xs.map (·.2)) := by
    intro xs
    induction xs with
    | nil => intro _; exact .nil
    | cons x xs ih => intro hx; exact .cons (hx x List.mem_cons_self) (ih fun b m => hx b (List.mem_cons_of_mem _ m))
  exact this _ fun b m => h b (ascD_mem m)
/-! ### pairs of a standing and a number -/
structure Stn where
  a : Int
  b : Int
  c : Int
  d : Int
deriving DecidableEq
def stD (x : Stn) : PyData := .tuple [.int x.a, .int x.b, .int x.c, .int x.d]
def stV (x : Stn) : List V := [.int x.a, .int x.b, .int x.c, .int x.d]
def pnD (p : Stn × Int) : PyData := .tuple [stD p.1, .int p.2]
theorem stD_eqv (x y : Stn) : PyData.eqv (stD x) (stD y) = decide (x = y) := by
  obtain ⟨a, b, c, d⟩ := x
  obtain ⟨a', b', c', d'⟩ := y
  have e : PyData.eqv (stD ⟨a, b, c, d⟩) (stD ⟨a', b', c', d'⟩) = ((a == a') && ((b == b') && ((c == c') && ((d == d') && true)))) := by simp only [stD, PyData.eqv, PyData.eqvAll]
  rw [e, Bool.eq_iff_iff]
  simp
theorem pnD_eqv (x y : Stn × Int) : PyData.eqv (pnD x) (pnD y) = decide (x = y) := by
  have e : PyData.eqv (pnD x) (pnD y) = (PyData.eqv (stD x.1) (stD y.1) && ((x.2 == y.2) && true)) := by simp only [pnD, PyData.eqv, PyData.eqvAll]
  obtain ⟨x, n⟩ := x
  obtain ⟨y, m⟩ := y
  rw [e, stD_eqv, Bool.eq_iff_iff]
  simp
theorem stD_lay (x : Stn) : (stD x).canLay0 = true := by simp [stD, PyData.canLay0, PyData.canLayAll0]
theorem pnD_lay (x : Stn × Int) : (pnD x).canLay0 = true := by simp [pnD, stD, PyData.canLay0, PyData.canLayAll0]
theorem stD_depth (x : Stn) : (stD x).depth = 1 := by simp [stD, PyData.depth, PyData.depthAll]
theorem pnD_depth (x : Stn × Int) : (pnD x).depth = 2 := by simp [pnD, stD, PyData.depth, PyData.depthAll]
theorem stD_shaped (x : Stn) : SeqAt.shaped (stD x) = true := by
  show ((stD x).canLay0 && decide ((stD x).depth ≤ 64)) = true
  rw [Bool.and_eq_true]
  exact ⟨stD_lay x, decide_eq_true (by rw [stD_depth]; omega)⟩
theorem pnD_shaped (x : Stn × Int) : SeqAt.shaped (pnD x) = true := by
  show ((pnD x).canLay0 && decide ((pnD x).depth ≤ 64)) = true
  rw [Bool.and_eq_true]
  exact ⟨pnD_lay x, decide_eq_true (by rw [pnD_depth]; omega)⟩
theorem stD_alike (x y : Stn) : PySem.W.alike (stD x) (stD y) = true := by simp [stD, PySem.W.alike, PySem.W.alikeAll]
theorem pnD_alike (x y : Stn × Int) : PySem.W.alike (pnD x) (pnD y) = true := by simp [pnD, stD, PySem.W.alike, PySem.W.alikeAll]
theorem pnD_dp {K : PySem.W.Frag} {H : Hp} {p t : Addr} {x : Stn} {n : Int} (hp : H p = some (.tup [.ref t, .int n])) (ht : H t = some (.tup (stV x))) : Dp K H (.ref p) (pnD (x, n)) :=
  .tup (SqT.of hp) (.cons (.tup (SqT.of ht) (.cons (.int _) (.cons (.int _) (.cons (.int _) (.cons (.int _) .nil))))) (.cons (.int _) .nil))
def stL (x : Stn) : List Int := [x.a, x.b, x.c, x.d]
theorem stD_lt (x y : Stn) : PySem.W.dataLt (stD x) (stD y) = decide (stL x < stL y) := by
  have e : ∀ z : Stn, stD z = .tuple ((stL z).map .int) := fun _ => rfl
  rw [e, e, PySem.W.dataLt_tuple]
  exact PySem.W.dataLt_ints _ _
/-- the order of the pairs -/
theorem pnD_lt (x y : Stn × Int) : PySem.W.dataLt (pnD x) (pnD y) = if x.1 = y.1 then decide (x.2 < y.2) else decide (stL x.1 < stL y.1) := by
  obtain ⟨x, n⟩ := x
  obtain ⟨y, m⟩ := y
  show PySem.W.dataLt (.tuple [stD x, .int n]) (.tuple [stD y, .int m]) = _
  rw [PySem.W.dataLt_pair (stD_alike x y) (by simp [PySem.W.alike]), stD_eqv, stD_lt, PySem.W.dataLt_int]
  have e : PyData.eqv (.int n) (.int m) = decide (n = m) := by simp only [PyData.eqv]; by_cases g : n = m <;> simp [g]
  rw [e]
  by_cases h : x = y
  · rw [decide_eq_true h, if_pos rfl, if_pos h]
    by_cases g : n = m
    · rw [decide_eq_true g, if_pos rfl, g]
      simp
    · rw [decide_eq_false g, if_neg (by simp)]
  · rw [decide_eq_false h, if_neg (by simp), if_neg h]
theorem stD_inj {x y : Stn} (h : stD x = stD y) : x = y := by
  obtain ⟨a, b, c, d⟩ := x
  obtain ⟨a', b', c', d'⟩ := y
  injection h with h
  injection h with h1 h
  injection h with h2 h
  injection h with h3 h
  injection h with h4 h
  injection h1 with h1
  injection h2 with h2
  injection h3 with h3
  injection h4 with h4
  subst h1 h2 h3 h4
  rfl
theorem pnD_inj {x y : Stn × Int} (h : pnD x = pnD y) : x = y := by
  obtain ⟨x, n⟩ := x
  obtain ⟨y, m⟩ := y
  injection h with h
  injection h with h1 h
  injection h with h2 h
  injection h2 with h2
  have h1 : stD x = stD y := h1
  have h2 : n = m := h2
  rw [stD_inj h1, h2]
/-- v is the pair x -/
def PnAt (H : Hp) (v : V) (x : Stn × Int) : Prop := ∃ p t, v = .ref p ∧ H p = some (.tup [.ref t, .int x.2]) ∧ H t = some (.tup (stV x.1))
theorem PnAt.dp {K : PySem.W.Frag} {H : Hp} {v : V} {x : Stn × Int} (h : PnAt H v x) : Dp K H v (pnD x) := by
  obtain ⟨p, t, rfl, h1, h2⟩ := h
  exact pnD_dp h1 h2
theorem asc_pn {H : Hp} : ∀ {cs : List (V × PyData)} {ds : List (Stn × Int)}, (∀ b ∈ cs, ∃ q, b.2 = pnD q ∧ PnAt H b.1 q) → cs.map (·.2) = ds.map pnD → Paired (PnAt H) (cs.map (·.1)) ds
  | [], [], _, _ => .nil
  | [], d :: ds, _, e => by cases e
  | c :: cs, [], _, e => by cases e
  | c :: cs, d :: ds, h, e => by
    rw [List.map_cons, List.map_cons] at e
    injection e with e1 e2
    obtain ⟨q, h1, h2⟩ := h c List.mem_cons_self
    have e3 : q = d := pnD_inj (h1.symm.trans e1)
    exact .cons (e3 ▸ h2) (asc_pn (fun b m => h b (List.mem_cons_of_mem _ m)) e2)
theorem pn_alike {bs : List (V × PyData)} (h : ∀ b ∈ bs, ∃ q : Stn × Int, b.2 = pnD q) : PySem.W.AllAlike (bs.map (·.2)) := by
  intro d hd d' hd'
  obtain ⟨b, m, rfl⟩ := List.mem_map.mp hd
  obtain ⟨b', m', rfl⟩ := List.mem_map.mp hd'
  obtain ⟨q, e⟩ := h b m
  obtain ⟨q', e'⟩ := h b' m'
  rw [e, e']
  exact pnD_alike q q'
theorem pn_sortable {bs : List (V × PyData)} (h : ∀ b ∈ bs, ∃ q : Stn × Int, b.2 = pnD q) : PySem.W.Sortable (bs.map (·.2)) := .inl fun d hd => by
  obtain ⟨b, m, rfl⟩ := List.mem_map.mp hd
  obtain ⟨q, e⟩ := h b m
  exact ⟨stD q.1, [.int q.2], e⟩
theorem pn_depth {b : V × PyData} (h : ∃ q : Stn × Int, b.2 = pnD q) : b.2.depth ≤ 60 := by
  obtain ⟨q, e⟩ := h
  rw [e, pnD_depth]
  omega
end Hue

set_option Elab.async false
set_option linter.all false
set_option maxRecDepth 100000
set_option maxHeartbeats 4000000
/-! an own __iter__ that returns a list's iterator; == of lists of instances with their own == -/
namespace Hue
open PySem PySem.Spec PyProof.Rows L2 ItX
structure OwnIt (K : PySem.W.Frag) (C f : Addr) : Prop where
  at_ : PySem.W.findIn K (.ref C) "__iter__" = some (some (.ref f))
  fn : PySem.W.isFn K (.ref f) = true
theorem OwnM.iter {K : PySem.W.Frag} {C f : Addr} (o : OwnM K C "__iter__" f) : OwnIt K C f := ⟨o.at_, o.fn⟩
/-- a def by its body, entered at s0 -/
theorem fn_here {CX : CXT} {P : Program} {w : World} {K : PySem.W.Frag} {mg : Str → Option Value} {base : Heap} {k : Nat} {x qual : Str} {params : Arguments} {body : List Stmt} {scope : Scope} {f : Addr} {fd : FuncData}
    {N ps : List Str} {A : Around} {out : List Env} {s0 : Shared} {H : Hp} {xs : List Value} {vs : List V} {Q : VK} {E : XK}
    (F : FunD K x qual params body scope [] [] f fd) (S : FnScope N ps scope) (rm : Room (k + 1) A) (en : Env0 P w K mg base A out s0 H) (bd : Binds K fd ps []) (rel : Vals vs xs) (ln : vs.length = ps.length)
    (bod : ∀ cdv, Room k (A.deeper (envOfC qual scope s0.heap.objs.size f cdv)) → ∃ t, PSs (cxOf CX P w K mg base N qual scope f cdv A out s0 H E) body t ∧ t { nx := fun _ H' => Q .non H', rt := Q } (start N vs) H) :
    codeAny (model P w) A (.call (.ref f) ⟨xs, []⟩) (CR CX out P w H s0 Q E) s0 := by
  have kx : K.In s0.heap := en.mod.kin.keeps fun b o z => (en.bs b o z).1
  have nl : s0.heap.NoLimit := en.mod.nolimit.keeps fun b o z => (en.bs b o z).1
  have bt : BindsTo s0 fd ⟨xs, []⟩ (ps.zip xs) := by
    have z := bd s0 xs kx (by rw [List.append_nil, ← rel.length, ln])
    rw [List.append_nil] at z
    exact z
  obtain ⟨oc, od, dV, kV, doc, pm, an, cdv, ct, osl, rfl, lk, hcd, _, _⟩ := F.ex
  have kinds : ∀ y ∈ ps.zip xs, scope.names.lookup y.1 = some .local ∨ (scope.names.lookup y.1 = some .cell ∧ ((cellsFrom (s0.heap.objs.size + 1) scope.names []).lookup y.1).isSome = true) := by
    rintro ⟨n, v⟩ hy
    rcases S.par n (List.of_mem_zip hy).1 with z | z
    · exact .inl z
    · exact .inr ⟨z, PySem.W.cellsFrom_some _ _ _ (.inl z)⟩
  refine codeAny_call_function rm.depth (kx _ _ lk) rfl S.co S.gen rfl (PySem.W.codeRec_of kx hcd) (bt _ _ _ _ ?_)
  refine wpAny_newFunctionEnv_cells S.kind kinds fun en1 e1 s1 fr => ?_
  subst e1
  refine ⟨nl.keeps fr.toInCall.keep, codeAny_func ?_⟩
  obtain ⟨t, pt, q⟩ := bod cdv (rm.deeper _)
  have J : Inv (cxOf CX P w K mg base N qual scope f cdv A out s0 H E) [] (start N vs) H s1 := inv_start S rm.hd en ln rel fr
  refine wpAny_mono (pt.run [] s1 (start N vs) H _ J q) (fun fl s2 z => ?_) fun _ _ z => z
  cases fl with
  | next =>
    obtain ⟨_, H2, J2, q2⟩ := z
    exact ⟨V.non, H2, J2.os, J2.bare, J2.base, J2.hok, rfl, q2⟩
  | ret u =>
    obtain ⟨v, _, H2, J2, r2, q2⟩ := z
    exact ⟨v, H2, J2.os, J2.bare, J2.base, J2.hok, r2, q2⟩
  | brk =>
    obtain ⟨_, _, _, z⟩ := z
    exact z.elim
  | cont =>
    obtain ⟨_, _, _, z⟩ := z
    exact z.elim
/-- such an __iter__: a new iterator over the list at l, for what D says of the two -/
def FnI (P : Program) (w : World) (K : PySem.W.Frag) (mg : Str → Option Value) (base : Heap) (k : Nat) (f : Addr) (D : Addr → Addr → Hp → Prop) : Prop :=
  ∀ (A : Around) (out : List Env) (s0 : Shared) (H : Hp) (a l : Addr) (Q : VK), Room k A → Env0 P w K mg base A out s0 H → D a l H → (∀ it, H it = none → s0.heap.objs.size ≤ it → Q (.ref it) (upd H it (ItO l it 0))) →
    codeAny (model P w) A (.call (.ref f) ⟨[.ref a], []⟩) (CR CX0 out P w H s0 Q E0) s0
section
variable {X : Cx} {k : Nat} {C f : Addr} {D : Addr → Addr → Hp → Prop}
theorem sub_env {n : Nat} {A : Around} {pins : List (Addr × Obj)} {σ : L2.St} {H : Hp} {s : Shared} (sb : Sub X n A) (I : Inv X pins σ H s) : Env0 X.prog X.w X.K X.mg X.base A X.stack s H := by
  have z := I.env0
  refine ⟨?_, z.mod, z.bs, z.bsz, z.funs, z.frf, z.hok, z.bare⟩
  rw [sb.fr]
  exact z.frames
theorem run_iter {pins : List (Addr × Obj)} {σ : L2.St} {H : Hp} {s : Shared} {A : Around} {a l : Addr} {Q : VK} (F : FnI X.prog X.w X.K X.mg X.base k f D) (sb : Sub X k A) (I : Inv X pins σ H s) (hD : D a l H)
    (q : ∀ it, H it = none → s.heap.objs.size ≤ it → Q (.ref it) (upd H it (ItO l it 0))) : wpAny (model X.prog X.w) A (call (.ref f) [.ref a]) (EP X pins σ Q) X.xe s := by
  refine wpAny_call (codeAny_mono (F A X.stack s H a l Q sb.room (sub_env sb I) hD q) fun r s' hq => ?_)
  cases r with
  | error e =>
    obtain ⟨_, _, _, _, _, _, _, _, _, _, _, _, h⟩ := hq
  | ok fl =>
    cases fl with
    | ret u => exact I.after hq
    | next => exact hq.elim
    | brk => exact hq.elim
    | cont => exact hq.elim
theorem owit_list {A : Around} {s : Shared} {l it : Addr} {i : Nat} {Q : Value → Shared → Prop} {Er : Value → Shared → Prop} (e : s.heap.get? it = some (GNX.itObj l i)) (h : Q (.ref it) s) : PySem.W.OwitIt (model X.prog X.w) A Q Er (.ref it) s := by
  have hT : s.TypeIs (.ref it) "list_iterator" := ⟨_, e, rfl⟩
  unfold PySem.W.OwitIt
  exact wpAny_specialOf (name := Str.ofString "__next__") hT slot_listiter_next.lookup h
/-- for x in o, o's own __iter__ -/
def iOwn (K : PySem.W.Frag) (C : Addr) (D : Addr → Addr → Hp → Prop) (ta : TE) : TI := fun σ H R => ta σ H fun x H1 => ∃ a dx fs l, x = .ref a ∧ H1 a = some (.ins C dx fs) ∧ D a l H1 ∧ R (Itl K l) H1
theorem pi_own {tg e : Expr} {ta : TE} (o : OwnIt X.K C f) (F : FnI X.prog X.w X.K X.mg X.base k f D) (hr : Room k X.A) (ha : PE X e ta) : PI X tg e (iOwn X.K C D ta) := by
  refine ⟨fun pins s σ H R I h => ?_⟩
  refine thn (ha.run pins s σ H _ I h) fun u s1 ⟨v, H1, I1, rv, a, dx, fs, l, ev, hi, hD, q⟩ => ?_
  subst ev
  obtain rfl : u = Value.ref a := rv
  obtain ⟨mA, O, _⟩ := ins_get I1.hok hi
  obtain ⟨od, J, _⟩ := O.look
  obtain ⟨m0, Fm⟩ := I1.fr
  refine PySem.W.owit_iter Fm I1.ok.mod.kin J o.at_ o.fn (thn (run_iter (Q := fun v H2 => ∃ it, v = .ref it ∧ H1 it = none ∧ X.s_0.heap.objs.size ≤ it ∧ H2 = upd H1 it (ItO l it 0)) F ⟨hr, rfl⟩ I1 hD fun it hn hs => ⟨it, rfl, hn, Nat.le_trans I1.sz hs, rfl⟩) fun w' s2 hq => ?_)
  obtain ⟨z, H2, I2, rz, it, rfl, hn, young, eH⟩ := hq
  obtain rfl : w' = Value.ref it := rz
  subst eH
  have h2 : upd H1 it (ItO l it 0) it = some (ItO l it 0) := upd_same
  have eo := itO_get I2 h2
  have I3 := inv_drop I2 (φ := fun h => h.get? it = some (GNX.itObj l 0)) h2
  have fp := inv_fp I2 h2 young
  rw [dropH_upd hn] at I3 fp
  refine owit_list eo ⟨it, [it], _, _, H1, rfl, I3, turn_list l it, ⟨_, eo, rfl, rfl⟩, fun b hb => ?_, q⟩
  have e : b = it := by simpa using hb
  rw [e]
  exact fp
/-! list(o) -/
variable {kl : Nat} {fl : Addr} {spL : Sp}
theorem run_sub {pins : List (Addr × Obj)} {σ : L2.St} {H : Hp} {s : Shared} {A : Around} {n : Nat} {g : Addr} {sp : Sp} {us : List Value} {vs : List V} {Q : VK} {Er : Value → Shared → Prop} (F : FnR X.prog X.w X.K X.mg X.base CX0 n g sp) (sb : Sub X n A) (I : Inv X pins σ H s) (r : Vals vs us)
    (h : sp vs H Q E0) : wpAny (model X.prog X.w) A (call (.ref g) us) (EP X pins σ Q) Er s := by
  refine wpAny_call (codeAny_mono (F A X.stack s H us vs Q E0 sb.room (sub_env sb I) r h) fun r s' hq => ?_)
  cases r with
  | error e =>
    obtain ⟨_, _, _, _, _, _, _, _, _, _, _, _, h⟩ := hq
  | ok fl =>
    cases fl with
    | ret u => exact I.after hq
    | next => exact hq.elim
    | brk => exact hq.elim
    | cont => exact hq.elim
/-- the class has __len__, and what it gives is the list's length -/
structure OwnLn (K : PySem.W.Frag) (C f : Addr) : Prop where
  at_ : PySem.W.findIn K (.ref C) "__len__" = some (some (.ref f))
  fn : PySem.W.isFn K (.ref f) = true
theorem hint_own {pins : List (Addr × Obj)} {σ : L2.St} {H : Hp} {s : Shared} {A : Around} {a dx : Addr} {fs : List (Str × V)} {Q : Bool → Shared → Prop} (ol : OwnLn X.K C fl) (F : FnR X.prog X.w X.K X.mg X.base CX0 kl fl spL) (sb : Sub X (kl + 1) A) (I : Inv X pins σ H s)
    (ha : H a = some (.ins C dx fs)) (hsp : spL [.ref a] H (fun v H' => ∃ n : Nat, v = .int n ∧ n < 1000 ∧ H' = H) E0) (h : ∀ b s', Inv X pins σ H s' → Q b s') :
    wpAny (model X.prog X.w) A (Builtin.List.listLengthHint (.ref a)) Q X.xe s := by
  obtain ⟨mA, O, _⟩ := ins_get I.hok ha
  obtain ⟨od, J, _⟩ := O.look
  obtain ⟨m0, Fm⟩ := I.fr
  unfold Builtin.List.listLengthHint
  refine wpAny_bind (wpAny_bind (J.type.here ((PySem.W.looks_findIn I.kIn ol.at_).here ?_)))
  refine PySem.W.KFB.if_not rfl ?_
  refine wpAny_bind (wpAny_rule ?_)
  refine wpAny_bind (wpAny_attempt ?_)
  refine PySem.W.len_K Fm I.ok.mod.kin J ol.at_ ol.fn (thn (run_sub (us := [.ref a]) (vs := [.ref a]) F sb.in1 I (.cons rfl .nil) hsp) fun u s' hq => ?_)
  obtain ⟨z, H', I', rz, n, rfl, hn, eH⟩ := hq
  subst eH
  obtain ⟨t, rfl⟩ := rz
  refine ⟨⟨by omega, by omega⟩, ?_⟩
  have small : ¬ (Builtin.List.listTooLong ((n : Int)).toNat = true) := by
    unfold Builtin.List.listTooLong
    rw [Int.toNat_natCast]
    have : sizeLine = 1099511627776 ∨ 1000 ≤ sizeLine := .inr (by decide)
    simp only [decide_eq_true_eq]
    have h2 : 1000 ≤ sizeLine := by decide
    omega
  refine wpAny_bind (m := asInt? _) (wpAny_pure ?_)
  show wpAny _ _ (if Builtin.List.listTooLong ((n : Int)).toNat = true then _ else _) _ _ _
  rw [if_neg small]
  exact wpAny_pure (h _ _ (I'.tok _))
theorem ext_loop {pins : List (Addr × Obj)} {σ : L2.St} {H0 : Hp} {A1 : Around} {q l it : Addr} {zs : List V} {Rs : Result → Shared → Prop} (hh : A1.in1.handled = none) (nq : H0 q = none) (hl : SqL X.K H0 l zs) (hz : zs.length < sizeLine)
    (done : ∀ s, Inv X pins σ (upd H0 q (.lst zs)) s → Rs (.ok (.ret .none)) s) : ∀ (n i : Nat) (s : Shared), zs.length - i = n → i ≤ zs.length → Inv X pins σ (upd H0 q (.lst (zs.take i))) s → s.heap.IsListIter it l i → FpOk X pins (upd H0 q (.lst (zs.take i))) it →
      codeAny (model X.prog X.w) A1 (.builtin "list.extend.loop" ⟨[.ref q, .ref it, .none], []⟩) Rs s := by
  intro n
  induction n with
  | zero =>
    intro i s hn hi I st fp
    have e : i = zs.length := by omega
    subst e
    rw [List.take_length] at I fp
    have hl2 : SqL X.K (upd H0 q (.lst zs)) l zs := hl.ext (Ext.upd nq)
    obtain ⟨its, rv, p, hs⟩ := I.list hl2
    obtain ⟨f0, f1, f2, f3, f4, f5⟩ := fp
    have ln := rv.length
    refine codeAny_builtin PySem.F.entry_extend_loop ?_
    rw [Around.under_plainId PySem.F.plain_extend_loop _]
    show wpAny _ A1.in1 (pyNext (.ref it) >>= _) _ _ _
    refine wpAny_bind (wpAny_pyNext_list_end hh st p.isList (by simp; omega) fun h' eb => ?_)
    exact wpAny_pure (done _ (I.turned (t' := s.toks) (fun b o hb z => eb b o hb z) f0 f1 f3 f4 f5))
  | succ n ih =>
    intro i s hn hi I st fp
    have hlt : i < zs.length := by omega
    have hl2 : SqL X.K (upd H0 q (.lst (zs.take i))) l zs := hl.ext (Ext.upd nq)
    obtain ⟨its, rv, p, hs⟩ := I.list hl2
    have fp' := fp
    obtain ⟨f0, f1, f2, f3, f4, f5⟩ := fp
    obtain ⟨u, hu, ru⟩ := rv.get (List.getElem?_eq_getElem hlt)
    refine codeAny_builtin PySem.F.entry_extend_loop ?_
    rw [Around.under_plainId PySem.F.plain_extend_loop _]
    show wpAny _ A1.in1 (pyNext (.ref it) >>= _) _ _ _
    refine wpAny_bind (wpAny_pyNext_list_item st p.isList (x := u) (by simpa using hu) fun h' st' sb => ?_)
    have I1 : Inv X pins σ (upd H0 q (.lst (zs.take i))) { s with heap := h' } := I.turned (t' := s.toks) (fun b o hb z => (sb.2 b hb).trans z) f0 f1 f3 f4 f5
    show wpAny _ A1.in1 (updateSeq q (·.push u) >>= _) _ _ _
    obtain ⟨z, its1, k1, r1, hl1, e1⟩ := I1.lstM upd_same
    have len1 : its1.length = i := by
      rw [← r1.length, List.length_take]
      omega
    have snoc : zs.take (i + 1) = zs.take i ++ [zs[i]] := by rw [List.take_add_one, List.getElem?_eq_getElem hlt]; rfl
    refine wpAny_bind (wpAny_updateSeq e1 rfl (wpAny_pure ⟨plainId_quiet PySem.F.plain_extend_loop _, ?_⟩) (by rw [List.size_toArray]; omega) (by show (its1.toArray.push u).size ≤ sizeLine + 1; rw [Array.size_push, List.size_toArray]; omega))
    have I2 := I1.lset (its' := its1 ++ [u]) (ys := zs.take (i + 1)) (t' := s.toks) upd_same e1 (f := (·.push u)) (by simp) (by rw [snoc]; exact r1.append (.cons ru .nil)) (by rw [List.length_take]; omega)
    rw [upd_upd] at I2
    have nq2 : it ≠ q := fun z => by
      rw [z, upd_same] at f0
      cases f0
    refine ih (i + 1) _ (by omega) (by omega) I2 ?_ ⟨?_, fp'.2⟩
    · exact st'.at fun o z => by
        show ((h'.update q _).get? it) = _
        rw [Heap.get?_update_ne _ _ _ _ nq2]
        exact z
    · rw [upd_ne nq2] at f0 ⊢
      exact f0
theorem ext_own {pins : List (Addr × Obj)} {σ : L2.St} {H : Hp} {s : Shared} {A1 : Around} {a q l dx : Addr} {fs : List (Str × V)} {zs : List V} {Rs : Result → Shared → Prop} (oi : OwnIt X.K C f) (FI : FnI X.prog X.w X.K X.mg X.base k f D)
    (ol : OwnLn X.K C fl) (FL : FnR X.prog X.w X.K X.mg X.base CX0 kl fl spL) (hD : ∀ a l H H', Ext H H' → D a l H → D a l H') (hL : ∀ a l H, D a l H → spL [.ref a] H (fun v H' => ∃ n : Nat, v = .int n ∧ n < 1000 ∧ H' = H) E0)
    (sbi : Sub X k A1.in1) (sbl : Sub X (kl + 1) A1.in1) (hh : A1.in1.handled = none) (nq : H q = none) (hd : D a l H) (ha : H a = some (.ins C dx fs)) (hl : SqL X.K H l zs) (hz : zs.length < sizeLine)
    (I : Inv X pins σ (upd H q (.lst [])) s) (done : ∀ s, Inv X pins σ (upd H q (.lst zs)) s → Rs (.ok (.ret .none)) s) (herr : ∀ e s, X.xe e s → Rs (.error e) s) :
    wpAny (model X.prog X.w) A1.in1 (Builtin.List.listExtendWith (.ref q) (.ref a) .none)
      (fun fin s' => match fin with | .done g => Rs (.ok g) s' | .again c => c.quiet = true ∧ codeAny (model X.prog X.w) A1 c Rs s') (fun e s' => Rs (.error e) s') s := by
  have ext : Ext H (upd H q (.lst [])) := Ext.upd nq
  have ha2 := ext _ _ ha
  have hne : q ≠ a := ne_of upd_same ha2 (fun z => nomatch z)
  obtain ⟨mA, O, _⟩ := ins_get I.hok ha2
  obtain ⟨od, J, _⟩ := O.look
  obtain ⟨m0, Fm⟩ := I.fr
  unfold Builtin.List.listExtendWith
  refine wpAny_bind (J.type.here ?_)
  have b1 : Builtin.List.listSameRef (.ref q) (.ref a) = false := by simp [Builtin.List.listSameRef, hne]
  have b2 : (Value.ref C == Value.type "list") = false := rfl
  have b3 : (Value.ref C == Value.type "tuple") = false := rfl
  simp only [b1, b2, b3, Bool.or_false, Bool.false_eq_true, if_false]
  have nq' : ∀ it, upd H q (.lst []) it = none → it ≠ q := fun it hn z => by rw [z, upd_same] at hn; cases hn
  refine wpAny_bind (PySem.W.owit_iter Fm I.ok.mod.kin J oi.at_ oi.fn (wpAny_mono (run_iter (Q := fun v H2 => ∃ it, v = .ref it ∧ upd H q (.lst []) it = none ∧ X.s_0.heap.objs.size ≤ it ∧ H2 = upd (upd H q (.lst [])) it (ItO l it 0)) FI sbi I (hD _ _ _ _ ext hd) fun it hn hs => ⟨it, rfl, hn, Nat.le_trans I.sz hs, rfl⟩) (fun w' s2 hq => ?_) fun e s' he => herr e s' he))
  obtain ⟨z, H2, I2, rz, it, rfl, hn, young, eH⟩ := hq
  obtain rfl : w' = Value.ref it := rz
  subst eH
  have h2 : upd (upd H q (.lst [])) it (ItO l it 0) it = some (ItO l it 0) := upd_same
  have eo := itO_get I2 h2
  refine owit_list eo ?_
  have I2' := I2
  have ext2 : Ext (upd H q (.lst [])) (upd (upd H q (.lst [])) it (ItO l it 0)) := Ext.upd hn
  refine wpAny_bind (wpAny_holding (wpAny_mono (hint_own ol FL sbl I2 (ext2 _ _ ha2) (hL _ _ _ (hD _ _ _ _ ext2 (hD _ _ _ _ ext hd))) (Q := fun _ s' => Inv X pins σ (upd (upd H q (.lst [])) it (ItO l it 0)) s') fun _ _ z => z) (fun b s3 I3 => ?_) fun e s' he => herr e s' he))
  have go : ∀ s4, Inv X pins σ (upd (upd H q (.lst [])) it (ItO l it 0)) s4 → codeAny (model X.prog X.w) A1 (.builtin "list.extend.loop" ⟨[.ref q, .ref it, .none], []⟩) Rs s4 := fun s4 I4 => by
    have eo4 := itO_get I4 h2
    have I5 := inv_drop I4 (φ := fun h => h.get? it = some (GNX.itObj l 0)) h2
    have fp := inv_fp I4 h2 young
    rw [dropH_upd hn] at I5 fp
    exact ext_loop hh nq hl hz done zs.length 0 s4 rfl (Nat.zero_le _) I5 ⟨_, eo4, rfl, rfl⟩ fp
  refine wpAny_ite_split (fun _ => ?_) (fun _ => wpAny_pure ⟨plainId_quiet PySem.F.plain_extend_loop _, go _ I3⟩)
  refine wpAny_bind (wpAny_rule ?_)
  refine wpAny_bind ?_
  show wpAny _ _ (updateSeq q (·.push .none) >>= fun _ => updateSeq q (·.pop)) _ _ _
  have hq3 : upd (upd H q (.lst [])) it (ItO l it 0) q = some (.lst []) := by rw [upd_ne (nq' it hn).symm, upd_same]
  obtain ⟨z4, its, k4, r4, hl4, e4⟩ := I3.lstM hq3
  cases r4
  refine wpAny_bind (wpAny_updateSeq e4 rfl ?_)
  have I6 := I3.lset (f := (·.push Value.none)) (its' := [Value.none]) (ys := [.non]) (t' := s3.toks) hq3 e4 (by simp) (.cons rfl .nil) (by rw [List.length_singleton, sizeLine_eq]; decide)
  obtain ⟨z7, its7, k7, r7, hl7, e7⟩ := I6.lstM upd_same
  obtain ⟨u7, rfl, ru7⟩ := r7.one
  refine wpAny_updateSeq e7 rfl ?_ (by show 1 ≤ sizeLine; rw [sizeLine_eq]; decide) (by show 0 ≤ sizeLine + 1; exact Nat.zero_le _)
  refine wpAny_pure ⟨plainId_quiet PySem.F.plain_extend_loop _, go _ ?_⟩
  have I8 := I6.lset (f := (·.pop)) (its := [u7]) (its' := []) (ys := []) (t' := s3.toks) upd_same e7 (by rfl) .nil (Nat.zero_le _)
  rw [upd_upd] at I8
  have back : upd (upd (upd H q (.lst [])) it (ItO l it 0)) q (.lst []) = upd (upd H q (.lst [])) it (ItO l it 0) := by
    funext b
    by_cases hb : b = q
    · rw [hb, upd_same, hq3]
    · rw [upd_ne hb]
  rw [back] at I8
  exact I8
/-- list(o) -/
def rOwnL (K : PySem.W.Frag) (C : Addr) (D : Addr → Addr → Hp → Prop) : List V → Hp → VK → Prop := fun xs H Q => ∃ a dx fs l zs, xs = [.ref a] ∧ H a = some (.ins C dx fs) ∧ D a l H ∧ SqL K H l zs ∧ zs.length < 1000 ∧ ∀ q, H q = none → Q (.ref q) (upd H q (.lst zs))
theorem call_listI (hc : X.calm = true) (oi : OwnIt X.K C f) (FI : FnI X.prog X.w X.K X.mg X.base k f D)
    (ol : OwnLn X.K C fl) (FL : FnR X.prog X.w X.K X.mg X.base CX0 kl fl spL) (hD : ∀ a l H H', Ext H H' → D a l H → D a l H') (hL : ∀ a l H, D a l H → spL [.ref a] H (fun v H' => ∃ n : Nat, v = .int n ∧ n < 1000 ∧ H' = H) E0)
    (hri : Room (k + 2) X.A) (hrl : Room (kl + 3) X.A) : CallR X (.type "list") (rOwnL X.K C D) := by
  intro pins s σ H xs us Q I rv h
  obtain ⟨a, dx, fs, l, zs, rfl, ha, hd, hl, hz, hq⟩ := h
  obtain ⟨u, rfl, ru⟩ := rv.one
  cases ru
  have sbi : Sub X k X.A.in1.in1 := (Sub.in1 (Sub.in1 (⟨hri, rfl⟩ : Sub X (k + 2) X.A)))
  have sbl : Sub X (kl + 1) X.A.in1.in1 := (Sub.in1 (Sub.in1 (⟨hrl, rfl⟩ : Sub X (kl + 3) X.A)))
  refine callType_codes (Q₁ := fun obj s₁ => obj = .ref s.heap.objs.size ∧ s₁ = { s with heap := s.heap.push { cls := .type "list", data := .seq #[] } }) PySem.F.called_list (PySem.F.typeCall_list_1 _) PySem.F.entry_list_init
    (code_list_new _ ⟨rfl, rfl⟩) fun obj s₁ h₁ => ?_
  obtain ⟨rfl, rfl⟩ := h₁
  have new0 : (s.heap.push { cls := .type "list", data := .seq #[] }).get? s.heap.objs.size = some { cls := .type "list", data := .seq #[] } := Heap.get?_push_size _ rfl
  refine ⟨⟨_, new0, rfl⟩, PySem.F.args_list_init_2 _ _, ?_⟩
  have nq : H s.heap.objs.size = none := I.hok.fresh (Nat.le_refl _)
  have I1 : Inv X pins σ (upd H s.heap.objs.size (.lst [])) { s with heap := s.heap.push { cls := .type "list", data := .seq #[] } } := I.lnew (its := []) (t' := s.toks) .nil (Nat.zero_le _)
  show wpAny _ _ (do let old ← Builtin.List.listItems (.ref s.heap.objs.size); Builtin.List.listUpdate (.ref s.heap.objs.size) (fun _ => #[]); letGo old.toList.reverse; Builtin.List.listExtendWith (.ref s.heap.objs.size) (.ref a) .none) _ _ _
  refine wpAny_bind ?_
  unfold Builtin.List.listItems
  refine wpAny_bind (wpAny_seqItems new0 rfl (wpAny_pure ?_))
  show wpAny _ _ (updateSeq s.heap.objs.size (fun _ => #[]) >>= fun _ => letGo (#[] : Array Value).toList.reverse >>= fun _ => Builtin.List.listExtendWith (.ref s.heap.objs.size) (.ref a) .none) _ _ _
  refine wpAny_bind (wpAny_updateSeq new0 rfl ?_)
  have I2 := I1.lset (f := fun _ => #[]) (its := []) (its' := []) (ys := []) (t' := s.toks) upd_same new0 rfl .nil (Nat.zero_le _)
  rw [upd_upd] at I2
  refine wpAny_bind (wpAny_letGo ?_)
  exact ext_own (A1 := X.A.in1) (Rs := wants (fun r s₂ => r = .none ∧ EP X pins σ Q (.ref s.heap.objs.size) s₂) X.xe) oi FI ol FL hD hL sbi sbl (I.ok.hd hc) nq hd ha hl (Nat.lt_of_lt_of_le hz (by decide)) I2
    (fun s' I' => ⟨rfl, .ref s.heap.objs.size, _, I', rfl, hq _ nq⟩) (fun e s' he => he)
end
end Hue

set_option Elab.async false
set_option linter.all false
set_option maxRecDepth 100000
set_option maxHeartbeats 4000000
/-! == of lists whose items have their own == -/
namespace Hue
open PySem PySem.SeqAt
open AutoSeq1 (wpAny_loadPart')
open MeetsSeq MeetsSeq2 MeetsSeq3 SeqRoads2
open GQ (FinOf)
section
variable {prog : Program} {w : World} {A : Around} {R : Result → Shared → Prop}
/-- at each turn the two lists are read anew: N items each, the i-th two equal, or not and then F -/
def ListB (prog : Program) (w : World) (A : Around) (E : Value → Shared → Prop) (l b : Addr) (N : Nat) (I : Nat → Shared → Prop) (Fl : Shared → Prop) : Prop :=
  ∀ i s, I i s → ∃ (xs ys : Array Value) (n m : Nat), s.heap.get? l = some { cls := .type "list", data := .seq xs n } ∧ s.heap.get? b = some { cls := .type "list", data := .seq ys m } ∧ xs.size = N ∧ ys.size = N ∧
    ∀ (h1 : i < xs.size) (h2 : i < ys.size), wpAny (model prog w) A.in1 (eqBool xs[i] ys[i]) (fun r s' => (r = true ∧ I (i + 1) s') ∨ (r = false ∧ Fl s' ∧ ∃ (xs' ys' : Array Value) (n' m' : Nat), s'.heap.get? l = some { cls := .type "list", data := .seq xs' n' } ∧ s'.heap.get? b = some { cls := .type "list", data := .seq ys' m' } ∧ i < xs'.size ∧ i < ys'.size)) E s
theorem eq_loopB (l b : Addr) (N : Nat) (I : Nat → Shared → Prop) (Fl : Shared → Prop) (hl : ListB prog w A (fun e s' => R (.error e) s') l b N I Fl)
    (yes : ∀ s, I N s → R (.ok (.ret (.bool true))) s) (no : ∀ s, Fl s → R (.ok (.ret (.bool false))) s) (k : Nat) : ∀ i : Nat, N - i = k → i ≤ N → ∀ s, I i s →
      wpAny (model prog w) A.in1 (Builtin.«list.__eq__.loop» ⟨[.ref l, .ref b, rawInt i, rawInt 2], []⟩) (FinOf prog w A R) (fun e s' => R (.error e) s') s := by
  induction k with
  | zero =>
    intro i hk hi s h
    obtain ⟨xs, ys, n, m, g1, g2, z1, z2, _⟩ := hl _ _ h
    have e : i = N := by omega
    have fin : R (.ok (.ret (.bool true))) s := yes s (e ▸ h)
    obtain ⟨hp, g, d, tk, os⟩ := s
    wp_walk using wpAny_loadPart' g1, wpAny_loadPart' g2
    have n1 : xs[((i : Nat) : Int).toNat]? = none := by simp; omega
    have n2 : ys[((i : Nat) : Int).toNat]? = none := by simp; omega
    rw [n1, n2]
    wp_walk using wpAny_loadPart' g1, wpAny_loadPart' g2
    show R (.ok (.ret (.bool (xs.size == ys.size)))) _
    rw [z1, z2]
    simpa using fin
  | succ k ih =>
    intro i hk hi s h
    obtain ⟨xs, ys, n, m, g1, g2, z1, z2, turn⟩ := hl _ _ h
    have l1 : i < xs.size := by omega
    have l2 : i < ys.size := by omega
    have tn := turn l1 l2
    obtain ⟨hp, g, d, tk, os⟩ := s
    wp_walk using wpAny_loadPart' g1, wpAny_loadPart' g2
    have n1 : xs[((i : Nat) : Int).toNat]? = some xs[i] := by simp [l1]
    have n2 : ys[((i : Nat) : Int).toNat]? = some ys[i] := by simp [l2]
    have c1 : ((i : Int) + 1) = ((i + 1 : Nat) : Int) := by omega
    rw [n1, n2]
    refine wpAny_bind (wpAny_mono tn (fun r s2 h2 => ?_) fun _ _ z => z)
    rcases h2 with ⟨rfl, h2⟩ | ⟨rfl, h2, xs', ys', n', m', g3, g4, l3, l4⟩
    · have next := ih (i + 1) (by omega) (by omega) s2 h2
      obtain ⟨hp2, g2', d2, tk2, os2⟩ := s2
      wp_walk
      rw [c1]
      exact ⟨plainId_quiet plain_eq_loop _, codeAny_builtin entry_eq_loop (by
        rw [Around.under_plainId plain_eq_loop _]
        exact next)⟩
    · have fin := no _ h2
      obtain ⟨hp2, g2', d2, tk2, os2⟩ := s2
      wp_walk using wpAny_loadPart' g3, wpAny_loadPart' g4
      have n3 : xs'[((i : Nat) : Int).toNat]? = some xs'[i] := by simp [l3]
      have n4 : ys'[((i : Nat) : Int).toNat]? = some ys'[i] := by simp [l4]
      rw [n3, n4]
      wp_walk
      exact fin
theorem list_eqB (l b : Addr) (N : Nat) (I : Nat → Shared → Prop) (Fl : Shared → Prop) (hl : ListB prog w A (fun e s' => R (.error e) s') l b N I Fl)
    (yes : ∀ s, I N s → R (.ok (.ret (.bool true))) s) (no : ∀ s, Fl s → R (.ok (.ret (.bool false))) s) {s : Shared} (h : I 0 s) :
    wpAny (model prog w) A.in1 (Builtin.«list.__eq__» ⟨[.ref l, .ref b], []⟩) (FinOf prog w A R) (fun e s' => R (.error e) s') s := by
  obtain ⟨xs, ys, n, m, g1, g2, z1, z2, _⟩ := hl _ _ h
  have go := eq_loopB (A := A) (R := R) l b N I Fl hl yes no _ 0 rfl (Nat.zero_le _) s h
  obtain ⟨hp, g, d, tk, os⟩ := s
  have f3 := AutoSeq1.sub_list_list
  have same : ¬ (xs.size != ys.size) = true := by simp [z1, z2]
  wp_walk using wpAny_loadPart' g1, wpAny_loadPart' g2
  exact ⟨plainId_quiet plain_eq_loop _, codeAny_builtin entry_eq_loop (by
    rw [Around.under_plainId plain_eq_loop _]
    exact go)⟩
/-- lists of two lengths are not equal -/
theorem list_neB (l b : Addr) {xs ys : Array Value} {n m : Nat} {s : Shared} (g1 : s.heap.get? l = some { cls := .type "list", data := .seq xs n }) (g2 : s.heap.get? b = some { cls := .type "list", data := .seq ys m })
    (dif : xs.size ≠ ys.size) (no : R (.ok (.ret (.bool false))) s) : wpAny (model prog w) A.in1 (Builtin.«list.__eq__» ⟨[.ref l, .ref b], []⟩) (FinOf prog w A R) (fun e s' => R (.error e) s') s := by
  obtain ⟨hp, g, d, tk, os⟩ := s
  have f3 := AutoSeq1.sub_list_list
  have same : (xs.size != ys.size) = true := by simp [dif]
  wp_walk using wpAny_loadPart' g1, wpAny_loadPart' g2
  exact no
end
section
variable {prog : Program} {w : World} {A : Around} {E : Value → Shared → Prop} {s : Shared}
theorem rc_listB {l b : Addr} {N : Nat} {Q : Value → Shared → Prop} (hu : A.units < cLine) (I : Nat → Shared → Prop) (Fl : Shared → Prop) (hl : ListB prog w A E l b N I Fl)
    (yes : ∀ s, I N s → Q (.bool true) s) (no : ∀ s, Fl s → Q (.bool false) s) (h : I 0 s) : wpAny (model prog w) A (richCompare .Eq (.ref l) (.ref b)) Q E s := by
  obtain ⟨xs, ys, n, m, g1, g2, _, _, _⟩ := hl _ _ h
  refine wpAny_richCompare_same_room (op := .Eq) ⟨_, g1, rfl⟩ ⟨_, g2, rfl⟩ F.slot_list_eq (GQ.call_here F.slot_list_eq ⟨_, g1, rfl⟩ F.entry_list_eq (F.args_list_eq_2 _ _) ?_) hu
  exact list_eqB (R := wants (fun v s' => v ≠ .notImplemented ∧ Q v s') E) l b N I Fl hl (fun s' q => ⟨(fun x => nomatch x), yes s' q⟩) (fun s' q => ⟨(fun x => nomatch x), no s' q⟩) h
theorem rc_listN {l b : Addr} {xs ys : Array Value} {n m : Nat} {Q : Value → Shared → Prop} (hu : A.units < cLine) (g1 : s.heap.get? l = some { cls := .type "list", data := .seq xs n }) (g2 : s.heap.get? b = some { cls := .type "list", data := .seq ys m })
    (dif : xs.size ≠ ys.size) (no : Q (.bool false) s) : wpAny (model prog w) A (richCompare .Eq (.ref l) (.ref b)) Q E s := by
  refine wpAny_richCompare_same_room (op := .Eq) ⟨_, g1, rfl⟩ ⟨_, g2, rfl⟩ F.slot_list_eq (GQ.call_here F.slot_list_eq ⟨_, g1, rfl⟩ F.entry_list_eq (F.args_list_eq_2 _ _) ?_) hu
  exact list_neB (R := wants (fun v s' => v ≠ .notImplemented ∧ Q v s') E) l b g1 g2 dif ⟨(fun x => nomatch x), no⟩
end
end Hue
namespace Hue
open PySem PySem.Spec PyProof.Rows L2
section
variable {X : Cx} {n : Nat} {C f : Addr} {R : Addr → Addr → Hp → Bool → Prop}
/-- what the own == promises: R tells the answer, the heap stays -/
def spEqB (R : Addr → Addr → Hp → Bool → Prop) : Sp := fun vs H Q _ => ∃ a b r, vs = [.ref a, .ref b] ∧ R a b H r ∧ Q (.bl r) H
theorem eqB_ins (F : FnR X.prog X.w X.K X.mg X.base CX0 n f (spEqB R)) (o : OwnM X.K C "__eq__" f) (self : ∀ a H r, R a a H r → r = true) {A : Around} (sb : Sub X n A) {pins : List (Addr × Obj)} {s : Shared} {σ : L2.St} {H : Hp} {a b dx dy : Addr} {fs gs : List (Str × V)} {r : Bool} {E : Value → Shared → Prop}
    (I : Inv X pins σ H s) (ha : H a = some (.ins C dx fs)) (hb : H b = some (.ins C dy gs)) (hr : R a b H r) : wpAny (model X.prog X.w) A (eqBool (.ref a) (.ref b)) (fun z s' => z = r ∧ Inv X pins σ H s') E s := by
  by_cases e : a = b
  · subst e
    rw [self _ _ _ hr]
    exact SeqAt.EqAt.same (A := A) (s := s) (.ref a) X.prog X.w E _ ⟨rfl, I⟩
  · obtain ⟨mA, O, _⟩ := ins_get I.hok ha
    obtain ⟨mB, O', _⟩ := ins_get I.hok hb
    obtain ⟨od, J, _⟩ := O.look
    obtain ⟨od', J', _⟩ := O'.look
    obtain ⟨m, Fm⟩ := I.fr
    refine GQ.eqBool_refG e (PySem.W.cmp_K (op := .Eq) (tb := .ref C) sb.room.units0 Fm I.ok.mod.kin J J'.type (by simp [PySem.W.notFirst]) o.at_ o.fn (wpAny_mono (run_sub (us := [.ref a, .ref b]) (vs := [.ref a, .ref b]) (Q := fun v H' => v = .bl r ∧ H' = H) F sb I (.cons rfl (.cons rfl .nil)) ⟨a, b, r, rfl, hr, rfl, rfl⟩) (fun u s' hq => ?_) fun _ _ z => z))
    obtain ⟨z, H', I', rz, rfl, rfl⟩ := hq
    obtain rfl : u = Value.bool r := rz
    exact SlX.cmpback (z := V.bl r) rfl ⟨r, rfl, rfl, I'⟩
/-- the items of the two lists, one by one, by the own == -/
def rEqLB (C : Addr) (R : Addr → Addr → Hp → Bool → Prop) : R2 := fun x y H Q => ∃ (a b : Addr) (xs ys : List Addr) (r : Bool), x = .ref a ∧ y = .ref b ∧ H a = some (.lst (xs.map V.ref)) ∧ H b = some (.lst (ys.map V.ref)) ∧
  ((xs.length ≠ ys.length ∧ r = false) ∨ (xs.length = ys.length ∧ ∃ g : Nat → Bool, (∀ i p q, xs[i]? = some p → ys[i]? = some q → ∃ dx dy fs gs, H p = some (.ins C dx fs) ∧ H q = some (.ins C dy gs) ∧ R p q H (g i)) ∧ r = (List.range xs.length).all g)) ∧ Q (.bl r) H
theorem op_eqLB (F : FnR X.prog X.w X.K X.mg X.base CX0 n f (spEqB R)) (o : OwnM X.K C "__eq__" f) (self : ∀ a H r, R a a H r → r = true) (hr : Room (n + 1) X.A) : OpR X (compareOp .Eq) (rEqLB C R) := by
  intro pins s σ H x y v u Q I rx ry h
  obtain ⟨a, b, xs, ys, r, rfl, rfl, ha, hb, hd, q⟩ := h
  obtain rfl : v = Value.ref a := rx
  obtain rfl : u = Value.ref b := ry
  show wpAny (model X.prog X.w) X.A (richCompare .Eq (.ref a) (.ref b)) (EP X pins σ Q) X.xe s
  rcases hd with ⟨dif, rfl⟩ | ⟨same, g, turn, rfl⟩
  · obtain ⟨z, its, k, rv, e⟩ := I.hok a _ ha
    obtain ⟨z2, its2, k2, rv2, e2⟩ := I.hok b _ hb
    refine rc_listN hr.units0 e e2 ?_ ⟨.bl false, H, I, rfl, q⟩
    rw [List.size_toArray, List.size_toArray, ← rv.length, ← rv2.length, List.length_map, List.length_map]
    exact dif
  · refine rc_listB (N := xs.length) hr.units0 (fun i s' => Inv X pins σ H s' ∧ i ≤ xs.length ∧ ∀ j, j < i → g j = true) (fun s' => Inv X pins σ H s' ∧ ∃ j, j < xs.length ∧ g j = false) (fun i s' ⟨I1, hi, hj⟩ => ?_) (fun s' ⟨I1, _, hj⟩ => ?_) (fun s' ⟨I1, j, h1, h2⟩ => ?_) ⟨I, Nat.zero_le _, fun j hj => absurd hj (Nat.not_lt_zero _)⟩
    · obtain ⟨z, its, k, rv, e⟩ := I1.hok a _ ha
      obtain ⟨z2, its2, k2, rv2, e2⟩ := I1.hok b _ hb
      have ln := rv.length
      have ln2 := rv2.length
      rw [List.length_map] at ln ln2
      refine ⟨its.toArray, its2.toArray, k, k2, e, e2, by rw [List.size_toArray, ← ln], by rw [List.size_toArray, ← ln2, same], fun h1 h2 => ?_⟩
      have k1 : i < xs.length := by rw [List.size_toArray] at h1; omega
      have k2' : i < ys.length := by omega
      have m1 : (xs.map V.ref)[i]? = some (.ref xs[i]) := by rw [List.getElem?_map, List.getElem?_eq_getElem k1]; rfl
      have m2 : (ys.map V.ref)[i]? = some (.ref ys[i]) := by rw [List.getElem?_map, List.getElem?_eq_getElem k2']; rfl
      obtain ⟨u1, q1, r1⟩ := rv.get m1
      obtain ⟨u2, q2, r2⟩ := rv2.get m2
      obtain rfl : u1 = Value.ref xs[i] := r1
      obtain rfl : u2 = Value.ref ys[i] := r2
      have w1 : its.toArray[i] = Value.ref xs[i] := by
        have z1 : i < its.length := by omega
        rw [List.getElem?_eq_getElem z1] at q1
        simpa using Option.some.inj q1
      have w2 : its2.toArray[i] = Value.ref ys[i] := by
        have z1 : i < its2.length := by omega
        rw [List.getElem?_eq_getElem z1] at q2
        simpa using Option.some.inj q2
      rw [w1, w2]
      obtain ⟨dx, dy, fs, gs, p1, p2, p3⟩ := turn i _ _ (List.getElem?_eq_getElem k1) (List.getElem?_eq_getElem k2')
      have sb : Sub X n X.A.in1 := Sub.in1 (⟨hr, rfl⟩ : Sub X (n + 1) X.A)
      refine wpAny_mono (eqB_ins F o self sb I1 p1 p2 p3) (fun t s2 ⟨e3, I2⟩ => ?_) fun _ _ z => z
      subst e3
      cases hg : g i with
      | true =>
        refine .inl ⟨rfl, I2, k1, fun j hj2 => ?_⟩
        by_cases ej : j = i
        · rw [ej]; exact hg
        · exact hj j (by omega)
      | false =>
        obtain ⟨z3, its3, k3, rv3, e3⟩ := I2.hok a _ ha
        obtain ⟨z4, its4, k4, rv4, e4⟩ := I2.hok b _ hb
        have ln3 := rv3.length
        have ln4 := rv4.length
        rw [List.length_map] at ln3 ln4
        exact .inr ⟨rfl, ⟨I2, i, k1, hg⟩, its3.toArray, its4.toArray, k3, k4, e3, e4, by rw [List.size_toArray]; omega, by rw [List.size_toArray]; omega⟩
    · have e : (List.range xs.length).all g = true := List.all_eq_true.mpr fun j hj2 => hj j (List.mem_range.mp hj2)
      rw [e] at q
      exact ⟨.bl true, H, I1, rfl, q⟩
    · have e : (List.range xs.length).all g = false := by
        rw [List.all_eq_false]
        exact ⟨j, List.mem_range.mpr h1, by rw [h2]; simp⟩
      rw [e] at q
      exact ⟨.bl false, H, I1, rfl, q⟩
end
/-- C() -/
theorem pe_makeR0 {X : Cx} {CX : CXT} {k : Nat} {f C : Addr} {sp : Sp} {E : XK} {x : Str} {p pos : Pos} (M : Mk X.K C f) (F : FnR X.prog X.w X.K X.mg X.base CX k f sp) (hr : Room (k + 1) X.A) (hg : Gl X x) (hm : X.mg x = some (.ref C)) (hx : Passes CX X E) (hd : (x == ("__debug__" : Str)) = false := by decide) :
    PE X (.Call (.Name x p) [] [] pos) (StX.tMakeR C sp E tNil) := by
  refine ⟨fun pins s σ H Q I h => wpAny_Call_Name_kw (ld_glob I hg hm ?_ hd)⟩
  exact PySem.W.callWith_K0 I.kIn M.kp (StX.run_makeR (us := []) M F hr hx I .nil h)
theorem opR_or {X : Cx} {o : Value → Value → Sem Value} {r1 r2 : R2} (h1 : OpR X o r1) (h2 : OpR X o r2) : OpR X o (fun x y H Q => r1 x y H Q ∨ r2 x y H Q) := by
  intro pins s σ H x y v u Q I rx ry h
  rcases h with h | h
  · exact h1 pins s σ H x y v u Q I rx ry h
  · exact h2 pins s σ H x y v u Q I rx ry h
end Hue

set_option Elab.async false
set_option linter.all false
set_option maxRecDepth 100000
set_option maxHeartbeats 4000000
/-! enumerate(o), o with an own __iter__ that gives a list's iterator -/
namespace Hue
open PySem PySem.Spec PyProof.Rows L2 ItX
theorem meets_enumI {prog : Program} {w : World} {v : Value} : MeetsIn prog w (Builtin.«enumerate.__new__» ⟨[.type "enumerate", v], []⟩) (fun A R s => wpAny (model prog w) A.in1 (pyIter v) (fun u s1 => ∃ it, u = .ref it ∧
      R (.ok (.ret (.ref s1.heap.objs.size))) { s1 with heap := s1.heap.push { cls := .type "enumerate", data := .fields #[.none, .bool false, .ref it, rawInt 0, .none, .none] } }) (fun e s' => R (.error e) s') s) :=
  .of_wp fun A R s h => by
    obtain ⟨hp, g, d, tk, os⟩ := s
    have hsub := sub_enumerate
    have q1 : ∀ {Q : Value → Shared → Prop}, (∀ it s1, R (.ok (.ret (.ref s1.heap.objs.size))) { s1 with heap := s1.heap.push { cls := .type "enumerate", data := .fields #[.none, .bool false, .ref it, rawInt 0, .none, .none] } } → Q (.ref it) s1) →
        wpAny (model prog w) A.in1 (pyIter v) Q (fun e s' => R (.error e) s') ⟨hp, g, d, tk, os⟩ := fun k => wpAny_mono h (fun u s1 ⟨it, e, r⟩ => e ▸ k it s1 r) fun _ _ z => z
    wp_walk
    refine wpAny_stack_any fun st => wpAny_pure ?_
    split
    · rename_i c _ _ _ _ _
      cases (c == Value.type "enumerate")
      · wp_walk using q1
        intro it s1 r
        wp_walk
        exact ⟨_, rfl, r⟩
      · wp_walk using q1
        intro it s1 r
        wp_walk
        exact ⟨_, rfl, r⟩
    · wp_walk using q1
      intro it s1 r
      wp_walk
      exact ⟨_, rfl, r⟩
section
variable {X : Cx} {k : Nat} {C f : Addr} {D : Addr → Addr → Hp → Prop}
/-- for i, x in enumerate(o) -/
def iEnumO (K : PySem.W.Frag) (C : Addr) (D : Addr → Addr → Hp → Prop) (ta : TA) : TI := fun σ H R => ta σ H fun vs H1 => ∃ a dx fs l, vs = [.ref a] ∧ H1 a = some (.ins C dx fs) ∧ D a l H1 ∧ R (Ite K l) H1
theorem pi_enumO {e : Expr} {ta : TA} {p pos tpos : Pos} {elts : List Expr} {kk : Nat} (hg : Gl X "enumerate") (hm : X.mg "enumerate" = none) (o : OwnIt X.K C f) (FI : FnI X.prog X.w X.K X.mg X.base k f D) (hr : Room (k + 2) X.A) (ha : PA X [e] ta)
    (hs : starEach [e] X.env = [(false, eval e X.env)] := by rfl) : PI X (.Tuple elts kk tpos) (.Call (.Name "enumerate" p) [e] [] pos) (iEnumO X.K C D ta) := by
  refine ⟨fun pins s σ H R I h => ?_⟩
  refine Call_ (ld_blt I hg hm boot_enumerate (PyProof.Rows.callWith_type1 (thn (ha.run pos pins s σ H _ I h) fun us s1 ⟨vs, H1, I1, r1, q1⟩ => ?_) hs rfl))
  obtain ⟨a, dx, fs, l, ev, hi, hD, q⟩ := q1
  subst ev
  obtain ⟨u, rfl, ru⟩ := r1.one
  cases ru
  obtain ⟨mA, O, _⟩ := ins_get I1.hok hi
  obtain ⟨od, J, _⟩ := O.look
  obtain ⟨m0, Fm⟩ := I1.fr
  have sb : Sub X k X.A.in1.in1 := Sub.in1 (Sub.in1 (⟨hr, rfl⟩ : Sub X (k + 2) X.A))
  refine callType_newIn F.called_enumerate (by decide) (F.typeCall_enumerate_1 _) (F.newCall_enumerate_1 _) (fun obj => F.args_object_init_2 obj _) F.entry_enumerate_new meets_enumI ?_
  refine PySem.W.owit_iter Fm I1.ok.mod.kin J o.at_ o.fn (wpAny_mono (run_iter (Q := fun v H2 => ∃ it, v = .ref it ∧ H1 it = none ∧ X.s_0.heap.objs.size ≤ it ∧ H2 = upd H1 it (ItO l it 0)) FI sb I1 hD fun it hn hs => ⟨it, rfl, hn, Nat.le_trans I1.sz hs, rfl⟩) (fun w' s2 hq => ?_) fun e s' he => he)
  obtain ⟨z, H2, I2, rz, it, rfl, hn, young, eH⟩ := hq
  obtain rfl : w' = Value.ref it := rz
  subst eH
  have h2 : upd H1 it (ItO l it 0) it = some (ItO l it 0) := upd_same
  have eo := itO_get I2 h2
  have I3 := inv_drop I2 (φ := fun h => h.get? it = some (GNX.itObj l 0)) h2
  have fp := inv_fp I2 h2 young
  rw [dropH_upd hn] at I3 fp
  refine owit_list eo ⟨it, rfl, ?_⟩
  have hlt : it < s2.heap.objs.size := Heap.lt_size eo
  have he : IsEnum (s2.heap.push { cls := .type "enumerate", data := .fields #[.none, .bool false, .ref it, rawInt 0, .none, .none] }) s2.heap.objs.size it 0 .none := Heap.get?_push_size _ rfl
  have hit : (s2.heap.push { cls := .type "enumerate", data := .fields #[.none, .bool false, .ref it, rawInt 0, .none, .none] }).IsListIter it l 0 := ⟨_, Heap.get?_push_of_some _ eo, rfl, rfl⟩
  refine ⟨⟨_, he, rfl⟩, wpAny_pyIter_enum he ?_⟩
  have I4 : Inv X pins σ H1 { s2 with heap := s2.heap.push { cls := .type "enumerate", data := .fields #[.none, .bool false, .ref it, rawInt 0, .none, .none] } } := I3.kept (t' := s2.toks) fun b ob e => Heap.get?_push_of_some _ e
  refine ⟨s2.heap.objs.size, [s2.heap.objs.size, it], _, _, H1, rfl, I4, turn_enum l s2.heap.objs.size it, ⟨⟨.none, he⟩, hit, Nat.ne_of_gt hlt⟩, fun b hb => ?_, q⟩
  have e' : b = s2.heap.objs.size ∨ b = it := by simpa using hb
  rcases e' with z | z
  · rw [z]
    exact I3.fpOk (Nat.le_refl _) (I3.hok.fresh (Nat.le_refl _))
  · rw [z]
    exact fp
end
end Hue

set_option Elab.async false
set_option linter.all false
set_option maxRecDepth 100000
set_option maxHeartbeats 1000000
/-! a method's call in a try body: what it lets out is wished of the slots as they are; errors with two fields -/
namespace Hue
open PySem PySem.Spec PyProof.Rows L2
def tMethS (C : Addr) (m : Str) (sp : Sp) (W : WX) (ta : TE) (t : TA) : TE := fun σ H Q => tMeth C m sp [] (eS W σ) ta t σ H Q
section
variable {X : Cx} {k : Nat} {C f : Addr} {m : Str} {sp : Sp} {W : WX} {o e : Expr} {es : List Expr} {apos pos : Pos} {ta : TE} {t : TA}
theorem pe_methS {pl : Sem Bool} (he : PE X o ta) (c : Cls X.K C) (hm : Meth X.K C m f) (F : FnR X.prog X.w X.K X.mg X.base (L2.CX X.prog X.w) k f sp) (hr : Room k X.A) (tk : Takes X W) (ha : PA X (e :: es) t)
    (hst : starEach (e :: es) X.env = (false, eval e X.env) :: starEach es X.env := by rfl) (hpl : (backTo pos (starEach es X.env)).any (·.1) = false := by rfl)
    (ht : eval (.Call (.Attribute o m apos) (e :: es) [] pos) X.env = (do
      let ov ← eval o X.env
      standAt apos.atName
      let (f, first) ← holding [ov] (getMethod ov m pl)
      callWith pos f first (backTo pos (starEach (e :: es) X.env)) (backToKw pos (keywordEach [] X.env))) := by rfl) :
    PE X (.Call (.Attribute o m apos) (e :: es) [] pos) (tMethS C m sp W ta t) := by
  refine ⟨fun pins s σ H Q I h => ?_⟩
  refine PySem.W.methodCall_KW (pl := pl) (thn (he.run pins s σ H _ I h) fun u s1 ⟨x, H1, I1, rx, a, dx, fs, ex, ea, l, q⟩ => ?_) ht
  subst ex
  obtain rfl : u = Value.ref a := rx
  refine getmeth_ok I1 ea c hm l ?_
  refine PySem.W.callWith_K (first := [.ref a]) (h₀ := X.base) I.ok.mod.kin hm.kp (thn (ha.run pos pins s1 σ H1 _ I1 q) fun us s2 ⟨vs, H2, I2, r, q2⟩ => ⟨I2.kIn, ?_⟩) hst hpl
  have q3 : sp (V.ref a :: (vs ++ [])) H2 Q (eS W σ) := q2
  rw [List.append_nil] at q3
  exact wpAny_call (run_fnRp (Q := Q) (us := .ref a :: us) (vs := .ref a :: vs) F hr (passS tk I2) I2 (.cons rfl r) q3)
theorem pe_methSK {K : PySem.W.Frag} (e0 : X.K = K) {pl : Sem Bool} (he : PE X o ta) (c : Cls K C) (hm : Meth K C m f) (F : FnR X.prog X.w K X.mg X.base (L2.CX X.prog X.w) k f sp) (hr : Room k X.A) (tk : Takes X W) (ha : PA X (e :: es) t)
    (hst : starEach (e :: es) X.env = (false, eval e X.env) :: starEach es X.env := by rfl) (hpl : (backTo pos (starEach es X.env)).any (·.1) = false := by rfl)
    (ht : eval (.Call (.Attribute o m apos) (e :: es) [] pos) X.env = (do
      let ov ← eval o X.env
      standAt apos.atName
      let (f, first) ← holding [ov] (getMethod ov m pl)
      callWith pos f first (backTo pos (starEach (e :: es) X.env)) (backToKw pos (keywordEach [] X.env))) := by rfl) :
    PE X (.Call (.Attribute o m apos) (e :: es) [] pos) (tMethS C m sp W ta t) := by
  subst e0
  exact pe_methS (pl := pl) he c hm F hr tk ha hst hpl ht
end
section
variable {X : Cx} {D : Addr} {K : PySem.W.Frag}
theorem call_isDK (e0 : X.K = K) (C : ExcC K D) : CallR X (.builtin "isinstance") (rIsD K D) := by
  subst e0
  exact call_isD C
theorem pe_xvK (e0 : X.K = K) {e : Expr} {te : TE} {pos : Pos} {n : Str} (C : ExcC K D) (hno : PySem.W.findIn K (.ref D) n = some none) (he : PE X e te) (hb : attributeBase e n X.env (eval e X.env) = eval e X.env := by rfl) : PE X (.Attribute e n pos) (tXv D n te) := by
  subst e0
  exact pe_xv C hno he hb
end
/-- an error's __init__ that keeps two fields -/
def spEx2 (K : PySem.W.Frag) (C : Addr) (n m : Str) : Sp := fun vs H Q _ => ∃ (a : Addr) (v u : V), vs = [.ref a, v, u] ∧ H a = some (exo a C none) ∧ ∀ dx, H dx = none → dx ≠ a → Q .non (upd (upd H dx (exd dx [(m, u), (n, v)])) a (exo a C (some dx)))
theorem mkO2 {K : PySem.W.Frag} {C : Addr} {n m : Str} {v u : V} {H : Hp} {E : XK} (k : ∀ dd H', H dd = none → Same H H' → H' dd = some (.xd [(m, u), (n, v)]) → E (.ref C) (some dd) H') :
    [v, u].length ≤ 1000 ∧ ∀ a, H a = none → spEx2 K C n m (.ref a :: ([v, u] ++ [])) (upd H a (exo a C none))
      (fun w H2 => w = .non ∧ ∃ (d : Addr) (fs : List (Str × V)), H2 a = some (exo a C (some d)) ∧ H2 d = some (exd d fs) ∧ H d = none ∧ E (.ref C) (some d) (upd (L2.del H2 a) d (.xd fs))) (fun _ _ _ => False) := by
  refine ⟨(by decide : 2 ≤ 1000), fun a na => ⟨a, v, u, rfl, upd_same, fun dx nd ne => ⟨rfl, dx, [(m, u), (n, v)], upd_same, ?_, ?_, ?_⟩⟩⟩
  · rw [upd_ne ne, upd_same]
  · rw [upd_ne ne] at nd; exact nd
  · have nd' : H dx = none := by rw [upd_ne ne] at nd; exact nd
    refine k dx _ nd' (fun b o e => ?_) upd_same
    have b1 : b ≠ a := ne_of_none e na
    have b2 : b ≠ dx := ne_of_none e nd'
    rw [upd_ne b2, L2.del_ne b1, upd_ne b1, upd_ne b2, upd_ne b1]
    exact e
theorem upd_swap {H : Hp} {a dx : Addr} {o o' u : HO} (ne : dx ≠ a) : upd (upd (upd H dx o) a u) dx o' = upd (upd H dx o') a u := by
  funext b
  by_cases h1 : b = dx
  · rw [h1, upd_same, upd_ne ne, upd_same]
  · by_cases h2 : b = a
    · rw [h2, upd_ne (Ne.symm ne), upd_same, upd_same]
    · rw [upd_ne h1, upd_ne h2, upd_ne h1, upd_ne h2, upd_ne h1]
/-! ### the addresses that the head looks at, found by a mask (eraseDups costs the kernel N * N) -/
def bitIn (m a : Nat) : Bool := Nat.beq (Nat.land (Nat.shiftRight m a) 1) 1
/-- the new ones of as, ahead of what was found -/
def newM : List Addr → Nat → List Addr → Nat × List Addr
  | [], m, f => (m, f)
  | a :: r, m, f => match bitIn m a with
    | true => newM r m f
    | false => newM r (Nat.lor m (Nat.shiftLeft 1 a)) (a :: f)
def outM (g : Addr → Option Obj) : List Addr → Nat → List Addr → Nat × List Addr
  | [], m, f => (m, f)
  | a :: r, m, f => match g a with
    | some o => match newM (He.refsD o) m f with
      | (m', f') => outM g r m' f'
    | none => outM g r m f
def walkM (g : Addr → Option Obj) : Nat → Nat → List Addr → List Addr → List Addr
  | 0, _, _, all => all
  | n + 1, m, fr, all => match outM g fr m [] with
    | (m', f') => walkM g n m' f' (all ++ f')
def asM (g : Addr → Option Obj) (n : Nat) : List Addr := walkM g n (Nat.shiftLeft 1 mainGlobals) [mainGlobals] [mainGlobals]
def obsMG (n : Nat) (fa : List He.Fa) (fx : List Fx) (ds : List DX) (g : Addr → Option Obj) : AlX := obsX fa fx ds (He.frG g (cStatics :: asM g n))
def hookM (n : Nat) (fa : List He.Fa) (fx : List Fx) (ds : List DX) : PySem.W.Hook where
  α := AlX
  obs := fun s => obsMG n fa fx ds s.heap.get?
  val := fun _ => valX ds
  says := fun _ h => ∃ K : PySem.W.Frag, K.In h ∧ SaysX fa fx ds K
  of := fun _ _ e => ⟨_, He.frG_in, e⟩
  keeps := fun _ _ _ ⟨K, hK, c⟩ k => ⟨K, PySem.W.Frag.In.keeps hK k, c⟩
theorem obsMG_eq {n : Nat} {fa : List He.Fa} {fx : List Fx} {ds : List DX} {g : Addr → Option Obj} {s : Shared} (h : ∀ a, g a = s.heap.get? a) : obsMG n fa fx ds g = (hookM n fa fx ds).obs s := by
  cases (funext h : g = s.heap.get?)
  rfl
end Hue

set_option Elab.async false
set_option linter.all false
set_option maxRecDepth 100000
set_option maxHeartbeats 1000000
namespace Hue
open PySem PySem.Spec PyProof.Rows L2
def top (i : Nat) : Stmt := PySem.Challenge.pw_huerounds_k16_makes_and_writes.main.body.getD i (.Pass ⟨0, 0, 0, 0⟩)
def pFile : Str := PySem.Challenge.pw_huerounds_k16_makes_and_writes.main.file
instance : SupP PySem.Challenge.pw_huerounds_k16_makes_and_writes pFile := ⟨by decide +kernel, by decide +kernel⟩



abbrev s_l_pool : Stmt := top 29
abbrev N_l_pool : List Str := ["_law_script", "_law_pool_here", "_law_mix", "_law_cell", "_law_number", "_law_k", "_law_drawn"]
abbrev P_l_pool : List Str := ["_law_script"]
theorem sc_l_pool : FnScope N_l_pool P_l_pool (defScope s_l_pool) := ⟨rfl, rfl, rfl, by decide +kernel, rfl, by decide +kernel, by decide +kernel⟩
abbrev s_l_take : Stmt := top 30
abbrev N_l_take : List Str := ["_law_pool_here", "_law_many"]
abbrev P_l_take : List Str := ["_law_pool_here", "_law_many"]
theorem sc_l_take : FnScope N_l_take P_l_take (defScope s_l_take) := ⟨rfl, rfl, rfl, by decide +kernel, rfl, by decide +kernel, by decide +kernel⟩
abbrev s_l_is : Stmt := top 27
abbrev N_l_is : List Str := ["_law_x", "_law_due"]
abbrev P_l_is : List Str := ["_law_x", "_law_due"]
theorem sc_l_is : FnScope N_l_is P_l_is (defScope s_l_is) := ⟨rfl, rfl, rfl, by decide +kernel, rfl, by decide +kernel, by decide +kernel⟩
abbrev s_l_int : Stmt := top 28
abbrev N_l_int : List Str := ["_law_x"]
abbrev P_l_int : List Str := ["_law_x"]
theorem sc_l_int : FnScope N_l_int P_l_int (defScope s_l_int) := ⟨rfl, rfl, rfl, by decide +kernel, rfl, by decide +kernel, by decide +kernel⟩
abbrev s_l_raw : Stmt := top 31
abbrev N_l_raw : List Str := ["_law_pool_here", "_law_code", "_law_shown", "_law_keep"]
abbrev P_l_raw : List Str := ["_law_pool_here"]
theorem sc_l_raw : FnScope N_l_raw P_l_raw (defScope s_l_raw) := ⟨rfl, rfl, rfl, by decide +kernel, rfl, by decide +kernel, by decide +kernel⟩
abbrev s_BadPhase_init : Stmt := inClass (top 5) 0
abbrev N_BadPhase_init : List Str := ["self", "field", "__class__"]
abbrev P_BadPhase_init : List Str := ["self", "field"]
theorem sc_BadPhase_init : NdefX.NScope N_BadPhase_init P_BadPhase_init [("__class__" : Str)] (defScope s_BadPhase_init) := NdefX.nscope_by (by decide +kernel)
abbrev s_Refused_init : Stmt := inClass (top 6) 0
abbrev N_Refused_init : List Str := ["self", "what", "number", "__class__"]
abbrev P_Refused_init : List Str := ["self", "what", "number"]
theorem sc_Refused_init : NdefX.NScope N_Refused_init P_Refused_init [("__class__" : Str)] (defScope s_Refused_init) := NdefX.nscope_by (by decide +kernel)
abbrev s_Ref_init : Stmt := inClass (top 17) 1
abbrev N_Ref_init : List Str := ["self", "place", "hue"]
abbrev P_Ref_init : List Str := ["self", "place", "hue"]
theorem sc_Ref_init : FnScope N_Ref_init P_Ref_init (defScope s_Ref_init) := ⟨rfl, rfl, rfl, by decide +kernel, rfl, by decide +kernel, by decide +kernel⟩
abbrev s_Ref_eq : Stmt := inClass (top 17) 5
abbrev N_Ref_eq : List Str := ["self", "other"]
abbrev P_Ref_eq : List Str := ["self", "other"]
theorem sc_Ref_eq : FnScope N_Ref_eq P_Ref_eq (defScope s_Ref_eq) := ⟨rfl, rfl, rfl, by decide +kernel, rfl, by decide +kernel, by decide +kernel⟩
abbrev s_Ref_str : Stmt := inClass (top 17) 7
abbrev N_Ref_str : List Str := ["self"]
abbrev P_Ref_str : List Str := ["self"]
theorem sc_Ref_str : FnScope N_Ref_str P_Ref_str (defScope s_Ref_str) := ⟨rfl, rfl, rfl, by decide +kernel, rfl, by decide +kernel, by decide +kernel⟩
abbrev s_Phase_init : Stmt := inClass (top 24) 0
abbrev N_Phase_init : List Str := ["self", "hue", "barrier", "visits", "pauses", "stand", "skips"]
abbrev P_Phase_init : List Str := ["self", "hue", "barrier", "visits", "pauses", "stand", "skips"]
theorem sc_Phase_init : FnScope N_Phase_init P_Phase_init (defScope s_Phase_init) := ⟨rfl, rfl, rfl, by decide +kernel, rfl, by decide +kernel, by decide +kernel⟩
abbrev s_Phase_text : Stmt := inClass (top 24) 4
abbrev N_Phase_text : List Str := ["self", "words"]
abbrev P_Phase_text : List Str := ["self"]
theorem sc_Phase_text : FnScope N_Phase_text P_Phase_text (defScope s_Phase_text) := ⟨rfl, rfl, rfl, by decide +kernel, rfl, by decide +kernel, by decide +kernel⟩
abbrev s_Book_init : Stmt := inClass (top 25) 1
abbrev N_Book_init : List Str := ["self", "phases"]
abbrev P_Book_init : List Str := ["self", "phases"]
theorem sc_Book_init : FnScope N_Book_init P_Book_init (defScope s_Book_init) := ⟨rfl, rfl, rfl, by decide +kernel, rfl, by decide +kernel, by decide +kernel⟩
abbrev s_Book_of : Stmt := inClass (top 25) 16
abbrev N_Book_of : List Str := ["cls", "phases"]
abbrev P_Book_of : List Str := ["cls", "phases"]
theorem sc_Book_of : FnScope N_Book_of P_Book_of (defScope s_Book_of) := ⟨rfl, rfl, rfl, by decide +kernel, rfl, by decide +kernel, by decide +kernel⟩
abbrev s_Book_len : Stmt := inClass (top 25) 2
abbrev N_Book_len : List Str := ["self"]
abbrev P_Book_len : List Str := ["self"]
theorem sc_Book_len : FnScope N_Book_len P_Book_len (defScope s_Book_len) := ⟨rfl, rfl, rfl, by decide +kernel, rfl, by decide +kernel, by decide +kernel⟩
abbrev s_Book_getitem : Stmt := inClass (top 25) 5
abbrev N_Book_getitem : List Str := ["self", "n"]
abbrev P_Book_getitem : List Str := ["self", "n"]
theorem sc_Book_getitem : FnScope N_Book_getitem P_Book_getitem (defScope s_Book_getitem) := ⟨rfl, rfl, rfl, by decide +kernel, rfl, by decide +kernel, by decide +kernel⟩
abbrev s_Book_setitem : Stmt := inClass (top 25) 6
abbrev N_Book_setitem : List Str := ["self", "n", "phase"]
abbrev P_Book_setitem : List Str := ["self", "n", "phase"]
theorem sc_Book_setitem : FnScope N_Book_setitem P_Book_setitem (defScope s_Book_setitem) := ⟨rfl, rfl, rfl, by decide +kernel, rfl, by decide +kernel, by decide +kernel⟩
abbrev s_Book_copy : Stmt := inClass (top 25) 20
abbrev N_Book_copy : List Str := ["self"]
abbrev P_Book_copy : List Str := ["self"]
theorem sc_Book_copy : FnScope N_Book_copy P_Book_copy (defScope s_Book_copy) := ⟨rfl, rfl, rfl, by decide +kernel, rfl, by decide +kernel, by decide +kernel⟩
abbrev s_Book_text : Stmt := inClass (top 25) 14
abbrev N_Book_text : List Str := ["self", "phase"]
abbrev P_Book_text : List Str := ["self"]
theorem sc_Book_text : FnScope N_Book_text P_Book_text (defScope s_Book_text) := ⟨rfl, rfl, rfl, by decide +kernel, rfl, by decide +kernel, by decide +kernel⟩
abbrev s_Store_init : Stmt := inClass (top 19) 0
abbrev N_Store_init : List Str := ["self", "book", "slots", "hands"]
abbrev P_Store_init : List Str := ["self", "book", "slots", "hands"]
theorem sc_Store_init : FnScope N_Store_init P_Store_init (defScope s_Store_init) := ⟨rfl, rfl, rfl, by decide +kernel, rfl, by decide +kernel, by decide +kernel⟩
abbrev s_Store_row : Stmt := inClass (top 19) 1
abbrev N_Store_row : List Str := ["self"]
abbrev P_Store_row : List Str := ["self"]
theorem sc_Store_row : FnScope N_Store_row P_Store_row (defScope s_Store_row) := ⟨rfl, rfl, rfl, by decide +kernel, rfl, by decide +kernel, by decide +kernel⟩
abbrev s_Store_turns : Stmt := inClass (top 19) 2
abbrev N_Store_turns : List Str := ["self"]
abbrev P_Store_turns : List Str := ["self"]
theorem sc_Store_turns : FnScope N_Store_turns P_Store_turns (defScope s_Store_turns) := ⟨rfl, rfl, rfl, by decide +kernel, rfl, by decide +kernel, by decide +kernel⟩
abbrev s_Store_things : Stmt := inClass (top 19) 3
abbrev N_Store_things : List Str := ["self"]
abbrev P_Store_things : List Str := ["self"]
theorem sc_Store_things : FnScope N_Store_things P_Store_things (defScope s_Store_things) := ⟨rfl, rfl, rfl, by decide +kernel, rfl, by decide +kernel, by decide +kernel⟩
abbrev s_Storecheck : Stmt := inClass (top 19) 13
abbrev N_Storecheck : List Str := ["self", "what", "number", "many"]
abbrev P_Storecheck : List Str := ["self", "what", "number", "many"]
theorem sc_Storecheck : FnScope N_Storecheck P_Storecheck (defScope s_Storecheck) := ⟨rfl, rfl, rfl, by decide +kernel, rfl, by decide +kernel, by decide +kernel⟩
abbrev s_Storecheck_idle : Stmt := inClass (top 19) 14
abbrev N_Storecheck_idle : List Str := ["self", "hand"]
abbrev P_Storecheck_idle : List Str := ["self", "hand"]
theorem sc_Storecheck_idle : FnScope N_Storecheck_idle P_Storecheck_idle (defScope s_Storecheck_idle) := ⟨rfl, rfl, rfl, by decide +kernel, rfl, by decide +kernel, by decide +kernel⟩
abbrev s_Storeheld : Stmt := inClass (top 19) 15
abbrev N_Storeheld : List Str := ["self", "hand"]
abbrev P_Storeheld : List Str := ["self", "hand"]
theorem sc_Storeheld : FnScope N_Storeheld P_Storeheld (defScope s_Storeheld) := ⟨rfl, rfl, rfl, by decide +kernel, rfl, by decide +kernel, by decide +kernel⟩
abbrev s_Storeleft : Stmt := inClass (top 19) 12
abbrev N_Storeleft : List Str := ["self", "ref", "left", "place", "end", "stands"]
abbrev P_Storeleft : List Str := ["self", "ref"]
theorem sc_Storeleft : FnScope N_Storeleft P_Storeleft (defScope s_Storeleft) := ⟨rfl, rfl, rfl, by decide +kernel, rfl, by decide +kernel, by decide +kernel⟩
abbrev s_Store_slot : Stmt := inClass (top 19) 4
abbrev N_Store_slot : List Str := ["self", "n"]
abbrev P_Store_slot : List Str := ["self", "n"]
theorem sc_Store_slot : FnScope N_Store_slot P_Store_slot (defScope s_Store_slot) := ⟨rfl, rfl, rfl, by decide +kernel, rfl, by decide +kernel, by decide +kernel⟩
abbrev s_Store_hand : Stmt := inClass (top 19) 5
abbrev N_Store_hand : List Str := ["self", "n"]
abbrev P_Store_hand : List Str := ["self", "n"]
theorem sc_Store_hand : FnScope N_Store_hand P_Store_hand (defScope s_Store_hand) := ⟨rfl, rfl, rfl, by decide +kernel, rfl, by decide +kernel, by decide +kernel⟩
abbrev s_Store_mending : Stmt := inClass (top 19) 6
abbrev N_Store_mending : List Str := ["self", "n"]
abbrev P_Store_mending : List Str := ["self", "n"]
theorem sc_Store_mending : FnScope N_Store_mending P_Store_mending (defScope s_Store_mending) := ⟨rfl, rfl, rfl, by decide +kernel, rfl, by decide +kernel, by decide +kernel⟩
abbrev s_Store_visited : Stmt := inClass (top 19) 7
abbrev N_Store_visited : List Str := ["self", "n"]
abbrev P_Store_visited : List Str := ["self", "n"]
theorem sc_Store_visited : FnScope N_Store_visited P_Store_visited (defScope s_Store_visited) := ⟨rfl, rfl, rfl, by decide +kernel, rfl, by decide +kernel, by decide +kernel⟩
abbrev s_Store_place_of : Stmt := inClass (top 19) 8
abbrev N_Store_place_of : List Str := ["self", "n"]
abbrev P_Store_place_of : List Str := ["self", "n"]
theorem sc_Store_place_of : FnScope N_Store_place_of P_Store_place_of (defScope s_Store_place_of) := ⟨rfl, rfl, rfl, by decide +kernel, rfl, by decide +kernel, by decide +kernel⟩
abbrev s_Store_make : Stmt := inClass (top 19) 17
abbrev N_Store_make : List Str := ["self", "hand", "place", "thing"]
abbrev P_Store_make : List Str := ["self", "hand"]
theorem sc_Store_make : FnScope N_Store_make P_Store_make (defScope s_Store_make) := ⟨rfl, rfl, rfl, by decide +kernel, rfl, by decide +kernel, by decide +kernel⟩
abbrev s_Store_write : Stmt := inClass (top 19) 18
abbrev N_Store_write : List Str := ["self", "hand", "slot"]
abbrev P_Store_write : List Str := ["self", "hand", "slot"]
theorem sc_Store_write : FnScope N_Store_write P_Store_write (defScope s_Store_write) := ⟨rfl, rfl, rfl, by decide +kernel, rfl, by decide +kernel, by decide +kernel⟩
abbrev s_Store_use : Stmt := inClass (top 19) 21
abbrev N_Store_use : List Str := ["self", "hand", "ref"]
abbrev P_Store_use : List Str := ["self", "hand"]
theorem sc_Store_use : FnScope N_Store_use P_Store_use (defScope s_Store_use) := ⟨rfl, rfl, rfl, by decide +kernel, rfl, by decide +kernel, by decide +kernel⟩
abbrev s_l_calm : Stmt := top 32
abbrev N_l_calm : List Str := ["_law_row", "_law_k", "_law_two", "_law_good", "_law_shown"]
abbrev P_l_calm : List Str := ["_law_row", "_law_k", "_law_two"]
theorem sc_l_calm : FnScope N_l_calm P_l_calm (defScope s_l_calm) := ⟨rfl, rfl, rfl, by decide +kernel, rfl, by decide +kernel, by decide +kernel⟩
abbrev s_l_rows : Stmt := top 33
abbrev N_l_rows : List Str := ["_law_pool_here", "_law_most", "_law_many", "_law_style", "_law_rows_here", "_law_two", "_law_calm_here", "_law_at", "_law_k"]
abbrev P_l_rows : List Str := ["_law_pool_here", "_law_most"]
theorem sc_l_rows : FnScope N_l_rows P_l_rows (defScope s_l_rows) := ⟨rfl, rfl, rfl, by decide +kernel, rfl, by decide +kernel, by decide +kernel⟩
abbrev s_l_phase : Stmt := top 34
abbrev N_l_phase : List Str := ["_law_row"]
abbrev P_l_phase : List Str := ["_law_row"]
theorem sc_l_phase : FnScope N_l_phase P_l_phase (defScope s_l_phase) := ⟨rfl, rfl, rfl, by decide +kernel, rfl, by decide +kernel, by decide +kernel⟩
abbrev s_l_book : Stmt := top 35
abbrev N_l_book : List Str := ["_law_rows_here", "_law_row"]
abbrev P_l_book : List Str := ["_law_rows_here"]
theorem sc_l_book : FnScope N_l_book P_l_book (defScope s_l_book) := ⟨rfl, rfl, rfl, by decide +kernel, rfl, by decide +kernel, by decide +kernel⟩
abbrev s_l_equal : Stmt := top 36
abbrev N_l_equal : List Str := ["_law_ref", "_law_due", "_law_twin"]
abbrev P_l_equal : List Str := ["_law_ref", "_law_due"]
theorem sc_l_equal : FnScope N_l_equal P_l_equal (defScope s_l_equal) := ⟨rfl, rfl, rfl, by decide +kernel, rfl, by decide +kernel, by decide +kernel⟩
abbrev s_l_value : Stmt := top 37
abbrev N_l_value : List Str := ["_law_value_here", "_law_due"]
abbrev P_l_value : List Str := ["_law_value_here", "_law_due"]
theorem sc_l_value : FnScope N_l_value P_l_value (defScope s_l_value) := ⟨rfl, rfl, rfl, by decide +kernel, rfl, by decide +kernel, by decide +kernel⟩
abbrev s_l_done : Stmt := top 38
abbrev N_l_done : List Str := ["_law_store", "_law_kind", "_law_who", "_law_spot", "e"]
abbrev P_l_done : List Str := ["_law_store", "_law_kind", "_law_who", "_law_spot"]
theorem sc_l_done : FnScope N_l_done P_l_done (defScope s_l_done) := ⟨rfl, rfl, rfl, by decide +kernel, rfl, by decide +kernel, by decide +kernel⟩
abbrev s_l_missing : Stmt := top 39
abbrev N_l_missing : List Str := ["_law_store", "_law_slot", "_law_n", "e"]
abbrev P_l_missing : List Str := ["_law_store", "_law_slot", "_law_n"]
theorem sc_l_missing : FnScope N_l_missing P_l_missing (defScope s_l_missing) := ⟨rfl, rfl, rfl, by decide +kernel, rfl, by decide +kernel, by decide +kernel⟩
abbrev s_l_held : Stmt := top 40
abbrev N_l_held : List Str := ["_law_store", "_law_held_here", "_law_kept", "_law_k"]
abbrev P_l_held : List Str := ["_law_store", "_law_held_here", "_law_kept"]
theorem sc_l_held : FnScope N_l_held P_l_held (defScope s_l_held) := ⟨rfl, rfl, rfl, by decide +kernel, rfl, by decide +kernel, by decide +kernel⟩
abbrev s_l_one_number : Stmt := top 41
abbrev N_l_one_number : List Str := ["_law_book_here", "_law_many", "_law_few", "_law_good", "_law_wide", "_law_tall"]
abbrev P_l_one_number : List Str := ["_law_book_here", "_law_many", "_law_few", "_law_good"]
theorem sc_l_one_number : FnScope N_l_one_number P_l_one_number (defScope s_l_one_number) := ⟨rfl, rfl, rfl, by decide +kernel, rfl, by decide +kernel, by decide +kernel⟩
abbrev s_law : Stmt := top 42
abbrev N_law : List Str := ["_law_script", "_law_pool_here", "_law_rows_here", "_law_many", "_law_few", "_law_count", "_law_book_here", "_law_plain", "_law_store", "_law_other", "_law_held_here", "_law_kept", "_law_made", "_law_text", "_law_k", "_law_code", "_law_kind", "_law_who", "_law_spot", "_law_told"]
abbrev P_law : List Str := ["_law_script"]
theorem sc_law : FnScope N_law P_law (defScope s_law) := ⟨rfl, rfl, rfl, by decide +kernel, rfl, by decide +kernel, by decide +kernel⟩
def d_l_pool : DX := ⟨(gad "_law_pool"), "_law_pool", "_law_pool", s_l_pool, [], [], []⟩
def d_l_take : DX := ⟨(gad "_law_take"), "_law_take", "_law_take", s_l_take, [], [], []⟩
def d_l_is : DX := ⟨(gad "_law_is"), "_law_is", "_law_is", s_l_is, [], [], []⟩
def d_l_int : DX := ⟨(gad "_law_int"), "_law_int", "_law_int", s_l_int, [], [], []⟩
def d_l_raw : DX := ⟨(gad "_law_raw"), "_law_raw", "_law_raw", s_l_raw, [], [], []⟩
def d_BadPhase_init : DX := ⟨(mad "BadPhase" "__init__"), "__init__", "BadPhase.__init__", s_BadPhase_init, [], [], [("__class__" : Str)]⟩
def d_Refused_init : DX := ⟨(mad "Refused" "__init__"), "__init__", "Refused.__init__", s_Refused_init, [], [], [("__class__" : Str)]⟩
def d_Ref_init : DX := ⟨(mad "Ref" "__init__"), "__init__", "Ref.__init__", s_Ref_init, [], [], []⟩
def d_Ref_eq : DX := ⟨(mad "Ref" "__eq__"), "__eq__", "Ref.__eq__", s_Ref_eq, [], [], []⟩
def d_Ref_str : DX := ⟨(mad "Ref" "__str__"), "__str__", "Ref.__str__", s_Ref_str, [], [], []⟩
def d_Phase_init : DX := ⟨(mad "Phase" "__init__"), "__init__", "Phase.__init__", s_Phase_init, [], [("barrier", .str "guarded"), ("visits", .bl false), ("pauses", .bl true), ("stand", .int (0)), ("skips", .bl false)], []⟩
def d_Phase_text : DX := ⟨(pad "property" "Phase" "text"), "text", "Phase.text", s_Phase_text, [], [], []⟩
def d_Book_init : DX := ⟨(mad "Book" "__init__"), "__init__", "Book.__init__", s_Book_init, [], [], []⟩
def d_Book_of : DX := ⟨(pad "classmethod" "Book" "of"), "of", "Book.of", s_Book_of, [], [], []⟩
def d_Book_len : DX := ⟨(mad "Book" "__len__"), "__len__", "Book.__len__", s_Book_len, [], [], []⟩
def d_Book_getitem : DX := ⟨(mad "Book" "__getitem__"), "__getitem__", "Book.__getitem__", s_Book_getitem, [], [], []⟩
def d_Book_setitem : DX := ⟨(mad "Book" "__setitem__"), "__setitem__", "Book.__setitem__", s_Book_setitem, [], [], []⟩
def d_Book_copy : DX := ⟨(mad "Book" "copy"), "copy", "Book.copy", s_Book_copy, [], [], []⟩
def d_Book_text : DX := ⟨(pad "property" "Book" "text"), "text", "Book.text", s_Book_text, [], [], []⟩
def d_Store_init : DX := ⟨(mad "Store" "__init__"), "__init__", "Store.__init__", s_Store_init, [], [("slots", .int (1)), ("hands", .int (2))], []⟩
def d_Store_row : DX := ⟨(pad "property" "Store" "row"), "row", "Store.row", s_Store_row, [], [], []⟩
def d_Store_turns : DX := ⟨(pad "property" "Store" "turns"), "turns", "Store.turns", s_Store_turns, [], [], []⟩
def d_Store_things : DX := ⟨(pad "property" "Store" "things"), "things", "Store.things", s_Store_things, [], [], []⟩
def d_Storecheck : DX := ⟨(mad "Store" "_check"), "_check", "Store._check", s_Storecheck, [], [], []⟩
def d_Storecheck_idle : DX := ⟨(mad "Store" "_check_idle"), "_check_idle", "Store._check_idle", s_Storecheck_idle, [], [], []⟩
def d_Storeheld : DX := ⟨(mad "Store" "_held"), "_held", "Store._held", s_Storeheld, [], [], []⟩
def d_Storeleft : DX := ⟨(mad "Store" "_left"), "_left", "Store._left", s_Storeleft, [], [], []⟩
def d_Store_slot : DX := ⟨(mad "Store" "slot"), "slot", "Store.slot", s_Store_slot, [], [], []⟩
def d_Store_hand : DX := ⟨(mad "Store" "hand"), "hand", "Store.hand", s_Store_hand, [], [], []⟩
def d_Store_mending : DX := ⟨(mad "Store" "mending"), "mending", "Store.mending", s_Store_mending, [], [], []⟩
def d_Store_visited : DX := ⟨(mad "Store" "visited"), "visited", "Store.visited", s_Store_visited, [], [], []⟩
def d_Store_place_of : DX := ⟨(mad "Store" "place_of"), "place_of", "Store.place_of", s_Store_place_of, [], [], []⟩
def d_Store_make : DX := ⟨(mad "Store" "make"), "make", "Store.make", s_Store_make, [], [], []⟩
def d_Store_write : DX := ⟨(mad "Store" "write"), "write", "Store.write", s_Store_write, [], [], []⟩
def d_Store_use : DX := ⟨(mad "Store" "use"), "use", "Store.use", s_Store_use, [], [], []⟩
def d_l_calm : DX := ⟨(gad "_law_calm"), "_law_calm", "_law_calm", s_l_calm, [], [], []⟩
def d_l_rows : DX := ⟨(gad "_law_rows"), "_law_rows", "_law_rows", s_l_rows, [], [], []⟩
def d_l_phase : DX := ⟨(gad "_law_phase"), "_law_phase", "_law_phase", s_l_phase, [], [], []⟩
def d_l_book : DX := ⟨(gad "_law_book"), "_law_book", "_law_book", s_l_book, [], [], []⟩
def d_l_equal : DX := ⟨(gad "_law_equal"), "_law_equal", "_law_equal", s_l_equal, [], [], []⟩
def d_l_value : DX := ⟨(gad "_law_value"), "_law_value", "_law_value", s_l_value, [], [], []⟩
def d_l_done : DX := ⟨(gad "_law_done"), "_law_done", "_law_done", s_l_done, [], [], []⟩
def d_l_missing : DX := ⟨(gad "_law_missing"), "_law_missing", "_law_missing", s_l_missing, [], [], []⟩
def d_l_held : DX := ⟨(gad "_law_held"), "_law_held", "_law_held", s_l_held, [], [], []⟩
def d_l_one_number : DX := ⟨(gad "_law_one_number"), "_law_one_number", "_law_one_number", s_l_one_number, [], [], []⟩
def d_law : DX := ⟨(gad "law"), "law", "law", s_law, [], [], []⟩
def dsAll : List DX := [d_l_pool, d_l_take, d_l_is, d_l_int, d_l_raw, d_BadPhase_init, d_Refused_init, d_Ref_init, d_Ref_eq, d_Ref_str, d_Phase_init, d_Phase_text, d_Book_init, d_Book_of, d_Book_len, d_Book_getitem, d_Book_setitem, d_Book_copy, d_Book_text, d_Store_init, d_Store_row, d_Store_turns, d_Store_things, d_Storecheck, d_Storecheck_idle, d_Storeheld, d_Storeleft, d_Store_slot, d_Store_hand, d_Store_mending, d_Store_visited, d_Store_place_of, d_Store_make, d_Store_write, d_Store_use, d_l_calm, d_l_rows, d_l_phase, d_l_book, d_l_equal, d_l_value, d_l_done, d_l_missing, d_l_held, d_l_one_number, d_law]
def faAll : List He.Fa := [.free "abs", .free "bool", .free "int", .free "isinstance", .free "len", .free "list", .free "max", .free "min", .free "range", .free "str", .free "tuple", .glo "_law_pool", .glo "_law_take", .glo "_law_is", .glo "_law_int", .glo "_law_raw", .glo "_law_calm", .glo "_law_rows", .glo "_law_phase", .glo "_law_book", .glo "_law_equal", .glo "_law_value", .glo "_law_done", .glo "_law_missing", .glo "_law_held", .glo "_law_one_number", .glo "law", .glo "BARRIERS", .int "MOST_HUE" 5, .int "MOST_STAND" 7, .int "HUES" 6, .glo "Ref", .cls "Ref", .noat "Ref" "place", .noat "Ref" "hue", .mkr "Ref", .glo "Phase", .cls "Phase", .noat "Phase" "hue", .noat "Phase" "barrier", .noat "Phase" "visits", .noat "Phase" "pauses", .noat "Phase" "stand", .noat "Phase" "skips", .mkr "Phase", .glo "Book", .cls "Book", .noat "Book" "phases", .mkr "Book", .meth "Book" "__getitem__", .meth "Book" "__setitem__", .meth "Book" "copy", .glo "Store", .cls "Store", .noat "Store" "_book", .noat "Store" "_row", .noat "Store" "_turns", .noat "Store" "_places", .noat "Store" "_owners", .noat "Store" "_posts", .noat "Store" "_slots", .noat "Store" "_visited", .noat "Store" "_hands", .noat "Store" "_mendings", .mkr "Store", .meth "Store" "_check", .meth "Store" "_check_idle", .meth "Store" "_held", .meth "Store" "_left", .meth "Store" "slot", .meth "Store" "hand", .meth "Store" "mending", .meth "Store" "visited", .meth "Store" "place_of", .meth "Store" "make", .meth "Store" "write", .meth "Store" "use", .glo "BadBook", .exc "BadBook", .glo "Refused", .glo "BadPhase", .noat "BadPhase" "field", .glo "NoSuch", .noat "NoSuch" "what", .noat "NoSuch" "number", .glo "Empty", .noat "Empty" "what", .noat "Empty" "number", .free "super", .exm "NoSuch" "Refused" true, .exm "Empty" "Refused" true]
def fxAll : List Fx := [.tup "BARRIERS" [.str "none", .str "follow", .str "plain", .str "guarded"], .inst "Ref", .prop "Phase" "text", .inst "Phase", .prop "Book" "text", .inst "Book", .prop "Store" "row", .prop "Store" "turns", .prop "Store" "things", .inst "Store", .kit (.ty "NoneType") (.own "Ref") false, .kit (.ty "int") (.own "Ref") false, .kit (.ty "bool") (.own "Ref") false, .kit (.ty "tuple") (.own "Ref") false, .kit (.own "Ref") (.own "Ref") true, .kit (.own "Phase") (.own "Phase") true, .kit (.own "Book") (.own "Book") true, .kit (.own "Empty") (.own "Empty") true, .kit (.own "NoSuch") (.own "NoSuch") true, .cread "Book", .cmeth "Book" "of", .own "Book" "__len__", .own "Book" "__getitem__", .own "Book" "__setitem__", .own "Ref" "__eq__", .own "Ref" "__str__", .cint "Book" "MOST" 6, .oex "BadPhase", .einit "BadPhase" "BadPhase", .sup "BadPhase" "BadPhase" pFile "self", .oex "NoSuch", .einit "NoSuch" "Refused", .sup "NoSuch" "Refused" pFile "self", .oex "Empty", .einit "Empty" "Refused", .sup "Empty" "Refused" pFile "self", .excC "NoSuch", .excC "Empty", .nf "Ref" (.own "Ref"), .sub "Ref" (.ty "NoneType") false, .sub "Ref" (.ty "str") false, .sub "Ref" (.ty "tuple") false, .sub "Ref" (.ty "list") false]
structure Tx (K : PySem.W.Frag) (mg : Str → Option Value) : Prop where
  n_abs : mg "abs" = none
  n_bool : mg "bool" = none
  n_int : mg "int" = none
  n_isinstance : mg "isinstance" = none
  n_len : mg "len" = none
  n_list : mg "list" = none
  n_max : mg "max" = none
  n_min : mg "min" = none
  n_range : mg "range" = none
  n_str : mg "str" = none
  n_tuple : mg "tuple" = none
  g_l_pool : mg "_law_pool" = some (.ref (gad "_law_pool" K))
  g_l_take : mg "_law_take" = some (.ref (gad "_law_take" K))
  g_l_is : mg "_law_is" = some (.ref (gad "_law_is" K))
  g_l_int : mg "_law_int" = some (.ref (gad "_law_int" K))
  g_l_raw : mg "_law_raw" = some (.ref (gad "_law_raw" K))
  g_l_calm : mg "_law_calm" = some (.ref (gad "_law_calm" K))
  g_l_rows : mg "_law_rows" = some (.ref (gad "_law_rows" K))
  g_l_phase : mg "_law_phase" = some (.ref (gad "_law_phase" K))
  g_l_book : mg "_law_book" = some (.ref (gad "_law_book" K))
  g_l_equal : mg "_law_equal" = some (.ref (gad "_law_equal" K))
  g_l_value : mg "_law_value" = some (.ref (gad "_law_value" K))
  g_l_done : mg "_law_done" = some (.ref (gad "_law_done" K))
  g_l_missing : mg "_law_missing" = some (.ref (gad "_law_missing" K))
  g_l_held : mg "_law_held" = some (.ref (gad "_law_held" K))
  g_l_one_number : mg "_law_one_number" = some (.ref (gad "_law_one_number" K))
  g_law : mg "law" = some (.ref (gad "law" K))
  g_BARRIERS : mg "BARRIERS" = some (.ref (gad "BARRIERS" K))
  t_BARRIERS : SqTk K (gad "BARRIERS" K) [V.str "none", V.str "follow", V.str "plain", V.str "guarded"]
  g_MOST_HUE : ∃ t, mg "MOST_HUE" = some (.int 5 t)
  g_MOST_STAND : ∃ t, mg "MOST_STAND" = some (.int 7 t)
  g_HUES : ∃ t, mg "HUES" = some (.int 6 t)
  g_Ref : mg "Ref" = some (.ref (gad "Ref" K))
  c_Ref : Cls K (gad "Ref" K)
  na_Ref_place : NoAttr K (gad "Ref" K) "place"
  na_Ref_hue : NoAttr K (gad "Ref" K) "hue"
  mk_Ref : Mk K (gad "Ref" K) (mad "Ref" "__init__" K)
  i_Ref : (Fx.inst "Ref").ok K = true
  g_Phase : mg "Phase" = some (.ref (gad "Phase" K))
  c_Phase : Cls K (gad "Phase" K)
  na_Phase_hue : NoAttr K (gad "Phase" K) "hue"
  na_Phase_barrier : NoAttr K (gad "Phase" K) "barrier"
  na_Phase_visits : NoAttr K (gad "Phase" K) "visits"
  na_Phase_pauses : NoAttr K (gad "Phase" K) "pauses"
  na_Phase_stand : NoAttr K (gad "Phase" K) "stand"
  na_Phase_skips : NoAttr K (gad "Phase" K) "skips"
  mk_Phase : Mk K (gad "Phase" K) (mad "Phase" "__init__" K)
  p_Phase_text : PropOf K (gad "Phase" K) "text" (mad "Phase" "text" K) (pad "property" "Phase" "text" K)
  i_Phase : (Fx.inst "Phase").ok K = true
  g_Book : mg "Book" = some (.ref (gad "Book" K))
  c_Book : Cls K (gad "Book" K)
  na_Book_phases : NoAttr K (gad "Book" K) "phases"
  mk_Book : Mk K (gad "Book" K) (mad "Book" "__init__" K)
  m_Book_getitem : Meth K (gad "Book" K) "__getitem__" (mad "Book" "__getitem__" K)
  m_Book_setitem : Meth K (gad "Book" K) "__setitem__" (mad "Book" "__setitem__" K)
  m_Book_copy : Meth K (gad "Book" K) "copy" (mad "Book" "copy" K)
  p_Book_text : PropOf K (gad "Book" K) "text" (mad "Book" "text" K) (pad "property" "Book" "text" K)
  i_Book : (Fx.inst "Book").ok K = true
  g_Store : mg "Store" = some (.ref (gad "Store" K))
  c_Store : Cls K (gad "Store" K)
  na_Store__book : NoAttr K (gad "Store" K) "_book"
  na_Store__row : NoAttr K (gad "Store" K) "_row"
  na_Store__turns : NoAttr K (gad "Store" K) "_turns"
  na_Store__places : NoAttr K (gad "Store" K) "_places"
  na_Store__owners : NoAttr K (gad "Store" K) "_owners"
  na_Store__posts : NoAttr K (gad "Store" K) "_posts"
  na_Store__slots : NoAttr K (gad "Store" K) "_slots"
  na_Store__visited : NoAttr K (gad "Store" K) "_visited"
  na_Store__hands : NoAttr K (gad "Store" K) "_hands"
  na_Store__mendings : NoAttr K (gad "Store" K) "_mendings"
  mk_Store : Mk K (gad "Store" K) (mad "Store" "__init__" K)
  p_Store_row : PropOf K (gad "Store" K) "row" (mad "Store" "row" K) (pad "property" "Store" "row" K)
  p_Store_turns : PropOf K (gad "Store" K) "turns" (mad "Store" "turns" K) (pad "property" "Store" "turns" K)
  p_Store_things : PropOf K (gad "Store" K) "things" (mad "Store" "things" K) (pad "property" "Store" "things" K)
  m_Storecheck : Meth K (gad "Store" K) "_check" (mad "Store" "_check" K)
  m_Storecheck_idle : Meth K (gad "Store" K) "_check_idle" (mad "Store" "_check_idle" K)
  m_Storeheld : Meth K (gad "Store" K) "_held" (mad "Store" "_held" K)
  m_Storeleft : Meth K (gad "Store" K) "_left" (mad "Store" "_left" K)
  m_Store_slot : Meth K (gad "Store" K) "slot" (mad "Store" "slot" K)
  m_Store_hand : Meth K (gad "Store" K) "hand" (mad "Store" "hand" K)
  m_Store_mending : Meth K (gad "Store" K) "mending" (mad "Store" "mending" K)
  m_Store_visited : Meth K (gad "Store" K) "visited" (mad "Store" "visited" K)
  m_Store_place_of : Meth K (gad "Store" K) "place_of" (mad "Store" "place_of" K)
  m_Store_make : Meth K (gad "Store" K) "make" (mad "Store" "make" K)
  m_Store_write : Meth K (gad "Store" K) "write" (mad "Store" "write" K)
  m_Store_use : Meth K (gad "Store" K) "use" (mad "Store" "use" K)
  i_Store : (Fx.inst "Store").ok K = true
  k_NoneType_Ref : PySem.W.kitOne K (Value.type "NoneType") (Value.ref (gad "Ref" K)) = some false
  k_int_Ref : PySem.W.kitOne K (Value.type "int") (Value.ref (gad "Ref" K)) = some false
  k_bool_Ref : PySem.W.kitOne K (Value.type "bool") (Value.ref (gad "Ref" K)) = some false
  k_tuple_Ref : PySem.W.kitOne K (Value.type "tuple") (Value.ref (gad "Ref" K)) = some false
  k_Ref_Ref : PySem.W.kitOne K (Value.ref (gad "Ref" K)) (Value.ref (gad "Ref" K)) = some true
  k_Phase_Phase : PySem.W.kitOne K (Value.ref (gad "Phase" K)) (Value.ref (gad "Phase" K)) = some true
  k_Book_Book : PySem.W.kitOne K (Value.ref (gad "Book" K)) (Value.ref (gad "Book" K)) = some true
  k_Empty_Empty : PySem.W.kitOne K (Value.ref (gad "Empty" K)) (Value.ref (gad "Empty" K)) = some true
  k_NoSuch_NoSuch : PySem.W.kitOne K (Value.ref (gad "NoSuch" K)) (Value.ref (gad "NoSuch" K)) = some true
  cr_Book : ClX.CRead K (gad "Book" K) (.type "type")
  cm_Book_of : ClX.CMet K (gad "Book" K) (.type "type") "of" (mad "Book" "of" K) (pad "classmethod" "Book" "of" K)
  o_Book_len : OwnM K (gad "Book" K) "__len__" (mad "Book" "__len__" K)
  o_Book_getitem : OwnM K (gad "Book" K) "__getitem__" (mad "Book" "__getitem__" K)
  o_Book_setitem : OwnM K (gad "Book" K) "__setitem__" (mad "Book" "__setitem__" K)
  o_Ref_eq : OwnM K (gad "Ref" K) "__eq__" (mad "Ref" "__eq__" K)
  o_Ref_str : OwnM K (gad "Ref" K) "__str__" (mad "Ref" "__str__" K)
  cv_Book_MOST : ∃ u, ClX.CVal K (gad "Book" K) (.type "type") "MOST" (.int 6) u
  g_BadBook : mg "BadBook" = some (.ref (gad "BadBook" K))
  x_BadBook : PySem.W.excIn K (gad "BadBook" K) He.veBase "ValueError.__new__" = true ∧ PySem.W.keepIn K (.ref (gad "BadBook" K)) = true ∧ PySem.W.subIn K (.ref (gad "BadBook" K)) (.type "BaseException") = some true ∧ PySem.W.typeIn K (.ref (gad "BadBook" K)) = some (.type "type")
  g_Refused : mg "Refused" = some (.ref (gad "Refused" K))
  g_BadPhase : mg "BadPhase" = some (.ref (gad "BadPhase" K))
  ox_BadPhase : OexC K (gad "BadPhase" K)
  ei_BadPhase : PySem.W.findIn K (.ref (gad "BadPhase" K)) "__init__" = some (some (.ref (mad "BadPhase" "__init__" K))) ∧ PySem.W.typeIn K (.ref (mad "BadPhase" "__init__" K)) = some (.type "function")
  sp_BadPhase : (Fx.sup "BadPhase" "BadPhase" pFile "self").ok K = true
  na_BadPhase_field : NoAttr K (gad "BadPhase" K) "field"
  g_NoSuch : mg "NoSuch" = some (.ref (gad "NoSuch" K))
  ox_NoSuch : OexC K (gad "NoSuch" K)
  ei_NoSuch : PySem.W.findIn K (.ref (gad "NoSuch" K)) "__init__" = some (some (.ref (mad "Refused" "__init__" K))) ∧ PySem.W.typeIn K (.ref (mad "Refused" "__init__" K)) = some (.type "function")
  sp_NoSuch : (Fx.sup "NoSuch" "Refused" pFile "self").ok K = true
  na_NoSuch_what : NoAttr K (gad "NoSuch" K) "what"
  na_NoSuch_number : NoAttr K (gad "NoSuch" K) "number"
  g_Empty : mg "Empty" = some (.ref (gad "Empty" K))
  ox_Empty : OexC K (gad "Empty" K)
  ei_Empty : PySem.W.findIn K (.ref (gad "Empty" K)) "__init__" = some (some (.ref (mad "Refused" "__init__" K))) ∧ PySem.W.typeIn K (.ref (mad "Refused" "__init__" K)) = some (.type "function")
  sp_Empty : (Fx.sup "Empty" "Refused" pFile "self").ok K = true
  na_Empty_what : NoAttr K (gad "Empty" K) "what"
  na_Empty_number : NoAttr K (gad "Empty" K) "number"
  n_super : mg "super" = none
  e_NoSuch : ExcC K (gad "NoSuch" K)
  e_Empty : ExcC K (gad "Empty" K)
  xm_NoSuch_Refused : PySem.W.exmOne K (.ref (gad "NoSuch" K)) (.ref (gad "Refused" K)) = some true
  xm_Empty_Refused : PySem.W.exmOne K (.ref (gad "Empty" K)) (.ref (gad "Refused" K)) = some true
  nf_Ref_Ref : PySem.W.notFirst K (gad "Ref" K) (Value.ref (gad "Ref" K)) = true
  ns_Ref : NoSubs K (gad "Ref" K)
  F_l_pool : FunD K "_law_pool" "_law_pool" (defArgs s_l_pool) (defBody s_l_pool) (defScope s_l_pool) [] [] (gad "_law_pool" K) (fdD K (gad "_law_pool" K))
  F_l_take : FunD K "_law_take" "_law_take" (defArgs s_l_take) (defBody s_l_take) (defScope s_l_take) [] [] (gad "_law_take" K) (fdD K (gad "_law_take" K))
  F_l_is : FunD K "_law_is" "_law_is" (defArgs s_l_is) (defBody s_l_is) (defScope s_l_is) [] [] (gad "_law_is" K) (fdD K (gad "_law_is" K))
  F_l_int : FunD K "_law_int" "_law_int" (defArgs s_l_int) (defBody s_l_int) (defScope s_l_int) [] [] (gad "_law_int" K) (fdD K (gad "_law_int" K))
  F_l_raw : FunD K "_law_raw" "_law_raw" (defArgs s_l_raw) (defBody s_l_raw) (defScope s_l_raw) [] [] (gad "_law_raw" K) (fdD K (gad "_law_raw" K))
  F_BadPhase_init : ∃ cc cdv, FunC K "__init__" "BadPhase.__init__" (defArgs s_BadPhase_init) (defBody s_BadPhase_init) (defScope s_BadPhase_init) (mad "BadPhase" "__init__" K) cc cdv (fdD K (mad "BadPhase" "__init__" K))
  F_Refused_init : ∃ cc cdv, FunC K "__init__" "Refused.__init__" (defArgs s_Refused_init) (defBody s_Refused_init) (defScope s_Refused_init) (mad "Refused" "__init__" K) cc cdv (fdD K (mad "Refused" "__init__" K))
  F_Ref_init : FunD K "__init__" "Ref.__init__" (defArgs s_Ref_init) (defBody s_Ref_init) (defScope s_Ref_init) [] [] (mad "Ref" "__init__" K) (fdD K (mad "Ref" "__init__" K))
  F_Ref_eq : FunD K "__eq__" "Ref.__eq__" (defArgs s_Ref_eq) (defBody s_Ref_eq) (defScope s_Ref_eq) [] [] (mad "Ref" "__eq__" K) (fdD K (mad "Ref" "__eq__" K))
  F_Ref_str : FunD K "__str__" "Ref.__str__" (defArgs s_Ref_str) (defBody s_Ref_str) (defScope s_Ref_str) [] [] (mad "Ref" "__str__" K) (fdD K (mad "Ref" "__str__" K))
  F_Phase_init : FunD K "__init__" "Phase.__init__" (defArgs s_Phase_init) (defBody s_Phase_init) (defScope s_Phase_init) [] [("barrier", V.str "guarded"), ("visits", V.bl false), ("pauses", V.bl true), ("stand", V.int (0)), ("skips", V.bl false)] (mad "Phase" "__init__" K) (fdD K (mad "Phase" "__init__" K))
  F_Phase_text : FunD K "text" "Phase.text" (defArgs s_Phase_text) (defBody s_Phase_text) (defScope s_Phase_text) [] [] (pad "property" "Phase" "text" K) (fdD K (pad "property" "Phase" "text" K))
  F_Book_init : FunD K "__init__" "Book.__init__" (defArgs s_Book_init) (defBody s_Book_init) (defScope s_Book_init) [] [] (mad "Book" "__init__" K) (fdD K (mad "Book" "__init__" K))
  F_Book_of : FunD K "of" "Book.of" (defArgs s_Book_of) (defBody s_Book_of) (defScope s_Book_of) [] [] (pad "classmethod" "Book" "of" K) (fdD K (pad "classmethod" "Book" "of" K))
  F_Book_len : FunD K "__len__" "Book.__len__" (defArgs s_Book_len) (defBody s_Book_len) (defScope s_Book_len) [] [] (mad "Book" "__len__" K) (fdD K (mad "Book" "__len__" K))
  F_Book_getitem : FunD K "__getitem__" "Book.__getitem__" (defArgs s_Book_getitem) (defBody s_Book_getitem) (defScope s_Book_getitem) [] [] (mad "Book" "__getitem__" K) (fdD K (mad "Book" "__getitem__" K))
  F_Book_setitem : FunD K "__setitem__" "Book.__setitem__" (defArgs s_Book_setitem) (defBody s_Book_setitem) (defScope s_Book_setitem) [] [] (mad "Book" "__setitem__" K) (fdD K (mad "Book" "__setitem__" K))
  F_Book_copy : FunD K "copy" "Book.copy" (defArgs s_Book_copy) (defBody s_Book_copy) (defScope s_Book_copy) [] [] (mad "Book" "copy" K) (fdD K (mad "Book" "copy" K))
  F_Book_text : FunD K "text" "Book.text" (defArgs s_Book_text) (defBody s_Book_text) (defScope s_Book_text) [] [] (pad "property" "Book" "text" K) (fdD K (pad "property" "Book" "text" K))
  F_Store_init : FunD K "__init__" "Store.__init__" (defArgs s_Store_init) (defBody s_Store_init) (defScope s_Store_init) [] [("slots", V.int (1)), ("hands", V.int (2))] (mad "Store" "__init__" K) (fdD K (mad "Store" "__init__" K))
  F_Store_row : FunD K "row" "Store.row" (defArgs s_Store_row) (defBody s_Store_row) (defScope s_Store_row) [] [] (pad "property" "Store" "row" K) (fdD K (pad "property" "Store" "row" K))
  F_Store_turns : FunD K "turns" "Store.turns" (defArgs s_Store_turns) (defBody s_Store_turns) (defScope s_Store_turns) [] [] (pad "property" "Store" "turns" K) (fdD K (pad "property" "Store" "turns" K))
  F_Store_things : FunD K "things" "Store.things" (defArgs s_Store_things) (defBody s_Store_things) (defScope s_Store_things) [] [] (pad "property" "Store" "things" K) (fdD K (pad "property" "Store" "things" K))
  F_Storecheck : FunD K "_check" "Store._check" (defArgs s_Storecheck) (defBody s_Storecheck) (defScope s_Storecheck) [] [] (mad "Store" "_check" K) (fdD K (mad "Store" "_check" K))
  F_Storecheck_idle : FunD K "_check_idle" "Store._check_idle" (defArgs s_Storecheck_idle) (defBody s_Storecheck_idle) (defScope s_Storecheck_idle) [] [] (mad "Store" "_check_idle" K) (fdD K (mad "Store" "_check_idle" K))
  F_Storeheld : FunD K "_held" "Store._held" (defArgs s_Storeheld) (defBody s_Storeheld) (defScope s_Storeheld) [] [] (mad "Store" "_held" K) (fdD K (mad "Store" "_held" K))
  F_Storeleft : FunD K "_left" "Store._left" (defArgs s_Storeleft) (defBody s_Storeleft) (defScope s_Storeleft) [] [] (mad "Store" "_left" K) (fdD K (mad "Store" "_left" K))
  F_Store_slot : FunD K "slot" "Store.slot" (defArgs s_Store_slot) (defBody s_Store_slot) (defScope s_Store_slot) [] [] (mad "Store" "slot" K) (fdD K (mad "Store" "slot" K))
  F_Store_hand : FunD K "hand" "Store.hand" (defArgs s_Store_hand) (defBody s_Store_hand) (defScope s_Store_hand) [] [] (mad "Store" "hand" K) (fdD K (mad "Store" "hand" K))
  F_Store_mending : FunD K "mending" "Store.mending" (defArgs s_Store_mending) (defBody s_Store_mending) (defScope s_Store_mending) [] [] (mad "Store" "mending" K) (fdD K (mad "Store" "mending" K))
  F_Store_visited : FunD K "visited" "Store.visited" (defArgs s_Store_visited) (defBody s_Store_visited) (defScope s_Store_visited) [] [] (mad "Store" "visited" K) (fdD K (mad "Store" "visited" K))
  F_Store_place_of : FunD K "place_of" "Store.place_of" (defArgs s_Store_place_of) (defBody s_Store_place_of) (defScope s_Store_place_of) [] [] (mad "Store" "place_of" K) (fdD K (mad "Store" "place_of" K))
  F_Store_make : FunD K "make" "Store.make" (defArgs s_Store_make) (defBody s_Store_make) (defScope s_Store_make) [] [] (mad "Store" "make" K) (fdD K (mad "Store" "make" K))
  F_Store_write : FunD K "write" "Store.write" (defArgs s_Store_write) (defBody s_Store_write) (defScope s_Store_write) [] [] (mad "Store" "write" K) (fdD K (mad "Store" "write" K))
  F_Store_use : FunD K "use" "Store.use" (defArgs s_Store_use) (defBody s_Store_use) (defScope s_Store_use) [] [] (mad "Store" "use" K) (fdD K (mad "Store" "use" K))
  F_l_calm : FunD K "_law_calm" "_law_calm" (defArgs s_l_calm) (defBody s_l_calm) (defScope s_l_calm) [] [] (gad "_law_calm" K) (fdD K (gad "_law_calm" K))
  F_l_rows : FunD K "_law_rows" "_law_rows" (defArgs s_l_rows) (defBody s_l_rows) (defScope s_l_rows) [] [] (gad "_law_rows" K) (fdD K (gad "_law_rows" K))
  F_l_phase : FunD K "_law_phase" "_law_phase" (defArgs s_l_phase) (defBody s_l_phase) (defScope s_l_phase) [] [] (gad "_law_phase" K) (fdD K (gad "_law_phase" K))
  F_l_book : FunD K "_law_book" "_law_book" (defArgs s_l_book) (defBody s_l_book) (defScope s_l_book) [] [] (gad "_law_book" K) (fdD K (gad "_law_book" K))
  F_l_equal : FunD K "_law_equal" "_law_equal" (defArgs s_l_equal) (defBody s_l_equal) (defScope s_l_equal) [] [] (gad "_law_equal" K) (fdD K (gad "_law_equal" K))
  F_l_value : FunD K "_law_value" "_law_value" (defArgs s_l_value) (defBody s_l_value) (defScope s_l_value) [] [] (gad "_law_value" K) (fdD K (gad "_law_value" K))
  F_l_done : FunD K "_law_done" "_law_done" (defArgs s_l_done) (defBody s_l_done) (defScope s_l_done) [] [] (gad "_law_done" K) (fdD K (gad "_law_done" K))
  F_l_missing : FunD K "_law_missing" "_law_missing" (defArgs s_l_missing) (defBody s_l_missing) (defScope s_l_missing) [] [] (gad "_law_missing" K) (fdD K (gad "_law_missing" K))
  F_l_held : FunD K "_law_held" "_law_held" (defArgs s_l_held) (defBody s_l_held) (defScope s_l_held) [] [] (gad "_law_held" K) (fdD K (gad "_law_held" K))
  F_l_one_number : FunD K "_law_one_number" "_law_one_number" (defArgs s_l_one_number) (defBody s_l_one_number) (defScope s_l_one_number) [] [] (gad "_law_one_number" K) (fdD K (gad "_law_one_number" K))
  F_law : FunD K "law" "law" (defArgs s_law) (defBody s_law) (defScope s_law) [] [] (gad "law" K) (fdD K (gad "law" K))
theorem Tx.of {K : PySem.W.Frag} {h : Heap} {mg : Str → Option Value} (X : K.In h) (G : h.Ns mainGlobals mg) (c : SaysX faAll fxAll dsAll K) : Tx K mg where
  n_abs := He.free_ok X G (c.fact 0 (f := .free "abs") rfl)
  n_bool := He.free_ok X G (c.fact 1 (f := .free "bool") rfl)
  n_int := He.free_ok X G (c.fact 2 (f := .free "int") rfl)
  n_isinstance := He.free_ok X G (c.fact 3 (f := .free "isinstance") rfl)
  n_len := He.free_ok X G (c.fact 4 (f := .free "len") rfl)
  n_list := He.free_ok X G (c.fact 5 (f := .free "list") rfl)
  n_max := He.free_ok X G (c.fact 6 (f := .free "max") rfl)
  n_min := He.free_ok X G (c.fact 7 (f := .free "min") rfl)
  n_range := He.free_ok X G (c.fact 8 (f := .free "range") rfl)
  n_str := He.free_ok X G (c.fact 9 (f := .free "str") rfl)
  n_tuple := He.free_ok X G (c.fact 10 (f := .free "tuple") rfl)
  g_l_pool := He.glo_ok X G (c.fact 11 (f := .glo "_law_pool") rfl)
  g_l_take := He.glo_ok X G (c.fact 12 (f := .glo "_law_take") rfl)
  g_l_is := He.glo_ok X G (c.fact 13 (f := .glo "_law_is") rfl)
  g_l_int := He.glo_ok X G (c.fact 14 (f := .glo "_law_int") rfl)
  g_l_raw := He.glo_ok X G (c.fact 15 (f := .glo "_law_raw") rfl)
  g_l_calm := He.glo_ok X G (c.fact 16 (f := .glo "_law_calm") rfl)
  g_l_rows := He.glo_ok X G (c.fact 17 (f := .glo "_law_rows") rfl)
  g_l_phase := He.glo_ok X G (c.fact 18 (f := .glo "_law_phase") rfl)
  g_l_book := He.glo_ok X G (c.fact 19 (f := .glo "_law_book") rfl)
  g_l_equal := He.glo_ok X G (c.fact 20 (f := .glo "_law_equal") rfl)
  g_l_value := He.glo_ok X G (c.fact 21 (f := .glo "_law_value") rfl)
  g_l_done := He.glo_ok X G (c.fact 22 (f := .glo "_law_done") rfl)
  g_l_missing := He.glo_ok X G (c.fact 23 (f := .glo "_law_missing") rfl)
  g_l_held := He.glo_ok X G (c.fact 24 (f := .glo "_law_held") rfl)
  g_l_one_number := He.glo_ok X G (c.fact 25 (f := .glo "_law_one_number") rfl)
  g_law := He.glo_ok X G (c.fact 26 (f := .glo "law") rfl)
  g_BARRIERS := He.glo_ok X G (c.fact 27 (f := .glo "BARRIERS") rfl)
  t_BARRIERS := tup_ok (c.more 0 (f := .tup "BARRIERS" [.str "none", .str "follow", .str "plain", .str "guarded"]) rfl)
  g_MOST_HUE := He.int_ok X G (c.fact 28 (f := .int "MOST_HUE" 5) rfl)
  g_MOST_STAND := He.int_ok X G (c.fact 29 (f := .int "MOST_STAND" 7) rfl)
  g_HUES := He.int_ok X G (c.fact 30 (f := .int "HUES" 6) rfl)
  g_Ref := He.glo_ok X G (c.fact 31 (f := .glo "Ref") rfl)
  c_Ref := He.cls_ok (c.fact 32 (f := .cls "Ref") rfl)
  na_Ref_place := He.noat_ok (c.fact 33 (f := .noat "Ref" "place") rfl)
  na_Ref_hue := He.noat_ok (c.fact 34 (f := .noat "Ref" "hue") rfl)
  mk_Ref := He.mkr_ok (c.fact 35 (f := .mkr "Ref") rfl)
  i_Ref := (c.more 1 (f := .inst "Ref") rfl)
  g_Phase := He.glo_ok X G (c.fact 36 (f := .glo "Phase") rfl)
  c_Phase := He.cls_ok (c.fact 37 (f := .cls "Phase") rfl)
  na_Phase_hue := He.noat_ok (c.fact 38 (f := .noat "Phase" "hue") rfl)
  na_Phase_barrier := He.noat_ok (c.fact 39 (f := .noat "Phase" "barrier") rfl)
  na_Phase_visits := He.noat_ok (c.fact 40 (f := .noat "Phase" "visits") rfl)
  na_Phase_pauses := He.noat_ok (c.fact 41 (f := .noat "Phase" "pauses") rfl)
  na_Phase_stand := He.noat_ok (c.fact 42 (f := .noat "Phase" "stand") rfl)
  na_Phase_skips := He.noat_ok (c.fact 43 (f := .noat "Phase" "skips") rfl)
  mk_Phase := He.mkr_ok (c.fact 44 (f := .mkr "Phase") rfl)
  p_Phase_text := prop_ok (c.more 2 (f := .prop "Phase" "text") rfl)
  i_Phase := (c.more 3 (f := .inst "Phase") rfl)
  g_Book := He.glo_ok X G (c.fact 45 (f := .glo "Book") rfl)
  c_Book := He.cls_ok (c.fact 46 (f := .cls "Book") rfl)
  na_Book_phases := He.noat_ok (c.fact 47 (f := .noat "Book" "phases") rfl)
  mk_Book := He.mkr_ok (c.fact 48 (f := .mkr "Book") rfl)
  m_Book_getitem := He.meth_ok (c.fact 49 (f := .meth "Book" "__getitem__") rfl)
  m_Book_setitem := He.meth_ok (c.fact 50 (f := .meth "Book" "__setitem__") rfl)
  m_Book_copy := He.meth_ok (c.fact 51 (f := .meth "Book" "copy") rfl)
  p_Book_text := prop_ok (c.more 4 (f := .prop "Book" "text") rfl)
  i_Book := (c.more 5 (f := .inst "Book") rfl)
  g_Store := He.glo_ok X G (c.fact 52 (f := .glo "Store") rfl)
  c_Store := He.cls_ok (c.fact 53 (f := .cls "Store") rfl)
  na_Store__book := He.noat_ok (c.fact 54 (f := .noat "Store" "_book") rfl)
  na_Store__row := He.noat_ok (c.fact 55 (f := .noat "Store" "_row") rfl)
  na_Store__turns := He.noat_ok (c.fact 56 (f := .noat "Store" "_turns") rfl)
  na_Store__places := He.noat_ok (c.fact 57 (f := .noat "Store" "_places") rfl)
  na_Store__owners := He.noat_ok (c.fact 58 (f := .noat "Store" "_owners") rfl)
  na_Store__posts := He.noat_ok (c.fact 59 (f := .noat "Store" "_posts") rfl)
  na_Store__slots := He.noat_ok (c.fact 60 (f := .noat "Store" "_slots") rfl)
  na_Store__visited := He.noat_ok (c.fact 61 (f := .noat "Store" "_visited") rfl)
  na_Store__hands := He.noat_ok (c.fact 62 (f := .noat "Store" "_hands") rfl)
  na_Store__mendings := He.noat_ok (c.fact 63 (f := .noat "Store" "_mendings") rfl)
  mk_Store := He.mkr_ok (c.fact 64 (f := .mkr "Store") rfl)
  p_Store_row := prop_ok (c.more 6 (f := .prop "Store" "row") rfl)
  p_Store_turns := prop_ok (c.more 7 (f := .prop "Store" "turns") rfl)
  p_Store_things := prop_ok (c.more 8 (f := .prop "Store" "things") rfl)
  m_Storecheck := He.meth_ok (c.fact 65 (f := .meth "Store" "_check") rfl)
  m_Storecheck_idle := He.meth_ok (c.fact 66 (f := .meth "Store" "_check_idle") rfl)
  m_Storeheld := He.meth_ok (c.fact 67 (f := .meth "Store" "_held") rfl)
  m_Storeleft := He.meth_ok (c.fact 68 (f := .meth "Store" "_left") rfl)
  m_Store_slot := He.meth_ok (c.fact 69 (f := .meth "Store" "slot") rfl)
  m_Store_hand := He.meth_ok (c.fact 70 (f := .meth "Store" "hand") rfl)
  m_Store_mending := He.meth_ok (c.fact 71 (f := .meth "Store" "mending") rfl)
  m_Store_visited := He.meth_ok (c.fact 72 (f := .meth "Store" "visited") rfl)
  m_Store_place_of := He.meth_ok (c.fact 73 (f := .meth "Store" "place_of") rfl)
  m_Store_make := He.meth_ok (c.fact 74 (f := .meth "Store" "make") rfl)
  m_Store_write := He.meth_ok (c.fact 75 (f := .meth "Store" "write") rfl)
  m_Store_use := He.meth_ok (c.fact 76 (f := .meth "Store" "use") rfl)
  i_Store := (c.more 9 (f := .inst "Store") rfl)
  k_NoneType_Ref := kit_ok (c.more 10 (f := .kit (.ty "NoneType") (.own "Ref") false) rfl)
  k_int_Ref := kit_ok (c.more 11 (f := .kit (.ty "int") (.own "Ref") false) rfl)
  k_bool_Ref := kit_ok (c.more 12 (f := .kit (.ty "bool") (.own "Ref") false) rfl)
  k_tuple_Ref := kit_ok (c.more 13 (f := .kit (.ty "tuple") (.own "Ref") false) rfl)
  k_Ref_Ref := kit_ok (c.more 14 (f := .kit (.own "Ref") (.own "Ref") true) rfl)
  k_Phase_Phase := kit_ok (c.more 15 (f := .kit (.own "Phase") (.own "Phase") true) rfl)
  k_Book_Book := kit_ok (c.more 16 (f := .kit (.own "Book") (.own "Book") true) rfl)
  k_Empty_Empty := kit_ok (c.more 17 (f := .kit (.own "Empty") (.own "Empty") true) rfl)
  k_NoSuch_NoSuch := kit_ok (c.more 18 (f := .kit (.own "NoSuch") (.own "NoSuch") true) rfl)
  cr_Book := cread_ok (c.more 19 (f := .cread "Book") rfl)
  cm_Book_of := cmeth_ok (c.more 20 (f := .cmeth "Book" "of") rfl)
  o_Book_len := own_ok (c.more 21 (f := .own "Book" "__len__") rfl)
  o_Book_getitem := own_ok (c.more 22 (f := .own "Book" "__getitem__") rfl)
  o_Book_setitem := own_ok (c.more 23 (f := .own "Book" "__setitem__") rfl)
  o_Ref_eq := own_ok (c.more 24 (f := .own "Ref" "__eq__") rfl)
  o_Ref_str := own_ok (c.more 25 (f := .own "Ref" "__str__") rfl)
  cv_Book_MOST := cint_ok (c.more 26 (f := .cint "Book" "MOST" 6) rfl)
  g_BadBook := He.glo_ok X G (c.fact 77 (f := .glo "BadBook") rfl)
  x_BadBook := He.exc_ok (c.fact 78 (f := .exc "BadBook") rfl)
  g_Refused := He.glo_ok X G (c.fact 79 (f := .glo "Refused") rfl)
  g_BadPhase := He.glo_ok X G (c.fact 80 (f := .glo "BadPhase") rfl)
  ox_BadPhase := oex_ok (c.more 27 (f := .oex "BadPhase") rfl)
  ei_BadPhase := einit_ok (c.more 28 (f := .einit "BadPhase" "BadPhase") rfl)
  sp_BadPhase := (c.more 29 (f := .sup "BadPhase" "BadPhase" pFile "self") rfl)
  na_BadPhase_field := He.noat_ok (c.fact 81 (f := .noat "BadPhase" "field") rfl)
  g_NoSuch := He.glo_ok X G (c.fact 82 (f := .glo "NoSuch") rfl)
  ox_NoSuch := oex_ok (c.more 30 (f := .oex "NoSuch") rfl)
  ei_NoSuch := einit_ok (c.more 31 (f := .einit "NoSuch" "Refused") rfl)
  sp_NoSuch := (c.more 32 (f := .sup "NoSuch" "Refused" pFile "self") rfl)
  na_NoSuch_what := He.noat_ok (c.fact 83 (f := .noat "NoSuch" "what") rfl)
  na_NoSuch_number := He.noat_ok (c.fact 84 (f := .noat "NoSuch" "number") rfl)
  g_Empty := He.glo_ok X G (c.fact 85 (f := .glo "Empty") rfl)
  ox_Empty := oex_ok (c.more 33 (f := .oex "Empty") rfl)
  ei_Empty := einit_ok (c.more 34 (f := .einit "Empty" "Refused") rfl)
  sp_Empty := (c.more 35 (f := .sup "Empty" "Refused" pFile "self") rfl)
  na_Empty_what := He.noat_ok (c.fact 86 (f := .noat "Empty" "what") rfl)
  na_Empty_number := He.noat_ok (c.fact 87 (f := .noat "Empty" "number") rfl)
  n_super := He.free_ok X G (c.fact 88 (f := .free "super") rfl)
  e_NoSuch := excC_ok (c.more 36 (f := .excC "NoSuch") rfl)
  e_Empty := excC_ok (c.more 37 (f := .excC "Empty") rfl)
  xm_NoSuch_Refused := He.exm_ok (c.fact 89 (f := .exm "NoSuch" "Refused" true) rfl)
  xm_Empty_Refused := He.exm_ok (c.fact 90 (f := .exm "Empty" "Refused" true) rfl)
  nf_Ref_Ref := nf_ok (c.more 38 (f := .nf "Ref" (.own "Ref")) rfl)
  ns_Ref := ⟨sub_ok (c.more 39 (f := .sub "Ref" (.ty "NoneType") false) rfl), sub_ok (c.more 40 (f := .sub "Ref" (.ty "str") false) rfl), sub_ok (c.more 41 (f := .sub "Ref" (.ty "tuple") false) rfl), sub_ok (c.more 42 (f := .sub "Ref" (.ty "list") false) rfl)⟩
  F_l_pool := c.fd 0 (d := d_l_pool) rfl
  F_l_take := c.fd 1 (d := d_l_take) rfl
  F_l_is := c.fd 2 (d := d_l_is) rfl
  F_l_int := c.fd 3 (d := d_l_int) rfl
  F_l_raw := c.fd 4 (d := d_l_raw) rfl
  F_BadPhase_init := c.fdc 5 (d := d_BadPhase_init) rfl
  F_Refused_init := c.fdc 6 (d := d_Refused_init) rfl
  F_Ref_init := c.fd 7 (d := d_Ref_init) rfl
  F_Ref_eq := c.fd 8 (d := d_Ref_eq) rfl
  F_Ref_str := c.fd 9 (d := d_Ref_str) rfl
  F_Phase_init := c.fd 10 (d := d_Phase_init) rfl
  F_Phase_text := c.fd 11 (d := d_Phase_text) rfl
  F_Book_init := c.fd 12 (d := d_Book_init) rfl
  F_Book_of := c.fd 13 (d := d_Book_of) rfl
  F_Book_len := c.fd 14 (d := d_Book_len) rfl
  F_Book_getitem := c.fd 15 (d := d_Book_getitem) rfl
  F_Book_setitem := c.fd 16 (d := d_Book_setitem) rfl
  F_Book_copy := c.fd 17 (d := d_Book_copy) rfl
  F_Book_text := c.fd 18 (d := d_Book_text) rfl
  F_Store_init := c.fd 19 (d := d_Store_init) rfl
  F_Store_row := c.fd 20 (d := d_Store_row) rfl
  F_Store_turns := c.fd 21 (d := d_Store_turns) rfl
  F_Store_things := c.fd 22 (d := d_Store_things) rfl
  F_Storecheck := c.fd 23 (d := d_Storecheck) rfl
  F_Storecheck_idle := c.fd 24 (d := d_Storecheck_idle) rfl
  F_Storeheld := c.fd 25 (d := d_Storeheld) rfl
  F_Storeleft := c.fd 26 (d := d_Storeleft) rfl
  F_Store_slot := c.fd 27 (d := d_Store_slot) rfl
  F_Store_hand := c.fd 28 (d := d_Store_hand) rfl
  F_Store_mending := c.fd 29 (d := d_Store_mending) rfl
  F_Store_visited := c.fd 30 (d := d_Store_visited) rfl
  F_Store_place_of := c.fd 31 (d := d_Store_place_of) rfl
  F_Store_make := c.fd 32 (d := d_Store_make) rfl
  F_Store_write := c.fd 33 (d := d_Store_write) rfl
  F_Store_use := c.fd 34 (d := d_Store_use) rfl
  F_l_calm := c.fd 35 (d := d_l_calm) rfl
  F_l_rows := c.fd 36 (d := d_l_rows) rfl
  F_l_phase := c.fd 37 (d := d_l_phase) rfl
  F_l_book := c.fd 38 (d := d_l_book) rfl
  F_l_equal := c.fd 39 (d := d_l_equal) rfl
  F_l_value := c.fd 40 (d := d_l_value) rfl
  F_l_done := c.fd 41 (d := d_l_done) rfl
  F_l_missing := c.fd 42 (d := d_l_missing) rfl
  F_l_held := c.fd 43 (d := d_l_held) rfl
  F_l_one_number := c.fd 44 (d := d_l_one_number) rfl
  F_law := c.fd 45 (d := d_law) rfl
theorem bd_l_pool {K : PySem.W.Frag} {mg : Str → Option Value} (T : Tx K mg) : Binds K (fdD K (gad "_law_pool" K)) P_l_pool [] := T.F_l_pool.bindsN fun _ _ _ _ _ _ us hl => match us, hl with | [_], _ => rfl
theorem bd_l_take {K : PySem.W.Frag} {mg : Str → Option Value} (T : Tx K mg) : Binds K (fdD K (gad "_law_take" K)) P_l_take [] := T.F_l_take.bindsN fun _ _ _ _ _ _ us hl => match us, hl with | [_, _], _ => rfl
theorem bd_l_is {K : PySem.W.Frag} {mg : Str → Option Value} (T : Tx K mg) : Binds K (fdD K (gad "_law_is" K)) P_l_is [] := T.F_l_is.bindsN fun _ _ _ _ _ _ us hl => match us, hl with | [_, _], _ => rfl
theorem bd_l_int {K : PySem.W.Frag} {mg : Str → Option Value} (T : Tx K mg) : Binds K (fdD K (gad "_law_int" K)) P_l_int [] := T.F_l_int.bindsN fun _ _ _ _ _ _ us hl => match us, hl with | [_], _ => rfl
theorem bd_l_raw {K : PySem.W.Frag} {mg : Str → Option Value} (T : Tx K mg) : Binds K (fdD K (gad "_law_raw" K)) P_l_raw [] := T.F_l_raw.bindsN fun _ _ _ _ _ _ us hl => match us, hl with | [_], _ => rfl
theorem bd_BadPhase_init {K : PySem.W.Frag} {mg : Str → Option Value} (T : Tx K mg) : Binds K (fdD K (mad "BadPhase" "__init__" K)) P_BadPhase_init [] := by
  obtain ⟨cc, cdv, F⟩ := T.F_BadPhase_init
  exact F.binds fun _ _ _ _ _ _ us hl => match us, hl with | [_, _], _ => rfl
theorem bd_Refused_init {K : PySem.W.Frag} {mg : Str → Option Value} (T : Tx K mg) : Binds K (fdD K (mad "Refused" "__init__" K)) P_Refused_init [] := by
  obtain ⟨cc, cdv, F⟩ := T.F_Refused_init
  exact F.binds fun _ _ _ _ _ _ us hl => match us, hl with | [_, _, _], _ => rfl
theorem bd_Ref_init {K : PySem.W.Frag} {mg : Str → Option Value} (T : Tx K mg) : Binds K (fdD K (mad "Ref" "__init__" K)) P_Ref_init [] := T.F_Ref_init.bindsN fun _ _ _ _ _ _ us hl => match us, hl with | [_, _, _], _ => rfl
theorem bd_Ref_eq {K : PySem.W.Frag} {mg : Str → Option Value} (T : Tx K mg) : Binds K (fdD K (mad "Ref" "__eq__" K)) P_Ref_eq [] := T.F_Ref_eq.bindsN fun _ _ _ _ _ _ us hl => match us, hl with | [_, _], _ => rfl
theorem bd_Ref_str {K : PySem.W.Frag} {mg : Str → Option Value} (T : Tx K mg) : Binds K (fdD K (mad "Ref" "__str__" K)) P_Ref_str [] := T.F_Ref_str.bindsN fun _ _ _ _ _ _ us hl => match us, hl with | [_], _ => rfl
theorem bd0_Phase_init {K : PySem.W.Frag} {mg : Str → Option Value} (T : Tx K mg) : ∃ ds, Vals (([("barrier", V.str "guarded"), ("visits", V.bl false), ("pauses", V.bl true), ("stand", V.int (0)), ("skips", V.bl false)] : List (Str × V)).map (·.2)) ds ∧ Binds K (fdD K (mad "Phase" "__init__" K)) P_Phase_init ds := T.F_Phase_init.binds0 2 (by simp) rfl (fun D doc pm an cdv ct us ks h1 h2 => match us, ks, h1, h2 with | [_, _], [_, _, _, _, _], _, _ => ⟨_, _, _, _, _, _, rfl, rfl, ⟨_, _, _, _, _, _, rfl, rfl, ⟨_, _, _, _, _, _, rfl, rfl, ⟨_, _, _, _, _, _, rfl, rfl, ⟨_, _, _, _, _, _, rfl, rfl, rfl⟩⟩⟩⟩⟩)
theorem bd_Phase_text {K : PySem.W.Frag} {mg : Str → Option Value} (T : Tx K mg) : Binds K (fdD K (pad "property" "Phase" "text" K)) P_Phase_text [] := T.F_Phase_text.bindsN fun _ _ _ _ _ _ us hl => match us, hl with | [_], _ => rfl
theorem bd_Book_of {K : PySem.W.Frag} {mg : Str → Option Value} (T : Tx K mg) : Binds K (fdD K (pad "classmethod" "Book" "of" K)) P_Book_of [] := T.F_Book_of.bindsN fun _ _ _ _ _ _ us hl => match us, hl with | [_, _], _ => rfl
theorem bd_Book_len {K : PySem.W.Frag} {mg : Str → Option Value} (T : Tx K mg) : Binds K (fdD K (mad "Book" "__len__" K)) P_Book_len [] := T.F_Book_len.bindsN fun _ _ _ _ _ _ us hl => match us, hl with | [_], _ => rfl
theorem bd_Book_getitem {K : PySem.W.Frag} {mg : Str → Option Value} (T : Tx K mg) : Binds K (fdD K (mad "Book" "__getitem__" K)) P_Book_getitem [] := T.F_Book_getitem.bindsN fun _ _ _ _ _ _ us hl => match us, hl with | [_, _], _ => rfl
theorem bd_Book_setitem {K : PySem.W.Frag} {mg : Str → Option Value} (T : Tx K mg) : Binds K (fdD K (mad "Book" "__setitem__" K)) P_Book_setitem [] := T.F_Book_setitem.bindsN fun _ _ _ _ _ _ us hl => match us, hl with | [_, _, _], _ => rfl
theorem bd_Book_copy {K : PySem.W.Frag} {mg : Str → Option Value} (T : Tx K mg) : Binds K (fdD K (mad "Book" "copy" K)) P_Book_copy [] := T.F_Book_copy.bindsN fun _ _ _ _ _ _ us hl => match us, hl with | [_], _ => rfl
theorem bd_Book_text {K : PySem.W.Frag} {mg : Str → Option Value} (T : Tx K mg) : Binds K (fdD K (pad "property" "Book" "text" K)) P_Book_text [] := T.F_Book_text.bindsN fun _ _ _ _ _ _ us hl => match us, hl with | [_], _ => rfl
theorem bd0_Store_init {K : PySem.W.Frag} {mg : Str → Option Value} (T : Tx K mg) : ∃ ds, Vals (([("slots", V.int (1)), ("hands", V.int (2))] : List (Str × V)).map (·.2)) ds ∧ Binds K (fdD K (mad "Store" "__init__" K)) P_Store_init ds := T.F_Store_init.binds0 2 (by simp) rfl (fun D doc pm an cdv ct us ks h1 h2 => match us, ks, h1, h2 with | [_, _], [_, _], _, _ => ⟨_, _, _, _, _, _, rfl, rfl, ⟨_, _, _, _, _, _, rfl, rfl, rfl⟩⟩)
theorem bd_Store_row {K : PySem.W.Frag} {mg : Str → Option Value} (T : Tx K mg) : Binds K (fdD K (pad "property" "Store" "row" K)) P_Store_row [] := T.F_Store_row.bindsN fun _ _ _ _ _ _ us hl => match us, hl with | [_], _ => rfl
theorem bd_Store_turns {K : PySem.W.Frag} {mg : Str → Option Value} (T : Tx K mg) : Binds K (fdD K (pad "property" "Store" "turns" K)) P_Store_turns [] := T.F_Store_turns.bindsN fun _ _ _ _ _ _ us hl => match us, hl with | [_], _ => rfl
theorem bd_Store_things {K : PySem.W.Frag} {mg : Str → Option Value} (T : Tx K mg) : Binds K (fdD K (pad "property" "Store" "things" K)) P_Store_things [] := T.F_Store_things.bindsN fun _ _ _ _ _ _ us hl => match us, hl with | [_], _ => rfl
theorem bd_Storecheck {K : PySem.W.Frag} {mg : Str → Option Value} (T : Tx K mg) : Binds K (fdD K (mad "Store" "_check" K)) P_Storecheck [] := T.F_Storecheck.bindsN fun _ _ _ _ _ _ us hl => match us, hl with | [_, _, _, _], _ => rfl
theorem bd_Storecheck_idle {K : PySem.W.Frag} {mg : Str → Option Value} (T : Tx K mg) : Binds K (fdD K (mad "Store" "_check_idle" K)) P_Storecheck_idle [] := T.F_Storecheck_idle.bindsN fun _ _ _ _ _ _ us hl => match us, hl with | [_, _], _ => rfl
theorem bd_Storeheld {K : PySem.W.Frag} {mg : Str → Option Value} (T : Tx K mg) : Binds K (fdD K (mad "Store" "_held" K)) P_Storeheld [] := T.F_Storeheld.bindsN fun _ _ _ _ _ _ us hl => match us, hl with | [_, _], _ => rfl
theorem bd_Storeleft {K : PySem.W.Frag} {mg : Str → Option Value} (T : Tx K mg) : Binds K (fdD K (mad "Store" "_left" K)) P_Storeleft [] := T.F_Storeleft.bindsN fun _ _ _ _ _ _ us hl => match us, hl with | [_, _], _ => rfl
theorem bd_Store_slot {K : PySem.W.Frag} {mg : Str → Option Value} (T : Tx K mg) : Binds K (fdD K (mad "Store" "slot" K)) P_Store_slot [] := T.F_Store_slot.bindsN fun _ _ _ _ _ _ us hl => match us, hl with | [_, _], _ => rfl
theorem bd_Store_hand {K : PySem.W.Frag} {mg : Str → Option Value} (T : Tx K mg) : Binds K (fdD K (mad "Store" "hand" K)) P_Store_hand [] := T.F_Store_hand.bindsN fun _ _ _ _ _ _ us hl => match us, hl with | [_, _], _ => rfl
theorem bd_Store_mending {K : PySem.W.Frag} {mg : Str → Option Value} (T : Tx K mg) : Binds K (fdD K (mad "Store" "mending" K)) P_Store_mending [] := T.F_Store_mending.bindsN fun _ _ _ _ _ _ us hl => match us, hl with | [_, _], _ => rfl
theorem bd_Store_visited {K : PySem.W.Frag} {mg : Str → Option Value} (T : Tx K mg) : Binds K (fdD K (mad "Store" "visited" K)) P_Store_visited [] := T.F_Store_visited.bindsN fun _ _ _ _ _ _ us hl => match us, hl with | [_, _], _ => rfl
theorem bd_Store_place_of {K : PySem.W.Frag} {mg : Str → Option Value} (T : Tx K mg) : Binds K (fdD K (mad "Store" "place_of" K)) P_Store_place_of [] := T.F_Store_place_of.bindsN fun _ _ _ _ _ _ us hl => match us, hl with | [_, _], _ => rfl
theorem bd_Store_make {K : PySem.W.Frag} {mg : Str → Option Value} (T : Tx K mg) : Binds K (fdD K (mad "Store" "make" K)) P_Store_make [] := T.F_Store_make.bindsN fun _ _ _ _ _ _ us hl => match us, hl with | [_, _], _ => rfl
theorem bd_Store_write {K : PySem.W.Frag} {mg : Str → Option Value} (T : Tx K mg) : Binds K (fdD K (mad "Store" "write" K)) P_Store_write [] := T.F_Store_write.bindsN fun _ _ _ _ _ _ us hl => match us, hl with | [_, _, _], _ => rfl
theorem bd_Store_use {K : PySem.W.Frag} {mg : Str → Option Value} (T : Tx K mg) : Binds K (fdD K (mad "Store" "use" K)) P_Store_use [] := T.F_Store_use.bindsN fun _ _ _ _ _ _ us hl => match us, hl with | [_, _], _ => rfl
theorem bd_l_calm {K : PySem.W.Frag} {mg : Str → Option Value} (T : Tx K mg) : Binds K (fdD K (gad "_law_calm" K)) P_l_calm [] := T.F_l_calm.bindsN fun _ _ _ _ _ _ us hl => match us, hl with | [_, _, _], _ => rfl
theorem bd_l_rows {K : PySem.W.Frag} {mg : Str → Option Value} (T : Tx K mg) : Binds K (fdD K (gad "_law_rows" K)) P_l_rows [] := T.F_l_rows.bindsN fun _ _ _ _ _ _ us hl => match us, hl with | [_, _], _ => rfl
theorem bd_l_phase {K : PySem.W.Frag} {mg : Str → Option Value} (T : Tx K mg) : Binds K (fdD K (gad "_law_phase" K)) P_l_phase [] := T.F_l_phase.bindsN fun _ _ _ _ _ _ us hl => match us, hl with | [_], _ => rfl
theorem bd_l_book {K : PySem.W.Frag} {mg : Str → Option Value} (T : Tx K mg) : Binds K (fdD K (gad "_law_book" K)) P_l_book [] := T.F_l_book.bindsN fun _ _ _ _ _ _ us hl => match us, hl with | [_], _ => rfl
theorem bd_l_equal {K : PySem.W.Frag} {mg : Str → Option Value} (T : Tx K mg) : Binds K (fdD K (gad "_law_equal" K)) P_l_equal [] := T.F_l_equal.bindsN fun _ _ _ _ _ _ us hl => match us, hl with | [_, _], _ => rfl
theorem bd_l_value {K : PySem.W.Frag} {mg : Str → Option Value} (T : Tx K mg) : Binds K (fdD K (gad "_law_value" K)) P_l_value [] := T.F_l_value.bindsN fun _ _ _ _ _ _ us hl => match us, hl with | [_, _], _ => rfl
theorem bd_l_done {K : PySem.W.Frag} {mg : Str → Option Value} (T : Tx K mg) : Binds K (fdD K (gad "_law_done" K)) P_l_done [] := T.F_l_done.bindsN fun _ _ _ _ _ _ us hl => match us, hl with | [_, _, _, _], _ => rfl
theorem bd_l_missing {K : PySem.W.Frag} {mg : Str → Option Value} (T : Tx K mg) : Binds K (fdD K (gad "_law_missing" K)) P_l_missing [] := T.F_l_missing.bindsN fun _ _ _ _ _ _ us hl => match us, hl with | [_, _, _], _ => rfl
theorem bd_l_held {K : PySem.W.Frag} {mg : Str → Option Value} (T : Tx K mg) : Binds K (fdD K (gad "_law_held" K)) P_l_held [] := T.F_l_held.bindsN fun _ _ _ _ _ _ us hl => match us, hl with | [_, _, _], _ => rfl
theorem bd_l_one_number {K : PySem.W.Frag} {mg : Str → Option Value} (T : Tx K mg) : Binds K (fdD K (gad "_law_one_number" K)) P_l_one_number [] := T.F_l_one_number.bindsN fun _ _ _ _ _ _ us hl => match us, hl with | [_, _, _, _], _ => rfl
theorem bd_law {K : PySem.W.Frag} {mg : Str → Option Value} (T : Tx K mg) : Binds K (fdD K (gad "law" K)) P_law [] := T.F_law.bindsN fun _ _ _ _ _ _ us hl => match us, hl with | [_], _ => rfl
def looseAll : List Str := (["_wall", "RoundError", "BadRef", "BadBook", "BadPhase", "Refused", "NoSuch", "Busy", "Empty", "Wrong", "Stale", "Dropped", "Lost", "HUES", "LOW_BITS", "Ref", "Store", "BARRIERS", "MOST_HUE", "MOST_STAND", "Phase", "Book", "_law_is", "_law_int", "_law_pool", "_law_take", "_law_raw", "_law_calm", "_law_rows", "_law_phase"] : List Str) ++ (["_law_book", "_law_equal", "_law_value", "_law_done", "_law_missing", "_law_held", "_law_one_number"] : List Str)
abbrev Rr : PySem.W.OpenRow := PySem.W.OpenLaw.row PySem.Challenge.rw_huerounds_k16_makes_and_writes
abbrev hkA : PySem.W.Hook := hookM 6 faAll fxAll dsAll
def obA (s : PySem.W.SharedT) : AlX := obsMG 6 faAll fxAll dsAll (HandSHeadRun.getT s)
theorem obA_eq (s : PySem.W.SharedT) : obA s = hkA.obs s.abs := obsMG_eq (HandSHeadRun.getT_eq s)
theorem runA (w : World) : HandSHeadRun.RunEq Rr (PySem.W.view Rr.prog [42]) hkA obA 8000 looseAll w := by
  intro os
  kernel_rfl

theorem kb_Phase_barrier_visits_pauses_stand_skips {K : PySem.W.Frag} {mg : Str → Option Value} (T : Tx K mg) : ∃ g, KBn K (fdD K (mad "Phase" "__init__" K)) P_Phase_init 2 ["barrier", "visits", "pauses", "stand", "skips"] g (fun us zs => us ++ ((zs.drop 0).take 1 ++ ((zs.drop 1).take 1 ++ ((zs.drop 2).take 1 ++ ((zs.drop 3).take 1 ++ ((zs.drop 4).take 1)))))) := by
  obtain ⟨mv, h⟩ := FunD.kbinds0 (ps := P_Phase_init) T.F_Phase_init 2 ["barrier", "visits", "pauses", "stand", "skips"] ([] : List (Str × V)) (fun us mz zs => us ++ ((zs.drop 0).take 1 ++ ((zs.drop 1).take 1 ++ ((zs.drop 2).take 1 ++ ((zs.drop 3).take 1 ++ ((zs.drop 4).take 1)))))) (by simp) (by simp) (fun r1 r2 r3 => Vals.append r1 (Vals.append (Vals.take 1 (Vals.drop 0 r3)) (Vals.append (Vals.take 1 (Vals.drop 1 r3)) (Vals.append (Vals.take 1 (Vals.drop 2 r3)) (Vals.append (Vals.take 1 (Vals.drop 3 r3)) (Vals.take 1 (Vals.drop 4 r3)))))))
    (fun D doc pm an cdv ct us mv ws h1 h2 h3 => match us, mv, ws, h1, h2, h3 with | [_, _], [], [_, _, _, _, _], _, _, _ => rfl)
  exact ⟨_, h⟩
local macro_rules | `(tactic| walk_at "hp") => `(tactic| first
  | assumption
  | exact upd_same
  | (refine upd_old (by assumption) ?_; walk_at "hp")
  | (refine upd_oth (by assumption) ?_; walk_at "hp")
  | (refine same_get (by assumption) ?_; walk_at "hp")
  | (refine Fl.get (by assumption) (by assumption) ?_; walk_at "hp"))
local macro_rules | `(tactic| walk_at "seq") => `(tactic| first
  | assumption
  | exact T.t_BARRIERS _
  | exact SqL.of (by walk_at "hp")
  | exact SqT.of (by walk_at "hp"))
local macro_rules | `(tactic| walk_at "len") => `(tactic| first
  | exact Or.inl (by walk_at "seq")
  | exact Or.inr (by walk_at "seq"))
local macro_rules | `(tactic| walk_at "at") => `(tactic| first
  | rfl
  | assumption)

/-! ### drawn numbers -/
/-- all but l stands as it stood -/
def Fl (l : Addr) (H H' : Hp) : Prop := ∀ a o, a ≠ l → H a = some o → H' a = some o
theorem Fl.refl (l : Addr) (H : Hp) : Fl l H H := fun _ _ _ h => h
theorem Fl.trans {l : Addr} {H H1 H2 : Hp} (a : Fl l H H1) (b : Fl l H1 H2) : Fl l H H2 := fun c o n h => b c o n (a c o n h)
theorem Fl.cell {l : Addr} {H : Hp} {o : HO} : Fl l H (L2.upd H l o) := fun _ _ n h => upd_oth n h
theorem Fl.same {l : Addr} {H H' : Hp} (e : Same H H') : Fl l H H' := fun a o _ h => e a o h
theorem Fl.new {l p : Addr} {H : Hp} {o : HO} (n : H p = none) : Fl l H (L2.upd H p o) := fun _ _ _ h => upd_old n h
theorem Fl.add {l p : Addr} {H H' : Hp} {o : HO} (e : Fl l H H') (n : H' p = none) : Fl l H (L2.upd H' p o) := e.trans (Fl.new n)
theorem Fl.put {l : Addr} {H H' : Hp} {o : HO} (e : Fl l H H') : Fl l H (L2.upd H' l o) := e.trans Fl.cell
theorem Fl.get {l a : Addr} {H H' : Hp} {o : HO} (e : Fl l H H') (n : a ≠ l) (h : H a = some o) : H' a = some o := e a o n h
theorem Fl.free {l p : Addr} {H H' : Hp} (e : Fl l H H') (n : p ≠ l) (h : H' p = none) : H p = none := by
  cases q : H p with
  | none => rfl
  | some o => rw [e p o n q] at h; cases h
theorem Fl.seq {K : PySem.W.Frag} {l a : Addr} {H H' : Hp} {xs : List V} (e : Fl l H H') (n : a ≠ l) (h : SqL K H a xs) : SqL K H' a xs := by
  rcases h with (h | ⟨o, h⟩) | h
  · exact .inl (.inl (e _ _ n h))
  · exact .inl (.inr ⟨o, e _ _ n h⟩)
  · exact .inr h
/-- a pool of drawn numbers stands at l -/
def PoolAt (H : Hp) (l : Addr) : Prop := ∃ ns : List Int, H l = some (.lst (ns.map V.int)) ∧ ns.length ≤ 5000
theorem PoolAt.upd {H : Hp} {l p : Addr} {o : HO} (h : PoolAt H l) (n : H p = none) : PoolAt (L2.upd H p o) l := by
  obtain ⟨ns, h1, h2⟩ := h
  exact ⟨ns, upd_old n h1, h2⟩
theorem PoolAt.ne {H : Hp} {l p : Addr} (h : PoolAt H l) (n : H p = none) : p ≠ l := by
  obtain ⟨ns, h1, _⟩ := h
  exact (ne_of_none h1 n).symm
/-- a pool drawn from: a number below m, l alone is changed -/
def spPool (K : PySem.W.Frag) : Sp := fun vs H Q _ => ∃ (a : Addr) (ns : List Int), vs = [.ref a] ∧ SqL K H a (ns.map V.int) ∧ ns.length ≤ 63 ∧
  ∀ p H', H p = none → Same H H' → PoolAt H' p → Q (.ref p) H'
def spTake : Sp := fun vs H Q _ => ∃ (l : Addr) (m : Int), vs = [.ref l, .int m] ∧ PoolAt H l ∧ 0 < m ∧
  ∀ v H', 0 ≤ v → v < m → Fl l H H' → PoolAt H' l → Q (.int v) H'
def spNumber : Sp := fun vs H Q _ => ∃ (l : Addr), vs = [.ref l] ∧ PoolAt H l ∧ ∀ v H', 0 ≤ v → v.toNat < 2 ^ 200 → Fl l H H' → PoolAt H' l → Q (.int v) H'
section
variable {P : Program} [SupP P pFile] {w : World} {K : PySem.W.Frag} {mg : Str → Option Value} {base : Heap}
theorem ok_l_pool (T : Tx K mg) : FnOk P w K mg base CX0 1 (gad "_law_pool" K) (fdD K (gad "_law_pool" K)) P_l_pool (spPool K) := by
  refine T.F_l_pool.ok sc_l_pool (fun vs H Q E h => ?_) (fun cdv A outer s H vs Q E hr h => ?_)
  · obtain ⟨a, ns, rfl, _⟩ := h; rfl
  · obtain ⟨a, ns, rfl, hS, hlen, k⟩ := h
    refine ⟨_, PSs.nox ((pss_cons (ps_set (i := 1) sc_l_pool.nd rfl (Or.inl rfl) (pe_lst pa_nil))
      (pss_cons (ps_set (i := 2) sc_l_pool.nd rfl (Or.inl rfl) pe_int)
      (pss_cons (ps_for PassesOwn.never rfl (pi_list (pv 0)) (pg_name (i := 3) sc_l_pool.nd rfl (Or.inl rfl)) (pss_cons (ps_set (i := 4) sc_l_pool.nd rfl (Or.inl rfl) (pe_callB call_abs (by rfl) T.n_abs (by decide +kernel) (pa_cons (pe_callTy call_intI (by rfl) T.n_int (by decide +kernel) (pa_cons (pv 3) pa_nil)) pa_nil)))
      (pss_cons (ps_set (i := 2) sc_l_pool.nd rfl (Or.inl rfl) (pe_op op_mod (pe_callTy call_intI (by rfl) T.n_int (by decide +kernel) (pa_cons (pe_op op_add (pe_op op_mul (pv 2) pe_int) (pe_callTy call_intI (by rfl) T.n_int (by decide +kernel) (pa_cons (pv 3) pa_nil))) pa_nil)) pe_int))
      (pss_one (ps_if (pt_cmpR op_ge (pv 4) (pe_op op_pow pe_int pe_int) (nomark _)) (pss_one (ps_for PassesOwn.never rfl (pi_range1 (by rfl) T.n_range (pa_cons pe_int pa_nil)) (pg_name (i := 5) sc_l_pool.nd rfl (Or.inl rfl)) (pss_one (ps_if (pt_cmpR op_gt (pv 4) pe_int (nomark _)) (pss_cons (ps_expr (pe_bm PySem.F.plainAttrs_list PySem.F.slot_list_append PySem.F.type_list_append mt_append (pv 1) (pa_cons (pe_op op_mod (pe_callTy call_intI (by rfl) T.n_int (by decide +kernel) (pa_cons (pv 4) pa_nil)) pe_int) pa_nil)))
      (pss_one (ps_set (i := 4) sc_l_pool.nd rfl (Or.inl rfl) (pe_op op_fdiv (pv 4) pe_int)))) pss_nil)))) (pss_one (ps_for PassesOwn.never rfl (pi_range1 (by rfl) T.n_range (pa_cons pe_int pa_nil)) (pg_name (i := 5) sc_l_pool.nd rfl (Or.inl rfl)) (pss_cons (ps_set (i := 6) sc_l_pool.nd rfl (Or.inl rfl) (pe_op op_mod (pe_callTy call_intI (by rfl) T.n_int (by decide +kernel) (pa_cons (pe_op op_add (pe_op op_add (pe_op op_add (pe_op op_mul (pv 4) pe_int) (pe_op op_mul (pv 5) pe_int)) (pe_op op_mul pe_int (pe_callTy call_intB (by rfl) T.n_int (by decide +kernel) (pa_cons (pe_cmpR op_lt (pv 3) pe_int (nomark _)) pa_nil)))) pe_int) pa_nil)) pe_int))
      (pss_one (ps_expr (pe_bm PySem.F.plainAttrs_list PySem.F.slot_list_append PySem.F.type_list_append mt_append (pv 1) (pa_cons (pe_op op_mod (pe_callTy call_intI (by rfl) T.n_int (by decide +kernel) (pa_cons (pe_op op_mul (pv 6) (pv 6)) pa_nil)) pe_int) pa_nil))))))))))))
      (pss_cons (ps_for PassesOwn.never rfl (pi_range1 (by rfl) T.n_range (pa_cons (pe_op op_mul pe_int (pe_callTy call_intB (by rfl) T.n_int (by decide +kernel) (pa_cons (pe_cmpR op_gt (pe_callB call_len_seq (by rfl) T.n_len (by decide +kernel) (pa_cons (pv 0) pa_nil)) pe_int (nomark _)) pa_nil))) pa_nil)) (pg_name (i := 5) sc_l_pool.nd rfl (Or.inl rfl)) (pss_cons (ps_set (i := 2) sc_l_pool.nd rfl (Or.inl rfl) (pe_op op_mod (pe_callTy call_intI (by rfl) T.n_int (by decide +kernel) (pa_cons (pe_op op_add (pe_op op_mul (pv 2) pe_int) pe_int) pa_nil)) pe_int))
      (pss_one (ps_expr (pe_bm PySem.F.plainAttrs_list PySem.F.slot_list_append PySem.F.type_list_append mt_append (pv 1) (pa_cons (pe_op op_mod (pe_callTy call_intI (by rfl) T.n_int (by decide +kernel) (pa_cons (pe_op op_fdiv (pv 2) pe_int) pa_nil)) pe_int) pa_nil))))))
      (pss_one (ps_ret (pv 1)))))))), ?_⟩
    refine ⟨by decide, fun l nl => ?_⟩
    refine ⟨_, rfl, a, rfl, ⟨_, (Same.new nl).seq hS⟩, for_list (K := K) (a := a) (xs := ns.map V.int)
      (fun i σ H' => ∃ (qs : List Int) (mix : Int) (c n q d : Option V), σ = [some (.ref a), some (.ref l), some (.int mix), c, n, q, d] ∧ Same H H' ∧ H' l = some (.lst (qs.map V.int)) ∧ qs.length ≤ 60 * i)
      ⟨[], 7, none, none, none, none, rfl, Same.new nl, upd_same, Nat.zero_le _⟩ (fun i σ H' _ ⟨_, _, _, _, _, _, _, S, _⟩ => S.seq hS) ?_ ?_⟩
    · rintro i y σ H1 hi ⟨qs, mix, c, n, q, d, rfl, S, hl, hz⟩
      have hi63 : i < 63 := by
        have z := (List.getElem?_eq_some_iff.mp hi).1
        rw [List.length_map] at z
        omega
      obtain ⟨u, rfl⟩ : ∃ u, y = V.int u := by
        rw [List.getElem?_map] at hi
        cases e : ns[i]? with
        | none => rw [e] at hi; cases hi
        | some u => rw [e] at hi; exact ⟨u, (Option.some.inj hi).symm⟩
      refine ⟨_, rfl, _, rfl, _, rfl, _, rfl, _, _, rfl, rfl, (.inr ⟨by decide, by decide⟩), _, rfl, _, rfl, _, _, rfl, rfl, _, rfl, _, _, rfl, rfl, (show (0 : Int) < 2147483647 by decide), _, rfl, _, _, rfl, rfl, ⟨by decide, by decide, by decide⟩, _, _, rfl, rfl, _, rfl, ?_⟩
      refine iteB (fun _ => ?_) (fun _ => ?_)
      · refine ⟨60, rfl, by decide, by decide, for_range (n := 60)
          (fun j σ H' => ∃ (qs : List Int) (mix n : Int) (c q d : Option V), σ = [some (.ref a), some (.ref l), some (.int mix), c, some (.int n), q, d] ∧ Same H H' ∧ H' l = some (.lst (qs.map V.int)) ∧ qs.length ≤ 60 * i + j)
          ⟨qs, _, _, _, _, _, rfl, S, hl, hz⟩ ?_ ?_⟩
        · rintro j σ H2 hj ⟨qs, mix, n, c, q, d, rfl, S, hl, hz⟩
          refine ⟨_, rfl, _, _, rfl, rfl, _, rfl, ?_⟩
          refine iteB (fun _ => ?_) (fun _ => ?_)
          · refine ⟨_, rfl, .inl ⟨rfl, _, SqL.of hl⟩, _, rfl, _, rfl, _, _, rfl, rfl, (show (0 : Int) < 1000003 by decide), _, _, _, rfl, rfl, hl, (by rw [List.length_map]; exact Nat.lt_of_le_of_lt (show qs.length ≤ 4000 by omega) (by decide)), _, rfl, _, _, rfl, rfl, ⟨by decide, by decide⟩, ?_⟩
            refine ⟨qs ++ [n % 1000003], _, _, _, _, _, rfl, fun b o e => ?_, by rw [upd_same, List.map_append]; rfl, by rw [List.length_append, List.length_singleton]; omega⟩
            rw [upd_ne (ne_of_none e nl)]
            exact S b o e
          · exact ⟨qs, _, _, _, _, _, rfl, S, hl, by omega⟩
        · rintro σ H2 ⟨qs, mix, n, c, q, d, rfl, S, hl, hz⟩
          exact ⟨qs, _, _, _, _, _, rfl, S, hl, by omega⟩
      · refine ⟨3, rfl, by decide, by decide, for_range (n := 3)
          (fun j σ H' => ∃ (qs : List Int) (mix n u : Int) (q d : Option V), σ = [some (.ref a), some (.ref l), some (.int mix), some (.int u), some (.int n), q, d] ∧ Same H H' ∧ H' l = some (.lst (qs.map V.int)) ∧ qs.length ≤ 60 * i + j)
          ⟨qs, _, _, _, _, _, rfl, S, hl, hz⟩ ?_ ?_⟩
        · rintro j σ H2 hj ⟨qs, mix, n, u, q, d, rfl, S, hl, hz⟩
          refine ⟨_, rfl, _, _, rfl, rfl, (.inr ⟨by decide, by decide⟩), _, rfl, _, _, rfl, rfl, (.inr ⟨by decide, by decide⟩), _, _, rfl, rfl, _, rfl, _, _, rfl, rfl, _, rfl, _, _, rfl, rfl, (.inl ⟨by decide, by decide⟩), _, _, rfl, rfl, _, _, rfl, rfl, _, rfl, _, _, rfl, rfl, (show (0 : Int) < 2147483647 by decide), _, rfl, .inl ⟨rfl, _, SqL.of hl⟩, _, rfl, _, rfl, _, _, rfl, rfl, .inl ?_, _, rfl, _, _, rfl, rfl, (show (0 : Int) < 1000003 by decide), _, _, _, rfl, rfl, hl, (by rw [List.length_map]; exact Nat.lt_of_le_of_lt (show qs.length ≤ 4000 by omega) (by decide)), ?_⟩
          · constructor <;> omega
          · refine ⟨qs ++ [_], _, _, _, _, _, rfl, fun b o e => ?_, by rw [upd_same, List.map_append]; rfl, by rw [List.length_append, List.length_singleton]; omega⟩
            rw [upd_ne (ne_of_none e nl)]
            exact S b o e
        · rintro σ H2 ⟨qs, mix, n, u, q, d, rfl, S, hl, hz⟩
          exact ⟨qs, _, _, _, _, _, rfl, S, hl, by omega⟩
    · rintro σ H1 ⟨qs, mix, c, n, q, d, rfl, S, hl, hz⟩
      rw [List.length_map] at hz
      refine ⟨_, rfl, _, _, rfl, .inl (S.seq hS), _, _, rfl, rfl, _, rfl, _, _, rfl, rfl, (.inl ⟨by decide, by decide⟩), ?_⟩
      refine ⟨_, rfl, by split <;> decide, by split <;> decide, for_range (n := _)
          (fun j σ H' => ∃ (qs : List Int) (mix : Int) (c n q d : Option V), σ = [some (.ref a), some (.ref l), some (.int mix), c, n, q, d] ∧ Same H H' ∧ H' l = some (.lst (qs.map V.int)) ∧ qs.length ≤ 4000 + j)
          ⟨qs, _, _, _, _, _, rfl, S, hl, by omega⟩ ?_ ?_⟩
      · rintro j σ H2 hj ⟨qs, mix, c, n, q, d, rfl, S, hl, hz⟩
        have hj2 : j < 240 := by
          revert hj
          split <;> omega
        refine ⟨_, rfl, _, _, rfl, rfl, (.inr ⟨by decide, by decide⟩), _, _, rfl, rfl, _, rfl, _, _, rfl, rfl, (show (0 : Int) < 2147483647 by decide), _, rfl, .inl ⟨rfl, _, SqL.of hl⟩, _, rfl, _, _, rfl, rfl, ⟨by decide, by decide⟩, _, rfl, _, _, rfl, rfl, (show (0 : Int) < 1000003 by decide), _, _, _, rfl, rfl, hl, (by rw [List.length_map]; exact Nat.lt_of_le_of_lt (show qs.length ≤ 5000 by omega) (by decide)), ?_⟩
        refine ⟨qs ++ [_], _, _, _, _, _, rfl, fun b o e => ?_, by rw [upd_same, List.map_append]; rfl, by rw [List.length_append, List.length_singleton]; omega⟩
        rw [upd_ne (ne_of_none e nl)]
        exact S b o e
      · rintro σ H2 ⟨qs, mix, c, n, q, d, rfl, S, hl, hz⟩
        refine ⟨_, rfl, k l H2 nl S ⟨qs, hl, ?_⟩⟩
        revert hz
        split <;> (simp only [Int.mul_one, Int.mul_zero]; intro hz; omega)
theorem seq0 {n : Nat} {m : Nat} (h : n = m + 1) : seqIndex? 0 n = some 0 := by
  subst h
  unfold seqIndex?
  simp
  try omega
theorem ok_l_take (T : Tx K mg) : FnOk P w K mg base CX0 1 (gad "_law_take" K) (fdD K (gad "_law_take" K)) P_l_take spTake := by
  refine T.F_l_take.ok sc_l_take (fun vs H Q E h => ?_) (fun cdv A outer s H vs Q E hr h => ?_)
  · obtain ⟨l, m, rfl, _⟩ := h; rfl
  · obtain ⟨l, m, rfl, ⟨ns, hl, hz⟩, hm, k⟩ := h
    refine ⟨_, PSs.nox ((pss_cons (ps_if (pt_cmpR op_eq (pe_callB call_len_seq (by rfl) T.n_len (by decide +kernel) (pa_cons (pv 0) pa_nil)) pe_int (nomark _)) (pss_one (ps_ret pe_int)) pss_nil)
      (pss_one (ps_ret (pe_op op_mod (pe_callTy call_intI (by rfl) T.n_int (by decide +kernel) (pa_cons (pe_bm PySem.F.plainAttrs_list PySem.F.slot_list_pop PySem.F.type_list_pop mt_popAt (pv 0) (pa_cons pe_int pa_nil)) pa_nil)) (pv 1)))))), ?_⟩
    refine ⟨_, rfl, _, _, rfl, (by walk_at "len"), rfl, _, rfl, ?_⟩
    cases ns with
    | nil =>
      refine iteT ?_
      exact k 0 H (Int.le_refl _) hm (Fl.refl _ _) ⟨[], hl, hz⟩
    | cons n t =>
      refine iteB (fun c => ?_) (fun _ => ?_)
      · have c1 := of_decide_eq_true c
        injection c1 with c2
        simp only [List.map_cons, List.length_cons] at c2
        omega
      · refine ⟨_, rfl, .inl ⟨rfl, _, SqL.of hl⟩, _, _, _, 0, _, rfl, rfl, hl, by decide, by decide, seq0 (m := t.length) (by simp), rfl, _, rfl, _, rfl, _, _, rfl, rfl, hm, ?_⟩
        exact k _ _ (Int.emod_nonneg _ (by omega)) (Int.emod_lt_of_pos _ hm) Fl.cell ⟨t, upd_same, by simp only [List.length_cons] at hz; omega⟩
end

/-! ### truth values asked; _law_is, _law_int -/
theorem few {f : Str} {v : V} {fs : List (Str × V)} {n : Nat} (h : fs.length < n) : (putF f v fs).length < n + 1 := Nat.lt_of_le_of_lt (length_putF f v fs) (Nat.succ_lt_succ h)
theorem iteD {p : Prop} [Decidable p] {A B : Prop} (h : p) (a : A) : if decide p = true then A else B := by rw [decide_eq_true h]; exact iteT a
theorem iteDN {p : Prop} [Decidable p] {A B : Prop} (h : ¬ p) (b : B) : if decide p = true then A else B := by rw [decide_eq_false h]; exact iteF b
theorem iteND {p : Prop} [Decidable p] {A B : Prop} (h : ¬ p) (a : A) : if (!decide p) = true then A else B := by rw [decide_eq_false h]; exact iteT a
theorem iteE {x : Bool} {A B : Prop} (e : x = false) (b : B) : if x = true then A else B := by rw [e]; exact iteF b
theorem iteY {x : Bool} {A B : Prop} (e : x = true) (a : A) : if x = true then A else B := by rw [e]; exact iteT a
def spIs : Sp := fun vs H Q _ => ∃ (x : V) (b : Bool), vs = [x, .bl b] ∧ (∃ c, x = .bl c ∧ Q (.bl (c == b)) H)
def spInt : Sp := fun vs H Q _ => ∃ i : Int, vs = [.int i] ∧ Q (.bl true) H
section
variable {P : Program} [SupP P pFile] {w : World} {K : PySem.W.Frag} {mg : Str → Option Value} {base : Heap}
theorem ok_l_int (T : Tx K mg) : FnOk P w K mg base CX0 1 (gad "_law_int" K) (fdD K (gad "_law_int" K)) P_l_int spInt := by
  refine T.F_l_int.ok sc_l_int (fun vs H Q E h => ?_) (fun cdv A outer s H vs Q E hr h => ?_)
  · obtain ⟨i, rfl, _⟩ := h; rfl
  · obtain ⟨i, rfl, k⟩ := h
    refine ⟨_, PSs.nox ((pss_one (ps_ret (pe_and (pe_callB call_isi (by rfl) T.n_isinstance (by decide +kernel) (pa_cons (pv 0) (pa_cons (pe_bty "int" rfl T.n_int (by decide +kernel)) pa_nil))) (pe_one (pe_not (pe_callB call_isi (by rfl) T.n_isinstance (by decide +kernel) (pa_cons (pv 0) (pa_cons (pe_bty "bool" rfl T.n_bool (by decide +kernel)) pa_nil))))))))), ?_⟩
    refine ⟨_, rfl, _, _, .type "int", .type "int", true, rfl, .ty _, .base (.int _), kit_ty (by decide +kernel), _, rfl, iteT ?_⟩
    exact ⟨_, rfl, _, _, .type "int", .type "bool", false, rfl, .ty _, .base (.int _), kit_ty (by decide +kernel), _, rfl, k⟩
theorem ok_l_is (T : Tx K mg) : FnOk P w K mg base CX0 1 (gad "_law_is" K) (fdD K (gad "_law_is" K)) P_l_is spIs := by
  refine T.F_l_is.ok sc_l_is (fun vs H Q E h => ?_) (fun cdv A outer s H vs Q E hr h => ?_)
  · obtain ⟨x, b, rfl, _⟩ := h; rfl
  · obtain ⟨x, b, rfl, c, rfl, k⟩ := h
    refine ⟨_, PSs.nox ((pss_one (ps_ret (pe_and (pe_callB call_isi (by rfl) T.n_isinstance (by decide +kernel) (pa_cons (pv 0) (pa_cons (pe_bty "bool" rfl T.n_bool (by decide +kernel)) pa_nil))) (pe_one (pe_cmpR op_eq (pv 0) (pv 1) (nomark _))))))), ?_⟩
    refine ⟨_, rfl, _, _, .type "bool", .type "bool", true, rfl, .ty _, .base (.bl _), kit_ty (by decide +kernel), _, rfl, iteT ?_⟩
    refine ⟨_, rfl, _, rfl, rfl, ?_⟩
    have e : decide (V.bl c = V.bl b) = (c == b) := by cases c <;> cases b <;> rfl
    show Q (.bl (decide (V.bl c = V.bl b))) H
    rw [e]
    exact k
end

/-! ### phases -/
inductive Bar where
  | none | follow | plain | guarded
  deriving DecidableEq
def Bar.s : Bar → Str
  | .none => "none"
  | .follow => "follow"
  | .plain => "plain"
  | .guarded => "guarded"
def barAt (i : Int) : Bar := if i = 0 then .none else if i = 1 then .follow else if i = 2 then .plain else .guarded
structure Ph where
  hue : Int
  bar : Bar
  vis : Bool
  pau : Bool
  std : Int
  skp : Bool
  deriving DecidableEq
structure Ph.Ok (r : Ph) : Prop where
  h0 : 0 ≤ r.hue
  h1 : r.hue ≤ 5
  s0 : 0 ≤ r.std
  s1 : r.std ≤ 7
/-- the fields as values: a row -/
def Ph.vs (r : Ph) : List V := [.int r.hue, .str r.bar.s, .bl r.vis, .bl r.pau, .int r.std, .bl r.skp]
abbrev barVs : List V := [V.str "none", V.str "follow", V.str "plain", V.str "guarded"]
theorem bar_in (b : Bar) : inV (.str b.s) barVs = true := by cases b <;> decide +kernel
theorem at_bar {i : Int} (h0 : 0 ≤ i) (h1 : i < 4) : atI barVs i = some (.str (barAt i).s) := by
  rcases (by omega : i = 0 ∨ i = 1 ∨ i = 2 ∨ i = 3) with rfl | rfl | rfl | rfl <;> rfl
/-- the attributes of a phase, in the order in which they are stored -/
def phF (r : Ph) : List (Str × V) := putF "skips" (.bl r.skp) (putF "stand" (.int r.std) (putF "pauses" (.bl r.pau) (putF "visits" (.bl r.vis) (putF "barrier" (.str r.bar.s) (putF "hue" (.int r.hue) [])))))
section
variable (r : Ph)
theorem ph_hue : (phF r).lookup ("hue" : Str) = some (.int r.hue) := by
  unfold phF
  simp only [lookup_putF]
  rw [if_neg (by decide +kernel), if_neg (by decide +kernel), if_neg (by decide +kernel), if_neg (by decide +kernel), if_neg (by decide +kernel), if_pos trivial]
theorem ph_barrier : (phF r).lookup ("barrier" : Str) = some (.str r.bar.s) := by
  unfold phF
  simp only [lookup_putF]
  rw [if_neg (by decide +kernel), if_neg (by decide +kernel), if_neg (by decide +kernel), if_neg (by decide +kernel), if_pos trivial]
theorem ph_visits : (phF r).lookup ("visits" : Str) = some (.bl r.vis) := by
  unfold phF
  simp only [lookup_putF]
  rw [if_neg (by decide +kernel), if_neg (by decide +kernel), if_neg (by decide +kernel), if_pos trivial]
theorem ph_pauses : (phF r).lookup ("pauses" : Str) = some (.bl r.pau) := by
  unfold phF
  simp only [lookup_putF]
  rw [if_neg (by decide +kernel), if_neg (by decide +kernel), if_pos trivial]
theorem ph_stand : (phF r).lookup ("stand" : Str) = some (.int r.std) := by
  unfold phF
  simp only [lookup_putF]
  rw [if_neg (by decide +kernel), if_pos trivial]
theorem ph_skips : (phF r).lookup ("skips" : Str) = some (.bl r.skp) := by
  unfold phF
  simp only [lookup_putF]
  rw [if_pos trivial]
theorem ph_no {m : Str} (h : ¬ (m = "skips" ∨ m = "stand" ∨ m = "pauses" ∨ m = "visits" ∨ m = "barrier" ∨ m = "hue")) : (phF r).lookup m = none := by
  unfold phF
  simp only [lookup_putF]
  rw [if_neg (fun z => h (by simp [z])), if_neg (fun z => h (by simp [z])), if_neg (fun z => h (by simp [z])), if_neg (fun z => h (by simp [z])), if_neg (fun z => h (by simp [z])), if_neg (fun z => h (by simp [z]))]
  rfl
end
/-- a phase stands at a -/
def PhAt (K : PySem.W.Frag) (H : Hp) (a : Addr) (r : Ph) : Prop := ∃ dx, H a = some (.ins (gad "Phase" K) dx (phF r))
theorem PhAt.fl {K : PySem.W.Frag} {H H' : Hp} {a l : Addr} {r : Ph} (h : PhAt K H a r) (e : Fl l H H') (n : a ≠ l) : PhAt K H' a r := by
  obtain ⟨dx, h⟩ := h
  exact ⟨dx, e _ _ n h⟩
theorem PhAt.same {K : PySem.W.Frag} {H H' : Hp} {a : Addr} {r : Ph} (h : PhAt K H a r) (e : Same H H') : PhAt K H' a r := by
  obtain ⟨dx, h⟩ := h
  exact ⟨dx, e _ _ h⟩
/-! ### promises -/
/-- a question to a phase that changes nothing -/
def spPh (K : PySem.W.Frag) (g : Ph → V) : Sp := fun vs H Q _ => ∃ (a : Addr) (r : Ph), vs = [.ref a] ∧ PhAt K H a r ∧ r.Ok ∧ Q (g r) H
/-- a row is drawn: a new tuple -/
def spRaw : Sp := fun vs H Q _ => ∃ (l : Addr), vs = [.ref l] ∧ PoolAt H l ∧
  ∀ (r : Ph) t H', r.Ok → H t = none → t ≠ l → Fl l H H' → PoolAt H' l → H' t = some (.tup r.vs) → Q (.ref t) H'
def badOf (h : Int) : Int := Builtin.bitXor 63 (1 * 2 ^ h.toNat)
section
variable {P : Program} [SupP P pFile] {w : World} {K : PySem.W.Frag} {mg : Str → Option Value} {base : Heap}
theorem ok_l_raw (T : Tx K mg) : FnOk P w K mg base CX0 3 (gad "_law_raw" K) (fdD K (gad "_law_raw" K)) P_l_raw spRaw := by
  refine T.F_l_raw.ok sc_l_raw (fun vs H Q E h => ?_) (fun cdv A outer s H vs Q E hr h => ?_)
  · obtain ⟨l, rfl, _⟩ := h; rfl
  · obtain ⟨l, rfl, hP, k⟩ := h
    refine ⟨_, PSs.nox ((pss_cons (ps_set (i := 1) sc_l_raw.nd rfl (Or.inl rfl) (pe_call (ok_l_take (P := P) T) (hr.mono (by decide)) rfl T.g_l_take T.F_l_take.kp (bd_l_take T) .nil pass0 (pa_cons (pv 0) (pa_cons pe_int pa_nil))))
      (pss_cons (ps_set (i := 2) sc_l_raw.nd rfl (Or.inl rfl) (pe_ix ix_list (pe_lst (pa_cons pe_str (pa_cons pe_str (pa_cons pe_str (pa_cons pe_str pa_nil))))) (pe_op op_mod (pe_callTy call_intI (by rfl) T.n_int (by decide +kernel) (pa_cons (pe_op op_fdiv (pv 1) pe_int) pa_nil)) pe_int) (fun _ _ => rfl)))
      (pss_cons (ps_set (i := 3) sc_l_raw.nd rfl (Or.inl rfl) (pe_callB (call_max2 rfl) (by rfl) T.n_max (by decide +kernel) (pa_cons pe_int (pa_cons (pe_op op_sub (pe_op op_mod (pe_callTy call_intI (by rfl) T.n_int (by decide +kernel) (pa_cons (pe_op op_fdiv (pv 1) pe_int) pa_nil)) pe_int) pe_int) pa_nil))))
      (pss_one (ps_ret (pe_tup (pa_cons (pe_op op_mod (pe_callTy call_intI (by rfl) T.n_int (by decide +kernel) (pa_cons (pv 1) pa_nil)) pe_int) (pa_cons (pv 2) (pa_cons (pe_cmpR op_eq (pe_op op_mod (pe_callTy call_intI (by rfl) T.n_int (by decide +kernel) (pa_cons (pe_op op_fdiv (pv 1) pe_int) pa_nil)) pe_int) pe_int (nomark _)) (pa_cons (pe_cmpR op_gt (pe_op op_mod (pe_callTy call_intI (by rfl) T.n_int (by decide +kernel) (pa_cons (pe_op op_fdiv (pv 1) pe_int) pa_nil)) pe_int) pe_int (nomark _)) (pa_cons (pv 3) (pa_cons (pe_cmpR op_eq (pe_op op_mod (pe_callTy call_intI (by rfl) T.n_int (by decide +kernel) (pa_cons (pe_op op_fdiv (pv 1) pe_int) pa_nil)) pe_int) pe_int (nomark _)) pa_nil))))))))))))), ?_⟩
    refine ⟨_, rfl, l, 1000003, rfl, hP, by decide, fun c H1 c0 c1 o1 P1 => ?_⟩
    have hb := at_bar (i := c / 6 % 4) (by omega) (by omega)
    refine ⟨(show (4 : Nat) ≤ sizeLine by decide), fun p1 np1 => ⟨_, rfl, _, _, rfl, rfl, ⟨by decide, by decide⟩, _, rfl, _, _, rfl, rfl, (show (0 : Int) < 4 by decide), _, _, _, _, rfl, rfl, SqL.of upd_same, hb, _, rfl, _, _, rfl, rfl, ⟨by decide, by decide⟩, _, rfl, _, _, rfl, rfl, (show (0 : Int) < 16 by decide), _, _, rfl, rfl, _, _, rfl, _, rfl, _, rfl, _, _, rfl, rfl, (show (0 : Int) < 6 by decide), _, rfl, _, rfl, _, _, rfl, rfl, ⟨by decide, by decide⟩, _, rfl, _, _, rfl, rfl, (show (0 : Int) < 2 by decide), rfl, _, rfl, _, _, rfl, rfl, ⟨by decide, by decide⟩, _, rfl, _, _, rfl, rfl, (show (0 : Int) < 4 by decide), _, _, rfl, rfl, _, rfl, _, rfl, _, _, rfl, rfl, ⟨by decide, by decide⟩, _, rfl, _, _, rfl, rfl, (show (0 : Int) < 5 by decide), rfl, (show (6 : Nat) ≤ sizeLine by decide), fun t nt => ?_⟩⟩
    have P2 := P1.upd (o := .lst barVs) np1
    refine k ⟨c % 6, barAt (c / 6 % 4), _, _, _, _⟩ t _ ⟨by show 0 ≤ c % 6; omega, by show c % 6 ≤ 5; omega, ?_, ?_⟩ ?_ (P2.ne nt) ((o1.add np1).add nt) (P2.upd nt) upd_same
    · show (0 : Int) ≤ if (c / 192 % 16 - 8) > 0 then _ else _
      split <;> omega
    · show (if (c / 192 % 16 - 8) > 0 then (c / 192 % 16 - 8) else 0) ≤ (7 : Int)
      split <;> omega
    · exact (o1.add np1).free (P2.ne nt) nt
end

/-! ### phases with any fields; Phase.__init__ with its refusals -/
structure Rw where
  hue : Int
  bar : Str
  vis : Bool
  pau : Bool
  std : Int
  skp : Bool
  deriving DecidableEq
def Rw.vs (r : Rw) : List V := [.int r.hue, .str r.bar, .bl r.vis, .bl r.pau, .int r.std, .bl r.skp]
def rwF (r : Rw) : List (Str × V) := putF "skips" (.bl r.skp) (putF "stand" (.int r.std) (putF "pauses" (.bl r.pau) (putF "visits" (.bl r.vis) (putF "barrier" (.str r.bar) (putF "hue" (.int r.hue) [])))))
def Ph.rw (r : Ph) : Rw := ⟨r.hue, r.bar.s, r.vis, r.pau, r.std, r.skp⟩
theorem Ph.rwF (r : Ph) : rwF r.rw = phF r := rfl
def barIn (b : Str) : Bool := inV (.str b) barVs
/-- the first bad field -/
def Rw.bad (r : Rw) : Option Str := if 0 ≤ r.hue ∧ r.hue ≤ 5 then (if barIn r.bar = true then (if 0 ≤ r.std ∧ r.std ≤ 7 then none else some "stand") else some "barrier") else some "hue"
theorem Ph.good {r : Ph} (ok : r.Ok) : r.rw.bad = none := by
  unfold Rw.bad
  rw [if_pos (show 0 ≤ r.rw.hue ∧ r.rw.hue ≤ 5 from ⟨ok.h0, ok.h1⟩), if_pos (show barIn r.rw.bar = true from bar_in r.bar), if_pos (show 0 ≤ r.rw.std ∧ r.rw.std ≤ 7 from ⟨ok.s0, ok.s1⟩)]
theorem bar_of {b : Str} (h : barIn b = true) : ∃ q : Bar, b = q.s := by
  have e : ∀ (x y : Str), eqV (.str x) (.str y) = true → x = y := fun x y h => eq_of_beq h
  unfold barIn inV at h
  rcases List.any_eq_true.mp h with ⟨v, hv, h2⟩
  simp only [List.mem_cons, List.not_mem_nil, or_false] at hv
  rcases hv with rfl | rfl | rfl | rfl
  · exact ⟨.none, (e _ _ h2).symm⟩
  · exact ⟨.follow, (e _ _ h2).symm⟩
  · exact ⟨.plain, (e _ _ h2).symm⟩
  · exact ⟨.guarded, (e _ _ h2).symm⟩
/-- what is not refused is a phase -/
theorem Rw.good {r : Rw} (h : r.bad = none) : ∃ p : Ph, p.Ok ∧ p.rw = r := by
  unfold Rw.bad at h
  split at h
  · rename_i h1
    split at h
    · rename_i h2
      split at h
      · rename_i h3
        obtain ⟨q, e⟩ := bar_of h2
        obtain ⟨a, b, c, d, f, g⟩ := r
        dsimp only at e h1 h3
        subst e
        exact ⟨⟨a, q, c, d, f, g⟩, ⟨h1.1, h1.2, h3.1, h3.2⟩, rfl⟩
      · cases h
    · cases h
  · cases h
/-- BadPhase, of the field f -/
abbrev EBad (K : PySem.W.Frag) (H : Hp) (E : XK) (f : Str) : Prop := ∀ dd H', H dd = none → Same H H' → H' dd = some (.xd [("field", .str f)]) → E (.ref (gad "BadPhase" K)) (some dd) H'
def spPhaseInit (K : PySem.W.Frag) : Sp := fun vs H Q E => ∃ (p dx : Addr) (r : Rw), vs = .ref p :: r.vs ∧ H p = some (.ins (gad "Phase" K) dx []) ∧
  (r.bad = none → ∀ H', Fl p H H' → H' p = some (.ins (gad "Phase" K) dx (rwF r)) → Q .non H') ∧ (∀ f, r.bad = some f → EBad K H E f)
section
variable {P : Program} [SupP P pFile] {w : World} {K : PySem.W.Frag} {mg : Str → Option Value} {base : Heap}
theorem ok_BadPhase_init (T : Tx K mg) : FnOk P w K mg base CX0 1 (mad "BadPhase" "__init__" K) (fdD K (mad "BadPhase" "__init__" K)) P_BadPhase_init (spEx1 K (gad "BadPhase" K) "field") := by
  obtain ⟨cc, cdv, FC⟩ := T.F_BadPhase_init
  have SKf := sup_ok T.sp_BadPhase FC
  obtain ⟨oc, od, dV, kV, doc, pm, an, ct, osl, efd, lk, hcd, hD⟩ := FC.ex
  rw [efd] at lk
  rw [efd]
  refine fnC_of (fl := pFile) (C := gad "BadPhase" K) (D := gad "BadPhase" K) lk hcd sc_BadPhase_init SKf T.ox_BadPhase T.n_super rfl ⟨_, rfl⟩ (fun vs H Q E h => ?_) (fun vs H Q E h => ?_) (fun _ => rfl) (fun _ => rfl) (fun F A outer s H vs Q E e1 e2 e3 h => ?_)
  · obtain ⟨a, v, rfl, _⟩ := h; rfl
  · obtain ⟨a, v, rfl, ha, _⟩ := h; exact ⟨a, _, rfl, ha⟩
  · obtain ⟨a, v, rfl, ha, k⟩ := h
    obtain ⟨f1, f2, f3, f4, f5, f6, f7⟩ := F
    dsimp only at e1 e2 e3
    subst e1 e2 e3
    refine ⟨_, (pss_one (ps_ost (pe_var (i := 0) rfl (Or.inl rfl)) (pe_var (i := 1) rfl (Or.inl rfl)) rfl)), ?_⟩
    exact ⟨_, rfl, _, rfl, a, _, rfl, T.ox_BadPhase, T.na_BadPhase_field, .inl ⟨ha, fun dx nd ne => k dx nd ne⟩⟩
theorem ok_Phase_init (T : Tx K mg) : FnOk P w K mg base (L2.CX P w) 3 (mad "Phase" "__init__" K) (fdD K (mad "Phase" "__init__" K)) P_Phase_init (spPhaseInit K) := by
  refine T.F_Phase_init.ok sc_Phase_init (fun vs H Q E h => ?_) (fun cdv A outer s H vs Q E hr h => ?_)
  · obtain ⟨p, dx, r, rfl, _⟩ := h; rfl
  · obtain ⟨p, dx, r, rfl, hp, k1, k2⟩ := h
    refine ⟨_, (pss_cons (ps_if (pt_not (pt_chain op_le op_le pe_int (pv 1) (pe_gi rfl T.g_MOST_HUE))) (pss_one (ps_raise rfl (takes_of rfl rfl rfl rfl) (pmk_oex T.ox_BadPhase T.ei_BadPhase.1 T.ei_BadPhase.2 (ok_BadPhase_init (P := P) T) (hr.mono (by decide)) (bd_BadPhase_init T) .nil pass0 rfl T.g_BadPhase (pa_cons pe_str pa_nil)))) pss_nil)
      (pss_cons (ps_if (pt_cmpR op_notIn_seq (pv 2) (pe_gr rfl T.g_BARRIERS) (by rfl)) (pss_one (ps_raise rfl (takes_of rfl rfl rfl rfl) (pmk_oex T.ox_BadPhase T.ei_BadPhase.1 T.ei_BadPhase.2 (ok_BadPhase_init (P := P) T) (hr.mono (by decide)) (bd_BadPhase_init T) .nil pass0 rfl T.g_BadPhase (pa_cons pe_str pa_nil)))) pss_nil)
      (pss_cons (ps_if (pt_not (pt_chain op_le op_le pe_int (pv 5) (pe_gi rfl T.g_MOST_STAND))) (pss_one (ps_raise rfl (takes_of rfl rfl rfl rfl) (pmk_oex T.ox_BadPhase T.ei_BadPhase.1 T.ei_BadPhase.2 (ok_BadPhase_init (P := P) T) (hr.mono (by decide)) (bd_BadPhase_init T) .nil pass0 rfl T.g_BadPhase (pa_cons pe_str pa_nil)))) pss_nil)
      (pss_cons (ps_fld (pv 0) (pv 1) rfl)
      (pss_cons (ps_fld (pv 0) (pv 2) rfl)
      (pss_cons (ps_fld (pv 0) (pv 3) rfl)
      (pss_cons (ps_fld (pv 0) (pv 4) rfl)
      (pss_cons (ps_fld (pv 0) (pv 5) rfl)
      (pss_one (ps_fld (pv 0) (pv 6) rfl)))))))))), ?_⟩
    have hb : ∀ f, r.bad = some f → EBad K H E f := k2
    unfold Rw.bad at hb k1
    by_cases h0 : 0 ≤ r.hue
    · refine ⟨_, rfl, _, _, rfl, rfl, _, rfl, iteD h0 ?_⟩
      by_cases h1 : r.hue ≤ 5
      · refine ⟨_, _, rfl, rfl, _, rfl, iteNS h1 ?_⟩
        rw [if_pos ⟨h0, h1⟩] at hb k1
        cases hB : barIn r.bar with
        | false =>
          refine ⟨_, rfl, _, _, rfl, .inr (T.t_BARRIERS _), rfl, rfl, _, rfl, iteY (by rw [if_pos rfl, show inV (.str r.bar) barVs = false from hB]; rfl) ?_⟩
          rw [hB, if_neg Bool.false_ne_true] at hb
          exact mkO1 (hb _ rfl)
        | true =>
          refine ⟨_, rfl, _, _, rfl, .inr (T.t_BARRIERS _), rfl, rfl, _, rfl, iteE (by rw [if_pos rfl, show inV (.str r.bar) barVs = true from hB]; rfl) ?_⟩
          rw [hB, if_pos rfl] at hb k1
          by_cases s0 : 0 ≤ r.std
          · refine ⟨_, rfl, _, _, rfl, rfl, _, rfl, iteD s0 ?_⟩
            by_cases s1 : r.std ≤ 7
            · refine ⟨_, _, rfl, rfl, _, rfl, iteNS s1 ?_⟩
              rw [if_pos ⟨s0, s1⟩] at k1
              refine ⟨_, rfl, _, rfl, p, _, dx, _, rfl, hp, T.c_Phase, T.na_Phase_hue, (Nat.zero_lt_succ _), _, rfl, _, rfl, p, _, dx, _, rfl, upd_same, T.c_Phase, T.na_Phase_barrier, few (Nat.zero_lt_succ _), _, rfl, _, rfl, p, _, dx, _, rfl, upd_same, T.c_Phase, T.na_Phase_visits, few (few (Nat.zero_lt_succ _)), _, rfl, _, rfl, p, _, dx, _, rfl, upd_same, T.c_Phase, T.na_Phase_pauses, few (few (few (Nat.zero_lt_succ _))), _, rfl, _, rfl, p, _, dx, _, rfl, upd_same, T.c_Phase, T.na_Phase_stand, few (few (few (few (Nat.zero_lt_succ _)))), _, rfl, _, rfl, p, _, dx, _, rfl, upd_same, T.c_Phase, T.na_Phase_skips, few (few (few (few (few (Nat.zero_lt_succ _))))), ?_⟩
              refine k1 rfl _ ?_ upd_same
              simp only [upd_upd]
              exact Fl.cell
            · refine ⟨_, _, rfl, rfl, _, rfl, iteND s1 ?_⟩
              rw [if_neg (fun z => s1 z.2)] at hb
              exact mkO1 (hb _ rfl)
          · refine ⟨_, rfl, _, _, rfl, rfl, _, rfl, iteDN s0 ?_⟩
            refine ⟨_, rfl, iteT ?_⟩
            rw [if_neg (fun z => s0 z.1)] at hb
            exact mkO1 (hb _ rfl)
      · refine ⟨_, _, rfl, rfl, _, rfl, iteND h1 ?_⟩
        rw [if_neg (fun z => h1 z.2)] at hb
        exact mkO1 (hb _ rfl)
    · refine ⟨_, rfl, _, _, rfl, rfl, _, rfl, iteDN h0 ?_⟩
      refine ⟨_, rfl, iteT ?_⟩
      rw [if_neg (fun z => h0 z.1)] at hb
      exact mkO1 (hb _ rfl)
end

/-! ### books -/
def bkF (l : Addr) : List (Str × V) := putF "phases" (.ref l) []
theorem bk_phases (l : Addr) : (bkF l).lookup ("phases" : Str) = some (.ref l) := by
  unfold bkF
  rw [lookup_putF, if_pos rfl]
/-- a book stands at b; its list at l; its phases -/
structure BkAt (K : PySem.W.Frag) (H : Hp) (b l : Addr) (rs : List Ph) : Prop where
  bk : ∃ dx, H b = some (.ins (gad "Book" K) dx (bkF l))
  ph : ∃ as : List Addr, H l = some (.lst (as.map V.ref)) ∧ as.length = rs.length ∧ ∀ (i : Nat) (a : Addr) (r : Ph), as[i]? = some a → rs[i]? = some r → PhAt K H a r
  n1 : 1 ≤ rs.length
  n6 : rs.length ≤ 6
  ok : ∀ r ∈ rs, r.Ok
theorem BkAt.mono {K : PySem.W.Frag} {H H' : Hp} {b l : Addr} {rs : List Ph} (h : BkAt K H b l rs) (e : Same H H') : BkAt K H' b l rs := by
  obtain ⟨⟨dx, h1⟩, ⟨as, h2, h3, h4⟩, h5, h6, h7⟩ := h
  exact ⟨⟨dx, e _ _ h1⟩, ⟨as, e _ _ h2, h3, fun i a r ha hr => (h4 i a r ha hr).same e⟩, h5, h6, h7⟩
/-- rows that were drawn: a list of tuples -/
structure RowsAt (H : Hp) (a : Addr) (rs : List Ph) : Prop where
  ls : ∃ ts : List Addr, H a = some (.lst (ts.map V.ref)) ∧ ts.length = rs.length ∧ ∀ (i : Nat) (t : Addr) (r : Ph), ts[i]? = some t → rs[i]? = some r → H t = some (.tup r.vs)
  ok : ∀ r ∈ rs, r.Ok
theorem RowsAt.mono {H H' : Hp} {a : Addr} {rs : List Ph} (h : RowsAt H a rs) (e : Same H H') : RowsAt H' a rs := by
  obtain ⟨⟨ts, h1, h2, h3⟩, h4⟩ := h
  exact ⟨⟨ts, e _ _ h1, h2, fun i t r ht hr => e _ _ (h3 i t r ht hr)⟩, h4⟩
theorem atI_nat' {α : Type} {xs : List α} {i : Int} {v : α} (h0 : 0 ≤ i) (h : xs[i.toNat]? = some v) : atI xs i = some v := by
  have e : i = ((i.toNat : Nat) : Int) := (Int.toNat_of_nonneg h0).symm
  rw [e]
  exact atI_nat h
theorem mem_get {α : Type} {xs : List α} {i : Nat} (h : i < xs.length) : ∃ x, xs[i]? = some x ∧ x ∈ xs := ⟨xs[i], List.getElem?_eq_getElem h, List.getElem_mem h⟩
/-- the i-th row -/
theorem RowsAt.row {H : Hp} {a : Addr} {rs : List Ph} (h : RowsAt H a rs) {i : Int} (h0 : 0 ≤ i) (h1 : i < rs.length) :
    ∃ (xs : List V) (t : Addr) (r : Ph), H a = some (.lst xs) ∧ atI xs i = some (.ref t) ∧ rs[i.toNat]? = some r ∧ r.Ok ∧ H t = some (.tup r.vs) := by
  obtain ⟨⟨ts, h2, h3, h4⟩, h5⟩ := h
  obtain ⟨r, hr, hm⟩ := mem_get (xs := rs) (i := i.toNat) (by omega)
  obtain ⟨t, ht, _⟩ := mem_get (xs := ts) (i := i.toNat) (by omega)
  exact ⟨_, t, r, h2, atI_nat' h0 (by rw [List.getElem?_map, ht]; rfl), hr, h5 r hm, h4 _ t r ht hr⟩
theorem RowsAt.len {H : Hp} {a : Addr} {rs : List Ph} (h : RowsAt H a rs) : ∃ xs : List V, H a = some (.lst xs) ∧ xs.length = rs.length := by
  obtain ⟨⟨ts, h2, h3, h4⟩, h5⟩ := h
  exact ⟨_, h2, by rw [List.length_map, h3]⟩
/-! ### promises -/
def spBookInit (K : PySem.W.Frag) : Sp := fun vs H Q E => ∃ (b dx p : Addr) (xs : List V), vs = [.ref b, .ref p] ∧ H b = some (.ins (gad "Book" K) dx []) ∧ H p = some (.tup xs) ∧
  (1 ≤ xs.length ∧ xs.length ≤ 6 → ∀ l H', H l = none → Fl b H H' → H' b = some (.ins (gad "Book" K) dx (bkF l)) → H' l = some (.lst xs) → Q .non H') ∧
  (¬ (1 ≤ xs.length ∧ xs.length ≤ 6) → ∀ H', Same H H' → E (.ref (gad "BadBook" K)) none H')
def spBookOf (K : PySem.W.Frag) : Sp := fun vs H Q E => ∃ (a : Addr) (xs : List V), vs = [.ref (gad "Book" K), .ref a] ∧ SqL K H a xs ∧ xs.length ≤ 1000 ∧
  (1 ≤ xs.length ∧ xs.length ≤ 6 → ∀ b dx l H', H b = none → H l = none → Same H H' → H' b = some (.ins (gad "Book" K) dx (bkF l)) → H' l = some (.lst xs) → Q (.ref b) H') ∧
  (¬ (1 ≤ xs.length ∧ xs.length ≤ 6) → ∀ H', Same H H' → E (.ref (gad "BadBook" K)) none H')
def spBookLen (K : PySem.W.Frag) : Sp := fun vs H Q _ => ∃ (b l : Addr) (rs : List Ph), vs = [.ref b] ∧ BkAt K H b l rs ∧ Q (.int rs.length) H
/-- book[n]: the address in the list -/
def spBookGet (K : PySem.W.Frag) : Sp := fun vs H Q _ => ∃ (b l : Addr) (rs : List Ph) (n : Int), vs = [.ref b, .int n] ∧ BkAt K H b l rs ∧
  ∀ a r, rs[(n % rs.length).toNat]? = some r → r.Ok → PhAt K H a r → Q (.ref a) H
def spBookSet (K : PySem.W.Frag) : Sp := fun vs H Q _ => ∃ (b l a : Addr) (rs : List Ph) (n : Int) (r : Ph), vs = [.ref b, .int n, .ref a] ∧ BkAt K H b l rs ∧ PhAt K H a r ∧ r.Ok ∧
  ∀ H', Fl l H H' → BkAt K H' b l (rs.set (n % rs.length).toNat r) → Q .non H'
/-- the rows behind row: as long as the phases may be left out -/
def aft (sk : Nat → Bool) (n row : Nat) : Nat → Nat → List Nat
  | _, 0 => []
  | k, f + 1 => ((row + 1 + k) % n) :: (if sk ((row + 1 + k) % n) then aft sk n row (k + 1) f else [])
def skOf (rs : List Ph) (i : Nat) : Bool := match rs[i]? with
  | some r => r.skp
  | none => false
def after (rs : List Ph) (row : Nat) : List Nat := aft (skOf rs) rs.length row 0 rs.length
def nts (l : List Nat) : List V := l.map fun (n : Nat) => V.int n
theorem aft_len (sk : Nat → Bool) (n row : Nat) : ∀ f k, (aft sk n row k f).length ≤ f
  | 0, _ => Nat.le_refl _
  | f + 1, k => by
    unfold aft
    rw [List.length_cons]
    split
    · exact Nat.succ_le_succ (aft_len sk n row f (k + 1))
    · exact Nat.succ_le_succ (Nat.zero_le _)
theorem aft_lt (sk : Nat → Bool) (n row : Nat) (h : 0 < n) : ∀ f k, ∀ x ∈ aft sk n row k f, x < n
  | 0, _, x, hx => by cases hx
  | f + 1, k, x, hx => by
    unfold aft at hx
    rcases List.mem_cons.mp hx with e | e
    · rw [e]; exact Nat.mod_lt _ h
    · split at e
      · exact aft_lt sk n row h f (k + 1) x e
      · cases e
theorem after_len (rs : List Ph) (row : Nat) : (after rs row).length ≤ rs.length := aft_len _ _ _ _ _
theorem after_lt (rs : List Ph) (row : Nat) (h : 1 ≤ rs.length) : ∀ x ∈ after rs row, x < rs.length := aft_lt _ _ _ h _ _
theorem after_ne (rs : List Ph) (row : Nat) (h : 1 ≤ rs.length) : 1 ≤ (after rs row).length := by
  unfold after
  cases e : rs.length with
  | zero => omega
  | succ n => unfold aft; rw [List.length_cons]; omega
def spAfter (K : PySem.W.Frag) : Sp := fun vs H Q _ => ∃ (b l : Addr) (rs : List Ph) (row : Nat), vs = [.ref b, .int row] ∧ BkAt K H b l rs ∧ row < rs.length ∧
  ∀ t H', H t = none → Same H H' → H' t = some (.tup (nts (after rs row))) → Q (.ref t) H'
section
variable {P : Program} [SupP P pFile] {w : World} {K : PySem.W.Frag} {mg : Str → Option Value} {base : Heap}
theorem fr_Book_init (T : Tx K mg) : FnR P w K mg base (L2.CX P w) 2 (mad "Book" "__init__" K) (spStar 1 (spBookInit K)) := by
  obtain ⟨uM, hM⟩ := T.cv_Book_MOST
  refine fnr_star (ps := ["self"]) (pv := "phases") T.F_Book_init sc_Book_init StX.cxUp (fun kV doc pm an cdv ct us rest hl => ?_) (fun cdv A outer s H vs Q E hr h => ?_)
  · exact StX.bind_star1 (B := fun vs => bindArgs _ ⟨vs, []⟩) (fun _ => rfl) (fun _ _ _ => rfl) us rest hl
  · obtain ⟨b, dx, p, xs, rfl, hb, hp, k1, k2⟩ := h
    have bp : b ≠ p := ne_of hb hp (by intro z; cases z)
    refine ⟨_, (pss_cons (ps_if (pt_not (pt_chain op_le op_le pe_int (pe_callB call_len_seq (by rfl) T.n_len (by decide +kernel) (pa_cons (pv 1) pa_nil)) (ClX.pe_cval (pe_gr rfl T.g_Book)))) (pss_one (ps_raise rfl (takes_of rfl rfl rfl rfl) (pmk_own PySem.F.excBase_ValueError T.x_BadBook.1 T.g_BadBook T.x_BadBook.2.1 (raises_own T.x_BadBook.2.2.1 T.x_BadBook.2.2.2) rfl))) pss_nil)
      (pss_one (ps_fld (pv 0) (pe_callTy call_list_of (by rfl) T.n_list (by decide +kernel) (pa_cons (pv 1) pa_nil)) rfl))), ?_⟩
    refine ⟨_, rfl, p, _, rfl, .inr (SqT.of hp), _, _, rfl, rfl, _, rfl, ?_⟩
    by_cases h1 : 1 ≤ xs.length
    · refine iteD (by omega) ⟨_, _, _, uM, rfl, T.cr_Book, hM, _, _, rfl, rfl, _, rfl, ?_⟩
      by_cases h6 : xs.length ≤ 6
      · refine iteNS (by omega) ?_
        refine ⟨_, rfl, p, _, rfl, .inr (SqT.of hp), fun l hl => ?_⟩
        have bl : b ≠ l := ne_of_none hb hl
        refine ⟨_, rfl, b, _, dx, [], rfl, (by rw [upd_ne bl]; exact hb), T.c_Book, T.na_Book_phases, (Nat.zero_lt_succ _), ?_⟩
        exact k1 ⟨h1, h6⟩ l _ hl ((Fl.new hl).put) upd_same (by rw [upd_ne bl.symm]; exact upd_same)
      · refine iteND (by omega) ?_
        exact k2 (fun z => h6 z.2) _ (Same.refl _)
    · refine iteDN (by omega) ?_
      refine ⟨_, rfl, iteT ?_⟩
      exact k2 (fun z => h1 z.1) _ (Same.refl _)
theorem ok_Book_of (T : Tx K mg) : FnOk P w K mg base (L2.CX P w) 4 (pad "classmethod" "Book" "of" K) (fdD K (pad "classmethod" "Book" "of" K)) P_Book_of (spBookOf K) := by
  refine T.F_Book_of.ok sc_Book_of (fun vs H Q E h => ?_) (fun cdv A outer s H vs Q E hr h => ?_)
  · obtain ⟨a, xs, rfl, _⟩ := h; rfl
  · obtain ⟨a, xs, rfl, hS, hz, k1, k2⟩ := h
    refine ⟨_, (pss_one (ps_ret (pe_makeLS (i := 0) T.mk_Book (fr_Book_init (P := P) T) (hr.mono (by decide)) (passes_call (takes_of rfl rfl rfl rfl) (fun _ _ _ _ z => z)) rfl (by first | exact Or.inl rfl | exact Or.inr (Or.inl rfl)) (pv 1)))), ?_⟩
    refine ⟨rfl, _, rfl, a, xs, rfl, .inr hS, fun b dx nb nd ne => ?_⟩
    refine ⟨[.ref b], xs, rfl, rfl, Nat.le_trans hz (by decide), fun p np => ?_⟩
    have bp : b ≠ p := fun z => by rw [z, upd_same] at np; cases np
    have S1 : Same H (upd (upd (upd H dx (.own b)) b (.ins (gad "Book" K) dx [])) p (.tup xs)) := Same.upd (Same.upd (Same.new nd) nb) (Same.free (Same.upd (Same.new nd) nb) np)
    refine ⟨b, dx, p, xs, rfl, upd_oth bp upd_same, upd_same, fun hv l H' nl fl hb hl => ⟨rfl, ?_⟩, fun hv H' S' => ?_⟩
    · refine k1 hv b dx l H' nb ?_ ?_ hb hl
      · exact S1.free nl
      · intro a o ha
        exact fl a o (ne_of_none ha nb) (S1 a o ha)
    · exact k2 hv H' (S1.trans S')
theorem fr_Book_of (T : Tx K mg) : FnR P w K mg base (L2.CX P w) 4 (pad "classmethod" "Book" "of" K) (spBookOf K) := fnr_of (ok_Book_of T) (bd_Book_of T)
theorem ok_Book_len (T : Tx K mg) : FnOk P w K mg base CX0 1 (mad "Book" "__len__" K) (fdD K (mad "Book" "__len__" K)) P_Book_len (spBookLen K) := by
  refine T.F_Book_len.ok sc_Book_len (fun vs H Q E h => ?_) (fun cdv A outer s H vs Q E hr h => ?_)
  · obtain ⟨b, l, rs, rfl, _⟩ := h; rfl
  · obtain ⟨b, l, rs, rfl, ⟨⟨dx, hb⟩, ⟨as, hl, e, _⟩, n1, n6, ok⟩, k⟩ := h
    refine ⟨_, PSs.nox ((pss_one (ps_ret (pe_callB call_len_seq (by rfl) T.n_len (by decide +kernel) (pa_cons (pe_fld (pv 0) rfl) pa_nil))))), ?_⟩
    refine ⟨_, rfl, b, _, dx, _, _, rfl, hb, T.c_Book, T.na_Book_phases, bk_phases l, l, _, rfl, .inl (SqL.of hl), ?_⟩
    show Q (.int ((as.map V.ref).length : Nat)) H
    rw [List.length_map, e]
    exact k
theorem fr_Book_len (T : Tx K mg) : FnR P w K mg base CX0 1 (mad "Book" "__len__" K) (spBookLen K) := fnr_of (ok_Book_len T) (bd_Book_len T)
theorem ok_Book_getitem (T : Tx K mg) : FnOk P w K mg base CX0 1 (mad "Book" "__getitem__" K) (fdD K (mad "Book" "__getitem__" K)) P_Book_getitem (spBookGet K) := by
  refine T.F_Book_getitem.ok sc_Book_getitem (fun vs H Q E h => ?_) (fun cdv A outer s H vs Q E hr h => ?_)
  · obtain ⟨b, l, rs, n, rfl, _⟩ := h; rfl
  · obtain ⟨b, l, rs, n, rfl, ⟨⟨dx, hb⟩, ⟨as, hl, e, hp⟩, n1, n6, ok⟩, k⟩ := h
    refine ⟨_, PSs.nox ((pss_one (ps_ret (pe_ix ix_list (pe_fld (pv 0) rfl) (pe_op op_mod (pv 1) (pe_callB call_len_seq (by rfl) T.n_len (by decide +kernel) (pa_cons (pe_fld (pv 0) rfl) pa_nil))) (fun _ _ => rfl))))), ?_⟩
    have m0 : 0 ≤ n % (rs.length : Int) := Int.emod_nonneg _ (by omega)
    have m1 : n % (rs.length : Int) < rs.length := Int.emod_lt_of_pos _ (by omega)
    obtain ⟨r, hr', hm⟩ := mem_get (xs := rs) (i := (n % (rs.length : Int)).toNat) (by omega)
    obtain ⟨a, ha, _⟩ := mem_get (xs := as) (i := (n % (rs.length : Int)).toNat) (by omega)
    have el : ((as.map V.ref).length : Int) = rs.length := by rw [List.length_map, e]
    refine ⟨_, rfl, b, _, dx, _, _, rfl, hb, T.c_Book, T.na_Book_phases, bk_phases l, _, rfl, _, rfl, b, _, dx, _, _, rfl, hb, T.c_Book, T.na_Book_phases, bk_phases l, l, _, rfl, .inl (SqL.of hl), _, _, rfl, rfl, (by show (0 : Int) < ((as.map V.ref).length : Int); omega), l, _, _, .ref a, rfl, rfl, SqL.of hl, ?_, ?_⟩
    · show atI (as.map V.ref) (n % ((as.map V.ref).length : Int)) = _
      rw [el]
      exact atI_nat' m0 (by rw [List.getElem?_map, ha]; rfl)
    · exact k a r hr' (ok r hm) (hp _ a r ha hr')
theorem fr_Book_getitem (T : Tx K mg) : FnR P w K mg base CX0 1 (mad "Book" "__getitem__" K) (spBookGet K) := fnr_of (ok_Book_getitem T) (bd_Book_getitem T)
theorem ok_Book_setitem (T : Tx K mg) : FnOk P w K mg base CX0 1 (mad "Book" "__setitem__" K) (fdD K (mad "Book" "__setitem__" K)) P_Book_setitem (spBookSet K) := by
  refine T.F_Book_setitem.ok sc_Book_setitem (fun vs H Q E h => ?_) (fun cdv A outer s H vs Q E hr h => ?_)
  · obtain ⟨b, l, a, rs, n, r, rfl, _⟩ := h; rfl
  · obtain ⟨b, l, a, rs, n, r, rfl, ⟨⟨dx, hb⟩, ⟨as, hl, e, hp⟩, n1, n6, ok⟩, hpa, rok, k⟩ := h
    refine ⟨_, PSs.nox ((pss_one (ps_asg (pv 2) (pg_sub (pe_fld (pv 0) rfl) (pe_op op_mod (pv 1) (pe_callB call_len_seq (by rfl) T.n_len (by decide +kernel) (pa_cons (pe_fld (pv 0) rfl) pa_nil))) set_list)))), ?_⟩
    have m0 : 0 ≤ n % (rs.length : Int) := Int.emod_nonneg _ (by omega)
    have m1 : n % (rs.length : Int) < rs.length := Int.emod_lt_of_pos _ (by omega)
    have el : ((as.map V.ref).length : Int) = rs.length := by rw [List.length_map, e]
    have bl : b ≠ l := ne_of hb hl (by intro z; cases z)
    have ix : ixN (as.map V.ref).length (n % ((as.map V.ref).length : Int)) = some (n % (rs.length : Int)).toNat := by
      rw [el]
      unfold ixN
      rw [if_pos m0, if_pos (by rw [List.length_map, e]; exact m1)]
    refine ⟨_, rfl, _, rfl, b, _, dx, _, _, rfl, hb, T.c_Book, T.na_Book_phases, bk_phases l, _, rfl, _, rfl, b, _, dx, _, _, rfl, hb, T.c_Book, T.na_Book_phases, bk_phases l, l, _, rfl, .inl (SqL.of hl), _, _, rfl, rfl, (by show (0 : Int) < ((as.map V.ref).length : Int); omega), l, _, _, _, rfl, rfl, hl, ix, ?_⟩
    refine k _ Fl.cell ⟨⟨dx, upd_oth bl hb⟩, ⟨as.set (n % (rs.length : Int)).toNat a, ?_, ?_, ?_⟩, ?_, ?_, ?_⟩
    · rw [upd_same, List.map_set]
    · rw [List.length_set, List.length_set, e]
    · intro i a' r' ha' hr'
      have fl : ∀ {x : Addr} {q : Ph}, PhAt K H x q → PhAt K (upd H l (.lst ((as.map V.ref).set (n % (rs.length : Int)).toNat (.ref a)))) x q := fun {x q} ⟨d, hx⟩ => ⟨d, upd_oth (ne_of hx hl (by intro z; cases z)) hx⟩
      rw [List.getElem?_set] at ha' hr'
      split at ha'
      · rename_i ei
        rw [if_pos ei] at hr'
        split at ha'
        · split at hr'
          · cases ha'; cases hr'
            exact fl hpa
          · cases hr'
        · cases ha'
      · rename_i ei
        rw [if_neg ei] at hr'
        exact fl (hp i a' r' ha' hr')
    · rw [List.length_set]; exact n1
    · rw [List.length_set]; exact n6
    · intro q hq
      rcases List.mem_or_eq_of_mem_set hq with z | z
      · exact ok q z
      · rw [z]; exact rok
theorem fr_Book_setitem (T : Tx K mg) : FnR P w K mg base CX0 1 (mad "Book" "__setitem__" K) (spBookSet K) := fnr_of (ok_Book_setitem T) (bd_Book_setitem T)
end

end Hue

set_option Elab.async false
set_option linter.all false
set_option maxRecDepth 100000
set_option maxHeartbeats 1000000
namespace Hue
open PySem PySem.Spec PyProof.Rows L2 ItX
local macro_rules | `(tactic| walk_at "hp") => `(tactic| first
  | assumption
  | exact upd_same
  | (refine upd_old (by assumption) ?_; walk_at "hp")
  | (refine upd_oth (by assumption) ?_; walk_at "hp")
  | (refine same_get (by assumption) ?_; walk_at "hp")
  | (refine Fl.get (by assumption) (by assumption) ?_; walk_at "hp"))
local macro_rules | `(tactic| walk_at "seq") => `(tactic| first
  | assumption
  | exact T.t_BARRIERS _
  | exact SqL.of (by walk_at "hp")
  | exact SqT.of (by walk_at "hp"))
local macro_rules | `(tactic| walk_at "len") => `(tactic| first
  | exact Or.inl (by walk_at "seq")
  | exact Or.inr (by walk_at "seq"))
local macro_rules | `(tactic| walk_at "at") => `(tactic| first
  | rfl
  | assumption)

/-! ### references, as stores need them -/
def rfF (pl hu : Int) : List (Str × V) := putF "hue" (.int hu) (putF "place" (.int pl) [])
theorem rf_hue (pl hu : Int) : (rfF pl hu).lookup ("hue" : Str) = some (.int hu) := by
  unfold rfF
  simp only [lookup_putF]
  rw [if_pos trivial]
theorem rf_place (pl hu : Int) : (rfF pl hu).lookup ("place" : Str) = some (.int pl) := by
  unfold rfF
  simp only [lookup_putF]
  rw [if_neg (by decide +kernel), if_pos trivial]
def RfAt (K : PySem.W.Frag) (H : Hp) (a : Addr) (pl hu : Int) : Prop := ∃ dx, H a = some (.ins (gad "Ref" K) dx (rfF pl hu))
theorem RfAt.same {K : PySem.W.Frag} {H H' : Hp} {a : Addr} {pl hu : Int} (h : RfAt K H a pl hu) (e : Same H H') : RfAt K H' a pl hu := by
  obtain ⟨dx, h⟩ := h
  exact ⟨dx, e _ _ h⟩
/-- a reference as it may be: any place below 2 ^ 210, a hue -/
structure RfOk (pl hu : Int) : Prop where
  p0 : 0 ≤ pl
  p1 : pl.toNat < 2 ^ 210
  h0 : 0 ≤ hu
  h1 : hu < 6
theorem log_lt {i : Int} (h : i.natAbs < 2 ^ 210) : i.natAbs.log2 < 1920 := by
  by_cases z : i.natAbs = 0
  · rw [z]; decide
  · exact Nat.lt_of_lt_of_le ((Nat.log2_lt z).mpr h) (by decide)
/-- the reference's text -/
def rfText (pl hu : Int) : Str := Str.ofString (toString pl) ++ (":" : Str) ++ Str.ofString (toString hu)
theorem empty_app (x : Str) : Str.empty ++ x = x := Str.ext' (by rw [Str.cps_append]; exact Array.empty_append)
theorem num_len {i : Int} (h : i.natAbs < 2 ^ 210) : (Str.ofString (toString i)).length ≤ 1921 := int_text_len_1921 (log_lt h)
theorem len_app (x y : Str) : (x ++ y).length = x.length + y.length := by
  first
    | exact Str.length_append x y
    | simp [Str.length, Str.cps_append]
def spRefInit (C : Addr) : Sp := fun vs H Q _ => ∃ (p dx : Addr) (pl hu : Int), vs = [.ref p, .int pl, .int hu] ∧ H p = some (.ins C dx []) ∧ RfOk pl hu ∧
  ∀ H', Fl p H H' → H' p = some (.ins C dx (rfF pl hu)) → Q .non H'
def spRf (K : PySem.W.Frag) (g : Int → Int → V) : Sp := fun vs H Q _ => ∃ (a : Addr) (pl hu : Int), vs = [.ref a] ∧ RfAt K H a pl hu ∧ RfOk pl hu ∧ Q (g pl hu) H
def spRfEq (K : PySem.W.Frag) : Sp := fun vs H Q _ => ∃ (a : Addr) (pl hu : Int) (y : V), vs = [.ref a, y] ∧ RfAt K H a pl hu ∧
  ((∃ b pl2 hu2, y = .ref b ∧ RfAt K H b pl2 hu2 ∧ Q (.bl (decide (pl = pl2) && decide (hu = hu2))) H) ∨ ∃ t, TyX K H y t ∧ PySem.W.kitOne K t (.ref (gad "Ref" K)) = some false ∧ Q (.bl false) H)
section
variable {P : Program} [SupP P pFile] {w : World} {K : PySem.W.Frag} {mg : Str → Option Value} {base : Heap}
theorem ok_Ref_init (T : Tx K mg) : FnOk P w K mg base CX0 1 (mad "Ref" "__init__" K) (fdD K (mad "Ref" "__init__" K)) P_Ref_init (spRefInit (gad "Ref" K)) := by
  refine T.F_Ref_init.ok sc_Ref_init (fun vs H Q E h => ?_) (fun cdv A outer s H vs Q E hr h => ?_)
  · obtain ⟨p, dx, pl, hu, rfl, _⟩ := h; rfl
  · obtain ⟨p, dx, pl, hu, rfl, hp, ok, k⟩ := h
    refine ⟨_, PSs.nox ((pss_cons (ps_if (PW.pt (pw_or (pt_cmpR op_lt (pv 1) pe_int (nomark _)) (pw_or1 (pt_not (pt_chain op_le op_lt pe_int (pv 2) (pe_gi rfl T.g_HUES)))))) (pss_one ps_never) pss_nil)
      (pss_cons (ps_fld (pv 0) (pv 1) rfl)
      (pss_one (ps_fld (pv 0) (pv 2) rfl))))), ?_⟩
    refine ⟨_, rfl, _, _, rfl, rfl, _, rfl, iteDN (Int.not_lt.mpr ok.p0) ?_⟩
    refine ⟨_, rfl, _, _, rfl, rfl, _, rfl, iteD ok.h0 ?_⟩
    refine ⟨_, _, rfl, rfl, _, rfl, iteNS ok.h1 ?_⟩
    refine ⟨_, rfl, _, rfl, p, _, dx, _, rfl, hp, T.c_Ref, T.na_Ref_place, (Nat.zero_lt_succ _), _, rfl, _, rfl, p, _, dx, _, rfl, upd_same, T.c_Ref, T.na_Ref_hue, few (Nat.zero_lt_succ _), ?_⟩
    refine k _ ?_ upd_same
    simp only [upd_upd]
    exact Fl.cell
theorem ok_Ref_eq (T : Tx K mg) : FnOk P w K mg base CX0 1 (mad "Ref" "__eq__" K) (fdD K (mad "Ref" "__eq__" K)) P_Ref_eq (spRfEq K) := by
  refine T.F_Ref_eq.ok sc_Ref_eq (fun vs H Q E h => ?_) (fun cdv A outer s H vs Q E hr h => ?_)
  · obtain ⟨a, pl, hu, y, rfl, _⟩ := h; rfl
  · obtain ⟨a, pl, hu, y, rfl, ⟨dx, ha⟩, h⟩ := h
    refine ⟨_, PSs.nox ((pss_one (ps_ret (pe_and (pe_callB call_isi (by rfl) T.n_isinstance (by decide +kernel) (pa_cons (pv 1) (pa_cons (pe_gr rfl T.g_Ref) pa_nil))) (pe_and (pe_cmpR op_eq (pe_fld (pv 0) rfl) (pe_fld (pv 1) rfl) (nomark _)) (pe_one (pe_cmpR op_eq (pe_fld (pv 0) rfl) (pe_fld (pv 1) rfl) (nomark _)))))))), ?_⟩
    rcases h with ⟨b, pl2, hu2, rfl, ⟨dy, hb⟩, k⟩ | ⟨t, ty, kt, k⟩
    · refine ⟨_, rfl, _, _, _, _, true, rfl, .own _, inst_ty T.i_Ref T.c_Ref hb, T.k_Ref_Ref, _, rfl, iteT ?_⟩
      refine ⟨_, rfl, a, _, dx, _, _, rfl, ha, T.c_Ref, T.na_Ref_place, rf_place _ _, _, rfl, b, _, dy, _, _, rfl, hb, T.c_Ref, T.na_Ref_place, rf_place _ _, rfl, _, rfl, ?_⟩
      by_cases e : pl = pl2
      · subst e
        refine iteY (decide_eq_true rfl) ?_
        refine ⟨_, rfl, a, _, dx, _, _, rfl, ha, T.c_Ref, T.na_Ref_hue, rf_hue _ _, _, rfl, b, _, dy, _, _, rfl, hb, T.c_Ref, T.na_Ref_hue, rf_hue _ _, rfl, ?_⟩
        rw [decide_eq_true (rfl : pl = pl), Bool.true_and] at k
        have e2 : decide (V.int hu = V.int hu2) = decide (hu = hu2) := by
          by_cases q : hu = hu2
          · rw [q]; simp
          · rw [decide_eq_false q]; exact decide_eq_false fun z => q (V.int.inj z)
        show Q (.bl (decide (V.int hu = V.int hu2))) H
        rw [e2]
        exact k
      · have e2 : decide (V.int pl = V.int pl2) = false := decide_eq_false fun z => e (V.int.inj z)
        refine iteE e2 ?_
        rw [decide_eq_false e, Bool.false_and] at k
        exact k
    · exact ⟨_, rfl, _, _, t, _, false, rfl, .own _, ty, kt, _, rfl, iteF k⟩
theorem fr_Ref_eq (T : Tx K mg) : FnR P w K mg base CX0 1 (mad "Ref" "__eq__" K) (spRfEq K) := fnr_of (ok_Ref_eq T) (bd_Ref_eq T)
theorem ok_Ref_str (T : Tx K mg) : FnOk P w K mg base CX0 1 (mad "Ref" "__str__" K) (fdD K (mad "Ref" "__str__" K)) P_Ref_str (spRf K fun pl hu => .str (rfText pl hu)) := by
  refine T.F_Ref_str.ok sc_Ref_str (fun vs H Q E h => ?_) (fun cdv A outer s H vs Q E hr h => ?_)
  · obtain ⟨a, pl, hu, rfl, _⟩ := h; rfl
  · obtain ⟨a, pl, hu, rfl, ⟨dx, ha⟩, ok, k⟩ := h
    refine ⟨_, PSs.nox ((pss_one (ps_ret (pe_joined (PJ.cons (pe_fmt (pe_fld (pv 0) rfl)) (PJ.cons pe_str (PJ.cons (pe_fmt (pe_fld (pv 0) rfl)) PJ.nil))))))), ?_⟩
    have p1 : pl.natAbs < 2 ^ 210 := by have := ok.p1; have := ok.p0; omega
    have h1 : hu.natAbs < 2 ^ 210 := Nat.lt_of_lt_of_le (show hu.natAbs < 6 by have := ok.h0; have := ok.h1; omega) (by decide)
    have l1 := num_len p1
    have l2 := num_len h1
    have c1 : (":" : Str).length = 1 := by decide +kernel
    refine ⟨_, rfl, a, _, dx, _, _, rfl, ha, T.c_Ref, T.na_Ref_place, rf_place _ _, .inr ⟨_, rfl, log_lt p1, _, rfl, ?_, _, rfl, ?_, ?_⟩⟩
    · rw [empty_app]; exact Nat.le_trans l1 (by decide)
    · rw [empty_app, len_app, c1]; exact Nat.le_trans (show _ ≤ 2000 by show (Str.ofString (toString pl)).length + 1 ≤ 2000; omega) (by decide)
    · refine ⟨_, rfl, a, _, dx, _, _, rfl, ha, T.c_Ref, T.na_Ref_hue, rf_hue _ _, .inr ⟨_, rfl, log_lt h1, _, rfl, ?_, ?_⟩⟩
      · rw [empty_app, len_app, len_app, c1]; exact Nat.le_trans (show _ ≤ 4000 by show (Str.ofString (toString pl)).length + 1 + (Str.ofString (toString hu)).length ≤ 4000; omega) (by decide)
      · show Q (.str (Str.empty ++ Str.ofString (toString pl) ++ (":" : Str) ++ Str.ofString (toString hu))) H
        rw [empty_app]
        exact k
theorem fr_Ref_str (T : Tx K mg) : FnR P w K mg base CX0 1 (mad "Ref" "__str__" K) (spRf K fun pl hu => .str (rfText pl hu)) := fnr_of (ok_Ref_str T) (bd_Ref_str T)
end

/-! ### Book.copy -/
theorem small1000' {n : Nat} (h : n ≤ 1000) : n ≤ sizeLine := Nat.le_trans h (by decide)
def spCopy (K : PySem.W.Frag) : Sp := fun vs H Q _ => ∃ (b l : Addr) (rs : List Ph), vs = [.ref b] ∧ BkAt K H b l rs ∧ ∀ c m H', H c = none → H m = none → Same H H' → BkAt K H' c m rs → Q (.ref c) H'
section
variable {P : Program} [SupP P pFile] {w : World} {K : PySem.W.Frag} {mg : Str → Option Value} {base : Heap}
theorem ok_Book_copy (T : Tx K mg) : FnOk P w K mg base CX0 4 (mad "Book" "copy" K) (fdD K (mad "Book" "copy" K)) P_Book_copy (spCopy K) := by
  refine T.F_Book_copy.ok sc_Book_copy (fun vs H Q E h => ?_) (fun cdv A outer s H vs Q E hr h => ?_)
  · obtain ⟨b, l, rs, rfl, _⟩ := h; rfl
  · obtain ⟨b, l, rs, rfl, B, k⟩ := h
    obtain ⟨⟨dx, hb⟩, ⟨as, hl, e, hp⟩, n1, n6, ok⟩ := id B
    refine ⟨_, PSs.nox ((pss_one (ps_ret (pe_makeGS T.mk_Book (fr_Book_init (P := P) T) (hr.mono (by decide)) passL rfl T.g_Book (pe_fld (pv 0) rfl))))), ?_⟩
    refine ⟨_, rfl, b, _, dx, _, _, rfl, hb, T.c_Book, T.na_Book_phases, bk_phases l, l, _, rfl, .inr (SqL.of hl), fun c d2 nc nd ne => ?_⟩
    refine ⟨[.ref c], _, rfl, rfl, small1000' (by rw [List.length_map]; omega), fun p np => ?_⟩
    have cp : c ≠ p := fun z => by rw [z, upd_same] at np; cases np
    have S0 := Same.upd (u := .ins (gad "Book" K) d2 []) (Same.new (u := .own c) nd) nc
    have S1 : Same H (upd (upd (upd H d2 (.own c)) c (.ins (gad "Book" K) d2 [])) p (.tup (as.map V.ref))) := Same.upd S0 (S0.free np)
    refine ⟨c, d2, p, _, rfl, upd_oth cp upd_same, upd_same, fun hv m H' nm fl hc hm => ⟨rfl, ?_⟩, fun hv H' S' => absurd ⟨by rw [List.length_map]; omega, by rw [List.length_map]; omega⟩ hv⟩
    have S2 : Same H H' := fun a o ha => fl a o (ne_of_none ha nc) (S1 a o ha)
    exact k c m H' nc (S1.free nm) S2 ⟨⟨d2, hc⟩, ⟨as, hm, e, fun i a r ha hr => (hp i a r ha hr).same S2⟩, n1, n6, ok⟩
end

/-! ### a phase with any fields: looked at, compared, written -/
section
variable (r : Rw)
theorem rw_hue : (rwF r).lookup ("hue" : Str) = some (.int r.hue) := by
  unfold rwF
  simp only [lookup_putF]
  rw [if_neg (by decide +kernel), if_neg (by decide +kernel), if_neg (by decide +kernel), if_neg (by decide +kernel), if_neg (by decide +kernel), if_pos trivial]
theorem rw_barrier : (rwF r).lookup ("barrier" : Str) = some (.str r.bar) := by
  unfold rwF
  simp only [lookup_putF]
  rw [if_neg (by decide +kernel), if_neg (by decide +kernel), if_neg (by decide +kernel), if_neg (by decide +kernel), if_pos trivial]
theorem rw_visits : (rwF r).lookup ("visits" : Str) = some (.bl r.vis) := by
  unfold rwF
  simp only [lookup_putF]
  rw [if_neg (by decide +kernel), if_neg (by decide +kernel), if_neg (by decide +kernel), if_pos trivial]
theorem rw_pauses : (rwF r).lookup ("pauses" : Str) = some (.bl r.pau) := by
  unfold rwF
  simp only [lookup_putF]
  rw [if_neg (by decide +kernel), if_neg (by decide +kernel), if_pos trivial]
theorem rw_stand : (rwF r).lookup ("stand" : Str) = some (.int r.std) := by
  unfold rwF
  simp only [lookup_putF]
  rw [if_neg (by decide +kernel), if_pos trivial]
theorem rw_skips : (rwF r).lookup ("skips" : Str) = some (.bl r.skp) := by
  unfold rwF
  simp only [lookup_putF]
  rw [if_pos trivial]
theorem rwx_at : atI r.vs 0 = some (.int r.hue) ∧ atI r.vs 1 = some (.str r.bar) ∧ atI r.vs 2 = some (.bl r.vis) ∧ atI r.vs 3 = some (.bl r.pau) ∧ atI r.vs 4 = some (.int r.std) ∧ atI r.vs 5 = some (.bl r.skp) := ⟨rfl, rfl, rfl, rfl, rfl, rfl⟩
end
def RwAt (K : PySem.W.Frag) (H : Hp) (a : Addr) (r : Rw) : Prop := ∃ dx, H a = some (.ins (gad "Phase" K) dx (rwF r))
theorem RwAt.same {K : PySem.W.Frag} {H H' : Hp} {a : Addr} {r : Rw} (h : RwAt K H a r) (e : Same H H') : RwAt K H' a r := by
  obtain ⟨dx, h⟩ := h
  exact ⟨dx, e _ _ h⟩
theorem made_same {H H' : Hp} {x dx C : Addr} (nx : H x = none) (nd : H dx = none) (f : Fl x (L2.upd (L2.upd H dx (.own x)) x (.ins C dx [])) H') : Same H H' := fun a o h => by
  have n1 : a ≠ x := ne_of_none h nx
  exact f _ _ n1 (upd_oth n1 (upd_old nd h))
theorem made_same2 {H H' : Hp} {x dx C : Addr} (nx : H x = none) (nd : H dx = none) (f : Same (L2.upd (L2.upd H dx (.own x)) x (.ins C dx [])) H') : Same H H' := made_same nx nd (Fl.same f)
/-- two values of a kind that is compared -/
theorem dec_int (a b : Int) : decide (V.int a = V.int b) = decide (a = b) := by
  by_cases e : a = b
  · rw [e]; simp
  · rw [decide_eq_false e]; exact decide_eq_false fun z => e (V.int.inj z)
theorem dec_str (a b : Str) : decide (V.str a = V.str b) = decide (a = b) := by
  by_cases e : a = b
  · rw [e]; simp
  · rw [decide_eq_false e]; exact decide_eq_false fun z => e (V.str.inj z)
theorem dec_bl (a b : Bool) : decide (V.bl a = V.bl b) = decide (a = b) := by
  by_cases e : a = b
  · rw [e]; simp
  · rw [decide_eq_false e]; exact decide_eq_false fun z => e (V.bl.inj z)
def numS (i : Int) : Str := Str.ofString (toString i)
def Rw.words (r : Rw) : List Str := [numS r.hue, r.bar] ++ (if r.vis = true then [("visits" : Str)] else []) ++ (if r.pau = true then [("pauses" : Str)] else []) ++ (if r.std ≠ 0 then [("stand " : Str) ++ numS r.std] else []) ++ (if r.skp = true then [("skips" : Str)] else [])
def Rw.text (r : Rw) : Str := Txt.join " " r.words
def spPhText (K : PySem.W.Frag) : Sp := fun vs H Q _ => ∃ (a : Addr) (r : Rw), vs = [.ref a] ∧ RwAt K H a r ∧ r.bad = none ∧ ∀ H', Same H H' → Q (.str r.text) H'
/-- the list of words at l -/
def WdAt (H : Hp) (a l : Addr) (ws : List Str) : L2.St → Hp → Prop := fun σ H' => σ = [some (.ref a), some (.ref l)] ∧ H l = none ∧ Same H H' ∧ H' l = some (.lst (ws.map V.str))
theorem WdAt.put {H H' : Hp} {a l : Addr} {ws : List Str} {x : Str} (nl : H l = none) (S : Same H H') : WdAt H a l (ws ++ [x]) [some (.ref a), some (.ref l)] (L2.upd H' l (.lst (ws.map V.str ++ [.str x]))) :=
  ⟨rfl, nl, Same.upd S nl, by rw [upd_same, List.map_append]; rfl⟩
theorem wd_lt {ws : List Str} {n : Nat} (h : ws.length ≤ n) (hn : n < sizeLine) : (ws.map V.str).length < sizeLine := by rw [List.length_map]; exact Nat.lt_of_le_of_lt h hn
theorem num_le {i : Int} (h0 : 0 ≤ i) (h1 : i ≤ 9) : (numS i).length ≤ 2 := by
  rcases (by omega : i = 0 ∨ i = 1 ∨ i = 2 ∨ i = 3 ∨ i = 4 ∨ i = 5 ∨ i = 6 ∨ i = 7 ∨ i = 8 ∨ i = 9) with rfl | rfl | rfl | rfl | rfl | rfl | rfl | rfl | rfl | rfl <;> decide +kernel
theorem small_log {i : Int} (h0 : 0 ≤ i) (h1 : i ≤ 9) : i.natAbs.log2 < 1920 := by
  rcases (by omega : i = 0 ∨ i = 1 ∨ i = 2 ∨ i = 3 ∨ i = 4 ∨ i = 5 ∨ i = 6 ∨ i = 7 ∨ i = 8 ∨ i = 9) with rfl | rfl | rfl | rfl | rfl | rfl | rfl | rfl | rfl | rfl <;> decide +kernel
theorem bar_len (b : Bar) : b.s.length ≤ 10 := by cases b <;> decide +kernel
theorem words_size {r : Rw} (h0 : 0 ≤ r.hue) (h1 : r.hue ≤ 9) (s0 : 0 ≤ r.std) (s1 : r.std ≤ 9) (bl : r.bar.length ≤ 10) : (r.words.map (·.length)).sum + r.words.length * (" " : Str).length ≤ 16777216 := by
  have e1 : (" " : Str).length = 1 := by decide +kernel
  have e2 : ("visits" : Str).length = 6 := by decide +kernel
  have e3 : ("pauses" : Str).length = 6 := by decide +kernel
  have e4 : ("skips" : Str).length = 5 := by decide +kernel
  have e5 : ("stand " : Str).length = 6 := by decide +kernel
  have l1 := num_le h0 h1
  have l2 := num_le s0 s1
  have e6 : (("stand " : Str) ++ numS r.std).length = 6 + (numS r.std).length := by
    have z : (("stand " : Str) ++ numS r.std).length = ("stand " : Str).length + (numS r.std).length := by
      first
        | exact Str.length_append _ _
        | simp [Str.length, Str.cps_append]
    rw [z, e5]
  have g : ∀ {c : Prop} [Decidable c] (x : Str), x.length ≤ 20 → ((if c then [x] else []).map (·.length)).sum ≤ 20 ∧ (if c then [x] else []).length ≤ 1 := fun {c} _ x hx => by
    split
    · exact ⟨by simpa using hx, by simp⟩
    · exact ⟨by simp, by simp⟩
  have g1 := g (c := r.vis = true) "visits" (by rw [e2]; decide)
  have g2 := g (c := r.pau = true) "pauses" (by rw [e3]; decide)
  have g3 := g (c := r.std ≠ 0) (("stand " : Str) ++ numS r.std) (by rw [e6]; omega)
  have g4 := g (c := r.skp = true) "skips" (by rw [e4]; decide)
  unfold Rw.words
  rw [e1]
  simp only [List.map_append, List.sum_append, List.length_append, List.map_cons, List.map_nil, List.sum_cons, List.sum_nil, List.length_cons, List.length_nil]
  omega

/-! ### drawn rows -/
theorem RowsAt.fl {H H' : Hp} {a l : Addr} {rs : List Ph} (h : RowsAt H a rs) (e : Fl l H H') (n : a ≠ l) (hp : PoolAt H l) : RowsAt H' a rs := by
  obtain ⟨⟨ts, h1, h2, h3⟩, h4⟩ := h
  obtain ⟨ns, p1, _⟩ := hp
  exact ⟨⟨ts, e _ _ n h1, h2, fun i t r ht hr => e _ _ (ne_of (h3 i t r ht hr) p1 (by intro z; cases z)) (h3 i t r ht hr)⟩, h4⟩
def spCalm : Sp := fun vs H Q _ => ∃ (t : Addr) (r : Ph) (k : Int) (two : Bool), vs = [.ref t, .int k, .bl two] ∧ H t = some (.tup r.vs) ∧ r.Ok ∧ 0 ≤ k ∧ k < 6 ∧
  ∀ (r' : Ph) t' H', r'.Ok → H t' = none → Same H H' → H' t' = some (.tup r'.vs) → Q (.ref t') H'
def spRows : Sp := fun vs H Q _ => ∃ (l : Addr) (m : Int), vs = [.ref l, .int m] ∧ PoolAt H l ∧ 1 ≤ m ∧ m ≤ 6 ∧
  ∀ rs a H', RowsAt H' a rs → 1 ≤ rs.length → (rs.length : Int) ≤ m → H a = none → a ≠ l → Fl l H H' → PoolAt H' l → Q (.ref a) H'
def spPhase (K : PySem.W.Frag) : Sp := fun vs H Q _ => ∃ (t : Addr) (r : Ph), vs = [.ref t] ∧ H t = some (.tup r.vs) ∧ r.Ok ∧
  ∀ a H', H a = none → Same H H' → PhAt K H' a r → Q (.ref a) H'
abbrev calmVs : List V := [V.int 0, V.int 1, V.int 1, V.int 0, V.int 0, V.int 1]
theorem at_calm {k : Int} (h0 : 0 ≤ k) (h1 : k < 6) : ∃ g : Int, atI calmVs k = some (.int g) ∧ 0 ≤ g ∧ g ≤ 5 := by
  rcases (by omega : k = 0 ∨ k = 1 ∨ k = 2 ∨ k = 3 ∨ k = 4 ∨ k = 5) with rfl | rfl | rfl | rfl | rfl | rfl <;> exact ⟨_, rfl, by decide, by decide⟩
theorem at_two {k : Int} : ∃ b : Bar, atI [V.str "follow", V.str "guarded"] (k % 2) = some (.str b.s) := by
  rcases (by omega : k % 2 = 0 ∨ k % 2 = 1) with e | e <;> rw [e]
  · exact ⟨.follow, rfl⟩
  · exact ⟨.guarded, rfl⟩
section
variable {P : Program} [SupP P pFile] {w : World} {K : PySem.W.Frag} {mg : Str → Option Value} {base : Heap}
theorem ok_l_calm (T : Tx K mg) : FnOk P w K mg base CX0 1 (gad "_law_calm" K) (fdD K (gad "_law_calm" K)) P_l_calm spCalm := by
  refine T.F_l_calm.ok sc_l_calm (fun vs H Q E h => ?_) (fun cdv A outer s H vs Q E hr h => ?_)
  · obtain ⟨t, r, k, two, rfl, _⟩ := h; rfl
  · obtain ⟨t, r, k, two, rfl, ht, ok, k0, k6, kk⟩ := h
    refine ⟨_, PSs.nox ((pss_cons (ps_set (i := 3) sc_l_calm.nd rfl (Or.inl rfl) (pv 1))
      (C8.pss_cut (ps_if (pt_val (pv 2)) (pss_one (ps_set (i := 3) sc_l_calm.nd rfl (Or.inl rfl) (pe_ix ix_list (pe_lst (pa_cons pe_int (pa_cons pe_int (pa_cons pe_int (pa_cons pe_int (pa_cons pe_int (pa_cons pe_int pa_nil))))))) (pv 1) (fun _ _ => rfl)))) pss_nil)
      (pss_cons (ps_set (i := 4) sc_l_calm.nd rfl (Or.inl rfl) (pe_ix ix_list (pe_lst (pa_cons pe_str (pa_cons pe_str pa_nil))) (pe_op op_mod (pe_callTy call_intI (by rfl) T.n_int (by decide +kernel) (pa_cons (pe_ix ix_tup (pv 0) pe_int (fun _ _ => rfl)) pa_nil)) pe_int) (fun _ _ => rfl)))
      (pss_one (ps_ret (pe_tup (pa_cons (pv 3) (pa_cons (pv 4) (pa_cons (pe_cmpR op_eq (pe_op op_mod (pe_callTy call_intI (by rfl) T.n_int (by decide +kernel) (pa_cons (pv 1) pa_nil)) pe_int) pe_int (nomark _)) (pa_cons pe_bl (pa_cons (pe_op op_mul (pe_op op_mod (pe_callTy call_intI (by rfl) T.n_int (by decide +kernel) (pa_cons (pv 1) pa_nil)) pe_int) (pe_op op_add pe_int (pe_op op_mod (pe_callTy call_intI (by rfl) T.n_int (by decide +kernel) (pa_cons (pe_ix ix_tup (pv 0) pe_int (fun _ _ => rfl)) pa_nil)) pe_int))) (pa_cons pe_bl pa_nil))))))))))))), ?_⟩
    refine ⟨_, rfl, ?_⟩
    refine ⟨fun σ H' => ∃ g : Int, σ = [some (.ref t), some (.int k), some (.bl two), some (.int g), none] ∧ 0 ≤ g ∧ g ≤ 5 ∧ Same H H', ?_, ?_⟩
    · refine ⟨_, rfl, _, rfl, ?_⟩
      refine iteB (fun _ => ?_) (fun _ => ?_)
      · obtain ⟨g, hg, g0, g1⟩ := at_calm k0 k6
        refine ⟨(show (6 : Nat) ≤ sizeLine by decide), fun p1 np1 => ⟨_, rfl, _, _, _, _, rfl, rfl, SqL.of upd_same, hg, ?_⟩⟩
        exact ⟨g, rfl, g0, g1, Same.new np1⟩
      · exact ⟨k, rfl, k0, by omega, Same.refl H⟩
    · rintro σ H1 ⟨g, rfl, g0, g1, S⟩
      have ht1 := S _ _ ht
      obtain ⟨b, hb⟩ := at_two (k := r.hue)
      refine ⟨(show (2 : Nat) ≤ sizeLine by decide), fun p1 np1 => ⟨_, rfl, _, _, _, _, rfl, rfl, SqT.of (upd_old np1 ht1), rfl, _, rfl, _, _, rfl, rfl, (show (0 : Int) < 2 by decide), _, _, _, _, rfl, rfl, SqL.of upd_same, hb, ?_⟩⟩
      refine ⟨_, rfl, _, rfl, _, rfl, _, rfl, _, _, rfl, rfl, (show (0 : Int) < 2 by decide), rfl, _, rfl, _, rfl, _, _, rfl, rfl, (show (0 : Int) < 2 by decide), _, rfl, _, _, _, _, rfl, rfl, SqT.of (upd_old np1 ht1), rfl, _, rfl, _, _, rfl, rfl, (show (0 : Int) < 6 by decide), _, _, rfl, rfl, _, _, rfl, rfl, ?_⟩
      refine ⟨.inl ⟨by omega, by omega⟩, (show (6 : Nat) ≤ sizeLine by decide), fun t' nt => ?_⟩
      refine kk ⟨g, b, _, true, _, false⟩ t' _ ⟨g0, g1, ?_, ?_⟩ (S.free (Same.free (Same.new np1) nt)) (Same.upd (Same.upd S (S.free np1)) (S.free (Same.free (Same.new np1) nt))) upd_same
      · show 0 ≤ k % 2 * (2 + r.std % 6)
        rcases (by omega : k % 2 = 0 ∨ k % 2 = 1) with e | e <;> rw [e] <;> omega
      · show k % 2 * (2 + r.std % 6) ≤ 7
        rcases (by omega : k % 2 = 0 ∨ k % 2 = 1) with e | e <;> rw [e] <;> omega
theorem ok_l_phase (T : Tx K mg) : FnOk P w K mg base CX0 5 (gad "_law_phase" K) (fdD K (gad "_law_phase" K)) P_l_phase (spPhase K) := by
  obtain ⟨_, kb_Phase_barrier_visits_pauses_stand_skips⟩ := kb_Phase_barrier_visits_pauses_stand_skips T
  refine T.F_l_phase.ok sc_l_phase (fun vs H Q E h => ?_) (fun cdv A outer s H vs Q E hr h => ?_)
  · obtain ⟨t, r, rfl, _⟩ := h; rfl
  · obtain ⟨t, r, rfl, ht, ok, k⟩ := h
    refine ⟨_, PSs.nox ((pss_one (ps_ret (pe_makeK T.mk_Phase (ok_Phase_init (P := P) T) (hr.mono (by decide)) rfl T.g_Phase kb_Phase_barrier_visits_pauses_stand_skips passL (pa_cons (pe_ix ix_tup (pv 0) pe_int (fun _ _ => rfl)) pa_nil) (pk_cons (pe_ix ix_tup (pv 0) pe_int (fun _ _ => rfl)) (pk_cons (pe_ix ix_tup (pv 0) pe_int (fun _ _ => rfl)) (pk_cons (pe_ix ix_tup (pv 0) pe_int (fun _ _ => rfl)) (pk_cons (pe_ix ix_tup (pv 0) pe_int (fun _ _ => rfl)) (pk_cons (pe_ix ix_tup (pv 0) pe_int (fun _ _ => rfl)) pk_nil))))))))), ?_⟩
    refine ⟨_, rfl, _, _, _, _, rfl, rfl, (by walk_at "seq"), (by walk_at "at"), _, rfl, _, _, _, _, rfl, rfl, (by walk_at "seq"), (by walk_at "at"), _, rfl, _, _, _, _, rfl, rfl, (by walk_at "seq"), (by walk_at "at"), _, rfl, _, _, _, _, rfl, rfl, (by walk_at "seq"), (by walk_at "at"), _, rfl, _, _, _, _, rfl, rfl, (by walk_at "seq"), (by walk_at "at"), _, rfl, _, _, _, _, rfl, rfl, (by walk_at "seq"), (by walk_at "at"), rfl, rfl, fun x dx nx ndx nex => ?_⟩
    refine ⟨x, dx, r.rw, rfl, upd_same, fun _ H4 f4 h4 => ⟨rfl, ?_⟩, fun f hf => absurd ((Ph.good ok).symm.trans hf) (by simp)⟩
    exact k x H4 nx (made_same nx ndx f4) ⟨dx, h4⟩

end
theorem RowsAt.nil {H : Hp} {D : Addr} : RowsAt (upd H D (.lst [])) D [] := ⟨⟨[], upd_same, rfl, fun i t r h _ => by simp at h⟩, fun r h => by cases h⟩
theorem RowsAt.snoc {H : Hp} {D t : Addr} {rs : List Ph} {r : Ph} (h : RowsAt H D rs) (ht : H t = some (.tup r.vs)) (hr : r.Ok) :
    ∃ xs, H D = some (.lst xs) ∧ xs.length = rs.length ∧ RowsAt (upd H D (.lst (xs ++ [.ref t]))) D (rs ++ [r]) := by
  obtain ⟨⟨ts, h1, h2, h3⟩, h4⟩ := h
  refine ⟨_, h1, by rw [List.length_map, h2], ⟨ts ++ [t], by rw [upd_same, List.map_append]; rfl, by rw [List.length_append, List.length_append, h2]; rfl, fun i t' r' a b => ?_⟩, fun q hq => ?_⟩
  · have tup : ∀ {x : Addr} {q : Ph}, H x = some (.tup q.vs) → ∀ u, upd H D (.lst u) x = some (.tup q.vs) := fun hx u => upd_oth (ne_of hx h1 (by intro z; cases z)) hx
    by_cases hi : i < ts.length
    · rw [List.getElem?_append_left hi] at a
      rw [List.getElem?_append_left (by omega)] at b
      exact tup (h3 i t' r' a b) _
    · rw [List.getElem?_append_right (by omega)] at a
      rw [List.getElem?_append_right (by omega)] at b
      have e0 : i - ts.length = 0 := by
        have := (List.getElem?_eq_some_iff.mp a).1
        simp at this
        omega
      have e1 : i - rs.length = 0 := by omega
      rw [e0] at a
      rw [e1] at b
      cases a
      cases b
      exact tup ht _
  · rcases List.mem_append.mp hq with z | z
    · exact h4 q z
    · rw [List.mem_singleton.mp z]; exact hr
theorem RowsAt.put {H : Hp} {D t : Addr} {rs : List Ph} {r : Ph} {i : Nat} (h : RowsAt H D rs) (ht : H t = some (.tup r.vs)) (hr : r.Ok) :
    ∃ xs, H D = some (.lst xs) ∧ xs.length = rs.length ∧ RowsAt (upd H D (.lst (xs.set i (.ref t)))) D (rs.set i r) := by
  obtain ⟨⟨ts, h1, h2, h3⟩, h4⟩ := h
  refine ⟨_, h1, by rw [List.length_map, h2], ⟨ts.set i t, by rw [upd_same, List.map_set], by rw [List.length_set, List.length_set, h2], fun j t' r' a b => ?_⟩, fun q hq => ?_⟩
  · have tup : ∀ {x : Addr} {q : Ph}, H x = some (.tup q.vs) → ∀ u, upd H D (.lst u) x = some (.tup q.vs) := fun hx u => upd_oth (ne_of hx h1 (by intro z; cases z)) hx
    rw [List.getElem?_set] at a b
    split at a
    · rename_i ei
      rw [if_pos ei] at b
      split at a
      · split at b
        · cases a; cases b
          exact tup ht _
        · cases b
      · cases a
    · rename_i ei
      rw [if_neg ei] at b
      exact tup (h3 j t' r' a b) _
  · rcases List.mem_or_eq_of_mem_set hq with z | z
    · exact h4 q z
    · rw [z]; exact hr
theorem ixN_of {n : Nat} {i : Int} (h0 : 0 ≤ i) (h1 : i < n) : ixN n i = some i.toNat := by
  unfold ixN
  rw [if_pos h0, if_pos h1]
theorem row_at (r : Ph) : atI r.vs 0 = some (.int r.hue) ∧ atI r.vs 1 = some (.str r.bar.s) ∧ atI r.vs 2 = some (.bl r.vis) ∧ atI r.vs 3 = some (.bl r.pau) ∧ atI r.vs 4 = some (.int r.std) ∧ atI r.vs 5 = some (.bl r.skp) := ⟨rfl, rfl, rfl, rfl, rfl, rfl⟩
section
variable {P : Program} [SupP P pFile] {w : World} {K : PySem.W.Frag} {mg : Str → Option Value} {base : Heap}
theorem ok_l_rows (T : Tx K mg) : FnOk P w K mg base CX0 5 (gad "_law_rows" K) (fdD K (gad "_law_rows" K)) P_l_rows spRows := by
  refine T.F_l_rows.ok sc_l_rows (fun vs H Q E h => ?_) (fun cdv A outer s H vs Q E hr h => ?_)
  · obtain ⟨l, m, rfl, _⟩ := h; rfl
  · obtain ⟨l, m, rfl, hP, m1, m6, k⟩ := h
    refine ⟨_, PSs.nox ((pss_cons (ps_set (i := 2) sc_l_rows.nd rfl (Or.inl rfl) (pe_op op_add pe_int (pe_call (ok_l_take (P := P) T) (hr.mono (by decide)) rfl T.g_l_take T.F_l_take.kp (bd_l_take T) .nil pass0 (pa_cons (pv 0) (pa_cons (pv 1) pa_nil)))))
      (pss_cons (ps_set (i := 3) sc_l_rows.nd rfl (Or.inl rfl) (pe_call (ok_l_take (P := P) T) (hr.mono (by decide)) rfl T.g_l_take T.F_l_take.kp (bd_l_take T) .nil pass0 (pa_cons (pv 0) (pa_cons pe_int pa_nil))))
      (pss_cons (ps_set (i := 4) sc_l_rows.nd rfl (Or.inr rfl) (pe_lc (own := [("_law_k", 8)]) (g := gName 8) (tt := tYes) rfl sc_l_rows.nd (pi_range1 (by rfl) T.n_range (pa_cons (pv 2) pa_nil)) (blkOk_by (own := [("_law_k", 8)]) (N := N_l_rows) (sc := defScope s_l_rows) (by decide +kernel)) (fun _ _ _ _ _ => (pg_name (i := 8) sc_l_rows.nd rfl (Or.inl rfl))) (fun _ _ _ _ _ => pts_nil) (fun _ _ _ _ _ => (pe_call (ok_l_raw (P := P) T) (hr.mono (by decide)) rfl T.g_l_raw T.F_l_raw.kp (bd_l_raw T) .nil pass0 (pa_cons (pv 0) pa_nil)))))
      (pss_cons (ps_if (pt_cmpR op_eq (pv 3) pe_int (nomark _)) (pss_one (ps_ret (pv 4))) pss_nil)
      (C8.pss_cut (ps_set (i := 5) sc_l_rows.nd rfl (Or.inr rfl) (pe_or (pe_cmpR op_eq (pv 3) pe_int (nomark _)) (pe_one (pe_and (pe_cmpR op_eq (pv 3) pe_int (nomark _)) (pe_one (pe_ix ix_tup (pe_ix ix_list (pv 4) pe_int (fun _ _ => rfl)) pe_int (fun _ _ => rfl)))))))
      (pss_cons (ps_setLc (i := 6) (own := [("_law_k", 8)]) (g := gName 8) (tt := tYes) rfl sc_l_rows.nd rfl rfl (sw_true rfl rfl rfl (by decide +kernel)) (pi_range1 (by rfl) T.n_range (pa_cons (pv 2) pa_nil)) (blkOk_by (own := [("_law_k", 8)]) (N := N_l_rows) (sc := defScope s_l_rows) (by decide +kernel)) (fun _ _ _ _ _ => (pg_name (i := 8) sc_l_rows.nd rfl (Or.inl rfl))) (fun _ _ _ _ _ => pts_nil) (fun _ _ _ _ _ => (pe_call (ok_l_calm (P := P) T) (hr.mono (by decide)) rfl T.g_l_calm T.F_l_calm.kp (bd_l_calm T) .nil pass0 (pa_cons (pe_ix (ix_listK (K := K) rfl) (pv 4) (pv 8) (fun _ _ => rfl)) (pa_cons (pv 8) (pa_cons (pv 5) pa_nil))))))
      (pss_cons (ps_if (pt_cmpR op_eq (pv 3) pe_int (nomark _)) (pss_cons (ps_set (i := 7) sc_l_rows.nd rfl (Or.inl rfl) (pe_call (ok_l_take (P := P) T) (hr.mono (by decide)) rfl T.g_l_take T.F_l_take.kp (bd_l_take T) .nil pass0 (pa_cons (pv 0) (pa_cons (pv 2) pa_nil))))
      (pss_one (ps_asg (pe_ix ix_list (pv 4) (pv 7) (fun _ _ => rfl)) (pg_sub (pv 6) (pv 7) set_list)))) pss_nil)
      (pss_one (ps_ret (pv 6))))))))))), ?_⟩
    refine ⟨_, rfl, _, rfl, l, m, rfl, hP, by omega, fun v H1 v0 v1 o1 P1 => ⟨_, _, rfl, rfl, ?_⟩⟩
    refine ⟨_, rfl, l, 4, rfl, P1, by omega, fun st H2 s0 s1 o2 P2 => ?_⟩
    refine ⟨_, rfl, _, rfl, by omega, by omega, fun D nD => ?_⟩
    have Dl : D ≠ l := P2.ne nD
    have nv : (1 + v).toNat = v.toNat + 1 := by omega
    refine lc_range (lo := 0) (n := _) (fun i H' => ∃ rs, RowsAt H' D rs ∧ rs.length = i ∧ Fl l H2 H' ∧ PoolAt H' l) ⟨[], RowsAt.nil, rfl, Fl.new nD, P2.upd nD⟩ ?_ ?_
    · rintro i H3 hi ⟨rs, R, hl, f3, P3⟩
      refine ⟨rfl, ?_⟩
      refine ⟨_, rfl, l, rfl, P3, fun r t H4 ok nt tl f4 P4 ht => ?_⟩
      obtain ⟨xs, h1, h2, h3⟩ := (R.fl f4 Dl P3).snoc ht ok
      exact ⟨xs, h1, small1000 (by omega), rs ++ [r], h3, by rw [List.length_append, hl]; rfl, fun a o n h => upd_oth (ne_of_none h nD) ((f3.trans f4) a o n h), by obtain ⟨ns, p1, p2⟩ := P4; exact ⟨ns, upd_oth Dl.symm p1, p2⟩⟩
    · rintro H3 ⟨rs, R, hl, f3, P3⟩
      have fH : Fl l H H3 := (o1.trans o2).trans f3
      have Dn : H D = none := (o1.trans o2).free Dl nD
      refine ⟨_, rfl, rfl, _, rfl, ?_⟩
      refine iteB (fun _ => ?_) (fun _ => ?_)
      · exact ⟨_, rfl, k rs D H3 R (by omega) (by omega) Dn Dl fH P3⟩
      obtain ⟨xs0, t0, r0, hx0, ha0, hr0, ok0, ht0⟩ := R.row (i := 0) (by omega) (by omega)
      refine ⟨fun σ H' => ∃ b : Bool, σ = [some (.ref l), some (.int m), some (.int (1 + v)), some (.int st), some (.ref D), some (.bl b), none, none, none] ∧ H3 = H', ?_, ?_⟩
      · refine ⟨_, rfl, rfl, _, rfl, ?_⟩
        refine iteB (fun _ => ⟨_, rfl, rfl⟩) (fun _ => ?_)
        refine ⟨_, rfl, rfl, _, rfl, ?_⟩
        refine iteB (fun _ => ?_) (fun _ => ⟨_, rfl, rfl⟩)
        exact ⟨_, rfl, _, _, _, _, rfl, rfl, SqL.of hx0, ha0, _, _, _, _, rfl, rfl, SqT.of ht0, (row_at r0).2.2.1, ⟨_, rfl, rfl⟩⟩
      · rintro σ H' ⟨b, rfl, rfl⟩
        refine ⟨_, rfl, _, rfl, by omega, by omega, fun D2 nD2 => ?_⟩
        have Dl2 : D2 ≠ l := P3.ne nD2
        have DD : D ≠ D2 := ne_of_none hx0 nD2
        refine lc_range (lo := 0) (n := _) (fun i H' => ∃ rs2, RowsAt H' D2 rs2 ∧ rs2.length = i ∧ Same H3 H') ⟨[], RowsAt.nil, rfl, Same.new nD2⟩ ?_ ?_
        · rintro i H4 hi ⟨rs2, R2, hl2, S4⟩
          refine ⟨rfl, ?_⟩
          obtain ⟨xs1, t1, r1, hx1, ha1, hr1, ok1, ht1⟩ := R.row (i := 0 + (i : Int)) (by omega) (by omega)
          refine ⟨_, rfl, _, rfl, _, _, _, _, rfl, rfl, SqL.of (S4 _ _ hx1), ha1, _, rfl, _, rfl, t1, r1, _, b, rfl, S4 _ _ ht1, ok1, by omega, by omega, fun r' t' H5 ok' nt' S5 ht' => ?_⟩
          obtain ⟨xs, h1, h2, h3⟩ := (R2.mono S5).snoc ht' ok'
          exact ⟨xs, h1, small1000 (by omega), rs2 ++ [r'], h3, by rw [List.length_append, hl2]; rfl, Same.upd (S4.trans S5) nD2⟩
        · rintro H4 ⟨rs2, R2, hl2, S4⟩
          have P4 : PoolAt H4 l := by obtain ⟨ns, p1, p2⟩ := P3; exact ⟨ns, S4 _ _ p1, p2⟩
          have f4 : Fl l H H4 := fH.trans (Fl.same S4)
          have Dn2 : H D2 = none := fH.free Dl2 nD2
          refine ⟨_, rfl, rfl, _, rfl, ?_⟩
          refine iteB (fun _ => ?_) (fun _ => ?_)
          · refine ⟨_, rfl, _, rfl, l, _, rfl, P4, by omega, fun at' H5 a0 a1 o5 P5 => ?_⟩
            have R5 := (R.mono S4).fl o5 Dl P4
            have R25 := R2.fl o5 Dl2 P4
            obtain ⟨xs1, t1, r1, hx1, ha1, hr1, ok1, ht1⟩ := R5.row (i := at') a0 (by omega)
            obtain ⟨xs, h1, h2, h3⟩ := R25.put (i := at'.toNat) ht1 ok1
            refine ⟨_, rfl, _, rfl, _, _, _, _, rfl, rfl, SqL.of hx1, ha1, _, rfl, _, rfl, D2, xs, _, _, rfl, rfl, h1, ixN_of a0 (by omega), ?_⟩
            refine ⟨_, rfl, k _ D2 _ h3 (by rw [List.length_set]; omega) (by rw [List.length_set]; omega) Dn2 Dl2 (fun a o n h => upd_oth (ne_of_none h Dn2) ((f4.trans o5) a o n h)) (by obtain ⟨ns, p1, p2⟩ := P5; exact ⟨ns, upd_oth Dl2.symm p1, p2⟩)⟩
          · exact ⟨_, rfl, k rs2 D2 H4 R2 (by omega) (by omega) Dn2 Dl2 f4 P4⟩
end

section
variable {P : Program} [SupP P pFile] {w : World} {K : PySem.W.Frag} {mg : Str → Option Value} {base : Heap}
theorem ok_Phase_text (T : Tx K mg) : FnOk P w K mg base CX0 1 (pad "property" "Phase" "text" K) (fdD K (pad "property" "Phase" "text" K)) P_Phase_text (spPhText K) := by
  refine T.F_Phase_text.ok sc_Phase_text (fun vs H Q E h => ?_) (fun cdv A outer s H vs Q E hr h => ?_)
  · obtain ⟨a, r, rfl, _⟩ := h; rfl
  · obtain ⟨a, r, rfl, ⟨dx, ha⟩, hg, k⟩ := h
    obtain ⟨ph, ok, er⟩ := Rw.good hg
    have h0 : 0 ≤ r.hue := by rw [← er]; exact ok.h0
    have h1 : r.hue ≤ 9 := by rw [← er]; exact Int.le_trans ok.h1 (by decide)
    have s0 : 0 ≤ r.std := by rw [← er]; exact ok.s0
    have s1 : r.std ≤ 9 := by rw [← er]; exact Int.le_trans ok.s1 (by decide)
    have bl : r.bar.length ≤ 10 := by rw [← er]; exact bar_len ph.bar
    refine ⟨_, PSs.nox ((pss_cons (ps_set (i := 1) sc_Phase_text.nd rfl (Or.inl rfl) (pe_lst (pa_cons (pe_callTy call_str_int (by rfl) T.n_str (by decide +kernel) (pa_cons (pe_fld (pv 0) rfl) pa_nil)) (pa_cons (pe_fld (pv 0) rfl) pa_nil))))
      (C8.pss_cut (ps_if (pt_val (pe_fld (pv 0) rfl)) (pss_one (ps_expr (pe_bm PySem.F.plainAttrs_list PySem.F.slot_list_append PySem.F.type_list_append mt_append (pv 1) (pa_cons pe_str pa_nil)))) pss_nil)
      (C8.pss_cut (ps_if (pt_val (pe_fld (pv 0) rfl)) (pss_one (ps_expr (pe_bm PySem.F.plainAttrs_list PySem.F.slot_list_append PySem.F.type_list_append mt_append (pv 1) (pa_cons pe_str pa_nil)))) pss_nil)
      (C8.pss_cut (ps_if (pt_cmpR op_ne (pe_fld (pv 0) rfl) pe_int (nomark _)) (pss_one (ps_expr (pe_bm PySem.F.plainAttrs_list PySem.F.slot_list_append PySem.F.type_list_append mt_append (pv 1) (pa_cons (pe_op op_add_str pe_str (pe_callTy call_str_int (by rfl) T.n_str (by decide +kernel) (pa_cons (pe_fld (pv 0) rfl) pa_nil))) pa_nil)))) pss_nil)
      (C8.pss_cut (ps_if (pt_val (pe_fld (pv 0) rfl)) (pss_one (ps_expr (pe_bm PySem.F.plainAttrs_list PySem.F.slot_list_append PySem.F.type_list_append mt_append (pv 1) (pa_cons pe_str pa_nil)))) pss_nil)
      (pss_one (ps_ret (pe_join pe_str (pv 1)))))))))), ?_⟩
    refine ⟨_, rfl, a, _, dx, _, _, rfl, ha, T.c_Phase, T.na_Phase_hue, rw_hue r, _, rfl, small_log h0 h1, _, rfl, a, _, dx, _, _, rfl, ha, T.c_Phase, T.na_Phase_barrier, rw_barrier r, (show (2 : Nat) ≤ sizeLine by decide), fun l nl => ?_⟩
    refine ⟨WdAt H a l ([numS r.hue, r.bar] ++ (if r.vis = true then [("visits" : Str)] else [])), ?_, ?_⟩
    · have ha0 := upd_old (u := .lst [.str (numS r.hue), .str r.bar]) nl ha
      refine ⟨_, rfl, a, _, dx, _, _, rfl, ha0, T.c_Phase, T.na_Phase_visits, rw_visits r, _, rfl, iteB (fun c => ?_) (fun c => ?_)⟩
      · refine ⟨_, rfl, .inl ⟨rfl, _, SqL.of upd_same⟩, l, _, _, rfl, rfl, upd_same, (show (2 : Nat) < sizeLine by decide), rfl, nl, ?_, ?_⟩
        · simp only [upd_upd]; exact Same.new nl
        · rw [if_pos c]; exact upd_same
      · refine ⟨rfl, nl, ?_, ?_⟩
        · exact Same.new nl
        · rw [if_neg (by rw [c]; exact Bool.false_ne_true)]; exact upd_same
    · rintro σ H1 ⟨rfl, _, S1, w1⟩
      have z1 : ([numS r.hue, r.bar] ++ (if r.vis = true then [("visits" : Str)] else [])).length ≤ 3 := by split <;> simp
      have ha1 := S1 _ _ ha
      generalize e1 : ([numS r.hue, r.bar] ++ (if r.vis = true then [("visits" : Str)] else [])) = ws1 at w1 z1
      refine ⟨WdAt H a l (ws1 ++ (if r.pau = true then [("pauses" : Str)] else [])), ?_, ?_⟩
      · refine ⟨_, rfl, a, _, dx, _, _, rfl, ha1, T.c_Phase, T.na_Phase_pauses, rw_pauses r, _, rfl, iteB (fun c => ?_) (fun c => ?_)⟩
        · refine ⟨_, rfl, .inl ⟨rfl, _, SqL.of w1⟩, l, _, _, rfl, rfl, w1, wd_lt z1 (by decide), ?_⟩
          rw [if_pos c]
          exact WdAt.put nl S1
        · rw [if_neg (by rw [c]; exact Bool.false_ne_true), List.append_nil]
          exact ⟨rfl, nl, S1, w1⟩
      · rintro σ H2 ⟨rfl, _, S2, w2⟩
        have z2 : (ws1 ++ (if r.pau = true then [("pauses" : Str)] else [])).length ≤ 4 := by rw [List.length_append]; split <;> simp <;> omega
        have ha2 := S2 _ _ ha
        generalize e2 : (ws1 ++ (if r.pau = true then [("pauses" : Str)] else [])) = ws2 at w2 z2
        refine ⟨WdAt H a l (ws2 ++ (if r.std ≠ 0 then [("stand " : Str) ++ numS r.std] else [])), ?_, ?_⟩
        · refine ⟨_, rfl, a, _, dx, _, _, rfl, ha2, T.c_Phase, T.na_Phase_stand, rw_stand r, rfl, _, rfl, ?_⟩
          by_cases c : r.std = 0
          · refine iteNS (show V.int r.std = V.int 0 by rw [c]) ?_
            rw [if_neg (fun z => z c), List.append_nil]
            exact ⟨rfl, nl, S2, w2⟩
          · refine iteND (fun z => c (V.int.inj z)) ?_
            refine ⟨_, rfl, .inl ⟨rfl, _, SqL.of w2⟩, _, rfl, a, _, dx, _, _, rfl, ha2, T.c_Phase, T.na_Phase_stand, rw_stand r, _, rfl, small_log s0 s1, _, _, rfl, rfl, ?_, l, _, _, rfl, rfl, w2, wd_lt z2 (by decide), ?_⟩
            · have := num_le s0 s1
              have e6 : ("stand " : Str).length = 6 := by decide +kernel
              rw [e6]
              exact Nat.le_trans (show _ ≤ 100 by show 6 + (numS r.std).length ≤ 100; omega) (by decide)
            · rw [if_pos c]
              exact WdAt.put nl S2
        · rintro σ H3 ⟨rfl, _, S3, w3⟩
          have z3 : (ws2 ++ (if r.std ≠ 0 then [("stand " : Str) ++ numS r.std] else [])).length ≤ 5 := by rw [List.length_append]; split <;> simp <;> omega
          have ha3 := S3 _ _ ha
          generalize e3 : (ws2 ++ (if r.std ≠ 0 then [("stand " : Str) ++ numS r.std] else [])) = ws3 at w3 z3
          refine ⟨WdAt H a l (ws3 ++ (if r.skp = true then [("skips" : Str)] else [])), ?_, ?_⟩
          · refine ⟨_, rfl, a, _, dx, _, _, rfl, ha3, T.c_Phase, T.na_Phase_skips, rw_skips r, _, rfl, iteB (fun c => ?_) (fun c => ?_)⟩
            · refine ⟨_, rfl, .inl ⟨rfl, _, SqL.of w3⟩, l, _, _, rfl, rfl, w3, wd_lt z3 (by decide), ?_⟩
              rw [if_pos c]
              exact WdAt.put nl S3
            · rw [if_neg (by rw [c]; exact Bool.false_ne_true), List.append_nil]
              exact ⟨rfl, nl, S3, w3⟩
          · rintro σ H4 ⟨rfl, _, S4, w4⟩
            have ew : ws3 ++ (if r.skp = true then [("skips" : Str)] else []) = r.words := by
              unfold Rw.words
              rw [← e3, ← e2, ← e1]
            rw [ew] at w4
            refine ⟨⟨_, rfl⟩, _, rfl, _, l, _, rfl, rfl, .inl (SqL.of w4), ?_, ?_⟩
            · exact words_size h0 h1 s0 s1 bl
            · exact k _ S4
end

/-! ### slices of rows -/
theorem yesT {σ : L2.St} {H : Hp} {Q : Bool → Hp → Prop} (h : Q true H) : tYes σ H Q := h
theorem cut_take (xs : List V) {i : Int} (h0 : 0 ≤ i) (h1 : i ≤ xs.length) : cutV xs none (some i) = xs.take i.toNat := by
  have e : i = ((i.toNat : Nat) : Int) := (Int.toNat_of_nonneg h0).symm
  unfold cutV
  rw [e, HT.sIx_nat, HT.sIx_none, List.drop_zero, Int.toNat_natCast, Nat.sub_zero, Nat.min_eq_left (by omega)]
theorem cut_drop (xs : List V) {i : Int} (h0 : 0 ≤ i) (h1 : i ≤ xs.length) : cutV xs (some i) none = xs.drop i.toNat := by
  have e : i = ((i.toNat : Nat) : Int) := (Int.toNat_of_nonneg h0).symm
  unfold cutV
  rw [e, HT.sIx_nat, HT.sIx_none, Int.toNat_natCast, Nat.min_eq_left (by omega)]
  exact List.take_of_length_le (by rw [List.length_drop]; exact Nat.le_refl _)
theorem set_cut {α : Type} (xs : List α) (i : Nat) (x : α) (h : i < xs.length) : xs.take i ++ [x] ++ xs.drop (i + 1) = xs.set i x := by
  rw [List.set_eq_take_append_cons_drop, if_pos h]
  simp
theorem RowsAt.keep {H H' : Hp} {a l : Addr} {rs : List Ph} {u : List V} (h : RowsAt H a rs) (e : Fl l H H') (n : a ≠ l) (hl : H l = some (.lst u)) : RowsAt H' a rs := by
  obtain ⟨⟨ts, h1, h2, h3⟩, h4⟩ := h
  exact ⟨⟨ts, e _ _ n h1, h2, fun i t r ht hr => e _ _ (ne_of (h3 i t r ht hr) hl (by intro z; cases z)) (h3 i t r ht hr)⟩, h4⟩
abbrev rAddI : R2 := rI0 fun i j => .int (i + j)
/-- rows[:at] + [te] + rows[at + 1:] -/
theorem later_okG {K : PySem.W.Frag} {σ : L2.St} {H : Hp} {Q : VK} {i j : Nat} {te : TE} {a t : Addr} {rs : List Ph} {r : Ph} {at' : Int} (hi : σ[i]? = some (some (.ref a))) (hj : σ[j]? = some (some (.int at'))) (he : ∀ (H1 : Hp) (R : VK), Same H H1 → R (.ref t) H1 → te σ H1 R)
    (R : RowsAt H a rs) (h0 : 0 ≤ at') (h1 : at' < rs.length) (hz : rs.length ≤ 6) (ht : H t = some (.tup r.vs)) (ok : r.Ok) (q : ∀ D H', H D = none → Same H H' → RowsAt H' D (rs.set at'.toNat r) → Q (.ref D) H') :
    tOp rCat (tOp rCat (tSl (rSlL K) (tVar i) tNoPart (tPart (tVar j))) (tLst (tCons te tNil))) (tSl (rSlL K) (tVar i) (tPart (tOp rAddI (tVar j) (tC (.int 1)))) tNoPart) σ H Q := by
  obtain ⟨⟨ts, h2, h3, h4⟩, h5⟩ := id R
  refine ⟨_, hi, _, hj, _, rfl, a, _, rfl, SqL.of h2, fun p1 n1 => ?_⟩
  refine he _ _ (Same.new n1) ⟨(show (1 : Nat) ≤ sizeLine by decide), fun p2 n2 => ?_⟩
  have n2' : H p2 = none := Same.free (Same.new n1) n2
  refine ⟨p1, p2, _, _, rfl, rfl, upd_old n2 upd_same, upd_same, ?_, fun p3 n3 => ?_⟩
  · have := cutV_length (ts.map V.ref) none (some at')
    rw [List.length_map] at this
    exact Nat.le_trans (show _ ≤ 100 by show _ + 1 ≤ 100; omega) (by decide)
  have S3 : Same H (upd (upd (upd H p1 (.lst (cutV (ts.map V.ref) none (some at')))) p2 (.lst [.ref t])) p3 (.lst (cutV (ts.map V.ref) none (some at') ++ [.ref t]))) :=
    Same.upd (Same.upd (Same.new n1) n2') (Same.free (Same.upd (Same.new n1) n2') n3)
  refine ⟨_, hi, _, hj, _, _, rfl, rfl, _, rfl, a, _, rfl, SqL.of (S3 _ _ h2), fun p4 n4 => ?_⟩
  refine ⟨p3, p4, _, _, rfl, rfl, upd_old n4 upd_same, upd_same, ?_, fun p5 n5 => ?_⟩
  · have l1 := cutV_length (ts.map V.ref) none (some at')
    have l2 := cutV_length (ts.map V.ref) (some (at' + 1)) none
    rw [List.length_map] at l1 l2
    rw [List.length_append]
    exact Nat.le_trans (show _ ≤ 100 by show _ + 1 + _ ≤ 100; omega) (by decide)
  have n4' := S3.free n4
  have S4 := Same.upd (u := .lst (cutV (ts.map V.ref) (some (at' + 1)) none)) S3 n4'
  have n5' := S4.free n5
  refine q p5 _ n5' (Same.upd S4 n5') ?_
  have el : (ts.map V.ref).length = rs.length := by rw [List.length_map, h3]
  rw [cut_take _ h0 (by omega), cut_drop _ (by omega) (by omega)]
  have ea : (at' + 1).toNat = at'.toNat + 1 := by omega
  rw [ea, set_cut _ _ _ (by omega)]
  refine ⟨⟨ts.set at'.toNat t, by rw [upd_same, List.map_set], by rw [List.length_set, List.length_set, h3], fun m t' r' ha hb => ?_⟩, fun x hx => ?_⟩
  · have S5 : Same H (upd (upd (upd (upd (upd H p1 (.lst ((ts.map V.ref).take at'.toNat))) p2 (.lst [.ref t])) p3 (.lst ((ts.map V.ref).take at'.toNat ++ [.ref t]))) p4 (.lst ((ts.map V.ref).drop (at'.toNat + 1)))) p5 (.lst ((ts.map V.ref).set at'.toNat (.ref t)))) := by
      refine Same.upd (Same.upd (Same.upd (Same.upd (Same.new n1) n2') ?_) n4') n5'
      exact Same.free (Same.upd (Same.new n1) n2') n3
    rw [List.getElem?_set] at ha hb
    split at ha
    · rename_i ei
      rw [if_pos ei] at hb
      split at ha
      · split at hb
        · cases ha; cases hb
          exact S5 _ _ ht
        · cases hb
      · cases ha
    · rename_i ei
      rw [if_neg ei] at hb
      exact S5 _ _ (h4 m t' r' ha hb)
  · rcases List.mem_or_eq_of_mem_set hx with z | z
    · exact h5 x z
    · rw [z]; exact ok
/-- rows[:at] + [new] + rows[at + 1:] -/
theorem later_ok {K : PySem.W.Frag} {σ : L2.St} {H : Hp} {Q : VK} {i j k : Nat} {a t : Addr} {rs : List Ph} {r : Ph} {at' : Int} (hi : σ[i]? = some (some (.ref a))) (hj : σ[j]? = some (some (.int at'))) (hk : σ[k]? = some (some (.ref t)))
    (R : RowsAt H a rs) (h0 : 0 ≤ at') (h1 : at' < rs.length) (hz : rs.length ≤ 6) (ht : H t = some (.tup r.vs)) (ok : r.Ok) (q : ∀ D H', H D = none → Same H H' → RowsAt H' D (rs.set at'.toNat r) → Q (.ref D) H') :
    tOp rCat (tOp rCat (tSl (rSlL K) (tVar i) tNoPart (tPart (tVar j))) (tLst (tCons (tVar k) tNil))) (tSl (rSlL K) (tVar i) (tPart (tOp rAddI (tVar j) (tC (.int 1)))) tNoPart) σ H Q :=
  later_okG hi hj (fun _ _ _ h => ⟨_, hk, h⟩) R h0 h1 hz ht ok q
def Ph.withSkp (r : Ph) (b : Bool) : Ph := { r with skp := b }
theorem Ph.Ok.withSkp {r : Ph} (ok : r.Ok) (b : Bool) : (r.withSkp b).Ok := ⟨ok.h0, ok.h1, ok.s0, ok.s1⟩
theorem cut5 (r : Ph) : cutV r.vs none (some 5) = [.int r.hue, .str r.bar.s, .bl r.vis, .bl r.pau, .int r.std] := rfl
/-- row[:5] + (b,): te the row, tb its last place -/
theorem mark_ok {K : PySem.W.Frag} {σ : L2.St} {H : Hp} {Q : VK} {te tb : TE} {t : Addr} {r : Ph} {b : Bool} (he : ∀ R : VK, R (.ref t) H → te σ H R) (hb : ∀ (H' : Hp) (R : VK), Same H H' → (∀ H2, Same H' H2 → R (.bl b) H2) → tb σ H' R)
    (ht : H t = some (.tup r.vs)) (q : ∀ p H', H p = none → Same H H' → H' p = some (.tup (r.withSkp b).vs) → Q (.ref p) H') :
    tOp (rCatT K) (tSl (rSlT K) te tNoPart (tPart (tC (.int 5)))) (tTup (tCons tb tNil)) σ H Q := by
  refine he _ ⟨_, rfl, t, _, rfl, SqT.of ht, (show ¬ ((0 : Nat) = 0 ∧ (5 : Nat) = 6) by decide), fun p1 n1 => ?_⟩
  refine hb _ _ (Same.new n1) fun H2 S2 => ?_
  refine ⟨(show (1 : Nat) ≤ sizeLine by decide), fun p2 n2 => ?_⟩
  refine ⟨p1, p2, _, _, rfl, rfl, SqT.of (upd_old n2 (S2 _ _ upd_same)), SqT.of upd_same, ?_, (show (6 : Nat) ≤ sizeLine by decide), fun z => absurd z (by simp), fun _ p3 n3 => ?_⟩
  · rw [cut5]; simp
  have n2' : H p2 = none := Same.free ((Same.new n1).trans S2) n2
  have S3 := Same.upd (u := .tup [V.bl b]) ((Same.new n1).trans S2) n2'
  exact q p3 _ (S3.free n3) (Same.upd S3 (S3.free n3)) upd_same
theorem nextT {D : Ends} {σ : L2.St} {H : Hp} (h : D.nx σ H) : tNext D σ H := h
theorem seqT {t u : TS} {D : Ends} {σ : L2.St} {H : Hp} (h : t { D with nx := u D } σ H) : tSeq t u D σ H := h
theorem asgT {te : TE} {g : TG} {D : Ends} {σ : L2.St} {H : Hp} (h : te σ H fun x H1 => g x σ H1 D.nx) : tAsg te g D σ H := h

/-! ### Book.text -/
theorem join_le (a : Str) : ∀ ys : List Str, (Str.join a ys).length ≤ (ys.map (·.length)).sum + ys.length * a.length
  | [] => Nat.zero_le _
  | [x] => by
    show x.length ≤ _
    simp only [List.map_cons, List.map_nil, List.sum_cons, List.sum_nil]
    omega
  | x :: y :: r => by
    have ih := join_le a (y :: r)
    show (x ++ a ++ Str.join a (y :: r)).length ≤ _
    rw [Str.length_append, Str.length_append]
    simp only [List.map_cons, List.sum_cons, List.length_cons] at ih ⊢
    have e : (r.length + 1 + 1) * a.length = (r.length + 1) * a.length + a.length := by rw [Nat.add_mul, Nat.one_mul]
    omega
theorem words_le {r : Rw} (h0 : 0 ≤ r.hue) (h1 : r.hue ≤ 9) (s0 : 0 ≤ r.std) (s1 : r.std ≤ 9) (bl : r.bar.length ≤ 10) : (r.words.map (·.length)).sum + r.words.length * (" " : Str).length ≤ 200 := by
  have e1 : (" " : Str).length = 1 := by decide +kernel
  have e2 : ("visits" : Str).length = 6 := by decide +kernel
  have e3 : ("pauses" : Str).length = 6 := by decide +kernel
  have e4 : ("skips" : Str).length = 5 := by decide +kernel
  have e5 : ("stand " : Str).length = 6 := by decide +kernel
  have l1 := num_le h0 h1
  have l2 := num_le s0 s1
  have e6 : (("stand " : Str) ++ numS r.std).length = 6 + (numS r.std).length := by
    have z : (("stand " : Str) ++ numS r.std).length = ("stand " : Str).length + (numS r.std).length := by
      first
        | exact Str.length_append _ _
        | simp [Str.length, Str.cps_append]
    rw [z, e5]
  have g : ∀ {c : Prop} [Decidable c] (x : Str), x.length ≤ 20 → ((if c then [x] else []).map (·.length)).sum ≤ 20 ∧ (if c then [x] else []).length ≤ 1 := fun {c} _ x hx => by
    split
    · exact ⟨by simpa using hx, by simp⟩
    · exact ⟨by simp, by simp⟩
  have g1 := g (c := r.vis = true) "visits" (by rw [e2]; decide)
  have g2 := g (c := r.pau = true) "pauses" (by rw [e3]; decide)
  have g3 := g (c := r.std ≠ 0) (("stand " : Str) ++ numS r.std) (by rw [e6]; omega)
  have g4 := g (c := r.skp = true) "skips" (by rw [e4]; decide)
  unfold Rw.words
  rw [e1]
  simp only [List.map_append, List.sum_append, List.length_append, List.map_cons, List.map_nil, List.sum_cons, List.sum_nil, List.length_cons, List.length_nil]
  omega
theorem text_le {r : Ph} (ok : r.Ok) : r.rw.text.length ≤ 200 := by
  show (Builtin.Str.glued " " r.rw.words).length ≤ 200
  rw [StrLaws.glued_eq_join]
  refine Nat.le_trans (join_le _ _) (words_le (r := r.rw) ok.h0 (Int.le_trans ok.h1 (by decide)) ok.s0 (Int.le_trans ok.s1 (by decide)) ?_)
  show r.bar.s.length ≤ 10
  cases r.bar <;> decide +kernel
theorem sum_le {α : Type} {f : α → Nat} {m : Nat} : ∀ {xs : List α}, (∀ x ∈ xs, f x ≤ m) → (xs.map f).sum ≤ xs.length * m
  | [], _ => by simp
  | x :: xs, h => by
    have h1 := h x List.mem_cons_self
    have h2 := sum_le (xs := xs) fun y hy => h y (List.mem_cons_of_mem _ hy)
    simp only [List.map_cons, List.sum_cons, List.length_cons, Nat.add_mul, Nat.one_mul]
    omega
def bkText (rs : List Ph) : Str := Txt.join "\n" (rs.map fun r => r.rw.text)
def spBkText (K : PySem.W.Frag) : Sp := fun vs H Q _ => ∃ (b l : Addr) (rs : List Ph), vs = [.ref b] ∧ BkAt K H b l rs ∧ ∀ H', Same H H' → Q (.str (bkText rs)) H'
section
variable {P : Program} [SupP P pFile] {w : World} {K : PySem.W.Frag} {mg : Str → Option Value} {base : Heap}
theorem ok_Book_text (T : Tx K mg) : FnOk P w K mg base CX0 3 (pad "property" "Book" "text" K) (fdD K (pad "property" "Book" "text" K)) P_Book_text (spBkText K) := by
  refine T.F_Book_text.ok sc_Book_text (fun vs H Q E h => ?_) (fun cdv A outer s H vs Q E hr h => ?_)
  · obtain ⟨b, l, rs, rfl, _⟩ := h; rfl
  · obtain ⟨b, l, rs, rfl, B, k⟩ := h
    obtain ⟨⟨dx, hb⟩, ⟨as, hl, e, hp⟩, n1, n6, ok⟩ := id B
    refine ⟨_, PSs.nox ((pss_one (ps_ret (pe_join pe_str (pe_lc (own := [("phase", 1)]) (g := gName 1) (tt := tYes) rfl sc_Book_text.nd (pi_list (pe_fld (pv 0) rfl)) (blkOk_by (own := [("phase", 1)]) (N := N_Book_text) (sc := defScope s_Book_text) (by decide +kernel)) (fun _ _ _ _ _ => (pg_name (i := 1) sc_Book_text.nd rfl (Or.inl rfl))) (fun _ _ _ _ _ => pts_nil) (fun _ _ _ _ _ => (pe_prop (pv 1) T.c_Phase T.p_Phase_text (ok_Phase_text (P := P) T) (hr.mono (by decide)) (bd_Phase_text T) .nil pass0 rfl))))))), ?_⟩
    refine ⟨⟨_, rfl⟩, _, rfl, b, _, dx, _, _, rfl, hb, T.c_Book, T.na_Book_phases, bk_phases l, l, rfl, ⟨_, SqL.of hl⟩, fun D nD => ?_⟩
    refine lc_list (K := K) (a := l) (xs := as.map V.ref) (fun i H' => H' D = some (.lst (((rs.map fun r => r.rw.text).take i).map V.str)) ∧ Same H H') ⟨upd_same, Same.new nD⟩ (fun i H' _ ⟨_, S⟩ => SqL.of (S _ _ hl)) ?_ ?_
    · rintro i x H1 hi ⟨hD, S1⟩
      rw [List.getElem?_map] at hi
      cases et : as[i]? with
      | none => rw [et] at hi; cases hi
      | some a =>
        rw [et] at hi
        cases hi
        have hi2 : i < rs.length := by rw [← e]; exact (List.getElem?_eq_some_iff.mp et).1
        obtain ⟨r, hr', hm⟩ := mem_get hi2
        obtain ⟨da, hpa⟩ := (hp i a r et hr').same S1
        refine ⟨rfl, yesT (iteT ?_)⟩
        refine ⟨_, rfl, a, da, _, rfl, hpa, a, r.rw, rfl, ⟨da, hpa⟩, Ph.good (ok r hm), fun H2 S2 => ?_⟩
        refine ⟨_, S2 _ _ hD, small1000 (by rw [List.length_map, List.length_take, List.length_map]; omega), ?_, Same.upd (S1.trans S2) nD⟩
        rw [upd_same, List.take_add_one, List.getElem?_map, hr', List.map_append]
        rfl
    · rintro H1 ⟨hD, S1⟩
      rw [List.length_map, e, ← List.length_map (f := fun r : Ph => r.rw.text), List.take_length] at hD
      refine ⟨_, D, _, rfl, rfl, .inl (SqL.of hD), ?_, k _ S1⟩
      have e1 : ("\n" : Str).length = 1 := by decide +kernel
      rw [e1, List.map_map, List.length_map]
      have := sum_le (xs := rs) (f := (fun x : Str => x.length) ∘ fun r : Ph => r.rw.text) (m := 200) (fun r hr => text_le (ok r hr))
      omega
end

/-! ### errors of refused deeds -/
section
variable {P : Program} [SupP P pFile] {w : World} {K : PySem.W.Frag} {mg : Str → Option Value} {base : Heap}
theorem ok_NoSuch_init (T : Tx K mg) : FnOk P w K mg base CX0 1 (mad "Refused" "__init__" K) (fdD K (mad "Refused" "__init__" K)) P_Refused_init (spEx2 K (gad "NoSuch" K) "what" "number") := by
  obtain ⟨cc, cdv, FC⟩ := T.F_Refused_init
  have SKf := sup_ok T.sp_NoSuch FC
  obtain ⟨oc, od, dV, kV, doc, pm, an, ct, osl, efd, lk, hcd, hD⟩ := FC.ex
  rw [efd] at lk
  rw [efd]
  refine fnC_of (fl := pFile) (C := gad "NoSuch" K) (D := gad "Refused" K) lk hcd sc_Refused_init SKf T.ox_NoSuch T.n_super rfl ⟨_, rfl⟩ (fun vs H Q E h => ?_) (fun vs H Q E h => ?_) (fun _ => rfl) (fun _ => rfl) (fun F A outer s H vs Q E e1 e2 e3 h => ?_)
  · obtain ⟨a, v, u, rfl, _⟩ := h; rfl
  · obtain ⟨a, v, u, rfl, ha, _⟩ := h; exact ⟨a, _, rfl, ha⟩
  · obtain ⟨a, v, u, rfl, ha, k⟩ := h
    obtain ⟨f1, f2, f3, f4, f5, f6, f7⟩ := F
    dsimp only at e1 e2 e3
    subst e1 e2 e3
    refine ⟨_, (pss_cons (ps_ost (pe_var (i := 0) rfl (Or.inl rfl)) (pe_var (i := 1) rfl (Or.inl rfl)) rfl) (pss_one (ps_ost (pe_var (i := 0) rfl (Or.inl rfl)) (pe_var (i := 2) rfl (Or.inl rfl)) rfl))), ?_⟩
    refine ⟨_, rfl, _, rfl, a, _, rfl, T.ox_NoSuch, T.na_NoSuch_what, .inl ⟨ha, fun dx nd ne => ?_⟩⟩
    have nd' : H dx = none := nd
    refine ⟨_, rfl, _, rfl, a, _, rfl, T.ox_NoSuch, T.na_NoSuch_number, .inr ⟨dx, _, upd_same, by rw [upd_ne ne]; exact upd_same, (by show (1 : Nat) ≤ 900; decide), ?_⟩⟩
    rw [upd_swap ne]
    exact k dx nd' ne
theorem ok_Empty_init (T : Tx K mg) : FnOk P w K mg base CX0 1 (mad "Refused" "__init__" K) (fdD K (mad "Refused" "__init__" K)) P_Refused_init (spEx2 K (gad "Empty" K) "what" "number") := by
  obtain ⟨cc, cdv, FC⟩ := T.F_Refused_init
  have SKf := sup_ok T.sp_Empty FC
  obtain ⟨oc, od, dV, kV, doc, pm, an, ct, osl, efd, lk, hcd, hD⟩ := FC.ex
  rw [efd] at lk
  rw [efd]
  refine fnC_of (fl := pFile) (C := gad "Empty" K) (D := gad "Refused" K) lk hcd sc_Refused_init SKf T.ox_Empty T.n_super rfl ⟨_, rfl⟩ (fun vs H Q E h => ?_) (fun vs H Q E h => ?_) (fun _ => rfl) (fun _ => rfl) (fun F A outer s H vs Q E e1 e2 e3 h => ?_)
  · obtain ⟨a, v, u, rfl, _⟩ := h; rfl
  · obtain ⟨a, v, u, rfl, ha, _⟩ := h; exact ⟨a, _, rfl, ha⟩
  · obtain ⟨a, v, u, rfl, ha, k⟩ := h
    obtain ⟨f1, f2, f3, f4, f5, f6, f7⟩ := F
    dsimp only at e1 e2 e3
    subst e1 e2 e3
    refine ⟨_, (pss_cons (ps_ost (pe_var (i := 0) rfl (Or.inl rfl)) (pe_var (i := 1) rfl (Or.inl rfl)) rfl) (pss_one (ps_ost (pe_var (i := 0) rfl (Or.inl rfl)) (pe_var (i := 2) rfl (Or.inl rfl)) rfl))), ?_⟩
    refine ⟨_, rfl, _, rfl, a, _, rfl, T.ox_Empty, T.na_Empty_what, .inl ⟨ha, fun dx nd ne => ?_⟩⟩
    have nd' : H dx = none := nd
    refine ⟨_, rfl, _, rfl, a, _, rfl, T.ox_Empty, T.na_Empty_number, .inr ⟨dx, _, upd_same, by rw [upd_ne ne]; exact upd_same, (by show (1 : Nat) ≤ 900; decide), ?_⟩⟩
    rw [upd_swap ne]
    exact k dx nd' ne
end

end Hue

set_option Elab.async false
set_option linter.all false
set_option maxRecDepth 100000
set_option maxHeartbeats 1000000
namespace Hue
open PySem PySem.Spec PyProof.Rows L2 ItX
local macro_rules | `(tactic| walk_at "hp") => `(tactic| first
  | assumption
  | exact upd_same
  | (refine upd_old (by assumption) ?_; walk_at "hp")
  | (refine upd_oth (by assumption) ?_; walk_at "hp")
  | (refine same_get (by assumption) ?_; walk_at "hp")
  | (refine Fl.get (by assumption) (by assumption) ?_; walk_at "hp"))
local macro_rules | `(tactic| walk_at "seq") => `(tactic| first
  | assumption
  | exact T.t_BARRIERS _
  | exact SqL.of (by walk_at "hp")
  | exact SqT.of (by walk_at "hp"))
local macro_rules | `(tactic| walk_at "len") => `(tactic| first
  | exact Or.inl (by walk_at "seq")
  | exact Or.inr (by walk_at "seq"))
local macro_rules | `(tactic| walk_at "at") => `(tactic| first
  | rfl
  | assumption)

/-! ### a store -/
abbrev Rf := Int × Int
def RefO (K : PySem.W.Frag) (H : Hp) (v : V) (o : Option Rf) : Prop := match o with
  | none => v = .non
  | some r => ∃ a, v = .ref a ∧ RfAt K H a r.1 r.2 ∧ RfOk r.1 r.2
theorem RefO.same {K : PySem.W.Frag} {H H' : Hp} {v : V} {o : Option Rf} (h : RefO K H v o) (S : Same H H') : RefO K H' v o := by
  cases o with
  | none => exact h
  | some r =>
    obtain ⟨a, e, q, ok⟩ := h
    exact ⟨a, e, q.same S, ok⟩
structure SA where
  b : Addr
  bl : Addr
  pl : Addr
  ow : Addr
  po : Addr
  sl : Addr
  vi : Addr
  ha : Addr
  me : Addr
structure SD where
  n : Nat
  hands : List (Option Rf)
  slots : List (Option Rf)
def stF (A : SA) : List (Str × V) := putF "_mendings" (.ref A.me) (putF "_hands" (.ref A.ha) (putF "_visited" (.ref A.vi) (putF "_slots" (.ref A.sl) (putF "_posts" (.ref A.po) (putF "_owners" (.ref A.ow) (putF "_places" (.ref A.pl) (putF "_turns" (.int 0) (putF "_row" (.int 0) (putF "_book" (.ref A.b) [])))))))))
section
variable (A : SA)
theorem st_book : (stF A).lookup ("_book" : Str) = some (.ref A.b) := by
  unfold stF
  simp only [lookup_putF]
  rw [if_neg (by decide +kernel), if_neg (by decide +kernel), if_neg (by decide +kernel), if_neg (by decide +kernel), if_neg (by decide +kernel), if_neg (by decide +kernel), if_neg (by decide +kernel), if_neg (by decide +kernel), if_neg (by decide +kernel), if_pos trivial]
theorem st_row : (stF A).lookup ("_row" : Str) = some (.int 0) := by
  unfold stF
  simp only [lookup_putF]
  rw [if_neg (by decide +kernel), if_neg (by decide +kernel), if_neg (by decide +kernel), if_neg (by decide +kernel), if_neg (by decide +kernel), if_neg (by decide +kernel), if_neg (by decide +kernel), if_neg (by decide +kernel), if_pos trivial]
theorem st_turns : (stF A).lookup ("_turns" : Str) = some (.int 0) := by
  unfold stF
  simp only [lookup_putF]
  rw [if_neg (by decide +kernel), if_neg (by decide +kernel), if_neg (by decide +kernel), if_neg (by decide +kernel), if_neg (by decide +kernel), if_neg (by decide +kernel), if_neg (by decide +kernel), if_pos trivial]
theorem st_places : (stF A).lookup ("_places" : Str) = some (.ref A.pl) := by
  unfold stF
  simp only [lookup_putF]
  rw [if_neg (by decide +kernel), if_neg (by decide +kernel), if_neg (by decide +kernel), if_neg (by decide +kernel), if_neg (by decide +kernel), if_neg (by decide +kernel), if_pos trivial]
theorem st_owners : (stF A).lookup ("_owners" : Str) = some (.ref A.ow) := by
  unfold stF
  simp only [lookup_putF]
  rw [if_neg (by decide +kernel), if_neg (by decide +kernel), if_neg (by decide +kernel), if_neg (by decide +kernel), if_neg (by decide +kernel), if_pos trivial]
theorem st_posts : (stF A).lookup ("_posts" : Str) = some (.ref A.po) := by
  unfold stF
  simp only [lookup_putF]
  rw [if_neg (by decide +kernel), if_neg (by decide +kernel), if_neg (by decide +kernel), if_neg (by decide +kernel), if_pos trivial]
theorem st_slots : (stF A).lookup ("_slots" : Str) = some (.ref A.sl) := by
  unfold stF
  simp only [lookup_putF]
  rw [if_neg (by decide +kernel), if_neg (by decide +kernel), if_neg (by decide +kernel), if_pos trivial]
theorem st_visited : (stF A).lookup ("_visited" : Str) = some (.ref A.vi) := by
  unfold stF
  simp only [lookup_putF]
  rw [if_neg (by decide +kernel), if_neg (by decide +kernel), if_pos trivial]
theorem st_hands : (stF A).lookup ("_hands" : Str) = some (.ref A.ha) := by
  unfold stF
  simp only [lookup_putF]
  rw [if_neg (by decide +kernel), if_pos trivial]
theorem st_mendings : (stF A).lookup ("_mendings" : Str) = some (.ref A.me) := by
  unfold stF
  simp only [lookup_putF]
  rw [if_pos trivial]
theorem st_no {m : Str} (h : m ∉ (["_book", "_row", "_turns", "_places", "_owners", "_posts", "_slots", "_visited", "_hands", "_mendings"] : List Str)) : (stF A).lookup m = none := by
  simp only [List.mem_cons, List.not_mem_nil, not_or, or_false] at h
  obtain ⟨h1, h2, h3, h4, h5, h6, h7, h8, h9, h10⟩ := h
  unfold stF
  simp only [lookup_putF]
  rw [if_neg h10, if_neg h9, if_neg h8, if_neg h7, if_neg h6, if_neg h5, if_neg h4, if_neg h3, if_neg h2, if_neg h1]
  rfl
end
def SA.lists (A : SA) : List Addr := [A.bl, A.pl, A.ow, A.sl, A.vi, A.ha, A.me]
structure StoreAt (K : PySem.W.Frag) (H : Hp) (s : Addr) (A : SA) (rs : List Ph) (D : SD) : Prop where
  ob : ∃ dx, H s = some (.ins (gad "Store" K) dx (stF A))
  bk : BkAt K H A.b A.bl rs
  pl : H A.pl = some (.lst (nts (List.range D.n)))
  ow : H A.ow = some (.lst (nts (List.range D.n)))
  po : H A.po = some (.dK [])
  sl : ∃ xs, H A.sl = some (.lst xs) ∧ Paired (RefO K H) xs D.slots
  vi : H A.vi = some (.lst (List.replicate D.slots.length (.bl false)))
  ha : ∃ xs, H A.ha = some (.lst xs) ∧ Paired (RefO K H) xs D.hands
  me : H A.me = some (.lst (List.replicate D.hands.length .non))
  nd : A.lists.Nodup
  fn : D.n ≤ 1000
  fs : D.slots.length ≤ 64
  fh : D.hands.length ≤ 64
/-- only the objects at these addresses change -/
def Fls (ls : List Addr) (H H' : Hp) : Prop := ∀ a o, a ∉ ls → H a = some o → H' a = some o
theorem Fls.refl (ls : List Addr) (H : Hp) : Fls ls H H := fun _ _ _ h => h
theorem Fls.trans {ls : List Addr} {H H1 H2 : Hp} (f : Fls ls H H1) (g : Fls ls H1 H2) : Fls ls H H2 := fun a o n h => g a o n (f a o n h)
theorem Fls.same {ls : List Addr} {H H' : Hp} (S : Same H H') : Fls ls H H' := fun a o _ h => S a o h
theorem Fls.one {ls : List Addr} {d : Addr} {H H' : Hp} (f : Fl d H H') (h : d ∈ ls) : Fls ls H H' := fun a o n q => f a o (fun e => n (e ▸ h)) q
theorem Fls.sub {ls ms : List Addr} {H H' : Hp} (f : Fls ls H H') (h : ∀ x ∈ ls, x ∈ ms) : Fls ms H H' := fun a o n q => f a o (fun e => n (h a e)) q
theorem RefO.fls {K : PySem.W.Frag} {H H' : Hp} {ls : List Addr} {v : V} {o : Option Rf} (h : RefO K H v o) (f : Fls ls H H') (hl : ∀ x ∈ ls, ∃ u, H x = some (.lst u)) : RefO K H' v o := by
  cases o with
  | none => exact h
  | some r =>
    obtain ⟨a, e, ⟨dx, q⟩, ok⟩ := h
    refine ⟨a, e, ⟨dx, f _ _ (fun m => ?_) q⟩, ok⟩
    obtain ⟨u, hu⟩ := hl a m
    rw [q] at hu
    cases hu
theorem StoreAt.frame {K : PySem.W.Frag} {H H' : Hp} {s : Addr} {A : SA} {rs : List Ph} {D : SD} {ls : List Addr} (h : StoreAt K H s A rs D) (f : Fls ls H H') (hl : ∀ x ∈ ls, ∃ u, H x = some (.lst u)) (hd : ∀ x ∈ ls, x ∉ A.lists) : StoreAt K H' s A rs D := by
  have nl : ∀ {a : Addr} {o : HO}, H a = some o → (∀ u, o ≠ .lst u) → H' a = some o := fun {a o} e n => f _ _ (fun m => by
    obtain ⟨u, hu⟩ := hl a m
    rw [e] at hu
    exact n u (Option.some.inj hu)) e
  have il : ∀ {a : Addr} {o : HO}, a ∈ A.lists → H a = some o → H' a = some o := fun {a o} m e => f _ _ (fun q => hd a q m) e
  obtain ⟨⟨dx, o1⟩, bk, pl, ow, po, ⟨xs, s1, s2⟩, vi, ⟨ys, h1, h2⟩, me, nd, a1, a2, a3⟩ := h
  refine ⟨⟨dx, nl o1 (by intro u z; cases z)⟩, ?_, il (by simp [SA.lists]) pl, il (by simp [SA.lists]) ow, nl po (by intro u z; cases z), ⟨xs, il (by simp [SA.lists]) s1, L2.Paired.mapP s2 fun v o q => q.fls f hl⟩, il (by simp [SA.lists]) vi, ⟨ys, il (by simp [SA.lists]) h1, L2.Paired.mapP h2 fun v o q => q.fls f hl⟩, il (by simp [SA.lists]) me, nd, a1, a2, a3⟩
  obtain ⟨⟨d, b1⟩, ⟨as, b2, b3, b4⟩, b5, b6, b7⟩ := bk
  refine ⟨⟨d, nl b1 (by intro u z; cases z)⟩, ⟨as, il (by simp [SA.lists]) b2, b3, fun i a r ha hr => ?_⟩, b5, b6, b7⟩
  obtain ⟨dp, q⟩ := b4 i a r ha hr
  exact ⟨dp, nl q (by intro u z; cases z)⟩
theorem StoreAt.same {K : PySem.W.Frag} {H H' : Hp} {s : Addr} {A : SA} {rs : List Ph} {D : SD} (h : StoreAt K H s A rs D) (S : Same H H') : StoreAt K H' s A rs D := h.frame (ls := []) (Fls.same S) (fun x m => by cases m) (fun x m => by cases m)
/-- NoSuch, Empty -/
abbrev ERef (K : PySem.W.Frag) (H : Hp) (E : XK) (c : String) (wh : Str) (n : Int) : Prop := ∀ dd H', H dd = none → Same H H' → H' dd = some (.xd [("number", .int n), ("what", .str wh)]) → E (.ref (gad c K)) (some dd) H'
def spCheck (K : PySem.W.Frag) : Sp := fun vs H Q E => ∃ (s : Addr) (wh : Str) (n m : Int), vs = [.ref s, .str wh, .int n, .int m] ∧ ((0 ≤ n ∧ n < m) → Q .non H) ∧ (¬ (0 ≤ n ∧ n < m) → ERef K H E "NoSuch" wh n)
/-- the arguments of a deed on a store -/
def StA (K : PySem.W.Frag) (vs : List V) (H : Hp) (s : Addr) (A : SA) (rs : List Ph) (D : SD) (as : List V) : Prop := vs = .ref s :: as ∧ StoreAt K H s A rs D
def spIdle (K : PySem.W.Frag) : Sp := fun vs H Q _ => ∃ s A rs D, ∃ h : Nat, StA K vs H s A rs D [.int (h : Int)] ∧ h < D.hands.length ∧ Q .non H
def spHeld (K : PySem.W.Frag) : Sp := fun vs H Q E => ∃ s A rs D, ∃ h : Nat, StA K vs H s A rs D [.int (h : Int)] ∧ (∀ r, D.hands[h]? = some (some r) → ∀ v, RefO K H v (some r) → Q v H) ∧ h < D.hands.length ∧ (D.hands[h]? = some none → ERef K H E "Empty" "hand" h)
def spLeft (K : PySem.W.Frag) : Sp := fun vs H Q _ => ∃ s A rs D, ∃ (a : Addr) (r : Rf), StA K vs H s A rs D [.ref a] ∧ RfAt K H a r.1 r.2 ∧ Q (.int (-1)) H
def spAsk (K : PySem.W.Frag) (wh : Str) (f : SD → List (Option Rf)) : Sp := fun vs H Q E => ∃ s A rs D n, StA K vs H s A rs D [.int n] ∧ ((0 ≤ n ∧ n < (f D).length) → ∀ o, (f D)[n.toNat]? = some o → ∀ v, RefO K H v o → Q v H) ∧ (¬ (0 ≤ n ∧ n < (f D).length) → ERef K H E "NoSuch" wh n)
def spAskC (K : PySem.W.Frag) (f : SD → Nat) (g : Nat → V) : Sp := fun vs H Q _ => ∃ s A rs D, ∃ n : Nat, StA K vs H s A rs D [.int (n : Int)] ∧ n < f D ∧ Q (g n) H
def spTell (K : PySem.W.Frag) (g : SD → V) : Sp := fun vs H Q _ => ∃ s A rs D, StA K vs H s A rs D [] ∧ Q (g D) H
theorem nts_get {l : List Nat} {i n : Nat} (h : l[i]? = some n) : (nts l)[i]? = some (.int (n : Int)) := by
  unfold nts
  rw [List.getElem?_map, h]
  rfl
theorem paired_get {α β : Type} {F : α → β → Prop} : ∀ {l₁ : List α} {l₂ : List β} {j : Nat} {y : β}, Paired F l₁ l₂ → l₂[j]? = some y → ∃ x, l₁[j]? = some x ∧ F x y
  | _, _, j, y, .nil, h => by cases h
  | _, _, 0, y, .cons f _, h => by cases h; exact ⟨_, rfl, f⟩
  | _, _, j + 1, y, .cons _ t, h => paired_get (j := j) t h
theorem nts_length (l : List Nat) : (nts l).length = l.length := by unfold nts; rw [List.length_map]
theorem at_rep {v : V} {n h : Nat} (hl : h < n) : atI (List.replicate n v) ((h : Nat) : Int) = some v := atI_nat (by rw [List.getElem?_replicate, if_pos hl])
section
variable {P : Program} [SupP P pFile] {w : World} {K : PySem.W.Frag} {mg : Str → Option Value} {base : Heap}
theorem ok_Storecheck (T : Tx K mg) : FnOk P w K mg base (L2.CX P w) 3 (mad "Store" "_check" K) (fdD K (mad "Store" "_check" K)) P_Storecheck (spCheck K) := by
  refine T.F_Storecheck.ok sc_Storecheck (fun vs H Q E h => ?_) (fun cdv A outer s H vs Q E hr h => ?_)
  · obtain ⟨s, wh, n, m, rfl, _⟩ := h; rfl
  · obtain ⟨a, wh, n, m, rfl, k1, k2⟩ := h
    refine ⟨_, (pss_one (ps_if (pt_not (pt_chain op_le op_lt pe_int (pv 2) (pv 3))) (pss_one (ps_raise rfl (takes_of rfl rfl rfl rfl) (pmk_oex T.ox_NoSuch T.ei_NoSuch.1 T.ei_NoSuch.2 (ok_NoSuch_init (P := P) T) (hr.mono (by decide)) (bd_Refused_init T) .nil pass0 rfl T.g_NoSuch (pa_cons (pv 1) (pa_cons (pv 2) pa_nil))))) pss_nil)), ?_⟩
    have bad : ¬ (0 ≤ n ∧ n < m) → ERef K H E "NoSuch" wh n := k2
    by_cases h0 : 0 ≤ n
    · refine ⟨_, rfl, _, _, rfl, rfl, _, rfl, iteD h0 ?_⟩
      by_cases h1 : n < m
      · exact ⟨_, rfl, _, _, rfl, rfl, _, rfl, iteNS h1 (k1 ⟨h0, h1⟩)⟩
      · exact ⟨_, rfl, _, _, rfl, rfl, _, rfl, iteND h1 ⟨_, rfl, _, rfl, mkO2 (bad fun z => h1 z.2)⟩⟩
    · refine ⟨_, rfl, _, _, rfl, rfl, _, rfl, iteDN h0 ?_⟩
      exact ⟨_, rfl, iteT ⟨_, rfl, _, rfl, mkO2 (bad fun z => h0 z.1)⟩⟩
theorem ok_Storecheck_idle (T : Tx K mg) : FnOk P w K mg base CX0 1 (mad "Store" "_check_idle" K) (fdD K (mad "Store" "_check_idle" K)) P_Storecheck_idle (spIdle K) := by
  refine T.F_Storecheck_idle.ok sc_Storecheck_idle (fun vs H Q E h => ?_) (fun cdv A outer s H vs Q E hr h => ?_)
  · obtain ⟨s, A, rs, D, h, ⟨rfl, _⟩, _⟩ := h; rfl
  · obtain ⟨a, SA', rs, D, h, ⟨rfl, S⟩, hl, k⟩ := h
    refine ⟨_, PSs.nox ((pss_one (ps_if (pt_cmpR op_notN (pe_ix ix_list (pe_fld (pv 0) rfl) (pv 1) (fun _ _ => rfl)) pe_non (nomark _)) (pss_one ps_never) pss_nil))), ?_⟩
    obtain ⟨dx, ho⟩ := S.ob
    exact ⟨_, rfl, a, _, dx, _, _, rfl, ho, T.c_Store, T.na_Store__mendings, st_mendings SA', _, rfl, _, _, _, _, rfl, rfl, SqL.of S.me, at_rep hl, rfl, _, rfl, iteNS rfl k⟩
theorem ok_Storeheld (T : Tx K mg) : FnOk P w K mg base (L2.CX P w) 3 (mad "Store" "_held" K) (fdD K (mad "Store" "_held" K)) P_Storeheld (spHeld K) := by
  refine T.F_Storeheld.ok sc_Storeheld (fun vs H Q E h => ?_) (fun cdv A outer s H vs Q E hr h => ?_)
  · obtain ⟨s, A, rs, D, h, ⟨rfl, _⟩, _⟩ := h; rfl
  · obtain ⟨a, SA', rs, D, h, ⟨rfl, S⟩, k1, hl, k2⟩ := h
    refine ⟨_, (pss_cons (ps_if (pt_cmpR op_isN (pe_ix ix_list (pe_fld (pv 0) rfl) (pv 1) (fun _ _ => rfl)) pe_non (nomark _)) (pss_one (ps_raise rfl (takes_of rfl rfl rfl rfl) (pmk_oex T.ox_Empty T.ei_Empty.1 T.ei_Empty.2 (ok_Empty_init (P := P) T) (hr.mono (by decide)) (bd_Refused_init T) .nil pass0 rfl T.g_Empty (pa_cons pe_str (pa_cons (pv 1) pa_nil))))) pss_nil)
      (pss_one (ps_ret (pe_ix ix_list (pe_fld (pv 0) rfl) (pv 1) (fun _ _ => rfl))))), ?_⟩
    obtain ⟨dx, ho⟩ := S.ob
    obtain ⟨xs, hx, hp⟩ := S.ha
    have eo := List.getElem?_eq_getElem hl
    generalize D.hands[h] = o at eo
    obtain ⟨v, hv, rv⟩ := paired_get hp eo
    have hat : atI xs ((h : Nat) : Int) = some v := atI_nat hv
    cases o with
    | none =>
      obtain rfl : v = .non := rv
      exact ⟨_, rfl, a, _, dx, _, _, rfl, ho, T.c_Store, T.na_Store__hands, st_hands SA', _, rfl, _, _, _, _, rfl, rfl, SqL.of hx, hat, rfl, _, rfl, iteD rfl ⟨_, rfl, mkO2 (k2 eo)⟩⟩
    | some r =>
      have k := k1 r eo v rv
      obtain ⟨c, rfl, _⟩ := rv
      refine ⟨_, rfl, a, _, dx, _, _, rfl, ho, T.c_Store, T.na_Store__hands, st_hands SA', _, rfl, _, _, _, _, rfl, rfl, SqL.of hx, hat, rfl, _, rfl, iteDN (by intro z; cases z) ?_⟩
      exact ⟨_, rfl, a, _, dx, _, _, rfl, ho, T.c_Store, T.na_Store__hands, st_hands SA', _, rfl, _, _, _, _, rfl, rfl, SqL.of hx, hat, k⟩
theorem ok_Store_slot (T : Tx K mg) : FnOk P w K mg base (L2.CX P w) 5 (mad "Store" "slot" K) (fdD K (mad "Store" "slot" K)) P_Store_slot (spAsk K "slot" SD.slots) := by
  refine T.F_Store_slot.ok sc_Store_slot (fun vs H Q E h => ?_) (fun cdv A outer s H vs Q E hr h => ?_)
  · obtain ⟨s, A, rs, D, n, ⟨rfl, _⟩, _⟩ := h; rfl
  · obtain ⟨a, SA', rs, D, n, ⟨rfl, S⟩, k1, k2⟩ := h
    refine ⟨_, (pss_cons (ps_expr (pe_meth (pv 0) T.c_Store T.m_Storecheck (ok_Storecheck (P := P) T) (hr.mono (by decide)) (bd_Storecheck T) .nil (passes_call (takes_of rfl rfl rfl rfl) (fun _ _ _ _ z => z)) (pa_cons pe_str (pa_cons (pv 1) (pa_cons (pe_callB call_len_seq (by rfl) T.n_len (by decide +kernel) (pa_cons (pe_fld (pv 0) rfl) pa_nil)) pa_nil)))))
      (pss_one (ps_ret (pe_ix ix_list (pe_fld (pv 0) rfl) (pv 1) (fun _ _ => rfl))))), ?_⟩
    obtain ⟨dx, ho⟩ := S.ob
    obtain ⟨xs, hx, hp⟩ := S.sl
    have el : xs.length = D.slots.length := Paired.length hp
    refine ⟨_, rfl, a, dx, _, rfl, ho, st_no SA' (by decide +kernel), _, rfl, _, rfl, a, _, dx, _, _, rfl, ho, T.c_Store, T.na_Store__slots, st_slots SA', _, _, rfl, .inl (SqL.of hx), a, "slot", _, _, rfl, fun z => ?_, fun z => k2 (by rw [← el]; exact z)⟩
    rw [el] at z
    have hl : n.toNat < D.slots.length := by omega
    have eo := List.getElem?_eq_getElem hl
    obtain ⟨v, hv, rv⟩ := paired_get hp eo
    have hat : atI xs n = some v := by
      have := atI_nat hv
      rw [Int.toNat_of_nonneg z.1] at this
      exact this
    exact ⟨_, rfl, a, _, dx, _, _, rfl, ho, T.c_Store, T.na_Store__slots, st_slots SA', _, rfl, _, _, _, _, rfl, rfl, SqL.of hx, hat, k1 z _ eo v rv⟩
theorem ok_Store_hand (T : Tx K mg) : FnOk P w K mg base (L2.CX P w) 5 (mad "Store" "hand" K) (fdD K (mad "Store" "hand" K)) P_Store_hand (spAsk K "hand" SD.hands) := by
  refine T.F_Store_hand.ok sc_Store_hand (fun vs H Q E h => ?_) (fun cdv A outer s H vs Q E hr h => ?_)
  · obtain ⟨s, A, rs, D, n, ⟨rfl, _⟩, _⟩ := h; rfl
  · obtain ⟨a, SA', rs, D, n, ⟨rfl, S⟩, k1, k2⟩ := h
    refine ⟨_, (pss_cons (ps_expr (pe_meth (pv 0) T.c_Store T.m_Storecheck (ok_Storecheck (P := P) T) (hr.mono (by decide)) (bd_Storecheck T) .nil (passes_call (takes_of rfl rfl rfl rfl) (fun _ _ _ _ z => z)) (pa_cons pe_str (pa_cons (pv 1) (pa_cons (pe_callB call_len_seq (by rfl) T.n_len (by decide +kernel) (pa_cons (pe_fld (pv 0) rfl) pa_nil)) pa_nil)))))
      (pss_one (ps_ret (pe_ix ix_list (pe_fld (pv 0) rfl) (pv 1) (fun _ _ => rfl))))), ?_⟩
    obtain ⟨dx, ho⟩ := S.ob
    obtain ⟨xs, hx, hp⟩ := S.ha
    have el : xs.length = D.hands.length := Paired.length hp
    refine ⟨_, rfl, a, dx, _, rfl, ho, st_no SA' (by decide +kernel), _, rfl, _, rfl, a, _, dx, _, _, rfl, ho, T.c_Store, T.na_Store__hands, st_hands SA', _, _, rfl, .inl (SqL.of hx), a, "hand", _, _, rfl, fun z => ?_, fun z => k2 (by rw [← el]; exact z)⟩
    rw [el] at z
    have hl : n.toNat < D.hands.length := by omega
    have eo := List.getElem?_eq_getElem hl
    obtain ⟨v, hv, rv⟩ := paired_get hp eo
    have hat : atI xs n = some v := by
      have := atI_nat hv
      rw [Int.toNat_of_nonneg z.1] at this
      exact this
    exact ⟨_, rfl, a, _, dx, _, _, rfl, ho, T.c_Store, T.na_Store__hands, st_hands SA', _, rfl, _, _, _, _, rfl, rfl, SqL.of hx, hat, k1 z _ eo v rv⟩
theorem ok_Store_mending (T : Tx K mg) : FnOk P w K mg base CX0 5 (mad "Store" "mending" K) (fdD K (mad "Store" "mending" K)) P_Store_mending (spAskC K (fun D => D.hands.length) fun _ => .non) := by
  refine T.F_Store_mending.ok sc_Store_mending (fun vs H Q E h => ?_) (fun cdv A outer s H vs Q E hr h => ?_)
  · obtain ⟨s, A, rs, D, n, ⟨rfl, _⟩, _⟩ := h; rfl
  · obtain ⟨a, SA', rs, D, n, ⟨rfl, S⟩, hl, k⟩ := h
    refine ⟨_, PSs.nox ((pss_cons (ps_expr (pe_meth (pv 0) T.c_Store T.m_Storecheck (ok_Storecheck (P := P) T) (hr.mono (by decide)) (bd_Storecheck T) .nil passL (pa_cons pe_str (pa_cons (pv 1) (pa_cons (pe_callB call_len_seq (by rfl) T.n_len (by decide +kernel) (pa_cons (pe_fld (pv 0) rfl) pa_nil)) pa_nil)))))
      (pss_cons (ps_if (pt_cmpR op_isN (pe_ix ix_list (pe_fld (pv 0) rfl) (pv 1) (fun _ _ => rfl)) pe_non (nomark _)) (pss_one (ps_ret pe_non)) pss_nil)
      (pss_one (ps_ret (pe_ix ix_tup (pe_ix ix_list (pe_fld (pv 0) rfl) (pv 1) (fun _ _ => rfl)) pe_int (fun _ _ => rfl))))))), ?_⟩
    obtain ⟨dx, ho⟩ := S.ob
    obtain ⟨xs, hx, hp⟩ := S.ha
    have el : xs.length = D.hands.length := Paired.length hp
    have hl : n < D.hands.length := hl
    refine ⟨_, rfl, a, dx, _, rfl, ho, st_no SA' (by decide +kernel), _, rfl, _, rfl, a, _, dx, _, _, rfl, ho, T.c_Store, T.na_Store__hands, st_hands SA', _, _, rfl, .inl (SqL.of hx), a, "hand", _, _, rfl, fun _ => ?_, fun z => absurd ⟨by omega, by omega⟩ z⟩
    exact ⟨_, rfl, a, _, dx, _, _, rfl, ho, T.c_Store, T.na_Store__mendings, st_mendings SA', _, rfl, _, _, _, _, rfl, rfl, SqL.of S.me, at_rep hl, rfl, _, rfl, iteD rfl k⟩
theorem ok_Store_visited (T : Tx K mg) : FnOk P w K mg base CX0 5 (mad "Store" "visited" K) (fdD K (mad "Store" "visited" K)) P_Store_visited (spAskC K (fun D => D.slots.length) fun _ => .bl false) := by
  refine T.F_Store_visited.ok sc_Store_visited (fun vs H Q E h => ?_) (fun cdv A outer s H vs Q E hr h => ?_)
  · obtain ⟨s, A, rs, D, n, ⟨rfl, _⟩, _⟩ := h; rfl
  · obtain ⟨a, SA', rs, D, n, ⟨rfl, S⟩, hl, k⟩ := h
    refine ⟨_, PSs.nox ((pss_cons (ps_expr (pe_meth (pv 0) T.c_Store T.m_Storecheck (ok_Storecheck (P := P) T) (hr.mono (by decide)) (bd_Storecheck T) .nil passL (pa_cons pe_str (pa_cons (pv 1) (pa_cons (pe_callB call_len_seq (by rfl) T.n_len (by decide +kernel) (pa_cons (pe_fld (pv 0) rfl) pa_nil)) pa_nil)))))
      (pss_one (ps_ret (pe_ix ix_list (pe_fld (pv 0) rfl) (pv 1) (fun _ _ => rfl)))))), ?_⟩
    obtain ⟨dx, ho⟩ := S.ob
    obtain ⟨xs, hx, hp⟩ := S.sl
    have el : xs.length = D.slots.length := Paired.length hp
    have hl : n < D.slots.length := hl
    refine ⟨_, rfl, a, dx, _, rfl, ho, st_no SA' (by decide +kernel), _, rfl, _, rfl, a, _, dx, _, _, rfl, ho, T.c_Store, T.na_Store__slots, st_slots SA', _, _, rfl, .inl (SqL.of hx), a, "slot", _, _, rfl, fun _ => ?_, fun z => absurd ⟨by omega, by omega⟩ z⟩
    exact ⟨_, rfl, a, _, dx, _, _, rfl, ho, T.c_Store, T.na_Store__visited, st_visited SA', _, rfl, _, _, _, _, rfl, rfl, SqL.of S.vi, at_rep hl, k⟩
theorem ok_Store_place_of (T : Tx K mg) : FnOk P w K mg base CX0 5 (mad "Store" "place_of" K) (fdD K (mad "Store" "place_of" K)) P_Store_place_of (spAskC K SD.n fun n => .int (n : Int)) := by
  refine T.F_Store_place_of.ok sc_Store_place_of (fun vs H Q E h => ?_) (fun cdv A outer s H vs Q E hr h => ?_)
  · obtain ⟨s, A, rs, D, n, ⟨rfl, _⟩, _⟩ := h; rfl
  · obtain ⟨a, SA', rs, D, n, ⟨rfl, S⟩, hl, k⟩ := h
    refine ⟨_, PSs.nox ((pss_cons (ps_expr (pe_meth (pv 0) T.c_Store T.m_Storecheck (ok_Storecheck (P := P) T) (hr.mono (by decide)) (bd_Storecheck T) .nil passL (pa_cons pe_str (pa_cons (pv 1) (pa_cons (pe_callB call_len_seq (by rfl) T.n_len (by decide +kernel) (pa_cons (pe_fld (pv 0) rfl) pa_nil)) pa_nil)))))
      (pss_one (ps_ret (pe_ix ix_list (pe_fld (pv 0) rfl) (pv 1) (fun _ _ => rfl)))))), ?_⟩
    obtain ⟨dx, ho⟩ := S.ob
    have el : (nts (List.range D.n)).length = D.n := by rw [nts_length, List.length_range]
    refine ⟨_, rfl, a, dx, _, rfl, ho, st_no SA' (by decide +kernel), _, rfl, _, rfl, a, _, dx, _, _, rfl, ho, T.c_Store, T.na_Store__places, st_places SA', _, _, rfl, .inl (SqL.of S.pl), a, "thing", _, _, rfl, fun _ => ?_, fun z => absurd ⟨by omega, by omega⟩ z⟩
    exact ⟨_, rfl, a, _, dx, _, _, rfl, ho, T.c_Store, T.na_Store__places, st_places SA', _, rfl, _, _, _, _, rfl, rfl, SqL.of S.pl, atI_nat (nts_get (by rw [List.getElem?_range hl])), k⟩
theorem ok_Storeleft (T : Tx K mg) : FnOk P w K mg base CX0 2 (mad "Store" "_left" K) (fdD K (mad "Store" "_left" K)) P_Storeleft (spLeft K) := by
  refine T.F_Storeleft.ok sc_Storeleft (fun vs H Q E h => ?_) (fun cdv A outer s H vs Q E hr h => ?_)
  · obtain ⟨s, A, rs, D, b, r, ⟨rfl, _⟩, _⟩ := h; rfl
  · obtain ⟨a, SA', rs, D, b, r, ⟨rfl, S⟩, ⟨db, hb⟩, k⟩ := h
    refine ⟨_, PSs.nox ((pss_cons (ps_set (i := 2) sc_Storeleft.nd rfl (Or.inl rfl) (pe_un un_neg pe_int))
      (pss_cons (ps_set (i := 3) sc_Storeleft.nd rfl (Or.inl rfl) (pe_fld (pv 1) rfl))
      (pss_cons (ps_while PassesOwn.never (pt_cmp (pc_din (Nat.lt_of_le_of_lt (Nat.add_le_add_left (by decide) _) hr.units) (pv 3) (pe_fld (pv 0) rfl))) (pss_cons (ps_asg (pe_dget (Nat.lt_of_le_of_lt (Nat.add_le_add_left (by decide) _) hr.units) (pe_fld (pv 0) rfl) (pv 3) (fun _ _ => rfl)) (pg_tup rfl (pgs_cons (pg_name (i := 3) sc_Storeleft.nd rfl (Or.inl rfl)) (pgs_cons (pg_name (i := 4) sc_Storeleft.nd rfl (Or.inl rfl)) pgs_nil))))
      (pss_cons (ps_set (i := 5) sc_Storeleft.nd rfl (Or.inl rfl) (pe_callB (call_max2 rfl) (by rfl) T.n_max (by decide +kernel) (pa_cons pe_int (pa_cons (pe_op op_sub (pv 4) (pe_fld (pv 0) rfl)) pa_nil))))
      (pss_one (ps_set (i := 2) sc_Storeleft.nd rfl (Or.inl rfl) (pe_ifExp (pt_cmpR op_eq (pv 2) (pe_un un_neg pe_int) (nomark _)) (pv 5) (pe_callB (call_min2 rfl) (by rfl) T.n_min (by decide +kernel) (pa_cons (pv 2) (pa_cons (pv 5) pa_nil)))))))))
      (pss_one (ps_ret (pv 2))))))), ?_⟩
    obtain ⟨dx, ho⟩ := S.ob
    refine ⟨_, rfl, _, rfl, b, _, db, _, _, rfl, hb, T.c_Ref, T.na_Ref_place, rf_place _ _, ?_⟩
    refine ⟨fun m σ H' => m = 0 ∧ σ = [some (.ref a), some (.ref b), some (.int (-1)), some (.int r.1), none, none] ∧ H' = H, ⟨0, rfl, rfl, rfl⟩, ?_⟩
    rintro m σ H' ⟨_, rfl, rfl⟩
    refine ⟨_, rfl, _, rfl, a, _, dx, _, _, rfl, ho, T.c_Store, T.na_Store__posts, st_posts SA', SA'.po, _, rfl, DGet.k (k := .inl r.1) S.po, _, rfl, iteF ?_⟩
    exact ⟨_, rfl, k⟩
theorem ok_Store_row (T : Tx K mg) : FnOk P w K mg base CX0 1 (pad "property" "Store" "row" K) (fdD K (pad "property" "Store" "row" K)) P_Store_row (spTell K fun _ => .int 0) := by
  refine T.F_Store_row.ok sc_Store_row (fun vs H Q E h => ?_) (fun cdv A outer s H vs Q E hr h => ?_)
  · obtain ⟨s, A, rs, D, ⟨rfl, _⟩, _⟩ := h; rfl
  · obtain ⟨a, SA', rs, D, ⟨rfl, S⟩, k⟩ := h
    refine ⟨_, PSs.nox ((pss_one (ps_ret (pe_fld (pv 0) rfl)))), ?_⟩
    obtain ⟨dx, ho⟩ := S.ob
    exact ⟨_, rfl, a, _, dx, _, _, rfl, ho, T.c_Store, T.na_Store__row, st_row SA', k⟩
theorem ok_Store_turns (T : Tx K mg) : FnOk P w K mg base CX0 1 (pad "property" "Store" "turns" K) (fdD K (pad "property" "Store" "turns" K)) P_Store_turns (spTell K fun _ => .int 0) := by
  refine T.F_Store_turns.ok sc_Store_turns (fun vs H Q E h => ?_) (fun cdv A outer s H vs Q E hr h => ?_)
  · obtain ⟨s, A, rs, D, ⟨rfl, _⟩, _⟩ := h; rfl
  · obtain ⟨a, SA', rs, D, ⟨rfl, S⟩, k⟩ := h
    refine ⟨_, PSs.nox ((pss_one (ps_ret (pe_fld (pv 0) rfl)))), ?_⟩
    obtain ⟨dx, ho⟩ := S.ob
    exact ⟨_, rfl, a, _, dx, _, _, rfl, ho, T.c_Store, T.na_Store__turns, st_turns SA', k⟩
theorem ok_Store_things (T : Tx K mg) : FnOk P w K mg base CX0 2 (pad "property" "Store" "things" K) (fdD K (pad "property" "Store" "things" K)) P_Store_things (spTell K fun D => .int (D.n : Int)) := by
  refine T.F_Store_things.ok sc_Store_things (fun vs H Q E h => ?_) (fun cdv A outer s H vs Q E hr h => ?_)
  · obtain ⟨s, A, rs, D, ⟨rfl, _⟩, _⟩ := h; rfl
  · obtain ⟨a, SA', rs, D, ⟨rfl, S⟩, k⟩ := h
    refine ⟨_, PSs.nox ((pss_one (ps_ret (pe_callB call_len_seq (by rfl) T.n_len (by decide +kernel) (pa_cons (pe_fld (pv 0) rfl) pa_nil))))), ?_⟩
    obtain ⟨dx, ho⟩ := S.ob
    refine ⟨_, rfl, a, _, dx, _, _, rfl, ho, T.c_Store, T.na_Store__places, st_places SA', _, _, rfl, .inl (SqL.of S.pl), ?_⟩
    unfold nts
    rw [List.length_map, List.length_range]
    exact k
end
theorem paired_set {α β : Type} {F : α → β → Prop} {x : α} {y : β} (h : F x y) : ∀ {l₁ : List α} {l₂ : List β} {j : Nat}, Paired F l₁ l₂ → Paired F (l₁.set j x) (l₂.set j y)
  | _, _, _, .nil => .nil
  | _, _, 0, .cons _ t => .cons h t
  | _, _, j + 1, .cons a t => .cons a (paired_set h (j := j) t)
theorem StoreAt.re {K : PySem.W.Frag} {H H' : Hp} {s : Addr} {A : SA} {rs : List Ph} {D : SD} {ls : List Addr} (D' : SD) (h : StoreAt K H s A rs D) (f : Fls ls H H') (hl : ∀ x ∈ ls, ∃ u, H x = some (.lst u)) (hb : A.bl ∉ ls)
    (pl : H' A.pl = some (.lst (nts (List.range D'.n)))) (ow : H' A.ow = some (.lst (nts (List.range D'.n)))) (sl : ∃ xs, H' A.sl = some (.lst xs) ∧ Paired (RefO K H') xs D'.slots) (vi : H' A.vi = some (.lst (List.replicate D'.slots.length (.bl false))))
    (ha : ∃ xs, H' A.ha = some (.lst xs) ∧ Paired (RefO K H') xs D'.hands) (me : H' A.me = some (.lst (List.replicate D'.hands.length .non))) (fn : D'.n ≤ 1000) (fs : D'.slots.length ≤ 64) (fh : D'.hands.length ≤ 64) : StoreAt K H' s A rs D' := by
  have nl : ∀ {a : Addr} {o : HO}, H a = some o → (∀ u, o ≠ .lst u) → H' a = some o := fun {a o} e n => f _ _ (fun m => by
    obtain ⟨u, hu⟩ := hl a m
    rw [e] at hu
    exact n u (Option.some.inj hu)) e
  obtain ⟨⟨dx, o1⟩, bk, _, _, po, _, _, _, _, nd, _, _, _⟩ := h
  refine ⟨⟨dx, nl o1 (by intro u z; cases z)⟩, ?_, pl, ow, nl po (by intro u z; cases z), sl, vi, ha, me, nd, fn, fs, fh⟩
  obtain ⟨⟨d, b1⟩, ⟨as, b2, b3, b4⟩, b5, b6, b7⟩ := bk
  refine ⟨⟨d, nl b1 (by intro u z; cases z)⟩, ⟨as, f _ _ hb b2, b3, fun i a r ha hr => ?_⟩, b5, b6, b7⟩
  obtain ⟨dp, q⟩ := b4 i a r ha hr
  exact ⟨dp, nl q (by intro u z; cases z)⟩
theorem BkAt.fls {K : PySem.W.Frag} {H H' : Hp} {b l : Addr} {rs : List Ph} {ls : List Addr} (bk : BkAt K H b l rs) (f : Fls ls H H') (hl : ∀ x ∈ ls, ∃ u, H x = some (.lst u)) (hb : l ∉ ls) : BkAt K H' b l rs := by
  have nl : ∀ {a : Addr} {o : HO}, H a = some o → (∀ u, o ≠ .lst u) → H' a = some o := fun {a o} e n => f _ _ (fun m => by
    obtain ⟨u, hu⟩ := hl a m
    rw [e] at hu
    exact n u (Option.some.inj hu)) e
  obtain ⟨⟨d, b1⟩, ⟨as, b2, b3, b4⟩, b5, b6, b7⟩ := bk
  refine ⟨⟨d, nl b1 (by intro u z; cases z)⟩, ⟨as, f _ _ hb b2, b3, fun i a r ha hr => ?_⟩, b5, b6, b7⟩
  obtain ⟨dp, q⟩ := b4 i a r ha hr
  exact ⟨dp, nl q (by intro u z; cases z)⟩
theorem Fl.madeS {H H' : Hp} {x dx C : Addr} (nx : H x = none) (nd : H dx = none) (f : Fl x (L2.upd (L2.upd H dx (.own x)) x (.ins C dx [])) H') : Same H H' := fun a o h => by
  have n1 : a ≠ x := ne_of_none h nx
  exact f _ _ n1 (upd_oth n1 (upd_old nd h))
theorem StoreAt.ne {K : PySem.W.Frag} {H : Hp} {s : Addr} {A : SA} {rs : List Ph} {D : SD} (S : StoreAt K H s A rs D) : (A.bl ≠ A.pl ∧ A.bl ≠ A.ow ∧ A.bl ≠ A.sl ∧ A.bl ≠ A.ha) ∧ (A.pl ≠ A.ow ∧ A.pl ≠ A.sl ∧ A.pl ≠ A.vi ∧ A.pl ≠ A.ha ∧ A.pl ≠ A.me) ∧ (A.ow ≠ A.sl ∧ A.ow ≠ A.vi ∧ A.ow ≠ A.ha ∧ A.ow ≠ A.me) ∧ (A.sl ≠ A.vi ∧ A.sl ≠ A.ha ∧ A.sl ≠ A.me) ∧ (A.vi ≠ A.ha ∧ A.ha ≠ A.me) := by
  have h := S.nd
  simp only [SA.lists, List.nodup_cons, List.mem_cons, List.not_mem_nil, not_or, or_false] at h
  obtain ⟨⟨a1, a2, a3, a4, a5, a6⟩, ⟨b1, b2, b3, b4, b5⟩, ⟨c1, c2, c3, c4⟩, ⟨d1, d2, d3⟩, ⟨e1, e2⟩, f1, _⟩ := h
  exact ⟨⟨a1, a2, a3, a5⟩, ⟨b1, b2, b3, b4, b5⟩, ⟨c1, c2, c3, c4⟩, ⟨d1, d2, d3⟩, ⟨e1, f1⟩⟩
theorem ixN_nat {n j : Nat} (h : j < n) : ixN n (j : Int) = some j := by
  unfold ixN
  rw [if_pos (by omega), if_pos (by omega), Int.toNat_natCast]
def spMake (K : PySem.W.Frag) : Sp := fun vs H Q _ => ∃ s A rs D, ∃ h : Nat, StA K vs H s A rs D [.int (h : Int)] ∧ h < D.hands.length ∧ D.n < 1000 ∧ ∀ r0, rs[0]? = some r0 → ∀ H', Fls [A.ow, A.pl, A.ha] H H' → StoreAt K H' s A rs { D with n := D.n + 1, hands := D.hands.set h (some ((D.n : Int), r0.hue)) } → Q (.int (D.n : Int)) H'
def spWrite (K : PySem.W.Frag) : Sp := fun vs H Q E => ∃ s A rs D, ∃ h j : Nat, StA K vs H s A rs D [.int (h : Int), .int (j : Int)] ∧ h < D.hands.length ∧ j < D.slots.length ∧ (∀ r, D.hands[h]? = some (some r) → ∀ H', Fls [A.sl] H H' → StoreAt K H' s A rs { D with slots := D.slots.set j (some r) } → Q .non H') ∧ (D.hands[h]? = some none → ERef K H E "Empty" "hand" h)
def spUse (K : PySem.W.Frag) : Sp := fun vs H Q E => ∃ s A rs D, ∃ h : Nat, StA K vs H s A rs D [.int (h : Int)] ∧ h < D.hands.length ∧ (∀ r, D.hands[h]? = some (some r) → Q (.int r.1) H) ∧ (D.hands[h]? = some none → ERef K H E "Empty" "hand" h)
section
variable {P : Program} [SupP P pFile] {w : World} {K : PySem.W.Frag} {mg : Str → Option Value} {base : Heap}
theorem ok_Store_use (T : Tx K mg) : FnOk P w K mg base (L2.CX P w) 5 (mad "Store" "use" K) (fdD K (mad "Store" "use" K)) P_Store_use (spUse K) := by
  refine T.F_Store_use.ok sc_Store_use (fun vs H Q E h => ?_) (fun cdv A outer s H vs Q E hr h => ?_)
  · obtain ⟨s, A, rs, D, n, ⟨rfl, _⟩, _⟩ := h; rfl
  · obtain ⟨a, SA', rs, D, n, ⟨rfl, S⟩, hl, k1, k2⟩ := h
    refine ⟨_, (pss_cons (ps_expr (pe_meth (pv 0) T.c_Store T.m_Storecheck (ok_Storecheck (P := P) T) (hr.mono (by decide)) (bd_Storecheck T) .nil (passes_call (takes_of rfl rfl rfl rfl) (fun _ _ _ _ z => z)) (pa_cons pe_str (pa_cons (pv 1) (pa_cons (pe_callB call_len_seq (by rfl) T.n_len (by decide +kernel) (pa_cons (pe_fld (pv 0) rfl) pa_nil)) pa_nil)))))
      (pss_cons (ps_expr (pe_meth (pv 0) T.c_Store T.m_Storecheck_idle (ok_Storecheck_idle (P := P) T) (hr.mono (by decide)) (bd_Storecheck_idle T) .nil pass0 (pa_cons (pv 1) pa_nil)))
      (pss_cons (ps_set (i := 2) sc_Store_use.nd rfl (Or.inl rfl) (pe_meth (pv 0) T.c_Store T.m_Storeheld (ok_Storeheld (P := P) T) (hr.mono (by decide)) (bd_Storeheld T) .nil (passes_call (takes_of rfl rfl rfl rfl) (fun _ _ _ _ z => z)) (pa_cons (pv 1) pa_nil)))
      (pss_cons (ps_if (pt_cmpR op_ne (pe_meth (pv 0) T.c_Store T.m_Storeleft (ok_Storeleft (P := P) T) (hr.mono (by decide)) (bd_Storeleft T) .nil pass0 (pa_cons (pv 2) pa_nil)) (pe_un un_neg pe_int) (nomark _)) (pss_one ps_never) pss_nil)
      (pss_one (ps_ret (pe_fld (pv 2) rfl))))))), ?_⟩
    obtain ⟨dx, ho⟩ := S.ob
    obtain ⟨xs, hx, hp⟩ := S.ha
    have el : xs.length = D.hands.length := Paired.length hp
    refine ⟨_, rfl, a, dx, _, rfl, ho, st_no SA' (by decide +kernel), _, rfl, _, rfl, a, _, dx, _, _, rfl, ho, T.c_Store, T.na_Store__hands, st_hands SA', _, _, rfl, .inl (SqL.of hx), a, "hand", _, _, rfl, fun _ => ?_, fun z => absurd ⟨by omega, by omega⟩ z⟩
    refine ⟨_, rfl, a, dx, _, rfl, ho, st_no SA' (by decide +kernel), _, rfl, a, SA', rs, D, n, ⟨rfl, S⟩, hl, ?_⟩
    refine ⟨_, rfl, a, dx, _, rfl, ho, st_no SA' (by decide +kernel), _, rfl, a, SA', rs, D, n, ⟨rfl, S⟩, fun r er v rv => ?_, hl, fun er => k2 er⟩
    have k := k1 r er
    obtain ⟨c, rfl, ⟨dc, hc⟩, ok⟩ := rv
    refine ⟨_, rfl, a, dx, _, rfl, ho, st_no SA' (by decide +kernel), _, rfl, a, SA', rs, D, c, r, ⟨rfl, S⟩, ⟨dc, hc⟩, ?_⟩
    refine ⟨_, rfl, rfl, _, rfl, iteNS rfl ?_⟩
    exact ⟨_, rfl, c, _, dc, _, _, rfl, hc, T.c_Ref, T.na_Ref_place, rf_place _ _, k⟩
theorem ok_Store_write (T : Tx K mg) : FnOk P w K mg base (L2.CX P w) 5 (mad "Store" "write" K) (fdD K (mad "Store" "write" K)) P_Store_write (spWrite K) := by
  refine T.F_Store_write.ok sc_Store_write (fun vs H Q E h => ?_) (fun cdv A outer s H vs Q E hr h => ?_)
  · obtain ⟨s, A, rs, D, n, j, ⟨rfl, _⟩, _⟩ := h; rfl
  · obtain ⟨a, SA', rs, D, n, j, ⟨rfl, S⟩, hl, jl, k1, k2⟩ := h
    refine ⟨_, (pss_cons (ps_expr (pe_meth (pv 0) T.c_Store T.m_Storecheck (ok_Storecheck (P := P) T) (hr.mono (by decide)) (bd_Storecheck T) .nil (passes_call (takes_of rfl rfl rfl rfl) (fun _ _ _ _ z => z)) (pa_cons pe_str (pa_cons (pv 1) (pa_cons (pe_callB call_len_seq (by rfl) T.n_len (by decide +kernel) (pa_cons (pe_fld (pv 0) rfl) pa_nil)) pa_nil)))))
      (pss_cons (ps_expr (pe_meth (pv 0) T.c_Store T.m_Storecheck (ok_Storecheck (P := P) T) (hr.mono (by decide)) (bd_Storecheck T) .nil (passes_call (takes_of rfl rfl rfl rfl) (fun _ _ _ _ z => z)) (pa_cons pe_str (pa_cons (pv 2) (pa_cons (pe_callB call_len_seq (by rfl) T.n_len (by decide +kernel) (pa_cons (pe_fld (pv 0) rfl) pa_nil)) pa_nil)))))
      (pss_cons (ps_expr (pe_meth (pv 0) T.c_Store T.m_Storecheck_idle (ok_Storecheck_idle (P := P) T) (hr.mono (by decide)) (bd_Storecheck_idle T) .nil pass0 (pa_cons (pv 1) pa_nil)))
      (pss_one (ps_asg (pe_meth (pv 0) T.c_Store T.m_Storeheld (ok_Storeheld (P := P) T) (hr.mono (by decide)) (bd_Storeheld T) .nil (passes_call (takes_of rfl rfl rfl rfl) (fun _ _ _ _ z => z)) (pa_cons (pv 1) pa_nil)) (pg_sub (pe_fld (pv 0) rfl) (pv 2) set_list)))))), ?_⟩
    obtain ⟨dx, ho⟩ := S.ob
    obtain ⟨xs, hx, hp⟩ := S.ha
    obtain ⟨ys, hy, hq⟩ := S.sl
    have el : xs.length = D.hands.length := Paired.length hp
    have el2 : ys.length = D.slots.length := Paired.length hq
    refine ⟨_, rfl, a, dx, _, rfl, ho, st_no SA' (by decide +kernel), _, rfl, _, rfl, a, _, dx, _, _, rfl, ho, T.c_Store, T.na_Store__hands, st_hands SA', _, _, rfl, .inl (SqL.of hx), a, "hand", _, _, rfl, fun _ => ?_, fun z => absurd ⟨by omega, by omega⟩ z⟩
    refine ⟨_, rfl, a, dx, _, rfl, ho, st_no SA' (by decide +kernel), _, rfl, _, rfl, a, _, dx, _, _, rfl, ho, T.c_Store, T.na_Store__slots, st_slots SA', _, _, rfl, .inl (SqL.of hy), a, "slot", _, _, rfl, fun _ => ?_, fun z => absurd ⟨by omega, by omega⟩ z⟩
    refine ⟨_, rfl, a, dx, _, rfl, ho, st_no SA' (by decide +kernel), _, rfl, a, SA', rs, D, n, ⟨rfl, S⟩, hl, ?_⟩
    refine ⟨_, rfl, a, dx, _, rfl, ho, st_no SA' (by decide +kernel), _, rfl, a, SA', rs, D, n, ⟨rfl, S⟩, fun r er v rv => ?_, hl, fun er => k2 er⟩
    obtain ⟨⟨_, _, n3, _⟩, ⟨_, p2, _, _, _⟩, ⟨o1, _, _, _⟩, ⟨q1, q2, q3⟩, _⟩ := S.ne
    have f : Fls [SA'.sl] H (upd H SA'.sl (.lst (ys.set j v))) := Fls.one (Fl.cell) (List.mem_singleton_self _)
    have hl1 : ∀ x ∈ [SA'.sl], ∃ u, H x = some (.lst u) := fun x m => by rw [List.mem_singleton.mp m]; exact ⟨_, hy⟩
    refine ⟨_, rfl, a, _, dx, _, _, rfl, ho, T.c_Store, T.na_Store__slots, st_slots SA', _, rfl, SA'.sl, ys, _, j, rfl, rfl, hy, ixN_nat (by omega), ?_⟩
    refine k1 r er _ f (S.re _ f hl1 (fun m => n3 (List.mem_singleton.mp m)) (upd_oth p2 S.pl) (upd_oth o1 S.ow) ⟨_, upd_same, ?_⟩ ?_ ⟨xs, upd_oth q2.symm hx, ?_⟩ (upd_oth q3.symm S.me) S.fn ?_ S.fh)
    · exact paired_set (rv.fls f hl1) (L2.Paired.mapP hq fun v o q => q.fls f hl1)
    · rw [List.length_set]; exact upd_oth q1.symm S.vi
    · exact L2.Paired.mapP hp fun v o q => q.fls f hl1
    · rw [List.length_set]; exact S.fs
theorem ok_Store_make (T : Tx K mg) : FnOk P w K mg base (L2.CX P w) 5 (mad "Store" "make" K) (fdD K (mad "Store" "make" K)) P_Store_make (spMake K) := by
  refine T.F_Store_make.ok sc_Store_make (fun vs H Q E h => ?_) (fun cdv A outer s H vs Q E hr h => ?_)
  · obtain ⟨s, A, rs, D, n, ⟨rfl, _⟩, _⟩ := h; rfl
  · obtain ⟨a, SA', rs, D, n, ⟨rfl, S⟩, hl, dl, k⟩ := h
    refine ⟨_, (pss_cons (ps_expr (pe_meth (pv 0) T.c_Store T.m_Storecheck (ok_Storecheck (P := P) T) (hr.mono (by decide)) (bd_Storecheck T) .nil (passes_call (takes_of rfl rfl rfl rfl) (fun _ _ _ _ z => z)) (pa_cons pe_str (pa_cons (pv 1) (pa_cons (pe_callB call_len_seq (by rfl) T.n_len (by decide +kernel) (pa_cons (pe_fld (pv 0) rfl) pa_nil)) pa_nil)))))
      (pss_cons (ps_expr (pe_meth (pv 0) T.c_Store T.m_Storecheck_idle (ok_Storecheck_idle (P := P) T) (hr.mono (by decide)) (bd_Storecheck_idle T) .nil pass0 (pa_cons (pv 1) pa_nil)))
      (pss_cons (ps_set (i := 2) sc_Store_make.nd rfl (Or.inl rfl) (pe_callB call_len_seq (by rfl) T.n_len (by decide +kernel) (pa_cons (pe_fld (pv 0) rfl) pa_nil)))
      (pss_cons (ps_set (i := 3) sc_Store_make.nd rfl (Or.inl rfl) (pe_callB call_len_seq (by rfl) T.n_len (by decide +kernel) (pa_cons (pe_fld (pv 0) rfl) pa_nil)))
      (pss_cons (ps_expr (pe_bm PySem.F.plainAttrs_list PySem.F.slot_list_append PySem.F.type_list_append mt_append (pe_fld (pv 0) rfl) (pa_cons (pv 3) pa_nil)))
      (pss_cons (ps_expr (pe_bm PySem.F.plainAttrs_list PySem.F.slot_list_append PySem.F.type_list_append mt_append (pe_fld (pv 0) rfl) (pa_cons (pv 2) pa_nil)))
      (pss_cons (ps_asg (pe_make T.mk_Ref (ok_Ref_init (P := P) T) (hr.mono (by decide)) rfl T.g_Ref (bd_Ref_init T) .nil pass0 (pa_cons (pv 2) (pa_cons (pe_fld (pe_ixO T.o_Book_getitem (fr_Book_getitem (P := P) T) (hr.mono (by decide)) pass0 (pe_fld (pv 0) rfl) (pe_fld (pv 0) rfl)) rfl) pa_nil))) (pg_sub (pe_fld (pv 0) rfl) (pv 1) set_list))
      (pss_one (ps_ret (pv 3)))))))))), ?_⟩
    obtain ⟨dx, ho⟩ := S.ob
    obtain ⟨xs, hx, hp⟩ := S.ha
    have el : xs.length = D.hands.length := Paired.length hp
    refine ⟨_, rfl, a, dx, _, rfl, ho, st_no SA' (by decide +kernel), _, rfl, _, rfl, a, _, dx, _, _, rfl, ho, T.c_Store, T.na_Store__hands, st_hands SA', _, _, rfl, .inl (SqL.of hx), a, "hand", _, _, rfl, fun _ => ?_, fun z => absurd ⟨by omega, by omega⟩ z⟩
    refine ⟨_, rfl, a, dx, _, rfl, ho, st_no SA' (by decide +kernel), _, rfl, a, SA', rs, D, n, ⟨rfl, S⟩, hl, ?_⟩
    refine ⟨_, rfl, a, _, dx, _, _, rfl, ho, T.c_Store, T.na_Store__owners, st_owners SA', _, _, rfl, .inl (SqL.of S.ow), ?_⟩
    refine ⟨_, rfl, a, _, dx, _, _, rfl, ho, T.c_Store, T.na_Store__places, st_places SA', _, _, rfl, .inl (SqL.of S.pl), ?_⟩
    rw [nts_length, List.length_range]
    obtain ⟨⟨n1, n2, n3, n4⟩, ⟨p1, p2, p3, p4, p5⟩, ⟨o1, o2, o3, o4⟩, ⟨q1, q2, q3⟩, ⟨r1, r2⟩⟩ := S.ne
    have so : a ≠ SA'.ow := ne_of ho S.ow (by intro z; cases z)
    have so2 : a ≠ SA'.pl := ne_of ho S.pl (by intro z; cases z)
    have ln : ∀ m : Nat, m < 1000 → (nts (List.range m)).length < sizeLine := fun m h => by rw [nts_length, List.length_range]; exact Nat.lt_of_lt_of_le h (by decide)
    have snoc : nts (List.range D.n) ++ [V.int (D.n : Int)] = nts (List.range (D.n + 1)) := by
      unfold nts
      rw [List.range_succ, List.map_append]
      rfl
    refine ⟨_, rfl, a, _, dx, _, _, rfl, ho, T.c_Store, T.na_Store__owners, st_owners SA', .inl ⟨rfl, _, SqL.of S.ow⟩, _, rfl, SA'.ow, _, _, rfl, rfl, S.ow, ln _ dl, ?_⟩
    rw [snoc]
    refine ⟨_, rfl, a, _, dx, _, _, rfl, upd_oth so ho, T.c_Store, T.na_Store__places, st_places SA', .inl ⟨rfl, _, SqL.of (upd_oth p1 S.pl)⟩, _, rfl, SA'.pl, _, _, rfl, rfl, upd_oth p1 S.pl, ln _ dl, ?_⟩
    rw [snoc]
    have F2 : Fls [SA'.ow, SA'.pl, SA'.ha] H (upd (upd H SA'.ow (.lst (nts (List.range (D.n + 1))))) SA'.pl (.lst (nts (List.range (D.n + 1))))) := (Fls.one Fl.cell (by simp)).trans (Fls.one Fl.cell (by simp))
    have hpl2 : upd (upd H SA'.ow (.lst (nts (List.range (D.n + 1))))) SA'.pl (.lst (nts (List.range (D.n + 1)))) SA'.pl = some (.lst (nts (List.range (D.n + 1)))) := upd_same
    have how2 : upd (upd H SA'.ow (.lst (nts (List.range (D.n + 1))))) SA'.pl (.lst (nts (List.range (D.n + 1)))) SA'.ow = some (.lst (nts (List.range (D.n + 1)))) := upd_oth p1.symm upd_same
    have hx2 : upd (upd H SA'.ow (.lst (nts (List.range (D.n + 1))))) SA'.pl (.lst (nts (List.range (D.n + 1)))) SA'.ha = some (.lst xs) := upd_oth p4.symm (upd_oth o3.symm hx)
    have ho2 : upd (upd H SA'.ow (.lst (nts (List.range (D.n + 1))))) SA'.pl (.lst (nts (List.range (D.n + 1)))) a = _ := upd_oth so2 (upd_oth so ho)
    generalize upd (upd H SA'.ow (.lst (nts (List.range (D.n + 1))))) SA'.pl (.lst (nts (List.range (D.n + 1)))) = H2 at F2 hpl2 how2 hx2 ho2 ⊢
    have hl3 : ∀ x ∈ [SA'.ow, SA'.pl, SA'.ha], ∃ u, H x = some (.lst u) := fun x m => by
      simp only [List.mem_cons, List.not_mem_nil, or_false] at m
      rcases m with rfl | rfl | rfl
      · exact ⟨_, S.ow⟩
      · exact ⟨_, S.pl⟩
      · exact ⟨_, hx⟩
    have nbl : SA'.bl ∉ [SA'.ow, SA'.pl, SA'.ha] := by
      simp only [List.mem_cons, List.not_mem_nil, not_or, or_false]
      exact ⟨n2, n1, n4⟩
    have B2 := S.bk.fls F2 hl3 nbl
    obtain ⟨db, hb2⟩ := B2.bk
    refine ⟨_, rfl, _, rfl, a, _, dx, _, _, rfl, ho2, T.c_Store, T.na_Store__book, st_book SA', _, rfl, a, _, dx, _, _, rfl, ho2, T.c_Store, T.na_Store__row, st_row SA', SA'.b, db, _, rfl, hb2, SA'.b, SA'.bl, rs, 0, rfl, B2, fun c r hr' okr ⟨dc, hc⟩ => ⟨c, _, dc, _, _, rfl, hc, T.c_Phase, T.na_Phase_hue, ph_hue r, fun x dx' nx nd ne => ?_⟩⟩
    rw [Int.zero_emod] at hr'
    have hr0 : rs[0]? = some r := hr'
    refine ⟨x, dx', (D.n : Int), r.hue, rfl, upd_same, ⟨by omega, ?_, okr.h0, by have := okr.h1; omega⟩, fun H3 f3 h3 => ⟨rfl, ?_⟩⟩
    · rw [Int.toNat_natCast]
      exact Nat.lt_of_lt_of_le dl (by decide)
    have S3 := Fl.madeS nx nd f3
    refine ⟨_, rfl, a, _, dx, _, _, rfl, S3 _ _ ho2, T.c_Store, T.na_Store__hands, st_hands SA', _, rfl, SA'.ha, xs, _, n, rfl, rfl, S3 _ _ hx2, ixN_nat (by omega), ?_⟩
    have F4 : Fls [SA'.ow, SA'.pl, SA'.ha] H (upd H3 SA'.ha (.lst (xs.set n (.ref x)))) := (F2.trans (Fls.same S3)).trans (Fls.one Fl.cell (by simp))
    have hxa : H3 x = some (.ins (gad "Ref" K) dx' (rfF (D.n : Int) r.hue)) := h3
    have hx4 : upd H3 SA'.ha (.lst (xs.set n (.ref x))) x = some (.ins (gad "Ref" K) dx' (rfF (D.n : Int) r.hue)) := upd_oth (ne_of hxa (S3 _ _ hx2) (by intro z; cases z)) hxa
    refine ⟨_, rfl, k r hr0 _ F4 (S.re _ F4 hl3 nbl (upd_oth p4 (S3 _ _ hpl2)) (upd_oth o3 (S3 _ _ how2)) ?_ (F4 _ _ (by simp only [List.mem_cons, List.not_mem_nil, not_or, or_false]; exact ⟨o2.symm, p3.symm, r1⟩) S.vi) ⟨_, upd_same, ?_⟩ ?_ (by show D.n + 1 ≤ 1000; omega) S.fs (by show (D.hands.set n _).length ≤ 64; rw [List.length_set]; exact S.fh))⟩
    · obtain ⟨ys, hy, hq⟩ := S.sl
      exact ⟨ys, F4 _ _ (by simp only [List.mem_cons, List.not_mem_nil, not_or, or_false]; exact ⟨o1.symm, p2.symm, q2⟩) hy, L2.Paired.mapP hq fun v o q => q.fls F4 hl3⟩
    · refine paired_set ⟨x, rfl, ⟨dx', hx4⟩, ⟨by omega, ?_, okr.h0, by have := okr.h1; omega⟩⟩ (L2.Paired.mapP hp fun v o q => q.fls F4 hl3)
      show (D.n : Int).toNat < 2 ^ 210
      rw [Int.toNat_natCast]
      exact Nat.lt_of_lt_of_le dl (by decide)
    · show _ = some (HO.lst (List.replicate (D.hands.set n _).length .non))
      rw [List.length_set]
      exact F4 _ _ (by simp only [List.mem_cons, List.not_mem_nil, not_or, or_false]; exact ⟨o4.symm, p5.symm, r2.symm⟩) S.me
end

end Hue

set_option Elab.async false
set_option linter.all false
set_option maxRecDepth 100000
set_option maxHeartbeats 1000000
namespace Hue
open PySem PySem.Spec PyProof.Rows L2 ItX
local macro_rules | `(tactic| walk_at "hp") => `(tactic| first
  | assumption
  | exact upd_same
  | (refine upd_old (by assumption) ?_; walk_at "hp")
  | (refine upd_oth (by assumption) ?_; walk_at "hp")
  | (refine same_get (by assumption) ?_; walk_at "hp")
  | (refine Fl.get (by assumption) (by assumption) ?_; walk_at "hp"))
local macro_rules | `(tactic| walk_at "seq") => `(tactic| first
  | assumption
  | exact T.t_BARRIERS _
  | exact SqL.of (by walk_at "hp")
  | exact SqT.of (by walk_at "hp"))
local macro_rules | `(tactic| walk_at "len") => `(tactic| first
  | exact Or.inl (by walk_at "seq")
  | exact Or.inr (by walk_at "seq"))
local macro_rules | `(tactic| walk_at "at") => `(tactic| first
  | rfl
  | assumption)

/-! ### Store.__init__ -/
def newD (m f : Nat) : SD := ⟨0, List.replicate f none, List.replicate m none⟩
def SA.all (A : SA) : List Addr := [A.b, A.bl, A.pl, A.ow, A.po, A.sl, A.vi, A.ha, A.me]
def spStoreInit (K : PySem.W.Frag) : Sp := fun vs H Q _ => ∃ (s dx b bl : Addr) (rs : List Ph) (m f : Nat), vs = [.ref s, .ref b, .int (m : Int), .int (f : Int)] ∧ H s = some (.ins (gad "Store" K) dx []) ∧ BkAt K H b bl rs ∧ m ≤ 64 ∧ f ≤ 64 ∧
  ∀ A H', Fl s H H' → (∀ x ∈ A.all, H x = none) → StoreAt K H' s A rs (newD m f) → Q .non H'
theorem bk_no (l : Addr) {m : Str} (h : ¬ m = "phases") : (bkF l).lookup m = none := by
  unfold bkF
  rw [lookup_putF, if_neg h]
  rfl
theorem rep_pair {K : PySem.W.Frag} {H : Hp} : ∀ n : Nat, Paired (RefO K H) (List.replicate n V.non) (List.replicate n (none : Option Rf))
  | 0 => .nil
  | n + 1 => .cons rfl (rep_pair n)
theorem ph_ne (r : Ph) : phF r ≠ [] := fun z => by
  have h := ph_hue r
  rw [z] at h
  cases h
theorem BkAt.flS {K : PySem.W.Frag} {H H' : Hp} {a c l dx C : Addr} {rs : List Ph} (h : BkAt K H c l rs) (e : Fl a H H') (ha : H a = some (.ins C dx [])) (ca : c ≠ a) : BkAt K H' c l rs := by
  obtain ⟨⟨d, h1⟩, ⟨as, h2, h3, h4⟩, h5, h6, h7⟩ := h
  refine ⟨⟨d, e _ _ ca h1⟩, ⟨as, e _ _ (ne_of h2 ha (by intro z; cases z)) h2, h3, fun i x r hx hr => ?_⟩, h5, h6, h7⟩
  refine (h4 i x r hx hr).fl e ?_
  obtain ⟨dp, q⟩ := h4 i x r hx hr
  exact ne_of q ha (by
    intro z
    injection z with _ _ z
    exact ph_ne r z)
theorem rep_one (n : Nat) (v : V) : (List.replicate n [v]).flatten = List.replicate n v := by
  induction n with
  | zero => rfl
  | succ n ih => rw [List.replicate_succ, List.flatten_cons, ih, List.replicate_succ]; rfl
section
variable {P : Program} [SupP P pFile] {w : World} {K : PySem.W.Frag} {mg : Str → Option Value} {base : Heap}
theorem ok_Store_init (T : Tx K mg) : FnOk P w K mg base CX0 5 (mad "Store" "__init__" K) (fdD K (mad "Store" "__init__" K)) P_Store_init (spStoreInit K) := by
  refine T.F_Store_init.ok sc_Store_init (fun vs H Q E h => ?_) (fun cdv A outer s H vs Q E hr h => ?_)
  · obtain ⟨s, dx, b, bl, rs, m, f, rfl, _⟩ := h; rfl
  · obtain ⟨a, dx, b, bl, rs, m, f, rfl, ho, B, m64, f64, k⟩ := h
    refine ⟨_, PSs.nox ((pss_cons (ps_fld (pv 0) (pe_meth0 (pv 1) T.c_Book T.m_Book_copy (ok_Book_copy (P := P) T) (hr.mono (by decide)) (bd_Book_copy T) .nil pass0) rfl)
      (pss_cons (ps_fld (pv 0) pe_int rfl)
      (pss_cons (ps_fld (pv 0) pe_int rfl)
      (pss_cons (ps_fld (pv 0) (pe_lst pa_nil) rfl)
      (pss_cons (ps_fld (pv 0) (pe_lst pa_nil) rfl)
      (pss_cons (ps_fld (pv 0) pe_dnewK rfl)
      (pss_cons (ps_fld (pv 0) (pe_op op_rep (pe_lst (pa_cons pe_non pa_nil)) (pv 2)) rfl)
      (pss_cons (ps_fld (pv 0) (pe_op op_rep (pe_lst (pa_cons pe_bl pa_nil)) (pv 2)) rfl)
      (pss_cons (ps_fld (pv 0) (pe_op op_rep (pe_lst (pa_cons pe_non pa_nil)) (pv 3)) rfl)
      (pss_one (ps_fld (pv 0) (pe_op op_rep (pe_lst (pa_cons pe_non pa_nil)) (pv 3)) rfl)))))))))))), ?_⟩
    obtain ⟨dxb, hb⟩ := B.bk
    refine ⟨_, rfl, b, dxb, _, rfl, hb, bk_no bl (by decide +kernel), b, bl, rs, rfl, B, fun c cl H1 nc ncl S1 Bc => ?_⟩
    have ho1 := S1 _ _ ho
    have e0 : H1 a = some (.ins (gad "Store" K) dx []) := ho1
    have g0 : Fl a H H1 := Fl.same S1
    refine ⟨_, rfl, a, _, dx, _, rfl, e0, T.c_Store, T.na_Store__book, (Nat.zero_lt_succ _), ?_⟩
    have f1 : Fl a H1 (upd H1 a (.ins (gad "Store" K) dx (putF "_book" (.ref c) []))) := Fl.cell
    have e1 : (upd H1 a (.ins (gad "Store" K) dx (putF "_book" (.ref c) []))) a = some (.ins (gad "Store" K) dx (putF "_book" (.ref c) [])) := upd_same
    generalize upd H1 a (.ins (gad "Store" K) dx (putF "_book" (.ref c) [])) = H2 at f1 e1 ⊢
    have s1 : Fl a H1 H2 := f1
    have g1 := g0.trans s1
    refine ⟨_, rfl, a, _, dx, _, rfl, e1, T.c_Store, T.na_Store__row, (few (Nat.zero_lt_succ _)), ?_⟩
    have f2 : Fl a H2 (upd H2 a (.ins (gad "Store" K) dx (putF "_row" (.int 0) (putF "_book" (.ref c) [])))) := Fl.cell
    have e2 : (upd H2 a (.ins (gad "Store" K) dx (putF "_row" (.int 0) (putF "_book" (.ref c) [])))) a = some (.ins (gad "Store" K) dx (putF "_row" (.int 0) (putF "_book" (.ref c) []))) := upd_same
    generalize upd H2 a (.ins (gad "Store" K) dx (putF "_row" (.int 0) (putF "_book" (.ref c) []))) = H3 at f2 e2 ⊢
    have s2 : Fl a H2 H3 := f2
    have g2 := g1.trans s2
    refine ⟨_, rfl, a, _, dx, _, rfl, e2, T.c_Store, T.na_Store__turns, (few (few (Nat.zero_lt_succ _))), ?_⟩
    have f3 : Fl a H3 (upd H3 a (.ins (gad "Store" K) dx (putF "_turns" (.int 0) (putF "_row" (.int 0) (putF "_book" (.ref c) []))))) := Fl.cell
    have e3 : (upd H3 a (.ins (gad "Store" K) dx (putF "_turns" (.int 0) (putF "_row" (.int 0) (putF "_book" (.ref c) []))))) a = some (.ins (gad "Store" K) dx (putF "_turns" (.int 0) (putF "_row" (.int 0) (putF "_book" (.ref c) [])))) := upd_same
    generalize upd H3 a (.ins (gad "Store" K) dx (putF "_turns" (.int 0) (putF "_row" (.int 0) (putF "_book" (.ref c) [])))) = H4 at f3 e3 ⊢
    have s3 : Fl a H3 H4 := f3
    have g3 := g2.trans s3
    refine ⟨(show (0 : Nat) ≤ sizeLine by decide), fun p3 np3 => ?_⟩
    have t3 : Same H4 (upd H4 p3 (.lst [])) := Same.new np3
    have c3 : upd H4 p3 (.lst []) p3 = some (.lst []) := upd_same
    generalize upd H4 p3 (.lst []) = J3 at t3 c3 ⊢
    refine ⟨_, rfl, a, _, dx, _, rfl, (t3 _ _ e3), T.c_Store, T.na_Store__places, (few (few (few (Nat.zero_lt_succ _)))), ?_⟩
    have f4 : Fl a J3 (upd J3 a (.ins (gad "Store" K) dx (putF "_places" (.ref p3) (putF "_turns" (.int 0) (putF "_row" (.int 0) (putF "_book" (.ref c) [])))))) := Fl.cell
    have e4 : (upd J3 a (.ins (gad "Store" K) dx (putF "_places" (.ref p3) (putF "_turns" (.int 0) (putF "_row" (.int 0) (putF "_book" (.ref c) [])))))) a = some (.ins (gad "Store" K) dx (putF "_places" (.ref p3) (putF "_turns" (.int 0) (putF "_row" (.int 0) (putF "_book" (.ref c) []))))) := upd_same
    generalize upd J3 a (.ins (gad "Store" K) dx (putF "_places" (.ref p3) (putF "_turns" (.int 0) (putF "_row" (.int 0) (putF "_book" (.ref c) []))))) = H5 at f4 e4 ⊢
    have s4 : Fl a H4 H5 := (Fl.same t3).trans f4
    have g4 := g3.trans s4
    refine ⟨(show (0 : Nat) ≤ sizeLine by decide), fun p4 np4 => ?_⟩
    have t4 : Same H5 (upd H5 p4 (.lst [])) := Same.new np4
    have c4 : upd H5 p4 (.lst []) p4 = some (.lst []) := upd_same
    generalize upd H5 p4 (.lst []) = J4 at t4 c4 ⊢
    refine ⟨_, rfl, a, _, dx, _, rfl, (t4 _ _ e4), T.c_Store, T.na_Store__owners, (few (few (few (few (Nat.zero_lt_succ _))))), ?_⟩
    have f5 : Fl a J4 (upd J4 a (.ins (gad "Store" K) dx (putF "_owners" (.ref p4) (putF "_places" (.ref p3) (putF "_turns" (.int 0) (putF "_row" (.int 0) (putF "_book" (.ref c) []))))))) := Fl.cell
    have e5 : (upd J4 a (.ins (gad "Store" K) dx (putF "_owners" (.ref p4) (putF "_places" (.ref p3) (putF "_turns" (.int 0) (putF "_row" (.int 0) (putF "_book" (.ref c) []))))))) a = some (.ins (gad "Store" K) dx (putF "_owners" (.ref p4) (putF "_places" (.ref p3) (putF "_turns" (.int 0) (putF "_row" (.int 0) (putF "_book" (.ref c) [])))))) := upd_same
    generalize upd J4 a (.ins (gad "Store" K) dx (putF "_owners" (.ref p4) (putF "_places" (.ref p3) (putF "_turns" (.int 0) (putF "_row" (.int 0) (putF "_book" (.ref c) [])))))) = H6 at f5 e5 ⊢
    have s5 : Fl a H5 H6 := (Fl.same t4).trans f5
    have g5 := g4.trans s5
    refine fun p5 np5 => ?_
    have t5 : Same H6 (upd H6 p5 (.dK [])) := Same.new np5
    have c5 : upd H6 p5 (.dK []) p5 = some (.dK []) := upd_same
    generalize upd H6 p5 (.dK []) = J5 at t5 c5 ⊢
    refine ⟨_, rfl, a, _, dx, _, rfl, (t5 _ _ e5), T.c_Store, T.na_Store__posts, (few (few (few (few (few (Nat.zero_lt_succ _)))))), ?_⟩
    have f6 : Fl a J5 (upd J5 a (.ins (gad "Store" K) dx (putF "_posts" (.ref p5) (putF "_owners" (.ref p4) (putF "_places" (.ref p3) (putF "_turns" (.int 0) (putF "_row" (.int 0) (putF "_book" (.ref c) [])))))))) := Fl.cell
    have e6 : (upd J5 a (.ins (gad "Store" K) dx (putF "_posts" (.ref p5) (putF "_owners" (.ref p4) (putF "_places" (.ref p3) (putF "_turns" (.int 0) (putF "_row" (.int 0) (putF "_book" (.ref c) [])))))))) a = some (.ins (gad "Store" K) dx (putF "_posts" (.ref p5) (putF "_owners" (.ref p4) (putF "_places" (.ref p3) (putF "_turns" (.int 0) (putF "_row" (.int 0) (putF "_book" (.ref c) []))))))) := upd_same
    generalize upd J5 a (.ins (gad "Store" K) dx (putF "_posts" (.ref p5) (putF "_owners" (.ref p4) (putF "_places" (.ref p3) (putF "_turns" (.int 0) (putF "_row" (.int 0) (putF "_book" (.ref c) []))))))) = H7 at f6 e6 ⊢
    have s6 : Fl a H6 H7 := (Fl.same t5).trans f6
    have g6 := g5.trans s6
    refine ⟨(show (1 : Nat) ≤ sizeLine by decide), fun o6 no6 => ⟨_, rfl, o6, _, _, rfl, rfl, upd_same, by omega, by omega, Nat.le_trans (show _ ≤ 64 by show 1 * ((m : Nat) : Int).toNat ≤ 64; omega) (by decide), fun p6 np6 => ?_⟩⟩
    rw [rep_one, Int.toNat_natCast]
    have t6 : Same H7 (upd (upd H7 o6 (.lst [.non])) p6 (.lst (List.replicate m .non))) := Same.upd (Same.new no6) (Same.free (Same.new no6) np6)
    have c6 : (upd (upd H7 o6 (.lst [.non])) p6 (.lst (List.replicate m .non))) p6 = some (.lst (List.replicate m .non)) := upd_same
    have nq6 : H7 p6 = none := Same.free (Same.new no6) np6
    generalize upd (upd H7 o6 (.lst [.non])) p6 (.lst (List.replicate m .non)) = J6 at t6 c6 ⊢
    refine ⟨_, rfl, a, _, dx, _, rfl, (t6 _ _ e6), T.c_Store, T.na_Store__slots, (few (few (few (few (few (few (Nat.zero_lt_succ _))))))), ?_⟩
    have f7 : Fl a J6 (upd J6 a (.ins (gad "Store" K) dx (putF "_slots" (.ref p6) (putF "_posts" (.ref p5) (putF "_owners" (.ref p4) (putF "_places" (.ref p3) (putF "_turns" (.int 0) (putF "_row" (.int 0) (putF "_book" (.ref c) []))))))))) := Fl.cell
    have e7 : (upd J6 a (.ins (gad "Store" K) dx (putF "_slots" (.ref p6) (putF "_posts" (.ref p5) (putF "_owners" (.ref p4) (putF "_places" (.ref p3) (putF "_turns" (.int 0) (putF "_row" (.int 0) (putF "_book" (.ref c) []))))))))) a = some (.ins (gad "Store" K) dx (putF "_slots" (.ref p6) (putF "_posts" (.ref p5) (putF "_owners" (.ref p4) (putF "_places" (.ref p3) (putF "_turns" (.int 0) (putF "_row" (.int 0) (putF "_book" (.ref c) [])))))))) := upd_same
    generalize upd J6 a (.ins (gad "Store" K) dx (putF "_slots" (.ref p6) (putF "_posts" (.ref p5) (putF "_owners" (.ref p4) (putF "_places" (.ref p3) (putF "_turns" (.int 0) (putF "_row" (.int 0) (putF "_book" (.ref c) [])))))))) = H8 at f7 e7 ⊢
    have s7 : Fl a H7 H8 := (Fl.same t6).trans f7
    have g7 := g6.trans s7
    refine ⟨(show (1 : Nat) ≤ sizeLine by decide), fun o7 no7 => ⟨_, rfl, o7, _, _, rfl, rfl, upd_same, by omega, by omega, Nat.le_trans (show _ ≤ 64 by show 1 * ((m : Nat) : Int).toNat ≤ 64; omega) (by decide), fun p7 np7 => ?_⟩⟩
    rw [rep_one, Int.toNat_natCast]
    have t7 : Same H8 (upd (upd H8 o7 (.lst [(.bl false)])) p7 (.lst (List.replicate m (.bl false)))) := Same.upd (Same.new no7) (Same.free (Same.new no7) np7)
    have c7 : (upd (upd H8 o7 (.lst [(.bl false)])) p7 (.lst (List.replicate m (.bl false)))) p7 = some (.lst (List.replicate m (.bl false))) := upd_same
    have nq7 : H8 p7 = none := Same.free (Same.new no7) np7
    generalize upd (upd H8 o7 (.lst [(.bl false)])) p7 (.lst (List.replicate m (.bl false))) = J7 at t7 c7 ⊢
    refine ⟨_, rfl, a, _, dx, _, rfl, (t7 _ _ e7), T.c_Store, T.na_Store__visited, (few (few (few (few (few (few (few (Nat.zero_lt_succ _)))))))), ?_⟩
    have f8 : Fl a J7 (upd J7 a (.ins (gad "Store" K) dx (putF "_visited" (.ref p7) (putF "_slots" (.ref p6) (putF "_posts" (.ref p5) (putF "_owners" (.ref p4) (putF "_places" (.ref p3) (putF "_turns" (.int 0) (putF "_row" (.int 0) (putF "_book" (.ref c) [])))))))))) := Fl.cell
    have e8 : (upd J7 a (.ins (gad "Store" K) dx (putF "_visited" (.ref p7) (putF "_slots" (.ref p6) (putF "_posts" (.ref p5) (putF "_owners" (.ref p4) (putF "_places" (.ref p3) (putF "_turns" (.int 0) (putF "_row" (.int 0) (putF "_book" (.ref c) [])))))))))) a = some (.ins (gad "Store" K) dx (putF "_visited" (.ref p7) (putF "_slots" (.ref p6) (putF "_posts" (.ref p5) (putF "_owners" (.ref p4) (putF "_places" (.ref p3) (putF "_turns" (.int 0) (putF "_row" (.int 0) (putF "_book" (.ref c) []))))))))) := upd_same
    generalize upd J7 a (.ins (gad "Store" K) dx (putF "_visited" (.ref p7) (putF "_slots" (.ref p6) (putF "_posts" (.ref p5) (putF "_owners" (.ref p4) (putF "_places" (.ref p3) (putF "_turns" (.int 0) (putF "_row" (.int 0) (putF "_book" (.ref c) []))))))))) = H9 at f8 e8 ⊢
    have s8 : Fl a H8 H9 := (Fl.same t7).trans f8
    have g8 := g7.trans s8
    refine ⟨(show (1 : Nat) ≤ sizeLine by decide), fun o8 no8 => ⟨_, rfl, o8, _, _, rfl, rfl, upd_same, by omega, by omega, Nat.le_trans (show _ ≤ 64 by show 1 * ((f : Nat) : Int).toNat ≤ 64; omega) (by decide), fun p8 np8 => ?_⟩⟩
    rw [rep_one, Int.toNat_natCast]
    have t8 : Same H9 (upd (upd H9 o8 (.lst [.non])) p8 (.lst (List.replicate f .non))) := Same.upd (Same.new no8) (Same.free (Same.new no8) np8)
    have c8 : (upd (upd H9 o8 (.lst [.non])) p8 (.lst (List.replicate f .non))) p8 = some (.lst (List.replicate f .non)) := upd_same
    have nq8 : H9 p8 = none := Same.free (Same.new no8) np8
    generalize upd (upd H9 o8 (.lst [.non])) p8 (.lst (List.replicate f .non)) = J8 at t8 c8 ⊢
    refine ⟨_, rfl, a, _, dx, _, rfl, (t8 _ _ e8), T.c_Store, T.na_Store__hands, (few (few (few (few (few (few (few (few (Nat.zero_lt_succ _))))))))), ?_⟩
    have f9 : Fl a J8 (upd J8 a (.ins (gad "Store" K) dx (putF "_hands" (.ref p8) (putF "_visited" (.ref p7) (putF "_slots" (.ref p6) (putF "_posts" (.ref p5) (putF "_owners" (.ref p4) (putF "_places" (.ref p3) (putF "_turns" (.int 0) (putF "_row" (.int 0) (putF "_book" (.ref c) []))))))))))) := Fl.cell
    have e9 : (upd J8 a (.ins (gad "Store" K) dx (putF "_hands" (.ref p8) (putF "_visited" (.ref p7) (putF "_slots" (.ref p6) (putF "_posts" (.ref p5) (putF "_owners" (.ref p4) (putF "_places" (.ref p3) (putF "_turns" (.int 0) (putF "_row" (.int 0) (putF "_book" (.ref c) []))))))))))) a = some (.ins (gad "Store" K) dx (putF "_hands" (.ref p8) (putF "_visited" (.ref p7) (putF "_slots" (.ref p6) (putF "_posts" (.ref p5) (putF "_owners" (.ref p4) (putF "_places" (.ref p3) (putF "_turns" (.int 0) (putF "_row" (.int 0) (putF "_book" (.ref c) [])))))))))) := upd_same
    generalize upd J8 a (.ins (gad "Store" K) dx (putF "_hands" (.ref p8) (putF "_visited" (.ref p7) (putF "_slots" (.ref p6) (putF "_posts" (.ref p5) (putF "_owners" (.ref p4) (putF "_places" (.ref p3) (putF "_turns" (.int 0) (putF "_row" (.int 0) (putF "_book" (.ref c) [])))))))))) = H10 at f9 e9 ⊢
    have s9 : Fl a H9 H10 := (Fl.same t8).trans f9
    have g9 := g8.trans s9
    refine ⟨(show (1 : Nat) ≤ sizeLine by decide), fun o9 no9 => ⟨_, rfl, o9, _, _, rfl, rfl, upd_same, by omega, by omega, Nat.le_trans (show _ ≤ 64 by show 1 * ((f : Nat) : Int).toNat ≤ 64; omega) (by decide), fun p9 np9 => ?_⟩⟩
    rw [rep_one, Int.toNat_natCast]
    have t9 : Same H10 (upd (upd H10 o9 (.lst [.non])) p9 (.lst (List.replicate f .non))) := Same.upd (Same.new no9) (Same.free (Same.new no9) np9)
    have c9 : (upd (upd H10 o9 (.lst [.non])) p9 (.lst (List.replicate f .non))) p9 = some (.lst (List.replicate f .non)) := upd_same
    have nq9 : H10 p9 = none := Same.free (Same.new no9) np9
    generalize upd (upd H10 o9 (.lst [.non])) p9 (.lst (List.replicate f .non)) = J9 at t9 c9 ⊢
    refine ⟨_, rfl, a, _, dx, _, rfl, (t9 _ _ e9), T.c_Store, T.na_Store__mendings, (few (few (few (few (few (few (few (few (few (Nat.zero_lt_succ _)))))))))), ?_⟩
    have f10 : Fl a J9 (upd J9 a (.ins (gad "Store" K) dx (putF "_mendings" (.ref p9) (putF "_hands" (.ref p8) (putF "_visited" (.ref p7) (putF "_slots" (.ref p6) (putF "_posts" (.ref p5) (putF "_owners" (.ref p4) (putF "_places" (.ref p3) (putF "_turns" (.int 0) (putF "_row" (.int 0) (putF "_book" (.ref c) [])))))))))))) := Fl.cell
    have e10 : (upd J9 a (.ins (gad "Store" K) dx (putF "_mendings" (.ref p9) (putF "_hands" (.ref p8) (putF "_visited" (.ref p7) (putF "_slots" (.ref p6) (putF "_posts" (.ref p5) (putF "_owners" (.ref p4) (putF "_places" (.ref p3) (putF "_turns" (.int 0) (putF "_row" (.int 0) (putF "_book" (.ref c) [])))))))))))) a = some (.ins (gad "Store" K) dx (putF "_mendings" (.ref p9) (putF "_hands" (.ref p8) (putF "_visited" (.ref p7) (putF "_slots" (.ref p6) (putF "_posts" (.ref p5) (putF "_owners" (.ref p4) (putF "_places" (.ref p3) (putF "_turns" (.int 0) (putF "_row" (.int 0) (putF "_book" (.ref c) []))))))))))) := upd_same
    generalize upd J9 a (.ins (gad "Store" K) dx (putF "_mendings" (.ref p9) (putF "_hands" (.ref p8) (putF "_visited" (.ref p7) (putF "_slots" (.ref p6) (putF "_posts" (.ref p5) (putF "_owners" (.ref p4) (putF "_places" (.ref p3) (putF "_turns" (.int 0) (putF "_row" (.int 0) (putF "_book" (.ref c) []))))))))))) = H11 at f10 e10 ⊢
    have s10 : Fl a H10 H11 := (Fl.same t9).trans f10
    have g10 := g9.trans s10
    have na3 : p3 ≠ a := (ne_of_none e3 np3).symm
    have x3_5 : H5 p3 = some (.lst []) := f4 _ _ na3 c3
    have x3_6 : H6 p3 = some (.lst []) := s5 _ _ na3 x3_5
    have x3_7 : H7 p3 = some (.lst []) := s6 _ _ na3 x3_6
    have x3_8 : H8 p3 = some (.lst []) := s7 _ _ na3 x3_7
    have x3_9 : H9 p3 = some (.lst []) := s8 _ _ na3 x3_8
    have x3_10 : H10 p3 = some (.lst []) := s9 _ _ na3 x3_9
    have x3_11 : H11 p3 = some (.lst []) := s10 _ _ na3 x3_10
    have z3 : H p3 = none := g3.free na3 np3
    have na4 : p4 ≠ a := (ne_of_none e4 np4).symm
    have x4_6 : H6 p4 = some (.lst []) := f5 _ _ na4 c4
    have x4_7 : H7 p4 = some (.lst []) := s6 _ _ na4 x4_6
    have x4_8 : H8 p4 = some (.lst []) := s7 _ _ na4 x4_7
    have x4_9 : H9 p4 = some (.lst []) := s8 _ _ na4 x4_8
    have x4_10 : H10 p4 = some (.lst []) := s9 _ _ na4 x4_9
    have x4_11 : H11 p4 = some (.lst []) := s10 _ _ na4 x4_10
    have z4 : H p4 = none := g4.free na4 np4
    have na5 : p5 ≠ a := (ne_of_none e5 np5).symm
    have x5_7 : H7 p5 = some (.dK []) := f6 _ _ na5 c5
    have x5_8 : H8 p5 = some (.dK []) := s7 _ _ na5 x5_7
    have x5_9 : H9 p5 = some (.dK []) := s8 _ _ na5 x5_8
    have x5_10 : H10 p5 = some (.dK []) := s9 _ _ na5 x5_9
    have x5_11 : H11 p5 = some (.dK []) := s10 _ _ na5 x5_10
    have z5 : H p5 = none := g5.free na5 np5
    have na6 : p6 ≠ a := (ne_of_none e6 nq6).symm
    have x6_8 : H8 p6 = some (.lst (List.replicate m .non)) := f7 _ _ na6 c6
    have x6_9 : H9 p6 = some (.lst (List.replicate m .non)) := s8 _ _ na6 x6_8
    have x6_10 : H10 p6 = some (.lst (List.replicate m .non)) := s9 _ _ na6 x6_9
    have x6_11 : H11 p6 = some (.lst (List.replicate m .non)) := s10 _ _ na6 x6_10
    have z6 : H p6 = none := g6.free na6 nq6
    have na7 : p7 ≠ a := (ne_of_none e7 nq7).symm
    have x7_9 : H9 p7 = some (.lst (List.replicate m (.bl false))) := f8 _ _ na7 c7
    have x7_10 : H10 p7 = some (.lst (List.replicate m (.bl false))) := s9 _ _ na7 x7_9
    have x7_11 : H11 p7 = some (.lst (List.replicate m (.bl false))) := s10 _ _ na7 x7_10
    have z7 : H p7 = none := g7.free na7 nq7
    have na8 : p8 ≠ a := (ne_of_none e8 nq8).symm
    have x8_10 : H10 p8 = some (.lst (List.replicate f .non)) := f9 _ _ na8 c8
    have x8_11 : H11 p8 = some (.lst (List.replicate f .non)) := s10 _ _ na8 x8_10
    have z8 : H p8 = none := g8.free na8 nq8
    have na9 : p9 ≠ a := (ne_of_none e9 nq9).symm
    have x9_11 : H11 p9 = some (.lst (List.replicate f .non)) := f10 _ _ na9 c9
    have z9 : H p9 = none := g9.free na9 nq9
    have ca : c ≠ a := (ne_of_none ho nc).symm
    have cla : cl ≠ a := (ne_of_none ho ncl).symm
    obtain ⟨as1, hcl, _⟩ := Bc.ph
    have y_2 := s1 _ _ cla hcl
    have y_3 := s2 _ _ cla y_2
    have y_4 := s3 _ _ cla y_3
    have y_5 := s4 _ _ cla y_4
    have y_6 := s5 _ _ cla y_5
    have y_7 := s6 _ _ cla y_6
    have y_8 := s7 _ _ cla y_7
    have y_9 := s8 _ _ cla y_8
    have y_10 := s9 _ _ cla y_9
    have y_11 := s10 _ _ cla y_10
    have gg : Fl a H1 H11 := (((((((((s1.trans s2).trans s3).trans s4).trans s5).trans s6).trans s7).trans s8).trans s9).trans s10)
    refine k ⟨c, cl, p3, p4, p5, p6, p7, p8, p9⟩ H11 g10 (fun x hx => ?_) ?_
    · simp only [SA.all, List.mem_cons, List.not_mem_nil, or_false] at hx
      rcases hx with rfl | rfl | rfl | rfl | rfl | rfl | rfl | rfl | rfl
      · exact nc
      · exact ncl
      · exact z3
      · exact z4
      · exact z5
      · exact z6
      · exact z7
      · exact z8
      · exact z9
    · refine ⟨⟨dx, e10⟩, Bc.flS gg ho1 ca, x3_11, x4_11, x5_11, ⟨_, x6_11, rep_pair m⟩, ?_, ⟨_, x8_11, rep_pair f⟩, ?_, ?_, Nat.zero_le _, ?_, ?_⟩
      · show H11 p7 = some (.lst (List.replicate (List.replicate m (none : Option Rf)).length (.bl false)))
        rw [List.length_replicate]; exact x7_11
      · show H11 p9 = some (.lst (List.replicate (List.replicate f (none : Option Rf)).length .non))
        rw [List.length_replicate]; exact x9_11
      · simp only [SA.lists, List.nodup_cons, List.mem_cons, List.not_mem_nil, not_or, or_false]
        exact ⟨⟨ne_of_none y_4 np3, ne_of_none y_5 np4, ne_of_none y_7 nq6, ne_of_none y_8 nq7, ne_of_none y_9 nq8, ne_of_none y_10 nq9⟩, ⟨ne_of_none x3_5 np4, ne_of_none x3_7 nq6, ne_of_none x3_8 nq7, ne_of_none x3_9 nq8, ne_of_none x3_10 nq9⟩, ⟨ne_of_none x4_7 nq6, ne_of_none x4_8 nq7, ne_of_none x4_9 nq8, ne_of_none x4_10 nq9⟩, ⟨ne_of_none x6_8 nq7, ne_of_none x6_9 nq8, ne_of_none x6_10 nq9⟩, ⟨ne_of_none x7_9 nq8, ne_of_none x7_10 nq9⟩, ne_of_none x8_10 nq9, not_false, List.nodup_nil⟩
      · show (List.replicate m (none : Option Rf)).length ≤ 64; rw [List.length_replicate]; exact m64
      · show (List.replicate f (none : Option Rf)).length ≤ 64; rw [List.length_replicate]; exact f64
end

end Hue

set_option Elab.async false
set_option linter.all false
set_option maxRecDepth 100000
set_option maxHeartbeats 1000000
namespace Hue
open PySem PySem.Spec PyProof.Rows L2 ItX
local macro_rules | `(tactic| walk_at "hp") => `(tactic| first
  | assumption
  | exact upd_same
  | (refine upd_old (by assumption) ?_; walk_at "hp")
  | (refine upd_oth (by assumption) ?_; walk_at "hp")
  | (refine same_get (by assumption) ?_; walk_at "hp")
  | (refine Fl.get (by assumption) (by assumption) ?_; walk_at "hp"))
local macro_rules | `(tactic| walk_at "seq") => `(tactic| first
  | assumption
  | exact T.t_BARRIERS _
  | exact SqL.of (by walk_at "hp")
  | exact SqT.of (by walk_at "hp"))
local macro_rules | `(tactic| walk_at "len") => `(tactic| first
  | exact Or.inl (by walk_at "seq")
  | exact Or.inr (by walk_at "seq"))
local macro_rules | `(tactic| walk_at "at") => `(tactic| first
  | rfl
  | assumption)


/-! ### the law's helpers -/
theorem exf_of {H : Hp} {C a dd : Addr} {fs : List (Str × V)} (na : H a = none) (hd : H dd = some (.xd fs)) : ExF (L2.upd H a (Exn (.ref C) (some dd) a)) C a fs := ⟨dd, upd_same, upd_old na hd⟩
section
variable {P : Program} [SupP P pFile] {w : World} {K : PySem.W.Frag} {mg : Str → Option Value} {base : Heap}
theorem fr_Store_slot (T : Tx K mg) : FnR P w K mg base (L2.CX P w) 5 (mad "Store" "slot" K) (spAsk K "slot" SD.slots) := fnr_of (ok_Store_slot T) (bd_Store_slot T)
theorem fr_Store_hand (T : Tx K mg) : FnR P w K mg base (L2.CX P w) 5 (mad "Store" "hand" K) (spAsk K "hand" SD.hands) := fnr_of (ok_Store_hand T) (bd_Store_hand T)
theorem fr_Store_make (T : Tx K mg) : FnR P w K mg base (L2.CX P w) 5 (mad "Store" "make" K) (spMake K) := fnr_of (ok_Store_make T) (bd_Store_make T)
theorem fr_Store_write (T : Tx K mg) : FnR P w K mg base (L2.CX P w) 5 (mad "Store" "write" K) (spWrite K) := fnr_of (ok_Store_write T) (bd_Store_write T)
theorem fr_Store_use (T : Tx K mg) : FnR P w K mg base (L2.CX P w) 5 (mad "Store" "use" K) (spUse K) := fnr_of (ok_Store_use T) (bd_Store_use T)
def spMissing (K : PySem.W.Frag) : Sp := fun vs H Q _ => ∃ s A rs D, ∃ (b : Bool) (n : Int), StA K vs H s A rs D [.bl b, .int n] ∧ ¬ (0 ≤ n ∧ n < (if b = true then D.slots.length else D.hands.length)) ∧ ∀ H', Same H H' → Q (.bl true) H'
theorem ok_l_missing (T : Tx K mg) : FnOk P w K mg base CX0 8 (gad "_law_missing" K) (fdD K (gad "_law_missing" K)) P_l_missing (spMissing K) := by
  refine T.F_l_missing.ok sc_l_missing (fun vs H Q E h => ?_) (fun cdv A outer s H vs Q E hr h => ?_)
  · obtain ⟨s, A, rs, D, b, n, ⟨rfl, _⟩, _⟩ := h; rfl
  · obtain ⟨a, SA', rs, D, b, n, ⟨rfl, S⟩, hn, k⟩ := h
    refine ⟨_, PSs.nox ((pss_cons (ps_try_val (c := .ref (gad "Refused" K)) rfl rfl sc_l_missing.nd (i := 3) rfl rfl ⟨rfl, by decide, .inl T.g_Refused⟩ takes0 (fun W pn xe tk hp => (pss_one (ps_if (pt_val (pv 1)) (pss_one (ps_expr (pe_methSK (K := K) rfl (pv 0) T.c_Store T.m_Store_slot (fr_Store_slot (P := P) T) (hr.mono (by decide)) tk (pa_cons (pv 2) pa_nil)))) (pss_one (ps_expr (pe_methSK (K := K) rfl (pv 0) T.c_Store T.m_Store_hand (fr_Store_hand (P := P) T) (hr.mono (by decide)) tk (pa_cons (pv 2) pa_nil))))))) (fun a pn => (pss_one (ps_ret (pe_and (pe_callB (call_isDK (K := K) rfl T.e_NoSuch) (by rfl) T.n_isinstance (by decide +kernel) (pa_cons (pv 3) (pa_cons (pe_gr rfl T.g_NoSuch) pa_nil))) (pe_one (pe_cmpR op_eq (pe_xvK (K := K) rfl T.e_NoSuch T.na_NoSuch_number (pv 3)) (pv 2) (nomark _))))))))
      (pss_one (ps_ret pe_bl)))), ?_⟩
    obtain ⟨dx, ho⟩ := S.ob
    cases b with
    | true =>
      refine ⟨_, rfl, _, rfl, iteT ?_⟩
      refine ⟨_, rfl, a, dx, _, rfl, ho, st_no SA' (by decide +kernel), _, rfl, a, SA', rs, D, n, ⟨rfl, S⟩, fun z => absurd z hn, fun _ dd H' nd S' hd => ?_⟩
      refine ⟨true, T.xm_NoSuch_Refused, fun _ x nx => ?_, nofun⟩
      have hx := exf_of (C := gad "NoSuch" K) nx hd
      exact ⟨_, rfl, _, _, _, _, _, rfl, hx, .own _, T.k_NoSuch_NoSuch, _, rfl, iteT ⟨_, rfl, x, _, _, rfl, hx, rfl, _, rfl, rfl, by rw [decide_eq_true rfl]; exact k _ (Same.upd S' (S'.free nx))⟩⟩
    | false =>
      refine ⟨_, rfl, _, rfl, iteF ?_⟩
      refine ⟨_, rfl, a, dx, _, rfl, ho, st_no SA' (by decide +kernel), _, rfl, a, SA', rs, D, n, ⟨rfl, S⟩, fun z => absurd z hn, fun _ dd H' nd S' hd => ?_⟩
      refine ⟨true, T.xm_NoSuch_Refused, fun _ x nx => ?_, nofun⟩
      have hx := exf_of (C := gad "NoSuch" K) nx hd
      exact ⟨_, rfl, _, _, _, _, _, rfl, hx, .own _, T.k_NoSuch_NoSuch, _, rfl, iteT ⟨_, rfl, x, _, _, rfl, hx, rfl, _, rfl, rfl, by rw [decide_eq_true rfl]; exact k _ (Same.upd S' (S'.free nx))⟩⟩
end

end Hue

set_option Elab.async false
set_option linter.all false
set_option maxRecDepth 100000
set_option maxHeartbeats 1000000
namespace Hue
open PySem PySem.Spec PyProof.Rows L2 ItX
local macro_rules | `(tactic| walk_at "hp") => `(tactic| first
  | assumption
  | exact upd_same
  | (refine upd_old (by assumption) ?_; walk_at "hp")
  | (refine upd_oth (by assumption) ?_; walk_at "hp")
  | (refine same_get (by assumption) ?_; walk_at "hp")
  | (refine Fl.get (by assumption) (by assumption) ?_; walk_at "hp"))
local macro_rules | `(tactic| walk_at "seq") => `(tactic| first
  | assumption
  | exact T.t_BARRIERS _
  | exact SqL.of (by walk_at "hp")
  | exact SqT.of (by walk_at "hp"))
local macro_rules | `(tactic| walk_at "len") => `(tactic| first
  | exact Or.inl (by walk_at "seq")
  | exact Or.inr (by walk_at "seq"))
local macro_rules | `(tactic| walk_at "at") => `(tactic| first
  | rfl
  | assumption)


/-! ### what the law knows of a reference -/
def DueO (H : Hp) (v : V) (o : Option Rf) : Prop := match o with
  | none => v = .non
  | some r => ∃ t, v = .ref t ∧ H t = some (.tup [.int r.1, .int r.2])
theorem DueO.same {H H' : Hp} {v : V} {o : Option Rf} (h : DueO H v o) (S : Same H H') : DueO H' v o := by
  cases o with
  | none => exact h
  | some r =>
    obtain ⟨t, e, q⟩ := h
    exact ⟨t, e, S _ _ q⟩
def spEqual (K : PySem.W.Frag) : Sp := fun vs H Q _ => ∃ (a t : Addr) (r : Rf), vs = [.ref a, .ref t] ∧ RfAt K H a r.1 r.2 ∧ RfOk r.1 r.2 ∧ H t = some (.tup [.int r.1, .int r.2]) ∧ ∀ H', Same H H' → Q (.bl true) H'
def spValue (K : PySem.W.Frag) : Sp := fun vs H Q _ => ∃ v d : V, vs = [v, d] ∧ ((∃ o, RefO K H v o ∧ DueO H d o) ∨ (∃ b, v = .bl b ∧ d = .bl b) ∨ ∃ i : Int, v = .int i ∧ d = .int i) ∧ ∀ H', Same H H' → Q (.bl true) H'
section
variable {P : Program} [SupP P pFile] {w : World} {K : PySem.W.Frag} {mg : Str → Option Value} {base : Heap}
theorem ok_l_equal (T : Tx K mg) : FnOk P w K mg base CX0 5 (gad "_law_equal" K) (fdD K (gad "_law_equal" K)) P_l_equal (spEqual K) := by
  refine T.F_l_equal.ok sc_l_equal (fun vs H Q E h => ?_) (fun cdv A outer s H vs Q E hr h => ?_)
  · obtain ⟨a, t, r, rfl, _⟩ := h; rfl
  · obtain ⟨a, t, r, rfl, ⟨dx, ha⟩, ok, ht, k⟩ := h
    refine ⟨_, PSs.nox ((pss_cons (ps_set (i := 2) sc_l_equal.nd rfl (Or.inl rfl) (pe_make T.mk_Ref (ok_Ref_init (P := P) T) (hr.mono (by decide)) rfl T.g_Ref (bd_Ref_init T) .nil pass0 (pa_cons (pe_ix ix_tup (pv 1) pe_int (fun _ _ => rfl)) (pa_cons (pe_ix ix_tup (pv 1) pe_int (fun _ _ => rfl)) pa_nil))))
      (pss_one (ps_ret (pe_and (pe_call (ok_l_is (P := P) T) (hr.mono (by decide)) rfl T.g_l_is T.F_l_is.kp (bd_l_is T) .nil pass0 (pa_cons (pe_cmpR (op_eqO T.o_Ref_eq (fr_Ref_eq (P := P) T) (hr.mono (by decide)) pass0) (pv 0) (pv 2) (nomark _)) (pa_cons pe_bl pa_nil))) (pe_and (pe_call (ok_l_is (P := P) T) (hr.mono (by decide)) rfl T.g_l_is T.F_l_is.kp (bd_l_is T) .nil pass0 (pa_cons (pe_cmpR (op_eqO T.o_Ref_eq (fr_Ref_eq (P := P) T) (hr.mono (by decide)) pass0) (pv 2) (pv 0) (nomark _)) (pa_cons pe_bl pa_nil))) (pe_one (pe_cmpR op_eq (pe_callTy (call_strO T.o_Ref_str (fr_Ref_str (P := P) T) (hr.mono (by decide)) pass0) (by rfl) T.n_str (by decide +kernel) (pa_cons (pv 0) pa_nil)) (pe_op op_add_str (pe_op op_add_str (pe_callTy call_str_int (by rfl) T.n_str (by decide +kernel) (pa_cons (pe_ix ix_tup (pv 1) pe_int (fun _ _ => rfl)) pa_nil)) pe_str) (pe_callTy call_str_int (by rfl) T.n_str (by decide +kernel) (pa_cons (pe_ix ix_tup (pv 1) pe_int (fun _ _ => rfl)) pa_nil))) (nomark _))))))))), ?_⟩
    have eb : (decide (r.1 = r.1) && decide (r.2 = r.2)) = true := by rw [decide_eq_true rfl, decide_eq_true rfl]; rfl
    refine ⟨_, rfl, _, _, _, _, rfl, rfl, SqT.of ht, rfl, _, rfl, _, _, _, _, rfl, rfl, SqT.of ht, rfl, fun x dx' nx nd ne => ?_⟩
    refine ⟨x, dx', r.1, r.2, rfl, upd_same, ok, fun H1 f1 hx => ⟨rfl, ?_⟩⟩
    have S1 := Fl.madeS nx nd f1
    have ha1 := S1 _ _ ha
    have ht1 := S1 _ _ ht
    refine ⟨_, rfl, _, rfl, a, dx, _, _, rfl, ha1, inst_ty T.i_Ref T.c_Ref hx, T.nf_Ref_Ref, a, r.1, r.2, _, rfl, ⟨dx, ha1⟩, .inl ⟨x, r.1, r.2, rfl, ⟨dx', hx⟩, ?_⟩⟩
    rw [eb]
    refine ⟨_, _, rfl, _, rfl, _, rfl, iteT ?_⟩
    refine ⟨_, rfl, _, rfl, x, dx', _, _, rfl, hx, inst_ty T.i_Ref T.c_Ref ha1, T.nf_Ref_Ref, x, r.1, r.2, _, rfl, ⟨dx', hx⟩, .inl ⟨a, r.1, r.2, rfl, ⟨dx, ha1⟩, ?_⟩⟩
    rw [eb]
    refine ⟨_, _, rfl, _, rfl, _, rfl, iteT ?_⟩
    refine ⟨_, rfl, a, dx, _, rfl, ha1, a, r.1, r.2, rfl, ⟨dx, ha1⟩, ok, _, rfl, ?_⟩
    refine ⟨_, rfl, _, _, _, _, rfl, rfl, SqT.of ht1, rfl, ?_⟩
    have p1 : r.1.natAbs < 2 ^ 210 := by have := ok.p1; have := ok.p0; omega
    have h1 : r.2.natAbs < 2 ^ 210 := Nat.lt_of_lt_of_le (show r.2.natAbs < 6 by have := ok.h0; have := ok.h1; omega) (by decide)
    have l1 := num_len p1
    have l2 := num_len h1
    have c1 : (":" : Str).length = 1 := by decide +kernel
    refine ⟨_, rfl, log_lt p1, _, _, rfl, rfl, ?_, _, rfl, _, _, _, _, rfl, rfl, SqT.of ht1, rfl, _, rfl, log_lt h1, _, _, rfl, rfl, ?_, rfl, ?_⟩
    · rw [c1]; exact Nat.le_trans (show _ ≤ 2000 by show (Str.ofString (toString r.1)).length + 1 ≤ 2000; omega) (by decide)
    · rw [len_app, c1]; exact Nat.le_trans (show _ ≤ 4000 by show (Str.ofString (toString r.1)).length + 1 + (Str.ofString (toString r.2)).length ≤ 4000; omega) (by decide)
    · have e : decide (V.str (rfText r.1 r.2) = V.str (Str.ofString (toString r.1) ++ (":" : Str) ++ Str.ofString (toString r.2))) = true := decide_eq_true rfl
      show Q (.bl (decide (V.str (rfText r.1 r.2) = V.str (Str.ofString (toString r.1) ++ (":" : Str) ++ Str.ofString (toString r.2))))) H1
      rw [e]
      exact k _ S1
theorem ok_l_value (T : Tx K mg) : FnOk P w K mg base CX0 6 (gad "_law_value" K) (fdD K (gad "_law_value" K)) P_l_value (spValue K) := by
  refine T.F_l_value.ok sc_l_value (fun vs H Q E h => ?_) (fun cdv A outer s H vs Q E hr h => ?_)
  · obtain ⟨v, d, rfl, _⟩ := h; rfl
  · obtain ⟨v, d, rfl, hv, k⟩ := h
    refine ⟨_, PSs.nox ((pss_cons (ps_if (pt_cmpR op_isN (pv 1) pe_non (nomark _)) (pss_one (ps_ret (pe_cmpR op_isN (pv 0) pe_non (nomark _)))) pss_nil)
      (pss_cons (ps_if (pt_val (pe_callB call_isi (by rfl) T.n_isinstance (by decide +kernel) (pa_cons (pv 1) (pa_cons (pe_bty "bool" rfl T.n_bool (by decide +kernel)) pa_nil)))) (pss_one (ps_ret (pe_call (ok_l_is (P := P) T) (hr.mono (by decide)) rfl T.g_l_is T.F_l_is.kp (bd_l_is T) .nil pass0 (pa_cons (pv 0) (pa_cons (pv 1) pa_nil))))) pss_nil)
      (pss_cons (ps_if (pt_val (pe_callB call_isi (by rfl) T.n_isinstance (by decide +kernel) (pa_cons (pv 1) (pa_cons (pe_bty "tuple" rfl T.n_tuple (by decide +kernel)) pa_nil)))) (pss_cons (ps_if (PW.pt (pw_or (pt_not (pt_val (pe_callB call_isi (by rfl) T.n_isinstance (by decide +kernel) (pa_cons (pv 0) (pa_cons (pe_gr rfl T.g_Ref) pa_nil))))) (pw_or (pt_not (pt_val (pe_call (ok_l_int (P := P) T) (hr.mono (by decide)) rfl T.g_l_int T.F_l_int.kp (bd_l_int T) .nil pass0 (pa_cons (pe_fld (pv 0) rfl) pa_nil)))) (pw_or1 (pt_not (pt_val (pe_call (ok_l_int (P := P) T) (hr.mono (by decide)) rfl T.g_l_int T.F_l_int.kp (bd_l_int T) .nil pass0 (pa_cons (pe_fld (pv 0) rfl) pa_nil)))))))) (pss_one (ps_ret pe_bl)) pss_nil)
      (pss_one (ps_ret (pe_and (pe_cmpR (op_eqD hr.units) (pe_tup (pa_cons (pe_fld (pv 0) rfl) (pa_cons (pe_fld (pv 0) rfl) pa_nil))) (pv 1) (nomark _)) (pe_one (pe_call (ok_l_equal (P := P) T) (hr.mono (by decide)) rfl T.g_l_equal T.F_l_equal.kp (bd_l_equal T) .nil pass0 (pa_cons (pv 0) (pa_cons (pv 1) pa_nil)))))))) pss_nil)
      (pss_one (ps_ret (pe_and (pe_call (ok_l_int (P := P) T) (hr.mono (by decide)) rfl T.g_l_int T.F_l_int.kp (bd_l_int T) .nil pass0 (pa_cons (pv 0) pa_nil)) (pe_one (pe_cmpR op_eq (pv 0) (pv 1) (nomark _)))))))))), ?_⟩
    rcases hv with ⟨o, ro, du⟩ | ⟨b, rfl, rfl⟩ | ⟨i, rfl, rfl⟩
    · cases o with
      | none =>
        obtain rfl : v = .non := ro
        obtain rfl : d = .non := du
        exact ⟨_, rfl, rfl, _, rfl, iteD rfl ⟨_, rfl, rfl, by rw [decide_eq_true rfl]; exact k _ (Same.refl _)⟩⟩
      | some r =>
        obtain ⟨a, rfl, ⟨dx, ha⟩, ok⟩ := ro
        obtain ⟨t, rfl, ht⟩ := du
        refine ⟨_, rfl, rfl, _, rfl, iteDN (by intro z; cases z) ?_⟩
        refine ⟨_, rfl, _, _, .type "tuple", .type "bool", false, rfl, .ty _, .base (.tup ht), kit_ty (by decide +kernel), _, rfl, iteF ?_⟩
        refine ⟨_, rfl, _, _, .type "tuple", .type "tuple", true, rfl, .ty _, .base (.tup ht), kit_ty (by decide +kernel), _, rfl, iteT ?_⟩
        refine ⟨_, rfl, _, _, _, _, true, rfl, .own _, inst_ty T.i_Ref T.c_Ref ha, T.k_Ref_Ref, _, rfl, iteF ?_⟩
        refine ⟨_, rfl, a, _, dx, _, _, rfl, ha, T.c_Ref, T.na_Ref_place, rf_place _ _, r.1, rfl, _, rfl, iteF ?_⟩
        refine ⟨_, rfl, a, _, dx, _, _, rfl, ha, T.c_Ref, T.na_Ref_hue, rf_hue _ _, r.2, rfl, _, rfl, iteF ?_⟩
        refine ⟨_, rfl, a, _, dx, _, _, rfl, ha, T.c_Ref, T.na_Ref_place, rf_place _ _, _, rfl, a, _, dx, _, _, rfl, ha, T.c_Ref, T.na_Ref_hue, rf_hue _ _, (show (2 : Nat) ≤ sizeLine by decide), fun p np => ?_⟩
        have S1 : Same H (upd H p (.tup [V.int r.1, V.int r.2])) := Same.new np
        have sh : SeqAt.shaped (.tuple [.int r.1, .int r.2]) = true := by
          show (PyData.canLay0 (.tuple [.int r.1, .int r.2]) && decide (PyData.depth (.tuple [.int r.1, .int r.2]) ≤ 64)) = true
          simp [PyData.canLay0, PyData.canLayAll0, PyData.depth, PyData.depthAll]
        have ev : PyData.eqv (.tuple [.int r.1, .int r.2]) (.tuple [.int r.1, .int r.2]) = true := by simp [PyData.eqv, PyData.eqvAll]
        refine ⟨_, rfl, _, _, .tup (SqT.of upd_same) (.cons (.int _) (.cons (.int _) .nil)), .tup (SqT.of (S1 _ _ ht)) (.cons (.int _) (.cons (.int _) .nil)), sh, sh, ?_⟩
        rw [ev]
        exact ⟨_, rfl, iteT ⟨_, rfl, _, rfl, a, t, r, rfl, ⟨dx, S1 _ _ ha⟩, ok, S1 _ _ ht, fun H2 S2 => k _ (S1.trans S2)⟩⟩
    · refine ⟨_, rfl, rfl, _, rfl, iteDN (by intro z; cases z) ?_⟩
      refine ⟨_, rfl, _, _, .type "bool", .type "bool", true, rfl, .ty _, .base (.bl _), kit_ty (by decide +kernel), _, rfl, iteT ?_⟩
      exact ⟨_, rfl, _, rfl, _, b, rfl, b, rfl, by rw [beq_self_eq_true]; exact k _ (Same.refl _)⟩
    · refine ⟨_, rfl, rfl, _, rfl, iteDN (by intro z; cases z) ?_⟩
      refine ⟨_, rfl, _, _, .type "int", .type "bool", false, rfl, .ty _, .base (.int _), kit_ty (by decide +kernel), _, rfl, iteF ?_⟩
      refine ⟨_, rfl, _, _, .type "int", .type "tuple", false, rfl, .ty _, .base (.int _), kit_ty (by decide +kernel), _, rfl, iteF ?_⟩
      exact ⟨_, rfl, i, rfl, _, rfl, iteT ⟨_, rfl, _, rfl, rfl, by rw [decide_eq_true rfl]; exact k _ (Same.refl _)⟩⟩
end

end Hue

set_option Elab.async false
set_option linter.all false
set_option maxRecDepth 100000
set_option maxHeartbeats 1000000
namespace Hue
open PySem PySem.Spec PyProof.Rows L2 ItX
local macro_rules | `(tactic| walk_at "hp") => `(tactic| first
  | assumption
  | exact upd_same
  | (refine upd_old (by assumption) ?_; walk_at "hp")
  | (refine upd_oth (by assumption) ?_; walk_at "hp")
  | (refine same_get (by assumption) ?_; walk_at "hp")
  | (refine Fl.get (by assumption) (by assumption) ?_; walk_at "hp"))
local macro_rules | `(tactic| walk_at "seq") => `(tactic| first
  | assumption
  | exact T.t_BARRIERS _
  | exact SqL.of (by walk_at "hp")
  | exact SqT.of (by walk_at "hp"))
local macro_rules | `(tactic| walk_at "len") => `(tactic| first
  | exact Or.inl (by walk_at "seq")
  | exact Or.inr (by walk_at "seq"))
local macro_rules | `(tactic| walk_at "at") => `(tactic| first
  | rfl
  | assumption)


/-! ### _law_done, _law_held -/
def spDone (K : PySem.W.Frag) : Sp := fun vs H Q _ => ∃ s A rs D, ∃ (kd : Int) (h j : Nat), StA K vs H s A rs D [.int kd, .int (h : Int), .int (j : Int)] ∧ (kd = 0 ∨ kd = 1 ∨ kd = 2) ∧ h < D.hands.length ∧ j < D.slots.length ∧ D.n < 1000 ∧
  (kd = 0 → ∀ r0, rs[0]? = some r0 → ∀ H', Fls [A.ow, A.pl, A.ha] H H' → StoreAt K H' s A rs { D with n := D.n + 1, hands := D.hands.set h (some ((D.n : Int), r0.hue)) } → Q (.int (D.n : Int)) H') ∧
  (kd ≠ 0 → D.hands[h]? = some none → ∀ H', Same H H' → Q (.str "empty") H') ∧
  (kd = 1 → ∀ r, D.hands[h]? = some (some r) → ∀ H', Fls [A.sl] H H' → StoreAt K H' s A rs { D with slots := D.slots.set j (some r) } → Q .non H') ∧
  (kd = 2 → ∀ r, D.hands[h]? = some (some r) → Q (.int r.1) H)
def spHeldL (K : PySem.W.Frag) : Sp := fun vs H Q _ => ∃ s A rs D, ∃ (hl kl : Addr) (hs ks : List V), StA K vs H s A rs D [.ref hl, .ref kl] ∧ H hl = some (.lst hs) ∧ H kl = some (.lst ks) ∧ Paired (DueO H) hs D.hands ∧ Paired (DueO H) ks D.slots ∧ ∀ H', Same H H' → Q (.bl true) H'
section
variable {P : Program} [SupP P pFile] {w : World} {K : PySem.W.Frag} {mg : Str → Option Value} {base : Heap}
theorem ok_l_done (T : Tx K mg) : FnOk P w K mg base CX0 8 (gad "_law_done" K) (fdD K (gad "_law_done" K)) P_l_done (spDone K) := by
  refine T.F_l_done.ok sc_l_done (fun vs H Q E h => ?_) (fun cdv A outer s H vs Q E hr h => ?_)
  · obtain ⟨s, A, rs, D, kd, h, j, ⟨rfl, _⟩, _⟩ := h; rfl
  · obtain ⟨a, SA', rs, D, kd, h, j, ⟨rfl, S⟩, hk, hl, jl, dl, k0, ke, k1, k2⟩ := h
    refine ⟨_, PSs.nox ((pss_one (ps_try_val (c := .ref (gad "Refused" K)) rfl rfl sc_l_done.nd (i := 4) rfl rfl ⟨rfl, by decide, .inl T.g_Refused⟩ takes0 (fun W pn xe tk hp => (pss_cons (ps_if (pt_cmpR op_eq (pv 1) pe_int (nomark _)) (pss_one (ps_ret (pe_methSK (K := K) rfl (pv 0) T.c_Store T.m_Store_make (fr_Store_make (P := P) T) (hr.mono (by decide)) tk (pa_cons (pv 2) pa_nil)))) pss_nil)
      (pss_cons (ps_if (pt_cmpR op_eq (pv 1) pe_int (nomark _)) (pss_one (ps_ret (pe_methSK (K := K) rfl (pv 0) T.c_Store T.m_Store_write (fr_Store_write (P := P) T) (hr.mono (by decide)) tk (pa_cons (pv 2) (pa_cons (pv 3) pa_nil))))) pss_nil)
      (pss_one (ps_ret (pe_methSK (K := K) rfl (pv 0) T.c_Store T.m_Store_use (fr_Store_use (P := P) T) (hr.mono (by decide)) tk (pa_cons (pv 2) pa_nil))))))) (fun a pn => (pss_cons (ps_if (PW.pt (pw_and (pt_val (pe_callB (call_isDK (K := K) rfl T.e_Empty) (by rfl) T.n_isinstance (by decide +kernel) (pa_cons (pv 4) (pa_cons (pe_gr rfl T.g_Empty) pa_nil)))) (pw_and (pt_cmpR op_eq (pe_xvK (K := K) rfl T.e_Empty T.na_Empty_what (pv 4)) pe_str (nomark _)) (pw_and1 (pt_cmpR op_eq (pe_xvK (K := K) rfl T.e_Empty T.na_Empty_number (pv 4)) (pv 2) (nomark _)))))) (pss_one (ps_ret pe_str)) pss_nil)
      (pss_one (ps_ret pe_str))))))), ?_⟩
    obtain ⟨dx, ho⟩ := S.ob
    rcases hk with rfl | rfl | rfl
    · refine ⟨_, rfl, rfl, _, rfl, iteD rfl ?_⟩
      exact ⟨_, rfl, a, dx, _, rfl, ho, st_no SA' (by decide +kernel), _, rfl, a, SA', rs, D, h, ⟨rfl, S⟩, hl, dl, k0 rfl⟩
    · refine ⟨_, rfl, rfl, _, rfl, iteDN (by decide) ?_⟩
      refine ⟨_, rfl, rfl, _, rfl, iteD rfl ?_⟩
      refine ⟨_, rfl, a, dx, _, rfl, ho, st_no SA' (by decide +kernel), _, rfl, _, rfl, a, SA', rs, D, h, j, ⟨rfl, S⟩, hl, jl, k1 rfl, fun er dd H' nd S' hd => ?_⟩
      refine ⟨true, T.xm_Empty_Refused, fun _ x nx => ?_, nofun⟩
      have hx := exf_of (C := gad "Empty" K) nx hd
      exact ⟨_, rfl, _, _, _, _, _, rfl, hx, .own _, T.k_Empty_Empty, _, rfl, iteT ⟨_, rfl, x, _, _, rfl, hx, rfl, rfl, _, rfl, iteD rfl ⟨_, rfl, x, _, _, rfl, hx, rfl, _, rfl, rfl, _, rfl, iteD rfl (ke (by decide) er _ (Same.upd S' (S'.free nx)))⟩⟩⟩
    · refine ⟨_, rfl, rfl, _, rfl, iteDN (by decide) ?_⟩
      refine ⟨_, rfl, rfl, _, rfl, iteDN (by decide) ?_⟩
      refine ⟨_, rfl, a, dx, _, rfl, ho, st_no SA' (by decide +kernel), _, rfl, a, SA', rs, D, h, ⟨rfl, S⟩, hl, k2 rfl, fun er dd H' nd S' hd => ?_⟩
      refine ⟨true, T.xm_Empty_Refused, fun _ x nx => ?_, nofun⟩
      have hx := exf_of (C := gad "Empty" K) nx hd
      exact ⟨_, rfl, _, _, _, _, _, rfl, hx, .own _, T.k_Empty_Empty, _, rfl, iteT ⟨_, rfl, x, _, _, rfl, hx, rfl, rfl, _, rfl, iteD rfl ⟨_, rfl, x, _, _, rfl, hx, rfl, _, rfl, rfl, _, rfl, iteD rfl (ke (by decide) er _ (Same.upd S' (S'.free nx)))⟩⟩⟩
theorem ok_l_held (T : Tx K mg) : FnOk P w K mg base CX0 7 (gad "_law_held" K) (fdD K (gad "_law_held" K)) P_l_held (spHeldL K) := by
  refine T.F_l_held.ok sc_l_held (fun vs H Q E h => ?_) (fun cdv A outer s H vs Q E hr h => ?_)
  · obtain ⟨s, A, rs, D, hl, kl, hs, ks, ⟨rfl, _⟩, _⟩ := h; rfl
  · obtain ⟨a, SA', rs, D, hl, kl, hs, ks, ⟨rfl, S⟩, hh, hk, ph, pk, k⟩ := h
    refine ⟨_, PSs.nox ((pss_cons (ps_for PassesOwn.never rfl (pi_range1 (by rfl) T.n_range (pa_cons (pe_callB call_len_seq (by rfl) T.n_len (by decide +kernel) (pa_cons (pv 1) pa_nil)) pa_nil)) (pg_name (i := 3) sc_l_held.nd rfl (Or.inl rfl)) (pss_one (ps_if (PW.pt (pw_or (pt_not (pt_val (pe_call (ok_l_value (P := P) T) (hr.mono (by decide)) rfl T.g_l_value T.F_l_value.kp (bd_l_value T) .nil pass0 (pa_cons (pe_meth (pv 0) T.c_Store T.m_Store_hand (ok_Store_hand (P := P) T) (hr.mono (by decide)) (bd_Store_hand T) .nil passL (pa_cons (pv 3) pa_nil)) (pa_cons (pe_ix ix_list (pv 1) (pv 3) (fun _ _ => rfl)) pa_nil))))) (pw_or1 (pt_cmpR op_notN (pe_meth (pv 0) T.c_Store T.m_Store_mending (ok_Store_mending (P := P) T) (hr.mono (by decide)) (bd_Store_mending T) .nil pass0 (pa_cons (pv 3) pa_nil)) pe_non (nomark _))))) (pss_one (ps_ret pe_bl)) pss_nil)))
      (pss_cons (ps_for PassesOwn.never rfl (pi_range1 (by rfl) T.n_range (pa_cons (pe_callB call_len_seq (by rfl) T.n_len (by decide +kernel) (pa_cons (pv 2) pa_nil)) pa_nil)) (pg_name (i := 3) sc_l_held.nd rfl (Or.inl rfl)) (pss_one (ps_if (PW.pt (pw_or (pt_not (pt_val (pe_call (ok_l_value (P := P) T) (hr.mono (by decide)) rfl T.g_l_value T.F_l_value.kp (bd_l_value T) .nil pass0 (pa_cons (pe_meth (pv 0) T.c_Store T.m_Store_slot (ok_Store_slot (P := P) T) (hr.mono (by decide)) (bd_Store_slot T) .nil passL (pa_cons (pv 3) pa_nil)) (pa_cons (pe_ix ix_list (pv 2) (pv 3) (fun _ _ => rfl)) pa_nil))))) (pw_or1 (pt_not (pt_val (pe_call (ok_l_is (P := P) T) (hr.mono (by decide)) rfl T.g_l_is T.F_l_is.kp (bd_l_is T) .nil pass0 (pa_cons (pe_meth (pv 0) T.c_Store T.m_Store_visited (ok_Store_visited (P := P) T) (hr.mono (by decide)) (bd_Store_visited T) .nil pass0 (pa_cons (pv 3) pa_nil)) (pa_cons pe_bl pa_nil)))))))) (pss_one (ps_ret pe_bl)) pss_nil)))
      (pss_one (ps_ret pe_bl))))), ?_⟩
    have eh : hs.length = D.hands.length := Paired.length ph
    have ek : ks.length = D.slots.length := Paired.length pk
    have f1 := S.fh
    have f2 := S.fs
    obtain ⟨dx, ho⟩ := S.ob
    refine ⟨_, rfl, hl, _, rfl, .inl (SqL.of hh), ?_⟩
    refine ⟨_, rfl, by omega, by omega, for_range (n := _) (fun i σ H' => ∃ q3, σ = [some (.ref a), some (.ref hl), some (.ref kl), q3] ∧ Same H H') ⟨_, rfl, Same.refl _⟩ ?_ ?_⟩
    · rintro i σ H1 hi ⟨q3, rfl, S1⟩
      rw [Int.zero_add]
      have il : i < D.hands.length := by rw [← eh]; exact hi
      have eo := List.getElem?_eq_getElem il
      generalize D.hands[i] = o at eo
      obtain ⟨dv, hdv, du⟩ := paired_get ph eo
      refine ⟨_, rfl, a, dx, _, rfl, S1 _ _ ho, st_no SA' (by decide +kernel), _, rfl, a, SA', rs, D, (i : Int), ⟨rfl, S.same S1⟩, fun _ o' eo' v rv => ?_, fun z => absurd ⟨by omega, by omega⟩ z⟩
      rw [Int.toNat_natCast, eo] at eo'
      cases eo'
      refine ⟨_, rfl, _, rfl, _, _, _, _, rfl, rfl, SqL.of (S1 _ _ hh), atI_nat hdv, v, dv, rfl, .inl ⟨o, rv, du.same S1⟩, fun H2 S2 => ⟨_, rfl, iteF ?_⟩⟩
      exact ⟨_, rfl, a, dx, _, rfl, S2 _ _ (S1 _ _ ho), st_no SA' (by decide +kernel), _, rfl, a, SA', rs, D, i, ⟨rfl, (S.same S1).same S2⟩, il, rfl, _, rfl, iteNS rfl ⟨_, rfl, S1.trans S2⟩⟩
    · rintro σ H1 ⟨q3, rfl, S1⟩
      refine ⟨_, rfl, kl, _, rfl, .inl (SqL.of (S1 _ _ hk)), ?_⟩
      refine ⟨_, rfl, by omega, by omega, for_range (n := _) (fun i σ H' => ∃ q3, σ = [some (.ref a), some (.ref hl), some (.ref kl), q3] ∧ Same H H') ⟨_, rfl, S1⟩ ?_ ?_⟩
      · rintro i σ H1 hi ⟨q3, rfl, S1⟩
        rw [Int.zero_add]
        have il : i < D.slots.length := by rw [← ek]; exact hi
        have eo := List.getElem?_eq_getElem il
        generalize D.slots[i] = o at eo
        obtain ⟨dv, hdv, du⟩ := paired_get pk eo
        refine ⟨_, rfl, a, dx, _, rfl, S1 _ _ ho, st_no SA' (by decide +kernel), _, rfl, a, SA', rs, D, (i : Int), ⟨rfl, S.same S1⟩, fun _ o' eo' v rv => ?_, fun z => absurd ⟨by omega, by omega⟩ z⟩
        rw [Int.toNat_natCast, eo] at eo'
        cases eo'
        refine ⟨_, rfl, _, rfl, _, _, _, _, rfl, rfl, SqL.of (S1 _ _ hk), atI_nat hdv, v, dv, rfl, .inl ⟨o, rv, du.same S1⟩, fun H2 S2 => ⟨_, rfl, iteF ?_⟩⟩
        exact ⟨_, rfl, a, dx, _, rfl, S2 _ _ (S1 _ _ ho), st_no SA' (by decide +kernel), _, rfl, a, SA', rs, D, i, ⟨rfl, (S.same S1).same S2⟩, il, _, _, rfl, _, rfl, _, rfl, iteF ⟨_, rfl, S1.trans S2⟩⟩
      · rintro σ H1 ⟨q3, rfl, S1⟩
        exact k _ S1
end

end Hue

set_option Elab.async false
set_option linter.all false
set_option maxRecDepth 100000
set_option maxHeartbeats 1000000
namespace Hue
open PySem PySem.Spec PyProof.Rows L2 ItX
local macro_rules | `(tactic| walk_at "hp") => `(tactic| first
  | assumption
  | exact upd_same
  | (refine upd_old (by assumption) ?_; walk_at "hp")
  | (refine upd_oth (by assumption) ?_; walk_at "hp")
  | (refine same_get (by assumption) ?_; walk_at "hp")
  | (refine Fl.get (by assumption) (by assumption) ?_; walk_at "hp"))
local macro_rules | `(tactic| walk_at "seq") => `(tactic| first
  | assumption
  | exact T.t_BARRIERS _
  | exact SqL.of (by walk_at "hp")
  | exact SqT.of (by walk_at "hp"))
local macro_rules | `(tactic| walk_at "len") => `(tactic| first
  | exact Or.inl (by walk_at "seq")
  | exact Or.inr (by walk_at "seq"))
local macro_rules | `(tactic| walk_at "at") => `(tactic| first
  | rfl
  | assumption)


theorem kb_Store_slots {K : PySem.W.Frag} {mg : Str → Option Value} (T : Tx K mg) : ∃ g, KBn K (fdD K (mad "Store" "__init__" K)) P_Store_init 2 ["slots"] g (fun us zs => us ++ ((zs.drop 0).take 1 ++ (((([("hands", V.int (2))] : List (Str × V)).map (·.2)).drop 0).take 1))) := by
  obtain ⟨mv, h⟩ := FunD.kbinds0 (ps := P_Store_init) T.F_Store_init 2 ["slots"] ([("hands", V.int (2))] : List (Str × V)) (fun us mz zs => us ++ ((zs.drop 0).take 1 ++ ((mz.drop 0).take 1))) (by simp) (by simp) (fun r1 r2 r3 => Vals.append r1 (Vals.append (Vals.take 1 (Vals.drop 0 r3)) (Vals.take 1 (Vals.drop 0 r2))))
    (fun D doc pm an cdv ct us mv ws h1 h2 h3 => match us, mv, ws, h1, h2, h3 with | [_, _], [_], [_], _, _, _ => ⟨_, _, _, _, _, _, rfl, rfl, rfl⟩)
  exact ⟨_, h⟩
theorem kb_Store_hands {K : PySem.W.Frag} {mg : Str → Option Value} (T : Tx K mg) : ∃ g, KBn K (fdD K (mad "Store" "__init__" K)) P_Store_init 2 ["hands"] g (fun us zs => us ++ (((([("slots", V.int (1))] : List (Str × V)).map (·.2)).drop 0).take 1 ++ ((zs.drop 0).take 1))) := by
  obtain ⟨mv, h⟩ := FunD.kbinds0 (ps := P_Store_init) T.F_Store_init 2 ["hands"] ([("slots", V.int (1))] : List (Str × V)) (fun us mz zs => us ++ ((mz.drop 0).take 1 ++ ((zs.drop 0).take 1))) (by simp) (by simp) (fun r1 r2 r3 => Vals.append r1 (Vals.append (Vals.take 1 (Vals.drop 0 r2)) (Vals.take 1 (Vals.drop 0 r3))))
    (fun D doc pm an cdv ct us mv ws h1 h2 h3 => match us, mv, ws, h1, h2, h3 with | [_, _], [_], [_], _, _, _ => ⟨_, _, _, _, _, _, rfl, rfl, rfl⟩)
  exact ⟨_, h⟩
theorem kb_Store_slots_hands {K : PySem.W.Frag} {mg : Str → Option Value} (T : Tx K mg) : ∃ g, KBn K (fdD K (mad "Store" "__init__" K)) P_Store_init 2 ["slots", "hands"] g (fun us zs => us ++ ((zs.drop 0).take 1 ++ ((zs.drop 1).take 1))) := by
  obtain ⟨mv, h⟩ := FunD.kbinds0 (ps := P_Store_init) T.F_Store_init 2 ["slots", "hands"] ([] : List (Str × V)) (fun us mz zs => us ++ ((zs.drop 0).take 1 ++ ((zs.drop 1).take 1))) (by simp) (by simp) (fun r1 r2 r3 => Vals.append r1 (Vals.append (Vals.take 1 (Vals.drop 0 r3)) (Vals.take 1 (Vals.drop 1 r3))))
    (fun D doc pm an cdv ct us mv ws h1 h2 h3 => match us, mv, ws, h1, h2, h3 with | [_, _], [], [_, _], _, _, _ => rfl)
  exact ⟨_, h⟩
/-! ### _law_one_number -/
theorem rep_ok {σ : L2.St} {H : Hp} {Q : VK} {te : TE} {v : V} {n : Nat} (he : ∀ (H1 : Hp) (R : VK), Same H H1 → R (.int (n : Int)) H1 → te σ H1 R) (hn : n ≤ 100) (q : ∀ p H', H p = none → Same H H' → H' p = some (.lst (List.replicate n v)) → Q (.ref p) H') :
    tOp rRep (tLst (tCons (tC v) tNil)) te σ H Q := by
  refine ⟨(show (1 : Nat) ≤ sizeLine by decide), fun o no => he _ _ (Same.new no) ⟨o, _, _, rfl, rfl, upd_same, by omega, by omega, Nat.le_trans (show _ ≤ 100 by show 1 * ((n : Nat) : Int).toNat ≤ 100; omega) (by decide), fun p np => ?_⟩⟩
  rw [rep_one, Int.toNat_natCast]
  have z := Same.free (Same.new no) np
  exact q p _ z (Same.upd (Same.new no) z) upd_same
theorem rep_due {H : Hp} : ∀ n : Nat, Paired (DueO H) (List.replicate n V.non) (List.replicate n (none : Option Rf))
  | 0 => .nil
  | n + 1 => .cons rfl (rep_due n)
/-- a new store: its own addresses were free -/
theorem made_store {K : PySem.W.Frag} {H H' : Hp} {x dx C : Addr} {A : SA} (nx : H x = none) (nd : H dx = none) (f : Fl x (upd (upd H dx (.own x)) x (.ins C dx [])) H') (z : ∀ y ∈ A.all, (upd (upd H dx (.own x)) x (.ins C dx [])) y = none) : Same H H' ∧ ∀ y ∈ A.all, H y = none :=
  ⟨Fl.madeS nx nd f, fun y m => (Same.upd (Same.new nd) nx).free (z y m)⟩
theorem SA.apart {H : Hp} {A B : SA} (hB : ∀ y ∈ B.all, H y = none) {x : Addr} (hx : ∃ u, H x = some (.lst u)) : x ∉ B.lists := fun m => by
  obtain ⟨u, hu⟩ := hx
  have : x ∈ B.all := by
    simp only [SA.lists, SA.all, List.mem_cons, List.not_mem_nil, or_false] at m ⊢
    rcases m with h | h | h | h | h | h | h <;> simp [h]
  rw [hB x this] at hu
  cases hu
theorem StoreAt.three {K : PySem.W.Frag} {H : Hp} {s : Addr} {A : SA} {rs : List Ph} {D : SD} (S : StoreAt K H s A rs D) : ∀ x ∈ [A.ow, A.pl, A.ha], ∃ u, H x = some (.lst u) := fun x m => by
  simp only [List.mem_cons, List.not_mem_nil, or_false] at m
  rcases m with rfl | rfl | rfl
  · exact ⟨_, S.ow⟩
  · exact ⟨_, S.pl⟩
  · obtain ⟨xs, h, _⟩ := S.ha
    exact ⟨_, h⟩
theorem StoreAt.lists_at {K : PySem.W.Frag} {H : Hp} {s : Addr} {A : SA} {rs : List Ph} {D : SD} (S : StoreAt K H s A rs D) : ∀ x ∈ A.lists, ∃ u, H x = some (.lst u) := fun x m => by
  simp only [SA.lists, List.mem_cons, List.not_mem_nil, or_false] at m
  obtain ⟨xs, h1, _⟩ := S.ha
  obtain ⟨ys, h2, _⟩ := S.sl
  obtain ⟨as, h3, _⟩ := S.bk.ph
  rcases m with rfl | rfl | rfl | rfl | rfl | rfl | rfl
  · exact ⟨_, h3⟩
  · exact ⟨_, S.pl⟩
  · exact ⟨_, S.ow⟩
  · exact ⟨_, h2⟩
  · exact ⟨_, S.vi⟩
  · exact ⟨_, h1⟩
  · exact ⟨_, S.me⟩
theorem SA.three_in {A : SA} : ∀ x ∈ [A.ow, A.pl, A.ha], x ∈ A.lists := fun x m => by
  simp only [SA.lists, List.mem_cons, List.not_mem_nil, or_false] at m ⊢
  rcases m with h | h | h <;> simp [h]
theorem SA.three_all {A : SA} : ∀ x ∈ [A.ow, A.pl, A.ha], x ∈ A.all := fun x m => by
  simp only [SA.all, List.mem_cons, List.not_mem_nil, or_false] at m ⊢
  rcases m with h | h | h <;> simp [h]
theorem Fls.fresh {ls : List Addr} {H H1 H2 : Hp} (f : Fls ls H1 H2) (S : Same H H1) (z : ∀ x ∈ ls, H x = none) : Same H H2 := fun a o h => f a o (fun m => by rw [z a m] at h; cases h) (S a o h)
theorem last_due {H : Hp} {t : Addr} {r : Rf} (ht : H t = some (.tup [.int r.1, .int r.2])) : ∀ n : Nat, Paired (DueO H) (List.replicate n V.non ++ [V.ref t]) ((List.replicate (n + 1) (none : Option Rf)).set n (some r))
  | 0 => .cons ⟨t, rfl, ht⟩ .nil
  | n + 1 => .cons rfl (last_due ht n)
def spOne (K : PySem.W.Frag) : Sp := fun vs H Q _ => ∃ (b bl : Addr) (rs : List Ph) (m f : Nat) (r0 : Ph), vs = [.ref b, .int (m : Int), .int (f : Int), .int r0.hue] ∧ BkAt K H b bl rs ∧ rs[0]? = some r0 ∧ 1 ≤ m ∧ m ≤ 64 ∧ 1 ≤ f ∧ f ≤ 64 ∧ ∀ H', Same H H' → Q (.bl true) H'
section
variable {P : Program} [SupP P pFile] {w : World} {K : PySem.W.Frag} {mg : Str → Option Value} {base : Heap}
theorem ok_l_one_number (T : Tx K mg) : FnOk P w K mg base CX0 9 (gad "_law_one_number" K) (fdD K (gad "_law_one_number" K)) P_l_one_number (spOne K) := by
  obtain ⟨_, kb_Store_slots⟩ := kb_Store_slots T
  obtain ⟨_, kb_Store_hands⟩ := kb_Store_hands T
  refine T.F_l_one_number.ok sc_l_one_number (fun vs H Q E h => ?_) (fun cdv A outer s H vs Q E hr h => ?_)
  · obtain ⟨b, bl, rs, m, f, r0, rfl, _⟩ := h; rfl
  · obtain ⟨b, bl, rs, m, f, r0, rfl, B, h0, m1, m64, f1, f64, k⟩ := h
    refine ⟨_, PSs.nox ((pss_cons (ps_set (i := 4) sc_l_one_number.nd rfl (Or.inl rfl) (pe_makeK T.mk_Store (ok_Store_init (P := P) T) (hr.mono (by decide)) rfl T.g_Store kb_Store_slots pass0 (pa_cons (pv 0) pa_nil) (pk_cons (pv 1) pk_nil)))
      (pss_cons (ps_set (i := 5) sc_l_one_number.nd rfl (Or.inl rfl) (pe_makeK T.mk_Store (ok_Store_init (P := P) T) (hr.mono (by decide)) rfl T.g_Store kb_Store_hands pass0 (pa_cons (pv 0) pa_nil) (pk_cons (pv 2) pk_nil)))
      (pss_cons (ps_if (PW.pt (pw_or (pt_not (pt_val (pe_call (ok_l_held (P := P) T) (hr.mono (by decide)) rfl T.g_l_held T.F_l_held.kp (bd_l_held T) .nil pass0 (pa_cons (pv 4) (pa_cons (pe_op op_rep (pe_lst (pa_cons pe_non pa_nil)) pe_int) (pa_cons (pe_op op_rep (pe_lst (pa_cons pe_non pa_nil)) (pv 1)) pa_nil)))))) (pw_or1 (pt_not (pt_val (pe_call (ok_l_held (P := P) T) (hr.mono (by decide)) rfl T.g_l_held T.F_l_held.kp (bd_l_held T) .nil pass0 (pa_cons (pv 5) (pa_cons (pe_op op_rep (pe_lst (pa_cons pe_non pa_nil)) (pv 2)) (pa_cons (pe_lst (pa_cons pe_non pa_nil)) pa_nil))))))))) (pss_one (ps_ret pe_bl)) pss_nil)
      (pss_cons (ps_if (PW.pt (pw_or (pt_not (pt_val (pe_call (ok_l_missing (P := P) T) (hr.mono (by decide)) rfl T.g_l_missing T.F_l_missing.kp (bd_l_missing T) .nil pass0 (pa_cons (pv 4) (pa_cons pe_bl (pa_cons pe_int pa_nil)))))) (pw_or (pt_not (pt_val (pe_call (ok_l_missing (P := P) T) (hr.mono (by decide)) rfl T.g_l_missing T.F_l_missing.kp (bd_l_missing T) .nil pass0 (pa_cons (pv 4) (pa_cons pe_bl (pa_cons (pv 1) pa_nil)))))) (pw_or (pt_not (pt_val (pe_call (ok_l_missing (P := P) T) (hr.mono (by decide)) rfl T.g_l_missing T.F_l_missing.kp (bd_l_missing T) .nil pass0 (pa_cons (pv 5) (pa_cons pe_bl (pa_cons pe_int pa_nil)))))) (pw_or1 (pt_not (pt_val (pe_call (ok_l_missing (P := P) T) (hr.mono (by decide)) rfl T.g_l_missing T.F_l_missing.kp (bd_l_missing T) .nil pass0 (pa_cons (pv 5) (pa_cons pe_bl (pa_cons (pv 2) pa_nil))))))))))) (pss_one (ps_ret pe_bl)) pss_nil)
      (pss_cons (ps_if (PW.pt (pw_or (pt_not (pt_val (pe_call (ok_l_value (P := P) T) (hr.mono (by decide)) rfl T.g_l_value T.F_l_value.kp (bd_l_value T) .nil pass0 (pa_cons (pe_meth (pv 4) T.c_Store T.m_Store_make (ok_Store_make (P := P) T) (hr.mono (by decide)) (bd_Store_make T) .nil passL (pa_cons pe_int pa_nil)) (pa_cons pe_int pa_nil))))) (pw_or1 (pt_not (pt_val (pe_call (ok_l_value (P := P) T) (hr.mono (by decide)) rfl T.g_l_value T.F_l_value.kp (bd_l_value T) .nil pass0 (pa_cons (pe_meth (pv 5) T.c_Store T.m_Store_make (ok_Store_make (P := P) T) (hr.mono (by decide)) (bd_Store_make T) .nil passL (pa_cons (pe_op op_sub (pv 2) pe_int) pa_nil)) (pa_cons pe_int pa_nil)))))))) (pss_one (ps_ret pe_bl)) pss_nil)
      (pss_one (ps_ret (pe_and (pe_call (ok_l_held (P := P) T) (hr.mono (by decide)) rfl T.g_l_held T.F_l_held.kp (bd_l_held T) .nil pass0 (pa_cons (pv 4) (pa_cons (pe_lst (pa_cons pe_non (pa_cons (pe_tup (pa_cons pe_int (pa_cons (pv 3) pa_nil))) pa_nil))) (pa_cons (pe_op op_rep (pe_lst (pa_cons pe_non pa_nil)) (pv 1)) pa_nil)))) (pe_one (pe_call (ok_l_held (P := P) T) (hr.mono (by decide)) rfl T.g_l_held T.F_l_held.kp (bd_l_held T) .nil pass0 (pa_cons (pv 5) (pa_cons (pe_op op_cat (pe_op op_rep (pe_lst (pa_cons pe_non pa_nil)) (pe_op op_sub (pv 2) pe_int)) (pe_lst (pa_cons (pe_tup (pa_cons pe_int (pa_cons (pv 3) pa_nil))) pa_nil))) (pa_cons (pe_lst (pa_cons pe_non pa_nil)) pa_nil)))))))))))))), ?_⟩
    refine ⟨_, rfl, _, rfl, rfl, rfl, fun x1 dx1 nx1 nd1 ne1 => ?_⟩
    refine ⟨x1, dx1, b, bl, rs, m, 2, rfl, upd_same, B.mono (Same.upd (Same.new nd1) nx1), m64, by decide, fun A1 H1 g1 z1 St1 => ⟨rfl, ?_⟩⟩
    obtain ⟨S1, w1⟩ := made_store (K := K) nx1 nd1 g1 z1
    refine ⟨_, rfl, _, rfl, rfl, rfl, fun x2 dx2 nx2 nd2 ne2 => ?_⟩
    refine ⟨x2, dx2, b, bl, rs, 1, f, rfl, upd_same, (B.mono S1).mono (Same.upd (Same.new nd2) nx2), by decide, f64, fun A2 H2 g2 z2 St2 => ⟨rfl, ?_⟩⟩
    obtain ⟨S2, w2⟩ := made_store (K := K) nx2 nd2 g2 z2
    have T1 := St1.same S2
    have apl : ∀ x ∈ A1.lists, x ∉ A2.lists := fun x m => SA.apart (A := A1) w2 (St1.lists_at x m)
    have ap : ∀ x ∈ [A1.ow, A1.pl, A1.ha], x ∉ A2.lists := fun x m => apl x (SA.three_in x m)
    have S02 := S1.trans S2
    refine ⟨_, rfl, rep_ok (n := 2) (fun _ _ _ h => h) (by decide) fun p3 H3 n3 S3 h3 => rep_ok (n := m) (fun _ _ _ h => ⟨_, rfl, h⟩) (by omega) fun p4 H4 n4 S4 h4 => ?_⟩
    refine ⟨x1, A1, rs, newD m 2, p3, p4, _, _, ⟨rfl, (T1.same S3).same S4⟩, S4 _ _ h3, h4, rep_due 2, rep_due m, fun H5 S5 => ⟨_, rfl, iteF ?_⟩⟩
    have S25 := (S3.trans S4).trans S5
    refine ⟨_, rfl, rep_ok (n := f) (fun _ _ _ h => ⟨_, rfl, h⟩) (by omega) fun p6 H6 n6 S6 h6 => ⟨(show (1 : Nat) ≤ sizeLine by decide), fun p7 n7 => ?_⟩⟩
    refine ⟨x2, A2, rs, newD 1 f, p6, p7, _, _, ⟨rfl, ((St2.same S25).same S6).same (Same.new n7)⟩, upd_old n7 h6, upd_same, rep_due f, rep_due 1, fun H8 S8 => ⟨_, rfl, iteF ?_⟩⟩
    have S28 := ((S25.trans S6).trans (Same.new n7)).trans S8
    have U1 := T1.same S28
    have U2 := St2.same S28
    refine ⟨_, rfl, x1, A1, rs, newD m 2, false, 2, ⟨rfl, U1⟩, by simp [newD], fun H9 S9 => ⟨_, rfl, iteF ?_⟩⟩
    refine ⟨_, rfl, _, rfl, x1, A1, rs, newD m 2, true, m, ⟨rfl, U1.same S9⟩, by simp [newD], fun Ha Sa => ⟨_, rfl, iteF ?_⟩⟩
    refine ⟨_, rfl, x2, A2, rs, newD 1 f, true, 1, ⟨rfl, (U2.same S9).same Sa⟩, by simp [newD], fun Hb Sb => ⟨_, rfl, iteF ?_⟩⟩
    refine ⟨_, rfl, _, rfl, x2, A2, rs, newD 1 f, false, f, ⟨rfl, ((U2.same S9).same Sa).same Sb⟩, by simp [newD], fun Hc Sc => ⟨_, rfl, iteF ?_⟩⟩
    have S8c := ((S9.trans Sa).trans Sb).trans Sc
    have V1 := U1.same S8c
    have V2 := U2.same S8c
    have S2c := S28.trans S8c
    obtain ⟨ex1, ho1⟩ := V1.ob
    obtain ⟨ex2, ho2⟩ := V2.ob
    refine ⟨_, rfl, x1, ex1, _, rfl, ho1, st_no A1 (by decide +kernel), x1, A1, rs, newD m 2, 1, ⟨rfl, V1⟩, (by show 1 < (List.replicate 2 (none : Option Rf)).length; rw [List.length_replicate]; decide), (by show (0 : Nat) < 1000; decide), fun q0 e0 Hd Fd V1d => ?_⟩
    obtain rfl : q0 = r0 := Option.some.inj (e0.symm.trans h0)
    have V2d := V2.frame Fd V1.three ap
    refine ⟨.int 0, .int 0, rfl, .inr (.inr ⟨0, rfl, rfl⟩), fun He Se => ⟨_, rfl, iteF ?_⟩⟩
    have V1e := V1d.same Se
    have V2e := V2d.same Se
    obtain ⟨ey2, ho2e⟩ := V2e.ob
    have ap2 : ∀ x ∈ [A2.ow, A2.pl, A2.ha], x ∉ A1.lists := fun x m mm => apl x mm (SA.three_in x m)
    refine ⟨_, rfl, x2, ey2, _, rfl, ho2e, st_no A2 (by decide +kernel), _, rfl, _, _, rfl, rfl, x2, A2, rs, newD 1 f, f - 1, ⟨?_, V2e⟩, (by show f - 1 < (List.replicate f (none : Option Rf)).length; rw [List.length_replicate]; omega), (by show (0 : Nat) < 1000; decide), fun q1 e1 Hf Ff V2f => ?_⟩
    · show [V.ref x2, V.int ((f : Int) - 1)] = [V.ref x2, V.int ((f - 1 : Nat) : Int)]
      rw [show ((f : Int) - 1) = ((f - 1 : Nat) : Int) by omega]
    obtain rfl : q1 = q0 := Option.some.inj (e1.symm.trans e0)
    have V1f := V1e.frame Ff V2e.three ap2
    refine ⟨.int 0, .int 0, rfl, .inr (.inr ⟨0, rfl, rfl⟩), fun Hg Sg => ⟨_, rfl, iteF ?_⟩⟩
    have V1g := V1f.same Sg
    have V2g := V2f.same Sg
    have tot1 : Same H He := (Fd.fresh (S02.trans S2c) fun x m => w1 x (SA.three_all x m)).trans Se
    have tot : Same H Hg := (Ff.fresh tot1 fun x m => S1.free (w2 x (SA.three_all x m))).trans Sg
    have eh1 : ({ newD m 2 with n := 0 + 1, hands := (newD m 2).hands.set 1 (some (((newD m 2).n : Int), q1.hue)) } : SD).hands = [none, some (0, q1.hue)] := rfl
    refine ⟨_, rfl, _, rfl, (show (2 : Nat) ≤ sizeLine by decide), fun t nt => ⟨(show (2 : Nat) ≤ sizeLine by decide), fun p8 n8 => ?_⟩⟩
    have Sh : Same Hg (upd Hg t (.tup [V.int 0, V.int q1.hue])) := Same.new nt
    have ht : upd Hg t (.tup [V.int 0, V.int q1.hue]) t = some (.tup [V.int 0, V.int q1.hue]) := upd_same
    generalize upd Hg t (.tup [V.int 0, V.int q1.hue]) = Hh at Sh ht n8 ⊢
    have Si : Same Hh (upd Hh p8 (.lst [V.non, V.ref t])) := Same.new n8
    have hp8 : upd Hh p8 (.lst [V.non, V.ref t]) p8 = some (.lst [V.non, V.ref t]) := upd_same
    generalize upd Hh p8 (.lst [V.non, V.ref t]) = Hi at Si hp8 ⊢
    refine rep_ok (n := m) (fun _ _ _ h => ⟨_, rfl, h⟩) (by omega) fun p9 Hj n9 Sj h9 => ?_
    have Sgj := (Sh.trans Si).trans Sj
    refine ⟨x1, A1, rs, _, p8, p9, _, _, ⟨rfl, V1g.same Sgj⟩, Sj _ _ hp8, h9, .cons rfl (.cons ⟨t, rfl, Sj _ _ (Si _ _ ht)⟩ .nil), rep_due m, fun Hk Sk => ⟨_, rfl, iteT ?_⟩⟩
    have Sgk := Sgj.trans Sk
    have ef : ((f : Int) - 1) = ((f - 1 : Nat) : Int) := by omega
    refine ⟨_, rfl, rep_ok (n := f - 1) (fun H1 R _ h => ⟨_, rfl, _, _, rfl, rfl, by rw [← ef] at h; exact h⟩) (by omega) fun p10 Hl n10 Sl h10 => ?_⟩
    refine ⟨_, rfl, (show (2 : Nat) ≤ sizeLine by decide), fun t2 nt2 => ⟨(show (1 : Nat) ≤ sizeLine by decide), fun p12 n12 => ?_⟩⟩
    have Sm : Same Hl (upd Hl t2 (.tup [V.int 0, V.int q1.hue])) := Same.new nt2
    have ht2 : upd Hl t2 (.tup [V.int 0, V.int q1.hue]) t2 = some (.tup [V.int 0, V.int q1.hue]) := upd_same
    generalize upd Hl t2 (.tup [V.int 0, V.int q1.hue]) = Hm at Sm ht2 n12 ⊢
    have Sn : Same Hm (upd Hm p12 (.lst [V.ref t2])) := Same.new n12
    have h12 : upd Hm p12 (.lst [V.ref t2]) p12 = some (.lst [V.ref t2]) := upd_same
    generalize upd Hm p12 (.lst [V.ref t2]) = Hn at Sn h12 ⊢
    refine ⟨p10, p12, _, _, rfl, rfl, Sn _ _ (Sm _ _ h10), h12, Nat.le_trans (show _ ≤ 100 by show (List.replicate (f - 1) V.non).length + 1 ≤ 100; rw [List.length_replicate]; omega) (by decide), fun p13 n13 => ?_⟩
    have So : Same Hn (upd Hn p13 (.lst (List.replicate (f - 1) V.non ++ [V.ref t2]))) := Same.new n13
    have h13 : upd Hn p13 (.lst (List.replicate (f - 1) V.non ++ [V.ref t2])) p13 = some (.lst (List.replicate (f - 1) V.non ++ [V.ref t2])) := upd_same
    generalize upd Hn p13 (.lst (List.replicate (f - 1) V.non ++ [V.ref t2])) = Ho at So h13 ⊢
    refine ⟨(show (1 : Nat) ≤ sizeLine by decide), fun p14 n14 => ?_⟩
    have Sp : Same Ho (upd Ho p14 (.lst [V.non])) := Same.new n14
    have h14 : upd Ho p14 (.lst [V.non]) p14 = some (.lst [V.non]) := upd_same
    generalize upd Ho p14 (.lst [V.non]) = Hp' at Sp h14 ⊢
    have Skp := (((Sl.trans Sm).trans Sn).trans So).trans Sp
    have hld : Paired (DueO Hp') (List.replicate (f - 1) V.non ++ [V.ref t2]) ((List.replicate f (none : Option Rf)).set (f - 1) (some (0, q1.hue))) := by
      have := last_due (r := (0, q1.hue)) (Sp _ _ (So _ _ (Sn _ _ ht2))) (f - 1)
      rw [show f - 1 + 1 = f by omega] at this
      exact this
    exact ⟨x2, A2, rs, _, p13, p14, _, _, ⟨rfl, V2g.same (Sgk.trans Skp)⟩, Sp _ _ h13, h14, hld, rep_due 1, fun Hq Sq => k _ (tot.trans ((Sgk.trans Skp).trans Sq))⟩
end

end Hue

set_option Elab.async false
set_option linter.all false
set_option maxRecDepth 100000
set_option maxHeartbeats 1000000
namespace Hue
open PySem PySem.Spec PyProof.Rows L2 ItX
local macro_rules | `(tactic| walk_at "hp") => `(tactic| first
  | assumption
  | exact upd_same
  | (refine upd_old (by assumption) ?_; walk_at "hp")
  | (refine upd_oth (by assumption) ?_; walk_at "hp")
  | (refine same_get (by assumption) ?_; walk_at "hp")
  | (refine Fl.get (by assumption) (by assumption) ?_; walk_at "hp"))
local macro_rules | `(tactic| walk_at "seq") => `(tactic| first
  | assumption
  | exact T.t_BARRIERS _
  | exact SqL.of (by walk_at "hp")
  | exact SqT.of (by walk_at "hp"))
local macro_rules | `(tactic| walk_at "len") => `(tactic| first
  | exact Or.inl (by walk_at "seq")
  | exact Or.inr (by walk_at "seq"))
local macro_rules | `(tactic| walk_at "at") => `(tactic| first
  | rfl
  | assumption)


def PsAt (K : PySem.W.Frag) (H : Hp) (l : Addr) (rs : List Ph) : Prop := ∃ as : List Addr, H l = some (.lst (as.map V.ref)) ∧ as.length = rs.length ∧ ∀ (i : Nat) (a : Addr) (r : Ph), as[i]? = some a → rs[i]? = some r → PhAt K H a r
theorem PsAt.nil {K : PySem.W.Frag} {H : Hp} {D : Addr} : PsAt K (upd H D (.lst [])) D [] := ⟨[], upd_same, rfl, fun i t r h _ => by simp at h⟩
theorem PsAt.mono {K : PySem.W.Frag} {H H' : Hp} {l : Addr} {rs : List Ph} (h : PsAt K H l rs) (e : Same H H') : PsAt K H' l rs := by
  obtain ⟨as, h1, h2, h3⟩ := h
  exact ⟨as, e _ _ h1, h2, fun i a r ha hr => (h3 i a r ha hr).same e⟩
theorem PsAt.snoc {K : PySem.W.Frag} {H : Hp} {D t : Addr} {rs : List Ph} {r : Ph} (h : PsAt K H D rs) (ht : PhAt K H t r) :
    ∃ xs, H D = some (.lst xs) ∧ xs.length = rs.length ∧ PsAt K (upd H D (.lst (xs ++ [.ref t]))) D (rs ++ [r]) := by
  obtain ⟨ts, h1, h2, h3⟩ := h
  refine ⟨_, h1, by rw [List.length_map, h2], ⟨ts ++ [t], by rw [upd_same, List.map_append]; rfl, by rw [List.length_append, List.length_append, h2]; rfl, fun i t' r' a b => ?_⟩⟩
  have keep : ∀ {x : Addr} {q : Ph}, PhAt K H x q → ∀ u, PhAt K (upd H D (.lst u)) x q := fun ⟨d, hx⟩ u => ⟨d, upd_oth (ne_of hx h1 (by intro z; cases z)) hx⟩
  by_cases hi : i < ts.length
  · rw [List.getElem?_append_left hi] at a
    rw [List.getElem?_append_left (by omega)] at b
    exact keep (h3 i t' r' a b) _
  · rw [List.getElem?_append_right (by omega)] at a
    rw [List.getElem?_append_right (by omega)] at b
    have e0 : i - ts.length = 0 := by
      have := (List.getElem?_eq_some_iff.mp a).1
      simp at this
      omega
    have e1 : i - rs.length = 0 := by omega
    rw [e0] at a
    rw [e1] at b
    cases a
    cases b
    exact keep ht _
def spBook (K : PySem.W.Frag) : Sp := fun vs H Q _ => ∃ (a : Addr) (rs : List Ph), vs = [.ref a] ∧ RowsAt H a rs ∧ 1 ≤ rs.length ∧ rs.length ≤ 6 ∧
  ∀ b l H', H b = none → H l = none → Same H H' → BkAt K H' b l rs → Q (.ref b) H'
def nextPh (r : Ph) : Ph := ⟨(r.hue + 1) % 6, .guarded, false, true, 0, false⟩
theorem nextPh_ok (r : Ph) : (nextPh r).Ok := ⟨Int.emod_nonneg _ (by decide), by have := Int.emod_lt_of_pos (r.hue + 1) (show (0 : Int) < 6 by decide); show (r.hue + 1) % 6 ≤ 5; omega, Int.le_refl _, (by decide : (0 : Int) ≤ 7)⟩
/-- what the law holds on to while it plays -/
structure Play (K : PySem.W.Frag) (H : Hp) (l a t0 b bl hl kl x1 x2 : Addr) (xs : List V) (r0 : Ph) (rs rs1 : List Ph) (A1 A2 : SA) (D : SD) (m f : Nat) (hs ks : List V) (Eh Ek : List (Option Rf)) : Prop where
  po : PoolAt H l
  ra : H a = some (.lst xs)
  rt : H t0 = some (.tup r0.vs)
  s1 : StoreAt K H x1 A1 rs D
  s2 : StoreAt K H x2 A2 rs (newD m f)
  bk : BkAt K H b bl rs1
  hh : H hl = some (.lst hs)
  hk : H kl = some (.lst ks)
  ph : Paired (DueO H) hs Eh
  pk : Paired (DueO H) ks Ek
  eh : Eh.length = f
  ek : Ek.length = m
/-- the lists that change lie apart -/
structure Apart (l a bl hl kl : Addr) (A1 A2 : SA) : Prop where
  nd : [l, a, bl, hl, kl].Nodup
  a1 : ∀ x ∈ [l, a, bl, hl, kl], x ∉ A1.lists
  a2 : ∀ x ∈ [l, a, bl, hl, kl], x ∉ A2.lists
  a12 : ∀ x ∈ A1.lists, x ∉ A2.lists
theorem DueO.fls {H H' : Hp} {ls : List Addr} {v : V} {o : Option Rf} (h : DueO H v o) (f : Fls ls H H') (hl : ∀ x ∈ ls, ∃ u, H x = some (.lst u)) : DueO H' v o := by
  cases o with
  | none => exact h
  | some r =>
    obtain ⟨t, e, q⟩ := h
    refine ⟨t, e, f _ _ (fun m => ?_) q⟩
    obtain ⟨u, hu⟩ := hl t m
    rw [q] at hu
    cases hu
section
variable {K : PySem.W.Frag} {H H' : Hp} {l a t0 b bl hl kl x1 x2 : Addr} {xs hs ks : List V} {r0 : Ph} {rs rs1 : List Ph} {A1 A2 : SA} {D : SD} {m f : Nat} {Eh Ek : List (Option Rf)}
theorem Play.same (p : Play K H l a t0 b bl hl kl x1 x2 xs r0 rs rs1 A1 A2 D m f hs ks Eh Ek) (S : Same H H') : Play K H' l a t0 b bl hl kl x1 x2 xs r0 rs rs1 A1 A2 D m f hs ks Eh Ek := by
  obtain ⟨p1, p2, p3, p4, p5, p6, p7, p8, p9, p10, p11, p12⟩ := p
  obtain ⟨ns, q1, q2⟩ := p1
  exact ⟨⟨ns, S _ _ q1, q2⟩, S _ _ p2, S _ _ p3, p4.same S, p5.same S, p6.mono S, S _ _ p7, S _ _ p8, L2.Paired.mapP p9 fun _ _ h => h.same S, L2.Paired.mapP p10 fun _ _ h => h.same S, p11, p12⟩
/-- the pool alone changes -/
theorem Play.pool (p : Play K H l a t0 b bl hl kl x1 x2 xs r0 rs rs1 A1 A2 D m f hs ks Eh Ek) (Z : Apart l a bl hl kl A1 A2) (g : Fl l H H') (P' : PoolAt H' l) : Play K H' l a t0 b bl hl kl x1 x2 xs r0 rs rs1 A1 A2 D m f hs ks Eh Ek := by
  obtain ⟨p1, p2, p3, p4, p5, p6, p7, p8, p9, p10, p11, p12⟩ := p
  obtain ⟨ns, q1, q2⟩ := p1
  have F : Fls [l] H H' := Fls.one g (List.mem_singleton_self _)
  have hls : ∀ x ∈ [l], ∃ u, H x = some (.lst u) := fun x mx => by rw [List.mem_singleton.mp mx]; exact ⟨_, q1⟩
  have nd := Z.nd
  simp only [List.nodup_cons, List.mem_cons, List.not_mem_nil, not_or, or_false] at nd
  obtain ⟨⟨z1, z2, z3, z4⟩, _⟩ := nd
  refine ⟨P', g _ _ (Ne.symm z1) p2, g _ _ (ne_of p3 q1 (by intro z; cases z)) p3, p4.frame F hls ?_, p5.frame F hls ?_, p6.fls F hls ?_, g _ _ (Ne.symm z3) p7, g _ _ (Ne.symm z4) p8, L2.Paired.mapP p9 fun _ _ h => h.fls F hls, L2.Paired.mapP p10 fun _ _ h => h.fls F hls, p11, p12⟩
  · intro x mx; rw [List.mem_singleton.mp mx]; exact Z.a1 _ (by simp)
  · intro x mx; rw [List.mem_singleton.mp mx]; exact Z.a2 _ (by simp)
  · intro mx; exact z2 (List.mem_singleton.mp mx).symm
/-- the store alone changes: D' -/
theorem Play.deed {ls : List Addr} {D' : SD} (p : Play K H l a t0 b bl hl kl x1 x2 xs r0 rs rs1 A1 A2 D m f hs ks Eh Ek) (Z : Apart l a bl hl kl A1 A2) (F : Fls ls H H') (hin : ∀ x ∈ ls, x ∈ A1.lists) (s1 : StoreAt K H' x1 A1 rs D') : Play K H' l a t0 b bl hl kl x1 x2 xs r0 rs rs1 A1 A2 D' m f hs ks Eh Ek := by
  obtain ⟨p1, p2, p3, p4, p5, p6, p7, p8, p9, p10, p11, p12⟩ := p
  obtain ⟨ns, q1, q2⟩ := p1
  have hls : ∀ x ∈ ls, ∃ u, H x = some (.lst u) := fun x mx => p4.lists_at x (hin x mx)
  have no : ∀ x ∈ [l, a, bl, hl, kl], x ∉ ls := fun x mx my => Z.a1 x mx (hin x my)
  have nt : t0 ∉ ls := fun my => by
    obtain ⟨u, hu⟩ := hls _ my
    rw [p3] at hu
    cases hu
  refine ⟨⟨ns, F _ _ (no l (by simp)) q1, q2⟩, F _ _ (no a (by simp)) p2, F _ _ nt p3, s1, p5.frame F hls fun x mx => Z.a12 x (hin x mx), p6.fls F hls (no bl (by simp)), F _ _ (no hl (by simp)) p7, F _ _ (no kl (by simp)) p8, L2.Paired.mapP p9 fun _ _ h => h.fls F hls, L2.Paired.mapP p10 fun _ _ h => h.fls F hls, p11, p12⟩
/-- one of the law's own lists changes: what hands hold -/
theorem Play.held {j : Nat} {v : V} {o : Option Rf} (p : Play K H l a t0 b bl hl kl x1 x2 xs r0 rs rs1 A1 A2 D m f hs ks Eh Ek) (Z : Apart l a bl hl kl A1 A2) (dv : DueO H v o) : Play K (upd H hl (.lst (hs.set j v))) l a t0 b bl hl kl x1 x2 xs r0 rs rs1 A1 A2 D m f (hs.set j v) ks (Eh.set j o) Ek := by
  obtain ⟨p1, p2, p3, p4, p5, p6, p7, p8, p9, p10, p11, p12⟩ := p
  obtain ⟨ns, q1, q2⟩ := p1
  have g : Fl hl H (upd H hl (.lst (hs.set j v))) := Fl.cell
  have F : Fls [hl] H (upd H hl (.lst (hs.set j v))) := Fls.one g (List.mem_singleton_self _)
  have hls : ∀ x ∈ [hl], ∃ u, H x = some (.lst u) := fun x mx => by rw [List.mem_singleton.mp mx]; exact ⟨_, p7⟩
  have nd := Z.nd
  simp only [List.nodup_cons, List.mem_cons, List.not_mem_nil, not_or, or_false] at nd
  obtain ⟨⟨z1, z2, z3, z4⟩, ⟨y1, y2, y3⟩, ⟨w1, w2⟩, v1, _⟩ := nd
  refine ⟨⟨ns, g _ _ z3 q1, q2⟩, g _ _ y2 p2, g _ _ (ne_of p3 p7 (by intro z; cases z)) p3, p4.frame F hls ?_, p5.frame F hls ?_, p6.fls F hls ?_, upd_same, g _ _ (Ne.symm v1) p8, paired_set (dv.fls F hls) (L2.Paired.mapP p9 fun _ _ h => h.fls F hls), L2.Paired.mapP p10 fun _ _ h => h.fls F hls, by rw [List.length_set]; exact p11, p12⟩
  · intro x mx; rw [List.mem_singleton.mp mx]; exact Z.a1 _ (by simp)
  · intro x mx; rw [List.mem_singleton.mp mx]; exact Z.a2 _ (by simp)
  · intro mx; exact w1 (List.mem_singleton.mp mx)
/-- .. what slots keep -/
theorem Play.kept {j : Nat} {v : V} {o : Option Rf} (p : Play K H l a t0 b bl hl kl x1 x2 xs r0 rs rs1 A1 A2 D m f hs ks Eh Ek) (Z : Apart l a bl hl kl A1 A2) (dv : DueO H v o) : Play K (upd H kl (.lst (ks.set j v))) l a t0 b bl hl kl x1 x2 xs r0 rs rs1 A1 A2 D m f hs (ks.set j v) Eh (Ek.set j o) := by
  obtain ⟨p1, p2, p3, p4, p5, p6, p7, p8, p9, p10, p11, p12⟩ := p
  obtain ⟨ns, q1, q2⟩ := p1
  have g : Fl kl H (upd H kl (.lst (ks.set j v))) := Fl.cell
  have F : Fls [kl] H (upd H kl (.lst (ks.set j v))) := Fls.one g (List.mem_singleton_self _)
  have hls : ∀ x ∈ [kl], ∃ u, H x = some (.lst u) := fun x mx => by rw [List.mem_singleton.mp mx]; exact ⟨_, p8⟩
  have nd := Z.nd
  simp only [List.nodup_cons, List.mem_cons, List.not_mem_nil, not_or, or_false] at nd
  obtain ⟨⟨z1, z2, z3, z4⟩, ⟨y1, y2, y3⟩, ⟨w1, w2⟩, v1, _⟩ := nd
  refine ⟨⟨ns, g _ _ z4 q1, q2⟩, g _ _ y3 p2, g _ _ (ne_of p3 p8 (by intro z; cases z)) p3, p4.frame F hls ?_, p5.frame F hls ?_, p6.fls F hls ?_, g _ _ v1 p7, upd_same, L2.Paired.mapP p9 fun _ _ h => h.fls F hls, paired_set (dv.fls F hls) (L2.Paired.mapP p10 fun _ _ h => h.fls F hls), p11, by rw [List.length_set]; exact p12⟩
  · intro x mx; rw [List.mem_singleton.mp mx]; exact Z.a1 _ (by simp)
  · intro x mx; rw [List.mem_singleton.mp mx]; exact Z.a2 _ (by simp)
  · intro mx; exact w2 (List.mem_singleton.mp mx)
end
def spLaw (K : PySem.W.Frag) : Sp := fun vs H Q _ => ∃ (a : Addr) (ns : List Int), vs = [.ref a] ∧ SqL K H a (ns.map V.int) ∧ ns.length ≤ 63 ∧ ∀ H', Q (.bl true) H'
section
variable {P : Program} [SupP P pFile] {w : World} {K : PySem.W.Frag} {mg : Str → Option Value} {base : Heap}
theorem ok_l_book (T : Tx K mg) : FnOk P w K mg base CX0 7 (gad "_law_book" K) (fdD K (gad "_law_book" K)) P_l_book (spBook K) := by
  refine T.F_l_book.ok sc_l_book (fun vs H Q E h => ?_) (fun cdv A outer s H vs Q E hr h => ?_)
  · obtain ⟨a, rs, rfl, _⟩ := h; rfl
  · obtain ⟨a, rs, rfl, R, n1, n6, k⟩ := h
    refine ⟨_, PSs.nox ((pss_one (ps_ret (ClX.pe_cmeth (pe_gr rfl T.g_Book) T.cr_Book T.cm_Book_of (fr_Book_of (P := P) T) (hr.mono (by decide)) passL (pa_cons (pe_lc (own := [("_law_row", 1)]) (g := gName 1) (tt := tYes) rfl sc_l_book.nd (pi_list (pv 0)) (blkOk_by (own := [("_law_row", 1)]) (N := N_l_book) (sc := defScope s_l_book) (by decide +kernel)) (fun _ _ _ _ _ => (pg_name (i := 1) sc_l_book.nd rfl (Or.inl rfl))) (fun _ _ _ _ _ => pts_nil) (fun _ _ _ _ _ => (pe_call (ok_l_phase (P := P) T) (hr.mono (by decide)) rfl T.g_l_phase T.F_l_phase.kp (bd_l_phase T) .nil pass0 (pa_cons (pv 1) pa_nil)))) pa_nil))))), ?_⟩
    obtain ⟨⟨ts, h1, h2, h3⟩, rok⟩ := id R
    refine ⟨rfl, _, rfl, a, rfl, ⟨_, SqL.of h1⟩, fun D nD => lc_list (K := K) (a := a) (xs := ts.map V.ref) (fun i H' => PsAt K H' D (rs.take i) ∧ Same H H') ⟨PsAt.nil, Same.new nD⟩ (fun i H' _ ⟨_, S⟩ => SqL.of (S _ _ h1)) ?_ ?_⟩
    · rintro i x H1 hi ⟨p1, S1⟩
      rw [List.getElem?_map] at hi
      cases et : ts[i]? with
      | none => rw [et] at hi; cases hi
      | some t =>
        rw [et] at hi
        cases hi
        have hi2 : i < rs.length := by rw [← h2]; exact (List.getElem?_eq_some_iff.mp et).1
        obtain ⟨r, hr', hm⟩ := mem_get hi2
        refine ⟨rfl, _, rfl, t, r, rfl, S1 _ _ (h3 i t r et hr'), rok r hm, fun y H2 ny S2 hy => ?_⟩
        obtain ⟨xs, q1, q2, q3⟩ := (p1.mono S2).snoc hy
        rw [List.length_take] at q2
        refine ⟨xs, q1, small1000 (by omega), ?_, Same.upd (S1.trans S2) nD⟩
        rw [List.take_add_one, hr']
        exact q3
    · rintro H1 ⟨p1, S1⟩
      rw [List.length_map, h2, List.take_length] at p1
      obtain ⟨as, q1, q2, q3⟩ := p1
      refine ⟨D, _, rfl, SqL.of q1, by rw [List.length_map]; omega, fun hv b dx l H2 nb nl S2 hb hl => ?_, fun hv => ?_⟩
      · exact k b l H2 (S1.free nb) (S1.free nl) (S1.trans S2) ⟨⟨dx, hb⟩, ⟨as, hl, q2, fun i a r ha hr => (q3 i a r ha hr).same S2⟩, n1, n6, rok⟩
      · exact absurd ⟨by rw [List.length_map]; omega, by rw [List.length_map]; omega⟩ hv
theorem ok_law (T : Tx K mg) : FnOk P w K mg base CX0 11 (gad "law" K) (fdD K (gad "law" K)) P_law (spLaw K) := by
  obtain ⟨_, kb_Store_slots_hands⟩ := kb_Store_slots_hands T
  obtain ⟨ds0, hd0_Phase, hb0_Phase⟩ := bd0_Phase_init T
  obtain ⟨ds1, hd0_Store, hb0_Store⟩ := bd0_Store_init T
  refine T.F_law.ok sc_law (fun vs H Q E h => ?_) (fun cdv A outer s H vs Q E hr h => ?_)
  · obtain ⟨a, ns, rfl, _⟩ := h; rfl
  · obtain ⟨a0, ns, rfl, hS, hlen, k⟩ := h
    refine ⟨_, PSs.nox ((pss_cons (ps_set (i := 1) sc_law.nd rfl (Or.inl rfl) (pe_call (ok_l_pool (P := P) T) (hr.mono (by decide)) rfl T.g_l_pool T.F_l_pool.kp (bd_l_pool T) .nil pass0 (pa_cons (pv 0) pa_nil)))
      (pss_cons (ps_set (i := 2) sc_law.nd rfl (Or.inl rfl) (pe_call (ok_l_rows (P := P) T) (hr.mono (by decide)) rfl T.g_l_rows T.F_l_rows.kp (bd_l_rows T) .nil pass0 (pa_cons (pv 1) (pa_cons pe_int pa_nil))))
      (pss_cons (ps_set (i := 3) sc_law.nd rfl (Or.inl rfl) (pe_op op_add pe_int (pe_call (ok_l_take (P := P) T) (hr.mono (by decide)) rfl T.g_l_take T.F_l_take.kp (bd_l_take T) .nil pass0 (pa_cons (pv 1) (pa_cons pe_int pa_nil)))))
      (pss_cons (ps_set (i := 4) sc_law.nd rfl (Or.inl rfl) (pe_op op_add pe_int (pe_call (ok_l_take (P := P) T) (hr.mono (by decide)) rfl T.g_l_take T.F_l_take.kp (bd_l_take T) .nil pass0 (pa_cons (pv 1) (pa_cons pe_int pa_nil)))))
      (pss_cons (ps_set (i := 5) sc_law.nd rfl (Or.inl rfl) (pe_op op_add pe_int (pe_call (ok_l_take (P := P) T) (hr.mono (by decide)) rfl T.g_l_take T.F_l_take.kp (bd_l_take T) .nil pass0 (pa_cons (pv 1) (pa_cons pe_int pa_nil)))))
      (C8.pss_cut (ps_if (pt_cmpR op_eq (pe_call (ok_l_take (P := P) T) (hr.mono (by decide)) rfl T.g_l_take T.F_l_take.kp (bd_l_take T) .nil pass0 (pa_cons (pv 1) (pa_cons pe_int pa_nil))) pe_int (nomark _)) (pss_cons (ps_set (i := 3) sc_law.nd rfl (Or.inl rfl) pe_int)
      (pss_one (ps_set (i := 4) sc_law.nd rfl (Or.inl rfl) pe_int))) pss_nil)
      (pss_cons (ps_set (i := 6) sc_law.nd rfl (Or.inl rfl) (pe_call (ok_l_book (P := P) T) (hr.mono (by decide)) rfl T.g_l_book T.F_l_book.kp (bd_l_book T) .nil pass0 (pa_cons (pv 2) pa_nil)))
      (pss_cons (ps_set (i := 7) sc_law.nd rfl (Or.inl rfl) (pe_make T.mk_Store (ok_Store_init (P := P) T) (hr.mono (by decide)) rfl T.g_Store hb0_Store hd0_Store pass0 (pa_cons (pv 6) pa_nil)))
      (pss_cons (ps_if (PW.pt (pw_or (pt_cmpR op_notN (pe_meth (pv 7) T.c_Store T.m_Store_slot (ok_Store_slot (P := P) T) (hr.mono (by decide)) (bd_Store_slot T) .nil passL (pa_cons pe_int pa_nil)) pe_non (nomark _)) (pw_or1 (pt_cmpR op_notN (pe_meth (pv 7) T.c_Store T.m_Store_hand (ok_Store_hand (P := P) T) (hr.mono (by decide)) (bd_Store_hand T) .nil passL (pa_cons pe_int pa_nil)) pe_non (nomark _))))) (pss_one (ps_ret pe_bl)) pss_nil)
      (pss_cons (ps_if (PW.pt (pw_or (pt_not (pt_val (pe_call (ok_l_missing (P := P) T) (hr.mono (by decide)) rfl T.g_l_missing T.F_l_missing.kp (bd_l_missing T) .nil pass0 (pa_cons (pv 7) (pa_cons pe_bl (pa_cons pe_int pa_nil)))))) (pw_or1 (pt_not (pt_val (pe_call (ok_l_missing (P := P) T) (hr.mono (by decide)) rfl T.g_l_missing T.F_l_missing.kp (bd_l_missing T) .nil pass0 (pa_cons (pv 7) (pa_cons pe_bl (pa_cons pe_int pa_nil))))))))) (pss_one (ps_ret pe_bl)) pss_nil)
      (pss_cons (ps_set (i := 8) sc_law.nd rfl (Or.inl rfl) (pe_makeK T.mk_Store (ok_Store_init (P := P) T) (hr.mono (by decide)) rfl T.g_Store kb_Store_slots_hands pass0 (pa_cons (pv 6) pa_nil) (pk_cons (pv 3) (pk_cons (pv 4) pk_nil))))
      (pss_cons (ps_set (i := 9) sc_law.nd rfl (Or.inl rfl) (pe_makeK T.mk_Store (ok_Store_init (P := P) T) (hr.mono (by decide)) rfl T.g_Store kb_Store_slots_hands pass0 (pa_cons (pv 6) pa_nil) (pk_cons (pv 3) (pk_cons (pv 4) pk_nil))))
      (pss_cons (ps_set (i := 10) sc_law.nd rfl (Or.inl rfl) (pe_op op_rep (pe_lst (pa_cons pe_non pa_nil)) (pv 4)))
      (pss_cons (ps_set (i := 11) sc_law.nd rfl (Or.inl rfl) (pe_op op_rep (pe_lst (pa_cons pe_non pa_nil)) (pv 3)))
      (pss_cons (ps_set (i := 12) sc_law.nd rfl (Or.inl rfl) pe_int)
      (pss_cons (ps_if (pt_cmpR op_ne (pe_prop (pv 6) T.c_Book T.p_Book_text (ok_Book_text (P := P) T) (hr.mono (by decide)) (bd_Book_text T) .nil pass0 rfl) (pe_prop (pe_call (ok_l_book (P := P) T) (hr.mono (by decide)) rfl T.g_l_book T.F_l_book.kp (bd_l_book T) .nil pass0 (pa_cons (pv 2) pa_nil)) T.c_Book T.p_Book_text (ok_Book_text (P := P) T) (hr.mono (by decide)) (bd_Book_text T) .nil pass0 rfl) (nomark _)) (pss_one (ps_ret pe_bl)) pss_nil)
      (pss_cons (ps_if (pt_not (pt_val (pe_call (ok_l_one_number (P := P) T) (hr.mono (by decide)) rfl T.g_l_one_number T.F_l_one_number.kp (bd_l_one_number T) .nil pass0 (pa_cons (pv 6) (pa_cons (pv 3) (pa_cons (pv 4) (pa_cons (pe_ix ix_tup (pe_ix ix_list (pv 2) pe_int (fun _ _ => rfl)) pe_int (fun _ _ => rfl)) pa_nil))))))) (pss_one (ps_ret pe_bl)) pss_nil)
      (pss_cons (ps_asg (pe_make T.mk_Phase (ok_Phase_init (P := P) T) (hr.mono (by decide)) rfl T.g_Phase hb0_Phase hd0_Phase passL (pa_cons (pe_op op_mod (pe_callTy call_intI (by rfl) T.n_int (by decide +kernel) (pa_cons (pe_op op_add (pe_ix ix_tup (pe_ix ix_list (pv 2) pe_int (fun _ _ => rfl)) pe_int (fun _ _ => rfl)) pe_int) pa_nil)) pe_int) pa_nil)) (pg_sub (pv 6) pe_int (set_own T.o_Book_setitem (fr_Book_setitem (P := P) T) (hr.mono (by decide)) pass0)))
      (pss_cons (ps_set (i := 13) sc_law.nd rfl (Or.inl rfl) (pe_prop (pv 6) T.c_Book T.p_Book_text (ok_Book_text (P := P) T) (hr.mono (by decide)) (bd_Book_text T) .nil pass0 rfl))
      (pss_cons (ps_if (pt_not (pt_val (pe_call (ok_l_one_number (P := P) T) (hr.mono (by decide)) rfl T.g_l_one_number T.F_l_one_number.kp (bd_l_one_number T) .nil pass0 (pa_cons (pv 6) (pa_cons (pv 3) (pa_cons (pv 4) (pa_cons (pe_op op_mod (pe_callTy call_intI (by rfl) T.n_int (by decide +kernel) (pa_cons (pe_op op_add (pe_ix ix_tup (pe_ix ix_list (pv 2) pe_int (fun _ _ => rfl)) pe_int (fun _ _ => rfl)) pe_int) pa_nil)) pe_int) pa_nil))))))) (pss_one (ps_ret pe_bl)) pss_nil)
      (pss_cons (ps_for PassesOwn.never rfl (pi_range1 (by rfl) T.n_range (pa_cons (pv 5) pa_nil)) (pg_name (i := 14) sc_law.nd rfl (Or.inl rfl)) (pss_cons (ps_set (i := 15) sc_law.nd rfl (Or.inl rfl) (pe_call (ok_l_take (P := P) T) (hr.mono (by decide)) rfl T.g_l_take T.F_l_take.kp (bd_l_take T) .nil pass0 (pa_cons (pv 1) (pa_cons pe_int pa_nil))))
      (pss_cons (ps_set (i := 16) sc_law.nd rfl (Or.inl rfl) (pe_ix ix_list (pe_lst (pa_cons pe_int (pa_cons pe_int (pa_cons pe_int (pa_cons pe_int pa_nil))))) (pe_op op_mod (pe_callTy call_intI (by rfl) T.n_int (by decide +kernel) (pa_cons (pv 15) pa_nil)) pe_int) (fun _ _ => rfl)))
      (pss_cons (ps_set (i := 17) sc_law.nd rfl (Or.inl rfl) (pe_op op_mod (pe_callTy call_intI (by rfl) T.n_int (by decide +kernel) (pa_cons (pe_op op_fdiv (pv 15) pe_int) pa_nil)) (pv 4)))
      (pss_cons (ps_set (i := 18) sc_law.nd rfl (Or.inl rfl) (pe_op op_mod (pe_callTy call_intI (by rfl) T.n_int (by decide +kernel) (pa_cons (pe_op op_fdiv (pv 15) pe_int) pa_nil)) (pv 3)))
      (pss_cons (ps_set (i := 19) sc_law.nd rfl (Or.inl rfl) (pe_call (ok_l_done (P := P) T) (hr.mono (by decide)) rfl T.g_l_done T.F_l_done.kp (bd_l_done T) .nil pass0 (pa_cons (pv 8) (pa_cons (pv 16) (pa_cons (pv 17) (pa_cons (pv 18) pa_nil))))))
      (C8.pss_cut (ps_if (pt_cmpR op_eq (pv 16) pe_int (nomark _)) (pss_cons (ps_asg (pe_tup (pa_cons (pv 12) (pa_cons (pe_ix ix_tup (pe_ix ix_list (pv 2) pe_int (fun _ _ => rfl)) pe_int (fun _ _ => rfl)) pa_nil))) (pg_sub (pv 10) (pv 17) set_list))
      (pss_cons (ps_set (i := 12) sc_law.nd rfl (Or.inl rfl) (pe_op op_add (pv 12) pe_int))
      (pss_one (ps_if (PW.pt (pw_or (pt_not (pt_val (pe_call (ok_l_int (P := P) T) (hr.mono (by decide)) rfl T.g_l_int T.F_l_int.kp (bd_l_int T) .nil pass0 (pa_cons (pv 19) pa_nil)))) (pw_or1 (pt_cmpR op_ne (pv 19) (pe_op op_sub (pv 12) pe_int) (nomark _))))) (pss_one (ps_ret pe_bl)) pss_nil)))) (pss_one (ps_if (pt_cmpR op_isN (pe_ix ix_list (pv 10) (pv 17) (fun _ _ => rfl)) pe_non (nomark _)) (pss_one (ps_if (pt_cmpR op_ne (pv 19) pe_str (nomark _)) (pss_one (ps_ret pe_bl)) pss_nil)) (pss_one (ps_if (pt_cmpR op_eq (pv 16) pe_int (nomark _)) (pss_cons (ps_asg (pe_ix ix_list (pv 10) (pv 17) (fun _ _ => rfl)) (pg_sub (pv 11) (pv 18) set_list))
      (pss_one (ps_if (pt_cmpR op_notN (pv 19) pe_non (nomark _)) (pss_one (ps_ret pe_bl)) pss_nil))) (pss_one (ps_if (PW.pt (pw_or (pt_not (pt_val (pe_call (ok_l_int (P := P) T) (hr.mono (by decide)) rfl T.g_l_int T.F_l_int.kp (bd_l_int T) .nil pass0 (pa_cons (pv 19) pa_nil)))) (pw_or1 (pt_cmpR op_ne (pv 19) (pe_ix ix_tup (pe_ix ix_list (pv 10) (pv 17) (fun _ _ => rfl)) pe_int (fun _ _ => rfl)) (nomark _))))) (pss_one (ps_ret pe_bl)) pss_nil)))))))
      (pss_one (ps_if (PW.pt (pw_or (pt_not (pt_val (pe_call (ok_l_held (P := P) T) (hr.mono (by decide)) rfl T.g_l_held T.F_l_held.kp (bd_l_held T) .nil pass0 (pa_cons (pv 8) (pa_cons (pv 10) (pa_cons (pv 11) pa_nil)))))) (pw_or (pt_not (pt_val (pe_call (ok_l_value (P := P) T) (hr.mono (by decide)) rfl T.g_l_value T.F_l_value.kp (bd_l_value T) .nil pass0 (pa_cons (pe_prop (pv 8) T.c_Store T.p_Store_things (ok_Store_things (P := P) T) (hr.mono (by decide)) (bd_Store_things T) .nil pass0 rfl) (pa_cons (pv 12) pa_nil))))) (pw_or1 (pt_not (pt_val (pe_call (ok_l_value (P := P) T) (hr.mono (by decide)) rfl T.g_l_value T.F_l_value.kp (bd_l_value T) .nil pass0 (pa_cons (pe_prop (pv 8) T.c_Store T.p_Store_row (ok_Store_row (P := P) T) (hr.mono (by decide)) (bd_Store_row T) .nil pass0 rfl) (pa_cons pe_int pa_nil))))))))) (pss_one (ps_ret pe_bl)) pss_nil)))))))))
      (pss_cons (ps_for PassesOwn.never rfl (pi_range1 (by rfl) T.n_range (pa_cons (pv 12) pa_nil)) (pg_name (i := 14) sc_law.nd rfl (Or.inl rfl)) (pss_one (ps_if (pt_not (pt_val (pe_call (ok_l_value (P := P) T) (hr.mono (by decide)) rfl T.g_l_value T.F_l_value.kp (bd_l_value T) .nil pass0 (pa_cons (pe_meth (pv 8) T.c_Store T.m_Store_place_of (ok_Store_place_of (P := P) T) (hr.mono (by decide)) (bd_Store_place_of T) .nil pass0 (pa_cons (pv 14) pa_nil)) (pa_cons (pv 14) pa_nil))))) (pss_one (ps_ret pe_bl)) pss_nil)))
      (pss_cons (ps_if (PW.pt (pw_or (pt_cmpR op_ne (pe_prop (pv 6) T.c_Book T.p_Book_text (ok_Book_text (P := P) T) (hr.mono (by decide)) (bd_Book_text T) .nil pass0 rfl) (pv 13) (nomark _)) (pw_or1 (pt_not (pt_val (pe_call (ok_l_value (P := P) T) (hr.mono (by decide)) rfl T.g_l_value T.F_l_value.kp (bd_l_value T) .nil pass0 (pa_cons (pe_prop (pv 8) T.c_Store T.p_Store_turns (ok_Store_turns (P := P) T) (hr.mono (by decide)) (bd_Store_turns T) .nil pass0 rfl) (pa_cons pe_int pa_nil)))))))) (pss_one (ps_ret pe_bl)) pss_nil)
      (pss_one (ps_ret (pe_and (pe_call (ok_l_held (P := P) T) (hr.mono (by decide)) rfl T.g_l_held T.F_l_held.kp (bd_l_held T) .nil pass0 (pa_cons (pv 9) (pa_cons (pe_op op_rep (pe_lst (pa_cons pe_non pa_nil)) (pv 4)) (pa_cons (pe_op op_rep (pe_lst (pa_cons pe_non pa_nil)) (pv 3)) pa_nil)))) (pe_one (pe_call (ok_l_value (P := P) T) (hr.mono (by decide)) rfl T.g_l_value T.F_l_value.kp (bd_l_value T) .nil pass0 (pa_cons (pe_prop (pv 9) T.c_Store T.p_Store_things (ok_Store_things (P := P) T) (hr.mono (by decide)) (bd_Store_things T) .nil pass0 rfl) (pa_cons pe_int pa_nil))))))))))))))))))))))))))))))), ?_⟩
    refine ⟨_, rfl, a0, ns, rfl, hS, hlen, fun l H1 nl S1 P1 => ?_⟩
    refine ⟨_, rfl, l, 6, rfl, P1, by decide, by decide, fun rs a H2 R2 m1 m6 na al f2 P2 => ?_⟩
    refine ⟨_, rfl, l, 5, rfl, P2, by decide, fun v3 H3 v30 v31 f3 P3 => ⟨_, _, rfl, rfl, ?_⟩⟩
    refine ⟨_, rfl, l, 4, rfl, P3, by decide, fun v4 H4 v40 v41 f4 P4 => ⟨_, _, rfl, rfl, ?_⟩⟩
    refine ⟨_, rfl, l, 35, rfl, P4, by decide, fun v5 H5 v50 v51 f5 P5 => ⟨_, _, rfl, rfl, ?_⟩⟩
    have R5 := ((R2.fl f3 al P2).fl f4 al P3).fl f5 al P4
    refine ⟨fun (σ : L2.St) (H' : Hp) => ∃ m f : Int, σ = [some (V.ref a0), some (V.ref l), some (V.ref a), some (V.int m), some (V.int f), some (V.int (6 + v5)), none, none, none, none, none, none, none, none, none, none, none, none, none, none] ∧ 1 ≤ m ∧ m ≤ 64 ∧ 1 ≤ f ∧ f ≤ 64 ∧ RowsAt H' a rs ∧ PoolAt H' l, ?_, ?_⟩
    · refine ⟨_, rfl, l, 8, rfl, P5, by decide, fun v6 H6 _ _ f6 P6 => ⟨rfl, _, rfl, ?_⟩⟩
      exact iteB (fun _ => ⟨64, 64, rfl, by decide, by decide, by decide, by decide, R5.fl f6 al P5, P6⟩) (fun _ => ⟨1 + v3, 1 + v4, rfl, by omega, by omega, by omega, by omega, R5.fl f6 al P5, P6⟩)
    · rintro σ H6 ⟨m', f', rfl, m1', m64', f1', f64', R6, P6⟩
      obtain ⟨m, rfl⟩ : ∃ n : Nat, m' = (n : Int) := ⟨m'.toNat, by omega⟩
      obtain ⟨f, rfl⟩ : ∃ n : Nat, f' = (n : Int) := ⟨f'.toNat, by omega⟩
      have n1 : 1 ≤ rs.length := by omega
      have n6 : rs.length ≤ 6 := by omega
      obtain ⟨xs6, t0, r0, hx6, ha6, hr0, ok0, ht0⟩ := R6.row (i := 0) (by omega) (by omega)
      have hr0 : rs[0]? = some r0 := hr0
      refine ⟨_, rfl, a, rs, rfl, R6, n1, n6, fun b bl H7 nb nbl S7 B7 => ?_⟩
      refine ⟨_, rfl, fun x7 d7 nx7 nd7 ne7 => ?_⟩
      refine ⟨x7, d7, b, bl, rs, 1, 2, rfl, upd_same, B7.mono (Same.upd (Same.new nd7) nx7), by decide, by decide, fun A0 H8 g8 z8 St8 => ⟨rfl, ?_⟩⟩
      obtain ⟨S8, w8⟩ := made_store (K := K) nx7 nd7 g8 z8
      obtain ⟨e8, ho8⟩ := St8.ob
      refine ⟨_, rfl, x7, e8, _, rfl, ho8, st_no A0 (by decide +kernel), x7, A0, rs, newD 1 2, 0, ⟨rfl, St8⟩, fun _ o eo v rv => ?_, fun z => absurd (by simp [newD]) z⟩
      obtain rfl : none = o := Option.some.inj eo
      obtain rfl : v = .non := rv
      refine ⟨rfl, _, rfl, iteNS rfl ?_⟩
      refine ⟨_, rfl, x7, e8, _, rfl, ho8, st_no A0 (by decide +kernel), x7, A0, rs, newD 1 2, 1, ⟨rfl, St8⟩, fun _ o eo v rv => ?_, fun z => absurd (by simp [newD]) z⟩
      obtain rfl : none = o := Option.some.inj eo
      obtain rfl : v = .non := rv
      refine ⟨rfl, _, rfl, iteNS rfl ?_⟩
      refine ⟨_, rfl, x7, A0, rs, newD 1 2, true, 1, ⟨rfl, St8⟩, by simp [newD], fun H9 S9 => ⟨_, rfl, iteF ?_⟩⟩
      refine ⟨_, rfl, x7, A0, rs, newD 1 2, false, 2, ⟨rfl, St8.same S9⟩, by simp [newD], fun H10 S10 => ⟨_, rfl, iteF ?_⟩⟩
      have S710 := (S8.trans S9).trans S10
      have B10 := B7.mono S710
      refine ⟨_, rfl, _, rfl, _, rfl, rfl, rfl, fun x1 dx1 nx1 nd1 ne1 => ?_⟩
      refine ⟨x1, dx1, b, bl, rs, m, f, rfl, upd_same, B10.mono (Same.upd (Same.new nd1) nx1), by omega, by omega, fun A1 H11 g1 z1 St1 => ⟨rfl, ?_⟩⟩
      obtain ⟨S11, w1⟩ := made_store (K := K) nx1 nd1 g1 z1
      refine ⟨_, rfl, _, rfl, _, rfl, rfl, rfl, fun x2 dx2 nx2 nd2 ne2 => ?_⟩
      refine ⟨x2, dx2, b, bl, rs, m, f, rfl, upd_same, (B10.mono S11).mono (Same.upd (Same.new nd2) nx2), by omega, by omega, fun A2 H12 g2 z2 St2 => ⟨rfl, ?_⟩⟩
      obtain ⟨S12, w2⟩ := made_store (K := K) nx2 nd2 g2 z2
      have apl : ∀ x ∈ A1.lists, x ∉ A2.lists := fun x m => SA.apart (A := A1) w2 (St1.lists_at x m)
      have T1 := St1.same S12
      refine rep_ok (n := f) (fun _ _ _ h => ⟨_, rfl, h⟩) (by omega) fun hl H13 nh S13 hh => ?_
      refine rep_ok (n := m) (fun _ _ _ h => ⟨_, rfl, h⟩) (by omega) fun kl H14 nk S14 hk => ?_
      have S614 := ((((S7.trans S710).trans S11).trans S12).trans S13).trans S14
      have B14 := (((B10.mono S11).mono S12).mono S13).mono S14
      obtain ⟨db, hb14⟩ := B14.bk
      have R14 := R6.mono S614
      refine ⟨_, rfl, b, db, _, rfl, hb14, b, bl, rs, rfl, B14, fun H15 S15 => ?_⟩
      refine ⟨_, rfl, a, rs, rfl, R14.mono S15, n1, n6, fun b3 bl3 H16 nb3 nbl3 S16 B16 => ?_⟩
      obtain ⟨d16, hb16⟩ := B16.bk
      refine ⟨b3, d16, _, rfl, hb16, b3, bl3, rs, rfl, B16, fun H17 S17 => ⟨rfl, _, rfl, iteNS rfl ?_⟩⟩
      have S1417 := (S15.trans S16).trans S17
      have S617 := S614.trans S1417
      refine ⟨_, rfl, _, rfl, _, rfl, _, rfl, _, _, _, _, rfl, rfl, SqL.of (S617 _ _ hx6), ha6, _, _, _, _, rfl, rfl, SqT.of (S617 _ _ ht0), (row_at r0).1, b, bl, rs, m, f, r0, rfl, B14.mono S1417, hr0, by omega, by omega, by omega, by omega, fun H18 S18 => ⟨_, rfl, iteF ?_⟩⟩
      have S1418 := S1417.trans S18
      have S618 := S617.trans S18
      refine ⟨_, rfl, _, _, _, _, rfl, rfl, SqL.of (S618 _ _ hx6), ha6, _, _, _, _, rfl, rfl, SqT.of (S618 _ _ ht0), (row_at r0).1, _, _, rfl, rfl, _, rfl, _, _, rfl, rfl, (show (0 : Int) < 6 by decide), fun x dx nx nd ne => ?_⟩
      refine ⟨x, dx, (nextPh r0).rw, rfl, upd_same, fun _ H19 g19 h19 => ⟨rfl, ?_⟩, fun fx hf => absurd hf (by rw [(Ph.good (nextPh_ok r0))]; simp)⟩
      have S19 := Fl.madeS nx nd g19
      have B19 := (B14.mono S1418).mono S19
      obtain ⟨d19, hb19⟩ := B19.bk
      refine ⟨_, rfl, b, d19, _, rfl, hb19, b, bl, x, rs, 0, nextPh r0, rfl, B19, ⟨dx, h19⟩, nextPh_ok r0, fun H20 f20 B20 => ?_⟩
      rw [Int.zero_emod] at B20
      have B20 : BkAt K H20 b bl (rs.set 0 (nextPh r0)) := B20
      have hr1 : (rs.set 0 (nextPh r0))[0]? = some (nextPh r0) := List.getElem?_set_self (by omega)
      obtain ⟨as10, hbl10, _⟩ := B10.ph
      obtain ⟨ns6, hl6, hz6⟩ := id P6
      have S610 := S7.trans S710
      have S611 := S610.trans S11
      have S612 := S611.trans S12
      have S613 := S612.trans S13
      have S1214 := S13.trans S14
      have S1219 := (S1214.trans S1418).trans S19
      have hlA1 := St1.lists_at
      have nlb : l ≠ bl := (P6.ne nbl).symm
      have nab : a ≠ bl := ne_of_none hx6 nbl
      have nlh : l ≠ hl := ne_of_none (S612 _ _ hl6) nh
      have nah : a ≠ hl := ne_of_none (S612 _ _ hx6) nh
      have nbh : bl ≠ hl := ne_of_none (S12 _ _ (S11 _ _ hbl10)) nh
      have nlk : l ≠ kl := ne_of_none (S613 _ _ hl6) nk
      have nak : a ≠ kl := ne_of_none (S613 _ _ hx6) nk
      have nbk : bl ≠ kl := ne_of_none (S13 _ _ (S12 _ _ (S11 _ _ hbl10))) nk
      have nhk : hl ≠ kl := ne_of_none hh nk
      have late : ∀ {A : SA} {H0 : Hp} {y : Addr}, (∀ x ∈ A.lists, ∃ u, H0 x = some (.lst u)) → H0 y = none → y ∉ A.lists := fun {A H0 y} h e m => by
        obtain ⟨u, hu⟩ := h y m
        rw [e] at hu
        cases hu
      have Z : Apart l a bl hl kl A1 A2 := by
        refine ⟨by simp [al.symm, nlb, nab, nlh, nah, nbh, nlk, nak, nbk, nhk], ?_, ?_, apl⟩
        · intro y my
          simp only [List.mem_cons, List.not_mem_nil, or_false] at my
          rcases my with rfl | rfl | rfl | rfl | rfl
          · exact SA.apart (A := A1) w1 ⟨_, S610 _ _ hl6⟩
          · exact SA.apart (A := A1) w1 ⟨_, S610 _ _ hx6⟩
          · exact SA.apart (A := A1) w1 ⟨_, hbl10⟩
          · exact late (T1.lists_at) nh
          · exact late (T1.same S13).lists_at nk
        · intro y my
          simp only [List.mem_cons, List.not_mem_nil, or_false] at my
          rcases my with rfl | rfl | rfl | rfl | rfl
          · exact SA.apart (A := A1) w2 ⟨_, S611 _ _ hl6⟩
          · exact SA.apart (A := A1) w2 ⟨_, S611 _ _ hx6⟩
          · exact SA.apart (A := A1) w2 ⟨_, S11 _ _ hbl10⟩
          · exact late (St2.lists_at) nh
          · exact late (St2.same S13).lists_at nk
      have F20 : Fls [bl] H19 H20 := Fls.one f20 (List.mem_singleton_self _)
      have hbl19 := S1219 _ _ (S12 _ _ (S11 _ _ hbl10))
      have hls20 : ∀ x ∈ [bl], ∃ u, H19 x = some (.lst u) := fun x mx => by rw [List.mem_singleton.mp mx]; exact ⟨_, hbl19⟩
      have S619 := S618.trans S19
      have p20 : Play K H20 l a t0 b bl hl kl x1 x2 xs6 r0 rs (rs.set 0 (nextPh r0)) A1 A2 (newD m f) m f (List.replicate f .non) (List.replicate m .non) (List.replicate f none) (List.replicate m none) := by
        refine ⟨⟨ns6, f20 _ _ nlb (S619 _ _ hl6), hz6⟩, f20 _ _ nab (S619 _ _ hx6), f20 _ _ (ne_of (S619 _ _ ht0) hbl19 (by intro z; cases z)) (S619 _ _ ht0), (T1.same S1219).frame F20 hls20 ?_, (St2.same S1219).frame F20 hls20 ?_, B20, f20 _ _ (Ne.symm nbh) ((S14.trans (S1418.trans S19)) _ _ hh), f20 _ _ (Ne.symm nbk) ((S1418.trans S19) _ _ hk), rep_due f, rep_due m, List.length_replicate, List.length_replicate⟩
        · intro y my; rw [List.mem_singleton.mp my]; exact Z.a1 _ (by simp)
        · intro y my; rw [List.mem_singleton.mp my]; exact Z.a2 _ (by simp)
      obtain ⟨d20, hb20⟩ := B20.bk
      refine ⟨_, rfl, b, d20, _, rfl, hb20, b, bl, _, rfl, B20, fun H21 S21 => ?_⟩
      refine ⟨_, rfl, _, rfl, _, rfl, _, rfl, _, _, _, _, rfl, rfl, SqL.of (S21 _ _ p20.ra), ha6, _, _, _, _, rfl, rfl, SqT.of (S21 _ _ p20.rt), (row_at r0).1, _, _, rfl, rfl, _, rfl, _, _, rfl, rfl, (show (0 : Int) < 6 by decide), b, bl, _, m, f, nextPh r0, rfl, B20.mono S21, hr1, by omega, by omega, by omega, by omega, fun H22 S22 => ⟨_, rfl, iteF ?_⟩⟩
      have p22 := p20.same (S21.trans S22)
      have e5 : 6 + v5 ≤ 40 := by omega
      generalize htx : bkText (rs.set 0 (nextPh r0)) = tx
      generalize hrs1 : rs.set 0 (nextPh r0) = rs1 at p22
      refine ⟨_, rfl, _, rfl, by omega, by omega, for_range (n := _) (fun i σ H' => ∃ (D : SD) (hs ks : List V) (q14 q15 q16 q17 q18 q19 : Option V), σ = [some (V.ref a0), some (V.ref l), some (V.ref a), some (V.int (m : Int)), some (V.int (f : Int)), some (V.int (6 + v5)), some (V.ref b), some (V.ref x7), some (V.ref x1), some (V.ref x2), some (V.ref hl), some (V.ref kl), some (V.int (D.n : Int)), some (V.str tx), q14, q15, q16, q17, q18, q19] ∧ Play K H' l a t0 b bl hl kl x1 x2 xs6 r0 rs rs1 A1 A2 D m f hs ks D.hands D.slots ∧ D.n ≤ i ∧ i ≤ 100) ⟨newD m f, _, _, _, _, _, _, _, _, rfl, p22, Nat.zero_le _, by decide⟩ ?_ ?_⟩
      · rintro i σ H23 hi ⟨D, hs, ks, q14, q15, q16, q17, q18, q19, rfl, p, dn, _⟩
        have hi : i < 100 := by omega
        refine ⟨_, rfl, l, 1000003, rfl, p.po, by decide, fun cd H24 c0 c1 f24 P24 => ?_⟩
        have p24 := p.pool Z f24 P24
        obtain ⟨kd, hkd, kd3⟩ : ∃ kd : Int, atI [V.int 0, V.int 1, V.int 1, V.int 2] (cd % 4) = some (.int kd) ∧ (kd = 0 ∨ kd = 1 ∨ kd = 2) := by
          rcases (by omega : cd % 4 = 0 ∨ cd % 4 = 1 ∨ cd % 4 = 2 ∨ cd % 4 = 3) with e | e | e | e <;> rw [e]
          · exact ⟨0, rfl, .inl rfl⟩
          · exact ⟨1, rfl, .inr (.inl rfl)⟩
          · exact ⟨1, rfl, .inr (.inl rfl)⟩
          · exact ⟨2, rfl, .inr (.inr rfl)⟩
        refine ⟨(show (4 : Nat) ≤ sizeLine by decide), fun pk npk => ⟨_, rfl, _, rfl, _, _, rfl, rfl, (show (0 : Int) < 4 by decide), _, _, _, _, rfl, rfl, SqL.of upd_same, hkd, ?_⟩⟩
        have p25 := p24.same (Same.new (u := .lst [V.int 0, V.int 1, V.int 1, V.int 2]) npk)
        generalize upd H24 pk (.lst [V.int 0, V.int 1, V.int 1, V.int 2]) = H25 at p25 ⊢
        have f0 : (0 : Int) < (f : Int) := by omega
        have mp : (0 : Int) < (m : Int) := by omega
        obtain ⟨h, eh, hf⟩ : ∃ h : Nat, cd / 4 % (f : Int) = (h : Int) ∧ h < f := ⟨(cd / 4 % (f : Int)).toNat, by have := Int.emod_nonneg (cd / 4) (show (f : Int) ≠ 0 by omega); omega, by have := Int.emod_lt_of_pos (cd / 4) f0; have := Int.emod_nonneg (cd / 4) (show (f : Int) ≠ 0 by omega); omega⟩
        obtain ⟨j, ej, jm⟩ : ∃ j : Nat, cd / 80 % (m : Int) = (j : Int) ∧ j < m := ⟨(cd / 80 % (m : Int)).toNat, by have := Int.emod_nonneg (cd / 80) (show (m : Int) ≠ 0 by omega); omega, by have := Int.emod_lt_of_pos (cd / 80) mp; have := Int.emod_nonneg (cd / 80) (show (m : Int) ≠ 0 by omega); omega⟩
        refine ⟨_, rfl, _, _, rfl, rfl, ⟨by decide, by decide⟩, _, rfl, _, rfl, _, _, rfl, rfl, f0, ?_⟩
        refine ⟨_, rfl, _, _, rfl, rfl, ⟨by decide, by decide⟩, _, rfl, _, rfl, _, _, rfl, rfl, mp, ?_⟩
        have hlD : h < D.hands.length := by rw [p25.eh]; exact hf
        have jlD : j < D.slots.length := by rw [p25.ek]; exact jm
        refine ⟨_, rfl, _, rfl, _, rfl, _, rfl, x1, A1, rs, D, kd, h, j, ⟨?_, p25.s1⟩, kd3, hlD, jlD, by omega, ?_, ?_, ?_, ?_⟩
        · show [V.ref x1, V.int kd, V.int (cd / 4 % (f : Int)), V.int (cd / 80 % (m : Int))] = [V.ref x1, V.int kd, V.int (h : Int), V.int (j : Int)]
          rw [eh, ej]
        · rintro rfl q0 e0 H26 F26 s26
          obtain rfl : r0 = q0 := Option.some.inj (hr0.symm.trans e0)
          have p26 := p25.deed Z F26 SA.three_in s26
          refine ⟨fun (σ : L2.St) (H' : Hp) => ∃ (D : SD) (hs ks : List V) (q14 q15 q16 q17 q18 q19 : Option V), σ = [some (V.ref a0), some (V.ref l), some (V.ref a), some (V.int (m : Int)), some (V.int (f : Int)), some (V.int (6 + v5)), some (V.ref b), some (V.ref x7), some (V.ref x1), some (V.ref x2), some (V.ref hl), some (V.ref kl), some (V.int (D.n : Int)), some (V.str tx), q14, q15, q16, q17, q18, q19] ∧ Play K H' l a t0 b bl hl kl x1 x2 xs6 r0 rs rs1 A1 A2 D m f hs ks D.hands D.slots ∧ D.n ≤ i + 1, ?_, ?_⟩
          · refine ⟨_, rfl, rfl, _, rfl, iteD rfl ?_⟩
            refine ⟨_, rfl, _, rfl, _, _, _, _, rfl, rfl, SqL.of p26.ra, ha6, _, _, _, _, rfl, rfl, SqT.of p26.rt, (row_at r0).1, (show (2 : Nat) ≤ sizeLine by decide), fun t nt => ?_⟩
            have p27 := p26.same (Same.new (u := .tup [V.int (D.n : Int), V.int r0.hue]) nt)
            have ht : upd H26 t (.tup [V.int (D.n : Int), V.int r0.hue]) t = some (.tup [V.int (D.n : Int), V.int r0.hue]) := upd_same
            generalize upd H26 t (.tup [V.int (D.n : Int), V.int r0.hue]) = H27 at p27 ht ⊢
            have lhs : hs.length = f := (Paired.length p27.ph).trans p27.eh
            refine ⟨_, rfl, _, rfl, hl, hs, _, h, rfl, rfl, p27.hh, (by show ixN hs.length (cd / 4 % (f : Int)) = some h; rw [eh]; exact ixN_nat (by omega)), ?_⟩
            have p28 := p27.held (j := h) (v := .ref t) (o := some ((D.n : Int), r0.hue)) Z ⟨t, rfl, ht⟩
            refine ⟨_, rfl, _, _, rfl, rfl, ?_⟩
            refine ⟨_, rfl, (D.n : Int), rfl, _, rfl, iteF ?_⟩
            refine ⟨_, rfl, _, rfl, _, _, rfl, rfl, rfl, _, rfl, iteNS (by show V.int (D.n : Int) = V.int ((D.n : Int) + 1 - 1); rw [Int.add_sub_cancel]) ?_⟩
            exact ⟨_, _, _, _, _, _, _, _, _, rfl, p28, by show D.n + 1 ≤ i + 1; omega⟩
          · rintro σ H28 ⟨D1, hs1, ks1, u14, u15, u16, u17, u18, u19, rfl, p1, dn1⟩
            refine ⟨_, rfl, _, rfl, _, rfl, x1, A1, rs, D1, hl, kl, hs1, ks1, ⟨rfl, p1.s1⟩, p1.hh, p1.hk, p1.ph, p1.pk, fun H29 S29 => ⟨_, rfl, iteF ?_⟩⟩
            have p2 := p1.same S29
            obtain ⟨o2, ho2⟩ := p2.s1.ob
            refine ⟨_, rfl, x1, o2, _, rfl, ho2, x1, A1, rs, D1, ⟨rfl, p2.s1⟩, _, rfl, _, _, rfl, .inr (.inr ⟨(D1.n : Int), rfl, rfl⟩), fun H30 S30 => ⟨_, rfl, iteF ?_⟩⟩
            refine ⟨_, rfl, x1, o2, _, rfl, S30 _ _ ho2, x1, A1, rs, D1, ⟨rfl, p2.s1.same S30⟩, _, _, rfl, .inr (.inr ⟨0, rfl, rfl⟩), fun H31 S31 => ⟨_, rfl, iteF ?_⟩⟩
            exact ⟨_, _, _, _, _, _, _, _, _, rfl, p2.same (S30.trans S31), dn1, by omega⟩
        · intro k0 en H26 S26
          have p26 := p25.same S26
          obtain ⟨dv, hdv, du⟩ := paired_get p26.ph en
          obtain rfl : dv = .non := du
          have hat : atI hs (cd / 4 % (f : Int)) = some .non := by rw [eh]; exact atI_nat hdv
          refine ⟨fun (σ : L2.St) (H' : Hp) => ∃ (D : SD) (hs ks : List V) (q14 q15 q16 q17 q18 q19 : Option V), σ = [some (V.ref a0), some (V.ref l), some (V.ref a), some (V.int (m : Int)), some (V.int (f : Int)), some (V.int (6 + v5)), some (V.ref b), some (V.ref x7), some (V.ref x1), some (V.ref x2), some (V.ref hl), some (V.ref kl), some (V.int (D.n : Int)), some (V.str tx), q14, q15, q16, q17, q18, q19] ∧ Play K H' l a t0 b bl hl kl x1 x2 xs6 r0 rs rs1 A1 A2 D m f hs ks D.hands D.slots ∧ D.n ≤ i + 1, ?_, ?_⟩
          · refine ⟨_, rfl, rfl, _, rfl, iteDN (fun z => k0 (V.int.inj z)) ?_⟩
            refine ⟨_, rfl, _, rfl, _, _, _, _, rfl, rfl, SqL.of p26.hh, hat, rfl, _, rfl, iteD rfl ?_⟩
            refine ⟨_, rfl, rfl, _, rfl, iteNS rfl ?_⟩
            exact ⟨_, _, _, _, _, _, _, _, _, rfl, p26, by omega⟩
          · rintro σ H28 ⟨D1, hs1, ks1, u14, u15, u16, u17, u18, u19, rfl, p1, dn1⟩
            refine ⟨_, rfl, _, rfl, _, rfl, x1, A1, rs, D1, hl, kl, hs1, ks1, ⟨rfl, p1.s1⟩, p1.hh, p1.hk, p1.ph, p1.pk, fun H29 S29 => ⟨_, rfl, iteF ?_⟩⟩
            have p2 := p1.same S29
            obtain ⟨o2, ho2⟩ := p2.s1.ob
            refine ⟨_, rfl, x1, o2, _, rfl, ho2, x1, A1, rs, D1, ⟨rfl, p2.s1⟩, _, rfl, _, _, rfl, .inr (.inr ⟨(D1.n : Int), rfl, rfl⟩), fun H30 S30 => ⟨_, rfl, iteF ?_⟩⟩
            refine ⟨_, rfl, x1, o2, _, rfl, S30 _ _ ho2, x1, A1, rs, D1, ⟨rfl, p2.s1.same S30⟩, _, _, rfl, .inr (.inr ⟨0, rfl, rfl⟩), fun H31 S31 => ⟨_, rfl, iteF ?_⟩⟩
            exact ⟨_, _, _, _, _, _, _, _, _, rfl, p2.same (S30.trans S31), dn1, by omega⟩
        · rintro rfl r er H26 F26 s26
          have p26 := p25.deed Z F26 (fun x mx => by rw [List.mem_singleton.mp mx]; simp [SA.lists]) s26
          obtain ⟨dv, hdv, du⟩ := paired_get p26.ph er
          have hat : atI hs (cd / 4 % (f : Int)) = some dv := by rw [eh]; exact atI_nat hdv
          obtain ⟨t, rfl, ht⟩ := id du
          have lks : ks.length = m := (Paired.length p26.pk).trans p26.ek
          refine ⟨fun (σ : L2.St) (H' : Hp) => ∃ (D : SD) (hs ks : List V) (q14 q15 q16 q17 q18 q19 : Option V), σ = [some (V.ref a0), some (V.ref l), some (V.ref a), some (V.int (m : Int)), some (V.int (f : Int)), some (V.int (6 + v5)), some (V.ref b), some (V.ref x7), some (V.ref x1), some (V.ref x2), some (V.ref hl), some (V.ref kl), some (V.int (D.n : Int)), some (V.str tx), q14, q15, q16, q17, q18, q19] ∧ Play K H' l a t0 b bl hl kl x1 x2 xs6 r0 rs rs1 A1 A2 D m f hs ks D.hands D.slots ∧ D.n ≤ i + 1, ?_, ?_⟩
          · refine ⟨_, rfl, rfl, _, rfl, iteDN (by decide) ?_⟩
            refine ⟨_, rfl, _, rfl, _, _, _, _, rfl, rfl, SqL.of p26.hh, hat, rfl, _, rfl, iteDN (by intro z; cases z) ?_⟩
            refine ⟨_, rfl, rfl, _, rfl, iteD rfl ?_⟩
            refine ⟨_, rfl, _, rfl, _, _, _, _, rfl, rfl, SqL.of p26.hh, hat, _, rfl, _, rfl, kl, ks, _, j, rfl, rfl, p26.hk, (by show ixN ks.length (cd / 80 % (m : Int)) = some j; rw [ej]; exact ixN_nat (by omega)), ?_⟩
            have p27 := p26.kept (j := j) (o := some r) Z du
            refine ⟨_, rfl, rfl, _, rfl, iteNS rfl ?_⟩
            exact ⟨{ D with slots := D.slots.set j (some r) }, _, _, _, _, _, _, _, _, rfl, p27, by show D.n ≤ i + 1; omega⟩
          · rintro σ H28 ⟨D1, hs1, ks1, u14, u15, u16, u17, u18, u19, rfl, p1, dn1⟩
            refine ⟨_, rfl, _, rfl, _, rfl, x1, A1, rs, D1, hl, kl, hs1, ks1, ⟨rfl, p1.s1⟩, p1.hh, p1.hk, p1.ph, p1.pk, fun H29 S29 => ⟨_, rfl, iteF ?_⟩⟩
            have p2 := p1.same S29
            obtain ⟨o2, ho2⟩ := p2.s1.ob
            refine ⟨_, rfl, x1, o2, _, rfl, ho2, x1, A1, rs, D1, ⟨rfl, p2.s1⟩, _, rfl, _, _, rfl, .inr (.inr ⟨(D1.n : Int), rfl, rfl⟩), fun H30 S30 => ⟨_, rfl, iteF ?_⟩⟩
            refine ⟨_, rfl, x1, o2, _, rfl, S30 _ _ ho2, x1, A1, rs, D1, ⟨rfl, p2.s1.same S30⟩, _, _, rfl, .inr (.inr ⟨0, rfl, rfl⟩), fun H31 S31 => ⟨_, rfl, iteF ?_⟩⟩
            exact ⟨_, _, _, _, _, _, _, _, _, rfl, p2.same (S30.trans S31), dn1, by omega⟩
        · rintro rfl r er
          obtain ⟨dv, hdv, du⟩ := paired_get p25.ph er
          have hat : atI hs (cd / 4 % (f : Int)) = some dv := by rw [eh]; exact atI_nat hdv
          obtain ⟨t, rfl, ht⟩ := id du
          refine ⟨fun (σ : L2.St) (H' : Hp) => ∃ (D : SD) (hs ks : List V) (q14 q15 q16 q17 q18 q19 : Option V), σ = [some (V.ref a0), some (V.ref l), some (V.ref a), some (V.int (m : Int)), some (V.int (f : Int)), some (V.int (6 + v5)), some (V.ref b), some (V.ref x7), some (V.ref x1), some (V.ref x2), some (V.ref hl), some (V.ref kl), some (V.int (D.n : Int)), some (V.str tx), q14, q15, q16, q17, q18, q19] ∧ Play K H' l a t0 b bl hl kl x1 x2 xs6 r0 rs rs1 A1 A2 D m f hs ks D.hands D.slots ∧ D.n ≤ i + 1, ?_, ?_⟩
          · refine ⟨_, rfl, rfl, _, rfl, iteDN (by decide) ?_⟩
            refine ⟨_, rfl, _, rfl, _, _, _, _, rfl, rfl, SqL.of p25.hh, hat, rfl, _, rfl, iteDN (by intro z; cases z) ?_⟩
            refine ⟨_, rfl, rfl, _, rfl, iteDN (by decide) ?_⟩
            refine ⟨_, rfl, r.1, rfl, _, rfl, iteF ?_⟩
            refine ⟨_, rfl, _, rfl, _, rfl, _, _, _, _, rfl, rfl, SqL.of p25.hh, hat, _, _, _, _, rfl, rfl, SqT.of ht, rfl, rfl, _, rfl, iteNS rfl ?_⟩
            exact ⟨_, _, _, _, _, _, _, _, _, rfl, p25, by omega⟩
          · rintro σ H28 ⟨D1, hs1, ks1, u14, u15, u16, u17, u18, u19, rfl, p1, dn1⟩
            refine ⟨_, rfl, _, rfl, _, rfl, x1, A1, rs, D1, hl, kl, hs1, ks1, ⟨rfl, p1.s1⟩, p1.hh, p1.hk, p1.ph, p1.pk, fun H29 S29 => ⟨_, rfl, iteF ?_⟩⟩
            have p2 := p1.same S29
            obtain ⟨o2, ho2⟩ := p2.s1.ob
            refine ⟨_, rfl, x1, o2, _, rfl, ho2, x1, A1, rs, D1, ⟨rfl, p2.s1⟩, _, rfl, _, _, rfl, .inr (.inr ⟨(D1.n : Int), rfl, rfl⟩), fun H30 S30 => ⟨_, rfl, iteF ?_⟩⟩
            refine ⟨_, rfl, x1, o2, _, rfl, S30 _ _ ho2, x1, A1, rs, D1, ⟨rfl, p2.s1.same S30⟩, _, _, rfl, .inr (.inr ⟨0, rfl, rfl⟩), fun H31 S31 => ⟨_, rfl, iteF ?_⟩⟩
            exact ⟨_, _, _, _, _, _, _, _, _, rfl, p2.same (S30.trans S31), dn1, by omega⟩
      · rintro σ H23 ⟨D, hs, ks, q14, q15, q16, q17, q18, q19, rfl, p, dn, _⟩
        have dn : D.n ≤ 40 := by omega
        refine ⟨_, rfl, _, rfl, by omega, by omega, for_range (n := _) (fun i σ H' => ∃ (q14 q15 q16 q17 q18 q19 : Option V), σ = [some (V.ref a0), some (V.ref l), some (V.ref a), some (V.int (m : Int)), some (V.int (f : Int)), some (V.int (6 + v5)), some (V.ref b), some (V.ref x7), some (V.ref x1), some (V.ref x2), some (V.ref hl), some (V.ref kl), some (V.int (D.n : Int)), some (V.str tx), q14, q15, q16, q17, q18, q19] ∧ Play K H' l a t0 b bl hl kl x1 x2 xs6 r0 rs rs1 A1 A2 D m f hs ks D.hands D.slots) ⟨_, _, _, _, _, _, rfl, p⟩ ?_ ?_⟩
        · rintro i σ H24 hi ⟨u14, u15, u16, u17, u18, u19, rfl, p⟩
          rw [Int.zero_add]
          have hi : i < D.n := by omega
          obtain ⟨o2, ho2⟩ := p.s1.ob
          exact ⟨_, rfl, x1, o2, _, rfl, ho2, st_no A1 (by decide +kernel), _, rfl, x1, A1, rs, D, i, ⟨rfl, p.s1⟩, hi, _, rfl, _, _, rfl, .inr (.inr ⟨(i : Int), rfl, rfl⟩), fun H25 S25 => ⟨_, rfl, iteF ⟨_, _, _, _, _, _, rfl, p.same S25⟩⟩⟩
        · rintro σ H24 ⟨u14, u15, u16, u17, u18, u19, rfl, p⟩
          obtain ⟨o2, ho2⟩ := p.s1.ob
          obtain ⟨db4, hb4⟩ := p.bk.bk
          have etx : bkText rs1 = tx := by rw [← hrs1]; exact htx
          refine ⟨_, rfl, b, db4, _, rfl, hb4, b, bl, rs1, rfl, p.bk, fun H25 S25 => ⟨_, rfl, rfl, _, rfl, iteNS (by rw [etx]) ?_⟩⟩
          refine ⟨_, rfl, x1, o2, _, rfl, S25 _ _ ho2, x1, A1, rs, D, ⟨rfl, p.s1.same S25⟩, _, _, rfl, .inr (.inr ⟨0, rfl, rfl⟩), fun H26 S26 => ⟨_, rfl, iteF ?_⟩⟩
          have q26 := p.s2.same (S25.trans S26)
          refine ⟨_, rfl, rep_ok (n := f) (fun _ _ _ h => ⟨_, rfl, h⟩) (by omega) fun p3 H27 n27 S27 h27 => rep_ok (n := m) (fun _ _ _ h => ⟨_, rfl, h⟩) (by omega) fun p4 H28 n28 S28 h28 => ?_⟩
          refine ⟨x2, A2, rs, newD m f, p3, p4, _, _, ⟨rfl, (q26.same S27).same S28⟩, S28 _ _ h27, h28, rep_due f, rep_due m, fun H29 S29 => ⟨_, rfl, iteT ?_⟩⟩
          have q29 := ((q26.same S27).same S28).same S29
          obtain ⟨o3, ho3⟩ := q29.ob
          exact ⟨_, rfl, x2, o3, _, rfl, ho3, x2, A2, rs, newD m f, ⟨rfl, q29⟩, _, _, rfl, .inr (.inr ⟨0, rfl, rfl⟩), fun H30 S30 => k _⟩
end

end Hue

set_option Elab.async false
set_option linter.all false
set_option maxRecDepth 100000
set_option maxHeartbeats 4000000
namespace Hue
open PySem PySem.Spec PyProof.Rows L2 ItX
theorem endA {P : Program} [SupP P pFile] {w : World} {K : PySem.W.Frag} {h : Heap} {mg : Str → Option Value} {f : Addr} (X : K.In h) (G : h.Ns mainGlobals mg) (hfa : mg ("law" : Str) = some (.ref f)) (c : SaysX faAll fxAll dsAll K) :
    ∃ fd : FuncData, (∀ (s : Shared) (v : Value), BindsTo s fd ⟨[v], []⟩ [("_law_script", v)]) ∧ ∀ base : Heap, K.In base → base.Ns mainGlobals mg → FnOk P w K mg base CX0 11 f fd ["_law_script"] (spLaw K) := by
  have T := Tx.of X G c
  cases hfa.symm.trans T.g_law
  exact ⟨_, fun s v => FunD.bindsA (ps := ["_law_script"]) T.F_law (fun _ _ _ _ _ _ us hl => match us, hl with | [_], _ => rfl) s [v] rfl, fun base _ _ => ok_law T⟩
end Hue
open PySem PySem.W PySem.Calls PyProof.Rows
theorem PySem.Challenge.cw_huerounds_k16_makes_and_writes_holds : PySem.Challenge.rw_huerounds_k16_makes_and_writes.Holds := by
  w_on; o_law
  refine HandSHeadRun.head_any (r := OpenLaw.row PySem.Challenge.rw_huerounds_k16_makes_and_writes) (q := view (OpenLaw.row PySem.Challenge.rw_huerounds_k16_makes_and_writes).prog [42]) (H := Hue.hkA) (ob := Hue.obA) (M := 8000) (loose := Hue.looseAll)
    (d := HandSHeadRun.topDef (OpenLaw.row PySem.Challenge.rw_huerounds_k16_makes_and_writes).prog 42) (kwd := []) Hue.obA_eq
    (by kernel_rfl) (fun s => by kernel_rfl) Hue.runA (by kernel_rfl) (by kernel_rfl) (by kernel_rfl) (by rfl) (by first | assumption | decide +kernel) (by decide +kernel) ⟨rfl, rfl, rfl, rfl, rfl, by decide +kernel⟩ ?hw ?hc
  case hw => w_witness2
  case hc =>
    refine L2.walk_ofE (l := PySem.Challenge.rw_huerounds_k16_makes_and_writes) (n := 63) (k := 11) (x := "_law_script") (CX := L2.CX0) rfl (by decide) (by kernel_rfl) ⟨rfl, by decide, by decide⟩ ?F (fun _ _ _ _ z => z)
    intro w mg fa h Y G hmg0
    obtain ⟨K, KX, c⟩ := Y
    have hmg : mg ("law" : PySem.Str) = some (.ref fa) := by
      have e : (HandSHeadRun.topDef (OpenLaw.row PySem.Challenge.rw_huerounds_k16_makes_and_writes).prog 42).name = ("law" : PySem.Str) := by kernel_rfl
      rw [← e]
      exact hmg0
    obtain ⟨fd, hb, hF⟩ := Hue.endA (P := (PySem.Challenge.pw_huerounds_k16_makes_and_writes)) (w := w) KX G hmg c
    exact ⟨K, fd, Hue.spLaw K, KX, hb, fun H a ns hl _ hS => ⟨a, ns, rfl, hS, hl, fun _ => rfl⟩, hF⟩
#print axioms PySem.Challenge.cw_huerounds_k16_makes_and_writes_holds
