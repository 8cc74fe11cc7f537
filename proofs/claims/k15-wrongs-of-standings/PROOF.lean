import PyProof.Rows.All
import Wide.All
import OpenK.AllK
import Wide.FinOn
import KE.KStateDown
import KE.KOpsOwn
import KE.KEqSeq
import KE.KSuper
import PyProof.P3Eq
import HandS.ForMost
import HandS.Wide
import HandS.Exc
import HandS.Defaults
import HandS.Property
import HandS.MakeKwOnly
import HandS.ClsMeth
import HandS.Star
import HandS.Codes
import HandS.WordsExc
import HandS.IsInst
import HandS.Head0
import HandS.Head1
import HandS.Head2
import HandS.HeadEnd
import HandS.HeadHook1
import HandS.HeadHook2
import HandS.ExcIs
import HandS.ExcOwn
import HandS.ExcInit
import HandS.ExcField
import HandS.ExcValue
import HandS.OwnEq
import HandS.SlotsOwn
import HandS.More
import HandS.FStr
import HandS.HotCalls
import KE.KSuperObj
import KE.KExcSuper
import HandS.Nested
import HandS.ExcSuper
import KE.KParD
import PyProof.DictUpdate
import HandS.Dict
import HandS.Iter
import OpenK.KMake
import HandS.Zip
import HandS.Walk
import HandS.TupAny
import HandS.WideBits
import PyProof.FString3
import KE.GoesMore
import KE.KxField
import PyProof.TwoTypes
import PyProof.FactsAll.int_3
import HandS.Deep
import PyProof.P3In
import KE.GoesEnum
import PyProof.EnumMake
import KE.SortData
import HandS.OwnIter
import HandS.IterVal
import PyProof.Rows.Range3
import HandS.GenList
import HandS.TupSets
import KE.GoesSet
import HandS.Small
import PyProof.StrLaws
import PySem.Challenge.RW_huerounds_k15_wrongs_of_standings
set_option Elab.async false
set_option linter.all false
set_option maxRecDepth 100000
set_option maxHeartbeats 4000000
/-! The base of all our proofs about huerounds: the head's facts by names (own hook), own rules, own words. -/
namespace Hue
open PySem PySem.Spec PyProof.Rows L2

/-! ### defs of the text, found by an address of K -/
def noFd : FuncData := PySem.W.fnOf Str.empty Str.empty (defArgs (.Pass ⟨0, 0, 0, 0⟩)) [] (defScope (.Pass ⟨0, 0, 0, 0⟩)) .none .none .none .none none .none .none
def fdD (K : PySem.W.Frag) (a : Addr) : FuncData :=
  match K.lookup a with
  | some ⟨_, _, .func g, _⟩ => g
  | _ => noFd
abbrev Row8 : Type := Option (Str × Str × Arguments × FuncBody × Scope × Addr × List Str × Addr)
def rowAt (K : PySem.W.Frag) (a : Addr) : Row8 :=
  match K.lookup a with
  | some ⟨_, _, .func g, _⟩ => some (g.name, g.qualname, g.params, g.body, g.scope, g.globals, g.closure.map (·.1), g.builtins)
  | _ => none
/-- a def of the text: where it stands, its names, its statement, its defaults -/
structure DX where
  ad : PySem.W.Frag → Addr
  nm : Str
  ql : Str
  st : Stmt
  df : List He.Dv := []
  kd : List (Str × He.Dv) := []
  fr : List Str := []
def DX.row (d : DX) : Row8 := some (d.nm, d.ql, defArgs d.st, .stmts (defBody d.st), defScope d.st, mainGlobals, d.fr, builtinsNs)
def DX.dvs (K : PySem.W.Frag) (d : DX) : List V := d.df.map (He.Dv.v K)
def DX.kws (K : PySem.W.Frag) (d : DX) : List (Str × V) := d.kd.map fun q => (q.1, q.2.v K)
def DX.okB (K : PySem.W.Frag) (d : DX) : Bool :=
  PySem.W.keepIn K (.ref (d.ad K)) &&
  (match K.lookup (d.ad K) with
  | some ⟨_, _, .func g, _⟩ => PySem.W.codeIn K g.code d.ql && (He.dflB K g.defaults (d.dvs K) && He.kwdB K g.kwdefaults (d.kws K))
  | _ => false)
theorem map_nil_of {l : List (Str × Addr)} (h : l.map (·.1) = []) : l = [] := by
  cases l with
  | nil => rfl
  | cons a r => cases h
theorem DX.funD {K : PySem.W.Frag} {d : DX} (e : rowAt K (d.ad K) = d.row) (c : d.okB K = true) (hf : d.fr = []) :
    FunD K d.nm d.ql (defArgs d.st) (defBody d.st) (defScope d.st) (d.dvs K) (d.kws K) (d.ad K) (fdD K (d.ad K)) := by
  obtain ⟨kp, c2⟩ := He.ba c
  unfold rowAt at e
  unfold fdD
  cases q : K.lookup (d.ad K) with
  | none => rw [q] at c2; cases c2
  | some o =>
    obtain ⟨oc, od, dt, osl⟩ := o
    rw [q] at c2 e
    cases dt with
    | func g =>
      obtain ⟨n1, n2, n3, n4, n5, n6, n7, n8, n9, n10, n11, n12, n13, n14, n15⟩ := g
      have e2 : (some (n1, n2, n3, n4, n5, n6, n7.map (·.1), n15) : Row8) = d.row := e
      unfold DX.row at e2
      simp only [Option.some.injEq, Prod.mk.injEq] at e2
      obtain ⟨h1, h2, h3, h4, h5, h6, h7, h8⟩ := e2
      rw [hf] at h7
      have h7' := map_nil_of h7
      subst h1 h2 h3 h4 h5 h6 h7' h8
      obtain ⟨k1, k2⟩ := He.ba (show (PySem.W.codeIn K n13 d.ql && (He.dflB K n8 (d.dvs K) && He.kwdB K n9 (d.kws K))) = true from c2)
      obtain ⟨k3, k4⟩ := He.ba k2
      exact ⟨⟨oc, od, n8, n9, n10, n11, n12, n13, n14, osl, rfl, q, k1, He.dflB_ok k3, He.kwdB_ok k4⟩, kp⟩
    | _ => cases c2
/-- a def of a class that says super(): its one cell -/
structure FunC (K : PySem.W.Frag) (x qual : Str) (params : Arguments) (body : List Stmt) (scope : Scope) (f cc : Addr) (cdv : Value) (fd : FuncData) : Prop where
  ex : ∃ (oc : Value) (od : Option Addr) (dV kV doc pm : Value) (an : Option Addr) (ct : Value) (osl : Array (Option Value)),
    fd = PySem.W.fnX x qual params body scope [("__class__", cc)] dV kV doc pm an cdv ct ∧ K.lookup f = some ⟨oc, od, .func fd, osl⟩ ∧ PySem.W.codeIn K cdv qual = true ∧ dV = .none
  kp : PySem.W.keepIn K (.ref f) = true
theorem DX.funC {K : PySem.W.Frag} {d : DX} (e : rowAt K (d.ad K) = d.row) (c : d.okB K = true) (hf : d.fr = [("__class__" : Str)]) (hd : d.df = []) :
    ∃ cc cdv, FunC K d.nm d.ql (defArgs d.st) (defBody d.st) (defScope d.st) (d.ad K) cc cdv (fdD K (d.ad K)) := by
  obtain ⟨kp, c2⟩ := He.ba c
  unfold rowAt at e
  unfold fdD
  cases q : K.lookup (d.ad K) with
  | none => rw [q] at c2; cases c2
  | some o =>
    obtain ⟨oc, od, dt, osl⟩ := o
    rw [q] at c2 e
    cases dt with
    | func g =>
      obtain ⟨n1, n2, n3, n4, n5, n6, n7, n8, n9, n10, n11, n12, n13, n14, n15⟩ := g
      have e2 : (some (n1, n2, n3, n4, n5, n6, n7.map (·.1), n15) : Row8) = d.row := e
      unfold DX.row at e2
      simp only [Option.some.injEq, Prod.mk.injEq] at e2
      obtain ⟨h1, h2, h3, h4, h5, h6, h7, h8⟩ := e2
      rw [hf] at h7
      obtain ⟨cc, h7'⟩ : ∃ cc, n7 = [(("__class__" : Str), cc)] := by
        match n7, h7 with
        | [(y, cc)], z =>
          have z2 : [y] = [("__class__" : Str)] := z
          injection z2 with z3 _
          exact ⟨cc, by rw [z3]⟩
      subst h1 h2 h3 h4 h5 h6 h7' h8
      obtain ⟨k1, k2⟩ := He.ba (show (PySem.W.codeIn K n13 d.ql && (He.dflB K n8 (d.dvs K) && He.kwdB K n9 (d.kws K))) = true from c2)
      obtain ⟨k3, k4⟩ := He.ba k2
      have hD := He.dflB_ok k3
      have e0 : n8 = .none := by
        rcases hD with ⟨_, e⟩ | ⟨e, _⟩
        · exact e
        · exact absurd (show DX.dvs K d = [] by unfold DX.dvs; rw [hd]; rfl) e
      exact ⟨cc, n13, ⟨oc, od, n8, n9, n10, n11, n12, n14, osl, rfl, q, k1, e0⟩, kp⟩
    | _ => cases c2

/-! ### more facts of the top -/
abbrev gad (x : Str) (K : PySem.W.Frag) : Addr := He.ga K x
abbrev mad (C m : Str) (K : PySem.W.Frag) : Addr := He.ma K (He.ga K C) m
/-- the getter behind a property, the def behind a classmethod -/
def pad (T : String) (C m : Str) (K : PySem.W.Frag) : Addr :=
  match PySem.W.recIn K (He.ma K (He.ga K C) m) T with
  | some (.ref g :: _) => g
  | _ => 0
/-- the def behind a property's setter -/
def sad (C m : Str) (K : PySem.W.Frag) : Addr :=
  match PySem.W.recIn K (He.ma K (He.ga K C) m) "property" with
  | some (_ :: .ref g :: _) => g
  | _ => 0
inductive Kx where
  | ty (n : String)
  | own (x : Str)
def Kx.v (K : PySem.W.Frag) : Kx → Value
  | .ty n => .type n
  | .own x => .ref (He.ga K x)
inductive Fx where
  | prop (C f : Str)
  | tup (x : Str) (vs : List He.Dv)
  | inst (C : Str)
  | kit (t c : Kx) (b : Bool)
  | bop (C m r : Str) (T : String)
  | cread (C : Str)
  | cmeth (C m : Str)
  | cint (C f : Str) (i : Int)
  | own (C m : Str)
  | excC (D : Str)
  | nf (C : Str) (t : Kx)
  | sub (C : Str) (t : Kx) (b : Bool)
  | oex (C : Str)
  | sup (C D : Str) (fl ar : Str)
  | einit (C D : Str)
  | pset (C f : Str)
  | bopr (C m r : Str) (T : String)
  | bopo (C m : Str)
def eqB (a b : Option Bool) : Bool := decide (a = b)
def someO (a : Option (Option Value)) : Bool := a.isSome
def Fx.ok (K : PySem.W.Frag) : Fx → Bool
  | .prop C f =>
    He.eqO (PySem.W.findIn K (.ref (gad C K)) f) (some (some (.ref (mad C f K)))) &&
    (He.eqO (PySem.W.specialIn K (.ref (mad C f K)) "__get__") (some (some (.builtin "property.__get__"))) &&
    (eqB (PySem.W.takesIn K (.ref (mad C f K))) (some true) &&
    (match PySem.W.recIn K (mad C f K) "property" with
      | some (.ref _ :: _) => true
      | _ => false)))
  | .tup x vs => He.tupB K x vs
  | .inst C =>
    He.eqO (PySem.W.findIn K (.ref (gad C K)) "__class__") (some (some (.builtin "object.__class__"))) &&
    (He.eqO (PySem.W.specialIn K (.builtin "object.__class__") "__get__") (some (some (.builtin "getset_descriptor.__get__"))) &&
    (eqB (PySem.W.takesIn K (.builtin "object.__class__")) (some true) &&
    eqB (PySem.W.mroIn K (gad C K) (.type "object")) (some true)))
  | .kit t c b => eqB (PySem.W.kitOne K (t.v K) (c.v K)) (some b)
  | .bop C m r T =>
    PySem.W.selfFirst K (gad C K) &&
    (He.eqO (PySem.W.findIn K (.ref (gad C K)) m) (some (some (.ref (mad C m K)))) &&
    (PySem.W.isFn K (.ref (mad C m K)) &&
    (He.eqO (PySem.W.findIn K (.ref (gad C K)) r) (some none) &&
    (someO (PySem.W.findIn K (.type T) m) && (someO (PySem.W.findIn K (.type T) r) &&
    eqB (PySem.W.subIn K (.type T) (.ref (gad C K))) (some false))))))
  | .cread C => PySem.W.readsIn K (gad C K) (.type "type") && He.eqO (PySem.W.specialIn K (.ref (gad C K)) "__getattribute__") (some (some (.builtin "type.__getattribute__")))
  | .cmeth C m =>
    (match PySem.W.findCls K (.ref (gad C K)) (.type "type") m with
      | some (.get (.builtin g) (.ref p) .none (.ref D)) => decide (g = "classmethod.__get__") && (decide (p = mad C m K) && decide (D = gad C K))
      | _ => false) &&
    ((match PySem.W.recIn K (mad C m K) "classmethod" with
      | some (.ref _ :: _) => true
      | _ => false) && PySem.W.fnIn K (pad "classmethod" C m K))
  | .cint C f i =>
    (match PySem.W.findCls K (.ref (gad C K)) (.type "type") f with
      | some (.val (.int j _)) => decide (j = i)
      | _ => false)
  | .own C m => He.eqO (PySem.W.findIn K (.ref (gad C K)) m) (some (some (.ref (mad C m K)))) && (PySem.W.isFn K (.ref (mad C m K)) && (PySem.W.fnIn K (mad C m K) && PySem.W.noSeq K (gad C K)))
  | .excC D =>
    He.eqO (PySem.W.findIn K (.ref (gad D K)) "__getattribute__") (some (some (.builtin "BaseException.__getattribute__"))) &&
    (He.eqO (PySem.W.findIn K (.ref (gad D K)) "__getattr__") (some none) &&
    (eqB (PySem.W.subIn K (.ref (gad D K)) (.type "BaseException")) (some true) &&
    (PySem.W.hasDictIn K (gad D K) &&
    (He.eqO (PySem.W.findIn K (.ref (gad D K)) "__class__") (some (some (.builtin "object.__class__"))) &&
    (He.eqO (PySem.W.specialIn K (.builtin "object.__class__") "__get__") (some (some (.builtin "getset_descriptor.__get__"))) &&
    (eqB (PySem.W.takesIn K (.builtin "object.__class__")) (some true) &&
    eqB (PySem.W.mroIn K (gad D K) (.type "object")) (some true)))))))
  | .nf C t => PySem.W.notFirst K (gad C K) (t.v K)
  | .sub C t b => eqB (PySem.W.subIn K (.ref (gad C K)) (t.v K)) (some b)
  | .oex C =>
    (match K.lookup (gad C K) with
      | some ⟨.type "type", _, .cls cd, sl⟩ => (match cd.mro, sl.toList with
        | .ref C' :: bm, [_, _, _, _, some (.builtin n), _] => decide (C' = gad C K) && (decide (n = "ValueError.__new__") && (!cd.hasDel && (cd.hasDict && PySem.HandSPX.refsVE bm)))
        | _, _ => false)
      | _ => false) &&
    (He.eqO (PySem.W.findIn K (.ref (gad C K)) "__setattr__") (some (some (.builtin "object.__setattr__"))) &&
    (eqB (PySem.W.subIn K (.ref (gad C K)) (.type "BaseException")) (some true) &&
    (decide (PySem.W.typeIn K (.ref (gad C K)) = some (.type "type")) && PySem.W.keepIn K (.ref (gad C K)))))
  | .sup C D fl ar =>
    (match K.lookup (mad D "__init__" K) with
      | some ⟨_, _, .func fd, _⟩ =>
        (match (fd.params.posonlyargs ++ fd.params.args).head? with
          | some a => decide (a.arg = ar)
          | none => false) &&
        ((match fd.closure with
          | [(_, cc)] => (match K.lookup cc with
            | some ⟨_, _, .cell (some (.ref a)), _⟩ => decide (a = gad D K)
            | _ => false)
          | _ => false) &&
        (match fd.code with
          | .ref c => (match K.lookup c with
            | some ⟨_, _, .fields vs, _⟩ => (match (vs[2]? : Option Value) with
              | some (Value.str z _) => decide (z = fl)
              | _ => false)
            | _ => false)
          | _ => false))
      | _ => false) &&
    ((PySem.W.clsIn K (gad D K)).isSome && ((PySem.W.clsIn K (gad C K)).isSome && (eqB (PySem.W.mroIn K (gad C K) (.ref (gad D K))) (some true) && (He.eqO (PySem.W.nsIn K cStatics "thirdparty.any") (some none) &&
    (He.eqO (PySem.W.ks_superIn K (gad C K) (gad D K) "__init__") (some (some (.builtin "ValueError.__init__"))) && eqB (PySem.W.subIn K (.ref (gad C K)) (.type "ValueError")) (some true))))))
  | .pset C f =>
    He.eqO (PySem.W.takerIn K (gad C K) f) (some (some (.ref (mad C f K)))) && (decide (PySem.W.typeIn K (.ref (mad C f K)) = some (.type "property")) &&
    (match PySem.W.recIn K (mad C f K) "property" with
      | some (_ :: .ref _ :: _) => true
      | _ => false))
  | .bopr C m r T =>
    PySem.W.selfFirst K (gad C K) &&
    (He.eqO (PySem.W.findIn K (.ref (gad C K)) m) (some (some (.ref (mad C m K)))) &&
    (PySem.W.isFn K (.ref (mad C m K)) &&
    (He.eqO (PySem.W.findIn K (.ref (gad C K)) r) (some (some (.ref (mad C r K)))) &&
    (PySem.W.isFn K (.ref (mad C r K)) &&
    (someO (PySem.W.findIn K (.type T) m) && (someO (PySem.W.findIn K (.type T) r) &&
    (eqB (PySem.W.subIn K (.type T) (.ref (gad C K))) (some false) && eqB (PySem.W.subIn K (.ref (gad C K)) (.type T)) (some false))))))))
  | .bopo C m => PySem.W.selfFirst K (gad C K) && (He.eqO (PySem.W.findIn K (.ref (gad C K)) m) (some (some (.ref (mad C m K)))) && PySem.W.isFn K (.ref (mad C m K)))
  | .einit C D => He.eqO (PySem.W.findIn K (.ref (gad C K)) "__init__") (some (some (.ref (mad D "__init__" K)))) && decide (PySem.W.typeIn K (.ref (mad D "__init__" K)) = some (.type "function"))
section
variable {K : PySem.W.Frag}
theorem rec_ok {T : String} {C m : Str} (c : (match PySem.W.recIn K (mad C m K) T with
      | some (.ref _ :: _) => true
      | _ => false) = true) : ∃ rest, PySem.W.recIn K (mad C m K) T = some (.ref (pad T C m K) :: rest) := by
  unfold pad
  cases e : PySem.W.recIn K (mad C m K) T with
  | none => rw [e] at c; cases c
  | some l =>
    rw [e] at c
    cases l with
    | nil => cases c
    | cons v r =>
      cases v with
      | ref g => exact ⟨r, rfl⟩
      | _ => cases c
theorem cread_ok {C : Str} (c : (Fx.cread C).ok K = true) : ClX.CRead K (gad C K) (.type "type") := by
  obtain ⟨c1, c2⟩ := He.ba c
  exact ⟨c1, He.eqO_ok c2⟩
theorem cmeth_ok {C m : Str} (c : (Fx.cmeth C m).ok K = true) : ClX.CMet K (gad C K) (.type "type") m (mad C m K) (pad "classmethod" C m K) := by
  obtain ⟨c1, c⟩ := He.ba c
  obtain ⟨c2, c3⟩ := He.ba c
  refine ⟨?_, rec_ok c2, c3⟩
  split at c1
  · rename_i g p D e
    obtain ⟨k1, k⟩ := He.ba c1
    obtain ⟨k2, k3⟩ := He.ba k
    rw [e, of_decide_eq_true k1, of_decide_eq_true k2, of_decide_eq_true k3]
  · cases c1
theorem cint_ok {C f : Str} {i : Int} (c : (Fx.cint C f i).ok K = true) : ∃ u, ClX.CVal K (gad C K) (.type "type") f (.int i) u := by
  have c1 : (match PySem.W.findCls K (.ref (gad C K)) (.type "type") f with
      | some (.val (.int j _)) => decide (j = i)
      | _ => false) = true := c
  split at c1
  · rename_i j t e
    refine ⟨_, e, ⟨t, ?_⟩⟩
    rw [of_decide_eq_true c1]
  · cases c1
theorem prop_ok {C f : Str} (c : (Fx.prop C f).ok K = true) : PropOf K (gad C K) f (mad C f K) (pad "property" C f K) := by
  obtain ⟨c1, c⟩ := He.ba c
  obtain ⟨c2, c⟩ := He.ba c
  obtain ⟨c3, c4⟩ := He.ba c
  refine ⟨He.eqO_ok c1, He.eqO_ok c2, of_decide_eq_true c3, ?_⟩
  unfold pad
  cases e : PySem.W.recIn K (mad C f K) "property" with
  | none => rw [e] at c4; cases c4
  | some l =>
    rw [e] at c4
    cases l with
    | nil => cases c4
    | cons v r =>
      cases v with
      | ref g =>
        exact ⟨r, rfl⟩
      | _ => cases c4
/-- a property with a setter -/
structure PSetOf (K : PySem.W.Frag) (C : Addr) (f : Str) (p g : Addr) : Prop where
  tk : PySem.W.takerIn K C f = some (some (.ref p))
  ty : PySem.W.typeIn K (.ref p) = some (.type "property")
  rc : ∃ a rest, PySem.W.recIn K p "property" = some (a :: .ref g :: rest)
theorem pset_ok {C f : Str} (c : (Fx.pset C f).ok K = true) : PSetOf K (gad C K) f (mad C f K) (sad C f K) := by
  obtain ⟨c1, c⟩ := He.ba c
  obtain ⟨c2, c3⟩ := He.ba c
  refine ⟨He.eqO_ok c1, of_decide_eq_true c2, ?_⟩
  unfold sad
  split at c3
  · rename_i a g rest e
    exact ⟨a, rest, by rw [e]⟩
  · cases c3
theorem inst_ty {C : Str} (c : (Fx.inst C).ok K = true) (cl : Cls K (gad C K)) {H : Hp} {a dx : Addr} {fs : List (Str × V)} (e : H a = some (.ins (gad C K) dx fs)) : TyX K H (.ref a) (.ref (gad C K)) := by
  obtain ⟨c1, c⟩ := He.ba c
  obtain ⟨c2, c⟩ := He.ba c
  obtain ⟨c3, c4⟩ := He.ba c
  exact .base (.ins e cl (He.eqO_ok c1) (He.eqO_ok c2) (of_decide_eq_true c3) (of_decide_eq_true c4))
theorem nf_ok {C : Str} {t : Kx} (h : (Fx.nf C t).ok K = true) : PySem.W.notFirst K (gad C K) (t.v K) = true := h
theorem sub_ok {C : Str} {t : Kx} {b : Bool} (h : (Fx.sub C t b).ok K = true) : PySem.W.subIn K (.ref (gad C K)) (t.v K) = some b := of_decide_eq_true h
theorem kit_ok {t c : Kx} {b : Bool} (h : (Fx.kit t c b).ok K = true) : PySem.W.kitOne K (t.v K) (c.v K) = some b := of_decide_eq_true h
end
/-! ### the hook -/
abbrev AlX : Type := Bool × List Row8
def obsX (fa : List He.Fa) (fx : List Fx) (ds : List DX) (K : PySem.W.Frag) : AlX :=
  ((fa.all fun f => f.ok K) && ((fx.all fun f => f.ok K) && ds.all fun d => d.okB K), ds.map fun d => rowAt K (d.ad K))
def valX (ds : List DX) : AlX := (true, ds.map DX.row)
def SaysX (fa : List He.Fa) (fx : List Fx) (ds : List DX) (K : PySem.W.Frag) : Prop := obsX fa fx ds K = valX ds
def obsXG (n : Nat) (fa : List He.Fa) (fx : List Fx) (ds : List DX) (g : Addr → Option Obj) : AlX := obsX fa fx ds (He.frG g (cStatics :: He.asD g n))
def hookX (n : Nat) (fa : List He.Fa) (fx : List Fx) (ds : List DX) : PySem.W.Hook where
  α := AlX
  obs := fun s => obsXG n fa fx ds s.heap.get?
  val := fun _ => valX ds
  says := fun _ h => ∃ K : PySem.W.Frag, K.In h ∧ SaysX fa fx ds K
  of := fun _ _ e => ⟨_, He.frG_in, e⟩
  keeps := fun _ _ _ ⟨K, hK, c⟩ k => ⟨K, PySem.W.Frag.In.keeps hK k, c⟩
theorem obsXG_eq {n : Nat} {fa : List He.Fa} {fx : List Fx} {ds : List DX} {g : Addr → Option Obj} {s : Shared} (h : ∀ a, g a = s.heap.get? a) : obsXG n fa fx ds g = (hookX n fa fx ds).obs s := by
  cases (funext h : g = s.heap.get?)
  rfl
section
variable {fa : List He.Fa} {fx : List Fx} {ds : List DX} {K : PySem.W.Frag}
theorem SaysX.fact (c : SaysX fa fx ds K) (i : Nat) {f : He.Fa} (h : fa[i]? = some f := by rfl) : f.ok K = true :=
  List.all_eq_true.mp (He.ba (show ((fa.all fun f => f.ok K) && ((fx.all fun f => f.ok K) && ds.all fun d => d.okB K)) = true from congrArg (fun z : AlX => z.1) c)).1 f (List.mem_of_getElem? h)
theorem SaysX.more (c : SaysX fa fx ds K) (i : Nat) {f : Fx} (h : fx[i]? = some f := by rfl) : f.ok K = true :=
  List.all_eq_true.mp (He.ba (He.ba (show ((fa.all fun f => f.ok K) && ((fx.all fun f => f.ok K) && ds.all fun d => d.okB K)) = true from congrArg (fun z : AlX => z.1) c)).2).1 f (List.mem_of_getElem? h)
theorem SaysX.fdc (c : SaysX fa fx ds K) (i : Nat) {d : DX} (h : ds[i]? = some d := by rfl) (hf : d.fr = [("__class__" : Str)] := by rfl) (hd : d.df = [] := by rfl) :
    ∃ cc cdv, FunC K d.nm d.ql (defArgs d.st) (defBody d.st) (defScope d.st) (d.ad K) cc cdv (fdD K (d.ad K)) := by
  have c2 := (He.ba (He.ba (show ((fa.all fun f => f.ok K) && ((fx.all fun f => f.ok K) && ds.all fun d => d.okB K)) = true from congrArg (fun z : AlX => z.1) c)).2).2
  have e : ds.map (fun d => rowAt K (d.ad K)) = ds.map DX.row := congrArg (fun z : AlX => z.2) c
  have e2 : (ds.map fun d => rowAt K (d.ad K))[i]? = (ds.map DX.row)[i]? := by rw [e]
  rw [List.getElem?_map, List.getElem?_map, h] at e2
  exact DX.funC (Option.some.inj e2) (List.all_eq_true.mp c2 d (List.mem_of_getElem? h)) hf hd
theorem SaysX.fd (c : SaysX fa fx ds K) (i : Nat) {d : DX} (h : ds[i]? = some d := by rfl) (hf : d.fr = [] := by rfl) :
    FunD K d.nm d.ql (defArgs d.st) (defBody d.st) (defScope d.st) (d.dvs K) (d.kws K) (d.ad K) (fdD K (d.ad K)) := by
  have c2 := (He.ba (He.ba (show ((fa.all fun f => f.ok K) && ((fx.all fun f => f.ok K) && ds.all fun d => d.okB K)) = true from congrArg (fun z : AlX => z.1) c)).2).2
  have e : ds.map (fun d => rowAt K (d.ad K)) = ds.map DX.row := congrArg (fun z : AlX => z.2) c
  have e2 : (ds.map fun d => rowAt K (d.ad K))[i]? = (ds.map DX.row)[i]? := by rw [e]
  rw [List.getElem?_map, List.getElem?_map, h] at e2
  exact DX.funD (Option.some.inj e2) (List.all_eq_true.mp c2 d (List.mem_of_getElem? h)) hf
end

/-! ### constants of the top -/
abbrev SqTk (K : PySem.W.Frag) (a : Addr) (vs : List V) : Prop := ∀ H : Hp, SqT K H a vs
theorem tup_ok {K : PySem.W.Frag} {x : Str} {vs : List He.Dv} (h : (Fx.tup x vs).ok K = true) : SqTk K (gad x K) (vs.map (He.Dv.v K)) := fun H => He.tupB_ok h H
section
variable {X : Cx}
theorem pe_gi {x : Str} {i : Int} {pos : Pos} (hg : Gl X x) (h : ∃ t, X.mg x = some (.int i t)) (hd : (x == ("__debug__" : Str)) = false := by decide) : PE X (.Name x pos) (tC (.int i)) := by
  obtain ⟨t, h⟩ := h
  exact pe_glob hg h ⟨t, rfl⟩ hd
theorem pe_gs {x z : Str} {pos : Pos} (hg : Gl X x) (h : ∃ t, X.mg x = some (.str z t)) (hd : (x == ("__debug__" : Str)) = false := by decide) : PE X (.Name x pos) (tC (.str z)) := by
  obtain ⟨t, h⟩ := h
  exact pe_glob hg h ⟨t, rfl⟩ hd
theorem pe_gr {x : Str} {a : Addr} {pos : Pos} (hg : Gl X x) (h : X.mg x = some (.ref a)) (hd : (x == ("__debug__" : Str)) = false := by decide) : PE X (.Name x pos) (tC (.ref a)) := pe_glob hg h rfl hd
theorem pe_bty {x : Str} (n : String) {pos : Pos} (hg : Gl X x) (h : X.mg x = none) (hv : bootBuiltins x = some (.type n)) (hn : x ≠ "__name__" := by decide) (hd : (x == ("__debug__" : Str)) = false := by decide) : PE X (.Name x pos) (tC (.ty n)) := pe_bltn hg h hv rfl hn hd
/-! ### int(..) by the kind of its argument -/
theorem call_intI : CallR X (.type "int") (fun xs H Q => ∃ i, xs = [.int i] ∧ Q (.int i) H) := fun pins s σ H xs us Q I r ⟨i, e, q⟩ => call_int1 pins s σ H xs us Q I r (.inl ⟨i, e, q⟩)
theorem call_intB : CallR X (.type "int") (fun xs H Q => ∃ k, xs = [.bl k] ∧ Q (.int (if k then 1 else 0)) H) := fun pins s σ H xs us Q I r ⟨k, e, q⟩ => call_int1 pins s σ H xs us Q I r (.inr ⟨k, e, q⟩)
end
/-! ### what stands in a heap, found by steps (the word "hp") -/
/-- all but the objects of S are as they were -/
def Fr (S : Addr → Prop) (H H' : Hp) : Prop := ∀ a o, ¬ S a → H a = some o → H' a = some o
theorem upd_old {H : Hp} {p a : Addr} {o u : HO} (n : H p = none) (h : H a = some o) : upd H p u a = some o := by rw [upd_ne (ne_of_none h n)]; exact h
theorem upd_oth {H : Hp} {p a : Addr} {o u : HO} (n : a ≠ p) (h : H a = some o) : upd H p u a = some o := by rw [upd_ne n]; exact h
theorem upd_oldN {H : Hp} {p a : Addr} {u : HO} (n : a ≠ p) (h : H a = none) : upd H p u a = none := by rw [upd_ne n]; exact h
theorem same_get {H H' : Hp} {a : Addr} {o : HO} (e : Same H H') (h : H a = some o) : H' a = some o := e a o h
theorem iteB {c : Bool} {A B : Prop} (h1 : c = true → A) (h2 : c = false → B) : if c = true then A else B := by
  cases c with
  | true => exact iteT (h1 rfl)
  | false => exact iteF (h2 rfl)
theorem Same.upd {H H' : Hp} {p : Addr} {u : HO} (e : Same H H') (n : H p = none) : Same H (upd H' p u) := fun a o h => by rw [upd_ne (ne_of_none h n)]; exact e a o h
theorem Same.new {H : Hp} {p : Addr} {u : HO} (n : H p = none) : Same H (L2.upd H p u) := Same.upd (Same.refl H) n

/-! ### an own class's operator with a built-in value on the right -/
/-- o op i, o an instance of C, i an int -/
def rOwnI (C : Addr) (sp : Sp) (E : XK) : R2 := fun x y H Q => ∃ a dx fs i, x = .ref a ∧ H a = some (.ins C dx fs) ∧ y = .int i ∧ sp [.ref a, .int i] H Q E
theorem op_ownI {X : Cx} {CX : CXT} {op : Operator} {C m r : Str} {k : Nat} {fd : FuncData} {ps : List Str} {sp : Sp} {E : XK}
    (cl : Cls X.K (gad C X.K)) (b : (Fx.bop C m r "int").ok X.K = true) (em : PySem.dunder op.info.2 = m) (er : PySem.dunderR op.info.2 = r)
    (F : FnOk X.prog X.w X.K X.mg X.base CX k (mad C m X.K) fd ps sp) (hr : Room k X.A) (hb : Binds X.K fd ps []) (hx : Passes CX X E) : OpR X (binaryOp op) (rOwnI (gad C X.K) sp E) := by
  intro pins s σ H x y v u Q I rx ry h
  obtain ⟨a, dx, fs, i, rfl, ea, rfl, q⟩ := h
  obtain rfl : v = Value.ref a := rx
  obtain ⟨t, rfl⟩ := ry
  obtain ⟨c1, c⟩ := He.ba b
  obtain ⟨c2, c⟩ := He.ba c
  obtain ⟨c3, c⟩ := He.ba c
  obtain ⟨c4, c⟩ := He.ba c
  obtain ⟨c5, c⟩ := He.ba c
  obtain ⟨c6, c7⟩ := He.ba c
  obtain ⟨fo, h5⟩ := Option.isSome_iff_exists.mp c5
  obtain ⟨ro, h6⟩ := Option.isSome_iff_exists.mp c6
  obtain ⟨mA, O, _⟩ := ins_get I.hok ea
  obtain ⟨od, J, _⟩ := O.look
  obtain ⟨m0, Fm⟩ := I.fr
  subst em er
  refine PySem.W.ksp_binT (T := "int") Fm I.ok.mod.kin J rfl c1 (He.eqO_ok c2) c3 (He.eqO_ok c4) (.inl rfl) h5 h6 (of_decide_eq_true c7) ?_
  refine thn (run_fn (us := [.ref a, .int i t]) (vs := [.ref a, .int i]) F hr hb .nil hx I (.cons rfl (.cons ⟨t, rfl⟩ .nil)) q) fun u s' hq => ?_
  obtain ⟨z, H', I', rz, qz⟩ := hq
  have fin : EP X pins σ Q u s' := ⟨z, H', I', rz, qz⟩
  cases z with
  | non => obtain rfl : u = Value.none := rz; exact fin
  | bl _ => obtain rfl : u = Value.bool _ := rz; exact fin
  | int _ => obtain ⟨t', rfl⟩ := rz; exact fin
  | str _ => obtain ⟨t', rfl⟩ := rz; exact fin
  | byt _ => obtain ⟨t', rfl⟩ := rz; exact fin
  | flt _ => obtain ⟨t', rfl⟩ := rz; exact fin
  | ref _ => obtain rfl : u = Value.ref _ := rz; exact fin
  | ty _ => obtain rfl : u = Value.type _ := rz; exact fin

/-! ### a class called with a starred list; a def with a starred parameter -/
/-- C(*y): a new instance, __init__ with the items -/
def tMakeSt (K0 : PySem.W.Frag) (C : Addr) (sp : Sp) (E : XK) (te : TE) : TE := fun σ H Q => te σ H fun y H1 => ∃ a xs, y = V.ref a ∧ (SqT K0 H1 a xs ∨ SqL K0 H1 a xs) ∧ ∀ x dx, H1 x = none → H1 dx = none → dx ≠ x →
  sp (.ref x :: xs) (upd (upd H1 dx (.own x)) x (.ins C dx [])) (fun v H2 => v = .non ∧ Q (.ref x) H2) E
/-- .. where slot i holds the class -/
def tMakeLS (K0 : PySem.W.Frag) (i : Nat) (C : Addr) (sp : Sp) (E : XK) (te : TE) : TE := fun σ H Q => σ[i]? = some (some (.ref C)) ∧ tMakeSt K0 C sp E te σ H Q
section
variable {X : Cx} {CX : CXT} {k i : Nat} {f C : Addr} {sp : Sp} {E : XK} {x : Str} {e : Expr} {te : TE} {p q pos : Pos}
theorem pe_makeGS (M : Mk X.K C f) (F : FnR X.prog X.w X.K X.mg X.base CX k f sp) (hr : Room (k + 1) X.A) (hx : Passes CX X E) (hg : Gl X x) (hm : X.mg x = some (.ref C)) (he : PE X e te)
    (hd : (x == ("__debug__" : Str)) = false := by decide) (hst : starEach [.Starred e q] X.env = [(true, eval e X.env)] := by rfl) :
    PE X (.Call (.Name x p) [.Starred e q] [] pos) (tMakeSt X.K C sp E te) := by
  refine ⟨fun pins s σ H Q I h => ?_⟩
  refine wpAny_Call_Name_kw (ld_glob I hg hm ?_ hd)
  refine PySem.W.callWith_S (h₀ := X.base) I.ok.mod.kin M.kp (thn (he.run pins s σ H _ I h) fun v s1 ⟨y, H1, I1, ry, a, xs, ey, hxs, z⟩ => ?_) hst
  subst ey
  obtain rfl : v = Value.ref a := ry
  exact StX.star_any I1 hxs fun us s2 I2 rv => ⟨I2.kIn, StX.run_makeR M F hr hx I2 rv z⟩
theorem pe_makeLS (M : Mk X.K C f) (F : FnR X.prog X.w X.K X.mg X.base CX k f sp) (hr : Room (k + 1) X.A) (hx : Passes CX X E) (hN : X.N[i]? = some x) (hv : Vis X.env.scope x) (he : PE X e te)
    (hd : (x == ("__debug__" : Str)) = false := by decide) (hcd : (x == ("__classdict__" : Str)) = false := by decide) (hst : starEach [.Starred e q] X.env = [(true, eval e X.env)] := by rfl) :
    PE X (.Call (.Name x p) [.Starred e q] [] pos) (tMakeLS X.K i C sp E te) := by
  refine ⟨fun pins s σ H Q I h => ?_⟩
  obtain ⟨hs, h⟩ := h
  refine wpAny_Call_Name_kw (thn ((pe_var (pos := p) (i := i) hN hv hd hcd).run pins s σ H (fun v H1 => v = .ref C ∧ H1 = H) I ⟨.ref C, hs, rfl, rfl⟩) fun u s1 ⟨v, H1, I1, r1, ev, eH⟩ => ?_)
  subst ev
  rw [eH] at I1
  cases r1
  refine PySem.W.callWith_S (h₀ := X.base) I.ok.mod.kin M.kp (thn (he.run pins s1 σ H _ I1 h) fun v s2 ⟨y, H2, I2, ry, a, xs, ey, hxs, z⟩ => ?_) hst
  subst ey
  obtain rfl : v = Value.ref a := ry
  exact StX.star_any I2 hxs fun us s3 I3 rv => ⟨I3.kIn, StX.run_makeR M F hr hx I3 rv z⟩
end
section
variable {P : Program} {w : World} {K : PySem.W.Frag} {mg : Str → Option Value} {base : Heap} {CX : CXT} {k : Nat} {f : Addr} {fd : FuncData} {ps N : List Str} {sp : Sp} {x qual pv : Str} {params : Arguments} {body : List Stmt} {scope : Scope}
theorem fnr_of (F : FnOk P w K mg base CX k f fd ps sp) (hb : Binds K fd ps []) : FnR P w K mg base CX k f sp :=
  (F.raw hb .nil).imp fun vs H Q E h => by
    show sp (vs ++ []) H Q E
    rw [List.append_nil]
    exact h
/-- the promise of a def f(a, .., *v) by the promise of its body -/
def spStar (n : Nat) (sp : Sp) : Sp := fun vs H Q E => ∃ ws rest, vs = ws ++ rest ∧ ws.length = n ∧ rest.length ≤ sizeLine ∧ ∀ p, H p = none → sp (ws ++ [V.ref p]) (upd H p (.tup rest)) Q E
theorem fnr_star (F : FunD K x qual params body scope [] [] f fd) (S : FnScope N (ps ++ [pv]) scope) (hCX : StX.CXUp CX)
    (hb : ∀ (kV doc pm : Value) (an : Option Addr) (cdv ct : Value) (us rest : List Value), us.length = ps.length → bindArgs (PySem.W.fnOf x qual params body scope .none kV doc pm an cdv ct) ⟨us ++ rest, []⟩ = (newTuple rest >>= fun t => pure (ps.zip us ++ [(pv, t)])))
    (hbody : ∀ (cdv : Value) (A : Around) (outer : List Env) (s : Shared) (H : Hp) (vs : List V) (Q : VK) (E : XK), Room k (A.deeper (envOfC qual scope s.heap.objs.size f cdv)) → sp vs H Q E →
      ∃ t, PSs (cxOf CX P w K mg base N qual scope f cdv A outer s H E) body t ∧ t { nx := fun _ H' => Q .non H', rt := Q } (start N vs) H) :
    FnR P w K mg base CX (k + 1) f (spStar ps.length sp) := by
  obtain ⟨oc, od, dV, kV, doc, pm, an, cdv, ct, osl, rfl, lk, hcd, hD, _⟩ := F.ex
  rcases hD with ⟨_, rfl⟩ | ⟨e, _⟩
  · exact StX.fn_star lk hcd S hCX (fun us rest hl => hb kV doc pm an cdv ct us rest hl) fun A outer s H vs Q E hr h => hbody cdv A outer s H vs Q E hr h
  · exact absurd rfl e
end

/-! ### o[i], o[i] = e, len(o) by the class's own methods -/
structure OwnM (K : PySem.W.Frag) (C : Addr) (m : Str) (f : Addr) : Prop where
  at_ : PySem.W.findIn K (.ref C) m = some (some (.ref f))
  fn : PySem.W.isFn K (.ref f) = true
  fi : PySem.W.fnIn K f = true
  nq : PySem.W.noSeq K C = true
theorem own_ok {K : PySem.W.Frag} {C m : Str} (c : (Fx.own C m).ok K = true) : OwnM K (gad C K) m (mad C m K) := by
  obtain ⟨c1, c⟩ := He.ba c
  obtain ⟨c2, c⟩ := He.ba c
  obtain ⟨c3, c4⟩ := He.ba c
  exact ⟨He.eqO_ok c1, c2, c3, c4⟩
section
variable {X : Cx} {CX : CXT} {k : Nat} {C f : Addr} {sp : Sp} {E : XK} {a b : Expr} {ta tb : TE} {pos : Pos}
theorem run_in1 {pins : List (Addr × Obj)} {σ : L2.St} {H : Hp} {s : Shared} {Q : VK} {us : List Value} {vs : List V} (F : FnR X.prog X.w X.K X.mg X.base CX k f sp) (hr : Room (k + 1) X.A) (hx : Passes CX X E) (I : Inv X pins σ H s) (r : Vals vs us) (h : sp vs H Q E) :
    wpAny (model X.prog X.w) X.A.in1 (call (.ref f) us) (EP X pins σ Q) X.xe s := by
  refine wpAny_call (codeAny_mono (F X.A.in1 X.stack s H us vs Q E hr.in1 I.env0.in1 r h) fun r s' hq => ?_)
  cases r with
  | error e => exact hx pins σ H s e s' I hq
  | ok fl =>
    cases fl with
    | ret u => exact I.after hq
    | next => exact False.elim hq
    | brk => exact False.elim hq
    | cont => exact False.elim hq
def tIxO (C : Addr) (sp : Sp) (E : XK) (ta tb : TE) : TE := fun σ H Q => ta σ H fun x H1 => tb σ H1 fun y H2 => ∃ a dx fs, x = .ref a ∧ H2 a = some (.ins C dx fs) ∧ sp [.ref a, y] H2 Q E
theorem pe_ixO (o : OwnM X.K C "__getitem__" f) (F : FnR X.prog X.w X.K X.mg X.base CX k f sp) (hr : Room (k + 1) X.A) (hx : Passes CX X E) (ha : PE X a ta) (hb : PE X b tb)
    (hs : ∀ o i, subscripted b true o i = runValue (.builtin "lifetime.subscript" ⟨[o, i], []⟩) := by intro _ _; rfl) : PE X (.Subscript a b pos) (tIxO C sp E ta tb) := by
  refine ⟨fun pins s σ H Q I h => ?_⟩
  refine Subscript_ (binT ha hb I h fun v u s2 x y H2 I2 rx ry q => ?_)
  obtain ⟨a, dx, fs, rfl, ea, q⟩ := q
  obtain rfl : v = Value.ref a := rx
  obtain ⟨mA, O, _⟩ := ins_get I2.hok ea
  obtain ⟨od, J, _⟩ := O.look
  obtain ⟨m0, Fm⟩ := I2.fr
  exact PySem.W.sub_K Fm I2.ok.mod.kin J o.at_ o.fi o.fn (run_in1 (us := [.ref a, u]) (vs := [.ref a, y]) F hr hx I2 (.cons rfl (.cons ry .nil)) q) (hs _ _)
def rLenO (C : Addr) (sp : Sp) (E : XK) : List V → Hp → VK → Prop := fun xs H Q => ∃ a dx fs, xs = [.ref a] ∧ H a = some (.ins C dx fs) ∧ sp [.ref a] H (fun v H' => ∃ n : Nat, v = .int n ∧ n < 1000 ∧ Q (.int n) H') E
theorem call_lenO (o : OwnM X.K C "__len__" f) (F : FnR X.prog X.w X.K X.mg X.base CX k f sp) (hr : Room (k + 1) X.A) (hx : Passes CX X E) : CallR X (.builtin "len") (rLenO C sp E) := by
  intro pins s σ H xs us Q I r h
  obtain ⟨a, dx, fs, rfl, ea, q⟩ := h
  obtain ⟨u, rfl, ru⟩ := vals1 r
  obtain rfl : u = Value.ref a := ru
  obtain ⟨mA, O, _⟩ := ins_get I.hok ea
  obtain ⟨od, J, _⟩ := O.look
  obtain ⟨m0, Fm⟩ := I.fr
  refine PySem.W.len_K Fm I.ok.mod.kin J o.at_ o.fn (thn (run_in1 (us := [.ref a]) (vs := [.ref a]) F hr hx I (.cons rfl .nil) q) fun u s' hq => ?_)
  obtain ⟨z, H', I', rz, n, rfl, hn, qz⟩ := hq
  obtain ⟨t, rfl⟩ := rz
  refine ⟨⟨by omega, by omega⟩, ?_⟩
  exact ⟨.int n, H', I'.tok _, ⟨_, rfl⟩, qz⟩
def rSetO (C : Addr) (sp : Sp) (E : XK) : TSet := fun o i v H Q => ∃ a dx fs, o = .ref a ∧ H a = some (.ins C dx fs) ∧ sp [.ref a, i, v] H (fun _ H' => Q H') E
theorem set_own (o : OwnM X.K C "__setitem__" f) (F : FnR X.prog X.w X.K X.mg X.base CX k f sp) (hr : Room k X.A) (hx : Passes CX X E) : PSet X (rSetO C sp E) := by
  intro pins s σ H ov i v ou iu u Q I ro ri rv h
  obtain ⟨a, dx, fs, rfl, ea, q⟩ := h
  obtain rfl : ou = Value.ref a := ro
  obtain ⟨mA, O, _⟩ := ins_get I.hok ea
  obtain ⟨od, J, _⟩ := O.look
  obtain ⟨m0, Fm⟩ := I.fr
  refine PySem.W.ksp_setItem Fm I.ok.mod.kin J o.nq o.at_ o.fn (thn (wpAny_call (run_fnR (us := [.ref a, iu, u]) (vs := [.ref a, i, v]) F hr hx I (.cons rfl (.cons ri (.cons rv .nil))) q)) fun w s' hq => ?_)
  obtain ⟨z, H', I', rz, qz⟩ := hq
  exact ⟨H', I', qz⟩
end

/-! ### the rules that name K, for blocks of comprehensions (whose K is K) -/
section
variable {X : Cx} {K : PySem.W.Frag}
theorem ix_listK (e : X.K = K) : IxR X (rIxL K) := e ▸ ix_list
theorem ix_tupK (e : X.K = K) : IxR X (rIxT K) := e ▸ ix_tup
theorem sl_listK (e : X.K = K) : SlR X (rSlL K) := e ▸ sl_list
theorem sl_tupK (e : X.K = K) : SlR X (rSlT K) := e ▸ sl_tup
theorem op_catTK (e : X.K = K) : OpR X (binaryOp .Add) (rCatT K) := e ▸ op_catT
theorem op_in_seqK (e : X.K = K) : OpR X (compareOp .In) (rIn K false) := e ▸ op_in_seq
theorem op_notIn_seqK (e : X.K = K) : OpR X (compareOp .NotIn) (rIn K true) := e ▸ op_notIn_seq
theorem op_eqDK (e : X.K = K) (hu : X.A.units + 64 < cLine) : OpR X (compareOp .Eq) (rEqD K) := e ▸ op_eqD hu
theorem op_neDK (e : X.K = K) (hu : X.A.units + 64 < cLine) : OpR X (compareOp .NotEq) (rNeD K) := e ▸ op_neD hu
def rLn (K : PySem.W.Frag) : List V → Hp → VK → Prop := fun xs H Q => ∃ p ys, xs = [.ref p] ∧ (SqL K H p ys ∨ SqT K H p ys) ∧ Q (.int (List.length (α := V) ys : Nat)) H
theorem call_len_seqK (e : X.K = K) : CallR X (.builtin "len") (rLn K) := e ▸ call_len_seq
def rLo (K : PySem.W.Frag) : List V → Hp → VK → Prop := fun xs H Q => ∃ p ys, xs = [.ref p] ∧ (SqL K H p ys ∨ SqT K H p ys) ∧ ∀ l, H l = none → Q (.ref l) (upd H l (.lst ys))
theorem call_list_ofK (e : X.K = K) : CallR X (.type "list") (rLo K) := e ▸ call_list_of
theorem call_isiK' (e : X.K = K) : CallR X (.builtin "isinstance") (rIsi K) := e ▸ call_isi
theorem pe_fldK {e : Expr} {f : Str} {ta : TE} {pos : Pos} (ek : X.K = K) (he : PE X e ta) (hb : attributeBase e f X.env (eval e X.env) = eval e X.env) : PE X (.Attribute e f pos) (tFld K ta f) := ek ▸ pe_fld he hb
theorem pi_listK {l tg : Expr} {tl : TE} (e : X.K = K) (hl : PE X l tl) : PI X tg l (iList K tl) := e ▸ pi_list hl
theorem pi_tupK {l tg : Expr} {tl : TE} (e : X.K = K) (hl : PE X l tl) : PI X tg l (iTup K tl) := e ▸ pi_tup hl
end
end Hue

set_option Elab.async false
set_option linter.all false
set_option maxRecDepth 100000
set_option maxHeartbeats 4000000
/-! try .. except X as e: suite, where e is tracked as a value; defs called in such a suite; isinstance of such a value. -/
namespace Hue
open PySem PySem.Spec PyProof.Rows L2

/-- a caught error of the class cls at a, its own dict at d -/
def Exn (cls : Value) (d : Option Addr) (a : Addr) : HO := .ext fun h => ∃ (oe : Obj) (vs : Array Value), h.get? a = some oe ∧ Zc cls d oe ∧ oe.data = .fields vs
theorem exn_ok {P : Program} {w : World} {H : Hp} {h : Heap} {a : Addr} {cls : Value} {d : Option Addr} {oe : Obj} {vs : Array Value} (e : h.get? a = some oe) (z : Zc cls d oe) (q : oe.data = .fields vs) : ObjOk P w H h a (Exn cls d a) :=
  ⟨⟨oe, vs, e, z, q⟩, ⟨oe, e⟩, fun _ _ ⟨o, v, q, r⟩ k => ⟨o, v, k o q, r⟩⟩
section
variable {X : Cx} {pins : List (Addr × Obj)} {σ : L2.St} {H : Hp} {sI s s' : Shared} {B : Heap} {a : Addr}
theorem landedX {cls : Value} {d : Option Addr} {oe : Obj} {vs : Array Value} (I : Inv X pins σ H sI) (nb : ∀ b o, sI.heap.get? b = some o → b ∉ frs X.stack → B.get? b = some o) (st : B.StaysIn s'.heap) (up : sI.heap.UpToSlots s'.heap) (os : s'.os = sI.os) (ag : AllBare s'.gens)
    (hne : sI.heap.get? a = none) (na : H a = none) (e : s'.heap.get? a = some oe) (z : Zc cls d oe) (q : oe.data = .fields vs) : Inv X pins σ (upd H a (Exn cls d a)) s' := by
  have nf : ∀ b ∈ frs X.stack, ∀ o, sI.heap.get? b = some o → ∃ sl, s'.heap.get? b = some { o with slots := sl } := fun b hb o e => by
    obtain ⟨_, o', e', hd⟩ := I.stack.mem hb
    rw [e] at e'; cases e'
    exact up b o e hd
  have ne : ∀ b o, sI.heap.get? b = some o → b ≠ a := fun b o e z => by rw [z, hne] at e; cases e
  have hokS : HOk X.prog X.w H s'.heap := (I.inGround nb).kept st
  have J := I.call (ch := []) (h' := s'.heap) (g' := s'.gens) (t' := s'.toks) (d' := s'.drawn) (H' := upd H a (Exn cls d a))
    ⟨fun b o e _ hb _ => st b o (nb b o e hb), fun b o e _ hb _ => nf b hb o e, fun b o e n _ => by rw [upd_ne (ne b o e)]; exact n, fun b o e _ => by
      by_cases hb : b ∈ frs X.stack
      · obtain ⟨sl, q⟩ := nf b hb o e
        exact ⟨_, q⟩
      · exact ⟨o, st b o (nb b o e hb)⟩, fun b xs e => by rw [upd_ne (ne_of_none e na)]; exact e, fun b o u e => by rw [upd_ne (ne_of_none e na)]; exact e, fun b ps e => ⟨#[], by rw [upd_ne (ne_of_none e na), e]; simp⟩⟩
    (HOk.laidN hokS (fun _ _ z => z) na (exn_ok e z q)) ag (fun _ z => nomatch z)
  obtain ⟨a1, a2, a3, a4, a5⟩ := s'
  have e5 : a5 = sI.os := os
  subst e5
  exact J
theorem toSuite (I : Inv X pins σ H s) (a : Addr) : Inv (X.suite a (X.pn ++ pins)) [] σ H s :=
  ⟨I.ok.suite _ _, I.os, I.bare, I.base, I.loc, I.cell, I.free, I.freeC, fun p hp => I.pin p (by rw [List.append_nil] at hp; exact hp), I.hok, I.len⟩
theorem ofSuite {pn' : List (Addr × Obj)} (I : Inv (X.suite a (X.pn ++ pins)) pn' σ H s) (ok : X.Ok) : Inv X pins σ H s :=
  ⟨ok, I.os, I.bare, I.base, I.loc, I.cell, I.free, I.freeC, fun p hp => I.pin p (List.mem_append_left _ hp), I.hok, I.len⟩
end
/-- what the clause 'except x as n' wishes of an exception of the body -/
def wTry (K : PySem.W.Frag) (c : Value) (i : Nat) (ts : TS) (Wout : WX) (D : Ends) : WX := fun cls d σ H =>
  ∃ b, PySem.W.exmOne K cls c = some b ∧ (b = true → ∀ a, H a = none → ts { nx := fun σ' H' => D.nx (σ'.set i none) H', rt := D.rt, bk := fun σ' H' => D.bk (σ'.set i none) H', ct := fun σ' H' => D.ct (σ'.set i none) H' } (σ.set i (some (.ref a))) (upd H a (Exn cls d a))) ∧
    (b = false → Wout cls d σ H)
section
variable {X : Cx} {x n : Str} {c : Value} {i : Nat} {body suite : List Stmt} {b₀ : Stmt} {np pos pos' : Pos} {tb : WX → TS} {ts : TS} {Wout : WX}
theorem ps_try_val (hs : X.stack = X.env :: X.outer) (hf : X.env.frame = some X.env.locals) (hN : X.N.Nodup) (hi : X.N[i]? = some n) (hln : X.env.kindOf n = some .local) (hc : Names X x c) (tk : Takes X Wout)
    (hb : ∀ (W : WX) (pn : List (Addr × Obj)) (xe : Value → Shared → Prop), Takes (X.tr pn xe) W → PassesOwn (model X.prog X.w) X.A X.env xe → PSs (X.tr pn xe) body (tb W))
    (hsu : ∀ (a : Addr) (pn : List (Addr × Obj)), PSs (X.suite a pn) (b₀ :: suite) ts) :
    PS X (.Try body [.ExceptHandler (some (.Name x np)) (some n) (b₀ :: suite) pos'] [] [] pos) (fun D σ H => tb (wTry X.K c i ts Wout D) D σ H) := by
  refine ⟨fun pins s σ H D I h => ?_⟩
  have ok := I.ok
  have hfr : X.A.frames = some (X.env :: X.outer) := by rw [ok.frames, hs]
  have hloc : Loc X.env.scope n := .inl hln
  refine wpAny_Try_except ?_
  refine wpAny_mono ((hb (wTry X.K c i ts Wout D) (X.pn ++ pins) (fun e s₁ => wpAny (model X.prog X.w) X.A (noteFrame e X.env) (fun _ s₂ => wpAny (model X.prog X.w) X.A (setFlight e none) (fun _ s₃ =>
    wpAny (model X.prog X.w) X.A (handleBy e X.env [.ExceptHandler (some (.Name x np)) (some n) (b₀ :: suite) pos']) (SP X pins D) X.xe s₃) X.xe s₂) X.xe s₁) (fun u s' xx => ?_) PassesOwn.looking).run [] s σ H D (I.toTry _) h) (fun f s1 hsp => ?_) (fun e s1 he => he)
  · obtain ⟨a, B, sI, pins', σ', H', cls, d, rfl, J', nb, up, sky, na, os, ag, b, hb1, hyes, hno⟩ := xx
    have J : Inv X pins σ' H' sI := J'.ofTry ok
    have sky' : Sky B (X.env :: X.outer) a (Zc cls d) X.env.locals s'.heap := by rw [← hs]; exact sky
    show wpAny (model X.prog X.w) X.A (noteFrame (.ref a) X.env) _ _ _
    refine Sky.land Zc.steady hfr hf sky' fun h3 fl3 up3 => ?_
    have J3 : Inv X pins σ' H' { s' with heap := h3 } := J.landed nb fl3.1 (up.trans up3) os ag
    obtain ⟨oe3, vs3, he3, hz3, hd3⟩ := fl3.there
    have notFr : ∀ {h : Heap} {o : Obj} {vs : Array Value}, h.FunFrames B (X.env :: X.outer) → h.get? a = some o → o.data = .fields vs → a ∉ frs (X.env :: X.outer) := fun {h o vs} ff e dd hm => by
      obtain ⟨_, o', e', hnf⟩ := ff.mem hm
      rw [e] at e'; cases e'
      exact hnf _ dd
    have nfr := notFr fl3.2.2.1 he3 hd3
    have nI : sI.heap.get? a = none := by
      cases q : sI.heap.get? a with
      | none => rfl
      | some o =>
        have z := nb a o q (by rw [hs]; exact nfr)
        rw [fl3.2.1] at z
        cases z
    have S3 := toSuite J3 a
    refine wpAny_handleBy_cons (codeAny_handlers_test ?_) (by intro q; cases q)
    have LT : PySem.W.Looks (model X.prog X.w) h3 (typeOf (.ref a)) cls := fun A Q E s k q => wpAny_typeOf_ref (k _ _ he3) (by rw [hz3.1]; exact q)
    have LM := PySem.W.exm_one (M := model X.prog X.w) (J3.kIn) LT hb1
    have test : ∀ {Q : Value → Shared → Prop} {E : Value → Shared → Prop}, Q c { s' with heap := h3 } → wpAny (model X.prog X.w) (X.A.mark (some (.ref a))) (eval (.Name x np) X.env) Q E { s' with heap := h3 } := fun {Q E} q => by
      obtain ⟨hg, hdbg, hm | ⟨hm, hv, hnn⟩⟩ := hc
      · exact ld_glob (X := X.suite a (X.pn ++ pins)) S3 hg hm q hdbg
      · exact ld_blt (X := X.suite a (X.pn ++ pins)) S3 hg hm hv q hnn hdbg
    refine test (LM.here ?_)
    cases b with
    | true =>
      refine codeAny_handlers_suite_as ?_
      refine HandSPX.lands_againZ fl3 fun h4 fl4 up4 => ?_
      obtain ⟨oe4, vs4, he4, hz4, hd4⟩ := fl4.there
      have J4 : Inv X pins σ' (upd H' a (Exn cls d a)) { s' with heap := h4 } := landedX J nb fl4.1 ((up.trans up3).trans up4) os ag nI na he4 hz4 hd4
      have S4 := toSuite J4 a
      refine store_ok (X := X.suite a (X.pn ++ pins)) (v := .ref a) S4 hN hi hloc rfl (fun s5 S5 => ?_) (.inr hln)
      refine wpAny_mono ((hsu a (X.pn ++ pins)).run [] s5 _ _ _ S5 (hyes rfl a na)) (fun f s6 hsp => ?_) (fun _ _ z => False.elim z)
      have end_ : ∀ {σ6 : L2.St} {H6 : Hp} {Q : Shared → Prop}, Inv (X.suite a (X.pn ++ pins)) [] σ6 H6 s6 → (∀ s7, Inv X pins (σ6.set i none) H6 s7 → Q s7) →
          wpAny (model X.prog X.w) X.A (do bindName X.env n .none; unbindBehindTheSuite X.env n pos') (fun _ s7 => Q s7) X.xe s6 := fun {σ6 H6 Q} S6 hq => gone_ok (ofSuite S6 ok) hN hi hln hq
      cases f with
      | next =>
        obtain ⟨σ6, H6, S6, q6⟩ := hsp
        exact end_ S6 fun s7 J7 => ⟨_, _, J7, q6⟩
      | brk =>
        obtain ⟨σ6, H6, S6, q6⟩ := hsp
        exact end_ S6 fun s7 J7 => ⟨_, _, J7, q6⟩
      | cont =>
        obtain ⟨σ6, H6, S6, q6⟩ := hsp
        exact end_ S6 fun s7 J7 => ⟨_, _, J7, q6⟩
      | ret u =>
        obtain ⟨v6, σ6, H6, S6, r6, q6⟩ := hsp
        exact end_ S6 fun s7 J7 => ⟨_, _, _, J7, r6, q6⟩
    | false =>
      show wpAny _ X.A (handleBy (.ref a) X.env []) _ _ _
      refine wpAny_handleBy_nil ?_
      obtain ⟨k1, k2, k3, oe, vs, T, oT, ts', he, hz, hd, h1, hr⟩ := id fl3
      unfold PySem.passOn
      refine wpAny_bind (wpAny_field he hd h1 ?_)
      rw [if_neg (show ¬ ((Value.ref T == Value.none) = true) from by simp)]
      have fin : wpAny (model X.prog X.w) X.A (setFlight (.ref a) X.env.frame) (fun _ s4 => wpAny (model X.prog X.w) X.A (throw (.ref a) : Sem Flow) (SP X pins D) X.xe s4) X.xe { s' with heap := h3 } := by
        rw [hf]
        refine HandSPX.setFlight_upZ fl3 fun h4 hh4 up4 => wpAny_throw (tk _ _ ?_)
        exact ⟨a, B, sI, pins, σ', H', cls, d, rfl, J, nb, (up.trans up3).trans up4, .inr (.inr (by rw [hs]; exact hh4)), na, os, ag, hno rfl⟩
      first
        | exact wpAny_bind (wpAny_pure (wpAny_bind fin))
        | exact wpAny_bind fin
  · cases f with
    | next =>
      obtain ⟨σ', H', J', q⟩ := hsp
      exact wpAny_execs_nil ⟨σ', H', J'.ofTry ok, q⟩
    | brk =>
      obtain ⟨σ', H', J', q⟩ := hsp
      exact ⟨σ', H', J'.ofTry ok, q⟩
    | cont =>
      obtain ⟨σ', H', J', q⟩ := hsp
      exact ⟨σ', H', J'.ofTry ok, q⟩
    | ret u =>
      obtain ⟨v, σ', H', J', r, q⟩ := hsp
      exact ⟨v, σ', H', J'.ofTry ok, r, q⟩
end
/-- no exception leaves: nothing is asked of Wout -/
theorem takes0 {X : Cx} : Takes X (fun _ _ _ _ => False) := fun _ _ ⟨_, _, _, _, _, _, _, _, _, _, _, _, _, _, _, _, w⟩ => w.elim
/-- a call in a try's body: what it may let out is wished of all slots -/
def eT (n : Nat) (W : WX) : XK := fun cls d H => ∀ σ : L2.St, σ.length = n → W cls d σ H
theorem passT {X : Cx} {W : WX} {N : List Str} (tk : Takes X W) (hN : X.N = N) : Passes (L2.CX X.prog X.w) X (eT N.length W) :=
  fun _ σ _ _ e s' I c => tk e s' (XE.of_call I (fun _ _ _ h => h σ (by rw [← hN]; exact I.len)) c)

/-! ### defs called in an except suite -/
def cxS (P : Program) (w : World) (K : PySem.W.Frag) (mg : Str → Option Value) (base : Heap) (N : List Str) (qual : Str) (scope : Scope) (f : Addr) (cd : Value) (A : Around) (outer : List Env) (s : Shared) (H : Hp) (E : XK) : Cx :=
  { cxOf CX0 P w K mg base N qual scope f cd A outer s H E with calm := false, xe := fun _ _ => False }
structure FnS (P : Program) (w : World) (K : PySem.W.Frag) (mg : Str → Option Value) (base : Heap) (k : Nat) (f : Addr) (fd : FuncData) (ps : List Str) (sp : Sp) : Prop where
  len : ∀ vs H Q E, sp vs H Q E → vs.length = ps.length
  run : ∀ (A : Around) (outer : List Env) (s : Shared) (H : Hp) (args : Args) (us : List Value) (vs : List V) (Q : VK) (E : XK), L2H.RoomH k A → Env0 P w K mg base A outer s H → BindsTo s fd args (ps.zip us) → Vals vs us → sp vs H Q E →
    codeAny (model P w) A (.call (.ref f) args) (CR CX0 outer P w H s Q E) s
theorem roomS {k : Nat} {A : Around} {v : Option Value} (r : Room k A) : L2H.RoomH k (A.mark v) := ⟨r.dp, r.un⟩
theorem inv_startS {P : Program} {w : World} {K : PySem.W.Frag} {mg : Str → Option Value} {base : Heap} {N ps : List Str} {qual : Str} {scope : Scope} {f : Addr} {cd : Value} {A : Around} {outer : List Env} {s s1 : Shared} {H : Hp} {E : XK} {us : List Value} {vs : List V}
    (S : FnScope N ps scope) (e0 : Env0 P w K mg base A outer s H) (hl : vs.length = ps.length) (r : Vals vs us)
    (x : InCallC s s.heap.objs.size (bindL (envOfC qual scope s.heap.objs.size f cd).kindOf (ps.zip us) fun _ => none) (cellsFrom (s.heap.objs.size + 1) scope.names []) (bindC (envOfC qual scope s.heap.objs.size f cd).kindOf (ps.zip us) fun _ => none) s1) :
    Inv (cxS P w K mg base N qual scope f cd A outer s H E) [] (L2.start N vs) H s1 := by
  have hpl : ps.length ≤ N.length := by have := congrArg List.length S.pre; rw [List.length_take] at this; omega
  obtain ⟨h1, tk, rfl, hk⟩ := x.done
  have noA : ∀ b : Addr, b ∉ (cxS P w K mg base N qual scope f cd A outer s H E).ex := fun b z => absurd (show b ∈ ([] : List Addr) from z) (by simp)
  refine ⟨⟨e0.mod, S.kind, rfl, rfl, Nat.le_refl _, fun y z c h1 h2 => ?_, fun y hy => ?_, fun y c _ h => ?_, (fun z => Bool.noConfusion (show false = true from z)), Around.frames_deeper e0.frames, .inr ⟨rfl, rfl⟩, fun b z => absurd z (noA b), e0.bs, e0.bsz, fun b _ _ => noA b, fun b z => absurd z (noA b), e0.funs, e0.frf⟩,
    rfl, e0.bare, Un.kept hk, ⟨_, x.toInCall.ns, fun i y v h1 h2 h3 => ?_⟩, fun y c h => ⟨_, x.cell y c h⟩, e0.hok.fresh (Nat.le_refl _), fun y c h => ?_, fun q hq => ?_, e0.hok.kept hk, ?_⟩
  · exact name_of_addr x.apart (PySem.mem_of_lookup h1) (PySem.mem_of_lookup h2)
  · have hy : scope.names.lookup y = some .cell ∨ scope.names.lookup y = some .free := hy
    rcases hy with hy | hy
    · exact cell_has hy
    · exact absurd rfl (S.nofree _ (PySem.mem_of_lookup hy))
  · exact Nat.le_of_lt (x.above y c (PySem.mem_of_lookup h))
  · have hi : i < vs.length := by
      unfold L2.start at h2
      by_cases hi : i < vs.length
      · exact hi
      · rw [List.getElem?_append_right (by simpa using hi)] at h2
        rw [List.getElem?_replicate] at h2
        split at h2 <;> cases h2
    have ha : vs[i]? = some v := by
      unfold L2.start at h2
      rw [List.getElem?_append_left (by simpa using hi), List.getElem?_map] at h2
      cases e : vs[i]? with
      | none => rw [e] at h2; cases h2
      | some a => rw [e] at h2; cases h2; rfl
    obtain ⟨u, hu, rv⟩ := r.get ha
    have hp : ps[i]? = some y := by
      rw [← S.pre, List.getElem?_take_of_lt (by omega)]; exact h1
    have ndP : ps.Nodup := by rw [← S.pre]; exact S.nd.sublist (List.take_sublist _ _)
    refine ⟨u, rv, ?_⟩
    rcases S.par y (List.mem_of_getElem? hp) with k | k
    · exact .inl ⟨k, bindL_get ndP hp hu k⟩
    · obtain ⟨c, e⟩ := cell_has (n := s.heap.objs.size + 1) k
      refine .inr ⟨.inl k, c, e, ?_⟩
      have q := x.cell y c e
      rw [bindC_get ndP hp hu (by show scope.names.lookup y ≠ _; rw [k]; decide)] at q
      exact q
  · exact e0.hok.fresh (Nat.le_of_lt (x.above y c (PySem.mem_of_lookup h)))
  · exact absurd (show q ∈ ([] : List (Addr × Obj)) ++ ([] : List (Addr × Obj)) from hq) (by simp)
  · unfold L2.start
    show _ = N.length
    rw [List.length_append, List.length_map, List.length_replicate]
    omega
theorem fnS_of {P : Program} {w : World} {K : PySem.W.Frag} {mg : Str → Option Value} {base : Heap} {k : Nat} {f : Addr} {fd : FuncData} {name qual : Str} {params : Arguments} {body : List Stmt} {scope : Scope} {dvs : List V} {kws : List (Str × V)}
    {N ps : List Str} {sp : Sp} (F : FunD K name qual params body scope dvs kws f fd) (S : FnScope N ps scope)
    (len : ∀ vs H Q E, sp vs H Q E → vs.length = ps.length)
    (hbody : ∀ (cdv : Value) (A : Around) (outer : List Env) (s : Shared) (H : Hp) (vs : List V) (Q : VK) (E : XK), L2H.RoomH k (A.deeper (envOfC qual scope s.heap.objs.size f cdv)) → sp vs H Q E →
      ∃ t, PSs (cxS P w K mg base N qual scope f cdv A outer s H E) body t ∧ t { nx := fun _ H' => Q .non H', rt := Q } (L2.start N vs) H) :
    FnS P w K mg base (k + 1) f fd ps sp := by
  obtain ⟨oc, od, dV, kV, doc, pm, an, cdv, ct, osl, rfl, lk, hcd, _, _⟩ := F.ex
  refine ⟨len, fun A outer s H args us vs Q E hr e0 hb r hsp => ?_⟩
  have hl := len _ _ _ _ hsp
  have KX : K.In s.heap := e0.mod.kin.keeps fun b o e => (e0.bs b o e).1
  have lim : s.heap.NoLimit := e0.mod.nolimit.keeps fun b o e => (e0.bs b o e).1
  have hkind : ∀ y ∈ ps.zip us, scope.names.lookup y.1 = some .local ∨ (scope.names.lookup y.1 = some .cell ∧ ((cellsFrom (s.heap.objs.size + 1) scope.names []).lookup y.1).isSome = true) := fun ⟨n, v⟩ hy => by
    rcases S.par n (List.of_mem_zip hy).1 with q | q
    · exact .inl q
    · exact .inr ⟨q, PySem.W.cellsFrom_some _ _ _ (.inl q)⟩
  refine codeAny_call_function hr.depth (KX _ _ lk) rfl S.co S.gen rfl (PySem.W.codeRec_of KX hcd) (hb _ _ _ _ ?_)
  refine wpAny_newFunctionEnv_cells S.kind hkind fun env he s1 x => ?_
  subst he
  refine ⟨lim.keeps x.toInCall.keep, codeAny_func ?_⟩
  obtain ⟨t, ht, hq⟩ := hbody cdv A outer s H vs Q E (hr.deeper _) hsp
  have I : Inv (cxS P w K mg base N qual scope f cdv A outer s H E) [] (L2.start N vs) H s1 := inv_startS S e0 hl r x
  refine wpAny_mono (ht.run [] s1 (L2.start N vs) H _ I hq) (fun fl s' hs => ?_) fun e s' hs => False.elim hs
  have fin : ∀ {σ' : L2.St} {H' : Hp} {v : V} {u : Value}, Inv (cxS P w K mg base N qual scope f cdv A outer s H E) [] σ' H' s' → RelV v u → Q v H' → CE outer P w H s Q u s' :=
    fun {σ' H' v u} J rv q => ⟨v, H', J.os, J.bare, J.base, J.hok, rv, q⟩
  cases fl with
  | ret u =>
    obtain ⟨v, σ', H', J, rv, q⟩ := hs
    exact fin J rv q
  | next =>
    obtain ⟨σ', H', J, q⟩ := hs
    exact fin (v := V.non) (u := Value.none) J rfl q
  | brk =>
    obtain ⟨_, _, _, q⟩ := hs
    exact False.elim q
  | cont =>
    obtain ⟨_, _, _, q⟩ := hs
    exact False.elim q
section
variable {X : Cx} {k : Nat} {f C : Addr} {fd : FuncData} {ps : List Str} {sp : Sp} {E : XK} {x m : Str} {q pos apos : Pos} {e o : Expr} {es : List Expr} {ta : TE} {t : TA}
theorem run_fnX {pins : List (Addr × Obj)} {σ : L2.St} {H : Hp} {s : Shared} {Q : VK} {us : List Value} {vs : List V} (F : FnS X.prog X.w X.K X.mg X.base k f fd ps sp) (hr : L2H.RoomH k X.A) (hb : Binds X.K fd ps [])
    (I : Inv X pins σ H s) (r : Vals vs us) (h : sp vs H Q E) : wpAny (model X.prog X.w) X.A (call (.ref f) us) (EP X pins σ Q) X.xe s := by
  have hl : us.length = ps.length := by rw [← r.length]; exact F.len _ _ _ _ h
  have b := hb s us I.kIn (by rw [List.append_nil]; exact hl)
  rw [List.append_nil] at b
  refine wpAny_call (codeAny_mono (F.run X.A X.stack s H ⟨us, []⟩ us vs Q E hr I.env0 b r h) fun r s' hq => ?_)
  cases r with
  | error e => exact hq.elim
  | ok fl =>
    cases fl with
    | ret u => exact I.after hq
    | next => exact False.elim hq
    | brk => exact False.elim hq
    | cont => exact False.elim hq
theorem pe_callX (F : FnS X.prog X.w X.K X.mg X.base k f fd ps sp) (hr : L2H.RoomH k X.A) (hg : Gl X x) (hm : X.mg x = some (.ref f)) (hk : PySem.W.keepIn X.K (.ref f) = true) (hb : Binds X.K fd ps [])
    (ha : PA X (e :: es) t) (hdb : (x == ("__debug__" : Str)) = false := by decide) (he : starEach (e :: es) X.env = (false, eval e X.env) :: starEach es X.env := by rfl) (hpl : (backTo pos (starEach es X.env)).any (·.1) = false := by rfl) :
    PE X (.Call (.Name x q) (e :: es) [] pos) (fun σ H Q => t σ H fun vs H1 => sp vs H1 Q E0) := by
  refine ⟨fun pins s σ H Q I h => ?_⟩
  refine wpAny_Call_Name_kw (ld_glob I hg hm ?_ hdb)
  refine PySem.W.callWith_K (h₀ := X.base) I.ok.mod.kin hk (thn (ha.run pos pins s σ H _ I h) fun us s1 ⟨vs, H1, I1, r, q⟩ => ⟨I1.kIn, ?_⟩) he hpl
  exact run_fnX F hr hb I1 r q
end

/-! ### isinstance of a caught error -/
/-- isinstance(e, c) -/
def rIsX (K : PySem.W.Frag) (D : Addr) : List V → Hp → VK → Prop := fun xs H Q => ∃ (a : Addr) (c : V) (u : Value) (b : Bool), xs = [.ref a, c] ∧ H a = some (Exn (.ref D) none a) ∧ ClsV c u ∧ PySem.W.kitOne K (.ref D) u = some b ∧ Q (.bl b) H
def rIsXT (K : PySem.W.Frag) (D : Addr) : List V → Hp → VK → Prop := fun xs H Q => ∃ (a tp : Addr) (cs : List V) (us : List Value) (b : Bool), xs = [.ref a, .ref tp] ∧ H a = some (Exn (.ref D) none a) ∧ H tp = some (.tup cs) ∧ Paired ClsV cs us ∧ PySem.W.kitAny K (.ref D) us = some b ∧ Q (.bl b) H
section
variable {X : Cx} {D : Addr} {pins : List (Addr × Obj)} {σ : L2.St} {H : Hp} {s : Shared}
theorem exn_at {a : Addr} {cls : Value} {d : Option Addr} (I : Inv X pins σ H s) (h : H a = some (Exn cls d a)) : ∃ (oe : Obj) (vs : Array Value), s.heap.get? a = some oe ∧ Zc cls d oe ∧ oe.data = .fields vs := (I.hok a _ h).1
theorem exn_inst {a : Addr} (I : Inv X pins σ H s) (h : H a = some (Exn (.ref D) none a)) : ∃ oe, PySem.W.InstAt s.heap a oe D none := by
  obtain ⟨oe, vs, hget, hz, hv⟩ := exn_at I h
  refine ⟨oe, ?_⟩
  obtain ⟨oc, od, oda, osl⟩ := oe
  obtain ⟨h1, h2⟩ := hz
  dsimp only at h1 h2 hv
  subst h1 h2 hv
  exact ⟨hget, rfl, rfl, trivial⟩
theorem call_isX (C : ExcC X.K D) : CallR X (.builtin "isinstance") (rIsX X.K D) := by
  intro pins s σ H xs us Q I r h
  obtain ⟨a, c, u, b, rfl, ha, hcv, e, q⟩ := h
  obtain ⟨u1, u2, rfl, r1, r2⟩ := vals2 r
  obtain rfl : u1 = Value.ref a := r1
  have ec := hcv.eq r2
  subst ec
  obtain ⟨oe, J⟩ := exn_inst I ha
  exact PySem.W.kia_one (PySem.W.handS_kitx_exc C.hg C.hk C.hs C.hd C.ha C.hn C.ht C.hm) I.kIn J e (fun z => nomatch z) fun tk => ⟨.bl b, H, I.tok tk, rfl, q⟩
theorem call_isXT (C : ExcC X.K D) : CallR X (.builtin "isinstance") (rIsXT X.K D) := by
  intro pins s σ H xs us Q I r h
  obtain ⟨a, tp, cs, ws, b, rfl, ha, hT, k, e, q⟩ := h
  obtain ⟨u1, u2, rfl, r1, r2⟩ := vals2 r
  obtain rfl : u1 = Value.ref a := r1
  cases (show u2 = Value.ref tp from r2)
  obtain ⟨oe, J⟩ := exn_inst I ha
  obtain ⟨_, its, rv, o, h1, h2, n, h3⟩ := (show ObjOk X.prog X.w H s.heap tp (.tup cs) from I.hok tp _ hT)
  have e3 := ClsV.all k rv
  subst e3
  obtain ⟨oc, od, dt, sl⟩ := o
  simp only at h2 h3
  subst h2 h3
  exact PySem.W.kia_tup (PySem.W.handS_kitx_exc C.hg C.hk C.hs C.hd C.ha C.hn C.ht C.hm) I.kIn J h1 e (fun z => nomatch z) fun tk => ⟨.bl b, H, I.tok tk, rfl, q⟩
end
/-! ### own == and its reflection; str(o) -/
section
variable {prog : Program} {w : World} {A : Around} {E : Value → Shared → Prop} {s : Shared} {K : PySem.W.Frag} {y C f : Addr} {oy : Obj} {od : Option Obj} {h₀ : Heap} {L : Addr} {m : Str → Option Value} {x : Value}
theorem decl_none {Q : Value → Shared → Prop} (h : Q .notImplemented s) : wpAny (model prog w) A (call (.builtin "NoneType.__eq__") [.none, .ref y]) Q E s :=
  call_gives F.slot_NoneType_eq_refl rfl F.entry_NoneType_eq (F.args_NoneType_eq_2 _ _) (PySem.SeqAt.NoneType___eq___none_ref_0 y) h
theorem decl_str {z : Str} {t : Tok} {Q : Value → Shared → Prop} (hg : s.heap.get? y = some oy) (hp : oy.data = .plain) (h : Q .notImplemented s) : wpAny (model prog w) A (call (.builtin "str.__eq__") [.str z t, .ref y]) Q E s := by
  refine GQ.call_here F.slot_str_eq (typeIs_str s z t) F.entry_str_eq (F.args_str_eq_2 _ _) ?_
  obtain ⟨c, d, dt, sl⟩ := oy
  dsimp only at hp
  subst hp
  obtain ⟨hp, g, d, tk, os⟩ := s
  wp_walk
  exact h
theorem decl_tup {l : Addr} {Q : Value → Shared → Prop} (hT : s.TypeIs (.ref l) "tuple") (X : K.In s.heap) (I : PySem.W.InstAt s.heap y oy C od) (hs : PySem.W.subIn K (.ref C) (.type "tuple") = some false) (h : Q .notImplemented s) :
    wpAny (model prog w) A (call (.builtin "tuple.__eq__") [.ref l, .ref y]) Q E s := by
  refine GQ.call_here F.slot_tuple_eq hT F.entry_tuple_eq (F.args_tuple_eq_2 _ _) ?_
  have LI : PySem.W.Looks (model prog w) s.heap (isInstance (.ref y) (.type "tuple")) false := I.type.andThen (PySem.W.looks_subIn X hs)
  obtain ⟨hp, g, d, tk, os⟩ := s
  wp_walk using LI.here
  exact h
theorem decl_lst {l : Addr} {Q : Value → Shared → Prop} (hT : s.TypeIs (.ref l) "list") (X : K.In s.heap) (I : PySem.W.InstAt s.heap y oy C od) (hs : PySem.W.subIn K (.ref C) (.type "list") = some false) (h : Q .notImplemented s) :
    wpAny (model prog w) A (call (.builtin "list.__eq__") [.ref l, .ref y]) Q E s := by
  refine GQ.call_here F.slot_list_eq hT F.entry_list_eq (F.args_list_eq_2 _ _) ?_
  have LI : PySem.W.Looks (model prog w) s.heap (isInstance (.ref y) (.type "list")) false := I.type.andThen (PySem.W.looks_subIn X hs)
  obtain ⟨hp, g, d, tk, os⟩ := s
  wp_walk using LI.here
  exact h
theorem rc_refl {T id : String} {Q : Value → Shared → Prop} (hu : A.units < cLine) (Fm : PyProof.Rows.Fr h₀ L s.heap m) (X₀ : K.In h₀) (I : PySem.W.InstAt s.heap y oy C od) (hT : s.TypeIs x T) (slot : Slot T "__eq__" id)
    (hd : ∀ Q : Value → Shared → Prop, Q .notImplemented s → wpAny (model prog w) A (call (.builtin id) [x, .ref y]) Q E s) (hsub : PySem.W.subIn K (.ref C) (.type T) = some false)
    (hs : PySem.W.findIn K (.ref C) "__eq__" = some (some (.ref f))) (hf : PySem.W.isFn K (.ref f) = true)
    (h : wpAny (model prog w) A (call (.ref f) [.ref y, x]) (PySem.W.CmpBack Q) E s) : wpAny (model prog w) A (richCompare .Eq x (.ref y)) Q E s := by
  have X := X₀.keeps Fm.keep
  have one : wpAny (model prog w) A (tryCompare x "__eq__" (.ref y)) (fun r s' => r = none ∧ s' = s) E s := wpAny_tryCompare_declines hT slot (hd _ ⟨rfl, rfl, rfl⟩)
  have two : wpAny (model prog w) A (tryCompare (.ref y) "__eq__" x) (fun r s' => ∃ v, r = some v ∧ Q v s') E s := by
    unfold tryCompare
    refine wpAny_bind (PySem.W.ifBound_K X I hs hf (wpAny_mono h (fun v s' hv => ?_) fun _ _ e => e))
    cases v <;> first | exact hv.elim | exact wpAny_pure ⟨_, rfl, hv⟩
  simp only [richCompare, cmpInfo_Eq, hT.oneThing_none]
  refine wpAny_holding (wpAny_bind (wpAny_cRoomFor hu ?_))
  refine wpAny_bind (wpAny_typeOf hT ?_)
  refine wpAny_bind (I.type.here ?_)
  split
  · refine wpAny_bind ((PySem.W.looks_subIn X hsub).here ?_)
    simp only [Bool.false_eq_true, if_false, Bool.not_false, if_true]
    refine wpAny_bind (m := tryCompare x _ (.ref y)) (wpAny_mono one (fun r s1 z => ?_) fun _ _ e => e)
    obtain ⟨z1, z2⟩ := z
    subst z1
    subst z2
    refine wpAny_bind (m := tryCompare (.ref y) _ x) (wpAny_mono two (fun r s2 z => ?_) fun _ _ e => e)
    obtain ⟨v, rfl, hq⟩ := z
    exact wpAny_pure hq
  · rename_i q
    exact absurd (by simp) q
end
theorem excC_ok {K : PySem.W.Frag} {D : Str} (c : (Fx.excC D).ok K = true) : ExcC K (gad D K) := by
  obtain ⟨c1, c⟩ := He.ba c
  obtain ⟨c2, c⟩ := He.ba c
  obtain ⟨c3, c⟩ := He.ba c
  obtain ⟨c4, c⟩ := He.ba c
  obtain ⟨c5, c⟩ := He.ba c
  obtain ⟨c6, c⟩ := He.ba c
  obtain ⟨c7, c8⟩ := He.ba c
  exact ⟨He.eqO_ok c1, He.eqO_ok c2, of_decide_eq_true c3, c4, He.eqO_ok c5, He.eqO_ok c6, of_decide_eq_true c7, of_decide_eq_true c8⟩
/-- o == y, o an own instance with an own ==, y no instance of a class below -/
def rEqO (K : PySem.W.Frag) (C : Addr) (sp : Sp) (E : XK) : R2 := fun x y H Q => ∃ a dx fs t, x = .ref a ∧ H a = some (.ins C dx fs) ∧ TyX K H y t ∧ PySem.W.notFirst K C t = true ∧ sp [x, y] H Q E
/-- x == o, x None, a text, a tuple or a list -/
def rEqR (K : PySem.W.Frag) (C : Addr) (sp : Sp) (E : XK) : R2 := fun x y H Q => ∃ a dx fs, y = .ref a ∧ H a = some (.ins C dx fs) ∧ (x = .non ∨ (∃ z, x = .str z) ∨ ∃ p xs, x = .ref p ∧ (SqT K H p xs ∨ SqL K H p xs)) ∧ sp [y, x] H Q E
def rStrO (C : Addr) (sp : Sp) (E : XK) : List V → Hp → VK → Prop := fun xs H Q => ∃ a dx fs, xs = [.ref a] ∧ H a = some (.ins C dx fs) ∧ sp [.ref a] H (fun v H' => ∃ z : Str, v = .str z ∧ Q (.str z) H') E
/-- the class at C has no base among None's, texts', tuples', lists' types -/
structure NoSubs (K : PySem.W.Frag) (C : Addr) : Prop where
  non : PySem.W.subIn K (.ref C) (.type "NoneType") = some false
  str : PySem.W.subIn K (.ref C) (.type "str") = some false
  tup : PySem.W.subIn K (.ref C) (.type "tuple") = some false
  lst : PySem.W.subIn K (.ref C) (.type "list") = some false
section
variable {X : Cx} {CX : CXT} {k : Nat} {C f : Addr} {sp : Sp} {E : XK}
theorem op_eqO (o : OwnM X.K C "__eq__" f) (F : FnR X.prog X.w X.K X.mg X.base CX k f sp) (hr : Room k X.A) (hx : Passes CX X E) : OpR X (compareOp .Eq) (rEqO X.K C sp E) := by
  intro pins s σ H x y v u Q I rx ry h
  obtain ⟨a, dx, fs, t, rfl, ea, ty, nf, q⟩ := h
  obtain rfl : v = Value.ref a := rx
  obtain ⟨mA, O, _⟩ := ins_get I.hok ea
  obtain ⟨od, J, _⟩ := O.look
  obtain ⟨m0, Fm⟩ := I.fr
  obtain ⟨P, Z, p, _⟩ := kit_of I ry ty
  show wpAny (model X.prog X.w) X.A (richCompare .Eq (.ref a) u) (EP X pins σ Q) X.xe s
  refine PySem.W.cmp_K (op := .Eq) (tb := t) hr.units0 Fm I.ok.mod.kin J (Z.ty _ _ I.kIn p) nf o.at_ o.fn ?_
  refine thn (wpAny_call (run_fnR (us := [.ref a, u]) (vs := [.ref a, y]) F hr hx I (.cons rfl (.cons ry .nil)) q)) fun w s' z => ?_
  obtain ⟨z', H', I', rz, qz⟩ := z
  exact SlX.cmpback rz ⟨z', H', I', rz, qz⟩
theorem op_eqR (o : OwnM X.K C "__eq__" f) (n : NoSubs X.K C) (F : FnR X.prog X.w X.K X.mg X.base CX k f sp) (hr : Room k X.A) (hx : Passes CX X E) : OpR X (compareOp .Eq) (rEqR X.K C sp E) := by
  intro pins s σ H x y v u Q I rx ry h
  obtain ⟨a, dx, fs, rfl, ea, hx', q⟩ := h
  obtain rfl : u = Value.ref a := ry
  obtain ⟨mA, O, _⟩ := ins_get I.hok ea
  obtain ⟨od, J, _⟩ := O.look
  obtain ⟨m0, Fm⟩ := I.fr
  have fin : ∀ {x : V} {v : Value}, RelV x v → sp [.ref a, x] H Q E → wpAny (model X.prog X.w) X.A (call (.ref f) [.ref a, v]) (PySem.W.CmpBack (EP X pins σ Q)) X.xe s := fun {x v} rx q => by
    refine thn (wpAny_call (run_fnR (us := [.ref a, v]) (vs := [.ref a, x]) F hr hx I (.cons rfl (.cons rx .nil)) q)) fun w s' z => ?_
    obtain ⟨z', H', I', rz, qz⟩ := z
    exact SlX.cmpback rz ⟨z', H', I', rz, qz⟩
  show wpAny (model X.prog X.w) X.A (richCompare .Eq v (.ref a)) (EP X pins σ Q) X.xe s
  rcases hx' with rfl | ⟨z, rfl⟩ | ⟨p, xs, rfl, hS | hS⟩
  · obtain rfl : v = Value.none := rx
    exact rc_refl (T := "NoneType") hr.units0 Fm I.ok.mod.kin J rfl PySem.F.slot_NoneType_eq_refl (fun _ h => decl_none h) n.non o.at_ o.fn (fin (x := .non) rfl q)
  · obtain ⟨t, rfl⟩ := rx
    exact rc_refl (T := "str") hr.units0 Fm I.ok.mod.kin J (typeIs_str s z t) PySem.F.slot_str_eq (fun _ h => decl_str J.1 rfl h) n.str o.at_ o.fn (fin (x := .str z) ⟨t, rfl⟩ q)
  · obtain rfl : v = Value.ref p := rx
    obtain ⟨its, r, e, z⟩ := I.tuple hS
    have hT : s.TypeIs (.ref p) "tuple" := by
      obtain ⟨o1, ho, hc, _⟩ := e
      exact ⟨o1, ho, hc⟩
    exact rc_refl (T := "tuple") hr.units0 Fm I.ok.mod.kin J hT PySem.F.slot_tuple_eq (fun _ h => decl_tup hT I.kIn J n.tup h) n.tup o.at_ o.fn (fin (x := .ref p) rfl q)
  · obtain rfl : v = Value.ref p := rx
    obtain ⟨its, r, pl, hz⟩ := I.list hS
    obtain ⟨o1, ho, hc, n1, hd⟩ := pl.isList
    have hT : s.TypeIs (.ref p) "list" := ⟨o1, ho, hc⟩
    exact rc_refl (T := "list") hr.units0 Fm I.ok.mod.kin J hT PySem.F.slot_list_eq (fun _ h => decl_lst hT I.kIn J n.lst h) n.lst o.at_ o.fn (fin (x := .ref p) rfl q)
theorem run_in2 {pins : List (Addr × Obj)} {σ : L2.St} {H : Hp} {s : Shared} {Q : VK} {us : List Value} {vs : List V} (F : FnR X.prog X.w X.K X.mg X.base CX k f sp) (hr : Room (k + 2) X.A) (hx : Passes CX X E) (I : Inv X pins σ H s) (r : Vals vs us) (h : sp vs H Q E) :
    wpAny (model X.prog X.w) X.A.in1.in1 (call (.ref f) us) (EP X pins σ Q) X.xe s := by
  refine wpAny_call (codeAny_mono (F X.A.in1.in1 X.stack s H us vs Q E (show Room (k + 1) X.A.in1 from hr.in1).in1 I.env0.in1.in1 r h) fun r s' hq => ?_)
  cases r with
  | error e => exact hx pins σ H s e s' I hq
  | ok fl =>
    cases fl with
    | ret u => exact I.after hq
    | next => exact False.elim hq
    | brk => exact False.elim hq
    | cont => exact False.elim hq
theorem call_strO (o : OwnM X.K C "__str__" f) (F : FnR X.prog X.w X.K X.mg X.base CX k f sp) (hr : Room (k + 2) X.A) (hx : Passes CX X E) : CallR X (.type "str") (rStrO C sp E) := by
  intro pins s σ H xs us Q I r h
  obtain ⟨a, dx, fs, rfl, ea, q⟩ := h
  obtain ⟨u, rfl, ru⟩ := vals1 r
  obtain rfl : u = Value.ref a := ru
  obtain ⟨mA, O, _⟩ := ins_get I.hok ea
  obtain ⟨od, J, _⟩ := O.look
  have hu : X.A.in1.in1.units < cLine := (show Room k X.A.in1.in1 from (show Room (k + 1) X.A.in1 from hr.in1).in1).units0
  refine PySem.W.kso_call hu I.kIn J o.at_ o.fn (thn (run_in2 (us := [.ref a]) (vs := [.ref a]) F hr hx I (.cons rfl .nil) q) fun u s' hq => ?_)
  obtain ⟨z', H', I', rz, z, rfl, qz⟩ := hq
  obtain ⟨t, rfl⟩ := rz
  exact ⟨.str z, H', I', ⟨t, rfl⟩, qz⟩
end
/-! ### C(e, ..) where slot i holds the class -/
def tMakeL (i : Nat) (C : Addr) (sp : Sp) (E : XK) (t : TA) : TE := fun σ H Q => σ[i]? = some (some (.ref C)) ∧ tMake C sp [] E t σ H Q
theorem pe_makeLp {X : Cx} {CX : CXT} {k i : Nat} {f C : Addr} {fd : FuncData} {ps : List Str} {sp : Sp} {E : XK} {x : Str} {e : Expr} {es : List Expr} {t : TA} {p pos : Pos} (M : Mk X.K C f) (F : FnOk X.prog X.w X.K X.mg X.base CX k f fd ps sp) (hr : Room (k + 1) X.A)
    (hN : X.N[i]? = some x) (hv : Vis X.env.scope x) (hb : Binds X.K fd ps []) (hx : Passes CX X E) (ha : PA X (e :: es) t)
    (hd : (x == ("__debug__" : Str)) = false := by decide) (hcd : (x == ("__classdict__" : Str)) = false := by decide) (he : starEach (e :: es) X.env = (false, eval e X.env) :: starEach es X.env := by rfl) (hpl : (backTo pos (starEach es X.env)).any (·.1) = false := by rfl) :
    PE X (.Call (.Name x p) (e :: es) [] pos) (tMakeL i C sp E t) := by
  refine ⟨fun pins s σ H Q I h => ?_⟩
  obtain ⟨hs, h⟩ := h
  refine wpAny_Call_Name_kw (thn ((pe_var (pos := p) (i := i) hN hv hd hcd).run pins s σ H (fun v H1 => v = .ref C ∧ H1 = H) I ⟨.ref C, hs, rfl, rfl⟩) fun u s1 ⟨v, H1, I1, r1, ev, eH⟩ => ?_)
  subst ev
  rw [eH] at I1
  cases r1
  refine PySem.W.callWith_K (h₀ := X.base) I1.ok.mod.kin M.kp (thn (ha.run pos pins s1 σ H _ I1 h) fun us s2 ⟨vs, H2, I2, r, q⟩ => ⟨I2.kIn, ?_⟩) he hpl
  exact run_make M F hr hb .nil hx I2 r q
end Hue

set_option Elab.async false
set_option linter.all false
set_option maxRecDepth 100000
set_option maxHeartbeats 4000000
/-! an own exception's __init__ that begins with super().__init__('..') -/
namespace Hue
open PySem PySem.Spec PyProof.Rows L2
/-- the program's file, as its code objects tell it -/
class SupP (P : Program) (fl : Str) : Prop where
  file : ((P.main.file : Str) == fl) = true
  top : (P.main.scope.names.lookup ("super" : Str)).isSome = false
/-- what the written part says: D the class of the def at f (its cell cc, its code at cda), C the object's class -/
structure SupK (K : PySem.W.Frag) (C D f cc cda : Addr) (fl ar : Str) : Prop where
  fn : ∃ oc od fd osl, K.lookup f = some ⟨oc, od, .func fd, osl⟩ ∧ ∃ a, (fd.params.posonlyargs ++ fd.params.args).head? = some a ∧ a.arg = ar
  code : ∃ oc od vs sl tf, K.lookup cda = some ⟨oc, od, .fields vs, sl⟩ ∧ vs[2]? = some (.str fl tf)
  cell : ∃ oc od sl, K.lookup cc = some ⟨oc, od, .cell (some (.ref D)), sl⟩
  cls : (PySem.W.clsIn K D).isSome = true
  clsC : (PySem.W.clsIn K C).isSome = true
  sub : PySem.W.mroIn K C (.ref D) = some true
  tp : PySem.W.nsIn K cStatics "thirdparty.any" = some none
  sup : PySem.W.ks_superIn K C D "__init__" = some (some (.builtin "ValueError.__init__"))
  ve : PySem.W.subIn K (.ref C) (.type "ValueError") = some true
section
variable {prog : Program} {w : World} {A : Around} {E : Value → Shared → Prop} {h : Heap} {g : Array GenState} {d : Drawn} {t : Nat} {os : OsState}
variable {nm q : Str} {C N : Addr} {bs bm : List Value} {hdct : Bool} {sn : List Str} {sub : List Value} {ab : Bool} {col : Option Bool} {dd : Option Addr} {k0 k1 k2 k3 k5 : Option Value}
theorem call_bwV {u e t0 : Addr} {rest : List Value} {Q : Value → Shared → Prop}
    (hC : h.get? C = some (excClassObj nm q C N bs bm hdct sn sub ab col dd k0 k1 k2 k3 k5 "ValueError.__new__")) (hbm : HandSPX.refsVE bm = true) (he : h.get? e = some (HandSPX.excO C t0)) (hu : h.get? u = some (PySem.W.kxs_mw "ValueError.__init__" e)) (hrest : rest.length ≤ sizeLine)
    (hq : ∀ h' t1, (∀ b o, b ≠ e → h.get? b = some o → h'.get? b = some o) → h'.get? e = some (HandSPX.excO C t1) → Q .none ⟨h', g, d, t, os⟩) :
    wpAny (model prog w) A (call (.ref u) rest) Q E ⟨h, g, d, t, os⟩ := by
  refine wpAny_call (codeAny_of_tree ?_)
  show wpAny _ A.in1 (callAny (.ref u) ⟨rest, []⟩) _ _ _
  simp only [callAny]
  refine wpAny_bind (wpAny_load hu ?_)
  simp only [PySem.W.kxs_mw, show (Value.type "method-wrapper" == Value.type "method" || Value.type "method-wrapper" == Value.type "builtin_function_or_method" || Value.type "method-wrapper" == Value.type "method-wrapper") = true by decide, if_true]
  refine PySem.W.KFB.if_so (by decide) ?_
  refine wpAny_bind (PySem.ESX.check_bound F.excBase_ValueError hC he rfl ?_)
  refine wpAny_bind (wpAny_pure (wpAny_pure ?_))
  refine ⟨Code.quiet_builtin _ (by decide +kernel), codeAny_builtin F.excBase_ValueError.initEntry ?_⟩
  rw [Around.under_plainId F.excBase_ValueError.init.plain _]
  wp_walk
  refine hq _ h.objs.size (fun b o hb ho => ?_) ?_
  · rw [Heap.get?_update_other _ _ (Ne.symm hb)]
    exact Heap.get?_push_of_some _ ho
  · rw [Heap.get?_update_self _ (Heap.get?_push_of_some _ he) rfl]
    rfl
end
section
variable {X : Cx} {pins : List (Addr × Obj)} {σ : L2.St} {H : Hp} {s : Shared} {a C D f cc cda : Addr} {fl ar : Str}
theorem exo_inst {t1 : Addr} (ho : s.heap.get? a = some ({ cls := .ref C, data := .fields #[.ref t1, .none, .none, .none, .bool false, .none] } : Obj)) : PySem.W.InstAt s.heap a { cls := .ref C, data := .fields #[.ref t1, .none, .none, .none, .bool false, .none] } C none := ⟨ho, rfl, rfl, trivial⟩
/-- super().__init__('..') -/
theorem sup_first [SP : SupP X.prog fl] {body : List Stmt} {p0 p1 p2 p3 p4 p5 : Pos} {m : Str} {j : Nat} {E : Value → Shared → Prop} (SK : SupK X.K C D f cc cda fl ar) (T : OexC X.K C) (hfu : X.env.func = some f) (hco : X.env.code = .ref cda) (hcl : X.env.cells.lookup ("__class__" : Str) = some cc)
    (hks : X.env.kindOf "super" = some .globalImplicit) (hkc : X.env.kindOf "__class__" = some .free) (hka : X.env.kindOf ar = some .local) (hN : X.N[0]? = some ar) (hn : X.mg "super" = none)
    (I : Inv X pins σ H s) (hσ : σ[0]? = some (some (.ref a))) (he : H a = some (exo a C none)) {pl : Sem Bool}
    (hev : eval (.Call (.Attribute (.Call (.Name "super" p0) [] [] p1) "__init__" p2) [.Constant (.str m) j p3] [] p4) X.env = (do
      let ov ← attributeBase (.Call (.Name "super" p0) [] [] p1) "__init__" X.env (eval (.Call (.Name "super" p0) [] [] p1) X.env)
      standAt p2.atName
      let (f, first) ← holding [ov] (getMethod ov "__init__" pl)
      callWith p4 f first (backTo p4 (starEach [.Constant (.str m) j p3] X.env)) []))
    (hsw : swapsWith (.Call (.Attribute (.Call (.Name "super" p0) [] [] p1) "__init__" p2) [.Constant (.str m) j p3] [] p4) none p5.line X.env = pure false) :
    PySem.wpAt (model X.prog X.w) X.A (.func body X.env) (exec (.Expr (.Call (.Attribute (.Call (.Name "super" p0) [] [] p1) "__init__" p2) [.Constant (.str m) j p3] [] p4) p5) X.env) (fun f s' => f = .next ∧ Inv X pins σ H s') E s := by
  have hk := I.ok.kind
  have KI := I.kIn
  obtain ⟨oc, od, fd, osl, hf, arg, hp, rfl⟩ := SK.fn
  obtain ⟨coc, cod, vs, csl, tf, hcda, hvs⟩ := SK.code
  obtain ⟨ceo, ced, cesl, hcc⟩ := SK.cell
  obtain ⟨t1, ho⟩ := exo_at I.hok he
  obtain ⟨cdD, hD⟩ := Option.isSome_iff_exists.mp SK.cls
  obtain ⟨oD, hD1, hD2⟩ : ∃ oD, s.heap.get? D = some oD ∧ oD.data = .cls cdD := by
    unfold PySem.W.clsIn at hD
    split at hD
    · rename_i c d cd' sl ho
      cases hD
      exact ⟨_, KI _ _ ho, rfl⟩
    · cases hD
  obtain ⟨nm, q, N, bs, bm, sn, sub, ab, col, dd, k0, k1, k2, k3, k5, hCo, hbm⟩ := T.cls
  refine ks_wpAt_Expr_any (ks_wpAt_MethodCall (pl := pl) ?_ hev) (by
    unfold interactive
    rw [hk]
    rfl) hsw
  refine ks_wpAt_super_base hks hkc (by decide) hfu (KI _ _ hf) rfl hp hco (KI _ _ hcda) rfl hvs SP.file SP.top ?_
  obtain ⟨mb, b1, b2⟩ := I.mod.blt
  refine PySem.W.ks_loadName_global hk hks (Calls.loadGlobal_builtin (by rw [I.ok.glob]; exact I.mod.glob.keeps I.bk) hn (by rw [I.ok.blt]; exact b1.keeps I.bk) ((b2 "super" (by decide)).trans (show bootBuiltins "super" = some (.type "super") by decide +kernel)) ⟨rfl, ?_⟩)
  refine wpAny_loadName_free hk hkc hcl ⟨_, KI _ _ hcc, rfl⟩ ?_
  obtain ⟨mm, hns, hlk⟩ := I.loc
  obtain ⟨u0, r0, lk⟩ := hlk 0 arg.arg (.ref a) hN hσ (.inl hka)
  obtain rfl : u0 = Value.ref a := r0
  have hm0 : mm arg.arg = some (.ref a) := by
    rcases lk with ⟨_, e⟩ | ⟨k, c, e, z⟩
    · exact e
    · exfalso
      rcases k with k | k <;> rw [hka] at k <;> cases k
  refine wpAny_loadName_local hk hka hns hm0 ?_
  obtain ⟨hh, g, dr, tk, os⟩ := s
  refine ks_wpAny_isType_cls hD1 hD2 ⟨rfl, ?_⟩
  refine ks_wpAny_call_super (cdD := cdD) hD1 hD2 ho rfl (fun c e => by cases e) (PySem.W.looks_mroIn KI SK.sub) (fun h1 e1 k1 => ?_)
  have K1 : X.K.In h1 := KI.keeps k1
  have J1 : PySem.W.InstAt h1 a { cls := .ref C, data := .fields #[.ref t1, .none, .none, .none, .bool false, .none] } C none := ⟨k1 _ _ ho, rfl, rfl, trivial⟩
  obtain ⟨cdC, hcC⟩ := Option.isSome_iff_exists.mp SK.clsC
  have hsup := SK.sup
  unfold PySem.W.ks_superIn at hsup
  rw [hcC] at hsup
  refine PySem.W.kxs_getMethod PySem.W.kxs_ValueError e1 (PySem.W.looks_opaque K1 SK.tp) (l₀ := cdC.mro) (fun A Q E s k q => wpAny_bind ((PySem.W.looks_clsIn K1 hcC) A _ E s k (wpAny_pure q))) rfl K1 hsup (J1.type.andThen (PySem.W.looks_subIn K1 SK.ve)) (PySem.W.ks_ne K1 J1 hcC) (by decide) ?_
  have kk : ∀ b o, hh.get? b = some o → (h1.push (PySem.W.kxs_mw "ValueError.__init__" a)).get? b = some o := fun b o e => Heap.get?_push_of_some _ (k1 b o e)
  have I1 : Inv X pins σ H ⟨h1.push (PySem.W.kxs_mw "ValueError.__init__" a), g, dr, tk + 1, os⟩ := I.kept (t' := tk + 1) kk
  have hu : (h1.push (PySem.W.kxs_mw "ValueError.__init__" a)).get? h1.objs.size = some (PySem.W.kxs_mw "ValueError.__init__" a) := Heap.get?_push_size _ rfl
  have hsz : hh.objs.size ≤ h1.objs.size := Nat.le_of_lt (Heap.lt_size e1)
  refine PySem.W.kxs_callWith (i := "ValueError.__init__") (x := a) rfl (Calls.evalArgs_plain ?_)
  have ha : PA X [.Constant (.str m) j p3] (tCons (tC (.str m)) tNil) := pa_cons pe_str pa_nil
  have I2 : Inv X ((h1.objs.size, PySem.W.kxs_mw "ValueError.__init__" a) :: pins) σ H ⟨h1.push (PySem.W.kxs_mw "ValueError.__init__" a), g, dr, tk + 1, os⟩ := I1.pins_of fun q hq => by
    rcases List.mem_cons.mp hq with e | e
    · subst e
      exact ⟨hu, I.hok.fresh hsz, Nat.ne_of_gt (Nat.lt_of_lt_of_le I.lt hsz), I.nofs hsz, fun v z => nomatch z⟩
    · exact I1.pin q (List.mem_append_right _ e)
  refine thn (ha.run p4 _ _ σ H (fun vs H1 => vs = [V.str m] ∧ H = H1) I2 ⟨rfl, rfl⟩) fun us s3 hh3 => ?_
  obtain ⟨vs3, H3, I3, r3, ev, eH⟩ := hh3
  subst ev
  rw [← eH] at I3
  have hu3 : s3.heap.get? h1.objs.size = some (PySem.W.kxs_mw "ValueError.__init__" a) := (I3.pin (h1.objs.size, PySem.W.kxs_mw "ValueError.__init__" a) (List.mem_append_right _ List.mem_cons_self)).1
  refine ⟨hu3, ?_⟩
  have I4 : Inv X pins σ H s3 := I3.pins_of fun q hq => I3.pin q (List.mem_append_right _ (List.mem_cons_of_mem _ hq))
  obtain ⟨t3, ho3⟩ := exo_at I4.hok he
  obtain ⟨h3, g3, d3, tk3, os3⟩ := s3
  refine call_bwV (I4.kIn _ _ hCo) hbm ho3 hu3 (by show us.length ≤ sizeLine; rw [← r3.length]; exact (show (1 : Nat) ≤ sizeLine by decide)) fun h' t4 k hx => ?_
  have J := I4.write (t' := tk3) (x := a) (e := a) (o := exo a C none) (by rw [he]; exact True.intro) (.inl rfl) k ⟨_, hx⟩ (exo_ok hx)
  have eu : upd H a (exo a C none) = H := by
    funext b
    by_cases hb : b = a
    · rw [hb, upd_same, he]
    · rw [upd_ne hb]
  rw [eu] at J
  exact ⟨rfl, J⟩
end
theorem fnC_of {P : Program} {w : World} {K : PySem.W.Frag} {mg : Str → Option Value} {base : Heap} {CX : CXT} {k : Nat} {fl ar : Str} {f cc C D : Addr} {name qual : Str} {params : Arguments} {rest : List Stmt} {scope : Scope} {dV kV doc pm cdv ct oc : Value} {an od : Option Addr}
    {osl : Array (Option Value)} {N ps : List Str} {sp : Sp} {p0 p1 p2 p3 p4 p5 : Pos} {m : Str} {j : Nat} [SP : SupP P fl]
    (lk : K.lookup f = some ⟨oc, od, .func (PySem.W.fnX name qual params (.Expr (.Call (.Attribute (.Call (.Name "super" p0) [] [] p1) "__init__" p2) [.Constant (.str m) j p3] [] p4) p5 :: rest) scope [("__class__", cc)] dV kV doc pm an cdv ct), osl⟩)
    (hcd : PySem.W.codeIn K cdv qual = true) (S : NdefX.NScope N ps [("__class__" : Str)] scope) (SK : ∀ cda, cdv = .ref cda → SupK K C D f cc cda fl ar) (T : OexC K C) (hn : mg "super" = none) (hks : scope.names.lookup ("super" : Str) = some .globalImplicit) (hpa : ∃ r, ps = ar :: r)
    (len : ∀ vs H Q E, sp vs H Q E → vs.length = ps.length) (hob : ∀ vs H Q E, sp vs H Q E → ∃ a ws, vs = V.ref a :: ws ∧ H a = some (exo a C none)) {pl : Sem Bool}
    (hev : ∀ env : Env, eval (.Call (.Attribute (.Call (.Name "super" p0) [] [] p1) "__init__" p2) [.Constant (.str m) j p3] [] p4) env = (do
      let ov ← attributeBase (.Call (.Name "super" p0) [] [] p1) "__init__" env (eval (.Call (.Name "super" p0) [] [] p1) env)
      standAt p2.atName
      let (f, first) ← holding [ov] (getMethod ov "__init__" pl)
      callWith p4 f first (backTo p4 (starEach [.Constant (.str m) j p3] env)) []))
    (hsw : ∀ env : Env, swapsWith (.Call (.Attribute (.Call (.Name "super" p0) [] [] p1) "__init__" p2) [.Constant (.str m) j p3] [] p4) none p5.line env = pure false)
    (hbody : ∀ (F : NdefX.NF) (A : Around) (outer : List Env) (s : Shared) (H : Hp) (vs : List V) (Q : VK) (E : XK), F.scope = scope → F.qual = qual → F.cl = [(("__class__" : Str), cc)] → sp vs H Q E →
      ∃ t, PSs (NdefX.ncx CX P w K mg base N F f A outer s H E) rest t ∧ t { nx := fun _ H' => Q .non H', rt := Q } (NdefX.startF N vs [some (.ref D)]) H) :
    FnOk P w K mg base CX (k + 1) f (PySem.W.fnX name qual params (.Expr (.Call (.Attribute (.Call (.Name "super" p0) [] [] p1) "__init__" p2) [.Constant (.str m) j p3] [] p4) p5 :: rest) scope [("__class__", cc)] dV kV doc pm an cdv ct) ps sp := by
  refine ⟨len, fun A outer s H args us vs Q E hr e0 hb r hsp => ?_⟩
  have hl := len _ _ _ _ hsp
  have KX : K.In s.heap := e0.mod.kin.keeps fun b o e => (e0.bs b o e).1
  have lim : s.heap.NoLimit := e0.mod.nolimit.keeps fun b o e => (e0.bs b o e).1
  have hrec := PySem.W.codeRec_of KX hcd
  obtain ⟨cda, oc2, vs2, t2, ecd, _⟩ := id hrec
  subst ecd
  have SK := SK cda rfl
  obtain ⟨ceo, ced, cesl, hcc⟩ := id SK.cell
  obtain ⟨pr, rfl⟩ := hpa
  obtain ⟨a, ws, rfl, ha⟩ := hob _ _ _ _ hsp
  let F : NdefX.NF := ⟨name, qual, params, (.Expr (.Call (.Attribute (.Call (.Name "super" p0) [] [] p1) "__init__" p2) [.Constant (.str m) j p3] [] p4) p5 :: rest), scope, [("__class__", cc)], cda⟩
  have Ce : NdefX.CellsAt F.cl [("__class__" : Str)] [some (V.ref D)] s.heap H := by
    have look : ∀ {y c}, F.cl.lookup y = some c → y = ("__class__" : Str) ∧ c = cc := fun {y c} e => by
      have e' : (match y == ("__class__" : Str) with | true => some cc | false => none) = some c := by
        have e2 : List.lookup y [(("__class__" : Str), cc)] = some c := e
        unfold List.lookup at e2
        split at e2
        · rename_i q; rw [q]; exact e2
        · cases e2
      split at e'
      · rename_i q
        exact ⟨eq_of_beq q, (Option.some.inj e').symm⟩
      · cases e'
    refine ⟨rfl, fun y c e => ?_, fun x y c e1 e2 => ?_, fun i y hi => ?_⟩
    · obtain ⟨_, rfl⟩ := look e
      exact ⟨(e0.bs _ _ (e0.mod.kin _ _ hcc)).2, _, _, KX _ _ hcc, rfl⟩
    · rw [(look e1).1, (look e2).1]
    · have h0 : i = 0 := by
        have z := (List.getElem?_eq_some_iff.mp hi).1
        simp at z
        exact z
      subst h0
      have ey : y = ("__class__" : Str) := (Option.some.inj hi).symm
      subst ey
      refine ⟨cc, (by show List.lookup (("__class__" : Str)) [(("__class__" : Str), cc)] = some cc; unfold List.lookup; rw [show (("__class__" : Str) == ("__class__" : Str)) = true from beq_self_eq_true _]), fun v hv => ?_⟩
      have ev : v = V.ref D := by
        have z : some (some (V.ref D)) = some (some v) := hv
        cases z
        rfl
      subst ev
      exact ⟨_, rfl, _, KX _ _ hcc, rfl⟩
  refine codeAny_call_function hr.depth (KX _ _ lk) rfl S.co S.gen rfl hrec (hb _ _ _ _ ?_)
  refine wpAny_newFunctionEnv S.nocell (fun ⟨n, _⟩ hy => S.par n (List.of_mem_zip hy).1) (fun h₁ hns hsb => ⟨lim.fresh _ hsb, ?_⟩) S.kind
  show codeAny _ _ (.func F.body (NdefX.envF F f s.heap.objs.size)) _ _
  refine ks_codeAny_funcAt ?_
  have kp : ∀ b o, s.heap.get? b = some o → h₁.get? b = some o := fun b o e => hsb.extBut b o (Nat.ne_of_lt (Heap.lt_size e)) (Heap.get?_push_of_some _ e)
  obtain ⟨t, ht, hq⟩ := hbody F A outer s H _ Q E rfl rfl rfl hsp
  have I : Inv (NdefX.ncx CX P w K mg base N F f A outer s H E) [] (NdefX.startF N (V.ref a :: ws) [some (.ref D)]) H { s with heap := h₁, toks := s.toks + ((ar :: pr).zip us).length } := NdefX.inv_startN S hr.hd e0 hl r Ce hns kp
  have hkp : F.scope.names.lookup ar = some .local := S.par ar List.mem_cons_self
  have hN0 : N[0]? = some ar := by
    have z := S.pre
    have h0 : (N.take ((ar :: pr).length + [("__class__" : Str)].length))[0]? = some ar := by rw [z]; rfl
    rw [List.getElem?_take_of_lt (by simp)] at h0
    exact h0
  have st0 := sup_first (X := NdefX.ncx CX P w K mg base N F f A outer s H E) (SP := SP) (body := F.body) (E := fun e s' => wpAny (model P w) (A.deeper (NdefX.envF F f s.heap.objs.size)) (leaving (NdefX.envF F f s.heap.objs.size) e) (fun _ s'' => CX outer H s E e s'') (fun e' s'' => CX outer H s E e' s'') s')
    SK T rfl rfl (show List.lookup (("__class__" : Str)) [(("__class__" : Str), cc)] = some cc by unfold List.lookup; rw [show (("__class__" : Str) == ("__class__" : Str)) = true from beq_self_eq_true _]) hks (S.frk _ List.mem_cons_self) hkp hN0 hn I rfl ha (hev _) (hsw _)
  refine ks_wpAt_execs_cons (PySem.wpAt_mono st0 (fun fl s' z => ?_) fun _ _ z => z)
  obtain ⟨ef, J⟩ := z
  subst ef
  refine wpAt_of_wpAny (wpAny_mono (ht.run [] s' _ H _ J hq) (fun fl s' hs => ?_) fun e s' hs => hs)
  have fin : ∀ {σ' : L2.St} {H' : Hp} {v : V} {u : Value}, Inv (NdefX.ncx CX P w K mg base N F f A outer s H E) [] σ' H' s' → L2.RelV v u → Q v H' → CE outer P w H s Q u s' :=
    fun {σ' H' v u} J rv q => ⟨v, H', J.os, J.bare, J.base, J.hok, rv, q⟩
  cases fl with
  | ret u =>
    obtain ⟨v, σ', H', J, rv, q⟩ := hs
    exact fin J rv q
  | next =>
    obtain ⟨σ', H', J, q⟩ := hs
    exact fin (v := V.non) (u := Value.none) J rfl q
  | brk =>
    obtain ⟨_, _, _, q⟩ := hs
    exact False.elim q
  | cont =>
    obtain ⟨_, _, _, q⟩ := hs
    exact False.elim q
/-! ### the facts -/
theorem oex_ok {K : PySem.W.Frag} {C : Str} (c : (Fx.oex C).ok K = true) : OexC K (gad C K) := by
  obtain ⟨c1, c⟩ := He.ba c
  obtain ⟨c2, c⟩ := He.ba c
  obtain ⟨c3, c⟩ := He.ba c
  obtain ⟨c4, c5⟩ := He.ba c
  refine ⟨?_, He.eqO_ok c2, of_decide_eq_true c3, of_decide_eq_true c4, c5⟩
  split at c1
  · rename_i dd cd sl ho
    split at c1
    · rename_i C' bm k0 k1 k2 k3 n k5 hm hs
      obtain ⟨d1, c1⟩ := He.ba c1
      obtain ⟨d2, c1⟩ := He.ba c1
      obtain ⟨d3, c1⟩ := He.ba c1
      obtain ⟨d4, d5⟩ := He.ba c1
      have e1 := of_decide_eq_true d1
      have e2 := of_decide_eq_true d2
      have e3 : cd.hasDel = false := by simpa using d3
      obtain ⟨nm, bs, mro, ns, qn, hd, sn, sub, ab, col, del⟩ := cd
      dsimp only at hm e3 d4
      subst hm e3 d4 e2
      rw [e1] at ho
      have hsl : sl = #[k0, k1, k2, k3, some (.builtin "ValueError.__new__"), k5] := by
        obtain ⟨l⟩ := sl
        simp only at hs
        rw [hs]
      subst hsl
      exact ⟨nm, qn, ns, bs, bm, sn, sub, ab, col, dd, k0, k1, k2, k3, k5, ho, d5⟩
    · cases c1
  · cases c1
theorem sup_ok {K : PySem.W.Frag} {C D fl ar : Str} (c : (Fx.sup C D fl ar).ok K = true) {x qual : Str} {params : Arguments} {body : List Stmt} {scope : Scope} {cc : Addr} {cdv : Value} {fd : FuncData} (F : FunC K x qual params body scope (mad D "__init__" K) cc cdv fd) :
    ∀ cda, cdv = .ref cda → SupK K (gad C K) (gad D K) (mad D "__init__" K) cc cda fl ar := by
  rintro cda rfl
  obtain ⟨oc, od, dV, kV, doc, pm, an, ct, osl, rfl, lk, hcd, _⟩ := F.ex
  obtain ⟨c1, c⟩ := He.ba c
  obtain ⟨c2, c⟩ := He.ba c
  obtain ⟨c3, c⟩ := He.ba c
  obtain ⟨c4, c⟩ := He.ba c
  obtain ⟨c5, c⟩ := He.ba c
  obtain ⟨c6, c7⟩ := He.ba c
  rw [lk] at c1
  obtain ⟨a1, c1⟩ := He.ba c1
  obtain ⟨a2, a3⟩ := He.ba c1
  refine ⟨⟨_, _, _, _, lk, ?_⟩, ?_, ?_, c2, c3, of_decide_eq_true c4, He.eqO_ok c5, He.eqO_ok c6, of_decide_eq_true c7⟩
  · split at a1
    · rename_i a e
      exact ⟨a, e, of_decide_eq_true a1⟩
    · cases a1
  · dsimp only at a3
    split at a3
    · rename_i k1 k2 vs k3 e
      split at a3
      · rename_i z tk e2
        have e3 := of_decide_eq_true a3
        subst e3
        exact ⟨_, _, vs, _, tk, e, e2⟩
      · cases a3
    · cases a3
  · dsimp only at a2
    split at a2
    · rename_i k1 k2 a k3 e
      have e3 := of_decide_eq_true a2
      subst e3
      exact ⟨_, _, _, e⟩
    · cases a2
theorem einit_ok {K : PySem.W.Frag} {C D : Str} (c : (Fx.einit C D).ok K = true) : PySem.W.findIn K (.ref (gad C K)) "__init__" = some (some (.ref (mad D "__init__" K))) ∧ PySem.W.typeIn K (.ref (mad D "__init__" K)) = some (.type "function") := by
  obtain ⟨c1, c2⟩ := He.ba c
  exact ⟨He.eqO_ok c1, of_decide_eq_true c2⟩
/-! ### isinstance, fields of a caught error that has a dict -/
section
variable {prog : Program} {w : World} {A : Around} {E : Value → Shared → Prop} {s : Shared} {K : PySem.W.Frag} {x D : Addr} {ox od : Obj}
theorem kin_classD {Q : Option Value → Shared → Prop} (hga : PySem.W.findIn K (.ref D) "__getattribute__" = some (some (.builtin "BaseException.__getattribute__"))) (hgt : PySem.W.findIn K (.ref D) "__getattr__" = some none) (hsub : PySem.W.subIn K (.ref D) (.type "BaseException") = some true)
    (hdct : PySem.W.hasDictIn K D = true) (ha : PySem.W.findIn K (.ref D) "__class__" = some (some (.builtin "object.__class__")))
    (hn : PySem.W.specialIn K (.builtin "object.__class__") "__get__" = some (some (.builtin "getset_descriptor.__get__"))) (htk : PySem.W.takesIn K (.builtin "object.__class__") = some true) (hm : PySem.W.mroIn K D (.type "object") = some true)
    (X : K.In s.heap) (I : PySem.W.InstAt s.heap x ox D (some od)) (h : Q (some (.ref D)) { s with toks := s.toks + 1 }) : wpAny (model prog w) A (getAttr? (.ref x) "__class__") Q E s := by
  have hf : PySem.W.findObj K D (some od) "__class__" = some (.bind (.builtin "getset_descriptor.__get__") (.builtin "object.__class__")) := PySem.W.findObj_data (by obtain ⟨cd, hc, _⟩ := PySem.W.any_some hdct; show (PySem.W.clsIn K D).isSome = true; rw [hc]; rfl) ha hn htk
  obtain ⟨hp, g, d, t, os⟩ := s
  have L0 := I.type (M := model prog w)
  have L1 := PySem.W.looks_findIn (M := model prog w) X hga
  have L2 := PySem.W.looks_findIn (M := model prog w) X hgt
  have L3 := PySem.W.looks_find (M := model prog w) X I hf
  have sub : PySem.W.Looks (model prog w) hp (isInstance (.ref x) (.type "BaseException")) true := L0.andThen (PySem.W.looks_subIn X hsub)
  have hx0 : (false && onTheHeap (Value.builtin "BaseException.__getattribute__")) = false := rfl
  have hx2 : (Value.builtin "BaseException.__getattribute__" == Value.builtin "object.__getattribute__") = false := by decide +kernel
  have hx1 : (onTheHeap (Value.ref D) && Value.builtin "BaseException.__getattribute__" == Value.builtin "object.__getattribute__") = false := by rw [hx2]; rfl
  unfold getAttr? getAttrBy? getAttrBy
  refine wpAny_bind (wpAny_mkText (wpAny_bind (wpAny_attempt (wpAny_holding (wpAny_bind (L0.at (wpAny_bind (L1.at ?_))))))))
  show wpAny _ _ (if (onTheHeap (Value.ref D) && Value.builtin "BaseException.__getattribute__" == Value.builtin "object.__getattribute__") = true then _ else _) _ _ _
  rw [hx1, if_neg Bool.false_ne_true]
  unfold getAttrByItsOwn hookBefore
  refine wpAny_bind ?_
  rw [if_pos (show onTheHeap (Value.ref D) = true from rfl)]
  refine L2.at ?_
  refine wpAny_bind (wpAny_attempt (wpAny_holding ?_))
  unfold callGetattribute
  rw [hx0, if_neg Bool.false_ne_true]
  unfold boundAndCalled
  rw [PySem.F.excAttr_ValueError.ga.bind (.ref x)]
  refine wpAny_bind (wpAny_pure ?_)
  show wpAny _ _ (call (.builtin "BaseException.__getattribute__") [.ref x, .str "__class__" t]) _ _ _
  refine wpAny_call (codeAny_call_builtin PySem.F.excAttr_ValueError.ga.plain PySem.F.entry_bexc_ga ?_)
  refine @PySem.W.check_slot (model prog w) _ _ ⟨hp, g, d, t + 1, os⟩ "BaseException.__getattribute__" "BaseException" "__getattribute__" (.ref x) [.str "__class__" t] [] _ (by decide +kernel) (by decide +kernel) sub (PySem.F.args_bexc_ga (.ref x) (.str "__class__" t)) ?_
  unfold Builtin.«object.__getattribute__»
  refine wpAny_bind (wpAny_of_eq (a := ((Value.ref x : Value), [Value.str "__class__" t])) (by first | rfl | (simp only [slotArgs]; rfl)) ?_)
  refine wpAny_bind (wpAny_pure (wpAny_bind (L0.at (wpAny_bind (L3.at ?_)))))
  show wpAny _ _ (holding [Value.builtin "object.__class__"] (call (.builtin "getset_descriptor.__get__") [.builtin "object.__class__", .ref x, .ref D]) >>= ret) _ _ _
  refine wpAny_bind (wpAny_holding (wpAny_call (PySem.W.class_get (s := ⟨hp, g, d, t + 1, os⟩) (ox := ox) (od := some od) X I hm ?_)))
  refine wpAny_pure ?_
  show wpAny _ _ (handedOut (.ref D)) _ _ _
  rw [PySem.W.handedOut_of (v := .ref D) rfl]
  first
    | exact wpAny_pure (wpAny_pure h)
    | exact wpAny_pure h
    | exact wpAny_pure (wpAny_bind (wpAny_pure (wpAny_pure h)))
theorem kitx_excD (c : ExcC K D) : PySem.W.KitX K (.ref x) (.ref D) (fun h => PySem.W.InstAt h x ox D (some od)) where
  ty := fun _ _ _ I => I.type
  it := fun _ _ X _ => by
    obtain ⟨cdD, hcD, _⟩ := PySem.W.any_some c.hd
    unfold PySem.W.clsIn at hcD
    split at hcD
    · rename_i c' d' cd' sl' ho
      intro A' Q' E' s' k q
      unfold isType loadHead
      exact wpAny_bind (wpAny_loadPart (k _ _ (X _ _ ho)) (wpAny_pure q))
    · cases hcD
  ne := fun h tp dd its n sl X htp => by
    obtain ⟨cdD, hcD, _⟩ := PySem.W.any_some c.hd
    refine Bool.eq_false_iff.mpr fun q => ?_
    have e : D = tp := Value.ref.inj (beq_iff_eq.mp q)
    subst e
    unfold PySem.W.clsIn at hcD
    split at hcD
    · rename_i c' d' cd' sl' ho
      have z := (X _ _ ho).symm.trans htp
      cases z
    · cases hcD
  ca := fun X I k => kin_classD c.hg c.hk c.hs c.hd c.ha c.hn c.ht c.hm X I k
end
/-- an error of the class at D with these fields is held at a -/
def ExF (H : Hp) (D a : Addr) (fs : List (Str × V)) : Prop := ∃ dd, H a = some (Exn (.ref D) (some dd) a) ∧ H dd = some (.xd fs)
theorem ExF.same {H H' : Hp} {D a : Addr} {fs : List (Str × V)} (h : ExF H D a fs) (e : Same H H') : ExF H' D a fs := by
  obtain ⟨dd, h1, h2⟩ := h
  exact ⟨dd, e _ _ h1, e _ _ h2⟩
def rIsD (K : PySem.W.Frag) (D : Addr) : List V → Hp → VK → Prop := fun xs H Q => ∃ (a : Addr) (fs : List (Str × V)) (c : V) (u : Value) (b : Bool), xs = [.ref a, c] ∧ ExF H D a fs ∧ ClsV c u ∧ PySem.W.kitOne K (.ref D) u = some b ∧ Q (.bl b) H
def rIsDT (K : PySem.W.Frag) (D : Addr) : List V → Hp → VK → Prop := fun xs H Q => ∃ (a tp : Addr) (fs : List (Str × V)) (cs : List V) (us : List Value) (b : Bool), xs = [.ref a, .ref tp] ∧ ExF H D a fs ∧ H tp = some (.tup cs) ∧ Paired ClsV cs us ∧ PySem.W.kitAny K (.ref D) us = some b ∧ Q (.bl b) H
def tXv (D : Addr) (n : Str) (te : TE) : TE := fun σ H Q => te σ H fun x H1 => ∃ (a : Addr) (fs : List (Str × V)) (v : V), x = .ref a ∧ ExF H1 D a fs ∧ fs.lookup n = some v ∧ Q v H1
section
variable {X : Cx} {D : Addr} {pins : List (Addr × Obj)} {σ : L2.St} {H : Hp} {s : Shared}
theorem exf_inst {a : Addr} {fs : List (Str × V)} (I : Inv X pins σ H s) (h : ExF H D a fs) : ∃ oe od, PySem.W.InstAt s.heap a oe D (some od) ∧ ∃ mA : Str → Option Value, (∀ f, RelO (fs.lookup f) (mA f)) ∧ ∀ n, PySem.W.lookIn n od = some (mA n) := by
  obtain ⟨dd, h1, h2⟩ := h
  obtain ⟨oe, vs, hget, hz, hv⟩ := exn_at I h1
  obtain ⟨mA, hns, hr⟩ := (show ObjOk X.prog X.w H s.heap dd (.xd fs) from I.hok dd _ h2)
  obtain ⟨od, ho, hl⟩ := lookIn_ns hns
  exact ⟨oe, od, ⟨hget, hz.1, by unfold PySem.W.notCls; rw [hv] <;> rfl, by rw [hz.2]; exact ho⟩, mA, hr, hl⟩
theorem call_isD (C : ExcC X.K D) : CallR X (.builtin "isinstance") (rIsD X.K D) := by
  intro pins s σ H xs us Q I r h
  obtain ⟨a, fs, c, u, b, rfl, ha, hcv, e, q⟩ := h
  obtain ⟨u1, u2, rfl, r1, r2⟩ := vals2 r
  obtain rfl : u1 = Value.ref a := r1
  have ec := hcv.eq r2
  subst ec
  obtain ⟨oe, od, J, _⟩ := exf_inst I ha
  exact PySem.W.kia_one (kitx_excD C) I.kIn J e (fun z => nomatch z) fun tk => ⟨.bl b, H, I.tok tk, rfl, q⟩
theorem call_isDT (C : ExcC X.K D) : CallR X (.builtin "isinstance") (rIsDT X.K D) := by
  intro pins s σ H xs us Q I r h
  obtain ⟨a, tp, fs, cs, ws, b, rfl, ha, hT, k, e, q⟩ := h
  obtain ⟨u1, u2, rfl, r1, r2⟩ := vals2 r
  obtain rfl : u1 = Value.ref a := r1
  cases (show u2 = Value.ref tp from r2)
  obtain ⟨oe, od, J, _⟩ := exf_inst I ha
  obtain ⟨_, its, rv, o, h1, h2, n, h3⟩ := (show ObjOk X.prog X.w H s.heap tp (.tup cs) from I.hok tp _ hT)
  have e3 := ClsV.all k rv
  subst e3
  obtain ⟨oc, od, dt, sl⟩ := o
  simp only at h2 h3
  subst h2 h3
  exact PySem.W.kia_tup (kitx_excD C) I.kIn J h1 e (fun z => nomatch z) fun tk => ⟨.bl b, H, I.tok tk, rfl, q⟩
theorem pe_xv {e : Expr} {te : TE} {pos : Pos} {n : Str} (C : ExcC X.K D) (hno : PySem.W.findIn X.K (.ref D) n = some none) (he : PE X e te) (hb : attributeBase e n X.env (eval e X.env) = eval e X.env := by rfl) : PE X (.Attribute e n pos) (tXv D n te) := by
  refine ⟨fun pins s σ H Q I h => ?_⟩
  refine attr_of hb (thn (he.run pins s σ H _ I h) fun u s1 hh => ?_)
  obtain ⟨x, H1, I1, rx, a, fs, v, rfl, ha, l, q⟩ := hh
  obtain rfl : u = Value.ref a := rx
  obtain ⟨oe, od, J, mA, hr, hl⟩ := exf_inst I1 ha
  obtain ⟨u, hu, ru⟩ := RelO.some_of (v := v) (o := mA n) (by rw [← l]; exact hr n)
  exact HandSPX.exc_get I1.kIn J C.hg C.hk C.hs (PySem.W.findObj_own C.hd hno rfl (by rw [hl, hu])) (handed_of ru) ⟨v, H1, I1.tok _, ru, q⟩
end
theorem FunC.binds {K : PySem.W.Frag} {x qual : Str} {params : Arguments} {body : List Stmt} {scope : Scope} {f cc : Addr} {cdv : Value} {fd : FuncData} {ps : List Str} (F : FunC K x qual params body scope f cc cdv fd)
    (h : ∀ (kV doc pm : Value) (an : Option Addr) (cdv ct : Value) (us : List Value), us.length = ps.length → bindArgs (PySem.W.fnX x qual params body scope [("__class__", cc)] .none kV doc pm an cdv ct) ⟨us, []⟩ = pure (ps.zip us)) : Binds K fd ps [] := by
  obtain ⟨oc, od, dV, kV, doc, pm, an, ct, osl, rfl, lk, hcd, rfl⟩ := F.ex
  exact .all (h kV doc pm an cdv ct)
/-! ### making and raising such an error: one field; three -/
/-- __init__(self, v): one field -/
def spEx1 (K : PySem.W.Frag) (C : Addr) (n : Str) : Sp := fun vs H Q _ => ∃ (a : Addr) (v : V), vs = [.ref a, v] ∧ H a = some (exo a C none) ∧ ∀ dx, H dx = none → dx ≠ a → Q .non (upd (upd H dx (exd dx [(n, v)])) a (exo a C (some dx)))
theorem mkO1 {K : PySem.W.Frag} {C : Addr} {n : Str} {v : V} {H : Hp} {E : XK} (k : ∀ dd H', H dd = none → Same H H' → H' dd = some (.xd [(n, v)]) → E (.ref C) (some dd) H') :
    [v].length ≤ 1000 ∧ ∀ a, H a = none → spEx1 K C n (.ref a :: ([v] ++ [])) (upd H a (exo a C none))
      (fun w H2 => w = .non ∧ ∃ (d : Addr) (fs : List (Str × V)), H2 a = some (exo a C (some d)) ∧ H2 d = some (exd d fs) ∧ H d = none ∧ E (.ref C) (some d) (upd (L2.del H2 a) d (.xd fs))) (fun _ _ _ => False) := by
  refine ⟨(by decide : 1 ≤ 1000), fun a na => ⟨a, v, rfl, upd_same, fun dx nd ne => ⟨rfl, dx, [(n, v)], upd_same, ?_, ?_, ?_⟩⟩⟩
  · rw [upd_ne ne, upd_same]
  · rw [upd_ne ne] at nd; exact nd
  · have nd' : H dx = none := by rw [upd_ne ne] at nd; exact nd
    refine k dx _ nd' (fun b o e => ?_) upd_same
    have b1 : b ≠ a := ne_of_none e na
    have b2 : b ≠ dx := ne_of_none e nd'
    rw [upd_ne b2, L2.del_ne b1, upd_ne b1, upd_ne b2, upd_ne b1]
    exact e
end Hue

set_option Elab.async false
set_option linter.all false
set_option maxRecDepth 100000
set_option maxHeartbeats 4000000
/-! def f(self, **kw) called with keywords; C(**d); d.update(e) -/
namespace Hue
open PySem PySem.Spec PyProof.Rows L2
/-! ### a fresh dict filled by names -/
section
variable {prog : Program} {w : World} {A : Around} {E : Value → Shared → Prop} {d : Addr}
theorem kw_nsSet {s : Shared} {es : List DictEntry} {n : Nat} {k : Str} {v : Value} {Q : Unit → Shared → Prop} (D : s.heap.get? d = some (PySem.W.dictOf es n))
    (hs : ∀ e ∈ es, e.key.isStr k = false) (hr : ∀ e ∈ es, e.refKey = false)
    (h : ∀ h', h'.get? d = some (PySem.W.dictOf (es ++ [⟨PyData.keyHash w.params k, .str k s.toks, v⟩]) (n + 1)) → (∀ b o, b ≠ d → s.heap.get? b = some o → h'.get? b = some o) → Q () { s with heap := h', toks := s.toks + 1 }) :
    wpAny (model prog w) A (nsSet d k v) Q E s := by
  have e1 : es.any (·.key.isStr k) = false := by
    cases q : es.any (·.key.isStr k) with
    | false => rfl
    | true => obtain ⟨e, he, z⟩ := List.any_eq_true.mp q; rw [hs e he] at z; cases z
  have e2 : es.any (·.refKey) = false := by
    cases q : es.any (·.refKey) with
    | false => rfl
    | true => obtain ⟨e, he, z⟩ := List.any_eq_true.mp q; rw [hr e he] at z; cases z
  have e : Obj.putName k (PyData.keyHash w.params k) (.str k s.toks) v (PySem.W.dictOf es n) = PySem.W.dictOf (es ++ [⟨PyData.keyHash w.params k, .str k s.toks, v⟩]) (n + 1) := by
    rw [PySem.W.putName_dict, PySem.W.putL_new hs]
    show PySem.W.dictOf _ (if es.any (·.key.isStr k) then n else n + 1) = _
    rw [e1, if_neg Bool.false_ne_true]
  have c : aRefKeyMayBeTheName k es.toArray = false := by
    rw [aRefKeyMayBeTheName_at, ← Array.any_toList, ← Array.any_toList]
    show (!es.any (·.key.isStr k) && es.any (·.refKey)) = false
    rw [e2, Bool.and_false]
  unfold nsSet
  refine wpAny_bind (wpAny_bind (wpAny_askSetting (wpAny_pure (wpAny_bind (wpAny_mkText (wpAny_bind (wpAny_loadPart D ?_)))))))
  dsimp only
  rw [c]
  refine wpAny_updatePart D (h _ ?_ fun b o hb eb => ?_)
  · have z := Heap.get?_update_self (Obj.putName k (PyData.keyHash w.params k) (.str k s.toks) v) D (by rw [e]; rfl)
    rw [e] at z
    exact z
  · rw [Heap.get?_update_other _ _ (Ne.symm hb)]
    exact eb
theorem kw_fill {Q : PUnit → Shared → Prop} : ∀ (ex : List (Str × Value)) (s : Shared) (es : List DictEntry) (n : Nat), s.heap.get? d = some (PySem.W.dictOf es n) →
    (∀ e ∈ es, ∀ x ∈ ex, e.key.isStr x.1 = false) → (∀ e ∈ es, e.refKey = false) → (ex.map (·.1)).Nodup →
    (∀ h', h'.get? d = some (PySem.W.dictOf (es ++ PySem.W.kwEs w.params s.toks ex) (n + ex.length)) → (∀ b o, b ≠ d → s.heap.get? b = some o → h'.get? b = some o) → Q ⟨⟩ { s with heap := h', toks := s.toks + ex.length }) →
    wpAny (model prog w) A (forIn ex PUnit.unit fun x _ => (nsSet d x.1 x.2 >>= fun _ => pure (ForInStep.yield PUnit.unit))) Q E s
  | [], s, es, n, D, _, _, _, h => by
    rw [List.forIn_nil]
    refine wpAny_pure (h s.heap ?_ fun _ _ _ e => e)
    show s.heap.get? d = some (PySem.W.dictOf (es ++ []) n)
    rw [List.append_nil]
    exact D
  | x :: r, s, es, n, D, hs, hr, hn, h => by
    obtain ⟨hn1, hn2⟩ := List.nodup_cons.mp (show (x.1 :: r.map (·.1)).Nodup from hn)
    rw [List.forIn_cons]
    refine wpAny_bind (wpAny_bind (kw_nsSet D (fun e he => hs e he x (.head _)) hr fun h' D' k' => wpAny_pure ?_))
    show wpAny (model prog w) A (forIn r PUnit.unit fun x _ => (nsSet d x.1 x.2 >>= fun _ => pure (ForInStep.yield PUnit.unit))) Q E { s with heap := h', toks := s.toks + 1 }
    refine kw_fill r { s with heap := h', toks := s.toks + 1 } _ _ D' (fun e he y hy => ?_) (fun e he => ?_) hn2 fun h'' D'' k'' => ?_
    · rcases List.mem_append.mp he with he | he
      · exact hs e he y (.tail _ hy)
      · obtain rfl := List.mem_singleton.mp he
        show (x.1 == y.1) = false
        exact beq_eq_false_iff_ne.mpr fun q => hn1 (by rw [q]; exact List.mem_map_of_mem hy)
    · rcases List.mem_append.mp he with he | he
      · exact hr e he
      · obtain rfl := List.mem_singleton.mp he
        rfl
    · have t1 : s.toks + 1 + r.length = s.toks + (r.length + 1) := by omega
      have t2 : n + 1 + r.length = n + (r.length + 1) := by omega
      show Q ⟨⟩ { s with heap := h'', toks := s.toks + 1 + r.length }
      rw [t1]
      refine h h'' ?_ fun b o hb e => k'' b o hb (k' b o hb e)
      rw [t2, List.append_assoc] at D''
      exact D''
theorem kwx_pairs : ∀ (ex : List (Str × Value)) (t : Tok), PySem.Pairs (mixKind prog w) (PySem.W.kwEs w.params t ex) (ex.map fun x => ((Sum.inr x.1 : Key), x.2))
  | [], _ => .nil
  | x :: r, t => .cons (keyIs_str x.1 t) rfl (kwx_pairs r (t + 1))
theorem kwx_dict {h : Heap} {ex : List (Str × Value)} (t : Tok) (n : Nat) (D : h.get? d = some (PySem.W.dictOf (PySem.W.kwEs w.params t ex) n)) (hn : (ex.map (·.1)).Nodup) : h.DictOf (mixKind prog w) d (ex.map fun x => ((Sum.inr x.1 : Key), x.2)) :=
  ⟨_, _, n, D, ⟨rfl, rfl, rfl⟩, rfl, fun e he => by
    obtain ⟨k, u, hk, hh⟩ := PySem.W.kwEs_key ex t e (List.mem_toArray.mp he)
    exact ⟨.inr k, by rw [hk]; exact keyIs_str k u, hh.trans rfl⟩, kwx_pairs ex t, by
      rw [List.map_map]
      have e : (ex.map fun x => ((Sum.inr x.1 : Key))) = (ex.map (·.1)).map Sum.inr := by rw [List.map_map]; rfl
      show (ex.map fun x => ((Sum.inr x.1 : Key))).Nodup
      rw [e]
      exact List.pairwise_map.mpr (hn.imp fun h q => h (Sum.inr.inj q))⟩
end
/-! ### def f(self, **kw) -/
/-- the pairs by names -/
def kwV (ks : List Str) (zs : List V) : List (Key × V) := (ks.zip zs).map fun x => ((Sum.inr x.1 : Key), x.2)
theorem kv_zip : ∀ {ks : List Str} {zs : List V} {ws : List Value}, Vals zs ws → KV (kwV ks zs) ((ks.zip ws).map fun x => ((Sum.inr x.1 : Key), x.2))
  | [], _, _, _ => .nil
  | _ :: _, [], [], .nil => .nil
  | k :: ks, z :: zs, u :: us, .cons a r => .cons ⟨rfl, a⟩ (kv_zip (ks := ks) r)
structure FnKs (P : Program) (w : World) (K : PySem.W.Frag) (mg : Str → Option Value) (base : Heap) (CX : CXT) (k : Nat) (f : Addr) (ks : List Str) (sp : Sp) : Prop where
  run : ∀ (A : Around) (outer : List Env) (s : Shared) (H : Hp) (u : Value) (v : V) (ws : List Value) (zs : List V) (Q : VK) (E : XK), Room k A → Env0 P w K mg base A outer s H → RelV v u → Vals zs ws → zs.length = ks.length → sp (v :: zs) H Q E →
    codeAny (model P w) A (.call (.ref f) ⟨[u], ks.zip ws⟩) (CR CX outer P w H s Q E) s
theorem fnKs_of {P : Program} {w : World} {K : PySem.W.Frag} {mg : Str → Option Value} {base : Heap} {CX : CXT} {k : Nat} {f : Addr} {fd : FuncData} {x qual p0 pd : Str} {params : Arguments} {body : List Stmt} {scope : Scope} {N : List Str} {sp : Sp} {ks : List Str}
    (F : FunD K x qual params body scope [] [] f fd) (S : FnScope N [p0, pd] scope) (hCX : StX.CXUp CX) (hn : ks.Nodup) (hz : ks.length ≤ 100)
    (hb : ∀ (kV doc pm : Value) (an : Option Addr) (cdv ct : Value) (a : Value) (ws : List Value), ws.length = ks.length → bindArgs (PySem.W.fnOf x qual params body scope .none kV doc pm an cdv ct) ⟨[a], ks.zip ws⟩ =
      ((alloc ({ cls := .type "dict", data := .dict #[] } : Obj) : Sem Addr) >>= fun d => (forIn (ks.zip ws) PUnit.unit fun x _ => (nsSet d x.1 x.2 >>= fun _ => pure (ForInStep.yield PUnit.unit))) >>= fun _ => pure [(p0, a), (pd, Value.ref d)]))
    (hbody : ∀ (cdv : Value) (A : Around) (outer : List Env) (s : Shared) (H : Hp) (vs : List V) (Q : VK) (E : XK), Room k (A.deeper (envOfC qual scope s.heap.objs.size f cdv)) → sp vs H Q E →
      ∃ t, PSs (cxOf CX P w K mg base N qual scope f cdv A outer s H E) body t ∧ t { nx := fun _ H' => Q .non H', rt := Q } (L2.start N vs) H) :
    FnKs P w K mg base CX (k + 1) f ks (fun vs H Q E => ∃ v zs, vs = v :: zs ∧ ∀ d, H d = none → sp [v, .ref d] (upd H d (.dK (kwV ks zs))) Q E) := by
  refine ⟨fun A outer s H u v ws zs Q E hr e0 ru rz hl hsp => ?_⟩
  obtain ⟨v', zs', e, hq⟩ := hsp
  injection e with e1 e2
  subst e1 e2
  obtain ⟨oc, od, dV, kV, doc, pm, an, cdv, ct, osl, rfl, lk, hcd, hD, _⟩ := F.ex
  rcases hD with ⟨_, rfl⟩ | ⟨e, _⟩
  · have hn0 : H s.heap.objs.size = none := e0.hok.fresh (Nat.le_refl _)
    have hwl : ws.length = ks.length := by rw [← rz.length]; exact hl
    refine StX.run_bnd lk hcd S hr e0 (G := fun xs H2 => ∃ d, H d = none ∧ xs = [v, .ref d] ∧ H2 = upd H d (.dK (kwV ks zs))) (fun A' Ex Q' h => ?_) fun s2 H2 xs ⟨d, hd, ex, eH⟩ hr' => ?_
    · rw [hb kV doc pm an cdv ct u ws hwl]
      refine wpAny_bind (wpAny_alloc (wpAny_bind ?_))
      have D0 : (s.heap.push ({ cls := .type "dict", data := .dict #[] } : Obj)).get? s.heap.objs.size = some (PySem.W.dictOf [] 0) := Heap.get?_push_size _ rfl
      have kz : ((ks.zip ws).map (·.1)) = ks := List.map_fst_zip (by omega)
      refine kw_fill (ks.zip ws) _ [] 0 D0 (fun _ he => nomatch he) (fun _ he => nomatch he) (by rw [kz]; exact hn) fun h' D' k' => wpAny_pure ?_
      have kp : ∀ b o, s.heap.get? b = some o → h'.get? b = some o := fun b o e => k' b o (Nat.ne_of_lt (Heap.lt_size e)) (Heap.get?_push_of_some _ e)
      have zlen : (kwV ks zs).length ≤ sizeLine := by
        unfold kwV
        rw [List.length_map, List.length_zip]
        exact Nat.le_trans (show _ ≤ 100 by omega) (by decide)
      have hsys : (s.heap.objs.size == sysModules) = false := beq_eq_false_iff_ne.mpr (Ne.symm (Nat.ne_of_lt (StX.env0_big e0)))
      have new : ObjOk P w (upd H s.heap.objs.size (.dK (kwV ks zs))) h' s.heap.objs.size (.dK (kwV ks zs)) := ⟨zlen, hsys, _, kv_zip rz, kwx_dict _ _ D' (by rw [kz]; exact hn)⟩
      have un : Un (frs outer) [] H (upd H s.heap.objs.size (.dK (kwV ks zs))) s.heap h' := Un.laid kp (Nat.le_refl _) hn0
      refine h { s with heap := h', toks := s.toks + (ks.zip ws).length } _ [v, .ref s.heap.objs.size] [u, .ref s.heap.objs.size] ⟨e0.frames, e0.mod, fun b o e => ⟨kp b o (e0.bs b o e).1, ?_⟩, ?_, Heap.FunFrames.of_keeps (fun b o e _ => ⟨o, kp b o e, rfl⟩) e0.funs, fun b hb => ?_, e0.hok.laid kp (Nat.le_refl _) new, e0.bare⟩ un rfl
        (fun e s' z => hCX outer s H { s with heap := h', toks := s.toks + (ks.zip ws).length } _ E e s' un kp rfl z) (.cons ru (.cons rfl .nil)) rfl ⟨_, hn0, rfl, rfl⟩
      · rw [upd_ne (Nat.ne_of_lt (Heap.lt_size (e0.bs b o e).1))]
        exact (e0.bs b o e).2
      · have h1 := Heap.lt_size D'
        exact Nat.le_trans e0.bsz (Nat.le_of_lt h1)
      · obtain ⟨_, o, ho, _⟩ := e0.funs.mem hb
        rw [upd_ne (Nat.ne_of_lt (Heap.lt_size ho))]
        exact e0.frf b hb
    · subst ex eH
      exact hbody cdv A outer s2 _ _ Q E hr' (hq d hd)
  · exact absurd rfl e
/-! ### **d in a call: its pairs are merged into a new dict, and read off it -/
section
variable {prog : Program} {w : World} {A : Around} {E : Value → Shared → Prop} {s : Shared}
theorem key_noref {k : Key} {v : Value} (h : (mixKind prog w).is k v = true) : ∀ a, v ≠ .ref a := fun a z => by
  rcases keyIs_shape h with ⟨i, t, _, e⟩ | ⟨x, t, _, e⟩ <;> rw [e] at z <;> cases z
theorem wpAny_dictPutNew {t : Sem Unit} {d : Addr} {kvs : List (Key × Value)} {k : Key} {key v : Value} {Q : Unit → Shared → Prop} (hkey : (mixKind prog w).is k key = true) (hm : s.heap.DictOf (mixKind prog w) d kvs) (hnot : k ∉ kvs.map (·.1))
    (hQ : ∀ h', h'.DictOf (mixKind prog w) d (kvs ++ [(k, v)]) → Heap.SameBut d s.heap h' → Q () { s with heap := h' }) (hsz : kvs.length ≤ sizeLine) :
    wpAny (model prog w) A (dictFind d key ((mixKind prog w).hash k) >>= fun r => if r.isSome = true then t else dictPut d ((mixKind prog w).hash k) key v) Q E s := by
  obtain ⟨o, es, ep, ho, hc, hd, hk, hp, hn⟩ := hm
  have hes : es.size ≤ sizeLine := by
    have e1 := hp.length
    have e2 : es.toList.length = es.size := by simp
    omega
  have hidx : (es.findIdx? fun e => (mixKind prog w).is k e.key) = kvs.findIdx? fun kv => decide (kv.1 = k) := by
    rw [← hp.findIdx k]; obtain ⟨l⟩ := es; simp
  have hnone : (es.findIdx? fun e => (mixKind prog w).is k e.key) = none := by
    rw [hidx, List.findIdx?_eq_none_iff]
    intro x hx
    exact decide_eq_false fun e => hnot (e ▸ List.mem_map_of_mem hx)
  refine wpAny_bind (wpAny_dictFind_of hkey ho hd hk ?_)
  rw [hnone, if_neg (by simp)]
  unfold dictPut
  refine wpAny_bind (wpAny_dictFind_of hkey ho hd hk ?_)
  rw [hnone]
  refine wpAny_updateDictKeys (hz := hes) ho hd (hQ _ ⟨_, _, ep + 1, Heap.get?_update_self _ ho (Obj.isFreed_of_dict (Obj.data_mapDictKeys hd _)), hc.mapDictKeys _, Obj.data_mapDictKeys hd _, hk.push hkey _, ?_, ?_⟩ (Heap.SameBut.update ..))
  · have := hp.append hkey ((mixKind prog w).hash k) v
    obtain ⟨l⟩ := es
    simpa using this
  · rw [List.map_append, List.nodup_append]
    refine ⟨hn, by simp, ?_⟩
    intro a ha b hb
    simp only [List.map_cons, List.map_nil, List.mem_singleton] at hb
    subst hb
    exact fun e => hnot (e ▸ ha)
theorem wpAny_mergeMap {d o : Addr} {more : List (Key × Value)} {Q : Unit → Shared → Prop} (hdo : d ≠ o) (hoS : (o == sysModules) = false)
    (hd : s.heap.DictOf (mixKind prog w) d []) (ho : s.heap.DictOf (mixKind prog w) o more)
    (hQ : ∀ h', h'.DictOf (mixKind prog w) d more → Heap.SameBut d s.heap h' → Q () { s with heap := h' }) (hsz : more.length ≤ sizeLine) :
    wpAny (model prog w) A (mergeMapping d (.ref o) true) Q E s := by
  obtain ⟨od, esd, epd, hod, hcd, hdd, hkd, hpd, hnd⟩ := id hd
  obtain ⟨oo, eso, epo, hoo, hco, hdo', hko, hpo, hno⟩ := id ho
  have hlen : more.length = eso.size := by rw [← hpo.length]; simp
  unfold mergeMapping
  refine wpAny_bind (wpAny_isInstance ho.typeIs isSubtype_dict_dict ?_)
  simp only [if_true]
  refine wpAny_bind (wpAny_specialOf ho.typeIs F.slot_dict_iter.lookup ?_)
  simp only [beq_self_eq_true]
  refine wpAny_bind (wpAny_pure ?_)
  dsimp only
  rw [if_neg (by rw [hoS]; exact Bool.false_ne_true)]
  have h0 : esd = #[] := by
    have z := hpd.length
    have z2 : esd.toList.length = 0 := z
    exact Array.eq_empty_of_size_eq_zero (by simpa using z2)
  refine wpAny_bind (wpAny_dictEntries hod hdd ?_)
  rw [if_pos (by rw [h0]; rfl)]
  refine wpAny_bind (wpAny_dictEntries hoo hdo' ?_)
  refine wpAny_bind ?_
  rw [← Array.forIn_toList]
  refine wpAny_forIn_list _ (fun rest _ s' => s' = s ∧ ∀ e ∈ rest, e ∈ eso.toList) _ ?_ ?_ _ _ ⟨rfl, fun _ h => h⟩
  · rintro x rest b s' ⟨rfl, hm⟩
    have hx : x ∈ eso := by simpa using hm x (List.mem_cons_self ..)
    obtain ⟨k', hkey', hhash⟩ := hko x hx
    have nr := key_noref hkey'
    split
    · rename_i a' e'
      exact absurd e' (nr a')
    · exact wpAny_pure ⟨rfl, fun e he => hm e (List.mem_cons_of_mem _ he)⟩
  · rintro b s' ⟨rfl, _⟩
    refine wpAny_bind (wpAny_dictEntries hoo hdo' ?_)
    refine wpAny_bind (wpAny_dictEpoch hoo hdo' ?_)
    refine wpAny_bind ?_
    have er : List.range eso.size = List.range' 0 eso.size := List.range_eq_range'
    rw [er]
    refine wpAny_forIn_list _
      (fun rest _ s2 => ∃ h' i, s2 = { s' with heap := h' } ∧ rest = List.range' i (eso.size - i) ∧ i ≤ eso.size ∧ h'.DictOf (mixKind prog w) d (more.take i) ∧ h'.get? o = some oo ∧ Heap.SameBut d s'.heap h')
      _ ?_ ?_ _ _ ⟨s'.heap, 0, rfl, by simp, Nat.zero_le _, by simpa using hd, hoo, Heap.SameBut.refl _ _⟩
    · rintro x rest b s2 ⟨h', i, rfl, hr, hi, hd', hoo', hs'⟩
      have hlt : i < eso.size := by
        rcases Nat.lt_or_ge i eso.size with h | h
        · exact h
        · rw [Nat.sub_eq_zero_of_le h] at hr; simp at hr
      obtain ⟨rfl, hrest⟩ : x = i ∧ rest = List.range' (i + 1) (eso.size - (i + 1)) := by
        have e : eso.size - i = (eso.size - (i + 1)) + 1 := by omega
        rw [e, List.range'_succ] at hr
        injection hr with h1 h2
        exact ⟨h1, h2⟩
      refine wpAny_bind (wpAny_dictEntries hoo' hdo' ?_)
      rw [Array.getElem?_eq_getElem hlt]
      obtain ⟨kv, hkv⟩ : ∃ kv, more[x]? = some kv := ⟨more[x]'(by rw [hlen]; exact hlt), List.getElem?_eq_getElem _⟩
      obtain ⟨k, v⟩ := kv
      obtain ⟨hkey, hval⟩ := hpo.get? (e := eso[x]) (by simp [hlt]) hkv
      obtain ⟨k', hkey', hhash⟩ := hko eso[x] (Array.getElem_mem hlt)
      obtain rfl : k' = k := (mixKind prog w).inj _ _ _ hkey' hkey
      have fresh : k' ∉ (more.take x).map (·.1) := by
        intro hin
        have hx2 : x < more.length := by rw [hlen]; exact hlt
        have e1 : more = more.take x ++ more.drop x := (List.take_append_drop x more).symm
        have e2 : more.drop x = (k', v) :: more.drop (x + 1) := by
          rw [List.drop_eq_getElem_cons hx2]
          have : more[x] = (k', v) := by
            have := List.getElem?_eq_getElem hx2
            rw [hkv] at this
            exact (Option.some.inj this).symm
          rw [this]
        rw [e1, e2, List.map_append, List.map_cons, List.nodup_append] at hno
        exact hno.2.2 _ hin _ List.mem_cons_self rfl
      dsimp only
      rw [hhash, hval]
      have hmx : (more.take x).length ≤ sizeLine := by
        have e2 : (more.take x).length ≤ more.length := by rw [List.length_take]; omega
        omega
      refine wpAny_bind (wpAny_holding (wpAny_dictPutNew hkey hd' fresh (fun h'' hd'' hs'' => ?_) hmx))
      have hoo'' : h''.get? o = some oo := (hs''.2 o (Ne.symm hdo)).trans hoo'
      refine wpAny_bind (wpAny_dictEpoch hoo'' hdo' ?_)
      rw [if_neg (by simp)]
      refine wpAny_pure ⟨h'', x + 1, rfl, hrest, hlt, ?_, hoo'', hs'.trans hs''⟩
      rw [List.take_add_one, hkv]
      exact hd''
    · rintro b s2 ⟨h', i, rfl, hr, hi, hd', hoo', hs'⟩
      have hin : i = eso.size := by
        rcases Nat.lt_or_ge i eso.size with h | h
        · have e : eso.size - i = (eso.size - (i + 1)) + 1 := by omega
          rw [e, List.range'_succ] at hr; exact nomatch hr
        · exact Nat.le_antisymm hi h
      refine wpAny_pure (hQ h' ?_ hs')
      rw [hin, ← hlen, List.take_length] at hd'
      exact hd'
end
section
variable {prog : Program} {w : World} {A : Around} {E : Value → Shared → Prop} {s : Shared}
abbrev emptyD : Obj := { cls := .type "dict", data := .dict #[] }
theorem emptyD_of {h : Heap} {d : Addr} (e : h.get? d = some emptyD) : h.DictOf (mixKind prog w) d [] := ⟨_, #[], 0, e, ⟨rfl, rfl, rfl⟩, rfl, fun _ h => by simp at h, .nil, List.nodup_nil⟩
theorem wpAny_mergedOne {x : Sem Value} {f : Value} {Q : Addr → Shared → Prop}
    (h : wpAny (model prog w) A x (fun v s1 => ∃ o more, v = .ref o ∧ (o == sysModules) = false ∧ s1.heap.DictOf (mixKind prog w) o more ∧ more.length ≤ sizeLine ∧ s1.heap.get? s.heap.objs.size = some emptyD ∧ s.heap.objs.size ≠ o ∧
      ∀ h', h'.DictOf (mixKind prog w) s.heap.objs.size more → Heap.SameBut s.heap.objs.size s1.heap h' → Q s.heap.objs.size { s1 with heap := h' }) E { s with heap := s.heap.push emptyD }) :
    wpAny (model prog w) A (mergedKeywords f [(none, x)]) Q E s := by
  unfold mergedKeywords
  refine wpAny_bind (wpAny_alloc ?_)
  refine wpAny_bind (wpAny_holding ?_)
  dsimp only
  rw [List.forIn_cons]
  dsimp only
  refine wpAny_bind (wpAny_bind ?_)
  rw [if_pos (by rfl)]
  refine wpAny_bind (wpAny_pure ?_)
  refine wpAny_bind (wpAny_mono h (fun v s1 hv => ?_) fun _ _ z => z)
  obtain ⟨o, more, rfl, hoS, ho, hsz, hd, hne, hQ⟩ := hv
  have go : ∀ (P : Unit → Shared → Prop) (E' : Value → Shared → Prop), (∀ h', h'.DictOf (mixKind prog w) s.heap.objs.size more → Heap.SameBut s.heap.objs.size s1.heap h' → P () { s1 with heap := h' }) → wpAny (model prog w) A (mergeMapping s.heap.objs.size (.ref o) true) P E' s1 :=
    fun P E' hP => wpAny_mergeMap hne hoS (emptyD_of hd) ho hP hsz
  refine wpAny_bind (wpAny_onRaise (wpAny_holding (wpAny_tryCatch (wpAny_onRaise (go _ _ fun h' hd' hs' => ?_)))))
  refine wpAny_pure ?_
  dsimp only
  rw [List.forIn_nil]
  refine wpAny_pure ?_
  rw [if_pos (by rfl)]
  exact wpAny_pure (wpAny_pure (hQ h' hd' hs'))
theorem wpAny_keywordsIn {f : Value} {d : Addr} {kvs : List (Str × Value)} {Q : List (Str × Value) → Shared → Prop} (hd : s.heap.DictOf (mixKind prog w) d (kvs.map fun x => ((Sum.inr x.1 : Key), x.2))) (h : Q kvs s) : wpAny (model prog w) A (keywordsIn f d) Q E s := by
  obtain ⟨o, es, ep, ho, hc, hdd, hk, hp, hn⟩ := hd
  have hlen : kvs.length = es.size := by
    have z := hp.length
    rw [List.length_map] at z
    have z2 : es.toList.length = es.size := by simp
    omega
  unfold keywordsIn
  refine wpAny_bind (wpAny_dictEntries ho hdd ?_)
  refine wpAny_bind ?_
  rw [← Array.forIn_toList]
  refine wpAny_forIn_list _ (fun rest b s' => s' = s ∧ ∃ i, rest = es.toList.drop i ∧ b = kvs.take i) _ ?_ ?_ _ _ ⟨rfl, 0, by simp, by simp⟩
  · rintro x rest b s' ⟨rfl, i, hr, rfl⟩
    have hlt : i < es.toList.length := by
      rcases Nat.lt_or_ge i es.toList.length with h' | h'
      · exact h'
      · rw [List.drop_of_length_le h'] at hr; cases hr
    rw [List.drop_eq_getElem_cons hlt] at hr
    injection hr with hx hrest
    have hlk : i < kvs.length := by
      have : es.toList.length = es.size := by simp
      omega
    cases hkv : kvs[i]
    rename_i k v
    have hk1 : kvs[i]? = some (k, v) := by rw [List.getElem?_eq_getElem hlk, hkv]
    have hk2 : (kvs.map fun x => ((Sum.inr x.1 : Key), x.2))[i]? = some ((Sum.inr k : Key), v) := by rw [List.getElem?_map, hk1]; rfl
    obtain ⟨hkey, hval⟩ := hp.get? (e := x) (by rw [hx]; exact List.getElem?_eq_getElem hlt) hk2
    rcases keyIs_shape (k := (Sum.inr k : Key)) (v := x.key) hkey with ⟨j, t, e1, _⟩ | ⟨y, t, e1, e2⟩
    · cases e1
    · obtain rfl : k = y := Sum.inr.inj e1
      split
      · rename_i z tk e3
        rw [e2] at e3
        injection e3 with e4 _
        subst e4
        refine wpAny_pure ⟨rfl, i + 1, hrest, ?_⟩
        rw [List.take_add_one, hk1, hval]
        rfl
      · rename_i hno
        exact absurd e2 (hno _ _)
  · rintro b s' ⟨rfl, i, hr, rfl⟩
    have hge : es.toList.length ≤ i := by
      rcases Nat.lt_or_ge i es.toList.length with h' | h'
      · rw [List.drop_eq_getElem_cons h'] at hr; cases hr
      · exact h'
    have e : kvs.take i = kvs := List.take_of_length_le (by
      have : es.toList.length = es.size := by simp
      omega)
    rw [e]
    exact wpAny_pure h
end
theorem kv_unzip : ∀ {ks : List Str} {zs : List V} {vs : List (Key × Value)}, KV (kwV ks zs) vs → zs.length = ks.length → ∃ ws, Vals zs ws ∧ vs = (ks.zip ws).map fun x => ((Sum.inr x.1 : Key), x.2)
  | [], [], _, .nil, _ => ⟨[], .nil, rfl⟩
  | [], _ :: _, _, _, h => by cases h
  | _ :: _, [], _, _, h => by cases h
  | k :: ks, z :: zs, (a, u) :: vs, .cons ⟨e, r⟩ t, h => by
    obtain ⟨ws, rw', ew⟩ := kv_unzip (ks := ks) (zs := zs) t (Nat.succ.inj h)
    refine ⟨u :: ws, .cons r rw', ?_⟩
    have e' : (Sum.inr k : Key) = a := e
    rw [ew, ← e']
    rfl
section
variable {M : Model} {A : Around} {E : Value → Shared → Prop} {s : Shared}
theorem callWith_SS {f : Value} {pos : Pos} {x : Sem Value} {Q : Value → Shared → Prop} {P : Heap → Prop} (hk : ∀ h, P h → ∃ k, (k = Keeper.frame ∨ k = Keeper.machine ∨ k = Keeper.boundFrame) ∧ PySem.W.Looks M h (keeperOf f) k)
    (h : wpAny M A (evalArgs f true [] [(none, x)]) (fun a s₁ => P s₁.heap ∧ wpAny M A (call f ([] ++ a.pos) a.kw) Q E s₁) E s) : wpAny M A (callWith pos f [] [] [(none, x)]) Q E s := by
  unfold callWith
  refine wpAny_bind (wpAny_holding (wpAny_mono h (fun a s₁ h₁ => wpAny_bind (wpAny_standAt ?_)) fun _ _ x => x))
  obtain ⟨k, hk', L⟩ := hk _ h₁.1
  simp only [List.any_nil, List.any_cons, Option.isNone_none, Bool.false_or, Bool.true_or]
  refine wpAny_bind (L.here ?_)
  have tail : ∀ {t : Sem Value}, wpAny M A t Q E s₁ → wpAny M A (t >>= fun r => holding [r] point >>= fun _ => pure r) Q E s₁ :=
    fun ht => wpAny_bind (wpAny_mono ht (fun r s₂ hr => wpAny_bind (wpAny_holding (wpAny_point (wpAny_pure hr)))) fun _ _ x => x)
  have marked (mk : Value) : wpAny M A (callMarked mk f ([] ++ a.pos) a.kw) Q E s₁ := by unfold callMarked; exact Calls.wpAny_keep h₁.2
  rcases hk' with rfl | rfl | rfl <;> dsimp only <;> first | exact tail (marked _) | exact tail (wpAny_operating h₁.2)
theorem evalArgs_SS {f : Value} {x : Sem Value} {Q : Args → Shared → Prop} (h : wpAny M A (mergedKeywords f [(none, x)]) (fun d s1 => wpAny M A (keywordsIn f d) (fun kw s2 => Q ⟨[], kw⟩ s2) E s1) E s) : wpAny M A (evalArgs f true [] [(none, x)]) Q E s := by
  unfold evalArgs
  simp only [spliced]
  refine wpAny_bind (wpAny_bind (wpAny_pure (wpAny_pure ?_)))
  refine wpAny_bind (wpAny_pure ?_)
  refine wpAny_holding ?_
  dsimp only
  rw [if_neg (by simp)]
  refine wpAny_bind (wpAny_mono h (fun d s1 h1 => ?_) fun _ _ z => z)
  refine wpAny_bind (wpAny_pure ?_)
  exact wpAny_bind (wpAny_holding (wpAny_mono h1 (fun kw s2 h2 => wpAny_pure h2) fun _ _ z => z))
end
/-- C(**e): e a dict of the names ks -/
def tMakeSS (C : Addr) (ks : List Str) (sp : Sp) (gV : List V → List V → List V) (E : XK) (te : TE) : TE := fun σ H Q => te σ H fun y H1 => ∃ o zs, y = .ref o ∧ H1 o = some (.dK (kwV ks zs)) ∧ zs.length = ks.length ∧ ∀ x dx, H1 x = none → H1 dx = none → dx ≠ x →
  sp (gV [.ref x] zs) (upd (upd H1 dx (.own x)) x (.ins C dx [])) (fun v H3 => v = .non ∧ Q (.ref x) H3) E
theorem pe_makeSS {X : Cx} {CX : CXT} {k : Nat} {f C : Addr} {fd : FuncData} {ps ks : List Str} {sp : Sp} {E : XK} {x : Str} {p pos : Pos} {e : Expr} {kws : List Keyword} {te : TE} {g : List Value → List Value → List Value} {gV : List V → List V → List V}
    (M : Mk X.K C f) (F : FnOk X.prog X.w X.K X.mg X.base CX k f fd ps sp) (hr : Room (k + 1) X.A) (hg : Gl X x) (hm : X.mg x = some (.ref C)) (hb : KBn X.K fd ps 1 ks g gV) (hx : Passes CX X E) (he : PE X e te)
    (hdb : (x == ("__debug__" : Str)) = false := by decide) (hkw : backToKw pos (keywordEach kws X.env) = [(none, (do let v ← eval e X.env; standAt pos; pure v))] := by rfl) (hpos : backTo pos (starEach [] X.env) = [] := by rfl) :
    PE X (.Call (.Name x p) [] kws pos) (tMakeSS C ks sp gV E te) := by
  refine ⟨fun pins s σ H Q I h => ?_⟩
  refine wpAny_Call_Name_kw (ld_glob I hg hm ?_ hdb)
  rw [hkw, hpos]
  refine callWith_SS (P := X.K.In) (PySem.W.keeps_K M.kp) (evalArgs_SS (wpAny_mergedOne ?_))
  have hn : H s.heap.objs.size = none := I.hok.fresh (Nat.le_refl _)
  have I1 : Inv X pins σ H { s with heap := s.heap.push emptyD } := I.kept (t' := s.toks) fun b o e => Heap.get?_push_of_some _ e
  have hd : (s.heap.push emptyD).get? s.heap.objs.size = some emptyD := Heap.get?_push_size _ rfl
  have I2 : Inv X ((s.heap.objs.size, emptyD) :: pins) σ H { s with heap := s.heap.push emptyD } := I1.pins_of fun q hq => by
    rcases List.mem_cons.mp hq with e | e
    · subst e
      exact ⟨hd, hn, Nat.ne_of_gt I.lt, I.nofs (Nat.le_refl _), fun v z => nomatch z⟩
    · exact I1.pin q (List.mem_append_right _ e)
  refine wpAny_bind (thn (he.run _ _ σ H _ I2 h) fun v s1 hv => wpAny_bind (wpAny_standAt (wpAny_pure ?_)))
  obtain ⟨y, H1, I3, ry, o, zs, rfl, ho, hl, hq⟩ := hv
  obtain rfl : v = Value.ref o := ry
  obtain ⟨hz, hsys, vs, kv, hdo⟩ := (show ObjOk X.prog X.w H1 s1.heap o (.dK (kwV ks zs)) from I3.hok o _ ho)
  obtain ⟨ws, rws, ews⟩ := kv_unzip kv hl
  have P3 := I3.pin (s.heap.objs.size, emptyD) (List.mem_append_right _ List.mem_cons_self)
  have I4 : Inv X pins σ H1 s1 := I3.pins_of fun q hq => I3.pin q (List.mem_append_right _ (List.mem_cons_of_mem _ hq))
  have ne : s.heap.objs.size ≠ o := fun z => by
    rw [← z] at ho
    rw [P3.2.1] at ho
    cases ho
  refine ⟨o, vs, rfl, hsys, hdo, (by rw [← kv.length]; exact hz), P3.1, ne, fun h' hd' hs' => ?_⟩
  have fp : FpOk X pins H1 s.heap.objs.size := ⟨P3.2.1, (I.fpOk (Nat.le_refl _) hn).2.1, (I.fpOk (Nat.le_refl _) hn).2.2.1, (I.fpOk (Nat.le_refl _) hn).2.2.2.1, (I.fpOk (Nat.le_refl _) hn).2.2.2.2.1, (I.fpOk (Nat.le_refl _) hn).2.2.2.2.2⟩
  have I5 : Inv X pins σ H1 { s1 with heap := h' } := I4.turned (t' := s1.toks) (fun b o hb e => (hs'.2 b hb).trans e) fp.1 fp.2.1 fp.2.2.2.1 fp.2.2.2.2.1 fp.2.2.2.2.2
  rw [ews] at hd'
  refine wpAny_keywordsIn (prog := X.prog) (w := X.w) hd' ⟨I5.kIn, ?_⟩
  exact run_makeK (us := []) (vs := []) (n := 0) M F hr hb hx I5 .nil rws rfl hl hq
/-! ### o.m(k = v, ..), m a def with **kw -/
def tMethKs (C : Addr) (m : Str) (n : Nat) (sp : Sp) (E : XK) (ta : TE) (tk : TA) : TE := fun σ H Q => ta σ H fun x H1 => ∃ a dx fs, x = .ref a ∧ H1 a = some (.ins C dx fs) ∧ fs.lookup m = none ∧ tk σ H1 fun zs H2 => zs.length = n ∧ sp (x :: zs) H2 Q E
section
variable {X : Cx} {CX : CXT} {k : Nat} {f C : Addr} {ks : List Str} {sp : Sp} {E : XK} {m : Str} {pos apos : Pos} {o : Expr} {kws : List Keyword} {ta : TE} {tk : TA} {pl : Sem Bool}
theorem run_fnKs {pins : List (Addr × Obj)} {σ : L2.St} {H : Hp} {s : Shared} {Q : VK} {a : Addr} {ws : List Value} {zs : List V} (F : FnKs X.prog X.w X.K X.mg X.base CX k f ks sp) (hr : Room k X.A) (hx : Passes CX X E)
    (I : Inv X pins σ H s) (rz : Vals zs ws) (l2 : zs.length = ks.length) (h : sp (.ref a :: zs) H Q E) : wpAny (model X.prog X.w) X.A (call (.ref f) [.ref a] (ks.zip ws)) (EP X pins σ Q) X.xe s := by
  refine wpAny_call (codeAny_mono (F.run X.A X.stack s H (.ref a) (.ref a) ws zs Q E hr I.env0 rfl rz l2 h) fun r s' hq => ?_)
  cases r with
  | error e => exact hx pins σ H s e s' I hq
  | ok fl =>
    cases fl with
    | ret u => exact I.after hq
    | next => exact False.elim hq
    | brk => exact False.elim hq
    | cont => exact False.elim hq
theorem pe_methKs (he : PE X o ta) (c : Cls X.K C) (hm : Meth X.K C m f) (F : FnKs X.prog X.w X.K X.mg X.base CX k f ks sp) (hr : Room k X.A) (hx : Passes CX X E) (hkw : PK X kws tk)
    (hall : (backToKw pos (keywordEach kws X.env)).all (·.1.isSome) = true := by rfl) (hks : (backToKw pos (keywordEach kws X.env)).filterMap (·.1) = ks := by rfl)
    (hpl : ((backTo pos (starEach [] X.env)).any (·.1) || (backToKw pos (keywordEach kws X.env)).any (·.1.isNone)) = false := by rfl)
    (ht : eval (.Call (.Attribute o m apos) [] kws pos) X.env = (do
      let ov ← eval o X.env
      standAt apos.atName
      let (f, first) ← holding [ov] (getMethod ov m pl)
      callWith pos f first (backTo pos (starEach [] X.env)) (backToKw pos (keywordEach kws X.env))) := by rfl) :
    PE X (.Call (.Attribute o m apos) [] kws pos) (tMethKs C m ks.length sp E ta tk) := by
  refine ⟨fun pins s σ H Q I h => ?_⟩
  refine PySem.W.methodCall_KW (pl := pl) (thn (he.run pins s σ H _ I h) fun u s1 ⟨x, H1, I1, rx, a, dx, fs, ex, ea, l, q⟩ => ?_) ht
  subst ex
  obtain rfl : u = Value.ref a := rx
  refine getmeth_ok I1 ea c hm l ?_
  refine PySem.W.callWith_KW0 (first := [.ref a]) (h₀ := X.base) I.ok.mod.kin hm.kp hall ?_ hpl
  refine thn (hkw.run pos pins s1 σ H1 _ I1 q) fun ws s2 ⟨zs, H2, I2, rz, l2, q2⟩ => ⟨I2.kIn, ?_⟩
  rw [hks]
  exact run_fnKs F hr hx I2 rz l2 q2
end
/-! ### d.update(e), e another dict -/
def rDUpd : V → List V → Hp → VK → Prop := fun x vs H Q => ∃ (a o : Addr) (kvs more : List (Key × V)), x = .ref a ∧ vs = [.ref o] ∧ H a = some (.dK kvs) ∧ H o = some (.dK more) ∧ a ≠ o ∧ kvs.length + more.length ≤ sizeLine ∧ Q .non (upd H a (.dK (mergeK kvs more)))
theorem mtd_update {X : Cx} : MtR X "dict.update" rDUpd := by
  intro pins s σ H x vs v us Q I rx rv h
  obtain ⟨a, o, kvs, more, ex, ev, e, eo, ne, hz, q⟩ := h
  subst ex
  subst ev
  obtain rfl : v = Value.ref a := rx
  cases rv with
  | cons r0 r1 =>
    cases r1
    rename_i u
    obtain rfl : u = Value.ref o := r0
    obtain ⟨z, hd, ks, rel, dd⟩ := dk_of I.hok e
    obtain ⟨z2, hd2, ks2, rel2, dd2⟩ := dk_of I.hok eo
    refine call_meetsIn PySem.F.slot_dict_update dd.typeIs PySem.F.entry_dict_update (PySem.F.args_dict_update_2 _ _) (meets_dict_update (mixKind X.prog X.w) a o ne hd2) ⟨ks, ks2, dd, dd2, by rw [← rel.length, ← rel2.length]; exact hz, fun h' dd' _ hs => ⟨.non, _, ?_, rfl, q⟩⟩
    have he : ∃ q, h'.get? a = some q := let ⟨q, _, _, hq, _⟩ := dd'; ⟨q, hq⟩
    have hm : (mergeK kvs more).length ≤ sizeLine := Nat.le_trans (length_mergeK more kvs) hz
    exact d_write (t' := s.toks) I (by rw [e]; exact True.intro) hs he (dk_new hm hd (rel2.merge rel) dd')
end Hue

set_option Elab.async false
set_option linter.all false
set_option maxRecDepth 100000
set_option maxHeartbeats 4000000
/-! o.f = v, f a property with a setter -/
namespace Hue
open PySem PySem.Spec PyProof.Rows L2
def sPset (C : Addr) (ta tv : TE) (sp : Sp) (E : XK) : TS := fun D σ H => tv σ H fun y H1 => ta σ H1 fun x H2 => ∃ a dx fs, x = .ref a ∧ H2 a = some (.ins C dx fs) ∧ sp [.ref a, y] H2 (fun _ H3 => D.nx σ H3) E
section
variable {X : Cx} {CX : CXT} {k : Nat} {C p g : Addr} {f : Str} {fd : FuncData} {ps : List Str} {sp : Sp} {E : XK} {o value : Expr} {pos pos' : Pos} {ta tv : TE}
theorem setprop_ok {pins : List (Addr × Obj)} {σ : L2.St} {H : Hp} {s : Shared} {Q : VK} {a dx : Addr} {fs : List (Str × V)} {y : V} {u : Value} {Qd : Unit → Shared → Prop} (I : Inv X pins σ H s) (ea : H a = some (.ins C dx fs)) (c : Cls X.K C) (hp : PSetOf X.K C f p g)
    (F : FnOk X.prog X.w X.K X.mg X.base CX k g fd ps sp) (hr : Room (k + 2) X.A) (hb : Binds X.K fd ps []) (hx : Passes CX X E) (ry : RelV y u) (h : sp [.ref a, y] H Q E) (hq : ∀ v H' s', Inv X pins σ H' s' → Q v H' → Qd () s') :
    wpAny (model X.prog X.w) X.A (setAttr (.ref a) f u) Qd X.xe s := by
  obtain ⟨mA, O, _, _, _, _⟩ := ins_get I.hok ea
  obtain ⟨od, J, _⟩ := O.look
  obtain ⟨z, rest, hrec⟩ := hp.rc
  have I1 := I.tok (s.toks + 1)
  have hl : ([Value.ref a, u] ++ []).length = ps.length := by
    rw [← F.len _ _ _ _ h]; rfl
  refine PySem.W.set_plain I.kIn J c.sa (PySem.W.osa_descr (s := { s with toks := s.toks + 1 }) PySem.W.KF.slot_pset I.kIn J c.po hp.tk hp.ty (PySem.W.prop_set (s := { s with toks := s.toks + 1 }) I.kIn hrec ?_))
  refine codeAny_mono (F.run X.A.in1.in1 X.stack { s with toks := s.toks + 1 } H ⟨[.ref a, u], []⟩ [.ref a, u] [.ref a, y] Q E hr.in1.in1 I1.env0.in1.in1 (hb _ [.ref a, u] I1.kIn hl) (.cons rfl (.cons ry .nil)) h) fun r s' hq' => ?_
  cases r with
  | error er => exact hx pins σ H { s with toks := s.toks + 1 } er s' I1 hq'
  | ok fl =>
    cases fl with
    | ret u =>
      obtain ⟨v, H', I3, rv, q3⟩ := I1.after hq'
      exact hq v H' s' I3 q3
    | next => exact False.elim hq'
    | brk => exact False.elim hq'
    | cont => exact False.elim hq'
theorem ps_pset (c : Cls X.K C) (hp : PSetOf X.K C f p g) (F : FnOk X.prog X.w X.K X.mg X.base CX k g fd ps sp) (hr : Room (k + 2) X.A) (hb : Binds X.K fd ps []) (hx : Passes CX X E) (ha : PE X o ta) (hv : PE X value tv)
    (hs : swapsWith value (some (.Attribute o f pos')) pos.line X.env = pure false := by rfl) : PS X (.Assign [.Attribute o f pos'] value pos) (sPset C ta tv sp E) := by
  refine ⟨fun pins s σ H D I h => ?_⟩
  refine plainObj_wpAny_Assign_Attribute (thn (hv.run pins s σ H _ I h) fun u s1 ⟨y, H1, I1, ry, q⟩ => thn (ha.run pins s1 σ H1 _ I1 q) fun ov s2 ⟨x, H2, I2, rx, a, dx, fs, ex, ea, q2⟩ => ?_) hs
  subst ex
  obtain rfl : ov = Value.ref a := rx
  exact setprop_ok I2 ea c hp F hr hb hx ry q2 fun v H' s' I3 q3 => ⟨σ, H', I3, q3⟩
end
end Hue

set_option Elab.async false
set_option linter.all false
set_option maxRecDepth 100000
set_option maxHeartbeats 1000000
/-! a list and a tuple walked together; defs with a starred parameter as methods; {x:spec} -/
namespace Hue
open PySem PySem.Spec PyProof.Rows L2

/-! ### zip(list, tuple) -/
def ItLT (K : PySem.W.Frag) (a b : Addr) : It :=
  ⟨fun i H => ∃ (us zs : List V) (u z : V), SqL K H a us ∧ SqT K H b zs ∧ us[i]? = some u ∧ zs[i]? = some z,
    fun i H v H' => ∃ q u z, v = .ref q ∧ H q = none ∧ H' = L2.upd H q (.tup [u, z]) ∧ (∀ us, SqL K H a us → us[i]? = some u) ∧ ∀ zs, SqT K H b zs → zs[i]? = some z,
    fun i H => ∃ us zs : List V, SqL K H a us ∧ SqT K H b zs ∧ i ≤ us.length ∧ i ≤ zs.length ∧ (i = us.length ∨ i = zs.length)⟩
structure LtApart (z ti tq i1 i2 a b : Addr) : Prop where
  s : ZipSep2 z ti tq i1 i2 [i1, a] [i2, b]
  n1 : a ≠ i1
  n2 : b ≠ i2
  n3 : tq ≠ i1
  n4 : tq ≠ i2
abbrev ltC (z ti tq i1 i2 : Addr) : List Addr := [z, ti, tq, i1, i2]
theorem ltC_mem {z ti tq i1 i2 c : Addr} (h : c ∈ ltC z ti tq i1 i2) : c = z ∨ c = ti ∨ c = tq ∨ c = i1 ∨ c = i2 := by simpa using h
theorem turn_LT {P : Program} {w : World} {K : PySem.W.Frag} {elts : List Expr} {kk : Nat} {tpos : Pos} {a b z ti tq i1 i2 : Addr} (Z : LtApart z ti tq i1 i2 a b) :
    Turn P w K (.Tuple elts kk tpos) (ItLT K a b) (ltC z ti tq i1 i2) z (fun i h => IsZip h z ti tq .none ∧ IsTupOf2 h ti (.ref i1) (.ref i2) ∧ (∃ u v, IsTupOf2 h tq u v) ∧ h.IsListIter i1 a i ∧ h.IsTupleIter i2 b i) where
  mem := List.mem_cons_self
  obj := fun i h st c hc => by
    obtain ⟨hz, hti, ⟨u, v, htq⟩, ⟨o1, e1, _, d1⟩, ⟨o2, e2, _, d2⟩⟩ := st
    rcases ltC_mem hc with rfl | rfl | rfl | rfl | rfl
    · exact ⟨_, hz, nofun⟩
    · exact ⟨_, hti, nofun⟩
    · exact ⟨_, htq, nofun⟩
    · exact ⟨o1, e1, fun v q => by rw [d1] at q; cases q⟩
    · exact ⟨o2, e2, fun v q => by rw [d2] at q; cases q⟩
  keep := fun i h h' ⟨hz, hti, ⟨u, v, htq⟩, k1, k2⟩ kp =>
    ⟨kp z (by simp) _ hz, kp ti (by simp) _ hti, ⟨u, v, kp tq (by simp) _ htq⟩, k1.at fun o => kp i1 (by simp) o, k2.at fun o => kp i2 (by simp) o⟩
  item := by
    intro X hP hw hK hc i pins s σ H E I hf ⟨hz, hti, ⟨u0, v0, htq⟩, k1, k2⟩ ⟨us, zs, u, v, hqu, hqz, hu, hv⟩
    subst hP hw hK
    obtain ⟨its, rv, p, _⟩ := I.list hqu
    obtain ⟨its2, rv2, p2, _⟩ := I.tuple hqz
    obtain ⟨y1, g1, r1⟩ := rv.get hu
    obtain ⟨y2, g2, r2⟩ := rv2.get hv
    have hlt1 : i < its.toArray.size := by have := (List.getElem?_eq_some_iff.mp g1).1; simpa using this
    have hlt2 : i < its2.toArray.size := by have := (List.getElem?_eq_some_iff.mp g2).1; simpa using this
    have hh : X.A.in1.handled = none := I.ok.hd hc
    have zl : z < s.heap.objs.size := Heap.lt_size hz
    refine wpAny_pyNext_zipD2_item Z.s (Draws.list hh i1 a Z.n1 its.toArray) (Draws.tuple hh i2 b Z.n2 its2.toArray) hz hti htq ⟨k1, p.isList⟩ ⟨k2, p2⟩ hlt1 hlt2 fun w1 w2 h' tk e1 e2 z' q' m1 m2 new sz kp => ?_
    have e1' : w1 = y1 := by
      have : its[i]? = some w1 := by simpa using e1
      rw [g1] at this; exact (Option.some.inj this).symm
    have e2' : w2 = y2 := by
      have : its2[i]? = some w2 := by simpa using e2
      rw [g2] at this; exact (Option.some.inj this).symm
    subst e1' e2'
    refine ⟨_, rfl, wpAny_letOwnedTupleGo_zip (s := { s with heap := h', toks := tk }) z' fun h2 z2 sb => ?_⟩
    have keep2 : ∀ c o, c ∉ ltC z ti tq i1 i2 → s.heap.get? c = some o → h2.get? c = some o := fun c o nc q =>
      (sb.2 c (fun e => nc (by simp [e]))).trans (kp c o (fun e => nc (by simp [e])) (fun e => nc (by simp [e])) (fun e => nc (by simp [e])) (fun e => nc (by simp [e])) q)
    have nq : h2.get? s.heap.objs.size = some { cls := .type "tuple", data := .seq #[w1, w2] } := (sb.2 _ (Nat.ne_of_gt zl)).trans new
    have I2 := I.turnedNew (t' := tk) (ob := .tup [u, v]) (h' := h2) keep2 hf (Nat.le_refl _) ⟨by show 2 ≤ sizeLine; decide, [w1, w2], .cons r1 (.cons r2 .nil), ⟨_, nq, rfl, _, rfl⟩⟩
    refine ⟨.ref s.heap.objs.size, _, I2, rfl, ⟨_, u, v, rfl, I.hok.fresh (Nat.le_refl _), rfl, fun l hl => by rw [I.list_inj hl hqu]; exact hu, fun l hl => by rw [I.tuple_inj hl hqz]; exact hv⟩, ⟨z2, ?_, ⟨w1, w2, ?_⟩, ?_, ?_⟩, fun c hcm => ?_⟩
    · exact (sb.2 _ Z.s.TIz).trans (kp _ _ Z.s.TIz Z.s.TITO Z.s.TIi1 Z.s.TIi2 hti)
    · exact (sb.2 _ Z.s.TOz).trans q'
    · exact m1.1.at fun o q => (sb.2 _ Z.s.zi1.symm).trans q
    · exact m2.1.at fun o q => (sb.2 _ Z.s.zi2.symm).trans q
    · have lt : c < s.heap.objs.size := by
        rcases ltC_mem hcm with rfl | rfl | rfl | rfl | rfl
        · exact zl
        · exact Heap.lt_size hti
        · exact Heap.lt_size htq
        · obtain ⟨_, e, _⟩ := k1; exact Heap.lt_size e
        · obtain ⟨_, e, _⟩ := k2; exact Heap.lt_size e
      rw [upd_ne (Nat.ne_of_lt lt)]
      exact (hf c hcm).1
  done := by
    intro X hP hw hK hc i pins s σ H E I hf ⟨hz, hti, ⟨u0, v0, htq⟩, k1, k2⟩ ⟨us, zs, hqu, hqz, le1, le2, hend⟩
    subst hP hw hK
    obtain ⟨its, rv, p, _⟩ := I.list hqu
    obtain ⟨its2, rv2, p2, _⟩ := I.tuple hqz
    have l1 := rv.length
    have l2 := rv2.length
    have hh : X.A.in1.handled = none := I.ok.hd hc
    exact wpAny_pyNext_zipD2_end Z.s (Draws.list hh i1 a Z.n1 its.toArray) (Draws.tuple hh i2 b Z.n2 its2.toArray) hz hti htq ⟨k1, p.isList⟩ ⟨k2, p2⟩ (by simp; omega) (by simp; omega) (by simp; omega) fun h' tk kp =>
      ⟨rfl, I.turnedL (t' := tk) (ch := ltC z ti tq i1 i2) (fun c o nc q => kp c o (fun e => nc (by simp [e])) (fun e => nc (by simp [e])) (fun e => nc (by simp [e])) (fun e => nc (by simp [e])) q) hf⟩
  self := fun A i s Q E st q => wpAny_pyIter_zip st.1 q
def iZipLT (K : PySem.W.Frag) (ta : TA) : TI := fun σ H R => ta σ H fun vs H1 => ∃ a b us zs, vs = [.ref a, .ref b] ∧ SqL K H1 a us ∧ SqT K H1 b zs ∧ R (ItLT K a b) H1
theorem nin2 {x p q : Nat} (h1 : x ≠ p) (h2 : x ≠ q) : x ∉ [p, q] := by simp [h1, h2]
theorem ltApart_new (n a b : Nat) (ha : a < n) (hb : b < n) : LtApart (n + 4) (n + 2) (n + 3) n (n + 1) a b :=
  have e (x y : Nat) (h : x ≠ y) : n + x ≠ n + y := fun z => h (Nat.add_left_cancel z)
  have u (x y : Nat) (h : y < n) : n + x ≠ y := Nat.ne_of_gt (Nat.lt_of_lt_of_le h (Nat.le_add_right _ _))
  have o (x : Nat) (h : 0 ≠ x) : n ≠ n + x := e 0 x h
  ⟨⟨e 2 4 (by decide), e 3 4 (by decide), e 2 3 (by decide), e 2 0 (by decide), by simp, nin2 (e 4 0 (by decide)) (u 4 a ha), nin2 (e 3 0 (by decide)) (u 3 a ha), e 2 1 (by decide), by simp, nin2 (e 4 1 (by decide)) (u 4 b hb), nin2 (e 3 1 (by decide)) (u 3 b hb), nin2 (o 1 (by decide)) (u 0 b hb), nin2 (e 1 0 (by decide)) (u 1 a ha)⟩,
    (u 0 a ha).symm, (u 1 b hb).symm, e 3 0 (by decide), e 3 1 (by decide)⟩
theorem vals2r {a b : Addr} {us : List Value} (r : Vals [V.ref a, V.ref b] us) : us = [Value.ref a, Value.ref b] := by
  cases r with
  | cons r rr =>
    cases rr with
    | cons r' rr =>
      cases rr
      cases r
      cases r'
      rfl
theorem pi_zipLT {X : Cx} {e e2 : Expr} {ta : TA} {p pos tpos : Pos} {elts : List Expr} {kk : Nat} (hg : Gl X "zip") (hm : X.mg "zip" = none) (ha : PA X [e, e2] ta)
    (hst : starEach [e, e2] X.env = (false, eval e X.env) :: starEach [e2] X.env := by rfl) (hp : (backTo pos (starEach [e2] X.env)).any (·.1) = false := by rfl) :
    PI X (.Tuple elts kk tpos) (.Call (.Name "zip" p) [e, e2] [] pos) (iZipLT X.K ta) := by
  refine ⟨fun pins s σ H R I h => Call_ (ld_blt I hg hm PyProof.Rows.boot_zip (PyProof.Rows.callWith_type1 (thn (ha.run pos pins s σ H _ I h) fun us s1 ⟨vs, H1, I1, r1, a, b, xs, zs, ex, hqx, hqz, q⟩ => ?_) hst hp))⟩
  subst ex
  obtain rfl := vals2r r1
  obtain ⟨its, rv, p1, _⟩ := I1.list hqx
  obtain ⟨its2, rv2, p2, _⟩ := I1.tuple hqz
  have lb : b < s1.heap.objs.size := by obtain ⟨_, e, _⟩ := id p2; exact Heap.lt_size e
  refine zip_begins2 (begins_list a its.toArray) (begins_tuple b its2.toArray) p1.isList p2 fun h' hz hti htq g1 g2 sz kp => wpAny_pyIter_zip hz ?_
  refine ⟨s1.heap.objs.size + 4, _, _, _, H1, rfl, I1.kept (t' := s1.toks) kp, turn_LT (ltApart_new _ a b p1.lt lb), ⟨hz, hti, ⟨_, _, htq⟩, ⟨_, g1, rfl, rfl⟩, ⟨_, g2, rfl, rfl⟩⟩, fun c hcm => ?_, q⟩
  have le : s1.heap.objs.size ≤ c := by
    rcases ltC_mem hcm with rfl | rfl | rfl | rfl | rfl <;> first | exact Nat.le_add_right _ _ | exact Nat.le_refl _
  exact I1.fpOk le (I1.hok.fresh le)
theorem walk_LT {K : PySem.W.Frag} {a b : Addr} {xs ys : List V} (hn : xs.length = ys.length) : Walk (ItLT K a b) xs.length (fun H => SqL K H a xs ∧ SqT K H b ys) (YPair (fun i => xs[i]?) (fun i => ys[i]?)) := by
  refine ⟨fun i _ hi q => ?_, fun _ q => ⟨xs, ys, q.1, q.2, Nat.le_refl _, by omega, .inl rfl⟩, fun i H v H' _ q y => ?_⟩
  · exact ⟨xs, ys, xs[i], ys[i], q.1, q.2, by simp [hi], by simp [show i < ys.length by omega]⟩
  · obtain ⟨t, x, z, h1, h2, h3, h4, h5⟩ := y
    exact ⟨t, x, z, h1, h2, h3, h4 xs q.1, h5 ys q.2⟩

theorem pg_tupK {X : Cx} {K : PySem.W.Frag} {es : List Expr} {k : Nat} {pos : Pos} {t : TGs} {n : Nat} (ek : X.K = K) (hc : X.calm = true) (h : PGs X es t)
    (hn : (assignEach es X.env).length = n := by rfl) (hst : (assignEach es X.env).findIdx? (·.1) = none := by rfl) : PG X (.Tuple es k pos) (gTup K n t) := ek ▸ pg_tup hc h hn hst
/-! ### o.m(..), m a def told by FnR -/
def tMethR (C : Addr) (m : Str) (sp : Sp) (E : XK) (ta : TE) (t : TA) : TE := fun σ H Q => ta σ H fun x H1 => ∃ a dx fs, x = .ref a ∧ H1 a = some (.ins C dx fs) ∧ fs.lookup m = none ∧ t σ H1 fun vs H2 => sp (.ref a :: vs) H2 Q E
section
variable {X : Cx} {CX : CXT} {k : Nat} {C f : Addr} {m : Str} {sp : Sp} {E : XK} {o e : Expr} {es : List Expr} {ta : TE} {t : TA} {pos apos : Pos} {pl : Sem Bool}
theorem pe_methR (he : PE X o ta) (c : Cls X.K C) (hm : Meth X.K C m f) (F : FnR X.prog X.w X.K X.mg X.base CX k f sp) (hr : Room k X.A) (hx : Passes CX X E) (ha : PA X (e :: es) t)
    (h1 : starEach (e :: es) X.env = (false, eval e X.env) :: starEach es X.env := by rfl) (h2 : (backTo pos (starEach es X.env)).any (·.1) = false := by rfl)
    (h3 : eval (.Call (.Attribute o m apos) (e :: es) [] pos) X.env = (do
      let z ← eval o X.env
      standAt apos.atName
      let (g, frst) ← holding [z] (getMethod z m pl)
      callWith pos g frst (backTo pos (starEach (e :: es) X.env)) (backToKw pos (keywordEach [] X.env))) := by rfl) :
    PE X (.Call (.Attribute o m apos) (e :: es) [] pos) (tMethR C m sp E ta t) := by
  refine ⟨fun pins s σ H Q I h => PySem.W.methodCall_KW (pl := pl) (thn (he.run pins s σ H _ I h) fun u s1 ⟨x, H1, I1, rx, a, dx, fs, ex, ea, l, q⟩ => ?_) h3⟩
  subst ex
  obtain rfl : u = Value.ref a := rx
  refine getmeth_ok I1 ea c hm l (PySem.W.callWith_K (first := [.ref a]) (h₀ := X.base) I.ok.mod.kin hm.kp (thn (ha.run pos pins s1 σ H1 _ I1 q) fun us s2 ⟨vs, H2, I2, r, q2⟩ => ⟨I2.kIn, ?_⟩) h1 h2)
  exact wpAny_call (run_fnR (us := .ref a :: us) (vs := .ref a :: vs) F hr hx I2 (.cons rfl r) q2)
theorem pe_methR0 (he : PE X o ta) (c : Cls X.K C) (hm : Meth X.K C m f) (F : FnR X.prog X.w X.K X.mg X.base CX k f sp) (hr : Room k X.A) (hx : Passes CX X E)
    (h3 : eval (.Call (.Attribute o m apos) [] [] pos) X.env = (do
      let z ← eval o X.env
      standAt apos.atName
      let (g, frst) ← holding [z] (getMethod z m pl)
      callWith pos g frst (backTo pos (starEach [] X.env)) (backToKw pos (keywordEach [] X.env))) := by rfl) :
    PE X (.Call (.Attribute o m apos) [] [] pos) (tMethR C m sp E ta tNil) := by
  refine ⟨fun pins s σ H Q I h => PySem.W.methodCall_KW (pl := pl) (thn (he.run pins s σ H _ I h) fun u s1 ⟨x, H1, I1, rx, a, dx, fs, ex, ea, l, q⟩ => ?_) h3⟩
  subst ex
  obtain rfl : u = Value.ref a := rx
  refine getmeth_ok I1 ea c hm l ?_
  exact PySem.W.callWith_K0 (first := [.ref a]) I1.kIn hm.kp (wpAny_call (run_fnR (us := [.ref a]) (vs := [.ref a]) F hr hx I1 (.cons rfl .nil) q))
end

/-! ### {x:spec} -/
/-- v written by the spec sp is the text y -/
def FmtOk (sp : Str) (x : V) (y : Str) : Prop := ∀ (prog : Program) (w : World) (A : Around) (E : Value → Shared → Prop) (s : Shared) (v : Value) (Q : Value → Shared → Prop), RelV x v →
  (∀ t k, Q (.str y t) { s with toks := k }) → wpAny (model prog w) A (formatField v sp) Q E s
def tFmtS (sp : Str) (te : TE) : TE := fun σ H Q => te σ H fun x H1 => ∃ y, FmtOk sp x y ∧ Q (.str y) H1
theorem pe_fmtS {X : Cx} {e spec : Expr} {te : TE} {sp : Str} {pos : Pos} (hs : PE X spec (tC (.str sp))) (he : PE X e te) : PE X (.FormattedValue e (-1) (some spec) pos) (tFmtS sp te) := by
  refine ⟨fun pins s σ H Q I h => wpAny_FormattedValue_spec (thn (he.run pins s σ H _ I h) fun v s1 ⟨x, H1, I1, r1, y, fo, q⟩ => ?_)⟩
  refine thn (hs.run pins s1 σ H1 (fun z H2 => z = .str sp ∧ H2 = H1) I1 ⟨rfl, rfl⟩) fun r s2 ⟨z, H2, I2, r2, ez, eH⟩ => ?_
  subst ez eH
  obtain ⟨t, rfl⟩ := r2
  exact ⟨sp, t, rfl, fo _ _ _ _ _ _ _ r1 fun t' k => ⟨.str y, H2, I2.tok _, ⟨t', rfl⟩, q⟩⟩
set_option hygiene false in
local macro_rules | `(tactic| walk_at "fmti") => `(tactic| (
  intro prog w A E s v Q r h
  obtain ⟨t, rfl⟩ := r
  refine PySem.W.KXf.field_int rfl (by decide +kernel) (by decide +kernel) ?_ h
  kxf_run_i))
set_option hygiene false in
local macro_rules | `(tactic| walk_at "fmts") => `(tactic| (
  intro prog w A E s v Q r h
  obtain ⟨t, rfl⟩ := r
  refine PySem.W.KXf.field_str rfl rfl (by decide +kernel) (by decide +kernel) ?_ h
  kxf_run_s))
theorem fr0 : FmtOk ">2" (.int 0) " 0" := by walk_at "fmti"
theorem fr1 : FmtOk ">2" (.int 1) " 1" := by walk_at "fmti"
theorem fr2 : FmtOk ">2" (.int 2) " 2" := by walk_at "fmti"
theorem fr3 : FmtOk ">2" (.int 3) " 3" := by walk_at "fmti"
theorem fr4 : FmtOk ">2" (.int 4) " 4" := by walk_at "fmti"
theorem fr5 : FmtOk ">2" (.int 5) " 5" := by walk_at "fmti"
theorem fs0 : FmtOk "_>4" (.int 0) "___0" := by walk_at "fmti"
theorem fs1 : FmtOk "_>4" (.int 1) "___1" := by walk_at "fmti"
theorem fs2 : FmtOk "_>4" (.int 2) "___2" := by walk_at "fmti"
theorem fs3 : FmtOk "_>4" (.int 3) "___3" := by walk_at "fmti"
theorem fs4 : FmtOk "_>4" (.int 4) "___4" := by walk_at "fmti"
theorem fs5 : FmtOk "_>4" (.int 5) "___5" := by walk_at "fmti"
theorem fs6 : FmtOk "_>4" (.int 6) "___6" := by walk_at "fmti"
theorem fs7 : FmtOk "_>4" (.int 7) "___7" := by walk_at "fmti"
theorem fb0 : FmtOk "<8" (.str "none") "none    " := by walk_at "fmts"
theorem fb1 : FmtOk "<8" (.str "follow") "follow  " := by walk_at "fmts"
theorem fb2 : FmtOk "<8" (.str "plain") "plain   " := by walk_at "fmts"
theorem fb3 : FmtOk "<8" (.str "guarded") "guarded " := by walk_at "fmts"
end Hue

set_option Elab.async false
set_option linter.all false
set_option maxRecDepth 100000
set_option maxHeartbeats 1000000
/-! list comprehensions whose item may raise (a call in it lets an exception out) -/
namespace Hue
open PySem PySem.Spec PyProof.Rows L2

/-- the end of a block: as it ends, or with what is raised, at the block's own frame -/
def endLc (M : Model) (A : Around) (E : Value → Shared → Prop) (use : Option (Value → Sem Unit)) (Q : Value → Shared → Prop) (acc : Value) (ce : Env) (r : Result) (s' : Shared) : Prop :=
  match r with
  | .ok f => compPost M A E use Q acc ce.locals (.ok f) s'
  | .error x => ∃ m, s'.heap.Ns ce.locals m ∧ ∀ h', Heap.SameBut ce.locals s'.heap h' → wpAny M A (passOn "comprehension.variables-let-go" x ce : Sem Value) (fun _ _ => False) E { s' with heap := h' }
theorem comp_end {M : Model} {A : Around} {E : Value → Shared → Prop} {s : Shared} {env : Env} {e : Expr} {scope : Scope} {pos : Pos} {mk0 fst0 : Sem Value} {g : Comprehension} {gs : List Comprehension} {cl : List (Str × Addr)} {use : Option (Value → Sem Unit)}
    {Q : Value → Shared → Prop} (h1 : clausesOf e = g :: gs) (h2 : ∀ x, foldedSetIterable g.iter env x = pure x) (h3 : closureFor scope env = pure cl) (h4 : scope.kind = .function)
    (h5 : ∀ x ∈ scope.names, x.2 = .local → scope.names.lookup x.1 = some .local)
    (h : wpAny M A fst0 (fun x s1 => wpAny M A (pyIter x) (fun it s2 => wpAny M A mk0 (fun acc s3 => wpAny M A (newFunctionEnv scope env.globals cl [] env.qual none .none (some env)) (fun ce s4 =>
      codeAny M A (.compStart e 0 it acc { ce with scope := relabel scope env }) (endLc M A E use Q acc { ce with scope := relabel scope env }) s4) E s3) E s2) E s1) E s) :
    wpAny M A (comprehension e scope env pos mk0 false fst0 use) Q E s := by
  unfold comprehension
  rw [h3, h1]
  refine wpAny_bind (wpAny_mono h (fun x s1 k1 => wpAny_bind (wpAny_standAt (wpAny_bind (wpAny_of_eq (h2 x) (wpAny_bind (wpAny_holding (wpAny_mono k1 (fun it s2 k2 => wpAny_standIf (wpAny_bind (wpAny_mono k2 (fun acc s3 k3 =>
    wpAny_bind (wpAny_pure (wpAny_bind (wpAny_mono k3 (fun ce s4 k4 => ?_) fun _ _ z => z)))) fun _ _ z => z))) fun _ _ z => z))))))) fun _ _ z => z)
  dsimp only
  have kv : ∀ x ∈ (scope.names.filter fun x => (x.2 == .local || x.2 == .cell) && x.1 != (".0" : Str)).reverse, x.2 = .local → Env.kindOf { ce with scope := relabel scope env } x.1 = some .local :=
    fun x hx hl => lookup_relabel_local (h5 x (List.mem_filter.mp (List.mem_reverse.mp hx)).1 hl)
  have kw : ∀ x ∈ (scope.names.filter fun x => (x.2 == .local || x.2 == .cell) && x.1 != (".0" : Str)).reverse.drop 1 ++ (scope.names.filter fun x => (x.2 == .local || x.2 == .cell) && x.1 != (".0" : Str)).reverse.take 1,
      x.2 = .local → Env.kindOf { ce with scope := relabel scope env } x.1 = some .local := fun x hx hl => (List.mem_append.mp hx).elim (fun z => kv x (List.mem_of_mem_drop z) hl) fun z => kv x (List.mem_of_mem_take z) hl
  refine wpAny_holding (wpAny_bind (wpAny_attempt (wpAny_holding (wpAny_run (codeAny_mono k4 fun r s' hr => ?_)))))
  cases r with
  | ok f =>
    cases use with
    | none =>
      obtain ⟨m, hn, hr⟩ := hr
      exact wpAny_bind (wpAny_holding (wpAny_comp_letGo (cenv := { ce with scope := relabel scope env }) h4 _ s' m kv hn fun h' m' _ hs' => wpAny_pure (hr h' hs')))
    | some u =>
      refine wpAny_bind (wpAny_rule (wpAny_bind (wpAny_holding (wpAny_mono hr (fun _ s'' ⟨m, hn, hr'⟩ => ?_) fun _ _ z => z))))
      exact wpAny_bind (wpAny_comp_letGo (cenv := { ce with scope := relabel scope env }) h4 _ s'' m kw hn fun h' m' _ hs' => wpAny_pure (hr' h' hs'))
  | error x =>
    obtain ⟨m, hn, hr⟩ := hr
    exact wpAny_bind (wpAny_holding (wpAny_comp_letGo (cenv := { ce with scope := relabel scope env }) h4 _ s' m kv hn fun h' m' _ hs' => wpAny_mono (hr h' hs') (fun _ _ f => f.elim) fun _ _ y => y))

/-- the block's context where its item may raise: what a call in it lets out, wished for as W -/
abbrev blkX (X : Cx) (W : XK) (s : Shared) (H : Hp) (scope : Scope) (ce : Env) (fp : List Addr) : Cx :=
  { X.blk s H scope ce fp with xe := fun u s' => ∃ (pins : List (Addr × Obj)) (σ : L2.St) (H' : Hp) (s0 : Shared), Inv (X.blk s H scope ce fp) pins σ H' s0 ∧ L2.CX X.prog X.w X.stack H' s0 W u s' }
theorem Inv.ofX {X : Cx} {W : XK} {s : Shared} {H : Hp} {scope : Scope} {ce : Env} {fp : List Addr} {pins : List (Addr × Obj)} {σ : L2.St} {H' : Hp} {s0 : Shared} (I : Inv (blkX X W s H scope ce fp) pins σ H' s0) : Inv (X.blk s H scope ce fp) pins σ H' s0 :=
  ⟨⟨I.ok.1, I.ok.2, I.ok.3, I.ok.4, I.ok.5, I.ok.6, I.ok.7, I.ok.8, I.ok.9, I.ok.10, I.ok.11, I.ok.12, I.ok.13, I.ok.14, I.ok.15, I.ok.16, I.ok.17, I.ok.18⟩, I.os, I.bare, I.base, I.loc, I.cell, I.free, I.freeC, I.pin, I.hok, I.len⟩
theorem Inv.toX {X : Cx} {W : XK} {s : Shared} {H : Hp} {scope : Scope} {ce : Env} {fp : List Addr} {pins : List (Addr × Obj)} {σ : L2.St} {H' : Hp} {s0 : Shared} (I : Inv (X.blk s H scope ce fp) pins σ H' s0) : Inv (blkX X W s H scope ce fp) pins σ H' s0 :=
  ⟨⟨I.ok.1, I.ok.2, I.ok.3, I.ok.4, I.ok.5, I.ok.6, I.ok.7, I.ok.8, I.ok.9, I.ok.10, I.ok.11, I.ok.12, I.ok.13, I.ok.14, I.ok.15, I.ok.16, I.ok.17, I.ok.18⟩, I.os, I.bare, I.base, I.loc, I.cell, I.free, I.freeC, I.pin, I.hok, I.len⟩
theorem cx_mono {P : Program} {w : World} {outer : List Env} {H : Hp} {s : Shared} {E W : XK} {u : Value} {s' : Shared} (c : L2.CX P w outer H s E u s') (h : ∀ cls d H, E cls d H → W cls d H) : L2.CX P w outer H s W u s' := by
  obtain ⟨a, B, H', cls, d, c1, c2, c3, c4, c5, c6, c7, c8⟩ := c
  exact ⟨a, B, H', cls, d, c1, c2, c3, c4, c5, c6, c7, h _ _ _ c8⟩
theorem passB {X : Cx} {W : XK} {s : Shared} {H : Hp} {scope : Scope} {ce : Env} {fp : List Addr} : Passes (L2.CX X.prog X.w) (blkX X W s H scope ce fp) W :=
  fun pins σ H' s0 u s' I c => ⟨pins, σ, H', s0, Inv.ofX I, c⟩
theorem note_frame {x : Value} {ce env : Env} (h : ce.frame = env.frame) : noteFrame x ce = noteFrame x env := by
  unfold noteFrame PySem.frameOf
  rw [h]
theorem frames_but {h h' base base' : Heap} {C : Addr} (sb : Heap.SameBut C h h') (hb : ∀ b, base.get? b = none → base'.get? b = none) : ∀ {l : List Env}, h.FunFrames base l → C ∉ frs l → h'.FunFrames base' l
  | [], _, _ => trivial
  | env :: l, ⟨k1, ⟨L, o, f1, f2, f3, f4⟩, k3⟩, n => by
    refine ⟨k1, ⟨L, o, f1, hb _ f2, (sb.2 L ?_).trans f3, f4⟩, frames_but sb hb k3 fun hm => n ?_⟩
    · intro e
      exact n (List.mem_filterMap.mpr ⟨env, List.mem_cons_self, by rw [f1, e]⟩)
    · obtain ⟨e, he, q⟩ := List.mem_filterMap.mp hm
      exact List.mem_filterMap.mpr ⟨e, List.mem_cons_of_mem _ he, q⟩
/-- what a call in the block lets out, noted there, is in the def's own air -/
theorem blk_err {X : Cx} {pins pins' : List (Addr × Obj)} {σ σ' : L2.St} {H3 H' : Hp} {s3 s0 s' : Shared} {W : XK} {scope : Scope} {ce : Env} {fp : List Addr} {u : Value} (I3 : Inv X pins σ H3 s3) (hs : X.stack = X.env :: X.outer) (hf : X.env.frame = some X.env.locals)
    (hfr : ce.frame = X.env.frame) (hC : ce.locals = s3.heap.objs.size) (f3 : ∀ b ∈ fp, FpOk X pins H3 b) (tk : L2.Takes X fun cls d _ H => W cls d H) (I : Inv (X.blk s3 H3 scope ce fp) pins' σ' H' s0) (c : L2.CX X.prog X.w X.stack H' s0 W u s') (what : String) :
    notedBy (model X.prog X.w) X.A ce (fun e s2 => ∃ m, s2.heap.Ns ce.locals m ∧ ∀ h', Heap.SameBut ce.locals s2.heap h' → wpAny (model X.prog X.w) X.A (passOn what e ce : Sem Value) (fun _ _ => False) X.xe { s2 with heap := h' }) u s' := by
  obtain ⟨a, B, H2, cls, d, rfl, fl, hok, ub, na, os, ag, hW⟩ := c
  obtain ⟨mC, nsC, _⟩ := I.loc
  have nC : H' ce.locals = none := I.free
  have frC : ce.locals ∉ frs X.stack := fun hm => by
    obtain ⟨_, o, e, _⟩ := I3.stack.mem hm
    rw [hC] at e
    exact absurd (Heap.lt_size e) (Nat.lt_irrefl _)
  have nsB : B.Ns ce.locals mC := nsC.at fun o e => ub.keep _ o e nC frC
  have ns' : s'.heap.Ns ce.locals mC := nsB.at fun o e => fl.1 _ o e
  have hfA : X.A.frames = some (X.env :: X.outer) := by rw [I3.ok.frames, hs]
  unfold notedBy
  rw [note_frame hfr]
  rw [hs] at fl
  refine HandSPX.looks_onZ Zc.steady hfA hf fl fun h1 hl up1 => ?_
  have ns1 : h1.Ns ce.locals mC := nsB.at fun o e => hl.1 _ o e
  refine ⟨mC, ns1, fun h2 sb => ?_⟩
  -- the ground without the block's variables
  generalize hB2 : PySem.W.hideAll B [ce.locals] = B2
  have b2s : ∀ b o, B2.get? b = some o → B.get? b = some o ∧ b ≠ ce.locals := fun b o e => by
    rw [← hB2] at e
    refine ⟨PySem.W.of_hideAll _ e, fun z => ?_⟩
    rw [z, PySem.W.hideAll_none [ce.locals] (List.mem_singleton.mpr rfl)] at e
    cases e
  have b2g : ∀ b o, B.get? b = some o → b ≠ ce.locals → B2.get? b = some o := fun b o e n => by
    rw [← hB2]
    exact PySem.W.hideAll_get _ e fun z => n (List.mem_singleton.mp z)
  have b2n : ∀ b, B.get? b = none → B2.get? b = none := fun b e => by
    cases q : B2.get? b with
    | none => rfl
    | some o => rw [(b2s b o q).1] at e; cases e
  obtain ⟨g1, g2, g3, oe, vs, T, oT, ts, t1, t2, t3, t4, t5, t6, t7, t8, t9⟩ := hl
  have nfC : ∀ o vs, h1.get? ce.locals = some o → o.data ≠ .fields vs := fun o vs e q => by
    obtain ⟨oC, es, ep, q1, q2, _⟩ := ns1
    rw [q1] at e; cases e
    rw [q2] at q; cases q
  have aC : a ≠ ce.locals := fun e => nfC oe vs (by rw [← e]; exact t1) t3
  have TC : T ≠ ce.locals := fun e => nfC oT ts (by rw [← e]; exact t7) t8
  have hl2 : HandSPX.HeldZ B2 (X.env :: X.outer) a (Zc cls d) X.env.locals h2 := by
    refine ⟨fun b o e => ?_, b2n _ g2, frames_but sb b2n g3 (by rw [← hs]; exact frC), oe, vs, T, oT, ts, (sb.2 _ aC).trans t1, t2, t3, t4, b2n _ t5, t6, (sb.2 _ TC).trans t7, t8, t9⟩
    obtain ⟨k1, k2⟩ := b2s b o e
    exact (sb.2 _ k2).trans (g1 _ _ k1)
  unfold PySem.passOn
  refine wpAny_bind (wpAny_field (s := { s' with heap := h2 }) ((sb.2 _ aC).trans t1) t3 t4 ?_)
  rw [if_neg (by simp)]
  rw [hfr, hf]
  refine wpAny_bind (HandSPX.setFlight_onZ (s := { s' with heap := h2 }) hl2 fun h3 hl3 up3 => wpAny_throw (tk _ _ ?_))
  obtain ⟨G, q1, q2⟩ := restrict s'.heap fun b => (B2.get? b).isSome || decide (b ∈ frs X.stack)
  have stB : B.StaysIn s'.heap := fl.1
  have gB : ∀ b o, B2.get? b = some o → G.get? b = some o := fun b o e => by
    rw [q1 b (by simp [e])]
    exact stB b o (b2s b o e).1
  have gF : ∀ b, b ∈ frs X.stack → G.get? b = s'.heap.get? b := fun b hb => q1 b (by simp [hb])
  have og : ∀ b o, G.get? b = some o → s'.heap.get? b = some o ∧ ((B2.get? b).isSome = true ∨ b ∈ frs X.stack) := fun b o e => by
    cases q : ((B2.get? b).isSome || decide (b ∈ frs X.stack)) with
    | false => rw [q2 b q] at e; cases e
    | true =>
      rw [q1 b q] at e
      exact ⟨e, by simpa [Bool.or_eq_true] using q⟩
  have gC : ∀ o, G.get? ce.locals ≠ some o := fun o e => by
    rcases (og _ _ e).2 with z | z
    · obtain ⟨o', z⟩ := Option.isSome_iff_exists.mp z
      exact (b2s _ _ z).2 rfl
    · exact frC z
  -- the state ahead of the call, without the block's variables
  have hid : ∀ b o, s0.heap.get? b = some o → b ≠ ce.locals → (PySem.W.hideAll s0.heap [ce.locals]).get? b = some o := fun b o e n => PySem.W.hideAll_get _ e fun z => n (List.mem_singleton.mp z)
  have ltC : ∀ b o, s3.heap.get? b = some o → b ≠ ce.locals := fun b o e z => by
    rw [z, hC] at e
    exact absurd (Heap.lt_size e) (Nat.lt_irrefl _)
  have tr : ∀ (Hx : Hp) (h h' : Heap), Hx ce.locals = none → HOk X.prog X.w Hx h → (∀ b o, h.get? b = some o → b ≠ ce.locals → h'.get? b = some o) → HOk X.prog X.w Hx h' := fun Hx h h' nx k kp b o e =>
    (k b o e).stay (fun c u hc r => kp c u r fun z => by
      rcases hc with hc | hc
      · rw [← hc, z, nx] at e; cases e
      · rw [z, nx] at hc; cases hc) (fun _ r => r) fun _ _ r => r
  have U := I.base
  have I1 : Inv X pins σ H' { s0 with heap := PySem.W.hideAll s0.heap [ce.locals] } := by
    refine I3.call' (ch := fp) I.os ⟨fun b o e n hb hx => ?_, fun b o e n hb hx => ?_, U.free, fun b o e hx => ?_, U.tups, U.frzs, U.tbls⟩ (tr H' _ _ nC I.hok hid) I.bare fun b hb => ⟨(f3 b hb).2.2.2.1, (f3 b hb).2.1, (f3 b hb).2.2.2.2.1, (f3 b hb).2.2.2.2.2⟩
    · exact hid _ _ (U.keep b o e n hb hx) (ltC b o e)
    · obtain ⟨sl, q⟩ := U.slot b o e n hb hx
      exact ⟨sl, hid _ _ q (ltC b o e)⟩
    · obtain ⟨o', q⟩ := U.there b o e hx
      exact ⟨o', hid _ _ q (ltC b o e)⟩
  have nC2 : H2 ce.locals = none := by
    obtain ⟨oC, es, ep, e1, _⟩ := nsC
    exact ub.free _ oC e1 nC
  have hs0 : ∀ b o, (PySem.W.hideAll s0.heap [ce.locals]).get? b = some o → s0.heap.get? b = some o ∧ b ≠ ce.locals := fun b o e => ⟨PySem.W.of_hideAll _ e, fun z => by
    rw [z, PySem.W.hideAll_none [ce.locals] (List.mem_singleton.mpr rfl)] at e
    cases e⟩
  have I2 : Inv X pins σ H2 { s0 with heap := G, gens := s'.gens, drawn := s'.drawn, toks := s'.toks } := by
    refine Inv.call (s := { s0 with heap := PySem.W.hideAll s0.heap [ce.locals] }) (h' := G) (H' := H2) I1 (ch := []) (g' := s'.gens) (t' := s'.toks) (d' := s'.drawn) ⟨fun b o e n hb _ => ?_, fun b o e n hb _ => ?_, fun b o e n _ => ub.free b o (hs0 b o e).1 n, fun b o e _ => ?_, ub.tups, ub.frzs, ub.tbls⟩ (tr H2 B G nC2 hok fun b o e n => gB b o (b2g b o e n)) ag (fun _ z => nomatch z)
    · exact gB b o (b2g b o (ub.keep b o (hs0 b o e).1 n hb) (hs0 b o e).2)
    · obtain ⟨sl, q⟩ := ub.slot b o (hs0 b o e).1 hb
      exact ⟨sl, by rw [gF b hb]; exact q⟩
    · by_cases hb : b ∈ frs X.stack
      · obtain ⟨sl, q⟩ := ub.slot b o (hs0 b o e).1 hb
        exact ⟨_, by rw [gF b hb]; exact q⟩
      · obtain ⟨o', q⟩ := ub.there b o (hs0 b o e).1 hb
        exact ⟨o', gB b o' (b2g b o' q (hs0 b o e).2)⟩
  refine ⟨a, B2, _, pins, σ, H2, cls, d, rfl, I2, fun b o e hb => ?_, fun b o e hnf => ?_, .inr (.inr (by rw [hs]; exact hl3)), na, os, ag, hW⟩
  · obtain ⟨e', z⟩ := og b o e
    rcases z with z | z
    · obtain ⟨o', z⟩ := Option.isSome_iff_exists.mp z
      have q := stB b o' (b2s b o' z).1
      rw [e'] at q; cases q
      exact z
    · exact absurd z hb
  · have bC : b ≠ ce.locals := fun z => gC o (by rw [← z]; exact e)
    obtain ⟨sl, e1⟩ := up1 b o (og b o e).1 hnf
    obtain ⟨sl2, e2⟩ := up3 b _ ((sb.2 _ bC).trans e1) hnf
    exact ⟨sl2, e2⟩

section
variable {X : Cx} {W : XK} {elt tg iter : Expr} {ifs : List Expr} {scope : Scope} {own : List (Str × Nat)} {wi : TI} {g : TG} {tt : TT} {te : TE}
/-- as the library's block of one clause, its item judged where a call in it may raise -/
theorem lcx_core {pins : List (Addr × Obj)} {s : Shared} {σ : L2.St} {H : Hp} {Q : VK} {pos pos' : Pos} {use : Option (Value → Sem Unit)} {Qf : Value → Shared → Prop}
    (hc : X.calm = true) (hN : X.N.Nodup) (hst : X.stack = X.env :: X.outer) (hfr : X.env.frame = some X.env.locals) (tk : L2.Takes X fun cls d _ H => W cls d H) (I : Inv X pins σ H s) (hi : PI X tg iter wi) (ok : BlkOk X.N X.env.scope scope own)
    (hg : ∀ (s : Shared) (H : Hp) (C : Addr) (cl : List (Str × Addr)) (fp : List Addr), PG (X.blk s H scope (compEnvC scope cl C X.env) fp) tg g) (ht : ∀ (s : Shared) (H : Hp) (C : Addr) (cl : List (Str × Addr)) (fp : List Addr), PTs (X.blk s H scope (compEnvC scope cl C X.env) fp) ifs tt)
    (he : ∀ (s : Shared) (H : Hp) (C : Addr) (cl : List (Str × Addr)) (fp : List Addr), PE (blkX X W s H scope (compEnvC scope cl C X.env) fp) elt te) (hsi : ∀ x, foldedSetIterable iter X.env x = pure x)
    (h : tLc wi g tt te (own.map (·.2)) σ H Q)
    (fin : ∀ D C s' m H', Inv X pins σ H' s' → Q (.ref D) H' → s'.heap.Ns C m → FpOk X pins H' C → compPost (model X.prog X.w) X.A X.xe use Qf (.ref D) C (.ok .next) s') :
    wpAny (model X.prog X.w) X.A (comprehension (.ListComp elt [⟨tg, iter, ifs, 0⟩] scope pos) scope X.env pos' (newList []) false (eval iter X.env) use) Qf X.xe s := by
  have fre : ∀ y ∈ scope.names, y.2 = .free → ∃ c, X.env.cells.lookup y.1 = some c := fun y hy e => (ok.free y hy e).elim (fun z => I.ok.has _ (.inl z)) fun z => I.ok.has _ (.inr z)
  refine comp_end (use := use) rfl hsi (closure_ok fre) ok.kind (fun y hy e => by rw [ok.uniq y hy, e])
    (thn (hi.run pins s σ H _ I h) fun xv s1 hx => thn hx fun itv s2 ⟨it, fp, tn, J, H2, e, I2, T, st2, f2, q⟩ => ?_)
  subst e
  refine wpAny_newObj_type (newEnv_comp ?_) (Nat.zero_le _)
  generalize hD : s2.heap.objs.size = D
  have nD : H2 D = none := I2.hok.fresh (Nat.le_of_eq hD)
  obtain ⟨Wv, ⟨m0, w0⟩, turn⟩ := q D nD
  generalize hs3 : ({ s2 with heap := s2.heap.push { cls := .type "list", data := .seq ([] : List Value).toArray } } : Shared) = s3
  have h3 : s3.heap = s2.heap.push { cls := .type "list", data := .seq ([] : List Value).toArray } := by rw [← hs3]
  have I3 : Inv X pins σ (L2.upd H2 D (.lst [])) s3 := by
    rw [← hs3]
    refine I2.laid (t' := s2.toks) (fun b o e => Heap.get?_push_of_some _ e) (Nat.le_of_eq hD) ⟨Nat.zero_le _, [], 0, .nil, ?_⟩
    rw [← hD]
    exact Heap.get?_push_size _ rfl
  have lt2 : ∀ b ∈ fp, b < s2.heap.objs.size := fun b hb => by
    obtain ⟨o, e, _⟩ := T.obj _ _ st2 b hb
    exact Heap.lt_size e
  have f3 : ∀ b ∈ fp, FpOk X pins (L2.upd H2 D (.lst [])) b ∧ b < s3.heap.objs.size := fun b hb =>
    ⟨⟨by rw [upd_ne (by rw [← hD]; exact Nat.ne_of_lt (lt2 b hb))]; exact (f2 b hb).1, (f2 b hb).2⟩, by rw [h3, Heap.size_push]; exact Nat.lt_succ_of_lt (lt2 b hb)⟩
  have st3 : tn 0 s3.heap := T.keep _ _ _ st2 fun b _ o e => by rw [h3]; exact Heap.get?_push_of_some _ e
  have I4 := block_start I3 ok hN f3
  have pg := hg s3 (L2.upd H2 D (.lst [])) s3.heap.objs.size (cellsFrom (s3.heap.objs.size + 1) scope.names (cloFrom X.env.cells scope.names [])) fp
  have pt := ht s3 (L2.upd H2 D (.lst [])) s3.heap.objs.size (cellsFrom (s3.heap.objs.size + 1) scope.names (cloFrom X.env.cells scope.names [])) fp
  have pe := he s3 (L2.upd H2 D (.lst [])) s3.heap.objs.size (cellsFrom (s3.heap.objs.size + 1) scope.names (cloFrom X.env.cells scope.names [])) fp
  show codeAny _ _ (.compStart (.ListComp elt [⟨tg, iter, ifs, 0⟩] scope pos) 0 (.ref it) (.ref D) (compEnvC scope (cellsFrom (s3.heap.objs.size + 1) scope.names (cloFrom X.env.cells scope.names [])) s3.heap.objs.size X.env)) (endLc (model X.prog X.w) X.A X.xe use Qf (.ref D) (compEnvC scope (cellsFrom (s3.heap.objs.size + 1) scope.names (cloFrom X.env.cells scope.names [])) s3.heap.objs.size X.env)) { s3 with heap := pushCells (s3.heap.push { cls := .type "dict", data := .dict #[] }) scope.names }
  generalize hce : compEnvC scope (cellsFrom (s3.heap.objs.size + 1) scope.names (cloFrom X.env.cells scope.names [])) s3.heap.objs.size X.env = ce at I4 pg pt pe ⊢
  have cL : ce.locals = s3.heap.objs.size := by subst hce; rfl
  have cF : ce.frame = X.env.frame := by subst hce; rfl
  generalize hH3 : L2.upd H2 D (.lst []) = H3 at I3 I4 pg pt pe w0 f3
  generalize hs4 : ({ s3 with heap := pushCells (s3.heap.push { cls := .type "dict", data := .dict #[] }) scope.names } : Shared) = s4 at I4 ⊢
  have st4 : tn 0 s4.heap := T.keep _ _ _ st3 fun b _ o e => by rw [← hs4]; exact pushCells_keeps _ _ _ _ (Heap.get?_push_of_some _ e)
  have stat : ∀ {σ' : L2.St} {H' : Hp} {s' : Shared}, Inv (X.blk s3 H3 scope ce fp) [] σ' H' s' → (∀ b ∈ fp, H' b = none) → ∀ b ∈ fp, FpOk (X.blk s3 H3 scope ce fp) [] H' b := fun {σ' H' s'} I' hn b hb =>
    ⟨hn b hb, (I'.ok.exf b hb).1, I'.ok.exfs b hb, .inl hb, fun x c e => (I'.ok.exf b hb).2 x c e, fun p hp => absurd (show p ∈ ([] : List (Addr × Obj)) ++ [] from hp) (by simp)⟩
  have loop : codeAny (model X.prog X.w) X.A (.compLoop (.ListComp elt [⟨tg, iter, ifs, 0⟩] scope pos) 0 (.ref it) (.ref D) ce) (endLc (model X.prog X.w) X.A X.xe use Qf (.ref D) ce) s4 := by
    refine compLoop_any (fun n s' => ∃ i H', Inv (X.blk s3 H3 scope ce fp) [] (wipe σ (own.map (·.2))) H' s' ∧ tn i s'.heap ∧ (∀ b ∈ fp, H' b = none) ∧ Wv i n H') ?_ m0 ⟨0, H3, I4, st4, fun b hb => (f3 b hb).1.1, w0⟩
    rintro n s5 ⟨i, H5, I5, st5, n5, w5⟩
    rcases turn i n H5 w5 with ⟨stop, qq⟩ | ⟨go, Nx, hNx, step⟩
    · refine thnF (T.done (X.blk s3 H3 scope ce fp) rfl rfl rfl hc i [] s5 _ H5 (fun _ _ => False) I5 (stat I5 n5) st5 stop) fun r s6 ⟨hr, I6⟩ => ?_
      subst hr
      have I7 : Inv X pins σ H5 s6 := I3.call' (ch := fp) I6.os I6.base I6.hok I6.bare fun b hb => ⟨(f3 b hb).1.2.2.2.1, (f3 b hb).1.2.1, (f3 b hb).1.2.2.2.2.1, (f3 b hb).1.2.2.2.2.2⟩
      have nC : H5 s3.heap.objs.size = none := by rw [← cL]; exact I6.free
      obtain ⟨m, hn, _⟩ := I6.loc
      show compPost (model X.prog X.w) X.A X.xe use Qf (.ref D) ce.locals (.ok .next) s6
      rw [cL]
      exact fin D s3.heap.objs.size s6 m H5 I7 qq (by rw [← cL]; exact hn) (I3.fpOk (Nat.le_refl _) nC)
    · refine thnF (T.item (X.blk s3 H3 scope ce fp) rfl rfl rfl hc i [] s5 _ H5 (fun _ _ => False) I5 (stat I5 n5) st5 go) fun r s6 ⟨u, hr, h6⟩ => ?_
      subst hr
      refine thnF h6 fun _ s7 ⟨x, H7, I7, r7, y7, st7, n7⟩ => ?_
      refine thnF (pg.run _ s7 _ H7 x u _ (I7.pinned (stat I7 n7) (T.obj _ _ st7)) r7 (step x H7 y7)) fun _ s8 ⟨σ8, H8, I8, hw8, q8⟩ => ?_
      refine thnF (pt.run _ s8 σ8 H8 _ I8 q8) fun b s9 ⟨H9, I9, q9⟩ => ?_
      have back : ∀ {s' : Shared} {H' : Hp}, Inv (X.blk s3 H3 scope ce fp) ([] ++ pinsAt fp s7.heap) σ8 H' s' → Nx H' → ∃ m, m < n ∧ ∃ i H', Inv (X.blk s3 H3 scope ce fp) [] (wipe σ (own.map (·.2))) H' s' ∧ tn i s'.heap ∧ (∀ b ∈ fp, H' b = none) ∧ Wv i m H' := fun {s' H'} I' nx => by
        obtain ⟨m', hm, w'⟩ := hNx H' nx
        have pin' : ∀ b ∈ fp, ∀ o, s7.heap.get? b = some o → s'.heap.get? b = some o ∧ H' b = none := fun b hb o e =>
          let z := I'.pin (b, o) (List.mem_append_right _ (List.mem_append_right _ (mem_pinsAt hb e)))
          ⟨z.1, z.2.1⟩
        refine ⟨m', hm, i + 1, H', (I'.unpinned (pins := [])).weak (by rw [← hw8, wipe_length]) (fun j v e => ?_), T.keep _ _ _ st7 fun b hb o e => (pin' b hb o e).1, fun b hb => ?_, w'⟩
        · rw [← hw8] at e
          exact (wipe_some e).1
        · obtain ⟨o, e, _⟩ := T.obj _ _ st7 b hb
          exact (pin' b hb o e).2
      cases b with
      | false =>
        simp only [Bool.false_eq_true, if_false] at q9 ⊢
        exact back I9 q9
      | true =>
        simp only [if_true] at q9 ⊢
        refine wpAny_mono (pe.run _ s9 σ8 H9 _ (Inv.toX I9) q9) (fun z s10 ⟨yv, H10, I10, r10, acc, hD10, hz10, nx⟩ => ?_) fun u s' ⟨pins', σ', H', s0, I', c⟩ => ?_
        · exact app_ok (X := X.blk s3 H3 scope ce fp) (Inv.ofX I10) hD10 hz10 r10 fun s11 I11 => back I11 nx
        · exact blk_err I3 hst hfr cF cL (fun b hb => (f3 b hb).1) tk I' c _
  exact codeAny_compStart_list loop (T.self X.A 0 _ _ _ st4 loop)
theorem pe_lcX {pos : Pos} (hst : X.stack = X.env :: X.outer) (hfr : X.env.frame = some X.env.locals) (tk : L2.Takes X fun cls d _ H => W cls d H) (hc : X.calm = true) (hN : X.N.Nodup) (hi : PI X tg iter wi) (ok : BlkOk X.N X.env.scope scope own)
    (hg : ∀ (s : Shared) (H : Hp) (C : Addr) (cl : List (Str × Addr)) (fp : List Addr), PG (X.blk s H scope (compEnvC scope cl C X.env) fp) tg g) (ht : ∀ (s : Shared) (H : Hp) (C : Addr) (cl : List (Str × Addr)) (fp : List Addr), PTs (X.blk s H scope (compEnvC scope cl C X.env) fp) ifs tt)
    (he : ∀ (s : Shared) (H : Hp) (C : Addr) (cl : List (Str × Addr)) (fp : List Addr), PE (blkX X W s H scope (compEnvC scope cl C X.env) fp) elt te) (hsi : ∀ x, foldedSetIterable iter X.env x = pure x := by intro _; rfl) :
    PE X (.ListComp elt [⟨tg, iter, ifs, 0⟩] scope pos) (tLc wi g tt te (own.map (·.2))) := by
  refine ⟨fun pins s σ H Q I h => ?_⟩
  rw [eval_ListComp]
  refine lcx_core hc hN hst hfr tk I hi ok hg ht he hsi h fun D C s' m H' I' q hn ⟨k0, k1, k2, k3, k4, k5⟩ => ⟨m, hn, fun h2 sb => ?_⟩
  exact ⟨.ref D, H', I'.turned (t' := s'.toks) (fun b o hb e => (sb.2 b hb).trans e) k0 k1 k3 k4 k5, rfl, q⟩
theorem ps_setLcX {i : Nat} {y : Str} {py pos spos : Pos} (hst : X.stack = X.env :: X.outer) (hfr : X.env.frame = some X.env.locals) (tk : L2.Takes X fun cls d _ H => W cls d H) (hc : X.calm = true) (hN : X.N.Nodup) (hy : X.N[i]? = some y) (hyl : X.env.scope.names.lookup y = some .local)
    (hsw : swapsWith (.ListComp elt [⟨tg, iter, ifs, 0⟩] scope pos) (some (.Name y py)) spos.line X.env = pure true) (hi : PI X tg iter wi) (ok : BlkOk X.N X.env.scope scope own)
    (hg : ∀ (s : Shared) (H : Hp) (C : Addr) (cl : List (Str × Addr)) (fp : List Addr), PG (X.blk s H scope (compEnvC scope cl C X.env) fp) tg g) (ht : ∀ (s : Shared) (H : Hp) (C : Addr) (cl : List (Str × Addr)) (fp : List Addr), PTs (X.blk s H scope (compEnvC scope cl C X.env) fp) ifs tt)
    (he : ∀ (s : Shared) (H : Hp) (C : Addr) (cl : List (Str × Addr)) (fp : List Addr), PE (blkX X W s H scope (compEnvC scope cl C X.env) fp) elt te) (hsi : ∀ x, foldedSetIterable iter X.env x = pure x := by intro _; rfl) :
    PS X (.Assign [.Name y py] (.ListComp elt [⟨tg, iter, ifs, 0⟩] scope pos) spos) (tAsg (tLc wi g tt te (own.map (·.2))) (gName i)) := by
  refine ⟨fun pins s σ H D I h => ?_⟩
  rw [exec_Assign_Name_used _ _ _ _ hsw]
  refine wpAny_bind (wpAny_standAt (wpAny_bind ?_))
  show wpAny _ X.A (do let _ ← comprehension (.ListComp elt [⟨tg, iter, ifs, 0⟩] scope pos) scope X.env (firstIterPos [⟨tg, iter, ifs, 0⟩] pos) (newList []) false (eval iter X.env) (some (assign (.Name y py) X.env))) _ _ s
  refine wpAny_bind (thn (lcx_core (Qf := fun _ s' => SP X pins D .next s') (Q := fun x H1 => gName i x σ H1 D.nx) hc hN hst hfr tk I hi ok hg ht he hsi h fun L C s' m H' I' q hn ⟨k0, k1, k2, k3, k4, k5⟩ => ?_) fun _ s' hq => wpAny_pure (wpAny_pure hq))
  show wpAny _ _ (assign (.Name y py) X.env (.ref L)) _ _ _
  refine wpAny_assign_Name (store_ok2 (v := V.ref L) I' hN hy (.inl hyl) rfl (fun s2 I2 ⟨a, sb, ha⟩ => ?_) (.inr hyl))
  have haC : C ≠ a := by
    rcases ha with z | z
    · rw [z]; exact k1
    · exact fun e => k4 y a z e.symm
  exact ⟨m, hn.sameBut sb haC, fun h3 sb3 => ⟨_, H', I2.turned (t' := s2.toks) (fun b o hb e => (sb3.2 b hb).trans e) k0 k1 k3 k4 k5, q⟩⟩
end
end Hue
namespace Hue
open PySem PySem.Spec PyProof.Rows L2
theorem callR_or {X : Cx} {f : Value} {r1 r2 : List V → Hp → VK → Prop} (h1 : CallR X f r1) (h2 : CallR X f r2) : CallR X f (fun xs H Q => r1 xs H Q ∨ r2 xs H Q) :=
  fun pins s σ H xs us Q I r h => h.elim (fun z => h1 pins s σ H xs us Q I r z) fun z => h2 pins s σ H xs us Q I r z
end Hue

set_option Elab.async false
set_option linter.all false
set_option maxRecDepth 100000
set_option maxHeartbeats 1000000
/-! operators of an own class: own + own, own * int and int * own where the class has both -/
namespace Hue
open PySem PySem.Spec PyProof.Rows L2
def rOwnO (C : Addr) (sp : Sp) (E : XK) : R2 := fun x y H Q => ∃ a b dx fs d2 f2, x = .ref a ∧ H a = some (.ins C dx fs) ∧ y = .ref b ∧ H b = some (.ins C d2 f2) ∧ sp [.ref a, .ref b] H Q E
def rIntO (C : Addr) (sp : Sp) (E : XK) : R2 := fun x y H Q => ∃ i b dx fs, x = .int i ∧ y = .ref b ∧ H b = some (.ins C dx fs) ∧ sp [.ref b, .int i] H Q E
theorem ep_back {X : Cx} {pins : List (Addr × Obj)} {σ : L2.St} {Q : VK} {u : Value} {s' : Shared} (hq : EP X pins σ Q u s') : PySem.W.CmpBack (EP X pins σ Q) u s' := by
  obtain ⟨z, H', I', rz, qz⟩ := hq
  exact SlX.cmpback rz ⟨z, H', I', rz, qz⟩
section
variable {prog : Program} {w : World} {A : Around} {E : Value → Shared → Prop} {s : Shared} {K : PySem.W.Frag} {x y C f L : Addr} {h0 : Heap} {m : Str → Option Value} {ox oy : Obj} {od oe : Option Obj}
/-- both of one own class -/
theorem bin_same {op : Operator} {Q : Value → Shared → Prop} (Fm : PyProof.Rows.Fr h0 L s.heap m) (X0 : K.In h0) (I : PySem.W.InstAt s.heap x ox C od) (J : PySem.W.InstAt s.heap y oy C oe) (hc : PySem.W.selfFirst K C = true)
    (hs : PySem.W.findIn K (.ref C) (PySem.dunder op.info.2) = some (some (.ref f))) (hf : PySem.W.isFn K (.ref f) = true)
    (h : wpAny (model prog w) A (call (.ref f) [.ref x, .ref y]) (PySem.W.CmpBack Q) E s) : wpAny (model prog w) A (binaryOp op (.ref x) (.ref y)) Q E s := by
  have X := X0.keeps Fm.keep
  obtain ⟨cd, rest, hcd, hm⟩ := PySem.W.ksp_first hc
  rcases hi : op.info with ⟨sym, nm⟩
  rw [hi] at hs
  dsimp only at hs
  have one := PySem.W.ksp_try X I hs hf h
  obtain ⟨hh, g, d, tt, os⟩ := s
  have L1 : PySem.W.Looks (model prog w) hh (typeOf (.ref x)) (.ref C) := I.type
  have L2' : PySem.W.Looks (model prog w) hh (typeOf (.ref y)) (.ref C) := J.type
  have L3 : PySem.W.Looks (model prog w) hh (fillsNumberSlot (.ref C) nm) true := PySem.W.fills_K X hcd hm hs
  have he : (Value.ref C == Value.ref C) = true := beq_self_eq_true _
  simp only [binaryOp, hi]
  refine wpAny_holding (wpAny_bind ?_)
  unfold binaryOp1
  refine wpAny_bind (L1.at (wpAny_bind (L2'.at (wpAny_bind (L3.at ?_)))))
  simp only [he, if_true]
  ksp_lk
  refine wpAny_mono one (fun r s' hr' => ?_) fun _ _ e => e
  obtain ⟨v, rfl, hq⟩ := hr'
  ksp_lk
  exact hq
theorem decl_int {i : Int} {t : Tok} {Q : Value → Shared → Prop} (hg : s.heap.get? y = some oy) (hp : oy.data = .plain) (h : Q .notImplemented s) : wpAny (model prog w) A (call (.builtin "int.__mul__") [.int i t, .ref y]) Q E s := by
  refine GQ.call_here PySem.F.slot_int_mul (typeIs_int s i t) PySem.F.entry_int_mul (PySem.F.args_int_mul_2 _ _) ?_
  obtain ⟨c, d, dt, sl⟩ := oy
  dsimp only at hp
  subst hp
  obtain ⟨hp, g, d, tk, os⟩ := s
  unfold Builtin.«int.__mul__» Builtin.Int.intBinary
  wp_walk
  exact h
theorem try_decl {v u : Value} {T id : String} {nm : Str} (hT : s.TypeIs v T) (hS : Slot T nm id) (h : wpAny (model prog w) A (call (.builtin id) [v, u]) (fun r s' => r = .notImplemented ∧ s' = s) E s) : wpAny (model prog w) A (tryMethod v nm u) (fun r s' => r = none ∧ s' = s) E s :=
  wpAny_tryMethod_declines hT hS (wpAny_mono h (fun _ _ ⟨a, b⟩ => ⟨a, rfl, b⟩) fun _ _ z => z)
/-- a built-in value on the left, its own method declines -/
theorem bin_left {op : Operator} {sym nm T id : String} {v : Value} {Q : Value → Shared → Prop} (hop : op.info = (sym, nm)) (Fm : PyProof.Rows.Fr h0 L s.heap m) (X0 : K.In h0) (I : PySem.W.InstAt s.heap y oy C od) (hc : PySem.W.selfFirst K C = true)
    (hs : PySem.W.findIn K (.ref C) (PySem.dunder nm) = some (some (.ref x))) (hr : PySem.W.findIn K (.ref C) (PySem.dunderR nm) = some (some (.ref f))) (hf : PySem.W.isFn K (.ref f) = true) (hsub : PySem.W.subIn K (.ref C) (.type T) = some false)
    (hv : typeOf v = pure (.type T)) (hT : s.TypeIs v T) (hS : Slot T (PySem.dunder nm) id) (hfl : fillsNumberSlot (.type T) nm = pure true) (hd : wpAny (model prog w) A (call (.builtin id) [v, .ref y]) (fun r s' => r = .notImplemented ∧ s' = s) E s)
    (h : wpAny (model prog w) A (call (.ref f) [.ref y, v]) (PySem.W.CmpBack Q) E s) : wpAny (model prog w) A (binaryOp op v (.ref y)) Q E s := by
  have X := X0.keeps Fm.keep
  obtain ⟨cd, rest, hcd, hm⟩ := PySem.W.ksp_first hc
  have two := PySem.W.ksp_try X I hr hf h
  have one := try_decl hT hS hd
  obtain ⟨hh, g, d, tt, os⟩ := s
  have L1 : PySem.W.Looks (model prog w) hh (typeOf v) (.type T) := PySem.W.Looks.of_pure hv
  have L2' : PySem.W.Looks (model prog w) hh (typeOf (.ref y)) (.ref C) := I.type
  have L3 : PySem.W.Looks (model prog w) hh (fillsNumberSlot (.type T) nm) true := PySem.W.Looks.of_pure hfl
  have L4 : PySem.W.Looks (model prog w) hh (fillsNumberSlot (.ref C) nm) true := PySem.W.fills_K X hcd hm hs
  have L5 : PySem.W.Looks (model prog w) hh (isSubtype (.ref C) (.type T)) false := PySem.W.looks_subIn X hsub
  have L6 : PySem.W.Looks (model prog w) hh (numberSlotInPython (.type T) nm) false := PySem.W.Looks.of_pure rfl
  have hne : (Value.type T == Value.ref C) = false := Bool.eq_false_iff.mpr fun q => by cases beq_iff_eq.mp q
  simp only [binaryOp, hop]
  refine wpAny_holding (wpAny_bind ?_)
  unfold binaryOp1
  refine wpAny_bind (L1.at (wpAny_bind (L2'.at (wpAny_bind (L3.at ?_)))))
  simp only [hne, Bool.false_eq_true, if_false]
  ksp_lk
  refine wpAny_mono one (fun r s' hr' => ?_) fun _ _ e => e
  obtain ⟨rfl, rfl⟩ := hr'
  ksp_lk
  refine wpAny_mono two (fun r s' hr' => ?_) fun _ _ e => e
  obtain ⟨v, rfl, hq⟩ := hr'
  ksp_lk
  exact hq
end
section
variable {X : Cx} {CX : CXT} {op : Operator} {C m r : Str} {k : Nat} {sp : Sp} {E : XK}
theorem op_own2 (b : (Fx.bopo C m).ok X.K = true) (em : PySem.dunder op.info.2 = m) (F : FnR X.prog X.w X.K X.mg X.base CX k (mad C m X.K) sp) (hr : Room k X.A) (hx : Passes CX X E) : OpR X (binaryOp op) (rOwnO (gad C X.K) sp E) := by
  intro pins s σ H x y v u Q I rx ry ⟨a, b', dx, fs, d2, f2, ex, ea, ey, eb, q⟩
  subst ex ey
  obtain rfl : v = Value.ref a := rx
  obtain rfl : u = Value.ref b' := ry
  obtain ⟨c1, c⟩ := He.ba b
  obtain ⟨c2, c3⟩ := He.ba c
  obtain ⟨mA, O, _⟩ := ins_get I.hok ea
  obtain ⟨od, J, _⟩ := O.look
  obtain ⟨mB, O2, _⟩ := ins_get I.hok eb
  obtain ⟨oe, J2, _⟩ := O2.look
  obtain ⟨m0, Fm⟩ := I.fr
  subst em
  exact bin_same Fm I.ok.mod.kin J J2 c1 (He.eqO_ok c2) c3 (thn (wpAny_call (run_fnR (us := [.ref a, .ref b']) (vs := [.ref a, .ref b']) F hr hx I (.cons rfl (.cons rfl .nil)) q)) fun w s' z => ep_back z)
theorem op_ownIr (b : (Fx.bopr C m r "int").ok X.K = true) (em : PySem.dunder op.info.2 = m) (er : PySem.dunderR op.info.2 = r) (F : FnR X.prog X.w X.K X.mg X.base CX k (mad C m X.K) sp) (hr : Room k X.A) (hx : Passes CX X E) : OpR X (binaryOp op) (rOwnI (gad C X.K) sp E) := by
  intro pins s σ H x y v u Q I rx ry ⟨a, dx, fs, i, ex, ea, ey, q⟩
  subst ex ey
  obtain rfl : v = Value.ref a := rx
  obtain ⟨t, rfl⟩ := ry
  obtain ⟨c1, c⟩ := He.ba b
  obtain ⟨c2, c⟩ := He.ba c
  obtain ⟨c3, c⟩ := He.ba c
  obtain ⟨c4, c⟩ := He.ba c
  obtain ⟨c5, c⟩ := He.ba c
  obtain ⟨c6, c⟩ := He.ba c
  obtain ⟨c7, c⟩ := He.ba c
  obtain ⟨c8, c9⟩ := He.ba c
  obtain ⟨fo, h5⟩ := Option.isSome_iff_exists.mp c6
  obtain ⟨ro, h6⟩ := Option.isSome_iff_exists.mp c7
  obtain ⟨mA, O, _⟩ := ins_get I.hok ea
  obtain ⟨od, J, _⟩ := O.look
  obtain ⟨m0, Fm⟩ := I.fr
  subst em er
  exact PySem.W.ksp_binT (T := "int") Fm I.ok.mod.kin J rfl c1 (He.eqO_ok c2) c3 (He.eqO_ok c4) (.inr ⟨_, rfl⟩) h5 h6 (of_decide_eq_true c8) (thn (wpAny_call (run_fnR (us := [.ref a, .int i t]) (vs := [.ref a, .int i]) F hr hx I (.cons rfl (.cons ⟨t, rfl⟩ .nil)) q)) fun w s' z => ep_back z)
theorem op_intO (b : (Fx.bopr C "__mul__" "__rmul__" "int").ok X.K = true) (F : FnR X.prog X.w X.K X.mg X.base CX k (mad C "__rmul__" X.K) sp) (hr : Room k X.A) (hx : Passes CX X E) : OpR X (binaryOp .Mult) (rIntO (gad C X.K) sp E) := by
  intro pins s σ H x y v u Q I rx ry ⟨i, a, dx, fs, ex, ey, ea, q⟩
  subst ex ey
  obtain ⟨t, rfl⟩ := rx
  obtain rfl : u = Value.ref a := ry
  obtain ⟨c1, c⟩ := He.ba b
  obtain ⟨c2, c⟩ := He.ba c
  obtain ⟨c3, c⟩ := He.ba c
  obtain ⟨c4, c⟩ := He.ba c
  obtain ⟨c5, c⟩ := He.ba c
  obtain ⟨c6, c⟩ := He.ba c
  obtain ⟨c7, c⟩ := He.ba c
  obtain ⟨c8, c9⟩ := He.ba c
  obtain ⟨mA, O, _⟩ := ins_get I.hok ea
  obtain ⟨od, J, _⟩ := O.look
  obtain ⟨m0, Fm⟩ := I.fr
  exact bin_left (nm := "mul") (T := "int") rfl Fm I.ok.mod.kin J c1 (He.eqO_ok c2) (He.eqO_ok c4) c5 (of_decide_eq_true c9) rfl (typeIs_int s i t) PySem.F.slot_int_mul PySem.F.fills_int_mul (decl_int J.1 rfl ⟨rfl, rfl⟩) (thn (wpAny_call (run_fnR (us := [.ref a, .int i t]) (vs := [.ref a, .int i]) F hr hx I (.cons rfl (.cons ⟨t, rfl⟩ .nil)) q)) fun w s' z => ep_back z)
theorem op_own2K {K : PySem.W.Frag} (e : X.K = K) (b : (Fx.bopo C m).ok K = true) (em : PySem.dunder op.info.2 = m) (F : FnR X.prog X.w K X.mg X.base CX k (mad C m K) sp) (hr : Room k X.A) (hx : Passes CX X E) : OpR X (binaryOp op) (rOwnO (gad C K) sp E) := by subst e; exact op_own2 b em F hr hx
theorem op_ownIrK {K : PySem.W.Frag} (e : X.K = K) (b : (Fx.bopr C m r "int").ok K = true) (em : PySem.dunder op.info.2 = m) (er : PySem.dunderR op.info.2 = r) (F : FnR X.prog X.w K X.mg X.base CX k (mad C m K) sp) (hr : Room k X.A) (hx : Passes CX X E) : OpR X (binaryOp op) (rOwnI (gad C K) sp E) := by subst e; exact op_ownIr b em er F hr hx
theorem op_intOK {K : PySem.W.Frag} (e : X.K = K) (b : (Fx.bopr C "__mul__" "__rmul__" "int").ok K = true) (F : FnR X.prog X.w K X.mg X.base CX k (mad C "__rmul__" K) sp) (hr : Room k X.A) (hx : Passes CX X E) : OpR X (binaryOp .Mult) (rIntO (gad C K) sp E) := by subst e; exact op_intO b F hr hx
end
/-! ### the same in a try body: what the callee raises is wished of the slots as they are -/
def eS (W : WX) (σ : L2.St) : XK := fun cls d H => W cls d σ H
def OpRS (X : Cx) (f : Value → Value → Sem Value) (r : L2.St → R2) : Prop :=
  ∀ (pins : List (Addr × Obj)) (s : Shared) (σ : L2.St) (H : Hp) (x y : V) (v u : Value) (Q : VK), Inv X pins σ H s → RelV x v → RelV y u → r σ x y H Q → wpAny (model X.prog X.w) X.A (f v u) (EP X pins σ Q) X.xe s
def tOpS (r : L2.St → R2) (ta tb : TE) : TE := fun σ H Q => tOp (r σ) ta tb σ H Q
section
variable {X : Cx} {op : Operator} {C m r : Str} {k : Nat} {sp : Sp} {W : WX}
theorem pe_opS {a b : Expr} {ta tb : TE} {pos : Pos} {r : L2.St → R2} (ho : OpRS X (binaryOp op) r) (ha : PE X a ta) (hb : PE X b tb) : PE X (.BinOp a op b pos) (tOpS r ta tb) := by
  refine ⟨fun pins s σ H Q I h => ?_⟩
  exact wpAny_BinOp (binT ha hb I h fun v u s2 x y H2 I2 rx ry q => ho pins s2 σ H2 x y v u Q I2 rx ry q)
theorem passS {pins : List (Addr × Obj)} {σ : L2.St} {H : Hp} {s : Shared} (tk : Takes X W) (I : Inv X pins σ H s) : ∀ e s', L2.CX X.prog X.w X.stack H s (eS W σ) e s' → X.xe e s' :=
  fun e s' c => tk e s' (XE.of_call I (fun _ _ _ h => h) c)
theorem run_fnRp {pins : List (Addr × Obj)} {σ : L2.St} {H : Hp} {s : Shared} {CX : CXT} {k : Nat} {f : Addr} {sp : Sp} {E : XK} {Q : VK} {us : List Value} {vs : List V} (F : FnR X.prog X.w X.K X.mg X.base CX k f sp) (hr : Room k X.A) (hx : ∀ e s', CX X.stack H s E e s' → X.xe e s') (I : Inv X pins σ H s) (r : Vals vs us) (h : sp vs H Q E) :
    codeAny (model X.prog X.w) X.A (.call (.ref f) ⟨us, []⟩) (fun r s' => match r with | .ok (.ret v) => EP X pins σ Q v s' | .ok _ => False | .error e => X.xe e s') s := by
  refine codeAny_mono (F X.A X.stack s H us vs Q E hr I.env0 r h) fun r s' hq => ?_
  cases r with
  | error e => exact hx e s' hq
  | ok fl =>
    cases fl with
    | ret u => exact I.after hq
    | next => exact False.elim hq
    | brk => exact False.elim hq
    | cont => exact False.elim hq
theorem op_own2S (b : (Fx.bopo C m).ok X.K = true) (em : PySem.dunder op.info.2 = m) (F : FnR X.prog X.w X.K X.mg X.base (L2.CX X.prog X.w) k (mad C m X.K) sp) (hr : Room k X.A) (tk : Takes X W) : OpRS X (binaryOp op) (fun σ => rOwnO (gad C X.K) sp (eS W σ)) := by
  intro pins s σ H x y v u Q I rx ry ⟨a, b', dx, fs, d2, f2, ex, ea, ey, eb, q⟩
  subst ex ey
  obtain rfl : v = Value.ref a := rx
  obtain rfl : u = Value.ref b' := ry
  obtain ⟨c1, c⟩ := He.ba b
  obtain ⟨c2, c3⟩ := He.ba c
  obtain ⟨mA, O, _⟩ := ins_get I.hok ea
  obtain ⟨od, J, _⟩ := O.look
  obtain ⟨mB, O2, _⟩ := ins_get I.hok eb
  obtain ⟨oe, J2, _⟩ := O2.look
  obtain ⟨m0, Fm⟩ := I.fr
  subst em
  exact bin_same Fm I.ok.mod.kin J J2 c1 (He.eqO_ok c2) c3 (thn (wpAny_call (run_fnRp (us := [.ref a, .ref b']) (vs := [.ref a, .ref b']) F hr (passS tk I) I (.cons rfl (.cons rfl .nil)) q)) fun w s' z => ep_back z)
theorem op_ownIrS (b : (Fx.bopr C m r "int").ok X.K = true) (em : PySem.dunder op.info.2 = m) (er : PySem.dunderR op.info.2 = r) (F : FnR X.prog X.w X.K X.mg X.base (L2.CX X.prog X.w) k (mad C m X.K) sp) (hr : Room k X.A) (tk : Takes X W) : OpRS X (binaryOp op) (fun σ => rOwnI (gad C X.K) sp (eS W σ)) := by
  intro pins s σ H x y v u Q I rx ry ⟨a, dx, fs, i, ex, ea, ey, q⟩
  subst ex ey
  obtain rfl : v = Value.ref a := rx
  obtain ⟨t, rfl⟩ := ry
  obtain ⟨c1, c⟩ := He.ba b
  obtain ⟨c2, c⟩ := He.ba c
  obtain ⟨c3, c⟩ := He.ba c
  obtain ⟨c4, c⟩ := He.ba c
  obtain ⟨c5, c⟩ := He.ba c
  obtain ⟨c6, c⟩ := He.ba c
  obtain ⟨c7, c⟩ := He.ba c
  obtain ⟨c8, c9⟩ := He.ba c
  obtain ⟨fo, h5⟩ := Option.isSome_iff_exists.mp c6
  obtain ⟨ro, h6⟩ := Option.isSome_iff_exists.mp c7
  obtain ⟨mA, O, _⟩ := ins_get I.hok ea
  obtain ⟨od, J, _⟩ := O.look
  obtain ⟨m0, Fm⟩ := I.fr
  subst em er
  exact PySem.W.ksp_binT (T := "int") Fm I.ok.mod.kin J rfl c1 (He.eqO_ok c2) c3 (He.eqO_ok c4) (.inr ⟨_, rfl⟩) h5 h6 (of_decide_eq_true c8) (thn (wpAny_call (run_fnRp (us := [.ref a, .int i t]) (vs := [.ref a, .int i]) F hr (passS tk I) I (.cons rfl (.cons ⟨t, rfl⟩ .nil)) q)) fun w s' z => ep_back z)
theorem op_intOS (b : (Fx.bopr C "__mul__" "__rmul__" "int").ok X.K = true) (F : FnR X.prog X.w X.K X.mg X.base (L2.CX X.prog X.w) k (mad C "__rmul__" X.K) sp) (hr : Room k X.A) (tk : Takes X W) : OpRS X (binaryOp .Mult) (fun σ => rIntO (gad C X.K) sp (eS W σ)) := by
  intro pins s σ H x y v u Q I rx ry ⟨i, a, dx, fs, ex, ey, ea, q⟩
  subst ex ey
  obtain ⟨t, rfl⟩ := rx
  obtain rfl : u = Value.ref a := ry
  obtain ⟨c1, c⟩ := He.ba b
  obtain ⟨c2, c⟩ := He.ba c
  obtain ⟨c3, c⟩ := He.ba c
  obtain ⟨c4, c⟩ := He.ba c
  obtain ⟨c5, c⟩ := He.ba c
  obtain ⟨c6, c⟩ := He.ba c
  obtain ⟨c7, c⟩ := He.ba c
  obtain ⟨c8, c9⟩ := He.ba c
  obtain ⟨mA, O, _⟩ := ins_get I.hok ea
  obtain ⟨od, J, _⟩ := O.look
  obtain ⟨m0, Fm⟩ := I.fr
  exact bin_left (nm := "mul") (T := "int") rfl Fm I.ok.mod.kin J c1 (He.eqO_ok c2) (He.eqO_ok c4) c5 (of_decide_eq_true c9) rfl (typeIs_int s i t) PySem.F.slot_int_mul PySem.F.fills_int_mul (decl_int J.1 rfl ⟨rfl, rfl⟩) (thn (wpAny_call (run_fnRp (us := [.ref a, .int i t]) (vs := [.ref a, .int i]) F hr (passS tk I) I (.cons rfl (.cons ⟨t, rfl⟩ .nil)) q)) fun w s' z => ep_back z)
theorem op_own2SK {K : PySem.W.Frag} (e : X.K = K) (b : (Fx.bopo C m).ok K = true) (em : PySem.dunder op.info.2 = m) (F : FnR X.prog X.w K X.mg X.base (L2.CX X.prog X.w) k (mad C m K) sp) (hr : Room k X.A) (tk : Takes X W) : OpRS X (binaryOp op) (fun σ => rOwnO (gad C K) sp (eS W σ)) := by subst e; exact op_own2S b em F hr tk
theorem op_ownIrSK {K : PySem.W.Frag} (e : X.K = K) (b : (Fx.bopr C m r "int").ok K = true) (em : PySem.dunder op.info.2 = m) (er : PySem.dunderR op.info.2 = r) (F : FnR X.prog X.w K X.mg X.base (L2.CX X.prog X.w) k (mad C m K) sp) (hr : Room k X.A) (tk : Takes X W) : OpRS X (binaryOp op) (fun σ => rOwnI (gad C K) sp (eS W σ)) := by subst e; exact op_ownIrS b em er F hr tk
theorem op_intOSK {K : PySem.W.Frag} (e : X.K = K) (b : (Fx.bopr C "__mul__" "__rmul__" "int").ok K = true) (F : FnR X.prog X.w K X.mg X.base (L2.CX X.prog X.w) k (mad C "__rmul__" K) sp) (hr : Room k X.A) (tk : Takes X W) : OpRS X (binaryOp .Mult) (fun σ => rIntO (gad C K) sp (eS W σ)) := by subst e; exact op_intOS b F hr tk
end
/-! ### C(*y, *z) -/
theorem args_two {M : Model} {A : Around} {E : Value → Shared → Prop} {s : Shared} {f : Value} {x y : Sem Value} {Q : Args → Shared → Prop} (h : wpAny M A (spliced [(true, x), (true, y)]) (fun vs s1 => Q ⟨vs, []⟩ s1) E s) : wpAny M A (evalArgs f true [(true, x), (true, y)] []) Q E s := by
  unfold evalArgs
  show wpAny M A (spliced [(true, x), (true, y)] >>= _) Q E s
  exact wpAny_bind (wpAny_mono h (fun vs s' h' => wpAny_holding (wpAny_bind (wpAny_pure (wpAny_bind (wpAny_pure (wpAny_pure h')))))) fun _ _ z => z)
theorem pe_make2 {X : Cx} {CX : CXT} {k : Nat} {f C : Addr} {sp : Sp} {E : XK} {x : Str} {e1 e2 : Expr} {p p1 p2 pos : Pos} {t : TA} (M : Mk X.K C f) (F : FnR X.prog X.w X.K X.mg X.base CX k f sp) (hr : Room (k + 1) X.A) (hg : Gl X x) (hm : X.mg x = some (.ref C)) (hx : Passes CX X E)
    (ha : PA X [.Starred e1 p1, .Starred e2 p2] t) (hd : (x == ("__debug__" : Str)) = false := by decide)
    (hst : starEach [.Starred e1 p1, .Starred e2 p2] X.env = [(true, eval e1 X.env), (true, eval e2 X.env)] := by rfl) : PE X (.Call (.Name x p) [.Starred e1 p1, .Starred e2 p2] [] pos) (StX.tMakeR C sp E t) := by
  refine ⟨fun pins s σ H Q I h => wpAny_Call_Name_kw (ld_glob I hg hm ?_ hd)⟩
  have z := thn (ha.run pos pins s σ H _ I h) (Q' := fun us s1 => X.K.In s1.heap ∧ wpAny (model X.prog X.w) X.A (call (.ref C) us) (EP X pins σ Q) X.xe s1) fun us s1 ⟨vs, H1, I1, r, q⟩ => ⟨I1.kIn, StX.run_makeR M F hr hx I1 r q⟩
  rw [hst] at z ⊢
  exact PySem.W.ks_call (first := []) (P := fun h => X.K.In h) rfl (PySem.W.keeps_K M.kp) (args_two z)
end Hue

set_option Elab.async false
set_option linter.all false
set_option maxRecDepth 100000
set_option maxHeartbeats 1000000
/-! x in t, t a tuple of data of any depth -/
namespace Hue
open PySem PySem.Spec PyProof.Rows L2
section
variable {X : Cx} {K : PySem.W.Frag}
def rInT (K : PySem.W.Frag) (no : Bool) : R2 := fun x y H Q => ∃ d ds, Dp K H x d ∧ Dp K H y (.tuple ds) ∧ SeqAt.shaped d = true ∧ SeqAt.shaped (.list ds) = true ∧ Q (.bl (no != (ds.any fun z => PyData.eqv z d))) H
theorem op_inT (hu : X.A.units + 65 < cLine) : OpR X (compareOp .In) (rInT X.K false) := by
  intro pins s σ H x y v u Q I rx ry h
  obtain ⟨d, ds, hd, he, sd, se, q⟩ := h
  obtain ⟨as, r1⟩ := Dp.reads I d x v hd rx
  obtain ⟨bs, r2⟩ := Dp.reads I (.tuple ds) y u he ry
  exact SeqAt.in_tuple_reads r2 r1 (SeqAt.canLay_of_shaped se) (SeqAt.canLay_of_shaped sd) (room_in_shaped sd hu) ⟨.bl (ds.any fun z => PyData.eqv z d), H, I, rfl, by rw [Bool.false_bne] at q; exact q⟩
theorem op_notInT (hu : X.A.units + 65 < cLine) : OpR X (compareOp .NotIn) (rInT X.K true) := by
  intro pins s σ H x y v u Q I rx ry h
  obtain ⟨d, ds, hd, he, sd, se, q⟩ := h
  obtain ⟨as, r1⟩ := Dp.reads I d x v hd rx
  obtain ⟨bs, r2⟩ := Dp.reads I (.tuple ds) y u he ry
  exact SeqAt.notIn_tuple_reads r2 r1 (SeqAt.canLay_of_shaped se) (SeqAt.canLay_of_shaped sd) (room_in_shaped sd hu) ⟨.bl (!ds.any fun z => PyData.eqv z d), H, I, rfl, by rw [Bool.true_bne] at q; exact q⟩
theorem op_inDK (e : X.K = K) (hu : X.A.units + 65 < cLine) : OpR X (compareOp .In) (rInD K) := e ▸ op_inD hu
theorem op_notInDK (e : X.K = K) (hu : X.A.units + 65 < cLine) : OpR X (compareOp .NotIn) (rNotInD K) := e ▸ op_notInD hu
theorem op_inTK (e : X.K = K) (hu : X.A.units + 65 < cLine) : OpR X (compareOp .In) (rInT K false) := e ▸ op_inT hu
theorem op_notInTK (e : X.K = K) (hu : X.A.units + 65 < cLine) : OpR X (compareOp .NotIn) (rInT K true) := e ▸ op_notInT hu
end
theorem room65 {k : Nat} {A : Around} (r : Room k A) : A.units + 65 < cLine := by have := r.un; omega
/-- a word with a number -/
def sD (z : Str × Int) : PyData := .tuple [.str z.1, .int z.2]
def sVs (z : Str × Int) : List V := [.str z.1, .int z.2]
theorem sD_eqv (z y : Str × Int) : PyData.eqv (sD z) (sD y) = decide (z = y) := by
  obtain ⟨a, i⟩ := z
  obtain ⟨b, j⟩ := y
  have e : PyData.eqv (sD (a, i)) (sD (b, j)) = ((a == b) && ((i == j) && true)) := by simp only [sD, PyData.eqv, PyData.eqvAll]
  rw [e, Bool.and_true]
  by_cases h : (a, i) = (b, j)
  · cases h
    simp
  · rw [decide_eq_false h]
    by_cases h1 : a = b
    · have h2 : ¬ i = j := fun z => h (by rw [h1, z])
      rw [beq_eq_false_iff_ne.mpr h2, Bool.and_false]
    · rw [beq_eq_false_iff_ne.mpr h1, Bool.false_and]
abbrev SOk (z : Str × Int) : Prop := PyData.strOk z.1 = true
theorem sD_lay {z : Str × Int} (h : SOk z) : (sD z).canLay0 = true := by
  obtain ⟨a, i⟩ := z
  simp only [sD, PyData.canLay0, PyData.canLayAll0, Bool.and_true]
  exact h
theorem sD_depth (z : Str × Int) : (sD z).depth = 1 := by simp [sD, PyData.depth, PyData.depthAll]
theorem sD_shaped {z : Str × Int} (h : SOk z) : SeqAt.shaped (sD z) = true := by
  show ((sD z).canLay0 && decide ((sD z).depth ≤ 64)) = true
  rw [Bool.and_eq_true]
  exact ⟨sD_lay h, decide_eq_true (by rw [sD_depth]; omega)⟩
theorem sDs_lay : ∀ zs : List (Str × Int), (∀ z ∈ zs, SOk z) → PyData.canLayAll0 (zs.map sD) = true
  | [], _ => by simp [PyData.canLayAll0]
  | z :: zs, h => by
    simp only [List.map_cons, PyData.canLayAll0, Bool.and_eq_true]
    exact ⟨sD_lay (h z List.mem_cons_self), sDs_lay zs fun y hy => h y (List.mem_cons_of_mem _ hy)⟩
theorem sDs_depth : ∀ zs : List (Str × Int), PyData.depthAll (zs.map sD) ≤ 1
  | [] => by simp [PyData.depthAll]
  | z :: zs => by
    have h1 := sDs_depth zs
    have h2 := sD_depth z
    simp only [List.map_cons, PyData.depthAll]
    omega
theorem sDs_shaped {zs : List (Str × Int)} (h : ∀ z ∈ zs, SOk z) : SeqAt.shaped (.list (zs.map sD)) = true := by
  have h1 := sDs_depth zs
  have h2 : PyData.depth (.list (zs.map sD)) ≤ 64 := by
    simp only [PyData.depth]
    omega
  show (PyData.canLay0 (.list (zs.map sD)) && decide (PyData.depth (.list (zs.map sD)) ≤ 64)) = true
  rw [Bool.and_eq_true]
  exact ⟨by simp only [PyData.canLay0]; exact sDs_lay zs h, decide_eq_true h2⟩
theorem sDs_any (zs : List (Str × Int)) (y : Str × Int) : ((zs.map sD).any fun z => PyData.eqv z (sD y)) = decide (y ∈ zs) := by
  induction zs with
  | nil => rfl
  | cons z zs ih =>
    rw [List.map_cons, List.any_cons, ih, sD_eqv]
    by_cases h : z = y
    · subst h; simp
    · have h' : ¬ y = z := fun q => h q.symm
      simp [h, h']
end Hue

set_option Elab.async false
set_option linter.all false
set_option maxRecDepth 100000
set_option maxHeartbeats 1000000
/-! enumerate of a tuple -/
namespace Hue
open PySem PySem.Spec PyProof.Rows L2
theorem meets_enum1 {v : Value} {o : Obj} {H : Heap → Prop} (B : Begins v o H) :
    Meets (Builtin.«enumerate.__new__» ⟨[.type "enumerate", v], []⟩) (fun _ R s => H s.heap ∧
      R (.ok (.ret (.ref (s.heap.push o).objs.size))) { s with heap := (s.heap.push o).push { cls := .type "enumerate", data := .fields #[.none, .bool false, .ref s.heap.objs.size, rawInt 0, .none, .none] } }) :=
  .of_wp fun prog w A R s h => by
    obtain ⟨hp, g, d, tk, os⟩ := s; obtain ⟨h1, h⟩ := h
    have hsub := sub_enumerate
    have q1 : ∀ {A' : Around} {E : Value → Shared → Prop} {Q : Value → Shared → Prop}, Q (.ref hp.objs.size) ⟨hp.push o, g, d, tk, os⟩ → wpAny (model prog w) A' (pyIter v) Q E ⟨hp, g, d, tk, os⟩ :=
      fun q => B.iter prog w _ _ ⟨hp, g, d, tk, os⟩ _ h1 q
    wp_walk using q1
    refine wpAny_stack_any fun st => wpAny_pure ?_
    split
    · rename_i c _ _ _ _ _
      cases (c == Value.type "enumerate")
      · wp_walk using q1
        exact ⟨_, rfl, h⟩
      · wp_walk using q1
        exact ⟨_, rfl, h⟩
    · wp_walk using q1
      exact ⟨_, rfl, h⟩
theorem enum_begins1 {prog : Program} {w : World} {A : Around} {E : Value → Shared → Prop} {s : Shared} {v : Value} {o : Obj} {H : Heap → Prop} {Q : Value → Shared → Prop} (B : Begins v o H) (h1 : H s.heap)
    (h : ∀ h', IsEnum h' (s.heap.objs.size + 1) s.heap.objs.size 0 .none → h'.get? s.heap.objs.size = some o → h'.objs.size = s.heap.objs.size + 2 →
      (∀ b o, s.heap.get? b = some o → h'.get? b = some o) → Q (.ref (s.heap.objs.size + 1)) { s with heap := h' }) :
    wpAny (model prog w) A (call (.type "enumerate") [v]) Q E s := by
  refine callType_new F.called_enumerate (by decide) (F.typeCall_enumerate_1 _) (F.newCall_enumerate_1 _) (fun obj => F.args_object_init_2 obj _) F.entry_enumerate_new
    (meets_enum1 B) ⟨h1, ?_⟩
  have hz : (s.heap.push o).objs.size = s.heap.objs.size + 1 := Heap.size_push ..
  show _ ∧ _
  rw [hz]
  have he : IsEnum ((s.heap.push o).push { cls := .type "enumerate", data := .fields #[.none, .bool false, .ref s.heap.objs.size, rawInt 0, .none, .none] }) (s.heap.objs.size + 1) s.heap.objs.size 0 .none := by
    have := Heap.get?_push_size (s.heap.push o) (o := { cls := .type "enumerate", data := .fields #[.none, .bool false, .ref s.heap.objs.size, rawInt 0, .none, .none] }) rfl
    rw [hz] at this; exact this
  refine ⟨⟨_, he, rfl⟩, h _ he (Heap.get?_push_of_some _ (Heap.get?_push_size _ B.free)) (by rw [Heap.size_push, hz]) fun b o x => Heap.get?_push_of_some _ (Heap.get?_push_of_some _ x)⟩
/-- the tuple at a, each item in a new pair -/
def ItET (K : PySem.W.Frag) (a : Addr) : It :=
  ⟨fun i H => ∃ (xs : List V) (x : V), SqT K H a xs ∧ xs[i]? = some x, fun i H v H' => ∃ T x, v = .ref T ∧ H T = none ∧ H' = upd H T (.tup [.int (i : Nat), x]) ∧ ∀ xs, SqT K H a xs → xs[i]? = some x, fun i H => ∃ xs : List V, SqT K H a xs ∧ i = xs.length⟩
theorem turn_ET {P : Program} {w : World} {K : PySem.W.Frag} {elts : List Expr} {kk : Nat} {tpos : Pos} (a e it : Addr) (na : a ≠ it) (ne : e ≠ a) :
    Turn P w K (.Tuple elts kk tpos) (ItET K a) [e, it] e (fun i h => (∃ old, IsEnum h e it ((i : Nat) : Int) old) ∧ h.IsTupleIter it a i ∧ e ≠ it) where
  mem := by simp
  obj := fun i h st b hb => by
    obtain ⟨⟨old, he⟩, ⟨o, ho, hc, hd⟩, _⟩ := st
    have e' : b = e ∨ b = it := by simpa using hb
    rcases e' with z | z
    · rw [z]; exact ⟨_, he, fun v q => nomatch q⟩
    · rw [z]; exact ⟨o, ho, fun v q => by rw [hd] at q; cases q⟩
  keep := fun i h h' st k => let ⟨⟨old, he⟩, hi, hne⟩ := st; ⟨⟨old, k e (by simp) _ he⟩, hi.at fun o q => k it (by simp) o q, hne⟩
  item := by
    intro X hP hw hK hc i pins s σ H E I hf st hg
    subst hP hw hK
    obtain ⟨⟨old, he⟩, hit, hne⟩ := st
    obtain ⟨xs, x, hq, hx⟩ := hg
    obtain ⟨its, rv, p, hz⟩ := I.tuple hq
    obtain ⟨u, hu, ru⟩ := rv.get hx
    have hel : e < s.heap.objs.size := Heap.lt_size he
    have hil : it < s.heap.objs.size := by obtain ⟨_, q, _⟩ := hit; exact Heap.lt_size q
    have hh : X.A.in1.handled = none := I.ok.hd hc
    have hlt : i < its.toArray.size := by have := (List.getElem?_eq_some_iff.mp hu).1; simpa using this
    refine wpAny_pyNext_enum_itemD (Draws.tuple hh it a na its.toArray) he ⟨hit, p⟩ hlt hne (by simp [hne, ne]) fun u' h' tk e1 ho hst' hT hsz hk => ?_
    have eu : u' = u := by
      have : its[i]? = some u' := by simpa using e1
      rw [hu] at this; exact (Option.some.inj this).symm
    subst eu
    refine ⟨_, rfl, wpAny_letOwnedTupleGo_enum (s := { s with heap := h', toks := tk + 1 }) ho fun h'' he' sb => ?_⟩
    have hT2 : h''.get? s.heap.objs.size = some { cls := .type "tuple", data := .seq #[.int i tk, u'] } := (sb.2 _ (Nat.ne_of_gt hel)).trans hT
    have new : ObjOk X.prog X.w (upd H s.heap.objs.size (.tup [.int (i : Nat), x])) h'' s.heap.objs.size (.tup [.int (i : Nat), x]) :=
      ⟨by show 2 ≤ sizeLine; decide, [.int i tk, u'], .cons ⟨_, rfl⟩ (.cons ru .nil), ⟨_, hT2, rfl, _, rfl⟩⟩
    have I1 : Inv X pins σ (upd H s.heap.objs.size (.tup [.int (i : Nat), x])) { s with heap := h'', toks := tk + 1 } :=
      I.turnedNew (ch := [e, it]) (fun b ob hb q => (sb.2 b (fun z => hb (by simp [z]))).trans (hk b ob (fun z => hb (by simp [z])) (fun z => hb (by simp [z])) q)) hf (Nat.le_refl _) new
    refine ⟨.ref s.heap.objs.size, _, I1, rfl, ⟨_, x, rfl, I.hok.fresh (Nat.le_refl _), rfl, fun ys hy => by rw [I.tuple_inj hy hq]; exact hx⟩, ⟨⟨u', ?_⟩, hst'.1.at fun o q => (sb.2 it (Ne.symm hne)).trans q, hne⟩, fun b hb => ?_⟩
    · have e1 : ((i + 1 : Nat) : Int) = (i : Int) + 1 := by omega
      rw [e1]; exact he'
    · have hb' : b < s.heap.objs.size := by
        have e' : b = e ∨ b = it := by simpa using hb
        rcases e' with z | z
        · rw [z]; exact hel
        · rw [z]; exact hil
      rw [upd_ne (Nat.ne_of_lt hb')]
      exact (hf b hb).1
  done := by
    intro X hP hw hK hc i pins s σ H E I hf st hg
    subst hP hw hK
    obtain ⟨⟨old, he⟩, hit, hne⟩ := st
    obtain ⟨xs, hq, hx⟩ := hg
    obtain ⟨its, rv, p, hz⟩ := I.tuple hq
    obtain ⟨f0, f1, f2, f3, f4, f5⟩ := hf it (by simp)
    have hl := rv.length
    have hh : X.A.in1.handled = none := I.ok.hd hc
    have ei : i = its.toArray.size := by simp; omega
    subst ei
    exact wpAny_pyNext_enum_endD (Draws.tuple hh it a na its.toArray) he ⟨hit, p⟩ fun h' eb => ⟨rfl, I.turned (t' := s.toks) (fun b o hb q => eb b o hb q) f0 f1 f3 f4 f5⟩
  self := fun A i s Q E st h => let ⟨⟨_, he⟩, _⟩ := st; wpAny_pyIter_enum he h
def iEnumT (K : PySem.W.Frag) (ta : TA) : TI := fun σ H R => ta σ H fun vs H1 => ∃ a xs, vs = [.ref a] ∧ SqT K H1 a xs ∧ R (ItET K a) H1
theorem pi_enumT {X : Cx} {e : Expr} {ta : TA} {p pos tpos : Pos} {elts : List Expr} {kk : Nat} (hg : Gl X "enumerate") (hm : X.mg "enumerate" = none) (ha : PA X [e] ta) (hs : starEach [e] X.env = [(false, eval e X.env)] := by rfl) :
    PI X (.Tuple elts kk tpos) (.Call (.Name "enumerate" p) [e] [] pos) (iEnumT X.K ta) := by
  refine ⟨fun pins s σ H R I h => ?_⟩
  refine Call_ (ld_blt I hg hm boot_enumerate (PyProof.Rows.callWith_type1 (thn (ha.run pos pins s σ H _ I h) fun us s1 ⟨vs, H1, I1, r1, q1⟩ => ?_) hs rfl))
  obtain ⟨a, xs, ex, hq, q⟩ := q1
  subst ex
  cases r1 with
  | cons r rr =>
    cases rr
    cases r
    obtain ⟨its, rv, p', hz⟩ := I1.tuple hq
    have la : a < s1.heap.objs.size := by obtain ⟨_, e, _⟩ := id p'; exact Heap.lt_size e
    refine enum_begins1 (begins_tuple a its.toArray) p' fun h' he hit hsz hk => wpAny_pyIter_enum he ?_
    have I2 : Inv X pins σ H1 { s1 with heap := h' } := I1.kept (t' := s1.toks) hk
    refine ⟨s1.heap.objs.size + 1, [s1.heap.objs.size + 1, s1.heap.objs.size], _, _, H1, rfl, I2, turn_ET a (s1.heap.objs.size + 1) s1.heap.objs.size (Nat.ne_of_lt la) (Nat.ne_of_gt (Nat.lt_succ_of_lt la)), ⟨⟨.none, he⟩, ⟨_, hit, rfl, rfl⟩, Nat.succ_ne_self _⟩, fun b hb => ?_, q⟩
    have e' : b = s1.heap.objs.size + 1 ∨ b = s1.heap.objs.size := by simpa using hb
    have hle : s1.heap.objs.size ≤ b := by
      rcases e' with z | z
      · rw [z]; exact Nat.le_add_right _ _
      · rw [z]; exact Nat.le_refl _
    exact I1.fpOk hle (I1.hok.fresh hle)
theorem walk_enumT {K : PySem.W.Frag} {a : Addr} {xs : List V} : Walk (ItET K a) xs.length (fun H => SqT K H a xs) (YPair (fun i => some (.int (i : Nat))) (fun i => xs[i]?)) := by
  refine ⟨fun i _ hi q => ⟨xs, xs[i], q, by simp [hi]⟩, fun _ q => ⟨xs, q, rfl⟩, fun i H v H' _ q y => ?_⟩
  obtain ⟨T, x, h1, h2, h3, h4⟩ := y
  exact ⟨T, .int (i : Nat), x, h1, h2, h3, rfl, h4 xs q⟩
end Hue

set_option Elab.async false
set_option linter.all false
set_option maxRecDepth 100000
set_option maxHeartbeats 1000000
/-! sorted(xs) of data of any depth: one ascending list -/
namespace Hue
open PySem PySem.Spec PyProof.Rows L2
theorem each_vals {bs : List (V × PyData)} : ∀ {its : List Value}, Vals (bs.map (·.1)) its → PySem.W.EachIs (fun v (b : V × PyData) => RelV b.1 v) its bs := by
  induction bs with
  | nil => intro its h; cases h; exact .nil
  | cons b bs ih => intro its h; cases h with | cons r t => exact .cons r (ih t)
theorem vals_each {bs : List (V × PyData)} : ∀ {its : List Value}, PySem.W.EachIs (fun v (b : V × PyData) => RelV b.1 v) its bs → Vals (bs.map (·.1)) its := by
  induction bs with
  | nil => intro its h; cases h; exact .nil
  | cons b bs ih => intro its h; cases h with | cons r t => exact .cons r (ih t)
theorem each_in {α β : Type} {R R' : α → β → Prop} {as : List α} {bs : List β} (h : PySem.W.EachIs R as bs) (k : ∀ a b, b ∈ bs → R a b → R' a b) : PySem.W.EachIs R' as bs := by
  induction h with
  | nil => exact .nil
  | cons r t ih => exact .cons (k _ _ List.mem_cons_self r) (ih fun a b m => k a b (List.mem_cons_of_mem _ m))
/-- the pairs in ascending order of their data -/
noncomputable def ascD (bs : List (V × PyData)) : List (V × PyData) := bs.mergeSort (PySem.W.dataLe false (·.2))
section
variable {X : Cx}
def rSortedD (K : PySem.W.Frag) : List V → Hp → VK → Prop := fun vs H Q => ∃ (a : Addr) (bs : List (V × PyData)), vs = [V.ref a] ∧ SqL K H a (bs.map (·.1)) ∧ (∀ b ∈ bs, Dp K H b.1 b.2) ∧ PySem.W.AllAlike (bs.map (·.2)) ∧ PySem.W.Sortable (bs.map (·.2)) ∧ (∀ b ∈ bs, b.2.depth ≤ 60) ∧
  ∀ p, H p = none → Q (.ref p) (upd H p (.lst ((ascD bs).map (·.1))))
theorem cr_sortedD (hu : X.A.units + 65 < cLine) : CallR X (.builtin "sorted") (rSortedD X.K) := by
  intro pins s σ H vs us Q I r h
  obtain ⟨a, bs, rfl, hs, hd, hal, hk, hdep, q⟩ := h
  obtain ⟨its, rv, hl, hz⟩ := I.list hs
  rw [Vals.ref1 r]
  have er0 := each_vals rv
  have er : PySem.W.EachIs (fun v (b : V × PyData) => ∃ as, Reads s.heap v b.2 as) its bs := each_in er0 fun v b m rb => Dp.reads I b.2 b.1 v (hd b m) rb
  have hz' : bs.length ≤ sizeLine := by rw [List.length_map] at hz; exact hz
  refine PySem.W.sorted_data (enc := fun b : V × PyData => b.2) hl.isList er0 er hal hk hz' (fun b hb => by have := hdep b hb; omega) fun out hlen ho => ?_
  obtain ⟨ep, he'⟩ := PyProof.Rows.sortedAll_at s.heap its out.toArray
  have hlen' : ((ascD bs).map (·.1)).length ≤ sizeLine := by
    unfold ascD
    rw [List.length_map, List.length_mergeSort]
    exact hz'
  exact ⟨.ref _, upd H (s.heap.objs.size + 1) (.lst ((ascD bs).map (·.1))), I.laid (t' := s.toks) (fun _ _ => PyProof.Rows.sortedAll_old) (Nat.le_succ _) ⟨hlen', out, ep, vals_each ho, he'⟩, rfl, q _ (I.hok.fresh (Nat.le_succ _))⟩
end
/-- a list in order is the one list of these items in strict order -/
theorem asc_one {α : Type} {lt : α → α → Bool} : ∀ {xs ys : List α}, xs.Perm ys → xs.Pairwise (fun a b => lt b a = false) → ys.Pairwise (fun a b => lt a b = true) → xs = ys
  | [], ys, p, _, _ => (List.Perm.nil_eq p)
  | x :: xs, [], p, _, _ => absurd p.length_eq (by simp)
  | x :: xs, y :: ys, p, h1, h2 => by
    have h1' := List.pairwise_cons.mp h1
    have h2' := List.pairwise_cons.mp h2
    have e : x = y := by
      have a : x ∈ y :: ys := p.mem_iff.mp List.mem_cons_self
      have b : y ∈ x :: xs := p.mem_iff.mpr List.mem_cons_self
      rcases List.mem_cons.mp a with a | a
      · exact a
      · rcases List.mem_cons.mp b with b | b
        · exact b.symm
        · have u := h1'.1 y b
          have v := h2'.1 x a
          rw [u] at v
          cases v
    subst e
    rw [asc_one (p.cons_inv) h1'.2 h2'.2]
theorem ascD_data {bs : List (V × PyData)} {ds : List PyData} (p : (bs.map (·.2)).Perm ds) (s : ds.Pairwise fun a b => PySem.W.dataLt a b = true) : (ascD bs).map (·.2) = ds := by
  refine asc_one (lt := PySem.W.dataLt) (((List.mergeSort_perm bs _).map _).trans p) ?_ s
  have h := PySem.W.sort_pairwise (PySem.W.sortLe_total (listOrd itemOrd) false fun b : V × PyData => PySem.W.keyToks b.2) bs
  refine List.pairwise_map.mpr (h.imp fun {a b} h => ?_)
  have h' : (!PySem.W.dataLt b.2 a.2) = true := h
  simpa using h'
theorem ascD_mem {bs : List (V × PyData)} {b : V × PyData} (h : b ∈ ascD bs) : b ∈ bs := (List.mergeSort_perm bs _).mem_iff.mp h
theorem ascD_dp {K : PySem.W.Frag} {H : Hp} {bs : List (V × PyData)} (h : ∀ b ∈ bs, Dp K H b.1 b.2) : Paired (Dp K H) ((ascD bs).map (·.1)) ((ascD bs).map (·.2)) := by
  have : ∀ xs : List (V × PyData), (∀ b ∈ xs, Dp K H b.1 b.2) → Paired (Dp K H) (xs.map (·.1)) (xs.map (·.2)) := by
    intro xs
    induction xs with
    | nil => intro _; exact .nil
    | cons x xs ih => intro hx; exact .cons (hx x List.mem_cons_self) (ih fun b m => hx b (List.mem_cons_of_mem _ m))
  exact this _ fun b m => h b (ascD_mem m)
/-! ### pairs of a standing and a number -/
structure Stn where
  a : Int
  b : Int
  c : Int
  d : Int
deriving DecidableEq
def stD (x : Stn) : PyData := .tuple [.int x.a, .int x.b, .int x.c, .int x.d]
def stV (x : Stn) : List V := [.int x.a, .int x.b, .int x.c, .int x.d]
def pnD (p : Stn × Int) : PyData := .tuple [stD p.1, .int p.2]
theorem stD_eqv (x y : Stn) : PyData.eqv (stD x) (stD y) = decide (x = y) := by
  obtain ⟨a, b, c, d⟩ := x
  obtain ⟨a', b', c', d'⟩ := y
  have e : PyData.eqv (stD ⟨a, b, c, d⟩) (stD ⟨a', b', c', d'⟩) = ((a == a') && ((b == b') && ((c == c') && ((d == d') && true)))) := by simp only [stD, PyData.eqv, PyData.eqvAll]
  rw [e, Bool.eq_iff_iff]
  simp
theorem pnD_eqv (x y : Stn × Int) : PyData.eqv (pnD x) (pnD y) = decide (x = y) := by
  have e : PyData.eqv (pnD x) (pnD y) = (PyData.eqv (stD x.1) (stD y.1) && ((x.2 == y.2) && true)) := by simp only [pnD, PyData.eqv, PyData.eqvAll]
  obtain ⟨x, n⟩ := x
  obtain ⟨y, m⟩ := y
  rw [e, stD_eqv, Bool.eq_iff_iff]
  simp
theorem stD_lay (x : Stn) : (stD x).canLay0 = true := by simp [stD, PyData.canLay0, PyData.canLayAll0]
theorem pnD_lay (x : Stn × Int) : (pnD x).canLay0 = true := by simp [pnD, stD, PyData.canLay0, PyData.canLayAll0]
theorem stD_depth (x : Stn) : (stD x).depth = 1 := by simp [stD, PyData.depth, PyData.depthAll]
theorem pnD_depth (x : Stn × Int) : (pnD x).depth = 2 := by simp [pnD, stD, PyData.depth, PyData.depthAll]
theorem stD_shaped (x : Stn) : SeqAt.shaped (stD x) = true := by
  show ((stD x).canLay0 && decide ((stD x).depth ≤ 64)) = true
  rw [Bool.and_eq_true]
  exact ⟨stD_lay x, decide_eq_true (by rw [stD_depth]; omega)⟩
theorem pnD_shaped (x : Stn × Int) : SeqAt.shaped (pnD x) = true := by
  show ((pnD x).canLay0 && decide ((pnD x).depth ≤ 64)) = true
  rw [Bool.and_eq_true]
  exact ⟨pnD_lay x, decide_eq_true (by rw [pnD_depth]; omega)⟩
theorem stD_alike (x y : Stn) : PySem.W.alike (stD x) (stD y) = true := by simp [stD, PySem.W.alike, PySem.W.alikeAll]
theorem pnD_alike (x y : Stn × Int) : PySem.W.alike (pnD x) (pnD y) = true := by simp [pnD, stD, PySem.W.alike, PySem.W.alikeAll]
theorem pnD_dp {K : PySem.W.Frag} {H : Hp} {p t : Addr} {x : Stn} {n : Int} (hp : H p = some (.tup [.ref t, .int n])) (ht : H t = some (.tup (stV x))) : Dp K H (.ref p) (pnD (x, n)) :=
  .tup (SqT.of hp) (.cons (.tup (SqT.of ht) (.cons (.int _) (.cons (.int _) (.cons (.int _) (.cons (.int _) .nil))))) (.cons (.int _) .nil))
def stL (x : Stn) : List Int := [x.a, x.b, x.c, x.d]
theorem stD_lt (x y : Stn) : PySem.W.dataLt (stD x) (stD y) = decide (stL x < stL y) := by
  have e : ∀ z : Stn, stD z = .tuple ((stL z).map .int) := fun _ => rfl
  rw [e, e, PySem.W.dataLt_tuple]
  exact PySem.W.dataLt_ints _ _
/-- the order of the pairs -/
theorem pnD_lt (x y : Stn × Int) : PySem.W.dataLt (pnD x) (pnD y) = if x.1 = y.1 then decide (x.2 < y.2) else decide (stL x.1 < stL y.1) := by
  obtain ⟨x, n⟩ := x
  obtain ⟨y, m⟩ := y
  show PySem.W.dataLt (.tuple [stD x, .int n]) (.tuple [stD y, .int m]) = _
  rw [PySem.W.dataLt_pair (stD_alike x y) (by simp [PySem.W.alike]), stD_eqv, stD_lt, PySem.W.dataLt_int]
  have e : PyData.eqv (.int n) (.int m) = decide (n = m) := by simp only [PyData.eqv]; by_cases g : n = m <;> simp [g]
  rw [e]
  by_cases h : x = y
  · rw [decide_eq_true h, if_pos rfl, if_pos h]
    by_cases g : n = m
    · rw [decide_eq_true g, if_pos rfl, g]
      simp
    · rw [decide_eq_false g, if_neg (by simp)]
  · rw [decide_eq_false h, if_neg (by simp), if_neg h]
theorem stD_inj {x y : Stn} (h : stD x = stD y) : x = y := by
  obtain ⟨a, b, c, d⟩ := x
  obtain ⟨a', b', c', d'⟩ := y
  injection h with h
  injection h with h1 h
  injection h with h2 h
  injection h with h3 h
  injection h with h4 h
  injection h1 with h1
  injection h2 with h2
  injection h3 with h3
  injection h4 with h4
  subst h1 h2 h3 h4
  rfl
theorem pnD_inj {x y : Stn × Int} (h : pnD x = pnD y) : x = y := by
  obtain ⟨x, n⟩ := x
  obtain ⟨y, m⟩ := y
  injection h with h
  injection h with h1 h
  injection h with h2 h
  injection h2 with h2
  have h1 : stD x = stD y := h1
  have h2 : n = m := h2
  rw [stD_inj h1, h2]
/-- v is the pair x -/
def PnAt (H : Hp) (v : V) (x : Stn × Int) : Prop := ∃ p t, v = .ref p ∧ H p = some (.tup [.ref t, .int x.2]) ∧ H t = some (.tup (stV x.1))
theorem PnAt.dp {K : PySem.W.Frag} {H : Hp} {v : V} {x : Stn × Int} (h : PnAt H v x) : Dp K H v (pnD x) := by
  obtain ⟨p, t, rfl, h1, h2⟩ := h
  exact pnD_dp h1 h2
theorem asc_pn {H : Hp} : ∀ {cs : List (V × PyData)} {ds : List (Stn × Int)}, (∀ b ∈ cs, ∃ q, b.2 = pnD q ∧ PnAt H b.1 q) → cs.map (·.2) = ds.map pnD → Paired (PnAt H) (cs.map (·.1)) ds
  | [], [], _, _ => .nil
  | [], d :: ds, _, e => by cases e
  | c :: cs, [], _, e => by cases e
  | c :: cs, d :: ds, h, e => by
    rw [List.map_cons, List.map_cons] at e
    injection e with e1 e2
    obtain ⟨q, h1, h2⟩ := h c List.mem_cons_self
    have e3 : q = d := pnD_inj (h1.symm.trans e1)
    exact .cons (e3 ▸ h2) (asc_pn (fun b m => h b (List.mem_cons_of_mem _ m)) e2)
theorem pn_alike {bs : List (V × PyData)} (h : ∀ b ∈ bs, ∃ q : Stn × Int, b.2 = pnD q) : PySem.W.AllAlike (bs.map (·.2)) := by
  intro d hd d' hd'
  obtain ⟨b, m, rfl⟩ := List.mem_map.mp hd
  obtain ⟨b', m', rfl⟩ := List.mem_map.mp hd'
  obtain ⟨q, e⟩ := h b m
  obtain ⟨q', e'⟩ := h b' m'
  rw [e, e']
  exact pnD_alike q q'
theorem pn_sortable {bs : List (V × PyData)} (h : ∀ b ∈ bs, ∃ q : Stn × Int, b.2 = pnD q) : PySem.W.Sortable (bs.map (·.2)) := .inl fun d hd => by
  obtain ⟨b, m, rfl⟩ := List.mem_map.mp hd
  obtain ⟨q, e⟩ := h b m
  exact ⟨stD q.1, [.int q.2], e⟩
theorem pn_depth {b : V × PyData} (h : ∃ q : Stn × Int, b.2 = pnD q) : b.2.depth ≤ 60 := by
  obtain ⟨q, e⟩ := h
  rw [e, pnD_depth]
  omega
end Hue

set_option Elab.async false
set_option linter.all false
set_option maxRecDepth 100000
set_option maxHeartbeats 4000000
/-! an own __iter__ that returns a list's iterator; == of lists of instances with their own == -/
namespace Hue
open PySem PySem.Spec PyProof.Rows L2 ItX
structure OwnIt (K : PySem.W.Frag) (C f : Addr) : Prop where
  at_ : PySem.W.findIn K (.ref C) "__iter__" = some (some (.ref f))
  fn : PySem.W.isFn K (.ref f) = true
theorem OwnM.iter {K : PySem.W.Frag} {C f : Addr} (o : OwnM K C "__iter__" f) : OwnIt K C f := ⟨o.at_, o.fn⟩
/-- a def by its body, entered at s0 -/
theorem fn_here {CX : CXT} {P : Program} {w : World} {K : PySem.W.Frag} {mg : Str → Option Value} {base : Heap} {k : Nat} {x qual : Str} {params : Arguments} {body : List Stmt} {scope : Scope} {f : Addr} {fd : FuncData}
    {N ps : List Str} {A : Around} {out : List Env} {s0 : Shared} {H : Hp} {xs : List Value} {vs : List V} {Q : VK} {E : XK}
    (F : FunD K x qual params body scope [] [] f fd) (S : FnScope N ps scope) (rm : Room (k + 1) A) (en : Env0 P w K mg base A out s0 H) (bd : Binds K fd ps []) (rel : Vals vs xs) (ln : vs.length = ps.length)
    (bod : ∀ cdv, Room k (A.deeper (envOfC qual scope s0.heap.objs.size f cdv)) → ∃ t, PSs (cxOf CX P w K mg base N qual scope f cdv A out s0 H E) body t ∧ t { nx := fun _ H' => Q .non H', rt := Q } (start N vs) H) :
    codeAny (model P w) A (.call (.ref f) ⟨xs, []⟩) (CR CX out P w H s0 Q E) s0 := by
  have kx : K.In s0.heap := en.mod.kin.keeps fun b o z => (en.bs b o z).1
  have nl : s0.heap.NoLimit := en.mod.nolimit.keeps fun b o z => (en.bs b o z).1
  have bt : BindsTo s0 fd ⟨xs, []⟩ (ps.zip xs) := by
    have z := bd s0 xs kx (by rw [List.append_nil, ← rel.length, ln])
    rw [List.append_nil] at z
    exact z
  obtain ⟨oc, od, dV, kV, doc, pm, an, cdv, ct, osl, rfl, lk, hcd, _, _⟩ := F.ex
  have kinds : ∀ y ∈ ps.zip xs, scope.names.lookup y.1 = some .local ∨ (scope.names.lookup y.1 = some .cell ∧ ((cellsFrom (s0.heap.objs.size + 1) scope.names []).lookup y.1).isSome = true) := by
    rintro ⟨n, v⟩ hy
    rcases S.par n (List.of_mem_zip hy).1 with z | z
    · exact .inl z
    · exact .inr ⟨z, PySem.W.cellsFrom_some _ _ _ (.inl z)⟩
  refine codeAny_call_function rm.depth (kx _ _ lk) rfl S.co S.gen rfl (PySem.W.codeRec_of kx hcd) (bt _ _ _ _ ?_)
  refine wpAny_newFunctionEnv_cells S.kind kinds fun en1 e1 s1 fr => ?_
  subst e1
  refine ⟨nl.keeps fr.toInCall.keep, codeAny_func ?_⟩
  obtain ⟨t, pt, q⟩ := bod cdv (rm.deeper _)
  have J : Inv (cxOf CX P w K mg base N qual scope f cdv A out s0 H E) [] (start N vs) H s1 := inv_start S rm.hd en ln rel fr
  refine wpAny_mono (pt.run [] s1 (start N vs) H _ J q) (fun fl s2 z => ?_) fun _ _ z => z
  cases fl with
  | next =>
    obtain ⟨_, H2, J2, q2⟩ := z
    exact ⟨V.non, H2, J2.os, J2.bare, J2.base, J2.hok, rfl, q2⟩
  | ret u =>
    obtain ⟨v, _, H2, J2, r2, q2⟩ := z
    exact ⟨v, H2, J2.os, J2.bare, J2.base, J2.hok, r2, q2⟩
  | brk =>
    obtain ⟨_, _, _, z⟩ := z
    exact z.elim
  | cont =>
    obtain ⟨_, _, _, z⟩ := z
    exact z.elim
/-- such an __iter__: a new iterator over the list at l, for what D says of the two -/
def FnI (P : Program) (w : World) (K : PySem.W.Frag) (mg : Str → Option Value) (base : Heap) (k : Nat) (f : Addr) (D : Addr → Addr → Hp → Prop) : Prop :=
  ∀ (A : Around) (out : List Env) (s0 : Shared) (H : Hp) (a l : Addr) (Q : VK), Room k A → Env0 P w K mg base A out s0 H → D a l H → (∀ it, H it = none → s0.heap.objs.size ≤ it → Q (.ref it) (upd H it (ItO l it 0))) →
    codeAny (model P w) A (.call (.ref f) ⟨[.ref a], []⟩) (CR CX0 out P w H s0 Q E0) s0
section
variable {X : Cx} {k : Nat} {C f : Addr} {D : Addr → Addr → Hp → Prop}
theorem sub_env {n : Nat} {A : Around} {pins : List (Addr × Obj)} {σ : L2.St} {H : Hp} {s : Shared} (sb : Sub X n A) (I : Inv X pins σ H s) : Env0 X.prog X.w X.K X.mg X.base A X.stack s H := by
  have z := I.env0
  refine ⟨?_, z.mod, z.bs, z.bsz, z.funs, z.frf, z.hok, z.bare⟩
  rw [sb.fr]
  exact z.frames
theorem run_iter {pins : List (Addr × Obj)} {σ : L2.St} {H : Hp} {s : Shared} {A : Around} {a l : Addr} {Q : VK} (F : FnI X.prog X.w X.K X.mg X.base k f D) (sb : Sub X k A) (I : Inv X pins σ H s) (hD : D a l H)
    (q : ∀ it, H it = none → s.heap.objs.size ≤ it → Q (.ref it) (upd H it (ItO l it 0))) : wpAny (model X.prog X.w) A (call (.ref f) [.ref a]) (EP X pins σ Q) X.xe s := by
  refine wpAny_call (codeAny_mono (F A X.stack s H a l Q sb.room (sub_env sb I) hD q) fun r s' hq => ?_)
  cases r with
  | error e =>
    obtain ⟨_, _, _, _, _, _, _, _, _, _, _, _, h⟩ := hq
  | ok fl =>
    cases fl with
    | ret u => exact I.after hq
    | next => exact hq.elim
    | brk => exact hq.elim
    | cont => exact hq.elim
theorem owit_list {A : Around} {s : Shared} {l it : Addr} {i : Nat} {Q : Value → Shared → Prop} {Er : Value → Shared → Prop} (e : s.heap.get? it = some (GNX.itObj l i)) (h : Q (.ref it) s) : PySem.W.OwitIt (model X.prog X.w) A Q Er (.ref it) s := by
  have hT : s.TypeIs (.ref it) "list_iterator" := ⟨_, e, rfl⟩
  unfold PySem.W.OwitIt
  exact wpAny_specialOf (name := Str.ofString "__next__") hT slot_listiter_next.lookup h
/-- for x in o, o's own __iter__ -/
def iOwn (K : PySem.W.Frag) (C : Addr) (D : Addr → Addr → Hp → Prop) (ta : TE) : TI := fun σ H R => ta σ H fun x H1 => ∃ a dx fs l, x = .ref a ∧ H1 a = some (.ins C dx fs) ∧ D a l H1 ∧ R (Itl K l) H1
theorem pi_own {tg e : Expr} {ta : TE} (o : OwnIt X.K C f) (F : FnI X.prog X.w X.K X.mg X.base k f D) (hr : Room k X.A) (ha : PE X e ta) : PI X tg e (iOwn X.K C D ta) := by
  refine ⟨fun pins s σ H R I h => ?_⟩
  refine thn (ha.run pins s σ H _ I h) fun u s1 ⟨v, H1, I1, rv, a, dx, fs, l, ev, hi, hD, q⟩ => ?_
  subst ev
  obtain rfl : u = Value.ref a := rv
  obtain ⟨mA, O, _⟩ := ins_get I1.hok hi
  obtain ⟨od, J, _⟩ := O.look
  obtain ⟨m0, Fm⟩ := I1.fr
  refine PySem.W.owit_iter Fm I1.ok.mod.kin J o.at_ o.fn (thn (run_iter (Q := fun v H2 => ∃ it, v = .ref it ∧ H1 it = none ∧ X.s_0.heap.objs.size ≤ it ∧ H2 = upd H1 it (ItO l it 0)) F ⟨hr, rfl⟩ I1 hD fun it hn hs => ⟨it, rfl, hn, Nat.le_trans I1.sz hs, rfl⟩) fun w' s2 hq => ?_)
  obtain ⟨z, H2, I2, rz, it, rfl, hn, young, eH⟩ := hq
  obtain rfl : w' = Value.ref it := rz
  subst eH
  have h2 : upd H1 it (ItO l it 0) it = some (ItO l it 0) := upd_same
  have eo := itO_get I2 h2
  have I3 := inv_drop I2 (φ := fun h => h.get? it = some (GNX.itObj l 0)) h2
  have fp := inv_fp I2 h2 young
  rw [dropH_upd hn] at I3 fp
  refine owit_list eo ⟨it, [it], _, _, H1, rfl, I3, turn_list l it, ⟨_, eo, rfl, rfl⟩, fun b hb => ?_, q⟩
  have e : b = it := by simpa using hb
  rw [e]
  exact fp
/-! list(o) -/
variable {kl : Nat} {fl : Addr} {spL : Sp}
theorem run_sub {pins : List (Addr × Obj)} {σ : L2.St} {H : Hp} {s : Shared} {A : Around} {n : Nat} {g : Addr} {sp : Sp} {us : List Value} {vs : List V} {Q : VK} {Er : Value → Shared → Prop} (F : FnR X.prog X.w X.K X.mg X.base CX0 n g sp) (sb : Sub X n A) (I : Inv X pins σ H s) (r : Vals vs us)
    (h : sp vs H Q E0) : wpAny (model X.prog X.w) A (call (.ref g) us) (EP X pins σ Q) Er s := by
  refine wpAny_call (codeAny_mono (F A X.stack s H us vs Q E0 sb.room (sub_env sb I) r h) fun r s' hq => ?_)
  cases r with
  | error e =>
    obtain ⟨_, _, _, _, _, _, _, _, _, _, _, _, h⟩ := hq
  | ok fl =>
    cases fl with
    | ret u => exact I.after hq
    | next => exact hq.elim
    | brk => exact hq.elim
    | cont => exact hq.elim
/-- the class has __len__, and what it gives is the list's length -/
structure OwnLn (K : PySem.W.Frag) (C f : Addr) : Prop where
  at_ : PySem.W.findIn K (.ref C) "__len__" = some (some (.ref f))
  fn : PySem.W.isFn K (.ref f) = true
theorem hint_own {pins : List (Addr × Obj)} {σ : L2.St} {H : Hp} {s : Shared} {A : Around} {a dx : Addr} {fs : List (Str × V)} {Q : Bool → Shared → Prop} (ol : OwnLn X.K C fl) (F : FnR X.prog X.w X.K X.mg X.base CX0 kl fl spL) (sb : Sub X (kl + 1) A) (I : Inv X pins σ H s)
    (ha : H a = some (.ins C dx fs)) (hsp : spL [.ref a] H (fun v H' => ∃ n : Nat, v = .int n ∧ n < 1000 ∧ H' = H) E0) (h : ∀ b s', Inv X pins σ H s' → Q b s') :
    wpAny (model X.prog X.w) A (Builtin.List.listLengthHint (.ref a)) Q X.xe s := by
  obtain ⟨mA, O, _⟩ := ins_get I.hok ha
  obtain ⟨od, J, _⟩ := O.look
  obtain ⟨m0, Fm⟩ := I.fr
  unfold Builtin.List.listLengthHint
  refine wpAny_bind (wpAny_bind (J.type.here ((PySem.W.looks_findIn I.kIn ol.at_).here ?_)))
  refine PySem.W.KFB.if_not rfl ?_
  refine wpAny_bind (wpAny_rule ?_)
  refine wpAny_bind (wpAny_attempt ?_)
  refine PySem.W.len_K Fm I.ok.mod.kin J ol.at_ ol.fn (thn (run_sub (us := [.ref a]) (vs := [.ref a]) F sb.in1 I (.cons rfl .nil) hsp) fun u s' hq => ?_)
  obtain ⟨z, H', I', rz, n, rfl, hn, eH⟩ := hq
  subst eH
  obtain ⟨t, rfl⟩ := rz
  refine ⟨⟨by omega, by omega⟩, ?_⟩
  have small : ¬ (Builtin.List.listTooLong ((n : Int)).toNat = true) := by
    unfold Builtin.List.listTooLong
    rw [Int.toNat_natCast]
    have : sizeLine = 1099511627776 ∨ 1000 ≤ sizeLine := .inr (by decide)
    simp only [decide_eq_true_eq]
    have h2 : 1000 ≤ sizeLine := by decide
    omega
  refine wpAny_bind (m := asInt? _) (wpAny_pure ?_)
  show wpAny _ _ (if Builtin.List.listTooLong ((n : Int)).toNat = true then _ else _) _ _ _
  rw [if_neg small]
  exact wpAny_pure (h _ _ (I'.tok _))
theorem ext_loop {pins : List (Addr × Obj)} {σ : L2.St} {H0 : Hp} {A1 : Around} {q l it : Addr} {zs : List V} {Rs : Result → Shared → Prop} (hh : A1.in1.handled = none) (nq : H0 q = none) (hl : SqL X.K H0 l zs) (hz : zs.length < sizeLine)
    (done : ∀ s, Inv X pins σ (upd H0 q (.lst zs)) s → Rs (.ok (.ret .none)) s) : ∀ (n i : Nat) (s : Shared), zs.length - i = n → i ≤ zs.length → Inv X pins σ (upd H0 q (.lst (zs.take i))) s → s.heap.IsListIter it l i → FpOk X pins (upd H0 q (.lst (zs.take i))) it →
      codeAny (model X.prog X.w) A1 (.builtin "list.extend.loop" ⟨[.ref q, .ref it, .none], []⟩) Rs s := by
  intro n
  induction n with
  | zero =>
    intro i s hn hi I st fp
    have e : i = zs.length := by omega
    subst e
    rw [List.take_length] at I fp
    have hl2 : SqL X.K (upd H0 q (.lst zs)) l zs := hl.ext (Ext.upd nq)
    obtain ⟨its, rv, p, hs⟩ := I.list hl2
    obtain ⟨f0, f1, f2, f3, f4, f5⟩ := fp
    have ln := rv.length
    refine codeAny_builtin PySem.F.entry_extend_loop ?_
    rw [Around.under_plainId PySem.F.plain_extend_loop _]
    show wpAny _ A1.in1 (pyNext (.ref it) >>= _) _ _ _
    refine wpAny_bind (wpAny_pyNext_list_end hh st p.isList (by simp; omega) fun h' eb => ?_)
    exact wpAny_pure (done _ (I.turned (t' := s.toks) (fun b o hb z => eb b o hb z) f0 f1 f3 f4 f5))
  | succ n ih =>
    intro i s hn hi I st fp
    have hlt : i < zs.length := by omega
    have hl2 : SqL X.K (upd H0 q (.lst (zs.take i))) l zs := hl.ext (Ext.upd nq)
    obtain ⟨its, rv, p, hs⟩ := I.list hl2
    have fp' := fp
    obtain ⟨f0, f1, f2, f3, f4, f5⟩ := fp
    obtain ⟨u, hu, ru⟩ := rv.get (List.getElem?_eq_getElem hlt)
    refine codeAny_builtin PySem.F.entry_extend_loop ?_
    rw [Around.under_plainId PySem.F.plain_extend_loop _]
    show wpAny _ A1.in1 (pyNext (.ref it) >>= _) _ _ _
    refine wpAny_bind (wpAny_pyNext_list_item st p.isList (x := u) (by simpa using hu) fun h' st' sb => ?_)
    have I1 : Inv X pins σ (upd H0 q (.lst (zs.take i))) { s with heap := h' } := I.turned (t' := s.toks) (fun b o hb z => (sb.2 b hb).trans z) f0 f1 f3 f4 f5
    show wpAny _ A1.in1 (updateSeq q (·.push u) >>= _) _ _ _
    obtain ⟨z, its1, k1, r1, hl1, e1⟩ := I1.lstM upd_same
    have len1 : its1.length = i := by
      rw [← r1.length, List.length_take]
      omega
    have snoc : zs.take (i + 1) = zs.take i ++ [zs[i]] := by rw [List.take_add_one, List.getElem?_eq_getElem hlt]; rfl
    refine wpAny_bind (wpAny_updateSeq e1 rfl (wpAny_pure ⟨plainId_quiet PySem.F.plain_extend_loop _, ?_⟩) (by rw [List.size_toArray]; omega) (by show (its1.toArray.push u).size ≤ sizeLine + 1; rw [Array.size_push, List.size_toArray]; omega))
    have I2 := I1.lset (its' := its1 ++ [u]) (ys := zs.take (i + 1)) (t' := s.toks) upd_same e1 (f := (·.push u)) (by simp) (by rw [snoc]; exact r1.append (.cons ru .nil)) (by rw [List.length_take]; omega)
    rw [upd_upd] at I2
    have nq2 : it ≠ q := fun z => by
      rw [z, upd_same] at f0
      cases f0
    refine ih (i + 1) _ (by omega) (by omega) I2 ?_ ⟨?_, fp'.2⟩
    · exact st'.at fun o z => by
        show ((h'.update q _).get? it) = _
        rw [Heap.get?_update_ne _ _ _ _ nq2]
        exact z
    · rw [upd_ne nq2] at f0 ⊢
      exact f0
theorem ext_own {pins : List (Addr × Obj)} {σ : L2.St} {H : Hp} {s : Shared} {A1 : Around} {a q l dx : Addr} {fs : List (Str × V)} {zs : List V} {Rs : Result → Shared → Prop} (oi : OwnIt X.K C f) (FI : FnI X.prog X.w X.K X.mg X.base k f D)
    (ol : OwnLn X.K C fl) (FL : FnR X.prog X.w X.K X.mg X.base CX0 kl fl spL) (hD : ∀ a l H H', Ext H H' → D a l H → D a l H') (hL : ∀ a l H, D a l H → spL [.ref a] H (fun v H' => ∃ n : Nat, v = .int n ∧ n < 1000 ∧ H' = H) E0)
    (sbi : Sub X k A1.in1) (sbl : Sub X (kl + 1) A1.in1) (hh : A1.in1.handled = none) (nq : H q = none) (hd : D a l H) (ha : H a = some (.ins C dx fs)) (hl : SqL X.K H l zs) (hz : zs.length < sizeLine)
    (I : Inv X pins σ (upd H q (.lst [])) s) (done : ∀ s, Inv X pins σ (upd H q (.lst zs)) s → Rs (.ok (.ret .none)) s) (herr : ∀ e s, X.xe e s → Rs (.error e) s) :
    wpAny (model X.prog X.w) A1.in1 (Builtin.List.listExtendWith (.ref q) (.ref a) .none)
      (fun fin s' => match fin with | .done g => Rs (.ok g) s' | .again c => c.quiet = true ∧ codeAny (model X.prog X.w) A1 c Rs s') (fun e s' => Rs (.error e) s') s := by
  have ext : Ext H (upd H q (.lst [])) := Ext.upd nq
  have ha2 := ext _ _ ha
  have hne : q ≠ a := ne_of upd_same ha2 (fun z => nomatch z)
  obtain ⟨mA, O, _⟩ := ins_get I.hok ha2
  obtain ⟨od, J, _⟩ := O.look
  obtain ⟨m0, Fm⟩ := I.fr
  unfold Builtin.List.listExtendWith
  refine wpAny_bind (J.type.here ?_)
  have b1 : Builtin.List.listSameRef (.ref q) (.ref a) = false := by simp [Builtin.List.listSameRef, hne]
  have b2 : (Value.ref C == Value.type "list") = false := rfl
  have b3 : (Value.ref C == Value.type "tuple") = false := rfl
  simp only [b1, b2, b3, Bool.or_false, Bool.false_eq_true, if_false]
  have nq' : ∀ it, upd H q (.lst []) it = none → it ≠ q := fun it hn z => by rw [z, upd_same] at hn; cases hn
  refine wpAny_bind (PySem.W.owit_iter Fm I.ok.mod.kin J oi.at_ oi.fn (wpAny_mono (run_iter (Q := fun v H2 => ∃ it, v = .ref it ∧ upd H q (.lst []) it = none ∧ X.s_0.heap.objs.size ≤ it ∧ H2 = upd (upd H q (.lst [])) it (ItO l it 0)) FI sbi I (hD _ _ _ _ ext hd) fun it hn hs => ⟨it, rfl, hn, Nat.le_trans I.sz hs, rfl⟩) (fun w' s2 hq => ?_) fun e s' he => herr e s' he))
  obtain ⟨z, H2, I2, rz, it, rfl, hn, young, eH⟩ := hq
  obtain rfl : w' = Value.ref it := rz
  subst eH
  have h2 : upd (upd H q (.lst [])) it (ItO l it 0) it = some (ItO l it 0) := upd_same
  have eo := itO_get I2 h2
  refine owit_list eo ?_
  have I2' := I2
  have ext2 : Ext (upd H q (.lst [])) (upd (upd H q (.lst [])) it (ItO l it 0)) := Ext.upd hn
  refine wpAny_bind (wpAny_holding (wpAny_mono (hint_own ol FL sbl I2 (ext2 _ _ ha2) (hL _ _ _ (hD _ _ _ _ ext2 (hD _ _ _ _ ext hd))) (Q := fun _ s' => Inv X pins σ (upd (upd H q (.lst [])) it (ItO l it 0)) s') fun _ _ z => z) (fun b s3 I3 => ?_) fun e s' he => herr e s' he))
  have go : ∀ s4, Inv X pins σ (upd (upd H q (.lst [])) it (ItO l it 0)) s4 → codeAny (model X.prog X.w) A1 (.builtin "list.extend.loop" ⟨[.ref q, .ref it, .none], []⟩) Rs s4 := fun s4 I4 => by
    have eo4 := itO_get I4 h2
    have I5 := inv_drop I4 (φ := fun h => h.get? it = some (GNX.itObj l 0)) h2
    have fp := inv_fp I4 h2 young
    rw [dropH_upd hn] at I5 fp
    exact ext_loop hh nq hl hz done zs.length 0 s4 rfl (Nat.zero_le _) I5 ⟨_, eo4, rfl, rfl⟩ fp
  refine wpAny_ite_split (fun _ => ?_) (fun _ => wpAny_pure ⟨plainId_quiet PySem.F.plain_extend_loop _, go _ I3⟩)
  refine wpAny_bind (wpAny_rule ?_)
  refine wpAny_bind ?_
  show wpAny _ _ (updateSeq q (·.push .none) >>= fun _ => updateSeq q (·.pop)) _ _ _
  have hq3 : upd (upd H q (.lst [])) it (ItO l it 0) q = some (.lst []) := by rw [upd_ne (nq' it hn).symm, upd_same]
  obtain ⟨z4, its, k4, r4, hl4, e4⟩ := I3.lstM hq3
  cases r4
  refine wpAny_bind (wpAny_updateSeq e4 rfl ?_)
  have I6 := I3.lset (f := (·.push Value.none)) (its' := [Value.none]) (ys := [.non]) (t' := s3.toks) hq3 e4 (by simp) (.cons rfl .nil) (by rw [List.length_singleton, sizeLine_eq]; decide)
  obtain ⟨z7, its7, k7, r7, hl7, e7⟩ := I6.lstM upd_same
  obtain ⟨u7, rfl, ru7⟩ := r7.one
  refine wpAny_updateSeq e7 rfl ?_ (by show 1 ≤ sizeLine; rw [sizeLine_eq]; decide) (by show 0 ≤ sizeLine + 1; exact Nat.zero_le _)
  refine wpAny_pure ⟨plainId_quiet PySem.F.plain_extend_loop _, go _ ?_⟩
  have I8 := I6.lset (f := (·.pop)) (its := [u7]) (its' := []) (ys := []) (t' := s3.toks) upd_same e7 (by rfl) .nil (Nat.zero_le _)
  rw [upd_upd] at I8
  have back : upd (upd (upd H q (.lst [])) it (ItO l it 0)) q (.lst []) = upd (upd H q (.lst [])) it (ItO l it 0) := by
    funext b
    by_cases hb : b = q
    · rw [hb, upd_same, hq3]
    · rw [upd_ne hb]
  rw [back] at I8
  exact I8
/-- list(o) -/
def rOwnL (K : PySem.W.Frag) (C : Addr) (D : Addr → Addr → Hp → Prop) : List V → Hp → VK → Prop := fun xs H Q => ∃ a dx fs l zs, xs = [.ref a] ∧ H a = some (.ins C dx fs) ∧ D a l H ∧ SqL K H l zs ∧ zs.length < 1000 ∧ ∀ q, H q = none → Q (.ref q) (upd H q (.lst zs))
theorem call_listI (hc : X.calm = true) (oi : OwnIt X.K C f) (FI : FnI X.prog X.w X.K X.mg X.base k f D)
    (ol : OwnLn X.K C fl) (FL : FnR X.prog X.w X.K X.mg X.base CX0 kl fl spL) (hD : ∀ a l H H', Ext H H' → D a l H → D a l H') (hL : ∀ a l H, D a l H → spL [.ref a] H (fun v H' => ∃ n : Nat, v = .int n ∧ n < 1000 ∧ H' = H) E0)
    (hri : Room (k + 2) X.A) (hrl : Room (kl + 3) X.A) : CallR X (.type "list") (rOwnL X.K C D) := by
  intro pins s σ H xs us Q I rv h
  obtain ⟨a, dx, fs, l, zs, rfl, ha, hd, hl, hz, hq⟩ := h
  obtain ⟨u, rfl, ru⟩ := rv.one
  cases ru
  have sbi : Sub X k X.A.in1.in1 := (Sub.in1 (Sub.in1 (⟨hri, rfl⟩ : Sub X (k + 2) X.A)))
  have sbl : Sub X (kl + 1) X.A.in1.in1 := (Sub.in1 (Sub.in1 (⟨hrl, rfl⟩ : Sub X (kl + 3) X.A)))
  refine callType_codes (Q₁ := fun obj s₁ => obj = .ref s.heap.objs.size ∧ s₁ = { s with heap := s.heap.push { cls := .type "list", data := .seq #[] } }) PySem.F.called_list (PySem.F.typeCall_list_1 _) PySem.F.entry_list_init
    (code_list_new _ ⟨rfl, rfl⟩) fun obj s₁ h₁ => ?_
  obtain ⟨rfl, rfl⟩ := h₁
  have new0 : (s.heap.push { cls := .type "list", data := .seq #[] }).get? s.heap.objs.size = some { cls := .type "list", data := .seq #[] } := Heap.get?_push_size _ rfl
  refine ⟨⟨_, new0, rfl⟩, PySem.F.args_list_init_2 _ _, ?_⟩
  have nq : H s.heap.objs.size = none := I.hok.fresh (Nat.le_refl _)
  have I1 : Inv X pins σ (upd H s.heap.objs.size (.lst [])) { s with heap := s.heap.push { cls := .type "list", data := .seq #[] } } := I.lnew (its := []) (t' := s.toks) .nil (Nat.zero_le _)
  show wpAny _ _ (do let old ← Builtin.List.listItems (.ref s.heap.objs.size); Builtin.List.listUpdate (.ref s.heap.objs.size) (fun _ => #[]); letGo old.toList.reverse; Builtin.List.listExtendWith (.ref s.heap.objs.size) (.ref a) .none) _ _ _
  refine wpAny_bind ?_
  unfold Builtin.List.listItems
  refine wpAny_bind (wpAny_seqItems new0 rfl (wpAny_pure ?_))
  show wpAny _ _ (updateSeq s.heap.objs.size (fun _ => #[]) >>= fun _ => letGo (#[] : Array Value).toList.reverse >>= fun _ => Builtin.List.listExtendWith (.ref s.heap.objs.size) (.ref a) .none) _ _ _
  refine wpAny_bind (wpAny_updateSeq new0 rfl ?_)
  have I2 := I1.lset (f := fun _ => #[]) (its := []) (its' := []) (ys := []) (t' := s.toks) upd_same new0 rfl .nil (Nat.zero_le _)
  rw [upd_upd] at I2
  refine wpAny_bind (wpAny_letGo ?_)
  exact ext_own (A1 := X.A.in1) (Rs := wants (fun r s₂ => r = .none ∧ EP X pins σ Q (.ref s.heap.objs.size) s₂) X.xe) oi FI ol FL hD hL sbi sbl (I.ok.hd hc) nq hd ha hl (Nat.lt_of_lt_of_le hz (by decide)) I2
    (fun s' I' => ⟨rfl, .ref s.heap.objs.size, _, I', rfl, hq _ nq⟩) (fun e s' he => he)
end
end Hue

set_option Elab.async false
set_option linter.all false
set_option maxRecDepth 100000
set_option maxHeartbeats 4000000
/-! == of lists whose items have their own == -/
namespace Hue
open PySem PySem.SeqAt
open AutoSeq1 (wpAny_loadPart')
open MeetsSeq MeetsSeq2 MeetsSeq3 SeqRoads2
open GQ (FinOf)
section
variable {prog : Program} {w : World} {A : Around} {R : Result → Shared → Prop}
/-- at each turn the two lists are read anew: N items each, the i-th two equal, or not and then F -/
def ListB (prog : Program) (w : World) (A : Around) (E : Value → Shared → Prop) (l b : Addr) (N : Nat) (I : Nat → Shared → Prop) (Fl : Shared → Prop) : Prop :=
  ∀ i s, I i s → ∃ (xs ys : Array Value) (n m : Nat), s.heap.get? l = some { cls := .type "list", data := .seq xs n } ∧ s.heap.get? b = some { cls := .type "list", data := .seq ys m } ∧ xs.size = N ∧ ys.size = N ∧
    ∀ (h1 : i < xs.size) (h2 : i < ys.size), wpAny (model prog w) A.in1 (eqBool xs[i] ys[i]) (fun r s' => (r = true ∧ I (i + 1) s') ∨ (r = false ∧ Fl s' ∧ ∃ (xs' ys' : Array Value) (n' m' : Nat), s'.heap.get? l = some { cls := .type "list", data := .seq xs' n' } ∧ s'.heap.get? b = some { cls := .type "list", data := .seq ys' m' } ∧ i < xs'.size ∧ i < ys'.size)) E s
theorem eq_loopB (l b : Addr) (N : Nat) (I : Nat → Shared → Prop) (Fl : Shared → Prop) (hl : ListB prog w A (fun e s' => R (.error e) s') l b N I Fl)
    (yes : ∀ s, I N s → R (.ok (.ret (.bool true))) s) (no : ∀ s, Fl s → R (.ok (.ret (.bool false))) s) (k : Nat) : ∀ i : Nat, N - i = k → i ≤ N → ∀ s, I i s →
      wpAny (model prog w) A.in1 (Builtin.«list.__eq__.loop» ⟨[.ref l, .ref b, rawInt i, rawInt 2], []⟩) (FinOf prog w A R) (fun e s' => R (.error e) s') s := by
  induction k with
  | zero =>
    intro i hk hi s h
    obtain ⟨xs, ys, n, m, g1, g2, z1, z2, _⟩ := hl _ _ h
    have e : i = N := by omega
    have fin : R (.ok (.ret (.bool true))) s := yes s (e ▸ h)
    obtain ⟨hp, g, d, tk, os⟩ := s
    wp_walk using wpAny_loadPart' g1, wpAny_loadPart' g2
    have n1 : xs[((i : Nat) : Int).toNat]? = none := by simp; omega
    have n2 : ys[((i : Nat) : Int).toNat]? = none := by simp; omega
    rw [n1, n2]
    wp_walk using wpAny_loadPart' g1, wpAny_loadPart' g2
    show R (.ok (.ret (.bool (xs.size == ys.size)))) _
    rw [z1, z2]
    simpa using fin
  | succ k ih =>
    intro i hk hi s h
    obtain ⟨xs, ys, n, m, g1, g2, z1, z2, turn⟩ := hl _ _ h
    have l1 : i < xs.size := by omega
    have l2 : i < ys.size := by omega
    have tn := turn l1 l2
    obtain ⟨hp, g, d, tk, os⟩ := s
    wp_walk using wpAny_loadPart' g1, wpAny_loadPart' g2
    have n1 : xs[((i : Nat) : Int).toNat]? = some xs[i] := by simp [l1]
    have n2 : ys[((i : Nat) : Int).toNat]? = some ys[i] := by simp [l2]
    have c1 : ((i : Int) + 1) = ((i + 1 : Nat) : Int) := by omega
    rw [n1, n2]
    refine wpAny_bind (wpAny_mono tn (fun r s2 h2 => ?_) fun _ _ z => z)
    rcases h2 with ⟨rfl, h2⟩ | ⟨rfl, h2, xs', ys', n', m', g3, g4, l3, l4⟩
    · have next := ih (i + 1) (by omega) (by omega) s2 h2
      obtain ⟨hp2, g2', d2, tk2, os2⟩ := s2
      wp_walk
      rw [c1]
      exact ⟨plainId_quiet plain_eq_loop _, codeAny_builtin entry_eq_loop (by
        rw [Around.under_plainId plain_eq_loop _]
        exact next)⟩
    · have fin := no _ h2
      obtain ⟨hp2, g2', d2, tk2, os2⟩ := s2
      wp_walk using wpAny_loadPart' g3, wpAny_loadPart' g4
      have n3 : xs'[((i : Nat) : Int).toNat]? = some xs'[i] := by simp [l3]
      have n4 : ys'[((i : Nat) : Int).toNat]? = some ys'[i] := by simp [l4]
      rw [n3, n4]
      wp_walk
      exact fin
theorem list_eqB (l b : Addr) (N : Nat) (I : Nat → Shared → Prop) (Fl : Shared → Prop) (hl : ListB prog w A (fun e s' => R (.error e) s') l b N I Fl)
    (yes : ∀ s, I N s → R (.ok (.ret (.bool true))) s) (no : ∀ s, Fl s → R (.ok (.ret (.bool false))) s) {s : Shared} (h : I 0 s) :
    wpAny (model prog w) A.in1 (Builtin.«list.__eq__» ⟨[.ref l, .ref b], []⟩) (FinOf prog w A R) (fun e s' => R (.error e) s') s := by
  obtain ⟨xs, ys, n, m, g1, g2, z1, z2, _⟩ := hl _ _ h
  have go := eq_loopB (A := A) (R := R) l b N I Fl hl yes no _ 0 rfl (Nat.zero_le _) s h
  obtain ⟨hp, g, d, tk, os⟩ := s
  have f3 := AutoSeq1.sub_list_list
  have same : ¬ (xs.size != ys.size) = true := by simp [z1, z2]
  wp_walk using wpAny_loadPart' g1, wpAny_loadPart' g2
  exact ⟨plainId_quiet plain_eq_loop _, codeAny_builtin entry_eq_loop (by
    rw [Around.under_plainId plain_eq_loop _]
    exact go)⟩
/-- lists of two lengths are not equal -/
theorem list_neB (l b : Addr) {xs ys : Array Value} {n m : Nat} {s : Shared} (g1 : s.heap.get? l = some { cls := .type "list", data := .seq xs n }) (g2 : s.heap.get? b = some { cls := .type "list", data := .seq ys m })
    (dif : xs.size ≠ ys.size) (no : R (.ok (.ret (.bool false))) s) : wpAny (model prog w) A.in1 (Builtin.«list.__eq__» ⟨[.ref l, .ref b], []⟩) (FinOf prog w A R) (fun e s' => R (.error e) s') s := by
  obtain ⟨hp, g, d, tk, os⟩ := s
  have f3 := AutoSeq1.sub_list_list
  have same : (xs.size != ys.size) = true := by simp [dif]
  wp_walk using wpAny_loadPart' g1, wpAny_loadPart' g2
  exact no
end
section
variable {prog : Program} {w : World} {A : Around} {E : Value → Shared → Prop} {s : Shared}
theorem rc_listB {l b : Addr} {N : Nat} {Q : Value → Shared → Prop} (hu : A.units < cLine) (I : Nat → Shared → Prop) (Fl : Shared → Prop) (hl : ListB prog w A E l b N I Fl)
    (yes : ∀ s, I N s → Q (.bool true) s) (no : ∀ s, Fl s → Q (.bool false) s) (h : I 0 s) : wpAny (model prog w) A (richCompare .Eq (.ref l) (.ref b)) Q E s := by
  obtain ⟨xs, ys, n, m, g1, g2, _, _, _⟩ := hl _ _ h
  refine wpAny_richCompare_same_room (op := .Eq) ⟨_, g1, rfl⟩ ⟨_, g2, rfl⟩ F.slot_list_eq (GQ.call_here F.slot_list_eq ⟨_, g1, rfl⟩ F.entry_list_eq (F.args_list_eq_2 _ _) ?_) hu
  exact list_eqB (R := wants (fun v s' => v ≠ .notImplemented ∧ Q v s') E) l b N I Fl hl (fun s' q => ⟨(fun x => nomatch x), yes s' q⟩) (fun s' q => ⟨(fun x => nomatch x), no s' q⟩) h
theorem rc_listN {l b : Addr} {xs ys : Array Value} {n m : Nat} {Q : Value → Shared → Prop} (hu : A.units < cLine) (g1 : s.heap.get? l = some { cls := .type "list", data := .seq xs n }) (g2 : s.heap.get? b = some { cls := .type "list", data := .seq ys m })
    (dif : xs.size ≠ ys.size) (no : Q (.bool false) s) : wpAny (model prog w) A (richCompare .Eq (.ref l) (.ref b)) Q E s := by
  refine wpAny_richCompare_same_room (op := .Eq) ⟨_, g1, rfl⟩ ⟨_, g2, rfl⟩ F.slot_list_eq (GQ.call_here F.slot_list_eq ⟨_, g1, rfl⟩ F.entry_list_eq (F.args_list_eq_2 _ _) ?_) hu
  exact list_neB (R := wants (fun v s' => v ≠ .notImplemented ∧ Q v s') E) l b g1 g2 dif ⟨(fun x => nomatch x), no⟩
end
end Hue
namespace Hue
open PySem PySem.Spec PyProof.Rows L2
section
variable {X : Cx} {n : Nat} {C f : Addr} {R : Addr → Addr → Hp → Bool → Prop}
/-- what the own == promises: R tells the answer, the heap stays -/
def spEqB (R : Addr → Addr → Hp → Bool → Prop) : Sp := fun vs H Q _ => ∃ a b r, vs = [.ref a, .ref b] ∧ R a b H r ∧ Q (.bl r) H
theorem eqB_ins (F : FnR X.prog X.w X.K X.mg X.base CX0 n f (spEqB R)) (o : OwnM X.K C "__eq__" f) (self : ∀ a H r, R a a H r → r = true) {A : Around} (sb : Sub X n A) {pins : List (Addr × Obj)} {s : Shared} {σ : L2.St} {H : Hp} {a b dx dy : Addr} {fs gs : List (Str × V)} {r : Bool} {E : Value → Shared → Prop}
    (I : Inv X pins σ H s) (ha : H a = some (.ins C dx fs)) (hb : H b = some (.ins C dy gs)) (hr : R a b H r) : wpAny (model X.prog X.w) A (eqBool (.ref a) (.ref b)) (fun z s' => z = r ∧ Inv X pins σ H s') E s := by
  by_cases e : a = b
  · subst e
    rw [self _ _ _ hr]
    exact SeqAt.EqAt.same (A := A) (s := s) (.ref a) X.prog X.w E _ ⟨rfl, I⟩
  · obtain ⟨mA, O, _⟩ := ins_get I.hok ha
    obtain ⟨mB, O', _⟩ := ins_get I.hok hb
    obtain ⟨od, J, _⟩ := O.look
    obtain ⟨od', J', _⟩ := O'.look
    obtain ⟨m, Fm⟩ := I.fr
    refine GQ.eqBool_refG e (PySem.W.cmp_K (op := .Eq) (tb := .ref C) sb.room.units0 Fm I.ok.mod.kin J J'.type (by simp [PySem.W.notFirst]) o.at_ o.fn (wpAny_mono (run_sub (us := [.ref a, .ref b]) (vs := [.ref a, .ref b]) (Q := fun v H' => v = .bl r ∧ H' = H) F sb I (.cons rfl (.cons rfl .nil)) ⟨a, b, r, rfl, hr, rfl, rfl⟩) (fun u s' hq => ?_) fun _ _ z => z))
    obtain ⟨z, H', I', rz, rfl, rfl⟩ := hq
    obtain rfl : u = Value.bool r := rz
    exact SlX.cmpback (z := V.bl r) rfl ⟨r, rfl, rfl, I'⟩
/-- the items of the two lists, one by one, by the own == -/
def rEqLB (C : Addr) (R : Addr → Addr → Hp → Bool → Prop) : R2 := fun x y H Q => ∃ (a b : Addr) (xs ys : List Addr) (r : Bool), x = .ref a ∧ y = .ref b ∧ H a = some (.lst (xs.map V.ref)) ∧ H b = some (.lst (ys.map V.ref)) ∧
  ((xs.length ≠ ys.length ∧ r = false) ∨ (xs.length = ys.length ∧ ∃ g : Nat → Bool, (∀ i p q, xs[i]? = some p → ys[i]? = some q → ∃ dx dy fs gs, H p = some (.ins C dx fs) ∧ H q = some (.ins C dy gs) ∧ R p q H (g i)) ∧ r = (List.range xs.length).all g)) ∧ Q (.bl r) H
theorem op_eqLB (F : FnR X.prog X.w X.K X.mg X.base CX0 n f (spEqB R)) (o : OwnM X.K C "__eq__" f) (self : ∀ a H r, R a a H r → r = true) (hr : Room (n + 1) X.A) : OpR X (compareOp .Eq) (rEqLB C R) := by
  intro pins s σ H x y v u Q I rx ry h
  obtain ⟨a, b, xs, ys, r, rfl, rfl, ha, hb, hd, q⟩ := h
  obtain rfl : v = Value.ref a := rx
  obtain rfl : u = Value.ref b := ry
  show wpAny (model X.prog X.w) X.A (richCompare .Eq (.ref a) (.ref b)) (EP X pins σ Q) X.xe s
  rcases hd with ⟨dif, rfl⟩ | ⟨same, g, turn, rfl⟩
  · obtain ⟨z, its, k, rv, e⟩ := I.hok a _ ha
    obtain ⟨z2, its2, k2, rv2, e2⟩ := I.hok b _ hb
    refine rc_listN hr.units0 e e2 ?_ ⟨.bl false, H, I, rfl, q⟩
    rw [List.size_toArray, List.size_toArray, ← rv.length, ← rv2.length, List.length_map, List.length_map]
    exact dif
  · refine rc_listB (N := xs.length) hr.units0 (fun i s' => Inv X pins σ H s' ∧ i ≤ xs.length ∧ ∀ j, j < i → g j = true) (fun s' => Inv X pins σ H s' ∧ ∃ j, j < xs.length ∧ g j = false) (fun i s' ⟨I1, hi, hj⟩ => ?_) (fun s' ⟨I1, _, hj⟩ => ?_) (fun s' ⟨I1, j, h1, h2⟩ => ?_) ⟨I, Nat.zero_le _, fun j hj => absurd hj (Nat.not_lt_zero _)⟩
    · obtain ⟨z, its, k, rv, e⟩ := I1.hok a _ ha
      obtain ⟨z2, its2, k2, rv2, e2⟩ := I1.hok b _ hb
      have ln := rv.length
      have ln2 := rv2.length
      rw [List.length_map] at ln ln2
      refine ⟨its.toArray, its2.toArray, k, k2, e, e2, by rw [List.size_toArray, ← ln], by rw [List.size_toArray, ← ln2, same], fun h1 h2 => ?_⟩
      have k1 : i < xs.length := by rw [List.size_toArray] at h1; omega
      have k2' : i < ys.length := by omega
      have m1 : (xs.map V.ref)[i]? = some (.ref xs[i]) := by rw [List.getElem?_map, List.getElem?_eq_getElem k1]; rfl
      have m2 : (ys.map V.ref)[i]? = some (.ref ys[i]) := by rw [List.getElem?_map, List.getElem?_eq_getElem k2']; rfl
      obtain ⟨u1, q1, r1⟩ := rv.get m1
      obtain ⟨u2, q2, r2⟩ := rv2.get m2
      obtain rfl : u1 = Value.ref xs[i] := r1
      obtain rfl : u2 = Value.ref ys[i] := r2
      have w1 : its.toArray[i] = Value.ref xs[i] := by
        have z1 : i < its.length := by omega
        rw [List.getElem?_eq_getElem z1] at q1
        simpa using Option.some.inj q1
      have w2 : its2.toArray[i] = Value.ref ys[i] := by
        have z1 : i < its2.length := by omega
        rw [List.getElem?_eq_getElem z1] at q2
        simpa using Option.some.inj q2
      rw [w1, w2]
      obtain ⟨dx, dy, fs, gs, p1, p2, p3⟩ := turn i _ _ (List.getElem?_eq_getElem k1) (List.getElem?_eq_getElem k2')
      have sb : Sub X n X.A.in1 := Sub.in1 (⟨hr, rfl⟩ : Sub X (n + 1) X.A)
      refine wpAny_mono (eqB_ins F o self sb I1 p1 p2 p3) (fun t s2 ⟨e3, I2⟩ => ?_) fun _ _ z => z
      subst e3
      cases hg : g i with
      | true =>
        refine .inl ⟨rfl, I2, k1, fun j hj2 => ?_⟩
        by_cases ej : j = i
        · rw [ej]; exact hg
        · exact hj j (by omega)
      | false =>
        obtain ⟨z3, its3, k3, rv3, e3⟩ := I2.hok a _ ha
        obtain ⟨z4, its4, k4, rv4, e4⟩ := I2.hok b _ hb
        have ln3 := rv3.length
        have ln4 := rv4.length
        rw [List.length_map] at ln3 ln4
        exact .inr ⟨rfl, ⟨I2, i, k1, hg⟩, its3.toArray, its4.toArray, k3, k4, e3, e4, by rw [List.size_toArray]; omega, by rw [List.size_toArray]; omega⟩
    · have e : (List.range xs.length).all g = true := List.all_eq_true.mpr fun j hj2 => hj j (List.mem_range.mp hj2)
      rw [e] at q
      exact ⟨.bl true, H, I1, rfl, q⟩
    · have e : (List.range xs.length).all g = false := by
        rw [List.all_eq_false]
        exact ⟨j, List.mem_range.mpr h1, by rw [h2]; simp⟩
      rw [e] at q
      exact ⟨.bl false, H, I1, rfl, q⟩
end
/-- C() -/
theorem pe_makeR0 {X : Cx} {CX : CXT} {k : Nat} {f C : Addr} {sp : Sp} {E : XK} {x : Str} {p pos : Pos} (M : Mk X.K C f) (F : FnR X.prog X.w X.K X.mg X.base CX k f sp) (hr : Room (k + 1) X.A) (hg : Gl X x) (hm : X.mg x = some (.ref C)) (hx : Passes CX X E) (hd : (x == ("__debug__" : Str)) = false := by decide) :
    PE X (.Call (.Name x p) [] [] pos) (StX.tMakeR C sp E tNil) := by
  refine ⟨fun pins s σ H Q I h => wpAny_Call_Name_kw (ld_glob I hg hm ?_ hd)⟩
  exact PySem.W.callWith_K0 I.kIn M.kp (StX.run_makeR (us := []) M F hr hx I .nil h)
theorem opR_or {X : Cx} {o : Value → Value → Sem Value} {r1 r2 : R2} (h1 : OpR X o r1) (h2 : OpR X o r2) : OpR X o (fun x y H Q => r1 x y H Q ∨ r2 x y H Q) := by
  intro pins s σ H x y v u Q I rx ry h
  rcases h with h | h
  · exact h1 pins s σ H x y v u Q I rx ry h
  · exact h2 pins s σ H x y v u Q I rx ry h
end Hue

set_option Elab.async false
set_option linter.all false
set_option maxRecDepth 100000
set_option maxHeartbeats 4000000
/-! enumerate(o), o with an own __iter__ that gives a list's iterator -/
namespace Hue
open PySem PySem.Spec PyProof.Rows L2 ItX
theorem meets_enumI {prog : Program} {w : World} {v : Value} : MeetsIn prog w (Builtin.«enumerate.__new__» ⟨[.type "enumerate", v], []⟩) (fun A R s => wpAny (model prog w) A.in1 (pyIter v) (fun u s1 => ∃ it, u = .ref it ∧
      R (.ok (.ret (.ref s1.heap.objs.size))) { s1 with heap := s1.heap.push { cls := .type "enumerate", data := .fields #[.none, .bool false, .ref it, rawInt 0, .none, .none] } }) (fun e s' => R (.error e) s') s) :=
  .of_wp fun A R s h => by
    obtain ⟨hp, g, d, tk, os⟩ := s
    have hsub := sub_enumerate
    have q1 : ∀ {Q : Value → Shared → Prop}, (∀ it s1, R (.ok (.ret (.ref s1.heap.objs.size))) { s1 with heap := s1.heap.push { cls := .type "enumerate", data := .fields #[.none, .bool false, .ref it, rawInt 0, .none, .none] } } → Q (.ref it) s1) →
        wpAny (model prog w) A.in1 (pyIter v) Q (fun e s' => R (.error e) s') ⟨hp, g, d, tk, os⟩ := fun k => wpAny_mono h (fun u s1 ⟨it, e, r⟩ => e ▸ k it s1 r) fun _ _ z => z
    wp_walk
    refine wpAny_stack_any fun st => wpAny_pure ?_
    split
    · rename_i c _ _ _ _ _
      cases (c == Value.type "enumerate")
      · wp_walk using q1
        intro it s1 r
        wp_walk
        exact ⟨_, rfl, r⟩
      · wp_walk using q1
        intro it s1 r
        wp_walk
        exact ⟨_, rfl, r⟩
    · wp_walk using q1
      intro it s1 r
      wp_walk
      exact ⟨_, rfl, r⟩
section
variable {X : Cx} {k : Nat} {C f : Addr} {D : Addr → Addr → Hp → Prop}
/-- for i, x in enumerate(o) -/
def iEnumO (K : PySem.W.Frag) (C : Addr) (D : Addr → Addr → Hp → Prop) (ta : TA) : TI := fun σ H R => ta σ H fun vs H1 => ∃ a dx fs l, vs = [.ref a] ∧ H1 a = some (.ins C dx fs) ∧ D a l H1 ∧ R (Ite K l) H1
theorem pi_enumO {e : Expr} {ta : TA} {p pos tpos : Pos} {elts : List Expr} {kk : Nat} (hg : Gl X "enumerate") (hm : X.mg "enumerate" = none) (o : OwnIt X.K C f) (FI : FnI X.prog X.w X.K X.mg X.base k f D) (hr : Room (k + 2) X.A) (ha : PA X [e] ta)
    (hs : starEach [e] X.env = [(false, eval e X.env)] := by rfl) : PI X (.Tuple elts kk tpos) (.Call (.Name "enumerate" p) [e] [] pos) (iEnumO X.K C D ta) := by
  refine ⟨fun pins s σ H R I h => ?_⟩
  refine Call_ (ld_blt I hg hm boot_enumerate (PyProof.Rows.callWith_type1 (thn (ha.run pos pins s σ H _ I h) fun us s1 ⟨vs, H1, I1, r1, q1⟩ => ?_) hs rfl))
  obtain ⟨a, dx, fs, l, ev, hi, hD, q⟩ := q1
  subst ev
  obtain ⟨u, rfl, ru⟩ := r1.one
  cases ru
  obtain ⟨mA, O, _⟩ := ins_get I1.hok hi
  obtain ⟨od, J, _⟩ := O.look
  obtain ⟨m0, Fm⟩ := I1.fr
  have sb : Sub X k X.A.in1.in1 := Sub.in1 (Sub.in1 (⟨hr, rfl⟩ : Sub X (k + 2) X.A))
  refine callType_newIn F.called_enumerate (by decide) (F.typeCall_enumerate_1 _) (F.newCall_enumerate_1 _) (fun obj => F.args_object_init_2 obj _) F.entry_enumerate_new meets_enumI ?_
  refine PySem.W.owit_iter Fm I1.ok.mod.kin J o.at_ o.fn (wpAny_mono (run_iter (Q := fun v H2 => ∃ it, v = .ref it ∧ H1 it = none ∧ X.s_0.heap.objs.size ≤ it ∧ H2 = upd H1 it (ItO l it 0)) FI sb I1 hD fun it hn hs => ⟨it, rfl, hn, Nat.le_trans I1.sz hs, rfl⟩) (fun w' s2 hq => ?_) fun e s' he => he)
  obtain ⟨z, H2, I2, rz, it, rfl, hn, young, eH⟩ := hq
  obtain rfl : w' = Value.ref it := rz
  subst eH
  have h2 : upd H1 it (ItO l it 0) it = some (ItO l it 0) := upd_same
  have eo := itO_get I2 h2
  have I3 := inv_drop I2 (φ := fun h => h.get? it = some (GNX.itObj l 0)) h2
  have fp := inv_fp I2 h2 young
  rw [dropH_upd hn] at I3 fp
  refine owit_list eo ⟨it, rfl, ?_⟩
  have hlt : it < s2.heap.objs.size := Heap.lt_size eo
  have he : IsEnum (s2.heap.push { cls := .type "enumerate", data := .fields #[.none, .bool false, .ref it, rawInt 0, .none, .none] }) s2.heap.objs.size it 0 .none := Heap.get?_push_size _ rfl
  have hit : (s2.heap.push { cls := .type "enumerate", data := .fields #[.none, .bool false, .ref it, rawInt 0, .none, .none] }).IsListIter it l 0 := ⟨_, Heap.get?_push_of_some _ eo, rfl, rfl⟩
  refine ⟨⟨_, he, rfl⟩, wpAny_pyIter_enum he ?_⟩
  have I4 : Inv X pins σ H1 { s2 with heap := s2.heap.push { cls := .type "enumerate", data := .fields #[.none, .bool false, .ref it, rawInt 0, .none, .none] } } := I3.kept (t' := s2.toks) fun b ob e => Heap.get?_push_of_some _ e
  refine ⟨s2.heap.objs.size, [s2.heap.objs.size, it], _, _, H1, rfl, I4, turn_enum l s2.heap.objs.size it, ⟨⟨.none, he⟩, hit, Nat.ne_of_gt hlt⟩, fun b hb => ?_, q⟩
  have e' : b = s2.heap.objs.size ∨ b = it := by simpa using hb
  rcases e' with z | z
  · rw [z]
    exact I3.fpOk (Nat.le_refl _) (I3.hok.fresh (Nat.le_refl _))
  · rw [z]
    exact fp
end
end Hue

set_option Elab.async false
set_option linter.all false
set_option maxRecDepth 100000
set_option maxHeartbeats 1000000
/-! a method's call in a try body: what it lets out is wished of the slots as they are; errors with two fields -/
namespace Hue
open PySem PySem.Spec PyProof.Rows L2
def tMethS (C : Addr) (m : Str) (sp : Sp) (W : WX) (ta : TE) (t : TA) : TE := fun σ H Q => tMeth C m sp [] (eS W σ) ta t σ H Q
section
variable {X : Cx} {k : Nat} {C f : Addr} {m : Str} {sp : Sp} {W : WX} {o e : Expr} {es : List Expr} {apos pos : Pos} {ta : TE} {t : TA}
theorem pe_methS {pl : Sem Bool} (he : PE X o ta) (c : Cls X.K C) (hm : Meth X.K C m f) (F : FnR X.prog X.w X.K X.mg X.base (L2.CX X.prog X.w) k f sp) (hr : Room k X.A) (tk : Takes X W) (ha : PA X (e :: es) t)
    (hst : starEach (e :: es) X.env = (false, eval e X.env) :: starEach es X.env := by rfl) (hpl : (backTo pos (starEach es X.env)).any (·.1) = false := by rfl)
    (ht : eval (.Call (.Attribute o m apos) (e :: es) [] pos) X.env = (do
      let ov ← eval o X.env
      standAt apos.atName
      let (f, first) ← holding [ov] (getMethod ov m pl)
      callWith pos f first (backTo pos (starEach (e :: es) X.env)) (backToKw pos (keywordEach [] X.env))) := by rfl) :
    PE X (.Call (.Attribute o m apos) (e :: es) [] pos) (tMethS C m sp W ta t) := by
  refine ⟨fun pins s σ H Q I h => ?_⟩
  refine PySem.W.methodCall_KW (pl := pl) (thn (he.run pins s σ H _ I h) fun u s1 ⟨x, H1, I1, rx, a, dx, fs, ex, ea, l, q⟩ => ?_) ht
  subst ex
  obtain rfl : u = Value.ref a := rx
  refine getmeth_ok I1 ea c hm l ?_
  refine PySem.W.callWith_K (first := [.ref a]) (h₀ := X.base) I.ok.mod.kin hm.kp (thn (ha.run pos pins s1 σ H1 _ I1 q) fun us s2 ⟨vs, H2, I2, r, q2⟩ => ⟨I2.kIn, ?_⟩) hst hpl
  have q3 : sp (V.ref a :: (vs ++ [])) H2 Q (eS W σ) := q2
  rw [List.append_nil] at q3
  exact wpAny_call (run_fnRp (Q := Q) (us := .ref a :: us) (vs := .ref a :: vs) F hr (passS tk I2) I2 (.cons rfl r) q3)
theorem pe_methSK {K : PySem.W.Frag} (e0 : X.K = K) {pl : Sem Bool} (he : PE X o ta) (c : Cls K C) (hm : Meth K C m f) (F : FnR X.prog X.w K X.mg X.base (L2.CX X.prog X.w) k f sp) (hr : Room k X.A) (tk : Takes X W) (ha : PA X (e :: es) t)
    (hst : starEach (e :: es) X.env = (false, eval e X.env) :: starEach es X.env := by rfl) (hpl : (backTo pos (starEach es X.env)).any (·.1) = false := by rfl)
    (ht : eval (.Call (.Attribute o m apos) (e :: es) [] pos) X.env = (do
      let ov ← eval o X.env
      standAt apos.atName
      let (f, first) ← holding [ov] (getMethod ov m pl)
      callWith pos f first (backTo pos (starEach (e :: es) X.env)) (backToKw pos (keywordEach [] X.env))) := by rfl) :
    PE X (.Call (.Attribute o m apos) (e :: es) [] pos) (tMethS C m sp W ta t) := by
  subst e0
  exact pe_methS (pl := pl) he c hm F hr tk ha hst hpl ht
end
section
variable {X : Cx} {D : Addr} {K : PySem.W.Frag}
theorem call_isDK (e0 : X.K = K) (C : ExcC K D) : CallR X (.builtin "isinstance") (rIsD K D) := by
  subst e0
  exact call_isD C
theorem pe_xvK (e0 : X.K = K) {e : Expr} {te : TE} {pos : Pos} {n : Str} (C : ExcC K D) (hno : PySem.W.findIn K (.ref D) n = some none) (he : PE X e te) (hb : attributeBase e n X.env (eval e X.env) = eval e X.env := by rfl) : PE X (.Attribute e n pos) (tXv D n te) := by
  subst e0
  exact pe_xv C hno he hb
end
/-- an error's __init__ that keeps two fields -/
def spEx2 (K : PySem.W.Frag) (C : Addr) (n m : Str) : Sp := fun vs H Q _ => ∃ (a : Addr) (v u : V), vs = [.ref a, v, u] ∧ H a = some (exo a C none) ∧ ∀ dx, H dx = none → dx ≠ a → Q .non (upd (upd H dx (exd dx [(m, u), (n, v)])) a (exo a C (some dx)))
theorem mkO2 {K : PySem.W.Frag} {C : Addr} {n m : Str} {v u : V} {H : Hp} {E : XK} (k : ∀ dd H', H dd = none → Same H H' → H' dd = some (.xd [(m, u), (n, v)]) → E (.ref C) (some dd) H') :
    [v, u].length ≤ 1000 ∧ ∀ a, H a = none → spEx2 K C n m (.ref a :: ([v, u] ++ [])) (upd H a (exo a C none))
      (fun w H2 => w = .non ∧ ∃ (d : Addr) (fs : List (Str × V)), H2 a = some (exo a C (some d)) ∧ H2 d = some (exd d fs) ∧ H d = none ∧ E (.ref C) (some d) (upd (L2.del H2 a) d (.xd fs))) (fun _ _ _ => False) := by
  refine ⟨(by decide : 2 ≤ 1000), fun a na => ⟨a, v, u, rfl, upd_same, fun dx nd ne => ⟨rfl, dx, [(m, u), (n, v)], upd_same, ?_, ?_, ?_⟩⟩⟩
  · rw [upd_ne ne, upd_same]
  · rw [upd_ne ne] at nd; exact nd
  · have nd' : H dx = none := by rw [upd_ne ne] at nd; exact nd
    refine k dx _ nd' (fun b o e => ?_) upd_same
    have b1 : b ≠ a := ne_of_none e na
    have b2 : b ≠ dx := ne_of_none e nd'
    rw [upd_ne b2, L2.del_ne b1, upd_ne b1, upd_ne b2, upd_ne b1]
    exact e
theorem upd_swap {H : Hp} {a dx : Addr} {o o' u : HO} (ne : dx ≠ a) : upd (upd (upd H dx o) a u) dx o' = upd (upd H dx o') a u := by
  funext b
  by_cases h1 : b = dx
  · rw [h1, upd_same, upd_ne ne, upd_same]
  · by_cases h2 : b = a
    · rw [h2, upd_ne (Ne.symm ne), upd_same, upd_same]
    · rw [upd_ne h1, upd_ne h2, upd_ne h1, upd_ne h2, upd_ne h1]
/-! ### the addresses that the head looks at, found by a mask (eraseDups costs the kernel N * N) -/
def bitIn (m a : Nat) : Bool := Nat.beq (Nat.land (Nat.shiftRight m a) 1) 1
/-- the new ones of as, ahead of what was found -/
def newM : List Addr → Nat → List Addr → Nat × List Addr
  | [], m, f => (m, f)
  | a :: r, m, f => match bitIn m a with
    | true => newM r m f
    | false => newM r (Nat.lor m (Nat.shiftLeft 1 a)) (a :: f)
def outM (g : Addr → Option Obj) : List Addr → Nat → List Addr → Nat × List Addr
  | [], m, f => (m, f)
  | a :: r, m, f => match g a with
    | some o => match newM (He.refsD o) m f with
      | (m', f') => outM g r m' f'
    | none => outM g r m f
def walkM (g : Addr → Option Obj) : Nat → Nat → List Addr → List Addr → List Addr
  | 0, _, _, all => all
  | n + 1, m, fr, all => match outM g fr m [] with
    | (m', f') => walkM g n m' f' (all ++ f')
def asM (g : Addr → Option Obj) (n : Nat) : List Addr := walkM g n (Nat.shiftLeft 1 mainGlobals) [mainGlobals] [mainGlobals]
def obsMG (n : Nat) (fa : List He.Fa) (fx : List Fx) (ds : List DX) (g : Addr → Option Obj) : AlX := obsX fa fx ds (He.frG g (cStatics :: asM g n))
def hookM (n : Nat) (fa : List He.Fa) (fx : List Fx) (ds : List DX) : PySem.W.Hook where
  α := AlX
  obs := fun s => obsMG n fa fx ds s.heap.get?
  val := fun _ => valX ds
  says := fun _ h => ∃ K : PySem.W.Frag, K.In h ∧ SaysX fa fx ds K
  of := fun _ _ e => ⟨_, He.frG_in, e⟩
  keeps := fun _ _ _ ⟨K, hK, c⟩ k => ⟨K, PySem.W.Frag.In.keeps hK k, c⟩
theorem obsMG_eq {n : Nat} {fa : List He.Fa} {fx : List Fx} {ds : List DX} {g : Addr → Option Obj} {s : Shared} (h : ∀ a, g a = s.heap.get? a) : obsMG n fa fx ds g = (hookM n fa fx ds).obs s := by
  cases (funext h : g = s.heap.get?)
  rfl
end Hue

set_option Elab.async false
set_option linter.all false
set_option maxRecDepth 100000
set_option maxHeartbeats 1000000
/-! a run that never wakes the generators that sleep keeps them: run it with sleepers that cannot be woken, then put the sleepers back -/
namespace Hue
open PySem PySem.Spec PyProof.Rows L2
open Sem (wp)
def genBad : GenState → GenState
  | .suspended _ l c p fs cl => .suspended (fun _ => .unsupported "") l c p fs cl
  | x => x
def slp : GenState → Bool
  | .suspended .. => true
  | _ => false
theorem genBad_seen (x : GenState) : (genBad x).seen = x.seen := by cases x <;> rfl
theorem genBad_bare (x : GenState) : (genBad x).bare = x.bare := by cases x <;> rfl
theorem slp_genBad {x : GenState} (h : slp x = true) : ∃ l c p fs cl, genBad x = .suspended (fun _ => .unsupported "") l c p fs cl := by
  cases x with
  | suspended k l c p fs cl => exact ⟨l, c, p, fs, cl, rfl⟩
  | fresh c => cases h
  | running => cases h
  | finished => cases h
abbrev Bk := Nat → Option GenState
def putG (B : Bk) (G : Array GenState) : Array GenState := G.mapIdx fun i y => (B i).getD y
def putS (B : Bk) (s : Shared) : Shared := { s with gens := putG B s.gens }
theorem putG_size (B : Bk) (G : Array GenState) : (putG B G).size = G.size := by simp [putG]
theorem putG_get (B : Bk) (G : Array GenState) (i : Nat) : (putG B G)[i]? = G[i]?.map fun y => (B i).getD y := by simp [putG]
theorem putG_none {B : Bk} {G : Array GenState} {i : Nat} (h : B i = none) : (putG B G)[i]? = G[i]? := by
  rw [putG_get, h]; cases G[i]? <;> rfl
theorem putG_push {B : Bk} {G : Array GenState} {x : GenState} (h : B G.size = none) : putG B (G.push x) = (putG B G).push x := by
  apply Array.ext_getElem?
  intro i
  rw [putG_get, Array.getElem?_push, Array.getElem?_push, putG_size]
  by_cases e : i = G.size
  · rw [if_pos e, if_pos e, e, h]; rfl
  · rw [if_neg e, if_neg e, putG_get]
theorem putG_set {B : Bk} {G : Array GenState} {x : GenState} {j : Nat} (h : B j = none) : putG B (G.setIfInBounds j x) = (putG B G).setIfInBounds j x := by
  apply Array.ext_getElem?
  intro i
  rw [putG_get]
  by_cases e : i = j
  · subst e
    by_cases hi : i < G.size
    · have h1 : (G.setIfInBounds i x)[i]? = some x := by simp [hi]
      have h2 : ((putG B G).setIfInBounds i x)[i]? = some x := by simp [hi, putG_size]
      rw [h1, h2, h]; rfl
    · have h1 : (G.setIfInBounds i x)[i]? = none := by simp [hi]
      have h2 : ((putG B G).setIfInBounds i x)[i]? = none := by simp [hi, putG_size]
      rw [h1, h2]; rfl
  · rw [Array.getElem?_setIfInBounds_ne (Ne.symm e), Array.getElem?_setIfInBounds_ne (Ne.symm e), putG_get]
/-- the sleepers stand as ones that cannot be woken; no other one sleeps amid a generator that runs inside it -/
structure Frz (B : Bk) (G : Array GenState) : Prop where
  own : ∀ i x, B i = some x → G[i]? = some (genBad x)
  oth : ∀ i k l c p fs cl, B i = none → G[i]? = some (.suspended k l c p fs cl) → splitAtGen fs = none
def noG : End → Prop
  | .ret _ => True
  | .susp _ _ _ _ _ _ fs => splitAtGen fs = none
theorem Frz.push {B : Bk} {G : Array GenState} {c : Code} (h : Frz B G) : B G.size = none ∧ Frz B (G.push (.fresh c)) := by
  refine ⟨?_, fun i x e => ?_, fun i k l c' p fs cl e q => ?_⟩
  · cases e : B G.size with
    | none => rfl
    | some x =>
      have := h.own _ _ e
      simp at this
  · have q := h.own i x e
    have hi : i < G.size := by
      rcases Nat.lt_or_ge i G.size with z | z
      · exact z
      · rw [Array.getElem?_eq_none z] at q; cases q
    rw [Array.getElem?_push, if_neg (Nat.ne_of_lt hi)]; exact q
  · rw [Array.getElem?_push] at q
    split at q
    · cases q
    · exact h.oth i k l c' p fs cl e q
theorem Frz.set {B : Bk} {G : Array GenState} {j : Nat} {x : GenState} (h : Frz B G) (hj : B j = none) (hx : ∀ k l c p fs cl, x = .suspended k l c p fs cl → splitAtGen fs = none) : Frz B (G.setIfInBounds j x) := by
  refine ⟨fun i y e => ?_, fun i k l c p fs cl e q => ?_⟩
  · have ne : i ≠ j := fun z => by rw [z, hj] at e; cases e
    rw [Array.getElem?_setIfInBounds_ne (Ne.symm ne)]; exact h.own i y e
  · by_cases e' : i = j
    · subst e'
      by_cases hi : i < G.size
      · have h1 : (G.setIfInBounds i x)[i]? = some x := by simp [hi]
        rw [h1] at q
        exact hx _ _ _ _ _ _ (Option.some.inj q)
      · have h1 : (G.setIfInBounds i x)[i]? = none := by simp [hi]
        rw [h1] at q; cases q
    · rw [Array.getElem?_setIfInBounds_ne (Ne.symm e')] at q
      exact h.oth i k l c p fs cl e q
theorem Frz.state {B : Bk} {G : Array GenState} {j : Nat} {e : End} (h : Frz B G) (hj : B j = none) (he : noG e) : Frz B (G.setIfInBounds j e.genState) := by
  refine h.set hj fun k l c p fs cl q => ?_
  cases e with
  | ret r => cases q
  | susp v g l' k' c' p' fs' =>
    simp only [End.genState, GenState.suspended.injEq] at q
    obtain ⟨_, _, _, _, q, _⟩ := q
    rw [← q]; exact he
theorem noRuns {M : Model} {Γ : PySem.Ctx} {p : Pos} {t : Sem PySem.Fin} {fs : List Frame} {s s' : Shared} {e : End} (h : PySem.Runs M Γ p t fs s e s') : ∀ x, t ≠ .unsupported x := by
  induction h with
  | segRet _ _ ih _ => exact ih
  | segGen _ _ ih _ => exact ih
  | segSuspOut _ _ ih => exact ih
  | segSuspGen _ _ _ _ ih _ => exact ih
  | _ => intro x z; cases z
theorem split_ret {k : Result → Sem PySem.Fin} {h : Option Value} {g : Bool} {l kp : List Value} {c : Code} {p : Pos} {fs : List Frame} : splitAtGen (.ret k h g l c p kp :: fs) = none → splitAtGen fs = none := by
  intro e
  simp only [splitAtGen] at e
  cases q : splitAtGen fs with
  | none => rfl
  | some x => rw [q] at e; cases e
theorem split_cons {k : Result → Sem PySem.Fin} {h : Option Value} {g : Bool} {l kp : List Value} {c : Code} {p : Pos} {fs : List Frame} (e : splitAtGen fs = none) : splitAtGen (.ret k h g l c p kp :: fs) = none := by
  simp only [splitAtGen, e]; rfl
theorem split_app : ∀ {fs gs : List Frame}, splitAtGen fs = none → splitAtGen gs = none → splitAtGen (fs ++ gs) = none
  | [], _, _, h => h
  | .ret .. :: fs, gs, a, b => split_cons (split_app (split_ret a) b)
  | .gen .. :: fs, gs, a, _ => by simp [splitAtGen] at a
section
variable {M : Model} {B : Bk}
theorem runs_put (hB : ∀ i x, B i = some x → slp x = true) {Γ : PySem.Ctx} {p : Pos} {t : Sem PySem.Fin} {fs : List Frame} {s s' : Shared} {e : End} (h : PySem.Runs M Γ p t fs s e s') :
    splitAtGen fs = none → Frz B s.gens → Frz B s'.gens ∧ noG e ∧ PySem.Runs M Γ p t fs (putS B s) e (putS B s') := by
  induction h with
  | done => exact fun _ f => ⟨f, trivial, .done⟩
  | raise => exact fun _ f => ⟨f, trivial, .raise⟩
  | again hq _ ih => exact fun n f => let ⟨a, b, c⟩ := ih n f; ⟨a, b, .again hq c⟩
  | rule _ ih => exact fun n f => let ⟨a, b, c⟩ := ih n f; ⟨a, b, .rule c⟩
  | «at» _ ih => exact fun n f => let ⟨a, b, c⟩ := ih n f; ⟨a, b, .at c⟩
  | load hg _ ih => exact fun n f => let ⟨a, b, c⟩ := ih n f; ⟨a, b, .load hg c⟩
  | update hg _ ih => exact fun n f => let ⟨a, b, c⟩ := ih n f; ⟨a, b, .update hg c⟩
  | loadIfAlive _ ih => exact fun n f => let ⟨a, b, c⟩ := ih n f; ⟨a, b, .loadIfAlive c⟩
  | point _ ih => exact fun n f => let ⟨a, b, c⟩ := ih n f; ⟨a, b, .point c⟩
  | alloc _ ih => exact fun n f => let ⟨a, b, c⟩ := ih n f; ⟨a, b, .alloc c⟩
  | fresh _ ih => exact fun n f => let ⟨a, b, c⟩ := ih n f; ⟨a, b, .fresh c⟩
  | ask _ ih => exact fun n f => let ⟨a, b, c⟩ := ih n f; ⟨a, b, .ask c⟩
  | choose hn _ ih => exact fun n f => let ⟨a, b, c⟩ := ih n f; ⟨a, b, .choose hn c⟩
  | os _ ih => exact fun n f => let ⟨a, b, c⟩ := ih n f; ⟨a, b, .os c⟩
  | handled _ ih => exact fun n f => let ⟨a, b, c⟩ := ih n f; ⟨a, b, .handled c⟩
  | @genState g st Γ p k s e s' hg _ ih =>
    intro n f
    obtain ⟨a, b, c⟩ := ih n f
    refine ⟨a, b, ?_⟩
    cases hb : B g with
    | none => exact .genState (st := st) (by show (putG B s.gens)[g]? = _; rw [putG_none hb]; exact hg) c
    | some x =>
      have hx := f.own g x hb
      rw [hg] at hx
      have ex : st = genBad x := Option.some.inj hx
      refine .genState (st := x) (by show (putG B s.gens)[g]? = _; rw [putG_get, hg, hb]; rfl) ?_
      rw [← genBad_seen x, ← ex]; exact c
  | stack _ ih => exact fun n f => let ⟨a, b, c⟩ := ih n f; ⟨a, b, .stack c⟩
  | thread _ ih => exact fun n f => let ⟨a, b, c⟩ := ih n f; ⟨a, b, .thread c⟩
  | @newGen Γ p k s e s' c _ ih =>
    intro n f
    obtain ⟨h1, h2⟩ := f.push (c := c)
    obtain ⟨a, b, q⟩ := ih n h2
    refine ⟨a, b, .newGen ?_⟩
    have e1 : (putS B s).gens.size = s.gens.size := putG_size _ _
    have e2 : putS B { s with gens := s.gens.push (.fresh c) } = { putS B s with gens := (putS B s).gens.push (.fresh c) } := by
      show ({ s with gens := putG B (s.gens.push (.fresh c)) } : Shared) = { s with gens := (putG B s.gens).push (.fresh c) }
      rw [putG_push h1]
    rw [e1, ← e2]; exact q
  | call _ _ ih1 ih2 =>
    intro n f
    obtain ⟨a, b, q⟩ := ih1 rfl f
    obtain ⟨a2, b2, q2⟩ := ih2 n a
    exact ⟨a2, b2, .call q q2⟩
  | callSusp _ ih =>
    intro n f
    obtain ⟨a, b, q⟩ := ih rfl f
    exact ⟨a, split_app b (split_cons rfl), .callSusp q⟩
  | yield => exact fun _ f => ⟨f, rfl, .yield⟩
  | @resumeFresh Γ p g l k s c e₁ s₁ e s' hg _ hq _ ih1 ih2 =>
    intro n f
    have hb : B g = none := by
      cases hb : B g with
      | none => rfl
      | some x =>
        have hx := f.own g x hb
        obtain ⟨_, _, _, _, _, e2⟩ := slp_genBad (hB g x hb)
        rw [hg, e2] at hx; cases hx
    obtain ⟨a, b, q⟩ := ih1 rfl (f.set hb fun _ _ _ _ _ _ z => by cases z)
    obtain ⟨a2, b2, q2⟩ := ih2 n (a.state hb b)
    refine ⟨a2, b2, .resumeFresh (c := c) (e₁ := e₁) (s₁ := putS B s₁) (by show (putG B s.gens)[g]? = _; rw [putG_none hb]; exact hg) ?_ hq ?_⟩
    · have e2 : putS B (s.setGen g .running) = (putS B s).setGen g .running := by
        show ({ s with gens := putG B _ } : Shared) = { s with gens := (putG B s.gens).setIfInBounds g .running }
        rw [← putG_set hb]; rfl
      rw [← e2]; exact q
    · have e2 : putS B (s₁.setGen g e₁.genState) = (putS B s₁).setGen g e₁.genState := by
        show ({ s₁ with gens := putG B _ } : Shared) = { s₁ with gens := (putG B s₁.gens).setIfInBounds g e₁.genState }
        rw [← putG_set hb]; rfl
      rw [← e2]; exact q2
  | @resumeSuspended Γ p g r l k s k₀ l₀ c₀ p₀ fs cl e₁ s₁ e s' hg h1 hq _ ih1 ih2 =>
    intro n f
    have hb : B g = none := by
      cases hb : B g with
      | none => rfl
      | some x =>
        have hx := f.own g x hb
        obtain ⟨_, _, _, _, _, e2⟩ := slp_genBad (hB g x hb)
        rw [hg, e2] at hx
        simp only [Option.some.injEq, GenState.suspended.injEq] at hx
        obtain ⟨e3, _⟩ := hx
        subst e3
        exact absurd rfl (noRuns h1 "")
    obtain ⟨a, b, q⟩ := ih1 (f.oth _ _ _ _ _ _ _ hb hg) (f.set hb fun _ _ _ _ _ _ z => by cases z)
    obtain ⟨a2, b2, q2⟩ := ih2 n (a.state hb b)
    refine ⟨a2, b2, .resumeSuspended (k₀ := k₀) (e₁ := e₁) (s₁ := putS B s₁) (by show (putG B s.gens)[g]? = _; rw [putG_none hb]; exact hg) ?_ hq ?_⟩
    · have e2 : putS B (s.setGen g .running) = (putS B s).setGen g .running := by
        show ({ s with gens := putG B _ } : Shared) = { s with gens := (putG B s.gens).setIfInBounds g .running }
        rw [← putG_set hb]; rfl
      rw [← e2]; exact q
    · have e2 : putS B (s₁.setGen g e₁.genState) = (putS B s₁).setGen g e₁.genState := by
        show ({ s₁ with gens := putG B _ } : Shared) = { s₁ with gens := (putG B s₁.gens).setIfInBounds g e₁.genState }
        rw [← putG_set hb]; rfl
      rw [← e2]; exact q2
  | @resumeJustStarted g v Γ p k s e s' l c hg hv _ ih =>
    intro n f
    obtain ⟨a, b, q⟩ := ih n f
    refine ⟨a, b, .resumeJustStarted (c := c) ?_ hv q⟩
    show (putG B s.gens)[g]? = _
    rw [putG_none]; exact hg
    cases hb : B g with
    | none => rfl
    | some x =>
      have hx := f.own g x hb
      obtain ⟨_, _, _, _, _, e2⟩ := slp_genBad (hB g x hb)
      rw [hg, e2] at hx; cases hx
  | @resumeThrowFresh g Γ p k e s' x l s c hg _ ih =>
    intro n f
    have hb : B g = none := by
      cases hb : B g with
      | none => rfl
      | some x =>
        have hx := f.own g x hb
        obtain ⟨_, _, _, _, _, e2⟩ := slp_genBad (hB g x hb)
        rw [hg, e2] at hx; cases hx
    obtain ⟨a, b, q⟩ := ih n (f.set hb fun _ _ _ _ _ _ z => by cases z)
    refine ⟨a, b, .resumeThrowFresh (c := c) (by show (putG B s.gens)[g]? = _; rw [putG_none hb]; exact hg) ?_⟩
    have e2 : putS B (s.setGen g .finished) = (putS B s).setGen g .finished := by
      show ({ s with gens := putG B _ } : Shared) = { s with gens := (putG B s.gens).setIfInBounds g .finished }
      rw [← putG_set hb]; rfl
    rw [← e2]; exact q
  | @resumeRunning g Γ p k s e s' r l hg _ ih =>
    intro n f
    obtain ⟨a, b, q⟩ := ih n f
    refine ⟨a, b, .resumeRunning ?_ q⟩
    show (putG B s.gens)[g]? = _
    rw [putG_none]; exact hg
    cases hb : B g with
    | none => rfl
    | some x =>
      have hx := f.own g x hb
      obtain ⟨_, _, _, _, _, e2⟩ := slp_genBad (hB g x hb)
      rw [hg, e2] at hx; cases hx
  | @resumeFinished g Γ p k s e s' r l hg _ ih =>
    intro n f
    obtain ⟨a, b, q⟩ := ih n f
    refine ⟨a, b, .resumeFinished ?_ q⟩
    show (putG B s.gens)[g]? = _
    rw [putG_none]; exact hg
    cases hb : B g with
    | none => rfl
    | some x =>
      have hx := f.own g x hb
      obtain ⟨_, _, _, _, _, e2⟩ := slp_genBad (hB g x hb)
      rw [hg, e2] at hx; cases hx
  | segRet _ _ ih1 ih2 =>
    intro n f
    obtain ⟨a, b, q⟩ := ih1 rfl f
    obtain ⟨a2, b2, q2⟩ := ih2 (split_ret n) a
    exact ⟨a2, b2, .segRet q q2⟩
  | segGen _ _ _ _ => exact fun n => by simp [splitAtGen] at n
  | segSuspOut hs _ ih =>
    intro n f
    obtain ⟨a, b, q⟩ := ih rfl f
    exact ⟨a, split_app b n, .segSuspOut hs q⟩
  | segSuspGen hs _ _ _ _ _ => exact fun n => by rw [hs] at n; cases n
end
end Hue

set_option Elab.async false
set_option linter.all false
set_option maxRecDepth 100000
set_option maxHeartbeats 1000000
/-! generators walked by a for: one segment of a generator at a time; the consumer may change what the generator does not lean on -/
namespace Hue
open PySem PySem.Spec PyProof.Rows L2 GenW
/-! ### one segment: up to the next yield or the end -/
abbrev EndQ := End → Shared → Prop
def Sq (M : Model) (A : Around) (Ph : EndQ) (c : Code) (t : Sem PySem.Fin) (fs : List Frame) (s : Shared) : Prop :=
  ∀ (Γ : PySem.Ctx) (p : Pos), Γ.code = c → Γ.Woken A → ∃ e s', PySem.Runs M Γ p t fs s e s' ∧ e.quiet = true ∧ Ph e s'
section
variable {M : Model} {A : Around} {Ph : EndQ} {c : Code} {fs : List Frame} {s : Shared}
theorem sq_wrap {α : Type} {m : Sem α} {K : α → Sem PySem.Fin} {J : Value → Sem PySem.Fin} {gd : Bool → Bool} {lv : List Value → List Value}
    (h : wpAny M (A.over c fs) m (fun a s' => Sq M A Ph c (K a) fs s') (fun x s' => Sq M A Ph c (J x) fs s') s) : Sq M A Ph c (m.wrap K J gd lv) fs s := by
  rintro Γ p rfl hΓ
  exact runs_wrap_of_wp (Φ := fun e s' => e.quiet = true ∧ Ph e s') K J gd lv m (h (Γ.over fs) p (hΓ.over fs)) (fun a p' s' q => q Γ p' rfl hΓ) fun x p' s' q => q Γ p' rfl hΓ
theorem sq_bind {α : Type} {m : Sem α} {K : α → Sem PySem.Fin} (h : wpAny M (A.over c fs) m (fun a s' => Sq M A Ph c (K a) fs s') (fun x s' => Sq M A Ph c (.raise x) fs s') s) : Sq M A Ph c (m >>= K) fs s := by
  rw [Sem.bind_eq_wrap']; exact sq_wrap h
theorem sq_bindW {α β : Type} {m : Sem α} {f : α → Sem β} {K : β → Sem PySem.Fin} {J : Value → Sem PySem.Fin} {gd : Bool → Bool} {lv : List Value → List Value}
    (h : wpAny M (A.over c fs) m (fun a s' => Sq M A Ph c ((f a).wrap K J gd lv) fs s') (fun x s' => Sq M A Ph c (J x) fs s') s) : Sq M A Ph c ((m >>= f).wrap K J gd lv) fs s := by
  rw [Sem.bind_eq_wrap', Sem.wrap_wrap]; exact sq_wrap h
theorem sq_at {p' : Pos} {k : Unit → Sem PySem.Fin} (h : Sq M A Ph c (k ()) fs s) : Sq M A Ph c (.at p' k) fs s :=
  sq_wrap (m := standAt p') (K := k) (J := .raise) (gd := id) (lv := id) (wpAny_standAt h)
theorem sq_point {l : List Value} {k : Unit → Sem PySem.Fin} (h : Sq M A Ph c (k ()) fs s) : Sq M A Ph c (.point l k) fs s :=
  sq_wrap (m := point) (K := k) (J := .raise) (gd := id) (lv := fun _ => l) (wpAny_point h)
theorem sq_rule {tag : String} {k : Unit → Sem PySem.Fin} (h : Sq M A Ph c (k ()) fs s) : Sq M A Ph c (.rule tag k) fs s :=
  sq_wrap (m := rule tag) (K := k) (J := .raise) (gd := id) (lv := id) (wpAny_rule h)
theorem sq_call {c' : Code} {h : Option Value} {g : Bool} {l : List Value} {k : Result → Sem PySem.Fin} (hc : ∀ p, Sq M A Ph c' (M.den c') (.ret k h g l c p [] :: fs) s) : Sq M A Ph c (.call c' h g l k) fs s := by
  rintro Γ p rfl hΓ
  obtain ⟨e, s', hr, q⟩ := hc p (Γ.goto c') p rfl (hΓ.goto c')
  exact ⟨e, s', runs_call_seg hr, q⟩
theorem sq_leaf {k : Result → Sem PySem.Fin} {h : Option Value} {g : Bool} {l kp : List Value} {c₁ : Code} {p₁ : Pos} (r : Result) (hk : Sq M A Ph c₁ (k r) fs s) : Sq M A Ph c (leafOf r) (.ret k h g l c₁ p₁ kp :: fs) s := by
  rintro Γ p rfl hΓ
  obtain ⟨e, s', hr, q⟩ := hk (Γ.goto c₁) p₁ rfl (hΓ.goto c₁)
  exact ⟨e, s', Runs.pop r hr, q⟩
theorem sq_again {c' : Code} (hq : c'.quiet = true) (hc : Sq M A Ph c' (M.den c') fs s) : Sq M A Ph c (.pure (.again c')) fs s := by
  rintro Γ p rfl hΓ
  obtain ⟨e, s', hr, q⟩ := hc (Γ.goto c') p rfl (hΓ.goto c')
  exact ⟨e, s', Runs.head (c₁ := c') (fun _ _ x => .again hq x) hr, q⟩
theorem sq_end (r : Result) (h : Ph (.ret r) s) : Sq M A Ph c (leafOf r) [] s := by
  rintro Γ p rfl _
  exact ⟨.ret r, s, Runs.leaf r, rfl, h⟩
theorem sq_yield {v : Value} {g : Bool} {l : List Value} {k : Resume → Sem PySem.Fin} (hfs : splitAtGen fs = none) (hg : g = false) (hfg : fs.any Frame.guarded = false) (h : ∀ p, Ph (.susp v g l k c p fs) s) : Sq M A Ph c (.yield v g l k) fs s := by
  rintro Γ p rfl _
  exact ⟨_, s, Runs.yield' fs hfs, by simp [End.quiet, hg, hfg], h p⟩
theorem Sq.mono {Ph' : EndQ} {t : Sem PySem.Fin} (h : Sq M A Ph c t fs s) (hp : ∀ e s', e.quiet = true → Ph e s' → Ph' e s') : Sq M A Ph' c t fs s := by
  rintro Γ p rfl hΓ
  obtain ⟨e, s', hr, q1, q2⟩ := h Γ p rfl hΓ
  exact ⟨e, s', hr, q1, hp e s' q1 q2⟩
end
/-! ### the generator's own ground -/
/-- the heap below n -/
def cutH (n : Nat) (h : Heap) : Heap := { h with objs := h.objs.extract 0 n }
def cutS (n : Nat) (s : Shared) : Shared := { s with heap := cutH n s.heap }
theorem cutH_size {n : Nat} {h : Heap} (le : n ≤ h.objs.size) : (cutH n h).objs.size = n := by
  show (h.objs.extract 0 n).size = n
  simp; omega
theorem cutA {n b : Nat} {xs : Array Obj} : (xs.extract 0 n)[b]? = if b < n then xs[b]? else none := by
  rw [Array.getElem?_extract]
  by_cases h1 : b < n
  · by_cases h2 : b < xs.size
    · rw [if_pos (by omega), if_pos h1, Nat.zero_add]
    · rw [if_neg (by omega), if_pos h1, Array.getElem?_eq_none (by omega)]
  · rw [if_neg (by omega), if_neg h1]
theorem cutH_get {n : Nat} {h : Heap} {b : Addr} : (cutH n h).get? b = if b < n then h.get? b else none := by
  unfold Heap.get? cutH
  simp only
  rw [cutA]
  by_cases e : b < n
  · rw [if_pos e, if_pos e]
  · rw [if_neg e, if_neg e]
theorem cutH_of {n : Nat} {h : Heap} {b : Addr} {o : Obj} (e : (cutH n h).get? b = some o) : b < n ∧ h.get? b = some o := by
  rw [cutH_get] at e
  by_cases z : b < n
  · rw [if_pos z] at e; exact ⟨z, e⟩
  · rw [if_neg z] at e; cases e
theorem cutH_in {n : Nat} {h : Heap} {b : Addr} {o : Obj} (z : b < n) (e : h.get? b = some o) : (cutH n h).get? b = some o := by rw [cutH_get, if_pos z]; exact e
/-- where a generator stands, once for all: its frame, the frames of the one that walks it, the least address of its own objects -/
structure GB where
  P : Program
  w : World
  K : PySem.W.Frag
  mg : Str → Option Value
  base : Heap
  A : Around
  N : List Str
  env : Env
  outer : List Env
  n0 : Nat
  pn : List (Addr × Obj)
/-- its context since it was last woken: in state s₀ with the heap H₀ -/
@[reducible] def GB.cx (G : GB) (sw : Shared) (Hw : Hp) : Cx where
  prog := G.P
  w := G.w
  K := G.K
  mg := G.mg
  base := G.base
  A := G.A
  N := G.N
  s_0 := cutS G.n0 sw
  H_0 := Hw
  env := G.env
  outer := G.outer
  stack := G.env :: G.outer
  ex := []
  fn := fun _ => true
  calm := true
  pn := G.pn
  xe := fun _ _ => False
structure GB.Ok (G : GB) : Prop where
  mod : Mod G.K G.mg G.base
  kind : G.env.scope.kind = .function
  glob : G.env.globals = mainGlobals
  blt : G.env.builtins = builtinsNs
  above : G.n0 ≤ G.env.locals
  nocell : ∀ x, G.env.cells.lookup x = none
  kinds : ∀ x, G.env.kindOf x ≠ some .cell ∧ G.env.kindOf x ≠ some .free
  hd : G.A.handled = none
  frames : G.A.frames = some (G.env :: G.outer)
  frame : G.env.frame = some G.env.locals
  bsz : G.base.objs.size ≤ G.n0
  old : ∀ b ∈ frs G.outer, b < G.n0
  pns : ∀ p ∈ G.pn, G.n0 ≤ p.1
/-- it may be woken in the state s2 with the heap H2: nothing of its own was touched since s1 -/
structure Wk (G : GB) (s1 : Shared) (ip : List (Addr × Obj)) (H2 : Hp) (s2 : Shared) : Prop where
  os : s2.os = s1.os
  bare : AllBare s2.gens
  loc : ∀ o, s1.heap.get? G.env.locals = some o → s2.heap.get? G.env.locals = some o
  free : H2 G.env.locals = none
  pin : ∀ p ∈ G.pn ++ ip, s2.heap.get? p.1 = some p.2 ∧ H2 p.1 = none
  hok : HOk G.P G.w H2 s2.heap
  bs : ∀ b o, G.base.get? b = some o → s2.heap.get? b = some o ∧ H2 b = none
  funs : s2.heap.FunFrames G.base G.outer
  frf : ∀ b ∈ frs G.outer, H2 b = none
theorem Inv.based {G : GB} (g : G.Ok) {s1 s2 : Shared} {H2 : Hp} {ip : List (Addr × Obj)} {σ : L2.St}
    (loc : ∃ m, s1.heap.Ns G.env.locals m ∧ ∀ (i : Nat) (x : Str) (v : V), G.N[i]? = some x → σ[i]? = some (some v) → Vis G.env.scope x → ∃ u, RelV v u ∧ Look G.env s1.heap m x u)
    (len : σ.length = G.N.length) (pins : ∀ p ∈ G.pn ++ ip, p.1 ≠ G.env.locals ∧ p.1 ∉ frs G.outer ∧ ∀ v, p.2.data ≠ .cell v) (k : Wk G s1 ip H2 s2) : Inv (G.cx s2 H2) ip σ H2 s2 := by
  obtain ⟨m, hn, hl⟩ := loc
  have lt2 : G.n0 ≤ s2.heap.objs.size := by
    obtain ⟨o, _, _, ho, _⟩ := hn
    exact Nat.le_trans g.above (Nat.le_of_lt (Heap.lt_size (k.loc o ho)))
  have fu : ∀ l : List Env, (∀ b ∈ frs l, b < G.n0) → s2.heap.FunFrames G.base l → (cutH G.n0 s2.heap).FunFrames G.base l := by
    intro l
    induction l with
    | nil => intro _ _; trivial
    | cons e r ih =>
      intro hs hl
      obtain ⟨hk, ⟨L, o, hf, hb, ho, hd⟩, hr⟩ := hl
      have hL : L ∈ frs (e :: r) := by unfold frs; rw [List.filterMap_cons, hf]; exact List.mem_cons_self
      exact ⟨hk, ⟨L, o, hf, hb, cutH_in (hs L hL) ho, hd⟩, ih (fun b hb => hs b (by unfold frs; rw [List.filterMap_cons, hf]; exact List.mem_cons_of_mem _ hb)) hr⟩
  have none0 : ∀ b : Addr, b ∉ (G.cx s2 H2).ex := fun b z => by cases z
  refine ⟨⟨g.mod, g.kind, g.glob, g.blt, ?_, fun x y c h => ?_, fun x h => ?_, fun x c _ h => ?_, fun _ => g.hd, g.frames, .inr ⟨rfl, g.frame⟩, fun b z => absurd z (none0 b), fun b o e => ?_, ?_, fun b _ _ => none0 b, fun b z => absurd z (none0 b), fu _ g.old k.funs, k.frf⟩,
    rfl, k.bare, Un.kept fun b o e => (cutH_of e).2, ?_, fun x c h => ?_, k.free, fun x c h => ?_, fun p hp => ?_, k.hok, len⟩
  · show (cutH G.n0 s2.heap).objs.size ≤ _
    rw [cutH_size lt2]; exact g.above
  · rw [show G.env.cells.lookup x = none from g.nocell x] at h; cases h
  · rcases h with h | h
    · exact absurd h (g.kinds x).1
    · exact absurd h (g.kinds x).2
  · rw [show G.env.cells.lookup x = none from g.nocell x] at h; cases h
  · obtain ⟨q1, q2⟩ := k.bs b o e
    exact ⟨cutH_in (Nat.lt_of_lt_of_le (Heap.lt_size e) g.bsz) q1, q2⟩
  · show _ ≤ (cutH G.n0 s2.heap).objs.size
    rw [cutH_size lt2]; exact g.bsz
  · obtain ⟨o, es, ep, ho, r⟩ := hn
    refine ⟨m, ⟨o, es, ep, k.loc o ho, r⟩, fun i x v e1 e2 e3 => ?_⟩
    obtain ⟨u, ru, q⟩ := hl i x v e1 e2 e3
    refine ⟨u, ru, ?_⟩
    rcases q with q | ⟨q, _⟩
    · exact .inl q
    · rcases q with q | q
      · exact absurd q (g.kinds x).1
      · exact absurd q (g.kinds x).2
  · rw [show G.env.cells.lookup x = none from g.nocell x] at h; cases h
  · rw [show G.env.cells.lookup x = none from g.nocell x] at h; cases h
  · obtain ⟨h3, h4, h5⟩ := pins p hp
    obtain ⟨q1, q2⟩ := k.pin p hp
    exact ⟨q1, q2, h3, h4, h5⟩
theorem Inv.woken {G : GB} (g : G.Ok) {sw s1 s2 : Shared} {Hw H1 H2 : Hp} {ip : List (Addr × Obj)} {σ : L2.St} (I : Inv (G.cx sw Hw) ip σ H1 s1) (k : Wk G s1 ip H2 s2) : Inv (G.cx s2 H2) ip σ H2 s2 :=
  Inv.based g I.loc I.len (fun p hp => let ⟨_, _, h3, h4, h5⟩ := I.pin p hp; ⟨h3, h4, h5⟩) k
/-! ### what a generator promises -/
structure GP where
  len : Nat
  item : Nat → V → Hp → Prop
  /-- what the one that walks it keeps -/
  rely : Hp → Hp → Prop
  /-- what it keeps itself -/
  guar : Hp → Hp → Prop
/-- what holds of the state behind a segment, for the one that walks it -/
structure GOut (G : GB) (sw : Shared) (Hw H1 : Hp) (s' : Shared) : Prop where
  os : s'.os = sw.os
  bare : AllBare s'.gens
  un : Un (frs G.outer) [] Hw H1 (cutH G.n0 sw.heap) s'.heap
  hok : HOk G.P G.w H1 s'.heap
  pn : ∀ p ∈ G.pn, s'.heap.get? p.1 = some p.2
structure GOwn (G : GB) (ip : List (Addr × Obj)) (H1 : Hp) (s' : Shared) : Prop where
  loc : ∃ o, s'.heap.get? G.env.locals = some o ∧ ∀ v, o.data ≠ .cell v
  free : H1 G.env.locals = none
  pin : ∀ p ∈ G.pn ++ ip, s'.heap.get? p.1 = some p.2 ∧ H1 p.1 = none ∧ G.n0 ≤ p.1 ∧ ∀ v, p.2.data ≠ .cell v
def GPh (G : GB) (Aw : Around) (Z : GP) : Nat → Hp → Shared → EndQ
  | 0 => fun Hw sw e s' => match e with
    | .ret r => (r = .ok (.ret .none) ∨ r = .ok .next) ∧ ∃ H1, GOut G sw Hw H1 s' ∧ Z.guar Hw H1
    | .susp .. => False
  | m + 1 => fun Hw sw e s' => match e with
    | .ret _ => False
    | .susp v _ _ k c _ fs => ∃ x H1 ip, RelV x v ∧ GOut G sw Hw H1 s' ∧ GOwn G ip H1 s' ∧ Z.item (Z.len - (m + 1)) x H1 ∧ Z.guar Hw H1 ∧
        ∀ H2 s2, Wk G s' ip H2 s2 → Z.rely H1 H2 → Sq (model G.P G.w) Aw (GPh G Aw Z m H2 s2) c (k (.send .none)) fs s2
/-! ### statements of a generator -/
structure GFE where
  nx : Nat → Hp → L2.St → Hp → Prop
  bk : Nat → Hp → L2.St → Hp → Prop := fun _ _ _ _ => False
  ct : Nat → Hp → L2.St → Hp → Prop := fun _ _ _ _ => False
  rt : Nat → Hp → V → Hp → Prop
abbrev TGF := GFE → Nat → Hp → L2.St → Hp → Prop
def GFE.at (D : GFE) (k : Nat) (Hw : Hp) : Ends := { nx := D.nx k Hw, rt := D.rt k Hw, bk := D.bk k Hw, ct := D.ct k Hw }
/-- where its code stands -/
structure GAt (G : GB) (ip : List (Addr × Obj)) (Aw : Around) (c : Code) (fs : List Frame) (gd : Bool → Bool) : Prop where
  ip : ∀ p ∈ ip, G.n0 ≤ p.1
  over : Aw.over c fs = G.A
  split : splitAtGen fs = none
  guard : fs.any Frame.guarded = false
  gd : gd false = false
/-- yields left, yields done; its own objects are younger -/
def GN (G : GB) (Z : GP) (m k : Nat) (sw : Shared) : Prop := m + k = Z.len ∧ G.n0 ≤ sw.heap.objs.size
def GCo (G : GB) (Aw : Around) (Z : GP) (ip : List (Addr × Obj)) (c : Code) (fs : List Frame) (K : Flow → Sem PySem.Fin) (D : GFE) : Prop :=
  ∀ (m k : Nat) (sw : Shared) (Hw : Hp) (s : Shared) (f : Flow), GN G Z m k sw → SP (G.cx sw Hw) ip (D.at k Hw) f s → Sq (model G.P G.w) Aw (GPh G Aw Z m Hw sw) c (K f) fs s
structure GSF (G : GB) (Z : GP) (st : Stmt) (t : TGF) : Prop where
  run : ∀ (Aw : Around) (ip : List (Addr × Obj)) (m k : Nat) (sw : Shared) (Hw : Hp) (c : Code) (fs : List Frame) (K : Flow → Sem PySem.Fin) (J : Value → Sem PySem.Fin) (gd : Bool → Bool) (lv : List Value → List Value) (s : Shared) (σ : L2.St) (H : Hp) (D : GFE),
    GAt G ip Aw c fs gd → GN G Z m k sw → GCo G Aw Z ip c fs K D → Inv (G.cx sw Hw) ip σ H s → t D k Hw σ H → Sq (model G.P G.w) Aw (GPh G Aw Z m Hw sw) c ((exec st G.env).wrap K J gd lv) fs s
structure GSFs (G : GB) (Z : GP) (st : List Stmt) (t : TGF) : Prop where
  run : ∀ (Aw : Around) (ip : List (Addr × Obj)) (m k : Nat) (sw : Shared) (Hw : Hp) (c : Code) (fs : List Frame) (K : Flow → Sem PySem.Fin) (J : Value → Sem PySem.Fin) (gd : Bool → Bool) (lv : List Value → List Value) (s : Shared) (σ : L2.St) (H : Hp) (D : GFE),
    GAt G ip Aw c fs gd → GN G Z m k sw → GCo G Aw Z ip c fs K D → Inv (G.cx sw Hw) ip σ H s → t D k Hw σ H → Sq (model G.P G.w) Aw (GPh G Aw Z m Hw sw) c ((execs st G.env).wrap K J gd lv) fs s
section
variable {G : GB} {Z : GP} {st : Stmt} {rest : List Stmt}
def tGP (t : TS) : TGF := fun D k Hw σ H => t (D.at k Hw) σ H
theorem gsf_ps {t : TS} (h : ∀ sw Hw, PS (G.cx sw Hw) st t) : GSF G Z st (tGP t) := by
  refine ⟨fun Aw ip m k sw Hw c fs K J gd lv s σ H D g hn q I ht => ?_⟩
  refine sq_wrap ?_
  rw [g.over]
  exact wpAny_mono ((h sw Hw).run _ s σ H (D.at k Hw) I ht) (fun f s' hs => q m k sw Hw s' f hn hs) fun x s' hx => hx.elim
theorem gsfs_ps {t : TS} (h : ∀ sw Hw, PSs (G.cx sw Hw) rest t) : GSFs G Z rest (tGP t) := by
  refine ⟨fun Aw ip m k sw Hw c fs K J gd lv s σ H D g hn q I ht => ?_⟩
  refine sq_wrap ?_
  rw [g.over]
  exact wpAny_mono ((h sw Hw).run _ s σ H (D.at k Hw) I ht) (fun f s' hs => q m k sw Hw s' f hn hs) fun x s' hx => hx.elim
def tGNil : TGF := fun D k Hw σ H => D.nx k Hw σ H
theorem gsf_nil : GSFs G Z [] tGNil := by
  refine ⟨fun Aw ip m k sw Hw c fs K J gd lv s σ H D g hn q I ht => ?_⟩
  exact q m k sw Hw s .next hn ⟨σ, H, I, ht⟩
def tGCons (t u : TGF) : TGF := fun D k Hw σ H => t { D with nx := fun k' Hw' σ' H' => u D k' Hw' σ' H' } k Hw σ H
theorem gsf_cons {t u : TGF} (a : GSF G Z st t) (b : GSFs G Z rest u) : GSFs G Z (st :: rest) (tGCons t u) := by
  refine ⟨fun Aw ip m k sw Hw c fs K J gd lv s σ H D g hn q I ht => ?_⟩
  rw [execs_cons_wrap]
  refine a.run Aw ip m k sw Hw c fs _ J gd lv s σ H { D with nx := fun k' Hw' σ' H' => u D k' Hw' σ' H' } g hn (fun m' k' sw' Hw' s' f hn' hs => ?_) I ht
  cases f with
  | next =>
    obtain ⟨σ', H', I', w⟩ := hs
    exact b.run Aw ip m' k' sw' Hw' c fs K J gd lv s' σ' H' D g hn' q I' w
  | brk => exact q m' k' sw' Hw' s' .brk hn' hs
  | cont => exact q m' k' sw' Hw' s' .cont hn' hs
  | ret u => exact q m' k' sw' Hw' s' (.ret u) hn' hs
theorem gsf_one {t : TGF} (a : GSF G Z st t) : GSFs G Z [st] (tGCons t tGNil) := gsf_cons a gsf_nil
/-! ### if -/
def tGIf (c : TT) (t u : TGF) : TGF := fun D k Hw σ H => c σ H fun b H1 => if b = true then t D k Hw σ H1 else u D k Hw σ H1
theorem gsf_if {test : Expr} {body els : List Stmt} {pos : Pos} {tc : TT} {t u : TGF} (hc : ∀ sw Hw, PT (G.cx sw Hw) test tc) (ht : GSFs G Z body t) (hu : GSFs G Z els u) : GSF G Z (.If test body els pos) (tGIf tc t u) := by
  refine ⟨fun Aw ip m k sw Hw c fs K J gd lv s σ H D g hn q I h => ?_⟩
  rw [arm_exec_If]
  refine sq_bindW (wpAny_standAt ?_)
  refine sq_bindW ?_
  rw [g.over]
  refine wpAny_mono ((hc sw Hw).run _ s σ H _ I h) (fun b s' hb => ?_) fun x s' hx => hx.elim
  obtain ⟨H1, I1, q1⟩ := hb
  cases b with
  | true => exact ht.run Aw ip m k sw Hw c fs K J gd lv s' σ H1 D g hn q I1 (by rw [if_pos rfl] at q1; exact q1)
  | false => exact hu.run Aw ip m k sw Hw c fs K J gd lv s' σ H1 D g hn q I1 (by rw [if_neg Bool.false_ne_true] at q1; exact q1)
/-! ### yield -/
def tGYd (Z : GP) (te : TE) : TGF := fun D k Hw σ H => te σ H fun x H1 => k < Z.len ∧ Z.item k x H1 ∧ Z.guar Hw H1 ∧ ∀ H2, Z.rely H1 H2 → D.nx (k + 1) H2 σ H2
theorem Inv.gout (g : G.Ok) {sw s : Shared} {Hw H : Hp} {ip : List (Addr × Obj)} {σ : L2.St} (I : Inv (G.cx sw Hw) ip σ H s) : GOut G sw Hw H s :=
  ⟨I.os, I.bare, I.base, I.hok, fun p hp => (I.pin p (List.mem_append_left _ hp)).1⟩
theorem Inv.gown (g : G.Ok) {sw s : Shared} {Hw H : Hp} {ip : List (Addr × Obj)} {σ : L2.St} (I : Inv (G.cx sw Hw) ip σ H s) (hip : ∀ p ∈ ip, G.n0 ≤ p.1) : GOwn G ip H s := by
  obtain ⟨m, ⟨o, es, ep, ho, hd, _⟩, _⟩ := id I.loc
  refine ⟨⟨o, ho, fun v q => by rw [hd] at q; cases q⟩, I.free, fun p hp => ?_⟩
  obtain ⟨h1, h2, _, _, h5⟩ := I.pin p hp
  exact ⟨h1, h2, (List.mem_append.mp hp).elim (g.pns p) (hip p), h5⟩
theorem gsf_yield (g0 : G.Ok) {e : Expr} {yp pos : Pos} {te : TE} (he : ∀ sw Hw, PE (G.cx sw Hw) e te) (hco : G.env.scope.isCoroutine = false := by rfl) (hi : interactive G.env = false := by rfl) : GSF G Z (.Expr (.Yield (some e) yp) pos) (tGYd Z te) := by
  refine ⟨fun Aw ip m k sw Hw c fs K J gd lv s σ H D g hn q I h => ?_⟩
  rw [exec_Expr _ _ pos hi rfl]
  show Sq _ _ _ c (.at pos fun _ => ((eval e G.env >>= fun v => (standAt yp >>= fun _ => yieldOut G.env v)) >>= fun x => dropValue (.Yield (some e) yp) pos x).wrap K J gd lv) fs s
  have hy : ∀ v, yieldOut G.env v = yieldValue v := fun v => by simp only [yieldOut, hco, Bool.false_eq_true, if_false]
  simp only [hy]
  refine sq_at ?_
  rw [Sem.bind_eq_wrap', Sem.bind_eq_wrap', Sem.wrap_wrap, Sem.wrap_wrap]
  refine sq_wrap ?_
  rw [g.over]
  refine wpAny_mono ((he sw Hw).run _ s σ H _ I h) (fun v s' hv => ?_) fun x s' hx => hx.elim
  obtain ⟨x, H1, I1, rv, hk, hit, hgu, hre⟩ := hv
  refine sq_at (sq_yield g.split g.gd g.guard fun p => ?_)
  have hn1 := hn.1
  obtain ⟨m, rfl⟩ : ∃ m', m = m' + 1 := ⟨m - 1, by omega⟩
  refine ⟨x, H1, ip, rv, Inv.gout g0 I1, Inv.gown g0 I1 g.ip, by rw [show Z.len - (m + 1) = k by omega]; exact hit, hgu, fun H2 s2 wk rl => ?_⟩
  have I2 := Inv.woken g0 I1 wk
  refine q m (k + 1) s2 H2 s2 .next ⟨by omega, ?_⟩ ⟨σ, H2, I2, hre H2 rl⟩
  exact Nat.le_trans g0.above (Nat.le_of_lt I2.lt)
/-! ### for -/
def tGFor (wi : TI) (g : TG) (tb : TGF) : TGF := fun D k Hw σ H => wi σ H fun J H1 => ∃ W : Nat → Nat → Nat → Hp → L2.St → Hp → Prop, (∃ m, W 0 m k Hw σ H1) ∧ ∀ i m k Hw σ H, W i m k Hw σ H →
  (J.stop i H ∧ D.nx k Hw σ H) ∨ (J.go i H ∧ ∃ N : Nat → Hp → L2.St → Hp → Prop, (∀ k' Hw' σ' H', N k' Hw' σ' H' → ∃ m', m' < m ∧ W (i + 1) m' k' Hw' σ' H') ∧
    ∀ x H', J.yld i H x H' → g x σ H' fun σ2 H2 => tb { D with nx := N, ct := N, bk := D.nx } k Hw σ2 H2)
theorem GAt.loop {ip : List (Addr × Obj)} {Aw : Around} {c c' : Code} {fs : List Frame} {gd : Bool → Bool} {k : Result → Sem PySem.Fin} {l kp : List Value} {p : Pos} (g : GAt G ip Aw c fs gd) (hw : c'.weight = 0) (hu : c'.cUnits = 0) :
    GAt G ip Aw c' (.ret k none (gd false) l c p kp :: fs) id where
  ip := g.ip
  over := (over_loop hw hu).trans g.over
  split := split_cons g.split
  guard := by
    show (gd false || fs.any Frame.guarded) = false
    rw [g.gd, g.guard]; rfl
  gd := rfl
theorem GAt.more {ip ip' : List (Addr × Obj)} {Aw : Around} {c : Code} {fs : List Frame} {gd : Bool → Bool} (g : GAt G ip Aw c fs gd) (h : ∀ p ∈ ip', G.n0 ≤ p.1) : GAt G ip' Aw c fs gd := ⟨h, g.over, g.split, g.guard, g.gd⟩
theorem gsf_for (g0 : G.Ok) {tg iter : Expr} {body : List Stmt} {wi : TI} {g : TG} {tb : TGF} {pos : Pos} (hi : ∀ sw Hw, PI (G.cx sw Hw) tg iter wi) (hg : ∀ sw Hw, PG (G.cx sw Hw) tg g) (hb : GSFs G Z body tb)
    (hs : ∀ x, foldedSetIterable iter G.env x = pure x := by intro _; rfl) : GSF G Z (.For tg iter body [] pos) (tGFor wi g tb) := by
  refine ⟨fun Aw ip m k sw Hw c fs K J gd lv s σ H D gt hn q I h => ?_⟩
  rw [exec_For]
  refine sq_bindW (wpAny_standAt ?_)
  refine sq_bindW ?_
  rw [gt.over]
  refine wpAny_mono ((hi sw Hw).run ip s σ H _ I h) (fun v s1 h1 => ?_) fun x s' hx => hx.elim
  refine sq_bindW (wpAny_of_eq (hs v) ?_)
  refine sq_bindW (wpAny_standAt ?_)
  refine sq_bindW (wpAny_holding ?_)
  rw [gt.over]
  refine wpAny_mono h1 (fun itv s2 h2 => ?_) fun x s' hx => hx.elim
  obtain ⟨it, fp, tn, JJ, H2, e, I2, T, st2, f2, W, ⟨m0, w0⟩, turn⟩ := h2
  subst e
  have own : ∀ b ∈ fp, b ≠ G.env.locals ∧ b ∉ frs G.outer ∧ G.n0 ≤ b ∧ ∀ p ∈ G.pn ++ ip, p.1 ≠ b := fun b hbf => by
    obtain ⟨_, z2, z3, z4, _, z6⟩ := f2 b hbf
    refine ⟨z2, z3, ?_, z6⟩
    rcases z4 with z4 | z4
    · cases z4
    · have e : (cutH G.n0 sw.heap).objs.size ≤ b := z4
      rw [cutH_size hn.2] at e; exact e
  have stat : ∀ {sw' : Shared} {Hw' H' : Hp}, (∀ b ∈ fp, H' b = none) → ∀ b ∈ fp, FpOk (G.cx sw' Hw') ip H' b := fun {sw' Hw' H'} hn' b hbf => by
    obtain ⟨z2, z3, z4, z6⟩ := own b hbf
    refine ⟨hn' b hbf, z2, z3, .inr ?_, (fun x c h => by rw [show G.env.cells.lookup x = none from g0.nocell x] at h; cases h), z6⟩
    refine Nat.le_trans ?_ z4
    show ((sw'.heap.objs).extract 0 G.n0).size ≤ _
    simp; omega
  show Sq _ _ _ c (.call (.forLoop tg (.ref it) body [] G.env) none (gd false) (lv []) fun r => ((match r with | .ok f => (.pure f : Sem Flow) | .error e => .raise e).onRaise (cameBack G.env)).wrap K J gd lv) fs s2
  refine sq_call fun p => ?_
  have gl := fun (kk : Result → Sem PySem.Fin) => GAt.loop (k := kk) (c' := .forLoop tg (.ref it) body [] G.env) (l := lv []) (kp := []) (p := p) gt rfl rfl
  have loop : ∀ (mm i m k : Nat) (sw : Shared) (Hw : Hp) (s : Shared) (σ : L2.St) (H : Hp), GN G Z m k sw → Inv (G.cx sw Hw) ip σ H s → tn i s.heap → (∀ b ∈ fp, H b = none) → W i mm k Hw σ H →
      Sq (model G.P G.w) Aw (GPh G Aw Z m Hw sw) (.forLoop tg (.ref it) body [] G.env) ((model G.P G.w).den (.forLoop tg (.ref it) body [] G.env))
        (.ret (fun r => ((match r with | .ok f => (.pure f : Sem Flow) | .error e => .raise e).onRaise (cameBack G.env)).wrap K J gd lv) none (gd false) (lv []) c p [] :: fs) s := by
    intro mm
    induction mm using Nat.strongRecOn with
    | ind mm ih =>
      intro i m k sw Hw s σ H hn I st fr w
      show Sq _ _ _ _ ((forTurn tg (.ref it) body [] G.env).onRaise _) _ _
      rw [Sem.onRaise_eq_wrap]
      unfold forTurn
      refine sq_bindW (wpAny_standAt ?_)
      refine sq_bindW (wpAny_onRaise ?_)
      rw [(gl _).over]
      rcases turn i mm k Hw σ H w with ⟨stop, qn⟩ | ⟨go, N, hN, step⟩
      · refine wpAny_mono (T.done (G.cx sw Hw) rfl rfl rfl rfl i ip s σ H (fun _ _ => False) I (stat fr) st stop) (fun r s4 ⟨hr, I4⟩ => ?_) fun x s' hx => hx.elim
        subst hr
        refine sq_again rfl ?_
        show Sq _ _ _ _ ((execs [] G.env).onRaise _ >>= _) _ _
        refine sq_bind (wpAny_onRaise (wpAny_execs_nil ?_))
        exact sq_leaf (.ok .next) (q m k sw Hw s4 .next hn ⟨σ, H, I4, qn⟩)
      · refine wpAny_mono (T.item (G.cx sw Hw) rfl rfl rfl rfl i ip s σ H (fun _ _ => False) I (stat fr) st go) (fun r s4 ⟨u, hr, h4⟩ => ?_) fun x s' hx => hx.elim
        subst hr
        refine sq_bindW ?_
        rw [(gl _).over]
        refine wpAny_mono h4 (fun _ s5 ⟨x, H5, I5, r5, y5, st5, fr5⟩ => ?_) fun x s' hx => hx.elim
        have I5' := I5.pinned (stat fr5) (T.obj _ _ st5)
        refine sq_bindW ?_
        rw [(gl _).over]
        refine wpAny_mono ((hg sw Hw).run _ s5 σ H5 x u _ I5' r5 (step x H5 y5)) (fun _ s6 ⟨σ6, H6, I6, q6⟩ => ?_) fun x s' hx => hx.elim
        rw [Sem.bind_eq_wrap', Sem.wrap_wrap]
        have old : ∀ p ∈ ip ++ pinsAt fp s5.heap, G.n0 ≤ p.1 := fun p hp => (List.mem_append.mp hp).elim (gt.ip p) fun z => (own p.1 (of_pinsAt z).1).2.2.1
        refine hb.run Aw (ip ++ pinsAt fp s5.heap) m k sw Hw _ _ _ _ _ _ s6 σ6 H6 { D with nx := N, ct := N, bk := D.nx } ((gl _).more old) hn (fun m' k' sw' Hw' s7 f hn' q7 => ?_) I6 q6
        have again : ∀ {σ7 : L2.St} {H7 : Hp}, Inv (G.cx sw' Hw') (ip ++ pinsAt fp s5.heap) σ7 H7 s7 → N k' Hw' σ7 H7 →
            ∃ mm', mm' < mm ∧ Inv (G.cx sw' Hw') ip σ7 H7 s7 ∧ tn (i + 1) s7.heap ∧ (∀ b ∈ fp, H7 b = none) ∧ W (i + 1) mm' k' Hw' σ7 H7 := fun {σ7 H7} I7 n7 => by
          obtain ⟨m2, hm, w7⟩ := hN k' Hw' σ7 H7 n7
          refine ⟨m2, hm, I7.unpinned, T.keep _ _ _ st5 fun b hb o e => (I7.pin (b, o) (List.mem_append_right _ (List.mem_append_right _ (mem_pinsAt hb e)))).1, fun b hb => ?_, w7⟩
          obtain ⟨o, e, d⟩ := T.obj _ _ st5 b hb
          exact (I7.pin (b, o) (List.mem_append_right _ (List.mem_append_right _ (mem_pinsAt hb e)))).2.1
        cases f with
        | next =>
          obtain ⟨σ7, H7, I7, n7⟩ := q7
          obtain ⟨m2, hm, J7, t7, f7, w7⟩ := again I7 n7
          exact sq_again rfl (ih m2 hm (i + 1) m' k' sw' Hw' s7 σ7 H7 hn' J7 t7 f7 w7)
        | cont =>
          obtain ⟨σ7, H7, I7, n7⟩ := q7
          obtain ⟨m2, hm, J7, t7, f7, w7⟩ := again I7 n7
          exact sq_again rfl (ih m2 hm (i + 1) m' k' sw' Hw' s7 σ7 H7 hn' J7 t7 f7 w7)
        | brk =>
          obtain ⟨σ7, H7, I7, q7⟩ := q7
          exact sq_leaf (.ok .next) (q m' k' sw' Hw' s7 .next hn' ⟨σ7, H7, I7.unpinned, q7⟩)
        | ret v =>
          obtain ⟨x7, σ7, H7, I7, r7, q7⟩ := q7
          exact sq_leaf (.ok (.ret v)) (q m' k' sw' Hw' s7 (.ret v) hn' ⟨x7, σ7, H7, I7.unpinned, r7, q7⟩)
  exact loop m0 0 m k sw Hw s2 σ H2 hn I2 st2 (fun b hb => (f2 b hb).1) w0
end
end Hue

set_option Elab.async false
set_option linter.all false
set_option maxRecDepth 100000
set_option maxHeartbeats 1000000
/-! a generator def's promise; for over a generator -/
namespace Hue
open PySem PySem.Spec PyProof.Rows L2 GenW
/-! ### what sleeps is kept -/
def sBad (s : Shared) : Shared := { s with gens := s.gens.map genBad }
def bkOf (s : Shared) : Bk := fun i => match s.gens[i]? with | some x => if slp x then some x else none | none => none
theorem bkOf_some {s : Shared} {i : Nat} {x : GenState} : bkOf s i = some x ↔ s.gens[i]? = some x ∧ slp x = true := by
  unfold bkOf
  cases e : s.gens[i]? with
  | none => simp
  | some y =>
    cases h : slp y with
    | true =>
      simp only [h, if_true, Option.some.injEq]
      exact ⟨fun z => ⟨z, z ▸ h⟩, fun z => z.1⟩
    | false =>
      simp only [h, Bool.false_eq_true, if_false, Option.some.injEq]
      refine ⟨fun z => (by cases z), fun z => ?_⟩
      rw [← z.1, h] at z; exact absurd z.2 Bool.false_ne_true
theorem bkOf_slp {s : Shared} : ∀ i x, bkOf s i = some x → slp x = true := fun i x h => (bkOf_some.mp h).2
theorem frz_bad (s : Shared) : Frz (bkOf s) (sBad s).gens := by
  refine ⟨fun i x h => ?_, fun i k l c p fs cl h q => ?_⟩
  · show (s.gens.map genBad)[i]? = _
    rw [Array.getElem?_map, (bkOf_some.mp h).1]; rfl
  · have q' : (s.gens.map genBad)[i]? = some (.suspended k l c p fs cl) := q
    rw [Array.getElem?_map] at q'
    cases e : s.gens[i]? with
    | none => rw [e] at q'; cases q'
    | some y =>
      rw [e] at q'
      have q2 : genBad y = .suspended k l c p fs cl := Option.some.inj q'
      have : slp y = true := by cases y <;> first | rfl | cases q2
      rw [bkOf_some.mpr ⟨e, this⟩] at h; cases h
theorem put_bad (s : Shared) : putS (bkOf s) (sBad s) = s := by
  obtain ⟨h, g, d, t, o⟩ := s
  show ({ heap := h, gens := putG _ (g.map genBad), drawn := d, toks := t, os := o } : Shared) = _
  congr 1
  apply Array.ext_getElem?
  intro i
  rw [putG_get, Array.getElem?_map]
  cases e : g[i]? with
  | none => rfl
  | some y =>
    show some ((bkOf _ i).getD (genBad y)) = some y
    congr 1
    cases z : slp y with
    | true => rw [bkOf_some.mpr ⟨e, z⟩]; rfl
    | false =>
      have : bkOf { heap := h, gens := g, drawn := d, toks := t, os := o } i = none := by
        cases q : bkOf { heap := h, gens := g, drawn := d, toks := t, os := o } i with
        | none => rfl
        | some x =>
          obtain ⟨q1, q2⟩ := bkOf_some.mp q
          have q1' : g[i]? = some x := q1
          rw [e] at q1'; cases q1'; rw [z] at q2; cases q2
      rw [this]
      cases y <;> first | rfl | cases z
section
variable {M : Model} {B : Bk}
theorem wakes_put (hB : ∀ i x, B i = some x → slp x = true) {Γ : PySem.Ctx} {p : Pos} {g : Nat} {r : Resume} {s s' : Shared} {res : GenResult} (h : Wakes M Γ p g r s res s') (f : Frz B s.gens) : Frz B s'.gens ∧ Wakes M Γ p g r (putS B s) res (putS B s') := by
  have eset : ∀ {t : Shared} {x : GenState}, B g = none → putS B (t.setGen g x) = (putS B t).setGen g x := fun {t x} hb => by
    show ({ t with gens := putG B _ } : Shared) = { t with gens := (putG B t.gens).setIfInBounds g x }
    rw [← putG_set hb]; rfl
  unfold Wakes at h ⊢
  cases hg : s.gens[g]? with
  | none => rw [hg] at h; exact h.elim
  | some y =>
    rw [hg] at h
    by_cases hb : B g = none
    · have hg2 : (putS B s).gens[g]? = some y := by show (putG B s.gens)[g]? = _; rw [putG_none hb]; exact hg
      rw [hg2]
      cases y with
      | fresh c =>
        cases r with
        | send v =>
          cases v with
          | none =>
            obtain ⟨e₁, s₁, h1, h2, h3, h4⟩ := h
            obtain ⟨a, b, q⟩ := runs_put hB h1 rfl (f.set hb fun _ _ _ _ _ _ z => by cases z)
            subst h4
            refine ⟨a.state hb b, e₁, putS B s₁, ?_, h2, h3, eset hb⟩
            rw [← eset hb]; exact q
          | _ => obtain ⟨h1, h2⟩ := h; subst h2; exact ⟨f, h1, rfl⟩
        | throw x => obtain ⟨h1, h2⟩ := h; subst h2; exact ⟨f.set hb fun _ _ _ _ _ _ z => (by cases z), h1, eset hb⟩
      | suspended k l c p₀ fs cl =>
        obtain ⟨e₁, s₁, h1, h2, h3, h4⟩ := h
        obtain ⟨a, b, q⟩ := runs_put hB h1 (f.oth _ _ _ _ _ _ _ hb hg) (f.set hb fun _ _ _ _ _ _ z => by cases z)
        subst h4
        refine ⟨a.state hb b, e₁, putS B s₁, ?_, h2, h3, eset hb⟩
        rw [← eset hb]; exact q
      | running => obtain ⟨h1, h2⟩ := h; subst h2; exact ⟨f, h1, rfl⟩
      | finished => obtain ⟨h1, h2⟩ := h; subst h2; exact ⟨f, h1, rfl⟩
    · obtain ⟨x, hx⟩ := Option.ne_none_iff_exists'.mp hb
      have h0 := f.own g x hx
      obtain ⟨l, c, p₀, fs, cl, e2⟩ := slp_genBad (hB g x hx)
      rw [hg] at h0
      have h0' : y = genBad x := Option.some.inj h0
      rw [h0', e2] at h
      obtain ⟨e₁, s₁, h1, _⟩ := h
      exact absurd rfl (noRuns h1 "")
open Sem (wp) in
theorem wp_put (hB : ∀ i x, B i = some x → slp x = true) {Γ : PySem.Ctx} {α : Type} (t : Sem α) : ∀ (Q : α → Pos → Shared → Prop) (E : Value → Pos → Shared → Prop) (p : Pos) (s : Shared), Frz B s.gens → wp M Γ t Q E p s →
    wp M Γ t (fun a p' s' => ∃ s1, Frz B s1.gens ∧ Q a p' s1 ∧ s' = putS B s1) (fun e p' s' => ∃ s1, Frz B s1.gens ∧ E e p' s1 ∧ s' = putS B s1) p (putS B s) := by
  induction t with
  | pure a => exact fun Q E p s f h => ⟨s, f, h, rfl⟩
  | raise e => exact fun Q E p s f h => ⟨s, f, h, rfl⟩
  | unsupported _ => exact fun Q E p s _ h => h
  | finish _ => exact fun Q E p s _ h => h
  | rule _ k ih => exact fun Q E p s f h => ih () Q E p s f h
  | «at» p' k ih => exact fun Q E p s f h => ih () Q E p' s f h
  | load a _ k ih => exact fun Q E p s f ⟨o, ho, h⟩ => ⟨o, ho, ih o Q E p s f h⟩
  | update a _ g k ih => exact fun Q E p s f h => ⟨h.1, ih () Q E p { s with heap := s.heap.update a g } f h.2⟩
  | loadIfAlive a k ih => exact fun Q E p s f h => ih _ Q E p s f h
  | point _ k ih => exact fun Q E p s f h => ih () Q E p s f h
  | register _ _ => exact fun Q E p s _ h => h
  | alloc o k ih => exact fun Q E p s f h => ih s.heap.objs.size Q E p { s with heap := s.heap.push o } f h
  | fresh k ih => exact fun Q E p s f h => ih s.toks Q E p { s with toks := s.toks + 1 } f h
  | ask k ih => exact fun Q E p s f h => ih _ Q E p s f h
  | choose src m k ih => exact fun Q E p s f h => ⟨h.1, ih _ Q E p { s with drawn := s.drawn.bump src } f h.2⟩
  | os q _ k ih => exact fun Q E p s f h => ih _ Q E p { s with os := (Os.step s.os q).1 } f h
  | call c hd _ _ k ih =>
    intro Q E p s f h
    obtain ⟨r, s', hr, h⟩ := h
    obtain ⟨a, _, q⟩ := runs_put hB hr rfl f
    exact ⟨r, putS B s', q, ih r Q E p s' a h⟩
  | handled own k ih => exact fun Q E p s f h => ih _ Q E p s f h
  | genState g k ih =>
    intro Q E p s f h
    obtain ⟨st, hs, h⟩ := h
    cases hb : B g with
    | none => exact ⟨st, by show (putG B s.gens)[g]? = _; rw [putG_none hb]; exact hs, ih _ Q E p s f h⟩
    | some x =>
      have hx := f.own g x hb
      rw [hs] at hx
      have ex : st = genBad x := Option.some.inj hx
      refine ⟨x, by show (putG B s.gens)[g]? = _; rw [putG_get, hs, hb]; rfl, ?_⟩
      have h2 := ih _ Q E p s f h
      rw [ex, genBad_seen] at h2
      exact h2
  | newGen c k ih =>
    intro Q E p s f h
    obtain ⟨h1, h2⟩ := f.push (c := c)
    have q := ih _ Q E p _ h2 h
    have e1 : (putS B s).gens.size = s.gens.size := putG_size _ _
    have e2 : putS B { s with gens := s.gens.push (.fresh c) } = { putS B s with gens := (putS B s).gens.push (.fresh c) } := by
      show ({ s with gens := putG B (s.gens.push (.fresh c)) } : Shared) = { s with gens := (putG B s.gens).push (.fresh c) }
      rw [putG_push h1]
    show wp M Γ (k (putS B s).gens.size) _ _ p { putS B s with gens := (putS B s).gens.push (.fresh c) }
    rw [e1, ← e2]; exact q
  | resume g r _ k ih =>
    intro Q E p s f h
    obtain ⟨res, s', hw, h⟩ := h
    obtain ⟨a, q⟩ := wakes_put hB hw f
    exact ⟨res, putS B s', q, ih res Q E p s' a h⟩
  | yield _ _ _ _ => exact fun Q E p s _ h => h
  | stack k ih => exact fun Q E p s f h => ih _ Q E p s f h
  | fork _ _ => exact fun Q E p s _ h => h
  | thread k ih => exact fun Q E p s f h => ih _ Q E p s f h
  | await _ _ _ _ _ => exact fun Q E p s _ h => h
/-- what a run that may not wake the sleepers shows, a run with the sleepers shows too, and keeps them -/
theorem wpAny_kept {A : Around} {α : Type} {t : Sem α} {Q : α → Shared → Prop} {s : Shared} (h : wpAny M A t Q (fun _ _ => False) (sBad s)) {E : Value → Shared → Prop} :
    wpAny M A t (fun a s' => ∃ s1, Q a s1 ∧ s'.heap = s1.heap ∧ s'.os = s1.os ∧ (AllBare s1.gens → AllBare s'.gens) ∧ ∀ (i : Nat) (x : GenState), s.gens[i]? = some x → slp x = true → s'.gens[i]? = some x) E s := by
  intro Γ p hΓ
  have q := wp_put (M := M) (bkOf_slp (s := s)) t _ _ p (sBad s) (frz_bad s) (h Γ p hΓ)
  rw [put_bad] at q
  refine Sem.wp_mono M Γ _ (fun a p' s' q' => ?_) (fun e p' s' q' => ?_) _ _ q
  · obtain ⟨s1, f, q1, e⟩ := q'
    subst e
    refine ⟨s1, q1, rfl, rfl, fun hb y hy => ?_, fun i x hi hx => ?_⟩
    · obtain ⟨i, hi, e⟩ := Array.mem_iff_getElem.mp hy
      have e2' : (putS (bkOf s) s1).gens[i]? = some y := by rw [Array.getElem?_eq_getElem hi, e]
      have e2 : (putG (bkOf s) s1.gens)[i]? = some y := e2'
      rw [putG_get] at e2
      cases e3 : s1.gens[i]? with
      | none => rw [e3] at e2; cases e2
      | some z =>
        rw [e3] at e2
        have e4 : (bkOf s i).getD z = y := Option.some.inj e2
        have hz := hb z (Array.mem_of_getElem? e3)
        cases e5 : bkOf s i with
        | none => rw [e5] at e4; rw [← e4]; exact hz
        | some x =>
          rw [e5] at e4
          have e6 := f.own i x e5
          rw [e3] at e6
          have e7 : z = genBad x := Option.some.inj e6
          rw [← e4]
          show x.bare = true
          rw [← genBad_bare, ← e7]; exact hz
    · have e5 := bkOf_some.mpr ⟨hi, hx⟩
      have e6 := f.own i x e5
      show (putG (bkOf s) s1.gens)[i]? = _
      rw [putG_get, e6, e5]; rfl
  · obtain ⟨_, _, q1, _⟩ := q'
    exact q1.elim
end
theorem bare_bad {s : Shared} (h : AllBare s.gens) : AllBare (sBad s).gens := fun y hy => by
  obtain ⟨x, hx, e⟩ := Array.mem_map.mp (show y ∈ s.gens.map genBad from hy)
  rw [← e, genBad_bare]; exact h x hx
/-- the generators' table is no part of what Inv says -/
theorem Inv.regen {X : Cx} {pins : List (Addr × Obj)} {σ : L2.St} {H : Hp} {s s' : Shared} (I : Inv X pins σ H s) (hh : s'.heap = s.heap) (ho : s'.os = s.os) (hb : AllBare s'.gens) : Inv X pins σ H s' :=
  ⟨I.ok, ho.trans I.os, hb, by rw [hh]; exact I.base, by rw [hh]; exact I.loc, by rw [hh]; exact I.cell, I.free, I.freeC, by rw [hh]; exact I.pin, by rw [hh]; exact I.hok, I.len⟩
/-- a context in which nothing is let out -/
@[reducible] def nox (X : Cx) : Cx := { X with xe := fun _ _ => False }
theorem Inv.nox {X : Cx} {pins : List (Addr × Obj)} {σ : L2.St} {H : Hp} {s : Shared} (I : Inv X pins σ H s) : Inv (Hue.nox X) pins σ H s :=
  ⟨⟨I.ok.mod, I.ok.kind, I.ok.glob, I.ok.blt, I.ok.above, I.ok.inj, I.ok.has, I.ok.cab, I.ok.hd, I.ok.frames, I.ok.stk, I.ok.exf, I.ok.bs, I.ok.bsz, I.ok.noex, I.ok.exfs, I.ok.funs, I.ok.frf⟩, I.os, I.bare, I.base, I.loc, I.cell, I.free, I.freeC, I.pin, I.hok, I.len⟩
theorem Inv.unnox {X : Cx} {pins : List (Addr × Obj)} {σ : L2.St} {H : Hp} {s : Shared} (I : Inv (Hue.nox X) pins σ H s) : Inv X pins σ H s :=
  ⟨⟨I.ok.mod, I.ok.kind, I.ok.glob, I.ok.blt, I.ok.above, I.ok.inj, I.ok.has, I.ok.cab, I.ok.hd, I.ok.frames, I.ok.stk, I.ok.exf, I.ok.bs, I.ok.bsz, I.ok.noex, I.ok.exfs, I.ok.funs, I.ok.frf⟩, I.os, I.bare, I.base, I.loc, I.cell, I.free, I.freeC, I.pin, I.hok, I.len⟩
/-! ### a generator def -/
abbrev SpF := List V → Hp → GP → Prop
def GGo (M : Model) (A : Around) (Ph : EndQ) (gs : GenState) (s : Shared) : Prop := match gs with
  | .fresh c => Sq M A Ph c (M.den c) [] s
  | .suspended k _ c _ fs _ => Sq M A Ph c (k (.send .none)) fs s
  | _ => False
@[reducible] def gbOf (P : Program) (w : World) (K : PySem.W.Frag) (mg : Str → Option Value) (base : Heap) (N : List Str) (qual : Str) (scope : Scope) (f : Addr) (cd : Value) (A : Around) (outer : List Env) (n0 : Nat) (pn : List (Addr × Obj)) : GB :=
  { P := P, w := w, K := K, mg := mg, base := base, A := A.deeper (envOfC qual scope n0 f cd), N := N, env := envOfC qual scope n0 f cd, outer := outer, n0 := n0, pn := pn }
/-- a generator that has not begun: whoever wakes it, it keeps the promise Z -/
def GMk (P : Program) (w : World) (base : Heap) (k : Nat) (H : Hp) (s : Shared) (Z : GP) (u : Value) (s' : Shared) : Prop :=
  ∃ (a : Addr) (g : Nat) (c : Code), u = .ref a ∧ s.heap.objs.size ≤ a ∧ a < s'.heap.objs.size ∧ s'.heap.IsGen a g ∧ s'.gens[g]? = some (.fresh c) ∧ s'.os = s.os ∧ AllBare s'.gens ∧ s'.heap.NoLimit ∧ (∀ b o, s.heap.get? b = some o → s'.heap.get? b = some o) ∧
    ∀ (A : Around) (outer : List Env) (s2 : Shared) (H2 : Hp), Room k A → A.frames = some outer → s2.heap.FunFrames base outer → (∀ b ∈ frs outer, b < s.heap.objs.size ∧ H2 b = none) → (∀ b o, s'.heap.get? b = some o → s2.heap.get? b = some o) → s2.os = s.os → AllBare s2.gens →
      (H2 = H ∨ Z.rely H H2) → HOk P w H2 s2.heap → (∀ b, s.heap.objs.size ≤ b → b < s'.heap.objs.size → H2 b = none) → (∀ b o, base.get? b = some o → H2 b = none) →
      ∃ G : GB, G.P = P ∧ G.w = w ∧ G.base = base ∧ G.outer = outer ∧ G.n0 = s.heap.objs.size ∧ (∃ o, G.pn = [(a, o)] ∧ ∀ h : Heap, h.get? a = some o → h.IsGen a g) ∧ G.Ok ∧ Sq (model P w) A (GPh G A Z Z.len H2 s2) c ((model P w).den c) [] s2
structure GFn (P : Program) (w : World) (K : PySem.W.Frag) (mg : Str → Option Value) (base : Heap) (k : Nat) (f : Addr) (fd : FuncData) (ps : List Str) (sp : SpF) : Prop where
  len : ∀ vs H Z, sp vs H Z → vs.length = ps.length
  run : ∀ (A : Around) (outer : List Env) (s : Shared) (H : Hp) (args : Args) (us : List Value) (vs : List V) (Z : GP), Room k A → Env0 P w K mg base A outer s H → BindsTo s fd args (ps.zip us) → Vals vs us → sp vs H Z →
    codeAny (model P w) A (.call (.ref f) args) (fun r s' => match r with | .ok (.ret u) => GMk P w base k H s Z u s' | _ => False) s
theorem cells_none : ∀ {l : List (Str × NameKind)} (n : Nat), (∀ y ∈ l, y.2 ≠ .cell) → cellsFrom n l [] = []
  | [], _, _ => rfl
  | (x, kd) :: r, n, h => by
    have h1 : kd ≠ .cell := h (x, kd) List.mem_cons_self
    show (if kd == .cell then _ else cellsFrom n r []) = []
    rw [if_neg (by simpa using h1)]
    exact cells_none n fun y hy => h y (List.mem_cons_of_mem _ hy)
/-- THE RULE of a generator def, by its body -/
theorem gfn_by {P : Program} {w : World} {K : PySem.W.Frag} {mg : Str → Option Value} {base : Heap} {k : Nat} {f : Addr} {name qual : Str} {params : Arguments} {body : List Stmt} {scope : Scope} {dV kV doc pm cdv ct oc : Value} {an od : Option Addr}
    {osl : Array (Option Value)} {N ps : List Str} {sp : SpF} (lk : K.lookup f = some ⟨oc, od, .func (PySem.W.fnOf name qual params body scope dV kV doc pm an cdv ct), osl⟩) (hcd : PySem.W.codeIn K cdv qual = true) (S : GScope N ps scope) (nc : ∀ y ∈ scope.names, y.2 ≠ .cell)
    (len : ∀ vs H Z, sp vs H Z → vs.length = ps.length) (hst : ∀ vs H H2 Z, sp vs H Z → Z.rely H H2 → sp vs H2 Z)
    (hbody : ∀ (A : Around) (outer : List Env) (n0 : Nat) (pn : List (Addr × Obj)) (H : Hp) (vs : List V) (Z : GP), (gbOf P w K mg base N qual scope f cdv A outer n0 pn).Ok → Room k (A.deeper (envOfC qual scope n0 f cdv)) → sp vs H Z →
      ∃ t, GSFs (gbOf P w K mg base N qual scope f cdv A outer n0 pn) Z body t ∧ t { nx := fun k Hw _ H' => k = Z.len ∧ Z.guar Hw H', rt := fun k Hw v H' => v = .non ∧ k = Z.len ∧ Z.guar Hw H' } 0 H (start N vs) H) :
    GFn P w K mg base (k + 1) f (PySem.W.fnOf name qual params body scope dV kV doc pm an cdv ct) ps sp := by
  refine ⟨len, fun A outer s H args us vs Z hr e0 hb r hsp => ?_⟩
  have hl := len _ _ _ hsp
  have KX : K.In s.heap := e0.mod.kin.keeps fun b o e => (e0.bs b o e).1
  have lim : s.heap.NoLimit := e0.mod.nolimit.keeps fun b o e => (e0.bs b o e).1
  have par : ∀ y ∈ ps.zip us, scope.names.lookup y.1 = some .local ∨ (scope.names.lookup y.1 = some .cell ∧ ((cellsFrom (s.heap.objs.size + 1) scope.names []).lookup y.1).isSome = true) := fun ⟨n, v⟩ hy => by
    rcases S.par n (List.of_mem_zip hy).1 with q | q
    · exact .inl q
    · exact absurd rfl (nc _ (PySem.mem_of_lookup q))
  refine codeAny_call_generator hr.depth (KX _ _ lk) rfl S.co S.gen rfl (PySem.W.codeRec_of KX hcd) (hb _ _ _ _ ?_)
  refine wpAny_newFunctionEnv_cells S.kind par fun env he s1 x => ?_
  subst he
  have lim1 : s1.heap.NoLimit := lim.keeps x.toInCall.keep
  refine ⟨lim1, ?_⟩
  obtain ⟨h1, tk, es1, hk1⟩ := x.done
  have os1 : s1.os = s.os := by rw [es1]
  have ge1 : s1.gens = s.gens := by rw [es1]
  have lt1 : s.heap.objs.size < s1.heap.objs.size := x.toInCall.ns.lt
  have kp1 : ∀ b o, s.heap.get? b = some o → s1.heap.get? b = some o := x.toInCall.keep
  have made : ∀ (go : Obj) (nm qn : Value) (tk2 : Nat), go.cls = .type "generator" → go.data = .fields #[.int s1.gens.size 0, nm, qn] → go.slots = #[] → (∀ h : Heap, (h.push go).get? h.objs.size = some go) →
      GMk P w base (k + 1) H s Z (.ref s1.heap.objs.size) { s1 with gens := s1.gens.push (.fresh (.func body (envOfC qual scope s.heap.objs.size f cdv))), toks := tk2, heap := s1.heap.push go } := by
    intro go nm qn tk2 hgc hgd hgs hgp
    have isg : ∀ h : Heap, h.get? s1.heap.objs.size = some go → h.IsGen s1.heap.objs.size s1.gens.size := fun h e => ⟨go, nm, qn, e, hgc, hgd, hgs⟩
    have got : (s1.heap.push go).get? s1.heap.objs.size = some go := hgp _
    refine ⟨s1.heap.objs.size, s1.gens.size, _, rfl, Nat.le_of_lt lt1, ?_, isg _ got, Array.getElem?_push_size .., os1, ?_, lim1.keeps fun b o e => Heap.get?_push_of_some _ e, fun b o e => Heap.get?_push_of_some _ (kp1 b o e), ?_⟩
    · show _ < (s1.heap.push _).objs.size
      rw [Heap.size_push]; exact Nat.lt_succ_self _
    · exact AllBare.push (by rw [ge1]; exact e0.bare) rfl
    intro Aw out2 s2 H2 hrw hfr hff hold hk2 hos hba hrel hok2 hfr2 hbs2
    have hsp2 : sp vs H2 Z := by
      rcases hrel with e | e
      · rw [e]; exact hsp
      · exact hst _ _ _ _ hsp e
    have noC : cellsFrom (s.heap.objs.size + 1) scope.names [] = [] := cells_none _ nc
    have kp2 : ∀ b o, s1.heap.get? b = some o → s2.heap.get? b = some o := fun b o e => hk2 b o (Heap.get?_push_of_some _ e)
    have sz2 : s1.heap.objs.size < s2.heap.objs.size := Heap.lt_size (hk2 _ _ got)
    have fresh : ∀ b, s.heap.objs.size ≤ b → H b = none := fun b hb => e0.hok.fresh hb
    have I1 := inv_startG (E := fun _ _ _ => False) S hr.hd e0 hl r x
    refine ⟨gbOf P w K mg base N qual scope f cdv Aw out2 s.heap.objs.size [(s1.heap.objs.size, go)], rfl, rfl, rfl, rfl, rfl, ⟨go, rfl, fun h e => isg h e⟩, ?_, ?_⟩
    · refine ⟨e0.mod, S.kind, rfl, rfl, Nat.le_refl _, fun y => ?_, fun y => ?_, hrw.hd, Around.frames_deeper hfr, rfl, e0.bsz, fun b hb => (hold b hb).1, fun p hp => ?_⟩
      · show (cellsFrom (s.heap.objs.size + 1) scope.names []).lookup y = none
        rw [noC]; rfl
      · exact ⟨fun q => nc _ (PySem.mem_of_lookup q) rfl, fun q => S.nofree _ (PySem.mem_of_lookup q) rfl⟩
      · rw [List.mem_singleton.mp hp]; exact Nat.le_of_lt lt1
    · have ok : (gbOf P w K mg base N qual scope f cdv Aw out2 s.heap.objs.size [(s1.heap.objs.size, go)]).Ok := by
        refine ⟨e0.mod, S.kind, rfl, rfl, Nat.le_refl _, fun y => ?_, fun y => ?_, hrw.hd, Around.frames_deeper hfr, rfl, e0.bsz, fun b hb => (hold b hb).1, fun p hp => ?_⟩
        · show (cellsFrom (s.heap.objs.size + 1) scope.names []).lookup y = none
          rw [noC]; rfl
        · exact ⟨fun q => nc _ (PySem.mem_of_lookup q) rfl, fun q => S.nofree _ (PySem.mem_of_lookup q) rfl⟩
        · rw [List.mem_singleton.mp hp]; exact Nat.le_of_lt lt1
      obtain ⟨t, ht, hq⟩ := hbody Aw out2 s.heap.objs.size [(s1.heap.objs.size, go)] H2 vs Z ok (hrw.deeper _) hsp2
      have hsz' : (s1.heap.push go).objs.size = s1.heap.objs.size + 1 := Heap.size_push ..
      have I2 : Inv ((gbOf P w K mg base N qual scope f cdv Aw out2 s.heap.objs.size [(s1.heap.objs.size, go)]).cx s2 H2) [] (start N vs) H2 s2 := by
        refine Inv.based (s1 := s1) ok I1.loc I1.len (fun p hp => ?_) ⟨hos.trans os1.symm, hba, fun o e => kp2 _ o e, hfr2 _ (Nat.le_refl _) (by rw [hsz']; exact Nat.lt_succ_of_lt lt1), fun p hp => ?_, hok2, fun b o e => ?_, hff, fun b hb => (hold b hb).2⟩
        · rw [List.append_nil, List.mem_singleton] at hp
          subst hp
          refine ⟨Nat.ne_of_gt lt1, fun hb => ?_, fun v q => by rw [hgd] at q; cases q⟩
          exact absurd (Nat.lt_trans lt1 (hold _ hb).1) (Nat.lt_irrefl _)
        · rw [List.append_nil, List.mem_singleton] at hp
          subst hp
          exact ⟨hk2 _ _ got, hfr2 _ (Nat.le_of_lt lt1) (by rw [hsz']; exact Nat.lt_succ_self _)⟩
        · exact ⟨kp2 b o (kp1 b o (e0.bs b o e).1), hbs2 b o e⟩
      show Sq _ _ _ _ (.point [] fun _ => ((execs body (envOfC qual scope s.heap.objs.size f cdv)).onRaise (leaving (envOfC qual scope s.heap.objs.size f cdv))) >>= _) [] s2
      refine sq_point ?_
      rw [Sem.onRaise_eq_wrap, Sem.bind_eq_wrap', Sem.wrap_wrap]
      refine ht.run Aw [] Z.len 0 s2 H2 _ [] _ _ _ _ s2 (start N vs) H2 _ ⟨fun p hp => (by cases hp), over_func, rfl, rfl, rfl⟩ ⟨Nat.add_zero _, Nat.le_trans (Nat.le_of_lt lt1) (Nat.le_of_lt sz2)⟩ (fun m k' sw Hw s' fl hn hs => ?_) I2 hq
      have fin : ∀ (sw : Shared) (Hw H' : Hp) (m : Nat) (σ' : L2.St) (s' : Shared) (r : Result), m = 0 → Inv ((gbOf P w K mg base N qual scope f cdv Aw out2 s.heap.objs.size [(s1.heap.objs.size, go)]).cx sw Hw) [] σ' H' s' → Z.guar Hw H' → (r = .ok (.ret .none) ∨ r = .ok .next) →
          GPh (gbOf P w K mg base N qual scope f cdv Aw out2 s.heap.objs.size [(s1.heap.objs.size, go)]) Aw Z m Hw sw (.ret r) s' := fun sw Hw H' m σ' s' r hm I' hgu hr => by
        subst hm
        exact ⟨hr, H', Inv.gout ok I', hgu⟩
      cases fl with
      | next =>
        obtain ⟨σ', H', I', hk', hgu⟩ := hs
        have hm : m = 0 := by have := hn.1; omega
        exact sq_end (.ok (.ret .none)) (fin sw Hw H' m σ' s' _ hm I' hgu (.inl rfl))
      | brk => obtain ⟨_, _, _, q⟩ := hs; exact q.elim
      | cont => obtain ⟨_, _, _, q⟩ := hs; exact q.elim
      | ret u =>
        obtain ⟨v, σ', H', I', rv, ev, hk', hgu⟩ := hs
        subst ev
        obtain rfl : u = Value.none := rv
        have hm : m = 0 := by have := hn.1; omega
        exact sq_end (.ok (.ret .none)) (fin sw Hw H' m σ' s' _ hm I' hgu (.inl rfl))
  exact made _ _ _ _ rfl rfl rfl fun h => Heap.get?_push_size _ rfl
/-! ### next -/
theorem wpAny_wake {M : Model} {A : Around} {Ph : EndQ} {E : Value → Shared → Prop} {s : Shared} {g : Nat} {gs : GenState} {l : List Value} {α : Type} {k : GenResult → Sem α} {Q : α → Shared → Prop} (hg : s.gens[g]? = some gs) (hgo : GGo M A Ph gs (s.setGen g .running))
    (hE : ∀ e s₁, e.quiet = true → s.gens.size ≤ s₁.gens.size → Ph e s₁ → wpAny M A (k e.result) Q E (s₁.setGen g e.genState)) : wpAny M A (.resume g (.send .none) l k) Q E s := by
  intro Γ p hΓ
  rw [Sem.wp_resume]
  cases gs with
  | fresh c =>
    obtain ⟨e₁, s₁, h1, h2, h3⟩ := hgo (Γ.wake c p) p rfl (hΓ.wake c p)
    exact ⟨e₁.result, s₁.setGen g e₁.genState, by unfold Wakes; rw [hg]; exact ⟨e₁, s₁, h1, h2, rfl, rfl⟩, hE e₁ s₁ h2 (by have := runs_gsz h1; rw [setGen_size] at this; exact this) h3 Γ p hΓ⟩
  | suspended k₀ l₀ c₀ p₀ fs₀ cl =>
    obtain ⟨e₁, s₁, h1, h2, h3⟩ := hgo (Γ.wake c₀ p) p₀ rfl (hΓ.wake c₀ p)
    exact ⟨e₁.result, s₁.setGen g e₁.genState, by unfold Wakes; rw [hg]; exact ⟨e₁, s₁, h1, h2, rfl, rfl⟩, hE e₁ s₁ h2 (by have := runs_gsz h1; rw [setGen_size] at this; exact this) h3 Γ p hΓ⟩
  | running => exact hgo.elim
  | finished => exact hgo.elim
section
variable {P : Program} {w : World} {A : Around} {E : Value → Shared → Prop} {s : Shared}
theorem next_gf {a : Addr} {g : Nat} {gs : GenState} {Ph : EndQ} {Q : Option Value → Shared → Prop} (hh : A.handled = none) (hl : s.heap.NoLimit) (room : A.depth < recursionLimit) (hg : s.heap.IsGen a g) (hgs : s.gens[g]? = some gs)
    (hgo : GGo (model P w) A.in1 Ph gs (s.setGen g .running))
    (hY : ∀ v gd lv k c p fs s₁, (End.susp v gd lv k c p fs).quiet = true → s.gens.size ≤ s₁.gens.size → Ph (.susp v gd lv k c p fs) s₁ → Q (some v) (s₁.setGen g (End.susp v gd lv k c p fs).genState))
    (hR : ∀ r s₁, Ph (.ret r) s₁ → (r = .ok (.ret .none) ∨ r = .ok .next) ∧ ∀ h', (∀ b o, s₁.heap.get? b = some o → h'.get? b = some o) → Q none { s₁.setGen g .finished with heap := h' }) :
    wpAny (model P w) A (pyNext (.ref a)) Q E s := by
  unfold pyNext
  refine wpAny_bind (wpAny_attempt (wpAny_callSpecial?_slot (name := Str.ofString "__next__") hg.typeIs slot_gen_next (wpAny_call_entry slot_gen_next hg.typeIs entry_gen_next ?_ (args_gen_next _))))
  show wpAny _ A.in1 (Builtin.Generator.genWake (.ref a) (.send .none)) _ _ s
  unfold Builtin.Generator.genWake
  refine wpAny_bind (wpAny_holding (wpAny_genNumber hg (wpAny_bind (wpAny_genState hgs ?_))))
  cases gs with
  | running => exact hgo.elim
  | finished => exact hgo.elim
  | _ =>
    refine wpAny_bind (wpAny_roomToWake hl room ?_)
    show wpAny _ A.in1 (.resume g (.send .none) [] _) _ _ s
    refine wpAny_wake hgs hgo fun e s₁ hq hsz he => ?_
    cases e with
    | ret r =>
      obtain ⟨hr, hP⟩ := hR r s₁ he
      have res : End.result (.ret r) = .returned .none := by rcases hr with hr | hr <;> rw [hr] <;> rfl
      rw [res]
      show wpAny _ A.in1 (newExc (.type "StopIteration") [] >>= _) _ _ _
      refine wpAny_bind ?_
      simp only [newExc, newTuple]
      refine wpAny_bind (wpAny_newObj_type ?_ (by size_fits))
      refine wpAny_bind (m := firstArgMember _ _) (wpAny_of_eq (a := Value.none) (by first | rfl | (simp only [firstArgMember]; rfl)) ?_)
      refine wpAny_newObj_type ?_ (by size_fits)
      simp only [raiseNew]
      refine wpAny_bind (wpAny_bind (wpAny_handled ?_))
      first | rw [show A.in1.handled = none from hh] | rw [hh]
      refine wpAny_throw (wpAny_bind (wpAny_isInstance (T := "StopIteration") (b := true) ⟨_, Heap.get?_push_size _ rfl, rfl⟩ isSubtype_stop ?_))
      exact wpAny_pure (hP _ fun b o hb => Heap.get?_push_of_some _ (Heap.get?_push_of_some _ hb))
    | susp v gd lv k c p fs => exact wpAny_pure ⟨v, rfl, wpAny_pure (hY v gd lv k c p fs s₁ hq hsz he)⟩
end
/-! ### a generator that is walked -/
/-- what its walker knows of it between two turns -/
structure Live (X : Cx) (G : GB) (Z : GP) (a : Addr) (g i : Nat) (H : Hp) (s : Shared) : Prop where
  gen : s.heap.IsGen a g
  go : ∃ gs, s.gens[g]? = some gs ∧ GGo (model X.prog X.w) X.A.in1 (GPh G X.A.in1 Z (Z.len - i) H (s.setGen g .running)) gs (s.setGen g .running)
structure Walked (X : Cx) (G : GB) (a : Addr) (g : Nat) : Prop where
  P : G.P = X.prog
  w : G.w = X.w
  base : G.base = X.base
  outer : G.outer = X.stack
  ok : G.Ok
  pn : ∃ o, G.pn = [(a, o)] ∧ ∀ h : Heap, h.get? a = some o → h.IsGen a g
/-- its own ground is younger than the walker's -/
structure Young (X : Cx) (pins : List (Addr × Obj)) (n0 : Nat) : Prop where
  s0 : X.s_0.heap.objs.size ≤ n0
  loc : X.env.locals < n0
  fs : ∀ b ∈ X.fs, b < n0
  cell : ∀ x c, X.env.cells.lookup x = some c → c < n0
  pin : ∀ p ∈ X.pn ++ pins, p.1 < n0
theorem Inv.young {X : Cx} {pins : List (Addr × Obj)} {σ : L2.St} {H : Hp} {s : Shared} (I : Inv X pins σ H s) : Young X pins s.heap.objs.size where
  s0 := I.sz
  loc := I.lt
  fs := fun b hb => by
    rcases Nat.lt_or_ge b s.heap.objs.size with z | z
    · exact z
    · exact absurd hb (I.nofs z)
  cell := fun x c e => let ⟨v, q⟩ := I.cell x c e; q.lt
  pin := fun p hp => Heap.lt_size (I.pin p hp).1
/-- behind a segment of the generator -/
theorem Inv.segd {X : Cx} {G : GB} {a : Addr} {g : Nat} (W : Walked X G a g) {pins : List (Addr × Obj)} {σ : L2.St} {H H1 : Hp} {s sw s1 s' : Shared} (y : Young X pins G.n0) (I : Inv X pins σ H s) (hsw : sw.heap = s.heap) (how : sw.os = s.os) (o : GOut G sw H H1 s1)
    (hh : ∀ b ob, s1.heap.get? b = some ob → s'.heap.get? b = some ob) (ho : s'.os = s1.os) (hb : AllBare s'.gens) : Inv X pins σ H1 s' := by
  have un : Un (frs X.stack) [] H H1 (cutH G.n0 s.heap) s1.heap := by
    have := o.un
    rw [W.outer, hsw] at this; exact this
  have hok : HOk X.prog X.w H1 s'.heap := by
    have := o.hok
    rw [W.P, W.w] at this; exact this.kept hh
  let ch : List Addr := (List.range s.heap.objs.size).filter fun b => decide (G.n0 ≤ b)
  have inch : ∀ b ob, s.heap.get? b = some ob → b ∉ ch → (cutH G.n0 s.heap).get? b = some ob := fun b ob e hn => by
    refine cutH_in ?_ e
    rcases Nat.lt_or_ge b G.n0 with z | z
    · exact z
    · exact absurd (List.mem_filter.mpr ⟨List.mem_range.mpr (Heap.lt_size e), decide_eq_true z⟩) hn
  refine I.call' (ch := ch) (ho.trans (o.os.trans how)) ⟨fun b ob e n hf hc => ?_, fun b ob e n hf hc => ?_, fun b ob e n hc => ?_, fun b ob e hc => ?_, un.tups, un.frzs, un.tbls⟩ hok hb fun b hb => ?_
  · exact hh _ _ (un.keep b ob (inch b ob e hc) n hf (by simp))
  · obtain ⟨sl, q⟩ := un.slot b ob (inch b ob e hc) n hf (by simp)
    exact ⟨sl, hh _ _ q⟩
  · exact un.free b ob (inch b ob e hc) n (by simp)
  · obtain ⟨o', q⟩ := un.there b ob (inch b ob e hc) (by simp)
    exact ⟨o', hh _ _ q⟩
  · have hn : G.n0 ≤ b := of_decide_eq_true (List.mem_filter.mp hb).2
    refine ⟨.inr (Nat.le_trans y.s0 hn), fun z => ?_, fun x c e z => ?_, fun p hp z => ?_⟩
    · exact absurd (Nat.lt_of_lt_of_le y.loc (z ▸ hn)) (Nat.lt_irrefl _)
    · exact absurd (Nat.lt_of_lt_of_le (y.cell x c e) (z ▸ hn)) (Nat.lt_irrefl _)
    · exact absurd (Nat.lt_of_lt_of_le (y.pin p hp) (z ▸ hn)) (Nat.lt_irrefl _)
/-- the pins of a generator that sleeps -/
def gpl (G : GB) (ip : List (Addr × Obj)) (o : Obj) : List (Addr × Obj) := (G.env.locals, o) :: (G.pn ++ ip)
theorem Inv.gpinned {X : Cx} {G : GB} {pins ip : List (Addr × Obj)} {σ : L2.St} {H : Hp} {s : Shared} {o : Obj} (y : Young X pins G.n0) (g : G.Ok) (I : Inv X pins σ H s) (w : GOwn G ip H s) (ho : s.heap.get? G.env.locals = some o) : Inv X (pins ++ gpl G ip o) σ H s := by
  have old : ∀ b, G.n0 ≤ b → b ≠ X.env.locals ∧ b ∉ X.fs := fun b hb => ⟨fun z => absurd (Nat.lt_of_lt_of_le y.loc (z ▸ hb)) (Nat.lt_irrefl _), fun z => absurd (Nat.lt_of_lt_of_le (y.fs b z) hb) (Nat.lt_irrefl _)⟩
  refine I.pins_of fun p hp => ?_
  rcases List.mem_append.mp hp with hp | hp
  · exact I.pin p (List.mem_append_right _ hp)
  · rcases List.mem_cons.mp hp with hp | hp
    · subst hp
      obtain ⟨o', ho', hd⟩ := w.loc
      rw [ho] at ho'; cases ho'
      obtain ⟨q1, q2⟩ := old _ g.above
      exact ⟨ho, w.free, q1, q2, hd⟩
    · obtain ⟨q1, q2, q3, q4⟩ := w.pin p hp
      obtain ⟨q5, q6⟩ := old _ q3
      exact ⟨q1, q2, q5, q6, q4⟩
theorem Wk.of {X : Cx} {G : GB} {a : Addr} {g : Nat} (W : Walked X G a g) {pins ip : List (Addr × Obj)} {σ : L2.St} {H : Hp} {s1 s s2 : Shared} {o : Obj} (I : Inv X (pins ++ gpl G ip o) σ H s) (ho : s1.heap.get? G.env.locals = some o) (hos : s1.os = X.s_0.os) (h1 : s2.heap = s.heap) (h2 : s2.os = s.os) (h3 : AllBare s2.gens) : Wk G s1 ip H s2 := by
  have pin : ∀ p ∈ gpl G ip o, s.heap.get? p.1 = some p.2 ∧ H p.1 = none := fun p hp => by
    obtain ⟨q1, q2, _⟩ := I.pin p (List.mem_append_right _ (List.mem_append_right _ hp))
    exact ⟨q1, q2⟩
  have ploc := pin _ List.mem_cons_self
  refine ⟨h2.trans (I.os.trans hos.symm), h3, fun o' e => ?_, ploc.2, fun p hp => ?_, ?_, fun b ob e => ?_, ?_, fun b hb => ?_⟩
  · rw [ho] at e; cases e; rw [h1]; exact ploc.1
  · rw [h1]; exact pin p (List.mem_cons_of_mem _ hp)
  · rw [h1, W.P, W.w]; exact I.hok
  · rw [h1]; rw [W.base] at e; exact I.bs b ob e
  · rw [h1, W.base, W.outer]; exact I.stack
  · rw [W.outer] at hb; exact I.stkFree b hb
/-! ### for x in f(..) -/
abbrev TGz := L2.St → Hp → (GP → Hp → Prop) → Prop
structure PGz (X : Cx) (k : Nat) (e : Expr) (tg : TGz) : Prop where
  run : ∀ (pins : List (Addr × Obj)) (s : Shared) (σ : L2.St) (H : Hp) (R : GP → Hp → Prop), Inv X pins σ H s → tg σ H R → wpAny (model X.prog X.w) X.A (eval e X.env) (fun u s' => ∃ H1 sc Z, Inv X pins σ H1 sc ∧ GMk X.prog X.w X.base k H1 sc Z u s' ∧ R Z H1) X.xe s
def tCallZ (sp : SpF) (dvs : List V) (t : TA) : TGz := fun σ H R => t σ H fun vs H1 => ∃ Z, sp (vs ++ dvs) H1 Z ∧ R Z H1
section
variable {X : Cx} {k : Nat} {f : Addr} {fd : FuncData} {ps : List Str} {sp : SpF} {dvs : List V} {ds : List Value} {x : Str} {p pos' : Pos}
theorem pgz_call {e : Expr} {es : List Expr} {t : TA} (F : GFn X.prog X.w X.K X.mg X.base k f fd ps sp) (hr : Room k X.A) (hg : Gl X x) (hm : X.mg x = some (.ref f)) (hk : PySem.W.keepIn X.K (.ref f) = true) (hb : Binds X.K fd ps ds) (hd : Vals dvs ds)
    (ha : PA X (e :: es) t) (hdb : (x == ("__debug__" : Str)) = false := by decide) (he : starEach (e :: es) X.env = (false, eval e X.env) :: starEach es X.env := by rfl) (hpl : (backTo pos' (starEach es X.env)).any (·.1) = false := by rfl) :
    PGz X k (.Call (.Name x p) (e :: es) [] pos') (tCallZ sp dvs t) := by
  refine ⟨fun pins s σ H R I h => ?_⟩
  refine wpAny_Call_Name_kw (ld_glob I hg hm ?_ hdb)
  refine PySem.W.callWith_K (h₀ := X.base) I.ok.mod.kin hk (thn (ha.run pos' pins s σ H _ I h) fun us s1 ⟨vs, H1, I1, r, Z, q1, q2⟩ => ⟨I1.kIn, ?_⟩) he hpl
  have r2 : Vals (vs ++ dvs) (us ++ ds) := r.append hd
  have hl2 : (us ++ ds).length = ps.length := by rw [← r2.length]; exact F.len _ _ _ q1
  refine wpAny_call (codeAny_mono (F.run X.A X.stack s1 H1 ⟨us, []⟩ (us ++ ds) (vs ++ dvs) Z hr I1.env0 (hb s1 us I1.kIn hl2) r2 q1) fun r s' hq => ?_)
  cases r with
  | error e => exact False.elim hq
  | ok fl =>
    cases fl with
    | ret u => exact ⟨H1, s1, Z, I1, hq, q2⟩
    | next => exact False.elim hq
    | brk => exact False.elim hq
    | cont => exact False.elim hq
/-- the loop's state, by the turn -/
def tForG (tz : TGz) (g : TG) (tb : TS) : TS := fun D σ H => tz σ H fun Z H1 => ∃ W : Nat → L2.St → Hp → Prop, W 0 σ H1 ∧ ∀ i σ H, W i σ H →
  (i = Z.len → ∀ H', Z.guar H H' → D.nx σ H') ∧
  (i < Z.len → ∀ x H', Z.guar H H' → Z.item i x H' → g x σ H' fun σ2 H2 => tb { D with nx := fun σ3 H3 => Z.rely H' H3 ∧ W (i + 1) σ3 H3, ct := fun σ3 H3 => Z.rely H' H3 ∧ W (i + 1) σ3 H3, bk := D.nx } σ2 H2)
theorem ps_forG {tg iter : Expr} {body : List Stmt} {tz : TGz} {g : TG} {tb : TS} {pos : Pos} (hr : Room (k + 1) X.A) (hi : PGz X k iter tz) (hg : PG (nox X) tg g) (hb : PSs (nox X) body tb)
    (hs : ∀ x, foldedSetIterable iter X.env x = pure x := by intro _; rfl) : PS X (.For tg iter body [] pos) (tForG tz g tb) := by
  refine ⟨fun pins s σ H D I h => ?_⟩
  refine wpAny_For (thn (hi.run pins s σ H _ I h) fun u s1 h1 => ?_) hs
  obtain ⟨H1, sc, Z, Ic, hG, W, w0, turn⟩ := h1
  obtain ⟨a, gn, c0, rfl, ha1, ha2, hgen, hgs, hos, hba, hli, hkp, wake⟩ := hG
  have I1 : Inv X pins σ H1 s1 := Ic.call' (ch := []) hos (Un.kept hkp) (Ic.hok.kept hkp) hba fun b z => by simp at z
  refine wpAny_pyIter_gen (s := s1) hgen ?_
  -- the generator's ground
  have bs0 : AllBare (s1.setGen gn .running).gens := allBare_setGen hba rfl
  have older : ∀ b ∈ frs X.stack, b < sc.heap.objs.size ∧ H1 b = none := fun b hb => by
    refine ⟨?_, Ic.stkFree b hb⟩
    rcases List.mem_cons.mp (Ic.stkSub b hb) with z | z
    · rw [z]; exact Ic.lt
    · exact (Inv.young Ic).fs b z
  obtain ⟨G, eP, ew, eb, eo, en, epn, gok, hsq⟩ := wake X.A.in1 X.stack (s1.setGen gn .running) H1 hr.in1 I1.ok.frames I1.stack older (fun b o e => e) hos bs0 (.inl rfl) I1.hok (fun b hb _ => Ic.hok.fresh hb) fun b o e => (I1.bs b o e).2
  have Wd : Walked X G a gn := ⟨eP, ew, eb, eo, gok, epn⟩
  have yg : Young X pins G.n0 := by rw [en]; exact Inv.young Ic
  have an : ∀ {h : Heap} {o : Obj}, G.pn = [(a, o)] → True := fun _ => trivial
  refine codeAny_forLoop_any (fun n s' => ∃ i σ' H', n = Z.len + 1 - i ∧ i ≤ Z.len ∧ Inv X pins σ' H' s' ∧ Live X G Z a gn i H' s' ∧ W i σ' H') ?_ (Z.len + 1) ⟨0, σ, H1, rfl, Nat.zero_le _, I1, ⟨hgen, _, hgs, by rw [Nat.sub_zero]; exact hsq⟩, w0⟩
  rintro n s3 ⟨i, σ3, H3, rfl, hi3, I3, ⟨lg, gs, hgs3, lgo⟩, w3⟩
  obtain ⟨stop, step⟩ := turn i σ3 H3 w3
  refine wpAny_mono (next_gf (Q := fun r s' => match r with
      | none => i = Z.len ∧ ∃ H', Z.guar H3 H' ∧ Inv X pins σ3 H' s'
      | some v => i < Z.len ∧ ∃ s1' x H' ip gd lv kk c p fs, (End.susp v gd lv kk c p fs).quiet = true ∧ s' = s1'.setGen gn (End.susp v gd lv kk c p fs).genState ∧ gn < s1'.gens.size ∧ RelV x v ∧ GOut G (s3.setGen gn .running) H3 H' s1' ∧ GOwn G ip H' s1' ∧ Z.item i x H' ∧ Z.guar H3 H' ∧
          ∀ H2 s2, Wk G s1' ip H2 s2 → Z.rely H' H2 → Sq (model X.prog X.w) X.A.in1 (GPh G X.A.in1 Z (Z.len - (i + 1)) H2 s2) c (kk (.send .none)) fs s2)
      hr.hd I3.nolimit hr.depth lg hgs3 lgo (fun v gd lv kk c p fs s₁ hq hsz hph => ?_) (fun r s₁ hph => ?_)) (fun r s4 h4 => ?_) (fun _ _ z => z)
  · cases em : Z.len - i with
    | zero => rw [em] at hph; exact hph.elim
    | succ m =>
      rw [em] at hph
      obtain ⟨x, H', ip, rv, go1, go2, it, gu, cont⟩ := hph
      refine ⟨by omega, s₁, x, H', ip, gd, lv, kk, c, p, fs, hq, rfl, Nat.lt_of_lt_of_le ?_ hsz, rv, go1, go2, by rw [show Z.len - (m + 1) = i by omega] at it; exact it, gu, fun H2 s2 wk rl => ?_⟩
      · rcases Nat.lt_or_ge gn s3.gens.size with z | z
        · exact z
        · rw [Array.getElem?_eq_none z] at hgs3; cases hgs3
      · have q := cont H2 s2 wk rl
        rw [eP, ew] at q
        rw [show Z.len - (i + 1) = m by omega]; exact q
  · cases em : Z.len - i with
    | succ m => rw [em] at hph; exact hph.elim
    | zero =>
      rw [em] at hph
      obtain ⟨hr', H', go1, gu⟩ := hph
      refine ⟨hr', fun h' hk => ⟨by omega, H', gu, ?_⟩⟩
      exact Inv.segd (sw := s3.setGen gn .running) Wd yg I3 rfl rfl go1 (s' := { s₁.setGen gn .finished with heap := h' }) hk rfl (allBare_setGen go1.bare rfl)
  · cases r with
    | none =>
      obtain ⟨e, H', gu, I4⟩ := h4
      exact wpAny_execs_nil ⟨σ3, H', I4, stop e H' gu⟩
    | some v =>
      obtain ⟨hlt, s1', x, H', ip, gd, lv, kk, c, p, fs, hq, rfl, gin, rv, go1, go2, it, gu, cont⟩ := h4
      obtain ⟨oL, hoL, _⟩ := go2.loc
      have bq : (End.susp v gd lv kk c p fs).genState.bare = true := End.bare_of_quiet hq
      have I4 : Inv X pins σ3 H' (s1'.setGen gn (End.susp v gd lv kk c p fs).genState) := Inv.segd (sw := s3.setGen gn .running) Wd yg I3 rfl rfl go1 (fun b o e => e) rfl (allBare_setGen go1.bare bq)
      have hos1 : s1'.os = X.s_0.os := go1.os.trans I3.os
      have I5 := Inv.gpinned (ip := ip) yg gok I4 ⟨go2.loc, go2.free, go2.pin⟩ hoL
      have hat : (s1'.setGen gn (End.susp v gd lv kk c p fs).genState).gens[gn]? = some (End.susp v gd lv kk c p fs).genState := by
        show (s1'.gens.setIfInBounds gn _)[gn]? = _
        simp [gin]
      have isg : (s1'.setGen gn (End.susp v gd lv kk c p fs).genState).heap.IsGen a gn := by
        obtain ⟨o, e1, e2⟩ := epn
        exact e2 _ (go1.pn (a, o) (by rw [e1]; exact List.mem_cons_self))
      obtain ⟨og, nmg, qng, hog, hcg, hdg, _⟩ := id isg
      refine go_of (n := "generator") hog hcg hdg (by decide) ?_
      have b5 : Inv (nox X) (pins ++ gpl G ip oL) σ3 H' (sBad (s1'.setGen gn (End.susp v gd lv kk c p fs).genState)) := Inv.nox (Inv.regen I5 rfl rfl (bare_bad I5.bare))
      refine wpAny_mono (wpAny_kept (E := fun _ _ => False) (hg.run _ _ σ3 H' x v _ b5 rv (step hlt x H' gu it))) (fun _ s6 h6 => ?_) fun _ _ z => z.elim
      obtain ⟨s6r, ⟨σ6, H6, I6, q6⟩, z1, z2, z3, z4⟩ := h6
      have g6 := z4 gn _ hat rfl
      have I6' : Inv X (pins ++ gpl G ip oL) σ6 H6 s6 := Inv.regen (Inv.unnox I6) z1 z2 (z3 I6.bare)
      have b6 : Inv (nox X) (pins ++ gpl G ip oL) σ6 H6 (sBad s6) := Inv.nox (Inv.regen I6' rfl rfl (bare_bad I6'.bare))
      refine wpAny_mono (wpAny_kept (E := fun _ _ => False) (hb.run _ _ σ6 H6 _ b6 q6)) (fun fl s7 h7 => ?_) fun _ _ z => z.elim
      obtain ⟨s7r, q7, y1, y2, y3, y4⟩ := h7
      have g7 := y4 gn _ g6 rfl
      have back : ∀ {σ' : L2.St} {H'' : Hp}, Inv (nox X) (pins ++ gpl G ip oL) σ' H'' s7r → Inv X (pins ++ gpl G ip oL) σ' H'' s7 := fun {σ' H''} J => Inv.regen (Inv.unnox J) y1 y2 (y3 J.bare)
      have again : ∀ {σ' : L2.St} {H'' : Hp}, Inv (nox X) (pins ++ gpl G ip oL) σ' H'' s7r → Z.rely H' H'' → W (i + 1) σ' H'' → ∃ m, m < Z.len + 1 - i ∧ ∃ i σ' H', m = Z.len + 1 - i ∧ i ≤ Z.len ∧ Inv X pins σ' H' s7 ∧ Live X G Z a gn i H' s7 ∧ W i σ' H' := fun {σ' H''} J rl w7 => by
        have J7 := back J
        refine ⟨Z.len + 1 - (i + 1), by omega, i + 1, σ', H'', rfl, by omega, J7.unpinned, ⟨?_, _, g7, ?_⟩, w7⟩
        · obtain ⟨o, e1, e2⟩ := epn
          exact e2 _ (J7.pin (a, o) (List.mem_append_right _ (List.mem_append_right _ (List.mem_cons_of_mem _ (List.mem_append_left _ (by rw [e1]; exact List.mem_cons_self)))))).1
        · exact cont H'' _ (Wk.of Wd J7 hoL hos1 rfl rfl (allBare_setGen J7.bare rfl)) rl
      cases fl with
      | next => obtain ⟨σ', H'', J, rl, w7⟩ := q7; exact again J rl w7
      | cont => obtain ⟨σ', H'', J, rl, w7⟩ := q7; exact again J rl w7
      | brk => obtain ⟨σ', H'', J, q⟩ := q7; exact ⟨σ', H'', (back J).unpinned, q⟩
      | ret u => obtain ⟨v', σ', H'', J, r', q⟩ := q7; exact ⟨v', σ', H'', (back J).unpinned, r', q⟩
end
end Hue

set_option Elab.async false
set_option linter.all false
set_option maxRecDepth 100000
set_option maxHeartbeats 1000000
/-! small sets of tuples of ints and texts: add, sorted -/
namespace Hue
open PySem PySem.Spec PyProof.Rows L2
abbrev MKey := List Key
abbrev mhash (P : Program) (w : World) (k : MKey) : Int := tupleKeyHash (mixKind P w) k
/-- the tuple at b has these items -/
abbrev IsM (P : Program) (w : World) (h : Heap) (k : MKey) (b : Addr) : Prop := IsTupleKey (mixKind P w) h k b
section
variable {P : Program} {w : World} {A : Around} {E : Value → Shared → Prop} {s : Shared}
theorem m_items {k : MKey} {vs : List Value} (h : ItemsAre (mixKind P w) k vs) : ∀ v ∈ vs, (∀ n, ofAClassStatement n v = pure false) ∧ ∀ n, ∃ b, hashByValue n v = pure b := by
  induction h with
  | nil => intro v hv; cases hv
  | @cons k0 v' ks vs h1 _ ih =>
    intro v hv
    rcases List.mem_cons.mp hv with e | hv
    · subst e
      rcases keyIs_shape h1 with ⟨i, t, _, rfl⟩ | ⟨x, t, _, rfl⟩
      · exact ⟨fun n => by cases n <;> rfl, fun n => ⟨_, hashByValue_scannable n rfl⟩⟩
      · exact ⟨fun n => by cases n <;> rfl, fun n => ⟨_, hashByValue_scannable n rfl⟩⟩
    · exact ih v hv
theorem m_class {k : MKey} {b : Addr} {Q : Bool → Shared → Prop} (hk : IsM P w s.heap k b) (h : Q false s) : wpAny (model P w) A (ofAClassStatement 8 (.ref b)) Q E s := by
  have hT := hk.typeIs
  obtain ⟨o, items, n, ho, _, hd, hi⟩ := hk
  unfold ofAClassStatement
  refine wpAny_bind (wpAny_typeOf hT ?_)
  have e : (("tuple" : String) == "tuple") = true := by decide
  simp only [e, if_true, Bool.not_true, Bool.false_eq_true, if_false]
  show wpAny _ _ (seqItems? (.ref b) >>= _) _ _ s
  refine wpAny_bind (wpAny_seqItems ho hd ?_)
  refine wpAny_bind ?_
  show wpAny _ _ (forIn items _ _) _ _ s
  rw [← Array.forIn_toList]
  refine wpAny_forIn_list _ (fun rest r s' => r.1 = none ∧ s' = s ∧ ∀ v ∈ rest, v ∈ items.toList) _ ?_ ?_ _ _ ⟨rfl, rfl, fun v hv => hv⟩
  · rintro v rest r s' ⟨hr, rfl, hall⟩
    rw [(m_items hi v (hall v List.mem_cons_self)).1]
    refine wpAny_bind (wpAny_pure ?_)
    simp only [Bool.false_eq_true, if_false]
    exact wpAny_pure ⟨rfl, rfl, fun u hu' => hall u (List.mem_cons_of_mem _ hu')⟩
  · rintro ⟨r1, r2⟩ s' ⟨hr, rfl, _⟩
    simp only at hr
    subst hr
    exact wpAny_pure h
theorem m_byValue {k : MKey} {b : Addr} {Q : Bool → Shared → Prop} (hk : IsM P w s.heap k b) (h : ∀ b, Q b s) : wpAny (model P w) A (hashByValue 8 (.ref b)) Q E s := by
  have hT := hk.typeIs
  obtain ⟨o, items, n, ho, _, hd, hi⟩ := hk
  unfold hashByValue
  refine wpAny_bind (wpAny_specialOf hT F.slot_tuple_hash.lookup ?_)
  show wpAny _ _ (seqItems? (.ref b) >>= _) _ _ s
  refine wpAny_bind (wpAny_seqItems ho hd ?_)
  refine wpAny_bind ?_
  show wpAny _ _ (forIn items _ _) _ _ s
  rw [← Array.forIn_toList]
  refine wpAny_forIn_list _ (fun rest r s' => r.1 = none ∧ s' = s ∧ ∀ v ∈ rest, v ∈ items.toList) _ ?_ ?_ _ _ ⟨rfl, rfl, fun v hv => hv⟩
  · rintro v rest r s' ⟨hr, rfl, hall⟩
    obtain ⟨c, hc⟩ := (m_items hi v (hall v List.mem_cons_self)).2 7
    rw [hc]
    refine wpAny_bind (wpAny_pure ?_)
    cases c with
    | true =>
      simp only [Bool.not_true, Bool.false_eq_true, if_false]
      exact wpAny_pure ⟨rfl, rfl, fun u hu' => hall u (List.mem_cons_of_mem _ hu')⟩
    | false =>
      simp only [Bool.not_false, if_true]
      exact wpAny_pure (wpAny_pure (h _))
  · rintro ⟨r1, r2⟩ s' ⟨hr, rfl, _⟩
    simp only at hr
    subst hr
    exact wpAny_pure (h _)
/-- nothing of the search can be seen -/
theorem m_seen {k : MKey} {b : Addr} {Q : Bool → Shared → Prop} (hk : IsM P w s.heap k b) {ys : List Value} (hy : ∀ y ∈ ys, ∃ k' c, y = Value.ref c ∧ IsM P w s.heap k' c) (h : Q false s) :
    wpAny (model P w) A (searchCouldBeSeen (.ref b) ys) Q E s := by
  unfold searchCouldBeSeen
  refine wpAny_bind ?_
  refine wpAny_forIn_list _ (fun rest r s' => r.1 = none ∧ s' = s ∧ ∀ y ∈ rest, ∃ k' c, y = Value.ref c ∧ IsM P w s.heap k' c) _ ?_ ?_ _ _ ⟨rfl, rfl, hy⟩
  · rintro v rest r s' ⟨hr, rfl, hall⟩
    obtain ⟨k', c, rfl, hc⟩ := hall v List.mem_cons_self
    have more : ∀ y ∈ rest, ∃ k' c, y = Value.ref c ∧ IsM P w s'.heap k' c := fun u hu' => hall u (List.mem_cons_of_mem _ hu')
    dsimp only
    by_cases hv : (b == c || (carriedByValue (.ref b) && carriedByValue (.ref c))) = true
    · exact wp_if_pos hv (wpAny_pure ⟨rfl, rfl, more⟩)
    · refine wp_if_neg hv (wpAny_bind (wpAny_eqIsQuiet_tuple hk ?_))
      simp only [Bool.not_true, Bool.false_eq_true, if_false]
      refine wpAny_bind (wpAny_eqIsQuiet_tuple hc ?_)
      simp only [Bool.not_true, Bool.false_eq_true, if_false]
      refine wpAny_bind (m_class hk ?_)
      simp only [Bool.false_eq_true, if_false]
      refine wpAny_bind (m_class hc ?_)
      simp only [Bool.false_eq_true, if_false]
      exact wpAny_pure ⟨rfl, rfl, more⟩
  · rintro ⟨r1, r2⟩ s' ⟨hr, rfl, _⟩
    simp only at hr
    subst hr
    exact wpAny_pure h
/-! ### the set -/
abbrev MRow := Addr × MKey
def mrows (P : Program) (w : World) (L : List MRow) : List (Int × Value) := L.map fun p => (mhash P w p.2, Value.ref p.1)
/-- at most four members, in a table of eight -/
structure MAt (P : Program) (w : World) (h : Heap) (a : Addr) (L : List MRow) (es : Array (Int × Value)) (ep : Nat) (t : SetTable) : Prop where
  ob : ∃ o, h.get? a = some o ∧ o.ExactSet ∧ o.data = .set es ep t
  rows : es.toList = mrows P w L
  tab : TabOk t (L.map fun p => mhash P w p.2)
  nd : (L.map (·.2)).Nodup
  led : w.params.followText "set-order" = true ∨ t.led = true
  seven : t.mask = 7
  few : L.length ≤ 4
def MTups (P : Program) (w : World) (h : Heap) (L : List MRow) : Prop := ∀ p ∈ L, IsM P w h p.2 p.1
variable {a : Addr} {L : List MRow} {es : Array (Int × Value)} {ep : Nat} {t : SetTable}
theorem MAt.size (R : MAt P w s.heap a L es ep t) : es.size = L.length := by
  have h := congrArg List.length R.rows
  rw [mrows, Array.length_toList, List.length_map] at h
  exact h
theorem MAt.fits (R : MAt P w s.heap a L es ep t) : t.fits es.size = true := by
  have h1 := R.tab.sz
  rw [List.length_map] at h1
  have h2 := R.size
  have h3 := R.few
  have h4 := R.seven
  unfold SetTable.fits SetTable.fill
  rw [R.tab.dm, Bool.and_eq_true, beq_iff_eq, decide_eq_true_eq]
  show t.place.size = es.size ∧ t.place.size + 0 ≤ t.mask
  omega
theorem MAt.entry (R : MAt P w s.heap a L es ep t) {i : Nat} {p : MRow} (h : L[i]? = some p) : es[i]? = some (mhash P w p.2, Value.ref p.1) := by
  rw [← Array.getElem?_toList, R.rows, mrows, List.getElem?_map, h]
  rfl
theorem MAt.gw (R : MAt P w s.heap a L es ep t) : ¬ t.gaveWay = true := by
  unfold SetTable.gaveWay
  rw [R.seven]
  decide
/-- the n-th state of a search that begins anew -/
abbrev stepAt (t : SetTable) (h : Int) (n : Nat) : SetTable.Probe := nth t.mask (runAt t.mask (SetTable.bits h % (t.mask + 1)) (SetTable.bits h)) n
theorem step_clean (t : SetTable) (h : Int) (n : Nat) : (stepAt t h n).dummy = none := by
  have key : ∀ (n : Nat) (p : SetTable.Probe), p.dummy = none → (nth t.mask p n).dummy = none := by
    intro n
    induction n with
    | zero => intro p h; exact h
    | succ n ih =>
      intro p h
      refine ih (adv t.mask p) ?_
      unfold adv
      split <;> exact h
  exact key n _ rfl
theorem step_more (t : SetTable) (h : Int) (c q : Nat) : nth t.mask (stepAt t h c) q = stepAt t h (c + q) := (nth_add t.mask c _ q).symm
/-- what a search that adds k finds, from its c-th step on: K is its first empty place -/
theorem m_search (R : MAt P w s.heap a L es ep t) (hL : MTups P w s.heap L) {x : Addr} {k : MKey} (hx : IsM P w s.heap k x) (hu : A.units < cLine) {K : Nat} (hKf : K < 10 * SetTable.turns t.mask)
    (hK : way t.mask (mhash P w k) K ∉ t.place.toList) (hKb : ∀ c, c < K → way t.mask (mhash P w k) c ∈ t.place.toList) {Q : SetFound → Shared → Prop}
    (hin : k ∈ L.map (·.2) → Q (.there none) s) (hout : k ∉ L.map (·.2) → Q (.free (way t.mask (mhash P w k) K) false) s) :
    ∀ (f c : Nat) (stand : Option SetTable.Probe), stand.getD (t.probeStart (mhash P w k)) = stepAt t (mhash P w k) c → c ≤ K → K - c < f →
      (∀ (i : Nat) p, L[i]? = some p → p.2 = k → ∃ c', c ≤ c' ∧ c' < K ∧ t.place.toList[i]? = some (way t.mask (mhash P w k) c')) →
      wpAny (model P w) A (setSearchFrom a (.ref x) (mhash P w k) true f stand) Q E s
  | 0, c, stand, _, _, hf, _ => absurd hf (Nat.not_lt_zero _)
  | f + 1, c, stand, hst, hc, hf, hre => by
    generalize hh : mhash P w k = hk at hKf hK hKb hout hst hre ⊢
    obtain ⟨o, ho, hex, hd⟩ := R.ob
    rw [setSearchFrom_succ]
    refine wpAny_bind (wpAny_setState_of ho hd R.fits ?_)
    dsimp only
    refine wp_if_neg R.gw ?_
    try refine wpAny_bind (wpAny_pure ?_)
    have at_q : ∀ q, (nth t.mask (stepAt t hk c) q).j = way t.mask hk (c + q) := fun q => congrArg SetTable.Probe.j (step_more t hk c q)
    have spec := go_spec t R.tab.ris R.tab.dm (fun i => (es[i]?.map (·.1)).getD 0) hk (10 * SetTable.turns t.mask) (K - c) _ (step_clean t hk c) (by omega)
      (fun q hq => by rw [at_q]; exact hKb (c + q) (by omega)) (by rw [at_q, show c + (K - c) = K by omega]; exact hK)
    have hashAt : ∀ (i : Nat) p, L[i]? = some p → (fun i => (es[i]?.map (·.1)).getD 0) i = mhash P w p.2 := fun i p hp => by
      show (es[i]?.map (·.1)).getD 0 = _
      rw [R.entry hp] <;> rfl
    rcases spec with ⟨q, i, hq, hi, hhash, hno, hpr⟩ | ⟨hno, hpr⟩
    · have hpr' : t.probe (fun i => (es[i]?.map (·.1)).getD 0) hk (stand.getD (t.probeStart hk)) = some (.candidate (way t.mask hk (c + q)) i (stepAt t hk (c + (q + 1)))) := by
        rw [hst, ← at_q, ← step_more]
        exact hpr
      rw [hpr']
      dsimp only
      rw [at_q] at hi
      have hil : i < L.length := by
        have h1 : i < t.place.toList.length := (List.getElem?_eq_some_iff.mp hi).1
        have h2 := R.tab.sz
        rw [List.length_map] at h2
        rw [Array.length_toList] at h1
        omega
      have hp : L[i]? = some L[i] := List.getElem?_eq_getElem hil
      generalize hpe : L[i] = p at hp
      have hmem : p ∈ L := List.mem_of_getElem? hp
      have rest : wpAny (model P w) A (searchRest a (.ref x) hk true f es t (way t.mask hk (c + q)) i (stepAt t hk (c + (q + 1)))) Q E s := by
        unfold searchRest
        rw [R.entry hp]
        dsimp only
        refine wpAny_bind (wpAny_holding (wpAny_eqBool_tuple hu (hL p hmem) hx ?_))
        refine wpAny_bind (wpAny_setState_of ho hd R.fits ?_)
        dsimp only
        by_cases hkk : p.2 = k
        · exact wp_if_pos (by simp [hkk]) (wpAny_pure (hin (List.mem_map.mpr ⟨p, hmem, hkk⟩)))
        · refine wp_if_neg (by simp [hkk]) ?_
          try refine wpAny_bind (wpAny_pure ?_)
          rw [sameMem]
          dsimp only
          have hsl : t.slot (way t.mask hk (c + q)) = .live i := slot_live R.tab.ris hi
          simp only [if_true, hsl, R.entry hp]
          refine wpAny_bind (wpAny_isSame_ref_self (wpAny_bind (wpAny_pure ?_)))
          simp only [if_true]
          refine wp_if_neg (by simp [hkk]) ?_
          subst hh
          refine m_search R hL hx hu hKf hK hKb hin hout f (c + (q + 1)) _ rfl (by omega) (by omega) fun i0 p0 h0 hk0 => ?_
          obtain ⟨c', a1, a2, a3⟩ := hre i0 p0 h0 hk0
          refine ⟨c', ?_, a2, a3⟩
          rcases Nat.lt_trichotomy c' (c + q) with z | z | z
          · exact absurd ((hashAt i0 p0 h0).trans (congrArg (mhash P w) hk0)) (hno (c' - c) i0 (by omega) (by rw [at_q, show c + (c' - c) = c' by omega]; exact a3))
          · rw [z] at a3
            have s0 := slot_live R.tab.ris a3
            rw [hsl] at s0
            injection s0 with s0
            rw [← s0, hp] at h0
            exact absurd ((congrArg Prod.snd (Option.some.inj h0)).trans hk0) hkk
          · omega
      by_cases hl : t.led = true
      · refine wp_if_neg (by simp [hl]) ?_
        try refine wpAny_bind (wpAny_pure ?_)
        exact rest
      · refine wp_if_pos (by simp [hl]) ?_
        refine wpAny_bind (m_seen hx (fun y hy => ?_) ?_)
        · obtain ⟨e, he, ee⟩ := List.mem_map.mp hy
          have he1 : e ∈ es ∧ e.1 = hk := by simpa using he
          have he2 : e ∈ es.toList := by simpa using he1.1
          rw [R.rows] at he2
          obtain ⟨p2, hp2, e2⟩ := List.mem_map.mp he2
          exact ⟨p2.2, p2.1, by rw [← ee, ← e2], hL p2 hp2⟩
        · refine wp_if_neg (by decide) ?_
          try refine wpAny_bind (wpAny_pure ?_)
          exact rest
    · have hpr' : t.probe (fun i => (es[i]?.map (·.1)).getD 0) hk (stand.getD (t.probeStart hk)) = some (.empty (way t.mask hk K) none) := by
        have e2 : way t.mask hk K = (nth t.mask (stepAt t hk c) (K - c)).j := by rw [at_q, show c + (K - c) = K by omega]
        rw [hst, e2]
        exact hpr
      rw [hpr']
      dsimp only
      refine wpAny_pure (hout fun hm => ?_)
      obtain ⟨p0, h0, hk0⟩ := List.mem_map.mp hm
      obtain ⟨i0, hi0, e0⟩ := List.getElem_of_mem h0
      have h00 : L[i0]? = some p0 := by rw [List.getElem?_eq_getElem hi0, e0]
      obtain ⟨c', a1, a2, a3⟩ := hre i0 p0 h00 hk0
      exact absurd (((hashAt i0 p0 h00).trans (congrArg (mhash P w) hk0)).trans hh) (hno (c' - c) i0 (by omega) (by rw [at_q, show c + (c' - c) = c' by omega]; exact a3))
theorem isM_same {h h' : Heap} {k : MKey} {a b : Addr} {o : Obj} {es : Array (Int × Value)} {ep : Nat} {t : SetTable} (hb : IsM P w h k b) (ho : h.get? a = some o) (hd : o.data = .set es ep t) (hs : Heap.SameBut a h h') : IsM P w h' k b := by
  obtain ⟨o', items, n, ho', hc, hd', hi⟩ := hb
  have hne : b ≠ a := by
    rintro rfl
    obtain rfl : o' = o := Option.some.inj (ho'.symm.trans ho)
    rw [hd] at hd'
    exact nomatch hd'
  exact ⟨o', items, n, (hs.2 b hne).trans ho', hc, hd', hi⟩
theorem isM_keep {h h' : Heap} {k : MKey} {b : Addr} (x : IsM P w h k b) (hk : ∀ c o, h.get? c = some o → h'.get? c = some o) : IsM P w h' k b := by
  obtain ⟨o, items, n, ho, r⟩ := x
  exact ⟨o, items, n, hk b o ho, r⟩
/-- set.add's core -/
theorem m_put (R : MAt P w s.heap a L es ep t) (hL : MTups P w s.heap L) {x : Addr} {k : MKey} (hx : IsM P w s.heap k x) (hu : A.units < cLine) (hfew : L.length < 4) {Q : Bool → Shared → Prop}
    (hQ : ∀ b h' L' es' ep' t', Heap.SameBut a s.heap h' → MAt P w h' a L' es' ep' t' → (k ∈ L.map (·.2) → L' = L) → (k ∉ L.map (·.2) → L'.Perm ((x, k) :: L)) → Q b { s with heap := h' }) :
    wpAny (model P w) A (setAddHashed a (.ref x) (mhash P w k)) Q E s := by
  obtain ⟨o, ho, hex, hd⟩ := R.ob
  have hsl := R.size
  have h7 := R.seven
  unfold setAddHashed
  refine wpAny_holding ?_
  rw [show (100000 : Nat) = 99999 + 1 from rfl, setAddHashedIn_succ]
  refine wpAny_bind (wpAny_setState_of ho hd R.fits ?_)
  dsimp only
  refine wp_if_neg (by simp [byScan, Value.scannable]) ?_
  try refine wpAny_bind (wpAny_pure ?_)
  obtain ⟨K, hKf, hK, hKb⟩ := R.tab.first (by rw [List.length_map]; omega) (mhash P w k)
  have hbig : K < 100000 := by
    have : 10 * SetTable.turns t.mask ≤ 1420 := by
      unfold SetTable.turns
      omega
    omega
  unfold setSearch
  refine wpAny_bind (m_search R hL hx hu hKf hK hKb (fun hm => ?_) (fun hm => ?_) 100000 0 none rfl (Nat.zero_le _) (by omega) fun i p hp hk => ?_)
  · exact wpAny_pure (hQ false s.heap L es ep t (Heap.SameBut.refl a s.heap) R (fun _ => rfl) fun z => absurd hm z)
  · dsimp only
    refine wpAny_bind (wpAny_setState_of ho hd R.fits ?_)
    dsimp only
    obtain ⟨q1, q2, q3, q4, q5, q6, q7, q8, q9⟩ := R.tab.put hK hKb
    generalize hpt : t.put (way t.mask (mhash P w k) K) = pt at q1 q3 q4 q5 q6 q7 q8 q9 ⊢
    obtain ⟨t1, p⟩ := pt
    dsimp only at q1 q3 q4 q5 q6 q7 q8 q9 ⊢
    subst q1
    have goal : ∀ (bv : Bool) (t2 : SetTable), (if bv = true then t1 else { t1 with plain := false }) = t2 → wpAny (model P w) A (do
        storeSet a (SetTable.insertAt es (SetTable.below t.place (way t.mask (mhash P w k) K)) (mhash P w k, Value.ref x)) t2
        if (!false && t2.tooFull) = true then setRelay a (SetTable.grown (es.size + 1))
        return true) Q E s := fun bv t2 e2 => by
      have tk : t2.place = t1.place ∧ t2.dummies = t1.dummies ∧ t2.mask = t1.mask ∧ t2.led = t1.led := by
        subst e2
        cases bv
        · exact ⟨rfl, rfl, rfl, rfl⟩
        · exact ⟨rfl, rfl, rfl, rfl⟩
      obtain ⟨z1, z2, z3, z4⟩ := tk
      generalize hpp : SetTable.below t.place (way t.mask (mhash P w k) K) = p at q2 q3 ⊢
      have hin : (SetTable.insertAt es p (mhash P w k, Value.ref x)).toList = mrows P w (L.take p ++ (x, k) :: L.drop p) := by
        rw [SetTable.toList_insertAt, R.rows]
        simp only [mrows, List.map_append, List.map_cons, List.map_take, List.map_drop]
      have pm := put_perm L p (x, k)
      have hlen : (L.take p ++ (x, k) :: L.drop p).length = L.length + 1 := pm.length_eq
      have hhs : (L.take p ++ (x, k) :: L.drop p).map (fun p => mhash P w p.2) = (L.map fun p => mhash P w p.2).take p ++ mhash P w k :: (L.map fun p => mhash P w p.2).drop p := by
        rw [List.map_append, List.map_cons, List.map_take, List.map_drop]
      rw [← hhs] at q3
      have nd1 : ((L.take p ++ (x, k) :: L.drop p).map (·.2)).Nodup := by
        refine (pm.map (·.2)).nodup_iff.mpr ?_
        rw [List.map_cons]
        exact List.nodup_cons.mpr ⟨hm, R.nd⟩
      have hes : (SetTable.insertAt es p (mhash P w k, Value.ref x)).size = L.length + 1 := by
        have h := congrArg List.length hin
        rw [mrows, Array.length_toList, List.length_map, hlen] at h
        exact h
      generalize SetTable.insertAt es p (mhash P w k, Value.ref x) = es1 at hin hes ⊢
      generalize L.take p ++ (x, k) :: L.drop p = L1 at pm hlen q3 nd1 hin
      refine wpAny_bind (wpAny_storeSet_of ho hd ?_ (by rw [hes, sizeLine_eq]; omega))
      have sb : Heap.SameBut a s.heap (s.heap.update a (Obj.putSet es1 t2)) := Heap.SameBut.update ..
      have ho1 := store_at (es' := es1) (t' := t2) ho hd
      generalize s.heap.update a (Obj.putSet es1 t2) = h1 at sb ho1 ⊢
      have fill2 : t2.fill = t1.fill := by
        unfold SetTable.fill
        rw [z1, z2]
      have notFull : ¬ t2.tooFull = true := by
        unfold SetTable.tooFull
        rw [decide_eq_true_eq, fill2, q9, List.length_map, z3, q4]
        omega
      have tab2 : TabOk t2 (L1.map fun p => mhash P w p.2) := by
        refine ⟨by rw [z1]; exact q3.ris, by rw [z2]; exact q3.dm, by rw [z1]; exact q3.sz, by rw [z3]; exact q3.mok, by rw [z1, z3]; exact q3.bd, fun i h j hi hj => ?_⟩
        rw [z1] at hj
        rw [z1, z3]
        exact q3.reach i h j hi hj
      first
        | refine wp_if_neg (by simp [notFull]) ?_
        | (refine wpAny_bind ?_; refine wp_if_neg (by simp [notFull]) ?_; refine wpAny_pure ?_)
      exact wpAny_pure (hQ true h1 L1 es1 (ep + 1) t2 sb ⟨⟨_, ho1, ⟨hex.1, hex.2.1, hex.2.2⟩, rfl⟩, hin, tab2, nd1, by rw [z4, q5]; exact R.led, by rw [z3, q4]; exact h7, by rw [hlen]; omega⟩ (fun z => absurd z hm) fun _ => pm)
    by_cases hp1 : t1.plain = true
    · refine wp_if_pos hp1 (wpAny_bind (m_byValue hx fun bv => ?_))
      exact goal bv _ rfl
    · refine wp_if_neg hp1 ?_
      exact goal true _ rfl
  · have hi : (L.map fun p => mhash P w p.2)[i]? = some (mhash P w k) := by rw [List.getElem?_map, hp, ← hk] <;> rfl
    have hil : i < t.place.toList.length := by
      have h1 : i < L.length := (List.getElem?_eq_some_iff.mp hp).1
      have h2 := R.tab.sz
      rw [List.length_map] at h2
      rw [Array.length_toList]
      omega
    have hj := List.getElem?_eq_getElem hil
    obtain ⟨c, hc, e⟩ := R.tab.before hK hi hj
    exact ⟨c, Nat.zero_le _, hc, by rw [hj, e]⟩
/-- found.add(x) -/
theorem m_add (R : MAt P w s.heap a L es ep t) (hL : MTups P w s.heap L) {x : Addr} {k : MKey} (hx : IsM P w s.heap k x) (hu : A.units + 1 < cLine) (hfew : L.length < 4) {Q : Value → Shared → Prop}
    (hQ : ∀ tk h' L' es' ep' t', Heap.SameBut a s.heap h' → MAt P w h' a L' es' ep' t' → (k ∈ L.map (·.2) → L' = L) → (k ∉ L.map (·.2) → L'.Perm ((x, k) :: L)) → Q .none { s with heap := h', toks := tk }) :
    wpAny (model P w) A (call (.builtin "set.add") [.ref a, .ref x]) Q E s := by
  obtain ⟨o, ho, hex, hd⟩ := id R.ob
  refine wpAny_call_entry F.slot_set_add ⟨o, ho, hex.1⟩ F.entry_set_add ?_ (F.args_set_add_2 _ _)
  unfold Builtin.«set.add» Builtin.Frozenset.oneOther
  simp only [List.isEmpty_nil, bind_assoc]
  unfold Builtin.Frozenset.addrOf setAdd
  refine wpAny_bind (wpAny_pure ?_)
  try dsimp only
  refine wpAny_bind (wpAny_pure ?_)
  try dsimp only
  refine wpAny_bind ?_
  refine wpAny_holding ?_
  have hu1 : A.in1.units < cLine := hu
  refine wpAny_bind (wpAny_pyHash_tuple hu1 hx ?_)
  refine m_put (s := { s with toks := s.toks + (k.length + 1) }) R hL hx hu1 hfew fun b h' L' es' ep' t' hsb R' c1 c2 => ?_
  show wpAny _ _ (ret Value.none) _ _ _
  exact wpAny_pure ⟨_, rfl, hQ _ h' L' es' ep' t' hsb R' c1 c2⟩
theorem m_fresh {h : Heap} {a : Addr} (ho : h.get? a = some { cls := .type "set", dict := none, data := .set #[] 0 (.fresh 0 0 (!w.params.followText "set-order")) }) : MAt P w h a [] #[] 0 (.fresh 0 0 (!w.params.followText "set-order")) where
  ob := ⟨_, ho, ⟨rfl, rfl, rfl⟩, rfl⟩
  rows := rfl
  tab := ⟨List.Pairwise.nil, rfl, rfl, .inl rfl, fun x hx => (by cases hx), fun i h j hi => (by simp at hi)⟩
  nd := List.nodup_nil
  led := by
    show _ ∨ (!w.params.followText "set-order") = true
    cases w.params.followText "set-order"
    · exact .inr rfl
    · exact .inl rfl
  seven := rfl
  few := Nat.zero_le _
end
/-- as a tracked object -/
structure M0 (P : Program) (w : World) (h : Heap) (a : Addr) (L : List MRow) : Prop where
  ex : ∃ es ep t, MAt P w h a L es ep t
def MSetO (P : Program) (w : World) (a : Addr) (L : List MRow) : HO := .ext fun h => M0 P w h a L
theorem mset_new {P : Program} {w : World} {H : Hp} {h : Heap} {a : Addr} {L : List MRow} (R : M0 P w h a L) : ObjOk P w H h a (MSetO P w a L) := by
  obtain ⟨es, ep, t, R0⟩ := id R.ex
  obtain ⟨o, ho, r⟩ := id R0.ob
  refine ⟨R, ⟨o, ho⟩, fun h1 h2 p k => ?_⟩
  obtain ⟨es', ep', t', R1⟩ := M0.ex p
  obtain ⟨o', ho', r'⟩ := id R1.ob
  exact ⟨es', ep', t', ⟨o', k o' ho', r'⟩, R1.rows, R1.tab, R1.nd, R1.led, R1.seven, R1.few⟩
section
variable {X : Cx}
theorem Inv.isM {pins : List (Addr × Obj)} {σ : L2.St} {H : Hp} {s : Shared} {b : Addr} {k : MKey} (I : Inv X pins σ H s) (h : SqT X.K H b (k.map kV)) : IsM X.prog X.w s.heap k b := by
  obtain ⟨its, r, ⟨o, ho, hc, n, hd⟩, _⟩ := I.tuple h
  exact ⟨o, its.toArray, n, ho, hc, hd, by simpa using items_are r⟩
/-- s.add(x), in the invariant -/
theorem add_M {pins : List (Addr × Obj)} {σ : L2.St} {H : Hp} {s : Shared} {E : Value → Shared → Prop} {D x : Addr} {k : MKey} {L : List MRow} {v : Value} {Q : Value → Shared → Prop} (I : Inv X pins σ H s) (hu : X.A.units + 1 < cLine)
    (hD : H D = some (MSetO X.prog X.w D L)) (hL : ∀ p ∈ L, SqT X.K H p.1 (p.2.map kV)) (hx : SqT X.K H x (k.map kV)) (hf : L.length < 4) (r : RelV (.ref x) v)
    (h : ∀ s' L', Inv X pins σ (upd H D (MSetO X.prog X.w D L')) s' → (k ∈ L.map (·.2) → L' = L) → (k ∉ L.map (·.2) → L'.Perm ((x, k) :: L)) → Q .none s') :
    wpAny (model X.prog X.w) X.A (call (.builtin "set.add") [.ref D, v]) Q E s := by
  cases r
  have R0 : M0 X.prog X.w s.heap D L := (I.hok D _ hD).1
  obtain ⟨es, ep, t, R⟩ := R0.ex
  refine m_add R (fun p hp => Inv.isM I (hL p hp)) (Inv.isM I hx) hu hf fun tk h' L' es' ep' t' sb R' c1 c2 => ?_
  refine h _ L' ?_ c1 c2
  obtain ⟨o', ho', _⟩ := id R'.ob
  exact I.write (t' := tk) (by rw [hD]; trivial) (.inl rfl) (fun b u hb q => (sb.2 b hb).trans q) ⟨o', ho'⟩ (mset_new ⟨es', ep', t', R'⟩)
/-! ### sorted(set) -/
theorem each_perm {α β : Type} {R : α → β → Prop} {us vs : List α} (p : vs.Perm us) : ∀ {bs : List β}, PySem.W.EachIs R us bs → ∃ bs1, bs1.Perm bs ∧ PySem.W.EachIs R vs bs1 := by
  induction p with
  | nil => intro bs h; cases h; exact ⟨[], .nil, .nil⟩
  | cons x _ ih =>
    intro bs h
    cases h with
    | cons r t =>
      obtain ⟨b1, p1, h1⟩ := ih t
      exact ⟨_, p1.cons _, .cons r h1⟩
  | swap x y l =>
    intro bs h
    cases h with
    | cons r t =>
      cases t with
      | cons r2 t2 => exact ⟨_, List.Perm.swap _ _ _, .cons r2 (.cons r t2)⟩
  | trans _ _ ih1 ih2 =>
    intro bs h
    obtain ⟨b2, p2, h2⟩ := ih2 h
    obtain ⟨b1, p1, h1⟩ := ih1 h2
    exact ⟨b1, p1.trans p2, h1⟩
section
variable {P : Program} {w : World} {A : Around} {E : Value → Shared → Prop} {s : Shared}
/-- xs.sort(), the items read while the list is empty -/
theorem sort_read {a : Addr} {n : Nat} {vs : List Value} {bs : List (V × PyData)} {Q : Value → Shared → Prop} (ho : s.heap.get? a = some (seqObj "list" vs.toArray n)) (e : PySem.W.EachIs (fun v (b : V × PyData) => RelV b.1 v) vs bs)
    (er : PySem.W.EachIs (fun v (b : V × PyData) => ∃ as, Reads (PySem.W.sortingHeap s.heap a vs) v b.2 as) vs bs) (hal : PySem.W.AllAlike (bs.map (·.2))) (hk : PySem.W.Sortable (bs.map (·.2))) (hL : bs.length ≤ sizeLine)
    (hu : ∀ b, b ∈ bs → A.units + 1 + b.2.depth < cLine) (h : ∀ out : List Value, out.length = bs.length → PySem.W.EachIs (fun v (b : V × PyData) => RelV b.1 v) out (ascD bs) → Q .none { s with heap := sortedHeap s.heap a vs (List.toArray out) }) :
    wpAny (model P w) A (call (.builtin "list.sort") [.ref a]) Q E s := by
  refine wpAny_call_entry slot_list_sort ⟨_, ho, rfl⟩ entry_list_sort (PySem.W.list_sort_vals (κ := PySem.W.dataKind (PySem.W.sortingHeap s.heap a vs) (bs.map (·.2))) ho
    (PySem.W.SortsAt.data (s := { s with heap := PySem.W.sortingHeap s.heap a vs }) (PySem.W.each_map (R := fun v d => ∃ as, Reads (PySem.W.sortingHeap s.heap a vs) v d as) (fun b : V × PyData => b.2) er) hal hk (PySem.W.bound_map (enc := fun b : V × PyData => b.2) hu)) (by rw [e.length]; exact hL) ⟨.none, rfl, ?_⟩) (args_list_sort _)
  exact h _ (by rw [PySem.W.sortVals_length false rfl]; exact e.length) (PySem.W.sortVals_data (enc := fun b : V × PyData => b.2) false e er hal)
theorem sorted_got {a : Addr} {us : List Value} {bs : List (V × PyData)} {Q : Value → Shared → Prop}
    (hc : ∀ Q1 : List Value → Shared → Prop, (∀ s' out, (∀ b o, s.heap.get? b = some o → s'.heap.get? b = some o) → s.heap.objs.size ≤ s'.heap.objs.size → s'.gens = s.gens → s'.os = s.os → out.Perm us → Q1 out s') → ∀ E1, wpAny (model P w) A.in1 (collect (.ref a)) Q1 E1 s)
    (e : PySem.W.EachIs (fun v (b : V × PyData) => RelV b.1 v ∧ ∃ as, Reads s.heap v b.2 as) us bs) (hal : PySem.W.AllAlike (bs.map (·.2))) (hk : PySem.W.Sortable (bs.map (·.2))) (hL : bs.length ≤ sizeLine) (hu : ∀ b, b ∈ bs → A.units + 2 + b.2.depth < cLine)
    (hQ : ∀ s' p (out : List Value) (c : Nat) (bs1 : List (V × PyData)), (∀ b o, s.heap.get? b = some o → s'.heap.get? b = some o) → s'.gens = s.gens → s'.os = s.os → s.heap.objs.size ≤ p →
      s'.heap.get? p = some (seqObj "list" out.toArray c) → bs1.Perm bs → PySem.W.EachIs (fun v (b : V × PyData) => RelV b.1 v) out (ascD bs1) → Q (.ref p) s') :
    wpAny (model P w) A (call (.builtin "sorted") [.ref a]) Q E s := by
  refine Calls.call_function_entry kind_sorted plain_sorted entry_sorted (args_sorted1 _) ?_
  unfold Builtin.«sorted»
  refine wpAny_bind (m := checkCount "sorted" 1 1 _) (wpAny_pure ?_)
  refine wpAny_bind (hc _ (fun s1 vs k1 hz g1 o1 pm => ?_) _)
  obtain ⟨bs1, pb, e1⟩ := each_perm pm e
  have hl1 : vs.length = bs1.length := e1.length
  have hlb : bs1.length = bs.length := pb.length_eq
  refine wpAny_bind (wpAny_newList ?_ (by omega))
  have hoL : (s1.heap.push (seqObj "list" vs.toArray 0)).get? s1.heap.objs.size = some (seqObj "list" vs.toArray 0) := Heap.get?_push_size _ rfl
  have kp : ∀ b u, s.heap.get? b = some u → (PySem.W.sortingHeap (s1.heap.push (seqObj "list" vs.toArray 0)) s1.heap.objs.size vs).get? b = some u := fun b u h => by
    have q := k1 b u h
    exact PySem.W.sortingHeap_old (Nat.ne_of_lt (Heap.lt_size q)) (Heap.get?_push_of_some _ q)
  have pm2 : (bs1.map (·.2)).Perm (bs.map (·.2)) := pb.map _
  have ea : PySem.W.EachIs (fun v (b : V × PyData) => RelV b.1 v) vs bs1 := each_in e1 fun v b _ r => r.1
  have eb : PySem.W.EachIs (fun v (b : V × PyData) => ∃ as, Reads (PySem.W.sortingHeap (s1.heap.push (seqObj "list" vs.toArray 0)) s1.heap.objs.size vs) v b.2 as) vs bs1 := each_in e1 fun v b _ r => by
    obtain ⟨as, q⟩ := r.2
    exact ⟨as, PyProof.Rows.Reads.keeps kp q⟩
  refine wpAny_bind (wpAny_holding (sort_read (s := { s1 with heap := s1.heap.push (seqObj "list" vs.toArray 0) }) hoL ea eb ?_ ?_ (by omega) (fun b hb => ?_) fun out ho hs => ?_))
  · exact fun d hd d' hd' => hal d (pm2.mem_iff.mp hd) d' (pm2.mem_iff.mp hd')
  · rcases hk with hk | hk
    · exact .inl fun d hd => hk d (pm2.mem_iff.mp hd)
    · exact .inr fun d hd => hk d (pm2.mem_iff.mp hd)
  · have := hu b (pb.mem_iff.mp hb)
    show A.in1.units + 1 + b.2.depth < cLine
    rw [show A.in1.units = A.units + 1 from rfl]
    omega
  · obtain ⟨c, hc⟩ := sortedHeap_at (vs := vs) (out := out.toArray) hoL
    refine wpAny_pure ⟨_, rfl, hQ _ s1.heap.objs.size out c bs1 (fun b u h => ?_) g1 o1 hz hc pb hs⟩
    have q := k1 b u h
    have hlt := Heap.lt_size q
    show (sortedHeap (s1.heap.push (seqObj "list" vs.toArray 0)) s1.heap.objs.size vs out.toArray).get? b = some u
    rw [sortedHeap_old (Nat.ne_of_lt hlt) (by rw [size_push']; exact Nat.lt_succ_of_lt hlt)]
    exact Heap.get?_push_of_some _ q
end
/-- the rows of a set as data -/
def kD : Key → PyData
  | .inl i => .int i
  | .inr x => .str x
def mD (k : MKey) : PyData := .tuple (k.map kD)
theorem kD_dp {K : PySem.W.Frag} {H : Hp} : ∀ k : MKey, DpAll K H (k.map kV) (k.map kD)
  | [] => .nil
  | .inl i :: k => .cons (.int i) (kD_dp k)
  | .inr x :: k => .cons (.str x) (kD_dp k)
theorem mD_dp {K : PySem.W.Frag} {H : Hp} {b : Addr} {k : MKey} (h : SqT K H b (k.map kV)) : Dp K H (.ref b) (mD k) := .tup h (kD_dp k)
def rwB (L : List MRow) : List (V × PyData) := L.map fun q => (V.ref q.1, mD q.2)
theorem each_rows {R : Value → V × PyData → Prop} : ∀ (L : List MRow), (∀ q ∈ L, R (.ref q.1) (V.ref q.1, mD q.2)) → PySem.W.EachIs R (L.map fun q => Value.ref q.1) (rwB L)
  | [], _ => .nil
  | q :: L, h => .cons (h q List.mem_cons_self) (each_rows L fun r hr => h r (List.mem_cons_of_mem _ hr))
/-- a new sorted list, its values rs standing in out -/
theorem Inv.newL {pins : List (Addr × Obj)} {σ : L2.St} {H : Hp} {s s' : Shared} {p : Addr} {rs : List V} {out : List Value} {c : Nat} (I : Inv X pins σ H s) (k : ∀ b o, s.heap.get? b = some o → s'.heap.get? b = some o) (g : s'.gens = s.gens) (o : s'.os = s.os) (hp : s.heap.objs.size ≤ p)
    (hv : Vals rs out) (hl : rs.length ≤ sizeLine) (hg : s'.heap.get? p = some (seqObj "list" out.toArray c)) : Inv X pins σ (upd H p (.lst rs)) s' :=
  I.call' (ch := []) o (Un.laid k hp (I.hok.fresh hp)) (I.hok.laid k hp ⟨hl, out, c, hv, hg⟩) (by rw [g]; exact I.bare) (fun _ z => nomatch z)
def rSortedM (K : PySem.W.Frag) (P : Program) (w : World) : List V → Hp → VK → Prop := fun vs H Q => ∃ (a : Addr) (L : List MRow), vs = [V.ref a] ∧ H a = some (MSetO P w a L) ∧ (∀ q ∈ L, SqT K H q.1 (q.2.map kV)) ∧ PySem.W.AllAlike ((rwB L).map (·.2)) ∧ PySem.W.Sortable ((rwB L).map (·.2)) ∧ (∀ q ∈ L, (mD q.2).depth ≤ 60) ∧
  ∀ (bs : List (V × PyData)) (p : Addr), bs.Perm (rwB L) → (L.map (·.2)).Nodup → H p = none → Q (.ref p) (upd H p (.lst ((ascD bs).map (·.1))))
theorem cr_sortedM (hc : X.calm = true) (hu : X.A.units + 65 < cLine) : CallR X (.builtin "sorted") (rSortedM X.K X.prog X.w) := by
  intro pins s σ H vs us Q I r h
  obtain ⟨a, L, rfl, ha, hk, hal, hs, hdep, q⟩ := h
  have R0 : M0 X.prog X.w s.heap a L := (I.hok a _ ha).1
  obtain ⟨es, ep, t, R⟩ := R0.ex
  obtain ⟨o, ho, hex, hd⟩ := id R.ob
  rw [Vals.ref1 r]
  have hsz := R.size
  have hfew := R.few
  have hlr : (rwB L).length = L.length := by rw [rwB, List.length_map]
  have hes : es.toList.map (·.2) = L.map fun q => Value.ref q.1 := by
    rw [R.rows, mrows, List.map_map]
    rfl
  refine sorted_got (us := L.map fun q => Value.ref q.1) (bs := rwB L) (fun Q1 h1 E1 => ?_) (each_rows L fun q hq => ⟨rfl, (mD_dp (hk q hq)).reads I _ _ _ rfl⟩) hal hs (by rw [hlr, sizeLine_eq]; omega) (fun b hb => ?_) fun s' p out c bs1 k g o2 hp hg pb hout => ?_
  · rw [← hes] at h1
    exact collect_set (A := X.A.in1) (I.ok.hd hc) ⟨o, ho, hex.1, hd⟩ R.fits (by unfold scanBound; omega) R.tab.ris R.led h1
  · obtain ⟨q, hq, rfl⟩ := List.mem_map.mp hb
    have := hdep q hq
    show X.A.units + 2 + (mD q.2).depth < cLine
    omega
  · have hn : H p = none := I.hok.fresh hp
    refine ⟨.ref p, _, Inv.newL I k g o2 hp (vals_each hout) ?_ hg, rfl, q bs1 p pb R.nd hn⟩
    rw [List.length_map, ascD, List.length_mergeSort, pb.length_eq, hlr, sizeLine_eq]
    omega
/-- sorted(set), the rows tuples of any ints -/
def kI (k : List Int) : MKey := k.map Sum.inl
theorem kI_kV (k : List Int) : (kI k).map kV = k.map V.int := by
  unfold kI
  rw [List.map_map]
  rfl
def rwI (L : List (Addr × List Int)) : List (V × PyData) := L.map fun q => (V.ref q.1, mD (kI q.2))
def rSortedI (K : PySem.W.Frag) (P : Program) (w : World) : List V → Hp → VK → Prop := fun vs H Q => ∃ (a : Addr) (L : List (Addr × List Int)), vs = [V.ref a] ∧ H a = some (SetTO P w a L) ∧ (∀ q ∈ L, SqT K H q.1 (q.2.map V.int)) ∧ PySem.W.AllAlike ((rwI L).map (·.2)) ∧ PySem.W.Sortable ((rwI L).map (·.2)) ∧ (∀ q ∈ L, (mD (kI q.2)).depth ≤ 60) ∧
  ∀ (bs : List (V × PyData)) (p : Addr), bs.Perm (rwI L) → (L.map (·.2)).Nodup → H p = none → Q (.ref p) (upd H p (.lst ((ascD bs).map (·.1))))
theorem cr_sortedI (hc : X.calm = true) (hu : X.A.units + 65 < cLine) : CallR X (.builtin "sorted") (rSortedI X.K X.prog X.w) := by
  intro pins s σ H vs us Q I r h
  obtain ⟨a, L, rfl, ha, hk, hal, hs, hdep, q⟩ := h
  have R0 : SetT0 X.prog X.w s.heap a L := (I.hok a _ ha).1
  obtain ⟨es, ep, t, R⟩ := R0.full fun p hp => I.isT (hk p hp)
  obtain ⟨o, ho, hex, hd⟩ := id R.ob
  rw [Vals.ref1 r]
  have hsz := R.size
  have hfew := R.few
  have hlr : (rwI L).length = L.length := by rw [rwI, List.length_map]
  have hes : es.toList.map (·.2) = L.map fun q => Value.ref q.1 := by
    rw [R.rows, rowsOf, List.map_map]
    rfl
  have er : ∀ L : List (Addr × List Int), (∀ q ∈ L, SqT X.K H q.1 (q.2.map V.int)) → PySem.W.EachIs (fun v (b : V × PyData) => RelV b.1 v ∧ ∃ as, Reads s.heap v b.2 as) (L.map fun q => Value.ref q.1) (rwI L) := by
    intro L
    induction L with
    | nil => intro _; exact .nil
    | cons q L ih =>
      intro h
      have hq : SqT X.K H q.1 ((kI q.2).map kV) := by rw [kI_kV]; exact h q List.mem_cons_self
      exact .cons ⟨rfl, (mD_dp hq).reads I _ _ _ rfl⟩ (ih fun r hr => h r (List.mem_cons_of_mem _ hr))
  refine sorted_got (us := L.map fun q => Value.ref q.1) (bs := rwI L) (fun Q1 h1 E1 => ?_) (er L hk) hal hs (by rw [hlr, sizeLine_eq]; omega) (fun b hb => ?_) fun s' p out c bs1 k g o2 hp hg pb hout => ?_
  · rw [← hes] at h1
    exact collect_set (A := X.A.in1) (I.ok.hd hc) ⟨o, ho, hex.1, hd⟩ R.fits (by unfold scanBound; omega) R.tab.ris R.led h1
  · obtain ⟨q, hq, rfl⟩ := List.mem_map.mp hb
    have := hdep q hq
    show X.A.units + 2 + (mD (kI q.2)).depth < cLine
    omega
  · have hn : H p = none := I.hok.fresh hp
    refine ⟨.ref p, _, Inv.newL I k g o2 hp (vals_each hout) ?_ hg, rfl, q bs1 p pb R.nd hn⟩
    rw [List.length_map, ascD, List.length_mergeSort, pb.length_eq, hlr, sizeLine_eq]
    omega
end
end Hue

set_option Elab.async false
set_option linter.all false
set_option maxRecDepth 100000
set_option maxHeartbeats 2000000
/-! {elt for target in f(..)}, f a generator def: a set of tuples -/
namespace Hue
open PySem PySem.Spec PyProof.Rows L2
theorem nat_ne_succ {C D : Nat} (h : C = D + 1) : D ≠ C := by omega
theorem nat_lt_ne {b n C D : Nat} (h1 : b < n) (h2 : n ≤ D) (h3 : C = D + 1) : b ≠ C := by omega
theorem nat_lt_ne' {b n D : Nat} (h1 : b < n) (h2 : n ≤ D) : b ≠ D := by omega
theorem nat_above {b C D : Nat} (h1 : D ≤ b) (h2 : b ≠ D) (h3 : C = D + 1) : C ≤ b := by omega
theorem nat_lt_succ {b C D : Nat} (h1 : b < D) (h3 : C = D + 1) : b < C ∧ b ≠ C ∧ b ≠ D := by omega
/-- all that is tracked is kept; all but what is tracked by a predicate -/
def KeepA (H H' : Hp) : Prop := ∀ b o, H b = some o → H' b = some o
def KeepN (H H' : Hp) : Prop := ∀ b o, H b = some o → (∀ φ, o ≠ .ext φ) → H' b = some o
/-- an object that stands as it is -/
def pinO (C : Addr) (o : Obj) : HO := .ext fun h => h.get? C = some o
theorem pinO_ok {P : Program} {w : World} {H : Hp} {h : Heap} {C : Addr} {o : Obj} (e : h.get? C = some o) : ObjOk P w H h C (pinO C o) := ⟨e, ⟨o, e⟩, fun h1 h2 p k => k o p⟩
theorem hok_del {P : Program} {w : World} {H : Hp} {h : Heap} {C : Addr} {φ : Heap → Prop} (x : HOk P w H h) (hC : H C = some (.ext φ)) : HOk P w (delH H C) h := fun b u e => by
  have hb : b ≠ C := fun z => by
    rw [z, delH_same] at e
    cases e
  rw [delH_ne hb] at e
  refine (x b u e).stay (fun c v _ q => q) (fun c q => ?_) fun c xs q => ?_
  · rw [delH_ne (fun z => by rw [z, hC] at q; cases q)]; exact q
  · rw [delH_ne (fun z => by rw [z, hC] at q; cases q)]; exact q
/-- the comprehension's own ground over a generator that sleeps: C its frame, D its set -/
structure Blk (B : Cx) (G : GB) (C D : Addr) : Prop where
  P : G.P = B.prog
  w : G.w = B.w
  base : G.base = B.base
  outer : G.outer = B.stack
  pn : B.pn = []
  loc : B.env.locals = C
  nocell : ∀ x, B.env.cells.lookup x = none
  ok : G.Ok
  ex : ∀ b, G.n0 ≤ b → b < D → b ∈ B.ex
  s0 : B.s_0.heap.objs.size = C
  CD : C = D + 1
  n0 : G.n0 ≤ D
  fs : B.fs = frs B.stack
/-- behind a segment of the generator -/
theorem Inv.segB {B : Cx} {G : GB} {C D : Addr} (W : Blk B G C D) {σ : L2.St} {H H1 : Hp} {s sw s1 s' : Shared} {oC : Obj} (I : Inv B [] σ H s) (sC : s.heap.get? C = some oC) (hD : ∃ φ, H D = some (.ext φ)) (hsw : sw.heap = s.heap) (how : sw.os = s.os)
    (o : GOut G sw (upd H C (pinO C oC)) H1 s1) (ka : KeepA (upd H C (pinO C oC)) H1) (hh : ∀ b ob, s1.heap.get? b = some ob → s'.heap.get? b = some ob) (ho : s'.os = s1.os) (hb : AllBare s'.gens) :
    Inv B [] σ (delH H1 C) s' ∧ s'.heap.get? C = some oC ∧ H1 C = some (pinO C oC) ∧ KeepA H (delH H1 C) := by
  have HC : H C = none := by have := I.free; rwa [W.loc] at this
  have H1C : H1 C = some (pinO C oC) := ka C _ upd_same
  have ka' : KeepA H (delH H1 C) := fun b u e => by
    have ne : b ≠ C := fun z => by rw [z, HC] at e; cases e
    rw [delH_ne ne]
    exact ka b u (by rw [upd_ne ne]; exact e)
  have un : Un (frs B.stack) [] (upd H C (pinO C oC)) H1 (cutH G.n0 s.heap) s1.heap := by
    have := o.un
    rw [W.outer, hsw] at this; exact this
  have hok1 : HOk B.prog B.w H1 s'.heap := by
    have := o.hok
    rw [W.P, W.w] at this; exact this.kept hh
  have cC : s'.heap.get? C = some oC := (hok1 C _ H1C).1
  obtain ⟨φ, hD⟩ := hD
  have H1D : H1 D = some (.ext φ) := ka D _ (by rw [upd_ne (nat_ne_succ W.CD)]; exact hD)
  have stD : ∃ u, s'.heap.get? D = some u := (hok1 D _ H1D).2.1
  let ch : List Addr := (List.range s.heap.objs.size).filter fun b => decide (G.n0 ≤ b ∧ b ≠ C ∧ b ≠ D)
  have inch : ∀ b, (∃ ob, s.heap.get? b = some ob) → b ∉ ch → b < G.n0 ∨ b = C ∨ b = D := fun b ⟨ob, e⟩ hn => by
    rcases Nat.lt_or_ge b G.n0 with z | z
    · exact .inl z
    · by_cases z1 : b = C
      · exact .inr (.inl z1)
      · by_cases z2 : b = D
        · exact .inr (.inr z2)
        · exact absurd (List.mem_filter.mpr ⟨List.mem_range.mpr (Heap.lt_size e), decide_eq_true ⟨z, z1, z2⟩⟩) hn
  have neC : ∀ {b}, b < G.n0 → b ≠ C := fun {b} z => nat_lt_ne z W.n0 W.CD
  refine ⟨I.call' (ch := ch) (ho.trans (o.os.trans how)) ⟨fun b ob e n hf hc => ?_, fun b ob e n hf hc => ?_, fun b ob e n hc => ?_, fun b ob e hc => ?_, fun b xs e => ?_, fun b ob u e => ?_, fun b ps e => ?_⟩ (hok_del hok1 H1C) hb fun b hb => ?_, cC, H1C, ka'⟩
  · rcases inch b ⟨ob, e⟩ hc with z | z | z
    · exact hh _ _ (un.keep b ob (cutH_in z e) (by rw [upd_ne (neC z)]; exact n) hf (by simp))
    · rw [z] at e ⊢; rw [sC] at e; cases e; exact cC
    · rw [z, hD] at n; cases n
  · rcases inch b ⟨ob, e⟩ hc with z | z | z
    · obtain ⟨sl, q⟩ := un.slot b ob (cutH_in z e) (by rw [upd_ne (neC z)]; exact n) hf (by simp)
      exact ⟨sl, hh _ _ q⟩
    · rw [z] at e ⊢; rw [sC] at e; cases e; exact ⟨oC.slots, cC⟩
    · rw [z, hD] at n; cases n
  · rcases inch b ⟨ob, e⟩ hc with z | z | z
    · rw [delH_ne (neC z)]
      exact un.free b ob (cutH_in z e) (by rw [upd_ne (neC z)]; exact n) (by simp)
    · rw [z]; exact delH_same
    · rw [z, hD] at n; cases n
  · rcases inch b ⟨ob, e⟩ hc with z | z | z
    · obtain ⟨o', q⟩ := un.there b ob (cutH_in z e) (by simp)
      exact ⟨o', hh _ _ q⟩
    · rw [z]; exact ⟨_, cC⟩
    · rw [z]; exact stD
  · exact ka' b _ e
  · exact ka' b _ e
  · exact ⟨#[], by rw [ka' b _ e]; simp⟩
  · have hm := List.mem_filter.mp hb
    obtain ⟨hn, h1, h2⟩ := of_decide_eq_true hm.2
    refine ⟨?_, fun z => h1 (z.trans W.loc), fun x c e => ?_, fun p hp => ?_⟩
    · rcases Nat.lt_or_ge b D with z | z
      · exact .inl (W.ex b hn z)
      · refine .inr ?_
        rw [W.s0]
        exact nat_above z h2 W.CD
    · rw [W.nocell x] at e; cases e
    · rw [W.pn] at hp; cases hp
theorem Inv.gpinB {B : Cx} {G : GB} {C D : Addr} (W : Blk B G C D) {ip : List (Addr × Obj)} {σ : L2.St} {H1 : Hp} {s : Shared} {o oC : Obj} (H1C : H1 C = some (pinO C oC)) (I : Inv B [] σ (delH H1 C) s) (w : GOwn G ip H1 s) (ho : s.heap.get? G.env.locals = some o) : Inv B ([] ++ gpl G ip o) σ (delH H1 C) s := by
  have old : ∀ b, G.n0 ≤ b → H1 b = none → b ≠ B.env.locals ∧ b ∉ B.fs ∧ delH H1 C b = none := fun b hb hn => by
    have ne : b ≠ C := fun z => by rw [z, H1C] at hn; cases hn
    refine ⟨by rw [W.loc]; exact ne, fun z => ?_, by rw [delH_ne ne]; exact hn⟩
    rw [W.fs, ← W.outer] at z
    exact absurd (W.ok.old b z) (Nat.not_lt.mpr hb)
  refine I.pins_of fun p hp => ?_
  have hp : p ∈ gpl G ip o := by simpa using hp
  rcases List.mem_cons.mp hp with hp | hp
  · subst hp
    obtain ⟨o', ho', hd⟩ := w.loc
    rw [ho] at ho'; cases ho'
    obtain ⟨q1, q2, q3⟩ := old _ W.ok.above w.free
    exact ⟨ho, q3, q1, q2, hd⟩
  · obtain ⟨q1, q2, q3, q4⟩ := w.pin p hp
    obtain ⟨q5, q6, q7⟩ := old _ q3 q2
    exact ⟨q1, q7, q5, q6, q4⟩
theorem Wk.ofB {B : Cx} {G : GB} {C D : Addr} (W : Blk B G C D) {ip : List (Addr × Obj)} {σ : L2.St} {H : Hp} {s1 s s2 : Shared} {o oC : Obj} (I : Inv B ([] ++ gpl G ip o) σ H s) (sC : s.heap.get? C = some oC) (ho : s1.heap.get? G.env.locals = some o) (hos : s1.os = B.s_0.os) (h1 : s2.heap = s.heap) (h2 : s2.os = s.os) (h3 : AllBare s2.gens) : Wk G s1 ip (upd H C (pinO C oC)) s2 := by
  have HC : H C = none := by have := I.free; rwa [W.loc] at this
  have pin : ∀ p ∈ gpl G ip o, s.heap.get? p.1 = some p.2 ∧ upd H C (pinO C oC) p.1 = none := fun p hp => by
    obtain ⟨q1, q2, q3, _⟩ := I.pin p (List.mem_append_right _ (List.mem_append_right _ hp))
    refine ⟨q1, ?_⟩
    rw [upd_ne (by rw [← W.loc]; exact q3)]
    exact q2
  have ploc := pin _ List.mem_cons_self
  refine ⟨h2.trans (I.os.trans hos.symm), h3, fun o' e => ?_, ploc.2, fun p hp => ?_, ?_, fun b ob e => ?_, ?_, fun b hb => ?_⟩
  · rw [ho] at e; cases e; rw [h1]; exact ploc.1
  · rw [h1]; exact pin p (List.mem_cons_of_mem _ hp)
  · rw [h1, W.P, W.w]
    exact I.hok.laidN (fun _ _ q => q) HC (pinO_ok sC)
  · rw [h1]
    rw [W.base] at e
    obtain ⟨q1, q2⟩ := I.bs b ob e
    refine ⟨q1, ?_⟩
    rw [upd_ne fun z => ?_]
    · exact q2
    · have l1 := Heap.lt_size e
      have l2 := I.ok.bsz
      rw [W.s0] at l2
      rw [z] at l1
      exact absurd l1 (Nat.not_lt.mpr l2)
  · rw [h1, W.base, W.outer]; exact I.stack
  · rw [W.outer] at hb
    rw [upd_ne fun z => ?_]
    · exact I.stkFree b hb
    · exact nat_lt_ne (W.ok.old b (by rw [W.outer]; exact hb)) W.n0 W.CD z
/-- a clause without tests -/
def tScG (K : PySem.W.Frag) (P : Program) (w : World) (tz : TGz) (g : TG) (te : TE) (vs : List Nat) : TE := fun σ H Q => tz σ H fun Z H1 =>
  (∀ H H', Z.guar H H' → KeepA H H') ∧ (∀ H H', KeepN H H' → Z.rely H H') ∧ (∀ i x H C φ, H C = some (.ext φ) → Z.item i x H → Z.item i x (delH H C)) ∧
  ∀ D, H1 D = none → ∃ W : Nat → Hp → Prop, W 0 (upd H1 D (MSetO P w D [])) ∧ ∀ i H, W i H →
    (∃ φ, H D = some (.ext φ)) ∧
    (i = Z.len → ∀ H', KeepA H H' → Q (.ref D) H') ∧
    (i < Z.len → ∀ x H', KeepA H H' → Z.item i x H' → g x (wipe σ vs) H' fun σ2 H2 => wipe σ2 vs = wipe σ vs ∧ te σ2 H2 fun y H3 => ∃ (b : Addr) (k : MKey) (L : List MRow), y = .ref b ∧ SqT K H3 b (k.map kV) ∧ H3 D = some (MSetO P w D L) ∧ (∀ p ∈ L, SqT K H3 p.1 (p.2.map kV)) ∧ L.length < 4 ∧ KeepN H' H3 ∧
      ∀ L', (k ∈ L.map (·.2) → L' = L) → (k ∉ L.map (·.2) → L'.Perm ((b, k) :: L)) → W (i + 1) (upd H3 D (MSetO P w D L')))
section
variable {X : Cx} {k : Nat}
theorem pe_scG {elt tg iter : Expr} {scope : Scope} {own : List (Str × Nat)} {pos : Pos} {tz : TGz} {g : TG} {te : TE} (hc : X.calm = true) (hN : X.N.Nodup) (hr : Room (k + 1) X.A) (hu : X.A.units + 1 < cLine) (hi : PGz X k iter tz) (ok : BlkOk X.N X.env.scope scope own)
    (hnl : ∀ y ∈ scope.names, y.2 ≠ .cell ∧ y.2 ≠ .free)
    (hg : ∀ (s : Shared) (H : Hp) (C : Addr) (cl : List (Str × Addr)) (fp : List Addr), PG (X.blk s H scope (compEnvC scope cl C X.env) fp) tg g)
    (he : ∀ (s : Shared) (H : Hp) (C : Addr) (cl : List (Str × Addr)) (fp : List Addr), PE (X.blk s H scope (compEnvC scope cl C X.env) fp) elt te) (hs : ∀ x, foldedSetIterable iter X.env x = pure x := by intro _; rfl) :
    PE X (.SetComp elt [⟨tg, iter, [], 0⟩] scope pos) (tScG X.K X.prog X.w tz g te (own.map (·.2))) := by
  refine ⟨fun pins s σ H Q I h => ?_⟩
  have hfree : ∀ y ∈ scope.names, y.2 = .free → ∃ c, X.env.cells.lookup y.1 = some c := fun y hy e => absurd e (hnl y hy).2
  rw [arm_eval_SetComp]
  refine wpAny_comprehension_free (use := none) rfl hs (closure_ok hfree) ok.kind (fun y hy e => by rw [ok.uniq y hy, e]) (thn (hi.run pins s σ H _ I h) fun xv s1 hx => ?_)
  obtain ⟨H1, sc, Z, Ic, hG, zg, zr, zi, q⟩ := hx
  obtain ⟨a, gn, c0, rfl, ha1, ha2, hgen, hgs, hos, hba, hli, hkp, wake⟩ := hG
  have I1 : Inv X pins σ H1 s1 := Ic.call' (ch := []) hos (Un.kept hkp) (Ic.hok.kept hkp) hba fun b z => by simp at z
  refine wpAny_pyIter_gen (s := s1) hgen ?_
  refine PySem.wpAny_newSet_raw fun led hled => newEnv_comp ?_
  subst hled
  generalize hDe : s1.heap.objs.size = D
  have hDn : H1 D = none := I1.hok.fresh (Nat.le_of_eq hDe)
  obtain ⟨W, w0, turn⟩ := q D hDn
  generalize hs3 : ({ s1 with heap := s1.heap.push { cls := .type "set", dict := none, data := .set #[] 0 (.fresh 0 0 (!X.w.params.followText "set-order")) } } : Shared) = s3
  have h3 : s3.heap = s1.heap.push { cls := .type "set", dict := none, data := .set #[] 0 (.fresh 0 0 (!X.w.params.followText "set-order")) } := by rw [← hs3]
  have g3 : s3.gens = s1.gens := by rw [← hs3]
  have o3 : s3.os = s1.os := by rw [← hs3]
  have sz3 : s3.heap.objs.size = D + 1 := by rw [h3, Heap.size_push, hDe]
  have kp3 : ∀ b o, s1.heap.get? b = some o → s3.heap.get? b = some o := fun b o e => by rw [h3]; exact Heap.get?_push_of_some _ e
  have I3 : Inv X pins σ (upd H1 D (MSetO X.prog X.w D [])) s3 := by
    rw [← hs3]
    refine I1.laid (t' := s1.toks) (fun b o e => Heap.get?_push_of_some _ e) (Nat.le_of_eq hDe) (mset_new ⟨_, _, _, m_fresh ?_⟩)
    rw [← hDe]
    exact Heap.get?_push_size _ rfl
  -- the generator's ground
  let fp : List Addr := (List.range D).filter fun b => decide (sc.heap.objs.size ≤ b)
  have hsD : sc.heap.objs.size ≤ D := by rw [← hDe]; exact Nat.le_of_lt (Nat.lt_of_le_of_lt ha1 ha2)
  have mfp : ∀ b, b ∈ fp ↔ b < D ∧ sc.heap.objs.size ≤ b := fun b => by
    show b ∈ (List.range D).filter _ ↔ _
    rw [List.mem_filter, List.mem_range, decide_eq_true_eq]
  have f3 : ∀ b ∈ fp, FpOk X pins (upd H1 D (MSetO X.prog X.w D [])) b ∧ b < s3.heap.objs.size := fun b hb => by
    obtain ⟨h1, h2⟩ := (mfp b).mp hb
    refine ⟨Ic.fpOk h2 ?_, by rw [sz3]; exact Nat.lt_succ_of_lt h1⟩
    rw [upd_ne (Nat.ne_of_lt h1)]
    exact Ic.hok.fresh h2
  have I4 := block_start I3 ok hN f3
  have pg := hg s3 (upd H1 D (MSetO X.prog X.w D [])) s3.heap.objs.size (cellsFrom (s3.heap.objs.size + 1) scope.names (cloFrom X.env.cells scope.names [])) fp
  have pe := he s3 (upd H1 D (MSetO X.prog X.w D [])) s3.heap.objs.size (cellsFrom (s3.heap.objs.size + 1) scope.names (cloFrom X.env.cells scope.names [])) fp
  show codeAny _ _ (.compStart (.SetComp elt [⟨tg, iter, [], 0⟩] scope pos) 0 (.ref a) (.ref D) (compEnvC scope (cellsFrom (s3.heap.objs.size + 1) scope.names (cloFrom X.env.cells scope.names [])) s3.heap.objs.size X.env)) (compPost (model X.prog X.w) X.A X.xe none _ (.ref D) s3.heap.objs.size) { s3 with heap := pushCells (s3.heap.push { cls := .type "dict", data := .dict #[] }) scope.names }
  have ncl : ∀ x, (compEnvC scope (cellsFrom (s3.heap.objs.size + 1) scope.names (cloFrom X.env.cells scope.names [])) s3.heap.objs.size X.env).cells.lookup x = none := fun x => by
    show (cellsFrom (s3.heap.objs.size + 1) scope.names (cloFrom X.env.cells scope.names [])).lookup x = none
    cases hq : (cellsFrom (s3.heap.objs.size + 1) scope.names (cloFrom X.env.cells scope.names [])).lookup x with
    | none => rfl
    | some c =>
      have hm := PySem.mem_of_lookup hq
      have e : s3.heap.objs.size + 1 = (s3.heap.push { cls := .type "dict", data := .dict #[] }).objs.size := (Heap.size_push ..).symm
      rw [e] at hm
      rcases cells_mem hm with z | ⟨z, _⟩
      · rcases cloFrom_mem z with z | ⟨z, _⟩
        · cases z
        · exact absurd rfl (hnl _ z).2
      · exact absurd rfl (hnl _ z).1
  generalize hce : compEnvC scope (cellsFrom (s3.heap.objs.size + 1) scope.names (cloFrom X.env.cells scope.names [])) s3.heap.objs.size X.env = ce at I4 pg pe ncl ⊢
  have cL : ce.locals = s3.heap.objs.size := by subst hce; rfl
  generalize hH3 : upd H1 D (MSetO X.prog X.w D []) = H3 at I3 I4 pg pe w0 f3
  generalize hs4 : ({ s3 with heap := pushCells (s3.heap.push { cls := .type "dict", data := .dict #[] }) scope.names } : Shared) = s4 at I4 ⊢
  have kp4 : ∀ b o, s3.heap.get? b = some o → s4.heap.get? b = some o := fun b o e => by rw [← hs4]; exact pushCells_keeps _ _ _ _ (Heap.get?_push_of_some _ e)
  have g4 : s4.gens = s3.gens := by rw [← hs4]
  have o4 : s4.os = s3.os := by rw [← hs4]
  have isg4 : s4.heap.IsGen a gn := let ⟨og, n1, q1, e, r⟩ := hgen; ⟨og, n1, q1, kp4 _ _ (kp3 _ _ e), r⟩
  have hgs4 : s4.gens[gn]? = some (.fresh c0) := by rw [g4, g3]; exact hgs
  -- the comprehension's frame
  obtain ⟨m4, ⟨oC4, es4, ep4, hoC4, _⟩, _⟩ := I4.loc
  have hoC4 : s4.heap.get? ce.locals = some oC4 := hoC4
  rw [cL] at hoC4
  generalize hC : s3.heap.objs.size = C at cL hoC4 sz3
  have HC4 : H3 C = none := by have := I4.free; rw [show (X.blk s3 H3 scope ce fp).env.locals = C from cL] at this; exact this
  have older : ∀ b ∈ frs X.stack, b < sc.heap.objs.size ∧ H1 b = none := fun b hb => by
    refine ⟨?_, Ic.stkFree b hb⟩
    rcases List.mem_cons.mp (Ic.stkSub b hb) with z | z
    · rw [z]; exact Ic.lt
    · exact (Inv.young Ic).fs b z
  have kn : KeepN H1 (upd H3 C (pinO C oC4)) := fun b o e hx => by
    have n1 : b ≠ D := fun z => by rw [z, hDn] at e; cases e
    have n2 : b ≠ C := by
      have l := (I1.hok b o e).lt
      rw [hDe] at l
      exact (nat_lt_succ l sz3).2.1
    rw [upd_ne n2, ← hH3, upd_ne n1]
    exact e
  have up3 : ∀ b, b ≠ C → b ≠ D → upd H3 C (pinO C oC4) b = H1 b := fun b n2 n1 => by rw [upd_ne n2, ← hH3, upd_ne n1]
  obtain ⟨G, eP, ew, eb, eo, en, epn, gok, hsq⟩ := wake X.A.in1 X.stack (s4.setGen gn .running) (upd H3 C (pinO C oC4)) hr.in1 I1.ok.frames I4.stack
    (fun b hb => by
      obtain ⟨h1, h2⟩ := older b hb
      exact ⟨h1, by rw [up3 b (nat_lt_ne h1 hsD sz3) (nat_lt_ne' h1 hsD)]; exact h2⟩)
    (fun b o e => kp4 _ _ (kp3 _ _ e)) (by show s4.os = _; rw [o4, o3]; exact hos) (allBare_setGen I4.bare rfl) (.inr (zr _ _ kn))
    (I4.hok.laidN (fun _ _ q => q) HC4 (pinO_ok hoC4))
    (fun b h1 h2 => by
      rw [hDe] at h2
      rw [up3 b (nat_lt_succ h2 sz3).2.1 (nat_lt_succ h2 sz3).2.2]
      exact Ic.hok.fresh h1)
    (fun b o e => by
      have l1 := Heap.lt_size (I1.bs b o e).1
      rw [hDe] at l1
      rw [up3 b (nat_lt_succ l1 sz3).2.1 (nat_lt_succ l1 sz3).2.2]
      exact (I1.bs b o e).2)
  have Wd : Blk (X.blk s3 H3 scope ce fp) G C D := ⟨eP, ew, eb, eo, rfl, cL, ncl, gok, fun b h1 h2 => (mfp b).mpr ⟨h2, by rw [← en]; exact h1⟩, hC, sz3, by rw [en]; exact hsD, rfl⟩
  have loop : codeAny (model X.prog X.w) X.A (.compLoop (.SetComp elt [⟨tg, iter, [], 0⟩] scope pos) 0 (.ref a) (.ref D) ce) (compPost (model X.prog X.w) X.A X.xe none (fun u s' => ∃ v H', Inv X pins σ H' s' ∧ RelV v u ∧ Q v H') (.ref D) C) s4 := by
    refine PySem.compLoop_set_any (fun n s' => ∃ i H' oC, n = Z.len + 1 - i ∧ i ≤ Z.len ∧ Inv (X.blk s3 H3 scope ce fp) [] (wipe σ (own.map (·.2))) H' s' ∧ s'.heap.get? C = some oC ∧ Live X G Z a gn i (upd H' C (pinO C oC)) s' ∧ W i H') ?_ (Z.len + 1)
      ⟨0, H3, oC4, rfl, Nat.zero_le _, I4, hoC4, ⟨isg4, _, hgs4, by rw [Nat.sub_zero]; exact hsq⟩, w0⟩
    rintro n s5 ⟨i, H5, oC5, rfl, hi5, I5, hC5, ⟨lg, gs, hgs5, lgo⟩, w5⟩
    obtain ⟨hD5, stop, step⟩ := turn i H5 w5
    refine thnF (next_gf (Q := fun r s' => match r with
        | none => i = Z.len ∧ ∃ H1p s1', GOut G (s5.setGen gn .running) (upd H5 C (pinO C oC5)) H1p s1' ∧ KeepA (upd H5 C (pinO C oC5)) H1p ∧ (∀ b ob, s1'.heap.get? b = some ob → s'.heap.get? b = some ob) ∧ s'.os = s1'.os ∧ AllBare s'.gens
        | some v => i < Z.len ∧ ∃ s1' x H1p ip gd lv kk c p fs, (End.susp v gd lv kk c p fs).quiet = true ∧ s' = s1'.setGen gn (End.susp v gd lv kk c p fs).genState ∧ gn < s1'.gens.size ∧ RelV x v ∧ GOut G (s5.setGen gn .running) (upd H5 C (pinO C oC5)) H1p s1' ∧ GOwn G ip H1p s1' ∧ Z.item i x H1p ∧ Z.guar (upd H5 C (pinO C oC5)) H1p ∧
            ∀ H2 s2, Wk G s1' ip H2 s2 → Z.rely H1p H2 → Sq (model X.prog X.w) X.A.in1 (GPh G X.A.in1 Z (Z.len - (i + 1)) H2 s2) c (kk (.send .none)) fs s2)
        (E := fun _ _ => False) hr.hd I5.nolimit hr.depth lg hgs5 lgo (fun v gd lv kk c p fs s₁ hq hsz hph => ?_) (fun r s₁ hph => ?_)) (fun r s6 h6 => ?_)
    · cases em : Z.len - i with
      | zero => rw [em] at hph; exact False.elim hph
      | succ m =>
        rw [em] at hph
        obtain ⟨x, H', ip, rv, go1, go2, it, gu, cont⟩ := hph
        refine ⟨by omega, s₁, x, H', ip, gd, lv, kk, c, p, fs, hq, rfl, Nat.lt_of_lt_of_le ?_ hsz, rv, go1, go2, by rw [show Z.len - (m + 1) = i by omega] at it; exact it, gu, fun H2 s2 wk rl => ?_⟩
        · rcases Nat.lt_or_ge gn s5.gens.size with z | z
          · exact z
          · rw [Array.getElem?_eq_none z] at hgs5; cases hgs5
        · have q := cont H2 s2 wk rl
          rw [eP, ew] at q
          rw [show Z.len - (i + 1) = m by omega]; exact q
    · cases em : Z.len - i with
      | succ m => rw [em] at hph; exact False.elim hph
      | zero =>
        rw [em] at hph
        obtain ⟨hr', H', go1, gu⟩ := hph
        exact ⟨hr', fun h' hk => ⟨by omega, H', s₁, go1, zg _ _ gu, hk, rfl, allBare_setGen go1.bare rfl⟩⟩
    · cases r with
      | none =>
        obtain ⟨e, H1p, s1', go1, ka, hk, ho6, hb6⟩ := h6
        obtain ⟨I6, c6, _, ka6⟩ := Inv.segB (sw := s5.setGen gn .running) Wd I5 hC5 hD5 rfl rfl go1 ka hk ho6 hb6
        have I7 : Inv X pins σ (delH H1p C) s6 := I3.call' (ch := fp) I6.os I6.base I6.hok I6.bare fun b hb => ⟨(f3 b hb).1.2.2.2.1, (f3 b hb).1.2.1, (f3 b hb).1.2.2.2.2.1, (f3 b hb).1.2.2.2.2.2⟩
        obtain ⟨m, hn, _⟩ := I6.loc
        have hn : s6.heap.Ns ce.locals m := hn
        rw [cL] at hn
        have fC : FpOk X pins (delH H1p C) C := I3.fpOk (Nat.le_of_eq hC) delH_same
        obtain ⟨f0, f1, f2, f4, f5, f6⟩ := fC
        exact ⟨m, hn, fun h'' sb => ⟨.ref D, _, I7.turned (t' := s6.toks) (fun b o hb e => (sb.2 b hb).trans e) f0 f1 f4 f5 f6, rfl, stop e _ ka6⟩⟩
      | some v =>
        obtain ⟨hlt, s1', x, H1p, ip, gd, lv, kk, c, p, fs, hq, rfl, gin, rv, go1, go2, it, gu, cont⟩ := h6
        obtain ⟨oL, hoL, _⟩ := go2.loc
        have bq : (End.susp v gd lv kk c p fs).genState.bare = true := End.bare_of_quiet hq
        have ka := zg _ _ gu
        obtain ⟨I6, c6, H1C, ka6⟩ := Inv.segB (sw := s5.setGen gn .running) (s' := s1'.setGen gn (End.susp v gd lv kk c p fs).genState) Wd I5 hC5 hD5 rfl rfl go1 ka (fun b o e => e) rfl (allBare_setGen go1.bare bq)
        have it6 := zi i x H1p C _ H1C it
        have hos1 : s1'.os = (X.blk s3 H3 scope ce fp).s_0.os := go1.os.trans I5.os
        have J6 := Inv.gpinB (ip := ip) Wd H1C I6 ⟨go2.loc, go2.free, go2.pin⟩ hoL
        have hat : (s1'.setGen gn (End.susp v gd lv kk c p fs).genState).gens[gn]? = some (End.susp v gd lv kk c p fs).genState := by
          show (s1'.gens.setIfInBounds gn _)[gn]? = _
          simp [gin]
        have isg : (s1'.setGen gn (End.susp v gd lv kk c p fs).genState).heap.IsGen a gn := by
          obtain ⟨o, e1, e2⟩ := epn
          exact e2 _ (go1.pn (a, o) (by rw [e1]; exact List.mem_cons_self))
        obtain ⟨og, nmg, qng, hog, hcg, hdg, _⟩ := id isg
        refine go_of (n := "generator") hog hcg hdg (by decide) ?_
        have q6 := step hlt x _ ka6 it6
        have b6 : L2.Inv (X.blk s3 H3 scope ce fp) ([] ++ gpl G ip oL) (wipe σ (own.map (·.2))) (delH H1p C) (sBad (s1'.setGen gn (End.susp v gd lv kk c p fs).genState)) := Inv.regen J6 rfl rfl (bare_bad J6.bare)
        refine wpAny_mono (wpAny_kept (E := fun _ _ => False) (pg.run _ _ _ _ x v _ b6 rv q6)) (fun _ s7 h7 => ?_) fun _ _ z => False.elim z
        obtain ⟨s7r, ⟨σ7, H7, I7r, hw7, q7⟩, z1, z2, z3, z4⟩ := h7
        have gn7 := z4 gn _ hat rfl
        have I7 := Inv.regen I7r z1 z2 (z3 I7r.bare)
        refine wpAny_tests_nil ?_
        simp only [if_true]
        refine wpAny_mono (wpAny_kept (E := fun _ _ => False) (pe.run _ _ σ7 H7 _ (Inv.regen I7 rfl rfl (bare_bad I7.bare)) q7)) (fun yv s8 h8 => ?_) fun _ _ z => False.elim z
        obtain ⟨s8r, ⟨y, H8, I8r, ry, b, ky, L, rfl, hy, hL8, hLs, hf8, kn8, w8⟩, y1, y2, y3, y4⟩ := h8
        have gn8 := y4 gn _ gn7 rfl
        have I8 := Inv.regen I8r y1 y2 (y3 I8r.bare)
        refine wpAny_mono (wpAny_kept (E := fun _ _ => False) (add_M (X := X.blk s3 H3 scope ce fp) (Inv.regen I8 rfl rfl (bare_bad I8.bare)) hu hL8 hLs hy hf8 ry
          (Q := fun _ s9 => ∃ L', Inv (X.blk s3 H3 scope ce fp) ([] ++ gpl G ip oL) σ7 (upd H8 D (MSetO X.prog X.w D L')) s9 ∧ (ky ∈ L.map (·.2) → L' = L) ∧ (ky ∉ L.map (·.2) → L'.Perm ((b, ky) :: L))) fun s9 L' I9 c1 c2 => ⟨L', I9, c1, c2⟩)) (fun _ s9 h9 => ?_) fun _ _ z => False.elim z
        obtain ⟨s9r, ⟨L', I9r, c1, c2⟩, x1, x2, x3, x4⟩ := h9
        have gn9 := x4 gn _ gn8 rfl
        have I9 := Inv.regen I9r x1 x2 (x3 I9r.bare)
        obtain ⟨m9, ⟨oC9, es9, ep9, hoC9, _⟩, _⟩ := I9.loc
        have hoC9 : s9.heap.get? ce.locals = some oC9 := hoC9
        rw [cL] at hoC9
        have hl : (wipe σ (own.map (·.2))).length = σ7.length := by rw [← hw7, wipe_length]
        have In : Inv (X.blk s3 H3 scope ce fp) [] (wipe σ (own.map (·.2))) (upd H8 D (MSetO X.prog X.w D L')) s9 := (I9.unpinned (pins := [])).weak hl (fun j v e => by
          rw [← hw7] at e
          exact (wipe_some e).1)
        refine ⟨Z.len + 1 - (i + 1), by omega, i + 1, _, oC9, rfl, by omega, In, hoC9, ⟨?_, _, gn9, ?_⟩, w8 L' c1 c2⟩
        · obtain ⟨o, e1, e2⟩ := epn
          exact e2 _ (I9.pin (a, o) (List.mem_append_right _ (List.mem_append_right _ (List.mem_cons_of_mem _ (List.mem_append_left _ (by rw [e1]; exact List.mem_cons_self)))))).1
        · refine cont _ _ (Wk.ofB Wd I9 hoC9 hoL hos1 rfl rfl (allBare_setGen I9.bare rfl)) (zr _ _ fun b' o e hx => ?_)
          have n1 : b' ≠ C := fun z => by rw [z, H1C] at e; cases e; exact hx _ rfl
          have q1 : delH H1p C b' = some o := by rw [delH_ne n1]; exact e
          have q2 := kn8 b' o q1 hx
          have n2 : b' ≠ D := fun z => by rw [z, hL8] at q2; cases q2; exact hx _ rfl
          rw [upd_ne n1, upd_ne n2]
          exact q2
  exact PySem.codeAny_compStart_set loop (wpAny_pyIter_gen (s := s4) isg4 loop)
end
/-- a generator def's promise, from what the head says of it -/
theorem gfnD {P : Program} {w : World} {K : PySem.W.Frag} {mg : Str → Option Value} {base : Heap} {x qual : Str} {params : Arguments} {body : List Stmt} {scope : Scope} {dvs : List V} {kws : List (Str × V)} {f : Addr} {fd : FuncData} {N ps : List Str} {k : Nat} {sp : SpF}
    (F : FunD K x qual params body scope dvs kws f fd) (S : GScope N ps scope) (nc : ∀ y ∈ scope.names, y.2 ≠ .cell) (len : ∀ vs H Z, sp vs H Z → vs.length = ps.length) (hst : ∀ vs H H2 Z, sp vs H Z → Z.rely H H2 → sp vs H2 Z)
    (hbody : ∀ (cdv : Value) (A : Around) (outer : List Env) (n0 : Nat) (pn : List (Addr × Obj)) (H : Hp) (vs : List V) (Z : GP), (gbOf P w K mg base N qual scope f cdv A outer n0 pn).Ok → Room k (A.deeper (envOfC qual scope n0 f cdv)) → sp vs H Z →
      ∃ t, GSFs (gbOf P w K mg base N qual scope f cdv A outer n0 pn) Z body t ∧ t { nx := fun k Hw _ H' => k = Z.len ∧ Z.guar Hw H', rt := fun k Hw v H' => v = .non ∧ k = Z.len ∧ Z.guar Hw H' } 0 H (start N vs) H) :
    GFn P w K mg base (k + 1) f fd ps sp := by
  obtain ⟨oc, od, dV, kV, doc, pm, an, cdv, ct, osl, rfl, lk, hcd, _, _⟩ := F.ex
  exact gfn_by lk hcd S nc len hst fun A outer n0 pn H vs Z ok hr h => hbody cdv A outer n0 pn H vs Z ok hr h
end Hue

set_option Elab.async false
set_option linter.all false
set_option maxRecDepth 100000
set_option maxHeartbeats 1000000
namespace Hue
open PySem PySem.Spec PyProof.Rows L2
def top (i : Nat) : Stmt := PySem.Challenge.pw_huerounds_k15_wrongs_of_standings.main.body.getD i (.Pass ⟨0, 0, 0, 0⟩)
def pFile : Str := PySem.Challenge.pw_huerounds_k15_wrongs_of_standings.main.file
instance : SupP PySem.Challenge.pw_huerounds_k15_wrongs_of_standings pFile := ⟨by decide +kernel, by decide +kernel⟩


abbrev s_l_pool : Stmt := top 16
abbrev N_l_pool : List Str := ["_law_script", "_law_pool_here", "_law_mix", "_law_cell", "_law_number", "_law_k", "_law_drawn"]
abbrev P_l_pool : List Str := ["_law_script"]
theorem sc_l_pool : FnScope N_l_pool P_l_pool (defScope s_l_pool) := ⟨rfl, rfl, rfl, by decide +kernel, rfl, by decide +kernel, by decide +kernel⟩
abbrev s_l_take : Stmt := top 17
abbrev N_l_take : List Str := ["_law_pool_here", "_law_many"]
abbrev P_l_take : List Str := ["_law_pool_here", "_law_many"]
theorem sc_l_take : FnScope N_l_take P_l_take (defScope s_l_take) := ⟨rfl, rfl, rfl, by decide +kernel, rfl, by decide +kernel, by decide +kernel⟩
abbrev s_l_int : Stmt := top 15
abbrev N_l_int : List Str := ["_law_x"]
abbrev P_l_int : List Str := ["_law_x"]
theorem sc_l_int : FnScope N_l_int P_l_int (defScope s_l_int) := ⟨rfl, rfl, rfl, by decide +kernel, rfl, by decide +kernel, by decide +kernel⟩
abbrev s_l_raw : Stmt := top 18
abbrev N_l_raw : List Str := ["_law_pool_here", "_law_code", "_law_shown", "_law_keep"]
abbrev P_l_raw : List Str := ["_law_pool_here"]
theorem sc_l_raw : FnScope N_l_raw P_l_raw (defScope s_l_raw) := ⟨rfl, rfl, rfl, by decide +kernel, rfl, by decide +kernel, by decide +kernel⟩
abbrev s_BadPhase_init : Stmt := inClass (top 7) 0
abbrev N_BadPhase_init : List Str := ["self", "field", "__class__"]
abbrev P_BadPhase_init : List Str := ["self", "field"]
theorem sc_BadPhase_init : NdefX.NScope N_BadPhase_init P_BadPhase_init [("__class__" : Str)] (defScope s_BadPhase_init) := NdefX.nscope_by (by decide +kernel)
abbrev s_Phase_init : Stmt := inClass (top 12) 0
abbrev N_Phase_init : List Str := ["self", "hue", "barrier", "visits", "pauses", "stand", "skips"]
abbrev P_Phase_init : List Str := ["self", "hue", "barrier", "visits", "pauses", "stand", "skips"]
theorem sc_Phase_init : FnScope N_Phase_init P_Phase_init (defScope s_Phase_init) := ⟨rfl, rfl, rfl, by decide +kernel, rfl, by decide +kernel, by decide +kernel⟩
abbrev s_Phase_looks : Stmt := inClass (top 12) 1
abbrev N_Phase_looks : List Str := ["self"]
abbrev P_Phase_looks : List Str := ["self"]
theorem sc_Phase_looks : FnScope N_Phase_looks P_Phase_looks (defScope s_Phase_looks) := ⟨rfl, rfl, rfl, by decide +kernel, rfl, by decide +kernel, by decide +kernel⟩
abbrev s_Phase_text : Stmt := inClass (top 12) 4
abbrev N_Phase_text : List Str := ["self", "words"]
abbrev P_Phase_text : List Str := ["self"]
theorem sc_Phase_text : FnScope N_Phase_text P_Phase_text (defScope s_Phase_text) := ⟨rfl, rfl, rfl, by decide +kernel, rfl, by decide +kernel, by decide +kernel⟩
abbrev s_Phase_changed : Stmt := inClass (top 12) 6
abbrev N_Phase_changed : List Str := ["self", "more", "fields", "name"]
abbrev P_Phase_changed : List Str := ["self", "more"]
theorem sc_Phase_changed : FnScope N_Phase_changed P_Phase_changed (defScope s_Phase_changed) := ⟨rfl, rfl, rfl, by decide +kernel, rfl, by decide +kernel, by decide +kernel⟩
abbrev s_Book_init : Stmt := inClass (top 13) 1
abbrev N_Book_init : List Str := ["self", "phases"]
abbrev P_Book_init : List Str := ["self", "phases"]
theorem sc_Book_init : FnScope N_Book_init P_Book_init (defScope s_Book_init) := ⟨rfl, rfl, rfl, by decide +kernel, rfl, by decide +kernel, by decide +kernel⟩
abbrev s_Book_of : Stmt := inClass (top 13) 16
abbrev N_Book_of : List Str := ["cls", "phases"]
abbrev P_Book_of : List Str := ["cls", "phases"]
theorem sc_Book_of : FnScope N_Book_of P_Book_of (defScope s_Book_of) := ⟨rfl, rfl, rfl, by decide +kernel, rfl, by decide +kernel, by decide +kernel⟩
abbrev s_Book_len : Stmt := inClass (top 13) 2
abbrev N_Book_len : List Str := ["self"]
abbrev P_Book_len : List Str := ["self"]
theorem sc_Book_len : FnScope N_Book_len P_Book_len (defScope s_Book_len) := ⟨rfl, rfl, rfl, by decide +kernel, rfl, by decide +kernel, by decide +kernel⟩
abbrev s_Book_getitem : Stmt := inClass (top 13) 5
abbrev N_Book_getitem : List Str := ["self", "n"]
abbrev P_Book_getitem : List Str := ["self", "n"]
theorem sc_Book_getitem : FnScope N_Book_getitem P_Book_getitem (defScope s_Book_getitem) := ⟨rfl, rfl, rfl, by decide +kernel, rfl, by decide +kernel, by decide +kernel⟩
abbrev s_Book_setitem : Stmt := inClass (top 13) 6
abbrev N_Book_setitem : List Str := ["self", "n", "phase"]
abbrev P_Book_setitem : List Str := ["self", "n", "phase"]
theorem sc_Book_setitem : FnScope N_Book_setitem P_Book_setitem (defScope s_Book_setitem) := ⟨rfl, rfl, rfl, by decide +kernel, rfl, by decide +kernel, by decide +kernel⟩
abbrev s_Book_hues_setter : Stmt := inClass (top 13) 12
abbrev N_Book_hues_setter : List Str := ["self", "hues", "phase", "hue"]
abbrev P_Book_hues_setter : List Str := ["self", "hues"]
theorem sc_Book_hues_setter : FnScope N_Book_hues_setter P_Book_hues_setter (defScope s_Book_hues_setter) := ⟨rfl, rfl, rfl, by decide +kernel, rfl, by decide +kernel, by decide +kernel⟩
abbrev s_Book_recolour : Stmt := inClass (top 13) 13
abbrev N_Book_recolour : List Str := ["self", "hues"]
abbrev P_Book_recolour : List Str := ["self", "hues"]
theorem sc_Book_recolour : FnScope N_Book_recolour P_Book_recolour (defScope s_Book_recolour) := ⟨rfl, rfl, rfl, by decide +kernel, rfl, by decide +kernel, by decide +kernel⟩
abbrev s_Book_text : Stmt := inClass (top 13) 14
abbrev N_Book_text : List Str := ["self", "phase"]
abbrev P_Book_text : List Str := ["self"]
theorem sc_Book_text : FnScope N_Book_text P_Book_text (defScope s_Book_text) := ⟨rfl, rfl, rfl, by decide +kernel, rfl, by decide +kernel, by decide +kernel⟩
abbrev s_faults : Stmt := top 2
abbrev N_faults : List Str := ["book", "standing", "row", "holder", "hue", "left", "phase", "last"]
abbrev P_faults : List Str := ["book", "standing"]
theorem sc_faults : GScope N_faults P_faults (defScope s_faults) := ⟨rfl, rfl, rfl, by decide +kernel, rfl, by decide +kernel, by decide +kernel⟩
abbrev s_wrongs_of : Stmt := top 3
abbrev N_wrongs_of : List Str := ["book", "standing", "kind", "deeds"]
abbrev P_wrongs_of : List Str := ["book", "standing"]
theorem sc_wrongs_of : FnScope N_wrongs_of P_wrongs_of (defScope s_wrongs_of) := ⟨rfl, rfl, rfl, by decide +kernel, rfl, by decide +kernel, by decide +kernel⟩
abbrev s_l_calm : Stmt := top 19
abbrev N_l_calm : List Str := ["_law_row", "_law_k", "_law_two", "_law_good", "_law_shown"]
abbrev P_l_calm : List Str := ["_law_row", "_law_k", "_law_two"]
theorem sc_l_calm : FnScope N_l_calm P_l_calm (defScope s_l_calm) := ⟨rfl, rfl, rfl, by decide +kernel, rfl, by decide +kernel, by decide +kernel⟩
abbrev s_l_rows : Stmt := top 20
abbrev N_l_rows : List Str := ["_law_pool_here", "_law_most", "_law_many", "_law_style", "_law_rows_here", "_law_two", "_law_calm_here", "_law_at", "_law_k"]
abbrev P_l_rows : List Str := ["_law_pool_here", "_law_most"]
theorem sc_l_rows : FnScope N_l_rows P_l_rows (defScope s_l_rows) := ⟨rfl, rfl, rfl, by decide +kernel, rfl, by decide +kernel, by decide +kernel⟩
abbrev s_l_phase : Stmt := top 21
abbrev N_l_phase : List Str := ["_law_row"]
abbrev P_l_phase : List Str := ["_law_row"]
theorem sc_l_phase : FnScope N_l_phase P_l_phase (defScope s_l_phase) := ⟨rfl, rfl, rfl, by decide +kernel, rfl, by decide +kernel, by decide +kernel⟩
abbrev s_l_book : Stmt := top 22
abbrev N_l_book : List Str := ["_law_rows_here", "_law_row"]
abbrev P_l_book : List Str := ["_law_rows_here"]
theorem sc_l_book : FnScope N_l_book P_l_book (defScope s_l_book) := ⟨rfl, rfl, rfl, by decide +kernel, rfl, by decide +kernel, by decide +kernel⟩
abbrev s_l_wrongs : Stmt := top 23
abbrev N_l_wrongs : List Str := ["_law_rows_here", "_law_standing", "_law_row", "_law_held", "_law_left", "_law_found", "_law_looks"]
abbrev P_l_wrongs : List Str := ["_law_rows_here", "_law_standing"]
theorem sc_l_wrongs : FnScope N_l_wrongs P_l_wrongs (defScope s_l_wrongs) := ⟨rfl, rfl, rfl, by decide +kernel, rfl, by decide +kernel, by decide +kernel⟩
abbrev s_l_standings : Stmt := top 24
abbrev N_l_standings : List Str := ["_law_rows_here", "_law_at", "_law_dyes", "_law_found", "_law_dye", "_law_left", "_law_held"]
abbrev P_l_standings : List Str := ["_law_rows_here", "_law_at", "_law_dyes"]
theorem sc_l_standings : FnScope N_l_standings P_l_standings (defScope s_l_standings) := ⟨rfl, rfl, rfl, by decide +kernel, rfl, by decide +kernel, by decide +kernel⟩
abbrev s_l_told : Stmt := top 25
abbrev N_l_told : List Str := ["_law_book_here", "_law_rows_here", "_law_standing", "_law_told_here", "_law_pair"]
abbrev P_l_told : List Str := ["_law_book_here", "_law_rows_here", "_law_standing"]
theorem sc_l_told : FnScope N_l_told P_l_told (defScope s_l_told) := ⟨rfl, rfl, rfl, by decide +kernel, rfl, by decide +kernel, by decide +kernel⟩
abbrev s_l_recolour : Stmt := top 26
abbrev N_l_recolour : List Str := ["_law_book_here", "_law_given", "_law_many"]
abbrev P_l_recolour : List Str := ["_law_book_here", "_law_given"]
theorem sc_l_recolour : FnScope N_l_recolour P_l_recolour (defScope s_l_recolour) := ⟨rfl, rfl, rfl, by decide +kernel, rfl, by decide +kernel, by decide +kernel⟩
abbrev s_law : Stmt := top 27
abbrev N_law : List Str := ["_law_script", "_law_pool_here", "_law_rows_here", "_law_new", "_law_at", "_law_dye", "_law_book_here", "_law_standing", "_law_later", "_law_given", "_law_dyed", "_law_row", "_law_k"]
abbrev P_law : List Str := ["_law_script"]
theorem sc_law : FnScope N_law P_law (defScope s_law) := ⟨rfl, rfl, rfl, by decide +kernel, rfl, by decide +kernel, by decide +kernel⟩
def d_l_pool : DX := ⟨(gad "_law_pool"), "_law_pool", "_law_pool", s_l_pool, [], [], []⟩
def d_l_take : DX := ⟨(gad "_law_take"), "_law_take", "_law_take", s_l_take, [], [], []⟩
def d_l_int : DX := ⟨(gad "_law_int"), "_law_int", "_law_int", s_l_int, [], [], []⟩
def d_l_raw : DX := ⟨(gad "_law_raw"), "_law_raw", "_law_raw", s_l_raw, [], [], []⟩
def d_BadPhase_init : DX := ⟨(mad "BadPhase" "__init__"), "__init__", "BadPhase.__init__", s_BadPhase_init, [], [], [("__class__" : Str)]⟩
def d_Phase_init : DX := ⟨(mad "Phase" "__init__"), "__init__", "Phase.__init__", s_Phase_init, [], [("barrier", .str "guarded"), ("visits", .bl false), ("pauses", .bl true), ("stand", .int (0)), ("skips", .bl false)], []⟩
def d_Phase_looks : DX := ⟨(pad "property" "Phase" "looks"), "looks", "Phase.looks", s_Phase_looks, [], [], []⟩
def d_Phase_text : DX := ⟨(pad "property" "Phase" "text"), "text", "Phase.text", s_Phase_text, [], [], []⟩
def d_Phase_changed : DX := ⟨(mad "Phase" "changed"), "changed", "Phase.changed", s_Phase_changed, [], [], []⟩
def d_Book_init : DX := ⟨(mad "Book" "__init__"), "__init__", "Book.__init__", s_Book_init, [], [], []⟩
def d_Book_of : DX := ⟨(pad "classmethod" "Book" "of"), "of", "Book.of", s_Book_of, [], [], []⟩
def d_Book_len : DX := ⟨(mad "Book" "__len__"), "__len__", "Book.__len__", s_Book_len, [], [], []⟩
def d_Book_getitem : DX := ⟨(mad "Book" "__getitem__"), "__getitem__", "Book.__getitem__", s_Book_getitem, [], [], []⟩
def d_Book_setitem : DX := ⟨(mad "Book" "__setitem__"), "__setitem__", "Book.__setitem__", s_Book_setitem, [], [], []⟩
def d_Book_hues_setter : DX := ⟨(sad "Book" "hues"), "hues", "Book.hues", s_Book_hues_setter, [], [], []⟩
def d_Book_recolour : DX := ⟨(mad "Book" "recolour"), "recolour", "Book.recolour", s_Book_recolour, [], [], []⟩
def d_Book_text : DX := ⟨(pad "property" "Book" "text"), "text", "Book.text", s_Book_text, [], [], []⟩
def d_faults : DX := ⟨(gad "faults"), "faults", "faults", s_faults, [], [], []⟩
def d_wrongs_of : DX := ⟨(gad "wrongs_of"), "wrongs_of", "wrongs_of", s_wrongs_of, [], [], []⟩
def d_l_calm : DX := ⟨(gad "_law_calm"), "_law_calm", "_law_calm", s_l_calm, [], [], []⟩
def d_l_rows : DX := ⟨(gad "_law_rows"), "_law_rows", "_law_rows", s_l_rows, [], [], []⟩
def d_l_phase : DX := ⟨(gad "_law_phase"), "_law_phase", "_law_phase", s_l_phase, [], [], []⟩
def d_l_book : DX := ⟨(gad "_law_book"), "_law_book", "_law_book", s_l_book, [], [], []⟩
def d_l_wrongs : DX := ⟨(gad "_law_wrongs"), "_law_wrongs", "_law_wrongs", s_l_wrongs, [], [], []⟩
def d_l_standings : DX := ⟨(gad "_law_standings"), "_law_standings", "_law_standings", s_l_standings, [], [], []⟩
def d_l_told : DX := ⟨(gad "_law_told"), "_law_told", "_law_told", s_l_told, [], [], []⟩
def d_l_recolour : DX := ⟨(gad "_law_recolour"), "_law_recolour", "_law_recolour", s_l_recolour, [], [], []⟩
def d_law : DX := ⟨(gad "law"), "law", "law", s_law, [], [], []⟩
def dsAll : List DX := [d_l_pool, d_l_take, d_l_int, d_l_raw, d_BadPhase_init, d_Phase_init, d_Phase_looks, d_Phase_text, d_Phase_changed, d_Book_init, d_Book_of, d_Book_len, d_Book_getitem, d_Book_setitem, d_Book_hues_setter, d_Book_recolour, d_Book_text, d_faults, d_wrongs_of, d_l_calm, d_l_rows, d_l_phase, d_l_book, d_l_wrongs, d_l_standings, d_l_told, d_l_recolour, d_law]
def faAll : List He.Fa := [.free "abs", .free "bool", .free "int", .free "isinstance", .free "len", .free "list", .free "max", .free "range", .free "sorted", .free "str", .free "tuple", .free "zip", .glo "_law_pool", .glo "_law_take", .glo "_law_int", .glo "_law_raw", .glo "faults", .glo "wrongs_of", .glo "_law_calm", .glo "_law_rows", .glo "_law_phase", .glo "_law_book", .glo "_law_wrongs", .glo "_law_standings", .glo "_law_told", .glo "_law_recolour", .glo "law", .glo "BARRIERS", .int "MOST_HUE" 5, .int "MOST_STAND" 7, .glo "Phase", .cls "Phase", .noat "Phase" "hue", .noat "Phase" "barrier", .noat "Phase" "visits", .noat "Phase" "pauses", .noat "Phase" "stand", .noat "Phase" "skips", .mkr "Phase", .meth "Phase" "changed", .glo "Book", .cls "Book", .noat "Book" "phases", .mkr "Book", .meth "Book" "__getitem__", .meth "Book" "__setitem__", .meth "Book" "recolour", .glo "BadBook", .exc "BadBook", .glo "BadPhase", .noat "BadPhase" "field", .free "super"]
def fxAll : List Fx := [.tup "BARRIERS" [.str "none", .str "follow", .str "plain", .str "guarded"], .prop "Phase" "looks", .prop "Phase" "text", .inst "Phase", .pset "Book" "hues", .prop "Book" "text", .inst "Book", .kit (.own "Phase") (.own "Phase") true, .kit (.own "Book") (.own "Book") true, .cread "Book", .cmeth "Book" "of", .own "Book" "__len__", .own "Book" "__getitem__", .own "Book" "__setitem__", .cint "Book" "MOST" 6, .oex "BadPhase", .einit "BadPhase" "BadPhase", .sup "BadPhase" "BadPhase" pFile "self"]
structure Tx (K : PySem.W.Frag) (mg : Str → Option Value) : Prop where
  n_abs : mg "abs" = none
  n_bool : mg "bool" = none
  n_int : mg "int" = none
  n_isinstance : mg "isinstance" = none
  n_len : mg "len" = none
  n_list : mg "list" = none
  n_max : mg "max" = none
  n_range : mg "range" = none
  n_sorted : mg "sorted" = none
  n_str : mg "str" = none
  n_tuple : mg "tuple" = none
  n_zip : mg "zip" = none
  g_l_pool : mg "_law_pool" = some (.ref (gad "_law_pool" K))
  g_l_take : mg "_law_take" = some (.ref (gad "_law_take" K))
  g_l_int : mg "_law_int" = some (.ref (gad "_law_int" K))
  g_l_raw : mg "_law_raw" = some (.ref (gad "_law_raw" K))
  g_faults : mg "faults" = some (.ref (gad "faults" K))
  g_wrongs_of : mg "wrongs_of" = some (.ref (gad "wrongs_of" K))
  g_l_calm : mg "_law_calm" = some (.ref (gad "_law_calm" K))
  g_l_rows : mg "_law_rows" = some (.ref (gad "_law_rows" K))
  g_l_phase : mg "_law_phase" = some (.ref (gad "_law_phase" K))
  g_l_book : mg "_law_book" = some (.ref (gad "_law_book" K))
  g_l_wrongs : mg "_law_wrongs" = some (.ref (gad "_law_wrongs" K))
  g_l_standings : mg "_law_standings" = some (.ref (gad "_law_standings" K))
  g_l_told : mg "_law_told" = some (.ref (gad "_law_told" K))
  g_l_recolour : mg "_law_recolour" = some (.ref (gad "_law_recolour" K))
  g_law : mg "law" = some (.ref (gad "law" K))
  g_BARRIERS : mg "BARRIERS" = some (.ref (gad "BARRIERS" K))
  t_BARRIERS : SqTk K (gad "BARRIERS" K) [V.str "none", V.str "follow", V.str "plain", V.str "guarded"]
  g_MOST_HUE : ∃ t, mg "MOST_HUE" = some (.int 5 t)
  g_MOST_STAND : ∃ t, mg "MOST_STAND" = some (.int 7 t)
  g_Phase : mg "Phase" = some (.ref (gad "Phase" K))
  c_Phase : Cls K (gad "Phase" K)
  na_Phase_hue : NoAttr K (gad "Phase" K) "hue"
  na_Phase_barrier : NoAttr K (gad "Phase" K) "barrier"
  na_Phase_visits : NoAttr K (gad "Phase" K) "visits"
  na_Phase_pauses : NoAttr K (gad "Phase" K) "pauses"
  na_Phase_stand : NoAttr K (gad "Phase" K) "stand"
  na_Phase_skips : NoAttr K (gad "Phase" K) "skips"
  mk_Phase : Mk K (gad "Phase" K) (mad "Phase" "__init__" K)
  p_Phase_looks : PropOf K (gad "Phase" K) "looks" (mad "Phase" "looks" K) (pad "property" "Phase" "looks" K)
  p_Phase_text : PropOf K (gad "Phase" K) "text" (mad "Phase" "text" K) (pad "property" "Phase" "text" K)
  m_Phase_changed : Meth K (gad "Phase" K) "changed" (mad "Phase" "changed" K)
  i_Phase : (Fx.inst "Phase").ok K = true
  g_Book : mg "Book" = some (.ref (gad "Book" K))
  c_Book : Cls K (gad "Book" K)
  na_Book_phases : NoAttr K (gad "Book" K) "phases"
  mk_Book : Mk K (gad "Book" K) (mad "Book" "__init__" K)
  m_Book_getitem : Meth K (gad "Book" K) "__getitem__" (mad "Book" "__getitem__" K)
  m_Book_setitem : Meth K (gad "Book" K) "__setitem__" (mad "Book" "__setitem__" K)
  ps_Book_hues_setter : PSetOf K (gad "Book" K) "hues" (mad "Book" "hues" K) (sad "Book" "hues" K)
  m_Book_recolour : Meth K (gad "Book" K) "recolour" (mad "Book" "recolour" K)
  p_Book_text : PropOf K (gad "Book" K) "text" (mad "Book" "text" K) (pad "property" "Book" "text" K)
  i_Book : (Fx.inst "Book").ok K = true
  k_Phase_Phase : PySem.W.kitOne K (Value.ref (gad "Phase" K)) (Value.ref (gad "Phase" K)) = some true
  k_Book_Book : PySem.W.kitOne K (Value.ref (gad "Book" K)) (Value.ref (gad "Book" K)) = some true
  cr_Book : ClX.CRead K (gad "Book" K) (.type "type")
  cm_Book_of : ClX.CMet K (gad "Book" K) (.type "type") "of" (mad "Book" "of" K) (pad "classmethod" "Book" "of" K)
  o_Book_len : OwnM K (gad "Book" K) "__len__" (mad "Book" "__len__" K)
  o_Book_getitem : OwnM K (gad "Book" K) "__getitem__" (mad "Book" "__getitem__" K)
  o_Book_setitem : OwnM K (gad "Book" K) "__setitem__" (mad "Book" "__setitem__" K)
  cv_Book_MOST : ∃ u, ClX.CVal K (gad "Book" K) (.type "type") "MOST" (.int 6) u
  g_BadBook : mg "BadBook" = some (.ref (gad "BadBook" K))
  x_BadBook : PySem.W.excIn K (gad "BadBook" K) He.veBase "ValueError.__new__" = true ∧ PySem.W.keepIn K (.ref (gad "BadBook" K)) = true ∧ PySem.W.subIn K (.ref (gad "BadBook" K)) (.type "BaseException") = some true ∧ PySem.W.typeIn K (.ref (gad "BadBook" K)) = some (.type "type")
  g_BadPhase : mg "BadPhase" = some (.ref (gad "BadPhase" K))
  ox_BadPhase : OexC K (gad "BadPhase" K)
  ei_BadPhase : PySem.W.findIn K (.ref (gad "BadPhase" K)) "__init__" = some (some (.ref (mad "BadPhase" "__init__" K))) ∧ PySem.W.typeIn K (.ref (mad "BadPhase" "__init__" K)) = some (.type "function")
  sp_BadPhase : (Fx.sup "BadPhase" "BadPhase" pFile "self").ok K = true
  na_BadPhase_field : NoAttr K (gad "BadPhase" K) "field"
  n_super : mg "super" = none
  F_l_pool : FunD K "_law_pool" "_law_pool" (defArgs s_l_pool) (defBody s_l_pool) (defScope s_l_pool) [] [] (gad "_law_pool" K) (fdD K (gad "_law_pool" K))
  F_l_take : FunD K "_law_take" "_law_take" (defArgs s_l_take) (defBody s_l_take) (defScope s_l_take) [] [] (gad "_law_take" K) (fdD K (gad "_law_take" K))
  F_l_int : FunD K "_law_int" "_law_int" (defArgs s_l_int) (defBody s_l_int) (defScope s_l_int) [] [] (gad "_law_int" K) (fdD K (gad "_law_int" K))
  F_l_raw : FunD K "_law_raw" "_law_raw" (defArgs s_l_raw) (defBody s_l_raw) (defScope s_l_raw) [] [] (gad "_law_raw" K) (fdD K (gad "_law_raw" K))
  F_BadPhase_init : ∃ cc cdv, FunC K "__init__" "BadPhase.__init__" (defArgs s_BadPhase_init) (defBody s_BadPhase_init) (defScope s_BadPhase_init) (mad "BadPhase" "__init__" K) cc cdv (fdD K (mad "BadPhase" "__init__" K))
  F_Phase_init : FunD K "__init__" "Phase.__init__" (defArgs s_Phase_init) (defBody s_Phase_init) (defScope s_Phase_init) [] [("barrier", V.str "guarded"), ("visits", V.bl false), ("pauses", V.bl true), ("stand", V.int (0)), ("skips", V.bl false)] (mad "Phase" "__init__" K) (fdD K (mad "Phase" "__init__" K))
  F_Phase_looks : FunD K "looks" "Phase.looks" (defArgs s_Phase_looks) (defBody s_Phase_looks) (defScope s_Phase_looks) [] [] (pad "property" "Phase" "looks" K) (fdD K (pad "property" "Phase" "looks" K))
  F_Phase_text : FunD K "text" "Phase.text" (defArgs s_Phase_text) (defBody s_Phase_text) (defScope s_Phase_text) [] [] (pad "property" "Phase" "text" K) (fdD K (pad "property" "Phase" "text" K))
  F_Phase_changed : FunD K "changed" "Phase.changed" (defArgs s_Phase_changed) (defBody s_Phase_changed) (defScope s_Phase_changed) [] [] (mad "Phase" "changed" K) (fdD K (mad "Phase" "changed" K))
  F_Book_init : FunD K "__init__" "Book.__init__" (defArgs s_Book_init) (defBody s_Book_init) (defScope s_Book_init) [] [] (mad "Book" "__init__" K) (fdD K (mad "Book" "__init__" K))
  F_Book_of : FunD K "of" "Book.of" (defArgs s_Book_of) (defBody s_Book_of) (defScope s_Book_of) [] [] (pad "classmethod" "Book" "of" K) (fdD K (pad "classmethod" "Book" "of" K))
  F_Book_len : FunD K "__len__" "Book.__len__" (defArgs s_Book_len) (defBody s_Book_len) (defScope s_Book_len) [] [] (mad "Book" "__len__" K) (fdD K (mad "Book" "__len__" K))
  F_Book_getitem : FunD K "__getitem__" "Book.__getitem__" (defArgs s_Book_getitem) (defBody s_Book_getitem) (defScope s_Book_getitem) [] [] (mad "Book" "__getitem__" K) (fdD K (mad "Book" "__getitem__" K))
  F_Book_setitem : FunD K "__setitem__" "Book.__setitem__" (defArgs s_Book_setitem) (defBody s_Book_setitem) (defScope s_Book_setitem) [] [] (mad "Book" "__setitem__" K) (fdD K (mad "Book" "__setitem__" K))
  F_Book_hues_setter : FunD K "hues" "Book.hues" (defArgs s_Book_hues_setter) (defBody s_Book_hues_setter) (defScope s_Book_hues_setter) [] [] (sad "Book" "hues" K) (fdD K (sad "Book" "hues" K))
  F_Book_recolour : FunD K "recolour" "Book.recolour" (defArgs s_Book_recolour) (defBody s_Book_recolour) (defScope s_Book_recolour) [] [] (mad "Book" "recolour" K) (fdD K (mad "Book" "recolour" K))
  F_Book_text : FunD K "text" "Book.text" (defArgs s_Book_text) (defBody s_Book_text) (defScope s_Book_text) [] [] (pad "property" "Book" "text" K) (fdD K (pad "property" "Book" "text" K))
  F_faults : FunD K "faults" "faults" (defArgs s_faults) (defBody s_faults) (defScope s_faults) [] [] (gad "faults" K) (fdD K (gad "faults" K))
  F_wrongs_of : FunD K "wrongs_of" "wrongs_of" (defArgs s_wrongs_of) (defBody s_wrongs_of) (defScope s_wrongs_of) [] [] (gad "wrongs_of" K) (fdD K (gad "wrongs_of" K))
  F_l_calm : FunD K "_law_calm" "_law_calm" (defArgs s_l_calm) (defBody s_l_calm) (defScope s_l_calm) [] [] (gad "_law_calm" K) (fdD K (gad "_law_calm" K))
  F_l_rows : FunD K "_law_rows" "_law_rows" (defArgs s_l_rows) (defBody s_l_rows) (defScope s_l_rows) [] [] (gad "_law_rows" K) (fdD K (gad "_law_rows" K))
  F_l_phase : FunD K "_law_phase" "_law_phase" (defArgs s_l_phase) (defBody s_l_phase) (defScope s_l_phase) [] [] (gad "_law_phase" K) (fdD K (gad "_law_phase" K))
  F_l_book : FunD K "_law_book" "_law_book" (defArgs s_l_book) (defBody s_l_book) (defScope s_l_book) [] [] (gad "_law_book" K) (fdD K (gad "_law_book" K))
  F_l_wrongs : FunD K "_law_wrongs" "_law_wrongs" (defArgs s_l_wrongs) (defBody s_l_wrongs) (defScope s_l_wrongs) [] [] (gad "_law_wrongs" K) (fdD K (gad "_law_wrongs" K))
  F_l_standings : FunD K "_law_standings" "_law_standings" (defArgs s_l_standings) (defBody s_l_standings) (defScope s_l_standings) [] [] (gad "_law_standings" K) (fdD K (gad "_law_standings" K))
  F_l_told : FunD K "_law_told" "_law_told" (defArgs s_l_told) (defBody s_l_told) (defScope s_l_told) [] [] (gad "_law_told" K) (fdD K (gad "_law_told" K))
  F_l_recolour : FunD K "_law_recolour" "_law_recolour" (defArgs s_l_recolour) (defBody s_l_recolour) (defScope s_l_recolour) [] [] (gad "_law_recolour" K) (fdD K (gad "_law_recolour" K))
  F_law : FunD K "law" "law" (defArgs s_law) (defBody s_law) (defScope s_law) [] [] (gad "law" K) (fdD K (gad "law" K))
theorem Tx.of {K : PySem.W.Frag} {h : Heap} {mg : Str → Option Value} (X : K.In h) (G : h.Ns mainGlobals mg) (c : SaysX faAll fxAll dsAll K) : Tx K mg where
  n_abs := He.free_ok X G (c.fact 0 (f := .free "abs") rfl)
  n_bool := He.free_ok X G (c.fact 1 (f := .free "bool") rfl)
  n_int := He.free_ok X G (c.fact 2 (f := .free "int") rfl)
  n_isinstance := He.free_ok X G (c.fact 3 (f := .free "isinstance") rfl)
  n_len := He.free_ok X G (c.fact 4 (f := .free "len") rfl)
  n_list := He.free_ok X G (c.fact 5 (f := .free "list") rfl)
  n_max := He.free_ok X G (c.fact 6 (f := .free "max") rfl)
  n_range := He.free_ok X G (c.fact 7 (f := .free "range") rfl)
  n_sorted := He.free_ok X G (c.fact 8 (f := .free "sorted") rfl)
  n_str := He.free_ok X G (c.fact 9 (f := .free "str") rfl)
  n_tuple := He.free_ok X G (c.fact 10 (f := .free "tuple") rfl)
  n_zip := He.free_ok X G (c.fact 11 (f := .free "zip") rfl)
  g_l_pool := He.glo_ok X G (c.fact 12 (f := .glo "_law_pool") rfl)
  g_l_take := He.glo_ok X G (c.fact 13 (f := .glo "_law_take") rfl)
  g_l_int := He.glo_ok X G (c.fact 14 (f := .glo "_law_int") rfl)
  g_l_raw := He.glo_ok X G (c.fact 15 (f := .glo "_law_raw") rfl)
  g_faults := He.glo_ok X G (c.fact 16 (f := .glo "faults") rfl)
  g_wrongs_of := He.glo_ok X G (c.fact 17 (f := .glo "wrongs_of") rfl)
  g_l_calm := He.glo_ok X G (c.fact 18 (f := .glo "_law_calm") rfl)
  g_l_rows := He.glo_ok X G (c.fact 19 (f := .glo "_law_rows") rfl)
  g_l_phase := He.glo_ok X G (c.fact 20 (f := .glo "_law_phase") rfl)
  g_l_book := He.glo_ok X G (c.fact 21 (f := .glo "_law_book") rfl)
  g_l_wrongs := He.glo_ok X G (c.fact 22 (f := .glo "_law_wrongs") rfl)
  g_l_standings := He.glo_ok X G (c.fact 23 (f := .glo "_law_standings") rfl)
  g_l_told := He.glo_ok X G (c.fact 24 (f := .glo "_law_told") rfl)
  g_l_recolour := He.glo_ok X G (c.fact 25 (f := .glo "_law_recolour") rfl)
  g_law := He.glo_ok X G (c.fact 26 (f := .glo "law") rfl)
  g_BARRIERS := He.glo_ok X G (c.fact 27 (f := .glo "BARRIERS") rfl)
  t_BARRIERS := tup_ok (c.more 0 (f := .tup "BARRIERS" [.str "none", .str "follow", .str "plain", .str "guarded"]) rfl)
  g_MOST_HUE := He.int_ok X G (c.fact 28 (f := .int "MOST_HUE" 5) rfl)
  g_MOST_STAND := He.int_ok X G (c.fact 29 (f := .int "MOST_STAND" 7) rfl)
  g_Phase := He.glo_ok X G (c.fact 30 (f := .glo "Phase") rfl)
  c_Phase := He.cls_ok (c.fact 31 (f := .cls "Phase") rfl)
  na_Phase_hue := He.noat_ok (c.fact 32 (f := .noat "Phase" "hue") rfl)
  na_Phase_barrier := He.noat_ok (c.fact 33 (f := .noat "Phase" "barrier") rfl)
  na_Phase_visits := He.noat_ok (c.fact 34 (f := .noat "Phase" "visits") rfl)
  na_Phase_pauses := He.noat_ok (c.fact 35 (f := .noat "Phase" "pauses") rfl)
  na_Phase_stand := He.noat_ok (c.fact 36 (f := .noat "Phase" "stand") rfl)
  na_Phase_skips := He.noat_ok (c.fact 37 (f := .noat "Phase" "skips") rfl)
  mk_Phase := He.mkr_ok (c.fact 38 (f := .mkr "Phase") rfl)
  p_Phase_looks := prop_ok (c.more 1 (f := .prop "Phase" "looks") rfl)
  p_Phase_text := prop_ok (c.more 2 (f := .prop "Phase" "text") rfl)
  m_Phase_changed := He.meth_ok (c.fact 39 (f := .meth "Phase" "changed") rfl)
  i_Phase := (c.more 3 (f := .inst "Phase") rfl)
  g_Book := He.glo_ok X G (c.fact 40 (f := .glo "Book") rfl)
  c_Book := He.cls_ok (c.fact 41 (f := .cls "Book") rfl)
  na_Book_phases := He.noat_ok (c.fact 42 (f := .noat "Book" "phases") rfl)
  mk_Book := He.mkr_ok (c.fact 43 (f := .mkr "Book") rfl)
  m_Book_getitem := He.meth_ok (c.fact 44 (f := .meth "Book" "__getitem__") rfl)
  m_Book_setitem := He.meth_ok (c.fact 45 (f := .meth "Book" "__setitem__") rfl)
  ps_Book_hues_setter := pset_ok (c.more 4 (f := .pset "Book" "hues") rfl)
  m_Book_recolour := He.meth_ok (c.fact 46 (f := .meth "Book" "recolour") rfl)
  p_Book_text := prop_ok (c.more 5 (f := .prop "Book" "text") rfl)
  i_Book := (c.more 6 (f := .inst "Book") rfl)
  k_Phase_Phase := kit_ok (c.more 7 (f := .kit (.own "Phase") (.own "Phase") true) rfl)
  k_Book_Book := kit_ok (c.more 8 (f := .kit (.own "Book") (.own "Book") true) rfl)
  cr_Book := cread_ok (c.more 9 (f := .cread "Book") rfl)
  cm_Book_of := cmeth_ok (c.more 10 (f := .cmeth "Book" "of") rfl)
  o_Book_len := own_ok (c.more 11 (f := .own "Book" "__len__") rfl)
  o_Book_getitem := own_ok (c.more 12 (f := .own "Book" "__getitem__") rfl)
  o_Book_setitem := own_ok (c.more 13 (f := .own "Book" "__setitem__") rfl)
  cv_Book_MOST := cint_ok (c.more 14 (f := .cint "Book" "MOST" 6) rfl)
  g_BadBook := He.glo_ok X G (c.fact 47 (f := .glo "BadBook") rfl)
  x_BadBook := He.exc_ok (c.fact 48 (f := .exc "BadBook") rfl)
  g_BadPhase := He.glo_ok X G (c.fact 49 (f := .glo "BadPhase") rfl)
  ox_BadPhase := oex_ok (c.more 15 (f := .oex "BadPhase") rfl)
  ei_BadPhase := einit_ok (c.more 16 (f := .einit "BadPhase" "BadPhase") rfl)
  sp_BadPhase := (c.more 17 (f := .sup "BadPhase" "BadPhase" pFile "self") rfl)
  na_BadPhase_field := He.noat_ok (c.fact 50 (f := .noat "BadPhase" "field") rfl)
  n_super := He.free_ok X G (c.fact 51 (f := .free "super") rfl)
  F_l_pool := c.fd 0 (d := d_l_pool) rfl
  F_l_take := c.fd 1 (d := d_l_take) rfl
  F_l_int := c.fd 2 (d := d_l_int) rfl
  F_l_raw := c.fd 3 (d := d_l_raw) rfl
  F_BadPhase_init := c.fdc 4 (d := d_BadPhase_init) rfl
  F_Phase_init := c.fd 5 (d := d_Phase_init) rfl
  F_Phase_looks := c.fd 6 (d := d_Phase_looks) rfl
  F_Phase_text := c.fd 7 (d := d_Phase_text) rfl
  F_Phase_changed := c.fd 8 (d := d_Phase_changed) rfl
  F_Book_init := c.fd 9 (d := d_Book_init) rfl
  F_Book_of := c.fd 10 (d := d_Book_of) rfl
  F_Book_len := c.fd 11 (d := d_Book_len) rfl
  F_Book_getitem := c.fd 12 (d := d_Book_getitem) rfl
  F_Book_setitem := c.fd 13 (d := d_Book_setitem) rfl
  F_Book_hues_setter := c.fd 14 (d := d_Book_hues_setter) rfl
  F_Book_recolour := c.fd 15 (d := d_Book_recolour) rfl
  F_Book_text := c.fd 16 (d := d_Book_text) rfl
  F_faults := c.fd 17 (d := d_faults) rfl
  F_wrongs_of := c.fd 18 (d := d_wrongs_of) rfl
  F_l_calm := c.fd 19 (d := d_l_calm) rfl
  F_l_rows := c.fd 20 (d := d_l_rows) rfl
  F_l_phase := c.fd 21 (d := d_l_phase) rfl
  F_l_book := c.fd 22 (d := d_l_book) rfl
  F_l_wrongs := c.fd 23 (d := d_l_wrongs) rfl
  F_l_standings := c.fd 24 (d := d_l_standings) rfl
  F_l_told := c.fd 25 (d := d_l_told) rfl
  F_l_recolour := c.fd 26 (d := d_l_recolour) rfl
  F_law := c.fd 27 (d := d_law) rfl
theorem bd_l_pool {K : PySem.W.Frag} {mg : Str → Option Value} (T : Tx K mg) : Binds K (fdD K (gad "_law_pool" K)) P_l_pool [] := T.F_l_pool.bindsN fun _ _ _ _ _ _ us hl => match us, hl with | [_], _ => rfl
theorem bd_l_take {K : PySem.W.Frag} {mg : Str → Option Value} (T : Tx K mg) : Binds K (fdD K (gad "_law_take" K)) P_l_take [] := T.F_l_take.bindsN fun _ _ _ _ _ _ us hl => match us, hl with | [_, _], _ => rfl
theorem bd_l_int {K : PySem.W.Frag} {mg : Str → Option Value} (T : Tx K mg) : Binds K (fdD K (gad "_law_int" K)) P_l_int [] := T.F_l_int.bindsN fun _ _ _ _ _ _ us hl => match us, hl with | [_], _ => rfl
theorem bd_l_raw {K : PySem.W.Frag} {mg : Str → Option Value} (T : Tx K mg) : Binds K (fdD K (gad "_law_raw" K)) P_l_raw [] := T.F_l_raw.bindsN fun _ _ _ _ _ _ us hl => match us, hl with | [_], _ => rfl
theorem bd_BadPhase_init {K : PySem.W.Frag} {mg : Str → Option Value} (T : Tx K mg) : Binds K (fdD K (mad "BadPhase" "__init__" K)) P_BadPhase_init [] := by
  obtain ⟨cc, cdv, F⟩ := T.F_BadPhase_init
  exact F.binds fun _ _ _ _ _ _ us hl => match us, hl with | [_, _], _ => rfl
theorem bd0_Phase_init {K : PySem.W.Frag} {mg : Str → Option Value} (T : Tx K mg) : ∃ ds, Vals (([("barrier", V.str "guarded"), ("visits", V.bl false), ("pauses", V.bl true), ("stand", V.int (0)), ("skips", V.bl false)] : List (Str × V)).map (·.2)) ds ∧ Binds K (fdD K (mad "Phase" "__init__" K)) P_Phase_init ds := T.F_Phase_init.binds0 2 (by simp) rfl (fun D doc pm an cdv ct us ks h1 h2 => match us, ks, h1, h2 with | [_, _], [_, _, _, _, _], _, _ => ⟨_, _, _, _, _, _, rfl, rfl, ⟨_, _, _, _, _, _, rfl, rfl, ⟨_, _, _, _, _, _, rfl, rfl, ⟨_, _, _, _, _, _, rfl, rfl, ⟨_, _, _, _, _, _, rfl, rfl, rfl⟩⟩⟩⟩⟩)
theorem bd_Phase_looks {K : PySem.W.Frag} {mg : Str → Option Value} (T : Tx K mg) : Binds K (fdD K (pad "property" "Phase" "looks" K)) P_Phase_looks [] := T.F_Phase_looks.bindsN fun _ _ _ _ _ _ us hl => match us, hl with | [_], _ => rfl
theorem bd_Phase_text {K : PySem.W.Frag} {mg : Str → Option Value} (T : Tx K mg) : Binds K (fdD K (pad "property" "Phase" "text" K)) P_Phase_text [] := T.F_Phase_text.bindsN fun _ _ _ _ _ _ us hl => match us, hl with | [_], _ => rfl
theorem bd_Book_of {K : PySem.W.Frag} {mg : Str → Option Value} (T : Tx K mg) : Binds K (fdD K (pad "classmethod" "Book" "of" K)) P_Book_of [] := T.F_Book_of.bindsN fun _ _ _ _ _ _ us hl => match us, hl with | [_, _], _ => rfl
theorem bd_Book_len {K : PySem.W.Frag} {mg : Str → Option Value} (T : Tx K mg) : Binds K (fdD K (mad "Book" "__len__" K)) P_Book_len [] := T.F_Book_len.bindsN fun _ _ _ _ _ _ us hl => match us, hl with | [_], _ => rfl
theorem bd_Book_getitem {K : PySem.W.Frag} {mg : Str → Option Value} (T : Tx K mg) : Binds K (fdD K (mad "Book" "__getitem__" K)) P_Book_getitem [] := T.F_Book_getitem.bindsN fun _ _ _ _ _ _ us hl => match us, hl with | [_, _], _ => rfl
theorem bd_Book_setitem {K : PySem.W.Frag} {mg : Str → Option Value} (T : Tx K mg) : Binds K (fdD K (mad "Book" "__setitem__" K)) P_Book_setitem [] := T.F_Book_setitem.bindsN fun _ _ _ _ _ _ us hl => match us, hl with | [_, _, _], _ => rfl
theorem bd_Book_hues_setter {K : PySem.W.Frag} {mg : Str → Option Value} (T : Tx K mg) : Binds K (fdD K (sad "Book" "hues" K)) P_Book_hues_setter [] := T.F_Book_hues_setter.bindsN fun _ _ _ _ _ _ us hl => match us, hl with | [_, _], _ => rfl
theorem bd_Book_text {K : PySem.W.Frag} {mg : Str → Option Value} (T : Tx K mg) : Binds K (fdD K (pad "property" "Book" "text" K)) P_Book_text [] := T.F_Book_text.bindsN fun _ _ _ _ _ _ us hl => match us, hl with | [_], _ => rfl
theorem bd_faults {K : PySem.W.Frag} {mg : Str → Option Value} (T : Tx K mg) : Binds K (fdD K (gad "faults" K)) P_faults [] := T.F_faults.bindsN fun _ _ _ _ _ _ us hl => match us, hl with | [_, _], _ => rfl
theorem bd_wrongs_of {K : PySem.W.Frag} {mg : Str → Option Value} (T : Tx K mg) : Binds K (fdD K (gad "wrongs_of" K)) P_wrongs_of [] := T.F_wrongs_of.bindsN fun _ _ _ _ _ _ us hl => match us, hl with | [_, _], _ => rfl
theorem bd_l_calm {K : PySem.W.Frag} {mg : Str → Option Value} (T : Tx K mg) : Binds K (fdD K (gad "_law_calm" K)) P_l_calm [] := T.F_l_calm.bindsN fun _ _ _ _ _ _ us hl => match us, hl with | [_, _, _], _ => rfl
theorem bd_l_rows {K : PySem.W.Frag} {mg : Str → Option Value} (T : Tx K mg) : Binds K (fdD K (gad "_law_rows" K)) P_l_rows [] := T.F_l_rows.bindsN fun _ _ _ _ _ _ us hl => match us, hl with | [_, _], _ => rfl
theorem bd_l_phase {K : PySem.W.Frag} {mg : Str → Option Value} (T : Tx K mg) : Binds K (fdD K (gad "_law_phase" K)) P_l_phase [] := T.F_l_phase.bindsN fun _ _ _ _ _ _ us hl => match us, hl with | [_], _ => rfl
theorem bd_l_book {K : PySem.W.Frag} {mg : Str → Option Value} (T : Tx K mg) : Binds K (fdD K (gad "_law_book" K)) P_l_book [] := T.F_l_book.bindsN fun _ _ _ _ _ _ us hl => match us, hl with | [_], _ => rfl
theorem bd_l_wrongs {K : PySem.W.Frag} {mg : Str → Option Value} (T : Tx K mg) : Binds K (fdD K (gad "_law_wrongs" K)) P_l_wrongs [] := T.F_l_wrongs.bindsN fun _ _ _ _ _ _ us hl => match us, hl with | [_, _], _ => rfl
theorem bd_l_standings {K : PySem.W.Frag} {mg : Str → Option Value} (T : Tx K mg) : Binds K (fdD K (gad "_law_standings" K)) P_l_standings [] := T.F_l_standings.bindsN fun _ _ _ _ _ _ us hl => match us, hl with | [_, _, _], _ => rfl
theorem bd_l_told {K : PySem.W.Frag} {mg : Str → Option Value} (T : Tx K mg) : Binds K (fdD K (gad "_law_told" K)) P_l_told [] := T.F_l_told.bindsN fun _ _ _ _ _ _ us hl => match us, hl with | [_, _, _], _ => rfl
theorem bd_l_recolour {K : PySem.W.Frag} {mg : Str → Option Value} (T : Tx K mg) : Binds K (fdD K (gad "_law_recolour" K)) P_l_recolour [] := T.F_l_recolour.bindsN fun _ _ _ _ _ _ us hl => match us, hl with | [_, _], _ => rfl
theorem bd_law {K : PySem.W.Frag} {mg : Str → Option Value} (T : Tx K mg) : Binds K (fdD K (gad "law" K)) P_law [] := T.F_law.bindsN fun _ _ _ _ _ _ us hl => match us, hl with | [_], _ => rfl
def looseAll : List Str := (["_wall", "faults", "wrongs_of", "RoundError", "BadBook", "BadPhase", "BARRIERS", "MOST_HUE", "MOST_STAND", "Phase", "Book", "_law_int", "_law_pool", "_law_take", "_law_raw", "_law_calm", "_law_rows", "_law_phase", "_law_book", "_law_wrongs", "_law_standings", "_law_told", "_law_recolour"] : List Str)
abbrev Rr : PySem.W.OpenRow := PySem.W.OpenLaw.row PySem.Challenge.rw_huerounds_k15_wrongs_of_standings
abbrev hkA : PySem.W.Hook := hookX 6 faAll fxAll dsAll
def obA (s : PySem.W.SharedT) : AlX := obsXG 6 faAll fxAll dsAll (HandSHeadRun.getT s)
theorem obA_eq (s : PySem.W.SharedT) : obA s = hkA.obs s.abs := obsXG_eq (HandSHeadRun.getT_eq s)
theorem runA (w : World) : HandSHeadRun.RunEq Rr (PySem.W.view Rr.prog [27]) hkA obA 8000 looseAll w := by
  intro os
  kernel_rfl

theorem kb_Phase_barrier_visits_pauses_stand_skips {K : PySem.W.Frag} {mg : Str → Option Value} (T : Tx K mg) : ∃ g, KBn K (fdD K (mad "Phase" "__init__" K)) P_Phase_init 2 ["barrier", "visits", "pauses", "stand", "skips"] g (fun us zs => us ++ ((zs.drop 0).take 1 ++ ((zs.drop 1).take 1 ++ ((zs.drop 2).take 1 ++ ((zs.drop 3).take 1 ++ ((zs.drop 4).take 1)))))) := by
  obtain ⟨mv, h⟩ := FunD.kbinds0 (ps := P_Phase_init) T.F_Phase_init 2 ["barrier", "visits", "pauses", "stand", "skips"] ([] : List (Str × V)) (fun us mz zs => us ++ ((zs.drop 0).take 1 ++ ((zs.drop 1).take 1 ++ ((zs.drop 2).take 1 ++ ((zs.drop 3).take 1 ++ ((zs.drop 4).take 1)))))) (by simp) (by simp) (fun r1 r2 r3 => Vals.append r1 (Vals.append (Vals.take 1 (Vals.drop 0 r3)) (Vals.append (Vals.take 1 (Vals.drop 1 r3)) (Vals.append (Vals.take 1 (Vals.drop 2 r3)) (Vals.append (Vals.take 1 (Vals.drop 3 r3)) (Vals.take 1 (Vals.drop 4 r3)))))))
    (fun D doc pm an cdv ct us mv ws h1 h2 h3 => match us, mv, ws, h1, h2, h3 with | [_, _], [], [_, _, _, _, _], _, _, _ => rfl)
  exact ⟨_, h⟩
local macro_rules | `(tactic| walk_at "hp") => `(tactic| first
  | assumption
  | exact upd_same
  | (refine upd_old (by assumption) ?_; walk_at "hp")
  | (refine upd_oth (by assumption) ?_; walk_at "hp")
  | (refine same_get (by assumption) ?_; walk_at "hp")
  | (refine Fl.get (by assumption) (by assumption) ?_; walk_at "hp"))
local macro_rules | `(tactic| walk_at "seq") => `(tactic| first
  | assumption
  | exact T.t_BARRIERS _
  | exact SqL.of (by walk_at "hp")
  | exact SqT.of (by walk_at "hp"))
local macro_rules | `(tactic| walk_at "len") => `(tactic| first
  | exact Or.inl (by walk_at "seq")
  | exact Or.inr (by walk_at "seq"))
local macro_rules | `(tactic| walk_at "at") => `(tactic| first
  | rfl
  | assumption)

/-! ### drawn numbers -/
/-- all but l stands as it stood -/
def Fl (l : Addr) (H H' : Hp) : Prop := ∀ a o, a ≠ l → H a = some o → H' a = some o
theorem Fl.refl (l : Addr) (H : Hp) : Fl l H H := fun _ _ _ h => h
theorem Fl.trans {l : Addr} {H H1 H2 : Hp} (a : Fl l H H1) (b : Fl l H1 H2) : Fl l H H2 := fun c o n h => b c o n (a c o n h)
theorem Fl.cell {l : Addr} {H : Hp} {o : HO} : Fl l H (L2.upd H l o) := fun _ _ n h => upd_oth n h
theorem Fl.same {l : Addr} {H H' : Hp} (e : Same H H') : Fl l H H' := fun a o _ h => e a o h
theorem Fl.new {l p : Addr} {H : Hp} {o : HO} (n : H p = none) : Fl l H (L2.upd H p o) := fun _ _ _ h => upd_old n h
theorem Fl.add {l p : Addr} {H H' : Hp} {o : HO} (e : Fl l H H') (n : H' p = none) : Fl l H (L2.upd H' p o) := e.trans (Fl.new n)
theorem Fl.put {l : Addr} {H H' : Hp} {o : HO} (e : Fl l H H') : Fl l H (L2.upd H' l o) := e.trans Fl.cell
theorem Fl.get {l a : Addr} {H H' : Hp} {o : HO} (e : Fl l H H') (n : a ≠ l) (h : H a = some o) : H' a = some o := e a o n h
theorem Fl.free {l p : Addr} {H H' : Hp} (e : Fl l H H') (n : p ≠ l) (h : H' p = none) : H p = none := by
  cases q : H p with
  | none => rfl
  | some o => rw [e p o n q] at h; cases h
theorem Fl.seq {K : PySem.W.Frag} {l a : Addr} {H H' : Hp} {xs : List V} (e : Fl l H H') (n : a ≠ l) (h : SqL K H a xs) : SqL K H' a xs := by
  rcases h with (h | ⟨o, h⟩) | h
  · exact .inl (.inl (e _ _ n h))
  · exact .inl (.inr ⟨o, e _ _ n h⟩)
  · exact .inr h
/-- a pool of drawn numbers stands at l -/
def PoolAt (H : Hp) (l : Addr) : Prop := ∃ ns : List Int, H l = some (.lst (ns.map V.int)) ∧ ns.length ≤ 5000
theorem PoolAt.upd {H : Hp} {l p : Addr} {o : HO} (h : PoolAt H l) (n : H p = none) : PoolAt (L2.upd H p o) l := by
  obtain ⟨ns, h1, h2⟩ := h
  exact ⟨ns, upd_old n h1, h2⟩
theorem PoolAt.ne {H : Hp} {l p : Addr} (h : PoolAt H l) (n : H p = none) : p ≠ l := by
  obtain ⟨ns, h1, _⟩ := h
  exact (ne_of_none h1 n).symm
/-- a pool drawn from: a number below m, l alone is changed -/
def spPool (K : PySem.W.Frag) : Sp := fun vs H Q _ => ∃ (a : Addr) (ns : List Int), vs = [.ref a] ∧ SqL K H a (ns.map V.int) ∧ ns.length ≤ 63 ∧
  ∀ p H', H p = none → Same H H' → PoolAt H' p → Q (.ref p) H'
def spTake : Sp := fun vs H Q _ => ∃ (l : Addr) (m : Int), vs = [.ref l, .int m] ∧ PoolAt H l ∧ 0 < m ∧
  ∀ v H', 0 ≤ v → v < m → Fl l H H' → PoolAt H' l → Q (.int v) H'
def spNumber : Sp := fun vs H Q _ => ∃ (l : Addr), vs = [.ref l] ∧ PoolAt H l ∧ ∀ v H', 0 ≤ v → v.toNat < 2 ^ 200 → Fl l H H' → PoolAt H' l → Q (.int v) H'
section
variable {P : Program} [SupP P pFile] {w : World} {K : PySem.W.Frag} {mg : Str → Option Value} {base : Heap}
theorem ok_l_pool (T : Tx K mg) : FnOk P w K mg base CX0 1 (gad "_law_pool" K) (fdD K (gad "_law_pool" K)) P_l_pool (spPool K) := by
  refine T.F_l_pool.ok sc_l_pool (fun vs H Q E h => ?_) (fun cdv A outer s H vs Q E hr h => ?_)
  · obtain ⟨a, ns, rfl, _⟩ := h; rfl
  · obtain ⟨a, ns, rfl, hS, hlen, k⟩ := h
    refine ⟨_, PSs.nox ((pss_cons (ps_set (i := 1) sc_l_pool.nd rfl (Or.inl rfl) (pe_lst pa_nil))
      (pss_cons (ps_set (i := 2) sc_l_pool.nd rfl (Or.inl rfl) pe_int)
      (pss_cons (ps_for PassesOwn.never rfl (pi_list (pv 0)) (pg_name (i := 3) sc_l_pool.nd rfl (Or.inl rfl)) (pss_cons (ps_set (i := 4) sc_l_pool.nd rfl (Or.inl rfl) (pe_callB call_abs (by rfl) T.n_abs (by decide +kernel) (pa_cons (pe_callTy call_intI (by rfl) T.n_int (by decide +kernel) (pa_cons (pv 3) pa_nil)) pa_nil)))
      (pss_cons (ps_set (i := 2) sc_l_pool.nd rfl (Or.inl rfl) (pe_op op_mod (pe_callTy call_intI (by rfl) T.n_int (by decide +kernel) (pa_cons (pe_op op_add (pe_op op_mul (pv 2) pe_int) (pe_callTy call_intI (by rfl) T.n_int (by decide +kernel) (pa_cons (pv 3) pa_nil))) pa_nil)) pe_int))
      (pss_one (ps_if (pt_cmpR op_ge (pv 4) (pe_op op_pow pe_int pe_int) (nomark _)) (pss_one (ps_for PassesOwn.never rfl (pi_range1 (by rfl) T.n_range (pa_cons pe_int pa_nil)) (pg_name (i := 5) sc_l_pool.nd rfl (Or.inl rfl)) (pss_one (ps_if (pt_cmpR op_gt (pv 4) pe_int (nomark _)) (pss_cons (ps_expr (pe_bm PySem.F.plainAttrs_list PySem.F.slot_list_append PySem.F.type_list_append mt_append (pv 1) (pa_cons (pe_op op_mod (pe_callTy call_intI (by rfl) T.n_int (by decide +kernel) (pa_cons (pv 4) pa_nil)) pe_int) pa_nil)))
      (pss_one (ps_set (i := 4) sc_l_pool.nd rfl (Or.inl rfl) (pe_op op_fdiv (pv 4) pe_int)))) pss_nil)))) (pss_one (ps_for PassesOwn.never rfl (pi_range1 (by rfl) T.n_range (pa_cons pe_int pa_nil)) (pg_name (i := 5) sc_l_pool.nd rfl (Or.inl rfl)) (pss_cons (ps_set (i := 6) sc_l_pool.nd rfl (Or.inl rfl) (pe_op op_mod (pe_callTy call_intI (by rfl) T.n_int (by decide +kernel) (pa_cons (pe_op op_add (pe_op op_add (pe_op op_add (pe_op op_mul (pv 4) pe_int) (pe_op op_mul (pv 5) pe_int)) (pe_op op_mul pe_int (pe_callTy call_intB (by rfl) T.n_int (by decide +kernel) (pa_cons (pe_cmpR op_lt (pv 3) pe_int (nomark _)) pa_nil)))) pe_int) pa_nil)) pe_int))
      (pss_one (ps_expr (pe_bm PySem.F.plainAttrs_list PySem.F.slot_list_append PySem.F.type_list_append mt_append (pv 1) (pa_cons (pe_op op_mod (pe_callTy call_intI (by rfl) T.n_int (by decide +kernel) (pa_cons (pe_op op_mul (pv 6) (pv 6)) pa_nil)) pe_int) pa_nil))))))))))))
      (pss_cons (ps_for PassesOwn.never rfl (pi_range1 (by rfl) T.n_range (pa_cons (pe_op op_mul pe_int (pe_callTy call_intB (by rfl) T.n_int (by decide +kernel) (pa_cons (pe_cmpR op_gt (pe_callB call_len_seq (by rfl) T.n_len (by decide +kernel) (pa_cons (pv 0) pa_nil)) pe_int (nomark _)) pa_nil))) pa_nil)) (pg_name (i := 5) sc_l_pool.nd rfl (Or.inl rfl)) (pss_cons (ps_set (i := 2) sc_l_pool.nd rfl (Or.inl rfl) (pe_op op_mod (pe_callTy call_intI (by rfl) T.n_int (by decide +kernel) (pa_cons (pe_op op_add (pe_op op_mul (pv 2) pe_int) pe_int) pa_nil)) pe_int))
      (pss_one (ps_expr (pe_bm PySem.F.plainAttrs_list PySem.F.slot_list_append PySem.F.type_list_append mt_append (pv 1) (pa_cons (pe_op op_mod (pe_callTy call_intI (by rfl) T.n_int (by decide +kernel) (pa_cons (pe_op op_fdiv (pv 2) pe_int) pa_nil)) pe_int) pa_nil))))))
      (pss_one (ps_ret (pv 1)))))))), ?_⟩
    refine ⟨by decide, fun l nl => ?_⟩
    refine ⟨_, rfl, a, rfl, ⟨_, (Same.new nl).seq hS⟩, for_list (K := K) (a := a) (xs := ns.map V.int)
      (fun i σ H' => ∃ (qs : List Int) (mix : Int) (c n q d : Option V), σ = [some (.ref a), some (.ref l), some (.int mix), c, n, q, d] ∧ Same H H' ∧ H' l = some (.lst (qs.map V.int)) ∧ qs.length ≤ 60 * i)
      ⟨[], 7, none, none, none, none, rfl, Same.new nl, upd_same, Nat.zero_le _⟩ (fun i σ H' _ ⟨_, _, _, _, _, _, _, S, _⟩ => S.seq hS) ?_ ?_⟩
    · rintro i y σ H1 hi ⟨qs, mix, c, n, q, d, rfl, S, hl, hz⟩
      have hi63 : i < 63 := by
        have z := (List.getElem?_eq_some_iff.mp hi).1
        rw [List.length_map] at z
        omega
      obtain ⟨u, rfl⟩ : ∃ u, y = V.int u := by
        rw [List.getElem?_map] at hi
        cases e : ns[i]? with
        | none => rw [e] at hi; cases hi
        | some u => rw [e] at hi; exact ⟨u, (Option.some.inj hi).symm⟩
      refine ⟨_, rfl, _, rfl, _, rfl, _, rfl, _, _, rfl, rfl, (.inr ⟨by decide, by decide⟩), _, rfl, _, rfl, _, _, rfl, rfl, _, rfl, _, _, rfl, rfl, (show (0 : Int) < 2147483647 by decide), _, rfl, _, _, rfl, rfl, ⟨by decide, by decide, by decide⟩, _, _, rfl, rfl, _, rfl, ?_⟩
      refine iteB (fun _ => ?_) (fun _ => ?_)
      · refine ⟨60, rfl, by decide, by decide, for_range (n := 60)
          (fun j σ H' => ∃ (qs : List Int) (mix n : Int) (c q d : Option V), σ = [some (.ref a), some (.ref l), some (.int mix), c, some (.int n), q, d] ∧ Same H H' ∧ H' l = some (.lst (qs.map V.int)) ∧ qs.length ≤ 60 * i + j)
          ⟨qs, _, _, _, _, _, rfl, S, hl, hz⟩ ?_ ?_⟩
        · rintro j σ H2 hj ⟨qs, mix, n, c, q, d, rfl, S, hl, hz⟩
          refine ⟨_, rfl, _, _, rfl, rfl, _, rfl, ?_⟩
          refine iteB (fun _ => ?_) (fun _ => ?_)
          · refine ⟨_, rfl, .inl ⟨rfl, _, SqL.of hl⟩, _, rfl, _, rfl, _, _, rfl, rfl, (show (0 : Int) < 1000003 by decide), _, _, _, rfl, rfl, hl, (by rw [List.length_map]; exact Nat.lt_of_le_of_lt (show qs.length ≤ 4000 by omega) (by decide)), _, rfl, _, _, rfl, rfl, ⟨by decide, by decide⟩, ?_⟩
            refine ⟨qs ++ [n % 1000003], _, _, _, _, _, rfl, fun b o e => ?_, by rw [upd_same, List.map_append]; rfl, by rw [List.length_append, List.length_singleton]; omega⟩
            rw [upd_ne (ne_of_none e nl)]
            exact S b o e
          · exact ⟨qs, _, _, _, _, _, rfl, S, hl, by omega⟩
        · rintro σ H2 ⟨qs, mix, n, c, q, d, rfl, S, hl, hz⟩
          exact ⟨qs, _, _, _, _, _, rfl, S, hl, by omega⟩
      · refine ⟨3, rfl, by decide, by decide, for_range (n := 3)
          (fun j σ H' => ∃ (qs : List Int) (mix n u : Int) (q d : Option V), σ = [some (.ref a), some (.ref l), some (.int mix), some (.int u), some (.int n), q, d] ∧ Same H H' ∧ H' l = some (.lst (qs.map V.int)) ∧ qs.length ≤ 60 * i + j)
          ⟨qs, _, _, _, _, _, rfl, S, hl, hz⟩ ?_ ?_⟩
        · rintro j σ H2 hj ⟨qs, mix, n, u, q, d, rfl, S, hl, hz⟩
          refine ⟨_, rfl, _, _, rfl, rfl, (.inr ⟨by decide, by decide⟩), _, rfl, _, _, rfl, rfl, (.inr ⟨by decide, by decide⟩), _, _, rfl, rfl, _, rfl, _, _, rfl, rfl, _, rfl, _, _, rfl, rfl, (.inl ⟨by decide, by decide⟩), _, _, rfl, rfl, _, _, rfl, rfl, _, rfl, _, _, rfl, rfl, (show (0 : Int) < 2147483647 by decide), _, rfl, .inl ⟨rfl, _, SqL.of hl⟩, _, rfl, _, rfl, _, _, rfl, rfl, .inl ?_, _, rfl, _, _, rfl, rfl, (show (0 : Int) < 1000003 by decide), _, _, _, rfl, rfl, hl, (by rw [List.length_map]; exact Nat.lt_of_le_of_lt (show qs.length ≤ 4000 by omega) (by decide)), ?_⟩
          · constructor <;> omega
          · refine ⟨qs ++ [_], _, _, _, _, _, rfl, fun b o e => ?_, by rw [upd_same, List.map_append]; rfl, by rw [List.length_append, List.length_singleton]; omega⟩
            rw [upd_ne (ne_of_none e nl)]
            exact S b o e
        · rintro σ H2 ⟨qs, mix, n, u, q, d, rfl, S, hl, hz⟩
          exact ⟨qs, _, _, _, _, _, rfl, S, hl, by omega⟩
    · rintro σ H1 ⟨qs, mix, c, n, q, d, rfl, S, hl, hz⟩
      rw [List.length_map] at hz
      refine ⟨_, rfl, _, _, rfl, .inl (S.seq hS), _, _, rfl, rfl, _, rfl, _, _, rfl, rfl, (.inl ⟨by decide, by decide⟩), ?_⟩
      refine ⟨_, rfl, by split <;> decide, by split <;> decide, for_range (n := _)
          (fun j σ H' => ∃ (qs : List Int) (mix : Int) (c n q d : Option V), σ = [some (.ref a), some (.ref l), some (.int mix), c, n, q, d] ∧ Same H H' ∧ H' l = some (.lst (qs.map V.int)) ∧ qs.length ≤ 4000 + j)
          ⟨qs, _, _, _, _, _, rfl, S, hl, by omega⟩ ?_ ?_⟩
      · rintro j σ H2 hj ⟨qs, mix, c, n, q, d, rfl, S, hl, hz⟩
        have hj2 : j < 240 := by
          revert hj
          split <;> omega
        refine ⟨_, rfl, _, _, rfl, rfl, (.inr ⟨by decide, by decide⟩), _, _, rfl, rfl, _, rfl, _, _, rfl, rfl, (show (0 : Int) < 2147483647 by decide), _, rfl, .inl ⟨rfl, _, SqL.of hl⟩, _, rfl, _, _, rfl, rfl, ⟨by decide, by decide⟩, _, rfl, _, _, rfl, rfl, (show (0 : Int) < 1000003 by decide), _, _, _, rfl, rfl, hl, (by rw [List.length_map]; exact Nat.lt_of_le_of_lt (show qs.length ≤ 5000 by omega) (by decide)), ?_⟩
        refine ⟨qs ++ [_], _, _, _, _, _, rfl, fun b o e => ?_, by rw [upd_same, List.map_append]; rfl, by rw [List.length_append, List.length_singleton]; omega⟩
        rw [upd_ne (ne_of_none e nl)]
        exact S b o e
      · rintro σ H2 ⟨qs, mix, c, n, q, d, rfl, S, hl, hz⟩
        refine ⟨_, rfl, k l H2 nl S ⟨qs, hl, ?_⟩⟩
        revert hz
        split <;> (simp only [Int.mul_one, Int.mul_zero]; intro hz; omega)
theorem seq0 {n : Nat} {m : Nat} (h : n = m + 1) : seqIndex? 0 n = some 0 := by
  subst h
  unfold seqIndex?
  simp
  try omega
theorem ok_l_take (T : Tx K mg) : FnOk P w K mg base CX0 1 (gad "_law_take" K) (fdD K (gad "_law_take" K)) P_l_take spTake := by
  refine T.F_l_take.ok sc_l_take (fun vs H Q E h => ?_) (fun cdv A outer s H vs Q E hr h => ?_)
  · obtain ⟨l, m, rfl, _⟩ := h; rfl
  · obtain ⟨l, m, rfl, ⟨ns, hl, hz⟩, hm, k⟩ := h
    refine ⟨_, PSs.nox ((pss_cons (ps_if (pt_cmpR op_eq (pe_callB call_len_seq (by rfl) T.n_len (by decide +kernel) (pa_cons (pv 0) pa_nil)) pe_int (nomark _)) (pss_one (ps_ret pe_int)) pss_nil)
      (pss_one (ps_ret (pe_op op_mod (pe_callTy call_intI (by rfl) T.n_int (by decide +kernel) (pa_cons (pe_bm PySem.F.plainAttrs_list PySem.F.slot_list_pop PySem.F.type_list_pop mt_popAt (pv 0) (pa_cons pe_int pa_nil)) pa_nil)) (pv 1)))))), ?_⟩
    refine ⟨_, rfl, _, _, rfl, (by walk_at "len"), rfl, _, rfl, ?_⟩
    cases ns with
    | nil =>
      refine iteT ?_
      exact k 0 H (Int.le_refl _) hm (Fl.refl _ _) ⟨[], hl, hz⟩
    | cons n t =>
      refine iteB (fun c => ?_) (fun _ => ?_)
      · have c1 := of_decide_eq_true c
        injection c1 with c2
        simp only [List.map_cons, List.length_cons] at c2
        omega
      · refine ⟨_, rfl, .inl ⟨rfl, _, SqL.of hl⟩, _, _, _, 0, _, rfl, rfl, hl, by decide, by decide, seq0 (m := t.length) (by simp), rfl, _, rfl, _, rfl, _, _, rfl, rfl, hm, ?_⟩
        exact k _ _ (Int.emod_nonneg _ (by omega)) (Int.emod_lt_of_pos _ hm) Fl.cell ⟨t, upd_same, by simp only [List.length_cons] at hz; omega⟩
end

/-! ### truth values asked; _law_is, _law_int -/
theorem few {f : Str} {v : V} {fs : List (Str × V)} {n : Nat} (h : fs.length < n) : (putF f v fs).length < n + 1 := Nat.lt_of_le_of_lt (length_putF f v fs) (Nat.succ_lt_succ h)
theorem iteD {p : Prop} [Decidable p] {A B : Prop} (h : p) (a : A) : if decide p = true then A else B := by rw [decide_eq_true h]; exact iteT a
theorem iteDN {p : Prop} [Decidable p] {A B : Prop} (h : ¬ p) (b : B) : if decide p = true then A else B := by rw [decide_eq_false h]; exact iteF b
theorem iteND {p : Prop} [Decidable p] {A B : Prop} (h : ¬ p) (a : A) : if (!decide p) = true then A else B := by rw [decide_eq_false h]; exact iteT a
theorem iteE {x : Bool} {A B : Prop} (e : x = false) (b : B) : if x = true then A else B := by rw [e]; exact iteF b
theorem iteY {x : Bool} {A B : Prop} (e : x = true) (a : A) : if x = true then A else B := by rw [e]; exact iteT a
def spIs : Sp := fun vs H Q _ => ∃ (x : V) (b : Bool), vs = [x, .bl b] ∧ (∃ c, x = .bl c ∧ Q (.bl (c == b)) H)
def spInt : Sp := fun vs H Q _ => ∃ i : Int, vs = [.int i] ∧ Q (.bl true) H
section
variable {P : Program} [SupP P pFile] {w : World} {K : PySem.W.Frag} {mg : Str → Option Value} {base : Heap}
theorem ok_l_int (T : Tx K mg) : FnOk P w K mg base CX0 1 (gad "_law_int" K) (fdD K (gad "_law_int" K)) P_l_int spInt := by
  refine T.F_l_int.ok sc_l_int (fun vs H Q E h => ?_) (fun cdv A outer s H vs Q E hr h => ?_)
  · obtain ⟨i, rfl, _⟩ := h; rfl
  · obtain ⟨i, rfl, k⟩ := h
    refine ⟨_, PSs.nox ((pss_one (ps_ret (pe_and (pe_callB call_isi (by rfl) T.n_isinstance (by decide +kernel) (pa_cons (pv 0) (pa_cons (pe_bty "int" rfl T.n_int (by decide +kernel)) pa_nil))) (pe_one (pe_not (pe_callB call_isi (by rfl) T.n_isinstance (by decide +kernel) (pa_cons (pv 0) (pa_cons (pe_bty "bool" rfl T.n_bool (by decide +kernel)) pa_nil))))))))), ?_⟩
    refine ⟨_, rfl, _, _, .type "int", .type "int", true, rfl, .ty _, .base (.int _), kit_ty (by decide +kernel), _, rfl, iteT ?_⟩
    exact ⟨_, rfl, _, _, .type "int", .type "bool", false, rfl, .ty _, .base (.int _), kit_ty (by decide +kernel), _, rfl, k⟩
end

/-! ### phases -/
inductive Bar where
  | none | follow | plain | guarded
  deriving DecidableEq
def Bar.s : Bar → Str
  | .none => "none"
  | .follow => "follow"
  | .plain => "plain"
  | .guarded => "guarded"
def barAt (i : Int) : Bar := if i = 0 then .none else if i = 1 then .follow else if i = 2 then .plain else .guarded
structure Ph where
  hue : Int
  bar : Bar
  vis : Bool
  pau : Bool
  std : Int
  skp : Bool
  deriving DecidableEq
structure Ph.Ok (r : Ph) : Prop where
  h0 : 0 ≤ r.hue
  h1 : r.hue ≤ 5
  s0 : 0 ≤ r.std
  s1 : r.std ≤ 7
/-- the fields as values: a row -/
def Ph.vs (r : Ph) : List V := [.int r.hue, .str r.bar.s, .bl r.vis, .bl r.pau, .int r.std, .bl r.skp]
abbrev barVs : List V := [V.str "none", V.str "follow", V.str "plain", V.str "guarded"]
theorem bar_in (b : Bar) : inV (.str b.s) barVs = true := by cases b <;> decide +kernel
theorem at_bar {i : Int} (h0 : 0 ≤ i) (h1 : i < 4) : atI barVs i = some (.str (barAt i).s) := by
  rcases (by omega : i = 0 ∨ i = 1 ∨ i = 2 ∨ i = 3) with rfl | rfl | rfl | rfl <;> rfl
/-- the attributes of a phase, in the order in which they are stored -/
def phF (r : Ph) : List (Str × V) := putF "skips" (.bl r.skp) (putF "stand" (.int r.std) (putF "pauses" (.bl r.pau) (putF "visits" (.bl r.vis) (putF "barrier" (.str r.bar.s) (putF "hue" (.int r.hue) [])))))
section
variable (r : Ph)
theorem ph_hue : (phF r).lookup ("hue" : Str) = some (.int r.hue) := by
  unfold phF
  simp only [lookup_putF]
  rw [if_neg (by decide +kernel), if_neg (by decide +kernel), if_neg (by decide +kernel), if_neg (by decide +kernel), if_neg (by decide +kernel), if_pos trivial]
theorem ph_barrier : (phF r).lookup ("barrier" : Str) = some (.str r.bar.s) := by
  unfold phF
  simp only [lookup_putF]
  rw [if_neg (by decide +kernel), if_neg (by decide +kernel), if_neg (by decide +kernel), if_neg (by decide +kernel), if_pos trivial]
theorem ph_visits : (phF r).lookup ("visits" : Str) = some (.bl r.vis) := by
  unfold phF
  simp only [lookup_putF]
  rw [if_neg (by decide +kernel), if_neg (by decide +kernel), if_neg (by decide +kernel), if_pos trivial]
theorem ph_pauses : (phF r).lookup ("pauses" : Str) = some (.bl r.pau) := by
  unfold phF
  simp only [lookup_putF]
  rw [if_neg (by decide +kernel), if_neg (by decide +kernel), if_pos trivial]
theorem ph_stand : (phF r).lookup ("stand" : Str) = some (.int r.std) := by
  unfold phF
  simp only [lookup_putF]
  rw [if_neg (by decide +kernel), if_pos trivial]
theorem ph_skips : (phF r).lookup ("skips" : Str) = some (.bl r.skp) := by
  unfold phF
  simp only [lookup_putF]
  rw [if_pos trivial]
theorem ph_no {m : Str} (h : ¬ (m = "skips" ∨ m = "stand" ∨ m = "pauses" ∨ m = "visits" ∨ m = "barrier" ∨ m = "hue")) : (phF r).lookup m = none := by
  unfold phF
  simp only [lookup_putF]
  rw [if_neg (fun z => h (by simp [z])), if_neg (fun z => h (by simp [z])), if_neg (fun z => h (by simp [z])), if_neg (fun z => h (by simp [z])), if_neg (fun z => h (by simp [z])), if_neg (fun z => h (by simp [z]))]
  rfl
end
/-- a phase stands at a -/
def PhAt (K : PySem.W.Frag) (H : Hp) (a : Addr) (r : Ph) : Prop := ∃ dx, H a = some (.ins (gad "Phase" K) dx (phF r))
theorem PhAt.fl {K : PySem.W.Frag} {H H' : Hp} {a l : Addr} {r : Ph} (h : PhAt K H a r) (e : Fl l H H') (n : a ≠ l) : PhAt K H' a r := by
  obtain ⟨dx, h⟩ := h
  exact ⟨dx, e _ _ n h⟩
theorem PhAt.same {K : PySem.W.Frag} {H H' : Hp} {a : Addr} {r : Ph} (h : PhAt K H a r) (e : Same H H') : PhAt K H' a r := by
  obtain ⟨dx, h⟩ := h
  exact ⟨dx, e _ _ h⟩
/-! ### promises -/
/-- a question to a phase that changes nothing -/
def spPh (K : PySem.W.Frag) (g : Ph → V) : Sp := fun vs H Q _ => ∃ (a : Addr) (r : Ph), vs = [.ref a] ∧ PhAt K H a r ∧ r.Ok ∧ Q (g r) H
/-- a row is drawn: a new tuple -/
def spRaw : Sp := fun vs H Q _ => ∃ (l : Addr), vs = [.ref l] ∧ PoolAt H l ∧
  ∀ (r : Ph) t H', r.Ok → H t = none → t ≠ l → Fl l H H' → PoolAt H' l → H' t = some (.tup r.vs) → Q (.ref t) H'
def badOf (h : Int) : Int := Builtin.bitXor 63 (1 * 2 ^ h.toNat)
section
variable {P : Program} [SupP P pFile] {w : World} {K : PySem.W.Frag} {mg : Str → Option Value} {base : Heap}
theorem ok_l_raw (T : Tx K mg) : FnOk P w K mg base CX0 3 (gad "_law_raw" K) (fdD K (gad "_law_raw" K)) P_l_raw spRaw := by
  refine T.F_l_raw.ok sc_l_raw (fun vs H Q E h => ?_) (fun cdv A outer s H vs Q E hr h => ?_)
  · obtain ⟨l, rfl, _⟩ := h; rfl
  · obtain ⟨l, rfl, hP, k⟩ := h
    refine ⟨_, PSs.nox ((pss_cons (ps_set (i := 1) sc_l_raw.nd rfl (Or.inl rfl) (pe_call (ok_l_take (P := P) T) (hr.mono (by decide)) rfl T.g_l_take T.F_l_take.kp (bd_l_take T) .nil pass0 (pa_cons (pv 0) (pa_cons pe_int pa_nil))))
      (pss_cons (ps_set (i := 2) sc_l_raw.nd rfl (Or.inl rfl) (pe_ix ix_list (pe_lst (pa_cons pe_str (pa_cons pe_str (pa_cons pe_str (pa_cons pe_str pa_nil))))) (pe_op op_mod (pe_callTy call_intI (by rfl) T.n_int (by decide +kernel) (pa_cons (pe_op op_fdiv (pv 1) pe_int) pa_nil)) pe_int) (fun _ _ => rfl)))
      (pss_cons (ps_set (i := 3) sc_l_raw.nd rfl (Or.inl rfl) (pe_callB (call_max2 rfl) (by rfl) T.n_max (by decide +kernel) (pa_cons pe_int (pa_cons (pe_op op_sub (pe_op op_mod (pe_callTy call_intI (by rfl) T.n_int (by decide +kernel) (pa_cons (pe_op op_fdiv (pv 1) pe_int) pa_nil)) pe_int) pe_int) pa_nil))))
      (pss_one (ps_ret (pe_tup (pa_cons (pe_op op_mod (pe_callTy call_intI (by rfl) T.n_int (by decide +kernel) (pa_cons (pv 1) pa_nil)) pe_int) (pa_cons (pv 2) (pa_cons (pe_cmpR op_eq (pe_op op_mod (pe_callTy call_intI (by rfl) T.n_int (by decide +kernel) (pa_cons (pe_op op_fdiv (pv 1) pe_int) pa_nil)) pe_int) pe_int (nomark _)) (pa_cons (pe_cmpR op_gt (pe_op op_mod (pe_callTy call_intI (by rfl) T.n_int (by decide +kernel) (pa_cons (pe_op op_fdiv (pv 1) pe_int) pa_nil)) pe_int) pe_int (nomark _)) (pa_cons (pv 3) (pa_cons (pe_cmpR op_eq (pe_op op_mod (pe_callTy call_intI (by rfl) T.n_int (by decide +kernel) (pa_cons (pe_op op_fdiv (pv 1) pe_int) pa_nil)) pe_int) pe_int (nomark _)) pa_nil))))))))))))), ?_⟩
    refine ⟨_, rfl, l, 1000003, rfl, hP, by decide, fun c H1 c0 c1 o1 P1 => ?_⟩
    have hb := at_bar (i := c / 6 % 4) (by omega) (by omega)
    refine ⟨(show (4 : Nat) ≤ sizeLine by decide), fun p1 np1 => ⟨_, rfl, _, _, rfl, rfl, ⟨by decide, by decide⟩, _, rfl, _, _, rfl, rfl, (show (0 : Int) < 4 by decide), _, _, _, _, rfl, rfl, SqL.of upd_same, hb, _, rfl, _, _, rfl, rfl, ⟨by decide, by decide⟩, _, rfl, _, _, rfl, rfl, (show (0 : Int) < 16 by decide), _, _, rfl, rfl, _, _, rfl, _, rfl, _, rfl, _, _, rfl, rfl, (show (0 : Int) < 6 by decide), _, rfl, _, rfl, _, _, rfl, rfl, ⟨by decide, by decide⟩, _, rfl, _, _, rfl, rfl, (show (0 : Int) < 2 by decide), rfl, _, rfl, _, _, rfl, rfl, ⟨by decide, by decide⟩, _, rfl, _, _, rfl, rfl, (show (0 : Int) < 4 by decide), _, _, rfl, rfl, _, rfl, _, rfl, _, _, rfl, rfl, ⟨by decide, by decide⟩, _, rfl, _, _, rfl, rfl, (show (0 : Int) < 5 by decide), rfl, (show (6 : Nat) ≤ sizeLine by decide), fun t nt => ?_⟩⟩
    have P2 := P1.upd (o := .lst barVs) np1
    refine k ⟨c % 6, barAt (c / 6 % 4), _, _, _, _⟩ t _ ⟨by show 0 ≤ c % 6; omega, by show c % 6 ≤ 5; omega, ?_, ?_⟩ ?_ (P2.ne nt) ((o1.add np1).add nt) (P2.upd nt) upd_same
    · show (0 : Int) ≤ if (c / 192 % 16 - 8) > 0 then _ else _
      split <;> omega
    · show (if (c / 192 % 16 - 8) > 0 then (c / 192 % 16 - 8) else 0) ≤ (7 : Int)
      split <;> omega
    · exact (o1.add np1).free (P2.ne nt) nt
end

/-! ### phases with any fields; Phase.__init__ with its refusals -/
structure Rw where
  hue : Int
  bar : Str
  vis : Bool
  pau : Bool
  std : Int
  skp : Bool
  deriving DecidableEq
def Rw.vs (r : Rw) : List V := [.int r.hue, .str r.bar, .bl r.vis, .bl r.pau, .int r.std, .bl r.skp]
def rwF (r : Rw) : List (Str × V) := putF "skips" (.bl r.skp) (putF "stand" (.int r.std) (putF "pauses" (.bl r.pau) (putF "visits" (.bl r.vis) (putF "barrier" (.str r.bar) (putF "hue" (.int r.hue) [])))))
def Ph.rw (r : Ph) : Rw := ⟨r.hue, r.bar.s, r.vis, r.pau, r.std, r.skp⟩
theorem Ph.rwF (r : Ph) : rwF r.rw = phF r := rfl
def barIn (b : Str) : Bool := inV (.str b) barVs
/-- the first bad field -/
def Rw.bad (r : Rw) : Option Str := if 0 ≤ r.hue ∧ r.hue ≤ 5 then (if barIn r.bar = true then (if 0 ≤ r.std ∧ r.std ≤ 7 then none else some "stand") else some "barrier") else some "hue"
theorem Ph.good {r : Ph} (ok : r.Ok) : r.rw.bad = none := by
  unfold Rw.bad
  rw [if_pos (show 0 ≤ r.rw.hue ∧ r.rw.hue ≤ 5 from ⟨ok.h0, ok.h1⟩), if_pos (show barIn r.rw.bar = true from bar_in r.bar), if_pos (show 0 ≤ r.rw.std ∧ r.rw.std ≤ 7 from ⟨ok.s0, ok.s1⟩)]
theorem bar_of {b : Str} (h : barIn b = true) : ∃ q : Bar, b = q.s := by
  have e : ∀ (x y : Str), eqV (.str x) (.str y) = true → x = y := fun x y h => eq_of_beq h
  unfold barIn inV at h
  rcases List.any_eq_true.mp h with ⟨v, hv, h2⟩
  simp only [List.mem_cons, List.not_mem_nil, or_false] at hv
  rcases hv with rfl | rfl | rfl | rfl
  · exact ⟨.none, (e _ _ h2).symm⟩
  · exact ⟨.follow, (e _ _ h2).symm⟩
  · exact ⟨.plain, (e _ _ h2).symm⟩
  · exact ⟨.guarded, (e _ _ h2).symm⟩
/-- what is not refused is a phase -/
theorem Rw.good {r : Rw} (h : r.bad = none) : ∃ p : Ph, p.Ok ∧ p.rw = r := by
  unfold Rw.bad at h
  split at h
  · rename_i h1
    split at h
    · rename_i h2
      split at h
      · rename_i h3
        obtain ⟨q, e⟩ := bar_of h2
        obtain ⟨a, b, c, d, f, g⟩ := r
        dsimp only at e h1 h3
        subst e
        exact ⟨⟨a, q, c, d, f, g⟩, ⟨h1.1, h1.2, h3.1, h3.2⟩, rfl⟩
      · cases h
    · cases h
  · cases h
/-- BadPhase, of the field f -/
abbrev EBad (K : PySem.W.Frag) (H : Hp) (E : XK) (f : Str) : Prop := ∀ dd H', H dd = none → Same H H' → H' dd = some (.xd [("field", .str f)]) → E (.ref (gad "BadPhase" K)) (some dd) H'
def spPhaseInit (K : PySem.W.Frag) : Sp := fun vs H Q E => ∃ (p dx : Addr) (r : Rw), vs = .ref p :: r.vs ∧ H p = some (.ins (gad "Phase" K) dx []) ∧
  (r.bad = none → ∀ H', Fl p H H' → H' p = some (.ins (gad "Phase" K) dx (rwF r)) → Q .non H') ∧ (∀ f, r.bad = some f → EBad K H E f)
section
variable {P : Program} [SupP P pFile] {w : World} {K : PySem.W.Frag} {mg : Str → Option Value} {base : Heap}
theorem ok_BadPhase_init (T : Tx K mg) : FnOk P w K mg base CX0 1 (mad "BadPhase" "__init__" K) (fdD K (mad "BadPhase" "__init__" K)) P_BadPhase_init (spEx1 K (gad "BadPhase" K) "field") := by
  obtain ⟨cc, cdv, FC⟩ := T.F_BadPhase_init
  have SKf := sup_ok T.sp_BadPhase FC
  obtain ⟨oc, od, dV, kV, doc, pm, an, ct, osl, efd, lk, hcd, hD⟩ := FC.ex
  rw [efd] at lk
  rw [efd]
  refine fnC_of (fl := pFile) (C := gad "BadPhase" K) (D := gad "BadPhase" K) lk hcd sc_BadPhase_init SKf T.ox_BadPhase T.n_super rfl ⟨_, rfl⟩ (fun vs H Q E h => ?_) (fun vs H Q E h => ?_) (fun _ => rfl) (fun _ => rfl) (fun F A outer s H vs Q E e1 e2 e3 h => ?_)
  · obtain ⟨a, v, rfl, _⟩ := h; rfl
  · obtain ⟨a, v, rfl, ha, _⟩ := h; exact ⟨a, _, rfl, ha⟩
  · obtain ⟨a, v, rfl, ha, k⟩ := h
    obtain ⟨f1, f2, f3, f4, f5, f6, f7⟩ := F
    dsimp only at e1 e2 e3
    subst e1 e2 e3
    refine ⟨_, (pss_one (ps_ost (pe_var (i := 0) rfl (Or.inl rfl)) (pe_var (i := 1) rfl (Or.inl rfl)) rfl)), ?_⟩
    exact ⟨_, rfl, _, rfl, a, _, rfl, T.ox_BadPhase, T.na_BadPhase_field, .inl ⟨ha, fun dx nd ne => k dx nd ne⟩⟩
theorem ok_Phase_init (T : Tx K mg) : FnOk P w K mg base (L2.CX P w) 3 (mad "Phase" "__init__" K) (fdD K (mad "Phase" "__init__" K)) P_Phase_init (spPhaseInit K) := by
  refine T.F_Phase_init.ok sc_Phase_init (fun vs H Q E h => ?_) (fun cdv A outer s H vs Q E hr h => ?_)
  · obtain ⟨p, dx, r, rfl, _⟩ := h; rfl
  · obtain ⟨p, dx, r, rfl, hp, k1, k2⟩ := h
    refine ⟨_, (pss_cons (ps_if (pt_not (pt_chain op_le op_le pe_int (pv 1) (pe_gi rfl T.g_MOST_HUE))) (pss_one (ps_raise rfl (takes_of rfl rfl rfl rfl) (pmk_oex T.ox_BadPhase T.ei_BadPhase.1 T.ei_BadPhase.2 (ok_BadPhase_init (P := P) T) (hr.mono (by decide)) (bd_BadPhase_init T) .nil pass0 rfl T.g_BadPhase (pa_cons pe_str pa_nil)))) pss_nil)
      (pss_cons (ps_if (pt_cmpR op_notIn_seq (pv 2) (pe_gr rfl T.g_BARRIERS) (by rfl)) (pss_one (ps_raise rfl (takes_of rfl rfl rfl rfl) (pmk_oex T.ox_BadPhase T.ei_BadPhase.1 T.ei_BadPhase.2 (ok_BadPhase_init (P := P) T) (hr.mono (by decide)) (bd_BadPhase_init T) .nil pass0 rfl T.g_BadPhase (pa_cons pe_str pa_nil)))) pss_nil)
      (pss_cons (ps_if (pt_not (pt_chain op_le op_le pe_int (pv 5) (pe_gi rfl T.g_MOST_STAND))) (pss_one (ps_raise rfl (takes_of rfl rfl rfl rfl) (pmk_oex T.ox_BadPhase T.ei_BadPhase.1 T.ei_BadPhase.2 (ok_BadPhase_init (P := P) T) (hr.mono (by decide)) (bd_BadPhase_init T) .nil pass0 rfl T.g_BadPhase (pa_cons pe_str pa_nil)))) pss_nil)
      (pss_cons (ps_fld (pv 0) (pv 1) rfl)
      (pss_cons (ps_fld (pv 0) (pv 2) rfl)
      (pss_cons (ps_fld (pv 0) (pv 3) rfl)
      (pss_cons (ps_fld (pv 0) (pv 4) rfl)
      (pss_cons (ps_fld (pv 0) (pv 5) rfl)
      (pss_one (ps_fld (pv 0) (pv 6) rfl)))))))))), ?_⟩
    have hb : ∀ f, r.bad = some f → EBad K H E f := k2
    unfold Rw.bad at hb k1
    by_cases h0 : 0 ≤ r.hue
    · refine ⟨_, rfl, _, _, rfl, rfl, _, rfl, iteD h0 ?_⟩
      by_cases h1 : r.hue ≤ 5
      · refine ⟨_, _, rfl, rfl, _, rfl, iteNS h1 ?_⟩
        rw [if_pos ⟨h0, h1⟩] at hb k1
        cases hB : barIn r.bar with
        | false =>
          refine ⟨_, rfl, _, _, rfl, .inr (T.t_BARRIERS _), rfl, rfl, _, rfl, iteY (by rw [if_pos rfl, show inV (.str r.bar) barVs = false from hB]; rfl) ?_⟩
          rw [hB, if_neg Bool.false_ne_true] at hb
          exact mkO1 (hb _ rfl)
        | true =>
          refine ⟨_, rfl, _, _, rfl, .inr (T.t_BARRIERS _), rfl, rfl, _, rfl, iteE (by rw [if_pos rfl, show inV (.str r.bar) barVs = true from hB]; rfl) ?_⟩
          rw [hB, if_pos rfl] at hb k1
          by_cases s0 : 0 ≤ r.std
          · refine ⟨_, rfl, _, _, rfl, rfl, _, rfl, iteD s0 ?_⟩
            by_cases s1 : r.std ≤ 7
            · refine ⟨_, _, rfl, rfl, _, rfl, iteNS s1 ?_⟩
              rw [if_pos ⟨s0, s1⟩] at k1
              refine ⟨_, rfl, _, rfl, p, _, dx, _, rfl, hp, T.c_Phase, T.na_Phase_hue, (Nat.zero_lt_succ _), _, rfl, _, rfl, p, _, dx, _, rfl, upd_same, T.c_Phase, T.na_Phase_barrier, few (Nat.zero_lt_succ _), _, rfl, _, rfl, p, _, dx, _, rfl, upd_same, T.c_Phase, T.na_Phase_visits, few (few (Nat.zero_lt_succ _)), _, rfl, _, rfl, p, _, dx, _, rfl, upd_same, T.c_Phase, T.na_Phase_pauses, few (few (few (Nat.zero_lt_succ _))), _, rfl, _, rfl, p, _, dx, _, rfl, upd_same, T.c_Phase, T.na_Phase_stand, few (few (few (few (Nat.zero_lt_succ _)))), _, rfl, _, rfl, p, _, dx, _, rfl, upd_same, T.c_Phase, T.na_Phase_skips, few (few (few (few (few (Nat.zero_lt_succ _))))), ?_⟩
              refine k1 rfl _ ?_ upd_same
              simp only [upd_upd]
              exact Fl.cell
            · refine ⟨_, _, rfl, rfl, _, rfl, iteND s1 ?_⟩
              rw [if_neg (fun z => s1 z.2)] at hb
              exact mkO1 (hb _ rfl)
          · refine ⟨_, rfl, _, _, rfl, rfl, _, rfl, iteDN s0 ?_⟩
            refine ⟨_, rfl, iteT ?_⟩
            rw [if_neg (fun z => s0 z.1)] at hb
            exact mkO1 (hb _ rfl)
      · refine ⟨_, _, rfl, rfl, _, rfl, iteND h1 ?_⟩
        rw [if_neg (fun z => h1 z.2)] at hb
        exact mkO1 (hb _ rfl)
    · refine ⟨_, rfl, _, _, rfl, rfl, _, rfl, iteDN h0 ?_⟩
      refine ⟨_, rfl, iteT ?_⟩
      rw [if_neg (fun z => h0 z.1)] at hb
      exact mkO1 (hb _ rfl)
end

/-! ### books -/
def bkF (l : Addr) : List (Str × V) := putF "phases" (.ref l) []
theorem bk_phases (l : Addr) : (bkF l).lookup ("phases" : Str) = some (.ref l) := by
  unfold bkF
  rw [lookup_putF, if_pos rfl]
/-- a book stands at b; its list at l; its phases -/
structure BkAt (K : PySem.W.Frag) (H : Hp) (b l : Addr) (rs : List Ph) : Prop where
  bk : ∃ dx, H b = some (.ins (gad "Book" K) dx (bkF l))
  ph : ∃ as : List Addr, H l = some (.lst (as.map V.ref)) ∧ as.length = rs.length ∧ ∀ (i : Nat) (a : Addr) (r : Ph), as[i]? = some a → rs[i]? = some r → PhAt K H a r
  n1 : 1 ≤ rs.length
  n6 : rs.length ≤ 6
  ok : ∀ r ∈ rs, r.Ok
theorem BkAt.mono {K : PySem.W.Frag} {H H' : Hp} {b l : Addr} {rs : List Ph} (h : BkAt K H b l rs) (e : Same H H') : BkAt K H' b l rs := by
  obtain ⟨⟨dx, h1⟩, ⟨as, h2, h3, h4⟩, h5, h6, h7⟩ := h
  exact ⟨⟨dx, e _ _ h1⟩, ⟨as, e _ _ h2, h3, fun i a r ha hr => (h4 i a r ha hr).same e⟩, h5, h6, h7⟩
/-- rows that were drawn: a list of tuples -/
structure RowsAt (H : Hp) (a : Addr) (rs : List Ph) : Prop where
  ls : ∃ ts : List Addr, H a = some (.lst (ts.map V.ref)) ∧ ts.length = rs.length ∧ ∀ (i : Nat) (t : Addr) (r : Ph), ts[i]? = some t → rs[i]? = some r → H t = some (.tup r.vs)
  ok : ∀ r ∈ rs, r.Ok
theorem RowsAt.mono {H H' : Hp} {a : Addr} {rs : List Ph} (h : RowsAt H a rs) (e : Same H H') : RowsAt H' a rs := by
  obtain ⟨⟨ts, h1, h2, h3⟩, h4⟩ := h
  exact ⟨⟨ts, e _ _ h1, h2, fun i t r ht hr => e _ _ (h3 i t r ht hr)⟩, h4⟩
theorem atI_nat' {α : Type} {xs : List α} {i : Int} {v : α} (h0 : 0 ≤ i) (h : xs[i.toNat]? = some v) : atI xs i = some v := by
  have e : i = ((i.toNat : Nat) : Int) := (Int.toNat_of_nonneg h0).symm
  rw [e]
  exact atI_nat h
theorem mem_get {α : Type} {xs : List α} {i : Nat} (h : i < xs.length) : ∃ x, xs[i]? = some x ∧ x ∈ xs := ⟨xs[i], List.getElem?_eq_getElem h, List.getElem_mem h⟩
/-- the i-th row -/
theorem RowsAt.row {H : Hp} {a : Addr} {rs : List Ph} (h : RowsAt H a rs) {i : Int} (h0 : 0 ≤ i) (h1 : i < rs.length) :
    ∃ (xs : List V) (t : Addr) (r : Ph), H a = some (.lst xs) ∧ atI xs i = some (.ref t) ∧ rs[i.toNat]? = some r ∧ r.Ok ∧ H t = some (.tup r.vs) := by
  obtain ⟨⟨ts, h2, h3, h4⟩, h5⟩ := h
  obtain ⟨r, hr, hm⟩ := mem_get (xs := rs) (i := i.toNat) (by omega)
  obtain ⟨t, ht, _⟩ := mem_get (xs := ts) (i := i.toNat) (by omega)
  exact ⟨_, t, r, h2, atI_nat' h0 (by rw [List.getElem?_map, ht]; rfl), hr, h5 r hm, h4 _ t r ht hr⟩
theorem RowsAt.len {H : Hp} {a : Addr} {rs : List Ph} (h : RowsAt H a rs) : ∃ xs : List V, H a = some (.lst xs) ∧ xs.length = rs.length := by
  obtain ⟨⟨ts, h2, h3, h4⟩, h5⟩ := h
  exact ⟨_, h2, by rw [List.length_map, h3]⟩
/-! ### promises -/
def spBookInit (K : PySem.W.Frag) : Sp := fun vs H Q E => ∃ (b dx p : Addr) (xs : List V), vs = [.ref b, .ref p] ∧ H b = some (.ins (gad "Book" K) dx []) ∧ H p = some (.tup xs) ∧
  (1 ≤ xs.length ∧ xs.length ≤ 6 → ∀ l H', H l = none → Fl b H H' → H' b = some (.ins (gad "Book" K) dx (bkF l)) → H' l = some (.lst xs) → Q .non H') ∧
  (¬ (1 ≤ xs.length ∧ xs.length ≤ 6) → ∀ H', Same H H' → E (.ref (gad "BadBook" K)) none H')
def spBookOf (K : PySem.W.Frag) : Sp := fun vs H Q E => ∃ (a : Addr) (xs : List V), vs = [.ref (gad "Book" K), .ref a] ∧ SqL K H a xs ∧ xs.length ≤ 1000 ∧
  (1 ≤ xs.length ∧ xs.length ≤ 6 → ∀ b dx l H', H b = none → H l = none → Same H H' → H' b = some (.ins (gad "Book" K) dx (bkF l)) → H' l = some (.lst xs) → Q (.ref b) H') ∧
  (¬ (1 ≤ xs.length ∧ xs.length ≤ 6) → ∀ H', Same H H' → E (.ref (gad "BadBook" K)) none H')
def spBookLen (K : PySem.W.Frag) : Sp := fun vs H Q _ => ∃ (b l : Addr) (rs : List Ph), vs = [.ref b] ∧ BkAt K H b l rs ∧ Q (.int rs.length) H
/-- book[n]: the address in the list -/
def spBookGet (K : PySem.W.Frag) : Sp := fun vs H Q _ => ∃ (b l : Addr) (rs : List Ph) (n : Int), vs = [.ref b, .int n] ∧ BkAt K H b l rs ∧
  ∀ a r, rs[(n % rs.length).toNat]? = some r → r.Ok → PhAt K H a r → Q (.ref a) H
def spBookSet (K : PySem.W.Frag) : Sp := fun vs H Q _ => ∃ (b l a : Addr) (rs : List Ph) (n : Int) (r : Ph), vs = [.ref b, .int n, .ref a] ∧ BkAt K H b l rs ∧ PhAt K H a r ∧ r.Ok ∧
  ∀ H', Fl l H H' → BkAt K H' b l (rs.set (n % rs.length).toNat r) → Q .non H'
/-- the rows behind row: as long as the phases may be left out -/
def aft (sk : Nat → Bool) (n row : Nat) : Nat → Nat → List Nat
  | _, 0 => []
  | k, f + 1 => ((row + 1 + k) % n) :: (if sk ((row + 1 + k) % n) then aft sk n row (k + 1) f else [])
def skOf (rs : List Ph) (i : Nat) : Bool := match rs[i]? with
  | some r => r.skp
  | none => false
def after (rs : List Ph) (row : Nat) : List Nat := aft (skOf rs) rs.length row 0 rs.length
def nts (l : List Nat) : List V := l.map fun (n : Nat) => V.int n
theorem aft_len (sk : Nat → Bool) (n row : Nat) : ∀ f k, (aft sk n row k f).length ≤ f
  | 0, _ => Nat.le_refl _
  | f + 1, k => by
    unfold aft
    rw [List.length_cons]
    split
    · exact Nat.succ_le_succ (aft_len sk n row f (k + 1))
    · exact Nat.succ_le_succ (Nat.zero_le _)
theorem aft_lt (sk : Nat → Bool) (n row : Nat) (h : 0 < n) : ∀ f k, ∀ x ∈ aft sk n row k f, x < n
  | 0, _, x, hx => by cases hx
  | f + 1, k, x, hx => by
    unfold aft at hx
    rcases List.mem_cons.mp hx with e | e
    · rw [e]; exact Nat.mod_lt _ h
    · split at e
      · exact aft_lt sk n row h f (k + 1) x e
      · cases e
theorem after_len (rs : List Ph) (row : Nat) : (after rs row).length ≤ rs.length := aft_len _ _ _ _ _
theorem after_lt (rs : List Ph) (row : Nat) (h : 1 ≤ rs.length) : ∀ x ∈ after rs row, x < rs.length := aft_lt _ _ _ h _ _
theorem after_ne (rs : List Ph) (row : Nat) (h : 1 ≤ rs.length) : 1 ≤ (after rs row).length := by
  unfold after
  cases e : rs.length with
  | zero => omega
  | succ n => unfold aft; rw [List.length_cons]; omega
def spAfter (K : PySem.W.Frag) : Sp := fun vs H Q _ => ∃ (b l : Addr) (rs : List Ph) (row : Nat), vs = [.ref b, .int row] ∧ BkAt K H b l rs ∧ row < rs.length ∧
  ∀ t H', H t = none → Same H H' → H' t = some (.tup (nts (after rs row))) → Q (.ref t) H'
section
variable {P : Program} [SupP P pFile] {w : World} {K : PySem.W.Frag} {mg : Str → Option Value} {base : Heap}
theorem fr_Book_init (T : Tx K mg) : FnR P w K mg base (L2.CX P w) 2 (mad "Book" "__init__" K) (spStar 1 (spBookInit K)) := by
  obtain ⟨uM, hM⟩ := T.cv_Book_MOST
  refine fnr_star (ps := ["self"]) (pv := "phases") T.F_Book_init sc_Book_init StX.cxUp (fun kV doc pm an cdv ct us rest hl => ?_) (fun cdv A outer s H vs Q E hr h => ?_)
  · exact StX.bind_star1 (B := fun vs => bindArgs _ ⟨vs, []⟩) (fun _ => rfl) (fun _ _ _ => rfl) us rest hl
  · obtain ⟨b, dx, p, xs, rfl, hb, hp, k1, k2⟩ := h
    have bp : b ≠ p := ne_of hb hp (by intro z; cases z)
    refine ⟨_, (pss_cons (ps_if (pt_not (pt_chain op_le op_le pe_int (pe_callB call_len_seq (by rfl) T.n_len (by decide +kernel) (pa_cons (pv 1) pa_nil)) (ClX.pe_cval (pe_gr rfl T.g_Book)))) (pss_one (ps_raise rfl (takes_of rfl rfl rfl rfl) (pmk_own PySem.F.excBase_ValueError T.x_BadBook.1 T.g_BadBook T.x_BadBook.2.1 (raises_own T.x_BadBook.2.2.1 T.x_BadBook.2.2.2) rfl))) pss_nil)
      (pss_one (ps_fld (pv 0) (pe_callTy call_list_of (by rfl) T.n_list (by decide +kernel) (pa_cons (pv 1) pa_nil)) rfl))), ?_⟩
    refine ⟨_, rfl, p, _, rfl, .inr (SqT.of hp), _, _, rfl, rfl, _, rfl, ?_⟩
    by_cases h1 : 1 ≤ xs.length
    · refine iteD (by omega) ⟨_, _, _, uM, rfl, T.cr_Book, hM, _, _, rfl, rfl, _, rfl, ?_⟩
      by_cases h6 : xs.length ≤ 6
      · refine iteNS (by omega) ?_
        refine ⟨_, rfl, p, _, rfl, .inr (SqT.of hp), fun l hl => ?_⟩
        have bl : b ≠ l := ne_of_none hb hl
        refine ⟨_, rfl, b, _, dx, [], rfl, (by rw [upd_ne bl]; exact hb), T.c_Book, T.na_Book_phases, (Nat.zero_lt_succ _), ?_⟩
        exact k1 ⟨h1, h6⟩ l _ hl ((Fl.new hl).put) upd_same (by rw [upd_ne bl.symm]; exact upd_same)
      · refine iteND (by omega) ?_
        exact k2 (fun z => h6 z.2) _ (Same.refl _)
    · refine iteDN (by omega) ?_
      refine ⟨_, rfl, iteT ?_⟩
      exact k2 (fun z => h1 z.1) _ (Same.refl _)
theorem ok_Book_of (T : Tx K mg) : FnOk P w K mg base (L2.CX P w) 4 (pad "classmethod" "Book" "of" K) (fdD K (pad "classmethod" "Book" "of" K)) P_Book_of (spBookOf K) := by
  refine T.F_Book_of.ok sc_Book_of (fun vs H Q E h => ?_) (fun cdv A outer s H vs Q E hr h => ?_)
  · obtain ⟨a, xs, rfl, _⟩ := h; rfl
  · obtain ⟨a, xs, rfl, hS, hz, k1, k2⟩ := h
    refine ⟨_, (pss_one (ps_ret (pe_makeLS (i := 0) T.mk_Book (fr_Book_init (P := P) T) (hr.mono (by decide)) (passes_call (takes_of rfl rfl rfl rfl) (fun _ _ _ _ z => z)) rfl (by first | exact Or.inl rfl | exact Or.inr (Or.inl rfl)) (pv 1)))), ?_⟩
    refine ⟨rfl, _, rfl, a, xs, rfl, .inr hS, fun b dx nb nd ne => ?_⟩
    refine ⟨[.ref b], xs, rfl, rfl, Nat.le_trans hz (by decide), fun p np => ?_⟩
    have bp : b ≠ p := fun z => by rw [z, upd_same] at np; cases np
    have S1 : Same H (upd (upd (upd H dx (.own b)) b (.ins (gad "Book" K) dx [])) p (.tup xs)) := Same.upd (Same.upd (Same.new nd) nb) (Same.free (Same.upd (Same.new nd) nb) np)
    refine ⟨b, dx, p, xs, rfl, upd_oth bp upd_same, upd_same, fun hv l H' nl fl hb hl => ⟨rfl, ?_⟩, fun hv H' S' => ?_⟩
    · refine k1 hv b dx l H' nb ?_ ?_ hb hl
      · exact S1.free nl
      · intro a o ha
        exact fl a o (ne_of_none ha nb) (S1 a o ha)
    · exact k2 hv H' (S1.trans S')
theorem fr_Book_of (T : Tx K mg) : FnR P w K mg base (L2.CX P w) 4 (pad "classmethod" "Book" "of" K) (spBookOf K) := fnr_of (ok_Book_of T) (bd_Book_of T)
theorem ok_Book_len (T : Tx K mg) : FnOk P w K mg base CX0 1 (mad "Book" "__len__" K) (fdD K (mad "Book" "__len__" K)) P_Book_len (spBookLen K) := by
  refine T.F_Book_len.ok sc_Book_len (fun vs H Q E h => ?_) (fun cdv A outer s H vs Q E hr h => ?_)
  · obtain ⟨b, l, rs, rfl, _⟩ := h; rfl
  · obtain ⟨b, l, rs, rfl, ⟨⟨dx, hb⟩, ⟨as, hl, e, _⟩, n1, n6, ok⟩, k⟩ := h
    refine ⟨_, PSs.nox ((pss_one (ps_ret (pe_callB call_len_seq (by rfl) T.n_len (by decide +kernel) (pa_cons (pe_fld (pv 0) rfl) pa_nil))))), ?_⟩
    refine ⟨_, rfl, b, _, dx, _, _, rfl, hb, T.c_Book, T.na_Book_phases, bk_phases l, l, _, rfl, .inl (SqL.of hl), ?_⟩
    show Q (.int ((as.map V.ref).length : Nat)) H
    rw [List.length_map, e]
    exact k
theorem fr_Book_len (T : Tx K mg) : FnR P w K mg base CX0 1 (mad "Book" "__len__" K) (spBookLen K) := fnr_of (ok_Book_len T) (bd_Book_len T)
theorem ok_Book_getitem (T : Tx K mg) : FnOk P w K mg base CX0 1 (mad "Book" "__getitem__" K) (fdD K (mad "Book" "__getitem__" K)) P_Book_getitem (spBookGet K) := by
  refine T.F_Book_getitem.ok sc_Book_getitem (fun vs H Q E h => ?_) (fun cdv A outer s H vs Q E hr h => ?_)
  · obtain ⟨b, l, rs, n, rfl, _⟩ := h; rfl
  · obtain ⟨b, l, rs, n, rfl, ⟨⟨dx, hb⟩, ⟨as, hl, e, hp⟩, n1, n6, ok⟩, k⟩ := h
    refine ⟨_, PSs.nox ((pss_one (ps_ret (pe_ix ix_list (pe_fld (pv 0) rfl) (pe_op op_mod (pv 1) (pe_callB call_len_seq (by rfl) T.n_len (by decide +kernel) (pa_cons (pe_fld (pv 0) rfl) pa_nil))) (fun _ _ => rfl))))), ?_⟩
    have m0 : 0 ≤ n % (rs.length : Int) := Int.emod_nonneg _ (by omega)
    have m1 : n % (rs.length : Int) < rs.length := Int.emod_lt_of_pos _ (by omega)
    obtain ⟨r, hr', hm⟩ := mem_get (xs := rs) (i := (n % (rs.length : Int)).toNat) (by omega)
    obtain ⟨a, ha, _⟩ := mem_get (xs := as) (i := (n % (rs.length : Int)).toNat) (by omega)
    have el : ((as.map V.ref).length : Int) = rs.length := by rw [List.length_map, e]
    refine ⟨_, rfl, b, _, dx, _, _, rfl, hb, T.c_Book, T.na_Book_phases, bk_phases l, _, rfl, _, rfl, b, _, dx, _, _, rfl, hb, T.c_Book, T.na_Book_phases, bk_phases l, l, _, rfl, .inl (SqL.of hl), _, _, rfl, rfl, (by show (0 : Int) < ((as.map V.ref).length : Int); omega), l, _, _, .ref a, rfl, rfl, SqL.of hl, ?_, ?_⟩
    · show atI (as.map V.ref) (n % ((as.map V.ref).length : Int)) = _
      rw [el]
      exact atI_nat' m0 (by rw [List.getElem?_map, ha]; rfl)
    · exact k a r hr' (ok r hm) (hp _ a r ha hr')
theorem fr_Book_getitem (T : Tx K mg) : FnR P w K mg base CX0 1 (mad "Book" "__getitem__" K) (spBookGet K) := fnr_of (ok_Book_getitem T) (bd_Book_getitem T)
theorem ok_Book_setitem (T : Tx K mg) : FnOk P w K mg base CX0 1 (mad "Book" "__setitem__" K) (fdD K (mad "Book" "__setitem__" K)) P_Book_setitem (spBookSet K) := by
  refine T.F_Book_setitem.ok sc_Book_setitem (fun vs H Q E h => ?_) (fun cdv A outer s H vs Q E hr h => ?_)
  · obtain ⟨b, l, a, rs, n, r, rfl, _⟩ := h; rfl
  · obtain ⟨b, l, a, rs, n, r, rfl, ⟨⟨dx, hb⟩, ⟨as, hl, e, hp⟩, n1, n6, ok⟩, hpa, rok, k⟩ := h
    refine ⟨_, PSs.nox ((pss_one (ps_asg (pv 2) (pg_sub (pe_fld (pv 0) rfl) (pe_op op_mod (pv 1) (pe_callB call_len_seq (by rfl) T.n_len (by decide +kernel) (pa_cons (pe_fld (pv 0) rfl) pa_nil))) set_list)))), ?_⟩
    have m0 : 0 ≤ n % (rs.length : Int) := Int.emod_nonneg _ (by omega)
    have m1 : n % (rs.length : Int) < rs.length := Int.emod_lt_of_pos _ (by omega)
    have el : ((as.map V.ref).length : Int) = rs.length := by rw [List.length_map, e]
    have bl : b ≠ l := ne_of hb hl (by intro z; cases z)
    have ix : ixN (as.map V.ref).length (n % ((as.map V.ref).length : Int)) = some (n % (rs.length : Int)).toNat := by
      rw [el]
      unfold ixN
      rw [if_pos m0, if_pos (by rw [List.length_map, e]; exact m1)]
    refine ⟨_, rfl, _, rfl, b, _, dx, _, _, rfl, hb, T.c_Book, T.na_Book_phases, bk_phases l, _, rfl, _, rfl, b, _, dx, _, _, rfl, hb, T.c_Book, T.na_Book_phases, bk_phases l, l, _, rfl, .inl (SqL.of hl), _, _, rfl, rfl, (by show (0 : Int) < ((as.map V.ref).length : Int); omega), l, _, _, _, rfl, rfl, hl, ix, ?_⟩
    refine k _ Fl.cell ⟨⟨dx, upd_oth bl hb⟩, ⟨as.set (n % (rs.length : Int)).toNat a, ?_, ?_, ?_⟩, ?_, ?_, ?_⟩
    · rw [upd_same, List.map_set]
    · rw [List.length_set, List.length_set, e]
    · intro i a' r' ha' hr'
      have fl : ∀ {x : Addr} {q : Ph}, PhAt K H x q → PhAt K (upd H l (.lst ((as.map V.ref).set (n % (rs.length : Int)).toNat (.ref a)))) x q := fun {x q} ⟨d, hx⟩ => ⟨d, upd_oth (ne_of hx hl (by intro z; cases z)) hx⟩
      rw [List.getElem?_set] at ha' hr'
      split at ha'
      · rename_i ei
        rw [if_pos ei] at hr'
        split at ha'
        · split at hr'
          · cases ha'; cases hr'
            exact fl hpa
          · cases hr'
        · cases ha'
      · rename_i ei
        rw [if_neg ei] at hr'
        exact fl (hp i a' r' ha' hr')
    · rw [List.length_set]; exact n1
    · rw [List.length_set]; exact n6
    · intro q hq
      rcases List.mem_or_eq_of_mem_set hq with z | z
      · exact ok q z
      · rw [z]; exact rok
theorem fr_Book_setitem (T : Tx K mg) : FnR P w K mg base CX0 1 (mad "Book" "__setitem__" K) (spBookSet K) := fnr_of (ok_Book_setitem T) (bd_Book_setitem T)
end

end Hue

set_option Elab.async false
set_option linter.all false
set_option maxRecDepth 100000
set_option maxHeartbeats 1000000
namespace Hue
open PySem PySem.Spec PyProof.Rows L2
local macro_rules | `(tactic| walk_at "hp") => `(tactic| first
  | assumption
  | exact upd_same
  | (refine upd_old (by assumption) ?_; walk_at "hp")
  | (refine upd_oth (by assumption) ?_; walk_at "hp")
  | (refine same_get (by assumption) ?_; walk_at "hp")
  | (refine Fl.get (by assumption) (by assumption) ?_; walk_at "hp"))
local macro_rules | `(tactic| walk_at "seq") => `(tactic| first
  | assumption
  | exact T.t_BARRIERS _
  | exact SqL.of (by walk_at "hp")
  | exact SqT.of (by walk_at "hp"))
local macro_rules | `(tactic| walk_at "len") => `(tactic| first
  | exact Or.inl (by walk_at "seq")
  | exact Or.inr (by walk_at "seq"))
local macro_rules | `(tactic| walk_at "at") => `(tactic| first
  | rfl
  | assumption)

/-! ### a phase with any fields: looked at, compared, written -/
section
variable (r : Rw)
theorem rw_hue : (rwF r).lookup ("hue" : Str) = some (.int r.hue) := by
  unfold rwF
  simp only [lookup_putF]
  rw [if_neg (by decide +kernel), if_neg (by decide +kernel), if_neg (by decide +kernel), if_neg (by decide +kernel), if_neg (by decide +kernel), if_pos trivial]
theorem rw_barrier : (rwF r).lookup ("barrier" : Str) = some (.str r.bar) := by
  unfold rwF
  simp only [lookup_putF]
  rw [if_neg (by decide +kernel), if_neg (by decide +kernel), if_neg (by decide +kernel), if_neg (by decide +kernel), if_pos trivial]
theorem rw_visits : (rwF r).lookup ("visits" : Str) = some (.bl r.vis) := by
  unfold rwF
  simp only [lookup_putF]
  rw [if_neg (by decide +kernel), if_neg (by decide +kernel), if_neg (by decide +kernel), if_pos trivial]
theorem rw_pauses : (rwF r).lookup ("pauses" : Str) = some (.bl r.pau) := by
  unfold rwF
  simp only [lookup_putF]
  rw [if_neg (by decide +kernel), if_neg (by decide +kernel), if_pos trivial]
theorem rw_stand : (rwF r).lookup ("stand" : Str) = some (.int r.std) := by
  unfold rwF
  simp only [lookup_putF]
  rw [if_neg (by decide +kernel), if_pos trivial]
theorem rw_skips : (rwF r).lookup ("skips" : Str) = some (.bl r.skp) := by
  unfold rwF
  simp only [lookup_putF]
  rw [if_pos trivial]
theorem rwx_at : atI r.vs 0 = some (.int r.hue) ∧ atI r.vs 1 = some (.str r.bar) ∧ atI r.vs 2 = some (.bl r.vis) ∧ atI r.vs 3 = some (.bl r.pau) ∧ atI r.vs 4 = some (.int r.std) ∧ atI r.vs 5 = some (.bl r.skp) := ⟨rfl, rfl, rfl, rfl, rfl, rfl⟩
end
def RwAt (K : PySem.W.Frag) (H : Hp) (a : Addr) (r : Rw) : Prop := ∃ dx, H a = some (.ins (gad "Phase" K) dx (rwF r))
theorem RwAt.same {K : PySem.W.Frag} {H H' : Hp} {a : Addr} {r : Rw} (h : RwAt K H a r) (e : Same H H') : RwAt K H' a r := by
  obtain ⟨dx, h⟩ := h
  exact ⟨dx, e _ _ h⟩
theorem made_same {H H' : Hp} {x dx C : Addr} (nx : H x = none) (nd : H dx = none) (f : Fl x (L2.upd (L2.upd H dx (.own x)) x (.ins C dx [])) H') : Same H H' := fun a o h => by
  have n1 : a ≠ x := ne_of_none h nx
  exact f _ _ n1 (upd_oth n1 (upd_old nd h))
theorem made_same2 {H H' : Hp} {x dx C : Addr} (nx : H x = none) (nd : H dx = none) (f : Same (L2.upd (L2.upd H dx (.own x)) x (.ins C dx [])) H') : Same H H' := made_same nx nd (Fl.same f)
/-- two values of a kind that is compared -/
theorem dec_int (a b : Int) : decide (V.int a = V.int b) = decide (a = b) := by
  by_cases e : a = b
  · rw [e]; simp
  · rw [decide_eq_false e]; exact decide_eq_false fun z => e (V.int.inj z)
theorem dec_str (a b : Str) : decide (V.str a = V.str b) = decide (a = b) := by
  by_cases e : a = b
  · rw [e]; simp
  · rw [decide_eq_false e]; exact decide_eq_false fun z => e (V.str.inj z)
theorem dec_bl (a b : Bool) : decide (V.bl a = V.bl b) = decide (a = b) := by
  by_cases e : a = b
  · rw [e]; simp
  · rw [decide_eq_false e]; exact decide_eq_false fun z => e (V.bl.inj z)
def numS (i : Int) : Str := Str.ofString (toString i)
def Rw.words (r : Rw) : List Str := [numS r.hue, r.bar] ++ (if r.vis = true then [("visits" : Str)] else []) ++ (if r.pau = true then [("pauses" : Str)] else []) ++ (if r.std ≠ 0 then [("stand " : Str) ++ numS r.std] else []) ++ (if r.skp = true then [("skips" : Str)] else [])
def Rw.text (r : Rw) : Str := Txt.join " " r.words
def spPhText (K : PySem.W.Frag) : Sp := fun vs H Q _ => ∃ (a : Addr) (r : Rw), vs = [.ref a] ∧ RwAt K H a r ∧ r.bad = none ∧ ∀ H', Same H H' → Q (.str r.text) H'
/-- the list of words at l -/
def WdAt (H : Hp) (a l : Addr) (ws : List Str) : L2.St → Hp → Prop := fun σ H' => σ = [some (.ref a), some (.ref l)] ∧ H l = none ∧ Same H H' ∧ H' l = some (.lst (ws.map V.str))
theorem WdAt.put {H H' : Hp} {a l : Addr} {ws : List Str} {x : Str} (nl : H l = none) (S : Same H H') : WdAt H a l (ws ++ [x]) [some (.ref a), some (.ref l)] (L2.upd H' l (.lst (ws.map V.str ++ [.str x]))) :=
  ⟨rfl, nl, Same.upd S nl, by rw [upd_same, List.map_append]; rfl⟩
theorem wd_lt {ws : List Str} {n : Nat} (h : ws.length ≤ n) (hn : n < sizeLine) : (ws.map V.str).length < sizeLine := by rw [List.length_map]; exact Nat.lt_of_le_of_lt h hn
theorem num_le {i : Int} (h0 : 0 ≤ i) (h1 : i ≤ 9) : (numS i).length ≤ 2 := by
  rcases (by omega : i = 0 ∨ i = 1 ∨ i = 2 ∨ i = 3 ∨ i = 4 ∨ i = 5 ∨ i = 6 ∨ i = 7 ∨ i = 8 ∨ i = 9) with rfl | rfl | rfl | rfl | rfl | rfl | rfl | rfl | rfl | rfl <;> decide +kernel
theorem small_log {i : Int} (h0 : 0 ≤ i) (h1 : i ≤ 9) : i.natAbs.log2 < 1920 := by
  rcases (by omega : i = 0 ∨ i = 1 ∨ i = 2 ∨ i = 3 ∨ i = 4 ∨ i = 5 ∨ i = 6 ∨ i = 7 ∨ i = 8 ∨ i = 9) with rfl | rfl | rfl | rfl | rfl | rfl | rfl | rfl | rfl | rfl <;> decide +kernel
theorem bar_len (b : Bar) : b.s.length ≤ 10 := by cases b <;> decide +kernel
theorem words_size {r : Rw} (h0 : 0 ≤ r.hue) (h1 : r.hue ≤ 9) (s0 : 0 ≤ r.std) (s1 : r.std ≤ 9) (bl : r.bar.length ≤ 10) : (r.words.map (·.length)).sum + r.words.length * (" " : Str).length ≤ 16777216 := by
  have e1 : (" " : Str).length = 1 := by decide +kernel
  have e2 : ("visits" : Str).length = 6 := by decide +kernel
  have e3 : ("pauses" : Str).length = 6 := by decide +kernel
  have e4 : ("skips" : Str).length = 5 := by decide +kernel
  have e5 : ("stand " : Str).length = 6 := by decide +kernel
  have l1 := num_le h0 h1
  have l2 := num_le s0 s1
  have e6 : (("stand " : Str) ++ numS r.std).length = 6 + (numS r.std).length := by
    have z : (("stand " : Str) ++ numS r.std).length = ("stand " : Str).length + (numS r.std).length := by
      first
        | exact Str.length_append _ _
        | simp [Str.length, Str.cps_append]
    rw [z, e5]
  have g : ∀ {c : Prop} [Decidable c] (x : Str), x.length ≤ 20 → ((if c then [x] else []).map (·.length)).sum ≤ 20 ∧ (if c then [x] else []).length ≤ 1 := fun {c} _ x hx => by
    split
    · exact ⟨by simpa using hx, by simp⟩
    · exact ⟨by simp, by simp⟩
  have g1 := g (c := r.vis = true) "visits" (by rw [e2]; decide)
  have g2 := g (c := r.pau = true) "pauses" (by rw [e3]; decide)
  have g3 := g (c := r.std ≠ 0) (("stand " : Str) ++ numS r.std) (by rw [e6]; omega)
  have g4 := g (c := r.skp = true) "skips" (by rw [e4]; decide)
  unfold Rw.words
  rw [e1]
  simp only [List.map_append, List.sum_append, List.length_append, List.map_cons, List.map_nil, List.sum_cons, List.sum_nil, List.length_cons, List.length_nil]
  omega

section
variable {P : Program} [SupP P pFile] {w : World} {K : PySem.W.Frag} {mg : Str → Option Value} {base : Heap}
theorem ok_Phase_looks (T : Tx K mg) : FnOk P w K mg base CX0 1 (pad "property" "Phase" "looks" K) (fdD K (pad "property" "Phase" "looks" K)) P_Phase_looks (spPh K fun r => .bl (decide (r.bar ≠ .none))) := by
  refine T.F_Phase_looks.ok sc_Phase_looks (fun vs H Q E h => ?_) (fun cdv A outer s H vs Q E hr h => ?_)
  · obtain ⟨p, r, rfl, _⟩ := h; rfl
  · obtain ⟨p, r, rfl, ⟨dx, hp⟩, ok, k⟩ := h
    refine ⟨_, PSs.nox ((pss_one (ps_ret (pe_cmpR op_ne (pe_fld (pv 0) rfl) pe_str (nomark _))))), ?_⟩
    refine ⟨_, rfl, p, _, dx, _, _, rfl, hp, T.c_Phase, T.na_Phase_barrier, ph_barrier r, rfl, ?_⟩
    have e : (!decide (V.str r.bar.s = V.str "none")) = decide (r.bar ≠ .none) := by cases r.bar <;> decide +kernel
    show Q (.bl (!decide (V.str r.bar.s = V.str "none"))) H
    rw [e]
    exact k
end

/-! ### drawn rows -/
theorem RowsAt.fl {H H' : Hp} {a l : Addr} {rs : List Ph} (h : RowsAt H a rs) (e : Fl l H H') (n : a ≠ l) (hp : PoolAt H l) : RowsAt H' a rs := by
  obtain ⟨⟨ts, h1, h2, h3⟩, h4⟩ := h
  obtain ⟨ns, p1, _⟩ := hp
  exact ⟨⟨ts, e _ _ n h1, h2, fun i t r ht hr => e _ _ (ne_of (h3 i t r ht hr) p1 (by intro z; cases z)) (h3 i t r ht hr)⟩, h4⟩
def spCalm : Sp := fun vs H Q _ => ∃ (t : Addr) (r : Ph) (k : Int) (two : Bool), vs = [.ref t, .int k, .bl two] ∧ H t = some (.tup r.vs) ∧ r.Ok ∧ 0 ≤ k ∧ k < 6 ∧
  ∀ (r' : Ph) t' H', r'.Ok → H t' = none → Same H H' → H' t' = some (.tup r'.vs) → Q (.ref t') H'
def spRows : Sp := fun vs H Q _ => ∃ (l : Addr) (m : Int), vs = [.ref l, .int m] ∧ PoolAt H l ∧ 1 ≤ m ∧ m ≤ 6 ∧
  ∀ rs a H', RowsAt H' a rs → 1 ≤ rs.length → (rs.length : Int) ≤ m → H a = none → a ≠ l → Fl l H H' → PoolAt H' l → Q (.ref a) H'
def spPhase (K : PySem.W.Frag) : Sp := fun vs H Q _ => ∃ (t : Addr) (r : Ph), vs = [.ref t] ∧ H t = some (.tup r.vs) ∧ r.Ok ∧
  ∀ a H', H a = none → Same H H' → PhAt K H' a r → Q (.ref a) H'
abbrev calmVs : List V := [V.int 0, V.int 1, V.int 1, V.int 0, V.int 0, V.int 1]
theorem at_calm {k : Int} (h0 : 0 ≤ k) (h1 : k < 6) : ∃ g : Int, atI calmVs k = some (.int g) ∧ 0 ≤ g ∧ g ≤ 5 := by
  rcases (by omega : k = 0 ∨ k = 1 ∨ k = 2 ∨ k = 3 ∨ k = 4 ∨ k = 5) with rfl | rfl | rfl | rfl | rfl | rfl <;> exact ⟨_, rfl, by decide, by decide⟩
theorem at_two {k : Int} : ∃ b : Bar, atI [V.str "follow", V.str "guarded"] (k % 2) = some (.str b.s) := by
  rcases (by omega : k % 2 = 0 ∨ k % 2 = 1) with e | e <;> rw [e]
  · exact ⟨.follow, rfl⟩
  · exact ⟨.guarded, rfl⟩
section
variable {P : Program} [SupP P pFile] {w : World} {K : PySem.W.Frag} {mg : Str → Option Value} {base : Heap}
theorem ok_l_calm (T : Tx K mg) : FnOk P w K mg base CX0 1 (gad "_law_calm" K) (fdD K (gad "_law_calm" K)) P_l_calm spCalm := by
  refine T.F_l_calm.ok sc_l_calm (fun vs H Q E h => ?_) (fun cdv A outer s H vs Q E hr h => ?_)
  · obtain ⟨t, r, k, two, rfl, _⟩ := h; rfl
  · obtain ⟨t, r, k, two, rfl, ht, ok, k0, k6, kk⟩ := h
    refine ⟨_, PSs.nox ((pss_cons (ps_set (i := 3) sc_l_calm.nd rfl (Or.inl rfl) (pv 1))
      (C8.pss_cut (ps_if (pt_val (pv 2)) (pss_one (ps_set (i := 3) sc_l_calm.nd rfl (Or.inl rfl) (pe_ix ix_list (pe_lst (pa_cons pe_int (pa_cons pe_int (pa_cons pe_int (pa_cons pe_int (pa_cons pe_int (pa_cons pe_int pa_nil))))))) (pv 1) (fun _ _ => rfl)))) pss_nil)
      (pss_cons (ps_set (i := 4) sc_l_calm.nd rfl (Or.inl rfl) (pe_ix ix_list (pe_lst (pa_cons pe_str (pa_cons pe_str pa_nil))) (pe_op op_mod (pe_callTy call_intI (by rfl) T.n_int (by decide +kernel) (pa_cons (pe_ix ix_tup (pv 0) pe_int (fun _ _ => rfl)) pa_nil)) pe_int) (fun _ _ => rfl)))
      (pss_one (ps_ret (pe_tup (pa_cons (pv 3) (pa_cons (pv 4) (pa_cons (pe_cmpR op_eq (pe_op op_mod (pe_callTy call_intI (by rfl) T.n_int (by decide +kernel) (pa_cons (pv 1) pa_nil)) pe_int) pe_int (nomark _)) (pa_cons pe_bl (pa_cons (pe_op op_mul (pe_op op_mod (pe_callTy call_intI (by rfl) T.n_int (by decide +kernel) (pa_cons (pv 1) pa_nil)) pe_int) (pe_op op_add pe_int (pe_op op_mod (pe_callTy call_intI (by rfl) T.n_int (by decide +kernel) (pa_cons (pe_ix ix_tup (pv 0) pe_int (fun _ _ => rfl)) pa_nil)) pe_int))) (pa_cons pe_bl pa_nil))))))))))))), ?_⟩
    refine ⟨_, rfl, ?_⟩
    refine ⟨fun σ H' => ∃ g : Int, σ = [some (.ref t), some (.int k), some (.bl two), some (.int g), none] ∧ 0 ≤ g ∧ g ≤ 5 ∧ Same H H', ?_, ?_⟩
    · refine ⟨_, rfl, _, rfl, ?_⟩
      refine iteB (fun _ => ?_) (fun _ => ?_)
      · obtain ⟨g, hg, g0, g1⟩ := at_calm k0 k6
        refine ⟨(show (6 : Nat) ≤ sizeLine by decide), fun p1 np1 => ⟨_, rfl, _, _, _, _, rfl, rfl, SqL.of upd_same, hg, ?_⟩⟩
        exact ⟨g, rfl, g0, g1, Same.new np1⟩
      · exact ⟨k, rfl, k0, by omega, Same.refl H⟩
    · rintro σ H1 ⟨g, rfl, g0, g1, S⟩
      have ht1 := S _ _ ht
      obtain ⟨b, hb⟩ := at_two (k := r.hue)
      refine ⟨(show (2 : Nat) ≤ sizeLine by decide), fun p1 np1 => ⟨_, rfl, _, _, _, _, rfl, rfl, SqT.of (upd_old np1 ht1), rfl, _, rfl, _, _, rfl, rfl, (show (0 : Int) < 2 by decide), _, _, _, _, rfl, rfl, SqL.of upd_same, hb, ?_⟩⟩
      refine ⟨_, rfl, _, rfl, _, rfl, _, rfl, _, _, rfl, rfl, (show (0 : Int) < 2 by decide), rfl, _, rfl, _, rfl, _, _, rfl, rfl, (show (0 : Int) < 2 by decide), _, rfl, _, _, _, _, rfl, rfl, SqT.of (upd_old np1 ht1), rfl, _, rfl, _, _, rfl, rfl, (show (0 : Int) < 6 by decide), _, _, rfl, rfl, _, _, rfl, rfl, ?_⟩
      refine ⟨.inl ⟨by omega, by omega⟩, (show (6 : Nat) ≤ sizeLine by decide), fun t' nt => ?_⟩
      refine kk ⟨g, b, _, true, _, false⟩ t' _ ⟨g0, g1, ?_, ?_⟩ (S.free (Same.free (Same.new np1) nt)) (Same.upd (Same.upd S (S.free np1)) (S.free (Same.free (Same.new np1) nt))) upd_same
      · show 0 ≤ k % 2 * (2 + r.std % 6)
        rcases (by omega : k % 2 = 0 ∨ k % 2 = 1) with e | e <;> rw [e] <;> omega
      · show k % 2 * (2 + r.std % 6) ≤ 7
        rcases (by omega : k % 2 = 0 ∨ k % 2 = 1) with e | e <;> rw [e] <;> omega
theorem ok_l_phase (T : Tx K mg) : FnOk P w K mg base CX0 5 (gad "_law_phase" K) (fdD K (gad "_law_phase" K)) P_l_phase (spPhase K) := by
  obtain ⟨_, kb_Phase_barrier_visits_pauses_stand_skips⟩ := kb_Phase_barrier_visits_pauses_stand_skips T
  refine T.F_l_phase.ok sc_l_phase (fun vs H Q E h => ?_) (fun cdv A outer s H vs Q E hr h => ?_)
  · obtain ⟨t, r, rfl, _⟩ := h; rfl
  · obtain ⟨t, r, rfl, ht, ok, k⟩ := h
    refine ⟨_, PSs.nox ((pss_one (ps_ret (pe_makeK T.mk_Phase (ok_Phase_init (P := P) T) (hr.mono (by decide)) rfl T.g_Phase kb_Phase_barrier_visits_pauses_stand_skips passL (pa_cons (pe_ix ix_tup (pv 0) pe_int (fun _ _ => rfl)) pa_nil) (pk_cons (pe_ix ix_tup (pv 0) pe_int (fun _ _ => rfl)) (pk_cons (pe_ix ix_tup (pv 0) pe_int (fun _ _ => rfl)) (pk_cons (pe_ix ix_tup (pv 0) pe_int (fun _ _ => rfl)) (pk_cons (pe_ix ix_tup (pv 0) pe_int (fun _ _ => rfl)) (pk_cons (pe_ix ix_tup (pv 0) pe_int (fun _ _ => rfl)) pk_nil))))))))), ?_⟩
    refine ⟨_, rfl, _, _, _, _, rfl, rfl, (by walk_at "seq"), (by walk_at "at"), _, rfl, _, _, _, _, rfl, rfl, (by walk_at "seq"), (by walk_at "at"), _, rfl, _, _, _, _, rfl, rfl, (by walk_at "seq"), (by walk_at "at"), _, rfl, _, _, _, _, rfl, rfl, (by walk_at "seq"), (by walk_at "at"), _, rfl, _, _, _, _, rfl, rfl, (by walk_at "seq"), (by walk_at "at"), _, rfl, _, _, _, _, rfl, rfl, (by walk_at "seq"), (by walk_at "at"), rfl, rfl, fun x dx nx ndx nex => ?_⟩
    refine ⟨x, dx, r.rw, rfl, upd_same, fun _ H4 f4 h4 => ⟨rfl, ?_⟩, fun f hf => absurd ((Ph.good ok).symm.trans hf) (by simp)⟩
    exact k x H4 nx (made_same nx ndx f4) ⟨dx, h4⟩

end
theorem RowsAt.nil {H : Hp} {D : Addr} : RowsAt (upd H D (.lst [])) D [] := ⟨⟨[], upd_same, rfl, fun i t r h _ => by simp at h⟩, fun r h => by cases h⟩
theorem RowsAt.snoc {H : Hp} {D t : Addr} {rs : List Ph} {r : Ph} (h : RowsAt H D rs) (ht : H t = some (.tup r.vs)) (hr : r.Ok) :
    ∃ xs, H D = some (.lst xs) ∧ xs.length = rs.length ∧ RowsAt (upd H D (.lst (xs ++ [.ref t]))) D (rs ++ [r]) := by
  obtain ⟨⟨ts, h1, h2, h3⟩, h4⟩ := h
  refine ⟨_, h1, by rw [List.length_map, h2], ⟨ts ++ [t], by rw [upd_same, List.map_append]; rfl, by rw [List.length_append, List.length_append, h2]; rfl, fun i t' r' a b => ?_⟩, fun q hq => ?_⟩
  · have tup : ∀ {x : Addr} {q : Ph}, H x = some (.tup q.vs) → ∀ u, upd H D (.lst u) x = some (.tup q.vs) := fun hx u => upd_oth (ne_of hx h1 (by intro z; cases z)) hx
    by_cases hi : i < ts.length
    · rw [List.getElem?_append_left hi] at a
      rw [List.getElem?_append_left (by omega)] at b
      exact tup (h3 i t' r' a b) _
    · rw [List.getElem?_append_right (by omega)] at a
      rw [List.getElem?_append_right (by omega)] at b
      have e0 : i - ts.length = 0 := by
        have := (List.getElem?_eq_some_iff.mp a).1
        simp at this
        omega
      have e1 : i - rs.length = 0 := by omega
      rw [e0] at a
      rw [e1] at b
      cases a
      cases b
      exact tup ht _
  · rcases List.mem_append.mp hq with z | z
    · exact h4 q z
    · rw [List.mem_singleton.mp z]; exact hr
theorem RowsAt.put {H : Hp} {D t : Addr} {rs : List Ph} {r : Ph} {i : Nat} (h : RowsAt H D rs) (ht : H t = some (.tup r.vs)) (hr : r.Ok) :
    ∃ xs, H D = some (.lst xs) ∧ xs.length = rs.length ∧ RowsAt (upd H D (.lst (xs.set i (.ref t)))) D (rs.set i r) := by
  obtain ⟨⟨ts, h1, h2, h3⟩, h4⟩ := h
  refine ⟨_, h1, by rw [List.length_map, h2], ⟨ts.set i t, by rw [upd_same, List.map_set], by rw [List.length_set, List.length_set, h2], fun j t' r' a b => ?_⟩, fun q hq => ?_⟩
  · have tup : ∀ {x : Addr} {q : Ph}, H x = some (.tup q.vs) → ∀ u, upd H D (.lst u) x = some (.tup q.vs) := fun hx u => upd_oth (ne_of hx h1 (by intro z; cases z)) hx
    rw [List.getElem?_set] at a b
    split at a
    · rename_i ei
      rw [if_pos ei] at b
      split at a
      · split at b
        · cases a; cases b
          exact tup ht _
        · cases b
      · cases a
    · rename_i ei
      rw [if_neg ei] at b
      exact tup (h3 j t' r' a b) _
  · rcases List.mem_or_eq_of_mem_set hq with z | z
    · exact h4 q z
    · rw [z]; exact hr
theorem ixN_of {n : Nat} {i : Int} (h0 : 0 ≤ i) (h1 : i < n) : ixN n i = some i.toNat := by
  unfold ixN
  rw [if_pos h0, if_pos h1]
theorem row_at (r : Ph) : atI r.vs 0 = some (.int r.hue) ∧ atI r.vs 1 = some (.str r.bar.s) ∧ atI r.vs 2 = some (.bl r.vis) ∧ atI r.vs 3 = some (.bl r.pau) ∧ atI r.vs 4 = some (.int r.std) ∧ atI r.vs 5 = some (.bl r.skp) := ⟨rfl, rfl, rfl, rfl, rfl, rfl⟩
section
variable {P : Program} [SupP P pFile] {w : World} {K : PySem.W.Frag} {mg : Str → Option Value} {base : Heap}
theorem ok_l_rows (T : Tx K mg) : FnOk P w K mg base CX0 5 (gad "_law_rows" K) (fdD K (gad "_law_rows" K)) P_l_rows spRows := by
  refine T.F_l_rows.ok sc_l_rows (fun vs H Q E h => ?_) (fun cdv A outer s H vs Q E hr h => ?_)
  · obtain ⟨l, m, rfl, _⟩ := h; rfl
  · obtain ⟨l, m, rfl, hP, m1, m6, k⟩ := h
    refine ⟨_, PSs.nox ((pss_cons (ps_set (i := 2) sc_l_rows.nd rfl (Or.inl rfl) (pe_op op_add pe_int (pe_call (ok_l_take (P := P) T) (hr.mono (by decide)) rfl T.g_l_take T.F_l_take.kp (bd_l_take T) .nil pass0 (pa_cons (pv 0) (pa_cons (pv 1) pa_nil)))))
      (pss_cons (ps_set (i := 3) sc_l_rows.nd rfl (Or.inl rfl) (pe_call (ok_l_take (P := P) T) (hr.mono (by decide)) rfl T.g_l_take T.F_l_take.kp (bd_l_take T) .nil pass0 (pa_cons (pv 0) (pa_cons pe_int pa_nil))))
      (pss_cons (ps_set (i := 4) sc_l_rows.nd rfl (Or.inr rfl) (pe_lc (own := [("_law_k", 8)]) (g := gName 8) (tt := tYes) rfl sc_l_rows.nd (pi_range1 (by rfl) T.n_range (pa_cons (pv 2) pa_nil)) (blkOk_by (own := [("_law_k", 8)]) (N := N_l_rows) (sc := defScope s_l_rows) (by decide +kernel)) (fun _ _ _ _ _ => (pg_name (i := 8) sc_l_rows.nd rfl (Or.inl rfl))) (fun _ _ _ _ _ => pts_nil) (fun _ _ _ _ _ => (pe_call (ok_l_raw (P := P) T) (hr.mono (by decide)) rfl T.g_l_raw T.F_l_raw.kp (bd_l_raw T) .nil pass0 (pa_cons (pv 0) pa_nil)))))
      (pss_cons (ps_if (pt_cmpR op_eq (pv 3) pe_int (nomark _)) (pss_one (ps_ret (pv 4))) pss_nil)
      (C8.pss_cut (ps_set (i := 5) sc_l_rows.nd rfl (Or.inr rfl) (pe_or (pe_cmpR op_eq (pv 3) pe_int (nomark _)) (pe_one (pe_and (pe_cmpR op_eq (pv 3) pe_int (nomark _)) (pe_one (pe_ix ix_tup (pe_ix ix_list (pv 4) pe_int (fun _ _ => rfl)) pe_int (fun _ _ => rfl)))))))
      (pss_cons (ps_setLc (i := 6) (own := [("_law_k", 8)]) (g := gName 8) (tt := tYes) rfl sc_l_rows.nd rfl rfl (sw_true rfl rfl rfl (by decide +kernel)) (pi_range1 (by rfl) T.n_range (pa_cons (pv 2) pa_nil)) (blkOk_by (own := [("_law_k", 8)]) (N := N_l_rows) (sc := defScope s_l_rows) (by decide +kernel)) (fun _ _ _ _ _ => (pg_name (i := 8) sc_l_rows.nd rfl (Or.inl rfl))) (fun _ _ _ _ _ => pts_nil) (fun _ _ _ _ _ => (pe_call (ok_l_calm (P := P) T) (hr.mono (by decide)) rfl T.g_l_calm T.F_l_calm.kp (bd_l_calm T) .nil pass0 (pa_cons (pe_ix (ix_listK (K := K) rfl) (pv 4) (pv 8) (fun _ _ => rfl)) (pa_cons (pv 8) (pa_cons (pv 5) pa_nil))))))
      (pss_cons (ps_if (pt_cmpR op_eq (pv 3) pe_int (nomark _)) (pss_cons (ps_set (i := 7) sc_l_rows.nd rfl (Or.inl rfl) (pe_call (ok_l_take (P := P) T) (hr.mono (by decide)) rfl T.g_l_take T.F_l_take.kp (bd_l_take T) .nil pass0 (pa_cons (pv 0) (pa_cons (pv 2) pa_nil))))
      (pss_one (ps_asg (pe_ix ix_list (pv 4) (pv 7) (fun _ _ => rfl)) (pg_sub (pv 6) (pv 7) set_list)))) pss_nil)
      (pss_one (ps_ret (pv 6))))))))))), ?_⟩
    refine ⟨_, rfl, _, rfl, l, m, rfl, hP, by omega, fun v H1 v0 v1 o1 P1 => ⟨_, _, rfl, rfl, ?_⟩⟩
    refine ⟨_, rfl, l, 4, rfl, P1, by omega, fun st H2 s0 s1 o2 P2 => ?_⟩
    refine ⟨_, rfl, _, rfl, by omega, by omega, fun D nD => ?_⟩
    have Dl : D ≠ l := P2.ne nD
    have nv : (1 + v).toNat = v.toNat + 1 := by omega
    refine lc_range (lo := 0) (n := _) (fun i H' => ∃ rs, RowsAt H' D rs ∧ rs.length = i ∧ Fl l H2 H' ∧ PoolAt H' l) ⟨[], RowsAt.nil, rfl, Fl.new nD, P2.upd nD⟩ ?_ ?_
    · rintro i H3 hi ⟨rs, R, hl, f3, P3⟩
      refine ⟨rfl, ?_⟩
      refine ⟨_, rfl, l, rfl, P3, fun r t H4 ok nt tl f4 P4 ht => ?_⟩
      obtain ⟨xs, h1, h2, h3⟩ := (R.fl f4 Dl P3).snoc ht ok
      exact ⟨xs, h1, small1000 (by omega), rs ++ [r], h3, by rw [List.length_append, hl]; rfl, fun a o n h => upd_oth (ne_of_none h nD) ((f3.trans f4) a o n h), by obtain ⟨ns, p1, p2⟩ := P4; exact ⟨ns, upd_oth Dl.symm p1, p2⟩⟩
    · rintro H3 ⟨rs, R, hl, f3, P3⟩
      have fH : Fl l H H3 := (o1.trans o2).trans f3
      have Dn : H D = none := (o1.trans o2).free Dl nD
      refine ⟨_, rfl, rfl, _, rfl, ?_⟩
      refine iteB (fun _ => ?_) (fun _ => ?_)
      · exact ⟨_, rfl, k rs D H3 R (by omega) (by omega) Dn Dl fH P3⟩
      obtain ⟨xs0, t0, r0, hx0, ha0, hr0, ok0, ht0⟩ := R.row (i := 0) (by omega) (by omega)
      refine ⟨fun σ H' => ∃ b : Bool, σ = [some (.ref l), some (.int m), some (.int (1 + v)), some (.int st), some (.ref D), some (.bl b), none, none, none] ∧ H3 = H', ?_, ?_⟩
      · refine ⟨_, rfl, rfl, _, rfl, ?_⟩
        refine iteB (fun _ => ⟨_, rfl, rfl⟩) (fun _ => ?_)
        refine ⟨_, rfl, rfl, _, rfl, ?_⟩
        refine iteB (fun _ => ?_) (fun _ => ⟨_, rfl, rfl⟩)
        exact ⟨_, rfl, _, _, _, _, rfl, rfl, SqL.of hx0, ha0, _, _, _, _, rfl, rfl, SqT.of ht0, (row_at r0).2.2.1, ⟨_, rfl, rfl⟩⟩
      · rintro σ H' ⟨b, rfl, rfl⟩
        refine ⟨_, rfl, _, rfl, by omega, by omega, fun D2 nD2 => ?_⟩
        have Dl2 : D2 ≠ l := P3.ne nD2
        have DD : D ≠ D2 := ne_of_none hx0 nD2
        refine lc_range (lo := 0) (n := _) (fun i H' => ∃ rs2, RowsAt H' D2 rs2 ∧ rs2.length = i ∧ Same H3 H') ⟨[], RowsAt.nil, rfl, Same.new nD2⟩ ?_ ?_
        · rintro i H4 hi ⟨rs2, R2, hl2, S4⟩
          refine ⟨rfl, ?_⟩
          obtain ⟨xs1, t1, r1, hx1, ha1, hr1, ok1, ht1⟩ := R.row (i := 0 + (i : Int)) (by omega) (by omega)
          refine ⟨_, rfl, _, rfl, _, _, _, _, rfl, rfl, SqL.of (S4 _ _ hx1), ha1, _, rfl, _, rfl, t1, r1, _, b, rfl, S4 _ _ ht1, ok1, by omega, by omega, fun r' t' H5 ok' nt' S5 ht' => ?_⟩
          obtain ⟨xs, h1, h2, h3⟩ := (R2.mono S5).snoc ht' ok'
          exact ⟨xs, h1, small1000 (by omega), rs2 ++ [r'], h3, by rw [List.length_append, hl2]; rfl, Same.upd (S4.trans S5) nD2⟩
        · rintro H4 ⟨rs2, R2, hl2, S4⟩
          have P4 : PoolAt H4 l := by obtain ⟨ns, p1, p2⟩ := P3; exact ⟨ns, S4 _ _ p1, p2⟩
          have f4 : Fl l H H4 := fH.trans (Fl.same S4)
          have Dn2 : H D2 = none := fH.free Dl2 nD2
          refine ⟨_, rfl, rfl, _, rfl, ?_⟩
          refine iteB (fun _ => ?_) (fun _ => ?_)
          · refine ⟨_, rfl, _, rfl, l, _, rfl, P4, by omega, fun at' H5 a0 a1 o5 P5 => ?_⟩
            have R5 := (R.mono S4).fl o5 Dl P4
            have R25 := R2.fl o5 Dl2 P4
            obtain ⟨xs1, t1, r1, hx1, ha1, hr1, ok1, ht1⟩ := R5.row (i := at') a0 (by omega)
            obtain ⟨xs, h1, h2, h3⟩ := R25.put (i := at'.toNat) ht1 ok1
            refine ⟨_, rfl, _, rfl, _, _, _, _, rfl, rfl, SqL.of hx1, ha1, _, rfl, _, rfl, D2, xs, _, _, rfl, rfl, h1, ixN_of a0 (by omega), ?_⟩
            refine ⟨_, rfl, k _ D2 _ h3 (by rw [List.length_set]; omega) (by rw [List.length_set]; omega) Dn2 Dl2 (fun a o n h => upd_oth (ne_of_none h Dn2) ((f4.trans o5) a o n h)) (by obtain ⟨ns, p1, p2⟩ := P5; exact ⟨ns, upd_oth Dl2.symm p1, p2⟩)⟩
          · exact ⟨_, rfl, k rs2 D2 H4 R2 (by omega) (by omega) Dn2 Dl2 f4 P4⟩
end

/-! ### books from rows; what is compared -/
def PsAt (K : PySem.W.Frag) (H : Hp) (l : Addr) (rs : List Ph) : Prop := ∃ as : List Addr, H l = some (.lst (as.map V.ref)) ∧ as.length = rs.length ∧ ∀ (i : Nat) (a : Addr) (r : Ph), as[i]? = some a → rs[i]? = some r → PhAt K H a r
theorem PsAt.nil {K : PySem.W.Frag} {H : Hp} {D : Addr} : PsAt K (upd H D (.lst [])) D [] := ⟨[], upd_same, rfl, fun i t r h _ => by simp at h⟩
theorem PsAt.mono {K : PySem.W.Frag} {H H' : Hp} {l : Addr} {rs : List Ph} (h : PsAt K H l rs) (e : Same H H') : PsAt K H' l rs := by
  obtain ⟨as, h1, h2, h3⟩ := h
  exact ⟨as, e _ _ h1, h2, fun i a r ha hr => (h3 i a r ha hr).same e⟩
theorem PsAt.snoc {K : PySem.W.Frag} {H : Hp} {D t : Addr} {rs : List Ph} {r : Ph} (h : PsAt K H D rs) (ht : PhAt K H t r) :
    ∃ xs, H D = some (.lst xs) ∧ xs.length = rs.length ∧ PsAt K (upd H D (.lst (xs ++ [.ref t]))) D (rs ++ [r]) := by
  obtain ⟨ts, h1, h2, h3⟩ := h
  refine ⟨_, h1, by rw [List.length_map, h2], ⟨ts ++ [t], by rw [upd_same, List.map_append]; rfl, by rw [List.length_append, List.length_append, h2]; rfl, fun i t' r' a b => ?_⟩⟩
  have keep : ∀ {x : Addr} {q : Ph}, PhAt K H x q → ∀ u, PhAt K (upd H D (.lst u)) x q := fun ⟨d, hx⟩ u => ⟨d, upd_oth (ne_of hx h1 (by intro z; cases z)) hx⟩
  by_cases hi : i < ts.length
  · rw [List.getElem?_append_left hi] at a
    rw [List.getElem?_append_left (by omega)] at b
    exact keep (h3 i t' r' a b) _
  · rw [List.getElem?_append_right (by omega)] at a
    rw [List.getElem?_append_right (by omega)] at b
    have e0 : i - ts.length = 0 := by
      have := (List.getElem?_eq_some_iff.mp a).1
      simp at this
      omega
    have e1 : i - rs.length = 0 := by omega
    rw [e0] at a
    rw [e1] at b
    cases a
    cases b
    exact keep ht _
def spBook (K : PySem.W.Frag) : Sp := fun vs H Q _ => ∃ (a : Addr) (rs : List Ph), vs = [.ref a] ∧ RowsAt H a rs ∧ 1 ≤ rs.length ∧ rs.length ≤ 6 ∧
  ∀ b l H', H b = none → H l = none → Same H H' → BkAt K H' b l rs → Q (.ref b) H'
def spLawAfter : Sp := fun vs H Q _ => ∃ (a : Addr) (rs : List Ph) (row : Nat), vs = [.ref a, .int row] ∧ RowsAt H a rs ∧ row < rs.length ∧ rs.length ≤ 6 ∧
  ∀ D H', H D = none → Same H H' → H' D = some (.lst (nts (after rs row))) → Q (.ref D) H'
def spSamePhase (K : PySem.W.Frag) : Sp := fun vs H Q _ => ∃ (x t : Addr) (r : Ph), vs = [.ref x, .ref t] ∧ PhAt K H x r ∧ H t = some (.tup r.vs) ∧ Q (.bl true) H
def spSameBook (K : PySem.W.Frag) : Sp := fun vs H Q _ => ∃ (b l a : Addr) (rs : List Ph), vs = [.ref b, .ref a] ∧ BkAt K H b l rs ∧ RowsAt H a rs ∧ Q (.bl true) H
def spAllAfter (K : PySem.W.Frag) : Sp := fun vs H Q _ => ∃ (b l a : Addr) (rs : List Ph), vs = [.ref b, .ref a] ∧ BkAt K H b l rs ∧ RowsAt H a rs ∧ ∀ H', Same H H' → Q (.bl true) H'
theorem bk_no (l : Addr) {m : Str} (h : ¬ m = "phases") : (bkF l).lookup m = none := by
  unfold bkF
  rw [lookup_putF, if_neg h]
  rfl
section
variable {P : Program} [SupP P pFile] {w : World} {K : PySem.W.Frag} {mg : Str → Option Value} {base : Heap}
theorem ok_l_book (T : Tx K mg) : FnOk P w K mg base CX0 7 (gad "_law_book" K) (fdD K (gad "_law_book" K)) P_l_book (spBook K) := by
  refine T.F_l_book.ok sc_l_book (fun vs H Q E h => ?_) (fun cdv A outer s H vs Q E hr h => ?_)
  · obtain ⟨a, rs, rfl, _⟩ := h; rfl
  · obtain ⟨a, rs, rfl, R, n1, n6, k⟩ := h
    refine ⟨_, PSs.nox ((pss_one (ps_ret (ClX.pe_cmeth (pe_gr rfl T.g_Book) T.cr_Book T.cm_Book_of (fr_Book_of (P := P) T) (hr.mono (by decide)) passL (pa_cons (pe_lc (own := [("_law_row", 1)]) (g := gName 1) (tt := tYes) rfl sc_l_book.nd (pi_list (pv 0)) (blkOk_by (own := [("_law_row", 1)]) (N := N_l_book) (sc := defScope s_l_book) (by decide +kernel)) (fun _ _ _ _ _ => (pg_name (i := 1) sc_l_book.nd rfl (Or.inl rfl))) (fun _ _ _ _ _ => pts_nil) (fun _ _ _ _ _ => (pe_call (ok_l_phase (P := P) T) (hr.mono (by decide)) rfl T.g_l_phase T.F_l_phase.kp (bd_l_phase T) .nil pass0 (pa_cons (pv 1) pa_nil)))) pa_nil))))), ?_⟩
    obtain ⟨⟨ts, h1, h2, h3⟩, rok⟩ := id R
    refine ⟨rfl, _, rfl, a, rfl, ⟨_, SqL.of h1⟩, fun D nD => lc_list (K := K) (a := a) (xs := ts.map V.ref) (fun i H' => PsAt K H' D (rs.take i) ∧ Same H H') ⟨PsAt.nil, Same.new nD⟩ (fun i H' _ ⟨_, S⟩ => SqL.of (S _ _ h1)) ?_ ?_⟩
    · rintro i x H1 hi ⟨p1, S1⟩
      rw [List.getElem?_map] at hi
      cases et : ts[i]? with
      | none => rw [et] at hi; cases hi
      | some t =>
        rw [et] at hi
        cases hi
        have hi2 : i < rs.length := by rw [← h2]; exact (List.getElem?_eq_some_iff.mp et).1
        obtain ⟨r, hr', hm⟩ := mem_get hi2
        refine ⟨rfl, _, rfl, t, r, rfl, S1 _ _ (h3 i t r et hr'), rok r hm, fun y H2 ny S2 hy => ?_⟩
        obtain ⟨xs, q1, q2, q3⟩ := (p1.mono S2).snoc hy
        rw [List.length_take] at q2
        refine ⟨xs, q1, small1000 (by omega), ?_, Same.upd (S1.trans S2) nD⟩
        rw [List.take_add_one, hr']
        exact q3
    · rintro H1 ⟨p1, S1⟩
      rw [List.length_map, h2, List.take_length] at p1
      obtain ⟨as, q1, q2, q3⟩ := p1
      refine ⟨D, _, rfl, SqL.of q1, by rw [List.length_map]; omega, fun hv b dx l H2 nb nl S2 hb hl => ?_, fun hv => ?_⟩
      · exact k b l H2 (S1.free nb) (S1.free nl) (S1.trans S2) ⟨⟨dx, hb⟩, ⟨as, hl, q2, fun i a r ha hr => (q3 i a r ha hr).same S2⟩, n1, n6, rok⟩
      · exact absurd ⟨by rw [List.length_map]; omega, by rw [List.length_map]; omega⟩ hv
end

end Hue

set_option Elab.async false
set_option linter.all false
set_option maxRecDepth 100000
set_option maxHeartbeats 1000000
namespace Hue
open PySem PySem.Spec PyProof.Rows L2
local macro_rules | `(tactic| walk_at "hp") => `(tactic| first
  | assumption
  | exact upd_same
  | (refine upd_old (by assumption) ?_; walk_at "hp")
  | (refine upd_oth (by assumption) ?_; walk_at "hp")
  | (refine same_get (by assumption) ?_; walk_at "hp")
  | (refine Fl.get (by assumption) (by assumption) ?_; walk_at "hp"))
local macro_rules | `(tactic| walk_at "seq") => `(tactic| first
  | assumption
  | exact T.t_BARRIERS _
  | exact SqL.of (by walk_at "hp")
  | exact SqT.of (by walk_at "hp"))
local macro_rules | `(tactic| walk_at "len") => `(tactic| first
  | exact Or.inl (by walk_at "seq")
  | exact Or.inr (by walk_at "seq"))
local macro_rules | `(tactic| walk_at "at") => `(tactic| first
  | rfl
  | assumption)

section
variable {P : Program} [SupP P pFile] {w : World} {K : PySem.W.Frag} {mg : Str → Option Value} {base : Heap}
theorem ok_Phase_text (T : Tx K mg) : FnOk P w K mg base CX0 1 (pad "property" "Phase" "text" K) (fdD K (pad "property" "Phase" "text" K)) P_Phase_text (spPhText K) := by
  refine T.F_Phase_text.ok sc_Phase_text (fun vs H Q E h => ?_) (fun cdv A outer s H vs Q E hr h => ?_)
  · obtain ⟨a, r, rfl, _⟩ := h; rfl
  · obtain ⟨a, r, rfl, ⟨dx, ha⟩, hg, k⟩ := h
    obtain ⟨ph, ok, er⟩ := Rw.good hg
    have h0 : 0 ≤ r.hue := by rw [← er]; exact ok.h0
    have h1 : r.hue ≤ 9 := by rw [← er]; exact Int.le_trans ok.h1 (by decide)
    have s0 : 0 ≤ r.std := by rw [← er]; exact ok.s0
    have s1 : r.std ≤ 9 := by rw [← er]; exact Int.le_trans ok.s1 (by decide)
    have bl : r.bar.length ≤ 10 := by rw [← er]; exact bar_len ph.bar
    refine ⟨_, PSs.nox ((pss_cons (ps_set (i := 1) sc_Phase_text.nd rfl (Or.inl rfl) (pe_lst (pa_cons (pe_callTy call_str_int (by rfl) T.n_str (by decide +kernel) (pa_cons (pe_fld (pv 0) rfl) pa_nil)) (pa_cons (pe_fld (pv 0) rfl) pa_nil))))
      (C8.pss_cut (ps_if (pt_val (pe_fld (pv 0) rfl)) (pss_one (ps_expr (pe_bm PySem.F.plainAttrs_list PySem.F.slot_list_append PySem.F.type_list_append mt_append (pv 1) (pa_cons pe_str pa_nil)))) pss_nil)
      (C8.pss_cut (ps_if (pt_val (pe_fld (pv 0) rfl)) (pss_one (ps_expr (pe_bm PySem.F.plainAttrs_list PySem.F.slot_list_append PySem.F.type_list_append mt_append (pv 1) (pa_cons pe_str pa_nil)))) pss_nil)
      (C8.pss_cut (ps_if (pt_cmpR op_ne (pe_fld (pv 0) rfl) pe_int (nomark _)) (pss_one (ps_expr (pe_bm PySem.F.plainAttrs_list PySem.F.slot_list_append PySem.F.type_list_append mt_append (pv 1) (pa_cons (pe_op op_add_str pe_str (pe_callTy call_str_int (by rfl) T.n_str (by decide +kernel) (pa_cons (pe_fld (pv 0) rfl) pa_nil))) pa_nil)))) pss_nil)
      (C8.pss_cut (ps_if (pt_val (pe_fld (pv 0) rfl)) (pss_one (ps_expr (pe_bm PySem.F.plainAttrs_list PySem.F.slot_list_append PySem.F.type_list_append mt_append (pv 1) (pa_cons pe_str pa_nil)))) pss_nil)
      (pss_one (ps_ret (pe_join pe_str (pv 1)))))))))), ?_⟩
    refine ⟨_, rfl, a, _, dx, _, _, rfl, ha, T.c_Phase, T.na_Phase_hue, rw_hue r, _, rfl, small_log h0 h1, _, rfl, a, _, dx, _, _, rfl, ha, T.c_Phase, T.na_Phase_barrier, rw_barrier r, (show (2 : Nat) ≤ sizeLine by decide), fun l nl => ?_⟩
    refine ⟨WdAt H a l ([numS r.hue, r.bar] ++ (if r.vis = true then [("visits" : Str)] else [])), ?_, ?_⟩
    · have ha0 := upd_old (u := .lst [.str (numS r.hue), .str r.bar]) nl ha
      refine ⟨_, rfl, a, _, dx, _, _, rfl, ha0, T.c_Phase, T.na_Phase_visits, rw_visits r, _, rfl, iteB (fun c => ?_) (fun c => ?_)⟩
      · refine ⟨_, rfl, .inl ⟨rfl, _, SqL.of upd_same⟩, l, _, _, rfl, rfl, upd_same, (show (2 : Nat) < sizeLine by decide), rfl, nl, ?_, ?_⟩
        · simp only [upd_upd]; exact Same.new nl
        · rw [if_pos c]; exact upd_same
      · refine ⟨rfl, nl, ?_, ?_⟩
        · exact Same.new nl
        · rw [if_neg (by rw [c]; exact Bool.false_ne_true)]; exact upd_same
    · rintro σ H1 ⟨rfl, _, S1, w1⟩
      have z1 : ([numS r.hue, r.bar] ++ (if r.vis = true then [("visits" : Str)] else [])).length ≤ 3 := by split <;> simp
      have ha1 := S1 _ _ ha
      generalize e1 : ([numS r.hue, r.bar] ++ (if r.vis = true then [("visits" : Str)] else [])) = ws1 at w1 z1
      refine ⟨WdAt H a l (ws1 ++ (if r.pau = true then [("pauses" : Str)] else [])), ?_, ?_⟩
      · refine ⟨_, rfl, a, _, dx, _, _, rfl, ha1, T.c_Phase, T.na_Phase_pauses, rw_pauses r, _, rfl, iteB (fun c => ?_) (fun c => ?_)⟩
        · refine ⟨_, rfl, .inl ⟨rfl, _, SqL.of w1⟩, l, _, _, rfl, rfl, w1, wd_lt z1 (by decide), ?_⟩
          rw [if_pos c]
          exact WdAt.put nl S1
        · rw [if_neg (by rw [c]; exact Bool.false_ne_true), List.append_nil]
          exact ⟨rfl, nl, S1, w1⟩
      · rintro σ H2 ⟨rfl, _, S2, w2⟩
        have z2 : (ws1 ++ (if r.pau = true then [("pauses" : Str)] else [])).length ≤ 4 := by rw [List.length_append]; split <;> simp <;> omega
        have ha2 := S2 _ _ ha
        generalize e2 : (ws1 ++ (if r.pau = true then [("pauses" : Str)] else [])) = ws2 at w2 z2
        refine ⟨WdAt H a l (ws2 ++ (if r.std ≠ 0 then [("stand " : Str) ++ numS r.std] else [])), ?_, ?_⟩
        · refine ⟨_, rfl, a, _, dx, _, _, rfl, ha2, T.c_Phase, T.na_Phase_stand, rw_stand r, rfl, _, rfl, ?_⟩
          by_cases c : r.std = 0
          · refine iteNS (show V.int r.std = V.int 0 by rw [c]) ?_
            rw [if_neg (fun z => z c), List.append_nil]
            exact ⟨rfl, nl, S2, w2⟩
          · refine iteND (fun z => c (V.int.inj z)) ?_
            refine ⟨_, rfl, .inl ⟨rfl, _, SqL.of w2⟩, _, rfl, a, _, dx, _, _, rfl, ha2, T.c_Phase, T.na_Phase_stand, rw_stand r, _, rfl, small_log s0 s1, _, _, rfl, rfl, ?_, l, _, _, rfl, rfl, w2, wd_lt z2 (by decide), ?_⟩
            · have := num_le s0 s1
              have e6 : ("stand " : Str).length = 6 := by decide +kernel
              rw [e6]
              exact Nat.le_trans (show _ ≤ 100 by show 6 + (numS r.std).length ≤ 100; omega) (by decide)
            · rw [if_pos c]
              exact WdAt.put nl S2
        · rintro σ H3 ⟨rfl, _, S3, w3⟩
          have z3 : (ws2 ++ (if r.std ≠ 0 then [("stand " : Str) ++ numS r.std] else [])).length ≤ 5 := by rw [List.length_append]; split <;> simp <;> omega
          have ha3 := S3 _ _ ha
          generalize e3 : (ws2 ++ (if r.std ≠ 0 then [("stand " : Str) ++ numS r.std] else [])) = ws3 at w3 z3
          refine ⟨WdAt H a l (ws3 ++ (if r.skp = true then [("skips" : Str)] else [])), ?_, ?_⟩
          · refine ⟨_, rfl, a, _, dx, _, _, rfl, ha3, T.c_Phase, T.na_Phase_skips, rw_skips r, _, rfl, iteB (fun c => ?_) (fun c => ?_)⟩
            · refine ⟨_, rfl, .inl ⟨rfl, _, SqL.of w3⟩, l, _, _, rfl, rfl, w3, wd_lt z3 (by decide), ?_⟩
              rw [if_pos c]
              exact WdAt.put nl S3
            · rw [if_neg (by rw [c]; exact Bool.false_ne_true), List.append_nil]
              exact ⟨rfl, nl, S3, w3⟩
          · rintro σ H4 ⟨rfl, _, S4, w4⟩
            have ew : ws3 ++ (if r.skp = true then [("skips" : Str)] else []) = r.words := by
              unfold Rw.words
              rw [← e3, ← e2, ← e1]
            rw [ew] at w4
            refine ⟨⟨_, rfl⟩, _, rfl, _, l, _, rfl, rfl, .inl (SqL.of w4), ?_, ?_⟩
            · exact words_size h0 h1 s0 s1 bl
            · exact k _ S4
end

theorem kb_Phase_hue_barrier_visits_pauses_stand_skips {K : PySem.W.Frag} {mg : Str → Option Value} (T : Tx K mg) : ∃ g, KBn K (fdD K (mad "Phase" "__init__" K)) P_Phase_init 1 ["hue", "barrier", "visits", "pauses", "stand", "skips"] g (fun us zs => us ++ ((zs.drop 0).take 1 ++ ((zs.drop 1).take 1 ++ ((zs.drop 2).take 1 ++ ((zs.drop 3).take 1 ++ ((zs.drop 4).take 1 ++ ((zs.drop 5).take 1))))))) := by
  obtain ⟨mv, h⟩ := FunD.kbinds0 (ps := P_Phase_init) T.F_Phase_init 1 ["hue", "barrier", "visits", "pauses", "stand", "skips"] ([] : List (Str × V)) (fun us mz zs => us ++ ((zs.drop 0).take 1 ++ ((zs.drop 1).take 1 ++ ((zs.drop 2).take 1 ++ ((zs.drop 3).take 1 ++ ((zs.drop 4).take 1 ++ ((zs.drop 5).take 1))))))) (by simp) (by simp) (fun r1 r2 r3 => Vals.append r1 (Vals.append (Vals.take 1 (Vals.drop 0 r3)) (Vals.append (Vals.take 1 (Vals.drop 1 r3)) (Vals.append (Vals.take 1 (Vals.drop 2 r3)) (Vals.append (Vals.take 1 (Vals.drop 3 r3)) (Vals.append (Vals.take 1 (Vals.drop 4 r3)) (Vals.take 1 (Vals.drop 5 r3))))))))
    (fun D doc pm an cdv ct us mv ws h1 h2 h3 => match us, mv, ws, h1, h2, h3 with | [_], [], [_, _, _, _, _, _], _, _, _ => rfl)
  exact ⟨_, h⟩
/-! ### Phase.changed -/
def Rw.kv (r : Rw) : List (Key × V) := [(.inr "hue", .int r.hue), (.inr "barrier", .str r.bar), (.inr "visits", .bl r.vis), (.inr "pauses", .bl r.pau), (.inr "stand", .int r.std), (.inr "skips", .bl r.skp)]
def fNames : List Str := ["hue", "barrier", "visits", "pauses", "stand", "skips"]
def unk (k : Str) : Bool := !fNames.contains k
theorem rw_kwV (r : Rw) : kwV fNames r.vs = r.kv := rfl
theorem val_kv (r : Rw) (k : Str) : (valV r.kv (.inr k)).isSome = !unk k := by
  have e : ∀ x : Str, decide ((Sum.inr x : Key) = .inr k) = (k == x) := fun x => by
    by_cases z : k = x
    · rw [z]; simp
    · rw [decide_eq_false fun q => z (Sum.inr.inj q).symm]
      exact (beq_eq_false_iff_ne.mpr z).symm
  rw [← valV_any]
  unfold unk fNames Rw.kv
  rw [Bool.not_not]
  simp only [List.any_cons, List.any_nil, List.contains_cons, List.contains_nil, Bool.or_false, e]
theorem ebad_same {K : PySem.W.Frag} {H H1 : Hp} {E : XK} {f : Str} (h : EBad K H E f) (S : Same H H1) : EBad K H1 E f := fun dd H' nd S' hd => h dd H' (S.free nd) (S.trans S') hd
theorem mergeK_nil (r : Rw) : mergeK [] r.kv = r.kv := by kernel_rfl
/-- what changed answers to the keywords ks, zs: the first unknown keyword is refused, then bad fields -/
def ChAns (K : PySem.W.Frag) (ks : List Str) (zs : List V) (r : Rw) (H : Hp) (Q : VK) (E : XK) : Prop := (∀ u, ks.find? unk = some u → EBad K H E u) ∧
  (ks.find? unk = none → ∃ r', mergeK r.kv (kwV ks zs) = r'.kv ∧ (r'.bad = none → ∀ x H', H x = none → Same H H' → RwAt K H' x r' → Q (.ref x) H') ∧ ∀ f, r'.bad = some f → EBad K H E f)
theorem ChAns.same {K : PySem.W.Frag} {ks : List Str} {zs : List V} {r : Rw} {H H1 : Hp} {Q : VK} {E : XK} (h : ChAns K ks zs r H Q E) (S : Same H H1) : ChAns K ks zs r H1 Q E := by
  refine ⟨fun u e => ebad_same (h.1 u e) S, fun e => ?_⟩
  obtain ⟨r', e1, e2, e3⟩ := h.2 e
  exact ⟨r', e1, fun g x H' nx S' R => e2 g x H' (S.free nx) (S.trans S') R, fun f hf => ebad_same (e3 f hf) S⟩
def spChanged (K : PySem.W.Frag) (ks : List Str) : Sp := fun vs H Q E => ∃ (a : Addr) (r : Rw) (zs : List V), vs = .ref a :: zs ∧ RwAt K H a r ∧ zs.length = ks.length ∧ ChAns K ks zs r H Q E
def spCh2 (K : PySem.W.Frag) (ks : List Str) : Sp := fun vs H Q E => ∃ (a d : Addr) (r : Rw) (zs : List V) (H0 : Hp), vs = [.ref a, .ref d] ∧ H0 d = none ∧ H = L2.upd H0 d (.dK (kwV ks zs)) ∧ RwAt K H0 a r ∧ zs.length = ks.length ∧ ChAns K ks zs r H0 Q E
theorem upd_back {H : Hp} {a : Addr} {o : HO} (h : H a = some o) : L2.upd H a o = H := by
  funext b
  by_cases e : b = a
  · rw [e, upd_same, h]
  · rw [upd_ne e]
theorem kwV_len {ks : List Str} {zs : List V} (h : zs.length = ks.length) : (kwV ks zs).length = ks.length := by
  unfold kwV
  rw [List.length_map, List.length_zip, h, Nat.min_self]
theorem kwV_at {ks : List Str} {zs : List V} {i : Nat} {k : Key} {v : V} (e : (kwV ks zs)[i]? = some (k, v)) : ∃ x, ks[i]? = some x ∧ k = .inr x := by
  unfold kwV at e
  rw [List.getElem?_map] at e
  cases h : (ks.zip zs)[i]? with
  | none => rw [h] at e; cases e
  | some p =>
    rw [h] at e
    obtain ⟨x, z⟩ := p
    have := List.getElem?_zip_eq_some.mp h
    injection e with e1
    injection e1 with e2 e3
    exact ⟨x, this.1, e2.symm⟩
theorem find_take {ks : List Str} {i : Nat} {x : Str} (h : (ks.take i).find? unk = none) (e : ks[i]? = some x) (u : unk x = true) : ks.find? unk = some x := by
  have hl : i < ks.length := by
    rcases Nat.lt_or_ge i ks.length with z | z
    · exact z
    · rw [List.getElem?_eq_none z] at e; cases e
  have e2 : ks = ks.take i ++ x :: ks.drop (i + 1) := by
    have z : ks[i] = x := by rw [List.getElem?_eq_getElem hl] at e; exact Option.some.inj e
    rw [← z, ← List.drop_eq_getElem_cons hl, List.take_append_drop]
  rw [e2, List.find?_append, h, List.find?_cons, u]
  rfl
theorem find_take_succ {ks : List Str} {i : Nat} {x : Str} (h : (ks.take i).find? unk = none) (e : ks[i]? = some x) (u : unk x = false) : (ks.take (i + 1)).find? unk = none := by
  rw [List.take_add_one, e, List.find?_append, h]
  show ([x] : List Str).find? unk = none
  rw [List.find?_cons, u]
  rfl
section
variable {P : Program} [SupP P pFile] {w : World} {K : PySem.W.Frag} {mg : Str → Option Value} {base : Heap}
theorem fk_of (T : Tx K mg) (ks : List Str) (hn : ks.Nodup) (hz : ks.length ≤ 8)
    (hb : ∀ (kV doc pm : Value) (an : Option Addr) (cdv ct : Value) (a : Value) (ws : List Value), ws.length = ks.length → bindArgs (PySem.W.fnOf "changed" "Phase.changed" (defArgs s_Phase_changed) (defBody s_Phase_changed) (defScope s_Phase_changed) .none kV doc pm an cdv ct) ⟨[a], ks.zip ws⟩ =
      ((alloc ({ cls := .type "dict", data := .dict #[] } : Obj) : Sem Addr) >>= fun d => (forIn (ks.zip ws) PUnit.unit fun x _ => (nsSet d x.1 x.2 >>= fun _ => pure (ForInStep.yield PUnit.unit))) >>= fun _ => pure [(("self" : Str), a), (("more" : Str), Value.ref d)])) :
    FnKs P w K mg base (L2.CX P w) 5 (mad "Phase" "changed" K) ks (spChanged K ks) := by
  obtain ⟨_, kb_Phase_hue_barrier_visits_pauses_stand_skips⟩ := kb_Phase_hue_barrier_visits_pauses_stand_skips T
  have F := fnKs_of (P := P) (w := w) (mg := mg) (base := base) (CX := L2.CX P w) (k := 4) (N := N_Phase_changed) (sp := spCh2 K ks) T.F_Phase_changed sc_Phase_changed StX.cxUp hn (by omega) hb (fun cdv A outer s H vs Q E hr h => ?_)
  · refine ⟨fun A outer s H u v ws zs Q E hr e0 ru rz hl h => F.run A outer s H u v ws zs Q E hr e0 ru rz hl ?_⟩
    obtain ⟨a, r, zs', e, ha, hl2, k⟩ := h
    injection e with e1 e2
    subst e1 e2
    exact ⟨.ref a, zs, rfl, fun d nd => ⟨a, d, r, zs, H, rfl, nd, rfl, ha, hl2, k⟩⟩
  · obtain ⟨a, d, r, zs, H0, rfl, nd0, eH, ⟨dx, ha0⟩, hl, k⟩ := h
    have hd : H d = some (.dK (kwV ks zs)) := by rw [eH]; exact upd_same
    have SH : Same H0 H := by rw [eH]; exact Same.new nd0
    have ha := SH _ _ ha0
    refine ⟨_, (pss_cons (ps_set (i := 2) sc_Phase_changed.nd rfl (Or.inl rfl) (pe_disp (pps_cons pe_str (pe_fld (pv 0) rfl) (pps_cons pe_str (pe_fld (pv 0) rfl) (pps_cons pe_str (pe_fld (pv 0) rfl) (pps_cons pe_str (pe_fld (pv 0) rfl) (pps_cons pe_str (pe_fld (pv 0) rfl) (pps_cons pe_str (pe_fld (pv 0) rfl) pps_nil)))))) (by rfl) (by rfl) (by simp) (by decide)))
      (pss_cons (ps_lock (ps_for (passes_of rfl) rfl (pi_keys (pv 1)) (pg_name (i := 3) sc_Phase_changed.nd rfl (Or.inl rfl)) (pss_one (ps_if (pt_cmp (pc_dnotin (Nat.lt_of_le_of_lt (Nat.add_le_add_left (by decide) _) hr.units) (pv 3) (pv 2))) (pss_one (ps_raise rfl (takes_of rfl rfl rfl rfl) (pmk_oex T.ox_BadPhase T.ei_BadPhase.1 T.ei_BadPhase.2 (ok_BadPhase_init (P := P) T) (hr.mono (by decide)) (bd_BadPhase_init T) .nil pass0 rfl T.g_BadPhase (pa_cons (pv 3) pa_nil)))) pss_nil))))
      (pss_cons (ps_expr (pe_bm PySem.F.plainAttrs_dict PySem.F.slot_dict_update PySem.F.type_dict_update mtd_update (pv 2) (pa_cons (pv 1) pa_nil)))
      (pss_one (ps_ret (pe_makeSS T.mk_Phase (ok_Phase_init (P := P) T) (hr.mono (by decide)) rfl T.g_Phase kb_Phase_hue_barrier_visits_pauses_stand_skips (passes_call (takes_of rfl rfl rfl rfl) (fun _ _ _ _ z => z)) (pv 2))))))), ?_⟩
    intro p np
    have ha1 := upd_old (u := .dK []) np ha
    refine ⟨_, rfl, a, _, dx, _, _, rfl, ha1, T.c_Phase, T.na_Phase_hue, rw_hue r, ?_⟩
    refine ⟨_, rfl, a, _, dx, _, _, rfl, ha1, T.c_Phase, T.na_Phase_barrier, rw_barrier r, ?_⟩
    refine ⟨_, rfl, a, _, dx, _, _, rfl, ha1, T.c_Phase, T.na_Phase_visits, rw_visits r, ?_⟩
    refine ⟨_, rfl, a, _, dx, _, _, rfl, ha1, T.c_Phase, T.na_Phase_pauses, rw_pauses r, ?_⟩
    refine ⟨_, rfl, a, _, dx, _, _, rfl, ha1, T.c_Phase, T.na_Phase_stand, rw_stand r, ?_⟩
    refine ⟨_, rfl, a, _, dx, _, _, rfl, ha1, T.c_Phase, T.na_Phase_skips, rw_skips r, ?_⟩
    refine ⟨upd_same, r.kv, rfl, (by show (6 : Nat) ≤ 15; decide), ?_⟩
    rw [mergeK_nil, upd_upd]
    have nd : d ≠ p := ne_of_none hd np
    have hd1 := upd_old (u := .dK r.kv) np hd
    refine ⟨d, .dK (kwV ks zs), hd1, True.intro, fun od => ?_⟩
    have hkl := kwV_len hl
    have Sp : ∀ u, Same H0 (upd H p u) := fun u => SH.trans (Same.new np)
    refine ⟨_, rfl, d, od, rfl, .inl ⟨kwV ks zs, upd_same, for_it walk_keys (fun i σ H' => ∃ q, σ = [some (.ref a), some (.ref d), some (.ref p), q] ∧ H' = upd (upd H p (.dK r.kv)) d (.frz od (.dK (kwV ks zs))) ∧ (ks.take i).find? unk = none) ⟨_, rfl, rfl, rfl⟩ (fun i σ H' _ ⟨_, _, e, _⟩ => by rw [e]; exact upd_same) ?_ ?_⟩⟩
    · rintro i x σ H1 H2 hi ⟨q, rfl, rfl, hf⟩ ⟨rfl, kk, v, hk, rfl⟩
      obtain ⟨x, hx, rfl⟩ := kwV_at hk
      have hp2 : upd (upd H p (.dK r.kv)) d (.frz od (.dK (kwV ks zs))) p = some (.dK r.kv) := by
        rw [upd_ne (Ne.symm nd)]; exact upd_same
      refine ⟨_, rfl, _, rfl, p, _, rfl, DGet.k hp2, _, rfl, ?_⟩
      rw [val_kv, Bool.not_not]
      cases hu : unk x with
      | false => exact iteF ⟨_, rfl, rfl, find_take_succ hf hx hu⟩
      | true =>
        refine iteT ?_
        refine ⟨_, rfl, mkO1 (fun dd H' nd S hh => k.1 x (find_take hf hx hu) dd H' ?_ ?_ hh)⟩
        · refine (Sp _).free (?_ : upd H p (.dK r.kv) dd = none)
          by_cases e : dd = d
          · rw [e, upd_same] at nd; cases nd
          · rw [upd_ne e] at nd; exact nd
        · intro b o hb
          exact S _ _ ((upd_ne (ne_of_none hb nd0)).trans (Sp _ _ _ hb))
    · rintro σ H1 ⟨q, rfl, rfl, hf⟩
      rw [hkl, List.take_length] at hf
      refine ⟨upd_same, ?_⟩
      rw [upd_upd, upd_back hd1]
      obtain ⟨r', em, kq, ke⟩ := k.2 hf
      refine ⟨_, rfl, .inr (.inr (.inl ⟨rfl, .inl ⟨_, upd_same⟩⟩)), _, rfl, p, d, r.kv, kwV ks zs, rfl, rfl, upd_same, hd1, Ne.symm nd, ?_, ?_⟩
      · rw [hkl]
        exact Nat.le_trans (show _ ≤ 14 by show 6 + ks.length ≤ 14; omega) (by decide)
      rw [em, upd_upd]
      refine ⟨_, rfl, p, r'.vs, rfl, upd_same, rfl, fun x dx2 nx ndx ne => ?_⟩
      refine ⟨x, dx2, r', rfl, upd_same, fun g H4 f4 h4 => ⟨rfl, ?_⟩, fun f hf => ?_⟩
      · exact kq g x H4 ((Sp _).free nx) ((Sp _).trans (made_same nx ndx f4)) ⟨dx2, h4⟩
      · exact fun dd H' nd S hd => ke f hf dd H' ((Sp _).free ((made_same2 nx ndx (Same.refl _)).free nd)) ((Sp _).trans (made_same2 nx ndx S)) hd
end

theorem fk_Phase_changed_hue {P : Program} [SupP P pFile] {w : World} {K : PySem.W.Frag} {mg : Str → Option Value} {base : Heap} (T : Tx K mg) : FnKs P w K mg base (L2.CX P w) 5 (mad "Phase" "changed" K) ["hue"] (spChanged K ["hue"]) := fk_of T ["hue"] (by decide +kernel) (by decide) (fun _ _ _ _ _ _ _ ws h => match ws, h with | [_], _ => rfl)
theorem eqY {c k : Int} {A B : Prop} (h : c = k) (a : A) : if decide (V.int c = V.int k) = true then A else B := by rw [h, decide_eq_true rfl]; exact iteT a
theorem eqN {c k : Int} {A B : Prop} (h : ¬ c = k) (b : B) : if decide (V.int c = V.int k) = true then A else B := by rw [decide_eq_false (fun z => h (V.int.inj z))]; exact iteF b
theorem ch_ok {K : PySem.W.Frag} {ks : List Str} {zs : List V} {r r' : Rw} {H : Hp} {Q : VK} {E : XK} (hk : ks.find? unk = none) (em : mergeK r.kv (kwV ks zs) = r'.kv) (g : r'.bad = none)
    (q : ∀ x H', H x = none → Same H H' → RwAt K H' x r' → Q (.ref x) H') : ChAns K ks zs r H Q E :=
  ⟨fun u hu => absurd (hk.symm.trans hu) (by simp), fun _ => ⟨r', em, fun _ => q, fun f hf => absurd (g.symm.trans hf) (by simp)⟩⟩
theorem ch_unk {K : PySem.W.Frag} {ks : List Str} {zs : List V} {r : Rw} {u : Str} {H : Hp} {Q : VK} {E : XK} (hk : ks.find? unk = some u) (b : EBad K H E u) : ChAns K ks zs r H Q E :=
  ⟨fun v hv => by rw [hk] at hv; cases hv; exact b, fun hv => absurd (hk.symm.trans hv) (by simp)⟩
theorem ch_bad {K : PySem.W.Frag} {ks : List Str} {zs : List V} {r r' : Rw} {f : Str} {H : Hp} {Q : VK} {E : XK} (hk : ks.find? unk = none) (em : mergeK r.kv (kwV ks zs) = r'.kv) (g : r'.bad = some f) (b : EBad K H E f) : ChAns K ks zs r H Q E :=
  ⟨fun u hu => absurd (hk.symm.trans hu) (by simp), fun _ => ⟨r', em, fun z => absurd (g.symm.trans z) (by simp), fun v hv => by rw [g] at hv; cases hv; exact b⟩⟩
theorem nochg (r : Rw) : (rwF r).lookup ("changed" : Str) = none := by
  unfold rwF
  simp only [lookup_putF]
  rw [if_neg (by decide +kernel), if_neg (by decide +kernel), if_neg (by decide +kernel), if_neg (by decide +kernel), if_neg (by decide +kernel), if_neg (by decide +kernel)]
  rfl
theorem catT {K : PySem.W.Frag} {a b : Addr} {xs ys : List V} {H : Hp} {Q : VK} (m n : Nat) (ha : SqT K H a xs) (hb : SqT K H b ys) (hx : xs.length = m + 1) (hy : ys.length = n + 1) (hz : m + n ≤ 20) (q : ∀ p, H p = none → Q (.ref p) (L2.upd H p (.tup (xs ++ ys)))) : rCatT K (.ref a) (.ref b) H Q := by
  refine ⟨a, b, xs, ys, rfl, rfl, ha, hb, (fun z => by rw [z] at hx; cases hx), ?_, (fun z => by rw [z] at hy; cases hy), fun _ => q⟩
  rw [hx, hy]
  exact Nat.le_trans (show _ ≤ 22 by omega) (by decide)
theorem same2 {H : Hp} {a b : Addr} {u v : HO} (n1 : H a = none) (n2 : L2.upd H a u b = none) : Same H (L2.upd (L2.upd H a u) b v) := Same.upd (Same.new n1) (Same.free (Same.new n1) n2)
theorem same3 {H : Hp} {a b c : Addr} {u v z : HO} (n1 : H a = none) (n2 : L2.upd H a u b = none) (n3 : L2.upd (L2.upd H a u) b v c = none) : Same H (L2.upd (L2.upd (L2.upd H a u) b v) c z) := Same.upd (same2 n1 n2) (Same.free (same2 n1 n2) n3)
theorem same5 {H : Hp} {a b c d e : Addr} {u v z x y : HO} (n1 : H a = none) (n2 : L2.upd H a u b = none) (n3 : L2.upd (L2.upd H a u) b v c = none) (n4 : L2.upd (L2.upd (L2.upd H a u) b v) c z d = none) (n5 : L2.upd (L2.upd (L2.upd (L2.upd H a u) b v) c z) d x e = none) :
    Same H (L2.upd (L2.upd (L2.upd (L2.upd (L2.upd H a u) b v) c z) d x) e y) := (same3 n1 n2 n3).trans (same2 n4 n5)

/-! ### slices of rows -/
theorem yesT {σ : L2.St} {H : Hp} {Q : Bool → Hp → Prop} (h : Q true H) : tYes σ H Q := h
theorem cut_take (xs : List V) {i : Int} (h0 : 0 ≤ i) (h1 : i ≤ xs.length) : cutV xs none (some i) = xs.take i.toNat := by
  have e : i = ((i.toNat : Nat) : Int) := (Int.toNat_of_nonneg h0).symm
  unfold cutV
  rw [e, HT.sIx_nat, HT.sIx_none, List.drop_zero, Int.toNat_natCast, Nat.sub_zero, Nat.min_eq_left (by omega)]
theorem cut_drop (xs : List V) {i : Int} (h0 : 0 ≤ i) (h1 : i ≤ xs.length) : cutV xs (some i) none = xs.drop i.toNat := by
  have e : i = ((i.toNat : Nat) : Int) := (Int.toNat_of_nonneg h0).symm
  unfold cutV
  rw [e, HT.sIx_nat, HT.sIx_none, Int.toNat_natCast, Nat.min_eq_left (by omega)]
  exact List.take_of_length_le (by rw [List.length_drop]; exact Nat.le_refl _)
theorem set_cut {α : Type} (xs : List α) (i : Nat) (x : α) (h : i < xs.length) : xs.take i ++ [x] ++ xs.drop (i + 1) = xs.set i x := by
  rw [List.set_eq_take_append_cons_drop, if_pos h]
  simp
theorem RowsAt.keep {H H' : Hp} {a l : Addr} {rs : List Ph} {u : List V} (h : RowsAt H a rs) (e : Fl l H H') (n : a ≠ l) (hl : H l = some (.lst u)) : RowsAt H' a rs := by
  obtain ⟨⟨ts, h1, h2, h3⟩, h4⟩ := h
  exact ⟨⟨ts, e _ _ n h1, h2, fun i t r ht hr => e _ _ (ne_of (h3 i t r ht hr) hl (by intro z; cases z)) (h3 i t r ht hr)⟩, h4⟩
abbrev rAddI : R2 := rI0 fun i j => .int (i + j)
/-- rows[:at] + [te] + rows[at + 1:] -/
theorem later_okG {K : PySem.W.Frag} {σ : L2.St} {H : Hp} {Q : VK} {i j : Nat} {te : TE} {a t : Addr} {rs : List Ph} {r : Ph} {at' : Int} (hi : σ[i]? = some (some (.ref a))) (hj : σ[j]? = some (some (.int at'))) (he : ∀ (H1 : Hp) (R : VK), Same H H1 → R (.ref t) H1 → te σ H1 R)
    (R : RowsAt H a rs) (h0 : 0 ≤ at') (h1 : at' < rs.length) (hz : rs.length ≤ 6) (ht : H t = some (.tup r.vs)) (ok : r.Ok) (q : ∀ D H', H D = none → Same H H' → RowsAt H' D (rs.set at'.toNat r) → Q (.ref D) H') :
    tOp rCat (tOp rCat (tSl (rSlL K) (tVar i) tNoPart (tPart (tVar j))) (tLst (tCons te tNil))) (tSl (rSlL K) (tVar i) (tPart (tOp rAddI (tVar j) (tC (.int 1)))) tNoPart) σ H Q := by
  obtain ⟨⟨ts, h2, h3, h4⟩, h5⟩ := id R
  refine ⟨_, hi, _, hj, _, rfl, a, _, rfl, SqL.of h2, fun p1 n1 => ?_⟩
  refine he _ _ (Same.new n1) ⟨(show (1 : Nat) ≤ sizeLine by decide), fun p2 n2 => ?_⟩
  have n2' : H p2 = none := Same.free (Same.new n1) n2
  refine ⟨p1, p2, _, _, rfl, rfl, upd_old n2 upd_same, upd_same, ?_, fun p3 n3 => ?_⟩
  · have := cutV_length (ts.map V.ref) none (some at')
    rw [List.length_map] at this
    exact Nat.le_trans (show _ ≤ 100 by show _ + 1 ≤ 100; omega) (by decide)
  have S3 : Same H (upd (upd (upd H p1 (.lst (cutV (ts.map V.ref) none (some at')))) p2 (.lst [.ref t])) p3 (.lst (cutV (ts.map V.ref) none (some at') ++ [.ref t]))) :=
    Same.upd (Same.upd (Same.new n1) n2') (Same.free (Same.upd (Same.new n1) n2') n3)
  refine ⟨_, hi, _, hj, _, _, rfl, rfl, _, rfl, a, _, rfl, SqL.of (S3 _ _ h2), fun p4 n4 => ?_⟩
  refine ⟨p3, p4, _, _, rfl, rfl, upd_old n4 upd_same, upd_same, ?_, fun p5 n5 => ?_⟩
  · have l1 := cutV_length (ts.map V.ref) none (some at')
    have l2 := cutV_length (ts.map V.ref) (some (at' + 1)) none
    rw [List.length_map] at l1 l2
    rw [List.length_append]
    exact Nat.le_trans (show _ ≤ 100 by show _ + 1 + _ ≤ 100; omega) (by decide)
  have n4' := S3.free n4
  have S4 := Same.upd (u := .lst (cutV (ts.map V.ref) (some (at' + 1)) none)) S3 n4'
  have n5' := S4.free n5
  refine q p5 _ n5' (Same.upd S4 n5') ?_
  have el : (ts.map V.ref).length = rs.length := by rw [List.length_map, h3]
  rw [cut_take _ h0 (by omega), cut_drop _ (by omega) (by omega)]
  have ea : (at' + 1).toNat = at'.toNat + 1 := by omega
  rw [ea, set_cut _ _ _ (by omega)]
  refine ⟨⟨ts.set at'.toNat t, by rw [upd_same, List.map_set], by rw [List.length_set, List.length_set, h3], fun m t' r' ha hb => ?_⟩, fun x hx => ?_⟩
  · have S5 : Same H (upd (upd (upd (upd (upd H p1 (.lst ((ts.map V.ref).take at'.toNat))) p2 (.lst [.ref t])) p3 (.lst ((ts.map V.ref).take at'.toNat ++ [.ref t]))) p4 (.lst ((ts.map V.ref).drop (at'.toNat + 1)))) p5 (.lst ((ts.map V.ref).set at'.toNat (.ref t)))) := by
      refine Same.upd (Same.upd (Same.upd (Same.upd (Same.new n1) n2') ?_) n4') n5'
      exact Same.free (Same.upd (Same.new n1) n2') n3
    rw [List.getElem?_set] at ha hb
    split at ha
    · rename_i ei
      rw [if_pos ei] at hb
      split at ha
      · split at hb
        · cases ha; cases hb
          exact S5 _ _ ht
        · cases hb
      · cases ha
    · rename_i ei
      rw [if_neg ei] at hb
      exact S5 _ _ (h4 m t' r' ha hb)
  · rcases List.mem_or_eq_of_mem_set hx with z | z
    · exact h5 x z
    · rw [z]; exact ok
/-- rows[:at] + [new] + rows[at + 1:] -/
theorem later_ok {K : PySem.W.Frag} {σ : L2.St} {H : Hp} {Q : VK} {i j k : Nat} {a t : Addr} {rs : List Ph} {r : Ph} {at' : Int} (hi : σ[i]? = some (some (.ref a))) (hj : σ[j]? = some (some (.int at'))) (hk : σ[k]? = some (some (.ref t)))
    (R : RowsAt H a rs) (h0 : 0 ≤ at') (h1 : at' < rs.length) (hz : rs.length ≤ 6) (ht : H t = some (.tup r.vs)) (ok : r.Ok) (q : ∀ D H', H D = none → Same H H' → RowsAt H' D (rs.set at'.toNat r) → Q (.ref D) H') :
    tOp rCat (tOp rCat (tSl (rSlL K) (tVar i) tNoPart (tPart (tVar j))) (tLst (tCons (tVar k) tNil))) (tSl (rSlL K) (tVar i) (tPart (tOp rAddI (tVar j) (tC (.int 1)))) tNoPart) σ H Q :=
  later_okG hi hj (fun _ _ _ h => ⟨_, hk, h⟩) R h0 h1 hz ht ok q
def Ph.withSkp (r : Ph) (b : Bool) : Ph := { r with skp := b }
theorem Ph.Ok.withSkp {r : Ph} (ok : r.Ok) (b : Bool) : (r.withSkp b).Ok := ⟨ok.h0, ok.h1, ok.s0, ok.s1⟩
theorem cut5 (r : Ph) : cutV r.vs none (some 5) = [.int r.hue, .str r.bar.s, .bl r.vis, .bl r.pau, .int r.std] := rfl
/-- row[:5] + (b,): te the row, tb its last place -/
theorem mark_ok {K : PySem.W.Frag} {σ : L2.St} {H : Hp} {Q : VK} {te tb : TE} {t : Addr} {r : Ph} {b : Bool} (he : ∀ R : VK, R (.ref t) H → te σ H R) (hb : ∀ (H' : Hp) (R : VK), Same H H' → (∀ H2, Same H' H2 → R (.bl b) H2) → tb σ H' R)
    (ht : H t = some (.tup r.vs)) (q : ∀ p H', H p = none → Same H H' → H' p = some (.tup (r.withSkp b).vs) → Q (.ref p) H') :
    tOp (rCatT K) (tSl (rSlT K) te tNoPart (tPart (tC (.int 5)))) (tTup (tCons tb tNil)) σ H Q := by
  refine he _ ⟨_, rfl, t, _, rfl, SqT.of ht, (show ¬ ((0 : Nat) = 0 ∧ (5 : Nat) = 6) by decide), fun p1 n1 => ?_⟩
  refine hb _ _ (Same.new n1) fun H2 S2 => ?_
  refine ⟨(show (1 : Nat) ≤ sizeLine by decide), fun p2 n2 => ?_⟩
  refine ⟨p1, p2, _, _, rfl, rfl, SqT.of (upd_old n2 (S2 _ _ upd_same)), SqT.of upd_same, ?_, (show (6 : Nat) ≤ sizeLine by decide), fun z => absurd z (by simp), fun _ p3 n3 => ?_⟩
  · rw [cut5]; simp
  have n2' : H p2 = none := Same.free ((Same.new n1).trans S2) n2
  have S3 := Same.upd (u := .tup [V.bl b]) ((Same.new n1).trans S2) n2'
  exact q p3 _ (S3.free n3) (Same.upd S3 (S3.free n3)) upd_same
theorem nextT {D : Ends} {σ : L2.St} {H : Hp} (h : D.nx σ H) : tNext D σ H := h
theorem seqT {t u : TS} {D : Ends} {σ : L2.St} {H : Hp} (h : t { D with nx := u D } σ H) : tSeq t u D σ H := h
theorem asgT {te : TE} {g : TG} {D : Ends} {σ : L2.St} {H : Hp} (h : te σ H fun x H1 => g x σ H1 D.nx) : tAsg te g D σ H := h

/-! ### other hues for the rows of a book -/
def Ph.dye (r : Ph) (h : Int) : Ph := { r with hue := h }
theorem Ph.Ok.dye {r : Ph} (ok : r.Ok) {h : Int} (g : 0 ≤ h ∧ h ≤ 5) : (r.dye h).Ok := ⟨g.1, g.2, ok.s0, ok.s1⟩
def dyeAll (rs : List Ph) (hs : List Int) : List Ph := List.zipWith Ph.dye rs hs
def HuesOk (hs : List Int) : Prop := ∀ h ∈ hs, 0 ≤ h ∧ h ≤ 5
theorem dyeAll_len {rs : List Ph} {hs : List Int} (e : hs.length = rs.length) : (dyeAll rs hs).length = rs.length := by
  unfold dyeAll
  rw [List.length_zipWith, e, Nat.min_self]
theorem dyeAll_at {rs : List Ph} {hs : List Int} {i : Nat} {r : Ph} {h : Int} (e1 : rs[i]? = some r) (e2 : hs[i]? = some h) : (dyeAll rs hs)[i]? = some (r.dye h) := by
  unfold dyeAll
  rw [List.getElem?_zipWith, e1, e2]
theorem dyeAll_ok {rs : List Ph} {hs : List Int} (ok : ∀ r ∈ rs, r.Ok) (g : HuesOk hs) : ∀ r ∈ dyeAll rs hs, r.Ok := by
  intro q hq
  obtain ⟨i, hi, e⟩ := List.mem_iff_getElem.mp hq
  unfold dyeAll at hi e
  rw [List.length_zipWith] at hi
  rw [List.getElem_zipWith] at e
  rw [← e]
  exact Ph.Ok.dye (ok _ (List.getElem_mem _)) (g _ (List.getElem_mem _))
theorem ph_ne_bk {K : PySem.W.Frag} {H : Hp} {a b C dx l : Addr} {r : Ph} (h : PhAt K H a r) (hb : H b = some (.ins C dx (bkF l))) : a ≠ b := fun e => by
  obtain ⟨d, h⟩ := h
  rw [e, hb] at h
  injection h with h1
  injection h1 with _ _ h2
  have e1 := ph_hue r
  rw [← h2] at e1
  unfold bkF at e1
  rw [lookup_putF, if_neg (by decide +kernel)] at e1
  cases e1
theorem bkF_put (l D : Addr) : putF "phases" (.ref D) (bkF l) = bkF D := by kernel_rfl
theorem BkAt.flb {K : PySem.W.Frag} {H H' : Hp} {b c l m : Addr} {rs : List Ph} {dx : Addr} (h : BkAt K H b l rs) (e : Fl c H H') (hc : H c = some (.ins (gad "Book" K) dx (bkF m))) (n : b ≠ c) : BkAt K H' b l rs := by
  obtain ⟨⟨d, h1⟩, ⟨as, h2, h3, h4⟩, h5, h6, h7⟩ := h
  exact ⟨⟨d, e _ _ n h1⟩, ⟨as, e _ _ (ne_of h2 hc (by intro z; cases z)) h2, h3, fun i a r ha hr => (h4 i a r ha hr).fl e (ph_ne_bk (h4 i a r ha hr) hc)⟩, h5, h6, h7⟩
theorem BkAt.flp {K : PySem.W.Frag} {H H' : Hp} {b l m : Addr} {rs : List Ph} (h : BkAt K H b l rs) (e : Fl m H H') (n : l ≠ m) (hm : PoolAt H m) : BkAt K H' b l rs := by
  obtain ⟨⟨d, h1⟩, ⟨as, h2, h3, h4⟩, h5, h6, h7⟩ := h
  obtain ⟨ns, p1, _⟩ := hm
  exact ⟨⟨d, e _ _ (ne_of h1 p1 (by intro z; cases z)) h1⟩, ⟨as, e _ _ n h2, h3, fun i a r ha hr => (h4 i a r ha hr).fl e (by obtain ⟨_, q⟩ := h4 i a r ha hr; exact ne_of q p1 (by intro z; cases z))⟩, h5, h6, h7⟩
theorem RowsAt.flb {H H' : Hp} {a c C dx : Addr} {fs : List (Str × V)} {rs : List Ph} (h : RowsAt H a rs) (e : Fl c H H') (hc : H c = some (.ins C dx fs)) : RowsAt H' a rs := by
  obtain ⟨⟨ts, h1, h2, h3⟩, h4⟩ := h
  exact ⟨⟨ts, e _ _ (ne_of h1 hc (by intro z; cases z)) h1, h2, fun i t r ht hr => e _ _ (ne_of (h3 i t r ht hr) hc (by intro z; cases z)) (h3 i t r ht hr)⟩, h4⟩
theorem small1000' {n : Nat} (h : n ≤ 1000) : n ≤ sizeLine := Nat.le_trans h (by decide)
theorem take_snoc {α : Type} {xs : List α} {i : Nat} {x : α} (h : xs[i]? = some x) : xs.take (i + 1) = xs.take i ++ [x] := by rw [List.take_add_one, h]; rfl

def spHuesSet (K : PySem.W.Frag) : Sp := fun vs H Q _ => ∃ (b l t : Addr) (rs : List Ph) (hs : List Int), vs = [.ref b, .ref t] ∧ BkAt K H b l rs ∧ H t = some (.tup (hs.map V.int)) ∧ hs.length = rs.length ∧ HuesOk hs ∧
  ∀ l' H', H l' = none → Fl b H H' → BkAt K H' b l' (dyeAll rs hs) → Q .non H'
def spRecolour (K : PySem.W.Frag) : Sp := fun vs H Q _ => ∃ (b l g : Addr) (rs : List Ph) (hs : List Int), vs = [.ref b, .ref g] ∧ BkAt K H b l rs ∧ H g = some (.lst (hs.map V.int)) ∧ hs.length = rs.length ∧ HuesOk hs ∧
  ∀ l' H', H l' = none → Fl b H H' → BkAt K H' b l' (dyeAll rs hs) → Q .non H'
section
variable {P : Program} [SupP P pFile] {w : World} {K : PySem.W.Frag} {mg : Str → Option Value} {base : Heap}
theorem ok_Book_hues_setter (T : Tx K mg) : FnOk P w K mg base CX0 6 (sad "Book" "hues" K) (fdD K (sad "Book" "hues" K)) P_Book_hues_setter (spHuesSet K) := by
  refine T.F_Book_hues_setter.ok sc_Book_hues_setter (fun vs H Q E h => ?_) (fun cdv A outer s H vs Q E hr h => ?_)
  · obtain ⟨b, l, t, rs, hs, rfl, _⟩ := h; rfl
  · obtain ⟨b, l, t, rs, hs, rfl, B, ht, el, g, k⟩ := h
    obtain ⟨⟨dx, hb⟩, ⟨as, hl, e, hp⟩, n1, n6, ok⟩ := id B
    refine ⟨_, PSs.nox ((pss_cons (ps_if (pt_cmpR op_ne (pe_callB call_len_seq (by rfl) T.n_len (by decide +kernel) (pa_cons (pv 1) pa_nil)) (pe_callB call_len_seq (by rfl) T.n_len (by decide +kernel) (pa_cons (pe_fld (pv 0) rfl) pa_nil)) (nomark _)) (pss_one ps_never) pss_nil)
      (pss_one (ps_fld (pv 0) (pe_lc (own := [("phase", 2), ("hue", 3)]) (g := gTup K 2 (gCons (gName 2) (gCons (gName 3) gNil))) (tt := tYes) rfl sc_Book_hues_setter.nd (pi_zipLT (by rfl) T.n_zip (pa_cons (pe_fld (pv 0) rfl) (pa_cons (pv 1) pa_nil))) (blkOk_by (own := [("phase", 2), ("hue", 3)]) (N := N_Book_hues_setter) (sc := defScope s_Book_hues_setter) (by decide +kernel)) (fun _ _ _ _ _ => (pg_tupK (K := K) (n := 2) rfl rfl (pgs_cons (pg_name (i := 2) sc_Book_hues_setter.nd rfl (Or.inl rfl)) (pgs_cons (pg_name (i := 3) sc_Book_hues_setter.nd rfl (Or.inl rfl)) pgs_nil)))) (fun _ _ _ _ _ => pts_nil) (fun _ _ _ _ _ => (pe_methKs (pv 2) T.c_Phase T.m_Phase_changed (fk_Phase_changed_hue (P := P) T) (hr.mono (by decide)) passL (pk_cons (pv 3) pk_nil)))) rfl)))), ?_⟩
    have e1 : (hs.map V.int).length = (as.map V.ref).length := by rw [List.length_map, List.length_map, el, e]
    refine ⟨_, rfl, t, _, rfl, .inr (SqT.of ht), _, rfl, b, _, dx, _, _, rfl, hb, T.c_Book, T.na_Book_phases, bk_phases l, l, _, rfl, .inl (SqL.of hl), rfl, _, rfl, iteNS (by rw [e1]) ?_⟩
    refine ⟨_, rfl, b, _, dx, _, _, rfl, hb, T.c_Book, T.na_Book_phases, bk_phases l, _, rfl, l, t, _, _, rfl, SqL.of hl, SqT.of ht, fun D nD => ?_⟩
    refine lc_it (walk_LT e1.symm) (fun i H' => PsAt K H' D ((dyeAll rs hs).take i) ∧ Same H H') ⟨PsAt.nil, Same.new nD⟩ (fun i H' _ ⟨_, S⟩ => ⟨SqL.of (S _ _ hl), SqT.of (S _ _ ht)⟩) ?_ ?_
    · rintro i x H1 H2 hi ⟨p1, S1⟩ ⟨q, u, z, rfl, nq, rfl, hu, hz⟩
      rw [List.length_map] at hi
      dsimp only at hu hz
      rw [List.getElem?_map] at hu hz
      obtain ⟨a, ha, _⟩ := mem_get hi
      obtain ⟨r, hr', hm⟩ := mem_get (show i < rs.length by omega)
      obtain ⟨c, hc, hcm⟩ := mem_get (show i < hs.length by omega)
      rw [ha] at hu
      rw [hc] at hz
      cases hu; cases hz
      obtain ⟨da, hpa⟩ := ((hp i a r ha hr').same S1).same (Same.new (u := .tup [V.ref a, V.int c]) nq)
      have okr := ok r hm
      have ok' := okr.dye (g c hcm)
      refine ⟨q, _, rfl, SqT.of upd_same, rfl, _, _, rfl, _, _, rfl, rfl, rfl, ?_⟩
      refine yesT (iteT ?_)
      refine ⟨_, rfl, a, da, _, rfl, hpa, nochg r.rw, _, rfl, rfl, a, r.rw, [V.int c], rfl, ⟨da, hpa⟩, rfl, ch_ok (r' := (r.dye c).rw) (by decide +kernel) rfl (Ph.good ok') fun y H3 ny S3 R3 => ?_⟩
      obtain ⟨xs, q1, q2, q3⟩ := ((p1.mono (Same.new (u := .tup [V.ref a, V.int c]) nq)).mono S3).snoc (r := r.dye c) R3
      rw [List.length_take] at q2
      refine ⟨xs, q1, small1000 (by omega), ?_, Same.upd (S1.trans ((Same.new nq).trans S3)) nD⟩
      rw [take_snoc (dyeAll_at hr' hc)]
      exact q3
    · rintro H1 ⟨p1, S1⟩
      have le := dyeAll_len el
      rw [List.length_map, e, ← le, List.take_length] at p1
      have hb1 := S1 _ _ hb
      refine ⟨_, rfl, b, _, dx, _, rfl, hb1, T.c_Book, T.na_Book_phases, (show (1 : Nat) < 1000 by decide), ?_⟩
      obtain ⟨bs, q1, q2, q3⟩ := p1
      refine k D _ nD ((Fl.same S1).put) ?_
      rw [bkF_put]
      refine ⟨⟨dx, upd_same⟩, ⟨bs, upd_oth (ne_of q1 hb1 (by intro z; cases z)) q1, q2, fun i a r ha hr => ?_⟩, by omega, by omega, dyeAll_ok ok g⟩
      exact (q3 i a r ha hr).fl Fl.cell (ph_ne_bk (q3 i a r ha hr) hb1)
theorem fr_Book_recolour (T : Tx K mg) : FnR P w K mg base CX0 9 (mad "Book" "recolour" K) (spStar 1 (spHuesSet K)) := by
  refine fnr_star (ps := ["self"]) (pv := "hues") T.F_Book_recolour sc_Book_recolour StX.cxUp_none (fun kV doc pm an cdv ct us rest hl => ?_) (fun cdv A outer s H vs Q E hr h => ?_)
  · exact StX.bind_star1 (B := fun vs => bindArgs _ ⟨vs, []⟩) (fun _ => rfl) (fun _ _ _ => rfl) us rest hl
  · obtain ⟨b, l, t, rs, hs, rfl, B, ht, el, g, k⟩ := h
    obtain ⟨dx, hb⟩ := B.bk
    refine ⟨_, PSs.nox ((pss_one (ps_pset T.c_Book T.ps_Book_hues_setter (ok_Book_hues_setter (P := P) T) (hr.mono (by decide)) (bd_Book_hues_setter T) pass0 (pv 0) (pv 1)))), ?_⟩
    exact ⟨_, rfl, _, rfl, b, dx, _, rfl, hb, b, l, t, rs, hs, rfl, B, ht, el, g, k⟩
set_option hygiene false in
local macro_rules | `(tactic| walk_at "rec") => `(tactic| exact ⟨[.ref b], _, rfl, rfl, (Nat.le_trans (Nat.le_of_ble_eq_true rfl : _ ≤ 10) (by decide)), fun p np => ⟨b, l, p, rs, _, rfl, B.mono (Same.new np), upd_same, el, gg, fun l' H' nl f B' => k l' H' ((Same.new np).free nl) ((Fl.new np).trans f) B'⟩⟩)
theorem ok_l_recolour (T : Tx K mg) : FnOk P w K mg base CX0 10 (gad "_law_recolour" K) (fdD K (gad "_law_recolour" K)) P_l_recolour (spRecolour K) := by
  refine T.F_l_recolour.ok sc_l_recolour (fun vs H Q E h => ?_) (fun cdv A outer s H vs Q E hr h => ?_)
  · obtain ⟨b, l, g, rs, hs, rfl, _⟩ := h; rfl
  · obtain ⟨b, l, g, rs, hs, rfl, B, hg, el, gg, k⟩ := h
    obtain ⟨dx, hb⟩ := B.bk
    have n1 := B.n1
    have n6 := B.n6
    have nr := bk_no l (m := "recolour") (by decide +kernel)
    refine ⟨_, PSs.nox ((pss_cons (ps_set (i := 2) sc_l_recolour.nd rfl (Or.inl rfl) (pe_callB call_len_seq (by rfl) T.n_len (by decide +kernel) (pa_cons (pv 1) pa_nil)))
      (pss_cons (ps_if (pt_cmpR op_eq (pv 2) pe_int (nomark _)) (pss_one (ps_ret (pe_methR (pv 0) T.c_Book T.m_Book_recolour (fr_Book_recolour (P := P) T) (hr.mono (by decide)) pass0 (pa_cons (pe_ix ix_list (pv 1) pe_int (fun _ _ => rfl)) pa_nil)))) pss_nil)
      (pss_cons (ps_if (pt_cmpR op_eq (pv 2) pe_int (nomark _)) (pss_one (ps_ret (pe_methR (pv 0) T.c_Book T.m_Book_recolour (fr_Book_recolour (P := P) T) (hr.mono (by decide)) pass0 (pa_cons (pe_ix ix_list (pv 1) pe_int (fun _ _ => rfl)) (pa_cons (pe_ix ix_list (pv 1) pe_int (fun _ _ => rfl)) pa_nil))))) pss_nil)
      (pss_cons (ps_if (pt_cmpR op_eq (pv 2) pe_int (nomark _)) (pss_one (ps_ret (pe_methR (pv 0) T.c_Book T.m_Book_recolour (fr_Book_recolour (P := P) T) (hr.mono (by decide)) pass0 (pa_cons (pe_ix ix_list (pv 1) pe_int (fun _ _ => rfl)) (pa_cons (pe_ix ix_list (pv 1) pe_int (fun _ _ => rfl)) (pa_cons (pe_ix ix_list (pv 1) pe_int (fun _ _ => rfl)) pa_nil)))))) pss_nil)
      (pss_cons (ps_if (pt_cmpR op_eq (pv 2) pe_int (nomark _)) (pss_one (ps_ret (pe_methR (pv 0) T.c_Book T.m_Book_recolour (fr_Book_recolour (P := P) T) (hr.mono (by decide)) pass0 (pa_cons (pe_ix ix_list (pv 1) pe_int (fun _ _ => rfl)) (pa_cons (pe_ix ix_list (pv 1) pe_int (fun _ _ => rfl)) (pa_cons (pe_ix ix_list (pv 1) pe_int (fun _ _ => rfl)) (pa_cons (pe_ix ix_list (pv 1) pe_int (fun _ _ => rfl)) pa_nil))))))) pss_nil)
      (pss_cons (ps_if (pt_cmpR op_eq (pv 2) pe_int (nomark _)) (pss_one (ps_ret (pe_methR (pv 0) T.c_Book T.m_Book_recolour (fr_Book_recolour (P := P) T) (hr.mono (by decide)) pass0 (pa_cons (pe_ix ix_list (pv 1) pe_int (fun _ _ => rfl)) (pa_cons (pe_ix ix_list (pv 1) pe_int (fun _ _ => rfl)) (pa_cons (pe_ix ix_list (pv 1) pe_int (fun _ _ => rfl)) (pa_cons (pe_ix ix_list (pv 1) pe_int (fun _ _ => rfl)) (pa_cons (pe_ix ix_list (pv 1) pe_int (fun _ _ => rfl)) pa_nil)))))))) pss_nil)
      (pss_one (ps_ret (pe_methR (pv 0) T.c_Book T.m_Book_recolour (fr_Book_recolour (P := P) T) (hr.mono (by decide)) pass0 (pa_cons (pe_ix ix_list (pv 1) pe_int (fun _ _ => rfl)) (pa_cons (pe_ix ix_list (pv 1) pe_int (fun _ _ => rfl)) (pa_cons (pe_ix ix_list (pv 1) pe_int (fun _ _ => rfl)) (pa_cons (pe_ix ix_list (pv 1) pe_int (fun _ _ => rfl)) (pa_cons (pe_ix ix_list (pv 1) pe_int (fun _ _ => rfl)) (pa_cons (pe_ix ix_list (pv 1) pe_int (fun _ _ => rfl)) pa_nil)))))))))))))))), ?_⟩
    refine ⟨_, rfl, g, _, rfl, .inl (SqL.of hg), ?_⟩
    match hs, el, gg, hg, k with
    | [], el, _, _, _ => simp at el; omega
    | [a], el, gg, hg, k =>
      refine ⟨_, rfl, rfl, _, rfl, eqY rfl ?_⟩
      refine ⟨_, rfl, b, dx, _, rfl, hb, nr, _, rfl, _, _, _, _, rfl, rfl, (by walk_at "seq"), (by walk_at "at"), ?_⟩
      walk_at "rec"
    | [a, a2], el, gg, hg, k =>
      refine ⟨_, rfl, rfl, _, rfl, eqN (by simp) ?_⟩
      refine ⟨_, rfl, rfl, _, rfl, eqY rfl ?_⟩
      refine ⟨_, rfl, b, dx, _, rfl, hb, nr, _, rfl, _, _, _, _, rfl, rfl, (by walk_at "seq"), (by walk_at "at"), _, rfl, _, _, _, _, rfl, rfl, (by walk_at "seq"), (by walk_at "at"), ?_⟩
      walk_at "rec"
    | [a, a2, a3], el, gg, hg, k =>
      refine ⟨_, rfl, rfl, _, rfl, eqN (by simp) ?_⟩
      refine ⟨_, rfl, rfl, _, rfl, eqN (by simp) ?_⟩
      refine ⟨_, rfl, rfl, _, rfl, eqY rfl ?_⟩
      refine ⟨_, rfl, b, dx, _, rfl, hb, nr, _, rfl, _, _, _, _, rfl, rfl, (by walk_at "seq"), (by walk_at "at"), _, rfl, _, _, _, _, rfl, rfl, (by walk_at "seq"), (by walk_at "at"), _, rfl, _, _, _, _, rfl, rfl, (by walk_at "seq"), (by walk_at "at"), ?_⟩
      walk_at "rec"
    | [a, a2, a3, a4], el, gg, hg, k =>
      refine ⟨_, rfl, rfl, _, rfl, eqN (by simp) ?_⟩
      refine ⟨_, rfl, rfl, _, rfl, eqN (by simp) ?_⟩
      refine ⟨_, rfl, rfl, _, rfl, eqN (by simp) ?_⟩
      refine ⟨_, rfl, rfl, _, rfl, eqY rfl ?_⟩
      refine ⟨_, rfl, b, dx, _, rfl, hb, nr, _, rfl, _, _, _, _, rfl, rfl, (by walk_at "seq"), (by walk_at "at"), _, rfl, _, _, _, _, rfl, rfl, (by walk_at "seq"), (by walk_at "at"), _, rfl, _, _, _, _, rfl, rfl, (by walk_at "seq"), (by walk_at "at"), _, rfl, _, _, _, _, rfl, rfl, (by walk_at "seq"), (by walk_at "at"), ?_⟩
      walk_at "rec"
    | [a, a2, a3, a4, a5], el, gg, hg, k =>
      refine ⟨_, rfl, rfl, _, rfl, eqN (by simp) ?_⟩
      refine ⟨_, rfl, rfl, _, rfl, eqN (by simp) ?_⟩
      refine ⟨_, rfl, rfl, _, rfl, eqN (by simp) ?_⟩
      refine ⟨_, rfl, rfl, _, rfl, eqN (by simp) ?_⟩
      refine ⟨_, rfl, rfl, _, rfl, eqY rfl ?_⟩
      refine ⟨_, rfl, b, dx, _, rfl, hb, nr, _, rfl, _, _, _, _, rfl, rfl, (by walk_at "seq"), (by walk_at "at"), _, rfl, _, _, _, _, rfl, rfl, (by walk_at "seq"), (by walk_at "at"), _, rfl, _, _, _, _, rfl, rfl, (by walk_at "seq"), (by walk_at "at"), _, rfl, _, _, _, _, rfl, rfl, (by walk_at "seq"), (by walk_at "at"), _, rfl, _, _, _, _, rfl, rfl, (by walk_at "seq"), (by walk_at "at"), ?_⟩
      walk_at "rec"
    | [a, a2, a3, a4, a5, a6], el, gg, hg, k =>
      refine ⟨_, rfl, rfl, _, rfl, eqN (by simp) ?_⟩
      refine ⟨_, rfl, rfl, _, rfl, eqN (by simp) ?_⟩
      refine ⟨_, rfl, rfl, _, rfl, eqN (by simp) ?_⟩
      refine ⟨_, rfl, rfl, _, rfl, eqN (by simp) ?_⟩
      refine ⟨_, rfl, rfl, _, rfl, eqN (by simp) ?_⟩
      refine ⟨_, rfl, b, dx, _, rfl, hb, nr, _, rfl, _, _, _, _, rfl, rfl, (by walk_at "seq"), (by walk_at "at"), _, rfl, _, _, _, _, rfl, rfl, (by walk_at "seq"), (by walk_at "at"), _, rfl, _, _, _, _, rfl, rfl, (by walk_at "seq"), (by walk_at "at"), _, rfl, _, _, _, _, rfl, rfl, (by walk_at "seq"), (by walk_at "at"), _, rfl, _, _, _, _, rfl, rfl, (by walk_at "seq"), (by walk_at "at"), _, rfl, _, _, _, _, rfl, rfl, (by walk_at "seq"), (by walk_at "at"), ?_⟩
      walk_at "rec"
    | _ :: _ :: _ :: _ :: _ :: _ :: _ :: _, el, _, _, _ => simp at el; omega
end

end Hue

set_option Elab.async false
set_option linter.all false
set_option maxRecDepth 100000
set_option maxHeartbeats 1000000
namespace Hue
open PySem PySem.Spec PyProof.Rows L2
local macro_rules | `(tactic| walk_at "hp") => `(tactic| first
  | assumption
  | exact upd_same
  | (refine upd_old (by assumption) ?_; walk_at "hp")
  | (refine upd_oth (by assumption) ?_; walk_at "hp")
  | (refine same_get (by assumption) ?_; walk_at "hp")
  | (refine Fl.get (by assumption) (by assumption) ?_; walk_at "hp"))
local macro_rules | `(tactic| walk_at "seq") => `(tactic| first
  | assumption
  | exact T.t_BARRIERS _
  | exact SqL.of (by walk_at "hp")
  | exact SqT.of (by walk_at "hp"))
local macro_rules | `(tactic| walk_at "len") => `(tactic| first
  | exact Or.inl (by walk_at "seq")
  | exact Or.inr (by walk_at "seq"))
local macro_rules | `(tactic| walk_at "at") => `(tactic| first
  | rfl
  | assumption)

/-! ### Book.text -/
theorem join_le (a : Str) : ∀ ys : List Str, (Str.join a ys).length ≤ (ys.map (·.length)).sum + ys.length * a.length
  | [] => Nat.zero_le _
  | [x] => by
    show x.length ≤ _
    simp only [List.map_cons, List.map_nil, List.sum_cons, List.sum_nil]
    omega
  | x :: y :: r => by
    have ih := join_le a (y :: r)
    show (x ++ a ++ Str.join a (y :: r)).length ≤ _
    rw [Str.length_append, Str.length_append]
    simp only [List.map_cons, List.sum_cons, List.length_cons] at ih ⊢
    have e : (r.length + 1 + 1) * a.length = (r.length + 1) * a.length + a.length := by rw [Nat.add_mul, Nat.one_mul]
    omega
theorem words_le {r : Rw} (h0 : 0 ≤ r.hue) (h1 : r.hue ≤ 9) (s0 : 0 ≤ r.std) (s1 : r.std ≤ 9) (bl : r.bar.length ≤ 10) : (r.words.map (·.length)).sum + r.words.length * (" " : Str).length ≤ 200 := by
  have e1 : (" " : Str).length = 1 := by decide +kernel
  have e2 : ("visits" : Str).length = 6 := by decide +kernel
  have e3 : ("pauses" : Str).length = 6 := by decide +kernel
  have e4 : ("skips" : Str).length = 5 := by decide +kernel
  have e5 : ("stand " : Str).length = 6 := by decide +kernel
  have l1 := num_le h0 h1
  have l2 := num_le s0 s1
  have e6 : (("stand " : Str) ++ numS r.std).length = 6 + (numS r.std).length := by
    have z : (("stand " : Str) ++ numS r.std).length = ("stand " : Str).length + (numS r.std).length := by
      first
        | exact Str.length_append _ _
        | simp [Str.length, Str.cps_append]
    rw [z, e5]
  have g : ∀ {c : Prop} [Decidable c] (x : Str), x.length ≤ 20 → ((if c then [x] else []).map (·.length)).sum ≤ 20 ∧ (if c then [x] else []).length ≤ 1 := fun {c} _ x hx => by
    split
    · exact ⟨by simpa using hx, by simp⟩
    · exact ⟨by simp, by simp⟩
  have g1 := g (c := r.vis = true) "visits" (by rw [e2]; decide)
  have g2 := g (c := r.pau = true) "pauses" (by rw [e3]; decide)
  have g3 := g (c := r.std ≠ 0) (("stand " : Str) ++ numS r.std) (by rw [e6]; omega)
  have g4 := g (c := r.skp = true) "skips" (by rw [e4]; decide)
  unfold Rw.words
  rw [e1]
  simp only [List.map_append, List.sum_append, List.length_append, List.map_cons, List.map_nil, List.sum_cons, List.sum_nil, List.length_cons, List.length_nil]
  omega
theorem text_le {r : Ph} (ok : r.Ok) : r.rw.text.length ≤ 200 := by
  show (Builtin.Str.glued " " r.rw.words).length ≤ 200
  rw [StrLaws.glued_eq_join]
  refine Nat.le_trans (join_le _ _) (words_le (r := r.rw) ok.h0 (Int.le_trans ok.h1 (by decide)) ok.s0 (Int.le_trans ok.s1 (by decide)) ?_)
  show r.bar.s.length ≤ 10
  cases r.bar <;> decide +kernel
theorem sum_le {α : Type} {f : α → Nat} {m : Nat} : ∀ {xs : List α}, (∀ x ∈ xs, f x ≤ m) → (xs.map f).sum ≤ xs.length * m
  | [], _ => by simp
  | x :: xs, h => by
    have h1 := h x List.mem_cons_self
    have h2 := sum_le (xs := xs) fun y hy => h y (List.mem_cons_of_mem _ hy)
    simp only [List.map_cons, List.sum_cons, List.length_cons, Nat.add_mul, Nat.one_mul]
    omega
def bkText (rs : List Ph) : Str := Txt.join "\n" (rs.map fun r => r.rw.text)
def spBkText (K : PySem.W.Frag) : Sp := fun vs H Q _ => ∃ (b l : Addr) (rs : List Ph), vs = [.ref b] ∧ BkAt K H b l rs ∧ ∀ H', Same H H' → Q (.str (bkText rs)) H'
section
variable {P : Program} [SupP P pFile] {w : World} {K : PySem.W.Frag} {mg : Str → Option Value} {base : Heap}
theorem ok_Book_text (T : Tx K mg) : FnOk P w K mg base CX0 3 (pad "property" "Book" "text" K) (fdD K (pad "property" "Book" "text" K)) P_Book_text (spBkText K) := by
  refine T.F_Book_text.ok sc_Book_text (fun vs H Q E h => ?_) (fun cdv A outer s H vs Q E hr h => ?_)
  · obtain ⟨b, l, rs, rfl, _⟩ := h; rfl
  · obtain ⟨b, l, rs, rfl, B, k⟩ := h
    obtain ⟨⟨dx, hb⟩, ⟨as, hl, e, hp⟩, n1, n6, ok⟩ := id B
    refine ⟨_, PSs.nox ((pss_one (ps_ret (pe_join pe_str (pe_lc (own := [("phase", 1)]) (g := gName 1) (tt := tYes) rfl sc_Book_text.nd (pi_list (pe_fld (pv 0) rfl)) (blkOk_by (own := [("phase", 1)]) (N := N_Book_text) (sc := defScope s_Book_text) (by decide +kernel)) (fun _ _ _ _ _ => (pg_name (i := 1) sc_Book_text.nd rfl (Or.inl rfl))) (fun _ _ _ _ _ => pts_nil) (fun _ _ _ _ _ => (pe_prop (pv 1) T.c_Phase T.p_Phase_text (ok_Phase_text (P := P) T) (hr.mono (by decide)) (bd_Phase_text T) .nil pass0 rfl))))))), ?_⟩
    refine ⟨⟨_, rfl⟩, _, rfl, b, _, dx, _, _, rfl, hb, T.c_Book, T.na_Book_phases, bk_phases l, l, rfl, ⟨_, SqL.of hl⟩, fun D nD => ?_⟩
    refine lc_list (K := K) (a := l) (xs := as.map V.ref) (fun i H' => H' D = some (.lst (((rs.map fun r => r.rw.text).take i).map V.str)) ∧ Same H H') ⟨upd_same, Same.new nD⟩ (fun i H' _ ⟨_, S⟩ => SqL.of (S _ _ hl)) ?_ ?_
    · rintro i x H1 hi ⟨hD, S1⟩
      rw [List.getElem?_map] at hi
      cases et : as[i]? with
      | none => rw [et] at hi; cases hi
      | some a =>
        rw [et] at hi
        cases hi
        have hi2 : i < rs.length := by rw [← e]; exact (List.getElem?_eq_some_iff.mp et).1
        obtain ⟨r, hr', hm⟩ := mem_get hi2
        obtain ⟨da, hpa⟩ := (hp i a r et hr').same S1
        refine ⟨rfl, yesT (iteT ?_)⟩
        refine ⟨_, rfl, a, da, _, rfl, hpa, a, r.rw, rfl, ⟨da, hpa⟩, Ph.good (ok r hm), fun H2 S2 => ?_⟩
        refine ⟨_, S2 _ _ hD, small1000 (by rw [List.length_map, List.length_take, List.length_map]; omega), ?_, Same.upd (S1.trans S2) nD⟩
        rw [upd_same, List.take_add_one, List.getElem?_map, hr', List.map_append]
        rfl
    · rintro H1 ⟨hD, S1⟩
      rw [List.length_map, e, ← List.length_map (f := fun r : Ph => r.rw.text), List.take_length] at hD
      refine ⟨_, D, _, rfl, rfl, .inl (SqL.of hD), ?_, k _ S1⟩
      have e1 : ("\n" : Str).length = 1 := by decide +kernel
      rw [e1, List.map_map, List.length_map]
      have := sum_le (xs := rs) (f := (fun x : Str => x.length) ∘ fun r : Ph => r.rw.text) (m := 200) (fun r hr => text_le (ok r hr))
      omega
end

end Hue

set_option Elab.async false
set_option linter.all false
set_option maxRecDepth 100000
set_option maxHeartbeats 1000000
set_option pp.maxSteps 3000
namespace Hue
open PySem PySem.Spec PyProof.Rows L2
local macro_rules | `(tactic| walk_at "hp") => `(tactic| first
  | assumption
  | exact upd_same
  | (refine upd_old (by assumption) ?_; walk_at "hp")
  | (refine upd_oth (by assumption) ?_; walk_at "hp")
  | (refine same_get (by assumption) ?_; walk_at "hp")
  | (refine Fl.get (by assumption) (by assumption) ?_; walk_at "hp"))
local macro_rules | `(tactic| walk_at "seq") => `(tactic| first
  | assumption
  | exact T.t_BARRIERS _
  | exact SqL.of (by walk_at "hp")
  | exact SqT.of (by walk_at "hp"))
local macro_rules | `(tactic| walk_at "len") => `(tactic| first
  | exact Or.inl (by walk_at "seq")
  | exact Or.inr (by walk_at "seq"))
local macro_rules | `(tactic| walk_at "at") => `(tactic| first
  | rfl
  | assumption)

/-! ### faults -/
/-- what the generator yields: kinds and numbers of deeds -/
def fltA : Str × Int := ("stale", 1)
def fltB : Str × Int := ("dropped", 1)
def fltC : Str × Int := ("lost", 4)
def flA (r : Ph) (left : Int) : List (Str × Int) := if r.bar = .none ∧ left ≠ -1 then [fltA] else []
def flB1 (r : Ph) (hue left : Int) : List (Str × Int) := if hue = r.hue ∧ left ≠ -1 then [fltA] else []
def flB2 (r : Ph) (hue left : Int) : List (Str × Int) := if hue ≠ r.hue ∧ left = 0 then [fltB] else []
def seen (r : Ph) (h : Int) : Bool := decide (r.bar ≠ .none) || (decide (h = 1) && r.vis)
def flB (r : Ph) (h hue left : Int) : List (Str × Int) := if seen r h = true then flB1 r hue left ++ flB2 r hue left else []
def flC (r : Ph) (hue left : Int) : List (Str × Int) := if r.bar = .plain ∧ hue ≠ r.hue ∧ left ≠ 0 then [fltC] else []
def fltL (r : Ph) (h hue left : Int) : List (Str × Int) :=
  if h = 0 then (if left ≠ -1 then [fltA] else []) else flA r left ++ (flB r h hue left ++ flC r hue left)
theorem at_mid {α : Type} (A : List α) (x : α) (X : List α) : (A ++ x :: X)[A.length]? = some x := by simp
def fltZ (r : Ph) (h hue left : Int) : GP where
  len := (fltL r h hue left).length
  item := fun i x H => ∃ (s : Str) (n : Int) (t u : Addr) (ds : List V), (fltL r h hue left)[i]? = some (s, n) ∧ x = .ref t ∧ H t = some (.tup [.str s, .ref u]) ∧ H u = some (.tup ds) ∧ (ds.length : Int) = n
  rely := KeepN
  guar := Same
theorem BkAt.monoN {K : PySem.W.Frag} {H H' : Hp} {b l : Addr} {rs : List Ph} (h : BkAt K H b l rs) (e : KeepN H H') : BkAt K H' b l rs := by
  obtain ⟨⟨dx, h1⟩, ⟨as, h2, h3, h4⟩, h5, h6, h7⟩ := h
  refine ⟨⟨dx, e _ _ h1 (fun _ z => by cases z)⟩, ⟨as, e _ _ h2 (fun _ z => by cases z), h3, fun i a r ha hr => ?_⟩, h5, h6, h7⟩
  obtain ⟨da, q⟩ := h4 i a r ha hr
  exact ⟨da, e _ _ q (fun _ z => by cases z)⟩
def spFaults (K : PySem.W.Frag) : SpF := fun vs H Z => ∃ (b l t : Addr) (rs : List Ph) (at' h hue left : Int) (r : Ph), vs = [.ref b, .ref t] ∧ BkAt K H b l rs ∧ H t = some (.tup [.int at', .int h, .int hue, .int left]) ∧ rs[at'.toNat]? = some r ∧ 0 ≤ at' ∧ at' < rs.length ∧ Z = fltZ r h hue left
theorem gif_val {c : TT} {t u : TGF} {D : GFE} {k : Nat} {Hw : Hp} {σ : L2.St} {H : Hp} (b : Bool) (hc : ∀ R : Bool → Hp → Prop, R b H → c σ H R) (hy : b = true → t D k Hw σ H) (hn : b = false → u D k Hw σ H) : tGIf c t u D k Hw σ H := hc _ (by
  cases b with
  | true => exact iteT (hy rfl)
  | false => exact iteF (hn rfl))
theorem gcons_w {t u : TGF} {D : GFE} {k : Nat} {Hw : Hp} {σ : L2.St} {H : Hp} (W : Nat → Hp → L2.St → Hp → Prop) (ht : ∀ D2 : GFE, (∀ k Hw σ H, W k Hw σ H → D2.nx k Hw σ H) → D2.rt = D.rt → t D2 k Hw σ H) (hu : ∀ k Hw σ H, W k Hw σ H → u D k Hw σ H) : tGCons t u D k Hw σ H := ht { D with nx := fun k Hw σ H => u D k Hw σ H } hu rfl
theorem PhAt.sameN {K : PySem.W.Frag} {H H' : Hp} {a : Addr} {r : Ph} (h : PhAt K H a r) (e : KeepN H H') : PhAt K H' a r := by
  obtain ⟨da, q⟩ := h
  exact ⟨da, e _ _ q (fun _ z => by cases z)⟩
theorem same_one {H0 H : Hp} {p : Addr} {u : HO} (S : Same H0 H) (m : H p = none) : Same H0 (L2.upd H p u) := Same.upd S (S.free m)
section
variable {P : Program} [SupP P pFile] {w : World} {K : PySem.W.Frag} {mg : Str → Option Value} {base : Heap}
theorem gk_faults (T : Tx K mg) : GFn P w K mg base 6 (gad "faults" K) (fdD K (gad "faults" K)) P_faults (spFaults K) := by
  refine gfnD T.F_faults sc_faults (by decide +kernel) (fun vs H Z h => ?_) (fun vs H H2 Z h e => ?_) (fun cdv A outer n0 pn H vs Z ok0 hr h => ?_)
  · obtain ⟨b, l, t, rs, at', h, hue, left, r, rfl, _⟩ := h; rfl
  · obtain ⟨b, l, t, rs, at', h, hue, left, r, rfl, B, ht, q1, q2, q3, rfl⟩ := h
    exact ⟨b, l, t, rs, at', h, hue, left, r, rfl, B.monoN e, e _ _ ht (fun _ z => by cases z), q1, q2, q3, rfl⟩
  · obtain ⟨b, l, t, rs, at', h, hue, left, r, rfl, B, ht, q1, q2, q3, rfl⟩ := h
    refine ⟨_, (gsf_cons (gsf_ps fun sw Hw => (ps_asg (pv 1) (pg_tupK (K := K) (n := 4) rfl rfl (pgs_cons (pg_name (i := 2) sc_faults.nd rfl (Or.inl rfl)) (pgs_cons (pg_name (i := 3) sc_faults.nd rfl (Or.inl rfl)) (pgs_cons (pg_name (i := 4) sc_faults.nd rfl (Or.inl rfl)) (pgs_cons (pg_name (i := 5) sc_faults.nd rfl (Or.inl rfl)) pgs_nil)))))))
      (gsf_cons (gsf_ps fun sw Hw => (ps_set (i := 6) sc_faults.nd rfl (Or.inl rfl) (pe_ixO T.o_Book_getitem (fr_Book_getitem (P := P) T) (hr.mono (by decide)) pass0 (pv 0) (pv 2))))
      (gsf_cons (gsf_if (fun sw Hw => (pt_cmpR op_eq (pv 3) pe_int (nomark _))) (gsf_cons (gsf_if (fun sw Hw => (pt_cmpR op_ne (pv 5) (pe_un un_neg pe_int) (nomark _))) (gsf_cons (gsf_yield ok0 fun sw Hw => (pe_tup (pa_cons pe_str (pa_cons (pe_tup (pa_cons (pe_tup (pa_cons pe_str (pa_cons pe_int pa_nil))) pa_nil)) pa_nil))))
      gsf_nil) gsf_nil)
      (gsf_cons (gsf_ps fun sw Hw => ps_retN)
      gsf_nil)) gsf_nil)
      (gsf_cons (gsf_if (fun sw Hw => (PW.pt (pw_and (pt_not (pt_val (pe_prop (pv 6) T.c_Phase T.p_Phase_looks (ok_Phase_looks (P := P) T) (hr.mono (by decide)) (bd_Phase_looks T) .nil pass0 rfl))) (pw_and1 (pt_cmpR op_ne (pv 5) (pe_un un_neg pe_int) (nomark _)))))) (gsf_cons (gsf_yield ok0 fun sw Hw => (pe_tup (pa_cons pe_str (pa_cons (pe_tup (pa_cons (pe_tup (pa_cons pe_str (pa_cons pe_int (pa_cons pe_int pa_nil)))) pa_nil)) pa_nil))))
      gsf_nil) gsf_nil)
      (gsf_cons (gsf_if (fun sw Hw => (PW.pt (pw_or (pt_val (pe_prop (pv 6) T.c_Phase T.p_Phase_looks (ok_Phase_looks (P := P) T) (hr.mono (by decide)) (bd_Phase_looks T) .nil pass0 rfl)) (pw_or1 (PW.pt (pw_and (pt_cmpR op_eq (pv 3) pe_int (nomark _)) (pw_and1 (pt_val (pe_fldK (K := K) rfl (pv 6) rfl))))))))) (gsf_cons (gsf_ps fun sw Hw => (ps_set (i := 7) sc_faults.nd rfl (Or.inl rfl) (pe_ifExp (pt_val (pe_prop (pv 6) T.c_Phase T.p_Phase_looks (ok_Phase_looks (P := P) T) (hr.mono (by decide)) (bd_Phase_looks T) .nil pass0 rfl)) (pe_tup (pa_cons pe_str (pa_cons pe_int (pa_cons pe_int pa_nil)))) (pe_tup (pa_cons pe_str (pa_cons pe_int pa_nil))))))
      (gsf_cons (gsf_if (fun sw Hw => (PW.pt (pw_and (pt_cmpR op_eq (pv 4) (pe_fldK (K := K) rfl (pv 6) rfl) (nomark _)) (pw_and1 (pt_cmpR op_ne (pv 5) (pe_un un_neg pe_int) (nomark _)))))) (gsf_cons (gsf_yield ok0 fun sw Hw => (pe_tup (pa_cons pe_str (pa_cons (pe_tup (pa_cons (pv 7) pa_nil)) pa_nil))))
      gsf_nil) gsf_nil)
      (gsf_cons (gsf_if (fun sw Hw => (PW.pt (pw_and (pt_cmpR op_ne (pv 4) (pe_fldK (K := K) rfl (pv 6) rfl) (nomark _)) (pw_and1 (pt_cmpR op_eq (pv 5) pe_int (nomark _)))))) (gsf_cons (gsf_yield ok0 fun sw Hw => (pe_tup (pa_cons pe_str (pa_cons (pe_tup (pa_cons (pv 7) pa_nil)) pa_nil))))
      gsf_nil) gsf_nil)
      gsf_nil))) gsf_nil)
      (gsf_cons (gsf_if (fun sw Hw => (PW.pt (pw_and (pt_cmpR op_eq (pe_fldK (K := K) rfl (pv 6) rfl) pe_str (nomark _)) (pw_and (pt_cmpR op_ne (pv 4) (pe_fldK (K := K) rfl (pv 6) rfl) (nomark _)) (pw_and1 (pt_cmpR op_ne (pv 5) pe_int (nomark _))))))) (gsf_cons (gsf_yield ok0 fun sw Hw => (pe_tup (pa_cons pe_str (pa_cons (pe_tup (pa_cons (pe_tup (pa_cons pe_str (pa_cons pe_int (pa_cons pe_int pa_nil)))) (pa_cons (pe_tup (pa_cons pe_str (pa_cons pe_int pa_nil))) (pa_cons (pe_tup (pa_cons pe_str (pa_cons pe_int (pa_cons pe_int pa_nil)))) (pa_cons (pe_tup (pa_cons pe_str (pa_cons pe_int pa_nil))) pa_nil))))) pa_nil))))
      gsf_nil) gsf_nil)
      gsf_nil)))))), ?_⟩
    obtain ⟨dx, hb⟩ := B.bk
    refine ⟨_, rfl, t, _, rfl, SqT.of ht, rfl, _, _, rfl, _, _, rfl, _, _, rfl, _, _, rfl, rfl, ?_⟩
    refine ⟨_, rfl, _, rfl, b, dx, _, rfl, hb, b, l, rs, at', rfl, B, fun a q hq okq hp => ?_⟩
    have em : at' % (rs.length : Int) = at' := Int.emod_eq_of_lt q2 q3
    rw [em, q1] at hq
    cases hq
    have z2 : (2 : Nat) ≤ sizeLine := by decide
    have z1 : (1 : Nat) ≤ sizeLine := by decide
    have z3 : (3 : Nat) ≤ sizeLine := by decide
    have z4 : (4 : Nat) ≤ sizeLine := by decide
    have lt_of : ∀ {i : Nat} {x : Str × Int}, (fltL r h hue left)[i]? = some x → i < (fltZ r h hue left).len := fun e => (List.getElem?_eq_some_iff.mp e).1
    have int_eq : ∀ {i j : Int}, decide (V.int i = V.int j) = true → i = j := fun e => V.int.inj (of_decide_eq_true e)
    have int_ne : ∀ {i j : Int}, decide (V.int i = V.int j) = false → i ≠ j := fun e z => of_decide_eq_false e (congrArg V.int z)
    let W : Nat → Nat → Hp → L2.St → Hp → Prop := fun n k Hw σ H => (∃ q, σ = [some (.ref b), some (.ref t), some (.int at'), some (.int h), some (.int hue), some (.int left), some (.ref a), q]) ∧ Same Hw H ∧ PhAt K H a r ∧ k = n
    dsimp only [gName, GFE.at]
    have bar_none : (!decide (V.str r.bar.s = V.str "none")) = decide (r.bar ≠ .none) := by cases r.bar <;> decide +kernel
    have bar_plain : decide (V.str r.bar.s = V.str "plain") = decide (r.bar = .plain) := by cases r.bar <;> decide +kernel
    have dec_int : ∀ i j : Int, decide (V.int i = V.int j) = decide (i = j) := fun i j => by
      by_cases e : i = j
      · rw [e]; simp
      · rw [decide_eq_false e, decide_eq_false fun z => e (V.int.inj z)]
    refine gcons_w (fun k Hw σ H => h ≠ 0 ∧ W 0 k Hw σ H) (fun D2 nx rt => ?_) (fun k Hw σ H' hW => ?_)
    · refine gif_val (decide (h = 0)) (fun R hR => ⟨_, rfl, rfl, _, rfl, by rw [dec_int]; exact hR⟩) (fun c => ?_) (fun c => ?_)
      · have c0 : h = 0 := of_decide_eq_true c
        refine gcons_w (fun k Hw σ H => k = (fltZ r h hue left).len ∧ Same Hw H) (fun D3 nx3 rt3 => ?_) (fun k Hw σ H' hW => ?_)
        · refine gif_val (!decide (left = -1)) (fun R hR => ⟨_, rfl, _, rfl, rfl, _, rfl, by rw [dec_int]; exact hR⟩) (fun c2 => ?_) (fun c2 => ?_)
          · have c2 : left ≠ -1 := by simpa using c2
            have hL : fltL r h hue left = [fltA] := by unfold fltL; rw [if_pos c0, if_pos c2]
            refine ⟨z2, fun p1 m1 => ⟨z1, fun p2 m2 => ⟨z2, fun p3 m3 => ⟨lt_of (x := fltA) (by rw [hL]; rfl), ⟨_, _, p3, p2, _, (by rw [hL]; rfl : (fltL r h hue left)[0]? = some fltA), rfl, upd_same, upd_old m3 upd_same, rfl⟩, same_one (same_one (same_one (Same.refl _) m1) m2) m3, fun H2 e2 => nx3 _ _ _ _ ⟨?_, Same.refl _⟩⟩⟩⟩⟩
            show 1 = (fltL r h hue left).length
            rw [hL]; rfl
          · have c2 : left = -1 := by simpa using c2
            refine nx3 _ _ _ _ ⟨?_, Same.refl _⟩
            show 0 = (fltL r h hue left).length
            unfold fltL; rw [if_pos c0, if_neg (by simp [c2])]; rfl
        · obtain ⟨e1, e2⟩ := hW
          show D2.rt k Hw .non H'
          rw [rt]
          exact ⟨rfl, e1, e2⟩
      · exact nx _ _ _ _ ⟨of_decide_eq_false c, ⟨_, rfl⟩, Same.refl _, hp, rfl⟩
    · obtain ⟨c0, hW⟩ := hW
      have eL : fltL r h hue left = flA r left ++ (flB r h hue left ++ flC r hue left) := by unfold fltL; rw [if_neg c0]
      refine gcons_w (W (flA r left).length) (fun D2 nx rt => ?_) (fun k Hw σ H' hW => ?_)
      · obtain ⟨⟨q, rfl⟩, S, hp', rfl⟩ := hW
        obtain ⟨da, hpa⟩ := id hp'
        refine gif_val (!decide (r.bar ≠ .none) && !decide (left = -1)) (fun R hR => ⟨_, rfl, a, da, _, rfl, hpa, a, r, rfl, hp', okq, _, rfl, iteB (fun c => ?_) (fun c => ?_)⟩) (fun c => ?_) (fun c => ?_)
        · refine ⟨_, rfl, _, rfl, rfl, _, rfl, ?_⟩
          rw [c] at hR
          rw [dec_int]
          simpa using hR
        · rw [c] at hR
          simpa using hR
        · rw [Bool.and_eq_true] at c
          have ca : r.bar = .none ∧ left ≠ -1 := ⟨by simpa using c.1, by simpa using c.2⟩
          have eA : flA r left = [fltA] := by unfold flA; rw [if_pos ca]
          have hL : (fltL r h hue left)[0]? = some fltA := by rw [eL, eA]; rfl
          refine ⟨z3, fun p1 m1 => ⟨z1, fun p2 m2 => ⟨z2, fun p3 m3 => ⟨lt_of hL, ⟨_, _, p3, p2, _, hL, rfl, upd_same, upd_old m3 upd_same, rfl⟩, same_one (same_one (same_one S m1) m2) m3, fun H2 e2 => nx _ _ _ _ ⟨⟨_, rfl⟩, Same.refl _, ?_, by rw [eA]; rfl⟩⟩⟩⟩⟩
          exact (hp'.same (same_one (same_one (same_one (Same.refl _) m1) m2) m3)).sameN e2
        · have ca : ¬ (r.bar = .none ∧ left ≠ -1) := fun z => by
            rw [decide_eq_false (by simp [z.1]), decide_eq_false z.2] at c
            cases c
          exact nx _ _ _ _ ⟨⟨_, rfl⟩, S, hp', by unfold flA; rw [if_neg ca]; rfl⟩
      · refine gcons_w (W (flA r left ++ flB r h hue left).length) (fun D2 nx rt => ?_) (fun k Hw σ H' hW => ?_)
        · obtain ⟨⟨q, rfl⟩, S, hp', rfl⟩ := hW
          obtain ⟨da, hpa⟩ := id hp'
          refine gif_val (seen r h) (fun R hR => ⟨_, rfl, a, da, _, rfl, hpa, a, r, rfl, hp', okq, _, rfl, iteB (fun c => ?_) (fun c => ?_)⟩) (fun c => ?_) (fun c => ?_)
          · unfold seen at hR
            rw [c] at hR
            simpa using hR
          · unfold seen at hR
            rw [c] at hR
            refine ⟨_, rfl, rfl, _, rfl, iteB (fun c2 => ⟨_, rfl, a, _, da, _, _, rfl, hpa, T.c_Phase, T.na_Phase_visits, ph_visits r, _, rfl, ?_⟩) (fun c2 => ?_)⟩
            · rw [dec_int] at c2
              rw [c2] at hR
              simpa using hR
            · rw [dec_int] at c2
              rw [c2] at hR
              simpa using hR
          · have eB : flB r h hue left = flB1 r hue left ++ flB2 r hue left := by unfold flB; rw [if_pos c]
            let W2 : Nat → Nat → Hp → L2.St → Hp → Prop := fun n k Hw σ H => (∃ p, σ = [some (.ref b), some (.ref t), some (.int at'), some (.int h), some (.int hue), some (.int left), some (.ref a), some (.ref p)]) ∧ Same Hw H ∧ PhAt K H a r ∧ k = n
            refine gcons_w (W2 (flA r left).length) (fun D3 nx3 rt3 => ?_) (fun k Hw σ H' hW => ?_)
            · refine ⟨_, rfl, a, da, _, rfl, hpa, a, r, rfl, hp', okq, _, rfl, iteB (fun _ => ⟨z3, fun p1 m1 => nx3 _ _ _ _ ⟨⟨_, rfl⟩, same_one S m1, hp'.same (same_one (Same.refl _) m1), rfl⟩⟩) (fun _ => ⟨z2, fun p1 m1 => nx3 _ _ _ _ ⟨⟨_, rfl⟩, same_one S m1, hp'.same (same_one (Same.refl _) m1), rfl⟩⟩)⟩
            · refine gcons_w (W2 (flA r left ++ flB1 r hue left).length) (fun D3 nx3 rt3 => ?_) (fun k Hw σ H' hW => ?_)
              · obtain ⟨⟨q, rfl⟩, S, hp', rfl⟩ := hW
                obtain ⟨da, hpa⟩ := id hp'
                refine gif_val (decide (hue = r.hue) && !decide (left = -1)) (fun R hR => ⟨_, rfl, _, rfl, a, _, da, _, _, rfl, hpa, T.c_Phase, T.na_Phase_hue, ph_hue r, rfl, _, rfl, iteB (fun c => ?_) (fun c => ?_)⟩) (fun c => ?_) (fun c => ?_)
                · refine ⟨_, rfl, _, rfl, rfl, _, rfl, ?_⟩
                  rw [dec_int] at c ⊢
                  rw [c] at hR
                  simpa using hR
                · rw [dec_int] at c
                  rw [c] at hR
                  simpa using hR
                · rw [Bool.and_eq_true] at c
                  have ca : hue = r.hue ∧ left ≠ -1 := ⟨by simpa using c.1, by simpa using c.2⟩
                  have e1 : flB1 r hue left = [fltA] := by unfold flB1; rw [if_pos ca]
                  have hL : (fltL r h hue left)[(flA r left).length]? = some fltA := by rw [eL, eB, e1]; exact at_mid _ _ _
                  refine ⟨_, rfl, z1, fun p2 m2 => ⟨z2, fun p3 m3 => ⟨lt_of hL, ⟨_, _, p3, p2, _, hL, rfl, upd_same, upd_old m3 upd_same, rfl⟩, same_one (same_one S m2) m3, fun H2 e2 => nx3 _ _ _ _ ⟨⟨_, rfl⟩, Same.refl _, ?_, by rw [e1, List.length_append]; rfl⟩⟩⟩⟩
                  exact (hp'.same (same_one (same_one (Same.refl _) m2) m3)).sameN e2
                · have ca : ¬ (hue = r.hue ∧ left ≠ -1) := fun z => by
                    rw [decide_eq_true z.1, decide_eq_false z.2] at c
                    cases c
                  exact nx3 _ _ _ _ ⟨⟨_, rfl⟩, S, hp', by unfold flB1; rw [if_neg ca, List.append_nil]⟩
              · refine gcons_w (W2 (flA r left ++ flB r h hue left).length) (fun D3 nx3 rt3 => ?_) (fun k Hw σ H' hW => ?_)
                · obtain ⟨⟨q, rfl⟩, S, hp', rfl⟩ := hW
                  obtain ⟨da, hpa⟩ := id hp'
                  refine gif_val (!decide (hue = r.hue) && decide (left = 0)) (fun R hR => ⟨_, rfl, _, rfl, a, _, da, _, _, rfl, hpa, T.c_Phase, T.na_Phase_hue, ph_hue r, rfl, _, rfl, iteB (fun c => ?_) (fun c => ?_)⟩) (fun c => ?_) (fun c => ?_)
                  · refine ⟨_, rfl, rfl, _, rfl, ?_⟩
                    rw [dec_int] at c ⊢
                    rw [c] at hR
                    simpa using hR
                  · rw [dec_int] at c
                    rw [c] at hR
                    simpa using hR
                  · rw [Bool.and_eq_true] at c
                    have ca : hue ≠ r.hue ∧ left = 0 := ⟨by simpa using c.1, by simpa using c.2⟩
                    have e2' : flB2 r hue left = [fltB] := by unfold flB2; rw [if_pos ca]
                    have hL : (fltL r h hue left)[(flA r left ++ flB1 r hue left).length]? = some fltB := by
                      rw [eL, eB, e2', List.append_assoc, ← List.append_assoc]
                      exact at_mid _ _ _
                    refine ⟨_, rfl, z1, fun p2 m2 => ⟨z2, fun p3 m3 => ⟨lt_of hL, ⟨_, _, p3, p2, _, hL, rfl, upd_same, upd_old m3 upd_same, rfl⟩, same_one (same_one S m2) m3, fun H2 e2 => nx3 _ _ _ _ ⟨⟨_, rfl⟩, Same.refl _, ?_, by rw [eB, e2', ← List.append_assoc, List.length_append (bs := [fltB])]; rfl⟩⟩⟩⟩
                    exact (hp'.same (same_one (same_one (Same.refl _) m2) m3)).sameN e2
                  · have ca : ¬ (hue ≠ r.hue ∧ left = 0) := fun z => by
                      rw [decide_eq_false z.1, decide_eq_true z.2] at c
                      cases c
                    exact nx3 _ _ _ _ ⟨⟨_, rfl⟩, S, hp', by rw [eB]; unfold flB2; rw [if_neg ca, List.append_nil]⟩
                · obtain ⟨⟨q, rfl⟩, S, hp', rfl⟩ := hW
                  exact nx _ _ _ _ ⟨⟨_, rfl⟩, S, hp', rfl⟩
          · exact nx _ _ _ _ ⟨⟨_, rfl⟩, S, hp', by unfold flB; rw [c]; simp⟩
        · refine gcons_w (W (fltL r h hue left).length) (fun D2 nx rt => ?_) (fun k Hw σ H' hW => ?_)
          · obtain ⟨⟨q, rfl⟩, S, hp', rfl⟩ := hW
            obtain ⟨da, hpa⟩ := id hp'
            refine gif_val (decide (r.bar = .plain) && (!decide (hue = r.hue) && !decide (left = 0))) (fun R hR => ⟨_, rfl, a, _, da, _, _, rfl, hpa, T.c_Phase, T.na_Phase_barrier, ph_barrier r, rfl, _, rfl, iteB (fun c => ?_) (fun c => ?_)⟩) (fun c => ?_) (fun c => ?_)
            · rw [bar_plain] at c
              rw [c] at hR
              refine ⟨_, rfl, _, rfl, a, _, da, _, _, rfl, hpa, T.c_Phase, T.na_Phase_hue, ph_hue r, rfl, _, rfl, iteB (fun c2 => ?_) (fun c2 => ?_)⟩
              · refine ⟨_, rfl, rfl, _, rfl, ?_⟩
                rw [dec_int] at c2 ⊢
                rw [c2] at hR
                simpa using hR
              · rw [dec_int] at c2
                rw [c2] at hR
                simpa using hR
            · rw [bar_plain] at c
              rw [c] at hR
              simpa using hR
            · rw [Bool.and_eq_true, Bool.and_eq_true] at c
              have ca : r.bar = .plain ∧ hue ≠ r.hue ∧ left ≠ 0 := ⟨by simpa using c.1, by simpa using c.2.1, by simpa using c.2.2⟩
              have e1 : flC r hue left = [fltC] := by unfold flC; rw [if_pos ca]
              have hL : (fltL r h hue left)[(flA r left ++ flB r h hue left).length]? = some fltC := by rw [eL, e1, ← List.append_assoc]; exact at_mid _ _ _
              refine ⟨z3, fun p1 m1 => ⟨z2, fun p2 m2 => ⟨z3, fun p3 m3 => ⟨z2, fun p4 m4 => ⟨z4, fun p5 m5 => ⟨z2, fun p6 m6 => ⟨lt_of hL, ⟨_, _, p6, p5, _, hL, rfl, upd_same, upd_old m6 upd_same, rfl⟩, same_one (same_one (same_one (same_one (same_one (same_one S m1) m2) m3) m4) m5) m6, fun H2 e2 => nx _ _ _ _ ⟨⟨_, rfl⟩, Same.refl _, ?_, by rw [eL, e1, ← List.append_assoc, List.length_append (bs := [fltC])]; rfl⟩⟩⟩⟩⟩⟩⟩⟩
              exact (hp'.same (same_one (same_one (same_one (same_one (same_one (same_one (Same.refl _) m1) m2) m3) m4) m5) m6)).sameN e2
            · have ca : ¬ (r.bar = .plain ∧ hue ≠ r.hue ∧ left ≠ 0) := fun z => by
                rw [decide_eq_true z.1, decide_eq_false z.2.1, decide_eq_false z.2.2] at c
                cases c
              exact nx _ _ _ _ ⟨⟨_, rfl⟩, S, hp', by rw [eL]; unfold flC; rw [if_neg ca, List.append_nil]⟩
          · obtain ⟨_, S, _, rfl⟩ := hW
            exact ⟨rfl, S⟩
end

/-! ### wrongs_of -/
def knK (x : Str × Int) : MKey := [.inr x.1, .inl x.2]
def wrL (r : Ph) (h hue left : Int) : List (Str × Int) :=
  (if h ≠ 0 ∧ seen r h = true ∧ hue ≠ r.hue ∧ left = 0 then [fltB] else []) ++ ((if h ≠ 0 ∧ r.bar = .plain ∧ hue ≠ r.hue ∧ left ≠ 0 then [fltC] else []) ++
    (if left ≠ -1 ∧ (h = 0 ∨ r.bar = .none ∨ hue = r.hue) then [fltA] else []))
theorem wrL_mem (r : Ph) (h hue left : Int) (x : Str × Int) : x ∈ wrL r h hue left ↔ x ∈ fltL r h hue left := by
  unfold wrL fltL flA flB flB1 flB2 flC seen
  by_cases c0 : h = 0
  · subst c0
    by_cases c1 : left = -1 <;> simp [c1]
  · by_cases c1 : left = -1
    · subst c1
      by_cases c2 : hue = r.hue <;> by_cases c3 : r.bar = .plain <;> simp [c0, c2, c3]
    · by_cases c2 : hue = r.hue
      · by_cases c3 : r.bar = .none
        · by_cases c4 : h = 1 <;> by_cases c5 : r.vis = true <;> simp [c0, c1, c2, c3, c4, c5]
        · simp [c0, c1, c2, c3]
      · by_cases c6 : left = 0
        · by_cases c3 : r.bar = .none
          · by_cases c4 : h = 1 <;> by_cases c5 : r.vis = true <;> simp [c0, c2, c3, c4, c5, c6, or_comm]
          · simp [c0, c2, c3, c6]
        · by_cases c3 : r.bar = .none
          · by_cases c4 : h = 1 <;> by_cases c5 : r.vis = true <;> simp [c0, c1, c2, c3, c4, c5, c6]
          · by_cases c7 : r.bar = .plain <;> simp [c0, c1, c2, c3, c6, c7]
theorem wrL_asc (r : Ph) (h hue left : Int) : ((wrL r h hue left).map fun x => mD (knK x)).Pairwise fun a b => PySem.W.dataLt a b = true := by
  have e1 : PySem.W.dataLt (mD (knK fltB)) (mD (knK fltC)) = true := by decide +kernel
  have e2 : PySem.W.dataLt (mD (knK fltB)) (mD (knK fltA)) = true := by decide +kernel
  have e3 : PySem.W.dataLt (mD (knK fltC)) (mD (knK fltA)) = true := by decide +kernel
  unfold wrL
  split <;> split <;> split <;> simp [e1, e2, e3]
theorem knK_inj {x y : Str × Int} (e : knK x = knK y) : x = y := by
  unfold knK at e
  injection e with e1 e2
  injection e2 with e2 _
  exact Prod.ext (Sum.inr.inj e1) (Sum.inl.inj e2)
theorem fltL_three (r : Ph) (h hue left : Int) (x : Str × Int) (hx : x ∈ fltL r h hue left) : x = fltA ∨ x = fltB ∨ x = fltC := by
  rw [← wrL_mem] at hx
  unfold wrL at hx
  rcases List.mem_append.mp hx with z | z
  · split at z
    · rw [List.mem_singleton.mp z]; exact .inr (.inl rfl)
    · cases z
  · rcases List.mem_append.mp z with z | z
    · split at z
      · rw [List.mem_singleton.mp z]; exact .inr (.inr rfl)
      · cases z
    · split at z
      · rw [List.mem_singleton.mp z]; exact .inl rfl
      · cases z
/-- v is the pair x -/
def KnAt (H : Hp) (v : V) (x : Str × Int) : Prop := ∃ p, v = .ref p ∧ H p = some (.tup [.str x.1, .int x.2])
theorem KnAt.mono {H H' : Hp} {v : V} {x : Str × Int} (h : KnAt H v x) (S : Same H H') : KnAt H' v x := by
  obtain ⟨p, e, h1⟩ := h
  exact ⟨p, e, S _ _ h1⟩
theorem nodup_le {α : Type} [DecidableEq α] : ∀ (l D : List α), l.Nodup → (∀ x ∈ l, x ∈ D) → l.length ≤ D.length
  | [], _, _, _ => Nat.zero_le _
  | x :: l, D, nd, h => by
    have hx := h x List.mem_cons_self
    have nd' := List.nodup_cons.mp nd
    have := nodup_le l (D.erase x) nd'.2 fun y hy => (List.mem_erase_of_ne (fun z : y = x => nd'.1 (z ▸ hy))).mpr (h y (List.mem_cons_of_mem _ hy))
    rw [List.length_erase_of_mem hx] at this
    have := List.length_pos_of_mem hx
    rw [List.length_cons]
    omega
theorem nodup_three {α : Type} [DecidableEq α] {l : List α} {a b c : α} (nd : l.Nodup) (h : ∀ x ∈ l, x = a ∨ x = b ∨ x = c) : l.length ≤ 3 := by
  have hs : ∀ x ∈ l, x ∈ [a, b, c] := fun x hx => by
    rcases h x hx with e | e | e <;> simp [e]
  exact nodup_le l [a, b, c] nd hs
theorem asc_gen {α : Type} {enc : α → PyData} (inj : ∀ x y, enc x = enc y → x = y) {F : V → α → Prop} : ∀ {cs : List (V × PyData)} {ds : List α}, (∀ b ∈ cs, ∃ q, b.2 = enc q ∧ F b.1 q) → cs.map (·.2) = ds.map enc → Paired F (cs.map (·.1)) ds
  | [], [], _, _ => .nil
  | [], d :: ds, _, e => by cases e
  | c :: cs, [], _, e => by cases e
  | c :: cs, d :: ds, h, e => by
    rw [List.map_cons, List.map_cons] at e
    injection e with e1 e2
    obtain ⟨q, h1, h2⟩ := h c List.mem_cons_self
    have e3 : q = d := inj _ _ (h1.symm.trans e1)
    exact .cons (e3 ▸ h2) (asc_gen inj (fun b m => h b (List.mem_cons_of_mem _ m)) e2)
def knD (x : Str × Int) : PyData := mD (knK x)
theorem knD_inj (x y : Str × Int) (e : knD x = knD y) : x = y := by
  have e : PyData.tuple [.str x.1, .int x.2] = .tuple [.str y.1, .int y.2] := e
  injection e with e
  injection e with e1 e2
  injection e2 with e2 _
  injection e1 with e1
  injection e2 with e2
  exact Prod.ext e1 e2
theorem wrL_nodup (r : Ph) (h hue left : Int) : (wrL r h hue left).Nodup := by
  unfold wrL
  split <;> split <;> split <;> decide +kernel
theorem mem_nodup_perm {α : Type} [DecidableEq α] {l m : List α} (h1 : l.Nodup) (h2 : m.Nodup) (h : ∀ x, x ∈ l ↔ x ∈ m) : l.Perm m := (List.perm_ext_iff_of_nodup h1 h2).mpr h
theorem nodup_map_inj {α β : Type} {f : α → β} (inj : ∀ x y, f x = f y → x = y) {l : List α} (h : l.Nodup) : (l.map f).Nodup := List.pairwise_map.mpr (h.imp fun {a b} hne e => hne (inj a b e))
def spWrongs (K : PySem.W.Frag) : Sp := fun vs H Q _ => ∃ (b l t : Addr) (rs : List Ph) (at' h hue left : Int) (r : Ph), vs = [.ref b, .ref t] ∧ BkAt K H b l rs ∧ H t = some (.tup [.int at', .int h, .int hue, .int left]) ∧ rs[at'.toNat]? = some r ∧ 0 ≤ at' ∧ at' < rs.length ∧
  ∀ p H' xs, H p = none → Same H H' → Paired (KnAt H') xs (wrL r h hue left) → H' p = some (.lst xs) → Q (.ref p) H'
section
variable {P : Program} [SupP P pFile] {w : World} {K : PySem.W.Frag} {mg : Str → Option Value} {base : Heap}
theorem ok_wrongs_of (T : Tx K mg) : FnOk P w K mg base CX0 8 (gad "wrongs_of" K) (fdD K (gad "wrongs_of" K)) P_wrongs_of (spWrongs K) := by
  refine T.F_wrongs_of.ok sc_wrongs_of (fun vs H Q E h => ?_) (fun cdv A outer s H vs Q E hr h => ?_)
  · obtain ⟨b, l, t, rs, at', h, hue, left, r, rfl, _⟩ := h; rfl
  · obtain ⟨b, l, t, rs, at', h, hue, left, r, rfl, B, ht, q1, q2, q3, k⟩ := h
    refine ⟨_, PSs.nox ((pss_one (ps_ret (pe_callB (cr_sortedM rfl (room65 hr)) (by rfl) T.n_sorted (by decide +kernel) (pa_cons (pe_scG (own := [("kind", 2), ("deeds", 3)]) (g := gTup K 2 (gCons (gName 2) (gCons (gName 3) gNil))) rfl sc_wrongs_of.nd (hr.mono (by decide)) (Nat.lt_of_le_of_lt (Nat.add_le_add_left (by decide) _) hr.units) (pgz_call (gk_faults (P := P) T) (hr.mono (by decide)) rfl T.g_faults T.F_faults.kp (bd_faults T) .nil (pa_cons (pv 0) (pa_cons (pv 1) pa_nil))) (blkOk_by (own := [("kind", 2), ("deeds", 3)]) (N := N_wrongs_of) (sc := defScope s_wrongs_of) (by decide +kernel)) (by decide +kernel) (fun _ _ _ _ _ => (pg_tupK (K := K) (n := 2) rfl rfl (pgs_cons (pg_name (i := 2) sc_wrongs_of.nd rfl (Or.inl rfl)) (pgs_cons (pg_name (i := 3) sc_wrongs_of.nd rfl (Or.inl rfl)) pgs_nil)))) (fun _ _ _ _ _ => (pe_tup (pa_cons (pv 2) (pa_cons (pe_callB (call_len_seqK (K := K) rfl) (by rfl) T.n_len (by decide +kernel) (pa_cons (pv 3) pa_nil)) pa_nil))))) pa_nil))))), ?_⟩
    refine ⟨_, rfl, _, rfl, fltZ r h hue left, ⟨b, l, t, rs, at', h, hue, left, r, rfl, B, ht, q1, q2, q3, rfl⟩, fun _ _ e => e, fun _ _ e => e, fun i x H C φ hC it => ?_, fun D nD => ?_⟩
    · obtain ⟨s, n, t', u, ds, h1, h2, h3, h4, h5⟩ := it
      exact ⟨s, n, t', u, ds, h1, h2, by rw [delH_ne (fun z => by rw [z, hC] at h3; cases h3)]; exact h3, by rw [delH_ne (fun z => by rw [z, hC] at h4; cases h4)]; exact h4, h5⟩
    refine ⟨fun i H' => ∃ L : List MRow, H' D = some (MSetO P w D L) ∧ (∀ p ∈ L, H' p.1 = some (.tup (p.2.map kV))) ∧ (L.map (·.2)).Nodup ∧ (∀ k ∈ L.map (·.2), ∃ x ∈ (fltL r h hue left).take i, k = knK x) ∧ (∀ x ∈ (fltL r h hue left).take i, knK x ∈ L.map (·.2)) ∧ Same H H',
      ⟨[], upd_same, fun p hp => (by cases hp), List.nodup_nil, fun k hk => (by cases hk), fun x hx => (by simp at hx), Same.new nD⟩, fun i H1 hW => ?_⟩
    obtain ⟨L, hD, hL, nd, m1, m2, S1⟩ := hW
    refine ⟨⟨_, hD⟩, fun e H2 ka => ?_, fun hlt x H2 ka it => ?_⟩
    · have e : i = (fltL r h hue left).length := e
      rw [e, List.take_length] at m1 m2
      have S2 : Same H H2 := S1.trans ka
      have hL2 : ∀ p ∈ L, H2 p.1 = some (.tup (p.2.map kV)) := fun p hp => ka _ _ (hL p hp)
      have isK : ∀ q ∈ L, ∃ x, q.2 = knK x := fun q hq => by
        obtain ⟨x, _, e⟩ := m1 q.2 (List.mem_map.mpr ⟨q, hq, rfl⟩)
        exact ⟨x, e⟩
      refine ⟨D, L, rfl, ka _ _ hD, fun q hq => SqT.of (hL2 q hq), fun d hd d' hd' => ?_, .inl fun d hd => ?_, fun q hq => ?_, fun bs p pb nd' np => ?_⟩
      · obtain ⟨b1, hb1, rfl⟩ := List.mem_map.mp hd
        obtain ⟨b2, hb2, rfl⟩ := List.mem_map.mp hd'
        obtain ⟨q1, h1, rfl⟩ := List.mem_map.mp hb1
        obtain ⟨q2, h2, rfl⟩ := List.mem_map.mp hb2
        obtain ⟨x1, e1⟩ := isK q1 h1
        obtain ⟨x2, e2⟩ := isK q2 h2
        show PySem.W.alike (mD q1.2) (mD q2.2) = true
        rw [e1, e2]
        simp [mD, knK, kD, PySem.W.alike, PySem.W.alikeAll]
      · obtain ⟨b1, hb1, rfl⟩ := List.mem_map.mp hd
        obtain ⟨q1, h1, rfl⟩ := List.mem_map.mp hb1
        obtain ⟨x1, e1⟩ := isK q1 h1
        exact ⟨.str x1.1, [.int x1.2], by show mD q1.2 = _; rw [e1]; rfl⟩
      · obtain ⟨x1, e1⟩ := isK q hq
        rw [e1]
        simp [mD, knK, kD, PyData.depth, PyData.depthAll]
      · have perm : (L.map (·.2)).Perm ((wrL r h hue left).map knK) := mem_nodup_perm nd (nodup_map_inj (fun _ _ => knK_inj) (wrL_nodup ..)) fun k => ⟨fun hk => by
            obtain ⟨x, hx, rfl⟩ := m1 k hk
            exact List.mem_map.mpr ⟨x, (wrL_mem ..).mpr hx, rfl⟩, fun hk => by
            obtain ⟨x, hx, rfl⟩ := List.mem_map.mp hk
            exact m2 x ((wrL_mem ..).mp hx)⟩
        have pd : (bs.map (·.2)).Perm ((wrL r h hue left).map knD) := by
          have p1 := pb.map (·.2)
          have e1 : (rwB L).map (·.2) = (L.map (·.2)).map mD := by
            unfold rwB
            rw [List.map_map, List.map_map]
            rfl
          rw [e1] at p1
          have p2 := perm.map mD
          rw [List.map_map (g := mD) (f := knK)] at p2
          exact p1.trans p2
        have ea := ascD_data pd (wrL_asc ..)
        have S3 : Same H (upd H2 p (.lst ((ascD bs).map (·.1)))) := Same.upd S2 (S2.free np)
        refine k p _ _ (S2.free np) S3 (asc_gen knD_inj (fun b hb => ?_) ea) upd_same
        have hb' := pb.mem_iff.mp (ascD_mem hb)
        obtain ⟨q, hq, rfl⟩ := List.mem_map.mp hb'
        obtain ⟨x, ex⟩ := isK q hq
        refine ⟨x, by show mD q.2 = _; rw [ex]; rfl, q.1, rfl, ?_⟩
        have := hL2 q hq
        rw [ex] at this
        exact upd_old np this
    · obtain ⟨s', n, t', u, ds, hi, rfl, ht', hu', hn⟩ := it
      subst hn
      refine ⟨t', _, rfl, SqT.of ht', rfl, _, _, rfl, _, _, rfl, rfl, rfl, ?_⟩
      refine ⟨_, rfl, _, rfl, u, _, rfl, .inr (SqT.of hu'), (show (2 : Nat) ≤ sizeLine by decide), fun p m => ?_⟩
      have hD3 := upd_old (u := .tup [.str s', .int (ds.length : Nat)]) m (ka _ _ hD)
      have S3 : Same H1 (upd H2 p (.tup [.str s', .int (ds.length : Nat)])) := Same.trans ka (Same.new m)
      have hp3 : upd H2 p (.tup [.str s', .int (ds.length : Nat)]) p = some (.tup [.str s', .int (ds.length : Nat)]) := upd_same
      have kn : KeepN H2 (upd H2 p (.tup [.str s', .int (ds.length : Nat)])) := fun b o e _ => upd_old m e
      generalize upd H2 p (.tup [.str s', .int (ds.length : Nat)]) = H3 at hD3 S3 hp3 kn ⊢
      have hL3 : ∀ q ∈ L, H3 q.1 = some (.tup (q.2.map kV)) := fun q hq => S3 _ _ (hL q hq)
      have lt4 : L.length < 4 := by
        have : (L.map (·.2)).length ≤ 3 := nodup_three (a := knK fltA) (b := knK fltB) (c := knK fltC) nd fun k hk => by
          obtain ⟨x, hx, rfl⟩ := m1 k hk
          rcases fltL_three _ _ _ _ _ (List.mem_of_mem_take hx) with e | e | e
          · exact .inl (by rw [e])
          · exact .inr (.inl (by rw [e]))
          · exact .inr (.inr (by rw [e]))
        rw [List.length_map] at this
        omega
      refine ⟨p, knK (s', (ds.length : Nat)), L, rfl, SqT.of hp3, hD3, fun q hq => SqT.of (hL3 q hq), lt4, kn, fun L' c1 c2 => ?_⟩
      have tk : (fltL r h hue left).take (i + 1) = (fltL r h hue left).take i ++ [(s', ((ds.length : Nat) : Int))] := by
        rw [List.take_add_one, hi]
        rfl
      have neD : ∀ {q : Addr} {xs : List V}, H3 q = some (.tup xs) → q ≠ D := fun e z => by rw [z, hD3] at e; cases e
      dsimp only
      rw [tk]
      by_cases c : knK (s', ((ds.length : Nat) : Int)) ∈ L.map (·.2)
      · rw [c1 c]
        refine ⟨L, upd_same, fun q hq => upd_oth (neD (hL3 q hq)) (hL3 q hq), nd, fun k hk => ?_, fun x hx => ?_, Same.upd (S1.trans S3) nD⟩
        · obtain ⟨x, hx, e⟩ := m1 k hk
          exact ⟨x, List.mem_append_left _ hx, e⟩
        · rcases List.mem_append.mp hx with z | z
          · exact m2 x z
          · rw [List.mem_singleton.mp z]; exact c
      · have pm := c2 c
        have pm2 := pm.map (·.2)
        refine ⟨L', upd_same, fun q hq => ?_, ?_, fun k hk => ?_, fun x hx => ?_, Same.upd (S1.trans S3) nD⟩
        · rcases List.mem_cons.mp (pm.mem_iff.mp hq) with e | hq
          · rw [e]; exact upd_oth (neD hp3) hp3
          · exact upd_oth (neD (hL3 q hq)) (hL3 q hq)
        · rw [pm2.nodup_iff, List.map_cons]
          exact List.nodup_cons.mpr ⟨c, nd⟩
        · rw [pm2.mem_iff, List.map_cons] at hk
          rcases List.mem_cons.mp hk with e | hk
          · exact ⟨_, List.mem_append_right _ (List.mem_singleton.mpr rfl), e⟩
          · obtain ⟨x, hx, e⟩ := m1 k hk
            exact ⟨x, List.mem_append_left _ hx, e⟩
        · rw [pm2.mem_iff, List.map_cons]
          rcases List.mem_append.mp hx with z | z
          · exact List.mem_cons_of_mem _ (m2 x z)
          · rw [List.mem_singleton.mp z]; exact List.mem_cons_self
end

end Hue

set_option Elab.async false
set_option linter.all false
set_option maxRecDepth 100000
set_option maxHeartbeats 1000000
set_option pp.maxSteps 3000
namespace Hue
open PySem PySem.Spec PyProof.Rows L2
local macro_rules | `(tactic| walk_at "hp") => `(tactic| first
  | assumption
  | exact upd_same
  | (refine upd_old (by assumption) ?_; walk_at "hp")
  | (refine upd_oth (by assumption) ?_; walk_at "hp")
  | (refine same_get (by assumption) ?_; walk_at "hp")
  | (refine Fl.get (by assumption) (by assumption) ?_; walk_at "hp"))
local macro_rules | `(tactic| walk_at "seq") => `(tactic| first
  | assumption
  | exact T.t_BARRIERS _
  | exact SqL.of (by walk_at "hp")
  | exact SqT.of (by walk_at "hp"))
local macro_rules | `(tactic| walk_at "len") => `(tactic| first
  | exact Or.inl (by walk_at "seq")
  | exact Or.inr (by walk_at "seq"))
local macro_rules | `(tactic| walk_at "at") => `(tactic| first
  | rfl
  | assumption)

/-! ### _law_wrongs, _law_standings, _law_told -/
theorem sseq_w {t u : TS} {D : Ends} {σ : L2.St} {H : Hp} (W : L2.St → Hp → Prop) (ht : ∀ D2 : Ends, (∀ σ H, W σ H → D2.nx σ H) → D2.rt = D.rt → D2.bk = D.bk → D2.ct = D.ct → t D2 σ H) (hu : ∀ σ H, W σ H → u D σ H) : tSeq t u D σ H := ht { D with nx := u D } hu rfl rfl rfl
theorem sif_val {c : TT} {t u : TS} {D : Ends} {σ : L2.St} {H : Hp} (b : Bool) (hc : ∀ R : Bool → Hp → Prop, R b H → c σ H R) (hy : b = true → t D σ H) (hn : b = false → u D σ H) : tIfS c t u D σ H := hc _ (by
  cases b with
  | true => exact iteT (hy rfl)
  | false => exact iteF (hn rfl))
theorem paired_mono {α β : Type} {F G : α → β → Prop} : ∀ {xs : List α} {ys : List β}, Paired F xs ys → (∀ x y, F x y → G x y) → Paired G xs ys
  | _, _, .nil, _ => .nil
  | _, _, .cons f t, h => .cons (h _ _ f) (paired_mono t h)
theorem paired_snoc {α β : Type} {F : α → β → Prop} {x : α} {y : β} (f : F x y) : ∀ {xs : List α} {ys : List β}, Paired F xs ys → Paired F (xs ++ [x]) (ys ++ [y])
  | _, _, .nil => .cons f .nil
  | _, _, .cons g t => .cons g (paired_snoc f t)
theorem KnAt.upd {H : Hp} {d : Addr} {v : V} {x : Str × Int} {xs ys : List V} (h : KnAt H v x) (hd : H d = some (.lst xs)) : KnAt (L2.upd H d (.lst ys)) v x := by
  obtain ⟨p, e, h1⟩ := h
  exact ⟨p, e, upd_oth (ne_of h1 hd (by intro z; cases z)) h1⟩
def spLWrongs : Sp := fun vs H Q _ => ∃ (a t : Addr) (rs : List Ph) (at' h hue left : Int) (r : Ph), vs = [.ref a, .ref t] ∧ RowsAt H a rs ∧ H t = some (.tup [.int at', .int h, .int hue, .int left]) ∧ rs[at'.toNat]? = some r ∧ 0 ≤ at' ∧ at' < rs.length ∧
  ∀ p H' xs, H p = none → Same H H' → Paired (KnAt H') xs (wrL r h hue left) → H' p = some (.lst xs) → Q (.ref p) H'
section
variable {P : Program} [SupP P pFile] {w : World} {K : PySem.W.Frag} {mg : Str → Option Value} {base : Heap}
theorem ok_l_wrongs (T : Tx K mg) : FnOk P w K mg base CX0 2 (gad "_law_wrongs" K) (fdD K (gad "_law_wrongs" K)) P_l_wrongs spLWrongs := by
  refine T.F_l_wrongs.ok sc_l_wrongs (fun vs H Q E h => ?_) (fun cdv A outer s H vs Q E hr h => ?_)
  · obtain ⟨a, t, rs, at', h, hue, left, r, rfl, _⟩ := h; rfl
  · obtain ⟨a, t, rs, at', h, hue, left, r, rfl, R, ht, q1, q2, q3, k⟩ := h
    refine ⟨_, PSs.nox ((pss_cons (ps_set (i := 2) sc_l_wrongs.nd rfl (Or.inl rfl) (pe_ix ix_list (pv 0) (pe_ix ix_tup (pv 1) pe_int (fun _ _ => rfl)) (fun _ _ => rfl)))
      (pss_cons (ps_set (i := 3) sc_l_wrongs.nd rfl (Or.inl rfl) (pe_ix ix_tup (pv 1) pe_int (fun _ _ => rfl)))
      (pss_cons (ps_set (i := 4) sc_l_wrongs.nd rfl (Or.inl rfl) (pe_ix ix_tup (pv 1) pe_int (fun _ _ => rfl)))
      (pss_cons (ps_set (i := 5) sc_l_wrongs.nd rfl (Or.inl rfl) (pe_lst pa_nil))
      (pss_cons (ps_set (i := 6) sc_l_wrongs.nd rfl (Or.inl rfl) (pe_or (pe_cmpR op_ne (pe_ix ix_tup (pv 2) pe_int (fun _ _ => rfl)) pe_str (nomark _)) (pe_one (pe_and (pe_cmpR op_eq (pv 3) pe_int (nomark _)) (pe_one (pe_ix ix_tup (pv 2) pe_int (fun _ _ => rfl)))))))
      (pss_cons (ps_if (PW.pt (pw_and (pt_cmpR op_ne (pv 3) pe_int (nomark _)) (pw_and (pt_val (pv 6)) (pw_and (pt_cmpR op_ne (pe_ix ix_tup (pv 1) pe_int (fun _ _ => rfl)) (pe_ix ix_tup (pv 2) pe_int (fun _ _ => rfl)) (nomark _)) (pw_and1 (pt_cmpR op_eq (pv 4) pe_int (nomark _))))))) (pss_one (ps_expr (pe_bm PySem.F.plainAttrs_list PySem.F.slot_list_append PySem.F.type_list_append mt_append (pv 5) (pa_cons (pe_tup (pa_cons pe_str (pa_cons pe_int pa_nil))) pa_nil)))) pss_nil)
      (pss_cons (ps_if (PW.pt (pw_and (pt_cmpR op_ne (pv 3) pe_int (nomark _)) (pw_and (pt_cmpR op_eq (pe_ix ix_tup (pv 2) pe_int (fun _ _ => rfl)) pe_str (nomark _)) (pw_and (pt_cmpR op_ne (pe_ix ix_tup (pv 1) pe_int (fun _ _ => rfl)) (pe_ix ix_tup (pv 2) pe_int (fun _ _ => rfl)) (nomark _)) (pw_and1 (pt_cmpR op_ne (pv 4) pe_int (nomark _))))))) (pss_one (ps_expr (pe_bm PySem.F.plainAttrs_list PySem.F.slot_list_append PySem.F.type_list_append mt_append (pv 5) (pa_cons (pe_tup (pa_cons pe_str (pa_cons pe_int pa_nil))) pa_nil)))) pss_nil)
      (pss_cons (ps_if (PW.pt (pw_and (pt_cmpR op_ne (pv 4) (pe_un un_neg pe_int) (nomark _)) (pw_and1 (PW.pt (pw_or (pt_cmpR op_eq (pv 3) pe_int (nomark _)) (pw_or (pt_cmpR op_eq (pe_ix ix_tup (pv 2) pe_int (fun _ _ => rfl)) pe_str (nomark _)) (pw_or1 (pt_cmpR op_eq (pe_ix ix_tup (pv 1) pe_int (fun _ _ => rfl)) (pe_ix ix_tup (pv 2) pe_int (fun _ _ => rfl)) (nomark _))))))))) (pss_one (ps_expr (pe_bm PySem.F.plainAttrs_list PySem.F.slot_list_append PySem.F.type_list_append mt_append (pv 5) (pa_cons (pe_tup (pa_cons pe_str (pa_cons pe_int pa_nil))) pa_nil)))) pss_nil)
      (pss_one (ps_ret (pv 5)))))))))))), ?_⟩
    obtain ⟨xs, u, r', hx, ha, hr', okr, hu⟩ := R.row q2 q3
    rw [q1] at hr'
    cases hr'
    have bar_none : (!decide (V.str r.bar.s = V.str "none")) = decide (r.bar ≠ .none) := by cases r.bar <;> decide +kernel
    have bar_none' : decide (V.str r.bar.s = V.str "none") = decide (r.bar = .none) := by cases r.bar <;> decide +kernel
    have bar_plain : decide (V.str r.bar.s = V.str "plain") = decide (r.bar = .plain) := by cases r.bar <;> decide +kernel
    have dec_int : ∀ i j : Int, decide (V.int i = V.int j) = decide (i = j) := fun i j => by
      by_cases e : i = j
      · rw [e]; simp
      · rw [decide_eq_false e, decide_eq_false fun z => e (V.int.inj z)]
    refine ⟨_, rfl, _, rfl, t, _, _, _, rfl, rfl, SqT.of ht, rfl, a, _, _, _, rfl, rfl, SqL.of hx, ha, ?_⟩
    refine ⟨_, rfl, t, _, _, _, rfl, rfl, SqT.of ht, rfl, ?_⟩
    refine ⟨_, rfl, t, _, _, _, rfl, rfl, SqT.of ht, rfl, ?_⟩
    refine ⟨(show (0 : Nat) ≤ sizeLine by decide), fun d nd => ?_⟩
    let σ1 : L2.St := [some (.ref a), some (.ref t), some (.ref u), some (.int h), some (.int left), some (.ref d), some (.bl (seen r h))]
    let W : List (Str × Int) → L2.St → Hp → Prop := fun ys σ H' => σ = σ1 ∧ Same H H' ∧ ∃ xs, H' d = some (.lst xs) ∧ Paired (KnAt H') xs ys
    dsimp only [gName]
    refine sseq_w (W []) (fun D2 nx _ _ _ => ?_) (fun σ H' hW => ?_)
    · refine ⟨_, rfl, u, _, _, _, rfl, rfl, SqT.of (upd_old nd hu), (row_at r).2.1, rfl, _, rfl, iteB (fun c => ?_) (fun c => ?_)⟩
      · rw [bar_none] at c
        have e : seen r h = true := by unfold seen; rw [c]; rfl
        refine nx _ _ ⟨?_, Same.new nd, [], upd_same, .nil⟩
        dsimp only [σ1]
        rw [e]
        rfl
      · rw [bar_none] at c
        refine ⟨_, rfl, rfl, _, rfl, iteB (fun c2 => ⟨_, rfl, u, _, _, _, rfl, rfl, SqT.of (upd_old nd hu), (row_at r).2.2.1, ?_⟩) (fun c2 => ?_)⟩
        · rw [dec_int] at c2
          have e : seen r h = r.vis := by unfold seen; rw [c, c2]; rfl
          refine nx _ _ ⟨?_, Same.new nd, [], upd_same, .nil⟩
          dsimp only [σ1]
          rw [e]
          rfl
        · rw [dec_int] at c2
          have e : seen r h = false := by unfold seen; rw [c, c2]; rfl
          refine nx _ _ ⟨?_, Same.new nd, [], upd_same, .nil⟩
          dsimp only [σ1]
          rw [e]
          rfl
    · refine sseq_w (W (if h ≠ 0 ∧ seen r h = true ∧ hue ≠ r.hue ∧ left = 0 then [fltB] else [])) (fun D2 nx _ _ _ => ?_) (fun σ H' hW => ?_)
      · obtain ⟨rfl, S1, xs1, hd1, P1⟩ := hW
        have ht1 := S1 _ _ ht
        have hu1 := S1 _ _ hu
        refine sif_val (!decide (h = 0) && (seen r h && (!decide (hue = r.hue) && decide (left = 0)))) (fun R hR => ⟨_, rfl, rfl, _, rfl, iteB (fun c => ⟨_, rfl, _, rfl, iteB (fun c2 => ⟨_, rfl, t, _, _, _, rfl, rfl, SqT.of ht1, rfl, _, rfl, u, _, _, _, rfl, rfl, SqT.of hu1, (row_at r).1, rfl, _, rfl, iteB (fun c3 => ⟨_, rfl, rfl, _, rfl, ?_⟩) (fun c3 => ?_)⟩) (fun c2 => ?_)⟩) (fun c => ?_)⟩) (fun c => ?_) (fun c => ?_)
        · rw [dec_int] at c c3 ⊢
          rw [c, c2, c3] at hR
          simpa using hR
        · rw [dec_int] at c c3
          rw [c, c2, c3] at hR
          simpa using hR
        · rw [dec_int] at c
          rw [c, c2] at hR
          simpa using hR
        · rw [dec_int] at c
          rw [c] at hR
          simpa using hR
        · have ca : h ≠ 0 ∧ seen r h = true ∧ hue ≠ r.hue ∧ left = 0 := by simpa using c
          refine ⟨_, rfl, .inl ⟨rfl, _, SqL.of hd1⟩, (show (2 : Nat) ≤ sizeLine by decide), fun p m => ⟨d, _, _, rfl, rfl, upd_old m hd1, small1000 (by rw [Paired.length P1]; decide), nx _ _ ⟨rfl, Same.upd (same_one S1 m) nd, _, upd_same, ?_⟩⟩⟩
          rw [if_pos ca]
          exact paired_snoc (ys := []) ⟨p, rfl, upd_oth (fun z => by rw [z, hd1] at m; cases m) upd_same⟩ (paired_mono P1 fun _ _ q => KnAt.upd (q.mono (Same.new m)) (upd_old m hd1))
        · have ca : ¬ (h ≠ 0 ∧ seen r h = true ∧ hue ≠ r.hue ∧ left = 0) := fun z => by
            rw [decide_eq_false z.1, z.2.1, decide_eq_false z.2.2.1, decide_eq_true z.2.2.2] at c
            cases c
          exact nx _ _ ⟨rfl, S1, xs1, hd1, by rw [if_neg ca]; exact P1⟩
      · generalize hy1 : (if h ≠ 0 ∧ seen r h = true ∧ hue ≠ r.hue ∧ left = 0 then [fltB] else []) = y1 at hW
        have l1 : y1.length ≤ 1 := by rw [← hy1]; split <;> decide
        refine sseq_w (W (y1 ++ (if h ≠ 0 ∧ r.bar = .plain ∧ hue ≠ r.hue ∧ left ≠ 0 then [fltC] else []))) (fun D2 nx _ _ _ => ?_) (fun σ H' hW => ?_)
        · obtain ⟨rfl, S1, xs1, hd1, P1⟩ := hW
          have ht1 := S1 _ _ ht
          have hu1 := S1 _ _ hu
          refine sif_val (!decide (h = 0) && (decide (r.bar = .plain) && (!decide (hue = r.hue) && !decide (left = 0)))) (fun R hR => ⟨_, rfl, rfl, _, rfl, iteB (fun c => ⟨_, rfl, u, _, _, _, rfl, rfl, SqT.of hu1, (row_at r).2.1, rfl, _, rfl, iteB (fun c2 => ⟨_, rfl, t, _, _, _, rfl, rfl, SqT.of ht1, rfl, _, rfl, u, _, _, _, rfl, rfl, SqT.of hu1, (row_at r).1, rfl, _, rfl, iteB (fun c3 => ⟨_, rfl, rfl, _, rfl, ?_⟩) (fun c3 => ?_)⟩) (fun c2 => ?_)⟩) (fun c => ?_)⟩) (fun c => ?_) (fun c => ?_)
          · rw [dec_int] at c c3 ⊢
            rw [bar_plain] at c2
            rw [c, c2, c3] at hR
            simpa using hR
          · rw [dec_int] at c c3
            rw [bar_plain] at c2
            rw [c, c2, c3] at hR
            simpa using hR
          · rw [dec_int] at c
            rw [bar_plain] at c2
            rw [c, c2] at hR
            simpa using hR
          · rw [dec_int] at c
            rw [c] at hR
            simpa using hR
          · have ca : h ≠ 0 ∧ r.bar = .plain ∧ hue ≠ r.hue ∧ left ≠ 0 := by simpa using c
            refine ⟨_, rfl, .inl ⟨rfl, _, SqL.of hd1⟩, (show (2 : Nat) ≤ sizeLine by decide), fun p m => ⟨d, _, _, rfl, rfl, upd_old m hd1, small1000 (by rw [Paired.length P1]; omega), nx _ _ ⟨rfl, Same.upd (same_one S1 m) nd, _, upd_same, ?_⟩⟩⟩
            rw [if_pos ca]
            exact paired_snoc ⟨p, rfl, upd_oth (fun z => by rw [z, hd1] at m; cases m) upd_same⟩ (paired_mono P1 fun _ _ q => KnAt.upd (q.mono (Same.new m)) (upd_old m hd1))
          · have ca : ¬ (h ≠ 0 ∧ r.bar = .plain ∧ hue ≠ r.hue ∧ left ≠ 0) := fun z => by
              rw [decide_eq_false z.1, decide_eq_true z.2.1, decide_eq_false z.2.2.1, decide_eq_false z.2.2.2] at c
              cases c
            exact nx _ _ ⟨rfl, S1, xs1, hd1, by rw [if_neg ca, List.append_nil]; exact P1⟩
        · generalize hy2 : (if h ≠ 0 ∧ r.bar = .plain ∧ hue ≠ r.hue ∧ left ≠ 0 then [fltC] else []) = y2 at hW
          have l2 : y2.length ≤ 1 := by rw [← hy2]; split <;> decide
          refine sseq_w (W (wrL r h hue left)) (fun D2 nx _ _ _ => ?_) (fun σ H' hW => ?_)
          · have ew : wrL r h hue left = y1 ++ (y2 ++ (if left ≠ -1 ∧ (h = 0 ∨ r.bar = .none ∨ hue = r.hue) then [fltA] else [])) := by rw [← hy1, ← hy2]; rfl
            obtain ⟨rfl, S1, xs1, hd1, P1⟩ := hW
            have ht1 := S1 _ _ ht
            have hu1 := S1 _ _ hu
            refine sif_val (!decide (left = -1) && (decide (h = 0) || (decide (r.bar = .none) || decide (hue = r.hue)))) (fun R hR => ⟨_, rfl, _, rfl, rfl, _, rfl, iteB (fun c => ⟨_, rfl, rfl, _, rfl, iteB (fun c2 => ?_) (fun c2 => ⟨_, rfl, u, _, _, _, rfl, rfl, SqT.of hu1, (row_at r).2.1, rfl, _, rfl, iteB (fun c3 => ?_) (fun c3 => ⟨_, rfl, t, _, _, _, rfl, rfl, SqT.of ht1, rfl, _, rfl, u, _, _, _, rfl, rfl, SqT.of hu1, (row_at r).1, rfl, _, rfl, ?_⟩)⟩)⟩) (fun c => ?_)⟩) (fun c => ?_) (fun c => ?_)
            · rw [dec_int] at c c2
              rw [c, c2] at hR
              simpa using hR
            · rw [dec_int] at c c2
              rw [bar_none'] at c3
              rw [c, c2, c3] at hR
              simpa using hR
            · rw [dec_int] at c c2 ⊢
              rw [bar_none'] at c3
              rw [c, c2, c3] at hR
              simpa using hR
            · rw [dec_int] at c
              rw [c] at hR
              simpa using hR
            · have ca : left ≠ -1 ∧ (h = 0 ∨ r.bar = .none ∨ hue = r.hue) := by simpa using c
              refine ⟨_, rfl, .inl ⟨rfl, _, SqL.of hd1⟩, (show (2 : Nat) ≤ sizeLine by decide), fun p m => ⟨d, _, _, rfl, rfl, upd_old m hd1, small1000 (by rw [Paired.length P1, List.length_append]; omega), nx _ _ ⟨rfl, Same.upd (same_one S1 m) nd, _, upd_same, ?_⟩⟩⟩
              rw [ew, if_pos ca, ← List.append_assoc]
              exact paired_snoc ⟨p, rfl, upd_oth (fun z => by rw [z, hd1] at m; cases m) upd_same⟩ (paired_mono P1 fun _ _ q => KnAt.upd (q.mono (Same.new m)) (upd_old m hd1))
            · have ca : ¬ (left ≠ -1 ∧ (h = 0 ∨ r.bar = .none ∨ hue = r.hue)) := fun z => by
                have : (!decide (left = -1) && (decide (h = 0) || (decide (r.bar = .none) || decide (hue = r.hue)))) = true := by simpa using z
                rw [this] at c
                cases c
              exact nx _ _ ⟨rfl, S1, xs1, hd1, by rw [ew, if_neg ca, List.append_nil]; exact P1⟩
          · obtain ⟨rfl, S1, xs1, hd1, P1⟩ := hW
            exact ⟨_, rfl, k d _ _ nd S1 P1 hd1⟩
end

end Hue

set_option Elab.async false
set_option linter.all false
set_option maxRecDepth 100000
set_option maxHeartbeats 1000000
set_option pp.maxSteps 3000
namespace Hue
open PySem PySem.Spec PyProof.Rows L2
local macro_rules | `(tactic| walk_at "hp") => `(tactic| first
  | assumption
  | exact upd_same
  | (refine upd_old (by assumption) ?_; walk_at "hp")
  | (refine upd_oth (by assumption) ?_; walk_at "hp")
  | (refine same_get (by assumption) ?_; walk_at "hp")
  | (refine Fl.get (by assumption) (by assumption) ?_; walk_at "hp"))
local macro_rules | `(tactic| walk_at "seq") => `(tactic| first
  | assumption
  | exact T.t_BARRIERS _
  | exact SqL.of (by walk_at "hp")
  | exact SqT.of (by walk_at "hp"))
local macro_rules | `(tactic| walk_at "len") => `(tactic| first
  | exact Or.inl (by walk_at "seq")
  | exact Or.inr (by walk_at "seq"))
local macro_rules | `(tactic| walk_at "at") => `(tactic| first
  | rfl
  | assumption)

/-- v is a standing of row at' -/
def StdAt (H : Hp) (at' : Int) (v : V) : Prop := ∃ (t : Addr) (h hue left : Int), v = .ref t ∧ H t = some (.tup [.int at', .int h, .int hue, .int left])
theorem StdAt.mono {H H' : Hp} {i : Int} {v : V} (h : StdAt H i v) (S : Same H H') : StdAt H' i v := by
  obtain ⟨t, a, b, c, e, q⟩ := h
  exact ⟨t, a, b, c, e, S _ _ q⟩
theorem StdAt.upd {H : Hp} {i : Int} {v : V} {d : Addr} {xs ys : List V} (h : StdAt H i v) (hd : H d = some (.lst xs)) : StdAt (L2.upd H d (.lst ys)) i v := by
  obtain ⟨t, a, b, c, e, q⟩ := h
  exact ⟨t, a, b, c, e, upd_oth (ne_of q hd (by intro z; cases z)) q⟩
def spStds : Sp := fun vs H Q _ => ∃ (a y : Addr) (at' : Int) (rs : List Ph) (ds : List Int), vs = [.ref a, .int at', .ref y] ∧ RowsAt H a rs ∧ 0 ≤ at' ∧ at' < rs.length ∧ H y = some (.lst (ds.map V.int)) ∧ ds.length ≤ 3 ∧
  ∀ p H' xs, H p = none → Same H H' → H' p = some (.lst xs) → xs.length ≤ 100 → (∀ x ∈ xs, StdAt H' at' x) → Q (.ref p) H'
theorem pair_at' {α β : Type} {F : α → β → Prop} : ∀ {l₁ : List α} {l₂ : List β} {j : Nat} {x : α}, Paired F l₁ l₂ → l₁[j]? = some x → ∃ y, l₂[j]? = some y ∧ F x y
  | _, _, j, x, .nil, h => by cases h
  | _, _, 0, x, .cons f _, h => by cases h; exact ⟨_, rfl, f⟩
  | _, _, j + 1, x, .cons _ t, h => by
    obtain ⟨y, h1, h2⟩ := pair_at' (j := j) t h
    exact ⟨y, h1, h2⟩
theorem kn_dps {K : PySem.W.Frag} {H : Hp} : ∀ {xs : List V} {ys : List (Str × Int)}, Paired (KnAt H) xs ys → DpAll K H xs (ys.map knD)
  | _, _, .nil => .nil
  | _, _, .cons ⟨p, e, h⟩ t => by
    subst e
    exact .cons (.tup (SqT.of h) (.cons (.str _) (.cons (.int _) .nil))) (kn_dps t)
def spTold (K : PySem.W.Frag) : Sp := fun vs H Q _ => ∃ (b l a t : Addr) (rs : List Ph) (at' h hue left : Int), vs = [.ref b, .ref a, .ref t] ∧ BkAt K H b l rs ∧ RowsAt H a rs ∧ H t = some (.tup [.int at', .int h, .int hue, .int left]) ∧ 0 ≤ at' ∧ at' < rs.length ∧ ∀ H', Same H H' → Q (.bl true) H'
section
variable {P : Program} [SupP P pFile] {w : World} {K : PySem.W.Frag} {mg : Str → Option Value} {base : Heap}
theorem ok_l_standings (T : Tx K mg) : FnOk P w K mg base CX0 2 (gad "_law_standings" K) (fdD K (gad "_law_standings" K)) P_l_standings spStds := by
  refine T.F_l_standings.ok sc_l_standings (fun vs H Q E h => ?_) (fun cdv A outer s H vs Q E hr h => ?_)
  · obtain ⟨a, y, at', rs, ds, rfl, _⟩ := h; rfl
  · obtain ⟨a, y, at', rs, ds, rfl, R, q2, q3, hy, hd, k⟩ := h
    refine ⟨_, PSs.nox ((pss_cons (ps_set (i := 3) sc_l_standings.nd rfl (Or.inl rfl) (pe_lst pa_nil))
      (pss_cons (ps_for PassesOwn.never rfl (pi_list (pv 2)) (pg_name (i := 4) sc_l_standings.nd rfl (Or.inl rfl)) (pss_one (ps_for PassesOwn.never rfl (pi_range1 (by rfl) T.n_range (pa_cons pe_int pa_nil)) (pg_name (i := 5) sc_l_standings.nd rfl (Or.inl rfl)) (pss_one (ps_for PassesOwn.never rfl (pi_range1 (by rfl) T.n_range (pa_cons (pe_op op_add pe_int (pe_callTy call_intB (by rfl) T.n_int (by decide +kernel) (pa_cons (pe_ix ix_tup (pe_ix ix_list (pv 0) (pv 1) (fun _ _ => rfl)) pe_int (fun _ _ => rfl)) pa_nil))) pa_nil)) (pg_name (i := 6) sc_l_standings.nd rfl (Or.inl rfl)) (pss_one (ps_expr (pe_bm PySem.F.plainAttrs_list PySem.F.slot_list_append PySem.F.type_list_append mt_append (pv 3) (pa_cons (pe_tup (pa_cons (pv 1) (pa_cons (pv 6) (pa_cons (pv 4) (pa_cons (pe_op op_sub (pv 5) pe_int) pa_nil))))) pa_nil)))))))))
      (pss_one (ps_ret (pv 3)))))), ?_⟩
    obtain ⟨ys, u, r, hx, ha, hr', okr, hu⟩ := R.row q2 q3
    refine ⟨(show (0 : Nat) ≤ sizeLine by decide), fun d nd => ?_⟩
    let W : Nat → L2.St → Hp → Prop := fun n σ H' => ∃ q4 q5 q6, σ = [some (.ref a), some (.int at'), some (.ref y), some (.ref d), q4, q5, q6] ∧ Same H H' ∧ ∃ xs, H' d = some (.lst xs) ∧ xs.length ≤ n ∧ ∀ x ∈ xs, StdAt H' at' x
    refine ⟨_, rfl, y, rfl, ⟨_, SqL.of (upd_old nd hy)⟩, for_list (xs := ds.map V.int) (fun j σ H' => W (27 * j) σ H') ⟨_, _, _, rfl, Same.new nd, [], upd_same, Nat.zero_le _, fun x hx => (by cases hx)⟩ (fun j σ H' _ ⟨_, _, _, _, S, _⟩ => SqL.of (S _ _ hy)) ?_ ?_⟩
    · rintro j x σ H1 hj ⟨q4, q5, q6, rfl, S1, xs1, hd1, l1, st1⟩
      obtain ⟨dye, hdye, rfl⟩ : ∃ c, ds[j]? = some c ∧ x = .int c := by
        rw [List.getElem?_map] at hj
        cases e : ds[j]? with
        | none => rw [e] at hj; cases hj
        | some c => rw [e] at hj; cases hj; exact ⟨c, rfl, rfl⟩
      have j3 : j < 3 := by have := (List.getElem?_eq_some_iff.mp hdye).1; omega
      refine ⟨_, rfl, by decide, by decide, for_range (n := _) (fun i σ H' => (∃ q5 q6, σ = [some (.ref a), some (.int at'), some (.ref y), some (.ref d), some (.int dye), q5, q6]) ∧ W (27 * j + 3 * i) σ H') ?_ ?_ ?_⟩
      · exact ⟨⟨_, _, rfl⟩, _, _, _, rfl, S1, xs1, hd1, by omega, st1⟩
      · rintro i σ H2 hi ⟨⟨q5, q6, rfl⟩, _, _, _, _, S2, xs2, hd2, l2, st2⟩
        have i9 : i < 9 := hi
        have b3 : ∀ b : Bool, (2 + (if b = true then (1 : Int) else 0)).toNat ≤ 3 := fun b => by cases b <;> decide
        refine ⟨_, rfl, _, rfl, a, _, _, _, rfl, rfl, SqL.of (S2 _ _ hx), ha, u, _, _, _, rfl, rfl, SqT.of (S2 _ _ hu), (row_at r).2.2.1, ?_⟩
        refine ⟨_, rfl, _, _, rfl, rfl, _, rfl, by split <;> decide, by split <;> decide, for_range (n := _) (fun m σ H' => (∃ q6, σ = [some (.ref a), some (.int at'), some (.ref y), some (.ref d), some (.int dye), some (.int (0 + (i : Nat))), q6]) ∧ W (27 * j + 3 * i + m) σ H') ?_ ?_ ?_⟩
        · exact ⟨⟨_, rfl⟩, _, _, _, rfl, S2, xs2, hd2, l2, st2⟩
        · rintro m σ H3 hm ⟨⟨q6, rfl⟩, _, _, _, _, S3, xs3, hd3, l3, st3⟩
          have hm3 : m < 3 := Nat.lt_of_lt_of_le hm (b3 r.vis)
          refine ⟨_, rfl, .inl ⟨rfl, _, SqL.of hd3⟩, _, rfl, _, rfl, _, rfl, _, rfl, _, _, rfl, rfl, (show (4 : Nat) ≤ sizeLine by decide), fun p mp => ⟨d, _, _, rfl, rfl, upd_old mp hd3, small1000 (by omega), ?_⟩⟩
          have neD : p ≠ d := fun z => by rw [z, hd3] at mp; cases mp
          refine ⟨⟨_, rfl⟩, _, _, _, rfl, Same.upd (same_one S3 mp) nd, _, upd_same, by rw [List.length_append]; show _ + 1 ≤ _; omega, fun x hx => ?_⟩
          rcases List.mem_append.mp hx with z | z
          · exact StdAt.upd ((st3 x z).mono (Same.new mp)) (upd_old mp hd3)
          · rw [List.mem_singleton.mp z]
            exact ⟨p, _, _, _, rfl, upd_oth neD upd_same⟩
        · rintro σ H3 ⟨⟨q6, rfl⟩, _, _, _, _, S3, xs3, hd3, l3, st3⟩
          have := b3 r.vis
          refine ⟨⟨_, _, rfl⟩, _, _, _, rfl, S3, xs3, hd3, ?_, st3⟩
          refine Nat.le_trans l3 ?_
          have e : 3 * (i + 1) = 3 * i + 3 := by omega
          rw [e]
          refine Nat.le_trans (Nat.add_le_add_left (b3 r.vis) _) ?_
          omega
      · rintro σ H2 ⟨⟨q5, q6, rfl⟩, _, _, _, _, S2, xs2, hd2, l2, st2⟩
        have l2 : xs2.length ≤ 27 * j + 3 * 9 := l2
        exact ⟨_, _, _, rfl, S2, xs2, hd2, by omega, st2⟩
    · rintro σ H1 ⟨q4, q5, q6, rfl, S1, xs1, hd1, l1, st1⟩
      rw [List.length_map] at l1
      exact ⟨_, rfl, k d _ _ nd S1 hd1 (by omega) st1⟩
theorem ok_l_told (T : Tx K mg) : FnOk P w K mg base CX0 9 (gad "_law_told" K) (fdD K (gad "_law_told" K)) P_l_told (spTold K) := by
  refine T.F_l_told.ok sc_l_told (fun vs H Q E h => ?_) (fun cdv A outer s H vs Q E hr h => ?_)
  · obtain ⟨b, l, a, t, rs, at', h, hue, left, rfl, _⟩ := h; rfl
  · obtain ⟨b, l, a, t, rs, at', h, hue, left, rfl, B, R, ht, q2, q3, k⟩ := h
    refine ⟨_, PSs.nox ((pss_cons (ps_set (i := 3) sc_l_told.nd rfl (Or.inl rfl) (pe_call (ok_wrongs_of (P := P) T) (hr.mono (by decide)) rfl T.g_wrongs_of T.F_wrongs_of.kp (bd_wrongs_of T) .nil pass0 (pa_cons (pv 0) (pa_cons (pv 2) pa_nil))))
      (pss_cons (ps_if (pt_not (pt_val (pe_callB call_isi (by rfl) T.n_isinstance (by decide +kernel) (pa_cons (pv 3) (pa_cons (pe_bty "list" rfl T.n_list (by decide +kernel)) pa_nil))))) (pss_one (ps_ret pe_bl)) pss_nil)
      (pss_cons (ps_for PassesOwn.never rfl (pi_list (pv 3)) (pg_name (i := 4) sc_l_told.nd rfl (Or.inl rfl)) (pss_one (ps_if (PW.pt (pw_or (pt_not (pt_val (pe_callB call_isi (by rfl) T.n_isinstance (by decide +kernel) (pa_cons (pv 4) (pa_cons (pe_bty "tuple" rfl T.n_tuple (by decide +kernel)) pa_nil))))) (pw_or (pt_cmpR op_ne (pe_callB call_len_seq (by rfl) T.n_len (by decide +kernel) (pa_cons (pv 4) pa_nil)) pe_int (nomark _)) (pw_or (pt_not (pt_val (pe_callB call_isi (by rfl) T.n_isinstance (by decide +kernel) (pa_cons (pe_ix ix_tup (pv 4) pe_int (fun _ _ => rfl)) (pa_cons (pe_bty "str" rfl T.n_str (by decide +kernel)) pa_nil))))) (pw_or1 (pt_not (pt_val (pe_call (ok_l_int (P := P) T) (hr.mono (by decide)) rfl T.g_l_int T.F_l_int.kp (bd_l_int T) .nil pass0 (pa_cons (pe_ix ix_tup (pv 4) pe_int (fun _ _ => rfl)) pa_nil))))))))) (pss_one (ps_ret pe_bl)) pss_nil)))
      (pss_cons (ps_if (pt_cmpR (op_neD hr.units) (pv 3) (pe_call (ok_l_wrongs (P := P) T) (hr.mono (by decide)) rfl T.g_l_wrongs T.F_l_wrongs.kp (bd_l_wrongs T) .nil pass0 (pa_cons (pv 1) (pa_cons (pv 2) pa_nil))) (nomark _)) (pss_one (ps_ret pe_bl)) pss_nil)
      (pss_cons (ps_expr (pe_bm PySem.F.plainAttrs_list PySem.F.slot_list_append PySem.F.type_list_append mt_append (pv 3) (pa_cons (pe_tup (pa_cons pe_str (pa_cons pe_int pa_nil))) pa_nil)))
      (pss_one (ps_ret pe_bl)))))))), ?_⟩
    obtain ⟨ys, u, r, hx, ha, hr', okr, hu⟩ := R.row q2 q3
    refine ⟨_, rfl, _, rfl, b, l, t, rs, at', h, hue, left, r, rfl, B, ht, hr', q2, q3, fun p H1 xs np S1 PX hp => ?_⟩
    refine ⟨_, rfl, _, _, .type "list", .type "list", true, rfl, .ty _, .base (.lst hp), kit_ty (by decide +kernel), _, rfl, iteF ?_⟩
    have lx : xs.length ≤ 3 := by
      rw [Paired.length PX]
      unfold wrL
      split <;> split <;> split <;> decide
    refine ⟨_, rfl, p, rfl, ⟨_, SqL.of hp⟩, for_list (xs := xs) (fun j σ H' => ∃ q, σ = [some (.ref b), some (.ref a), some (.ref t), some (.ref p), q] ∧ Same H1 H') ⟨_, rfl, Same.refl _⟩ (fun j σ H' _ ⟨_, _, S⟩ => SqL.of (S _ _ hp)) ?_ ?_⟩
    · rintro j x σ H2 hj ⟨q, rfl, S2⟩
      obtain ⟨y, hy, pk⟩ := pair_at' PX hj
      obtain ⟨pt, rfl, hpt⟩ := pk
      have hpt2 := S2 _ _ hpt
      refine ⟨_, rfl, _, _, .type "tuple", .type "tuple", true, rfl, .ty _, .base (.tup hpt2), kit_ty (by decide +kernel), _, rfl, iteF ?_⟩
      refine ⟨_, rfl, pt, _, rfl, .inr (SqT.of hpt2), rfl, _, rfl, iteF ?_⟩
      refine ⟨_, rfl, pt, _, _, _, rfl, rfl, SqT.of hpt2, rfl, _, _, .type "str", .type "str", true, rfl, .ty _, .base (.str _), kit_ty (by decide +kernel), _, rfl, iteF ?_⟩
      exact ⟨_, rfl, pt, _, _, _, rfl, rfl, SqT.of hpt2, rfl, _, rfl, _, rfl, iteF ⟨_, rfl, S2⟩⟩
    · rintro σ H2 ⟨q, rfl, S2⟩
      have S12 := S1.trans S2
      refine ⟨_, rfl, _, rfl, _, rfl, a, t, rs, at', h, hue, left, r, rfl, R.mono S12, S12 _ _ ht, hr', q2, q3, fun p2 H3 xs2 np2 S3 PX2 hp2 => ?_⟩
      have S13 := S2.trans S3
      have PX3 : Paired (KnAt H3) xs (wrL r h hue left) := paired_mono PX fun _ _ q => q.mono S13
      have hp3 := S13 _ _ hp
      have sh : SeqAt.shaped (.list ((wrL r h hue left).map knD)) = true := by
        unfold wrL
        split <;> split <;> split <;> decide +kernel
      have ev : (!PyData.eqv (.list ((wrL r h hue left).map knD)) (.list ((wrL r h hue left).map knD))) = false := by
        unfold wrL
        split <;> split <;> split <;> decide +kernel
      refine ⟨.list ((wrL r h hue left).map knD), .list ((wrL r h hue left).map knD), .lst (SqL.of hp3) (kn_dps PX3), .lst (SqL.of hp2) (kn_dps PX2), sh, sh, _, rfl, iteE ev ?_⟩
      refine ⟨_, rfl, .inl ⟨rfl, _, SqL.of hp3⟩, (show (2 : Nat) ≤ sizeLine by decide), fun p4 m4 => ⟨p, _, _, rfl, rfl, upd_old m4 hp3, small1000 (by omega), ?_⟩⟩
      exact k _ (Same.upd (same_one (S1.trans S13) m4) np)
end

end Hue

set_option Elab.async false
set_option linter.all false
set_option maxRecDepth 100000
set_option maxHeartbeats 4000000
namespace Hue
open PySem PySem.Spec PyProof.Rows L2
local macro_rules | `(tactic| walk_at "hp") => `(tactic| first
  | assumption
  | exact upd_same
  | (refine upd_old (by assumption) ?_; walk_at "hp")
  | (refine upd_oth (by assumption) ?_; walk_at "hp")
  | (refine same_get (by assumption) ?_; walk_at "hp")
  | (refine Fl.get (by assumption) (by assumption) ?_; walk_at "hp"))
local macro_rules | `(tactic| walk_at "seq") => `(tactic| first
  | assumption
  | exact T.t_BARRIERS _
  | exact SqL.of (by walk_at "hp")
  | exact SqT.of (by walk_at "hp"))
local macro_rules | `(tactic| walk_at "len") => `(tactic| first
  | exact Or.inl (by walk_at "seq")
  | exact Or.inr (by walk_at "seq"))
local macro_rules | `(tactic| walk_at "at") => `(tactic| first
  | rfl
  | assumption)

/-! ### the six lowest bits -/
def pw (h : Int) : Int := 2 ^ h.toNat
theorem pw_lt {h : Int} (h0 : 0 ≤ h) (h1 : h < 6) : 0 ≤ pw h ∧ pw h < 64 := by
  rcases (by omega : h = 0 ∨ h = 1 ∨ h = 2 ∨ h = 3 ∨ h = 4 ∨ h = 5) with rfl | rfl | rfl | rfl | rfl | rfl <;> decide
abbrev pwVs : List V := [V.int 1, V.int 2, V.int 4, V.int 8, V.int 16, V.int 32]
theorem at_pw {h : Int} (h0 : 0 ≤ h) (h1 : h < 6) : atI pwVs h = some (.int (pw h)) := by
  rcases (by omega : h = 0 ∨ h = 1 ∨ h = 2 ∨ h = 3 ∨ h = 4 ∨ h = 5) with rfl | rfl | rfl | rfl | rfl | rfl <;> rfl

/-! ### rows with other hues, made by a comprehension -/
theorem cut15 (r : Ph) : cutV r.vs (some 1) none = [.str r.bar.s, .bl r.vis, .bl r.pau, .int r.std, .bl r.skp] := rfl
/-- (c,) + row[1:] -/
theorem elt_dye {K : PySem.W.Frag} {te1 te2 : TE} {σ : L2.St} {H : Hp} {Q : VK} {c : Int} {u : Addr} {q : Ph} (h1 : ∀ (H1 : Hp) (R : VK), Same H H1 → R (.int c) H1 → te1 σ H1 R) (h2 : ∀ (H1 : Hp) (R : VK), Same H H1 → R (.ref u) H1 → te2 σ H1 R)
    (hu : H u = some (.tup q.vs)) (k : ∀ p H', H p = none → Same H H' → H' p = some (.tup (q.dye c).vs) → Q (.ref p) H') :
    tOp (rCatT K) (tTup (tCons te1 tNil)) (tSl (rSlT K) te2 (tPart (tC (.int 1))) tNoPart) σ H Q := by
  refine h1 _ _ (Same.refl _) ⟨(show (1 : Nat) ≤ sizeLine by decide), fun p1 n1 => ?_⟩
  refine h2 _ _ (Same.new n1) ⟨_, rfl, u, _, rfl, SqT.of (upd_old n1 hu), (show ¬ ((1 : Nat) = 0 ∧ (6 : Nat) = 6) by decide), fun p2 n2 => ?_⟩
  refine catT 0 4 (SqT.of (upd_old n2 upd_same)) (SqT.of upd_same) rfl rfl (by decide) fun p3 n3 => ?_
  have S3 := same3 (z := .tup ([V.int c] ++ cutV q.vs (some 1) none)) n1 n2 n3
  exact k p3 _ ((same2 n1 n2).free n3) S3 upd_same
theorem dyed_lc {te : TE} {vs : List Nat} {σ : L2.St} {H1 : Hp} {D : Addr} {Qd : Hp → Prop} {k n : Nat} {rs : List Ph} {hs : List Int} (hn : n = rs.length) (el : hs.length = rs.length) (n6 : rs.length ≤ 6) (ok : ∀ r ∈ rs, r.Ok) (gg : HuesOk hs) (nD : H1 D = none)
    (hw : ∀ x, wipe ((wipe σ vs).set k (some x)) vs = wipe σ vs)
    (hte : ∀ (i : Nat) (r : Ph) (c : Int) (H' : Hp) (Q : VK), rs[i]? = some r → hs[i]? = some c → Same H1 H' → (∀ p H2, H' p = none → Same H' H2 → H2 p = some (.tup (r.dye c).vs) → Q (.ref p) H2) → te ((wipe σ vs).set k (some (.int (i : Nat)))) H' Q)
    (hd : ∀ H', RowsAt H' D (dyeAll rs hs) → Same H1 H' → Qd H') :
    ∃ W : Nat → Nat → Hp → Prop, (∃ m, W 0 m (upd H1 D (.lst []))) ∧ ∀ i m H, W i m H →
      ((Itr 0 n).stop i H ∧ Qd H) ∨ ((Itr 0 n).go i H ∧ ∃ Nx : Hp → Prop, (∀ H', Nx H' → ∃ m', m' < m ∧ W (i + 1) m' H') ∧ ∀ x H', (Itr 0 n).yld i H x H' → gName k x (wipe σ vs) H' fun σ2 H2 => wipe σ2 vs = wipe σ vs ∧ tYes σ2 H2 fun b H3 =>
        if b = true then te σ2 H3 fun y H4 => ∃ acc, H4 D = some (.lst acc) ∧ acc.length < sizeLine ∧ Nx (upd H4 D (.lst (acc ++ [y]))) else Nx H3) := by
  have ld := dyeAll_len el
  refine lc_range (lo := 0) (n := n) (fun i H' => RowsAt H' D ((dyeAll rs hs).take i) ∧ Same H1 H') ⟨RowsAt.nil, Same.new nD⟩ ?_ ?_
  · rintro i H2 hi ⟨RY, S2⟩
    obtain ⟨r, hr, hm⟩ := mem_get (show i < rs.length by omega)
    obtain ⟨c, hc, hcm⟩ := mem_get (show i < hs.length by omega)
    have e0 : (0 + (i : Int)) = ((i : Nat) : Int) := by omega
    refine ⟨hw _, yesT (iteT ?_)⟩
    rw [e0]
    refine hte i r c H2 _ hr hc S2 fun p H3 np S3 hp => ?_
    obtain ⟨zs, q1, q2, q3⟩ := (RY.mono S3).snoc (r := r.dye c) hp ((ok r hm).dye (gg c hcm))
    rw [List.length_take] at q2
    refine ⟨zs, q1, small1000 (by omega), ?_, Same.upd (S2.trans S3) nD⟩
    rw [take_snoc (dyeAll_at hr hc)]
    exact q3
  · rintro H2 ⟨RY, S2⟩
    rw [hn, ← ld, List.take_length] at RY
    exact hd H2 RY S2

def spLaw (K : PySem.W.Frag) : Sp := fun vs H Q _ => ∃ (a : Addr) (ns : List Int), vs = [.ref a] ∧ SqL K H a (ns.map V.int) ∧ ns.length ≤ 63 ∧ ∀ H', Q (.bl true) H'
section
variable {P : Program} [SupP P pFile] {w : World} {K : PySem.W.Frag} {mg : Str → Option Value} {base : Heap}
theorem ok_law (T : Tx K mg) : FnOk P w K mg base CX0 12 (gad "law" K) (fdD K (gad "law" K)) P_law (spLaw K) := by
  refine T.F_law.ok sc_law (fun vs H Q E h => ?_) (fun cdv A outer s H vs Q E hr h => ?_)
  · obtain ⟨a, ns, rfl, _⟩ := h; rfl
  · obtain ⟨sa, ns, rfl, hS, hlen, k⟩ := h
    refine ⟨_, PSs.nox ((pss_cons (ps_set (i := 1) sc_law.nd rfl (Or.inr rfl) (pe_call (ok_l_pool (P := P) T) (hr.mono (by decide)) rfl T.g_l_pool T.F_l_pool.kp (bd_l_pool T) .nil pass0 (pa_cons (pv 0) pa_nil)))
      (pss_cons (ps_set (i := 2) sc_law.nd rfl (Or.inl rfl) (pe_call (ok_l_rows (P := P) T) (hr.mono (by decide)) rfl T.g_l_rows T.F_l_rows.kp (bd_l_rows T) .nil pass0 (pa_cons (pv 1) (pa_cons pe_int pa_nil))))
      (pss_cons (ps_set (i := 3) sc_law.nd rfl (Or.inl rfl) (pe_call (ok_l_raw (P := P) T) (hr.mono (by decide)) rfl T.g_l_raw T.F_l_raw.kp (bd_l_raw T) .nil pass0 (pa_cons (pv 1) pa_nil)))
      (pss_cons (ps_set (i := 4) sc_law.nd rfl (Or.inl rfl) (pe_call (ok_l_take (P := P) T) (hr.mono (by decide)) rfl T.g_l_take T.F_l_take.kp (bd_l_take T) .nil pass0 (pa_cons (pv 1) (pa_cons (pe_callB call_len_seq (by rfl) T.n_len (by decide +kernel) (pa_cons (pv 2) pa_nil)) pa_nil))))
      (pss_cons (ps_set (i := 5) sc_law.nd rfl (Or.inl rfl) (pe_call (ok_l_take (P := P) T) (hr.mono (by decide)) rfl T.g_l_take T.F_l_take.kp (bd_l_take T) .nil pass0 (pa_cons (pv 1) (pa_cons pe_int pa_nil))))
      (pss_cons (ps_set (i := 6) sc_law.nd rfl (Or.inl rfl) (pe_call (ok_l_book (P := P) T) (hr.mono (by decide)) rfl T.g_l_book T.F_l_book.kp (bd_l_book T) .nil pass0 (pa_cons (pv 2) pa_nil)))
      (pss_cons (ps_for PassesOwn.never rfl (pi_list (pe_call (ok_l_standings (P := P) T) (hr.mono (by decide)) rfl T.g_l_standings T.F_l_standings.kp (bd_l_standings T) .nil pass0 (pa_cons (pv 2) (pa_cons (pv 4) (pa_cons (pe_lst (pa_cons (pe_ix ix_tup (pe_ix ix_list (pv 2) (pv 4) (fun _ _ => rfl)) pe_int (fun _ _ => rfl)) (pa_cons (pv 5) pa_nil))) pa_nil))))) (pg_name (i := 7) sc_law.nd rfl (Or.inl rfl)) (pss_one (ps_if (pt_not (pt_val (pe_call (ok_l_told (P := P) T) (hr.mono (by decide)) rfl T.g_l_told T.F_l_told.kp (bd_l_told T) .nil pass0 (pa_cons (pv 6) (pa_cons (pv 2) (pa_cons (pv 7) pa_nil)))))) (pss_one (ps_ret pe_bl)) pss_nil)))
      (pss_cons (ps_asg (pe_call (ok_l_phase (P := P) T) (hr.mono (by decide)) rfl T.g_l_phase T.F_l_phase.kp (bd_l_phase T) .nil pass0 (pa_cons (pv 3) pa_nil)) (pg_sub (pv 6) (pv 4) (set_own T.o_Book_setitem (fr_Book_setitem (P := P) T) (hr.mono (by decide)) pass0)))
      (pss_cons (ps_set (i := 8) sc_law.nd rfl (Or.inr rfl) (pe_op op_cat (pe_op op_cat (pe_slice sl_list (pv 2) po_none (po_some (pv 4))) (pe_lst (pa_cons (pv 3) pa_nil))) (pe_slice sl_list (pv 2) (po_some (pe_op op_add (pv 4) pe_int)) po_none)))
      (pss_cons (ps_for PassesOwn.never rfl (pi_list (pe_call (ok_l_standings (P := P) T) (hr.mono (by decide)) rfl T.g_l_standings T.F_l_standings.kp (bd_l_standings T) .nil pass0 (pa_cons (pv 8) (pa_cons (pv 4) (pa_cons (pe_lst (pa_cons (pe_ix ix_tup (pv 3) pe_int (fun _ _ => rfl)) (pa_cons (pv 5) (pa_cons (pe_op op_mod (pe_callTy call_intI (by rfl) T.n_int (by decide +kernel) (pa_cons (pe_op op_add (pe_ix ix_tup (pv 3) pe_int (fun _ _ => rfl)) pe_int) pa_nil)) pe_int) pa_nil)))) pa_nil))))) (pg_name (i := 7) sc_law.nd rfl (Or.inl rfl)) (pss_one (ps_if (PW.pt (pw_or (pt_not (pt_val (pe_call (ok_l_told (P := P) T) (hr.mono (by decide)) rfl T.g_l_told T.F_l_told.kp (bd_l_told T) .nil pass0 (pa_cons (pv 6) (pa_cons (pv 8) (pa_cons (pv 7) pa_nil)))))) (pw_or1 (pt_not (pt_val (pe_call (ok_l_told (P := P) T) (hr.mono (by decide)) rfl T.g_l_told T.F_l_told.kp (bd_l_told T) .nil pass0 (pa_cons (pv 6) (pa_cons (pv 8) (pa_cons (pv 7) pa_nil))))))))) (pss_one (ps_ret pe_bl)) pss_nil)))
      (pss_cons (ps_if (pt_cmpR op_ne (pe_prop (pv 6) T.c_Book T.p_Book_text (ok_Book_text (P := P) T) (hr.mono (by decide)) (bd_Book_text T) .nil pass0 rfl) (pe_prop (pe_call (ok_l_book (P := P) T) (hr.mono (by decide)) rfl T.g_l_book T.F_l_book.kp (bd_l_book T) .nil pass0 (pa_cons (pv 8) pa_nil)) T.c_Book T.p_Book_text (ok_Book_text (P := P) T) (hr.mono (by decide)) (bd_Book_text T) .nil pass0 rfl) (nomark _)) (pss_one (ps_ret pe_bl)) pss_nil)
      (pss_cons (ps_set (i := 9) sc_law.nd rfl (Or.inr rfl) (pe_lc (own := [("_law_row", 11)]) (g := gName 11) (tt := tYes) rfl sc_law.nd (pi_list (pv 2)) (blkOk_by (own := [("_law_row", 11)]) (N := N_law) (sc := defScope s_law) (by decide +kernel)) (fun _ _ _ _ _ => (pg_name (i := 11) sc_law.nd rfl (Or.inl rfl))) (fun _ _ _ _ _ => pts_nil) (fun _ _ _ _ _ => (pe_call (ok_l_take (P := P) T) (hr.mono (by decide)) rfl T.g_l_take T.F_l_take.kp (bd_l_take T) .nil pass0 (pa_cons (pv 1) (pa_cons pe_int pa_nil))))))
      (pss_cons (ps_if (pt_cmpR op_notN (pe_call (ok_l_recolour (P := P) T) (hr.mono (by decide)) rfl T.g_l_recolour T.F_l_recolour.kp (bd_l_recolour T) .nil pass0 (pa_cons (pv 6) (pa_cons (pv 9) pa_nil))) pe_non (nomark _)) (pss_one (ps_ret pe_bl)) pss_nil)
      (pss_cons (ps_setLc (i := 10) (own := [("_law_k", 12)]) (g := gName 12) (tt := tYes) rfl sc_law.nd rfl rfl (sw_true rfl rfl rfl (by decide +kernel)) (pi_range1 (by rfl) T.n_range (pa_cons (pe_callB call_len_seq (by rfl) T.n_len (by decide +kernel) (pa_cons (pv 2) pa_nil)) pa_nil)) (blkOk_by (own := [("_law_k", 12)]) (N := N_law) (sc := defScope s_law) (by decide +kernel)) (fun _ _ _ _ _ => (pg_name (i := 12) sc_law.nd rfl (Or.inl rfl))) (fun _ _ _ _ _ => pts_nil) (fun _ _ _ _ _ => (pe_op (op_catTK (K := K) rfl) (pe_tup (pa_cons (pe_ix (ix_listK (K := K) rfl) (pv 9) (pv 12) (fun _ _ => rfl)) pa_nil)) (pe_slice (sl_tupK (K := K) rfl) (pe_ix (ix_listK (K := K) rfl) (pv 8) (pv 12) (fun _ _ => rfl)) (po_some pe_int) po_none))))
      (pss_cons (ps_for PassesOwn.never rfl (pi_list (pe_call (ok_l_standings (P := P) T) (hr.mono (by decide)) rfl T.g_l_standings T.F_l_standings.kp (bd_l_standings T) .nil pass0 (pa_cons (pv 10) (pa_cons (pv 4) (pa_cons (pe_lst (pa_cons (pe_ix ix_tup (pv 3) pe_int (fun _ _ => rfl)) (pa_cons (pe_ix ix_list (pv 9) (pv 4) (fun _ _ => rfl)) pa_nil))) pa_nil))))) (pg_name (i := 7) sc_law.nd rfl (Or.inl rfl)) (pss_one (ps_if (pt_not (pt_val (pe_call (ok_l_told (P := P) T) (hr.mono (by decide)) rfl T.g_l_told T.F_l_told.kp (bd_l_told T) .nil pass0 (pa_cons (pv 6) (pa_cons (pv 10) (pa_cons (pv 7) pa_nil)))))) (pss_one (ps_ret pe_bl)) pss_nil)))
      (pss_one (ps_ret (pe_cmpR op_eq (pe_prop (pv 6) T.c_Book T.p_Book_text (ok_Book_text (P := P) T) (hr.mono (by decide)) (bd_Book_text T) .nil pass0 rfl) (pe_prop (pe_call (ok_l_book (P := P) T) (hr.mono (by decide)) rfl T.g_l_book T.F_l_book.kp (bd_l_book T) .nil pass0 (pa_cons (pv 10) pa_nil)) T.c_Book T.p_Book_text (ok_Book_text (P := P) T) (hr.mono (by decide)) (bd_Book_text T) .nil pass0 rfl) (nomark _)))))))))))))))))))), ?_⟩
    refine ⟨_, rfl, sa, ns, rfl, hS, hlen, fun l H1 nl S1 P1 => ?_⟩
    refine ⟨_, rfl, l, 6, rfl, P1, by decide, by decide, fun rs0 a0 H2 R0 m1 m6 na0 al0 f2 P2 => ?_⟩
    refine ⟨_, rfl, l, rfl, P2, fun r t H3 ok nt tl f3 P3 ht => ?_⟩
    have R3 := R0.fl f3 al0 P2
    obtain ⟨xs3, hx3, el3⟩ := R3.len
    refine ⟨_, rfl, _, rfl, _, _, rfl, .inl (SqL.of hx3), l, _, rfl, P3, (by show (0 : Int) < ((xs3.length : Nat) : Int); omega), fun at' H4 t0 t1 f4 P4 => ?_⟩
    refine ⟨_, rfl, l, 6, rfl, P4, by decide, fun dy H5 k0 k1 f5 P5 => ?_⟩
    have R4 := R3.fl f4 al0 P3
    have R5 := R4.fl f5 al0 P4
    have ht5 := f5 _ _ tl (f4 _ _ tl ht)
    have at1 : at' < rs0.length := by rw [← el3]; exact t1
    refine ⟨_, rfl, a0, rs0, rfl, R5, by omega, by omega, fun b bl H7 nb nbl S7 B7 => ?_⟩
    have R7 := R5.mono S7
    obtain ⟨ys7, u7, r7, hx7, ha7, hr7, ok7, hu7⟩ := R7.row t0 at1
    refine ⟨_, rfl, _, rfl, _, rfl, _, rfl, a0, _, _, _, rfl, rfl, SqL.of hx7, ha7, u7, _, _, _, rfl, rfl, SqT.of hu7, (row_at r7).1, _, rfl, (show (2 : Nat) ≤ sizeLine by decide), fun y ny => ⟨a0, y, at', rs0, [r7.hue, dy], rfl, R7.mono (Same.new ny), t0, at1, upd_same, (show (2 : Nat) ≤ 3 by decide), fun p H8 xs np S8 hp lx st => ?_⟩⟩
    have S78 : Same H7 H8 := (Same.new ny).trans S8
    obtain ⟨xsr, hxr, elr⟩ := R5.len
    have abl : a0 ≠ bl := ne_of_none hxr nbl
    obtain ⟨ns5, hl5, hz5⟩ := id P5
    have lbl : l ≠ bl := ne_of_none hl5 nbl
    have n6 : rs0.length ≤ 6 := by omega
    refine ⟨p, rfl, ⟨_, SqL.of hp⟩, for_list (xs := xs) (fun j σ H' => ∃ q, σ = [some (.ref sa), some (.ref l), some (.ref a0), some (.ref t), some (.int at'), some (.int dy), some (.ref b), q, none, none, none, none, none] ∧ Same H8 H') ⟨_, rfl, Same.refl _⟩ (fun j σ H' _ ⟨_, _, S⟩ => SqL.of (S _ _ hp)) ?_ ?_⟩
    · rintro j x σ H9 hj ⟨q, rfl, S9⟩
      obtain ⟨tt, h, hue, left, rfl, htt⟩ := st x (List.mem_of_getElem? hj)
      exact ⟨_, rfl, _, rfl, _, rfl, b, bl, a0, tt, rs0, at', h, hue, left, rfl, (B7.mono S78).mono S9, (R7.mono S78).mono S9, S9 _ _ htt, t0, at1, fun H10 S10 => ⟨_, rfl, iteF ⟨_, rfl, S9.trans S10⟩⟩⟩
    rintro σ H9 ⟨q, rfl, S9⟩
    have S79 := S78.trans S9
    have B9 := B7.mono S79
    have R9 := R7.mono S79
    have ht9 := S79 _ _ (S7 _ _ ht5)
    have hl9 := S79 _ _ (S7 _ _ hl5)
    refine ⟨_, rfl, t, r, rfl, ht9, ok, fun x H10 nx S10 hx => ?_⟩
    have B10 := B9.mono S10
    have R10 := R9.mono S10
    obtain ⟨dx, hb10⟩ := B10.bk
    obtain ⟨as10, hl10, _⟩ := B10.ph
    refine ⟨_, rfl, _, rfl, b, dx, _, rfl, hb10, b, bl, x, rs0, at', r, rfl, B10, hx, ok, fun H11 f11 B11 => ?_⟩
    have em : at' % (rs0.length : Int) = at' := Int.emod_eq_of_lt t0 (by omega)
    rw [em] at B11
    have R11 := R10.keep f11 abl hl10
    have ht11 := f11 _ _ (ne_of (S10 _ _ ht9) hl10 (by intro z; cases z)) (S10 _ _ ht9)
    have P11 : PoolAt H11 l := ⟨ns5, f11 _ _ lbl (S10 _ _ hl9), hz5⟩
    refine later_ok (i := 2) (j := 4) (k := 3) rfl rfl rfl R11 t0 at1 n6 ht11 ok (fun D H12 nD S12 RD => ?_)
    have le : (rs0.set at'.toNat r).length = rs0.length := List.length_set ..
    generalize hrs : rs0.set at'.toNat r = rs2 at B11 RD le
    have B12 := B11.mono S12
    have lr2 : rs2.length = rs0.length := le
    obtain ⟨ysD, uD, rD, hxD, haD, hrD, okD, huD⟩ := RD.row t0 (by rw [lr2]; exact at1)
    have ht12 := S12 _ _ ht11
    refine ⟨_, rfl, _, rfl, _, rfl, t, _, _, _, rfl, rfl, SqT.of ht12, (row_at r).1, _, rfl, _, rfl, t, _, _, _, rfl, rfl, SqT.of ht12, (row_at r).1, _, _, rfl, rfl, _, rfl, _, _, rfl, rfl, (show (0 : Int) < 6 by decide), (show (3 : Nat) ≤ sizeLine by decide), fun y2 ny2 => ⟨D, y2, at', rs2, [r.hue, dy, (r.hue + 1) % 6], rfl, RD.mono (Same.new ny2), t0, by rw [lr2]; exact at1, upd_same, (show (3 : Nat) ≤ 3 by decide), fun p2 H13a xs2 np2 S13a hp2 lx2 st2 => ?_⟩⟩
    have S13b : Same H12 H13a := (Same.new ny2).trans S13a
    refine ⟨p2, rfl, ⟨_, SqL.of hp2⟩, for_list (xs := xs2) (fun j σ H' => ∃ q, σ = [some (.ref sa), some (.ref l), some (.ref a0), some (.ref t), some (.int at'), some (.int dy), some (.ref b), q, some (.ref D), none, none, none, none] ∧ Same H13a H') ⟨_, rfl, Same.refl _⟩ (fun j σ H' _ ⟨_, _, S⟩ => SqL.of (S _ _ hp2)) ?_ ?_⟩
    · rintro j x σ H14 hj ⟨q, rfl, S14⟩
      obtain ⟨tt, h, hue, left, rfl, htt⟩ := st2 x (List.mem_of_getElem? hj)
      have at2 : at' < rs2.length := by rw [lr2]; exact at1
      refine ⟨_, rfl, _, rfl, _, rfl, b, bl, D, tt, rs2, at', h, hue, left, rfl, (B12.mono S13b).mono S14, (RD.mono S13b).mono S14, S14 _ _ htt, t0, at2, fun H15 S15 => ⟨_, rfl, iteF ?_⟩⟩
      exact ⟨_, rfl, _, rfl, _, rfl, b, bl, D, tt, rs2, at', h, hue, left, rfl, ((B12.mono S13b).mono S14).mono S15, ((RD.mono S13b).mono S14).mono S15, S15 _ _ (S14 _ _ htt), t0, at2, fun H16 S16 => ⟨_, rfl, iteF ⟨_, rfl, (S14.trans S15).trans S16⟩⟩⟩
    rintro σ H13 ⟨q2, rfl, S13c⟩
    have S13 := S13b.trans S13c
    have B13 := B12.mono S13
    have RD13 := RD.mono S13
    obtain ⟨dx13, hb13⟩ := B13.bk
    refine ⟨_, rfl, b, dx13, _, rfl, hb13, b, bl, rs2, rfl, B13, fun H14 S14 => ?_⟩
    have B14 := B13.mono S14
    have RD14 := RD13.mono S14
    refine ⟨_, rfl, D, rs2, rfl, RD14, by omega, by omega, fun b2 bl2 H15 nb2 nbl2 S15 B15 => ?_⟩
    obtain ⟨dx15, hb15⟩ := B15.bk
    refine ⟨b2, dx15, _, rfl, hb15, b2, bl2, rs2, rfl, B15, fun H16 S16 => ⟨rfl, _, rfl, iteE (by simp) ?_⟩⟩
    have B16 := (B14.mono S15).mono S16
    have RD16 := (RD14.mono S15).mono S16
    have S1116 := (((S12.trans S13).trans S14).trans S15).trans S16
    have R16 := R11.mono S1116
    obtain ⟨ns11, hl11, hz11⟩ := id P11
    have P16 : PoolAt H16 l := ⟨ns11, S1116 _ _ hl11, hz11⟩
    obtain ⟨xs16, hx16, el16⟩ := R16.len
    refine ⟨_, rfl, a0, rfl, ⟨_, SqL.of hx16⟩, fun G nG => ?_⟩
    have Gl : G ≠ l := P16.ne nG
    refine lc_list (K := K) (a := a0) (xs := xs16) (fun i H' => ∃ hs : List Int, H' G = some (.lst (hs.map V.int)) ∧ hs.length = i ∧ HuesOk hs ∧ Fl l H16 H' ∧ PoolAt H' l) ⟨[], upd_same, rfl, (by intro h z; cases z), Fl.new nG, P16.upd nG⟩ (fun i H' _ ⟨_, _, _, _, f, _⟩ => SqL.of (f _ _ al0 hx16)) ?_ ?_
    · rintro i y H17 hi ⟨hs, hG, hl', g, f17, P17⟩
      have i60 : i < 6 := by have := (List.getElem?_eq_some_iff.mp hi).1; omega
      refine ⟨rfl, ?_⟩
      refine yesT (iteT ?_)
      refine ⟨_, rfl, l, 6, rfl, P17, by decide, fun v H18 v0 v1 f18 P18 => ?_⟩
      have hG18 := f18 _ _ Gl hG
      refine ⟨_, hG18, small1000 (by rw [List.length_map]; omega), hs ++ [v], by rw [upd_same, List.map_append]; rfl, by rw [List.length_append, hl']; rfl, ?_, fun c o n h => upd_oth (ne_of_none h nG) ((f17.trans f18) c o n h), ?_⟩
      · intro h hh
        rcases List.mem_append.mp hh with z | z
        · exact g h z
        · rw [List.mem_singleton.mp z]; exact ⟨v0, by omega⟩
      · obtain ⟨q, p1, p2⟩ := P18
        exact ⟨q, upd_oth Gl.symm p1, p2⟩
    · rintro H17 ⟨hs, hG, hl', g, f17, P17⟩
      have ehs : hs.length = rs2.length := by omega
      have B17 := B16.flp f17 lbl.symm P16
      have RD17 := RD16.fl f17 (P11.ne nD) P16
      have R17 := R16.fl f17 al0 P16
      refine ⟨_, rfl, _, rfl, b, bl, G, rs2, hs, rfl, B17, hG, ehs, g, fun l2 H18 nl2 f18 B18 => ⟨rfl, _, rfl, iteF ?_⟩⟩
      obtain ⟨dx17, hb17⟩ := B17.bk
      have RD18 := RD17.flb f18 hb17
      have R18 := R17.flb f18 hb17
      have hG18 := f18 _ _ (ne_of hG hb17 (by intro z; cases z)) hG
      obtain ⟨xs18, hx18, el18⟩ := R18.len
      refine ⟨_, rfl, _, _, rfl, .inl (SqL.of hx18), ?_⟩
      refine ⟨_, rfl, by omega, by omega, fun Y nY => ?_⟩
      refine dyed_lc (rs := rs2) (hs := hs) (by omega) ehs (by omega) RD18.ok g nY (fun x => rfl) (fun i r c H' Q' hr hc S' hq => ?_) (fun H' RY S' => ?_)
      · obtain ⟨zs, v', q', hz, ha', hq', _, hv⟩ := (RD18.mono S').row (i := (i : Int)) (by omega) (by have := (List.getElem?_eq_some_iff.mp hr).1; omega)
        rw [Int.toNat_natCast, hr] at hq'
        cases hq'
        exact elt_dye (c := c) (u := v') (q := r) (fun H8 Rr S8 h => ⟨_, rfl, _, rfl, _, _, _, _, rfl, rfl, SqL.of (S8 _ _ (S' _ _ hG18)), atI_nat (by rw [List.getElem?_map, hc]; rfl), h⟩) (fun H8 Rr S8 h => ⟨_, rfl, _, rfl, _, _, _, _, rfl, rfl, SqL.of (S8 _ _ hz), ha', h⟩) hv hq
      · have B19 := B18.mono S'
        have B19' := B19
        have ht19 := S' _ _ (f18 _ _ (ne_of (f17 _ _ tl (S1116 _ _ ht11)) hb17 (by intro z; cases z)) (f17 _ _ tl (S1116 _ _ ht11)))
        have hG19 := S' _ _ hG18
        obtain ⟨gc, hgc, _⟩ := mem_get (xs := hs) (i := at'.toNat) (by omega)
        have le3 : (dyeAll rs2 hs).length = rs2.length := dyeAll_len ehs
        have at3 : at' < (dyeAll rs2 hs).length := by rw [le3, lr2]; exact at1
        refine ⟨_, rfl, _, rfl, _, rfl, t, _, _, _, rfl, rfl, SqT.of ht19, (row_at r).1, _, rfl, _, rfl, G, _, _, _, rfl, rfl, SqL.of hG19, atI_nat' t0 (by rw [List.getElem?_map, hgc]; rfl), (show (2 : Nat) ≤ sizeLine by decide), fun y3 ny3 => ⟨Y, y3, at', dyeAll rs2 hs, [r.hue, gc], rfl, RY.mono (Same.new ny3), t0, at3, upd_same, (show (2 : Nat) ≤ 3 by decide), fun p3 H19a xs3 np3 S19a hp3 lx3 st3 => ?_⟩⟩
        have S19b : Same H' H19a := (Same.new ny3).trans S19a
        refine ⟨p3, rfl, ⟨_, SqL.of hp3⟩, for_list (xs := xs3) (fun j σ H' => ∃ q, σ = [some (.ref sa), some (.ref l), some (.ref a0), some (.ref t), some (.int at'), some (.int dy), some (.ref b), q, some (.ref D), some (.ref G), some (.ref Y), none, none] ∧ Same H19a H') ⟨_, rfl, Same.refl _⟩ (fun j σ H' _ ⟨_, _, S⟩ => SqL.of (S _ _ hp3)) ?_ ?_⟩
        · rintro j x σ H20 hj ⟨q, rfl, S20⟩
          obtain ⟨tt, h, hue, left, rfl, htt⟩ := st3 x (List.mem_of_getElem? hj)
          exact ⟨_, rfl, _, rfl, _, rfl, b, l2, Y, tt, dyeAll rs2 hs, at', h, hue, left, rfl, (B19.mono S19b).mono S20, (RY.mono S19b).mono S20, S20 _ _ htt, t0, at3, fun H21 S21 => ⟨_, rfl, iteF ⟨_, rfl, S20.trans S21⟩⟩⟩
        rintro σ H20 ⟨q3, rfl, S20c⟩
        have S20 := S19b.trans S20c
        have B20 := B19.mono S20
        have RY20 := RY.mono S20
        obtain ⟨dx20, hb20⟩ := B20.bk
        refine ⟨_, rfl, b, dx20, _, rfl, hb20, b, l2, _, rfl, B20, fun H21 S21 => ?_⟩
        refine ⟨_, rfl, Y, _, rfl, RY20.mono S21, by rw [dyeAll_len ehs]; omega, by rw [dyeAll_len ehs]; omega, fun b3 bl3 H22 nb3 nbl3 S22 B22 => ?_⟩
        obtain ⟨dx22, hb22⟩ := B22.bk
        refine ⟨b3, dx22, _, rfl, hb22, b3, bl3, _, rfl, B22, fun H23 S23 => ⟨rfl, ?_⟩⟩
        rw [decide_eq_true rfl]
        exact k _
end
theorem endA {P : Program} [SupP P pFile] {w : World} {K : PySem.W.Frag} {h : Heap} {mg : Str → Option Value} {f : Addr} (X : K.In h) (G : h.Ns mainGlobals mg) (hfa : mg ("law" : Str) = some (.ref f)) (c : SaysX faAll fxAll dsAll K) :
    ∃ fd : FuncData, (∀ (s : Shared) (v : Value), BindsTo s fd ⟨[v], []⟩ [("_law_script", v)]) ∧ ∀ base : Heap, K.In base → base.Ns mainGlobals mg → FnOk P w K mg base CX0 12 f fd ["_law_script"] (spLaw K) := by
  have T := Tx.of X G c
  cases hfa.symm.trans T.g_law
  exact ⟨_, fun s v => FunD.bindsA (ps := ["_law_script"]) T.F_law (fun _ _ _ _ _ _ us hl => match us, hl with | [_], _ => rfl) s [v] rfl, fun base _ _ => ok_law T⟩
end Hue
open PySem PySem.W PySem.Calls PyProof.Rows
theorem PySem.Challenge.cw_huerounds_k15_wrongs_of_standings_holds : PySem.Challenge.rw_huerounds_k15_wrongs_of_standings.Holds := by
  w_on; o_law
  refine HandSHeadRun.head_any (r := OpenLaw.row PySem.Challenge.rw_huerounds_k15_wrongs_of_standings) (q := view (OpenLaw.row PySem.Challenge.rw_huerounds_k15_wrongs_of_standings).prog [27]) (H := Hue.hkA) (ob := Hue.obA) (M := 8000) (loose := Hue.looseAll)
    (d := HandSHeadRun.topDef (OpenLaw.row PySem.Challenge.rw_huerounds_k15_wrongs_of_standings).prog 27) (kwd := []) Hue.obA_eq
    (by kernel_rfl) (fun s => by kernel_rfl) Hue.runA (by kernel_rfl) (by kernel_rfl) (by kernel_rfl) (by rfl) (by first | assumption | decide +kernel) (by decide +kernel) ⟨rfl, rfl, rfl, rfl, rfl, by decide +kernel⟩ ?hw ?hc
  case hw => w_witness2
  case hc =>
    refine L2.walk_ofE (l := PySem.Challenge.rw_huerounds_k15_wrongs_of_standings) (n := 63) (k := 12) (x := "_law_script") (CX := L2.CX0) rfl (by decide) (by kernel_rfl) ⟨rfl, by decide, by decide⟩ ?F (fun _ _ _ _ z => z)
    intro w mg fa h Y G hmg0
    obtain ⟨K, KX, c⟩ := Y
    have hmg : mg ("law" : PySem.Str) = some (.ref fa) := by
      have e : (HandSHeadRun.topDef (OpenLaw.row PySem.Challenge.rw_huerounds_k15_wrongs_of_standings).prog 27).name = ("law" : PySem.Str) := by kernel_rfl
      rw [← e]
      exact hmg0
    obtain ⟨fd, hb, hF⟩ := Hue.endA (P := (PySem.Challenge.pw_huerounds_k15_wrongs_of_standings)) (w := w) KX G hmg c
    exact ⟨K, fd, Hue.spLaw K, KX, hb, fun H a ns hl _ hS => ⟨a, ns, rfl, hS, hl, fun _ => rfl⟩, hF⟩
#print axioms PySem.Challenge.cw_huerounds_k15_wrongs_of_standings_holds
