import PyProof.Rows.All
import Wide.All
import OpenK.AllK
import Wide.FinOn
import KE.KStateDown
import KE.KOpsOwn
import KE.KEqSeq
import KE.KSuper
import PyProof.P3Eq
import HandS.ForMost
import HandS.Wide
import HandS.Exc
import HandS.Defaults
import HandS.Property
import HandS.MakeKwOnly
import HandS.ClsMeth
import HandS.Star
import HandS.Codes
import HandS.WordsExc
import HandS.IsInst
import HandS.Head0
import HandS.Head1
import HandS.Head2
import HandS.HeadEnd
import HandS.HeadHook1
import HandS.HeadHook2
import HandS.ExcIs
import HandS.ExcOwn
import HandS.ExcInit
import HandS.ExcField
import HandS.ExcValue
import HandS.OwnEq
import HandS.SlotsOwn
import HandS.More
import HandS.FStr
import HandS.HotCalls
import KE.KSuperObj
import KE.KExcSuper
import HandS.Nested
import HandS.ExcSuper
import KE.KParD
import PyProof.DictUpdate
import HandS.Dict
import HandS.Iter
import OpenK.KMake
import HandS.Zip
import HandS.Walk
import HandS.TupAny
import HandS.WideBits
import PyProof.FString3
import KE.GoesMore
import KE.KxField
import PyProof.TwoTypes
import PyProof.FactsAll.int_3
import HandS.Deep
import PyProof.P3In
import KE.GoesEnum
import PyProof.EnumMake
import KE.SortData
import HandS.OwnIter
import HandS.IterVal
import PyProof.Rows.Range3
import HandS.ReplaceLit
import HandS.ReplaceList
import HandS.Small
import PyProof.StrLaws
import PySem.Challenge.RW_huerounds_k11_book_text
set_option Elab.async false
set_option linter.all false
set_option maxRecDepth 100000
set_option maxHeartbeats 4000000
/-! The base of all our proofs about huerounds: the head's facts by names (own hook), own rules, own words. -/
namespace Hue
open PySem PySem.Spec PyProof.Rows L2

/-! ### defs of the text, found by an address of K -/
def noFd : FuncData := PySem.W.fnOf Str.empty Str.empty (defArgs (.Pass ⟨0, 0, 0, 0⟩)) [] (defScope (.Pass ⟨0, 0, 0, 0⟩)) .none .none .none .none none .none .none
def fdD (K : PySem.W.Frag) (a : Addr) : FuncData :=
  match K.lookup a with
  | some ⟨_, _, .func g, _⟩ => g
  | _ => noFd
abbrev Row8 : Type := Option (Str × Str × Arguments × FuncBody × Scope × Addr × List Str × Addr)
def rowAt (K : PySem.W.Frag) (a : Addr) : Row8 :=
  match K.lookup a with
  | some ⟨_, _, .func g, _⟩ => some (g.name, g.qualname, g.params, g.body, g.scope, g.globals, g.closure.map (·.1), g.builtins)
  | _ => none
/-- a def of the text: where it stands, its names, its statement, its defaults -/
structure DX where
  ad : PySem.W.Frag → Addr
  nm : Str
  ql : Str
  st : Stmt
  df : List He.Dv := []
  kd : List (Str × He.Dv) := []
  fr : List Str := []
def DX.row (d : DX) : Row8 := some (d.nm, d.ql, defArgs d.st, .stmts (defBody d.st), defScope d.st, mainGlobals, d.fr, builtinsNs)
def DX.dvs (K : PySem.W.Frag) (d : DX) : List V := d.df.map (He.Dv.v K)
def DX.kws (K : PySem.W.Frag) (d : DX) : List (Str × V) := d.kd.map fun q => (q.1, q.2.v K)
def DX.okB (K : PySem.W.Frag) (d : DX) : Bool :=
  PySem.W.keepIn K (.ref (d.ad K)) &&
  (match K.lookup (d.ad K) with
  | some ⟨_, _, .func g, _⟩ => PySem.W.codeIn K g.code d.ql && (He.dflB K g.defaults (d.dvs K) && He.kwdB K g.kwdefaults (d.kws K))
  | _ => false)
theorem map_nil_of {l : List (Str × Addr)} (h : l.map (·.1) = []) : l = [] := by
  cases l with
  | nil => rfl
  | cons a r => cases h
theorem DX.funD {K : PySem.W.Frag} {d : DX} (e : rowAt K (d.ad K) = d.row) (c : d.okB K = true) (hf : d.fr = []) :
    FunD K d.nm d.ql (defArgs d.st) (defBody d.st) (defScope d.st) (d.dvs K) (d.kws K) (d.ad K) (fdD K (d.ad K)) := by
  obtain ⟨kp, c2⟩ := He.ba c
  unfold rowAt at e
  unfold fdD
  cases q : K.lookup (d.ad K) with
  | none => rw [q] at c2; cases c2
  | some o =>
    obtain ⟨oc, od, dt, osl⟩ := o
    rw [q] at c2 e
    cases dt with
    | func g =>
      obtain ⟨n1, n2, n3, n4, n5, n6, n7, n8, n9, n10, n11, n12, n13, n14, n15⟩ := g
      have e2 : (some (n1, n2, n3, n4, n5, n6, n7.map (·.1), n15) : Row8) = d.row := e
      unfold DX.row at e2
      simp only [Option.some.injEq, Prod.mk.injEq] at e2
      obtain ⟨h1, h2, h3, h4, h5, h6, h7, h8⟩ := e2
      rw [hf] at h7
      have h7' := map_nil_of h7
      subst h1 h2 h3 h4 h5 h6 h7' h8
      obtain ⟨k1, k2⟩ := He.ba (show (PySem.W.codeIn K n13 d.ql && (He.dflB K n8 (d.dvs K) && He.kwdB K n9 (d.kws K))) = true from c2)
      obtain ⟨k3, k4⟩ := He.ba k2
      exact ⟨⟨oc, od, n8, n9, n10, n11, n12, n13, n14, osl, rfl, q, k1, He.dflB_ok k3, He.kwdB_ok k4⟩, kp⟩
    | _ => cases c2
/-- a def of a class that says super(): its one cell -/
structure FunC (K : PySem.W.Frag) (x qual : Str) (params : Arguments) (body : List Stmt) (scope : Scope) (f cc : Addr) (cdv : Value) (fd : FuncData) : Prop where
  ex : ∃ (oc : Value) (od : Option Addr) (dV kV doc pm : Value) (an : Option Addr) (ct : Value) (osl : Array (Option Value)),
    fd = PySem.W.fnX x qual params body scope [("__class__", cc)] dV kV doc pm an cdv ct ∧ K.lookup f = some ⟨oc, od, .func fd, osl⟩ ∧ PySem.W.codeIn K cdv qual = true ∧ dV = .none
  kp : PySem.W.keepIn K (.ref f) = true
theorem DX.funC {K : PySem.W.Frag} {d : DX} (e : rowAt K (d.ad K) = d.row) (c : d.okB K = true) (hf : d.fr = [("__class__" : Str)]) (hd : d.df = []) :
    ∃ cc cdv, FunC K d.nm d.ql (defArgs d.st) (defBody d.st) (defScope d.st) (d.ad K) cc cdv (fdD K (d.ad K)) := by
  obtain ⟨kp, c2⟩ := He.ba c
  unfold rowAt at e
  unfold fdD
  cases q : K.lookup (d.ad K) with
  | none => rw [q] at c2; cases c2
  | some o =>
    obtain ⟨oc, od, dt, osl⟩ := o
    rw [q] at c2 e
    cases dt with
    | func g =>
      obtain ⟨n1, n2, n3, n4, n5, n6, n7, n8, n9, n10, n11, n12, n13, n14, n15⟩ := g
      have e2 : (some (n1, n2, n3, n4, n5, n6, n7.map (·.1), n15) : Row8) = d.row := e
      unfold DX.row at e2
      simp only [Option.some.injEq, Prod.mk.injEq] at e2
      obtain ⟨h1, h2, h3, h4, h5, h6, h7, h8⟩ := e2
      rw [hf] at h7
      obtain ⟨cc, h7'⟩ : ∃ cc, n7 = [(("__class__" : Str), cc)] := by
        match n7, h7 with
        | [(y, cc)], z =>
          have z2 : [y] = [("__class__" : Str)] := z
          injection z2 with z3 _
          exact ⟨cc, by rw [z3]⟩
      subst h1 h2 h3 h4 h5 h6 h7' h8
      obtain ⟨k1, k2⟩ := He.ba (show (PySem.W.codeIn K n13 d.ql && (He.dflB K n8 (d.dvs K) && He.kwdB K n9 (d.kws K))) = true from c2)
      obtain ⟨k3, k4⟩ := He.ba k2
      have hD := He.dflB_ok k3
      have e0 : n8 = .none := by
        rcases hD with ⟨_, e⟩ | ⟨e, _⟩
        · exact e
        · exact absurd (show DX.dvs K d = [] by unfold DX.dvs; rw [hd]; rfl) e
      exact ⟨cc, n13, ⟨oc, od, n8, n9, n10, n11, n12, n14, osl, rfl, q, k1, e0⟩, kp⟩
    | _ => cases c2

/-! ### more facts of the top -/
abbrev gad (x : Str) (K : PySem.W.Frag) : Addr := He.ga K x
abbrev mad (C m : Str) (K : PySem.W.Frag) : Addr := He.ma K (He.ga K C) m
/-- the getter behind a property, the def behind a classmethod -/
def pad (T : String) (C m : Str) (K : PySem.W.Frag) : Addr :=
  match PySem.W.recIn K (He.ma K (He.ga K C) m) T with
  | some (.ref g :: _) => g
  | _ => 0
/-- the def behind a property's setter -/
def sad (C m : Str) (K : PySem.W.Frag) : Addr :=
  match PySem.W.recIn K (He.ma K (He.ga K C) m) "property" with
  | some (_ :: .ref g :: _) => g
  | _ => 0
inductive Kx where
  | ty (n : String)
  | own (x : Str)
def Kx.v (K : PySem.W.Frag) : Kx → Value
  | .ty n => .type n
  | .own x => .ref (He.ga K x)
inductive Fx where
  | prop (C f : Str)
  | tup (x : Str) (vs : List He.Dv)
  | inst (C : Str)
  | kit (t c : Kx) (b : Bool)
  | bop (C m r : Str) (T : String)
  | cread (C : Str)
  | cmeth (C m : Str)
  | cint (C f : Str) (i : Int)
  | own (C m : Str)
  | excC (D : Str)
  | nf (C : Str) (t : Kx)
  | sub (C : Str) (t : Kx) (b : Bool)
  | oex (C : Str)
  | sup (C D : Str) (fl ar : Str)
  | einit (C D : Str)
  | pset (C f : Str)
  | bopr (C m r : Str) (T : String)
  | bopo (C m : Str)
def eqB (a b : Option Bool) : Bool := decide (a = b)
def someO (a : Option (Option Value)) : Bool := a.isSome
def Fx.ok (K : PySem.W.Frag) : Fx → Bool
  | .prop C f =>
    He.eqO (PySem.W.findIn K (.ref (gad C K)) f) (some (some (.ref (mad C f K)))) &&
    (He.eqO (PySem.W.specialIn K (.ref (mad C f K)) "__get__") (some (some (.builtin "property.__get__"))) &&
    (eqB (PySem.W.takesIn K (.ref (mad C f K))) (some true) &&
    (match PySem.W.recIn K (mad C f K) "property" with
      | some (.ref _ :: _) => true
      | _ => false)))
  | .tup x vs => He.tupB K x vs
  | .inst C =>
    He.eqO (PySem.W.findIn K (.ref (gad C K)) "__class__") (some (some (.builtin "object.__class__"))) &&
    (He.eqO (PySem.W.specialIn K (.builtin "object.__class__") "__get__") (some (some (.builtin "getset_descriptor.__get__"))) &&
    (eqB (PySem.W.takesIn K (.builtin "object.__class__")) (some true) &&
    eqB (PySem.W.mroIn K (gad C K) (.type "object")) (some true)))
  | .kit t c b => eqB (PySem.W.kitOne K (t.v K) (c.v K)) (some b)
  | .bop C m r T =>
    PySem.W.selfFirst K (gad C K) &&
    (He.eqO (PySem.W.findIn K (.ref (gad C K)) m) (some (some (.ref (mad C m K)))) &&
    (PySem.W.isFn K (.ref (mad C m K)) &&
    (He.eqO (PySem.W.findIn K (.ref (gad C K)) r) (some none) &&
    (someO (PySem.W.findIn K (.type T) m) && (someO (PySem.W.findIn K (.type T) r) &&
    eqB (PySem.W.subIn K (.type T) (.ref (gad C K))) (some false))))))
  | .cread C => PySem.W.readsIn K (gad C K) (.type "type") && He.eqO (PySem.W.specialIn K (.ref (gad C K)) "__getattribute__") (some (some (.builtin "type.__getattribute__")))
  | .cmeth C m =>
    (match PySem.W.findCls K (.ref (gad C K)) (.type "type") m with
      | some (.get (.builtin g) (.ref p) .none (.ref D)) => decide (g = "classmethod.__get__") && (decide (p = mad C m K) && decide (D = gad C K))
      | _ => false) &&
    ((match PySem.W.recIn K (mad C m K) "classmethod" with
      | some (.ref _ :: _) => true
      | _ => false) && PySem.W.fnIn K (pad "classmethod" C m K))
  | .cint C f i =>
    (match PySem.W.findCls K (.ref (gad C K)) (.type "type") f with
      | some (.val (.int j _)) => decide (j = i)
      | _ => false)
  | .own C m => He.eqO (PySem.W.findIn K (.ref (gad C K)) m) (some (some (.ref (mad C m K)))) && (PySem.W.isFn K (.ref (mad C m K)) && (PySem.W.fnIn K (mad C m K) && PySem.W.noSeq K (gad C K)))
  | .excC D =>
    He.eqO (PySem.W.findIn K (.ref (gad D K)) "__getattribute__") (some (some (.builtin "BaseException.__getattribute__"))) &&
    (He.eqO (PySem.W.findIn K (.ref (gad D K)) "__getattr__") (some none) &&
    (eqB (PySem.W.subIn K (.ref (gad D K)) (.type "BaseException")) (some true) &&
    (PySem.W.hasDictIn K (gad D K) &&
    (He.eqO (PySem.W.findIn K (.ref (gad D K)) "__class__") (some (some (.builtin "object.__class__"))) &&
    (He.eqO (PySem.W.specialIn K (.builtin "object.__class__") "__get__") (some (some (.builtin "getset_descriptor.__get__"))) &&
    (eqB (PySem.W.takesIn K (.builtin "object.__class__")) (some true) &&
    eqB (PySem.W.mroIn K (gad D K) (.type "object")) (some true)))))))
  | .nf C t => PySem.W.notFirst K (gad C K) (t.v K)
  | .sub C t b => eqB (PySem.W.subIn K (.ref (gad C K)) (t.v K)) (some b)
  | .oex C =>
    (match K.lookup (gad C K) with
      | some ⟨.type "type", _, .cls cd, sl⟩ => (match cd.mro, sl.toList with
        | .ref C' :: bm, [_, _, _, _, some (.builtin n), _] => decide (C' = gad C K) && (decide (n = "ValueError.__new__") && (!cd.hasDel && (cd.hasDict && PySem.HandSPX.refsVE bm)))
        | _, _ => false)
      | _ => false) &&
    (He.eqO (PySem.W.findIn K (.ref (gad C K)) "__setattr__") (some (some (.builtin "object.__setattr__"))) &&
    (eqB (PySem.W.subIn K (.ref (gad C K)) (.type "BaseException")) (some true) &&
    (decide (PySem.W.typeIn K (.ref (gad C K)) = some (.type "type")) && PySem.W.keepIn K (.ref (gad C K)))))
  | .sup C D fl ar =>
    (match K.lookup (mad D "__init__" K) with
      | some ⟨_, _, .func fd, _⟩ =>
        (match (fd.params.posonlyargs ++ fd.params.args).head? with
          | some a => decide (a.arg = ar)
          | none => false) &&
        ((match fd.closure with
          | [(_, cc)] => (match K.lookup cc with
            | some ⟨_, _, .cell (some (.ref a)), _⟩ => decide (a = gad D K)
            | _ => false)
          | _ => false) &&
        (match fd.code with
          | .ref c => (match K.lookup c with
            | some ⟨_, _, .fields vs, _⟩ => (match (vs[2]? : Option Value) with
              | some (Value.str z _) => decide (z = fl)
              | _ => false)
            | _ => false)
          | _ => false))
      | _ => false) &&
    ((PySem.W.clsIn K (gad D K)).isSome && ((PySem.W.clsIn K (gad C K)).isSome && (eqB (PySem.W.mroIn K (gad C K) (.ref (gad D K))) (some true) && (He.eqO (PySem.W.nsIn K cStatics "thirdparty.any") (some none) &&
    (He.eqO (PySem.W.ks_superIn K (gad C K) (gad D K) "__init__") (some (some (.builtin "ValueError.__init__"))) && eqB (PySem.W.subIn K (.ref (gad C K)) (.type "ValueError")) (some true))))))
  | .pset C f =>
    He.eqO (PySem.W.takerIn K (gad C K) f) (some (some (.ref (mad C f K)))) && (decide (PySem.W.typeIn K (.ref (mad C f K)) = some (.type "property")) &&
    (match PySem.W.recIn K (mad C f K) "property" with
      | some (_ :: .ref _ :: _) => true
      | _ => false))
  | .bopr C m r T =>
    PySem.W.selfFirst K (gad C K) &&
    (He.eqO (PySem.W.findIn K (.ref (gad C K)) m) (some (some (.ref (mad C m K)))) &&
    (PySem.W.isFn K (.ref (mad C m K)) &&
    (He.eqO (PySem.W.findIn K (.ref (gad C K)) r) (some (some (.ref (mad C r K)))) &&
    (PySem.W.isFn K (.ref (mad C r K)) &&
    (someO (PySem.W.findIn K (.type T) m) && (someO (PySem.W.findIn K (.type T) r) &&
    (eqB (PySem.W.subIn K (.type T) (.ref (gad C K))) (some false) && eqB (PySem.W.subIn K (.ref (gad C K)) (.type T)) (some false))))))))
  | .bopo C m => PySem.W.selfFirst K (gad C K) && (He.eqO (PySem.W.findIn K (.ref (gad C K)) m) (some (some (.ref (mad C m K)))) && PySem.W.isFn K (.ref (mad C m K)))
  | .einit C D => He.eqO (PySem.W.findIn K (.ref (gad C K)) "__init__") (some (some (.ref (mad D "__init__" K)))) && decide (PySem.W.typeIn K (.ref (mad D "__init__" K)) = some (.type "function"))
section
variable {K : PySem.W.Frag}
theorem rec_ok {T : String} {C m : Str} (c : (match PySem.W.recIn K (mad C m K) T with
      | some (.ref _ :: _) => true
      | _ => false) = true) : ∃ rest, PySem.W.recIn K (mad C m K) T = some (.ref (pad T C m K) :: rest) := by
  unfold pad
  cases e : PySem.W.recIn K (mad C m K) T with
  | none => rw [e] at c; cases c
  | some l =>
    rw [e] at c
    cases l with
    | nil => cases c
    | cons v r =>
      cases v with
      | ref g => exact ⟨r, rfl⟩
      | _ => cases c
theorem cread_ok {C : Str} (c : (Fx.cread C).ok K = true) : ClX.CRead K (gad C K) (.type "type") := by
  obtain ⟨c1, c2⟩ := He.ba c
  exact ⟨c1, He.eqO_ok c2⟩
theorem cmeth_ok {C m : Str} (c : (Fx.cmeth C m).ok K = true) : ClX.CMet K (gad C K) (.type "type") m (mad C m K) (pad "classmethod" C m K) := by
  obtain ⟨c1, c⟩ := He.ba c
  obtain ⟨c2, c3⟩ := He.ba c
  refine ⟨?_, rec_ok c2, c3⟩
  split at c1
  · rename_i g p D e
    obtain ⟨k1, k⟩ := He.ba c1
    obtain ⟨k2, k3⟩ := He.ba k
    rw [e, of_decide_eq_true k1, of_decide_eq_true k2, of_decide_eq_true k3]
  · cases c1
theorem cint_ok {C f : Str} {i : Int} (c : (Fx.cint C f i).ok K = true) : ∃ u, ClX.CVal K (gad C K) (.type "type") f (.int i) u := by
  have c1 : (match PySem.W.findCls K (.ref (gad C K)) (.type "type") f with
      | some (.val (.int j _)) => decide (j = i)
      | _ => false) = true := c
  split at c1
  · rename_i j t e
    refine ⟨_, e, ⟨t, ?_⟩⟩
    rw [of_decide_eq_true c1]
  · cases c1
theorem prop_ok {C f : Str} (c : (Fx.prop C f).ok K = true) : PropOf K (gad C K) f (mad C f K) (pad "property" C f K) := by
  obtain ⟨c1, c⟩ := He.ba c
  obtain ⟨c2, c⟩ := He.ba c
  obtain ⟨c3, c4⟩ := He.ba c
  refine ⟨He.eqO_ok c1, He.eqO_ok c2, of_decide_eq_true c3, ?_⟩
  unfold pad
  cases e : PySem.W.recIn K (mad C f K) "property" with
  | none => rw [e] at c4; cases c4
  | some l =>
    rw [e] at c4
    cases l with
    | nil => cases c4
    | cons v r =>
      cases v with
      | ref g =>
        exact ⟨r, rfl⟩
      | _ => cases c4
/-- a property with a setter -/
structure PSetOf (K : PySem.W.Frag) (C : Addr) (f : Str) (p g : Addr) : Prop where
  tk : PySem.W.takerIn K C f = some (some (.ref p))
  ty : PySem.W.typeIn K (.ref p) = some (.type "property")
  rc : ∃ a rest, PySem.W.recIn K p "property" = some (a :: .ref g :: rest)
theorem pset_ok {C f : Str} (c : (Fx.pset C f).ok K = true) : PSetOf K (gad C K) f (mad C f K) (sad C f K) := by
  obtain ⟨c1, c⟩ := He.ba c
  obtain ⟨c2, c3⟩ := He.ba c
  refine ⟨He.eqO_ok c1, of_decide_eq_true c2, ?_⟩
  unfold sad
  split at c3
  · rename_i a g rest e
    exact ⟨a, rest, by rw [e]⟩
  · cases c3
theorem inst_ty {C : Str} (c : (Fx.inst C).ok K = true) (cl : Cls K (gad C K)) {H : Hp} {a dx : Addr} {fs : List (Str × V)} (e : H a = some (.ins (gad C K) dx fs)) : TyX K H (.ref a) (.ref (gad C K)) := by
  obtain ⟨c1, c⟩ := He.ba c
  obtain ⟨c2, c⟩ := He.ba c
  obtain ⟨c3, c4⟩ := He.ba c
  exact .base (.ins e cl (He.eqO_ok c1) (He.eqO_ok c2) (of_decide_eq_true c3) (of_decide_eq_true c4))
theorem nf_ok {C : Str} {t : Kx} (h : (Fx.nf C t).ok K = true) : PySem.W.notFirst K (gad C K) (t.v K) = true := h
theorem sub_ok {C : Str} {t : Kx} {b : Bool} (h : (Fx.sub C t b).ok K = true) : PySem.W.subIn K (.ref (gad C K)) (t.v K) = some b := of_decide_eq_true h
theorem kit_ok {t c : Kx} {b : Bool} (h : (Fx.kit t c b).ok K = true) : PySem.W.kitOne K (t.v K) (c.v K) = some b := of_decide_eq_true h
end
/-! ### the hook -/
abbrev AlX : Type := Bool × List Row8
def obsX (fa : List He.Fa) (fx : List Fx) (ds : List DX) (K : PySem.W.Frag) : AlX :=
  ((fa.all fun f => f.ok K) && ((fx.all fun f => f.ok K) && ds.all fun d => d.okB K), ds.map fun d => rowAt K (d.ad K))
def valX (ds : List DX) : AlX := (true, ds.map DX.row)
def SaysX (fa : List He.Fa) (fx : List Fx) (ds : List DX) (K : PySem.W.Frag) : Prop := obsX fa fx ds K = valX ds
def obsXG (n : Nat) (fa : List He.Fa) (fx : List Fx) (ds : List DX) (g : Addr → Option Obj) : AlX := obsX fa fx ds (He.frG g (cStatics :: He.asD g n))
def hookX (n : Nat) (fa : List He.Fa) (fx : List Fx) (ds : List DX) : PySem.W.Hook where
  α := AlX
  obs := fun s => obsXG n fa fx ds s.heap.get?
  val := fun _ => valX ds
  says := fun _ h => ∃ K : PySem.W.Frag, K.In h ∧ SaysX fa fx ds K
  of := fun _ _ e => ⟨_, He.frG_in, e⟩
  keeps := fun _ _ _ ⟨K, hK, c⟩ k => ⟨K, PySem.W.Frag.In.keeps hK k, c⟩
theorem obsXG_eq {n : Nat} {fa : List He.Fa} {fx : List Fx} {ds : List DX} {g : Addr → Option Obj} {s : Shared} (h : ∀ a, g a = s.heap.get? a) : obsXG n fa fx ds g = (hookX n fa fx ds).obs s := by
  cases (funext h : g = s.heap.get?)
  rfl
section
variable {fa : List He.Fa} {fx : List Fx} {ds : List DX} {K : PySem.W.Frag}
theorem SaysX.fact (c : SaysX fa fx ds K) (i : Nat) {f : He.Fa} (h : fa[i]? = some f := by rfl) : f.ok K = true :=
  List.all_eq_true.mp (He.ba (show ((fa.all fun f => f.ok K) && ((fx.all fun f => f.ok K) && ds.all fun d => d.okB K)) = true from congrArg (fun z : AlX => z.1) c)).1 f (List.mem_of_getElem? h)
theorem SaysX.more (c : SaysX fa fx ds K) (i : Nat) {f : Fx} (h : fx[i]? = some f := by rfl) : f.ok K = true :=
  List.all_eq_true.mp (He.ba (He.ba (show ((fa.all fun f => f.ok K) && ((fx.all fun f => f.ok K) && ds.all fun d => d.okB K)) = true from congrArg (fun z : AlX => z.1) c)).2).1 f (List.mem_of_getElem? h)
theorem SaysX.fdc (c : SaysX fa fx ds K) (i : Nat) {d : DX} (h : ds[i]? = some d := by rfl) (hf : d.fr = [("__class__" : Str)] := by rfl) (hd : d.df = [] := by rfl) :
    ∃ cc cdv, FunC K d.nm d.ql (defArgs d.st) (defBody d.st) (defScope d.st) (d.ad K) cc cdv (fdD K (d.ad K)) := by
  have c2 := (He.ba (He.ba (show ((fa.all fun f => f.ok K) && ((fx.all fun f => f.ok K) && ds.all fun d => d.okB K)) = true from congrArg (fun z : AlX => z.1) c)).2).2
  have e : ds.map (fun d => rowAt K (d.ad K)) = ds.map DX.row := congrArg (fun z : AlX => z.2) c
  have e2 : (ds.map fun d => rowAt K (d.ad K))[i]? = (ds.map DX.row)[i]? := by rw [e]
  rw [List.getElem?_map, List.getElem?_map, h] at e2
  exact DX.funC (Option.some.inj e2) (List.all_eq_true.mp c2 d (List.mem_of_getElem? h)) hf hd
theorem SaysX.fd (c : SaysX fa fx ds K) (i : Nat) {d : DX} (h : ds[i]? = some d := by rfl) (hf : d.fr = [] := by rfl) :
    FunD K d.nm d.ql (defArgs d.st) (defBody d.st) (defScope d.st) (d.dvs K) (d.kws K) (d.ad K) (fdD K (d.ad K)) := by
  have c2 := (He.ba (He.ba (show ((fa.all fun f => f.ok K) && ((fx.all fun f => f.ok K) && ds.all fun d => d.okB K)) = true from congrArg (fun z : AlX => z.1) c)).2).2
  have e : ds.map (fun d => rowAt K (d.ad K)) = ds.map DX.row := congrArg (fun z : AlX => z.2) c
  have e2 : (ds.map fun d => rowAt K (d.ad K))[i]? = (ds.map DX.row)[i]? := by rw [e]
  rw [List.getElem?_map, List.getElem?_map, h] at e2
  exact DX.funD (Option.some.inj e2) (List.all_eq_true.mp c2 d (List.mem_of_getElem? h)) hf
end

/-! ### constants of the top -/
abbrev SqTk (K : PySem.W.Frag) (a : Addr) (vs : List V) : Prop := ∀ H : Hp, SqT K H a vs
theorem tup_ok {K : PySem.W.Frag} {x : Str} {vs : List He.Dv} (h : (Fx.tup x vs).ok K = true) : SqTk K (gad x K) (vs.map (He.Dv.v K)) := fun H => He.tupB_ok h H
section
variable {X : Cx}
theorem pe_gi {x : Str} {i : Int} {pos : Pos} (hg : Gl X x) (h : ∃ t, X.mg x = some (.int i t)) (hd : (x == ("__debug__" : Str)) = false := by decide) : PE X (.Name x pos) (tC (.int i)) := by
  obtain ⟨t, h⟩ := h
  exact pe_glob hg h ⟨t, rfl⟩ hd
theorem pe_gs {x z : Str} {pos : Pos} (hg : Gl X x) (h : ∃ t, X.mg x = some (.str z t)) (hd : (x == ("__debug__" : Str)) = false := by decide) : PE X (.Name x pos) (tC (.str z)) := by
  obtain ⟨t, h⟩ := h
  exact pe_glob hg h ⟨t, rfl⟩ hd
theorem pe_gr {x : Str} {a : Addr} {pos : Pos} (hg : Gl X x) (h : X.mg x = some (.ref a)) (hd : (x == ("__debug__" : Str)) = false := by decide) : PE X (.Name x pos) (tC (.ref a)) := pe_glob hg h rfl hd
theorem pe_bty {x : Str} (n : String) {pos : Pos} (hg : Gl X x) (h : X.mg x = none) (hv : bootBuiltins x = some (.type n)) (hn : x ≠ "__name__" := by decide) (hd : (x == ("__debug__" : Str)) = false := by decide) : PE X (.Name x pos) (tC (.ty n)) := pe_bltn hg h hv rfl hn hd
/-! ### int(..) by the kind of its argument -/
theorem call_intI : CallR X (.type "int") (fun xs H Q => ∃ i, xs = [.int i] ∧ Q (.int i) H) := fun pins s σ H xs us Q I r ⟨i, e, q⟩ => call_int1 pins s σ H xs us Q I r (.inl ⟨i, e, q⟩)
theorem call_intB : CallR X (.type "int") (fun xs H Q => ∃ k, xs = [.bl k] ∧ Q (.int (if k then 1 else 0)) H) := fun pins s σ H xs us Q I r ⟨k, e, q⟩ => call_int1 pins s σ H xs us Q I r (.inr ⟨k, e, q⟩)
end
/-! ### what stands in a heap, found by steps (the word "hp") -/
/-- all but the objects of S are as they were -/
def Fr (S : Addr → Prop) (H H' : Hp) : Prop := ∀ a o, ¬ S a → H a = some o → H' a = some o
theorem upd_old {H : Hp} {p a : Addr} {o u : HO} (n : H p = none) (h : H a = some o) : upd H p u a = some o := by rw [upd_ne (ne_of_none h n)]; exact h
theorem upd_oth {H : Hp} {p a : Addr} {o u : HO} (n : a ≠ p) (h : H a = some o) : upd H p u a = some o := by rw [upd_ne n]; exact h
theorem upd_oldN {H : Hp} {p a : Addr} {u : HO} (n : a ≠ p) (h : H a = none) : upd H p u a = none := by rw [upd_ne n]; exact h
theorem same_get {H H' : Hp} {a : Addr} {o : HO} (e : Same H H') (h : H a = some o) : H' a = some o := e a o h
theorem iteB {c : Bool} {A B : Prop} (h1 : c = true → A) (h2 : c = false → B) : if c = true then A else B := by
  cases c with
  | true => exact iteT (h1 rfl)
  | false => exact iteF (h2 rfl)
theorem Same.upd {H H' : Hp} {p : Addr} {u : HO} (e : Same H H') (n : H p = none) : Same H (upd H' p u) := fun a o h => by rw [upd_ne (ne_of_none h n)]; exact e a o h
theorem Same.new {H : Hp} {p : Addr} {u : HO} (n : H p = none) : Same H (L2.upd H p u) := Same.upd (Same.refl H) n

/-! ### an own class's operator with a built-in value on the right -/
/-- o op i, o an instance of C, i an int -/
def rOwnI (C : Addr) (sp : Sp) (E : XK) : R2 := fun x y H Q => ∃ a dx fs i, x = .ref a ∧ H a = some (.ins C dx fs) ∧ y = .int i ∧ sp [.ref a, .int i] H Q E
theorem op_ownI {X : Cx} {CX : CXT} {op : Operator} {C m r : Str} {k : Nat} {fd : FuncData} {ps : List Str} {sp : Sp} {E : XK}
    (cl : Cls X.K (gad C X.K)) (b : (Fx.bop C m r "int").ok X.K = true) (em : PySem.dunder op.info.2 = m) (er : PySem.dunderR op.info.2 = r)
    (F : FnOk X.prog X.w X.K X.mg X.base CX k (mad C m X.K) fd ps sp) (hr : Room k X.A) (hb : Binds X.K fd ps []) (hx : Passes CX X E) : OpR X (binaryOp op) (rOwnI (gad C X.K) sp E) := by
  intro pins s σ H x y v u Q I rx ry h
  obtain ⟨a, dx, fs, i, rfl, ea, rfl, q⟩ := h
  obtain rfl : v = Value.ref a := rx
  obtain ⟨t, rfl⟩ := ry
  obtain ⟨c1, c⟩ := He.ba b
  obtain ⟨c2, c⟩ := He.ba c
  obtain ⟨c3, c⟩ := He.ba c
  obtain ⟨c4, c⟩ := He.ba c
  obtain ⟨c5, c⟩ := He.ba c
  obtain ⟨c6, c7⟩ := He.ba c
  obtain ⟨fo, h5⟩ := Option.isSome_iff_exists.mp c5
  obtain ⟨ro, h6⟩ := Option.isSome_iff_exists.mp c6
  obtain ⟨mA, O, _⟩ := ins_get I.hok ea
  obtain ⟨od, J, _⟩ := O.look
  obtain ⟨m0, Fm⟩ := I.fr
  subst em er
  refine PySem.W.ksp_binT (T := "int") Fm I.ok.mod.kin J rfl c1 (He.eqO_ok c2) c3 (He.eqO_ok c4) (.inl rfl) h5 h6 (of_decide_eq_true c7) ?_
  refine thn (run_fn (us := [.ref a, .int i t]) (vs := [.ref a, .int i]) F hr hb .nil hx I (.cons rfl (.cons ⟨t, rfl⟩ .nil)) q) fun u s' hq => ?_
  obtain ⟨z, H', I', rz, qz⟩ := hq
  have fin : EP X pins σ Q u s' := ⟨z, H', I', rz, qz⟩
  cases z with
  | non => obtain rfl : u = Value.none := rz; exact fin
  | bl _ => obtain rfl : u = Value.bool _ := rz; exact fin
  | int _ => obtain ⟨t', rfl⟩ := rz; exact fin
  | str _ => obtain ⟨t', rfl⟩ := rz; exact fin
  | byt _ => obtain ⟨t', rfl⟩ := rz; exact fin
  | flt _ => obtain ⟨t', rfl⟩ := rz; exact fin
  | ref _ => obtain rfl : u = Value.ref _ := rz; exact fin
  | ty _ => obtain rfl : u = Value.type _ := rz; exact fin

/-! ### a class called with a starred list; a def with a starred parameter -/
/-- C(*y): a new instance, __init__ with the items -/
def tMakeSt (K0 : PySem.W.Frag) (C : Addr) (sp : Sp) (E : XK) (te : TE) : TE := fun σ H Q => te σ H fun y H1 => ∃ a xs, y = V.ref a ∧ (SqT K0 H1 a xs ∨ SqL K0 H1 a xs) ∧ ∀ x dx, H1 x = none → H1 dx = none → dx ≠ x →
  sp (.ref x :: xs) (upd (upd H1 dx (.own x)) x (.ins C dx [])) (fun v H2 => v = .non ∧ Q (.ref x) H2) E
/-- .. where slot i holds the class -/
def tMakeLS (K0 : PySem.W.Frag) (i : Nat) (C : Addr) (sp : Sp) (E : XK) (te : TE) : TE := fun σ H Q => σ[i]? = some (some (.ref C)) ∧ tMakeSt K0 C sp E te σ H Q
section
variable {X : Cx} {CX : CXT} {k i : Nat} {f C : Addr} {sp : Sp} {E : XK} {x : Str} {e : Expr} {te : TE} {p q pos : Pos}
theorem pe_makeGS (M : Mk X.K C f) (F : FnR X.prog X.w X.K X.mg X.base CX k f sp) (hr : Room (k + 1) X.A) (hx : Passes CX X E) (hg : Gl X x) (hm : X.mg x = some (.ref C)) (he : PE X e te)
    (hd : (x == ("__debug__" : Str)) = false := by decide) (hst : starEach [.Starred e q] X.env = [(true, eval e X.env)] := by rfl) :
    PE X (.Call (.Name x p) [.Starred e q] [] pos) (tMakeSt X.K C sp E te) := by
  refine ⟨fun pins s σ H Q I h => ?_⟩
  refine wpAny_Call_Name_kw (ld_glob I hg hm ?_ hd)
  refine PySem.W.callWith_S (h₀ := X.base) I.ok.mod.kin M.kp (thn (he.run pins s σ H _ I h) fun v s1 ⟨y, H1, I1, ry, a, xs, ey, hxs, z⟩ => ?_) hst
  subst ey
  obtain rfl : v = Value.ref a := ry
  exact StX.star_any I1 hxs fun us s2 I2 rv => ⟨I2.kIn, StX.run_makeR M F hr hx I2 rv z⟩
theorem pe_makeLS (M : Mk X.K C f) (F : FnR X.prog X.w X.K X.mg X.base CX k f sp) (hr : Room (k + 1) X.A) (hx : Passes CX X E) (hN : X.N[i]? = some x) (hv : Vis X.env.scope x) (he : PE X e te)
    (hd : (x == ("__debug__" : Str)) = false := by decide) (hcd : (x == ("__classdict__" : Str)) = false := by decide) (hst : starEach [.Starred e q] X.env = [(true, eval e X.env)] := by rfl) :
    PE X (.Call (.Name x p) [.Starred e q] [] pos) (tMakeLS X.K i C sp E te) := by
  refine ⟨fun pins s σ H Q I h => ?_⟩
  obtain ⟨hs, h⟩ := h
  refine wpAny_Call_Name_kw (thn ((pe_var (pos := p) (i := i) hN hv hd hcd).run pins s σ H (fun v H1 => v = .ref C ∧ H1 = H) I ⟨.ref C, hs, rfl, rfl⟩) fun u s1 ⟨v, H1, I1, r1, ev, eH⟩ => ?_)
  subst ev
  rw [eH] at I1
  cases r1
  refine PySem.W.callWith_S (h₀ := X.base) I.ok.mod.kin M.kp (thn (he.run pins s1 σ H _ I1 h) fun v s2 ⟨y, H2, I2, ry, a, xs, ey, hxs, z⟩ => ?_) hst
  subst ey
  obtain rfl : v = Value.ref a := ry
  exact StX.star_any I2 hxs fun us s3 I3 rv => ⟨I3.kIn, StX.run_makeR M F hr hx I3 rv z⟩
end
section
variable {P : Program} {w : World} {K : PySem.W.Frag} {mg : Str → Option Value} {base : Heap} {CX : CXT} {k : Nat} {f : Addr} {fd : FuncData} {ps N : List Str} {sp : Sp} {x qual pv : Str} {params : Arguments} {body : List Stmt} {scope : Scope}
theorem fnr_of (F : FnOk P w K mg base CX k f fd ps sp) (hb : Binds K fd ps []) : FnR P w K mg base CX k f sp :=
  (F.raw hb .nil).imp fun vs H Q E h => by
    show sp (vs ++ []) H Q E
    rw [List.append_nil]
    exact h
/-- the promise of a def f(a, .., *v) by the promise of its body -/
def spStar (n : Nat) (sp : Sp) : Sp := fun vs H Q E => ∃ ws rest, vs = ws ++ rest ∧ ws.length = n ∧ rest.length ≤ sizeLine ∧ ∀ p, H p = none → sp (ws ++ [V.ref p]) (upd H p (.tup rest)) Q E
theorem fnr_star (F : FunD K x qual params body scope [] [] f fd) (S : FnScope N (ps ++ [pv]) scope) (hCX : StX.CXUp CX)
    (hb : ∀ (kV doc pm : Value) (an : Option Addr) (cdv ct : Value) (us rest : List Value), us.length = ps.length → bindArgs (PySem.W.fnOf x qual params body scope .none kV doc pm an cdv ct) ⟨us ++ rest, []⟩ = (newTuple rest >>= fun t => pure (ps.zip us ++ [(pv, t)])))
    (hbody : ∀ (cdv : Value) (A : Around) (outer : List Env) (s : Shared) (H : Hp) (vs : List V) (Q : VK) (E : XK), Room k (A.deeper (envOfC qual scope s.heap.objs.size f cdv)) → sp vs H Q E →
      ∃ t, PSs (cxOf CX P w K mg base N qual scope f cdv A outer s H E) body t ∧ t { nx := fun _ H' => Q .non H', rt := Q } (start N vs) H) :
    FnR P w K mg base CX (k + 1) f (spStar ps.length sp) := by
  obtain ⟨oc, od, dV, kV, doc, pm, an, cdv, ct, osl, rfl, lk, hcd, hD, _⟩ := F.ex
  rcases hD with ⟨_, rfl⟩ | ⟨e, _⟩
  · exact StX.fn_star lk hcd S hCX (fun us rest hl => hb kV doc pm an cdv ct us rest hl) fun A outer s H vs Q E hr h => hbody cdv A outer s H vs Q E hr h
  · exact absurd rfl e
end

/-! ### o[i], o[i] = e, len(o) by the class's own methods -/
structure OwnM (K : PySem.W.Frag) (C : Addr) (m : Str) (f : Addr) : Prop where
  at_ : PySem.W.findIn K (.ref C) m = some (some (.ref f))
  fn : PySem.W.isFn K (.ref f) = true
  fi : PySem.W.fnIn K f = true
  nq : PySem.W.noSeq K C = true
theorem own_ok {K : PySem.W.Frag} {C m : Str} (c : (Fx.own C m).ok K = true) : OwnM K (gad C K) m (mad C m K) := by
  obtain ⟨c1, c⟩ := He.ba c
  obtain ⟨c2, c⟩ := He.ba c
  obtain ⟨c3, c4⟩ := He.ba c
  exact ⟨He.eqO_ok c1, c2, c3, c4⟩
section
variable {X : Cx} {CX : CXT} {k : Nat} {C f : Addr} {sp : Sp} {E : XK} {a b : Expr} {ta tb : TE} {pos : Pos}
theorem run_in1 {pins : List (Addr × Obj)} {σ : L2.St} {H : Hp} {s : Shared} {Q : VK} {us : List Value} {vs : List V} (F : FnR X.prog X.w X.K X.mg X.base CX k f sp) (hr : Room (k + 1) X.A) (hx : Passes CX X E) (I : Inv X pins σ H s) (r : Vals vs us) (h : sp vs H Q E) :
    wpAny (model X.prog X.w) X.A.in1 (call (.ref f) us) (EP X pins σ Q) X.xe s := by
  refine wpAny_call (codeAny_mono (F X.A.in1 X.stack s H us vs Q E hr.in1 I.env0.in1 r h) fun r s' hq => ?_)
  cases r with
  | error e => exact hx pins σ H s e s' I hq
  | ok fl =>
    cases fl with
    | ret u => exact I.after hq
    | next => exact False.elim hq
    | brk => exact False.elim hq
    | cont => exact False.elim hq
def tIxO (C : Addr) (sp : Sp) (E : XK) (ta tb : TE) : TE := fun σ H Q => ta σ H fun x H1 => tb σ H1 fun y H2 => ∃ a dx fs, x = .ref a ∧ H2 a = some (.ins C dx fs) ∧ sp [.ref a, y] H2 Q E
theorem pe_ixO (o : OwnM X.K C "__getitem__" f) (F : FnR X.prog X.w X.K X.mg X.base CX k f sp) (hr : Room (k + 1) X.A) (hx : Passes CX X E) (ha : PE X a ta) (hb : PE X b tb)
    (hs : ∀ o i, subscripted b true o i = runValue (.builtin "lifetime.subscript" ⟨[o, i], []⟩) := by intro _ _; rfl) : PE X (.Subscript a b pos) (tIxO C sp E ta tb) := by
  refine ⟨fun pins s σ H Q I h => ?_⟩
  refine Subscript_ (binT ha hb I h fun v u s2 x y H2 I2 rx ry q => ?_)
  obtain ⟨a, dx, fs, rfl, ea, q⟩ := q
  obtain rfl : v = Value.ref a := rx
  obtain ⟨mA, O, _⟩ := ins_get I2.hok ea
  obtain ⟨od, J, _⟩ := O.look
  obtain ⟨m0, Fm⟩ := I2.fr
  exact PySem.W.sub_K Fm I2.ok.mod.kin J o.at_ o.fi o.fn (run_in1 (us := [.ref a, u]) (vs := [.ref a, y]) F hr hx I2 (.cons rfl (.cons ry .nil)) q) (hs _ _)
def rLenO (C : Addr) (sp : Sp) (E : XK) : List V → Hp → VK → Prop := fun xs H Q => ∃ a dx fs, xs = [.ref a] ∧ H a = some (.ins C dx fs) ∧ sp [.ref a] H (fun v H' => ∃ n : Nat, v = .int n ∧ n < 1000 ∧ Q (.int n) H') E
theorem call_lenO (o : OwnM X.K C "__len__" f) (F : FnR X.prog X.w X.K X.mg X.base CX k f sp) (hr : Room (k + 1) X.A) (hx : Passes CX X E) : CallR X (.builtin "len") (rLenO C sp E) := by
  intro pins s σ H xs us Q I r h
  obtain ⟨a, dx, fs, rfl, ea, q⟩ := h
  obtain ⟨u, rfl, ru⟩ := vals1 r
  obtain rfl : u = Value.ref a := ru
  obtain ⟨mA, O, _⟩ := ins_get I.hok ea
  obtain ⟨od, J, _⟩ := O.look
  obtain ⟨m0, Fm⟩ := I.fr
  refine PySem.W.len_K Fm I.ok.mod.kin J o.at_ o.fn (thn (run_in1 (us := [.ref a]) (vs := [.ref a]) F hr hx I (.cons rfl .nil) q) fun u s' hq => ?_)
  obtain ⟨z, H', I', rz, n, rfl, hn, qz⟩ := hq
  obtain ⟨t, rfl⟩ := rz
  refine ⟨⟨by omega, by omega⟩, ?_⟩
  exact ⟨.int n, H', I'.tok _, ⟨_, rfl⟩, qz⟩
def rSetO (C : Addr) (sp : Sp) (E : XK) : TSet := fun o i v H Q => ∃ a dx fs, o = .ref a ∧ H a = some (.ins C dx fs) ∧ sp [.ref a, i, v] H (fun _ H' => Q H') E
theorem set_own (o : OwnM X.K C "__setitem__" f) (F : FnR X.prog X.w X.K X.mg X.base CX k f sp) (hr : Room k X.A) (hx : Passes CX X E) : PSet X (rSetO C sp E) := by
  intro pins s σ H ov i v ou iu u Q I ro ri rv h
  obtain ⟨a, dx, fs, rfl, ea, q⟩ := h
  obtain rfl : ou = Value.ref a := ro
  obtain ⟨mA, O, _⟩ := ins_get I.hok ea
  obtain ⟨od, J, _⟩ := O.look
  obtain ⟨m0, Fm⟩ := I.fr
  refine PySem.W.ksp_setItem Fm I.ok.mod.kin J o.nq o.at_ o.fn (thn (wpAny_call (run_fnR (us := [.ref a, iu, u]) (vs := [.ref a, i, v]) F hr hx I (.cons rfl (.cons ri (.cons rv .nil))) q)) fun w s' hq => ?_)
  obtain ⟨z, H', I', rz, qz⟩ := hq
  exact ⟨H', I', qz⟩
end

/-! ### the rules that name K, for blocks of comprehensions (whose K is K) -/
section
variable {X : Cx} {K : PySem.W.Frag}
theorem ix_listK (e : X.K = K) : IxR X (rIxL K) := e ▸ ix_list
theorem ix_tupK (e : X.K = K) : IxR X (rIxT K) := e ▸ ix_tup
theorem sl_listK (e : X.K = K) : SlR X (rSlL K) := e ▸ sl_list
theorem sl_tupK (e : X.K = K) : SlR X (rSlT K) := e ▸ sl_tup
theorem op_catTK (e : X.K = K) : OpR X (binaryOp .Add) (rCatT K) := e ▸ op_catT
theorem op_in_seqK (e : X.K = K) : OpR X (compareOp .In) (rIn K false) := e ▸ op_in_seq
theorem op_notIn_seqK (e : X.K = K) : OpR X (compareOp .NotIn) (rIn K true) := e ▸ op_notIn_seq
theorem op_eqDK (e : X.K = K) (hu : X.A.units + 64 < cLine) : OpR X (compareOp .Eq) (rEqD K) := e ▸ op_eqD hu
theorem op_neDK (e : X.K = K) (hu : X.A.units + 64 < cLine) : OpR X (compareOp .NotEq) (rNeD K) := e ▸ op_neD hu
def rLn (K : PySem.W.Frag) : List V → Hp → VK → Prop := fun xs H Q => ∃ p ys, xs = [.ref p] ∧ (SqL K H p ys ∨ SqT K H p ys) ∧ Q (.int (List.length (α := V) ys : Nat)) H
theorem call_len_seqK (e : X.K = K) : CallR X (.builtin "len") (rLn K) := e ▸ call_len_seq
def rLo (K : PySem.W.Frag) : List V → Hp → VK → Prop := fun xs H Q => ∃ p ys, xs = [.ref p] ∧ (SqL K H p ys ∨ SqT K H p ys) ∧ ∀ l, H l = none → Q (.ref l) (upd H l (.lst ys))
theorem call_list_ofK (e : X.K = K) : CallR X (.type "list") (rLo K) := e ▸ call_list_of
theorem call_isiK' (e : X.K = K) : CallR X (.builtin "isinstance") (rIsi K) := e ▸ call_isi
theorem pe_fldK {e : Expr} {f : Str} {ta : TE} {pos : Pos} (ek : X.K = K) (he : PE X e ta) (hb : attributeBase e f X.env (eval e X.env) = eval e X.env) : PE X (.Attribute e f pos) (tFld K ta f) := ek ▸ pe_fld he hb
theorem pi_listK {l tg : Expr} {tl : TE} (e : X.K = K) (hl : PE X l tl) : PI X tg l (iList K tl) := e ▸ pi_list hl
theorem pi_tupK {l tg : Expr} {tl : TE} (e : X.K = K) (hl : PE X l tl) : PI X tg l (iTup K tl) := e ▸ pi_tup hl
end
end Hue

set_option Elab.async false
set_option linter.all false
set_option maxRecDepth 100000
set_option maxHeartbeats 4000000
/-! try .. except X as e: suite, where e is tracked as a value; defs called in such a suite; isinstance of such a value. -/
namespace Hue
open PySem PySem.Spec PyProof.Rows L2

/-- a caught error of the class cls at a, its own dict at d -/
def Exn (cls : Value) (d : Option Addr) (a : Addr) : HO := .ext fun h => ∃ (oe : Obj) (vs : Array Value), h.get? a = some oe ∧ Zc cls d oe ∧ oe.data = .fields vs
theorem exn_ok {P : Program} {w : World} {H : Hp} {h : Heap} {a : Addr} {cls : Value} {d : Option Addr} {oe : Obj} {vs : Array Value} (e : h.get? a = some oe) (z : Zc cls d oe) (q : oe.data = .fields vs) : ObjOk P w H h a (Exn cls d a) :=
  ⟨⟨oe, vs, e, z, q⟩, ⟨oe, e⟩, fun _ _ ⟨o, v, q, r⟩ k => ⟨o, v, k o q, r⟩⟩
section
variable {X : Cx} {pins : List (Addr × Obj)} {σ : L2.St} {H : Hp} {sI s s' : Shared} {B : Heap} {a : Addr}
theorem landedX {cls : Value} {d : Option Addr} {oe : Obj} {vs : Array Value} (I : Inv X pins σ H sI) (nb : ∀ b o, sI.heap.get? b = some o → b ∉ frs X.stack → B.get? b = some o) (st : B.StaysIn s'.heap) (up : sI.heap.UpToSlots s'.heap) (os : s'.os = sI.os) (ag : AllBare s'.gens)
    (hne : sI.heap.get? a = none) (na : H a = none) (e : s'.heap.get? a = some oe) (z : Zc cls d oe) (q : oe.data = .fields vs) : Inv X pins σ (upd H a (Exn cls d a)) s' := by
  have nf : ∀ b ∈ frs X.stack, ∀ o, sI.heap.get? b = some o → ∃ sl, s'.heap.get? b = some { o with slots := sl } := fun b hb o e => by
    obtain ⟨_, o', e', hd⟩ := I.stack.mem hb
    rw [e] at e'; cases e'
    exact up b o e hd
  have ne : ∀ b o, sI.heap.get? b = some o → b ≠ a := fun b o e z => by rw [z, hne] at e; cases e
  have hokS : HOk X.prog X.w H s'.heap := (I.inGround nb).kept st
  have J := I.call (ch := []) (h' := s'.heap) (g' := s'.gens) (t' := s'.toks) (d' := s'.drawn) (H' := upd H a (Exn cls d a))
    ⟨fun b o e _ hb _ => st b o (nb b o e hb), fun b o e _ hb _ => nf b hb o e, fun b o e n _ => by rw [upd_ne (ne b o e)]; exact n, fun b o e _ => by
      by_cases hb : b ∈ frs X.stack
      · obtain ⟨sl, q⟩ := nf b hb o e
        exact ⟨_, q⟩
      · exact ⟨o, st b o (nb b o e hb)⟩, fun b xs e => by rw [upd_ne (ne_of_none e na)]; exact e, fun b o u e => by rw [upd_ne (ne_of_none e na)]; exact e, fun b ps e => ⟨#[], by rw [upd_ne (ne_of_none e na), e]; simp⟩⟩
    (HOk.laidN hokS (fun _ _ z => z) na (exn_ok e z q)) ag (fun _ z => nomatch z)
  obtain ⟨a1, a2, a3, a4, a5⟩ := s'
  have e5 : a5 = sI.os := os
  subst e5
  exact J
theorem toSuite (I : Inv X pins σ H s) (a : Addr) : Inv (X.suite a (X.pn ++ pins)) [] σ H s :=
  ⟨I.ok.suite _ _, I.os, I.bare, I.base, I.loc, I.cell, I.free, I.freeC, fun p hp => I.pin p (by rw [List.append_nil] at hp; exact hp), I.hok, I.len⟩
theorem ofSuite {pn' : List (Addr × Obj)} (I : Inv (X.suite a (X.pn ++ pins)) pn' σ H s) (ok : X.Ok) : Inv X pins σ H s :=
  ⟨ok, I.os, I.bare, I.base, I.loc, I.cell, I.free, I.freeC, fun p hp => I.pin p (List.mem_append_left _ hp), I.hok, I.len⟩
end
/-- what the clause 'except x as n' wishes of an exception of the body -/
def wTry (K : PySem.W.Frag) (c : Value) (i : Nat) (ts : TS) (Wout : WX) (D : Ends) : WX := fun cls d σ H =>
  ∃ b, PySem.W.exmOne K cls c = some b ∧ (b = true → ∀ a, H a = none → ts { nx := fun σ' H' => D.nx (σ'.set i none) H', rt := D.rt, bk := fun σ' H' => D.bk (σ'.set i none) H', ct := fun σ' H' => D.ct (σ'.set i none) H' } (σ.set i (some (.ref a))) (upd H a (Exn cls d a))) ∧
    (b = false → Wout cls d σ H)
section
variable {X : Cx} {x n : Str} {c : Value} {i : Nat} {body suite : List Stmt} {b₀ : Stmt} {np pos pos' : Pos} {tb : WX → TS} {ts : TS} {Wout : WX}
theorem ps_try_val (hs : X.stack = X.env :: X.outer) (hf : X.env.frame = some X.env.locals) (hN : X.N.Nodup) (hi : X.N[i]? = some n) (hln : X.env.kindOf n = some .local) (hc : Names X x c) (tk : Takes X Wout)
    (hb : ∀ (W : WX) (pn : List (Addr × Obj)) (xe : Value → Shared → Prop), Takes (X.tr pn xe) W → PassesOwn (model X.prog X.w) X.A X.env xe → PSs (X.tr pn xe) body (tb W))
    (hsu : ∀ (a : Addr) (pn : List (Addr × Obj)), PSs (X.suite a pn) (b₀ :: suite) ts) :
    PS X (.Try body [.ExceptHandler (some (.Name x np)) (some n) (b₀ :: suite) pos'] [] [] pos) (fun D σ H => tb (wTry X.K c i ts Wout D) D σ H) := by
  refine ⟨fun pins s σ H D I h => ?_⟩
  have ok := I.ok
  have hfr : X.A.frames = some (X.env :: X.outer) := by rw [ok.frames, hs]
  have hloc : Loc X.env.scope n := .inl hln
  refine wpAny_Try_except ?_
  refine wpAny_mono ((hb (wTry X.K c i ts Wout D) (X.pn ++ pins) (fun e s₁ => wpAny (model X.prog X.w) X.A (noteFrame e X.env) (fun _ s₂ => wpAny (model X.prog X.w) X.A (setFlight e none) (fun _ s₃ =>
    wpAny (model X.prog X.w) X.A (handleBy e X.env [.ExceptHandler (some (.Name x np)) (some n) (b₀ :: suite) pos']) (SP X pins D) X.xe s₃) X.xe s₂) X.xe s₁) (fun u s' xx => ?_) PassesOwn.looking).run [] s σ H D (I.toTry _) h) (fun f s1 hsp => ?_) (fun e s1 he => he)
  · obtain ⟨a, B, sI, pins', σ', H', cls, d, rfl, J', nb, up, sky, na, os, ag, b, hb1, hyes, hno⟩ := xx
    have J : Inv X pins σ' H' sI := J'.ofTry ok
    have sky' : Sky B (X.env :: X.outer) a (Zc cls d) X.env.locals s'.heap := by rw [← hs]; exact sky
    show wpAny (model X.prog X.w) X.A (noteFrame (.ref a) X.env) _ _ _
    refine Sky.land Zc.steady hfr hf sky' fun h3 fl3 up3 => ?_
    have J3 : Inv X pins σ' H' { s' with heap := h3 } := J.landed nb fl3.1 (up.trans up3) os ag
    obtain ⟨oe3, vs3, he3, hz3, hd3⟩ := fl3.there
    have notFr : ∀ {h : Heap} {o : Obj} {vs : Array Value}, h.FunFrames B (X.env :: X.outer) → h.get? a = some o → o.data = .fields vs → a ∉ frs (X.env :: X.outer) := fun {h o vs} ff e dd hm => by
      obtain ⟨_, o', e', hnf⟩ := ff.mem hm
      rw [e] at e'; cases e'
      exact hnf _ dd
    have nfr := notFr fl3.2.2.1 he3 hd3
    have nI : sI.heap.get? a = none := by
      cases q : sI.heap.get? a with
      | none => rfl
      | some o =>
        have z := nb a o q (by rw [hs]; exact nfr)
        rw [fl3.2.1] at z
        cases z
    have S3 := toSuite J3 a
    refine wpAny_handleBy_cons (codeAny_handlers_test ?_) (by intro q; cases q)
    have LT : PySem.W.Looks (model X.prog X.w) h3 (typeOf (.ref a)) cls := fun A Q E s k q => wpAny_typeOf_ref (k _ _ he3) (by rw [hz3.1]; exact q)
    have LM := PySem.W.exm_one (M := model X.prog X.w) (J3.kIn) LT hb1
    have test : ∀ {Q : Value → Shared → Prop} {E : Value → Shared → Prop}, Q c { s' with heap := h3 } → wpAny (model X.prog X.w) (X.A.mark (some (.ref a))) (eval (.Name x np) X.env) Q E { s' with heap := h3 } := fun {Q E} q => by
      obtain ⟨hg, hdbg, hm | ⟨hm, hv, hnn⟩⟩ := hc
      · exact ld_glob (X := X.suite a (X.pn ++ pins)) S3 hg hm q hdbg
      · exact ld_blt (X := X.suite a (X.pn ++ pins)) S3 hg hm hv q hnn hdbg
    refine test (LM.here ?_)
    cases b with
    | true =>
      refine codeAny_handlers_suite_as ?_
      refine HandSPX.lands_againZ fl3 fun h4 fl4 up4 => ?_
      obtain ⟨oe4, vs4, he4, hz4, hd4⟩ := fl4.there
      have J4 : Inv X pins σ' (upd H' a (Exn cls d a)) { s' with heap := h4 } := landedX J nb fl4.1 ((up.trans up3).trans up4) os ag nI na he4 hz4 hd4
      have S4 := toSuite J4 a
      refine store_ok (X := X.suite a (X.pn ++ pins)) (v := .ref a) S4 hN hi hloc rfl (fun s5 S5 => ?_) (.inr hln)
      refine wpAny_mono ((hsu a (X.pn ++ pins)).run [] s5 _ _ _ S5 (hyes rfl a na)) (fun f s6 hsp => ?_) (fun _ _ z => False.elim z)
      have end_ : ∀ {σ6 : L2.St} {H6 : Hp} {Q : Shared → Prop}, Inv (X.suite a (X.pn ++ pins)) [] σ6 H6 s6 → (∀ s7, Inv X pins (σ6.set i none) H6 s7 → Q s7) →
          wpAny (model X.prog X.w) X.A (do bindName X.env n .none; unbindBehindTheSuite X.env n pos') (fun _ s7 => Q s7) X.xe s6 := fun {σ6 H6 Q} S6 hq => gone_ok (ofSuite S6 ok) hN hi hln hq
      cases f with
      | next =>
        obtain ⟨σ6, H6, S6, q6⟩ := hsp
        exact end_ S6 fun s7 J7 => ⟨_, _, J7, q6⟩
      | brk =>
        obtain ⟨σ6, H6, S6, q6⟩ := hsp
        exact end_ S6 fun s7 J7 => ⟨_, _, J7, q6⟩
      | cont =>
        obtain ⟨σ6, H6, S6, q6⟩ := hsp
        exact end_ S6 fun s7 J7 => ⟨_, _, J7, q6⟩
      | ret u =>
        obtain ⟨v6, σ6, H6, S6, r6, q6⟩ := hsp
        exact end_ S6 fun s7 J7 => ⟨_, _, _, J7, r6, q6⟩
    | false =>
      show wpAny _ X.A (handleBy (.ref a) X.env []) _ _ _
      refine wpAny_handleBy_nil ?_
      obtain ⟨k1, k2, k3, oe, vs, T, oT, ts', he, hz, hd, h1, hr⟩ := id fl3
      unfold PySem.passOn
      refine wpAny_bind (wpAny_field he hd h1 ?_)
      rw [if_neg (show ¬ ((Value.ref T == Value.none) = true) from by simp)]
      have fin : wpAny (model X.prog X.w) X.A (setFlight (.ref a) X.env.frame) (fun _ s4 => wpAny (model X.prog X.w) X.A (throw (.ref a) : Sem Flow) (SP X pins D) X.xe s4) X.xe { s' with heap := h3 } := by
        rw [hf]
        refine HandSPX.setFlight_upZ fl3 fun h4 hh4 up4 => wpAny_throw (tk _ _ ?_)
        exact ⟨a, B, sI, pins, σ', H', cls, d, rfl, J, nb, (up.trans up3).trans up4, .inr (.inr (by rw [hs]; exact hh4)), na, os, ag, hno rfl⟩
      first
        | exact wpAny_bind (wpAny_pure (wpAny_bind fin))
        | exact wpAny_bind fin
  · cases f with
    | next =>
      obtain ⟨σ', H', J', q⟩ := hsp
      exact wpAny_execs_nil ⟨σ', H', J'.ofTry ok, q⟩
    | brk =>
      obtain ⟨σ', H', J', q⟩ := hsp
      exact ⟨σ', H', J'.ofTry ok, q⟩
    | cont =>
      obtain ⟨σ', H', J', q⟩ := hsp
      exact ⟨σ', H', J'.ofTry ok, q⟩
    | ret u =>
      obtain ⟨v, σ', H', J', r, q⟩ := hsp
      exact ⟨v, σ', H', J'.ofTry ok, r, q⟩
end
/-- no exception leaves: nothing is asked of Wout -/
theorem takes0 {X : Cx} : Takes X (fun _ _ _ _ => False) := fun _ _ ⟨_, _, _, _, _, _, _, _, _, _, _, _, _, _, _, _, w⟩ => w.elim
/-- a call in a try's body: what it may let out is wished of all slots -/
def eT (n : Nat) (W : WX) : XK := fun cls d H => ∀ σ : L2.St, σ.length = n → W cls d σ H
theorem passT {X : Cx} {W : WX} {N : List Str} (tk : Takes X W) (hN : X.N = N) : Passes (L2.CX X.prog X.w) X (eT N.length W) :=
  fun _ σ _ _ e s' I c => tk e s' (XE.of_call I (fun _ _ _ h => h σ (by rw [← hN]; exact I.len)) c)

/-! ### defs called in an except suite -/
def cxS (P : Program) (w : World) (K : PySem.W.Frag) (mg : Str → Option Value) (base : Heap) (N : List Str) (qual : Str) (scope : Scope) (f : Addr) (cd : Value) (A : Around) (outer : List Env) (s : Shared) (H : Hp) (E : XK) : Cx :=
  { cxOf CX0 P w K mg base N qual scope f cd A outer s H E with calm := false, xe := fun _ _ => False }
structure FnS (P : Program) (w : World) (K : PySem.W.Frag) (mg : Str → Option Value) (base : Heap) (k : Nat) (f : Addr) (fd : FuncData) (ps : List Str) (sp : Sp) : Prop where
  len : ∀ vs H Q E, sp vs H Q E → vs.length = ps.length
  run : ∀ (A : Around) (outer : List Env) (s : Shared) (H : Hp) (args : Args) (us : List Value) (vs : List V) (Q : VK) (E : XK), L2H.RoomH k A → Env0 P w K mg base A outer s H → BindsTo s fd args (ps.zip us) → Vals vs us → sp vs H Q E →
    codeAny (model P w) A (.call (.ref f) args) (CR CX0 outer P w H s Q E) s
theorem roomS {k : Nat} {A : Around} {v : Option Value} (r : Room k A) : L2H.RoomH k (A.mark v) := ⟨r.dp, r.un⟩
theorem inv_startS {P : Program} {w : World} {K : PySem.W.Frag} {mg : Str → Option Value} {base : Heap} {N ps : List Str} {qual : Str} {scope : Scope} {f : Addr} {cd : Value} {A : Around} {outer : List Env} {s s1 : Shared} {H : Hp} {E : XK} {us : List Value} {vs : List V}
    (S : FnScope N ps scope) (e0 : Env0 P w K mg base A outer s H) (hl : vs.length = ps.length) (r : Vals vs us)
    (x : InCallC s s.heap.objs.size (bindL (envOfC qual scope s.heap.objs.size f cd).kindOf (ps.zip us) fun _ => none) (cellsFrom (s.heap.objs.size + 1) scope.names []) (bindC (envOfC qual scope s.heap.objs.size f cd).kindOf (ps.zip us) fun _ => none) s1) :
    Inv (cxS P w K mg base N qual scope f cd A outer s H E) [] (L2.start N vs) H s1 := by
  have hpl : ps.length ≤ N.length := by have := congrArg List.length S.pre; rw [List.length_take] at this; omega
  obtain ⟨h1, tk, rfl, hk⟩ := x.done
  have noA : ∀ b : Addr, b ∉ (cxS P w K mg base N qual scope f cd A outer s H E).ex := fun b z => absurd (show b ∈ ([] : List Addr) from z) (by simp)
  refine ⟨⟨e0.mod, S.kind, rfl, rfl, Nat.le_refl _, fun y z c h1 h2 => ?_, fun y hy => ?_, fun y c _ h => ?_, (fun z => Bool.noConfusion (show false = true from z)), Around.frames_deeper e0.frames, .inr ⟨rfl, rfl⟩, fun b z => absurd z (noA b), e0.bs, e0.bsz, fun b _ _ => noA b, fun b z => absurd z (noA b), e0.funs, e0.frf⟩,
    rfl, e0.bare, Un.kept hk, ⟨_, x.toInCall.ns, fun i y v h1 h2 h3 => ?_⟩, fun y c h => ⟨_, x.cell y c h⟩, e0.hok.fresh (Nat.le_refl _), fun y c h => ?_, fun q hq => ?_, e0.hok.kept hk, ?_⟩
  · exact name_of_addr x.apart (PySem.mem_of_lookup h1) (PySem.mem_of_lookup h2)
  · have hy : scope.names.lookup y = some .cell ∨ scope.names.lookup y = some .free := hy
    rcases hy with hy | hy
    · exact cell_has hy
    · exact absurd rfl (S.nofree _ (PySem.mem_of_lookup hy))
  · exact Nat.le_of_lt (x.above y c (PySem.mem_of_lookup h))
  · have hi : i < vs.length := by
      unfold L2.start at h2
      by_cases hi : i < vs.length
      · exact hi
      · rw [List.getElem?_append_right (by simpa using hi)] at h2
        rw [List.getElem?_replicate] at h2
        split at h2 <;> cases h2
    have ha : vs[i]? = some v := by
      unfold L2.start at h2
      rw [List.getElem?_append_left (by simpa using hi), List.getElem?_map] at h2
      cases e : vs[i]? with
      | none => rw [e] at h2; cases h2
      | some a => rw [e] at h2; cases h2; rfl
    obtain ⟨u, hu, rv⟩ := r.get ha
    have hp : ps[i]? = some y := by
      rw [← S.pre, List.getElem?_take_of_lt (by omega)]; exact h1
    have ndP : ps.Nodup := by rw [← S.pre]; exact S.nd.sublist (List.take_sublist _ _)
    refine ⟨u, rv, ?_⟩
    rcases S.par y (List.mem_of_getElem? hp) with k | k
    · exact .inl ⟨k, bindL_get ndP hp hu k⟩
    · obtain ⟨c, e⟩ := cell_has (n := s.heap.objs.size + 1) k
      refine .inr ⟨.inl k, c, e, ?_⟩
      have q := x.cell y c e
      rw [bindC_get ndP hp hu (by show scope.names.lookup y ≠ _; rw [k]; decide)] at q
      exact q
  · exact e0.hok.fresh (Nat.le_of_lt (x.above y c (PySem.mem_of_lookup h)))
  · exact absurd (show q ∈ ([] : List (Addr × Obj)) ++ ([] : List (Addr × Obj)) from hq) (by simp)
  · unfold L2.start
    show _ = N.length
    rw [List.length_append, List.length_map, List.length_replicate]
    omega
theorem fnS_of {P : Program} {w : World} {K : PySem.W.Frag} {mg : Str → Option Value} {base : Heap} {k : Nat} {f : Addr} {fd : FuncData} {name qual : Str} {params : Arguments} {body : List Stmt} {scope : Scope} {dvs : List V} {kws : List (Str × V)}
    {N ps : List Str} {sp : Sp} (F : FunD K name qual params body scope dvs kws f fd) (S : FnScope N ps scope)
    (len : ∀ vs H Q E, sp vs H Q E → vs.length = ps.length)
    (hbody : ∀ (cdv : Value) (A : Around) (outer : List Env) (s : Shared) (H : Hp) (vs : List V) (Q : VK) (E : XK), L2H.RoomH k (A.deeper (envOfC qual scope s.heap.objs.size f cdv)) → sp vs H Q E →
      ∃ t, PSs (cxS P w K mg base N qual scope f cdv A outer s H E) body t ∧ t { nx := fun _ H' => Q .non H', rt := Q } (L2.start N vs) H) :
    FnS P w K mg base (k + 1) f fd ps sp := by
  obtain ⟨oc, od, dV, kV, doc, pm, an, cdv, ct, osl, rfl, lk, hcd, _, _⟩ := F.ex
  refine ⟨len, fun A outer s H args us vs Q E hr e0 hb r hsp => ?_⟩
  have hl := len _ _ _ _ hsp
  have KX : K.In s.heap := e0.mod.kin.keeps fun b o e => (e0.bs b o e).1
  have lim : s.heap.NoLimit := e0.mod.nolimit.keeps fun b o e => (e0.bs b o e).1
  have hkind : ∀ y ∈ ps.zip us, scope.names.lookup y.1 = some .local ∨ (scope.names.lookup y.1 = some .cell ∧ ((cellsFrom (s.heap.objs.size + 1) scope.names []).lookup y.1).isSome = true) := fun ⟨n, v⟩ hy => by
    rcases S.par n (List.of_mem_zip hy).1 with q | q
    · exact .inl q
    · exact .inr ⟨q, PySem.W.cellsFrom_some _ _ _ (.inl q)⟩
  refine codeAny_call_function hr.depth (KX _ _ lk) rfl S.co S.gen rfl (PySem.W.codeRec_of KX hcd) (hb _ _ _ _ ?_)
  refine wpAny_newFunctionEnv_cells S.kind hkind fun env he s1 x => ?_
  subst he
  refine ⟨lim.keeps x.toInCall.keep, codeAny_func ?_⟩
  obtain ⟨t, ht, hq⟩ := hbody cdv A outer s H vs Q E (hr.deeper _) hsp
  have I : Inv (cxS P w K mg base N qual scope f cdv A outer s H E) [] (L2.start N vs) H s1 := inv_startS S e0 hl r x
  refine wpAny_mono (ht.run [] s1 (L2.start N vs) H _ I hq) (fun fl s' hs => ?_) fun e s' hs => False.elim hs
  have fin : ∀ {σ' : L2.St} {H' : Hp} {v : V} {u : Value}, Inv (cxS P w K mg base N qual scope f cdv A outer s H E) [] σ' H' s' → RelV v u → Q v H' → CE outer P w H s Q u s' :=
    fun {σ' H' v u} J rv q => ⟨v, H', J.os, J.bare, J.base, J.hok, rv, q⟩
  cases fl with
  | ret u =>
    obtain ⟨v, σ', H', J, rv, q⟩ := hs
    exact fin J rv q
  | next =>
    obtain ⟨σ', H', J, q⟩ := hs
    exact fin (v := V.non) (u := Value.none) J rfl q
  | brk =>
    obtain ⟨_, _, _, q⟩ := hs
    exact False.elim q
  | cont =>
    obtain ⟨_, _, _, q⟩ := hs
    exact False.elim q
section
variable {X : Cx} {k : Nat} {f C : Addr} {fd : FuncData} {ps : List Str} {sp : Sp} {E : XK} {x m : Str} {q pos apos : Pos} {e o : Expr} {es : List Expr} {ta : TE} {t : TA}
theorem run_fnX {pins : List (Addr × Obj)} {σ : L2.St} {H : Hp} {s : Shared} {Q : VK} {us : List Value} {vs : List V} (F : FnS X.prog X.w X.K X.mg X.base k f fd ps sp) (hr : L2H.RoomH k X.A) (hb : Binds X.K fd ps [])
    (I : Inv X pins σ H s) (r : Vals vs us) (h : sp vs H Q E) : wpAny (model X.prog X.w) X.A (call (.ref f) us) (EP X pins σ Q) X.xe s := by
  have hl : us.length = ps.length := by rw [← r.length]; exact F.len _ _ _ _ h
  have b := hb s us I.kIn (by rw [List.append_nil]; exact hl)
  rw [List.append_nil] at b
  refine wpAny_call (codeAny_mono (F.run X.A X.stack s H ⟨us, []⟩ us vs Q E hr I.env0 b r h) fun r s' hq => ?_)
  cases r with
  | error e => exact hq.elim
  | ok fl =>
    cases fl with
    | ret u => exact I.after hq
    | next => exact False.elim hq
    | brk => exact False.elim hq
    | cont => exact False.elim hq
theorem pe_callX (F : FnS X.prog X.w X.K X.mg X.base k f fd ps sp) (hr : L2H.RoomH k X.A) (hg : Gl X x) (hm : X.mg x = some (.ref f)) (hk : PySem.W.keepIn X.K (.ref f) = true) (hb : Binds X.K fd ps [])
    (ha : PA X (e :: es) t) (hdb : (x == ("__debug__" : Str)) = false := by decide) (he : starEach (e :: es) X.env = (false, eval e X.env) :: starEach es X.env := by rfl) (hpl : (backTo pos (starEach es X.env)).any (·.1) = false := by rfl) :
    PE X (.Call (.Name x q) (e :: es) [] pos) (fun σ H Q => t σ H fun vs H1 => sp vs H1 Q E0) := by
  refine ⟨fun pins s σ H Q I h => ?_⟩
  refine wpAny_Call_Name_kw (ld_glob I hg hm ?_ hdb)
  refine PySem.W.callWith_K (h₀ := X.base) I.ok.mod.kin hk (thn (ha.run pos pins s σ H _ I h) fun us s1 ⟨vs, H1, I1, r, q⟩ => ⟨I1.kIn, ?_⟩) he hpl
  exact run_fnX F hr hb I1 r q
end

/-! ### isinstance of a caught error -/
/-- isinstance(e, c) -/
def rIsX (K : PySem.W.Frag) (D : Addr) : List V → Hp → VK → Prop := fun xs H Q => ∃ (a : Addr) (c : V) (u : Value) (b : Bool), xs = [.ref a, c] ∧ H a = some (Exn (.ref D) none a) ∧ ClsV c u ∧ PySem.W.kitOne K (.ref D) u = some b ∧ Q (.bl b) H
def rIsXT (K : PySem.W.Frag) (D : Addr) : List V → Hp → VK → Prop := fun xs H Q => ∃ (a tp : Addr) (cs : List V) (us : List Value) (b : Bool), xs = [.ref a, .ref tp] ∧ H a = some (Exn (.ref D) none a) ∧ H tp = some (.tup cs) ∧ Paired ClsV cs us ∧ PySem.W.kitAny K (.ref D) us = some b ∧ Q (.bl b) H
section
variable {X : Cx} {D : Addr} {pins : List (Addr × Obj)} {σ : L2.St} {H : Hp} {s : Shared}
theorem exn_at {a : Addr} {cls : Value} {d : Option Addr} (I : Inv X pins σ H s) (h : H a = some (Exn cls d a)) : ∃ (oe : Obj) (vs : Array Value), s.heap.get? a = some oe ∧ Zc cls d oe ∧ oe.data = .fields vs := (I.hok a _ h).1
theorem exn_inst {a : Addr} (I : Inv X pins σ H s) (h : H a = some (Exn (.ref D) none a)) : ∃ oe, PySem.W.InstAt s.heap a oe D none := by
  obtain ⟨oe, vs, hget, hz, hv⟩ := exn_at I h
  refine ⟨oe, ?_⟩
  obtain ⟨oc, od, oda, osl⟩ := oe
  obtain ⟨h1, h2⟩ := hz
  dsimp only at h1 h2 hv
  subst h1 h2 hv
  exact ⟨hget, rfl, rfl, trivial⟩
theorem call_isX (C : ExcC X.K D) : CallR X (.builtin "isinstance") (rIsX X.K D) := by
  intro pins s σ H xs us Q I r h
  obtain ⟨a, c, u, b, rfl, ha, hcv, e, q⟩ := h
  obtain ⟨u1, u2, rfl, r1, r2⟩ := vals2 r
  obtain rfl : u1 = Value.ref a := r1
  have ec := hcv.eq r2
  subst ec
  obtain ⟨oe, J⟩ := exn_inst I ha
  exact PySem.W.kia_one (PySem.W.handS_kitx_exc C.hg C.hk C.hs C.hd C.ha C.hn C.ht C.hm) I.kIn J e (fun z => nomatch z) fun tk => ⟨.bl b, H, I.tok tk, rfl, q⟩
theorem call_isXT (C : ExcC X.K D) : CallR X (.builtin "isinstance") (rIsXT X.K D) := by
  intro pins s σ H xs us Q I r h
  obtain ⟨a, tp, cs, ws, b, rfl, ha, hT, k, e, q⟩ := h
  obtain ⟨u1, u2, rfl, r1, r2⟩ := vals2 r
  obtain rfl : u1 = Value.ref a := r1
  cases (show u2 = Value.ref tp from r2)
  obtain ⟨oe, J⟩ := exn_inst I ha
  obtain ⟨_, its, rv, o, h1, h2, n, h3⟩ := (show ObjOk X.prog X.w H s.heap tp (.tup cs) from I.hok tp _ hT)
  have e3 := ClsV.all k rv
  subst e3
  obtain ⟨oc, od, dt, sl⟩ := o
  simp only at h2 h3
  subst h2 h3
  exact PySem.W.kia_tup (PySem.W.handS_kitx_exc C.hg C.hk C.hs C.hd C.ha C.hn C.ht C.hm) I.kIn J h1 e (fun z => nomatch z) fun tk => ⟨.bl b, H, I.tok tk, rfl, q⟩
end
/-! ### own == and its reflection; str(o) -/
section
variable {prog : Program} {w : World} {A : Around} {E : Value → Shared → Prop} {s : Shared} {K : PySem.W.Frag} {y C f : Addr} {oy : Obj} {od : Option Obj} {h₀ : Heap} {L : Addr} {m : Str → Option Value} {x : Value}
theorem decl_none {Q : Value → Shared → Prop} (h : Q .notImplemented s) : wpAny (model prog w) A (call (.builtin "NoneType.__eq__") [.none, .ref y]) Q E s :=
  call_gives F.slot_NoneType_eq_refl rfl F.entry_NoneType_eq (F.args_NoneType_eq_2 _ _) (PySem.SeqAt.NoneType___eq___none_ref_0 y) h
theorem decl_str {z : Str} {t : Tok} {Q : Value → Shared → Prop} (hg : s.heap.get? y = some oy) (hp : oy.data = .plain) (h : Q .notImplemented s) : wpAny (model prog w) A (call (.builtin "str.__eq__") [.str z t, .ref y]) Q E s := by
  refine GQ.call_here F.slot_str_eq (typeIs_str s z t) F.entry_str_eq (F.args_str_eq_2 _ _) ?_
  obtain ⟨c, d, dt, sl⟩ := oy
  dsimp only at hp
  subst hp
  obtain ⟨hp, g, d, tk, os⟩ := s
  wp_walk
  exact h
theorem decl_tup {l : Addr} {Q : Value → Shared → Prop} (hT : s.TypeIs (.ref l) "tuple") (X : K.In s.heap) (I : PySem.W.InstAt s.heap y oy C od) (hs : PySem.W.subIn K (.ref C) (.type "tuple") = some false) (h : Q .notImplemented s) :
    wpAny (model prog w) A (call (.builtin "tuple.__eq__") [.ref l, .ref y]) Q E s := by
  refine GQ.call_here F.slot_tuple_eq hT F.entry_tuple_eq (F.args_tuple_eq_2 _ _) ?_
  have LI : PySem.W.Looks (model prog w) s.heap (isInstance (.ref y) (.type "tuple")) false := I.type.andThen (PySem.W.looks_subIn X hs)
  obtain ⟨hp, g, d, tk, os⟩ := s
  wp_walk using LI.here
  exact h
theorem decl_lst {l : Addr} {Q : Value → Shared → Prop} (hT : s.TypeIs (.ref l) "list") (X : K.In s.heap) (I : PySem.W.InstAt s.heap y oy C od) (hs : PySem.W.subIn K (.ref C) (.type "list") = some false) (h : Q .notImplemented s) :
    wpAny (model prog w) A (call (.builtin "list.__eq__") [.ref l, .ref y]) Q E s := by
  refine GQ.call_here F.slot_list_eq hT F.entry_list_eq (F.args_list_eq_2 _ _) ?_
  have LI : PySem.W.Looks (model prog w) s.heap (isInstance (.ref y) (.type "list")) false := I.type.andThen (PySem.W.looks_subIn X hs)
  obtain ⟨hp, g, d, tk, os⟩ := s
  wp_walk using LI.here
  exact h
theorem rc_refl {T id : String} {Q : Value → Shared → Prop} (hu : A.units < cLine) (Fm : PyProof.Rows.Fr h₀ L s.heap m) (X₀ : K.In h₀) (I : PySem.W.InstAt s.heap y oy C od) (hT : s.TypeIs x T) (slot : Slot T "__eq__" id)
    (hd : ∀ Q : Value → Shared → Prop, Q .notImplemented s → wpAny (model prog w) A (call (.builtin id) [x, .ref y]) Q E s) (hsub : PySem.W.subIn K (.ref C) (.type T) = some false)
    (hs : PySem.W.findIn K (.ref C) "__eq__" = some (some (.ref f))) (hf : PySem.W.isFn K (.ref f) = true)
    (h : wpAny (model prog w) A (call (.ref f) [.ref y, x]) (PySem.W.CmpBack Q) E s) : wpAny (model prog w) A (richCompare .Eq x (.ref y)) Q E s := by
  have X := X₀.keeps Fm.keep
  have one : wpAny (model prog w) A (tryCompare x "__eq__" (.ref y)) (fun r s' => r = none ∧ s' = s) E s := wpAny_tryCompare_declines hT slot (hd _ ⟨rfl, rfl, rfl⟩)
  have two : wpAny (model prog w) A (tryCompare (.ref y) "__eq__" x) (fun r s' => ∃ v, r = some v ∧ Q v s') E s := by
    unfold tryCompare
    refine wpAny_bind (PySem.W.ifBound_K X I hs hf (wpAny_mono h (fun v s' hv => ?_) fun _ _ e => e))
    cases v <;> first | exact hv.elim | exact wpAny_pure ⟨_, rfl, hv⟩
  simp only [richCompare, cmpInfo_Eq, hT.oneThing_none]
  refine wpAny_holding (wpAny_bind (wpAny_cRoomFor hu ?_))
  refine wpAny_bind (wpAny_typeOf hT ?_)
  refine wpAny_bind (I.type.here ?_)
  split
  · refine wpAny_bind ((PySem.W.looks_subIn X hsub).here ?_)
    simp only [Bool.false_eq_true, if_false, Bool.not_false, if_true]
    refine wpAny_bind (m := tryCompare x _ (.ref y)) (wpAny_mono one (fun r s1 z => ?_) fun _ _ e => e)
    obtain ⟨z1, z2⟩ := z
    subst z1
    subst z2
    refine wpAny_bind (m := tryCompare (.ref y) _ x) (wpAny_mono two (fun r s2 z => ?_) fun _ _ e => e)
    obtain ⟨v, rfl, hq⟩ := z
    exact wpAny_pure hq
  · rename_i q
    exact absurd (by simp) q
end
theorem excC_ok {K : PySem.W.Frag} {D : Str} (c : (Fx.excC D).ok K = true) : ExcC K (gad D K) := by
  obtain ⟨c1, c⟩ := He.ba c
  obtain ⟨c2, c⟩ := He.ba c
  obtain ⟨c3, c⟩ := He.ba c
  obtain ⟨c4, c⟩ := He.ba c
  obtain ⟨c5, c⟩ := He.ba c
  obtain ⟨c6, c⟩ := He.ba c
  obtain ⟨c7, c8⟩ := He.ba c
  exact ⟨He.eqO_ok c1, He.eqO_ok c2, of_decide_eq_true c3, c4, He.eqO_ok c5, He.eqO_ok c6, of_decide_eq_true c7, of_decide_eq_true c8⟩
/-- o == y, o an own instance with an own ==, y no instance of a class below -/
def rEqO (K : PySem.W.Frag) (C : Addr) (sp : Sp) (E : XK) : R2 := fun x y H Q => ∃ a dx fs t, x = .ref a ∧ H a = some (.ins C dx fs) ∧ TyX K H y t ∧ PySem.W.notFirst K C t = true ∧ sp [x, y] H Q E
/-- x == o, x None, a text, a tuple or a list -/
def rEqR (K : PySem.W.Frag) (C : Addr) (sp : Sp) (E : XK) : R2 := fun x y H Q => ∃ a dx fs, y = .ref a ∧ H a = some (.ins C dx fs) ∧ (x = .non ∨ (∃ z, x = .str z) ∨ ∃ p xs, x = .ref p ∧ (SqT K H p xs ∨ SqL K H p xs)) ∧ sp [y, x] H Q E
def rStrO (C : Addr) (sp : Sp) (E : XK) : List V → Hp → VK → Prop := fun xs H Q => ∃ a dx fs, xs = [.ref a] ∧ H a = some (.ins C dx fs) ∧ sp [.ref a] H (fun v H' => ∃ z : Str, v = .str z ∧ Q (.str z) H') E
/-- the class at C has no base among None's, texts', tuples', lists' types -/
structure NoSubs (K : PySem.W.Frag) (C : Addr) : Prop where
  non : PySem.W.subIn K (.ref C) (.type "NoneType") = some false
  str : PySem.W.subIn K (.ref C) (.type "str") = some false
  tup : PySem.W.subIn K (.ref C) (.type "tuple") = some false
  lst : PySem.W.subIn K (.ref C) (.type "list") = some false
section
variable {X : Cx} {CX : CXT} {k : Nat} {C f : Addr} {sp : Sp} {E : XK}
theorem op_eqO (o : OwnM X.K C "__eq__" f) (F : FnR X.prog X.w X.K X.mg X.base CX k f sp) (hr : Room k X.A) (hx : Passes CX X E) : OpR X (compareOp .Eq) (rEqO X.K C sp E) := by
  intro pins s σ H x y v u Q I rx ry h
  obtain ⟨a, dx, fs, t, rfl, ea, ty, nf, q⟩ := h
  obtain rfl : v = Value.ref a := rx
  obtain ⟨mA, O, _⟩ := ins_get I.hok ea
  obtain ⟨od, J, _⟩ := O.look
  obtain ⟨m0, Fm⟩ := I.fr
  obtain ⟨P, Z, p, _⟩ := kit_of I ry ty
  show wpAny (model X.prog X.w) X.A (richCompare .Eq (.ref a) u) (EP X pins σ Q) X.xe s
  refine PySem.W.cmp_K (op := .Eq) (tb := t) hr.units0 Fm I.ok.mod.kin J (Z.ty _ _ I.kIn p) nf o.at_ o.fn ?_
  refine thn (wpAny_call (run_fnR (us := [.ref a, u]) (vs := [.ref a, y]) F hr hx I (.cons rfl (.cons ry .nil)) q)) fun w s' z => ?_
  obtain ⟨z', H', I', rz, qz⟩ := z
  exact SlX.cmpback rz ⟨z', H', I', rz, qz⟩
theorem op_eqR (o : OwnM X.K C "__eq__" f) (n : NoSubs X.K C) (F : FnR X.prog X.w X.K X.mg X.base CX k f sp) (hr : Room k X.A) (hx : Passes CX X E) : OpR X (compareOp .Eq) (rEqR X.K C sp E) := by
  intro pins s σ H x y v u Q I rx ry h
  obtain ⟨a, dx, fs, rfl, ea, hx', q⟩ := h
  obtain rfl : u = Value.ref a := ry
  obtain ⟨mA, O, _⟩ := ins_get I.hok ea
  obtain ⟨od, J, _⟩ := O.look
  obtain ⟨m0, Fm⟩ := I.fr
  have fin : ∀ {x : V} {v : Value}, RelV x v → sp [.ref a, x] H Q E → wpAny (model X.prog X.w) X.A (call (.ref f) [.ref a, v]) (PySem.W.CmpBack (EP X pins σ Q)) X.xe s := fun {x v} rx q => by
    refine thn (wpAny_call (run_fnR (us := [.ref a, v]) (vs := [.ref a, x]) F hr hx I (.cons rfl (.cons rx .nil)) q)) fun w s' z => ?_
    obtain ⟨z', H', I', rz, qz⟩ := z
    exact SlX.cmpback rz ⟨z', H', I', rz, qz⟩
  show wpAny (model X.prog X.w) X.A (richCompare .Eq v (.ref a)) (EP X pins σ Q) X.xe s
  rcases hx' with rfl | ⟨z, rfl⟩ | ⟨p, xs, rfl, hS | hS⟩
  · obtain rfl : v = Value.none := rx
    exact rc_refl (T := "NoneType") hr.units0 Fm I.ok.mod.kin J rfl PySem.F.slot_NoneType_eq_refl (fun _ h => decl_none h) n.non o.at_ o.fn (fin (x := .non) rfl q)
  · obtain ⟨t, rfl⟩ := rx
    exact rc_refl (T := "str") hr.units0 Fm I.ok.mod.kin J (typeIs_str s z t) PySem.F.slot_str_eq (fun _ h => decl_str J.1 rfl h) n.str o.at_ o.fn (fin (x := .str z) ⟨t, rfl⟩ q)
  · obtain rfl : v = Value.ref p := rx
    obtain ⟨its, r, e, z⟩ := I.tuple hS
    have hT : s.TypeIs (.ref p) "tuple" := by
      obtain ⟨o1, ho, hc, _⟩ := e
      exact ⟨o1, ho, hc⟩
    exact rc_refl (T := "tuple") hr.units0 Fm I.ok.mod.kin J hT PySem.F.slot_tuple_eq (fun _ h => decl_tup hT I.kIn J n.tup h) n.tup o.at_ o.fn (fin (x := .ref p) rfl q)
  · obtain rfl : v = Value.ref p := rx
    obtain ⟨its, r, pl, hz⟩ := I.list hS
    obtain ⟨o1, ho, hc, n1, hd⟩ := pl.isList
    have hT : s.TypeIs (.ref p) "list" := ⟨o1, ho, hc⟩
    exact rc_refl (T := "list") hr.units0 Fm I.ok.mod.kin J hT PySem.F.slot_list_eq (fun _ h => decl_lst hT I.kIn J n.lst h) n.lst o.at_ o.fn (fin (x := .ref p) rfl q)
theorem run_in2 {pins : List (Addr × Obj)} {σ : L2.St} {H : Hp} {s : Shared} {Q : VK} {us : List Value} {vs : List V} (F : FnR X.prog X.w X.K X.mg X.base CX k f sp) (hr : Room (k + 2) X.A) (hx : Passes CX X E) (I : Inv X pins σ H s) (r : Vals vs us) (h : sp vs H Q E) :
    wpAny (model X.prog X.w) X.A.in1.in1 (call (.ref f) us) (EP X pins σ Q) X.xe s := by
  refine wpAny_call (codeAny_mono (F X.A.in1.in1 X.stack s H us vs Q E (show Room (k + 1) X.A.in1 from hr.in1).in1 I.env0.in1.in1 r h) fun r s' hq => ?_)
  cases r with
  | error e => exact hx pins σ H s e s' I hq
  | ok fl =>
    cases fl with
    | ret u => exact I.after hq
    | next => exact False.elim hq
    | brk => exact False.elim hq
    | cont => exact False.elim hq
theorem call_strO (o : OwnM X.K C "__str__" f) (F : FnR X.prog X.w X.K X.mg X.base CX k f sp) (hr : Room (k + 2) X.A) (hx : Passes CX X E) : CallR X (.type "str") (rStrO C sp E) := by
  intro pins s σ H xs us Q I r h
  obtain ⟨a, dx, fs, rfl, ea, q⟩ := h
  obtain ⟨u, rfl, ru⟩ := vals1 r
  obtain rfl : u = Value.ref a := ru
  obtain ⟨mA, O, _⟩ := ins_get I.hok ea
  obtain ⟨od, J, _⟩ := O.look
  have hu : X.A.in1.in1.units < cLine := (show Room k X.A.in1.in1 from (show Room (k + 1) X.A.in1 from hr.in1).in1).units0
  refine PySem.W.kso_call hu I.kIn J o.at_ o.fn (thn (run_in2 (us := [.ref a]) (vs := [.ref a]) F hr hx I (.cons rfl .nil) q) fun u s' hq => ?_)
  obtain ⟨z', H', I', rz, z, rfl, qz⟩ := hq
  obtain ⟨t, rfl⟩ := rz
  exact ⟨.str z, H', I', ⟨t, rfl⟩, qz⟩
end
/-! ### C(e, ..) where slot i holds the class -/
def tMakeL (i : Nat) (C : Addr) (sp : Sp) (E : XK) (t : TA) : TE := fun σ H Q => σ[i]? = some (some (.ref C)) ∧ tMake C sp [] E t σ H Q
theorem pe_makeLp {X : Cx} {CX : CXT} {k i : Nat} {f C : Addr} {fd : FuncData} {ps : List Str} {sp : Sp} {E : XK} {x : Str} {e : Expr} {es : List Expr} {t : TA} {p pos : Pos} (M : Mk X.K C f) (F : FnOk X.prog X.w X.K X.mg X.base CX k f fd ps sp) (hr : Room (k + 1) X.A)
    (hN : X.N[i]? = some x) (hv : Vis X.env.scope x) (hb : Binds X.K fd ps []) (hx : Passes CX X E) (ha : PA X (e :: es) t)
    (hd : (x == ("__debug__" : Str)) = false := by decide) (hcd : (x == ("__classdict__" : Str)) = false := by decide) (he : starEach (e :: es) X.env = (false, eval e X.env) :: starEach es X.env := by rfl) (hpl : (backTo pos (starEach es X.env)).any (·.1) = false := by rfl) :
    PE X (.Call (.Name x p) (e :: es) [] pos) (tMakeL i C sp E t) := by
  refine ⟨fun pins s σ H Q I h => ?_⟩
  obtain ⟨hs, h⟩ := h
  refine wpAny_Call_Name_kw (thn ((pe_var (pos := p) (i := i) hN hv hd hcd).run pins s σ H (fun v H1 => v = .ref C ∧ H1 = H) I ⟨.ref C, hs, rfl, rfl⟩) fun u s1 ⟨v, H1, I1, r1, ev, eH⟩ => ?_)
  subst ev
  rw [eH] at I1
  cases r1
  refine PySem.W.callWith_K (h₀ := X.base) I1.ok.mod.kin M.kp (thn (ha.run pos pins s1 σ H _ I1 h) fun us s2 ⟨vs, H2, I2, r, q⟩ => ⟨I2.kIn, ?_⟩) he hpl
  exact run_make M F hr hb .nil hx I2 r q
end Hue

set_option Elab.async false
set_option linter.all false
set_option maxRecDepth 100000
set_option maxHeartbeats 4000000
/-! an own exception's __init__ that begins with super().__init__('..') -/
namespace Hue
open PySem PySem.Spec PyProof.Rows L2
/-- the program's file, as its code objects tell it -/
class SupP (P : Program) (fl : Str) : Prop where
  file : ((P.main.file : Str) == fl) = true
  top : (P.main.scope.names.lookup ("super" : Str)).isSome = false
/-- what the written part says: D the class of the def at f (its cell cc, its code at cda), C the object's class -/
structure SupK (K : PySem.W.Frag) (C D f cc cda : Addr) (fl ar : Str) : Prop where
  fn : ∃ oc od fd osl, K.lookup f = some ⟨oc, od, .func fd, osl⟩ ∧ ∃ a, (fd.params.posonlyargs ++ fd.params.args).head? = some a ∧ a.arg = ar
  code : ∃ oc od vs sl tf, K.lookup cda = some ⟨oc, od, .fields vs, sl⟩ ∧ vs[2]? = some (.str fl tf)
  cell : ∃ oc od sl, K.lookup cc = some ⟨oc, od, .cell (some (.ref D)), sl⟩
  cls : (PySem.W.clsIn K D).isSome = true
  clsC : (PySem.W.clsIn K C).isSome = true
  sub : PySem.W.mroIn K C (.ref D) = some true
  tp : PySem.W.nsIn K cStatics "thirdparty.any" = some none
  sup : PySem.W.ks_superIn K C D "__init__" = some (some (.builtin "ValueError.__init__"))
  ve : PySem.W.subIn K (.ref C) (.type "ValueError") = some true
section
variable {prog : Program} {w : World} {A : Around} {E : Value → Shared → Prop} {h : Heap} {g : Array GenState} {d : Drawn} {t : Nat} {os : OsState}
variable {nm q : Str} {C N : Addr} {bs bm : List Value} {hdct : Bool} {sn : List Str} {sub : List Value} {ab : Bool} {col : Option Bool} {dd : Option Addr} {k0 k1 k2 k3 k5 : Option Value}
theorem call_bwV {u e t0 : Addr} {rest : List Value} {Q : Value → Shared → Prop}
    (hC : h.get? C = some (excClassObj nm q C N bs bm hdct sn sub ab col dd k0 k1 k2 k3 k5 "ValueError.__new__")) (hbm : HandSPX.refsVE bm = true) (he : h.get? e = some (HandSPX.excO C t0)) (hu : h.get? u = some (PySem.W.kxs_mw "ValueError.__init__" e)) (hrest : rest.length ≤ sizeLine)
    (hq : ∀ h' t1, (∀ b o, b ≠ e → h.get? b = some o → h'.get? b = some o) → h'.get? e = some (HandSPX.excO C t1) → Q .none ⟨h', g, d, t, os⟩) :
    wpAny (model prog w) A (call (.ref u) rest) Q E ⟨h, g, d, t, os⟩ := by
  refine wpAny_call (codeAny_of_tree ?_)
  show wpAny _ A.in1 (callAny (.ref u) ⟨rest, []⟩) _ _ _
  simp only [callAny]
  refine wpAny_bind (wpAny_load hu ?_)
  simp only [PySem.W.kxs_mw, show (Value.type "method-wrapper" == Value.type "method" || Value.type "method-wrapper" == Value.type "builtin_function_or_method" || Value.type "method-wrapper" == Value.type "method-wrapper") = true by decide, if_true]
  refine PySem.W.KFB.if_so (by decide) ?_
  refine wpAny_bind (PySem.ESX.check_bound F.excBase_ValueError hC he rfl ?_)
  refine wpAny_bind (wpAny_pure (wpAny_pure ?_))
  refine ⟨Code.quiet_builtin _ (by decide +kernel), codeAny_builtin F.excBase_ValueError.initEntry ?_⟩
  rw [Around.under_plainId F.excBase_ValueError.init.plain _]
  wp_walk
  refine hq _ h.objs.size (fun b o hb ho => ?_) ?_
  · rw [Heap.get?_update_other _ _ (Ne.symm hb)]
    exact Heap.get?_push_of_some _ ho
  · rw [Heap.get?_update_self _ (Heap.get?_push_of_some _ he) rfl]
    rfl
end
section
variable {X : Cx} {pins : List (Addr × Obj)} {σ : L2.St} {H : Hp} {s : Shared} {a C D f cc cda : Addr} {fl ar : Str}
theorem exo_inst {t1 : Addr} (ho : s.heap.get? a = some ({ cls := .ref C, data := .fields #[.ref t1, .none, .none, .none, .bool false, .none] } : Obj)) : PySem.W.InstAt s.heap a { cls := .ref C, data := .fields #[.ref t1, .none, .none, .none, .bool false, .none] } C none := ⟨ho, rfl, rfl, trivial⟩
/-- super().__init__('..') -/
theorem sup_first [SP : SupP X.prog fl] {body : List Stmt} {p0 p1 p2 p3 p4 p5 : Pos} {m : Str} {j : Nat} {E : Value → Shared → Prop} (SK : SupK X.K C D f cc cda fl ar) (T : OexC X.K C) (hfu : X.env.func = some f) (hco : X.env.code = .ref cda) (hcl : X.env.cells.lookup ("__class__" : Str) = some cc)
    (hks : X.env.kindOf "super" = some .globalImplicit) (hkc : X.env.kindOf "__class__" = some .free) (hka : X.env.kindOf ar = some .local) (hN : X.N[0]? = some ar) (hn : X.mg "super" = none)
    (I : Inv X pins σ H s) (hσ : σ[0]? = some (some (.ref a))) (he : H a = some (exo a C none)) {pl : Sem Bool}
    (hev : eval (.Call (.Attribute (.Call (.Name "super" p0) [] [] p1) "__init__" p2) [.Constant (.str m) j p3] [] p4) X.env = (do
      let ov ← attributeBase (.Call (.Name "super" p0) [] [] p1) "__init__" X.env (eval (.Call (.Name "super" p0) [] [] p1) X.env)
      standAt p2.atName
      let (f, first) ← holding [ov] (getMethod ov "__init__" pl)
      callWith p4 f first (backTo p4 (starEach [.Constant (.str m) j p3] X.env)) []))
    (hsw : swapsWith (.Call (.Attribute (.Call (.Name "super" p0) [] [] p1) "__init__" p2) [.Constant (.str m) j p3] [] p4) none p5.line X.env = pure false) :
    PySem.wpAt (model X.prog X.w) X.A (.func body X.env) (exec (.Expr (.Call (.Attribute (.Call (.Name "super" p0) [] [] p1) "__init__" p2) [.Constant (.str m) j p3] [] p4) p5) X.env) (fun f s' => f = .next ∧ Inv X pins σ H s') E s := by
  have hk := I.ok.kind
  have KI := I.kIn
  obtain ⟨oc, od, fd, osl, hf, arg, hp, rfl⟩ := SK.fn
  obtain ⟨coc, cod, vs, csl, tf, hcda, hvs⟩ := SK.code
  obtain ⟨ceo, ced, cesl, hcc⟩ := SK.cell
  obtain ⟨t1, ho⟩ := exo_at I.hok he
  obtain ⟨cdD, hD⟩ := Option.isSome_iff_exists.mp SK.cls
  obtain ⟨oD, hD1, hD2⟩ : ∃ oD, s.heap.get? D = some oD ∧ oD.data = .cls cdD := by
    unfold PySem.W.clsIn at hD
    split at hD
    · rename_i c d cd' sl ho
      cases hD
      exact ⟨_, KI _ _ ho, rfl⟩
    · cases hD
  obtain ⟨nm, q, N, bs, bm, sn, sub, ab, col, dd, k0, k1, k2, k3, k5, hCo, hbm⟩ := T.cls
  refine ks_wpAt_Expr_any (ks_wpAt_MethodCall (pl := pl) ?_ hev) (by
    unfold interactive
    rw [hk]
    rfl) hsw
  refine ks_wpAt_super_base hks hkc (by decide) hfu (KI _ _ hf) rfl hp hco (KI _ _ hcda) rfl hvs SP.file SP.top ?_
  obtain ⟨mb, b1, b2⟩ := I.mod.blt
  refine PySem.W.ks_loadName_global hk hks (Calls.loadGlobal_builtin (by rw [I.ok.glob]; exact I.mod.glob.keeps I.bk) hn (by rw [I.ok.blt]; exact b1.keeps I.bk) ((b2 "super" (by decide)).trans (show bootBuiltins "super" = some (.type "super") by decide +kernel)) ⟨rfl, ?_⟩)
  refine wpAny_loadName_free hk hkc hcl ⟨_, KI _ _ hcc, rfl⟩ ?_
  obtain ⟨mm, hns, hlk⟩ := I.loc
  obtain ⟨u0, r0, lk⟩ := hlk 0 arg.arg (.ref a) hN hσ (.inl hka)
  obtain rfl : u0 = Value.ref a := r0
  have hm0 : mm arg.arg = some (.ref a) := by
    rcases lk with ⟨_, e⟩ | ⟨k, c, e, z⟩
    · exact e
    · exfalso
      rcases k with k | k <;> rw [hka] at k <;> cases k
  refine wpAny_loadName_local hk hka hns hm0 ?_
  obtain ⟨hh, g, dr, tk, os⟩ := s
  refine ks_wpAny_isType_cls hD1 hD2 ⟨rfl, ?_⟩
  refine ks_wpAny_call_super (cdD := cdD) hD1 hD2 ho rfl (fun c e => by cases e) (PySem.W.looks_mroIn KI SK.sub) (fun h1 e1 k1 => ?_)
  have K1 : X.K.In h1 := KI.keeps k1
  have J1 : PySem.W.InstAt h1 a { cls := .ref C, data := .fields #[.ref t1, .none, .none, .none, .bool false, .none] } C none := ⟨k1 _ _ ho, rfl, rfl, trivial⟩
  obtain ⟨cdC, hcC⟩ := Option.isSome_iff_exists.mp SK.clsC
  have hsup := SK.sup
  unfold PySem.W.ks_superIn at hsup
  rw [hcC] at hsup
  refine PySem.W.kxs_getMethod PySem.W.kxs_ValueError e1 (PySem.W.looks_opaque K1 SK.tp) (l₀ := cdC.mro) (fun A Q E s k q => wpAny_bind ((PySem.W.looks_clsIn K1 hcC) A _ E s k (wpAny_pure q))) rfl K1 hsup (J1.type.andThen (PySem.W.looks_subIn K1 SK.ve)) (PySem.W.ks_ne K1 J1 hcC) (by decide) ?_
  have kk : ∀ b o, hh.get? b = some o → (h1.push (PySem.W.kxs_mw "ValueError.__init__" a)).get? b = some o := fun b o e => Heap.get?_push_of_some _ (k1 b o e)
  have I1 : Inv X pins σ H ⟨h1.push (PySem.W.kxs_mw "ValueError.__init__" a), g, dr, tk + 1, os⟩ := I.kept (t' := tk + 1) kk
  have hu : (h1.push (PySem.W.kxs_mw "ValueError.__init__" a)).get? h1.objs.size = some (PySem.W.kxs_mw "ValueError.__init__" a) := Heap.get?_push_size _ rfl
  have hsz : hh.objs.size ≤ h1.objs.size := Nat.le_of_lt (Heap.lt_size e1)
  refine PySem.W.kxs_callWith (i := "ValueError.__init__") (x := a) rfl (Calls.evalArgs_plain ?_)
  have ha : PA X [.Constant (.str m) j p3] (tCons (tC (.str m)) tNil) := pa_cons pe_str pa_nil
  have I2 : Inv X ((h1.objs.size, PySem.W.kxs_mw "ValueError.__init__" a) :: pins) σ H ⟨h1.push (PySem.W.kxs_mw "ValueError.__init__" a), g, dr, tk + 1, os⟩ := I1.pins_of fun q hq => by
    rcases List.mem_cons.mp hq with e | e
    · subst e
      exact ⟨hu, I.hok.fresh hsz, Nat.ne_of_gt (Nat.lt_of_lt_of_le I.lt hsz), I.nofs hsz, fun v z => nomatch z⟩
    · exact I1.pin q (List.mem_append_right _ e)
  refine thn (ha.run p4 _ _ σ H (fun vs H1 => vs = [V.str m] ∧ H = H1) I2 ⟨rfl, rfl⟩) fun us s3 hh3 => ?_
  obtain ⟨vs3, H3, I3, r3, ev, eH⟩ := hh3
  subst ev
  rw [← eH] at I3
  have hu3 : s3.heap.get? h1.objs.size = some (PySem.W.kxs_mw "ValueError.__init__" a) := (I3.pin (h1.objs.size, PySem.W.kxs_mw "ValueError.__init__" a) (List.mem_append_right _ List.mem_cons_self)).1
  refine ⟨hu3, ?_⟩
  have I4 : Inv X pins σ H s3 := I3.pins_of fun q hq => I3.pin q (List.mem_append_right _ (List.mem_cons_of_mem _ hq))
  obtain ⟨t3, ho3⟩ := exo_at I4.hok he
  obtain ⟨h3, g3, d3, tk3, os3⟩ := s3
  refine call_bwV (I4.kIn _ _ hCo) hbm ho3 hu3 (by show us.length ≤ sizeLine; rw [← r3.length]; exact (show (1 : Nat) ≤ sizeLine by decide)) fun h' t4 k hx => ?_
  have J := I4.write (t' := tk3) (x := a) (e := a) (o := exo a C none) (by rw [he]; exact True.intro) (.inl rfl) k ⟨_, hx⟩ (exo_ok hx)
  have eu : upd H a (exo a C none) = H := by
    funext b
    by_cases hb : b = a
    · rw [hb, upd_same, he]
    · rw [upd_ne hb]
  rw [eu] at J
  exact ⟨rfl, J⟩
end
theorem fnC_of {P : Program} {w : World} {K : PySem.W.Frag} {mg : Str → Option Value} {base : Heap} {CX : CXT} {k : Nat} {fl ar : Str} {f cc C D : Addr} {name qual : Str} {params : Arguments} {rest : List Stmt} {scope : Scope} {dV kV doc pm cdv ct oc : Value} {an od : Option Addr}
    {osl : Array (Option Value)} {N ps : List Str} {sp : Sp} {p0 p1 p2 p3 p4 p5 : Pos} {m : Str} {j : Nat} [SP : SupP P fl]
    (lk : K.lookup f = some ⟨oc, od, .func (PySem.W.fnX name qual params (.Expr (.Call (.Attribute (.Call (.Name "super" p0) [] [] p1) "__init__" p2) [.Constant (.str m) j p3] [] p4) p5 :: rest) scope [("__class__", cc)] dV kV doc pm an cdv ct), osl⟩)
    (hcd : PySem.W.codeIn K cdv qual = true) (S : NdefX.NScope N ps [("__class__" : Str)] scope) (SK : ∀ cda, cdv = .ref cda → SupK K C D f cc cda fl ar) (T : OexC K C) (hn : mg "super" = none) (hks : scope.names.lookup ("super" : Str) = some .globalImplicit) (hpa : ∃ r, ps = ar :: r)
    (len : ∀ vs H Q E, sp vs H Q E → vs.length = ps.length) (hob : ∀ vs H Q E, sp vs H Q E → ∃ a ws, vs = V.ref a :: ws ∧ H a = some (exo a C none)) {pl : Sem Bool}
    (hev : ∀ env : Env, eval (.Call (.Attribute (.Call (.Name "super" p0) [] [] p1) "__init__" p2) [.Constant (.str m) j p3] [] p4) env = (do
      let ov ← attributeBase (.Call (.Name "super" p0) [] [] p1) "__init__" env (eval (.Call (.Name "super" p0) [] [] p1) env)
      standAt p2.atName
      let (f, first) ← holding [ov] (getMethod ov "__init__" pl)
      callWith p4 f first (backTo p4 (starEach [.Constant (.str m) j p3] env)) []))
    (hsw : ∀ env : Env, swapsWith (.Call (.Attribute (.Call (.Name "super" p0) [] [] p1) "__init__" p2) [.Constant (.str m) j p3] [] p4) none p5.line env = pure false)
    (hbody : ∀ (F : NdefX.NF) (A : Around) (outer : List Env) (s : Shared) (H : Hp) (vs : List V) (Q : VK) (E : XK), F.scope = scope → F.qual = qual → F.cl = [(("__class__" : Str), cc)] → sp vs H Q E →
      ∃ t, PSs (NdefX.ncx CX P w K mg base N F f A outer s H E) rest t ∧ t { nx := fun _ H' => Q .non H', rt := Q } (NdefX.startF N vs [some (.ref D)]) H) :
    FnOk P w K mg base CX (k + 1) f (PySem.W.fnX name qual params (.Expr (.Call (.Attribute (.Call (.Name "super" p0) [] [] p1) "__init__" p2) [.Constant (.str m) j p3] [] p4) p5 :: rest) scope [("__class__", cc)] dV kV doc pm an cdv ct) ps sp := by
  refine ⟨len, fun A outer s H args us vs Q E hr e0 hb r hsp => ?_⟩
  have hl := len _ _ _ _ hsp
  have KX : K.In s.heap := e0.mod.kin.keeps fun b o e => (e0.bs b o e).1
  have lim : s.heap.NoLimit := e0.mod.nolimit.keeps fun b o e => (e0.bs b o e).1
  have hrec := PySem.W.codeRec_of KX hcd
  obtain ⟨cda, oc2, vs2, t2, ecd, _⟩ := id hrec
  subst ecd
  have SK := SK cda rfl
  obtain ⟨ceo, ced, cesl, hcc⟩ := id SK.cell
  obtain ⟨pr, rfl⟩ := hpa
  obtain ⟨a, ws, rfl, ha⟩ := hob _ _ _ _ hsp
  let F : NdefX.NF := ⟨name, qual, params, (.Expr (.Call (.Attribute (.Call (.Name "super" p0) [] [] p1) "__init__" p2) [.Constant (.str m) j p3] [] p4) p5 :: rest), scope, [("__class__", cc)], cda⟩
  have Ce : NdefX.CellsAt F.cl [("__class__" : Str)] [some (V.ref D)] s.heap H := by
    have look : ∀ {y c}, F.cl.lookup y = some c → y = ("__class__" : Str) ∧ c = cc := fun {y c} e => by
      have e' : (match y == ("__class__" : Str) with | true => some cc | false => none) = some c := by
        have e2 : List.lookup y [(("__class__" : Str), cc)] = some c := e
        unfold List.lookup at e2
        split at e2
        · rename_i q; rw [q]; exact e2
        · cases e2
      split at e'
      · rename_i q
        exact ⟨eq_of_beq q, (Option.some.inj e').symm⟩
      · cases e'
    refine ⟨rfl, fun y c e => ?_, fun x y c e1 e2 => ?_, fun i y hi => ?_⟩
    · obtain ⟨_, rfl⟩ := look e
      exact ⟨(e0.bs _ _ (e0.mod.kin _ _ hcc)).2, _, _, KX _ _ hcc, rfl⟩
    · rw [(look e1).1, (look e2).1]
    · have h0 : i = 0 := by
        have z := (List.getElem?_eq_some_iff.mp hi).1
        simp at z
        exact z
      subst h0
      have ey : y = ("__class__" : Str) := (Option.some.inj hi).symm
      subst ey
      refine ⟨cc, (by show List.lookup (("__class__" : Str)) [(("__class__" : Str), cc)] = some cc; unfold List.lookup; rw [show (("__class__" : Str) == ("__class__" : Str)) = true from beq_self_eq_true _]), fun v hv => ?_⟩
      have ev : v = V.ref D := by
        have z : some (some (V.ref D)) = some (some v) := hv
        cases z
        rfl
      subst ev
      exact ⟨_, rfl, _, KX _ _ hcc, rfl⟩
  refine codeAny_call_function hr.depth (KX _ _ lk) rfl S.co S.gen rfl hrec (hb _ _ _ _ ?_)
  refine wpAny_newFunctionEnv S.nocell (fun ⟨n, _⟩ hy => S.par n (List.of_mem_zip hy).1) (fun h₁ hns hsb => ⟨lim.fresh _ hsb, ?_⟩) S.kind
  show codeAny _ _ (.func F.body (NdefX.envF F f s.heap.objs.size)) _ _
  refine ks_codeAny_funcAt ?_
  have kp : ∀ b o, s.heap.get? b = some o → h₁.get? b = some o := fun b o e => hsb.extBut b o (Nat.ne_of_lt (Heap.lt_size e)) (Heap.get?_push_of_some _ e)
  obtain ⟨t, ht, hq⟩ := hbody F A outer s H _ Q E rfl rfl rfl hsp
  have I : Inv (NdefX.ncx CX P w K mg base N F f A outer s H E) [] (NdefX.startF N (V.ref a :: ws) [some (.ref D)]) H { s with heap := h₁, toks := s.toks + ((ar :: pr).zip us).length } := NdefX.inv_startN S hr.hd e0 hl r Ce hns kp
  have hkp : F.scope.names.lookup ar = some .local := S.par ar List.mem_cons_self
  have hN0 : N[0]? = some ar := by
    have z := S.pre
    have h0 : (N.take ((ar :: pr).length + [("__class__" : Str)].length))[0]? = some ar := by rw [z]; rfl
    rw [List.getElem?_take_of_lt (by simp)] at h0
    exact h0
  have st0 := sup_first (X := NdefX.ncx CX P w K mg base N F f A outer s H E) (SP := SP) (body := F.body) (E := fun e s' => wpAny (model P w) (A.deeper (NdefX.envF F f s.heap.objs.size)) (leaving (NdefX.envF F f s.heap.objs.size) e) (fun _ s'' => CX outer H s E e s'') (fun e' s'' => CX outer H s E e' s'') s')
    SK T rfl rfl (show List.lookup (("__class__" : Str)) [(("__class__" : Str), cc)] = some cc by unfold List.lookup; rw [show (("__class__" : Str) == ("__class__" : Str)) = true from beq_self_eq_true _]) hks (S.frk _ List.mem_cons_self) hkp hN0 hn I rfl ha (hev _) (hsw _)
  refine ks_wpAt_execs_cons (PySem.wpAt_mono st0 (fun fl s' z => ?_) fun _ _ z => z)
  obtain ⟨ef, J⟩ := z
  subst ef
  refine wpAt_of_wpAny (wpAny_mono (ht.run [] s' _ H _ J hq) (fun fl s' hs => ?_) fun e s' hs => hs)
  have fin : ∀ {σ' : L2.St} {H' : Hp} {v : V} {u : Value}, Inv (NdefX.ncx CX P w K mg base N F f A outer s H E) [] σ' H' s' → L2.RelV v u → Q v H' → CE outer P w H s Q u s' :=
    fun {σ' H' v u} J rv q => ⟨v, H', J.os, J.bare, J.base, J.hok, rv, q⟩
  cases fl with
  | ret u =>
    obtain ⟨v, σ', H', J, rv, q⟩ := hs
    exact fin J rv q
  | next =>
    obtain ⟨σ', H', J, q⟩ := hs
    exact fin (v := V.non) (u := Value.none) J rfl q
  | brk =>
    obtain ⟨_, _, _, q⟩ := hs
    exact False.elim q
  | cont =>
    obtain ⟨_, _, _, q⟩ := hs
    exact False.elim q
/-! ### the facts -/
theorem oex_ok {K : PySem.W.Frag} {C : Str} (c : (Fx.oex C).ok K = true) : OexC K (gad C K) := by
  obtain ⟨c1, c⟩ := He.ba c
  obtain ⟨c2, c⟩ := He.ba c
  obtain ⟨c3, c⟩ := He.ba c
  obtain ⟨c4, c5⟩ := He.ba c
  refine ⟨?_, He.eqO_ok c2, of_decide_eq_true c3, of_decide_eq_true c4, c5⟩
  split at c1
  · rename_i dd cd sl ho
    split at c1
    · rename_i C' bm k0 k1 k2 k3 n k5 hm hs
      obtain ⟨d1, c1⟩ := He.ba c1
      obtain ⟨d2, c1⟩ := He.ba c1
      obtain ⟨d3, c1⟩ := He.ba c1
      obtain ⟨d4, d5⟩ := He.ba c1
      have e1 := of_decide_eq_true d1
      have e2 := of_decide_eq_true d2
      have e3 : cd.hasDel = false := by simpa using d3
      obtain ⟨nm, bs, mro, ns, qn, hd, sn, sub, ab, col, del⟩ := cd
      dsimp only at hm e3 d4
      subst hm e3 d4 e2
      rw [e1] at ho
      have hsl : sl = #[k0, k1, k2, k3, some (.builtin "ValueError.__new__"), k5] := by
        obtain ⟨l⟩ := sl
        simp only at hs
        rw [hs]
      subst hsl
      exact ⟨nm, qn, ns, bs, bm, sn, sub, ab, col, dd, k0, k1, k2, k3, k5, ho, d5⟩
    · cases c1
  · cases c1
theorem sup_ok {K : PySem.W.Frag} {C D fl ar : Str} (c : (Fx.sup C D fl ar).ok K = true) {x qual : Str} {params : Arguments} {body : List Stmt} {scope : Scope} {cc : Addr} {cdv : Value} {fd : FuncData} (F : FunC K x qual params body scope (mad D "__init__" K) cc cdv fd) :
    ∀ cda, cdv = .ref cda → SupK K (gad C K) (gad D K) (mad D "__init__" K) cc cda fl ar := by
  rintro cda rfl
  obtain ⟨oc, od, dV, kV, doc, pm, an, ct, osl, rfl, lk, hcd, _⟩ := F.ex
  obtain ⟨c1, c⟩ := He.ba c
  obtain ⟨c2, c⟩ := He.ba c
  obtain ⟨c3, c⟩ := He.ba c
  obtain ⟨c4, c⟩ := He.ba c
  obtain ⟨c5, c⟩ := He.ba c
  obtain ⟨c6, c7⟩ := He.ba c
  rw [lk] at c1
  obtain ⟨a1, c1⟩ := He.ba c1
  obtain ⟨a2, a3⟩ := He.ba c1
  refine ⟨⟨_, _, _, _, lk, ?_⟩, ?_, ?_, c2, c3, of_decide_eq_true c4, He.eqO_ok c5, He.eqO_ok c6, of_decide_eq_true c7⟩
  · split at a1
    · rename_i a e
      exact ⟨a, e, of_decide_eq_true a1⟩
    · cases a1
  · dsimp only at a3
    split at a3
    · rename_i k1 k2 vs k3 e
      split at a3
      · rename_i z tk e2
        have e3 := of_decide_eq_true a3
        subst e3
        exact ⟨_, _, vs, _, tk, e, e2⟩
      · cases a3
    · cases a3
  · dsimp only at a2
    split at a2
    · rename_i k1 k2 a k3 e
      have e3 := of_decide_eq_true a2
      subst e3
      exact ⟨_, _, _, e⟩
    · cases a2
theorem einit_ok {K : PySem.W.Frag} {C D : Str} (c : (Fx.einit C D).ok K = true) : PySem.W.findIn K (.ref (gad C K)) "__init__" = some (some (.ref (mad D "__init__" K))) ∧ PySem.W.typeIn K (.ref (mad D "__init__" K)) = some (.type "function") := by
  obtain ⟨c1, c2⟩ := He.ba c
  exact ⟨He.eqO_ok c1, of_decide_eq_true c2⟩
/-! ### isinstance, fields of a caught error that has a dict -/
section
variable {prog : Program} {w : World} {A : Around} {E : Value → Shared → Prop} {s : Shared} {K : PySem.W.Frag} {x D : Addr} {ox od : Obj}
theorem kin_classD {Q : Option Value → Shared → Prop} (hga : PySem.W.findIn K (.ref D) "__getattribute__" = some (some (.builtin "BaseException.__getattribute__"))) (hgt : PySem.W.findIn K (.ref D) "__getattr__" = some none) (hsub : PySem.W.subIn K (.ref D) (.type "BaseException") = some true)
    (hdct : PySem.W.hasDictIn K D = true) (ha : PySem.W.findIn K (.ref D) "__class__" = some (some (.builtin "object.__class__")))
    (hn : PySem.W.specialIn K (.builtin "object.__class__") "__get__" = some (some (.builtin "getset_descriptor.__get__"))) (htk : PySem.W.takesIn K (.builtin "object.__class__") = some true) (hm : PySem.W.mroIn K D (.type "object") = some true)
    (X : K.In s.heap) (I : PySem.W.InstAt s.heap x ox D (some od)) (h : Q (some (.ref D)) { s with toks := s.toks + 1 }) : wpAny (model prog w) A (getAttr? (.ref x) "__class__") Q E s := by
  have hf : PySem.W.findObj K D (some od) "__class__" = some (.bind (.builtin "getset_descriptor.__get__") (.builtin "object.__class__")) := PySem.W.findObj_data (by obtain ⟨cd, hc, _⟩ := PySem.W.any_some hdct; show (PySem.W.clsIn K D).isSome = true; rw [hc]; rfl) ha hn htk
  obtain ⟨hp, g, d, t, os⟩ := s
  have L0 := I.type (M := model prog w)
  have L1 := PySem.W.looks_findIn (M := model prog w) X hga
  have L2 := PySem.W.looks_findIn (M := model prog w) X hgt
  have L3 := PySem.W.looks_find (M := model prog w) X I hf
  have sub : PySem.W.Looks (model prog w) hp (isInstance (.ref x) (.type "BaseException")) true := L0.andThen (PySem.W.looks_subIn X hsub)
  have hx0 : (false && onTheHeap (Value.builtin "BaseException.__getattribute__")) = false := rfl
  have hx2 : (Value.builtin "BaseException.__getattribute__" == Value.builtin "object.__getattribute__") = false := by decide +kernel
  have hx1 : (onTheHeap (Value.ref D) && Value.builtin "BaseException.__getattribute__" == Value.builtin "object.__getattribute__") = false := by rw [hx2]; rfl
  unfold getAttr? getAttrBy? getAttrBy
  refine wpAny_bind (wpAny_mkText (wpAny_bind (wpAny_attempt (wpAny_holding (wpAny_bind (L0.at (wpAny_bind (L1.at ?_))))))))
  show wpAny _ _ (if (onTheHeap (Value.ref D) && Value.builtin "BaseException.__getattribute__" == Value.builtin "object.__getattribute__") = true then _ else _) _ _ _
  rw [hx1, if_neg Bool.false_ne_true]
  unfold getAttrByItsOwn hookBefore
  refine wpAny_bind ?_
  rw [if_pos (show onTheHeap (Value.ref D) = true from rfl)]
  refine L2.at ?_
  refine wpAny_bind (wpAny_attempt (wpAny_holding ?_))
  unfold callGetattribute
  rw [hx0, if_neg Bool.false_ne_true]
  unfold boundAndCalled
  rw [PySem.F.excAttr_ValueError.ga.bind (.ref x)]
  refine wpAny_bind (wpAny_pure ?_)
  show wpAny _ _ (call (.builtin "BaseException.__getattribute__") [.ref x, .str "__class__" t]) _ _ _
  refine wpAny_call (codeAny_call_builtin PySem.F.excAttr_ValueError.ga.plain PySem.F.entry_bexc_ga ?_)
  refine @PySem.W.check_slot (model prog w) _ _ ⟨hp, g, d, t + 1, os⟩ "BaseException.__getattribute__" "BaseException" "__getattribute__" (.ref x) [.str "__class__" t] [] _ (by decide +kernel) (by decide +kernel) sub (PySem.F.args_bexc_ga (.ref x) (.str "__class__" t)) ?_
  unfold Builtin.«object.__getattribute__»
  refine wpAny_bind (wpAny_of_eq (a := ((Value.ref x : Value), [Value.str "__class__" t])) (by first | rfl | (simp only [slotArgs]; rfl)) ?_)
  refine wpAny_bind (wpAny_pure (wpAny_bind (L0.at (wpAny_bind (L3.at ?_)))))
  show wpAny _ _ (holding [Value.builtin "object.__class__"] (call (.builtin "getset_descriptor.__get__") [.builtin "object.__class__", .ref x, .ref D]) >>= ret) _ _ _
  refine wpAny_bind (wpAny_holding (wpAny_call (PySem.W.class_get (s := ⟨hp, g, d, t + 1, os⟩) (ox := ox) (od := some od) X I hm ?_)))
  refine wpAny_pure ?_
  show wpAny _ _ (handedOut (.ref D)) _ _ _
  rw [PySem.W.handedOut_of (v := .ref D) rfl]
  first
    | exact wpAny_pure (wpAny_pure h)
    | exact wpAny_pure h
    | exact wpAny_pure (wpAny_bind (wpAny_pure (wpAny_pure h)))
theorem kitx_excD (c : ExcC K D) : PySem.W.KitX K (.ref x) (.ref D) (fun h => PySem.W.InstAt h x ox D (some od)) where
  ty := fun _ _ _ I => I.type
  it := fun _ _ X _ => by
    obtain ⟨cdD, hcD, _⟩ := PySem.W.any_some c.hd
    unfold PySem.W.clsIn at hcD
    split at hcD
    · rename_i c' d' cd' sl' ho
      intro A' Q' E' s' k q
      unfold isType loadHead
      exact wpAny_bind (wpAny_loadPart (k _ _ (X _ _ ho)) (wpAny_pure q))
    · cases hcD
  ne := fun h tp dd its n sl X htp => by
    obtain ⟨cdD, hcD, _⟩ := PySem.W.any_some c.hd
    refine Bool.eq_false_iff.mpr fun q => ?_
    have e : D = tp := Value.ref.inj (beq_iff_eq.mp q)
    subst e
    unfold PySem.W.clsIn at hcD
    split at hcD
    · rename_i c' d' cd' sl' ho
      have z := (X _ _ ho).symm.trans htp
      cases z
    · cases hcD
  ca := fun X I k => kin_classD c.hg c.hk c.hs c.hd c.ha c.hn c.ht c.hm X I k
end
/-- an error of the class at D with these fields is held at a -/
def ExF (H : Hp) (D a : Addr) (fs : List (Str × V)) : Prop := ∃ dd, H a = some (Exn (.ref D) (some dd) a) ∧ H dd = some (.xd fs)
theorem ExF.same {H H' : Hp} {D a : Addr} {fs : List (Str × V)} (h : ExF H D a fs) (e : Same H H') : ExF H' D a fs := by
  obtain ⟨dd, h1, h2⟩ := h
  exact ⟨dd, e _ _ h1, e _ _ h2⟩
def rIsD (K : PySem.W.Frag) (D : Addr) : List V → Hp → VK → Prop := fun xs H Q => ∃ (a : Addr) (fs : List (Str × V)) (c : V) (u : Value) (b : Bool), xs = [.ref a, c] ∧ ExF H D a fs ∧ ClsV c u ∧ PySem.W.kitOne K (.ref D) u = some b ∧ Q (.bl b) H
def rIsDT (K : PySem.W.Frag) (D : Addr) : List V → Hp → VK → Prop := fun xs H Q => ∃ (a tp : Addr) (fs : List (Str × V)) (cs : List V) (us : List Value) (b : Bool), xs = [.ref a, .ref tp] ∧ ExF H D a fs ∧ H tp = some (.tup cs) ∧ Paired ClsV cs us ∧ PySem.W.kitAny K (.ref D) us = some b ∧ Q (.bl b) H
def tXv (D : Addr) (n : Str) (te : TE) : TE := fun σ H Q => te σ H fun x H1 => ∃ (a : Addr) (fs : List (Str × V)) (v : V), x = .ref a ∧ ExF H1 D a fs ∧ fs.lookup n = some v ∧ Q v H1
section
variable {X : Cx} {D : Addr} {pins : List (Addr × Obj)} {σ : L2.St} {H : Hp} {s : Shared}
theorem exf_inst {a : Addr} {fs : List (Str × V)} (I : Inv X pins σ H s) (h : ExF H D a fs) : ∃ oe od, PySem.W.InstAt s.heap a oe D (some od) ∧ ∃ mA : Str → Option Value, (∀ f, RelO (fs.lookup f) (mA f)) ∧ ∀ n, PySem.W.lookIn n od = some (mA n) := by
  obtain ⟨dd, h1, h2⟩ := h
  obtain ⟨oe, vs, hget, hz, hv⟩ := exn_at I h1
  obtain ⟨mA, hns, hr⟩ := (show ObjOk X.prog X.w H s.heap dd (.xd fs) from I.hok dd _ h2)
  obtain ⟨od, ho, hl⟩ := lookIn_ns hns
  exact ⟨oe, od, ⟨hget, hz.1, by unfold PySem.W.notCls; rw [hv] <;> rfl, by rw [hz.2]; exact ho⟩, mA, hr, hl⟩
theorem call_isD (C : ExcC X.K D) : CallR X (.builtin "isinstance") (rIsD X.K D) := by
  intro pins s σ H xs us Q I r h
  obtain ⟨a, fs, c, u, b, rfl, ha, hcv, e, q⟩ := h
  obtain ⟨u1, u2, rfl, r1, r2⟩ := vals2 r
  obtain rfl : u1 = Value.ref a := r1
  have ec := hcv.eq r2
  subst ec
  obtain ⟨oe, od, J, _⟩ := exf_inst I ha
  exact PySem.W.kia_one (kitx_excD C) I.kIn J e (fun z => nomatch z) fun tk => ⟨.bl b, H, I.tok tk, rfl, q⟩
theorem call_isDT (C : ExcC X.K D) : CallR X (.builtin "isinstance") (rIsDT X.K D) := by
  intro pins s σ H xs us Q I r h
  obtain ⟨a, tp, fs, cs, ws, b, rfl, ha, hT, k, e, q⟩ := h
  obtain ⟨u1, u2, rfl, r1, r2⟩ := vals2 r
  obtain rfl : u1 = Value.ref a := r1
  cases (show u2 = Value.ref tp from r2)
  obtain ⟨oe, od, J, _⟩ := exf_inst I ha
  obtain ⟨_, its, rv, o, h1, h2, n, h3⟩ := (show ObjOk X.prog X.w H s.heap tp (.tup cs) from I.hok tp _ hT)
  have e3 := ClsV.all k rv
  subst e3
  obtain ⟨oc, od, dt, sl⟩ := o
  simp only at h2 h3
  subst h2 h3
  exact PySem.W.kia_tup (kitx_excD C) I.kIn J h1 e (fun z => nomatch z) fun tk => ⟨.bl b, H, I.tok tk, rfl, q⟩
theorem pe_xv {e : Expr} {te : TE} {pos : Pos} {n : Str} (C : ExcC X.K D) (hno : PySem.W.findIn X.K (.ref D) n = some none) (he : PE X e te) (hb : attributeBase e n X.env (eval e X.env) = eval e X.env := by rfl) : PE X (.Attribute e n pos) (tXv D n te) := by
  refine ⟨fun pins s σ H Q I h => ?_⟩
  refine attr_of hb (thn (he.run pins s σ H _ I h) fun u s1 hh => ?_)
  obtain ⟨x, H1, I1, rx, a, fs, v, rfl, ha, l, q⟩ := hh
  obtain rfl : u = Value.ref a := rx
  obtain ⟨oe, od, J, mA, hr, hl⟩ := exf_inst I1 ha
  obtain ⟨u, hu, ru⟩ := RelO.some_of (v := v) (o := mA n) (by rw [← l]; exact hr n)
  exact HandSPX.exc_get I1.kIn J C.hg C.hk C.hs (PySem.W.findObj_own C.hd hno rfl (by rw [hl, hu])) (handed_of ru) ⟨v, H1, I1.tok _, ru, q⟩
end
theorem FunC.binds {K : PySem.W.Frag} {x qual : Str} {params : Arguments} {body : List Stmt} {scope : Scope} {f cc : Addr} {cdv : Value} {fd : FuncData} {ps : List Str} (F : FunC K x qual params body scope f cc cdv fd)
    (h : ∀ (kV doc pm : Value) (an : Option Addr) (cdv ct : Value) (us : List Value), us.length = ps.length → bindArgs (PySem.W.fnX x qual params body scope [("__class__", cc)] .none kV doc pm an cdv ct) ⟨us, []⟩ = pure (ps.zip us)) : Binds K fd ps [] := by
  obtain ⟨oc, od, dV, kV, doc, pm, an, ct, osl, rfl, lk, hcd, rfl⟩ := F.ex
  exact .all (h kV doc pm an cdv ct)
/-! ### making and raising such an error: one field; three -/
/-- __init__(self, v): one field -/
def spEx1 (K : PySem.W.Frag) (C : Addr) (n : Str) : Sp := fun vs H Q _ => ∃ (a : Addr) (v : V), vs = [.ref a, v] ∧ H a = some (exo a C none) ∧ ∀ dx, H dx = none → dx ≠ a → Q .non (upd (upd H dx (exd dx [(n, v)])) a (exo a C (some dx)))
theorem mkO1 {K : PySem.W.Frag} {C : Addr} {n : Str} {v : V} {H : Hp} {E : XK} (k : ∀ dd H', H dd = none → Same H H' → H' dd = some (.xd [(n, v)]) → E (.ref C) (some dd) H') :
    [v].length ≤ 1000 ∧ ∀ a, H a = none → spEx1 K C n (.ref a :: ([v] ++ [])) (upd H a (exo a C none))
      (fun w H2 => w = .non ∧ ∃ (d : Addr) (fs : List (Str × V)), H2 a = some (exo a C (some d)) ∧ H2 d = some (exd d fs) ∧ H d = none ∧ E (.ref C) (some d) (upd (L2.del H2 a) d (.xd fs))) (fun _ _ _ => False) := by
  refine ⟨(by decide : 1 ≤ 1000), fun a na => ⟨a, v, rfl, upd_same, fun dx nd ne => ⟨rfl, dx, [(n, v)], upd_same, ?_, ?_, ?_⟩⟩⟩
  · rw [upd_ne ne, upd_same]
  · rw [upd_ne ne] at nd; exact nd
  · have nd' : H dx = none := by rw [upd_ne ne] at nd; exact nd
    refine k dx _ nd' (fun b o e => ?_) upd_same
    have b1 : b ≠ a := ne_of_none e na
    have b2 : b ≠ dx := ne_of_none e nd'
    rw [upd_ne b2, L2.del_ne b1, upd_ne b1, upd_ne b2, upd_ne b1]
    exact e
end Hue

set_option Elab.async false
set_option linter.all false
set_option maxRecDepth 100000
set_option maxHeartbeats 4000000
/-! def f(self, **kw) called with keywords; C(**d); d.update(e) -/
namespace Hue
open PySem PySem.Spec PyProof.Rows L2
/-! ### a fresh dict filled by names -/
section
variable {prog : Program} {w : World} {A : Around} {E : Value → Shared → Prop} {d : Addr}
theorem kw_nsSet {s : Shared} {es : List DictEntry} {n : Nat} {k : Str} {v : Value} {Q : Unit → Shared → Prop} (D : s.heap.get? d = some (PySem.W.dictOf es n))
    (hs : ∀ e ∈ es, e.key.isStr k = false) (hr : ∀ e ∈ es, e.refKey = false)
    (h : ∀ h', h'.get? d = some (PySem.W.dictOf (es ++ [⟨PyData.keyHash w.params k, .str k s.toks, v⟩]) (n + 1)) → (∀ b o, b ≠ d → s.heap.get? b = some o → h'.get? b = some o) → Q () { s with heap := h', toks := s.toks + 1 }) :
    wpAny (model prog w) A (nsSet d k v) Q E s := by
  have e1 : es.any (·.key.isStr k) = false := by
    cases q : es.any (·.key.isStr k) with
    | false => rfl
    | true => obtain ⟨e, he, z⟩ := List.any_eq_true.mp q; rw [hs e he] at z; cases z
  have e2 : es.any (·.refKey) = false := by
    cases q : es.any (·.refKey) with
    | false => rfl
    | true => obtain ⟨e, he, z⟩ := List.any_eq_true.mp q; rw [hr e he] at z; cases z
  have e : Obj.putName k (PyData.keyHash w.params k) (.str k s.toks) v (PySem.W.dictOf es n) = PySem.W.dictOf (es ++ [⟨PyData.keyHash w.params k, .str k s.toks, v⟩]) (n + 1) := by
    rw [PySem.W.putName_dict, PySem.W.putL_new hs]
    show PySem.W.dictOf _ (if es.any (·.key.isStr k) then n else n + 1) = _
    rw [e1, if_neg Bool.false_ne_true]
  have c : aRefKeyMayBeTheName k es.toArray = false := by
    rw [aRefKeyMayBeTheName_at, ← Array.any_toList, ← Array.any_toList]
    show (!es.any (·.key.isStr k) && es.any (·.refKey)) = false
    rw [e2, Bool.and_false]
  unfold nsSet
  refine wpAny_bind (wpAny_bind (wpAny_askSetting (wpAny_pure (wpAny_bind (wpAny_mkText (wpAny_bind (wpAny_loadPart D ?_)))))))
  dsimp only
  rw [c]
  refine wpAny_updatePart D (h _ ?_ fun b o hb eb => ?_)
  · have z := Heap.get?_update_self (Obj.putName k (PyData.keyHash w.params k) (.str k s.toks) v) D (by rw [e]; rfl)
    rw [e] at z
    exact z
  · rw [Heap.get?_update_other _ _ (Ne.symm hb)]
    exact eb
theorem kw_fill {Q : PUnit → Shared → Prop} : ∀ (ex : List (Str × Value)) (s : Shared) (es : List DictEntry) (n : Nat), s.heap.get? d = some (PySem.W.dictOf es n) →
    (∀ e ∈ es, ∀ x ∈ ex, e.key.isStr x.1 = false) → (∀ e ∈ es, e.refKey = false) → (ex.map (·.1)).Nodup →
    (∀ h', h'.get? d = some (PySem.W.dictOf (es ++ PySem.W.kwEs w.params s.toks ex) (n + ex.length)) → (∀ b o, b ≠ d → s.heap.get? b = some o → h'.get? b = some o) → Q ⟨⟩ { s with heap := h', toks := s.toks + ex.length }) →
    wpAny (model prog w) A (forIn ex PUnit.unit fun x _ => (nsSet d x.1 x.2 >>= fun _ => pure (ForInStep.yield PUnit.unit))) Q E s
  | [], s, es, n, D, _, _, _, h => by
    rw [List.forIn_nil]
    refine wpAny_pure (h s.heap ?_ fun _ _ _ e => e)
    show s.heap.get? d = some (PySem.W.dictOf (es ++ []) n)
    rw [List.append_nil]
    exact D
  | x :: r, s, es, n, D, hs, hr, hn, h => by
    obtain ⟨hn1, hn2⟩ := List.nodup_cons.mp (show (x.1 :: r.map (·.1)).Nodup from hn)
    rw [List.forIn_cons]
    refine wpAny_bind (wpAny_bind (kw_nsSet D (fun e he => hs e he x (.head _)) hr fun h' D' k' => wpAny_pure ?_))
    show wpAny (model prog w) A (forIn r PUnit.unit fun x _ => (nsSet d x.1 x.2 >>= fun _ => pure (ForInStep.yield PUnit.unit))) Q E { s with heap := h', toks := s.toks + 1 }
    refine kw_fill r { s with heap := h', toks := s.toks + 1 } _ _ D' (fun e he y hy => ?_) (fun e he => ?_) hn2 fun h'' D'' k'' => ?_
    · rcases List.mem_append.mp he with he | he
      · exact hs e he y (.tail _ hy)
      · obtain rfl := List.mem_singleton.mp he
        show (x.1 == y.1) = false
        exact beq_eq_false_iff_ne.mpr fun q => hn1 (by rw [q]; exact List.mem_map_of_mem hy)
    · rcases List.mem_append.mp he with he | he
      · exact hr e he
      · obtain rfl := List.mem_singleton.mp he
        rfl
    · have t1 : s.toks + 1 + r.length = s.toks + (r.length + 1) := by omega
      have t2 : n + 1 + r.length = n + (r.length + 1) := by omega
      show Q ⟨⟩ { s with heap := h'', toks := s.toks + 1 + r.length }
      rw [t1]
      refine h h'' ?_ fun b o hb e => k'' b o hb (k' b o hb e)
      rw [t2, List.append_assoc] at D''
      exact D''
theorem kwx_pairs : ∀ (ex : List (Str × Value)) (t : Tok), PySem.Pairs (mixKind prog w) (PySem.W.kwEs w.params t ex) (ex.map fun x => ((Sum.inr x.1 : Key), x.2))
  | [], _ => .nil
  | x :: r, t => .cons (keyIs_str x.1 t) rfl (kwx_pairs r (t + 1))
theorem kwx_dict {h : Heap} {ex : List (Str × Value)} (t : Tok) (n : Nat) (D : h.get? d = some (PySem.W.dictOf (PySem.W.kwEs w.params t ex) n)) (hn : (ex.map (·.1)).Nodup) : h.DictOf (mixKind prog w) d (ex.map fun x => ((Sum.inr x.1 : Key), x.2)) :=
  ⟨_, _, n, D, ⟨rfl, rfl, rfl⟩, rfl, fun e he => by
    obtain ⟨k, u, hk, hh⟩ := PySem.W.kwEs_key ex t e (List.mem_toArray.mp he)
    exact ⟨.inr k, by rw [hk]; exact keyIs_str k u, hh.trans rfl⟩, kwx_pairs ex t, by
      rw [List.map_map]
      have e : (ex.map fun x => ((Sum.inr x.1 : Key))) = (ex.map (·.1)).map Sum.inr := by rw [List.map_map]; rfl
      show (ex.map fun x => ((Sum.inr x.1 : Key))).Nodup
      rw [e]
      exact List.pairwise_map.mpr (hn.imp fun h q => h (Sum.inr.inj q))⟩
end
/-! ### def f(self, **kw) -/
/-- the pairs by names -/
def kwV (ks : List Str) (zs : List V) : List (Key × V) := (ks.zip zs).map fun x => ((Sum.inr x.1 : Key), x.2)
theorem kv_zip : ∀ {ks : List Str} {zs : List V} {ws : List Value}, Vals zs ws → KV (kwV ks zs) ((ks.zip ws).map fun x => ((Sum.inr x.1 : Key), x.2))
  | [], _, _, _ => .nil
  | _ :: _, [], [], .nil => .nil
  | k :: ks, z :: zs, u :: us, .cons a r => .cons ⟨rfl, a⟩ (kv_zip (ks := ks) r)
structure FnKs (P : Program) (w : World) (K : PySem.W.Frag) (mg : Str → Option Value) (base : Heap) (CX : CXT) (k : Nat) (f : Addr) (ks : List Str) (sp : Sp) : Prop where
  run : ∀ (A : Around) (outer : List Env) (s : Shared) (H : Hp) (u : Value) (v : V) (ws : List Value) (zs : List V) (Q : VK) (E : XK), Room k A → Env0 P w K mg base A outer s H → RelV v u → Vals zs ws → zs.length = ks.length → sp (v :: zs) H Q E →
    codeAny (model P w) A (.call (.ref f) ⟨[u], ks.zip ws⟩) (CR CX outer P w H s Q E) s
theorem fnKs_of {P : Program} {w : World} {K : PySem.W.Frag} {mg : Str → Option Value} {base : Heap} {CX : CXT} {k : Nat} {f : Addr} {fd : FuncData} {x qual p0 pd : Str} {params : Arguments} {body : List Stmt} {scope : Scope} {N : List Str} {sp : Sp} {ks : List Str}
    (F : FunD K x qual params body scope [] [] f fd) (S : FnScope N [p0, pd] scope) (hCX : StX.CXUp CX) (hn : ks.Nodup) (hz : ks.length ≤ 100)
    (hb : ∀ (kV doc pm : Value) (an : Option Addr) (cdv ct : Value) (a : Value) (ws : List Value), ws.length = ks.length → bindArgs (PySem.W.fnOf x qual params body scope .none kV doc pm an cdv ct) ⟨[a], ks.zip ws⟩ =
      ((alloc ({ cls := .type "dict", data := .dict #[] } : Obj) : Sem Addr) >>= fun d => (forIn (ks.zip ws) PUnit.unit fun x _ => (nsSet d x.1 x.2 >>= fun _ => pure (ForInStep.yield PUnit.unit))) >>= fun _ => pure [(p0, a), (pd, Value.ref d)]))
    (hbody : ∀ (cdv : Value) (A : Around) (outer : List Env) (s : Shared) (H : Hp) (vs : List V) (Q : VK) (E : XK), Room k (A.deeper (envOfC qual scope s.heap.objs.size f cdv)) → sp vs H Q E →
      ∃ t, PSs (cxOf CX P w K mg base N qual scope f cdv A outer s H E) body t ∧ t { nx := fun _ H' => Q .non H', rt := Q } (L2.start N vs) H) :
    FnKs P w K mg base CX (k + 1) f ks (fun vs H Q E => ∃ v zs, vs = v :: zs ∧ ∀ d, H d = none → sp [v, .ref d] (upd H d (.dK (kwV ks zs))) Q E) := by
  refine ⟨fun A outer s H u v ws zs Q E hr e0 ru rz hl hsp => ?_⟩
  obtain ⟨v', zs', e, hq⟩ := hsp
  injection e with e1 e2
  subst e1 e2
  obtain ⟨oc, od, dV, kV, doc, pm, an, cdv, ct, osl, rfl, lk, hcd, hD, _⟩ := F.ex
  rcases hD with ⟨_, rfl⟩ | ⟨e, _⟩
  · have hn0 : H s.heap.objs.size = none := e0.hok.fresh (Nat.le_refl _)
    have hwl : ws.length = ks.length := by rw [← rz.length]; exact hl
    refine StX.run_bnd lk hcd S hr e0 (G := fun xs H2 => ∃ d, H d = none ∧ xs = [v, .ref d] ∧ H2 = upd H d (.dK (kwV ks zs))) (fun A' Ex Q' h => ?_) fun s2 H2 xs ⟨d, hd, ex, eH⟩ hr' => ?_
    · rw [hb kV doc pm an cdv ct u ws hwl]
      refine wpAny_bind (wpAny_alloc (wpAny_bind ?_))
      have D0 : (s.heap.push ({ cls := .type "dict", data := .dict #[] } : Obj)).get? s.heap.objs.size = some (PySem.W.dictOf [] 0) := Heap.get?_push_size _ rfl
      have kz : ((ks.zip ws).map (·.1)) = ks := List.map_fst_zip (by omega)
      refine kw_fill (ks.zip ws) _ [] 0 D0 (fun _ he => nomatch he) (fun _ he => nomatch he) (by rw [kz]; exact hn) fun h' D' k' => wpAny_pure ?_
      have kp : ∀ b o, s.heap.get? b = some o → h'.get? b = some o := fun b o e => k' b o (Nat.ne_of_lt (Heap.lt_size e)) (Heap.get?_push_of_some _ e)
      have zlen : (kwV ks zs).length ≤ sizeLine := by
        unfold kwV
        rw [List.length_map, List.length_zip]
        exact Nat.le_trans (show _ ≤ 100 by omega) (by decide)
      have hsys : (s.heap.objs.size == sysModules) = false := beq_eq_false_iff_ne.mpr (Ne.symm (Nat.ne_of_lt (StX.env0_big e0)))
      have new : ObjOk P w (upd H s.heap.objs.size (.dK (kwV ks zs))) h' s.heap.objs.size (.dK (kwV ks zs)) := ⟨zlen, hsys, _, kv_zip rz, kwx_dict _ _ D' (by rw [kz]; exact hn)⟩
      have un : Un (frs outer) [] H (upd H s.heap.objs.size (.dK (kwV ks zs))) s.heap h' := Un.laid kp (Nat.le_refl _) hn0
      refine h { s with heap := h', toks := s.toks + (ks.zip ws).length } _ [v, .ref s.heap.objs.size] [u, .ref s.heap.objs.size] ⟨e0.frames, e0.mod, fun b o e => ⟨kp b o (e0.bs b o e).1, ?_⟩, ?_, Heap.FunFrames.of_keeps (fun b o e _ => ⟨o, kp b o e, rfl⟩) e0.funs, fun b hb => ?_, e0.hok.laid kp (Nat.le_refl _) new, e0.bare⟩ un rfl
        (fun e s' z => hCX outer s H { s with heap := h', toks := s.toks + (ks.zip ws).length } _ E e s' un kp rfl z) (.cons ru (.cons rfl .nil)) rfl ⟨_, hn0, rfl, rfl⟩
      · rw [upd_ne (Nat.ne_of_lt (Heap.lt_size (e0.bs b o e).1))]
        exact (e0.bs b o e).2
      · have h1 := Heap.lt_size D'
        exact Nat.le_trans e0.bsz (Nat.le_of_lt h1)
      · obtain ⟨_, o, ho, _⟩ := e0.funs.mem hb
        rw [upd_ne (Nat.ne_of_lt (Heap.lt_size ho))]
        exact e0.frf b hb
    · subst ex eH
      exact hbody cdv A outer s2 _ _ Q E hr' (hq d hd)
  · exact absurd rfl e
/-! ### **d in a call: its pairs are merged into a new dict, and read off it -/
section
variable {prog : Program} {w : World} {A : Around} {E : Value → Shared → Prop} {s : Shared}
theorem key_noref {k : Key} {v : Value} (h : (mixKind prog w).is k v = true) : ∀ a, v ≠ .ref a := fun a z => by
  rcases keyIs_shape h with ⟨i, t, _, e⟩ | ⟨x, t, _, e⟩ <;> rw [e] at z <;> cases z
theorem wpAny_dictPutNew {t : Sem Unit} {d : Addr} {kvs : List (Key × Value)} {k : Key} {key v : Value} {Q : Unit → Shared → Prop} (hkey : (mixKind prog w).is k key = true) (hm : s.heap.DictOf (mixKind prog w) d kvs) (hnot : k ∉ kvs.map (·.1))
    (hQ : ∀ h', h'.DictOf (mixKind prog w) d (kvs ++ [(k, v)]) → Heap.SameBut d s.heap h' → Q () { s with heap := h' }) (hsz : kvs.length ≤ sizeLine) :
    wpAny (model prog w) A (dictFind d key ((mixKind prog w).hash k) >>= fun r => if r.isSome = true then t else dictPut d ((mixKind prog w).hash k) key v) Q E s := by
  obtain ⟨o, es, ep, ho, hc, hd, hk, hp, hn⟩ := hm
  have hes : es.size ≤ sizeLine := by
    have e1 := hp.length
    have e2 : es.toList.length = es.size := by simp
    omega
  have hidx : (es.findIdx? fun e => (mixKind prog w).is k e.key) = kvs.findIdx? fun kv => decide (kv.1 = k) := by
    rw [← hp.findIdx k]; obtain ⟨l⟩ := es; simp
  have hnone : (es.findIdx? fun e => (mixKind prog w).is k e.key) = none := by
    rw [hidx, List.findIdx?_eq_none_iff]
    intro x hx
    exact decide_eq_false fun e => hnot (e ▸ List.mem_map_of_mem hx)
  refine wpAny_bind (wpAny_dictFind_of hkey ho hd hk ?_)
  rw [hnone, if_neg (by simp)]
  unfold dictPut
  refine wpAny_bind (wpAny_dictFind_of hkey ho hd hk ?_)
  rw [hnone]
  refine wpAny_updateDictKeys (hz := hes) ho hd (hQ _ ⟨_, _, ep + 1, Heap.get?_update_self _ ho (Obj.isFreed_of_dict (Obj.data_mapDictKeys hd _)), hc.mapDictKeys _, Obj.data_mapDictKeys hd _, hk.push hkey _, ?_, ?_⟩ (Heap.SameBut.update ..))
  · have := hp.append hkey ((mixKind prog w).hash k) v
    obtain ⟨l⟩ := es
    simpa using this
  · rw [List.map_append, List.nodup_append]
    refine ⟨hn, by simp, ?_⟩
    intro a ha b hb
    simp only [List.map_cons, List.map_nil, List.mem_singleton] at hb
    subst hb
    exact fun e => hnot (e ▸ ha)
theorem wpAny_mergeMap {d o : Addr} {more : List (Key × Value)} {Q : Unit → Shared → Prop} (hdo : d ≠ o) (hoS : (o == sysModules) = false)
    (hd : s.heap.DictOf (mixKind prog w) d []) (ho : s.heap.DictOf (mixKind prog w) o more)
    (hQ : ∀ h', h'.DictOf (mixKind prog w) d more → Heap.SameBut d s.heap h' → Q () { s with heap := h' }) (hsz : more.length ≤ sizeLine) :
    wpAny (model prog w) A (mergeMapping d (.ref o) true) Q E s := by
  obtain ⟨od, esd, epd, hod, hcd, hdd, hkd, hpd, hnd⟩ := id hd
  obtain ⟨oo, eso, epo, hoo, hco, hdo', hko, hpo, hno⟩ := id ho
  have hlen : more.length = eso.size := by rw [← hpo.length]; simp
  unfold mergeMapping
  refine wpAny_bind (wpAny_isInstance ho.typeIs isSubtype_dict_dict ?_)
  simp only [if_true]
  refine wpAny_bind (wpAny_specialOf ho.typeIs F.slot_dict_iter.lookup ?_)
  simp only [beq_self_eq_true]
  refine wpAny_bind (wpAny_pure ?_)
  dsimp only
  rw [if_neg (by rw [hoS]; exact Bool.false_ne_true)]
  have h0 : esd = #[] := by
    have z := hpd.length
    have z2 : esd.toList.length = 0 := z
    exact Array.eq_empty_of_size_eq_zero (by simpa using z2)
  refine wpAny_bind (wpAny_dictEntries hod hdd ?_)
  rw [if_pos (by rw [h0]; rfl)]
  refine wpAny_bind (wpAny_dictEntries hoo hdo' ?_)
  refine wpAny_bind ?_
  rw [← Array.forIn_toList]
  refine wpAny_forIn_list _ (fun rest _ s' => s' = s ∧ ∀ e ∈ rest, e ∈ eso.toList) _ ?_ ?_ _ _ ⟨rfl, fun _ h => h⟩
  · rintro x rest b s' ⟨rfl, hm⟩
    have hx : x ∈ eso := by simpa using hm x (List.mem_cons_self ..)
    obtain ⟨k', hkey', hhash⟩ := hko x hx
    have nr := key_noref hkey'
    split
    · rename_i a' e'
      exact absurd e' (nr a')
    · exact wpAny_pure ⟨rfl, fun e he => hm e (List.mem_cons_of_mem _ he)⟩
  · rintro b s' ⟨rfl, _⟩
    refine wpAny_bind (wpAny_dictEntries hoo hdo' ?_)
    refine wpAny_bind (wpAny_dictEpoch hoo hdo' ?_)
    refine wpAny_bind ?_
    have er : List.range eso.size = List.range' 0 eso.size := List.range_eq_range'
    rw [er]
    refine wpAny_forIn_list _
      (fun rest _ s2 => ∃ h' i, s2 = { s' with heap := h' } ∧ rest = List.range' i (eso.size - i) ∧ i ≤ eso.size ∧ h'.DictOf (mixKind prog w) d (more.take i) ∧ h'.get? o = some oo ∧ Heap.SameBut d s'.heap h')
      _ ?_ ?_ _ _ ⟨s'.heap, 0, rfl, by simp, Nat.zero_le _, by simpa using hd, hoo, Heap.SameBut.refl _ _⟩
    · rintro x rest b s2 ⟨h', i, rfl, hr, hi, hd', hoo', hs'⟩
      have hlt : i < eso.size := by
        rcases Nat.lt_or_ge i eso.size with h | h
        · exact h
        · rw [Nat.sub_eq_zero_of_le h] at hr; simp at hr
      obtain ⟨rfl, hrest⟩ : x = i ∧ rest = List.range' (i + 1) (eso.size - (i + 1)) := by
        have e : eso.size - i = (eso.size - (i + 1)) + 1 := by omega
        rw [e, List.range'_succ] at hr
        injection hr with h1 h2
        exact ⟨h1, h2⟩
      refine wpAny_bind (wpAny_dictEntries hoo' hdo' ?_)
      rw [Array.getElem?_eq_getElem hlt]
      obtain ⟨kv, hkv⟩ : ∃ kv, more[x]? = some kv := ⟨more[x]'(by rw [hlen]; exact hlt), List.getElem?_eq_getElem _⟩
      obtain ⟨k, v⟩ := kv
      obtain ⟨hkey, hval⟩ := hpo.get? (e := eso[x]) (by simp [hlt]) hkv
      obtain ⟨k', hkey', hhash⟩ := hko eso[x] (Array.getElem_mem hlt)
      obtain rfl : k' = k := (mixKind prog w).inj _ _ _ hkey' hkey
      have fresh : k' ∉ (more.take x).map (·.1) := by
        intro hin
        have hx2 : x < more.length := by rw [hlen]; exact hlt
        have e1 : more = more.take x ++ more.drop x := (List.take_append_drop x more).symm
        have e2 : more.drop x = (k', v) :: more.drop (x + 1) := by
          rw [List.drop_eq_getElem_cons hx2]
          have : more[x] = (k', v) := by
            have := List.getElem?_eq_getElem hx2
            rw [hkv] at this
            exact (Option.some.inj this).symm
          rw [this]
        rw [e1, e2, List.map_append, List.map_cons, List.nodup_append] at hno
        exact hno.2.2 _ hin _ List.mem_cons_self rfl
      dsimp only
      rw [hhash, hval]
      have hmx : (more.take x).length ≤ sizeLine := by
        have e2 : (more.take x).length ≤ more.length := by rw [List.length_take]; omega
        omega
      refine wpAny_bind (wpAny_holding (wpAny_dictPutNew hkey hd' fresh (fun h'' hd'' hs'' => ?_) hmx))
      have hoo'' : h''.get? o = some oo := (hs''.2 o (Ne.symm hdo)).trans hoo'
      refine wpAny_bind (wpAny_dictEpoch hoo'' hdo' ?_)
      rw [if_neg (by simp)]
      refine wpAny_pure ⟨h'', x + 1, rfl, hrest, hlt, ?_, hoo'', hs'.trans hs''⟩
      rw [List.take_add_one, hkv]
      exact hd''
    · rintro b s2 ⟨h', i, rfl, hr, hi, hd', hoo', hs'⟩
      have hin : i = eso.size := by
        rcases Nat.lt_or_ge i eso.size with h | h
        · have e : eso.size - i = (eso.size - (i + 1)) + 1 := by omega
          rw [e, List.range'_succ] at hr; exact nomatch hr
        · exact Nat.le_antisymm hi h
      refine wpAny_pure (hQ h' ?_ hs')
      rw [hin, ← hlen, List.take_length] at hd'
      exact hd'
end
section
variable {prog : Program} {w : World} {A : Around} {E : Value → Shared → Prop} {s : Shared}
abbrev emptyD : Obj := { cls := .type "dict", data := .dict #[] }
theorem emptyD_of {h : Heap} {d : Addr} (e : h.get? d = some emptyD) : h.DictOf (mixKind prog w) d [] := ⟨_, #[], 0, e, ⟨rfl, rfl, rfl⟩, rfl, fun _ h => by simp at h, .nil, List.nodup_nil⟩
theorem wpAny_mergedOne {x : Sem Value} {f : Value} {Q : Addr → Shared → Prop}
    (h : wpAny (model prog w) A x (fun v s1 => ∃ o more, v = .ref o ∧ (o == sysModules) = false ∧ s1.heap.DictOf (mixKind prog w) o more ∧ more.length ≤ sizeLine ∧ s1.heap.get? s.heap.objs.size = some emptyD ∧ s.heap.objs.size ≠ o ∧
      ∀ h', h'.DictOf (mixKind prog w) s.heap.objs.size more → Heap.SameBut s.heap.objs.size s1.heap h' → Q s.heap.objs.size { s1 with heap := h' }) E { s with heap := s.heap.push emptyD }) :
    wpAny (model prog w) A (mergedKeywords f [(none, x)]) Q E s := by
  unfold mergedKeywords
  refine wpAny_bind (wpAny_alloc ?_)
  refine wpAny_bind (wpAny_holding ?_)
  dsimp only
  rw [List.forIn_cons]
  dsimp only
  refine wpAny_bind (wpAny_bind ?_)
  rw [if_pos (by rfl)]
  refine wpAny_bind (wpAny_pure ?_)
  refine wpAny_bind (wpAny_mono h (fun v s1 hv => ?_) fun _ _ z => z)
  obtain ⟨o, more, rfl, hoS, ho, hsz, hd, hne, hQ⟩ := hv
  have go : ∀ (P : Unit → Shared → Prop) (E' : Value → Shared → Prop), (∀ h', h'.DictOf (mixKind prog w) s.heap.objs.size more → Heap.SameBut s.heap.objs.size s1.heap h' → P () { s1 with heap := h' }) → wpAny (model prog w) A (mergeMapping s.heap.objs.size (.ref o) true) P E' s1 :=
    fun P E' hP => wpAny_mergeMap hne hoS (emptyD_of hd) ho hP hsz
  refine wpAny_bind (wpAny_onRaise (wpAny_holding (wpAny_tryCatch (wpAny_onRaise (go _ _ fun h' hd' hs' => ?_)))))
  refine wpAny_pure ?_
  dsimp only
  rw [List.forIn_nil]
  refine wpAny_pure ?_
  rw [if_pos (by rfl)]
  exact wpAny_pure (wpAny_pure (hQ h' hd' hs'))
theorem wpAny_keywordsIn {f : Value} {d : Addr} {kvs : List (Str × Value)} {Q : List (Str × Value) → Shared → Prop} (hd : s.heap.DictOf (mixKind prog w) d (kvs.map fun x => ((Sum.inr x.1 : Key), x.2))) (h : Q kvs s) : wpAny (model prog w) A (keywordsIn f d) Q E s := by
  obtain ⟨o, es, ep, ho, hc, hdd, hk, hp, hn⟩ := hd
  have hlen : kvs.length = es.size := by
    have z := hp.length
    rw [List.length_map] at z
    have z2 : es.toList.length = es.size := by simp
    omega
  unfold keywordsIn
  refine wpAny_bind (wpAny_dictEntries ho hdd ?_)
  refine wpAny_bind ?_
  rw [← Array.forIn_toList]
  refine wpAny_forIn_list _ (fun rest b s' => s' = s ∧ ∃ i, rest = es.toList.drop i ∧ b = kvs.take i) _ ?_ ?_ _ _ ⟨rfl, 0, by simp, by simp⟩
  · rintro x rest b s' ⟨rfl, i, hr, rfl⟩
    have hlt : i < es.toList.length := by
      rcases Nat.lt_or_ge i es.toList.length with h' | h'
      · exact h'
      · rw [List.drop_of_length_le h'] at hr; cases hr
    rw [List.drop_eq_getElem_cons hlt] at hr
    injection hr with hx hrest
    have hlk : i < kvs.length := by
      have : es.toList.length = es.size := by simp
      omega
    cases hkv : kvs[i]
    rename_i k v
    have hk1 : kvs[i]? = some (k, v) := by rw [List.getElem?_eq_getElem hlk, hkv]
    have hk2 : (kvs.map fun x => ((Sum.inr x.1 : Key), x.2))[i]? = some ((Sum.inr k : Key), v) := by rw [List.getElem?_map, hk1]; rfl
    obtain ⟨hkey, hval⟩ := hp.get? (e := x) (by rw [hx]; exact List.getElem?_eq_getElem hlt) hk2
    rcases keyIs_shape (k := (Sum.inr k : Key)) (v := x.key) hkey with ⟨j, t, e1, _⟩ | ⟨y, t, e1, e2⟩
    · cases e1
    · obtain rfl : k = y := Sum.inr.inj e1
      split
      · rename_i z tk e3
        rw [e2] at e3
        injection e3 with e4 _
        subst e4
        refine wpAny_pure ⟨rfl, i + 1, hrest, ?_⟩
        rw [List.take_add_one, hk1, hval]
        rfl
      · rename_i hno
        exact absurd e2 (hno _ _)
  · rintro b s' ⟨rfl, i, hr, rfl⟩
    have hge : es.toList.length ≤ i := by
      rcases Nat.lt_or_ge i es.toList.length with h' | h'
      · rw [List.drop_eq_getElem_cons h'] at hr; cases hr
      · exact h'
    have e : kvs.take i = kvs := List.take_of_length_le (by
      have : es.toList.length = es.size := by simp
      omega)
    rw [e]
    exact wpAny_pure h
end
theorem kv_unzip : ∀ {ks : List Str} {zs : List V} {vs : List (Key × Value)}, KV (kwV ks zs) vs → zs.length = ks.length → ∃ ws, Vals zs ws ∧ vs = (ks.zip ws).map fun x => ((Sum.inr x.1 : Key), x.2)
  | [], [], _, .nil, _ => ⟨[], .nil, rfl⟩
  | [], _ :: _, _, _, h => by cases h
  | _ :: _, [], _, _, h => by cases h
  | k :: ks, z :: zs, (a, u) :: vs, .cons ⟨e, r⟩ t, h => by
    obtain ⟨ws, rw', ew⟩ := kv_unzip (ks := ks) (zs := zs) t (Nat.succ.inj h)
    refine ⟨u :: ws, .cons r rw', ?_⟩
    have e' : (Sum.inr k : Key) = a := e
    rw [ew, ← e']
    rfl
section
variable {M : Model} {A : Around} {E : Value → Shared → Prop} {s : Shared}
theorem callWith_SS {f : Value} {pos : Pos} {x : Sem Value} {Q : Value → Shared → Prop} {P : Heap → Prop} (hk : ∀ h, P h → ∃ k, (k = Keeper.frame ∨ k = Keeper.machine ∨ k = Keeper.boundFrame) ∧ PySem.W.Looks M h (keeperOf f) k)
    (h : wpAny M A (evalArgs f true [] [(none, x)]) (fun a s₁ => P s₁.heap ∧ wpAny M A (call f ([] ++ a.pos) a.kw) Q E s₁) E s) : wpAny M A (callWith pos f [] [] [(none, x)]) Q E s := by
  unfold callWith
  refine wpAny_bind (wpAny_holding (wpAny_mono h (fun a s₁ h₁ => wpAny_bind (wpAny_standAt ?_)) fun _ _ x => x))
  obtain ⟨k, hk', L⟩ := hk _ h₁.1
  simp only [List.any_nil, List.any_cons, Option.isNone_none, Bool.false_or, Bool.true_or]
  refine wpAny_bind (L.here ?_)
  have tail : ∀ {t : Sem Value}, wpAny M A t Q E s₁ → wpAny M A (t >>= fun r => holding [r] point >>= fun _ => pure r) Q E s₁ :=
    fun ht => wpAny_bind (wpAny_mono ht (fun r s₂ hr => wpAny_bind (wpAny_holding (wpAny_point (wpAny_pure hr)))) fun _ _ x => x)
  have marked (mk : Value) : wpAny M A (callMarked mk f ([] ++ a.pos) a.kw) Q E s₁ := by unfold callMarked; exact Calls.wpAny_keep h₁.2
  rcases hk' with rfl | rfl | rfl <;> dsimp only <;> first | exact tail (marked _) | exact tail (wpAny_operating h₁.2)
theorem evalArgs_SS {f : Value} {x : Sem Value} {Q : Args → Shared → Prop} (h : wpAny M A (mergedKeywords f [(none, x)]) (fun d s1 => wpAny M A (keywordsIn f d) (fun kw s2 => Q ⟨[], kw⟩ s2) E s1) E s) : wpAny M A (evalArgs f true [] [(none, x)]) Q E s := by
  unfold evalArgs
  simp only [spliced]
  refine wpAny_bind (wpAny_bind (wpAny_pure (wpAny_pure ?_)))
  refine wpAny_bind (wpAny_pure ?_)
  refine wpAny_holding ?_
  dsimp only
  rw [if_neg (by simp)]
  refine wpAny_bind (wpAny_mono h (fun d s1 h1 => ?_) fun _ _ z => z)
  refine wpAny_bind (wpAny_pure ?_)
  exact wpAny_bind (wpAny_holding (wpAny_mono h1 (fun kw s2 h2 => wpAny_pure h2) fun _ _ z => z))
end
/-- C(**e): e a dict of the names ks -/
def tMakeSS (C : Addr) (ks : List Str) (sp : Sp) (gV : List V → List V → List V) (E : XK) (te : TE) : TE := fun σ H Q => te σ H fun y H1 => ∃ o zs, y = .ref o ∧ H1 o = some (.dK (kwV ks zs)) ∧ zs.length = ks.length ∧ ∀ x dx, H1 x = none → H1 dx = none → dx ≠ x →
  sp (gV [.ref x] zs) (upd (upd H1 dx (.own x)) x (.ins C dx [])) (fun v H3 => v = .non ∧ Q (.ref x) H3) E
theorem pe_makeSS {X : Cx} {CX : CXT} {k : Nat} {f C : Addr} {fd : FuncData} {ps ks : List Str} {sp : Sp} {E : XK} {x : Str} {p pos : Pos} {e : Expr} {kws : List Keyword} {te : TE} {g : List Value → List Value → List Value} {gV : List V → List V → List V}
    (M : Mk X.K C f) (F : FnOk X.prog X.w X.K X.mg X.base CX k f fd ps sp) (hr : Room (k + 1) X.A) (hg : Gl X x) (hm : X.mg x = some (.ref C)) (hb : KBn X.K fd ps 1 ks g gV) (hx : Passes CX X E) (he : PE X e te)
    (hdb : (x == ("__debug__" : Str)) = false := by decide) (hkw : backToKw pos (keywordEach kws X.env) = [(none, (do let v ← eval e X.env; standAt pos; pure v))] := by rfl) (hpos : backTo pos (starEach [] X.env) = [] := by rfl) :
    PE X (.Call (.Name x p) [] kws pos) (tMakeSS C ks sp gV E te) := by
  refine ⟨fun pins s σ H Q I h => ?_⟩
  refine wpAny_Call_Name_kw (ld_glob I hg hm ?_ hdb)
  rw [hkw, hpos]
  refine callWith_SS (P := X.K.In) (PySem.W.keeps_K M.kp) (evalArgs_SS (wpAny_mergedOne ?_))
  have hn : H s.heap.objs.size = none := I.hok.fresh (Nat.le_refl _)
  have I1 : Inv X pins σ H { s with heap := s.heap.push emptyD } := I.kept (t' := s.toks) fun b o e => Heap.get?_push_of_some _ e
  have hd : (s.heap.push emptyD).get? s.heap.objs.size = some emptyD := Heap.get?_push_size _ rfl
  have I2 : Inv X ((s.heap.objs.size, emptyD) :: pins) σ H { s with heap := s.heap.push emptyD } := I1.pins_of fun q hq => by
    rcases List.mem_cons.mp hq with e | e
    · subst e
      exact ⟨hd, hn, Nat.ne_of_gt I.lt, I.nofs (Nat.le_refl _), fun v z => nomatch z⟩
    · exact I1.pin q (List.mem_append_right _ e)
  refine wpAny_bind (thn (he.run _ _ σ H _ I2 h) fun v s1 hv => wpAny_bind (wpAny_standAt (wpAny_pure ?_)))
  obtain ⟨y, H1, I3, ry, o, zs, rfl, ho, hl, hq⟩ := hv
  obtain rfl : v = Value.ref o := ry
  obtain ⟨hz, hsys, vs, kv, hdo⟩ := (show ObjOk X.prog X.w H1 s1.heap o (.dK (kwV ks zs)) from I3.hok o _ ho)
  obtain ⟨ws, rws, ews⟩ := kv_unzip kv hl
  have P3 := I3.pin (s.heap.objs.size, emptyD) (List.mem_append_right _ List.mem_cons_self)
  have I4 : Inv X pins σ H1 s1 := I3.pins_of fun q hq => I3.pin q (List.mem_append_right _ (List.mem_cons_of_mem _ hq))
  have ne : s.heap.objs.size ≠ o := fun z => by
    rw [← z] at ho
    rw [P3.2.1] at ho
    cases ho
  refine ⟨o, vs, rfl, hsys, hdo, (by rw [← kv.length]; exact hz), P3.1, ne, fun h' hd' hs' => ?_⟩
  have fp : FpOk X pins H1 s.heap.objs.size := ⟨P3.2.1, (I.fpOk (Nat.le_refl _) hn).2.1, (I.fpOk (Nat.le_refl _) hn).2.2.1, (I.fpOk (Nat.le_refl _) hn).2.2.2.1, (I.fpOk (Nat.le_refl _) hn).2.2.2.2.1, (I.fpOk (Nat.le_refl _) hn).2.2.2.2.2⟩
  have I5 : Inv X pins σ H1 { s1 with heap := h' } := I4.turned (t' := s1.toks) (fun b o hb e => (hs'.2 b hb).trans e) fp.1 fp.2.1 fp.2.2.2.1 fp.2.2.2.2.1 fp.2.2.2.2.2
  rw [ews] at hd'
  refine wpAny_keywordsIn (prog := X.prog) (w := X.w) hd' ⟨I5.kIn, ?_⟩
  exact run_makeK (us := []) (vs := []) (n := 0) M F hr hb hx I5 .nil rws rfl hl hq
/-! ### o.m(k = v, ..), m a def with **kw -/
def tMethKs (C : Addr) (m : Str) (n : Nat) (sp : Sp) (E : XK) (ta : TE) (tk : TA) : TE := fun σ H Q => ta σ H fun x H1 => ∃ a dx fs, x = .ref a ∧ H1 a = some (.ins C dx fs) ∧ fs.lookup m = none ∧ tk σ H1 fun zs H2 => zs.length = n ∧ sp (x :: zs) H2 Q E
section
variable {X : Cx} {CX : CXT} {k : Nat} {f C : Addr} {ks : List Str} {sp : Sp} {E : XK} {m : Str} {pos apos : Pos} {o : Expr} {kws : List Keyword} {ta : TE} {tk : TA} {pl : Sem Bool}
theorem run_fnKs {pins : List (Addr × Obj)} {σ : L2.St} {H : Hp} {s : Shared} {Q : VK} {a : Addr} {ws : List Value} {zs : List V} (F : FnKs X.prog X.w X.K X.mg X.base CX k f ks sp) (hr : Room k X.A) (hx : Passes CX X E)
    (I : Inv X pins σ H s) (rz : Vals zs ws) (l2 : zs.length = ks.length) (h : sp (.ref a :: zs) H Q E) : wpAny (model X.prog X.w) X.A (call (.ref f) [.ref a] (ks.zip ws)) (EP X pins σ Q) X.xe s := by
  refine wpAny_call (codeAny_mono (F.run X.A X.stack s H (.ref a) (.ref a) ws zs Q E hr I.env0 rfl rz l2 h) fun r s' hq => ?_)
  cases r with
  | error e => exact hx pins σ H s e s' I hq
  | ok fl =>
    cases fl with
    | ret u => exact I.after hq
    | next => exact False.elim hq
    | brk => exact False.elim hq
    | cont => exact False.elim hq
theorem pe_methKs (he : PE X o ta) (c : Cls X.K C) (hm : Meth X.K C m f) (F : FnKs X.prog X.w X.K X.mg X.base CX k f ks sp) (hr : Room k X.A) (hx : Passes CX X E) (hkw : PK X kws tk)
    (hall : (backToKw pos (keywordEach kws X.env)).all (·.1.isSome) = true := by rfl) (hks : (backToKw pos (keywordEach kws X.env)).filterMap (·.1) = ks := by rfl)
    (hpl : ((backTo pos (starEach [] X.env)).any (·.1) || (backToKw pos (keywordEach kws X.env)).any (·.1.isNone)) = false := by rfl)
    (ht : eval (.Call (.Attribute o m apos) [] kws pos) X.env = (do
      let ov ← eval o X.env
      standAt apos.atName
      let (f, first) ← holding [ov] (getMethod ov m pl)
      callWith pos f first (backTo pos (starEach [] X.env)) (backToKw pos (keywordEach kws X.env))) := by rfl) :
    PE X (.Call (.Attribute o m apos) [] kws pos) (tMethKs C m ks.length sp E ta tk) := by
  refine ⟨fun pins s σ H Q I h => ?_⟩
  refine PySem.W.methodCall_KW (pl := pl) (thn (he.run pins s σ H _ I h) fun u s1 ⟨x, H1, I1, rx, a, dx, fs, ex, ea, l, q⟩ => ?_) ht
  subst ex
  obtain rfl : u = Value.ref a := rx
  refine getmeth_ok I1 ea c hm l ?_
  refine PySem.W.callWith_KW0 (first := [.ref a]) (h₀ := X.base) I.ok.mod.kin hm.kp hall ?_ hpl
  refine thn (hkw.run pos pins s1 σ H1 _ I1 q) fun ws s2 ⟨zs, H2, I2, rz, l2, q2⟩ => ⟨I2.kIn, ?_⟩
  rw [hks]
  exact run_fnKs F hr hx I2 rz l2 q2
end
/-! ### d.update(e), e another dict -/
def rDUpd : V → List V → Hp → VK → Prop := fun x vs H Q => ∃ (a o : Addr) (kvs more : List (Key × V)), x = .ref a ∧ vs = [.ref o] ∧ H a = some (.dK kvs) ∧ H o = some (.dK more) ∧ a ≠ o ∧ kvs.length + more.length ≤ sizeLine ∧ Q .non (upd H a (.dK (mergeK kvs more)))
theorem mtd_update {X : Cx} : MtR X "dict.update" rDUpd := by
  intro pins s σ H x vs v us Q I rx rv h
  obtain ⟨a, o, kvs, more, ex, ev, e, eo, ne, hz, q⟩ := h
  subst ex
  subst ev
  obtain rfl : v = Value.ref a := rx
  cases rv with
  | cons r0 r1 =>
    cases r1
    rename_i u
    obtain rfl : u = Value.ref o := r0
    obtain ⟨z, hd, ks, rel, dd⟩ := dk_of I.hok e
    obtain ⟨z2, hd2, ks2, rel2, dd2⟩ := dk_of I.hok eo
    refine call_meetsIn PySem.F.slot_dict_update dd.typeIs PySem.F.entry_dict_update (PySem.F.args_dict_update_2 _ _) (meets_dict_update (mixKind X.prog X.w) a o ne hd2) ⟨ks, ks2, dd, dd2, by rw [← rel.length, ← rel2.length]; exact hz, fun h' dd' _ hs => ⟨.non, _, ?_, rfl, q⟩⟩
    have he : ∃ q, h'.get? a = some q := let ⟨q, _, _, hq, _⟩ := dd'; ⟨q, hq⟩
    have hm : (mergeK kvs more).length ≤ sizeLine := Nat.le_trans (length_mergeK more kvs) hz
    exact d_write (t' := s.toks) I (by rw [e]; exact True.intro) hs he (dk_new hm hd (rel2.merge rel) dd')
end Hue

set_option Elab.async false
set_option linter.all false
set_option maxRecDepth 100000
set_option maxHeartbeats 4000000
/-! o.f = v, f a property with a setter -/
namespace Hue
open PySem PySem.Spec PyProof.Rows L2
def sPset (C : Addr) (ta tv : TE) (sp : Sp) (E : XK) : TS := fun D σ H => tv σ H fun y H1 => ta σ H1 fun x H2 => ∃ a dx fs, x = .ref a ∧ H2 a = some (.ins C dx fs) ∧ sp [.ref a, y] H2 (fun _ H3 => D.nx σ H3) E
section
variable {X : Cx} {CX : CXT} {k : Nat} {C p g : Addr} {f : Str} {fd : FuncData} {ps : List Str} {sp : Sp} {E : XK} {o value : Expr} {pos pos' : Pos} {ta tv : TE}
theorem setprop_ok {pins : List (Addr × Obj)} {σ : L2.St} {H : Hp} {s : Shared} {Q : VK} {a dx : Addr} {fs : List (Str × V)} {y : V} {u : Value} {Qd : Unit → Shared → Prop} (I : Inv X pins σ H s) (ea : H a = some (.ins C dx fs)) (c : Cls X.K C) (hp : PSetOf X.K C f p g)
    (F : FnOk X.prog X.w X.K X.mg X.base CX k g fd ps sp) (hr : Room (k + 2) X.A) (hb : Binds X.K fd ps []) (hx : Passes CX X E) (ry : RelV y u) (h : sp [.ref a, y] H Q E) (hq : ∀ v H' s', Inv X pins σ H' s' → Q v H' → Qd () s') :
    wpAny (model X.prog X.w) X.A (setAttr (.ref a) f u) Qd X.xe s := by
  obtain ⟨mA, O, _, _, _, _⟩ := ins_get I.hok ea
  obtain ⟨od, J, _⟩ := O.look
  obtain ⟨z, rest, hrec⟩ := hp.rc
  have I1 := I.tok (s.toks + 1)
  have hl : ([Value.ref a, u] ++ []).length = ps.length := by
    rw [← F.len _ _ _ _ h]; rfl
  refine PySem.W.set_plain I.kIn J c.sa (PySem.W.osa_descr (s := { s with toks := s.toks + 1 }) PySem.W.KF.slot_pset I.kIn J c.po hp.tk hp.ty (PySem.W.prop_set (s := { s with toks := s.toks + 1 }) I.kIn hrec ?_))
  refine codeAny_mono (F.run X.A.in1.in1 X.stack { s with toks := s.toks + 1 } H ⟨[.ref a, u], []⟩ [.ref a, u] [.ref a, y] Q E hr.in1.in1 I1.env0.in1.in1 (hb _ [.ref a, u] I1.kIn hl) (.cons rfl (.cons ry .nil)) h) fun r s' hq' => ?_
  cases r with
  | error er => exact hx pins σ H { s with toks := s.toks + 1 } er s' I1 hq'
  | ok fl =>
    cases fl with
    | ret u =>
      obtain ⟨v, H', I3, rv, q3⟩ := I1.after hq'
      exact hq v H' s' I3 q3
    | next => exact False.elim hq'
    | brk => exact False.elim hq'
    | cont => exact False.elim hq'
theorem ps_pset (c : Cls X.K C) (hp : PSetOf X.K C f p g) (F : FnOk X.prog X.w X.K X.mg X.base CX k g fd ps sp) (hr : Room (k + 2) X.A) (hb : Binds X.K fd ps []) (hx : Passes CX X E) (ha : PE X o ta) (hv : PE X value tv)
    (hs : swapsWith value (some (.Attribute o f pos')) pos.line X.env = pure false := by rfl) : PS X (.Assign [.Attribute o f pos'] value pos) (sPset C ta tv sp E) := by
  refine ⟨fun pins s σ H D I h => ?_⟩
  refine plainObj_wpAny_Assign_Attribute (thn (hv.run pins s σ H _ I h) fun u s1 ⟨y, H1, I1, ry, q⟩ => thn (ha.run pins s1 σ H1 _ I1 q) fun ov s2 ⟨x, H2, I2, rx, a, dx, fs, ex, ea, q2⟩ => ?_) hs
  subst ex
  obtain rfl : ov = Value.ref a := rx
  exact setprop_ok I2 ea c hp F hr hb hx ry q2 fun v H' s' I3 q3 => ⟨σ, H', I3, q3⟩
end
end Hue

set_option Elab.async false
set_option linter.all false
set_option maxRecDepth 100000
set_option maxHeartbeats 1000000
/-! a list and a tuple walked together; defs with a starred parameter as methods; {x:spec} -/
namespace Hue
open PySem PySem.Spec PyProof.Rows L2

/-! ### zip(list, tuple) -/
def ItLT (K : PySem.W.Frag) (a b : Addr) : It :=
  ⟨fun i H => ∃ (us zs : List V) (u z : V), SqL K H a us ∧ SqT K H b zs ∧ us[i]? = some u ∧ zs[i]? = some z,
    fun i H v H' => ∃ q u z, v = .ref q ∧ H q = none ∧ H' = L2.upd H q (.tup [u, z]) ∧ (∀ us, SqL K H a us → us[i]? = some u) ∧ ∀ zs, SqT K H b zs → zs[i]? = some z,
    fun i H => ∃ us zs : List V, SqL K H a us ∧ SqT K H b zs ∧ i ≤ us.length ∧ i ≤ zs.length ∧ (i = us.length ∨ i = zs.length)⟩
structure LtApart (z ti tq i1 i2 a b : Addr) : Prop where
  s : ZipSep2 z ti tq i1 i2 [i1, a] [i2, b]
  n1 : a ≠ i1
  n2 : b ≠ i2
  n3 : tq ≠ i1
  n4 : tq ≠ i2
abbrev ltC (z ti tq i1 i2 : Addr) : List Addr := [z, ti, tq, i1, i2]
theorem ltC_mem {z ti tq i1 i2 c : Addr} (h : c ∈ ltC z ti tq i1 i2) : c = z ∨ c = ti ∨ c = tq ∨ c = i1 ∨ c = i2 := by simpa using h
theorem turn_LT {P : Program} {w : World} {K : PySem.W.Frag} {elts : List Expr} {kk : Nat} {tpos : Pos} {a b z ti tq i1 i2 : Addr} (Z : LtApart z ti tq i1 i2 a b) :
    Turn P w K (.Tuple elts kk tpos) (ItLT K a b) (ltC z ti tq i1 i2) z (fun i h => IsZip h z ti tq .none ∧ IsTupOf2 h ti (.ref i1) (.ref i2) ∧ (∃ u v, IsTupOf2 h tq u v) ∧ h.IsListIter i1 a i ∧ h.IsTupleIter i2 b i) where
  mem := List.mem_cons_self
  obj := fun i h st c hc => by
    obtain ⟨hz, hti, ⟨u, v, htq⟩, ⟨o1, e1, _, d1⟩, ⟨o2, e2, _, d2⟩⟩ := st
    rcases ltC_mem hc with rfl | rfl | rfl | rfl | rfl
    · exact ⟨_, hz, nofun⟩
    · exact ⟨_, hti, nofun⟩
    · exact ⟨_, htq, nofun⟩
    · exact ⟨o1, e1, fun v q => by rw [d1] at q; cases q⟩
    · exact ⟨o2, e2, fun v q => by rw [d2] at q; cases q⟩
  keep := fun i h h' ⟨hz, hti, ⟨u, v, htq⟩, k1, k2⟩ kp =>
    ⟨kp z (by simp) _ hz, kp ti (by simp) _ hti, ⟨u, v, kp tq (by simp) _ htq⟩, k1.at fun o => kp i1 (by simp) o, k2.at fun o => kp i2 (by simp) o⟩
  item := by
    intro X hP hw hK hc i pins s σ H E I hf ⟨hz, hti, ⟨u0, v0, htq⟩, k1, k2⟩ ⟨us, zs, u, v, hqu, hqz, hu, hv⟩
    subst hP hw hK
    obtain ⟨its, rv, p, _⟩ := I.list hqu
    obtain ⟨its2, rv2, p2, _⟩ := I.tuple hqz
    obtain ⟨y1, g1, r1⟩ := rv.get hu
    obtain ⟨y2, g2, r2⟩ := rv2.get hv
    have hlt1 : i < its.toArray.size := by have := (List.getElem?_eq_some_iff.mp g1).1; simpa using this
    have hlt2 : i < its2.toArray.size := by have := (List.getElem?_eq_some_iff.mp g2).1; simpa using this
    have hh : X.A.in1.handled = none := I.ok.hd hc
    have zl : z < s.heap.objs.size := Heap.lt_size hz
    refine wpAny_pyNext_zipD2_item Z.s (Draws.list hh i1 a Z.n1 its.toArray) (Draws.tuple hh i2 b Z.n2 its2.toArray) hz hti htq ⟨k1, p.isList⟩ ⟨k2, p2⟩ hlt1 hlt2 fun w1 w2 h' tk e1 e2 z' q' m1 m2 new sz kp => ?_
    have e1' : w1 = y1 := by
      have : its[i]? = some w1 := by simpa using e1
      rw [g1] at this; exact (Option.some.inj this).symm
    have e2' : w2 = y2 := by
      have : its2[i]? = some w2 := by simpa using e2
      rw [g2] at this; exact (Option.some.inj this).symm
    subst e1' e2'
    refine ⟨_, rfl, wpAny_letOwnedTupleGo_zip (s := { s with heap := h', toks := tk }) z' fun h2 z2 sb => ?_⟩
    have keep2 : ∀ c o, c ∉ ltC z ti tq i1 i2 → s.heap.get? c = some o → h2.get? c = some o := fun c o nc q =>
      (sb.2 c (fun e => nc (by simp [e]))).trans (kp c o (fun e => nc (by simp [e])) (fun e => nc (by simp [e])) (fun e => nc (by simp [e])) (fun e => nc (by simp [e])) q)
    have nq : h2.get? s.heap.objs.size = some { cls := .type "tuple", data := .seq #[w1, w2] } := (sb.2 _ (Nat.ne_of_gt zl)).trans new
    have I2 := I.turnedNew (t' := tk) (ob := .tup [u, v]) (h' := h2) keep2 hf (Nat.le_refl _) ⟨by show 2 ≤ sizeLine; decide, [w1, w2], .cons r1 (.cons r2 .nil), ⟨_, nq, rfl, _, rfl⟩⟩
    refine ⟨.ref s.heap.objs.size, _, I2, rfl, ⟨_, u, v, rfl, I.hok.fresh (Nat.le_refl _), rfl, fun l hl => by rw [I.list_inj hl hqu]; exact hu, fun l hl => by rw [I.tuple_inj hl hqz]; exact hv⟩, ⟨z2, ?_, ⟨w1, w2, ?_⟩, ?_, ?_⟩, fun c hcm => ?_⟩
    · exact (sb.2 _ Z.s.TIz).trans (kp _ _ Z.s.TIz Z.s.TITO Z.s.TIi1 Z.s.TIi2 hti)
    · exact (sb.2 _ Z.s.TOz).trans q'
    · exact m1.1.at fun o q => (sb.2 _ Z.s.zi1.symm).trans q
    · exact m2.1.at fun o q => (sb.2 _ Z.s.zi2.symm).trans q
    · have lt : c < s.heap.objs.size := by
        rcases ltC_mem hcm with rfl | rfl | rfl | rfl | rfl
        · exact zl
        · exact Heap.lt_size hti
        · exact Heap.lt_size htq
        · obtain ⟨_, e, _⟩ := k1; exact Heap.lt_size e
        · obtain ⟨_, e, _⟩ := k2; exact Heap.lt_size e
      rw [upd_ne (Nat.ne_of_lt lt)]
      exact (hf c hcm).1
  done := by
    intro X hP hw hK hc i pins s σ H E I hf ⟨hz, hti, ⟨u0, v0, htq⟩, k1, k2⟩ ⟨us, zs, hqu, hqz, le1, le2, hend⟩
    subst hP hw hK
    obtain ⟨its, rv, p, _⟩ := I.list hqu
    obtain ⟨its2, rv2, p2, _⟩ := I.tuple hqz
    have l1 := rv.length
    have l2 := rv2.length
    have hh : X.A.in1.handled = none := I.ok.hd hc
    exact wpAny_pyNext_zipD2_end Z.s (Draws.list hh i1 a Z.n1 its.toArray) (Draws.tuple hh i2 b Z.n2 its2.toArray) hz hti htq ⟨k1, p.isList⟩ ⟨k2, p2⟩ (by simp; omega) (by simp; omega) (by simp; omega) fun h' tk kp =>
      ⟨rfl, I.turnedL (t' := tk) (ch := ltC z ti tq i1 i2) (fun c o nc q => kp c o (fun e => nc (by simp [e])) (fun e => nc (by simp [e])) (fun e => nc (by simp [e])) (fun e => nc (by simp [e])) q) hf⟩
  self := fun A i s Q E st q => wpAny_pyIter_zip st.1 q
def iZipLT (K : PySem.W.Frag) (ta : TA) : TI := fun σ H R => ta σ H fun vs H1 => ∃ a b us zs, vs = [.ref a, .ref b] ∧ SqL K H1 a us ∧ SqT K H1 b zs ∧ R (ItLT K a b) H1
theorem nin2 {x p q : Nat} (h1 : x ≠ p) (h2 : x ≠ q) : x ∉ [p, q] := by simp [h1, h2]
theorem ltApart_new (n a b : Nat) (ha : a < n) (hb : b < n) : LtApart (n + 4) (n + 2) (n + 3) n (n + 1) a b :=
  have e (x y : Nat) (h : x ≠ y) : n + x ≠ n + y := fun z => h (Nat.add_left_cancel z)
  have u (x y : Nat) (h : y < n) : n + x ≠ y := Nat.ne_of_gt (Nat.lt_of_lt_of_le h (Nat.le_add_right _ _))
  have o (x : Nat) (h : 0 ≠ x) : n ≠ n + x := e 0 x h
  ⟨⟨e 2 4 (by decide), e 3 4 (by decide), e 2 3 (by decide), e 2 0 (by decide), by simp, nin2 (e 4 0 (by decide)) (u 4 a ha), nin2 (e 3 0 (by decide)) (u 3 a ha), e 2 1 (by decide), by simp, nin2 (e 4 1 (by decide)) (u 4 b hb), nin2 (e 3 1 (by decide)) (u 3 b hb), nin2 (o 1 (by decide)) (u 0 b hb), nin2 (e 1 0 (by decide)) (u 1 a ha)⟩,
    (u 0 a ha).symm, (u 1 b hb).symm, e 3 0 (by decide), e 3 1 (by decide)⟩
theorem vals2r {a b : Addr} {us : List Value} (r : Vals [V.ref a, V.ref b] us) : us = [Value.ref a, Value.ref b] := by
  cases r with
  | cons r rr =>
    cases rr with
    | cons r' rr =>
      cases rr
      cases r
      cases r'
      rfl
theorem pi_zipLT {X : Cx} {e e2 : Expr} {ta : TA} {p pos tpos : Pos} {elts : List Expr} {kk : Nat} (hg : Gl X "zip") (hm : X.mg "zip" = none) (ha : PA X [e, e2] ta)
    (hst : starEach [e, e2] X.env = (false, eval e X.env) :: starEach [e2] X.env := by rfl) (hp : (backTo pos (starEach [e2] X.env)).any (·.1) = false := by rfl) :
    PI X (.Tuple elts kk tpos) (.Call (.Name "zip" p) [e, e2] [] pos) (iZipLT X.K ta) := by
  refine ⟨fun pins s σ H R I h => Call_ (ld_blt I hg hm PyProof.Rows.boot_zip (PyProof.Rows.callWith_type1 (thn (ha.run pos pins s σ H _ I h) fun us s1 ⟨vs, H1, I1, r1, a, b, xs, zs, ex, hqx, hqz, q⟩ => ?_) hst hp))⟩
  subst ex
  obtain rfl := vals2r r1
  obtain ⟨its, rv, p1, _⟩ := I1.list hqx
  obtain ⟨its2, rv2, p2, _⟩ := I1.tuple hqz
  have lb : b < s1.heap.objs.size := by obtain ⟨_, e, _⟩ := id p2; exact Heap.lt_size e
  refine zip_begins2 (begins_list a its.toArray) (begins_tuple b its2.toArray) p1.isList p2 fun h' hz hti htq g1 g2 sz kp => wpAny_pyIter_zip hz ?_
  refine ⟨s1.heap.objs.size + 4, _, _, _, H1, rfl, I1.kept (t' := s1.toks) kp, turn_LT (ltApart_new _ a b p1.lt lb), ⟨hz, hti, ⟨_, _, htq⟩, ⟨_, g1, rfl, rfl⟩, ⟨_, g2, rfl, rfl⟩⟩, fun c hcm => ?_, q⟩
  have le : s1.heap.objs.size ≤ c := by
    rcases ltC_mem hcm with rfl | rfl | rfl | rfl | rfl <;> first | exact Nat.le_add_right _ _ | exact Nat.le_refl _
  exact I1.fpOk le (I1.hok.fresh le)
theorem walk_LT {K : PySem.W.Frag} {a b : Addr} {xs ys : List V} (hn : xs.length = ys.length) : Walk (ItLT K a b) xs.length (fun H => SqL K H a xs ∧ SqT K H b ys) (YPair (fun i => xs[i]?) (fun i => ys[i]?)) := by
  refine ⟨fun i _ hi q => ?_, fun _ q => ⟨xs, ys, q.1, q.2, Nat.le_refl _, by omega, .inl rfl⟩, fun i H v H' _ q y => ?_⟩
  · exact ⟨xs, ys, xs[i], ys[i], q.1, q.2, by simp [hi], by simp [show i < ys.length by omega]⟩
  · obtain ⟨t, x, z, h1, h2, h3, h4, h5⟩ := y
    exact ⟨t, x, z, h1, h2, h3, h4 xs q.1, h5 ys q.2⟩

theorem pg_tupK {X : Cx} {K : PySem.W.Frag} {es : List Expr} {k : Nat} {pos : Pos} {t : TGs} {n : Nat} (ek : X.K = K) (hc : X.calm = true) (h : PGs X es t)
    (hn : (assignEach es X.env).length = n := by rfl) (hst : (assignEach es X.env).findIdx? (·.1) = none := by rfl) : PG X (.Tuple es k pos) (gTup K n t) := ek ▸ pg_tup hc h hn hst
/-! ### o.m(..), m a def told by FnR -/
def tMethR (C : Addr) (m : Str) (sp : Sp) (E : XK) (ta : TE) (t : TA) : TE := fun σ H Q => ta σ H fun x H1 => ∃ a dx fs, x = .ref a ∧ H1 a = some (.ins C dx fs) ∧ fs.lookup m = none ∧ t σ H1 fun vs H2 => sp (.ref a :: vs) H2 Q E
section
variable {X : Cx} {CX : CXT} {k : Nat} {C f : Addr} {m : Str} {sp : Sp} {E : XK} {o e : Expr} {es : List Expr} {ta : TE} {t : TA} {pos apos : Pos} {pl : Sem Bool}
theorem pe_methR (he : PE X o ta) (c : Cls X.K C) (hm : Meth X.K C m f) (F : FnR X.prog X.w X.K X.mg X.base CX k f sp) (hr : Room k X.A) (hx : Passes CX X E) (ha : PA X (e :: es) t)
    (h1 : starEach (e :: es) X.env = (false, eval e X.env) :: starEach es X.env := by rfl) (h2 : (backTo pos (starEach es X.env)).any (·.1) = false := by rfl)
    (h3 : eval (.Call (.Attribute o m apos) (e :: es) [] pos) X.env = (do
      let z ← eval o X.env
      standAt apos.atName
      let (g, frst) ← holding [z] (getMethod z m pl)
      callWith pos g frst (backTo pos (starEach (e :: es) X.env)) (backToKw pos (keywordEach [] X.env))) := by rfl) :
    PE X (.Call (.Attribute o m apos) (e :: es) [] pos) (tMethR C m sp E ta t) := by
  refine ⟨fun pins s σ H Q I h => PySem.W.methodCall_KW (pl := pl) (thn (he.run pins s σ H _ I h) fun u s1 ⟨x, H1, I1, rx, a, dx, fs, ex, ea, l, q⟩ => ?_) h3⟩
  subst ex
  obtain rfl : u = Value.ref a := rx
  refine getmeth_ok I1 ea c hm l (PySem.W.callWith_K (first := [.ref a]) (h₀ := X.base) I.ok.mod.kin hm.kp (thn (ha.run pos pins s1 σ H1 _ I1 q) fun us s2 ⟨vs, H2, I2, r, q2⟩ => ⟨I2.kIn, ?_⟩) h1 h2)
  exact wpAny_call (run_fnR (us := .ref a :: us) (vs := .ref a :: vs) F hr hx I2 (.cons rfl r) q2)
theorem pe_methR0 (he : PE X o ta) (c : Cls X.K C) (hm : Meth X.K C m f) (F : FnR X.prog X.w X.K X.mg X.base CX k f sp) (hr : Room k X.A) (hx : Passes CX X E)
    (h3 : eval (.Call (.Attribute o m apos) [] [] pos) X.env = (do
      let z ← eval o X.env
      standAt apos.atName
      let (g, frst) ← holding [z] (getMethod z m pl)
      callWith pos g frst (backTo pos (starEach [] X.env)) (backToKw pos (keywordEach [] X.env))) := by rfl) :
    PE X (.Call (.Attribute o m apos) [] [] pos) (tMethR C m sp E ta tNil) := by
  refine ⟨fun pins s σ H Q I h => PySem.W.methodCall_KW (pl := pl) (thn (he.run pins s σ H _ I h) fun u s1 ⟨x, H1, I1, rx, a, dx, fs, ex, ea, l, q⟩ => ?_) h3⟩
  subst ex
  obtain rfl : u = Value.ref a := rx
  refine getmeth_ok I1 ea c hm l ?_
  exact PySem.W.callWith_K0 (first := [.ref a]) I1.kIn hm.kp (wpAny_call (run_fnR (us := [.ref a]) (vs := [.ref a]) F hr hx I1 (.cons rfl .nil) q))
end

/-! ### {x:spec} -/
/-- v written by the spec sp is the text y -/
def FmtOk (sp : Str) (x : V) (y : Str) : Prop := ∀ (prog : Program) (w : World) (A : Around) (E : Value → Shared → Prop) (s : Shared) (v : Value) (Q : Value → Shared → Prop), RelV x v →
  (∀ t k, Q (.str y t) { s with toks := k }) → wpAny (model prog w) A (formatField v sp) Q E s
def tFmtS (sp : Str) (te : TE) : TE := fun σ H Q => te σ H fun x H1 => ∃ y, FmtOk sp x y ∧ Q (.str y) H1
theorem pe_fmtS {X : Cx} {e spec : Expr} {te : TE} {sp : Str} {pos : Pos} (hs : PE X spec (tC (.str sp))) (he : PE X e te) : PE X (.FormattedValue e (-1) (some spec) pos) (tFmtS sp te) := by
  refine ⟨fun pins s σ H Q I h => wpAny_FormattedValue_spec (thn (he.run pins s σ H _ I h) fun v s1 ⟨x, H1, I1, r1, y, fo, q⟩ => ?_)⟩
  refine thn (hs.run pins s1 σ H1 (fun z H2 => z = .str sp ∧ H2 = H1) I1 ⟨rfl, rfl⟩) fun r s2 ⟨z, H2, I2, r2, ez, eH⟩ => ?_
  subst ez eH
  obtain ⟨t, rfl⟩ := r2
  exact ⟨sp, t, rfl, fo _ _ _ _ _ _ _ r1 fun t' k => ⟨.str y, H2, I2.tok _, ⟨t', rfl⟩, q⟩⟩
set_option hygiene false in
local macro_rules | `(tactic| walk_at "fmti") => `(tactic| (
  intro prog w A E s v Q r h
  obtain ⟨t, rfl⟩ := r
  refine PySem.W.KXf.field_int rfl (by decide +kernel) (by decide +kernel) ?_ h
  kxf_run_i))
set_option hygiene false in
local macro_rules | `(tactic| walk_at "fmts") => `(tactic| (
  intro prog w A E s v Q r h
  obtain ⟨t, rfl⟩ := r
  refine PySem.W.KXf.field_str rfl rfl (by decide +kernel) (by decide +kernel) ?_ h
  kxf_run_s))
theorem fr0 : FmtOk ">2" (.int 0) " 0" := by walk_at "fmti"
theorem fr1 : FmtOk ">2" (.int 1) " 1" := by walk_at "fmti"
theorem fr2 : FmtOk ">2" (.int 2) " 2" := by walk_at "fmti"
theorem fr3 : FmtOk ">2" (.int 3) " 3" := by walk_at "fmti"
theorem fr4 : FmtOk ">2" (.int 4) " 4" := by walk_at "fmti"
theorem fr5 : FmtOk ">2" (.int 5) " 5" := by walk_at "fmti"
theorem fs0 : FmtOk "_>4" (.int 0) "___0" := by walk_at "fmti"
theorem fs1 : FmtOk "_>4" (.int 1) "___1" := by walk_at "fmti"
theorem fs2 : FmtOk "_>4" (.int 2) "___2" := by walk_at "fmti"
theorem fs3 : FmtOk "_>4" (.int 3) "___3" := by walk_at "fmti"
theorem fs4 : FmtOk "_>4" (.int 4) "___4" := by walk_at "fmti"
theorem fs5 : FmtOk "_>4" (.int 5) "___5" := by walk_at "fmti"
theorem fs6 : FmtOk "_>4" (.int 6) "___6" := by walk_at "fmti"
theorem fs7 : FmtOk "_>4" (.int 7) "___7" := by walk_at "fmti"
theorem fb0 : FmtOk "<8" (.str "none") "none    " := by walk_at "fmts"
theorem fb1 : FmtOk "<8" (.str "follow") "follow  " := by walk_at "fmts"
theorem fb2 : FmtOk "<8" (.str "plain") "plain   " := by walk_at "fmts"
theorem fb3 : FmtOk "<8" (.str "guarded") "guarded " := by walk_at "fmts"
end Hue

set_option Elab.async false
set_option linter.all false
set_option maxRecDepth 100000
set_option maxHeartbeats 1000000
/-! list comprehensions whose item may raise (a call in it lets an exception out) -/
namespace Hue
open PySem PySem.Spec PyProof.Rows L2

/-- the end of a block: as it ends, or with what is raised, at the block's own frame -/
def endLc (M : Model) (A : Around) (E : Value → Shared → Prop) (use : Option (Value → Sem Unit)) (Q : Value → Shared → Prop) (acc : Value) (ce : Env) (r : Result) (s' : Shared) : Prop :=
  match r with
  | .ok f => compPost M A E use Q acc ce.locals (.ok f) s'
  | .error x => ∃ m, s'.heap.Ns ce.locals m ∧ ∀ h', Heap.SameBut ce.locals s'.heap h' → wpAny M A (passOn "comprehension.variables-let-go" x ce : Sem Value) (fun _ _ => False) E { s' with heap := h' }
theorem comp_end {M : Model} {A : Around} {E : Value → Shared → Prop} {s : Shared} {env : Env} {e : Expr} {scope : Scope} {pos : Pos} {mk0 fst0 : Sem Value} {g : Comprehension} {gs : List Comprehension} {cl : List (Str × Addr)} {use : Option (Value → Sem Unit)}
    {Q : Value → Shared → Prop} (h1 : clausesOf e = g :: gs) (h2 : ∀ x, foldedSetIterable g.iter env x = pure x) (h3 : closureFor scope env = pure cl) (h4 : scope.kind = .function)
    (h5 : ∀ x ∈ scope.names, x.2 = .local → scope.names.lookup x.1 = some .local)
    (h : wpAny M A fst0 (fun x s1 => wpAny M A (pyIter x) (fun it s2 => wpAny M A mk0 (fun acc s3 => wpAny M A (newFunctionEnv scope env.globals cl [] env.qual none .none (some env)) (fun ce s4 =>
      codeAny M A (.compStart e 0 it acc { ce with scope := relabel scope env }) (endLc M A E use Q acc { ce with scope := relabel scope env }) s4) E s3) E s2) E s1) E s) :
    wpAny M A (comprehension e scope env pos mk0 false fst0 use) Q E s := by
  unfold comprehension
  rw [h3, h1]
  refine wpAny_bind (wpAny_mono h (fun x s1 k1 => wpAny_bind (wpAny_standAt (wpAny_bind (wpAny_of_eq (h2 x) (wpAny_bind (wpAny_holding (wpAny_mono k1 (fun it s2 k2 => wpAny_standIf (wpAny_bind (wpAny_mono k2 (fun acc s3 k3 =>
    wpAny_bind (wpAny_pure (wpAny_bind (wpAny_mono k3 (fun ce s4 k4 => ?_) fun _ _ z => z)))) fun _ _ z => z))) fun _ _ z => z))))))) fun _ _ z => z)
  dsimp only
  have kv : ∀ x ∈ (scope.names.filter fun x => (x.2 == .local || x.2 == .cell) && x.1 != (".0" : Str)).reverse, x.2 = .local → Env.kindOf { ce with scope := relabel scope env } x.1 = some .local :=
    fun x hx hl => lookup_relabel_local (h5 x (List.mem_filter.mp (List.mem_reverse.mp hx)).1 hl)
  have kw : ∀ x ∈ (scope.names.filter fun x => (x.2 == .local || x.2 == .cell) && x.1 != (".0" : Str)).reverse.drop 1 ++ (scope.names.filter fun x => (x.2 == .local || x.2 == .cell) && x.1 != (".0" : Str)).reverse.take 1,
      x.2 = .local → Env.kindOf { ce with scope := relabel scope env } x.1 = some .local := fun x hx hl => (List.mem_append.mp hx).elim (fun z => kv x (List.mem_of_mem_drop z) hl) fun z => kv x (List.mem_of_mem_take z) hl
  refine wpAny_holding (wpAny_bind (wpAny_attempt (wpAny_holding (wpAny_run (codeAny_mono k4 fun r s' hr => ?_)))))
  cases r with
  | ok f =>
    cases use with
    | none =>
      obtain ⟨m, hn, hr⟩ := hr
      exact wpAny_bind (wpAny_holding (wpAny_comp_letGo (cenv := { ce with scope := relabel scope env }) h4 _ s' m kv hn fun h' m' _ hs' => wpAny_pure (hr h' hs')))
    | some u =>
      refine wpAny_bind (wpAny_rule (wpAny_bind (wpAny_holding (wpAny_mono hr (fun _ s'' ⟨m, hn, hr'⟩ => ?_) fun _ _ z => z))))
      exact wpAny_bind (wpAny_comp_letGo (cenv := { ce with scope := relabel scope env }) h4 _ s'' m kw hn fun h' m' _ hs' => wpAny_pure (hr' h' hs'))
  | error x =>
    obtain ⟨m, hn, hr⟩ := hr
    exact wpAny_bind (wpAny_holding (wpAny_comp_letGo (cenv := { ce with scope := relabel scope env }) h4 _ s' m kv hn fun h' m' _ hs' => wpAny_mono (hr h' hs') (fun _ _ f => f.elim) fun _ _ y => y))

/-- the block's context where its item may raise: what a call in it lets out, wished for as W -/
abbrev blkX (X : Cx) (W : XK) (s : Shared) (H : Hp) (scope : Scope) (ce : Env) (fp : List Addr) : Cx :=
  { X.blk s H scope ce fp with xe := fun u s' => ∃ (pins : List (Addr × Obj)) (σ : L2.St) (H' : Hp) (s0 : Shared), Inv (X.blk s H scope ce fp) pins σ H' s0 ∧ L2.CX X.prog X.w X.stack H' s0 W u s' }
theorem Inv.ofX {X : Cx} {W : XK} {s : Shared} {H : Hp} {scope : Scope} {ce : Env} {fp : List Addr} {pins : List (Addr × Obj)} {σ : L2.St} {H' : Hp} {s0 : Shared} (I : Inv (blkX X W s H scope ce fp) pins σ H' s0) : Inv (X.blk s H scope ce fp) pins σ H' s0 :=
  ⟨⟨I.ok.1, I.ok.2, I.ok.3, I.ok.4, I.ok.5, I.ok.6, I.ok.7, I.ok.8, I.ok.9, I.ok.10, I.ok.11, I.ok.12, I.ok.13, I.ok.14, I.ok.15, I.ok.16, I.ok.17, I.ok.18⟩, I.os, I.bare, I.base, I.loc, I.cell, I.free, I.freeC, I.pin, I.hok, I.len⟩
theorem Inv.toX {X : Cx} {W : XK} {s : Shared} {H : Hp} {scope : Scope} {ce : Env} {fp : List Addr} {pins : List (Addr × Obj)} {σ : L2.St} {H' : Hp} {s0 : Shared} (I : Inv (X.blk s H scope ce fp) pins σ H' s0) : Inv (blkX X W s H scope ce fp) pins σ H' s0 :=
  ⟨⟨I.ok.1, I.ok.2, I.ok.3, I.ok.4, I.ok.5, I.ok.6, I.ok.7, I.ok.8, I.ok.9, I.ok.10, I.ok.11, I.ok.12, I.ok.13, I.ok.14, I.ok.15, I.ok.16, I.ok.17, I.ok.18⟩, I.os, I.bare, I.base, I.loc, I.cell, I.free, I.freeC, I.pin, I.hok, I.len⟩
theorem cx_mono {P : Program} {w : World} {outer : List Env} {H : Hp} {s : Shared} {E W : XK} {u : Value} {s' : Shared} (c : L2.CX P w outer H s E u s') (h : ∀ cls d H, E cls d H → W cls d H) : L2.CX P w outer H s W u s' := by
  obtain ⟨a, B, H', cls, d, c1, c2, c3, c4, c5, c6, c7, c8⟩ := c
  exact ⟨a, B, H', cls, d, c1, c2, c3, c4, c5, c6, c7, h _ _ _ c8⟩
theorem passB {X : Cx} {W : XK} {s : Shared} {H : Hp} {scope : Scope} {ce : Env} {fp : List Addr} : Passes (L2.CX X.prog X.w) (blkX X W s H scope ce fp) W :=
  fun pins σ H' s0 u s' I c => ⟨pins, σ, H', s0, Inv.ofX I, c⟩
theorem note_frame {x : Value} {ce env : Env} (h : ce.frame = env.frame) : noteFrame x ce = noteFrame x env := by
  unfold noteFrame PySem.frameOf
  rw [h]
theorem frames_but {h h' base base' : Heap} {C : Addr} (sb : Heap.SameBut C h h') (hb : ∀ b, base.get? b = none → base'.get? b = none) : ∀ {l : List Env}, h.FunFrames base l → C ∉ frs l → h'.FunFrames base' l
  | [], _, _ => trivial
  | env :: l, ⟨k1, ⟨L, o, f1, f2, f3, f4⟩, k3⟩, n => by
    refine ⟨k1, ⟨L, o, f1, hb _ f2, (sb.2 L ?_).trans f3, f4⟩, frames_but sb hb k3 fun hm => n ?_⟩
    · intro e
      exact n (List.mem_filterMap.mpr ⟨env, List.mem_cons_self, by rw [f1, e]⟩)
    · obtain ⟨e, he, q⟩ := List.mem_filterMap.mp hm
      exact List.mem_filterMap.mpr ⟨e, List.mem_cons_of_mem _ he, q⟩
/-- what a call in the block lets out, noted there, is in the def's own air -/
theorem blk_err {X : Cx} {pins pins' : List (Addr × Obj)} {σ σ' : L2.St} {H3 H' : Hp} {s3 s0 s' : Shared} {W : XK} {scope : Scope} {ce : Env} {fp : List Addr} {u : Value} (I3 : Inv X pins σ H3 s3) (hs : X.stack = X.env :: X.outer) (hf : X.env.frame = some X.env.locals)
    (hfr : ce.frame = X.env.frame) (hC : ce.locals = s3.heap.objs.size) (f3 : ∀ b ∈ fp, FpOk X pins H3 b) (tk : L2.Takes X fun cls d _ H => W cls d H) (I : Inv (X.blk s3 H3 scope ce fp) pins' σ' H' s0) (c : L2.CX X.prog X.w X.stack H' s0 W u s') (what : String) :
    notedBy (model X.prog X.w) X.A ce (fun e s2 => ∃ m, s2.heap.Ns ce.locals m ∧ ∀ h', Heap.SameBut ce.locals s2.heap h' → wpAny (model X.prog X.w) X.A (passOn what e ce : Sem Value) (fun _ _ => False) X.xe { s2 with heap := h' }) u s' := by
  obtain ⟨a, B, H2, cls, d, rfl, fl, hok, ub, na, os, ag, hW⟩ := c
  obtain ⟨mC, nsC, _⟩ := I.loc
  have nC : H' ce.locals = none := I.free
  have frC : ce.locals ∉ frs X.stack := fun hm => by
    obtain ⟨_, o, e, _⟩ := I3.stack.mem hm
    rw [hC] at e
    exact absurd (Heap.lt_size e) (Nat.lt_irrefl _)
  have nsB : B.Ns ce.locals mC := nsC.at fun o e => ub.keep _ o e nC frC
  have ns' : s'.heap.Ns ce.locals mC := nsB.at fun o e => fl.1 _ o e
  have hfA : X.A.frames = some (X.env :: X.outer) := by rw [I3.ok.frames, hs]
  unfold notedBy
  rw [note_frame hfr]
  rw [hs] at fl
  refine HandSPX.looks_onZ Zc.steady hfA hf fl fun h1 hl up1 => ?_
  have ns1 : h1.Ns ce.locals mC := nsB.at fun o e => hl.1 _ o e
  refine ⟨mC, ns1, fun h2 sb => ?_⟩
  -- the ground without the block's variables
  generalize hB2 : PySem.W.hideAll B [ce.locals] = B2
  have b2s : ∀ b o, B2.get? b = some o → B.get? b = some o ∧ b ≠ ce.locals := fun b o e => by
    rw [← hB2] at e
    refine ⟨PySem.W.of_hideAll _ e, fun z => ?_⟩
    rw [z, PySem.W.hideAll_none [ce.locals] (List.mem_singleton.mpr rfl)] at e
    cases e
  have b2g : ∀ b o, B.get? b = some o → b ≠ ce.locals → B2.get? b = some o := fun b o e n => by
    rw [← hB2]
    exact PySem.W.hideAll_get _ e fun z => n (List.mem_singleton.mp z)
  have b2n : ∀ b, B.get? b = none → B2.get? b = none := fun b e => by
    cases q : B2.get? b with
    | none => rfl
    | some o => rw [(b2s b o q).1] at e; cases e
  obtain ⟨g1, g2, g3, oe, vs, T, oT, ts, t1, t2, t3, t4, t5, t6, t7, t8, t9⟩ := hl
  have nfC : ∀ o vs, h1.get? ce.locals = some o → o.data ≠ .fields vs := fun o vs e q => by
    obtain ⟨oC, es, ep, q1, q2, _⟩ := ns1
    rw [q1] at e; cases e
    rw [q2] at q; cases q
  have aC : a ≠ ce.locals := fun e => nfC oe vs (by rw [← e]; exact t1) t3
  have TC : T ≠ ce.locals := fun e => nfC oT ts (by rw [← e]; exact t7) t8
  have hl2 : HandSPX.HeldZ B2 (X.env :: X.outer) a (Zc cls d) X.env.locals h2 := by
    refine ⟨fun b o e => ?_, b2n _ g2, frames_but sb b2n g3 (by rw [← hs]; exact frC), oe, vs, T, oT, ts, (sb.2 _ aC).trans t1, t2, t3, t4, b2n _ t5, t6, (sb.2 _ TC).trans t7, t8, t9⟩
    obtain ⟨k1, k2⟩ := b2s b o e
    exact (sb.2 _ k2).trans (g1 _ _ k1)
  unfold PySem.passOn
  refine wpAny_bind (wpAny_field (s := { s' with heap := h2 }) ((sb.2 _ aC).trans t1) t3 t4 ?_)
  rw [if_neg (by simp)]
  rw [hfr, hf]
  refine wpAny_bind (HandSPX.setFlight_onZ (s := { s' with heap := h2 }) hl2 fun h3 hl3 up3 => wpAny_throw (tk _ _ ?_))
  obtain ⟨G, q1, q2⟩ := restrict s'.heap fun b => (B2.get? b).isSome || decide (b ∈ frs X.stack)
  have stB : B.StaysIn s'.heap := fl.1
  have gB : ∀ b o, B2.get? b = some o → G.get? b = some o := fun b o e => by
    rw [q1 b (by simp [e])]
    exact stB b o (b2s b o e).1
  have gF : ∀ b, b ∈ frs X.stack → G.get? b = s'.heap.get? b := fun b hb => q1 b (by simp [hb])
  have og : ∀ b o, G.get? b = some o → s'.heap.get? b = some o ∧ ((B2.get? b).isSome = true ∨ b ∈ frs X.stack) := fun b o e => by
    cases q : ((B2.get? b).isSome || decide (b ∈ frs X.stack)) with
    | false => rw [q2 b q] at e; cases e
    | true =>
      rw [q1 b q] at e
      exact ⟨e, by simpa [Bool.or_eq_true] using q⟩
  have gC : ∀ o, G.get? ce.locals ≠ some o := fun o e => by
    rcases (og _ _ e).2 with z | z
    · obtain ⟨o', z⟩ := Option.isSome_iff_exists.mp z
      exact (b2s _ _ z).2 rfl
    · exact frC z
  -- the state ahead of the call, without the block's variables
  have hid : ∀ b o, s0.heap.get? b = some o → b ≠ ce.locals → (PySem.W.hideAll s0.heap [ce.locals]).get? b = some o := fun b o e n => PySem.W.hideAll_get _ e fun z => n (List.mem_singleton.mp z)
  have ltC : ∀ b o, s3.heap.get? b = some o → b ≠ ce.locals := fun b o e z => by
    rw [z, hC] at e
    exact absurd (Heap.lt_size e) (Nat.lt_irrefl _)
  have tr : ∀ (Hx : Hp) (h h' : Heap), Hx ce.locals = none → HOk X.prog X.w Hx h → (∀ b o, h.get? b = some o → b ≠ ce.locals → h'.get? b = some o) → HOk X.prog X.w Hx h' := fun Hx h h' nx k kp b o e =>
    (k b o e).stay (fun c u hc r => kp c u r fun z => by
      rcases hc with hc | hc
      · rw [← hc, z, nx] at e; cases e
      · rw [z, nx] at hc; cases hc) (fun _ r => r) fun _ _ r => r
  have U := I.base
  have I1 : Inv X pins σ H' { s0 with heap := PySem.W.hideAll s0.heap [ce.locals] } := by
    refine I3.call' (ch := fp) I.os ⟨fun b o e n hb hx => ?_, fun b o e n hb hx => ?_, U.free, fun b o e hx => ?_, U.tups, U.frzs, U.tbls⟩ (tr H' _ _ nC I.hok hid) I.bare fun b hb => ⟨(f3 b hb).2.2.2.1, (f3 b hb).2.1, (f3 b hb).2.2.2.2.1, (f3 b hb).2.2.2.2.2⟩
    · exact hid _ _ (U.keep b o e n hb hx) (ltC b o e)
    · obtain ⟨sl, q⟩ := U.slot b o e n hb hx
      exact ⟨sl, hid _ _ q (ltC b o e)⟩
    · obtain ⟨o', q⟩ := U.there b o e hx
      exact ⟨o', hid _ _ q (ltC b o e)⟩
  have nC2 : H2 ce.locals = none := by
    obtain ⟨oC, es, ep, e1, _⟩ := nsC
    exact ub.free _ oC e1 nC
  have hs0 : ∀ b o, (PySem.W.hideAll s0.heap [ce.locals]).get? b = some o → s0.heap.get? b = some o ∧ b ≠ ce.locals := fun b o e => ⟨PySem.W.of_hideAll _ e, fun z => by
    rw [z, PySem.W.hideAll_none [ce.locals] (List.mem_singleton.mpr rfl)] at e
    cases e⟩
  have I2 : Inv X pins σ H2 { s0 with heap := G, gens := s'.gens, drawn := s'.drawn, toks := s'.toks } := by
    refine Inv.call (s := { s0 with heap := PySem.W.hideAll s0.heap [ce.locals] }) (h' := G) (H' := H2) I1 (ch := []) (g' := s'.gens) (t' := s'.toks) (d' := s'.drawn) ⟨fun b o e n hb _ => ?_, fun b o e n hb _ => ?_, fun b o e n _ => ub.free b o (hs0 b o e).1 n, fun b o e _ => ?_, ub.tups, ub.frzs, ub.tbls⟩ (tr H2 B G nC2 hok fun b o e n => gB b o (b2g b o e n)) ag (fun _ z => nomatch z)
    · exact gB b o (b2g b o (ub.keep b o (hs0 b o e).1 n hb) (hs0 b o e).2)
    · obtain ⟨sl, q⟩ := ub.slot b o (hs0 b o e).1 hb
      exact ⟨sl, by rw [gF b hb]; exact q⟩
    · by_cases hb : b ∈ frs X.stack
      · obtain ⟨sl, q⟩ := ub.slot b o (hs0 b o e).1 hb
        exact ⟨_, by rw [gF b hb]; exact q⟩
      · obtain ⟨o', q⟩ := ub.there b o (hs0 b o e).1 hb
        exact ⟨o', gB b o' (b2g b o' q (hs0 b o e).2)⟩
  refine ⟨a, B2, _, pins, σ, H2, cls, d, rfl, I2, fun b o e hb => ?_, fun b o e hnf => ?_, .inr (.inr (by rw [hs]; exact hl3)), na, os, ag, hW⟩
  · obtain ⟨e', z⟩ := og b o e
    rcases z with z | z
    · obtain ⟨o', z⟩ := Option.isSome_iff_exists.mp z
      have q := stB b o' (b2s b o' z).1
      rw [e'] at q; cases q
      exact z
    · exact absurd z hb
  · have bC : b ≠ ce.locals := fun z => gC o (by rw [← z]; exact e)
    obtain ⟨sl, e1⟩ := up1 b o (og b o e).1 hnf
    obtain ⟨sl2, e2⟩ := up3 b _ ((sb.2 _ bC).trans e1) hnf
    exact ⟨sl2, e2⟩

section
variable {X : Cx} {W : XK} {elt tg iter : Expr} {ifs : List Expr} {scope : Scope} {own : List (Str × Nat)} {wi : TI} {g : TG} {tt : TT} {te : TE}
/-- as the library's block of one clause, its item judged where a call in it may raise -/
theorem lcx_core {pins : List (Addr × Obj)} {s : Shared} {σ : L2.St} {H : Hp} {Q : VK} {pos pos' : Pos} {use : Option (Value → Sem Unit)} {Qf : Value → Shared → Prop}
    (hc : X.calm = true) (hN : X.N.Nodup) (hst : X.stack = X.env :: X.outer) (hfr : X.env.frame = some X.env.locals) (tk : L2.Takes X fun cls d _ H => W cls d H) (I : Inv X pins σ H s) (hi : PI X tg iter wi) (ok : BlkOk X.N X.env.scope scope own)
    (hg : ∀ (s : Shared) (H : Hp) (C : Addr) (cl : List (Str × Addr)) (fp : List Addr), PG (X.blk s H scope (compEnvC scope cl C X.env) fp) tg g) (ht : ∀ (s : Shared) (H : Hp) (C : Addr) (cl : List (Str × Addr)) (fp : List Addr), PTs (X.blk s H scope (compEnvC scope cl C X.env) fp) ifs tt)
    (he : ∀ (s : Shared) (H : Hp) (C : Addr) (cl : List (Str × Addr)) (fp : List Addr), PE (blkX X W s H scope (compEnvC scope cl C X.env) fp) elt te) (hsi : ∀ x, foldedSetIterable iter X.env x = pure x)
    (h : tLc wi g tt te (own.map (·.2)) σ H Q)
    (fin : ∀ D C s' m H', Inv X pins σ H' s' → Q (.ref D) H' → s'.heap.Ns C m → FpOk X pins H' C → compPost (model X.prog X.w) X.A X.xe use Qf (.ref D) C (.ok .next) s') :
    wpAny (model X.prog X.w) X.A (comprehension (.ListComp elt [⟨tg, iter, ifs, 0⟩] scope pos) scope X.env pos' (newList []) false (eval iter X.env) use) Qf X.xe s := by
  have fre : ∀ y ∈ scope.names, y.2 = .free → ∃ c, X.env.cells.lookup y.1 = some c := fun y hy e => (ok.free y hy e).elim (fun z => I.ok.has _ (.inl z)) fun z => I.ok.has _ (.inr z)
  refine comp_end (use := use) rfl hsi (closure_ok fre) ok.kind (fun y hy e => by rw [ok.uniq y hy, e])
    (thn (hi.run pins s σ H _ I h) fun xv s1 hx => thn hx fun itv s2 ⟨it, fp, tn, J, H2, e, I2, T, st2, f2, q⟩ => ?_)
  subst e
  refine wpAny_newObj_type (newEnv_comp ?_) (Nat.zero_le _)
  generalize hD : s2.heap.objs.size = D
  have nD : H2 D = none := I2.hok.fresh (Nat.le_of_eq hD)
  obtain ⟨Wv, ⟨m0, w0⟩, turn⟩ := q D nD
  generalize hs3 : ({ s2 with heap := s2.heap.push { cls := .type "list", data := .seq ([] : List Value).toArray } } : Shared) = s3
  have h3 : s3.heap = s2.heap.push { cls := .type "list", data := .seq ([] : List Value).toArray } := by rw [← hs3]
  have I3 : Inv X pins σ (L2.upd H2 D (.lst [])) s3 := by
    rw [← hs3]
    refine I2.laid (t' := s2.toks) (fun b o e => Heap.get?_push_of_some _ e) (Nat.le_of_eq hD) ⟨Nat.zero_le _, [], 0, .nil, ?_⟩
    rw [← hD]
    exact Heap.get?_push_size _ rfl
  have lt2 : ∀ b ∈ fp, b < s2.heap.objs.size := fun b hb => by
    obtain ⟨o, e, _⟩ := T.obj _ _ st2 b hb
    exact Heap.lt_size e
  have f3 : ∀ b ∈ fp, FpOk X pins (L2.upd H2 D (.lst [])) b ∧ b < s3.heap.objs.size := fun b hb =>
    ⟨⟨by rw [upd_ne (by rw [← hD]; exact Nat.ne_of_lt (lt2 b hb))]; exact (f2 b hb).1, (f2 b hb).2⟩, by rw [h3, Heap.size_push]; exact Nat.lt_succ_of_lt (lt2 b hb)⟩
  have st3 : tn 0 s3.heap := T.keep _ _ _ st2 fun b _ o e => by rw [h3]; exact Heap.get?_push_of_some _ e
  have I4 := block_start I3 ok hN f3
  have pg := hg s3 (L2.upd H2 D (.lst [])) s3.heap.objs.size (cellsFrom (s3.heap.objs.size + 1) scope.names (cloFrom X.env.cells scope.names [])) fp
  have pt := ht s3 (L2.upd H2 D (.lst [])) s3.heap.objs.size (cellsFrom (s3.heap.objs.size + 1) scope.names (cloFrom X.env.cells scope.names [])) fp
  have pe := he s3 (L2.upd H2 D (.lst [])) s3.heap.objs.size (cellsFrom (s3.heap.objs.size + 1) scope.names (cloFrom X.env.cells scope.names [])) fp
  show codeAny _ _ (.compStart (.ListComp elt [⟨tg, iter, ifs, 0⟩] scope pos) 0 (.ref it) (.ref D) (compEnvC scope (cellsFrom (s3.heap.objs.size + 1) scope.names (cloFrom X.env.cells scope.names [])) s3.heap.objs.size X.env)) (endLc (model X.prog X.w) X.A X.xe use Qf (.ref D) (compEnvC scope (cellsFrom (s3.heap.objs.size + 1) scope.names (cloFrom X.env.cells scope.names [])) s3.heap.objs.size X.env)) { s3 with heap := pushCells (s3.heap.push { cls := .type "dict", data := .dict #[] }) scope.names }
  generalize hce : compEnvC scope (cellsFrom (s3.heap.objs.size + 1) scope.names (cloFrom X.env.cells scope.names [])) s3.heap.objs.size X.env = ce at I4 pg pt pe ⊢
  have cL : ce.locals = s3.heap.objs.size := by subst hce; rfl
  have cF : ce.frame = X.env.frame := by subst hce; rfl
  generalize hH3 : L2.upd H2 D (.lst []) = H3 at I3 I4 pg pt pe w0 f3
  generalize hs4 : ({ s3 with heap := pushCells (s3.heap.push { cls := .type "dict", data := .dict #[] }) scope.names } : Shared) = s4 at I4 ⊢
  have st4 : tn 0 s4.heap := T.keep _ _ _ st3 fun b _ o e => by rw [← hs4]; exact pushCells_keeps _ _ _ _ (Heap.get?_push_of_some _ e)
  have stat : ∀ {σ' : L2.St} {H' : Hp} {s' : Shared}, Inv (X.blk s3 H3 scope ce fp) [] σ' H' s' → (∀ b ∈ fp, H' b = none) → ∀ b ∈ fp, FpOk (X.blk s3 H3 scope ce fp) [] H' b := fun {σ' H' s'} I' hn b hb =>
    ⟨hn b hb, (I'.ok.exf b hb).1, I'.ok.exfs b hb, .inl hb, fun x c e => (I'.ok.exf b hb).2 x c e, fun p hp => absurd (show p ∈ ([] : List (Addr × Obj)) ++ [] from hp) (by simp)⟩
  have loop : codeAny (model X.prog X.w) X.A (.compLoop (.ListComp elt [⟨tg, iter, ifs, 0⟩] scope pos) 0 (.ref it) (.ref D) ce) (endLc (model X.prog X.w) X.A X.xe use Qf (.ref D) ce) s4 := by
    refine compLoop_any (fun n s' => ∃ i H', Inv (X.blk s3 H3 scope ce fp) [] (wipe σ (own.map (·.2))) H' s' ∧ tn i s'.heap ∧ (∀ b ∈ fp, H' b = none) ∧ Wv i n H') ?_ m0 ⟨0, H3, I4, st4, fun b hb => (f3 b hb).1.1, w0⟩
    rintro n s5 ⟨i, H5, I5, st5, n5, w5⟩
    rcases turn i n H5 w5 with ⟨stop, qq⟩ | ⟨go, Nx, hNx, step⟩
    · refine thnF (T.done (X.blk s3 H3 scope ce fp) rfl rfl rfl hc i [] s5 _ H5 (fun _ _ => False) I5 (stat I5 n5) st5 stop) fun r s6 ⟨hr, I6⟩ => ?_
      subst hr
      have I7 : Inv X pins σ H5 s6 := I3.call' (ch := fp) I6.os I6.base I6.hok I6.bare fun b hb => ⟨(f3 b hb).1.2.2.2.1, (f3 b hb).1.2.1, (f3 b hb).1.2.2.2.2.1, (f3 b hb).1.2.2.2.2.2⟩
      have nC : H5 s3.heap.objs.size = none := by rw [← cL]; exact I6.free
      obtain ⟨m, hn, _⟩ := I6.loc
      show compPost (model X.prog X.w) X.A X.xe use Qf (.ref D) ce.locals (.ok .next) s6
      rw [cL]
      exact fin D s3.heap.objs.size s6 m H5 I7 qq (by rw [← cL]; exact hn) (I3.fpOk (Nat.le_refl _) nC)
    · refine thnF (T.item (X.blk s3 H3 scope ce fp) rfl rfl rfl hc i [] s5 _ H5 (fun _ _ => False) I5 (stat I5 n5) st5 go) fun r s6 ⟨u, hr, h6⟩ => ?_
      subst hr
      refine thnF h6 fun _ s7 ⟨x, H7, I7, r7, y7, st7, n7⟩ => ?_
      refine thnF (pg.run _ s7 _ H7 x u _ (I7.pinned (stat I7 n7) (T.obj _ _ st7)) r7 (step x H7 y7)) fun _ s8 ⟨σ8, H8, I8, hw8, q8⟩ => ?_
      refine thnF (pt.run _ s8 σ8 H8 _ I8 q8) fun b s9 ⟨H9, I9, q9⟩ => ?_
      have back : ∀ {s' : Shared} {H' : Hp}, Inv (X.blk s3 H3 scope ce fp) ([] ++ pinsAt fp s7.heap) σ8 H' s' → Nx H' → ∃ m, m < n ∧ ∃ i H', Inv (X.blk s3 H3 scope ce fp) [] (wipe σ (own.map (·.2))) H' s' ∧ tn i s'.heap ∧ (∀ b ∈ fp, H' b = none) ∧ Wv i m H' := fun {s' H'} I' nx => by
        obtain ⟨m', hm, w'⟩ := hNx H' nx
        have pin' : ∀ b ∈ fp, ∀ o, s7.heap.get? b = some o → s'.heap.get? b = some o ∧ H' b = none := fun b hb o e =>
          let z := I'.pin (b, o) (List.mem_append_right _ (List.mem_append_right _ (mem_pinsAt hb e)))
          ⟨z.1, z.2.1⟩
        refine ⟨m', hm, i + 1, H', (I'.unpinned (pins := [])).weak (by rw [← hw8, wipe_length]) (fun j v e => ?_), T.keep _ _ _ st7 fun b hb o e => (pin' b hb o e).1, fun b hb => ?_, w'⟩
        · rw [← hw8] at e
          exact (wipe_some e).1
        · obtain ⟨o, e, _⟩ := T.obj _ _ st7 b hb
          exact (pin' b hb o e).2
      cases b with
      | false =>
        simp only [Bool.false_eq_true, if_false] at q9 ⊢
        exact back I9 q9
      | true =>
        simp only [if_true] at q9 ⊢
        refine wpAny_mono (pe.run _ s9 σ8 H9 _ (Inv.toX I9) q9) (fun z s10 ⟨yv, H10, I10, r10, acc, hD10, hz10, nx⟩ => ?_) fun u s' ⟨pins', σ', H', s0, I', c⟩ => ?_
        · exact app_ok (X := X.blk s3 H3 scope ce fp) (Inv.ofX I10) hD10 hz10 r10 fun s11 I11 => back I11 nx
        · exact blk_err I3 hst hfr cF cL (fun b hb => (f3 b hb).1) tk I' c _
  exact codeAny_compStart_list loop (T.self X.A 0 _ _ _ st4 loop)
theorem pe_lcX {pos : Pos} (hst : X.stack = X.env :: X.outer) (hfr : X.env.frame = some X.env.locals) (tk : L2.Takes X fun cls d _ H => W cls d H) (hc : X.calm = true) (hN : X.N.Nodup) (hi : PI X tg iter wi) (ok : BlkOk X.N X.env.scope scope own)
    (hg : ∀ (s : Shared) (H : Hp) (C : Addr) (cl : List (Str × Addr)) (fp : List Addr), PG (X.blk s H scope (compEnvC scope cl C X.env) fp) tg g) (ht : ∀ (s : Shared) (H : Hp) (C : Addr) (cl : List (Str × Addr)) (fp : List Addr), PTs (X.blk s H scope (compEnvC scope cl C X.env) fp) ifs tt)
    (he : ∀ (s : Shared) (H : Hp) (C : Addr) (cl : List (Str × Addr)) (fp : List Addr), PE (blkX X W s H scope (compEnvC scope cl C X.env) fp) elt te) (hsi : ∀ x, foldedSetIterable iter X.env x = pure x := by intro _; rfl) :
    PE X (.ListComp elt [⟨tg, iter, ifs, 0⟩] scope pos) (tLc wi g tt te (own.map (·.2))) := by
  refine ⟨fun pins s σ H Q I h => ?_⟩
  rw [eval_ListComp]
  refine lcx_core hc hN hst hfr tk I hi ok hg ht he hsi h fun D C s' m H' I' q hn ⟨k0, k1, k2, k3, k4, k5⟩ => ⟨m, hn, fun h2 sb => ?_⟩
  exact ⟨.ref D, H', I'.turned (t' := s'.toks) (fun b o hb e => (sb.2 b hb).trans e) k0 k1 k3 k4 k5, rfl, q⟩
theorem ps_setLcX {i : Nat} {y : Str} {py pos spos : Pos} (hst : X.stack = X.env :: X.outer) (hfr : X.env.frame = some X.env.locals) (tk : L2.Takes X fun cls d _ H => W cls d H) (hc : X.calm = true) (hN : X.N.Nodup) (hy : X.N[i]? = some y) (hyl : X.env.scope.names.lookup y = some .local)
    (hsw : swapsWith (.ListComp elt [⟨tg, iter, ifs, 0⟩] scope pos) (some (.Name y py)) spos.line X.env = pure true) (hi : PI X tg iter wi) (ok : BlkOk X.N X.env.scope scope own)
    (hg : ∀ (s : Shared) (H : Hp) (C : Addr) (cl : List (Str × Addr)) (fp : List Addr), PG (X.blk s H scope (compEnvC scope cl C X.env) fp) tg g) (ht : ∀ (s : Shared) (H : Hp) (C : Addr) (cl : List (Str × Addr)) (fp : List Addr), PTs (X.blk s H scope (compEnvC scope cl C X.env) fp) ifs tt)
    (he : ∀ (s : Shared) (H : Hp) (C : Addr) (cl : List (Str × Addr)) (fp : List Addr), PE (blkX X W s H scope (compEnvC scope cl C X.env) fp) elt te) (hsi : ∀ x, foldedSetIterable iter X.env x = pure x := by intro _; rfl) :
    PS X (.Assign [.Name y py] (.ListComp elt [⟨tg, iter, ifs, 0⟩] scope pos) spos) (tAsg (tLc wi g tt te (own.map (·.2))) (gName i)) := by
  refine ⟨fun pins s σ H D I h => ?_⟩
  rw [exec_Assign_Name_used _ _ _ _ hsw]
  refine wpAny_bind (wpAny_standAt (wpAny_bind ?_))
  show wpAny _ X.A (do let _ ← comprehension (.ListComp elt [⟨tg, iter, ifs, 0⟩] scope pos) scope X.env (firstIterPos [⟨tg, iter, ifs, 0⟩] pos) (newList []) false (eval iter X.env) (some (assign (.Name y py) X.env))) _ _ s
  refine wpAny_bind (thn (lcx_core (Qf := fun _ s' => SP X pins D .next s') (Q := fun x H1 => gName i x σ H1 D.nx) hc hN hst hfr tk I hi ok hg ht he hsi h fun L C s' m H' I' q hn ⟨k0, k1, k2, k3, k4, k5⟩ => ?_) fun _ s' hq => wpAny_pure (wpAny_pure hq))
  show wpAny _ _ (assign (.Name y py) X.env (.ref L)) _ _ _
  refine wpAny_assign_Name (store_ok2 (v := V.ref L) I' hN hy (.inl hyl) rfl (fun s2 I2 ⟨a, sb, ha⟩ => ?_) (.inr hyl))
  have haC : C ≠ a := by
    rcases ha with z | z
    · rw [z]; exact k1
    · exact fun e => k4 y a z e.symm
  exact ⟨m, hn.sameBut sb haC, fun h3 sb3 => ⟨_, H', I2.turned (t' := s2.toks) (fun b o hb e => (sb3.2 b hb).trans e) k0 k1 k3 k4 k5, q⟩⟩
end
end Hue
namespace Hue
open PySem PySem.Spec PyProof.Rows L2
theorem callR_or {X : Cx} {f : Value} {r1 r2 : List V → Hp → VK → Prop} (h1 : CallR X f r1) (h2 : CallR X f r2) : CallR X f (fun xs H Q => r1 xs H Q ∨ r2 xs H Q) :=
  fun pins s σ H xs us Q I r h => h.elim (fun z => h1 pins s σ H xs us Q I r z) fun z => h2 pins s σ H xs us Q I r z
end Hue

set_option Elab.async false
set_option linter.all false
set_option maxRecDepth 100000
set_option maxHeartbeats 1000000
/-! operators of an own class: own + own, own * int and int * own where the class has both -/
namespace Hue
open PySem PySem.Spec PyProof.Rows L2
def rOwnO (C : Addr) (sp : Sp) (E : XK) : R2 := fun x y H Q => ∃ a b dx fs d2 f2, x = .ref a ∧ H a = some (.ins C dx fs) ∧ y = .ref b ∧ H b = some (.ins C d2 f2) ∧ sp [.ref a, .ref b] H Q E
def rIntO (C : Addr) (sp : Sp) (E : XK) : R2 := fun x y H Q => ∃ i b dx fs, x = .int i ∧ y = .ref b ∧ H b = some (.ins C dx fs) ∧ sp [.ref b, .int i] H Q E
theorem ep_back {X : Cx} {pins : List (Addr × Obj)} {σ : L2.St} {Q : VK} {u : Value} {s' : Shared} (hq : EP X pins σ Q u s') : PySem.W.CmpBack (EP X pins σ Q) u s' := by
  obtain ⟨z, H', I', rz, qz⟩ := hq
  exact SlX.cmpback rz ⟨z, H', I', rz, qz⟩
section
variable {prog : Program} {w : World} {A : Around} {E : Value → Shared → Prop} {s : Shared} {K : PySem.W.Frag} {x y C f L : Addr} {h0 : Heap} {m : Str → Option Value} {ox oy : Obj} {od oe : Option Obj}
/-- both of one own class -/
theorem bin_same {op : Operator} {Q : Value → Shared → Prop} (Fm : PyProof.Rows.Fr h0 L s.heap m) (X0 : K.In h0) (I : PySem.W.InstAt s.heap x ox C od) (J : PySem.W.InstAt s.heap y oy C oe) (hc : PySem.W.selfFirst K C = true)
    (hs : PySem.W.findIn K (.ref C) (PySem.dunder op.info.2) = some (some (.ref f))) (hf : PySem.W.isFn K (.ref f) = true)
    (h : wpAny (model prog w) A (call (.ref f) [.ref x, .ref y]) (PySem.W.CmpBack Q) E s) : wpAny (model prog w) A (binaryOp op (.ref x) (.ref y)) Q E s := by
  have X := X0.keeps Fm.keep
  obtain ⟨cd, rest, hcd, hm⟩ := PySem.W.ksp_first hc
  rcases hi : op.info with ⟨sym, nm⟩
  rw [hi] at hs
  dsimp only at hs
  have one := PySem.W.ksp_try X I hs hf h
  obtain ⟨hh, g, d, tt, os⟩ := s
  have L1 : PySem.W.Looks (model prog w) hh (typeOf (.ref x)) (.ref C) := I.type
  have L2' : PySem.W.Looks (model prog w) hh (typeOf (.ref y)) (.ref C) := J.type
  have L3 : PySem.W.Looks (model prog w) hh (fillsNumberSlot (.ref C) nm) true := PySem.W.fills_K X hcd hm hs
  have he : (Value.ref C == Value.ref C) = true := beq_self_eq_true _
  simp only [binaryOp, hi]
  refine wpAny_holding (wpAny_bind ?_)
  unfold binaryOp1
  refine wpAny_bind (L1.at (wpAny_bind (L2'.at (wpAny_bind (L3.at ?_)))))
  simp only [he, if_true]
  ksp_lk
  refine wpAny_mono one (fun r s' hr' => ?_) fun _ _ e => e
  obtain ⟨v, rfl, hq⟩ := hr'
  ksp_lk
  exact hq
theorem decl_int {i : Int} {t : Tok} {Q : Value → Shared → Prop} (hg : s.heap.get? y = some oy) (hp : oy.data = .plain) (h : Q .notImplemented s) : wpAny (model prog w) A (call (.builtin "int.__mul__") [.int i t, .ref y]) Q E s := by
  refine GQ.call_here PySem.F.slot_int_mul (typeIs_int s i t) PySem.F.entry_int_mul (PySem.F.args_int_mul_2 _ _) ?_
  obtain ⟨c, d, dt, sl⟩ := oy
  dsimp only at hp
  subst hp
  obtain ⟨hp, g, d, tk, os⟩ := s
  unfold Builtin.«int.__mul__» Builtin.Int.intBinary
  wp_walk
  exact h
theorem try_decl {v u : Value} {T id : String} {nm : Str} (hT : s.TypeIs v T) (hS : Slot T nm id) (h : wpAny (model prog w) A (call (.builtin id) [v, u]) (fun r s' => r = .notImplemented ∧ s' = s) E s) : wpAny (model prog w) A (tryMethod v nm u) (fun r s' => r = none ∧ s' = s) E s :=
  wpAny_tryMethod_declines hT hS (wpAny_mono h (fun _ _ ⟨a, b⟩ => ⟨a, rfl, b⟩) fun _ _ z => z)
/-- a built-in value on the left, its own method declines -/
theorem bin_left {op : Operator} {sym nm T id : String} {v : Value} {Q : Value → Shared → Prop} (hop : op.info = (sym, nm)) (Fm : PyProof.Rows.Fr h0 L s.heap m) (X0 : K.In h0) (I : PySem.W.InstAt s.heap y oy C od) (hc : PySem.W.selfFirst K C = true)
    (hs : PySem.W.findIn K (.ref C) (PySem.dunder nm) = some (some (.ref x))) (hr : PySem.W.findIn K (.ref C) (PySem.dunderR nm) = some (some (.ref f))) (hf : PySem.W.isFn K (.ref f) = true) (hsub : PySem.W.subIn K (.ref C) (.type T) = some false)
    (hv : typeOf v = pure (.type T)) (hT : s.TypeIs v T) (hS : Slot T (PySem.dunder nm) id) (hfl : fillsNumberSlot (.type T) nm = pure true) (hd : wpAny (model prog w) A (call (.builtin id) [v, .ref y]) (fun r s' => r = .notImplemented ∧ s' = s) E s)
    (h : wpAny (model prog w) A (call (.ref f) [.ref y, v]) (PySem.W.CmpBack Q) E s) : wpAny (model prog w) A (binaryOp op v (.ref y)) Q E s := by
  have X := X0.keeps Fm.keep
  obtain ⟨cd, rest, hcd, hm⟩ := PySem.W.ksp_first hc
  have two := PySem.W.ksp_try X I hr hf h
  have one := try_decl hT hS hd
  obtain ⟨hh, g, d, tt, os⟩ := s
  have L1 : PySem.W.Looks (model prog w) hh (typeOf v) (.type T) := PySem.W.Looks.of_pure hv
  have L2' : PySem.W.Looks (model prog w) hh (typeOf (.ref y)) (.ref C) := I.type
  have L3 : PySem.W.Looks (model prog w) hh (fillsNumberSlot (.type T) nm) true := PySem.W.Looks.of_pure hfl
  have L4 : PySem.W.Looks (model prog w) hh (fillsNumberSlot (.ref C) nm) true := PySem.W.fills_K X hcd hm hs
  have L5 : PySem.W.Looks (model prog w) hh (isSubtype (.ref C) (.type T)) false := PySem.W.looks_subIn X hsub
  have L6 : PySem.W.Looks (model prog w) hh (numberSlotInPython (.type T) nm) false := PySem.W.Looks.of_pure rfl
  have hne : (Value.type T == Value.ref C) = false := Bool.eq_false_iff.mpr fun q => by cases beq_iff_eq.mp q
  simp only [binaryOp, hop]
  refine wpAny_holding (wpAny_bind ?_)
  unfold binaryOp1
  refine wpAny_bind (L1.at (wpAny_bind (L2'.at (wpAny_bind (L3.at ?_)))))
  simp only [hne, Bool.false_eq_true, if_false]
  ksp_lk
  refine wpAny_mono one (fun r s' hr' => ?_) fun _ _ e => e
  obtain ⟨rfl, rfl⟩ := hr'
  ksp_lk
  refine wpAny_mono two (fun r s' hr' => ?_) fun _ _ e => e
  obtain ⟨v, rfl, hq⟩ := hr'
  ksp_lk
  exact hq
end
section
variable {X : Cx} {CX : CXT} {op : Operator} {C m r : Str} {k : Nat} {sp : Sp} {E : XK}
theorem op_own2 (b : (Fx.bopo C m).ok X.K = true) (em : PySem.dunder op.info.2 = m) (F : FnR X.prog X.w X.K X.mg X.base CX k (mad C m X.K) sp) (hr : Room k X.A) (hx : Passes CX X E) : OpR X (binaryOp op) (rOwnO (gad C X.K) sp E) := by
  intro pins s σ H x y v u Q I rx ry ⟨a, b', dx, fs, d2, f2, ex, ea, ey, eb, q⟩
  subst ex ey
  obtain rfl : v = Value.ref a := rx
  obtain rfl : u = Value.ref b' := ry
  obtain ⟨c1, c⟩ := He.ba b
  obtain ⟨c2, c3⟩ := He.ba c
  obtain ⟨mA, O, _⟩ := ins_get I.hok ea
  obtain ⟨od, J, _⟩ := O.look
  obtain ⟨mB, O2, _⟩ := ins_get I.hok eb
  obtain ⟨oe, J2, _⟩ := O2.look
  obtain ⟨m0, Fm⟩ := I.fr
  subst em
  exact bin_same Fm I.ok.mod.kin J J2 c1 (He.eqO_ok c2) c3 (thn (wpAny_call (run_fnR (us := [.ref a, .ref b']) (vs := [.ref a, .ref b']) F hr hx I (.cons rfl (.cons rfl .nil)) q)) fun w s' z => ep_back z)
theorem op_ownIr (b : (Fx.bopr C m r "int").ok X.K = true) (em : PySem.dunder op.info.2 = m) (er : PySem.dunderR op.info.2 = r) (F : FnR X.prog X.w X.K X.mg X.base CX k (mad C m X.K) sp) (hr : Room k X.A) (hx : Passes CX X E) : OpR X (binaryOp op) (rOwnI (gad C X.K) sp E) := by
  intro pins s σ H x y v u Q I rx ry ⟨a, dx, fs, i, ex, ea, ey, q⟩
  subst ex ey
  obtain rfl : v = Value.ref a := rx
  obtain ⟨t, rfl⟩ := ry
  obtain ⟨c1, c⟩ := He.ba b
  obtain ⟨c2, c⟩ := He.ba c
  obtain ⟨c3, c⟩ := He.ba c
  obtain ⟨c4, c⟩ := He.ba c
  obtain ⟨c5, c⟩ := He.ba c
  obtain ⟨c6, c⟩ := He.ba c
  obtain ⟨c7, c⟩ := He.ba c
  obtain ⟨c8, c9⟩ := He.ba c
  obtain ⟨fo, h5⟩ := Option.isSome_iff_exists.mp c6
  obtain ⟨ro, h6⟩ := Option.isSome_iff_exists.mp c7
  obtain ⟨mA, O, _⟩ := ins_get I.hok ea
  obtain ⟨od, J, _⟩ := O.look
  obtain ⟨m0, Fm⟩ := I.fr
  subst em er
  exact PySem.W.ksp_binT (T := "int") Fm I.ok.mod.kin J rfl c1 (He.eqO_ok c2) c3 (He.eqO_ok c4) (.inr ⟨_, rfl⟩) h5 h6 (of_decide_eq_true c8) (thn (wpAny_call (run_fnR (us := [.ref a, .int i t]) (vs := [.ref a, .int i]) F hr hx I (.cons rfl (.cons ⟨t, rfl⟩ .nil)) q)) fun w s' z => ep_back z)
theorem op_intO (b : (Fx.bopr C "__mul__" "__rmul__" "int").ok X.K = true) (F : FnR X.prog X.w X.K X.mg X.base CX k (mad C "__rmul__" X.K) sp) (hr : Room k X.A) (hx : Passes CX X E) : OpR X (binaryOp .Mult) (rIntO (gad C X.K) sp E) := by
  intro pins s σ H x y v u Q I rx ry ⟨i, a, dx, fs, ex, ey, ea, q⟩
  subst ex ey
  obtain ⟨t, rfl⟩ := rx
  obtain rfl : u = Value.ref a := ry
  obtain ⟨c1, c⟩ := He.ba b
  obtain ⟨c2, c⟩ := He.ba c
  obtain ⟨c3, c⟩ := He.ba c
  obtain ⟨c4, c⟩ := He.ba c
  obtain ⟨c5, c⟩ := He.ba c
  obtain ⟨c6, c⟩ := He.ba c
  obtain ⟨c7, c⟩ := He.ba c
  obtain ⟨c8, c9⟩ := He.ba c
  obtain ⟨mA, O, _⟩ := ins_get I.hok ea
  obtain ⟨od, J, _⟩ := O.look
  obtain ⟨m0, Fm⟩ := I.fr
  exact bin_left (nm := "mul") (T := "int") rfl Fm I.ok.mod.kin J c1 (He.eqO_ok c2) (He.eqO_ok c4) c5 (of_decide_eq_true c9) rfl (typeIs_int s i t) PySem.F.slot_int_mul PySem.F.fills_int_mul (decl_int J.1 rfl ⟨rfl, rfl⟩) (thn (wpAny_call (run_fnR (us := [.ref a, .int i t]) (vs := [.ref a, .int i]) F hr hx I (.cons rfl (.cons ⟨t, rfl⟩ .nil)) q)) fun w s' z => ep_back z)
theorem op_own2K {K : PySem.W.Frag} (e : X.K = K) (b : (Fx.bopo C m).ok K = true) (em : PySem.dunder op.info.2 = m) (F : FnR X.prog X.w K X.mg X.base CX k (mad C m K) sp) (hr : Room k X.A) (hx : Passes CX X E) : OpR X (binaryOp op) (rOwnO (gad C K) sp E) := by subst e; exact op_own2 b em F hr hx
theorem op_ownIrK {K : PySem.W.Frag} (e : X.K = K) (b : (Fx.bopr C m r "int").ok K = true) (em : PySem.dunder op.info.2 = m) (er : PySem.dunderR op.info.2 = r) (F : FnR X.prog X.w K X.mg X.base CX k (mad C m K) sp) (hr : Room k X.A) (hx : Passes CX X E) : OpR X (binaryOp op) (rOwnI (gad C K) sp E) := by subst e; exact op_ownIr b em er F hr hx
theorem op_intOK {K : PySem.W.Frag} (e : X.K = K) (b : (Fx.bopr C "__mul__" "__rmul__" "int").ok K = true) (F : FnR X.prog X.w K X.mg X.base CX k (mad C "__rmul__" K) sp) (hr : Room k X.A) (hx : Passes CX X E) : OpR X (binaryOp .Mult) (rIntO (gad C K) sp E) := by subst e; exact op_intO b F hr hx
end
/-! ### the same in a try body: what the callee raises is wished of the slots as they are -/
def eS (W : WX) (σ : L2.St) : XK := fun cls d H => W cls d σ H
def OpRS (X : Cx) (f : Value → Value → Sem Value) (r : L2.St → R2) : Prop :=
  ∀ (pins : List (Addr × Obj)) (s : Shared) (σ : L2.St) (H : Hp) (x y : V) (v u : Value) (Q : VK), Inv X pins σ H s → RelV x v → RelV y u → r σ x y H Q → wpAny (model X.prog X.w) X.A (f v u) (EP X pins σ Q) X.xe s
def tOpS (r : L2.St → R2) (ta tb : TE) : TE := fun σ H Q => tOp (r σ) ta tb σ H Q
section
variable {X : Cx} {op : Operator} {C m r : Str} {k : Nat} {sp : Sp} {W : WX}
theorem pe_opS {a b : Expr} {ta tb : TE} {pos : Pos} {r : L2.St → R2} (ho : OpRS X (binaryOp op) r) (ha : PE X a ta) (hb : PE X b tb) : PE X (.BinOp a op b pos) (tOpS r ta tb) := by
  refine ⟨fun pins s σ H Q I h => ?_⟩
  exact wpAny_BinOp (binT ha hb I h fun v u s2 x y H2 I2 rx ry q => ho pins s2 σ H2 x y v u Q I2 rx ry q)
theorem passS {pins : List (Addr × Obj)} {σ : L2.St} {H : Hp} {s : Shared} (tk : Takes X W) (I : Inv X pins σ H s) : ∀ e s', L2.CX X.prog X.w X.stack H s (eS W σ) e s' → X.xe e s' :=
  fun e s' c => tk e s' (XE.of_call I (fun _ _ _ h => h) c)
theorem run_fnRp {pins : List (Addr × Obj)} {σ : L2.St} {H : Hp} {s : Shared} {CX : CXT} {k : Nat} {f : Addr} {sp : Sp} {E : XK} {Q : VK} {us : List Value} {vs : List V} (F : FnR X.prog X.w X.K X.mg X.base CX k f sp) (hr : Room k X.A) (hx : ∀ e s', CX X.stack H s E e s' → X.xe e s') (I : Inv X pins σ H s) (r : Vals vs us) (h : sp vs H Q E) :
    codeAny (model X.prog X.w) X.A (.call (.ref f) ⟨us, []⟩) (fun r s' => match r with | .ok (.ret v) => EP X pins σ Q v s' | .ok _ => False | .error e => X.xe e s') s := by
  refine codeAny_mono (F X.A X.stack s H us vs Q E hr I.env0 r h) fun r s' hq => ?_
  cases r with
  | error e => exact hx e s' hq
  | ok fl =>
    cases fl with
    | ret u => exact I.after hq
    | next => exact False.elim hq
    | brk => exact False.elim hq
    | cont => exact False.elim hq
theorem op_own2S (b : (Fx.bopo C m).ok X.K = true) (em : PySem.dunder op.info.2 = m) (F : FnR X.prog X.w X.K X.mg X.base (L2.CX X.prog X.w) k (mad C m X.K) sp) (hr : Room k X.A) (tk : Takes X W) : OpRS X (binaryOp op) (fun σ => rOwnO (gad C X.K) sp (eS W σ)) := by
  intro pins s σ H x y v u Q I rx ry ⟨a, b', dx, fs, d2, f2, ex, ea, ey, eb, q⟩
  subst ex ey
  obtain rfl : v = Value.ref a := rx
  obtain rfl : u = Value.ref b' := ry
  obtain ⟨c1, c⟩ := He.ba b
  obtain ⟨c2, c3⟩ := He.ba c
  obtain ⟨mA, O, _⟩ := ins_get I.hok ea
  obtain ⟨od, J, _⟩ := O.look
  obtain ⟨mB, O2, _⟩ := ins_get I.hok eb
  obtain ⟨oe, J2, _⟩ := O2.look
  obtain ⟨m0, Fm⟩ := I.fr
  subst em
  exact bin_same Fm I.ok.mod.kin J J2 c1 (He.eqO_ok c2) c3 (thn (wpAny_call (run_fnRp (us := [.ref a, .ref b']) (vs := [.ref a, .ref b']) F hr (passS tk I) I (.cons rfl (.cons rfl .nil)) q)) fun w s' z => ep_back z)
theorem op_ownIrS (b : (Fx.bopr C m r "int").ok X.K = true) (em : PySem.dunder op.info.2 = m) (er : PySem.dunderR op.info.2 = r) (F : FnR X.prog X.w X.K X.mg X.base (L2.CX X.prog X.w) k (mad C m X.K) sp) (hr : Room k X.A) (tk : Takes X W) : OpRS X (binaryOp op) (fun σ => rOwnI (gad C X.K) sp (eS W σ)) := by
  intro pins s σ H x y v u Q I rx ry ⟨a, dx, fs, i, ex, ea, ey, q⟩
  subst ex ey
  obtain rfl : v = Value.ref a := rx
  obtain ⟨t, rfl⟩ := ry
  obtain ⟨c1, c⟩ := He.ba b
  obtain ⟨c2, c⟩ := He.ba c
  obtain ⟨c3, c⟩ := He.ba c
  obtain ⟨c4, c⟩ := He.ba c
  obtain ⟨c5, c⟩ := He.ba c
  obtain ⟨c6, c⟩ := He.ba c
  obtain ⟨c7, c⟩ := He.ba c
  obtain ⟨c8, c9⟩ := He.ba c
  obtain ⟨fo, h5⟩ := Option.isSome_iff_exists.mp c6
  obtain ⟨ro, h6⟩ := Option.isSome_iff_exists.mp c7
  obtain ⟨mA, O, _⟩ := ins_get I.hok ea
  obtain ⟨od, J, _⟩ := O.look
  obtain ⟨m0, Fm⟩ := I.fr
  subst em er
  exact PySem.W.ksp_binT (T := "int") Fm I.ok.mod.kin J rfl c1 (He.eqO_ok c2) c3 (He.eqO_ok c4) (.inr ⟨_, rfl⟩) h5 h6 (of_decide_eq_true c8) (thn (wpAny_call (run_fnRp (us := [.ref a, .int i t]) (vs := [.ref a, .int i]) F hr (passS tk I) I (.cons rfl (.cons ⟨t, rfl⟩ .nil)) q)) fun w s' z => ep_back z)
theorem op_intOS (b : (Fx.bopr C "__mul__" "__rmul__" "int").ok X.K = true) (F : FnR X.prog X.w X.K X.mg X.base (L2.CX X.prog X.w) k (mad C "__rmul__" X.K) sp) (hr : Room k X.A) (tk : Takes X W) : OpRS X (binaryOp .Mult) (fun σ => rIntO (gad C X.K) sp (eS W σ)) := by
  intro pins s σ H x y v u Q I rx ry ⟨i, a, dx, fs, ex, ey, ea, q⟩
  subst ex ey
  obtain ⟨t, rfl⟩ := rx
  obtain rfl : u = Value.ref a := ry
  obtain ⟨c1, c⟩ := He.ba b
  obtain ⟨c2, c⟩ := He.ba c
  obtain ⟨c3, c⟩ := He.ba c
  obtain ⟨c4, c⟩ := He.ba c
  obtain ⟨c5, c⟩ := He.ba c
  obtain ⟨c6, c⟩ := He.ba c
  obtain ⟨c7, c⟩ := He.ba c
  obtain ⟨c8, c9⟩ := He.ba c
  obtain ⟨mA, O, _⟩ := ins_get I.hok ea
  obtain ⟨od, J, _⟩ := O.look
  obtain ⟨m0, Fm⟩ := I.fr
  exact bin_left (nm := "mul") (T := "int") rfl Fm I.ok.mod.kin J c1 (He.eqO_ok c2) (He.eqO_ok c4) c5 (of_decide_eq_true c9) rfl (typeIs_int s i t) PySem.F.slot_int_mul PySem.F.fills_int_mul (decl_int J.1 rfl ⟨rfl, rfl⟩) (thn (wpAny_call (run_fnRp (us := [.ref a, .int i t]) (vs := [.ref a, .int i]) F hr (passS tk I) I (.cons rfl (.cons ⟨t, rfl⟩ .nil)) q)) fun w s' z => ep_back z)
theorem op_own2SK {K : PySem.W.Frag} (e : X.K = K) (b : (Fx.bopo C m).ok K = true) (em : PySem.dunder op.info.2 = m) (F : FnR X.prog X.w K X.mg X.base (L2.CX X.prog X.w) k (mad C m K) sp) (hr : Room k X.A) (tk : Takes X W) : OpRS X (binaryOp op) (fun σ => rOwnO (gad C K) sp (eS W σ)) := by subst e; exact op_own2S b em F hr tk
theorem op_ownIrSK {K : PySem.W.Frag} (e : X.K = K) (b : (Fx.bopr C m r "int").ok K = true) (em : PySem.dunder op.info.2 = m) (er : PySem.dunderR op.info.2 = r) (F : FnR X.prog X.w K X.mg X.base (L2.CX X.prog X.w) k (mad C m K) sp) (hr : Room k X.A) (tk : Takes X W) : OpRS X (binaryOp op) (fun σ => rOwnI (gad C K) sp (eS W σ)) := by subst e; exact op_ownIrS b em er F hr tk
theorem op_intOSK {K : PySem.W.Frag} (e : X.K = K) (b : (Fx.bopr C "__mul__" "__rmul__" "int").ok K = true) (F : FnR X.prog X.w K X.mg X.base (L2.CX X.prog X.w) k (mad C "__rmul__" K) sp) (hr : Room k X.A) (tk : Takes X W) : OpRS X (binaryOp .Mult) (fun σ => rIntO (gad C K) sp (eS W σ)) := by subst e; exact op_intOS b F hr tk
end
/-! ### C(*y, *z) -/
theorem args_two {M : Model} {A : Around} {E : Value → Shared → Prop} {s : Shared} {f : Value} {x y : Sem Value} {Q : Args → Shared → Prop} (h : wpAny M A (spliced [(true, x), (true, y)]) (fun vs s1 => Q ⟨vs, []⟩ s1) E s) : wpAny M A (evalArgs f true [(true, x), (true, y)] []) Q E s := by
  unfold evalArgs
  show wpAny M A (spliced [(true, x), (true, y)] >>= _) Q E s
  exact wpAny_bind (wpAny_mono h (fun vs s' h' => wpAny_holding (wpAny_bind (wpAny_pure (wpAny_bind (wpAny_pure (wpAny_pure h')))))) fun _ _ z => z)
theorem pe_make2 {X : Cx} {CX : CXT} {k : Nat} {f C : Addr} {sp : Sp} {E : XK} {x : Str} {e1 e2 : Expr} {p p1 p2 pos : Pos} {t : TA} (M : Mk X.K C f) (F : FnR X.prog X.w X.K X.mg X.base CX k f sp) (hr : Room (k + 1) X.A) (hg : Gl X x) (hm : X.mg x = some (.ref C)) (hx : Passes CX X E)
    (ha : PA X [.Starred e1 p1, .Starred e2 p2] t) (hd : (x == ("__debug__" : Str)) = false := by decide)
    (hst : starEach [.Starred e1 p1, .Starred e2 p2] X.env = [(true, eval e1 X.env), (true, eval e2 X.env)] := by rfl) : PE X (.Call (.Name x p) [.Starred e1 p1, .Starred e2 p2] [] pos) (StX.tMakeR C sp E t) := by
  refine ⟨fun pins s σ H Q I h => wpAny_Call_Name_kw (ld_glob I hg hm ?_ hd)⟩
  have z := thn (ha.run pos pins s σ H _ I h) (Q' := fun us s1 => X.K.In s1.heap ∧ wpAny (model X.prog X.w) X.A (call (.ref C) us) (EP X pins σ Q) X.xe s1) fun us s1 ⟨vs, H1, I1, r, q⟩ => ⟨I1.kIn, StX.run_makeR M F hr hx I1 r q⟩
  rw [hst] at z ⊢
  exact PySem.W.ks_call (first := []) (P := fun h => X.K.In h) rfl (PySem.W.keeps_K M.kp) (args_two z)
end Hue

set_option Elab.async false
set_option linter.all false
set_option maxRecDepth 100000
set_option maxHeartbeats 1000000
/-! x in t, t a tuple of data of any depth -/
namespace Hue
open PySem PySem.Spec PyProof.Rows L2
section
variable {X : Cx} {K : PySem.W.Frag}
def rInT (K : PySem.W.Frag) (no : Bool) : R2 := fun x y H Q => ∃ d ds, Dp K H x d ∧ Dp K H y (.tuple ds) ∧ SeqAt.shaped d = true ∧ SeqAt.shaped (.list ds) = true ∧ Q (.bl (no != (ds.any fun z => PyData.eqv z d))) H
theorem op_inT (hu : X.A.units + 65 < cLine) : OpR X (compareOp .In) (rInT X.K false) := by
  intro pins s σ H x y v u Q I rx ry h
  obtain ⟨d, ds, hd, he, sd, se, q⟩ := h
  obtain ⟨as, r1⟩ := Dp.reads I d x v hd rx
  obtain ⟨bs, r2⟩ := Dp.reads I (.tuple ds) y u he ry
  exact SeqAt.in_tuple_reads r2 r1 (SeqAt.canLay_of_shaped se) (SeqAt.canLay_of_shaped sd) (room_in_shaped sd hu) ⟨.bl (ds.any fun z => PyData.eqv z d), H, I, rfl, by rw [Bool.false_bne] at q; exact q⟩
theorem op_notInT (hu : X.A.units + 65 < cLine) : OpR X (compareOp .NotIn) (rInT X.K true) := by
  intro pins s σ H x y v u Q I rx ry h
  obtain ⟨d, ds, hd, he, sd, se, q⟩ := h
  obtain ⟨as, r1⟩ := Dp.reads I d x v hd rx
  obtain ⟨bs, r2⟩ := Dp.reads I (.tuple ds) y u he ry
  exact SeqAt.notIn_tuple_reads r2 r1 (SeqAt.canLay_of_shaped se) (SeqAt.canLay_of_shaped sd) (room_in_shaped sd hu) ⟨.bl (!ds.any fun z => PyData.eqv z d), H, I, rfl, by rw [Bool.true_bne] at q; exact q⟩
theorem op_inDK (e : X.K = K) (hu : X.A.units + 65 < cLine) : OpR X (compareOp .In) (rInD K) := e ▸ op_inD hu
theorem op_notInDK (e : X.K = K) (hu : X.A.units + 65 < cLine) : OpR X (compareOp .NotIn) (rNotInD K) := e ▸ op_notInD hu
theorem op_inTK (e : X.K = K) (hu : X.A.units + 65 < cLine) : OpR X (compareOp .In) (rInT K false) := e ▸ op_inT hu
theorem op_notInTK (e : X.K = K) (hu : X.A.units + 65 < cLine) : OpR X (compareOp .NotIn) (rInT K true) := e ▸ op_notInT hu
end
theorem room65 {k : Nat} {A : Around} (r : Room k A) : A.units + 65 < cLine := by have := r.un; omega
/-- a word with a number -/
def sD (z : Str × Int) : PyData := .tuple [.str z.1, .int z.2]
def sVs (z : Str × Int) : List V := [.str z.1, .int z.2]
theorem sD_eqv (z y : Str × Int) : PyData.eqv (sD z) (sD y) = decide (z = y) := by
  obtain ⟨a, i⟩ := z
  obtain ⟨b, j⟩ := y
  have e : PyData.eqv (sD (a, i)) (sD (b, j)) = ((a == b) && ((i == j) && true)) := by simp only [sD, PyData.eqv, PyData.eqvAll]
  rw [e, Bool.and_true]
  by_cases h : (a, i) = (b, j)
  · cases h
    simp
  · rw [decide_eq_false h]
    by_cases h1 : a = b
    · have h2 : ¬ i = j := fun z => h (by rw [h1, z])
      rw [beq_eq_false_iff_ne.mpr h2, Bool.and_false]
    · rw [beq_eq_false_iff_ne.mpr h1, Bool.false_and]
abbrev SOk (z : Str × Int) : Prop := PyData.strOk z.1 = true
theorem sD_lay {z : Str × Int} (h : SOk z) : (sD z).canLay0 = true := by
  obtain ⟨a, i⟩ := z
  simp only [sD, PyData.canLay0, PyData.canLayAll0, Bool.and_true]
  exact h
theorem sD_depth (z : Str × Int) : (sD z).depth = 1 := by simp [sD, PyData.depth, PyData.depthAll]
theorem sD_shaped {z : Str × Int} (h : SOk z) : SeqAt.shaped (sD z) = true := by
  show ((sD z).canLay0 && decide ((sD z).depth ≤ 64)) = true
  rw [Bool.and_eq_true]
  exact ⟨sD_lay h, decide_eq_true (by rw [sD_depth]; omega)⟩
theorem sDs_lay : ∀ zs : List (Str × Int), (∀ z ∈ zs, SOk z) → PyData.canLayAll0 (zs.map sD) = true
  | [], _ => by simp [PyData.canLayAll0]
  | z :: zs, h => by
    simp only [List.map_cons, PyData.canLayAll0, Bool.and_eq_true]
    exact ⟨sD_lay (h z List.mem_cons_self), sDs_lay zs fun y hy => h y (List.mem_cons_of_mem _ hy)⟩
theorem sDs_depth : ∀ zs : List (Str × Int), PyData.depthAll (zs.map sD) ≤ 1
  | [] => by simp [PyData.depthAll]
  | z :: zs => by
    have h1 := sDs_depth zs
    have h2 := sD_depth z
    simp only [List.map_cons, PyData.depthAll]
    omega
theorem sDs_shaped {zs : List (Str × Int)} (h : ∀ z ∈ zs, SOk z) : SeqAt.shaped (.list (zs.map sD)) = true := by
  have h1 := sDs_depth zs
  have h2 : PyData.depth (.list (zs.map sD)) ≤ 64 := by
    simp only [PyData.depth]
    omega
  show (PyData.canLay0 (.list (zs.map sD)) && decide (PyData.depth (.list (zs.map sD)) ≤ 64)) = true
  rw [Bool.and_eq_true]
  exact ⟨by simp only [PyData.canLay0]; exact sDs_lay zs h, decide_eq_true h2⟩
theorem sDs_any (zs : List (Str × Int)) (y : Str × Int) : ((zs.map sD).any fun z => PyData.eqv z (sD y)) = decide (y ∈ zs) := by
  induction zs with
  | nil => rfl
  | cons z zs ih =>
    rw [List.map_cons, List.any_cons, ih, sD_eqv]
    by_cases h : z = y
    · subst h; simp
    · have h' : ¬ y = z := fun q => h q.symm
      simp [h, h']
end Hue

set_option Elab.async false
set_option linter.all false
set_option maxRecDepth 100000
set_option maxHeartbeats 1000000
/-! enumerate of a tuple -/
namespace Hue
open PySem PySem.Spec PyProof.Rows L2
theorem meets_enum1 {v : Value} {o : Obj} {H : Heap → Prop} (B : Begins v o H) :
    Meets (Builtin.«enumerate.__new__» ⟨[.type "enumerate", v], []⟩) (fun _ R s => H s.heap ∧
      R (.ok (.ret (.ref (s.heap.push o).objs.size))) { s with heap := (s.heap.push o).push { cls := .type "enumerate", data := .fields #[.none, .bool false, .ref s.heap.objs.size, rawInt 0, .none, .none] } }) :=
  .of_wp fun prog w A R s h => by
    obtain ⟨hp, g, d, tk, os⟩ := s; obtain ⟨h1, h⟩ := h
    have hsub := sub_enumerate
    have q1 : ∀ {A' : Around} {E : Value → Shared → Prop} {Q : Value → Shared → Prop}, Q (.ref hp.objs.size) ⟨hp.push o, g, d, tk, os⟩ → wpAny (model prog w) A' (pyIter v) Q E ⟨hp, g, d, tk, os⟩ :=
      fun q => B.iter prog w _ _ ⟨hp, g, d, tk, os⟩ _ h1 q
    wp_walk using q1
    refine wpAny_stack_any fun st => wpAny_pure ?_
    split
    · rename_i c _ _ _ _ _
      cases (c == Value.type "enumerate")
      · wp_walk using q1
        exact ⟨_, rfl, h⟩
      · wp_walk using q1
        exact ⟨_, rfl, h⟩
    · wp_walk using q1
      exact ⟨_, rfl, h⟩
theorem enum_begins1 {prog : Program} {w : World} {A : Around} {E : Value → Shared → Prop} {s : Shared} {v : Value} {o : Obj} {H : Heap → Prop} {Q : Value → Shared → Prop} (B : Begins v o H) (h1 : H s.heap)
    (h : ∀ h', IsEnum h' (s.heap.objs.size + 1) s.heap.objs.size 0 .none → h'.get? s.heap.objs.size = some o → h'.objs.size = s.heap.objs.size + 2 →
      (∀ b o, s.heap.get? b = some o → h'.get? b = some o) → Q (.ref (s.heap.objs.size + 1)) { s with heap := h' }) :
    wpAny (model prog w) A (call (.type "enumerate") [v]) Q E s := by
  refine callType_new F.called_enumerate (by decide) (F.typeCall_enumerate_1 _) (F.newCall_enumerate_1 _) (fun obj => F.args_object_init_2 obj _) F.entry_enumerate_new
    (meets_enum1 B) ⟨h1, ?_⟩
  have hz : (s.heap.push o).objs.size = s.heap.objs.size + 1 := Heap.size_push ..
  show _ ∧ _
  rw [hz]
  have he : IsEnum ((s.heap.push o).push { cls := .type "enumerate", data := .fields #[.none, .bool false, .ref s.heap.objs.size, rawInt 0, .none, .none] }) (s.heap.objs.size + 1) s.heap.objs.size 0 .none := by
    have := Heap.get?_push_size (s.heap.push o) (o := { cls := .type "enumerate", data := .fields #[.none, .bool false, .ref s.heap.objs.size, rawInt 0, .none, .none] }) rfl
    rw [hz] at this; exact this
  refine ⟨⟨_, he, rfl⟩, h _ he (Heap.get?_push_of_some _ (Heap.get?_push_size _ B.free)) (by rw [Heap.size_push, hz]) fun b o x => Heap.get?_push_of_some _ (Heap.get?_push_of_some _ x)⟩
/-- the tuple at a, each item in a new pair -/
def ItET (K : PySem.W.Frag) (a : Addr) : It :=
  ⟨fun i H => ∃ (xs : List V) (x : V), SqT K H a xs ∧ xs[i]? = some x, fun i H v H' => ∃ T x, v = .ref T ∧ H T = none ∧ H' = upd H T (.tup [.int (i : Nat), x]) ∧ ∀ xs, SqT K H a xs → xs[i]? = some x, fun i H => ∃ xs : List V, SqT K H a xs ∧ i = xs.length⟩
theorem turn_ET {P : Program} {w : World} {K : PySem.W.Frag} {elts : List Expr} {kk : Nat} {tpos : Pos} (a e it : Addr) (na : a ≠ it) (ne : e ≠ a) :
    Turn P w K (.Tuple elts kk tpos) (ItET K a) [e, it] e (fun i h => (∃ old, IsEnum h e it ((i : Nat) : Int) old) ∧ h.IsTupleIter it a i ∧ e ≠ it) where
  mem := by simp
  obj := fun i h st b hb => by
    obtain ⟨⟨old, he⟩, ⟨o, ho, hc, hd⟩, _⟩ := st
    have e' : b = e ∨ b = it := by simpa using hb
    rcases e' with z | z
    · rw [z]; exact ⟨_, he, fun v q => nomatch q⟩
    · rw [z]; exact ⟨o, ho, fun v q => by rw [hd] at q; cases q⟩
  keep := fun i h h' st k => let ⟨⟨old, he⟩, hi, hne⟩ := st; ⟨⟨old, k e (by simp) _ he⟩, hi.at fun o q => k it (by simp) o q, hne⟩
  item := by
    intro X hP hw hK hc i pins s σ H E I hf st hg
    subst hP hw hK
    obtain ⟨⟨old, he⟩, hit, hne⟩ := st
    obtain ⟨xs, x, hq, hx⟩ := hg
    obtain ⟨its, rv, p, hz⟩ := I.tuple hq
    obtain ⟨u, hu, ru⟩ := rv.get hx
    have hel : e < s.heap.objs.size := Heap.lt_size he
    have hil : it < s.heap.objs.size := by obtain ⟨_, q, _⟩ := hit; exact Heap.lt_size q
    have hh : X.A.in1.handled = none := I.ok.hd hc
    have hlt : i < its.toArray.size := by have := (List.getElem?_eq_some_iff.mp hu).1; simpa using this
    refine wpAny_pyNext_enum_itemD (Draws.tuple hh it a na its.toArray) he ⟨hit, p⟩ hlt hne (by simp [hne, ne]) fun u' h' tk e1 ho hst' hT hsz hk => ?_
    have eu : u' = u := by
      have : its[i]? = some u' := by simpa using e1
      rw [hu] at this; exact (Option.some.inj this).symm
    subst eu
    refine ⟨_, rfl, wpAny_letOwnedTupleGo_enum (s := { s with heap := h', toks := tk + 1 }) ho fun h'' he' sb => ?_⟩
    have hT2 : h''.get? s.heap.objs.size = some { cls := .type "tuple", data := .seq #[.int i tk, u'] } := (sb.2 _ (Nat.ne_of_gt hel)).trans hT
    have new : ObjOk X.prog X.w (upd H s.heap.objs.size (.tup [.int (i : Nat), x])) h'' s.heap.objs.size (.tup [.int (i : Nat), x]) :=
      ⟨by show 2 ≤ sizeLine; decide, [.int i tk, u'], .cons ⟨_, rfl⟩ (.cons ru .nil), ⟨_, hT2, rfl, _, rfl⟩⟩
    have I1 : Inv X pins σ (upd H s.heap.objs.size (.tup [.int (i : Nat), x])) { s with heap := h'', toks := tk + 1 } :=
      I.turnedNew (ch := [e, it]) (fun b ob hb q => (sb.2 b (fun z => hb (by simp [z]))).trans (hk b ob (fun z => hb (by simp [z])) (fun z => hb (by simp [z])) q)) hf (Nat.le_refl _) new
    refine ⟨.ref s.heap.objs.size, _, I1, rfl, ⟨_, x, rfl, I.hok.fresh (Nat.le_refl _), rfl, fun ys hy => by rw [I.tuple_inj hy hq]; exact hx⟩, ⟨⟨u', ?_⟩, hst'.1.at fun o q => (sb.2 it (Ne.symm hne)).trans q, hne⟩, fun b hb => ?_⟩
    · have e1 : ((i + 1 : Nat) : Int) = (i : Int) + 1 := by omega
      rw [e1]; exact he'
    · have hb' : b < s.heap.objs.size := by
        have e' : b = e ∨ b = it := by simpa using hb
        rcases e' with z | z
        · rw [z]; exact hel
        · rw [z]; exact hil
      rw [upd_ne (Nat.ne_of_lt hb')]
      exact (hf b hb).1
  done := by
    intro X hP hw hK hc i pins s σ H E I hf st hg
    subst hP hw hK
    obtain ⟨⟨old, he⟩, hit, hne⟩ := st
    obtain ⟨xs, hq, hx⟩ := hg
    obtain ⟨its, rv, p, hz⟩ := I.tuple hq
    obtain ⟨f0, f1, f2, f3, f4, f5⟩ := hf it (by simp)
    have hl := rv.length
    have hh : X.A.in1.handled = none := I.ok.hd hc
    have ei : i = its.toArray.size := by simp; omega
    subst ei
    exact wpAny_pyNext_enum_endD (Draws.tuple hh it a na its.toArray) he ⟨hit, p⟩ fun h' eb => ⟨rfl, I.turned (t' := s.toks) (fun b o hb q => eb b o hb q) f0 f1 f3 f4 f5⟩
  self := fun A i s Q E st h => let ⟨⟨_, he⟩, _⟩ := st; wpAny_pyIter_enum he h
def iEnumT (K : PySem.W.Frag) (ta : TA) : TI := fun σ H R => ta σ H fun vs H1 => ∃ a xs, vs = [.ref a] ∧ SqT K H1 a xs ∧ R (ItET K a) H1
theorem pi_enumT {X : Cx} {e : Expr} {ta : TA} {p pos tpos : Pos} {elts : List Expr} {kk : Nat} (hg : Gl X "enumerate") (hm : X.mg "enumerate" = none) (ha : PA X [e] ta) (hs : starEach [e] X.env = [(false, eval e X.env)] := by rfl) :
    PI X (.Tuple elts kk tpos) (.Call (.Name "enumerate" p) [e] [] pos) (iEnumT X.K ta) := by
  refine ⟨fun pins s σ H R I h => ?_⟩
  refine Call_ (ld_blt I hg hm boot_enumerate (PyProof.Rows.callWith_type1 (thn (ha.run pos pins s σ H _ I h) fun us s1 ⟨vs, H1, I1, r1, q1⟩ => ?_) hs rfl))
  obtain ⟨a, xs, ex, hq, q⟩ := q1
  subst ex
  cases r1 with
  | cons r rr =>
    cases rr
    cases r
    obtain ⟨its, rv, p', hz⟩ := I1.tuple hq
    have la : a < s1.heap.objs.size := by obtain ⟨_, e, _⟩ := id p'; exact Heap.lt_size e
    refine enum_begins1 (begins_tuple a its.toArray) p' fun h' he hit hsz hk => wpAny_pyIter_enum he ?_
    have I2 : Inv X pins σ H1 { s1 with heap := h' } := I1.kept (t' := s1.toks) hk
    refine ⟨s1.heap.objs.size + 1, [s1.heap.objs.size + 1, s1.heap.objs.size], _, _, H1, rfl, I2, turn_ET a (s1.heap.objs.size + 1) s1.heap.objs.size (Nat.ne_of_lt la) (Nat.ne_of_gt (Nat.lt_succ_of_lt la)), ⟨⟨.none, he⟩, ⟨_, hit, rfl, rfl⟩, Nat.succ_ne_self _⟩, fun b hb => ?_, q⟩
    have e' : b = s1.heap.objs.size + 1 ∨ b = s1.heap.objs.size := by simpa using hb
    have hle : s1.heap.objs.size ≤ b := by
      rcases e' with z | z
      · rw [z]; exact Nat.le_add_right _ _
      · rw [z]; exact Nat.le_refl _
    exact I1.fpOk hle (I1.hok.fresh hle)
theorem walk_enumT {K : PySem.W.Frag} {a : Addr} {xs : List V} : Walk (ItET K a) xs.length (fun H => SqT K H a xs) (YPair (fun i => some (.int (i : Nat))) (fun i => xs[i]?)) := by
  refine ⟨fun i _ hi q => ⟨xs, xs[i], q, by simp [hi]⟩, fun _ q => ⟨xs, q, rfl⟩, fun i H v H' _ q y => ?_⟩
  obtain ⟨T, x, h1, h2, h3, h4⟩ := y
  exact ⟨T, .int (i : Nat), x, h1, h2, h3, rfl, h4 xs q⟩
end Hue

set_option Elab.async false
set_option linter.all false
set_option maxRecDepth 100000
set_option maxHeartbeats 1000000
/-! sorted(xs) of data of any depth: one ascending list -/
namespace Hue
open PySem PySem.Spec PyProof.Rows L2
theorem each_vals {bs : List (V × PyData)} : ∀ {its : List Value}, Vals (bs.map (·.1)) its → PySem.W.EachIs (fun v (b : V × PyData) => RelV b.1 v) its bs := by
  induction bs with
  | nil => intro its h; cases h; exact .nil
  | cons b bs ih => intro its h; cases h with | cons r t => exact .cons r (ih t)
theorem vals_each {bs : List (V × PyData)} : ∀ {its : List Value}, PySem.W.EachIs (fun v (b : V × PyData) => RelV b.1 v) its bs → Vals (bs.map (·.1)) its := by
  induction bs with
  | nil => intro its h; cases h; exact .nil
  | cons b bs ih => intro its h; cases h with | cons r t => exact .cons r (ih t)
theorem each_in {α β : Type} {R R' : α → β → Prop} {as : List α} {bs : List β} (h : PySem.W.EachIs R as bs) (k : ∀ a b, b ∈ bs → R a b → R' a b) : PySem.W.EachIs R' as bs := by
  induction h with
  | nil => exact .nil
  | cons r t ih => exact .cons (k _ _ List.mem_cons_self r) (ih fun a b m => k a b (List.mem_cons_of_mem _ m))
/-- the pairs in ascending order of their data -/
noncomputable def ascD (bs : List (V × PyData)) : List (V × PyData) := bs.mergeSort (PySem.W.dataLe false (·.2))
section
variable {X : Cx}
def rSortedD (K : PySem.W.Frag) : List V → Hp → VK → Prop := fun vs H Q => ∃ (a : Addr) (bs : List (V × PyData)), vs = [V.ref a] ∧ SqL K H a (bs.map (·.1)) ∧ (∀ b ∈ bs, Dp K H b.1 b.2) ∧ PySem.W.AllAlike (bs.map (·.2)) ∧ PySem.W.Sortable (bs.map (·.2)) ∧ (∀ b ∈ bs, b.2.depth ≤ 60) ∧
  ∀ p, H p = none → Q (.ref p) (upd H p (.lst ((ascD bs).map (·.1))))
theorem cr_sortedD (hu : X.A.units + 65 < cLine) : CallR X (.builtin "sorted") (rSortedD X.K) := by
  intro pins s σ H vs us Q I r h
  obtain ⟨a, bs, rfl, hs, hd, hal, hk, hdep, q⟩ := h
  obtain ⟨its, rv, hl, hz⟩ := I.list hs
  rw [Vals.ref1 r]
  have er0 := each_vals rv
  have er : PySem.W.EachIs (fun v (b : V × PyData) => ∃ as, Reads s.heap v b.2 as) its bs := each_in er0 fun v b m rb => Dp.reads I b.2 b.1 v (hd b m) rb
  have hz' : bs.length ≤ sizeLine := by rw [List.length_map] at hz; exact hz
  refine PySem.W.sorted_data (enc := fun b : V × PyData => b.2) hl.isList er0 er hal hk hz' (fun b hb => by have := hdep b hb; omega) fun out hlen ho => ?_
  obtain ⟨ep, he'⟩ := PyProof.Rows.sortedAll_at s.heap its out.toArray
  have hlen' : ((ascD bs).map (·.1)).length ≤ sizeLine := by
    unfold ascD
    rw [List.length_map, List.length_mergeSort]
    exact hz'
  exact ⟨.ref _, upd H (s.heap.objs.size + 1) (.lst ((ascD bs).map (·.1))), I.laid (t' := s.toks) (fun _ _ => PyProof.Rows.sortedAll_old) (Nat.le_succ _) ⟨hlen', out, ep, vals_each ho, he'⟩, rfl, q _ (I.hok.fresh (Nat.le_succ _))⟩
end
/-- a list in order is the one list of these items in strict order -/
theorem asc_one {α : Type} {lt : α → α → Bool} : ∀ {xs ys : List α}, xs.Perm ys → xs.Pairwise (fun a b => lt b a = false) → ys.Pairwise (fun a b => lt a b = true) → xs = ys
  | [], ys, p, _, _ => (List.Perm.nil_eq p)
  | x :: xs, [], p, _, _ => absurd p.length_eq (by simp)
  | x :: xs, y :: ys, p, h1, h2 => by
    have h1' := List.pairwise_cons.mp h1
    have h2' := List.pairwise_cons.mp h2
    have e : x = y := by
      have a : x ∈ y :: ys := p.mem_iff.mp List.mem_cons_self
      have b : y ∈ x :: xs := p.mem_iff.mpr List.mem_cons_self
      rcases List.mem_cons.mp a with a | a
      · exact a
      · rcases List.mem_cons.mp b with b | b
        · exact b.symm
        · have u := h1'.1 y b
          have v := h2'.1 x a
          rw [u] at v
          cases v
    subst e
    rw [asc_one (p.cons_inv) h1'.2 h2'.2]
theorem ascD_data {bs : List (V × PyData)} {ds : List PyData} (p : (bs.map (·.2)).Perm ds) (s : ds.Pairwise fun a b => PySem.W.dataLt a b = true) : (ascD bs).map (·.2) = ds := by
  refine asc_one (lt := PySem.W.dataLt) (((List.mergeSort_perm bs _).map _).trans p) ?_ s
  have h := PySem.W.sort_pairwise (PySem.W.sortLe_total (listOrd itemOrd) false fun b : V × PyData => PySem.W.keyToks b.2) bs
  refine List.pairwise_map.mpr (h.imp fun {a b} h => ?_)
  have h' : (!PySem.W.dataLt b.2 a.2) = true := h
  simpa using h'
theorem ascD_mem {bs : List (V × PyData)} {b : V × PyData} (h : b ∈ ascD bs) : b ∈ bs := (List.mergeSort_perm bs _).mem_iff.mp h
theorem ascD_dp {K : PySem.W.Frag} {H : Hp} {bs : List (V × PyData)} (h : ∀ b ∈ bs, Dp K H b.1 b.2) : Paired (Dp K H) ((ascD bs).map (·.1)) ((ascD bs).map (·.2)) := by
  have : ∀ xs : List (V × PyData), (∀ b ∈ xs, Dp K H b.1 b.2) → Paired (Dp K H) (xs.map (·.1)) (xs.map (·.2)) := by
    intro xs
    induction xs with
    | nil => intro _; exact .nil
    | cons x xs ih => intro hx; exact .cons (hx x List.mem_cons_self) (ih fun b m => hx b (List.mem_cons_of_mem _ m))
  exact this _ fun b m => h b (ascD_mem m)
/-! ### pairs of a standing and a number -/
structure Stn where
  a : Int
  b : Int
  c : Int
  d : Int
deriving DecidableEq
def stD (x : Stn) : PyData := .tuple [.int x.a, .int x.b, .int x.c, .int x.d]
def stV (x : Stn) : List V := [.int x.a, .int x.b, .int x.c, .int x.d]
def pnD (p : Stn × Int) : PyData := .tuple [stD p.1, .int p.2]
theorem stD_eqv (x y : Stn) : PyData.eqv (stD x) (stD y) = decide (x = y) := by
  obtain ⟨a, b, c, d⟩ := x
  obtain ⟨a', b', c', d'⟩ := y
  have e : PyData.eqv (stD ⟨a, b, c, d⟩) (stD ⟨a', b', c', d'⟩) = ((a == a') && ((b == b') && ((c == c') && ((d == d') && true)))) := by simp only [stD, PyData.eqv, PyData.eqvAll]
  rw [e, Bool.eq_iff_iff]
  simp
theorem pnD_eqv (x y : Stn × Int) : PyData.eqv (pnD x) (pnD y) = decide (x = y) := by
  have e : PyData.eqv (pnD x) (pnD y) = (PyData.eqv (stD x.1) (stD y.1) && ((x.2 == y.2) && true)) := by simp only [pnD, PyData.eqv, PyData.eqvAll]
  obtain ⟨x, n⟩ := x
  obtain ⟨y, m⟩ := y
  rw [e, stD_eqv, Bool.eq_iff_iff]
  simp
theorem stD_lay (x : Stn) : (stD x).canLay0 = true := by simp [stD, PyData.canLay0, PyData.canLayAll0]
theorem pnD_lay (x : Stn × Int) : (pnD x).canLay0 = true := by simp [pnD, stD, PyData.canLay0, PyData.canLayAll0]
theorem stD_depth (x : Stn) : (stD x).depth = 1 := by simp [stD, PyData.depth, PyData.depthAll]
theorem pnD_depth (x : Stn × Int) : (pnD x).depth = 2 := by simp [pnD, stD, PyData.depth, PyData.depthAll]
theorem stD_shaped (x : Stn) : SeqAt.shaped (stD x) = true := by
  show ((stD x).canLay0 && decide ((stD x).depth ≤ 64)) = true
  rw [Bool.and_eq_true]
  exact ⟨stD_lay x, decide_eq_true (by rw [stD_depth]; omega)⟩
theorem pnD_shaped (x : Stn × Int) : SeqAt.shaped (pnD x) = true := by
  show ((pnD x).canLay0 && decide ((pnD x).depth ≤ 64)) = true
  rw [Bool.and_eq_true]
  exact ⟨pnD_lay x, decide_eq_true (by rw [pnD_depth]; omega)⟩
theorem stD_alike (x y : Stn) : PySem.W.alike (stD x) (stD y) = true := by simp [stD, PySem.W.alike, PySem.W.alikeAll]
theorem pnD_alike (x y : Stn × Int) : PySem.W.alike (pnD x) (pnD y) = true := by simp [pnD, stD, PySem.W.alike, PySem.W.alikeAll]
theorem pnD_dp {K : PySem.W.Frag} {H : Hp} {p t : Addr} {x : Stn} {n : Int} (hp : H p = some (.tup [.ref t, .int n])) (ht : H t = some (.tup (stV x))) : Dp K H (.ref p) (pnD (x, n)) :=
  .tup (SqT.of hp) (.cons (.tup (SqT.of ht) (.cons (.int _) (.cons (.int _) (.cons (.int _) (.cons (.int _) .nil))))) (.cons (.int _) .nil))
def stL (x : Stn) : List Int := [x.a, x.b, x.c, x.d]
theorem stD_lt (x y : Stn) : PySem.W.dataLt (stD x) (stD y) = decide (stL x < stL y) := by
  have e : ∀ z : Stn, stD z = .tuple ((stL z).map .int) := fun _ => rfl
  rw [e, e, PySem.W.dataLt_tuple]
  exact PySem.W.dataLt_ints _ _
/-- the order of the pairs -/
theorem pnD_lt (x y : Stn × Int) : PySem.W.dataLt (pnD x) (pnD y) = if x.1 = y.1 then decide (x.2 < y.2) else decide (stL x.1 < stL y.1) := by
  obtain ⟨x, n⟩ := x
  obtain ⟨y, m⟩ := y
  show PySem.W.dataLt (.tuple [stD x, .int n]) (.tuple [stD y, .int m]) = _
  rw [PySem.W.dataLt_pair (stD_alike x y) (by simp [PySem.W.alike]), stD_eqv, stD_lt, PySem.W.dataLt_int]
  have e : PyData.eqv (.int n) (.int m) = decide (n = m) := by simp only [PyData.eqv]; by_cases g : n = m <;> simp [g]
  rw [e]
  by_cases h : x = y
  · rw [decide_eq_true h, if_pos rfl, if_pos h]
    by_cases g : n = m
    · rw [decide_eq_true g, if_pos rfl, g]
      simp
    · rw [decide_eq_false g, if_neg (by simp)]
  · rw [decide_eq_false h, if_neg (by simp), if_neg h]
theorem stD_inj {x y : Stn} (h : stD x = stD y) : x = y := by
  obtain ⟨a, b, c, d⟩ := x
  obtain ⟨a', b', c', d'⟩ := y
  injection h with h
  injection h with h1 h
  injection h with h2 h
  injection h with h3 h
  injection h with h4 h
  injection h1 with h1
  injection h2 with h2
  injection h3 with h3
  injection h4 with h4
  subst h1 h2 h3 h4
  rfl
theorem pnD_inj {x y : Stn × Int} (h : pnD x = pnD y) : x = y := by
  obtain ⟨x, n⟩ := x
  obtain ⟨y, m⟩ := y
  injection h with h
  injection h with h1 h
  injection h with h2 h
  injection h2 with h2
  have h1 : stD x = stD y := h1
  have h2 : n = m := h2
  rw [stD_inj h1, h2]
/-- v is the pair x -/
def PnAt (H : Hp) (v : V) (x : Stn × Int) : Prop := ∃ p t, v = .ref p ∧ H p = some (.tup [.ref t, .int x.2]) ∧ H t = some (.tup (stV x.1))
theorem PnAt.dp {K : PySem.W.Frag} {H : Hp} {v : V} {x : Stn × Int} (h : PnAt H v x) : Dp K H v (pnD x) := by
  obtain ⟨p, t, rfl, h1, h2⟩ := h
  exact pnD_dp h1 h2
theorem asc_pn {H : Hp} : ∀ {cs : List (V × PyData)} {ds : List (Stn × Int)}, (∀ b ∈ cs, ∃ q, b.2 = pnD q ∧ PnAt H b.1 q) → cs.map (·.2) = ds.map pnD → Paired (PnAt H) (cs.map (·.1)) ds
  | [], [], _, _ => .nil
  | [], d :: ds, _, e => by cases e
  | c :: cs, [], _, e => by cases e
  | c :: cs, d :: ds, h, e => by
    rw [List.map_cons, List.map_cons] at e
    injection e with e1 e2
    obtain ⟨q, h1, h2⟩ := h c List.mem_cons_self
    have e3 : q = d := pnD_inj (h1.symm.trans e1)
    exact .cons (e3 ▸ h2) (asc_pn (fun b m => h b (List.mem_cons_of_mem _ m)) e2)
theorem pn_alike {bs : List (V × PyData)} (h : ∀ b ∈ bs, ∃ q : Stn × Int, b.2 = pnD q) : PySem.W.AllAlike (bs.map (·.2)) := by
  intro d hd d' hd'
  obtain ⟨b, m, rfl⟩ := List.mem_map.mp hd
  obtain ⟨b', m', rfl⟩ := List.mem_map.mp hd'
  obtain ⟨q, e⟩ := h b m
  obtain ⟨q', e'⟩ := h b' m'
  rw [e, e']
  exact pnD_alike q q'
theorem pn_sortable {bs : List (V × PyData)} (h : ∀ b ∈ bs, ∃ q : Stn × Int, b.2 = pnD q) : PySem.W.Sortable (bs.map (·.2)) := .inl fun d hd => by
  obtain ⟨b, m, rfl⟩ := List.mem_map.mp hd
  obtain ⟨q, e⟩ := h b m
  exact ⟨stD q.1, [.int q.2], e⟩
theorem pn_depth {b : V × PyData} (h : ∃ q : Stn × Int, b.2 = pnD q) : b.2.depth ≤ 60 := by
  obtain ⟨q, e⟩ := h
  rw [e, pnD_depth]
  omega
end Hue

set_option Elab.async false
set_option linter.all false
set_option maxRecDepth 100000
set_option maxHeartbeats 4000000
/-! an own __iter__ that returns a list's iterator; == of lists of instances with their own == -/
namespace Hue
open PySem PySem.Spec PyProof.Rows L2 ItX
structure OwnIt (K : PySem.W.Frag) (C f : Addr) : Prop where
  at_ : PySem.W.findIn K (.ref C) "__iter__" = some (some (.ref f))
  fn : PySem.W.isFn K (.ref f) = true
theorem OwnM.iter {K : PySem.W.Frag} {C f : Addr} (o : OwnM K C "__iter__" f) : OwnIt K C f := ⟨o.at_, o.fn⟩
/-- a def by its body, entered at s0 -/
theorem fn_here {CX : CXT} {P : Program} {w : World} {K : PySem.W.Frag} {mg : Str → Option Value} {base : Heap} {k : Nat} {x qual : Str} {params : Arguments} {body : List Stmt} {scope : Scope} {f : Addr} {fd : FuncData}
    {N ps : List Str} {A : Around} {out : List Env} {s0 : Shared} {H : Hp} {xs : List Value} {vs : List V} {Q : VK} {E : XK}
    (F : FunD K x qual params body scope [] [] f fd) (S : FnScope N ps scope) (rm : Room (k + 1) A) (en : Env0 P w K mg base A out s0 H) (bd : Binds K fd ps []) (rel : Vals vs xs) (ln : vs.length = ps.length)
    (bod : ∀ cdv, Room k (A.deeper (envOfC qual scope s0.heap.objs.size f cdv)) → ∃ t, PSs (cxOf CX P w K mg base N qual scope f cdv A out s0 H E) body t ∧ t { nx := fun _ H' => Q .non H', rt := Q } (start N vs) H) :
    codeAny (model P w) A (.call (.ref f) ⟨xs, []⟩) (CR CX out P w H s0 Q E) s0 := by
  have kx : K.In s0.heap := en.mod.kin.keeps fun b o z => (en.bs b o z).1
  have nl : s0.heap.NoLimit := en.mod.nolimit.keeps fun b o z => (en.bs b o z).1
  have bt : BindsTo s0 fd ⟨xs, []⟩ (ps.zip xs) := by
    have z := bd s0 xs kx (by rw [List.append_nil, ← rel.length, ln])
    rw [List.append_nil] at z
    exact z
  obtain ⟨oc, od, dV, kV, doc, pm, an, cdv, ct, osl, rfl, lk, hcd, _, _⟩ := F.ex
  have kinds : ∀ y ∈ ps.zip xs, scope.names.lookup y.1 = some .local ∨ (scope.names.lookup y.1 = some .cell ∧ ((cellsFrom (s0.heap.objs.size + 1) scope.names []).lookup y.1).isSome = true) := by
    rintro ⟨n, v⟩ hy
    rcases S.par n (List.of_mem_zip hy).1 with z | z
    · exact .inl z
    · exact .inr ⟨z, PySem.W.cellsFrom_some _ _ _ (.inl z)⟩
  refine codeAny_call_function rm.depth (kx _ _ lk) rfl S.co S.gen rfl (PySem.W.codeRec_of kx hcd) (bt _ _ _ _ ?_)
  refine wpAny_newFunctionEnv_cells S.kind kinds fun en1 e1 s1 fr => ?_
  subst e1
  refine ⟨nl.keeps fr.toInCall.keep, codeAny_func ?_⟩
  obtain ⟨t, pt, q⟩ := bod cdv (rm.deeper _)
  have J : Inv (cxOf CX P w K mg base N qual scope f cdv A out s0 H E) [] (start N vs) H s1 := inv_start S rm.hd en ln rel fr
  refine wpAny_mono (pt.run [] s1 (start N vs) H _ J q) (fun fl s2 z => ?_) fun _ _ z => z
  cases fl with
  | next =>
    obtain ⟨_, H2, J2, q2⟩ := z
    exact ⟨V.non, H2, J2.os, J2.bare, J2.base, J2.hok, rfl, q2⟩
  | ret u =>
    obtain ⟨v, _, H2, J2, r2, q2⟩ := z
    exact ⟨v, H2, J2.os, J2.bare, J2.base, J2.hok, r2, q2⟩
  | brk =>
    obtain ⟨_, _, _, z⟩ := z
    exact z.elim
  | cont =>
    obtain ⟨_, _, _, z⟩ := z
    exact z.elim
/-- such an __iter__: a new iterator over the list at l, for what D says of the two -/
def FnI (P : Program) (w : World) (K : PySem.W.Frag) (mg : Str → Option Value) (base : Heap) (k : Nat) (f : Addr) (D : Addr → Addr → Hp → Prop) : Prop :=
  ∀ (A : Around) (out : List Env) (s0 : Shared) (H : Hp) (a l : Addr) (Q : VK), Room k A → Env0 P w K mg base A out s0 H → D a l H → (∀ it, H it = none → s0.heap.objs.size ≤ it → Q (.ref it) (upd H it (ItO l it 0))) →
    codeAny (model P w) A (.call (.ref f) ⟨[.ref a], []⟩) (CR CX0 out P w H s0 Q E0) s0
section
variable {X : Cx} {k : Nat} {C f : Addr} {D : Addr → Addr → Hp → Prop}
theorem sub_env {n : Nat} {A : Around} {pins : List (Addr × Obj)} {σ : L2.St} {H : Hp} {s : Shared} (sb : Sub X n A) (I : Inv X pins σ H s) : Env0 X.prog X.w X.K X.mg X.base A X.stack s H := by
  have z := I.env0
  refine ⟨?_, z.mod, z.bs, z.bsz, z.funs, z.frf, z.hok, z.bare⟩
  rw [sb.fr]
  exact z.frames
theorem run_iter {pins : List (Addr × Obj)} {σ : L2.St} {H : Hp} {s : Shared} {A : Around} {a l : Addr} {Q : VK} (F : FnI X.prog X.w X.K X.mg X.base k f D) (sb : Sub X k A) (I : Inv X pins σ H s) (hD : D a l H)
    (q : ∀ it, H it = none → s.heap.objs.size ≤ it → Q (.ref it) (upd H it (ItO l it 0))) : wpAny (model X.prog X.w) A (call (.ref f) [.ref a]) (EP X pins σ Q) X.xe s := by
  refine wpAny_call (codeAny_mono (F A X.stack s H a l Q sb.room (sub_env sb I) hD q) fun r s' hq => ?_)
  cases r with
  | error e =>
    obtain ⟨_, _, _, _, _, _, _, _, _, _, _, _, h⟩ := hq
  | ok fl =>
    cases fl with
    | ret u => exact I.after hq
    | next => exact hq.elim
    | brk => exact hq.elim
    | cont => exact hq.elim
theorem owit_list {A : Around} {s : Shared} {l it : Addr} {i : Nat} {Q : Value → Shared → Prop} {Er : Value → Shared → Prop} (e : s.heap.get? it = some (GNX.itObj l i)) (h : Q (.ref it) s) : PySem.W.OwitIt (model X.prog X.w) A Q Er (.ref it) s := by
  have hT : s.TypeIs (.ref it) "list_iterator" := ⟨_, e, rfl⟩
  unfold PySem.W.OwitIt
  exact wpAny_specialOf (name := Str.ofString "__next__") hT slot_listiter_next.lookup h
/-- for x in o, o's own __iter__ -/
def iOwn (K : PySem.W.Frag) (C : Addr) (D : Addr → Addr → Hp → Prop) (ta : TE) : TI := fun σ H R => ta σ H fun x H1 => ∃ a dx fs l, x = .ref a ∧ H1 a = some (.ins C dx fs) ∧ D a l H1 ∧ R (Itl K l) H1
theorem pi_own {tg e : Expr} {ta : TE} (o : OwnIt X.K C f) (F : FnI X.prog X.w X.K X.mg X.base k f D) (hr : Room k X.A) (ha : PE X e ta) : PI X tg e (iOwn X.K C D ta) := by
  refine ⟨fun pins s σ H R I h => ?_⟩
  refine thn (ha.run pins s σ H _ I h) fun u s1 ⟨v, H1, I1, rv, a, dx, fs, l, ev, hi, hD, q⟩ => ?_
  subst ev
  obtain rfl : u = Value.ref a := rv
  obtain ⟨mA, O, _⟩ := ins_get I1.hok hi
  obtain ⟨od, J, _⟩ := O.look
  obtain ⟨m0, Fm⟩ := I1.fr
  refine PySem.W.owit_iter Fm I1.ok.mod.kin J o.at_ o.fn (thn (run_iter (Q := fun v H2 => ∃ it, v = .ref it ∧ H1 it = none ∧ X.s_0.heap.objs.size ≤ it ∧ H2 = upd H1 it (ItO l it 0)) F ⟨hr, rfl⟩ I1 hD fun it hn hs => ⟨it, rfl, hn, Nat.le_trans I1.sz hs, rfl⟩) fun w' s2 hq => ?_)
  obtain ⟨z, H2, I2, rz, it, rfl, hn, young, eH⟩ := hq
  obtain rfl : w' = Value.ref it := rz
  subst eH
  have h2 : upd H1 it (ItO l it 0) it = some (ItO l it 0) := upd_same
  have eo := itO_get I2 h2
  have I3 := inv_drop I2 (φ := fun h => h.get? it = some (GNX.itObj l 0)) h2
  have fp := inv_fp I2 h2 young
  rw [dropH_upd hn] at I3 fp
  refine owit_list eo ⟨it, [it], _, _, H1, rfl, I3, turn_list l it, ⟨_, eo, rfl, rfl⟩, fun b hb => ?_, q⟩
  have e : b = it := by simpa using hb
  rw [e]
  exact fp
/-! list(o) -/
variable {kl : Nat} {fl : Addr} {spL : Sp}
theorem run_sub {pins : List (Addr × Obj)} {σ : L2.St} {H : Hp} {s : Shared} {A : Around} {n : Nat} {g : Addr} {sp : Sp} {us : List Value} {vs : List V} {Q : VK} {Er : Value → Shared → Prop} (F : FnR X.prog X.w X.K X.mg X.base CX0 n g sp) (sb : Sub X n A) (I : Inv X pins σ H s) (r : Vals vs us)
    (h : sp vs H Q E0) : wpAny (model X.prog X.w) A (call (.ref g) us) (EP X pins σ Q) Er s := by
  refine wpAny_call (codeAny_mono (F A X.stack s H us vs Q E0 sb.room (sub_env sb I) r h) fun r s' hq => ?_)
  cases r with
  | error e =>
    obtain ⟨_, _, _, _, _, _, _, _, _, _, _, _, h⟩ := hq
  | ok fl =>
    cases fl with
    | ret u => exact I.after hq
    | next => exact hq.elim
    | brk => exact hq.elim
    | cont => exact hq.elim
/-- the class has __len__, and what it gives is the list's length -/
structure OwnLn (K : PySem.W.Frag) (C f : Addr) : Prop where
  at_ : PySem.W.findIn K (.ref C) "__len__" = some (some (.ref f))
  fn : PySem.W.isFn K (.ref f) = true
theorem hint_own {pins : List (Addr × Obj)} {σ : L2.St} {H : Hp} {s : Shared} {A : Around} {a dx : Addr} {fs : List (Str × V)} {Q : Bool → Shared → Prop} (ol : OwnLn X.K C fl) (F : FnR X.prog X.w X.K X.mg X.base CX0 kl fl spL) (sb : Sub X (kl + 1) A) (I : Inv X pins σ H s)
    (ha : H a = some (.ins C dx fs)) (hsp : spL [.ref a] H (fun v H' => ∃ n : Nat, v = .int n ∧ n < 1000 ∧ H' = H) E0) (h : ∀ b s', Inv X pins σ H s' → Q b s') :
    wpAny (model X.prog X.w) A (Builtin.List.listLengthHint (.ref a)) Q X.xe s := by
  obtain ⟨mA, O, _⟩ := ins_get I.hok ha
  obtain ⟨od, J, _⟩ := O.look
  obtain ⟨m0, Fm⟩ := I.fr
  unfold Builtin.List.listLengthHint
  refine wpAny_bind (wpAny_bind (J.type.here ((PySem.W.looks_findIn I.kIn ol.at_).here ?_)))
  refine PySem.W.KFB.if_not rfl ?_
  refine wpAny_bind (wpAny_rule ?_)
  refine wpAny_bind (wpAny_attempt ?_)
  refine PySem.W.len_K Fm I.ok.mod.kin J ol.at_ ol.fn (thn (run_sub (us := [.ref a]) (vs := [.ref a]) F sb.in1 I (.cons rfl .nil) hsp) fun u s' hq => ?_)
  obtain ⟨z, H', I', rz, n, rfl, hn, eH⟩ := hq
  subst eH
  obtain ⟨t, rfl⟩ := rz
  refine ⟨⟨by omega, by omega⟩, ?_⟩
  have small : ¬ (Builtin.List.listTooLong ((n : Int)).toNat = true) := by
    unfold Builtin.List.listTooLong
    rw [Int.toNat_natCast]
    have : sizeLine = 1099511627776 ∨ 1000 ≤ sizeLine := .inr (by decide)
    simp only [decide_eq_true_eq]
    have h2 : 1000 ≤ sizeLine := by decide
    omega
  refine wpAny_bind (m := asInt? _) (wpAny_pure ?_)
  show wpAny _ _ (if Builtin.List.listTooLong ((n : Int)).toNat = true then _ else _) _ _ _
  rw [if_neg small]
  exact wpAny_pure (h _ _ (I'.tok _))
theorem ext_loop {pins : List (Addr × Obj)} {σ : L2.St} {H0 : Hp} {A1 : Around} {q l it : Addr} {zs : List V} {Rs : Result → Shared → Prop} (hh : A1.in1.handled = none) (nq : H0 q = none) (hl : SqL X.K H0 l zs) (hz : zs.length < sizeLine)
    (done : ∀ s, Inv X pins σ (upd H0 q (.lst zs)) s → Rs (.ok (.ret .none)) s) : ∀ (n i : Nat) (s : Shared), zs.length - i = n → i ≤ zs.length → Inv X pins σ (upd H0 q (.lst (zs.take i))) s → s.heap.IsListIter it l i → FpOk X pins (upd H0 q (.lst (zs.take i))) it →
      codeAny (model X.prog X.w) A1 (.builtin "list.extend.loop" ⟨[.ref q, .ref it, .none], []⟩) Rs s := by
  intro n
  induction n with
  | zero =>
    intro i s hn hi I st fp
    have e : i = zs.length := by omega
    subst e
    rw [List.take_length] at I fp
    have hl2 : SqL X.K (upd H0 q (.lst zs)) l zs := hl.ext (Ext.upd nq)
    obtain ⟨its, rv, p, hs⟩ := I.list hl2
    obtain ⟨f0, f1, f2, f3, f4, f5⟩ := fp
    have ln := rv.length
    refine codeAny_builtin PySem.F.entry_extend_loop ?_
    rw [Around.under_plainId PySem.F.plain_extend_loop _]
    show wpAny _ A1.in1 (pyNext (.ref it) >>= _) _ _ _
    refine wpAny_bind (wpAny_pyNext_list_end hh st p.isList (by simp; omega) fun h' eb => ?_)
    exact wpAny_pure (done _ (I.turned (t' := s.toks) (fun b o hb z => eb b o hb z) f0 f1 f3 f4 f5))
  | succ n ih =>
    intro i s hn hi I st fp
    have hlt : i < zs.length := by omega
    have hl2 : SqL X.K (upd H0 q (.lst (zs.take i))) l zs := hl.ext (Ext.upd nq)
    obtain ⟨its, rv, p, hs⟩ := I.list hl2
    have fp' := fp
    obtain ⟨f0, f1, f2, f3, f4, f5⟩ := fp
    obtain ⟨u, hu, ru⟩ := rv.get (List.getElem?_eq_getElem hlt)
    refine codeAny_builtin PySem.F.entry_extend_loop ?_
    rw [Around.under_plainId PySem.F.plain_extend_loop _]
    show wpAny _ A1.in1 (pyNext (.ref it) >>= _) _ _ _
    refine wpAny_bind (wpAny_pyNext_list_item st p.isList (x := u) (by simpa using hu) fun h' st' sb => ?_)
    have I1 : Inv X pins σ (upd H0 q (.lst (zs.take i))) { s with heap := h' } := I.turned (t' := s.toks) (fun b o hb z => (sb.2 b hb).trans z) f0 f1 f3 f4 f5
    show wpAny _ A1.in1 (updateSeq q (·.push u) >>= _) _ _ _
    obtain ⟨z, its1, k1, r1, hl1, e1⟩ := I1.lstM upd_same
    have len1 : its1.length = i := by
      rw [← r1.length, List.length_take]
      omega
    have snoc : zs.take (i + 1) = zs.take i ++ [zs[i]] := by rw [List.take_add_one, List.getElem?_eq_getElem hlt]; rfl
    refine wpAny_bind (wpAny_updateSeq e1 rfl (wpAny_pure ⟨plainId_quiet PySem.F.plain_extend_loop _, ?_⟩) (by rw [List.size_toArray]; omega) (by show (its1.toArray.push u).size ≤ sizeLine + 1; rw [Array.size_push, List.size_toArray]; omega))
    have I2 := I1.lset (its' := its1 ++ [u]) (ys := zs.take (i + 1)) (t' := s.toks) upd_same e1 (f := (·.push u)) (by simp) (by rw [snoc]; exact r1.append (.cons ru .nil)) (by rw [List.length_take]; omega)
    rw [upd_upd] at I2
    have nq2 : it ≠ q := fun z => by
      rw [z, upd_same] at f0
      cases f0
    refine ih (i + 1) _ (by omega) (by omega) I2 ?_ ⟨?_, fp'.2⟩
    · exact st'.at fun o z => by
        show ((h'.update q _).get? it) = _
        rw [Heap.get?_update_ne _ _ _ _ nq2]
        exact z
    · rw [upd_ne nq2] at f0 ⊢
      exact f0
theorem ext_own {pins : List (Addr × Obj)} {σ : L2.St} {H : Hp} {s : Shared} {A1 : Around} {a q l dx : Addr} {fs : List (Str × V)} {zs : List V} {Rs : Result → Shared → Prop} (oi : OwnIt X.K C f) (FI : FnI X.prog X.w X.K X.mg X.base k f D)
    (ol : OwnLn X.K C fl) (FL : FnR X.prog X.w X.K X.mg X.base CX0 kl fl spL) (hD : ∀ a l H H', Ext H H' → D a l H → D a l H') (hL : ∀ a l H, D a l H → spL [.ref a] H (fun v H' => ∃ n : Nat, v = .int n ∧ n < 1000 ∧ H' = H) E0)
    (sbi : Sub X k A1.in1) (sbl : Sub X (kl + 1) A1.in1) (hh : A1.in1.handled = none) (nq : H q = none) (hd : D a l H) (ha : H a = some (.ins C dx fs)) (hl : SqL X.K H l zs) (hz : zs.length < sizeLine)
    (I : Inv X pins σ (upd H q (.lst [])) s) (done : ∀ s, Inv X pins σ (upd H q (.lst zs)) s → Rs (.ok (.ret .none)) s) (herr : ∀ e s, X.xe e s → Rs (.error e) s) :
    wpAny (model X.prog X.w) A1.in1 (Builtin.List.listExtendWith (.ref q) (.ref a) .none)
      (fun fin s' => match fin with | .done g => Rs (.ok g) s' | .again c => c.quiet = true ∧ codeAny (model X.prog X.w) A1 c Rs s') (fun e s' => Rs (.error e) s') s := by
  have ext : Ext H (upd H q (.lst [])) := Ext.upd nq
  have ha2 := ext _ _ ha
  have hne : q ≠ a := ne_of upd_same ha2 (fun z => nomatch z)
  obtain ⟨mA, O, _⟩ := ins_get I.hok ha2
  obtain ⟨od, J, _⟩ := O.look
  obtain ⟨m0, Fm⟩ := I.fr
  unfold Builtin.List.listExtendWith
  refine wpAny_bind (J.type.here ?_)
  have b1 : Builtin.List.listSameRef (.ref q) (.ref a) = false := by simp [Builtin.List.listSameRef, hne]
  have b2 : (Value.ref C == Value.type "list") = false := rfl
  have b3 : (Value.ref C == Value.type "tuple") = false := rfl
  simp only [b1, b2, b3, Bool.or_false, Bool.false_eq_true, if_false]
  have nq' : ∀ it, upd H q (.lst []) it = none → it ≠ q := fun it hn z => by rw [z, upd_same] at hn; cases hn
  refine wpAny_bind (PySem.W.owit_iter Fm I.ok.mod.kin J oi.at_ oi.fn (wpAny_mono (run_iter (Q := fun v H2 => ∃ it, v = .ref it ∧ upd H q (.lst []) it = none ∧ X.s_0.heap.objs.size ≤ it ∧ H2 = upd (upd H q (.lst [])) it (ItO l it 0)) FI sbi I (hD _ _ _ _ ext hd) fun it hn hs => ⟨it, rfl, hn, Nat.le_trans I.sz hs, rfl⟩) (fun w' s2 hq => ?_) fun e s' he => herr e s' he))
  obtain ⟨z, H2, I2, rz, it, rfl, hn, young, eH⟩ := hq
  obtain rfl : w' = Value.ref it := rz
  subst eH
  have h2 : upd (upd H q (.lst [])) it (ItO l it 0) it = some (ItO l it 0) := upd_same
  have eo := itO_get I2 h2
  refine owit_list eo ?_
  have I2' := I2
  have ext2 : Ext (upd H q (.lst [])) (upd (upd H q (.lst [])) it (ItO l it 0)) := Ext.upd hn
  refine wpAny_bind (wpAny_holding (wpAny_mono (hint_own ol FL sbl I2 (ext2 _ _ ha2) (hL _ _ _ (hD _ _ _ _ ext2 (hD _ _ _ _ ext hd))) (Q := fun _ s' => Inv X pins σ (upd (upd H q (.lst [])) it (ItO l it 0)) s') fun _ _ z => z) (fun b s3 I3 => ?_) fun e s' he => herr e s' he))
  have go : ∀ s4, Inv X pins σ (upd (upd H q (.lst [])) it (ItO l it 0)) s4 → codeAny (model X.prog X.w) A1 (.builtin "list.extend.loop" ⟨[.ref q, .ref it, .none], []⟩) Rs s4 := fun s4 I4 => by
    have eo4 := itO_get I4 h2
    have I5 := inv_drop I4 (φ := fun h => h.get? it = some (GNX.itObj l 0)) h2
    have fp := inv_fp I4 h2 young
    rw [dropH_upd hn] at I5 fp
    exact ext_loop hh nq hl hz done zs.length 0 s4 rfl (Nat.zero_le _) I5 ⟨_, eo4, rfl, rfl⟩ fp
  refine wpAny_ite_split (fun _ => ?_) (fun _ => wpAny_pure ⟨plainId_quiet PySem.F.plain_extend_loop _, go _ I3⟩)
  refine wpAny_bind (wpAny_rule ?_)
  refine wpAny_bind ?_
  show wpAny _ _ (updateSeq q (·.push .none) >>= fun _ => updateSeq q (·.pop)) _ _ _
  have hq3 : upd (upd H q (.lst [])) it (ItO l it 0) q = some (.lst []) := by rw [upd_ne (nq' it hn).symm, upd_same]
  obtain ⟨z4, its, k4, r4, hl4, e4⟩ := I3.lstM hq3
  cases r4
  refine wpAny_bind (wpAny_updateSeq e4 rfl ?_)
  have I6 := I3.lset (f := (·.push Value.none)) (its' := [Value.none]) (ys := [.non]) (t' := s3.toks) hq3 e4 (by simp) (.cons rfl .nil) (by rw [List.length_singleton, sizeLine_eq]; decide)
  obtain ⟨z7, its7, k7, r7, hl7, e7⟩ := I6.lstM upd_same
  obtain ⟨u7, rfl, ru7⟩ := r7.one
  refine wpAny_updateSeq e7 rfl ?_ (by show 1 ≤ sizeLine; rw [sizeLine_eq]; decide) (by show 0 ≤ sizeLine + 1; exact Nat.zero_le _)
  refine wpAny_pure ⟨plainId_quiet PySem.F.plain_extend_loop _, go _ ?_⟩
  have I8 := I6.lset (f := (·.pop)) (its := [u7]) (its' := []) (ys := []) (t' := s3.toks) upd_same e7 (by rfl) .nil (Nat.zero_le _)
  rw [upd_upd] at I8
  have back : upd (upd (upd H q (.lst [])) it (ItO l it 0)) q (.lst []) = upd (upd H q (.lst [])) it (ItO l it 0) := by
    funext b
    by_cases hb : b = q
    · rw [hb, upd_same, hq3]
    · rw [upd_ne hb]
  rw [back] at I8
  exact I8
/-- list(o) -/
def rOwnL (K : PySem.W.Frag) (C : Addr) (D : Addr → Addr → Hp → Prop) : List V → Hp → VK → Prop := fun xs H Q => ∃ a dx fs l zs, xs = [.ref a] ∧ H a = some (.ins C dx fs) ∧ D a l H ∧ SqL K H l zs ∧ zs.length < 1000 ∧ ∀ q, H q = none → Q (.ref q) (upd H q (.lst zs))
theorem call_listI (hc : X.calm = true) (oi : OwnIt X.K C f) (FI : FnI X.prog X.w X.K X.mg X.base k f D)
    (ol : OwnLn X.K C fl) (FL : FnR X.prog X.w X.K X.mg X.base CX0 kl fl spL) (hD : ∀ a l H H', Ext H H' → D a l H → D a l H') (hL : ∀ a l H, D a l H → spL [.ref a] H (fun v H' => ∃ n : Nat, v = .int n ∧ n < 1000 ∧ H' = H) E0)
    (hri : Room (k + 2) X.A) (hrl : Room (kl + 3) X.A) : CallR X (.type "list") (rOwnL X.K C D) := by
  intro pins s σ H xs us Q I rv h
  obtain ⟨a, dx, fs, l, zs, rfl, ha, hd, hl, hz, hq⟩ := h
  obtain ⟨u, rfl, ru⟩ := rv.one
  cases ru
  have sbi : Sub X k X.A.in1.in1 := (Sub.in1 (Sub.in1 (⟨hri, rfl⟩ : Sub X (k + 2) X.A)))
  have sbl : Sub X (kl + 1) X.A.in1.in1 := (Sub.in1 (Sub.in1 (⟨hrl, rfl⟩ : Sub X (kl + 3) X.A)))
  refine callType_codes (Q₁ := fun obj s₁ => obj = .ref s.heap.objs.size ∧ s₁ = { s with heap := s.heap.push { cls := .type "list", data := .seq #[] } }) PySem.F.called_list (PySem.F.typeCall_list_1 _) PySem.F.entry_list_init
    (code_list_new _ ⟨rfl, rfl⟩) fun obj s₁ h₁ => ?_
  obtain ⟨rfl, rfl⟩ := h₁
  have new0 : (s.heap.push { cls := .type "list", data := .seq #[] }).get? s.heap.objs.size = some { cls := .type "list", data := .seq #[] } := Heap.get?_push_size _ rfl
  refine ⟨⟨_, new0, rfl⟩, PySem.F.args_list_init_2 _ _, ?_⟩
  have nq : H s.heap.objs.size = none := I.hok.fresh (Nat.le_refl _)
  have I1 : Inv X pins σ (upd H s.heap.objs.size (.lst [])) { s with heap := s.heap.push { cls := .type "list", data := .seq #[] } } := I.lnew (its := []) (t' := s.toks) .nil (Nat.zero_le _)
  show wpAny _ _ (do let old ← Builtin.List.listItems (.ref s.heap.objs.size); Builtin.List.listUpdate (.ref s.heap.objs.size) (fun _ => #[]); letGo old.toList.reverse; Builtin.List.listExtendWith (.ref s.heap.objs.size) (.ref a) .none) _ _ _
  refine wpAny_bind ?_
  unfold Builtin.List.listItems
  refine wpAny_bind (wpAny_seqItems new0 rfl (wpAny_pure ?_))
  show wpAny _ _ (updateSeq s.heap.objs.size (fun _ => #[]) >>= fun _ => letGo (#[] : Array Value).toList.reverse >>= fun _ => Builtin.List.listExtendWith (.ref s.heap.objs.size) (.ref a) .none) _ _ _
  refine wpAny_bind (wpAny_updateSeq new0 rfl ?_)
  have I2 := I1.lset (f := fun _ => #[]) (its := []) (its' := []) (ys := []) (t' := s.toks) upd_same new0 rfl .nil (Nat.zero_le _)
  rw [upd_upd] at I2
  refine wpAny_bind (wpAny_letGo ?_)
  exact ext_own (A1 := X.A.in1) (Rs := wants (fun r s₂ => r = .none ∧ EP X pins σ Q (.ref s.heap.objs.size) s₂) X.xe) oi FI ol FL hD hL sbi sbl (I.ok.hd hc) nq hd ha hl (Nat.lt_of_lt_of_le hz (by decide)) I2
    (fun s' I' => ⟨rfl, .ref s.heap.objs.size, _, I', rfl, hq _ nq⟩) (fun e s' he => he)
end
end Hue

set_option Elab.async false
set_option linter.all false
set_option maxRecDepth 100000
set_option maxHeartbeats 4000000
/-! == of lists whose items have their own == -/
namespace Hue
open PySem PySem.SeqAt
open AutoSeq1 (wpAny_loadPart')
open MeetsSeq MeetsSeq2 MeetsSeq3 SeqRoads2
open GQ (FinOf)
section
variable {prog : Program} {w : World} {A : Around} {R : Result → Shared → Prop}
/-- at each turn the two lists are read anew: N items each, the i-th two equal, or not and then F -/
def ListB (prog : Program) (w : World) (A : Around) (E : Value → Shared → Prop) (l b : Addr) (N : Nat) (I : Nat → Shared → Prop) (Fl : Shared → Prop) : Prop :=
  ∀ i s, I i s → ∃ (xs ys : Array Value) (n m : Nat), s.heap.get? l = some { cls := .type "list", data := .seq xs n } ∧ s.heap.get? b = some { cls := .type "list", data := .seq ys m } ∧ xs.size = N ∧ ys.size = N ∧
    ∀ (h1 : i < xs.size) (h2 : i < ys.size), wpAny (model prog w) A.in1 (eqBool xs[i] ys[i]) (fun r s' => (r = true ∧ I (i + 1) s') ∨ (r = false ∧ Fl s' ∧ ∃ (xs' ys' : Array Value) (n' m' : Nat), s'.heap.get? l = some { cls := .type "list", data := .seq xs' n' } ∧ s'.heap.get? b = some { cls := .type "list", data := .seq ys' m' } ∧ i < xs'.size ∧ i < ys'.size)) E s
theorem eq_loopB (l b : Addr) (N : Nat) (I : Nat → Shared → Prop) (Fl : Shared → Prop) (hl : ListB prog w A (fun e s' => R (.error e) s') l b N I Fl)
    (yes : ∀ s, I N s → R (.ok (.ret (.bool true))) s) (no : ∀ s, Fl s → R (.ok (.ret (.bool false))) s) (k : Nat) : ∀ i : Nat, N - i = k → i ≤ N → ∀ s, I i s →
      wpAny (model prog w) A.in1 (Builtin.«list.__eq__.loop» ⟨[.ref l, .ref b, rawInt i, rawInt 2], []⟩) (FinOf prog w A R) (fun e s' => R (.error e) s') s := by
  induction k with
  | zero =>
    intro i hk hi s h
    obtain ⟨xs, ys, n, m, g1, g2, z1, z2, _⟩ := hl _ _ h
    have e : i = N := by omega
    have fin : R (.ok (.ret (.bool true))) s := yes s (e ▸ h)
    obtain ⟨hp, g, d, tk, os⟩ := s
    wp_walk using wpAny_loadPart' g1, wpAny_loadPart' g2
    have n1 : xs[((i : Nat) : Int).toNat]? = none := by simp; omega
    have n2 : ys[((i : Nat) : Int).toNat]? = none := by simp; omega
    rw [n1, n2]
    wp_walk using wpAny_loadPart' g1, wpAny_loadPart' g2
    show R (.ok (.ret (.bool (xs.size == ys.size)))) _
    rw [z1, z2]
    simpa using fin
  | succ k ih =>
    intro i hk hi s h
    obtain ⟨xs, ys, n, m, g1, g2, z1, z2, turn⟩ := hl _ _ h
    have l1 : i < xs.size := by omega
    have l2 : i < ys.size := by omega
    have tn := turn l1 l2
    obtain ⟨hp, g, d, tk, os⟩ := s
    wp_walk using wpAny_loadPart' g1, wpAny_loadPart' g2
    have n1 : xs[((i : Nat) : Int).toNat]? = some xs[i] := by simp [l1]
    have n2 : ys[((i : Nat) : Int).toNat]? = some ys[i] := by simp [l2]
    have c1 : ((i : Int) + 1) = ((i + 1 : Nat) : Int) := by omega
    rw [n1, n2]
    refine wpAny_bind (wpAny_mono tn (fun r s2 h2 => ?_) fun _ _ z => z)
    rcases h2 with ⟨rfl, h2⟩ | ⟨rfl, h2, xs', ys', n', m', g3, g4, l3, l4⟩
    · have next := ih (i + 1) (by omega) (by omega) s2 h2
      obtain ⟨hp2, g2', d2, tk2, os2⟩ := s2
      wp_walk
      rw [c1]
      exact ⟨plainId_quiet plain_eq_loop _, codeAny_builtin entry_eq_loop (by
        rw [Around.under_plainId plain_eq_loop _]
        exact next)⟩
    · have fin := no _ h2
      obtain ⟨hp2, g2', d2, tk2, os2⟩ := s2
      wp_walk using wpAny_loadPart' g3, wpAny_loadPart' g4
      have n3 : xs'[((i : Nat) : Int).toNat]? = some xs'[i] := by simp [l3]
      have n4 : ys'[((i : Nat) : Int).toNat]? = some ys'[i] := by simp [l4]
      rw [n3, n4]
      wp_walk
      exact fin
theorem list_eqB (l b : Addr) (N : Nat) (I : Nat → Shared → Prop) (Fl : Shared → Prop) (hl : ListB prog w A (fun e s' => R (.error e) s') l b N I Fl)
    (yes : ∀ s, I N s → R (.ok (.ret (.bool true))) s) (no : ∀ s, Fl s → R (.ok (.ret (.bool false))) s) {s : Shared} (h : I 0 s) :
    wpAny (model prog w) A.in1 (Builtin.«list.__eq__» ⟨[.ref l, .ref b], []⟩) (FinOf prog w A R) (fun e s' => R (.error e) s') s := by
  obtain ⟨xs, ys, n, m, g1, g2, z1, z2, _⟩ := hl _ _ h
  have go := eq_loopB (A := A) (R := R) l b N I Fl hl yes no _ 0 rfl (Nat.zero_le _) s h
  obtain ⟨hp, g, d, tk, os⟩ := s
  have f3 := AutoSeq1.sub_list_list
  have same : ¬ (xs.size != ys.size) = true := by simp [z1, z2]
  wp_walk using wpAny_loadPart' g1, wpAny_loadPart' g2
  exact ⟨plainId_quiet plain_eq_loop _, codeAny_builtin entry_eq_loop (by
    rw [Around.under_plainId plain_eq_loop _]
    exact go)⟩
/-- lists of two lengths are not equal -/
theorem list_neB (l b : Addr) {xs ys : Array Value} {n m : Nat} {s : Shared} (g1 : s.heap.get? l = some { cls := .type "list", data := .seq xs n }) (g2 : s.heap.get? b = some { cls := .type "list", data := .seq ys m })
    (dif : xs.size ≠ ys.size) (no : R (.ok (.ret (.bool false))) s) : wpAny (model prog w) A.in1 (Builtin.«list.__eq__» ⟨[.ref l, .ref b], []⟩) (FinOf prog w A R) (fun e s' => R (.error e) s') s := by
  obtain ⟨hp, g, d, tk, os⟩ := s
  have f3 := AutoSeq1.sub_list_list
  have same : (xs.size != ys.size) = true := by simp [dif]
  wp_walk using wpAny_loadPart' g1, wpAny_loadPart' g2
  exact no
end
section
variable {prog : Program} {w : World} {A : Around} {E : Value → Shared → Prop} {s : Shared}
theorem rc_listB {l b : Addr} {N : Nat} {Q : Value → Shared → Prop} (hu : A.units < cLine) (I : Nat → Shared → Prop) (Fl : Shared → Prop) (hl : ListB prog w A E l b N I Fl)
    (yes : ∀ s, I N s → Q (.bool true) s) (no : ∀ s, Fl s → Q (.bool false) s) (h : I 0 s) : wpAny (model prog w) A (richCompare .Eq (.ref l) (.ref b)) Q E s := by
  obtain ⟨xs, ys, n, m, g1, g2, _, _, _⟩ := hl _ _ h
  refine wpAny_richCompare_same_room (op := .Eq) ⟨_, g1, rfl⟩ ⟨_, g2, rfl⟩ F.slot_list_eq (GQ.call_here F.slot_list_eq ⟨_, g1, rfl⟩ F.entry_list_eq (F.args_list_eq_2 _ _) ?_) hu
  exact list_eqB (R := wants (fun v s' => v ≠ .notImplemented ∧ Q v s') E) l b N I Fl hl (fun s' q => ⟨(fun x => nomatch x), yes s' q⟩) (fun s' q => ⟨(fun x => nomatch x), no s' q⟩) h
theorem rc_listN {l b : Addr} {xs ys : Array Value} {n m : Nat} {Q : Value → Shared → Prop} (hu : A.units < cLine) (g1 : s.heap.get? l = some { cls := .type "list", data := .seq xs n }) (g2 : s.heap.get? b = some { cls := .type "list", data := .seq ys m })
    (dif : xs.size ≠ ys.size) (no : Q (.bool false) s) : wpAny (model prog w) A (richCompare .Eq (.ref l) (.ref b)) Q E s := by
  refine wpAny_richCompare_same_room (op := .Eq) ⟨_, g1, rfl⟩ ⟨_, g2, rfl⟩ F.slot_list_eq (GQ.call_here F.slot_list_eq ⟨_, g1, rfl⟩ F.entry_list_eq (F.args_list_eq_2 _ _) ?_) hu
  exact list_neB (R := wants (fun v s' => v ≠ .notImplemented ∧ Q v s') E) l b g1 g2 dif ⟨(fun x => nomatch x), no⟩
end
end Hue
namespace Hue
open PySem PySem.Spec PyProof.Rows L2
section
variable {X : Cx} {n : Nat} {C f : Addr} {R : Addr → Addr → Hp → Bool → Prop}
/-- what the own == promises: R tells the answer, the heap stays -/
def spEqB (R : Addr → Addr → Hp → Bool → Prop) : Sp := fun vs H Q _ => ∃ a b r, vs = [.ref a, .ref b] ∧ R a b H r ∧ Q (.bl r) H
theorem eqB_ins (F : FnR X.prog X.w X.K X.mg X.base CX0 n f (spEqB R)) (o : OwnM X.K C "__eq__" f) (self : ∀ a H r, R a a H r → r = true) {A : Around} (sb : Sub X n A) {pins : List (Addr × Obj)} {s : Shared} {σ : L2.St} {H : Hp} {a b dx dy : Addr} {fs gs : List (Str × V)} {r : Bool} {E : Value → Shared → Prop}
    (I : Inv X pins σ H s) (ha : H a = some (.ins C dx fs)) (hb : H b = some (.ins C dy gs)) (hr : R a b H r) : wpAny (model X.prog X.w) A (eqBool (.ref a) (.ref b)) (fun z s' => z = r ∧ Inv X pins σ H s') E s := by
  by_cases e : a = b
  · subst e
    rw [self _ _ _ hr]
    exact SeqAt.EqAt.same (A := A) (s := s) (.ref a) X.prog X.w E _ ⟨rfl, I⟩
  · obtain ⟨mA, O, _⟩ := ins_get I.hok ha
    obtain ⟨mB, O', _⟩ := ins_get I.hok hb
    obtain ⟨od, J, _⟩ := O.look
    obtain ⟨od', J', _⟩ := O'.look
    obtain ⟨m, Fm⟩ := I.fr
    refine GQ.eqBool_refG e (PySem.W.cmp_K (op := .Eq) (tb := .ref C) sb.room.units0 Fm I.ok.mod.kin J J'.type (by simp [PySem.W.notFirst]) o.at_ o.fn (wpAny_mono (run_sub (us := [.ref a, .ref b]) (vs := [.ref a, .ref b]) (Q := fun v H' => v = .bl r ∧ H' = H) F sb I (.cons rfl (.cons rfl .nil)) ⟨a, b, r, rfl, hr, rfl, rfl⟩) (fun u s' hq => ?_) fun _ _ z => z))
    obtain ⟨z, H', I', rz, rfl, rfl⟩ := hq
    obtain rfl : u = Value.bool r := rz
    exact SlX.cmpback (z := V.bl r) rfl ⟨r, rfl, rfl, I'⟩
/-- the items of the two lists, one by one, by the own == -/
def rEqLB (C : Addr) (R : Addr → Addr → Hp → Bool → Prop) : R2 := fun x y H Q => ∃ (a b : Addr) (xs ys : List Addr) (r : Bool), x = .ref a ∧ y = .ref b ∧ H a = some (.lst (xs.map V.ref)) ∧ H b = some (.lst (ys.map V.ref)) ∧
  ((xs.length ≠ ys.length ∧ r = false) ∨ (xs.length = ys.length ∧ ∃ g : Nat → Bool, (∀ i p q, xs[i]? = some p → ys[i]? = some q → ∃ dx dy fs gs, H p = some (.ins C dx fs) ∧ H q = some (.ins C dy gs) ∧ R p q H (g i)) ∧ r = (List.range xs.length).all g)) ∧ Q (.bl r) H
theorem op_eqLB (F : FnR X.prog X.w X.K X.mg X.base CX0 n f (spEqB R)) (o : OwnM X.K C "__eq__" f) (self : ∀ a H r, R a a H r → r = true) (hr : Room (n + 1) X.A) : OpR X (compareOp .Eq) (rEqLB C R) := by
  intro pins s σ H x y v u Q I rx ry h
  obtain ⟨a, b, xs, ys, r, rfl, rfl, ha, hb, hd, q⟩ := h
  obtain rfl : v = Value.ref a := rx
  obtain rfl : u = Value.ref b := ry
  show wpAny (model X.prog X.w) X.A (richCompare .Eq (.ref a) (.ref b)) (EP X pins σ Q) X.xe s
  rcases hd with ⟨dif, rfl⟩ | ⟨same, g, turn, rfl⟩
  · obtain ⟨z, its, k, rv, e⟩ := I.hok a _ ha
    obtain ⟨z2, its2, k2, rv2, e2⟩ := I.hok b _ hb
    refine rc_listN hr.units0 e e2 ?_ ⟨.bl false, H, I, rfl, q⟩
    rw [List.size_toArray, List.size_toArray, ← rv.length, ← rv2.length, List.length_map, List.length_map]
    exact dif
  · refine rc_listB (N := xs.length) hr.units0 (fun i s' => Inv X pins σ H s' ∧ i ≤ xs.length ∧ ∀ j, j < i → g j = true) (fun s' => Inv X pins σ H s' ∧ ∃ j, j < xs.length ∧ g j = false) (fun i s' ⟨I1, hi, hj⟩ => ?_) (fun s' ⟨I1, _, hj⟩ => ?_) (fun s' ⟨I1, j, h1, h2⟩ => ?_) ⟨I, Nat.zero_le _, fun j hj => absurd hj (Nat.not_lt_zero _)⟩
    · obtain ⟨z, its, k, rv, e⟩ := I1.hok a _ ha
      obtain ⟨z2, its2, k2, rv2, e2⟩ := I1.hok b _ hb
      have ln := rv.length
      have ln2 := rv2.length
      rw [List.length_map] at ln ln2
      refine ⟨its.toArray, its2.toArray, k, k2, e, e2, by rw [List.size_toArray, ← ln], by rw [List.size_toArray, ← ln2, same], fun h1 h2 => ?_⟩
      have k1 : i < xs.length := by rw [List.size_toArray] at h1; omega
      have k2' : i < ys.length := by omega
      have m1 : (xs.map V.ref)[i]? = some (.ref xs[i]) := by rw [List.getElem?_map, List.getElem?_eq_getElem k1]; rfl
      have m2 : (ys.map V.ref)[i]? = some (.ref ys[i]) := by rw [List.getElem?_map, List.getElem?_eq_getElem k2']; rfl
      obtain ⟨u1, q1, r1⟩ := rv.get m1
      obtain ⟨u2, q2, r2⟩ := rv2.get m2
      obtain rfl : u1 = Value.ref xs[i] := r1
      obtain rfl : u2 = Value.ref ys[i] := r2
      have w1 : its.toArray[i] = Value.ref xs[i] := by
        have z1 : i < its.length := by omega
        rw [List.getElem?_eq_getElem z1] at q1
        simpa using Option.some.inj q1
      have w2 : its2.toArray[i] = Value.ref ys[i] := by
        have z1 : i < its2.length := by omega
        rw [List.getElem?_eq_getElem z1] at q2
        simpa using Option.some.inj q2
      rw [w1, w2]
      obtain ⟨dx, dy, fs, gs, p1, p2, p3⟩ := turn i _ _ (List.getElem?_eq_getElem k1) (List.getElem?_eq_getElem k2')
      have sb : Sub X n X.A.in1 := Sub.in1 (⟨hr, rfl⟩ : Sub X (n + 1) X.A)
      refine wpAny_mono (eqB_ins F o self sb I1 p1 p2 p3) (fun t s2 ⟨e3, I2⟩ => ?_) fun _ _ z => z
      subst e3
      cases hg : g i with
      | true =>
        refine .inl ⟨rfl, I2, k1, fun j hj2 => ?_⟩
        by_cases ej : j = i
        · rw [ej]; exact hg
        · exact hj j (by omega)
      | false =>
        obtain ⟨z3, its3, k3, rv3, e3⟩ := I2.hok a _ ha
        obtain ⟨z4, its4, k4, rv4, e4⟩ := I2.hok b _ hb
        have ln3 := rv3.length
        have ln4 := rv4.length
        rw [List.length_map] at ln3 ln4
        exact .inr ⟨rfl, ⟨I2, i, k1, hg⟩, its3.toArray, its4.toArray, k3, k4, e3, e4, by rw [List.size_toArray]; omega, by rw [List.size_toArray]; omega⟩
    · have e : (List.range xs.length).all g = true := List.all_eq_true.mpr fun j hj2 => hj j (List.mem_range.mp hj2)
      rw [e] at q
      exact ⟨.bl true, H, I1, rfl, q⟩
    · have e : (List.range xs.length).all g = false := by
        rw [List.all_eq_false]
        exact ⟨j, List.mem_range.mpr h1, by rw [h2]; simp⟩
      rw [e] at q
      exact ⟨.bl false, H, I1, rfl, q⟩
end
/-- C() -/
theorem pe_makeR0 {X : Cx} {CX : CXT} {k : Nat} {f C : Addr} {sp : Sp} {E : XK} {x : Str} {p pos : Pos} (M : Mk X.K C f) (F : FnR X.prog X.w X.K X.mg X.base CX k f sp) (hr : Room (k + 1) X.A) (hg : Gl X x) (hm : X.mg x = some (.ref C)) (hx : Passes CX X E) (hd : (x == ("__debug__" : Str)) = false := by decide) :
    PE X (.Call (.Name x p) [] [] pos) (StX.tMakeR C sp E tNil) := by
  refine ⟨fun pins s σ H Q I h => wpAny_Call_Name_kw (ld_glob I hg hm ?_ hd)⟩
  exact PySem.W.callWith_K0 I.kIn M.kp (StX.run_makeR (us := []) M F hr hx I .nil h)
theorem opR_or {X : Cx} {o : Value → Value → Sem Value} {r1 r2 : R2} (h1 : OpR X o r1) (h2 : OpR X o r2) : OpR X o (fun x y H Q => r1 x y H Q ∨ r2 x y H Q) := by
  intro pins s σ H x y v u Q I rx ry h
  rcases h with h | h
  · exact h1 pins s σ H x y v u Q I rx ry h
  · exact h2 pins s σ H x y v u Q I rx ry h
end Hue

set_option Elab.async false
set_option linter.all false
set_option maxRecDepth 100000
set_option maxHeartbeats 4000000
/-! enumerate(o), o with an own __iter__ that gives a list's iterator -/
namespace Hue
open PySem PySem.Spec PyProof.Rows L2 ItX
theorem meets_enumI {prog : Program} {w : World} {v : Value} : MeetsIn prog w (Builtin.«enumerate.__new__» ⟨[.type "enumerate", v], []⟩) (fun A R s => wpAny (model prog w) A.in1 (pyIter v) (fun u s1 => ∃ it, u = .ref it ∧
      R (.ok (.ret (.ref s1.heap.objs.size))) { s1 with heap := s1.heap.push { cls := .type "enumerate", data := .fields #[.none, .bool false, .ref it, rawInt 0, .none, .none] } }) (fun e s' => R (.error e) s') s) :=
  .of_wp fun A R s h => by
    obtain ⟨hp, g, d, tk, os⟩ := s
    have hsub := sub_enumerate
    have q1 : ∀ {Q : Value → Shared → Prop}, (∀ it s1, R (.ok (.ret (.ref s1.heap.objs.size))) { s1 with heap := s1.heap.push { cls := .type "enumerate", data := .fields #[.none, .bool false, .ref it, rawInt 0, .none, .none] } } → Q (.ref it) s1) →
        wpAny (model prog w) A.in1 (pyIter v) Q (fun e s' => R (.error e) s') ⟨hp, g, d, tk, os⟩ := fun k => wpAny_mono h (fun u s1 ⟨it, e, r⟩ => e ▸ k it s1 r) fun _ _ z => z
    wp_walk
    refine wpAny_stack_any fun st => wpAny_pure ?_
    split
    · rename_i c _ _ _ _ _
      cases (c == Value.type "enumerate")
      · wp_walk using q1
        intro it s1 r
        wp_walk
        exact ⟨_, rfl, r⟩
      · wp_walk using q1
        intro it s1 r
        wp_walk
        exact ⟨_, rfl, r⟩
    · wp_walk using q1
      intro it s1 r
      wp_walk
      exact ⟨_, rfl, r⟩
section
variable {X : Cx} {k : Nat} {C f : Addr} {D : Addr → Addr → Hp → Prop}
/-- for i, x in enumerate(o) -/
def iEnumO (K : PySem.W.Frag) (C : Addr) (D : Addr → Addr → Hp → Prop) (ta : TA) : TI := fun σ H R => ta σ H fun vs H1 => ∃ a dx fs l, vs = [.ref a] ∧ H1 a = some (.ins C dx fs) ∧ D a l H1 ∧ R (Ite K l) H1
theorem pi_enumO {e : Expr} {ta : TA} {p pos tpos : Pos} {elts : List Expr} {kk : Nat} (hg : Gl X "enumerate") (hm : X.mg "enumerate" = none) (o : OwnIt X.K C f) (FI : FnI X.prog X.w X.K X.mg X.base k f D) (hr : Room (k + 2) X.A) (ha : PA X [e] ta)
    (hs : starEach [e] X.env = [(false, eval e X.env)] := by rfl) : PI X (.Tuple elts kk tpos) (.Call (.Name "enumerate" p) [e] [] pos) (iEnumO X.K C D ta) := by
  refine ⟨fun pins s σ H R I h => ?_⟩
  refine Call_ (ld_blt I hg hm boot_enumerate (PyProof.Rows.callWith_type1 (thn (ha.run pos pins s σ H _ I h) fun us s1 ⟨vs, H1, I1, r1, q1⟩ => ?_) hs rfl))
  obtain ⟨a, dx, fs, l, ev, hi, hD, q⟩ := q1
  subst ev
  obtain ⟨u, rfl, ru⟩ := r1.one
  cases ru
  obtain ⟨mA, O, _⟩ := ins_get I1.hok hi
  obtain ⟨od, J, _⟩ := O.look
  obtain ⟨m0, Fm⟩ := I1.fr
  have sb : Sub X k X.A.in1.in1 := Sub.in1 (Sub.in1 (⟨hr, rfl⟩ : Sub X (k + 2) X.A))
  refine callType_newIn F.called_enumerate (by decide) (F.typeCall_enumerate_1 _) (F.newCall_enumerate_1 _) (fun obj => F.args_object_init_2 obj _) F.entry_enumerate_new meets_enumI ?_
  refine PySem.W.owit_iter Fm I1.ok.mod.kin J o.at_ o.fn (wpAny_mono (run_iter (Q := fun v H2 => ∃ it, v = .ref it ∧ H1 it = none ∧ X.s_0.heap.objs.size ≤ it ∧ H2 = upd H1 it (ItO l it 0)) FI sb I1 hD fun it hn hs => ⟨it, rfl, hn, Nat.le_trans I1.sz hs, rfl⟩) (fun w' s2 hq => ?_) fun e s' he => he)
  obtain ⟨z, H2, I2, rz, it, rfl, hn, young, eH⟩ := hq
  obtain rfl : w' = Value.ref it := rz
  subst eH
  have h2 : upd H1 it (ItO l it 0) it = some (ItO l it 0) := upd_same
  have eo := itO_get I2 h2
  have I3 := inv_drop I2 (φ := fun h => h.get? it = some (GNX.itObj l 0)) h2
  have fp := inv_fp I2 h2 young
  rw [dropH_upd hn] at I3 fp
  refine owit_list eo ⟨it, rfl, ?_⟩
  have hlt : it < s2.heap.objs.size := Heap.lt_size eo
  have he : IsEnum (s2.heap.push { cls := .type "enumerate", data := .fields #[.none, .bool false, .ref it, rawInt 0, .none, .none] }) s2.heap.objs.size it 0 .none := Heap.get?_push_size _ rfl
  have hit : (s2.heap.push { cls := .type "enumerate", data := .fields #[.none, .bool false, .ref it, rawInt 0, .none, .none] }).IsListIter it l 0 := ⟨_, Heap.get?_push_of_some _ eo, rfl, rfl⟩
  refine ⟨⟨_, he, rfl⟩, wpAny_pyIter_enum he ?_⟩
  have I4 : Inv X pins σ H1 { s2 with heap := s2.heap.push { cls := .type "enumerate", data := .fields #[.none, .bool false, .ref it, rawInt 0, .none, .none] } } := I3.kept (t' := s2.toks) fun b ob e => Heap.get?_push_of_some _ e
  refine ⟨s2.heap.objs.size, [s2.heap.objs.size, it], _, _, H1, rfl, I4, turn_enum l s2.heap.objs.size it, ⟨⟨.none, he⟩, hit, Nat.ne_of_gt hlt⟩, fun b hb => ?_, q⟩
  have e' : b = s2.heap.objs.size ∨ b = it := by simpa using hb
  rcases e' with z | z
  · rw [z]
    exact I3.fpOk (Nat.le_refl _) (I3.hok.fresh (Nat.le_refl _))
  · rw [z]
    exact fp
end
end Hue

set_option Elab.async false
set_option linter.all false
set_option maxRecDepth 100000
set_option maxHeartbeats 1000000
/-! a method's call in a try body: what it lets out is wished of the slots as they are; errors with two fields -/
namespace Hue
open PySem PySem.Spec PyProof.Rows L2
def tMethS (C : Addr) (m : Str) (sp : Sp) (W : WX) (ta : TE) (t : TA) : TE := fun σ H Q => tMeth C m sp [] (eS W σ) ta t σ H Q
section
variable {X : Cx} {k : Nat} {C f : Addr} {m : Str} {sp : Sp} {W : WX} {o e : Expr} {es : List Expr} {apos pos : Pos} {ta : TE} {t : TA}
theorem pe_methS {pl : Sem Bool} (he : PE X o ta) (c : Cls X.K C) (hm : Meth X.K C m f) (F : FnR X.prog X.w X.K X.mg X.base (L2.CX X.prog X.w) k f sp) (hr : Room k X.A) (tk : Takes X W) (ha : PA X (e :: es) t)
    (hst : starEach (e :: es) X.env = (false, eval e X.env) :: starEach es X.env := by rfl) (hpl : (backTo pos (starEach es X.env)).any (·.1) = false := by rfl)
    (ht : eval (.Call (.Attribute o m apos) (e :: es) [] pos) X.env = (do
      let ov ← eval o X.env
      standAt apos.atName
      let (f, first) ← holding [ov] (getMethod ov m pl)
      callWith pos f first (backTo pos (starEach (e :: es) X.env)) (backToKw pos (keywordEach [] X.env))) := by rfl) :
    PE X (.Call (.Attribute o m apos) (e :: es) [] pos) (tMethS C m sp W ta t) := by
  refine ⟨fun pins s σ H Q I h => ?_⟩
  refine PySem.W.methodCall_KW (pl := pl) (thn (he.run pins s σ H _ I h) fun u s1 ⟨x, H1, I1, rx, a, dx, fs, ex, ea, l, q⟩ => ?_) ht
  subst ex
  obtain rfl : u = Value.ref a := rx
  refine getmeth_ok I1 ea c hm l ?_
  refine PySem.W.callWith_K (first := [.ref a]) (h₀ := X.base) I.ok.mod.kin hm.kp (thn (ha.run pos pins s1 σ H1 _ I1 q) fun us s2 ⟨vs, H2, I2, r, q2⟩ => ⟨I2.kIn, ?_⟩) hst hpl
  have q3 : sp (V.ref a :: (vs ++ [])) H2 Q (eS W σ) := q2
  rw [List.append_nil] at q3
  exact wpAny_call (run_fnRp (Q := Q) (us := .ref a :: us) (vs := .ref a :: vs) F hr (passS tk I2) I2 (.cons rfl r) q3)
theorem pe_methSK {K : PySem.W.Frag} (e0 : X.K = K) {pl : Sem Bool} (he : PE X o ta) (c : Cls K C) (hm : Meth K C m f) (F : FnR X.prog X.w K X.mg X.base (L2.CX X.prog X.w) k f sp) (hr : Room k X.A) (tk : Takes X W) (ha : PA X (e :: es) t)
    (hst : starEach (e :: es) X.env = (false, eval e X.env) :: starEach es X.env := by rfl) (hpl : (backTo pos (starEach es X.env)).any (·.1) = false := by rfl)
    (ht : eval (.Call (.Attribute o m apos) (e :: es) [] pos) X.env = (do
      let ov ← eval o X.env
      standAt apos.atName
      let (f, first) ← holding [ov] (getMethod ov m pl)
      callWith pos f first (backTo pos (starEach (e :: es) X.env)) (backToKw pos (keywordEach [] X.env))) := by rfl) :
    PE X (.Call (.Attribute o m apos) (e :: es) [] pos) (tMethS C m sp W ta t) := by
  subst e0
  exact pe_methS (pl := pl) he c hm F hr tk ha hst hpl ht
end
section
variable {X : Cx} {D : Addr} {K : PySem.W.Frag}
theorem call_isDK (e0 : X.K = K) (C : ExcC K D) : CallR X (.builtin "isinstance") (rIsD K D) := by
  subst e0
  exact call_isD C
theorem pe_xvK (e0 : X.K = K) {e : Expr} {te : TE} {pos : Pos} {n : Str} (C : ExcC K D) (hno : PySem.W.findIn K (.ref D) n = some none) (he : PE X e te) (hb : attributeBase e n X.env (eval e X.env) = eval e X.env := by rfl) : PE X (.Attribute e n pos) (tXv D n te) := by
  subst e0
  exact pe_xv C hno he hb
end
/-- an error's __init__ that keeps two fields -/
def spEx2 (K : PySem.W.Frag) (C : Addr) (n m : Str) : Sp := fun vs H Q _ => ∃ (a : Addr) (v u : V), vs = [.ref a, v, u] ∧ H a = some (exo a C none) ∧ ∀ dx, H dx = none → dx ≠ a → Q .non (upd (upd H dx (exd dx [(m, u), (n, v)])) a (exo a C (some dx)))
theorem mkO2 {K : PySem.W.Frag} {C : Addr} {n m : Str} {v u : V} {H : Hp} {E : XK} (k : ∀ dd H', H dd = none → Same H H' → H' dd = some (.xd [(m, u), (n, v)]) → E (.ref C) (some dd) H') :
    [v, u].length ≤ 1000 ∧ ∀ a, H a = none → spEx2 K C n m (.ref a :: ([v, u] ++ [])) (upd H a (exo a C none))
      (fun w H2 => w = .non ∧ ∃ (d : Addr) (fs : List (Str × V)), H2 a = some (exo a C (some d)) ∧ H2 d = some (exd d fs) ∧ H d = none ∧ E (.ref C) (some d) (upd (L2.del H2 a) d (.xd fs))) (fun _ _ _ => False) := by
  refine ⟨(by decide : 2 ≤ 1000), fun a na => ⟨a, v, u, rfl, upd_same, fun dx nd ne => ⟨rfl, dx, [(m, u), (n, v)], upd_same, ?_, ?_, ?_⟩⟩⟩
  · rw [upd_ne ne, upd_same]
  · rw [upd_ne ne] at nd; exact nd
  · have nd' : H dx = none := by rw [upd_ne ne] at nd; exact nd
    refine k dx _ nd' (fun b o e => ?_) upd_same
    have b1 : b ≠ a := ne_of_none e na
    have b2 : b ≠ dx := ne_of_none e nd'
    rw [upd_ne b2, L2.del_ne b1, upd_ne b1, upd_ne b2, upd_ne b1]
    exact e
theorem upd_swap {H : Hp} {a dx : Addr} {o o' u : HO} (ne : dx ≠ a) : upd (upd (upd H dx o) a u) dx o' = upd (upd H dx o') a u := by
  funext b
  by_cases h1 : b = dx
  · rw [h1, upd_same, upd_ne ne, upd_same]
  · by_cases h2 : b = a
    · rw [h2, upd_ne (Ne.symm ne), upd_same, upd_same]
    · rw [upd_ne h1, upd_ne h2, upd_ne h1, upd_ne h2, upd_ne h1]
/-! ### the addresses that the head looks at, found by a mask (eraseDups costs the kernel N * N) -/
def bitIn (m a : Nat) : Bool := Nat.beq (Nat.land (Nat.shiftRight m a) 1) 1
/-- the new ones of as, ahead of what was found -/
def newM : List Addr → Nat → List Addr → Nat × List Addr
  | [], m, f => (m, f)
  | a :: r, m, f => match bitIn m a with
    | true => newM r m f
    | false => newM r (Nat.lor m (Nat.shiftLeft 1 a)) (a :: f)
def outM (g : Addr → Option Obj) : List Addr → Nat → List Addr → Nat × List Addr
  | [], m, f => (m, f)
  | a :: r, m, f => match g a with
    | some o => match newM (He.refsD o) m f with
      | (m', f') => outM g r m' f'
    | none => outM g r m f
def walkM (g : Addr → Option Obj) : Nat → Nat → List Addr → List Addr → List Addr
  | 0, _, _, all => all
  | n + 1, m, fr, all => match outM g fr m [] with
    | (m', f') => walkM g n m' f' (all ++ f')
def asM (g : Addr → Option Obj) (n : Nat) : List Addr := walkM g n (Nat.shiftLeft 1 mainGlobals) [mainGlobals] [mainGlobals]
def obsMG (n : Nat) (fa : List He.Fa) (fx : List Fx) (ds : List DX) (g : Addr → Option Obj) : AlX := obsX fa fx ds (He.frG g (cStatics :: asM g n))
def hookM (n : Nat) (fa : List He.Fa) (fx : List Fx) (ds : List DX) : PySem.W.Hook where
  α := AlX
  obs := fun s => obsMG n fa fx ds s.heap.get?
  val := fun _ => valX ds
  says := fun _ h => ∃ K : PySem.W.Frag, K.In h ∧ SaysX fa fx ds K
  of := fun _ _ e => ⟨_, He.frG_in, e⟩
  keeps := fun _ _ _ ⟨K, hK, c⟩ k => ⟨K, PySem.W.Frag.In.keeps hK k, c⟩
theorem obsMG_eq {n : Nat} {fa : List He.Fa} {fx : List Fx} {ds : List DX} {g : Addr → Option Obj} {s : Shared} (h : ∀ a, g a = s.heap.get? a) : obsMG n fa fx ds g = (hookM n fa fx ds).obs s := by
  cases (funext h : g = s.heap.get?)
  rfl
end Hue

set_option Elab.async false
set_option linter.all false
set_option maxRecDepth 100000
set_option maxHeartbeats 1000000
/-! cls(e, k = v, ..) where a slot holds the class; text.replace(pair[0], pair[1]) where pair goes through a written list of pairs -/
namespace Hue
open PySem PySem.Spec PyProof.Rows L2
def tMakeLK (i : Nat) (C : Addr) (n m : Nat) (sp : Sp) (gV : List V → List V → List V) (E : XK) (t tk : TA) : TE := fun σ H Q => σ[i]? = some (some (.ref C)) ∧ tMakeK C n m sp gV E t tk σ H Q
theorem pe_makeLpK {X : Cx} {CX : CXT} {k n i : Nat} {f C : Addr} {fd : FuncData} {ps ks : List Str} {sp : Sp} {E : XK} {x : Str} {p pos : Pos} {e : Expr} {es : List Expr} {kws : List Keyword} {t tk : TA} {g : List Value → List Value → List Value} {gV : List V → List V → List V}
    (M : Mk X.K C f) (F : FnOk X.prog X.w X.K X.mg X.base CX k f fd ps sp) (hr : Room (k + 1) X.A) (hN : X.N[i]? = some x) (hv : Vis X.env.scope x) (hb : KBn X.K fd ps (n + 1) ks g gV) (hx : Passes CX X E) (ha : PA X (e :: es) t) (hkw : PK X kws tk)
    (hall : (backToKw pos (keywordEach kws X.env)).all (·.1.isSome) = true := by rfl) (hks : (backToKw pos (keywordEach kws X.env)).filterMap (·.1) = ks := by rfl) (hd : (x == ("__debug__" : Str)) = false := by decide) (hcd : (x == ("__classdict__" : Str)) = false := by decide)
    (he : starEach (e :: es) X.env = (false, eval e X.env) :: starEach es X.env := by rfl) (hpl : ((backTo pos (starEach (e :: es) X.env)).any (·.1) || (backToKw pos (keywordEach kws X.env)).any (·.1.isNone)) = false := by rfl) :
    PE X (.Call (.Name x p) (e :: es) kws pos) (tMakeLK i C n ks.length sp gV E t tk) := by
  refine ⟨fun pins s σ H Q I h => ?_⟩
  obtain ⟨hs, h⟩ := h
  refine wpAny_Call_Name_kw (thn ((pe_var (pos := p) (i := i) hN hv hd hcd).run pins s σ H (fun v H1 => v = .ref C ∧ H1 = H) I ⟨.ref C, hs, rfl, rfl⟩) fun u s1 ⟨v, H1, I1, r1, ev, eH⟩ => ?_)
  subst ev
  rw [eH] at I1
  cases r1
  refine PySem.W.callWith_KW (h₀ := X.base) I1.ok.mod.kin M.kp hall (thn (ha.run pos pins s1 σ H _ I1 h) fun us s2 ⟨vs, H2, I2, r, q⟩ => ?_) hpl he
  refine thn (hkw.run pos pins s2 σ H2 _ I2 q) fun ws s3 ⟨zs, H3, I3, rz, l1, l2, q2⟩ => ⟨I3.kIn, ?_⟩
  rw [hks]
  exact run_makeK M F hr hb hx I3 r rz l1 l2 q2
/-! ### a token is out -/
/-- as PE, and behind it a token is out -/
def PEt (X : Cx) (e : Expr) (t : TE) : Prop :=
  ∀ (pins : List (Addr × Obj)) (s : Shared) (σ : L2.St) (H : Hp) (Q : VK), Inv X pins σ H s → t σ H Q → wpAny (model X.prog X.w) X.A (eval e X.env) (fun u s' => 1 ≤ s'.toks ∧ EP X pins σ Q u s') X.xe s
section
variable {X : Cx}
theorem pet_str {x : Str} {j : Nat} {pos : Pos} : PEt X (.Constant (.str x) j pos) (tC (.str x)) := by
  intro pins s σ H Q I h
  exact Calls.Constant_str ⟨Nat.le_add_left _ _, .str x, H, I.tok (s.toks + 1), ⟨s.toks, rfl⟩, h⟩
theorem toks_keep {α : Type} {M : Model} {A : Around} {t : Sem α} {Q : α → Shared → Prop} {E : Value → Shared → Prop} {s : Shared} (h1 : 1 ≤ s.toks) (h : wpAny M A t Q E s) : wpAny M A t (fun a s' => 1 ≤ s'.toks ∧ Q a s') E s :=
  wpAny_mono (PySem.wpAny_toks h) (fun a s' q => ⟨Nat.le_trans h1 q.1, q.2⟩) fun _ _ q => q.2
theorem pet_opr {op : Operator} {a b : Expr} {ta tb : TE} {pos : Pos} {r : R2} (ho : OpR X (binaryOp op) r) (ha : PE X a ta) (hb : PEt X b tb) : PEt X (.BinOp a op b pos) (tOp r ta tb) := by
  intro pins s σ H Q I h
  refine wpAny_BinOp (thn (ha.run pins s σ H _ I h) fun v s1 ⟨x, H1, I1, r1, q1⟩ => ?_)
  refine thn (hb pins s1 σ H1 _ I1 q1) fun u s2 ⟨h2, y, H2, I2, r2, q2⟩ => ?_
  exact toks_keep h2 (ho pins s2 σ H2 x y v u Q I2 r1 r2 q2)
theorem pet_opl {op : Operator} {a b : Expr} {ta tb : TE} {pos : Pos} {r : R2} (ho : OpR X (binaryOp op) r) (ha : PEt X a ta) (hb : PE X b tb) : PEt X (.BinOp a op b pos) (tOp r ta tb) := by
  intro pins s σ H Q I h
  refine wpAny_BinOp (thn (ha pins s σ H _ I h) fun v s1 ⟨h1, x, H1, I1, r1, q1⟩ => ?_)
  refine thn (toks_keep h1 (hb.run pins s1 σ H1 _ I1 q1)) fun u s2 ⟨h2, y, H2, I2, r2, q2⟩ => ?_
  exact toks_keep h2 (ho pins s2 σ H2 x y v u Q I2 r1 r2 q2)
/-- x = e, a token out behind it; then what wants one -/
theorem pss_tok {i : Nat} {x : Str} {e : Expr} {te : TE} {pos' pos : Pos} {rest : List Stmt} {u : TS} (hN : X.N.Nodup) (hi : X.N[i]? = some x) (hx : Loc X.env.scope x) (he : PEt X e te) (h2 : PSsT X rest u)
    (hs : swapsWith e (some (.Name x pos')) pos.line X.env = pure false := by rfl) (hf : X.fn x = true ∨ X.env.scope.names.lookup x = some .local := by first | exact .inl rfl | exact .inr rfl | assumption) :
    PSs X (.Assign [.Name x pos'] e pos :: rest) (tSeq (tAsg te (gName i)) u) := by
  refine ⟨fun pins s σ H D I h => ?_⟩
  refine wpAny_execs_cons (wpAny_Assign_Name (thn (he pins s σ H _ I h) fun v s1 ⟨h1, y, H1, I1, r1, q1⟩ => ?_) hs)
  refine wpAny_mono (toks_keep h1 (store_ok (Q := fun _ s2 => Inv X pins (σ.set i (some y)) H1 s2) I1 hN hi hx r1 (fun _ I2 => I2) hf)) (fun _ s2 q => ?_) fun _ _ z => z
  exact h2 pins s2 _ H1 D q.1 q.2 q1
/-! ### pairs of written texts -/
/-- a tuple of two texts, its object known -/
def RawT (H : Hp) (a : Addr) (y z : Str) : Prop :=
  ∃ (o : Obj) (t u : Tok) (n : Nat), H a = some (.frz o (.tup [.str y, .str z])) ∧ o.cls = .type "tuple" ∧ o.data = .seq #[.str y t, .str z u] n ∧ t ≠ 0 ∧ u ≠ 0 ∧ t ≠ u
def tPairT (y z : Str) : TE := fun _ H Q => ∀ (a : Addr) (H' : Hp), H a = none → (∀ b, b ≠ a → H' b = H b) → RawT H' a y z → Q (.ref a) H'
theorem pet_pairT {y z : Str} {j0 j1 : Nat} {c0 c1 pos : Pos} {x1 : Nat} : PET X (.Tuple [.Constant (.str y) j0 c0, .Constant (.str z) j1 c1] x1 pos) (tPairT y z) := by
  intro pins s σ H Q h0 I h
  refine wpAny_Tuple_spliced ?_
  show wpAny _ _ (spliced ((false, eval (.Constant (.str y) j0 c0) X.env) :: backTo pos (starEach [.Constant (.str z) j1 c1] X.env))) _ _ s
  refine Calls.spliced_cons (Calls.Constant_str ?_)
  show wpAny _ _ (spliced ((false, eval (.Constant (.str z) j1 c1) X.env) :: backTo pos (starEach [] X.env))) _ _ _
  refine Calls.spliced_cons (Calls.Constant_str (Calls.spliced_nil ?_))
  have h2 : (2 : Nat) ≤ sizeLine := by decide
  have fr : H s.heap.objs.size = none := I.hok.fresh (Nat.le_refl _)
  refine ⟨h2, .ref s.heap.objs.size, upd H s.heap.objs.size (.frz { cls := .type "tuple", data := .seq #[.str y s.toks, .str z (s.toks + 1)] } (.tup [.str y, .str z])), ?_, rfl, ?_⟩
  · exact I.laid (t' := s.toks + 1 + 1) (fun b u e => Heap.get?_push_of_some _ e) (Nat.le_refl _) ⟨Heap.get?_push_size _ rfl, h2, [.str y s.toks, .str z (s.toks + 1)], .cons ⟨_, rfl⟩ (.cons ⟨_, rfl⟩ .nil), ⟨_, Heap.get?_push_size _ rfl, rfl, _, rfl⟩⟩
  · exact h _ _ fr (fun b hb => upd_ne hb) ⟨_, s.toks, s.toks + 1, _, upd_same, rfl, rfl, (show s.toks ≠ 0 by omega), (show s.toks + 1 ≠ 0 by omega), (show s.toks ≠ s.toks + 1 by omega)⟩
theorem raw_ixT {pins : List (Addr × Obj)} {σ : L2.St} {H : Hp} {s : Shared} {i : Nat} {x : Str} {a : Addr} {its : Array Value} {k : Nat} {j : Nat} {w : Value} {p1 cp pos : Pos} {Q E : Value → Shared → Prop} (hN : X.N[i]? = some x) (hv : Vis X.env.scope x) (I : Inv X pins σ H s)
    (hσ : σ[i]? = some (some (.ref a))) (hl : IsTup s.heap a its) (hk : k < 2 ^ 62) (hx : its[k]? = some w) (fin : ∀ tk, Q w { s with toks := tk }) (hs : PlainIx (.Constant (.int (k : Int)) j cp))
    (hd : (x == ("__debug__" : Str)) = false := by decide) (hcd : (x == ("__classdict__" : Str)) = false := by decide) :
    wpAny (model X.prog X.w) X.A (eval (.Subscript (.Name x p1) (.Constant (.int (k : Int)) j cp) pos) X.env) Q E s := by
  refine Subscript_ (raw_name hN hv I hσ (fun v r => ?_) hd hcd)
  obtain rfl : v = Value.ref a := r
  refine wpAny_Constant_int ?_
  have hl2 : IsTup ({ s with toks := s.toks + 1 } : Shared).heap a its := hl
  have hj : seqIndex? (k : Int) its.size = some k := by
    have := (Array.getElem?_eq_some_iff.mp hx).1
    unfold seqIndex?
    simp
    omega
  exact subscriptTail_builtinR (s := { s with toks := s.toks + 1 }) (x := w) hl2.typeIs slot_tuple_getitem.lookup
    (getItem_tuple (j := k) (Q := fun r s' => r = w ∧ Q r s') hl2 (by omega) (by omega) hj hx ⟨rfl, fin _⟩) (hs _ _)
def tRepT (ik ip : Nat) : TE := fun σ H Q => ∃ x a y z, σ[ik]? = some (some (.str x)) ∧ σ[ip]? = some (some (.ref a)) ∧ RawT H a y z ∧ (y == z) = false ∧ x.length + (x.length + 1) * z.length ≤ 16777216 ∧ Q (.str (Txt.replace x y z)) H
theorem pe_replT {ik ip : Nat} {kx px : Str} {j0 j1 : Nat} {p1 p2 p3 c0 c1 q0 q1 apos pos : Pos} (hNk : X.N[ik]? = some kx) (hvk : Vis X.env.scope kx) (hNp : X.N[ip]? = some px) (hvp : Vis X.env.scope px)
    (hdk : (kx == ("__debug__" : Str)) = false := by decide) (hck : (kx == ("__classdict__" : Str)) = false := by decide) (hdp : (px == ("__debug__" : Str)) = false := by decide) (hcp : (px == ("__classdict__" : Str)) = false := by decide)
    (hst : starEach [.Subscript (.Name px p2) (.Constant (.int 0) j0 c0) q0, .Subscript (.Name px p3) (.Constant (.int 1) j1 c1) q1] X.env =
      [(false, eval (.Subscript (.Name px p2) (.Constant (.int 0) j0 c0) q0) X.env), (false, eval (.Subscript (.Name px p3) (.Constant (.int 1) j1 c1) q1) X.env)] := by rfl)
    (hbase : attributeBase (.Name kx p1) "replace" X.env (eval (.Name kx p1) X.env) = eval (.Name kx p1) X.env := by rfl) (hline : (apos.endLine == pos.line) = true := by rfl) :
    PE X (.Call (.Attribute (.Name kx p1) "replace" apos) [.Subscript (.Name px p2) (.Constant (.int 0) j0 c0) q0, .Subscript (.Name px p3) (.Constant (.int 1) j1 c1) q1] [] pos) (tRepT ik ip) := by
  refine ⟨fun pins s σ H Q I h => ?_⟩
  obtain ⟨x, a, y, z, hx, hp, ⟨o, t, u, n, ha, hc, hd, ht, hu, htu⟩, hyz, hb, q⟩ := h
  have hl : IsTup s.heap a #[.str y t, .str z u] := ⟨o, (I.hok a _ ha).1, hc, n, hd⟩
  refine PySem.Call_method2 hbase hst hline (raw_name hNk hvk I hx (fun v r => ?_) hdk hck)
  obtain ⟨tx, rfl⟩ := r
  refine ⟨"str", _, PySem.F.plainAttrs_str, PySem.F.slot_str_replace, PySem.F.type_str_replace, typeIs_str _ _ _, (fun _ e => nomatch e), Calls.callWith_builtin rfl (Calls.evalArgs_plain (Calls.spliced_cons ?_))⟩
  refine raw_ixT (k := 0) hNp hvp I hp hl (by omega) rfl (fun k1 => ?_) (fun _ _ => rfl) hdp hcp
  refine Calls.spliced_cons (raw_ixT (k := 1) hNp hvp (I.tok k1) hp hl (by omega) rfl (fun k2 => ?_) (fun _ _ => rfl) hdp hcp)
  refine Calls.spliced_nil ?_
  exact PySem.SC.replace ht hu htu hyz hb fun t' k => ⟨.str (Txt.replace x y z), H, I.tok k, ⟨t', rfl⟩, q⟩
end
/-! ### C.m(e, ..) of a classmethod in a try body, what is raised wished of the slots as they are -/
def tCMethS (C : Addr) (sp : Sp) (W : WX) (ta : TE) (t : TA) : TE := fun σ H Q => ta σ H fun x H1 => x = .ref C ∧ t σ H1 fun vs H2 => sp (.ref C :: vs) H2 Q (eS W σ)
section
variable {X : Cx} {k : Nat} {C p g : Addr} {mc : Value} {sp : Sp} {W : WX} {o e : Expr} {es : List Expr} {m : Str} {pos apos : Pos} {ta : TE} {t : TA}
theorem pe_cmethSK {K : PySem.W.Frag} (e0 : X.K = K) {pl : Sem Bool} (he : PE X o ta) (r : ClX.CRead K C mc) (c : ClX.CMet K C mc m p g) (F : FnR X.prog X.w K X.mg X.base (L2.CX X.prog X.w) k g sp) (hr : Room k X.A) (tk : Takes X W) (ha : PA X (e :: es) t)
    (hst : starEach (e :: es) X.env = (false, eval e X.env) :: starEach es X.env := by rfl) (hpl : (backTo pos (starEach es X.env)).any (·.1) = false := by rfl)
    (ht : eval (.Call (.Attribute o m apos) (e :: es) [] pos) X.env = (do
      let ov ← eval o X.env
      standAt apos.atName
      let (f, first) ← holding [ov] (getMethod ov m pl)
      callWith pos f first (backTo pos (starEach (e :: es) X.env)) (backToKw pos (keywordEach [] X.env))) := by rfl) :
    PE X (.Call (.Attribute o m apos) (e :: es) [] pos) (tCMethS C sp W ta t) := by
  subst e0
  refine ⟨fun pins s σ H Q I h => ?_⟩
  refine PySem.W.methodCall_KW (pl := pl) (thn (he.run pins s σ H _ I h) fun u s1 ⟨x, H1, I1, rx, ex, q⟩ => ?_) ht
  subst ex
  obtain rfl : u = Value.ref C := rx
  refine ClX.getmethcm_ok I1 r c fun s2 I2 => ?_
  refine ClX.callwith_cm I2 (ClX.base_none I1 (Nat.le_refl _)) c.fi (thn (ha.run pos _ s2 σ H1 _ I2 q) fun us s3 ⟨vs, H2, I3, rv, q2⟩ => ⟨⟨ClX.pin_at I3, I3.kIn⟩, ?_⟩) hst hpl
  have z := wpAny_call (PySem.W.method_call (ClX.pin_at I3) (run_fnRp (Q := Q) (us := .ref C :: us) (vs := .ref C :: vs) F hr (passS tk I3) I3 (.cons rfl rv) q2))
  exact thn z fun _ _ y => ClX.unpinE y
end
end Hue

set_option Elab.async false
set_option linter.all false
set_option maxRecDepth 100000
set_option maxHeartbeats 1000000
namespace Hue
open PySem PySem.Spec PyProof.Rows L2
def top (i : Nat) : Stmt := PySem.Challenge.pw_huerounds_k11_book_text.main.body.getD i (.Pass ⟨0, 0, 0, 0⟩)
def pFile : Str := PySem.Challenge.pw_huerounds_k11_book_text.main.file
instance : SupP PySem.Challenge.pw_huerounds_k11_book_text pFile := ⟨by decide +kernel, by decide +kernel⟩


abbrev s_l_pool : Stmt := top 19
abbrev N_l_pool : List Str := ["_law_script", "_law_pool_here", "_law_mix", "_law_cell", "_law_number", "_law_k", "_law_drawn"]
abbrev P_l_pool : List Str := ["_law_script"]
theorem sc_l_pool : FnScope N_l_pool P_l_pool (defScope s_l_pool) := ⟨rfl, rfl, rfl, by decide +kernel, rfl, by decide +kernel, by decide +kernel⟩
abbrev s_l_take : Stmt := top 20
abbrev N_l_take : List Str := ["_law_pool_here", "_law_many"]
abbrev P_l_take : List Str := ["_law_pool_here", "_law_many"]
theorem sc_l_take : FnScope N_l_take P_l_take (defScope s_l_take) := ⟨rfl, rfl, rfl, by decide +kernel, rfl, by decide +kernel, by decide +kernel⟩
abbrev s_l_is : Stmt := top 17
abbrev N_l_is : List Str := ["_law_x", "_law_due"]
abbrev P_l_is : List Str := ["_law_x", "_law_due"]
theorem sc_l_is : FnScope N_l_is P_l_is (defScope s_l_is) := ⟨rfl, rfl, rfl, by decide +kernel, rfl, by decide +kernel, by decide +kernel⟩
abbrev s_l_int : Stmt := top 18
abbrev N_l_int : List Str := ["_law_x"]
abbrev P_l_int : List Str := ["_law_x"]
theorem sc_l_int : FnScope N_l_int P_l_int (defScope s_l_int) := ⟨rfl, rfl, rfl, by decide +kernel, rfl, by decide +kernel, by decide +kernel⟩
abbrev s_l_raw : Stmt := top 21
abbrev N_l_raw : List Str := ["_law_pool_here", "_law_code", "_law_shown", "_law_keep"]
abbrev P_l_raw : List Str := ["_law_pool_here"]
theorem sc_l_raw : FnScope N_l_raw P_l_raw (defScope s_l_raw) := ⟨rfl, rfl, rfl, by decide +kernel, rfl, by decide +kernel, by decide +kernel⟩
abbrev s_BadPhase_init : Stmt := inClass (top 5) 0
abbrev N_BadPhase_init : List Str := ["self", "field", "__class__"]
abbrev P_BadPhase_init : List Str := ["self", "field"]
theorem sc_BadPhase_init : NdefX.NScope N_BadPhase_init P_BadPhase_init [("__class__" : Str)] (defScope s_BadPhase_init) := NdefX.nscope_by (by decide +kernel)
abbrev s_Phase_init : Stmt := inClass (top 14) 0
abbrev N_Phase_init : List Str := ["self", "hue", "barrier", "visits", "pauses", "stand", "skips"]
abbrev P_Phase_init : List Str := ["self", "hue", "barrier", "visits", "pauses", "stand", "skips"]
theorem sc_Phase_init : FnScope N_Phase_init P_Phase_init (defScope s_Phase_init) := ⟨rfl, rfl, rfl, by decide +kernel, rfl, by decide +kernel, by decide +kernel⟩
abbrev s_Phase_text : Stmt := inClass (top 14) 4
abbrev N_Phase_text : List Str := ["self", "words"]
abbrev P_Phase_text : List Str := ["self"]
theorem sc_Phase_text : FnScope N_Phase_text P_Phase_text (defScope s_Phase_text) := ⟨rfl, rfl, rfl, by decide +kernel, rfl, by decide +kernel, by decide +kernel⟩
abbrev s_Phase_eq : Stmt := inClass (top 14) 7
abbrev N_Phase_eq : List Str := ["self", "other"]
abbrev P_Phase_eq : List Str := ["self", "other"]
theorem sc_Phase_eq : FnScope N_Phase_eq P_Phase_eq (defScope s_Phase_eq) := ⟨rfl, rfl, rfl, by decide +kernel, rfl, by decide +kernel, by decide +kernel⟩
abbrev s_Phase_parse : Stmt := inClass (top 14) 5
abbrev N_Phase_parse : List Str := ["cls", "text", "words", "stand", "hue", "phase"]
abbrev P_Phase_parse : List Str := ["cls", "text"]
theorem sc_Phase_parse : FnScope N_Phase_parse P_Phase_parse (defScope s_Phase_parse) := ⟨rfl, rfl, rfl, by decide +kernel, rfl, by decide +kernel, by decide +kernel⟩
abbrev s_Book_init : Stmt := inClass (top 15) 1
abbrev N_Book_init : List Str := ["self", "phases"]
abbrev P_Book_init : List Str := ["self", "phases"]
theorem sc_Book_init : FnScope N_Book_init P_Book_init (defScope s_Book_init) := ⟨rfl, rfl, rfl, by decide +kernel, rfl, by decide +kernel, by decide +kernel⟩
abbrev s_Book_of : Stmt := inClass (top 15) 16
abbrev N_Book_of : List Str := ["cls", "phases"]
abbrev P_Book_of : List Str := ["cls", "phases"]
theorem sc_Book_of : FnScope N_Book_of P_Book_of (defScope s_Book_of) := ⟨rfl, rfl, rfl, by decide +kernel, rfl, by decide +kernel, by decide +kernel⟩
abbrev s_Book_len : Stmt := inClass (top 15) 2
abbrev N_Book_len : List Str := ["self"]
abbrev P_Book_len : List Str := ["self"]
theorem sc_Book_len : FnScope N_Book_len P_Book_len (defScope s_Book_len) := ⟨rfl, rfl, rfl, by decide +kernel, rfl, by decide +kernel, by decide +kernel⟩
abbrev s_Book_iter : Stmt := inClass (top 15) 3
abbrev N_Book_iter : List Str := ["self"]
abbrev P_Book_iter : List Str := ["self"]
theorem sc_Book_iter : FnScope N_Book_iter P_Book_iter (defScope s_Book_iter) := ⟨rfl, rfl, rfl, by decide +kernel, rfl, by decide +kernel, by decide +kernel⟩
abbrev s_Book_getitem : Stmt := inClass (top 15) 5
abbrev N_Book_getitem : List Str := ["self", "n"]
abbrev P_Book_getitem : List Str := ["self", "n"]
theorem sc_Book_getitem : FnScope N_Book_getitem P_Book_getitem (defScope s_Book_getitem) := ⟨rfl, rfl, rfl, by decide +kernel, rfl, by decide +kernel, by decide +kernel⟩
abbrev s_Book_setitem : Stmt := inClass (top 15) 6
abbrev N_Book_setitem : List Str := ["self", "n", "phase"]
abbrev P_Book_setitem : List Str := ["self", "n", "phase"]
theorem sc_Book_setitem : FnScope N_Book_setitem P_Book_setitem (defScope s_Book_setitem) := ⟨rfl, rfl, rfl, by decide +kernel, rfl, by decide +kernel, by decide +kernel⟩
abbrev s_Book_eq : Stmt := inClass (top 15) 4
abbrev N_Book_eq : List Str := ["self", "other"]
abbrev P_Book_eq : List Str := ["self", "other"]
theorem sc_Book_eq : FnScope N_Book_eq P_Book_eq (defScope s_Book_eq) := ⟨rfl, rfl, rfl, by decide +kernel, rfl, by decide +kernel, by decide +kernel⟩
abbrev s_Book_text : Stmt := inClass (top 15) 14
abbrev N_Book_text : List Str := ["self", "phase"]
abbrev P_Book_text : List Str := ["self"]
theorem sc_Book_text : FnScope N_Book_text P_Book_text (defScope s_Book_text) := ⟨rfl, rfl, rfl, by decide +kernel, rfl, by decide +kernel, by decide +kernel⟩
abbrev s_Book_parse : Stmt := inClass (top 15) 15
abbrev N_Book_parse : List Str := ["cls", "text", "lines", "phases", "line"]
abbrev P_Book_parse : List Str := ["cls", "text"]
theorem sc_Book_parse : FnScope N_Book_parse P_Book_parse (defScope s_Book_parse) := ⟨rfl, rfl, rfl, by decide +kernel, rfl, by decide +kernel, by decide +kernel⟩
abbrev s_l_calm : Stmt := top 22
abbrev N_l_calm : List Str := ["_law_row", "_law_k", "_law_two", "_law_good", "_law_shown"]
abbrev P_l_calm : List Str := ["_law_row", "_law_k", "_law_two"]
theorem sc_l_calm : FnScope N_l_calm P_l_calm (defScope s_l_calm) := ⟨rfl, rfl, rfl, by decide +kernel, rfl, by decide +kernel, by decide +kernel⟩
abbrev s_l_rows : Stmt := top 23
abbrev N_l_rows : List Str := ["_law_pool_here", "_law_most", "_law_many", "_law_style", "_law_rows_here", "_law_two", "_law_calm_here", "_law_at", "_law_k"]
abbrev P_l_rows : List Str := ["_law_pool_here", "_law_most"]
theorem sc_l_rows : FnScope N_l_rows P_l_rows (defScope s_l_rows) := ⟨rfl, rfl, rfl, by decide +kernel, rfl, by decide +kernel, by decide +kernel⟩
abbrev s_l_phase : Stmt := top 24
abbrev N_l_phase : List Str := ["_law_row"]
abbrev P_l_phase : List Str := ["_law_row"]
theorem sc_l_phase : FnScope N_l_phase P_l_phase (defScope s_l_phase) := ⟨rfl, rfl, rfl, by decide +kernel, rfl, by decide +kernel, by decide +kernel⟩
abbrev s_l_same_phase : Stmt := top 25
abbrev N_l_same_phase : List Str := ["_law_phase_here", "_law_row"]
abbrev P_l_same_phase : List Str := ["_law_phase_here", "_law_row"]
theorem sc_l_same_phase : FnScope N_l_same_phase P_l_same_phase (defScope s_l_same_phase) := ⟨rfl, rfl, rfl, by decide +kernel, rfl, by decide +kernel, by decide +kernel⟩
abbrev s_l_same_book : Stmt := top 26
abbrev N_l_same_book : List Str := ["_law_book_here", "_law_rows_here", "_law_k"]
abbrev P_l_same_book : List Str := ["_law_book_here", "_law_rows_here"]
theorem sc_l_same_book : FnScope N_l_same_book P_l_same_book (defScope s_l_same_book) := ⟨rfl, rfl, rfl, by decide +kernel, rfl, by decide +kernel, by decide +kernel⟩
abbrev s_l_book : Stmt := top 27
abbrev N_l_book : List Str := ["_law_rows_here", "_law_row"]
abbrev P_l_book : List Str := ["_law_rows_here"]
theorem sc_l_book : FnScope N_l_book P_l_book (defScope s_l_book) := ⟨rfl, rfl, rfl, by decide +kernel, rfl, by decide +kernel, by decide +kernel⟩
abbrev s_l_bad_book : Stmt := top 28
abbrev N_l_bad_book : List Str := ["_law_e"]
abbrev P_l_bad_book : List Str := ["_law_e"]
theorem sc_l_bad_book : FnScope N_l_bad_book P_l_bad_book (defScope s_l_bad_book) := ⟨rfl, rfl, rfl, by decide +kernel, rfl, by decide +kernel, by decide +kernel⟩
abbrev s_l_field : Stmt := top 29
abbrev N_l_field : List Str := ["_law_e"]
abbrev P_l_field : List Str := ["_law_e"]
theorem sc_l_field : FnScope N_l_field P_l_field (defScope s_l_field) := ⟨rfl, rfl, rfl, by decide +kernel, rfl, by decide +kernel, by decide +kernel⟩
abbrev s_l_read : Stmt := top 30
abbrev N_l_read : List Str := ["_law_text_here", "_law_words", "_law_known", "_law_at", "_law_found", "_law_word", "_law_keep", "_law_leave"]
abbrev P_l_read : List Str := ["_law_text_here"]
theorem sc_l_read : FnScope N_l_read P_l_read (defScope s_l_read) := ⟨rfl, rfl, rfl, by decide +kernel, rfl, by decide +kernel, by decide +kernel⟩
abbrev s_l_text : Stmt := top 31
abbrev N_l_text : List Str := ["_law_row", "_law_text_here"]
abbrev P_l_text : List Str := ["_law_row"]
theorem sc_l_text : FnScope N_l_text P_l_text (defScope s_l_text) := ⟨rfl, rfl, rfl, by decide +kernel, rfl, by decide +kernel, by decide +kernel⟩
abbrev s_l_spoilt : Stmt := top 32
abbrev N_l_spoilt : List Str := ["_law_pool_here", "_law_text_here", "_law_words", "_law_kind", "_law_at", "_law_to", "_law_menu", "_law_word", "_law_kept"]
abbrev P_l_spoilt : List Str := ["_law_pool_here", "_law_text_here"]
theorem sc_l_spoilt : FnScope N_l_spoilt P_l_spoilt (defScope s_l_spoilt) := ⟨rfl, rfl, rfl, by decide +kernel, rfl, by decide +kernel, by decide +kernel⟩
abbrev s_l_read_all : Stmt := top 33
abbrev N_l_read_all : List Str := ["_law_text_here", "_law_lines", "_law_rows_here", "_law_line"]
abbrev P_l_read_all : List Str := ["_law_text_here"]
theorem sc_l_read_all : FnScope N_l_read_all P_l_read_all (defScope s_l_read_all) := ⟨rfl, rfl, rfl, by decide +kernel, rfl, by decide +kernel, by decide +kernel⟩
abbrev s_l_parsed : Stmt := top 34
abbrev N_l_parsed : List Str := ["_law_text_here", "_law_due", "_law_book_here", "_law_e"]
abbrev P_l_parsed : List Str := ["_law_text_here"]
theorem sc_l_parsed : FnScope N_l_parsed P_l_parsed (defScope s_l_parsed) := ⟨rfl, rfl, rfl, by decide +kernel, rfl, by decide +kernel, by decide +kernel⟩
abbrev s_law : Stmt := top 35
abbrev N_law : List Str := ["_law_script", "_law_pool_here", "_law_rows_here", "_law_many", "_law_book_here", "_law_lines", "_law_text_here", "_law_k", "_law_at", "_law_spoilt_here", "_law_seven", "_law_row"]
abbrev P_law : List Str := ["_law_script"]
theorem sc_law : FnScope N_law P_law (defScope s_law) := ⟨rfl, rfl, rfl, by decide +kernel, rfl, by decide +kernel, by decide +kernel⟩
def d_l_pool : DX := ⟨(gad "_law_pool"), "_law_pool", "_law_pool", s_l_pool, [], [], []⟩
def d_l_take : DX := ⟨(gad "_law_take"), "_law_take", "_law_take", s_l_take, [], [], []⟩
def d_l_is : DX := ⟨(gad "_law_is"), "_law_is", "_law_is", s_l_is, [], [], []⟩
def d_l_int : DX := ⟨(gad "_law_int"), "_law_int", "_law_int", s_l_int, [], [], []⟩
def d_l_raw : DX := ⟨(gad "_law_raw"), "_law_raw", "_law_raw", s_l_raw, [], [], []⟩
def d_BadPhase_init : DX := ⟨(mad "BadPhase" "__init__"), "__init__", "BadPhase.__init__", s_BadPhase_init, [], [], [("__class__" : Str)]⟩
def d_Phase_init : DX := ⟨(mad "Phase" "__init__"), "__init__", "Phase.__init__", s_Phase_init, [], [("barrier", .str "guarded"), ("visits", .bl false), ("pauses", .bl true), ("stand", .int (0)), ("skips", .bl false)], []⟩
def d_Phase_text : DX := ⟨(pad "property" "Phase" "text"), "text", "Phase.text", s_Phase_text, [], [], []⟩
def d_Phase_eq : DX := ⟨(mad "Phase" "__eq__"), "__eq__", "Phase.__eq__", s_Phase_eq, [], [], []⟩
def d_Phase_parse : DX := ⟨(pad "classmethod" "Phase" "parse"), "parse", "Phase.parse", s_Phase_parse, [], [], []⟩
def d_Book_init : DX := ⟨(mad "Book" "__init__"), "__init__", "Book.__init__", s_Book_init, [], [], []⟩
def d_Book_of : DX := ⟨(pad "classmethod" "Book" "of"), "of", "Book.of", s_Book_of, [], [], []⟩
def d_Book_len : DX := ⟨(mad "Book" "__len__"), "__len__", "Book.__len__", s_Book_len, [], [], []⟩
def d_Book_iter : DX := ⟨(mad "Book" "__iter__"), "__iter__", "Book.__iter__", s_Book_iter, [], [], []⟩
def d_Book_getitem : DX := ⟨(mad "Book" "__getitem__"), "__getitem__", "Book.__getitem__", s_Book_getitem, [], [], []⟩
def d_Book_setitem : DX := ⟨(mad "Book" "__setitem__"), "__setitem__", "Book.__setitem__", s_Book_setitem, [], [], []⟩
def d_Book_eq : DX := ⟨(mad "Book" "__eq__"), "__eq__", "Book.__eq__", s_Book_eq, [], [], []⟩
def d_Book_text : DX := ⟨(pad "property" "Book" "text"), "text", "Book.text", s_Book_text, [], [], []⟩
def d_Book_parse : DX := ⟨(pad "classmethod" "Book" "parse"), "parse", "Book.parse", s_Book_parse, [], [], []⟩
def d_l_calm : DX := ⟨(gad "_law_calm"), "_law_calm", "_law_calm", s_l_calm, [], [], []⟩
def d_l_rows : DX := ⟨(gad "_law_rows"), "_law_rows", "_law_rows", s_l_rows, [], [], []⟩
def d_l_phase : DX := ⟨(gad "_law_phase"), "_law_phase", "_law_phase", s_l_phase, [], [], []⟩
def d_l_same_phase : DX := ⟨(gad "_law_same_phase"), "_law_same_phase", "_law_same_phase", s_l_same_phase, [], [], []⟩
def d_l_same_book : DX := ⟨(gad "_law_same_book"), "_law_same_book", "_law_same_book", s_l_same_book, [], [], []⟩
def d_l_book : DX := ⟨(gad "_law_book"), "_law_book", "_law_book", s_l_book, [], [], []⟩
def d_l_bad_book : DX := ⟨(gad "_law_bad_book"), "_law_bad_book", "_law_bad_book", s_l_bad_book, [], [], []⟩
def d_l_field : DX := ⟨(gad "_law_field"), "_law_field", "_law_field", s_l_field, [], [], []⟩
def d_l_read : DX := ⟨(gad "_law_read"), "_law_read", "_law_read", s_l_read, [], [], []⟩
def d_l_text : DX := ⟨(gad "_law_text"), "_law_text", "_law_text", s_l_text, [], [], []⟩
def d_l_spoilt : DX := ⟨(gad "_law_spoilt"), "_law_spoilt", "_law_spoilt", s_l_spoilt, [], [], []⟩
def d_l_read_all : DX := ⟨(gad "_law_read_all"), "_law_read_all", "_law_read_all", s_l_read_all, [], [], []⟩
def d_l_parsed : DX := ⟨(gad "_law_parsed"), "_law_parsed", "_law_parsed", s_l_parsed, [], [], []⟩
def d_law : DX := ⟨(gad "law"), "law", "law", s_law, [], [], []⟩
def dsAll : List DX := [d_l_pool, d_l_take, d_l_is, d_l_int, d_l_raw, d_BadPhase_init, d_Phase_init, d_Phase_text, d_Phase_eq, d_Phase_parse, d_Book_init, d_Book_of, d_Book_len, d_Book_iter, d_Book_getitem, d_Book_setitem, d_Book_eq, d_Book_text, d_Book_parse, d_l_calm, d_l_rows, d_l_phase, d_l_same_phase, d_l_same_book, d_l_book, d_l_bad_book, d_l_field, d_l_read, d_l_text, d_l_spoilt, d_l_read_all, d_l_parsed, d_law]
def faAll : List He.Fa := [.free "ValueError", .free "abs", .free "bool", .free "int", .free "isinstance", .free "iter", .free "len", .free "list", .free "max", .free "range", .free "str", .glo "_law_pool", .glo "_law_take", .glo "_law_is", .glo "_law_int", .glo "_law_raw", .glo "_law_calm", .glo "_law_rows", .glo "_law_phase", .glo "_law_same_phase", .glo "_law_same_book", .glo "_law_book", .glo "_law_bad_book", .glo "_law_field", .glo "_law_read", .glo "_law_text", .glo "_law_spoilt", .glo "_law_read_all", .glo "_law_parsed", .glo "law", .glo "BARRIERS", .str "DIGITS" "0123456789", .int "MOST_HUE" 5, .int "MOST_STAND" 7, .glo "Phase", .cls "Phase", .noat "Phase" "hue", .noat "Phase" "barrier", .noat "Phase" "visits", .noat "Phase" "pauses", .noat "Phase" "stand", .noat "Phase" "skips", .mkr "Phase", .glo "Book", .cls "Book", .noat "Book" "phases", .mkr "Book", .meth "Book" "__getitem__", .meth "Book" "__setitem__", .glo "BadBook", .exc "BadBook", .glo "RoundError", .glo "BadRef", .glo "Refused", .glo "TooMany", .glo "Wrong", .glo "BadPhase", .noat "BadPhase" "field", .free "super", .exm "BadPhase" "RoundError" true, .exm "BadBook" "RoundError" true]
def fxAll : List Fx := [.tup "BARRIERS" [.str "none", .str "follow", .str "plain", .str "guarded"], .prop "Phase" "text", .inst "Phase", .prop "Book" "text", .inst "Book", .kit (.own "Phase") (.own "Phase") true, .kit (.own "Book") (.own "Phase") false, .kit (.own "Phase") (.own "Book") false, .kit (.own "Book") (.own "Book") true, .kit (.own "BadBook") (.own "BadBook") true, .kit (.own "BadBook") (.own "BadPhase") false, .kit (.own "BadBook") (.ty "ValueError") true, .kit (.own "BadBook") (.own "BadRef") false, .kit (.own "BadBook") (.own "Refused") false, .kit (.own "BadBook") (.own "TooMany") false, .kit (.own "BadBook") (.own "Wrong") false, .kit (.own "BadPhase") (.own "BadBook") false, .kit (.own "BadPhase") (.own "BadPhase") true, .kit (.own "BadPhase") (.ty "ValueError") true, .kit (.own "BadPhase") (.own "BadRef") false, .kit (.own "BadPhase") (.own "Refused") false, .kit (.own "BadPhase") (.own "TooMany") false, .kit (.own "BadPhase") (.own "Wrong") false, .cread "Phase", .cmeth "Phase" "parse", .cread "Book", .cmeth "Book" "of", .cmeth "Book" "parse", .own "Book" "__len__", .own "Book" "__iter__", .own "Book" "__getitem__", .own "Book" "__setitem__", .own "Book" "__eq__", .own "Phase" "__eq__", .cint "Book" "MOST" 6, .oex "BadPhase", .einit "BadPhase" "BadPhase", .sup "BadPhase" "BadPhase" pFile "self", .excC "BadPhase", .excC "BadBook", .nf "Book" (.own "Book")]
structure Tx (K : PySem.W.Frag) (mg : Str → Option Value) : Prop where
  n_ValueError : mg "ValueError" = none
  n_abs : mg "abs" = none
  n_bool : mg "bool" = none
  n_int : mg "int" = none
  n_isinstance : mg "isinstance" = none
  n_iter : mg "iter" = none
  n_len : mg "len" = none
  n_list : mg "list" = none
  n_max : mg "max" = none
  n_range : mg "range" = none
  n_str : mg "str" = none
  g_l_pool : mg "_law_pool" = some (.ref (gad "_law_pool" K))
  g_l_take : mg "_law_take" = some (.ref (gad "_law_take" K))
  g_l_is : mg "_law_is" = some (.ref (gad "_law_is" K))
  g_l_int : mg "_law_int" = some (.ref (gad "_law_int" K))
  g_l_raw : mg "_law_raw" = some (.ref (gad "_law_raw" K))
  g_l_calm : mg "_law_calm" = some (.ref (gad "_law_calm" K))
  g_l_rows : mg "_law_rows" = some (.ref (gad "_law_rows" K))
  g_l_phase : mg "_law_phase" = some (.ref (gad "_law_phase" K))
  g_l_same_phase : mg "_law_same_phase" = some (.ref (gad "_law_same_phase" K))
  g_l_same_book : mg "_law_same_book" = some (.ref (gad "_law_same_book" K))
  g_l_book : mg "_law_book" = some (.ref (gad "_law_book" K))
  g_l_bad_book : mg "_law_bad_book" = some (.ref (gad "_law_bad_book" K))
  g_l_field : mg "_law_field" = some (.ref (gad "_law_field" K))
  g_l_read : mg "_law_read" = some (.ref (gad "_law_read" K))
  g_l_text : mg "_law_text" = some (.ref (gad "_law_text" K))
  g_l_spoilt : mg "_law_spoilt" = some (.ref (gad "_law_spoilt" K))
  g_l_read_all : mg "_law_read_all" = some (.ref (gad "_law_read_all" K))
  g_l_parsed : mg "_law_parsed" = some (.ref (gad "_law_parsed" K))
  g_law : mg "law" = some (.ref (gad "law" K))
  g_BARRIERS : mg "BARRIERS" = some (.ref (gad "BARRIERS" K))
  t_BARRIERS : SqTk K (gad "BARRIERS" K) [V.str "none", V.str "follow", V.str "plain", V.str "guarded"]
  g_DIGITS : ∃ t, mg "DIGITS" = some (.str "0123456789" t)
  g_MOST_HUE : ∃ t, mg "MOST_HUE" = some (.int 5 t)
  g_MOST_STAND : ∃ t, mg "MOST_STAND" = some (.int 7 t)
  g_Phase : mg "Phase" = some (.ref (gad "Phase" K))
  c_Phase : Cls K (gad "Phase" K)
  na_Phase_hue : NoAttr K (gad "Phase" K) "hue"
  na_Phase_barrier : NoAttr K (gad "Phase" K) "barrier"
  na_Phase_visits : NoAttr K (gad "Phase" K) "visits"
  na_Phase_pauses : NoAttr K (gad "Phase" K) "pauses"
  na_Phase_stand : NoAttr K (gad "Phase" K) "stand"
  na_Phase_skips : NoAttr K (gad "Phase" K) "skips"
  mk_Phase : Mk K (gad "Phase" K) (mad "Phase" "__init__" K)
  p_Phase_text : PropOf K (gad "Phase" K) "text" (mad "Phase" "text" K) (pad "property" "Phase" "text" K)
  i_Phase : (Fx.inst "Phase").ok K = true
  g_Book : mg "Book" = some (.ref (gad "Book" K))
  c_Book : Cls K (gad "Book" K)
  na_Book_phases : NoAttr K (gad "Book" K) "phases"
  mk_Book : Mk K (gad "Book" K) (mad "Book" "__init__" K)
  m_Book_getitem : Meth K (gad "Book" K) "__getitem__" (mad "Book" "__getitem__" K)
  m_Book_setitem : Meth K (gad "Book" K) "__setitem__" (mad "Book" "__setitem__" K)
  p_Book_text : PropOf K (gad "Book" K) "text" (mad "Book" "text" K) (pad "property" "Book" "text" K)
  i_Book : (Fx.inst "Book").ok K = true
  k_Phase_Phase : PySem.W.kitOne K (Value.ref (gad "Phase" K)) (Value.ref (gad "Phase" K)) = some true
  k_Book_Phase : PySem.W.kitOne K (Value.ref (gad "Book" K)) (Value.ref (gad "Phase" K)) = some false
  k_Phase_Book : PySem.W.kitOne K (Value.ref (gad "Phase" K)) (Value.ref (gad "Book" K)) = some false
  k_Book_Book : PySem.W.kitOne K (Value.ref (gad "Book" K)) (Value.ref (gad "Book" K)) = some true
  k_BadBook_BadBook : PySem.W.kitOne K (Value.ref (gad "BadBook" K)) (Value.ref (gad "BadBook" K)) = some true
  k_BadBook_BadPhase : PySem.W.kitOne K (Value.ref (gad "BadBook" K)) (Value.ref (gad "BadPhase" K)) = some false
  k_BadBook_ValueError : PySem.W.kitOne K (Value.ref (gad "BadBook" K)) (Value.type "ValueError") = some true
  k_BadBook_BadRef : PySem.W.kitOne K (Value.ref (gad "BadBook" K)) (Value.ref (gad "BadRef" K)) = some false
  k_BadBook_Refused : PySem.W.kitOne K (Value.ref (gad "BadBook" K)) (Value.ref (gad "Refused" K)) = some false
  k_BadBook_TooMany : PySem.W.kitOne K (Value.ref (gad "BadBook" K)) (Value.ref (gad "TooMany" K)) = some false
  k_BadBook_Wrong : PySem.W.kitOne K (Value.ref (gad "BadBook" K)) (Value.ref (gad "Wrong" K)) = some false
  k_BadPhase_BadBook : PySem.W.kitOne K (Value.ref (gad "BadPhase" K)) (Value.ref (gad "BadBook" K)) = some false
  k_BadPhase_BadPhase : PySem.W.kitOne K (Value.ref (gad "BadPhase" K)) (Value.ref (gad "BadPhase" K)) = some true
  k_BadPhase_ValueError : PySem.W.kitOne K (Value.ref (gad "BadPhase" K)) (Value.type "ValueError") = some true
  k_BadPhase_BadRef : PySem.W.kitOne K (Value.ref (gad "BadPhase" K)) (Value.ref (gad "BadRef" K)) = some false
  k_BadPhase_Refused : PySem.W.kitOne K (Value.ref (gad "BadPhase" K)) (Value.ref (gad "Refused" K)) = some false
  k_BadPhase_TooMany : PySem.W.kitOne K (Value.ref (gad "BadPhase" K)) (Value.ref (gad "TooMany" K)) = some false
  k_BadPhase_Wrong : PySem.W.kitOne K (Value.ref (gad "BadPhase" K)) (Value.ref (gad "Wrong" K)) = some false
  cr_Phase : ClX.CRead K (gad "Phase" K) (.type "type")
  cm_Phase_parse : ClX.CMet K (gad "Phase" K) (.type "type") "parse" (mad "Phase" "parse" K) (pad "classmethod" "Phase" "parse" K)
  cr_Book : ClX.CRead K (gad "Book" K) (.type "type")
  cm_Book_of : ClX.CMet K (gad "Book" K) (.type "type") "of" (mad "Book" "of" K) (pad "classmethod" "Book" "of" K)
  cm_Book_parse : ClX.CMet K (gad "Book" K) (.type "type") "parse" (mad "Book" "parse" K) (pad "classmethod" "Book" "parse" K)
  o_Book_len : OwnM K (gad "Book" K) "__len__" (mad "Book" "__len__" K)
  o_Book_iter : OwnM K (gad "Book" K) "__iter__" (mad "Book" "__iter__" K)
  o_Book_getitem : OwnM K (gad "Book" K) "__getitem__" (mad "Book" "__getitem__" K)
  o_Book_setitem : OwnM K (gad "Book" K) "__setitem__" (mad "Book" "__setitem__" K)
  o_Book_eq : OwnM K (gad "Book" K) "__eq__" (mad "Book" "__eq__" K)
  o_Phase_eq : OwnM K (gad "Phase" K) "__eq__" (mad "Phase" "__eq__" K)
  cv_Book_MOST : ∃ u, ClX.CVal K (gad "Book" K) (.type "type") "MOST" (.int 6) u
  g_BadBook : mg "BadBook" = some (.ref (gad "BadBook" K))
  x_BadBook : PySem.W.excIn K (gad "BadBook" K) He.veBase "ValueError.__new__" = true ∧ PySem.W.keepIn K (.ref (gad "BadBook" K)) = true ∧ PySem.W.subIn K (.ref (gad "BadBook" K)) (.type "BaseException") = some true ∧ PySem.W.typeIn K (.ref (gad "BadBook" K)) = some (.type "type")
  g_RoundError : mg "RoundError" = some (.ref (gad "RoundError" K))
  g_BadRef : mg "BadRef" = some (.ref (gad "BadRef" K))
  g_Refused : mg "Refused" = some (.ref (gad "Refused" K))
  g_TooMany : mg "TooMany" = some (.ref (gad "TooMany" K))
  g_Wrong : mg "Wrong" = some (.ref (gad "Wrong" K))
  g_BadPhase : mg "BadPhase" = some (.ref (gad "BadPhase" K))
  ox_BadPhase : OexC K (gad "BadPhase" K)
  ei_BadPhase : PySem.W.findIn K (.ref (gad "BadPhase" K)) "__init__" = some (some (.ref (mad "BadPhase" "__init__" K))) ∧ PySem.W.typeIn K (.ref (mad "BadPhase" "__init__" K)) = some (.type "function")
  sp_BadPhase : (Fx.sup "BadPhase" "BadPhase" pFile "self").ok K = true
  na_BadPhase_field : NoAttr K (gad "BadPhase" K) "field"
  n_super : mg "super" = none
  e_BadPhase : ExcC K (gad "BadPhase" K)
  e_BadBook : ExcC K (gad "BadBook" K)
  xm_BadPhase_RoundError : PySem.W.exmOne K (.ref (gad "BadPhase" K)) (.ref (gad "RoundError" K)) = some true
  xm_BadBook_RoundError : PySem.W.exmOne K (.ref (gad "BadBook" K)) (.ref (gad "RoundError" K)) = some true
  nf_Book_Book : PySem.W.notFirst K (gad "Book" K) (Value.ref (gad "Book" K)) = true
  F_l_pool : FunD K "_law_pool" "_law_pool" (defArgs s_l_pool) (defBody s_l_pool) (defScope s_l_pool) [] [] (gad "_law_pool" K) (fdD K (gad "_law_pool" K))
  F_l_take : FunD K "_law_take" "_law_take" (defArgs s_l_take) (defBody s_l_take) (defScope s_l_take) [] [] (gad "_law_take" K) (fdD K (gad "_law_take" K))
  F_l_is : FunD K "_law_is" "_law_is" (defArgs s_l_is) (defBody s_l_is) (defScope s_l_is) [] [] (gad "_law_is" K) (fdD K (gad "_law_is" K))
  F_l_int : FunD K "_law_int" "_law_int" (defArgs s_l_int) (defBody s_l_int) (defScope s_l_int) [] [] (gad "_law_int" K) (fdD K (gad "_law_int" K))
  F_l_raw : FunD K "_law_raw" "_law_raw" (defArgs s_l_raw) (defBody s_l_raw) (defScope s_l_raw) [] [] (gad "_law_raw" K) (fdD K (gad "_law_raw" K))
  F_BadPhase_init : ∃ cc cdv, FunC K "__init__" "BadPhase.__init__" (defArgs s_BadPhase_init) (defBody s_BadPhase_init) (defScope s_BadPhase_init) (mad "BadPhase" "__init__" K) cc cdv (fdD K (mad "BadPhase" "__init__" K))
  F_Phase_init : FunD K "__init__" "Phase.__init__" (defArgs s_Phase_init) (defBody s_Phase_init) (defScope s_Phase_init) [] [("barrier", V.str "guarded"), ("visits", V.bl false), ("pauses", V.bl true), ("stand", V.int (0)), ("skips", V.bl false)] (mad "Phase" "__init__" K) (fdD K (mad "Phase" "__init__" K))
  F_Phase_text : FunD K "text" "Phase.text" (defArgs s_Phase_text) (defBody s_Phase_text) (defScope s_Phase_text) [] [] (pad "property" "Phase" "text" K) (fdD K (pad "property" "Phase" "text" K))
  F_Phase_eq : FunD K "__eq__" "Phase.__eq__" (defArgs s_Phase_eq) (defBody s_Phase_eq) (defScope s_Phase_eq) [] [] (mad "Phase" "__eq__" K) (fdD K (mad "Phase" "__eq__" K))
  F_Phase_parse : FunD K "parse" "Phase.parse" (defArgs s_Phase_parse) (defBody s_Phase_parse) (defScope s_Phase_parse) [] [] (pad "classmethod" "Phase" "parse" K) (fdD K (pad "classmethod" "Phase" "parse" K))
  F_Book_init : FunD K "__init__" "Book.__init__" (defArgs s_Book_init) (defBody s_Book_init) (defScope s_Book_init) [] [] (mad "Book" "__init__" K) (fdD K (mad "Book" "__init__" K))
  F_Book_of : FunD K "of" "Book.of" (defArgs s_Book_of) (defBody s_Book_of) (defScope s_Book_of) [] [] (pad "classmethod" "Book" "of" K) (fdD K (pad "classmethod" "Book" "of" K))
  F_Book_len : FunD K "__len__" "Book.__len__" (defArgs s_Book_len) (defBody s_Book_len) (defScope s_Book_len) [] [] (mad "Book" "__len__" K) (fdD K (mad "Book" "__len__" K))
  F_Book_iter : FunD K "__iter__" "Book.__iter__" (defArgs s_Book_iter) (defBody s_Book_iter) (defScope s_Book_iter) [] [] (mad "Book" "__iter__" K) (fdD K (mad "Book" "__iter__" K))
  F_Book_getitem : FunD K "__getitem__" "Book.__getitem__" (defArgs s_Book_getitem) (defBody s_Book_getitem) (defScope s_Book_getitem) [] [] (mad "Book" "__getitem__" K) (fdD K (mad "Book" "__getitem__" K))
  F_Book_setitem : FunD K "__setitem__" "Book.__setitem__" (defArgs s_Book_setitem) (defBody s_Book_setitem) (defScope s_Book_setitem) [] [] (mad "Book" "__setitem__" K) (fdD K (mad "Book" "__setitem__" K))
  F_Book_eq : FunD K "__eq__" "Book.__eq__" (defArgs s_Book_eq) (defBody s_Book_eq) (defScope s_Book_eq) [] [] (mad "Book" "__eq__" K) (fdD K (mad "Book" "__eq__" K))
  F_Book_text : FunD K "text" "Book.text" (defArgs s_Book_text) (defBody s_Book_text) (defScope s_Book_text) [] [] (pad "property" "Book" "text" K) (fdD K (pad "property" "Book" "text" K))
  F_Book_parse : FunD K "parse" "Book.parse" (defArgs s_Book_parse) (defBody s_Book_parse) (defScope s_Book_parse) [] [] (pad "classmethod" "Book" "parse" K) (fdD K (pad "classmethod" "Book" "parse" K))
  F_l_calm : FunD K "_law_calm" "_law_calm" (defArgs s_l_calm) (defBody s_l_calm) (defScope s_l_calm) [] [] (gad "_law_calm" K) (fdD K (gad "_law_calm" K))
  F_l_rows : FunD K "_law_rows" "_law_rows" (defArgs s_l_rows) (defBody s_l_rows) (defScope s_l_rows) [] [] (gad "_law_rows" K) (fdD K (gad "_law_rows" K))
  F_l_phase : FunD K "_law_phase" "_law_phase" (defArgs s_l_phase) (defBody s_l_phase) (defScope s_l_phase) [] [] (gad "_law_phase" K) (fdD K (gad "_law_phase" K))
  F_l_same_phase : FunD K "_law_same_phase" "_law_same_phase" (defArgs s_l_same_phase) (defBody s_l_same_phase) (defScope s_l_same_phase) [] [] (gad "_law_same_phase" K) (fdD K (gad "_law_same_phase" K))
  F_l_same_book : FunD K "_law_same_book" "_law_same_book" (defArgs s_l_same_book) (defBody s_l_same_book) (defScope s_l_same_book) [] [] (gad "_law_same_book" K) (fdD K (gad "_law_same_book" K))
  F_l_book : FunD K "_law_book" "_law_book" (defArgs s_l_book) (defBody s_l_book) (defScope s_l_book) [] [] (gad "_law_book" K) (fdD K (gad "_law_book" K))
  F_l_bad_book : FunD K "_law_bad_book" "_law_bad_book" (defArgs s_l_bad_book) (defBody s_l_bad_book) (defScope s_l_bad_book) [] [] (gad "_law_bad_book" K) (fdD K (gad "_law_bad_book" K))
  F_l_field : FunD K "_law_field" "_law_field" (defArgs s_l_field) (defBody s_l_field) (defScope s_l_field) [] [] (gad "_law_field" K) (fdD K (gad "_law_field" K))
  F_l_read : FunD K "_law_read" "_law_read" (defArgs s_l_read) (defBody s_l_read) (defScope s_l_read) [] [] (gad "_law_read" K) (fdD K (gad "_law_read" K))
  F_l_text : FunD K "_law_text" "_law_text" (defArgs s_l_text) (defBody s_l_text) (defScope s_l_text) [] [] (gad "_law_text" K) (fdD K (gad "_law_text" K))
  F_l_spoilt : FunD K "_law_spoilt" "_law_spoilt" (defArgs s_l_spoilt) (defBody s_l_spoilt) (defScope s_l_spoilt) [] [] (gad "_law_spoilt" K) (fdD K (gad "_law_spoilt" K))
  F_l_read_all : FunD K "_law_read_all" "_law_read_all" (defArgs s_l_read_all) (defBody s_l_read_all) (defScope s_l_read_all) [] [] (gad "_law_read_all" K) (fdD K (gad "_law_read_all" K))
  F_l_parsed : FunD K "_law_parsed" "_law_parsed" (defArgs s_l_parsed) (defBody s_l_parsed) (defScope s_l_parsed) [] [] (gad "_law_parsed" K) (fdD K (gad "_law_parsed" K))
  F_law : FunD K "law" "law" (defArgs s_law) (defBody s_law) (defScope s_law) [] [] (gad "law" K) (fdD K (gad "law" K))
theorem Tx.of {K : PySem.W.Frag} {h : Heap} {mg : Str → Option Value} (X : K.In h) (G : h.Ns mainGlobals mg) (c : SaysX faAll fxAll dsAll K) : Tx K mg where
  n_ValueError := He.free_ok X G (c.fact 0 (f := .free "ValueError") rfl)
  n_abs := He.free_ok X G (c.fact 1 (f := .free "abs") rfl)
  n_bool := He.free_ok X G (c.fact 2 (f := .free "bool") rfl)
  n_int := He.free_ok X G (c.fact 3 (f := .free "int") rfl)
  n_isinstance := He.free_ok X G (c.fact 4 (f := .free "isinstance") rfl)
  n_iter := He.free_ok X G (c.fact 5 (f := .free "iter") rfl)
  n_len := He.free_ok X G (c.fact 6 (f := .free "len") rfl)
  n_list := He.free_ok X G (c.fact 7 (f := .free "list") rfl)
  n_max := He.free_ok X G (c.fact 8 (f := .free "max") rfl)
  n_range := He.free_ok X G (c.fact 9 (f := .free "range") rfl)
  n_str := He.free_ok X G (c.fact 10 (f := .free "str") rfl)
  g_l_pool := He.glo_ok X G (c.fact 11 (f := .glo "_law_pool") rfl)
  g_l_take := He.glo_ok X G (c.fact 12 (f := .glo "_law_take") rfl)
  g_l_is := He.glo_ok X G (c.fact 13 (f := .glo "_law_is") rfl)
  g_l_int := He.glo_ok X G (c.fact 14 (f := .glo "_law_int") rfl)
  g_l_raw := He.glo_ok X G (c.fact 15 (f := .glo "_law_raw") rfl)
  g_l_calm := He.glo_ok X G (c.fact 16 (f := .glo "_law_calm") rfl)
  g_l_rows := He.glo_ok X G (c.fact 17 (f := .glo "_law_rows") rfl)
  g_l_phase := He.glo_ok X G (c.fact 18 (f := .glo "_law_phase") rfl)
  g_l_same_phase := He.glo_ok X G (c.fact 19 (f := .glo "_law_same_phase") rfl)
  g_l_same_book := He.glo_ok X G (c.fact 20 (f := .glo "_law_same_book") rfl)
  g_l_book := He.glo_ok X G (c.fact 21 (f := .glo "_law_book") rfl)
  g_l_bad_book := He.glo_ok X G (c.fact 22 (f := .glo "_law_bad_book") rfl)
  g_l_field := He.glo_ok X G (c.fact 23 (f := .glo "_law_field") rfl)
  g_l_read := He.glo_ok X G (c.fact 24 (f := .glo "_law_read") rfl)
  g_l_text := He.glo_ok X G (c.fact 25 (f := .glo "_law_text") rfl)
  g_l_spoilt := He.glo_ok X G (c.fact 26 (f := .glo "_law_spoilt") rfl)
  g_l_read_all := He.glo_ok X G (c.fact 27 (f := .glo "_law_read_all") rfl)
  g_l_parsed := He.glo_ok X G (c.fact 28 (f := .glo "_law_parsed") rfl)
  g_law := He.glo_ok X G (c.fact 29 (f := .glo "law") rfl)
  g_BARRIERS := He.glo_ok X G (c.fact 30 (f := .glo "BARRIERS") rfl)
  t_BARRIERS := tup_ok (c.more 0 (f := .tup "BARRIERS" [.str "none", .str "follow", .str "plain", .str "guarded"]) rfl)
  g_DIGITS := He.str_ok X G (c.fact 31 (f := .str "DIGITS" "0123456789") rfl)
  g_MOST_HUE := He.int_ok X G (c.fact 32 (f := .int "MOST_HUE" 5) rfl)
  g_MOST_STAND := He.int_ok X G (c.fact 33 (f := .int "MOST_STAND" 7) rfl)
  g_Phase := He.glo_ok X G (c.fact 34 (f := .glo "Phase") rfl)
  c_Phase := He.cls_ok (c.fact 35 (f := .cls "Phase") rfl)
  na_Phase_hue := He.noat_ok (c.fact 36 (f := .noat "Phase" "hue") rfl)
  na_Phase_barrier := He.noat_ok (c.fact 37 (f := .noat "Phase" "barrier") rfl)
  na_Phase_visits := He.noat_ok (c.fact 38 (f := .noat "Phase" "visits") rfl)
  na_Phase_pauses := He.noat_ok (c.fact 39 (f := .noat "Phase" "pauses") rfl)
  na_Phase_stand := He.noat_ok (c.fact 40 (f := .noat "Phase" "stand") rfl)
  na_Phase_skips := He.noat_ok (c.fact 41 (f := .noat "Phase" "skips") rfl)
  mk_Phase := He.mkr_ok (c.fact 42 (f := .mkr "Phase") rfl)
  p_Phase_text := prop_ok (c.more 1 (f := .prop "Phase" "text") rfl)
  i_Phase := (c.more 2 (f := .inst "Phase") rfl)
  g_Book := He.glo_ok X G (c.fact 43 (f := .glo "Book") rfl)
  c_Book := He.cls_ok (c.fact 44 (f := .cls "Book") rfl)
  na_Book_phases := He.noat_ok (c.fact 45 (f := .noat "Book" "phases") rfl)
  mk_Book := He.mkr_ok (c.fact 46 (f := .mkr "Book") rfl)
  m_Book_getitem := He.meth_ok (c.fact 47 (f := .meth "Book" "__getitem__") rfl)
  m_Book_setitem := He.meth_ok (c.fact 48 (f := .meth "Book" "__setitem__") rfl)
  p_Book_text := prop_ok (c.more 3 (f := .prop "Book" "text") rfl)
  i_Book := (c.more 4 (f := .inst "Book") rfl)
  k_Phase_Phase := kit_ok (c.more 5 (f := .kit (.own "Phase") (.own "Phase") true) rfl)
  k_Book_Phase := kit_ok (c.more 6 (f := .kit (.own "Book") (.own "Phase") false) rfl)
  k_Phase_Book := kit_ok (c.more 7 (f := .kit (.own "Phase") (.own "Book") false) rfl)
  k_Book_Book := kit_ok (c.more 8 (f := .kit (.own "Book") (.own "Book") true) rfl)
  k_BadBook_BadBook := kit_ok (c.more 9 (f := .kit (.own "BadBook") (.own "BadBook") true) rfl)
  k_BadBook_BadPhase := kit_ok (c.more 10 (f := .kit (.own "BadBook") (.own "BadPhase") false) rfl)
  k_BadBook_ValueError := kit_ok (c.more 11 (f := .kit (.own "BadBook") (.ty "ValueError") true) rfl)
  k_BadBook_BadRef := kit_ok (c.more 12 (f := .kit (.own "BadBook") (.own "BadRef") false) rfl)
  k_BadBook_Refused := kit_ok (c.more 13 (f := .kit (.own "BadBook") (.own "Refused") false) rfl)
  k_BadBook_TooMany := kit_ok (c.more 14 (f := .kit (.own "BadBook") (.own "TooMany") false) rfl)
  k_BadBook_Wrong := kit_ok (c.more 15 (f := .kit (.own "BadBook") (.own "Wrong") false) rfl)
  k_BadPhase_BadBook := kit_ok (c.more 16 (f := .kit (.own "BadPhase") (.own "BadBook") false) rfl)
  k_BadPhase_BadPhase := kit_ok (c.more 17 (f := .kit (.own "BadPhase") (.own "BadPhase") true) rfl)
  k_BadPhase_ValueError := kit_ok (c.more 18 (f := .kit (.own "BadPhase") (.ty "ValueError") true) rfl)
  k_BadPhase_BadRef := kit_ok (c.more 19 (f := .kit (.own "BadPhase") (.own "BadRef") false) rfl)
  k_BadPhase_Refused := kit_ok (c.more 20 (f := .kit (.own "BadPhase") (.own "Refused") false) rfl)
  k_BadPhase_TooMany := kit_ok (c.more 21 (f := .kit (.own "BadPhase") (.own "TooMany") false) rfl)
  k_BadPhase_Wrong := kit_ok (c.more 22 (f := .kit (.own "BadPhase") (.own "Wrong") false) rfl)
  cr_Phase := cread_ok (c.more 23 (f := .cread "Phase") rfl)
  cm_Phase_parse := cmeth_ok (c.more 24 (f := .cmeth "Phase" "parse") rfl)
  cr_Book := cread_ok (c.more 25 (f := .cread "Book") rfl)
  cm_Book_of := cmeth_ok (c.more 26 (f := .cmeth "Book" "of") rfl)
  cm_Book_parse := cmeth_ok (c.more 27 (f := .cmeth "Book" "parse") rfl)
  o_Book_len := own_ok (c.more 28 (f := .own "Book" "__len__") rfl)
  o_Book_iter := own_ok (c.more 29 (f := .own "Book" "__iter__") rfl)
  o_Book_getitem := own_ok (c.more 30 (f := .own "Book" "__getitem__") rfl)
  o_Book_setitem := own_ok (c.more 31 (f := .own "Book" "__setitem__") rfl)
  o_Book_eq := own_ok (c.more 32 (f := .own "Book" "__eq__") rfl)
  o_Phase_eq := own_ok (c.more 33 (f := .own "Phase" "__eq__") rfl)
  cv_Book_MOST := cint_ok (c.more 34 (f := .cint "Book" "MOST" 6) rfl)
  g_BadBook := He.glo_ok X G (c.fact 49 (f := .glo "BadBook") rfl)
  x_BadBook := He.exc_ok (c.fact 50 (f := .exc "BadBook") rfl)
  g_RoundError := He.glo_ok X G (c.fact 51 (f := .glo "RoundError") rfl)
  g_BadRef := He.glo_ok X G (c.fact 52 (f := .glo "BadRef") rfl)
  g_Refused := He.glo_ok X G (c.fact 53 (f := .glo "Refused") rfl)
  g_TooMany := He.glo_ok X G (c.fact 54 (f := .glo "TooMany") rfl)
  g_Wrong := He.glo_ok X G (c.fact 55 (f := .glo "Wrong") rfl)
  g_BadPhase := He.glo_ok X G (c.fact 56 (f := .glo "BadPhase") rfl)
  ox_BadPhase := oex_ok (c.more 35 (f := .oex "BadPhase") rfl)
  ei_BadPhase := einit_ok (c.more 36 (f := .einit "BadPhase" "BadPhase") rfl)
  sp_BadPhase := (c.more 37 (f := .sup "BadPhase" "BadPhase" pFile "self") rfl)
  na_BadPhase_field := He.noat_ok (c.fact 57 (f := .noat "BadPhase" "field") rfl)
  n_super := He.free_ok X G (c.fact 58 (f := .free "super") rfl)
  e_BadPhase := excC_ok (c.more 38 (f := .excC "BadPhase") rfl)
  e_BadBook := excC_ok (c.more 39 (f := .excC "BadBook") rfl)
  xm_BadPhase_RoundError := He.exm_ok (c.fact 59 (f := .exm "BadPhase" "RoundError" true) rfl)
  xm_BadBook_RoundError := He.exm_ok (c.fact 60 (f := .exm "BadBook" "RoundError" true) rfl)
  nf_Book_Book := nf_ok (c.more 40 (f := .nf "Book" (.own "Book")) rfl)
  F_l_pool := c.fd 0 (d := d_l_pool) rfl
  F_l_take := c.fd 1 (d := d_l_take) rfl
  F_l_is := c.fd 2 (d := d_l_is) rfl
  F_l_int := c.fd 3 (d := d_l_int) rfl
  F_l_raw := c.fd 4 (d := d_l_raw) rfl
  F_BadPhase_init := c.fdc 5 (d := d_BadPhase_init) rfl
  F_Phase_init := c.fd 6 (d := d_Phase_init) rfl
  F_Phase_text := c.fd 7 (d := d_Phase_text) rfl
  F_Phase_eq := c.fd 8 (d := d_Phase_eq) rfl
  F_Phase_parse := c.fd 9 (d := d_Phase_parse) rfl
  F_Book_init := c.fd 10 (d := d_Book_init) rfl
  F_Book_of := c.fd 11 (d := d_Book_of) rfl
  F_Book_len := c.fd 12 (d := d_Book_len) rfl
  F_Book_iter := c.fd 13 (d := d_Book_iter) rfl
  F_Book_getitem := c.fd 14 (d := d_Book_getitem) rfl
  F_Book_setitem := c.fd 15 (d := d_Book_setitem) rfl
  F_Book_eq := c.fd 16 (d := d_Book_eq) rfl
  F_Book_text := c.fd 17 (d := d_Book_text) rfl
  F_Book_parse := c.fd 18 (d := d_Book_parse) rfl
  F_l_calm := c.fd 19 (d := d_l_calm) rfl
  F_l_rows := c.fd 20 (d := d_l_rows) rfl
  F_l_phase := c.fd 21 (d := d_l_phase) rfl
  F_l_same_phase := c.fd 22 (d := d_l_same_phase) rfl
  F_l_same_book := c.fd 23 (d := d_l_same_book) rfl
  F_l_book := c.fd 24 (d := d_l_book) rfl
  F_l_bad_book := c.fd 25 (d := d_l_bad_book) rfl
  F_l_field := c.fd 26 (d := d_l_field) rfl
  F_l_read := c.fd 27 (d := d_l_read) rfl
  F_l_text := c.fd 28 (d := d_l_text) rfl
  F_l_spoilt := c.fd 29 (d := d_l_spoilt) rfl
  F_l_read_all := c.fd 30 (d := d_l_read_all) rfl
  F_l_parsed := c.fd 31 (d := d_l_parsed) rfl
  F_law := c.fd 32 (d := d_law) rfl
theorem bd_l_pool {K : PySem.W.Frag} {mg : Str → Option Value} (T : Tx K mg) : Binds K (fdD K (gad "_law_pool" K)) P_l_pool [] := T.F_l_pool.bindsN fun _ _ _ _ _ _ us hl => match us, hl with | [_], _ => rfl
theorem bd_l_take {K : PySem.W.Frag} {mg : Str → Option Value} (T : Tx K mg) : Binds K (fdD K (gad "_law_take" K)) P_l_take [] := T.F_l_take.bindsN fun _ _ _ _ _ _ us hl => match us, hl with | [_, _], _ => rfl
theorem bd_l_is {K : PySem.W.Frag} {mg : Str → Option Value} (T : Tx K mg) : Binds K (fdD K (gad "_law_is" K)) P_l_is [] := T.F_l_is.bindsN fun _ _ _ _ _ _ us hl => match us, hl with | [_, _], _ => rfl
theorem bd_l_int {K : PySem.W.Frag} {mg : Str → Option Value} (T : Tx K mg) : Binds K (fdD K (gad "_law_int" K)) P_l_int [] := T.F_l_int.bindsN fun _ _ _ _ _ _ us hl => match us, hl with | [_], _ => rfl
theorem bd_l_raw {K : PySem.W.Frag} {mg : Str → Option Value} (T : Tx K mg) : Binds K (fdD K (gad "_law_raw" K)) P_l_raw [] := T.F_l_raw.bindsN fun _ _ _ _ _ _ us hl => match us, hl with | [_], _ => rfl
theorem bd_BadPhase_init {K : PySem.W.Frag} {mg : Str → Option Value} (T : Tx K mg) : Binds K (fdD K (mad "BadPhase" "__init__" K)) P_BadPhase_init [] := by
  obtain ⟨cc, cdv, F⟩ := T.F_BadPhase_init
  exact F.binds fun _ _ _ _ _ _ us hl => match us, hl with | [_, _], _ => rfl
theorem bd0_Phase_init {K : PySem.W.Frag} {mg : Str → Option Value} (T : Tx K mg) : ∃ ds, Vals (([("barrier", V.str "guarded"), ("visits", V.bl false), ("pauses", V.bl true), ("stand", V.int (0)), ("skips", V.bl false)] : List (Str × V)).map (·.2)) ds ∧ Binds K (fdD K (mad "Phase" "__init__" K)) P_Phase_init ds := T.F_Phase_init.binds0 2 (by simp) rfl (fun D doc pm an cdv ct us ks h1 h2 => match us, ks, h1, h2 with | [_, _], [_, _, _, _, _], _, _ => ⟨_, _, _, _, _, _, rfl, rfl, ⟨_, _, _, _, _, _, rfl, rfl, ⟨_, _, _, _, _, _, rfl, rfl, ⟨_, _, _, _, _, _, rfl, rfl, ⟨_, _, _, _, _, _, rfl, rfl, rfl⟩⟩⟩⟩⟩)
theorem bd_Phase_text {K : PySem.W.Frag} {mg : Str → Option Value} (T : Tx K mg) : Binds K (fdD K (pad "property" "Phase" "text" K)) P_Phase_text [] := T.F_Phase_text.bindsN fun _ _ _ _ _ _ us hl => match us, hl with | [_], _ => rfl
theorem bd_Phase_eq {K : PySem.W.Frag} {mg : Str → Option Value} (T : Tx K mg) : Binds K (fdD K (mad "Phase" "__eq__" K)) P_Phase_eq [] := T.F_Phase_eq.bindsN fun _ _ _ _ _ _ us hl => match us, hl with | [_, _], _ => rfl
theorem bd_Phase_parse {K : PySem.W.Frag} {mg : Str → Option Value} (T : Tx K mg) : Binds K (fdD K (pad "classmethod" "Phase" "parse" K)) P_Phase_parse [] := T.F_Phase_parse.bindsN fun _ _ _ _ _ _ us hl => match us, hl with | [_, _], _ => rfl
theorem bd_Book_of {K : PySem.W.Frag} {mg : Str → Option Value} (T : Tx K mg) : Binds K (fdD K (pad "classmethod" "Book" "of" K)) P_Book_of [] := T.F_Book_of.bindsN fun _ _ _ _ _ _ us hl => match us, hl with | [_, _], _ => rfl
theorem bd_Book_len {K : PySem.W.Frag} {mg : Str → Option Value} (T : Tx K mg) : Binds K (fdD K (mad "Book" "__len__" K)) P_Book_len [] := T.F_Book_len.bindsN fun _ _ _ _ _ _ us hl => match us, hl with | [_], _ => rfl
theorem bd_Book_iter {K : PySem.W.Frag} {mg : Str → Option Value} (T : Tx K mg) : Binds K (fdD K (mad "Book" "__iter__" K)) P_Book_iter [] := T.F_Book_iter.bindsN fun _ _ _ _ _ _ us hl => match us, hl with | [_], _ => rfl
theorem bd_Book_getitem {K : PySem.W.Frag} {mg : Str → Option Value} (T : Tx K mg) : Binds K (fdD K (mad "Book" "__getitem__" K)) P_Book_getitem [] := T.F_Book_getitem.bindsN fun _ _ _ _ _ _ us hl => match us, hl with | [_, _], _ => rfl
theorem bd_Book_setitem {K : PySem.W.Frag} {mg : Str → Option Value} (T : Tx K mg) : Binds K (fdD K (mad "Book" "__setitem__" K)) P_Book_setitem [] := T.F_Book_setitem.bindsN fun _ _ _ _ _ _ us hl => match us, hl with | [_, _, _], _ => rfl
theorem bd_Book_eq {K : PySem.W.Frag} {mg : Str → Option Value} (T : Tx K mg) : Binds K (fdD K (mad "Book" "__eq__" K)) P_Book_eq [] := T.F_Book_eq.bindsN fun _ _ _ _ _ _ us hl => match us, hl with | [_, _], _ => rfl
theorem bd_Book_text {K : PySem.W.Frag} {mg : Str → Option Value} (T : Tx K mg) : Binds K (fdD K (pad "property" "Book" "text" K)) P_Book_text [] := T.F_Book_text.bindsN fun _ _ _ _ _ _ us hl => match us, hl with | [_], _ => rfl
theorem bd_Book_parse {K : PySem.W.Frag} {mg : Str → Option Value} (T : Tx K mg) : Binds K (fdD K (pad "classmethod" "Book" "parse" K)) P_Book_parse [] := T.F_Book_parse.bindsN fun _ _ _ _ _ _ us hl => match us, hl with | [_, _], _ => rfl
theorem bd_l_calm {K : PySem.W.Frag} {mg : Str → Option Value} (T : Tx K mg) : Binds K (fdD K (gad "_law_calm" K)) P_l_calm [] := T.F_l_calm.bindsN fun _ _ _ _ _ _ us hl => match us, hl with | [_, _, _], _ => rfl
theorem bd_l_rows {K : PySem.W.Frag} {mg : Str → Option Value} (T : Tx K mg) : Binds K (fdD K (gad "_law_rows" K)) P_l_rows [] := T.F_l_rows.bindsN fun _ _ _ _ _ _ us hl => match us, hl with | [_, _], _ => rfl
theorem bd_l_phase {K : PySem.W.Frag} {mg : Str → Option Value} (T : Tx K mg) : Binds K (fdD K (gad "_law_phase" K)) P_l_phase [] := T.F_l_phase.bindsN fun _ _ _ _ _ _ us hl => match us, hl with | [_], _ => rfl
theorem bd_l_same_phase {K : PySem.W.Frag} {mg : Str → Option Value} (T : Tx K mg) : Binds K (fdD K (gad "_law_same_phase" K)) P_l_same_phase [] := T.F_l_same_phase.bindsN fun _ _ _ _ _ _ us hl => match us, hl with | [_, _], _ => rfl
theorem bd_l_same_book {K : PySem.W.Frag} {mg : Str → Option Value} (T : Tx K mg) : Binds K (fdD K (gad "_law_same_book" K)) P_l_same_book [] := T.F_l_same_book.bindsN fun _ _ _ _ _ _ us hl => match us, hl with | [_, _], _ => rfl
theorem bd_l_book {K : PySem.W.Frag} {mg : Str → Option Value} (T : Tx K mg) : Binds K (fdD K (gad "_law_book" K)) P_l_book [] := T.F_l_book.bindsN fun _ _ _ _ _ _ us hl => match us, hl with | [_], _ => rfl
theorem bd_l_bad_book {K : PySem.W.Frag} {mg : Str → Option Value} (T : Tx K mg) : Binds K (fdD K (gad "_law_bad_book" K)) P_l_bad_book [] := T.F_l_bad_book.bindsN fun _ _ _ _ _ _ us hl => match us, hl with | [_], _ => rfl
theorem bd_l_field {K : PySem.W.Frag} {mg : Str → Option Value} (T : Tx K mg) : Binds K (fdD K (gad "_law_field" K)) P_l_field [] := T.F_l_field.bindsN fun _ _ _ _ _ _ us hl => match us, hl with | [_], _ => rfl
theorem bd_l_read {K : PySem.W.Frag} {mg : Str → Option Value} (T : Tx K mg) : Binds K (fdD K (gad "_law_read" K)) P_l_read [] := T.F_l_read.bindsN fun _ _ _ _ _ _ us hl => match us, hl with | [_], _ => rfl
theorem bd_l_text {K : PySem.W.Frag} {mg : Str → Option Value} (T : Tx K mg) : Binds K (fdD K (gad "_law_text" K)) P_l_text [] := T.F_l_text.bindsN fun _ _ _ _ _ _ us hl => match us, hl with | [_], _ => rfl
theorem bd_l_spoilt {K : PySem.W.Frag} {mg : Str → Option Value} (T : Tx K mg) : Binds K (fdD K (gad "_law_spoilt" K)) P_l_spoilt [] := T.F_l_spoilt.bindsN fun _ _ _ _ _ _ us hl => match us, hl with | [_, _], _ => rfl
theorem bd_l_read_all {K : PySem.W.Frag} {mg : Str → Option Value} (T : Tx K mg) : Binds K (fdD K (gad "_law_read_all" K)) P_l_read_all [] := T.F_l_read_all.bindsN fun _ _ _ _ _ _ us hl => match us, hl with | [_], _ => rfl
theorem bd_l_parsed {K : PySem.W.Frag} {mg : Str → Option Value} (T : Tx K mg) : Binds K (fdD K (gad "_law_parsed" K)) P_l_parsed [] := T.F_l_parsed.bindsN fun _ _ _ _ _ _ us hl => match us, hl with | [_], _ => rfl
theorem bd_law {K : PySem.W.Frag} {mg : Str → Option Value} (T : Tx K mg) : Binds K (fdD K (gad "law" K)) P_law [] := T.F_law.bindsN fun _ _ _ _ _ _ us hl => match us, hl with | [_], _ => rfl
def looseAll : List Str := (["_wall", "RoundError", "BadRef", "BadBook", "BadPhase", "TooMany", "Refused", "Wrong", "BARRIERS", "DIGITS", "MOST_HUE", "MOST_STAND", "Phase", "Book", "_law_is", "_law_int", "_law_pool", "_law_take", "_law_raw", "_law_calm", "_law_rows", "_law_phase", "_law_same_phase", "_law_same_book", "_law_book", "_law_bad_book", "_law_field", "_law_read", "_law_text", "_law_spoilt"] : List Str) ++ (["_law_read_all", "_law_parsed"] : List Str)
abbrev Rr : PySem.W.OpenRow := PySem.W.OpenLaw.row PySem.Challenge.rw_huerounds_k11_book_text
abbrev hkA : PySem.W.Hook := hookX 6 faAll fxAll dsAll
def obA (s : PySem.W.SharedT) : AlX := obsXG 6 faAll fxAll dsAll (HandSHeadRun.getT s)
theorem obA_eq (s : PySem.W.SharedT) : obA s = hkA.obs s.abs := obsXG_eq (HandSHeadRun.getT_eq s)
theorem runA (w : World) : HandSHeadRun.RunEq Rr (PySem.W.view Rr.prog [35]) hkA obA 8000 looseAll w := by
  intro os
  kernel_rfl

theorem kb_Phase_barrier_visits_pauses_stand_skips {K : PySem.W.Frag} {mg : Str → Option Value} (T : Tx K mg) : ∃ g, KBn K (fdD K (mad "Phase" "__init__" K)) P_Phase_init 2 ["barrier", "visits", "pauses", "stand", "skips"] g (fun us zs => us ++ ((zs.drop 0).take 1 ++ ((zs.drop 1).take 1 ++ ((zs.drop 2).take 1 ++ ((zs.drop 3).take 1 ++ ((zs.drop 4).take 1)))))) := by
  obtain ⟨mv, h⟩ := FunD.kbinds0 (ps := P_Phase_init) T.F_Phase_init 2 ["barrier", "visits", "pauses", "stand", "skips"] ([] : List (Str × V)) (fun us mz zs => us ++ ((zs.drop 0).take 1 ++ ((zs.drop 1).take 1 ++ ((zs.drop 2).take 1 ++ ((zs.drop 3).take 1 ++ ((zs.drop 4).take 1)))))) (by simp) (by simp) (fun r1 r2 r3 => Vals.append r1 (Vals.append (Vals.take 1 (Vals.drop 0 r3)) (Vals.append (Vals.take 1 (Vals.drop 1 r3)) (Vals.append (Vals.take 1 (Vals.drop 2 r3)) (Vals.append (Vals.take 1 (Vals.drop 3 r3)) (Vals.take 1 (Vals.drop 4 r3)))))))
    (fun D doc pm an cdv ct us mv ws h1 h2 h3 => match us, mv, ws, h1, h2, h3 with | [_, _], [], [_, _, _, _, _], _, _, _ => rfl)
  exact ⟨_, h⟩
local macro_rules | `(tactic| walk_at "hp") => `(tactic| first
  | assumption
  | exact upd_same
  | (refine upd_old (by assumption) ?_; walk_at "hp")
  | (refine upd_oth (by assumption) ?_; walk_at "hp")
  | (refine same_get (by assumption) ?_; walk_at "hp")
  | (refine Fl.get (by assumption) (by assumption) ?_; walk_at "hp"))
local macro_rules | `(tactic| walk_at "seq") => `(tactic| first
  | assumption
  | exact T.t_BARRIERS _
  | exact SqL.of (by walk_at "hp")
  | exact SqT.of (by walk_at "hp"))
local macro_rules | `(tactic| walk_at "len") => `(tactic| first
  | exact Or.inl (by walk_at "seq")
  | exact Or.inr (by walk_at "seq"))
local macro_rules | `(tactic| walk_at "at") => `(tactic| first
  | rfl
  | assumption)

/-! ### drawn numbers -/
/-- all but l stands as it stood -/
def Fl (l : Addr) (H H' : Hp) : Prop := ∀ a o, a ≠ l → H a = some o → H' a = some o
theorem Fl.refl (l : Addr) (H : Hp) : Fl l H H := fun _ _ _ h => h
theorem Fl.trans {l : Addr} {H H1 H2 : Hp} (a : Fl l H H1) (b : Fl l H1 H2) : Fl l H H2 := fun c o n h => b c o n (a c o n h)
theorem Fl.cell {l : Addr} {H : Hp} {o : HO} : Fl l H (L2.upd H l o) := fun _ _ n h => upd_oth n h
theorem Fl.same {l : Addr} {H H' : Hp} (e : Same H H') : Fl l H H' := fun a o _ h => e a o h
theorem Fl.new {l p : Addr} {H : Hp} {o : HO} (n : H p = none) : Fl l H (L2.upd H p o) := fun _ _ _ h => upd_old n h
theorem Fl.add {l p : Addr} {H H' : Hp} {o : HO} (e : Fl l H H') (n : H' p = none) : Fl l H (L2.upd H' p o) := e.trans (Fl.new n)
theorem Fl.put {l : Addr} {H H' : Hp} {o : HO} (e : Fl l H H') : Fl l H (L2.upd H' l o) := e.trans Fl.cell
theorem Fl.get {l a : Addr} {H H' : Hp} {o : HO} (e : Fl l H H') (n : a ≠ l) (h : H a = some o) : H' a = some o := e a o n h
theorem Fl.free {l p : Addr} {H H' : Hp} (e : Fl l H H') (n : p ≠ l) (h : H' p = none) : H p = none := by
  cases q : H p with
  | none => rfl
  | some o => rw [e p o n q] at h; cases h
theorem Fl.seq {K : PySem.W.Frag} {l a : Addr} {H H' : Hp} {xs : List V} (e : Fl l H H') (n : a ≠ l) (h : SqL K H a xs) : SqL K H' a xs := by
  rcases h with (h | ⟨o, h⟩) | h
  · exact .inl (.inl (e _ _ n h))
  · exact .inl (.inr ⟨o, e _ _ n h⟩)
  · exact .inr h
/-- a pool of drawn numbers stands at l -/
def PoolAt (H : Hp) (l : Addr) : Prop := ∃ ns : List Int, H l = some (.lst (ns.map V.int)) ∧ ns.length ≤ 5000
theorem PoolAt.upd {H : Hp} {l p : Addr} {o : HO} (h : PoolAt H l) (n : H p = none) : PoolAt (L2.upd H p o) l := by
  obtain ⟨ns, h1, h2⟩ := h
  exact ⟨ns, upd_old n h1, h2⟩
theorem PoolAt.ne {H : Hp} {l p : Addr} (h : PoolAt H l) (n : H p = none) : p ≠ l := by
  obtain ⟨ns, h1, _⟩ := h
  exact (ne_of_none h1 n).symm
/-- a pool drawn from: a number below m, l alone is changed -/
def spPool (K : PySem.W.Frag) : Sp := fun vs H Q _ => ∃ (a : Addr) (ns : List Int), vs = [.ref a] ∧ SqL K H a (ns.map V.int) ∧ ns.length ≤ 63 ∧
  ∀ p H', H p = none → Same H H' → PoolAt H' p → Q (.ref p) H'
def spTake : Sp := fun vs H Q _ => ∃ (l : Addr) (m : Int), vs = [.ref l, .int m] ∧ PoolAt H l ∧ 0 < m ∧
  ∀ v H', 0 ≤ v → v < m → Fl l H H' → PoolAt H' l → Q (.int v) H'
def spNumber : Sp := fun vs H Q _ => ∃ (l : Addr), vs = [.ref l] ∧ PoolAt H l ∧ ∀ v H', 0 ≤ v → v.toNat < 2 ^ 200 → Fl l H H' → PoolAt H' l → Q (.int v) H'
section
variable {P : Program} [SupP P pFile] {w : World} {K : PySem.W.Frag} {mg : Str → Option Value} {base : Heap}
theorem ok_l_pool (T : Tx K mg) : FnOk P w K mg base CX0 1 (gad "_law_pool" K) (fdD K (gad "_law_pool" K)) P_l_pool (spPool K) := by
  refine T.F_l_pool.ok sc_l_pool (fun vs H Q E h => ?_) (fun cdv A outer s H vs Q E hr h => ?_)
  · obtain ⟨a, ns, rfl, _⟩ := h; rfl
  · obtain ⟨a, ns, rfl, hS, hlen, k⟩ := h
    refine ⟨_, PSs.nox ((pss_cons (ps_set (i := 1) sc_l_pool.nd rfl (Or.inl rfl) (pe_lst pa_nil))
      (pss_cons (ps_set (i := 2) sc_l_pool.nd rfl (Or.inl rfl) pe_int)
      (pss_cons (ps_for PassesOwn.never rfl (pi_list (pv 0)) (pg_name (i := 3) sc_l_pool.nd rfl (Or.inl rfl)) (pss_cons (ps_set (i := 4) sc_l_pool.nd rfl (Or.inl rfl) (pe_callB call_abs (by rfl) T.n_abs (by decide +kernel) (pa_cons (pe_callTy call_intI (by rfl) T.n_int (by decide +kernel) (pa_cons (pv 3) pa_nil)) pa_nil)))
      (pss_cons (ps_set (i := 2) sc_l_pool.nd rfl (Or.inl rfl) (pe_op op_mod (pe_callTy call_intI (by rfl) T.n_int (by decide +kernel) (pa_cons (pe_op op_add (pe_op op_mul (pv 2) pe_int) (pe_callTy call_intI (by rfl) T.n_int (by decide +kernel) (pa_cons (pv 3) pa_nil))) pa_nil)) pe_int))
      (pss_one (ps_if (pt_cmpR op_ge (pv 4) (pe_op op_pow pe_int pe_int) (nomark _)) (pss_one (ps_for PassesOwn.never rfl (pi_range1 (by rfl) T.n_range (pa_cons pe_int pa_nil)) (pg_name (i := 5) sc_l_pool.nd rfl (Or.inl rfl)) (pss_one (ps_if (pt_cmpR op_gt (pv 4) pe_int (nomark _)) (pss_cons (ps_expr (pe_bm PySem.F.plainAttrs_list PySem.F.slot_list_append PySem.F.type_list_append mt_append (pv 1) (pa_cons (pe_op op_mod (pe_callTy call_intI (by rfl) T.n_int (by decide +kernel) (pa_cons (pv 4) pa_nil)) pe_int) pa_nil)))
      (pss_one (ps_set (i := 4) sc_l_pool.nd rfl (Or.inl rfl) (pe_op op_fdiv (pv 4) pe_int)))) pss_nil)))) (pss_one (ps_for PassesOwn.never rfl (pi_range1 (by rfl) T.n_range (pa_cons pe_int pa_nil)) (pg_name (i := 5) sc_l_pool.nd rfl (Or.inl rfl)) (pss_cons (ps_set (i := 6) sc_l_pool.nd rfl (Or.inl rfl) (pe_op op_mod (pe_callTy call_intI (by rfl) T.n_int (by decide +kernel) (pa_cons (pe_op op_add (pe_op op_add (pe_op op_add (pe_op op_mul (pv 4) pe_int) (pe_op op_mul (pv 5) pe_int)) (pe_op op_mul pe_int (pe_callTy call_intB (by rfl) T.n_int (by decide +kernel) (pa_cons (pe_cmpR op_lt (pv 3) pe_int (nomark _)) pa_nil)))) pe_int) pa_nil)) pe_int))
      (pss_one (ps_expr (pe_bm PySem.F.plainAttrs_list PySem.F.slot_list_append PySem.F.type_list_append mt_append (pv 1) (pa_cons (pe_op op_mod (pe_callTy call_intI (by rfl) T.n_int (by decide +kernel) (pa_cons (pe_op op_mul (pv 6) (pv 6)) pa_nil)) pe_int) pa_nil))))))))))))
      (pss_cons (ps_for PassesOwn.never rfl (pi_range1 (by rfl) T.n_range (pa_cons (pe_op op_mul pe_int (pe_callTy call_intB (by rfl) T.n_int (by decide +kernel) (pa_cons (pe_cmpR op_gt (pe_callB call_len_seq (by rfl) T.n_len (by decide +kernel) (pa_cons (pv 0) pa_nil)) pe_int (nomark _)) pa_nil))) pa_nil)) (pg_name (i := 5) sc_l_pool.nd rfl (Or.inl rfl)) (pss_cons (ps_set (i := 2) sc_l_pool.nd rfl (Or.inl rfl) (pe_op op_mod (pe_callTy call_intI (by rfl) T.n_int (by decide +kernel) (pa_cons (pe_op op_add (pe_op op_mul (pv 2) pe_int) pe_int) pa_nil)) pe_int))
      (pss_one (ps_expr (pe_bm PySem.F.plainAttrs_list PySem.F.slot_list_append PySem.F.type_list_append mt_append (pv 1) (pa_cons (pe_op op_mod (pe_callTy call_intI (by rfl) T.n_int (by decide +kernel) (pa_cons (pe_op op_fdiv (pv 2) pe_int) pa_nil)) pe_int) pa_nil))))))
      (pss_one (ps_ret (pv 1)))))))), ?_⟩
    refine ⟨by decide, fun l nl => ?_⟩
    refine ⟨_, rfl, a, rfl, ⟨_, (Same.new nl).seq hS⟩, for_list (K := K) (a := a) (xs := ns.map V.int)
      (fun i σ H' => ∃ (qs : List Int) (mix : Int) (c n q d : Option V), σ = [some (.ref a), some (.ref l), some (.int mix), c, n, q, d] ∧ Same H H' ∧ H' l = some (.lst (qs.map V.int)) ∧ qs.length ≤ 60 * i)
      ⟨[], 7, none, none, none, none, rfl, Same.new nl, upd_same, Nat.zero_le _⟩ (fun i σ H' _ ⟨_, _, _, _, _, _, _, S, _⟩ => S.seq hS) ?_ ?_⟩
    · rintro i y σ H1 hi ⟨qs, mix, c, n, q, d, rfl, S, hl, hz⟩
      have hi63 : i < 63 := by
        have z := (List.getElem?_eq_some_iff.mp hi).1
        rw [List.length_map] at z
        omega
      obtain ⟨u, rfl⟩ : ∃ u, y = V.int u := by
        rw [List.getElem?_map] at hi
        cases e : ns[i]? with
        | none => rw [e] at hi; cases hi
        | some u => rw [e] at hi; exact ⟨u, (Option.some.inj hi).symm⟩
      refine ⟨_, rfl, _, rfl, _, rfl, _, rfl, _, _, rfl, rfl, (.inr ⟨by decide, by decide⟩), _, rfl, _, rfl, _, _, rfl, rfl, _, rfl, _, _, rfl, rfl, (show (0 : Int) < 2147483647 by decide), _, rfl, _, _, rfl, rfl, ⟨by decide, by decide, by decide⟩, _, _, rfl, rfl, _, rfl, ?_⟩
      refine iteB (fun _ => ?_) (fun _ => ?_)
      · refine ⟨60, rfl, by decide, by decide, for_range (n := 60)
          (fun j σ H' => ∃ (qs : List Int) (mix n : Int) (c q d : Option V), σ = [some (.ref a), some (.ref l), some (.int mix), c, some (.int n), q, d] ∧ Same H H' ∧ H' l = some (.lst (qs.map V.int)) ∧ qs.length ≤ 60 * i + j)
          ⟨qs, _, _, _, _, _, rfl, S, hl, hz⟩ ?_ ?_⟩
        · rintro j σ H2 hj ⟨qs, mix, n, c, q, d, rfl, S, hl, hz⟩
          refine ⟨_, rfl, _, _, rfl, rfl, _, rfl, ?_⟩
          refine iteB (fun _ => ?_) (fun _ => ?_)
          · refine ⟨_, rfl, .inl ⟨rfl, _, SqL.of hl⟩, _, rfl, _, rfl, _, _, rfl, rfl, (show (0 : Int) < 1000003 by decide), _, _, _, rfl, rfl, hl, (by rw [List.length_map]; exact Nat.lt_of_le_of_lt (show qs.length ≤ 4000 by omega) (by decide)), _, rfl, _, _, rfl, rfl, ⟨by decide, by decide⟩, ?_⟩
            refine ⟨qs ++ [n % 1000003], _, _, _, _, _, rfl, fun b o e => ?_, by rw [upd_same, List.map_append]; rfl, by rw [List.length_append, List.length_singleton]; omega⟩
            rw [upd_ne (ne_of_none e nl)]
            exact S b o e
          · exact ⟨qs, _, _, _, _, _, rfl, S, hl, by omega⟩
        · rintro σ H2 ⟨qs, mix, n, c, q, d, rfl, S, hl, hz⟩
          exact ⟨qs, _, _, _, _, _, rfl, S, hl, by omega⟩
      · refine ⟨3, rfl, by decide, by decide, for_range (n := 3)
          (fun j σ H' => ∃ (qs : List Int) (mix n u : Int) (q d : Option V), σ = [some (.ref a), some (.ref l), some (.int mix), some (.int u), some (.int n), q, d] ∧ Same H H' ∧ H' l = some (.lst (qs.map V.int)) ∧ qs.length ≤ 60 * i + j)
          ⟨qs, _, _, _, _, _, rfl, S, hl, hz⟩ ?_ ?_⟩
        · rintro j σ H2 hj ⟨qs, mix, n, u, q, d, rfl, S, hl, hz⟩
          refine ⟨_, rfl, _, _, rfl, rfl, (.inr ⟨by decide, by decide⟩), _, rfl, _, _, rfl, rfl, (.inr ⟨by decide, by decide⟩), _, _, rfl, rfl, _, rfl, _, _, rfl, rfl, _, rfl, _, _, rfl, rfl, (.inl ⟨by decide, by decide⟩), _, _, rfl, rfl, _, _, rfl, rfl, _, rfl, _, _, rfl, rfl, (show (0 : Int) < 2147483647 by decide), _, rfl, .inl ⟨rfl, _, SqL.of hl⟩, _, rfl, _, rfl, _, _, rfl, rfl, .inl ?_, _, rfl, _, _, rfl, rfl, (show (0 : Int) < 1000003 by decide), _, _, _, rfl, rfl, hl, (by rw [List.length_map]; exact Nat.lt_of_le_of_lt (show qs.length ≤ 4000 by omega) (by decide)), ?_⟩
          · constructor <;> omega
          · refine ⟨qs ++ [_], _, _, _, _, _, rfl, fun b o e => ?_, by rw [upd_same, List.map_append]; rfl, by rw [List.length_append, List.length_singleton]; omega⟩
            rw [upd_ne (ne_of_none e nl)]
            exact S b o e
        · rintro σ H2 ⟨qs, mix, n, u, q, d, rfl, S, hl, hz⟩
          exact ⟨qs, _, _, _, _, _, rfl, S, hl, by omega⟩
    · rintro σ H1 ⟨qs, mix, c, n, q, d, rfl, S, hl, hz⟩
      rw [List.length_map] at hz
      refine ⟨_, rfl, _, _, rfl, .inl (S.seq hS), _, _, rfl, rfl, _, rfl, _, _, rfl, rfl, (.inl ⟨by decide, by decide⟩), ?_⟩
      refine ⟨_, rfl, by split <;> decide, by split <;> decide, for_range (n := _)
          (fun j σ H' => ∃ (qs : List Int) (mix : Int) (c n q d : Option V), σ = [some (.ref a), some (.ref l), some (.int mix), c, n, q, d] ∧ Same H H' ∧ H' l = some (.lst (qs.map V.int)) ∧ qs.length ≤ 4000 + j)
          ⟨qs, _, _, _, _, _, rfl, S, hl, by omega⟩ ?_ ?_⟩
      · rintro j σ H2 hj ⟨qs, mix, c, n, q, d, rfl, S, hl, hz⟩
        have hj2 : j < 240 := by
          revert hj
          split <;> omega
        refine ⟨_, rfl, _, _, rfl, rfl, (.inr ⟨by decide, by decide⟩), _, _, rfl, rfl, _, rfl, _, _, rfl, rfl, (show (0 : Int) < 2147483647 by decide), _, rfl, .inl ⟨rfl, _, SqL.of hl⟩, _, rfl, _, _, rfl, rfl, ⟨by decide, by decide⟩, _, rfl, _, _, rfl, rfl, (show (0 : Int) < 1000003 by decide), _, _, _, rfl, rfl, hl, (by rw [List.length_map]; exact Nat.lt_of_le_of_lt (show qs.length ≤ 5000 by omega) (by decide)), ?_⟩
        refine ⟨qs ++ [_], _, _, _, _, _, rfl, fun b o e => ?_, by rw [upd_same, List.map_append]; rfl, by rw [List.length_append, List.length_singleton]; omega⟩
        rw [upd_ne (ne_of_none e nl)]
        exact S b o e
      · rintro σ H2 ⟨qs, mix, c, n, q, d, rfl, S, hl, hz⟩
        refine ⟨_, rfl, k l H2 nl S ⟨qs, hl, ?_⟩⟩
        revert hz
        split <;> (simp only [Int.mul_one, Int.mul_zero]; intro hz; omega)
theorem seq0 {n : Nat} {m : Nat} (h : n = m + 1) : seqIndex? 0 n = some 0 := by
  subst h
  unfold seqIndex?
  simp
  try omega
theorem ok_l_take (T : Tx K mg) : FnOk P w K mg base CX0 1 (gad "_law_take" K) (fdD K (gad "_law_take" K)) P_l_take spTake := by
  refine T.F_l_take.ok sc_l_take (fun vs H Q E h => ?_) (fun cdv A outer s H vs Q E hr h => ?_)
  · obtain ⟨l, m, rfl, _⟩ := h; rfl
  · obtain ⟨l, m, rfl, ⟨ns, hl, hz⟩, hm, k⟩ := h
    refine ⟨_, PSs.nox ((pss_cons (ps_if (pt_cmpR op_eq (pe_callB call_len_seq (by rfl) T.n_len (by decide +kernel) (pa_cons (pv 0) pa_nil)) pe_int (nomark _)) (pss_one (ps_ret pe_int)) pss_nil)
      (pss_one (ps_ret (pe_op op_mod (pe_callTy call_intI (by rfl) T.n_int (by decide +kernel) (pa_cons (pe_bm PySem.F.plainAttrs_list PySem.F.slot_list_pop PySem.F.type_list_pop mt_popAt (pv 0) (pa_cons pe_int pa_nil)) pa_nil)) (pv 1)))))), ?_⟩
    refine ⟨_, rfl, _, _, rfl, (by walk_at "len"), rfl, _, rfl, ?_⟩
    cases ns with
    | nil =>
      refine iteT ?_
      exact k 0 H (Int.le_refl _) hm (Fl.refl _ _) ⟨[], hl, hz⟩
    | cons n t =>
      refine iteB (fun c => ?_) (fun _ => ?_)
      · have c1 := of_decide_eq_true c
        injection c1 with c2
        simp only [List.map_cons, List.length_cons] at c2
        omega
      · refine ⟨_, rfl, .inl ⟨rfl, _, SqL.of hl⟩, _, _, _, 0, _, rfl, rfl, hl, by decide, by decide, seq0 (m := t.length) (by simp), rfl, _, rfl, _, rfl, _, _, rfl, rfl, hm, ?_⟩
        exact k _ _ (Int.emod_nonneg _ (by omega)) (Int.emod_lt_of_pos _ hm) Fl.cell ⟨t, upd_same, by simp only [List.length_cons] at hz; omega⟩
end

/-! ### truth values asked; _law_is, _law_int -/
theorem few {f : Str} {v : V} {fs : List (Str × V)} {n : Nat} (h : fs.length < n) : (putF f v fs).length < n + 1 := Nat.lt_of_le_of_lt (length_putF f v fs) (Nat.succ_lt_succ h)
theorem iteD {p : Prop} [Decidable p] {A B : Prop} (h : p) (a : A) : if decide p = true then A else B := by rw [decide_eq_true h]; exact iteT a
theorem iteDN {p : Prop} [Decidable p] {A B : Prop} (h : ¬ p) (b : B) : if decide p = true then A else B := by rw [decide_eq_false h]; exact iteF b
theorem iteND {p : Prop} [Decidable p] {A B : Prop} (h : ¬ p) (a : A) : if (!decide p) = true then A else B := by rw [decide_eq_false h]; exact iteT a
theorem iteE {x : Bool} {A B : Prop} (e : x = false) (b : B) : if x = true then A else B := by rw [e]; exact iteF b
theorem iteY {x : Bool} {A B : Prop} (e : x = true) (a : A) : if x = true then A else B := by rw [e]; exact iteT a
def spIs : Sp := fun vs H Q _ => ∃ (x : V) (b : Bool), vs = [x, .bl b] ∧ (∃ c, x = .bl c ∧ Q (.bl (c == b)) H)
def spInt : Sp := fun vs H Q _ => ∃ i : Int, vs = [.int i] ∧ Q (.bl true) H
section
variable {P : Program} [SupP P pFile] {w : World} {K : PySem.W.Frag} {mg : Str → Option Value} {base : Heap}
theorem ok_l_int (T : Tx K mg) : FnOk P w K mg base CX0 1 (gad "_law_int" K) (fdD K (gad "_law_int" K)) P_l_int spInt := by
  refine T.F_l_int.ok sc_l_int (fun vs H Q E h => ?_) (fun cdv A outer s H vs Q E hr h => ?_)
  · obtain ⟨i, rfl, _⟩ := h; rfl
  · obtain ⟨i, rfl, k⟩ := h
    refine ⟨_, PSs.nox ((pss_one (ps_ret (pe_and (pe_callB call_isi (by rfl) T.n_isinstance (by decide +kernel) (pa_cons (pv 0) (pa_cons (pe_bty "int" rfl T.n_int (by decide +kernel)) pa_nil))) (pe_one (pe_not (pe_callB call_isi (by rfl) T.n_isinstance (by decide +kernel) (pa_cons (pv 0) (pa_cons (pe_bty "bool" rfl T.n_bool (by decide +kernel)) pa_nil))))))))), ?_⟩
    refine ⟨_, rfl, _, _, .type "int", .type "int", true, rfl, .ty _, .base (.int _), kit_ty (by decide +kernel), _, rfl, iteT ?_⟩
    exact ⟨_, rfl, _, _, .type "int", .type "bool", false, rfl, .ty _, .base (.int _), kit_ty (by decide +kernel), _, rfl, k⟩
theorem ok_l_is (T : Tx K mg) : FnOk P w K mg base CX0 1 (gad "_law_is" K) (fdD K (gad "_law_is" K)) P_l_is spIs := by
  refine T.F_l_is.ok sc_l_is (fun vs H Q E h => ?_) (fun cdv A outer s H vs Q E hr h => ?_)
  · obtain ⟨x, b, rfl, _⟩ := h; rfl
  · obtain ⟨x, b, rfl, c, rfl, k⟩ := h
    refine ⟨_, PSs.nox ((pss_one (ps_ret (pe_and (pe_callB call_isi (by rfl) T.n_isinstance (by decide +kernel) (pa_cons (pv 0) (pa_cons (pe_bty "bool" rfl T.n_bool (by decide +kernel)) pa_nil))) (pe_one (pe_cmpR op_eq (pv 0) (pv 1) (nomark _))))))), ?_⟩
    refine ⟨_, rfl, _, _, .type "bool", .type "bool", true, rfl, .ty _, .base (.bl _), kit_ty (by decide +kernel), _, rfl, iteT ?_⟩
    refine ⟨_, rfl, _, rfl, rfl, ?_⟩
    have e : decide (V.bl c = V.bl b) = (c == b) := by cases c <;> cases b <;> rfl
    show Q (.bl (decide (V.bl c = V.bl b))) H
    rw [e]
    exact k
end

/-! ### phases -/
inductive Bar where
  | none | follow | plain | guarded
  deriving DecidableEq
def Bar.s : Bar → Str
  | .none => "none"
  | .follow => "follow"
  | .plain => "plain"
  | .guarded => "guarded"
def barAt (i : Int) : Bar := if i = 0 then .none else if i = 1 then .follow else if i = 2 then .plain else .guarded
structure Ph where
  hue : Int
  bar : Bar
  vis : Bool
  pau : Bool
  std : Int
  skp : Bool
  deriving DecidableEq
structure Ph.Ok (r : Ph) : Prop where
  h0 : 0 ≤ r.hue
  h1 : r.hue ≤ 5
  s0 : 0 ≤ r.std
  s1 : r.std ≤ 7
/-- the fields as values: a row -/
def Ph.vs (r : Ph) : List V := [.int r.hue, .str r.bar.s, .bl r.vis, .bl r.pau, .int r.std, .bl r.skp]
abbrev barVs : List V := [V.str "none", V.str "follow", V.str "plain", V.str "guarded"]
theorem bar_in (b : Bar) : inV (.str b.s) barVs = true := by cases b <;> decide +kernel
theorem at_bar {i : Int} (h0 : 0 ≤ i) (h1 : i < 4) : atI barVs i = some (.str (barAt i).s) := by
  rcases (by omega : i = 0 ∨ i = 1 ∨ i = 2 ∨ i = 3) with rfl | rfl | rfl | rfl <;> rfl
/-- the attributes of a phase, in the order in which they are stored -/
def phF (r : Ph) : List (Str × V) := putF "skips" (.bl r.skp) (putF "stand" (.int r.std) (putF "pauses" (.bl r.pau) (putF "visits" (.bl r.vis) (putF "barrier" (.str r.bar.s) (putF "hue" (.int r.hue) [])))))
section
variable (r : Ph)
theorem ph_hue : (phF r).lookup ("hue" : Str) = some (.int r.hue) := by
  unfold phF
  simp only [lookup_putF]
  rw [if_neg (by decide +kernel), if_neg (by decide +kernel), if_neg (by decide +kernel), if_neg (by decide +kernel), if_neg (by decide +kernel), if_pos trivial]
theorem ph_barrier : (phF r).lookup ("barrier" : Str) = some (.str r.bar.s) := by
  unfold phF
  simp only [lookup_putF]
  rw [if_neg (by decide +kernel), if_neg (by decide +kernel), if_neg (by decide +kernel), if_neg (by decide +kernel), if_pos trivial]
theorem ph_visits : (phF r).lookup ("visits" : Str) = some (.bl r.vis) := by
  unfold phF
  simp only [lookup_putF]
  rw [if_neg (by decide +kernel), if_neg (by decide +kernel), if_neg (by decide +kernel), if_pos trivial]
theorem ph_pauses : (phF r).lookup ("pauses" : Str) = some (.bl r.pau) := by
  unfold phF
  simp only [lookup_putF]
  rw [if_neg (by decide +kernel), if_neg (by decide +kernel), if_pos trivial]
theorem ph_stand : (phF r).lookup ("stand" : Str) = some (.int r.std) := by
  unfold phF
  simp only [lookup_putF]
  rw [if_neg (by decide +kernel), if_pos trivial]
theorem ph_skips : (phF r).lookup ("skips" : Str) = some (.bl r.skp) := by
  unfold phF
  simp only [lookup_putF]
  rw [if_pos trivial]
theorem ph_no {m : Str} (h : ¬ (m = "skips" ∨ m = "stand" ∨ m = "pauses" ∨ m = "visits" ∨ m = "barrier" ∨ m = "hue")) : (phF r).lookup m = none := by
  unfold phF
  simp only [lookup_putF]
  rw [if_neg (fun z => h (by simp [z])), if_neg (fun z => h (by simp [z])), if_neg (fun z => h (by simp [z])), if_neg (fun z => h (by simp [z])), if_neg (fun z => h (by simp [z])), if_neg (fun z => h (by simp [z]))]
  rfl
end
/-- a phase stands at a -/
def PhAt (K : PySem.W.Frag) (H : Hp) (a : Addr) (r : Ph) : Prop := ∃ dx, H a = some (.ins (gad "Phase" K) dx (phF r))
theorem PhAt.fl {K : PySem.W.Frag} {H H' : Hp} {a l : Addr} {r : Ph} (h : PhAt K H a r) (e : Fl l H H') (n : a ≠ l) : PhAt K H' a r := by
  obtain ⟨dx, h⟩ := h
  exact ⟨dx, e _ _ n h⟩
theorem PhAt.same {K : PySem.W.Frag} {H H' : Hp} {a : Addr} {r : Ph} (h : PhAt K H a r) (e : Same H H') : PhAt K H' a r := by
  obtain ⟨dx, h⟩ := h
  exact ⟨dx, e _ _ h⟩
/-! ### promises -/
/-- a question to a phase that changes nothing -/
def spPh (K : PySem.W.Frag) (g : Ph → V) : Sp := fun vs H Q _ => ∃ (a : Addr) (r : Ph), vs = [.ref a] ∧ PhAt K H a r ∧ r.Ok ∧ Q (g r) H
/-- a row is drawn: a new tuple -/
def spRaw : Sp := fun vs H Q _ => ∃ (l : Addr), vs = [.ref l] ∧ PoolAt H l ∧
  ∀ (r : Ph) t H', r.Ok → H t = none → t ≠ l → Fl l H H' → PoolAt H' l → H' t = some (.tup r.vs) → Q (.ref t) H'
def badOf (h : Int) : Int := Builtin.bitXor 63 (1 * 2 ^ h.toNat)
section
variable {P : Program} [SupP P pFile] {w : World} {K : PySem.W.Frag} {mg : Str → Option Value} {base : Heap}
theorem ok_l_raw (T : Tx K mg) : FnOk P w K mg base CX0 3 (gad "_law_raw" K) (fdD K (gad "_law_raw" K)) P_l_raw spRaw := by
  refine T.F_l_raw.ok sc_l_raw (fun vs H Q E h => ?_) (fun cdv A outer s H vs Q E hr h => ?_)
  · obtain ⟨l, rfl, _⟩ := h; rfl
  · obtain ⟨l, rfl, hP, k⟩ := h
    refine ⟨_, PSs.nox ((pss_cons (ps_set (i := 1) sc_l_raw.nd rfl (Or.inl rfl) (pe_call (ok_l_take (P := P) T) (hr.mono (by decide)) rfl T.g_l_take T.F_l_take.kp (bd_l_take T) .nil pass0 (pa_cons (pv 0) (pa_cons pe_int pa_nil))))
      (pss_cons (ps_set (i := 2) sc_l_raw.nd rfl (Or.inl rfl) (pe_ix ix_list (pe_lst (pa_cons pe_str (pa_cons pe_str (pa_cons pe_str (pa_cons pe_str pa_nil))))) (pe_op op_mod (pe_callTy call_intI (by rfl) T.n_int (by decide +kernel) (pa_cons (pe_op op_fdiv (pv 1) pe_int) pa_nil)) pe_int) (fun _ _ => rfl)))
      (pss_cons (ps_set (i := 3) sc_l_raw.nd rfl (Or.inl rfl) (pe_callB (call_max2 rfl) (by rfl) T.n_max (by decide +kernel) (pa_cons pe_int (pa_cons (pe_op op_sub (pe_op op_mod (pe_callTy call_intI (by rfl) T.n_int (by decide +kernel) (pa_cons (pe_op op_fdiv (pv 1) pe_int) pa_nil)) pe_int) pe_int) pa_nil))))
      (pss_one (ps_ret (pe_tup (pa_cons (pe_op op_mod (pe_callTy call_intI (by rfl) T.n_int (by decide +kernel) (pa_cons (pv 1) pa_nil)) pe_int) (pa_cons (pv 2) (pa_cons (pe_cmpR op_eq (pe_op op_mod (pe_callTy call_intI (by rfl) T.n_int (by decide +kernel) (pa_cons (pe_op op_fdiv (pv 1) pe_int) pa_nil)) pe_int) pe_int (nomark _)) (pa_cons (pe_cmpR op_gt (pe_op op_mod (pe_callTy call_intI (by rfl) T.n_int (by decide +kernel) (pa_cons (pe_op op_fdiv (pv 1) pe_int) pa_nil)) pe_int) pe_int (nomark _)) (pa_cons (pv 3) (pa_cons (pe_cmpR op_eq (pe_op op_mod (pe_callTy call_intI (by rfl) T.n_int (by decide +kernel) (pa_cons (pe_op op_fdiv (pv 1) pe_int) pa_nil)) pe_int) pe_int (nomark _)) pa_nil))))))))))))), ?_⟩
    refine ⟨_, rfl, l, 1000003, rfl, hP, by decide, fun c H1 c0 c1 o1 P1 => ?_⟩
    have hb := at_bar (i := c / 6 % 4) (by omega) (by omega)
    refine ⟨(show (4 : Nat) ≤ sizeLine by decide), fun p1 np1 => ⟨_, rfl, _, _, rfl, rfl, ⟨by decide, by decide⟩, _, rfl, _, _, rfl, rfl, (show (0 : Int) < 4 by decide), _, _, _, _, rfl, rfl, SqL.of upd_same, hb, _, rfl, _, _, rfl, rfl, ⟨by decide, by decide⟩, _, rfl, _, _, rfl, rfl, (show (0 : Int) < 16 by decide), _, _, rfl, rfl, _, _, rfl, _, rfl, _, rfl, _, _, rfl, rfl, (show (0 : Int) < 6 by decide), _, rfl, _, rfl, _, _, rfl, rfl, ⟨by decide, by decide⟩, _, rfl, _, _, rfl, rfl, (show (0 : Int) < 2 by decide), rfl, _, rfl, _, _, rfl, rfl, ⟨by decide, by decide⟩, _, rfl, _, _, rfl, rfl, (show (0 : Int) < 4 by decide), _, _, rfl, rfl, _, rfl, _, rfl, _, _, rfl, rfl, ⟨by decide, by decide⟩, _, rfl, _, _, rfl, rfl, (show (0 : Int) < 5 by decide), rfl, (show (6 : Nat) ≤ sizeLine by decide), fun t nt => ?_⟩⟩
    have P2 := P1.upd (o := .lst barVs) np1
    refine k ⟨c % 6, barAt (c / 6 % 4), _, _, _, _⟩ t _ ⟨by show 0 ≤ c % 6; omega, by show c % 6 ≤ 5; omega, ?_, ?_⟩ ?_ (P2.ne nt) ((o1.add np1).add nt) (P2.upd nt) upd_same
    · show (0 : Int) ≤ if (c / 192 % 16 - 8) > 0 then _ else _
      split <;> omega
    · show (if (c / 192 % 16 - 8) > 0 then (c / 192 % 16 - 8) else 0) ≤ (7 : Int)
      split <;> omega
    · exact (o1.add np1).free (P2.ne nt) nt
end

/-! ### phases with any fields; Phase.__init__ with its refusals -/
structure Rw where
  hue : Int
  bar : Str
  vis : Bool
  pau : Bool
  std : Int
  skp : Bool
  deriving DecidableEq
def Rw.vs (r : Rw) : List V := [.int r.hue, .str r.bar, .bl r.vis, .bl r.pau, .int r.std, .bl r.skp]
def rwF (r : Rw) : List (Str × V) := putF "skips" (.bl r.skp) (putF "stand" (.int r.std) (putF "pauses" (.bl r.pau) (putF "visits" (.bl r.vis) (putF "barrier" (.str r.bar) (putF "hue" (.int r.hue) [])))))
def Ph.rw (r : Ph) : Rw := ⟨r.hue, r.bar.s, r.vis, r.pau, r.std, r.skp⟩
theorem Ph.rwF (r : Ph) : rwF r.rw = phF r := rfl
def barIn (b : Str) : Bool := inV (.str b) barVs
/-- the first bad field -/
def Rw.bad (r : Rw) : Option Str := if 0 ≤ r.hue ∧ r.hue ≤ 5 then (if barIn r.bar = true then (if 0 ≤ r.std ∧ r.std ≤ 7 then none else some "stand") else some "barrier") else some "hue"
theorem Ph.good {r : Ph} (ok : r.Ok) : r.rw.bad = none := by
  unfold Rw.bad
  rw [if_pos (show 0 ≤ r.rw.hue ∧ r.rw.hue ≤ 5 from ⟨ok.h0, ok.h1⟩), if_pos (show barIn r.rw.bar = true from bar_in r.bar), if_pos (show 0 ≤ r.rw.std ∧ r.rw.std ≤ 7 from ⟨ok.s0, ok.s1⟩)]
theorem bar_of {b : Str} (h : barIn b = true) : ∃ q : Bar, b = q.s := by
  have e : ∀ (x y : Str), eqV (.str x) (.str y) = true → x = y := fun x y h => eq_of_beq h
  unfold barIn inV at h
  rcases List.any_eq_true.mp h with ⟨v, hv, h2⟩
  simp only [List.mem_cons, List.not_mem_nil, or_false] at hv
  rcases hv with rfl | rfl | rfl | rfl
  · exact ⟨.none, (e _ _ h2).symm⟩
  · exact ⟨.follow, (e _ _ h2).symm⟩
  · exact ⟨.plain, (e _ _ h2).symm⟩
  · exact ⟨.guarded, (e _ _ h2).symm⟩
/-- what is not refused is a phase -/
theorem Rw.good {r : Rw} (h : r.bad = none) : ∃ p : Ph, p.Ok ∧ p.rw = r := by
  unfold Rw.bad at h
  split at h
  · rename_i h1
    split at h
    · rename_i h2
      split at h
      · rename_i h3
        obtain ⟨q, e⟩ := bar_of h2
        obtain ⟨a, b, c, d, f, g⟩ := r
        dsimp only at e h1 h3
        subst e
        exact ⟨⟨a, q, c, d, f, g⟩, ⟨h1.1, h1.2, h3.1, h3.2⟩, rfl⟩
      · cases h
    · cases h
  · cases h
/-- BadPhase, of the field f -/
abbrev EBad (K : PySem.W.Frag) (H : Hp) (E : XK) (f : Str) : Prop := ∀ dd H', H dd = none → Same H H' → H' dd = some (.xd [("field", .str f)]) → E (.ref (gad "BadPhase" K)) (some dd) H'
def spPhaseInit (K : PySem.W.Frag) : Sp := fun vs H Q E => ∃ (p dx : Addr) (r : Rw), vs = .ref p :: r.vs ∧ H p = some (.ins (gad "Phase" K) dx []) ∧
  (r.bad = none → ∀ H', Fl p H H' → H' p = some (.ins (gad "Phase" K) dx (rwF r)) → Q .non H') ∧ (∀ f, r.bad = some f → EBad K H E f)
section
variable {P : Program} [SupP P pFile] {w : World} {K : PySem.W.Frag} {mg : Str → Option Value} {base : Heap}
theorem ok_BadPhase_init (T : Tx K mg) : FnOk P w K mg base CX0 1 (mad "BadPhase" "__init__" K) (fdD K (mad "BadPhase" "__init__" K)) P_BadPhase_init (spEx1 K (gad "BadPhase" K) "field") := by
  obtain ⟨cc, cdv, FC⟩ := T.F_BadPhase_init
  have SKf := sup_ok T.sp_BadPhase FC
  obtain ⟨oc, od, dV, kV, doc, pm, an, ct, osl, efd, lk, hcd, hD⟩ := FC.ex
  rw [efd] at lk
  rw [efd]
  refine fnC_of (fl := pFile) (C := gad "BadPhase" K) (D := gad "BadPhase" K) lk hcd sc_BadPhase_init SKf T.ox_BadPhase T.n_super rfl ⟨_, rfl⟩ (fun vs H Q E h => ?_) (fun vs H Q E h => ?_) (fun _ => rfl) (fun _ => rfl) (fun F A outer s H vs Q E e1 e2 e3 h => ?_)
  · obtain ⟨a, v, rfl, _⟩ := h; rfl
  · obtain ⟨a, v, rfl, ha, _⟩ := h; exact ⟨a, _, rfl, ha⟩
  · obtain ⟨a, v, rfl, ha, k⟩ := h
    obtain ⟨f1, f2, f3, f4, f5, f6, f7⟩ := F
    dsimp only at e1 e2 e3
    subst e1 e2 e3
    refine ⟨_, (pss_one (ps_ost (pe_var (i := 0) rfl (Or.inl rfl)) (pe_var (i := 1) rfl (Or.inl rfl)) rfl)), ?_⟩
    exact ⟨_, rfl, _, rfl, a, _, rfl, T.ox_BadPhase, T.na_BadPhase_field, .inl ⟨ha, fun dx nd ne => k dx nd ne⟩⟩
theorem ok_Phase_init (T : Tx K mg) : FnOk P w K mg base (L2.CX P w) 3 (mad "Phase" "__init__" K) (fdD K (mad "Phase" "__init__" K)) P_Phase_init (spPhaseInit K) := by
  refine T.F_Phase_init.ok sc_Phase_init (fun vs H Q E h => ?_) (fun cdv A outer s H vs Q E hr h => ?_)
  · obtain ⟨p, dx, r, rfl, _⟩ := h; rfl
  · obtain ⟨p, dx, r, rfl, hp, k1, k2⟩ := h
    refine ⟨_, (pss_cons (ps_if (pt_not (pt_chain op_le op_le pe_int (pv 1) (pe_gi rfl T.g_MOST_HUE))) (pss_one (ps_raise rfl (takes_of rfl rfl rfl rfl) (pmk_oex T.ox_BadPhase T.ei_BadPhase.1 T.ei_BadPhase.2 (ok_BadPhase_init (P := P) T) (hr.mono (by decide)) (bd_BadPhase_init T) .nil pass0 rfl T.g_BadPhase (pa_cons pe_str pa_nil)))) pss_nil)
      (pss_cons (ps_if (pt_cmpR op_notIn_seq (pv 2) (pe_gr rfl T.g_BARRIERS) (by rfl)) (pss_one (ps_raise rfl (takes_of rfl rfl rfl rfl) (pmk_oex T.ox_BadPhase T.ei_BadPhase.1 T.ei_BadPhase.2 (ok_BadPhase_init (P := P) T) (hr.mono (by decide)) (bd_BadPhase_init T) .nil pass0 rfl T.g_BadPhase (pa_cons pe_str pa_nil)))) pss_nil)
      (pss_cons (ps_if (pt_not (pt_chain op_le op_le pe_int (pv 5) (pe_gi rfl T.g_MOST_STAND))) (pss_one (ps_raise rfl (takes_of rfl rfl rfl rfl) (pmk_oex T.ox_BadPhase T.ei_BadPhase.1 T.ei_BadPhase.2 (ok_BadPhase_init (P := P) T) (hr.mono (by decide)) (bd_BadPhase_init T) .nil pass0 rfl T.g_BadPhase (pa_cons pe_str pa_nil)))) pss_nil)
      (pss_cons (ps_fld (pv 0) (pv 1) rfl)
      (pss_cons (ps_fld (pv 0) (pv 2) rfl)
      (pss_cons (ps_fld (pv 0) (pv 3) rfl)
      (pss_cons (ps_fld (pv 0) (pv 4) rfl)
      (pss_cons (ps_fld (pv 0) (pv 5) rfl)
      (pss_one (ps_fld (pv 0) (pv 6) rfl)))))))))), ?_⟩
    have hb : ∀ f, r.bad = some f → EBad K H E f := k2
    unfold Rw.bad at hb k1
    by_cases h0 : 0 ≤ r.hue
    · refine ⟨_, rfl, _, _, rfl, rfl, _, rfl, iteD h0 ?_⟩
      by_cases h1 : r.hue ≤ 5
      · refine ⟨_, _, rfl, rfl, _, rfl, iteNS h1 ?_⟩
        rw [if_pos ⟨h0, h1⟩] at hb k1
        cases hB : barIn r.bar with
        | false =>
          refine ⟨_, rfl, _, _, rfl, .inr (T.t_BARRIERS _), rfl, rfl, _, rfl, iteY (by rw [if_pos rfl, show inV (.str r.bar) barVs = false from hB]; rfl) ?_⟩
          rw [hB, if_neg Bool.false_ne_true] at hb
          exact mkO1 (hb _ rfl)
        | true =>
          refine ⟨_, rfl, _, _, rfl, .inr (T.t_BARRIERS _), rfl, rfl, _, rfl, iteE (by rw [if_pos rfl, show inV (.str r.bar) barVs = true from hB]; rfl) ?_⟩
          rw [hB, if_pos rfl] at hb k1
          by_cases s0 : 0 ≤ r.std
          · refine ⟨_, rfl, _, _, rfl, rfl, _, rfl, iteD s0 ?_⟩
            by_cases s1 : r.std ≤ 7
            · refine ⟨_, _, rfl, rfl, _, rfl, iteNS s1 ?_⟩
              rw [if_pos ⟨s0, s1⟩] at k1
              refine ⟨_, rfl, _, rfl, p, _, dx, _, rfl, hp, T.c_Phase, T.na_Phase_hue, (Nat.zero_lt_succ _), _, rfl, _, rfl, p, _, dx, _, rfl, upd_same, T.c_Phase, T.na_Phase_barrier, few (Nat.zero_lt_succ _), _, rfl, _, rfl, p, _, dx, _, rfl, upd_same, T.c_Phase, T.na_Phase_visits, few (few (Nat.zero_lt_succ _)), _, rfl, _, rfl, p, _, dx, _, rfl, upd_same, T.c_Phase, T.na_Phase_pauses, few (few (few (Nat.zero_lt_succ _))), _, rfl, _, rfl, p, _, dx, _, rfl, upd_same, T.c_Phase, T.na_Phase_stand, few (few (few (few (Nat.zero_lt_succ _)))), _, rfl, _, rfl, p, _, dx, _, rfl, upd_same, T.c_Phase, T.na_Phase_skips, few (few (few (few (few (Nat.zero_lt_succ _))))), ?_⟩
              refine k1 rfl _ ?_ upd_same
              simp only [upd_upd]
              exact Fl.cell
            · refine ⟨_, _, rfl, rfl, _, rfl, iteND s1 ?_⟩
              rw [if_neg (fun z => s1 z.2)] at hb
              exact mkO1 (hb _ rfl)
          · refine ⟨_, rfl, _, _, rfl, rfl, _, rfl, iteDN s0 ?_⟩
            refine ⟨_, rfl, iteT ?_⟩
            rw [if_neg (fun z => s0 z.1)] at hb
            exact mkO1 (hb _ rfl)
      · refine ⟨_, _, rfl, rfl, _, rfl, iteND h1 ?_⟩
        rw [if_neg (fun z => h1 z.2)] at hb
        exact mkO1 (hb _ rfl)
    · refine ⟨_, rfl, _, _, rfl, rfl, _, rfl, iteDN h0 ?_⟩
      refine ⟨_, rfl, iteT ?_⟩
      rw [if_neg (fun z => h0 z.1)] at hb
      exact mkO1 (hb _ rfl)
end

/-! ### books -/
def bkF (l : Addr) : List (Str × V) := putF "phases" (.ref l) []
theorem bk_phases (l : Addr) : (bkF l).lookup ("phases" : Str) = some (.ref l) := by
  unfold bkF
  rw [lookup_putF, if_pos rfl]
/-- a book stands at b; its list at l; its phases -/
structure BkAt (K : PySem.W.Frag) (H : Hp) (b l : Addr) (rs : List Ph) : Prop where
  bk : ∃ dx, H b = some (.ins (gad "Book" K) dx (bkF l))
  ph : ∃ as : List Addr, H l = some (.lst (as.map V.ref)) ∧ as.length = rs.length ∧ ∀ (i : Nat) (a : Addr) (r : Ph), as[i]? = some a → rs[i]? = some r → PhAt K H a r
  n1 : 1 ≤ rs.length
  n6 : rs.length ≤ 6
  ok : ∀ r ∈ rs, r.Ok
theorem BkAt.mono {K : PySem.W.Frag} {H H' : Hp} {b l : Addr} {rs : List Ph} (h : BkAt K H b l rs) (e : Same H H') : BkAt K H' b l rs := by
  obtain ⟨⟨dx, h1⟩, ⟨as, h2, h3, h4⟩, h5, h6, h7⟩ := h
  exact ⟨⟨dx, e _ _ h1⟩, ⟨as, e _ _ h2, h3, fun i a r ha hr => (h4 i a r ha hr).same e⟩, h5, h6, h7⟩
/-- rows that were drawn: a list of tuples -/
structure RowsAt (H : Hp) (a : Addr) (rs : List Ph) : Prop where
  ls : ∃ ts : List Addr, H a = some (.lst (ts.map V.ref)) ∧ ts.length = rs.length ∧ ∀ (i : Nat) (t : Addr) (r : Ph), ts[i]? = some t → rs[i]? = some r → H t = some (.tup r.vs)
  ok : ∀ r ∈ rs, r.Ok
theorem RowsAt.mono {H H' : Hp} {a : Addr} {rs : List Ph} (h : RowsAt H a rs) (e : Same H H') : RowsAt H' a rs := by
  obtain ⟨⟨ts, h1, h2, h3⟩, h4⟩ := h
  exact ⟨⟨ts, e _ _ h1, h2, fun i t r ht hr => e _ _ (h3 i t r ht hr)⟩, h4⟩
theorem atI_nat' {α : Type} {xs : List α} {i : Int} {v : α} (h0 : 0 ≤ i) (h : xs[i.toNat]? = some v) : atI xs i = some v := by
  have e : i = ((i.toNat : Nat) : Int) := (Int.toNat_of_nonneg h0).symm
  rw [e]
  exact atI_nat h
theorem mem_get {α : Type} {xs : List α} {i : Nat} (h : i < xs.length) : ∃ x, xs[i]? = some x ∧ x ∈ xs := ⟨xs[i], List.getElem?_eq_getElem h, List.getElem_mem h⟩
/-- the i-th row -/
theorem RowsAt.row {H : Hp} {a : Addr} {rs : List Ph} (h : RowsAt H a rs) {i : Int} (h0 : 0 ≤ i) (h1 : i < rs.length) :
    ∃ (xs : List V) (t : Addr) (r : Ph), H a = some (.lst xs) ∧ atI xs i = some (.ref t) ∧ rs[i.toNat]? = some r ∧ r.Ok ∧ H t = some (.tup r.vs) := by
  obtain ⟨⟨ts, h2, h3, h4⟩, h5⟩ := h
  obtain ⟨r, hr, hm⟩ := mem_get (xs := rs) (i := i.toNat) (by omega)
  obtain ⟨t, ht, _⟩ := mem_get (xs := ts) (i := i.toNat) (by omega)
  exact ⟨_, t, r, h2, atI_nat' h0 (by rw [List.getElem?_map, ht]; rfl), hr, h5 r hm, h4 _ t r ht hr⟩
theorem RowsAt.len {H : Hp} {a : Addr} {rs : List Ph} (h : RowsAt H a rs) : ∃ xs : List V, H a = some (.lst xs) ∧ xs.length = rs.length := by
  obtain ⟨⟨ts, h2, h3, h4⟩, h5⟩ := h
  exact ⟨_, h2, by rw [List.length_map, h3]⟩
/-! ### promises -/
def spBookInit (K : PySem.W.Frag) : Sp := fun vs H Q E => ∃ (b dx p : Addr) (xs : List V), vs = [.ref b, .ref p] ∧ H b = some (.ins (gad "Book" K) dx []) ∧ H p = some (.tup xs) ∧
  (1 ≤ xs.length ∧ xs.length ≤ 6 → ∀ l H', H l = none → Fl b H H' → H' b = some (.ins (gad "Book" K) dx (bkF l)) → H' l = some (.lst xs) → Q .non H') ∧
  (¬ (1 ≤ xs.length ∧ xs.length ≤ 6) → ∀ H', Same H H' → E (.ref (gad "BadBook" K)) none H')
def spBookOf (K : PySem.W.Frag) : Sp := fun vs H Q E => ∃ (a : Addr) (xs : List V), vs = [.ref (gad "Book" K), .ref a] ∧ SqL K H a xs ∧ xs.length ≤ 1000 ∧
  (1 ≤ xs.length ∧ xs.length ≤ 6 → ∀ b dx l H', H b = none → H l = none → Same H H' → H' b = some (.ins (gad "Book" K) dx (bkF l)) → H' l = some (.lst xs) → Q (.ref b) H') ∧
  (¬ (1 ≤ xs.length ∧ xs.length ≤ 6) → ∀ H', Same H H' → E (.ref (gad "BadBook" K)) none H')
def spBookLen (K : PySem.W.Frag) : Sp := fun vs H Q _ => ∃ (b l : Addr) (rs : List Ph), vs = [.ref b] ∧ BkAt K H b l rs ∧ Q (.int rs.length) H
/-- book[n]: the address in the list -/
def spBookGet (K : PySem.W.Frag) : Sp := fun vs H Q _ => ∃ (b l : Addr) (rs : List Ph) (n : Int), vs = [.ref b, .int n] ∧ BkAt K H b l rs ∧
  ∀ a r, rs[(n % rs.length).toNat]? = some r → r.Ok → PhAt K H a r → Q (.ref a) H
def spBookSet (K : PySem.W.Frag) : Sp := fun vs H Q _ => ∃ (b l a : Addr) (rs : List Ph) (n : Int) (r : Ph), vs = [.ref b, .int n, .ref a] ∧ BkAt K H b l rs ∧ PhAt K H a r ∧ r.Ok ∧
  ∀ H', Fl l H H' → BkAt K H' b l (rs.set (n % rs.length).toNat r) → Q .non H'
/-- the rows behind row: as long as the phases may be left out -/
def aft (sk : Nat → Bool) (n row : Nat) : Nat → Nat → List Nat
  | _, 0 => []
  | k, f + 1 => ((row + 1 + k) % n) :: (if sk ((row + 1 + k) % n) then aft sk n row (k + 1) f else [])
def skOf (rs : List Ph) (i : Nat) : Bool := match rs[i]? with
  | some r => r.skp
  | none => false
def after (rs : List Ph) (row : Nat) : List Nat := aft (skOf rs) rs.length row 0 rs.length
def nts (l : List Nat) : List V := l.map fun (n : Nat) => V.int n
theorem aft_len (sk : Nat → Bool) (n row : Nat) : ∀ f k, (aft sk n row k f).length ≤ f
  | 0, _ => Nat.le_refl _
  | f + 1, k => by
    unfold aft
    rw [List.length_cons]
    split
    · exact Nat.succ_le_succ (aft_len sk n row f (k + 1))
    · exact Nat.succ_le_succ (Nat.zero_le _)
theorem aft_lt (sk : Nat → Bool) (n row : Nat) (h : 0 < n) : ∀ f k, ∀ x ∈ aft sk n row k f, x < n
  | 0, _, x, hx => by cases hx
  | f + 1, k, x, hx => by
    unfold aft at hx
    rcases List.mem_cons.mp hx with e | e
    · rw [e]; exact Nat.mod_lt _ h
    · split at e
      · exact aft_lt sk n row h f (k + 1) x e
      · cases e
theorem after_len (rs : List Ph) (row : Nat) : (after rs row).length ≤ rs.length := aft_len _ _ _ _ _
theorem after_lt (rs : List Ph) (row : Nat) (h : 1 ≤ rs.length) : ∀ x ∈ after rs row, x < rs.length := aft_lt _ _ _ h _ _
theorem after_ne (rs : List Ph) (row : Nat) (h : 1 ≤ rs.length) : 1 ≤ (after rs row).length := by
  unfold after
  cases e : rs.length with
  | zero => omega
  | succ n => unfold aft; rw [List.length_cons]; omega
def spAfter (K : PySem.W.Frag) : Sp := fun vs H Q _ => ∃ (b l : Addr) (rs : List Ph) (row : Nat), vs = [.ref b, .int row] ∧ BkAt K H b l rs ∧ row < rs.length ∧
  ∀ t H', H t = none → Same H H' → H' t = some (.tup (nts (after rs row))) → Q (.ref t) H'
section
variable {P : Program} [SupP P pFile] {w : World} {K : PySem.W.Frag} {mg : Str → Option Value} {base : Heap}
theorem fr_Book_init (T : Tx K mg) : FnR P w K mg base (L2.CX P w) 2 (mad "Book" "__init__" K) (spStar 1 (spBookInit K)) := by
  obtain ⟨uM, hM⟩ := T.cv_Book_MOST
  refine fnr_star (ps := ["self"]) (pv := "phases") T.F_Book_init sc_Book_init StX.cxUp (fun kV doc pm an cdv ct us rest hl => ?_) (fun cdv A outer s H vs Q E hr h => ?_)
  · exact StX.bind_star1 (B := fun vs => bindArgs _ ⟨vs, []⟩) (fun _ => rfl) (fun _ _ _ => rfl) us rest hl
  · obtain ⟨b, dx, p, xs, rfl, hb, hp, k1, k2⟩ := h
    have bp : b ≠ p := ne_of hb hp (by intro z; cases z)
    refine ⟨_, (pss_cons (ps_if (pt_not (pt_chain op_le op_le pe_int (pe_callB call_len_seq (by rfl) T.n_len (by decide +kernel) (pa_cons (pv 1) pa_nil)) (ClX.pe_cval (pe_gr rfl T.g_Book)))) (pss_one (ps_raise rfl (takes_of rfl rfl rfl rfl) (pmk_own PySem.F.excBase_ValueError T.x_BadBook.1 T.g_BadBook T.x_BadBook.2.1 (raises_own T.x_BadBook.2.2.1 T.x_BadBook.2.2.2) rfl))) pss_nil)
      (pss_one (ps_fld (pv 0) (pe_callTy call_list_of (by rfl) T.n_list (by decide +kernel) (pa_cons (pv 1) pa_nil)) rfl))), ?_⟩
    refine ⟨_, rfl, p, _, rfl, .inr (SqT.of hp), _, _, rfl, rfl, _, rfl, ?_⟩
    by_cases h1 : 1 ≤ xs.length
    · refine iteD (by omega) ⟨_, _, _, uM, rfl, T.cr_Book, hM, _, _, rfl, rfl, _, rfl, ?_⟩
      by_cases h6 : xs.length ≤ 6
      · refine iteNS (by omega) ?_
        refine ⟨_, rfl, p, _, rfl, .inr (SqT.of hp), fun l hl => ?_⟩
        have bl : b ≠ l := ne_of_none hb hl
        refine ⟨_, rfl, b, _, dx, [], rfl, (by rw [upd_ne bl]; exact hb), T.c_Book, T.na_Book_phases, (Nat.zero_lt_succ _), ?_⟩
        exact k1 ⟨h1, h6⟩ l _ hl ((Fl.new hl).put) upd_same (by rw [upd_ne bl.symm]; exact upd_same)
      · refine iteND (by omega) ?_
        exact k2 (fun z => h6 z.2) _ (Same.refl _)
    · refine iteDN (by omega) ?_
      refine ⟨_, rfl, iteT ?_⟩
      exact k2 (fun z => h1 z.1) _ (Same.refl _)
theorem ok_Book_of (T : Tx K mg) : FnOk P w K mg base (L2.CX P w) 4 (pad "classmethod" "Book" "of" K) (fdD K (pad "classmethod" "Book" "of" K)) P_Book_of (spBookOf K) := by
  refine T.F_Book_of.ok sc_Book_of (fun vs H Q E h => ?_) (fun cdv A outer s H vs Q E hr h => ?_)
  · obtain ⟨a, xs, rfl, _⟩ := h; rfl
  · obtain ⟨a, xs, rfl, hS, hz, k1, k2⟩ := h
    refine ⟨_, (pss_one (ps_ret (pe_makeLS (i := 0) T.mk_Book (fr_Book_init (P := P) T) (hr.mono (by decide)) (passes_call (takes_of rfl rfl rfl rfl) (fun _ _ _ _ z => z)) rfl (by first | exact Or.inl rfl | exact Or.inr (Or.inl rfl)) (pv 1)))), ?_⟩
    refine ⟨rfl, _, rfl, a, xs, rfl, .inr hS, fun b dx nb nd ne => ?_⟩
    refine ⟨[.ref b], xs, rfl, rfl, Nat.le_trans hz (by decide), fun p np => ?_⟩
    have bp : b ≠ p := fun z => by rw [z, upd_same] at np; cases np
    have S1 : Same H (upd (upd (upd H dx (.own b)) b (.ins (gad "Book" K) dx [])) p (.tup xs)) := Same.upd (Same.upd (Same.new nd) nb) (Same.free (Same.upd (Same.new nd) nb) np)
    refine ⟨b, dx, p, xs, rfl, upd_oth bp upd_same, upd_same, fun hv l H' nl fl hb hl => ⟨rfl, ?_⟩, fun hv H' S' => ?_⟩
    · refine k1 hv b dx l H' nb ?_ ?_ hb hl
      · exact S1.free nl
      · intro a o ha
        exact fl a o (ne_of_none ha nb) (S1 a o ha)
    · exact k2 hv H' (S1.trans S')
theorem fr_Book_of (T : Tx K mg) : FnR P w K mg base (L2.CX P w) 4 (pad "classmethod" "Book" "of" K) (spBookOf K) := fnr_of (ok_Book_of T) (bd_Book_of T)
theorem ok_Book_len (T : Tx K mg) : FnOk P w K mg base CX0 1 (mad "Book" "__len__" K) (fdD K (mad "Book" "__len__" K)) P_Book_len (spBookLen K) := by
  refine T.F_Book_len.ok sc_Book_len (fun vs H Q E h => ?_) (fun cdv A outer s H vs Q E hr h => ?_)
  · obtain ⟨b, l, rs, rfl, _⟩ := h; rfl
  · obtain ⟨b, l, rs, rfl, ⟨⟨dx, hb⟩, ⟨as, hl, e, _⟩, n1, n6, ok⟩, k⟩ := h
    refine ⟨_, PSs.nox ((pss_one (ps_ret (pe_callB call_len_seq (by rfl) T.n_len (by decide +kernel) (pa_cons (pe_fld (pv 0) rfl) pa_nil))))), ?_⟩
    refine ⟨_, rfl, b, _, dx, _, _, rfl, hb, T.c_Book, T.na_Book_phases, bk_phases l, l, _, rfl, .inl (SqL.of hl), ?_⟩
    show Q (.int ((as.map V.ref).length : Nat)) H
    rw [List.length_map, e]
    exact k
theorem fr_Book_len (T : Tx K mg) : FnR P w K mg base CX0 1 (mad "Book" "__len__" K) (spBookLen K) := fnr_of (ok_Book_len T) (bd_Book_len T)
theorem ok_Book_getitem (T : Tx K mg) : FnOk P w K mg base CX0 1 (mad "Book" "__getitem__" K) (fdD K (mad "Book" "__getitem__" K)) P_Book_getitem (spBookGet K) := by
  refine T.F_Book_getitem.ok sc_Book_getitem (fun vs H Q E h => ?_) (fun cdv A outer s H vs Q E hr h => ?_)
  · obtain ⟨b, l, rs, n, rfl, _⟩ := h; rfl
  · obtain ⟨b, l, rs, n, rfl, ⟨⟨dx, hb⟩, ⟨as, hl, e, hp⟩, n1, n6, ok⟩, k⟩ := h
    refine ⟨_, PSs.nox ((pss_one (ps_ret (pe_ix ix_list (pe_fld (pv 0) rfl) (pe_op op_mod (pv 1) (pe_callB call_len_seq (by rfl) T.n_len (by decide +kernel) (pa_cons (pe_fld (pv 0) rfl) pa_nil))) (fun _ _ => rfl))))), ?_⟩
    have m0 : 0 ≤ n % (rs.length : Int) := Int.emod_nonneg _ (by omega)
    have m1 : n % (rs.length : Int) < rs.length := Int.emod_lt_of_pos _ (by omega)
    obtain ⟨r, hr', hm⟩ := mem_get (xs := rs) (i := (n % (rs.length : Int)).toNat) (by omega)
    obtain ⟨a, ha, _⟩ := mem_get (xs := as) (i := (n % (rs.length : Int)).toNat) (by omega)
    have el : ((as.map V.ref).length : Int) = rs.length := by rw [List.length_map, e]
    refine ⟨_, rfl, b, _, dx, _, _, rfl, hb, T.c_Book, T.na_Book_phases, bk_phases l, _, rfl, _, rfl, b, _, dx, _, _, rfl, hb, T.c_Book, T.na_Book_phases, bk_phases l, l, _, rfl, .inl (SqL.of hl), _, _, rfl, rfl, (by show (0 : Int) < ((as.map V.ref).length : Int); omega), l, _, _, .ref a, rfl, rfl, SqL.of hl, ?_, ?_⟩
    · show atI (as.map V.ref) (n % ((as.map V.ref).length : Int)) = _
      rw [el]
      exact atI_nat' m0 (by rw [List.getElem?_map, ha]; rfl)
    · exact k a r hr' (ok r hm) (hp _ a r ha hr')
theorem fr_Book_getitem (T : Tx K mg) : FnR P w K mg base CX0 1 (mad "Book" "__getitem__" K) (spBookGet K) := fnr_of (ok_Book_getitem T) (bd_Book_getitem T)
theorem ok_Book_setitem (T : Tx K mg) : FnOk P w K mg base CX0 1 (mad "Book" "__setitem__" K) (fdD K (mad "Book" "__setitem__" K)) P_Book_setitem (spBookSet K) := by
  refine T.F_Book_setitem.ok sc_Book_setitem (fun vs H Q E h => ?_) (fun cdv A outer s H vs Q E hr h => ?_)
  · obtain ⟨b, l, a, rs, n, r, rfl, _⟩ := h; rfl
  · obtain ⟨b, l, a, rs, n, r, rfl, ⟨⟨dx, hb⟩, ⟨as, hl, e, hp⟩, n1, n6, ok⟩, hpa, rok, k⟩ := h
    refine ⟨_, PSs.nox ((pss_one (ps_asg (pv 2) (pg_sub (pe_fld (pv 0) rfl) (pe_op op_mod (pv 1) (pe_callB call_len_seq (by rfl) T.n_len (by decide +kernel) (pa_cons (pe_fld (pv 0) rfl) pa_nil))) set_list)))), ?_⟩
    have m0 : 0 ≤ n % (rs.length : Int) := Int.emod_nonneg _ (by omega)
    have m1 : n % (rs.length : Int) < rs.length := Int.emod_lt_of_pos _ (by omega)
    have el : ((as.map V.ref).length : Int) = rs.length := by rw [List.length_map, e]
    have bl : b ≠ l := ne_of hb hl (by intro z; cases z)
    have ix : ixN (as.map V.ref).length (n % ((as.map V.ref).length : Int)) = some (n % (rs.length : Int)).toNat := by
      rw [el]
      unfold ixN
      rw [if_pos m0, if_pos (by rw [List.length_map, e]; exact m1)]
    refine ⟨_, rfl, _, rfl, b, _, dx, _, _, rfl, hb, T.c_Book, T.na_Book_phases, bk_phases l, _, rfl, _, rfl, b, _, dx, _, _, rfl, hb, T.c_Book, T.na_Book_phases, bk_phases l, l, _, rfl, .inl (SqL.of hl), _, _, rfl, rfl, (by show (0 : Int) < ((as.map V.ref).length : Int); omega), l, _, _, _, rfl, rfl, hl, ix, ?_⟩
    refine k _ Fl.cell ⟨⟨dx, upd_oth bl hb⟩, ⟨as.set (n % (rs.length : Int)).toNat a, ?_, ?_, ?_⟩, ?_, ?_, ?_⟩
    · rw [upd_same, List.map_set]
    · rw [List.length_set, List.length_set, e]
    · intro i a' r' ha' hr'
      have fl : ∀ {x : Addr} {q : Ph}, PhAt K H x q → PhAt K (upd H l (.lst ((as.map V.ref).set (n % (rs.length : Int)).toNat (.ref a)))) x q := fun {x q} ⟨d, hx⟩ => ⟨d, upd_oth (ne_of hx hl (by intro z; cases z)) hx⟩
      rw [List.getElem?_set] at ha' hr'
      split at ha'
      · rename_i ei
        rw [if_pos ei] at hr'
        split at ha'
        · split at hr'
          · cases ha'; cases hr'
            exact fl hpa
          · cases hr'
        · cases ha'
      · rename_i ei
        rw [if_neg ei] at hr'
        exact fl (hp i a' r' ha' hr')
    · rw [List.length_set]; exact n1
    · rw [List.length_set]; exact n6
    · intro q hq
      rcases List.mem_or_eq_of_mem_set hq with z | z
      · exact ok q z
      · rw [z]; exact rok
theorem fr_Book_setitem (T : Tx K mg) : FnR P w K mg base CX0 1 (mad "Book" "__setitem__" K) (spBookSet K) := fnr_of (ok_Book_setitem T) (bd_Book_setitem T)
end

end Hue

set_option Elab.async false
set_option linter.all false
set_option maxRecDepth 100000
set_option maxHeartbeats 1000000
namespace Hue
open PySem PySem.Spec PyProof.Rows L2
local macro_rules | `(tactic| walk_at "hp") => `(tactic| first
  | assumption
  | exact upd_same
  | (refine upd_old (by assumption) ?_; walk_at "hp")
  | (refine upd_oth (by assumption) ?_; walk_at "hp")
  | (refine same_get (by assumption) ?_; walk_at "hp")
  | (refine Fl.get (by assumption) (by assumption) ?_; walk_at "hp"))
local macro_rules | `(tactic| walk_at "seq") => `(tactic| first
  | assumption
  | exact T.t_BARRIERS _
  | exact SqL.of (by walk_at "hp")
  | exact SqT.of (by walk_at "hp"))
local macro_rules | `(tactic| walk_at "len") => `(tactic| first
  | exact Or.inl (by walk_at "seq")
  | exact Or.inr (by walk_at "seq"))
local macro_rules | `(tactic| walk_at "at") => `(tactic| first
  | rfl
  | assumption)

/-! ### a phase with any fields: looked at, compared, written -/
section
variable (r : Rw)
theorem rw_hue : (rwF r).lookup ("hue" : Str) = some (.int r.hue) := by
  unfold rwF
  simp only [lookup_putF]
  rw [if_neg (by decide +kernel), if_neg (by decide +kernel), if_neg (by decide +kernel), if_neg (by decide +kernel), if_neg (by decide +kernel), if_pos trivial]
theorem rw_barrier : (rwF r).lookup ("barrier" : Str) = some (.str r.bar) := by
  unfold rwF
  simp only [lookup_putF]
  rw [if_neg (by decide +kernel), if_neg (by decide +kernel), if_neg (by decide +kernel), if_neg (by decide +kernel), if_pos trivial]
theorem rw_visits : (rwF r).lookup ("visits" : Str) = some (.bl r.vis) := by
  unfold rwF
  simp only [lookup_putF]
  rw [if_neg (by decide +kernel), if_neg (by decide +kernel), if_neg (by decide +kernel), if_pos trivial]
theorem rw_pauses : (rwF r).lookup ("pauses" : Str) = some (.bl r.pau) := by
  unfold rwF
  simp only [lookup_putF]
  rw [if_neg (by decide +kernel), if_neg (by decide +kernel), if_pos trivial]
theorem rw_stand : (rwF r).lookup ("stand" : Str) = some (.int r.std) := by
  unfold rwF
  simp only [lookup_putF]
  rw [if_neg (by decide +kernel), if_pos trivial]
theorem rw_skips : (rwF r).lookup ("skips" : Str) = some (.bl r.skp) := by
  unfold rwF
  simp only [lookup_putF]
  rw [if_pos trivial]
theorem rwx_at : atI r.vs 0 = some (.int r.hue) ∧ atI r.vs 1 = some (.str r.bar) ∧ atI r.vs 2 = some (.bl r.vis) ∧ atI r.vs 3 = some (.bl r.pau) ∧ atI r.vs 4 = some (.int r.std) ∧ atI r.vs 5 = some (.bl r.skp) := ⟨rfl, rfl, rfl, rfl, rfl, rfl⟩
end
def RwAt (K : PySem.W.Frag) (H : Hp) (a : Addr) (r : Rw) : Prop := ∃ dx, H a = some (.ins (gad "Phase" K) dx (rwF r))
theorem RwAt.same {K : PySem.W.Frag} {H H' : Hp} {a : Addr} {r : Rw} (h : RwAt K H a r) (e : Same H H') : RwAt K H' a r := by
  obtain ⟨dx, h⟩ := h
  exact ⟨dx, e _ _ h⟩
theorem made_same {H H' : Hp} {x dx C : Addr} (nx : H x = none) (nd : H dx = none) (f : Fl x (L2.upd (L2.upd H dx (.own x)) x (.ins C dx [])) H') : Same H H' := fun a o h => by
  have n1 : a ≠ x := ne_of_none h nx
  exact f _ _ n1 (upd_oth n1 (upd_old nd h))
theorem made_same2 {H H' : Hp} {x dx C : Addr} (nx : H x = none) (nd : H dx = none) (f : Same (L2.upd (L2.upd H dx (.own x)) x (.ins C dx [])) H') : Same H H' := made_same nx nd (Fl.same f)
/-- two values of a kind that is compared -/
theorem dec_int (a b : Int) : decide (V.int a = V.int b) = decide (a = b) := by
  by_cases e : a = b
  · rw [e]; simp
  · rw [decide_eq_false e]; exact decide_eq_false fun z => e (V.int.inj z)
theorem dec_str (a b : Str) : decide (V.str a = V.str b) = decide (a = b) := by
  by_cases e : a = b
  · rw [e]; simp
  · rw [decide_eq_false e]; exact decide_eq_false fun z => e (V.str.inj z)
theorem dec_bl (a b : Bool) : decide (V.bl a = V.bl b) = decide (a = b) := by
  by_cases e : a = b
  · rw [e]; simp
  · rw [decide_eq_false e]; exact decide_eq_false fun z => e (V.bl.inj z)
def numS (i : Int) : Str := Str.ofString (toString i)
def Rw.words (r : Rw) : List Str := [numS r.hue, r.bar] ++ (if r.vis = true then [("visits" : Str)] else []) ++ (if r.pau = true then [("pauses" : Str)] else []) ++ (if r.std ≠ 0 then [("stand " : Str) ++ numS r.std] else []) ++ (if r.skp = true then [("skips" : Str)] else [])
def Rw.text (r : Rw) : Str := Txt.join " " r.words
def spPhText (K : PySem.W.Frag) : Sp := fun vs H Q _ => ∃ (a : Addr) (r : Rw), vs = [.ref a] ∧ RwAt K H a r ∧ r.bad = none ∧ ∀ H', Same H H' → Q (.str r.text) H'
/-- the list of words at l -/
def WdAt (H : Hp) (a l : Addr) (ws : List Str) : L2.St → Hp → Prop := fun σ H' => σ = [some (.ref a), some (.ref l)] ∧ H l = none ∧ Same H H' ∧ H' l = some (.lst (ws.map V.str))
theorem WdAt.put {H H' : Hp} {a l : Addr} {ws : List Str} {x : Str} (nl : H l = none) (S : Same H H') : WdAt H a l (ws ++ [x]) [some (.ref a), some (.ref l)] (L2.upd H' l (.lst (ws.map V.str ++ [.str x]))) :=
  ⟨rfl, nl, Same.upd S nl, by rw [upd_same, List.map_append]; rfl⟩
theorem wd_lt {ws : List Str} {n : Nat} (h : ws.length ≤ n) (hn : n < sizeLine) : (ws.map V.str).length < sizeLine := by rw [List.length_map]; exact Nat.lt_of_le_of_lt h hn
theorem num_le {i : Int} (h0 : 0 ≤ i) (h1 : i ≤ 9) : (numS i).length ≤ 2 := by
  rcases (by omega : i = 0 ∨ i = 1 ∨ i = 2 ∨ i = 3 ∨ i = 4 ∨ i = 5 ∨ i = 6 ∨ i = 7 ∨ i = 8 ∨ i = 9) with rfl | rfl | rfl | rfl | rfl | rfl | rfl | rfl | rfl | rfl <;> decide +kernel
theorem small_log {i : Int} (h0 : 0 ≤ i) (h1 : i ≤ 9) : i.natAbs.log2 < 1920 := by
  rcases (by omega : i = 0 ∨ i = 1 ∨ i = 2 ∨ i = 3 ∨ i = 4 ∨ i = 5 ∨ i = 6 ∨ i = 7 ∨ i = 8 ∨ i = 9) with rfl | rfl | rfl | rfl | rfl | rfl | rfl | rfl | rfl | rfl <;> decide +kernel
theorem bar_len (b : Bar) : b.s.length ≤ 10 := by cases b <;> decide +kernel
theorem words_size {r : Rw} (h0 : 0 ≤ r.hue) (h1 : r.hue ≤ 9) (s0 : 0 ≤ r.std) (s1 : r.std ≤ 9) (bl : r.bar.length ≤ 10) : (r.words.map (·.length)).sum + r.words.length * (" " : Str).length ≤ 16777216 := by
  have e1 : (" " : Str).length = 1 := by decide +kernel
  have e2 : ("visits" : Str).length = 6 := by decide +kernel
  have e3 : ("pauses" : Str).length = 6 := by decide +kernel
  have e4 : ("skips" : Str).length = 5 := by decide +kernel
  have e5 : ("stand " : Str).length = 6 := by decide +kernel
  have l1 := num_le h0 h1
  have l2 := num_le s0 s1
  have e6 : (("stand " : Str) ++ numS r.std).length = 6 + (numS r.std).length := by
    have z : (("stand " : Str) ++ numS r.std).length = ("stand " : Str).length + (numS r.std).length := by
      first
        | exact Str.length_append _ _
        | simp [Str.length, Str.cps_append]
    rw [z, e5]
  have g : ∀ {c : Prop} [Decidable c] (x : Str), x.length ≤ 20 → ((if c then [x] else []).map (·.length)).sum ≤ 20 ∧ (if c then [x] else []).length ≤ 1 := fun {c} _ x hx => by
    split
    · exact ⟨by simpa using hx, by simp⟩
    · exact ⟨by simp, by simp⟩
  have g1 := g (c := r.vis = true) "visits" (by rw [e2]; decide)
  have g2 := g (c := r.pau = true) "pauses" (by rw [e3]; decide)
  have g3 := g (c := r.std ≠ 0) (("stand " : Str) ++ numS r.std) (by rw [e6]; omega)
  have g4 := g (c := r.skp = true) "skips" (by rw [e4]; decide)
  unfold Rw.words
  rw [e1]
  simp only [List.map_append, List.sum_append, List.length_append, List.map_cons, List.map_nil, List.sum_cons, List.sum_nil, List.length_cons, List.length_nil]
  omega

/-! ### drawn rows -/
theorem RowsAt.fl {H H' : Hp} {a l : Addr} {rs : List Ph} (h : RowsAt H a rs) (e : Fl l H H') (n : a ≠ l) (hp : PoolAt H l) : RowsAt H' a rs := by
  obtain ⟨⟨ts, h1, h2, h3⟩, h4⟩ := h
  obtain ⟨ns, p1, _⟩ := hp
  exact ⟨⟨ts, e _ _ n h1, h2, fun i t r ht hr => e _ _ (ne_of (h3 i t r ht hr) p1 (by intro z; cases z)) (h3 i t r ht hr)⟩, h4⟩
def spCalm : Sp := fun vs H Q _ => ∃ (t : Addr) (r : Ph) (k : Int) (two : Bool), vs = [.ref t, .int k, .bl two] ∧ H t = some (.tup r.vs) ∧ r.Ok ∧ 0 ≤ k ∧ k < 6 ∧
  ∀ (r' : Ph) t' H', r'.Ok → H t' = none → Same H H' → H' t' = some (.tup r'.vs) → Q (.ref t') H'
def spRows : Sp := fun vs H Q _ => ∃ (l : Addr) (m : Int), vs = [.ref l, .int m] ∧ PoolAt H l ∧ 1 ≤ m ∧ m ≤ 6 ∧
  ∀ rs a H', RowsAt H' a rs → 1 ≤ rs.length → (rs.length : Int) ≤ m → H a = none → a ≠ l → Fl l H H' → PoolAt H' l → Q (.ref a) H'
def spPhase (K : PySem.W.Frag) : Sp := fun vs H Q _ => ∃ (t : Addr) (r : Ph), vs = [.ref t] ∧ H t = some (.tup r.vs) ∧ r.Ok ∧
  ∀ a H', H a = none → Same H H' → PhAt K H' a r → Q (.ref a) H'
abbrev calmVs : List V := [V.int 0, V.int 1, V.int 1, V.int 0, V.int 0, V.int 1]
theorem at_calm {k : Int} (h0 : 0 ≤ k) (h1 : k < 6) : ∃ g : Int, atI calmVs k = some (.int g) ∧ 0 ≤ g ∧ g ≤ 5 := by
  rcases (by omega : k = 0 ∨ k = 1 ∨ k = 2 ∨ k = 3 ∨ k = 4 ∨ k = 5) with rfl | rfl | rfl | rfl | rfl | rfl <;> exact ⟨_, rfl, by decide, by decide⟩
theorem at_two {k : Int} : ∃ b : Bar, atI [V.str "follow", V.str "guarded"] (k % 2) = some (.str b.s) := by
  rcases (by omega : k % 2 = 0 ∨ k % 2 = 1) with e | e <;> rw [e]
  · exact ⟨.follow, rfl⟩
  · exact ⟨.guarded, rfl⟩
section
variable {P : Program} [SupP P pFile] {w : World} {K : PySem.W.Frag} {mg : Str → Option Value} {base : Heap}
theorem ok_l_calm (T : Tx K mg) : FnOk P w K mg base CX0 1 (gad "_law_calm" K) (fdD K (gad "_law_calm" K)) P_l_calm spCalm := by
  refine T.F_l_calm.ok sc_l_calm (fun vs H Q E h => ?_) (fun cdv A outer s H vs Q E hr h => ?_)
  · obtain ⟨t, r, k, two, rfl, _⟩ := h; rfl
  · obtain ⟨t, r, k, two, rfl, ht, ok, k0, k6, kk⟩ := h
    refine ⟨_, PSs.nox ((pss_cons (ps_set (i := 3) sc_l_calm.nd rfl (Or.inl rfl) (pv 1))
      (C8.pss_cut (ps_if (pt_val (pv 2)) (pss_one (ps_set (i := 3) sc_l_calm.nd rfl (Or.inl rfl) (pe_ix ix_list (pe_lst (pa_cons pe_int (pa_cons pe_int (pa_cons pe_int (pa_cons pe_int (pa_cons pe_int (pa_cons pe_int pa_nil))))))) (pv 1) (fun _ _ => rfl)))) pss_nil)
      (pss_cons (ps_set (i := 4) sc_l_calm.nd rfl (Or.inl rfl) (pe_ix ix_list (pe_lst (pa_cons pe_str (pa_cons pe_str pa_nil))) (pe_op op_mod (pe_callTy call_intI (by rfl) T.n_int (by decide +kernel) (pa_cons (pe_ix ix_tup (pv 0) pe_int (fun _ _ => rfl)) pa_nil)) pe_int) (fun _ _ => rfl)))
      (pss_one (ps_ret (pe_tup (pa_cons (pv 3) (pa_cons (pv 4) (pa_cons (pe_cmpR op_eq (pe_op op_mod (pe_callTy call_intI (by rfl) T.n_int (by decide +kernel) (pa_cons (pv 1) pa_nil)) pe_int) pe_int (nomark _)) (pa_cons pe_bl (pa_cons (pe_op op_mul (pe_op op_mod (pe_callTy call_intI (by rfl) T.n_int (by decide +kernel) (pa_cons (pv 1) pa_nil)) pe_int) (pe_op op_add pe_int (pe_op op_mod (pe_callTy call_intI (by rfl) T.n_int (by decide +kernel) (pa_cons (pe_ix ix_tup (pv 0) pe_int (fun _ _ => rfl)) pa_nil)) pe_int))) (pa_cons pe_bl pa_nil))))))))))))), ?_⟩
    refine ⟨_, rfl, ?_⟩
    refine ⟨fun σ H' => ∃ g : Int, σ = [some (.ref t), some (.int k), some (.bl two), some (.int g), none] ∧ 0 ≤ g ∧ g ≤ 5 ∧ Same H H', ?_, ?_⟩
    · refine ⟨_, rfl, _, rfl, ?_⟩
      refine iteB (fun _ => ?_) (fun _ => ?_)
      · obtain ⟨g, hg, g0, g1⟩ := at_calm k0 k6
        refine ⟨(show (6 : Nat) ≤ sizeLine by decide), fun p1 np1 => ⟨_, rfl, _, _, _, _, rfl, rfl, SqL.of upd_same, hg, ?_⟩⟩
        exact ⟨g, rfl, g0, g1, Same.new np1⟩
      · exact ⟨k, rfl, k0, by omega, Same.refl H⟩
    · rintro σ H1 ⟨g, rfl, g0, g1, S⟩
      have ht1 := S _ _ ht
      obtain ⟨b, hb⟩ := at_two (k := r.hue)
      refine ⟨(show (2 : Nat) ≤ sizeLine by decide), fun p1 np1 => ⟨_, rfl, _, _, _, _, rfl, rfl, SqT.of (upd_old np1 ht1), rfl, _, rfl, _, _, rfl, rfl, (show (0 : Int) < 2 by decide), _, _, _, _, rfl, rfl, SqL.of upd_same, hb, ?_⟩⟩
      refine ⟨_, rfl, _, rfl, _, rfl, _, rfl, _, _, rfl, rfl, (show (0 : Int) < 2 by decide), rfl, _, rfl, _, rfl, _, _, rfl, rfl, (show (0 : Int) < 2 by decide), _, rfl, _, _, _, _, rfl, rfl, SqT.of (upd_old np1 ht1), rfl, _, rfl, _, _, rfl, rfl, (show (0 : Int) < 6 by decide), _, _, rfl, rfl, _, _, rfl, rfl, ?_⟩
      refine ⟨.inl ⟨by omega, by omega⟩, (show (6 : Nat) ≤ sizeLine by decide), fun t' nt => ?_⟩
      refine kk ⟨g, b, _, true, _, false⟩ t' _ ⟨g0, g1, ?_, ?_⟩ (S.free (Same.free (Same.new np1) nt)) (Same.upd (Same.upd S (S.free np1)) (S.free (Same.free (Same.new np1) nt))) upd_same
      · show 0 ≤ k % 2 * (2 + r.std % 6)
        rcases (by omega : k % 2 = 0 ∨ k % 2 = 1) with e | e <;> rw [e] <;> omega
      · show k % 2 * (2 + r.std % 6) ≤ 7
        rcases (by omega : k % 2 = 0 ∨ k % 2 = 1) with e | e <;> rw [e] <;> omega
theorem ok_l_phase (T : Tx K mg) : FnOk P w K mg base CX0 5 (gad "_law_phase" K) (fdD K (gad "_law_phase" K)) P_l_phase (spPhase K) := by
  obtain ⟨_, kb_Phase_barrier_visits_pauses_stand_skips⟩ := kb_Phase_barrier_visits_pauses_stand_skips T
  refine T.F_l_phase.ok sc_l_phase (fun vs H Q E h => ?_) (fun cdv A outer s H vs Q E hr h => ?_)
  · obtain ⟨t, r, rfl, _⟩ := h; rfl
  · obtain ⟨t, r, rfl, ht, ok, k⟩ := h
    refine ⟨_, PSs.nox ((pss_one (ps_ret (pe_makeK T.mk_Phase (ok_Phase_init (P := P) T) (hr.mono (by decide)) rfl T.g_Phase kb_Phase_barrier_visits_pauses_stand_skips passL (pa_cons (pe_ix ix_tup (pv 0) pe_int (fun _ _ => rfl)) pa_nil) (pk_cons (pe_ix ix_tup (pv 0) pe_int (fun _ _ => rfl)) (pk_cons (pe_ix ix_tup (pv 0) pe_int (fun _ _ => rfl)) (pk_cons (pe_ix ix_tup (pv 0) pe_int (fun _ _ => rfl)) (pk_cons (pe_ix ix_tup (pv 0) pe_int (fun _ _ => rfl)) (pk_cons (pe_ix ix_tup (pv 0) pe_int (fun _ _ => rfl)) pk_nil))))))))), ?_⟩
    refine ⟨_, rfl, _, _, _, _, rfl, rfl, (by walk_at "seq"), (by walk_at "at"), _, rfl, _, _, _, _, rfl, rfl, (by walk_at "seq"), (by walk_at "at"), _, rfl, _, _, _, _, rfl, rfl, (by walk_at "seq"), (by walk_at "at"), _, rfl, _, _, _, _, rfl, rfl, (by walk_at "seq"), (by walk_at "at"), _, rfl, _, _, _, _, rfl, rfl, (by walk_at "seq"), (by walk_at "at"), _, rfl, _, _, _, _, rfl, rfl, (by walk_at "seq"), (by walk_at "at"), rfl, rfl, fun x dx nx ndx nex => ?_⟩
    refine ⟨x, dx, r.rw, rfl, upd_same, fun _ H4 f4 h4 => ⟨rfl, ?_⟩, fun f hf => absurd ((Ph.good ok).symm.trans hf) (by simp)⟩
    exact k x H4 nx (made_same nx ndx f4) ⟨dx, h4⟩

end
theorem RowsAt.nil {H : Hp} {D : Addr} : RowsAt (upd H D (.lst [])) D [] := ⟨⟨[], upd_same, rfl, fun i t r h _ => by simp at h⟩, fun r h => by cases h⟩
theorem RowsAt.snoc {H : Hp} {D t : Addr} {rs : List Ph} {r : Ph} (h : RowsAt H D rs) (ht : H t = some (.tup r.vs)) (hr : r.Ok) :
    ∃ xs, H D = some (.lst xs) ∧ xs.length = rs.length ∧ RowsAt (upd H D (.lst (xs ++ [.ref t]))) D (rs ++ [r]) := by
  obtain ⟨⟨ts, h1, h2, h3⟩, h4⟩ := h
  refine ⟨_, h1, by rw [List.length_map, h2], ⟨ts ++ [t], by rw [upd_same, List.map_append]; rfl, by rw [List.length_append, List.length_append, h2]; rfl, fun i t' r' a b => ?_⟩, fun q hq => ?_⟩
  · have tup : ∀ {x : Addr} {q : Ph}, H x = some (.tup q.vs) → ∀ u, upd H D (.lst u) x = some (.tup q.vs) := fun hx u => upd_oth (ne_of hx h1 (by intro z; cases z)) hx
    by_cases hi : i < ts.length
    · rw [List.getElem?_append_left hi] at a
      rw [List.getElem?_append_left (by omega)] at b
      exact tup (h3 i t' r' a b) _
    · rw [List.getElem?_append_right (by omega)] at a
      rw [List.getElem?_append_right (by omega)] at b
      have e0 : i - ts.length = 0 := by
        have := (List.getElem?_eq_some_iff.mp a).1
        simp at this
        omega
      have e1 : i - rs.length = 0 := by omega
      rw [e0] at a
      rw [e1] at b
      cases a
      cases b
      exact tup ht _
  · rcases List.mem_append.mp hq with z | z
    · exact h4 q z
    · rw [List.mem_singleton.mp z]; exact hr
theorem RowsAt.put {H : Hp} {D t : Addr} {rs : List Ph} {r : Ph} {i : Nat} (h : RowsAt H D rs) (ht : H t = some (.tup r.vs)) (hr : r.Ok) :
    ∃ xs, H D = some (.lst xs) ∧ xs.length = rs.length ∧ RowsAt (upd H D (.lst (xs.set i (.ref t)))) D (rs.set i r) := by
  obtain ⟨⟨ts, h1, h2, h3⟩, h4⟩ := h
  refine ⟨_, h1, by rw [List.length_map, h2], ⟨ts.set i t, by rw [upd_same, List.map_set], by rw [List.length_set, List.length_set, h2], fun j t' r' a b => ?_⟩, fun q hq => ?_⟩
  · have tup : ∀ {x : Addr} {q : Ph}, H x = some (.tup q.vs) → ∀ u, upd H D (.lst u) x = some (.tup q.vs) := fun hx u => upd_oth (ne_of hx h1 (by intro z; cases z)) hx
    rw [List.getElem?_set] at a b
    split at a
    · rename_i ei
      rw [if_pos ei] at b
      split at a
      · split at b
        · cases a; cases b
          exact tup ht _
        · cases b
      · cases a
    · rename_i ei
      rw [if_neg ei] at b
      exact tup (h3 j t' r' a b) _
  · rcases List.mem_or_eq_of_mem_set hq with z | z
    · exact h4 q z
    · rw [z]; exact hr
theorem ixN_of {n : Nat} {i : Int} (h0 : 0 ≤ i) (h1 : i < n) : ixN n i = some i.toNat := by
  unfold ixN
  rw [if_pos h0, if_pos h1]
theorem row_at (r : Ph) : atI r.vs 0 = some (.int r.hue) ∧ atI r.vs 1 = some (.str r.bar.s) ∧ atI r.vs 2 = some (.bl r.vis) ∧ atI r.vs 3 = some (.bl r.pau) ∧ atI r.vs 4 = some (.int r.std) ∧ atI r.vs 5 = some (.bl r.skp) := ⟨rfl, rfl, rfl, rfl, rfl, rfl⟩
section
variable {P : Program} [SupP P pFile] {w : World} {K : PySem.W.Frag} {mg : Str → Option Value} {base : Heap}
theorem ok_l_rows (T : Tx K mg) : FnOk P w K mg base CX0 5 (gad "_law_rows" K) (fdD K (gad "_law_rows" K)) P_l_rows spRows := by
  refine T.F_l_rows.ok sc_l_rows (fun vs H Q E h => ?_) (fun cdv A outer s H vs Q E hr h => ?_)
  · obtain ⟨l, m, rfl, _⟩ := h; rfl
  · obtain ⟨l, m, rfl, hP, m1, m6, k⟩ := h
    refine ⟨_, PSs.nox ((pss_cons (ps_set (i := 2) sc_l_rows.nd rfl (Or.inl rfl) (pe_op op_add pe_int (pe_call (ok_l_take (P := P) T) (hr.mono (by decide)) rfl T.g_l_take T.F_l_take.kp (bd_l_take T) .nil pass0 (pa_cons (pv 0) (pa_cons (pv 1) pa_nil)))))
      (pss_cons (ps_set (i := 3) sc_l_rows.nd rfl (Or.inl rfl) (pe_call (ok_l_take (P := P) T) (hr.mono (by decide)) rfl T.g_l_take T.F_l_take.kp (bd_l_take T) .nil pass0 (pa_cons (pv 0) (pa_cons pe_int pa_nil))))
      (pss_cons (ps_set (i := 4) sc_l_rows.nd rfl (Or.inr rfl) (pe_lc (own := [("_law_k", 8)]) (g := gName 8) (tt := tYes) rfl sc_l_rows.nd (pi_range1 (by rfl) T.n_range (pa_cons (pv 2) pa_nil)) (blkOk_by (own := [("_law_k", 8)]) (N := N_l_rows) (sc := defScope s_l_rows) (by decide +kernel)) (fun _ _ _ _ _ => (pg_name (i := 8) sc_l_rows.nd rfl (Or.inl rfl))) (fun _ _ _ _ _ => pts_nil) (fun _ _ _ _ _ => (pe_call (ok_l_raw (P := P) T) (hr.mono (by decide)) rfl T.g_l_raw T.F_l_raw.kp (bd_l_raw T) .nil pass0 (pa_cons (pv 0) pa_nil)))))
      (pss_cons (ps_if (pt_cmpR op_eq (pv 3) pe_int (nomark _)) (pss_one (ps_ret (pv 4))) pss_nil)
      (C8.pss_cut (ps_set (i := 5) sc_l_rows.nd rfl (Or.inr rfl) (pe_or (pe_cmpR op_eq (pv 3) pe_int (nomark _)) (pe_one (pe_and (pe_cmpR op_eq (pv 3) pe_int (nomark _)) (pe_one (pe_ix ix_tup (pe_ix ix_list (pv 4) pe_int (fun _ _ => rfl)) pe_int (fun _ _ => rfl)))))))
      (pss_cons (ps_setLc (i := 6) (own := [("_law_k", 8)]) (g := gName 8) (tt := tYes) rfl sc_l_rows.nd rfl rfl (sw_true rfl rfl rfl (by decide +kernel)) (pi_range1 (by rfl) T.n_range (pa_cons (pv 2) pa_nil)) (blkOk_by (own := [("_law_k", 8)]) (N := N_l_rows) (sc := defScope s_l_rows) (by decide +kernel)) (fun _ _ _ _ _ => (pg_name (i := 8) sc_l_rows.nd rfl (Or.inl rfl))) (fun _ _ _ _ _ => pts_nil) (fun _ _ _ _ _ => (pe_call (ok_l_calm (P := P) T) (hr.mono (by decide)) rfl T.g_l_calm T.F_l_calm.kp (bd_l_calm T) .nil pass0 (pa_cons (pe_ix (ix_listK (K := K) rfl) (pv 4) (pv 8) (fun _ _ => rfl)) (pa_cons (pv 8) (pa_cons (pv 5) pa_nil))))))
      (pss_cons (ps_if (pt_cmpR op_eq (pv 3) pe_int (nomark _)) (pss_cons (ps_set (i := 7) sc_l_rows.nd rfl (Or.inl rfl) (pe_call (ok_l_take (P := P) T) (hr.mono (by decide)) rfl T.g_l_take T.F_l_take.kp (bd_l_take T) .nil pass0 (pa_cons (pv 0) (pa_cons (pv 2) pa_nil))))
      (pss_one (ps_asg (pe_ix ix_list (pv 4) (pv 7) (fun _ _ => rfl)) (pg_sub (pv 6) (pv 7) set_list)))) pss_nil)
      (pss_one (ps_ret (pv 6))))))))))), ?_⟩
    refine ⟨_, rfl, _, rfl, l, m, rfl, hP, by omega, fun v H1 v0 v1 o1 P1 => ⟨_, _, rfl, rfl, ?_⟩⟩
    refine ⟨_, rfl, l, 4, rfl, P1, by omega, fun st H2 s0 s1 o2 P2 => ?_⟩
    refine ⟨_, rfl, _, rfl, by omega, by omega, fun D nD => ?_⟩
    have Dl : D ≠ l := P2.ne nD
    have nv : (1 + v).toNat = v.toNat + 1 := by omega
    refine lc_range (lo := 0) (n := _) (fun i H' => ∃ rs, RowsAt H' D rs ∧ rs.length = i ∧ Fl l H2 H' ∧ PoolAt H' l) ⟨[], RowsAt.nil, rfl, Fl.new nD, P2.upd nD⟩ ?_ ?_
    · rintro i H3 hi ⟨rs, R, hl, f3, P3⟩
      refine ⟨rfl, ?_⟩
      refine ⟨_, rfl, l, rfl, P3, fun r t H4 ok nt tl f4 P4 ht => ?_⟩
      obtain ⟨xs, h1, h2, h3⟩ := (R.fl f4 Dl P3).snoc ht ok
      exact ⟨xs, h1, small1000 (by omega), rs ++ [r], h3, by rw [List.length_append, hl]; rfl, fun a o n h => upd_oth (ne_of_none h nD) ((f3.trans f4) a o n h), by obtain ⟨ns, p1, p2⟩ := P4; exact ⟨ns, upd_oth Dl.symm p1, p2⟩⟩
    · rintro H3 ⟨rs, R, hl, f3, P3⟩
      have fH : Fl l H H3 := (o1.trans o2).trans f3
      have Dn : H D = none := (o1.trans o2).free Dl nD
      refine ⟨_, rfl, rfl, _, rfl, ?_⟩
      refine iteB (fun _ => ?_) (fun _ => ?_)
      · exact ⟨_, rfl, k rs D H3 R (by omega) (by omega) Dn Dl fH P3⟩
      obtain ⟨xs0, t0, r0, hx0, ha0, hr0, ok0, ht0⟩ := R.row (i := 0) (by omega) (by omega)
      refine ⟨fun σ H' => ∃ b : Bool, σ = [some (.ref l), some (.int m), some (.int (1 + v)), some (.int st), some (.ref D), some (.bl b), none, none, none] ∧ H3 = H', ?_, ?_⟩
      · refine ⟨_, rfl, rfl, _, rfl, ?_⟩
        refine iteB (fun _ => ⟨_, rfl, rfl⟩) (fun _ => ?_)
        refine ⟨_, rfl, rfl, _, rfl, ?_⟩
        refine iteB (fun _ => ?_) (fun _ => ⟨_, rfl, rfl⟩)
        exact ⟨_, rfl, _, _, _, _, rfl, rfl, SqL.of hx0, ha0, _, _, _, _, rfl, rfl, SqT.of ht0, (row_at r0).2.2.1, ⟨_, rfl, rfl⟩⟩
      · rintro σ H' ⟨b, rfl, rfl⟩
        refine ⟨_, rfl, _, rfl, by omega, by omega, fun D2 nD2 => ?_⟩
        have Dl2 : D2 ≠ l := P3.ne nD2
        have DD : D ≠ D2 := ne_of_none hx0 nD2
        refine lc_range (lo := 0) (n := _) (fun i H' => ∃ rs2, RowsAt H' D2 rs2 ∧ rs2.length = i ∧ Same H3 H') ⟨[], RowsAt.nil, rfl, Same.new nD2⟩ ?_ ?_
        · rintro i H4 hi ⟨rs2, R2, hl2, S4⟩
          refine ⟨rfl, ?_⟩
          obtain ⟨xs1, t1, r1, hx1, ha1, hr1, ok1, ht1⟩ := R.row (i := 0 + (i : Int)) (by omega) (by omega)
          refine ⟨_, rfl, _, rfl, _, _, _, _, rfl, rfl, SqL.of (S4 _ _ hx1), ha1, _, rfl, _, rfl, t1, r1, _, b, rfl, S4 _ _ ht1, ok1, by omega, by omega, fun r' t' H5 ok' nt' S5 ht' => ?_⟩
          obtain ⟨xs, h1, h2, h3⟩ := (R2.mono S5).snoc ht' ok'
          exact ⟨xs, h1, small1000 (by omega), rs2 ++ [r'], h3, by rw [List.length_append, hl2]; rfl, Same.upd (S4.trans S5) nD2⟩
        · rintro H4 ⟨rs2, R2, hl2, S4⟩
          have P4 : PoolAt H4 l := by obtain ⟨ns, p1, p2⟩ := P3; exact ⟨ns, S4 _ _ p1, p2⟩
          have f4 : Fl l H H4 := fH.trans (Fl.same S4)
          have Dn2 : H D2 = none := fH.free Dl2 nD2
          refine ⟨_, rfl, rfl, _, rfl, ?_⟩
          refine iteB (fun _ => ?_) (fun _ => ?_)
          · refine ⟨_, rfl, _, rfl, l, _, rfl, P4, by omega, fun at' H5 a0 a1 o5 P5 => ?_⟩
            have R5 := (R.mono S4).fl o5 Dl P4
            have R25 := R2.fl o5 Dl2 P4
            obtain ⟨xs1, t1, r1, hx1, ha1, hr1, ok1, ht1⟩ := R5.row (i := at') a0 (by omega)
            obtain ⟨xs, h1, h2, h3⟩ := R25.put (i := at'.toNat) ht1 ok1
            refine ⟨_, rfl, _, rfl, _, _, _, _, rfl, rfl, SqL.of hx1, ha1, _, rfl, _, rfl, D2, xs, _, _, rfl, rfl, h1, ixN_of a0 (by omega), ?_⟩
            refine ⟨_, rfl, k _ D2 _ h3 (by rw [List.length_set]; omega) (by rw [List.length_set]; omega) Dn2 Dl2 (fun a o n h => upd_oth (ne_of_none h Dn2) ((f4.trans o5) a o n h)) (by obtain ⟨ns, p1, p2⟩ := P5; exact ⟨ns, upd_oth Dl2.symm p1, p2⟩)⟩
          · exact ⟨_, rfl, k rs2 D2 H4 R2 (by omega) (by omega) Dn2 Dl2 f4 P4⟩
end

/-! ### books from rows; what is compared -/
def PsAt (K : PySem.W.Frag) (H : Hp) (l : Addr) (rs : List Ph) : Prop := ∃ as : List Addr, H l = some (.lst (as.map V.ref)) ∧ as.length = rs.length ∧ ∀ (i : Nat) (a : Addr) (r : Ph), as[i]? = some a → rs[i]? = some r → PhAt K H a r
theorem PsAt.nil {K : PySem.W.Frag} {H : Hp} {D : Addr} : PsAt K (upd H D (.lst [])) D [] := ⟨[], upd_same, rfl, fun i t r h _ => by simp at h⟩
theorem PsAt.mono {K : PySem.W.Frag} {H H' : Hp} {l : Addr} {rs : List Ph} (h : PsAt K H l rs) (e : Same H H') : PsAt K H' l rs := by
  obtain ⟨as, h1, h2, h3⟩ := h
  exact ⟨as, e _ _ h1, h2, fun i a r ha hr => (h3 i a r ha hr).same e⟩
theorem PsAt.snoc {K : PySem.W.Frag} {H : Hp} {D t : Addr} {rs : List Ph} {r : Ph} (h : PsAt K H D rs) (ht : PhAt K H t r) :
    ∃ xs, H D = some (.lst xs) ∧ xs.length = rs.length ∧ PsAt K (upd H D (.lst (xs ++ [.ref t]))) D (rs ++ [r]) := by
  obtain ⟨ts, h1, h2, h3⟩ := h
  refine ⟨_, h1, by rw [List.length_map, h2], ⟨ts ++ [t], by rw [upd_same, List.map_append]; rfl, by rw [List.length_append, List.length_append, h2]; rfl, fun i t' r' a b => ?_⟩⟩
  have keep : ∀ {x : Addr} {q : Ph}, PhAt K H x q → ∀ u, PhAt K (upd H D (.lst u)) x q := fun ⟨d, hx⟩ u => ⟨d, upd_oth (ne_of hx h1 (by intro z; cases z)) hx⟩
  by_cases hi : i < ts.length
  · rw [List.getElem?_append_left hi] at a
    rw [List.getElem?_append_left (by omega)] at b
    exact keep (h3 i t' r' a b) _
  · rw [List.getElem?_append_right (by omega)] at a
    rw [List.getElem?_append_right (by omega)] at b
    have e0 : i - ts.length = 0 := by
      have := (List.getElem?_eq_some_iff.mp a).1
      simp at this
      omega
    have e1 : i - rs.length = 0 := by omega
    rw [e0] at a
    rw [e1] at b
    cases a
    cases b
    exact keep ht _
def spBook (K : PySem.W.Frag) : Sp := fun vs H Q _ => ∃ (a : Addr) (rs : List Ph), vs = [.ref a] ∧ RowsAt H a rs ∧ 1 ≤ rs.length ∧ rs.length ≤ 6 ∧
  ∀ b l H', H b = none → H l = none → Same H H' → BkAt K H' b l rs → Q (.ref b) H'
def spLawAfter : Sp := fun vs H Q _ => ∃ (a : Addr) (rs : List Ph) (row : Nat), vs = [.ref a, .int row] ∧ RowsAt H a rs ∧ row < rs.length ∧ rs.length ≤ 6 ∧
  ∀ D H', H D = none → Same H H' → H' D = some (.lst (nts (after rs row))) → Q (.ref D) H'
def spSamePhase (K : PySem.W.Frag) : Sp := fun vs H Q _ => ∃ (x t : Addr) (r : Ph), vs = [.ref x, .ref t] ∧ PhAt K H x r ∧ H t = some (.tup r.vs) ∧ Q (.bl true) H
def spSameBook (K : PySem.W.Frag) : Sp := fun vs H Q _ => ∃ (b l a : Addr) (rs : List Ph), vs = [.ref b, .ref a] ∧ BkAt K H b l rs ∧ RowsAt H a rs ∧ Q (.bl true) H
def spAllAfter (K : PySem.W.Frag) : Sp := fun vs H Q _ => ∃ (b l a : Addr) (rs : List Ph), vs = [.ref b, .ref a] ∧ BkAt K H b l rs ∧ RowsAt H a rs ∧ ∀ H', Same H H' → Q (.bl true) H'
theorem bk_no (l : Addr) {m : Str} (h : ¬ m = "phases") : (bkF l).lookup m = none := by
  unfold bkF
  rw [lookup_putF, if_neg h]
  rfl
section
variable {P : Program} [SupP P pFile] {w : World} {K : PySem.W.Frag} {mg : Str → Option Value} {base : Heap}
theorem ok_l_book (T : Tx K mg) : FnOk P w K mg base CX0 7 (gad "_law_book" K) (fdD K (gad "_law_book" K)) P_l_book (spBook K) := by
  refine T.F_l_book.ok sc_l_book (fun vs H Q E h => ?_) (fun cdv A outer s H vs Q E hr h => ?_)
  · obtain ⟨a, rs, rfl, _⟩ := h; rfl
  · obtain ⟨a, rs, rfl, R, n1, n6, k⟩ := h
    refine ⟨_, PSs.nox ((pss_one (ps_ret (ClX.pe_cmeth (pe_gr rfl T.g_Book) T.cr_Book T.cm_Book_of (fr_Book_of (P := P) T) (hr.mono (by decide)) passL (pa_cons (pe_lc (own := [("_law_row", 1)]) (g := gName 1) (tt := tYes) rfl sc_l_book.nd (pi_list (pv 0)) (blkOk_by (own := [("_law_row", 1)]) (N := N_l_book) (sc := defScope s_l_book) (by decide +kernel)) (fun _ _ _ _ _ => (pg_name (i := 1) sc_l_book.nd rfl (Or.inl rfl))) (fun _ _ _ _ _ => pts_nil) (fun _ _ _ _ _ => (pe_call (ok_l_phase (P := P) T) (hr.mono (by decide)) rfl T.g_l_phase T.F_l_phase.kp (bd_l_phase T) .nil pass0 (pa_cons (pv 1) pa_nil)))) pa_nil))))), ?_⟩
    obtain ⟨⟨ts, h1, h2, h3⟩, rok⟩ := id R
    refine ⟨rfl, _, rfl, a, rfl, ⟨_, SqL.of h1⟩, fun D nD => lc_list (K := K) (a := a) (xs := ts.map V.ref) (fun i H' => PsAt K H' D (rs.take i) ∧ Same H H') ⟨PsAt.nil, Same.new nD⟩ (fun i H' _ ⟨_, S⟩ => SqL.of (S _ _ h1)) ?_ ?_⟩
    · rintro i x H1 hi ⟨p1, S1⟩
      rw [List.getElem?_map] at hi
      cases et : ts[i]? with
      | none => rw [et] at hi; cases hi
      | some t =>
        rw [et] at hi
        cases hi
        have hi2 : i < rs.length := by rw [← h2]; exact (List.getElem?_eq_some_iff.mp et).1
        obtain ⟨r, hr', hm⟩ := mem_get hi2
        refine ⟨rfl, _, rfl, t, r, rfl, S1 _ _ (h3 i t r et hr'), rok r hm, fun y H2 ny S2 hy => ?_⟩
        obtain ⟨xs, q1, q2, q3⟩ := (p1.mono S2).snoc hy
        rw [List.length_take] at q2
        refine ⟨xs, q1, small1000 (by omega), ?_, Same.upd (S1.trans S2) nD⟩
        rw [List.take_add_one, hr']
        exact q3
    · rintro H1 ⟨p1, S1⟩
      rw [List.length_map, h2, List.take_length] at p1
      obtain ⟨as, q1, q2, q3⟩ := p1
      refine ⟨D, _, rfl, SqL.of q1, by rw [List.length_map]; omega, fun hv b dx l H2 nb nl S2 hb hl => ?_, fun hv => ?_⟩
      · exact k b l H2 (S1.free nb) (S1.free nl) (S1.trans S2) ⟨⟨dx, hb⟩, ⟨as, hl, q2, fun i a r ha hr => (q3 i a r ha hr).same S2⟩, n1, n6, rok⟩
      · exact absurd ⟨by rw [List.length_map]; omega, by rw [List.length_map]; omega⟩ hv
end

section
variable {P : Program} [SupP P pFile] {w : World} {K : PySem.W.Frag} {mg : Str → Option Value} {base : Heap}
theorem ok_l_same_phase (T : Tx K mg) : FnOk P w K mg base CX0 3 (gad "_law_same_phase" K) (fdD K (gad "_law_same_phase" K)) P_l_same_phase (spSamePhase K) := by
  refine T.F_l_same_phase.ok sc_l_same_phase (fun vs H Q E h => ?_) (fun cdv A outer s H vs Q E hr h => ?_)
  · obtain ⟨x, t, r, rfl, _⟩ := h; rfl
  · obtain ⟨x, t, r, rfl, ⟨dx, hx⟩, ht, k⟩ := h
    refine ⟨_, PSs.nox ((pss_cons (ps_if (PW.pt (pw_or (pt_not (pt_val (pe_callB call_isi (by rfl) T.n_isinstance (by decide +kernel) (pa_cons (pv 0) (pa_cons (pe_gr rfl T.g_Phase) pa_nil))))) (pw_or (pt_not (pt_val (pe_call (ok_l_int (P := P) T) (hr.mono (by decide)) rfl T.g_l_int T.F_l_int.kp (bd_l_int T) .nil pass0 (pa_cons (pe_fld (pv 0) rfl) pa_nil)))) (pw_or1 (pt_not (pt_val (pe_call (ok_l_int (P := P) T) (hr.mono (by decide)) rfl T.g_l_int T.F_l_int.kp (bd_l_int T) .nil pass0 (pa_cons (pe_fld (pv 0) rfl) pa_nil)))))))) (pss_one (ps_ret pe_bl)) pss_nil)
      (pss_cons (ps_if (PW.pt (pw_or (pt_not (pt_val (pe_callB call_isi (by rfl) T.n_isinstance (by decide +kernel) (pa_cons (pe_fld (pv 0) rfl) (pa_cons (pe_bty "str" rfl T.n_str (by decide +kernel)) pa_nil))))) (pw_or (pt_cmpR op_ne (pe_fld (pv 0) rfl) (pe_ix ix_tup (pv 1) pe_int (fun _ _ => rfl)) (nomark _)) (pw_or1 (pt_cmpR op_ne (pe_fld (pv 0) rfl) (pe_ix ix_tup (pv 1) pe_int (fun _ _ => rfl)) (nomark _)))))) (pss_one (ps_ret pe_bl)) pss_nil)
      (pss_cons (ps_if (PW.pt (pw_or (pt_not (pt_val (pe_call (ok_l_is (P := P) T) (hr.mono (by decide)) rfl T.g_l_is T.F_l_is.kp (bd_l_is T) .nil pass0 (pa_cons (pe_fld (pv 0) rfl) (pa_cons (pe_ix ix_tup (pv 1) pe_int (fun _ _ => rfl)) pa_nil))))) (pw_or (pt_not (pt_val (pe_call (ok_l_is (P := P) T) (hr.mono (by decide)) rfl T.g_l_is T.F_l_is.kp (bd_l_is T) .nil pass0 (pa_cons (pe_fld (pv 0) rfl) (pa_cons (pe_ix ix_tup (pv 1) pe_int (fun _ _ => rfl)) pa_nil))))) (pw_or1 (pt_not (pt_val (pe_call (ok_l_is (P := P) T) (hr.mono (by decide)) rfl T.g_l_is T.F_l_is.kp (bd_l_is T) .nil pass0 (pa_cons (pe_fld (pv 0) rfl) (pa_cons (pe_ix ix_tup (pv 1) pe_int (fun _ _ => rfl)) pa_nil))))))))) (pss_one (ps_ret pe_bl)) pss_nil)
      (pss_one (ps_ret (pe_cmpR op_eq (pe_fld (pv 0) rfl) (pe_ix ix_tup (pv 1) pe_int (fun _ _ => rfl)) (nomark _)))))))), ?_⟩
    refine ⟨_, rfl, _, _, _, _, true, rfl, .own _, inst_ty T.i_Phase T.c_Phase hx, T.k_Phase_Phase, _, rfl, iteF ?_⟩
    refine ⟨_, rfl, x, _, dx, _, _, rfl, hx, T.c_Phase, T.na_Phase_hue, ph_hue r, _, rfl, _, rfl, iteF ?_⟩
    refine ⟨_, rfl, x, _, dx, _, _, rfl, hx, T.c_Phase, T.na_Phase_stand, ph_stand r, _, rfl, _, rfl, iteF ?_⟩
    refine ⟨_, rfl, x, _, dx, _, _, rfl, hx, T.c_Phase, T.na_Phase_barrier, ph_barrier r, _, _, .type "str", .type "str", true, rfl, .ty _, .base (.str _), kit_ty (by decide +kernel), _, rfl, iteF ?_⟩
    refine ⟨_, rfl, x, _, dx, _, _, rfl, hx, T.c_Phase, T.na_Phase_hue, ph_hue r, _, rfl, t, _, _, _, rfl, rfl, SqT.of ht, (row_at r).1, rfl, _, rfl, iteNS rfl ?_⟩
    refine ⟨_, rfl, x, _, dx, _, _, rfl, hx, T.c_Phase, T.na_Phase_barrier, ph_barrier r, _, rfl, t, _, _, _, rfl, rfl, SqT.of ht, (row_at r).2.1, rfl, _, rfl, iteNS rfl ?_⟩
    refine ⟨_, rfl, x, _, dx, _, _, rfl, hx, T.c_Phase, T.na_Phase_visits, ph_visits r, _, rfl, t, _, _, _, rfl, rfl, SqT.of ht, (row_at r).2.2.1, _, _, rfl, _, rfl, _, rfl, iteE (by simp) ?_⟩
    refine ⟨_, rfl, x, _, dx, _, _, rfl, hx, T.c_Phase, T.na_Phase_pauses, ph_pauses r, _, rfl, t, _, _, _, rfl, rfl, SqT.of ht, (row_at r).2.2.2.1, _, _, rfl, _, rfl, _, rfl, iteE (by simp) ?_⟩
    refine ⟨_, rfl, x, _, dx, _, _, rfl, hx, T.c_Phase, T.na_Phase_skips, ph_skips r, _, rfl, t, _, _, _, rfl, rfl, SqT.of ht, (row_at r).2.2.2.2.2, _, _, rfl, _, rfl, _, rfl, iteE (by simp) ?_⟩
    refine ⟨_, rfl, x, _, dx, _, _, rfl, hx, T.c_Phase, T.na_Phase_stand, ph_stand r, _, rfl, t, _, _, _, rfl, rfl, SqT.of ht, (row_at r).2.2.2.2.1, rfl, ?_⟩
    have e : decide (V.int r.std = V.int r.std) = true := decide_eq_true rfl
    show Q (.bl (decide (V.int r.std = V.int r.std))) H
    rw [e]
    exact k
end

section
variable {P : Program} [SupP P pFile] {w : World} {K : PySem.W.Frag} {mg : Str → Option Value} {base : Heap}
theorem ok_l_same_book (T : Tx K mg) : FnOk P w K mg base CX0 5 (gad "_law_same_book" K) (fdD K (gad "_law_same_book" K)) P_l_same_book (spSameBook K) := by
  refine T.F_l_same_book.ok sc_l_same_book (fun vs H Q E h => ?_) (fun cdv A outer s H vs Q E hr h => ?_)
  · obtain ⟨b, l, a, rs, rfl, _⟩ := h; rfl
  · obtain ⟨b, l, a, rs, rfl, B, R, k⟩ := h
    refine ⟨_, PSs.nox ((pss_cons (ps_if (PW.pt (pw_or (pt_not (pt_val (pe_callB call_isi (by rfl) T.n_isinstance (by decide +kernel) (pa_cons (pv 0) (pa_cons (pe_gr rfl T.g_Book) pa_nil))))) (pw_or (pt_not (pt_val (pe_call (ok_l_int (P := P) T) (hr.mono (by decide)) rfl T.g_l_int T.F_l_int.kp (bd_l_int T) .nil pass0 (pa_cons (pe_callB (call_lenO T.o_Book_len (fr_Book_len (P := P) T) (hr.mono (by decide)) pass0) (by rfl) T.n_len (by decide +kernel) (pa_cons (pv 0) pa_nil)) pa_nil)))) (pw_or1 (pt_cmpR op_ne (pe_callB (call_lenO T.o_Book_len (fr_Book_len (P := P) T) (hr.mono (by decide)) pass0) (by rfl) T.n_len (by decide +kernel) (pa_cons (pv 0) pa_nil)) (pe_callB call_len_seq (by rfl) T.n_len (by decide +kernel) (pa_cons (pv 1) pa_nil)) (nomark _)))))) (pss_one (ps_ret pe_bl)) pss_nil)
      (pss_cons (ps_for PassesOwn.never rfl (pi_range1 (by rfl) T.n_range (pa_cons (pe_callB call_len_seq (by rfl) T.n_len (by decide +kernel) (pa_cons (pv 1) pa_nil)) pa_nil)) (pg_name (i := 2) sc_l_same_book.nd rfl (Or.inl rfl)) (pss_one (ps_if (pt_not (pt_val (pe_call (ok_l_same_phase (P := P) T) (hr.mono (by decide)) rfl T.g_l_same_phase T.F_l_same_phase.kp (bd_l_same_phase T) .nil pass0 (pa_cons (pe_ixO T.o_Book_getitem (fr_Book_getitem (P := P) T) (hr.mono (by decide)) pass0 (pv 0) (pv 2)) (pa_cons (pe_ix ix_list (pv 1) (pv 2) (fun _ _ => rfl)) pa_nil))))) (pss_one (ps_ret pe_bl)) pss_nil)))
      (pss_one (ps_ret pe_bl))))), ?_⟩
    obtain ⟨dx, hb⟩ := B.bk
    obtain ⟨xs, hx, el⟩ := R.len
    have n1 := B.n1
    have n6 := B.n6
    refine ⟨_, rfl, _, _, _, _, true, rfl, .own _, inst_ty T.i_Book T.c_Book hb, T.k_Book_Book, _, rfl, iteF ?_⟩
    refine ⟨_, rfl, b, dx, _, rfl, hb, b, l, rs, rfl, B, rs.length, rfl, by omega, _, rfl, _, rfl, iteF ?_⟩
    refine ⟨_, rfl, b, dx, _, rfl, hb, b, l, rs, rfl, B, rs.length, rfl, by omega, _, rfl, a, _, rfl, .inl (SqL.of hx), rfl, _, rfl, iteNS (by rw [el]) ?_⟩
    refine ⟨_, rfl, a, _, rfl, .inl (SqL.of hx), ?_⟩
    refine ⟨_, rfl, by omega, by omega, for_range (n := _) (fun j σ H' => ∃ q, σ = [some (.ref b), some (.ref a), q] ∧ H = H') ⟨_, rfl, rfl⟩ ?_ ?_⟩
    · rintro j σ H2 hj ⟨q, rfl, rfl⟩
      have hj2 : j < rs.length := by rw [← el]; exact hj
      obtain ⟨xs2, t, r, hx2, hat, hr', rok, ht⟩ := R.row (i := 0 + (j : Int)) (by omega) (by omega)
      refine ⟨_, rfl, _, rfl, b, dx, _, rfl, hb, b, l, rs, _, rfl, B, fun p r2 hr2 ok2 hp => ?_⟩
      have em : (0 + (j : Int)) % (rs.length : Int) = 0 + (j : Int) := Int.emod_eq_of_lt (by omega) (by omega)
      rw [em, hr'] at hr2
      cases hr2
      exact ⟨_, rfl, _, rfl, _, _, _, _, rfl, rfl, SqL.of hx2, hat, p, t, r, rfl, hp, ht, _, rfl, iteF ⟨_, rfl, rfl⟩⟩
    · rintro σ H2 ⟨q, rfl, rfl⟩
      exact k
end

/-! ### slices of rows -/
theorem yesT {σ : L2.St} {H : Hp} {Q : Bool → Hp → Prop} (h : Q true H) : tYes σ H Q := h
theorem cut_take (xs : List V) {i : Int} (h0 : 0 ≤ i) (h1 : i ≤ xs.length) : cutV xs none (some i) = xs.take i.toNat := by
  have e : i = ((i.toNat : Nat) : Int) := (Int.toNat_of_nonneg h0).symm
  unfold cutV
  rw [e, HT.sIx_nat, HT.sIx_none, List.drop_zero, Int.toNat_natCast, Nat.sub_zero, Nat.min_eq_left (by omega)]
theorem cut_drop (xs : List V) {i : Int} (h0 : 0 ≤ i) (h1 : i ≤ xs.length) : cutV xs (some i) none = xs.drop i.toNat := by
  have e : i = ((i.toNat : Nat) : Int) := (Int.toNat_of_nonneg h0).symm
  unfold cutV
  rw [e, HT.sIx_nat, HT.sIx_none, Int.toNat_natCast, Nat.min_eq_left (by omega)]
  exact List.take_of_length_le (by rw [List.length_drop]; exact Nat.le_refl _)
theorem set_cut {α : Type} (xs : List α) (i : Nat) (x : α) (h : i < xs.length) : xs.take i ++ [x] ++ xs.drop (i + 1) = xs.set i x := by
  rw [List.set_eq_take_append_cons_drop, if_pos h]
  simp
theorem RowsAt.keep {H H' : Hp} {a l : Addr} {rs : List Ph} {u : List V} (h : RowsAt H a rs) (e : Fl l H H') (n : a ≠ l) (hl : H l = some (.lst u)) : RowsAt H' a rs := by
  obtain ⟨⟨ts, h1, h2, h3⟩, h4⟩ := h
  exact ⟨⟨ts, e _ _ n h1, h2, fun i t r ht hr => e _ _ (ne_of (h3 i t r ht hr) hl (by intro z; cases z)) (h3 i t r ht hr)⟩, h4⟩
abbrev rAddI : R2 := rI0 fun i j => .int (i + j)
/-- rows[:at] + [te] + rows[at + 1:] -/
theorem later_okG {K : PySem.W.Frag} {σ : L2.St} {H : Hp} {Q : VK} {i j : Nat} {te : TE} {a t : Addr} {rs : List Ph} {r : Ph} {at' : Int} (hi : σ[i]? = some (some (.ref a))) (hj : σ[j]? = some (some (.int at'))) (he : ∀ (H1 : Hp) (R : VK), Same H H1 → R (.ref t) H1 → te σ H1 R)
    (R : RowsAt H a rs) (h0 : 0 ≤ at') (h1 : at' < rs.length) (hz : rs.length ≤ 6) (ht : H t = some (.tup r.vs)) (ok : r.Ok) (q : ∀ D H', H D = none → Same H H' → RowsAt H' D (rs.set at'.toNat r) → Q (.ref D) H') :
    tOp rCat (tOp rCat (tSl (rSlL K) (tVar i) tNoPart (tPart (tVar j))) (tLst (tCons te tNil))) (tSl (rSlL K) (tVar i) (tPart (tOp rAddI (tVar j) (tC (.int 1)))) tNoPart) σ H Q := by
  obtain ⟨⟨ts, h2, h3, h4⟩, h5⟩ := id R
  refine ⟨_, hi, _, hj, _, rfl, a, _, rfl, SqL.of h2, fun p1 n1 => ?_⟩
  refine he _ _ (Same.new n1) ⟨(show (1 : Nat) ≤ sizeLine by decide), fun p2 n2 => ?_⟩
  have n2' : H p2 = none := Same.free (Same.new n1) n2
  refine ⟨p1, p2, _, _, rfl, rfl, upd_old n2 upd_same, upd_same, ?_, fun p3 n3 => ?_⟩
  · have := cutV_length (ts.map V.ref) none (some at')
    rw [List.length_map] at this
    exact Nat.le_trans (show _ ≤ 100 by show _ + 1 ≤ 100; omega) (by decide)
  have S3 : Same H (upd (upd (upd H p1 (.lst (cutV (ts.map V.ref) none (some at')))) p2 (.lst [.ref t])) p3 (.lst (cutV (ts.map V.ref) none (some at') ++ [.ref t]))) :=
    Same.upd (Same.upd (Same.new n1) n2') (Same.free (Same.upd (Same.new n1) n2') n3)
  refine ⟨_, hi, _, hj, _, _, rfl, rfl, _, rfl, a, _, rfl, SqL.of (S3 _ _ h2), fun p4 n4 => ?_⟩
  refine ⟨p3, p4, _, _, rfl, rfl, upd_old n4 upd_same, upd_same, ?_, fun p5 n5 => ?_⟩
  · have l1 := cutV_length (ts.map V.ref) none (some at')
    have l2 := cutV_length (ts.map V.ref) (some (at' + 1)) none
    rw [List.length_map] at l1 l2
    rw [List.length_append]
    exact Nat.le_trans (show _ ≤ 100 by show _ + 1 + _ ≤ 100; omega) (by decide)
  have n4' := S3.free n4
  have S4 := Same.upd (u := .lst (cutV (ts.map V.ref) (some (at' + 1)) none)) S3 n4'
  have n5' := S4.free n5
  refine q p5 _ n5' (Same.upd S4 n5') ?_
  have el : (ts.map V.ref).length = rs.length := by rw [List.length_map, h3]
  rw [cut_take _ h0 (by omega), cut_drop _ (by omega) (by omega)]
  have ea : (at' + 1).toNat = at'.toNat + 1 := by omega
  rw [ea, set_cut _ _ _ (by omega)]
  refine ⟨⟨ts.set at'.toNat t, by rw [upd_same, List.map_set], by rw [List.length_set, List.length_set, h3], fun m t' r' ha hb => ?_⟩, fun x hx => ?_⟩
  · have S5 : Same H (upd (upd (upd (upd (upd H p1 (.lst ((ts.map V.ref).take at'.toNat))) p2 (.lst [.ref t])) p3 (.lst ((ts.map V.ref).take at'.toNat ++ [.ref t]))) p4 (.lst ((ts.map V.ref).drop (at'.toNat + 1)))) p5 (.lst ((ts.map V.ref).set at'.toNat (.ref t)))) := by
      refine Same.upd (Same.upd (Same.upd (Same.upd (Same.new n1) n2') ?_) n4') n5'
      exact Same.free (Same.upd (Same.new n1) n2') n3
    rw [List.getElem?_set] at ha hb
    split at ha
    · rename_i ei
      rw [if_pos ei] at hb
      split at ha
      · split at hb
        · cases ha; cases hb
          exact S5 _ _ ht
        · cases hb
      · cases ha
    · rename_i ei
      rw [if_neg ei] at hb
      exact S5 _ _ (h4 m t' r' ha hb)
  · rcases List.mem_or_eq_of_mem_set hx with z | z
    · exact h5 x z
    · rw [z]; exact ok
/-- rows[:at] + [new] + rows[at + 1:] -/
theorem later_ok {K : PySem.W.Frag} {σ : L2.St} {H : Hp} {Q : VK} {i j k : Nat} {a t : Addr} {rs : List Ph} {r : Ph} {at' : Int} (hi : σ[i]? = some (some (.ref a))) (hj : σ[j]? = some (some (.int at'))) (hk : σ[k]? = some (some (.ref t)))
    (R : RowsAt H a rs) (h0 : 0 ≤ at') (h1 : at' < rs.length) (hz : rs.length ≤ 6) (ht : H t = some (.tup r.vs)) (ok : r.Ok) (q : ∀ D H', H D = none → Same H H' → RowsAt H' D (rs.set at'.toNat r) → Q (.ref D) H') :
    tOp rCat (tOp rCat (tSl (rSlL K) (tVar i) tNoPart (tPart (tVar j))) (tLst (tCons (tVar k) tNil))) (tSl (rSlL K) (tVar i) (tPart (tOp rAddI (tVar j) (tC (.int 1)))) tNoPart) σ H Q :=
  later_okG hi hj (fun _ _ _ h => ⟨_, hk, h⟩) R h0 h1 hz ht ok q
def Ph.withSkp (r : Ph) (b : Bool) : Ph := { r with skp := b }
theorem Ph.Ok.withSkp {r : Ph} (ok : r.Ok) (b : Bool) : (r.withSkp b).Ok := ⟨ok.h0, ok.h1, ok.s0, ok.s1⟩
theorem cut5 (r : Ph) : cutV r.vs none (some 5) = [.int r.hue, .str r.bar.s, .bl r.vis, .bl r.pau, .int r.std] := rfl
/-- row[:5] + (b,): te the row, tb its last place -/
theorem mark_ok {K : PySem.W.Frag} {σ : L2.St} {H : Hp} {Q : VK} {te tb : TE} {t : Addr} {r : Ph} {b : Bool} (he : ∀ R : VK, R (.ref t) H → te σ H R) (hb : ∀ (H' : Hp) (R : VK), Same H H' → (∀ H2, Same H' H2 → R (.bl b) H2) → tb σ H' R)
    (ht : H t = some (.tup r.vs)) (q : ∀ p H', H p = none → Same H H' → H' p = some (.tup (r.withSkp b).vs) → Q (.ref p) H') :
    tOp (rCatT K) (tSl (rSlT K) te tNoPart (tPart (tC (.int 5)))) (tTup (tCons tb tNil)) σ H Q := by
  refine he _ ⟨_, rfl, t, _, rfl, SqT.of ht, (show ¬ ((0 : Nat) = 0 ∧ (5 : Nat) = 6) by decide), fun p1 n1 => ?_⟩
  refine hb _ _ (Same.new n1) fun H2 S2 => ?_
  refine ⟨(show (1 : Nat) ≤ sizeLine by decide), fun p2 n2 => ?_⟩
  refine ⟨p1, p2, _, _, rfl, rfl, SqT.of (upd_old n2 (S2 _ _ upd_same)), SqT.of upd_same, ?_, (show (6 : Nat) ≤ sizeLine by decide), fun z => absurd z (by simp), fun _ p3 n3 => ?_⟩
  · rw [cut5]; simp
  have n2' : H p2 = none := Same.free ((Same.new n1).trans S2) n2
  have S3 := Same.upd (u := .tup [V.bl b]) ((Same.new n1).trans S2) n2'
  exact q p3 _ (S3.free n3) (Same.upd S3 (S3.free n3)) upd_same
theorem nextT {D : Ends} {σ : L2.St} {H : Hp} (h : D.nx σ H) : tNext D σ H := h
theorem seqT {t u : TS} {D : Ends} {σ : L2.St} {H : Hp} (h : t { D with nx := u D } σ H) : tSeq t u D σ H := h
theorem asgT {te : TE} {g : TG} {D : Ends} {σ : L2.St} {H : Hp} (h : te σ H fun x H1 => g x σ H1 D.nx) : tAsg te g D σ H := h

/-! ### BadBook caught -/
def kitsNo : List Str := []
def spBadBook (K : PySem.W.Frag) : Sp := fun vs H Q _ => ∃ (a : Addr), vs = [.ref a] ∧ ((H a = some (Exn (.ref (gad "BadBook" K)) none a) ∧ ∀ H', Same H H' → Q (.bl true) H') ∨ (∃ fs, ExF H (gad "BadPhase" K) a fs) ∧ Q (.bl false) H)
theorem okS_l_bad_book {P : Program} {w : World} {K : PySem.W.Frag} {mg : Str → Option Value} {base : Heap} (T : Tx K mg) : FnS P w K mg base 1 (gad "_law_bad_book" K) (fdD K (gad "_law_bad_book" K)) P_l_bad_book (spBadBook K) := by
  refine fnS_of T.F_l_bad_book sc_l_bad_book (fun vs H Q E h => ?_) (fun cdv A outer s H vs Q E hr h => ?_)
  · obtain ⟨a, rfl, _⟩ := h; rfl
  · obtain ⟨a, rfl, h⟩ := h
    refine ⟨_, PSs.nox ((pss_cons (ps_if (PW.pt (pw_or (pt_not (pt_val (pe_callB (callR_or (call_isX T.e_BadBook) (call_isD T.e_BadPhase)) (by rfl) T.n_isinstance (by decide +kernel) (pa_cons (pv 0) (pa_cons (pe_gr rfl T.g_BadBook) pa_nil))))) (pw_or1 (pt_not (pt_val (pe_callB (callR_or (call_isX T.e_BadBook) (call_isD T.e_BadPhase)) (by rfl) T.n_isinstance (by decide +kernel) (pa_cons (pv 0) (pa_cons (pe_bty "ValueError" rfl T.n_ValueError (by decide +kernel)) pa_nil)))))))) (pss_one (ps_ret pe_bl)) pss_nil)
      (pss_one (ps_ret (pe_not (pe_callB (callR_or (call_isXT T.e_BadBook) (call_isDT T.e_BadPhase)) (by rfl) T.n_isinstance (by decide +kernel) (pa_cons (pv 0) (pa_cons (pe_tup (pa_cons (pe_gr rfl T.g_BadPhase) (pa_cons (pe_gr rfl T.g_BadRef) (pa_cons (pe_gr rfl T.g_Refused) (pa_cons (pe_gr rfl T.g_TooMany) (pa_cons (pe_gr rfl T.g_Wrong) pa_nil)))))) pa_nil)))))))), ?_⟩
    rcases h with ⟨ha, k⟩ | ⟨⟨fs, ha⟩, k⟩
    · refine ⟨_, rfl, .inl ⟨_, _, _, _, rfl, ha, .own _, T.k_BadBook_BadBook, _, rfl, iteF ?_⟩⟩
      refine ⟨_, rfl, .inl ⟨_, _, _, _, rfl, ha, .ty _, T.k_BadBook_ValueError, _, rfl, iteF ?_⟩⟩
      refine ⟨_, rfl, (show (5 : Nat) ≤ sizeLine by decide), fun p np => ?_⟩
      have e : PySem.W.kitAny K (.ref (gad "BadBook" K)) [.ref (gad "BadPhase" K), .ref (gad "BadRef" K), .ref (gad "Refused" K), .ref (gad "TooMany" K), .ref (gad "Wrong" K)] = some false := by
        unfold PySem.W.kitAny
        rw [T.k_BadBook_BadPhase]
        unfold PySem.W.kitAny
        rw [T.k_BadBook_BadRef]
        unfold PySem.W.kitAny
        rw [T.k_BadBook_Refused]
        unfold PySem.W.kitAny
        rw [T.k_BadBook_TooMany]
        unfold PySem.W.kitAny
        rw [T.k_BadBook_Wrong]
        rfl
      exact .inl ⟨a, p, _, _, _, rfl, upd_old np ha, upd_same, .cons (.own _) (.cons (.own _) (.cons (.own _) (.cons (.own _) (.cons (.own _) .nil)))), e, _, rfl, k _ (Same.new np)⟩
    · exact ⟨_, rfl, .inr ⟨_, _, _, _, _, rfl, ha, .own _, T.k_BadPhase_BadBook, _, rfl, iteT k⟩⟩

def spField (K : PySem.W.Frag) : Sp := fun vs H Q _ => ∃ (a : Addr) (f : Str), vs = [.ref a] ∧ ExF H (gad "BadPhase" K) a [("field", .str f)] ∧ ∀ H', Same H H' → Q (.str f) H'
theorem set_at {σ : L2.St} {i n : Nat} {x : Option V} (hl : σ.length = n) (h : i < n) : (σ.set i x)[i]? = some x := List.getElem?_set_self (by rw [hl]; exact h)
section
variable {P : Program} [SupP P pFile] {w : World} {K : PySem.W.Frag} {mg : Str → Option Value} {base : Heap}
theorem okS_l_field (T : Tx K mg) : FnS P w K mg base 1 (gad "_law_field" K) (fdD K (gad "_law_field" K)) P_l_field (spField K) := by
  refine fnS_of T.F_l_field sc_l_field (fun vs H Q E h => ?_) (fun cdv A outer s H vs Q E hr h => ?_)
  · obtain ⟨a, f, rfl, _⟩ := h; rfl
  · obtain ⟨a, f, rfl, ha, k⟩ := h
    refine ⟨_, PSs.nox ((pss_cons (ps_if (PW.pt (pw_or (pt_not (pt_val (pe_callB (call_isD T.e_BadPhase) (by rfl) T.n_isinstance (by decide +kernel) (pa_cons (pv 0) (pa_cons (pe_gr rfl T.g_BadPhase) pa_nil))))) (pw_or (pt_not (pt_val (pe_callB (call_isD T.e_BadPhase) (by rfl) T.n_isinstance (by decide +kernel) (pa_cons (pv 0) (pa_cons (pe_bty "ValueError" rfl T.n_ValueError (by decide +kernel)) pa_nil))))) (pw_or1 (pt_not (pt_val (pe_callB call_isi (by rfl) T.n_isinstance (by decide +kernel) (pa_cons (pe_xv T.e_BadPhase T.na_BadPhase_field (pv 0)) (pa_cons (pe_bty "str" rfl T.n_str (by decide +kernel)) pa_nil))))))))) (pss_one (ps_ret pe_str)) pss_nil)
      (pss_cons (ps_if (pt_val (pe_callB (call_isDT T.e_BadPhase) (by rfl) T.n_isinstance (by decide +kernel) (pa_cons (pv 0) (pa_cons (pe_tup (pa_cons (pe_gr rfl T.g_BadBook) (pa_cons (pe_gr rfl T.g_BadRef) (pa_cons (pe_gr rfl T.g_Refused) (pa_cons (pe_gr rfl T.g_TooMany) (pa_cons (pe_gr rfl T.g_Wrong) pa_nil)))))) pa_nil)))) (pss_one (ps_ret pe_str)) pss_nil)
      (pss_one (ps_ret (pe_xv T.e_BadPhase T.na_BadPhase_field (pv 0))))))), ?_⟩
    refine ⟨_, rfl, _, _, _, _, _, rfl, ha, .own _, T.k_BadPhase_BadPhase, _, rfl, iteF ?_⟩
    refine ⟨_, rfl, _, _, _, _, _, rfl, ha, .ty _, T.k_BadPhase_ValueError, _, rfl, iteF ?_⟩
    refine ⟨_, rfl, _, _, _, rfl, ha, rfl, _, _, .type "str", .type "str", true, rfl, .ty _, .base (.str _), kit_ty (by decide +kernel), _, rfl, iteF ?_⟩
    refine ⟨_, rfl, (show (5 : Nat) ≤ sizeLine by decide), fun p np => ?_⟩
    have e : PySem.W.kitAny K (.ref (gad "BadPhase" K)) [.ref (gad "BadBook" K), .ref (gad "BadRef" K), .ref (gad "Refused" K), .ref (gad "TooMany" K), .ref (gad "Wrong" K)] = some false := by
      unfold PySem.W.kitAny
      rw [T.k_BadPhase_BadBook]
      unfold PySem.W.kitAny
      rw [T.k_BadPhase_BadRef]
      unfold PySem.W.kitAny
      rw [T.k_BadPhase_Refused]
      unfold PySem.W.kitAny
      rw [T.k_BadPhase_TooMany]
      unfold PySem.W.kitAny
      rw [T.k_BadPhase_Wrong]
      rfl
    have ha2 := ha.same (Same.new (u := .tup [.ref (gad "BadBook" K), .ref (gad "BadRef" K), .ref (gad "Refused" K), .ref (gad "TooMany" K), .ref (gad "Wrong" K)]) np)
    refine ⟨a, p, _, _, _, _, rfl, ha2, upd_same, .cons (.own _) (.cons (.own _) (.cons (.own _) (.cons (.own _) (.cons (.own _) .nil)))), e, _, rfl, iteF ?_⟩
    exact ⟨_, rfl, _, _, _, rfl, ha2, rfl, k _ (Same.new np)⟩
end
theorem exf_of {H : Hp} {C a dd : Addr} {fs : List (Str × V)} (na : H a = none) (hd : H dd = some (.xd fs)) : ExF (L2.upd H a (Exn (.ref C) (some dd) a)) C a fs := ⟨dd, upd_same, upd_old na hd⟩

end Hue

set_option Elab.async false
set_option linter.all false
set_option maxRecDepth 100000
set_option maxHeartbeats 1000000
namespace Hue
open PySem PySem.Spec PyProof.Rows L2
local macro_rules | `(tactic| walk_at "hp") => `(tactic| first
  | assumption
  | exact upd_same
  | (refine upd_old (by assumption) ?_; walk_at "hp")
  | (refine upd_oth (by assumption) ?_; walk_at "hp")
  | (refine same_get (by assumption) ?_; walk_at "hp")
  | (refine Fl.get (by assumption) (by assumption) ?_; walk_at "hp"))
local macro_rules | `(tactic| walk_at "seq") => `(tactic| first
  | assumption
  | exact T.t_BARRIERS _
  | exact SqL.of (by walk_at "hp")
  | exact SqT.of (by walk_at "hp"))
local macro_rules | `(tactic| walk_at "len") => `(tactic| first
  | exact Or.inl (by walk_at "seq")
  | exact Or.inr (by walk_at "seq"))
local macro_rules | `(tactic| walk_at "at") => `(tactic| first
  | rfl
  | assumption)

section
variable {P : Program} [SupP P pFile] {w : World} {K : PySem.W.Frag} {mg : Str → Option Value} {base : Heap}
theorem ok_Phase_text (T : Tx K mg) : FnOk P w K mg base CX0 1 (pad "property" "Phase" "text" K) (fdD K (pad "property" "Phase" "text" K)) P_Phase_text (spPhText K) := by
  refine T.F_Phase_text.ok sc_Phase_text (fun vs H Q E h => ?_) (fun cdv A outer s H vs Q E hr h => ?_)
  · obtain ⟨a, r, rfl, _⟩ := h; rfl
  · obtain ⟨a, r, rfl, ⟨dx, ha⟩, hg, k⟩ := h
    obtain ⟨ph, ok, er⟩ := Rw.good hg
    have h0 : 0 ≤ r.hue := by rw [← er]; exact ok.h0
    have h1 : r.hue ≤ 9 := by rw [← er]; exact Int.le_trans ok.h1 (by decide)
    have s0 : 0 ≤ r.std := by rw [← er]; exact ok.s0
    have s1 : r.std ≤ 9 := by rw [← er]; exact Int.le_trans ok.s1 (by decide)
    have bl : r.bar.length ≤ 10 := by rw [← er]; exact bar_len ph.bar
    refine ⟨_, PSs.nox ((pss_cons (ps_set (i := 1) sc_Phase_text.nd rfl (Or.inl rfl) (pe_lst (pa_cons (pe_callTy call_str_int (by rfl) T.n_str (by decide +kernel) (pa_cons (pe_fld (pv 0) rfl) pa_nil)) (pa_cons (pe_fld (pv 0) rfl) pa_nil))))
      (C8.pss_cut (ps_if (pt_val (pe_fld (pv 0) rfl)) (pss_one (ps_expr (pe_bm PySem.F.plainAttrs_list PySem.F.slot_list_append PySem.F.type_list_append mt_append (pv 1) (pa_cons pe_str pa_nil)))) pss_nil)
      (C8.pss_cut (ps_if (pt_val (pe_fld (pv 0) rfl)) (pss_one (ps_expr (pe_bm PySem.F.plainAttrs_list PySem.F.slot_list_append PySem.F.type_list_append mt_append (pv 1) (pa_cons pe_str pa_nil)))) pss_nil)
      (C8.pss_cut (ps_if (pt_cmpR op_ne (pe_fld (pv 0) rfl) pe_int (nomark _)) (pss_one (ps_expr (pe_bm PySem.F.plainAttrs_list PySem.F.slot_list_append PySem.F.type_list_append mt_append (pv 1) (pa_cons (pe_op op_add_str pe_str (pe_callTy call_str_int (by rfl) T.n_str (by decide +kernel) (pa_cons (pe_fld (pv 0) rfl) pa_nil))) pa_nil)))) pss_nil)
      (C8.pss_cut (ps_if (pt_val (pe_fld (pv 0) rfl)) (pss_one (ps_expr (pe_bm PySem.F.plainAttrs_list PySem.F.slot_list_append PySem.F.type_list_append mt_append (pv 1) (pa_cons pe_str pa_nil)))) pss_nil)
      (pss_one (ps_ret (pe_join pe_str (pv 1)))))))))), ?_⟩
    refine ⟨_, rfl, a, _, dx, _, _, rfl, ha, T.c_Phase, T.na_Phase_hue, rw_hue r, _, rfl, small_log h0 h1, _, rfl, a, _, dx, _, _, rfl, ha, T.c_Phase, T.na_Phase_barrier, rw_barrier r, (show (2 : Nat) ≤ sizeLine by decide), fun l nl => ?_⟩
    refine ⟨WdAt H a l ([numS r.hue, r.bar] ++ (if r.vis = true then [("visits" : Str)] else [])), ?_, ?_⟩
    · have ha0 := upd_old (u := .lst [.str (numS r.hue), .str r.bar]) nl ha
      refine ⟨_, rfl, a, _, dx, _, _, rfl, ha0, T.c_Phase, T.na_Phase_visits, rw_visits r, _, rfl, iteB (fun c => ?_) (fun c => ?_)⟩
      · refine ⟨_, rfl, .inl ⟨rfl, _, SqL.of upd_same⟩, l, _, _, rfl, rfl, upd_same, (show (2 : Nat) < sizeLine by decide), rfl, nl, ?_, ?_⟩
        · simp only [upd_upd]; exact Same.new nl
        · rw [if_pos c]; exact upd_same
      · refine ⟨rfl, nl, ?_, ?_⟩
        · exact Same.new nl
        · rw [if_neg (by rw [c]; exact Bool.false_ne_true)]; exact upd_same
    · rintro σ H1 ⟨rfl, _, S1, w1⟩
      have z1 : ([numS r.hue, r.bar] ++ (if r.vis = true then [("visits" : Str)] else [])).length ≤ 3 := by split <;> simp
      have ha1 := S1 _ _ ha
      generalize e1 : ([numS r.hue, r.bar] ++ (if r.vis = true then [("visits" : Str)] else [])) = ws1 at w1 z1
      refine ⟨WdAt H a l (ws1 ++ (if r.pau = true then [("pauses" : Str)] else [])), ?_, ?_⟩
      · refine ⟨_, rfl, a, _, dx, _, _, rfl, ha1, T.c_Phase, T.na_Phase_pauses, rw_pauses r, _, rfl, iteB (fun c => ?_) (fun c => ?_)⟩
        · refine ⟨_, rfl, .inl ⟨rfl, _, SqL.of w1⟩, l, _, _, rfl, rfl, w1, wd_lt z1 (by decide), ?_⟩
          rw [if_pos c]
          exact WdAt.put nl S1
        · rw [if_neg (by rw [c]; exact Bool.false_ne_true), List.append_nil]
          exact ⟨rfl, nl, S1, w1⟩
      · rintro σ H2 ⟨rfl, _, S2, w2⟩
        have z2 : (ws1 ++ (if r.pau = true then [("pauses" : Str)] else [])).length ≤ 4 := by rw [List.length_append]; split <;> simp <;> omega
        have ha2 := S2 _ _ ha
        generalize e2 : (ws1 ++ (if r.pau = true then [("pauses" : Str)] else [])) = ws2 at w2 z2
        refine ⟨WdAt H a l (ws2 ++ (if r.std ≠ 0 then [("stand " : Str) ++ numS r.std] else [])), ?_, ?_⟩
        · refine ⟨_, rfl, a, _, dx, _, _, rfl, ha2, T.c_Phase, T.na_Phase_stand, rw_stand r, rfl, _, rfl, ?_⟩
          by_cases c : r.std = 0
          · refine iteNS (show V.int r.std = V.int 0 by rw [c]) ?_
            rw [if_neg (fun z => z c), List.append_nil]
            exact ⟨rfl, nl, S2, w2⟩
          · refine iteND (fun z => c (V.int.inj z)) ?_
            refine ⟨_, rfl, .inl ⟨rfl, _, SqL.of w2⟩, _, rfl, a, _, dx, _, _, rfl, ha2, T.c_Phase, T.na_Phase_stand, rw_stand r, _, rfl, small_log s0 s1, _, _, rfl, rfl, ?_, l, _, _, rfl, rfl, w2, wd_lt z2 (by decide), ?_⟩
            · have := num_le s0 s1
              have e6 : ("stand " : Str).length = 6 := by decide +kernel
              rw [e6]
              exact Nat.le_trans (show _ ≤ 100 by show 6 + (numS r.std).length ≤ 100; omega) (by decide)
            · rw [if_pos c]
              exact WdAt.put nl S2
        · rintro σ H3 ⟨rfl, _, S3, w3⟩
          have z3 : (ws2 ++ (if r.std ≠ 0 then [("stand " : Str) ++ numS r.std] else [])).length ≤ 5 := by rw [List.length_append]; split <;> simp <;> omega
          have ha3 := S3 _ _ ha
          generalize e3 : (ws2 ++ (if r.std ≠ 0 then [("stand " : Str) ++ numS r.std] else [])) = ws3 at w3 z3
          refine ⟨WdAt H a l (ws3 ++ (if r.skp = true then [("skips" : Str)] else [])), ?_, ?_⟩
          · refine ⟨_, rfl, a, _, dx, _, _, rfl, ha3, T.c_Phase, T.na_Phase_skips, rw_skips r, _, rfl, iteB (fun c => ?_) (fun c => ?_)⟩
            · refine ⟨_, rfl, .inl ⟨rfl, _, SqL.of w3⟩, l, _, _, rfl, rfl, w3, wd_lt z3 (by decide), ?_⟩
              rw [if_pos c]
              exact WdAt.put nl S3
            · rw [if_neg (by rw [c]; exact Bool.false_ne_true), List.append_nil]
              exact ⟨rfl, nl, S3, w3⟩
          · rintro σ H4 ⟨rfl, _, S4, w4⟩
            have ew : ws3 ++ (if r.skp = true then [("skips" : Str)] else []) = r.words := by
              unfold Rw.words
              rw [← e3, ← e2, ← e1]
            rw [ew] at w4
            refine ⟨⟨_, rfl⟩, _, rfl, _, l, _, rfl, rfl, .inl (SqL.of w4), ?_, ?_⟩
            · exact words_size h0 h1 s0 s1 bl
            · exact k _ S4
end

/-! ### Book.text -/
theorem join_le (a : Str) : ∀ ys : List Str, (Str.join a ys).length ≤ (ys.map (·.length)).sum + ys.length * a.length
  | [] => Nat.zero_le _
  | [x] => by
    show x.length ≤ _
    simp only [List.map_cons, List.map_nil, List.sum_cons, List.sum_nil]
    omega
  | x :: y :: r => by
    have ih := join_le a (y :: r)
    show (x ++ a ++ Str.join a (y :: r)).length ≤ _
    rw [Str.length_append, Str.length_append]
    simp only [List.map_cons, List.sum_cons, List.length_cons] at ih ⊢
    have e : (r.length + 1 + 1) * a.length = (r.length + 1) * a.length + a.length := by rw [Nat.add_mul, Nat.one_mul]
    omega
theorem words_le {r : Rw} (h0 : 0 ≤ r.hue) (h1 : r.hue ≤ 9) (s0 : 0 ≤ r.std) (s1 : r.std ≤ 9) (bl : r.bar.length ≤ 10) : (r.words.map (·.length)).sum + r.words.length * (" " : Str).length ≤ 200 := by
  have e1 : (" " : Str).length = 1 := by decide +kernel
  have e2 : ("visits" : Str).length = 6 := by decide +kernel
  have e3 : ("pauses" : Str).length = 6 := by decide +kernel
  have e4 : ("skips" : Str).length = 5 := by decide +kernel
  have e5 : ("stand " : Str).length = 6 := by decide +kernel
  have l1 := num_le h0 h1
  have l2 := num_le s0 s1
  have e6 : (("stand " : Str) ++ numS r.std).length = 6 + (numS r.std).length := by
    have z : (("stand " : Str) ++ numS r.std).length = ("stand " : Str).length + (numS r.std).length := by
      first
        | exact Str.length_append _ _
        | simp [Str.length, Str.cps_append]
    rw [z, e5]
  have g : ∀ {c : Prop} [Decidable c] (x : Str), x.length ≤ 20 → ((if c then [x] else []).map (·.length)).sum ≤ 20 ∧ (if c then [x] else []).length ≤ 1 := fun {c} _ x hx => by
    split
    · exact ⟨by simpa using hx, by simp⟩
    · exact ⟨by simp, by simp⟩
  have g1 := g (c := r.vis = true) "visits" (by rw [e2]; decide)
  have g2 := g (c := r.pau = true) "pauses" (by rw [e3]; decide)
  have g3 := g (c := r.std ≠ 0) (("stand " : Str) ++ numS r.std) (by rw [e6]; omega)
  have g4 := g (c := r.skp = true) "skips" (by rw [e4]; decide)
  unfold Rw.words
  rw [e1]
  simp only [List.map_append, List.sum_append, List.length_append, List.map_cons, List.map_nil, List.sum_cons, List.sum_nil, List.length_cons, List.length_nil]
  omega
theorem text_le {r : Ph} (ok : r.Ok) : r.rw.text.length ≤ 200 := by
  show (Builtin.Str.glued " " r.rw.words).length ≤ 200
  rw [StrLaws.glued_eq_join]
  refine Nat.le_trans (join_le _ _) (words_le (r := r.rw) ok.h0 (Int.le_trans ok.h1 (by decide)) ok.s0 (Int.le_trans ok.s1 (by decide)) ?_)
  show r.bar.s.length ≤ 10
  cases r.bar <;> decide +kernel
theorem sum_le {α : Type} {f : α → Nat} {m : Nat} : ∀ {xs : List α}, (∀ x ∈ xs, f x ≤ m) → (xs.map f).sum ≤ xs.length * m
  | [], _ => by simp
  | x :: xs, h => by
    have h1 := h x List.mem_cons_self
    have h2 := sum_le (xs := xs) fun y hy => h y (List.mem_cons_of_mem _ hy)
    simp only [List.map_cons, List.sum_cons, List.length_cons, Nat.add_mul, Nat.one_mul]
    omega
def bkText (rs : List Ph) : Str := Txt.join "\n" (rs.map fun r => r.rw.text)
def spBkText (K : PySem.W.Frag) : Sp := fun vs H Q _ => ∃ (b l : Addr) (rs : List Ph), vs = [.ref b] ∧ BkAt K H b l rs ∧ ∀ H', Same H H' → Q (.str (bkText rs)) H'
section
variable {P : Program} [SupP P pFile] {w : World} {K : PySem.W.Frag} {mg : Str → Option Value} {base : Heap}
theorem ok_Book_text (T : Tx K mg) : FnOk P w K mg base CX0 3 (pad "property" "Book" "text" K) (fdD K (pad "property" "Book" "text" K)) P_Book_text (spBkText K) := by
  refine T.F_Book_text.ok sc_Book_text (fun vs H Q E h => ?_) (fun cdv A outer s H vs Q E hr h => ?_)
  · obtain ⟨b, l, rs, rfl, _⟩ := h; rfl
  · obtain ⟨b, l, rs, rfl, B, k⟩ := h
    obtain ⟨⟨dx, hb⟩, ⟨as, hl, e, hp⟩, n1, n6, ok⟩ := id B
    refine ⟨_, PSs.nox ((pss_one (ps_ret (pe_join pe_str (pe_lc (own := [("phase", 1)]) (g := gName 1) (tt := tYes) rfl sc_Book_text.nd (pi_list (pe_fld (pv 0) rfl)) (blkOk_by (own := [("phase", 1)]) (N := N_Book_text) (sc := defScope s_Book_text) (by decide +kernel)) (fun _ _ _ _ _ => (pg_name (i := 1) sc_Book_text.nd rfl (Or.inl rfl))) (fun _ _ _ _ _ => pts_nil) (fun _ _ _ _ _ => (pe_prop (pv 1) T.c_Phase T.p_Phase_text (ok_Phase_text (P := P) T) (hr.mono (by decide)) (bd_Phase_text T) .nil pass0 rfl))))))), ?_⟩
    refine ⟨⟨_, rfl⟩, _, rfl, b, _, dx, _, _, rfl, hb, T.c_Book, T.na_Book_phases, bk_phases l, l, rfl, ⟨_, SqL.of hl⟩, fun D nD => ?_⟩
    refine lc_list (K := K) (a := l) (xs := as.map V.ref) (fun i H' => H' D = some (.lst (((rs.map fun r => r.rw.text).take i).map V.str)) ∧ Same H H') ⟨upd_same, Same.new nD⟩ (fun i H' _ ⟨_, S⟩ => SqL.of (S _ _ hl)) ?_ ?_
    · rintro i x H1 hi ⟨hD, S1⟩
      rw [List.getElem?_map] at hi
      cases et : as[i]? with
      | none => rw [et] at hi; cases hi
      | some a =>
        rw [et] at hi
        cases hi
        have hi2 : i < rs.length := by rw [← e]; exact (List.getElem?_eq_some_iff.mp et).1
        obtain ⟨r, hr', hm⟩ := mem_get hi2
        obtain ⟨da, hpa⟩ := (hp i a r et hr').same S1
        refine ⟨rfl, yesT (iteT ?_)⟩
        refine ⟨_, rfl, a, da, _, rfl, hpa, a, r.rw, rfl, ⟨da, hpa⟩, Ph.good (ok r hm), fun H2 S2 => ?_⟩
        refine ⟨_, S2 _ _ hD, small1000 (by rw [List.length_map, List.length_take, List.length_map]; omega), ?_, Same.upd (S1.trans S2) nD⟩
        rw [upd_same, List.take_add_one, List.getElem?_map, hr', List.map_append]
        rfl
    · rintro H1 ⟨hD, S1⟩
      rw [List.length_map, e, ← List.length_map (f := fun r : Ph => r.rw.text), List.take_length] at hD
      refine ⟨_, D, _, rfl, rfl, .inl (SqL.of hD), ?_, k _ S1⟩
      have e1 : ("\n" : Str).length = 1 := by decide +kernel
      rw [e1, List.map_map, List.length_map]
      have := sum_le (xs := rs) (f := (fun x : Str => x.length) ∘ fun r : Ph => r.rw.text) (m := 200) (fun r hr => text_le (ok r hr))
      omega
end

/-! ### _law_text, _law_derived, _law_same_phase of any phase -/
def spLText (K : PySem.W.Frag) : Sp := fun vs H Q _ => ∃ (t : Addr) (r : Ph), vs = [.ref t] ∧ H t = some (.tup r.rw.vs) ∧ r.Ok ∧ Q (.str r.rw.text) H
def lawText (r : Rw) : Str :=
  let a := numS r.hue ++ " " ++ r.bar
  let a := if r.vis = true then a ++ " visits" else a
  let a := if r.pau = true then a ++ " pauses" else a
  let a := if r.std > 0 then a ++ " stand " ++ numS r.std else a
  if r.skp = true then a ++ " skips" else a
theorem glue_snoc (sep y : Str) : ∀ {l : List Str}, l ≠ [] → Txt.join sep (l ++ [y]) = Txt.join sep l ++ sep ++ y
  | [], h => absurd rfl h
  | x :: r, _ => by
    show (⟨(r ++ [y]).foldl (fun acc p => acc ++ sep.cps ++ p.cps) x.cps⟩ : Str) = _
    rw [List.foldl_append]
    rfl
theorem glue_opt (sep y : Str) {c : Prop} [Decidable c] {l : List Str} (h : l ≠ []) : Txt.join sep (l ++ if c then [y] else []) = if c then Txt.join sep l ++ sep ++ y else Txt.join sep l := by
  split
  · exact glue_snoc sep y h
  · rw [List.append_nil]
theorem lawText_eq {r : Ph} (ok : r.Ok) : lawText r.rw = r.rw.text := by
  have ne : ∀ (a b : Str) (l : List Str), (a :: b :: l : List Str) ≠ [] := fun _ _ _ => nofun
  have e1 : (" visits" : Str) = " " ++ "visits" := by decide +kernel
  have e2 : (" pauses" : Str) = " " ++ "pauses" := by decide +kernel
  have e3 : (" stand " : Str) = " " ++ "stand " := by decide +kernel
  have e4 : (" skips" : Str) = " " ++ "skips" := by decide +kernel
  have es : (r.rw.std > 0) = (r.rw.std ≠ 0) := propext ⟨fun z => by have z' : 0 < r.rw.std := z; omega, fun z => by have := ok.s0; have e : r.rw.std = r.std := rfl; show 0 < r.rw.std; omega⟩
  unfold lawText Rw.text Rw.words
  dsimp only
  rw [e1, e2, e3, e4]
  rw [glue_opt " " "skips" (by simp), glue_opt " " ("stand " ++ numS r.rw.std) (by simp), glue_opt " " "pauses" (by simp), glue_opt " " "visits" (by simp), show Txt.join " " [numS r.rw.hue, r.rw.bar] = numS r.rw.hue ++ " " ++ r.rw.bar from rfl]
  simp only [es, Str.append_assoc]

section
variable {P : Program} [SupP P pFile] {w : World} {K : PySem.W.Frag} {mg : Str → Option Value} {base : Heap}
theorem len_le {a b : Str} {m n : Nat} (ha : a.length ≤ m) (hb : b.length ≤ n) : (a ++ b).length ≤ m + n := by
  have z : (a ++ b).length = a.length + b.length := Str.length_append _ _
  rw [z]; omega
theorem ok_l_text (T : Tx K mg) : FnOk P w K mg base CX0 1 (gad "_law_text" K) (fdD K (gad "_law_text" K)) P_l_text (spLText K) := by
  refine T.F_l_text.ok sc_l_text (fun vs H Q E h => ?_) (fun cdv A outer s H vs Q E hr h => ?_)
  · obtain ⟨t, r, rfl, _⟩ := h; rfl
  · obtain ⟨t, r, rfl, ht, ok, k⟩ := h
    refine ⟨_, PSs.nox ((pss_cons (ps_set (i := 1) sc_l_text.nd rfl (Or.inl rfl) (pe_op op_add_str (pe_op op_add_str (pe_callTy call_str_int (by rfl) T.n_str (by decide +kernel) (pa_cons (pe_ix ix_tup (pv 0) pe_int (fun _ _ => rfl)) pa_nil)) pe_str) (pe_ix ix_tup (pv 0) pe_int (fun _ _ => rfl))))
      (C8.pss_cut (ps_if (pt_val (pe_ix ix_tup (pv 0) pe_int (fun _ _ => rfl))) (pss_one (ps_set (i := 1) sc_l_text.nd rfl (Or.inl rfl) (pe_op op_add_str (pv 1) pe_str))) pss_nil)
      (C8.pss_cut (ps_if (pt_val (pe_ix ix_tup (pv 0) pe_int (fun _ _ => rfl))) (pss_one (ps_set (i := 1) sc_l_text.nd rfl (Or.inl rfl) (pe_op op_add_str (pv 1) pe_str))) pss_nil)
      (C8.pss_cut (ps_if (pt_cmpR op_gt (pe_ix ix_tup (pv 0) pe_int (fun _ _ => rfl)) pe_int (nomark _)) (pss_one (ps_set (i := 1) sc_l_text.nd rfl (Or.inl rfl) (pe_op op_add_str (pe_op op_add_str (pv 1) pe_str) (pe_callTy call_str_int (by rfl) T.n_str (by decide +kernel) (pa_cons (pe_ix ix_tup (pv 0) pe_int (fun _ _ => rfl)) pa_nil))))) pss_nil)
      (C8.pss_cut (ps_if (pt_val (pe_ix ix_tup (pv 0) pe_int (fun _ _ => rfl))) (pss_one (ps_set (i := 1) sc_l_text.nd rfl (Or.inl rfl) (pe_op op_add_str (pv 1) pe_str))) pss_nil)
      (pss_one (ps_ret (pv 1))))))))), ?_⟩
    have w0 := rwx_at r.rw
    have hh := num_le ok.h0 (Int.le_trans ok.h1 (by decide))
    have hs := num_le ok.s0 (Int.le_trans ok.s1 (by decide))
    have hb := bar_len r.bar
    have c1 : (" " : Str).length ≤ 1 := by decide +kernel
    have c2 : (" visits" : Str).length ≤ 7 := by decide +kernel
    have c3 : (" pauses" : Str).length ≤ 7 := by decide +kernel
    have c4 : (" stand " : Str).length ≤ 7 := by decide +kernel
    have c5 : (" skips" : Str).length ≤ 6 := by decide +kernel
    have big : ∀ {a b n : Nat}, a ≤ n → b ≤ 100 → n ≤ 100 → a + b ≤ sizeLine := fun {a b n} h1 h2 h3 => Nat.le_trans (show _ ≤ 200 by omega) (by decide)
    let a1 := numS r.rw.hue ++ " " ++ r.rw.bar
    let a2 := if r.rw.vis = true then a1 ++ " visits" else a1
    let a3 := if r.rw.pau = true then a2 ++ " pauses" else a2
    let a4 := if r.rw.std > 0 then a3 ++ " stand " ++ numS r.rw.std else a3
    let a5 := if r.rw.skp = true then a4 ++ " skips" else a4
    have l1 : a1.length ≤ 13 := len_le (len_le hh c1) hb
    have l2 : a2.length ≤ 20 := by
      show (if _ then _ else _ : Str).length ≤ 20
      split
      · exact len_le l1 c2
      · omega
    have l3 : a3.length ≤ 27 := by
      show (if _ then _ else _ : Str).length ≤ 27
      split
      · exact len_le l2 c3
      · omega
    have l4 : a4.length ≤ 36 := by
      show (if _ then _ else _ : Str).length ≤ 36
      split
      · exact len_le (len_le l3 c4) hs
      · omega
    have k5 : Q (.str a5) H := by
      rw [← lawText_eq ok] at k
      exact k
    refine ⟨_, rfl, _, _, _, _, rfl, rfl, (by walk_at "seq"), (by walk_at "at"), _, rfl, small_log ok.h0 (Int.le_trans ok.h1 (by decide)), _, _, rfl, rfl, big hh (Nat.le_trans c1 (by decide)) (by decide), _, rfl, _, _, _, _, rfl, rfl, (by walk_at "seq"), (by walk_at "at"), _, _, rfl, rfl, big (len_le hh c1) (Nat.le_trans hb (by decide)) (by decide), ?_⟩
    refine ⟨fun σ H' => σ = [some (.ref t), some (.str a2)] ∧ H = H', ?_, ?_⟩
    · refine ⟨_, rfl, _, _, _, _, rfl, rfl, (by walk_at "seq"), (by walk_at "at"), _, rfl, iteB (fun c => ?_) (fun c => ?_)⟩
      · refine ⟨_, rfl, _, _, rfl, rfl, big l1 (Nat.le_trans c2 (by decide)) (by decide), ?_, rfl⟩
        show [some (V.ref t), some (.str (a1 ++ " visits"))] = _
        rw [show a2 = a1 ++ " visits" from if_pos c]
      · refine ⟨?_, rfl⟩
        show [some (V.ref t), some (.str a1)] = _
        rw [show a2 = a1 from if_neg (by rw [c]; exact Bool.false_ne_true)]
    · rintro σ _ ⟨rfl, rfl⟩
      clear_value a2
      refine ⟨fun σ H' => σ = [some (.ref t), some (.str a3)] ∧ H = H', ?_, ?_⟩
      · refine ⟨_, rfl, _, _, _, _, rfl, rfl, (by walk_at "seq"), (by walk_at "at"), _, rfl, iteB (fun c => ?_) (fun c => ?_)⟩
        · refine ⟨_, rfl, _, _, rfl, rfl, big l2 (Nat.le_trans c3 (by decide)) (by decide), ?_, rfl⟩
          show [some (V.ref t), some (.str (a2 ++ " pauses"))] = _
          rw [show a3 = a2 ++ " pauses" from if_pos c]
        · refine ⟨?_, rfl⟩
          show [some (V.ref t), some (.str a2)] = _
          rw [show a3 = a2 from if_neg (by rw [c]; exact Bool.false_ne_true)]
      · rintro σ _ ⟨rfl, rfl⟩
        clear_value a3
        refine ⟨fun σ H' => σ = [some (.ref t), some (.str a4)] ∧ H = H', ?_, ?_⟩
        · refine ⟨_, rfl, _, _, _, _, rfl, rfl, (by walk_at "seq"), (by walk_at "at"), _, _, rfl, rfl, _, rfl, ?_⟩
          by_cases c : r.rw.std > 0
          · refine iteD c ?_
            refine ⟨_, rfl, _, _, rfl, rfl, big l3 (Nat.le_trans c4 (by decide)) (by decide), _, rfl, _, _, _, _, rfl, rfl, (by walk_at "seq"), (by walk_at "at"), _, rfl, small_log ok.s0 (Int.le_trans ok.s1 (by decide)), _, _, rfl, rfl, big (len_le l3 c4) (Nat.le_trans hs (by decide)) (by decide), ?_, rfl⟩
            show [some (V.ref t), some (.str (a3 ++ " stand " ++ numS r.rw.std))] = _
            rw [show a4 = a3 ++ " stand " ++ numS r.rw.std from if_pos c]
          · refine iteDN c ⟨?_, rfl⟩
            show [some (V.ref t), some (.str a3)] = _
            rw [show a4 = a3 from if_neg c]
        · rintro σ _ ⟨rfl, rfl⟩
          clear_value a4
          refine ⟨fun σ H' => σ = [some (.ref t), some (.str a5)] ∧ H = H', ?_, ?_⟩
          · refine ⟨_, rfl, _, _, _, _, rfl, rfl, (by walk_at "seq"), (by walk_at "at"), _, rfl, iteB (fun c => ?_) (fun c => ?_)⟩
            · refine ⟨_, rfl, _, _, rfl, rfl, big l4 (Nat.le_trans c5 (by decide)) (by decide), ?_, rfl⟩
              show [some (V.ref t), some (.str (a4 ++ " skips"))] = _
              rw [show a5 = a4 ++ " skips" from if_pos c]
            · refine ⟨?_, rfl⟩
              show [some (V.ref t), some (.str a4)] = _
              rw [show a5 = a4 from if_neg (by rw [c]; exact Bool.false_ne_true)]
          · rintro σ _ ⟨rfl, rfl⟩
            exact ⟨_, rfl, k5⟩
end

def spPhEq (K : PySem.W.Frag) : Sp := fun vs H Q _ => ∃ (a : Addr) (r : Rw) (y : V), vs = [.ref a, y] ∧ RwAt K H a r ∧
  ((∃ b r2, y = .ref b ∧ RwAt K H b r2 ∧ Q (.bl (decide (r = r2))) H) ∨ ∃ t, TyX K H y t ∧ PySem.W.kitOne K t (.ref (gad "Phase" K)) = some false ∧ Q (.bl false) H)
section
variable {P : Program} [SupP P pFile] {w : World} {K : PySem.W.Frag} {mg : Str → Option Value} {base : Heap}
theorem ok_Phase_eq (T : Tx K mg) : FnOk P w K mg base CX0 1 (mad "Phase" "__eq__" K) (fdD K (mad "Phase" "__eq__" K)) P_Phase_eq (spPhEq K) := by
  refine T.F_Phase_eq.ok sc_Phase_eq (fun vs H Q E h => ?_) (fun cdv A outer s H vs Q E hr h => ?_)
  · obtain ⟨a, r, y, rfl, _⟩ := h; rfl
  · obtain ⟨a, r, y, rfl, ⟨dx, ha⟩, h⟩ := h
    refine ⟨_, PSs.nox ((pss_one (ps_ret (pe_and (pe_callB call_isi (by rfl) T.n_isinstance (by decide +kernel) (pa_cons (pv 1) (pa_cons (pe_gr rfl T.g_Phase) pa_nil))) (pe_and (pe_cmpR op_eq (pe_fld (pv 0) rfl) (pe_fld (pv 1) rfl) (nomark _)) (pe_and (pe_cmpR op_eq (pe_fld (pv 0) rfl) (pe_fld (pv 1) rfl) (nomark _)) (pe_and (pe_cmpR op_eq (pe_fld (pv 0) rfl) (pe_fld (pv 1) rfl) (nomark _)) (pe_and (pe_cmpR op_eq (pe_fld (pv 0) rfl) (pe_fld (pv 1) rfl) (nomark _)) (pe_and (pe_cmpR op_eq (pe_fld (pv 0) rfl) (pe_fld (pv 1) rfl) (nomark _)) (pe_one (pe_cmpR op_eq (pe_fld (pv 0) rfl) (pe_fld (pv 1) rfl) (nomark _)))))))))))), ?_⟩
    rcases h with ⟨b, r2, rfl, ⟨dy, hb⟩, k⟩ | ⟨t, ty, kt, k⟩
    · refine ⟨_, rfl, _, _, _, _, true, rfl, .own _, inst_ty T.i_Phase T.c_Phase hb, T.k_Phase_Phase, _, rfl, iteT ?_⟩
      have no : ∀ {c : Bool}, c = false → ¬ r = r2 → Q (.bl c) H := fun {c} e1 e2 => by
        rw [decide_eq_false e2] at k
        rw [e1]
        exact k
      refine ⟨_, rfl, a, _, dx, _, _, rfl, ha, T.c_Phase, T.na_Phase_hue, rw_hue r, _, rfl, b, _, dy, _, _, rfl, hb, T.c_Phase, T.na_Phase_hue, rw_hue r2, rfl, _, rfl, iteB (fun c1 => ?_) (fun c1 => ?_)⟩
      rotate_left
      · refine no rfl fun z => ?_
        rw [z] at c1
        exact absurd c1 (by simp)
      refine ⟨_, rfl, a, _, dx, _, _, rfl, ha, T.c_Phase, T.na_Phase_barrier, rw_barrier r, _, rfl, b, _, dy, _, _, rfl, hb, T.c_Phase, T.na_Phase_barrier, rw_barrier r2, rfl, _, rfl, iteB (fun c2 => ?_) (fun c2 => ?_)⟩
      rotate_left
      · refine no rfl fun z => ?_
        rw [z] at c2
        exact absurd c2 (by simp)
      refine ⟨_, rfl, a, _, dx, _, _, rfl, ha, T.c_Phase, T.na_Phase_visits, rw_visits r, _, rfl, b, _, dy, _, _, rfl, hb, T.c_Phase, T.na_Phase_visits, rw_visits r2, rfl, _, rfl, iteB (fun c3 => ?_) (fun c3 => ?_)⟩
      rotate_left
      · refine no rfl fun z => ?_
        rw [z] at c3
        exact absurd c3 (by simp)
      refine ⟨_, rfl, a, _, dx, _, _, rfl, ha, T.c_Phase, T.na_Phase_pauses, rw_pauses r, _, rfl, b, _, dy, _, _, rfl, hb, T.c_Phase, T.na_Phase_pauses, rw_pauses r2, rfl, _, rfl, iteB (fun c4 => ?_) (fun c4 => ?_)⟩
      rotate_left
      · refine no rfl fun z => ?_
        rw [z] at c4
        exact absurd c4 (by simp)
      refine ⟨_, rfl, a, _, dx, _, _, rfl, ha, T.c_Phase, T.na_Phase_stand, rw_stand r, _, rfl, b, _, dy, _, _, rfl, hb, T.c_Phase, T.na_Phase_stand, rw_stand r2, rfl, _, rfl, iteB (fun c5 => ?_) (fun c5 => ?_)⟩
      rotate_left
      · refine no rfl fun z => ?_
        rw [z] at c5
        exact absurd c5 (by simp)
      refine ⟨_, rfl, a, _, dx, _, _, rfl, ha, T.c_Phase, T.na_Phase_skips, rw_skips r, _, rfl, b, _, dy, _, _, rfl, hb, T.c_Phase, T.na_Phase_skips, rw_skips r2, rfl, ?_⟩
      have d1 : r.hue = r2.hue := V.int.inj (of_decide_eq_true c1)
      have d2 : r.bar = r2.bar := V.str.inj (of_decide_eq_true c2)
      have d3 : r.vis = r2.vis := V.bl.inj (of_decide_eq_true c3)
      have d4 : r.pau = r2.pau := V.bl.inj (of_decide_eq_true c4)
      have d5 : r.std = r2.std := V.int.inj (of_decide_eq_true c5)
      show Q (.bl (decide (V.bl r.skp = V.bl r2.skp))) H
      have e : decide (V.bl r.skp = V.bl r2.skp) = decide (r = r2) := by
        rw [dec_bl]
        obtain ⟨a1, a2, a3, a4, a5, a6⟩ := r
        obtain ⟨b1, b2, b3, b4, b5, b6⟩ := r2
        dsimp only at d1 d2 d3 d4 d5
        subst d1 d2 d3 d4 d5
        by_cases q : a6 = b6
        · subst q; simp
        · rw [decide_eq_false q, decide_eq_false (fun z => q (by injection z))]
      rw [e]
      exact k
    · exact ⟨_, rfl, _, _, t, _, false, rfl, .own _, ty, kt, _, rfl, iteF k⟩
theorem fr_Phase_eq (T : Tx K mg) : FnR P w K mg base CX0 1 (mad "Phase" "__eq__" K) (spPhEq K) := fnr_of (ok_Phase_eq T) (bd_Phase_eq T)
end

end Hue

set_option Elab.async false
set_option linter.all false
set_option maxRecDepth 100000
set_option maxHeartbeats 1000000
namespace Hue
open PySem PySem.Spec PyProof.Rows L2 ItX
local macro_rules | `(tactic| walk_at "hp") => `(tactic| first
  | assumption
  | exact upd_same
  | (refine upd_old (by assumption) ?_; walk_at "hp")
  | (refine upd_oth (by assumption) ?_; walk_at "hp")
  | (refine same_get (by assumption) ?_; walk_at "hp")
  | (refine Fl.get (by assumption) (by assumption) ?_; walk_at "hp"))
local macro_rules | `(tactic| walk_at "seq") => `(tactic| first
  | assumption
  | exact T.t_BARRIERS _
  | exact SqL.of (by walk_at "hp")
  | exact SqT.of (by walk_at "hp"))
local macro_rules | `(tactic| walk_at "len") => `(tactic| first
  | exact Or.inl (by walk_at "seq")
  | exact Or.inr (by walk_at "seq"))
local macro_rules | `(tactic| walk_at "at") => `(tactic| first
  | rfl
  | assumption)

/-! ### Book.__iter__, Book.__eq__ -/
def BkD (K : PySem.W.Frag) (a l : Addr) (H : Hp) : Prop := ∃ rs, BkAt K H a l rs
theorem BkD.ext {K : PySem.W.Frag} : ∀ (a l : Addr) (H H' : Hp), Ext H H' → BkD K a l H → BkD K a l H' := fun _ _ _ _ e ⟨rs, B⟩ => ⟨rs, B.mono e⟩
theorem rwF_inj {r r2 : Rw} (h : rwF r = rwF r2) : r = r2 := by
  have h1 : some (V.int r.hue) = some (V.int r2.hue) := by rw [← rw_hue r, ← rw_hue r2, h]
  have h2 : some (V.str r.bar) = some (V.str r2.bar) := by rw [← rw_barrier r, ← rw_barrier r2, h]
  have h3 : some (V.bl r.vis) = some (V.bl r2.vis) := by rw [← rw_visits r, ← rw_visits r2, h]
  have h4 : some (V.bl r.pau) = some (V.bl r2.pau) := by rw [← rw_pauses r, ← rw_pauses r2, h]
  have h5 : some (V.int r.std) = some (V.int r2.std) := by rw [← rw_stand r, ← rw_stand r2, h]
  have h6 : some (V.bl r.skp) = some (V.bl r2.skp) := by rw [← rw_skips r, ← rw_skips r2, h]
  obtain ⟨a1, a2, a3, a4, a5, a6⟩ := r
  obtain ⟨b1, b2, b3, b4, b5, b6⟩ := r2
  cases h1; cases h2; cases h3; cases h4; cases h5; cases h6
  rfl
theorem Ph.rw_inj {r r2 : Ph} (h : r.rw = r2.rw) : r = r2 := by
  obtain ⟨a1, a2, a3, a4, a5, a6⟩ := r
  obtain ⟨b1, b2, b3, b4, b5, b6⟩ := r2
  have h1 : a1 = b1 := congrArg Rw.hue h
  have h2 : a2.s = b2.s := congrArg Rw.bar h
  have h3 : a3 = b3 := congrArg Rw.vis h
  have h4 : a4 = b4 := congrArg Rw.pau h
  have h5 : a5 = b5 := congrArg Rw.std h
  have h6 : a6 = b6 := congrArg Rw.skp h
  have h2' : a2 = b2 := by
    revert h2
    cases a2 <;> cases b2 <;> first | (intro _; rfl) | (intro z; exact absurd z (by decide +kernel))
  subst h1 h2' h3 h4 h5 h6
  rfl
def phR (K : PySem.W.Frag) (a b : Addr) (H : Hp) (r : Bool) : Prop := ∃ r1 r2 : Rw, RwAt K H a r1 ∧ RwAt K H b r2 ∧ r = decide (r1 = r2)
theorem phR_self {K : PySem.W.Frag} : ∀ (a : Addr) (H : Hp) (r : Bool), phR K a a H r → r = true := by
  rintro a H r ⟨r1, r2, ⟨dx, h1⟩, ⟨dy, h2⟩, rfl⟩
  rw [h1] at h2
  injection h2 with h2
  injection h2 with _ _ h2
  exact decide_eq_true (rwF_inj h2)
def spBkEq (K : PySem.W.Frag) : Sp := fun vs H Q _ => ∃ (b l : Addr) (rs : List Ph) (y : V), vs = [.ref b, y] ∧ BkAt K H b l rs ∧
  ((∃ c m rs2, y = .ref c ∧ BkAt K H c m rs2 ∧ Q (.bl (decide (rs = rs2))) H) ∨ ∃ t, TyX K H y t ∧ PySem.W.kitOne K t (.ref (gad "Book" K)) = some false ∧ Q (.bl false) H)
section
variable {P : Program} [SupP P pFile] {w : World} {K : PySem.W.Frag} {mg : Str → Option Value} {base : Heap}
theorem fi_Book_iter (T : Tx K mg) : FnI P w K mg base 1 (mad "Book" "__iter__" K) (BkD K) := by
  intro A out s0 H a l Q rm en ⟨rs, B⟩ k
  obtain ⟨⟨dx, hb⟩, ⟨as, hl, e, hp⟩, n1, n6, ok⟩ := id B
  refine fn_here (vs := [.ref a]) T.F_Book_iter sc_Book_iter rm en (bd_Book_iter T) (.cons rfl .nil) rfl (fun cdv hr => ?_)
  refine ⟨_, (PSs.nox ((pss_one (ps_ret (pe_callB call_iterN (by rfl) T.n_iter (by decide +kernel) (pa_cons (pe_fld (pv 0) rfl) pa_nil)))))).nox, ?_⟩
  exact ⟨_, rfl, a, _, dx, _, _, rfl, hb, T.c_Book, T.na_Book_phases, bk_phases l, l, _, rfl, SqL.of hl, fun it ni si => k it ni si⟩
theorem fr_Phase_eqB (T : Tx K mg) : FnR P w K mg base CX0 1 (mad "Phase" "__eq__" K) (spEqB (phR K)) := (fr_Phase_eq T).imp fun vs H Q E h => by
  obtain ⟨a, b, r, e, ⟨r1, r2, h1, h2, rfl⟩, q⟩ := h
  exact ⟨a, r1, .ref b, e, h1, .inl ⟨b, r2, rfl, h2, q⟩⟩
theorem ok_Book_eq (T : Tx K mg) : FnOk P w K mg base CX0 3 (mad "Book" "__eq__" K) (fdD K (mad "Book" "__eq__" K)) P_Book_eq (spBkEq K) := by
  refine T.F_Book_eq.ok sc_Book_eq (fun vs H Q E h => ?_) (fun cdv A outer s H vs Q E hr h => ?_)
  · obtain ⟨b, l, rs, y, rfl, _⟩ := h; rfl
  · obtain ⟨b, l, rs, y, rfl, B, h⟩ := h
    refine ⟨_, PSs.nox ((pss_one (ps_ret (pe_and (pe_callB call_isi (by rfl) T.n_isinstance (by decide +kernel) (pa_cons (pv 1) (pa_cons (pe_gr rfl T.g_Book) pa_nil))) (pe_one (pe_cmpR (op_eqLB (fr_Phase_eqB (P := P) T) T.o_Phase_eq phR_self (hr.mono (by decide))) (pe_fld (pv 0) rfl) (pe_fld (pv 1) rfl) (nomark _))))))), ?_⟩
    obtain ⟨⟨dx, hb⟩, ⟨as, hl, e, hp⟩, n1, n6, ok⟩ := id B
    rcases h with ⟨c, m, rs2, rfl, C, k⟩ | ⟨t, ty, kt, k⟩
    · obtain ⟨⟨dy, hc⟩, ⟨bs, hm, e2, hp2⟩, _, _, _⟩ := id C
      refine ⟨_, rfl, _, _, _, _, true, rfl, .own _, inst_ty T.i_Book T.c_Book hc, T.k_Book_Book, _, rfl, iteT ?_⟩
      refine ⟨_, rfl, b, _, dx, _, _, rfl, hb, T.c_Book, T.na_Book_phases, bk_phases l, _, rfl, c, _, dy, _, _, rfl, hc, T.c_Book, T.na_Book_phases, bk_phases m, ?_⟩
      refine ⟨l, m, as, bs, decide (rs = rs2), rfl, rfl, hl, hm, ?_, k⟩
      by_cases ln : rs.length = rs2.length
      · refine .inr ⟨by omega, fun i => decide (rs[i]? = rs2[i]?), fun i p q h1 h2 => ?_, ?_⟩
        · have i1 : i < rs.length := by rw [← e]; exact (List.getElem?_eq_some_iff.mp h1).1
          have i2 : i < rs2.length := by omega
          obtain ⟨r1, hr1, _⟩ := mem_get i1
          obtain ⟨r2, hr2, _⟩ := mem_get i2
          obtain ⟨d1, g1⟩ := hp i p r1 h1 hr1
          obtain ⟨d2, g2⟩ := hp2 i q r2 h2 hr2
          refine ⟨d1, d2, _, _, g1, g2, r1.rw, r2.rw, ⟨d1, g1⟩, ⟨d2, g2⟩, ?_⟩
          show decide (rs[i]? = rs2[i]?) = _
          rw [hr1, hr2]
          by_cases z : r1 = r2
          · subst z; simp
          · have z' : ¬ r1.rw = r2.rw := fun y => z (Ph.rw_inj y)
            simp [z, z']
        · rw [e, Bool.eq_iff_iff, decide_eq_true_eq, List.all_eq_true]
          constructor
          · rintro rfl
            intro x _
            simp
          · intro h
            refine List.ext_getElem? fun i => ?_
            rcases Nat.lt_or_ge i rs.length with g | g
            · exact of_decide_eq_true (h i (List.mem_range.mpr g))
            · rw [List.getElem?_eq_none g, List.getElem?_eq_none (by omega)]
      · exact .inl ⟨by omega, decide_eq_false fun z => ln (by rw [z])⟩
    · exact ⟨_, rfl, _, _, t, _, false, rfl, .own _, ty, kt, _, rfl, iteF k⟩
theorem fr_Book_eq (T : Tx K mg) : FnR P w K mg base CX0 3 (mad "Book" "__eq__" K) (spBkEq K) := fnr_of (ok_Book_eq T) (bd_Book_eq T)
end

end Hue

set_option Elab.async false
set_option linter.all false
set_option maxRecDepth 100000
set_option maxHeartbeats 4000000
namespace Hue
open PySem PySem.Spec PyProof.Rows L2 TL
local macro_rules | `(tactic| walk_at "hp") => `(tactic| first
  | assumption
  | exact upd_same
  | (refine upd_old (by assumption) ?_; walk_at "hp")
  | (refine upd_oth (by assumption) ?_; walk_at "hp")
  | (refine same_get (by assumption) ?_; walk_at "hp")
  | (refine Fl.get (by assumption) (by assumption) ?_; walk_at "hp"))
local macro_rules | `(tactic| walk_at "seq") => `(tactic| first
  | assumption
  | exact T.t_BARRIERS _
  | exact SqL.of (by walk_at "hp")
  | exact SqT.of (by walk_at "hp"))
local macro_rules | `(tactic| walk_at "len") => `(tactic| first
  | exact Or.inl (by walk_at "seq")
  | exact Or.inr (by walk_at "seq"))
local macro_rules | `(tactic| walk_at "at") => `(tactic| first
  | rfl
  | assumption)

/-! ### the text of a phase, word by word: plain -/
def spc : Str := " "
def wV : Str := "visits"
def wP : Str := "pauses"
def wS : Str := "stand"
def wK : Str := "skips"
def digs : Str := "0123456789"
theorem tl_spc : tl spc = [32] := by decide +kernel
def Ph.tail (r : Ph) : List Str := (if r.vis = true then [wV] else []) ++ ((if r.pau = true then [wP] else []) ++ ((if r.std ≠ 0 then [wS, numS r.std] else []) ++ (if r.skp = true then [wK] else [])))
def Ph.wd (r : Ph) : List Str := numS r.hue :: r.bar.s :: r.tail
theorem joinL_spl (s : Nat) : ∀ (l acc : List Nat), joinL [s] (spl [s] 0 acc l) = acc ++ l
  | [], acc => by rw [spl_nil]; show acc = _; simp
  | c :: r, acc => by
    by_cases e : c = s
    · subst e
      have h : pre [c] (c :: r) = true := by simp [pre]
      rw [spl_hit h]
      have ih := joinL_spl c r []
      show joinL [c] (acc :: spl [c] 0 [] r) = _
      cases q : spl [c] 0 [] r with
      | nil => exact absurd (q ▸ ih : joinL [c] [] = [] ++ r) (by
          intro z
          cases r with
          | nil => rw [spl_nil] at q; cases q
          | cons d r' => cases z)
      | cons p ps =>
        show acc ++ ([c] ++ joinL [c] (p :: ps)) = _
        rw [← q, ih]; simp
    · have h : pre [s] (c :: r) = false := by simp [pre, e]
      rw [spl_miss h, joinL_spl s r (acc ++ [c])]; simp
theorem spc_low : spc.cps.all (· < 256) = true := by decide +kernel
theorem join_split (t : Str) : Str.join spc (Txt.split t spc) = t := by
  apply ext_tl
  rw [tl_join, split_spl t spc (by rw [tl_spc]; simp) (kind_ok spc_low), tl_spc, joinL_spl]; rfl
theorem split_of {ws : List Str} (hne : ws ≠ []) (hp : ∀ p ∈ ws, 32 ∉ tl p) : Txt.split (Str.join spc ws) spc = ws := by
  rw [← join_eq]
  exact split_join (s := 32) (S := []) tl_spc spc_low hne hp
theorem join_inj {ws us : List Str} (h1 : ws ≠ []) (h2 : us ≠ []) (p1 : ∀ p ∈ ws, 32 ∉ tl p) (p2 : ∀ p ∈ us, 32 ∉ tl p) (e : Str.join spc ws = Str.join spc us) : ws = us := by
  rw [← split_of h1 p1, e, split_of h2 p2]
theorem num_free (i : Int) (h0 : 0 ≤ i) : 32 ∉ tl (numS i) := by
  obtain ⟨n, rfl⟩ : ∃ n : Nat, i = (n : Int) := ⟨i.toNat, (Int.toNat_of_nonneg h0).symm⟩
  unfold numS
  rw [tl_num]
  exact numL_free (.inl (by decide))
theorem bar_free (b : Bar) : 32 ∉ tl b.s := by cases b <;> decide +kernel
theorem wd_free {r : Ph} (ok : r.Ok) : ∀ p ∈ r.wd, 32 ∉ tl p := by
  intro p hp
  have a1 := num_free r.hue ok.h0
  have a2 := num_free r.std ok.s0
  have a3 := bar_free r.bar
  have b1 : 32 ∉ tl wV := by decide +kernel
  have b2 : 32 ∉ tl wP := by decide +kernel
  have b3 : 32 ∉ tl wS := by decide +kernel
  have b4 : 32 ∉ tl wK := by decide +kernel
  unfold Ph.wd Ph.tail at hp
  rcases List.mem_cons.mp hp with rfl | hp
  · exact a1
  rcases List.mem_cons.mp hp with rfl | hp
  · exact a3
  rcases List.mem_append.mp hp with hp | hp
  · split at hp
    · rw [List.mem_singleton.mp hp]; exact b1
    · cases hp
  rcases List.mem_append.mp hp with hp | hp
  · split at hp
    · rw [List.mem_singleton.mp hp]; exact b2
    · cases hp
  rcases List.mem_append.mp hp with hp | hp
  · split at hp
    · rcases List.mem_cons.mp hp with rfl | hp
      · exact b3
      · rw [List.mem_singleton.mp hp]; exact a2
    · cases hp
  · split at hp
    · rw [List.mem_singleton.mp hp]; exact b4
    · cases hp
theorem stand_tl (x : Str) : tl (("stand " : Str) ++ x) = tl wS ++ ([32] ++ tl x) := by
  rw [tl_append]
  have : tl ("stand " : Str) = tl wS ++ [32] := by decide +kernel
  rw [this]; simp
theorem joinL_app1 (S p q : List Nat) (l : List (List Nat)) : joinL S ((p ++ (S ++ q)) :: l) = joinL S (p :: q :: l) := by
  cases l with
  | nil => rfl
  | cons x xs => show (p ++ (S ++ q)) ++ (S ++ joinL S (x :: xs)) = p ++ (S ++ (q ++ (S ++ joinL S (x :: xs)))); simp
theorem joinL_cons (S p : List Nat) {l m : List (List Nat)} (h : joinL S l = joinL S m) (e : (l = [] ↔ m = [])) : joinL S (p :: l) = joinL S (p :: m) := by
  cases l with
  | nil => rw [e.mp rfl]
  | cons x xs =>
    cases m with
    | nil => exact absurd (e.mpr rfl) (by simp)
    | cons y ys => show p ++ (S ++ joinL S (x :: xs)) = p ++ (S ++ joinL S (y :: ys)); rw [h]
theorem joinL_pre (S : List Nat) {l m : List (List Nat)} (h : joinL S l = joinL S m) (e : (l = [] ↔ m = [])) : ∀ ps : List (List Nat), joinL S (ps ++ l) = joinL S (ps ++ m)
  | [] => h
  | p :: ps => joinL_cons S p (joinL_pre S h e ps) (by cases ps with
    | nil => exact e
    | cons x xs => simp)
theorem text_wd (r : Ph) : r.rw.text = Str.join spc r.wd := by
  apply ext_tl
  show tl (Txt.join spc r.rw.words) = _
  rw [join_eq, tl_join, tl_join, tl_spc]
  unfold Rw.words Ph.wd Ph.tail Ph.rw wV wP wK
  simp only [List.map_append, List.map_cons, List.map_nil, List.append_assoc, List.cons_append, List.nil_append]
  by_cases hs : r.std ≠ 0
  · rw [if_pos hs, if_pos hs]
    simp only [List.map_append, List.map_cons, List.map_nil, stand_tl]
    have e := fun (l : List (List Nat)) => joinL_app1 [32] (tl wS) (tl (numS r.std)) l
    generalize (List.map tl (if r.skp = true then [("skips" : Str)] else [])) = l4
    have := e l4
    have h3 := joinL_pre [32] (l := (tl wS ++ ([32] ++ tl (numS r.std))) :: l4) (m := tl wS :: tl (numS r.std) :: l4) (e l4) (by simp)
    have h4 := h3 ([tl (numS r.hue), tl r.bar.s] ++ (List.map tl (if r.vis = true then [("visits" : Str)] else []) ++ List.map tl (if r.pau = true then [("pauses" : Str)] else [])))
    simpa using h4
  · rw [if_neg hs, if_neg hs]
theorem text_split {r : Ph} (ok : r.Ok) : Txt.split r.rw.text spc = r.wd := by
  rw [text_wd]; exact split_of (by unfold Ph.wd; simp) (wd_free ok)
theorem text_of_wd {t : Str} {r : Ph} (h : Txt.split t spc = r.wd) : r.rw.text = t := by
  rw [text_wd, ← h, join_split]
/-! what the law reads -/
def digOf : List Str → Nat → Str → Option Nat
  | [], _, _ => none
  | d :: ds, k, w => if w = d then some k else digOf ds (k + 1) w
def ds8 : List Str := ["0", "1", "2", "3", "4", "5", "6", "7"]
def barOf (w : Str) : Option Bar := if w = Bar.none.s then some .none else if w = Bar.follow.s then some .follow else if w = Bar.plain.s then some .plain else if w = Bar.guarded.s then some .guarded else Option.none
def isAt (ws : List Str) (i : Nat) (w : Str) : Bool := decide (ws[i]? = some w)
def keepOf (ws : List Str) (i : Nat) : Option Nat := if isAt ws i wS = true then (match ws[i + 1]? with | some w => digOf ds8.tail 1 w | none => none) else none
def readW (ws : List Str) : Option Ph :=
  match (ws[0]?).bind (digOf (ds8.take 6) 0), (ws[1]?).bind barOf with
  | some h, some b =>
    let v := isAt ws 2 wV
    let p := isAt ws (2 + v.toNat) wP
    let k := keepOf ws (2 + v.toNat + p.toNat)
    let j := 2 + v.toNat + p.toNat + (if k.isSome then 2 else 0)
    let l := isAt ws j wK
    if j + l.toNat = ws.length then some ⟨h, b, v, p, (k.getD 0 : Nat), l⟩ else none
  | _, _ => none
theorem dig_some : ∀ {ds : List Str} {k n : Nat} {w : Str}, digOf ds k w = some n → ∃ i, ds[i]? = some w ∧ n = k + i
  | [], _, _, _, h => by cases h
  | d :: ds, k, n, w, h => by
    unfold digOf at h
    split at h
    · next e => cases h; exact ⟨0, by rw [e]; rfl, rfl⟩
    · obtain ⟨i, h1, h2⟩ := dig_some h
      exact ⟨i + 1, h1, by omega⟩
theorem ds_num : ∀ i : Nat, i < 8 → ds8[i]? = some (numS (i : Int)) := by decide +kernel
theorem ds_num1 : ∀ i : Nat, i < 7 → ds8.tail[i]? = some (numS ((1 + i : Nat) : Int)) := by decide +kernel
theorem ds_num6 : ∀ i : Nat, i < 6 → (ds8.take 6)[i]? = some (numS (i : Int)) := by decide +kernel
theorem dig6 : ∀ i : Nat, i < 6 → digOf (ds8.take 6) 0 (numS (i : Int)) = some i := by decide +kernel
theorem dig7 : ∀ i : Nat, i < 8 → 0 < i → digOf ds8.tail 1 (numS (i : Int)) = some i := by decide +kernel
theorem barOf_s : ∀ b : Bar, barOf b.s = some b := by intro b; cases b <;> decide +kernel
theorem bar_some {w : Str} {b : Bar} (h : barOf w = some b) : w = b.s := by
  unfold barOf at h
  split at h
  · next e => cases h; exact e
  split at h
  · next e => cases h; exact e
  split at h
  · next e => cases h; exact e
  split at h
  · next e => cases h; exact e
  · cases h
theorem at_drop {ws : List Str} {i : Nat} {w : Str} (h : isAt ws i w = true) : ws.drop i = w :: ws.drop (i + 1) := by
  have e : ws[i]? = some w := of_decide_eq_true h
  obtain ⟨hi, e⟩ := List.getElem?_eq_some_iff.mp e
  rw [List.drop_eq_getElem_cons hi, e]
theorem drop_at (ws : List Str) (i : Nat) (w : Str) : ws.drop i = (if isAt ws i w = true then [w] else []) ++ ws.drop (i + (isAt ws i w).toNat) := by
  cases e : isAt ws i w with
  | true => rw [at_drop e]; rfl
  | false => simp
theorem keep_drop {ws : List Str} {i n : Nat} (h : keepOf ws i = some n) : 0 < n ∧ n < 8 ∧ ws.drop i = wS :: numS (n : Int) :: ws.drop (i + 2) := by
  unfold keepOf at h
  split at h
  · next e =>
    rw [at_drop e]
    cases q : ws[i + 1]? with
    | none => rw [q] at h; cases h
    | some w =>
      rw [q] at h
      obtain ⟨j, h1, h2⟩ := dig_some h
      have hj : j < 7 := by
        have := (List.getElem?_eq_some_iff.mp h1).1
        exact this
      have h3 := ds_num1 j hj
      rw [h1] at h3
      have ew := Option.some.inj h3
      refine ⟨by omega, by omega, ?_⟩
      rw [at_drop (w := w) (show isAt ws (i + 1) w = true from decide_eq_true q), ew, h2]
  · cases h
theorem readW_ok {ws : List Str} {r : Ph} (h : readW ws = some r) : r.Ok ∧ ws = r.wd := by
  unfold readW at h
  cases e0 : (ws[0]?).bind (digOf (ds8.take 6) 0) with
  | none => rw [e0] at h; cases h
  | some hu =>
    cases e1 : (ws[1]?).bind barOf with
    | none => rw [e0, e1] at h; cases h
    | some b =>
      rw [e0, e1] at h
      dsimp only at h
      generalize ev : isAt ws 2 wV = v at h
      generalize ep : isAt ws (2 + v.toNat) wP = p at h
      generalize ek : keepOf ws (2 + v.toNat + p.toNat) = k at h
      generalize el : isAt ws (2 + v.toNat + p.toNat + (if k.isSome then 2 else 0)) wK = l at h
      by_cases hl : 2 + v.toNat + p.toNat + (if k.isSome then 2 else 0) + l.toNat = ws.length
      · rw [if_pos hl] at h
        cases h
        obtain ⟨w0, a0, b0⟩ := Option.bind_eq_some_iff.mp e0
        obtain ⟨w1, a1, b1⟩ := Option.bind_eq_some_iff.mp e1
        obtain ⟨i, h1, h2⟩ := dig_some b0
        have hi : i < 6 := (List.getElem?_eq_some_iff.mp h1).1
        have h3 := ds_num6 i hi
        rw [h1] at h3
        have ew := Option.some.inj h3
        have eb := bar_some b1
        have d0 : ws = w0 :: w1 :: ws.drop 2 := by
          have q0 := at_drop (ws := ws) (i := 0) (w := w0) (decide_eq_true a0)
          have q1 := at_drop (ws := ws) (i := 1) (w := w1) (decide_eq_true a1)
          rw [List.drop_zero] at q0
          rw [q1] at q0; exact q0
        have d2 := drop_at ws 2 wV
        rw [ev] at d2
        have d3 := drop_at ws (2 + v.toNat) wP
        rw [ep] at d3
        have d4 := drop_at ws (2 + v.toNat + p.toNat + (if k.isSome then 2 else 0)) wK
        rw [el] at d4
        rw [hl, List.drop_length, List.append_nil] at d4
        have hk0 : (0 : Int) ≤ ((k.getD 0 : Nat) : Int) := by omega
        have hk7 : ((k.getD 0 : Nat) : Int) ≤ 7 := by
          cases k with
          | none => show ((0 : Nat) : Int) ≤ 7; omega
          | some n => have := (keep_drop ek).2.1; show ((n : Nat) : Int) ≤ 7; omega
        refine ⟨⟨by show (0 : Int) ≤ (hu : Int); omega, by show (hu : Int) ≤ 5; omega, hk0, hk7⟩, ?_⟩
        unfold Ph.wd Ph.tail
        dsimp only
        rw [d0, d2, d3, ew, eb, h2, Nat.zero_add]
        congr 4
        cases k with
        | none =>
          have z : ¬ (((none : Option Nat).getD 0 : Nat) : Int) ≠ 0 := by simp
          rw [if_neg z]
          simpa using d4
        | some n =>
          obtain ⟨q1, q2, q3⟩ := keep_drop ek
          have z : (((some n).getD 0 : Nat) : Int) ≠ 0 := by show ((n : Nat) : Int) ≠ 0; omega
          rw [if_pos z, q3]
          show wS :: numS (n : Int) :: _ = wS :: numS (n : Int) :: _
          congr 2
      · rw [if_neg hl] at h; cases h
theorem w_ne : (wP = wV) = False ∧ (wS = wV) = False ∧ (wK = wV) = False ∧ (wV = wP) = False ∧ (wS = wP) = False ∧ (wK = wP) = False ∧ (wV = wS) = False ∧ (wP = wS) = False ∧ (wK = wS) = False ∧ (wV = wK) = False ∧ (wP = wK) = False ∧ (wS = wK) = False := by decide +kernel
theorem num_ne : ∀ i : Nat, i < 8 → numS (i : Int) ≠ wV ∧ numS (i : Int) ≠ wP ∧ numS (i : Int) ≠ wS ∧ numS (i : Int) ≠ wK := by decide +kernel
theorem bar_ne (b : Bar) : b.s ≠ wV ∧ b.s ≠ wP ∧ b.s ≠ wS ∧ b.s ≠ wK := by cases b <;> decide +kernel
theorem find_num : ∀ i : Nat, i < 8 → Txt.find digs (numS (i : Int)) = (i : Int) := by decide +kernel
theorem nat_of {i : Int} {k : Nat} (h0 : 0 ≤ i) (h : i < k) : ∃ n : Nat, i = (n : Int) ∧ n < k := ⟨i.toNat, (Int.toNat_of_nonneg h0).symm, by omega⟩
theorem readW_wd {r : Ph} (ok : r.Ok) : readW r.wd = some r := by
  obtain ⟨h, b, v, p, s, k⟩ := r
  obtain ⟨hn, e1, l1⟩ := nat_of (i := h) (k := 6) ok.h0 (by have : h ≤ 5 := ok.h1; omega)
  obtain ⟨sn, e2, l2⟩ := nat_of (i := s) (k := 8) ok.s0 (by have : s ≤ 7 := ok.s1; omega)
  subst e1; subst e2
  obtain ⟨n1, n2, n3, n4, n5, n6, n7, n8, n9, n10, n11, n12⟩ := w_ne
  have d6 := dig6 hn l1
  have bb := barOf_s b
  by_cases z : sn = 0
  · subst z
    cases v <;> cases p <;> cases k <;> simp [readW, Ph.wd, Ph.tail, isAt, keepOf, d6, bb, n1, n2, n3, n4, n5, n6, n7, n8, n9, n10, n11, n12]
  · have d7 := dig7 sn l2 (by omega)
    have zi : ((sn : Nat) : Int) ≠ 0 := by omega
    cases v <;> cases p <;> cases k <;> simp [readW, Ph.wd, Ph.tail, isAt, keepOf, d6, bb, d7, z, zi, n1, n2, n3, n4, n5, n6, n7, n8, n9, n10, n11, n12]
/-! what parse makes of the words -/
def firstIx (w : Str) : List Str → Nat
  | [] => 0
  | x :: r => if x = w then 0 else firstIx w r + 1
def prStand (ws : List Str) : Int := if wS ∈ ws.dropLast then Txt.find digs (ws.getD (firstIx wS ws + 1) wS) else 0
def prRw (ws : List Str) : Rw := ⟨Txt.find digs (ws.getD 0 wS), ws.getD 1 wS, decide (wV ∈ ws), decide (wP ∈ ws), prStand ws, decide (wK ∈ ws)⟩
theorem firstIx_at {w : Str} : ∀ {ws : List Str}, w ∈ ws → ws[firstIx w ws]? = some w ∧ ∀ m, m < firstIx w ws → ws[m]? ≠ some w
  | [], h => by cases h
  | x :: r, h => by
    unfold firstIx
    by_cases e : x = w
    · rw [if_pos e]; exact ⟨by rw [e]; rfl, fun m hm => by omega⟩
    · rw [if_neg e]
      have hr : w ∈ r := by
        rcases List.mem_cons.mp h with z | z
        · exact absurd z.symm e
        · exact z
      obtain ⟨h1, h2⟩ := firstIx_at hr
      refine ⟨h1, fun m hm => ?_⟩
      cases m with
      | zero => intro z; exact e (Option.some.inj z)
      | succ m => exact h2 m (by omega)
theorem firstIx_last {w : Str} {ws : List Str} (h : w ∈ ws.dropLast) : firstIx w ws + 1 < ws.length := by
  obtain ⟨i, hi, e⟩ := List.mem_iff_getElem.mp h
  rw [List.length_dropLast] at hi
  have hm : w ∈ ws := List.dropLast_subset _ h
  have q := (firstIx_at hm).2
  rcases Nat.lt_or_ge i (firstIx w ws) with z | z
  · exact absurd (by rw [List.getElem?_eq_getElem (by omega), ← e, List.getElem_dropLast]) (q i z)
  · omega
theorem prRw_wd {r : Ph} (ok : r.Ok) : prRw r.wd = r.rw := by
  obtain ⟨h, b, v, p, s, k⟩ := r
  obtain ⟨hn, e1, l1⟩ := nat_of (i := h) (k := 6) ok.h0 (by have : h ≤ 5 := ok.h1; omega)
  obtain ⟨sn, e2, l2⟩ := nat_of (i := s) (k := 8) ok.s0 (by have : s ≤ 7 := ok.s1; omega)
  subst e1; subst e2
  obtain ⟨n1, n2, n3, n4, n5, n6, n7, n8, n9, n10, n11, n12⟩ := w_ne
  obtain ⟨m1, m2, m3, m4⟩ := num_ne hn (by omega)
  obtain ⟨o1, o2, o3, o4⟩ := num_ne sn l2
  obtain ⟨b1, b2, b3, b4⟩ := bar_ne b
  have f1 := find_num hn (by omega)
  have f2 := find_num sn l2
  by_cases z : sn = 0
  · subst z
    cases v <;> cases p <;> cases k <;> simp [prRw, prStand, firstIx, Ph.wd, Ph.tail, Ph.rw, f1, n1, n2, n3, n4, n5, n6, n7, n8, n9, n10, n11, n12, m1, m2, m3, m4, b1, b2, b3, b4, m1.symm, m2.symm, m3.symm, m4.symm, b1.symm, b2.symm, b3.symm, b4.symm]
  · have zi : ((sn : Nat) : Int) ≠ 0 := by omega
    cases v <;> cases p <;> cases k <;> simp [prRw, prStand, firstIx, Ph.wd, Ph.tail, Ph.rw, f1, f2, z, zi, n1, n2, n3, n4, n5, n6, n7, n8, n9, n10, n11, n12, m1, m2, m3, m4, b1, b2, b3, b4, o1, o2, o3, o4, m1.symm, m2.symm, m3.symm, m4.symm, b1.symm, b2.symm, b3.symm, b4.symm, o1.symm, o2.symm, o3.symm, o4.symm]

/-! ### Phase.parse -/
def spParse (K : PySem.W.Frag) : Sp := fun vs H Q E => ∃ t : Str, vs = [.ref (gad "Phase" K), .str t] ∧ t.length ≤ 10000 ∧ (∀ r : Ph, r.Ok → r.rw.text = t → ∀ x H', H x = none → Same H H' → RwAt K H' x r.rw → Q (.ref x) H') ∧
  ((∀ r : Ph, r.Ok → r.rw.text ≠ t) → EBad K H E "text")
theorem in_strs (w : Str) (ws : List Str) : inV (.str w) (ws.map V.str) = decide (w ∈ ws) := by
  unfold inV
  rw [List.any_map]
  apply Bool.eq_iff_iff.mpr
  rw [List.any_eq_true, decide_eq_true_iff]
  constructor
  · rintro ⟨x, hx, e⟩
    have e2 : (x == w) = true := e
    rw [← eq_of_beq e2]; exact hx
  · intro h
    exact ⟨w, h, (beq_self_eq_true w : (w == w) = true)⟩
theorem bad_iff (r : Rw) : r.bad = none ↔ ((0 ≤ r.hue ∧ r.hue ≤ 5) ∧ barIn r.bar = true ∧ (0 ≤ r.std ∧ r.std ≤ 7)) := by
  unfold Rw.bad
  by_cases h1 : 0 ≤ r.hue ∧ r.hue ≤ 5
  · rw [if_pos h1]
    by_cases h2 : barIn r.bar = true
    · rw [if_pos h2]
      by_cases h3 : 0 ≤ r.std ∧ r.std ≤ 7
      · rw [if_pos h3]; exact ⟨fun _ => ⟨h1, h2, h3⟩, fun _ => rfl⟩
      · rw [if_neg h3]; exact ⟨fun z => (by cases z), fun z => absurd z.2.2 h3⟩
    · rw [if_neg h2]; exact ⟨fun z => (by cases z), fun z => absurd z.2.1 h2⟩
  · rw [if_neg h1]; exact ⟨fun z => (by cases z), fun z => absurd z.1 h1⟩
theorem no_good {t : Str} {ws : List Str} (h : Txt.split t spc = ws) (b : ¬ (2 ≤ ws.length ∧ (prRw ws).bad = none)) : ∀ r : Ph, r.Ok → r.rw.text ≠ t := fun r ok e => by
  have e2 : ws = r.wd := by rw [← h, ← e]; exact text_split ok
  apply b
  rw [e2, prRw_wd ok]
  exact ⟨by unfold Ph.wd; simp, Ph.good ok⟩
theorem no_text {t : Str} {ws : List Str} (h : Txt.split t spc = ws) (b : (prRw ws).text ≠ t) : ∀ r : Ph, r.Ok → r.rw.text ≠ t := fun r ok e => by
  have e2 : ws = r.wd := by rw [← h, ← e]; exact text_split ok
  rw [e2, prRw_wd ok] at b
  exact b e
theorem flat_strs (ws : List Str) : (ws.map V.str).all flatV = true := by rw [List.all_map]; exact List.all_eq_true.mpr fun _ _ => rfl
theorem cut_last (ws : List Str) : cutV (ws.map V.str) none (some (-1)) = ws.dropLast.map V.str := by
  unfold cutV
  have e0 : HT.sIx (ws.map V.str).length 0 none = 0 := rfl
  have e1 : HT.sIx (ws.map V.str).length (ws.map V.str).length (some (-1)) = ws.length - 1 := by
    rw [List.length_map]
    show (if (-1 : Int) < 0 then ((-1 : Int) + (ws.length : Int)).toNat else min (-1 : Int).toNat ws.length) = ws.length - 1
    rw [if_pos (by decide)]
    omega
  rw [e0, e1, List.drop_zero, Nat.sub_zero, List.dropLast_eq_take, List.map_take]
theorem split_ne (t : Str) : Txt.split t spc ≠ [] := by
  intro z
  have h := split_spl t spc (by rw [tl_spc]; simp) (kind_ok spc_low)
  rw [z] at h
  have h2 := joinL_spl 32 (tl t) []
  rw [tl_spc] at h
  have h3 : ([] : List (List Nat)) = spl [32] 0 [] (tl t) := h
  have h4 : tl t = [] := by rw [← h3] at h2; simpa [joinL] using h2.symm
  rw [h4, spl_nil] at h3
  cases h3
theorem str_at {ws : List Str} {i : Nat} {w : Str} (h : ws[i]? = some w) : atI (ws.map V.str) ((i : Nat) : Int) = some (.str w) := by
  have h2 : (ws.map V.str)[i]? = some (.str w) := by rw [List.getElem?_map, h]; rfl
  exact atI_nat h2
section
variable {P : Program} [SupP P pFile] [SupP P pFile] {w : World} {K : PySem.W.Frag} {mg : Str → Option Value} {base : Heap}
theorem ok_Phase_parse (T : Tx K mg) : FnOk P w K mg base (L2.CX P w) 6 (pad "classmethod" "Phase" "parse" K) (fdD K (pad "classmethod" "Phase" "parse" K)) P_Phase_parse (spParse K) := by
  obtain ⟨_, kb_Phase_barrier_visits_pauses_stand_skips⟩ := kb_Phase_barrier_visits_pauses_stand_skips T
  refine T.F_Phase_parse.ok sc_Phase_parse (fun vs H Q E h => ?_) (fun cdv A outer s H vs Q E hr h => ?_)
  · obtain ⟨t, rfl, _⟩ := h; rfl
  · obtain ⟨t, rfl, hl, yes, no⟩ := h
    refine ⟨_, (pss_cons (ps_set (i := 2) sc_Phase_parse.nd rfl (Or.inl rfl) (pe_split (pv 1) pe_str))
      (pss_cons (ps_set (i := 3) sc_Phase_parse.nd rfl (Or.inl rfl) pe_int)
      (C8.pss_cut (ps_if (pt_cmpR op_in_seq pe_str (pe_slice sl_list (pv 2) po_none (po_some (pe_un un_neg pe_int))) (by rfl)) (pss_one (ps_set (i := 3) sc_Phase_parse.nd rfl (Or.inl rfl) (pe_m1 PySem.F.slot_str_find PySem.F.type_str_find mt_find (pe_gs rfl T.g_DIGITS) (pe_ix ix_list (pv 2) (pe_op op_add (pe_bm PySem.F.plainAttrs_list PySem.F.slot_list_index PySem.F.type_list_index mt_index (pv 2) (pa_cons pe_str pa_nil)) pe_int) (fun _ _ => rfl))))) pss_nil)
      (pss_cons (ps_set (i := 4) sc_Phase_parse.nd rfl (Or.inl rfl) (pe_m1 PySem.F.slot_str_find PySem.F.type_str_find mt_find (pe_gs rfl T.g_DIGITS) (pe_ix ix_list (pv 2) pe_int (fun _ _ => rfl))))
      (pss_cons (ps_if (PW.pt (pw_or (pt_cmpR op_lt (pe_callB call_len_seq (by rfl) T.n_len (by decide +kernel) (pa_cons (pv 2) pa_nil)) pe_int (nomark _)) (pw_or (pt_not (pt_chain op_le op_le pe_int (pv 4) (pe_gi rfl T.g_MOST_HUE))) (pw_or (pt_cmpR op_notIn_seq (pe_ix ix_list (pv 2) pe_int (fun _ _ => rfl)) (pe_gr rfl T.g_BARRIERS) (by rfl)) (pw_or1 (pt_not (pt_chain op_le op_le pe_int (pv 3) (pe_gi rfl T.g_MOST_STAND)))))))) (pss_one (ps_raise rfl (takes_of rfl rfl rfl rfl) (pmk_oex T.ox_BadPhase T.ei_BadPhase.1 T.ei_BadPhase.2 (ok_BadPhase_init (P := P) T) (hr.mono (by decide)) (bd_BadPhase_init T) .nil pass0 rfl T.g_BadPhase (pa_cons pe_str pa_nil)))) pss_nil)
      (pss_cons (ps_set (i := 5) sc_Phase_parse.nd rfl (Or.inl rfl) (pe_makeLpK (i := 0) T.mk_Phase (ok_Phase_init (P := P) T) (hr.mono (by decide)) rfl (by first | exact Or.inl rfl | exact Or.inr (Or.inl rfl)) kb_Phase_barrier_visits_pauses_stand_skips (passes_call (takes_of rfl rfl rfl rfl) (fun _ _ _ _ z => z)) (pa_cons (pv 4) pa_nil) (pk_cons (pe_ix ix_list (pv 2) pe_int (fun _ _ => rfl)) (pk_cons (pe_cmpR op_in_seq pe_str (pv 2) (by rfl)) (pk_cons (pe_cmpR op_in_seq pe_str (pv 2) (by rfl)) (pk_cons (pv 3) (pk_cons (pe_cmpR op_in_seq pe_str (pv 2) (by rfl)) pk_nil)))))))
      (pss_cons (ps_if (pt_cmpR op_ne (pe_prop (pv 5) T.c_Phase T.p_Phase_text (ok_Phase_text (P := P) T) (hr.mono (by decide)) (bd_Phase_text T) .nil pass0 rfl) (pv 1) (nomark _)) (pss_one (ps_raise rfl (takes_of rfl rfl rfl rfl) (pmk_oex T.ox_BadPhase T.ei_BadPhase.1 T.ei_BadPhase.2 (ok_BadPhase_init (P := P) T) (hr.mono (by decide)) (bd_BadPhase_init T) .nil pass0 rfl T.g_BadPhase (pa_cons pe_str pa_nil)))) pss_nil)
      (pss_one (ps_ret (pv 5)))))))))), ?_⟩
    have hz : t.length + 2 ≤ sizeLine := Nat.le_trans (show t.length + 2 ≤ 10002 by omega) (by decide)
    generalize ews : Txt.split t spc = ws
    refine ⟨_, rfl, ⟨_, rfl⟩, t, spc, rfl, rfl, (by decide +kernel), hz, fun l nl => ?_⟩
    rw [ews]
    refine ⟨fun σ H' => σ = [some (.ref (gad "Phase" K)), some (.str t), some (.ref l), some (.int (prStand ws)), none, none] ∧ Same H H' ∧ H' l = some (.lst (ws.map V.str)), ?_, ?_⟩
    · refine ⟨_, rfl, _, rfl, _, rfl, l, _, rfl, SqL.of upd_same, fun p np => ?_⟩
      rw [cut_last]
      refine ⟨p, _, rfl, .inl (SqL.of upd_same), rfl, flat_strs _, _, rfl, ?_⟩
      rw [show inV (V.str ("stand" : Str)) (ws.dropLast.map V.str) = decide (wS ∈ ws.dropLast) from in_strs wS _]
      have S1 : Same H (upd (upd H l (.lst (ws.map V.str))) p (.lst (ws.dropLast.map V.str))) := Same.upd (Same.new nl) ((Same.new nl).free np)
      have h1 := upd_old (u := .lst (ws.dropLast.map V.str)) np (upd_same (H := H) (a := l) (o := .lst (ws.map V.str)))
      refine iteB (fun c => ?_) (fun c => ?_)
      · have hm : wS ∈ ws.dropLast := of_decide_eq_true c
        obtain ⟨q1, q2⟩ := firstIx_at (List.dropLast_subset _ hm)
        have q3 := firstIx_last hm
        have q4 : ws[firstIx wS ws + 1]? = some (ws[firstIx wS ws + 1]) := List.getElem?_eq_getElem q3
        have q5 : (ws.map V.str)[firstIx wS ws]? = some (.str wS) := by rw [List.getElem?_map, q1]; rfl
        refine ⟨⟨_, rfl⟩, _, rfl, _, rfl, .inl ⟨rfl, _, SqL.of h1⟩, l, _, .str wS, firstIx wS ws, .str wS, rfl, rfl, SqL.of h1, rfl, flat_strs _, q5, (beq_self_eq_true wS), ?_, _, _, rfl, rfl, l, _, _, _, rfl, rfl, SqL.of h1, (str_at (i := firstIx wS ws + 1) q4), _, _, rfl, rfl, ?_⟩
        · intro m z' hm' hz'
          rw [List.getElem?_map] at hz'
          cases e : ws[m]? with
          | none => rw [e] at hz'; cases hz'
          | some x =>
            rw [e] at hz'
            cases hz'
            have ne : x ≠ wS := fun z => q2 m hm' (by rw [e, z])
            exact beq_eq_false_iff_ne.mpr ne
        · refine ⟨?_, S1, h1⟩
          have e : prStand ws = Txt.find digs (ws[firstIx wS ws + 1]) := by
            unfold prStand
            rw [if_pos hm, List.getD_eq_getElem?_getD, q4]; rfl
          rw [e]; rfl
      · have hm : ¬ wS ∈ ws.dropLast := of_decide_eq_false c
        refine ⟨?_, S1, h1⟩
        have e : prStand ws = 0 := by unfold prStand; rw [if_neg hm]
        rw [e]; rfl
    · rintro σ H1 ⟨rfl, S1, h1⟩
      have hne : ws ≠ [] := by rw [← ews]; exact split_ne t
      obtain ⟨w0, wr, rfl⟩ : ∃ a b, ws = a :: b := by
        cases ws with
        | nil => exact absurd rfl hne
        | cons a b => exact ⟨a, b, rfl⟩
      have eb : (∀ r : Ph, r.Ok → r.rw.text ≠ t) → ∀ dd H', H1 dd = none → Same H1 H' → H' dd = some (.xd [("field", .str ("text" : Str))]) → E (.ref (gad "BadPhase" K)) (some dd) H' := fun q dd H' n1 s1 => no q dd H' (S1.free n1) (S1.trans s1)
      refine ⟨⟨_, rfl⟩, _, rfl, l, _, _, _, rfl, rfl, SqL.of h1, str_at (i := 0) rfl, _, _, rfl, rfl, ?_⟩
      generalize ehu : Txt.find digs w0 = hu
      rw [show Txt.find (Str.ofString "0123456789") w0 = hu from ehu]
      generalize est : prStand (w0 :: wr) = st
      have eR : prRw (w0 :: wr) = ⟨hu, (w0 :: wr).getD 1 wS, decide (wV ∈ w0 :: wr), decide (wP ∈ w0 :: wr), st, decide (wK ∈ w0 :: wr)⟩ := by
        unfold prRw
        rw [est, ← ehu]; rfl
      have bad := no_good ews
      refine ⟨_, rfl, _, _, rfl, .inl (SqL.of h1), _, _, rfl, rfl, _, rfl, ?_⟩
      cases wr with
      | nil =>
        refine iteY (decide_eq_true (by show ((1 : Nat) : Int) < 2; omega)) ?_
        exact mkO1 (eb (bad fun z => absurd z.1 (by simp)))
      | cons w1 wr =>
        refine iteDN (by show ¬ (((w0 :: w1 :: wr).map V.str).length : Int) < 2; simp; omega) ?_
        have bd : ¬ ((0 ≤ hu ∧ hu ≤ 5) ∧ barIn w1 = true ∧ (0 ≤ st ∧ st ≤ 7)) → ∀ r : Ph, r.Ok → r.rw.text ≠ t := fun z => bad fun q => z (by
          have := (bad_iff _).mp q.2
          rw [eR] at this; exact this)
        by_cases h0 : 0 ≤ hu
        case neg =>
          refine ⟨_, rfl, _, _, rfl, rfl, _, rfl, iteDN h0 ?_⟩
          refine ⟨_, rfl, iteT ?_⟩
          exact mkO1 (eb (bd fun z => h0 z.1.1))
        refine ⟨_, rfl, _, _, rfl, rfl, _, rfl, iteD h0 ?_⟩
        by_cases h1' : hu ≤ 5
        case neg =>
          refine ⟨_, _, rfl, rfl, _, rfl, iteND h1' ?_⟩
          exact mkO1 (eb (bd fun z => h1' z.1.2))
        refine ⟨_, _, rfl, rfl, _, rfl, iteNS h1' ?_⟩
        refine ⟨_, rfl, l, _, _, _, rfl, rfl, SqL.of h1, str_at (i := 1) rfl, _, _, rfl, .inr (T.t_BARRIERS _), rfl, rfl, _, rfl, ?_⟩
        cases hB : barIn w1 with
        | false =>
          refine iteY (by rw [if_pos rfl, show inV (.str w1) barVs = false from hB]; rfl) ?_
          exact mkO1 (eb (bd fun z => absurd z.2.1 (by rw [hB]; exact Bool.false_ne_true)))
        | true =>
          refine iteE (by rw [if_pos rfl, show inV (.str w1) barVs = true from hB]; rfl) ?_
          by_cases s0 : 0 ≤ st
          case neg =>
            refine ⟨_, rfl, _, _, rfl, rfl, _, rfl, iteDN s0 ?_⟩
            refine ⟨_, rfl, iteT ?_⟩
            exact mkO1 (eb (bd fun z => s0 z.2.2.1))
          refine ⟨_, rfl, _, _, rfl, rfl, _, rfl, iteD s0 ?_⟩
          by_cases s1 : st ≤ 7
          case neg =>
            refine ⟨_, _, rfl, rfl, _, rfl, iteND s1 ?_⟩
            exact mkO1 (eb (bd fun z => s1 z.2.2.2))
          refine ⟨_, _, rfl, rfl, _, rfl, iteNS s1 ?_⟩
          refine ⟨rfl, _, rfl, _, rfl, l, _, _, _, rfl, rfl, SqL.of h1, str_at (i := 1) rfl, _, rfl, l, _, rfl, .inl (SqL.of h1), rfl, flat_strs _, _, rfl, l, _, rfl, .inl (SqL.of h1), rfl, flat_strs _, _, rfl, _, rfl, l, _, rfl, .inl (SqL.of h1), rfl, flat_strs _, rfl, rfl, fun x dx nx ndx nex => ?_⟩
          generalize ewv : (w0 :: w1 :: wr) = ws at *
          have g : (prRw ws).bad = none := by
            rw [eR]; refine (bad_iff _).mpr ⟨⟨h0, h1'⟩, ?_, s0, s1⟩
            show barIn (ws.getD 1 wS) = true
            rw [← ewv]; exact hB
          have eg : (prRw ws).vs = [V.int hu, V.str w1, V.bl (inV (.str wV) (ws.map V.str)), V.bl (inV (.str wP) (ws.map V.str)), V.int st, V.bl (inV (.str wK) (ws.map V.str))] := by
            rw [eR, in_strs, in_strs, in_strs, ← ewv]; rfl
          refine ⟨x, dx, prRw ws, ?_, upd_same, fun _ H2 f2 h2 => ⟨rfl, ?_⟩, fun f hf => absurd (g.symm.trans hf) (by simp)⟩
          · rw [eg]; rfl
          have S2 : Same H1 H2 := made_same nx ndx f2
          have R2 : RwAt K H2 x (prRw ws) := ⟨dx, h2⟩
          refine ⟨_, rfl, x, dx, _, rfl, h2, x, prRw ws, rfl, R2, g, fun H3 S3 => ?_⟩
          refine ⟨_, rfl, rfl, _, rfl, ?_⟩
          by_cases et : (prRw ws).text = t
          case neg =>
            refine iteND (fun z => et (V.str.inj z)) ?_
            have nt := no_text ews et
            exact mkO1 fun dd H' n1 s1' e1 => eb nt dd H' ((S2.trans S3).free n1) ((S2.trans S3).trans s1') e1
          refine iteNS (congrArg V.str et) ?_
          obtain ⟨r, ok, er⟩ := Rw.good g
          exact ⟨_, rfl, yes r ok (by rw [er]; exact et) x H3 (S1.free nx) (S1.trans (S2.trans S3)) (by rw [er]; exact R2.same S3)⟩
end

/-! ### what the law reads -/
theorem dig_mem : ∀ {ds : List Str} {w : Str} (k : Nat), w ∈ ds → digOf ds k w = some (k + firstIx w ds)
  | [], _, _, h => by cases h
  | d :: ds, w, k, h => by
    unfold digOf firstIx
    by_cases e : w = d
    · rw [if_pos e, if_pos e.symm]; rfl
    · rw [if_neg e, if_neg (fun z => e z.symm)]
      rw [dig_mem (k + 1) ((List.mem_cons.mp h).resolve_left e)]
      congr 1; omega
theorem dig_not : ∀ {ds : List Str} {w : Str} (k : Nat), w ∉ ds → digOf ds k w = none
  | [], _, _, _ => rfl
  | d :: ds, w, k, h => by
    unfold digOf
    rw [if_neg (fun z => h (by rw [z]; exact List.mem_cons_self))]
    exact dig_not (k + 1) fun z => h (List.mem_cons_of_mem _ z)
theorem firstIx_take {w : Str} : ∀ {ds : List Str} {n : Nat}, w ∈ ds.take n → firstIx w (ds.take n) = firstIx w ds
  | [], n, h => by simp at h
  | d :: ds, 0, h => by simp at h
  | d :: ds, n + 1, h => by
    rw [List.take_succ_cons] at h ⊢
    unfold firstIx
    by_cases e : d = w
    · rw [if_pos e, if_pos e]
    · rw [if_neg e, if_neg e, firstIx_take ((List.mem_cons.mp h).resolve_left (fun z => e z.symm))]
def bar4 : List Str := ["none", "follow", "plain", "guarded"]
theorem bar_mem {w : Str} (h : w ∈ bar4) : ∃ b, barOf w = some b := by
  have e : ∀ x ∈ bar4, (barOf x).isSome = true := by decide +kernel
  exact Option.isSome_iff_exists.mp (e w h)
theorem bar_not {w : Str} (h : w ∉ bar4) : barOf w = none := by
  cases e : barOf w with
  | none => rfl
  | some b =>
    have := bar_some e
    refine absurd ?_ h
    rw [this]
    cases b <;> decide +kernel
theorem readW_none {t : Str} {ws : List Str} (h : Txt.split t spc = ws) (b : readW ws = none) : ∀ r : Ph, r.Ok → r.rw.text ≠ t := fun r ok e => by
  have e2 : ws = r.wd := by rw [← h, ← e]; exact text_split ok
  rw [e2, readW_wd ok] at b; cases b
theorem readW_some {t : Str} {ws : List Str} {r : Ph} (h : Txt.split t spc = ws) (b : readW ws = some r) : r.Ok ∧ r.rw.text = t := by
  obtain ⟨ok, e⟩ := readW_ok b
  exact ⟨ok, text_of_wd (h.trans e)⟩
theorem cut_k (xs : List Str) {k : Nat} (h : k ≤ xs.length) : cutV (xs.map V.str) none (some (k : Int)) = (xs.take k).map V.str := by
  unfold cutV
  rw [HT.sIx_nat, HT.sIx_none, List.drop_zero, Nat.sub_zero, List.length_map, Nat.min_eq_left h, List.map_take]
theorem cut_d (xs : List Str) {k : Nat} (h : k ≤ xs.length) : cutV (xs.map V.str) (some (k : Int)) none = (xs.drop k).map V.str := by
  unfold cutV
  rw [HT.sIx_nat, HT.sIx_none, List.length_map, Nat.min_eq_left h, List.map_drop]
  exact List.take_of_length_le (by rw [List.length_drop, List.length_map]; exact Nat.le_refl _)
theorem readW_n0 {ws : List Str} (h : (ws[0]?).bind (digOf (ds8.take 6) 0) = none) : readW ws = none := by
  unfold readW; rw [h]
theorem readW_n1 {ws : List Str} (h : (ws[1]?).bind barOf = none) : readW ws = none := by
  unfold readW; rw [h]; cases (ws[0]?).bind (digOf (ds8.take 6) 0) <;> rfl
/-- the two marks, one by one: the place, the marks found -/
def stp (ws : List Str) : Nat → Nat × List Bool
  | 0 => (2, [])
  | i + 1 => ((stp ws i).1 + (isAt ws (stp ws i).1 (if i = 0 then wV else wP)).toNat, (stp ws i).2 ++ [isAt ws (stp ws i).1 (if i = 0 then wV else wP)])
theorem at_false {ws : List Str} {i : Nat} {w : Str} (h : ¬ i < ws.length) : isAt ws i w = false := decide_eq_false (by rw [List.getElem?_eq_none (by omega)]; simp)
theorem at_eq {ws : List Str} {i : Nat} {w x : Str} (h : ws[i]? = some x) : decide (V.str x = V.str w) = isAt ws i w := by
  rw [dec_str]
  unfold isAt
  rw [h]
  exact decide_eq_decide.mpr ⟨fun z => by rw [z], fun z => Option.some.inj z⟩
/-- at < len(words) and words[at] == e -/
theorem rd_at {K : PySem.W.Frag} {σ : L2.St} {H : Hp} {Q : VK} {te : TE} {ws : List Str} {l : Addr} {k : Nat} {w : Str} (ha : σ[3]? = some (some (.int (k : Int)))) (hw : σ[1]? = some (some (.ref l))) (hl : H l = some (.lst (ws.map V.str)))
    (he : ∀ R : VK, R (.str w) H → te σ H R) (q : Q (.bl (isAt ws k w)) H) :
    tAndV (tOp (rI0 fun i j => V.bl (decide (i < j))) (tVar 3) (tCB (fun xs H Q => ∃ p ys, xs = [V.ref p] ∧ (SqL K H p ys ∨ SqT K H p ys) ∧ Q (V.int ((ys.length : Nat) : Int)) H) (tCons (tVar 1) tNil))) (tOp rEq (tOp (rIxL K) (tVar 1) (tVar 3)) te) σ H Q := by
  refine ⟨_, ha, _, hw, _, _, rfl, .inl (SqL.of hl), _, _, rfl, rfl, _, rfl, ?_⟩
  rw [List.length_map]
  refine iteB (fun c => ?_) (fun c => ?_)
  · have hlt : k < ws.length := by have := of_decide_eq_true c; omega
    have hx := List.getElem?_eq_getElem hlt
    refine ⟨_, hw, _, ha, l, _, _, _, rfl, rfl, SqL.of hl, str_at hx, he _ ⟨rfl, ?_⟩⟩
    rw [at_eq hx]; exact q
  · have hlt : ¬ k < ws.length := by have := of_decide_eq_false c; omega
    rw [at_false hlt] at q; exact q
theorem keep_none1 {ws : List Str} {j : Nat} (h : ¬ j + 1 < ws.length) : keepOf ws j = none := by
  unfold keepOf
  rw [List.getElem?_eq_none (by omega)]
  split <;> rfl
theorem keep_none2 {ws : List Str} {j : Nat} (h : isAt ws j wS = false) : keepOf ws j = none := by
  unfold keepOf; rw [h]; rfl
theorem keep_at {ws : List Str} {j : Nat} {x : Str} (h : isAt ws j wS = true) (hx : ws[j + 1]? = some x) : keepOf ws j = digOf ds8.tail 1 x := by
  unfold keepOf; rw [h, hx]; rfl
theorem tail_ix {x : Str} (h : x ∈ ds8.tail) : firstIx x ds8 = 1 + firstIx x ds8.tail := by
  have e : (ds8.head? : Option Str) ≠ some x := by
    intro z
    have z2 : (("0" : Str)) = x := Option.some.inj z
    rw [← z2] at h
    exact absurd h (by decide +kernel)
  show (if ("0" : Str) = x then 0 else firstIx x ds8.tail + 1) = _
  rw [if_neg (fun z => e (congrArg some z))]; omega
theorem ix_of {x : Str} {ds : List Str} (h : x ∈ ds) : (ds.map V.str)[firstIx x ds]? = some (.str x) ∧ ∀ (m : Nat) (z' : V), m < firstIx x ds → (ds.map V.str)[m]? = some z' → eqV z' (.str x) = false := by
  obtain ⟨q1, q2⟩ := firstIx_at h
  refine ⟨by rw [List.getElem?_map, q1]; rfl, fun m z' hm hz => ?_⟩
  rw [List.getElem?_map] at hz
  cases e : ds[m]? with
  | none => rw [e] at hz; cases hz
  | some y =>
    rw [e] at hz
    cases hz
    exact beq_eq_false_iff_ne.mpr fun z => q2 m hm (by rw [e, z])
theorem readW_go {ws : List Str} {h : Nat} {b : Bar} {v p l : Bool} {j : Nat} {n : Option Nat} (h0 : (ws[0]?).bind (digOf (ds8.take 6) 0) = some h) (h1 : (ws[1]?).bind barOf = some b) (ev : isAt ws 2 wV = v) (ep : isAt ws (2 + v.toNat) wP = p) (ej : 2 + v.toNat + p.toNat = j)
    (en : n = keepOf ws j) (el : isAt ws (j + (if n.isSome then 2 else 0)) wK = l) : readW ws = if j + (if n.isSome then 2 else 0) + l.toNat = ws.length then some ⟨h, b, v, p, (n.getD 0 : Nat), l⟩ else none := by
  unfold readW
  rw [h0, h1]
  dsimp only
  rw [ev, ep, ej, ← en, el]
def spLRead (K : PySem.W.Frag) : Sp := fun vs H Q _ => ∃ t : Str, vs = [.str t] ∧ t.length ≤ 10000 ∧ (∀ r : Ph, r.Ok → r.rw.text = t → ∀ p H', H p = none → Same H H' → H' p = some (.tup r.rw.vs) → Q (.ref p) H') ∧
  ((∀ r : Ph, r.Ok → r.rw.text ≠ t) → ∀ H', Same H H' → Q .non H')
section
variable {P : Program} [SupP P pFile] [SupP P pFile] {w : World} {K : PySem.W.Frag} {mg : Str → Option Value} {base : Heap}
theorem ok_l_read (T : Tx K mg) : FnOk P w K mg base CX0 1 (gad "_law_read" K) (fdD K (gad "_law_read" K)) P_l_read (spLRead K) := by
  refine T.F_l_read.ok sc_l_read (fun vs H Q E h => ?_) (fun cdv A outer s H vs Q E hr h => ?_)
  · obtain ⟨t, rfl, _⟩ := h; rfl
  · obtain ⟨t, rfl, hl, yes, no⟩ := h
    refine ⟨_, PSs.nox ((pss_cons (ps_set (i := 1) sc_l_read.nd rfl (Or.inl rfl) (pe_split (pv 0) pe_str))
      (pss_cons (ps_set (i := 2) sc_l_read.nd rfl (Or.inl rfl) (pe_lst (pa_cons pe_str (pa_cons pe_str (pa_cons pe_str (pa_cons pe_str (pa_cons pe_str (pa_cons pe_str (pa_cons pe_str (pa_cons pe_str pa_nil))))))))))
      (pss_cons (ps_if (PW.pt (pw_or (pt_cmpR op_lt (pe_callB call_len_seq (by rfl) T.n_len (by decide +kernel) (pa_cons (pv 1) pa_nil)) pe_int (nomark _)) (pw_or (pt_cmpR op_notIn_seq (pe_ix ix_list (pv 1) pe_int (fun _ _ => rfl)) (pe_slice sl_list (pv 2) po_none (po_some pe_int)) (by rfl)) (pw_or1 (pt_cmpR op_notIn_seq (pe_ix ix_list (pv 1) pe_int (fun _ _ => rfl)) (pe_lst (pa_cons pe_str (pa_cons pe_str (pa_cons pe_str (pa_cons pe_str pa_nil))))) (by rfl)))))) (pss_one (ps_ret pe_non)) pss_nil)
      (pss_cons (ps_set (i := 3) sc_l_read.nd rfl (Or.inl rfl) pe_int)
      (pss_cons (ps_set (i := 4) sc_l_read.nd rfl (Or.inl rfl) (pe_lst pa_nil))
      (pss_cons (ps_for PassesOwn.never rfl (pi_list (pe_lst (pa_cons pe_str (pa_cons pe_str pa_nil)))) (pg_name (i := 5) sc_l_read.nd rfl (Or.inl rfl)) (pss_cons (ps_expr (pe_bm PySem.F.plainAttrs_list PySem.F.slot_list_append PySem.F.type_list_append mt_append (pv 4) (pa_cons (pe_and (pe_cmpR op_lt (pv 3) (pe_callB call_len_seq (by rfl) T.n_len (by decide +kernel) (pa_cons (pv 1) pa_nil)) (nomark _)) (pe_one (pe_cmpR op_eq (pe_ix ix_list (pv 1) (pv 3) (fun _ _ => rfl)) (pv 5) (nomark _)))) pa_nil)))
      (pss_one (ps_set (i := 3) sc_l_read.nd rfl (Or.inl rfl) (pe_op op_add (pv 3) (pe_callTy call_intB (by rfl) T.n_int (by decide +kernel) (pa_cons (pe_ix ix_list (pv 4) (pe_un un_neg pe_int) (fun _ _ => rfl)) pa_nil)))))))
      (pss_cons (ps_set (i := 6) sc_l_read.nd rfl (Or.inl rfl) pe_int)
      (C8.pss_cut (ps_if (PW.pt (pw_and (pt_cmpR op_lt (pe_op op_add (pv 3) pe_int) (pe_callB call_len_seq (by rfl) T.n_len (by decide +kernel) (pa_cons (pv 1) pa_nil)) (nomark _)) (pw_and (pt_cmpR op_eq (pe_ix ix_list (pv 1) (pv 3) (fun _ _ => rfl)) pe_str (nomark _)) (pw_and1 (pt_cmpR op_in_seq (pe_ix ix_list (pv 1) (pe_op op_add (pv 3) pe_int) (fun _ _ => rfl)) (pe_slice sl_list (pv 2) (po_some pe_int) po_none) (by rfl)))))) (pss_cons (ps_set (i := 6) sc_l_read.nd rfl (Or.inl rfl) (pe_bm PySem.F.plainAttrs_list PySem.F.slot_list_index PySem.F.type_list_index mt_index (pv 2) (pa_cons (pe_ix ix_list (pv 1) (pe_op op_add (pv 3) pe_int) (fun _ _ => rfl)) pa_nil)))
      (pss_one (ps_set (i := 3) sc_l_read.nd rfl (Or.inl rfl) (pe_op op_add (pv 3) pe_int)))) pss_nil)
      (pss_cons (ps_set (i := 7) sc_l_read.nd rfl (Or.inl rfl) (pe_and (pe_cmpR op_lt (pv 3) (pe_callB call_len_seq (by rfl) T.n_len (by decide +kernel) (pa_cons (pv 1) pa_nil)) (nomark _)) (pe_one (pe_cmpR op_eq (pe_ix ix_list (pv 1) (pv 3) (fun _ _ => rfl)) pe_str (nomark _)))))
      (pss_cons (ps_if (pt_cmpR op_ne (pe_op op_add (pv 3) (pe_callTy call_intB (by rfl) T.n_int (by decide +kernel) (pa_cons (pv 7) pa_nil))) (pe_callB call_len_seq (by rfl) T.n_len (by decide +kernel) (pa_cons (pv 1) pa_nil)) (nomark _)) (pss_one (ps_ret pe_non)) pss_nil)
      (pss_one (ps_ret (pe_tup (pa_cons (pe_bm PySem.F.plainAttrs_list PySem.F.slot_list_index PySem.F.type_list_index mt_index (pv 2) (pa_cons (pe_ix ix_list (pv 1) pe_int (fun _ _ => rfl)) pa_nil)) (pa_cons (pe_ix ix_list (pv 1) pe_int (fun _ _ => rfl)) (pa_cons (pe_ix ix_list (pv 4) pe_int (fun _ _ => rfl)) (pa_cons (pe_ix ix_list (pv 4) pe_int (fun _ _ => rfl)) (pa_cons (pv 6) (pa_cons (pv 7) pa_nil)))))))))))))))))))), ?_⟩
    have hz : t.length + 2 ≤ sizeLine := Nat.le_trans (show t.length + 2 ≤ 10002 by omega) (by decide)
    generalize ews : Txt.split t spc = ws
    have rno : readW ws = none → ∀ H', Same H H' → Q .non H' := fun b => no (readW_none ews b)
    refine ⟨_, rfl, ⟨_, rfl⟩, t, spc, rfl, rfl, (by decide +kernel), hz, fun l nl => ?_⟩
    rw [ews]
    refine ⟨(show (8 : Nat) ≤ sizeLine by decide), fun d nd => ?_⟩
    have hl1 := upd_old (u := .lst (ds8.map V.str)) nd (upd_same (H := H) (a := l) (o := .lst (ws.map V.str)))
    have hd1 : (upd (upd H l (.lst (ws.map V.str))) d (.lst (ds8.map V.str))) d = some (.lst (ds8.map V.str)) := upd_same
    have S1 : Same H (upd (upd H l (.lst (ws.map V.str))) d (.lst (ds8.map V.str))) := Same.upd (Same.new nl) ((Same.new nl).free nd)
    show tSeq _ _ _ _ (upd (upd H l (.lst (ws.map V.str))) d (.lst (ds8.map V.str)))
    generalize upd (upd H l (.lst (ws.map V.str))) d (.lst (ds8.map V.str)) = H1 at hl1 hd1 S1 ⊢
    have hne : ws ≠ [] := by rw [← ews]; exact split_ne t
    obtain ⟨w0, wr, ewv⟩ : ∃ a b, ws = a :: b := by
      cases ws with
      | nil => exact absurd rfl hne
      | cons a b => exact ⟨a, b, rfl⟩
    refine ⟨_, rfl, _, _, rfl, .inl (SqL.of hl1), _, _, rfl, rfl, _, rfl, ?_⟩
    cases wr with
    | nil =>
      refine iteY (decide_eq_true (by rw [ewv]; show ((1 : Nat) : Int) < 2; omega)) ?_
      refine rno ?_ _ S1
      rw [ewv]; exact readW_n1 rfl
    | cons w1 wr =>
      have wl : 2 ≤ ws.length := by rw [ewv]; simp
      have a0 : ws[0]? = some w0 := by rw [ewv]; rfl
      have a1 : ws[1]? = some w1 := by rw [ewv]; rfl
      refine iteDN (by show ¬ ((ws.map V.str).length : Int) < 2; rw [List.length_map]; omega) ?_
      refine ⟨_, rfl, l, _, _, _, rfl, rfl, SqL.of hl1, str_at (i := 0) a0, _, rfl, _, rfl, d, _, rfl, SqL.of hd1, fun p np => ?_⟩
      rw [show cutV (ds8.map V.str) none (some 6) = (ds8.take 6).map V.str from cut_k ds8 (k := 6) (by decide)]

      have S2 : Same H1 (upd H1 p (.lst ((ds8.take 6).map V.str))) := Same.new np
      refine ⟨p, _, rfl, .inl (SqL.of upd_same), rfl, flat_strs _, _, rfl, ?_⟩
      rw [show inV (V.str w0) ((ds8.take 6).map V.str) = decide (w0 ∈ ds8.take 6) from in_strs _ _]
      by_cases m0 : w0 ∈ ds8.take 6
      case neg =>
        refine iteY (by rw [decide_eq_false m0]; rfl) (rno ?_ _ (S1.trans S2))
        refine readW_n0 ?_
        rw [a0]; exact dig_not 0 m0
      refine iteE (by rw [decide_eq_true m0]; rfl) ?_
      refine ⟨_, rfl, l, _, _, _, rfl, rfl, SqL.of (S2 _ _ hl1), str_at (i := 1) a1, (show (4 : Nat) ≤ sizeLine by decide), fun q nq => ?_⟩
      have S3 := Same.upd (u := .lst (bar4.map V.str)) S2 (S2.free nq)
      refine ⟨q, bar4.map V.str, rfl, .inl (SqL.of upd_same), rfl, flat_strs _, _, rfl, ?_⟩
      rw [show inV (V.str w1) (bar4.map V.str) = decide (w1 ∈ bar4) from in_strs _ _]
      by_cases m1 : w1 ∈ bar4
      case neg =>
        refine iteY (by rw [decide_eq_false m1]; rfl) (rno ?_ _ (S1.trans S3))
        refine readW_n1 ?_
        rw [a1]; exact bar_not m1
      refine iteE (by rw [decide_eq_true m1]; rfl) ?_
      obtain ⟨b, hb⟩ := bar_mem m1
      have hdg := dig_mem 0 m0
      rw [firstIx_take m0, Nat.zero_add] at hdg
      have hl3 := S3 _ _ hl1
      have hd3 := S3 _ _ hd1
      have S13 := S1.trans S3
      show tSeq _ _ _ _ (upd (upd H1 p (.lst ((ds8.take 6).map V.str))) q (.lst (bar4.map V.str)))
      generalize upd (upd H1 p (.lst ((ds8.take 6).map V.str))) q (.lst (bar4.map V.str)) = H3 at hl3 hd3 S13 ⊢
      refine ⟨(show (0 : Nat) ≤ sizeLine by decide), fun f nf => ?_⟩
      refine ⟨(show (2 : Nat) ≤ sizeLine by decide), fun u nu => ?_⟩
      have S4 : Same H3 (upd (upd H3 f (.lst [])) u (.lst [.str wV, .str wP])) := Same.upd (Same.new nf) ((Same.new nf).free nu)
      have lf : l ≠ f := ne_of_none hl3 nf
      have df : d ≠ f := ne_of_none hd3 nf
      refine ⟨u, rfl, ⟨_, SqL.of upd_same⟩, for_list (K := K) (a := u) (xs := [V.str wV, V.str wP]) (fun i σ H' => ∃ q1, σ = [some (.str t), some (.ref l), some (.ref d), some (.int ((stp ws i).1 : Nat)), some (.ref f), q1, none, none] ∧ Same H3 H' ∧ H' f = some (.lst ((stp ws i).2.map V.bl)) ∧ H' u = some (.lst [V.str wV, V.str wP])) ⟨_, rfl, S4, upd_old nu upd_same, upd_same⟩ (fun i σ H' _ ⟨_, _, _, _, z⟩ => SqL.of z) ?_ ?_⟩
      · rintro i x σ H5 hi ⟨q1, rfl, S5, hf, hu⟩
        have hl5 := S5 _ _ hl3
        obtain ⟨w, rfl, hw⟩ : ∃ w, x = V.str w ∧ w = (if i = 0 then wV else wP) := by
          rcases (by have := (List.getElem?_eq_some_iff.mp hi).1; simp at this; omega : i = 0 ∨ i = 1) with rfl | rfl
          · exact ⟨wV, (Option.some.inj hi).symm, rfl⟩
          · exact ⟨wP, (Option.some.inj hi).symm, rfl⟩
        have i2 : i < 2 := (List.getElem?_eq_some_iff.mp hi).1
        have fl2 : (stp ws i).2.length = i := by
          rcases (by omega : i = 0 ∨ i = 1) with rfl | rfl <;> rfl
        have uf : u ≠ f := (ne_of_none (upd_same (H := H3) (a := f) (o := .lst [])) nu).symm
        refine ⟨_, rfl, .inl ⟨rfl, _, SqL.of hf⟩, ?_⟩
        refine rd_at (l := l) (k := (stp ws i).1) (w := w) rfl rfl hl5 (fun R r => ⟨_, rfl, r⟩) ?_
        refine ⟨f, _, _, rfl, rfl, hf, by rw [List.length_map, fl2]; exact Nat.lt_of_lt_of_le i2 (by decide), ?_⟩
        have e5 : (stp ws (i + 1)).2.map V.bl = (stp ws i).2.map V.bl ++ [V.bl (isAt ws (stp ws i).1 w)] := by
          show ((stp ws i).2 ++ [isAt ws (stp ws i).1 (if i = 0 then wV else wP)]).map V.bl = _
          rw [← hw, List.map_append]; rfl
        refine ⟨_, rfl, _, rfl, _, rfl, f, _, _, _, rfl, rfl, SqL.of upd_same, atI_last _ _, _, rfl, _, _, rfl, rfl, ?_⟩
        have e6 : ((stp ws i).1 : Int) + (if isAt ws (stp ws i).1 w = true then 1 else 0) = (((stp ws (i + 1)).1 : Nat) : Int) := by
          show _ = (((stp ws i).1 + (isAt ws (stp ws i).1 (if i = 0 then wV else wP)).toNat : Nat) : Int)
          rw [← hw]
          cases isAt ws (stp ws i).1 w <;> simp
        exact ⟨some (.str w), by rw [← e6]; rfl, Same.upd S5 nf, by rw [e5]; exact upd_same, upd_oth uf hu⟩
      · rintro σ H5 ⟨q1, rfl, S5, hf, hu⟩
        have hl5 := S5 _ _ hl3
        have hd5 := S5 _ _ hd3
        have S15 := S13.trans S5
        generalize ev : isAt ws 2 wV = v
        generalize ep : isAt ws (2 + v.toNat) wP = p'
        have ea : (stp ws [V.str wV, V.str wP].length).1 = 2 + v.toNat + p'.toNat := by
          show (2 + (isAt ws 2 wV).toNat) + (isAt ws (2 + (isAt ws 2 wV).toNat) wP).toNat = _
          rw [ev, ep]
        have ef : (stp ws [V.str wV, V.str wP].length).2 = [v, p'] := by
          show [isAt ws 2 wV] ++ [isAt ws (2 + (isAt ws 2 wV).toNat) wP] = _
          rw [ev, ep]; rfl
        rw [ea]
        rw [ef] at hf
        dsimp only
        generalize ej : 2 + v.toNat + p'.toNat = j
        refine ⟨fun σ H' => ∃ n : Option Nat, n = keepOf ws j ∧ σ = [some (.str t), some (.ref l), some (.ref d), some (.int ((j + (if n.isSome then 2 else 0) : Nat) : Int)), some (.ref f), q1, some (.int ((n.getD 0 : Nat) : Int)), none] ∧ Same H5 H', ?_, ?_⟩
        · have none_ : keepOf ws j = none → ∀ H', Same H5 H' → ∃ n : Option Nat, n = keepOf ws j ∧ ([some (.str t), some (.ref l), some (.ref d), some (.int ((j : Nat) : Int)), some (.ref f), q1, some (.int 0), none] : L2.St) = [some (.str t), some (.ref l), some (.ref d), some (.int ((j + (if n.isSome then 2 else 0) : Nat) : Int)), some (.ref f), q1, some (.int ((n.getD 0 : Nat) : Int)), none] ∧ Same H5 H' := fun e H' S' => ⟨none, e.symm, rfl, S'⟩
          refine ⟨_, rfl, _, _, rfl, rfl, _, rfl, _, _, rfl, .inl (SqL.of hl5), _, _, rfl, rfl, _, rfl, ?_⟩
          rw [List.length_map]
          refine iteB (fun c => ?_) (fun c => ?_)
          case refine_2 =>
            have hlt : ¬ j + 1 < ws.length := by have := of_decide_eq_false c; omega
            exact iteF (none_ (keep_none1 hlt) _ (Same.refl _))
          have hlt : j + 1 < ws.length := by have := of_decide_eq_true c; omega
          have hj := List.getElem?_eq_getElem (show j < ws.length by omega)
          have hj1 := List.getElem?_eq_getElem hlt
          refine ⟨_, rfl, _, rfl, l, _, _, _, rfl, rfl, SqL.of hl5, str_at hj, rfl, _, rfl, ?_⟩
          rw [show decide (V.str ws[j] = V.str ("stand" : Str)) = isAt ws j wS from at_eq hj]
          refine iteB (fun c2 => ?_) (fun c2 => ?_)
          case refine_2 => exact iteF (none_ (keep_none2 c2) _ (Same.refl _))
          have ek := keep_at c2 hj1
          refine ⟨_, rfl, _, rfl, _, _, rfl, rfl, l, _, _, _, rfl, rfl, SqL.of hl5, str_at (i := j + 1) hj1, _, rfl, _, rfl, d, _, rfl, SqL.of hd5, fun p2 np2 => ?_⟩
          rw [show cutV (ds8.map V.str) (some 1) none = ds8.tail.map V.str from cut_d ds8 (k := 1) (by decide)]
          have S6 : Same H5 (upd H5 p2 (.lst (ds8.tail.map V.str))) := Same.new np2
          refine ⟨p2, _, rfl, .inl (SqL.of upd_same), rfl, flat_strs _, _, rfl, ?_⟩
          rw [show inV (V.str ws[j + 1]) (ds8.tail.map V.str) = decide (ws[j + 1] ∈ ds8.tail) from in_strs _ _]
          refine iteB (fun c3 => ?_) (fun c3 => ?_)
          case refine_2 =>
            exact none_ (ek.trans (dig_not 1 (of_decide_eq_false c3))) _ S6
          have m3 : ws[j + 1] ∈ ds8.tail := of_decide_eq_true c3
          have m4 : ws[j + 1] ∈ ds8 := List.mem_of_mem_tail m3
          obtain ⟨i1, i2⟩ := ix_of m4
          have hl6 := S6 _ _ hl5
          have hd6 := S6 _ _ hd5
          have ed := dig_mem 1 m3
          rw [← tail_ix m3] at ed
          refine ⟨_, rfl, .inl ⟨rfl, _, SqL.of hd6⟩, _, rfl, _, rfl, _, _, rfl, rfl, l, _, _, _, rfl, rfl, SqL.of hl6, str_at (i := j + 1) hj1, d, _, _, firstIx ws[j + 1] ds8, _, rfl, rfl, SqL.of hd6, rfl, flat_strs _, i1, (beq_self_eq_true ws[j + 1]), i2, ?_⟩
          refine ⟨_, rfl, _, _, rfl, rfl, ?_⟩
          exact ⟨some (firstIx ws[j + 1] ds8), (ek.trans ed).symm, rfl, S6⟩
        · rintro σ H6 ⟨n, hn, rfl, S6⟩
          have hl6 := S6 _ _ hl5
          have hf6 := S6 _ _ hf
          have hd6 := S6 _ _ hd5
          generalize ejj : j + (if n.isSome then 2 else 0) = jj
          generalize el : isAt ws jj wK = lv
          have rg := readW_go (ws := ws) (h := firstIx w0 ds8) (b := b) (v := v) (p := p') (l := lv) (j := j) (n := n) (by rw [a0]; exact hdg) (by rw [a1]; exact hb) ev ep ej hn (by rw [ejj]; exact el)
          rw [ejj] at rg
          refine rd_at (l := l) (k := jj) (w := wK) rfl rfl hl6 (fun R r => r) ?_
          rw [el]
          have S16 := S15.trans S6
          refine ⟨_, rfl, _, rfl, _, rfl, _, _, rfl, rfl, _, rfl, _, _, rfl, .inl (SqL.of hl6), rfl, _, rfl, ?_⟩
          rw [List.length_map]
          by_cases hq : jj + lv.toNat = ws.length
          case neg =>
            rw [if_neg hq] at rg
            refine iteND (fun z => hq ?_) (rno rg _ S16)
            have z2 := V.int.inj z
            cases lv <;> simp at z2 ⊢ <;> omega
          rw [if_pos hq] at rg
          refine iteNS ?_ ?_
          · congr 1
            cases lv <;> simp at hq ⊢ <;> omega
          obtain ⟨ok, et⟩ := readW_some ews rg
          have m4 : w0 ∈ ds8 := List.mem_of_mem_take m0
          obtain ⟨i1, i2⟩ := ix_of m4
          refine ⟨_, rfl, .inl ⟨rfl, _, SqL.of hd6⟩, _, rfl, l, _, _, _, rfl, rfl, SqL.of hl6, str_at (i := 0) a0, d, _, _, firstIx w0 ds8, _, rfl, rfl, SqL.of hd6, rfl, flat_strs _, i1, (beq_self_eq_true w0), i2, ?_⟩
          refine ⟨_, rfl, l, _, _, _, rfl, rfl, SqL.of hl6, str_at (i := 1) a1, _, rfl, f, _, _, _, rfl, rfl, SqL.of hf6, rfl, _, rfl, f, _, _, _, rfl, rfl, SqL.of hf6, rfl, _, rfl, _, rfl, (show (6 : Nat) ≤ sizeLine by decide), fun pp npp => ?_⟩
          refine yes _ ok et pp _ (S16.free npp) (Same.upd S16 (S16.free npp)) ?_
          rw [upd_same, bar_some hb]; rfl
end

/-! ### a text spoilt in some way -/
theorem joinL_len : ∀ ps : List (List Nat), ps ≠ [] → (joinL [32] ps).length + 1 = (ps.map (fun p => p.length + 1)).sum
  | [], h => absurd rfl h
  | [p], _ => by simp [joinL]
  | p :: q :: r, _ => by
    have ih := joinL_len (q :: r) (by simp)
    show (p ++ ([32] ++ joinL [32] (q :: r))).length + 1 = _
    rw [List.map_cons, List.sum_cons, ← ih]
    simp; omega
theorem sum_ge {α : Type} (f : α → Nat) : ∀ {l : List α} {x : α}, x ∈ l → f x ≤ (l.map f).sum
  | y :: r, x, h => by
    rw [List.map_cons, List.sum_cons]
    rcases List.mem_cons.mp h with e | e
    · rw [e]; omega
    · have := sum_ge f e; omega
theorem sum_leW {α : Type} (f : α → Nat) {n : Nat} : ∀ {l : List α}, (∀ x ∈ l, f x ≤ n) → (l.map f).sum ≤ l.length * n
  | [], _ => by simp
  | y :: r, h => by
    rw [List.map_cons, List.sum_cons, List.length_cons, Nat.succ_mul]
    have h1 := h y List.mem_cons_self
    have h2 := sum_leW f fun x hx => h x (List.mem_cons_of_mem _ hx)
    omega
/-- few words, short ones -/
structure Wl (us : List Str) (c : Nat) : Prop where
  len : us.length ≤ c
  mem : ∀ u ∈ us, u.length ≤ 60
theorem Wl.app {us vs : List Str} {a b : Nat} (h : Wl us a) (k : Wl vs b) : Wl (us ++ vs) (a + b) :=
  ⟨by rw [List.length_append]; have := h.len; have := k.len; omega, fun u hu => (List.mem_append.mp hu).elim (h.mem u) (k.mem u)⟩
theorem Wl.sub {us vs : List Str} {a : Nat} (h : Wl us a) (l : vs.length ≤ us.length) (m : ∀ u ∈ vs, u ∈ us) : Wl vs a := ⟨Nat.le_trans l h.len, fun u hu => h.mem u (m u hu)⟩
theorem Wl.take {us : List Str} {a : Nat} (h : Wl us a) (n : Nat) : Wl (us.take n) a := h.sub (by rw [List.length_take]; omega) fun u hu => List.mem_of_mem_take hu
theorem Wl.drop {us : List Str} {a : Nat} (h : Wl us a) (n : Nat) : Wl (us.drop n) a := h.sub (by rw [List.length_drop]; omega) fun u hu => List.mem_of_mem_drop hu
theorem Wl.one {u : Str} (h : u.length ≤ 60) : Wl [u] 1 := ⟨by simp, fun x hx => by rw [List.mem_singleton.mp hx]; exact h⟩
theorem Wl.size {us : List Str} {a : Nat} (h : Wl us a) : (us.map (·.length)).sum + us.length * spc.length ≤ a * 61 := by
  have h1 := sum_leW (fun u : Str => u.length) h.mem
  have h2 : spc.length = 1 := by decide +kernel
  have h3 := h.len
  rw [h2, Nat.mul_one]
  have := Nat.mul_le_mul_right 61 h3
  omega
theorem Wl.text {us : List Str} {a : Nat} (h : Wl us a) : (Txt.join spc us).length ≤ a * 61 := by
  rw [join_eq, len_tl, tl_join, tl_spc]
  cases us with
  | nil => show (0 : Nat) ≤ _; omega
  | cons u r =>
    have h1 := joinL_len ((u :: r).map tl) (by simp)
    rw [List.map_map] at h1
    have h2 := sum_leW (fun x : Str => x.length + 1) (n := 61) (l := u :: r) fun x hx => by have := h.mem x hx; omega
    have e : ((u :: r).map ((fun p : List Nat => p.length + 1) ∘ tl)).sum = ((u :: r).map fun x : Str => x.length + 1).sum := by
      congr 1
    rw [e] at h1
    have h3 := h.len
    have := Nat.mul_le_mul_right 61 h3
    omega
theorem split_wl {t : Str} (h : t.length ≤ 60) : Wl (Txt.split t spc) 61 := by
  have e := join_split t
  have hn := split_ne t
  generalize Txt.split t spc = ws at e hn
  have el : (joinL [32] (ws.map tl)).length = t.length := by rw [← e, len_tl, tl_join, tl_spc]
  have h1 := joinL_len (ws.map tl) (by simpa using hn)
  rw [el, List.map_map] at h1
  have e2 : (ws.map ((fun p : List Nat => p.length + 1) ∘ tl)).sum = (ws.map fun x : Str => x.length + 1).sum := by congr 1
  rw [e2] at h1
  refine ⟨?_, fun u hu => ?_⟩
  · have : ws.length ≤ (ws.map fun x : Str => x.length + 1).sum := by
      clear h1 e2 el hn e
      induction ws with
      | nil => simp
      | cons x r ih => rw [List.map_cons, List.sum_cons, List.length_cons]; omega
    omega
  · have := sum_ge (fun x : Str => x.length + 1) hu
    omega
def menu : List Str := ["", "visits", "pauses", "skips", "stand", "0", "3", "6", "7", "8", "07", "guarded", "none", "Plain", "-1", "+2"]
theorem menu_ok : menu.length = 16 ∧ ∀ u ∈ menu, u.length ≤ 60 := by decide +kernel
theorem ixn_nat {n k : Nat} (h : k < n) : ixN n (k : Int) = some k := by
  unfold ixN
  rw [if_pos (by omega), if_pos (by omega), Int.toNat_natCast]
theorem Fl.aft {l d : Addr} {H H1 : Hp} {o : HO} (F : Fl l H H1) (nd : H d = none) : Fl l H (L2.upd H1 d o) := fun a u ne h => upd_oth (ne_of_none h nd) (F a u ne h)
theorem PoolAt.oth {H : Hp} {l d : Addr} {o : HO} (h : PoolAt H l) (ne : d ≠ l) : PoolAt (L2.upd H d o) l := by
  obtain ⟨ns, h1, h2⟩ := h
  exact ⟨ns, upd_oth (Ne.symm ne) h1, h2⟩
theorem or2 {σ : L2.St} {H : Hp} {Q : Bool → Hp → Prop} {i : Nat} {k a b : Int} (h : σ[i]? = some (some (.int k))) (y : k = a ∨ k = b → Q true H) (n : ¬ (k = a ∨ k = b) → Q false H) :
    tOr (tTest (tOp rEq (tVar i) (tC (.int a)))) (tTest (tOp rEq (tVar i) (tC (.int b)))) σ H Q := by
  refine ⟨_, h, rfl, _, rfl, iteB (fun c => y (.inl (V.int.inj (of_decide_eq_true c)))) (fun c => ⟨_, h, rfl, _, rfl, ?_⟩)⟩
  have c' : k ≠ a := fun z => of_decide_eq_false c (by rw [z])
  by_cases e : k = b
  · rw [decide_eq_true (by rw [e])]; exact y (.inr e)
  · rw [decide_eq_false (fun z => e (V.int.inj z))]; exact n (fun z => z.elim c' e)
def spSpoilt : Sp := fun vs H Q _ => ∃ (l : Addr) (t : Str), vs = [.ref l, .str t] ∧ PoolAt H l ∧ t.length ≤ 60 ∧ ∀ (z : Str) (H' : Hp), z.length ≤ 9000 → Fl l H H' → PoolAt H' l → Q (.str z) H'
section
variable {P : Program} [SupP P pFile] [SupP P pFile] {w : World} {K : PySem.W.Frag} {mg : Str → Option Value} {base : Heap}
theorem ok_l_spoilt (T : Tx K mg) : FnOk P w K mg base CX0 2 (gad "_law_spoilt" K) (fdD K (gad "_law_spoilt" K)) P_l_spoilt spSpoilt := by
  refine T.F_l_spoilt.ok sc_l_spoilt (fun vs H Q E h => ?_) (fun cdv A outer s H vs Q E hr h => ?_)
  · obtain ⟨l, t, rfl, _⟩ := h; rfl
  · obtain ⟨l, t, rfl, P0, tl60, k⟩ := h
    refine ⟨_, PSs.nox ((pss_cons (ps_set (i := 2) sc_l_spoilt.nd rfl (Or.inl rfl) (pe_split (pv 1) pe_str))
      (pss_cons (ps_set (i := 3) sc_l_spoilt.nd rfl (Or.inl rfl) (pe_call (ok_l_take (P := P) T) (hr.mono (by decide)) rfl T.g_l_take T.F_l_take.kp (bd_l_take T) .nil pass0 (pa_cons (pv 0) (pa_cons pe_int pa_nil))))
      (pss_cons (ps_set (i := 4) sc_l_spoilt.nd rfl (Or.inl rfl) (pe_call (ok_l_take (P := P) T) (hr.mono (by decide)) rfl T.g_l_take T.F_l_take.kp (bd_l_take T) .nil pass0 (pa_cons (pv 0) (pa_cons (pe_callB call_len_seq (by rfl) T.n_len (by decide +kernel) (pa_cons (pv 2) pa_nil)) pa_nil))))
      (pss_cons (ps_set (i := 5) sc_l_spoilt.nd rfl (Or.inl rfl) (pe_call (ok_l_take (P := P) T) (hr.mono (by decide)) rfl T.g_l_take T.F_l_take.kp (bd_l_take T) .nil pass0 (pa_cons (pv 0) (pa_cons (pe_callB call_len_seq (by rfl) T.n_len (by decide +kernel) (pa_cons (pv 2) pa_nil)) pa_nil))))
      (pss_cons (ps_set (i := 6) sc_l_spoilt.nd rfl (Or.inl rfl) (pe_lst (pa_cons pe_str (pa_cons pe_str (pa_cons pe_str (pa_cons pe_str (pa_cons pe_str (pa_cons pe_str (pa_cons pe_str (pa_cons pe_str (pa_cons pe_str (pa_cons pe_str (pa_cons pe_str (pa_cons pe_str (pa_cons pe_str (pa_cons pe_str (pa_cons pe_str (pa_cons pe_str pa_nil))))))))))))))))))
      (pss_cons (ps_set (i := 7) sc_l_spoilt.nd rfl (Or.inl rfl) (pe_ix ix_list (pv 6) (pe_call (ok_l_take (P := P) T) (hr.mono (by decide)) rfl T.g_l_take T.F_l_take.kp (bd_l_take T) .nil pass0 (pa_cons (pv 0) (pa_cons pe_int pa_nil))) (fun _ _ => rfl)))
      (pss_cons (ps_if (pt_cmpR op_eq (pv 3) pe_int (nomark _)) (pss_one (ps_ret (pv 1))) pss_nil)
      (pss_cons (ps_if (pt_cmpR op_eq (pv 3) pe_int (nomark _)) (pss_one (ps_ret (pe_join pe_str (pe_op op_cat (pe_slice sl_list (pv 2) po_none (po_some (pv 4))) (pe_slice sl_list (pv 2) (po_some (pe_op op_add (pv 4) pe_int)) po_none))))) pss_nil)
      (pss_cons (ps_if (pt_cmpR op_eq (pv 3) pe_int (nomark _)) (pss_one (ps_ret (pe_join pe_str (pe_op op_cat (pe_op op_cat (pe_slice sl_list (pv 2) po_none (po_some (pv 4))) (pe_lst (pa_cons (pe_ix ix_list (pv 2) (pv 4) (fun _ _ => rfl)) pa_nil))) (pe_slice sl_list (pv 2) (po_some (pv 4)) po_none))))) pss_nil)
      (pss_cons (ps_if (pt_cmpR op_eq (pv 3) pe_int (nomark _)) (pss_cons (ps_set (i := 8) sc_l_spoilt.nd rfl (Or.inl rfl) (pe_ix ix_list (pv 2) (pv 4) (fun _ _ => rfl)))
      (pss_cons (ps_asg (pe_ix ix_list (pv 2) (pv 5) (fun _ _ => rfl)) (pg_sub (pv 2) (pv 4) set_list))
      (pss_cons (ps_asg (pv 8) (pg_sub (pv 2) (pv 5) set_list))
      (pss_one (ps_ret (pe_join pe_str (pv 2))))))) pss_nil)
      (pss_cons (ps_if (PW.pt (pw_or (pt_cmpR op_eq (pv 3) pe_int (nomark _)) (pw_or1 (pt_cmpR op_eq (pv 3) pe_int (nomark _))))) (pss_one (ps_ret (pe_join pe_str (pe_op op_cat (pe_op op_cat (pe_slice sl_list (pv 2) po_none (po_some (pv 4))) (pe_lst (pa_cons (pv 7) pa_nil))) (pe_slice sl_list (pv 2) (po_some (pe_op op_add (pv 4) pe_int)) po_none))))) pss_nil)
      (pss_cons (ps_if (PW.pt (pw_or (pt_cmpR op_eq (pv 3) pe_int (nomark _)) (pw_or1 (pt_cmpR op_eq (pv 3) pe_int (nomark _))))) (pss_one (ps_ret (pe_join pe_str (pe_op op_cat (pe_op op_cat (pe_slice sl_list (pv 2) po_none (po_some (pe_op op_add (pv 4) pe_int))) (pe_lst (pa_cons (pv 7) pa_nil))) (pe_slice sl_list (pv 2) (po_some (pe_op op_add (pv 4) pe_int)) po_none))))) pss_nil)
      (pss_cons (ps_if (pt_cmpR op_eq (pv 3) pe_int (nomark _)) (pss_one (ps_ret (pe_slice sl_str (pv 1) po_none (po_some (pe_op op_mod (pe_callTy call_intI (by rfl) T.n_int (by decide +kernel) (pa_cons (pe_op op_add (pe_op op_mul (pv 4) pe_int) (pv 5)) pa_nil)) (pe_op op_add (pe_callB call_len_str (by rfl) T.n_len (by decide +kernel) (pa_cons (pv 1) pa_nil)) pe_int)))))) pss_nil)
      (pss_one (ps_ret (pe_ix ix_list (pe_lst (pa_cons (pe_op op_add_str (pv 1) pe_str) (pa_cons (pe_op op_add_str (pv 1) pe_str) (pa_cons (pe_upper (pv 1)) pa_nil)))) (pe_op op_sub (pv 3) pe_int) (fun _ _ => rfl)))))))))))))))))), ?_⟩
    have hz : t.length + 2 ≤ sizeLine := Nat.le_trans (show t.length + 2 ≤ 10002 by omega) (by decide)
    have wl := split_wl tl60
    have hn0 := split_ne t
    generalize ews : Txt.split t spc = ws at wl hn0
    have wpos : 0 < ws.length := by cases ws with
      | nil => exact absurd rfl hn0
      | cons a b => simp
    refine ⟨_, rfl, ⟨_, rfl⟩, t, spc, rfl, rfl, (by decide +kernel), hz, fun d nd => ?_⟩
    rw [ews]
    have P1 := P0.upd (o := .lst (ws.map V.str)) nd
    have dl := P0.ne nd
    have f1 : Fl l H (upd H d (.lst (ws.map V.str))) := Fl.same (Same.new nd)
    refine ⟨_, rfl, l, 12, rfl, P1, by decide, fun kind H2 k0 k12 f2 P2 => ?_⟩
    have hd2 := f2 _ _ dl upd_same
    have ln : (ws.map V.str).length = ws.length := List.length_map _
    refine ⟨_, rfl, _, rfl, d, _, rfl, .inl (SqL.of hd2), l, _, rfl, P2, (by rw [ln]; omega), fun at' H3 a0 a1 f3 P3 => ?_⟩
    have hd3 := f3 _ _ dl hd2
    refine ⟨_, rfl, _, rfl, d, _, rfl, .inl (SqL.of hd3), l, _, rfl, P3, (by rw [ln]; omega), fun to' H4 t0 t1 f4 P4 => ?_⟩
    have hd4 := f4 _ _ dl hd3
    rw [ln] at a1 t1
    refine ⟨(show (16 : Nat) ≤ sizeLine by decide), fun mn nm => ?_⟩
    have P5 := P4.upd (o := .lst (menu.map V.str)) nm
    have mnl := P4.ne nm
    refine ⟨_, rfl, _, rfl, l, 16, rfl, P5, by decide, fun wi H6 w0 w1 f6 P6 => ?_⟩
    obtain ⟨wn, ew, lw⟩ := nat_of (i := wi) (k := 16) w0 w1
    obtain ⟨an, ea, la⟩ := nat_of (i := at') (k := ws.length) a0 a1
    obtain ⟨tn, et, lt⟩ := nat_of (i := to') (k := ws.length) t0 t1
    subst ew; subst ea; subst et
    have hw : menu[wn]? = some menu[wn] := List.getElem?_eq_getElem (by rw [menu_ok.1]; exact lw)
    have hw60 : (menu[wn]).length ≤ 60 := menu_ok.2 _ (List.getElem_mem _)
    generalize menu[wn] = mw at hw hw60
    refine ⟨mn, _, _, _, rfl, rfl, SqL.of (f6 _ _ mnl upd_same), str_at hw, ?_⟩
    have dm : d ≠ mn := ne_of_none hd4 nm
    have hd6 := f6 _ _ dl (upd_old nm hd4)
    have F6 : Fl l H H6 := ((((f1.trans f2).trans f3).trans f4).trans (Fl.same (Same.new nm))).trans f6
    have pos6 : ∀ {c : Int}, 0 ≤ c → True := fun _ => trivial
    have ha : ws[an]? = some ws[an] := List.getElem?_eq_getElem la
    have ht : ws[tn]? = some ws[tn] := List.getElem?_eq_getElem lt
    have la60 := wl.mem _ (List.getElem_mem la)
    have lt60 := wl.mem _ (List.getElem_mem lt)
    have sz : ∀ {us vs : List Str} {a b : Nat}, Wl us a → Wl vs b → a + b ≤ 1000 → (us.map V.str).length + (vs.map V.str).length ≤ sizeLine := fun {us vs a b} h1 h2 h3 => by
      rw [List.length_map, List.length_map]
      have := h1.len
      have := h2.len
      exact Nat.le_trans (show _ ≤ 1000 by omega) (by decide)
    -- the text is given back
    refine ⟨_, rfl, rfl, _, rfl, ?_⟩
    refine iteB (fun c => ?_) (fun c => ?_)
    · exact ⟨_, rfl, k t H6 (by omega) F6 P6⟩
    have k_0 : kind ≠ 0 := fun z => of_decide_eq_false c (by rw [z])
    refine ⟨_, rfl, rfl, _, rfl, ?_⟩
    refine iteB (fun c => ?_) (fun c => ?_)
    · refine ⟨⟨_, rfl⟩, ?_⟩
      refine ⟨_, rfl, _, rfl, _, rfl, d, _, rfl, SqL.of hd6, fun p np => ?_⟩
      rw [cut_k ws (by omega)]
      refine ⟨_, rfl, _, rfl, _, _, rfl, rfl, _, rfl, d, _, rfl, SqL.of (upd_old np hd6), fun q nq => ?_⟩
      rw [show (an : Int) + 1 = ((an + 1 : Nat) : Int) by omega, cut_d ws (by omega)]
      refine ⟨p, q, _, _, rfl, rfl, upd_old nq upd_same, upd_same, ?_, fun r nr => ?_⟩
      · exact sz (wl.take an) (wl.drop (an + 1)) (by decide)
      rw [← List.map_append]
      have W := (wl.take an).app (wl.drop (an + 1))
      refine ⟨_, r, _, rfl, rfl, .inl (SqL.of upd_same), Nat.le_trans W.size (by decide), ?_⟩
      exact k _ _ (Nat.le_trans W.text (by decide)) (F6.trans (Fl.same (Same.upd (Same.upd (Same.new np) ((Same.new np).free nq)) ((Same.upd (Same.new np) ((Same.new np).free nq)).free nr)))) (((P6.upd np).upd nq).upd nr)
    have k_1 : kind ≠ 1 := fun z => of_decide_eq_false c (by rw [z])
    -- words[:i] + [x] + words[j:], joined
    have join3 : ∀ (i j : Nat) (x : Str), i ≤ ws.length → j ≤ ws.length → x.length ≤ 60 → ∀ (p q r u v : Addr) (n1 : H6 p = none) (n2 : upd H6 p (.lst ((ws.take i).map V.str)) q = none)
        (n3 : upd (upd H6 p (.lst ((ws.take i).map V.str))) q (.lst [.str x]) r = none) (n4 : upd (upd (upd H6 p (.lst ((ws.take i).map V.str))) q (.lst [.str x])) r (.lst ((ws.take i).map V.str ++ [.str x])) u = none)
        (n5 : upd (upd (upd (upd H6 p (.lst ((ws.take i).map V.str))) q (.lst [.str x])) r (.lst ((ws.take i).map V.str ++ [.str x]))) u (.lst ((ws.drop j).map V.str)) v = none),
        ∃ us : List Str, ((ws.take i).map V.str ++ [.str x]) ++ (ws.drop j).map V.str = us.map V.str ∧ (us.map (·.length)).sum + us.length * spc.length ≤ 16777216 ∧
          Q (.str (Txt.join spc us)) (upd (upd (upd (upd (upd H6 p (.lst ((ws.take i).map V.str))) q (.lst [.str x])) r (.lst ((ws.take i).map V.str ++ [.str x]))) u (.lst ((ws.drop j).map V.str))) v (.lst (((ws.take i).map V.str ++ [.str x]) ++ (ws.drop j).map V.str))) := by
      intro i j x hi hj hx p q r u v n1 n2 n3 n4 n5
      have W := ((wl.take i).app (Wl.one hx)).app (wl.drop j)
      refine ⟨(ws.take i ++ [x]) ++ ws.drop j, by simp, Nat.le_trans W.size (by decide), k _ _ (Nat.le_trans W.text (by decide)) (F6.trans (Fl.same ?_)) (((((P6.upd n1).upd n2).upd n3).upd n4).upd n5)⟩
      have S1 : Same H6 (upd H6 p (.lst ((ws.take i).map V.str))) := Same.new n1
      have S2 := Same.upd (u := .lst [.str x]) S1 (S1.free n2)
      have S3 := Same.upd (u := .lst ((ws.take i).map V.str ++ [.str x])) S2 (S2.free n3)
      have S4 := Same.upd (u := .lst ((ws.drop j).map V.str)) S3 (S3.free n4)
      exact Same.upd S4 (S4.free n5)
    refine ⟨_, rfl, rfl, _, rfl, ?_⟩
    refine iteB (fun c => ?_) (fun c => ?_)
    · refine ⟨⟨_, rfl⟩, ?_⟩
      refine ⟨_, rfl, _, rfl, _, rfl, d, _, rfl, SqL.of hd6, fun p np => ?_⟩
      rw [cut_k ws (by omega)]
      have hdp := upd_old (u := .lst ((ws.take an).map V.str)) np hd6
      refine ⟨_, rfl, _, rfl, d, _, _, _, rfl, rfl, SqL.of hdp, str_at ha, (show (1 : Nat) ≤ sizeLine by decide), fun q nq => ?_⟩
      have hdq := upd_old (u := .lst [.str ws[an]]) nq hdp
      refine ⟨p, q, _, _, rfl, rfl, upd_old nq upd_same, upd_same, sz (wl.take an) (Wl.one la60) (by decide), fun r nr => ?_⟩
      refine ⟨_, rfl, _, rfl, _, rfl, d, _, rfl, SqL.of (upd_old nr hdq), fun u nu => ?_⟩
      rw [cut_d ws (by omega)]
      refine ⟨r, u, _, _, rfl, rfl, upd_old nu upd_same, upd_same, ?_, fun v nv => ?_⟩
      · have := sz ((wl.take an).app (Wl.one la60)) (wl.drop an) (by decide)
        simpa only [List.map_append, List.map_cons, List.map_nil] using this
      obtain ⟨us, e1, e2, e3⟩ := join3 an an ws[an] (by omega) (by omega) la60 p q r u v np nq nr nu nv
      rw [e1] at e3 ⊢
      exact ⟨_, v, us, rfl, rfl, .inl (SqL.of upd_same), e2, e3⟩
    have k_2 : kind ≠ 2 := fun z => of_decide_eq_false c (by rw [z])
    -- two words are exchanged
    refine ⟨_, rfl, rfl, _, rfl, ?_⟩
    refine iteB (fun c => ?_) (fun c => ?_)
    · refine ⟨_, rfl, _, rfl, d, _, _, _, rfl, rfl, SqL.of hd6, str_at ha, ?_⟩
      refine ⟨_, rfl, _, rfl, d, _, _, _, rfl, rfl, SqL.of hd6, str_at ht, _, rfl, _, rfl, d, _, _, an, rfl, rfl, hd6, ixn_nat (by rw [List.length_map]; exact la), ?_⟩
      rw [← List.map_set]
      refine ⟨_, rfl, _, rfl, _, rfl, d, _, _, tn, rfl, rfl, upd_same, ixn_nat (by rw [List.length_map, List.length_set]; exact lt), ?_⟩
      rw [← List.map_set]
      have W : Wl ((ws.set an ws[tn]).set tn ws[an]) 61 := ⟨by rw [List.length_set, List.length_set]; exact wl.len, fun u hu => by
        rcases List.mem_or_eq_of_mem_set hu with hu | hu
        · rcases List.mem_or_eq_of_mem_set hu with hu | hu
          · exact wl.mem u hu
          · rw [hu]; exact lt60
        · rw [hu]; exact la60⟩
      refine ⟨⟨_, rfl⟩, _, rfl, _, d, _, rfl, rfl, .inl (SqL.of upd_same), Nat.le_trans W.size (by decide), ?_⟩
      exact k _ _ (Nat.le_trans W.text (by decide)) ((F6.aft nd).aft nd) ((P6.oth dl).oth dl)
    have k_3 : kind ≠ 3 := fun z => of_decide_eq_false c (by rw [z])
    -- a word in the place of another one
    refine or2 (i := 3) rfl (fun c => iteT ?_) (fun c => iteF ?_)
    · refine ⟨⟨_, rfl⟩, ?_⟩
      refine ⟨_, rfl, _, rfl, _, rfl, d, _, rfl, SqL.of hd6, fun p np => ?_⟩
      rw [cut_k ws (by omega)]
      have hdp := upd_old (u := .lst ((ws.take an).map V.str)) np hd6
      refine ⟨_, rfl, (show (1 : Nat) ≤ sizeLine by decide), fun q nq => ?_⟩
      have hdq := upd_old (u := .lst [.str mw]) nq hdp
      refine ⟨p, q, _, _, rfl, rfl, upd_old nq upd_same, upd_same, sz (wl.take an) (Wl.one hw60) (by decide), fun r nr => ?_⟩
      refine ⟨_, rfl, _, rfl, _, _, rfl, rfl, _, rfl, d, _, rfl, SqL.of (upd_old nr hdq), fun u nu => ?_⟩
      rw [show (an : Int) + 1 = ((an + 1 : Nat) : Int) by omega, cut_d ws (by omega)]
      refine ⟨r, u, _, _, rfl, rfl, upd_old nu upd_same, upd_same, ?_, fun v nv => ?_⟩
      · have := sz ((wl.take an).app (Wl.one hw60)) (wl.drop (an + 1)) (by decide)
        simpa only [List.map_append, List.map_cons, List.map_nil] using this
      obtain ⟨us, e1, e2, e3⟩ := join3 an (an + 1) mw (by omega) (by omega) hw60 p q r u v np nq nr nu nv
      rw [e1] at e3 ⊢
      exact ⟨_, v, us, rfl, rfl, .inl (SqL.of upd_same), e2, e3⟩
    have k_40 := c
    refine or2 (i := 3) rfl (fun c => iteT ?_) (fun c => iteF ?_)
    · refine ⟨⟨_, rfl⟩, ?_⟩
      refine ⟨_, rfl, _, rfl, _, _, rfl, rfl, _, rfl, d, _, rfl, SqL.of hd6, fun p np => ?_⟩
      rw [show (an : Int) + 1 = ((an + 1 : Nat) : Int) by omega, cut_k ws (by omega)]
      have hdp := upd_old (u := .lst ((ws.take (an + 1)).map V.str)) np hd6
      refine ⟨_, rfl, (show (1 : Nat) ≤ sizeLine by decide), fun q nq => ?_⟩
      have hdq := upd_old (u := .lst [.str mw]) nq hdp
      refine ⟨p, q, _, _, rfl, rfl, upd_old nq upd_same, upd_same, sz (wl.take (an + 1)) (Wl.one hw60) (by decide), fun r nr => ?_⟩
      refine ⟨_, rfl, _, rfl, _, _, rfl, rfl, _, rfl, d, _, rfl, SqL.of (upd_old nr hdq), fun u nu => ?_⟩
      rw [show (an : Int) + 1 = ((an + 1 : Nat) : Int) by omega, cut_d ws (by omega)]
      refine ⟨r, u, _, _, rfl, rfl, upd_old nu upd_same, upd_same, ?_, fun v nv => ?_⟩
      · have := sz ((wl.take (an + 1)).app (Wl.one hw60)) (wl.drop (an + 1)) (by decide)
        simpa only [List.map_append, List.map_cons, List.map_nil] using this
      obtain ⟨us, e1, e2, e3⟩ := join3 (an + 1) (an + 1) mw (by omega) (by omega) hw60 p q r u v np nq nr nu nv
      rw [e1] at e3 ⊢
      exact ⟨_, v, us, rfl, rfl, .inl (SqL.of upd_same), e2, e3⟩
    have k_50 := c
    refine ⟨_, rfl, rfl, _, rfl, ?_⟩
    refine iteB (fun c => ?_) (fun c => ?_)
    · refine ⟨_, rfl, _, rfl, _, _, rfl, rfl, .inr ⟨by decide, by decide⟩, _, rfl, _, _, rfl, rfl, _, rfl, _, rfl, _, rfl, (Nat.le_trans tl60 (by decide)), _, _, rfl, rfl, _, _, rfl, rfl, (show (0 : Int) < (t.length : Int) + 1 by omega), _, rfl, t, rfl, (Nat.le_trans tl60 (by decide)), ?_⟩
      exact k _ _ (Nat.le_trans (cutS_length _ _ _) (by omega)) F6 P6
    have k_8 : kind ≠ 8 := fun z => of_decide_eq_false c (by rw [z])
    have s1 : (" " : Str).length = 1 := by decide +kernel
    have s2 : ("\n" : Str).length = 1 := by decide +kernel
    refine ⟨_, rfl, _, _, rfl, rfl, Nat.le_trans (show t.length + _ ≤ 100 by omega) (by decide), _, rfl, _, _, rfl, rfl, Nat.le_trans (show t.length + _ ≤ 100 by omega) (by decide), _, rfl, ⟨_, rfl⟩, t, rfl, rfl, Nat.le_trans tl60 (by decide), (show (3 : Nat) ≤ sizeLine by decide), fun p np => ?_⟩
    obtain ⟨kn, ek, lk⟩ := nat_of (i := kind - 9) (k := 3) (by omega) (by omega)
    have hlen := PyProof.Rows.len_upper t
    have at3 : ∀ j : Nat, j < 3 → ∃ z : Str, atI [V.str (t ++ " "), V.str (t ++ "\n"), V.str (Txt.upper t)] (j : Int) = some (.str z) ∧ z.length ≤ 9000 := by
      intro j hj
      rcases (by omega : j = 0 ∨ j = 1 ∨ j = 2) with rfl | rfl | rfl
      · exact ⟨_, rfl, by rw [len_tl, tl_append, List.length_append, ← len_tl, ← len_tl]; omega⟩
      · exact ⟨_, rfl, by rw [len_tl, tl_append, List.length_append, ← len_tl, ← len_tl]; omega⟩
      · exact ⟨_, rfl, by omega⟩
    obtain ⟨z, hz1, hz2⟩ := at3 kn lk
    refine ⟨_, rfl, _, _, rfl, rfl, p, _, _, _, rfl, rfl, SqL.of upd_same, (by rw [ek]; exact hz1), ?_⟩
    exact k z _ hz2 (F6.trans (Fl.same (Same.new np))) (P6.upd np)
end

/-! ### texts that no phase has -/
def Bd (x : Str) : Prop := x.length ≤ 10000 ∧ ∀ r : Ph, r.Ok → r.rw.text ≠ x
def okc (c : Nat) : Bool := c == 32 || (decide (48 ≤ c) && decide (c ≤ 57)) || (decide (97 ≤ c) && decide (c ≤ 122))
theorem joinL_mem {c : Nat} : ∀ {ps : List (List Nat)}, c ∈ joinL [32] ps → c = 32 ∨ ∃ p ∈ ps, c ∈ p
  | [], h => by cases h
  | [p], h => .inr ⟨p, List.mem_singleton.mpr rfl, h⟩
  | p :: q :: r, h => by
    have h' : c ∈ p ++ ([32] ++ joinL [32] (q :: r)) := h
    rcases List.mem_append.mp h' with h | h
    · exact .inr ⟨p, List.mem_cons_self, h⟩
    · rcases List.mem_append.mp h with h | h
      · exact .inl (List.mem_singleton.mp h)
      · rcases joinL_mem h with h | ⟨x, hx, h⟩
        · exact .inl h
        · exact .inr ⟨x, List.mem_cons_of_mem _ hx, h⟩
theorem num_okc : ∀ i : Nat, i < 8 → (tl (numS (i : Int))).all okc = true ∧ tl (numS (i : Int)) ≠ [] ∧ (tl (numS (i : Int))).length = 1 := by decide +kernel
theorem wd_okc {r : Ph} (ok : r.Ok) : ∀ p ∈ r.wd, (tl p).all okc = true ∧ tl p ≠ [] := by
  intro p hp
  obtain ⟨hn, e1, l1⟩ := nat_of (i := r.hue) (k := 8) ok.h0 (by have := ok.h1; omega)
  obtain ⟨sn, e2, l2⟩ := nat_of (i := r.std) (k := 8) ok.s0 (by have := ok.s1; omega)
  have a1 := num_okc hn l1
  have a2 := num_okc sn l2
  rw [← e1] at a1
  rw [← e2] at a2
  have a3 : (tl r.bar.s).all okc = true ∧ tl r.bar.s ≠ [] := by cases r.bar <;> decide +kernel
  have b1 : (tl wV).all okc = true ∧ tl wV ≠ [] := by decide +kernel
  have b2 : (tl wP).all okc = true ∧ tl wP ≠ [] := by decide +kernel
  have b3 : (tl wS).all okc = true ∧ tl wS ≠ [] := by decide +kernel
  have b4 : (tl wK).all okc = true ∧ tl wK ≠ [] := by decide +kernel
  unfold Ph.wd Ph.tail at hp
  rcases List.mem_cons.mp hp with rfl | hp
  · exact ⟨a1.1, a1.2.1⟩
  rcases List.mem_cons.mp hp with rfl | hp
  · exact a3
  rcases List.mem_append.mp hp with hp | hp
  · split at hp
    · rw [List.mem_singleton.mp hp]; exact b1
    · cases hp
  rcases List.mem_append.mp hp with hp | hp
  · split at hp
    · rw [List.mem_singleton.mp hp]; exact b2
    · cases hp
  rcases List.mem_append.mp hp with hp | hp
  · split at hp
    · rcases List.mem_cons.mp hp with rfl | hp
      · exact b3
      · rw [List.mem_singleton.mp hp]; exact ⟨a2.1, a2.2.1⟩
    · cases hp
  · split at hp
    · rw [List.mem_singleton.mp hp]; exact b4
    · cases hp
theorem text_okc {r : Ph} (ok : r.Ok) : ∀ c ∈ tl r.rw.text, okc c = true := by
  intro c hc
  rw [text_wd, tl_join, tl_spc] at hc
  rcases joinL_mem hc with h | ⟨p, hp, h⟩
  · rw [h]; rfl
  · obtain ⟨w, hw, rfl⟩ := List.mem_map.mp hp
    exact List.all_eq_true.mp (wd_okc ok w hw).1 c h
theorem bd_char {x : Str} (c : Nat) (hl : x.length ≤ 10000) (hc : c ∈ tl x) (h : okc c = false) : Bd x :=
  ⟨hl, fun r ok e => by have := text_okc ok c (by rw [e]; exact hc); rw [h] at this; cases this⟩
theorem bd_words {x : Str} {us : List Str} (hl : x.length ≤ 10000) (e : x = Str.join spc us) (hn : us ≠ []) (hf : ∀ p ∈ us, 32 ∉ tl p) (h : readW us = none) : Bd x :=
  ⟨hl, fun r ok er => by
    have e2 : Txt.split x spc = us := by rw [e]; exact split_of hn hf
    rw [← er, text_split ok] at e2
    rw [← e2, readW_wd ok] at h; cases h⟩
theorem bd_empty {x : Str} (hl : x.length ≤ 10000) (h : [] ∈ spl [32] 0 [] (tl x)) : Bd x :=
  ⟨hl, fun r ok er => by
    have h2 := split_spl x spc (by rw [tl_spc]; simp) (kind_ok spc_low)
    rw [← er, text_split ok, tl_spc] at h2
    rw [← er, ← h2] at h
    obtain ⟨w, hw, e⟩ := List.mem_map.mp h
    exact (wd_okc ok w hw).2 e⟩
theorem joinL_cons2 (S p : List Nat) {l : List (List Nat)} (h : l ≠ []) : joinL S (p :: l) = p ++ (S ++ joinL S l) := by
  cases l with
  | nil => exact absurd rfl h
  | cons q r => rfl
/-- how long a phase's text is -/
theorem text_len {r : Ph} (ok : r.Ok) : r.rw.text.length ≤ 60 ∧ 2 ≤ r.rw.text.length := by
  obtain ⟨hn, e1, l1⟩ := nat_of (i := r.hue) (k := 8) ok.h0 (by have := ok.h1; omega)
  obtain ⟨sn, e2, l2⟩ := nat_of (i := r.std) (k := 8) ok.s0 (by have := ok.s1; omega)
  have a1 := (num_okc hn l1).2.2
  have a2 := (num_okc sn l2).2.2
  rw [← e1] at a1
  rw [← e2] at a2
  have a3 : (tl r.bar.s).length ≤ 8 := by cases r.bar <;> decide +kernel
  have a3' : r.bar.s.cps.size ≤ 8 := by simpa using a3
  have b1 : (tl wV).length = 6 := by decide +kernel
  have b2 : (tl wP).length = 6 := by decide +kernel
  have b3 : (tl wS).length = 5 := by decide +kernel
  have b4 : (tl wK).length = 5 := by decide +kernel
  have h := joinL_len (r.wd.map tl) (by unfold Ph.wd; simp)
  rw [text_wd, len_tl, tl_join, tl_spc]
  have hs : ((r.wd.map tl).map fun p : List Nat => p.length + 1).sum ≤ 60 ∧ 3 ≤ ((r.wd.map tl).map fun p : List Nat => p.length + 1).sum := by
    unfold Ph.wd Ph.tail
    constructor
    · split <;> split <;> split <;> split <;> simp [a1, a2, b1, b2, b3, b4] <;> omega
    · simp only [List.map_cons, List.sum_cons]; omega
  omega
theorem spc_in {r : Ph} : 32 ∈ tl r.rw.text := by
  rw [text_wd, tl_join, tl_spc]
  unfold Ph.wd
  rw [List.map_cons, joinL_cons2 _ _ (by simp)]
  simp
theorem repl_in (z : List Nat) : ∀ {l : List Nat}, 32 ∈ l → ∀ c ∈ z, c ∈ PySem.StrLaws.replL [32] z l
  | [], h, _, _ => by cases h
  | a :: r, h, c, hc => by
    by_cases e : a = 32
    · rw [PySem.StrLaws.replL_hit (by simp) (by rw [e]; rfl)]
      exact List.mem_append_left _ hc
    · rw [PySem.StrLaws.replL_miss (by simpa using e)]
      exact List.mem_cons_of_mem _ (repl_in z ((List.mem_cons.mp h).resolve_left (fun q => e q.symm)) c hc)
theorem repl_two : ∀ {l acc : List Nat}, 32 ∈ l → [] ∈ spl [32] 0 acc (PySem.StrLaws.replL [32] [32, 32] l)
  | [], _, h => by cases h
  | a :: r, acc, h => by
    by_cases e : a = 32
    · rw [PySem.StrLaws.replL_hit (by simp) (by rw [e]; rfl)]
      show [] ∈ spl [32] 0 acc (32 :: 32 :: _)
      rw [spl_hit (by simp [pre])]
      refine List.mem_cons_of_mem _ ?_
      show [] ∈ spl [32] 0 [] (32 :: _)
      rw [spl_hit (by simp [pre])]
      exact List.mem_cons_self
    · rw [PySem.StrLaws.replL_miss (by simpa using e), spl_miss (by simp [pre, e])]
      exact repl_two ((List.mem_cons.mp h).resolve_left (fun q => e q.symm))
theorem spl_end : ∀ (l acc : List Nat), [] ∈ spl [32] 0 acc (l ++ [32])
  | [], acc => by
    show [] ∈ spl [32] 0 acc (32 :: [])
    rw [spl_hit (by simp [pre])]
    refine List.mem_cons_of_mem _ ?_
    show [] ∈ spl [32] 0 [] []
    rw [spl_nil]; exact List.mem_cons_self
  | a :: r, acc => by
    by_cases e : a = 32
    · subst e
      show [] ∈ spl [32] 0 acc (32 :: (r ++ [32]))
      rw [spl_hit (by simp [pre])]
      exact List.mem_cons_of_mem _ (spl_end r [])
    · show [] ∈ spl [32] 0 acc (a :: (r ++ [32]))
      rw [spl_miss (by simp [pre, e])]
      exact spl_end r _
def Ph.head (r : Ph) : Str := numS r.hue ++ " " ++ r.bar.s
theorem head_join (r : Ph) (us : List Str) (hn : us ≠ []) : r.head ++ (" " ++ Str.join spc us) = Str.join spc (numS r.hue :: r.bar.s :: us) := by
  apply ext_tl
  unfold Ph.head
  rw [tl_append, tl_append, tl_append, tl_append, tl_join, tl_join, tl_spc, List.map_cons, List.map_cons, joinL_cons2 _ _ (by simp), joinL_cons2 _ _ (by simpa using hn)]
  have : tl (" " : Str) = [32] := by decide +kernel
  rw [this]; simp
theorem head_len {r : Ph} (ok : r.Ok) : r.head.length ≤ 12 := by
  obtain ⟨hn, e1, l1⟩ := nat_of (i := r.hue) (k := 8) ok.h0 (by have := ok.h1; omega)
  have a1 := (num_okc hn l1).2.2
  rw [← e1] at a1
  have a3 : (tl r.bar.s).length ≤ 8 := by cases r.bar <;> decide +kernel
  have : (tl (" " : Str)).length = 1 := by decide +kernel
  unfold Ph.head
  rw [len_tl, tl_append, tl_append, List.length_append, List.length_append]; omega

end Hue

set_option Elab.async false
set_option linter.all false
set_option maxRecDepth 100000
set_option maxHeartbeats 4000000
namespace Hue
open PySem PySem.Spec PyProof.Rows L2 TL
local macro_rules | `(tactic| walk_at "hp") => `(tactic| first
  | assumption
  | exact upd_same
  | (refine upd_old (by assumption) ?_; walk_at "hp")
  | (refine upd_oth (by assumption) ?_; walk_at "hp")
  | (refine same_get (by assumption) ?_; walk_at "hp")
  | (refine Fl.get (by assumption) (by assumption) ?_; walk_at "hp"))
local macro_rules | `(tactic| walk_at "seq") => `(tactic| first
  | assumption
  | exact T.t_BARRIERS _
  | exact SqL.of (by walk_at "hp")
  | exact SqT.of (by walk_at "hp"))
local macro_rules | `(tactic| walk_at "len") => `(tactic| first
  | exact Or.inl (by walk_at "seq")
  | exact Or.inr (by walk_at "seq"))
local macro_rules | `(tactic| walk_at "at") => `(tactic| first
  | rfl
  | assumption)

/-! ### the text of a book -/
def nlc : Str := "\n"
theorem tl_nlc : tl nlc = [10] := by decide +kernel
theorem nlc_low : nlc.cps.all (· < 256) = true := by decide +kernel
theorem join_splitN (t : Str) : Str.join nlc (Txt.split t nlc) = t := by
  apply ext_tl
  rw [tl_join, split_spl t nlc (by rw [tl_nlc]; simp) (kind_ok nlc_low), tl_nlc, joinL_spl]; rfl
theorem split_ofN {ws : List Str} (hne : ws ≠ []) (hp : ∀ p ∈ ws, 10 ∉ tl p) : Txt.split (Str.join nlc ws) nlc = ws := by
  rw [← join_eq]
  exact split_join (s := 10) (S := []) tl_nlc nlc_low hne hp
theorem joinL_len_mem {S p : List Nat} : ∀ {ps : List (List Nat)}, p ∈ ps → p.length ≤ (joinL S ps).length
  | [], h => by cases h
  | [q], h => by rw [List.mem_singleton.mp h]; simp [joinL]
  | q :: q2 :: r, h => by
    rw [joinL_cons2 _ _ (by simp), List.length_append, List.length_append]
    rcases List.mem_cons.mp h with rfl | h
    · omega
    · have := joinL_len_mem (S := S) h; omega
theorem line_len {t l : Str} (h : l ∈ Txt.split t nlc) : l.length ≤ t.length := by
  have e := join_splitN t
  rw [len_tl, len_tl t, ← e, tl_join]
  exact joinL_len_mem (List.mem_map_of_mem h)
theorem lines_ne (t : Str) : 1 ≤ (Txt.split t nlc).length := by
  have h := split_spl t nlc (by rw [tl_nlc]; simp) (kind_ok nlc_low)
  have h2 := congrArg List.length h
  rw [List.length_map] at h2
  rw [h2, tl_nlc]
  have : ∀ (l : List Nat) (acc : List Nat), 1 ≤ (spl [10] 0 acc l).length := by
    intro l
    induction l with
    | nil => intro acc; rw [spl_nil]; simp
    | cons a r ih =>
      intro acc
      by_cases e : a = 10
      · rw [e, spl_hit (by simp [pre])]; simp
      · rw [spl_miss (by simp [pre, e])]; exact ih _
  exact this _ _
def allPh : List Str → Option (List Ph)
  | [] => some []
  | l :: r => match readW (Txt.split l spc), allPh r with
    | some p, some ps => some (p :: ps)
    | _, _ => none
theorem allPh_none : ∀ {ls : List Str} {l : Str}, l ∈ ls → readW (Txt.split l spc) = none → allPh ls = none
  | [], _, h, _ => by cases h
  | a :: r, l, h, e => by
    rcases List.mem_cons.mp h with rfl | h
    · unfold allPh; rw [e]
    · unfold allPh; rw [allPh_none h e]; cases readW (Txt.split a spc) <;> rfl
theorem allPh_snoc : ∀ {ls : List Str} {ps : List Ph} {l : Str} {p : Ph}, allPh ls = some ps → readW (Txt.split l spc) = some p → allPh (ls ++ [l]) = some (ps ++ [p])
  | [], ps, l, p, h, e => by
    cases h
    show allPh [l] = _
    unfold allPh; rw [e]; rfl
  | a :: r, ps, l, p, h, e => by
    unfold allPh at h
    cases e1 : readW (Txt.split a spc) with
    | none => rw [e1] at h; cases h
    | some q =>
      cases e2 : allPh r with
      | none => rw [e1, e2] at h; cases h
      | some qs =>
        rw [e1, e2] at h
        cases h
        show allPh (a :: (r ++ [l])) = _
        unfold allPh
        rw [e1, allPh_snoc e2 e]; rfl
theorem allPh_len : ∀ {ls : List Str} {ps : List Ph}, allPh ls = some ps → ps.length = ls.length
  | [], ps, h => by cases h; rfl
  | a :: r, ps, h => by
    unfold allPh at h
    cases e1 : readW (Txt.split a spc) with
    | none => rw [e1] at h; cases h
    | some q =>
      cases e2 : allPh r with
      | none => rw [e1, e2] at h; cases h
      | some qs =>
        rw [e1, e2] at h
        cases h
        rw [List.length_cons, List.length_cons, allPh_len e2]
theorem allPh_ok : ∀ {ls : List Str} {ps : List Ph}, allPh ls = some ps → ∀ p ∈ ps, p.Ok
  | [], ps, h, p, hp => by cases h; cases hp
  | a :: r, ps, h, p, hp => by
    unfold allPh at h
    cases e1 : readW (Txt.split a spc) with
    | none => rw [e1] at h; cases h
    | some q =>
      cases e2 : allPh r with
      | none => rw [e1, e2] at h; cases h
      | some qs =>
        rw [e1, e2] at h
        cases h
        rcases List.mem_cons.mp hp with rfl | hp
        · exact (readW_ok e1).1
        · exact allPh_ok e2 p hp
theorem line_some {l : Str} {p : Ph} (h : readW (Txt.split l spc) = some p) : p.Ok ∧ p.rw.text = l := by
  obtain ⟨ok, e⟩ := readW_ok h
  exact ⟨ok, text_of_wd e⟩
theorem line_none {l : Str} (h : readW (Txt.split l spc) = none) : ∀ p : Ph, p.Ok → p.rw.text ≠ l := fun p ok e => by
  rw [← e, text_split ok, readW_wd ok] at h; cases h
def spBkParse (K : PySem.W.Frag) : Sp := fun vs H Q E => ∃ t : Str, vs = [.ref (gad "Book" K), .str t] ∧ t.length ≤ 10000 ∧
  ((Txt.split t nlc).length ≤ 6 → ∀ rs, allPh (Txt.split t nlc) = some rs → ∀ b l H', H b = none → Same H H' → BkAt K H' b l rs → Q (.ref b) H') ∧
  ((Txt.split t nlc).length ≤ 6 → allPh (Txt.split t nlc) = none → EBad K H E "text") ∧
  (6 < (Txt.split t nlc).length → ∀ H', Same H H' → E (.ref (gad "BadBook" K)) none H')
theorem ebad_sm {K : PySem.W.Frag} {H H1 : Hp} {E : XK} {f : Str} (h : EBad K H E f) (e : Same H H1) : EBad K H1 E f := fun dd H' nd S hd => h dd H' (e.free nd) (e.trans S) hd
section
variable {P : Program} [SupP P pFile] {w : World} {K : PySem.W.Frag} {mg : Str → Option Value} {base : Heap}
theorem fr_Phase_parse (T : Tx K mg) : FnR P w K mg base (L2.CX P w) 6 (pad "classmethod" "Phase" "parse" K) (spParse K) := fnr_of (ok_Phase_parse T) (bd_Phase_parse T)
theorem ok_Book_parse (T : Tx K mg) : FnOk P w K mg base (L2.CX P w) 8 (pad "classmethod" "Book" "parse" K) (fdD K (pad "classmethod" "Book" "parse" K)) P_Book_parse (spBkParse K) := by
  refine T.F_Book_parse.ok sc_Book_parse (fun vs H Q E h => ?_) (fun cdv A outer s H vs Q E hr h => ?_)
  · obtain ⟨t, rfl, _⟩ := h; rfl
  · obtain ⟨t, rfl, hl, k1, k2, k3⟩ := h
    obtain ⟨uM, hM⟩ := T.cv_Book_MOST
    refine ⟨_, (pss_cons (ps_set (i := 2) sc_Book_parse.nd rfl (Or.inl rfl) (pe_split (pv 1) pe_str))
      (pss_cons (ps_if (pt_cmpR op_gt (pe_callB call_len_seq (by rfl) T.n_len (by decide +kernel) (pa_cons (pv 2) pa_nil)) (ClX.pe_cval (pe_gr rfl T.g_Book)) (nomark _)) (pss_one (ps_raise rfl (takes_of rfl rfl rfl rfl) (pmk_own PySem.F.excBase_ValueError T.x_BadBook.1 T.g_BadBook T.x_BadBook.2.1 (raises_own T.x_BadBook.2.2.1 T.x_BadBook.2.2.2) rfl))) pss_nil)
      (pss_cons (ps_setLcX (i := 3) rfl rfl (takes_of rfl rfl rfl rfl) (own := [("line", 4)]) (g := gName 4) (tt := tYes) rfl sc_Book_parse.nd rfl rfl (sw_true rfl rfl rfl (by decide +kernel)) (pi_list (pv 2)) (blkOk_by (own := [("line", 4)]) (N := N_Book_parse) (sc := defScope s_Book_parse) (by decide +kernel)) (fun _ _ _ _ _ => (pg_name (i := 4) sc_Book_parse.nd rfl (Or.inl rfl))) (fun _ _ _ _ _ => pts_nil) (fun _ _ _ _ _ => (ClX.pe_cmeth (pe_gr rfl T.g_Phase) T.cr_Phase T.cm_Phase_parse (fr_Phase_parse (P := P) T) (hr.mono (by decide)) passB (pa_cons (pv 4) pa_nil))))
      (pss_one (ps_ret (pe_makeLS (i := 0) T.mk_Book (fr_Book_init (P := P) T) (hr.mono (by decide)) (passes_call (takes_of rfl rfl rfl rfl) (fun _ _ _ _ z => z)) rfl (by first | exact Or.inl rfl | exact Or.inr (Or.inl rfl)) (pv 3))))))), ?_⟩
    have hz : t.length + 2 ≤ sizeLine := Nat.le_trans (show t.length + 2 ≤ 10002 by omega) (by decide)
    have hl2 := fun l => line_len (t := t) (l := l)
    have n1 := lines_ne t
    generalize els : Txt.split t nlc = ls at k1 k2 k3 hl2 n1
    refine ⟨_, rfl, ⟨_, rfl⟩, t, nlc, rfl, rfl, (by decide +kernel), hz, fun l nl => ?_⟩
    rw [els]
    have hl1 : L2.upd H l (.lst (ls.map V.str)) l = some (.lst (ls.map V.str)) := upd_same
    have S1 : Same H (L2.upd H l (.lst (ls.map V.str))) := Same.new nl
    generalize L2.upd H l (.lst (ls.map V.str)) = H1 at hl1 S1 ⊢
    have ln : ((ls.map V.str).length : Int) = (ls.length : Int) := by rw [List.length_map]
    refine ⟨_, rfl, l, _, rfl, .inl (SqL.of hl1), _, _, _, uM, rfl, T.cr_Book, hM, _, _, rfl, rfl, _, rfl, ?_⟩
    by_cases many : 6 < ls.length
    · refine iteD (by rw [ln]; omega) ?_
      exact k3 many _ S1
    refine iteDN (by rw [ln]; omega) ?_
    have few : ls.length ≤ 6 := by omega
    refine ⟨_, rfl, l, rfl, ⟨_, SqL.of hl1⟩, fun D nD => ?_⟩
    refine lc_list (xs := ls.map V.str) (fun i H' => ∃ qs, PsAt K H' D qs ∧ Same H1 H' ∧ allPh (ls.take i) = some qs) ⟨[], PsAt.nil, Same.new nD, rfl⟩ (fun i H' _ ⟨_, _, S, _⟩ => SqL.of (S _ _ hl1)) ?_ ?_
    · rintro i y H2 hi ⟨qs, p1, S2, ap⟩
      rw [List.getElem?_map] at hi
      obtain ⟨z, hzi, rfl⟩ := Option.map_eq_some_iff.mp hi
      have zl : z.length ≤ 10000 := Nat.le_trans (hl2 z (List.mem_of_getElem? hzi)) hl
      refine ⟨rfl, ?_⟩
      refine yesT (iteT ?_)
      refine ⟨rfl, _, rfl, z, rfl, zl, fun r ok er y H3 ny S3 R3 => ?_, fun no => ?_⟩
      · have rd : readW (Txt.split z spc) = some r := by rw [← er, text_split ok, readW_wd ok]
        obtain ⟨xs, q1, q2, q3⟩ := (p1.mono S3).snoc (r := r) R3
        have e2 := allPh_len ap
        rw [List.length_take] at e2
        refine ⟨xs, q1, small1000 (by omega), qs ++ [r], q3, Same.upd (S2.trans S3) nD, ?_⟩
        rw [show ls.take (i + 1) = ls.take i ++ [z] by rw [List.take_succ, hzi]; rfl]
        exact allPh_snoc ap rd
      · have rd : readW (Txt.split z spc) = none := by
          cases e : readW (Txt.split z spc) with
          | none => rfl
          | some p => exact absurd (line_some e).2 (no p (line_some e).1)
        exact ebad_sm (k2 few (allPh_none (List.mem_of_getElem? hzi) rd)) (S1.trans S2)
    · rintro H2 ⟨qs, p1, S2, ap⟩
      rw [List.length_map, List.take_length] at ap
      have e2 := allPh_len ap
      obtain ⟨bs, q1, q2, q3⟩ := id p1
      have len7 : (bs.map V.ref).length ≤ 6 := by rw [List.length_map]; omega
      have len1 : 1 ≤ (bs.map V.ref).length := by rw [List.length_map]; omega
      refine ⟨rfl, _, rfl, D, bs.map V.ref, rfl, .inr (SqL.of q1), fun b dx nb nd ne => ?_⟩
      refine ⟨[.ref b], bs.map V.ref, rfl, rfl, Nat.le_trans len7 (by decide), fun p np => ?_⟩
      have bp : b ≠ p := fun z => by rw [z, upd_same] at np; cases np
      have S3 : Same H2 (L2.upd (L2.upd (L2.upd H2 dx (.own b)) b (.ins (gad "Book" K) dx [])) p (.tup (bs.map V.ref))) := Same.upd (Same.upd (Same.new nd) nb) (Same.free (Same.upd (Same.new nd) nb) np)
      refine ⟨b, dx, p, bs.map V.ref, rfl, upd_oth bp upd_same, upd_same, fun hv l2 H' nl2 fl hb hl' => ⟨rfl, ?_⟩, fun hv => absurd ⟨len1, len7⟩ hv⟩
      have S4 : Same H2 H' := fun a o ha => fl a o (ne_of_none ha nb) (S3 a o ha)
      have S04 : Same H H' := (S1.trans S2).trans S4
      refine k1 few qs ap b l2 H' (((S1.trans S2)).free nb) S04 ?_
      exact ⟨⟨dx, hb⟩, ⟨bs, hl', q2, fun i a r ha hr' => (q3 i a r ha hr').same S4⟩, by omega, by omega, allPh_ok ap⟩
theorem fr_Book_parse (T : Tx K mg) : FnR P w K mg base (L2.CX P w) 8 (pad "classmethod" "Book" "parse" K) (spBkParse K) := fnr_of (ok_Book_parse T) (bd_Book_parse T)
end

end Hue

set_option Elab.async false
set_option linter.all false
set_option maxRecDepth 100000
set_option maxHeartbeats 4000000
namespace Hue
open PySem PySem.Spec PyProof.Rows L2 TL
local macro_rules | `(tactic| walk_at "hp") => `(tactic| first
  | assumption
  | exact upd_same
  | (refine upd_old (by assumption) ?_; walk_at "hp")
  | (refine upd_oth (by assumption) ?_; walk_at "hp")
  | (refine same_get (by assumption) ?_; walk_at "hp")
  | (refine Fl.get (by assumption) (by assumption) ?_; walk_at "hp"))
local macro_rules | `(tactic| walk_at "seq") => `(tactic| first
  | assumption
  | exact T.t_BARRIERS _
  | exact SqL.of (by walk_at "hp")
  | exact SqT.of (by walk_at "hp"))
local macro_rules | `(tactic| walk_at "len") => `(tactic| first
  | exact Or.inl (by walk_at "seq")
  | exact Or.inr (by walk_at "seq"))
local macro_rules | `(tactic| walk_at "at") => `(tactic| first
  | rfl
  | assumption)

/-! ### rows as data -/
def phD (r : Ph) : PyData := .tuple [.int r.hue, .str r.bar.s, .bool r.vis, .bool r.pau, .int r.std, .bool r.skp]
theorem bar_inj {a b : Bar} (h : a.s = b.s) : a = b := by
  revert h
  cases a <;> cases b <;> first | (intro _; rfl) | (intro z; exact absurd z (by decide +kernel))
theorem phD_eqv (x y : Ph) : PyData.eqv (phD x) (phD y) = decide (x = y) := by
  obtain ⟨a1, a2, a3, a4, a5, a6⟩ := x
  obtain ⟨b1, b2, b3, b4, b5, b6⟩ := y
  have e : PyData.eqv (phD ⟨a1, a2, a3, a4, a5, a6⟩) (phD ⟨b1, b2, b3, b4, b5, b6⟩) = ((a1 == b1) && ((a2.s == b2.s) && ((a3 == b3) && ((a4 == b4) && ((a5 == b5) && ((a6 == b6) && true)))))) := by simp only [phD, PyData.eqv, PyData.eqvAll]
  rw [e, Bool.eq_iff_iff]
  simp only [Bool.and_true, Bool.and_eq_true, beq_iff_eq, decide_eq_true_eq, Ph.mk.injEq]
  constructor
  · rintro ⟨h1, h2, h3, h4, h5, h6⟩
    exact ⟨h1, bar_inj h2, h3, h4, h5, h6⟩
  · rintro ⟨h1, h2, h3, h4, h5, h6⟩
    exact ⟨h1, by rw [h2], h3, h4, h5, h6⟩
theorem phDs_eqv : ∀ xs ys : List Ph, PyData.eqvAll (xs.map phD) (ys.map phD) = decide (xs = ys)
  | [], [] => by simp [PyData.eqvAll]
  | [], y :: ys => by simp [PyData.eqvAll]
  | x :: xs, [] => by simp [PyData.eqvAll]
  | x :: xs, y :: ys => by
    rw [List.map_cons, List.map_cons, PyData.eqvAll, phD_eqv, phDs_eqv xs ys, Bool.eq_iff_iff]
    simp
theorem phD_lay (x : Ph) : (phD x).canLay0 = true := by
  obtain ⟨a1, a2, a3, a4, a5, a6⟩ := x
  have h : PyData.strOk a2.s = true := by cases a2 <;> decide +kernel
  simp only [phD, PyData.canLay0, PyData.canLayAll0, Bool.and_true, Bool.true_and]
  exact h
theorem phD_depth (x : Ph) : (phD x).depth = 1 := by simp [phD, PyData.depth, PyData.depthAll]
theorem phDs_lay : ∀ xs : List Ph, PyData.canLayAll0 (xs.map phD) = true
  | [] => by simp [PyData.canLayAll0]
  | x :: xs => by
    simp only [List.map_cons, PyData.canLayAll0, Bool.and_eq_true]
    exact ⟨phD_lay x, phDs_lay xs⟩
theorem phDs_depth : ∀ xs : List Ph, PyData.depthAll (xs.map phD) ≤ 1
  | [] => by simp [PyData.depthAll]
  | x :: xs => by
    have h1 := phDs_depth xs
    have h2 := phD_depth x
    simp only [List.map_cons, PyData.depthAll]
    omega
theorem phDs_shaped (xs : List Ph) : SeqAt.shaped (.list (xs.map phD)) = true := by
  have h1 := phDs_depth xs
  have h2 : PyData.depth (.list (xs.map phD)) ≤ 64 := by
    simp only [PyData.depth]
    omega
  show (PyData.canLay0 (.list (xs.map phD)) && decide (PyData.depth (.list (xs.map phD)) ≤ 64)) = true
  rw [Bool.and_eq_true]
  exact ⟨by simp only [PyData.canLay0]; exact phDs_lay xs, decide_eq_true h2⟩
theorem phDp {K : PySem.W.Frag} {H : Hp} {t : Addr} {r : Ph} (h : H t = some (.tup r.vs)) : Dp K H (.ref t) (phD r) :=
  .tup (SqT.of h) (.cons (.int _) (.cons (.str _) (.cons (.bl _) (.cons (.bl _) (.cons (.int _) (.cons (.bl _) .nil))))))
theorem RowsAt.dp {K : PySem.W.Frag} {H : Hp} {a : Addr} {rs : List Ph} (h : RowsAt H a rs) : Dp K H (.ref a) (.list (rs.map phD)) := by
  obtain ⟨⟨ts, h1, h2, h3⟩, _⟩ := h
  refine .lst (SqL.of h1) ?_
  have go : ∀ (ts : List Addr) (rs : List Ph), ts.length = rs.length → (∀ (i : Nat) (t : Addr) (r : Ph), ts[i]? = some t → rs[i]? = some r → H t = some (.tup r.vs)) → DpAll K H (ts.map V.ref) (rs.map phD) := by
    intro ts
    induction ts with
    | nil =>
      intro rs e _
      cases rs with
      | nil => exact .nil
      | cons r rs => cases e
    | cons t ts ih =>
      intro rs e h
      cases rs with
      | nil => cases e
      | cons r rs => exact .cons (phDp (h 0 t r rfl rfl)) (ih rs (by simpa using e) fun i t' r' h1 h2 => h (i + 1) t' r' h1 h2)
  exact go ts rs h2 fun i t r a b => h3 i t r a b

/-! ### _law_read_all -/
def spReadAll (K : PySem.W.Frag) : Sp := fun vs H Q _ => ∃ t : Str, vs = [.str t] ∧ t.length ≤ 10000 ∧
  (6 < (Txt.split t nlc).length → ∀ H', Same H H' → Q (.str "book") H') ∧
  ((Txt.split t nlc).length ≤ 6 → allPh (Txt.split t nlc) = none → ∀ H', Same H H' → Q (.str "text") H') ∧
  ((Txt.split t nlc).length ≤ 6 → ∀ rs, allPh (Txt.split t nlc) = some rs → ∀ a H', H a = none → Same H H' → RowsAt H' a rs → Q (.ref a) H')
def rdD (l : Str) : PyData := match readW (Txt.split l spc) with | some p => phD p | none => .none
theorem rdD_lay (l : Str) : (rdD l).canLay0 = true ∧ (rdD l).depth ≤ 1 := by
  unfold rdD
  cases readW (Txt.split l spc) with
  | none => exact ⟨rfl, Nat.zero_le _⟩
  | some p => exact ⟨phD_lay p, Nat.le_of_eq (phD_depth p)⟩
theorem rds_shaped (ls : List Str) : SeqAt.shaped (.list (ls.map rdD)) = true := by
  have h1 : ∀ ls : List Str, PyData.canLayAll0 (ls.map rdD) = true ∧ PyData.depthAll (ls.map rdD) ≤ 1 := by
    intro ls
    induction ls with
    | nil => exact ⟨by simp [PyData.canLayAll0], by simp [PyData.depthAll]⟩
    | cons a r ih =>
      refine ⟨?_, ?_⟩
      · simp only [List.map_cons, PyData.canLayAll0, Bool.and_eq_true]
        exact ⟨(rdD_lay a).1, ih.1⟩
      · simp only [List.map_cons, PyData.depthAll]
        have := (rdD_lay a).2
        have := ih.2
        omega
  have h2 : PyData.depth (.list (ls.map rdD)) ≤ 64 := by
    simp only [PyData.depth]
    have := (h1 ls).2
    omega
  show (PyData.canLay0 (.list (ls.map rdD)) && decide (PyData.depth (.list (ls.map rdD)) ≤ 64)) = true
  rw [Bool.and_eq_true]
  exact ⟨by simp only [PyData.canLay0]; exact (h1 ls).1, decide_eq_true h2⟩
theorem rdD_non (l : Str) : PyData.eqv (rdD l) .none = decide (readW (Txt.split l spc) = none) := by
  unfold rdD
  cases readW (Txt.split l spc) with
  | none => rfl
  | some p => rfl
theorem rds_any : ∀ ls : List Str, (ls.map rdD).any (fun z => PyData.eqv z .none) = decide (allPh ls = none)
  | [] => by simp [allPh]
  | a :: r => by
    rw [List.map_cons, List.any_cons, rdD_non, rds_any r]
    have e : allPh (a :: r) = match readW (Txt.split a spc), allPh r with
      | some p, some ps => some (p :: ps)
      | _, _ => none := by
      conv => lhs; unfold allPh
      all_goals (cases readW (Txt.split a spc) <;> cases allPh r <;> rfl)
    rw [e]
    cases readW (Txt.split a spc) <;> cases allPh r <;> rfl
/-- the values that stand for the lines: the row, or None -/
def RdV (H : Hp) : V → Str → Prop := fun v l => match readW (Txt.split l spc) with | some p => ∃ t, v = .ref t ∧ H t = some (.tup p.vs) | none => v = .non
theorem RdV.mono {H H' : Hp} {v : V} {l : Str} (h : RdV H v l) (e : Same H H') : RdV H' v l := by
  unfold RdV at *
  cases e0 : readW (Txt.split l spc) with
  | none => rw [e0] at h; exact h
  | some p => rw [e0] at h; obtain ⟨t, h1, h2⟩ := h; exact ⟨t, h1, e _ _ h2⟩
theorem RdV.dp {K : PySem.W.Frag} {H : Hp} {v : V} {l : Str} (h : RdV H v l) : Dp K H v (rdD l) := by
  unfold RdV at h
  unfold rdD
  cases e : readW (Txt.split l spc) with
  | none => rw [e] at h; cases h; exact .non
  | some p => rw [e] at h; obtain ⟨t, rfl, h2⟩ := h; exact phDp h2
theorem rdv_dps {K : PySem.W.Frag} {H : Hp} : ∀ {vs : List V} {ls : List Str}, Paired (RdV H) vs ls → DpAll K H vs (ls.map rdD)
  | _, _, .nil => .nil
  | _, _, .cons h r => .cons h.dp (rdv_dps r)
theorem RdV.cell {H : Hp} {v : V} {l : Str} {D : Addr} {xs ys : List V} (h : RdV H v l) (e : H D = some (.lst xs)) : RdV (L2.upd H D (.lst ys)) v l := by
  unfold RdV at *
  cases e0 : readW (Txt.split l spc) with
  | none => rw [e0] at h; exact h
  | some p => rw [e0] at h; obtain ⟨t, h1, h2⟩ := h; exact ⟨t, h1, upd_oth (ne_of h2 e (by intro z; cases z)) h2⟩
theorem paired_map {α β : Type} {F G : α → β → Prop} (f : ∀ a b, F a b → G a b) : ∀ {l₁ : List α} {l₂ : List β}, Paired F l₁ l₂ → Paired G l₁ l₂
  | _, _, .nil => .nil
  | _, _, .cons h r => .cons (f _ _ h) (paired_map f r)
theorem paired_snoc {α β : Type} {F : α → β → Prop} {x : α} {y : β} (h' : F x y) : ∀ {l₁ : List α} {l₂ : List β}, Paired F l₁ l₂ → Paired F (l₁ ++ [x]) (l₂ ++ [y])
  | _, _, .nil => .cons h' .nil
  | _, _, .cons h r => .cons h (paired_snoc h' r)
theorem rdv_rows {H : Hp} : ∀ {vs : List V} {ls : List Str} {rs : List Ph}, Paired (RdV H) vs ls → allPh ls = some rs → ∃ ts : List Addr, vs = ts.map V.ref ∧ ts.length = rs.length ∧ ∀ (i : Nat) (t : Addr) (r : Ph), ts[i]? = some t → rs[i]? = some r → H t = some (.tup r.vs)
  | _, _, _, .nil, h => by cases h; exact ⟨[], rfl, rfl, fun i t r h => by simp at h⟩
  | _, _, _, .cons (a := v) (b := l) h r, e => by
    unfold allPh at e
    unfold RdV at h
    cases e1 : readW (Txt.split l spc) with
    | none => rw [e1] at e; cases e
    | some q =>
      rw [e1] at e h
      obtain ⟨t, rfl, ht⟩ := h
      revert e
      cases e2 : allPh _ with
      | none => intro e; cases e
      | some qs =>
        intro e
        cases e
        obtain ⟨ts, h1, h2, h3⟩ := rdv_rows r e2
        refine ⟨t :: ts, by rw [h1]; rfl, by rw [List.length_cons, List.length_cons, h2], fun i t' r' g1 g2 => ?_⟩
        match i, g1, g2 with
        | 0, g1, g2 => cases g1; cases g2; exact ht
        | i + 1, g1, g2 => exact h3 i t' r' g1 g2
section
variable {P : Program} [SupP P pFile] {w : World} {K : PySem.W.Frag} {mg : Str → Option Value} {base : Heap}
theorem ok_l_read_all (T : Tx K mg) : FnOk P w K mg base CX0 3 (gad "_law_read_all" K) (fdD K (gad "_law_read_all" K)) P_l_read_all (spReadAll K) := by
  refine T.F_l_read_all.ok sc_l_read_all (fun vs H Q E h => ?_) (fun cdv A outer s H vs Q E hr h => ?_)
  · obtain ⟨t, rfl, _⟩ := h; rfl
  · obtain ⟨t, rfl, hl, k1, k2, k3⟩ := h
    refine ⟨_, PSs.nox ((pss_cons (ps_set (i := 1) sc_l_read_all.nd rfl (Or.inl rfl) (pe_split (pv 0) pe_str))
      (pss_cons (ps_if (pt_cmpR op_gt (pe_callB call_len_seq (by rfl) T.n_len (by decide +kernel) (pa_cons (pv 1) pa_nil)) pe_int (nomark _)) (pss_one (ps_ret pe_str)) pss_nil)
      (pss_cons (ps_setLc (i := 2) (own := [("_law_line", 3)]) (g := gName 3) (tt := tYes) rfl sc_l_read_all.nd rfl rfl (sw_true rfl rfl rfl (by decide +kernel)) (pi_list (pv 1)) (blkOk_by (own := [("_law_line", 3)]) (N := N_l_read_all) (sc := defScope s_l_read_all) (by decide +kernel)) (fun _ _ _ _ _ => (pg_name (i := 3) sc_l_read_all.nd rfl (Or.inl rfl))) (fun _ _ _ _ _ => pts_nil) (fun _ _ _ _ _ => (pe_call (ok_l_read (P := P) T) (hr.mono (by decide)) rfl T.g_l_read T.F_l_read.kp (bd_l_read T) .nil pass0 (pa_cons (pv 3) pa_nil))))
      (pss_cons (ps_if (pt_cmpR (op_inDK (K := K) rfl (room65 hr)) pe_non (pv 2) (by rfl)) (pss_one (ps_ret pe_str)) pss_nil)
      (pss_one (ps_ret (pv 2)))))))), ?_⟩
    have hz : t.length + 2 ≤ sizeLine := Nat.le_trans (show t.length + 2 ≤ 10002 by omega) (by decide)
    have hl2 := fun l => line_len (t := t) (l := l)
    have n1 := lines_ne t
    generalize els : Txt.split t nlc = ls at k1 k2 k3 hl2 n1
    refine ⟨_, rfl, ⟨_, rfl⟩, t, nlc, rfl, rfl, (by decide +kernel), hz, fun l nl => ?_⟩
    rw [els]
    have hl1 : L2.upd H l (.lst (ls.map V.str)) l = some (.lst (ls.map V.str)) := upd_same
    have S1 : Same H (L2.upd H l (.lst (ls.map V.str))) := Same.new nl
    generalize L2.upd H l (.lst (ls.map V.str)) = H1 at hl1 S1 ⊢
    have ln : ((ls.map V.str).length : Int) = (ls.length : Int) := by rw [List.length_map]
    refine ⟨_, rfl, l, _, rfl, .inl (SqL.of hl1), _, _, rfl, rfl, _, rfl, ?_⟩
    by_cases many : 6 < ls.length
    · refine iteD (by rw [ln]; omega) ?_
      exact k1 many _ S1
    refine iteDN (by rw [ln]; omega) ?_
    have few : ls.length ≤ 6 := by omega
    refine ⟨_, rfl, l, rfl, ⟨_, SqL.of hl1⟩, fun D nD => ?_⟩
    refine lc_list (xs := ls.map V.str) (fun i H' => ∃ vs, H' D = some (.lst vs) ∧ Paired (RdV H') vs (ls.take i) ∧ vs.length = i ∧ Same H1 H') ⟨[], upd_same, .nil, rfl, Same.new nD⟩ (fun i H' _ ⟨_, _, _, _, S⟩ => SqL.of (S _ _ hl1)) ?_ ?_
    · rintro i y H2 hi ⟨vs, hD, pr, lv, S2⟩
      have i6 := (List.getElem?_eq_some_iff.mp hi).1
      rw [List.length_map] at i6
      rw [List.getElem?_map] at hi
      obtain ⟨z, hzi, rfl⟩ := Option.map_eq_some_iff.mp hi
      have zl : z.length ≤ 10000 := Nat.le_trans (hl2 z (List.mem_of_getElem? hzi)) hl
      have fin : ∀ (v : V) (H3 : Hp), Same H2 H3 → RdV H3 v z → ∃ ws, (L2.upd H3 D (.lst (vs ++ [v]))) D = some (.lst ws) ∧ Paired (RdV (L2.upd H3 D (.lst (vs ++ [v])))) ws (ls.take (i + 1)) ∧ ws.length = i + 1 ∧ Same H1 (L2.upd H3 D (.lst (vs ++ [v]))) := fun v H3 S3 hv => by
        refine ⟨vs ++ [v], upd_same, ?_, by rw [List.length_append, lv]; rfl, Same.upd (S2.trans S3) nD⟩
        rw [show ls.take (i + 1) = ls.take i ++ [z] by rw [List.take_succ, hzi]; rfl]
        exact paired_map (fun a b q => RdV.cell q (S3 _ _ hD)) (paired_snoc hv (paired_map (fun a b q => RdV.mono q S3) pr))
      refine ⟨rfl, ?_⟩
      refine yesT (iteT ?_)
      refine ⟨_, rfl, z, rfl, zl, fun r ok er p H3 np S3 hp => ?_, fun no H3 S3 => ?_⟩
      · have rd : readW (Txt.split z spc) = some r := by rw [← er, text_split ok, readW_wd ok]
        exact ⟨vs, S3 _ _ hD, small1000 (by omega), fin _ _ S3 (by unfold RdV; rw [rd]; exact ⟨p, rfl, hp⟩)⟩
      · have rd : readW (Txt.split z spc) = none := by
          cases e : readW (Txt.split z spc) with
          | none => rfl
          | some p => exact absurd (line_some e).2 (no p (line_some e).1)
        exact ⟨vs, S3 _ _ hD, small1000 (by omega), fin _ _ S3 (by unfold RdV; rw [rd])⟩
    · rintro H2 ⟨vs, hD, pr, lv, S2⟩
      rw [List.length_map, List.take_length] at pr
      refine ⟨_, rfl, .none, ls.map rdD, .non, .lst (SqL.of hD) (rdv_dps pr), rfl, rds_shaped ls, _, rfl, ?_⟩
      rw [rds_any ls]
      cases ap : allPh ls with
      | none => exact iteT (k2 few ap _ (S1.trans S2))
      | some rs =>
        refine iteF ?_
        obtain ⟨ts, e1, e2, e3⟩ := rdv_rows pr ap
        refine ⟨_, rfl, ?_⟩
        refine k3 few rs ap D _ (S1.free nD) (S1.trans S2) ?_
        exact ⟨⟨ts, by rw [← e1]; exact hD, e2, e3⟩, allPh_ok ap⟩
end

end Hue

set_option Elab.async false
set_option linter.all false
set_option maxRecDepth 100000
set_option maxHeartbeats 4000000
namespace Hue
open PySem PySem.Spec PyProof.Rows L2 TL
local macro_rules | `(tactic| walk_at "hp") => `(tactic| first
  | assumption
  | exact upd_same
  | (refine upd_old (by assumption) ?_; walk_at "hp")
  | (refine upd_oth (by assumption) ?_; walk_at "hp")
  | (refine same_get (by assumption) ?_; walk_at "hp")
  | (refine Fl.get (by assumption) (by assumption) ?_; walk_at "hp"))
local macro_rules | `(tactic| walk_at "seq") => `(tactic| first
  | assumption
  | exact T.t_BARRIERS _
  | exact SqL.of (by walk_at "hp")
  | exact SqT.of (by walk_at "hp"))
local macro_rules | `(tactic| walk_at "len") => `(tactic| first
  | exact Or.inl (by walk_at "seq")
  | exact Or.inr (by walk_at "seq"))
local macro_rules | `(tactic| walk_at "at") => `(tactic| first
  | rfl
  | assumption)

/-! ### _law_parsed of a book's text -/
def spParsedB : Sp := fun vs H Q _ => ∃ t : Str, vs = [.str t] ∧ t.length ≤ 10000 ∧ ∀ H', Same H H' → Q (.bl true) H'
section
variable {P : Program} [SupP P pFile] [SupP P pFile] {w : World} {K : PySem.W.Frag} {mg : Str → Option Value} {base : Heap}
theorem ok_l_parsed (T : Tx K mg) : FnOk P w K mg base CX0 10 (gad "_law_parsed" K) (fdD K (gad "_law_parsed" K)) P_l_parsed spParsedB := by
  refine T.F_l_parsed.ok sc_l_parsed (fun vs H Q E h => ?_) (fun cdv A outer s H vs Q E hr h => ?_)
  · obtain ⟨t, rfl, _⟩ := h; rfl
  · obtain ⟨t, rfl, hl, k⟩ := h
    refine ⟨_, PSs.nox ((pss_cons (ps_set (i := 1) sc_l_parsed.nd rfl (Or.inl rfl) (pe_call (ok_l_read_all (P := P) T) (hr.mono (by decide)) rfl T.g_l_read_all T.F_l_read_all.kp (bd_l_read_all T) .nil pass0 (pa_cons (pv 0) pa_nil)))
      (pss_cons (ps_try_val (c := .ref (gad "RoundError" K)) rfl rfl sc_l_parsed.nd (i := 3) rfl rfl ⟨rfl, by decide, .inl T.g_RoundError⟩ takes0 (fun W pn xe tk hp => (pss_one (ps_set (i := 2) sc_l_parsed.nd rfl (Or.inl rfl) (pe_cmethSK (K := K) rfl (pe_gr rfl T.g_Book) T.cr_Book T.cm_Book_parse (fr_Book_parse (P := P) T) (hr.mono (by decide)) tk (pa_cons (pv 0) pa_nil))))) (fun a pn => (pss_cons (ps_if (pt_val (pe_callX (okS_l_bad_book (P := P) T) (roomS (hr.mono (by decide))) rfl T.g_l_bad_book T.F_l_bad_book.kp (bd_l_bad_book T) (pa_cons (pv 3) pa_nil))) (pss_one (ps_ret (pe_cmpR op_eq (pv 1) pe_str (nomark _)))) pss_nil)
      (pss_one (ps_ret (pe_and (pe_cmpR op_eq (pv 1) pe_str (nomark _)) (pe_one (pe_cmpR op_eq (pe_callX (okS_l_field (P := P) T) (roomS (hr.mono (by decide))) rfl T.g_l_field T.F_l_field.kp (bd_l_field T) (pa_cons (pv 3) pa_nil)) pe_str (nomark _)))))))))
      (pss_one (ps_ret (pe_and (pe_callB call_isi (by rfl) T.n_isinstance (by decide +kernel) (pa_cons (pv 1) (pa_cons (pe_bty "list" rfl T.n_list (by decide +kernel)) pa_nil))) (pe_one (pe_call (ok_l_same_book (P := P) T) (hr.mono (by decide)) rfl T.g_l_same_book T.F_l_same_book.kp (bd_l_same_book T) .nil pass0 (pa_cons (pv 2) (pa_cons (pv 1) pa_nil)))))))))), ?_⟩
    refine ⟨_, rfl, t, rfl, hl, fun many H1 S1 => ?_, fun few ap H1 S1 => ?_, fun few rs ap a H1 na S1 R1 => ?_⟩
    · refine ⟨rfl, _, rfl, t, rfl, hl, fun few => absurd few (by omega), fun few => absurd few (by omega), fun _ H2 S2 => ?_⟩
      refine ⟨true, T.xm_BadBook_RoundError, fun _ a na => ?_, nofun⟩
      refine ⟨_, rfl, a, rfl, .inl ⟨upd_same, fun H3 S3 => ⟨_, rfl, iteT ?_⟩⟩⟩
      refine ⟨_, rfl, rfl, ?_⟩
      rw [decide_eq_true rfl]
      exact k _ ((S1.trans S2).trans (Same.trans (Same.new na) S3))
    · refine ⟨rfl, _, rfl, t, rfl, hl, fun _ rs e => absurd (ap.symm.trans e) (by simp), fun _ _ dd H2 nd S2 hd => ?_, fun many => absurd many (by omega)⟩
      refine ⟨true, T.xm_BadPhase_RoundError, fun _ a na => ?_, nofun⟩
      have hx := exf_of (C := gad "BadPhase" K) na hd
      refine ⟨_, rfl, a, rfl, .inr ⟨⟨_, hx⟩, ⟨_, rfl, iteF ?_⟩⟩⟩
      refine ⟨_, rfl, rfl, _, rfl, ?_⟩
      rw [decide_eq_true rfl]
      refine iteT ⟨_, rfl, a, "text", rfl, hx, fun H3 S3 => ⟨rfl, ?_⟩⟩
      rw [decide_eq_true rfl]
      exact k _ (S1.trans ((Same.upd S2 (S2.free na)).trans S3))
    · refine ⟨rfl, _, rfl, t, rfl, hl, fun _ rs' e b l H2 nb S2 B2 => ?_, fun _ e => absurd (ap.symm.trans e) (by simp), fun many => absurd many (by omega)⟩
      obtain rfl := Option.some.inj (ap.symm.trans e)
      obtain ⟨xs, hx, _⟩ := (R1.mono S2).len
      refine ⟨_, rfl, _, _, .type "list", .type "list", true, rfl, .ty _, .base (.lst hx), kit_ty (by decide +kernel), _, rfl, iteT ?_⟩
      exact ⟨_, rfl, _, rfl, b, l, a, _, rfl, B2, R1.mono S2, k _ (S1.trans S2)⟩
end

end Hue

set_option Elab.async false
set_option linter.all false
set_option maxRecDepth 100000
set_option maxHeartbeats 4000000
namespace Hue
open PySem PySem.Spec PyProof.Rows L2 TL
/-! ### the texts of the law, in plain words -/
theorem sp1 : tl (" " : Str) = [32] := by decide +kernel
abbrev txs (rs : List Ph) : List Str := rs.map (fun r => r.rw.text)
abbrev bkT (rs : List Ph) : Str := Str.join nlc (txs rs)
theorem text_no10 {r : Ph} (ok : r.Ok) : 10 ∉ tl r.rw.text := fun h => by have := text_okc ok 10 h; cases this
theorem txs_no10 {rs : List Ph} (ok : ∀ r ∈ rs, r.Ok) : ∀ p ∈ txs rs, 10 ∉ tl p := fun p hp => by
  obtain ⟨r, hr, rfl⟩ := List.mem_map.mp hp
  exact text_no10 (ok r hr)
theorem rd_text {r : Ph} (ok : r.Ok) : readW (Txt.split r.rw.text spc) = some r := by rw [text_split ok, readW_wd ok]
theorem allPh_cons (a : Str) (r : List Str) : allPh (a :: r) = match readW (Txt.split a spc), allPh r with
    | some p, some ps => some (p :: ps)
    | _, _ => none := by
  conv => lhs; unfold allPh
  all_goals (cases readW (Txt.split a spc) <;> cases allPh r <;> rfl)
theorem allPh_txs : ∀ {rs : List Ph}, (∀ r ∈ rs, r.Ok) → allPh (txs rs) = some rs
  | [], _ => rfl
  | r :: rs, ok => by
    show allPh (r.rw.text :: txs rs) = _
    rw [allPh_cons, rd_text (ok r List.mem_cons_self), allPh_txs fun q hq => ok q (List.mem_cons_of_mem _ hq)]
theorem bkT_split {rs : List Ph} (ok : ∀ r ∈ rs, r.Ok) (ne : 1 ≤ rs.length) : Txt.split (bkT rs) nlc = txs rs :=
  split_ofN (by intro e; have := congrArg List.length e; rw [List.length_map] at this; simp at this; rw [this] at ne; simp at ne) (txs_no10 ok)
theorem joinL_sum : ∀ ps : List (List Nat), (joinL [10] ps).length ≤ (ps.map List.length).sum + ps.length
  | [] => by simp [joinL]
  | [q] => by simp [joinL]
  | q :: q2 :: r => by
    rw [joinL_cons2 _ _ (by simp), List.length_append, List.length_append]
    have := joinL_sum (q2 :: r)
    simp only [List.map_cons, List.sum_cons, List.length_cons, List.length_nil] at this ⊢
    omega
def sumL (ws : List Str) : Nat := (ws.map fun w => w.length + 1).sum
theorem join_lenN (ws : List Str) : (Str.join nlc ws).length ≤ sumL ws := by
  rw [len_tl, tl_join, tl_nlc]
  refine Nat.le_trans (joinL_sum _) ?_
  unfold sumL
  induction ws with
  | nil => simp
  | cons a r ih =>
    simp only [List.map_cons, List.sum_cons, List.length_cons, len_tl a] at ih ⊢
    omega
theorem sumL_app (a b : List Str) : sumL (a ++ b) = sumL a + sumL b := by unfold sumL; rw [List.map_append, List.sum_append]
theorem sumL_le {m : Nat} : ∀ {ws : List Str}, (∀ w ∈ ws, w.length ≤ m) → sumL ws ≤ ws.length * (m + 1)
  | [], _ => by simp [sumL]
  | a :: r, h => by
    have h1 := h a List.mem_cons_self
    have h2 := sumL_le fun w hw => h w (List.mem_cons_of_mem _ hw)
    have e : sumL (a :: r) = (a.length + 1) + sumL r := by simp [sumL]
    rw [e, List.length_cons, Nat.add_mul]
    omega
theorem txs_len {rs : List Ph} (ok : ∀ r ∈ rs, r.Ok) : ∀ p ∈ txs rs, p.length ≤ 60 := fun p hp => by
  obtain ⟨r, hr, rfl⟩ := List.mem_map.mp hp
  exact (text_len (ok r hr)).1
theorem bkT_len {rs : List Ph} (ok : ∀ r ∈ rs, r.Ok) (n6 : rs.length ≤ 6) : (bkT rs).length ≤ 366 := by
  have h1 := join_lenN (txs rs)
  have h2 := sumL_le (txs_len ok)
  rw [List.length_map] at h2
  have := Nat.mul_le_mul_right 61 n6
  show (Str.join nlc (txs rs)).length ≤ 366
  omega
def Bb (z : Str) : Prop := z.length ≤ 10000 ∧ (6 < (Txt.split z nlc).length ∨ allPh (Txt.split z nlc) = none)
theorem bb_of {z : Str} {ws : List Str} (hl : z.length ≤ 10000) (e : z = Str.join nlc ws) (h10 : ∀ p ∈ ws, 10 ∉ tl p) {l : Str} (hm : l ∈ ws) (hr : readW (Txt.split l spc) = none) : Bb z := by
  have ne : ws ≠ [] := fun q => by rw [q] at hm; cases hm
  refine ⟨hl, .inr ?_⟩
  rw [e, split_ofN ne h10]
  exact allPh_none hm hr
theorem rd_empty : readW (Txt.split "" spc) = none := by decide +kernel
theorem no10_empty : 10 ∉ tl ("" : Str) := by decide +kernel
theorem joinL_nil_cons (S : List Nat) : ∀ {ps : List (List Nat)}, ps ≠ [] → joinL S ([] :: ps) = S ++ joinL S ps := fun h => by rw [joinL_cons2 _ _ h]; rfl
theorem joinL_snoc (S x y : List Nat) : ∀ us : List (List Nat), joinL S (us ++ [x]) ++ y = joinL S (us ++ [x ++ y])
  | [] => rfl
  | u :: r => by
    show joinL S (u :: (r ++ [x])) ++ y = joinL S (u :: (r ++ [x ++ y]))
    rw [joinL_cons2 S u (l := r ++ [x]) (by simp), joinL_cons2 S u (l := r ++ [x ++ y]) (by simp), List.append_assoc, List.append_assoc, joinL_snoc S x y r]
theorem joinL_mid (S x y : List Nat) (vs : List (List Nat)) : ∀ us : List (List Nat), joinL S (us ++ [x]) ++ joinL S (y :: vs) = joinL S (us ++ (x ++ y) :: vs)
  | [] => by
    show x ++ joinL S (y :: vs) = joinL S ((x ++ y) :: vs)
    cases vs with
    | nil => rfl
    | cons v vs => rw [joinL_cons2 S y (l := v :: vs) (by simp), joinL_cons2 S (x ++ y) (l := v :: vs) (by simp), List.append_assoc]
  | u :: r => by
    show joinL S (u :: (r ++ [x])) ++ joinL S (y :: vs) = joinL S (u :: (r ++ (x ++ y) :: vs))
    rw [joinL_cons2 S u (l := r ++ [x]) (by simp), joinL_cons2 S u (l := r ++ (x ++ y) :: vs) (by simp), List.append_assoc, List.append_assoc, joinL_mid S x y vs r]
theorem joinL_end (S : List Nat) : ∀ {us : List (List Nat)}, us ≠ [] → joinL S us ++ S = joinL S (us ++ [[]])
  | [], h => absurd rfl h
  | [u], _ => by
    show u ++ S = joinL S [u, []]
    rw [joinL_cons2 S u (l := [[]]) (by simp)]; simp [joinL]
  | u :: v :: r, _ => by
    show joinL S (u :: (v :: r)) ++ S = joinL S (u :: ((v :: r) ++ [[]]))
    rw [joinL_cons2 S u (l := v :: r) (by simp), joinL_cons2 S u (l := (v :: r) ++ [[]]) (by simp), List.append_assoc, List.append_assoc, joinL_end S (us := v :: r) (by simp)]
theorem bar_num : ∀ i : Nat, i < 8 → ∀ b : Bar, b.s ≠ numS (i : Int) := by
  intro i hi b
  cases b <;> revert i <;> decide +kernel
theorem tail_bar {p : Ph} (ok : p.Ok) (b : Bar) : b.s ∉ p.tail := by
  obtain ⟨n1, n2, n3, n4⟩ := bar_ne b
  obtain ⟨s, e, l⟩ := nat_of (i := p.std) (k := 8) ok.s0 (by have := ok.s1; omega)
  have nb := bar_num s l b
  rw [← e] at nb
  unfold Ph.tail
  intro h
  simp only [List.mem_append] at h
  rcases h with h | h | h | h
  · split at h
    · exact n1 (List.mem_singleton.mp h)
    · cases h
  · split at h
    · exact n2 (List.mem_singleton.mp h)
    · cases h
  · split at h
    · simp only [List.mem_cons, List.not_mem_nil, or_false] at h
      rcases h with h | h
      · exact n3 h
      · exact nb h
    · cases h
  · split at h
    · exact n4 (List.mem_singleton.mp h)
    · cases h
/-- two texts in one line are no text -/
theorem two_bad {r q : Ph} (okr : r.Ok) (okq : q.Ok) : readW (Txt.split (r.rw.text ++ (" " ++ q.rw.text)) spc) = none := by
  have e : r.rw.text ++ (" " ++ q.rw.text) = Str.join spc (r.wd ++ q.wd) := by
    apply ext_tl
    rw [text_wd, text_wd, tl_append, tl_append, tl_join, tl_join, tl_join, sp1, List.map_append, tl_spc]
    have : ∀ (a b : List (List Nat)), a ≠ [] → b ≠ [] → joinL [32] a ++ ([32] ++ joinL [32] b) = joinL [32] (a ++ b) := by
      intro a
      induction a with
      | nil => intro b h; exact absurd rfl h
      | cons x y ih =>
        intro b _ hb
        cases y with
        | nil =>
          show x ++ ([32] ++ joinL [32] b) = joinL [32] (x :: b)
          rw [joinL_cons2 _ _ hb]
        | cons z w =>
          show joinL [32] (x :: (z :: w)) ++ ([32] ++ joinL [32] b) = joinL [32] (x :: ((z :: w) ++ b))
          rw [joinL_cons2 [32] x (l := z :: w) (by simp), joinL_cons2 [32] x (l := (z :: w) ++ b) (by simp), ← ih b (by simp) hb]; simp
    exact this _ _ (by simp [Ph.wd]) (by simp [Ph.wd])
  rw [e, split_of (by simp [Ph.wd]) (fun p hp => (List.mem_append.mp hp).elim (wd_free okr p) (wd_free okq p))]
  cases h : readW (r.wd ++ q.wd) with
  | none => rfl
  | some p =>
    obtain ⟨okp, ew⟩ := readW_ok h
    have e2 : r.tail ++ q.wd = p.tail := by
      have e3 : numS r.hue :: r.bar.s :: (r.tail ++ q.wd) = numS p.hue :: p.bar.s :: p.tail := ew
      injection e3 with _ e3
      injection e3 with _ e3
    exact absurd (show q.bar.s ∈ p.tail by rw [← e2]; exact List.mem_append_right _ (by simp [Ph.wd])) (tail_bar okp q.bar)
def lT (rs : List Ph) (k : Nat) : List Str := ["", "\n", bkT rs ++ "\n", "\n" ++ bkT rs, Str.join nlc ((txs rs).take k ++ [("" : Str)] ++ (txs rs).drop k), bkT rs ++ " ", bkT rs ++ " " ++ bkT rs]
theorem str_len (x y : Str) : (x ++ y).length = x.length + y.length := by rw [len_tl, tl_append, List.length_append, ← len_tl, ← len_tl]
section
variable {rs : List Ph} (ok : ∀ r ∈ rs, r.Ok) (n1 : 1 ≤ rs.length) (n6 : rs.length ≤ 6)
include ok n1 n6
theorem bbT (k : Nat) : ∀ z ∈ lT rs k, Bb z := by
  have hl := bkT_len ok n6
  have l0 : ("\n" : Str).length = 1 ∧ (" " : Str).length = 1 ∧ ("" : Str).length = 0 := by decide +kernel
  have ne : txs rs ≠ [] := by intro e; have := congrArg List.length e; rw [List.length_map] at this; simp at this; rw [this] at n1; simp at n1
  have nem : (txs rs).map tl ≠ [] := by simpa using ne
  have h10 := txs_no10 ok
  have s10 : tl ("\n" : Str) = [10] := tl_nlc
  obtain ⟨r0, rt, e0⟩ : ∃ r0 rt, rs = r0 :: rt := by
    cases rs with
    | nil => simp at n1
    | cons a b => exact ⟨a, b, rfl⟩
  obtain ⟨ri, rl, e1⟩ : ∃ ri rl, rs = ri ++ [rl] := ⟨rs.dropLast, rs.getLast (by rw [e0]; simp), (List.dropLast_concat_getLast _).symm⟩
  have ok0 : r0.Ok := ok r0 (by rw [e0]; exact List.mem_cons_self)
  have okl : rl.Ok := ok rl (by rw [e1]; exact List.mem_append_right _ List.mem_cons_self)
  have sp10 : 10 ∉ tl (" " : Str) := by decide +kernel
  intro z hz
  simp only [lT, List.mem_cons, List.not_mem_nil, or_false] at hz
  rcases hz with rfl | rfl | rfl | rfl | rfl | rfl | rfl
  · exact bb_of (ws := [""]) (by omega) (by decide +kernel) (by decide +kernel) List.mem_cons_self rd_empty
  · exact bb_of (ws := ["", ""]) (by omega) (by decide +kernel) (by decide +kernel) List.mem_cons_self rd_empty
  · refine bb_of (ws := txs rs ++ [("" : Str)]) (by rw [str_len]; omega) ?_ ?_ (List.mem_append_right _ List.mem_cons_self) rd_empty
    · apply ext_tl
      rw [tl_append, tl_join, tl_join, tl_nlc, s10, joinL_end _ nem, List.map_append]; rfl
    · intro p hp
      rcases List.mem_append.mp hp with h | h
      · exact h10 p h
      · rw [List.mem_singleton.mp h]; exact no10_empty
  · refine bb_of (ws := "" :: txs rs) (by rw [str_len]; omega) ?_ ?_ List.mem_cons_self rd_empty
    · apply ext_tl
      rw [tl_append, tl_join, tl_join, tl_nlc, s10, List.map_cons, show tl ("" : Str) = [] from rfl, joinL_nil_cons _ nem]
    · intro p hp
      rcases List.mem_cons.mp hp with h | h
      · rw [h]; exact no10_empty
      · exact h10 p h
  · refine bb_of (l := "") ?_ rfl ?_ (List.mem_append_left _ (List.mem_append_right _ List.mem_cons_self)) rd_empty
    · refine Nat.le_trans (join_lenN _) ?_
      have a1 := sumL_le (ws := (txs rs).take k) fun w hw => txs_len ok w (List.mem_of_mem_take hw)
      have a2 := sumL_le (ws := (txs rs).drop k) fun w hw => txs_len ok w (List.mem_of_mem_drop hw)
      rw [List.length_take, List.length_map] at a1
      rw [List.length_drop, List.length_map] at a2
      rw [sumL_app, sumL_app]
      have a3 : sumL [""] = 1 := by decide +kernel
      have a4 := Nat.mul_le_mul_right (60 + 1) (show min k rs.length ≤ 6 by omega)
      have a5 := Nat.mul_le_mul_right (60 + 1) (show rs.length - k ≤ 6 by omega)
      omega
    · intro p hp
      rcases List.mem_append.mp hp with h | h
      · rcases List.mem_append.mp h with h | h
        · exact h10 p (List.mem_of_mem_take h)
        · rw [List.mem_singleton.mp h]; exact no10_empty
      · exact h10 p (List.mem_of_mem_drop h)
  · refine bb_of (l := rl.rw.text ++ " ") (ws := txs ri ++ [rl.rw.text ++ " "]) (by rw [str_len]; omega) ?_ ?_ (List.mem_append_right _ List.mem_cons_self) ?_
    · apply ext_tl
      rw [tl_append, tl_join, tl_join, tl_nlc, e1]
      show joinL [10] (List.map tl (List.map _ (ri ++ [rl]))) ++ tl " " = _
      rw [List.map_append, List.map_append, List.map_append]
      show joinL [10] (_ ++ [tl rl.rw.text]) ++ tl " " = joinL [10] (_ ++ [tl (rl.rw.text ++ " ")])
      rw [joinL_snoc, tl_append]
    · intro p hp
      rcases List.mem_append.mp hp with h | h
      · exact txs_no10 (rs := ri) (fun r hr => ok r (by rw [e1]; exact List.mem_append_left _ hr)) p h
      · rw [List.mem_singleton.mp h, tl_append]
        intro q
        rcases List.mem_append.mp q with q | q
        · exact text_no10 okl q
        · exact sp10 q
    · cases hd : readW (Txt.split (rl.rw.text ++ " ") spc) with
      | none => rfl
      | some p =>
        have bd : Bd (rl.rw.text ++ " ") := by
          refine bd_empty (by have := (text_len okl).1; rw [str_len]; omega) ?_
          rw [tl_append, sp1]; exact spl_end _ _
        exact absurd (line_some hd).2 (bd.2 p (line_some hd).1)
  · refine bb_of (l := rl.rw.text ++ (" " ++ r0.rw.text)) (ws := txs ri ++ (rl.rw.text ++ (" " ++ r0.rw.text)) :: txs rt) (by rw [str_len, str_len]; omega) ?_ ?_ (List.mem_append_right _ List.mem_cons_self) (two_bad okl ok0)
    · apply ext_tl
      have d1 : tl (bkT rs) = joinL [10] (List.map tl (txs ri) ++ [tl rl.rw.text]) := by
        rw [tl_join, tl_nlc, e1]
        show joinL [10] (List.map tl (List.map _ (ri ++ [rl]))) = _
        rw [List.map_append, List.map_append]; rfl
      have d2 : tl (bkT rs) = joinL [10] (tl r0.rw.text :: List.map tl (txs rt)) := by
        rw [tl_join, tl_nlc, e0]; rfl
      rw [tl_append, tl_append]
      conv => lhs; arg 1; arg 1; rw [d1]
      rw [d2, tl_join, tl_nlc, joinL_snoc, joinL_mid, List.map_append]
      show _ = joinL [10] (_ ++ tl (rl.rw.text ++ (" " ++ r0.rw.text)) :: _)
      rw [tl_append, tl_append, List.append_assoc]
    · intro p hp
      rcases List.mem_append.mp hp with h | h
      · exact txs_no10 (rs := ri) (fun r hr => ok r (by rw [e1]; exact List.mem_append_left _ hr)) p h
      · rcases List.mem_cons.mp h with h | h
        · rw [h, tl_append, tl_append]
          intro q
          rcases List.mem_append.mp q with q | q
          · exact text_no10 okl q
          · rcases List.mem_append.mp q with q | q
            · exact sp10 q
            · exact text_no10 ok0 q
        · exact txs_no10 (rs := rt) (fun r hr => ok r (by rw [e0]; exact List.mem_cons_of_mem _ hr)) p h
end

end Hue

set_option Elab.async false
set_option linter.all false
set_option maxRecDepth 100000
set_option maxHeartbeats 4000000
set_option pp.maxSteps 1500
namespace Hue
open PySem PySem.Spec PyProof.Rows L2 TL
local macro_rules | `(tactic| walk_at "hp") => `(tactic| first
  | assumption
  | exact upd_same
  | (refine upd_old (by assumption) ?_; walk_at "hp")
  | (refine upd_oth (by assumption) ?_; walk_at "hp")
  | (refine same_get (by assumption) ?_; walk_at "hp")
  | (refine Fl.get (by assumption) (by assumption) ?_; walk_at "hp"))
local macro_rules | `(tactic| walk_at "seq") => `(tactic| first
  | assumption
  | exact T.t_BARRIERS _
  | exact SqL.of (by walk_at "hp")
  | exact SqT.of (by walk_at "hp"))
local macro_rules | `(tactic| walk_at "len") => `(tactic| first
  | exact Or.inl (by walk_at "seq")
  | exact Or.inr (by walk_at "seq"))
local macro_rules | `(tactic| walk_at "at") => `(tactic| first
  | rfl
  | assumption)

theorem PoolAt.same {H H' : Hp} {l : Addr} (h : PoolAt H l) (S : Same H H') : PoolAt H' l := by
  obtain ⟨ns, h1, h2⟩ := h
  exact ⟨ns, S _ _ h1, h2⟩
theorem BkAt.flp {K : PySem.W.Frag} {H H' : Hp} {b l m : Addr} {rs : List Ph} (h : BkAt K H b l rs) (e : Fl m H H') (n : l ≠ m) (hm : PoolAt H m) : BkAt K H' b l rs := by
  obtain ⟨⟨d, h1⟩, ⟨as, h2, h3, h4⟩, h5, h6, h7⟩ := h
  obtain ⟨ns, p1, _⟩ := hm
  exact ⟨⟨d, e _ _ (ne_of h1 p1 (by intro z; cases z)) h1⟩, ⟨as, e _ _ n h2, h3, fun i a r ha hr => (h4 i a r ha hr).fl e (by obtain ⟨_, q⟩ := h4 i a r ha hr; exact ne_of q p1 (by intro z; cases z))⟩, h5, h6, h7⟩
def sevL (rs : List Ph) (i : Nat) : List Str := (List.range i).map fun k => ((txs rs)[k % rs.length]?).getD ""
theorem sevL_len (rs : List Ph) (i : Nat) : (sevL rs i).length = i := by unfold sevL; rw [List.length_map, List.length_range]
theorem sevL_succ (rs : List Ph) (i : Nat) : sevL rs (i + 1) = sevL rs i ++ [((txs rs)[i % rs.length]?).getD ""] := by
  unfold sevL; rw [List.range_succ, List.map_append]; rfl
theorem sevL_mem {rs : List Ph} (n1 : 1 ≤ rs.length) {i : Nat} {w : Str} (h : w ∈ sevL rs i) : w ∈ txs rs := by
  obtain ⟨k, _, rfl⟩ := List.mem_map.mp h
  obtain ⟨w, hw, hm⟩ := mem_get (xs := txs rs) (i := k % rs.length) (by rw [List.length_map]; exact Nat.mod_lt _ n1)
  rw [hw]; exact hm
def spLaw (K : PySem.W.Frag) : Sp := fun vs H Q _ => ∃ (a : Addr) (ns : List Int), vs = [.ref a] ∧ SqL K H a (ns.map V.int) ∧ ns.length ≤ 63 ∧ ∀ H', Q (.bl true) H'
section
variable {P : Program} [SupP P pFile] [SupP P pFile] {w : World} {K : PySem.W.Frag} {mg : Str → Option Value} {base : Heap}
theorem ok_law (T : Tx K mg) : FnOk P w K mg base CX0 14 (gad "law" K) (fdD K (gad "law" K)) P_law (spLaw K) := by
  refine T.F_law.ok sc_law (fun vs H Q E h => ?_) (fun cdv A outer s H vs Q E hr h => ?_)
  · obtain ⟨a, ns, rfl, _⟩ := h; rfl
  · obtain ⟨sa, ns, rfl, hS, hlen, k⟩ := h
    refine ⟨_, PSs.nox ((pss_cons (ps_set (i := 1) sc_law.nd rfl (Or.inl rfl) (pe_call (ok_l_pool (P := P) T) (hr.mono (by decide)) rfl T.g_l_pool T.F_l_pool.kp (bd_l_pool T) .nil pass0 (pa_cons (pv 0) pa_nil)))
      (pss_cons (ps_set (i := 2) sc_law.nd rfl (Or.inl rfl) (pe_call (ok_l_rows (P := P) T) (hr.mono (by decide)) rfl T.g_l_rows T.F_l_rows.kp (bd_l_rows T) .nil pass0 (pa_cons (pv 1) (pa_cons pe_int pa_nil))))
      (pss_cons (ps_set (i := 3) sc_law.nd rfl (Or.inr rfl) (pe_callB call_len_seq (by rfl) T.n_len (by decide +kernel) (pa_cons (pv 2) pa_nil)))
      (pss_cons (ps_set (i := 4) sc_law.nd rfl (Or.inl rfl) (pe_call (ok_l_book (P := P) T) (hr.mono (by decide)) rfl T.g_l_book T.F_l_book.kp (bd_l_book T) .nil pass0 (pa_cons (pv 2) pa_nil)))
      (pss_cons (ps_set (i := 5) sc_law.nd rfl (Or.inr rfl) (pe_lc (own := [("_law_row", 11)]) (g := gName 11) (tt := tYes) rfl sc_law.nd (pi_list (pv 2)) (blkOk_by (own := [("_law_row", 11)]) (N := N_law) (sc := defScope s_law) (by decide +kernel)) (fun _ _ _ _ _ => (pg_name (i := 11) sc_law.nd rfl (Or.inl rfl))) (fun _ _ _ _ _ => pts_nil) (fun _ _ _ _ _ => (pe_call (ok_l_text (P := P) T) (hr.mono (by decide)) rfl T.g_l_text T.F_l_text.kp (bd_l_text T) .nil pass0 (pa_cons (pv 11) pa_nil)))))
      (pss_cons (ps_set (i := 6) sc_law.nd rfl (Or.inl rfl) (pe_join pe_str (pv 5)))
      (pss_cons (ps_if (PW.pt (pw_or (pt_not (pt_val (pe_callB call_isi (by rfl) T.n_isinstance (by decide +kernel) (pa_cons (pe_prop (pv 4) T.c_Book T.p_Book_text (ok_Book_text (P := P) T) (hr.mono (by decide)) (bd_Book_text T) .nil pass0 rfl) (pa_cons (pe_bty "str" rfl T.n_str (by decide +kernel)) pa_nil))))) (pw_or (pt_cmpR op_ne (pe_prop (pv 4) T.c_Book T.p_Book_text (ok_Book_text (P := P) T) (hr.mono (by decide)) (bd_Book_text T) .nil pass0 rfl) (pv 6) (nomark _)) (pw_or1 (pt_cmpR (op_neD hr.units) (pe_call (ok_l_read_all (P := P) T) (hr.mono (by decide)) rfl T.g_l_read_all T.F_l_read_all.kp (bd_l_read_all T) .nil pass0 (pa_cons (pv 6) pa_nil)) (pv 2) (nomark _)))))) (pss_one (ps_ret pe_bl)) pss_nil)
      (pss_cons (ps_if (PW.pt (pw_or (pt_not (pt_val (pe_call (ok_l_same_book (P := P) T) (hr.mono (by decide)) rfl T.g_l_same_book T.F_l_same_book.kp (bd_l_same_book T) .nil pass0 (pa_cons (ClX.pe_cmeth (pe_gr rfl T.g_Book) T.cr_Book T.cm_Book_parse (fr_Book_parse (P := P) T) (hr.mono (by decide)) passL (pa_cons (pv 6) pa_nil)) (pa_cons (pv 2) pa_nil))))) (pw_or1 (pt_not (pt_val (pe_call (ok_l_same_book (P := P) T) (hr.mono (by decide)) rfl T.g_l_same_book T.F_l_same_book.kp (bd_l_same_book T) .nil pass0 (pa_cons (pv 4) (pa_cons (pv 2) pa_nil)))))))) (pss_one (ps_ret pe_bl)) pss_nil)
      (pss_cons (ps_if (pt_not (pt_val (pe_call (ok_l_is (P := P) T) (hr.mono (by decide)) rfl T.g_l_is T.F_l_is.kp (bd_l_is T) .nil pass0 (pa_cons (pe_cmpR (op_eqO T.o_Book_eq (fr_Book_eq (P := P) T) (hr.mono (by decide)) pass0) (ClX.pe_cmeth (pe_gr rfl T.g_Book) T.cr_Book T.cm_Book_parse (fr_Book_parse (P := P) T) (hr.mono (by decide)) passL (pa_cons (pv 6) pa_nil)) (pv 4) (nomark _)) (pa_cons pe_bl pa_nil))))) (pss_one (ps_ret pe_bl)) pss_nil)
      (pss_cons (ps_for PassesOwn.never rfl (pi_range1 (by rfl) T.n_range (pa_cons pe_int pa_nil)) (pg_name (i := 7) sc_law.nd rfl (Or.inl rfl)) (pss_cons (ps_set (i := 8) sc_law.nd rfl (Or.inl rfl) (pe_call (ok_l_take (P := P) T) (hr.mono (by decide)) rfl T.g_l_take T.F_l_take.kp (bd_l_take T) .nil pass0 (pa_cons (pv 1) (pa_cons (pv 3) pa_nil))))
      (pss_cons (ps_set (i := 9) sc_law.nd rfl (Or.inl rfl) (pe_op op_cat (pe_op op_cat (pe_slice sl_list (pv 5) po_none (po_some (pv 8))) (pe_lst (pa_cons (pe_call (ok_l_spoilt (P := P) T) (hr.mono (by decide)) rfl T.g_l_spoilt T.F_l_spoilt.kp (bd_l_spoilt T) .nil pass0 (pa_cons (pv 1) (pa_cons (pe_ix ix_list (pv 5) (pv 8) (fun _ _ => rfl)) pa_nil))) pa_nil))) (pe_slice sl_list (pv 5) (po_some (pe_op op_add (pv 8) pe_int)) po_none)))
      (pss_one (ps_if (pt_not (pt_val (pe_call (ok_l_parsed (P := P) T) (hr.mono (by decide)) rfl T.g_l_parsed T.F_l_parsed.kp (bd_l_parsed T) .nil pass0 (pa_cons (pe_join pe_str (pv 9)) pa_nil)))) (pss_one (ps_ret pe_bl)) pss_nil)))))
      (pss_cons (ps_set (i := 8) sc_law.nd rfl (Or.inl rfl) (pe_call (ok_l_take (P := P) T) (hr.mono (by decide)) rfl T.g_l_take T.F_l_take.kp (bd_l_take T) .nil pass0 (pa_cons (pv 1) (pa_cons (pe_op op_add (pv 3) pe_int) pa_nil))))
      (pss_cons (ps_for PassesOwn.never rfl (pi_list (pe_lst (pa_cons pe_str (pa_cons pe_str (pa_cons (pe_op op_add_str (pv 6) pe_str) (pa_cons (pe_op op_add_str pe_str (pv 6)) (pa_cons (pe_join pe_str (pe_op op_cat (pe_op op_cat (pe_slice sl_list (pv 5) po_none (po_some (pv 8))) (pe_lst (pa_cons pe_str pa_nil))) (pe_slice sl_list (pv 5) (po_some (pv 8)) po_none))) (pa_cons (pe_op op_add_str (pv 6) pe_str) (pa_cons (pe_op op_add_str (pe_op op_add_str (pv 6) pe_str) (pv 6)) pa_nil))))))))) (pg_name (i := 9) sc_law.nd rfl (Or.inl rfl)) (pss_one (ps_if (PW.pt (pw_or (pt_val (pe_callB call_isi (by rfl) T.n_isinstance (by decide +kernel) (pa_cons (pe_call (ok_l_read_all (P := P) T) (hr.mono (by decide)) rfl T.g_l_read_all T.F_l_read_all.kp (bd_l_read_all T) .nil pass0 (pa_cons (pv 9) pa_nil)) (pa_cons (pe_bty "list" rfl T.n_list (by decide +kernel)) pa_nil)))) (pw_or1 (pt_not (pt_val (pe_call (ok_l_parsed (P := P) T) (hr.mono (by decide)) rfl T.g_l_parsed T.F_l_parsed.kp (bd_l_parsed T) .nil pass0 (pa_cons (pv 9) pa_nil))))))) (pss_one (ps_ret pe_bl)) pss_nil)))
      (pss_cons (ps_setLc (i := 10) (own := [("_law_k", 7)]) (g := gName 7) (tt := tYes) rfl sc_law.nd rfl rfl (sw_true rfl rfl rfl (by decide +kernel)) (pi_range1 (by rfl) T.n_range (pa_cons (pe_op op_add pe_int (pv 8)) pa_nil)) (blkOk_by (own := [("_law_k", 7)]) (N := N_law) (sc := defScope s_law) (by decide +kernel)) (fun _ _ _ _ _ => (pg_name (i := 7) sc_law.nd rfl (Or.inl rfl))) (fun _ _ _ _ _ => pts_nil) (fun _ _ _ _ _ => (pe_ix (ix_listK (K := K) rfl) (pv 5) (pe_op op_mod (pv 7) (pv 3)) (fun _ _ => rfl))))
      (pss_cons (ps_if (PW.pt (pw_or (pt_cmpR op_ne (pe_call (ok_l_read_all (P := P) T) (hr.mono (by decide)) rfl T.g_l_read_all T.F_l_read_all.kp (bd_l_read_all T) .nil pass0 (pa_cons (pe_join pe_str (pv 10)) pa_nil)) pe_str (nomark _)) (pw_or1 (pt_not (pt_val (pe_call (ok_l_parsed (P := P) T) (hr.mono (by decide)) rfl T.g_l_parsed T.F_l_parsed.kp (bd_l_parsed T) .nil pass0 (pa_cons (pe_join pe_str (pv 10)) pa_nil))))))) (pss_one (ps_ret pe_bl)) pss_nil)
      (pss_cons (ps_if (PW.pt (pw_or (pt_not (pt_val (pe_call (ok_l_parsed (P := P) T) (hr.mono (by decide)) rfl T.g_l_parsed T.F_l_parsed.kp (bd_l_parsed T) .nil pass0 (pa_cons (pe_join pe_str (pe_op op_cat (pe_lst (pa_cons pe_str pa_nil)) (pv 10))) pa_nil)))) (pw_or1 (pt_not (pt_val (pe_call (ok_l_parsed (P := P) T) (hr.mono (by decide)) rfl T.g_l_parsed T.F_l_parsed.kp (bd_l_parsed T) .nil pass0 (pa_cons (pe_join pe_str (pe_slice sl_list (pv 10) po_none (po_some pe_int))) pa_nil))))))) (pss_one (ps_ret pe_bl)) pss_nil)
      (pss_one (ps_ret (pe_and (pe_call (ok_l_same_book (P := P) T) (hr.mono (by decide)) rfl T.g_l_same_book T.F_l_same_book.kp (bd_l_same_book T) .nil pass0 (pa_cons (pv 4) (pa_cons (pv 2) pa_nil))) (pe_one (pe_cmpR op_eq (pe_prop (pv 4) T.c_Book T.p_Book_text (ok_Book_text (P := P) T) (hr.mono (by decide)) (bd_Book_text T) .nil pass0 rfl) (pv 6) (nomark _)))))))))))))))))))))), ?_⟩
    refine ⟨_, rfl, sa, ns, rfl, hS, hlen, fun l H1 nl S1 P1 => ?_⟩
    refine ⟨_, rfl, l, 6, rfl, P1, by decide, by decide, fun rs a H2 R2 m1 m6 na al f2 P2 => ?_⟩
    obtain ⟨xs2, hx2, el2⟩ := R2.len
    have n1 : 1 ≤ rs.length := by omega
    have n6 : rs.length ≤ 6 := by omega
    refine ⟨_, rfl, _, _, rfl, .inl (SqL.of hx2), ?_⟩
    refine ⟨_, rfl, a, rs, rfl, R2, n1, n6, fun b bl H3 nb nbl S3 B3 => ?_⟩
    have R3 := R2.mono S3
    have P3 := P2.same S3
    obtain ⟨⟨ts, g2, g3, g4⟩, okr⟩ := id R3
    refine ⟨_, rfl, a, rfl, ⟨_, SqL.of g2⟩, fun G nG => ?_⟩
    refine lc_list (K := K) (a := a) (xs := ts.map V.ref) (fun i H' => H' G = some (.lst (((txs rs).take i).map V.str)) ∧ Same H3 H') ⟨upd_same, Same.new nG⟩ (fun i H' _ ⟨_, S⟩ => SqL.of (S _ _ g2)) ?_ ?_
    · rintro i y H4 hi ⟨hG, S4⟩
      have i6 := (List.getElem?_eq_some_iff.mp hi).1
      rw [List.length_map] at i6
      rw [List.getElem?_map] at hi
      obtain ⟨t, hti, rfl⟩ := Option.map_eq_some_iff.mp hi
      obtain ⟨r, hri, hm⟩ := mem_get (xs := rs) (i := i) (by omega)
      refine ⟨rfl, ?_⟩
      refine yesT (iteT ?_)
      refine ⟨_, rfl, t, r, rfl, S4 _ _ (g4 i t r hti hri), okr r hm, ?_⟩
      refine ⟨_, hG, small1000 (by rw [List.length_map, List.length_take]; omega), ?_, Same.upd S4 nG⟩
      rw [upd_same, show (txs rs).take (i + 1) = (txs rs).take i ++ [r.rw.text] by rw [List.take_succ, List.getElem?_map, hri]; rfl, List.map_append]; rfl
    · rintro H4 ⟨hG, S4⟩
      rw [List.length_map, show ts.length = (txs rs).length by rw [List.length_map]; exact g3, List.take_length] at hG
      have B4 := B3.mono S4
      have R4 := R3.mono S4
      have P4 := P3.same S4
      have hl := bkT_len okr n6
      have hl4 : (bkT rs).length ≤ 10000 := by omega
      have bt : Txt.join "\n" (txs rs) = bkT rs := join_eq _ _
      have bk : bkText rs = bkT rs := join_eq _ _
      have spl := bkT_split okr n1
      have lt : (txs rs).length = rs.length := List.length_map ..
      have six : ¬ 6 < (Txt.split (bkT rs) nlc).length := by rw [spl, lt]; omega
      have noo : allPh (Txt.split (bkT rs) nlc) ≠ none := by rw [spl, allPh_txs okr]; simp
      have one : ∀ rs', allPh (Txt.split (bkT rs) nlc) = some rs' → rs' = rs := fun rs' e => by rw [spl, allPh_txs okr] at e; exact (Option.some.inj e).symm
      have sumc : ∀ ws : List Str, sumL ws ≤ 10000 → (ws.map (fun x => x.length)).sum + ws.length * ("\n" : Str).length ≤ 16777216 := fun ws h => by
        have e1 : ("\n" : Str).length = 1 := by decide +kernel
        have e2 : ∀ ws : List Str, sumL ws = (ws.map (fun x => x.length)).sum + ws.length := by
          intro ws
          induction ws with
          | nil => rfl
          | cons a r ih => simp only [sumL, List.map_cons, List.sum_cons, List.length_cons] at ih ⊢; omega
        rw [e1]
        have := e2 ws
        omega
      have suml : sumL (txs rs) ≤ 366 := by
        have h2 := sumL_le (txs_len okr)
        rw [lt] at h2
        have := Nat.mul_le_mul_right 61 n6
        omega
      refine ⟨⟨_, rfl⟩, _, rfl, "\n", G, txs rs, rfl, rfl, .inl (SqL.of hG), sumc _ (show sumL (txs rs) ≤ 10000 by omega), ?_⟩
      rw [bt]
      obtain ⟨dx, hb4⟩ := B4.bk
      refine ⟨_, rfl, b, dx, _, rfl, hb4, b, bl, rs, rfl, B4, fun H5 S5 => ?_⟩
      refine ⟨_, _, .type "str", .type "str", true, rfl, .ty _, .base (.str _), kit_ty (by decide +kernel), _, rfl, iteF ?_⟩
      refine ⟨_, rfl, b, dx, _, rfl, S5 _ _ hb4, b, bl, rs, rfl, B4.mono S5, fun H6 S6 => ?_⟩
      rw [bk]
      refine ⟨_, rfl, rfl, _, rfl, iteNS rfl ?_⟩
      have S46 := S5.trans S6
      refine ⟨_, rfl, bkT rs, rfl, hl4, fun many => absurd many six, fun _ ap => absurd ap noo, fun _ rs' ap c H7 nc S7 R7 => ?_⟩
      obtain rfl := one rs' ap
      have S47 := S46.trans S7
      refine ⟨_, rfl, _, _, R7.dp, (R4.mono S47).dp, phDs_shaped _, phDs_shaped _, _, rfl, iteE (by rw [PySem.SeqAt.eqv_refl _ (by simp only [PyData.canLay0]; exact phDs_lay _)]; rfl) ?_⟩
      refine ⟨rfl, _, rfl, bkT rs', rfl, hl4, fun _ rs2 ap2 d m H8 nd S8 D8 => ?_, fun _ ap => absurd ap noo, fun many => absurd many six⟩
      obtain rfl := one rs2 ap2
      have S48 := S47.trans S8
      refine ⟨_, rfl, d, m, a, _, rfl, D8, R4.mono S48, _, rfl, iteF ?_⟩
      refine ⟨_, rfl, _, rfl, b, bl, a, _, rfl, B4.mono S48, R4.mono S48, _, rfl, iteF ?_⟩
      refine ⟨rfl, _, rfl, bkT rs2, rfl, hl4, fun _ rs3 ap3 e q H9 ne S9 E9 => ?_, fun _ ap => absurd ap noo, fun many => absurd many six⟩
      obtain rfl := one rs3 ap3
      have S49 := S48.trans S9
      have Gl : G ≠ l := P3.ne nG
      obtain ⟨ns2, hl2, _⟩ := id P2
      have lbl : l ≠ bl := ne_of_none hl2 nbl
      have B9 := B4.mono S49
      obtain ⟨de, he9⟩ := E9.bk
      obtain ⟨db, hb9⟩ := B9.bk
      refine ⟨_, rfl, e, de, _, _, rfl, he9, inst_ty T.i_Book T.c_Book hb9, T.nf_Book_Book, e, q, rs3, .ref b, rfl, E9, .inl ⟨b, bl, rs3, rfl, B9, _, true, rfl, decide (rs3 = rs3), rfl, ?_⟩⟩
      rw [decide_eq_true rfl]
      refine ⟨_, rfl, iteF ?_⟩
      have R9 := R4.mono S49
      have P9 := P4.same S49
      have hG9 := S49 _ _ hG
      refine ⟨4, rfl, by decide, by decide, for_range (n := 4) (fun j σ H' => ∃ q7 q8 q9, σ = [some (.ref sa), some (.ref l), some (.ref a), some (.int xs2.length), some (.ref b), some (.ref G), some (.str (bkT rs3)), q7, q8, q9, none, none] ∧ PoolAt H' l ∧ BkAt K H' b bl rs3 ∧ RowsAt H' a rs3 ∧ H' G = some (.lst ((txs rs3).map V.str))) ⟨_, _, _, rfl, P9, B9, R9, hG9⟩ ?_ ?_⟩
      · rintro j σ H10 hj ⟨q7, q8, q9, rfl, P10, B10, R10, hG10⟩
        refine ⟨_, rfl, _, rfl, l, _, rfl, P10, ?_, fun at' H11 t0 t1 f11 P11 => ?_⟩
        · show (0 : Int) < ((xs2.length : Nat) : Int); omega
        obtain ⟨n, rfl⟩ : ∃ n : Nat, at' = (n : Int) := ⟨at'.toNat, (Int.toNat_of_nonneg t0).symm⟩
        have nlt : n < rs3.length := by have : (n : Int) < ((xs2.length : Nat) : Int) := t1; omega
        obtain ⟨rr, hrr, hrm⟩ := mem_get nlt
        have hG11 := f11 _ _ Gl hG10
        refine ⟨_, rfl, _, rfl, _, rfl, G, _, rfl, SqL.of hG11, fun p np => ?_⟩
        rw [cut_k _ (by rw [lt]; omega)]
        have hGp := upd_old (u := .lst (((txs rs3).take n).map V.str)) np hG11
        refine ⟨_, rfl, _, rfl, _, rfl, _, _, _, _, rfl, rfl, SqL.of hGp, atI_nat (by rw [List.getElem?_map, List.getElem?_map, hrr]; rfl), ?_⟩
        have P11p := P11.upd (o := .lst (((txs rs3).take n).map V.str)) np
        have pl : p ≠ l := P11.ne np
        have B11 := B10.flp f11 lbl.symm P10
        have R11 := R10.fl f11 al P10
        have Sp : Same H11 (L2.upd H11 p (.lst (((txs rs3).take n).map V.str))) := Same.new np
        refine ⟨l, rr.rw.text, rfl, P11p, (text_len (okr rr hrm)).1, fun z H12 hz f12 P12 => ?_⟩
        have hG12 := f12 _ _ Gl hGp
        have hp12 := f12 _ _ pl upd_same
        have B12 := (B11.mono Sp).flp f12 lbl.symm P11p
        have R12 := (R11.mono Sp).fl f12 al P11p
        refine ⟨(show (1 : Nat) ≤ sizeLine by decide), fun q nq => ?_⟩
        have hpq := upd_old (u := .lst [.str z]) nq hp12
        have hGq := upd_old (u := .lst [.str z]) nq hG12
        have Sq : Same H12 (L2.upd H12 q (.lst [.str z])) := Same.new nq
        have pq : p ≠ q := ne_of_none hp12 nq
        refine ⟨p, q, _, _, rfl, rfl, hpq, upd_same, ?_, fun r nr => ?_⟩
        · refine Nat.le_trans (?_ : _ ≤ 1000) (by decide)
          simp only [List.length_map, List.length_take, List.length_cons, List.length_nil]
          omega
        have Sr := Same.upd (u := .lst (((txs rs3).take n).map V.str ++ [V.str z])) Sq (Sq.free nr)
        refine ⟨_, rfl, _, rfl, _, _, rfl, rfl, _, rfl, G, _, rfl, SqL.of (Sr _ _ hG12), fun u nu => ?_⟩
        rw [show (n : Int) + 1 = ((n + 1 : Nat) : Int) by omega, cut_d _ (by rw [lt]; omega)]
        refine ⟨r, u, _, _, rfl, rfl, upd_old nu upd_same, upd_same, ?_, fun v nv => ?_⟩
        · refine Nat.le_trans (?_ : _ ≤ 1000) (by decide)
          simp only [List.length_append, List.length_map, List.length_take, List.length_drop, List.length_cons, List.length_nil]
          omega
        have Sv := Same.upd (u := .lst (((txs rs3).take n).map V.str ++ [V.str z] ++ ((txs rs3).drop (n + 1)).map V.str)) (Same.upd (u := .lst (((txs rs3).drop (n + 1)).map V.str)) Sr (Sr.free nu)) (Same.free (Same.upd (u := .lst (((txs rs3).drop (n + 1)).map V.str)) Sr (Sr.free nu)) nv)
        have wl : sumL ((txs rs3).take n ++ [z] ++ (txs rs3).drop (n + 1)) ≤ 9800 := by
          have a1 := sumL_le (ws := (txs rs3).take n) fun w hw => txs_len okr w (List.mem_of_mem_take hw)
          have a2 := sumL_le (ws := (txs rs3).drop (n + 1)) fun w hw => txs_len okr w (List.mem_of_mem_drop hw)
          rw [List.length_take, lt] at a1
          rw [List.length_drop, lt] at a2
          rw [sumL_app, sumL_app]
          have a3 : sumL [z] = z.length + 1 := rfl
          have a4 := Nat.mul_le_mul_right (60 + 1) (show min n rs3.length ≤ 6 by omega)
          have a5 := Nat.mul_le_mul_right (60 + 1) (show rs3.length - (n + 1) ≤ 6 by omega)
          omega
        refine ⟨⟨_, rfl⟩, _, rfl, "\n", v, (txs rs3).take n ++ [z] ++ (txs rs3).drop (n + 1), rfl, rfl, .inl (SqL.of (by rw [List.map_append, List.map_append]; exact upd_same)), sumc _ (by omega), ?_⟩
        rw [join_eq]
        refine ⟨_, rfl, Nat.le_trans (join_lenN _) (by omega), fun H13 S13 => ⟨_, rfl, iteF ?_⟩⟩
        have S123 := Sv.trans S13
        exact ⟨_, _, _, rfl, P12.same S123, B12.mono S123, R12.mono S123, S123 _ _ hG12⟩
      · rintro σ H10 ⟨q7, q8, q9, rfl, P10, B10, R10, hG10⟩
        refine ⟨_, rfl, _, rfl, _, _, rfl, rfl, l, _, rfl, P10, ?_, fun at' H11 t0 t1 f11 P11 => ?_⟩
        · show (0 : Int) < ((xs2.length : Nat) : Int) + 1; omega
        obtain ⟨n, rfl⟩ : ∃ n : Nat, at' = (n : Int) := ⟨at'.toNat, (Int.toNat_of_nonneg t0).symm⟩
        have nlt : n ≤ rs3.length := by have : (n : Int) < ((xs2.length : Nat) : Int) + 1 := t1; omega
        have hG11 := f11 _ _ Gl hG10
        have B11 := B10.flp f11 lbl.symm P10
        have R11 := R10.fl f11 al P10
        have big : ∀ {c d : Nat}, c ≤ 500 → d ≤ 500 → c + d ≤ sizeLine := fun {c d} h1 h2 => Nat.le_trans (show _ ≤ 1000 by omega) (by decide)
        have hl5 : (bkT rs3).length ≤ 500 := by omega
        have hsp : (bkT rs3 ++ " ").length ≤ 500 := by
          have : (" " : Str).length = 1 := by decide +kernel
          rw [str_len]; omega
        refine ⟨_, rfl, _, _, rfl, rfl, big hl5 (by decide +kernel), _, rfl, _, _, rfl, rfl, big (by decide +kernel) hl5, ⟨_, rfl⟩, _, rfl, _, rfl, _, rfl, G, _, rfl, SqL.of hG11, fun p np => ?_⟩
        rw [cut_k _ (by rw [lt]; omega)]
        have hGp := upd_old (u := .lst (((txs rs3).take n).map V.str)) np hG11
        have Sp : Same H11 (L2.upd H11 p (.lst (((txs rs3).take n).map V.str))) := Same.new np
        refine ⟨(show (1 : Nat) ≤ sizeLine by decide), fun q nq => ?_⟩
        have hpq := upd_old (u := .lst [.str ("" : Str)]) nq (upd_same (o := HO.lst (((txs rs3).take n).map V.str)) (H := H11) (a := p))
        have hGq := upd_old (u := .lst [.str ("" : Str)]) nq hGp
        have Sq := Same.upd (u := .lst [.str ("" : Str)]) Sp (Sp.free nq)
        refine ⟨p, q, _, _, rfl, rfl, hpq, upd_same, ?_, fun r nr => ?_⟩
        · refine Nat.le_trans (?_ : _ ≤ 1000) (by decide)
          simp only [List.length_map, List.length_take, List.length_cons, List.length_nil]
          omega
        have Sr := Same.upd (u := .lst (((txs rs3).take n).map V.str ++ [V.str ("" : Str)])) Sq (Sq.free nr)
        refine ⟨_, rfl, _, rfl, _, rfl, G, _, rfl, SqL.of (Sr _ _ hG11), fun u nu => ?_⟩
        rw [cut_d _ (by rw [lt]; omega)]
        refine ⟨r, u, _, _, rfl, rfl, upd_old nu upd_same, upd_same, ?_, fun v nv => ?_⟩
        · refine Nat.le_trans (?_ : _ ≤ 1000) (by decide)
          simp only [List.length_append, List.length_map, List.length_take, List.length_drop, List.length_cons, List.length_nil]
          omega
        have Su := Same.upd (u := .lst (((txs rs3).drop n).map V.str)) Sr (Sr.free nu)
        have Sv := Same.upd (u := .lst (((txs rs3).take n).map V.str ++ [V.str ("" : Str)] ++ ((txs rs3).drop n).map V.str)) Su (Su.free nv)
        have wl : sumL ((txs rs3).take n ++ [("" : Str)] ++ (txs rs3).drop n) ≤ 9800 := by
          have a1 := sumL_le (ws := (txs rs3).take n) fun w hw => txs_len okr w (List.mem_of_mem_take hw)
          have a2 := sumL_le (ws := (txs rs3).drop n) fun w hw => txs_len okr w (List.mem_of_mem_drop hw)
          rw [List.length_take, lt] at a1
          rw [List.length_drop, lt] at a2
          rw [sumL_app, sumL_app]
          have a3 : sumL [("" : Str)] = 1 := by decide +kernel
          have a4 := Nat.mul_le_mul_right (60 + 1) (show min n rs3.length ≤ 6 by omega)
          have a5 := Nat.mul_le_mul_right (60 + 1) (show rs3.length - n ≤ 6 by omega)
          omega
        refine ⟨"\n", v, (txs rs3).take n ++ [("" : Str)] ++ (txs rs3).drop n, rfl, rfl, .inl (SqL.of (by rw [List.map_append, List.map_append]; exact upd_same)), sumc _ (by omega), ?_⟩
        rw [join_eq]
        refine ⟨_, rfl, _, _, rfl, rfl, big hl5 (by decide +kernel), _, rfl, _, _, rfl, rfl, big hl5 (by decide +kernel), _, rfl, _, _, rfl, rfl, big hsp hl5, (show (7 : Nat) ≤ sizeLine by decide), fun y ny => ?_⟩
        have Sy := Same.upd (u := .lst ((lT rs3 n).map V.str)) Sv (Sv.free ny)
        have B12 := B11.mono Sy
        have R12 := R11.mono Sy
        have hG12 := Sy _ _ hG11
        refine ⟨_, rfl, ⟨_, SqL.of upd_same⟩, for_list (xs := (lT rs3 n).map V.str) (fun j σ H' => ∃ q9, σ = [some (.ref sa), some (.ref l), some (.ref a), some (.int xs2.length), some (.ref b), some (.ref G), some (.str (bkT rs3)), q7, some (.int n), q9, none, none] ∧ BkAt K H' b bl rs3 ∧ RowsAt H' a rs3 ∧ H' G = some (.lst ((txs rs3).map V.str)) ∧ H' y = some (.lst ((lT rs3 n).map V.str))) ⟨_, rfl, B12, R12, hG12, upd_same⟩ (fun j σ H' _ ⟨_, _, _, _, _, h⟩ => SqL.of h) ?_ ?_⟩
        · rintro j v' σ H20 hj ⟨q9, rfl, B20, R20, hG20, hy20⟩
          rw [List.getElem?_map] at hj
          obtain ⟨z, hz, rfl⟩ := Option.map_eq_some_iff.mp hj
          obtain ⟨bl', bz⟩ := bbT okr n1 n6 n z (List.mem_of_getElem? hz)
          refine ⟨_, rfl, z, rfl, bl', fun many H21 S21 => ?_, fun few ap H21 S21 => ?_, fun few rs' ap => ?_⟩
          · refine ⟨_, _, .type "str", .type "list", false, rfl, .ty _, .base (.str _), kit_ty (by decide +kernel), _, rfl, iteF ?_⟩
            exact ⟨_, rfl, z, rfl, bl', fun H22 S22 => ⟨_, rfl, iteF ⟨_, rfl, (B20.mono S21).mono S22, (R20.mono S21).mono S22, S22 _ _ (S21 _ _ hG20), S22 _ _ (S21 _ _ hy20)⟩⟩⟩
          · refine ⟨_, _, .type "str", .type "list", false, rfl, .ty _, .base (.str _), kit_ty (by decide +kernel), _, rfl, iteF ?_⟩
            exact ⟨_, rfl, z, rfl, bl', fun H22 S22 => ⟨_, rfl, iteF ⟨_, rfl, (B20.mono S21).mono S22, (R20.mono S21).mono S22, S22 _ _ (S21 _ _ hG20), S22 _ _ (S21 _ _ hy20)⟩⟩⟩
          · rcases bz with bz | bz
            · omega
            · rw [bz] at ap; cases ap
        · rintro σ H20 ⟨q9, rfl, B20, R20, hG20, _⟩
          have lG : ((txs rs3).map V.str).length = rs3.length := by rw [List.length_map, List.length_map]
          refine ⟨_, rfl, _, _, rfl, rfl, _, rfl, by omega, by omega, fun D nD => ?_⟩
          refine lc_range (lo := 0) (n := _) (fun i H' => H' D = some (.lst ((sevL rs3 i).map V.str)) ∧ Same H20 H') ⟨upd_same, Same.new nD⟩ ?_ ?_
          · rintro i H21 hi ⟨hD, S21⟩
            have hi13 : i < 13 := by omega
            have e0 : (0 + (i : Int)) = ((i : Nat) : Int) := by omega
            rw [e0]
            refine ⟨rfl, ?_⟩
            refine yesT (iteT ?_)
            have em : ((i : Nat) : Int) % ((xs2.length : Nat) : Int) = ((i % rs3.length : Nat) : Int) := by rw [el2]; exact (Int.natCast_emod _ _).symm
            obtain ⟨wd, hwd, _⟩ := mem_get (xs := txs rs3) (i := i % rs3.length) (by rw [lt]; exact Nat.mod_lt _ n1)
            refine ⟨_, rfl, _, rfl, _, rfl, _, _, rfl, rfl, (by show (0 : Int) < ((xs2.length : Nat) : Int); omega), ?_⟩
            show rIxL K (V.ref G) (V.int (((i : Nat) : Int) % ((xs2.length : Nat) : Int))) H21 _
            rw [em]
            refine ⟨_, _, _, _, rfl, rfl, SqL.of (S21 _ _ hG20), atI_nat (by rw [List.getElem?_map, hwd]; rfl), _, hD, small1000 (by rw [List.length_map, sevL_len]; omega), ?_, Same.upd S21 nD⟩
            rw [upd_same, sevL_succ, hwd, List.map_append]; rfl
          · rintro H21 ⟨hD, S21⟩
            rw [show ((7 : Int) + (n : Int)).toNat = 7 + n by omega] at hD
            have sl := sevL_len rs3 (7 + n)
            have sm : ∀ w ∈ sevL rs3 (7 + n), w ∈ txs rs3 := fun w hw => sevL_mem n1 hw
            generalize sevL rs3 (7 + n) = sv at hD sl sm
            have svne : sv ≠ [] := by intro e; rw [e] at sl; simp at sl; omega
            have sv10 : ∀ w ∈ sv, 10 ∉ tl w := fun w hw => txs_no10 okr w (sm w hw)
            have svl : sumL sv ≤ 800 := by
              have h1 := sumL_le (ws := sv) fun w hw => txs_len okr w (sm w hw)
              have h2 := Nat.mul_le_mul_right (60 + 1) (show sv.length ≤ 13 by omega)
              omega
            have jl : (Str.join nlc sv).length ≤ 800 := Nat.le_trans (join_lenN _) svl
            have js : Txt.split (Str.join nlc sv) nlc = sv := split_ofN svne sv10
            have B21 := B20.mono S21
            have R21 := R20.mono S21
            refine ⟨⟨_, rfl⟩, _, rfl, "\n", D, sv, rfl, rfl, .inl (SqL.of hD), sumc _ (by omega), ?_⟩
            rw [join_eq]
            refine ⟨_, rfl, by show (Str.join nlc sv).length ≤ 10000; omega, fun many H22 S22 => ?_, fun few => ?_, fun few => ?_⟩
            · refine ⟨rfl, _, rfl, iteNS rfl ?_⟩
              have hD22 := S22 _ _ hD
              refine ⟨⟨_, rfl⟩, _, rfl, "\n", D, sv, rfl, rfl, .inl (SqL.of hD22), sumc _ (by omega), ?_⟩
              rw [join_eq]
              refine ⟨_, rfl, by show (Str.join nlc sv).length ≤ 10000; omega, fun H23 S23 => ⟨_, rfl, iteF ?_⟩⟩
              have hD23 := S23 _ _ hD22
              refine ⟨⟨_, rfl⟩, (show (1 : Nat) ≤ sizeLine by decide), fun p np => ?_⟩
              have hDp := upd_old (u := .lst [.str ("guarded" : Str)]) np hD23
              refine ⟨_, rfl, p, D, _, _, rfl, rfl, upd_same, hDp, ?_, fun q nq => ?_⟩
              · refine Nat.le_trans (?_ : _ ≤ 1000) (by decide)
                simp only [List.length_map, List.length_cons, List.length_nil]
                omega
              have gl : sumL (("guarded" : Str) :: sv) ≤ 900 := by
                have e : sumL (("guarded" : Str) :: sv) = sumL [("guarded" : Str)] + sumL sv := sumL_app [("guarded" : Str)] sv
                have e2 : sumL [("guarded" : Str)] = 8 := by decide +kernel
                omega
              refine ⟨"\n", q, ("guarded" : Str) :: sv, rfl, rfl, .inl (SqL.of upd_same), sumc _ (by omega), ?_⟩
              rw [join_eq]
              refine ⟨_, rfl, Nat.le_trans (join_lenN _) (by omega), fun H24 S24 => ⟨_, rfl, iteF ?_⟩⟩
              have Sp : Same H23 (L2.upd H23 p (.lst [.str ("guarded" : Str)])) := Same.new np
              have Sq := Same.upd (u := .lst ([V.str ("guarded" : Str)] ++ sv.map V.str)) Sp (Sp.free nq)
              have S234 := Sq.trans S24
              have hD24 := S234 _ _ hD23
              refine ⟨⟨_, rfl⟩, _, rfl, _, rfl, D, _, rfl, SqL.of hD24, fun u nu => ?_⟩
              rw [show (6 : Int) = ((6 : Nat) : Int) from rfl, cut_k sv (by omega)]
              have tl6 : sumL (sv.take 6) ≤ 800 := by
                have h1 := sumL_le (ws := sv.take 6) fun w hw => txs_len okr w (sm w (List.mem_of_mem_take hw))
                have h2 := Nat.mul_le_mul_right (60 + 1) (show (sv.take 6).length ≤ 6 by rw [List.length_take]; omega)
                omega
              refine ⟨"\n", u, sv.take 6, rfl, rfl, .inl (SqL.of upd_same), sumc _ (by omega), ?_⟩
              rw [join_eq]
              refine ⟨_, rfl, Nat.le_trans (join_lenN _) (by omega), fun H25 S25 => ⟨_, rfl, iteF ?_⟩⟩
              have Su0 : Same H24 (L2.upd H24 u (.lst ((sv.take 6).map V.str))) := Same.new nu
              have Su := Su0.trans S25
              have S2125 := ((S22.trans S23).trans S234).trans Su
              have B25 := B21.mono S2125
              have R25 := R21.mono S2125
              obtain ⟨d5, hb5⟩ := B25.bk
              refine ⟨_, rfl, _, rfl, b, bl, a, rs3, rfl, B25, R25, _, rfl, iteT ?_⟩
              refine ⟨_, rfl, b, d5, _, rfl, hb5, b, bl, rs3, rfl, B25, fun H26 S26 => ?_⟩
              rw [bk]
              refine ⟨_, rfl, rfl, ?_⟩
              rw [decide_eq_true rfl]
              exact k _
            · intro ap
              have : 6 < (Txt.split (Str.join nlc sv) nlc).length := by rw [js]; omega
              exact absurd few (by show ¬ (Txt.split (Str.join nlc sv) nlc).length ≤ 6; omega)
            · intro rs' ap
              have : 6 < (Txt.split (Str.join nlc sv) nlc).length := by rw [js]; omega
              exact absurd few (by show ¬ (Txt.split (Str.join nlc sv) nlc).length ≤ 6; omega)
end

theorem endA {P : Program} [SupP P pFile] {w : World} {K : PySem.W.Frag} {h : Heap} {mg : Str → Option Value} {f : Addr} (X : K.In h) (G : h.Ns mainGlobals mg) (hfa : mg ("law" : Str) = some (.ref f)) (c : SaysX faAll fxAll dsAll K) :
    ∃ fd : FuncData, (∀ (s : Shared) (v : Value), BindsTo s fd ⟨[v], []⟩ [("_law_script", v)]) ∧ ∀ base : Heap, K.In base → base.Ns mainGlobals mg → FnOk P w K mg base CX0 14 f fd ["_law_script"] (spLaw K) := by
  have T := Tx.of X G c
  cases hfa.symm.trans T.g_law
  exact ⟨_, fun s v => FunD.bindsA (ps := ["_law_script"]) T.F_law (fun _ _ _ _ _ _ us hl => match us, hl with | [_], _ => rfl) s [v] rfl, fun base _ _ => ok_law T⟩
end Hue
open PySem PySem.W PySem.Calls PyProof.Rows
theorem PySem.Challenge.cw_huerounds_k11_book_text_holds : PySem.Challenge.rw_huerounds_k11_book_text.Holds := by
  w_on; o_law
  refine HandSHeadRun.head_any (r := OpenLaw.row PySem.Challenge.rw_huerounds_k11_book_text) (q := view (OpenLaw.row PySem.Challenge.rw_huerounds_k11_book_text).prog [35]) (H := Hue.hkA) (ob := Hue.obA) (M := 8000) (loose := Hue.looseAll)
    (d := HandSHeadRun.topDef (OpenLaw.row PySem.Challenge.rw_huerounds_k11_book_text).prog 35) (kwd := []) Hue.obA_eq
    (by kernel_rfl) (fun s => by kernel_rfl) Hue.runA (by kernel_rfl) (by kernel_rfl) (by kernel_rfl) (by rfl) (by first | assumption | decide +kernel) (by decide +kernel) ⟨rfl, rfl, rfl, rfl, rfl, by decide +kernel⟩ ?hw ?hc
  case hw => w_witness2
  case hc =>
    refine L2.walk_ofE (l := PySem.Challenge.rw_huerounds_k11_book_text) (n := 63) (k := 14) (x := "_law_script") (CX := L2.CX0) rfl (by decide) (by kernel_rfl) ⟨rfl, by decide, by decide⟩ ?F (fun _ _ _ _ z => z)
    intro w mg fa h Y G hmg0
    obtain ⟨K, KX, c⟩ := Y
    have hmg : mg ("law" : PySem.Str) = some (.ref fa) := by
      have e : (HandSHeadRun.topDef (OpenLaw.row PySem.Challenge.rw_huerounds_k11_book_text).prog 35).name = ("law" : PySem.Str) := by kernel_rfl
      rw [← e]
      exact hmg0
    obtain ⟨fd, hb, hF⟩ := Hue.endA (P := (PySem.Challenge.pw_huerounds_k11_book_text)) (w := w) KX G hmg c
    exact ⟨K, fd, Hue.spLaw K, KX, hb, fun H a ns hl _ hS => ⟨a, ns, rfl, hS, hl, fun _ => rfl⟩, hF⟩
#print axioms PySem.Challenge.cw_huerounds_k11_book_text_holds
