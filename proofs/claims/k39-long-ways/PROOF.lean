import PyProof.Rows.All
import Wide.All
import OpenK.AllK
import Wide.FinOn
import KE.KStateDown
import KE.KOpsOwn
import KE.KEqSeq
import KE.KSuper
import PyProof.P3Eq
import HandS.ForMost
import HandS.Wide
import HandS.Exc
import HandS.Defaults
import HandS.Property
import HandS.MakeKwOnly
import HandS.ClsMeth
import HandS.Star
import HandS.Codes
import HandS.WordsExc
import HandS.IsInst
import HandS.Head0
import HandS.Head1
import HandS.Head2
import HandS.HeadEnd
import HandS.HeadHook1
import HandS.HeadHook2
import HandS.ExcIs
import HandS.ExcOwn
import HandS.ExcInit
import HandS.ExcField
import HandS.ExcValue
import HandS.OwnEq
import HandS.SlotsOwn
import HandS.More
import HandS.FStr
import HandS.HotCalls
import KE.KSuperObj
import KE.KExcSuper
import HandS.Nested
import HandS.ExcSuper
import KE.KParD
import PyProof.DictUpdate
import HandS.Dict
import HandS.Iter
import OpenK.KMake
import HandS.Zip
import HandS.Walk
import HandS.TupAny
import HandS.WideBits
import PyProof.FString3
import KE.GoesMore
import KE.KxField
import PyProof.TwoTypes
import PyProof.FactsAll.int_3
import HandS.Deep
import PyProof.P3In
import KE.GoesEnum
import PyProof.EnumMake
import KE.SortData
import HandS.OwnIter
import HandS.IterVal
import PyProof.Rows.Range3
import HandS.ReplaceLit
import HandS.ReplaceList
import PyProof.RulesMatchSeq
import PyProof.Rows.MatchSeqLen
import KE.KUnpackStar
import HandS.TupSets
import HandS.Finally
import HandS.Style
import HandS.Small
import PySem.Challenge.RW_huerounds_k39_long_ways
set_option Elab.async false
set_option linter.all false
set_option maxRecDepth 100000
set_option maxHeartbeats 4000000
/-! The base of all our proofs about huerounds: the head's facts by names (own hook), own rules, own words. -/
namespace Hue
open PySem PySem.Spec PyProof.Rows L2

/-! ### defs of the text, found by an address of K -/
def noFd : FuncData := PySem.W.fnOf Str.empty Str.empty (defArgs (.Pass ⟨0, 0, 0, 0⟩)) [] (defScope (.Pass ⟨0, 0, 0, 0⟩)) .none .none .none .none none .none .none
def fdD (K : PySem.W.Frag) (a : Addr) : FuncData :=
  match K.lookup a with
  | some ⟨_, _, .func g, _⟩ => g
  | _ => noFd
abbrev Row8 : Type := Option (Str × Str × Arguments × FuncBody × Scope × Addr × List Str × Addr)
def rowAt (K : PySem.W.Frag) (a : Addr) : Row8 :=
  match K.lookup a with
  | some ⟨_, _, .func g, _⟩ => some (g.name, g.qualname, g.params, g.body, g.scope, g.globals, g.closure.map (·.1), g.builtins)
  | _ => none
/-- a def of the text: where it stands, its names, its statement, its defaults -/
structure DX where
  ad : PySem.W.Frag → Addr
  nm : Str
  ql : Str
  st : Stmt
  df : List He.Dv := []
  kd : List (Str × He.Dv) := []
  fr : List Str := []
def DX.row (d : DX) : Row8 := some (d.nm, d.ql, defArgs d.st, .stmts (defBody d.st), defScope d.st, mainGlobals, d.fr, builtinsNs)
def DX.dvs (K : PySem.W.Frag) (d : DX) : List V := d.df.map (He.Dv.v K)
def DX.kws (K : PySem.W.Frag) (d : DX) : List (Str × V) := d.kd.map fun q => (q.1, q.2.v K)
def DX.okB (K : PySem.W.Frag) (d : DX) : Bool :=
  PySem.W.keepIn K (.ref (d.ad K)) &&
  (match K.lookup (d.ad K) with
  | some ⟨_, _, .func g, _⟩ => PySem.W.codeIn K g.code d.ql && (He.dflB K g.defaults (d.dvs K) && He.kwdB K g.kwdefaults (d.kws K))
  | _ => false)
theorem map_nil_of {l : List (Str × Addr)} (h : l.map (·.1) = []) : l = [] := by
  cases l with
  | nil => rfl
  | cons a r => cases h
theorem DX.funD {K : PySem.W.Frag} {d : DX} (e : rowAt K (d.ad K) = d.row) (c : d.okB K = true) (hf : d.fr = []) :
    FunD K d.nm d.ql (defArgs d.st) (defBody d.st) (defScope d.st) (d.dvs K) (d.kws K) (d.ad K) (fdD K (d.ad K)) := by
  obtain ⟨kp, c2⟩ := He.ba c
  unfold rowAt at e
  unfold fdD
  cases q : K.lookup (d.ad K) with
  | none => rw [q] at c2; cases c2
  | some o =>
    obtain ⟨oc, od, dt, osl⟩ := o
    rw [q] at c2 e
    cases dt with
    | func g =>
      obtain ⟨n1, n2, n3, n4, n5, n6, n7, n8, n9, n10, n11, n12, n13, n14, n15⟩ := g
      have e2 : (some (n1, n2, n3, n4, n5, n6, n7.map (·.1), n15) : Row8) = d.row := e
      unfold DX.row at e2
      simp only [Option.some.injEq, Prod.mk.injEq] at e2
      obtain ⟨h1, h2, h3, h4, h5, h6, h7, h8⟩ := e2
      rw [hf] at h7
      have h7' := map_nil_of h7
      subst h1 h2 h3 h4 h5 h6 h7' h8
      obtain ⟨k1, k2⟩ := He.ba (show (PySem.W.codeIn K n13 d.ql && (He.dflB K n8 (d.dvs K) && He.kwdB K n9 (d.kws K))) = true from c2)
      obtain ⟨k3, k4⟩ := He.ba k2
      exact ⟨⟨oc, od, n8, n9, n10, n11, n12, n13, n14, osl, rfl, q, k1, He.dflB_ok k3, He.kwdB_ok k4⟩, kp⟩
    | _ => cases c2
/-- a def of a class that says super(): its one cell -/
structure FunC (K : PySem.W.Frag) (x qual : Str) (params : Arguments) (body : List Stmt) (scope : Scope) (f cc : Addr) (cdv : Value) (fd : FuncData) : Prop where
  ex : ∃ (oc : Value) (od : Option Addr) (dV kV doc pm : Value) (an : Option Addr) (ct : Value) (osl : Array (Option Value)),
    fd = PySem.W.fnX x qual params body scope [("__class__", cc)] dV kV doc pm an cdv ct ∧ K.lookup f = some ⟨oc, od, .func fd, osl⟩ ∧ PySem.W.codeIn K cdv qual = true ∧ dV = .none
  kp : PySem.W.keepIn K (.ref f) = true
theorem DX.funC {K : PySem.W.Frag} {d : DX} (e : rowAt K (d.ad K) = d.row) (c : d.okB K = true) (hf : d.fr = [("__class__" : Str)]) (hd : d.df = []) :
    ∃ cc cdv, FunC K d.nm d.ql (defArgs d.st) (defBody d.st) (defScope d.st) (d.ad K) cc cdv (fdD K (d.ad K)) := by
  obtain ⟨kp, c2⟩ := He.ba c
  unfold rowAt at e
  unfold fdD
  cases q : K.lookup (d.ad K) with
  | none => rw [q] at c2; cases c2
  | some o =>
    obtain ⟨oc, od, dt, osl⟩ := o
    rw [q] at c2 e
    cases dt with
    | func g =>
      obtain ⟨n1, n2, n3, n4, n5, n6, n7, n8, n9, n10, n11, n12, n13, n14, n15⟩ := g
      have e2 : (some (n1, n2, n3, n4, n5, n6, n7.map (·.1), n15) : Row8) = d.row := e
      unfold DX.row at e2
      simp only [Option.some.injEq, Prod.mk.injEq] at e2
      obtain ⟨h1, h2, h3, h4, h5, h6, h7, h8⟩ := e2
      rw [hf] at h7
      obtain ⟨cc, h7'⟩ : ∃ cc, n7 = [(("__class__" : Str), cc)] := by
        match n7, h7 with
        | [(y, cc)], z =>
          have z2 : [y] = [("__class__" : Str)] := z
          injection z2 with z3 _
          exact ⟨cc, by rw [z3]⟩
      subst h1 h2 h3 h4 h5 h6 h7' h8
      obtain ⟨k1, k2⟩ := He.ba (show (PySem.W.codeIn K n13 d.ql && (He.dflB K n8 (d.dvs K) && He.kwdB K n9 (d.kws K))) = true from c2)
      obtain ⟨k3, k4⟩ := He.ba k2
      have hD := He.dflB_ok k3
      have e0 : n8 = .none := by
        rcases hD with ⟨_, e⟩ | ⟨e, _⟩
        · exact e
        · exact absurd (show DX.dvs K d = [] by unfold DX.dvs; rw [hd]; rfl) e
      exact ⟨cc, n13, ⟨oc, od, n8, n9, n10, n11, n12, n14, osl, rfl, q, k1, e0⟩, kp⟩
    | _ => cases c2

/-! ### more facts of the top -/
abbrev gad (x : Str) (K : PySem.W.Frag) : Addr := He.ga K x
abbrev mad (C m : Str) (K : PySem.W.Frag) : Addr := He.ma K (He.ga K C) m
/-- the getter behind a property, the def behind a classmethod -/
def pad (T : String) (C m : Str) (K : PySem.W.Frag) : Addr :=
  match PySem.W.recIn K (He.ma K (He.ga K C) m) T with
  | some (.ref g :: _) => g
  | _ => 0
/-- the def behind a property's setter -/
def sad (C m : Str) (K : PySem.W.Frag) : Addr :=
  match PySem.W.recIn K (He.ma K (He.ga K C) m) "property" with
  | some (_ :: .ref g :: _) => g
  | _ => 0
inductive Kx where
  | ty (n : String)
  | own (x : Str)
def Kx.v (K : PySem.W.Frag) : Kx → Value
  | .ty n => .type n
  | .own x => .ref (He.ga K x)
inductive Fx where
  | prop (C f : Str)
  | tup (x : Str) (vs : List He.Dv)
  | inst (C : Str)
  | kit (t c : Kx) (b : Bool)
  | bop (C m r : Str) (T : String)
  | cread (C : Str)
  | cmeth (C m : Str)
  | cint (C f : Str) (i : Int)
  | own (C m : Str)
  | excC (D : Str)
  | nf (C : Str) (t : Kx)
  | sub (C : Str) (t : Kx) (b : Bool)
  | oex (C : Str)
  | sup (C D : Str) (fl ar : Str)
  | einit (C D : Str)
  | pset (C f : Str)
  | bopr (C m r : Str) (T : String)
  | bopo (C m : Str)
  | bmet (C m : Str)
def eqB (a b : Option Bool) : Bool := decide (a = b)
def someO (a : Option (Option Value)) : Bool := a.isSome
def Fx.ok (K : PySem.W.Frag) : Fx → Bool
  | .prop C f =>
    He.eqO (PySem.W.findIn K (.ref (gad C K)) f) (some (some (.ref (mad C f K)))) &&
    (He.eqO (PySem.W.specialIn K (.ref (mad C f K)) "__get__") (some (some (.builtin "property.__get__"))) &&
    (eqB (PySem.W.takesIn K (.ref (mad C f K))) (some true) &&
    (match PySem.W.recIn K (mad C f K) "property" with
      | some (.ref _ :: _) => true
      | _ => false)))
  | .tup x vs => He.tupB K x vs
  | .inst C =>
    He.eqO (PySem.W.findIn K (.ref (gad C K)) "__class__") (some (some (.builtin "object.__class__"))) &&
    (He.eqO (PySem.W.specialIn K (.builtin "object.__class__") "__get__") (some (some (.builtin "getset_descriptor.__get__"))) &&
    (eqB (PySem.W.takesIn K (.builtin "object.__class__")) (some true) &&
    eqB (PySem.W.mroIn K (gad C K) (.type "object")) (some true)))
  | .kit t c b => eqB (PySem.W.kitOne K (t.v K) (c.v K)) (some b)
  | .bop C m r T =>
    PySem.W.selfFirst K (gad C K) &&
    (He.eqO (PySem.W.findIn K (.ref (gad C K)) m) (some (some (.ref (mad C m K)))) &&
    (PySem.W.isFn K (.ref (mad C m K)) &&
    (He.eqO (PySem.W.findIn K (.ref (gad C K)) r) (some none) &&
    (someO (PySem.W.findIn K (.type T) m) && (someO (PySem.W.findIn K (.type T) r) &&
    eqB (PySem.W.subIn K (.type T) (.ref (gad C K))) (some false))))))
  | .cread C => PySem.W.readsIn K (gad C K) (.type "type") && He.eqO (PySem.W.specialIn K (.ref (gad C K)) "__getattribute__") (some (some (.builtin "type.__getattribute__")))
  | .cmeth C m =>
    (match PySem.W.findCls K (.ref (gad C K)) (.type "type") m with
      | some (.get (.builtin g) (.ref p) .none (.ref D)) => decide (g = "classmethod.__get__") && (decide (p = mad C m K) && decide (D = gad C K))
      | _ => false) &&
    ((match PySem.W.recIn K (mad C m K) "classmethod" with
      | some (.ref _ :: _) => true
      | _ => false) && PySem.W.fnIn K (pad "classmethod" C m K))
  | .cint C f i =>
    (match PySem.W.findCls K (.ref (gad C K)) (.type "type") f with
      | some (.val (.int j _)) => decide (j = i)
      | _ => false)
  | .own C m => He.eqO (PySem.W.findIn K (.ref (gad C K)) m) (some (some (.ref (mad C m K)))) && (PySem.W.isFn K (.ref (mad C m K)) && (PySem.W.fnIn K (mad C m K) && PySem.W.noSeq K (gad C K)))
  | .excC D =>
    He.eqO (PySem.W.findIn K (.ref (gad D K)) "__getattribute__") (some (some (.builtin "BaseException.__getattribute__"))) &&
    (He.eqO (PySem.W.findIn K (.ref (gad D K)) "__getattr__") (some none) &&
    (eqB (PySem.W.subIn K (.ref (gad D K)) (.type "BaseException")) (some true) &&
    (PySem.W.hasDictIn K (gad D K) &&
    (He.eqO (PySem.W.findIn K (.ref (gad D K)) "__class__") (some (some (.builtin "object.__class__"))) &&
    (He.eqO (PySem.W.specialIn K (.builtin "object.__class__") "__get__") (some (some (.builtin "getset_descriptor.__get__"))) &&
    (eqB (PySem.W.takesIn K (.builtin "object.__class__")) (some true) &&
    eqB (PySem.W.mroIn K (gad D K) (.type "object")) (some true)))))))
  | .nf C t => PySem.W.notFirst K (gad C K) (t.v K)
  | .sub C t b => eqB (PySem.W.subIn K (.ref (gad C K)) (t.v K)) (some b)
  | .oex C =>
    (match K.lookup (gad C K) with
      | some ⟨.type "type", _, .cls cd, sl⟩ => (match cd.mro, sl.toList with
        | .ref C' :: bm, [_, _, _, _, some (.builtin n), _] => decide (C' = gad C K) && (decide (n = "ValueError.__new__") && (!cd.hasDel && (cd.hasDict && PySem.HandSPX.refsVE bm)))
        | _, _ => false)
      | _ => false) &&
    (He.eqO (PySem.W.findIn K (.ref (gad C K)) "__setattr__") (some (some (.builtin "object.__setattr__"))) &&
    (eqB (PySem.W.subIn K (.ref (gad C K)) (.type "BaseException")) (some true) &&
    (decide (PySem.W.typeIn K (.ref (gad C K)) = some (.type "type")) && PySem.W.keepIn K (.ref (gad C K)))))
  | .sup C D fl ar =>
    (match K.lookup (mad D "__init__" K) with
      | some ⟨_, _, .func fd, _⟩ =>
        (match (fd.params.posonlyargs ++ fd.params.args).head? with
          | some a => decide (a.arg = ar)
          | none => false) &&
        ((match fd.closure with
          | [(_, cc)] => (match K.lookup cc with
            | some ⟨_, _, .cell (some (.ref a)), _⟩ => decide (a = gad D K)
            | _ => false)
          | _ => false) &&
        (match fd.code with
          | .ref c => (match K.lookup c with
            | some ⟨_, _, .fields vs, _⟩ => (match (vs[2]? : Option Value) with
              | some (Value.str z _) => decide (z = fl)
              | _ => false)
            | _ => false)
          | _ => false))
      | _ => false) &&
    ((PySem.W.clsIn K (gad D K)).isSome && ((PySem.W.clsIn K (gad C K)).isSome && (eqB (PySem.W.mroIn K (gad C K) (.ref (gad D K))) (some true) && (He.eqO (PySem.W.nsIn K cStatics "thirdparty.any") (some none) &&
    (He.eqO (PySem.W.ks_superIn K (gad C K) (gad D K) "__init__") (some (some (.builtin "ValueError.__init__"))) && eqB (PySem.W.subIn K (.ref (gad C K)) (.type "ValueError")) (some true))))))
  | .pset C f =>
    He.eqO (PySem.W.takerIn K (gad C K) f) (some (some (.ref (mad C f K)))) && (decide (PySem.W.typeIn K (.ref (mad C f K)) = some (.type "property")) &&
    (match PySem.W.recIn K (mad C f K) "property" with
      | some (_ :: .ref _ :: _) => true
      | _ => false))
  | .bopr C m r T =>
    PySem.W.selfFirst K (gad C K) &&
    (He.eqO (PySem.W.findIn K (.ref (gad C K)) m) (some (some (.ref (mad C m K)))) &&
    (PySem.W.isFn K (.ref (mad C m K)) &&
    (He.eqO (PySem.W.findIn K (.ref (gad C K)) r) (some (some (.ref (mad C r K)))) &&
    (PySem.W.isFn K (.ref (mad C r K)) &&
    (someO (PySem.W.findIn K (.type T) m) && (someO (PySem.W.findIn K (.type T) r) &&
    (eqB (PySem.W.subIn K (.type T) (.ref (gad C K))) (some false) && eqB (PySem.W.subIn K (.ref (gad C K)) (.type T)) (some false))))))))
  | .bopo C m => PySem.W.selfFirst K (gad C K) && (He.eqO (PySem.W.findIn K (.ref (gad C K)) m) (some (some (.ref (mad C m K)))) && PySem.W.isFn K (.ref (mad C m K)))
  | .bmet C m => He.eqO (PySem.W.specialIn K (.ref (mad C m K)) "__get__") (some (some (.builtin "function.__get__"))) && (eqB (PySem.W.takesIn K (.ref (mad C m K))) (some false) && PySem.W.fnIn K (mad C m K))
  | .einit C D => He.eqO (PySem.W.findIn K (.ref (gad C K)) "__init__") (some (some (.ref (mad D "__init__" K)))) && decide (PySem.W.typeIn K (.ref (mad D "__init__" K)) = some (.type "function"))
section
variable {K : PySem.W.Frag}
theorem rec_ok {T : String} {C m : Str} (c : (match PySem.W.recIn K (mad C m K) T with
      | some (.ref _ :: _) => true
      | _ => false) = true) : ∃ rest, PySem.W.recIn K (mad C m K) T = some (.ref (pad T C m K) :: rest) := by
  unfold pad
  cases e : PySem.W.recIn K (mad C m K) T with
  | none => rw [e] at c; cases c
  | some l =>
    rw [e] at c
    cases l with
    | nil => cases c
    | cons v r =>
      cases v with
      | ref g => exact ⟨r, rfl⟩
      | _ => cases c
theorem cread_ok {C : Str} (c : (Fx.cread C).ok K = true) : ClX.CRead K (gad C K) (.type "type") := by
  obtain ⟨c1, c2⟩ := He.ba c
  exact ⟨c1, He.eqO_ok c2⟩
theorem cmeth_ok {C m : Str} (c : (Fx.cmeth C m).ok K = true) : ClX.CMet K (gad C K) (.type "type") m (mad C m K) (pad "classmethod" C m K) := by
  obtain ⟨c1, c⟩ := He.ba c
  obtain ⟨c2, c3⟩ := He.ba c
  refine ⟨?_, rec_ok c2, c3⟩
  split at c1
  · rename_i g p D e
    obtain ⟨k1, k⟩ := He.ba c1
    obtain ⟨k2, k3⟩ := He.ba k
    rw [e, of_decide_eq_true k1, of_decide_eq_true k2, of_decide_eq_true k3]
  · cases c1
theorem cint_ok {C f : Str} {i : Int} (c : (Fx.cint C f i).ok K = true) : ∃ u, ClX.CVal K (gad C K) (.type "type") f (.int i) u := by
  have c1 : (match PySem.W.findCls K (.ref (gad C K)) (.type "type") f with
      | some (.val (.int j _)) => decide (j = i)
      | _ => false) = true := c
  split at c1
  · rename_i j t e
    refine ⟨_, e, ⟨t, ?_⟩⟩
    rw [of_decide_eq_true c1]
  · cases c1
theorem prop_ok {C f : Str} (c : (Fx.prop C f).ok K = true) : PropOf K (gad C K) f (mad C f K) (pad "property" C f K) := by
  obtain ⟨c1, c⟩ := He.ba c
  obtain ⟨c2, c⟩ := He.ba c
  obtain ⟨c3, c4⟩ := He.ba c
  refine ⟨He.eqO_ok c1, He.eqO_ok c2, of_decide_eq_true c3, ?_⟩
  unfold pad
  cases e : PySem.W.recIn K (mad C f K) "property" with
  | none => rw [e] at c4; cases c4
  | some l =>
    rw [e] at c4
    cases l with
    | nil => cases c4
    | cons v r =>
      cases v with
      | ref g =>
        exact ⟨r, rfl⟩
      | _ => cases c4
theorem bmet_ok {C m : Str} (c : (Fx.bmet C m).ok K = true) : PySem.W.specialIn K (.ref (mad C m K)) "__get__" = some (some (.builtin "function.__get__")) ∧ PySem.W.takesIn K (.ref (mad C m K)) = some false ∧ PySem.W.fnIn K (mad C m K) = true := by
  obtain ⟨c1, c⟩ := He.ba c
  obtain ⟨c2, c3⟩ := He.ba c
  exact ⟨He.eqO_ok c1, of_decide_eq_true c2, c3⟩
/-- a property with a setter -/
structure PSetOf (K : PySem.W.Frag) (C : Addr) (f : Str) (p g : Addr) : Prop where
  tk : PySem.W.takerIn K C f = some (some (.ref p))
  ty : PySem.W.typeIn K (.ref p) = some (.type "property")
  rc : ∃ a rest, PySem.W.recIn K p "property" = some (a :: .ref g :: rest)
theorem pset_ok {C f : Str} (c : (Fx.pset C f).ok K = true) : PSetOf K (gad C K) f (mad C f K) (sad C f K) := by
  obtain ⟨c1, c⟩ := He.ba c
  obtain ⟨c2, c3⟩ := He.ba c
  refine ⟨He.eqO_ok c1, of_decide_eq_true c2, ?_⟩
  unfold sad
  split at c3
  · rename_i a g rest e
    exact ⟨a, rest, by rw [e]⟩
  · cases c3
theorem inst_ty {C : Str} (c : (Fx.inst C).ok K = true) (cl : Cls K (gad C K)) {H : Hp} {a dx : Addr} {fs : List (Str × V)} (e : H a = some (.ins (gad C K) dx fs)) : TyX K H (.ref a) (.ref (gad C K)) := by
  obtain ⟨c1, c⟩ := He.ba c
  obtain ⟨c2, c⟩ := He.ba c
  obtain ⟨c3, c4⟩ := He.ba c
  exact .base (.ins e cl (He.eqO_ok c1) (He.eqO_ok c2) (of_decide_eq_true c3) (of_decide_eq_true c4))
theorem nf_ok {C : Str} {t : Kx} (h : (Fx.nf C t).ok K = true) : PySem.W.notFirst K (gad C K) (t.v K) = true := h
theorem sub_ok {C : Str} {t : Kx} {b : Bool} (h : (Fx.sub C t b).ok K = true) : PySem.W.subIn K (.ref (gad C K)) (t.v K) = some b := of_decide_eq_true h
theorem kit_ok {t c : Kx} {b : Bool} (h : (Fx.kit t c b).ok K = true) : PySem.W.kitOne K (t.v K) (c.v K) = some b := of_decide_eq_true h
end
/-! ### the hook -/
abbrev AlX : Type := Bool × List Row8
def obsX (fa : List He.Fa) (fx : List Fx) (ds : List DX) (K : PySem.W.Frag) : AlX :=
  ((fa.all fun f => f.ok K) && ((fx.all fun f => f.ok K) && ds.all fun d => d.okB K), ds.map fun d => rowAt K (d.ad K))
def valX (ds : List DX) : AlX := (true, ds.map DX.row)
def SaysX (fa : List He.Fa) (fx : List Fx) (ds : List DX) (K : PySem.W.Frag) : Prop := obsX fa fx ds K = valX ds
def obsXG (n : Nat) (fa : List He.Fa) (fx : List Fx) (ds : List DX) (g : Addr → Option Obj) : AlX := obsX fa fx ds (He.frG g (cStatics :: He.asD g n))
def hookX (n : Nat) (fa : List He.Fa) (fx : List Fx) (ds : List DX) : PySem.W.Hook where
  α := AlX
  obs := fun s => obsXG n fa fx ds s.heap.get?
  val := fun _ => valX ds
  says := fun _ h => ∃ K : PySem.W.Frag, K.In h ∧ SaysX fa fx ds K
  of := fun _ _ e => ⟨_, He.frG_in, e⟩
  keeps := fun _ _ _ ⟨K, hK, c⟩ k => ⟨K, PySem.W.Frag.In.keeps hK k, c⟩
theorem obsXG_eq {n : Nat} {fa : List He.Fa} {fx : List Fx} {ds : List DX} {g : Addr → Option Obj} {s : Shared} (h : ∀ a, g a = s.heap.get? a) : obsXG n fa fx ds g = (hookX n fa fx ds).obs s := by
  cases (funext h : g = s.heap.get?)
  rfl
section
variable {fa : List He.Fa} {fx : List Fx} {ds : List DX} {K : PySem.W.Frag}
theorem SaysX.fact (c : SaysX fa fx ds K) (i : Nat) {f : He.Fa} (h : fa[i]? = some f := by rfl) : f.ok K = true :=
  List.all_eq_true.mp (He.ba (show ((fa.all fun f => f.ok K) && ((fx.all fun f => f.ok K) && ds.all fun d => d.okB K)) = true from congrArg (fun z : AlX => z.1) c)).1 f (List.mem_of_getElem? h)
theorem SaysX.more (c : SaysX fa fx ds K) (i : Nat) {f : Fx} (h : fx[i]? = some f := by rfl) : f.ok K = true :=
  List.all_eq_true.mp (He.ba (He.ba (show ((fa.all fun f => f.ok K) && ((fx.all fun f => f.ok K) && ds.all fun d => d.okB K)) = true from congrArg (fun z : AlX => z.1) c)).2).1 f (List.mem_of_getElem? h)
theorem SaysX.fdc (c : SaysX fa fx ds K) (i : Nat) {d : DX} (h : ds[i]? = some d := by rfl) (hf : d.fr = [("__class__" : Str)] := by rfl) (hd : d.df = [] := by rfl) :
    ∃ cc cdv, FunC K d.nm d.ql (defArgs d.st) (defBody d.st) (defScope d.st) (d.ad K) cc cdv (fdD K (d.ad K)) := by
  have c2 := (He.ba (He.ba (show ((fa.all fun f => f.ok K) && ((fx.all fun f => f.ok K) && ds.all fun d => d.okB K)) = true from congrArg (fun z : AlX => z.1) c)).2).2
  have e : ds.map (fun d => rowAt K (d.ad K)) = ds.map DX.row := congrArg (fun z : AlX => z.2) c
  have e2 : (ds.map fun d => rowAt K (d.ad K))[i]? = (ds.map DX.row)[i]? := by rw [e]
  rw [List.getElem?_map, List.getElem?_map, h] at e2
  exact DX.funC (Option.some.inj e2) (List.all_eq_true.mp c2 d (List.mem_of_getElem? h)) hf hd
theorem SaysX.fd (c : SaysX fa fx ds K) (i : Nat) {d : DX} (h : ds[i]? = some d := by rfl) (hf : d.fr = [] := by rfl) :
    FunD K d.nm d.ql (defArgs d.st) (defBody d.st) (defScope d.st) (d.dvs K) (d.kws K) (d.ad K) (fdD K (d.ad K)) := by
  have c2 := (He.ba (He.ba (show ((fa.all fun f => f.ok K) && ((fx.all fun f => f.ok K) && ds.all fun d => d.okB K)) = true from congrArg (fun z : AlX => z.1) c)).2).2
  have e : ds.map (fun d => rowAt K (d.ad K)) = ds.map DX.row := congrArg (fun z : AlX => z.2) c
  have e2 : (ds.map fun d => rowAt K (d.ad K))[i]? = (ds.map DX.row)[i]? := by rw [e]
  rw [List.getElem?_map, List.getElem?_map, h] at e2
  exact DX.funD (Option.some.inj e2) (List.all_eq_true.mp c2 d (List.mem_of_getElem? h)) hf
end

/-! ### constants of the top -/
abbrev SqTk (K : PySem.W.Frag) (a : Addr) (vs : List V) : Prop := ∀ H : Hp, SqT K H a vs
theorem tup_ok {K : PySem.W.Frag} {x : Str} {vs : List He.Dv} (h : (Fx.tup x vs).ok K = true) : SqTk K (gad x K) (vs.map (He.Dv.v K)) := fun H => He.tupB_ok h H
section
variable {X : Cx}
theorem pe_gi {x : Str} {i : Int} {pos : Pos} (hg : Gl X x) (h : ∃ t, X.mg x = some (.int i t)) (hd : (x == ("__debug__" : Str)) = false := by decide) : PE X (.Name x pos) (tC (.int i)) := by
  obtain ⟨t, h⟩ := h
  exact pe_glob hg h ⟨t, rfl⟩ hd
theorem pe_gs {x z : Str} {pos : Pos} (hg : Gl X x) (h : ∃ t, X.mg x = some (.str z t)) (hd : (x == ("__debug__" : Str)) = false := by decide) : PE X (.Name x pos) (tC (.str z)) := by
  obtain ⟨t, h⟩ := h
  exact pe_glob hg h ⟨t, rfl⟩ hd
theorem pe_gr {x : Str} {a : Addr} {pos : Pos} (hg : Gl X x) (h : X.mg x = some (.ref a)) (hd : (x == ("__debug__" : Str)) = false := by decide) : PE X (.Name x pos) (tC (.ref a)) := pe_glob hg h rfl hd
theorem pe_bty {x : Str} (n : String) {pos : Pos} (hg : Gl X x) (h : X.mg x = none) (hv : bootBuiltins x = some (.type n)) (hn : x ≠ "__name__" := by decide) (hd : (x == ("__debug__" : Str)) = false := by decide) : PE X (.Name x pos) (tC (.ty n)) := pe_bltn hg h hv rfl hn hd
/-! ### int(..) by the kind of its argument -/
theorem call_intI : CallR X (.type "int") (fun xs H Q => ∃ i, xs = [.int i] ∧ Q (.int i) H) := fun pins s σ H xs us Q I r ⟨i, e, q⟩ => call_int1 pins s σ H xs us Q I r (.inl ⟨i, e, q⟩)
theorem call_intB : CallR X (.type "int") (fun xs H Q => ∃ k, xs = [.bl k] ∧ Q (.int (if k then 1 else 0)) H) := fun pins s σ H xs us Q I r ⟨k, e, q⟩ => call_int1 pins s σ H xs us Q I r (.inr ⟨k, e, q⟩)
end
/-! ### what stands in a heap, found by steps (the word "hp") -/
/-- all but the objects of S are as they were -/
def Fr (S : Addr → Prop) (H H' : Hp) : Prop := ∀ a o, ¬ S a → H a = some o → H' a = some o
theorem upd_old {H : Hp} {p a : Addr} {o u : HO} (n : H p = none) (h : H a = some o) : upd H p u a = some o := by rw [upd_ne (ne_of_none h n)]; exact h
theorem upd_oth {H : Hp} {p a : Addr} {o u : HO} (n : a ≠ p) (h : H a = some o) : upd H p u a = some o := by rw [upd_ne n]; exact h
theorem upd_oldN {H : Hp} {p a : Addr} {u : HO} (n : a ≠ p) (h : H a = none) : upd H p u a = none := by rw [upd_ne n]; exact h
theorem same_get {H H' : Hp} {a : Addr} {o : HO} (e : Same H H') (h : H a = some o) : H' a = some o := e a o h
theorem iteB {c : Bool} {A B : Prop} (h1 : c = true → A) (h2 : c = false → B) : if c = true then A else B := by
  cases c with
  | true => exact iteT (h1 rfl)
  | false => exact iteF (h2 rfl)
theorem Same.upd {H H' : Hp} {p : Addr} {u : HO} (e : Same H H') (n : H p = none) : Same H (upd H' p u) := fun a o h => by rw [upd_ne (ne_of_none h n)]; exact e a o h
theorem Same.new {H : Hp} {p : Addr} {u : HO} (n : H p = none) : Same H (L2.upd H p u) := Same.upd (Same.refl H) n

/-! ### an own class's operator with a built-in value on the right -/
/-- o op i, o an instance of C, i an int -/
def rOwnI (C : Addr) (sp : Sp) (E : XK) : R2 := fun x y H Q => ∃ a dx fs i, x = .ref a ∧ H a = some (.ins C dx fs) ∧ y = .int i ∧ sp [.ref a, .int i] H Q E
theorem op_ownI {X : Cx} {CX : CXT} {op : Operator} {C m r : Str} {k : Nat} {fd : FuncData} {ps : List Str} {sp : Sp} {E : XK}
    (cl : Cls X.K (gad C X.K)) (b : (Fx.bop C m r "int").ok X.K = true) (em : PySem.dunder op.info.2 = m) (er : PySem.dunderR op.info.2 = r)
    (F : FnOk X.prog X.w X.K X.mg X.base CX k (mad C m X.K) fd ps sp) (hr : Room k X.A) (hb : Binds X.K fd ps []) (hx : Passes CX X E) : OpR X (binaryOp op) (rOwnI (gad C X.K) sp E) := by
  intro pins s σ H x y v u Q I rx ry h
  obtain ⟨a, dx, fs, i, rfl, ea, rfl, q⟩ := h
  obtain rfl : v = Value.ref a := rx
  obtain ⟨t, rfl⟩ := ry
  obtain ⟨c1, c⟩ := He.ba b
  obtain ⟨c2, c⟩ := He.ba c
  obtain ⟨c3, c⟩ := He.ba c
  obtain ⟨c4, c⟩ := He.ba c
  obtain ⟨c5, c⟩ := He.ba c
  obtain ⟨c6, c7⟩ := He.ba c
  obtain ⟨fo, h5⟩ := Option.isSome_iff_exists.mp c5
  obtain ⟨ro, h6⟩ := Option.isSome_iff_exists.mp c6
  obtain ⟨mA, O, _⟩ := ins_get I.hok ea
  obtain ⟨od, J, _⟩ := O.look
  obtain ⟨m0, Fm⟩ := I.fr
  subst em er
  refine PySem.W.ksp_binT (T := "int") Fm I.ok.mod.kin J rfl c1 (He.eqO_ok c2) c3 (He.eqO_ok c4) (.inl rfl) h5 h6 (of_decide_eq_true c7) ?_
  refine thn (run_fn (us := [.ref a, .int i t]) (vs := [.ref a, .int i]) F hr hb .nil hx I (.cons rfl (.cons ⟨t, rfl⟩ .nil)) q) fun u s' hq => ?_
  obtain ⟨z, H', I', rz, qz⟩ := hq
  have fin : EP X pins σ Q u s' := ⟨z, H', I', rz, qz⟩
  cases z with
  | non => obtain rfl : u = Value.none := rz; exact fin
  | bl _ => obtain rfl : u = Value.bool _ := rz; exact fin
  | int _ => obtain ⟨t', rfl⟩ := rz; exact fin
  | str _ => obtain ⟨t', rfl⟩ := rz; exact fin
  | byt _ => obtain ⟨t', rfl⟩ := rz; exact fin
  | flt _ => obtain ⟨t', rfl⟩ := rz; exact fin
  | ref _ => obtain rfl : u = Value.ref _ := rz; exact fin
  | ty _ => obtain rfl : u = Value.type _ := rz; exact fin

/-! ### a class called with a starred list; a def with a starred parameter -/
/-- C(*y): a new instance, __init__ with the items -/
def tMakeSt (K0 : PySem.W.Frag) (C : Addr) (sp : Sp) (E : XK) (te : TE) : TE := fun σ H Q => te σ H fun y H1 => ∃ a xs, y = V.ref a ∧ (SqT K0 H1 a xs ∨ SqL K0 H1 a xs) ∧ ∀ x dx, H1 x = none → H1 dx = none → dx ≠ x →
  sp (.ref x :: xs) (upd (upd H1 dx (.own x)) x (.ins C dx [])) (fun v H2 => v = .non ∧ Q (.ref x) H2) E
/-- .. where slot i holds the class -/
def tMakeLS (K0 : PySem.W.Frag) (i : Nat) (C : Addr) (sp : Sp) (E : XK) (te : TE) : TE := fun σ H Q => σ[i]? = some (some (.ref C)) ∧ tMakeSt K0 C sp E te σ H Q
section
variable {X : Cx} {CX : CXT} {k i : Nat} {f C : Addr} {sp : Sp} {E : XK} {x : Str} {e : Expr} {te : TE} {p q pos : Pos}
theorem pe_makeGS (M : Mk X.K C f) (F : FnR X.prog X.w X.K X.mg X.base CX k f sp) (hr : Room (k + 1) X.A) (hx : Passes CX X E) (hg : Gl X x) (hm : X.mg x = some (.ref C)) (he : PE X e te)
    (hd : (x == ("__debug__" : Str)) = false := by decide) (hst : starEach [.Starred e q] X.env = [(true, eval e X.env)] := by rfl) :
    PE X (.Call (.Name x p) [.Starred e q] [] pos) (tMakeSt X.K C sp E te) := by
  refine ⟨fun pins s σ H Q I h => ?_⟩
  refine wpAny_Call_Name_kw (ld_glob I hg hm ?_ hd)
  refine PySem.W.callWith_S (h₀ := X.base) I.ok.mod.kin M.kp (thn (he.run pins s σ H _ I h) fun v s1 ⟨y, H1, I1, ry, a, xs, ey, hxs, z⟩ => ?_) hst
  subst ey
  obtain rfl : v = Value.ref a := ry
  exact StX.star_any I1 hxs fun us s2 I2 rv => ⟨I2.kIn, StX.run_makeR M F hr hx I2 rv z⟩
theorem pe_makeLS (M : Mk X.K C f) (F : FnR X.prog X.w X.K X.mg X.base CX k f sp) (hr : Room (k + 1) X.A) (hx : Passes CX X E) (hN : X.N[i]? = some x) (hv : Vis X.env.scope x) (he : PE X e te)
    (hd : (x == ("__debug__" : Str)) = false := by decide) (hcd : (x == ("__classdict__" : Str)) = false := by decide) (hst : starEach [.Starred e q] X.env = [(true, eval e X.env)] := by rfl) :
    PE X (.Call (.Name x p) [.Starred e q] [] pos) (tMakeLS X.K i C sp E te) := by
  refine ⟨fun pins s σ H Q I h => ?_⟩
  obtain ⟨hs, h⟩ := h
  refine wpAny_Call_Name_kw (thn ((pe_var (pos := p) (i := i) hN hv hd hcd).run pins s σ H (fun v H1 => v = .ref C ∧ H1 = H) I ⟨.ref C, hs, rfl, rfl⟩) fun u s1 ⟨v, H1, I1, r1, ev, eH⟩ => ?_)
  subst ev
  rw [eH] at I1
  cases r1
  refine PySem.W.callWith_S (h₀ := X.base) I.ok.mod.kin M.kp (thn (he.run pins s1 σ H _ I1 h) fun v s2 ⟨y, H2, I2, ry, a, xs, ey, hxs, z⟩ => ?_) hst
  subst ey
  obtain rfl : v = Value.ref a := ry
  exact StX.star_any I2 hxs fun us s3 I3 rv => ⟨I3.kIn, StX.run_makeR M F hr hx I3 rv z⟩
end
section
variable {P : Program} {w : World} {K : PySem.W.Frag} {mg : Str → Option Value} {base : Heap} {CX : CXT} {k : Nat} {f : Addr} {fd : FuncData} {ps N : List Str} {sp : Sp} {x qual pv : Str} {params : Arguments} {body : List Stmt} {scope : Scope}
theorem fnr_of (F : FnOk P w K mg base CX k f fd ps sp) (hb : Binds K fd ps []) : FnR P w K mg base CX k f sp :=
  (F.raw hb .nil).imp fun vs H Q E h => by
    show sp (vs ++ []) H Q E
    rw [List.append_nil]
    exact h
/-- the promise of a def f(a, .., *v) by the promise of its body -/
def spStar (n : Nat) (sp : Sp) : Sp := fun vs H Q E => ∃ ws rest, vs = ws ++ rest ∧ ws.length = n ∧ rest.length ≤ sizeLine ∧ ∀ p, H p = none → sp (ws ++ [V.ref p]) (upd H p (.tup rest)) Q E
theorem fnr_star (F : FunD K x qual params body scope [] [] f fd) (S : FnScope N (ps ++ [pv]) scope) (hCX : StX.CXUp CX)
    (hb : ∀ (kV doc pm : Value) (an : Option Addr) (cdv ct : Value) (us rest : List Value), us.length = ps.length → bindArgs (PySem.W.fnOf x qual params body scope .none kV doc pm an cdv ct) ⟨us ++ rest, []⟩ = (newTuple rest >>= fun t => pure (ps.zip us ++ [(pv, t)])))
    (hbody : ∀ (cdv : Value) (A : Around) (outer : List Env) (s : Shared) (H : Hp) (vs : List V) (Q : VK) (E : XK), Room k (A.deeper (envOfC qual scope s.heap.objs.size f cdv)) → sp vs H Q E →
      ∃ t, PSs (cxOf CX P w K mg base N qual scope f cdv A outer s H E) body t ∧ t { nx := fun _ H' => Q .non H', rt := Q } (start N vs) H) :
    FnR P w K mg base CX (k + 1) f (spStar ps.length sp) := by
  obtain ⟨oc, od, dV, kV, doc, pm, an, cdv, ct, osl, rfl, lk, hcd, hD, _⟩ := F.ex
  rcases hD with ⟨_, rfl⟩ | ⟨e, _⟩
  · exact StX.fn_star lk hcd S hCX (fun us rest hl => hb kV doc pm an cdv ct us rest hl) fun A outer s H vs Q E hr h => hbody cdv A outer s H vs Q E hr h
  · exact absurd rfl e
end

/-! ### o[i], o[i] = e, len(o) by the class's own methods -/
structure OwnM (K : PySem.W.Frag) (C : Addr) (m : Str) (f : Addr) : Prop where
  at_ : PySem.W.findIn K (.ref C) m = some (some (.ref f))
  fn : PySem.W.isFn K (.ref f) = true
  fi : PySem.W.fnIn K f = true
  nq : PySem.W.noSeq K C = true
theorem own_ok {K : PySem.W.Frag} {C m : Str} (c : (Fx.own C m).ok K = true) : OwnM K (gad C K) m (mad C m K) := by
  obtain ⟨c1, c⟩ := He.ba c
  obtain ⟨c2, c⟩ := He.ba c
  obtain ⟨c3, c4⟩ := He.ba c
  exact ⟨He.eqO_ok c1, c2, c3, c4⟩
section
variable {X : Cx} {CX : CXT} {k : Nat} {C f : Addr} {sp : Sp} {E : XK} {a b : Expr} {ta tb : TE} {pos : Pos}
theorem run_in1 {pins : List (Addr × Obj)} {σ : L2.St} {H : Hp} {s : Shared} {Q : VK} {us : List Value} {vs : List V} (F : FnR X.prog X.w X.K X.mg X.base CX k f sp) (hr : Room (k + 1) X.A) (hx : Passes CX X E) (I : Inv X pins σ H s) (r : Vals vs us) (h : sp vs H Q E) :
    wpAny (model X.prog X.w) X.A.in1 (call (.ref f) us) (EP X pins σ Q) X.xe s := by
  refine wpAny_call (codeAny_mono (F X.A.in1 X.stack s H us vs Q E hr.in1 I.env0.in1 r h) fun r s' hq => ?_)
  cases r with
  | error e => exact hx pins σ H s e s' I hq
  | ok fl =>
    cases fl with
    | ret u => exact I.after hq
    | next => exact False.elim hq
    | brk => exact False.elim hq
    | cont => exact False.elim hq
def tIxO (C : Addr) (sp : Sp) (E : XK) (ta tb : TE) : TE := fun σ H Q => ta σ H fun x H1 => tb σ H1 fun y H2 => ∃ a dx fs, x = .ref a ∧ H2 a = some (.ins C dx fs) ∧ sp [.ref a, y] H2 Q E
theorem pe_ixO (o : OwnM X.K C "__getitem__" f) (F : FnR X.prog X.w X.K X.mg X.base CX k f sp) (hr : Room (k + 1) X.A) (hx : Passes CX X E) (ha : PE X a ta) (hb : PE X b tb)
    (hs : ∀ o i, subscripted b true o i = runValue (.builtin "lifetime.subscript" ⟨[o, i], []⟩) := by intro _ _; rfl) : PE X (.Subscript a b pos) (tIxO C sp E ta tb) := by
  refine ⟨fun pins s σ H Q I h => ?_⟩
  refine Subscript_ (binT ha hb I h fun v u s2 x y H2 I2 rx ry q => ?_)
  obtain ⟨a, dx, fs, rfl, ea, q⟩ := q
  obtain rfl : v = Value.ref a := rx
  obtain ⟨mA, O, _⟩ := ins_get I2.hok ea
  obtain ⟨od, J, _⟩ := O.look
  obtain ⟨m0, Fm⟩ := I2.fr
  exact PySem.W.sub_K Fm I2.ok.mod.kin J o.at_ o.fi o.fn (run_in1 (us := [.ref a, u]) (vs := [.ref a, y]) F hr hx I2 (.cons rfl (.cons ry .nil)) q) (hs _ _)
def rLenO (C : Addr) (sp : Sp) (E : XK) : List V → Hp → VK → Prop := fun xs H Q => ∃ a dx fs, xs = [.ref a] ∧ H a = some (.ins C dx fs) ∧ sp [.ref a] H (fun v H' => ∃ n : Nat, v = .int n ∧ n < 1000 ∧ Q (.int n) H') E
theorem call_lenO (o : OwnM X.K C "__len__" f) (F : FnR X.prog X.w X.K X.mg X.base CX k f sp) (hr : Room (k + 1) X.A) (hx : Passes CX X E) : CallR X (.builtin "len") (rLenO C sp E) := by
  intro pins s σ H xs us Q I r h
  obtain ⟨a, dx, fs, rfl, ea, q⟩ := h
  obtain ⟨u, rfl, ru⟩ := vals1 r
  obtain rfl : u = Value.ref a := ru
  obtain ⟨mA, O, _⟩ := ins_get I.hok ea
  obtain ⟨od, J, _⟩ := O.look
  obtain ⟨m0, Fm⟩ := I.fr
  refine PySem.W.len_K Fm I.ok.mod.kin J o.at_ o.fn (thn (run_in1 (us := [.ref a]) (vs := [.ref a]) F hr hx I (.cons rfl .nil) q) fun u s' hq => ?_)
  obtain ⟨z, H', I', rz, n, rfl, hn, qz⟩ := hq
  obtain ⟨t, rfl⟩ := rz
  refine ⟨⟨by omega, by omega⟩, ?_⟩
  exact ⟨.int n, H', I'.tok _, ⟨_, rfl⟩, qz⟩
def rSetO (C : Addr) (sp : Sp) (E : XK) : TSet := fun o i v H Q => ∃ a dx fs, o = .ref a ∧ H a = some (.ins C dx fs) ∧ sp [.ref a, i, v] H (fun _ H' => Q H') E
theorem set_own (o : OwnM X.K C "__setitem__" f) (F : FnR X.prog X.w X.K X.mg X.base CX k f sp) (hr : Room k X.A) (hx : Passes CX X E) : PSet X (rSetO C sp E) := by
  intro pins s σ H ov i v ou iu u Q I ro ri rv h
  obtain ⟨a, dx, fs, rfl, ea, q⟩ := h
  obtain rfl : ou = Value.ref a := ro
  obtain ⟨mA, O, _⟩ := ins_get I.hok ea
  obtain ⟨od, J, _⟩ := O.look
  obtain ⟨m0, Fm⟩ := I.fr
  refine PySem.W.ksp_setItem Fm I.ok.mod.kin J o.nq o.at_ o.fn (thn (wpAny_call (run_fnR (us := [.ref a, iu, u]) (vs := [.ref a, i, v]) F hr hx I (.cons rfl (.cons ri (.cons rv .nil))) q)) fun w s' hq => ?_)
  obtain ⟨z, H', I', rz, qz⟩ := hq
  exact ⟨H', I', qz⟩
end

/-! ### the rules that name K, for blocks of comprehensions (whose K is K) -/
section
variable {X : Cx} {K : PySem.W.Frag}
theorem ix_listK (e : X.K = K) : IxR X (rIxL K) := e ▸ ix_list
theorem ix_tupK (e : X.K = K) : IxR X (rIxT K) := e ▸ ix_tup
theorem sl_listK (e : X.K = K) : SlR X (rSlL K) := e ▸ sl_list
theorem sl_tupK (e : X.K = K) : SlR X (rSlT K) := e ▸ sl_tup
theorem op_catTK (e : X.K = K) : OpR X (binaryOp .Add) (rCatT K) := e ▸ op_catT
theorem op_in_seqK (e : X.K = K) : OpR X (compareOp .In) (rIn K false) := e ▸ op_in_seq
theorem op_notIn_seqK (e : X.K = K) : OpR X (compareOp .NotIn) (rIn K true) := e ▸ op_notIn_seq
theorem op_eqDK (e : X.K = K) (hu : X.A.units + 64 < cLine) : OpR X (compareOp .Eq) (rEqD K) := e ▸ op_eqD hu
theorem op_neDK (e : X.K = K) (hu : X.A.units + 64 < cLine) : OpR X (compareOp .NotEq) (rNeD K) := e ▸ op_neD hu
def rLn (K : PySem.W.Frag) : List V → Hp → VK → Prop := fun xs H Q => ∃ p ys, xs = [.ref p] ∧ (SqL K H p ys ∨ SqT K H p ys) ∧ Q (.int (List.length (α := V) ys : Nat)) H
theorem call_len_seqK (e : X.K = K) : CallR X (.builtin "len") (rLn K) := e ▸ call_len_seq
def rLo (K : PySem.W.Frag) : List V → Hp → VK → Prop := fun xs H Q => ∃ p ys, xs = [.ref p] ∧ (SqL K H p ys ∨ SqT K H p ys) ∧ ∀ l, H l = none → Q (.ref l) (upd H l (.lst ys))
theorem call_list_ofK (e : X.K = K) : CallR X (.type "list") (rLo K) := e ▸ call_list_of
theorem call_isiK' (e : X.K = K) : CallR X (.builtin "isinstance") (rIsi K) := e ▸ call_isi
theorem pe_fldK {e : Expr} {f : Str} {ta : TE} {pos : Pos} (ek : X.K = K) (he : PE X e ta) (hb : attributeBase e f X.env (eval e X.env) = eval e X.env) : PE X (.Attribute e f pos) (tFld K ta f) := ek ▸ pe_fld he hb
theorem pi_listK {l tg : Expr} {tl : TE} (e : X.K = K) (hl : PE X l tl) : PI X tg l (iList K tl) := e ▸ pi_list hl
theorem pi_tupK {l tg : Expr} {tl : TE} (e : X.K = K) (hl : PE X l tl) : PI X tg l (iTup K tl) := e ▸ pi_tup hl
end
end Hue

set_option Elab.async false
set_option linter.all false
set_option maxRecDepth 100000
set_option maxHeartbeats 4000000
/-! try .. except X as e: suite, where e is tracked as a value; defs called in such a suite; isinstance of such a value. -/
namespace Hue
open PySem PySem.Spec PyProof.Rows L2

/-- a caught error of the class cls at a, its own dict at d -/
def Exn (cls : Value) (d : Option Addr) (a : Addr) : HO := .ext fun h => ∃ (oe : Obj) (vs : Array Value), h.get? a = some oe ∧ Zc cls d oe ∧ oe.data = .fields vs
theorem exn_ok {P : Program} {w : World} {H : Hp} {h : Heap} {a : Addr} {cls : Value} {d : Option Addr} {oe : Obj} {vs : Array Value} (e : h.get? a = some oe) (z : Zc cls d oe) (q : oe.data = .fields vs) : ObjOk P w H h a (Exn cls d a) :=
  ⟨⟨oe, vs, e, z, q⟩, ⟨oe, e⟩, fun _ _ ⟨o, v, q, r⟩ k => ⟨o, v, k o q, r⟩⟩
section
variable {X : Cx} {pins : List (Addr × Obj)} {σ : L2.St} {H : Hp} {sI s s' : Shared} {B : Heap} {a : Addr}
theorem landedX {cls : Value} {d : Option Addr} {oe : Obj} {vs : Array Value} (I : Inv X pins σ H sI) (nb : ∀ b o, sI.heap.get? b = some o → b ∉ frs X.stack → B.get? b = some o) (st : B.StaysIn s'.heap) (up : sI.heap.UpToSlots s'.heap) (os : s'.os = sI.os) (ag : AllBare s'.gens)
    (hne : sI.heap.get? a = none) (na : H a = none) (e : s'.heap.get? a = some oe) (z : Zc cls d oe) (q : oe.data = .fields vs) : Inv X pins σ (upd H a (Exn cls d a)) s' := by
  have nf : ∀ b ∈ frs X.stack, ∀ o, sI.heap.get? b = some o → ∃ sl, s'.heap.get? b = some { o with slots := sl } := fun b hb o e => by
    obtain ⟨_, o', e', hd⟩ := I.stack.mem hb
    rw [e] at e'; cases e'
    exact up b o e hd
  have ne : ∀ b o, sI.heap.get? b = some o → b ≠ a := fun b o e z => by rw [z, hne] at e; cases e
  have hokS : HOk X.prog X.w H s'.heap := (I.inGround nb).kept st
  have J := I.call (ch := []) (h' := s'.heap) (g' := s'.gens) (t' := s'.toks) (d' := s'.drawn) (H' := upd H a (Exn cls d a))
    ⟨fun b o e _ hb _ => st b o (nb b o e hb), fun b o e _ hb _ => nf b hb o e, fun b o e n _ => by rw [upd_ne (ne b o e)]; exact n, fun b o e _ => by
      by_cases hb : b ∈ frs X.stack
      · obtain ⟨sl, q⟩ := nf b hb o e
        exact ⟨_, q⟩
      · exact ⟨o, st b o (nb b o e hb)⟩, fun b xs e => by rw [upd_ne (ne_of_none e na)]; exact e, fun b o u e => by rw [upd_ne (ne_of_none e na)]; exact e, fun b ps e => ⟨#[], by rw [upd_ne (ne_of_none e na), e]; simp⟩⟩
    (HOk.laidN hokS (fun _ _ z => z) na (exn_ok e z q)) ag (fun _ z => nomatch z)
  obtain ⟨a1, a2, a3, a4, a5⟩ := s'
  have e5 : a5 = sI.os := os
  subst e5
  exact J
theorem toSuite (I : Inv X pins σ H s) (a : Addr) : Inv (X.suite a (X.pn ++ pins)) [] σ H s :=
  ⟨I.ok.suite _ _, I.os, I.bare, I.base, I.loc, I.cell, I.free, I.freeC, fun p hp => I.pin p (by rw [List.append_nil] at hp; exact hp), I.hok, I.len⟩
theorem ofSuite {pn' : List (Addr × Obj)} (I : Inv (X.suite a (X.pn ++ pins)) pn' σ H s) (ok : X.Ok) : Inv X pins σ H s :=
  ⟨ok, I.os, I.bare, I.base, I.loc, I.cell, I.free, I.freeC, fun p hp => I.pin p (List.mem_append_left _ hp), I.hok, I.len⟩
end
/-- what the clause 'except x as n' wishes of an exception of the body -/
def wTry (K : PySem.W.Frag) (c : Value) (i : Nat) (ts : TS) (Wout : WX) (D : Ends) : WX := fun cls d σ H =>
  ∃ b, PySem.W.exmOne K cls c = some b ∧ (b = true → ∀ a, H a = none → ts { nx := fun σ' H' => D.nx (σ'.set i none) H', rt := D.rt, bk := fun σ' H' => D.bk (σ'.set i none) H', ct := fun σ' H' => D.ct (σ'.set i none) H' } (σ.set i (some (.ref a))) (upd H a (Exn cls d a))) ∧
    (b = false → Wout cls d σ H)
section
variable {X : Cx} {x n : Str} {c : Value} {i : Nat} {body suite : List Stmt} {b₀ : Stmt} {np pos pos' : Pos} {tb : WX → TS} {ts : TS} {Wout : WX}
theorem ps_try_val (hs : X.stack = X.env :: X.outer) (hf : X.env.frame = some X.env.locals) (hN : X.N.Nodup) (hi : X.N[i]? = some n) (hln : X.env.kindOf n = some .local) (hc : Names X x c) (tk : Takes X Wout)
    (hb : ∀ (W : WX) (pn : List (Addr × Obj)) (xe : Value → Shared → Prop), Takes (X.tr pn xe) W → PassesOwn (model X.prog X.w) X.A X.env xe → PSs (X.tr pn xe) body (tb W))
    (hsu : ∀ (a : Addr) (pn : List (Addr × Obj)), PSs (X.suite a pn) (b₀ :: suite) ts) :
    PS X (.Try body [.ExceptHandler (some (.Name x np)) (some n) (b₀ :: suite) pos'] [] [] pos) (fun D σ H => tb (wTry X.K c i ts Wout D) D σ H) := by
  refine ⟨fun pins s σ H D I h => ?_⟩
  have ok := I.ok
  have hfr : X.A.frames = some (X.env :: X.outer) := by rw [ok.frames, hs]
  have hloc : Loc X.env.scope n := .inl hln
  refine wpAny_Try_except ?_
  refine wpAny_mono ((hb (wTry X.K c i ts Wout D) (X.pn ++ pins) (fun e s₁ => wpAny (model X.prog X.w) X.A (noteFrame e X.env) (fun _ s₂ => wpAny (model X.prog X.w) X.A (setFlight e none) (fun _ s₃ =>
    wpAny (model X.prog X.w) X.A (handleBy e X.env [.ExceptHandler (some (.Name x np)) (some n) (b₀ :: suite) pos']) (SP X pins D) X.xe s₃) X.xe s₂) X.xe s₁) (fun u s' xx => ?_) PassesOwn.looking).run [] s σ H D (I.toTry _) h) (fun f s1 hsp => ?_) (fun e s1 he => he)
  · obtain ⟨a, B, sI, pins', σ', H', cls, d, rfl, J', nb, up, sky, na, os, ag, b, hb1, hyes, hno⟩ := xx
    have J : Inv X pins σ' H' sI := J'.ofTry ok
    have sky' : Sky B (X.env :: X.outer) a (Zc cls d) X.env.locals s'.heap := by rw [← hs]; exact sky
    show wpAny (model X.prog X.w) X.A (noteFrame (.ref a) X.env) _ _ _
    refine Sky.land Zc.steady hfr hf sky' fun h3 fl3 up3 => ?_
    have J3 : Inv X pins σ' H' { s' with heap := h3 } := J.landed nb fl3.1 (up.trans up3) os ag
    obtain ⟨oe3, vs3, he3, hz3, hd3⟩ := fl3.there
    have notFr : ∀ {h : Heap} {o : Obj} {vs : Array Value}, h.FunFrames B (X.env :: X.outer) → h.get? a = some o → o.data = .fields vs → a ∉ frs (X.env :: X.outer) := fun {h o vs} ff e dd hm => by
      obtain ⟨_, o', e', hnf⟩ := ff.mem hm
      rw [e] at e'; cases e'
      exact hnf _ dd
    have nfr := notFr fl3.2.2.1 he3 hd3
    have nI : sI.heap.get? a = none := by
      cases q : sI.heap.get? a with
      | none => rfl
      | some o =>
        have z := nb a o q (by rw [hs]; exact nfr)
        rw [fl3.2.1] at z
        cases z
    have S3 := toSuite J3 a
    refine wpAny_handleBy_cons (codeAny_handlers_test ?_) (by intro q; cases q)
    have LT : PySem.W.Looks (model X.prog X.w) h3 (typeOf (.ref a)) cls := fun A Q E s k q => wpAny_typeOf_ref (k _ _ he3) (by rw [hz3.1]; exact q)
    have LM := PySem.W.exm_one (M := model X.prog X.w) (J3.kIn) LT hb1
    have test : ∀ {Q : Value → Shared → Prop} {E : Value → Shared → Prop}, Q c { s' with heap := h3 } → wpAny (model X.prog X.w) (X.A.mark (some (.ref a))) (eval (.Name x np) X.env) Q E { s' with heap := h3 } := fun {Q E} q => by
      obtain ⟨hg, hdbg, hm | ⟨hm, hv, hnn⟩⟩ := hc
      · exact ld_glob (X := X.suite a (X.pn ++ pins)) S3 hg hm q hdbg
      · exact ld_blt (X := X.suite a (X.pn ++ pins)) S3 hg hm hv q hnn hdbg
    refine test (LM.here ?_)
    cases b with
    | true =>
      refine codeAny_handlers_suite_as ?_
      refine HandSPX.lands_againZ fl3 fun h4 fl4 up4 => ?_
      obtain ⟨oe4, vs4, he4, hz4, hd4⟩ := fl4.there
      have J4 : Inv X pins σ' (upd H' a (Exn cls d a)) { s' with heap := h4 } := landedX J nb fl4.1 ((up.trans up3).trans up4) os ag nI na he4 hz4 hd4
      have S4 := toSuite J4 a
      refine store_ok (X := X.suite a (X.pn ++ pins)) (v := .ref a) S4 hN hi hloc rfl (fun s5 S5 => ?_) (.inr hln)
      refine wpAny_mono ((hsu a (X.pn ++ pins)).run [] s5 _ _ _ S5 (hyes rfl a na)) (fun f s6 hsp => ?_) (fun _ _ z => False.elim z)
      have end_ : ∀ {σ6 : L2.St} {H6 : Hp} {Q : Shared → Prop}, Inv (X.suite a (X.pn ++ pins)) [] σ6 H6 s6 → (∀ s7, Inv X pins (σ6.set i none) H6 s7 → Q s7) →
          wpAny (model X.prog X.w) X.A (do bindName X.env n .none; unbindBehindTheSuite X.env n pos') (fun _ s7 => Q s7) X.xe s6 := fun {σ6 H6 Q} S6 hq => gone_ok (ofSuite S6 ok) hN hi hln hq
      cases f with
      | next =>
        obtain ⟨σ6, H6, S6, q6⟩ := hsp
        exact end_ S6 fun s7 J7 => ⟨_, _, J7, q6⟩
      | brk =>
        obtain ⟨σ6, H6, S6, q6⟩ := hsp
        exact end_ S6 fun s7 J7 => ⟨_, _, J7, q6⟩
      | cont =>
        obtain ⟨σ6, H6, S6, q6⟩ := hsp
        exact end_ S6 fun s7 J7 => ⟨_, _, J7, q6⟩
      | ret u =>
        obtain ⟨v6, σ6, H6, S6, r6, q6⟩ := hsp
        exact end_ S6 fun s7 J7 => ⟨_, _, _, J7, r6, q6⟩
    | false =>
      show wpAny _ X.A (handleBy (.ref a) X.env []) _ _ _
      refine wpAny_handleBy_nil ?_
      obtain ⟨k1, k2, k3, oe, vs, T, oT, ts', he, hz, hd, h1, hr⟩ := id fl3
      unfold PySem.passOn
      refine wpAny_bind (wpAny_field he hd h1 ?_)
      rw [if_neg (show ¬ ((Value.ref T == Value.none) = true) from by simp)]
      have fin : wpAny (model X.prog X.w) X.A (setFlight (.ref a) X.env.frame) (fun _ s4 => wpAny (model X.prog X.w) X.A (throw (.ref a) : Sem Flow) (SP X pins D) X.xe s4) X.xe { s' with heap := h3 } := by
        rw [hf]
        refine HandSPX.setFlight_upZ fl3 fun h4 hh4 up4 => wpAny_throw (tk _ _ ?_)
        exact ⟨a, B, sI, pins, σ', H', cls, d, rfl, J, nb, (up.trans up3).trans up4, .inr (.inr (by rw [hs]; exact hh4)), na, os, ag, hno rfl⟩
      first
        | exact wpAny_bind (wpAny_pure (wpAny_bind fin))
        | exact wpAny_bind fin
  · cases f with
    | next =>
      obtain ⟨σ', H', J', q⟩ := hsp
      exact wpAny_execs_nil ⟨σ', H', J'.ofTry ok, q⟩
    | brk =>
      obtain ⟨σ', H', J', q⟩ := hsp
      exact ⟨σ', H', J'.ofTry ok, q⟩
    | cont =>
      obtain ⟨σ', H', J', q⟩ := hsp
      exact ⟨σ', H', J'.ofTry ok, q⟩
    | ret u =>
      obtain ⟨v, σ', H', J', r, q⟩ := hsp
      exact ⟨v, σ', H', J'.ofTry ok, r, q⟩
end
/-- no exception leaves: nothing is asked of Wout -/
theorem takes0 {X : Cx} : Takes X (fun _ _ _ _ => False) := fun _ _ ⟨_, _, _, _, _, _, _, _, _, _, _, _, _, _, _, _, w⟩ => w.elim
/-- a call in a try's body: what it may let out is wished of all slots -/
def eT (n : Nat) (W : WX) : XK := fun cls d H => ∀ σ : L2.St, σ.length = n → W cls d σ H
theorem passT {X : Cx} {W : WX} {N : List Str} (tk : Takes X W) (hN : X.N = N) : Passes (L2.CX X.prog X.w) X (eT N.length W) :=
  fun _ σ _ _ e s' I c => tk e s' (XE.of_call I (fun _ _ _ h => h σ (by rw [← hN]; exact I.len)) c)

/-! ### defs called in an except suite -/
def cxS (P : Program) (w : World) (K : PySem.W.Frag) (mg : Str → Option Value) (base : Heap) (N : List Str) (qual : Str) (scope : Scope) (f : Addr) (cd : Value) (A : Around) (outer : List Env) (s : Shared) (H : Hp) (E : XK) : Cx :=
  { cxOf CX0 P w K mg base N qual scope f cd A outer s H E with calm := false, xe := fun _ _ => False }
structure FnS (P : Program) (w : World) (K : PySem.W.Frag) (mg : Str → Option Value) (base : Heap) (k : Nat) (f : Addr) (fd : FuncData) (ps : List Str) (sp : Sp) : Prop where
  len : ∀ vs H Q E, sp vs H Q E → vs.length = ps.length
  run : ∀ (A : Around) (outer : List Env) (s : Shared) (H : Hp) (args : Args) (us : List Value) (vs : List V) (Q : VK) (E : XK), L2H.RoomH k A → Env0 P w K mg base A outer s H → BindsTo s fd args (ps.zip us) → Vals vs us → sp vs H Q E →
    codeAny (model P w) A (.call (.ref f) args) (CR CX0 outer P w H s Q E) s
theorem roomS {k : Nat} {A : Around} {v : Option Value} (r : Room k A) : L2H.RoomH k (A.mark v) := ⟨r.dp, r.un⟩
theorem inv_startS {P : Program} {w : World} {K : PySem.W.Frag} {mg : Str → Option Value} {base : Heap} {N ps : List Str} {qual : Str} {scope : Scope} {f : Addr} {cd : Value} {A : Around} {outer : List Env} {s s1 : Shared} {H : Hp} {E : XK} {us : List Value} {vs : List V}
    (S : FnScope N ps scope) (e0 : Env0 P w K mg base A outer s H) (hl : vs.length = ps.length) (r : Vals vs us)
    (x : InCallC s s.heap.objs.size (bindL (envOfC qual scope s.heap.objs.size f cd).kindOf (ps.zip us) fun _ => none) (cellsFrom (s.heap.objs.size + 1) scope.names []) (bindC (envOfC qual scope s.heap.objs.size f cd).kindOf (ps.zip us) fun _ => none) s1) :
    Inv (cxS P w K mg base N qual scope f cd A outer s H E) [] (L2.start N vs) H s1 := by
  have hpl : ps.length ≤ N.length := by have := congrArg List.length S.pre; rw [List.length_take] at this; omega
  obtain ⟨h1, tk, rfl, hk⟩ := x.done
  have noA : ∀ b : Addr, b ∉ (cxS P w K mg base N qual scope f cd A outer s H E).ex := fun b z => absurd (show b ∈ ([] : List Addr) from z) (by simp)
  refine ⟨⟨e0.mod, S.kind, rfl, rfl, Nat.le_refl _, fun y z c h1 h2 => ?_, fun y hy => ?_, fun y c _ h => ?_, (fun z => Bool.noConfusion (show false = true from z)), Around.frames_deeper e0.frames, .inr ⟨rfl, rfl⟩, fun b z => absurd z (noA b), e0.bs, e0.bsz, fun b _ _ => noA b, fun b z => absurd z (noA b), e0.funs, e0.frf⟩,
    rfl, e0.bare, Un.kept hk, ⟨_, x.toInCall.ns, fun i y v h1 h2 h3 => ?_⟩, fun y c h => ⟨_, x.cell y c h⟩, e0.hok.fresh (Nat.le_refl _), fun y c h => ?_, fun q hq => ?_, e0.hok.kept hk, ?_⟩
  · exact name_of_addr x.apart (PySem.mem_of_lookup h1) (PySem.mem_of_lookup h2)
  · have hy : scope.names.lookup y = some .cell ∨ scope.names.lookup y = some .free := hy
    rcases hy with hy | hy
    · exact cell_has hy
    · exact absurd rfl (S.nofree _ (PySem.mem_of_lookup hy))
  · exact Nat.le_of_lt (x.above y c (PySem.mem_of_lookup h))
  · have hi : i < vs.length := by
      unfold L2.start at h2
      by_cases hi : i < vs.length
      · exact hi
      · rw [List.getElem?_append_right (by simpa using hi)] at h2
        rw [List.getElem?_replicate] at h2
        split at h2 <;> cases h2
    have ha : vs[i]? = some v := by
      unfold L2.start at h2
      rw [List.getElem?_append_left (by simpa using hi), List.getElem?_map] at h2
      cases e : vs[i]? with
      | none => rw [e] at h2; cases h2
      | some a => rw [e] at h2; cases h2; rfl
    obtain ⟨u, hu, rv⟩ := r.get ha
    have hp : ps[i]? = some y := by
      rw [← S.pre, List.getElem?_take_of_lt (by omega)]; exact h1
    have ndP : ps.Nodup := by rw [← S.pre]; exact S.nd.sublist (List.take_sublist _ _)
    refine ⟨u, rv, ?_⟩
    rcases S.par y (List.mem_of_getElem? hp) with k | k
    · exact .inl ⟨k, bindL_get ndP hp hu k⟩
    · obtain ⟨c, e⟩ := cell_has (n := s.heap.objs.size + 1) k
      refine .inr ⟨.inl k, c, e, ?_⟩
      have q := x.cell y c e
      rw [bindC_get ndP hp hu (by show scope.names.lookup y ≠ _; rw [k]; decide)] at q
      exact q
  · exact e0.hok.fresh (Nat.le_of_lt (x.above y c (PySem.mem_of_lookup h)))
  · exact absurd (show q ∈ ([] : List (Addr × Obj)) ++ ([] : List (Addr × Obj)) from hq) (by simp)
  · unfold L2.start
    show _ = N.length
    rw [List.length_append, List.length_map, List.length_replicate]
    omega
theorem fnS_of {P : Program} {w : World} {K : PySem.W.Frag} {mg : Str → Option Value} {base : Heap} {k : Nat} {f : Addr} {fd : FuncData} {name qual : Str} {params : Arguments} {body : List Stmt} {scope : Scope} {dvs : List V} {kws : List (Str × V)}
    {N ps : List Str} {sp : Sp} (F : FunD K name qual params body scope dvs kws f fd) (S : FnScope N ps scope)
    (len : ∀ vs H Q E, sp vs H Q E → vs.length = ps.length)
    (hbody : ∀ (cdv : Value) (A : Around) (outer : List Env) (s : Shared) (H : Hp) (vs : List V) (Q : VK) (E : XK), L2H.RoomH k (A.deeper (envOfC qual scope s.heap.objs.size f cdv)) → sp vs H Q E →
      ∃ t, PSs (cxS P w K mg base N qual scope f cdv A outer s H E) body t ∧ t { nx := fun _ H' => Q .non H', rt := Q } (L2.start N vs) H) :
    FnS P w K mg base (k + 1) f fd ps sp := by
  obtain ⟨oc, od, dV, kV, doc, pm, an, cdv, ct, osl, rfl, lk, hcd, _, _⟩ := F.ex
  refine ⟨len, fun A outer s H args us vs Q E hr e0 hb r hsp => ?_⟩
  have hl := len _ _ _ _ hsp
  have KX : K.In s.heap := e0.mod.kin.keeps fun b o e => (e0.bs b o e).1
  have lim : s.heap.NoLimit := e0.mod.nolimit.keeps fun b o e => (e0.bs b o e).1
  have hkind : ∀ y ∈ ps.zip us, scope.names.lookup y.1 = some .local ∨ (scope.names.lookup y.1 = some .cell ∧ ((cellsFrom (s.heap.objs.size + 1) scope.names []).lookup y.1).isSome = true) := fun ⟨n, v⟩ hy => by
    rcases S.par n (List.of_mem_zip hy).1 with q | q
    · exact .inl q
    · exact .inr ⟨q, PySem.W.cellsFrom_some _ _ _ (.inl q)⟩
  refine codeAny_call_function hr.depth (KX _ _ lk) rfl S.co S.gen rfl (PySem.W.codeRec_of KX hcd) (hb _ _ _ _ ?_)
  refine wpAny_newFunctionEnv_cells S.kind hkind fun env he s1 x => ?_
  subst he
  refine ⟨lim.keeps x.toInCall.keep, codeAny_func ?_⟩
  obtain ⟨t, ht, hq⟩ := hbody cdv A outer s H vs Q E (hr.deeper _) hsp
  have I : Inv (cxS P w K mg base N qual scope f cdv A outer s H E) [] (L2.start N vs) H s1 := inv_startS S e0 hl r x
  refine wpAny_mono (ht.run [] s1 (L2.start N vs) H _ I hq) (fun fl s' hs => ?_) fun e s' hs => False.elim hs
  have fin : ∀ {σ' : L2.St} {H' : Hp} {v : V} {u : Value}, Inv (cxS P w K mg base N qual scope f cdv A outer s H E) [] σ' H' s' → RelV v u → Q v H' → CE outer P w H s Q u s' :=
    fun {σ' H' v u} J rv q => ⟨v, H', J.os, J.bare, J.base, J.hok, rv, q⟩
  cases fl with
  | ret u =>
    obtain ⟨v, σ', H', J, rv, q⟩ := hs
    exact fin J rv q
  | next =>
    obtain ⟨σ', H', J, q⟩ := hs
    exact fin (v := V.non) (u := Value.none) J rfl q
  | brk =>
    obtain ⟨_, _, _, q⟩ := hs
    exact False.elim q
  | cont =>
    obtain ⟨_, _, _, q⟩ := hs
    exact False.elim q
section
variable {X : Cx} {k : Nat} {f C : Addr} {fd : FuncData} {ps : List Str} {sp : Sp} {E : XK} {x m : Str} {q pos apos : Pos} {e o : Expr} {es : List Expr} {ta : TE} {t : TA}
theorem run_fnX {pins : List (Addr × Obj)} {σ : L2.St} {H : Hp} {s : Shared} {Q : VK} {us : List Value} {vs : List V} (F : FnS X.prog X.w X.K X.mg X.base k f fd ps sp) (hr : L2H.RoomH k X.A) (hb : Binds X.K fd ps [])
    (I : Inv X pins σ H s) (r : Vals vs us) (h : sp vs H Q E) : wpAny (model X.prog X.w) X.A (call (.ref f) us) (EP X pins σ Q) X.xe s := by
  have hl : us.length = ps.length := by rw [← r.length]; exact F.len _ _ _ _ h
  have b := hb s us I.kIn (by rw [List.append_nil]; exact hl)
  rw [List.append_nil] at b
  refine wpAny_call (codeAny_mono (F.run X.A X.stack s H ⟨us, []⟩ us vs Q E hr I.env0 b r h) fun r s' hq => ?_)
  cases r with
  | error e => exact hq.elim
  | ok fl =>
    cases fl with
    | ret u => exact I.after hq
    | next => exact False.elim hq
    | brk => exact False.elim hq
    | cont => exact False.elim hq
theorem pe_callX (F : FnS X.prog X.w X.K X.mg X.base k f fd ps sp) (hr : L2H.RoomH k X.A) (hg : Gl X x) (hm : X.mg x = some (.ref f)) (hk : PySem.W.keepIn X.K (.ref f) = true) (hb : Binds X.K fd ps [])
    (ha : PA X (e :: es) t) (hdb : (x == ("__debug__" : Str)) = false := by decide) (he : starEach (e :: es) X.env = (false, eval e X.env) :: starEach es X.env := by rfl) (hpl : (backTo pos (starEach es X.env)).any (·.1) = false := by rfl) :
    PE X (.Call (.Name x q) (e :: es) [] pos) (fun σ H Q => t σ H fun vs H1 => sp vs H1 Q E0) := by
  refine ⟨fun pins s σ H Q I h => ?_⟩
  refine wpAny_Call_Name_kw (ld_glob I hg hm ?_ hdb)
  refine PySem.W.callWith_K (h₀ := X.base) I.ok.mod.kin hk (thn (ha.run pos pins s σ H _ I h) fun us s1 ⟨vs, H1, I1, r, q⟩ => ⟨I1.kIn, ?_⟩) he hpl
  exact run_fnX F hr hb I1 r q
end

/-! ### isinstance of a caught error -/
/-- isinstance(e, c) -/
def rIsX (K : PySem.W.Frag) (D : Addr) : List V → Hp → VK → Prop := fun xs H Q => ∃ (a : Addr) (c : V) (u : Value) (b : Bool), xs = [.ref a, c] ∧ H a = some (Exn (.ref D) none a) ∧ ClsV c u ∧ PySem.W.kitOne K (.ref D) u = some b ∧ Q (.bl b) H
def rIsXT (K : PySem.W.Frag) (D : Addr) : List V → Hp → VK → Prop := fun xs H Q => ∃ (a tp : Addr) (cs : List V) (us : List Value) (b : Bool), xs = [.ref a, .ref tp] ∧ H a = some (Exn (.ref D) none a) ∧ H tp = some (.tup cs) ∧ Paired ClsV cs us ∧ PySem.W.kitAny K (.ref D) us = some b ∧ Q (.bl b) H
section
variable {X : Cx} {D : Addr} {pins : List (Addr × Obj)} {σ : L2.St} {H : Hp} {s : Shared}
theorem exn_at {a : Addr} {cls : Value} {d : Option Addr} (I : Inv X pins σ H s) (h : H a = some (Exn cls d a)) : ∃ (oe : Obj) (vs : Array Value), s.heap.get? a = some oe ∧ Zc cls d oe ∧ oe.data = .fields vs := (I.hok a _ h).1
theorem exn_inst {a : Addr} (I : Inv X pins σ H s) (h : H a = some (Exn (.ref D) none a)) : ∃ oe, PySem.W.InstAt s.heap a oe D none := by
  obtain ⟨oe, vs, hget, hz, hv⟩ := exn_at I h
  refine ⟨oe, ?_⟩
  obtain ⟨oc, od, oda, osl⟩ := oe
  obtain ⟨h1, h2⟩ := hz
  dsimp only at h1 h2 hv
  subst h1 h2 hv
  exact ⟨hget, rfl, rfl, trivial⟩
theorem call_isX (C : ExcC X.K D) : CallR X (.builtin "isinstance") (rIsX X.K D) := by
  intro pins s σ H xs us Q I r h
  obtain ⟨a, c, u, b, rfl, ha, hcv, e, q⟩ := h
  obtain ⟨u1, u2, rfl, r1, r2⟩ := vals2 r
  obtain rfl : u1 = Value.ref a := r1
  have ec := hcv.eq r2
  subst ec
  obtain ⟨oe, J⟩ := exn_inst I ha
  exact PySem.W.kia_one (PySem.W.handS_kitx_exc C.hg C.hk C.hs C.hd C.ha C.hn C.ht C.hm) I.kIn J e (fun z => nomatch z) fun tk => ⟨.bl b, H, I.tok tk, rfl, q⟩
theorem call_isXT (C : ExcC X.K D) : CallR X (.builtin "isinstance") (rIsXT X.K D) := by
  intro pins s σ H xs us Q I r h
  obtain ⟨a, tp, cs, ws, b, rfl, ha, hT, k, e, q⟩ := h
  obtain ⟨u1, u2, rfl, r1, r2⟩ := vals2 r
  obtain rfl : u1 = Value.ref a := r1
  cases (show u2 = Value.ref tp from r2)
  obtain ⟨oe, J⟩ := exn_inst I ha
  obtain ⟨_, its, rv, o, h1, h2, n, h3⟩ := (show ObjOk X.prog X.w H s.heap tp (.tup cs) from I.hok tp _ hT)
  have e3 := ClsV.all k rv
  subst e3
  obtain ⟨oc, od, dt, sl⟩ := o
  simp only at h2 h3
  subst h2 h3
  exact PySem.W.kia_tup (PySem.W.handS_kitx_exc C.hg C.hk C.hs C.hd C.ha C.hn C.ht C.hm) I.kIn J h1 e (fun z => nomatch z) fun tk => ⟨.bl b, H, I.tok tk, rfl, q⟩
end
/-! ### own == and its reflection; str(o) -/
section
variable {prog : Program} {w : World} {A : Around} {E : Value → Shared → Prop} {s : Shared} {K : PySem.W.Frag} {y C f : Addr} {oy : Obj} {od : Option Obj} {h₀ : Heap} {L : Addr} {m : Str → Option Value} {x : Value}
theorem decl_none {Q : Value → Shared → Prop} (h : Q .notImplemented s) : wpAny (model prog w) A (call (.builtin "NoneType.__eq__") [.none, .ref y]) Q E s :=
  call_gives F.slot_NoneType_eq_refl rfl F.entry_NoneType_eq (F.args_NoneType_eq_2 _ _) (PySem.SeqAt.NoneType___eq___none_ref_0 y) h
theorem decl_str {z : Str} {t : Tok} {Q : Value → Shared → Prop} (hg : s.heap.get? y = some oy) (hp : oy.data = .plain) (h : Q .notImplemented s) : wpAny (model prog w) A (call (.builtin "str.__eq__") [.str z t, .ref y]) Q E s := by
  refine GQ.call_here F.slot_str_eq (typeIs_str s z t) F.entry_str_eq (F.args_str_eq_2 _ _) ?_
  obtain ⟨c, d, dt, sl⟩ := oy
  dsimp only at hp
  subst hp
  obtain ⟨hp, g, d, tk, os⟩ := s
  wp_walk
  exact h
theorem decl_tup {l : Addr} {Q : Value → Shared → Prop} (hT : s.TypeIs (.ref l) "tuple") (X : K.In s.heap) (I : PySem.W.InstAt s.heap y oy C od) (hs : PySem.W.subIn K (.ref C) (.type "tuple") = some false) (h : Q .notImplemented s) :
    wpAny (model prog w) A (call (.builtin "tuple.__eq__") [.ref l, .ref y]) Q E s := by
  refine GQ.call_here F.slot_tuple_eq hT F.entry_tuple_eq (F.args_tuple_eq_2 _ _) ?_
  have LI : PySem.W.Looks (model prog w) s.heap (isInstance (.ref y) (.type "tuple")) false := I.type.andThen (PySem.W.looks_subIn X hs)
  obtain ⟨hp, g, d, tk, os⟩ := s
  wp_walk using LI.here
  exact h
theorem decl_lst {l : Addr} {Q : Value → Shared → Prop} (hT : s.TypeIs (.ref l) "list") (X : K.In s.heap) (I : PySem.W.InstAt s.heap y oy C od) (hs : PySem.W.subIn K (.ref C) (.type "list") = some false) (h : Q .notImplemented s) :
    wpAny (model prog w) A (call (.builtin "list.__eq__") [.ref l, .ref y]) Q E s := by
  refine GQ.call_here F.slot_list_eq hT F.entry_list_eq (F.args_list_eq_2 _ _) ?_
  have LI : PySem.W.Looks (model prog w) s.heap (isInstance (.ref y) (.type "list")) false := I.type.andThen (PySem.W.looks_subIn X hs)
  obtain ⟨hp, g, d, tk, os⟩ := s
  wp_walk using LI.here
  exact h
theorem rc_refl {T id : String} {Q : Value → Shared → Prop} (hu : A.units < cLine) (Fm : PyProof.Rows.Fr h₀ L s.heap m) (X₀ : K.In h₀) (I : PySem.W.InstAt s.heap y oy C od) (hT : s.TypeIs x T) (slot : Slot T "__eq__" id)
    (hd : ∀ Q : Value → Shared → Prop, Q .notImplemented s → wpAny (model prog w) A (call (.builtin id) [x, .ref y]) Q E s) (hsub : PySem.W.subIn K (.ref C) (.type T) = some false)
    (hs : PySem.W.findIn K (.ref C) "__eq__" = some (some (.ref f))) (hf : PySem.W.isFn K (.ref f) = true)
    (h : wpAny (model prog w) A (call (.ref f) [.ref y, x]) (PySem.W.CmpBack Q) E s) : wpAny (model prog w) A (richCompare .Eq x (.ref y)) Q E s := by
  have X := X₀.keeps Fm.keep
  have one : wpAny (model prog w) A (tryCompare x "__eq__" (.ref y)) (fun r s' => r = none ∧ s' = s) E s := wpAny_tryCompare_declines hT slot (hd _ ⟨rfl, rfl, rfl⟩)
  have two : wpAny (model prog w) A (tryCompare (.ref y) "__eq__" x) (fun r s' => ∃ v, r = some v ∧ Q v s') E s := by
    unfold tryCompare
    refine wpAny_bind (PySem.W.ifBound_K X I hs hf (wpAny_mono h (fun v s' hv => ?_) fun _ _ e => e))
    cases v <;> first | exact hv.elim | exact wpAny_pure ⟨_, rfl, hv⟩
  simp only [richCompare, cmpInfo_Eq, hT.oneThing_none]
  refine wpAny_holding (wpAny_bind (wpAny_cRoomFor hu ?_))
  refine wpAny_bind (wpAny_typeOf hT ?_)
  refine wpAny_bind (I.type.here ?_)
  split
  · refine wpAny_bind ((PySem.W.looks_subIn X hsub).here ?_)
    simp only [Bool.false_eq_true, if_false, Bool.not_false, if_true]
    refine wpAny_bind (m := tryCompare x _ (.ref y)) (wpAny_mono one (fun r s1 z => ?_) fun _ _ e => e)
    obtain ⟨z1, z2⟩ := z
    subst z1
    subst z2
    refine wpAny_bind (m := tryCompare (.ref y) _ x) (wpAny_mono two (fun r s2 z => ?_) fun _ _ e => e)
    obtain ⟨v, rfl, hq⟩ := z
    exact wpAny_pure hq
  · rename_i q
    exact absurd (by simp) q
end
theorem excC_ok {K : PySem.W.Frag} {D : Str} (c : (Fx.excC D).ok K = true) : ExcC K (gad D K) := by
  obtain ⟨c1, c⟩ := He.ba c
  obtain ⟨c2, c⟩ := He.ba c
  obtain ⟨c3, c⟩ := He.ba c
  obtain ⟨c4, c⟩ := He.ba c
  obtain ⟨c5, c⟩ := He.ba c
  obtain ⟨c6, c⟩ := He.ba c
  obtain ⟨c7, c8⟩ := He.ba c
  exact ⟨He.eqO_ok c1, He.eqO_ok c2, of_decide_eq_true c3, c4, He.eqO_ok c5, He.eqO_ok c6, of_decide_eq_true c7, of_decide_eq_true c8⟩
/-- o == y, o an own instance with an own ==, y no instance of a class below -/
def rEqO (K : PySem.W.Frag) (C : Addr) (sp : Sp) (E : XK) : R2 := fun x y H Q => ∃ a dx fs t, x = .ref a ∧ H a = some (.ins C dx fs) ∧ TyX K H y t ∧ PySem.W.notFirst K C t = true ∧ sp [x, y] H Q E
/-- x == o, x None, a text, a tuple or a list -/
def rEqR (K : PySem.W.Frag) (C : Addr) (sp : Sp) (E : XK) : R2 := fun x y H Q => ∃ a dx fs, y = .ref a ∧ H a = some (.ins C dx fs) ∧ (x = .non ∨ (∃ z, x = .str z) ∨ ∃ p xs, x = .ref p ∧ (SqT K H p xs ∨ SqL K H p xs)) ∧ sp [y, x] H Q E
def rStrO (C : Addr) (sp : Sp) (E : XK) : List V → Hp → VK → Prop := fun xs H Q => ∃ a dx fs, xs = [.ref a] ∧ H a = some (.ins C dx fs) ∧ sp [.ref a] H (fun v H' => ∃ z : Str, v = .str z ∧ Q (.str z) H') E
/-- the class at C has no base among None's, texts', tuples', lists' types -/
structure NoSubs (K : PySem.W.Frag) (C : Addr) : Prop where
  non : PySem.W.subIn K (.ref C) (.type "NoneType") = some false
  str : PySem.W.subIn K (.ref C) (.type "str") = some false
  tup : PySem.W.subIn K (.ref C) (.type "tuple") = some false
  lst : PySem.W.subIn K (.ref C) (.type "list") = some false
section
variable {X : Cx} {CX : CXT} {k : Nat} {C f : Addr} {sp : Sp} {E : XK}
theorem op_eqO (o : OwnM X.K C "__eq__" f) (F : FnR X.prog X.w X.K X.mg X.base CX k f sp) (hr : Room k X.A) (hx : Passes CX X E) : OpR X (compareOp .Eq) (rEqO X.K C sp E) := by
  intro pins s σ H x y v u Q I rx ry h
  obtain ⟨a, dx, fs, t, rfl, ea, ty, nf, q⟩ := h
  obtain rfl : v = Value.ref a := rx
  obtain ⟨mA, O, _⟩ := ins_get I.hok ea
  obtain ⟨od, J, _⟩ := O.look
  obtain ⟨m0, Fm⟩ := I.fr
  obtain ⟨P, Z, p, _⟩ := kit_of I ry ty
  show wpAny (model X.prog X.w) X.A (richCompare .Eq (.ref a) u) (EP X pins σ Q) X.xe s
  refine PySem.W.cmp_K (op := .Eq) (tb := t) hr.units0 Fm I.ok.mod.kin J (Z.ty _ _ I.kIn p) nf o.at_ o.fn ?_
  refine thn (wpAny_call (run_fnR (us := [.ref a, u]) (vs := [.ref a, y]) F hr hx I (.cons rfl (.cons ry .nil)) q)) fun w s' z => ?_
  obtain ⟨z', H', I', rz, qz⟩ := z
  exact SlX.cmpback rz ⟨z', H', I', rz, qz⟩
theorem op_eqR (o : OwnM X.K C "__eq__" f) (n : NoSubs X.K C) (F : FnR X.prog X.w X.K X.mg X.base CX k f sp) (hr : Room k X.A) (hx : Passes CX X E) : OpR X (compareOp .Eq) (rEqR X.K C sp E) := by
  intro pins s σ H x y v u Q I rx ry h
  obtain ⟨a, dx, fs, rfl, ea, hx', q⟩ := h
  obtain rfl : u = Value.ref a := ry
  obtain ⟨mA, O, _⟩ := ins_get I.hok ea
  obtain ⟨od, J, _⟩ := O.look
  obtain ⟨m0, Fm⟩ := I.fr
  have fin : ∀ {x : V} {v : Value}, RelV x v → sp [.ref a, x] H Q E → wpAny (model X.prog X.w) X.A (call (.ref f) [.ref a, v]) (PySem.W.CmpBack (EP X pins σ Q)) X.xe s := fun {x v} rx q => by
    refine thn (wpAny_call (run_fnR (us := [.ref a, v]) (vs := [.ref a, x]) F hr hx I (.cons rfl (.cons rx .nil)) q)) fun w s' z => ?_
    obtain ⟨z', H', I', rz, qz⟩ := z
    exact SlX.cmpback rz ⟨z', H', I', rz, qz⟩
  show wpAny (model X.prog X.w) X.A (richCompare .Eq v (.ref a)) (EP X pins σ Q) X.xe s
  rcases hx' with rfl | ⟨z, rfl⟩ | ⟨p, xs, rfl, hS | hS⟩
  · obtain rfl : v = Value.none := rx
    exact rc_refl (T := "NoneType") hr.units0 Fm I.ok.mod.kin J rfl PySem.F.slot_NoneType_eq_refl (fun _ h => decl_none h) n.non o.at_ o.fn (fin (x := .non) rfl q)
  · obtain ⟨t, rfl⟩ := rx
    exact rc_refl (T := "str") hr.units0 Fm I.ok.mod.kin J (typeIs_str s z t) PySem.F.slot_str_eq (fun _ h => decl_str J.1 rfl h) n.str o.at_ o.fn (fin (x := .str z) ⟨t, rfl⟩ q)
  · obtain rfl : v = Value.ref p := rx
    obtain ⟨its, r, e, z⟩ := I.tuple hS
    have hT : s.TypeIs (.ref p) "tuple" := by
      obtain ⟨o1, ho, hc, _⟩ := e
      exact ⟨o1, ho, hc⟩
    exact rc_refl (T := "tuple") hr.units0 Fm I.ok.mod.kin J hT PySem.F.slot_tuple_eq (fun _ h => decl_tup hT I.kIn J n.tup h) n.tup o.at_ o.fn (fin (x := .ref p) rfl q)
  · obtain rfl : v = Value.ref p := rx
    obtain ⟨its, r, pl, hz⟩ := I.list hS
    obtain ⟨o1, ho, hc, n1, hd⟩ := pl.isList
    have hT : s.TypeIs (.ref p) "list" := ⟨o1, ho, hc⟩
    exact rc_refl (T := "list") hr.units0 Fm I.ok.mod.kin J hT PySem.F.slot_list_eq (fun _ h => decl_lst hT I.kIn J n.lst h) n.lst o.at_ o.fn (fin (x := .ref p) rfl q)
theorem run_in2 {pins : List (Addr × Obj)} {σ : L2.St} {H : Hp} {s : Shared} {Q : VK} {us : List Value} {vs : List V} (F : FnR X.prog X.w X.K X.mg X.base CX k f sp) (hr : Room (k + 2) X.A) (hx : Passes CX X E) (I : Inv X pins σ H s) (r : Vals vs us) (h : sp vs H Q E) :
    wpAny (model X.prog X.w) X.A.in1.in1 (call (.ref f) us) (EP X pins σ Q) X.xe s := by
  refine wpAny_call (codeAny_mono (F X.A.in1.in1 X.stack s H us vs Q E (show Room (k + 1) X.A.in1 from hr.in1).in1 I.env0.in1.in1 r h) fun r s' hq => ?_)
  cases r with
  | error e => exact hx pins σ H s e s' I hq
  | ok fl =>
    cases fl with
    | ret u => exact I.after hq
    | next => exact False.elim hq
    | brk => exact False.elim hq
    | cont => exact False.elim hq
theorem call_strO (o : OwnM X.K C "__str__" f) (F : FnR X.prog X.w X.K X.mg X.base CX k f sp) (hr : Room (k + 2) X.A) (hx : Passes CX X E) : CallR X (.type "str") (rStrO C sp E) := by
  intro pins s σ H xs us Q I r h
  obtain ⟨a, dx, fs, rfl, ea, q⟩ := h
  obtain ⟨u, rfl, ru⟩ := vals1 r
  obtain rfl : u = Value.ref a := ru
  obtain ⟨mA, O, _⟩ := ins_get I.hok ea
  obtain ⟨od, J, _⟩ := O.look
  have hu : X.A.in1.in1.units < cLine := (show Room k X.A.in1.in1 from (show Room (k + 1) X.A.in1 from hr.in1).in1).units0
  refine PySem.W.kso_call hu I.kIn J o.at_ o.fn (thn (run_in2 (us := [.ref a]) (vs := [.ref a]) F hr hx I (.cons rfl .nil) q) fun u s' hq => ?_)
  obtain ⟨z', H', I', rz, z, rfl, qz⟩ := hq
  obtain ⟨t, rfl⟩ := rz
  exact ⟨.str z, H', I', ⟨t, rfl⟩, qz⟩
end
/-! ### C(e, ..) where slot i holds the class -/
def tMakeL (i : Nat) (C : Addr) (sp : Sp) (E : XK) (t : TA) : TE := fun σ H Q => σ[i]? = some (some (.ref C)) ∧ tMake C sp [] E t σ H Q
theorem pe_makeLp {X : Cx} {CX : CXT} {k i : Nat} {f C : Addr} {fd : FuncData} {ps : List Str} {sp : Sp} {E : XK} {x : Str} {e : Expr} {es : List Expr} {t : TA} {p pos : Pos} (M : Mk X.K C f) (F : FnOk X.prog X.w X.K X.mg X.base CX k f fd ps sp) (hr : Room (k + 1) X.A)
    (hN : X.N[i]? = some x) (hv : Vis X.env.scope x) (hb : Binds X.K fd ps []) (hx : Passes CX X E) (ha : PA X (e :: es) t)
    (hd : (x == ("__debug__" : Str)) = false := by decide) (hcd : (x == ("__classdict__" : Str)) = false := by decide) (he : starEach (e :: es) X.env = (false, eval e X.env) :: starEach es X.env := by rfl) (hpl : (backTo pos (starEach es X.env)).any (·.1) = false := by rfl) :
    PE X (.Call (.Name x p) (e :: es) [] pos) (tMakeL i C sp E t) := by
  refine ⟨fun pins s σ H Q I h => ?_⟩
  obtain ⟨hs, h⟩ := h
  refine wpAny_Call_Name_kw (thn ((pe_var (pos := p) (i := i) hN hv hd hcd).run pins s σ H (fun v H1 => v = .ref C ∧ H1 = H) I ⟨.ref C, hs, rfl, rfl⟩) fun u s1 ⟨v, H1, I1, r1, ev, eH⟩ => ?_)
  subst ev
  rw [eH] at I1
  cases r1
  refine PySem.W.callWith_K (h₀ := X.base) I1.ok.mod.kin M.kp (thn (ha.run pos pins s1 σ H _ I1 h) fun us s2 ⟨vs, H2, I2, r, q⟩ => ⟨I2.kIn, ?_⟩) he hpl
  exact run_make M F hr hb .nil hx I2 r q
end Hue

set_option Elab.async false
set_option linter.all false
set_option maxRecDepth 100000
set_option maxHeartbeats 4000000
/-! an own exception's __init__ that begins with super().__init__('..') -/
namespace Hue
open PySem PySem.Spec PyProof.Rows L2
/-- the program's file, as its code objects tell it -/
class SupP (P : Program) (fl : Str) : Prop where
  file : ((P.main.file : Str) == fl) = true
  top : (P.main.scope.names.lookup ("super" : Str)).isSome = false
/-- what the written part says: D the class of the def at f (its cell cc, its code at cda), C the object's class -/
structure SupK (K : PySem.W.Frag) (C D f cc cda : Addr) (fl ar : Str) : Prop where
  fn : ∃ oc od fd osl, K.lookup f = some ⟨oc, od, .func fd, osl⟩ ∧ ∃ a, (fd.params.posonlyargs ++ fd.params.args).head? = some a ∧ a.arg = ar
  code : ∃ oc od vs sl tf, K.lookup cda = some ⟨oc, od, .fields vs, sl⟩ ∧ vs[2]? = some (.str fl tf)
  cell : ∃ oc od sl, K.lookup cc = some ⟨oc, od, .cell (some (.ref D)), sl⟩
  cls : (PySem.W.clsIn K D).isSome = true
  clsC : (PySem.W.clsIn K C).isSome = true
  sub : PySem.W.mroIn K C (.ref D) = some true
  tp : PySem.W.nsIn K cStatics "thirdparty.any" = some none
  sup : PySem.W.ks_superIn K C D "__init__" = some (some (.builtin "ValueError.__init__"))
  ve : PySem.W.subIn K (.ref C) (.type "ValueError") = some true
section
variable {prog : Program} {w : World} {A : Around} {E : Value → Shared → Prop} {h : Heap} {g : Array GenState} {d : Drawn} {t : Nat} {os : OsState}
variable {nm q : Str} {C N : Addr} {bs bm : List Value} {hdct : Bool} {sn : List Str} {sub : List Value} {ab : Bool} {col : Option Bool} {dd : Option Addr} {k0 k1 k2 k3 k5 : Option Value}
theorem call_bwV {u e t0 : Addr} {rest : List Value} {Q : Value → Shared → Prop}
    (hC : h.get? C = some (excClassObj nm q C N bs bm hdct sn sub ab col dd k0 k1 k2 k3 k5 "ValueError.__new__")) (hbm : HandSPX.refsVE bm = true) (he : h.get? e = some (HandSPX.excO C t0)) (hu : h.get? u = some (PySem.W.kxs_mw "ValueError.__init__" e)) (hrest : rest.length ≤ sizeLine)
    (hq : ∀ h' t1, (∀ b o, b ≠ e → h.get? b = some o → h'.get? b = some o) → h'.get? e = some (HandSPX.excO C t1) → Q .none ⟨h', g, d, t, os⟩) :
    wpAny (model prog w) A (call (.ref u) rest) Q E ⟨h, g, d, t, os⟩ := by
  refine wpAny_call (codeAny_of_tree ?_)
  show wpAny _ A.in1 (callAny (.ref u) ⟨rest, []⟩) _ _ _
  simp only [callAny]
  refine wpAny_bind (wpAny_load hu ?_)
  simp only [PySem.W.kxs_mw, show (Value.type "method-wrapper" == Value.type "method" || Value.type "method-wrapper" == Value.type "builtin_function_or_method" || Value.type "method-wrapper" == Value.type "method-wrapper") = true by decide, if_true]
  refine PySem.W.KFB.if_so (by decide) ?_
  refine wpAny_bind (PySem.ESX.check_bound F.excBase_ValueError hC he rfl ?_)
  refine wpAny_bind (wpAny_pure (wpAny_pure ?_))
  refine ⟨Code.quiet_builtin _ (by decide +kernel), codeAny_builtin F.excBase_ValueError.initEntry ?_⟩
  rw [Around.under_plainId F.excBase_ValueError.init.plain _]
  wp_walk
  refine hq _ h.objs.size (fun b o hb ho => ?_) ?_
  · rw [Heap.get?_update_other _ _ (Ne.symm hb)]
    exact Heap.get?_push_of_some _ ho
  · rw [Heap.get?_update_self _ (Heap.get?_push_of_some _ he) rfl]
    rfl
end
section
variable {X : Cx} {pins : List (Addr × Obj)} {σ : L2.St} {H : Hp} {s : Shared} {a C D f cc cda : Addr} {fl ar : Str}
theorem exo_inst {t1 : Addr} (ho : s.heap.get? a = some ({ cls := .ref C, data := .fields #[.ref t1, .none, .none, .none, .bool false, .none] } : Obj)) : PySem.W.InstAt s.heap a { cls := .ref C, data := .fields #[.ref t1, .none, .none, .none, .bool false, .none] } C none := ⟨ho, rfl, rfl, trivial⟩
/-- super().__init__('..') -/
theorem sup_first [SP : SupP X.prog fl] {body : List Stmt} {p0 p1 p2 p3 p4 p5 : Pos} {m : Str} {j : Nat} {E : Value → Shared → Prop} (SK : SupK X.K C D f cc cda fl ar) (T : OexC X.K C) (hfu : X.env.func = some f) (hco : X.env.code = .ref cda) (hcl : X.env.cells.lookup ("__class__" : Str) = some cc)
    (hks : X.env.kindOf "super" = some .globalImplicit) (hkc : X.env.kindOf "__class__" = some .free) (hka : X.env.kindOf ar = some .local) (hN : X.N[0]? = some ar) (hn : X.mg "super" = none)
    (I : Inv X pins σ H s) (hσ : σ[0]? = some (some (.ref a))) (he : H a = some (exo a C none)) {pl : Sem Bool}
    (hev : eval (.Call (.Attribute (.Call (.Name "super" p0) [] [] p1) "__init__" p2) [.Constant (.str m) j p3] [] p4) X.env = (do
      let ov ← attributeBase (.Call (.Name "super" p0) [] [] p1) "__init__" X.env (eval (.Call (.Name "super" p0) [] [] p1) X.env)
      standAt p2.atName
      let (f, first) ← holding [ov] (getMethod ov "__init__" pl)
      callWith p4 f first (backTo p4 (starEach [.Constant (.str m) j p3] X.env)) []))
    (hsw : swapsWith (.Call (.Attribute (.Call (.Name "super" p0) [] [] p1) "__init__" p2) [.Constant (.str m) j p3] [] p4) none p5.line X.env = pure false) :
    PySem.wpAt (model X.prog X.w) X.A (.func body X.env) (exec (.Expr (.Call (.Attribute (.Call (.Name "super" p0) [] [] p1) "__init__" p2) [.Constant (.str m) j p3] [] p4) p5) X.env) (fun f s' => f = .next ∧ Inv X pins σ H s') E s := by
  have hk := I.ok.kind
  have KI := I.kIn
  obtain ⟨oc, od, fd, osl, hf, arg, hp, rfl⟩ := SK.fn
  obtain ⟨coc, cod, vs, csl, tf, hcda, hvs⟩ := SK.code
  obtain ⟨ceo, ced, cesl, hcc⟩ := SK.cell
  obtain ⟨t1, ho⟩ := exo_at I.hok he
  obtain ⟨cdD, hD⟩ := Option.isSome_iff_exists.mp SK.cls
  obtain ⟨oD, hD1, hD2⟩ : ∃ oD, s.heap.get? D = some oD ∧ oD.data = .cls cdD := by
    unfold PySem.W.clsIn at hD
    split at hD
    · rename_i c d cd' sl ho
      cases hD
      exact ⟨_, KI _ _ ho, rfl⟩
    · cases hD
  obtain ⟨nm, q, N, bs, bm, sn, sub, ab, col, dd, k0, k1, k2, k3, k5, hCo, hbm⟩ := T.cls
  refine ks_wpAt_Expr_any (ks_wpAt_MethodCall (pl := pl) ?_ hev) (by
    unfold interactive
    rw [hk]
    rfl) hsw
  refine ks_wpAt_super_base hks hkc (by decide) hfu (KI _ _ hf) rfl hp hco (KI _ _ hcda) rfl hvs SP.file SP.top ?_
  obtain ⟨mb, b1, b2⟩ := I.mod.blt
  refine PySem.W.ks_loadName_global hk hks (Calls.loadGlobal_builtin (by rw [I.ok.glob]; exact I.mod.glob.keeps I.bk) hn (by rw [I.ok.blt]; exact b1.keeps I.bk) ((b2 "super" (by decide)).trans (show bootBuiltins "super" = some (.type "super") by decide +kernel)) ⟨rfl, ?_⟩)
  refine wpAny_loadName_free hk hkc hcl ⟨_, KI _ _ hcc, rfl⟩ ?_
  obtain ⟨mm, hns, hlk⟩ := I.loc
  obtain ⟨u0, r0, lk⟩ := hlk 0 arg.arg (.ref a) hN hσ (.inl hka)
  obtain rfl : u0 = Value.ref a := r0
  have hm0 : mm arg.arg = some (.ref a) := by
    rcases lk with ⟨_, e⟩ | ⟨k, c, e, z⟩
    · exact e
    · exfalso
      rcases k with k | k <;> rw [hka] at k <;> cases k
  refine wpAny_loadName_local hk hka hns hm0 ?_
  obtain ⟨hh, g, dr, tk, os⟩ := s
  refine ks_wpAny_isType_cls hD1 hD2 ⟨rfl, ?_⟩
  refine ks_wpAny_call_super (cdD := cdD) hD1 hD2 ho rfl (fun c e => by cases e) (PySem.W.looks_mroIn KI SK.sub) (fun h1 e1 k1 => ?_)
  have K1 : X.K.In h1 := KI.keeps k1
  have J1 : PySem.W.InstAt h1 a { cls := .ref C, data := .fields #[.ref t1, .none, .none, .none, .bool false, .none] } C none := ⟨k1 _ _ ho, rfl, rfl, trivial⟩
  obtain ⟨cdC, hcC⟩ := Option.isSome_iff_exists.mp SK.clsC
  have hsup := SK.sup
  unfold PySem.W.ks_superIn at hsup
  rw [hcC] at hsup
  refine PySem.W.kxs_getMethod PySem.W.kxs_ValueError e1 (PySem.W.looks_opaque K1 SK.tp) (l₀ := cdC.mro) (fun A Q E s k q => wpAny_bind ((PySem.W.looks_clsIn K1 hcC) A _ E s k (wpAny_pure q))) rfl K1 hsup (J1.type.andThen (PySem.W.looks_subIn K1 SK.ve)) (PySem.W.ks_ne K1 J1 hcC) (by decide) ?_
  have kk : ∀ b o, hh.get? b = some o → (h1.push (PySem.W.kxs_mw "ValueError.__init__" a)).get? b = some o := fun b o e => Heap.get?_push_of_some _ (k1 b o e)
  have I1 : Inv X pins σ H ⟨h1.push (PySem.W.kxs_mw "ValueError.__init__" a), g, dr, tk + 1, os⟩ := I.kept (t' := tk + 1) kk
  have hu : (h1.push (PySem.W.kxs_mw "ValueError.__init__" a)).get? h1.objs.size = some (PySem.W.kxs_mw "ValueError.__init__" a) := Heap.get?_push_size _ rfl
  have hsz : hh.objs.size ≤ h1.objs.size := Nat.le_of_lt (Heap.lt_size e1)
  refine PySem.W.kxs_callWith (i := "ValueError.__init__") (x := a) rfl (Calls.evalArgs_plain ?_)
  have ha : PA X [.Constant (.str m) j p3] (tCons (tC (.str m)) tNil) := pa_cons pe_str pa_nil
  have I2 : Inv X ((h1.objs.size, PySem.W.kxs_mw "ValueError.__init__" a) :: pins) σ H ⟨h1.push (PySem.W.kxs_mw "ValueError.__init__" a), g, dr, tk + 1, os⟩ := I1.pins_of fun q hq => by
    rcases List.mem_cons.mp hq with e | e
    · subst e
      exact ⟨hu, I.hok.fresh hsz, Nat.ne_of_gt (Nat.lt_of_lt_of_le I.lt hsz), I.nofs hsz, fun v z => nomatch z⟩
    · exact I1.pin q (List.mem_append_right _ e)
  refine thn (ha.run p4 _ _ σ H (fun vs H1 => vs = [V.str m] ∧ H = H1) I2 ⟨rfl, rfl⟩) fun us s3 hh3 => ?_
  obtain ⟨vs3, H3, I3, r3, ev, eH⟩ := hh3
  subst ev
  rw [← eH] at I3
  have hu3 : s3.heap.get? h1.objs.size = some (PySem.W.kxs_mw "ValueError.__init__" a) := (I3.pin (h1.objs.size, PySem.W.kxs_mw "ValueError.__init__" a) (List.mem_append_right _ List.mem_cons_self)).1
  refine ⟨hu3, ?_⟩
  have I4 : Inv X pins σ H s3 := I3.pins_of fun q hq => I3.pin q (List.mem_append_right _ (List.mem_cons_of_mem _ hq))
  obtain ⟨t3, ho3⟩ := exo_at I4.hok he
  obtain ⟨h3, g3, d3, tk3, os3⟩ := s3
  refine call_bwV (I4.kIn _ _ hCo) hbm ho3 hu3 (by show us.length ≤ sizeLine; rw [← r3.length]; exact (show (1 : Nat) ≤ sizeLine by decide)) fun h' t4 k hx => ?_
  have J := I4.write (t' := tk3) (x := a) (e := a) (o := exo a C none) (by rw [he]; exact True.intro) (.inl rfl) k ⟨_, hx⟩ (exo_ok hx)
  have eu : upd H a (exo a C none) = H := by
    funext b
    by_cases hb : b = a
    · rw [hb, upd_same, he]
    · rw [upd_ne hb]
  rw [eu] at J
  exact ⟨rfl, J⟩
end
theorem fnC_of {P : Program} {w : World} {K : PySem.W.Frag} {mg : Str → Option Value} {base : Heap} {CX : CXT} {k : Nat} {fl ar : Str} {f cc C D : Addr} {name qual : Str} {params : Arguments} {rest : List Stmt} {scope : Scope} {dV kV doc pm cdv ct oc : Value} {an od : Option Addr}
    {osl : Array (Option Value)} {N ps : List Str} {sp : Sp} {p0 p1 p2 p3 p4 p5 : Pos} {m : Str} {j : Nat} [SP : SupP P fl]
    (lk : K.lookup f = some ⟨oc, od, .func (PySem.W.fnX name qual params (.Expr (.Call (.Attribute (.Call (.Name "super" p0) [] [] p1) "__init__" p2) [.Constant (.str m) j p3] [] p4) p5 :: rest) scope [("__class__", cc)] dV kV doc pm an cdv ct), osl⟩)
    (hcd : PySem.W.codeIn K cdv qual = true) (S : NdefX.NScope N ps [("__class__" : Str)] scope) (SK : ∀ cda, cdv = .ref cda → SupK K C D f cc cda fl ar) (T : OexC K C) (hn : mg "super" = none) (hks : scope.names.lookup ("super" : Str) = some .globalImplicit) (hpa : ∃ r, ps = ar :: r)
    (len : ∀ vs H Q E, sp vs H Q E → vs.length = ps.length) (hob : ∀ vs H Q E, sp vs H Q E → ∃ a ws, vs = V.ref a :: ws ∧ H a = some (exo a C none)) {pl : Sem Bool}
    (hev : ∀ env : Env, eval (.Call (.Attribute (.Call (.Name "super" p0) [] [] p1) "__init__" p2) [.Constant (.str m) j p3] [] p4) env = (do
      let ov ← attributeBase (.Call (.Name "super" p0) [] [] p1) "__init__" env (eval (.Call (.Name "super" p0) [] [] p1) env)
      standAt p2.atName
      let (f, first) ← holding [ov] (getMethod ov "__init__" pl)
      callWith p4 f first (backTo p4 (starEach [.Constant (.str m) j p3] env)) []))
    (hsw : ∀ env : Env, swapsWith (.Call (.Attribute (.Call (.Name "super" p0) [] [] p1) "__init__" p2) [.Constant (.str m) j p3] [] p4) none p5.line env = pure false)
    (hbody : ∀ (F : NdefX.NF) (A : Around) (outer : List Env) (s : Shared) (H : Hp) (vs : List V) (Q : VK) (E : XK), F.scope = scope → F.qual = qual → F.cl = [(("__class__" : Str), cc)] → sp vs H Q E →
      ∃ t, PSs (NdefX.ncx CX P w K mg base N F f A outer s H E) rest t ∧ t { nx := fun _ H' => Q .non H', rt := Q } (NdefX.startF N vs [some (.ref D)]) H) :
    FnOk P w K mg base CX (k + 1) f (PySem.W.fnX name qual params (.Expr (.Call (.Attribute (.Call (.Name "super" p0) [] [] p1) "__init__" p2) [.Constant (.str m) j p3] [] p4) p5 :: rest) scope [("__class__", cc)] dV kV doc pm an cdv ct) ps sp := by
  refine ⟨len, fun A outer s H args us vs Q E hr e0 hb r hsp => ?_⟩
  have hl := len _ _ _ _ hsp
  have KX : K.In s.heap := e0.mod.kin.keeps fun b o e => (e0.bs b o e).1
  have lim : s.heap.NoLimit := e0.mod.nolimit.keeps fun b o e => (e0.bs b o e).1
  have hrec := PySem.W.codeRec_of KX hcd
  obtain ⟨cda, oc2, vs2, t2, ecd, _⟩ := id hrec
  subst ecd
  have SK := SK cda rfl
  obtain ⟨ceo, ced, cesl, hcc⟩ := id SK.cell
  obtain ⟨pr, rfl⟩ := hpa
  obtain ⟨a, ws, rfl, ha⟩ := hob _ _ _ _ hsp
  let F : NdefX.NF := ⟨name, qual, params, (.Expr (.Call (.Attribute (.Call (.Name "super" p0) [] [] p1) "__init__" p2) [.Constant (.str m) j p3] [] p4) p5 :: rest), scope, [("__class__", cc)], cda⟩
  have Ce : NdefX.CellsAt F.cl [("__class__" : Str)] [some (V.ref D)] s.heap H := by
    have look : ∀ {y c}, F.cl.lookup y = some c → y = ("__class__" : Str) ∧ c = cc := fun {y c} e => by
      have e' : (match y == ("__class__" : Str) with | true => some cc | false => none) = some c := by
        have e2 : List.lookup y [(("__class__" : Str), cc)] = some c := e
        unfold List.lookup at e2
        split at e2
        · rename_i q; rw [q]; exact e2
        · cases e2
      split at e'
      · rename_i q
        exact ⟨eq_of_beq q, (Option.some.inj e').symm⟩
      · cases e'
    refine ⟨rfl, fun y c e => ?_, fun x y c e1 e2 => ?_, fun i y hi => ?_⟩
    · obtain ⟨_, rfl⟩ := look e
      exact ⟨(e0.bs _ _ (e0.mod.kin _ _ hcc)).2, _, _, KX _ _ hcc, rfl⟩
    · rw [(look e1).1, (look e2).1]
    · have h0 : i = 0 := by
        have z := (List.getElem?_eq_some_iff.mp hi).1
        simp at z
        exact z
      subst h0
      have ey : y = ("__class__" : Str) := (Option.some.inj hi).symm
      subst ey
      refine ⟨cc, (by show List.lookup (("__class__" : Str)) [(("__class__" : Str), cc)] = some cc; unfold List.lookup; rw [show (("__class__" : Str) == ("__class__" : Str)) = true from beq_self_eq_true _]), fun v hv => ?_⟩
      have ev : v = V.ref D := by
        have z : some (some (V.ref D)) = some (some v) := hv
        cases z
        rfl
      subst ev
      exact ⟨_, rfl, _, KX _ _ hcc, rfl⟩
  refine codeAny_call_function hr.depth (KX _ _ lk) rfl S.co S.gen rfl hrec (hb _ _ _ _ ?_)
  refine wpAny_newFunctionEnv S.nocell (fun ⟨n, _⟩ hy => S.par n (List.of_mem_zip hy).1) (fun h₁ hns hsb => ⟨lim.fresh _ hsb, ?_⟩) S.kind
  show codeAny _ _ (.func F.body (NdefX.envF F f s.heap.objs.size)) _ _
  refine ks_codeAny_funcAt ?_
  have kp : ∀ b o, s.heap.get? b = some o → h₁.get? b = some o := fun b o e => hsb.extBut b o (Nat.ne_of_lt (Heap.lt_size e)) (Heap.get?_push_of_some _ e)
  obtain ⟨t, ht, hq⟩ := hbody F A outer s H _ Q E rfl rfl rfl hsp
  have I : Inv (NdefX.ncx CX P w K mg base N F f A outer s H E) [] (NdefX.startF N (V.ref a :: ws) [some (.ref D)]) H { s with heap := h₁, toks := s.toks + ((ar :: pr).zip us).length } := NdefX.inv_startN S hr.hd e0 hl r Ce hns kp
  have hkp : F.scope.names.lookup ar = some .local := S.par ar List.mem_cons_self
  have hN0 : N[0]? = some ar := by
    have z := S.pre
    have h0 : (N.take ((ar :: pr).length + [("__class__" : Str)].length))[0]? = some ar := by rw [z]; rfl
    rw [List.getElem?_take_of_lt (by simp)] at h0
    exact h0
  have st0 := sup_first (X := NdefX.ncx CX P w K mg base N F f A outer s H E) (SP := SP) (body := F.body) (E := fun e s' => wpAny (model P w) (A.deeper (NdefX.envF F f s.heap.objs.size)) (leaving (NdefX.envF F f s.heap.objs.size) e) (fun _ s'' => CX outer H s E e s'') (fun e' s'' => CX outer H s E e' s'') s')
    SK T rfl rfl (show List.lookup (("__class__" : Str)) [(("__class__" : Str), cc)] = some cc by unfold List.lookup; rw [show (("__class__" : Str) == ("__class__" : Str)) = true from beq_self_eq_true _]) hks (S.frk _ List.mem_cons_self) hkp hN0 hn I rfl ha (hev _) (hsw _)
  refine ks_wpAt_execs_cons (PySem.wpAt_mono st0 (fun fl s' z => ?_) fun _ _ z => z)
  obtain ⟨ef, J⟩ := z
  subst ef
  refine wpAt_of_wpAny (wpAny_mono (ht.run [] s' _ H _ J hq) (fun fl s' hs => ?_) fun e s' hs => hs)
  have fin : ∀ {σ' : L2.St} {H' : Hp} {v : V} {u : Value}, Inv (NdefX.ncx CX P w K mg base N F f A outer s H E) [] σ' H' s' → L2.RelV v u → Q v H' → CE outer P w H s Q u s' :=
    fun {σ' H' v u} J rv q => ⟨v, H', J.os, J.bare, J.base, J.hok, rv, q⟩
  cases fl with
  | ret u =>
    obtain ⟨v, σ', H', J, rv, q⟩ := hs
    exact fin J rv q
  | next =>
    obtain ⟨σ', H', J, q⟩ := hs
    exact fin (v := V.non) (u := Value.none) J rfl q
  | brk =>
    obtain ⟨_, _, _, q⟩ := hs
    exact False.elim q
  | cont =>
    obtain ⟨_, _, _, q⟩ := hs
    exact False.elim q
/-! ### the facts -/
theorem oex_ok {K : PySem.W.Frag} {C : Str} (c : (Fx.oex C).ok K = true) : OexC K (gad C K) := by
  obtain ⟨c1, c⟩ := He.ba c
  obtain ⟨c2, c⟩ := He.ba c
  obtain ⟨c3, c⟩ := He.ba c
  obtain ⟨c4, c5⟩ := He.ba c
  refine ⟨?_, He.eqO_ok c2, of_decide_eq_true c3, of_decide_eq_true c4, c5⟩
  split at c1
  · rename_i dd cd sl ho
    split at c1
    · rename_i C' bm k0 k1 k2 k3 n k5 hm hs
      obtain ⟨d1, c1⟩ := He.ba c1
      obtain ⟨d2, c1⟩ := He.ba c1
      obtain ⟨d3, c1⟩ := He.ba c1
      obtain ⟨d4, d5⟩ := He.ba c1
      have e1 := of_decide_eq_true d1
      have e2 := of_decide_eq_true d2
      have e3 : cd.hasDel = false := by simpa using d3
      obtain ⟨nm, bs, mro, ns, qn, hd, sn, sub, ab, col, del⟩ := cd
      dsimp only at hm e3 d4
      subst hm e3 d4 e2
      rw [e1] at ho
      have hsl : sl = #[k0, k1, k2, k3, some (.builtin "ValueError.__new__"), k5] := by
        obtain ⟨l⟩ := sl
        simp only at hs
        rw [hs]
      subst hsl
      exact ⟨nm, qn, ns, bs, bm, sn, sub, ab, col, dd, k0, k1, k2, k3, k5, ho, d5⟩
    · cases c1
  · cases c1
theorem sup_ok {K : PySem.W.Frag} {C D fl ar : Str} (c : (Fx.sup C D fl ar).ok K = true) {x qual : Str} {params : Arguments} {body : List Stmt} {scope : Scope} {cc : Addr} {cdv : Value} {fd : FuncData} (F : FunC K x qual params body scope (mad D "__init__" K) cc cdv fd) :
    ∀ cda, cdv = .ref cda → SupK K (gad C K) (gad D K) (mad D "__init__" K) cc cda fl ar := by
  rintro cda rfl
  obtain ⟨oc, od, dV, kV, doc, pm, an, ct, osl, rfl, lk, hcd, _⟩ := F.ex
  obtain ⟨c1, c⟩ := He.ba c
  obtain ⟨c2, c⟩ := He.ba c
  obtain ⟨c3, c⟩ := He.ba c
  obtain ⟨c4, c⟩ := He.ba c
  obtain ⟨c5, c⟩ := He.ba c
  obtain ⟨c6, c7⟩ := He.ba c
  rw [lk] at c1
  obtain ⟨a1, c1⟩ := He.ba c1
  obtain ⟨a2, a3⟩ := He.ba c1
  refine ⟨⟨_, _, _, _, lk, ?_⟩, ?_, ?_, c2, c3, of_decide_eq_true c4, He.eqO_ok c5, He.eqO_ok c6, of_decide_eq_true c7⟩
  · split at a1
    · rename_i a e
      exact ⟨a, e, of_decide_eq_true a1⟩
    · cases a1
  · dsimp only at a3
    split at a3
    · rename_i k1 k2 vs k3 e
      split at a3
      · rename_i z tk e2
        have e3 := of_decide_eq_true a3
        subst e3
        exact ⟨_, _, vs, _, tk, e, e2⟩
      · cases a3
    · cases a3
  · dsimp only at a2
    split at a2
    · rename_i k1 k2 a k3 e
      have e3 := of_decide_eq_true a2
      subst e3
      exact ⟨_, _, _, e⟩
    · cases a2
theorem einit_ok {K : PySem.W.Frag} {C D : Str} (c : (Fx.einit C D).ok K = true) : PySem.W.findIn K (.ref (gad C K)) "__init__" = some (some (.ref (mad D "__init__" K))) ∧ PySem.W.typeIn K (.ref (mad D "__init__" K)) = some (.type "function") := by
  obtain ⟨c1, c2⟩ := He.ba c
  exact ⟨He.eqO_ok c1, of_decide_eq_true c2⟩
/-! ### isinstance, fields of a caught error that has a dict -/
section
variable {prog : Program} {w : World} {A : Around} {E : Value → Shared → Prop} {s : Shared} {K : PySem.W.Frag} {x D : Addr} {ox od : Obj}
theorem kin_classD {Q : Option Value → Shared → Prop} (hga : PySem.W.findIn K (.ref D) "__getattribute__" = some (some (.builtin "BaseException.__getattribute__"))) (hgt : PySem.W.findIn K (.ref D) "__getattr__" = some none) (hsub : PySem.W.subIn K (.ref D) (.type "BaseException") = some true)
    (hdct : PySem.W.hasDictIn K D = true) (ha : PySem.W.findIn K (.ref D) "__class__" = some (some (.builtin "object.__class__")))
    (hn : PySem.W.specialIn K (.builtin "object.__class__") "__get__" = some (some (.builtin "getset_descriptor.__get__"))) (htk : PySem.W.takesIn K (.builtin "object.__class__") = some true) (hm : PySem.W.mroIn K D (.type "object") = some true)
    (X : K.In s.heap) (I : PySem.W.InstAt s.heap x ox D (some od)) (h : Q (some (.ref D)) { s with toks := s.toks + 1 }) : wpAny (model prog w) A (getAttr? (.ref x) "__class__") Q E s := by
  have hf : PySem.W.findObj K D (some od) "__class__" = some (.bind (.builtin "getset_descriptor.__get__") (.builtin "object.__class__")) := PySem.W.findObj_data (by obtain ⟨cd, hc, _⟩ := PySem.W.any_some hdct; show (PySem.W.clsIn K D).isSome = true; rw [hc]; rfl) ha hn htk
  obtain ⟨hp, g, d, t, os⟩ := s
  have L0 := I.type (M := model prog w)
  have L1 := PySem.W.looks_findIn (M := model prog w) X hga
  have L2 := PySem.W.looks_findIn (M := model prog w) X hgt
  have L3 := PySem.W.looks_find (M := model prog w) X I hf
  have sub : PySem.W.Looks (model prog w) hp (isInstance (.ref x) (.type "BaseException")) true := L0.andThen (PySem.W.looks_subIn X hsub)
  have hx0 : (false && onTheHeap (Value.builtin "BaseException.__getattribute__")) = false := rfl
  have hx2 : (Value.builtin "BaseException.__getattribute__" == Value.builtin "object.__getattribute__") = false := by decide +kernel
  have hx1 : (onTheHeap (Value.ref D) && Value.builtin "BaseException.__getattribute__" == Value.builtin "object.__getattribute__") = false := by rw [hx2]; rfl
  unfold getAttr? getAttrBy? getAttrBy
  refine wpAny_bind (wpAny_mkText (wpAny_bind (wpAny_attempt (wpAny_holding (wpAny_bind (L0.at (wpAny_bind (L1.at ?_))))))))
  show wpAny _ _ (if (onTheHeap (Value.ref D) && Value.builtin "BaseException.__getattribute__" == Value.builtin "object.__getattribute__") = true then _ else _) _ _ _
  rw [hx1, if_neg Bool.false_ne_true]
  unfold getAttrByItsOwn hookBefore
  refine wpAny_bind ?_
  rw [if_pos (show onTheHeap (Value.ref D) = true from rfl)]
  refine L2.at ?_
  refine wpAny_bind (wpAny_attempt (wpAny_holding ?_))
  unfold callGetattribute
  rw [hx0, if_neg Bool.false_ne_true]
  unfold boundAndCalled
  rw [PySem.F.excAttr_ValueError.ga.bind (.ref x)]
  refine wpAny_bind (wpAny_pure ?_)
  show wpAny _ _ (call (.builtin "BaseException.__getattribute__") [.ref x, .str "__class__" t]) _ _ _
  refine wpAny_call (codeAny_call_builtin PySem.F.excAttr_ValueError.ga.plain PySem.F.entry_bexc_ga ?_)
  refine @PySem.W.check_slot (model prog w) _ _ ⟨hp, g, d, t + 1, os⟩ "BaseException.__getattribute__" "BaseException" "__getattribute__" (.ref x) [.str "__class__" t] [] _ (by decide +kernel) (by decide +kernel) sub (PySem.F.args_bexc_ga (.ref x) (.str "__class__" t)) ?_
  unfold Builtin.«object.__getattribute__»
  refine wpAny_bind (wpAny_of_eq (a := ((Value.ref x : Value), [Value.str "__class__" t])) (by first | rfl | (simp only [slotArgs]; rfl)) ?_)
  refine wpAny_bind (wpAny_pure (wpAny_bind (L0.at (wpAny_bind (L3.at ?_)))))
  show wpAny _ _ (holding [Value.builtin "object.__class__"] (call (.builtin "getset_descriptor.__get__") [.builtin "object.__class__", .ref x, .ref D]) >>= ret) _ _ _
  refine wpAny_bind (wpAny_holding (wpAny_call (PySem.W.class_get (s := ⟨hp, g, d, t + 1, os⟩) (ox := ox) (od := some od) X I hm ?_)))
  refine wpAny_pure ?_
  show wpAny _ _ (handedOut (.ref D)) _ _ _
  rw [PySem.W.handedOut_of (v := .ref D) rfl]
  first
    | exact wpAny_pure (wpAny_pure h)
    | exact wpAny_pure h
    | exact wpAny_pure (wpAny_bind (wpAny_pure (wpAny_pure h)))
theorem kitx_excD (c : ExcC K D) : PySem.W.KitX K (.ref x) (.ref D) (fun h => PySem.W.InstAt h x ox D (some od)) where
  ty := fun _ _ _ I => I.type
  it := fun _ _ X _ => by
    obtain ⟨cdD, hcD, _⟩ := PySem.W.any_some c.hd
    unfold PySem.W.clsIn at hcD
    split at hcD
    · rename_i c' d' cd' sl' ho
      intro A' Q' E' s' k q
      unfold isType loadHead
      exact wpAny_bind (wpAny_loadPart (k _ _ (X _ _ ho)) (wpAny_pure q))
    · cases hcD
  ne := fun h tp dd its n sl X htp => by
    obtain ⟨cdD, hcD, _⟩ := PySem.W.any_some c.hd
    refine Bool.eq_false_iff.mpr fun q => ?_
    have e : D = tp := Value.ref.inj (beq_iff_eq.mp q)
    subst e
    unfold PySem.W.clsIn at hcD
    split at hcD
    · rename_i c' d' cd' sl' ho
      have z := (X _ _ ho).symm.trans htp
      cases z
    · cases hcD
  ca := fun X I k => kin_classD c.hg c.hk c.hs c.hd c.ha c.hn c.ht c.hm X I k
end
/-- an error of the class at D with these fields is held at a -/
def ExF (H : Hp) (D a : Addr) (fs : List (Str × V)) : Prop := ∃ dd, H a = some (Exn (.ref D) (some dd) a) ∧ H dd = some (.xd fs)
theorem ExF.same {H H' : Hp} {D a : Addr} {fs : List (Str × V)} (h : ExF H D a fs) (e : Same H H') : ExF H' D a fs := by
  obtain ⟨dd, h1, h2⟩ := h
  exact ⟨dd, e _ _ h1, e _ _ h2⟩
def rIsD (K : PySem.W.Frag) (D : Addr) : List V → Hp → VK → Prop := fun xs H Q => ∃ (a : Addr) (fs : List (Str × V)) (c : V) (u : Value) (b : Bool), xs = [.ref a, c] ∧ ExF H D a fs ∧ ClsV c u ∧ PySem.W.kitOne K (.ref D) u = some b ∧ Q (.bl b) H
def rIsDT (K : PySem.W.Frag) (D : Addr) : List V → Hp → VK → Prop := fun xs H Q => ∃ (a tp : Addr) (fs : List (Str × V)) (cs : List V) (us : List Value) (b : Bool), xs = [.ref a, .ref tp] ∧ ExF H D a fs ∧ H tp = some (.tup cs) ∧ Paired ClsV cs us ∧ PySem.W.kitAny K (.ref D) us = some b ∧ Q (.bl b) H
def tXv (D : Addr) (n : Str) (te : TE) : TE := fun σ H Q => te σ H fun x H1 => ∃ (a : Addr) (fs : List (Str × V)) (v : V), x = .ref a ∧ ExF H1 D a fs ∧ fs.lookup n = some v ∧ Q v H1
section
variable {X : Cx} {D : Addr} {pins : List (Addr × Obj)} {σ : L2.St} {H : Hp} {s : Shared}
theorem exf_inst {a : Addr} {fs : List (Str × V)} (I : Inv X pins σ H s) (h : ExF H D a fs) : ∃ oe od, PySem.W.InstAt s.heap a oe D (some od) ∧ ∃ mA : Str → Option Value, (∀ f, RelO (fs.lookup f) (mA f)) ∧ ∀ n, PySem.W.lookIn n od = some (mA n) := by
  obtain ⟨dd, h1, h2⟩ := h
  obtain ⟨oe, vs, hget, hz, hv⟩ := exn_at I h1
  obtain ⟨mA, hns, hr⟩ := (show ObjOk X.prog X.w H s.heap dd (.xd fs) from I.hok dd _ h2)
  obtain ⟨od, ho, hl⟩ := lookIn_ns hns
  exact ⟨oe, od, ⟨hget, hz.1, by unfold PySem.W.notCls; rw [hv] <;> rfl, by rw [hz.2]; exact ho⟩, mA, hr, hl⟩
theorem call_isD (C : ExcC X.K D) : CallR X (.builtin "isinstance") (rIsD X.K D) := by
  intro pins s σ H xs us Q I r h
  obtain ⟨a, fs, c, u, b, rfl, ha, hcv, e, q⟩ := h
  obtain ⟨u1, u2, rfl, r1, r2⟩ := vals2 r
  obtain rfl : u1 = Value.ref a := r1
  have ec := hcv.eq r2
  subst ec
  obtain ⟨oe, od, J, _⟩ := exf_inst I ha
  exact PySem.W.kia_one (kitx_excD C) I.kIn J e (fun z => nomatch z) fun tk => ⟨.bl b, H, I.tok tk, rfl, q⟩
theorem call_isDT (C : ExcC X.K D) : CallR X (.builtin "isinstance") (rIsDT X.K D) := by
  intro pins s σ H xs us Q I r h
  obtain ⟨a, tp, fs, cs, ws, b, rfl, ha, hT, k, e, q⟩ := h
  obtain ⟨u1, u2, rfl, r1, r2⟩ := vals2 r
  obtain rfl : u1 = Value.ref a := r1
  cases (show u2 = Value.ref tp from r2)
  obtain ⟨oe, od, J, _⟩ := exf_inst I ha
  obtain ⟨_, its, rv, o, h1, h2, n, h3⟩ := (show ObjOk X.prog X.w H s.heap tp (.tup cs) from I.hok tp _ hT)
  have e3 := ClsV.all k rv
  subst e3
  obtain ⟨oc, od, dt, sl⟩ := o
  simp only at h2 h3
  subst h2 h3
  exact PySem.W.kia_tup (kitx_excD C) I.kIn J h1 e (fun z => nomatch z) fun tk => ⟨.bl b, H, I.tok tk, rfl, q⟩
theorem pe_xv {e : Expr} {te : TE} {pos : Pos} {n : Str} (C : ExcC X.K D) (hno : PySem.W.findIn X.K (.ref D) n = some none) (he : PE X e te) (hb : attributeBase e n X.env (eval e X.env) = eval e X.env := by rfl) : PE X (.Attribute e n pos) (tXv D n te) := by
  refine ⟨fun pins s σ H Q I h => ?_⟩
  refine attr_of hb (thn (he.run pins s σ H _ I h) fun u s1 hh => ?_)
  obtain ⟨x, H1, I1, rx, a, fs, v, rfl, ha, l, q⟩ := hh
  obtain rfl : u = Value.ref a := rx
  obtain ⟨oe, od, J, mA, hr, hl⟩ := exf_inst I1 ha
  obtain ⟨u, hu, ru⟩ := RelO.some_of (v := v) (o := mA n) (by rw [← l]; exact hr n)
  exact HandSPX.exc_get I1.kIn J C.hg C.hk C.hs (PySem.W.findObj_own C.hd hno rfl (by rw [hl, hu])) (handed_of ru) ⟨v, H1, I1.tok _, ru, q⟩
end
theorem FunC.binds {K : PySem.W.Frag} {x qual : Str} {params : Arguments} {body : List Stmt} {scope : Scope} {f cc : Addr} {cdv : Value} {fd : FuncData} {ps : List Str} (F : FunC K x qual params body scope f cc cdv fd)
    (h : ∀ (kV doc pm : Value) (an : Option Addr) (cdv ct : Value) (us : List Value), us.length = ps.length → bindArgs (PySem.W.fnX x qual params body scope [("__class__", cc)] .none kV doc pm an cdv ct) ⟨us, []⟩ = pure (ps.zip us)) : Binds K fd ps [] := by
  obtain ⟨oc, od, dV, kV, doc, pm, an, ct, osl, rfl, lk, hcd, rfl⟩ := F.ex
  exact .all (h kV doc pm an cdv ct)
/-! ### making and raising such an error: one field; three -/
/-- __init__(self, v): one field -/
def spEx1 (K : PySem.W.Frag) (C : Addr) (n : Str) : Sp := fun vs H Q _ => ∃ (a : Addr) (v : V), vs = [.ref a, v] ∧ H a = some (exo a C none) ∧ ∀ dx, H dx = none → dx ≠ a → Q .non (upd (upd H dx (exd dx [(n, v)])) a (exo a C (some dx)))
theorem mkO1 {K : PySem.W.Frag} {C : Addr} {n : Str} {v : V} {H : Hp} {E : XK} (k : ∀ dd H', H dd = none → Same H H' → H' dd = some (.xd [(n, v)]) → E (.ref C) (some dd) H') :
    [v].length ≤ 1000 ∧ ∀ a, H a = none → spEx1 K C n (.ref a :: ([v] ++ [])) (upd H a (exo a C none))
      (fun w H2 => w = .non ∧ ∃ (d : Addr) (fs : List (Str × V)), H2 a = some (exo a C (some d)) ∧ H2 d = some (exd d fs) ∧ H d = none ∧ E (.ref C) (some d) (upd (L2.del H2 a) d (.xd fs))) (fun _ _ _ => False) := by
  refine ⟨(by decide : 1 ≤ 1000), fun a na => ⟨a, v, rfl, upd_same, fun dx nd ne => ⟨rfl, dx, [(n, v)], upd_same, ?_, ?_, ?_⟩⟩⟩
  · rw [upd_ne ne, upd_same]
  · rw [upd_ne ne] at nd; exact nd
  · have nd' : H dx = none := by rw [upd_ne ne] at nd; exact nd
    refine k dx _ nd' (fun b o e => ?_) upd_same
    have b1 : b ≠ a := ne_of_none e na
    have b2 : b ≠ dx := ne_of_none e nd'
    rw [upd_ne b2, L2.del_ne b1, upd_ne b1, upd_ne b2, upd_ne b1]
    exact e
end Hue

set_option Elab.async false
set_option linter.all false
set_option maxRecDepth 100000
set_option maxHeartbeats 4000000
/-! def f(self, **kw) called with keywords; C(**d); d.update(e) -/
namespace Hue
open PySem PySem.Spec PyProof.Rows L2
/-! ### a fresh dict filled by names -/
section
variable {prog : Program} {w : World} {A : Around} {E : Value → Shared → Prop} {d : Addr}
theorem kw_nsSet {s : Shared} {es : List DictEntry} {n : Nat} {k : Str} {v : Value} {Q : Unit → Shared → Prop} (D : s.heap.get? d = some (PySem.W.dictOf es n))
    (hs : ∀ e ∈ es, e.key.isStr k = false) (hr : ∀ e ∈ es, e.refKey = false)
    (h : ∀ h', h'.get? d = some (PySem.W.dictOf (es ++ [⟨PyData.keyHash w.params k, .str k s.toks, v⟩]) (n + 1)) → (∀ b o, b ≠ d → s.heap.get? b = some o → h'.get? b = some o) → Q () { s with heap := h', toks := s.toks + 1 }) :
    wpAny (model prog w) A (nsSet d k v) Q E s := by
  have e1 : es.any (·.key.isStr k) = false := by
    cases q : es.any (·.key.isStr k) with
    | false => rfl
    | true => obtain ⟨e, he, z⟩ := List.any_eq_true.mp q; rw [hs e he] at z; cases z
  have e2 : es.any (·.refKey) = false := by
    cases q : es.any (·.refKey) with
    | false => rfl
    | true => obtain ⟨e, he, z⟩ := List.any_eq_true.mp q; rw [hr e he] at z; cases z
  have e : Obj.putName k (PyData.keyHash w.params k) (.str k s.toks) v (PySem.W.dictOf es n) = PySem.W.dictOf (es ++ [⟨PyData.keyHash w.params k, .str k s.toks, v⟩]) (n + 1) := by
    rw [PySem.W.putName_dict, PySem.W.putL_new hs]
    show PySem.W.dictOf _ (if es.any (·.key.isStr k) then n else n + 1) = _
    rw [e1, if_neg Bool.false_ne_true]
  have c : aRefKeyMayBeTheName k es.toArray = false := by
    rw [aRefKeyMayBeTheName_at, ← Array.any_toList, ← Array.any_toList]
    show (!es.any (·.key.isStr k) && es.any (·.refKey)) = false
    rw [e2, Bool.and_false]
  unfold nsSet
  refine wpAny_bind (wpAny_bind (wpAny_askSetting (wpAny_pure (wpAny_bind (wpAny_mkText (wpAny_bind (wpAny_loadPart D ?_)))))))
  dsimp only
  rw [c]
  refine wpAny_updatePart D (h _ ?_ fun b o hb eb => ?_)
  · have z := Heap.get?_update_self (Obj.putName k (PyData.keyHash w.params k) (.str k s.toks) v) D (by rw [e]; rfl)
    rw [e] at z
    exact z
  · rw [Heap.get?_update_other _ _ (Ne.symm hb)]
    exact eb
theorem kw_fill {Q : PUnit → Shared → Prop} : ∀ (ex : List (Str × Value)) (s : Shared) (es : List DictEntry) (n : Nat), s.heap.get? d = some (PySem.W.dictOf es n) →
    (∀ e ∈ es, ∀ x ∈ ex, e.key.isStr x.1 = false) → (∀ e ∈ es, e.refKey = false) → (ex.map (·.1)).Nodup →
    (∀ h', h'.get? d = some (PySem.W.dictOf (es ++ PySem.W.kwEs w.params s.toks ex) (n + ex.length)) → (∀ b o, b ≠ d → s.heap.get? b = some o → h'.get? b = some o) → Q ⟨⟩ { s with heap := h', toks := s.toks + ex.length }) →
    wpAny (model prog w) A (forIn ex PUnit.unit fun x _ => (nsSet d x.1 x.2 >>= fun _ => pure (ForInStep.yield PUnit.unit))) Q E s
  | [], s, es, n, D, _, _, _, h => by
    rw [List.forIn_nil]
    refine wpAny_pure (h s.heap ?_ fun _ _ _ e => e)
    show s.heap.get? d = some (PySem.W.dictOf (es ++ []) n)
    rw [List.append_nil]
    exact D
  | x :: r, s, es, n, D, hs, hr, hn, h => by
    obtain ⟨hn1, hn2⟩ := List.nodup_cons.mp (show (x.1 :: r.map (·.1)).Nodup from hn)
    rw [List.forIn_cons]
    refine wpAny_bind (wpAny_bind (kw_nsSet D (fun e he => hs e he x (.head _)) hr fun h' D' k' => wpAny_pure ?_))
    show wpAny (model prog w) A (forIn r PUnit.unit fun x _ => (nsSet d x.1 x.2 >>= fun _ => pure (ForInStep.yield PUnit.unit))) Q E { s with heap := h', toks := s.toks + 1 }
    refine kw_fill r { s with heap := h', toks := s.toks + 1 } _ _ D' (fun e he y hy => ?_) (fun e he => ?_) hn2 fun h'' D'' k'' => ?_
    · rcases List.mem_append.mp he with he | he
      · exact hs e he y (.tail _ hy)
      · obtain rfl := List.mem_singleton.mp he
        show (x.1 == y.1) = false
        exact beq_eq_false_iff_ne.mpr fun q => hn1 (by rw [q]; exact List.mem_map_of_mem hy)
    · rcases List.mem_append.mp he with he | he
      · exact hr e he
      · obtain rfl := List.mem_singleton.mp he
        rfl
    · have t1 : s.toks + 1 + r.length = s.toks + (r.length + 1) := by omega
      have t2 : n + 1 + r.length = n + (r.length + 1) := by omega
      show Q ⟨⟩ { s with heap := h'', toks := s.toks + 1 + r.length }
      rw [t1]
      refine h h'' ?_ fun b o hb e => k'' b o hb (k' b o hb e)
      rw [t2, List.append_assoc] at D''
      exact D''
theorem kwx_pairs : ∀ (ex : List (Str × Value)) (t : Tok), PySem.Pairs (mixKind prog w) (PySem.W.kwEs w.params t ex) (ex.map fun x => ((Sum.inr x.1 : Key), x.2))
  | [], _ => .nil
  | x :: r, t => .cons (keyIs_str x.1 t) rfl (kwx_pairs r (t + 1))
theorem kwx_dict {h : Heap} {ex : List (Str × Value)} (t : Tok) (n : Nat) (D : h.get? d = some (PySem.W.dictOf (PySem.W.kwEs w.params t ex) n)) (hn : (ex.map (·.1)).Nodup) : h.DictOf (mixKind prog w) d (ex.map fun x => ((Sum.inr x.1 : Key), x.2)) :=
  ⟨_, _, n, D, ⟨rfl, rfl, rfl⟩, rfl, fun e he => by
    obtain ⟨k, u, hk, hh⟩ := PySem.W.kwEs_key ex t e (List.mem_toArray.mp he)
    exact ⟨.inr k, by rw [hk]; exact keyIs_str k u, hh.trans rfl⟩, kwx_pairs ex t, by
      rw [List.map_map]
      have e : (ex.map fun x => ((Sum.inr x.1 : Key))) = (ex.map (·.1)).map Sum.inr := by rw [List.map_map]; rfl
      show (ex.map fun x => ((Sum.inr x.1 : Key))).Nodup
      rw [e]
      exact List.pairwise_map.mpr (hn.imp fun h q => h (Sum.inr.inj q))⟩
end
/-! ### def f(self, **kw) -/
/-- the pairs by names -/
def kwV (ks : List Str) (zs : List V) : List (Key × V) := (ks.zip zs).map fun x => ((Sum.inr x.1 : Key), x.2)
theorem kv_zip : ∀ {ks : List Str} {zs : List V} {ws : List Value}, Vals zs ws → KV (kwV ks zs) ((ks.zip ws).map fun x => ((Sum.inr x.1 : Key), x.2))
  | [], _, _, _ => .nil
  | _ :: _, [], [], .nil => .nil
  | k :: ks, z :: zs, u :: us, .cons a r => .cons ⟨rfl, a⟩ (kv_zip (ks := ks) r)
structure FnKs (P : Program) (w : World) (K : PySem.W.Frag) (mg : Str → Option Value) (base : Heap) (CX : CXT) (k : Nat) (f : Addr) (ks : List Str) (sp : Sp) : Prop where
  run : ∀ (A : Around) (outer : List Env) (s : Shared) (H : Hp) (u : Value) (v : V) (ws : List Value) (zs : List V) (Q : VK) (E : XK), Room k A → Env0 P w K mg base A outer s H → RelV v u → Vals zs ws → zs.length = ks.length → sp (v :: zs) H Q E →
    codeAny (model P w) A (.call (.ref f) ⟨[u], ks.zip ws⟩) (CR CX outer P w H s Q E) s
theorem fnKs_of {P : Program} {w : World} {K : PySem.W.Frag} {mg : Str → Option Value} {base : Heap} {CX : CXT} {k : Nat} {f : Addr} {fd : FuncData} {x qual p0 pd : Str} {params : Arguments} {body : List Stmt} {scope : Scope} {N : List Str} {sp : Sp} {ks : List Str}
    (F : FunD K x qual params body scope [] [] f fd) (S : FnScope N [p0, pd] scope) (hCX : StX.CXUp CX) (hn : ks.Nodup) (hz : ks.length ≤ 100)
    (hb : ∀ (kV doc pm : Value) (an : Option Addr) (cdv ct : Value) (a : Value) (ws : List Value), ws.length = ks.length → bindArgs (PySem.W.fnOf x qual params body scope .none kV doc pm an cdv ct) ⟨[a], ks.zip ws⟩ =
      ((alloc ({ cls := .type "dict", data := .dict #[] } : Obj) : Sem Addr) >>= fun d => (forIn (ks.zip ws) PUnit.unit fun x _ => (nsSet d x.1 x.2 >>= fun _ => pure (ForInStep.yield PUnit.unit))) >>= fun _ => pure [(p0, a), (pd, Value.ref d)]))
    (hbody : ∀ (cdv : Value) (A : Around) (outer : List Env) (s : Shared) (H : Hp) (vs : List V) (Q : VK) (E : XK), Room k (A.deeper (envOfC qual scope s.heap.objs.size f cdv)) → sp vs H Q E →
      ∃ t, PSs (cxOf CX P w K mg base N qual scope f cdv A outer s H E) body t ∧ t { nx := fun _ H' => Q .non H', rt := Q } (L2.start N vs) H) :
    FnKs P w K mg base CX (k + 1) f ks (fun vs H Q E => ∃ v zs, vs = v :: zs ∧ ∀ d, H d = none → sp [v, .ref d] (upd H d (.dK (kwV ks zs))) Q E) := by
  refine ⟨fun A outer s H u v ws zs Q E hr e0 ru rz hl hsp => ?_⟩
  obtain ⟨v', zs', e, hq⟩ := hsp
  injection e with e1 e2
  subst e1 e2
  obtain ⟨oc, od, dV, kV, doc, pm, an, cdv, ct, osl, rfl, lk, hcd, hD, _⟩ := F.ex
  rcases hD with ⟨_, rfl⟩ | ⟨e, _⟩
  · have hn0 : H s.heap.objs.size = none := e0.hok.fresh (Nat.le_refl _)
    have hwl : ws.length = ks.length := by rw [← rz.length]; exact hl
    refine StX.run_bnd lk hcd S hr e0 (G := fun xs H2 => ∃ d, H d = none ∧ xs = [v, .ref d] ∧ H2 = upd H d (.dK (kwV ks zs))) (fun A' Ex Q' h => ?_) fun s2 H2 xs ⟨d, hd, ex, eH⟩ hr' => ?_
    · rw [hb kV doc pm an cdv ct u ws hwl]
      refine wpAny_bind (wpAny_alloc (wpAny_bind ?_))
      have D0 : (s.heap.push ({ cls := .type "dict", data := .dict #[] } : Obj)).get? s.heap.objs.size = some (PySem.W.dictOf [] 0) := Heap.get?_push_size _ rfl
      have kz : ((ks.zip ws).map (·.1)) = ks := List.map_fst_zip (by omega)
      refine kw_fill (ks.zip ws) _ [] 0 D0 (fun _ he => nomatch he) (fun _ he => nomatch he) (by rw [kz]; exact hn) fun h' D' k' => wpAny_pure ?_
      have kp : ∀ b o, s.heap.get? b = some o → h'.get? b = some o := fun b o e => k' b o (Nat.ne_of_lt (Heap.lt_size e)) (Heap.get?_push_of_some _ e)
      have zlen : (kwV ks zs).length ≤ sizeLine := by
        unfold kwV
        rw [List.length_map, List.length_zip]
        exact Nat.le_trans (show _ ≤ 100 by omega) (by decide)
      have hsys : (s.heap.objs.size == sysModules) = false := beq_eq_false_iff_ne.mpr (Ne.symm (Nat.ne_of_lt (StX.env0_big e0)))
      have new : ObjOk P w (upd H s.heap.objs.size (.dK (kwV ks zs))) h' s.heap.objs.size (.dK (kwV ks zs)) := ⟨zlen, hsys, _, kv_zip rz, kwx_dict _ _ D' (by rw [kz]; exact hn)⟩
      have un : Un (frs outer) [] H (upd H s.heap.objs.size (.dK (kwV ks zs))) s.heap h' := Un.laid kp (Nat.le_refl _) hn0
      refine h { s with heap := h', toks := s.toks + (ks.zip ws).length } _ [v, .ref s.heap.objs.size] [u, .ref s.heap.objs.size] ⟨e0.frames, e0.mod, fun b o e => ⟨kp b o (e0.bs b o e).1, ?_⟩, ?_, Heap.FunFrames.of_keeps (fun b o e _ => ⟨o, kp b o e, rfl⟩) e0.funs, fun b hb => ?_, e0.hok.laid kp (Nat.le_refl _) new, e0.bare⟩ un rfl
        (fun e s' z => hCX outer s H { s with heap := h', toks := s.toks + (ks.zip ws).length } _ E e s' un kp rfl z) (.cons ru (.cons rfl .nil)) rfl ⟨_, hn0, rfl, rfl⟩
      · rw [upd_ne (Nat.ne_of_lt (Heap.lt_size (e0.bs b o e).1))]
        exact (e0.bs b o e).2
      · have h1 := Heap.lt_size D'
        exact Nat.le_trans e0.bsz (Nat.le_of_lt h1)
      · obtain ⟨_, o, ho, _⟩ := e0.funs.mem hb
        rw [upd_ne (Nat.ne_of_lt (Heap.lt_size ho))]
        exact e0.frf b hb
    · subst ex eH
      exact hbody cdv A outer s2 _ _ Q E hr' (hq d hd)
  · exact absurd rfl e
/-! ### **d in a call: its pairs are merged into a new dict, and read off it -/
section
variable {prog : Program} {w : World} {A : Around} {E : Value → Shared → Prop} {s : Shared}
theorem key_noref {k : Key} {v : Value} (h : (mixKind prog w).is k v = true) : ∀ a, v ≠ .ref a := fun a z => by
  rcases keyIs_shape h with ⟨i, t, _, e⟩ | ⟨x, t, _, e⟩ <;> rw [e] at z <;> cases z
theorem wpAny_dictPutNew {t : Sem Unit} {d : Addr} {kvs : List (Key × Value)} {k : Key} {key v : Value} {Q : Unit → Shared → Prop} (hkey : (mixKind prog w).is k key = true) (hm : s.heap.DictOf (mixKind prog w) d kvs) (hnot : k ∉ kvs.map (·.1))
    (hQ : ∀ h', h'.DictOf (mixKind prog w) d (kvs ++ [(k, v)]) → Heap.SameBut d s.heap h' → Q () { s with heap := h' }) (hsz : kvs.length ≤ sizeLine) :
    wpAny (model prog w) A (dictFind d key ((mixKind prog w).hash k) >>= fun r => if r.isSome = true then t else dictPut d ((mixKind prog w).hash k) key v) Q E s := by
  obtain ⟨o, es, ep, ho, hc, hd, hk, hp, hn⟩ := hm
  have hes : es.size ≤ sizeLine := by
    have e1 := hp.length
    have e2 : es.toList.length = es.size := by simp
    omega
  have hidx : (es.findIdx? fun e => (mixKind prog w).is k e.key) = kvs.findIdx? fun kv => decide (kv.1 = k) := by
    rw [← hp.findIdx k]; obtain ⟨l⟩ := es; simp
  have hnone : (es.findIdx? fun e => (mixKind prog w).is k e.key) = none := by
    rw [hidx, List.findIdx?_eq_none_iff]
    intro x hx
    exact decide_eq_false fun e => hnot (e ▸ List.mem_map_of_mem hx)
  refine wpAny_bind (wpAny_dictFind_of hkey ho hd hk ?_)
  rw [hnone, if_neg (by simp)]
  unfold dictPut
  refine wpAny_bind (wpAny_dictFind_of hkey ho hd hk ?_)
  rw [hnone]
  refine wpAny_updateDictKeys (hz := hes) ho hd (hQ _ ⟨_, _, ep + 1, Heap.get?_update_self _ ho (Obj.isFreed_of_dict (Obj.data_mapDictKeys hd _)), hc.mapDictKeys _, Obj.data_mapDictKeys hd _, hk.push hkey _, ?_, ?_⟩ (Heap.SameBut.update ..))
  · have := hp.append hkey ((mixKind prog w).hash k) v
    obtain ⟨l⟩ := es
    simpa using this
  · rw [List.map_append, List.nodup_append]
    refine ⟨hn, by simp, ?_⟩
    intro a ha b hb
    simp only [List.map_cons, List.map_nil, List.mem_singleton] at hb
    subst hb
    exact fun e => hnot (e ▸ ha)
theorem wpAny_mergeMap {d o : Addr} {more : List (Key × Value)} {Q : Unit → Shared → Prop} (hdo : d ≠ o) (hoS : (o == sysModules) = false)
    (hd : s.heap.DictOf (mixKind prog w) d []) (ho : s.heap.DictOf (mixKind prog w) o more)
    (hQ : ∀ h', h'.DictOf (mixKind prog w) d more → Heap.SameBut d s.heap h' → Q () { s with heap := h' }) (hsz : more.length ≤ sizeLine) :
    wpAny (model prog w) A (mergeMapping d (.ref o) true) Q E s := by
  obtain ⟨od, esd, epd, hod, hcd, hdd, hkd, hpd, hnd⟩ := id hd
  obtain ⟨oo, eso, epo, hoo, hco, hdo', hko, hpo, hno⟩ := id ho
  have hlen : more.length = eso.size := by rw [← hpo.length]; simp
  unfold mergeMapping
  refine wpAny_bind (wpAny_isInstance ho.typeIs isSubtype_dict_dict ?_)
  simp only [if_true]
  refine wpAny_bind (wpAny_specialOf ho.typeIs F.slot_dict_iter.lookup ?_)
  simp only [beq_self_eq_true]
  refine wpAny_bind (wpAny_pure ?_)
  dsimp only
  rw [if_neg (by rw [hoS]; exact Bool.false_ne_true)]
  have h0 : esd = #[] := by
    have z := hpd.length
    have z2 : esd.toList.length = 0 := z
    exact Array.eq_empty_of_size_eq_zero (by simpa using z2)
  refine wpAny_bind (wpAny_dictEntries hod hdd ?_)
  rw [if_pos (by rw [h0]; rfl)]
  refine wpAny_bind (wpAny_dictEntries hoo hdo' ?_)
  refine wpAny_bind ?_
  rw [← Array.forIn_toList]
  refine wpAny_forIn_list _ (fun rest _ s' => s' = s ∧ ∀ e ∈ rest, e ∈ eso.toList) _ ?_ ?_ _ _ ⟨rfl, fun _ h => h⟩
  · rintro x rest b s' ⟨rfl, hm⟩
    have hx : x ∈ eso := by simpa using hm x (List.mem_cons_self ..)
    obtain ⟨k', hkey', hhash⟩ := hko x hx
    have nr := key_noref hkey'
    split
    · rename_i a' e'
      exact absurd e' (nr a')
    · exact wpAny_pure ⟨rfl, fun e he => hm e (List.mem_cons_of_mem _ he)⟩
  · rintro b s' ⟨rfl, _⟩
    refine wpAny_bind (wpAny_dictEntries hoo hdo' ?_)
    refine wpAny_bind (wpAny_dictEpoch hoo hdo' ?_)
    refine wpAny_bind ?_
    have er : List.range eso.size = List.range' 0 eso.size := List.range_eq_range'
    rw [er]
    refine wpAny_forIn_list _
      (fun rest _ s2 => ∃ h' i, s2 = { s' with heap := h' } ∧ rest = List.range' i (eso.size - i) ∧ i ≤ eso.size ∧ h'.DictOf (mixKind prog w) d (more.take i) ∧ h'.get? o = some oo ∧ Heap.SameBut d s'.heap h')
      _ ?_ ?_ _ _ ⟨s'.heap, 0, rfl, by simp, Nat.zero_le _, by simpa using hd, hoo, Heap.SameBut.refl _ _⟩
    · rintro x rest b s2 ⟨h', i, rfl, hr, hi, hd', hoo', hs'⟩
      have hlt : i < eso.size := by
        rcases Nat.lt_or_ge i eso.size with h | h
        · exact h
        · rw [Nat.sub_eq_zero_of_le h] at hr; simp at hr
      obtain ⟨rfl, hrest⟩ : x = i ∧ rest = List.range' (i + 1) (eso.size - (i + 1)) := by
        have e : eso.size - i = (eso.size - (i + 1)) + 1 := by omega
        rw [e, List.range'_succ] at hr
        injection hr with h1 h2
        exact ⟨h1, h2⟩
      refine wpAny_bind (wpAny_dictEntries hoo' hdo' ?_)
      rw [Array.getElem?_eq_getElem hlt]
      obtain ⟨kv, hkv⟩ : ∃ kv, more[x]? = some kv := ⟨more[x]'(by rw [hlen]; exact hlt), List.getElem?_eq_getElem _⟩
      obtain ⟨k, v⟩ := kv
      obtain ⟨hkey, hval⟩ := hpo.get? (e := eso[x]) (by simp [hlt]) hkv
      obtain ⟨k', hkey', hhash⟩ := hko eso[x] (Array.getElem_mem hlt)
      obtain rfl : k' = k := (mixKind prog w).inj _ _ _ hkey' hkey
      have fresh : k' ∉ (more.take x).map (·.1) := by
        intro hin
        have hx2 : x < more.length := by rw [hlen]; exact hlt
        have e1 : more = more.take x ++ more.drop x := (List.take_append_drop x more).symm
        have e2 : more.drop x = (k', v) :: more.drop (x + 1) := by
          rw [List.drop_eq_getElem_cons hx2]
          have : more[x] = (k', v) := by
            have := List.getElem?_eq_getElem hx2
            rw [hkv] at this
            exact (Option.some.inj this).symm
          rw [this]
        rw [e1, e2, List.map_append, List.map_cons, List.nodup_append] at hno
        exact hno.2.2 _ hin _ List.mem_cons_self rfl
      dsimp only
      rw [hhash, hval]
      have hmx : (more.take x).length ≤ sizeLine := by
        have e2 : (more.take x).length ≤ more.length := by rw [List.length_take]; omega
        omega
      refine wpAny_bind (wpAny_holding (wpAny_dictPutNew hkey hd' fresh (fun h'' hd'' hs'' => ?_) hmx))
      have hoo'' : h''.get? o = some oo := (hs''.2 o (Ne.symm hdo)).trans hoo'
      refine wpAny_bind (wpAny_dictEpoch hoo'' hdo' ?_)
      rw [if_neg (by simp)]
      refine wpAny_pure ⟨h'', x + 1, rfl, hrest, hlt, ?_, hoo'', hs'.trans hs''⟩
      rw [List.take_add_one, hkv]
      exact hd''
    · rintro b s2 ⟨h', i, rfl, hr, hi, hd', hoo', hs'⟩
      have hin : i = eso.size := by
        rcases Nat.lt_or_ge i eso.size with h | h
        · have e : eso.size - i = (eso.size - (i + 1)) + 1 := by omega
          rw [e, List.range'_succ] at hr; exact nomatch hr
        · exact Nat.le_antisymm hi h
      refine wpAny_pure (hQ h' ?_ hs')
      rw [hin, ← hlen, List.take_length] at hd'
      exact hd'
end
section
variable {prog : Program} {w : World} {A : Around} {E : Value → Shared → Prop} {s : Shared}
abbrev emptyD : Obj := { cls := .type "dict", data := .dict #[] }
theorem emptyD_of {h : Heap} {d : Addr} (e : h.get? d = some emptyD) : h.DictOf (mixKind prog w) d [] := ⟨_, #[], 0, e, ⟨rfl, rfl, rfl⟩, rfl, fun _ h => by simp at h, .nil, List.nodup_nil⟩
theorem wpAny_mergedOne {x : Sem Value} {f : Value} {Q : Addr → Shared → Prop}
    (h : wpAny (model prog w) A x (fun v s1 => ∃ o more, v = .ref o ∧ (o == sysModules) = false ∧ s1.heap.DictOf (mixKind prog w) o more ∧ more.length ≤ sizeLine ∧ s1.heap.get? s.heap.objs.size = some emptyD ∧ s.heap.objs.size ≠ o ∧
      ∀ h', h'.DictOf (mixKind prog w) s.heap.objs.size more → Heap.SameBut s.heap.objs.size s1.heap h' → Q s.heap.objs.size { s1 with heap := h' }) E { s with heap := s.heap.push emptyD }) :
    wpAny (model prog w) A (mergedKeywords f [(none, x)]) Q E s := by
  unfold mergedKeywords
  refine wpAny_bind (wpAny_alloc ?_)
  refine wpAny_bind (wpAny_holding ?_)
  dsimp only
  rw [List.forIn_cons]
  dsimp only
  refine wpAny_bind (wpAny_bind ?_)
  rw [if_pos (by rfl)]
  refine wpAny_bind (wpAny_pure ?_)
  refine wpAny_bind (wpAny_mono h (fun v s1 hv => ?_) fun _ _ z => z)
  obtain ⟨o, more, rfl, hoS, ho, hsz, hd, hne, hQ⟩ := hv
  have go : ∀ (P : Unit → Shared → Prop) (E' : Value → Shared → Prop), (∀ h', h'.DictOf (mixKind prog w) s.heap.objs.size more → Heap.SameBut s.heap.objs.size s1.heap h' → P () { s1 with heap := h' }) → wpAny (model prog w) A (mergeMapping s.heap.objs.size (.ref o) true) P E' s1 :=
    fun P E' hP => wpAny_mergeMap hne hoS (emptyD_of hd) ho hP hsz
  refine wpAny_bind (wpAny_onRaise (wpAny_holding (wpAny_tryCatch (wpAny_onRaise (go _ _ fun h' hd' hs' => ?_)))))
  refine wpAny_pure ?_
  dsimp only
  rw [List.forIn_nil]
  refine wpAny_pure ?_
  rw [if_pos (by rfl)]
  exact wpAny_pure (wpAny_pure (hQ h' hd' hs'))
theorem wpAny_keywordsIn {f : Value} {d : Addr} {kvs : List (Str × Value)} {Q : List (Str × Value) → Shared → Prop} (hd : s.heap.DictOf (mixKind prog w) d (kvs.map fun x => ((Sum.inr x.1 : Key), x.2))) (h : Q kvs s) : wpAny (model prog w) A (keywordsIn f d) Q E s := by
  obtain ⟨o, es, ep, ho, hc, hdd, hk, hp, hn⟩ := hd
  have hlen : kvs.length = es.size := by
    have z := hp.length
    rw [List.length_map] at z
    have z2 : es.toList.length = es.size := by simp
    omega
  unfold keywordsIn
  refine wpAny_bind (wpAny_dictEntries ho hdd ?_)
  refine wpAny_bind ?_
  rw [← Array.forIn_toList]
  refine wpAny_forIn_list _ (fun rest b s' => s' = s ∧ ∃ i, rest = es.toList.drop i ∧ b = kvs.take i) _ ?_ ?_ _ _ ⟨rfl, 0, by simp, by simp⟩
  · rintro x rest b s' ⟨rfl, i, hr, rfl⟩
    have hlt : i < es.toList.length := by
      rcases Nat.lt_or_ge i es.toList.length with h' | h'
      · exact h'
      · rw [List.drop_of_length_le h'] at hr; cases hr
    rw [List.drop_eq_getElem_cons hlt] at hr
    injection hr with hx hrest
    have hlk : i < kvs.length := by
      have : es.toList.length = es.size := by simp
      omega
    cases hkv : kvs[i]
    rename_i k v
    have hk1 : kvs[i]? = some (k, v) := by rw [List.getElem?_eq_getElem hlk, hkv]
    have hk2 : (kvs.map fun x => ((Sum.inr x.1 : Key), x.2))[i]? = some ((Sum.inr k : Key), v) := by rw [List.getElem?_map, hk1]; rfl
    obtain ⟨hkey, hval⟩ := hp.get? (e := x) (by rw [hx]; exact List.getElem?_eq_getElem hlt) hk2
    rcases keyIs_shape (k := (Sum.inr k : Key)) (v := x.key) hkey with ⟨j, t, e1, _⟩ | ⟨y, t, e1, e2⟩
    · cases e1
    · obtain rfl : k = y := Sum.inr.inj e1
      split
      · rename_i z tk e3
        rw [e2] at e3
        injection e3 with e4 _
        subst e4
        refine wpAny_pure ⟨rfl, i + 1, hrest, ?_⟩
        rw [List.take_add_one, hk1, hval]
        rfl
      · rename_i hno
        exact absurd e2 (hno _ _)
  · rintro b s' ⟨rfl, i, hr, rfl⟩
    have hge : es.toList.length ≤ i := by
      rcases Nat.lt_or_ge i es.toList.length with h' | h'
      · rw [List.drop_eq_getElem_cons h'] at hr; cases hr
      · exact h'
    have e : kvs.take i = kvs := List.take_of_length_le (by
      have : es.toList.length = es.size := by simp
      omega)
    rw [e]
    exact wpAny_pure h
end
theorem kv_unzip : ∀ {ks : List Str} {zs : List V} {vs : List (Key × Value)}, KV (kwV ks zs) vs → zs.length = ks.length → ∃ ws, Vals zs ws ∧ vs = (ks.zip ws).map fun x => ((Sum.inr x.1 : Key), x.2)
  | [], [], _, .nil, _ => ⟨[], .nil, rfl⟩
  | [], _ :: _, _, _, h => by cases h
  | _ :: _, [], _, _, h => by cases h
  | k :: ks, z :: zs, (a, u) :: vs, .cons ⟨e, r⟩ t, h => by
    obtain ⟨ws, rw', ew⟩ := kv_unzip (ks := ks) (zs := zs) t (Nat.succ.inj h)
    refine ⟨u :: ws, .cons r rw', ?_⟩
    have e' : (Sum.inr k : Key) = a := e
    rw [ew, ← e']
    rfl
section
variable {M : Model} {A : Around} {E : Value → Shared → Prop} {s : Shared}
theorem callWith_SS {f : Value} {pos : Pos} {x : Sem Value} {Q : Value → Shared → Prop} {P : Heap → Prop} (hk : ∀ h, P h → ∃ k, (k = Keeper.frame ∨ k = Keeper.machine ∨ k = Keeper.boundFrame) ∧ PySem.W.Looks M h (keeperOf f) k)
    (h : wpAny M A (evalArgs f true [] [(none, x)]) (fun a s₁ => P s₁.heap ∧ wpAny M A (call f ([] ++ a.pos) a.kw) Q E s₁) E s) : wpAny M A (callWith pos f [] [] [(none, x)]) Q E s := by
  unfold callWith
  refine wpAny_bind (wpAny_holding (wpAny_mono h (fun a s₁ h₁ => wpAny_bind (wpAny_standAt ?_)) fun _ _ x => x))
  obtain ⟨k, hk', L⟩ := hk _ h₁.1
  simp only [List.any_nil, List.any_cons, Option.isNone_none, Bool.false_or, Bool.true_or]
  refine wpAny_bind (L.here ?_)
  have tail : ∀ {t : Sem Value}, wpAny M A t Q E s₁ → wpAny M A (t >>= fun r => holding [r] point >>= fun _ => pure r) Q E s₁ :=
    fun ht => wpAny_bind (wpAny_mono ht (fun r s₂ hr => wpAny_bind (wpAny_holding (wpAny_point (wpAny_pure hr)))) fun _ _ x => x)
  have marked (mk : Value) : wpAny M A (callMarked mk f ([] ++ a.pos) a.kw) Q E s₁ := by unfold callMarked; exact Calls.wpAny_keep h₁.2
  rcases hk' with rfl | rfl | rfl <;> dsimp only <;> first | exact tail (marked _) | exact tail (wpAny_operating h₁.2)
theorem evalArgs_SS {f : Value} {x : Sem Value} {Q : Args → Shared → Prop} (h : wpAny M A (mergedKeywords f [(none, x)]) (fun d s1 => wpAny M A (keywordsIn f d) (fun kw s2 => Q ⟨[], kw⟩ s2) E s1) E s) : wpAny M A (evalArgs f true [] [(none, x)]) Q E s := by
  unfold evalArgs
  simp only [spliced]
  refine wpAny_bind (wpAny_bind (wpAny_pure (wpAny_pure ?_)))
  refine wpAny_bind (wpAny_pure ?_)
  refine wpAny_holding ?_
  dsimp only
  rw [if_neg (by simp)]
  refine wpAny_bind (wpAny_mono h (fun d s1 h1 => ?_) fun _ _ z => z)
  refine wpAny_bind (wpAny_pure ?_)
  exact wpAny_bind (wpAny_holding (wpAny_mono h1 (fun kw s2 h2 => wpAny_pure h2) fun _ _ z => z))
end
/-- C(**e): e a dict of the names ks -/
def tMakeSS (C : Addr) (ks : List Str) (sp : Sp) (gV : List V → List V → List V) (E : XK) (te : TE) : TE := fun σ H Q => te σ H fun y H1 => ∃ o zs, y = .ref o ∧ H1 o = some (.dK (kwV ks zs)) ∧ zs.length = ks.length ∧ ∀ x dx, H1 x = none → H1 dx = none → dx ≠ x →
  sp (gV [.ref x] zs) (upd (upd H1 dx (.own x)) x (.ins C dx [])) (fun v H3 => v = .non ∧ Q (.ref x) H3) E
theorem pe_makeSS {X : Cx} {CX : CXT} {k : Nat} {f C : Addr} {fd : FuncData} {ps ks : List Str} {sp : Sp} {E : XK} {x : Str} {p pos : Pos} {e : Expr} {kws : List Keyword} {te : TE} {g : List Value → List Value → List Value} {gV : List V → List V → List V}
    (M : Mk X.K C f) (F : FnOk X.prog X.w X.K X.mg X.base CX k f fd ps sp) (hr : Room (k + 1) X.A) (hg : Gl X x) (hm : X.mg x = some (.ref C)) (hb : KBn X.K fd ps 1 ks g gV) (hx : Passes CX X E) (he : PE X e te)
    (hdb : (x == ("__debug__" : Str)) = false := by decide) (hkw : backToKw pos (keywordEach kws X.env) = [(none, (do let v ← eval e X.env; standAt pos; pure v))] := by rfl) (hpos : backTo pos (starEach [] X.env) = [] := by rfl) :
    PE X (.Call (.Name x p) [] kws pos) (tMakeSS C ks sp gV E te) := by
  refine ⟨fun pins s σ H Q I h => ?_⟩
  refine wpAny_Call_Name_kw (ld_glob I hg hm ?_ hdb)
  rw [hkw, hpos]
  refine callWith_SS (P := X.K.In) (PySem.W.keeps_K M.kp) (evalArgs_SS (wpAny_mergedOne ?_))
  have hn : H s.heap.objs.size = none := I.hok.fresh (Nat.le_refl _)
  have I1 : Inv X pins σ H { s with heap := s.heap.push emptyD } := I.kept (t' := s.toks) fun b o e => Heap.get?_push_of_some _ e
  have hd : (s.heap.push emptyD).get? s.heap.objs.size = some emptyD := Heap.get?_push_size _ rfl
  have I2 : Inv X ((s.heap.objs.size, emptyD) :: pins) σ H { s with heap := s.heap.push emptyD } := I1.pins_of fun q hq => by
    rcases List.mem_cons.mp hq with e | e
    · subst e
      exact ⟨hd, hn, Nat.ne_of_gt I.lt, I.nofs (Nat.le_refl _), fun v z => nomatch z⟩
    · exact I1.pin q (List.mem_append_right _ e)
  refine wpAny_bind (thn (he.run _ _ σ H _ I2 h) fun v s1 hv => wpAny_bind (wpAny_standAt (wpAny_pure ?_)))
  obtain ⟨y, H1, I3, ry, o, zs, rfl, ho, hl, hq⟩ := hv
  obtain rfl : v = Value.ref o := ry
  obtain ⟨hz, hsys, vs, kv, hdo⟩ := (show ObjOk X.prog X.w H1 s1.heap o (.dK (kwV ks zs)) from I3.hok o _ ho)
  obtain ⟨ws, rws, ews⟩ := kv_unzip kv hl
  have P3 := I3.pin (s.heap.objs.size, emptyD) (List.mem_append_right _ List.mem_cons_self)
  have I4 : Inv X pins σ H1 s1 := I3.pins_of fun q hq => I3.pin q (List.mem_append_right _ (List.mem_cons_of_mem _ hq))
  have ne : s.heap.objs.size ≠ o := fun z => by
    rw [← z] at ho
    rw [P3.2.1] at ho
    cases ho
  refine ⟨o, vs, rfl, hsys, hdo, (by rw [← kv.length]; exact hz), P3.1, ne, fun h' hd' hs' => ?_⟩
  have fp : FpOk X pins H1 s.heap.objs.size := ⟨P3.2.1, (I.fpOk (Nat.le_refl _) hn).2.1, (I.fpOk (Nat.le_refl _) hn).2.2.1, (I.fpOk (Nat.le_refl _) hn).2.2.2.1, (I.fpOk (Nat.le_refl _) hn).2.2.2.2.1, (I.fpOk (Nat.le_refl _) hn).2.2.2.2.2⟩
  have I5 : Inv X pins σ H1 { s1 with heap := h' } := I4.turned (t' := s1.toks) (fun b o hb e => (hs'.2 b hb).trans e) fp.1 fp.2.1 fp.2.2.2.1 fp.2.2.2.2.1 fp.2.2.2.2.2
  rw [ews] at hd'
  refine wpAny_keywordsIn (prog := X.prog) (w := X.w) hd' ⟨I5.kIn, ?_⟩
  exact run_makeK (us := []) (vs := []) (n := 0) M F hr hb hx I5 .nil rws rfl hl hq
/-! ### o.m(k = v, ..), m a def with **kw -/
def tMethKs (C : Addr) (m : Str) (n : Nat) (sp : Sp) (E : XK) (ta : TE) (tk : TA) : TE := fun σ H Q => ta σ H fun x H1 => ∃ a dx fs, x = .ref a ∧ H1 a = some (.ins C dx fs) ∧ fs.lookup m = none ∧ tk σ H1 fun zs H2 => zs.length = n ∧ sp (x :: zs) H2 Q E
section
variable {X : Cx} {CX : CXT} {k : Nat} {f C : Addr} {ks : List Str} {sp : Sp} {E : XK} {m : Str} {pos apos : Pos} {o : Expr} {kws : List Keyword} {ta : TE} {tk : TA} {pl : Sem Bool}
theorem run_fnKs {pins : List (Addr × Obj)} {σ : L2.St} {H : Hp} {s : Shared} {Q : VK} {a : Addr} {ws : List Value} {zs : List V} (F : FnKs X.prog X.w X.K X.mg X.base CX k f ks sp) (hr : Room k X.A) (hx : Passes CX X E)
    (I : Inv X pins σ H s) (rz : Vals zs ws) (l2 : zs.length = ks.length) (h : sp (.ref a :: zs) H Q E) : wpAny (model X.prog X.w) X.A (call (.ref f) [.ref a] (ks.zip ws)) (EP X pins σ Q) X.xe s := by
  refine wpAny_call (codeAny_mono (F.run X.A X.stack s H (.ref a) (.ref a) ws zs Q E hr I.env0 rfl rz l2 h) fun r s' hq => ?_)
  cases r with
  | error e => exact hx pins σ H s e s' I hq
  | ok fl =>
    cases fl with
    | ret u => exact I.after hq
    | next => exact False.elim hq
    | brk => exact False.elim hq
    | cont => exact False.elim hq
theorem pe_methKs (he : PE X o ta) (c : Cls X.K C) (hm : Meth X.K C m f) (F : FnKs X.prog X.w X.K X.mg X.base CX k f ks sp) (hr : Room k X.A) (hx : Passes CX X E) (hkw : PK X kws tk)
    (hall : (backToKw pos (keywordEach kws X.env)).all (·.1.isSome) = true := by rfl) (hks : (backToKw pos (keywordEach kws X.env)).filterMap (·.1) = ks := by rfl)
    (hpl : ((backTo pos (starEach [] X.env)).any (·.1) || (backToKw pos (keywordEach kws X.env)).any (·.1.isNone)) = false := by rfl)
    (ht : eval (.Call (.Attribute o m apos) [] kws pos) X.env = (do
      let ov ← eval o X.env
      standAt apos.atName
      let (f, first) ← holding [ov] (getMethod ov m pl)
      callWith pos f first (backTo pos (starEach [] X.env)) (backToKw pos (keywordEach kws X.env))) := by rfl) :
    PE X (.Call (.Attribute o m apos) [] kws pos) (tMethKs C m ks.length sp E ta tk) := by
  refine ⟨fun pins s σ H Q I h => ?_⟩
  refine PySem.W.methodCall_KW (pl := pl) (thn (he.run pins s σ H _ I h) fun u s1 ⟨x, H1, I1, rx, a, dx, fs, ex, ea, l, q⟩ => ?_) ht
  subst ex
  obtain rfl : u = Value.ref a := rx
  refine getmeth_ok I1 ea c hm l ?_
  refine PySem.W.callWith_KW0 (first := [.ref a]) (h₀ := X.base) I.ok.mod.kin hm.kp hall ?_ hpl
  refine thn (hkw.run pos pins s1 σ H1 _ I1 q) fun ws s2 ⟨zs, H2, I2, rz, l2, q2⟩ => ⟨I2.kIn, ?_⟩
  rw [hks]
  exact run_fnKs F hr hx I2 rz l2 q2
end
/-! ### d.update(e), e another dict -/
def rDUpd : V → List V → Hp → VK → Prop := fun x vs H Q => ∃ (a o : Addr) (kvs more : List (Key × V)), x = .ref a ∧ vs = [.ref o] ∧ H a = some (.dK kvs) ∧ H o = some (.dK more) ∧ a ≠ o ∧ kvs.length + more.length ≤ sizeLine ∧ Q .non (upd H a (.dK (mergeK kvs more)))
theorem mtd_update {X : Cx} : MtR X "dict.update" rDUpd := by
  intro pins s σ H x vs v us Q I rx rv h
  obtain ⟨a, o, kvs, more, ex, ev, e, eo, ne, hz, q⟩ := h
  subst ex
  subst ev
  obtain rfl : v = Value.ref a := rx
  cases rv with
  | cons r0 r1 =>
    cases r1
    rename_i u
    obtain rfl : u = Value.ref o := r0
    obtain ⟨z, hd, ks, rel, dd⟩ := dk_of I.hok e
    obtain ⟨z2, hd2, ks2, rel2, dd2⟩ := dk_of I.hok eo
    refine call_meetsIn PySem.F.slot_dict_update dd.typeIs PySem.F.entry_dict_update (PySem.F.args_dict_update_2 _ _) (meets_dict_update (mixKind X.prog X.w) a o ne hd2) ⟨ks, ks2, dd, dd2, by rw [← rel.length, ← rel2.length]; exact hz, fun h' dd' _ hs => ⟨.non, _, ?_, rfl, q⟩⟩
    have he : ∃ q, h'.get? a = some q := let ⟨q, _, _, hq, _⟩ := dd'; ⟨q, hq⟩
    have hm : (mergeK kvs more).length ≤ sizeLine := Nat.le_trans (length_mergeK more kvs) hz
    exact d_write (t' := s.toks) I (by rw [e]; exact True.intro) hs he (dk_new hm hd (rel2.merge rel) dd')
end Hue

set_option Elab.async false
set_option linter.all false
set_option maxRecDepth 100000
set_option maxHeartbeats 4000000
/-! o.f = v, f a property with a setter -/
namespace Hue
open PySem PySem.Spec PyProof.Rows L2
def sPset (C : Addr) (ta tv : TE) (sp : Sp) (E : XK) : TS := fun D σ H => tv σ H fun y H1 => ta σ H1 fun x H2 => ∃ a dx fs, x = .ref a ∧ H2 a = some (.ins C dx fs) ∧ sp [.ref a, y] H2 (fun _ H3 => D.nx σ H3) E
section
variable {X : Cx} {CX : CXT} {k : Nat} {C p g : Addr} {f : Str} {fd : FuncData} {ps : List Str} {sp : Sp} {E : XK} {o value : Expr} {pos pos' : Pos} {ta tv : TE}
theorem setprop_ok {pins : List (Addr × Obj)} {σ : L2.St} {H : Hp} {s : Shared} {Q : VK} {a dx : Addr} {fs : List (Str × V)} {y : V} {u : Value} {Qd : Unit → Shared → Prop} (I : Inv X pins σ H s) (ea : H a = some (.ins C dx fs)) (c : Cls X.K C) (hp : PSetOf X.K C f p g)
    (F : FnOk X.prog X.w X.K X.mg X.base CX k g fd ps sp) (hr : Room (k + 2) X.A) (hb : Binds X.K fd ps []) (hx : Passes CX X E) (ry : RelV y u) (h : sp [.ref a, y] H Q E) (hq : ∀ v H' s', Inv X pins σ H' s' → Q v H' → Qd () s') :
    wpAny (model X.prog X.w) X.A (setAttr (.ref a) f u) Qd X.xe s := by
  obtain ⟨mA, O, _, _, _, _⟩ := ins_get I.hok ea
  obtain ⟨od, J, _⟩ := O.look
  obtain ⟨z, rest, hrec⟩ := hp.rc
  have I1 := I.tok (s.toks + 1)
  have hl : ([Value.ref a, u] ++ []).length = ps.length := by
    rw [← F.len _ _ _ _ h]; rfl
  refine PySem.W.set_plain I.kIn J c.sa (PySem.W.osa_descr (s := { s with toks := s.toks + 1 }) PySem.W.KF.slot_pset I.kIn J c.po hp.tk hp.ty (PySem.W.prop_set (s := { s with toks := s.toks + 1 }) I.kIn hrec ?_))
  refine codeAny_mono (F.run X.A.in1.in1 X.stack { s with toks := s.toks + 1 } H ⟨[.ref a, u], []⟩ [.ref a, u] [.ref a, y] Q E hr.in1.in1 I1.env0.in1.in1 (hb _ [.ref a, u] I1.kIn hl) (.cons rfl (.cons ry .nil)) h) fun r s' hq' => ?_
  cases r with
  | error er => exact hx pins σ H { s with toks := s.toks + 1 } er s' I1 hq'
  | ok fl =>
    cases fl with
    | ret u =>
      obtain ⟨v, H', I3, rv, q3⟩ := I1.after hq'
      exact hq v H' s' I3 q3
    | next => exact False.elim hq'
    | brk => exact False.elim hq'
    | cont => exact False.elim hq'
theorem ps_pset (c : Cls X.K C) (hp : PSetOf X.K C f p g) (F : FnOk X.prog X.w X.K X.mg X.base CX k g fd ps sp) (hr : Room (k + 2) X.A) (hb : Binds X.K fd ps []) (hx : Passes CX X E) (ha : PE X o ta) (hv : PE X value tv)
    (hs : swapsWith value (some (.Attribute o f pos')) pos.line X.env = pure false := by rfl) : PS X (.Assign [.Attribute o f pos'] value pos) (sPset C ta tv sp E) := by
  refine ⟨fun pins s σ H D I h => ?_⟩
  refine plainObj_wpAny_Assign_Attribute (thn (hv.run pins s σ H _ I h) fun u s1 ⟨y, H1, I1, ry, q⟩ => thn (ha.run pins s1 σ H1 _ I1 q) fun ov s2 ⟨x, H2, I2, rx, a, dx, fs, ex, ea, q2⟩ => ?_) hs
  subst ex
  obtain rfl : ov = Value.ref a := rx
  exact setprop_ok I2 ea c hp F hr hb hx ry q2 fun v H' s' I3 q3 => ⟨σ, H', I3, q3⟩
end
end Hue

set_option Elab.async false
set_option linter.all false
set_option maxRecDepth 100000
set_option maxHeartbeats 1000000
/-! a list and a tuple walked together; defs with a starred parameter as methods; {x:spec} -/
namespace Hue
open PySem PySem.Spec PyProof.Rows L2

/-! ### zip(list, tuple) -/
def ItLT (K : PySem.W.Frag) (a b : Addr) : It :=
  ⟨fun i H => ∃ (us zs : List V) (u z : V), SqL K H a us ∧ SqT K H b zs ∧ us[i]? = some u ∧ zs[i]? = some z,
    fun i H v H' => ∃ q u z, v = .ref q ∧ H q = none ∧ H' = L2.upd H q (.tup [u, z]) ∧ (∀ us, SqL K H a us → us[i]? = some u) ∧ ∀ zs, SqT K H b zs → zs[i]? = some z,
    fun i H => ∃ us zs : List V, SqL K H a us ∧ SqT K H b zs ∧ i ≤ us.length ∧ i ≤ zs.length ∧ (i = us.length ∨ i = zs.length)⟩
structure LtApart (z ti tq i1 i2 a b : Addr) : Prop where
  s : ZipSep2 z ti tq i1 i2 [i1, a] [i2, b]
  n1 : a ≠ i1
  n2 : b ≠ i2
  n3 : tq ≠ i1
  n4 : tq ≠ i2
abbrev ltC (z ti tq i1 i2 : Addr) : List Addr := [z, ti, tq, i1, i2]
theorem ltC_mem {z ti tq i1 i2 c : Addr} (h : c ∈ ltC z ti tq i1 i2) : c = z ∨ c = ti ∨ c = tq ∨ c = i1 ∨ c = i2 := by simpa using h
theorem turn_LT {P : Program} {w : World} {K : PySem.W.Frag} {elts : List Expr} {kk : Nat} {tpos : Pos} {a b z ti tq i1 i2 : Addr} (Z : LtApart z ti tq i1 i2 a b) :
    Turn P w K (.Tuple elts kk tpos) (ItLT K a b) (ltC z ti tq i1 i2) z (fun i h => IsZip h z ti tq .none ∧ IsTupOf2 h ti (.ref i1) (.ref i2) ∧ (∃ u v, IsTupOf2 h tq u v) ∧ h.IsListIter i1 a i ∧ h.IsTupleIter i2 b i) where
  mem := List.mem_cons_self
  obj := fun i h st c hc => by
    obtain ⟨hz, hti, ⟨u, v, htq⟩, ⟨o1, e1, _, d1⟩, ⟨o2, e2, _, d2⟩⟩ := st
    rcases ltC_mem hc with rfl | rfl | rfl | rfl | rfl
    · exact ⟨_, hz, nofun⟩
    · exact ⟨_, hti, nofun⟩
    · exact ⟨_, htq, nofun⟩
    · exact ⟨o1, e1, fun v q => by rw [d1] at q; cases q⟩
    · exact ⟨o2, e2, fun v q => by rw [d2] at q; cases q⟩
  keep := fun i h h' ⟨hz, hti, ⟨u, v, htq⟩, k1, k2⟩ kp =>
    ⟨kp z (by simp) _ hz, kp ti (by simp) _ hti, ⟨u, v, kp tq (by simp) _ htq⟩, k1.at fun o => kp i1 (by simp) o, k2.at fun o => kp i2 (by simp) o⟩
  item := by
    intro X hP hw hK hc i pins s σ H E I hf ⟨hz, hti, ⟨u0, v0, htq⟩, k1, k2⟩ ⟨us, zs, u, v, hqu, hqz, hu, hv⟩
    subst hP hw hK
    obtain ⟨its, rv, p, _⟩ := I.list hqu
    obtain ⟨its2, rv2, p2, _⟩ := I.tuple hqz
    obtain ⟨y1, g1, r1⟩ := rv.get hu
    obtain ⟨y2, g2, r2⟩ := rv2.get hv
    have hlt1 : i < its.toArray.size := by have := (List.getElem?_eq_some_iff.mp g1).1; simpa using this
    have hlt2 : i < its2.toArray.size := by have := (List.getElem?_eq_some_iff.mp g2).1; simpa using this
    have hh : X.A.in1.handled = none := I.ok.hd hc
    have zl : z < s.heap.objs.size := Heap.lt_size hz
    refine wpAny_pyNext_zipD2_item Z.s (Draws.list hh i1 a Z.n1 its.toArray) (Draws.tuple hh i2 b Z.n2 its2.toArray) hz hti htq ⟨k1, p.isList⟩ ⟨k2, p2⟩ hlt1 hlt2 fun w1 w2 h' tk e1 e2 z' q' m1 m2 new sz kp => ?_
    have e1' : w1 = y1 := by
      have : its[i]? = some w1 := by simpa using e1
      rw [g1] at this; exact (Option.some.inj this).symm
    have e2' : w2 = y2 := by
      have : its2[i]? = some w2 := by simpa using e2
      rw [g2] at this; exact (Option.some.inj this).symm
    subst e1' e2'
    refine ⟨_, rfl, wpAny_letOwnedTupleGo_zip (s := { s with heap := h', toks := tk }) z' fun h2 z2 sb => ?_⟩
    have keep2 : ∀ c o, c ∉ ltC z ti tq i1 i2 → s.heap.get? c = some o → h2.get? c = some o := fun c o nc q =>
      (sb.2 c (fun e => nc (by simp [e]))).trans (kp c o (fun e => nc (by simp [e])) (fun e => nc (by simp [e])) (fun e => nc (by simp [e])) (fun e => nc (by simp [e])) q)
    have nq : h2.get? s.heap.objs.size = some { cls := .type "tuple", data := .seq #[w1, w2] } := (sb.2 _ (Nat.ne_of_gt zl)).trans new
    have I2 := I.turnedNew (t' := tk) (ob := .tup [u, v]) (h' := h2) keep2 hf (Nat.le_refl _) ⟨by show 2 ≤ sizeLine; decide, [w1, w2], .cons r1 (.cons r2 .nil), ⟨_, nq, rfl, _, rfl⟩⟩
    refine ⟨.ref s.heap.objs.size, _, I2, rfl, ⟨_, u, v, rfl, I.hok.fresh (Nat.le_refl _), rfl, fun l hl => by rw [I.list_inj hl hqu]; exact hu, fun l hl => by rw [I.tuple_inj hl hqz]; exact hv⟩, ⟨z2, ?_, ⟨w1, w2, ?_⟩, ?_, ?_⟩, fun c hcm => ?_⟩
    · exact (sb.2 _ Z.s.TIz).trans (kp _ _ Z.s.TIz Z.s.TITO Z.s.TIi1 Z.s.TIi2 hti)
    · exact (sb.2 _ Z.s.TOz).trans q'
    · exact m1.1.at fun o q => (sb.2 _ Z.s.zi1.symm).trans q
    · exact m2.1.at fun o q => (sb.2 _ Z.s.zi2.symm).trans q
    · have lt : c < s.heap.objs.size := by
        rcases ltC_mem hcm with rfl | rfl | rfl | rfl | rfl
        · exact zl
        · exact Heap.lt_size hti
        · exact Heap.lt_size htq
        · obtain ⟨_, e, _⟩ := k1; exact Heap.lt_size e
        · obtain ⟨_, e, _⟩ := k2; exact Heap.lt_size e
      rw [upd_ne (Nat.ne_of_lt lt)]
      exact (hf c hcm).1
  done := by
    intro X hP hw hK hc i pins s σ H E I hf ⟨hz, hti, ⟨u0, v0, htq⟩, k1, k2⟩ ⟨us, zs, hqu, hqz, le1, le2, hend⟩
    subst hP hw hK
    obtain ⟨its, rv, p, _⟩ := I.list hqu
    obtain ⟨its2, rv2, p2, _⟩ := I.tuple hqz
    have l1 := rv.length
    have l2 := rv2.length
    have hh : X.A.in1.handled = none := I.ok.hd hc
    exact wpAny_pyNext_zipD2_end Z.s (Draws.list hh i1 a Z.n1 its.toArray) (Draws.tuple hh i2 b Z.n2 its2.toArray) hz hti htq ⟨k1, p.isList⟩ ⟨k2, p2⟩ (by simp; omega) (by simp; omega) (by simp; omega) fun h' tk kp =>
      ⟨rfl, I.turnedL (t' := tk) (ch := ltC z ti tq i1 i2) (fun c o nc q => kp c o (fun e => nc (by simp [e])) (fun e => nc (by simp [e])) (fun e => nc (by simp [e])) (fun e => nc (by simp [e])) q) hf⟩
  self := fun A i s Q E st q => wpAny_pyIter_zip st.1 q
def iZipLT (K : PySem.W.Frag) (ta : TA) : TI := fun σ H R => ta σ H fun vs H1 => ∃ a b us zs, vs = [.ref a, .ref b] ∧ SqL K H1 a us ∧ SqT K H1 b zs ∧ R (ItLT K a b) H1
theorem nin2 {x p q : Nat} (h1 : x ≠ p) (h2 : x ≠ q) : x ∉ [p, q] := by simp [h1, h2]
theorem ltApart_new (n a b : Nat) (ha : a < n) (hb : b < n) : LtApart (n + 4) (n + 2) (n + 3) n (n + 1) a b :=
  have e (x y : Nat) (h : x ≠ y) : n + x ≠ n + y := fun z => h (Nat.add_left_cancel z)
  have u (x y : Nat) (h : y < n) : n + x ≠ y := Nat.ne_of_gt (Nat.lt_of_lt_of_le h (Nat.le_add_right _ _))
  have o (x : Nat) (h : 0 ≠ x) : n ≠ n + x := e 0 x h
  ⟨⟨e 2 4 (by decide), e 3 4 (by decide), e 2 3 (by decide), e 2 0 (by decide), by simp, nin2 (e 4 0 (by decide)) (u 4 a ha), nin2 (e 3 0 (by decide)) (u 3 a ha), e 2 1 (by decide), by simp, nin2 (e 4 1 (by decide)) (u 4 b hb), nin2 (e 3 1 (by decide)) (u 3 b hb), nin2 (o 1 (by decide)) (u 0 b hb), nin2 (e 1 0 (by decide)) (u 1 a ha)⟩,
    (u 0 a ha).symm, (u 1 b hb).symm, e 3 0 (by decide), e 3 1 (by decide)⟩
theorem vals2r {a b : Addr} {us : List Value} (r : Vals [V.ref a, V.ref b] us) : us = [Value.ref a, Value.ref b] := by
  cases r with
  | cons r rr =>
    cases rr with
    | cons r' rr =>
      cases rr
      cases r
      cases r'
      rfl
theorem pi_zipLT {X : Cx} {e e2 : Expr} {ta : TA} {p pos tpos : Pos} {elts : List Expr} {kk : Nat} (hg : Gl X "zip") (hm : X.mg "zip" = none) (ha : PA X [e, e2] ta)
    (hst : starEach [e, e2] X.env = (false, eval e X.env) :: starEach [e2] X.env := by rfl) (hp : (backTo pos (starEach [e2] X.env)).any (·.1) = false := by rfl) :
    PI X (.Tuple elts kk tpos) (.Call (.Name "zip" p) [e, e2] [] pos) (iZipLT X.K ta) := by
  refine ⟨fun pins s σ H R I h => Call_ (ld_blt I hg hm PyProof.Rows.boot_zip (PyProof.Rows.callWith_type1 (thn (ha.run pos pins s σ H _ I h) fun us s1 ⟨vs, H1, I1, r1, a, b, xs, zs, ex, hqx, hqz, q⟩ => ?_) hst hp))⟩
  subst ex
  obtain rfl := vals2r r1
  obtain ⟨its, rv, p1, _⟩ := I1.list hqx
  obtain ⟨its2, rv2, p2, _⟩ := I1.tuple hqz
  have lb : b < s1.heap.objs.size := by obtain ⟨_, e, _⟩ := id p2; exact Heap.lt_size e
  refine zip_begins2 (begins_list a its.toArray) (begins_tuple b its2.toArray) p1.isList p2 fun h' hz hti htq g1 g2 sz kp => wpAny_pyIter_zip hz ?_
  refine ⟨s1.heap.objs.size + 4, _, _, _, H1, rfl, I1.kept (t' := s1.toks) kp, turn_LT (ltApart_new _ a b p1.lt lb), ⟨hz, hti, ⟨_, _, htq⟩, ⟨_, g1, rfl, rfl⟩, ⟨_, g2, rfl, rfl⟩⟩, fun c hcm => ?_, q⟩
  have le : s1.heap.objs.size ≤ c := by
    rcases ltC_mem hcm with rfl | rfl | rfl | rfl | rfl <;> first | exact Nat.le_add_right _ _ | exact Nat.le_refl _
  exact I1.fpOk le (I1.hok.fresh le)
theorem walk_LT {K : PySem.W.Frag} {a b : Addr} {xs ys : List V} (hn : xs.length = ys.length) : Walk (ItLT K a b) xs.length (fun H => SqL K H a xs ∧ SqT K H b ys) (YPair (fun i => xs[i]?) (fun i => ys[i]?)) := by
  refine ⟨fun i _ hi q => ?_, fun _ q => ⟨xs, ys, q.1, q.2, Nat.le_refl _, by omega, .inl rfl⟩, fun i H v H' _ q y => ?_⟩
  · exact ⟨xs, ys, xs[i], ys[i], q.1, q.2, by simp [hi], by simp [show i < ys.length by omega]⟩
  · obtain ⟨t, x, z, h1, h2, h3, h4, h5⟩ := y
    exact ⟨t, x, z, h1, h2, h3, h4 xs q.1, h5 ys q.2⟩

theorem pg_tupK {X : Cx} {K : PySem.W.Frag} {es : List Expr} {k : Nat} {pos : Pos} {t : TGs} {n : Nat} (ek : X.K = K) (hc : X.calm = true) (h : PGs X es t)
    (hn : (assignEach es X.env).length = n := by rfl) (hst : (assignEach es X.env).findIdx? (·.1) = none := by rfl) : PG X (.Tuple es k pos) (gTup K n t) := ek ▸ pg_tup hc h hn hst
/-! ### o.m(..), m a def told by FnR -/
def tMethR (C : Addr) (m : Str) (sp : Sp) (E : XK) (ta : TE) (t : TA) : TE := fun σ H Q => ta σ H fun x H1 => ∃ a dx fs, x = .ref a ∧ H1 a = some (.ins C dx fs) ∧ fs.lookup m = none ∧ t σ H1 fun vs H2 => sp (.ref a :: vs) H2 Q E
section
variable {X : Cx} {CX : CXT} {k : Nat} {C f : Addr} {m : Str} {sp : Sp} {E : XK} {o e : Expr} {es : List Expr} {ta : TE} {t : TA} {pos apos : Pos} {pl : Sem Bool}
theorem pe_methR (he : PE X o ta) (c : Cls X.K C) (hm : Meth X.K C m f) (F : FnR X.prog X.w X.K X.mg X.base CX k f sp) (hr : Room k X.A) (hx : Passes CX X E) (ha : PA X (e :: es) t)
    (h1 : starEach (e :: es) X.env = (false, eval e X.env) :: starEach es X.env := by rfl) (h2 : (backTo pos (starEach es X.env)).any (·.1) = false := by rfl)
    (h3 : eval (.Call (.Attribute o m apos) (e :: es) [] pos) X.env = (do
      let z ← eval o X.env
      standAt apos.atName
      let (g, frst) ← holding [z] (getMethod z m pl)
      callWith pos g frst (backTo pos (starEach (e :: es) X.env)) (backToKw pos (keywordEach [] X.env))) := by rfl) :
    PE X (.Call (.Attribute o m apos) (e :: es) [] pos) (tMethR C m sp E ta t) := by
  refine ⟨fun pins s σ H Q I h => PySem.W.methodCall_KW (pl := pl) (thn (he.run pins s σ H _ I h) fun u s1 ⟨x, H1, I1, rx, a, dx, fs, ex, ea, l, q⟩ => ?_) h3⟩
  subst ex
  obtain rfl : u = Value.ref a := rx
  refine getmeth_ok I1 ea c hm l (PySem.W.callWith_K (first := [.ref a]) (h₀ := X.base) I.ok.mod.kin hm.kp (thn (ha.run pos pins s1 σ H1 _ I1 q) fun us s2 ⟨vs, H2, I2, r, q2⟩ => ⟨I2.kIn, ?_⟩) h1 h2)
  exact wpAny_call (run_fnR (us := .ref a :: us) (vs := .ref a :: vs) F hr hx I2 (.cons rfl r) q2)
theorem pe_methR0 (he : PE X o ta) (c : Cls X.K C) (hm : Meth X.K C m f) (F : FnR X.prog X.w X.K X.mg X.base CX k f sp) (hr : Room k X.A) (hx : Passes CX X E)
    (h3 : eval (.Call (.Attribute o m apos) [] [] pos) X.env = (do
      let z ← eval o X.env
      standAt apos.atName
      let (g, frst) ← holding [z] (getMethod z m pl)
      callWith pos g frst (backTo pos (starEach [] X.env)) (backToKw pos (keywordEach [] X.env))) := by rfl) :
    PE X (.Call (.Attribute o m apos) [] [] pos) (tMethR C m sp E ta tNil) := by
  refine ⟨fun pins s σ H Q I h => PySem.W.methodCall_KW (pl := pl) (thn (he.run pins s σ H _ I h) fun u s1 ⟨x, H1, I1, rx, a, dx, fs, ex, ea, l, q⟩ => ?_) h3⟩
  subst ex
  obtain rfl : u = Value.ref a := rx
  refine getmeth_ok I1 ea c hm l ?_
  exact PySem.W.callWith_K0 (first := [.ref a]) I1.kIn hm.kp (wpAny_call (run_fnR (us := [.ref a]) (vs := [.ref a]) F hr hx I1 (.cons rfl .nil) q))
end

/-! ### {x:spec} -/
/-- v written by the spec sp is the text y -/
def FmtOk (sp : Str) (x : V) (y : Str) : Prop := ∀ (prog : Program) (w : World) (A : Around) (E : Value → Shared → Prop) (s : Shared) (v : Value) (Q : Value → Shared → Prop), RelV x v →
  (∀ t k, Q (.str y t) { s with toks := k }) → wpAny (model prog w) A (formatField v sp) Q E s
def tFmtS (sp : Str) (te : TE) : TE := fun σ H Q => te σ H fun x H1 => ∃ y, FmtOk sp x y ∧ Q (.str y) H1
theorem pe_fmtS {X : Cx} {e spec : Expr} {te : TE} {sp : Str} {pos : Pos} (hs : PE X spec (tC (.str sp))) (he : PE X e te) : PE X (.FormattedValue e (-1) (some spec) pos) (tFmtS sp te) := by
  refine ⟨fun pins s σ H Q I h => wpAny_FormattedValue_spec (thn (he.run pins s σ H _ I h) fun v s1 ⟨x, H1, I1, r1, y, fo, q⟩ => ?_)⟩
  refine thn (hs.run pins s1 σ H1 (fun z H2 => z = .str sp ∧ H2 = H1) I1 ⟨rfl, rfl⟩) fun r s2 ⟨z, H2, I2, r2, ez, eH⟩ => ?_
  subst ez eH
  obtain ⟨t, rfl⟩ := r2
  exact ⟨sp, t, rfl, fo _ _ _ _ _ _ _ r1 fun t' k => ⟨.str y, H2, I2.tok _, ⟨t', rfl⟩, q⟩⟩
set_option hygiene false in
local macro_rules | `(tactic| walk_at "fmti") => `(tactic| (
  intro prog w A E s v Q r h
  obtain ⟨t, rfl⟩ := r
  refine PySem.W.KXf.field_int rfl (by decide +kernel) (by decide +kernel) ?_ h
  kxf_run_i))
set_option hygiene false in
local macro_rules | `(tactic| walk_at "fmts") => `(tactic| (
  intro prog w A E s v Q r h
  obtain ⟨t, rfl⟩ := r
  refine PySem.W.KXf.field_str rfl rfl (by decide +kernel) (by decide +kernel) ?_ h
  kxf_run_s))
theorem fr0 : FmtOk ">2" (.int 0) " 0" := by walk_at "fmti"
theorem fr1 : FmtOk ">2" (.int 1) " 1" := by walk_at "fmti"
theorem fr2 : FmtOk ">2" (.int 2) " 2" := by walk_at "fmti"
theorem fr3 : FmtOk ">2" (.int 3) " 3" := by walk_at "fmti"
theorem fr4 : FmtOk ">2" (.int 4) " 4" := by walk_at "fmti"
theorem fr5 : FmtOk ">2" (.int 5) " 5" := by walk_at "fmti"
theorem fs0 : FmtOk "_>4" (.int 0) "___0" := by walk_at "fmti"
theorem fs1 : FmtOk "_>4" (.int 1) "___1" := by walk_at "fmti"
theorem fs2 : FmtOk "_>4" (.int 2) "___2" := by walk_at "fmti"
theorem fs3 : FmtOk "_>4" (.int 3) "___3" := by walk_at "fmti"
theorem fs4 : FmtOk "_>4" (.int 4) "___4" := by walk_at "fmti"
theorem fs5 : FmtOk "_>4" (.int 5) "___5" := by walk_at "fmti"
theorem fs6 : FmtOk "_>4" (.int 6) "___6" := by walk_at "fmti"
theorem fs7 : FmtOk "_>4" (.int 7) "___7" := by walk_at "fmti"
theorem fb0 : FmtOk "<8" (.str "none") "none    " := by walk_at "fmts"
theorem fb1 : FmtOk "<8" (.str "follow") "follow  " := by walk_at "fmts"
theorem fb2 : FmtOk "<8" (.str "plain") "plain   " := by walk_at "fmts"
theorem fb3 : FmtOk "<8" (.str "guarded") "guarded " := by walk_at "fmts"
end Hue

set_option Elab.async false
set_option linter.all false
set_option maxRecDepth 100000
set_option maxHeartbeats 1000000
/-! list comprehensions whose item may raise (a call in it lets an exception out) -/
namespace Hue
open PySem PySem.Spec PyProof.Rows L2

/-- the end of a block: as it ends, or with what is raised, at the block's own frame -/
def endLc (M : Model) (A : Around) (E : Value → Shared → Prop) (use : Option (Value → Sem Unit)) (Q : Value → Shared → Prop) (acc : Value) (ce : Env) (r : Result) (s' : Shared) : Prop :=
  match r with
  | .ok f => compPost M A E use Q acc ce.locals (.ok f) s'
  | .error x => ∃ m, s'.heap.Ns ce.locals m ∧ ∀ h', Heap.SameBut ce.locals s'.heap h' → wpAny M A (passOn "comprehension.variables-let-go" x ce : Sem Value) (fun _ _ => False) E { s' with heap := h' }
theorem comp_end {M : Model} {A : Around} {E : Value → Shared → Prop} {s : Shared} {env : Env} {e : Expr} {scope : Scope} {pos : Pos} {mk0 fst0 : Sem Value} {g : Comprehension} {gs : List Comprehension} {cl : List (Str × Addr)} {use : Option (Value → Sem Unit)}
    {Q : Value → Shared → Prop} (h1 : clausesOf e = g :: gs) (h2 : ∀ x, foldedSetIterable g.iter env x = pure x) (h3 : closureFor scope env = pure cl) (h4 : scope.kind = .function)
    (h5 : ∀ x ∈ scope.names, x.2 = .local → scope.names.lookup x.1 = some .local)
    (h : wpAny M A fst0 (fun x s1 => wpAny M A (pyIter x) (fun it s2 => wpAny M A mk0 (fun acc s3 => wpAny M A (newFunctionEnv scope env.globals cl [] env.qual none .none (some env)) (fun ce s4 =>
      codeAny M A (.compStart e 0 it acc { ce with scope := relabel scope env }) (endLc M A E use Q acc { ce with scope := relabel scope env }) s4) E s3) E s2) E s1) E s) :
    wpAny M A (comprehension e scope env pos mk0 false fst0 use) Q E s := by
  unfold comprehension
  rw [h3, h1]
  refine wpAny_bind (wpAny_mono h (fun x s1 k1 => wpAny_bind (wpAny_standAt (wpAny_bind (wpAny_of_eq (h2 x) (wpAny_bind (wpAny_holding (wpAny_mono k1 (fun it s2 k2 => wpAny_standIf (wpAny_bind (wpAny_mono k2 (fun acc s3 k3 =>
    wpAny_bind (wpAny_pure (wpAny_bind (wpAny_mono k3 (fun ce s4 k4 => ?_) fun _ _ z => z)))) fun _ _ z => z))) fun _ _ z => z))))))) fun _ _ z => z)
  dsimp only
  have kv : ∀ x ∈ (scope.names.filter fun x => (x.2 == .local || x.2 == .cell) && x.1 != (".0" : Str)).reverse, x.2 = .local → Env.kindOf { ce with scope := relabel scope env } x.1 = some .local :=
    fun x hx hl => lookup_relabel_local (h5 x (List.mem_filter.mp (List.mem_reverse.mp hx)).1 hl)
  have kw : ∀ x ∈ (scope.names.filter fun x => (x.2 == .local || x.2 == .cell) && x.1 != (".0" : Str)).reverse.drop 1 ++ (scope.names.filter fun x => (x.2 == .local || x.2 == .cell) && x.1 != (".0" : Str)).reverse.take 1,
      x.2 = .local → Env.kindOf { ce with scope := relabel scope env } x.1 = some .local := fun x hx hl => (List.mem_append.mp hx).elim (fun z => kv x (List.mem_of_mem_drop z) hl) fun z => kv x (List.mem_of_mem_take z) hl
  refine wpAny_holding (wpAny_bind (wpAny_attempt (wpAny_holding (wpAny_run (codeAny_mono k4 fun r s' hr => ?_)))))
  cases r with
  | ok f =>
    cases use with
    | none =>
      obtain ⟨m, hn, hr⟩ := hr
      exact wpAny_bind (wpAny_holding (wpAny_comp_letGo (cenv := { ce with scope := relabel scope env }) h4 _ s' m kv hn fun h' m' _ hs' => wpAny_pure (hr h' hs')))
    | some u =>
      refine wpAny_bind (wpAny_rule (wpAny_bind (wpAny_holding (wpAny_mono hr (fun _ s'' ⟨m, hn, hr'⟩ => ?_) fun _ _ z => z))))
      exact wpAny_bind (wpAny_comp_letGo (cenv := { ce with scope := relabel scope env }) h4 _ s'' m kw hn fun h' m' _ hs' => wpAny_pure (hr' h' hs'))
  | error x =>
    obtain ⟨m, hn, hr⟩ := hr
    exact wpAny_bind (wpAny_holding (wpAny_comp_letGo (cenv := { ce with scope := relabel scope env }) h4 _ s' m kv hn fun h' m' _ hs' => wpAny_mono (hr h' hs') (fun _ _ f => f.elim) fun _ _ y => y))

/-- the block's context where its item may raise: what a call in it lets out, wished for as W -/
abbrev blkX (X : Cx) (W : XK) (s : Shared) (H : Hp) (scope : Scope) (ce : Env) (fp : List Addr) : Cx :=
  { X.blk s H scope ce fp with xe := fun u s' => ∃ (pins : List (Addr × Obj)) (σ : L2.St) (H' : Hp) (s0 : Shared), Inv (X.blk s H scope ce fp) pins σ H' s0 ∧ L2.CX X.prog X.w X.stack H' s0 W u s' }
theorem Inv.ofX {X : Cx} {W : XK} {s : Shared} {H : Hp} {scope : Scope} {ce : Env} {fp : List Addr} {pins : List (Addr × Obj)} {σ : L2.St} {H' : Hp} {s0 : Shared} (I : Inv (blkX X W s H scope ce fp) pins σ H' s0) : Inv (X.blk s H scope ce fp) pins σ H' s0 :=
  ⟨⟨I.ok.1, I.ok.2, I.ok.3, I.ok.4, I.ok.5, I.ok.6, I.ok.7, I.ok.8, I.ok.9, I.ok.10, I.ok.11, I.ok.12, I.ok.13, I.ok.14, I.ok.15, I.ok.16, I.ok.17, I.ok.18⟩, I.os, I.bare, I.base, I.loc, I.cell, I.free, I.freeC, I.pin, I.hok, I.len⟩
theorem Inv.toX {X : Cx} {W : XK} {s : Shared} {H : Hp} {scope : Scope} {ce : Env} {fp : List Addr} {pins : List (Addr × Obj)} {σ : L2.St} {H' : Hp} {s0 : Shared} (I : Inv (X.blk s H scope ce fp) pins σ H' s0) : Inv (blkX X W s H scope ce fp) pins σ H' s0 :=
  ⟨⟨I.ok.1, I.ok.2, I.ok.3, I.ok.4, I.ok.5, I.ok.6, I.ok.7, I.ok.8, I.ok.9, I.ok.10, I.ok.11, I.ok.12, I.ok.13, I.ok.14, I.ok.15, I.ok.16, I.ok.17, I.ok.18⟩, I.os, I.bare, I.base, I.loc, I.cell, I.free, I.freeC, I.pin, I.hok, I.len⟩
theorem cx_mono {P : Program} {w : World} {outer : List Env} {H : Hp} {s : Shared} {E W : XK} {u : Value} {s' : Shared} (c : L2.CX P w outer H s E u s') (h : ∀ cls d H, E cls d H → W cls d H) : L2.CX P w outer H s W u s' := by
  obtain ⟨a, B, H', cls, d, c1, c2, c3, c4, c5, c6, c7, c8⟩ := c
  exact ⟨a, B, H', cls, d, c1, c2, c3, c4, c5, c6, c7, h _ _ _ c8⟩
theorem passB {X : Cx} {W : XK} {s : Shared} {H : Hp} {scope : Scope} {ce : Env} {fp : List Addr} : Passes (L2.CX X.prog X.w) (blkX X W s H scope ce fp) W :=
  fun pins σ H' s0 u s' I c => ⟨pins, σ, H', s0, Inv.ofX I, c⟩
theorem note_frame {x : Value} {ce env : Env} (h : ce.frame = env.frame) : noteFrame x ce = noteFrame x env := by
  unfold noteFrame PySem.frameOf
  rw [h]
theorem frames_but {h h' base base' : Heap} {C : Addr} (sb : Heap.SameBut C h h') (hb : ∀ b, base.get? b = none → base'.get? b = none) : ∀ {l : List Env}, h.FunFrames base l → C ∉ frs l → h'.FunFrames base' l
  | [], _, _ => trivial
  | env :: l, ⟨k1, ⟨L, o, f1, f2, f3, f4⟩, k3⟩, n => by
    refine ⟨k1, ⟨L, o, f1, hb _ f2, (sb.2 L ?_).trans f3, f4⟩, frames_but sb hb k3 fun hm => n ?_⟩
    · intro e
      exact n (List.mem_filterMap.mpr ⟨env, List.mem_cons_self, by rw [f1, e]⟩)
    · obtain ⟨e, he, q⟩ := List.mem_filterMap.mp hm
      exact List.mem_filterMap.mpr ⟨e, List.mem_cons_of_mem _ he, q⟩
/-- what a call in the block lets out, noted there, is in the def's own air -/
theorem blk_err {X : Cx} {pins pins' : List (Addr × Obj)} {σ σ' : L2.St} {H3 H' : Hp} {s3 s0 s' : Shared} {W : XK} {scope : Scope} {ce : Env} {fp : List Addr} {u : Value} (I3 : Inv X pins σ H3 s3) (hs : X.stack = X.env :: X.outer) (hf : X.env.frame = some X.env.locals)
    (hfr : ce.frame = X.env.frame) (hC : ce.locals = s3.heap.objs.size) (f3 : ∀ b ∈ fp, FpOk X pins H3 b) (tk : L2.Takes X fun cls d _ H => W cls d H) (I : Inv (X.blk s3 H3 scope ce fp) pins' σ' H' s0) (c : L2.CX X.prog X.w X.stack H' s0 W u s') (what : String) :
    notedBy (model X.prog X.w) X.A ce (fun e s2 => ∃ m, s2.heap.Ns ce.locals m ∧ ∀ h', Heap.SameBut ce.locals s2.heap h' → wpAny (model X.prog X.w) X.A (passOn what e ce : Sem Value) (fun _ _ => False) X.xe { s2 with heap := h' }) u s' := by
  obtain ⟨a, B, H2, cls, d, rfl, fl, hok, ub, na, os, ag, hW⟩ := c
  obtain ⟨mC, nsC, _⟩ := I.loc
  have nC : H' ce.locals = none := I.free
  have frC : ce.locals ∉ frs X.stack := fun hm => by
    obtain ⟨_, o, e, _⟩ := I3.stack.mem hm
    rw [hC] at e
    exact absurd (Heap.lt_size e) (Nat.lt_irrefl _)
  have nsB : B.Ns ce.locals mC := nsC.at fun o e => ub.keep _ o e nC frC
  have ns' : s'.heap.Ns ce.locals mC := nsB.at fun o e => fl.1 _ o e
  have hfA : X.A.frames = some (X.env :: X.outer) := by rw [I3.ok.frames, hs]
  unfold notedBy
  rw [note_frame hfr]
  rw [hs] at fl
  refine HandSPX.looks_onZ Zc.steady hfA hf fl fun h1 hl up1 => ?_
  have ns1 : h1.Ns ce.locals mC := nsB.at fun o e => hl.1 _ o e
  refine ⟨mC, ns1, fun h2 sb => ?_⟩
  -- the ground without the block's variables
  generalize hB2 : PySem.W.hideAll B [ce.locals] = B2
  have b2s : ∀ b o, B2.get? b = some o → B.get? b = some o ∧ b ≠ ce.locals := fun b o e => by
    rw [← hB2] at e
    refine ⟨PySem.W.of_hideAll _ e, fun z => ?_⟩
    rw [z, PySem.W.hideAll_none [ce.locals] (List.mem_singleton.mpr rfl)] at e
    cases e
  have b2g : ∀ b o, B.get? b = some o → b ≠ ce.locals → B2.get? b = some o := fun b o e n => by
    rw [← hB2]
    exact PySem.W.hideAll_get _ e fun z => n (List.mem_singleton.mp z)
  have b2n : ∀ b, B.get? b = none → B2.get? b = none := fun b e => by
    cases q : B2.get? b with
    | none => rfl
    | some o => rw [(b2s b o q).1] at e; cases e
  obtain ⟨g1, g2, g3, oe, vs, T, oT, ts, t1, t2, t3, t4, t5, t6, t7, t8, t9⟩ := hl
  have nfC : ∀ o vs, h1.get? ce.locals = some o → o.data ≠ .fields vs := fun o vs e q => by
    obtain ⟨oC, es, ep, q1, q2, _⟩ := ns1
    rw [q1] at e; cases e
    rw [q2] at q; cases q
  have aC : a ≠ ce.locals := fun e => nfC oe vs (by rw [← e]; exact t1) t3
  have TC : T ≠ ce.locals := fun e => nfC oT ts (by rw [← e]; exact t7) t8
  have hl2 : HandSPX.HeldZ B2 (X.env :: X.outer) a (Zc cls d) X.env.locals h2 := by
    refine ⟨fun b o e => ?_, b2n _ g2, frames_but sb b2n g3 (by rw [← hs]; exact frC), oe, vs, T, oT, ts, (sb.2 _ aC).trans t1, t2, t3, t4, b2n _ t5, t6, (sb.2 _ TC).trans t7, t8, t9⟩
    obtain ⟨k1, k2⟩ := b2s b o e
    exact (sb.2 _ k2).trans (g1 _ _ k1)
  unfold PySem.passOn
  refine wpAny_bind (wpAny_field (s := { s' with heap := h2 }) ((sb.2 _ aC).trans t1) t3 t4 ?_)
  rw [if_neg (by simp)]
  rw [hfr, hf]
  refine wpAny_bind (HandSPX.setFlight_onZ (s := { s' with heap := h2 }) hl2 fun h3 hl3 up3 => wpAny_throw (tk _ _ ?_))
  obtain ⟨G, q1, q2⟩ := restrict s'.heap fun b => (B2.get? b).isSome || decide (b ∈ frs X.stack)
  have stB : B.StaysIn s'.heap := fl.1
  have gB : ∀ b o, B2.get? b = some o → G.get? b = some o := fun b o e => by
    rw [q1 b (by simp [e])]
    exact stB b o (b2s b o e).1
  have gF : ∀ b, b ∈ frs X.stack → G.get? b = s'.heap.get? b := fun b hb => q1 b (by simp [hb])
  have og : ∀ b o, G.get? b = some o → s'.heap.get? b = some o ∧ ((B2.get? b).isSome = true ∨ b ∈ frs X.stack) := fun b o e => by
    cases q : ((B2.get? b).isSome || decide (b ∈ frs X.stack)) with
    | false => rw [q2 b q] at e; cases e
    | true =>
      rw [q1 b q] at e
      exact ⟨e, by simpa [Bool.or_eq_true] using q⟩
  have gC : ∀ o, G.get? ce.locals ≠ some o := fun o e => by
    rcases (og _ _ e).2 with z | z
    · obtain ⟨o', z⟩ := Option.isSome_iff_exists.mp z
      exact (b2s _ _ z).2 rfl
    · exact frC z
  -- the state ahead of the call, without the block's variables
  have hid : ∀ b o, s0.heap.get? b = some o → b ≠ ce.locals → (PySem.W.hideAll s0.heap [ce.locals]).get? b = some o := fun b o e n => PySem.W.hideAll_get _ e fun z => n (List.mem_singleton.mp z)
  have ltC : ∀ b o, s3.heap.get? b = some o → b ≠ ce.locals := fun b o e z => by
    rw [z, hC] at e
    exact absurd (Heap.lt_size e) (Nat.lt_irrefl _)
  have tr : ∀ (Hx : Hp) (h h' : Heap), Hx ce.locals = none → HOk X.prog X.w Hx h → (∀ b o, h.get? b = some o → b ≠ ce.locals → h'.get? b = some o) → HOk X.prog X.w Hx h' := fun Hx h h' nx k kp b o e =>
    (k b o e).stay (fun c u hc r => kp c u r fun z => by
      rcases hc with hc | hc
      · rw [← hc, z, nx] at e; cases e
      · rw [z, nx] at hc; cases hc) (fun _ r => r) fun _ _ r => r
  have U := I.base
  have I1 : Inv X pins σ H' { s0 with heap := PySem.W.hideAll s0.heap [ce.locals] } := by
    refine I3.call' (ch := fp) I.os ⟨fun b o e n hb hx => ?_, fun b o e n hb hx => ?_, U.free, fun b o e hx => ?_, U.tups, U.frzs, U.tbls⟩ (tr H' _ _ nC I.hok hid) I.bare fun b hb => ⟨(f3 b hb).2.2.2.1, (f3 b hb).2.1, (f3 b hb).2.2.2.2.1, (f3 b hb).2.2.2.2.2⟩
    · exact hid _ _ (U.keep b o e n hb hx) (ltC b o e)
    · obtain ⟨sl, q⟩ := U.slot b o e n hb hx
      exact ⟨sl, hid _ _ q (ltC b o e)⟩
    · obtain ⟨o', q⟩ := U.there b o e hx
      exact ⟨o', hid _ _ q (ltC b o e)⟩
  have nC2 : H2 ce.locals = none := by
    obtain ⟨oC, es, ep, e1, _⟩ := nsC
    exact ub.free _ oC e1 nC
  have hs0 : ∀ b o, (PySem.W.hideAll s0.heap [ce.locals]).get? b = some o → s0.heap.get? b = some o ∧ b ≠ ce.locals := fun b o e => ⟨PySem.W.of_hideAll _ e, fun z => by
    rw [z, PySem.W.hideAll_none [ce.locals] (List.mem_singleton.mpr rfl)] at e
    cases e⟩
  have I2 : Inv X pins σ H2 { s0 with heap := G, gens := s'.gens, drawn := s'.drawn, toks := s'.toks } := by
    refine Inv.call (s := { s0 with heap := PySem.W.hideAll s0.heap [ce.locals] }) (h' := G) (H' := H2) I1 (ch := []) (g' := s'.gens) (t' := s'.toks) (d' := s'.drawn) ⟨fun b o e n hb _ => ?_, fun b o e n hb _ => ?_, fun b o e n _ => ub.free b o (hs0 b o e).1 n, fun b o e _ => ?_, ub.tups, ub.frzs, ub.tbls⟩ (tr H2 B G nC2 hok fun b o e n => gB b o (b2g b o e n)) ag (fun _ z => nomatch z)
    · exact gB b o (b2g b o (ub.keep b o (hs0 b o e).1 n hb) (hs0 b o e).2)
    · obtain ⟨sl, q⟩ := ub.slot b o (hs0 b o e).1 hb
      exact ⟨sl, by rw [gF b hb]; exact q⟩
    · by_cases hb : b ∈ frs X.stack
      · obtain ⟨sl, q⟩ := ub.slot b o (hs0 b o e).1 hb
        exact ⟨_, by rw [gF b hb]; exact q⟩
      · obtain ⟨o', q⟩ := ub.there b o (hs0 b o e).1 hb
        exact ⟨o', gB b o' (b2g b o' q (hs0 b o e).2)⟩
  refine ⟨a, B2, _, pins, σ, H2, cls, d, rfl, I2, fun b o e hb => ?_, fun b o e hnf => ?_, .inr (.inr (by rw [hs]; exact hl3)), na, os, ag, hW⟩
  · obtain ⟨e', z⟩ := og b o e
    rcases z with z | z
    · obtain ⟨o', z⟩ := Option.isSome_iff_exists.mp z
      have q := stB b o' (b2s b o' z).1
      rw [e'] at q; cases q
      exact z
    · exact absurd z hb
  · have bC : b ≠ ce.locals := fun z => gC o (by rw [← z]; exact e)
    obtain ⟨sl, e1⟩ := up1 b o (og b o e).1 hnf
    obtain ⟨sl2, e2⟩ := up3 b _ ((sb.2 _ bC).trans e1) hnf
    exact ⟨sl2, e2⟩

section
variable {X : Cx} {W : XK} {elt tg iter : Expr} {ifs : List Expr} {scope : Scope} {own : List (Str × Nat)} {wi : TI} {g : TG} {tt : TT} {te : TE}
/-- as the library's block of one clause, its item judged where a call in it may raise -/
theorem lcx_core {pins : List (Addr × Obj)} {s : Shared} {σ : L2.St} {H : Hp} {Q : VK} {pos pos' : Pos} {use : Option (Value → Sem Unit)} {Qf : Value → Shared → Prop}
    (hc : X.calm = true) (hN : X.N.Nodup) (hst : X.stack = X.env :: X.outer) (hfr : X.env.frame = some X.env.locals) (tk : L2.Takes X fun cls d _ H => W cls d H) (I : Inv X pins σ H s) (hi : PI X tg iter wi) (ok : BlkOk X.N X.env.scope scope own)
    (hg : ∀ (s : Shared) (H : Hp) (C : Addr) (cl : List (Str × Addr)) (fp : List Addr), PG (X.blk s H scope (compEnvC scope cl C X.env) fp) tg g) (ht : ∀ (s : Shared) (H : Hp) (C : Addr) (cl : List (Str × Addr)) (fp : List Addr), PTs (X.blk s H scope (compEnvC scope cl C X.env) fp) ifs tt)
    (he : ∀ (s : Shared) (H : Hp) (C : Addr) (cl : List (Str × Addr)) (fp : List Addr), PE (blkX X W s H scope (compEnvC scope cl C X.env) fp) elt te) (hsi : ∀ x, foldedSetIterable iter X.env x = pure x)
    (h : tLc wi g tt te (own.map (·.2)) σ H Q)
    (fin : ∀ D C s' m H', Inv X pins σ H' s' → Q (.ref D) H' → s'.heap.Ns C m → FpOk X pins H' C → compPost (model X.prog X.w) X.A X.xe use Qf (.ref D) C (.ok .next) s') :
    wpAny (model X.prog X.w) X.A (comprehension (.ListComp elt [⟨tg, iter, ifs, 0⟩] scope pos) scope X.env pos' (newList []) false (eval iter X.env) use) Qf X.xe s := by
  have fre : ∀ y ∈ scope.names, y.2 = .free → ∃ c, X.env.cells.lookup y.1 = some c := fun y hy e => (ok.free y hy e).elim (fun z => I.ok.has _ (.inl z)) fun z => I.ok.has _ (.inr z)
  refine comp_end (use := use) rfl hsi (closure_ok fre) ok.kind (fun y hy e => by rw [ok.uniq y hy, e])
    (thn (hi.run pins s σ H _ I h) fun xv s1 hx => thn hx fun itv s2 ⟨it, fp, tn, J, H2, e, I2, T, st2, f2, q⟩ => ?_)
  subst e
  refine wpAny_newObj_type (newEnv_comp ?_) (Nat.zero_le _)
  generalize hD : s2.heap.objs.size = D
  have nD : H2 D = none := I2.hok.fresh (Nat.le_of_eq hD)
  obtain ⟨Wv, ⟨m0, w0⟩, turn⟩ := q D nD
  generalize hs3 : ({ s2 with heap := s2.heap.push { cls := .type "list", data := .seq ([] : List Value).toArray } } : Shared) = s3
  have h3 : s3.heap = s2.heap.push { cls := .type "list", data := .seq ([] : List Value).toArray } := by rw [← hs3]
  have I3 : Inv X pins σ (L2.upd H2 D (.lst [])) s3 := by
    rw [← hs3]
    refine I2.laid (t' := s2.toks) (fun b o e => Heap.get?_push_of_some _ e) (Nat.le_of_eq hD) ⟨Nat.zero_le _, [], 0, .nil, ?_⟩
    rw [← hD]
    exact Heap.get?_push_size _ rfl
  have lt2 : ∀ b ∈ fp, b < s2.heap.objs.size := fun b hb => by
    obtain ⟨o, e, _⟩ := T.obj _ _ st2 b hb
    exact Heap.lt_size e
  have f3 : ∀ b ∈ fp, FpOk X pins (L2.upd H2 D (.lst [])) b ∧ b < s3.heap.objs.size := fun b hb =>
    ⟨⟨by rw [upd_ne (by rw [← hD]; exact Nat.ne_of_lt (lt2 b hb))]; exact (f2 b hb).1, (f2 b hb).2⟩, by rw [h3, Heap.size_push]; exact Nat.lt_succ_of_lt (lt2 b hb)⟩
  have st3 : tn 0 s3.heap := T.keep _ _ _ st2 fun b _ o e => by rw [h3]; exact Heap.get?_push_of_some _ e
  have I4 := block_start I3 ok hN f3
  have pg := hg s3 (L2.upd H2 D (.lst [])) s3.heap.objs.size (cellsFrom (s3.heap.objs.size + 1) scope.names (cloFrom X.env.cells scope.names [])) fp
  have pt := ht s3 (L2.upd H2 D (.lst [])) s3.heap.objs.size (cellsFrom (s3.heap.objs.size + 1) scope.names (cloFrom X.env.cells scope.names [])) fp
  have pe := he s3 (L2.upd H2 D (.lst [])) s3.heap.objs.size (cellsFrom (s3.heap.objs.size + 1) scope.names (cloFrom X.env.cells scope.names [])) fp
  show codeAny _ _ (.compStart (.ListComp elt [⟨tg, iter, ifs, 0⟩] scope pos) 0 (.ref it) (.ref D) (compEnvC scope (cellsFrom (s3.heap.objs.size + 1) scope.names (cloFrom X.env.cells scope.names [])) s3.heap.objs.size X.env)) (endLc (model X.prog X.w) X.A X.xe use Qf (.ref D) (compEnvC scope (cellsFrom (s3.heap.objs.size + 1) scope.names (cloFrom X.env.cells scope.names [])) s3.heap.objs.size X.env)) { s3 with heap := pushCells (s3.heap.push { cls := .type "dict", data := .dict #[] }) scope.names }
  generalize hce : compEnvC scope (cellsFrom (s3.heap.objs.size + 1) scope.names (cloFrom X.env.cells scope.names [])) s3.heap.objs.size X.env = ce at I4 pg pt pe ⊢
  have cL : ce.locals = s3.heap.objs.size := by subst hce; rfl
  have cF : ce.frame = X.env.frame := by subst hce; rfl
  generalize hH3 : L2.upd H2 D (.lst []) = H3 at I3 I4 pg pt pe w0 f3
  generalize hs4 : ({ s3 with heap := pushCells (s3.heap.push { cls := .type "dict", data := .dict #[] }) scope.names } : Shared) = s4 at I4 ⊢
  have st4 : tn 0 s4.heap := T.keep _ _ _ st3 fun b _ o e => by rw [← hs4]; exact pushCells_keeps _ _ _ _ (Heap.get?_push_of_some _ e)
  have stat : ∀ {σ' : L2.St} {H' : Hp} {s' : Shared}, Inv (X.blk s3 H3 scope ce fp) [] σ' H' s' → (∀ b ∈ fp, H' b = none) → ∀ b ∈ fp, FpOk (X.blk s3 H3 scope ce fp) [] H' b := fun {σ' H' s'} I' hn b hb =>
    ⟨hn b hb, (I'.ok.exf b hb).1, I'.ok.exfs b hb, .inl hb, fun x c e => (I'.ok.exf b hb).2 x c e, fun p hp => absurd (show p ∈ ([] : List (Addr × Obj)) ++ [] from hp) (by simp)⟩
  have loop : codeAny (model X.prog X.w) X.A (.compLoop (.ListComp elt [⟨tg, iter, ifs, 0⟩] scope pos) 0 (.ref it) (.ref D) ce) (endLc (model X.prog X.w) X.A X.xe use Qf (.ref D) ce) s4 := by
    refine compLoop_any (fun n s' => ∃ i H', Inv (X.blk s3 H3 scope ce fp) [] (wipe σ (own.map (·.2))) H' s' ∧ tn i s'.heap ∧ (∀ b ∈ fp, H' b = none) ∧ Wv i n H') ?_ m0 ⟨0, H3, I4, st4, fun b hb => (f3 b hb).1.1, w0⟩
    rintro n s5 ⟨i, H5, I5, st5, n5, w5⟩
    rcases turn i n H5 w5 with ⟨stop, qq⟩ | ⟨go, Nx, hNx, step⟩
    · refine thnF (T.done (X.blk s3 H3 scope ce fp) rfl rfl rfl hc i [] s5 _ H5 (fun _ _ => False) I5 (stat I5 n5) st5 stop) fun r s6 ⟨hr, I6⟩ => ?_
      subst hr
      have I7 : Inv X pins σ H5 s6 := I3.call' (ch := fp) I6.os I6.base I6.hok I6.bare fun b hb => ⟨(f3 b hb).1.2.2.2.1, (f3 b hb).1.2.1, (f3 b hb).1.2.2.2.2.1, (f3 b hb).1.2.2.2.2.2⟩
      have nC : H5 s3.heap.objs.size = none := by rw [← cL]; exact I6.free
      obtain ⟨m, hn, _⟩ := I6.loc
      show compPost (model X.prog X.w) X.A X.xe use Qf (.ref D) ce.locals (.ok .next) s6
      rw [cL]
      exact fin D s3.heap.objs.size s6 m H5 I7 qq (by rw [← cL]; exact hn) (I3.fpOk (Nat.le_refl _) nC)
    · refine thnF (T.item (X.blk s3 H3 scope ce fp) rfl rfl rfl hc i [] s5 _ H5 (fun _ _ => False) I5 (stat I5 n5) st5 go) fun r s6 ⟨u, hr, h6⟩ => ?_
      subst hr
      refine thnF h6 fun _ s7 ⟨x, H7, I7, r7, y7, st7, n7⟩ => ?_
      refine thnF (pg.run _ s7 _ H7 x u _ (I7.pinned (stat I7 n7) (T.obj _ _ st7)) r7 (step x H7 y7)) fun _ s8 ⟨σ8, H8, I8, hw8, q8⟩ => ?_
      refine thnF (pt.run _ s8 σ8 H8 _ I8 q8) fun b s9 ⟨H9, I9, q9⟩ => ?_
      have back : ∀ {s' : Shared} {H' : Hp}, Inv (X.blk s3 H3 scope ce fp) ([] ++ pinsAt fp s7.heap) σ8 H' s' → Nx H' → ∃ m, m < n ∧ ∃ i H', Inv (X.blk s3 H3 scope ce fp) [] (wipe σ (own.map (·.2))) H' s' ∧ tn i s'.heap ∧ (∀ b ∈ fp, H' b = none) ∧ Wv i m H' := fun {s' H'} I' nx => by
        obtain ⟨m', hm, w'⟩ := hNx H' nx
        have pin' : ∀ b ∈ fp, ∀ o, s7.heap.get? b = some o → s'.heap.get? b = some o ∧ H' b = none := fun b hb o e =>
          let z := I'.pin (b, o) (List.mem_append_right _ (List.mem_append_right _ (mem_pinsAt hb e)))
          ⟨z.1, z.2.1⟩
        refine ⟨m', hm, i + 1, H', (I'.unpinned (pins := [])).weak (by rw [← hw8, wipe_length]) (fun j v e => ?_), T.keep _ _ _ st7 fun b hb o e => (pin' b hb o e).1, fun b hb => ?_, w'⟩
        · rw [← hw8] at e
          exact (wipe_some e).1
        · obtain ⟨o, e, _⟩ := T.obj _ _ st7 b hb
          exact (pin' b hb o e).2
      cases b with
      | false =>
        simp only [Bool.false_eq_true, if_false] at q9 ⊢
        exact back I9 q9
      | true =>
        simp only [if_true] at q9 ⊢
        refine wpAny_mono (pe.run _ s9 σ8 H9 _ (Inv.toX I9) q9) (fun z s10 ⟨yv, H10, I10, r10, acc, hD10, hz10, nx⟩ => ?_) fun u s' ⟨pins', σ', H', s0, I', c⟩ => ?_
        · exact app_ok (X := X.blk s3 H3 scope ce fp) (Inv.ofX I10) hD10 hz10 r10 fun s11 I11 => back I11 nx
        · exact blk_err I3 hst hfr cF cL (fun b hb => (f3 b hb).1) tk I' c _
  exact codeAny_compStart_list loop (T.self X.A 0 _ _ _ st4 loop)
theorem pe_lcX {pos : Pos} (hst : X.stack = X.env :: X.outer) (hfr : X.env.frame = some X.env.locals) (tk : L2.Takes X fun cls d _ H => W cls d H) (hc : X.calm = true) (hN : X.N.Nodup) (hi : PI X tg iter wi) (ok : BlkOk X.N X.env.scope scope own)
    (hg : ∀ (s : Shared) (H : Hp) (C : Addr) (cl : List (Str × Addr)) (fp : List Addr), PG (X.blk s H scope (compEnvC scope cl C X.env) fp) tg g) (ht : ∀ (s : Shared) (H : Hp) (C : Addr) (cl : List (Str × Addr)) (fp : List Addr), PTs (X.blk s H scope (compEnvC scope cl C X.env) fp) ifs tt)
    (he : ∀ (s : Shared) (H : Hp) (C : Addr) (cl : List (Str × Addr)) (fp : List Addr), PE (blkX X W s H scope (compEnvC scope cl C X.env) fp) elt te) (hsi : ∀ x, foldedSetIterable iter X.env x = pure x := by intro _; rfl) :
    PE X (.ListComp elt [⟨tg, iter, ifs, 0⟩] scope pos) (tLc wi g tt te (own.map (·.2))) := by
  refine ⟨fun pins s σ H Q I h => ?_⟩
  rw [eval_ListComp]
  refine lcx_core hc hN hst hfr tk I hi ok hg ht he hsi h fun D C s' m H' I' q hn ⟨k0, k1, k2, k3, k4, k5⟩ => ⟨m, hn, fun h2 sb => ?_⟩
  exact ⟨.ref D, H', I'.turned (t' := s'.toks) (fun b o hb e => (sb.2 b hb).trans e) k0 k1 k3 k4 k5, rfl, q⟩
theorem ps_setLcX {i : Nat} {y : Str} {py pos spos : Pos} (hst : X.stack = X.env :: X.outer) (hfr : X.env.frame = some X.env.locals) (tk : L2.Takes X fun cls d _ H => W cls d H) (hc : X.calm = true) (hN : X.N.Nodup) (hy : X.N[i]? = some y) (hyl : X.env.scope.names.lookup y = some .local)
    (hsw : swapsWith (.ListComp elt [⟨tg, iter, ifs, 0⟩] scope pos) (some (.Name y py)) spos.line X.env = pure true) (hi : PI X tg iter wi) (ok : BlkOk X.N X.env.scope scope own)
    (hg : ∀ (s : Shared) (H : Hp) (C : Addr) (cl : List (Str × Addr)) (fp : List Addr), PG (X.blk s H scope (compEnvC scope cl C X.env) fp) tg g) (ht : ∀ (s : Shared) (H : Hp) (C : Addr) (cl : List (Str × Addr)) (fp : List Addr), PTs (X.blk s H scope (compEnvC scope cl C X.env) fp) ifs tt)
    (he : ∀ (s : Shared) (H : Hp) (C : Addr) (cl : List (Str × Addr)) (fp : List Addr), PE (blkX X W s H scope (compEnvC scope cl C X.env) fp) elt te) (hsi : ∀ x, foldedSetIterable iter X.env x = pure x := by intro _; rfl) :
    PS X (.Assign [.Name y py] (.ListComp elt [⟨tg, iter, ifs, 0⟩] scope pos) spos) (tAsg (tLc wi g tt te (own.map (·.2))) (gName i)) := by
  refine ⟨fun pins s σ H D I h => ?_⟩
  rw [exec_Assign_Name_used _ _ _ _ hsw]
  refine wpAny_bind (wpAny_standAt (wpAny_bind ?_))
  show wpAny _ X.A (do let _ ← comprehension (.ListComp elt [⟨tg, iter, ifs, 0⟩] scope pos) scope X.env (firstIterPos [⟨tg, iter, ifs, 0⟩] pos) (newList []) false (eval iter X.env) (some (assign (.Name y py) X.env))) _ _ s
  refine wpAny_bind (thn (lcx_core (Qf := fun _ s' => SP X pins D .next s') (Q := fun x H1 => gName i x σ H1 D.nx) hc hN hst hfr tk I hi ok hg ht he hsi h fun L C s' m H' I' q hn ⟨k0, k1, k2, k3, k4, k5⟩ => ?_) fun _ s' hq => wpAny_pure (wpAny_pure hq))
  show wpAny _ _ (assign (.Name y py) X.env (.ref L)) _ _ _
  refine wpAny_assign_Name (store_ok2 (v := V.ref L) I' hN hy (.inl hyl) rfl (fun s2 I2 ⟨a, sb, ha⟩ => ?_) (.inr hyl))
  have haC : C ≠ a := by
    rcases ha with z | z
    · rw [z]; exact k1
    · exact fun e => k4 y a z e.symm
  exact ⟨m, hn.sameBut sb haC, fun h3 sb3 => ⟨_, H', I2.turned (t' := s2.toks) (fun b o hb e => (sb3.2 b hb).trans e) k0 k1 k3 k4 k5, q⟩⟩
end
end Hue
namespace Hue
open PySem PySem.Spec PyProof.Rows L2
theorem callR_or {X : Cx} {f : Value} {r1 r2 : List V → Hp → VK → Prop} (h1 : CallR X f r1) (h2 : CallR X f r2) : CallR X f (fun xs H Q => r1 xs H Q ∨ r2 xs H Q) :=
  fun pins s σ H xs us Q I r h => h.elim (fun z => h1 pins s σ H xs us Q I r z) fun z => h2 pins s σ H xs us Q I r z
end Hue

set_option Elab.async false
set_option linter.all false
set_option maxRecDepth 100000
set_option maxHeartbeats 1000000
/-! operators of an own class: own + own, own * int and int * own where the class has both -/
namespace Hue
open PySem PySem.Spec PyProof.Rows L2
def rOwnO (C : Addr) (sp : Sp) (E : XK) : R2 := fun x y H Q => ∃ a b dx fs d2 f2, x = .ref a ∧ H a = some (.ins C dx fs) ∧ y = .ref b ∧ H b = some (.ins C d2 f2) ∧ sp [.ref a, .ref b] H Q E
def rIntO (C : Addr) (sp : Sp) (E : XK) : R2 := fun x y H Q => ∃ i b dx fs, x = .int i ∧ y = .ref b ∧ H b = some (.ins C dx fs) ∧ sp [.ref b, .int i] H Q E
theorem ep_back {X : Cx} {pins : List (Addr × Obj)} {σ : L2.St} {Q : VK} {u : Value} {s' : Shared} (hq : EP X pins σ Q u s') : PySem.W.CmpBack (EP X pins σ Q) u s' := by
  obtain ⟨z, H', I', rz, qz⟩ := hq
  exact SlX.cmpback rz ⟨z, H', I', rz, qz⟩
section
variable {prog : Program} {w : World} {A : Around} {E : Value → Shared → Prop} {s : Shared} {K : PySem.W.Frag} {x y C f L : Addr} {h0 : Heap} {m : Str → Option Value} {ox oy : Obj} {od oe : Option Obj}
/-- both of one own class -/
theorem bin_same {op : Operator} {Q : Value → Shared → Prop} (Fm : PyProof.Rows.Fr h0 L s.heap m) (X0 : K.In h0) (I : PySem.W.InstAt s.heap x ox C od) (J : PySem.W.InstAt s.heap y oy C oe) (hc : PySem.W.selfFirst K C = true)
    (hs : PySem.W.findIn K (.ref C) (PySem.dunder op.info.2) = some (some (.ref f))) (hf : PySem.W.isFn K (.ref f) = true)
    (h : wpAny (model prog w) A (call (.ref f) [.ref x, .ref y]) (PySem.W.CmpBack Q) E s) : wpAny (model prog w) A (binaryOp op (.ref x) (.ref y)) Q E s := by
  have X := X0.keeps Fm.keep
  obtain ⟨cd, rest, hcd, hm⟩ := PySem.W.ksp_first hc
  rcases hi : op.info with ⟨sym, nm⟩
  rw [hi] at hs
  dsimp only at hs
  have one := PySem.W.ksp_try X I hs hf h
  obtain ⟨hh, g, d, tt, os⟩ := s
  have L1 : PySem.W.Looks (model prog w) hh (typeOf (.ref x)) (.ref C) := I.type
  have L2' : PySem.W.Looks (model prog w) hh (typeOf (.ref y)) (.ref C) := J.type
  have L3 : PySem.W.Looks (model prog w) hh (fillsNumberSlot (.ref C) nm) true := PySem.W.fills_K X hcd hm hs
  have he : (Value.ref C == Value.ref C) = true := beq_self_eq_true _
  simp only [binaryOp, hi]
  refine wpAny_holding (wpAny_bind ?_)
  unfold binaryOp1
  refine wpAny_bind (L1.at (wpAny_bind (L2'.at (wpAny_bind (L3.at ?_)))))
  simp only [he, if_true]
  ksp_lk
  refine wpAny_mono one (fun r s' hr' => ?_) fun _ _ e => e
  obtain ⟨v, rfl, hq⟩ := hr'
  ksp_lk
  exact hq
theorem decl_int {i : Int} {t : Tok} {Q : Value → Shared → Prop} (hg : s.heap.get? y = some oy) (hp : oy.data = .plain) (h : Q .notImplemented s) : wpAny (model prog w) A (call (.builtin "int.__mul__") [.int i t, .ref y]) Q E s := by
  refine GQ.call_here PySem.F.slot_int_mul (typeIs_int s i t) PySem.F.entry_int_mul (PySem.F.args_int_mul_2 _ _) ?_
  obtain ⟨c, d, dt, sl⟩ := oy
  dsimp only at hp
  subst hp
  obtain ⟨hp, g, d, tk, os⟩ := s
  unfold Builtin.«int.__mul__» Builtin.Int.intBinary
  wp_walk
  exact h
theorem try_decl {v u : Value} {T id : String} {nm : Str} (hT : s.TypeIs v T) (hS : Slot T nm id) (h : wpAny (model prog w) A (call (.builtin id) [v, u]) (fun r s' => r = .notImplemented ∧ s' = s) E s) : wpAny (model prog w) A (tryMethod v nm u) (fun r s' => r = none ∧ s' = s) E s :=
  wpAny_tryMethod_declines hT hS (wpAny_mono h (fun _ _ ⟨a, b⟩ => ⟨a, rfl, b⟩) fun _ _ z => z)
/-- a built-in value on the left, its own method declines -/
theorem bin_left {op : Operator} {sym nm T id : String} {v : Value} {Q : Value → Shared → Prop} (hop : op.info = (sym, nm)) (Fm : PyProof.Rows.Fr h0 L s.heap m) (X0 : K.In h0) (I : PySem.W.InstAt s.heap y oy C od) (hc : PySem.W.selfFirst K C = true)
    (hs : PySem.W.findIn K (.ref C) (PySem.dunder nm) = some (some (.ref x))) (hr : PySem.W.findIn K (.ref C) (PySem.dunderR nm) = some (some (.ref f))) (hf : PySem.W.isFn K (.ref f) = true) (hsub : PySem.W.subIn K (.ref C) (.type T) = some false)
    (hv : typeOf v = pure (.type T)) (hT : s.TypeIs v T) (hS : Slot T (PySem.dunder nm) id) (hfl : fillsNumberSlot (.type T) nm = pure true) (hd : wpAny (model prog w) A (call (.builtin id) [v, .ref y]) (fun r s' => r = .notImplemented ∧ s' = s) E s)
    (h : wpAny (model prog w) A (call (.ref f) [.ref y, v]) (PySem.W.CmpBack Q) E s) : wpAny (model prog w) A (binaryOp op v (.ref y)) Q E s := by
  have X := X0.keeps Fm.keep
  obtain ⟨cd, rest, hcd, hm⟩ := PySem.W.ksp_first hc
  have two := PySem.W.ksp_try X I hr hf h
  have one := try_decl hT hS hd
  obtain ⟨hh, g, d, tt, os⟩ := s
  have L1 : PySem.W.Looks (model prog w) hh (typeOf v) (.type T) := PySem.W.Looks.of_pure hv
  have L2' : PySem.W.Looks (model prog w) hh (typeOf (.ref y)) (.ref C) := I.type
  have L3 : PySem.W.Looks (model prog w) hh (fillsNumberSlot (.type T) nm) true := PySem.W.Looks.of_pure hfl
  have L4 : PySem.W.Looks (model prog w) hh (fillsNumberSlot (.ref C) nm) true := PySem.W.fills_K X hcd hm hs
  have L5 : PySem.W.Looks (model prog w) hh (isSubtype (.ref C) (.type T)) false := PySem.W.looks_subIn X hsub
  have L6 : PySem.W.Looks (model prog w) hh (numberSlotInPython (.type T) nm) false := PySem.W.Looks.of_pure rfl
  have hne : (Value.type T == Value.ref C) = false := Bool.eq_false_iff.mpr fun q => by cases beq_iff_eq.mp q
  simp only [binaryOp, hop]
  refine wpAny_holding (wpAny_bind ?_)
  unfold binaryOp1
  refine wpAny_bind (L1.at (wpAny_bind (L2'.at (wpAny_bind (L3.at ?_)))))
  simp only [hne, Bool.false_eq_true, if_false]
  ksp_lk
  refine wpAny_mono one (fun r s' hr' => ?_) fun _ _ e => e
  obtain ⟨rfl, rfl⟩ := hr'
  ksp_lk
  refine wpAny_mono two (fun r s' hr' => ?_) fun _ _ e => e
  obtain ⟨v, rfl, hq⟩ := hr'
  ksp_lk
  exact hq
end
section
variable {X : Cx} {CX : CXT} {op : Operator} {C m r : Str} {k : Nat} {sp : Sp} {E : XK}
theorem op_own2 (b : (Fx.bopo C m).ok X.K = true) (em : PySem.dunder op.info.2 = m) (F : FnR X.prog X.w X.K X.mg X.base CX k (mad C m X.K) sp) (hr : Room k X.A) (hx : Passes CX X E) : OpR X (binaryOp op) (rOwnO (gad C X.K) sp E) := by
  intro pins s σ H x y v u Q I rx ry ⟨a, b', dx, fs, d2, f2, ex, ea, ey, eb, q⟩
  subst ex ey
  obtain rfl : v = Value.ref a := rx
  obtain rfl : u = Value.ref b' := ry
  obtain ⟨c1, c⟩ := He.ba b
  obtain ⟨c2, c3⟩ := He.ba c
  obtain ⟨mA, O, _⟩ := ins_get I.hok ea
  obtain ⟨od, J, _⟩ := O.look
  obtain ⟨mB, O2, _⟩ := ins_get I.hok eb
  obtain ⟨oe, J2, _⟩ := O2.look
  obtain ⟨m0, Fm⟩ := I.fr
  subst em
  exact bin_same Fm I.ok.mod.kin J J2 c1 (He.eqO_ok c2) c3 (thn (wpAny_call (run_fnR (us := [.ref a, .ref b']) (vs := [.ref a, .ref b']) F hr hx I (.cons rfl (.cons rfl .nil)) q)) fun w s' z => ep_back z)
theorem op_ownIr (b : (Fx.bopr C m r "int").ok X.K = true) (em : PySem.dunder op.info.2 = m) (er : PySem.dunderR op.info.2 = r) (F : FnR X.prog X.w X.K X.mg X.base CX k (mad C m X.K) sp) (hr : Room k X.A) (hx : Passes CX X E) : OpR X (binaryOp op) (rOwnI (gad C X.K) sp E) := by
  intro pins s σ H x y v u Q I rx ry ⟨a, dx, fs, i, ex, ea, ey, q⟩
  subst ex ey
  obtain rfl : v = Value.ref a := rx
  obtain ⟨t, rfl⟩ := ry
  obtain ⟨c1, c⟩ := He.ba b
  obtain ⟨c2, c⟩ := He.ba c
  obtain ⟨c3, c⟩ := He.ba c
  obtain ⟨c4, c⟩ := He.ba c
  obtain ⟨c5, c⟩ := He.ba c
  obtain ⟨c6, c⟩ := He.ba c
  obtain ⟨c7, c⟩ := He.ba c
  obtain ⟨c8, c9⟩ := He.ba c
  obtain ⟨fo, h5⟩ := Option.isSome_iff_exists.mp c6
  obtain ⟨ro, h6⟩ := Option.isSome_iff_exists.mp c7
  obtain ⟨mA, O, _⟩ := ins_get I.hok ea
  obtain ⟨od, J, _⟩ := O.look
  obtain ⟨m0, Fm⟩ := I.fr
  subst em er
  exact PySem.W.ksp_binT (T := "int") Fm I.ok.mod.kin J rfl c1 (He.eqO_ok c2) c3 (He.eqO_ok c4) (.inr ⟨_, rfl⟩) h5 h6 (of_decide_eq_true c8) (thn (wpAny_call (run_fnR (us := [.ref a, .int i t]) (vs := [.ref a, .int i]) F hr hx I (.cons rfl (.cons ⟨t, rfl⟩ .nil)) q)) fun w s' z => ep_back z)
theorem op_intO (b : (Fx.bopr C "__mul__" "__rmul__" "int").ok X.K = true) (F : FnR X.prog X.w X.K X.mg X.base CX k (mad C "__rmul__" X.K) sp) (hr : Room k X.A) (hx : Passes CX X E) : OpR X (binaryOp .Mult) (rIntO (gad C X.K) sp E) := by
  intro pins s σ H x y v u Q I rx ry ⟨i, a, dx, fs, ex, ey, ea, q⟩
  subst ex ey
  obtain ⟨t, rfl⟩ := rx
  obtain rfl : u = Value.ref a := ry
  obtain ⟨c1, c⟩ := He.ba b
  obtain ⟨c2, c⟩ := He.ba c
  obtain ⟨c3, c⟩ := He.ba c
  obtain ⟨c4, c⟩ := He.ba c
  obtain ⟨c5, c⟩ := He.ba c
  obtain ⟨c6, c⟩ := He.ba c
  obtain ⟨c7, c⟩ := He.ba c
  obtain ⟨c8, c9⟩ := He.ba c
  obtain ⟨mA, O, _⟩ := ins_get I.hok ea
  obtain ⟨od, J, _⟩ := O.look
  obtain ⟨m0, Fm⟩ := I.fr
  exact bin_left (nm := "mul") (T := "int") rfl Fm I.ok.mod.kin J c1 (He.eqO_ok c2) (He.eqO_ok c4) c5 (of_decide_eq_true c9) rfl (typeIs_int s i t) PySem.F.slot_int_mul PySem.F.fills_int_mul (decl_int J.1 rfl ⟨rfl, rfl⟩) (thn (wpAny_call (run_fnR (us := [.ref a, .int i t]) (vs := [.ref a, .int i]) F hr hx I (.cons rfl (.cons ⟨t, rfl⟩ .nil)) q)) fun w s' z => ep_back z)
theorem op_own2K {K : PySem.W.Frag} (e : X.K = K) (b : (Fx.bopo C m).ok K = true) (em : PySem.dunder op.info.2 = m) (F : FnR X.prog X.w K X.mg X.base CX k (mad C m K) sp) (hr : Room k X.A) (hx : Passes CX X E) : OpR X (binaryOp op) (rOwnO (gad C K) sp E) := by subst e; exact op_own2 b em F hr hx
theorem op_ownIrK {K : PySem.W.Frag} (e : X.K = K) (b : (Fx.bopr C m r "int").ok K = true) (em : PySem.dunder op.info.2 = m) (er : PySem.dunderR op.info.2 = r) (F : FnR X.prog X.w K X.mg X.base CX k (mad C m K) sp) (hr : Room k X.A) (hx : Passes CX X E) : OpR X (binaryOp op) (rOwnI (gad C K) sp E) := by subst e; exact op_ownIr b em er F hr hx
theorem op_intOK {K : PySem.W.Frag} (e : X.K = K) (b : (Fx.bopr C "__mul__" "__rmul__" "int").ok K = true) (F : FnR X.prog X.w K X.mg X.base CX k (mad C "__rmul__" K) sp) (hr : Room k X.A) (hx : Passes CX X E) : OpR X (binaryOp .Mult) (rIntO (gad C K) sp E) := by subst e; exact op_intO b F hr hx
end
/-! ### the same in a try body: what the callee raises is wished of the slots as they are -/
def eS (W : WX) (σ : L2.St) : XK := fun cls d H => W cls d σ H
def OpRS (X : Cx) (f : Value → Value → Sem Value) (r : L2.St → R2) : Prop :=
  ∀ (pins : List (Addr × Obj)) (s : Shared) (σ : L2.St) (H : Hp) (x y : V) (v u : Value) (Q : VK), Inv X pins σ H s → RelV x v → RelV y u → r σ x y H Q → wpAny (model X.prog X.w) X.A (f v u) (EP X pins σ Q) X.xe s
def tOpS (r : L2.St → R2) (ta tb : TE) : TE := fun σ H Q => tOp (r σ) ta tb σ H Q
section
variable {X : Cx} {op : Operator} {C m r : Str} {k : Nat} {sp : Sp} {W : WX}
theorem pe_opS {a b : Expr} {ta tb : TE} {pos : Pos} {r : L2.St → R2} (ho : OpRS X (binaryOp op) r) (ha : PE X a ta) (hb : PE X b tb) : PE X (.BinOp a op b pos) (tOpS r ta tb) := by
  refine ⟨fun pins s σ H Q I h => ?_⟩
  exact wpAny_BinOp (binT ha hb I h fun v u s2 x y H2 I2 rx ry q => ho pins s2 σ H2 x y v u Q I2 rx ry q)
theorem passS {pins : List (Addr × Obj)} {σ : L2.St} {H : Hp} {s : Shared} (tk : Takes X W) (I : Inv X pins σ H s) : ∀ e s', L2.CX X.prog X.w X.stack H s (eS W σ) e s' → X.xe e s' :=
  fun e s' c => tk e s' (XE.of_call I (fun _ _ _ h => h) c)
theorem run_fnRp {pins : List (Addr × Obj)} {σ : L2.St} {H : Hp} {s : Shared} {CX : CXT} {k : Nat} {f : Addr} {sp : Sp} {E : XK} {Q : VK} {us : List Value} {vs : List V} (F : FnR X.prog X.w X.K X.mg X.base CX k f sp) (hr : Room k X.A) (hx : ∀ e s', CX X.stack H s E e s' → X.xe e s') (I : Inv X pins σ H s) (r : Vals vs us) (h : sp vs H Q E) :
    codeAny (model X.prog X.w) X.A (.call (.ref f) ⟨us, []⟩) (fun r s' => match r with | .ok (.ret v) => EP X pins σ Q v s' | .ok _ => False | .error e => X.xe e s') s := by
  refine codeAny_mono (F X.A X.stack s H us vs Q E hr I.env0 r h) fun r s' hq => ?_
  cases r with
  | error e => exact hx e s' hq
  | ok fl =>
    cases fl with
    | ret u => exact I.after hq
    | next => exact False.elim hq
    | brk => exact False.elim hq
    | cont => exact False.elim hq
theorem op_own2S (b : (Fx.bopo C m).ok X.K = true) (em : PySem.dunder op.info.2 = m) (F : FnR X.prog X.w X.K X.mg X.base (L2.CX X.prog X.w) k (mad C m X.K) sp) (hr : Room k X.A) (tk : Takes X W) : OpRS X (binaryOp op) (fun σ => rOwnO (gad C X.K) sp (eS W σ)) := by
  intro pins s σ H x y v u Q I rx ry ⟨a, b', dx, fs, d2, f2, ex, ea, ey, eb, q⟩
  subst ex ey
  obtain rfl : v = Value.ref a := rx
  obtain rfl : u = Value.ref b' := ry
  obtain ⟨c1, c⟩ := He.ba b
  obtain ⟨c2, c3⟩ := He.ba c
  obtain ⟨mA, O, _⟩ := ins_get I.hok ea
  obtain ⟨od, J, _⟩ := O.look
  obtain ⟨mB, O2, _⟩ := ins_get I.hok eb
  obtain ⟨oe, J2, _⟩ := O2.look
  obtain ⟨m0, Fm⟩ := I.fr
  subst em
  exact bin_same Fm I.ok.mod.kin J J2 c1 (He.eqO_ok c2) c3 (thn (wpAny_call (run_fnRp (us := [.ref a, .ref b']) (vs := [.ref a, .ref b']) F hr (passS tk I) I (.cons rfl (.cons rfl .nil)) q)) fun w s' z => ep_back z)
theorem op_ownIrS (b : (Fx.bopr C m r "int").ok X.K = true) (em : PySem.dunder op.info.2 = m) (er : PySem.dunderR op.info.2 = r) (F : FnR X.prog X.w X.K X.mg X.base (L2.CX X.prog X.w) k (mad C m X.K) sp) (hr : Room k X.A) (tk : Takes X W) : OpRS X (binaryOp op) (fun σ => rOwnI (gad C X.K) sp (eS W σ)) := by
  intro pins s σ H x y v u Q I rx ry ⟨a, dx, fs, i, ex, ea, ey, q⟩
  subst ex ey
  obtain rfl : v = Value.ref a := rx
  obtain ⟨t, rfl⟩ := ry
  obtain ⟨c1, c⟩ := He.ba b
  obtain ⟨c2, c⟩ := He.ba c
  obtain ⟨c3, c⟩ := He.ba c
  obtain ⟨c4, c⟩ := He.ba c
  obtain ⟨c5, c⟩ := He.ba c
  obtain ⟨c6, c⟩ := He.ba c
  obtain ⟨c7, c⟩ := He.ba c
  obtain ⟨c8, c9⟩ := He.ba c
  obtain ⟨fo, h5⟩ := Option.isSome_iff_exists.mp c6
  obtain ⟨ro, h6⟩ := Option.isSome_iff_exists.mp c7
  obtain ⟨mA, O, _⟩ := ins_get I.hok ea
  obtain ⟨od, J, _⟩ := O.look
  obtain ⟨m0, Fm⟩ := I.fr
  subst em er
  exact PySem.W.ksp_binT (T := "int") Fm I.ok.mod.kin J rfl c1 (He.eqO_ok c2) c3 (He.eqO_ok c4) (.inr ⟨_, rfl⟩) h5 h6 (of_decide_eq_true c8) (thn (wpAny_call (run_fnRp (us := [.ref a, .int i t]) (vs := [.ref a, .int i]) F hr (passS tk I) I (.cons rfl (.cons ⟨t, rfl⟩ .nil)) q)) fun w s' z => ep_back z)
theorem op_intOS (b : (Fx.bopr C "__mul__" "__rmul__" "int").ok X.K = true) (F : FnR X.prog X.w X.K X.mg X.base (L2.CX X.prog X.w) k (mad C "__rmul__" X.K) sp) (hr : Room k X.A) (tk : Takes X W) : OpRS X (binaryOp .Mult) (fun σ => rIntO (gad C X.K) sp (eS W σ)) := by
  intro pins s σ H x y v u Q I rx ry ⟨i, a, dx, fs, ex, ey, ea, q⟩
  subst ex ey
  obtain ⟨t, rfl⟩ := rx
  obtain rfl : u = Value.ref a := ry
  obtain ⟨c1, c⟩ := He.ba b
  obtain ⟨c2, c⟩ := He.ba c
  obtain ⟨c3, c⟩ := He.ba c
  obtain ⟨c4, c⟩ := He.ba c
  obtain ⟨c5, c⟩ := He.ba c
  obtain ⟨c6, c⟩ := He.ba c
  obtain ⟨c7, c⟩ := He.ba c
  obtain ⟨c8, c9⟩ := He.ba c
  obtain ⟨mA, O, _⟩ := ins_get I.hok ea
  obtain ⟨od, J, _⟩ := O.look
  obtain ⟨m0, Fm⟩ := I.fr
  exact bin_left (nm := "mul") (T := "int") rfl Fm I.ok.mod.kin J c1 (He.eqO_ok c2) (He.eqO_ok c4) c5 (of_decide_eq_true c9) rfl (typeIs_int s i t) PySem.F.slot_int_mul PySem.F.fills_int_mul (decl_int J.1 rfl ⟨rfl, rfl⟩) (thn (wpAny_call (run_fnRp (us := [.ref a, .int i t]) (vs := [.ref a, .int i]) F hr (passS tk I) I (.cons rfl (.cons ⟨t, rfl⟩ .nil)) q)) fun w s' z => ep_back z)
theorem op_own2SK {K : PySem.W.Frag} (e : X.K = K) (b : (Fx.bopo C m).ok K = true) (em : PySem.dunder op.info.2 = m) (F : FnR X.prog X.w K X.mg X.base (L2.CX X.prog X.w) k (mad C m K) sp) (hr : Room k X.A) (tk : Takes X W) : OpRS X (binaryOp op) (fun σ => rOwnO (gad C K) sp (eS W σ)) := by subst e; exact op_own2S b em F hr tk
theorem op_ownIrSK {K : PySem.W.Frag} (e : X.K = K) (b : (Fx.bopr C m r "int").ok K = true) (em : PySem.dunder op.info.2 = m) (er : PySem.dunderR op.info.2 = r) (F : FnR X.prog X.w K X.mg X.base (L2.CX X.prog X.w) k (mad C m K) sp) (hr : Room k X.A) (tk : Takes X W) : OpRS X (binaryOp op) (fun σ => rOwnI (gad C K) sp (eS W σ)) := by subst e; exact op_ownIrS b em er F hr tk
theorem op_intOSK {K : PySem.W.Frag} (e : X.K = K) (b : (Fx.bopr C "__mul__" "__rmul__" "int").ok K = true) (F : FnR X.prog X.w K X.mg X.base (L2.CX X.prog X.w) k (mad C "__rmul__" K) sp) (hr : Room k X.A) (tk : Takes X W) : OpRS X (binaryOp .Mult) (fun σ => rIntO (gad C K) sp (eS W σ)) := by subst e; exact op_intOS b F hr tk
end
/-! ### C(*y, *z) -/
theorem args_two {M : Model} {A : Around} {E : Value → Shared → Prop} {s : Shared} {f : Value} {x y : Sem Value} {Q : Args → Shared → Prop} (h : wpAny M A (spliced [(true, x), (true, y)]) (fun vs s1 => Q ⟨vs, []⟩ s1) E s) : wpAny M A (evalArgs f true [(true, x), (true, y)] []) Q E s := by
  unfold evalArgs
  show wpAny M A (spliced [(true, x), (true, y)] >>= _) Q E s
  exact wpAny_bind (wpAny_mono h (fun vs s' h' => wpAny_holding (wpAny_bind (wpAny_pure (wpAny_bind (wpAny_pure (wpAny_pure h')))))) fun _ _ z => z)
theorem pe_make2 {X : Cx} {CX : CXT} {k : Nat} {f C : Addr} {sp : Sp} {E : XK} {x : Str} {e1 e2 : Expr} {p p1 p2 pos : Pos} {t : TA} (M : Mk X.K C f) (F : FnR X.prog X.w X.K X.mg X.base CX k f sp) (hr : Room (k + 1) X.A) (hg : Gl X x) (hm : X.mg x = some (.ref C)) (hx : Passes CX X E)
    (ha : PA X [.Starred e1 p1, .Starred e2 p2] t) (hd : (x == ("__debug__" : Str)) = false := by decide)
    (hst : starEach [.Starred e1 p1, .Starred e2 p2] X.env = [(true, eval e1 X.env), (true, eval e2 X.env)] := by rfl) : PE X (.Call (.Name x p) [.Starred e1 p1, .Starred e2 p2] [] pos) (StX.tMakeR C sp E t) := by
  refine ⟨fun pins s σ H Q I h => wpAny_Call_Name_kw (ld_glob I hg hm ?_ hd)⟩
  have z := thn (ha.run pos pins s σ H _ I h) (Q' := fun us s1 => X.K.In s1.heap ∧ wpAny (model X.prog X.w) X.A (call (.ref C) us) (EP X pins σ Q) X.xe s1) fun us s1 ⟨vs, H1, I1, r, q⟩ => ⟨I1.kIn, StX.run_makeR M F hr hx I1 r q⟩
  rw [hst] at z ⊢
  exact PySem.W.ks_call (first := []) (P := fun h => X.K.In h) rfl (PySem.W.keeps_K M.kp) (args_two z)
end Hue

set_option Elab.async false
set_option linter.all false
set_option maxRecDepth 100000
set_option maxHeartbeats 1000000
/-! x in t, t a tuple of data of any depth -/
namespace Hue
open PySem PySem.Spec PyProof.Rows L2
section
variable {X : Cx} {K : PySem.W.Frag}
def rInT (K : PySem.W.Frag) (no : Bool) : R2 := fun x y H Q => ∃ d ds, Dp K H x d ∧ Dp K H y (.tuple ds) ∧ SeqAt.shaped d = true ∧ SeqAt.shaped (.list ds) = true ∧ Q (.bl (no != (ds.any fun z => PyData.eqv z d))) H
theorem op_inT (hu : X.A.units + 65 < cLine) : OpR X (compareOp .In) (rInT X.K false) := by
  intro pins s σ H x y v u Q I rx ry h
  obtain ⟨d, ds, hd, he, sd, se, q⟩ := h
  obtain ⟨as, r1⟩ := Dp.reads I d x v hd rx
  obtain ⟨bs, r2⟩ := Dp.reads I (.tuple ds) y u he ry
  exact SeqAt.in_tuple_reads r2 r1 (SeqAt.canLay_of_shaped se) (SeqAt.canLay_of_shaped sd) (room_in_shaped sd hu) ⟨.bl (ds.any fun z => PyData.eqv z d), H, I, rfl, by rw [Bool.false_bne] at q; exact q⟩
theorem op_notInT (hu : X.A.units + 65 < cLine) : OpR X (compareOp .NotIn) (rInT X.K true) := by
  intro pins s σ H x y v u Q I rx ry h
  obtain ⟨d, ds, hd, he, sd, se, q⟩ := h
  obtain ⟨as, r1⟩ := Dp.reads I d x v hd rx
  obtain ⟨bs, r2⟩ := Dp.reads I (.tuple ds) y u he ry
  exact SeqAt.notIn_tuple_reads r2 r1 (SeqAt.canLay_of_shaped se) (SeqAt.canLay_of_shaped sd) (room_in_shaped sd hu) ⟨.bl (!ds.any fun z => PyData.eqv z d), H, I, rfl, by rw [Bool.true_bne] at q; exact q⟩
theorem op_inDK (e : X.K = K) (hu : X.A.units + 65 < cLine) : OpR X (compareOp .In) (rInD K) := e ▸ op_inD hu
theorem op_notInDK (e : X.K = K) (hu : X.A.units + 65 < cLine) : OpR X (compareOp .NotIn) (rNotInD K) := e ▸ op_notInD hu
theorem op_inTK (e : X.K = K) (hu : X.A.units + 65 < cLine) : OpR X (compareOp .In) (rInT K false) := e ▸ op_inT hu
theorem op_notInTK (e : X.K = K) (hu : X.A.units + 65 < cLine) : OpR X (compareOp .NotIn) (rInT K true) := e ▸ op_notInT hu
end
theorem room65 {k : Nat} {A : Around} (r : Room k A) : A.units + 65 < cLine := by have := r.un; omega
/-- a word with a number -/
def sD (z : Str × Int) : PyData := .tuple [.str z.1, .int z.2]
def sVs (z : Str × Int) : List V := [.str z.1, .int z.2]
theorem sD_eqv (z y : Str × Int) : PyData.eqv (sD z) (sD y) = decide (z = y) := by
  obtain ⟨a, i⟩ := z
  obtain ⟨b, j⟩ := y
  have e : PyData.eqv (sD (a, i)) (sD (b, j)) = ((a == b) && ((i == j) && true)) := by simp only [sD, PyData.eqv, PyData.eqvAll]
  rw [e, Bool.and_true]
  by_cases h : (a, i) = (b, j)
  · cases h
    simp
  · rw [decide_eq_false h]
    by_cases h1 : a = b
    · have h2 : ¬ i = j := fun z => h (by rw [h1, z])
      rw [beq_eq_false_iff_ne.mpr h2, Bool.and_false]
    · rw [beq_eq_false_iff_ne.mpr h1, Bool.false_and]
abbrev SOk (z : Str × Int) : Prop := PyData.strOk z.1 = true
theorem sD_lay {z : Str × Int} (h : SOk z) : (sD z).canLay0 = true := by
  obtain ⟨a, i⟩ := z
  simp only [sD, PyData.canLay0, PyData.canLayAll0, Bool.and_true]
  exact h
theorem sD_depth (z : Str × Int) : (sD z).depth = 1 := by simp [sD, PyData.depth, PyData.depthAll]
theorem sD_shaped {z : Str × Int} (h : SOk z) : SeqAt.shaped (sD z) = true := by
  show ((sD z).canLay0 && decide ((sD z).depth ≤ 64)) = true
  rw [Bool.and_eq_true]
  exact ⟨sD_lay h, decide_eq_true (by rw [sD_depth]; omega)⟩
theorem sDs_lay : ∀ zs : List (Str × Int), (∀ z ∈ zs, SOk z) → PyData.canLayAll0 (zs.map sD) = true
  | [], _ => by simp [PyData.canLayAll0]
  | z :: zs, h => by
    simp only [List.map_cons, PyData.canLayAll0, Bool.and_eq_true]
    exact ⟨sD_lay (h z List.mem_cons_self), sDs_lay zs fun y hy => h y (List.mem_cons_of_mem _ hy)⟩
theorem sDs_depth : ∀ zs : List (Str × Int), PyData.depthAll (zs.map sD) ≤ 1
  | [] => by simp [PyData.depthAll]
  | z :: zs => by
    have h1 := sDs_depth zs
    have h2 := sD_depth z
    simp only [List.map_cons, PyData.depthAll]
    omega
theorem sDs_shaped {zs : List (Str × Int)} (h : ∀ z ∈ zs, SOk z) : SeqAt.shaped (.list (zs.map sD)) = true := by
  have h1 := sDs_depth zs
  have h2 : PyData.depth (.list (zs.map sD)) ≤ 64 := by
    simp only [PyData.depth]
    omega
  show (PyData.canLay0 (.list (zs.map sD)) && decide (PyData.depth (.list (zs.map sD)) ≤ 64)) = true
  rw [Bool.and_eq_true]
  exact ⟨by simp only [PyData.canLay0]; exact sDs_lay zs h, decide_eq_true h2⟩
theorem sDs_any (zs : List (Str × Int)) (y : Str × Int) : ((zs.map sD).any fun z => PyData.eqv z (sD y)) = decide (y ∈ zs) := by
  induction zs with
  | nil => rfl
  | cons z zs ih =>
    rw [List.map_cons, List.any_cons, ih, sD_eqv]
    by_cases h : z = y
    · subst h; simp
    · have h' : ¬ y = z := fun q => h q.symm
      simp [h, h']
end Hue

set_option Elab.async false
set_option linter.all false
set_option maxRecDepth 100000
set_option maxHeartbeats 1000000
/-! enumerate of a tuple -/
namespace Hue
open PySem PySem.Spec PyProof.Rows L2
theorem meets_enum1 {v : Value} {o : Obj} {H : Heap → Prop} (B : Begins v o H) :
    Meets (Builtin.«enumerate.__new__» ⟨[.type "enumerate", v], []⟩) (fun _ R s => H s.heap ∧
      R (.ok (.ret (.ref (s.heap.push o).objs.size))) { s with heap := (s.heap.push o).push { cls := .type "enumerate", data := .fields #[.none, .bool false, .ref s.heap.objs.size, rawInt 0, .none, .none] } }) :=
  .of_wp fun prog w A R s h => by
    obtain ⟨hp, g, d, tk, os⟩ := s; obtain ⟨h1, h⟩ := h
    have hsub := sub_enumerate
    have q1 : ∀ {A' : Around} {E : Value → Shared → Prop} {Q : Value → Shared → Prop}, Q (.ref hp.objs.size) ⟨hp.push o, g, d, tk, os⟩ → wpAny (model prog w) A' (pyIter v) Q E ⟨hp, g, d, tk, os⟩ :=
      fun q => B.iter prog w _ _ ⟨hp, g, d, tk, os⟩ _ h1 q
    wp_walk using q1
    refine wpAny_stack_any fun st => wpAny_pure ?_
    split
    · rename_i c _ _ _ _ _
      cases (c == Value.type "enumerate")
      · wp_walk using q1
        exact ⟨_, rfl, h⟩
      · wp_walk using q1
        exact ⟨_, rfl, h⟩
    · wp_walk using q1
      exact ⟨_, rfl, h⟩
theorem enum_begins1 {prog : Program} {w : World} {A : Around} {E : Value → Shared → Prop} {s : Shared} {v : Value} {o : Obj} {H : Heap → Prop} {Q : Value → Shared → Prop} (B : Begins v o H) (h1 : H s.heap)
    (h : ∀ h', IsEnum h' (s.heap.objs.size + 1) s.heap.objs.size 0 .none → h'.get? s.heap.objs.size = some o → h'.objs.size = s.heap.objs.size + 2 →
      (∀ b o, s.heap.get? b = some o → h'.get? b = some o) → Q (.ref (s.heap.objs.size + 1)) { s with heap := h' }) :
    wpAny (model prog w) A (call (.type "enumerate") [v]) Q E s := by
  refine callType_new F.called_enumerate (by decide) (F.typeCall_enumerate_1 _) (F.newCall_enumerate_1 _) (fun obj => F.args_object_init_2 obj _) F.entry_enumerate_new
    (meets_enum1 B) ⟨h1, ?_⟩
  have hz : (s.heap.push o).objs.size = s.heap.objs.size + 1 := Heap.size_push ..
  show _ ∧ _
  rw [hz]
  have he : IsEnum ((s.heap.push o).push { cls := .type "enumerate", data := .fields #[.none, .bool false, .ref s.heap.objs.size, rawInt 0, .none, .none] }) (s.heap.objs.size + 1) s.heap.objs.size 0 .none := by
    have := Heap.get?_push_size (s.heap.push o) (o := { cls := .type "enumerate", data := .fields #[.none, .bool false, .ref s.heap.objs.size, rawInt 0, .none, .none] }) rfl
    rw [hz] at this; exact this
  refine ⟨⟨_, he, rfl⟩, h _ he (Heap.get?_push_of_some _ (Heap.get?_push_size _ B.free)) (by rw [Heap.size_push, hz]) fun b o x => Heap.get?_push_of_some _ (Heap.get?_push_of_some _ x)⟩
/-- the tuple at a, each item in a new pair -/
def ItET (K : PySem.W.Frag) (a : Addr) : It :=
  ⟨fun i H => ∃ (xs : List V) (x : V), SqT K H a xs ∧ xs[i]? = some x, fun i H v H' => ∃ T x, v = .ref T ∧ H T = none ∧ H' = upd H T (.tup [.int (i : Nat), x]) ∧ ∀ xs, SqT K H a xs → xs[i]? = some x, fun i H => ∃ xs : List V, SqT K H a xs ∧ i = xs.length⟩
theorem turn_ET {P : Program} {w : World} {K : PySem.W.Frag} {elts : List Expr} {kk : Nat} {tpos : Pos} (a e it : Addr) (na : a ≠ it) (ne : e ≠ a) :
    Turn P w K (.Tuple elts kk tpos) (ItET K a) [e, it] e (fun i h => (∃ old, IsEnum h e it ((i : Nat) : Int) old) ∧ h.IsTupleIter it a i ∧ e ≠ it) where
  mem := by simp
  obj := fun i h st b hb => by
    obtain ⟨⟨old, he⟩, ⟨o, ho, hc, hd⟩, _⟩ := st
    have e' : b = e ∨ b = it := by simpa using hb
    rcases e' with z | z
    · rw [z]; exact ⟨_, he, fun v q => nomatch q⟩
    · rw [z]; exact ⟨o, ho, fun v q => by rw [hd] at q; cases q⟩
  keep := fun i h h' st k => let ⟨⟨old, he⟩, hi, hne⟩ := st; ⟨⟨old, k e (by simp) _ he⟩, hi.at fun o q => k it (by simp) o q, hne⟩
  item := by
    intro X hP hw hK hc i pins s σ H E I hf st hg
    subst hP hw hK
    obtain ⟨⟨old, he⟩, hit, hne⟩ := st
    obtain ⟨xs, x, hq, hx⟩ := hg
    obtain ⟨its, rv, p, hz⟩ := I.tuple hq
    obtain ⟨u, hu, ru⟩ := rv.get hx
    have hel : e < s.heap.objs.size := Heap.lt_size he
    have hil : it < s.heap.objs.size := by obtain ⟨_, q, _⟩ := hit; exact Heap.lt_size q
    have hh : X.A.in1.handled = none := I.ok.hd hc
    have hlt : i < its.toArray.size := by have := (List.getElem?_eq_some_iff.mp hu).1; simpa using this
    refine wpAny_pyNext_enum_itemD (Draws.tuple hh it a na its.toArray) he ⟨hit, p⟩ hlt hne (by simp [hne, ne]) fun u' h' tk e1 ho hst' hT hsz hk => ?_
    have eu : u' = u := by
      have : its[i]? = some u' := by simpa using e1
      rw [hu] at this; exact (Option.some.inj this).symm
    subst eu
    refine ⟨_, rfl, wpAny_letOwnedTupleGo_enum (s := { s with heap := h', toks := tk + 1 }) ho fun h'' he' sb => ?_⟩
    have hT2 : h''.get? s.heap.objs.size = some { cls := .type "tuple", data := .seq #[.int i tk, u'] } := (sb.2 _ (Nat.ne_of_gt hel)).trans hT
    have new : ObjOk X.prog X.w (upd H s.heap.objs.size (.tup [.int (i : Nat), x])) h'' s.heap.objs.size (.tup [.int (i : Nat), x]) :=
      ⟨by show 2 ≤ sizeLine; decide, [.int i tk, u'], .cons ⟨_, rfl⟩ (.cons ru .nil), ⟨_, hT2, rfl, _, rfl⟩⟩
    have I1 : Inv X pins σ (upd H s.heap.objs.size (.tup [.int (i : Nat), x])) { s with heap := h'', toks := tk + 1 } :=
      I.turnedNew (ch := [e, it]) (fun b ob hb q => (sb.2 b (fun z => hb (by simp [z]))).trans (hk b ob (fun z => hb (by simp [z])) (fun z => hb (by simp [z])) q)) hf (Nat.le_refl _) new
    refine ⟨.ref s.heap.objs.size, _, I1, rfl, ⟨_, x, rfl, I.hok.fresh (Nat.le_refl _), rfl, fun ys hy => by rw [I.tuple_inj hy hq]; exact hx⟩, ⟨⟨u', ?_⟩, hst'.1.at fun o q => (sb.2 it (Ne.symm hne)).trans q, hne⟩, fun b hb => ?_⟩
    · have e1 : ((i + 1 : Nat) : Int) = (i : Int) + 1 := by omega
      rw [e1]; exact he'
    · have hb' : b < s.heap.objs.size := by
        have e' : b = e ∨ b = it := by simpa using hb
        rcases e' with z | z
        · rw [z]; exact hel
        · rw [z]; exact hil
      rw [upd_ne (Nat.ne_of_lt hb')]
      exact (hf b hb).1
  done := by
    intro X hP hw hK hc i pins s σ H E I hf st hg
    subst hP hw hK
    obtain ⟨⟨old, he⟩, hit, hne⟩ := st
    obtain ⟨xs, hq, hx⟩ := hg
    obtain ⟨its, rv, p, hz⟩ := I.tuple hq
    obtain ⟨f0, f1, f2, f3, f4, f5⟩ := hf it (by simp)
    have hl := rv.length
    have hh : X.A.in1.handled = none := I.ok.hd hc
    have ei : i = its.toArray.size := by simp; omega
    subst ei
    exact wpAny_pyNext_enum_endD (Draws.tuple hh it a na its.toArray) he ⟨hit, p⟩ fun h' eb => ⟨rfl, I.turned (t' := s.toks) (fun b o hb q => eb b o hb q) f0 f1 f3 f4 f5⟩
  self := fun A i s Q E st h => let ⟨⟨_, he⟩, _⟩ := st; wpAny_pyIter_enum he h
def iEnumT (K : PySem.W.Frag) (ta : TA) : TI := fun σ H R => ta σ H fun vs H1 => ∃ a xs, vs = [.ref a] ∧ SqT K H1 a xs ∧ R (ItET K a) H1
theorem pi_enumT {X : Cx} {e : Expr} {ta : TA} {p pos tpos : Pos} {elts : List Expr} {kk : Nat} (hg : Gl X "enumerate") (hm : X.mg "enumerate" = none) (ha : PA X [e] ta) (hs : starEach [e] X.env = [(false, eval e X.env)] := by rfl) :
    PI X (.Tuple elts kk tpos) (.Call (.Name "enumerate" p) [e] [] pos) (iEnumT X.K ta) := by
  refine ⟨fun pins s σ H R I h => ?_⟩
  refine Call_ (ld_blt I hg hm boot_enumerate (PyProof.Rows.callWith_type1 (thn (ha.run pos pins s σ H _ I h) fun us s1 ⟨vs, H1, I1, r1, q1⟩ => ?_) hs rfl))
  obtain ⟨a, xs, ex, hq, q⟩ := q1
  subst ex
  cases r1 with
  | cons r rr =>
    cases rr
    cases r
    obtain ⟨its, rv, p', hz⟩ := I1.tuple hq
    have la : a < s1.heap.objs.size := by obtain ⟨_, e, _⟩ := id p'; exact Heap.lt_size e
    refine enum_begins1 (begins_tuple a its.toArray) p' fun h' he hit hsz hk => wpAny_pyIter_enum he ?_
    have I2 : Inv X pins σ H1 { s1 with heap := h' } := I1.kept (t' := s1.toks) hk
    refine ⟨s1.heap.objs.size + 1, [s1.heap.objs.size + 1, s1.heap.objs.size], _, _, H1, rfl, I2, turn_ET a (s1.heap.objs.size + 1) s1.heap.objs.size (Nat.ne_of_lt la) (Nat.ne_of_gt (Nat.lt_succ_of_lt la)), ⟨⟨.none, he⟩, ⟨_, hit, rfl, rfl⟩, Nat.succ_ne_self _⟩, fun b hb => ?_, q⟩
    have e' : b = s1.heap.objs.size + 1 ∨ b = s1.heap.objs.size := by simpa using hb
    have hle : s1.heap.objs.size ≤ b := by
      rcases e' with z | z
      · rw [z]; exact Nat.le_add_right _ _
      · rw [z]; exact Nat.le_refl _
    exact I1.fpOk hle (I1.hok.fresh hle)
theorem walk_enumT {K : PySem.W.Frag} {a : Addr} {xs : List V} : Walk (ItET K a) xs.length (fun H => SqT K H a xs) (YPair (fun i => some (.int (i : Nat))) (fun i => xs[i]?)) := by
  refine ⟨fun i _ hi q => ⟨xs, xs[i], q, by simp [hi]⟩, fun _ q => ⟨xs, q, rfl⟩, fun i H v H' _ q y => ?_⟩
  obtain ⟨T, x, h1, h2, h3, h4⟩ := y
  exact ⟨T, .int (i : Nat), x, h1, h2, h3, rfl, h4 xs q⟩
end Hue

set_option Elab.async false
set_option linter.all false
set_option maxRecDepth 100000
set_option maxHeartbeats 1000000
/-! sorted(xs) of data of any depth: one ascending list -/
namespace Hue
open PySem PySem.Spec PyProof.Rows L2
theorem each_vals {bs : List (V × PyData)} : ∀ {its : List Value}, Vals (bs.map (·.1)) its → PySem.W.EachIs (fun v (b : V × PyData) => RelV b.1 v) its bs := by
  induction bs with
  | nil => intro its h; cases h; exact .nil
  | cons b bs ih => intro its h; cases h with | cons r t => exact .cons r (ih t)
theorem vals_each {bs : List (V × PyData)} : ∀ {its : List Value}, PySem.W.EachIs (fun v (b : V × PyData) => RelV b.1 v) its bs → Vals (bs.map (·.1)) its := by
  induction bs with
  | nil => intro its h; cases h; exact .nil
  | cons b bs ih => intro its h; cases h with | cons r t => exact .cons r (ih t)
theorem each_in {α β : Type} {R R' : α → β → Prop} {as : List α} {bs : List β} (h : PySem.W.EachIs R as bs) (k : ∀ a b, b ∈ bs → R a b → R' a b) : PySem.W.EachIs R' as bs := by
  induction h with
  | nil => exact .nil
  | cons r t ih => exact .cons (k _ _ List.mem_cons_self r) (ih fun a b m => k a b (List.mem_cons_of_mem _ m))
/-- the pairs in ascending order of their data -/
noncomputable def ascD (bs : List (V × PyData)) : List (V × PyData) := bs.mergeSort (PySem.W.dataLe false (·.2))
section
variable {X : Cx}
def rSortedD (K : PySem.W.Frag) : List V → Hp → VK → Prop := fun vs H Q => ∃ (a : Addr) (bs : List (V × PyData)), vs = [V.ref a] ∧ SqL K H a (bs.map (·.1)) ∧ (∀ b ∈ bs, Dp K H b.1 b.2) ∧ PySem.W.AllAlike (bs.map (·.2)) ∧ PySem.W.Sortable (bs.map (·.2)) ∧ (∀ b ∈ bs, b.2.depth ≤ 60) ∧
  ∀ p, H p = none → Q (.ref p) (upd H p (.lst ((ascD bs).map (·.1))))
theorem cr_sortedD (hu : X.A.units + 65 < cLine) : CallR X (.builtin "sorted") (rSortedD X.K) := by
  intro pins s σ H vs us Q I r h
  obtain ⟨a, bs, rfl, hs, hd, hal, hk, hdep, q⟩ := h
  obtain ⟨its, rv, hl, hz⟩ := I.list hs
  rw [Vals.ref1 r]
  have er0 := each_vals rv
  have er : PySem.W.EachIs (fun v (b : V × PyData) => ∃ as, Reads s.heap v b.2 as) its bs := each_in er0 fun v b m rb => Dp.reads I b.2 b.1 v (hd b m) rb
  have hz' : bs.length ≤ sizeLine := by rw [List.length_map] at hz; exact hz
  refine PySem.W.sorted_data (enc := fun b : V × PyData => b.2) hl.isList er0 er hal hk hz' (fun b hb => by have := hdep b hb; omega) fun out hlen ho => ?_
  obtain ⟨ep, he'⟩ := PyProof.Rows.sortedAll_at s.heap its out.toArray
  have hlen' : ((ascD bs).map (·.1)).length ≤ sizeLine := by
    unfold ascD
    rw [List.length_map, List.length_mergeSort]
    exact hz'
  exact ⟨.ref _, upd H (s.heap.objs.size + 1) (.lst ((ascD bs).map (·.1))), I.laid (t' := s.toks) (fun _ _ => PyProof.Rows.sortedAll_old) (Nat.le_succ _) ⟨hlen', out, ep, vals_each ho, he'⟩, rfl, q _ (I.hok.fresh (Nat.le_succ _))⟩
end
/-- a list in order is the one list of these items in strict order -/
theorem asc_one {α : Type} {lt : α → α → Bool} : ∀ {xs ys : List α}, xs.Perm ys → xs.Pairwise (fun a b => lt b a = false) → ys.Pairwise (fun a b => lt a b = true) → xs = ys
  | [], ys, p, _, _ => (List.Perm.nil_eq p)
  | x :: xs, [], p, _, _ => absurd p.length_eq (by simp)
  | x :: xs, y :: ys, p, h1, h2 => by
    have h1' := List.pairwise_cons.mp h1
    have h2' := List.pairwise_cons.mp h2
    have e : x = y := by
      have a : x ∈ y :: ys := p.mem_iff.mp List.mem_cons_self
      have b : y ∈ x :: xs := p.mem_iff.mpr List.mem_cons_self
      rcases List.mem_cons.mp a with a | a
      · exact a
      · rcases List.mem_cons.mp b with b | b
        · exact b.symm
        · have u := h1'.1 y b
          have v := h2'.1 x a
          rw [u] at v
          cases v
    subst e
    rw [asc_one (p.cons_inv) h1'.2 h2'.2]
theorem ascD_data {bs : List (V × PyData)} {ds : List PyData} (p : (bs.map (·.2)).Perm ds) (s : ds.Pairwise fun a b => PySem.W.dataLt a b = true) : (ascD bs).map (·.2) = ds := by
  refine asc_one (lt := PySem.W.dataLt) (((List.mergeSort_perm bs _).map _).trans p) ?_ s
  have h := PySem.W.sort_pairwise (PySem.W.sortLe_total (listOrd itemOrd) false fun b : V × PyData => PySem.W.keyToks b.2) bs
  refine List.pairwise_map.mpr (h.imp fun {a b} h => ?_)
  have h' : (!PySem.W.dataLt b.2 a.2) = true := h
  simpa using h'
theorem ascD_mem {bs : List (V × PyData)} {b : V × PyData} (h : b ∈ ascD bs) : b ∈ bs := (List.mergeSort_perm bs _).mem_iff.mp h
theorem ascD_dp {K : PySem.W.Frag} {H : Hp} {bs : List (V × PyData)} (h : ∀ b ∈ bs, Dp K H b.1 b.2) : Paired (Dp K H) ((ascD bs).map (·.1)) ((ascD bs).map (·.2)) := by
  have : ∀ xs : List (V × PyData), (∀ b ∈ xs, Dp K H b.1 b.2) → Paired (Dp K H) (xs.map (·.1)) (xs.map (·.2)) := by
    intro xs
    induction xs with
    | nil => intro _; exact .nil
    | cons x xs ih => intro hx; exact .cons (hx x List.mem_cons_self) (ih fun b m => hx b (List.mem_cons_of_mem _ m))
  exact this _ fun b m => h b (ascD_mem m)
/-! ### pairs of a standing and a number -/
structure Stn where
  a : Int
  b : Int
  c : Int
  d : Int
deriving DecidableEq
def stD (x : Stn) : PyData := .tuple [.int x.a, .int x.b, .int x.c, .int x.d]
def stV (x : Stn) : List V := [.int x.a, .int x.b, .int x.c, .int x.d]
def pnD (p : Stn × Int) : PyData := .tuple [stD p.1, .int p.2]
theorem stD_eqv (x y : Stn) : PyData.eqv (stD x) (stD y) = decide (x = y) := by
  obtain ⟨a, b, c, d⟩ := x
  obtain ⟨a', b', c', d'⟩ := y
  have e : PyData.eqv (stD ⟨a, b, c, d⟩) (stD ⟨a', b', c', d'⟩) = ((a == a') && ((b == b') && ((c == c') && ((d == d') && true)))) := by simp only [stD, PyData.eqv, PyData.eqvAll]
  rw [e, Bool.eq_iff_iff]
  simp
theorem pnD_eqv (x y : Stn × Int) : PyData.eqv (pnD x) (pnD y) = decide (x = y) := by
  have e : PyData.eqv (pnD x) (pnD y) = (PyData.eqv (stD x.1) (stD y.1) && ((x.2 == y.2) && true)) := by simp only [pnD, PyData.eqv, PyData.eqvAll]
  obtain ⟨x, n⟩ := x
  obtain ⟨y, m⟩ := y
  rw [e, stD_eqv, Bool.eq_iff_iff]
  simp
theorem stD_lay (x : Stn) : (stD x).canLay0 = true := by simp [stD, PyData.canLay0, PyData.canLayAll0]
theorem pnD_lay (x : Stn × Int) : (pnD x).canLay0 = true := by simp [pnD, stD, PyData.canLay0, PyData.canLayAll0]
theorem stD_depth (x : Stn) : (stD x).depth = 1 := by simp [stD, PyData.depth, PyData.depthAll]
theorem pnD_depth (x : Stn × Int) : (pnD x).depth = 2 := by simp [pnD, stD, PyData.depth, PyData.depthAll]
theorem stD_shaped (x : Stn) : SeqAt.shaped (stD x) = true := by
  show ((stD x).canLay0 && decide ((stD x).depth ≤ 64)) = true
  rw [Bool.and_eq_true]
  exact ⟨stD_lay x, decide_eq_true (by rw [stD_depth]; omega)⟩
theorem pnD_shaped (x : Stn × Int) : SeqAt.shaped (pnD x) = true := by
  show ((pnD x).canLay0 && decide ((pnD x).depth ≤ 64)) = true
  rw [Bool.and_eq_true]
  exact ⟨pnD_lay x, decide_eq_true (by rw [pnD_depth]; omega)⟩
theorem stD_alike (x y : Stn) : PySem.W.alike (stD x) (stD y) = true := by simp [stD, PySem.W.alike, PySem.W.alikeAll]
theorem pnD_alike (x y : Stn × Int) : PySem.W.alike (pnD x) (pnD y) = true := by simp [pnD, stD, PySem.W.alike, PySem.W.alikeAll]
theorem pnD_dp {K : PySem.W.Frag} {H : Hp} {p t : Addr} {x : Stn} {n : Int} (hp : H p = some (.tup [.ref t, .int n])) (ht : H t = some (.tup (stV x))) : Dp K H (.ref p) (pnD (x, n)) :=
  .tup (SqT.of hp) (.cons (.tup (SqT.of ht) (.cons (.int _) (.cons (.int _) (.cons (.int _) (.cons (.int _) .nil))))) (.cons (.int _) .nil))
def stL (x : Stn) : List Int := [x.a, x.b, x.c, x.d]
theorem stD_lt (x y : Stn) : PySem.W.dataLt (stD x) (stD y) = decide (stL x < stL y) := by
  have e : ∀ z : Stn, stD z = .tuple ((stL z).map .int) := fun _ => rfl
  rw [e, e, PySem.W.dataLt_tuple]
  exact PySem.W.dataLt_ints _ _
/-- the order of the pairs -/
theorem pnD_lt (x y : Stn × Int) : PySem.W.dataLt (pnD x) (pnD y) = if x.1 = y.1 then decide (x.2 < y.2) else decide (stL x.1 < stL y.1) := by
  obtain ⟨x, n⟩ := x
  obtain ⟨y, m⟩ := y
  show PySem.W.dataLt (.tuple [stD x, .int n]) (.tuple [stD y, .int m]) = _
  rw [PySem.W.dataLt_pair (stD_alike x y) (by simp [PySem.W.alike]), stD_eqv, stD_lt, PySem.W.dataLt_int]
  have e : PyData.eqv (.int n) (.int m) = decide (n = m) := by simp only [PyData.eqv]; by_cases g : n = m <;> simp [g]
  rw [e]
  by_cases h : x = y
  · rw [decide_eq_true h, if_pos rfl, if_pos h]
    by_cases g : n = m
    · rw [decide_eq_true g, if_pos rfl, g]
      simp
    · rw [decide_eq_false g, if_neg (by simp)]
  · rw [decide_eq_false h, if_neg (by simp), if_neg h]
theorem stD_inj {x y : Stn} (h : stD x = stD y) : x = y := by
  obtain ⟨a, b, c, d⟩ := x
  obtain ⟨a', b', c', d'⟩ := y
  injection h with h
  injection h with h1 h
  injection h with h2 h
  injection h with h3 h
  injection h with h4 h
  injection h1 with h1
  injection h2 with h2
  injection h3 with h3
  injection h4 with h4
  subst h1 h2 h3 h4
  rfl
theorem pnD_inj {x y : Stn × Int} (h : pnD x = pnD y) : x = y := by
  obtain ⟨x, n⟩ := x
  obtain ⟨y, m⟩ := y
  injection h with h
  injection h with h1 h
  injection h with h2 h
  injection h2 with h2
  have h1 : stD x = stD y := h1
  have h2 : n = m := h2
  rw [stD_inj h1, h2]
/-- v is the pair x -/
def PnAt (H : Hp) (v : V) (x : Stn × Int) : Prop := ∃ p t, v = .ref p ∧ H p = some (.tup [.ref t, .int x.2]) ∧ H t = some (.tup (stV x.1))
theorem PnAt.dp {K : PySem.W.Frag} {H : Hp} {v : V} {x : Stn × Int} (h : PnAt H v x) : Dp K H v (pnD x) := by
  obtain ⟨p, t, rfl, h1, h2⟩ := h
  exact pnD_dp h1 h2
theorem asc_pn {H : Hp} : ∀ {cs : List (V × PyData)} {ds : List (Stn × Int)}, (∀ b ∈ cs, ∃ q, b.2 = pnD q ∧ PnAt H b.1 q) → cs.map (·.2) = ds.map pnD → Paired (PnAt H) (cs.map (·.1)) ds
  | [], [], _, _ => .nil
  | [], d :: ds, _, e => by cases e
  | c :: cs, [], _, e => by cases e
  | c :: cs, d :: ds, h, e => by
    rw [List.map_cons, List.map_cons] at e
    injection e with e1 e2
    obtain ⟨q, h1, h2⟩ := h c List.mem_cons_self
    have e3 : q = d := pnD_inj (h1.symm.trans e1)
    exact .cons (e3 ▸ h2) (asc_pn (fun b m => h b (List.mem_cons_of_mem _ m)) e2)
theorem pn_alike {bs : List (V × PyData)} (h : ∀ b ∈ bs, ∃ q : Stn × Int, b.2 = pnD q) : PySem.W.AllAlike (bs.map (·.2)) := by
  intro d hd d' hd'
  obtain ⟨b, m, rfl⟩ := List.mem_map.mp hd
  obtain ⟨b', m', rfl⟩ := List.mem_map.mp hd'
  obtain ⟨q, e⟩ := h b m
  obtain ⟨q', e'⟩ := h b' m'
  rw [e, e']
  exact pnD_alike q q'
theorem pn_sortable {bs : List (V × PyData)} (h : ∀ b ∈ bs, ∃ q : Stn × Int, b.2 = pnD q) : PySem.W.Sortable (bs.map (·.2)) := .inl fun d hd => by
  obtain ⟨b, m, rfl⟩ := List.mem_map.mp hd
  obtain ⟨q, e⟩ := h b m
  exact ⟨stD q.1, [.int q.2], e⟩
theorem pn_depth {b : V × PyData} (h : ∃ q : Stn × Int, b.2 = pnD q) : b.2.depth ≤ 60 := by
  obtain ⟨q, e⟩ := h
  rw [e, pnD_depth]
  omega
end Hue

set_option Elab.async false
set_option linter.all false
set_option maxRecDepth 100000
set_option maxHeartbeats 4000000
/-! an own __iter__ that returns a list's iterator; == of lists of instances with their own == -/
namespace Hue
open PySem PySem.Spec PyProof.Rows L2 ItX
structure OwnIt (K : PySem.W.Frag) (C f : Addr) : Prop where
  at_ : PySem.W.findIn K (.ref C) "__iter__" = some (some (.ref f))
  fn : PySem.W.isFn K (.ref f) = true
theorem OwnM.iter {K : PySem.W.Frag} {C f : Addr} (o : OwnM K C "__iter__" f) : OwnIt K C f := ⟨o.at_, o.fn⟩
/-- a def by its body, entered at s0 -/
theorem fn_here {CX : CXT} {P : Program} {w : World} {K : PySem.W.Frag} {mg : Str → Option Value} {base : Heap} {k : Nat} {x qual : Str} {params : Arguments} {body : List Stmt} {scope : Scope} {f : Addr} {fd : FuncData}
    {N ps : List Str} {A : Around} {out : List Env} {s0 : Shared} {H : Hp} {xs : List Value} {vs : List V} {Q : VK} {E : XK}
    (F : FunD K x qual params body scope [] [] f fd) (S : FnScope N ps scope) (rm : Room (k + 1) A) (en : Env0 P w K mg base A out s0 H) (bd : Binds K fd ps []) (rel : Vals vs xs) (ln : vs.length = ps.length)
    (bod : ∀ cdv, Room k (A.deeper (envOfC qual scope s0.heap.objs.size f cdv)) → ∃ t, PSs (cxOf CX P w K mg base N qual scope f cdv A out s0 H E) body t ∧ t { nx := fun _ H' => Q .non H', rt := Q } (start N vs) H) :
    codeAny (model P w) A (.call (.ref f) ⟨xs, []⟩) (CR CX out P w H s0 Q E) s0 := by
  have kx : K.In s0.heap := en.mod.kin.keeps fun b o z => (en.bs b o z).1
  have nl : s0.heap.NoLimit := en.mod.nolimit.keeps fun b o z => (en.bs b o z).1
  have bt : BindsTo s0 fd ⟨xs, []⟩ (ps.zip xs) := by
    have z := bd s0 xs kx (by rw [List.append_nil, ← rel.length, ln])
    rw [List.append_nil] at z
    exact z
  obtain ⟨oc, od, dV, kV, doc, pm, an, cdv, ct, osl, rfl, lk, hcd, _, _⟩ := F.ex
  have kinds : ∀ y ∈ ps.zip xs, scope.names.lookup y.1 = some .local ∨ (scope.names.lookup y.1 = some .cell ∧ ((cellsFrom (s0.heap.objs.size + 1) scope.names []).lookup y.1).isSome = true) := by
    rintro ⟨n, v⟩ hy
    rcases S.par n (List.of_mem_zip hy).1 with z | z
    · exact .inl z
    · exact .inr ⟨z, PySem.W.cellsFrom_some _ _ _ (.inl z)⟩
  refine codeAny_call_function rm.depth (kx _ _ lk) rfl S.co S.gen rfl (PySem.W.codeRec_of kx hcd) (bt _ _ _ _ ?_)
  refine wpAny_newFunctionEnv_cells S.kind kinds fun en1 e1 s1 fr => ?_
  subst e1
  refine ⟨nl.keeps fr.toInCall.keep, codeAny_func ?_⟩
  obtain ⟨t, pt, q⟩ := bod cdv (rm.deeper _)
  have J : Inv (cxOf CX P w K mg base N qual scope f cdv A out s0 H E) [] (start N vs) H s1 := inv_start S rm.hd en ln rel fr
  refine wpAny_mono (pt.run [] s1 (start N vs) H _ J q) (fun fl s2 z => ?_) fun _ _ z => z
  cases fl with
  | next =>
    obtain ⟨_, H2, J2, q2⟩ := z
    exact ⟨V.non, H2, J2.os, J2.bare, J2.base, J2.hok, rfl, q2⟩
  | ret u =>
    obtain ⟨v, _, H2, J2, r2, q2⟩ := z
    exact ⟨v, H2, J2.os, J2.bare, J2.base, J2.hok, r2, q2⟩
  | brk =>
    obtain ⟨_, _, _, z⟩ := z
    exact z.elim
  | cont =>
    obtain ⟨_, _, _, z⟩ := z
    exact z.elim
/-- such an __iter__: a new iterator over the list at l, for what D says of the two -/
def FnI (P : Program) (w : World) (K : PySem.W.Frag) (mg : Str → Option Value) (base : Heap) (k : Nat) (f : Addr) (D : Addr → Addr → Hp → Prop) : Prop :=
  ∀ (A : Around) (out : List Env) (s0 : Shared) (H : Hp) (a l : Addr) (Q : VK), Room k A → Env0 P w K mg base A out s0 H → D a l H → (∀ it, H it = none → s0.heap.objs.size ≤ it → Q (.ref it) (upd H it (ItO l it 0))) →
    codeAny (model P w) A (.call (.ref f) ⟨[.ref a], []⟩) (CR CX0 out P w H s0 Q E0) s0
section
variable {X : Cx} {k : Nat} {C f : Addr} {D : Addr → Addr → Hp → Prop}
theorem sub_env {n : Nat} {A : Around} {pins : List (Addr × Obj)} {σ : L2.St} {H : Hp} {s : Shared} (sb : Sub X n A) (I : Inv X pins σ H s) : Env0 X.prog X.w X.K X.mg X.base A X.stack s H := by
  have z := I.env0
  refine ⟨?_, z.mod, z.bs, z.bsz, z.funs, z.frf, z.hok, z.bare⟩
  rw [sb.fr]
  exact z.frames
theorem run_iter {pins : List (Addr × Obj)} {σ : L2.St} {H : Hp} {s : Shared} {A : Around} {a l : Addr} {Q : VK} (F : FnI X.prog X.w X.K X.mg X.base k f D) (sb : Sub X k A) (I : Inv X pins σ H s) (hD : D a l H)
    (q : ∀ it, H it = none → s.heap.objs.size ≤ it → Q (.ref it) (upd H it (ItO l it 0))) : wpAny (model X.prog X.w) A (call (.ref f) [.ref a]) (EP X pins σ Q) X.xe s := by
  refine wpAny_call (codeAny_mono (F A X.stack s H a l Q sb.room (sub_env sb I) hD q) fun r s' hq => ?_)
  cases r with
  | error e =>
    obtain ⟨_, _, _, _, _, _, _, _, _, _, _, _, h⟩ := hq
  | ok fl =>
    cases fl with
    | ret u => exact I.after hq
    | next => exact hq.elim
    | brk => exact hq.elim
    | cont => exact hq.elim
theorem owit_list {A : Around} {s : Shared} {l it : Addr} {i : Nat} {Q : Value → Shared → Prop} {Er : Value → Shared → Prop} (e : s.heap.get? it = some (GNX.itObj l i)) (h : Q (.ref it) s) : PySem.W.OwitIt (model X.prog X.w) A Q Er (.ref it) s := by
  have hT : s.TypeIs (.ref it) "list_iterator" := ⟨_, e, rfl⟩
  unfold PySem.W.OwitIt
  exact wpAny_specialOf (name := Str.ofString "__next__") hT slot_listiter_next.lookup h
/-- for x in o, o's own __iter__ -/
def iOwn (K : PySem.W.Frag) (C : Addr) (D : Addr → Addr → Hp → Prop) (ta : TE) : TI := fun σ H R => ta σ H fun x H1 => ∃ a dx fs l, x = .ref a ∧ H1 a = some (.ins C dx fs) ∧ D a l H1 ∧ R (Itl K l) H1
theorem pi_own {tg e : Expr} {ta : TE} (o : OwnIt X.K C f) (F : FnI X.prog X.w X.K X.mg X.base k f D) (hr : Room k X.A) (ha : PE X e ta) : PI X tg e (iOwn X.K C D ta) := by
  refine ⟨fun pins s σ H R I h => ?_⟩
  refine thn (ha.run pins s σ H _ I h) fun u s1 ⟨v, H1, I1, rv, a, dx, fs, l, ev, hi, hD, q⟩ => ?_
  subst ev
  obtain rfl : u = Value.ref a := rv
  obtain ⟨mA, O, _⟩ := ins_get I1.hok hi
  obtain ⟨od, J, _⟩ := O.look
  obtain ⟨m0, Fm⟩ := I1.fr
  refine PySem.W.owit_iter Fm I1.ok.mod.kin J o.at_ o.fn (thn (run_iter (Q := fun v H2 => ∃ it, v = .ref it ∧ H1 it = none ∧ X.s_0.heap.objs.size ≤ it ∧ H2 = upd H1 it (ItO l it 0)) F ⟨hr, rfl⟩ I1 hD fun it hn hs => ⟨it, rfl, hn, Nat.le_trans I1.sz hs, rfl⟩) fun w' s2 hq => ?_)
  obtain ⟨z, H2, I2, rz, it, rfl, hn, young, eH⟩ := hq
  obtain rfl : w' = Value.ref it := rz
  subst eH
  have h2 : upd H1 it (ItO l it 0) it = some (ItO l it 0) := upd_same
  have eo := itO_get I2 h2
  have I3 := inv_drop I2 (φ := fun h => h.get? it = some (GNX.itObj l 0)) h2
  have fp := inv_fp I2 h2 young
  rw [dropH_upd hn] at I3 fp
  refine owit_list eo ⟨it, [it], _, _, H1, rfl, I3, turn_list l it, ⟨_, eo, rfl, rfl⟩, fun b hb => ?_, q⟩
  have e : b = it := by simpa using hb
  rw [e]
  exact fp
/-! list(o) -/
variable {kl : Nat} {fl : Addr} {spL : Sp}
theorem run_sub {pins : List (Addr × Obj)} {σ : L2.St} {H : Hp} {s : Shared} {A : Around} {n : Nat} {g : Addr} {sp : Sp} {us : List Value} {vs : List V} {Q : VK} {Er : Value → Shared → Prop} (F : FnR X.prog X.w X.K X.mg X.base CX0 n g sp) (sb : Sub X n A) (I : Inv X pins σ H s) (r : Vals vs us)
    (h : sp vs H Q E0) : wpAny (model X.prog X.w) A (call (.ref g) us) (EP X pins σ Q) Er s := by
  refine wpAny_call (codeAny_mono (F A X.stack s H us vs Q E0 sb.room (sub_env sb I) r h) fun r s' hq => ?_)
  cases r with
  | error e =>
    obtain ⟨_, _, _, _, _, _, _, _, _, _, _, _, h⟩ := hq
  | ok fl =>
    cases fl with
    | ret u => exact I.after hq
    | next => exact hq.elim
    | brk => exact hq.elim
    | cont => exact hq.elim
/-- the class has __len__, and what it gives is the list's length -/
structure OwnLn (K : PySem.W.Frag) (C f : Addr) : Prop where
  at_ : PySem.W.findIn K (.ref C) "__len__" = some (some (.ref f))
  fn : PySem.W.isFn K (.ref f) = true
theorem hint_own {pins : List (Addr × Obj)} {σ : L2.St} {H : Hp} {s : Shared} {A : Around} {a dx : Addr} {fs : List (Str × V)} {Q : Bool → Shared → Prop} (ol : OwnLn X.K C fl) (F : FnR X.prog X.w X.K X.mg X.base CX0 kl fl spL) (sb : Sub X (kl + 1) A) (I : Inv X pins σ H s)
    (ha : H a = some (.ins C dx fs)) (hsp : spL [.ref a] H (fun v H' => ∃ n : Nat, v = .int n ∧ n < 1000 ∧ H' = H) E0) (h : ∀ b s', Inv X pins σ H s' → Q b s') :
    wpAny (model X.prog X.w) A (Builtin.List.listLengthHint (.ref a)) Q X.xe s := by
  obtain ⟨mA, O, _⟩ := ins_get I.hok ha
  obtain ⟨od, J, _⟩ := O.look
  obtain ⟨m0, Fm⟩ := I.fr
  unfold Builtin.List.listLengthHint
  refine wpAny_bind (wpAny_bind (J.type.here ((PySem.W.looks_findIn I.kIn ol.at_).here ?_)))
  refine PySem.W.KFB.if_not rfl ?_
  refine wpAny_bind (wpAny_rule ?_)
  refine wpAny_bind (wpAny_attempt ?_)
  refine PySem.W.len_K Fm I.ok.mod.kin J ol.at_ ol.fn (thn (run_sub (us := [.ref a]) (vs := [.ref a]) F sb.in1 I (.cons rfl .nil) hsp) fun u s' hq => ?_)
  obtain ⟨z, H', I', rz, n, rfl, hn, eH⟩ := hq
  subst eH
  obtain ⟨t, rfl⟩ := rz
  refine ⟨⟨by omega, by omega⟩, ?_⟩
  have small : ¬ (Builtin.List.listTooLong ((n : Int)).toNat = true) := by
    unfold Builtin.List.listTooLong
    rw [Int.toNat_natCast]
    have : sizeLine = 1099511627776 ∨ 1000 ≤ sizeLine := .inr (by decide)
    simp only [decide_eq_true_eq]
    have h2 : 1000 ≤ sizeLine := by decide
    omega
  refine wpAny_bind (m := asInt? _) (wpAny_pure ?_)
  show wpAny _ _ (if Builtin.List.listTooLong ((n : Int)).toNat = true then _ else _) _ _ _
  rw [if_neg small]
  exact wpAny_pure (h _ _ (I'.tok _))
theorem ext_loop {pins : List (Addr × Obj)} {σ : L2.St} {H0 : Hp} {A1 : Around} {q l it : Addr} {zs : List V} {Rs : Result → Shared → Prop} (hh : A1.in1.handled = none) (nq : H0 q = none) (hl : SqL X.K H0 l zs) (hz : zs.length < sizeLine)
    (done : ∀ s, Inv X pins σ (upd H0 q (.lst zs)) s → Rs (.ok (.ret .none)) s) : ∀ (n i : Nat) (s : Shared), zs.length - i = n → i ≤ zs.length → Inv X pins σ (upd H0 q (.lst (zs.take i))) s → s.heap.IsListIter it l i → FpOk X pins (upd H0 q (.lst (zs.take i))) it →
      codeAny (model X.prog X.w) A1 (.builtin "list.extend.loop" ⟨[.ref q, .ref it, .none], []⟩) Rs s := by
  intro n
  induction n with
  | zero =>
    intro i s hn hi I st fp
    have e : i = zs.length := by omega
    subst e
    rw [List.take_length] at I fp
    have hl2 : SqL X.K (upd H0 q (.lst zs)) l zs := hl.ext (Ext.upd nq)
    obtain ⟨its, rv, p, hs⟩ := I.list hl2
    obtain ⟨f0, f1, f2, f3, f4, f5⟩ := fp
    have ln := rv.length
    refine codeAny_builtin PySem.F.entry_extend_loop ?_
    rw [Around.under_plainId PySem.F.plain_extend_loop _]
    show wpAny _ A1.in1 (pyNext (.ref it) >>= _) _ _ _
    refine wpAny_bind (wpAny_pyNext_list_end hh st p.isList (by simp; omega) fun h' eb => ?_)
    exact wpAny_pure (done _ (I.turned (t' := s.toks) (fun b o hb z => eb b o hb z) f0 f1 f3 f4 f5))
  | succ n ih =>
    intro i s hn hi I st fp
    have hlt : i < zs.length := by omega
    have hl2 : SqL X.K (upd H0 q (.lst (zs.take i))) l zs := hl.ext (Ext.upd nq)
    obtain ⟨its, rv, p, hs⟩ := I.list hl2
    have fp' := fp
    obtain ⟨f0, f1, f2, f3, f4, f5⟩ := fp
    obtain ⟨u, hu, ru⟩ := rv.get (List.getElem?_eq_getElem hlt)
    refine codeAny_builtin PySem.F.entry_extend_loop ?_
    rw [Around.under_plainId PySem.F.plain_extend_loop _]
    show wpAny _ A1.in1 (pyNext (.ref it) >>= _) _ _ _
    refine wpAny_bind (wpAny_pyNext_list_item st p.isList (x := u) (by simpa using hu) fun h' st' sb => ?_)
    have I1 : Inv X pins σ (upd H0 q (.lst (zs.take i))) { s with heap := h' } := I.turned (t' := s.toks) (fun b o hb z => (sb.2 b hb).trans z) f0 f1 f3 f4 f5
    show wpAny _ A1.in1 (updateSeq q (·.push u) >>= _) _ _ _
    obtain ⟨z, its1, k1, r1, hl1, e1⟩ := I1.lstM upd_same
    have len1 : its1.length = i := by
      rw [← r1.length, List.length_take]
      omega
    have snoc : zs.take (i + 1) = zs.take i ++ [zs[i]] := by rw [List.take_add_one, List.getElem?_eq_getElem hlt]; rfl
    refine wpAny_bind (wpAny_updateSeq e1 rfl (wpAny_pure ⟨plainId_quiet PySem.F.plain_extend_loop _, ?_⟩) (by rw [List.size_toArray]; omega) (by show (its1.toArray.push u).size ≤ sizeLine + 1; rw [Array.size_push, List.size_toArray]; omega))
    have I2 := I1.lset (its' := its1 ++ [u]) (ys := zs.take (i + 1)) (t' := s.toks) upd_same e1 (f := (·.push u)) (by simp) (by rw [snoc]; exact r1.append (.cons ru .nil)) (by rw [List.length_take]; omega)
    rw [upd_upd] at I2
    have nq2 : it ≠ q := fun z => by
      rw [z, upd_same] at f0
      cases f0
    refine ih (i + 1) _ (by omega) (by omega) I2 ?_ ⟨?_, fp'.2⟩
    · exact st'.at fun o z => by
        show ((h'.update q _).get? it) = _
        rw [Heap.get?_update_ne _ _ _ _ nq2]
        exact z
    · rw [upd_ne nq2] at f0 ⊢
      exact f0
theorem ext_own {pins : List (Addr × Obj)} {σ : L2.St} {H : Hp} {s : Shared} {A1 : Around} {a q l dx : Addr} {fs : List (Str × V)} {zs : List V} {Rs : Result → Shared → Prop} (oi : OwnIt X.K C f) (FI : FnI X.prog X.w X.K X.mg X.base k f D)
    (ol : OwnLn X.K C fl) (FL : FnR X.prog X.w X.K X.mg X.base CX0 kl fl spL) (hD : ∀ a l H H', Ext H H' → D a l H → D a l H') (hL : ∀ a l H, D a l H → spL [.ref a] H (fun v H' => ∃ n : Nat, v = .int n ∧ n < 1000 ∧ H' = H) E0)
    (sbi : Sub X k A1.in1) (sbl : Sub X (kl + 1) A1.in1) (hh : A1.in1.handled = none) (nq : H q = none) (hd : D a l H) (ha : H a = some (.ins C dx fs)) (hl : SqL X.K H l zs) (hz : zs.length < sizeLine)
    (I : Inv X pins σ (upd H q (.lst [])) s) (done : ∀ s, Inv X pins σ (upd H q (.lst zs)) s → Rs (.ok (.ret .none)) s) (herr : ∀ e s, X.xe e s → Rs (.error e) s) :
    wpAny (model X.prog X.w) A1.in1 (Builtin.List.listExtendWith (.ref q) (.ref a) .none)
      (fun fin s' => match fin with | .done g => Rs (.ok g) s' | .again c => c.quiet = true ∧ codeAny (model X.prog X.w) A1 c Rs s') (fun e s' => Rs (.error e) s') s := by
  have ext : Ext H (upd H q (.lst [])) := Ext.upd nq
  have ha2 := ext _ _ ha
  have hne : q ≠ a := ne_of upd_same ha2 (fun z => nomatch z)
  obtain ⟨mA, O, _⟩ := ins_get I.hok ha2
  obtain ⟨od, J, _⟩ := O.look
  obtain ⟨m0, Fm⟩ := I.fr
  unfold Builtin.List.listExtendWith
  refine wpAny_bind (J.type.here ?_)
  have b1 : Builtin.List.listSameRef (.ref q) (.ref a) = false := by simp [Builtin.List.listSameRef, hne]
  have b2 : (Value.ref C == Value.type "list") = false := rfl
  have b3 : (Value.ref C == Value.type "tuple") = false := rfl
  simp only [b1, b2, b3, Bool.or_false, Bool.false_eq_true, if_false]
  have nq' : ∀ it, upd H q (.lst []) it = none → it ≠ q := fun it hn z => by rw [z, upd_same] at hn; cases hn
  refine wpAny_bind (PySem.W.owit_iter Fm I.ok.mod.kin J oi.at_ oi.fn (wpAny_mono (run_iter (Q := fun v H2 => ∃ it, v = .ref it ∧ upd H q (.lst []) it = none ∧ X.s_0.heap.objs.size ≤ it ∧ H2 = upd (upd H q (.lst [])) it (ItO l it 0)) FI sbi I (hD _ _ _ _ ext hd) fun it hn hs => ⟨it, rfl, hn, Nat.le_trans I.sz hs, rfl⟩) (fun w' s2 hq => ?_) fun e s' he => herr e s' he))
  obtain ⟨z, H2, I2, rz, it, rfl, hn, young, eH⟩ := hq
  obtain rfl : w' = Value.ref it := rz
  subst eH
  have h2 : upd (upd H q (.lst [])) it (ItO l it 0) it = some (ItO l it 0) := upd_same
  have eo := itO_get I2 h2
  refine owit_list eo ?_
  have I2' := I2
  have ext2 : Ext (upd H q (.lst [])) (upd (upd H q (.lst [])) it (ItO l it 0)) := Ext.upd hn
  refine wpAny_bind (wpAny_holding (wpAny_mono (hint_own ol FL sbl I2 (ext2 _ _ ha2) (hL _ _ _ (hD _ _ _ _ ext2 (hD _ _ _ _ ext hd))) (Q := fun _ s' => Inv X pins σ (upd (upd H q (.lst [])) it (ItO l it 0)) s') fun _ _ z => z) (fun b s3 I3 => ?_) fun e s' he => herr e s' he))
  have go : ∀ s4, Inv X pins σ (upd (upd H q (.lst [])) it (ItO l it 0)) s4 → codeAny (model X.prog X.w) A1 (.builtin "list.extend.loop" ⟨[.ref q, .ref it, .none], []⟩) Rs s4 := fun s4 I4 => by
    have eo4 := itO_get I4 h2
    have I5 := inv_drop I4 (φ := fun h => h.get? it = some (GNX.itObj l 0)) h2
    have fp := inv_fp I4 h2 young
    rw [dropH_upd hn] at I5 fp
    exact ext_loop hh nq hl hz done zs.length 0 s4 rfl (Nat.zero_le _) I5 ⟨_, eo4, rfl, rfl⟩ fp
  refine wpAny_ite_split (fun _ => ?_) (fun _ => wpAny_pure ⟨plainId_quiet PySem.F.plain_extend_loop _, go _ I3⟩)
  refine wpAny_bind (wpAny_rule ?_)
  refine wpAny_bind ?_
  show wpAny _ _ (updateSeq q (·.push .none) >>= fun _ => updateSeq q (·.pop)) _ _ _
  have hq3 : upd (upd H q (.lst [])) it (ItO l it 0) q = some (.lst []) := by rw [upd_ne (nq' it hn).symm, upd_same]
  obtain ⟨z4, its, k4, r4, hl4, e4⟩ := I3.lstM hq3
  cases r4
  refine wpAny_bind (wpAny_updateSeq e4 rfl ?_)
  have I6 := I3.lset (f := (·.push Value.none)) (its' := [Value.none]) (ys := [.non]) (t' := s3.toks) hq3 e4 (by simp) (.cons rfl .nil) (by rw [List.length_singleton, sizeLine_eq]; decide)
  obtain ⟨z7, its7, k7, r7, hl7, e7⟩ := I6.lstM upd_same
  obtain ⟨u7, rfl, ru7⟩ := r7.one
  refine wpAny_updateSeq e7 rfl ?_ (by show 1 ≤ sizeLine; rw [sizeLine_eq]; decide) (by show 0 ≤ sizeLine + 1; exact Nat.zero_le _)
  refine wpAny_pure ⟨plainId_quiet PySem.F.plain_extend_loop _, go _ ?_⟩
  have I8 := I6.lset (f := (·.pop)) (its := [u7]) (its' := []) (ys := []) (t' := s3.toks) upd_same e7 (by rfl) .nil (Nat.zero_le _)
  rw [upd_upd] at I8
  have back : upd (upd (upd H q (.lst [])) it (ItO l it 0)) q (.lst []) = upd (upd H q (.lst [])) it (ItO l it 0) := by
    funext b
    by_cases hb : b = q
    · rw [hb, upd_same, hq3]
    · rw [upd_ne hb]
  rw [back] at I8
  exact I8
/-- list(o) -/
def rOwnL (K : PySem.W.Frag) (C : Addr) (D : Addr → Addr → Hp → Prop) : List V → Hp → VK → Prop := fun xs H Q => ∃ a dx fs l zs, xs = [.ref a] ∧ H a = some (.ins C dx fs) ∧ D a l H ∧ SqL K H l zs ∧ zs.length < 1000 ∧ ∀ q, H q = none → Q (.ref q) (upd H q (.lst zs))
theorem call_listI (hc : X.calm = true) (oi : OwnIt X.K C f) (FI : FnI X.prog X.w X.K X.mg X.base k f D)
    (ol : OwnLn X.K C fl) (FL : FnR X.prog X.w X.K X.mg X.base CX0 kl fl spL) (hD : ∀ a l H H', Ext H H' → D a l H → D a l H') (hL : ∀ a l H, D a l H → spL [.ref a] H (fun v H' => ∃ n : Nat, v = .int n ∧ n < 1000 ∧ H' = H) E0)
    (hri : Room (k + 2) X.A) (hrl : Room (kl + 3) X.A) : CallR X (.type "list") (rOwnL X.K C D) := by
  intro pins s σ H xs us Q I rv h
  obtain ⟨a, dx, fs, l, zs, rfl, ha, hd, hl, hz, hq⟩ := h
  obtain ⟨u, rfl, ru⟩ := rv.one
  cases ru
  have sbi : Sub X k X.A.in1.in1 := (Sub.in1 (Sub.in1 (⟨hri, rfl⟩ : Sub X (k + 2) X.A)))
  have sbl : Sub X (kl + 1) X.A.in1.in1 := (Sub.in1 (Sub.in1 (⟨hrl, rfl⟩ : Sub X (kl + 3) X.A)))
  refine callType_codes (Q₁ := fun obj s₁ => obj = .ref s.heap.objs.size ∧ s₁ = { s with heap := s.heap.push { cls := .type "list", data := .seq #[] } }) PySem.F.called_list (PySem.F.typeCall_list_1 _) PySem.F.entry_list_init
    (code_list_new _ ⟨rfl, rfl⟩) fun obj s₁ h₁ => ?_
  obtain ⟨rfl, rfl⟩ := h₁
  have new0 : (s.heap.push { cls := .type "list", data := .seq #[] }).get? s.heap.objs.size = some { cls := .type "list", data := .seq #[] } := Heap.get?_push_size _ rfl
  refine ⟨⟨_, new0, rfl⟩, PySem.F.args_list_init_2 _ _, ?_⟩
  have nq : H s.heap.objs.size = none := I.hok.fresh (Nat.le_refl _)
  have I1 : Inv X pins σ (upd H s.heap.objs.size (.lst [])) { s with heap := s.heap.push { cls := .type "list", data := .seq #[] } } := I.lnew (its := []) (t' := s.toks) .nil (Nat.zero_le _)
  show wpAny _ _ (do let old ← Builtin.List.listItems (.ref s.heap.objs.size); Builtin.List.listUpdate (.ref s.heap.objs.size) (fun _ => #[]); letGo old.toList.reverse; Builtin.List.listExtendWith (.ref s.heap.objs.size) (.ref a) .none) _ _ _
  refine wpAny_bind ?_
  unfold Builtin.List.listItems
  refine wpAny_bind (wpAny_seqItems new0 rfl (wpAny_pure ?_))
  show wpAny _ _ (updateSeq s.heap.objs.size (fun _ => #[]) >>= fun _ => letGo (#[] : Array Value).toList.reverse >>= fun _ => Builtin.List.listExtendWith (.ref s.heap.objs.size) (.ref a) .none) _ _ _
  refine wpAny_bind (wpAny_updateSeq new0 rfl ?_)
  have I2 := I1.lset (f := fun _ => #[]) (its := []) (its' := []) (ys := []) (t' := s.toks) upd_same new0 rfl .nil (Nat.zero_le _)
  rw [upd_upd] at I2
  refine wpAny_bind (wpAny_letGo ?_)
  exact ext_own (A1 := X.A.in1) (Rs := wants (fun r s₂ => r = .none ∧ EP X pins σ Q (.ref s.heap.objs.size) s₂) X.xe) oi FI ol FL hD hL sbi sbl (I.ok.hd hc) nq hd ha hl (Nat.lt_of_lt_of_le hz (by decide)) I2
    (fun s' I' => ⟨rfl, .ref s.heap.objs.size, _, I', rfl, hq _ nq⟩) (fun e s' he => he)
end
end Hue

set_option Elab.async false
set_option linter.all false
set_option maxRecDepth 100000
set_option maxHeartbeats 4000000
/-! == of lists whose items have their own == -/
namespace Hue
open PySem PySem.SeqAt
open AutoSeq1 (wpAny_loadPart')
open MeetsSeq MeetsSeq2 MeetsSeq3 SeqRoads2
open GQ (FinOf)
section
variable {prog : Program} {w : World} {A : Around} {R : Result → Shared → Prop}
/-- at each turn the two lists are read anew: N items each, the i-th two equal, or not and then F -/
def ListB (prog : Program) (w : World) (A : Around) (E : Value → Shared → Prop) (l b : Addr) (N : Nat) (I : Nat → Shared → Prop) (Fl : Shared → Prop) : Prop :=
  ∀ i s, I i s → ∃ (xs ys : Array Value) (n m : Nat), s.heap.get? l = some { cls := .type "list", data := .seq xs n } ∧ s.heap.get? b = some { cls := .type "list", data := .seq ys m } ∧ xs.size = N ∧ ys.size = N ∧
    ∀ (h1 : i < xs.size) (h2 : i < ys.size), wpAny (model prog w) A.in1 (eqBool xs[i] ys[i]) (fun r s' => (r = true ∧ I (i + 1) s') ∨ (r = false ∧ Fl s' ∧ ∃ (xs' ys' : Array Value) (n' m' : Nat), s'.heap.get? l = some { cls := .type "list", data := .seq xs' n' } ∧ s'.heap.get? b = some { cls := .type "list", data := .seq ys' m' } ∧ i < xs'.size ∧ i < ys'.size)) E s
theorem eq_loopB (l b : Addr) (N : Nat) (I : Nat → Shared → Prop) (Fl : Shared → Prop) (hl : ListB prog w A (fun e s' => R (.error e) s') l b N I Fl)
    (yes : ∀ s, I N s → R (.ok (.ret (.bool true))) s) (no : ∀ s, Fl s → R (.ok (.ret (.bool false))) s) (k : Nat) : ∀ i : Nat, N - i = k → i ≤ N → ∀ s, I i s →
      wpAny (model prog w) A.in1 (Builtin.«list.__eq__.loop» ⟨[.ref l, .ref b, rawInt i, rawInt 2], []⟩) (FinOf prog w A R) (fun e s' => R (.error e) s') s := by
  induction k with
  | zero =>
    intro i hk hi s h
    obtain ⟨xs, ys, n, m, g1, g2, z1, z2, _⟩ := hl _ _ h
    have e : i = N := by omega
    have fin : R (.ok (.ret (.bool true))) s := yes s (e ▸ h)
    obtain ⟨hp, g, d, tk, os⟩ := s
    wp_walk using wpAny_loadPart' g1, wpAny_loadPart' g2
    have n1 : xs[((i : Nat) : Int).toNat]? = none := by simp; omega
    have n2 : ys[((i : Nat) : Int).toNat]? = none := by simp; omega
    rw [n1, n2]
    wp_walk using wpAny_loadPart' g1, wpAny_loadPart' g2
    show R (.ok (.ret (.bool (xs.size == ys.size)))) _
    rw [z1, z2]
    simpa using fin
  | succ k ih =>
    intro i hk hi s h
    obtain ⟨xs, ys, n, m, g1, g2, z1, z2, turn⟩ := hl _ _ h
    have l1 : i < xs.size := by omega
    have l2 : i < ys.size := by omega
    have tn := turn l1 l2
    obtain ⟨hp, g, d, tk, os⟩ := s
    wp_walk using wpAny_loadPart' g1, wpAny_loadPart' g2
    have n1 : xs[((i : Nat) : Int).toNat]? = some xs[i] := by simp [l1]
    have n2 : ys[((i : Nat) : Int).toNat]? = some ys[i] := by simp [l2]
    have c1 : ((i : Int) + 1) = ((i + 1 : Nat) : Int) := by omega
    rw [n1, n2]
    refine wpAny_bind (wpAny_mono tn (fun r s2 h2 => ?_) fun _ _ z => z)
    rcases h2 with ⟨rfl, h2⟩ | ⟨rfl, h2, xs', ys', n', m', g3, g4, l3, l4⟩
    · have next := ih (i + 1) (by omega) (by omega) s2 h2
      obtain ⟨hp2, g2', d2, tk2, os2⟩ := s2
      wp_walk
      rw [c1]
      exact ⟨plainId_quiet plain_eq_loop _, codeAny_builtin entry_eq_loop (by
        rw [Around.under_plainId plain_eq_loop _]
        exact next)⟩
    · have fin := no _ h2
      obtain ⟨hp2, g2', d2, tk2, os2⟩ := s2
      wp_walk using wpAny_loadPart' g3, wpAny_loadPart' g4
      have n3 : xs'[((i : Nat) : Int).toNat]? = some xs'[i] := by simp [l3]
      have n4 : ys'[((i : Nat) : Int).toNat]? = some ys'[i] := by simp [l4]
      rw [n3, n4]
      wp_walk
      exact fin
theorem list_eqB (l b : Addr) (N : Nat) (I : Nat → Shared → Prop) (Fl : Shared → Prop) (hl : ListB prog w A (fun e s' => R (.error e) s') l b N I Fl)
    (yes : ∀ s, I N s → R (.ok (.ret (.bool true))) s) (no : ∀ s, Fl s → R (.ok (.ret (.bool false))) s) {s : Shared} (h : I 0 s) :
    wpAny (model prog w) A.in1 (Builtin.«list.__eq__» ⟨[.ref l, .ref b], []⟩) (FinOf prog w A R) (fun e s' => R (.error e) s') s := by
  obtain ⟨xs, ys, n, m, g1, g2, z1, z2, _⟩ := hl _ _ h
  have go := eq_loopB (A := A) (R := R) l b N I Fl hl yes no _ 0 rfl (Nat.zero_le _) s h
  obtain ⟨hp, g, d, tk, os⟩ := s
  have f3 := AutoSeq1.sub_list_list
  have same : ¬ (xs.size != ys.size) = true := by simp [z1, z2]
  wp_walk using wpAny_loadPart' g1, wpAny_loadPart' g2
  exact ⟨plainId_quiet plain_eq_loop _, codeAny_builtin entry_eq_loop (by
    rw [Around.under_plainId plain_eq_loop _]
    exact go)⟩
/-- lists of two lengths are not equal -/
theorem list_neB (l b : Addr) {xs ys : Array Value} {n m : Nat} {s : Shared} (g1 : s.heap.get? l = some { cls := .type "list", data := .seq xs n }) (g2 : s.heap.get? b = some { cls := .type "list", data := .seq ys m })
    (dif : xs.size ≠ ys.size) (no : R (.ok (.ret (.bool false))) s) : wpAny (model prog w) A.in1 (Builtin.«list.__eq__» ⟨[.ref l, .ref b], []⟩) (FinOf prog w A R) (fun e s' => R (.error e) s') s := by
  obtain ⟨hp, g, d, tk, os⟩ := s
  have f3 := AutoSeq1.sub_list_list
  have same : (xs.size != ys.size) = true := by simp [dif]
  wp_walk using wpAny_loadPart' g1, wpAny_loadPart' g2
  exact no
end
section
variable {prog : Program} {w : World} {A : Around} {E : Value → Shared → Prop} {s : Shared}
theorem rc_listB {l b : Addr} {N : Nat} {Q : Value → Shared → Prop} (hu : A.units < cLine) (I : Nat → Shared → Prop) (Fl : Shared → Prop) (hl : ListB prog w A E l b N I Fl)
    (yes : ∀ s, I N s → Q (.bool true) s) (no : ∀ s, Fl s → Q (.bool false) s) (h : I 0 s) : wpAny (model prog w) A (richCompare .Eq (.ref l) (.ref b)) Q E s := by
  obtain ⟨xs, ys, n, m, g1, g2, _, _, _⟩ := hl _ _ h
  refine wpAny_richCompare_same_room (op := .Eq) ⟨_, g1, rfl⟩ ⟨_, g2, rfl⟩ F.slot_list_eq (GQ.call_here F.slot_list_eq ⟨_, g1, rfl⟩ F.entry_list_eq (F.args_list_eq_2 _ _) ?_) hu
  exact list_eqB (R := wants (fun v s' => v ≠ .notImplemented ∧ Q v s') E) l b N I Fl hl (fun s' q => ⟨(fun x => nomatch x), yes s' q⟩) (fun s' q => ⟨(fun x => nomatch x), no s' q⟩) h
theorem rc_listN {l b : Addr} {xs ys : Array Value} {n m : Nat} {Q : Value → Shared → Prop} (hu : A.units < cLine) (g1 : s.heap.get? l = some { cls := .type "list", data := .seq xs n }) (g2 : s.heap.get? b = some { cls := .type "list", data := .seq ys m })
    (dif : xs.size ≠ ys.size) (no : Q (.bool false) s) : wpAny (model prog w) A (richCompare .Eq (.ref l) (.ref b)) Q E s := by
  refine wpAny_richCompare_same_room (op := .Eq) ⟨_, g1, rfl⟩ ⟨_, g2, rfl⟩ F.slot_list_eq (GQ.call_here F.slot_list_eq ⟨_, g1, rfl⟩ F.entry_list_eq (F.args_list_eq_2 _ _) ?_) hu
  exact list_neB (R := wants (fun v s' => v ≠ .notImplemented ∧ Q v s') E) l b g1 g2 dif ⟨(fun x => nomatch x), no⟩
end
end Hue
namespace Hue
open PySem PySem.Spec PyProof.Rows L2
section
variable {X : Cx} {n : Nat} {C f : Addr} {R : Addr → Addr → Hp → Bool → Prop}
/-- what the own == promises: R tells the answer, the heap stays -/
def spEqB (R : Addr → Addr → Hp → Bool → Prop) : Sp := fun vs H Q _ => ∃ a b r, vs = [.ref a, .ref b] ∧ R a b H r ∧ Q (.bl r) H
theorem eqB_ins (F : FnR X.prog X.w X.K X.mg X.base CX0 n f (spEqB R)) (o : OwnM X.K C "__eq__" f) (self : ∀ a H r, R a a H r → r = true) {A : Around} (sb : Sub X n A) {pins : List (Addr × Obj)} {s : Shared} {σ : L2.St} {H : Hp} {a b dx dy : Addr} {fs gs : List (Str × V)} {r : Bool} {E : Value → Shared → Prop}
    (I : Inv X pins σ H s) (ha : H a = some (.ins C dx fs)) (hb : H b = some (.ins C dy gs)) (hr : R a b H r) : wpAny (model X.prog X.w) A (eqBool (.ref a) (.ref b)) (fun z s' => z = r ∧ Inv X pins σ H s') E s := by
  by_cases e : a = b
  · subst e
    rw [self _ _ _ hr]
    exact SeqAt.EqAt.same (A := A) (s := s) (.ref a) X.prog X.w E _ ⟨rfl, I⟩
  · obtain ⟨mA, O, _⟩ := ins_get I.hok ha
    obtain ⟨mB, O', _⟩ := ins_get I.hok hb
    obtain ⟨od, J, _⟩ := O.look
    obtain ⟨od', J', _⟩ := O'.look
    obtain ⟨m, Fm⟩ := I.fr
    refine GQ.eqBool_refG e (PySem.W.cmp_K (op := .Eq) (tb := .ref C) sb.room.units0 Fm I.ok.mod.kin J J'.type (by simp [PySem.W.notFirst]) o.at_ o.fn (wpAny_mono (run_sub (us := [.ref a, .ref b]) (vs := [.ref a, .ref b]) (Q := fun v H' => v = .bl r ∧ H' = H) F sb I (.cons rfl (.cons rfl .nil)) ⟨a, b, r, rfl, hr, rfl, rfl⟩) (fun u s' hq => ?_) fun _ _ z => z))
    obtain ⟨z, H', I', rz, rfl, rfl⟩ := hq
    obtain rfl : u = Value.bool r := rz
    exact SlX.cmpback (z := V.bl r) rfl ⟨r, rfl, rfl, I'⟩
/-- the items of the two lists, one by one, by the own == -/
def rEqLB (C : Addr) (R : Addr → Addr → Hp → Bool → Prop) : R2 := fun x y H Q => ∃ (a b : Addr) (xs ys : List Addr) (r : Bool), x = .ref a ∧ y = .ref b ∧ H a = some (.lst (xs.map V.ref)) ∧ H b = some (.lst (ys.map V.ref)) ∧
  ((xs.length ≠ ys.length ∧ r = false) ∨ (xs.length = ys.length ∧ ∃ g : Nat → Bool, (∀ i p q, xs[i]? = some p → ys[i]? = some q → ∃ dx dy fs gs, H p = some (.ins C dx fs) ∧ H q = some (.ins C dy gs) ∧ R p q H (g i)) ∧ r = (List.range xs.length).all g)) ∧ Q (.bl r) H
theorem op_eqLB (F : FnR X.prog X.w X.K X.mg X.base CX0 n f (spEqB R)) (o : OwnM X.K C "__eq__" f) (self : ∀ a H r, R a a H r → r = true) (hr : Room (n + 1) X.A) : OpR X (compareOp .Eq) (rEqLB C R) := by
  intro pins s σ H x y v u Q I rx ry h
  obtain ⟨a, b, xs, ys, r, rfl, rfl, ha, hb, hd, q⟩ := h
  obtain rfl : v = Value.ref a := rx
  obtain rfl : u = Value.ref b := ry
  show wpAny (model X.prog X.w) X.A (richCompare .Eq (.ref a) (.ref b)) (EP X pins σ Q) X.xe s
  rcases hd with ⟨dif, rfl⟩ | ⟨same, g, turn, rfl⟩
  · obtain ⟨z, its, k, rv, e⟩ := I.hok a _ ha
    obtain ⟨z2, its2, k2, rv2, e2⟩ := I.hok b _ hb
    refine rc_listN hr.units0 e e2 ?_ ⟨.bl false, H, I, rfl, q⟩
    rw [List.size_toArray, List.size_toArray, ← rv.length, ← rv2.length, List.length_map, List.length_map]
    exact dif
  · refine rc_listB (N := xs.length) hr.units0 (fun i s' => Inv X pins σ H s' ∧ i ≤ xs.length ∧ ∀ j, j < i → g j = true) (fun s' => Inv X pins σ H s' ∧ ∃ j, j < xs.length ∧ g j = false) (fun i s' ⟨I1, hi, hj⟩ => ?_) (fun s' ⟨I1, _, hj⟩ => ?_) (fun s' ⟨I1, j, h1, h2⟩ => ?_) ⟨I, Nat.zero_le _, fun j hj => absurd hj (Nat.not_lt_zero _)⟩
    · obtain ⟨z, its, k, rv, e⟩ := I1.hok a _ ha
      obtain ⟨z2, its2, k2, rv2, e2⟩ := I1.hok b _ hb
      have ln := rv.length
      have ln2 := rv2.length
      rw [List.length_map] at ln ln2
      refine ⟨its.toArray, its2.toArray, k, k2, e, e2, by rw [List.size_toArray, ← ln], by rw [List.size_toArray, ← ln2, same], fun h1 h2 => ?_⟩
      have k1 : i < xs.length := by rw [List.size_toArray] at h1; omega
      have k2' : i < ys.length := by omega
      have m1 : (xs.map V.ref)[i]? = some (.ref xs[i]) := by rw [List.getElem?_map, List.getElem?_eq_getElem k1]; rfl
      have m2 : (ys.map V.ref)[i]? = some (.ref ys[i]) := by rw [List.getElem?_map, List.getElem?_eq_getElem k2']; rfl
      obtain ⟨u1, q1, r1⟩ := rv.get m1
      obtain ⟨u2, q2, r2⟩ := rv2.get m2
      obtain rfl : u1 = Value.ref xs[i] := r1
      obtain rfl : u2 = Value.ref ys[i] := r2
      have w1 : its.toArray[i] = Value.ref xs[i] := by
        have z1 : i < its.length := by omega
        rw [List.getElem?_eq_getElem z1] at q1
        simpa using Option.some.inj q1
      have w2 : its2.toArray[i] = Value.ref ys[i] := by
        have z1 : i < its2.length := by omega
        rw [List.getElem?_eq_getElem z1] at q2
        simpa using Option.some.inj q2
      rw [w1, w2]
      obtain ⟨dx, dy, fs, gs, p1, p2, p3⟩ := turn i _ _ (List.getElem?_eq_getElem k1) (List.getElem?_eq_getElem k2')
      have sb : Sub X n X.A.in1 := Sub.in1 (⟨hr, rfl⟩ : Sub X (n + 1) X.A)
      refine wpAny_mono (eqB_ins F o self sb I1 p1 p2 p3) (fun t s2 ⟨e3, I2⟩ => ?_) fun _ _ z => z
      subst e3
      cases hg : g i with
      | true =>
        refine .inl ⟨rfl, I2, k1, fun j hj2 => ?_⟩
        by_cases ej : j = i
        · rw [ej]; exact hg
        · exact hj j (by omega)
      | false =>
        obtain ⟨z3, its3, k3, rv3, e3⟩ := I2.hok a _ ha
        obtain ⟨z4, its4, k4, rv4, e4⟩ := I2.hok b _ hb
        have ln3 := rv3.length
        have ln4 := rv4.length
        rw [List.length_map] at ln3 ln4
        exact .inr ⟨rfl, ⟨I2, i, k1, hg⟩, its3.toArray, its4.toArray, k3, k4, e3, e4, by rw [List.size_toArray]; omega, by rw [List.size_toArray]; omega⟩
    · have e : (List.range xs.length).all g = true := List.all_eq_true.mpr fun j hj2 => hj j (List.mem_range.mp hj2)
      rw [e] at q
      exact ⟨.bl true, H, I1, rfl, q⟩
    · have e : (List.range xs.length).all g = false := by
        rw [List.all_eq_false]
        exact ⟨j, List.mem_range.mpr h1, by rw [h2]; simp⟩
      rw [e] at q
      exact ⟨.bl false, H, I1, rfl, q⟩
end
/-- C() -/
theorem pe_makeR0 {X : Cx} {CX : CXT} {k : Nat} {f C : Addr} {sp : Sp} {E : XK} {x : Str} {p pos : Pos} (M : Mk X.K C f) (F : FnR X.prog X.w X.K X.mg X.base CX k f sp) (hr : Room (k + 1) X.A) (hg : Gl X x) (hm : X.mg x = some (.ref C)) (hx : Passes CX X E) (hd : (x == ("__debug__" : Str)) = false := by decide) :
    PE X (.Call (.Name x p) [] [] pos) (StX.tMakeR C sp E tNil) := by
  refine ⟨fun pins s σ H Q I h => wpAny_Call_Name_kw (ld_glob I hg hm ?_ hd)⟩
  exact PySem.W.callWith_K0 I.kIn M.kp (StX.run_makeR (us := []) M F hr hx I .nil h)
theorem opR_or {X : Cx} {o : Value → Value → Sem Value} {r1 r2 : R2} (h1 : OpR X o r1) (h2 : OpR X o r2) : OpR X o (fun x y H Q => r1 x y H Q ∨ r2 x y H Q) := by
  intro pins s σ H x y v u Q I rx ry h
  rcases h with h | h
  · exact h1 pins s σ H x y v u Q I rx ry h
  · exact h2 pins s σ H x y v u Q I rx ry h
end Hue

set_option Elab.async false
set_option linter.all false
set_option maxRecDepth 100000
set_option maxHeartbeats 4000000
/-! enumerate(o), o with an own __iter__ that gives a list's iterator -/
namespace Hue
open PySem PySem.Spec PyProof.Rows L2 ItX
theorem meets_enumI {prog : Program} {w : World} {v : Value} : MeetsIn prog w (Builtin.«enumerate.__new__» ⟨[.type "enumerate", v], []⟩) (fun A R s => wpAny (model prog w) A.in1 (pyIter v) (fun u s1 => ∃ it, u = .ref it ∧
      R (.ok (.ret (.ref s1.heap.objs.size))) { s1 with heap := s1.heap.push { cls := .type "enumerate", data := .fields #[.none, .bool false, .ref it, rawInt 0, .none, .none] } }) (fun e s' => R (.error e) s') s) :=
  .of_wp fun A R s h => by
    obtain ⟨hp, g, d, tk, os⟩ := s
    have hsub := sub_enumerate
    have q1 : ∀ {Q : Value → Shared → Prop}, (∀ it s1, R (.ok (.ret (.ref s1.heap.objs.size))) { s1 with heap := s1.heap.push { cls := .type "enumerate", data := .fields #[.none, .bool false, .ref it, rawInt 0, .none, .none] } } → Q (.ref it) s1) →
        wpAny (model prog w) A.in1 (pyIter v) Q (fun e s' => R (.error e) s') ⟨hp, g, d, tk, os⟩ := fun k => wpAny_mono h (fun u s1 ⟨it, e, r⟩ => e ▸ k it s1 r) fun _ _ z => z
    wp_walk
    refine wpAny_stack_any fun st => wpAny_pure ?_
    split
    · rename_i c _ _ _ _ _
      cases (c == Value.type "enumerate")
      · wp_walk using q1
        intro it s1 r
        wp_walk
        exact ⟨_, rfl, r⟩
      · wp_walk using q1
        intro it s1 r
        wp_walk
        exact ⟨_, rfl, r⟩
    · wp_walk using q1
      intro it s1 r
      wp_walk
      exact ⟨_, rfl, r⟩
section
variable {X : Cx} {k : Nat} {C f : Addr} {D : Addr → Addr → Hp → Prop}
/-- for i, x in enumerate(o) -/
def iEnumO (K : PySem.W.Frag) (C : Addr) (D : Addr → Addr → Hp → Prop) (ta : TA) : TI := fun σ H R => ta σ H fun vs H1 => ∃ a dx fs l, vs = [.ref a] ∧ H1 a = some (.ins C dx fs) ∧ D a l H1 ∧ R (Ite K l) H1
theorem pi_enumO {e : Expr} {ta : TA} {p pos tpos : Pos} {elts : List Expr} {kk : Nat} (hg : Gl X "enumerate") (hm : X.mg "enumerate" = none) (o : OwnIt X.K C f) (FI : FnI X.prog X.w X.K X.mg X.base k f D) (hr : Room (k + 2) X.A) (ha : PA X [e] ta)
    (hs : starEach [e] X.env = [(false, eval e X.env)] := by rfl) : PI X (.Tuple elts kk tpos) (.Call (.Name "enumerate" p) [e] [] pos) (iEnumO X.K C D ta) := by
  refine ⟨fun pins s σ H R I h => ?_⟩
  refine Call_ (ld_blt I hg hm boot_enumerate (PyProof.Rows.callWith_type1 (thn (ha.run pos pins s σ H _ I h) fun us s1 ⟨vs, H1, I1, r1, q1⟩ => ?_) hs rfl))
  obtain ⟨a, dx, fs, l, ev, hi, hD, q⟩ := q1
  subst ev
  obtain ⟨u, rfl, ru⟩ := r1.one
  cases ru
  obtain ⟨mA, O, _⟩ := ins_get I1.hok hi
  obtain ⟨od, J, _⟩ := O.look
  obtain ⟨m0, Fm⟩ := I1.fr
  have sb : Sub X k X.A.in1.in1 := Sub.in1 (Sub.in1 (⟨hr, rfl⟩ : Sub X (k + 2) X.A))
  refine callType_newIn F.called_enumerate (by decide) (F.typeCall_enumerate_1 _) (F.newCall_enumerate_1 _) (fun obj => F.args_object_init_2 obj _) F.entry_enumerate_new meets_enumI ?_
  refine PySem.W.owit_iter Fm I1.ok.mod.kin J o.at_ o.fn (wpAny_mono (run_iter (Q := fun v H2 => ∃ it, v = .ref it ∧ H1 it = none ∧ X.s_0.heap.objs.size ≤ it ∧ H2 = upd H1 it (ItO l it 0)) FI sb I1 hD fun it hn hs => ⟨it, rfl, hn, Nat.le_trans I1.sz hs, rfl⟩) (fun w' s2 hq => ?_) fun e s' he => he)
  obtain ⟨z, H2, I2, rz, it, rfl, hn, young, eH⟩ := hq
  obtain rfl : w' = Value.ref it := rz
  subst eH
  have h2 : upd H1 it (ItO l it 0) it = some (ItO l it 0) := upd_same
  have eo := itO_get I2 h2
  have I3 := inv_drop I2 (φ := fun h => h.get? it = some (GNX.itObj l 0)) h2
  have fp := inv_fp I2 h2 young
  rw [dropH_upd hn] at I3 fp
  refine owit_list eo ⟨it, rfl, ?_⟩
  have hlt : it < s2.heap.objs.size := Heap.lt_size eo
  have he : IsEnum (s2.heap.push { cls := .type "enumerate", data := .fields #[.none, .bool false, .ref it, rawInt 0, .none, .none] }) s2.heap.objs.size it 0 .none := Heap.get?_push_size _ rfl
  have hit : (s2.heap.push { cls := .type "enumerate", data := .fields #[.none, .bool false, .ref it, rawInt 0, .none, .none] }).IsListIter it l 0 := ⟨_, Heap.get?_push_of_some _ eo, rfl, rfl⟩
  refine ⟨⟨_, he, rfl⟩, wpAny_pyIter_enum he ?_⟩
  have I4 : Inv X pins σ H1 { s2 with heap := s2.heap.push { cls := .type "enumerate", data := .fields #[.none, .bool false, .ref it, rawInt 0, .none, .none] } } := I3.kept (t' := s2.toks) fun b ob e => Heap.get?_push_of_some _ e
  refine ⟨s2.heap.objs.size, [s2.heap.objs.size, it], _, _, H1, rfl, I4, turn_enum l s2.heap.objs.size it, ⟨⟨.none, he⟩, hit, Nat.ne_of_gt hlt⟩, fun b hb => ?_, q⟩
  have e' : b = s2.heap.objs.size ∨ b = it := by simpa using hb
  rcases e' with z | z
  · rw [z]
    exact I3.fpOk (Nat.le_refl _) (I3.hok.fresh (Nat.le_refl _))
  · rw [z]
    exact fp
end
end Hue

set_option Elab.async false
set_option linter.all false
set_option maxRecDepth 100000
set_option maxHeartbeats 1000000
/-! a method's call in a try body: what it lets out is wished of the slots as they are; errors with two fields -/
namespace Hue
open PySem PySem.Spec PyProof.Rows L2
def tMethS (C : Addr) (m : Str) (sp : Sp) (W : WX) (ta : TE) (t : TA) : TE := fun σ H Q => tMeth C m sp [] (eS W σ) ta t σ H Q
section
variable {X : Cx} {k : Nat} {C f : Addr} {m : Str} {sp : Sp} {W : WX} {o e : Expr} {es : List Expr} {apos pos : Pos} {ta : TE} {t : TA}
theorem pe_methS {pl : Sem Bool} (he : PE X o ta) (c : Cls X.K C) (hm : Meth X.K C m f) (F : FnR X.prog X.w X.K X.mg X.base (L2.CX X.prog X.w) k f sp) (hr : Room k X.A) (tk : Takes X W) (ha : PA X (e :: es) t)
    (hst : starEach (e :: es) X.env = (false, eval e X.env) :: starEach es X.env := by rfl) (hpl : (backTo pos (starEach es X.env)).any (·.1) = false := by rfl)
    (ht : eval (.Call (.Attribute o m apos) (e :: es) [] pos) X.env = (do
      let ov ← eval o X.env
      standAt apos.atName
      let (f, first) ← holding [ov] (getMethod ov m pl)
      callWith pos f first (backTo pos (starEach (e :: es) X.env)) (backToKw pos (keywordEach [] X.env))) := by rfl) :
    PE X (.Call (.Attribute o m apos) (e :: es) [] pos) (tMethS C m sp W ta t) := by
  refine ⟨fun pins s σ H Q I h => ?_⟩
  refine PySem.W.methodCall_KW (pl := pl) (thn (he.run pins s σ H _ I h) fun u s1 ⟨x, H1, I1, rx, a, dx, fs, ex, ea, l, q⟩ => ?_) ht
  subst ex
  obtain rfl : u = Value.ref a := rx
  refine getmeth_ok I1 ea c hm l ?_
  refine PySem.W.callWith_K (first := [.ref a]) (h₀ := X.base) I.ok.mod.kin hm.kp (thn (ha.run pos pins s1 σ H1 _ I1 q) fun us s2 ⟨vs, H2, I2, r, q2⟩ => ⟨I2.kIn, ?_⟩) hst hpl
  have q3 : sp (V.ref a :: (vs ++ [])) H2 Q (eS W σ) := q2
  rw [List.append_nil] at q3
  exact wpAny_call (run_fnRp (Q := Q) (us := .ref a :: us) (vs := .ref a :: vs) F hr (passS tk I2) I2 (.cons rfl r) q3)
theorem pe_methSK {K : PySem.W.Frag} (e0 : X.K = K) {pl : Sem Bool} (he : PE X o ta) (c : Cls K C) (hm : Meth K C m f) (F : FnR X.prog X.w K X.mg X.base (L2.CX X.prog X.w) k f sp) (hr : Room k X.A) (tk : Takes X W) (ha : PA X (e :: es) t)
    (hst : starEach (e :: es) X.env = (false, eval e X.env) :: starEach es X.env := by rfl) (hpl : (backTo pos (starEach es X.env)).any (·.1) = false := by rfl)
    (ht : eval (.Call (.Attribute o m apos) (e :: es) [] pos) X.env = (do
      let ov ← eval o X.env
      standAt apos.atName
      let (f, first) ← holding [ov] (getMethod ov m pl)
      callWith pos f first (backTo pos (starEach (e :: es) X.env)) (backToKw pos (keywordEach [] X.env))) := by rfl) :
    PE X (.Call (.Attribute o m apos) (e :: es) [] pos) (tMethS C m sp W ta t) := by
  subst e0
  exact pe_methS (pl := pl) he c hm F hr tk ha hst hpl ht
end
section
variable {X : Cx} {D : Addr} {K : PySem.W.Frag}
theorem call_isDK (e0 : X.K = K) (C : ExcC K D) : CallR X (.builtin "isinstance") (rIsD K D) := by
  subst e0
  exact call_isD C
theorem pe_xvK (e0 : X.K = K) {e : Expr} {te : TE} {pos : Pos} {n : Str} (C : ExcC K D) (hno : PySem.W.findIn K (.ref D) n = some none) (he : PE X e te) (hb : attributeBase e n X.env (eval e X.env) = eval e X.env := by rfl) : PE X (.Attribute e n pos) (tXv D n te) := by
  subst e0
  exact pe_xv C hno he hb
end
/-- an error's __init__ that keeps two fields -/
def spEx2 (K : PySem.W.Frag) (C : Addr) (n m : Str) : Sp := fun vs H Q _ => ∃ (a : Addr) (v u : V), vs = [.ref a, v, u] ∧ H a = some (exo a C none) ∧ ∀ dx, H dx = none → dx ≠ a → Q .non (upd (upd H dx (exd dx [(m, u), (n, v)])) a (exo a C (some dx)))
theorem mkO2 {K : PySem.W.Frag} {C : Addr} {n m : Str} {v u : V} {H : Hp} {E : XK} (k : ∀ dd H', H dd = none → Same H H' → H' dd = some (.xd [(m, u), (n, v)]) → E (.ref C) (some dd) H') :
    [v, u].length ≤ 1000 ∧ ∀ a, H a = none → spEx2 K C n m (.ref a :: ([v, u] ++ [])) (upd H a (exo a C none))
      (fun w H2 => w = .non ∧ ∃ (d : Addr) (fs : List (Str × V)), H2 a = some (exo a C (some d)) ∧ H2 d = some (exd d fs) ∧ H d = none ∧ E (.ref C) (some d) (upd (L2.del H2 a) d (.xd fs))) (fun _ _ _ => False) := by
  refine ⟨(by decide : 2 ≤ 1000), fun a na => ⟨a, v, u, rfl, upd_same, fun dx nd ne => ⟨rfl, dx, [(m, u), (n, v)], upd_same, ?_, ?_, ?_⟩⟩⟩
  · rw [upd_ne ne, upd_same]
  · rw [upd_ne ne] at nd; exact nd
  · have nd' : H dx = none := by rw [upd_ne ne] at nd; exact nd
    refine k dx _ nd' (fun b o e => ?_) upd_same
    have b1 : b ≠ a := ne_of_none e na
    have b2 : b ≠ dx := ne_of_none e nd'
    rw [upd_ne b2, L2.del_ne b1, upd_ne b1, upd_ne b2, upd_ne b1]
    exact e
theorem upd_swap {H : Hp} {a dx : Addr} {o o' u : HO} (ne : dx ≠ a) : upd (upd (upd H dx o) a u) dx o' = upd (upd H dx o') a u := by
  funext b
  by_cases h1 : b = dx
  · rw [h1, upd_same, upd_ne ne, upd_same]
  · by_cases h2 : b = a
    · rw [h2, upd_ne (Ne.symm ne), upd_same, upd_same]
    · rw [upd_ne h1, upd_ne h2, upd_ne h1, upd_ne h2, upd_ne h1]
/-! ### the addresses that the head looks at, found by a mask (eraseDups costs the kernel N * N) -/
def bitIn (m a : Nat) : Bool := Nat.beq (Nat.land (Nat.shiftRight m a) 1) 1
/-- the new ones of as, ahead of what was found -/
def newM : List Addr → Nat → List Addr → Nat × List Addr
  | [], m, f => (m, f)
  | a :: r, m, f => match bitIn m a with
    | true => newM r m f
    | false => newM r (Nat.lor m (Nat.shiftLeft 1 a)) (a :: f)
def outM (g : Addr → Option Obj) : List Addr → Nat → List Addr → Nat × List Addr
  | [], m, f => (m, f)
  | a :: r, m, f => match g a with
    | some o => match newM (He.refsD o) m f with
      | (m', f') => outM g r m' f'
    | none => outM g r m f
def walkM (g : Addr → Option Obj) : Nat → Nat → List Addr → List Addr → List Addr
  | 0, _, _, all => all
  | n + 1, m, fr, all => match outM g fr m [] with
    | (m', f') => walkM g n m' f' (all ++ f')
def asM (g : Addr → Option Obj) (n : Nat) : List Addr := walkM g n (Nat.shiftLeft 1 mainGlobals) [mainGlobals] [mainGlobals]
def obsMG (n : Nat) (fa : List He.Fa) (fx : List Fx) (ds : List DX) (g : Addr → Option Obj) : AlX := obsX fa fx ds (He.frG g (cStatics :: asM g n))
def hookM (n : Nat) (fa : List He.Fa) (fx : List Fx) (ds : List DX) : PySem.W.Hook where
  α := AlX
  obs := fun s => obsMG n fa fx ds s.heap.get?
  val := fun _ => valX ds
  says := fun _ h => ∃ K : PySem.W.Frag, K.In h ∧ SaysX fa fx ds K
  of := fun _ _ e => ⟨_, He.frG_in, e⟩
  keeps := fun _ _ _ ⟨K, hK, c⟩ k => ⟨K, PySem.W.Frag.In.keeps hK k, c⟩
theorem obsMG_eq {n : Nat} {fa : List He.Fa} {fx : List Fx} {ds : List DX} {g : Addr → Option Obj} {s : Shared} (h : ∀ a, g a = s.heap.get? a) : obsMG n fa fx ds g = (hookM n fa fx ds).obs s := by
  cases (funext h : g = s.heap.get?)
  rfl
end Hue

set_option Elab.async false
set_option linter.all false
set_option maxRecDepth 100000
set_option maxHeartbeats 1000000
/-! cls(e, k = v, ..) where a slot holds the class; text.replace(pair[0], pair[1]) where pair goes through a written list of pairs -/
namespace Hue
open PySem PySem.Spec PyProof.Rows L2
def tMakeLK (i : Nat) (C : Addr) (n m : Nat) (sp : Sp) (gV : List V → List V → List V) (E : XK) (t tk : TA) : TE := fun σ H Q => σ[i]? = some (some (.ref C)) ∧ tMakeK C n m sp gV E t tk σ H Q
theorem pe_makeLpK {X : Cx} {CX : CXT} {k n i : Nat} {f C : Addr} {fd : FuncData} {ps ks : List Str} {sp : Sp} {E : XK} {x : Str} {p pos : Pos} {e : Expr} {es : List Expr} {kws : List Keyword} {t tk : TA} {g : List Value → List Value → List Value} {gV : List V → List V → List V}
    (M : Mk X.K C f) (F : FnOk X.prog X.w X.K X.mg X.base CX k f fd ps sp) (hr : Room (k + 1) X.A) (hN : X.N[i]? = some x) (hv : Vis X.env.scope x) (hb : KBn X.K fd ps (n + 1) ks g gV) (hx : Passes CX X E) (ha : PA X (e :: es) t) (hkw : PK X kws tk)
    (hall : (backToKw pos (keywordEach kws X.env)).all (·.1.isSome) = true := by rfl) (hks : (backToKw pos (keywordEach kws X.env)).filterMap (·.1) = ks := by rfl) (hd : (x == ("__debug__" : Str)) = false := by decide) (hcd : (x == ("__classdict__" : Str)) = false := by decide)
    (he : starEach (e :: es) X.env = (false, eval e X.env) :: starEach es X.env := by rfl) (hpl : ((backTo pos (starEach (e :: es) X.env)).any (·.1) || (backToKw pos (keywordEach kws X.env)).any (·.1.isNone)) = false := by rfl) :
    PE X (.Call (.Name x p) (e :: es) kws pos) (tMakeLK i C n ks.length sp gV E t tk) := by
  refine ⟨fun pins s σ H Q I h => ?_⟩
  obtain ⟨hs, h⟩ := h
  refine wpAny_Call_Name_kw (thn ((pe_var (pos := p) (i := i) hN hv hd hcd).run pins s σ H (fun v H1 => v = .ref C ∧ H1 = H) I ⟨.ref C, hs, rfl, rfl⟩) fun u s1 ⟨v, H1, I1, r1, ev, eH⟩ => ?_)
  subst ev
  rw [eH] at I1
  cases r1
  refine PySem.W.callWith_KW (h₀ := X.base) I1.ok.mod.kin M.kp hall (thn (ha.run pos pins s1 σ H _ I1 h) fun us s2 ⟨vs, H2, I2, r, q⟩ => ?_) hpl he
  refine thn (hkw.run pos pins s2 σ H2 _ I2 q) fun ws s3 ⟨zs, H3, I3, rz, l1, l2, q2⟩ => ⟨I3.kIn, ?_⟩
  rw [hks]
  exact run_makeK M F hr hb hx I3 r rz l1 l2 q2
/-! ### a token is out -/
/-- as PE, and behind it a token is out -/
def PEt (X : Cx) (e : Expr) (t : TE) : Prop :=
  ∀ (pins : List (Addr × Obj)) (s : Shared) (σ : L2.St) (H : Hp) (Q : VK), Inv X pins σ H s → t σ H Q → wpAny (model X.prog X.w) X.A (eval e X.env) (fun u s' => 1 ≤ s'.toks ∧ EP X pins σ Q u s') X.xe s
section
variable {X : Cx}
theorem pet_str {x : Str} {j : Nat} {pos : Pos} : PEt X (.Constant (.str x) j pos) (tC (.str x)) := by
  intro pins s σ H Q I h
  exact Calls.Constant_str ⟨Nat.le_add_left _ _, .str x, H, I.tok (s.toks + 1), ⟨s.toks, rfl⟩, h⟩
theorem toks_keep {α : Type} {M : Model} {A : Around} {t : Sem α} {Q : α → Shared → Prop} {E : Value → Shared → Prop} {s : Shared} (h1 : 1 ≤ s.toks) (h : wpAny M A t Q E s) : wpAny M A t (fun a s' => 1 ≤ s'.toks ∧ Q a s') E s :=
  wpAny_mono (PySem.wpAny_toks h) (fun a s' q => ⟨Nat.le_trans h1 q.1, q.2⟩) fun _ _ q => q.2
theorem pet_opr {op : Operator} {a b : Expr} {ta tb : TE} {pos : Pos} {r : R2} (ho : OpR X (binaryOp op) r) (ha : PE X a ta) (hb : PEt X b tb) : PEt X (.BinOp a op b pos) (tOp r ta tb) := by
  intro pins s σ H Q I h
  refine wpAny_BinOp (thn (ha.run pins s σ H _ I h) fun v s1 ⟨x, H1, I1, r1, q1⟩ => ?_)
  refine thn (hb pins s1 σ H1 _ I1 q1) fun u s2 ⟨h2, y, H2, I2, r2, q2⟩ => ?_
  exact toks_keep h2 (ho pins s2 σ H2 x y v u Q I2 r1 r2 q2)
theorem pet_opl {op : Operator} {a b : Expr} {ta tb : TE} {pos : Pos} {r : R2} (ho : OpR X (binaryOp op) r) (ha : PEt X a ta) (hb : PE X b tb) : PEt X (.BinOp a op b pos) (tOp r ta tb) := by
  intro pins s σ H Q I h
  refine wpAny_BinOp (thn (ha pins s σ H _ I h) fun v s1 ⟨h1, x, H1, I1, r1, q1⟩ => ?_)
  refine thn (toks_keep h1 (hb.run pins s1 σ H1 _ I1 q1)) fun u s2 ⟨h2, y, H2, I2, r2, q2⟩ => ?_
  exact toks_keep h2 (ho pins s2 σ H2 x y v u Q I2 r1 r2 q2)
/-- x = e, a token out behind it; then what wants one -/
theorem pss_tok {i : Nat} {x : Str} {e : Expr} {te : TE} {pos' pos : Pos} {rest : List Stmt} {u : TS} (hN : X.N.Nodup) (hi : X.N[i]? = some x) (hx : Loc X.env.scope x) (he : PEt X e te) (h2 : PSsT X rest u)
    (hs : swapsWith e (some (.Name x pos')) pos.line X.env = pure false := by rfl) (hf : X.fn x = true ∨ X.env.scope.names.lookup x = some .local := by first | exact .inl rfl | exact .inr rfl | assumption) :
    PSs X (.Assign [.Name x pos'] e pos :: rest) (tSeq (tAsg te (gName i)) u) := by
  refine ⟨fun pins s σ H D I h => ?_⟩
  refine wpAny_execs_cons (wpAny_Assign_Name (thn (he pins s σ H _ I h) fun v s1 ⟨h1, y, H1, I1, r1, q1⟩ => ?_) hs)
  refine wpAny_mono (toks_keep h1 (store_ok (Q := fun _ s2 => Inv X pins (σ.set i (some y)) H1 s2) I1 hN hi hx r1 (fun _ I2 => I2) hf)) (fun _ s2 q => ?_) fun _ _ z => z
  exact h2 pins s2 _ H1 D q.1 q.2 q1
/-! ### pairs of written texts -/
/-- a tuple of two texts, its object known -/
def RawT (H : Hp) (a : Addr) (y z : Str) : Prop :=
  ∃ (o : Obj) (t u : Tok) (n : Nat), H a = some (.frz o (.tup [.str y, .str z])) ∧ o.cls = .type "tuple" ∧ o.data = .seq #[.str y t, .str z u] n ∧ t ≠ 0 ∧ u ≠ 0 ∧ t ≠ u
def tPairT (y z : Str) : TE := fun _ H Q => ∀ (a : Addr) (H' : Hp), H a = none → (∀ b, b ≠ a → H' b = H b) → RawT H' a y z → Q (.ref a) H'
theorem pet_pairT {y z : Str} {j0 j1 : Nat} {c0 c1 pos : Pos} {x1 : Nat} : PET X (.Tuple [.Constant (.str y) j0 c0, .Constant (.str z) j1 c1] x1 pos) (tPairT y z) := by
  intro pins s σ H Q h0 I h
  refine wpAny_Tuple_spliced ?_
  show wpAny _ _ (spliced ((false, eval (.Constant (.str y) j0 c0) X.env) :: backTo pos (starEach [.Constant (.str z) j1 c1] X.env))) _ _ s
  refine Calls.spliced_cons (Calls.Constant_str ?_)
  show wpAny _ _ (spliced ((false, eval (.Constant (.str z) j1 c1) X.env) :: backTo pos (starEach [] X.env))) _ _ _
  refine Calls.spliced_cons (Calls.Constant_str (Calls.spliced_nil ?_))
  have h2 : (2 : Nat) ≤ sizeLine := by decide
  have fr : H s.heap.objs.size = none := I.hok.fresh (Nat.le_refl _)
  refine ⟨h2, .ref s.heap.objs.size, upd H s.heap.objs.size (.frz { cls := .type "tuple", data := .seq #[.str y s.toks, .str z (s.toks + 1)] } (.tup [.str y, .str z])), ?_, rfl, ?_⟩
  · exact I.laid (t' := s.toks + 1 + 1) (fun b u e => Heap.get?_push_of_some _ e) (Nat.le_refl _) ⟨Heap.get?_push_size _ rfl, h2, [.str y s.toks, .str z (s.toks + 1)], .cons ⟨_, rfl⟩ (.cons ⟨_, rfl⟩ .nil), ⟨_, Heap.get?_push_size _ rfl, rfl, _, rfl⟩⟩
  · exact h _ _ fr (fun b hb => upd_ne hb) ⟨_, s.toks, s.toks + 1, _, upd_same, rfl, rfl, (show s.toks ≠ 0 by omega), (show s.toks + 1 ≠ 0 by omega), (show s.toks ≠ s.toks + 1 by omega)⟩
theorem raw_ixT {pins : List (Addr × Obj)} {σ : L2.St} {H : Hp} {s : Shared} {i : Nat} {x : Str} {a : Addr} {its : Array Value} {k : Nat} {j : Nat} {w : Value} {p1 cp pos : Pos} {Q E : Value → Shared → Prop} (hN : X.N[i]? = some x) (hv : Vis X.env.scope x) (I : Inv X pins σ H s)
    (hσ : σ[i]? = some (some (.ref a))) (hl : IsTup s.heap a its) (hk : k < 2 ^ 62) (hx : its[k]? = some w) (fin : ∀ tk, Q w { s with toks := tk }) (hs : PlainIx (.Constant (.int (k : Int)) j cp))
    (hd : (x == ("__debug__" : Str)) = false := by decide) (hcd : (x == ("__classdict__" : Str)) = false := by decide) :
    wpAny (model X.prog X.w) X.A (eval (.Subscript (.Name x p1) (.Constant (.int (k : Int)) j cp) pos) X.env) Q E s := by
  refine Subscript_ (raw_name hN hv I hσ (fun v r => ?_) hd hcd)
  obtain rfl : v = Value.ref a := r
  refine wpAny_Constant_int ?_
  have hl2 : IsTup ({ s with toks := s.toks + 1 } : Shared).heap a its := hl
  have hj : seqIndex? (k : Int) its.size = some k := by
    have := (Array.getElem?_eq_some_iff.mp hx).1
    unfold seqIndex?
    simp
    omega
  exact subscriptTail_builtinR (s := { s with toks := s.toks + 1 }) (x := w) hl2.typeIs slot_tuple_getitem.lookup
    (getItem_tuple (j := k) (Q := fun r s' => r = w ∧ Q r s') hl2 (by omega) (by omega) hj hx ⟨rfl, fin _⟩) (hs _ _)
def tRepT (ik ip : Nat) : TE := fun σ H Q => ∃ x a y z, σ[ik]? = some (some (.str x)) ∧ σ[ip]? = some (some (.ref a)) ∧ RawT H a y z ∧ (y == z) = false ∧ x.length + (x.length + 1) * z.length ≤ 16777216 ∧ Q (.str (Txt.replace x y z)) H
theorem pe_replT {ik ip : Nat} {kx px : Str} {j0 j1 : Nat} {p1 p2 p3 c0 c1 q0 q1 apos pos : Pos} (hNk : X.N[ik]? = some kx) (hvk : Vis X.env.scope kx) (hNp : X.N[ip]? = some px) (hvp : Vis X.env.scope px)
    (hdk : (kx == ("__debug__" : Str)) = false := by decide) (hck : (kx == ("__classdict__" : Str)) = false := by decide) (hdp : (px == ("__debug__" : Str)) = false := by decide) (hcp : (px == ("__classdict__" : Str)) = false := by decide)
    (hst : starEach [.Subscript (.Name px p2) (.Constant (.int 0) j0 c0) q0, .Subscript (.Name px p3) (.Constant (.int 1) j1 c1) q1] X.env =
      [(false, eval (.Subscript (.Name px p2) (.Constant (.int 0) j0 c0) q0) X.env), (false, eval (.Subscript (.Name px p3) (.Constant (.int 1) j1 c1) q1) X.env)] := by rfl)
    (hbase : attributeBase (.Name kx p1) "replace" X.env (eval (.Name kx p1) X.env) = eval (.Name kx p1) X.env := by rfl) (hline : (apos.endLine == pos.line) = true := by rfl) :
    PE X (.Call (.Attribute (.Name kx p1) "replace" apos) [.Subscript (.Name px p2) (.Constant (.int 0) j0 c0) q0, .Subscript (.Name px p3) (.Constant (.int 1) j1 c1) q1] [] pos) (tRepT ik ip) := by
  refine ⟨fun pins s σ H Q I h => ?_⟩
  obtain ⟨x, a, y, z, hx, hp, ⟨o, t, u, n, ha, hc, hd, ht, hu, htu⟩, hyz, hb, q⟩ := h
  have hl : IsTup s.heap a #[.str y t, .str z u] := ⟨o, (I.hok a _ ha).1, hc, n, hd⟩
  refine PySem.Call_method2 hbase hst hline (raw_name hNk hvk I hx (fun v r => ?_) hdk hck)
  obtain ⟨tx, rfl⟩ := r
  refine ⟨"str", _, PySem.F.plainAttrs_str, PySem.F.slot_str_replace, PySem.F.type_str_replace, typeIs_str _ _ _, (fun _ e => nomatch e), Calls.callWith_builtin rfl (Calls.evalArgs_plain (Calls.spliced_cons ?_))⟩
  refine raw_ixT (k := 0) hNp hvp I hp hl (by omega) rfl (fun k1 => ?_) (fun _ _ => rfl) hdp hcp
  refine Calls.spliced_cons (raw_ixT (k := 1) hNp hvp (I.tok k1) hp hl (by omega) rfl (fun k2 => ?_) (fun _ _ => rfl) hdp hcp)
  refine Calls.spliced_nil ?_
  exact PySem.SC.replace ht hu htu hyz hb fun t' k => ⟨.str (Txt.replace x y z), H, I.tok k, ⟨t', rfl⟩, q⟩
end
/-! ### C.m(e, ..) of a classmethod in a try body, what is raised wished of the slots as they are -/
def tCMethS (C : Addr) (sp : Sp) (W : WX) (ta : TE) (t : TA) : TE := fun σ H Q => ta σ H fun x H1 => x = .ref C ∧ t σ H1 fun vs H2 => sp (.ref C :: vs) H2 Q (eS W σ)
section
variable {X : Cx} {k : Nat} {C p g : Addr} {mc : Value} {sp : Sp} {W : WX} {o e : Expr} {es : List Expr} {m : Str} {pos apos : Pos} {ta : TE} {t : TA}
theorem pe_cmethSK {K : PySem.W.Frag} (e0 : X.K = K) {pl : Sem Bool} (he : PE X o ta) (r : ClX.CRead K C mc) (c : ClX.CMet K C mc m p g) (F : FnR X.prog X.w K X.mg X.base (L2.CX X.prog X.w) k g sp) (hr : Room k X.A) (tk : Takes X W) (ha : PA X (e :: es) t)
    (hst : starEach (e :: es) X.env = (false, eval e X.env) :: starEach es X.env := by rfl) (hpl : (backTo pos (starEach es X.env)).any (·.1) = false := by rfl)
    (ht : eval (.Call (.Attribute o m apos) (e :: es) [] pos) X.env = (do
      let ov ← eval o X.env
      standAt apos.atName
      let (f, first) ← holding [ov] (getMethod ov m pl)
      callWith pos f first (backTo pos (starEach (e :: es) X.env)) (backToKw pos (keywordEach [] X.env))) := by rfl) :
    PE X (.Call (.Attribute o m apos) (e :: es) [] pos) (tCMethS C sp W ta t) := by
  subst e0
  refine ⟨fun pins s σ H Q I h => ?_⟩
  refine PySem.W.methodCall_KW (pl := pl) (thn (he.run pins s σ H _ I h) fun u s1 ⟨x, H1, I1, rx, ex, q⟩ => ?_) ht
  subst ex
  obtain rfl : u = Value.ref C := rx
  refine ClX.getmethcm_ok I1 r c fun s2 I2 => ?_
  refine ClX.callwith_cm I2 (ClX.base_none I1 (Nat.le_refl _)) c.fi (thn (ha.run pos _ s2 σ H1 _ I2 q) fun us s3 ⟨vs, H2, I3, rv, q2⟩ => ⟨⟨ClX.pin_at I3, I3.kIn⟩, ?_⟩) hst hpl
  have z := wpAny_call (PySem.W.method_call (ClX.pin_at I3) (run_fnRp (Q := Q) (us := .ref C :: us) (vs := .ref C :: vs) F hr (passS tk I3) I3 (.cons rfl rv) q2))
  exact thn z fun _ _ y => ClX.unpinE y
end
end Hue

set_option Elab.async false
set_option linter.all false
set_option maxRecDepth 100000
set_option maxHeartbeats 1000000
/-! A match statement over tuples ("word", a, b, ..). -/
namespace Hue
open PySem PySem.Spec PyProof.Rows L2
section
variable {X : Cx}
/-- the cases of a match, one after another; v stands for the subject -/
structure PCs (X : Cx) (cs : List MatchCase) (t : V → TS) : Prop where
  run : ∀ (pins : List (Addr × Obj)) (s : Shared) (σ : L2.St) (H : Hp) (D : Ends) (v : V) (u : Value) (b : Bool), Inv X pins σ H s → RelV v u → t v D σ H → wpAny (model X.prog X.w) X.A (matchCases cs X.env u b) (SP X pins D) X.xe s
theorem pcs_nil : PCs X [] (fun _ D σ H => D.nx σ H) := ⟨fun _ _ σ H D v u b I r h => wpAny_matchCases_nil ⟨σ, H, I, h⟩⟩
def tMatch (te : TE) (t : V → TS) : TS := fun D σ H => te σ H fun v H1 => t v D σ H1
theorem ps_match {e : Expr} {cs : List MatchCase} {pos : Pos} {te : TE} {t : V → TS} (he : PE X e te) (hc : PCs X cs t) : PS X (.Match e cs pos) (tMatch te t) := by
  refine ⟨fun pins s σ H D I h => ?_⟩
  refine wpAny_Match (thn (he.run pins s σ H _ I h) fun u s1 ⟨v, H1, I1, r1, q1⟩ => ?_)
  exact hc.run pins s1 σ H1 D v u true I1 r1 q1
/-- captures by plain local names -/
inductive Caps (X : Cx) : List Pattern → List Str → List Nat → Prop
  | nil : Caps X [] [] []
  | cons {x : Str} {i : Nat} {pos : Pos} {ps : List Pattern} {ns : List Str} {is : List Nat} : X.N[i]? = some x → Loc X.env.scope x → (X.fn x = true ∨ X.env.scope.names.lookup x = some .local) → Caps X ps ns is → Caps X (.MatchAs none (some x) pos :: ps) (x :: ns) (i :: is)
theorem Caps.len {ps : List Pattern} {ns : List Str} {is : List Nat} (h : Caps X ps ns is) : ns.length = ps.length ∧ is.length = ps.length := by
  induction h with
  | nil => exact ⟨rfl, rfl⟩
  | cons _ _ _ _ ih => exact ⟨by simp [ih.1], by simp [ih.2]⟩
theorem Caps.each {M : Model} {A : Around} {E : Value → Shared → Prop} {s : Shared} {env : Env} {ps : List Pattern} {ns : List Str} {is : List Nat} (h : Caps X ps ns is) : ∀ {us : List Value} {Q : Option (List (Str × Value)) → Shared → Prop}, us.length = ps.length → Q (some (ns.zip us)) s → wpAny M A (matchEach ps env us) Q E s := by
  induction h with
  | nil => intro us Q _ q; exact wpAny_matchEach_nil q
  | cons h1 h2 h3 h4 ih =>
    intro us Q hl q
    match us, hl with
    | u :: us, hl =>
      refine wpAny_matchEach_cons (wpAny_matchPattern_Capture ?_)
      exact ih (by simpa using hl) q
def setsL : List Nat → List V → L2.St → L2.St
  | i :: is, v :: vs, σ => setsL is vs (σ.set i (some v))
  | _, _, σ => σ
theorem Caps.store {pins : List (Addr × Obj)} {E : Value → Shared → Prop} {M : Model} {A : Around} (hN : X.N.Nodup) {ps : List Pattern} {ns : List Str} {is : List Nat} (h : Caps X ps ns is) : ∀ {s : Shared} {σ : L2.St} {H : Hp} {vs : List V} {us : List Value} {Q : Unit → Shared → Prop}, Inv X pins σ H s → Vals vs us → vs.length = ps.length → (∀ s', Inv X pins (setsL is vs σ) H s' → Q () s') →
    wpAny M A (assignInOrder ((ns.zip us).map fun p => bindName X.env p.1) ((ns.zip us).map (·.2))) Q E s := by
  induction h with
  | nil => intro s σ H vs us Q I r hl q; cases vs with
    | nil => exact assignInOrder_nil (q s I)
    | cons v vs => simp at hl
  | cons h1 h2 h3 h4 ih =>
    intro s σ H vs us Q I r hl q
    cases r with
    | nil => simp at hl
    | cons r rr =>
      refine assignInOrder_cons (wpAny_bindName (store_ok I hN h1 h2 r (fun s' I' => ?_) h3))
      exact ih I' rr (by simpa using hl) q
/-- case ("w", a, b, ..) -/
def tCase (K : PySem.W.Frag) (w : Str) (is : List Nat) (body : TS) (rest : V → TS) : V → TS := fun v D σ H => ∃ (a : Addr) (z : Str) (ys : List V), v = .ref a ∧ SqT K H a (.str z :: ys) ∧
  (z = w ∧ ys.length = is.length → body D (setsL is ys σ) H) ∧ (¬ (z = w ∧ ys.length = is.length) → rest v D σ H)
theorem pcs_case {w : Str} {j : Nat} {c p1 pos : Pos} {ps : List Pattern} {ns : List Str} {is : List Nat} {body : List Stmt} {rest : List MatchCase} {tb : TS} {tr : V → TS} (hcalm : X.calm = true) (hN : X.N.Nodup) (hc : Caps X ps ns is) (hb : PSs X body tb) (hr : PCs X rest tr)
    (hstar : (Pattern.MatchValue (.Constant (.str w) j c) p1 :: ps).findIdx? (·.isStar) = none := by rfl)
    (hwild : ((Pattern.MatchValue (.Constant (.str w) j c) p1 :: ps).all fun p => p.isWildcard || (p.isStar && p.names.isEmpty)) = false := by rfl) :
    PCs X (⟨.MatchSequence (.MatchValue (.Constant (.str w) j c) p1 :: ps) pos, none, body⟩ :: rest) (tCase X.K w is tb tr) := by
  refine ⟨fun pins s σ H D v u b I r h => ?_⟩
  obtain ⟨a, z, ys, rfl, hq, h1, h2⟩ := h
  cases r
  obtain ⟨its, rv, ht, hz⟩ := I.tuple hq
  obtain ⟨ln, li⟩ := hc.len
  refine wpAny_matchCases_cons (wpAny_matchPattern_Sequence ?_ hstar hwild)
  refine wpAny_collectionFlag ht.typeIs flag_seq_tuple ?_
  rw [if_pos rfl]
  have hlen : its.length = ys.length + 1 := by rw [← rv.length]; rfl
  have hz2 : ys.length + 1 ≤ sizeLine := hz
  have hz3 : sizeLine < 2 ^ 62 := by decide
  refine pyLen_tuple ht (by show (((its.toArray).size : Nat) : Int) < 2 ^ 63; rw [List.size_toArray]; omega) ?_
  have I1 : Inv X pins σ H { s with toks := s.toks + 1 + 1 } := I.kept (h' := s.heap) fun b o e => e
  have nope : ¬ (z = w ∧ ys.length = is.length) → wpAny (model X.prog X.w) X.A (matchCases rest X.env (.ref a) false) (SP X pins D) X.xe { s with toks := s.toks + 1 + 1 } := fun n => hr.run pins _ σ H D (.ref a) (.ref a) false I1 rfl (h2 n)
  by_cases hn : ys.length = ps.length
  · rw [if_neg (by simp [List.size_toArray]; omega)]
    have e1 : (Pattern.MatchValue (.Constant (.str w) j c) p1 :: ps).length = its.toArray.size := by rw [List.size_toArray, List.length_cons]; omega
    rw [e1]
    refine unpackItems_tuple (I.ok.hd hcalm) ht fun h' hx => ?_
    have I2 : Inv X pins σ H { s with heap := h', toks := s.toks + 1 + 1 } := I.kept fun b o e => hx b o (Nat.ne_of_lt (Heap.lt_size e)) e
    cases rv with
    | cons r0 rr =>
      refine wpAny_matchEach_cons (wpAny_matchPattern_Value (thn (pe_str.run pins _ σ H (fun v H1 => v = .str w ∧ H1 = H) I2 ⟨rfl, rfl⟩) fun x s3 hx3 => ?_))
      obtain ⟨_, H3, I3, rx, rfl, e3⟩ := hx3
      rw [e3] at I3
      refine thn (op_eq pins s3 σ H (.str z) (.str w) _ x (fun v H2 => v = .bl (decide (V.str z = V.str w)) ∧ H2 = H) I3 r0 rx ⟨rfl, rfl, rfl⟩) fun cv s4 hx4 => ?_
      obtain ⟨_, H4, I4, rb, rfl, e4⟩ := hx4
      rw [e4] at I4
      obtain rfl : cv = Value.bool (decide (V.str z = V.str w)) := rb
      refine wpAny_truthy_bool ?_
      by_cases ez : z = w
      · rw [if_pos (by rw [ez]; exact decide_eq_true rfl)]
        refine hc.each (by have := rr.length; omega) ?_
        refine hc.store hN I4 rr (by omega) fun s5 I5 => ?_
        exact hb.run pins s5 _ _ D I5 (h1 ⟨ez, by omega⟩)
      · rw [if_neg (by intro q; exact ez (by have := of_decide_eq_true q; injection this))]
        exact hr.run pins s4 σ _ D (.ref a) (.ref a) false I4 rfl (h2 fun q => ez q.1)
  · rw [if_pos (by simp [List.size_toArray]; omega)]
    exact nope fun q => hn (by rw [q.2, li])
theorem Vals.dropN : ∀ (k : Nat) {vs : List V} {us : List Value}, Vals vs us → Vals (vs.drop k) (us.drop k)
  | 0, _, _, r => r
  | _ + 1, _, _, .nil => .nil
  | k + 1, _, _, .cons _ r => Vals.dropN k r
/-- first, second, *rest = a tuple, as a pattern unpacks it -/
theorem unpack_star {pins : List (Addr × Obj)} {s : Shared} {σ : L2.St} {H : Hp} {a : Addr} {x0 x1 : V} {ys : List V} {Q : List Value → Shared → Prop} (hcalm : X.calm = true) (I : Inv X pins σ H s) (hq : SqT X.K H a (x0 :: x1 :: ys))
    (h : ∀ (D : Addr) (u0 u1 : Value) (s' : Shared), RelV x0 u0 → RelV x1 u1 → H D = none → Inv X pins σ (L2.upd H D (.lst ys)) s' → Q [u0, u1, .ref D] s') : wpAny (model X.prog X.w) X.A (unpackItems (.ref a) 3 (some 2)) Q X.xe s := by
  obtain ⟨its, rv, hl, hz⟩ := I.tuple hq
  have hh := I.ok.hd hcalm
  have hlt : a ≠ s.heap.objs.size := by obtain ⟨o, ho, _⟩ := hl; exact Nat.ne_of_lt (Heap.lt_size ho)
  have hsz : its.toArray.size = ys.length + 2 := by rw [List.size_toArray, ← rv.length]; rfl
  have hz2 : ys.length + 2 ≤ sizeLine := hz
  unfold unpackItems
  refine wpAny_bind ?_
  unfold notIterableAtAll
  refine wpAny_bind (wpAny_specialOf hl.typeIs slot_tuple_iter.lookup ?_)
  refine wpAny_pure ?_
  simp only [Bool.false_eq_true, if_false]
  refine wpAny_bind (wpAny_holding (iter_tuple hl ?_))
  refine wpAny_bind (wpAny_holding (draw_tuple hlt 2 0 _ _ ⟨_, Heap.get?_push_size _ rfl, rfl, rfl⟩ (hl.push _) (by omega) fun h₁ hit₁ hs₁ => ?_))
  have hl₁ : IsTup h₁ a its.toArray := (hl.push _).extBut hs₁.extBut hlt
  rw [Nat.zero_add] at hit₁
  have hit₁' := hit₁
  obtain ⟨oi, hoi, _⟩ := hit₁'
  have hl₁' := hl₁
  obtain ⟨ol, hol, _⟩ := hl₁'
  rw [List.drop_zero]
  have hfl : (its.toArray.toList.take 2).length = 2 := by rw [List.length_take, Array.length_toList]; omega
  rw [if_neg (show ¬ ((its.toArray.toList.take 2).length < 2) by rw [hfl]; omega)]
  refine wpAny_bind (wpAny_holding (PySem.W.kun_collect (s := { s with heap := h₁ }) (T := "tuple_iterator") (.inr (.inr (.inr rfl))) (Walks.tuple (A := X.A.in1) hh s.heap.objs.size a hlt its.toArray) (fun j u st => st.1.typeIs) (k := 2) (by omega) ⟨hit₁, hl₁⟩ (Heap.lt_size hoi) (Heap.lt_size hol) (fun h₂ tk hk => ?_) (by omega)))
  have hrl : (its.toArray.toList.drop 2).length = its.toArray.size - 2 := by rw [List.length_drop, Array.length_toList]
  show wpAny _ _ (if (its.toArray.toList.drop 2).length < 0 then _ else _) _ _ _
  rw [if_neg (by omega)]
  show wpAny _ _ (newList ((its.toArray.toList.drop 2).take ((its.toArray.toList.drop 2).length - 0)) >>= fun d => pure (its.toArray.toList.take 2 ++ [d] ++ (its.toArray.toList.drop 2).drop ((its.toArray.toList.drop 2).length - 0))) _ _ _
  rw [Nat.sub_zero, List.take_length, List.drop_length]
  have he : Heap.ExtBut s.heap.objs.size s.heap h₂ := fun b o hb e => hk b o hb (hs₁.extBut b o hb (Heap.get?_push_of_some _ e))
  have ke : ∀ b o, s.heap.get? b = some o → h₂.get? b = some o := fun b o e => he b o (Nat.ne_of_lt (Heap.lt_size e)) e
  refine wpAny_bind (wpAny_newList (wpAny_pure ?_) (by rw [hrl]; omega))
  cases rv with
  | cons r0 rv => cases rv with
    | cons r1 rr =>
      have I2 : Inv X pins σ H { s with heap := h₂, toks := tk } := I.kept ke
      have fr : H h₂.objs.size = none := I2.hok.fresh (Nat.le_refl _)
      exact h _ _ _ _ r0 r1 fr (I2.laid (fun b u e => Heap.get?_push_of_some _ e) (Nat.le_refl _) ⟨by omega, _, 0, rr, Heap.get?_push_size _ rfl⟩)
/-- case ("w", x, *y); a pattern that unpacks has made the list, whether the word fits or not -/
def tCaseStar (K : PySem.W.Frag) (w : Str) (i j : Nat) (body : TS) (rest : V → TS) : V → TS := fun v D σ H => ∃ (a : Addr) (z : Str) (xs : List V), v = .ref a ∧ SqT K H a (.str z :: xs) ∧
  (z = w → ∀ y ys, xs = y :: ys → ∀ q, H q = none → body D ((σ.set i (some y)).set j (some (.ref q))) (L2.upd H q (.lst ys))) ∧
  (xs = [] → rest v D σ H) ∧ (z ≠ w → ∀ y ys, xs = y :: ys → ∀ q, H q = none → rest v D σ (L2.upd H q (.lst ys)))
theorem pcs_star {w x y : Str} {j i k : Nat} {c p1 p2 p3 pos : Pos} {body : List Stmt} {rest : List MatchCase} {tb : TS} {tr : V → TS} (hcalm : X.calm = true) (hN : X.N.Nodup) (hi : X.N[i]? = some x) (hx : Loc X.env.scope x) (hfx : X.fn x = true ∨ X.env.scope.names.lookup x = some .local)
    (hk : X.N[k]? = some y) (hy : Loc X.env.scope y) (hfy : X.fn y = true ∨ X.env.scope.names.lookup y = some .local) (hb : PSs X body tb) (hr : PCs X rest tr) :
    PCs X (⟨.MatchSequence [.MatchValue (.Constant (.str w) j c) p1, .MatchAs none (some x) p2, .MatchStar (some y) p3] pos, none, body⟩ :: rest) (tCaseStar X.K w i k tb tr) := by
  refine ⟨fun pins s σ H D v u b I r h => ?_⟩
  obtain ⟨a, z, xs, rfl, hq, h1, h2, h3⟩ := h
  cases r
  obtain ⟨its, rv, ht, hz⟩ := I.tuple hq
  have hlen : its.length = xs.length + 1 := by rw [← rv.length]; rfl
  have hz2 : xs.length + 1 ≤ sizeLine := hz
  have hz3 : sizeLine < 2 ^ 62 := by decide
  have hsz : its.toArray.size = xs.length + 1 := by rw [List.size_toArray, hlen]
  have I1 : Inv X pins σ H { s with toks := s.toks + 1 + 1 } := I.kept (h' := s.heap) fun b o e => e
  refine wpAny_matchCases_cons ?_
  cases xs with
  | nil => exact PySem.W.kun_fewT (i := 2) ht (by rw [hsz]; simp) rfl (by simp) (by rw [hsz]; simp) (hr.run pins _ σ H D (.ref a) (.ref a) false I1 rfl (h2 rfl))
  | cons y0 ys =>
    refine PySem.W.kun_seqT (i := 2) ht (by rw [hsz]; omega) rfl rfl rfl (by simp) (by rw [hsz]; simp) ?_
    refine unpack_star hcalm I1 hq fun q u0 u1 s2 r0 r1 nq I2 => ?_
    refine wpAny_matchEach_cons (wpAny_matchPattern_Value (thn (pe_str.run pins _ σ _ (fun v H1 => v = .str w ∧ H1 = L2.upd H q (.lst ys)) I2 ⟨rfl, rfl⟩) fun x s3 hx3 => ?_))
    obtain ⟨_, H3, I3, rx, rfl, e3⟩ := hx3
    rw [e3] at I3
    refine thn (op_eq pins s3 σ _ (.str z) (.str w) _ x (fun v H2 => v = .bl (decide (V.str z = V.str w)) ∧ H2 = L2.upd H q (.lst ys)) I3 r0 rx ⟨rfl, rfl, rfl⟩) fun cv s4 hx4 => ?_
    obtain ⟨_, H4, I4, rb, rfl, e4⟩ := hx4
    rw [e4] at I4
    obtain rfl : cv = Value.bool (decide (V.str z = V.str w)) := rb
    refine wpAny_truthy_bool ?_
    by_cases ez : z = w
    · rw [if_pos (by rw [ez]; exact decide_eq_true rfl)]
      refine wpAny_matchEach_cons (wpAny_matchPattern_Capture ?_)
      refine PySem.W.kun_each (wpAny_matchEach_nil ?_)
      show wpAny _ _ (assignInOrder [bindName X.env _, bindName X.env y] [u1, .ref q]) _ _ _
      refine assignInOrder_cons (wpAny_bindName (store_ok I4 hN hi hx r1 (fun s5 I5 => ?_) hfx))
      refine assignInOrder_cons (wpAny_bindName (store_ok I5 hN hk hy (v := .ref q) rfl (fun s6 I6 => assignInOrder_nil ?_) hfy))
      exact hb.run pins s6 _ _ D I6 (h1 ez y0 ys rfl q nq)
    · rw [if_neg (by intro q; exact ez (by have := of_decide_eq_true q; injection this))]
      exact hr.run pins s4 σ _ D (.ref a) (.ref a) false I4 rfl (h3 ez y0 ys rfl q nq)
end
end Hue

set_option Elab.async false
set_option linter.all false
set_option maxRecDepth 100000
set_option maxHeartbeats 2000000
/-! def f(self, *things, skip=0): the tuple and one keyword-only name, given or not. -/
namespace Hue
open PySem PySem.Spec PyProof.Rows L2
def kwOf (n : Str) : Option Value → List (Str × Value)
  | some u => [(n, u)]
  | none => []
/-- a call with the first argument, the rest, and the keyword-only one or its default d -/
def FnSk (P : Program) (w : World) (K : PySem.W.Frag) (mg : Str → Option Value) (base : Heap) (CX : CXT) (k : Nat) (f : Addr) (n : Str) (d : V) (sp : Sp) : Prop :=
  ∀ (A : Around) (outer : List Env) (s : Shared) (H : Hp) (u0 : Value) (v0 : V) (us : List Value) (vs : List V) (ku : Option Value) (kv : Option V) (Q : VK) (E : XK), Room k A → Env0 P w K mg base A outer s H → RelV v0 u0 → Vals vs us →
    (match ku, kv with | some u, some v => RelV v u | none, none => True | _, _ => False) → vs.length ≤ sizeLine → (∀ p, H p = none → sp [v0, kv.getD d, .ref p] (L2.upd H p (.tup vs)) Q E) →
    codeAny (model P w) A (.call (.ref f) ⟨u0 :: us, kwOf n ku⟩) (CR CX outer P w H s Q E) s
section
variable {CX : CXT} {P : Program} {w : World} {K : PySem.W.Frag} {mg : Str → Option Value} {base : Heap} {k : Nat} {f : Addr} {name qual : Str} {params : Arguments} {body : List Stmt} {scope : Scope} {dV kV doc pm cdv ct oc : Value} {an od : Option Addr}
  {osl : Array (Option Value)} {N : List Str} {sp : Sp}
theorem fn_sk {p0 n pv : Str} {d : V} {du : Value} (lk : K.lookup f = some ⟨oc, od, .func (PySem.W.fnOf name qual params body scope dV kV doc pm an cdv ct), osl⟩) (hcd : PySem.W.codeIn K cdv qual = true) (S : FnScope N [p0, n, pv] scope) (hCX : StX.CXUp CX) (rd : RelV d du)
    (hb1 : ∀ (u : Value) (us : List Value) (v : Value), bindArgs (PySem.W.fnOf name qual params body scope dV kV doc pm an cdv ct) ⟨u :: us, [(n, v)]⟩ = (newTuple us >>= fun t => pure [(p0, u), (n, v), (pv, t)]))
    (hb0 : ∀ (u : Value) (us : List Value) (A' : Around) (Ex : Value → Shared → Prop) (Q : List (Str × Value) → Shared → Prop) (s : Shared), K.In s.heap → wpAny (model P w) A' (newTuple us >>= fun t => pure [(p0, u), (n, du), (pv, t)]) Q Ex s →
      wpAny (model P w) A' (bindArgs (PySem.W.fnOf name qual params body scope dV kV doc pm an cdv ct) ⟨u :: us, []⟩) Q Ex s)
    (hbody : ∀ (A : Around) (outer : List Env) (s : Shared) (H : Hp) (vs : List V) (Q : VK) (E : XK), Room k (A.deeper (envOfC qual scope s.heap.objs.size f cdv)) → sp vs H Q E →
      ∃ t, PSs (cxOf CX P w K mg base N qual scope f cdv A outer s H E) body t ∧ t { nx := fun _ H' => Q .non H', rt := Q } (L2.start N vs) H) :
    FnSk P w K mg base CX (k + 1) f n d sp := by
  intro A outer s H u0 v0 us vs ku kv Q E hr e0 r0 r rk hz hq
  have hn : H s.heap.objs.size = Option.none := e0.hok.fresh (Nat.le_refl _)
  have KX : K.In s.heap := e0.mod.kin.keeps fun b o e => (e0.bs b o e).1
  have hl2 : us.length ≤ sizeLine := by rw [← r.length]; exact hz
  obtain ⟨ku', rk', hk⟩ : ∃ ku' : Value, RelV (kv.getD d) ku' ∧ ∀ (A' : Around) (Ex : Value → Shared → Prop) (Q' : List (Str × Value) → Shared → Prop), wpAny (model P w) A' (newTuple us >>= fun t => pure [(p0, u0), (n, ku'), (pv, t)]) Q' Ex s →
      wpAny (model P w) A' (bindArgs (PySem.W.fnOf name qual params body scope dV kV doc pm an cdv ct) ⟨u0 :: us, kwOf n ku⟩) Q' Ex s := by
    cases ku with
    | some u => cases kv with
      | some v => exact ⟨u, rk, fun A' Ex Q' h => by show wpAny _ _ (bindArgs _ ⟨u0 :: us, [(n, u)]⟩) _ _ _; rw [hb1]; exact h⟩
      | none => exact rk.elim
    | none => cases kv with
      | some v => exact rk.elim
      | none => exact ⟨du, rd, fun A' Ex Q' h => hb0 u0 us A' Ex Q' s KX h⟩
  refine StX.run_bnd lk hcd S hr e0 (G := fun xs H2 => ∃ p, H p = Option.none ∧ xs = [v0, kv.getD d, V.ref p] ∧ H2 = L2.upd H p (.tup vs)) (fun A' Ex Q' h => hk A' Ex Q' ?_) fun s2 H2 xs ⟨p, hp, ex, eH⟩ hr' => ?_
  · refine wpAny_bind (wpAny_newTuple (wpAny_pure ?_) hl2)
    have new : ObjOk P w (L2.upd H s.heap.objs.size (.tup vs)) (s.heap.push ({ cls := .type "tuple", data := .seq us.toArray } : Obj)) s.heap.objs.size (.tup vs) := ⟨hz, us, r, ⟨_, Heap.get?_push_size _ rfl, rfl, _, rfl⟩⟩
    have un := StX.un_laid (fs := frs outer) (s := s) (o := ({ cls := .type "tuple", data := .seq us.toArray } : Obj)) (u := .tup vs) hn
    exact h _ _ [v0, kv.getD d, V.ref s.heap.objs.size] [u0, ku', Value.ref s.heap.objs.size] (StX.env0_laid e0 new) un rfl (fun e s' => hCX outer s H _ _ E e s' un (fun b o q => Heap.get?_push_of_some _ q) rfl) (.cons r0 (.cons rk' (.cons rfl .nil)))
      rfl ⟨_, hn, rfl, rfl⟩
  · subst ex eH
    exact hbody A outer s2 _ _ Q E hr' (hq p hp)
end
/-- o.m(..), m a def with *args and a keyword-only name that is not given -/
def tSk (C : Addr) (m : Str) (d : V) (sp : Sp) (E : XK) (ta : TE) (t : TA) : TE := fun σ H Q => ta σ H fun x H1 => ∃ a dx fs, x = .ref a ∧ H1 a = some (.ins C dx fs) ∧ fs.lookup m = none ∧
  t σ H1 fun vs H2 => vs.length ≤ sizeLine ∧ ∀ p, H2 p = none → sp [x, d, .ref p] (L2.upd H2 p (.tup vs)) Q E
/-- o.m(.., n=e) -/
def tSkK (C : Addr) (m : Str) (sp : Sp) (E : XK) (ta : TE) (t : TA) (tk : TA) : TE := fun σ H Q => ta σ H fun x H1 => ∃ a dx fs, x = .ref a ∧ H1 a = some (.ins C dx fs) ∧ fs.lookup m = none ∧
  t σ H1 fun vs H2 => tk σ H2 fun zs H3 => ∃ z, zs = [z] ∧ vs.length ≤ sizeLine ∧ ∀ p, H3 p = none → sp [x, z, .ref p] (L2.upd H3 p (.tup vs)) Q E
section
variable {X : Cx} {CX : CXT} {k : Nat} {f C : Addr} {n : Str} {d : V} {sp : Sp} {E : XK} {m : Str} {pos apos : Pos} {o e : Expr} {es : List Expr} {kws : List Keyword} {ta : TE} {t tk : TA} {pl : Sem Bool}
theorem run_sk {pins : List (Addr × Obj)} {σ : L2.St} {H : Hp} {s : Shared} {Q : VK} {u0 : Value} {v0 : V} {us : List Value} {vs : List V} {ku : Option Value} {kv : Option V} (F : FnSk X.prog X.w X.K X.mg X.base CX k f n d sp) (hr : Room k X.A) (hx : Passes CX X E)
    (I : Inv X pins σ H s) (r0 : RelV v0 u0) (r : Vals vs us) (rk : match ku, kv with | some u, some v => RelV v u | none, none => True | _, _ => False) (hz : vs.length ≤ sizeLine) (h : ∀ p, H p = none → sp [v0, kv.getD d, .ref p] (L2.upd H p (.tup vs)) Q E) :
    wpAny (model X.prog X.w) X.A (call (.ref f) (u0 :: us) (kwOf n ku)) (EP X pins σ Q) X.xe s := by
  refine wpAny_call (codeAny_mono (F X.A X.stack s H u0 v0 us vs ku kv Q E hr I.env0 r0 r rk hz h) fun r s' hq => ?_)
  cases r with
  | error e => exact hx pins σ H s e s' I hq
  | ok fl =>
    cases fl with
    | ret u => exact I.after hq
    | next => exact False.elim hq
    | brk => exact False.elim hq
    | cont => exact False.elim hq
theorem pe_sk (he : PE X o ta) (c : Cls X.K C) (hm : Meth X.K C m f) (F : FnSk X.prog X.w X.K X.mg X.base CX k f n d sp) (hr : Room k X.A) (hx : Passes CX X E) (ha : PA X (e :: es) t)
    (hst : starEach (e :: es) X.env = (false, eval e X.env) :: starEach es X.env := by rfl) (hpl : (backTo pos (starEach es X.env)).any (·.1) = false := by rfl)
    (ht : eval (.Call (.Attribute o m apos) (e :: es) [] pos) X.env = (do
      let ov ← eval o X.env
      standAt apos.atName
      let (f, first) ← holding [ov] (getMethod ov m pl)
      callWith pos f first (backTo pos (starEach (e :: es) X.env)) (backToKw pos (keywordEach [] X.env))) := by rfl) :
    PE X (.Call (.Attribute o m apos) (e :: es) [] pos) (tSk C m d sp E ta t) := by
  refine ⟨fun pins s σ H Q I h => ?_⟩
  refine PySem.W.methodCall_KW (pl := pl) (thn (he.run pins s σ H _ I h) fun u s1 ⟨x, H1, I1, rx, a, dx, fs, ex, ea, l, q⟩ => ?_) ht
  subst ex
  obtain rfl : u = Value.ref a := rx
  refine getmeth_ok I1 ea c hm l ?_
  refine PySem.W.callWith_K (first := [.ref a]) (h₀ := X.base) I.ok.mod.kin hm.kp (thn (ha.run pos pins s1 σ H1 _ I1 q) fun us s2 ⟨vs, H2, I2, r, hz, q2⟩ => ⟨I2.kIn, ?_⟩) hst hpl
  exact run_sk (ku := none) (kv := none) (v0 := .ref a) F hr hx I2 rfl r trivial hz q2
theorem pe_sk0 (he : PE X o ta) (c : Cls X.K C) (hm : Meth X.K C m f) (F : FnSk X.prog X.w X.K X.mg X.base CX k f n d sp) (hr : Room k X.A) (hx : Passes CX X E)
    (ht : eval (.Call (.Attribute o m apos) [] [] pos) X.env = (do
      let ov ← eval o X.env
      standAt apos.atName
      let (f, first) ← holding [ov] (getMethod ov m pl)
      callWith pos f first (backTo pos (starEach [] X.env)) (backToKw pos (keywordEach [] X.env))) := by rfl) :
    PE X (.Call (.Attribute o m apos) [] [] pos) (tSk C m d sp E ta tNil) := by
  refine ⟨fun pins s σ H Q I h => ?_⟩
  refine PySem.W.methodCall_KW (pl := pl) (thn (he.run pins s σ H _ I h) fun u s1 ⟨x, H1, I1, rx, a, dx, fs, ex, ea, l, q⟩ => ?_) ht
  subst ex
  obtain rfl : u = Value.ref a := rx
  refine getmeth_ok I1 ea c hm l ?_
  refine PySem.W.callWith_K0 (first := [.ref a]) I1.kIn hm.kp ?_
  exact run_sk (us := []) (vs := []) (ku := none) (kv := none) (v0 := .ref a) F hr hx I1 rfl .nil trivial q.1 q.2
theorem pe_skK (he : PE X o ta) (c : Cls X.K C) (hm : Meth X.K C m f) (F : FnSk X.prog X.w X.K X.mg X.base CX k f n d sp) (hr : Room k X.A) (hx : Passes CX X E) (ha : PA X (e :: es) t) (hkw : PK X kws tk)
    (hall : (backToKw pos (keywordEach kws X.env)).all (·.1.isSome) = true := by rfl) (hks : (backToKw pos (keywordEach kws X.env)).filterMap (·.1) = [n] := by rfl)
    (hpl : ((backTo pos (starEach (e :: es) X.env)).any (·.1) || (backToKw pos (keywordEach kws X.env)).any (·.1.isNone)) = false := by rfl)
    (hst : starEach (e :: es) X.env = (false, eval e X.env) :: starEach es X.env := by rfl)
    (ht : eval (.Call (.Attribute o m apos) (e :: es) kws pos) X.env = (do
      let ov ← eval o X.env
      standAt apos.atName
      let (f, first) ← holding [ov] (getMethod ov m pl)
      callWith pos f first (backTo pos (starEach (e :: es) X.env)) (backToKw pos (keywordEach kws X.env))) := by rfl) :
    PE X (.Call (.Attribute o m apos) (e :: es) kws pos) (tSkK C m sp E ta t tk) := by
  refine ⟨fun pins s σ H Q I h => ?_⟩
  refine PySem.W.methodCall_KW (pl := pl) (thn (he.run pins s σ H _ I h) fun u s1 ⟨x, H1, I1, rx, a, dx, fs, ex, ea, l, q⟩ => ?_) ht
  subst ex
  obtain rfl : u = Value.ref a := rx
  refine getmeth_ok I1 ea c hm l ?_
  refine PySem.W.callWith_KW (first := [.ref a]) (h₀ := X.base) I.ok.mod.kin hm.kp hall ?_ hpl hst
  refine thn (ha.run pos pins s1 σ H1 _ I1 q) fun us s2 ⟨vs, H2, I2, r, q2⟩ => ?_
  refine thn (hkw.run pos pins s2 σ H2 _ I2 q2) fun ws s3 ⟨zs, H3, I3, rz, z, ez, hz, q3⟩ => ⟨I3.kIn, ?_⟩
  rw [hks]
  subst ez
  cases rz with
  | cons rz rn =>
    cases rn
    exact run_sk (ku := some _) (kv := some z) (v0 := .ref a) F hr hx I3 rfl r rz hz q3
theorem pe_skK0 (he : PE X o ta) (c : Cls X.K C) (hm : Meth X.K C m f) (F : FnSk X.prog X.w X.K X.mg X.base CX k f n d sp) (hr : Room k X.A) (hx : Passes CX X E) (hkw : PK X kws tk)
    (hall : (backToKw pos (keywordEach kws X.env)).all (·.1.isSome) = true := by rfl) (hks : (backToKw pos (keywordEach kws X.env)).filterMap (·.1) = [n] := by rfl)
    (hpl : ((backTo pos (starEach [] X.env)).any (·.1) || (backToKw pos (keywordEach kws X.env)).any (·.1.isNone)) = false := by rfl)
    (ht : eval (.Call (.Attribute o m apos) [] kws pos) X.env = (do
      let ov ← eval o X.env
      standAt apos.atName
      let (f, first) ← holding [ov] (getMethod ov m pl)
      callWith pos f first (backTo pos (starEach [] X.env)) (backToKw pos (keywordEach kws X.env))) := by rfl) :
    PE X (.Call (.Attribute o m apos) [] kws pos) (tSkK C m sp E ta tNil tk) := by
  refine ⟨fun pins s σ H Q I h => ?_⟩
  refine PySem.W.methodCall_KW (pl := pl) (thn (he.run pins s σ H _ I h) fun u s1 ⟨x, H1, I1, rx, a, dx, fs, ex, ea, l, q⟩ => ?_) ht
  subst ex
  obtain rfl : u = Value.ref a := rx
  refine getmeth_ok I1 ea c hm l ?_
  refine PySem.W.callWith_KW0 (first := [.ref a]) (h₀ := X.base) I.ok.mod.kin hm.kp hall ?_ hpl
  refine thn (hkw.run pos pins s1 σ H1 _ I1 q) fun ws s3 ⟨zs, H3, I3, rz, z, ez, hz, q3⟩ => ⟨I3.kIn, ?_⟩
  rw [hks]
  subst ez
  cases rz with
  | cons rz rn =>
    cases rn
    exact run_sk (us := []) (vs := []) (ku := some _) (kv := some z) (v0 := .ref a) F hr hx I3 rfl .nil rz hz q3
end
/-! ### o.m(*xs, n=e) -/
section
variable {M : Model} {A : Around} {E : Value → Shared → Prop} {s : Shared}
theorem call_SK {f : Value} {first : List Value} {pos : Pos} {Q : Value → Shared → Prop} {P : Heap → Prop} {args : List (Bool × Sem Value)} {kws : List (Option Str × Sem Value)} (hst : args.any (·.1) = true)
    (hk : ∀ h, P h → ∃ k, (k = Keeper.frame ∨ k = Keeper.machine ∨ k = Keeper.boundFrame) ∧ PySem.W.Looks M h (keeperOf f) k)
    (h : wpAny M A (evalArgs f true args kws) (fun a s₁ => P s₁.heap ∧ wpAny M A (call f (first ++ a.pos) a.kw) Q E s₁) E s) : wpAny M A (callWith pos f first args kws) Q E s := by
  unfold callWith
  refine wpAny_bind (wpAny_holding (wpAny_mono h (fun a s₁ h₁ => wpAny_bind (wpAny_standAt ?_)) fun _ _ x => x))
  obtain ⟨k, hk', L⟩ := hk _ h₁.1
  simp only [hst, Bool.true_or]
  refine wpAny_bind (L.here ?_)
  have tail : ∀ {t : Sem Value}, wpAny M A t Q E s₁ → wpAny M A (t >>= fun r => holding [r] point >>= fun _ => pure r) Q E s₁ :=
    fun ht => wpAny_bind (wpAny_mono ht (fun r s₂ hr => wpAny_bind (wpAny_holding (wpAny_point (wpAny_pure hr)))) fun _ _ x => x)
  have marked (mk : Value) : wpAny M A (callMarked mk f (first ++ a.pos) a.kw) Q E s₁ := by unfold callMarked; exact Calls.wpAny_keep h₁.2
  rcases hk' with rfl | rfl | rfl <;> dsimp only <;> first | exact tail (marked _) | exact tail (wpAny_operating h₁.2)
theorem lone_SK {f : Value} {x : Sem Value} {pos : Pos} {Q : Args → Shared → Prop} {kws : List (Option Str × Sem Value)} (hall : kws.all (·.1.isSome) = true)
    (h : wpAny M A x (fun v s₁ => wpAny M A (evalAll (kws.map (·.2))) (fun ks s₂ => PySem.W.StarOf M A E v (fun vs s₃ => Q ⟨vs, (kws.filterMap (·.1)).zip ks⟩ s₃) s₂) E s₁) E s) :
    wpAny M A (evalArgs f true [(true, (do let v ← x; standAt pos; pure v))] kws) Q E s := by
  unfold evalArgs
  first
    | refine wpAny_bind (wpAny_bind (wpAny_mono h (fun v s₁ h₁ => wpAny_bind (wpAny_standAt (wpAny_pure ?_))) fun _ _ x => x))
    | refine wpAny_bind (wpAny_bind (wpAny_bind (wpAny_mono h (fun v s₁ h₁ => wpAny_bind (wpAny_standAt (wpAny_pure (wpAny_pure ?_)))) fun _ _ x => x)))
  refine wpAny_holding ?_
  simp only [hall, if_true]
  refine wpAny_bind (wpAny_mono h₁ (fun ks s₂ h₂ => ?_) fun _ _ x => x)
  unfold PySem.W.StarOf at h₂
  refine wpAny_bind (wpAny_bind (wpAny_mono h₂ (fun b s₃ h₃ => ?_) fun _ _ x => x))
  obtain ⟨rfl, h₃⟩ := h₃
  try simp only [Bool.false_eq_true, if_false]
  have z := wpAny_holding (vs := ((kws.filterMap (·.1)).zip ks).map (·.2)) (wpAny_mono h₃ (fun vs s₄ h₄ => (wpAny_pure h₄ : wpAny M A (pure (⟨vs, (kws.filterMap (·.1)).zip ks⟩ : Args)) Q E s₄)) fun _ _ x => x)
  first
    | exact z
    | exact wpAny_bind (wpAny_pure z)
end
def tSkS (K : PySem.W.Frag) (C : Addr) (m : Str) (sp : Sp) (E : XK) (ta te : TE) (tk : TA) : TE := fun σ H Q => ta σ H fun x H1 => ∃ a dx fs, x = .ref a ∧ H1 a = some (.ins C dx fs) ∧ fs.lookup m = none ∧
  te σ H1 fun y H2 => ∃ q, y = .ref q ∧ tk σ H2 fun zs H3 => ∃ z xs, zs = [z] ∧ (SqT K H3 q xs ∨ SqL K H3 q xs) ∧ xs.length ≤ sizeLine ∧ ∀ p, H3 p = none → sp [x, z, .ref p] (L2.upd H3 p (.tup xs)) Q E
section
variable {X : Cx} {CX : CXT} {k : Nat} {f C : Addr} {n : Str} {d : V} {sp : Sp} {E : XK} {m : Str} {pos apos p : Pos} {o e : Expr} {kws : List Keyword} {ta te : TE} {tk : TA} {pl : Sem Bool}
theorem pe_skS (he : PE X o ta) (c : Cls X.K C) (hm : Meth X.K C m f) (F : FnSk X.prog X.w X.K X.mg X.base CX k f n d sp) (hr : Room k X.A) (hx : Passes CX X E) (ha : PE X e te) (hkw : PK X kws tk)
    (hall : (backToKw pos (keywordEach kws X.env)).all (·.1.isSome) = true := by rfl) (hks : (backToKw pos (keywordEach kws X.env)).filterMap (·.1) = [n] := by rfl)
    (hst : backTo pos (starEach [.Starred e p] X.env) = [(true, (do let v ← eval e X.env; standAt pos; pure v))] := by rfl)
    (ht : eval (.Call (.Attribute o m apos) [.Starred e p] kws pos) X.env = (do
      let ov ← eval o X.env
      standAt apos.atName
      let (f, first) ← holding [ov] (getMethod ov m pl)
      callWith pos f first (backTo pos (starEach [.Starred e p] X.env)) (backToKw pos (keywordEach kws X.env))) := by rfl) :
    PE X (.Call (.Attribute o m apos) [.Starred e p] kws pos) (tSkS X.K C m sp E ta te tk) := by
  refine ⟨fun pins s σ H Q I h => ?_⟩
  refine PySem.W.methodCall_KW (pl := pl) (thn (he.run pins s σ H _ I h) fun u s1 ⟨x, H1, I1, rx, a, dx, fs, ex, ea, l, q⟩ => ?_) ht
  subst ex
  obtain rfl : u = Value.ref a := rx
  refine getmeth_ok I1 ea c hm l ?_
  rw [hst]
  refine call_SK rfl (PySem.W.keeps_K hm.kp) (lone_SK hall (thn (ha.run pins s1 σ H1 _ I1 q) fun v s2 ⟨y, H2, I2, ry, a2, ey, q2⟩ => ?_))
  subst ey
  obtain rfl : v = Value.ref a2 := ry
  refine thn (hkw.run pos pins s2 σ H2 _ I2 q2) fun ws s3 ⟨zs, H3, I3, rz, z, xs, ez, hxs, hz, q3⟩ => ?_
  refine StX.star_any I3 hxs fun us s4 I4 rv => ⟨I4.kIn, ?_⟩
  rw [hks]
  subst ez
  cases rz with
  | cons rz rn =>
    cases rn
    exact run_sk (ku := some _) (kv := some z) (v0 := .ref a) F hr hx I4 rfl rv rz hz q3
end
/-! ### o.m(*xs, n=e): the method object first -/
theorem starcall_kw {M : Model} {A : Around} {E : Value → Shared → Prop} {s : Shared} {env : Env} {o e : Expr} {m : Str} {p apos pos : Pos} {kws : List Keyword} {Q : Value → Shared → Prop} (hbase : attributeBase o m env (eval o env) = eval o env)
    (h : wpAny M A (eval o env) (fun ov s₁ => wpAny M A (getAttr ov m true) (fun f s₂ => wpAny M A (callWith pos f [] (backTo pos [(true, eval e env)]) (backToKw pos (keywordEach kws env))) Q E s₂) E s₁) E s) :
    wpAny M A (eval (.Call (.Attribute o m apos) [.Starred e p] kws pos) env) Q E s := by
  have hse : starEach [.Starred e p] env = [(true, eval e env)] := rfl
  have hform : methodCallForm ([Expr.Starred e p].length + kws.length) (backTo pos [(true, eval e env)]) (backToKw pos (keywordEach kws env)) = false := rfl
  have hpos : methodCallPos false o env apos pos = pure pos := rfl
  have hcal : ∀ ov, calleeOf false o env ov m = (getAttr ov m true >>= fun v => pure (v, [])) := fun _ => rfl
  rw [arm_eval_Call, hbase, hse]
  refine wpAny_bind (wpAny_mono h (fun ov s₁ h₁ => ?_) fun _ _ x => x)
  refine wpAny_bind (wpAny_standAt ?_)
  unfold methodCall
  rw [hform, hpos, hcal]
  refine wpAny_bind (wpAny_holding (wpAny_bind (wpAny_mono h₁ (fun f s₂ h₂ => wpAny_pure ?_) fun _ _ x => x)))
  exact wpAny_bind (wpAny_pure h₂)
def tSkSB (K : PySem.W.Frag) (C g : Addr) (m : Str) (sp : Sp) (E : XK) (ta te : TE) (tk : TA) : TE := fun σ H Q => ta σ H fun x H1 => ∃ a dx fs, x = .ref a ∧ H1 a = some (.ins C dx fs) ∧ fs.lookup m = none ∧
  ∀ q1, H1 q1 = none → te σ (L2.upd H1 q1 (.met g a)) fun y H2 => ∃ q, y = .ref q ∧ tk σ H2 fun zs H3 => ∃ z xs, zs = [z] ∧ (SqT K H3 q xs ∨ SqL K H3 q xs) ∧ xs.length ≤ sizeLine ∧ H3 q1 = some (.met g a) ∧ ∀ p, H3 p = none → sp [x, z, .ref p] (L2.upd H3 p (.tup xs)) Q E
section
variable {X : Cx} {CX : CXT} {k : Nat} {f C : Addr} {n : Str} {d : V} {sp : Sp} {E : XK} {m : Str} {pos apos p : Pos} {o e : Expr} {kws : List Keyword} {ta te : TE} {tk : TA}
theorem run_skc {pins : List (Addr × Obj)} {σ : L2.St} {H : Hp} {s : Shared} {Q : VK} {u0 : Value} {v0 : V} {us : List Value} {vs : List V} {ku : Option Value} {kv : Option V} (F : FnSk X.prog X.w X.K X.mg X.base CX k f n d sp) (hr : Room k X.A) (hx : Passes CX X E)
    (I : Inv X pins σ H s) (r0 : RelV v0 u0) (r : Vals vs us) (rk : match ku, kv with | some u, some v => RelV v u | none, none => True | _, _ => False) (hz : vs.length ≤ sizeLine) (h : ∀ p, H p = none → sp [v0, kv.getD d, .ref p] (L2.upd H p (.tup vs)) Q E) :
    codeAny (model X.prog X.w) X.A (.call (.ref f) ⟨u0 :: us, kwOf n ku⟩) (fun r s' => match r with | .ok (.ret v) => EP X pins σ Q v s' | .ok _ => False | .error e => X.xe e s') s := by
  refine codeAny_mono (F X.A X.stack s H u0 v0 us vs ku kv Q E hr I.env0 r0 r rk hz h) fun r s' hq => ?_
  cases r with
  | error e => exact hx pins σ H s e s' I hq
  | ok fl =>
    cases fl with
    | ret u => exact I.after hq
    | next => exact False.elim hq
    | brk => exact False.elim hq
    | cont => exact False.elim hq
theorem bmeth_of (hm : Meth X.K C m f) (b : PySem.W.specialIn X.K (.ref f) "__get__" = some (some (.builtin "function.__get__")) ∧ PySem.W.takesIn X.K (.ref f) = some false ∧ PySem.W.fnIn X.K f = true) (hc : PySem.W.copiedNames.contains m = false) : L2.BMeth X.K C m f := ⟨hm, b.1, b.2.1, hc, b.2.2⟩
theorem pe_skSB (he : PE X o ta) (c : Cls X.K C) (b : L2.BMeth X.K C m f) (F : FnSk X.prog X.w X.K X.mg X.base CX k f n d sp) (hr : Room k X.A) (hx : Passes CX X E) (ha : PE X e te) (hkw : PK X kws tk)
    (hall : (backToKw pos (keywordEach kws X.env)).all (·.1.isSome) = true := by rfl) (hks : (backToKw pos (keywordEach kws X.env)).filterMap (·.1) = [n] := by rfl)
    (hst : backTo pos [(true, eval e X.env)] = [(true, (do let v ← eval e X.env; standAt pos; pure v))] := by rfl)
    (hbase : attributeBase o m X.env (eval o X.env) = eval o X.env := by rfl) :
    PE X (.Call (.Attribute o m apos) [.Starred e p] kws pos) (tSkSB X.K C f m sp E ta te tk) := by
  refine ⟨fun pins s σ H Q I h => ?_⟩
  refine starcall_kw hbase (thn (he.run pins s σ H _ I h) fun u s1 ⟨x, H1, I1, rx, a, dx, fs, ex, ea, l, q⟩ => ?_)
  subst ex
  obtain rfl : u = Value.ref a := rx
  refine L2.getbound_ok I1 ea c b l fun q1 s2 hq1 I2 => ?_
  rw [hst]
  refine call_SK (P := PySem.W.MethP X.K q1 f (.ref a)) rfl (PySem.W.keeps_M b.fi) (lone_SK hall (thn (ha.run pins s2 σ _ _ I2 (q q1 hq1)) fun v s3 ⟨y, H2, I3, ry, a2, ey, q2⟩ => ?_))
  subst ey
  obtain rfl : v = Value.ref a2 := ry
  refine thn (hkw.run pos pins s3 σ H2 _ I3 q2) fun ws s4 ⟨zs, H3, I4, rz, z, xs, ez, hxs, hz, hm, q3⟩ => ?_
  refine StX.star_any I4 hxs fun us s5 I5 rv => ⟨L2.met_P I5 hm, ?_⟩
  rw [hks]
  subst ez
  cases rz with
  | cons rz rn =>
    cases rn
    exact wpAny_call (PySem.W.method_call (L2.met_P I5 hm).1 (run_skc (ku := some _) (kv := some z) (v0 := .ref a) F hr hx I5 rfl rv rz hz q3))
end
/-! ### from the def as it stands behind the top -/
section
variable {CX : CXT} {P : Program} {w : World} {K : PySem.W.Frag} {mg : Str → Option Value} {base : Heap} {k : Nat} {f : Addr} {x qual : Str} {params : Arguments} {body : List Stmt} {scope : Scope} {fd : FuncData} {N : List Str} {sp : Sp} {p0 n pv : Str} {d : V}
theorem fnsk_of (F : FunD K x qual params body scope [] [(n, d)] f fd) (S : FnScope N [p0, n, pv] scope) (hCX : StX.CXUp CX)
    (hb1 : ∀ (D : Addr) (doc pm : Value) (an : Option Addr) (cdv ct u : Value) (us : List Value) (v : Value), bindArgs (PySem.W.fnOf x qual params body scope .none (.ref D) doc pm an cdv ct) ⟨u :: us, [(n, v)]⟩ = (newTuple us >>= fun t => pure [(p0, u), (n, v), (pv, t)]))
    (hb0 : ∀ (D : Addr) (doc pm : Value) (an : Option Addr) (cdv ct u : Value) (us : List Value) (v : Value), ∃ (β γ : Type) (k1 : Option Value → Sem β) (k2 : β → Sem γ) (k3 : γ → Sem (List (Str × Value))) (a : β),
      bindArgs (PySem.W.fnOf x qual params body scope .none (.ref D) doc pm an cdv ct) ⟨u :: us, []⟩ = ((nsGet D n >>= k1) >>= k2) >>= k3 ∧ k1 (some v) = pure a ∧ (k2 a >>= k3) = (newTuple us >>= fun t => pure [(p0, u), (n, v), (pv, t)]))
    (hbody : ∀ (cdv : Value) (A : Around) (outer : List Env) (s : Shared) (H : Hp) (vs : List V) (Q : VK) (E : XK), Room k (A.deeper (envOfC qual scope s.heap.objs.size f cdv)) → sp vs H Q E →
      ∃ t, PSs (cxOf CX P w K mg base N qual scope f cdv A outer s H E) body t ∧ t { nx := fun _ H' => Q .non H', rt := Q } (L2.start N vs) H) : FnSk P w K mg base CX (k + 1) f n d sp := by
  obtain ⟨oc, od, dV, kV, doc, pm, an, cdv, ct, osl, rfl, lk, hcd, hD, hK⟩ := F.ex
  rcases hD with ⟨_, rfl⟩ | ⟨e, _⟩
  · rcases hK with e | ⟨D, rfl, hq⟩
    · cases e
    · obtain ⟨du, hdu, rdu⟩ := hq (n, d) List.mem_cons_self
      refine fn_sk lk hcd S hCX rdu (hb1 D doc pm an cdv ct) (fun u us A' Ex Q s KX h => ?_) (hbody cdv)
      obtain ⟨β, γ, k1, k2, k3, a, e1, e2, e3⟩ := hb0 D doc pm an cdv ct u us du
      rw [e1, bind_assoc, bind_assoc]
      refine wpAny_bind ((PySem.W.looks_nsIn KX hdu).here ?_)
      rw [e2]
      refine wpAny_bind (wpAny_pure ?_)
      rw [e3]
      exact h
  · exact absurd rfl e
end
section
/-- the shape of Store.turn: the two bindings come by rfl -/
example {x qual a0 a1 a2 : Str} {q0 q1 q2 : Pos} {e : Expr} {body : List Stmt} {scope : Scope} (D : Addr) (doc pm : Value) (an : Option Addr) (cdv ct u : Value) (us : List Value) (v : Value) :
    bindArgs (PySem.W.fnOf x qual ⟨[], [⟨"self", none, q0⟩], some ⟨"things", none, q1⟩, [⟨"skip", none, q2⟩], [some e], none, []⟩ body scope .none (.ref D) doc pm an cdv ct) ⟨u :: us, [("skip", v)]⟩ = (newTuple us >>= fun t => pure [(("self" : Str), u), (("skip" : Str), v), (("things" : Str), t)]) := by
  cases us <;> rfl
example {x qual : Str} {q0 q1 q2 : Pos} {e : Expr} {body : List Stmt} {scope : Scope} (D : Addr) (doc pm : Value) (an : Option Addr) (cdv ct u : Value) (us : List Value) (v : Value) :
    ∃ (β γ : Type) (k1 : Option Value → Sem β) (k2 : β → Sem γ) (k3 : γ → Sem (List (Str × Value))) (a : β),
      bindArgs (PySem.W.fnOf x qual ⟨[], [⟨"self", none, q0⟩], some ⟨"things", none, q1⟩, [⟨"skip", none, q2⟩], [some e], none, []⟩ body scope .none (.ref D) doc pm an cdv ct) ⟨u :: us, []⟩ = ((nsGet D "skip" >>= k1) >>= k2) >>= k3 ∧ k1 (some v) = pure a ∧ (k2 a >>= k3) = (newTuple us >>= fun t => pure [(("self" : Str), u), (("skip" : Str), v), (("things" : Str), t)]) := by
  cases us <;> exact ⟨_, _, _, _, _, _, rfl, rfl, rfl⟩
end
end Hue

set_option Elab.async false
set_option linter.all false
set_option maxRecDepth 100000
set_option maxHeartbeats 1000000
/-! small sets of tuples of ints and texts: add, sorted -/
namespace Hue
open PySem PySem.Spec PyProof.Rows L2
abbrev MKey := List Key
abbrev mhash (P : Program) (w : World) (k : MKey) : Int := tupleKeyHash (mixKind P w) k
/-- the tuple at b has these items -/
abbrev IsM (P : Program) (w : World) (h : Heap) (k : MKey) (b : Addr) : Prop := IsTupleKey (mixKind P w) h k b
section
variable {P : Program} {w : World} {A : Around} {E : Value → Shared → Prop} {s : Shared}
theorem m_items {k : MKey} {vs : List Value} (h : ItemsAre (mixKind P w) k vs) : ∀ v ∈ vs, (∀ n, ofAClassStatement n v = pure false) ∧ ∀ n, ∃ b, hashByValue n v = pure b := by
  induction h with
  | nil => intro v hv; cases hv
  | @cons k0 v' ks vs h1 _ ih =>
    intro v hv
    rcases List.mem_cons.mp hv with e | hv
    · subst e
      rcases keyIs_shape h1 with ⟨i, t, _, rfl⟩ | ⟨x, t, _, rfl⟩
      · exact ⟨fun n => by cases n <;> rfl, fun n => ⟨_, hashByValue_scannable n rfl⟩⟩
      · exact ⟨fun n => by cases n <;> rfl, fun n => ⟨_, hashByValue_scannable n rfl⟩⟩
    · exact ih v hv
theorem m_class {k : MKey} {b : Addr} {Q : Bool → Shared → Prop} (hk : IsM P w s.heap k b) (h : Q false s) : wpAny (model P w) A (ofAClassStatement 8 (.ref b)) Q E s := by
  have hT := hk.typeIs
  obtain ⟨o, items, n, ho, _, hd, hi⟩ := hk
  unfold ofAClassStatement
  refine wpAny_bind (wpAny_typeOf hT ?_)
  have e : (("tuple" : String) == "tuple") = true := by decide
  simp only [e, if_true, Bool.not_true, Bool.false_eq_true, if_false]
  show wpAny _ _ (seqItems? (.ref b) >>= _) _ _ s
  refine wpAny_bind (wpAny_seqItems ho hd ?_)
  refine wpAny_bind ?_
  show wpAny _ _ (forIn items _ _) _ _ s
  rw [← Array.forIn_toList]
  refine wpAny_forIn_list _ (fun rest r s' => r.1 = none ∧ s' = s ∧ ∀ v ∈ rest, v ∈ items.toList) _ ?_ ?_ _ _ ⟨rfl, rfl, fun v hv => hv⟩
  · rintro v rest r s' ⟨hr, rfl, hall⟩
    rw [(m_items hi v (hall v List.mem_cons_self)).1]
    refine wpAny_bind (wpAny_pure ?_)
    simp only [Bool.false_eq_true, if_false]
    exact wpAny_pure ⟨rfl, rfl, fun u hu' => hall u (List.mem_cons_of_mem _ hu')⟩
  · rintro ⟨r1, r2⟩ s' ⟨hr, rfl, _⟩
    simp only at hr
    subst hr
    exact wpAny_pure h
theorem m_byValue {k : MKey} {b : Addr} {Q : Bool → Shared → Prop} (hk : IsM P w s.heap k b) (h : ∀ b, Q b s) : wpAny (model P w) A (hashByValue 8 (.ref b)) Q E s := by
  have hT := hk.typeIs
  obtain ⟨o, items, n, ho, _, hd, hi⟩ := hk
  unfold hashByValue
  refine wpAny_bind (wpAny_specialOf hT F.slot_tuple_hash.lookup ?_)
  show wpAny _ _ (seqItems? (.ref b) >>= _) _ _ s
  refine wpAny_bind (wpAny_seqItems ho hd ?_)
  refine wpAny_bind ?_
  show wpAny _ _ (forIn items _ _) _ _ s
  rw [← Array.forIn_toList]
  refine wpAny_forIn_list _ (fun rest r s' => r.1 = none ∧ s' = s ∧ ∀ v ∈ rest, v ∈ items.toList) _ ?_ ?_ _ _ ⟨rfl, rfl, fun v hv => hv⟩
  · rintro v rest r s' ⟨hr, rfl, hall⟩
    obtain ⟨c, hc⟩ := (m_items hi v (hall v List.mem_cons_self)).2 7
    rw [hc]
    refine wpAny_bind (wpAny_pure ?_)
    cases c with
    | true =>
      simp only [Bool.not_true, Bool.false_eq_true, if_false]
      exact wpAny_pure ⟨rfl, rfl, fun u hu' => hall u (List.mem_cons_of_mem _ hu')⟩
    | false =>
      simp only [Bool.not_false, if_true]
      exact wpAny_pure (wpAny_pure (h _))
  · rintro ⟨r1, r2⟩ s' ⟨hr, rfl, _⟩
    simp only at hr
    subst hr
    exact wpAny_pure (h _)
/-- nothing of the search can be seen -/
theorem m_seen {k : MKey} {b : Addr} {Q : Bool → Shared → Prop} (hk : IsM P w s.heap k b) {ys : List Value} (hy : ∀ y ∈ ys, ∃ k' c, y = Value.ref c ∧ IsM P w s.heap k' c) (h : Q false s) :
    wpAny (model P w) A (searchCouldBeSeen (.ref b) ys) Q E s := by
  unfold searchCouldBeSeen
  refine wpAny_bind ?_
  refine wpAny_forIn_list _ (fun rest r s' => r.1 = none ∧ s' = s ∧ ∀ y ∈ rest, ∃ k' c, y = Value.ref c ∧ IsM P w s.heap k' c) _ ?_ ?_ _ _ ⟨rfl, rfl, hy⟩
  · rintro v rest r s' ⟨hr, rfl, hall⟩
    obtain ⟨k', c, rfl, hc⟩ := hall v List.mem_cons_self
    have more : ∀ y ∈ rest, ∃ k' c, y = Value.ref c ∧ IsM P w s'.heap k' c := fun u hu' => hall u (List.mem_cons_of_mem _ hu')
    dsimp only
    by_cases hv : (b == c || (carriedByValue (.ref b) && carriedByValue (.ref c))) = true
    · exact wp_if_pos hv (wpAny_pure ⟨rfl, rfl, more⟩)
    · refine wp_if_neg hv (wpAny_bind (wpAny_eqIsQuiet_tuple hk ?_))
      simp only [Bool.not_true, Bool.false_eq_true, if_false]
      refine wpAny_bind (wpAny_eqIsQuiet_tuple hc ?_)
      simp only [Bool.not_true, Bool.false_eq_true, if_false]
      refine wpAny_bind (m_class hk ?_)
      simp only [Bool.false_eq_true, if_false]
      refine wpAny_bind (m_class hc ?_)
      simp only [Bool.false_eq_true, if_false]
      exact wpAny_pure ⟨rfl, rfl, more⟩
  · rintro ⟨r1, r2⟩ s' ⟨hr, rfl, _⟩
    simp only at hr
    subst hr
    exact wpAny_pure h
/-! ### the set -/
abbrev MRow := Addr × MKey
def mrows (P : Program) (w : World) (L : List MRow) : List (Int × Value) := L.map fun p => (mhash P w p.2, Value.ref p.1)
/-- at most four members, in a table of eight -/
structure MAt (P : Program) (w : World) (h : Heap) (a : Addr) (L : List MRow) (es : Array (Int × Value)) (ep : Nat) (t : SetTable) : Prop where
  ob : ∃ o, h.get? a = some o ∧ o.ExactSet ∧ o.data = .set es ep t
  rows : es.toList = mrows P w L
  tab : TabOk t (L.map fun p => mhash P w p.2)
  nd : (L.map (·.2)).Nodup
  led : w.params.followText "set-order" = true ∨ t.led = true
  seven : t.mask = 7
  few : L.length ≤ 4
def MTups (P : Program) (w : World) (h : Heap) (L : List MRow) : Prop := ∀ p ∈ L, IsM P w h p.2 p.1
variable {a : Addr} {L : List MRow} {es : Array (Int × Value)} {ep : Nat} {t : SetTable}
theorem MAt.size (R : MAt P w s.heap a L es ep t) : es.size = L.length := by
  have h := congrArg List.length R.rows
  rw [mrows, Array.length_toList, List.length_map] at h
  exact h
theorem MAt.fits (R : MAt P w s.heap a L es ep t) : t.fits es.size = true := by
  have h1 := R.tab.sz
  rw [List.length_map] at h1
  have h2 := R.size
  have h3 := R.few
  have h4 := R.seven
  unfold SetTable.fits SetTable.fill
  rw [R.tab.dm, Bool.and_eq_true, beq_iff_eq, decide_eq_true_eq]
  show t.place.size = es.size ∧ t.place.size + 0 ≤ t.mask
  omega
theorem MAt.entry (R : MAt P w s.heap a L es ep t) {i : Nat} {p : MRow} (h : L[i]? = some p) : es[i]? = some (mhash P w p.2, Value.ref p.1) := by
  rw [← Array.getElem?_toList, R.rows, mrows, List.getElem?_map, h]
  rfl
theorem MAt.gw (R : MAt P w s.heap a L es ep t) : ¬ t.gaveWay = true := by
  unfold SetTable.gaveWay
  rw [R.seven]
  decide
/-- the n-th state of a search that begins anew -/
abbrev stepAt (t : SetTable) (h : Int) (n : Nat) : SetTable.Probe := nth t.mask (runAt t.mask (SetTable.bits h % (t.mask + 1)) (SetTable.bits h)) n
theorem step_clean (t : SetTable) (h : Int) (n : Nat) : (stepAt t h n).dummy = none := by
  have key : ∀ (n : Nat) (p : SetTable.Probe), p.dummy = none → (nth t.mask p n).dummy = none := by
    intro n
    induction n with
    | zero => intro p h; exact h
    | succ n ih =>
      intro p h
      refine ih (adv t.mask p) ?_
      unfold adv
      split <;> exact h
  exact key n _ rfl
theorem step_more (t : SetTable) (h : Int) (c q : Nat) : nth t.mask (stepAt t h c) q = stepAt t h (c + q) := (nth_add t.mask c _ q).symm
/-- what a search that adds k finds, from its c-th step on: K is its first empty place -/
theorem m_search (R : MAt P w s.heap a L es ep t) (hL : MTups P w s.heap L) {x : Addr} {k : MKey} (hx : IsM P w s.heap k x) (hu : A.units < cLine) {K : Nat} (hKf : K < 10 * SetTable.turns t.mask)
    (hK : way t.mask (mhash P w k) K ∉ t.place.toList) (hKb : ∀ c, c < K → way t.mask (mhash P w k) c ∈ t.place.toList) {Q : SetFound → Shared → Prop}
    (hin : k ∈ L.map (·.2) → Q (.there none) s) (hout : k ∉ L.map (·.2) → Q (.free (way t.mask (mhash P w k) K) false) s) :
    ∀ (f c : Nat) (stand : Option SetTable.Probe), stand.getD (t.probeStart (mhash P w k)) = stepAt t (mhash P w k) c → c ≤ K → K - c < f →
      (∀ (i : Nat) p, L[i]? = some p → p.2 = k → ∃ c', c ≤ c' ∧ c' < K ∧ t.place.toList[i]? = some (way t.mask (mhash P w k) c')) →
      wpAny (model P w) A (setSearchFrom a (.ref x) (mhash P w k) true f stand) Q E s
  | 0, c, stand, _, _, hf, _ => absurd hf (Nat.not_lt_zero _)
  | f + 1, c, stand, hst, hc, hf, hre => by
    generalize hh : mhash P w k = hk at hKf hK hKb hout hst hre ⊢
    obtain ⟨o, ho, hex, hd⟩ := R.ob
    rw [setSearchFrom_succ]
    refine wpAny_bind (wpAny_setState_of ho hd R.fits ?_)
    dsimp only
    refine wp_if_neg R.gw ?_
    try refine wpAny_bind (wpAny_pure ?_)
    have at_q : ∀ q, (nth t.mask (stepAt t hk c) q).j = way t.mask hk (c + q) := fun q => congrArg SetTable.Probe.j (step_more t hk c q)
    have spec := go_spec t R.tab.ris R.tab.dm (fun i => (es[i]?.map (·.1)).getD 0) hk (10 * SetTable.turns t.mask) (K - c) _ (step_clean t hk c) (by omega)
      (fun q hq => by rw [at_q]; exact hKb (c + q) (by omega)) (by rw [at_q, show c + (K - c) = K by omega]; exact hK)
    have hashAt : ∀ (i : Nat) p, L[i]? = some p → (fun i => (es[i]?.map (·.1)).getD 0) i = mhash P w p.2 := fun i p hp => by
      show (es[i]?.map (·.1)).getD 0 = _
      rw [R.entry hp] <;> rfl
    rcases spec with ⟨q, i, hq, hi, hhash, hno, hpr⟩ | ⟨hno, hpr⟩
    · have hpr' : t.probe (fun i => (es[i]?.map (·.1)).getD 0) hk (stand.getD (t.probeStart hk)) = some (.candidate (way t.mask hk (c + q)) i (stepAt t hk (c + (q + 1)))) := by
        rw [hst, ← at_q, ← step_more]
        exact hpr
      rw [hpr']
      dsimp only
      rw [at_q] at hi
      have hil : i < L.length := by
        have h1 : i < t.place.toList.length := (List.getElem?_eq_some_iff.mp hi).1
        have h2 := R.tab.sz
        rw [List.length_map] at h2
        rw [Array.length_toList] at h1
        omega
      have hp : L[i]? = some L[i] := List.getElem?_eq_getElem hil
      generalize hpe : L[i] = p at hp
      have hmem : p ∈ L := List.mem_of_getElem? hp
      have rest : wpAny (model P w) A (searchRest a (.ref x) hk true f es t (way t.mask hk (c + q)) i (stepAt t hk (c + (q + 1)))) Q E s := by
        unfold searchRest
        rw [R.entry hp]
        dsimp only
        refine wpAny_bind (wpAny_holding (wpAny_eqBool_tuple hu (hL p hmem) hx ?_))
        refine wpAny_bind (wpAny_setState_of ho hd R.fits ?_)
        dsimp only
        by_cases hkk : p.2 = k
        · exact wp_if_pos (by simp [hkk]) (wpAny_pure (hin (List.mem_map.mpr ⟨p, hmem, hkk⟩)))
        · refine wp_if_neg (by simp [hkk]) ?_
          try refine wpAny_bind (wpAny_pure ?_)
          rw [sameMem]
          dsimp only
          have hsl : t.slot (way t.mask hk (c + q)) = .live i := slot_live R.tab.ris hi
          simp only [if_true, hsl, R.entry hp]
          refine wpAny_bind (wpAny_isSame_ref_self (wpAny_bind (wpAny_pure ?_)))
          simp only [if_true]
          refine wp_if_neg (by simp [hkk]) ?_
          subst hh
          refine m_search R hL hx hu hKf hK hKb hin hout f (c + (q + 1)) _ rfl (by omega) (by omega) fun i0 p0 h0 hk0 => ?_
          obtain ⟨c', a1, a2, a3⟩ := hre i0 p0 h0 hk0
          refine ⟨c', ?_, a2, a3⟩
          rcases Nat.lt_trichotomy c' (c + q) with z | z | z
          · exact absurd ((hashAt i0 p0 h0).trans (congrArg (mhash P w) hk0)) (hno (c' - c) i0 (by omega) (by rw [at_q, show c + (c' - c) = c' by omega]; exact a3))
          · rw [z] at a3
            have s0 := slot_live R.tab.ris a3
            rw [hsl] at s0
            injection s0 with s0
            rw [← s0, hp] at h0
            exact absurd ((congrArg Prod.snd (Option.some.inj h0)).trans hk0) hkk
          · omega
      by_cases hl : t.led = true
      · refine wp_if_neg (by simp [hl]) ?_
        try refine wpAny_bind (wpAny_pure ?_)
        exact rest
      · refine wp_if_pos (by simp [hl]) ?_
        refine wpAny_bind (m_seen hx (fun y hy => ?_) ?_)
        · obtain ⟨e, he, ee⟩ := List.mem_map.mp hy
          have he1 : e ∈ es ∧ e.1 = hk := by simpa using he
          have he2 : e ∈ es.toList := by simpa using he1.1
          rw [R.rows] at he2
          obtain ⟨p2, hp2, e2⟩ := List.mem_map.mp he2
          exact ⟨p2.2, p2.1, by rw [← ee, ← e2], hL p2 hp2⟩
        · refine wp_if_neg (by decide) ?_
          try refine wpAny_bind (wpAny_pure ?_)
          exact rest
    · have hpr' : t.probe (fun i => (es[i]?.map (·.1)).getD 0) hk (stand.getD (t.probeStart hk)) = some (.empty (way t.mask hk K) none) := by
        have e2 : way t.mask hk K = (nth t.mask (stepAt t hk c) (K - c)).j := by rw [at_q, show c + (K - c) = K by omega]
        rw [hst, e2]
        exact hpr
      rw [hpr']
      dsimp only
      refine wpAny_pure (hout fun hm => ?_)
      obtain ⟨p0, h0, hk0⟩ := List.mem_map.mp hm
      obtain ⟨i0, hi0, e0⟩ := List.getElem_of_mem h0
      have h00 : L[i0]? = some p0 := by rw [List.getElem?_eq_getElem hi0, e0]
      obtain ⟨c', a1, a2, a3⟩ := hre i0 p0 h00 hk0
      exact absurd (((hashAt i0 p0 h00).trans (congrArg (mhash P w) hk0)).trans hh) (hno (c' - c) i0 (by omega) (by rw [at_q, show c + (c' - c) = c' by omega]; exact a3))
theorem isM_same {h h' : Heap} {k : MKey} {a b : Addr} {o : Obj} {es : Array (Int × Value)} {ep : Nat} {t : SetTable} (hb : IsM P w h k b) (ho : h.get? a = some o) (hd : o.data = .set es ep t) (hs : Heap.SameBut a h h') : IsM P w h' k b := by
  obtain ⟨o', items, n, ho', hc, hd', hi⟩ := hb
  have hne : b ≠ a := by
    rintro rfl
    obtain rfl : o' = o := Option.some.inj (ho'.symm.trans ho)
    rw [hd] at hd'
    exact nomatch hd'
  exact ⟨o', items, n, (hs.2 b hne).trans ho', hc, hd', hi⟩
theorem isM_keep {h h' : Heap} {k : MKey} {b : Addr} (x : IsM P w h k b) (hk : ∀ c o, h.get? c = some o → h'.get? c = some o) : IsM P w h' k b := by
  obtain ⟨o, items, n, ho, r⟩ := x
  exact ⟨o, items, n, hk b o ho, r⟩
/-- set.add's core -/
theorem m_put (R : MAt P w s.heap a L es ep t) (hL : MTups P w s.heap L) {x : Addr} {k : MKey} (hx : IsM P w s.heap k x) (hu : A.units < cLine) (hfew : L.length < 4) {Q : Bool → Shared → Prop}
    (hQ : ∀ b h' L' es' ep' t', Heap.SameBut a s.heap h' → MAt P w h' a L' es' ep' t' → (k ∈ L.map (·.2) → L' = L) → (k ∉ L.map (·.2) → L'.Perm ((x, k) :: L)) → Q b { s with heap := h' }) :
    wpAny (model P w) A (setAddHashed a (.ref x) (mhash P w k)) Q E s := by
  obtain ⟨o, ho, hex, hd⟩ := R.ob
  have hsl := R.size
  have h7 := R.seven
  unfold setAddHashed
  refine wpAny_holding ?_
  rw [show (100000 : Nat) = 99999 + 1 from rfl, setAddHashedIn_succ]
  refine wpAny_bind (wpAny_setState_of ho hd R.fits ?_)
  dsimp only
  refine wp_if_neg (by simp [byScan, Value.scannable]) ?_
  try refine wpAny_bind (wpAny_pure ?_)
  obtain ⟨K, hKf, hK, hKb⟩ := R.tab.first (by rw [List.length_map]; omega) (mhash P w k)
  have hbig : K < 100000 := by
    have : 10 * SetTable.turns t.mask ≤ 1420 := by
      unfold SetTable.turns
      omega
    omega
  unfold setSearch
  refine wpAny_bind (m_search R hL hx hu hKf hK hKb (fun hm => ?_) (fun hm => ?_) 100000 0 none rfl (Nat.zero_le _) (by omega) fun i p hp hk => ?_)
  · exact wpAny_pure (hQ false s.heap L es ep t (Heap.SameBut.refl a s.heap) R (fun _ => rfl) fun z => absurd hm z)
  · dsimp only
    refine wpAny_bind (wpAny_setState_of ho hd R.fits ?_)
    dsimp only
    obtain ⟨q1, q2, q3, q4, q5, q6, q7, q8, q9⟩ := R.tab.put hK hKb
    generalize hpt : t.put (way t.mask (mhash P w k) K) = pt at q1 q3 q4 q5 q6 q7 q8 q9 ⊢
    obtain ⟨t1, p⟩ := pt
    dsimp only at q1 q3 q4 q5 q6 q7 q8 q9 ⊢
    subst q1
    have goal : ∀ (bv : Bool) (t2 : SetTable), (if bv = true then t1 else { t1 with plain := false }) = t2 → wpAny (model P w) A (do
        storeSet a (SetTable.insertAt es (SetTable.below t.place (way t.mask (mhash P w k) K)) (mhash P w k, Value.ref x)) t2
        if (!false && t2.tooFull) = true then setRelay a (SetTable.grown (es.size + 1))
        return true) Q E s := fun bv t2 e2 => by
      have tk : t2.place = t1.place ∧ t2.dummies = t1.dummies ∧ t2.mask = t1.mask ∧ t2.led = t1.led := by
        subst e2
        cases bv
        · exact ⟨rfl, rfl, rfl, rfl⟩
        · exact ⟨rfl, rfl, rfl, rfl⟩
      obtain ⟨z1, z2, z3, z4⟩ := tk
      generalize hpp : SetTable.below t.place (way t.mask (mhash P w k) K) = p at q2 q3 ⊢
      have hin : (SetTable.insertAt es p (mhash P w k, Value.ref x)).toList = mrows P w (L.take p ++ (x, k) :: L.drop p) := by
        rw [SetTable.toList_insertAt, R.rows]
        simp only [mrows, List.map_append, List.map_cons, List.map_take, List.map_drop]
      have pm := put_perm L p (x, k)
      have hlen : (L.take p ++ (x, k) :: L.drop p).length = L.length + 1 := pm.length_eq
      have hhs : (L.take p ++ (x, k) :: L.drop p).map (fun p => mhash P w p.2) = (L.map fun p => mhash P w p.2).take p ++ mhash P w k :: (L.map fun p => mhash P w p.2).drop p := by
        rw [List.map_append, List.map_cons, List.map_take, List.map_drop]
      rw [← hhs] at q3
      have nd1 : ((L.take p ++ (x, k) :: L.drop p).map (·.2)).Nodup := by
        refine (pm.map (·.2)).nodup_iff.mpr ?_
        rw [List.map_cons]
        exact List.nodup_cons.mpr ⟨hm, R.nd⟩
      have hes : (SetTable.insertAt es p (mhash P w k, Value.ref x)).size = L.length + 1 := by
        have h := congrArg List.length hin
        rw [mrows, Array.length_toList, List.length_map, hlen] at h
        exact h
      generalize SetTable.insertAt es p (mhash P w k, Value.ref x) = es1 at hin hes ⊢
      generalize L.take p ++ (x, k) :: L.drop p = L1 at pm hlen q3 nd1 hin
      refine wpAny_bind (wpAny_storeSet_of ho hd ?_ (by rw [hes, sizeLine_eq]; omega))
      have sb : Heap.SameBut a s.heap (s.heap.update a (Obj.putSet es1 t2)) := Heap.SameBut.update ..
      have ho1 := store_at (es' := es1) (t' := t2) ho hd
      generalize s.heap.update a (Obj.putSet es1 t2) = h1 at sb ho1 ⊢
      have fill2 : t2.fill = t1.fill := by
        unfold SetTable.fill
        rw [z1, z2]
      have notFull : ¬ t2.tooFull = true := by
        unfold SetTable.tooFull
        rw [decide_eq_true_eq, fill2, q9, List.length_map, z3, q4]
        omega
      have tab2 : TabOk t2 (L1.map fun p => mhash P w p.2) := by
        refine ⟨by rw [z1]; exact q3.ris, by rw [z2]; exact q3.dm, by rw [z1]; exact q3.sz, by rw [z3]; exact q3.mok, by rw [z1, z3]; exact q3.bd, fun i h j hi hj => ?_⟩
        rw [z1] at hj
        rw [z1, z3]
        exact q3.reach i h j hi hj
      first
        | refine wp_if_neg (by simp [notFull]) ?_
        | (refine wpAny_bind ?_; refine wp_if_neg (by simp [notFull]) ?_; refine wpAny_pure ?_)
      exact wpAny_pure (hQ true h1 L1 es1 (ep + 1) t2 sb ⟨⟨_, ho1, ⟨hex.1, hex.2.1, hex.2.2⟩, rfl⟩, hin, tab2, nd1, by rw [z4, q5]; exact R.led, by rw [z3, q4]; exact h7, by rw [hlen]; omega⟩ (fun z => absurd z hm) fun _ => pm)
    by_cases hp1 : t1.plain = true
    · refine wp_if_pos hp1 (wpAny_bind (m_byValue hx fun bv => ?_))
      exact goal bv _ rfl
    · refine wp_if_neg hp1 ?_
      exact goal true _ rfl
  · have hi : (L.map fun p => mhash P w p.2)[i]? = some (mhash P w k) := by rw [List.getElem?_map, hp, ← hk] <;> rfl
    have hil : i < t.place.toList.length := by
      have h1 : i < L.length := (List.getElem?_eq_some_iff.mp hp).1
      have h2 := R.tab.sz
      rw [List.length_map] at h2
      rw [Array.length_toList]
      omega
    have hj := List.getElem?_eq_getElem hil
    obtain ⟨c, hc, e⟩ := R.tab.before hK hi hj
    exact ⟨c, Nat.zero_le _, hc, by rw [hj, e]⟩
/-- found.add(x) -/
theorem m_add (R : MAt P w s.heap a L es ep t) (hL : MTups P w s.heap L) {x : Addr} {k : MKey} (hx : IsM P w s.heap k x) (hu : A.units + 1 < cLine) (hfew : L.length < 4) {Q : Value → Shared → Prop}
    (hQ : ∀ tk h' L' es' ep' t', Heap.SameBut a s.heap h' → MAt P w h' a L' es' ep' t' → (k ∈ L.map (·.2) → L' = L) → (k ∉ L.map (·.2) → L'.Perm ((x, k) :: L)) → Q .none { s with heap := h', toks := tk }) :
    wpAny (model P w) A (call (.builtin "set.add") [.ref a, .ref x]) Q E s := by
  obtain ⟨o, ho, hex, hd⟩ := id R.ob
  refine wpAny_call_entry F.slot_set_add ⟨o, ho, hex.1⟩ F.entry_set_add ?_ (F.args_set_add_2 _ _)
  unfold Builtin.«set.add» Builtin.Frozenset.oneOther
  simp only [List.isEmpty_nil, bind_assoc]
  unfold Builtin.Frozenset.addrOf setAdd
  refine wpAny_bind (wpAny_pure ?_)
  try dsimp only
  refine wpAny_bind (wpAny_pure ?_)
  try dsimp only
  refine wpAny_bind ?_
  refine wpAny_holding ?_
  have hu1 : A.in1.units < cLine := hu
  refine wpAny_bind (wpAny_pyHash_tuple hu1 hx ?_)
  refine m_put (s := { s with toks := s.toks + (k.length + 1) }) R hL hx hu1 hfew fun b h' L' es' ep' t' hsb R' c1 c2 => ?_
  show wpAny _ _ (ret Value.none) _ _ _
  exact wpAny_pure ⟨_, rfl, hQ _ h' L' es' ep' t' hsb R' c1 c2⟩
theorem m_fresh {h : Heap} {a : Addr} (ho : h.get? a = some { cls := .type "set", dict := none, data := .set #[] 0 (.fresh 0 0 (!w.params.followText "set-order")) }) : MAt P w h a [] #[] 0 (.fresh 0 0 (!w.params.followText "set-order")) where
  ob := ⟨_, ho, ⟨rfl, rfl, rfl⟩, rfl⟩
  rows := rfl
  tab := ⟨List.Pairwise.nil, rfl, rfl, .inl rfl, fun x hx => (by cases hx), fun i h j hi => (by simp at hi)⟩
  nd := List.nodup_nil
  led := by
    show _ ∨ (!w.params.followText "set-order") = true
    cases w.params.followText "set-order"
    · exact .inr rfl
    · exact .inl rfl
  seven := rfl
  few := Nat.zero_le _
end
/-- as a tracked object -/
structure M0 (P : Program) (w : World) (h : Heap) (a : Addr) (L : List MRow) : Prop where
  ex : ∃ es ep t, MAt P w h a L es ep t
def MSetO (P : Program) (w : World) (a : Addr) (L : List MRow) : HO := .ext fun h => M0 P w h a L
theorem mset_new {P : Program} {w : World} {H : Hp} {h : Heap} {a : Addr} {L : List MRow} (R : M0 P w h a L) : ObjOk P w H h a (MSetO P w a L) := by
  obtain ⟨es, ep, t, R0⟩ := id R.ex
  obtain ⟨o, ho, r⟩ := id R0.ob
  refine ⟨R, ⟨o, ho⟩, fun h1 h2 p k => ?_⟩
  obtain ⟨es', ep', t', R1⟩ := M0.ex p
  obtain ⟨o', ho', r'⟩ := id R1.ob
  exact ⟨es', ep', t', ⟨o', k o' ho', r'⟩, R1.rows, R1.tab, R1.nd, R1.led, R1.seven, R1.few⟩
section
variable {X : Cx}
theorem Inv.isM {pins : List (Addr × Obj)} {σ : L2.St} {H : Hp} {s : Shared} {b : Addr} {k : MKey} (I : Inv X pins σ H s) (h : SqT X.K H b (k.map kV)) : IsM X.prog X.w s.heap k b := by
  obtain ⟨its, r, ⟨o, ho, hc, n, hd⟩, _⟩ := I.tuple h
  exact ⟨o, its.toArray, n, ho, hc, hd, by simpa using items_are r⟩
/-- s.add(x), in the invariant -/
theorem add_M {pins : List (Addr × Obj)} {σ : L2.St} {H : Hp} {s : Shared} {E : Value → Shared → Prop} {D x : Addr} {k : MKey} {L : List MRow} {v : Value} {Q : Value → Shared → Prop} (I : Inv X pins σ H s) (hu : X.A.units + 1 < cLine)
    (hD : H D = some (MSetO X.prog X.w D L)) (hL : ∀ p ∈ L, SqT X.K H p.1 (p.2.map kV)) (hx : SqT X.K H x (k.map kV)) (hf : L.length < 4) (r : RelV (.ref x) v)
    (h : ∀ s' L', Inv X pins σ (upd H D (MSetO X.prog X.w D L')) s' → (k ∈ L.map (·.2) → L' = L) → (k ∉ L.map (·.2) → L'.Perm ((x, k) :: L)) → Q .none s') :
    wpAny (model X.prog X.w) X.A (call (.builtin "set.add") [.ref D, v]) Q E s := by
  cases r
  have R0 : M0 X.prog X.w s.heap D L := (I.hok D _ hD).1
  obtain ⟨es, ep, t, R⟩ := R0.ex
  refine m_add R (fun p hp => Inv.isM I (hL p hp)) (Inv.isM I hx) hu hf fun tk h' L' es' ep' t' sb R' c1 c2 => ?_
  refine h _ L' ?_ c1 c2
  obtain ⟨o', ho', _⟩ := id R'.ob
  exact I.write (t' := tk) (by rw [hD]; trivial) (.inl rfl) (fun b u hb q => (sb.2 b hb).trans q) ⟨o', ho'⟩ (mset_new ⟨es', ep', t', R'⟩)
/-! ### sorted(set) -/
theorem each_perm {α β : Type} {R : α → β → Prop} {us vs : List α} (p : vs.Perm us) : ∀ {bs : List β}, PySem.W.EachIs R us bs → ∃ bs1, bs1.Perm bs ∧ PySem.W.EachIs R vs bs1 := by
  induction p with
  | nil => intro bs h; cases h; exact ⟨[], .nil, .nil⟩
  | cons x _ ih =>
    intro bs h
    cases h with
    | cons r t =>
      obtain ⟨b1, p1, h1⟩ := ih t
      exact ⟨_, p1.cons _, .cons r h1⟩
  | swap x y l =>
    intro bs h
    cases h with
    | cons r t =>
      cases t with
      | cons r2 t2 => exact ⟨_, List.Perm.swap _ _ _, .cons r2 (.cons r t2)⟩
  | trans _ _ ih1 ih2 =>
    intro bs h
    obtain ⟨b2, p2, h2⟩ := ih2 h
    obtain ⟨b1, p1, h1⟩ := ih1 h2
    exact ⟨b1, p1.trans p2, h1⟩
section
variable {P : Program} {w : World} {A : Around} {E : Value → Shared → Prop} {s : Shared}
/-- xs.sort(), the items read while the list is empty -/
theorem sort_read {a : Addr} {n : Nat} {vs : List Value} {bs : List (V × PyData)} {Q : Value → Shared → Prop} (ho : s.heap.get? a = some (seqObj "list" vs.toArray n)) (e : PySem.W.EachIs (fun v (b : V × PyData) => RelV b.1 v) vs bs)
    (er : PySem.W.EachIs (fun v (b : V × PyData) => ∃ as, Reads (PySem.W.sortingHeap s.heap a vs) v b.2 as) vs bs) (hal : PySem.W.AllAlike (bs.map (·.2))) (hk : PySem.W.Sortable (bs.map (·.2))) (hL : bs.length ≤ sizeLine)
    (hu : ∀ b, b ∈ bs → A.units + 1 + b.2.depth < cLine) (h : ∀ out : List Value, out.length = bs.length → PySem.W.EachIs (fun v (b : V × PyData) => RelV b.1 v) out (ascD bs) → Q .none { s with heap := sortedHeap s.heap a vs (List.toArray out) }) :
    wpAny (model P w) A (call (.builtin "list.sort") [.ref a]) Q E s := by
  refine wpAny_call_entry slot_list_sort ⟨_, ho, rfl⟩ entry_list_sort (PySem.W.list_sort_vals (κ := PySem.W.dataKind (PySem.W.sortingHeap s.heap a vs) (bs.map (·.2))) ho
    (PySem.W.SortsAt.data (s := { s with heap := PySem.W.sortingHeap s.heap a vs }) (PySem.W.each_map (R := fun v d => ∃ as, Reads (PySem.W.sortingHeap s.heap a vs) v d as) (fun b : V × PyData => b.2) er) hal hk (PySem.W.bound_map (enc := fun b : V × PyData => b.2) hu)) (by rw [e.length]; exact hL) ⟨.none, rfl, ?_⟩) (args_list_sort _)
  exact h _ (by rw [PySem.W.sortVals_length false rfl]; exact e.length) (PySem.W.sortVals_data (enc := fun b : V × PyData => b.2) false e er hal)
theorem sorted_got {a : Addr} {us : List Value} {bs : List (V × PyData)} {Q : Value → Shared → Prop}
    (hc : ∀ Q1 : List Value → Shared → Prop, (∀ s' out, (∀ b o, s.heap.get? b = some o → s'.heap.get? b = some o) → s.heap.objs.size ≤ s'.heap.objs.size → s'.gens = s.gens → s'.os = s.os → out.Perm us → Q1 out s') → ∀ E1, wpAny (model P w) A.in1 (collect (.ref a)) Q1 E1 s)
    (e : PySem.W.EachIs (fun v (b : V × PyData) => RelV b.1 v ∧ ∃ as, Reads s.heap v b.2 as) us bs) (hal : PySem.W.AllAlike (bs.map (·.2))) (hk : PySem.W.Sortable (bs.map (·.2))) (hL : bs.length ≤ sizeLine) (hu : ∀ b, b ∈ bs → A.units + 2 + b.2.depth < cLine)
    (hQ : ∀ s' p (out : List Value) (c : Nat) (bs1 : List (V × PyData)), (∀ b o, s.heap.get? b = some o → s'.heap.get? b = some o) → s'.gens = s.gens → s'.os = s.os → s.heap.objs.size ≤ p →
      s'.heap.get? p = some (seqObj "list" out.toArray c) → bs1.Perm bs → PySem.W.EachIs (fun v (b : V × PyData) => RelV b.1 v) out (ascD bs1) → Q (.ref p) s') :
    wpAny (model P w) A (call (.builtin "sorted") [.ref a]) Q E s := by
  refine Calls.call_function_entry kind_sorted plain_sorted entry_sorted (args_sorted1 _) ?_
  unfold Builtin.«sorted»
  refine wpAny_bind (m := checkCount "sorted" 1 1 _) (wpAny_pure ?_)
  refine wpAny_bind (hc _ (fun s1 vs k1 hz g1 o1 pm => ?_) _)
  obtain ⟨bs1, pb, e1⟩ := each_perm pm e
  have hl1 : vs.length = bs1.length := e1.length
  have hlb : bs1.length = bs.length := pb.length_eq
  refine wpAny_bind (wpAny_newList ?_ (by omega))
  have hoL : (s1.heap.push (seqObj "list" vs.toArray 0)).get? s1.heap.objs.size = some (seqObj "list" vs.toArray 0) := Heap.get?_push_size _ rfl
  have kp : ∀ b u, s.heap.get? b = some u → (PySem.W.sortingHeap (s1.heap.push (seqObj "list" vs.toArray 0)) s1.heap.objs.size vs).get? b = some u := fun b u h => by
    have q := k1 b u h
    exact PySem.W.sortingHeap_old (Nat.ne_of_lt (Heap.lt_size q)) (Heap.get?_push_of_some _ q)
  have pm2 : (bs1.map (·.2)).Perm (bs.map (·.2)) := pb.map _
  have ea : PySem.W.EachIs (fun v (b : V × PyData) => RelV b.1 v) vs bs1 := each_in e1 fun v b _ r => r.1
  have eb : PySem.W.EachIs (fun v (b : V × PyData) => ∃ as, Reads (PySem.W.sortingHeap (s1.heap.push (seqObj "list" vs.toArray 0)) s1.heap.objs.size vs) v b.2 as) vs bs1 := each_in e1 fun v b _ r => by
    obtain ⟨as, q⟩ := r.2
    exact ⟨as, PyProof.Rows.Reads.keeps kp q⟩
  refine wpAny_bind (wpAny_holding (sort_read (s := { s1 with heap := s1.heap.push (seqObj "list" vs.toArray 0) }) hoL ea eb ?_ ?_ (by omega) (fun b hb => ?_) fun out ho hs => ?_))
  · exact fun d hd d' hd' => hal d (pm2.mem_iff.mp hd) d' (pm2.mem_iff.mp hd')
  · rcases hk with hk | hk
    · exact .inl fun d hd => hk d (pm2.mem_iff.mp hd)
    · exact .inr fun d hd => hk d (pm2.mem_iff.mp hd)
  · have := hu b (pb.mem_iff.mp hb)
    show A.in1.units + 1 + b.2.depth < cLine
    rw [show A.in1.units = A.units + 1 from rfl]
    omega
  · obtain ⟨c, hc⟩ := sortedHeap_at (vs := vs) (out := out.toArray) hoL
    refine wpAny_pure ⟨_, rfl, hQ _ s1.heap.objs.size out c bs1 (fun b u h => ?_) g1 o1 hz hc pb hs⟩
    have q := k1 b u h
    have hlt := Heap.lt_size q
    show (sortedHeap (s1.heap.push (seqObj "list" vs.toArray 0)) s1.heap.objs.size vs out.toArray).get? b = some u
    rw [sortedHeap_old (Nat.ne_of_lt hlt) (by rw [size_push']; exact Nat.lt_succ_of_lt hlt)]
    exact Heap.get?_push_of_some _ q
end
/-- the rows of a set as data -/
def kD : Key → PyData
  | .inl i => .int i
  | .inr x => .str x
def mD (k : MKey) : PyData := .tuple (k.map kD)
theorem kD_dp {K : PySem.W.Frag} {H : Hp} : ∀ k : MKey, DpAll K H (k.map kV) (k.map kD)
  | [] => .nil
  | .inl i :: k => .cons (.int i) (kD_dp k)
  | .inr x :: k => .cons (.str x) (kD_dp k)
theorem mD_dp {K : PySem.W.Frag} {H : Hp} {b : Addr} {k : MKey} (h : SqT K H b (k.map kV)) : Dp K H (.ref b) (mD k) := .tup h (kD_dp k)
def rwB (L : List MRow) : List (V × PyData) := L.map fun q => (V.ref q.1, mD q.2)
theorem each_rows {R : Value → V × PyData → Prop} : ∀ (L : List MRow), (∀ q ∈ L, R (.ref q.1) (V.ref q.1, mD q.2)) → PySem.W.EachIs R (L.map fun q => Value.ref q.1) (rwB L)
  | [], _ => .nil
  | q :: L, h => .cons (h q List.mem_cons_self) (each_rows L fun r hr => h r (List.mem_cons_of_mem _ hr))
/-- a new sorted list, its values rs standing in out -/
theorem Inv.newL {pins : List (Addr × Obj)} {σ : L2.St} {H : Hp} {s s' : Shared} {p : Addr} {rs : List V} {out : List Value} {c : Nat} (I : Inv X pins σ H s) (k : ∀ b o, s.heap.get? b = some o → s'.heap.get? b = some o) (g : s'.gens = s.gens) (o : s'.os = s.os) (hp : s.heap.objs.size ≤ p)
    (hv : Vals rs out) (hl : rs.length ≤ sizeLine) (hg : s'.heap.get? p = some (seqObj "list" out.toArray c)) : Inv X pins σ (upd H p (.lst rs)) s' :=
  I.call' (ch := []) o (Un.laid k hp (I.hok.fresh hp)) (I.hok.laid k hp ⟨hl, out, c, hv, hg⟩) (by rw [g]; exact I.bare) (fun _ z => nomatch z)
def rSortedM (K : PySem.W.Frag) (P : Program) (w : World) : List V → Hp → VK → Prop := fun vs H Q => ∃ (a : Addr) (L : List MRow), vs = [V.ref a] ∧ H a = some (MSetO P w a L) ∧ (∀ q ∈ L, SqT K H q.1 (q.2.map kV)) ∧ PySem.W.AllAlike ((rwB L).map (·.2)) ∧ PySem.W.Sortable ((rwB L).map (·.2)) ∧ (∀ q ∈ L, (mD q.2).depth ≤ 60) ∧
  ∀ (bs : List (V × PyData)) (p : Addr), bs.Perm (rwB L) → (L.map (·.2)).Nodup → H p = none → Q (.ref p) (upd H p (.lst ((ascD bs).map (·.1))))
theorem cr_sortedM (hc : X.calm = true) (hu : X.A.units + 65 < cLine) : CallR X (.builtin "sorted") (rSortedM X.K X.prog X.w) := by
  intro pins s σ H vs us Q I r h
  obtain ⟨a, L, rfl, ha, hk, hal, hs, hdep, q⟩ := h
  have R0 : M0 X.prog X.w s.heap a L := (I.hok a _ ha).1
  obtain ⟨es, ep, t, R⟩ := R0.ex
  obtain ⟨o, ho, hex, hd⟩ := id R.ob
  rw [Vals.ref1 r]
  have hsz := R.size
  have hfew := R.few
  have hlr : (rwB L).length = L.length := by rw [rwB, List.length_map]
  have hes : es.toList.map (·.2) = L.map fun q => Value.ref q.1 := by
    rw [R.rows, mrows, List.map_map]
    rfl
  refine sorted_got (us := L.map fun q => Value.ref q.1) (bs := rwB L) (fun Q1 h1 E1 => ?_) (each_rows L fun q hq => ⟨rfl, (mD_dp (hk q hq)).reads I _ _ _ rfl⟩) hal hs (by rw [hlr, sizeLine_eq]; omega) (fun b hb => ?_) fun s' p out c bs1 k g o2 hp hg pb hout => ?_
  · rw [← hes] at h1
    exact collect_set (A := X.A.in1) (I.ok.hd hc) ⟨o, ho, hex.1, hd⟩ R.fits (by unfold scanBound; omega) R.tab.ris R.led h1
  · obtain ⟨q, hq, rfl⟩ := List.mem_map.mp hb
    have := hdep q hq
    show X.A.units + 2 + (mD q.2).depth < cLine
    omega
  · have hn : H p = none := I.hok.fresh hp
    refine ⟨.ref p, _, Inv.newL I k g o2 hp (vals_each hout) ?_ hg, rfl, q bs1 p pb R.nd hn⟩
    rw [List.length_map, ascD, List.length_mergeSort, pb.length_eq, hlr, sizeLine_eq]
    omega
/-- sorted(set), the rows tuples of any ints -/
def kI (k : List Int) : MKey := k.map Sum.inl
theorem kI_kV (k : List Int) : (kI k).map kV = k.map V.int := by
  unfold kI
  rw [List.map_map]
  rfl
def rwI (L : List (Addr × List Int)) : List (V × PyData) := L.map fun q => (V.ref q.1, mD (kI q.2))
def rSortedI (K : PySem.W.Frag) (P : Program) (w : World) : List V → Hp → VK → Prop := fun vs H Q => ∃ (a : Addr) (L : List (Addr × List Int)), vs = [V.ref a] ∧ H a = some (SetTO P w a L) ∧ (∀ q ∈ L, SqT K H q.1 (q.2.map V.int)) ∧ PySem.W.AllAlike ((rwI L).map (·.2)) ∧ PySem.W.Sortable ((rwI L).map (·.2)) ∧ (∀ q ∈ L, (mD (kI q.2)).depth ≤ 60) ∧
  ∀ (bs : List (V × PyData)) (p : Addr), bs.Perm (rwI L) → (L.map (·.2)).Nodup → H p = none → Q (.ref p) (upd H p (.lst ((ascD bs).map (·.1))))
theorem cr_sortedI (hc : X.calm = true) (hu : X.A.units + 65 < cLine) : CallR X (.builtin "sorted") (rSortedI X.K X.prog X.w) := by
  intro pins s σ H vs us Q I r h
  obtain ⟨a, L, rfl, ha, hk, hal, hs, hdep, q⟩ := h
  have R0 : SetT0 X.prog X.w s.heap a L := (I.hok a _ ha).1
  obtain ⟨es, ep, t, R⟩ := R0.full fun p hp => I.isT (hk p hp)
  obtain ⟨o, ho, hex, hd⟩ := id R.ob
  rw [Vals.ref1 r]
  have hsz := R.size
  have hfew := R.few
  have hlr : (rwI L).length = L.length := by rw [rwI, List.length_map]
  have hes : es.toList.map (·.2) = L.map fun q => Value.ref q.1 := by
    rw [R.rows, rowsOf, List.map_map]
    rfl
  have er : ∀ L : List (Addr × List Int), (∀ q ∈ L, SqT X.K H q.1 (q.2.map V.int)) → PySem.W.EachIs (fun v (b : V × PyData) => RelV b.1 v ∧ ∃ as, Reads s.heap v b.2 as) (L.map fun q => Value.ref q.1) (rwI L) := by
    intro L
    induction L with
    | nil => intro _; exact .nil
    | cons q L ih =>
      intro h
      have hq : SqT X.K H q.1 ((kI q.2).map kV) := by rw [kI_kV]; exact h q List.mem_cons_self
      exact .cons ⟨rfl, (mD_dp hq).reads I _ _ _ rfl⟩ (ih fun r hr => h r (List.mem_cons_of_mem _ hr))
  refine sorted_got (us := L.map fun q => Value.ref q.1) (bs := rwI L) (fun Q1 h1 E1 => ?_) (er L hk) hal hs (by rw [hlr, sizeLine_eq]; omega) (fun b hb => ?_) fun s' p out c bs1 k g o2 hp hg pb hout => ?_
  · rw [← hes] at h1
    exact collect_set (A := X.A.in1) (I.ok.hd hc) ⟨o, ho, hex.1, hd⟩ R.fits (by unfold scanBound; omega) R.tab.ris R.led h1
  · obtain ⟨q, hq, rfl⟩ := List.mem_map.mp hb
    have := hdep q hq
    show X.A.units + 2 + (mD (kI q.2)).depth < cLine
    omega
  · have hn : H p = none := I.hok.fresh hp
    refine ⟨.ref p, _, Inv.newL I k g o2 hp (vals_each hout) ?_ hg, rfl, q bs1 p pb R.nd hn⟩
    rw [List.length_map, ascD, List.length_mergeSort, pb.length_eq, hlr, sizeLine_eq]
    omega
end
end Hue

set_option Elab.async false
set_option linter.all false
set_option maxRecDepth 100000
set_option maxHeartbeats 1000000
/-! try .. except and try .. finally round statements that raise nothing -/
namespace Hue
open PySem PySem.Spec PyProof.Rows L2
section
variable {X : Cx} {body hds : List Stmt} {f₀ : Stmt} {fs : List Stmt} {pos : Pos} {tb tf : TS}
theorem ps_tryCalm {h₀ : ExceptHandler} {hs : List ExceptHandler} (hb : PSs X.nox body tb) : PS X (.Try body (h₀ :: hs) [] [] pos) tb := by
  refine ⟨fun pins s σ H D I h => ?_⟩
  refine wpAny_Try_except (wpAny_mono (hb.run pins s σ H D (I.wish _) h) (fun f s1 q => ?_) fun _ _ z => False.elim z)
  have q' : SP X pins D f s1 := q.unwish
  cases f with
  | next => exact wpAny_execs_nil q'
  | ret w2 => exact q'
  | brk => exact q'
  | cont => exact q'
/-- the suite behind a calm body that ran through -/
theorem ps_finCalm (hb : PSs X.nox body tb) (hf : PSs X.nox (f₀ :: fs) tf) : PS X (.Try body [] [] (f₀ :: fs) pos) (fun D σ H => tb { nx := fun σ2 H2 => tf D σ2 H2, rt := fun _ _ => False } σ H) := by
  refine ⟨fun pins s σ H D I h => ?_⟩
  refine wpAny_Try_finally (wpAny_mono (hb.run pins s σ H _ (I.wish _) h) (fun f s1 q => ?_) fun _ _ z => False.elim z)
  have q' := q.unwish
  cases f with
  | next =>
    obtain ⟨σ2, H2, I2, q2⟩ := q'
    refine wpAny_execs_nil ?_
    refine wpAny_mono (hf.run pins s1 σ2 H2 D (I2.wish _) q2) (fun g s3 q3 => ?_) fun _ _ z => False.elim z
    have q4 : SP X pins D g s3 := q3.unwish
    cases g with
    | next => exact q4
    | ret w2 => exact q4
    | brk => exact q4
    | cont => exact q4
  | ret w2 => obtain ⟨_, _, _, _, _, z⟩ := q'; exact False.elim z
  | brk => obtain ⟨_, _, _, z⟩ := q'; exact False.elim z
  | cont => obtain ⟨_, _, _, z⟩ := q'; exact False.elim z
end
end Hue

set_option Elab.async false
set_option linter.all false
set_option maxRecDepth 100000
set_option maxHeartbeats 1000000
namespace Hue
open PySem PySem.Spec PyProof.Rows L2
def top (i : Nat) : Stmt := PySem.Challenge.pw_huerounds_k39_long_ways.main.body.getD i (.Pass ⟨0, 0, 0, 0⟩)
def pFile : Str := PySem.Challenge.pw_huerounds_k39_long_ways.main.file
instance : SupP PySem.Challenge.pw_huerounds_k39_long_ways pFile := ⟨by decide +kernel, by decide +kernel⟩



abbrev s_BadPhase_init : Stmt := inClass (top 5) 0
abbrev N_BadPhase_init : List Str := ["self", "field", "__class__"]
abbrev P_BadPhase_init : List Str := ["self", "field"]
theorem sc_BadPhase_init : NdefX.NScope N_BadPhase_init P_BadPhase_init [("__class__" : Str)] (defScope s_BadPhase_init) := NdefX.nscope_by (by decide +kernel)
abbrev s_Refused_init : Stmt := inClass (top 6) 0
abbrev N_Refused_init : List Str := ["self", "what", "number", "__class__"]
abbrev P_Refused_init : List Str := ["self", "what", "number"]
theorem sc_Refused_init : NdefX.NScope N_Refused_init P_Refused_init [("__class__" : Str)] (defScope s_Refused_init) := NdefX.nscope_by (by decide +kernel)
abbrev s_Wrong_init : Stmt := inClass (top 11) 0
abbrev N_Wrong_init : List Str := ["self", "what", "number", "thing", "__class__"]
abbrev P_Wrong_init : List Str := ["self", "what", "number", "thing"]
theorem sc_Wrong_init : NdefX.NScope N_Wrong_init P_Wrong_init [("__class__" : Str)] (defScope s_Wrong_init) := NdefX.nscope_by (by decide +kernel)
abbrev s_Ref_init : Stmt := inClass (top 18) 1
abbrev N_Ref_init : List Str := ["self", "place", "hue"]
abbrev P_Ref_init : List Str := ["self", "place", "hue"]
theorem sc_Ref_init : FnScope N_Ref_init P_Ref_init (defScope s_Ref_init) := ⟨rfl, rfl, rfl, by decide +kernel, rfl, by decide +kernel, by decide +kernel⟩
abbrev s_Ref_eq : Stmt := inClass (top 18) 5
abbrev N_Ref_eq : List Str := ["self", "other"]
abbrev P_Ref_eq : List Str := ["self", "other"]
theorem sc_Ref_eq : FnScope N_Ref_eq P_Ref_eq (defScope s_Ref_eq) := ⟨rfl, rfl, rfl, by decide +kernel, rfl, by decide +kernel, by decide +kernel⟩
abbrev s_Store_init : Stmt := inClass (top 20) 0
abbrev N_Store_init : List Str := ["self", "book", "slots", "hands"]
abbrev P_Store_init : List Str := ["self", "book", "slots", "hands"]
theorem sc_Store_init : FnScope N_Store_init P_Store_init (defScope s_Store_init) := ⟨rfl, rfl, rfl, by decide +kernel, rfl, by decide +kernel, by decide +kernel⟩
abbrev s_Store_row : Stmt := inClass (top 20) 1
abbrev N_Store_row : List Str := ["self"]
abbrev P_Store_row : List Str := ["self"]
theorem sc_Store_row : FnScope N_Store_row P_Store_row (defScope s_Store_row) := ⟨rfl, rfl, rfl, by decide +kernel, rfl, by decide +kernel, by decide +kernel⟩
abbrev s_Store_turns : Stmt := inClass (top 20) 2
abbrev N_Store_turns : List Str := ["self"]
abbrev P_Store_turns : List Str := ["self"]
theorem sc_Store_turns : FnScope N_Store_turns P_Store_turns (defScope s_Store_turns) := ⟨rfl, rfl, rfl, by decide +kernel, rfl, by decide +kernel, by decide +kernel⟩
abbrev s_Store_things : Stmt := inClass (top 20) 3
abbrev N_Store_things : List Str := ["self"]
abbrev P_Store_things : List Str := ["self"]
theorem sc_Store_things : FnScope N_Store_things P_Store_things (defScope s_Store_things) := ⟨rfl, rfl, rfl, by decide +kernel, rfl, by decide +kernel, by decide +kernel⟩
abbrev s_Store_hand : Stmt := inClass (top 20) 5
abbrev N_Store_hand : List Str := ["self", "n"]
abbrev P_Store_hand : List Str := ["self", "n"]
theorem sc_Store_hand : FnScope N_Store_hand P_Store_hand (defScope s_Store_hand) := ⟨rfl, rfl, rfl, by decide +kernel, rfl, by decide +kernel, by decide +kernel⟩
abbrev s_Store_place_of : Stmt := inClass (top 20) 8
abbrev N_Store_place_of : List Str := ["self", "n"]
abbrev P_Store_place_of : List Str := ["self", "n"]
theorem sc_Store_place_of : FnScope N_Store_place_of P_Store_place_of (defScope s_Store_place_of) := ⟨rfl, rfl, rfl, by decide +kernel, rfl, by decide +kernel, by decide +kernel⟩
abbrev s_Store_signposts : Stmt := inClass (top 20) 9
abbrev N_Store_signposts : List Str := ["self", "old", "new", "end"]
abbrev P_Store_signposts : List Str := ["self"]
theorem sc_Store_signposts : FnScope N_Store_signposts P_Store_signposts (defScope s_Store_signposts) := ⟨rfl, rfl, rfl, by decide +kernel, rfl, by decide +kernel, by decide +kernel⟩
abbrev s_Store_standings : Stmt := inClass (top 20) 10
abbrev N_Store_standings : List Str := ["self", "ref", "found", "visited"]
abbrev P_Store_standings : List Str := ["self"]
theorem sc_Store_standings : FnScope N_Store_standings P_Store_standings (defScope s_Store_standings) := ⟨rfl, rfl, rfl, by decide +kernel, rfl, by decide +kernel, by decide +kernel⟩
abbrev s_Storestanding : Stmt := inClass (top 20) 11
abbrev N_Storestanding : List Str := ["self", "holder", "ref"]
abbrev P_Storestanding : List Str := ["self", "holder", "ref"]
theorem sc_Storestanding : FnScope N_Storestanding P_Storestanding (defScope s_Storestanding) := ⟨rfl, rfl, rfl, by decide +kernel, rfl, by decide +kernel, by decide +kernel⟩
abbrev s_Storeleft : Stmt := inClass (top 20) 12
abbrev N_Storeleft : List Str := ["self", "ref", "left", "place", "end", "stands"]
abbrev P_Storeleft : List Str := ["self", "ref"]
theorem sc_Storeleft : FnScope N_Storeleft P_Storeleft (defScope s_Storeleft) := ⟨rfl, rfl, rfl, by decide +kernel, rfl, by decide +kernel, by decide +kernel⟩
abbrev s_Storecheck : Stmt := inClass (top 20) 13
abbrev N_Storecheck : List Str := ["self", "what", "number", "many"]
abbrev P_Storecheck : List Str := ["self", "what", "number", "many"]
theorem sc_Storecheck : FnScope N_Storecheck P_Storecheck (defScope s_Storecheck) := ⟨rfl, rfl, rfl, by decide +kernel, rfl, by decide +kernel, by decide +kernel⟩
abbrev s_Storecheck_idle : Stmt := inClass (top 20) 14
abbrev N_Storecheck_idle : List Str := ["self", "hand"]
abbrev P_Storecheck_idle : List Str := ["self", "hand"]
theorem sc_Storecheck_idle : FnScope N_Storecheck_idle P_Storecheck_idle (defScope s_Storecheck_idle) := ⟨rfl, rfl, rfl, by decide +kernel, rfl, by decide +kernel, by decide +kernel⟩
abbrev s_Storeheld : Stmt := inClass (top 20) 15
abbrev N_Storeheld : List Str := ["self", "hand"]
abbrev P_Storeheld : List Str := ["self", "hand"]
theorem sc_Storeheld : FnScope N_Storeheld P_Storeheld (defScope s_Storeheld) := ⟨rfl, rfl, rfl, by decide +kernel, rfl, by decide +kernel, by decide +kernel⟩
abbrev s_Storelook : Stmt := inClass (top 20) 16
abbrev N_Storelook : List Str := ["self", "ref", "slot", "left", "good", "thing"]
abbrev P_Storelook : List Str := ["self", "ref", "slot"]
theorem sc_Storelook : FnScope N_Storelook P_Storelook (defScope s_Storelook) := ⟨rfl, rfl, rfl, by decide +kernel, rfl, by decide +kernel, by decide +kernel⟩
abbrev s_Store_make : Stmt := inClass (top 20) 17
abbrev N_Store_make : List Str := ["self", "hand", "place", "thing"]
abbrev P_Store_make : List Str := ["self", "hand"]
theorem sc_Store_make : FnScope N_Store_make P_Store_make (defScope s_Store_make) := ⟨rfl, rfl, rfl, by decide +kernel, rfl, by decide +kernel, by decide +kernel⟩
abbrev s_Store_write : Stmt := inClass (top 20) 18
abbrev N_Store_write : List Str := ["self", "hand", "slot"]
abbrev P_Store_write : List Str := ["self", "hand", "slot"]
theorem sc_Store_write : FnScope N_Store_write P_Store_write (defScope s_Store_write) := ⟨rfl, rfl, rfl, by decide +kernel, rfl, by decide +kernel, by decide +kernel⟩
abbrev s_Store_read : Stmt := inClass (top 20) 19
abbrev N_Store_read : List Str := ["self", "hand", "slot", "ref", "phase", "held"]
abbrev P_Store_read : List Str := ["self", "hand", "slot"]
theorem sc_Store_read : FnScope N_Store_read P_Store_read (defScope s_Store_read) := ⟨rfl, rfl, rfl, by decide +kernel, rfl, by decide +kernel, by decide +kernel⟩
abbrev s_Store_mend : Stmt := inClass (top 20) 20
abbrev N_Store_mend : List Str := ["self", "hand", "slot", "seen", "kind", "now", "held", "written"]
abbrev P_Store_mend : List Str := ["self", "hand"]
theorem sc_Store_mend : FnScope N_Store_mend P_Store_mend (defScope s_Store_mend) := ⟨rfl, rfl, rfl, by decide +kernel, rfl, by decide +kernel, by decide +kernel⟩
abbrev s_Store_use : Stmt := inClass (top 20) 21
abbrev N_Store_use : List Str := ["self", "hand", "ref"]
abbrev P_Store_use : List Str := ["self", "hand"]
theorem sc_Store_use : FnScope N_Store_use P_Store_use (defScope s_Store_use) := ⟨rfl, rfl, rfl, by decide +kernel, rfl, by decide +kernel, by decide +kernel⟩
abbrev s_Store_visit : Stmt := inClass (top 20) 22
abbrev N_Store_visit : List Str := ["self", "slot", "ref", "changed", "mended"]
abbrev P_Store_visit : List Str := ["self", "slot"]
theorem sc_Store_visit : FnScope N_Store_visit P_Store_visit (defScope s_Store_visit) := ⟨rfl, rfl, rfl, by decide +kernel, rfl, by decide +kernel, by decide +kernel⟩
abbrev s_Store_turn : Stmt := inClass (top 20) 23
abbrev N_Store_turn : List Str := ["self", "skip", "things", "rows", "phase", "index", "thing"]
abbrev P_Store_turn : List Str := ["self", "skip", "things"]
theorem sc_Store_turn : FnScope N_Store_turn P_Store_turn (defScope s_Store_turn) := ⟨rfl, rfl, rfl, by decide +kernel, rfl, by decide +kernel, by decide +kernel⟩
abbrev s_Storeend_phase : Stmt := inClass (top 20) 24
abbrev N_Storeend_phase : List Str := ["self", "pauses", "slots", "visited", "mendings", "hand", "slot"]
abbrev P_Storeend_phase : List Str := ["self", "pauses"]
theorem sc_Storeend_phase : FnScope N_Storeend_phase P_Storeend_phase (defScope s_Storeend_phase) := ⟨rfl, rfl, rfl, by decide +kernel, rfl, by decide +kernel, by decide +kernel⟩
abbrev s_Storemove : Stmt := inClass (top 20) 25
abbrev N_Storemove : List Str := ["self", "thing", "stand", "place"]
abbrev P_Storemove : List Str := ["self", "thing", "stand"]
theorem sc_Storemove : FnScope N_Storemove P_Storemove (defScope s_Storemove) := ⟨rfl, rfl, rfl, by decide +kernel, rfl, by decide +kernel, by decide +kernel⟩
abbrev s_Store_do : Stmt := inClass (top 20) 26
abbrev N_Store_do : List Str := ["self", "deed", "hand", "slot", "skip", "things"]
abbrev P_Store_do : List Str := ["self", "deed"]
theorem sc_Store_do : FnScope N_Store_do P_Store_do (defScope s_Store_do) := ⟨rfl, rfl, rfl, by decide +kernel, rfl, by decide +kernel, by decide +kernel⟩
abbrev s_Store_play : Stmt := inClass (top 20) 27
abbrev N_Store_play : List Str := ["self", "deeds", "row", "turns", "posts", "places", "owners", "slots", "visited", "hands", "mendings", "answers", "deed"]
abbrev P_Store_play : List Str := ["self", "deeds"]
theorem sc_Store_play : FnScope N_Store_play P_Store_play (defScope s_Store_play) := ⟨rfl, rfl, rfl, by decide +kernel, rfl, by decide +kernel, by decide +kernel⟩
abbrev s_Phase_init : Stmt := inClass (top 25) 0
abbrev N_Phase_init : List Str := ["self", "hue", "barrier", "visits", "pauses", "stand", "skips"]
abbrev P_Phase_init : List Str := ["self", "hue", "barrier", "visits", "pauses", "stand", "skips"]
theorem sc_Phase_init : FnScope N_Phase_init P_Phase_init (defScope s_Phase_init) := ⟨rfl, rfl, rfl, by decide +kernel, rfl, by decide +kernel, by decide +kernel⟩
abbrev s_Phase_looks : Stmt := inClass (top 25) 1
abbrev N_Phase_looks : List Str := ["self"]
abbrev P_Phase_looks : List Str := ["self"]
theorem sc_Phase_looks : FnScope N_Phase_looks P_Phase_looks (defScope s_Phase_looks) := ⟨rfl, rfl, rfl, by decide +kernel, rfl, by decide +kernel, by decide +kernel⟩
abbrev s_Phase_moves : Stmt := inClass (top 25) 2
abbrev N_Phase_moves : List Str := ["self"]
abbrev P_Phase_moves : List Str := ["self"]
theorem sc_Phase_moves : FnScope N_Phase_moves P_Phase_moves (defScope s_Phase_moves) := ⟨rfl, rfl, rfl, by decide +kernel, rfl, by decide +kernel, by decide +kernel⟩
abbrev s_Book_init : Stmt := inClass (top 26) 1
abbrev N_Book_init : List Str := ["self", "phases"]
abbrev P_Book_init : List Str := ["self", "phases"]
theorem sc_Book_init : FnScope N_Book_init P_Book_init (defScope s_Book_init) := ⟨rfl, rfl, rfl, by decide +kernel, rfl, by decide +kernel, by decide +kernel⟩
abbrev s_Book_len : Stmt := inClass (top 26) 2
abbrev N_Book_len : List Str := ["self"]
abbrev P_Book_len : List Str := ["self"]
theorem sc_Book_len : FnScope N_Book_len P_Book_len (defScope s_Book_len) := ⟨rfl, rfl, rfl, by decide +kernel, rfl, by decide +kernel, by decide +kernel⟩
abbrev s_Book_getitem : Stmt := inClass (top 26) 5
abbrev N_Book_getitem : List Str := ["self", "n"]
abbrev P_Book_getitem : List Str := ["self", "n"]
theorem sc_Book_getitem : FnScope N_Book_getitem P_Book_getitem (defScope s_Book_getitem) := ⟨rfl, rfl, rfl, by decide +kernel, rfl, by decide +kernel, by decide +kernel⟩
abbrev s_Book_setitem : Stmt := inClass (top 26) 6
abbrev N_Book_setitem : List Str := ["self", "n", "phase"]
abbrev P_Book_setitem : List Str := ["self", "n", "phase"]
theorem sc_Book_setitem : FnScope N_Book_setitem P_Book_setitem (defScope s_Book_setitem) := ⟨rfl, rfl, rfl, by decide +kernel, rfl, by decide +kernel, by decide +kernel⟩
abbrev s_Book_of : Stmt := inClass (top 26) 16
abbrev N_Book_of : List Str := ["cls", "phases"]
abbrev P_Book_of : List Str := ["cls", "phases"]
theorem sc_Book_of : FnScope N_Book_of P_Book_of (defScope s_Book_of) := ⟨rfl, rfl, rfl, by decide +kernel, rfl, by decide +kernel, by decide +kernel⟩
abbrev s_Book_after : Stmt := inClass (top 26) 17
abbrev N_Book_after : List Str := ["self", "row", "rows", "skip"]
abbrev P_Book_after : List Str := ["self", "row"]
theorem sc_Book_after : FnScope N_Book_after P_Book_after (defScope s_Book_after) := ⟨rfl, rfl, rfl, by decide +kernel, rfl, by decide +kernel, by decide +kernel⟩
abbrev s_Book_copy : Stmt := inClass (top 26) 20
abbrev N_Book_copy : List Str := ["self"]
abbrev P_Book_copy : List Str := ["self"]
theorem sc_Book_copy : FnScope N_Book_copy P_Book_copy (defScope s_Book_copy) := ⟨rfl, rfl, rfl, by decide +kernel, rfl, by decide +kernel, by decide +kernel⟩
abbrev s_l_int : Stmt := top 28
abbrev N_l_int : List Str := ["_law_x"]
abbrev P_l_int : List Str := ["_law_x"]
theorem sc_l_int : FnScope N_l_int P_l_int (defScope s_l_int) := ⟨rfl, rfl, rfl, by decide +kernel, rfl, by decide +kernel, by decide +kernel⟩
abbrev s_l_pool : Stmt := top 29
abbrev N_l_pool : List Str := ["_law_script", "_law_pool_here", "_law_mix", "_law_cell", "_law_number", "_law_k", "_law_drawn"]
abbrev P_l_pool : List Str := ["_law_script"]
theorem sc_l_pool : FnScope N_l_pool P_l_pool (defScope s_l_pool) := ⟨rfl, rfl, rfl, by decide +kernel, rfl, by decide +kernel, by decide +kernel⟩
abbrev s_l_take : Stmt := top 30
abbrev N_l_take : List Str := ["_law_pool_here", "_law_many"]
abbrev P_l_take : List Str := ["_law_pool_here", "_law_many"]
theorem sc_l_take : FnScope N_l_take P_l_take (defScope s_l_take) := ⟨rfl, rfl, rfl, by decide +kernel, rfl, by decide +kernel, by decide +kernel⟩
abbrev s_l_mover : Stmt := top 31
abbrev N_l_mover : List Str := ["_law_pool_here", "_law_good", "_law_code", "_law_shown"]
abbrev P_l_mover : List Str := ["_law_pool_here", "_law_good"]
theorem sc_l_mover : FnScope N_l_mover P_l_mover (defScope s_l_mover) := ⟨rfl, rfl, rfl, by decide +kernel, rfl, by decide +kernel, by decide +kernel⟩
abbrev s_l_phase : Stmt := top 32
abbrev N_l_phase : List Str := ["_law_row"]
abbrev P_l_phase : List Str := ["_law_row"]
theorem sc_l_phase : FnScope N_l_phase P_l_phase (defScope s_l_phase) := ⟨rfl, rfl, rfl, by decide +kernel, rfl, by decide +kernel, by decide +kernel⟩
abbrev s_l_value : Stmt := top 33
abbrev N_l_value : List Str := ["_law_value_here", "_law_due"]
abbrev P_l_value : List Str := ["_law_value_here", "_law_due"]
theorem sc_l_value : FnScope N_l_value P_l_value (defScope s_l_value) := ⟨rfl, rfl, rfl, by decide +kernel, rfl, by decide +kernel, by decide +kernel⟩
abbrev s_l_turned : Stmt := top 34
abbrev N_l_turned : List Str := ["_law_store", "_law_many", "_law_whole", "_law_found", "_law_n"]
abbrev P_l_turned : List Str := ["_law_store", "_law_many", "_law_whole"]
theorem sc_l_turned : FnScope N_l_turned P_l_turned (defScope s_l_turned) := ⟨rfl, rfl, rfl, by decide +kernel, rfl, by decide +kernel, by decide +kernel⟩
abbrev s_l_rests : Stmt := top 35
abbrev N_l_rests : List Str := ["_law_rows", "_law_many", "_law_found", "_law_n"]
abbrev P_l_rests : List Str := ["_law_rows", "_law_many"]
theorem sc_l_rests : FnScope N_l_rests P_l_rests (defScope s_l_rests) := ⟨rfl, rfl, rfl, by decide +kernel, rfl, by decide +kernel, by decide +kernel⟩
abbrev s_l_posts : Stmt := top 36
abbrev N_l_posts : List Str := ["_law_rests_here", "_law_found", "_law_k", "_law_old"]
abbrev P_l_posts : List Str := ["_law_rests_here"]
theorem sc_l_posts : FnScope N_l_posts P_l_posts (defScope s_l_posts) := ⟨rfl, rfl, rfl, by decide +kernel, rfl, by decide +kernel, by decide +kernel⟩
abbrev s_l_stand : Stmt := top 37
abbrev N_l_stand : List Str := ["_law_at", "_law_good", "_law_left", "_law_held", "_law_found", "_law_holder"]
abbrev P_l_stand : List Str := ["_law_at", "_law_good", "_law_left", "_law_held"]
theorem sc_l_stand : FnScope N_l_stand P_l_stand (defScope s_l_stand) := ⟨rfl, rfl, rfl, by decide +kernel, rfl, by decide +kernel, by decide +kernel⟩
abbrev s_l_same_lists : Stmt := top 38
abbrev N_l_same_lists : List Str := ["_law_store", "_law_posts_here", "_law_stand_here", "_law_told", "_law_shown", "_law_row", "_law_part"]
abbrev P_l_same_lists : List Str := ["_law_store", "_law_posts_here", "_law_stand_here"]
theorem sc_l_same_lists : FnScope N_l_same_lists P_l_same_lists (defScope s_l_same_lists) := ⟨rfl, rfl, rfl, by decide +kernel, rfl, by decide +kernel, by decide +kernel⟩
abbrev s_l_read : Stmt := top 39
abbrev N_l_read : List Str := ["_law_store", "_law_who", "_law_spot", "e"]
abbrev P_l_read : List Str := ["_law_store", "_law_who", "_law_spot"]
theorem sc_l_read : FnScope N_l_read P_l_read (defScope s_l_read) := ⟨rfl, rfl, rfl, by decide +kernel, rfl, by decide +kernel, by decide +kernel⟩
abbrev s_l_look : Stmt := top 40
abbrev N_l_look : List Str := ["_law_row", "_law_good", "_law_left", "_law_place"]
abbrev P_l_look : List Str := ["_law_row", "_law_good", "_law_left", "_law_place"]
theorem sc_l_look : FnScope N_l_look P_l_look (defScope s_l_look) := ⟨rfl, rfl, rfl, by decide +kernel, rfl, by decide +kernel, by decide +kernel⟩
abbrev s_l_agree : Stmt := top 41
abbrev N_l_agree : List Str := ["_law_told", "_law_due"]
abbrev P_l_agree : List Str := ["_law_told", "_law_due"]
theorem sc_l_agree : FnScope N_l_agree P_l_agree (defScope s_l_agree) := ⟨rfl, rfl, rfl, by decide +kernel, rfl, by decide +kernel, by decide +kernel⟩
abbrev s_law : Stmt := top 42
abbrev N_law : List Str := ["_law_script", "_law_pool_here", "_law_good", "_law_rows", "_law_whole", "_law_many", "_law_store", "_law_who", "_law_turns", "_law_held", "_law_n", "_law_at", "_law_rests_here", "_law_left", "_law_place", "_law_row"]
abbrev P_law : List Str := ["_law_script"]
theorem sc_law : FnScope N_law P_law (defScope s_law) := ⟨rfl, rfl, rfl, by decide +kernel, rfl, by decide +kernel, by decide +kernel⟩
def d_BadPhase_init : DX := ⟨(mad "BadPhase" "__init__"), "__init__", "BadPhase.__init__", s_BadPhase_init, [], [], [("__class__" : Str)]⟩
def d_Refused_init : DX := ⟨(mad "Refused" "__init__"), "__init__", "Refused.__init__", s_Refused_init, [], [], [("__class__" : Str)]⟩
def d_Wrong_init : DX := ⟨(mad "Wrong" "__init__"), "__init__", "Wrong.__init__", s_Wrong_init, [], [], [("__class__" : Str)]⟩
def d_Ref_init : DX := ⟨(mad "Ref" "__init__"), "__init__", "Ref.__init__", s_Ref_init, [], [], []⟩
def d_Ref_eq : DX := ⟨(mad "Ref" "__eq__"), "__eq__", "Ref.__eq__", s_Ref_eq, [], [], []⟩
def d_Store_init : DX := ⟨(mad "Store" "__init__"), "__init__", "Store.__init__", s_Store_init, [], [("slots", .int (1)), ("hands", .int (2))], []⟩
def d_Store_row : DX := ⟨(pad "property" "Store" "row"), "row", "Store.row", s_Store_row, [], [], []⟩
def d_Store_turns : DX := ⟨(pad "property" "Store" "turns"), "turns", "Store.turns", s_Store_turns, [], [], []⟩
def d_Store_things : DX := ⟨(pad "property" "Store" "things"), "things", "Store.things", s_Store_things, [], [], []⟩
def d_Store_hand : DX := ⟨(mad "Store" "hand"), "hand", "Store.hand", s_Store_hand, [], [], []⟩
def d_Store_place_of : DX := ⟨(mad "Store" "place_of"), "place_of", "Store.place_of", s_Store_place_of, [], [], []⟩
def d_Store_signposts : DX := ⟨(mad "Store" "signposts"), "signposts", "Store.signposts", s_Store_signposts, [], [], []⟩
def d_Store_standings : DX := ⟨(mad "Store" "standings"), "standings", "Store.standings", s_Store_standings, [], [], []⟩
def d_Storestanding : DX := ⟨(mad "Store" "_standing"), "_standing", "Store._standing", s_Storestanding, [], [], []⟩
def d_Storeleft : DX := ⟨(mad "Store" "_left"), "_left", "Store._left", s_Storeleft, [], [], []⟩
def d_Storecheck : DX := ⟨(mad "Store" "_check"), "_check", "Store._check", s_Storecheck, [], [], []⟩
def d_Storecheck_idle : DX := ⟨(mad "Store" "_check_idle"), "_check_idle", "Store._check_idle", s_Storecheck_idle, [], [], []⟩
def d_Storeheld : DX := ⟨(mad "Store" "_held"), "_held", "Store._held", s_Storeheld, [], [], []⟩
def d_Storelook : DX := ⟨(mad "Store" "_look"), "_look", "Store._look", s_Storelook, [], [], []⟩
def d_Store_make : DX := ⟨(mad "Store" "make"), "make", "Store.make", s_Store_make, [], [], []⟩
def d_Store_write : DX := ⟨(mad "Store" "write"), "write", "Store.write", s_Store_write, [], [], []⟩
def d_Store_read : DX := ⟨(mad "Store" "read"), "read", "Store.read", s_Store_read, [], [], []⟩
def d_Store_mend : DX := ⟨(mad "Store" "mend"), "mend", "Store.mend", s_Store_mend, [], [], []⟩
def d_Store_use : DX := ⟨(mad "Store" "use"), "use", "Store.use", s_Store_use, [], [], []⟩
def d_Store_visit : DX := ⟨(mad "Store" "visit"), "visit", "Store.visit", s_Store_visit, [], [], []⟩
def d_Store_turn : DX := ⟨(mad "Store" "turn"), "turn", "Store.turn", s_Store_turn, [], [("skip", .int (0))], []⟩
def d_Storeend_phase : DX := ⟨(mad "Store" "_end_phase"), "_end_phase", "Store._end_phase", s_Storeend_phase, [], [], []⟩
def d_Storemove : DX := ⟨(mad "Store" "_move"), "_move", "Store._move", s_Storemove, [], [], []⟩
def d_Store_do : DX := ⟨(mad "Store" "do"), "do", "Store.do", s_Store_do, [], [], []⟩
def d_Store_play : DX := ⟨(mad "Store" "play"), "play", "Store.play", s_Store_play, [], [], []⟩
def d_Phase_init : DX := ⟨(mad "Phase" "__init__"), "__init__", "Phase.__init__", s_Phase_init, [], [("barrier", .str "guarded"), ("visits", .bl false), ("pauses", .bl true), ("stand", .int (0)), ("skips", .bl false)], []⟩
def d_Phase_looks : DX := ⟨(pad "property" "Phase" "looks"), "looks", "Phase.looks", s_Phase_looks, [], [], []⟩
def d_Phase_moves : DX := ⟨(pad "property" "Phase" "moves"), "moves", "Phase.moves", s_Phase_moves, [], [], []⟩
def d_Book_init : DX := ⟨(mad "Book" "__init__"), "__init__", "Book.__init__", s_Book_init, [], [], []⟩
def d_Book_len : DX := ⟨(mad "Book" "__len__"), "__len__", "Book.__len__", s_Book_len, [], [], []⟩
def d_Book_getitem : DX := ⟨(mad "Book" "__getitem__"), "__getitem__", "Book.__getitem__", s_Book_getitem, [], [], []⟩
def d_Book_setitem : DX := ⟨(mad "Book" "__setitem__"), "__setitem__", "Book.__setitem__", s_Book_setitem, [], [], []⟩
def d_Book_of : DX := ⟨(pad "classmethod" "Book" "of"), "of", "Book.of", s_Book_of, [], [], []⟩
def d_Book_after : DX := ⟨(mad "Book" "after"), "after", "Book.after", s_Book_after, [], [], []⟩
def d_Book_copy : DX := ⟨(mad "Book" "copy"), "copy", "Book.copy", s_Book_copy, [], [], []⟩
def d_l_int : DX := ⟨(gad "_law_int"), "_law_int", "_law_int", s_l_int, [], [], []⟩
def d_l_pool : DX := ⟨(gad "_law_pool"), "_law_pool", "_law_pool", s_l_pool, [], [], []⟩
def d_l_take : DX := ⟨(gad "_law_take"), "_law_take", "_law_take", s_l_take, [], [], []⟩
def d_l_mover : DX := ⟨(gad "_law_mover"), "_law_mover", "_law_mover", s_l_mover, [], [], []⟩
def d_l_phase : DX := ⟨(gad "_law_phase"), "_law_phase", "_law_phase", s_l_phase, [], [], []⟩
def d_l_value : DX := ⟨(gad "_law_value"), "_law_value", "_law_value", s_l_value, [], [], []⟩
def d_l_turned : DX := ⟨(gad "_law_turned"), "_law_turned", "_law_turned", s_l_turned, [], [], []⟩
def d_l_rests : DX := ⟨(gad "_law_rests"), "_law_rests", "_law_rests", s_l_rests, [], [], []⟩
def d_l_posts : DX := ⟨(gad "_law_posts"), "_law_posts", "_law_posts", s_l_posts, [], [], []⟩
def d_l_stand : DX := ⟨(gad "_law_stand"), "_law_stand", "_law_stand", s_l_stand, [], [], []⟩
def d_l_same_lists : DX := ⟨(gad "_law_same_lists"), "_law_same_lists", "_law_same_lists", s_l_same_lists, [], [], []⟩
def d_l_read : DX := ⟨(gad "_law_read"), "_law_read", "_law_read", s_l_read, [], [], []⟩
def d_l_look : DX := ⟨(gad "_law_look"), "_law_look", "_law_look", s_l_look, [], [], []⟩
def d_l_agree : DX := ⟨(gad "_law_agree"), "_law_agree", "_law_agree", s_l_agree, [], [], []⟩
def d_law : DX := ⟨(gad "law"), "law", "law", s_law, [], [], []⟩
def dsAll : List DX := [d_BadPhase_init, d_Refused_init, d_Wrong_init, d_Ref_init, d_Ref_eq, d_Store_init, d_Store_row, d_Store_turns, d_Store_things, d_Store_hand, d_Store_place_of, d_Store_signposts, d_Store_standings, d_Storestanding, d_Storeleft, d_Storecheck, d_Storecheck_idle, d_Storeheld, d_Storelook, d_Store_make, d_Store_write, d_Store_read, d_Store_mend, d_Store_use, d_Store_visit, d_Store_turn, d_Storeend_phase, d_Storemove, d_Store_do, d_Store_play, d_Phase_init, d_Phase_looks, d_Phase_moves, d_Book_init, d_Book_len, d_Book_getitem, d_Book_setitem, d_Book_of, d_Book_after, d_Book_copy, d_l_int, d_l_pool, d_l_take, d_l_mover, d_l_phase, d_l_value, d_l_turned, d_l_rests, d_l_posts, d_l_stand, d_l_same_lists, d_l_read, d_l_look, d_l_agree, d_law]
def faAll : List He.Fa := [.free "abs", .free "bool", .free "dict", .free "enumerate", .free "int", .free "isinstance", .free "len", .free "list", .free "max", .free "min", .free "range", .free "set", .free "sorted", .free "str", .free "tuple", .free "zip", .glo "_law_int", .glo "_law_pool", .glo "_law_take", .glo "_law_mover", .glo "_law_phase", .glo "_law_value", .glo "_law_turned", .glo "_law_rests", .glo "_law_posts", .glo "_law_stand", .glo "_law_same_lists", .glo "_law_read", .glo "_law_look", .glo "_law_agree", .glo "law", .glo "BARRIERS", .int "MOST_HUE" 5, .int "MOST_STAND" 7, .int "HUES" 6, .glo "Ref", .cls "Ref", .noat "Ref" "place", .noat "Ref" "hue", .mkr "Ref", .glo "Phase", .cls "Phase", .noat "Phase" "hue", .noat "Phase" "barrier", .noat "Phase" "visits", .noat "Phase" "pauses", .noat "Phase" "stand", .noat "Phase" "skips", .mkr "Phase", .glo "Book", .cls "Book", .noat "Book" "phases", .mkr "Book", .meth "Book" "__getitem__", .meth "Book" "__setitem__", .meth "Book" "after", .meth "Book" "copy", .glo "Store", .cls "Store", .noat "Store" "_book", .noat "Store" "_row", .noat "Store" "_turns", .noat "Store" "_places", .noat "Store" "_owners", .noat "Store" "_posts", .noat "Store" "_slots", .noat "Store" "_visited", .noat "Store" "_hands", .noat "Store" "_mendings", .mkr "Store", .meth "Store" "hand", .meth "Store" "place_of", .meth "Store" "signposts", .meth "Store" "standings", .meth "Store" "_standing", .meth "Store" "_left", .meth "Store" "_check", .meth "Store" "_check_idle", .meth "Store" "_held", .meth "Store" "_look", .meth "Store" "make", .meth "Store" "write", .meth "Store" "read", .meth "Store" "mend", .meth "Store" "use", .meth "Store" "visit", .meth "Store" "turn", .meth "Store" "_end_phase", .meth "Store" "_move", .meth "Store" "do", .meth "Store" "play", .glo "BadBook", .exc "BadBook", .glo "Refused", .glo "Wrong", .glo "BadPhase", .noat "BadPhase" "field", .glo "NoSuch", .noat "NoSuch" "what", .noat "NoSuch" "number", .glo "Empty", .noat "Empty" "what", .noat "Empty" "number", .glo "Busy", .noat "Busy" "what", .noat "Busy" "number", .glo "NotNow", .noat "NotNow" "what", .noat "NotNow" "number", .glo "Stale", .noat "Stale" "what", .noat "Stale" "number", .noat "Stale" "thing", .glo "Dropped", .noat "Dropped" "what", .noat "Dropped" "number", .noat "Dropped" "thing", .glo "Lost", .noat "Lost" "what", .noat "Lost" "number", .noat "Lost" "thing", .free "super", .exm "NoSuch" "Refused" true, .exm "NoSuch" "Wrong" false, .exm "NoSuch" "Stale" false, .exm "NoSuch" "Dropped" false, .exm "NoSuch" "Lost" false, .exm "Busy" "Refused" true, .exm "Busy" "Wrong" false, .exm "Busy" "Stale" false, .exm "Busy" "Dropped" false, .exm "Busy" "Lost" false, .exm "Empty" "Refused" true, .exm "Empty" "Wrong" false, .exm "Empty" "Stale" false, .exm "Empty" "Dropped" false, .exm "Empty" "Lost" false, .exm "NotNow" "Refused" true, .exm "NotNow" "Wrong" false, .exm "NotNow" "Stale" false, .exm "NotNow" "Dropped" false, .exm "NotNow" "Lost" false, .exm "Stale" "Refused" false, .exm "Stale" "Wrong" true, .exm "Stale" "Stale" true, .exm "Stale" "Dropped" false, .exm "Stale" "Lost" false, .exm "Dropped" "Refused" false, .exm "Dropped" "Wrong" true, .exm "Dropped" "Stale" false, .exm "Dropped" "Dropped" true, .exm "Dropped" "Lost" false, .exm "Lost" "Refused" false, .exm "Lost" "Wrong" true, .exm "Lost" "Stale" false, .exm "Lost" "Dropped" false, .exm "Lost" "Lost" true]
def fxAll : List Fx := [.tup "BARRIERS" [.str "none", .str "follow", .str "plain", .str "guarded"], .inst "Ref", .prop "Phase" "looks", .prop "Phase" "moves", .inst "Phase", .inst "Book", .prop "Store" "row", .prop "Store" "turns", .prop "Store" "things", .inst "Store", .kit (.ty "NoneType") (.own "Ref") false, .kit (.ty "int") (.own "Ref") false, .kit (.ty "bool") (.own "Ref") false, .kit (.ty "tuple") (.own "Ref") false, .kit (.own "Ref") (.own "Ref") true, .kit (.own "Phase") (.own "Phase") true, .kit (.own "Book") (.own "Book") true, .kit (.own "Empty") (.own "Empty") true, .kit (.own "NoSuch") (.own "NoSuch") true, .kit (.own "Busy") (.own "Busy") true, .kit (.own "NotNow") (.own "NotNow") true, .kit (.own "Stale") (.own "Stale") true, .kit (.own "Dropped") (.own "Dropped") true, .kit (.own "Lost") (.own "Lost") true, .kit (.own "Stale") (.own "Dropped") false, .kit (.own "Dropped") (.own "Stale") false, .cread "Book", .cmeth "Book" "of", .own "Book" "__len__", .own "Book" "__getitem__", .own "Book" "__setitem__", .own "Ref" "__eq__", .cint "Book" "MOST" 6, .oex "BadPhase", .einit "BadPhase" "BadPhase", .sup "BadPhase" "BadPhase" pFile "self", .oex "NoSuch", .einit "NoSuch" "Refused", .sup "NoSuch" "Refused" pFile "self", .oex "Empty", .einit "Empty" "Refused", .sup "Empty" "Refused" pFile "self", .oex "Busy", .einit "Busy" "Refused", .sup "Busy" "Refused" pFile "self", .oex "NotNow", .einit "NotNow" "Refused", .sup "NotNow" "Refused" pFile "self", .oex "Stale", .einit "Stale" "Wrong", .sup "Stale" "Wrong" pFile "self", .oex "Dropped", .einit "Dropped" "Wrong", .sup "Dropped" "Wrong" pFile "self", .oex "Lost", .einit "Lost" "Wrong", .sup "Lost" "Wrong" pFile "self", .excC "NoSuch", .excC "Empty", .excC "Stale", .excC "Dropped", .nf "Ref" (.own "Ref"), .sub "Ref" (.ty "NoneType") false, .sub "Ref" (.ty "str") false, .sub "Ref" (.ty "tuple") false, .sub "Ref" (.ty "list") false, .bmet "Store" "turn"]
structure Tx (K : PySem.W.Frag) (mg : Str → Option Value) : Prop where
  n_abs : mg "abs" = none
  n_bool : mg "bool" = none
  n_dict : mg "dict" = none
  n_enumerate : mg "enumerate" = none
  n_int : mg "int" = none
  n_isinstance : mg "isinstance" = none
  n_len : mg "len" = none
  n_list : mg "list" = none
  n_max : mg "max" = none
  n_min : mg "min" = none
  n_range : mg "range" = none
  n_set : mg "set" = none
  n_sorted : mg "sorted" = none
  n_str : mg "str" = none
  n_tuple : mg "tuple" = none
  n_zip : mg "zip" = none
  g_l_int : mg "_law_int" = some (.ref (gad "_law_int" K))
  g_l_pool : mg "_law_pool" = some (.ref (gad "_law_pool" K))
  g_l_take : mg "_law_take" = some (.ref (gad "_law_take" K))
  g_l_mover : mg "_law_mover" = some (.ref (gad "_law_mover" K))
  g_l_phase : mg "_law_phase" = some (.ref (gad "_law_phase" K))
  g_l_value : mg "_law_value" = some (.ref (gad "_law_value" K))
  g_l_turned : mg "_law_turned" = some (.ref (gad "_law_turned" K))
  g_l_rests : mg "_law_rests" = some (.ref (gad "_law_rests" K))
  g_l_posts : mg "_law_posts" = some (.ref (gad "_law_posts" K))
  g_l_stand : mg "_law_stand" = some (.ref (gad "_law_stand" K))
  g_l_same_lists : mg "_law_same_lists" = some (.ref (gad "_law_same_lists" K))
  g_l_read : mg "_law_read" = some (.ref (gad "_law_read" K))
  g_l_look : mg "_law_look" = some (.ref (gad "_law_look" K))
  g_l_agree : mg "_law_agree" = some (.ref (gad "_law_agree" K))
  g_law : mg "law" = some (.ref (gad "law" K))
  g_BARRIERS : mg "BARRIERS" = some (.ref (gad "BARRIERS" K))
  t_BARRIERS : SqTk K (gad "BARRIERS" K) [V.str "none", V.str "follow", V.str "plain", V.str "guarded"]
  g_MOST_HUE : ∃ t, mg "MOST_HUE" = some (.int 5 t)
  g_MOST_STAND : ∃ t, mg "MOST_STAND" = some (.int 7 t)
  g_HUES : ∃ t, mg "HUES" = some (.int 6 t)
  g_Ref : mg "Ref" = some (.ref (gad "Ref" K))
  c_Ref : Cls K (gad "Ref" K)
  na_Ref_place : NoAttr K (gad "Ref" K) "place"
  na_Ref_hue : NoAttr K (gad "Ref" K) "hue"
  mk_Ref : Mk K (gad "Ref" K) (mad "Ref" "__init__" K)
  i_Ref : (Fx.inst "Ref").ok K = true
  g_Phase : mg "Phase" = some (.ref (gad "Phase" K))
  c_Phase : Cls K (gad "Phase" K)
  na_Phase_hue : NoAttr K (gad "Phase" K) "hue"
  na_Phase_barrier : NoAttr K (gad "Phase" K) "barrier"
  na_Phase_visits : NoAttr K (gad "Phase" K) "visits"
  na_Phase_pauses : NoAttr K (gad "Phase" K) "pauses"
  na_Phase_stand : NoAttr K (gad "Phase" K) "stand"
  na_Phase_skips : NoAttr K (gad "Phase" K) "skips"
  mk_Phase : Mk K (gad "Phase" K) (mad "Phase" "__init__" K)
  p_Phase_looks : PropOf K (gad "Phase" K) "looks" (mad "Phase" "looks" K) (pad "property" "Phase" "looks" K)
  p_Phase_moves : PropOf K (gad "Phase" K) "moves" (mad "Phase" "moves" K) (pad "property" "Phase" "moves" K)
  i_Phase : (Fx.inst "Phase").ok K = true
  g_Book : mg "Book" = some (.ref (gad "Book" K))
  c_Book : Cls K (gad "Book" K)
  na_Book_phases : NoAttr K (gad "Book" K) "phases"
  mk_Book : Mk K (gad "Book" K) (mad "Book" "__init__" K)
  m_Book_getitem : Meth K (gad "Book" K) "__getitem__" (mad "Book" "__getitem__" K)
  m_Book_setitem : Meth K (gad "Book" K) "__setitem__" (mad "Book" "__setitem__" K)
  m_Book_after : Meth K (gad "Book" K) "after" (mad "Book" "after" K)
  m_Book_copy : Meth K (gad "Book" K) "copy" (mad "Book" "copy" K)
  i_Book : (Fx.inst "Book").ok K = true
  g_Store : mg "Store" = some (.ref (gad "Store" K))
  c_Store : Cls K (gad "Store" K)
  na_Store__book : NoAttr K (gad "Store" K) "_book"
  na_Store__row : NoAttr K (gad "Store" K) "_row"
  na_Store__turns : NoAttr K (gad "Store" K) "_turns"
  na_Store__places : NoAttr K (gad "Store" K) "_places"
  na_Store__owners : NoAttr K (gad "Store" K) "_owners"
  na_Store__posts : NoAttr K (gad "Store" K) "_posts"
  na_Store__slots : NoAttr K (gad "Store" K) "_slots"
  na_Store__visited : NoAttr K (gad "Store" K) "_visited"
  na_Store__hands : NoAttr K (gad "Store" K) "_hands"
  na_Store__mendings : NoAttr K (gad "Store" K) "_mendings"
  mk_Store : Mk K (gad "Store" K) (mad "Store" "__init__" K)
  p_Store_row : PropOf K (gad "Store" K) "row" (mad "Store" "row" K) (pad "property" "Store" "row" K)
  p_Store_turns : PropOf K (gad "Store" K) "turns" (mad "Store" "turns" K) (pad "property" "Store" "turns" K)
  p_Store_things : PropOf K (gad "Store" K) "things" (mad "Store" "things" K) (pad "property" "Store" "things" K)
  m_Store_hand : Meth K (gad "Store" K) "hand" (mad "Store" "hand" K)
  m_Store_place_of : Meth K (gad "Store" K) "place_of" (mad "Store" "place_of" K)
  m_Store_signposts : Meth K (gad "Store" K) "signposts" (mad "Store" "signposts" K)
  m_Store_standings : Meth K (gad "Store" K) "standings" (mad "Store" "standings" K)
  m_Storestanding : Meth K (gad "Store" K) "_standing" (mad "Store" "_standing" K)
  m_Storeleft : Meth K (gad "Store" K) "_left" (mad "Store" "_left" K)
  m_Storecheck : Meth K (gad "Store" K) "_check" (mad "Store" "_check" K)
  m_Storecheck_idle : Meth K (gad "Store" K) "_check_idle" (mad "Store" "_check_idle" K)
  m_Storeheld : Meth K (gad "Store" K) "_held" (mad "Store" "_held" K)
  m_Storelook : Meth K (gad "Store" K) "_look" (mad "Store" "_look" K)
  m_Store_make : Meth K (gad "Store" K) "make" (mad "Store" "make" K)
  m_Store_write : Meth K (gad "Store" K) "write" (mad "Store" "write" K)
  m_Store_read : Meth K (gad "Store" K) "read" (mad "Store" "read" K)
  m_Store_mend : Meth K (gad "Store" K) "mend" (mad "Store" "mend" K)
  m_Store_use : Meth K (gad "Store" K) "use" (mad "Store" "use" K)
  m_Store_visit : Meth K (gad "Store" K) "visit" (mad "Store" "visit" K)
  m_Store_turn : Meth K (gad "Store" K) "turn" (mad "Store" "turn" K)
  m_Storeend_phase : Meth K (gad "Store" K) "_end_phase" (mad "Store" "_end_phase" K)
  m_Storemove : Meth K (gad "Store" K) "_move" (mad "Store" "_move" K)
  m_Store_do : Meth K (gad "Store" K) "do" (mad "Store" "do" K)
  m_Store_play : Meth K (gad "Store" K) "play" (mad "Store" "play" K)
  i_Store : (Fx.inst "Store").ok K = true
  k_NoneType_Ref : PySem.W.kitOne K (Value.type "NoneType") (Value.ref (gad "Ref" K)) = some false
  k_int_Ref : PySem.W.kitOne K (Value.type "int") (Value.ref (gad "Ref" K)) = some false
  k_bool_Ref : PySem.W.kitOne K (Value.type "bool") (Value.ref (gad "Ref" K)) = some false
  k_tuple_Ref : PySem.W.kitOne K (Value.type "tuple") (Value.ref (gad "Ref" K)) = some false
  k_Ref_Ref : PySem.W.kitOne K (Value.ref (gad "Ref" K)) (Value.ref (gad "Ref" K)) = some true
  k_Phase_Phase : PySem.W.kitOne K (Value.ref (gad "Phase" K)) (Value.ref (gad "Phase" K)) = some true
  k_Book_Book : PySem.W.kitOne K (Value.ref (gad "Book" K)) (Value.ref (gad "Book" K)) = some true
  k_Empty_Empty : PySem.W.kitOne K (Value.ref (gad "Empty" K)) (Value.ref (gad "Empty" K)) = some true
  k_NoSuch_NoSuch : PySem.W.kitOne K (Value.ref (gad "NoSuch" K)) (Value.ref (gad "NoSuch" K)) = some true
  k_Busy_Busy : PySem.W.kitOne K (Value.ref (gad "Busy" K)) (Value.ref (gad "Busy" K)) = some true
  k_NotNow_NotNow : PySem.W.kitOne K (Value.ref (gad "NotNow" K)) (Value.ref (gad "NotNow" K)) = some true
  k_Stale_Stale : PySem.W.kitOne K (Value.ref (gad "Stale" K)) (Value.ref (gad "Stale" K)) = some true
  k_Dropped_Dropped : PySem.W.kitOne K (Value.ref (gad "Dropped" K)) (Value.ref (gad "Dropped" K)) = some true
  k_Lost_Lost : PySem.W.kitOne K (Value.ref (gad "Lost" K)) (Value.ref (gad "Lost" K)) = some true
  k_Stale_Dropped : PySem.W.kitOne K (Value.ref (gad "Stale" K)) (Value.ref (gad "Dropped" K)) = some false
  k_Dropped_Stale : PySem.W.kitOne K (Value.ref (gad "Dropped" K)) (Value.ref (gad "Stale" K)) = some false
  cr_Book : ClX.CRead K (gad "Book" K) (.type "type")
  cm_Book_of : ClX.CMet K (gad "Book" K) (.type "type") "of" (mad "Book" "of" K) (pad "classmethod" "Book" "of" K)
  o_Book_len : OwnM K (gad "Book" K) "__len__" (mad "Book" "__len__" K)
  o_Book_getitem : OwnM K (gad "Book" K) "__getitem__" (mad "Book" "__getitem__" K)
  o_Book_setitem : OwnM K (gad "Book" K) "__setitem__" (mad "Book" "__setitem__" K)
  o_Ref_eq : OwnM K (gad "Ref" K) "__eq__" (mad "Ref" "__eq__" K)
  cv_Book_MOST : ∃ u, ClX.CVal K (gad "Book" K) (.type "type") "MOST" (.int 6) u
  g_BadBook : mg "BadBook" = some (.ref (gad "BadBook" K))
  x_BadBook : PySem.W.excIn K (gad "BadBook" K) He.veBase "ValueError.__new__" = true ∧ PySem.W.keepIn K (.ref (gad "BadBook" K)) = true ∧ PySem.W.subIn K (.ref (gad "BadBook" K)) (.type "BaseException") = some true ∧ PySem.W.typeIn K (.ref (gad "BadBook" K)) = some (.type "type")
  g_Refused : mg "Refused" = some (.ref (gad "Refused" K))
  g_Wrong : mg "Wrong" = some (.ref (gad "Wrong" K))
  g_BadPhase : mg "BadPhase" = some (.ref (gad "BadPhase" K))
  ox_BadPhase : OexC K (gad "BadPhase" K)
  ei_BadPhase : PySem.W.findIn K (.ref (gad "BadPhase" K)) "__init__" = some (some (.ref (mad "BadPhase" "__init__" K))) ∧ PySem.W.typeIn K (.ref (mad "BadPhase" "__init__" K)) = some (.type "function")
  sp_BadPhase : (Fx.sup "BadPhase" "BadPhase" pFile "self").ok K = true
  na_BadPhase_field : NoAttr K (gad "BadPhase" K) "field"
  g_NoSuch : mg "NoSuch" = some (.ref (gad "NoSuch" K))
  ox_NoSuch : OexC K (gad "NoSuch" K)
  ei_NoSuch : PySem.W.findIn K (.ref (gad "NoSuch" K)) "__init__" = some (some (.ref (mad "Refused" "__init__" K))) ∧ PySem.W.typeIn K (.ref (mad "Refused" "__init__" K)) = some (.type "function")
  sp_NoSuch : (Fx.sup "NoSuch" "Refused" pFile "self").ok K = true
  na_NoSuch_what : NoAttr K (gad "NoSuch" K) "what"
  na_NoSuch_number : NoAttr K (gad "NoSuch" K) "number"
  g_Empty : mg "Empty" = some (.ref (gad "Empty" K))
  ox_Empty : OexC K (gad "Empty" K)
  ei_Empty : PySem.W.findIn K (.ref (gad "Empty" K)) "__init__" = some (some (.ref (mad "Refused" "__init__" K))) ∧ PySem.W.typeIn K (.ref (mad "Refused" "__init__" K)) = some (.type "function")
  sp_Empty : (Fx.sup "Empty" "Refused" pFile "self").ok K = true
  na_Empty_what : NoAttr K (gad "Empty" K) "what"
  na_Empty_number : NoAttr K (gad "Empty" K) "number"
  g_Busy : mg "Busy" = some (.ref (gad "Busy" K))
  ox_Busy : OexC K (gad "Busy" K)
  ei_Busy : PySem.W.findIn K (.ref (gad "Busy" K)) "__init__" = some (some (.ref (mad "Refused" "__init__" K))) ∧ PySem.W.typeIn K (.ref (mad "Refused" "__init__" K)) = some (.type "function")
  sp_Busy : (Fx.sup "Busy" "Refused" pFile "self").ok K = true
  na_Busy_what : NoAttr K (gad "Busy" K) "what"
  na_Busy_number : NoAttr K (gad "Busy" K) "number"
  g_NotNow : mg "NotNow" = some (.ref (gad "NotNow" K))
  ox_NotNow : OexC K (gad "NotNow" K)
  ei_NotNow : PySem.W.findIn K (.ref (gad "NotNow" K)) "__init__" = some (some (.ref (mad "Refused" "__init__" K))) ∧ PySem.W.typeIn K (.ref (mad "Refused" "__init__" K)) = some (.type "function")
  sp_NotNow : (Fx.sup "NotNow" "Refused" pFile "self").ok K = true
  na_NotNow_what : NoAttr K (gad "NotNow" K) "what"
  na_NotNow_number : NoAttr K (gad "NotNow" K) "number"
  g_Stale : mg "Stale" = some (.ref (gad "Stale" K))
  ox_Stale : OexC K (gad "Stale" K)
  ei_Stale : PySem.W.findIn K (.ref (gad "Stale" K)) "__init__" = some (some (.ref (mad "Wrong" "__init__" K))) ∧ PySem.W.typeIn K (.ref (mad "Wrong" "__init__" K)) = some (.type "function")
  sp_Stale : (Fx.sup "Stale" "Wrong" pFile "self").ok K = true
  na_Stale_what : NoAttr K (gad "Stale" K) "what"
  na_Stale_number : NoAttr K (gad "Stale" K) "number"
  na_Stale_thing : NoAttr K (gad "Stale" K) "thing"
  g_Dropped : mg "Dropped" = some (.ref (gad "Dropped" K))
  ox_Dropped : OexC K (gad "Dropped" K)
  ei_Dropped : PySem.W.findIn K (.ref (gad "Dropped" K)) "__init__" = some (some (.ref (mad "Wrong" "__init__" K))) ∧ PySem.W.typeIn K (.ref (mad "Wrong" "__init__" K)) = some (.type "function")
  sp_Dropped : (Fx.sup "Dropped" "Wrong" pFile "self").ok K = true
  na_Dropped_what : NoAttr K (gad "Dropped" K) "what"
  na_Dropped_number : NoAttr K (gad "Dropped" K) "number"
  na_Dropped_thing : NoAttr K (gad "Dropped" K) "thing"
  g_Lost : mg "Lost" = some (.ref (gad "Lost" K))
  ox_Lost : OexC K (gad "Lost" K)
  ei_Lost : PySem.W.findIn K (.ref (gad "Lost" K)) "__init__" = some (some (.ref (mad "Wrong" "__init__" K))) ∧ PySem.W.typeIn K (.ref (mad "Wrong" "__init__" K)) = some (.type "function")
  sp_Lost : (Fx.sup "Lost" "Wrong" pFile "self").ok K = true
  na_Lost_what : NoAttr K (gad "Lost" K) "what"
  na_Lost_number : NoAttr K (gad "Lost" K) "number"
  na_Lost_thing : NoAttr K (gad "Lost" K) "thing"
  n_super : mg "super" = none
  e_NoSuch : ExcC K (gad "NoSuch" K)
  e_Empty : ExcC K (gad "Empty" K)
  e_Stale : ExcC K (gad "Stale" K)
  e_Dropped : ExcC K (gad "Dropped" K)
  xm_NoSuch_Refused : PySem.W.exmOne K (.ref (gad "NoSuch" K)) (.ref (gad "Refused" K)) = some true
  xm_NoSuch_Wrong : PySem.W.exmOne K (.ref (gad "NoSuch" K)) (.ref (gad "Wrong" K)) = some false
  xm_NoSuch_Stale : PySem.W.exmOne K (.ref (gad "NoSuch" K)) (.ref (gad "Stale" K)) = some false
  xm_NoSuch_Dropped : PySem.W.exmOne K (.ref (gad "NoSuch" K)) (.ref (gad "Dropped" K)) = some false
  xm_NoSuch_Lost : PySem.W.exmOne K (.ref (gad "NoSuch" K)) (.ref (gad "Lost" K)) = some false
  xm_Busy_Refused : PySem.W.exmOne K (.ref (gad "Busy" K)) (.ref (gad "Refused" K)) = some true
  xm_Busy_Wrong : PySem.W.exmOne K (.ref (gad "Busy" K)) (.ref (gad "Wrong" K)) = some false
  xm_Busy_Stale : PySem.W.exmOne K (.ref (gad "Busy" K)) (.ref (gad "Stale" K)) = some false
  xm_Busy_Dropped : PySem.W.exmOne K (.ref (gad "Busy" K)) (.ref (gad "Dropped" K)) = some false
  xm_Busy_Lost : PySem.W.exmOne K (.ref (gad "Busy" K)) (.ref (gad "Lost" K)) = some false
  xm_Empty_Refused : PySem.W.exmOne K (.ref (gad "Empty" K)) (.ref (gad "Refused" K)) = some true
  xm_Empty_Wrong : PySem.W.exmOne K (.ref (gad "Empty" K)) (.ref (gad "Wrong" K)) = some false
  xm_Empty_Stale : PySem.W.exmOne K (.ref (gad "Empty" K)) (.ref (gad "Stale" K)) = some false
  xm_Empty_Dropped : PySem.W.exmOne K (.ref (gad "Empty" K)) (.ref (gad "Dropped" K)) = some false
  xm_Empty_Lost : PySem.W.exmOne K (.ref (gad "Empty" K)) (.ref (gad "Lost" K)) = some false
  xm_NotNow_Refused : PySem.W.exmOne K (.ref (gad "NotNow" K)) (.ref (gad "Refused" K)) = some true
  xm_NotNow_Wrong : PySem.W.exmOne K (.ref (gad "NotNow" K)) (.ref (gad "Wrong" K)) = some false
  xm_NotNow_Stale : PySem.W.exmOne K (.ref (gad "NotNow" K)) (.ref (gad "Stale" K)) = some false
  xm_NotNow_Dropped : PySem.W.exmOne K (.ref (gad "NotNow" K)) (.ref (gad "Dropped" K)) = some false
  xm_NotNow_Lost : PySem.W.exmOne K (.ref (gad "NotNow" K)) (.ref (gad "Lost" K)) = some false
  xm_Stale_Refused : PySem.W.exmOne K (.ref (gad "Stale" K)) (.ref (gad "Refused" K)) = some false
  xm_Stale_Wrong : PySem.W.exmOne K (.ref (gad "Stale" K)) (.ref (gad "Wrong" K)) = some true
  xm_Stale_Stale : PySem.W.exmOne K (.ref (gad "Stale" K)) (.ref (gad "Stale" K)) = some true
  xm_Stale_Dropped : PySem.W.exmOne K (.ref (gad "Stale" K)) (.ref (gad "Dropped" K)) = some false
  xm_Stale_Lost : PySem.W.exmOne K (.ref (gad "Stale" K)) (.ref (gad "Lost" K)) = some false
  xm_Dropped_Refused : PySem.W.exmOne K (.ref (gad "Dropped" K)) (.ref (gad "Refused" K)) = some false
  xm_Dropped_Wrong : PySem.W.exmOne K (.ref (gad "Dropped" K)) (.ref (gad "Wrong" K)) = some true
  xm_Dropped_Stale : PySem.W.exmOne K (.ref (gad "Dropped" K)) (.ref (gad "Stale" K)) = some false
  xm_Dropped_Dropped : PySem.W.exmOne K (.ref (gad "Dropped" K)) (.ref (gad "Dropped" K)) = some true
  xm_Dropped_Lost : PySem.W.exmOne K (.ref (gad "Dropped" K)) (.ref (gad "Lost" K)) = some false
  xm_Lost_Refused : PySem.W.exmOne K (.ref (gad "Lost" K)) (.ref (gad "Refused" K)) = some false
  xm_Lost_Wrong : PySem.W.exmOne K (.ref (gad "Lost" K)) (.ref (gad "Wrong" K)) = some true
  xm_Lost_Stale : PySem.W.exmOne K (.ref (gad "Lost" K)) (.ref (gad "Stale" K)) = some false
  xm_Lost_Dropped : PySem.W.exmOne K (.ref (gad "Lost" K)) (.ref (gad "Dropped" K)) = some false
  xm_Lost_Lost : PySem.W.exmOne K (.ref (gad "Lost" K)) (.ref (gad "Lost" K)) = some true
  nf_Ref_Ref : PySem.W.notFirst K (gad "Ref" K) (Value.ref (gad "Ref" K)) = true
  ns_Ref : NoSubs K (gad "Ref" K)
  bm_Store_turn : PySem.W.specialIn K (.ref (mad "Store" "turn" K)) "__get__" = some (some (.builtin "function.__get__")) ∧ PySem.W.takesIn K (.ref (mad "Store" "turn" K)) = some false ∧ PySem.W.fnIn K (mad "Store" "turn" K) = true
  F_BadPhase_init : ∃ cc cdv, FunC K "__init__" "BadPhase.__init__" (defArgs s_BadPhase_init) (defBody s_BadPhase_init) (defScope s_BadPhase_init) (mad "BadPhase" "__init__" K) cc cdv (fdD K (mad "BadPhase" "__init__" K))
  F_Refused_init : ∃ cc cdv, FunC K "__init__" "Refused.__init__" (defArgs s_Refused_init) (defBody s_Refused_init) (defScope s_Refused_init) (mad "Refused" "__init__" K) cc cdv (fdD K (mad "Refused" "__init__" K))
  F_Wrong_init : ∃ cc cdv, FunC K "__init__" "Wrong.__init__" (defArgs s_Wrong_init) (defBody s_Wrong_init) (defScope s_Wrong_init) (mad "Wrong" "__init__" K) cc cdv (fdD K (mad "Wrong" "__init__" K))
  F_Ref_init : FunD K "__init__" "Ref.__init__" (defArgs s_Ref_init) (defBody s_Ref_init) (defScope s_Ref_init) [] [] (mad "Ref" "__init__" K) (fdD K (mad "Ref" "__init__" K))
  F_Ref_eq : FunD K "__eq__" "Ref.__eq__" (defArgs s_Ref_eq) (defBody s_Ref_eq) (defScope s_Ref_eq) [] [] (mad "Ref" "__eq__" K) (fdD K (mad "Ref" "__eq__" K))
  F_Store_init : FunD K "__init__" "Store.__init__" (defArgs s_Store_init) (defBody s_Store_init) (defScope s_Store_init) [] [("slots", V.int (1)), ("hands", V.int (2))] (mad "Store" "__init__" K) (fdD K (mad "Store" "__init__" K))
  F_Store_row : FunD K "row" "Store.row" (defArgs s_Store_row) (defBody s_Store_row) (defScope s_Store_row) [] [] (pad "property" "Store" "row" K) (fdD K (pad "property" "Store" "row" K))
  F_Store_turns : FunD K "turns" "Store.turns" (defArgs s_Store_turns) (defBody s_Store_turns) (defScope s_Store_turns) [] [] (pad "property" "Store" "turns" K) (fdD K (pad "property" "Store" "turns" K))
  F_Store_things : FunD K "things" "Store.things" (defArgs s_Store_things) (defBody s_Store_things) (defScope s_Store_things) [] [] (pad "property" "Store" "things" K) (fdD K (pad "property" "Store" "things" K))
  F_Store_hand : FunD K "hand" "Store.hand" (defArgs s_Store_hand) (defBody s_Store_hand) (defScope s_Store_hand) [] [] (mad "Store" "hand" K) (fdD K (mad "Store" "hand" K))
  F_Store_place_of : FunD K "place_of" "Store.place_of" (defArgs s_Store_place_of) (defBody s_Store_place_of) (defScope s_Store_place_of) [] [] (mad "Store" "place_of" K) (fdD K (mad "Store" "place_of" K))
  F_Store_signposts : FunD K "signposts" "Store.signposts" (defArgs s_Store_signposts) (defBody s_Store_signposts) (defScope s_Store_signposts) [] [] (mad "Store" "signposts" K) (fdD K (mad "Store" "signposts" K))
  F_Store_standings : FunD K "standings" "Store.standings" (defArgs s_Store_standings) (defBody s_Store_standings) (defScope s_Store_standings) [] [] (mad "Store" "standings" K) (fdD K (mad "Store" "standings" K))
  F_Storestanding : FunD K "_standing" "Store._standing" (defArgs s_Storestanding) (defBody s_Storestanding) (defScope s_Storestanding) [] [] (mad "Store" "_standing" K) (fdD K (mad "Store" "_standing" K))
  F_Storeleft : FunD K "_left" "Store._left" (defArgs s_Storeleft) (defBody s_Storeleft) (defScope s_Storeleft) [] [] (mad "Store" "_left" K) (fdD K (mad "Store" "_left" K))
  F_Storecheck : FunD K "_check" "Store._check" (defArgs s_Storecheck) (defBody s_Storecheck) (defScope s_Storecheck) [] [] (mad "Store" "_check" K) (fdD K (mad "Store" "_check" K))
  F_Storecheck_idle : FunD K "_check_idle" "Store._check_idle" (defArgs s_Storecheck_idle) (defBody s_Storecheck_idle) (defScope s_Storecheck_idle) [] [] (mad "Store" "_check_idle" K) (fdD K (mad "Store" "_check_idle" K))
  F_Storeheld : FunD K "_held" "Store._held" (defArgs s_Storeheld) (defBody s_Storeheld) (defScope s_Storeheld) [] [] (mad "Store" "_held" K) (fdD K (mad "Store" "_held" K))
  F_Storelook : FunD K "_look" "Store._look" (defArgs s_Storelook) (defBody s_Storelook) (defScope s_Storelook) [] [] (mad "Store" "_look" K) (fdD K (mad "Store" "_look" K))
  F_Store_make : FunD K "make" "Store.make" (defArgs s_Store_make) (defBody s_Store_make) (defScope s_Store_make) [] [] (mad "Store" "make" K) (fdD K (mad "Store" "make" K))
  F_Store_write : FunD K "write" "Store.write" (defArgs s_Store_write) (defBody s_Store_write) (defScope s_Store_write) [] [] (mad "Store" "write" K) (fdD K (mad "Store" "write" K))
  F_Store_read : FunD K "read" "Store.read" (defArgs s_Store_read) (defBody s_Store_read) (defScope s_Store_read) [] [] (mad "Store" "read" K) (fdD K (mad "Store" "read" K))
  F_Store_mend : FunD K "mend" "Store.mend" (defArgs s_Store_mend) (defBody s_Store_mend) (defScope s_Store_mend) [] [] (mad "Store" "mend" K) (fdD K (mad "Store" "mend" K))
  F_Store_use : FunD K "use" "Store.use" (defArgs s_Store_use) (defBody s_Store_use) (defScope s_Store_use) [] [] (mad "Store" "use" K) (fdD K (mad "Store" "use" K))
  F_Store_visit : FunD K "visit" "Store.visit" (defArgs s_Store_visit) (defBody s_Store_visit) (defScope s_Store_visit) [] [] (mad "Store" "visit" K) (fdD K (mad "Store" "visit" K))
  F_Store_turn : FunD K "turn" "Store.turn" (defArgs s_Store_turn) (defBody s_Store_turn) (defScope s_Store_turn) [] [("skip", V.int (0))] (mad "Store" "turn" K) (fdD K (mad "Store" "turn" K))
  F_Storeend_phase : FunD K "_end_phase" "Store._end_phase" (defArgs s_Storeend_phase) (defBody s_Storeend_phase) (defScope s_Storeend_phase) [] [] (mad "Store" "_end_phase" K) (fdD K (mad "Store" "_end_phase" K))
  F_Storemove : FunD K "_move" "Store._move" (defArgs s_Storemove) (defBody s_Storemove) (defScope s_Storemove) [] [] (mad "Store" "_move" K) (fdD K (mad "Store" "_move" K))
  F_Store_do : FunD K "do" "Store.do" (defArgs s_Store_do) (defBody s_Store_do) (defScope s_Store_do) [] [] (mad "Store" "do" K) (fdD K (mad "Store" "do" K))
  F_Store_play : FunD K "play" "Store.play" (defArgs s_Store_play) (defBody s_Store_play) (defScope s_Store_play) [] [] (mad "Store" "play" K) (fdD K (mad "Store" "play" K))
  F_Phase_init : FunD K "__init__" "Phase.__init__" (defArgs s_Phase_init) (defBody s_Phase_init) (defScope s_Phase_init) [] [("barrier", V.str "guarded"), ("visits", V.bl false), ("pauses", V.bl true), ("stand", V.int (0)), ("skips", V.bl false)] (mad "Phase" "__init__" K) (fdD K (mad "Phase" "__init__" K))
  F_Phase_looks : FunD K "looks" "Phase.looks" (defArgs s_Phase_looks) (defBody s_Phase_looks) (defScope s_Phase_looks) [] [] (pad "property" "Phase" "looks" K) (fdD K (pad "property" "Phase" "looks" K))
  F_Phase_moves : FunD K "moves" "Phase.moves" (defArgs s_Phase_moves) (defBody s_Phase_moves) (defScope s_Phase_moves) [] [] (pad "property" "Phase" "moves" K) (fdD K (pad "property" "Phase" "moves" K))
  F_Book_init : FunD K "__init__" "Book.__init__" (defArgs s_Book_init) (defBody s_Book_init) (defScope s_Book_init) [] [] (mad "Book" "__init__" K) (fdD K (mad "Book" "__init__" K))
  F_Book_len : FunD K "__len__" "Book.__len__" (defArgs s_Book_len) (defBody s_Book_len) (defScope s_Book_len) [] [] (mad "Book" "__len__" K) (fdD K (mad "Book" "__len__" K))
  F_Book_getitem : FunD K "__getitem__" "Book.__getitem__" (defArgs s_Book_getitem) (defBody s_Book_getitem) (defScope s_Book_getitem) [] [] (mad "Book" "__getitem__" K) (fdD K (mad "Book" "__getitem__" K))
  F_Book_setitem : FunD K "__setitem__" "Book.__setitem__" (defArgs s_Book_setitem) (defBody s_Book_setitem) (defScope s_Book_setitem) [] [] (mad "Book" "__setitem__" K) (fdD K (mad "Book" "__setitem__" K))
  F_Book_of : FunD K "of" "Book.of" (defArgs s_Book_of) (defBody s_Book_of) (defScope s_Book_of) [] [] (pad "classmethod" "Book" "of" K) (fdD K (pad "classmethod" "Book" "of" K))
  F_Book_after : FunD K "after" "Book.after" (defArgs s_Book_after) (defBody s_Book_after) (defScope s_Book_after) [] [] (mad "Book" "after" K) (fdD K (mad "Book" "after" K))
  F_Book_copy : FunD K "copy" "Book.copy" (defArgs s_Book_copy) (defBody s_Book_copy) (defScope s_Book_copy) [] [] (mad "Book" "copy" K) (fdD K (mad "Book" "copy" K))
  F_l_int : FunD K "_law_int" "_law_int" (defArgs s_l_int) (defBody s_l_int) (defScope s_l_int) [] [] (gad "_law_int" K) (fdD K (gad "_law_int" K))
  F_l_pool : FunD K "_law_pool" "_law_pool" (defArgs s_l_pool) (defBody s_l_pool) (defScope s_l_pool) [] [] (gad "_law_pool" K) (fdD K (gad "_law_pool" K))
  F_l_take : FunD K "_law_take" "_law_take" (defArgs s_l_take) (defBody s_l_take) (defScope s_l_take) [] [] (gad "_law_take" K) (fdD K (gad "_law_take" K))
  F_l_mover : FunD K "_law_mover" "_law_mover" (defArgs s_l_mover) (defBody s_l_mover) (defScope s_l_mover) [] [] (gad "_law_mover" K) (fdD K (gad "_law_mover" K))
  F_l_phase : FunD K "_law_phase" "_law_phase" (defArgs s_l_phase) (defBody s_l_phase) (defScope s_l_phase) [] [] (gad "_law_phase" K) (fdD K (gad "_law_phase" K))
  F_l_value : FunD K "_law_value" "_law_value" (defArgs s_l_value) (defBody s_l_value) (defScope s_l_value) [] [] (gad "_law_value" K) (fdD K (gad "_law_value" K))
  F_l_turned : FunD K "_law_turned" "_law_turned" (defArgs s_l_turned) (defBody s_l_turned) (defScope s_l_turned) [] [] (gad "_law_turned" K) (fdD K (gad "_law_turned" K))
  F_l_rests : FunD K "_law_rests" "_law_rests" (defArgs s_l_rests) (defBody s_l_rests) (defScope s_l_rests) [] [] (gad "_law_rests" K) (fdD K (gad "_law_rests" K))
  F_l_posts : FunD K "_law_posts" "_law_posts" (defArgs s_l_posts) (defBody s_l_posts) (defScope s_l_posts) [] [] (gad "_law_posts" K) (fdD K (gad "_law_posts" K))
  F_l_stand : FunD K "_law_stand" "_law_stand" (defArgs s_l_stand) (defBody s_l_stand) (defScope s_l_stand) [] [] (gad "_law_stand" K) (fdD K (gad "_law_stand" K))
  F_l_same_lists : FunD K "_law_same_lists" "_law_same_lists" (defArgs s_l_same_lists) (defBody s_l_same_lists) (defScope s_l_same_lists) [] [] (gad "_law_same_lists" K) (fdD K (gad "_law_same_lists" K))
  F_l_read : FunD K "_law_read" "_law_read" (defArgs s_l_read) (defBody s_l_read) (defScope s_l_read) [] [] (gad "_law_read" K) (fdD K (gad "_law_read" K))
  F_l_look : FunD K "_law_look" "_law_look" (defArgs s_l_look) (defBody s_l_look) (defScope s_l_look) [] [] (gad "_law_look" K) (fdD K (gad "_law_look" K))
  F_l_agree : FunD K "_law_agree" "_law_agree" (defArgs s_l_agree) (defBody s_l_agree) (defScope s_l_agree) [] [] (gad "_law_agree" K) (fdD K (gad "_law_agree" K))
  F_law : FunD K "law" "law" (defArgs s_law) (defBody s_law) (defScope s_law) [] [] (gad "law" K) (fdD K (gad "law" K))
theorem Tx.of {K : PySem.W.Frag} {h : Heap} {mg : Str → Option Value} (X : K.In h) (G : h.Ns mainGlobals mg) (c : SaysX faAll fxAll dsAll K) : Tx K mg where
  n_abs := He.free_ok X G (c.fact 0 (f := .free "abs") rfl)
  n_bool := He.free_ok X G (c.fact 1 (f := .free "bool") rfl)
  n_dict := He.free_ok X G (c.fact 2 (f := .free "dict") rfl)
  n_enumerate := He.free_ok X G (c.fact 3 (f := .free "enumerate") rfl)
  n_int := He.free_ok X G (c.fact 4 (f := .free "int") rfl)
  n_isinstance := He.free_ok X G (c.fact 5 (f := .free "isinstance") rfl)
  n_len := He.free_ok X G (c.fact 6 (f := .free "len") rfl)
  n_list := He.free_ok X G (c.fact 7 (f := .free "list") rfl)
  n_max := He.free_ok X G (c.fact 8 (f := .free "max") rfl)
  n_min := He.free_ok X G (c.fact 9 (f := .free "min") rfl)
  n_range := He.free_ok X G (c.fact 10 (f := .free "range") rfl)
  n_set := He.free_ok X G (c.fact 11 (f := .free "set") rfl)
  n_sorted := He.free_ok X G (c.fact 12 (f := .free "sorted") rfl)
  n_str := He.free_ok X G (c.fact 13 (f := .free "str") rfl)
  n_tuple := He.free_ok X G (c.fact 14 (f := .free "tuple") rfl)
  n_zip := He.free_ok X G (c.fact 15 (f := .free "zip") rfl)
  g_l_int := He.glo_ok X G (c.fact 16 (f := .glo "_law_int") rfl)
  g_l_pool := He.glo_ok X G (c.fact 17 (f := .glo "_law_pool") rfl)
  g_l_take := He.glo_ok X G (c.fact 18 (f := .glo "_law_take") rfl)
  g_l_mover := He.glo_ok X G (c.fact 19 (f := .glo "_law_mover") rfl)
  g_l_phase := He.glo_ok X G (c.fact 20 (f := .glo "_law_phase") rfl)
  g_l_value := He.glo_ok X G (c.fact 21 (f := .glo "_law_value") rfl)
  g_l_turned := He.glo_ok X G (c.fact 22 (f := .glo "_law_turned") rfl)
  g_l_rests := He.glo_ok X G (c.fact 23 (f := .glo "_law_rests") rfl)
  g_l_posts := He.glo_ok X G (c.fact 24 (f := .glo "_law_posts") rfl)
  g_l_stand := He.glo_ok X G (c.fact 25 (f := .glo "_law_stand") rfl)
  g_l_same_lists := He.glo_ok X G (c.fact 26 (f := .glo "_law_same_lists") rfl)
  g_l_read := He.glo_ok X G (c.fact 27 (f := .glo "_law_read") rfl)
  g_l_look := He.glo_ok X G (c.fact 28 (f := .glo "_law_look") rfl)
  g_l_agree := He.glo_ok X G (c.fact 29 (f := .glo "_law_agree") rfl)
  g_law := He.glo_ok X G (c.fact 30 (f := .glo "law") rfl)
  g_BARRIERS := He.glo_ok X G (c.fact 31 (f := .glo "BARRIERS") rfl)
  t_BARRIERS := tup_ok (c.more 0 (f := .tup "BARRIERS" [.str "none", .str "follow", .str "plain", .str "guarded"]) rfl)
  g_MOST_HUE := He.int_ok X G (c.fact 32 (f := .int "MOST_HUE" 5) rfl)
  g_MOST_STAND := He.int_ok X G (c.fact 33 (f := .int "MOST_STAND" 7) rfl)
  g_HUES := He.int_ok X G (c.fact 34 (f := .int "HUES" 6) rfl)
  g_Ref := He.glo_ok X G (c.fact 35 (f := .glo "Ref") rfl)
  c_Ref := He.cls_ok (c.fact 36 (f := .cls "Ref") rfl)
  na_Ref_place := He.noat_ok (c.fact 37 (f := .noat "Ref" "place") rfl)
  na_Ref_hue := He.noat_ok (c.fact 38 (f := .noat "Ref" "hue") rfl)
  mk_Ref := He.mkr_ok (c.fact 39 (f := .mkr "Ref") rfl)
  i_Ref := (c.more 1 (f := .inst "Ref") rfl)
  g_Phase := He.glo_ok X G (c.fact 40 (f := .glo "Phase") rfl)
  c_Phase := He.cls_ok (c.fact 41 (f := .cls "Phase") rfl)
  na_Phase_hue := He.noat_ok (c.fact 42 (f := .noat "Phase" "hue") rfl)
  na_Phase_barrier := He.noat_ok (c.fact 43 (f := .noat "Phase" "barrier") rfl)
  na_Phase_visits := He.noat_ok (c.fact 44 (f := .noat "Phase" "visits") rfl)
  na_Phase_pauses := He.noat_ok (c.fact 45 (f := .noat "Phase" "pauses") rfl)
  na_Phase_stand := He.noat_ok (c.fact 46 (f := .noat "Phase" "stand") rfl)
  na_Phase_skips := He.noat_ok (c.fact 47 (f := .noat "Phase" "skips") rfl)
  mk_Phase := He.mkr_ok (c.fact 48 (f := .mkr "Phase") rfl)
  p_Phase_looks := prop_ok (c.more 2 (f := .prop "Phase" "looks") rfl)
  p_Phase_moves := prop_ok (c.more 3 (f := .prop "Phase" "moves") rfl)
  i_Phase := (c.more 4 (f := .inst "Phase") rfl)
  g_Book := He.glo_ok X G (c.fact 49 (f := .glo "Book") rfl)
  c_Book := He.cls_ok (c.fact 50 (f := .cls "Book") rfl)
  na_Book_phases := He.noat_ok (c.fact 51 (f := .noat "Book" "phases") rfl)
  mk_Book := He.mkr_ok (c.fact 52 (f := .mkr "Book") rfl)
  m_Book_getitem := He.meth_ok (c.fact 53 (f := .meth "Book" "__getitem__") rfl)
  m_Book_setitem := He.meth_ok (c.fact 54 (f := .meth "Book" "__setitem__") rfl)
  m_Book_after := He.meth_ok (c.fact 55 (f := .meth "Book" "after") rfl)
  m_Book_copy := He.meth_ok (c.fact 56 (f := .meth "Book" "copy") rfl)
  i_Book := (c.more 5 (f := .inst "Book") rfl)
  g_Store := He.glo_ok X G (c.fact 57 (f := .glo "Store") rfl)
  c_Store := He.cls_ok (c.fact 58 (f := .cls "Store") rfl)
  na_Store__book := He.noat_ok (c.fact 59 (f := .noat "Store" "_book") rfl)
  na_Store__row := He.noat_ok (c.fact 60 (f := .noat "Store" "_row") rfl)
  na_Store__turns := He.noat_ok (c.fact 61 (f := .noat "Store" "_turns") rfl)
  na_Store__places := He.noat_ok (c.fact 62 (f := .noat "Store" "_places") rfl)
  na_Store__owners := He.noat_ok (c.fact 63 (f := .noat "Store" "_owners") rfl)
  na_Store__posts := He.noat_ok (c.fact 64 (f := .noat "Store" "_posts") rfl)
  na_Store__slots := He.noat_ok (c.fact 65 (f := .noat "Store" "_slots") rfl)
  na_Store__visited := He.noat_ok (c.fact 66 (f := .noat "Store" "_visited") rfl)
  na_Store__hands := He.noat_ok (c.fact 67 (f := .noat "Store" "_hands") rfl)
  na_Store__mendings := He.noat_ok (c.fact 68 (f := .noat "Store" "_mendings") rfl)
  mk_Store := He.mkr_ok (c.fact 69 (f := .mkr "Store") rfl)
  p_Store_row := prop_ok (c.more 6 (f := .prop "Store" "row") rfl)
  p_Store_turns := prop_ok (c.more 7 (f := .prop "Store" "turns") rfl)
  p_Store_things := prop_ok (c.more 8 (f := .prop "Store" "things") rfl)
  m_Store_hand := He.meth_ok (c.fact 70 (f := .meth "Store" "hand") rfl)
  m_Store_place_of := He.meth_ok (c.fact 71 (f := .meth "Store" "place_of") rfl)
  m_Store_signposts := He.meth_ok (c.fact 72 (f := .meth "Store" "signposts") rfl)
  m_Store_standings := He.meth_ok (c.fact 73 (f := .meth "Store" "standings") rfl)
  m_Storestanding := He.meth_ok (c.fact 74 (f := .meth "Store" "_standing") rfl)
  m_Storeleft := He.meth_ok (c.fact 75 (f := .meth "Store" "_left") rfl)
  m_Storecheck := He.meth_ok (c.fact 76 (f := .meth "Store" "_check") rfl)
  m_Storecheck_idle := He.meth_ok (c.fact 77 (f := .meth "Store" "_check_idle") rfl)
  m_Storeheld := He.meth_ok (c.fact 78 (f := .meth "Store" "_held") rfl)
  m_Storelook := He.meth_ok (c.fact 79 (f := .meth "Store" "_look") rfl)
  m_Store_make := He.meth_ok (c.fact 80 (f := .meth "Store" "make") rfl)
  m_Store_write := He.meth_ok (c.fact 81 (f := .meth "Store" "write") rfl)
  m_Store_read := He.meth_ok (c.fact 82 (f := .meth "Store" "read") rfl)
  m_Store_mend := He.meth_ok (c.fact 83 (f := .meth "Store" "mend") rfl)
  m_Store_use := He.meth_ok (c.fact 84 (f := .meth "Store" "use") rfl)
  m_Store_visit := He.meth_ok (c.fact 85 (f := .meth "Store" "visit") rfl)
  m_Store_turn := He.meth_ok (c.fact 86 (f := .meth "Store" "turn") rfl)
  m_Storeend_phase := He.meth_ok (c.fact 87 (f := .meth "Store" "_end_phase") rfl)
  m_Storemove := He.meth_ok (c.fact 88 (f := .meth "Store" "_move") rfl)
  m_Store_do := He.meth_ok (c.fact 89 (f := .meth "Store" "do") rfl)
  m_Store_play := He.meth_ok (c.fact 90 (f := .meth "Store" "play") rfl)
  i_Store := (c.more 9 (f := .inst "Store") rfl)
  k_NoneType_Ref := kit_ok (c.more 10 (f := .kit (.ty "NoneType") (.own "Ref") false) rfl)
  k_int_Ref := kit_ok (c.more 11 (f := .kit (.ty "int") (.own "Ref") false) rfl)
  k_bool_Ref := kit_ok (c.more 12 (f := .kit (.ty "bool") (.own "Ref") false) rfl)
  k_tuple_Ref := kit_ok (c.more 13 (f := .kit (.ty "tuple") (.own "Ref") false) rfl)
  k_Ref_Ref := kit_ok (c.more 14 (f := .kit (.own "Ref") (.own "Ref") true) rfl)
  k_Phase_Phase := kit_ok (c.more 15 (f := .kit (.own "Phase") (.own "Phase") true) rfl)
  k_Book_Book := kit_ok (c.more 16 (f := .kit (.own "Book") (.own "Book") true) rfl)
  k_Empty_Empty := kit_ok (c.more 17 (f := .kit (.own "Empty") (.own "Empty") true) rfl)
  k_NoSuch_NoSuch := kit_ok (c.more 18 (f := .kit (.own "NoSuch") (.own "NoSuch") true) rfl)
  k_Busy_Busy := kit_ok (c.more 19 (f := .kit (.own "Busy") (.own "Busy") true) rfl)
  k_NotNow_NotNow := kit_ok (c.more 20 (f := .kit (.own "NotNow") (.own "NotNow") true) rfl)
  k_Stale_Stale := kit_ok (c.more 21 (f := .kit (.own "Stale") (.own "Stale") true) rfl)
  k_Dropped_Dropped := kit_ok (c.more 22 (f := .kit (.own "Dropped") (.own "Dropped") true) rfl)
  k_Lost_Lost := kit_ok (c.more 23 (f := .kit (.own "Lost") (.own "Lost") true) rfl)
  k_Stale_Dropped := kit_ok (c.more 24 (f := .kit (.own "Stale") (.own "Dropped") false) rfl)
  k_Dropped_Stale := kit_ok (c.more 25 (f := .kit (.own "Dropped") (.own "Stale") false) rfl)
  cr_Book := cread_ok (c.more 26 (f := .cread "Book") rfl)
  cm_Book_of := cmeth_ok (c.more 27 (f := .cmeth "Book" "of") rfl)
  o_Book_len := own_ok (c.more 28 (f := .own "Book" "__len__") rfl)
  o_Book_getitem := own_ok (c.more 29 (f := .own "Book" "__getitem__") rfl)
  o_Book_setitem := own_ok (c.more 30 (f := .own "Book" "__setitem__") rfl)
  o_Ref_eq := own_ok (c.more 31 (f := .own "Ref" "__eq__") rfl)
  cv_Book_MOST := cint_ok (c.more 32 (f := .cint "Book" "MOST" 6) rfl)
  g_BadBook := He.glo_ok X G (c.fact 91 (f := .glo "BadBook") rfl)
  x_BadBook := He.exc_ok (c.fact 92 (f := .exc "BadBook") rfl)
  g_Refused := He.glo_ok X G (c.fact 93 (f := .glo "Refused") rfl)
  g_Wrong := He.glo_ok X G (c.fact 94 (f := .glo "Wrong") rfl)
  g_BadPhase := He.glo_ok X G (c.fact 95 (f := .glo "BadPhase") rfl)
  ox_BadPhase := oex_ok (c.more 33 (f := .oex "BadPhase") rfl)
  ei_BadPhase := einit_ok (c.more 34 (f := .einit "BadPhase" "BadPhase") rfl)
  sp_BadPhase := (c.more 35 (f := .sup "BadPhase" "BadPhase" pFile "self") rfl)
  na_BadPhase_field := He.noat_ok (c.fact 96 (f := .noat "BadPhase" "field") rfl)
  g_NoSuch := He.glo_ok X G (c.fact 97 (f := .glo "NoSuch") rfl)
  ox_NoSuch := oex_ok (c.more 36 (f := .oex "NoSuch") rfl)
  ei_NoSuch := einit_ok (c.more 37 (f := .einit "NoSuch" "Refused") rfl)
  sp_NoSuch := (c.more 38 (f := .sup "NoSuch" "Refused" pFile "self") rfl)
  na_NoSuch_what := He.noat_ok (c.fact 98 (f := .noat "NoSuch" "what") rfl)
  na_NoSuch_number := He.noat_ok (c.fact 99 (f := .noat "NoSuch" "number") rfl)
  g_Empty := He.glo_ok X G (c.fact 100 (f := .glo "Empty") rfl)
  ox_Empty := oex_ok (c.more 39 (f := .oex "Empty") rfl)
  ei_Empty := einit_ok (c.more 40 (f := .einit "Empty" "Refused") rfl)
  sp_Empty := (c.more 41 (f := .sup "Empty" "Refused" pFile "self") rfl)
  na_Empty_what := He.noat_ok (c.fact 101 (f := .noat "Empty" "what") rfl)
  na_Empty_number := He.noat_ok (c.fact 102 (f := .noat "Empty" "number") rfl)
  g_Busy := He.glo_ok X G (c.fact 103 (f := .glo "Busy") rfl)
  ox_Busy := oex_ok (c.more 42 (f := .oex "Busy") rfl)
  ei_Busy := einit_ok (c.more 43 (f := .einit "Busy" "Refused") rfl)
  sp_Busy := (c.more 44 (f := .sup "Busy" "Refused" pFile "self") rfl)
  na_Busy_what := He.noat_ok (c.fact 104 (f := .noat "Busy" "what") rfl)
  na_Busy_number := He.noat_ok (c.fact 105 (f := .noat "Busy" "number") rfl)
  g_NotNow := He.glo_ok X G (c.fact 106 (f := .glo "NotNow") rfl)
  ox_NotNow := oex_ok (c.more 45 (f := .oex "NotNow") rfl)
  ei_NotNow := einit_ok (c.more 46 (f := .einit "NotNow" "Refused") rfl)
  sp_NotNow := (c.more 47 (f := .sup "NotNow" "Refused" pFile "self") rfl)
  na_NotNow_what := He.noat_ok (c.fact 107 (f := .noat "NotNow" "what") rfl)
  na_NotNow_number := He.noat_ok (c.fact 108 (f := .noat "NotNow" "number") rfl)
  g_Stale := He.glo_ok X G (c.fact 109 (f := .glo "Stale") rfl)
  ox_Stale := oex_ok (c.more 48 (f := .oex "Stale") rfl)
  ei_Stale := einit_ok (c.more 49 (f := .einit "Stale" "Wrong") rfl)
  sp_Stale := (c.more 50 (f := .sup "Stale" "Wrong" pFile "self") rfl)
  na_Stale_what := He.noat_ok (c.fact 110 (f := .noat "Stale" "what") rfl)
  na_Stale_number := He.noat_ok (c.fact 111 (f := .noat "Stale" "number") rfl)
  na_Stale_thing := He.noat_ok (c.fact 112 (f := .noat "Stale" "thing") rfl)
  g_Dropped := He.glo_ok X G (c.fact 113 (f := .glo "Dropped") rfl)
  ox_Dropped := oex_ok (c.more 51 (f := .oex "Dropped") rfl)
  ei_Dropped := einit_ok (c.more 52 (f := .einit "Dropped" "Wrong") rfl)
  sp_Dropped := (c.more 53 (f := .sup "Dropped" "Wrong" pFile "self") rfl)
  na_Dropped_what := He.noat_ok (c.fact 114 (f := .noat "Dropped" "what") rfl)
  na_Dropped_number := He.noat_ok (c.fact 115 (f := .noat "Dropped" "number") rfl)
  na_Dropped_thing := He.noat_ok (c.fact 116 (f := .noat "Dropped" "thing") rfl)
  g_Lost := He.glo_ok X G (c.fact 117 (f := .glo "Lost") rfl)
  ox_Lost := oex_ok (c.more 54 (f := .oex "Lost") rfl)
  ei_Lost := einit_ok (c.more 55 (f := .einit "Lost" "Wrong") rfl)
  sp_Lost := (c.more 56 (f := .sup "Lost" "Wrong" pFile "self") rfl)
  na_Lost_what := He.noat_ok (c.fact 118 (f := .noat "Lost" "what") rfl)
  na_Lost_number := He.noat_ok (c.fact 119 (f := .noat "Lost" "number") rfl)
  na_Lost_thing := He.noat_ok (c.fact 120 (f := .noat "Lost" "thing") rfl)
  n_super := He.free_ok X G (c.fact 121 (f := .free "super") rfl)
  e_NoSuch := excC_ok (c.more 57 (f := .excC "NoSuch") rfl)
  e_Empty := excC_ok (c.more 58 (f := .excC "Empty") rfl)
  e_Stale := excC_ok (c.more 59 (f := .excC "Stale") rfl)
  e_Dropped := excC_ok (c.more 60 (f := .excC "Dropped") rfl)
  xm_NoSuch_Refused := He.exm_ok (c.fact 122 (f := .exm "NoSuch" "Refused" true) rfl)
  xm_NoSuch_Wrong := He.exm_ok (c.fact 123 (f := .exm "NoSuch" "Wrong" false) rfl)
  xm_NoSuch_Stale := He.exm_ok (c.fact 124 (f := .exm "NoSuch" "Stale" false) rfl)
  xm_NoSuch_Dropped := He.exm_ok (c.fact 125 (f := .exm "NoSuch" "Dropped" false) rfl)
  xm_NoSuch_Lost := He.exm_ok (c.fact 126 (f := .exm "NoSuch" "Lost" false) rfl)
  xm_Busy_Refused := He.exm_ok (c.fact 127 (f := .exm "Busy" "Refused" true) rfl)
  xm_Busy_Wrong := He.exm_ok (c.fact 128 (f := .exm "Busy" "Wrong" false) rfl)
  xm_Busy_Stale := He.exm_ok (c.fact 129 (f := .exm "Busy" "Stale" false) rfl)
  xm_Busy_Dropped := He.exm_ok (c.fact 130 (f := .exm "Busy" "Dropped" false) rfl)
  xm_Busy_Lost := He.exm_ok (c.fact 131 (f := .exm "Busy" "Lost" false) rfl)
  xm_Empty_Refused := He.exm_ok (c.fact 132 (f := .exm "Empty" "Refused" true) rfl)
  xm_Empty_Wrong := He.exm_ok (c.fact 133 (f := .exm "Empty" "Wrong" false) rfl)
  xm_Empty_Stale := He.exm_ok (c.fact 134 (f := .exm "Empty" "Stale" false) rfl)
  xm_Empty_Dropped := He.exm_ok (c.fact 135 (f := .exm "Empty" "Dropped" false) rfl)
  xm_Empty_Lost := He.exm_ok (c.fact 136 (f := .exm "Empty" "Lost" false) rfl)
  xm_NotNow_Refused := He.exm_ok (c.fact 137 (f := .exm "NotNow" "Refused" true) rfl)
  xm_NotNow_Wrong := He.exm_ok (c.fact 138 (f := .exm "NotNow" "Wrong" false) rfl)
  xm_NotNow_Stale := He.exm_ok (c.fact 139 (f := .exm "NotNow" "Stale" false) rfl)
  xm_NotNow_Dropped := He.exm_ok (c.fact 140 (f := .exm "NotNow" "Dropped" false) rfl)
  xm_NotNow_Lost := He.exm_ok (c.fact 141 (f := .exm "NotNow" "Lost" false) rfl)
  xm_Stale_Refused := He.exm_ok (c.fact 142 (f := .exm "Stale" "Refused" false) rfl)
  xm_Stale_Wrong := He.exm_ok (c.fact 143 (f := .exm "Stale" "Wrong" true) rfl)
  xm_Stale_Stale := He.exm_ok (c.fact 144 (f := .exm "Stale" "Stale" true) rfl)
  xm_Stale_Dropped := He.exm_ok (c.fact 145 (f := .exm "Stale" "Dropped" false) rfl)
  xm_Stale_Lost := He.exm_ok (c.fact 146 (f := .exm "Stale" "Lost" false) rfl)
  xm_Dropped_Refused := He.exm_ok (c.fact 147 (f := .exm "Dropped" "Refused" false) rfl)
  xm_Dropped_Wrong := He.exm_ok (c.fact 148 (f := .exm "Dropped" "Wrong" true) rfl)
  xm_Dropped_Stale := He.exm_ok (c.fact 149 (f := .exm "Dropped" "Stale" false) rfl)
  xm_Dropped_Dropped := He.exm_ok (c.fact 150 (f := .exm "Dropped" "Dropped" true) rfl)
  xm_Dropped_Lost := He.exm_ok (c.fact 151 (f := .exm "Dropped" "Lost" false) rfl)
  xm_Lost_Refused := He.exm_ok (c.fact 152 (f := .exm "Lost" "Refused" false) rfl)
  xm_Lost_Wrong := He.exm_ok (c.fact 153 (f := .exm "Lost" "Wrong" true) rfl)
  xm_Lost_Stale := He.exm_ok (c.fact 154 (f := .exm "Lost" "Stale" false) rfl)
  xm_Lost_Dropped := He.exm_ok (c.fact 155 (f := .exm "Lost" "Dropped" false) rfl)
  xm_Lost_Lost := He.exm_ok (c.fact 156 (f := .exm "Lost" "Lost" true) rfl)
  nf_Ref_Ref := nf_ok (c.more 61 (f := .nf "Ref" (.own "Ref")) rfl)
  ns_Ref := ⟨sub_ok (c.more 62 (f := .sub "Ref" (.ty "NoneType") false) rfl), sub_ok (c.more 63 (f := .sub "Ref" (.ty "str") false) rfl), sub_ok (c.more 64 (f := .sub "Ref" (.ty "tuple") false) rfl), sub_ok (c.more 65 (f := .sub "Ref" (.ty "list") false) rfl)⟩
  bm_Store_turn := bmet_ok (c.more 66 (f := .bmet "Store" "turn") rfl)
  F_BadPhase_init := c.fdc 0 (d := d_BadPhase_init) rfl
  F_Refused_init := c.fdc 1 (d := d_Refused_init) rfl
  F_Wrong_init := c.fdc 2 (d := d_Wrong_init) rfl
  F_Ref_init := c.fd 3 (d := d_Ref_init) rfl
  F_Ref_eq := c.fd 4 (d := d_Ref_eq) rfl
  F_Store_init := c.fd 5 (d := d_Store_init) rfl
  F_Store_row := c.fd 6 (d := d_Store_row) rfl
  F_Store_turns := c.fd 7 (d := d_Store_turns) rfl
  F_Store_things := c.fd 8 (d := d_Store_things) rfl
  F_Store_hand := c.fd 9 (d := d_Store_hand) rfl
  F_Store_place_of := c.fd 10 (d := d_Store_place_of) rfl
  F_Store_signposts := c.fd 11 (d := d_Store_signposts) rfl
  F_Store_standings := c.fd 12 (d := d_Store_standings) rfl
  F_Storestanding := c.fd 13 (d := d_Storestanding) rfl
  F_Storeleft := c.fd 14 (d := d_Storeleft) rfl
  F_Storecheck := c.fd 15 (d := d_Storecheck) rfl
  F_Storecheck_idle := c.fd 16 (d := d_Storecheck_idle) rfl
  F_Storeheld := c.fd 17 (d := d_Storeheld) rfl
  F_Storelook := c.fd 18 (d := d_Storelook) rfl
  F_Store_make := c.fd 19 (d := d_Store_make) rfl
  F_Store_write := c.fd 20 (d := d_Store_write) rfl
  F_Store_read := c.fd 21 (d := d_Store_read) rfl
  F_Store_mend := c.fd 22 (d := d_Store_mend) rfl
  F_Store_use := c.fd 23 (d := d_Store_use) rfl
  F_Store_visit := c.fd 24 (d := d_Store_visit) rfl
  F_Store_turn := c.fd 25 (d := d_Store_turn) rfl
  F_Storeend_phase := c.fd 26 (d := d_Storeend_phase) rfl
  F_Storemove := c.fd 27 (d := d_Storemove) rfl
  F_Store_do := c.fd 28 (d := d_Store_do) rfl
  F_Store_play := c.fd 29 (d := d_Store_play) rfl
  F_Phase_init := c.fd 30 (d := d_Phase_init) rfl
  F_Phase_looks := c.fd 31 (d := d_Phase_looks) rfl
  F_Phase_moves := c.fd 32 (d := d_Phase_moves) rfl
  F_Book_init := c.fd 33 (d := d_Book_init) rfl
  F_Book_len := c.fd 34 (d := d_Book_len) rfl
  F_Book_getitem := c.fd 35 (d := d_Book_getitem) rfl
  F_Book_setitem := c.fd 36 (d := d_Book_setitem) rfl
  F_Book_of := c.fd 37 (d := d_Book_of) rfl
  F_Book_after := c.fd 38 (d := d_Book_after) rfl
  F_Book_copy := c.fd 39 (d := d_Book_copy) rfl
  F_l_int := c.fd 40 (d := d_l_int) rfl
  F_l_pool := c.fd 41 (d := d_l_pool) rfl
  F_l_take := c.fd 42 (d := d_l_take) rfl
  F_l_mover := c.fd 43 (d := d_l_mover) rfl
  F_l_phase := c.fd 44 (d := d_l_phase) rfl
  F_l_value := c.fd 45 (d := d_l_value) rfl
  F_l_turned := c.fd 46 (d := d_l_turned) rfl
  F_l_rests := c.fd 47 (d := d_l_rests) rfl
  F_l_posts := c.fd 48 (d := d_l_posts) rfl
  F_l_stand := c.fd 49 (d := d_l_stand) rfl
  F_l_same_lists := c.fd 50 (d := d_l_same_lists) rfl
  F_l_read := c.fd 51 (d := d_l_read) rfl
  F_l_look := c.fd 52 (d := d_l_look) rfl
  F_l_agree := c.fd 53 (d := d_l_agree) rfl
  F_law := c.fd 54 (d := d_law) rfl
theorem bd_BadPhase_init {K : PySem.W.Frag} {mg : Str → Option Value} (T : Tx K mg) : Binds K (fdD K (mad "BadPhase" "__init__" K)) P_BadPhase_init [] := by
  obtain ⟨cc, cdv, F⟩ := T.F_BadPhase_init
  exact F.binds fun _ _ _ _ _ _ us hl => match us, hl with | [_, _], _ => rfl
theorem bd_Refused_init {K : PySem.W.Frag} {mg : Str → Option Value} (T : Tx K mg) : Binds K (fdD K (mad "Refused" "__init__" K)) P_Refused_init [] := by
  obtain ⟨cc, cdv, F⟩ := T.F_Refused_init
  exact F.binds fun _ _ _ _ _ _ us hl => match us, hl with | [_, _, _], _ => rfl
theorem bd_Wrong_init {K : PySem.W.Frag} {mg : Str → Option Value} (T : Tx K mg) : Binds K (fdD K (mad "Wrong" "__init__" K)) P_Wrong_init [] := by
  obtain ⟨cc, cdv, F⟩ := T.F_Wrong_init
  exact F.binds fun _ _ _ _ _ _ us hl => match us, hl with | [_, _, _, _], _ => rfl
theorem bd_Ref_init {K : PySem.W.Frag} {mg : Str → Option Value} (T : Tx K mg) : Binds K (fdD K (mad "Ref" "__init__" K)) P_Ref_init [] := T.F_Ref_init.bindsN fun _ _ _ _ _ _ us hl => match us, hl with | [_, _, _], _ => rfl
theorem bd_Ref_eq {K : PySem.W.Frag} {mg : Str → Option Value} (T : Tx K mg) : Binds K (fdD K (mad "Ref" "__eq__" K)) P_Ref_eq [] := T.F_Ref_eq.bindsN fun _ _ _ _ _ _ us hl => match us, hl with | [_, _], _ => rfl
theorem bd0_Store_init {K : PySem.W.Frag} {mg : Str → Option Value} (T : Tx K mg) : ∃ ds, Vals (([("slots", V.int (1)), ("hands", V.int (2))] : List (Str × V)).map (·.2)) ds ∧ Binds K (fdD K (mad "Store" "__init__" K)) P_Store_init ds := T.F_Store_init.binds0 2 (by simp) rfl (fun D doc pm an cdv ct us ks h1 h2 => match us, ks, h1, h2 with | [_, _], [_, _], _, _ => ⟨_, _, _, _, _, _, rfl, rfl, ⟨_, _, _, _, _, _, rfl, rfl, rfl⟩⟩)
theorem bd_Store_row {K : PySem.W.Frag} {mg : Str → Option Value} (T : Tx K mg) : Binds K (fdD K (pad "property" "Store" "row" K)) P_Store_row [] := T.F_Store_row.bindsN fun _ _ _ _ _ _ us hl => match us, hl with | [_], _ => rfl
theorem bd_Store_turns {K : PySem.W.Frag} {mg : Str → Option Value} (T : Tx K mg) : Binds K (fdD K (pad "property" "Store" "turns" K)) P_Store_turns [] := T.F_Store_turns.bindsN fun _ _ _ _ _ _ us hl => match us, hl with | [_], _ => rfl
theorem bd_Store_things {K : PySem.W.Frag} {mg : Str → Option Value} (T : Tx K mg) : Binds K (fdD K (pad "property" "Store" "things" K)) P_Store_things [] := T.F_Store_things.bindsN fun _ _ _ _ _ _ us hl => match us, hl with | [_], _ => rfl
theorem bd_Store_hand {K : PySem.W.Frag} {mg : Str → Option Value} (T : Tx K mg) : Binds K (fdD K (mad "Store" "hand" K)) P_Store_hand [] := T.F_Store_hand.bindsN fun _ _ _ _ _ _ us hl => match us, hl with | [_, _], _ => rfl
theorem bd_Store_place_of {K : PySem.W.Frag} {mg : Str → Option Value} (T : Tx K mg) : Binds K (fdD K (mad "Store" "place_of" K)) P_Store_place_of [] := T.F_Store_place_of.bindsN fun _ _ _ _ _ _ us hl => match us, hl with | [_, _], _ => rfl
theorem bd_Store_signposts {K : PySem.W.Frag} {mg : Str → Option Value} (T : Tx K mg) : Binds K (fdD K (mad "Store" "signposts" K)) P_Store_signposts [] := T.F_Store_signposts.bindsN fun _ _ _ _ _ _ us hl => match us, hl with | [_], _ => rfl
theorem bd_Store_standings {K : PySem.W.Frag} {mg : Str → Option Value} (T : Tx K mg) : Binds K (fdD K (mad "Store" "standings" K)) P_Store_standings [] := T.F_Store_standings.bindsN fun _ _ _ _ _ _ us hl => match us, hl with | [_], _ => rfl
theorem bd_Storestanding {K : PySem.W.Frag} {mg : Str → Option Value} (T : Tx K mg) : Binds K (fdD K (mad "Store" "_standing" K)) P_Storestanding [] := T.F_Storestanding.bindsN fun _ _ _ _ _ _ us hl => match us, hl with | [_, _, _], _ => rfl
theorem bd_Storeleft {K : PySem.W.Frag} {mg : Str → Option Value} (T : Tx K mg) : Binds K (fdD K (mad "Store" "_left" K)) P_Storeleft [] := T.F_Storeleft.bindsN fun _ _ _ _ _ _ us hl => match us, hl with | [_, _], _ => rfl
theorem bd_Storecheck {K : PySem.W.Frag} {mg : Str → Option Value} (T : Tx K mg) : Binds K (fdD K (mad "Store" "_check" K)) P_Storecheck [] := T.F_Storecheck.bindsN fun _ _ _ _ _ _ us hl => match us, hl with | [_, _, _, _], _ => rfl
theorem bd_Storecheck_idle {K : PySem.W.Frag} {mg : Str → Option Value} (T : Tx K mg) : Binds K (fdD K (mad "Store" "_check_idle" K)) P_Storecheck_idle [] := T.F_Storecheck_idle.bindsN fun _ _ _ _ _ _ us hl => match us, hl with | [_, _], _ => rfl
theorem bd_Storeheld {K : PySem.W.Frag} {mg : Str → Option Value} (T : Tx K mg) : Binds K (fdD K (mad "Store" "_held" K)) P_Storeheld [] := T.F_Storeheld.bindsN fun _ _ _ _ _ _ us hl => match us, hl with | [_, _], _ => rfl
theorem bd_Storelook {K : PySem.W.Frag} {mg : Str → Option Value} (T : Tx K mg) : Binds K (fdD K (mad "Store" "_look" K)) P_Storelook [] := T.F_Storelook.bindsN fun _ _ _ _ _ _ us hl => match us, hl with | [_, _, _], _ => rfl
theorem bd_Store_make {K : PySem.W.Frag} {mg : Str → Option Value} (T : Tx K mg) : Binds K (fdD K (mad "Store" "make" K)) P_Store_make [] := T.F_Store_make.bindsN fun _ _ _ _ _ _ us hl => match us, hl with | [_, _], _ => rfl
theorem bd_Store_write {K : PySem.W.Frag} {mg : Str → Option Value} (T : Tx K mg) : Binds K (fdD K (mad "Store" "write" K)) P_Store_write [] := T.F_Store_write.bindsN fun _ _ _ _ _ _ us hl => match us, hl with | [_, _, _], _ => rfl
theorem bd_Store_read {K : PySem.W.Frag} {mg : Str → Option Value} (T : Tx K mg) : Binds K (fdD K (mad "Store" "read" K)) P_Store_read [] := T.F_Store_read.bindsN fun _ _ _ _ _ _ us hl => match us, hl with | [_, _, _], _ => rfl
theorem bd_Store_mend {K : PySem.W.Frag} {mg : Str → Option Value} (T : Tx K mg) : Binds K (fdD K (mad "Store" "mend" K)) P_Store_mend [] := T.F_Store_mend.bindsN fun _ _ _ _ _ _ us hl => match us, hl with | [_, _], _ => rfl
theorem bd_Store_use {K : PySem.W.Frag} {mg : Str → Option Value} (T : Tx K mg) : Binds K (fdD K (mad "Store" "use" K)) P_Store_use [] := T.F_Store_use.bindsN fun _ _ _ _ _ _ us hl => match us, hl with | [_, _], _ => rfl
theorem bd_Store_visit {K : PySem.W.Frag} {mg : Str → Option Value} (T : Tx K mg) : Binds K (fdD K (mad "Store" "visit" K)) P_Store_visit [] := T.F_Store_visit.bindsN fun _ _ _ _ _ _ us hl => match us, hl with | [_, _], _ => rfl
theorem bd_Storeend_phase {K : PySem.W.Frag} {mg : Str → Option Value} (T : Tx K mg) : Binds K (fdD K (mad "Store" "_end_phase" K)) P_Storeend_phase [] := T.F_Storeend_phase.bindsN fun _ _ _ _ _ _ us hl => match us, hl with | [_, _], _ => rfl
theorem bd_Storemove {K : PySem.W.Frag} {mg : Str → Option Value} (T : Tx K mg) : Binds K (fdD K (mad "Store" "_move" K)) P_Storemove [] := T.F_Storemove.bindsN fun _ _ _ _ _ _ us hl => match us, hl with | [_, _, _], _ => rfl
theorem bd_Store_do {K : PySem.W.Frag} {mg : Str → Option Value} (T : Tx K mg) : Binds K (fdD K (mad "Store" "do" K)) P_Store_do [] := T.F_Store_do.bindsN fun _ _ _ _ _ _ us hl => match us, hl with | [_, _], _ => rfl
theorem bd_Store_play {K : PySem.W.Frag} {mg : Str → Option Value} (T : Tx K mg) : Binds K (fdD K (mad "Store" "play" K)) P_Store_play [] := T.F_Store_play.bindsN fun _ _ _ _ _ _ us hl => match us, hl with | [_, _], _ => rfl
theorem bd0_Phase_init {K : PySem.W.Frag} {mg : Str → Option Value} (T : Tx K mg) : ∃ ds, Vals (([("barrier", V.str "guarded"), ("visits", V.bl false), ("pauses", V.bl true), ("stand", V.int (0)), ("skips", V.bl false)] : List (Str × V)).map (·.2)) ds ∧ Binds K (fdD K (mad "Phase" "__init__" K)) P_Phase_init ds := T.F_Phase_init.binds0 2 (by simp) rfl (fun D doc pm an cdv ct us ks h1 h2 => match us, ks, h1, h2 with | [_, _], [_, _, _, _, _], _, _ => ⟨_, _, _, _, _, _, rfl, rfl, ⟨_, _, _, _, _, _, rfl, rfl, ⟨_, _, _, _, _, _, rfl, rfl, ⟨_, _, _, _, _, _, rfl, rfl, ⟨_, _, _, _, _, _, rfl, rfl, rfl⟩⟩⟩⟩⟩)
theorem bd_Phase_looks {K : PySem.W.Frag} {mg : Str → Option Value} (T : Tx K mg) : Binds K (fdD K (pad "property" "Phase" "looks" K)) P_Phase_looks [] := T.F_Phase_looks.bindsN fun _ _ _ _ _ _ us hl => match us, hl with | [_], _ => rfl
theorem bd_Phase_moves {K : PySem.W.Frag} {mg : Str → Option Value} (T : Tx K mg) : Binds K (fdD K (pad "property" "Phase" "moves" K)) P_Phase_moves [] := T.F_Phase_moves.bindsN fun _ _ _ _ _ _ us hl => match us, hl with | [_], _ => rfl
theorem bd_Book_len {K : PySem.W.Frag} {mg : Str → Option Value} (T : Tx K mg) : Binds K (fdD K (mad "Book" "__len__" K)) P_Book_len [] := T.F_Book_len.bindsN fun _ _ _ _ _ _ us hl => match us, hl with | [_], _ => rfl
theorem bd_Book_getitem {K : PySem.W.Frag} {mg : Str → Option Value} (T : Tx K mg) : Binds K (fdD K (mad "Book" "__getitem__" K)) P_Book_getitem [] := T.F_Book_getitem.bindsN fun _ _ _ _ _ _ us hl => match us, hl with | [_, _], _ => rfl
theorem bd_Book_setitem {K : PySem.W.Frag} {mg : Str → Option Value} (T : Tx K mg) : Binds K (fdD K (mad "Book" "__setitem__" K)) P_Book_setitem [] := T.F_Book_setitem.bindsN fun _ _ _ _ _ _ us hl => match us, hl with | [_, _, _], _ => rfl
theorem bd_Book_of {K : PySem.W.Frag} {mg : Str → Option Value} (T : Tx K mg) : Binds K (fdD K (pad "classmethod" "Book" "of" K)) P_Book_of [] := T.F_Book_of.bindsN fun _ _ _ _ _ _ us hl => match us, hl with | [_, _], _ => rfl
theorem bd_Book_after {K : PySem.W.Frag} {mg : Str → Option Value} (T : Tx K mg) : Binds K (fdD K (mad "Book" "after" K)) P_Book_after [] := T.F_Book_after.bindsN fun _ _ _ _ _ _ us hl => match us, hl with | [_, _], _ => rfl
theorem bd_Book_copy {K : PySem.W.Frag} {mg : Str → Option Value} (T : Tx K mg) : Binds K (fdD K (mad "Book" "copy" K)) P_Book_copy [] := T.F_Book_copy.bindsN fun _ _ _ _ _ _ us hl => match us, hl with | [_], _ => rfl
theorem bd_l_int {K : PySem.W.Frag} {mg : Str → Option Value} (T : Tx K mg) : Binds K (fdD K (gad "_law_int" K)) P_l_int [] := T.F_l_int.bindsN fun _ _ _ _ _ _ us hl => match us, hl with | [_], _ => rfl
theorem bd_l_pool {K : PySem.W.Frag} {mg : Str → Option Value} (T : Tx K mg) : Binds K (fdD K (gad "_law_pool" K)) P_l_pool [] := T.F_l_pool.bindsN fun _ _ _ _ _ _ us hl => match us, hl with | [_], _ => rfl
theorem bd_l_take {K : PySem.W.Frag} {mg : Str → Option Value} (T : Tx K mg) : Binds K (fdD K (gad "_law_take" K)) P_l_take [] := T.F_l_take.bindsN fun _ _ _ _ _ _ us hl => match us, hl with | [_, _], _ => rfl
theorem bd_l_mover {K : PySem.W.Frag} {mg : Str → Option Value} (T : Tx K mg) : Binds K (fdD K (gad "_law_mover" K)) P_l_mover [] := T.F_l_mover.bindsN fun _ _ _ _ _ _ us hl => match us, hl with | [_, _], _ => rfl
theorem bd_l_phase {K : PySem.W.Frag} {mg : Str → Option Value} (T : Tx K mg) : Binds K (fdD K (gad "_law_phase" K)) P_l_phase [] := T.F_l_phase.bindsN fun _ _ _ _ _ _ us hl => match us, hl with | [_], _ => rfl
theorem bd_l_value {K : PySem.W.Frag} {mg : Str → Option Value} (T : Tx K mg) : Binds K (fdD K (gad "_law_value" K)) P_l_value [] := T.F_l_value.bindsN fun _ _ _ _ _ _ us hl => match us, hl with | [_, _], _ => rfl
theorem bd_l_turned {K : PySem.W.Frag} {mg : Str → Option Value} (T : Tx K mg) : Binds K (fdD K (gad "_law_turned" K)) P_l_turned [] := T.F_l_turned.bindsN fun _ _ _ _ _ _ us hl => match us, hl with | [_, _, _], _ => rfl
theorem bd_l_rests {K : PySem.W.Frag} {mg : Str → Option Value} (T : Tx K mg) : Binds K (fdD K (gad "_law_rests" K)) P_l_rests [] := T.F_l_rests.bindsN fun _ _ _ _ _ _ us hl => match us, hl with | [_, _], _ => rfl
theorem bd_l_posts {K : PySem.W.Frag} {mg : Str → Option Value} (T : Tx K mg) : Binds K (fdD K (gad "_law_posts" K)) P_l_posts [] := T.F_l_posts.bindsN fun _ _ _ _ _ _ us hl => match us, hl with | [_], _ => rfl
theorem bd_l_stand {K : PySem.W.Frag} {mg : Str → Option Value} (T : Tx K mg) : Binds K (fdD K (gad "_law_stand" K)) P_l_stand [] := T.F_l_stand.bindsN fun _ _ _ _ _ _ us hl => match us, hl with | [_, _, _, _], _ => rfl
theorem bd_l_same_lists {K : PySem.W.Frag} {mg : Str → Option Value} (T : Tx K mg) : Binds K (fdD K (gad "_law_same_lists" K)) P_l_same_lists [] := T.F_l_same_lists.bindsN fun _ _ _ _ _ _ us hl => match us, hl with | [_, _, _], _ => rfl
theorem bd_l_read {K : PySem.W.Frag} {mg : Str → Option Value} (T : Tx K mg) : Binds K (fdD K (gad "_law_read" K)) P_l_read [] := T.F_l_read.bindsN fun _ _ _ _ _ _ us hl => match us, hl with | [_, _, _], _ => rfl
theorem bd_l_look {K : PySem.W.Frag} {mg : Str → Option Value} (T : Tx K mg) : Binds K (fdD K (gad "_law_look" K)) P_l_look [] := T.F_l_look.bindsN fun _ _ _ _ _ _ us hl => match us, hl with | [_, _, _, _], _ => rfl
theorem bd_l_agree {K : PySem.W.Frag} {mg : Str → Option Value} (T : Tx K mg) : Binds K (fdD K (gad "_law_agree" K)) P_l_agree [] := T.F_l_agree.bindsN fun _ _ _ _ _ _ us hl => match us, hl with | [_, _], _ => rfl
theorem bd_law {K : PySem.W.Frag} {mg : Str → Option Value} (T : Tx K mg) : Binds K (fdD K (gad "law" K)) P_law [] := T.F_law.bindsN fun _ _ _ _ _ _ us hl => match us, hl with | [_], _ => rfl
def looseAll : List Str := (["_wall", "RoundError", "BadRef", "BadBook", "BadPhase", "Refused", "NoSuch", "Busy", "Empty", "NotNow", "Wrong", "Stale", "Dropped", "Lost", "HUES", "LOW_BITS", "Ref", "Store", "BARRIERS", "MOST_HUE", "MOST_STAND", "Phase", "Book", "_law_int", "_law_pool", "_law_take", "_law_mover", "_law_phase", "_law_value", "_law_turned"] : List Str) ++ (["_law_rests", "_law_posts", "_law_stand", "_law_same_lists", "_law_read", "_law_look", "_law_agree"] : List Str)
abbrev Rr : PySem.W.OpenRow := PySem.W.OpenLaw.row PySem.Challenge.rw_huerounds_k39_long_ways
abbrev hkA : PySem.W.Hook := hookM 6 faAll fxAll dsAll
def obA (s : PySem.W.SharedT) : AlX := obsMG 6 faAll fxAll dsAll (HandSHeadRun.getT s)
theorem obA_eq (s : PySem.W.SharedT) : obA s = hkA.obs s.abs := obsMG_eq (HandSHeadRun.getT_eq s)
theorem runA (w : World) : HandSHeadRun.RunEq Rr (PySem.W.view Rr.prog [42]) hkA obA 8000 looseAll w := by
  intro os
  kernel_rfl

theorem kb_Phase_barrier_visits_pauses_stand_skips {K : PySem.W.Frag} {mg : Str → Option Value} (T : Tx K mg) : ∃ g, KBn K (fdD K (mad "Phase" "__init__" K)) P_Phase_init 2 ["barrier", "visits", "pauses", "stand", "skips"] g (fun us zs => us ++ ((zs.drop 0).take 1 ++ ((zs.drop 1).take 1 ++ ((zs.drop 2).take 1 ++ ((zs.drop 3).take 1 ++ ((zs.drop 4).take 1)))))) := by
  obtain ⟨mv, h⟩ := FunD.kbinds0 (ps := P_Phase_init) T.F_Phase_init 2 ["barrier", "visits", "pauses", "stand", "skips"] ([] : List (Str × V)) (fun us mz zs => us ++ ((zs.drop 0).take 1 ++ ((zs.drop 1).take 1 ++ ((zs.drop 2).take 1 ++ ((zs.drop 3).take 1 ++ ((zs.drop 4).take 1)))))) (by simp) (by simp) (fun r1 r2 r3 => Vals.append r1 (Vals.append (Vals.take 1 (Vals.drop 0 r3)) (Vals.append (Vals.take 1 (Vals.drop 1 r3)) (Vals.append (Vals.take 1 (Vals.drop 2 r3)) (Vals.append (Vals.take 1 (Vals.drop 3 r3)) (Vals.take 1 (Vals.drop 4 r3)))))))
    (fun D doc pm an cdv ct us mv ws h1 h2 h3 => match us, mv, ws, h1, h2, h3 with | [_, _], [], [_, _, _, _, _], _, _, _ => rfl)
  exact ⟨_, h⟩
local macro_rules | `(tactic| walk_at "hp") => `(tactic| first
  | assumption
  | exact upd_same
  | (refine upd_old (by assumption) ?_; walk_at "hp")
  | (refine upd_oth (by assumption) ?_; walk_at "hp")
  | (refine same_get (by assumption) ?_; walk_at "hp")
  | (refine Fl.get (by assumption) (by assumption) ?_; walk_at "hp"))
local macro_rules | `(tactic| walk_at "seq") => `(tactic| first
  | assumption
  | exact T.t_BARRIERS _
  | exact SqL.of (by walk_at "hp")
  | exact SqT.of (by walk_at "hp"))
local macro_rules | `(tactic| walk_at "len") => `(tactic| first
  | exact Or.inl (by walk_at "seq")
  | exact Or.inr (by walk_at "seq"))
local macro_rules | `(tactic| walk_at "at") => `(tactic| first
  | rfl
  | assumption)

/-! ### drawn numbers -/
/-- all but l stands as it stood -/
def Fl (l : Addr) (H H' : Hp) : Prop := ∀ a o, a ≠ l → H a = some o → H' a = some o
theorem Fl.refl (l : Addr) (H : Hp) : Fl l H H := fun _ _ _ h => h
theorem Fl.trans {l : Addr} {H H1 H2 : Hp} (a : Fl l H H1) (b : Fl l H1 H2) : Fl l H H2 := fun c o n h => b c o n (a c o n h)
theorem Fl.cell {l : Addr} {H : Hp} {o : HO} : Fl l H (L2.upd H l o) := fun _ _ n h => upd_oth n h
theorem Fl.same {l : Addr} {H H' : Hp} (e : Same H H') : Fl l H H' := fun a o _ h => e a o h
theorem Fl.new {l p : Addr} {H : Hp} {o : HO} (n : H p = none) : Fl l H (L2.upd H p o) := fun _ _ _ h => upd_old n h
theorem Fl.add {l p : Addr} {H H' : Hp} {o : HO} (e : Fl l H H') (n : H' p = none) : Fl l H (L2.upd H' p o) := e.trans (Fl.new n)
theorem Fl.put {l : Addr} {H H' : Hp} {o : HO} (e : Fl l H H') : Fl l H (L2.upd H' l o) := e.trans Fl.cell
theorem Fl.get {l a : Addr} {H H' : Hp} {o : HO} (e : Fl l H H') (n : a ≠ l) (h : H a = some o) : H' a = some o := e a o n h
theorem Fl.free {l p : Addr} {H H' : Hp} (e : Fl l H H') (n : p ≠ l) (h : H' p = none) : H p = none := by
  cases q : H p with
  | none => rfl
  | some o => rw [e p o n q] at h; cases h
theorem Fl.seq {K : PySem.W.Frag} {l a : Addr} {H H' : Hp} {xs : List V} (e : Fl l H H') (n : a ≠ l) (h : SqL K H a xs) : SqL K H' a xs := by
  rcases h with (h | ⟨o, h⟩) | h
  · exact .inl (.inl (e _ _ n h))
  · exact .inl (.inr ⟨o, e _ _ n h⟩)
  · exact .inr h
/-- a pool of drawn numbers stands at l -/
def PoolAt (H : Hp) (l : Addr) : Prop := ∃ ns : List Int, H l = some (.lst (ns.map V.int)) ∧ ns.length ≤ 5000
theorem PoolAt.upd {H : Hp} {l p : Addr} {o : HO} (h : PoolAt H l) (n : H p = none) : PoolAt (L2.upd H p o) l := by
  obtain ⟨ns, h1, h2⟩ := h
  exact ⟨ns, upd_old n h1, h2⟩
theorem PoolAt.ne {H : Hp} {l p : Addr} (h : PoolAt H l) (n : H p = none) : p ≠ l := by
  obtain ⟨ns, h1, _⟩ := h
  exact (ne_of_none h1 n).symm
/-- a pool drawn from: a number below m, l alone is changed -/
def spPool (K : PySem.W.Frag) : Sp := fun vs H Q _ => ∃ (a : Addr) (ns : List Int), vs = [.ref a] ∧ SqL K H a (ns.map V.int) ∧ ns.length ≤ 63 ∧
  ∀ p H', H p = none → Same H H' → PoolAt H' p → Q (.ref p) H'
def spTake : Sp := fun vs H Q _ => ∃ (l : Addr) (m : Int), vs = [.ref l, .int m] ∧ PoolAt H l ∧ 0 < m ∧
  ∀ v H', 0 ≤ v → v < m → Fl l H H' → PoolAt H' l → Q (.int v) H'
def spNumber : Sp := fun vs H Q _ => ∃ (l : Addr), vs = [.ref l] ∧ PoolAt H l ∧ ∀ v H', 0 ≤ v → v.toNat < 2 ^ 200 → Fl l H H' → PoolAt H' l → Q (.int v) H'
section
variable {P : Program} [SupP P pFile] {w : World} {K : PySem.W.Frag} {mg : Str → Option Value} {base : Heap}
theorem ok_l_pool (T : Tx K mg) : FnOk P w K mg base CX0 1 (gad "_law_pool" K) (fdD K (gad "_law_pool" K)) P_l_pool (spPool K) := by
  refine T.F_l_pool.ok sc_l_pool (fun vs H Q E h => ?_) (fun cdv A outer s H vs Q E hr h => ?_)
  · obtain ⟨a, ns, rfl, _⟩ := h; rfl
  · obtain ⟨a, ns, rfl, hS, hlen, k⟩ := h
    refine ⟨_, PSs.nox ((pss_cons (ps_set (i := 1) sc_l_pool.nd rfl (Or.inl rfl) (pe_lst pa_nil))
      (pss_cons (ps_set (i := 2) sc_l_pool.nd rfl (Or.inl rfl) pe_int)
      (pss_cons (ps_for PassesOwn.never rfl (pi_list (pv 0)) (pg_name (i := 3) sc_l_pool.nd rfl (Or.inl rfl)) (pss_cons (ps_set (i := 4) sc_l_pool.nd rfl (Or.inl rfl) (pe_callB call_abs (by rfl) T.n_abs (by decide +kernel) (pa_cons (pe_callTy call_intI (by rfl) T.n_int (by decide +kernel) (pa_cons (pv 3) pa_nil)) pa_nil)))
      (pss_cons (ps_set (i := 2) sc_l_pool.nd rfl (Or.inl rfl) (pe_op op_mod (pe_callTy call_intI (by rfl) T.n_int (by decide +kernel) (pa_cons (pe_op op_add (pe_op op_mul (pv 2) pe_int) (pe_callTy call_intI (by rfl) T.n_int (by decide +kernel) (pa_cons (pv 3) pa_nil))) pa_nil)) pe_int))
      (pss_one (ps_if (pt_cmpR op_ge (pv 4) (pe_op op_pow pe_int pe_int) (nomark _)) (pss_one (ps_for PassesOwn.never rfl (pi_range1 (by rfl) T.n_range (pa_cons pe_int pa_nil)) (pg_name (i := 5) sc_l_pool.nd rfl (Or.inl rfl)) (pss_one (ps_if (pt_cmpR op_gt (pv 4) pe_int (nomark _)) (pss_cons (ps_expr (pe_bm PySem.F.plainAttrs_list PySem.F.slot_list_append PySem.F.type_list_append mt_append (pv 1) (pa_cons (pe_op op_mod (pe_callTy call_intI (by rfl) T.n_int (by decide +kernel) (pa_cons (pv 4) pa_nil)) pe_int) pa_nil)))
      (pss_one (ps_set (i := 4) sc_l_pool.nd rfl (Or.inl rfl) (pe_op op_fdiv (pv 4) pe_int)))) pss_nil)))) (pss_one (ps_for PassesOwn.never rfl (pi_range1 (by rfl) T.n_range (pa_cons pe_int pa_nil)) (pg_name (i := 5) sc_l_pool.nd rfl (Or.inl rfl)) (pss_cons (ps_set (i := 6) sc_l_pool.nd rfl (Or.inl rfl) (pe_op op_mod (pe_callTy call_intI (by rfl) T.n_int (by decide +kernel) (pa_cons (pe_op op_add (pe_op op_add (pe_op op_add (pe_op op_mul (pv 4) pe_int) (pe_op op_mul (pv 5) pe_int)) (pe_op op_mul pe_int (pe_callTy call_intB (by rfl) T.n_int (by decide +kernel) (pa_cons (pe_cmpR op_lt (pv 3) pe_int (nomark _)) pa_nil)))) pe_int) pa_nil)) pe_int))
      (pss_one (ps_expr (pe_bm PySem.F.plainAttrs_list PySem.F.slot_list_append PySem.F.type_list_append mt_append (pv 1) (pa_cons (pe_op op_mod (pe_callTy call_intI (by rfl) T.n_int (by decide +kernel) (pa_cons (pe_op op_mul (pv 6) (pv 6)) pa_nil)) pe_int) pa_nil))))))))))))
      (pss_cons (ps_for PassesOwn.never rfl (pi_range1 (by rfl) T.n_range (pa_cons (pe_op op_mul pe_int (pe_callTy call_intB (by rfl) T.n_int (by decide +kernel) (pa_cons (pe_cmpR op_gt (pe_callB call_len_seq (by rfl) T.n_len (by decide +kernel) (pa_cons (pv 0) pa_nil)) pe_int (nomark _)) pa_nil))) pa_nil)) (pg_name (i := 5) sc_l_pool.nd rfl (Or.inl rfl)) (pss_cons (ps_set (i := 2) sc_l_pool.nd rfl (Or.inl rfl) (pe_op op_mod (pe_callTy call_intI (by rfl) T.n_int (by decide +kernel) (pa_cons (pe_op op_add (pe_op op_mul (pv 2) pe_int) pe_int) pa_nil)) pe_int))
      (pss_one (ps_expr (pe_bm PySem.F.plainAttrs_list PySem.F.slot_list_append PySem.F.type_list_append mt_append (pv 1) (pa_cons (pe_op op_mod (pe_callTy call_intI (by rfl) T.n_int (by decide +kernel) (pa_cons (pe_op op_fdiv (pv 2) pe_int) pa_nil)) pe_int) pa_nil))))))
      (pss_one (ps_ret (pv 1)))))))), ?_⟩
    refine ⟨by decide, fun l nl => ?_⟩
    refine ⟨_, rfl, a, rfl, ⟨_, (Same.new nl).seq hS⟩, for_list (K := K) (a := a) (xs := ns.map V.int)
      (fun i σ H' => ∃ (qs : List Int) (mix : Int) (c n q d : Option V), σ = [some (.ref a), some (.ref l), some (.int mix), c, n, q, d] ∧ Same H H' ∧ H' l = some (.lst (qs.map V.int)) ∧ qs.length ≤ 60 * i)
      ⟨[], 7, none, none, none, none, rfl, Same.new nl, upd_same, Nat.zero_le _⟩ (fun i σ H' _ ⟨_, _, _, _, _, _, _, S, _⟩ => S.seq hS) ?_ ?_⟩
    · rintro i y σ H1 hi ⟨qs, mix, c, n, q, d, rfl, S, hl, hz⟩
      have hi63 : i < 63 := by
        have z := (List.getElem?_eq_some_iff.mp hi).1
        rw [List.length_map] at z
        omega
      obtain ⟨u, rfl⟩ : ∃ u, y = V.int u := by
        rw [List.getElem?_map] at hi
        cases e : ns[i]? with
        | none => rw [e] at hi; cases hi
        | some u => rw [e] at hi; exact ⟨u, (Option.some.inj hi).symm⟩
      refine ⟨_, rfl, _, rfl, _, rfl, _, rfl, _, _, rfl, rfl, (.inr ⟨by decide, by decide⟩), _, rfl, _, rfl, _, _, rfl, rfl, _, rfl, _, _, rfl, rfl, (show (0 : Int) < 2147483647 by decide), _, rfl, _, _, rfl, rfl, ⟨by decide, by decide, by decide⟩, _, _, rfl, rfl, _, rfl, ?_⟩
      refine iteB (fun _ => ?_) (fun _ => ?_)
      · refine ⟨60, rfl, by decide, by decide, for_range (n := 60)
          (fun j σ H' => ∃ (qs : List Int) (mix n : Int) (c q d : Option V), σ = [some (.ref a), some (.ref l), some (.int mix), c, some (.int n), q, d] ∧ Same H H' ∧ H' l = some (.lst (qs.map V.int)) ∧ qs.length ≤ 60 * i + j)
          ⟨qs, _, _, _, _, _, rfl, S, hl, hz⟩ ?_ ?_⟩
        · rintro j σ H2 hj ⟨qs, mix, n, c, q, d, rfl, S, hl, hz⟩
          refine ⟨_, rfl, _, _, rfl, rfl, _, rfl, ?_⟩
          refine iteB (fun _ => ?_) (fun _ => ?_)
          · refine ⟨_, rfl, .inl ⟨rfl, _, SqL.of hl⟩, _, rfl, _, rfl, _, _, rfl, rfl, (show (0 : Int) < 1000003 by decide), _, _, _, rfl, rfl, hl, (by rw [List.length_map]; exact Nat.lt_of_le_of_lt (show qs.length ≤ 4000 by omega) (by decide)), _, rfl, _, _, rfl, rfl, ⟨by decide, by decide⟩, ?_⟩
            refine ⟨qs ++ [n % 1000003], _, _, _, _, _, rfl, fun b o e => ?_, by rw [upd_same, List.map_append]; rfl, by rw [List.length_append, List.length_singleton]; omega⟩
            rw [upd_ne (ne_of_none e nl)]
            exact S b o e
          · exact ⟨qs, _, _, _, _, _, rfl, S, hl, by omega⟩
        · rintro σ H2 ⟨qs, mix, n, c, q, d, rfl, S, hl, hz⟩
          exact ⟨qs, _, _, _, _, _, rfl, S, hl, by omega⟩
      · refine ⟨3, rfl, by decide, by decide, for_range (n := 3)
          (fun j σ H' => ∃ (qs : List Int) (mix n u : Int) (q d : Option V), σ = [some (.ref a), some (.ref l), some (.int mix), some (.int u), some (.int n), q, d] ∧ Same H H' ∧ H' l = some (.lst (qs.map V.int)) ∧ qs.length ≤ 60 * i + j)
          ⟨qs, _, _, _, _, _, rfl, S, hl, hz⟩ ?_ ?_⟩
        · rintro j σ H2 hj ⟨qs, mix, n, u, q, d, rfl, S, hl, hz⟩
          refine ⟨_, rfl, _, _, rfl, rfl, (.inr ⟨by decide, by decide⟩), _, rfl, _, _, rfl, rfl, (.inr ⟨by decide, by decide⟩), _, _, rfl, rfl, _, rfl, _, _, rfl, rfl, _, rfl, _, _, rfl, rfl, (.inl ⟨by decide, by decide⟩), _, _, rfl, rfl, _, _, rfl, rfl, _, rfl, _, _, rfl, rfl, (show (0 : Int) < 2147483647 by decide), _, rfl, .inl ⟨rfl, _, SqL.of hl⟩, _, rfl, _, rfl, _, _, rfl, rfl, .inl ?_, _, rfl, _, _, rfl, rfl, (show (0 : Int) < 1000003 by decide), _, _, _, rfl, rfl, hl, (by rw [List.length_map]; exact Nat.lt_of_le_of_lt (show qs.length ≤ 4000 by omega) (by decide)), ?_⟩
          · constructor <;> omega
          · refine ⟨qs ++ [_], _, _, _, _, _, rfl, fun b o e => ?_, by rw [upd_same, List.map_append]; rfl, by rw [List.length_append, List.length_singleton]; omega⟩
            rw [upd_ne (ne_of_none e nl)]
            exact S b o e
        · rintro σ H2 ⟨qs, mix, n, u, q, d, rfl, S, hl, hz⟩
          exact ⟨qs, _, _, _, _, _, rfl, S, hl, by omega⟩
    · rintro σ H1 ⟨qs, mix, c, n, q, d, rfl, S, hl, hz⟩
      rw [List.length_map] at hz
      refine ⟨_, rfl, _, _, rfl, .inl (S.seq hS), _, _, rfl, rfl, _, rfl, _, _, rfl, rfl, (.inl ⟨by decide, by decide⟩), ?_⟩
      refine ⟨_, rfl, by split <;> decide, by split <;> decide, for_range (n := _)
          (fun j σ H' => ∃ (qs : List Int) (mix : Int) (c n q d : Option V), σ = [some (.ref a), some (.ref l), some (.int mix), c, n, q, d] ∧ Same H H' ∧ H' l = some (.lst (qs.map V.int)) ∧ qs.length ≤ 4000 + j)
          ⟨qs, _, _, _, _, _, rfl, S, hl, by omega⟩ ?_ ?_⟩
      · rintro j σ H2 hj ⟨qs, mix, c, n, q, d, rfl, S, hl, hz⟩
        have hj2 : j < 240 := by
          revert hj
          split <;> omega
        refine ⟨_, rfl, _, _, rfl, rfl, (.inr ⟨by decide, by decide⟩), _, _, rfl, rfl, _, rfl, _, _, rfl, rfl, (show (0 : Int) < 2147483647 by decide), _, rfl, .inl ⟨rfl, _, SqL.of hl⟩, _, rfl, _, _, rfl, rfl, ⟨by decide, by decide⟩, _, rfl, _, _, rfl, rfl, (show (0 : Int) < 1000003 by decide), _, _, _, rfl, rfl, hl, (by rw [List.length_map]; exact Nat.lt_of_le_of_lt (show qs.length ≤ 5000 by omega) (by decide)), ?_⟩
        refine ⟨qs ++ [_], _, _, _, _, _, rfl, fun b o e => ?_, by rw [upd_same, List.map_append]; rfl, by rw [List.length_append, List.length_singleton]; omega⟩
        rw [upd_ne (ne_of_none e nl)]
        exact S b o e
      · rintro σ H2 ⟨qs, mix, c, n, q, d, rfl, S, hl, hz⟩
        refine ⟨_, rfl, k l H2 nl S ⟨qs, hl, ?_⟩⟩
        revert hz
        split <;> (simp only [Int.mul_one, Int.mul_zero]; intro hz; omega)
theorem seq0 {n : Nat} {m : Nat} (h : n = m + 1) : seqIndex? 0 n = some 0 := by
  subst h
  unfold seqIndex?
  simp
  try omega
theorem ok_l_take (T : Tx K mg) : FnOk P w K mg base CX0 1 (gad "_law_take" K) (fdD K (gad "_law_take" K)) P_l_take spTake := by
  refine T.F_l_take.ok sc_l_take (fun vs H Q E h => ?_) (fun cdv A outer s H vs Q E hr h => ?_)
  · obtain ⟨l, m, rfl, _⟩ := h; rfl
  · obtain ⟨l, m, rfl, ⟨ns, hl, hz⟩, hm, k⟩ := h
    refine ⟨_, PSs.nox ((pss_cons (ps_if (pt_cmpR op_eq (pe_callB call_len_seq (by rfl) T.n_len (by decide +kernel) (pa_cons (pv 0) pa_nil)) pe_int (nomark _)) (pss_one (ps_ret pe_int)) pss_nil)
      (pss_one (ps_ret (pe_op op_mod (pe_callTy call_intI (by rfl) T.n_int (by decide +kernel) (pa_cons (pe_bm PySem.F.plainAttrs_list PySem.F.slot_list_pop PySem.F.type_list_pop mt_popAt (pv 0) (pa_cons pe_int pa_nil)) pa_nil)) (pv 1)))))), ?_⟩
    refine ⟨_, rfl, _, _, rfl, (by walk_at "len"), rfl, _, rfl, ?_⟩
    cases ns with
    | nil =>
      refine iteT ?_
      exact k 0 H (Int.le_refl _) hm (Fl.refl _ _) ⟨[], hl, hz⟩
    | cons n t =>
      refine iteB (fun c => ?_) (fun _ => ?_)
      · have c1 := of_decide_eq_true c
        injection c1 with c2
        simp only [List.map_cons, List.length_cons] at c2
        omega
      · refine ⟨_, rfl, .inl ⟨rfl, _, SqL.of hl⟩, _, _, _, 0, _, rfl, rfl, hl, by decide, by decide, seq0 (m := t.length) (by simp), rfl, _, rfl, _, rfl, _, _, rfl, rfl, hm, ?_⟩
        exact k _ _ (Int.emod_nonneg _ (by omega)) (Int.emod_lt_of_pos _ hm) Fl.cell ⟨t, upd_same, by simp only [List.length_cons] at hz; omega⟩
end

/-! ### truth values asked; _law_is, _law_int -/
theorem few {f : Str} {v : V} {fs : List (Str × V)} {n : Nat} (h : fs.length < n) : (putF f v fs).length < n + 1 := Nat.lt_of_le_of_lt (length_putF f v fs) (Nat.succ_lt_succ h)
theorem iteD {p : Prop} [Decidable p] {A B : Prop} (h : p) (a : A) : if decide p = true then A else B := by rw [decide_eq_true h]; exact iteT a
theorem iteDN {p : Prop} [Decidable p] {A B : Prop} (h : ¬ p) (b : B) : if decide p = true then A else B := by rw [decide_eq_false h]; exact iteF b
theorem iteND {p : Prop} [Decidable p] {A B : Prop} (h : ¬ p) (a : A) : if (!decide p) = true then A else B := by rw [decide_eq_false h]; exact iteT a
theorem iteE {x : Bool} {A B : Prop} (e : x = false) (b : B) : if x = true then A else B := by rw [e]; exact iteF b
theorem iteY {x : Bool} {A B : Prop} (e : x = true) (a : A) : if x = true then A else B := by rw [e]; exact iteT a
def spIs : Sp := fun vs H Q _ => ∃ (x : V) (b : Bool), vs = [x, .bl b] ∧ (∃ c, x = .bl c ∧ Q (.bl (c == b)) H)
def spInt : Sp := fun vs H Q _ => ∃ i : Int, vs = [.int i] ∧ Q (.bl true) H
section
variable {P : Program} [SupP P pFile] {w : World} {K : PySem.W.Frag} {mg : Str → Option Value} {base : Heap}
theorem ok_l_int (T : Tx K mg) : FnOk P w K mg base CX0 1 (gad "_law_int" K) (fdD K (gad "_law_int" K)) P_l_int spInt := by
  refine T.F_l_int.ok sc_l_int (fun vs H Q E h => ?_) (fun cdv A outer s H vs Q E hr h => ?_)
  · obtain ⟨i, rfl, _⟩ := h; rfl
  · obtain ⟨i, rfl, k⟩ := h
    refine ⟨_, PSs.nox ((pss_one (ps_ret (pe_and (pe_callB call_isi (by rfl) T.n_isinstance (by decide +kernel) (pa_cons (pv 0) (pa_cons (pe_bty "int" rfl T.n_int (by decide +kernel)) pa_nil))) (pe_one (pe_not (pe_callB call_isi (by rfl) T.n_isinstance (by decide +kernel) (pa_cons (pv 0) (pa_cons (pe_bty "bool" rfl T.n_bool (by decide +kernel)) pa_nil))))))))), ?_⟩
    refine ⟨_, rfl, _, _, .type "int", .type "int", true, rfl, .ty _, .base (.int _), kit_ty (by decide +kernel), _, rfl, iteT ?_⟩
    exact ⟨_, rfl, _, _, .type "int", .type "bool", false, rfl, .ty _, .base (.int _), kit_ty (by decide +kernel), _, rfl, k⟩
end

/-! ### phases -/
inductive Bar where
  | none | follow | plain | guarded
  deriving DecidableEq
def Bar.s : Bar → Str
  | .none => "none"
  | .follow => "follow"
  | .plain => "plain"
  | .guarded => "guarded"
def barAt (i : Int) : Bar := if i = 0 then .none else if i = 1 then .follow else if i = 2 then .plain else .guarded
structure Ph where
  hue : Int
  bar : Bar
  vis : Bool
  pau : Bool
  std : Int
  skp : Bool
  deriving DecidableEq
structure Ph.Ok (r : Ph) : Prop where
  h0 : 0 ≤ r.hue
  h1 : r.hue ≤ 5
  s0 : 0 ≤ r.std
  s1 : r.std ≤ 7
/-- the fields as values: a row -/
def Ph.vs (r : Ph) : List V := [.int r.hue, .str r.bar.s, .bl r.vis, .bl r.pau, .int r.std, .bl r.skp]
abbrev barVs : List V := [V.str "none", V.str "follow", V.str "plain", V.str "guarded"]
theorem bar_in (b : Bar) : inV (.str b.s) barVs = true := by cases b <;> decide +kernel
theorem at_bar {i : Int} (h0 : 0 ≤ i) (h1 : i < 4) : atI barVs i = some (.str (barAt i).s) := by
  rcases (by omega : i = 0 ∨ i = 1 ∨ i = 2 ∨ i = 3) with rfl | rfl | rfl | rfl <;> rfl
/-- the attributes of a phase, in the order in which they are stored -/
def phF (r : Ph) : List (Str × V) := putF "skips" (.bl r.skp) (putF "stand" (.int r.std) (putF "pauses" (.bl r.pau) (putF "visits" (.bl r.vis) (putF "barrier" (.str r.bar.s) (putF "hue" (.int r.hue) [])))))
section
variable (r : Ph)
theorem ph_hue : (phF r).lookup ("hue" : Str) = some (.int r.hue) := by
  unfold phF
  simp only [lookup_putF]
  rw [if_neg (by decide +kernel), if_neg (by decide +kernel), if_neg (by decide +kernel), if_neg (by decide +kernel), if_neg (by decide +kernel), if_pos trivial]
theorem ph_barrier : (phF r).lookup ("barrier" : Str) = some (.str r.bar.s) := by
  unfold phF
  simp only [lookup_putF]
  rw [if_neg (by decide +kernel), if_neg (by decide +kernel), if_neg (by decide +kernel), if_neg (by decide +kernel), if_pos trivial]
theorem ph_visits : (phF r).lookup ("visits" : Str) = some (.bl r.vis) := by
  unfold phF
  simp only [lookup_putF]
  rw [if_neg (by decide +kernel), if_neg (by decide +kernel), if_neg (by decide +kernel), if_pos trivial]
theorem ph_pauses : (phF r).lookup ("pauses" : Str) = some (.bl r.pau) := by
  unfold phF
  simp only [lookup_putF]
  rw [if_neg (by decide +kernel), if_neg (by decide +kernel), if_pos trivial]
theorem ph_stand : (phF r).lookup ("stand" : Str) = some (.int r.std) := by
  unfold phF
  simp only [lookup_putF]
  rw [if_neg (by decide +kernel), if_pos trivial]
theorem ph_skips : (phF r).lookup ("skips" : Str) = some (.bl r.skp) := by
  unfold phF
  simp only [lookup_putF]
  rw [if_pos trivial]
theorem ph_no {m : Str} (h : ¬ (m = "skips" ∨ m = "stand" ∨ m = "pauses" ∨ m = "visits" ∨ m = "barrier" ∨ m = "hue")) : (phF r).lookup m = none := by
  unfold phF
  simp only [lookup_putF]
  rw [if_neg (fun z => h (by simp [z])), if_neg (fun z => h (by simp [z])), if_neg (fun z => h (by simp [z])), if_neg (fun z => h (by simp [z])), if_neg (fun z => h (by simp [z])), if_neg (fun z => h (by simp [z]))]
  rfl
end
/-- a phase stands at a -/
def PhAt (K : PySem.W.Frag) (H : Hp) (a : Addr) (r : Ph) : Prop := ∃ dx, H a = some (.ins (gad "Phase" K) dx (phF r))
theorem PhAt.fl {K : PySem.W.Frag} {H H' : Hp} {a l : Addr} {r : Ph} (h : PhAt K H a r) (e : Fl l H H') (n : a ≠ l) : PhAt K H' a r := by
  obtain ⟨dx, h⟩ := h
  exact ⟨dx, e _ _ n h⟩
theorem PhAt.same {K : PySem.W.Frag} {H H' : Hp} {a : Addr} {r : Ph} (h : PhAt K H a r) (e : Same H H') : PhAt K H' a r := by
  obtain ⟨dx, h⟩ := h
  exact ⟨dx, e _ _ h⟩
/-! ### promises -/
/-- a question to a phase that changes nothing -/
def spPh (K : PySem.W.Frag) (g : Ph → V) : Sp := fun vs H Q _ => ∃ (a : Addr) (r : Ph), vs = [.ref a] ∧ PhAt K H a r ∧ r.Ok ∧ Q (g r) H
/-- a row is drawn: a new tuple -/
def spRaw : Sp := fun vs H Q _ => ∃ (l : Addr), vs = [.ref l] ∧ PoolAt H l ∧
  ∀ (r : Ph) t H', r.Ok → H t = none → t ≠ l → Fl l H H' → PoolAt H' l → H' t = some (.tup r.vs) → Q (.ref t) H'
def badOf (h : Int) : Int := Builtin.bitXor 63 (1 * 2 ^ h.toNat)

/-! ### phases with any fields; Phase.__init__ with its refusals -/
structure Rw where
  hue : Int
  bar : Str
  vis : Bool
  pau : Bool
  std : Int
  skp : Bool
  deriving DecidableEq
def Rw.vs (r : Rw) : List V := [.int r.hue, .str r.bar, .bl r.vis, .bl r.pau, .int r.std, .bl r.skp]
def rwF (r : Rw) : List (Str × V) := putF "skips" (.bl r.skp) (putF "stand" (.int r.std) (putF "pauses" (.bl r.pau) (putF "visits" (.bl r.vis) (putF "barrier" (.str r.bar) (putF "hue" (.int r.hue) [])))))
def Ph.rw (r : Ph) : Rw := ⟨r.hue, r.bar.s, r.vis, r.pau, r.std, r.skp⟩
theorem Ph.rwF (r : Ph) : rwF r.rw = phF r := rfl
def barIn (b : Str) : Bool := inV (.str b) barVs
/-- the first bad field -/
def Rw.bad (r : Rw) : Option Str := if 0 ≤ r.hue ∧ r.hue ≤ 5 then (if barIn r.bar = true then (if 0 ≤ r.std ∧ r.std ≤ 7 then none else some "stand") else some "barrier") else some "hue"
theorem Ph.good {r : Ph} (ok : r.Ok) : r.rw.bad = none := by
  unfold Rw.bad
  rw [if_pos (show 0 ≤ r.rw.hue ∧ r.rw.hue ≤ 5 from ⟨ok.h0, ok.h1⟩), if_pos (show barIn r.rw.bar = true from bar_in r.bar), if_pos (show 0 ≤ r.rw.std ∧ r.rw.std ≤ 7 from ⟨ok.s0, ok.s1⟩)]
theorem bar_of {b : Str} (h : barIn b = true) : ∃ q : Bar, b = q.s := by
  have e : ∀ (x y : Str), eqV (.str x) (.str y) = true → x = y := fun x y h => eq_of_beq h
  unfold barIn inV at h
  rcases List.any_eq_true.mp h with ⟨v, hv, h2⟩
  simp only [List.mem_cons, List.not_mem_nil, or_false] at hv
  rcases hv with rfl | rfl | rfl | rfl
  · exact ⟨.none, (e _ _ h2).symm⟩
  · exact ⟨.follow, (e _ _ h2).symm⟩
  · exact ⟨.plain, (e _ _ h2).symm⟩
  · exact ⟨.guarded, (e _ _ h2).symm⟩
/-- what is not refused is a phase -/
theorem Rw.good {r : Rw} (h : r.bad = none) : ∃ p : Ph, p.Ok ∧ p.rw = r := by
  unfold Rw.bad at h
  split at h
  · rename_i h1
    split at h
    · rename_i h2
      split at h
      · rename_i h3
        obtain ⟨q, e⟩ := bar_of h2
        obtain ⟨a, b, c, d, f, g⟩ := r
        dsimp only at e h1 h3
        subst e
        exact ⟨⟨a, q, c, d, f, g⟩, ⟨h1.1, h1.2, h3.1, h3.2⟩, rfl⟩
      · cases h
    · cases h
  · cases h
/-- BadPhase, of the field f -/
abbrev EBad (K : PySem.W.Frag) (H : Hp) (E : XK) (f : Str) : Prop := ∀ dd H', H dd = none → Same H H' → H' dd = some (.xd [("field", .str f)]) → E (.ref (gad "BadPhase" K)) (some dd) H'
def spPhaseInit (K : PySem.W.Frag) : Sp := fun vs H Q E => ∃ (p dx : Addr) (r : Rw), vs = .ref p :: r.vs ∧ H p = some (.ins (gad "Phase" K) dx []) ∧
  (r.bad = none → ∀ H', Fl p H H' → H' p = some (.ins (gad "Phase" K) dx (rwF r)) → Q .non H') ∧ (∀ f, r.bad = some f → EBad K H E f)
section
variable {P : Program} [SupP P pFile] {w : World} {K : PySem.W.Frag} {mg : Str → Option Value} {base : Heap}
theorem ok_BadPhase_init (T : Tx K mg) : FnOk P w K mg base CX0 1 (mad "BadPhase" "__init__" K) (fdD K (mad "BadPhase" "__init__" K)) P_BadPhase_init (spEx1 K (gad "BadPhase" K) "field") := by
  obtain ⟨cc, cdv, FC⟩ := T.F_BadPhase_init
  have SKf := sup_ok T.sp_BadPhase FC
  obtain ⟨oc, od, dV, kV, doc, pm, an, ct, osl, efd, lk, hcd, hD⟩ := FC.ex
  rw [efd] at lk
  rw [efd]
  refine fnC_of (fl := pFile) (C := gad "BadPhase" K) (D := gad "BadPhase" K) lk hcd sc_BadPhase_init SKf T.ox_BadPhase T.n_super rfl ⟨_, rfl⟩ (fun vs H Q E h => ?_) (fun vs H Q E h => ?_) (fun _ => rfl) (fun _ => rfl) (fun F A outer s H vs Q E e1 e2 e3 h => ?_)
  · obtain ⟨a, v, rfl, _⟩ := h; rfl
  · obtain ⟨a, v, rfl, ha, _⟩ := h; exact ⟨a, _, rfl, ha⟩
  · obtain ⟨a, v, rfl, ha, k⟩ := h
    obtain ⟨f1, f2, f3, f4, f5, f6, f7⟩ := F
    dsimp only at e1 e2 e3
    subst e1 e2 e3
    refine ⟨_, (pss_one (ps_ost (pe_var (i := 0) rfl (Or.inl rfl)) (pe_var (i := 1) rfl (Or.inl rfl)) rfl)), ?_⟩
    exact ⟨_, rfl, _, rfl, a, _, rfl, T.ox_BadPhase, T.na_BadPhase_field, .inl ⟨ha, fun dx nd ne => k dx nd ne⟩⟩
theorem ok_Phase_init (T : Tx K mg) : FnOk P w K mg base (L2.CX P w) 3 (mad "Phase" "__init__" K) (fdD K (mad "Phase" "__init__" K)) P_Phase_init (spPhaseInit K) := by
  refine T.F_Phase_init.ok sc_Phase_init (fun vs H Q E h => ?_) (fun cdv A outer s H vs Q E hr h => ?_)
  · obtain ⟨p, dx, r, rfl, _⟩ := h; rfl
  · obtain ⟨p, dx, r, rfl, hp, k1, k2⟩ := h
    refine ⟨_, (pss_cons (ps_if (pt_not (pt_chain op_le op_le pe_int (pv 1) (pe_gi rfl T.g_MOST_HUE))) (pss_one (ps_raise rfl (takes_of rfl rfl rfl rfl) (pmk_oex T.ox_BadPhase T.ei_BadPhase.1 T.ei_BadPhase.2 (ok_BadPhase_init (P := P) T) (hr.mono (by decide)) (bd_BadPhase_init T) .nil pass0 rfl T.g_BadPhase (pa_cons pe_str pa_nil)))) pss_nil)
      (pss_cons (ps_if (pt_cmpR op_notIn_seq (pv 2) (pe_gr rfl T.g_BARRIERS) (by rfl)) (pss_one (ps_raise rfl (takes_of rfl rfl rfl rfl) (pmk_oex T.ox_BadPhase T.ei_BadPhase.1 T.ei_BadPhase.2 (ok_BadPhase_init (P := P) T) (hr.mono (by decide)) (bd_BadPhase_init T) .nil pass0 rfl T.g_BadPhase (pa_cons pe_str pa_nil)))) pss_nil)
      (pss_cons (ps_if (pt_not (pt_chain op_le op_le pe_int (pv 5) (pe_gi rfl T.g_MOST_STAND))) (pss_one (ps_raise rfl (takes_of rfl rfl rfl rfl) (pmk_oex T.ox_BadPhase T.ei_BadPhase.1 T.ei_BadPhase.2 (ok_BadPhase_init (P := P) T) (hr.mono (by decide)) (bd_BadPhase_init T) .nil pass0 rfl T.g_BadPhase (pa_cons pe_str pa_nil)))) pss_nil)
      (pss_cons (ps_fld (pv 0) (pv 1) rfl)
      (pss_cons (ps_fld (pv 0) (pv 2) rfl)
      (pss_cons (ps_fld (pv 0) (pv 3) rfl)
      (pss_cons (ps_fld (pv 0) (pv 4) rfl)
      (pss_cons (ps_fld (pv 0) (pv 5) rfl)
      (pss_one (ps_fld (pv 0) (pv 6) rfl)))))))))), ?_⟩
    have hb : ∀ f, r.bad = some f → EBad K H E f := k2
    unfold Rw.bad at hb k1
    by_cases h0 : 0 ≤ r.hue
    · refine ⟨_, rfl, _, _, rfl, rfl, _, rfl, iteD h0 ?_⟩
      by_cases h1 : r.hue ≤ 5
      · refine ⟨_, _, rfl, rfl, _, rfl, iteNS h1 ?_⟩
        rw [if_pos ⟨h0, h1⟩] at hb k1
        cases hB : barIn r.bar with
        | false =>
          refine ⟨_, rfl, _, _, rfl, .inr (T.t_BARRIERS _), rfl, rfl, _, rfl, iteY (by rw [if_pos rfl, show inV (.str r.bar) barVs = false from hB]; rfl) ?_⟩
          rw [hB, if_neg Bool.false_ne_true] at hb
          exact mkO1 (hb _ rfl)
        | true =>
          refine ⟨_, rfl, _, _, rfl, .inr (T.t_BARRIERS _), rfl, rfl, _, rfl, iteE (by rw [if_pos rfl, show inV (.str r.bar) barVs = true from hB]; rfl) ?_⟩
          rw [hB, if_pos rfl] at hb k1
          by_cases s0 : 0 ≤ r.std
          · refine ⟨_, rfl, _, _, rfl, rfl, _, rfl, iteD s0 ?_⟩
            by_cases s1 : r.std ≤ 7
            · refine ⟨_, _, rfl, rfl, _, rfl, iteNS s1 ?_⟩
              rw [if_pos ⟨s0, s1⟩] at k1
              refine ⟨_, rfl, _, rfl, p, _, dx, _, rfl, hp, T.c_Phase, T.na_Phase_hue, (Nat.zero_lt_succ _), _, rfl, _, rfl, p, _, dx, _, rfl, upd_same, T.c_Phase, T.na_Phase_barrier, few (Nat.zero_lt_succ _), _, rfl, _, rfl, p, _, dx, _, rfl, upd_same, T.c_Phase, T.na_Phase_visits, few (few (Nat.zero_lt_succ _)), _, rfl, _, rfl, p, _, dx, _, rfl, upd_same, T.c_Phase, T.na_Phase_pauses, few (few (few (Nat.zero_lt_succ _))), _, rfl, _, rfl, p, _, dx, _, rfl, upd_same, T.c_Phase, T.na_Phase_stand, few (few (few (few (Nat.zero_lt_succ _)))), _, rfl, _, rfl, p, _, dx, _, rfl, upd_same, T.c_Phase, T.na_Phase_skips, few (few (few (few (few (Nat.zero_lt_succ _))))), ?_⟩
              refine k1 rfl _ ?_ upd_same
              simp only [upd_upd]
              exact Fl.cell
            · refine ⟨_, _, rfl, rfl, _, rfl, iteND s1 ?_⟩
              rw [if_neg (fun z => s1 z.2)] at hb
              exact mkO1 (hb _ rfl)
          · refine ⟨_, rfl, _, _, rfl, rfl, _, rfl, iteDN s0 ?_⟩
            refine ⟨_, rfl, iteT ?_⟩
            rw [if_neg (fun z => s0 z.1)] at hb
            exact mkO1 (hb _ rfl)
      · refine ⟨_, _, rfl, rfl, _, rfl, iteND h1 ?_⟩
        rw [if_neg (fun z => h1 z.2)] at hb
        exact mkO1 (hb _ rfl)
    · refine ⟨_, rfl, _, _, rfl, rfl, _, rfl, iteDN h0 ?_⟩
      refine ⟨_, rfl, iteT ?_⟩
      rw [if_neg (fun z => h0 z.1)] at hb
      exact mkO1 (hb _ rfl)
end

/-! ### books -/
def bkF (l : Addr) : List (Str × V) := putF "phases" (.ref l) []
theorem bk_phases (l : Addr) : (bkF l).lookup ("phases" : Str) = some (.ref l) := by
  unfold bkF
  rw [lookup_putF, if_pos rfl]
/-- a book stands at b; its list at l; its phases -/
structure BkAt (K : PySem.W.Frag) (H : Hp) (b l : Addr) (rs : List Ph) : Prop where
  bk : ∃ dx, H b = some (.ins (gad "Book" K) dx (bkF l))
  ph : ∃ as : List Addr, H l = some (.lst (as.map V.ref)) ∧ as.length = rs.length ∧ ∀ (i : Nat) (a : Addr) (r : Ph), as[i]? = some a → rs[i]? = some r → PhAt K H a r
  n1 : 1 ≤ rs.length
  n6 : rs.length ≤ 6
  ok : ∀ r ∈ rs, r.Ok
theorem BkAt.mono {K : PySem.W.Frag} {H H' : Hp} {b l : Addr} {rs : List Ph} (h : BkAt K H b l rs) (e : Same H H') : BkAt K H' b l rs := by
  obtain ⟨⟨dx, h1⟩, ⟨as, h2, h3, h4⟩, h5, h6, h7⟩ := h
  exact ⟨⟨dx, e _ _ h1⟩, ⟨as, e _ _ h2, h3, fun i a r ha hr => (h4 i a r ha hr).same e⟩, h5, h6, h7⟩
/-- rows that were drawn: a list of tuples -/
structure RowsAt (H : Hp) (a : Addr) (rs : List Ph) : Prop where
  ls : ∃ ts : List Addr, H a = some (.lst (ts.map V.ref)) ∧ ts.length = rs.length ∧ ∀ (i : Nat) (t : Addr) (r : Ph), ts[i]? = some t → rs[i]? = some r → H t = some (.tup r.vs)
  ok : ∀ r ∈ rs, r.Ok
theorem RowsAt.mono {H H' : Hp} {a : Addr} {rs : List Ph} (h : RowsAt H a rs) (e : Same H H') : RowsAt H' a rs := by
  obtain ⟨⟨ts, h1, h2, h3⟩, h4⟩ := h
  exact ⟨⟨ts, e _ _ h1, h2, fun i t r ht hr => e _ _ (h3 i t r ht hr)⟩, h4⟩
theorem atI_nat' {α : Type} {xs : List α} {i : Int} {v : α} (h0 : 0 ≤ i) (h : xs[i.toNat]? = some v) : atI xs i = some v := by
  have e : i = ((i.toNat : Nat) : Int) := (Int.toNat_of_nonneg h0).symm
  rw [e]
  exact atI_nat h
theorem mem_get {α : Type} {xs : List α} {i : Nat} (h : i < xs.length) : ∃ x, xs[i]? = some x ∧ x ∈ xs := ⟨xs[i], List.getElem?_eq_getElem h, List.getElem_mem h⟩
/-- the i-th row -/
theorem RowsAt.row {H : Hp} {a : Addr} {rs : List Ph} (h : RowsAt H a rs) {i : Int} (h0 : 0 ≤ i) (h1 : i < rs.length) :
    ∃ (xs : List V) (t : Addr) (r : Ph), H a = some (.lst xs) ∧ atI xs i = some (.ref t) ∧ rs[i.toNat]? = some r ∧ r.Ok ∧ H t = some (.tup r.vs) := by
  obtain ⟨⟨ts, h2, h3, h4⟩, h5⟩ := h
  obtain ⟨r, hr, hm⟩ := mem_get (xs := rs) (i := i.toNat) (by omega)
  obtain ⟨t, ht, _⟩ := mem_get (xs := ts) (i := i.toNat) (by omega)
  exact ⟨_, t, r, h2, atI_nat' h0 (by rw [List.getElem?_map, ht]; rfl), hr, h5 r hm, h4 _ t r ht hr⟩
theorem RowsAt.len {H : Hp} {a : Addr} {rs : List Ph} (h : RowsAt H a rs) : ∃ xs : List V, H a = some (.lst xs) ∧ xs.length = rs.length := by
  obtain ⟨⟨ts, h2, h3, h4⟩, h5⟩ := h
  exact ⟨_, h2, by rw [List.length_map, h3]⟩
/-! ### promises -/
def spBookInit (K : PySem.W.Frag) : Sp := fun vs H Q E => ∃ (b dx p : Addr) (xs : List V), vs = [.ref b, .ref p] ∧ H b = some (.ins (gad "Book" K) dx []) ∧ H p = some (.tup xs) ∧
  (1 ≤ xs.length ∧ xs.length ≤ 6 → ∀ l H', H l = none → Fl b H H' → H' b = some (.ins (gad "Book" K) dx (bkF l)) → H' l = some (.lst xs) → Q .non H') ∧
  (¬ (1 ≤ xs.length ∧ xs.length ≤ 6) → ∀ H', Same H H' → E (.ref (gad "BadBook" K)) none H')
def spBookOf (K : PySem.W.Frag) : Sp := fun vs H Q E => ∃ (a : Addr) (xs : List V), vs = [.ref (gad "Book" K), .ref a] ∧ SqL K H a xs ∧ xs.length ≤ 1000 ∧
  (1 ≤ xs.length ∧ xs.length ≤ 6 → ∀ b dx l H', H b = none → H l = none → Same H H' → H' b = some (.ins (gad "Book" K) dx (bkF l)) → H' l = some (.lst xs) → Q (.ref b) H') ∧
  (¬ (1 ≤ xs.length ∧ xs.length ≤ 6) → ∀ H', Same H H' → E (.ref (gad "BadBook" K)) none H')
def spBookLen (K : PySem.W.Frag) : Sp := fun vs H Q _ => ∃ (b l : Addr) (rs : List Ph), vs = [.ref b] ∧ BkAt K H b l rs ∧ Q (.int rs.length) H
/-- book[n]: the address in the list -/
def spBookGet (K : PySem.W.Frag) : Sp := fun vs H Q _ => ∃ (b l : Addr) (rs : List Ph) (n : Int), vs = [.ref b, .int n] ∧ BkAt K H b l rs ∧
  ∀ a r, rs[(n % rs.length).toNat]? = some r → r.Ok → PhAt K H a r → Q (.ref a) H
def spBookSet (K : PySem.W.Frag) : Sp := fun vs H Q _ => ∃ (b l a : Addr) (rs : List Ph) (n : Int) (r : Ph), vs = [.ref b, .int n, .ref a] ∧ BkAt K H b l rs ∧ PhAt K H a r ∧ r.Ok ∧
  ∀ H', Fl l H H' → BkAt K H' b l (rs.set (n % rs.length).toNat r) → Q .non H'
/-- the rows behind row: as long as the phases may be left out -/
def aft (sk : Nat → Bool) (n row : Nat) : Nat → Nat → List Nat
  | _, 0 => []
  | k, f + 1 => ((row + 1 + k) % n) :: (if sk ((row + 1 + k) % n) then aft sk n row (k + 1) f else [])
def skOf (rs : List Ph) (i : Nat) : Bool := match rs[i]? with
  | some r => r.skp
  | none => false
def after (rs : List Ph) (row : Nat) : List Nat := aft (skOf rs) rs.length row 0 rs.length
def nts (l : List Nat) : List V := l.map fun (n : Nat) => V.int n
theorem aft_len (sk : Nat → Bool) (n row : Nat) : ∀ f k, (aft sk n row k f).length ≤ f
  | 0, _ => Nat.le_refl _
  | f + 1, k => by
    unfold aft
    rw [List.length_cons]
    split
    · exact Nat.succ_le_succ (aft_len sk n row f (k + 1))
    · exact Nat.succ_le_succ (Nat.zero_le _)
theorem aft_lt (sk : Nat → Bool) (n row : Nat) (h : 0 < n) : ∀ f k, ∀ x ∈ aft sk n row k f, x < n
  | 0, _, x, hx => by cases hx
  | f + 1, k, x, hx => by
    unfold aft at hx
    rcases List.mem_cons.mp hx with e | e
    · rw [e]; exact Nat.mod_lt _ h
    · split at e
      · exact aft_lt sk n row h f (k + 1) x e
      · cases e
theorem after_len (rs : List Ph) (row : Nat) : (after rs row).length ≤ rs.length := aft_len _ _ _ _ _
theorem after_lt (rs : List Ph) (row : Nat) (h : 1 ≤ rs.length) : ∀ x ∈ after rs row, x < rs.length := aft_lt _ _ _ h _ _
theorem after_ne (rs : List Ph) (row : Nat) (h : 1 ≤ rs.length) : 1 ≤ (after rs row).length := by
  unfold after
  cases e : rs.length with
  | zero => omega
  | succ n => unfold aft; rw [List.length_cons]; omega
def spAfter (K : PySem.W.Frag) : Sp := fun vs H Q _ => ∃ (b l : Addr) (rs : List Ph) (row : Nat), vs = [.ref b, .int row] ∧ BkAt K H b l rs ∧ row < rs.length ∧
  ∀ t H', H t = none → Same H H' → H' t = some (.tup (nts (after rs row))) → Q (.ref t) H'
section
variable {P : Program} [SupP P pFile] {w : World} {K : PySem.W.Frag} {mg : Str → Option Value} {base : Heap}
theorem fr_Book_init (T : Tx K mg) : FnR P w K mg base (L2.CX P w) 2 (mad "Book" "__init__" K) (spStar 1 (spBookInit K)) := by
  obtain ⟨uM, hM⟩ := T.cv_Book_MOST
  refine fnr_star (ps := ["self"]) (pv := "phases") T.F_Book_init sc_Book_init StX.cxUp (fun kV doc pm an cdv ct us rest hl => ?_) (fun cdv A outer s H vs Q E hr h => ?_)
  · exact StX.bind_star1 (B := fun vs => bindArgs _ ⟨vs, []⟩) (fun _ => rfl) (fun _ _ _ => rfl) us rest hl
  · obtain ⟨b, dx, p, xs, rfl, hb, hp, k1, k2⟩ := h
    have bp : b ≠ p := ne_of hb hp (by intro z; cases z)
    refine ⟨_, (pss_cons (ps_if (pt_not (pt_chain op_le op_le pe_int (pe_callB call_len_seq (by rfl) T.n_len (by decide +kernel) (pa_cons (pv 1) pa_nil)) (ClX.pe_cval (pe_gr rfl T.g_Book)))) (pss_one (ps_raise rfl (takes_of rfl rfl rfl rfl) (pmk_own PySem.F.excBase_ValueError T.x_BadBook.1 T.g_BadBook T.x_BadBook.2.1 (raises_own T.x_BadBook.2.2.1 T.x_BadBook.2.2.2) rfl))) pss_nil)
      (pss_one (ps_fld (pv 0) (pe_callTy call_list_of (by rfl) T.n_list (by decide +kernel) (pa_cons (pv 1) pa_nil)) rfl))), ?_⟩
    refine ⟨_, rfl, p, _, rfl, .inr (SqT.of hp), _, _, rfl, rfl, _, rfl, ?_⟩
    by_cases h1 : 1 ≤ xs.length
    · refine iteD (by omega) ⟨_, _, _, uM, rfl, T.cr_Book, hM, _, _, rfl, rfl, _, rfl, ?_⟩
      by_cases h6 : xs.length ≤ 6
      · refine iteNS (by omega) ?_
        refine ⟨_, rfl, p, _, rfl, .inr (SqT.of hp), fun l hl => ?_⟩
        have bl : b ≠ l := ne_of_none hb hl
        refine ⟨_, rfl, b, _, dx, [], rfl, (by rw [upd_ne bl]; exact hb), T.c_Book, T.na_Book_phases, (Nat.zero_lt_succ _), ?_⟩
        exact k1 ⟨h1, h6⟩ l _ hl ((Fl.new hl).put) upd_same (by rw [upd_ne bl.symm]; exact upd_same)
      · refine iteND (by omega) ?_
        exact k2 (fun z => h6 z.2) _ (Same.refl _)
    · refine iteDN (by omega) ?_
      refine ⟨_, rfl, iteT ?_⟩
      exact k2 (fun z => h1 z.1) _ (Same.refl _)
theorem ok_Book_of (T : Tx K mg) : FnOk P w K mg base (L2.CX P w) 4 (pad "classmethod" "Book" "of" K) (fdD K (pad "classmethod" "Book" "of" K)) P_Book_of (spBookOf K) := by
  refine T.F_Book_of.ok sc_Book_of (fun vs H Q E h => ?_) (fun cdv A outer s H vs Q E hr h => ?_)
  · obtain ⟨a, xs, rfl, _⟩ := h; rfl
  · obtain ⟨a, xs, rfl, hS, hz, k1, k2⟩ := h
    refine ⟨_, (pss_one (ps_ret (pe_makeLS (i := 0) T.mk_Book (fr_Book_init (P := P) T) (hr.mono (by decide)) (passes_call (takes_of rfl rfl rfl rfl) (fun _ _ _ _ z => z)) rfl (by first | exact Or.inl rfl | exact Or.inr (Or.inl rfl)) (pv 1)))), ?_⟩
    refine ⟨rfl, _, rfl, a, xs, rfl, .inr hS, fun b dx nb nd ne => ?_⟩
    refine ⟨[.ref b], xs, rfl, rfl, Nat.le_trans hz (by decide), fun p np => ?_⟩
    have bp : b ≠ p := fun z => by rw [z, upd_same] at np; cases np
    have S1 : Same H (upd (upd (upd H dx (.own b)) b (.ins (gad "Book" K) dx [])) p (.tup xs)) := Same.upd (Same.upd (Same.new nd) nb) (Same.free (Same.upd (Same.new nd) nb) np)
    refine ⟨b, dx, p, xs, rfl, upd_oth bp upd_same, upd_same, fun hv l H' nl fl hb hl => ⟨rfl, ?_⟩, fun hv H' S' => ?_⟩
    · refine k1 hv b dx l H' nb ?_ ?_ hb hl
      · exact S1.free nl
      · intro a o ha
        exact fl a o (ne_of_none ha nb) (S1 a o ha)
    · exact k2 hv H' (S1.trans S')
theorem fr_Book_of (T : Tx K mg) : FnR P w K mg base (L2.CX P w) 4 (pad "classmethod" "Book" "of" K) (spBookOf K) := fnr_of (ok_Book_of T) (bd_Book_of T)
theorem ok_Book_len (T : Tx K mg) : FnOk P w K mg base CX0 1 (mad "Book" "__len__" K) (fdD K (mad "Book" "__len__" K)) P_Book_len (spBookLen K) := by
  refine T.F_Book_len.ok sc_Book_len (fun vs H Q E h => ?_) (fun cdv A outer s H vs Q E hr h => ?_)
  · obtain ⟨b, l, rs, rfl, _⟩ := h; rfl
  · obtain ⟨b, l, rs, rfl, ⟨⟨dx, hb⟩, ⟨as, hl, e, _⟩, n1, n6, ok⟩, k⟩ := h
    refine ⟨_, PSs.nox ((pss_one (ps_ret (pe_callB call_len_seq (by rfl) T.n_len (by decide +kernel) (pa_cons (pe_fld (pv 0) rfl) pa_nil))))), ?_⟩
    refine ⟨_, rfl, b, _, dx, _, _, rfl, hb, T.c_Book, T.na_Book_phases, bk_phases l, l, _, rfl, .inl (SqL.of hl), ?_⟩
    show Q (.int ((as.map V.ref).length : Nat)) H
    rw [List.length_map, e]
    exact k
theorem fr_Book_len (T : Tx K mg) : FnR P w K mg base CX0 1 (mad "Book" "__len__" K) (spBookLen K) := fnr_of (ok_Book_len T) (bd_Book_len T)
theorem ok_Book_getitem (T : Tx K mg) : FnOk P w K mg base CX0 1 (mad "Book" "__getitem__" K) (fdD K (mad "Book" "__getitem__" K)) P_Book_getitem (spBookGet K) := by
  refine T.F_Book_getitem.ok sc_Book_getitem (fun vs H Q E h => ?_) (fun cdv A outer s H vs Q E hr h => ?_)
  · obtain ⟨b, l, rs, n, rfl, _⟩ := h; rfl
  · obtain ⟨b, l, rs, n, rfl, ⟨⟨dx, hb⟩, ⟨as, hl, e, hp⟩, n1, n6, ok⟩, k⟩ := h
    refine ⟨_, PSs.nox ((pss_one (ps_ret (pe_ix ix_list (pe_fld (pv 0) rfl) (pe_op op_mod (pv 1) (pe_callB call_len_seq (by rfl) T.n_len (by decide +kernel) (pa_cons (pe_fld (pv 0) rfl) pa_nil))) (fun _ _ => rfl))))), ?_⟩
    have m0 : 0 ≤ n % (rs.length : Int) := Int.emod_nonneg _ (by omega)
    have m1 : n % (rs.length : Int) < rs.length := Int.emod_lt_of_pos _ (by omega)
    obtain ⟨r, hr', hm⟩ := mem_get (xs := rs) (i := (n % (rs.length : Int)).toNat) (by omega)
    obtain ⟨a, ha, _⟩ := mem_get (xs := as) (i := (n % (rs.length : Int)).toNat) (by omega)
    have el : ((as.map V.ref).length : Int) = rs.length := by rw [List.length_map, e]
    refine ⟨_, rfl, b, _, dx, _, _, rfl, hb, T.c_Book, T.na_Book_phases, bk_phases l, _, rfl, _, rfl, b, _, dx, _, _, rfl, hb, T.c_Book, T.na_Book_phases, bk_phases l, l, _, rfl, .inl (SqL.of hl), _, _, rfl, rfl, (by show (0 : Int) < ((as.map V.ref).length : Int); omega), l, _, _, .ref a, rfl, rfl, SqL.of hl, ?_, ?_⟩
    · show atI (as.map V.ref) (n % ((as.map V.ref).length : Int)) = _
      rw [el]
      exact atI_nat' m0 (by rw [List.getElem?_map, ha]; rfl)
    · exact k a r hr' (ok r hm) (hp _ a r ha hr')
theorem fr_Book_getitem (T : Tx K mg) : FnR P w K mg base CX0 1 (mad "Book" "__getitem__" K) (spBookGet K) := fnr_of (ok_Book_getitem T) (bd_Book_getitem T)
theorem ok_Book_setitem (T : Tx K mg) : FnOk P w K mg base CX0 1 (mad "Book" "__setitem__" K) (fdD K (mad "Book" "__setitem__" K)) P_Book_setitem (spBookSet K) := by
  refine T.F_Book_setitem.ok sc_Book_setitem (fun vs H Q E h => ?_) (fun cdv A outer s H vs Q E hr h => ?_)
  · obtain ⟨b, l, a, rs, n, r, rfl, _⟩ := h; rfl
  · obtain ⟨b, l, a, rs, n, r, rfl, ⟨⟨dx, hb⟩, ⟨as, hl, e, hp⟩, n1, n6, ok⟩, hpa, rok, k⟩ := h
    refine ⟨_, PSs.nox ((pss_one (ps_asg (pv 2) (pg_sub (pe_fld (pv 0) rfl) (pe_op op_mod (pv 1) (pe_callB call_len_seq (by rfl) T.n_len (by decide +kernel) (pa_cons (pe_fld (pv 0) rfl) pa_nil))) set_list)))), ?_⟩
    have m0 : 0 ≤ n % (rs.length : Int) := Int.emod_nonneg _ (by omega)
    have m1 : n % (rs.length : Int) < rs.length := Int.emod_lt_of_pos _ (by omega)
    have el : ((as.map V.ref).length : Int) = rs.length := by rw [List.length_map, e]
    have bl : b ≠ l := ne_of hb hl (by intro z; cases z)
    have ix : ixN (as.map V.ref).length (n % ((as.map V.ref).length : Int)) = some (n % (rs.length : Int)).toNat := by
      rw [el]
      unfold ixN
      rw [if_pos m0, if_pos (by rw [List.length_map, e]; exact m1)]
    refine ⟨_, rfl, _, rfl, b, _, dx, _, _, rfl, hb, T.c_Book, T.na_Book_phases, bk_phases l, _, rfl, _, rfl, b, _, dx, _, _, rfl, hb, T.c_Book, T.na_Book_phases, bk_phases l, l, _, rfl, .inl (SqL.of hl), _, _, rfl, rfl, (by show (0 : Int) < ((as.map V.ref).length : Int); omega), l, _, _, _, rfl, rfl, hl, ix, ?_⟩
    refine k _ Fl.cell ⟨⟨dx, upd_oth bl hb⟩, ⟨as.set (n % (rs.length : Int)).toNat a, ?_, ?_, ?_⟩, ?_, ?_, ?_⟩
    · rw [upd_same, List.map_set]
    · rw [List.length_set, List.length_set, e]
    · intro i a' r' ha' hr'
      have fl : ∀ {x : Addr} {q : Ph}, PhAt K H x q → PhAt K (upd H l (.lst ((as.map V.ref).set (n % (rs.length : Int)).toNat (.ref a)))) x q := fun {x q} ⟨d, hx⟩ => ⟨d, upd_oth (ne_of hx hl (by intro z; cases z)) hx⟩
      rw [List.getElem?_set] at ha' hr'
      split at ha'
      · rename_i ei
        rw [if_pos ei] at hr'
        split at ha'
        · split at hr'
          · cases ha'; cases hr'
            exact fl hpa
          · cases hr'
        · cases ha'
      · rename_i ei
        rw [if_neg ei] at hr'
        exact fl (hp i a' r' ha' hr')
    · rw [List.length_set]; exact n1
    · rw [List.length_set]; exact n6
    · intro q hq
      rcases List.mem_or_eq_of_mem_set hq with z | z
      · exact ok q z
      · rw [z]; exact rok
theorem fr_Book_setitem (T : Tx K mg) : FnR P w K mg base CX0 1 (mad "Book" "__setitem__" K) (spBookSet K) := fnr_of (ok_Book_setitem T) (bd_Book_setitem T)
end

/-! ### errors of deeds -/
/-- an error with three fields -/
def spEx3 (K : PySem.W.Frag) (C : Addr) (n m o : Str) : Sp := fun vs H Q _ => ∃ (a : Addr) (v u z : V), vs = [.ref a, v, u, z] ∧ H a = some (exo a C none) ∧ ∀ dx, H dx = none → dx ≠ a → Q .non (upd (upd H dx (exd dx [(o, z), (m, u), (n, v)])) a (exo a C (some dx)))
theorem mkO3 {K : PySem.W.Frag} {C : Addr} {n m o : Str} {v u z : V} {H : Hp} {E : XK} (k : ∀ dd H', H dd = none → Same H H' → H' dd = some (.xd [(o, z), (m, u), (n, v)]) → E (.ref C) (some dd) H') :
    [v, u, z].length ≤ 1000 ∧ ∀ a, H a = none → spEx3 K C n m o (.ref a :: ([v, u, z] ++ [])) (upd H a (exo a C none))
      (fun w H2 => w = .non ∧ ∃ (d : Addr) (fs : List (Str × V)), H2 a = some (exo a C (some d)) ∧ H2 d = some (exd d fs) ∧ H d = none ∧ E (.ref C) (some d) (upd (L2.del H2 a) d (.xd fs))) (fun _ _ _ => False) := by
  refine ⟨(by decide : 3 ≤ 1000), fun a na => ⟨a, v, u, z, rfl, upd_same, fun dx nd ne => ⟨rfl, dx, [(o, z), (m, u), (n, v)], upd_same, ?_, ?_, ?_⟩⟩⟩
  · rw [upd_ne ne, upd_same]
  · rw [upd_ne ne] at nd; exact nd
  · have nd' : H dx = none := by rw [upd_ne ne] at nd; exact nd
    refine k dx _ nd' (fun b o e => ?_) upd_same
    have b1 : b ≠ a := ne_of_none e na
    have b2 : b ≠ dx := ne_of_none e nd'
    rw [upd_ne b2, L2.del_ne b1, upd_ne b1, upd_ne b2, upd_ne b1]
    exact e
section
variable {P : Program} [SupP P pFile] {w : World} {K : PySem.W.Frag} {mg : Str → Option Value} {base : Heap}
theorem ok_NoSuch_init (T : Tx K mg) : FnOk P w K mg base CX0 1 (mad "Refused" "__init__" K) (fdD K (mad "Refused" "__init__" K)) P_Refused_init (spEx2 K (gad "NoSuch" K) "what" "number") := by
  obtain ⟨cc, cdv, FC⟩ := T.F_Refused_init
  have SKf := sup_ok T.sp_NoSuch FC
  obtain ⟨oc, od, dV, kV, doc, pm, an, ct, osl, efd, lk, hcd, hD⟩ := FC.ex
  rw [efd] at lk
  rw [efd]
  refine fnC_of (fl := pFile) (C := gad "NoSuch" K) (D := gad "Refused" K) lk hcd sc_Refused_init SKf T.ox_NoSuch T.n_super rfl ⟨_, rfl⟩ (fun vs H Q E h => ?_) (fun vs H Q E h => ?_) (fun _ => rfl) (fun _ => rfl) (fun F A outer s H vs Q E e1 e2 e3 h => ?_)
  · obtain ⟨a, v, u, rfl, _⟩ := h; rfl
  · obtain ⟨a, v, u, rfl, ha, _⟩ := h; exact ⟨a, _, rfl, ha⟩
  · obtain ⟨a, v, u, rfl, ha, k⟩ := h
    obtain ⟨f1, f2, f3, f4, f5, f6, f7⟩ := F
    dsimp only at e1 e2 e3
    subst e1 e2 e3
    refine ⟨_, (pss_cons (ps_ost (pe_var (i := 0) rfl (Or.inl rfl)) (pe_var (i := 1) rfl (Or.inl rfl)) rfl) (pss_one (ps_ost (pe_var (i := 0) rfl (Or.inl rfl)) (pe_var (i := 2) rfl (Or.inl rfl)) rfl))), ?_⟩
    refine ⟨_, rfl, _, rfl, a, _, rfl, T.ox_NoSuch, T.na_NoSuch_what, .inl ⟨ha, fun dx nd ne => ?_⟩⟩
    have nd' : H dx = none := nd
    refine ⟨_, rfl, _, rfl, a, _, rfl, T.ox_NoSuch, T.na_NoSuch_number, .inr ⟨dx, _, upd_same, by rw [upd_ne ne]; exact upd_same, (by show (1 : Nat) ≤ 900; decide), ?_⟩⟩
    rw [upd_swap ne]
    exact k dx nd' ne
theorem ok_Busy_init (T : Tx K mg) : FnOk P w K mg base CX0 1 (mad "Refused" "__init__" K) (fdD K (mad "Refused" "__init__" K)) P_Refused_init (spEx2 K (gad "Busy" K) "what" "number") := by
  obtain ⟨cc, cdv, FC⟩ := T.F_Refused_init
  have SKf := sup_ok T.sp_Busy FC
  obtain ⟨oc, od, dV, kV, doc, pm, an, ct, osl, efd, lk, hcd, hD⟩ := FC.ex
  rw [efd] at lk
  rw [efd]
  refine fnC_of (fl := pFile) (C := gad "Busy" K) (D := gad "Refused" K) lk hcd sc_Refused_init SKf T.ox_Busy T.n_super rfl ⟨_, rfl⟩ (fun vs H Q E h => ?_) (fun vs H Q E h => ?_) (fun _ => rfl) (fun _ => rfl) (fun F A outer s H vs Q E e1 e2 e3 h => ?_)
  · obtain ⟨a, v, u, rfl, _⟩ := h; rfl
  · obtain ⟨a, v, u, rfl, ha, _⟩ := h; exact ⟨a, _, rfl, ha⟩
  · obtain ⟨a, v, u, rfl, ha, k⟩ := h
    obtain ⟨f1, f2, f3, f4, f5, f6, f7⟩ := F
    dsimp only at e1 e2 e3
    subst e1 e2 e3
    refine ⟨_, (pss_cons (ps_ost (pe_var (i := 0) rfl (Or.inl rfl)) (pe_var (i := 1) rfl (Or.inl rfl)) rfl) (pss_one (ps_ost (pe_var (i := 0) rfl (Or.inl rfl)) (pe_var (i := 2) rfl (Or.inl rfl)) rfl))), ?_⟩
    refine ⟨_, rfl, _, rfl, a, _, rfl, T.ox_Busy, T.na_Busy_what, .inl ⟨ha, fun dx nd ne => ?_⟩⟩
    have nd' : H dx = none := nd
    refine ⟨_, rfl, _, rfl, a, _, rfl, T.ox_Busy, T.na_Busy_number, .inr ⟨dx, _, upd_same, by rw [upd_ne ne]; exact upd_same, (by show (1 : Nat) ≤ 900; decide), ?_⟩⟩
    rw [upd_swap ne]
    exact k dx nd' ne
theorem ok_Empty_init (T : Tx K mg) : FnOk P w K mg base CX0 1 (mad "Refused" "__init__" K) (fdD K (mad "Refused" "__init__" K)) P_Refused_init (spEx2 K (gad "Empty" K) "what" "number") := by
  obtain ⟨cc, cdv, FC⟩ := T.F_Refused_init
  have SKf := sup_ok T.sp_Empty FC
  obtain ⟨oc, od, dV, kV, doc, pm, an, ct, osl, efd, lk, hcd, hD⟩ := FC.ex
  rw [efd] at lk
  rw [efd]
  refine fnC_of (fl := pFile) (C := gad "Empty" K) (D := gad "Refused" K) lk hcd sc_Refused_init SKf T.ox_Empty T.n_super rfl ⟨_, rfl⟩ (fun vs H Q E h => ?_) (fun vs H Q E h => ?_) (fun _ => rfl) (fun _ => rfl) (fun F A outer s H vs Q E e1 e2 e3 h => ?_)
  · obtain ⟨a, v, u, rfl, _⟩ := h; rfl
  · obtain ⟨a, v, u, rfl, ha, _⟩ := h; exact ⟨a, _, rfl, ha⟩
  · obtain ⟨a, v, u, rfl, ha, k⟩ := h
    obtain ⟨f1, f2, f3, f4, f5, f6, f7⟩ := F
    dsimp only at e1 e2 e3
    subst e1 e2 e3
    refine ⟨_, (pss_cons (ps_ost (pe_var (i := 0) rfl (Or.inl rfl)) (pe_var (i := 1) rfl (Or.inl rfl)) rfl) (pss_one (ps_ost (pe_var (i := 0) rfl (Or.inl rfl)) (pe_var (i := 2) rfl (Or.inl rfl)) rfl))), ?_⟩
    refine ⟨_, rfl, _, rfl, a, _, rfl, T.ox_Empty, T.na_Empty_what, .inl ⟨ha, fun dx nd ne => ?_⟩⟩
    have nd' : H dx = none := nd
    refine ⟨_, rfl, _, rfl, a, _, rfl, T.ox_Empty, T.na_Empty_number, .inr ⟨dx, _, upd_same, by rw [upd_ne ne]; exact upd_same, (by show (1 : Nat) ≤ 900; decide), ?_⟩⟩
    rw [upd_swap ne]
    exact k dx nd' ne
theorem ok_NotNow_init (T : Tx K mg) : FnOk P w K mg base CX0 1 (mad "Refused" "__init__" K) (fdD K (mad "Refused" "__init__" K)) P_Refused_init (spEx2 K (gad "NotNow" K) "what" "number") := by
  obtain ⟨cc, cdv, FC⟩ := T.F_Refused_init
  have SKf := sup_ok T.sp_NotNow FC
  obtain ⟨oc, od, dV, kV, doc, pm, an, ct, osl, efd, lk, hcd, hD⟩ := FC.ex
  rw [efd] at lk
  rw [efd]
  refine fnC_of (fl := pFile) (C := gad "NotNow" K) (D := gad "Refused" K) lk hcd sc_Refused_init SKf T.ox_NotNow T.n_super rfl ⟨_, rfl⟩ (fun vs H Q E h => ?_) (fun vs H Q E h => ?_) (fun _ => rfl) (fun _ => rfl) (fun F A outer s H vs Q E e1 e2 e3 h => ?_)
  · obtain ⟨a, v, u, rfl, _⟩ := h; rfl
  · obtain ⟨a, v, u, rfl, ha, _⟩ := h; exact ⟨a, _, rfl, ha⟩
  · obtain ⟨a, v, u, rfl, ha, k⟩ := h
    obtain ⟨f1, f2, f3, f4, f5, f6, f7⟩ := F
    dsimp only at e1 e2 e3
    subst e1 e2 e3
    refine ⟨_, (pss_cons (ps_ost (pe_var (i := 0) rfl (Or.inl rfl)) (pe_var (i := 1) rfl (Or.inl rfl)) rfl) (pss_one (ps_ost (pe_var (i := 0) rfl (Or.inl rfl)) (pe_var (i := 2) rfl (Or.inl rfl)) rfl))), ?_⟩
    refine ⟨_, rfl, _, rfl, a, _, rfl, T.ox_NotNow, T.na_NotNow_what, .inl ⟨ha, fun dx nd ne => ?_⟩⟩
    have nd' : H dx = none := nd
    refine ⟨_, rfl, _, rfl, a, _, rfl, T.ox_NotNow, T.na_NotNow_number, .inr ⟨dx, _, upd_same, by rw [upd_ne ne]; exact upd_same, (by show (1 : Nat) ≤ 900; decide), ?_⟩⟩
    rw [upd_swap ne]
    exact k dx nd' ne
theorem ok_Stale_init (T : Tx K mg) : FnOk P w K mg base CX0 1 (mad "Wrong" "__init__" K) (fdD K (mad "Wrong" "__init__" K)) P_Wrong_init (spEx3 K (gad "Stale" K) "what" "number" "thing") := by
  obtain ⟨cc, cdv, FC⟩ := T.F_Wrong_init
  have SKf := sup_ok T.sp_Stale FC
  obtain ⟨oc, od, dV, kV, doc, pm, an, ct, osl, efd, lk, hcd, hD⟩ := FC.ex
  rw [efd] at lk
  rw [efd]
  refine fnC_of (fl := pFile) (C := gad "Stale" K) (D := gad "Wrong" K) lk hcd sc_Wrong_init SKf T.ox_Stale T.n_super rfl ⟨_, rfl⟩ (fun vs H Q E h => ?_) (fun vs H Q E h => ?_) (fun _ => rfl) (fun _ => rfl) (fun F A outer s H vs Q E e1 e2 e3 h => ?_)
  · obtain ⟨a, v, u, z, rfl, _⟩ := h; rfl
  · obtain ⟨a, v, u, z, rfl, ha, _⟩ := h; exact ⟨a, _, rfl, ha⟩
  · obtain ⟨a, v, u, z, rfl, ha, k⟩ := h
    obtain ⟨f1, f2, f3, f4, f5, f6, f7⟩ := F
    dsimp only at e1 e2 e3
    subst e1 e2 e3
    refine ⟨_, (pss_cons (ps_ost (pe_var (i := 0) rfl (Or.inl rfl)) (pe_var (i := 1) rfl (Or.inl rfl)) rfl) (pss_cons (ps_ost (pe_var (i := 0) rfl (Or.inl rfl)) (pe_var (i := 2) rfl (Or.inl rfl)) rfl) (pss_one (ps_ost (pe_var (i := 0) rfl (Or.inl rfl)) (pe_var (i := 3) rfl (Or.inl rfl)) rfl)))), ?_⟩
    refine ⟨_, rfl, _, rfl, a, _, rfl, T.ox_Stale, T.na_Stale_what, .inl ⟨ha, fun dx nd ne => ?_⟩⟩
    have nd' : H dx = none := nd
    refine ⟨_, rfl, _, rfl, a, _, rfl, T.ox_Stale, T.na_Stale_number, .inr ⟨dx, _, upd_same, by rw [upd_ne ne]; exact upd_same, (by show (1 : Nat) ≤ 900; decide), ?_⟩⟩
    rw [upd_swap ne]
    refine ⟨_, rfl, _, rfl, a, _, rfl, T.ox_Stale, T.na_Stale_thing, .inr ⟨dx, _, upd_same, by rw [upd_ne ne]; exact upd_same, (by show (2 : Nat) ≤ 900; decide), ?_⟩⟩
    rw [upd_swap ne]
    exact k dx nd' ne
theorem ok_Dropped_init (T : Tx K mg) : FnOk P w K mg base CX0 1 (mad "Wrong" "__init__" K) (fdD K (mad "Wrong" "__init__" K)) P_Wrong_init (spEx3 K (gad "Dropped" K) "what" "number" "thing") := by
  obtain ⟨cc, cdv, FC⟩ := T.F_Wrong_init
  have SKf := sup_ok T.sp_Dropped FC
  obtain ⟨oc, od, dV, kV, doc, pm, an, ct, osl, efd, lk, hcd, hD⟩ := FC.ex
  rw [efd] at lk
  rw [efd]
  refine fnC_of (fl := pFile) (C := gad "Dropped" K) (D := gad "Wrong" K) lk hcd sc_Wrong_init SKf T.ox_Dropped T.n_super rfl ⟨_, rfl⟩ (fun vs H Q E h => ?_) (fun vs H Q E h => ?_) (fun _ => rfl) (fun _ => rfl) (fun F A outer s H vs Q E e1 e2 e3 h => ?_)
  · obtain ⟨a, v, u, z, rfl, _⟩ := h; rfl
  · obtain ⟨a, v, u, z, rfl, ha, _⟩ := h; exact ⟨a, _, rfl, ha⟩
  · obtain ⟨a, v, u, z, rfl, ha, k⟩ := h
    obtain ⟨f1, f2, f3, f4, f5, f6, f7⟩ := F
    dsimp only at e1 e2 e3
    subst e1 e2 e3
    refine ⟨_, (pss_cons (ps_ost (pe_var (i := 0) rfl (Or.inl rfl)) (pe_var (i := 1) rfl (Or.inl rfl)) rfl) (pss_cons (ps_ost (pe_var (i := 0) rfl (Or.inl rfl)) (pe_var (i := 2) rfl (Or.inl rfl)) rfl) (pss_one (ps_ost (pe_var (i := 0) rfl (Or.inl rfl)) (pe_var (i := 3) rfl (Or.inl rfl)) rfl)))), ?_⟩
    refine ⟨_, rfl, _, rfl, a, _, rfl, T.ox_Dropped, T.na_Dropped_what, .inl ⟨ha, fun dx nd ne => ?_⟩⟩
    have nd' : H dx = none := nd
    refine ⟨_, rfl, _, rfl, a, _, rfl, T.ox_Dropped, T.na_Dropped_number, .inr ⟨dx, _, upd_same, by rw [upd_ne ne]; exact upd_same, (by show (1 : Nat) ≤ 900; decide), ?_⟩⟩
    rw [upd_swap ne]
    refine ⟨_, rfl, _, rfl, a, _, rfl, T.ox_Dropped, T.na_Dropped_thing, .inr ⟨dx, _, upd_same, by rw [upd_ne ne]; exact upd_same, (by show (2 : Nat) ≤ 900; decide), ?_⟩⟩
    rw [upd_swap ne]
    exact k dx nd' ne
theorem ok_Lost_init (T : Tx K mg) : FnOk P w K mg base CX0 1 (mad "Wrong" "__init__" K) (fdD K (mad "Wrong" "__init__" K)) P_Wrong_init (spEx3 K (gad "Lost" K) "what" "number" "thing") := by
  obtain ⟨cc, cdv, FC⟩ := T.F_Wrong_init
  have SKf := sup_ok T.sp_Lost FC
  obtain ⟨oc, od, dV, kV, doc, pm, an, ct, osl, efd, lk, hcd, hD⟩ := FC.ex
  rw [efd] at lk
  rw [efd]
  refine fnC_of (fl := pFile) (C := gad "Lost" K) (D := gad "Wrong" K) lk hcd sc_Wrong_init SKf T.ox_Lost T.n_super rfl ⟨_, rfl⟩ (fun vs H Q E h => ?_) (fun vs H Q E h => ?_) (fun _ => rfl) (fun _ => rfl) (fun F A outer s H vs Q E e1 e2 e3 h => ?_)
  · obtain ⟨a, v, u, z, rfl, _⟩ := h; rfl
  · obtain ⟨a, v, u, z, rfl, ha, _⟩ := h; exact ⟨a, _, rfl, ha⟩
  · obtain ⟨a, v, u, z, rfl, ha, k⟩ := h
    obtain ⟨f1, f2, f3, f4, f5, f6, f7⟩ := F
    dsimp only at e1 e2 e3
    subst e1 e2 e3
    refine ⟨_, (pss_cons (ps_ost (pe_var (i := 0) rfl (Or.inl rfl)) (pe_var (i := 1) rfl (Or.inl rfl)) rfl) (pss_cons (ps_ost (pe_var (i := 0) rfl (Or.inl rfl)) (pe_var (i := 2) rfl (Or.inl rfl)) rfl) (pss_one (ps_ost (pe_var (i := 0) rfl (Or.inl rfl)) (pe_var (i := 3) rfl (Or.inl rfl)) rfl)))), ?_⟩
    refine ⟨_, rfl, _, rfl, a, _, rfl, T.ox_Lost, T.na_Lost_what, .inl ⟨ha, fun dx nd ne => ?_⟩⟩
    have nd' : H dx = none := nd
    refine ⟨_, rfl, _, rfl, a, _, rfl, T.ox_Lost, T.na_Lost_number, .inr ⟨dx, _, upd_same, by rw [upd_ne ne]; exact upd_same, (by show (1 : Nat) ≤ 900; decide), ?_⟩⟩
    rw [upd_swap ne]
    refine ⟨_, rfl, _, rfl, a, _, rfl, T.ox_Lost, T.na_Lost_thing, .inr ⟨dx, _, upd_same, by rw [upd_ne ne]; exact upd_same, (by show (2 : Nat) ≤ 900; decide), ?_⟩⟩
    rw [upd_swap ne]
    exact k dx nd' ne
end
end Hue

set_option Elab.async false
set_option linter.all false
set_option maxRecDepth 100000
set_option maxHeartbeats 1000000
namespace Hue
open PySem PySem.Spec PyProof.Rows L2
local macro_rules | `(tactic| walk_at "hp") => `(tactic| first
  | assumption
  | exact upd_same
  | (refine upd_old (by assumption) ?_; walk_at "hp")
  | (refine upd_oth (by assumption) ?_; walk_at "hp")
  | (refine same_get (by assumption) ?_; walk_at "hp")
  | (refine Fl.get (by assumption) (by assumption) ?_; walk_at "hp"))
local macro_rules | `(tactic| walk_at "seq") => `(tactic| first
  | assumption
  | exact T.t_BARRIERS _
  | exact SqL.of (by walk_at "hp")
  | exact SqT.of (by walk_at "hp"))
local macro_rules | `(tactic| walk_at "len") => `(tactic| first
  | exact Or.inl (by walk_at "seq")
  | exact Or.inr (by walk_at "seq"))
local macro_rules | `(tactic| walk_at "at") => `(tactic| first
  | rfl
  | assumption)

/-! ### references, as stores need them -/
def rfF (pl hu : Int) : List (Str × V) := putF "hue" (.int hu) (putF "place" (.int pl) [])
theorem rf_hue (pl hu : Int) : (rfF pl hu).lookup ("hue" : Str) = some (.int hu) := by
  unfold rfF
  simp only [lookup_putF]
  rw [if_pos trivial]
theorem rf_place (pl hu : Int) : (rfF pl hu).lookup ("place" : Str) = some (.int pl) := by
  unfold rfF
  simp only [lookup_putF]
  rw [if_neg (by decide +kernel), if_pos trivial]
def RfAt (K : PySem.W.Frag) (H : Hp) (a : Addr) (pl hu : Int) : Prop := ∃ dx, H a = some (.ins (gad "Ref" K) dx (rfF pl hu))
theorem RfAt.same {K : PySem.W.Frag} {H H' : Hp} {a : Addr} {pl hu : Int} (h : RfAt K H a pl hu) (e : Same H H') : RfAt K H' a pl hu := by
  obtain ⟨dx, h⟩ := h
  exact ⟨dx, e _ _ h⟩
/-- a reference as it may be: any place below 2 ^ 210, a hue -/
structure RfOk (pl hu : Int) : Prop where
  p0 : 0 ≤ pl
  p1 : pl.toNat < 2 ^ 210
  h0 : 0 ≤ hu
  h1 : hu < 6
theorem log_lt {i : Int} (h : i.natAbs < 2 ^ 210) : i.natAbs.log2 < 1920 := by
  by_cases z : i.natAbs = 0
  · rw [z]; decide
  · exact Nat.lt_of_lt_of_le ((Nat.log2_lt z).mpr h) (by decide)
/-- the reference's text -/
def rfText (pl hu : Int) : Str := Str.ofString (toString pl) ++ (":" : Str) ++ Str.ofString (toString hu)
theorem empty_app (x : Str) : Str.empty ++ x = x := Str.ext' (by rw [Str.cps_append]; exact Array.empty_append)
theorem num_len {i : Int} (h : i.natAbs < 2 ^ 210) : (Str.ofString (toString i)).length ≤ 1921 := int_text_len_1921 (log_lt h)
theorem len_app (x y : Str) : (x ++ y).length = x.length + y.length := by
  first
    | exact Str.length_append x y
    | simp [Str.length, Str.cps_append]
def spRefInit (C : Addr) : Sp := fun vs H Q _ => ∃ (p dx : Addr) (pl hu : Int), vs = [.ref p, .int pl, .int hu] ∧ H p = some (.ins C dx []) ∧ RfOk pl hu ∧
  ∀ H', Fl p H H' → H' p = some (.ins C dx (rfF pl hu)) → Q .non H'
def spRf (K : PySem.W.Frag) (g : Int → Int → V) : Sp := fun vs H Q _ => ∃ (a : Addr) (pl hu : Int), vs = [.ref a] ∧ RfAt K H a pl hu ∧ RfOk pl hu ∧ Q (g pl hu) H
def spRfEq (K : PySem.W.Frag) : Sp := fun vs H Q _ => ∃ (a : Addr) (pl hu : Int) (y : V), vs = [.ref a, y] ∧ RfAt K H a pl hu ∧
  ((∃ b pl2 hu2, y = .ref b ∧ RfAt K H b pl2 hu2 ∧ Q (.bl (decide (pl = pl2) && decide (hu = hu2))) H) ∨ ∃ t, TyX K H y t ∧ PySem.W.kitOne K t (.ref (gad "Ref" K)) = some false ∧ Q (.bl false) H)
section
variable {P : Program} [SupP P pFile] {w : World} {K : PySem.W.Frag} {mg : Str → Option Value} {base : Heap}
theorem ok_Ref_init (T : Tx K mg) : FnOk P w K mg base CX0 1 (mad "Ref" "__init__" K) (fdD K (mad "Ref" "__init__" K)) P_Ref_init (spRefInit (gad "Ref" K)) := by
  refine T.F_Ref_init.ok sc_Ref_init (fun vs H Q E h => ?_) (fun cdv A outer s H vs Q E hr h => ?_)
  · obtain ⟨p, dx, pl, hu, rfl, _⟩ := h; rfl
  · obtain ⟨p, dx, pl, hu, rfl, hp, ok, k⟩ := h
    refine ⟨_, PSs.nox ((pss_cons (ps_if (PW.pt (pw_or (pt_cmpR op_lt (pv 1) pe_int (nomark _)) (pw_or1 (pt_not (pt_chain op_le op_lt pe_int (pv 2) (pe_gi rfl T.g_HUES)))))) (pss_one ps_never) pss_nil)
      (pss_cons (ps_fld (pv 0) (pv 1) rfl)
      (pss_one (ps_fld (pv 0) (pv 2) rfl))))), ?_⟩
    refine ⟨_, rfl, _, _, rfl, rfl, _, rfl, iteDN (Int.not_lt.mpr ok.p0) ?_⟩
    refine ⟨_, rfl, _, _, rfl, rfl, _, rfl, iteD ok.h0 ?_⟩
    refine ⟨_, _, rfl, rfl, _, rfl, iteNS ok.h1 ?_⟩
    refine ⟨_, rfl, _, rfl, p, _, dx, _, rfl, hp, T.c_Ref, T.na_Ref_place, (Nat.zero_lt_succ _), _, rfl, _, rfl, p, _, dx, _, rfl, upd_same, T.c_Ref, T.na_Ref_hue, few (Nat.zero_lt_succ _), ?_⟩
    refine k _ ?_ upd_same
    simp only [upd_upd]
    exact Fl.cell
theorem ok_Ref_eq (T : Tx K mg) : FnOk P w K mg base CX0 1 (mad "Ref" "__eq__" K) (fdD K (mad "Ref" "__eq__" K)) P_Ref_eq (spRfEq K) := by
  refine T.F_Ref_eq.ok sc_Ref_eq (fun vs H Q E h => ?_) (fun cdv A outer s H vs Q E hr h => ?_)
  · obtain ⟨a, pl, hu, y, rfl, _⟩ := h; rfl
  · obtain ⟨a, pl, hu, y, rfl, ⟨dx, ha⟩, h⟩ := h
    refine ⟨_, PSs.nox ((pss_one (ps_ret (pe_and (pe_callB call_isi (by rfl) T.n_isinstance (by decide +kernel) (pa_cons (pv 1) (pa_cons (pe_gr rfl T.g_Ref) pa_nil))) (pe_and (pe_cmpR op_eq (pe_fld (pv 0) rfl) (pe_fld (pv 1) rfl) (nomark _)) (pe_one (pe_cmpR op_eq (pe_fld (pv 0) rfl) (pe_fld (pv 1) rfl) (nomark _)))))))), ?_⟩
    rcases h with ⟨b, pl2, hu2, rfl, ⟨dy, hb⟩, k⟩ | ⟨t, ty, kt, k⟩
    · refine ⟨_, rfl, _, _, _, _, true, rfl, .own _, inst_ty T.i_Ref T.c_Ref hb, T.k_Ref_Ref, _, rfl, iteT ?_⟩
      refine ⟨_, rfl, a, _, dx, _, _, rfl, ha, T.c_Ref, T.na_Ref_place, rf_place _ _, _, rfl, b, _, dy, _, _, rfl, hb, T.c_Ref, T.na_Ref_place, rf_place _ _, rfl, _, rfl, ?_⟩
      by_cases e : pl = pl2
      · subst e
        refine iteY (decide_eq_true rfl) ?_
        refine ⟨_, rfl, a, _, dx, _, _, rfl, ha, T.c_Ref, T.na_Ref_hue, rf_hue _ _, _, rfl, b, _, dy, _, _, rfl, hb, T.c_Ref, T.na_Ref_hue, rf_hue _ _, rfl, ?_⟩
        rw [decide_eq_true (rfl : pl = pl), Bool.true_and] at k
        have e2 : decide (V.int hu = V.int hu2) = decide (hu = hu2) := by
          by_cases q : hu = hu2
          · rw [q]; simp
          · rw [decide_eq_false q]; exact decide_eq_false fun z => q (V.int.inj z)
        show Q (.bl (decide (V.int hu = V.int hu2))) H
        rw [e2]
        exact k
      · have e2 : decide (V.int pl = V.int pl2) = false := decide_eq_false fun z => e (V.int.inj z)
        refine iteE e2 ?_
        rw [decide_eq_false e, Bool.false_and] at k
        exact k
    · exact ⟨_, rfl, _, _, t, _, false, rfl, .own _, ty, kt, _, rfl, iteF k⟩
theorem fr_Ref_eq (T : Tx K mg) : FnR P w K mg base CX0 1 (mad "Ref" "__eq__" K) (spRfEq K) := fnr_of (ok_Ref_eq T) (bd_Ref_eq T)
end

/-! ### Book.copy -/
theorem small1000' {n : Nat} (h : n ≤ 1000) : n ≤ sizeLine := Nat.le_trans h (by decide)
def spCopy (K : PySem.W.Frag) : Sp := fun vs H Q _ => ∃ (b l : Addr) (rs : List Ph), vs = [.ref b] ∧ BkAt K H b l rs ∧ ∀ c m H', H c = none → H m = none → Same H H' → BkAt K H' c m rs → Q (.ref c) H'
section
variable {P : Program} [SupP P pFile] {w : World} {K : PySem.W.Frag} {mg : Str → Option Value} {base : Heap}
theorem ok_Book_copy (T : Tx K mg) : FnOk P w K mg base CX0 4 (mad "Book" "copy" K) (fdD K (mad "Book" "copy" K)) P_Book_copy (spCopy K) := by
  refine T.F_Book_copy.ok sc_Book_copy (fun vs H Q E h => ?_) (fun cdv A outer s H vs Q E hr h => ?_)
  · obtain ⟨b, l, rs, rfl, _⟩ := h; rfl
  · obtain ⟨b, l, rs, rfl, B, k⟩ := h
    obtain ⟨⟨dx, hb⟩, ⟨as, hl, e, hp⟩, n1, n6, ok⟩ := id B
    refine ⟨_, PSs.nox ((pss_one (ps_ret (pe_makeGS T.mk_Book (fr_Book_init (P := P) T) (hr.mono (by decide)) passL rfl T.g_Book (pe_fld (pv 0) rfl))))), ?_⟩
    refine ⟨_, rfl, b, _, dx, _, _, rfl, hb, T.c_Book, T.na_Book_phases, bk_phases l, l, _, rfl, .inr (SqL.of hl), fun c d2 nc nd ne => ?_⟩
    refine ⟨[.ref c], _, rfl, rfl, small1000' (by rw [List.length_map]; omega), fun p np => ?_⟩
    have cp : c ≠ p := fun z => by rw [z, upd_same] at np; cases np
    have S0 := Same.upd (u := .ins (gad "Book" K) d2 []) (Same.new (u := .own c) nd) nc
    have S1 : Same H (upd (upd (upd H d2 (.own c)) c (.ins (gad "Book" K) d2 [])) p (.tup (as.map V.ref))) := Same.upd S0 (S0.free np)
    refine ⟨c, d2, p, _, rfl, upd_oth cp upd_same, upd_same, fun hv m H' nm fl hc hm => ⟨rfl, ?_⟩, fun hv H' S' => absurd ⟨by rw [List.length_map]; omega, by rw [List.length_map]; omega⟩ hv⟩
    have S2 : Same H H' := fun a o ha => fl a o (ne_of_none ha nc) (S1 a o ha)
    exact k c m H' nc (S1.free nm) S2 ⟨⟨d2, hc⟩, ⟨as, hm, e, fun i a r ha hr => (hp i a r ha hr).same S2⟩, n1, n6, ok⟩
end

/-! ### a phase with any fields: looked at, compared, written -/
section
variable (r : Rw)
theorem rw_hue : (rwF r).lookup ("hue" : Str) = some (.int r.hue) := by
  unfold rwF
  simp only [lookup_putF]
  rw [if_neg (by decide +kernel), if_neg (by decide +kernel), if_neg (by decide +kernel), if_neg (by decide +kernel), if_neg (by decide +kernel), if_pos trivial]
theorem rw_barrier : (rwF r).lookup ("barrier" : Str) = some (.str r.bar) := by
  unfold rwF
  simp only [lookup_putF]
  rw [if_neg (by decide +kernel), if_neg (by decide +kernel), if_neg (by decide +kernel), if_neg (by decide +kernel), if_pos trivial]
theorem rw_visits : (rwF r).lookup ("visits" : Str) = some (.bl r.vis) := by
  unfold rwF
  simp only [lookup_putF]
  rw [if_neg (by decide +kernel), if_neg (by decide +kernel), if_neg (by decide +kernel), if_pos trivial]
theorem rw_pauses : (rwF r).lookup ("pauses" : Str) = some (.bl r.pau) := by
  unfold rwF
  simp only [lookup_putF]
  rw [if_neg (by decide +kernel), if_neg (by decide +kernel), if_pos trivial]
theorem rw_stand : (rwF r).lookup ("stand" : Str) = some (.int r.std) := by
  unfold rwF
  simp only [lookup_putF]
  rw [if_neg (by decide +kernel), if_pos trivial]
theorem rw_skips : (rwF r).lookup ("skips" : Str) = some (.bl r.skp) := by
  unfold rwF
  simp only [lookup_putF]
  rw [if_pos trivial]
theorem rwx_at : atI r.vs 0 = some (.int r.hue) ∧ atI r.vs 1 = some (.str r.bar) ∧ atI r.vs 2 = some (.bl r.vis) ∧ atI r.vs 3 = some (.bl r.pau) ∧ atI r.vs 4 = some (.int r.std) ∧ atI r.vs 5 = some (.bl r.skp) := ⟨rfl, rfl, rfl, rfl, rfl, rfl⟩
end
def RwAt (K : PySem.W.Frag) (H : Hp) (a : Addr) (r : Rw) : Prop := ∃ dx, H a = some (.ins (gad "Phase" K) dx (rwF r))
theorem RwAt.same {K : PySem.W.Frag} {H H' : Hp} {a : Addr} {r : Rw} (h : RwAt K H a r) (e : Same H H') : RwAt K H' a r := by
  obtain ⟨dx, h⟩ := h
  exact ⟨dx, e _ _ h⟩
theorem made_same {H H' : Hp} {x dx C : Addr} (nx : H x = none) (nd : H dx = none) (f : Fl x (L2.upd (L2.upd H dx (.own x)) x (.ins C dx [])) H') : Same H H' := fun a o h => by
  have n1 : a ≠ x := ne_of_none h nx
  exact f _ _ n1 (upd_oth n1 (upd_old nd h))
theorem made_same2 {H H' : Hp} {x dx C : Addr} (nx : H x = none) (nd : H dx = none) (f : Same (L2.upd (L2.upd H dx (.own x)) x (.ins C dx [])) H') : Same H H' := made_same nx nd (Fl.same f)
/-- two values of a kind that is compared -/
theorem dec_int (a b : Int) : decide (V.int a = V.int b) = decide (a = b) := by
  by_cases e : a = b
  · rw [e]; simp
  · rw [decide_eq_false e]; exact decide_eq_false fun z => e (V.int.inj z)
theorem dec_str (a b : Str) : decide (V.str a = V.str b) = decide (a = b) := by
  by_cases e : a = b
  · rw [e]; simp
  · rw [decide_eq_false e]; exact decide_eq_false fun z => e (V.str.inj z)
theorem dec_bl (a b : Bool) : decide (V.bl a = V.bl b) = decide (a = b) := by
  by_cases e : a = b
  · rw [e]; simp
  · rw [decide_eq_false e]; exact decide_eq_false fun z => e (V.bl.inj z)
def numS (i : Int) : Str := Str.ofString (toString i)
def Rw.words (r : Rw) : List Str := [numS r.hue, r.bar] ++ (if r.vis = true then [("visits" : Str)] else []) ++ (if r.pau = true then [("pauses" : Str)] else []) ++ (if r.std ≠ 0 then [("stand " : Str) ++ numS r.std] else []) ++ (if r.skp = true then [("skips" : Str)] else [])
def Rw.text (r : Rw) : Str := Txt.join " " r.words
def spPhText (K : PySem.W.Frag) : Sp := fun vs H Q _ => ∃ (a : Addr) (r : Rw), vs = [.ref a] ∧ RwAt K H a r ∧ r.bad = none ∧ ∀ H', Same H H' → Q (.str r.text) H'
/-- the list of words at l -/
def WdAt (H : Hp) (a l : Addr) (ws : List Str) : L2.St → Hp → Prop := fun σ H' => σ = [some (.ref a), some (.ref l)] ∧ H l = none ∧ Same H H' ∧ H' l = some (.lst (ws.map V.str))
theorem WdAt.put {H H' : Hp} {a l : Addr} {ws : List Str} {x : Str} (nl : H l = none) (S : Same H H') : WdAt H a l (ws ++ [x]) [some (.ref a), some (.ref l)] (L2.upd H' l (.lst (ws.map V.str ++ [.str x]))) :=
  ⟨rfl, nl, Same.upd S nl, by rw [upd_same, List.map_append]; rfl⟩
theorem wd_lt {ws : List Str} {n : Nat} (h : ws.length ≤ n) (hn : n < sizeLine) : (ws.map V.str).length < sizeLine := by rw [List.length_map]; exact Nat.lt_of_le_of_lt h hn
theorem num_le {i : Int} (h0 : 0 ≤ i) (h1 : i ≤ 9) : (numS i).length ≤ 2 := by
  rcases (by omega : i = 0 ∨ i = 1 ∨ i = 2 ∨ i = 3 ∨ i = 4 ∨ i = 5 ∨ i = 6 ∨ i = 7 ∨ i = 8 ∨ i = 9) with rfl | rfl | rfl | rfl | rfl | rfl | rfl | rfl | rfl | rfl <;> decide +kernel
theorem small_log {i : Int} (h0 : 0 ≤ i) (h1 : i ≤ 9) : i.natAbs.log2 < 1920 := by
  rcases (by omega : i = 0 ∨ i = 1 ∨ i = 2 ∨ i = 3 ∨ i = 4 ∨ i = 5 ∨ i = 6 ∨ i = 7 ∨ i = 8 ∨ i = 9) with rfl | rfl | rfl | rfl | rfl | rfl | rfl | rfl | rfl | rfl <;> decide +kernel
theorem bar_len (b : Bar) : b.s.length ≤ 10 := by cases b <;> decide +kernel
theorem words_size {r : Rw} (h0 : 0 ≤ r.hue) (h1 : r.hue ≤ 9) (s0 : 0 ≤ r.std) (s1 : r.std ≤ 9) (bl : r.bar.length ≤ 10) : (r.words.map (·.length)).sum + r.words.length * (" " : Str).length ≤ 16777216 := by
  have e1 : (" " : Str).length = 1 := by decide +kernel
  have e2 : ("visits" : Str).length = 6 := by decide +kernel
  have e3 : ("pauses" : Str).length = 6 := by decide +kernel
  have e4 : ("skips" : Str).length = 5 := by decide +kernel
  have e5 : ("stand " : Str).length = 6 := by decide +kernel
  have l1 := num_le h0 h1
  have l2 := num_le s0 s1
  have e6 : (("stand " : Str) ++ numS r.std).length = 6 + (numS r.std).length := by
    have z : (("stand " : Str) ++ numS r.std).length = ("stand " : Str).length + (numS r.std).length := by
      first
        | exact Str.length_append _ _
        | simp [Str.length, Str.cps_append]
    rw [z, e5]
  have g : ∀ {c : Prop} [Decidable c] (x : Str), x.length ≤ 20 → ((if c then [x] else []).map (·.length)).sum ≤ 20 ∧ (if c then [x] else []).length ≤ 1 := fun {c} _ x hx => by
    split
    · exact ⟨by simpa using hx, by simp⟩
    · exact ⟨by simp, by simp⟩
  have g1 := g (c := r.vis = true) "visits" (by rw [e2]; decide)
  have g2 := g (c := r.pau = true) "pauses" (by rw [e3]; decide)
  have g3 := g (c := r.std ≠ 0) (("stand " : Str) ++ numS r.std) (by rw [e6]; omega)
  have g4 := g (c := r.skp = true) "skips" (by rw [e4]; decide)
  unfold Rw.words
  rw [e1]
  simp only [List.map_append, List.sum_append, List.length_append, List.map_cons, List.map_nil, List.sum_cons, List.sum_nil, List.length_cons, List.length_nil]
  omega

section
variable {P : Program} [SupP P pFile] {w : World} {K : PySem.W.Frag} {mg : Str → Option Value} {base : Heap}
theorem ok_Phase_looks (T : Tx K mg) : FnOk P w K mg base CX0 1 (pad "property" "Phase" "looks" K) (fdD K (pad "property" "Phase" "looks" K)) P_Phase_looks (spPh K fun r => .bl (decide (r.bar ≠ .none))) := by
  refine T.F_Phase_looks.ok sc_Phase_looks (fun vs H Q E h => ?_) (fun cdv A outer s H vs Q E hr h => ?_)
  · obtain ⟨p, r, rfl, _⟩ := h; rfl
  · obtain ⟨p, r, rfl, ⟨dx, hp⟩, ok, k⟩ := h
    refine ⟨_, PSs.nox ((pss_one (ps_ret (pe_cmpR op_ne (pe_fld (pv 0) rfl) pe_str (nomark _))))), ?_⟩
    refine ⟨_, rfl, p, _, dx, _, _, rfl, hp, T.c_Phase, T.na_Phase_barrier, ph_barrier r, rfl, ?_⟩
    have e : (!decide (V.str r.bar.s = V.str "none")) = decide (r.bar ≠ .none) := by cases r.bar <;> decide +kernel
    show Q (.bl (!decide (V.str r.bar.s = V.str "none"))) H
    rw [e]
    exact k
end

section
variable {P : Program} [SupP P pFile] {w : World} {K : PySem.W.Frag} {mg : Str → Option Value} {base : Heap}
theorem ok_Phase_moves (T : Tx K mg) : FnOk P w K mg base CX0 1 (pad "property" "Phase" "moves" K) (fdD K (pad "property" "Phase" "moves" K)) P_Phase_moves (spPh K fun r => .bl (decide (r.std ≠ 0))) := by
  refine T.F_Phase_moves.ok sc_Phase_moves (fun vs H Q E h => ?_) (fun cdv A outer s H vs Q E hr h => ?_)
  · obtain ⟨p, r, rfl, _⟩ := h; rfl
  · obtain ⟨p, r, rfl, ⟨dx, hp⟩, ok, k⟩ := h
    refine ⟨_, PSs.nox ((pss_one (ps_ret (pe_cmpR op_ne (pe_fld (pv 0) rfl) pe_int (nomark _))))), ?_⟩
    refine ⟨_, rfl, p, _, dx, _, _, rfl, hp, T.c_Phase, T.na_Phase_stand, ph_stand r, rfl, ?_⟩
    have e : (!decide (V.int r.std = V.int 0)) = decide (r.std ≠ 0) := by simp
    show Q (.bl (!decide (V.int r.std = V.int 0))) H
    rw [e]
    exact k
end

/-! ### the rows that may come next -/
theorem aft_step (sk : Nat → Bool) (n row k f : Nat) : aft sk n row k (f + 1) = ((row + 1 + k) % n) :: (if sk ((row + 1 + k) % n) then aft sk n row (k + 1) f else []) := rfl
theorem emod_cast (row j n : Nat) : ((row : Int) + 1 + (0 + (j : Int))) % (n : Int) = (((row + 1 + j) % n : Nat) : Int) := by
  rw [Int.natCast_emod]
  congr 1
  omega
section
variable {P : Program} [SupP P pFile] {w : World} {K : PySem.W.Frag} {mg : Str → Option Value} {base : Heap}
theorem ok_Book_after (T : Tx K mg) : FnOk P w K mg base CX0 1 (mad "Book" "after" K) (fdD K (mad "Book" "after" K)) P_Book_after (spAfter K) := by
  refine T.F_Book_after.ok sc_Book_after (fun vs H Q E h => ?_) (fun cdv A outer s H vs Q E hr h => ?_)
  · obtain ⟨b, l, rs, row, rfl, _⟩ := h; rfl
  · obtain ⟨b, l, rs, row, rfl, ⟨⟨dx, hb⟩, ⟨as, hl, e, hp⟩, n1, n6, ok⟩, hrow, k⟩ := h
    refine ⟨_, PSs.nox ((pss_cons (ps_set (i := 2) sc_Book_after.nd rfl (Or.inl rfl) (pe_lst pa_nil))
      (C8.pss_cut (ps_for PassesOwn.never rfl (pi_range1 (by rfl) T.n_range (pa_cons (pe_callB call_len_seq (by rfl) T.n_len (by decide +kernel) (pa_cons (pe_fld (pv 0) rfl) pa_nil)) pa_nil)) (pg_name (i := 3) sc_Book_after.nd rfl (Or.inl rfl)) (pss_cons (ps_expr (pe_bm PySem.F.plainAttrs_list PySem.F.slot_list_append PySem.F.type_list_append mt_append (pv 2) (pa_cons (pe_op op_mod (pe_op op_add (pe_op op_add (pv 1) pe_int) (pv 3)) (pe_callB call_len_seq (by rfl) T.n_len (by decide +kernel) (pa_cons (pe_fld (pv 0) rfl) pa_nil))) pa_nil)))
      (pss_one (ps_if (pt_not (pt_val (pe_fld (pe_ix ix_list (pe_fld (pv 0) rfl) (pe_ix ix_list (pv 2) (pe_un un_neg pe_int) (fun _ _ => rfl)) (fun _ _ => rfl)) rfl))) (pss_one ps_break) pss_nil))))
      (pss_one (ps_ret (pe_callTy call_tuple_of (by rfl) T.n_tuple (by decide +kernel) (pa_cons (pv 2) pa_nil))))))), ?_⟩
    have el : (as.map V.ref).length = rs.length := by rw [List.length_map, e]
    refine ⟨by decide, fun p np => ?_⟩
    have bp : b ≠ p := ne_of_none hb np
    have lp : l ≠ p := ne_of_none hl np
    refine ⟨fun σ H' => ∃ q, σ = [some (.ref b), some (.int row), some (.ref p), q] ∧ Same H H' ∧ H' p = some (.lst (nts (after rs row))), ?_, ?_⟩
    · refine ⟨_, rfl, b, _, dx, _, _, rfl, upd_old np hb, T.c_Book, T.na_Book_phases, bk_phases l, l, _, rfl, .inl (SqL.of (upd_old np hl)), ?_⟩
      refine ⟨_, rfl, by omega, by omega, for_range (n := _) (fun j σ H' => ∃ q pre, σ = [some (.ref b), some (.int row), some (.ref p), q] ∧ Same H H' ∧ H' p = some (.lst (nts pre)) ∧ after rs row = pre ++ aft (skOf rs) rs.length row j (rs.length - j) ∧ pre.length ≤ j)
        ⟨_, [], rfl, Same.new np, upd_same, rfl, Nat.le_refl _⟩ ?_ ?_⟩
      · rintro j σ H2 hj ⟨q, pre, rfl, S, hpr, ha, hz⟩
        have hj2 : j < rs.length := by rw [← el]; exact hj
        have hb2 := S _ _ hb
        have hl2 := S _ _ hl
        refine ⟨_, rfl, .inl ⟨rfl, _, SqL.of hpr⟩, _, rfl, _, _, rfl, rfl, _, rfl, _, _, rfl, rfl, _, rfl, b, _, dx, _, _, rfl, hb2, T.c_Book, T.na_Book_phases, bk_phases l, l, _, rfl, .inl (SqL.of hl2), _, _, rfl, rfl, (by show (0 : Int) < ((as.map V.ref).length : Int); omega), p, _, _, rfl, rfl, hpr, ?_, ?_⟩
        · show (nts pre).length < sizeLine
          unfold nts
          rw [List.length_map]
          exact Nat.lt_of_le_of_lt (show pre.length ≤ 1000 by omega) (by decide)
        have ev : ((row : Int) + 1 + (0 + (j : Int))) % (((as.map V.ref).length : Nat) : Int) = (((row + 1 + j) % rs.length : Nat) : Int) := by rw [el, emod_cast]
        have hx : (row + 1 + j) % rs.length < rs.length := Nat.mod_lt _ n1
        obtain ⟨r, hr', hm⟩ := mem_get hx
        obtain ⟨a, ha', _⟩ := mem_get (show (row + 1 + j) % rs.length < as.length by omega)
        obtain ⟨dxa, hpa⟩ := hp _ a r ha' hr'
        have hpa2 := S _ _ hpa
        have bp2 : ∀ {x : Addr} {o : HO}, H x = some o → x ≠ p := fun h => ne_of_none h np
        have hlst : (nts pre ++ [V.int (((row : Int) + 1 + (0 + (j : Int))) % (((as.map V.ref).length : Nat) : Int))]) = nts (pre ++ [(row + 1 + j) % rs.length]) := by
          rw [ev]
          unfold nts
          rw [List.map_append]
          rfl
        refine ⟨_, rfl, b, _, dx, _, _, rfl, upd_oth bp hb2, T.c_Book, T.na_Book_phases, bk_phases l, _, rfl, _, rfl, p, _, -1, _, rfl, rfl, SqL.of upd_same, atI_last _ _, l, _, _, .ref a, rfl, rfl, SqL.of (upd_oth lp hl2), ?_, ?_⟩
        · rw [ev]
          exact atI_nat (by rw [List.getElem?_map, ha']; rfl)
        refine ⟨a, _, dxa, _, _, rfl, upd_oth (bp2 hpa) hpa2, T.c_Phase, T.na_Phase_skips, ph_skips r, _, rfl, ?_⟩
        have hsk : skOf rs ((row + 1 + j) % rs.length) = r.skp := by unfold skOf; rw [hr']
        have S2 : Same H (upd H2 p (.lst (nts pre ++ [V.int (((row : Int) + 1 + (0 + (j : Int))) % (((as.map V.ref).length : Nat) : Int))]))) := Same.upd S np
        have hstep : rs.length - j = (rs.length - (j + 1)) + 1 := by omega
        rw [hstep, aft_step, hsk] at ha
        cases hs : r.skp with
        | true =>
          rw [hs] at ha
          refine iteF ?_
          refine ⟨_, pre ++ [(row + 1 + j) % rs.length], rfl, S2, by rw [← hlst]; exact upd_same, ?_, by rw [List.length_append, List.length_singleton]; omega⟩
          rw [ha]
          simp
        | false =>
          rw [hs] at ha
          refine iteT ?_
          refine ⟨_, rfl, S2, ?_⟩
          rw [ha]
          show _ = some (HO.lst (nts (pre ++ [(row + 1 + j) % rs.length])))
          rw [← hlst]
          exact upd_same
      · rintro σ H2 ⟨q, pre, rfl, S, hpr, ha, hz⟩
        refine ⟨_, rfl, S, ?_⟩
        rw [ha]
        have e0 : rs.length - ((as.map V.ref).length : Int).toNat = 0 := by omega
        rw [e0]
        show _ = some (HO.lst (nts (pre ++ [])))
        rw [List.append_nil]
        exact hpr
    · rintro σ H2 ⟨q, rfl, S, hpr⟩
      refine ⟨_, rfl, p, _, rfl, .inl ⟨SqL.of hpr, fun t nt => ?_⟩⟩
      exact k t _ (S.free nt) (Same.upd S (S.free nt)) upd_same
end

end Hue

set_option Elab.async false
set_option linter.all false
set_option maxRecDepth 100000
set_option maxHeartbeats 1000000
set_option pp.maxSteps 3000
namespace Hue
open PySem PySem.Spec PyProof.Rows L2
local macro_rules | `(tactic| walk_at "hp") => `(tactic| first
  | assumption
  | exact upd_same
  | (refine upd_old (by assumption) ?_; walk_at "hp")
  | (refine upd_oth (by assumption) ?_; walk_at "hp")
  | (refine same_get (by assumption) ?_; walk_at "hp")
  | (refine Fl.get (by assumption) (by assumption) ?_; walk_at "hp"))
local macro_rules | `(tactic| walk_at "seq") => `(tactic| first
  | assumption
  | exact T.t_BARRIERS _
  | exact SqL.of (by walk_at "hp")
  | exact SqT.of (by walk_at "hp"))
local macro_rules | `(tactic| walk_at "len") => `(tactic| first
  | exact Or.inl (by walk_at "seq")
  | exact Or.inr (by walk_at "seq"))
local macro_rules | `(tactic| walk_at "at") => `(tactic| first
  | rfl
  | assumption)

/-! ### a store: what stands in it -/
abbrev Rf := Int × Int
structure Mnd where
  slot : Int
  rf : Rf
  bar : Bar
structure Sto where
  row : Int
  turns : Int
  places : List Int
  owners : List Int
  posts : List (Int × (Int × Int))
  slots : List (Option Rf)
  seen : List Bool
  hands : List (Option Rf)
  owed : List (Option Mnd)
def RefO (K : PySem.W.Frag) (H : Hp) (v : V) (o : Option Rf) : Prop := match o with
  | none => v = .non
  | some r => ∃ a, v = .ref a ∧ RfAt K H a r.1 r.2 ∧ RfOk r.1 r.2
def MnO (K : PySem.W.Frag) (H : Hp) (v : V) (o : Option Mnd) : Prop := match o with
  | none => v = .non
  | some m => ∃ t a, v = .ref t ∧ H t = some (.tup [.int m.slot, .ref a, .str m.bar.s]) ∧ RfAt K H a m.rf.1 m.rf.2 ∧ RfOk m.rf.1 m.rf.2
def PoAt (H : Hp) (kv : Key × V) (p : Int × (Int × Int)) : Prop := kv.1 = .inl p.1 ∧ ∃ t, kv.2 = .ref t ∧ H t = some (.tup [.int p.2.1, .int p.2.2])
structure SA where
  b : Addr
  bl : Addr
  pl : Addr
  ow : Addr
  po : Addr
  sl : Addr
  vi : Addr
  ha : Addr
  me : Addr
/-- the objects that deeds change -/
def SA.own (A : SA) : List Addr := [A.pl, A.ow, A.po, A.sl, A.vi, A.ha, A.me]
def stoL (A : SA) (r t : Int) : List (Str × V) := [("_book", .ref A.b), ("_row", .int r), ("_turns", .int t), ("_places", .ref A.pl), ("_owners", .ref A.ow), ("_posts", .ref A.po), ("_slots", .ref A.sl), ("_visited", .ref A.vi), ("_hands", .ref A.ha), ("_mendings", .ref A.me)]
section
variable (A : SA) (r t : Int)
theorem st_book : (stoL A r t).lookup ("_book" : Str) = some (.ref A.b) := by kernel_rfl
theorem st_row : (stoL A r t).lookup ("_row" : Str) = some (.int r) := by kernel_rfl
theorem st_turns : (stoL A r t).lookup ("_turns" : Str) = some (.int t) := by kernel_rfl
theorem st_places : (stoL A r t).lookup ("_places" : Str) = some (.ref A.pl) := by kernel_rfl
theorem st_owners : (stoL A r t).lookup ("_owners" : Str) = some (.ref A.ow) := by kernel_rfl
theorem st_posts : (stoL A r t).lookup ("_posts" : Str) = some (.ref A.po) := by kernel_rfl
theorem st_slots : (stoL A r t).lookup ("_slots" : Str) = some (.ref A.sl) := by kernel_rfl
theorem st_visited : (stoL A r t).lookup ("_visited" : Str) = some (.ref A.vi) := by kernel_rfl
theorem st_hands : (stoL A r t).lookup ("_hands" : Str) = some (.ref A.ha) := by kernel_rfl
theorem st_mendings : (stoL A r t).lookup ("_mendings" : Str) = some (.ref A.me) := by kernel_rfl
theorem st_set_row (x : Int) : putF "_row" (.int x) (stoL A r t) = stoL A x t := by kernel_rfl
theorem st_set_turns (x : Int) : putF "_turns" (.int x) (stoL A r t) = stoL A r x := by kernel_rfl
theorem st_set_posts (x : Addr) : putF "_posts" (.ref x) (stoL A r t) = stoL { A with po := x } r t := by kernel_rfl
theorem st_set_places (x : Addr) : putF "_places" (.ref x) (stoL A r t) = stoL { A with pl := x } r t := by kernel_rfl
theorem st_set_owners (x : Addr) : putF "_owners" (.ref x) (stoL A r t) = stoL { A with ow := x } r t := by kernel_rfl
theorem st_set_slots (x : Addr) : putF "_slots" (.ref x) (stoL A r t) = stoL { A with sl := x } r t := by kernel_rfl
theorem st_set_visited (x : Addr) : putF "_visited" (.ref x) (stoL A r t) = stoL { A with vi := x } r t := by kernel_rfl
theorem st_set_hands (x : Addr) : putF "_hands" (.ref x) (stoL A r t) = stoL { A with ha := x } r t := by kernel_rfl
theorem st_set_mendings (x : Addr) : putF "_mendings" (.ref x) (stoL A r t) = stoL { A with me := x } r t := by kernel_rfl
theorem st_no {m : Str} (h : ∀ x ∈ (["_book", "_row", "_turns", "_places", "_owners", "_posts", "_slots", "_visited", "_hands", "_mendings"] : List Str), ¬ m = x) : (stoL A r t).lookup m = none := by
  unfold stoL
  simp only [List.lookup_cons, List.lookup_nil]
  have n : ∀ x : Str, x ∈ (["_book", "_row", "_turns", "_places", "_owners", "_posts", "_slots", "_visited", "_hands", "_mendings"] : List Str) → (m == x) = false := fun x hx => beq_eq_false_iff_ne.mpr (h x hx)
  rw [n _ (by simp), n _ (by simp), n _ (by simp), n _ (by simp), n _ (by simp), n _ (by simp), n _ (by simp), n _ (by simp), n _ (by simp), n _ (by simp)]
end
/-- what a place's signpost tells -/
def Sto.post (D : Sto) (p : Int) : Option (Int × Int) := D.posts.lookup p
def leftG (ps : List (Int × (Int × Int))) (t : Int) : Nat → Int → Int → Int
  | 0, _, l => l
  | f + 1, p, l => match ps.lookup p with
    | none => l
    | some qe => leftG ps t f qe.1 (if l = -1 then max 0 (qe.2 - t) else min l (max 0 (qe.2 - t)))
def Sto.left (D : Sto) (p : Int) : Int := leftG D.posts D.turns D.owners.length p (-1)
structure Wf (rs : List Ph) (D : Sto) : Prop where
  r0 : 0 ≤ D.row
  r1 : D.row < rs.length
  vis : D.seen.length = D.slots.length
  owe : D.owed.length = D.hands.length
  few : D.owners.length ≤ 5000
  fewP : D.places.length ≤ D.owners.length
  fs : D.slots.length ≤ 64
  fh : D.hands.length ≤ 64
  pls : ∀ p ∈ D.places, 0 ≤ p ∧ p < D.owners.length ∧ p ∉ D.posts.map (·.1)
  ows : ∀ t ∈ D.owners, 0 ≤ t ∧ t < D.places.length
  rfs : ∀ r, some r ∈ D.slots ∨ some r ∈ D.hands → 0 ≤ r.1 ∧ r.1 < D.owners.length
  pst : ∀ p ∈ D.posts, 0 ≤ p.1 ∧ p.1 < p.2.1 ∧ p.2.1 < D.owners.length
  key : (D.posts.map (·.1)).Nodup
  plN : D.places.Nodup
  owd : ∀ (h : Nat) m, D.owed[h]? = some (some m) → 0 ≤ m.slot ∧ (∃ r, D.slots[m.slot.toNat]? = some (some r)) ∧ ∃ r, D.hands[h]? = some (some r)
  fq : D.posts.length ≤ D.owners.length
structure StoreAt (K : PySem.W.Frag) (H : Hp) (s : Addr) (A : SA) (rs : List Ph) (D : Sto) : Prop where
  ob : ∃ dx, H s = some (.ins (gad "Store" K) dx (stoL A D.row D.turns))
  bk : BkAt K H A.b A.bl rs
  pl : H A.pl = some (.lst (D.places.map V.int))
  ow : H A.ow = some (.lst (D.owners.map V.int))
  po : ∃ kvs, H A.po = some (.dK kvs) ∧ Paired (PoAt H) kvs D.posts
  sl : ∃ xs, H A.sl = some (.lst xs) ∧ Paired (RefO K H) xs D.slots
  vi : H A.vi = some (.lst (D.seen.map V.bl))
  ha : ∃ xs, H A.ha = some (.lst xs) ∧ Paired (RefO K H) xs D.hands
  me : ∃ xs, H A.me = some (.lst xs) ∧ Paired (MnO K H) xs D.owed
  nd : (s :: A.bl :: A.own).Nodup
  wf : Wf rs D
/-! ### what is kept -/
/-- only the objects at these addresses change -/
def Fls (ls : List Addr) (H H' : Hp) : Prop := ∀ a o, a ∉ ls → H a = some o → H' a = some o
theorem Fls.refl (ls : List Addr) (H : Hp) : Fls ls H H := fun _ _ _ h => h
theorem Fls.trans {ls : List Addr} {H H1 H2 : Hp} (f : Fls ls H H1) (g : Fls ls H1 H2) : Fls ls H H2 := fun a o n h => g a o n (f a o n h)
theorem Fls.same {ls : List Addr} {H H' : Hp} (S : Same H H') : Fls ls H H' := fun a o _ h => S a o h
theorem Fls.one {ls : List Addr} {d : Addr} {H H' : Hp} (f : Fl d H H') (h : d ∈ ls) : Fls ls H H' := fun a o n q => f a o (fun e => n (e ▸ h)) q
theorem Fls.sub {ls ms : List Addr} {H H' : Hp} (f : Fls ls H H') (h : ∀ x ∈ ls, x ∈ ms) : Fls ms H H' := fun a o n q => f a o (fun e => n (h a e)) q
/-- neither a reference nor a tuple nor a book's object: what deeds change -/
def Chg (H : Hp) (a : Addr) : Prop := (∃ xs, H a = some (.lst xs)) ∨ (∃ kvs, H a = some (.dK kvs)) ∨ ∃ C dx A r t, H a = some (.ins C dx (stoL A r t))
theorem rf_nobook (p h : Int) : (rfF p h).lookup ("_book" : Str) = none := by kernel_rfl
theorem rf_ne_st {p h : Int} {A : SA} {r t : Int} : rfF p h ≠ stoL A r t := fun e => by
  have q := st_book A r t
  rw [← e] at q
  rw [rf_nobook p h] at q
  cases q
section
variable {K : PySem.W.Frag} {H H' : Hp} {ls : List Addr} {s : Addr} {A : SA} {rs : List Ph} {D : Sto}
theorem RfAt.fls {a : Addr} {p h : Int} (q : RfAt K H a p h) (f : Fls ls H H') (hl : ∀ x ∈ ls, Chg H x) : RfAt K H' a p h := by
  obtain ⟨dx, q⟩ := q
  refine ⟨dx, f _ _ (fun m => ?_) q⟩
  rcases hl a m with ⟨xs, e⟩ | ⟨xs, e⟩ | ⟨C, dy, A, r, t, e⟩
  · rw [q] at e; cases e
  · rw [q] at e; cases e
  · rw [q] at e
    injection e with e
    injection e with _ _ e
    exact rf_ne_st e
theorem tup_fls {a : Addr} {xs : List V} (q : H a = some (.tup xs)) (f : Fls ls H H') (hl : ∀ x ∈ ls, Chg H x) : H' a = some (.tup xs) := by
  refine f _ _ (fun m => ?_) q
  rcases hl a m with ⟨xs, e⟩ | ⟨xs, e⟩ | ⟨C, dy, A, r, t, e⟩ <;> (rw [q] at e; cases e)
theorem RefO.fls {v : V} {o : Option Rf} (h : RefO K H v o) (f : Fls ls H H') (hl : ∀ x ∈ ls, Chg H x) : RefO K H' v o := by
  cases o with
  | none => exact h
  | some r =>
    obtain ⟨a, e, q, ok⟩ := h
    exact ⟨a, e, q.fls f hl, ok⟩
theorem RefO.same {v : V} {o : Option Rf} (h : RefO K H v o) (S : Same H H') : RefO K H' v o := h.fls (ls := []) (Fls.same S) (fun x m => by cases m)
theorem MnO.fls {v : V} {o : Option Mnd} (h : MnO K H v o) (f : Fls ls H H') (hl : ∀ x ∈ ls, Chg H x) : MnO K H' v o := by
  cases o with
  | none => exact h
  | some r =>
    obtain ⟨t, a, e, h1, q, ok⟩ := h
    exact ⟨t, a, e, tup_fls h1 f hl, q.fls f hl, ok⟩
theorem PoAt.fls {kv : Key × V} {p : Int × (Int × Int)} (h : PoAt H kv p) (f : Fls ls H H') (hl : ∀ x ∈ ls, Chg H x) : PoAt H' kv p := by
  obtain ⟨e, t, e2, q⟩ := h
  exact ⟨e, t, e2, tup_fls q f hl⟩
theorem bkF_ne {l : Addr} {r t : Int} : bkF l ≠ stoL A r t := fun e => by
  have q := bk_phases l
  rw [e, st_no A r t (by decide +kernel)] at q
  cases q
theorem phF_ne {x : Ph} {r t : Int} : phF x ≠ stoL A r t := fun e => by
  have q := ph_hue x
  rw [e, st_no A r t (by decide +kernel)] at q
  cases q
theorem BkAt.fls {b l : Addr} (bk : BkAt K H b l rs) (f : Fls ls H H') (hl : ∀ x ∈ ls, Chg H x) (hb : l ∉ ls) : BkAt K H' b l rs := by
  obtain ⟨⟨d, b1⟩, ⟨as, b2, b3, b4⟩, b5, b6, b7⟩ := bk
  refine ⟨⟨d, f _ _ (fun m => ?_) b1⟩, ⟨as, f _ _ hb b2, b3, fun i a r ha hr => ?_⟩, b5, b6, b7⟩
  · rcases hl b m with ⟨xs, e⟩ | ⟨xs, e⟩ | ⟨C, dy, A, r, t, e⟩
    · rw [b1] at e; cases e
    · rw [b1] at e; cases e
    · rw [b1] at e
      injection e with e
      injection e with _ _ e
      exact bkF_ne e
  · obtain ⟨dp, q⟩ := b4 i a r ha hr
    refine ⟨dp, f _ _ (fun m => ?_) q⟩
    rcases hl a m with ⟨xs, e⟩ | ⟨xs, e⟩ | ⟨C, dy, A, r, t, e⟩
    · rw [q] at e; cases e
    · rw [q] at e; cases e
    · rw [q] at e
      injection e with e
      injection e with _ _ e
      exact phF_ne e
theorem StoreAt.frame (h : StoreAt K H s A rs D) (f : Fls ls H H') (hl : ∀ x ∈ ls, Chg H x) (hd : ∀ x ∈ ls, x ∉ s :: A.bl :: A.own) : StoreAt K H' s A rs D := by
  have il : ∀ {a : Addr} {o : HO}, a ∈ s :: A.bl :: A.own → H a = some o → H' a = some o := fun {a o} m e => f _ _ (fun q => hd a q m) e
  obtain ⟨⟨dx, o1⟩, bk, pl, ow, ⟨kvs, p1, p2⟩, ⟨xs, s1, s2⟩, vi, ⟨ys, h1, h2⟩, ⟨zs, m1, m2⟩, nd, wf⟩ := h
  exact ⟨⟨dx, il (by simp) o1⟩, bk.fls f hl (fun m => hd _ m (by simp)), il (by simp [SA.own]) pl, il (by simp [SA.own]) ow, ⟨kvs, il (by simp [SA.own]) p1, L2.Paired.mapP p2 fun _ _ q => q.fls f hl⟩,
    ⟨xs, il (by simp [SA.own]) s1, L2.Paired.mapP s2 fun _ _ q => q.fls f hl⟩, il (by simp [SA.own]) vi, ⟨ys, il (by simp [SA.own]) h1, L2.Paired.mapP h2 fun _ _ q => q.fls f hl⟩, ⟨zs, il (by simp [SA.own]) m1, L2.Paired.mapP m2 fun _ _ q => q.fls f hl⟩, nd, wf⟩
theorem StoreAt.same (h : StoreAt K H s A rs D) (S : Same H H') : StoreAt K H' s A rs D := h.frame (ls := []) (Fls.same S) (fun x m => by cases m) (fun x m => by cases m)
theorem StoreAt.chg (h : StoreAt K H s A rs D) : ∀ x ∈ s :: A.own, Chg H x := fun x hx => by
  simp only [SA.own, List.mem_cons, List.not_mem_nil, or_false] at hx
  rcases hx with rfl | rfl | rfl | rfl | rfl | rfl | rfl | rfl
  · obtain ⟨dx, q⟩ := h.ob; exact .inr (.inr ⟨_, _, _, _, _, q⟩)
  · exact .inl ⟨_, h.pl⟩
  · exact .inl ⟨_, h.ow⟩
  · obtain ⟨kvs, q, _⟩ := h.po; exact .inr (.inl ⟨_, q⟩)
  · obtain ⟨kvs, q, _⟩ := h.sl; exact .inl ⟨_, q⟩
  · exact .inl ⟨_, h.vi⟩
  · obtain ⟨kvs, q, _⟩ := h.ha; exact .inl ⟨_, q⟩
  · obtain ⟨kvs, q, _⟩ := h.me; exact .inl ⟨_, q⟩
end
/-- behind a deed: what isn't the store's stands, and the store's new objects are new -/
structure Frm (s : Addr) (A A' : SA) (H H' : Hp) : Prop where
  keep : ∀ a o, a ∉ s :: A.own → H a = some o → H' a = some o
  new : ∀ a ∈ A'.own, a ∈ A.own ∨ H a = none
  b : A'.b = A.b
  bl : A'.bl = A.bl
  there : ∀ o, H s = some o → ∃ o', H' s = some o'
theorem Frm.same {s : Addr} {A : SA} {H H' : Hp} (S : Same H H') : Frm s A A H H' := ⟨fun a o _ h => S a o h, fun a h => .inl h, rfl, rfl, fun o e => ⟨o, S _ _ e⟩⟩
theorem Frm.fls {s : Addr} {A : SA} {H H' : Hp} (f : Fls (s :: A.own) H H') (hs : ∃ o, H' s = some o) : Frm s A A H H' := ⟨f, fun a h => .inl h, rfl, rfl, fun _ _ => hs⟩
theorem Frm.trans {s : Addr} {A A1 A2 : SA} {H H1 H2 : Hp} (f : Frm s A A1 H H1) (g : Frm s A1 A2 H1 H2) : Frm s A A2 H H2 := by
  refine ⟨fun a o n h => g.keep a o (fun m => ?_) (f.keep a o n h), fun a m => ?_, g.b.trans f.b, g.bl.trans f.bl, fun o e => ?_⟩
  · rcases List.mem_cons.mp m with e | m
    · exact n (by rw [e]; exact List.mem_cons_self)
    · rcases f.new a m with q | q
      · exact n (List.mem_cons_of_mem _ q)
      · rw [q] at h; cases h
  · rcases g.new a m with q | q
    · exact f.new a q
    · cases e : H a with
      | none => exact .inr rfl
      | some o =>
        by_cases z : a ∈ s :: A.own
        · rcases List.mem_cons.mp z with z | z
          · rw [z] at e q
            obtain ⟨o', q'⟩ := f.there o e
            rw [q] at q'; cases q'
          · exact .inl z
        · have := f.keep a o z e
          rw [q] at this; cases this
  · obtain ⟨o1, q1⟩ := f.there o e
    exact g.there o1 q1

end Hue

set_option Elab.async false
set_option linter.all false
set_option maxRecDepth 100000
set_option maxHeartbeats 1000000
set_option pp.maxSteps 3000
namespace Hue
open PySem PySem.Spec PyProof.Rows L2
local macro_rules | `(tactic| walk_at "hp") => `(tactic| first
  | assumption
  | exact upd_same
  | (refine upd_old (by assumption) ?_; walk_at "hp")
  | (refine upd_oth (by assumption) ?_; walk_at "hp")
  | (refine same_get (by assumption) ?_; walk_at "hp")
  | (refine Fl.get (by assumption) (by assumption) ?_; walk_at "hp"))
local macro_rules | `(tactic| walk_at "seq") => `(tactic| first
  | assumption
  | exact T.t_BARRIERS _
  | exact SqL.of (by walk_at "hp")
  | exact SqT.of (by walk_at "hp"))
local macro_rules | `(tactic| walk_at "len") => `(tactic| first
  | exact Or.inl (by walk_at "seq")
  | exact Or.inr (by walk_at "seq"))
local macro_rules | `(tactic| walk_at "at") => `(tactic| first
  | rfl
  | assumption)

/-! ### promises of a store's methods -/
abbrev ERef (K : PySem.W.Frag) (H : Hp) (E : XK) (c : String) (wh : Str) (n : Int) : Prop := ∀ dd H', H dd = none → Same H H' → H' dd = some (.xd [("number", .int n), ("what", .str wh)]) → E (.ref (gad c K)) (some dd) H'
abbrev EWr (K : PySem.W.Frag) (H : Hp) (E : XK) (c : String) (wh : Str) (n t : Int) : Prop := ∀ dd H', H dd = none → Same H H' → H' dd = some (.xd [("thing", .int t), ("number", .int n), ("what", .str wh)]) → E (.ref (gad c K)) (some dd) H'
def spCheck (K : PySem.W.Frag) : Sp := fun vs H Q E => ∃ (s : Addr) (wh : Str) (n m : Int), vs = [.ref s, .str wh, .int n, .int m] ∧ ((0 ≤ n ∧ n < m) → Q .non H) ∧ (¬ (0 ≤ n ∧ n < m) → ERef K H E "NoSuch" wh n)
def StA (K : PySem.W.Frag) (vs : List V) (H : Hp) (s : Addr) (A : SA) (rs : List Ph) (D : Sto) (as : List V) : Prop := vs = .ref s :: as ∧ StoreAt K H s A rs D
def spIdle (K : PySem.W.Frag) : Sp := fun vs H Q E => ∃ s A rs D, ∃ h : Nat, StA K vs H s A rs D [.int (h : Int)] ∧ h < D.hands.length ∧ (D.owed[h]? = some none → Q .non H) ∧ (∀ m, D.owed[h]? = some (some m) → ERef K H E "Busy" "hand" h)
def spHeld (K : PySem.W.Frag) : Sp := fun vs H Q E => ∃ s A rs D, ∃ h : Nat, StA K vs H s A rs D [.int (h : Int)] ∧ (∀ r, D.hands[h]? = some (some r) → ∀ v, RefO K H v (some r) → Q v H) ∧ h < D.hands.length ∧ (D.hands[h]? = some none → ERef K H E "Empty" "hand" h)
def spLeft (K : PySem.W.Frag) : Sp := fun vs H Q _ => ∃ s A rs D, ∃ (a : Addr) (r : Rf), StA K vs H s A rs D [.ref a] ∧ RfAt K H a r.1 r.2 ∧ 0 ≤ r.1 ∧ Q (.int (D.left r.1)) H
def spAsk (K : PySem.W.Frag) (wh : Str) (f : Sto → List (Option Rf)) : Sp := fun vs H Q E => ∃ s A rs D n, StA K vs H s A rs D [.int n] ∧ ((0 ≤ n ∧ n < (f D).length) → ∀ o, (f D)[n.toNat]? = some o → ∀ v, RefO K H v o → Q v H) ∧ (¬ (0 ≤ n ∧ n < (f D).length) → ERef K H E "NoSuch" wh n)
def spPlaceOf (K : PySem.W.Frag) : Sp := fun vs H Q E => ∃ s A rs D n, StA K vs H s A rs D [.int n] ∧ ((0 ≤ n ∧ n < D.places.length) → ∀ p, D.places[n.toNat]? = some p → Q (.int p) H) ∧ (¬ (0 ≤ n ∧ n < D.places.length) → ERef K H E "NoSuch" "thing" n)
def spTell (K : PySem.W.Frag) (g : Sto → V) : Sp := fun vs H Q _ => ∃ s A rs D, StA K vs H s A rs D [] ∧ Q (g D) H
theorem paired_get {α β : Type} {F : α → β → Prop} : ∀ {l₁ : List α} {l₂ : List β} {j : Nat} {y : β}, Paired F l₁ l₂ → l₂[j]? = some y → ∃ x, l₁[j]? = some x ∧ F x y
  | _, _, j, y, .nil, h => by cases h
  | _, _, 0, y, .cons f _, h => by cases h; exact ⟨_, rfl, f⟩
  | _, _, j + 1, y, .cons _ t, h => paired_get (j := j) t h
theorem int_at {l : List Int} {i n : Int} (h0 : 0 ≤ i) (h : l[i.toNat]? = some n) : atI (l.map V.int) i = some (.int n) := atI_nat' h0 (by rw [List.getElem?_map, h]; rfl)
theorem posts_val {H : Hp} : ∀ {kvs : List (Key × V)} {ps : List (Int × (Int × Int))}, Paired (PoAt H) kvs ps → ∀ p : Int,
    (ps.lookup p = none ∧ valV kvs (.inl p) = none) ∨ ∃ q e t, ps.lookup p = some (q, e) ∧ valV kvs (.inl p) = some (.ref t) ∧ H t = some (.tup [.int q, .int e])
  | _, _, .nil, p => .inl ⟨rfl, rfl⟩
  | kv :: kvs, x :: ps, .cons ⟨e1, t, e2, ht⟩ r, p => by
    rw [List.lookup_cons]
    by_cases h : p = x.1
    · rw [h, beq_self_eq_true]
      refine .inr ⟨x.2.1, x.2.2, t, rfl, ?_, ht⟩
      rw [valV_pos (by rw [e1])]
      rw [e2]
    · rw [beq_eq_false_iff_ne.mpr h, valV_neg (by rw [e1]; intro z; exact h (Sum.inl.inj z).symm)]
      exact posts_val r p
theorem lookup_mem {ps : List (Int × (Int × Int))} {p : Int} {x : Int × Int} (h : ps.lookup p = some x) : (p, x) ∈ ps := by
  induction ps with
  | nil => cases h
  | cons y ps ih =>
    rw [List.lookup_cons] at h
    by_cases e : p = y.1
    · rw [e, beq_self_eq_true] at h
      cases h
      rw [e]
      exact List.mem_cons_self
    · rw [beq_eq_false_iff_ne.mpr e] at h
      exact List.mem_cons_of_mem _ (ih h)
section
variable {P : Program} [SupP P pFile] {w : World} {K : PySem.W.Frag} {mg : Str → Option Value} {base : Heap}
theorem ok_Storecheck (T : Tx K mg) : FnOk P w K mg base (L2.CX P w) 3 (mad "Store" "_check" K) (fdD K (mad "Store" "_check" K)) P_Storecheck (spCheck K) := by
  refine T.F_Storecheck.ok sc_Storecheck (fun vs H Q E h => ?_) (fun cdv A outer s H vs Q E hr h => ?_)
  · obtain ⟨s, wh, n, m, rfl, _⟩ := h; rfl
  · obtain ⟨a, wh, n, m, rfl, k1, k2⟩ := h
    refine ⟨_, (pss_one (ps_if (pt_not (pt_chain op_le op_lt pe_int (pv 2) (pv 3))) (pss_one (ps_raise rfl (takes_of rfl rfl rfl rfl) (pmk_oex T.ox_NoSuch T.ei_NoSuch.1 T.ei_NoSuch.2 (ok_NoSuch_init (P := P) T) (hr.mono (by decide)) (bd_Refused_init T) .nil pass0 rfl T.g_NoSuch (pa_cons (pv 1) (pa_cons (pv 2) pa_nil))))) pss_nil)), ?_⟩
    have bad : ¬ (0 ≤ n ∧ n < m) → ERef K H E "NoSuch" wh n := k2
    by_cases h0 : 0 ≤ n
    · refine ⟨_, rfl, _, _, rfl, rfl, _, rfl, iteD h0 ?_⟩
      by_cases h1 : n < m
      · exact ⟨_, rfl, _, _, rfl, rfl, _, rfl, iteNS h1 (k1 ⟨h0, h1⟩)⟩
      · exact ⟨_, rfl, _, _, rfl, rfl, _, rfl, iteND h1 ⟨_, rfl, _, rfl, mkO2 (bad fun z => h1 z.2)⟩⟩
    · refine ⟨_, rfl, _, _, rfl, rfl, _, rfl, iteDN h0 ?_⟩
      exact ⟨_, rfl, iteT ⟨_, rfl, _, rfl, mkO2 (bad fun z => h0 z.1)⟩⟩
theorem ok_Storecheck_idle (T : Tx K mg) : FnOk P w K mg base (L2.CX P w) 3 (mad "Store" "_check_idle" K) (fdD K (mad "Store" "_check_idle" K)) P_Storecheck_idle (spIdle K) := by
  refine T.F_Storecheck_idle.ok sc_Storecheck_idle (fun vs H Q E h => ?_) (fun cdv A outer s H vs Q E hr h => ?_)
  · obtain ⟨s, A, rs, D, h, ⟨rfl, _⟩, _⟩ := h; rfl
  · obtain ⟨a, SA', rs, D, h, ⟨rfl, S⟩, hl, k1, k2⟩ := h
    refine ⟨_, (pss_one (ps_if (pt_cmpR op_notN (pe_ix ix_list (pe_fld (pv 0) rfl) (pv 1) (fun _ _ => rfl)) pe_non (nomark _)) (pss_one (ps_raise rfl (takes_of rfl rfl rfl rfl) (pmk_oex T.ox_Busy T.ei_Busy.1 T.ei_Busy.2 (ok_Busy_init (P := P) T) (hr.mono (by decide)) (bd_Refused_init T) .nil pass0 rfl T.g_Busy (pa_cons pe_str (pa_cons (pv 1) pa_nil))))) pss_nil)), ?_⟩
    obtain ⟨dx, ho⟩ := S.ob
    obtain ⟨xs, hx, hp⟩ := S.me
    obtain ⟨o, eo⟩ : ∃ o, D.owed[h]? = some o := ⟨_, List.getElem?_eq_getElem (by rw [S.wf.owe]; exact hl)⟩
    obtain ⟨v, hv, rv⟩ := paired_get hp eo
    have hat : atI xs ((h : Nat) : Int) = some v := atI_nat hv
    cases o with
    | none =>
      obtain rfl : v = .non := rv
      exact ⟨_, rfl, a, _, dx, _, _, rfl, ho, T.c_Store, T.na_Store__mendings, st_mendings _ _ _, _, rfl, _, _, _, _, rfl, rfl, SqL.of hx, hat, rfl, _, rfl, iteNS rfl (k1 eo)⟩
    | some m =>
      obtain ⟨t, b, rfl, _⟩ := rv
      exact ⟨_, rfl, a, _, dx, _, _, rfl, ho, T.c_Store, T.na_Store__mendings, st_mendings _ _ _, _, rfl, _, _, _, _, rfl, rfl, SqL.of hx, hat, rfl, _, rfl, iteND (by intro z; cases z) ⟨_, rfl, mkO2 (k2 m eo)⟩⟩
theorem ok_Storeheld (T : Tx K mg) : FnOk P w K mg base (L2.CX P w) 3 (mad "Store" "_held" K) (fdD K (mad "Store" "_held" K)) P_Storeheld (spHeld K) := by
  refine T.F_Storeheld.ok sc_Storeheld (fun vs H Q E h => ?_) (fun cdv A outer s H vs Q E hr h => ?_)
  · obtain ⟨s, A, rs, D, h, ⟨rfl, _⟩, _⟩ := h; rfl
  · obtain ⟨a, SA', rs, D, h, ⟨rfl, S⟩, k1, hl, k2⟩ := h
    refine ⟨_, (pss_cons (ps_if (pt_cmpR op_isN (pe_ix ix_list (pe_fld (pv 0) rfl) (pv 1) (fun _ _ => rfl)) pe_non (nomark _)) (pss_one (ps_raise rfl (takes_of rfl rfl rfl rfl) (pmk_oex T.ox_Empty T.ei_Empty.1 T.ei_Empty.2 (ok_Empty_init (P := P) T) (hr.mono (by decide)) (bd_Refused_init T) .nil pass0 rfl T.g_Empty (pa_cons pe_str (pa_cons (pv 1) pa_nil))))) pss_nil)
      (pss_one (ps_ret (pe_ix ix_list (pe_fld (pv 0) rfl) (pv 1) (fun _ _ => rfl))))), ?_⟩
    obtain ⟨dx, ho⟩ := S.ob
    obtain ⟨xs, hx, hp⟩ := S.ha
    have eo := List.getElem?_eq_getElem hl
    generalize D.hands[h] = o at eo
    obtain ⟨v, hv, rv⟩ := paired_get hp eo
    have hat : atI xs ((h : Nat) : Int) = some v := atI_nat hv
    cases o with
    | none =>
      obtain rfl : v = .non := rv
      exact ⟨_, rfl, a, _, dx, _, _, rfl, ho, T.c_Store, T.na_Store__hands, st_hands _ _ _, _, rfl, _, _, _, _, rfl, rfl, SqL.of hx, hat, rfl, _, rfl, iteD rfl ⟨_, rfl, mkO2 (k2 eo)⟩⟩
    | some r =>
      have k := k1 r eo v rv
      obtain ⟨c, rfl, _⟩ := rv
      refine ⟨_, rfl, a, _, dx, _, _, rfl, ho, T.c_Store, T.na_Store__hands, st_hands _ _ _, _, rfl, _, _, _, _, rfl, rfl, SqL.of hx, hat, rfl, _, rfl, iteDN (by intro z; cases z) ?_⟩
      exact ⟨_, rfl, a, _, dx, _, _, rfl, ho, T.c_Store, T.na_Store__hands, st_hands _ _ _, _, rfl, _, _, _, _, rfl, rfl, SqL.of hx, hat, k⟩
theorem ok_Storeleft (T : Tx K mg) : FnOk P w K mg base CX0 2 (mad "Store" "_left" K) (fdD K (mad "Store" "_left" K)) P_Storeleft (spLeft K) := by
  refine T.F_Storeleft.ok sc_Storeleft (fun vs H Q E h => ?_) (fun cdv A outer s H vs Q E hr h => ?_)
  · obtain ⟨s, A, rs, D, b, r, ⟨rfl, _⟩, _⟩ := h; rfl
  · obtain ⟨a, SA', rs, D, b, r, ⟨rfl, S⟩, ⟨db, hb⟩, p0, k⟩ := h
    refine ⟨_, PSs.nox ((pss_cons (ps_set (i := 2) sc_Storeleft.nd rfl (Or.inl rfl) (pe_un un_neg pe_int))
      (pss_cons (ps_set (i := 3) sc_Storeleft.nd rfl (Or.inl rfl) (pe_fld (pv 1) rfl))
      (pss_cons (ps_while PassesOwn.never (pt_cmp (pc_din (Nat.lt_of_le_of_lt (Nat.add_le_add_left (by decide) _) hr.units) (pv 3) (pe_fld (pv 0) rfl))) (pss_cons (ps_asg (pe_dget (Nat.lt_of_le_of_lt (Nat.add_le_add_left (by decide) _) hr.units) (pe_fld (pv 0) rfl) (pv 3) (fun _ _ => rfl)) (pg_tup rfl (pgs_cons (pg_name (i := 3) sc_Storeleft.nd rfl (Or.inl rfl)) (pgs_cons (pg_name (i := 4) sc_Storeleft.nd rfl (Or.inl rfl)) pgs_nil))))
      (pss_cons (ps_set (i := 5) sc_Storeleft.nd rfl (Or.inl rfl) (pe_callB (call_max2 rfl) (by rfl) T.n_max (by decide +kernel) (pa_cons pe_int (pa_cons (pe_op op_sub (pv 4) (pe_fld (pv 0) rfl)) pa_nil))))
      (pss_one (ps_set (i := 2) sc_Storeleft.nd rfl (Or.inl rfl) (pe_ifExp (pt_cmpR op_eq (pv 2) (pe_un un_neg pe_int) (nomark _)) (pv 5) (pe_callB (call_min2 rfl) (by rfl) T.n_min (by decide +kernel) (pa_cons (pv 2) (pa_cons (pv 5) pa_nil)))))))))
      (pss_one (ps_ret (pv 2))))))), ?_⟩
    obtain ⟨dx, ho⟩ := S.ob
    obtain ⟨kvs, hpo, hpp⟩ := S.po
    refine ⟨_, rfl, _, rfl, b, _, db, _, _, rfl, hb, T.c_Ref, T.na_Ref_place, rf_place _ _, ?_⟩
    refine ⟨fun m σ H' => (∃ p l q4 q5, σ = [some (.ref a), some (.ref b), some (.int l), some (.int p), q4, q5] ∧ 0 ≤ p ∧ (D.owners.length : Int) ≤ p + m ∧ leftG D.posts D.turns m p l = D.left r.1) ∧ H' = H, ⟨D.owners.length, ⟨r.1, -1, _, _, rfl, p0, by omega, rfl⟩, rfl⟩, ?_⟩
    rintro m σ H' ⟨⟨p, l, q4, q5, rfl, hp0, hm, hg⟩, rfl⟩
    rcases posts_val hpp p with ⟨e1, e2⟩ | ⟨q, en, t, e1, e2, ht⟩
    · refine ⟨_, rfl, _, rfl, a, _, dx, _, _, rfl, ho, T.c_Store, T.na_Store__posts, st_posts _ _ _, SA'.po, _, rfl, DGet.k (k := .inl p) hpo, _, rfl, iteE (by rw [e2]; rfl) ?_⟩
      have el : l = D.left r.1 := by
        rw [← hg]
        cases m with
        | zero => rfl
        | succ m => simp only [leftG, e1]
      refine ⟨_, rfl, ?_⟩
      rw [el]
      exact k
    · refine ⟨_, rfl, _, rfl, a, _, dx, _, _, rfl, ho, T.c_Store, T.na_Store__posts, st_posts _ _ _, SA'.po, _, rfl, DGet.k (k := .inl p) hpo, _, rfl, iteY (by rw [e2]; rfl) ?_⟩
      have g := DGet.k (k := .inl p) hpo
      rw [e2] at g
      have hb1 := S.wf.pst _ (lookup_mem e1)
      obtain ⟨m, rfl⟩ : ∃ k, m = k + 1 := ⟨m - 1, by have h1 : q < D.owners.length := hb1.2.2; have h2 : p < q := hb1.2.1; omega⟩
      refine ⟨fun σ H2 => (∃ p l q4 q5, σ = [some (.ref a), some (.ref b), some (.int l), some (.int p), q4, q5] ∧ 0 ≤ p ∧ (D.owners.length : Int) ≤ p + m ∧ leftG D.posts D.turns m p l = D.left r.1) ∧ H2 = H', fun σ' H' h => ⟨m, Nat.lt_succ_self _, h⟩, ?_⟩
      refine ⟨_, rfl, a, _, dx, _, _, rfl, ho, T.c_Store, T.na_Store__posts, st_posts _ _ _, _, rfl, SA'.po, _, rfl, g, t, _, rfl, SqT.of ht, rfl, _, _, rfl, _, _, rfl, rfl, ?_⟩
      refine ⟨_, rfl, _, rfl, a, _, dx, _, _, rfl, ho, T.c_Store, T.na_Store__turns, st_turns _ _ _, _, _, rfl, rfl, _, _, rfl, ?_⟩
      have hg2 := hg
      simp only [leftG, e1] at hg2
      have h1 : q < D.owners.length := hb1.2.2
      have h2 : p < q := hb1.2.1
      have emax : (if en - D.turns > 0 then en - D.turns else 0) = max 0 (en - D.turns) := by
        rw [Int.max_def]
        split <;> split <;> omega
      refine ⟨_, rfl, _, rfl, rfl, _, rfl, iteB (fun c => ?_) (fun c => ?_)⟩
      · have c1 : l = -1 := V.int.inj (of_decide_eq_true c)
        rw [if_pos c1] at hg2
        refine ⟨_, rfl, ⟨q, _, _, _, rfl, by omega, by omega, ?_⟩, rfl⟩
        rw [emax]
        exact hg2
      · have c1 : l ≠ -1 := fun z => of_decide_eq_false c (congrArg V.int z)
        rw [if_neg c1] at hg2
        refine ⟨_, rfl, _, rfl, _, _, rfl, ⟨q, _, _, _, rfl, by omega, by omega, ?_⟩, rfl⟩
        rw [emax]
        rw [Int.min_def] at hg2
        rw [← hg2]
        congr 1
        split <;> split <;> omega
end

end Hue

set_option Elab.async false
set_option linter.all false
set_option maxRecDepth 100000
set_option maxHeartbeats 1000000
set_option pp.maxSteps 3000
namespace Hue
open PySem PySem.Spec PyProof.Rows L2
local macro_rules | `(tactic| walk_at "hp") => `(tactic| first
  | assumption
  | exact upd_same
  | (refine upd_old (by assumption) ?_; walk_at "hp")
  | (refine upd_oth (by assumption) ?_; walk_at "hp")
  | (refine same_get (by assumption) ?_; walk_at "hp")
  | (refine Fl.get (by assumption) (by assumption) ?_; walk_at "hp"))
local macro_rules | `(tactic| walk_at "seq") => `(tactic| first
  | assumption
  | exact T.t_BARRIERS _
  | exact SqL.of (by walk_at "hp")
  | exact SqT.of (by walk_at "hp"))
local macro_rules | `(tactic| walk_at "len") => `(tactic| first
  | exact Or.inl (by walk_at "seq")
  | exact Or.inr (by walk_at "seq"))
local macro_rules | `(tactic| walk_at "at") => `(tactic| first
  | rfl
  | assumption)

/-! ### plain deeds -/
def gdH (rs : List Ph) (row : Int) : Int := match rs[row.toNat]? with
  | some q => q.hue
  | none => 0
def Sto.owner (D : Sto) (p : Int) : Int := D.owners.getD p.toNat 0
def Sto.placeOf (D : Sto) (t : Int) : Int := D.places.getD t.toNat 0
inductive LkR
  | ok (r : Rf)
  | stale
  | dropped
def Sto.look (rs : List Ph) (D : Sto) (r : Rf) : LkR :=
  if r.2 = gdH rs D.row ∧ D.left r.1 ≠ -1 then .stale else if r.2 ≠ gdH rs D.row ∧ D.left r.1 = 0 then .dropped else .ok (D.placeOf (D.owner r.1), gdH rs D.row)
def Sto.make (rs : List Ph) (D : Sto) (h : Nat) : Sto := { D with owners := D.owners ++ [(D.places.length : Int)], places := D.places ++ [(D.owners.length : Int)], hands := D.hands.set h (some ((D.owners.length : Int), gdH rs D.row)) }
def Sto.write (D : Sto) (j : Nat) (r : Rf) : Sto := { D with slots := D.slots.set j (some r) }
def Sto.hold (D : Sto) (h : Nat) (r : Rf) : Sto := { D with hands := D.hands.set h (some r) }
theorem gdH_some {rs : List Ph} {row : Int} {q : Ph} (h : rs[row.toNat]? = some q) : gdH rs row = q.hue := by unfold gdH; rw [h]
theorem Wf.make {rs : List Ph} {D : Sto} (w : Wf rs D) (hl : D.owners.length < 5000) (h : Nat) : Wf rs (D.make rs h) := by
  obtain ⟨r0, r1, vis, owe, few, fewP, fs, fh, pls, ows, rfs, pst, key, plN, owd, fq⟩ := w
  have lo : (D.make rs h).owners.length = D.owners.length + 1 := by simp [Sto.make]
  have lp : (D.make rs h).places.length = D.places.length + 1 := by simp [Sto.make]
  have nk : ∀ n : Int, (D.owners.length : Int) ≤ n → n ∉ D.posts.map (·.1) := fun n hn hm => by
    obtain ⟨p, hp, e⟩ := List.mem_map.mp hm
    have := pst p hp
    omega
  refine ⟨r0, r1, vis, ?_, by rw [lo]; omega, by rw [lo, lp]; omega, fs, ?_, fun p hp => ?_, fun t ht => ?_, fun r hr => ?_, fun p hp => ?_, key, ?_, fun i m hm => ?_, by show D.posts.length ≤ _; rw [lo]; omega⟩
  · show D.owed.length = (D.hands.set h _).length
    rw [List.length_set]; exact owe
  · show (D.hands.set h _).length ≤ 64
    rw [List.length_set]; exact fh
  · rcases List.mem_append.mp hp with z | z
    · obtain ⟨a, b, c⟩ := pls p z
      exact ⟨a, by rw [lo]; omega, c⟩
    · rw [List.mem_singleton.mp z, lo]
      exact ⟨by omega, by omega, nk _ (Int.le_refl _)⟩
  · rw [lp]
    rcases List.mem_append.mp ht with z | z
    · have := ows t z
      omega
    · rw [List.mem_singleton.mp z]
      omega
  · rw [lo]
    rcases hr with z | z
    · have := rfs r (.inl z)
      omega
    · have z : some r ∈ D.hands.set h (some ((D.owners.length : Int), gdH rs D.row)) := z
      rcases List.mem_or_eq_of_mem_set z with z | z
      · have := rfs r (.inr z)
        omega
      · cases z
        show 0 ≤ (D.owners.length : Int) ∧ _
        omega
  · have := pst p hp
    rw [lo]
    omega
  · show (D.places ++ [(D.owners.length : Int)]).Nodup
    rw [List.nodup_append]
    refine ⟨plN, by simp, fun a ha b hb => ?_⟩
    rw [List.mem_singleton.mp hb]
    have := pls a ha
    omega
  · obtain ⟨a, b, r, hr⟩ := owd i m hm
    refine ⟨a, b, ?_⟩
    show ∃ r, (D.hands.set h _)[i]? = some (some r)
    by_cases e : h = i
    · subst e
      rw [List.getElem?_set_self (List.getElem?_eq_some_iff.mp hr).1]
      exact ⟨_, rfl⟩
    · rw [List.getElem?_set_ne e]
      exact ⟨r, hr⟩
theorem Wf.write {rs : List Ph} {D : Sto} (w : Wf rs D) (j : Nat) (r : Rf) (hr : 0 ≤ r.1 ∧ r.1 < D.owners.length) : Wf rs (D.write j r) := by
  obtain ⟨r0, r1, vis, owe, few, fewP, fs, fh, pls, ows, rfs, pst, key, plN, owd, fq⟩ := w
  refine ⟨r0, r1, ?_, owe, few, fewP, ?_, fh, pls, ows, fun q hq => ?_, pst, key, plN, fun i m hm => ?_, fq⟩
  · show D.seen.length = (D.slots.set j _).length
    rw [List.length_set]; exact vis
  · show (D.slots.set j _).length ≤ 64
    rw [List.length_set]; exact fs
  · rcases hq with z | z
    · have z : some q ∈ D.slots.set j (some r) := z
      rcases List.mem_or_eq_of_mem_set z with z | z
      · exact rfs q (.inl z)
      · cases z; exact hr
    · exact rfs q (.inr z)
  · obtain ⟨a, ⟨b, hb⟩, c⟩ := owd i m hm
    refine ⟨a, ?_, c⟩
    show ∃ r', (D.slots.set j _)[m.slot.toNat]? = some (some r')
    by_cases e : j = m.slot.toNat
    · subst e
      rw [List.getElem?_set_self (List.getElem?_eq_some_iff.mp hb).1]
      exact ⟨_, rfl⟩
    · rw [List.getElem?_set_ne e]
      exact ⟨b, hb⟩
theorem Wf.hold {rs : List Ph} {D : Sto} (w : Wf rs D) (h : Nat) (r : Rf) (hr : 0 ≤ r.1 ∧ r.1 < D.owners.length) : Wf rs (D.hold h r) := by
  obtain ⟨r0, r1, vis, owe, few, fewP, fs, fh, pls, ows, rfs, pst, key, plN, owd, fq⟩ := w
  refine ⟨r0, r1, vis, ?_, few, fewP, fs, ?_, pls, ows, fun q hq => ?_, pst, key, plN, fun i m hm => ?_, fq⟩
  · show D.owed.length = (D.hands.set h _).length
    rw [List.length_set]; exact owe
  · show (D.hands.set h _).length ≤ 64
    rw [List.length_set]; exact fh
  · rcases hq with z | z
    · exact rfs q (.inl z)
    · have z : some q ∈ D.hands.set h (some r) := z
      rcases List.mem_or_eq_of_mem_set z with z | z
      · exact rfs q (.inr z)
      · cases z; exact hr
  · obtain ⟨a, b, r', hr'⟩ := owd i m hm
    refine ⟨a, b, ?_⟩
    show ∃ r', (D.hands.set h _)[i]? = some (some r')
    by_cases e : h = i
    · subst e
      rw [List.getElem?_set_self (List.getElem?_eq_some_iff.mp hr').1]
      exact ⟨_, rfl⟩
    · rw [List.getElem?_set_ne e]
      exact ⟨r', hr'⟩
theorem Wf.look {rs : List Ph} {D : Sto} (w : Wf rs D) (ok : ∀ r ∈ rs, r.Ok) {r : Rf} (h0 : 0 ≤ r.1) (h1 : r.1 < D.owners.length) :
    ∃ t p, D.owners[r.1.toNat]? = some t ∧ D.places[t.toNat]? = some p ∧ 0 ≤ t ∧ t < D.places.length ∧ 0 ≤ p ∧ p < D.owners.length ∧ D.owner r.1 = t ∧ D.placeOf t = p := by
  obtain ⟨t, ht, mt⟩ := mem_get (xs := D.owners) (i := r.1.toNat) (by omega)
  obtain ⟨t0, t1⟩ := w.ows t mt
  obtain ⟨p, hp, mp⟩ := mem_get (xs := D.places) (i := t.toNat) (by omega)
  obtain ⟨p0, p1, _⟩ := w.pls p mp
  refine ⟨t, p, ht, hp, t0, t1, p0, p1, ?_, ?_⟩
  · unfold Sto.owner; rw [List.getD_eq_getElem?_getD, ht]; rfl
  · unfold Sto.placeOf; rw [List.getD_eq_getElem?_getD, hp]; rfl

end Hue

set_option Elab.async false
set_option linter.all false
set_option maxRecDepth 100000
set_option maxHeartbeats 1000000
set_option pp.maxSteps 3000
namespace Hue
open PySem PySem.Spec PyProof.Rows L2
local macro_rules | `(tactic| walk_at "hp") => `(tactic| first
  | assumption
  | exact upd_same
  | (refine upd_old (by assumption) ?_; walk_at "hp")
  | (refine upd_oth (by assumption) ?_; walk_at "hp")
  | (refine same_get (by assumption) ?_; walk_at "hp")
  | (refine Fl.get (by assumption) (by assumption) ?_; walk_at "hp"))
local macro_rules | `(tactic| walk_at "seq") => `(tactic| first
  | assumption
  | exact T.t_BARRIERS _
  | exact SqL.of (by walk_at "hp")
  | exact SqT.of (by walk_at "hp"))
local macro_rules | `(tactic| walk_at "len") => `(tactic| first
  | exact Or.inl (by walk_at "seq")
  | exact Or.inr (by walk_at "seq"))
local macro_rules | `(tactic| walk_at "at") => `(tactic| first
  | rfl
  | assumption)

/-! ### questions, look, make, write, read -/
def spLook (K : PySem.W.Frag) : Sp := fun vs H Q E => ∃ s A rs D, ∃ (a : Addr) (r : Rf) (n : Int), StA K vs H s A rs D [.ref a, .int n] ∧ RfAt K H a r.1 r.2 ∧ 0 ≤ r.1 ∧ r.1 < D.owners.length ∧
  (D.look rs r = .stale → EWr K H E "Stale" "slot" n (D.owner r.1)) ∧ (D.look rs r = .dropped → EWr K H E "Dropped" "slot" n (D.owner r.1)) ∧ ∀ q, D.look rs r = .ok q → 0 ≤ q.1 → q.1 < D.owners.length → ∀ v H', Same H H' → RefO K H' v (some q) → Q v H'
def spMake (K : PySem.W.Frag) : Sp := fun vs H Q E => ∃ s A rs D n, StA K vs H s A rs D [.int n] ∧ D.owners.length < 5000 ∧ (¬ (0 ≤ n ∧ n < D.hands.length) → ERef K H E "NoSuch" "hand" n) ∧
  (0 ≤ n → (∀ m, D.owed[n.toNat]? = some (some m) → ERef K H E "Busy" "hand" n) ∧ (D.owed[n.toNat]? = some none → ∀ H', Fls (s :: A.own) H H' → StoreAt K H' s A rs (D.make rs n.toNat) → Q (.int (D.places.length : Nat)) H'))
def spWrite (K : PySem.W.Frag) : Sp := fun vs H Q E => ∃ s A rs D n j, StA K vs H s A rs D [.int n, .int j] ∧ (¬ (0 ≤ n ∧ n < D.hands.length) → ERef K H E "NoSuch" "hand" n) ∧
  ((0 ≤ n ∧ n < D.hands.length) → (¬ (0 ≤ j ∧ j < D.slots.length) → ERef K H E "NoSuch" "slot" j) ∧ ((0 ≤ j ∧ j < D.slots.length) → (∀ m, D.owed[n.toNat]? = some (some m) → ERef K H E "Busy" "hand" n) ∧
    (D.owed[n.toNat]? = some none → (D.hands[n.toNat]? = some none → ERef K H E "Empty" "hand" n) ∧ ∀ r, D.hands[n.toNat]? = some (some r) → ∀ H', Fls (s :: A.own) H H' → StoreAt K H' s A rs (D.write j.toNat r) → Q .non H')))
theorem paired_set {α β : Type} {F : α → β → Prop} {x : α} {y : β} (h : F x y) : ∀ {l₁ : List α} {l₂ : List β} {j : Nat}, Paired F l₁ l₂ → Paired F (l₁.set j x) (l₂.set j y)
  | _, _, _, .nil => .nil
  | _, _, 0, .cons _ t => .cons h t
  | _, _, j + 1, .cons a t => .cons a (paired_set h (j := j) t)
theorem ixN_nat {n j : Nat} (h : j < n) : ixN n (j : Int) = some j := by
  unfold ixN
  rw [if_pos (by omega), if_pos (by omega), Int.toNat_natCast]
theorem Fl.madeS {H H' : Hp} {x dx C : Addr} (nx : H x = none) (nd : H dx = none) (f : Fl x (L2.upd (L2.upd H dx (.own x)) x (.ins C dx [])) H') : Same H H' := fun a o h => by
  have n1 : a ≠ x := ne_of_none h nx
  exact f _ _ n1 (upd_oth n1 (upd_old nd h))
theorem StoreAt.ne {K : PySem.W.Frag} {H : Hp} {s : Addr} {A : SA} {rs : List Ph} {D : Sto} (S : StoreAt K H s A rs D) : (s ≠ A.bl ∧ s ≠ A.pl ∧ s ≠ A.ow ∧ s ≠ A.po ∧ s ≠ A.sl ∧ s ≠ A.vi ∧ s ≠ A.ha ∧ s ≠ A.me) ∧ (A.bl ≠ A.pl ∧ A.bl ≠ A.ow ∧ A.bl ≠ A.po ∧ A.bl ≠ A.sl ∧ A.bl ≠ A.vi ∧ A.bl ≠ A.ha ∧ A.bl ≠ A.me) ∧
    (A.pl ≠ A.ow ∧ A.pl ≠ A.po ∧ A.pl ≠ A.sl ∧ A.pl ≠ A.vi ∧ A.pl ≠ A.ha ∧ A.pl ≠ A.me) ∧ (A.ow ≠ A.po ∧ A.ow ≠ A.sl ∧ A.ow ≠ A.vi ∧ A.ow ≠ A.ha ∧ A.ow ≠ A.me) ∧ (A.po ≠ A.sl ∧ A.po ≠ A.vi ∧ A.po ≠ A.ha ∧ A.po ≠ A.me) ∧ (A.sl ≠ A.vi ∧ A.sl ≠ A.ha ∧ A.sl ≠ A.me) ∧ (A.vi ≠ A.ha ∧ A.vi ≠ A.me) ∧ A.ha ≠ A.me := by
  have h := S.nd
  simp only [SA.own, List.nodup_cons, List.mem_cons, List.not_mem_nil, not_or, or_false] at h
  obtain ⟨h0, h1, h2, h3, h4, h5, h6, h7, _⟩ := h
  exact ⟨h0, h1, h2, h3, h4, h5, h6, h7⟩
section
variable {P : Program} [SupP P pFile] {w : World} {K : PySem.W.Frag} {mg : Str → Option Value} {base : Heap}
theorem ok_Store_hand (T : Tx K mg) : FnOk P w K mg base (L2.CX P w) 5 (mad "Store" "hand" K) (fdD K (mad "Store" "hand" K)) P_Store_hand (spAsk K "hand" Sto.hands) := by
  refine T.F_Store_hand.ok sc_Store_hand (fun vs H Q E h => ?_) (fun cdv A outer s H vs Q E hr h => ?_)
  · obtain ⟨s, A, rs, D, n, ⟨rfl, _⟩, _⟩ := h; rfl
  · obtain ⟨a, SA', rs, D, n, ⟨rfl, S⟩, k1, k2⟩ := h
    refine ⟨_, (pss_cons (ps_expr (pe_meth (pv 0) T.c_Store T.m_Storecheck (ok_Storecheck (P := P) T) (hr.mono (by decide)) (bd_Storecheck T) .nil (passes_call (takes_of rfl rfl rfl rfl) (fun _ _ _ _ z => z)) (pa_cons pe_str (pa_cons (pv 1) (pa_cons (pe_callB call_len_seq (by rfl) T.n_len (by decide +kernel) (pa_cons (pe_fld (pv 0) rfl) pa_nil)) pa_nil)))))
      (pss_one (ps_ret (pe_ix ix_list (pe_fld (pv 0) rfl) (pv 1) (fun _ _ => rfl))))), ?_⟩
    obtain ⟨dx, ho⟩ := S.ob
    obtain ⟨xs, hx, hp⟩ := S.ha
    have el : xs.length = D.hands.length := Paired.length hp
    refine ⟨_, rfl, a, dx, _, rfl, ho, st_no _ _ _ (by decide +kernel), _, rfl, _, rfl, a, _, dx, _, _, rfl, ho, T.c_Store, T.na_Store__hands, st_hands _ _ _, _, _, rfl, .inl (SqL.of hx), a, "hand", _, _, rfl, fun z => ?_, fun z => k2 (by rw [← el]; exact z)⟩
    rw [el] at z
    have hl : n.toNat < D.hands.length := by omega
    have eo := List.getElem?_eq_getElem hl
    obtain ⟨v, hv, rv⟩ := paired_get hp eo
    exact ⟨_, rfl, a, _, dx, _, _, rfl, ho, T.c_Store, T.na_Store__hands, st_hands _ _ _, _, rfl, _, _, _, _, rfl, rfl, SqL.of hx, atI_nat' z.1 hv, k1 z _ eo v rv⟩
theorem ok_Store_place_of (T : Tx K mg) : FnOk P w K mg base (L2.CX P w) 5 (mad "Store" "place_of" K) (fdD K (mad "Store" "place_of" K)) P_Store_place_of (spPlaceOf K) := by
  refine T.F_Store_place_of.ok sc_Store_place_of (fun vs H Q E h => ?_) (fun cdv A outer s H vs Q E hr h => ?_)
  · obtain ⟨s, A, rs, D, n, ⟨rfl, _⟩, _⟩ := h; rfl
  · obtain ⟨a, SA', rs, D, n, ⟨rfl, S⟩, k1, k2⟩ := h
    refine ⟨_, (pss_cons (ps_expr (pe_meth (pv 0) T.c_Store T.m_Storecheck (ok_Storecheck (P := P) T) (hr.mono (by decide)) (bd_Storecheck T) .nil (passes_call (takes_of rfl rfl rfl rfl) (fun _ _ _ _ z => z)) (pa_cons pe_str (pa_cons (pv 1) (pa_cons (pe_callB call_len_seq (by rfl) T.n_len (by decide +kernel) (pa_cons (pe_fld (pv 0) rfl) pa_nil)) pa_nil)))))
      (pss_one (ps_ret (pe_ix ix_list (pe_fld (pv 0) rfl) (pv 1) (fun _ _ => rfl))))), ?_⟩
    obtain ⟨dx, ho⟩ := S.ob
    have el : (D.places.map V.int).length = D.places.length := List.length_map ..
    refine ⟨_, rfl, a, dx, _, rfl, ho, st_no _ _ _ (by decide +kernel), _, rfl, _, rfl, a, _, dx, _, _, rfl, ho, T.c_Store, T.na_Store__places, st_places _ _ _, _, _, rfl, .inl (SqL.of S.pl), a, "thing", _, _, rfl, fun z => ?_, fun z => k2 (by rw [← el]; exact z)⟩
    rw [el] at z
    have hl : n.toNat < D.places.length := by omega
    have eo := List.getElem?_eq_getElem hl
    exact ⟨_, rfl, a, _, dx, _, _, rfl, ho, T.c_Store, T.na_Store__places, st_places _ _ _, _, rfl, _, _, _, _, rfl, rfl, SqL.of S.pl, int_at z.1 eo, k1 z _ eo⟩
theorem ok_Store_row (T : Tx K mg) : FnOk P w K mg base CX0 1 (pad "property" "Store" "row" K) (fdD K (pad "property" "Store" "row" K)) P_Store_row (spTell K fun D => .int D.row) := by
  refine T.F_Store_row.ok sc_Store_row (fun vs H Q E h => ?_) (fun cdv A outer s H vs Q E hr h => ?_)
  · obtain ⟨s, A, rs, D, ⟨rfl, _⟩, _⟩ := h; rfl
  · obtain ⟨a, SA', rs, D, ⟨rfl, S⟩, k⟩ := h
    refine ⟨_, PSs.nox ((pss_one (ps_ret (pe_fld (pv 0) rfl)))), ?_⟩
    obtain ⟨dx, ho⟩ := S.ob
    exact ⟨_, rfl, a, _, dx, _, _, rfl, ho, T.c_Store, T.na_Store__row, st_row _ _ _, k⟩
theorem ok_Store_turns (T : Tx K mg) : FnOk P w K mg base CX0 1 (pad "property" "Store" "turns" K) (fdD K (pad "property" "Store" "turns" K)) P_Store_turns (spTell K fun D => .int D.turns) := by
  refine T.F_Store_turns.ok sc_Store_turns (fun vs H Q E h => ?_) (fun cdv A outer s H vs Q E hr h => ?_)
  · obtain ⟨s, A, rs, D, ⟨rfl, _⟩, _⟩ := h; rfl
  · obtain ⟨a, SA', rs, D, ⟨rfl, S⟩, k⟩ := h
    refine ⟨_, PSs.nox ((pss_one (ps_ret (pe_fld (pv 0) rfl)))), ?_⟩
    obtain ⟨dx, ho⟩ := S.ob
    exact ⟨_, rfl, a, _, dx, _, _, rfl, ho, T.c_Store, T.na_Store__turns, st_turns _ _ _, k⟩
theorem ok_Store_things (T : Tx K mg) : FnOk P w K mg base CX0 2 (pad "property" "Store" "things" K) (fdD K (pad "property" "Store" "things" K)) P_Store_things (spTell K fun D => .int (D.places.length : Nat)) := by
  refine T.F_Store_things.ok sc_Store_things (fun vs H Q E h => ?_) (fun cdv A outer s H vs Q E hr h => ?_)
  · obtain ⟨s, A, rs, D, ⟨rfl, _⟩, _⟩ := h; rfl
  · obtain ⟨a, SA', rs, D, ⟨rfl, S⟩, k⟩ := h
    refine ⟨_, PSs.nox ((pss_one (ps_ret (pe_callB call_len_seq (by rfl) T.n_len (by decide +kernel) (pa_cons (pe_fld (pv 0) rfl) pa_nil))))), ?_⟩
    obtain ⟨dx, ho⟩ := S.ob
    refine ⟨_, rfl, a, _, dx, _, _, rfl, ho, T.c_Store, T.na_Store__places, st_places _ _ _, _, _, rfl, .inl (SqL.of S.pl), ?_⟩
    rw [List.length_map]
    exact k
theorem ok_Storelook (T : Tx K mg) : FnOk P w K mg base (L2.CX P w) 5 (mad "Store" "_look" K) (fdD K (mad "Store" "_look" K)) P_Storelook (spLook K) := by
  refine T.F_Storelook.ok sc_Storelook (fun vs H Q E h => ?_) (fun cdv A outer s H vs Q E hr h => ?_)
  · obtain ⟨s, A, rs, D, b, r, n, ⟨rfl, _⟩, _⟩ := h; rfl
  · obtain ⟨a, SA', rs, D, b, r, n, ⟨rfl, S⟩, hb, p0, p1, k1, k2, k3⟩ := h
    refine ⟨_, (pss_cons (ps_set (i := 3) sc_Storelook.nd rfl (Or.inl rfl) (pe_meth (pv 0) T.c_Store T.m_Storeleft (ok_Storeleft (P := P) T) (hr.mono (by decide)) (bd_Storeleft T) .nil pass0 (pa_cons (pv 1) pa_nil)))
      (pss_cons (ps_set (i := 4) sc_Storelook.nd rfl (Or.inl rfl) (pe_fld (pe_ixO T.o_Book_getitem (fr_Book_getitem (P := P) T) (hr.mono (by decide)) pass0 (pe_fld (pv 0) rfl) (pe_fld (pv 0) rfl)) rfl))
      (pss_cons (ps_set (i := 5) sc_Storelook.nd rfl (Or.inl rfl) (pe_ix ix_list (pe_fld (pv 0) rfl) (pe_fld (pv 1) rfl) (fun _ _ => rfl)))
      (pss_cons (ps_if (PW.pt (pw_and (pt_cmpR op_eq (pe_fld (pv 1) rfl) (pv 4) (nomark _)) (pw_and1 (pt_cmpR op_ne (pv 3) (pe_un un_neg pe_int) (nomark _))))) (pss_one (ps_raise rfl (takes_of rfl rfl rfl rfl) (pmk_oex T.ox_Stale T.ei_Stale.1 T.ei_Stale.2 (ok_Stale_init (P := P) T) (hr.mono (by decide)) (bd_Wrong_init T) .nil pass0 rfl T.g_Stale (pa_cons pe_str (pa_cons (pv 2) (pa_cons (pv 5) pa_nil)))))) pss_nil)
      (pss_cons (ps_if (PW.pt (pw_and (pt_cmpR op_ne (pe_fld (pv 1) rfl) (pv 4) (nomark _)) (pw_and1 (pt_cmpR op_eq (pv 3) pe_int (nomark _))))) (pss_one (ps_raise rfl (takes_of rfl rfl rfl rfl) (pmk_oex T.ox_Dropped T.ei_Dropped.1 T.ei_Dropped.2 (ok_Dropped_init (P := P) T) (hr.mono (by decide)) (bd_Wrong_init T) .nil pass0 rfl T.g_Dropped (pa_cons pe_str (pa_cons (pv 2) (pa_cons (pv 5) pa_nil)))))) pss_nil)
      (pss_one (ps_ret (pe_make T.mk_Ref (ok_Ref_init (P := P) T) (hr.mono (by decide)) rfl T.g_Ref (bd_Ref_init T) .nil pass0 (pa_cons (pe_ix ix_list (pe_fld (pv 0) rfl) (pv 5) (fun _ _ => rfl)) (pa_cons (pv 4) pa_nil)))))))))), ?_⟩
    obtain ⟨dx, ho⟩ := S.ob
    obtain ⟨db, hb'⟩ := id hb
    obtain ⟨dk, hk⟩ := S.bk.bk
    obtain ⟨t, p, ht, hp, t0, t1, q0, q1, et, ep⟩ := S.wf.look S.bk.ok p0 p1
    refine ⟨_, rfl, a, dx, _, rfl, ho, st_no _ _ _ (by decide +kernel), _, rfl, a, SA', rs, D, b, r, ⟨rfl, S⟩, hb, p0, ?_⟩
    refine ⟨_, rfl, a, _, dx, _, _, rfl, ho, T.c_Store, T.na_Store__book, st_book _ _ _, _, rfl, a, _, dx, _, _, rfl, ho, T.c_Store, T.na_Store__row, st_row _ _ _, SA'.b, dk, _, rfl, hk, SA'.b, SA'.bl, rs, D.row, rfl, S.bk, fun c q hq okq ⟨dc, hc⟩ => ?_⟩
    rw [Int.emod_eq_of_lt S.wf.r0 S.wf.r1] at hq
    have eg : gdH rs D.row = q.hue := gdH_some hq
    refine ⟨c, _, dc, _, _, rfl, hc, T.c_Phase, T.na_Phase_hue, ph_hue q, ?_⟩
    refine ⟨_, rfl, a, _, dx, _, _, rfl, ho, T.c_Store, T.na_Store__owners, st_owners _ _ _, _, rfl, b, _, db, _, _, rfl, hb', T.c_Ref, T.na_Ref_place, rf_place _ _, _, _, _, _, rfl, rfl, SqL.of S.ow, int_at p0 ht, ?_⟩
    have ei : ∀ {i j : Int}, decide (V.int i = V.int j) = decide (i = j) := fun {i j} => by
      by_cases e : i = j
      · rw [e]; simp
      · rw [decide_eq_false e, decide_eq_false fun z => e (V.int.inj z)]
    have big : ∀ p : Int, 0 ≤ p → p < D.owners.length → p.toNat < 2 ^ 210 := fun p h1 h2 => Nat.lt_of_lt_of_le (m := 5001) (by have := S.wf.few; omega) (by decide)
    by_cases c1 : r.2 = q.hue
    · refine ⟨_, rfl, b, _, db, _, _, rfl, hb', T.c_Ref, T.na_Ref_hue, rf_hue _ _, _, rfl, rfl, _, rfl, iteY (by rw [ei]; exact decide_eq_true c1) ⟨_, rfl, _, rfl, rfl, _, rfl, ?_⟩⟩
      by_cases c2 : D.left r.1 = -1
      · refine iteE (by rw [ei, decide_eq_true c2]; rfl) ?_
        refine ⟨_, rfl, b, _, db, _, _, rfl, hb', T.c_Ref, T.na_Ref_hue, rf_hue _ _, _, rfl, rfl, _, rfl, iteE (by rw [ei, decide_eq_true c1]; rfl) (iteF ?_)⟩
        have el : D.look rs r = .ok (p, q.hue) := by
          unfold Sto.look
          rw [eg, if_neg (by simp [c2]), if_neg (by simp [c1]), et, ep]
        refine ⟨_, rfl, a, _, dx, _, _, rfl, ho, T.c_Store, T.na_Store__places, st_places _ _ _, _, rfl, _, _, _, _, rfl, rfl, SqL.of S.pl, int_at t0 hp, _, rfl, fun x dx' nx nd ne => ⟨x, dx', p, q.hue, rfl, upd_same, ⟨q0, big p q0 q1, okq.h0, by have := okq.h1; omega⟩, fun H3 f3 h3 => ⟨rfl, ?_⟩⟩⟩
        exact k3 _ el q0 q1 _ _ (Fl.madeS nx nd f3) ⟨x, rfl, ⟨dx', h3⟩, ⟨q0, big p q0 q1, okq.h0, by have := okq.h1; omega⟩⟩
      · refine iteY (by rw [ei, decide_eq_false c2]; rfl) ?_
        have el : D.look rs r = .stale := by
          unfold Sto.look
          rw [eg, if_pos ⟨c1, c2⟩]
        have k := k1 el
        rw [et] at k
        exact ⟨_, rfl, _, rfl, mkO3 k⟩
    · refine ⟨_, rfl, b, _, db, _, _, rfl, hb', T.c_Ref, T.na_Ref_hue, rf_hue _ _, _, rfl, rfl, _, rfl, iteE (by rw [ei]; exact decide_eq_false c1) (iteF ?_)⟩
      refine ⟨_, rfl, b, _, db, _, _, rfl, hb', T.c_Ref, T.na_Ref_hue, rf_hue _ _, _, rfl, rfl, _, rfl, iteY (by rw [ei, decide_eq_false c1]; rfl) ⟨_, rfl, rfl, _, rfl, ?_⟩⟩
      by_cases c2 : D.left r.1 = 0
      · refine iteY (by rw [ei, decide_eq_true c2]) ?_
        have el : D.look rs r = .dropped := by
          unfold Sto.look
          rw [eg, if_neg (by simp [c1]), if_pos ⟨c1, c2⟩]
        have k := k2 el
        rw [et] at k
        exact ⟨_, rfl, _, rfl, mkO3 k⟩
      · refine iteE (by rw [ei, decide_eq_false c2]) ?_
        have el : D.look rs r = .ok (p, q.hue) := by
          unfold Sto.look
          rw [eg, if_neg (by simp [c1]), if_neg (by simp [c2]), et, ep]
        refine ⟨_, rfl, a, _, dx, _, _, rfl, ho, T.c_Store, T.na_Store__places, st_places _ _ _, _, rfl, _, _, _, _, rfl, rfl, SqL.of S.pl, int_at t0 hp, _, rfl, fun x dx' nx nd ne => ⟨x, dx', p, q.hue, rfl, upd_same, ⟨q0, big p q0 q1, okq.h0, by have := okq.h1; omega⟩, fun H3 f3 h3 => ⟨rfl, ?_⟩⟩⟩
        exact k3 _ el q0 q1 _ _ (Fl.madeS nx nd f3) ⟨x, rfl, ⟨dx', h3⟩, ⟨q0, big p q0 q1, okq.h0, by have := okq.h1; omega⟩⟩
end

end Hue

set_option Elab.async false
set_option linter.all false
set_option maxRecDepth 100000
set_option maxHeartbeats 1000000
set_option pp.maxSteps 3000
namespace Hue
open PySem PySem.Spec PyProof.Rows L2
local macro_rules | `(tactic| walk_at "hp") => `(tactic| first
  | assumption
  | exact upd_same
  | (refine upd_old (by assumption) ?_; walk_at "hp")
  | (refine upd_oth (by assumption) ?_; walk_at "hp")
  | (refine same_get (by assumption) ?_; walk_at "hp")
  | (refine Fl.get (by assumption) (by assumption) ?_; walk_at "hp"))
local macro_rules | `(tactic| walk_at "seq") => `(tactic| first
  | assumption
  | exact T.t_BARRIERS _
  | exact SqL.of (by walk_at "hp")
  | exact SqT.of (by walk_at "hp"))
local macro_rules | `(tactic| walk_at "len") => `(tactic| first
  | exact Or.inl (by walk_at "seq")
  | exact Or.inr (by walk_at "seq"))
local macro_rules | `(tactic| walk_at "at") => `(tactic| first
  | rfl
  | assumption)

/-! ### make, write, read -/
theorem sseq_w {t u : TS} {D : Ends} {σ : L2.St} {H : Hp} (W : L2.St → Hp → Prop) (ht : ∀ D2 : Ends, (∀ σ H, W σ H → D2.nx σ H) → D2.rt = D.rt → D2.bk = D.bk → D2.ct = D.ct → t D2 σ H) (hu : ∀ σ H, W σ H → u D σ H) : tSeq t u D σ H := ht { D with nx := u D } hu rfl rfl rfl
theorem sif_val {c : TT} {t u : TS} {D : Ends} {σ : L2.St} {H : Hp} (b : Bool) (hc : ∀ R : Bool → Hp → Prop, R b H → c σ H R) (hy : b = true → t D σ H) (hn : b = false → u D σ H) : tIfS c t u D σ H := hc _ (by
  cases b with
  | true => exact iteT (hy rfl)
  | false => exact iteF (hn rfl))
theorem decI (i j : Int) : decide (V.int i = V.int j) = decide (i = j) := by
  by_cases e : i = j
  · rw [e]; simp
  · rw [decide_eq_false e, decide_eq_false fun z => e (V.int.inj z)]

section
variable {K : PySem.W.Frag} {H H' : Hp} {s : Addr} {A : SA} {rs : List Ph} {D : Sto}
theorem StoreAt.blN (S : StoreAt K H s A rs D) : A.bl ∉ s :: A.own := by
  have h := S.nd
  simp only [SA.own, List.nodup_cons, List.mem_cons, List.not_mem_nil, not_or, or_false] at h ⊢
  exact ⟨fun z => h.1.1 z.symm, h.2.1⟩
theorem StoreAt.poF (S : StoreAt K H s A rs D) (f : Fls (s :: A.own) H H') (e : ∀ o, H A.po = some o → H' A.po = some o) : ∃ kvs, H' A.po = some (.dK kvs) ∧ Paired (PoAt H') kvs D.posts := by
  obtain ⟨kvs, h1, h2⟩ := S.po
  exact ⟨kvs, e _ h1, L2.Paired.mapP h2 fun _ _ q => q.fls f S.chg⟩
theorem StoreAt.slF (S : StoreAt K H s A rs D) (f : Fls (s :: A.own) H H') (e : ∀ o, H A.sl = some o → H' A.sl = some o) : ∃ xs, H' A.sl = some (.lst xs) ∧ Paired (RefO K H') xs D.slots := by
  obtain ⟨kvs, h1, h2⟩ := S.sl
  exact ⟨kvs, e _ h1, L2.Paired.mapP h2 fun _ _ q => q.fls f S.chg⟩
theorem StoreAt.haF (S : StoreAt K H s A rs D) (f : Fls (s :: A.own) H H') (e : ∀ o, H A.ha = some o → H' A.ha = some o) : ∃ xs, H' A.ha = some (.lst xs) ∧ Paired (RefO K H') xs D.hands := by
  obtain ⟨kvs, h1, h2⟩ := S.ha
  exact ⟨kvs, e _ h1, L2.Paired.mapP h2 fun _ _ q => q.fls f S.chg⟩
theorem StoreAt.meF (S : StoreAt K H s A rs D) (f : Fls (s :: A.own) H H') (e : ∀ o, H A.me = some o → H' A.me = some o) : ∃ xs, H' A.me = some (.lst xs) ∧ Paired (MnO K H') xs D.owed := by
  obtain ⟨kvs, h1, h2⟩ := S.me
  exact ⟨kvs, e _ h1, L2.Paired.mapP h2 fun _ _ q => q.fls f S.chg⟩
theorem StoreAt.bkF (S : StoreAt K H s A rs D) (f : Fls (s :: A.own) H H') : BkAt K H' A.b A.bl rs := S.bk.fls f S.chg S.blN
end
def barR (rs : List Ph) (row : Int) : Bar := match rs[row.toNat]? with
  | some q => q.bar
  | none => .none
theorem barR_some {rs : List Ph} {row : Int} {q : Ph} (h : rs[row.toNat]? = some q) : barR rs row = q.bar := by unfold barR; rw [h]
def Sto.rd (rs : List Ph) (D : Sto) (r : Rf) : LkR := if barR rs D.row = .none then (if D.left r.1 = -1 then .ok r else .stale) else D.look rs r
def Sto.owes (D : Sto) (n : Nat) (m : Mnd) : Sto := { D with owed := D.owed.set n (some m) }
def Sto.read (rs : List Ph) (D : Sto) (n : Nat) (j : Int) (r q : Rf) : Sto :=
  if barR rs D.row ≠ .none ∧ r.2 ≠ gdH rs D.row ∧ barR rs D.row ≠ .follow then (D.hold n q).owes n ⟨j, r, barR rs D.row⟩ else D.hold n q
theorem Wf.owes {rs : List Ph} {D : Sto} (w : Wf rs D) (n : Nat) (m : Mnd) (h : 0 ≤ m.slot ∧ (∃ r, D.slots[m.slot.toNat]? = some (some r)) ∧ ∃ r, D.hands[n]? = some (some r)) : Wf rs (D.owes n m) := by
  obtain ⟨r0, r1, vis, owe, few, fewP, fs, fh, pls, ows, rfs, pst, key, plN, owd, fq⟩ := w
  refine ⟨r0, r1, vis, ?_, few, fewP, fs, fh, pls, ows, rfs, pst, key, plN, fun i m' hm => ?_, fq⟩
  · show (D.owed.set n _).length = D.hands.length
    rw [List.length_set]; exact owe
  · have hm : (D.owed.set n (some m))[i]? = some (some m') := hm
    by_cases e : n = i
    · subst e
      have hl : n < D.owed.length := by
        have := (List.getElem?_eq_some_iff.mp hm).1
        rw [List.length_set] at this; exact this
      rw [List.getElem?_set_self hl] at hm
      cases hm
      exact h
    · rw [List.getElem?_set_ne e] at hm
      exact owd i m' hm
def spRead (K : PySem.W.Frag) : Sp := fun vs H Q E => ∃ s A rs D n j, StA K vs H s A rs D [.int n, .int j] ∧ (¬ (0 ≤ n ∧ n < D.hands.length) → ERef K H E "NoSuch" "hand" n) ∧
  ((0 ≤ n ∧ n < D.hands.length) → (¬ (0 ≤ j ∧ j < D.slots.length) → ERef K H E "NoSuch" "slot" j) ∧ ((0 ≤ j ∧ j < D.slots.length) → (∀ m, D.owed[n.toNat]? = some (some m) → ERef K H E "Busy" "hand" n) ∧
    (D.owed[n.toNat]? = some none → (D.slots[j.toNat]? = some none → ERef K H E "Empty" "slot" j) ∧ ∀ r, D.slots[j.toNat]? = some (some r) →
      (D.rd rs r = .stale → EWr K H E "Stale" "slot" j (D.owner r.1)) ∧ (D.rd rs r = .dropped → EWr K H E "Dropped" "slot" j (D.owner r.1)) ∧ ∀ q, D.rd rs r = .ok q → ∀ v H', Fls (s :: A.own) H H' → StoreAt K H' s A rs (D.read rs n.toNat j r q) → RefO K H' v (some q) → Q v H')))
section
variable {P : Program} [SupP P pFile] {w : World} {K : PySem.W.Frag} {mg : Str → Option Value} {base : Heap}
theorem ok_Store_make (T : Tx K mg) : FnOk P w K mg base (L2.CX P w) 5 (mad "Store" "make" K) (fdD K (mad "Store" "make" K)) P_Store_make (spMake K) := by
  refine T.F_Store_make.ok sc_Store_make (fun vs H Q E h => ?_) (fun cdv A outer s H vs Q E hr h => ?_)
  · obtain ⟨s, A, rs, D, n, ⟨rfl, _⟩, _⟩ := h; rfl
  · obtain ⟨a, SA', rs, D, n, ⟨rfl, S⟩, few, k1, k2⟩ := h
    refine ⟨_, (pss_cons (ps_expr (pe_meth (pv 0) T.c_Store T.m_Storecheck (ok_Storecheck (P := P) T) (hr.mono (by decide)) (bd_Storecheck T) .nil (passes_call (takes_of rfl rfl rfl rfl) (fun _ _ _ _ z => z)) (pa_cons pe_str (pa_cons (pv 1) (pa_cons (pe_callB call_len_seq (by rfl) T.n_len (by decide +kernel) (pa_cons (pe_fld (pv 0) rfl) pa_nil)) pa_nil)))))
      (pss_cons (ps_expr (pe_meth (pv 0) T.c_Store T.m_Storecheck_idle (ok_Storecheck_idle (P := P) T) (hr.mono (by decide)) (bd_Storecheck_idle T) .nil (passes_call (takes_of rfl rfl rfl rfl) (fun _ _ _ _ z => z)) (pa_cons (pv 1) pa_nil)))
      (pss_cons (ps_set (i := 2) sc_Store_make.nd rfl (Or.inl rfl) (pe_callB call_len_seq (by rfl) T.n_len (by decide +kernel) (pa_cons (pe_fld (pv 0) rfl) pa_nil)))
      (pss_cons (ps_set (i := 3) sc_Store_make.nd rfl (Or.inl rfl) (pe_callB call_len_seq (by rfl) T.n_len (by decide +kernel) (pa_cons (pe_fld (pv 0) rfl) pa_nil)))
      (pss_cons (ps_expr (pe_bm PySem.F.plainAttrs_list PySem.F.slot_list_append PySem.F.type_list_append mt_append (pe_fld (pv 0) rfl) (pa_cons (pv 3) pa_nil)))
      (pss_cons (ps_expr (pe_bm PySem.F.plainAttrs_list PySem.F.slot_list_append PySem.F.type_list_append mt_append (pe_fld (pv 0) rfl) (pa_cons (pv 2) pa_nil)))
      (pss_cons (ps_asg (pe_make T.mk_Ref (ok_Ref_init (P := P) T) (hr.mono (by decide)) rfl T.g_Ref (bd_Ref_init T) .nil pass0 (pa_cons (pv 2) (pa_cons (pe_fld (pe_ixO T.o_Book_getitem (fr_Book_getitem (P := P) T) (hr.mono (by decide)) pass0 (pe_fld (pv 0) rfl) (pe_fld (pv 0) rfl)) rfl) pa_nil))) (pg_sub (pe_fld (pv 0) rfl) (pv 1) set_list))
      (pss_one (ps_ret (pv 3)))))))))), ?_⟩
    obtain ⟨dx, ho⟩ := S.ob
    obtain ⟨xs, hx, hp⟩ := S.ha
    have el : xs.length = D.hands.length := Paired.length hp
    refine ⟨_, rfl, a, dx, _, rfl, ho, st_no _ _ _ (by decide +kernel), _, rfl, _, rfl, a, _, dx, _, _, rfl, ho, T.c_Store, T.na_Store__hands, st_hands _ _ _, _, _, rfl, .inl (SqL.of hx), a, "hand", _, _, rfl, fun z => ?_, fun z => k1 (by rw [← el]; exact z)⟩
    rw [el] at z
    obtain ⟨kb, kk⟩ := k2 z.1
    have en : ((n.toNat : Nat) : Int) = n := Int.toNat_of_nonneg z.1
    have hl : n.toNat < D.hands.length := by omega
    refine ⟨_, rfl, a, dx, _, rfl, ho, st_no _ _ _ (by decide +kernel), _, rfl, a, SA', rs, D, n.toNat, ⟨by rw [en]; rfl, S⟩, hl, fun e0 => ?_, fun m em => by rw [en]; exact kb m em⟩
    have k := kk e0
    refine ⟨_, rfl, a, _, dx, _, _, rfl, ho, T.c_Store, T.na_Store__owners, st_owners _ _ _, _, _, rfl, .inl (SqL.of S.ow), ?_⟩
    refine ⟨_, rfl, a, _, dx, _, _, rfl, ho, T.c_Store, T.na_Store__places, st_places _ _ _, _, _, rfl, .inl (SqL.of S.pl), ?_⟩
    rw [List.length_map, List.length_map]
    obtain ⟨⟨s0, s1, s2, s3, s4, s5, s6, s7⟩, ⟨b1, b2, b3, b4, b5, b6, b7⟩, ⟨c1, c2, c3, c4, c5, c6⟩, ⟨d1, d2, d3, d4, d5⟩, ⟨e1, e2, e3, e4⟩, ⟨f1, f2, f3⟩, ⟨g1, g2⟩, h1⟩ := S.ne
    have small : ∀ m : Nat, m < 5000 → m < sizeLine := fun m h => Nat.lt_of_lt_of_le h (by decide)
    have lp := S.wf.fewP
    refine ⟨_, rfl, a, _, dx, _, _, rfl, ho, T.c_Store, T.na_Store__owners, st_owners _ _ _, .inl ⟨rfl, _, SqL.of S.ow⟩, _, rfl, SA'.ow, _, _, rfl, rfl, S.ow, by rw [List.length_map]; exact small _ few, ?_⟩
    refine ⟨_, rfl, a, _, dx, _, _, rfl, upd_oth s2 ho, T.c_Store, T.na_Store__places, st_places _ _ _, .inl ⟨rfl, _, SqL.of (upd_oth c1 S.pl)⟩, _, rfl, SA'.pl, _, _, rfl, rfl, upd_oth c1 S.pl, by rw [List.length_map]; exact small _ (by omega), ?_⟩
    have F2 : Fls (a :: SA'.own) H (upd (upd H SA'.ow (.lst (D.owners.map V.int ++ [.int (D.places.length : Nat)]))) SA'.pl (.lst (D.places.map V.int ++ [.int (D.owners.length : Nat)]))) := (Fls.one Fl.cell (by simp [SA.own])).trans (Fls.one Fl.cell (by simp [SA.own]))
    have hpl2 : upd (upd H SA'.ow (.lst (D.owners.map V.int ++ [.int (D.places.length : Nat)]))) SA'.pl (.lst (D.places.map V.int ++ [.int (D.owners.length : Nat)])) SA'.pl = some (.lst ((D.make rs n.toNat).places.map V.int)) := by
      rw [upd_same]
      simp [Sto.make]
    have how2 : upd (upd H SA'.ow (.lst (D.owners.map V.int ++ [.int (D.places.length : Nat)]))) SA'.pl (.lst (D.places.map V.int ++ [.int (D.owners.length : Nat)])) SA'.ow = some (.lst ((D.make rs n.toNat).owners.map V.int)) := by
      rw [upd_ne c1.symm, upd_same]
      simp [Sto.make]
    have hx2 := upd_oth (u := .lst (D.places.map V.int ++ [.int (D.owners.length : Nat)])) c5.symm (upd_oth (u := .lst (D.owners.map V.int ++ [.int (D.places.length : Nat)])) d4.symm hx)
    have ho2 := upd_oth (u := .lst (D.places.map V.int ++ [.int (D.owners.length : Nat)])) s1 (upd_oth (u := .lst (D.owners.map V.int ++ [.int (D.places.length : Nat)])) s2 ho)
    have oth : ∀ x o, x ≠ SA'.ow → x ≠ SA'.pl → H x = some o → upd (upd H SA'.ow (.lst (D.owners.map V.int ++ [.int (D.places.length : Nat)]))) SA'.pl (.lst (D.places.map V.int ++ [.int (D.owners.length : Nat)])) x = some o := fun x o n1 n2 e => upd_oth n2 (upd_oth n1 e)
    generalize upd (upd H SA'.ow (.lst (D.owners.map V.int ++ [.int (D.places.length : Nat)]))) SA'.pl (.lst (D.places.map V.int ++ [.int (D.owners.length : Nat)])) = H2 at F2 hpl2 how2 hx2 ho2 oth ⊢
    have B2 := S.bkF F2
    obtain ⟨db, hb2⟩ := B2.bk
    refine ⟨_, rfl, _, rfl, a, _, dx, _, _, rfl, ho2, T.c_Store, T.na_Store__book, st_book _ _ _, _, rfl, a, _, dx, _, _, rfl, ho2, T.c_Store, T.na_Store__row, st_row _ _ _, SA'.b, db, _, rfl, hb2, SA'.b, SA'.bl, rs, D.row, rfl, B2, fun c q hq okq ⟨dc, hc⟩ => ⟨c, _, dc, _, _, rfl, hc, T.c_Phase, T.na_Phase_hue, ph_hue q, fun x dx' nx nd ne => ?_⟩⟩
    rw [Int.emod_eq_of_lt S.wf.r0 S.wf.r1] at hq
    have eg : gdH rs D.row = q.hue := gdH_some hq
    have rok : RfOk ((D.owners.length : Nat) : Int) q.hue := ⟨by omega, by rw [Int.toNat_natCast]; exact Nat.lt_of_lt_of_le few (by decide), okq.h0, by have := okq.h1; omega⟩
    refine ⟨x, dx', (D.owners.length : Nat), q.hue, rfl, upd_same, rok, fun H3 f3 h3 => ⟨rfl, ?_⟩⟩
    have S3 := Fl.madeS nx nd f3
    refine ⟨_, rfl, a, _, dx, _, _, rfl, S3 _ _ ho2, T.c_Store, T.na_Store__hands, st_hands _ _ _, _, rfl, SA'.ha, xs, _, n.toNat, rfl, rfl, S3 _ _ hx2, (by rw [← en]; exact ixN_nat (by omega)), ?_⟩
    have F4 : Fls (a :: SA'.own) H (upd H3 SA'.ha (.lst (xs.set n.toNat (.ref x)))) := (F2.trans (Fls.same S3)).trans (Fls.one Fl.cell (by simp [SA.own]))
    have hx4 : upd H3 SA'.ha (.lst (xs.set n.toNat (.ref x))) x = some (.ins (gad "Ref" K) dx' (rfF ((D.owners.length : Nat) : Int) q.hue)) := upd_oth (ne_of h3 (S3 _ _ hx2) (by intro z; cases z)) h3
    refine ⟨_, rfl, k _ F4 ?_⟩
    refine ⟨⟨dx, upd_oth s6 (S3 _ _ ho2)⟩, S.bkF F4, upd_oth c5 (S3 _ _ hpl2), upd_oth d4 (S3 _ _ how2), S.poF F4 fun o e => upd_oth e3 (S3 _ _ (oth _ _ d1.symm c2.symm e)), S.slF F4 fun o e => upd_oth f2 (S3 _ _ (oth _ _ d2.symm c3.symm e)), upd_oth g1 (S3 _ _ (oth _ _ d3.symm c4.symm S.vi)), ⟨_, upd_same, ?_⟩, S.meF F4 fun o e => upd_oth h1.symm (S3 _ _ (oth _ _ d5.symm c6.symm e)), S.nd, S.wf.make few _⟩
    refine paired_set ?_ (L2.Paired.mapP hp fun _ _ q => q.fls F4 S.chg)
    rw [eg]
    exact ⟨x, rfl, ⟨dx', hx4⟩, rok⟩
theorem ok_Store_write (T : Tx K mg) : FnOk P w K mg base (L2.CX P w) 5 (mad "Store" "write" K) (fdD K (mad "Store" "write" K)) P_Store_write (spWrite K) := by
  refine T.F_Store_write.ok sc_Store_write (fun vs H Q E h => ?_) (fun cdv A outer s H vs Q E hr h => ?_)
  · obtain ⟨s, A, rs, D, n, j, ⟨rfl, _⟩, _⟩ := h; rfl
  · obtain ⟨a, SA', rs, D, n, j, ⟨rfl, S⟩, k1, k2⟩ := h
    refine ⟨_, (pss_cons (ps_expr (pe_meth (pv 0) T.c_Store T.m_Storecheck (ok_Storecheck (P := P) T) (hr.mono (by decide)) (bd_Storecheck T) .nil (passes_call (takes_of rfl rfl rfl rfl) (fun _ _ _ _ z => z)) (pa_cons pe_str (pa_cons (pv 1) (pa_cons (pe_callB call_len_seq (by rfl) T.n_len (by decide +kernel) (pa_cons (pe_fld (pv 0) rfl) pa_nil)) pa_nil)))))
      (pss_cons (ps_expr (pe_meth (pv 0) T.c_Store T.m_Storecheck (ok_Storecheck (P := P) T) (hr.mono (by decide)) (bd_Storecheck T) .nil (passes_call (takes_of rfl rfl rfl rfl) (fun _ _ _ _ z => z)) (pa_cons pe_str (pa_cons (pv 2) (pa_cons (pe_callB call_len_seq (by rfl) T.n_len (by decide +kernel) (pa_cons (pe_fld (pv 0) rfl) pa_nil)) pa_nil)))))
      (pss_cons (ps_expr (pe_meth (pv 0) T.c_Store T.m_Storecheck_idle (ok_Storecheck_idle (P := P) T) (hr.mono (by decide)) (bd_Storecheck_idle T) .nil (passes_call (takes_of rfl rfl rfl rfl) (fun _ _ _ _ z => z)) (pa_cons (pv 1) pa_nil)))
      (pss_one (ps_asg (pe_meth (pv 0) T.c_Store T.m_Storeheld (ok_Storeheld (P := P) T) (hr.mono (by decide)) (bd_Storeheld T) .nil (passes_call (takes_of rfl rfl rfl rfl) (fun _ _ _ _ z => z)) (pa_cons (pv 1) pa_nil)) (pg_sub (pe_fld (pv 0) rfl) (pv 2) set_list)))))), ?_⟩
    obtain ⟨dx, ho⟩ := S.ob
    obtain ⟨xs, hx, hp⟩ := S.ha
    obtain ⟨ys, hy, hq⟩ := S.sl
    have el : xs.length = D.hands.length := Paired.length hp
    have el2 : ys.length = D.slots.length := Paired.length hq
    refine ⟨_, rfl, a, dx, _, rfl, ho, st_no _ _ _ (by decide +kernel), _, rfl, _, rfl, a, _, dx, _, _, rfl, ho, T.c_Store, T.na_Store__hands, st_hands _ _ _, _, _, rfl, .inl (SqL.of hx), a, "hand", _, _, rfl, fun z => ?_, fun z => k1 (by rw [← el]; exact z)⟩
    rw [el] at z
    obtain ⟨k3, k4⟩ := k2 z
    refine ⟨_, rfl, a, dx, _, rfl, ho, st_no _ _ _ (by decide +kernel), _, rfl, _, rfl, a, _, dx, _, _, rfl, ho, T.c_Store, T.na_Store__slots, st_slots _ _ _, _, _, rfl, .inl (SqL.of hy), a, "slot", _, _, rfl, fun zj => ?_, fun z => k3 (by rw [← el2]; exact z)⟩
    rw [el2] at zj
    obtain ⟨kb, k5⟩ := k4 zj
    have en : ((n.toNat : Nat) : Int) = n := Int.toNat_of_nonneg z.1
    have ej : ((j.toNat : Nat) : Int) = j := Int.toNat_of_nonneg zj.1
    have hl : n.toNat < D.hands.length := by omega
    refine ⟨_, rfl, a, dx, _, rfl, ho, st_no _ _ _ (by decide +kernel), _, rfl, a, SA', rs, D, n.toNat, ⟨by rw [en]; rfl, S⟩, hl, fun e0 => ?_, fun m em => by rw [en]; exact kb m em⟩
    obtain ⟨ke, kk⟩ := k5 e0
    refine ⟨_, rfl, a, dx, _, rfl, ho, st_no _ _ _ (by decide +kernel), _, rfl, a, SA', rs, D, n.toNat, ⟨by rw [en]; rfl, S⟩, fun r er v rv => ?_, hl, fun er => by rw [en]; exact ke er⟩
    obtain ⟨⟨s0, s1, s2, s3, s4, s5, s6, s7⟩, ⟨b1, b2, b3, b4, b5, b6, b7⟩, ⟨c1, c2, c3, c4, c5, c6⟩, ⟨d1, d2, d3, d4, d5⟩, ⟨e1, e2, e3, e4⟩, ⟨f1, f2, f3⟩, ⟨g1, g2⟩, h1⟩ := S.ne
    have f : Fls (a :: SA'.own) H (upd H SA'.sl (.lst (ys.set j.toNat v))) := Fls.one (Fl.cell) (by simp [SA.own])
    have rg := S.wf.rfs r (.inr (List.mem_of_getElem? er))
    refine ⟨_, rfl, a, _, dx, _, _, rfl, ho, T.c_Store, T.na_Store__slots, st_slots _ _ _, _, rfl, SA'.sl, ys, _, j.toNat, rfl, rfl, hy, (by rw [← ej]; exact ixN_nat (by omega)), ?_⟩
    refine kk r er _ f ⟨⟨dx, upd_oth s4 ho⟩, S.bkF f, upd_oth c3 S.pl, upd_oth d2 S.ow, S.poF f fun o e => upd_oth e1 e, ⟨_, upd_same, paired_set (rv.fls f S.chg) (L2.Paired.mapP hq fun _ _ q => q.fls f S.chg)⟩, upd_oth f1.symm S.vi, S.haF f fun o e => upd_oth f2.symm e, S.meF f fun o e => upd_oth f3.symm e, S.nd, S.wf.write _ _ rg⟩
theorem ok_Store_read (T : Tx K mg) : FnOk P w K mg base (L2.CX P w) 6 (mad "Store" "read" K) (fdD K (mad "Store" "read" K)) P_Store_read (spRead K) := by
  refine T.F_Store_read.ok sc_Store_read (fun vs H Q E h => ?_) (fun cdv A outer s H vs Q E hr h => ?_)
  · obtain ⟨s, A, rs, D, n, j, ⟨rfl, _⟩, _⟩ := h; rfl
  · obtain ⟨a, SA', rs, D, n, j, ⟨rfl, S⟩, k1, k2⟩ := h
    refine ⟨_, (pss_cons (ps_expr (pe_meth (pv 0) T.c_Store T.m_Storecheck (ok_Storecheck (P := P) T) (hr.mono (by decide)) (bd_Storecheck T) .nil (passes_call (takes_of rfl rfl rfl rfl) (fun _ _ _ _ z => z)) (pa_cons pe_str (pa_cons (pv 1) (pa_cons (pe_callB call_len_seq (by rfl) T.n_len (by decide +kernel) (pa_cons (pe_fld (pv 0) rfl) pa_nil)) pa_nil)))))
      (pss_cons (ps_expr (pe_meth (pv 0) T.c_Store T.m_Storecheck (ok_Storecheck (P := P) T) (hr.mono (by decide)) (bd_Storecheck T) .nil (passes_call (takes_of rfl rfl rfl rfl) (fun _ _ _ _ z => z)) (pa_cons pe_str (pa_cons (pv 2) (pa_cons (pe_callB call_len_seq (by rfl) T.n_len (by decide +kernel) (pa_cons (pe_fld (pv 0) rfl) pa_nil)) pa_nil)))))
      (pss_cons (ps_expr (pe_meth (pv 0) T.c_Store T.m_Storecheck_idle (ok_Storecheck_idle (P := P) T) (hr.mono (by decide)) (bd_Storecheck_idle T) .nil (passes_call (takes_of rfl rfl rfl rfl) (fun _ _ _ _ z => z)) (pa_cons (pv 1) pa_nil)))
      (pss_cons (ps_set (i := 3) sc_Store_read.nd rfl (Or.inl rfl) (pe_ix ix_list (pe_fld (pv 0) rfl) (pv 2) (fun _ _ => rfl)))
      (pss_cons (ps_if (pt_cmpR op_isN (pv 3) pe_non (nomark _)) (pss_one (ps_raise rfl (takes_of rfl rfl rfl rfl) (pmk_oex T.ox_Empty T.ei_Empty.1 T.ei_Empty.2 (ok_Empty_init (P := P) T) (hr.mono (by decide)) (bd_Refused_init T) .nil pass0 rfl T.g_Empty (pa_cons pe_str (pa_cons (pv 2) pa_nil))))) pss_nil)
      (pss_cons (ps_set (i := 4) sc_Store_read.nd rfl (Or.inl rfl) (pe_ixO T.o_Book_getitem (fr_Book_getitem (P := P) T) (hr.mono (by decide)) pass0 (pe_fld (pv 0) rfl) (pe_fld (pv 0) rfl)))
      (pss_cons (ps_if (pt_val (pe_prop (pv 4) T.c_Phase T.p_Phase_looks (ok_Phase_looks (P := P) T) (hr.mono (by decide)) (bd_Phase_looks T) .nil pass0 rfl)) (pss_cons (ps_set (i := 5) sc_Store_read.nd rfl (Or.inl rfl) (pe_meth (pv 0) T.c_Store T.m_Storelook (ok_Storelook (P := P) T) (hr.mono (by decide)) (bd_Storelook T) .nil (passes_call (takes_of rfl rfl rfl rfl) (fun _ _ _ _ z => z)) (pa_cons (pv 3) (pa_cons (pv 2) pa_nil))))
      (pss_one (ps_if (PW.pt (pw_and (pt_cmpR op_ne (pe_fld (pv 3) rfl) (pe_fld (pv 4) rfl) (nomark _)) (pw_and1 (pt_cmpR op_ne (pe_fld (pv 4) rfl) pe_str (nomark _))))) (pss_one (ps_asg (pe_tup (pa_cons (pv 2) (pa_cons (pv 3) (pa_cons (pe_fld (pv 4) rfl) pa_nil)))) (pg_sub (pe_fld (pv 0) rfl) (pv 1) set_list))) pss_nil))) (pss_one (ps_if (pt_cmpR op_ne (pe_meth (pv 0) T.c_Store T.m_Storeleft (ok_Storeleft (P := P) T) (hr.mono (by decide)) (bd_Storeleft T) .nil pass0 (pa_cons (pv 3) pa_nil)) (pe_un un_neg pe_int) (nomark _)) (pss_one (ps_raise rfl (takes_of rfl rfl rfl rfl) (pmk_oex T.ox_Stale T.ei_Stale.1 T.ei_Stale.2 (ok_Stale_init (P := P) T) (hr.mono (by decide)) (bd_Wrong_init T) .nil pass0 rfl T.g_Stale (pa_cons pe_str (pa_cons (pv 2) (pa_cons (pe_ix ix_list (pe_fld (pv 0) rfl) (pe_fld (pv 3) rfl) (fun _ _ => rfl)) pa_nil)))))) (pss_one (ps_set (i := 5) sc_Store_read.nd rfl (Or.inl rfl) (pv 3))))))
      (pss_cons (ps_asg (pv 5) (pg_sub (pe_fld (pv 0) rfl) (pv 1) set_list))
      (pss_one (ps_ret (pv 5))))))))))), ?_⟩
    obtain ⟨dx, ho⟩ := S.ob
    obtain ⟨xs, hx, hp⟩ := S.ha
    obtain ⟨ys, hy, hq⟩ := S.sl
    have el : xs.length = D.hands.length := Paired.length hp
    have el2 : ys.length = D.slots.length := Paired.length hq
    refine ⟨_, rfl, a, dx, _, rfl, ho, st_no _ _ _ (by decide +kernel), _, rfl, _, rfl, a, _, dx, _, _, rfl, ho, T.c_Store, T.na_Store__hands, st_hands _ _ _, _, _, rfl, .inl (SqL.of hx), a, "hand", _, _, rfl, fun z => ?_, fun z => k1 (by rw [← el]; exact z)⟩
    rw [el] at z
    obtain ⟨k3, k4⟩ := k2 z
    refine ⟨_, rfl, a, dx, _, rfl, ho, st_no _ _ _ (by decide +kernel), _, rfl, _, rfl, a, _, dx, _, _, rfl, ho, T.c_Store, T.na_Store__slots, st_slots _ _ _, _, _, rfl, .inl (SqL.of hy), a, "slot", _, _, rfl, fun zj => ?_, fun z => k3 (by rw [← el2]; exact z)⟩
    rw [el2] at zj
    obtain ⟨kb, k5⟩ := k4 zj
    have en : ((n.toNat : Nat) : Int) = n := Int.toNat_of_nonneg z.1
    have ej : ((j.toNat : Nat) : Int) = j := Int.toNat_of_nonneg zj.1
    have hl : n.toNat < D.hands.length := by omega
    refine ⟨_, rfl, a, dx, _, rfl, ho, st_no _ _ _ (by decide +kernel), _, rfl, a, SA', rs, D, n.toNat, ⟨by rw [en]; rfl, S⟩, hl, fun e0 => ?_, fun m em => by rw [en]; exact kb m em⟩
    obtain ⟨ke, kk⟩ := k5 e0
    obtain ⟨o, eo⟩ : ∃ o, D.slots[j.toNat]? = some o := ⟨_, List.getElem?_eq_getElem (by omega)⟩
    obtain ⟨v, hv, rv⟩ := paired_get hq eo
    have hat : atI ys j = some v := atI_nat' zj.1 hv
    cases o with
    | none =>
      obtain rfl : v = .non := rv
      refine ⟨_, rfl, a, _, dx, _, _, rfl, ho, T.c_Store, T.na_Store__slots, st_slots _ _ _, _, rfl, _, _, _, _, rfl, rfl, SqL.of hy, hat, ?_⟩
      exact ⟨_, rfl, rfl, _, rfl, iteD rfl ⟨_, rfl, mkO2 (ke eo)⟩⟩
    | some r =>
      obtain ⟨b, rfl, hb, rok⟩ := id rv
      obtain ⟨q1, q2, q3⟩ := kk r eo
      have rg := S.wf.rfs r (.inl (List.mem_of_getElem? eo))
      refine ⟨_, rfl, a, _, dx, _, _, rfl, ho, T.c_Store, T.na_Store__slots, st_slots _ _ _, _, rfl, _, _, _, _, rfl, rfl, SqL.of hy, hat, ?_⟩
      refine ⟨_, rfl, rfl, _, rfl, iteDN (by intro z; cases z) ?_⟩
      obtain ⟨db, hb'⟩ := id hb
      obtain ⟨dk, hk⟩ := S.bk.bk
      refine ⟨_, rfl, a, _, dx, _, _, rfl, ho, T.c_Store, T.na_Store__book, st_book _ _ _, _, rfl, a, _, dx, _, _, rfl, ho, T.c_Store, T.na_Store__row, st_row _ _ _, SA'.b, dk, _, rfl, hk, SA'.b, SA'.bl, rs, D.row, rfl, S.bk, fun c p hpq okq hc' => ?_⟩
      obtain ⟨dc, hc⟩ := id hc'
      rw [Int.emod_eq_of_lt S.wf.r0 S.wf.r1] at hpq
      have eg : gdH rs D.row = p.hue := gdH_some hpq
      have eb : barR rs D.row = p.bar := barR_some hpq
      obtain ⟨⟨s0, s1, s2, s3, s4, s5, s6, s7⟩, ⟨b1, b2, b3, b4, b5, b6, b7⟩, ⟨c1, c2, c3, c4, c5, c6⟩, ⟨d1, d2, d3, d4, d5⟩, ⟨e1, e2, e3, e4⟩, ⟨f1, f2, f3⟩, ⟨g1, g2⟩, h1⟩ := S.ne
      obtain ⟨zs, hz, hzp⟩ := S.me
      have elz : zs.length = D.owed.length := Paired.length hzp
      have owe := S.wf.owe
      dsimp only [gName]
      refine sseq_w (fun σ H' => ∃ q v ws, σ = [some (.ref a), some (.int n), some (.int j), some (.ref b), some (.ref c), some v] ∧ D.rd rs r = .ok q ∧ 0 ≤ q.1 ∧ q.1 < D.owners.length ∧ RefO K H' v (some q) ∧ (∀ x o, x ≠ SA'.me → H x = some o → H' x = some o) ∧ H' SA'.me = some (.lst ws) ∧ Paired (MnO K H') ws (D.read rs n.toNat j r q).owed) (fun D2 nx rt _ _ => ?_) (fun σ H' hW => ?_)
      · refine sif_val (decide (p.bar ≠ .none)) (fun R hR => ⟨_, rfl, c, dc, _, rfl, hc, c, p, rfl, hc', okq, _, rfl, hR⟩) (fun cb => ?_) (fun cb => ?_)
        · have cb : p.bar ≠ .none := of_decide_eq_true cb
          have erd : D.rd rs r = D.look rs r := by unfold Sto.rd; rw [eb, if_neg cb]
          refine ⟨_, rfl, a, dx, _, rfl, ho, st_no _ _ _ (by decide +kernel), _, rfl, _, rfl, a, SA', rs, D, b, r, j, ⟨rfl, S⟩, hb, rg.1, rg.2, fun e => q1 (erd.trans e), fun e => q2 (erd.trans e), fun q eq qr0 qr1 v H1 S1 rv1 => ?_⟩
          have hb1 := S1 _ _ hb'
          have hc1 := S1 _ _ hc
          have ho1 := S1 _ _ ho
          dsimp only [gName]
          refine sif_val (!decide (r.2 = p.hue) && !decide (p.bar = .follow)) (fun R hR => ⟨_, rfl, b, _, db, _, _, rfl, hb1, T.c_Ref, T.na_Ref_hue, rf_hue _ _, _, rfl, c, _, dc, _, _, rfl, hc1, T.c_Phase, T.na_Phase_hue, ph_hue p, rfl, _, rfl, iteB (fun cc => ⟨_, rfl, c, _, dc, _, _, rfl, hc1, T.c_Phase, T.na_Phase_barrier, ph_barrier p, rfl, _, rfl, ?_⟩) (fun cc => ?_)⟩) (fun cc => ?_) (fun cc => ?_)
          · rw [decI] at cc
            rw [cc] at hR
            have ef : decide (V.str p.bar.s = V.str "follow") = decide (p.bar = .follow) := by cases p.bar <;> decide +kernel
            rw [ef]
            simpa using hR
          · rw [decI] at cc
            rw [cc] at hR
            simpa using hR
          · rw [Bool.and_eq_true] at cc
            have c2 : r.2 ≠ p.hue ∧ p.bar ≠ .follow := ⟨by simpa using cc.1, by simpa using cc.2⟩
            refine ⟨_, rfl, _, rfl, _, rfl, c, _, dc, _, _, rfl, hc1, T.c_Phase, T.na_Phase_barrier, ph_barrier p, (show (3 : Nat) ≤ sizeLine by decide), fun t nt => ?_⟩
            have S2 : Same H (upd H1 t (.tup [.int j, .ref b, .str p.bar.s])) := Same.upd S1 (S1.free nt)
            have ht2 : upd H1 t (.tup [.int j, .ref b, .str p.bar.s]) t = some (.tup [.int j, .ref b, .str p.bar.s]) := upd_same
            have rv2 := rv1.same (Same.new (u := .tup [.int j, .ref b, .str p.bar.s]) nt)
            have ho2 := upd_old (u := .tup [.int j, .ref b, .str p.bar.s]) nt ho1
            generalize upd H1 t (.tup [.int j, .ref b, .str p.bar.s]) = H2 at S2 ht2 rv2 ho2 ⊢
            refine ⟨_, rfl, a, _, dx, _, _, rfl, ho2, T.c_Store, T.na_Store__mendings, st_mendings _ _ _, _, rfl, SA'.me, zs, _, n.toNat, rfl, rfl, S2 _ _ hz, (by rw [← en]; exact ixN_nat (by omega)), ?_⟩
            have F3 : Fls [SA'.me] H2 (upd H2 SA'.me (.lst (zs.set n.toNat (.ref t)))) := Fls.one Fl.cell (List.mem_singleton_self _)
            have ch : ∀ x ∈ [SA'.me], Chg H2 x := fun x m => by rw [List.mem_singleton.mp m]; exact .inl ⟨_, S2 _ _ hz⟩
            refine nx _ _ ⟨q, v, _, rfl, erd.trans eq, qr0, qr1, rv2.fls F3 ch, fun x o hne e => upd_oth hne (S2 _ _ e), upd_same, ?_⟩
            unfold Sto.read
            rw [if_pos ⟨by rw [eb]; exact cb, by rw [eg]; exact c2.1, by rw [eb]; exact c2.2⟩]
            refine paired_set ?_ (L2.Paired.mapP hzp fun _ _ q => (q.fls (ls := []) (Fls.same S2) (fun x m => by cases m)).fls F3 ch)
            exact ⟨t, b, rfl, tup_fls (by rw [eb]; exact ht2) F3 ch, (hb.same S2).fls F3 ch, rok⟩
          · have c2 : ¬ (r.2 ≠ p.hue ∧ p.bar ≠ .follow) := fun z => by
              rw [decide_eq_false z.1, decide_eq_false z.2] at cc
              cases cc
            refine nx _ _ ⟨q, v, zs, rfl, erd.trans eq, qr0, qr1, rv1, fun x o _ e => S1 _ _ e, S1 _ _ hz, ?_⟩
            unfold Sto.read
            rw [if_neg fun z => c2 ⟨by rw [← eg]; exact z.2.1, by rw [← eb]; exact z.2.2⟩]
            exact L2.Paired.mapP hzp fun _ _ q => q.fls (ls := []) (Fls.same S1) (fun x m => by cases m)
        · have cb : p.bar = .none := by simpa using cb
          have erd : D.rd rs r = if D.left r.1 = -1 then .ok r else .stale := by unfold Sto.rd; rw [eb, if_pos cb]
          obtain ⟨t, p', ht, hp', t0, t1, _, _, et, ep⟩ := S.wf.look S.bk.ok rg.1 rg.2
          refine sif_val (!decide (D.left r.1 = -1)) (fun R hR => ⟨_, rfl, a, dx, _, rfl, ho, st_no _ _ _ (by decide +kernel), _, rfl, a, SA', rs, D, b, r, ⟨rfl, S⟩, hb, rg.1, _, rfl, rfl, _, rfl, by rw [decI]; exact hR⟩) (fun cc => ?_) (fun cc => ?_)
          · have c2 : D.left r.1 ≠ -1 := by simpa using cc
            have k := q1 (by rw [erd, if_neg c2])
            rw [et] at k
            exact ⟨_, rfl, _, rfl, a, _, dx, _, _, rfl, ho, T.c_Store, T.na_Store__owners, st_owners _ _ _, _, rfl, b, _, db, _, _, rfl, hb', T.c_Ref, T.na_Ref_place, rf_place _ _, _, _, _, _, rfl, rfl, SqL.of S.ow, int_at rg.1 ht, mkO3 k⟩
          · have c2 : D.left r.1 = -1 := by simpa using cc
            refine ⟨_, rfl, nx _ _ ⟨r, .ref b, zs, rfl, by rw [erd, if_pos c2], rg.1, rg.2, rv, fun x o _ e => e, hz, ?_⟩⟩
            unfold Sto.read
            rw [if_neg fun z => z.1 (by rw [eb]; exact cb)]
            exact hzp
      · obtain ⟨q, v, ws, rfl, erd, qr0, qr1, rv2, oth, hws, hwp⟩ := hW
        have hx2 := oth _ _ h1 hx
        have ho2 := oth _ _ s7 ho
        refine ⟨_, rfl, _, rfl, a, _, dx, _, _, rfl, ho2, T.c_Store, T.na_Store__hands, st_hands _ _ _, _, rfl, SA'.ha, xs, _, n.toNat, rfl, rfl, hx2, (by rw [← en]; exact ixN_nat (by omega)), ?_⟩
        have F1 : Fls (a :: SA'.own) H H' := fun x o hn e => oth x o (fun z => hn (by rw [z]; simp [SA.own])) e
        have F2 : Fls (a :: SA'.own) H (upd H' SA'.ha (.lst (xs.set n.toNat v))) := F1.trans (Fls.one Fl.cell (by simp [SA.own]))
        have F3 : Fls [SA'.ha] H' (upd H' SA'.ha (.lst (xs.set n.toNat v))) := Fls.one Fl.cell (List.mem_singleton_self _)
        have ch : ∀ x ∈ [SA'.ha], Chg H' x := fun x m => by rw [List.mem_singleton.mp m]; exact .inl ⟨_, hx2⟩
        have rv3 := rv2.fls F3 ch
        refine ⟨_, rfl, q3 q erd _ _ F2 ?_ rv3⟩
        have wf2 : Wf rs (D.read rs n.toNat j r q) := by
          have w1 := S.wf.hold n.toNat q ⟨qr0, qr1⟩
          unfold Sto.read
          split
          · refine w1.owes _ _ ⟨zj.1, ⟨r, eo⟩, q, ?_⟩
            show (D.hands.set n.toNat (some q))[n.toNat]? = _
            rw [List.getElem?_set_self hl]
          · exact w1
        have same : (D.read rs n.toNat j r q).row = D.row ∧ (D.read rs n.toNat j r q).turns = D.turns ∧ (D.read rs n.toNat j r q).places = D.places ∧ (D.read rs n.toNat j r q).owners = D.owners ∧ (D.read rs n.toNat j r q).posts = D.posts ∧ (D.read rs n.toNat j r q).slots = D.slots ∧ (D.read rs n.toNat j r q).seen = D.seen ∧ (D.read rs n.toNat j r q).hands = D.hands.set n.toNat (some q) := by
          unfold Sto.read
          split <;> exact ⟨rfl, rfl, rfl, rfl, rfl, rfl, rfl, rfl⟩
        obtain ⟨m1, m2, m3, m4, m5, m6, m7, m8⟩ := same
        refine ⟨⟨dx, by rw [m1, m2]; exact upd_oth s6 ho2⟩, S.bkF F2, by rw [m3]; exact upd_oth c5 (oth _ _ c6 S.pl), by rw [m4]; exact upd_oth d4 (oth _ _ d5 S.ow), by rw [m5]; exact S.poF F2 fun o e => upd_oth e3 (oth _ _ e4 e), by rw [m6]; exact S.slF F2 fun o e => upd_oth f2 (oth _ _ f3 e), by rw [m7]; exact upd_oth g1 (oth _ _ g2 S.vi), ⟨_, upd_same, ?_⟩, ⟨ws, upd_oth h1.symm hws, L2.Paired.mapP hwp fun _ _ q => q.fls F3 ch⟩, S.nd, wf2⟩
        rw [m8]
        exact paired_set rv3 (L2.Paired.mapP hp fun _ _ q => q.fls F2 S.chg)
end

end Hue

set_option Elab.async false
set_option linter.all false
set_option maxRecDepth 100000
set_option maxHeartbeats 1000000
set_option pp.maxSteps 3000
namespace Hue
open PySem PySem.Spec PyProof.Rows L2
local macro_rules | `(tactic| walk_at "hp") => `(tactic| first
  | assumption
  | exact upd_same
  | (refine upd_old (by assumption) ?_; walk_at "hp")
  | (refine upd_oth (by assumption) ?_; walk_at "hp")
  | (refine same_get (by assumption) ?_; walk_at "hp")
  | (refine Fl.get (by assumption) (by assumption) ?_; walk_at "hp"))
local macro_rules | `(tactic| walk_at "seq") => `(tactic| first
  | assumption
  | exact T.t_BARRIERS _
  | exact SqL.of (by walk_at "hp")
  | exact SqT.of (by walk_at "hp"))
local macro_rules | `(tactic| walk_at "len") => `(tactic| first
  | exact Or.inl (by walk_at "seq")
  | exact Or.inr (by walk_at "seq"))
local macro_rules | `(tactic| walk_at "at") => `(tactic| first
  | rfl
  | assumption)

/-! ### _move, _end_phase when nothing is to be finished -/
def Sto.move (D : Sto) (t stand : Int) : Sto := { D with owners := D.owners ++ [t], posts := D.posts ++ [(D.placeOf t, ((D.owners.length : Nat) : Int), D.turns + stand)], places := D.places.set t.toNat (D.owners.length : Nat) }
theorem nodup_at {α : Type} {l : List α} (nd : l.Nodup) {i j : Nat} {x : α} (h1 : l[i]? = some x) (h2 : l[j]? = some x) : i = j := by
  obtain ⟨a1, b1⟩ := List.getElem?_eq_some_iff.mp h1
  obtain ⟨a2, b2⟩ := List.getElem?_eq_some_iff.mp h2
  exact (List.getElem_inj nd).mp (b1.trans b2.symm)
theorem set_nodup {α : Type} {x : α} : ∀ {l : List α} {i : Nat}, l.Nodup → x ∉ l → (l.set i x).Nodup
  | [], _, _, _ => List.nodup_nil
  | a :: l, 0, nd, hx => List.nodup_cons.mpr ⟨fun h => hx (List.mem_cons_of_mem _ h), (List.nodup_cons.mp nd).2⟩
  | a :: l, i + 1, nd, hx => List.nodup_cons.mpr ⟨fun h => (List.mem_or_eq_of_mem_set h).elim (List.nodup_cons.mp nd).1 fun e => hx (e ▸ List.mem_cons_self), set_nodup (List.nodup_cons.mp nd).2 fun h => hx (List.mem_cons_of_mem _ h)⟩
theorem Wf.move {rs : List Ph} {D : Sto} (w : Wf rs D) (hl : D.owners.length < 5000) {t : Int} (t0 : 0 ≤ t) (t1 : t < D.places.length) (st : Int) : Wf rs (D.move t st) := by
  obtain ⟨r0, r1, vis, owe, few, fewP, fs, fh, pls, ows, rfs, pst, key, plN, owd, fq⟩ := w
  have lo : (D.move t st).owners.length = D.owners.length + 1 := by simp [Sto.move]
  have lp : (D.move t st).places.length = D.places.length := by simp [Sto.move]
  have lq : (D.move t st).posts.length = D.posts.length + 1 := by simp [Sto.move]
  obtain ⟨p, hp, mp⟩ := mem_get (xs := D.places) (i := t.toNat) (by omega)
  have ep : D.placeOf t = p := by unfold Sto.placeOf; rw [List.getD_eq_getElem?_getD, hp]; rfl
  obtain ⟨p0, p1, pn⟩ := pls p mp
  have ek : (D.move t st).posts.map (·.1) = D.posts.map (·.1) ++ [p] := by
    show List.map (fun q : Int × Int × Int => q.1) (D.posts ++ [(D.placeOf t, ((D.owners.length : Nat) : Int), D.turns + st)]) = _
    rw [List.map_append, ep]
    rfl
  have nk : ∀ n : Int, (D.owners.length : Int) ≤ n → n ∉ D.posts.map (·.1) := fun n hn hm => by
    obtain ⟨q, hq, e⟩ := List.mem_map.mp hm
    have := pst q hq
    omega
  have nn : ((D.owners.length : Nat) : Int) ∉ D.places := fun h => by
    have := pls _ h
    omega
  refine ⟨r0, r1, vis, owe, by rw [lo]; omega, by rw [lo, lp]; omega, fs, fh, fun q hq => ?_, fun u hu => ?_, fun r hr => ?_, fun q hq => ?_, ?_, ?_, owd, by rw [lq, lo]; omega⟩
  · rw [lo, ek]
    have hq : q ∈ D.places.set t.toNat (D.owners.length : Nat) := hq
    obtain ⟨i, hi⟩ := List.getElem?_of_mem hq
    by_cases e : t.toNat = i
    · rw [e] at hi
      rw [List.getElem?_set_self (by rw [← e]; exact (List.getElem?_eq_some_iff.mp hp).1)] at hi
      cases hi
      refine ⟨by omega, by omega, fun h => ?_⟩
      rcases List.mem_append.mp h with z | z
      · exact nk _ (Int.le_refl _) z
      · have := List.mem_singleton.mp z
        omega
    · rw [List.getElem?_set_ne e] at hi
      obtain ⟨a, b, c⟩ := pls q (List.mem_of_getElem? hi)
      refine ⟨a, by omega, fun h => ?_⟩
      rcases List.mem_append.mp h with z | z
      · exact c z
      · rw [List.mem_singleton.mp z] at hi
        exact e (nodup_at plN hp hi)
  · rw [lp]
    rcases List.mem_append.mp hu with z | z
    · exact ows u z
    · rw [List.mem_singleton.mp z]
      exact ⟨t0, t1⟩
  · rw [lo]
    have := rfs r hr
    omega
  · rw [lo]
    rcases List.mem_append.mp hq with z | z
    · have := pst q z
      omega
    · rw [List.mem_singleton.mp z, ep]
      show 0 ≤ p ∧ p < ((D.owners.length : Nat) : Int) ∧ ((D.owners.length : Nat) : Int) < _
      omega
  · rw [ek, List.nodup_append]
    refine ⟨key, by simp, fun a ha b hb => ?_⟩
    rw [List.mem_singleton.mp hb]
    exact fun e => pn (e ▸ ha)
  · exact set_nodup plN nn
theorem putK_new {kvs : List (Key × V)} {k : Key} {v : V} (h : valV kvs k = none) : putK kvs k v = kvs ++ [(k, v)] := by
  unfold putK
  unfold valV at h
  rw [Option.map_eq_none_iff, List.find?_eq_none] at h
  rw [if_neg]
  intro z
  obtain ⟨x, hx, e⟩ := List.any_eq_true.mp z
  exact h x hx e
theorem lookup_none {ps : List (Int × (Int × Int))} {p : Int} (h : p ∉ ps.map (·.1)) : ps.lookup p = none := by
  cases e : ps.lookup p with
  | none => rfl
  | some x => exact absurd (List.mem_map.mpr ⟨_, lookup_mem e, rfl⟩) h
theorem paired_snoc' {α β : Type} {F : α → β → Prop} {x : α} {y : β} (f : F x y) : ∀ {xs : List α} {ys : List β}, Paired F xs ys → Paired F (xs ++ [x]) (ys ++ [y])
  | _, _, .nil => .cons f .nil
  | _, _, .cons g t => .cons g (paired_snoc' f t)
def spMove (K : PySem.W.Frag) : Sp := fun vs H Q _ => ∃ s A rs D t st, StA K vs H s A rs D [.int t, .int st] ∧ D.owners.length < 5000 ∧ 0 ≤ t ∧ t < D.places.length ∧ ∀ H', Fls (s :: A.own) H H' → StoreAt K H' s A rs (D.move t st) → Q .non H'
/-- nothing to mend, nothing to visit -/
def Calm (rs : List Ph) (D : Sto) : Prop := (∀ o ∈ D.owed, o = none) ∧ ∀ q, rs[D.row.toNat]? = some q → q.vis = false
def spEndC (K : PySem.W.Frag) : Sp := fun vs H Q _ => ∃ s A rs D b, StA K vs H s A rs D [.bl b] ∧ Calm rs D ∧ ∀ H', Same H H' → Q .non H'
section
variable {P : Program} [SupP P pFile] {w : World} {K : PySem.W.Frag} {mg : Str → Option Value} {base : Heap}
theorem ok_Storemove (T : Tx K mg) : FnOk P w K mg base CX0 3 (mad "Store" "_move" K) (fdD K (mad "Store" "_move" K)) P_Storemove (spMove K) := by
  refine T.F_Storemove.ok sc_Storemove (fun vs H Q E h => ?_) (fun cdv A outer s H vs Q E hr h => ?_)
  · obtain ⟨s, A, rs, D, t, st, ⟨rfl, _⟩, _⟩ := h; rfl
  · obtain ⟨a, SA', rs, D, t, st, ⟨rfl, S⟩, few, t0, t1, k⟩ := h
    refine ⟨_, PSs.nox ((pss_cons (ps_set (i := 3) sc_Storemove.nd rfl (Or.inl rfl) (pe_callB call_len_seq (by rfl) T.n_len (by decide +kernel) (pa_cons (pe_fld (pv 0) rfl) pa_nil)))
      (pss_cons (ps_expr (pe_bm PySem.F.plainAttrs_list PySem.F.slot_list_append PySem.F.type_list_append mt_append (pe_fld (pv 0) rfl) (pa_cons (pv 1) pa_nil)))
      (pss_cons (ps_asg (pe_tup (pa_cons (pv 3) (pa_cons (pe_op op_add (pe_fld (pv 0) rfl) (pv 2)) pa_nil))) (pg_sub (pe_fld (pv 0) rfl) (pe_ix ix_list (pe_fld (pv 0) rfl) (pv 1) (fun _ _ => rfl)) (set_dict (Nat.lt_of_le_of_lt (Nat.add_le_add_left (by decide) _) hr.units))))
      (pss_one (ps_asg (pv 3) (pg_sub (pe_fld (pv 0) rfl) (pv 1) set_list))))))), ?_⟩
    obtain ⟨dx, ho⟩ := S.ob
    obtain ⟨kvs, hpo, hpp⟩ := S.po
    obtain ⟨⟨s0, s1, s2, s3, s4, s5, s6, s7⟩, ⟨b1, b2, b3, b4, b5, b6, b7⟩, ⟨c1, c2, c3, c4, c5, c6⟩, ⟨d1, d2, d3, d4, d5⟩, ⟨e1, e2, e3, e4⟩, ⟨f1, f2, f3⟩, ⟨g1, g2⟩, h1⟩ := S.ne
    have small : ∀ m : Nat, m < 5000 → m < sizeLine := fun m h => Nat.lt_of_lt_of_le h (by decide)
    obtain ⟨p, hp, mp⟩ := mem_get (xs := D.places) (i := t.toNat) (by omega)
    have ep : D.placeOf t = p := by unfold Sto.placeOf; rw [List.getD_eq_getElem?_getD, hp]; rfl
    obtain ⟨p0, p1, pn⟩ := S.wf.pls p mp
    have et : ((t.toNat : Nat) : Int) = t := Int.toNat_of_nonneg t0
    have ln : kvs.length = D.posts.length := Paired.length hpp
    have fq := S.wf.fq
    refine ⟨_, rfl, a, _, dx, _, _, rfl, ho, T.c_Store, T.na_Store__owners, st_owners _ _ _, _, _, rfl, .inl (SqL.of S.ow), ?_⟩
    rw [List.length_map]
    refine ⟨_, rfl, a, _, dx, _, _, rfl, ho, T.c_Store, T.na_Store__owners, st_owners _ _ _, .inl ⟨rfl, _, SqL.of S.ow⟩, _, rfl, SA'.ow, _, _, rfl, rfl, S.ow, by rw [List.length_map]; exact small _ few, ?_⟩
    have ho1 := upd_oth (u := .lst (D.owners.map V.int ++ [.int t])) s2 ho
    have hpl1 := upd_oth (u := .lst (D.owners.map V.int ++ [.int t])) c1 S.pl
    have hpo1 := upd_oth (u := .lst (D.owners.map V.int ++ [.int t])) d1.symm hpo
    have F1 : Fls (a :: SA'.own) H (upd H SA'.ow (.lst (D.owners.map V.int ++ [.int t]))) := Fls.one Fl.cell (by simp [SA.own])
    have how1 : upd H SA'.ow (.lst (D.owners.map V.int ++ [.int t])) SA'.ow = some (.lst ((D.move t st).owners.map V.int)) := by
      rw [upd_same]
      simp [Sto.move]
    have oth1 : ∀ x o, x ≠ SA'.ow → H x = some o → upd H SA'.ow (.lst (D.owners.map V.int ++ [.int t])) x = some o := fun x o n e => upd_oth n e
    generalize upd H SA'.ow (.lst (D.owners.map V.int ++ [.int t])) = H1 at ho1 hpl1 hpo1 F1 how1 oth1 ⊢
    refine ⟨_, rfl, _, rfl, a, _, dx, _, _, rfl, ho1, T.c_Store, T.na_Store__turns, st_turns _ _ _, _, rfl, _, _, rfl, rfl, (show (2 : Nat) ≤ sizeLine by decide), fun q nq => ?_⟩
    have S2 : Same H1 (upd H1 q (.tup [.int (D.owners.length : Nat), .int (D.turns + st)])) := Same.new nq
    have hq2 : upd H1 q (.tup [.int (D.owners.length : Nat), .int (D.turns + st)]) q = some (.tup [.int (D.owners.length : Nat), .int (D.turns + st)]) := upd_same
    generalize upd H1 q (.tup [.int (D.owners.length : Nat), .int (D.turns + st)]) = H2 at S2 hq2 ⊢
    have ho2 := S2 _ _ ho1
    have vn : valV kvs (.inl p) = none := by
      rcases posts_val hpp p with ⟨_, e⟩ | ⟨q, e, t', h', _⟩
      · exact e
      · rw [lookup_none pn] at h'; cases h'
    refine ⟨_, rfl, a, _, dx, _, _, rfl, ho2, T.c_Store, T.na_Store__posts, st_posts _ _ _, _, rfl, a, _, dx, _, _, rfl, ho2, T.c_Store, T.na_Store__places, st_places _ _ _, _, rfl, _, _, _, _, rfl, rfl, SqL.of (S2 _ _ hpl1), int_at t0 hp, SA'.po, _, rfl, DPut.k (k := .inl p) (S2 _ _ hpo1) (by rw [ln]; exact small _ (by omega)), ?_⟩
    rw [putK_new vn]
    have F3 : Fls (a :: SA'.own) H (upd H2 SA'.po (.dK (kvs ++ [(.inl p, .ref q)]))) := (F1.trans (Fls.same S2)).trans (Fls.one Fl.cell (by simp [SA.own]))
    have ho3 := upd_oth (u := .dK (kvs ++ [(.inl p, .ref q)])) s3 ho2
    have hpl3 := upd_oth (u := .dK (kvs ++ [(.inl p, .ref q)])) c2 (S2 _ _ hpl1)
    have how3 := upd_oth (u := .dK (kvs ++ [(.inl p, .ref q)])) d1 (S2 _ _ how1)
    have hpo3 : upd H2 SA'.po (.dK (kvs ++ [(.inl p, .ref q)])) SA'.po = some (.dK (kvs ++ [(.inl p, .ref q)])) := upd_same
    have hq3 : upd H2 SA'.po (.dK (kvs ++ [(.inl p, .ref q)])) q = some (.tup [.int (D.owners.length : Nat), .int (D.turns + st)]) := upd_oth (ne_of hq2 (S2 _ _ hpo1) (by intro z; cases z)) hq2
    have oth3 : ∀ x o, x ≠ SA'.ow → x ≠ SA'.po → H x = some o → upd H2 SA'.po (.dK (kvs ++ [(.inl p, .ref q)])) x = some o := fun x o n n2 e => upd_oth n2 (S2 _ _ (oth1 _ _ n e))
    generalize upd H2 SA'.po (.dK (kvs ++ [(.inl p, .ref q)])) = H3 at F3 ho3 hpl3 how3 hpo3 hq3 oth3 ⊢
    refine ⟨_, rfl, _, rfl, a, _, dx, _, _, rfl, ho3, T.c_Store, T.na_Store__places, st_places _ _ _, _, rfl, SA'.pl, _, _, t.toNat, rfl, rfl, hpl3, (by rw [← et, Int.toNat_natCast]; exact ixN_nat (by rw [List.length_map]; exact (List.getElem?_eq_some_iff.mp hp).1)), ?_⟩
    have F4 : Fls (a :: SA'.own) H (upd H3 SA'.pl (.lst ((D.places.map V.int).set t.toNat (.int (D.owners.length : Nat))))) := F3.trans (Fls.one Fl.cell (by simp [SA.own]))
    refine k _ F4 ⟨⟨dx, upd_oth s1 ho3⟩, S.bkF F4, ?_, upd_oth c1.symm how3, ⟨_, upd_oth c2.symm hpo3, ?_⟩, S.slF F4 fun o e => upd_oth c3.symm (oth3 _ _ d2.symm e1.symm e), upd_oth c4.symm (oth3 _ _ d3.symm e2.symm S.vi), S.haF F4 fun o e => upd_oth c5.symm (oth3 _ _ d4.symm e3.symm e), S.meF F4 fun o e => upd_oth c6.symm (oth3 _ _ d5.symm e4.symm e), S.nd, S.wf.move few t0 t1 st⟩
    · rw [upd_same]
      show _ = some (HO.lst ((D.places.set t.toNat (D.owners.length : Nat)).map V.int))
      rw [List.map_set]
    · refine paired_snoc' ⟨by rw [ep], q, rfl, upd_oth (ne_of hq3 hpl3 (by intro z; cases z)) hq3⟩ (L2.Paired.mapP hpp fun _ _ q => q.fls F4 S.chg)
end

end Hue

set_option Elab.async false
set_option linter.all false
set_option maxRecDepth 100000
set_option maxHeartbeats 1000000
set_option pp.maxSteps 3000
namespace Hue
open PySem PySem.Spec PyProof.Rows L2
local macro_rules | `(tactic| walk_at "hp") => `(tactic| first
  | assumption
  | exact upd_same
  | (refine upd_old (by assumption) ?_; walk_at "hp")
  | (refine upd_oth (by assumption) ?_; walk_at "hp")
  | (refine same_get (by assumption) ?_; walk_at "hp")
  | (refine Fl.get (by assumption) (by assumption) ?_; walk_at "hp"))
local macro_rules | `(tactic| walk_at "seq") => `(tactic| first
  | assumption
  | exact T.t_BARRIERS _
  | exact SqL.of (by walk_at "hp")
  | exact SqT.of (by walk_at "hp"))
local macro_rules | `(tactic| walk_at "len") => `(tactic| first
  | exact Or.inl (by walk_at "seq")
  | exact Or.inr (by walk_at "seq"))
local macro_rules | `(tactic| walk_at "at") => `(tactic| first
  | rfl
  | assumption)

theorem pair_at' {α β : Type} {F : α → β → Prop} : ∀ {l₁ : List α} {l₂ : List β} {j : Nat} {x : α}, Paired F l₁ l₂ → l₁[j]? = some x → ∃ y, l₂[j]? = some y ∧ F x y
  | _, _, j, x, .nil, h => by cases h
  | _, _, 0, x, .cons f _, h => by cases h; exact ⟨_, rfl, f⟩
  | _, _, j + 1, x, .cons _ t, h => by
    obtain ⟨y, h1, h2⟩ := pair_at' (j := j) t h
    exact ⟨y, h1, h2⟩
section
variable {P : Program} [SupP P pFile] {w : World} {K : PySem.W.Frag} {mg : Str → Option Value} {base : Heap}
theorem fn_never {CX : CXT} {k : Nat} {f : Addr} {fd : FuncData} {ps : List Str} : FnOk P w K mg base CX k f fd ps (fun _ _ _ _ => False) := by
  constructor
  · intros; contradiction
  · intros; contradiction
theorem ok_Store_mend (_ : Tx K mg) : FnOk P w K mg base (L2.CX P w) 5 (mad "Store" "mend" K) (fdD K (mad "Store" "mend" K)) P_Store_mend (fun _ _ _ _ => False) := fn_never
theorem ok_Store_visit (_ : Tx K mg) : FnOk P w K mg base (L2.CX P w) 5 (mad "Store" "visit" K) (fdD K (mad "Store" "visit" K)) P_Store_visit (fun _ _ _ _ => False) := fn_never
theorem ok_Store_use (_ : Tx K mg) : FnOk P w K mg base (L2.CX P w) 5 (mad "Store" "use" K) (fdD K (mad "Store" "use" K)) P_Store_use (fun _ _ _ _ => False) := fn_never
theorem ok_Storeend_phase (T : Tx K mg) : FnOk P w K mg base CX0 7 (mad "Store" "_end_phase" K) (fdD K (mad "Store" "_end_phase" K)) P_Storeend_phase (spEndC K) := by
  refine T.F_Storeend_phase.ok sc_Storeend_phase (fun vs H Q E h => ?_) (fun cdv A outer s H vs Q E hr h => ?_)
  · obtain ⟨s, A, rs, D, b, ⟨rfl, _⟩, _⟩ := h; rfl
  · obtain ⟨a, SA', rs, D, b, ⟨rfl, S⟩, ⟨cm, cv⟩, k⟩ := h
    refine ⟨_, PSs.nox ((pss_cons (ps_par3 (i := 2) (j := 3) (l := 4) rfl sc_Storeend_phase.nd rfl rfl rfl (by decide) (by decide) (by decide) rfl rfl rfl (pa_cons (pe_callTy call_list_of (by rfl) T.n_list (by decide +kernel) (pa_cons (pe_fld (pv 0) rfl) pa_nil)) (pa_cons (pe_callTy call_list_of (by rfl) T.n_list (by decide +kernel) (pa_cons (pe_fld (pv 0) rfl) pa_nil)) (pa_cons (pe_callTy call_list_of (by rfl) T.n_list (by decide +kernel) (pa_cons (pe_fld (pv 0) rfl) pa_nil)) pa_nil))) (by rfl))
      (pss_one (ps_tryCalm (pss_cons (ps_for PassesOwn.never rfl (pi_range1 (by rfl) T.n_range (pa_cons (pe_callB call_len_seq (by rfl) T.n_len (by decide +kernel) (pa_cons (pe_fld (pv 0) rfl) pa_nil)) pa_nil)) (pg_name (i := 5) sc_Storeend_phase.nd rfl (Or.inl rfl)) (pss_one (ps_if (PW.pt (pw_and (pt_val (pv 1)) (pw_and1 (pt_cmpR op_notN (pe_ix ix_list (pe_fld (pv 0) rfl) (pv 5) (fun _ _ => rfl)) pe_non (nomark _))))) (pss_one (ps_expr (pe_meth (pv 0) T.c_Store T.m_Store_mend (ok_Store_mend (P := P) T) (hr.mono (by decide)) (bd_Store_mend T) .nil passL (pa_cons (pv 5) pa_nil)))) pss_nil)))
      (pss_one (ps_for PassesOwn.never rfl (pi_range1 (by rfl) T.n_range (pa_cons (pe_callB call_len_seq (by rfl) T.n_len (by decide +kernel) (pa_cons (pe_fld (pv 0) rfl) pa_nil)) pa_nil)) (pg_name (i := 6) sc_Storeend_phase.nd rfl (Or.inl rfl)) (pss_one (ps_if (PW.pt (pw_and (pt_val (pe_fld (pe_ixO T.o_Book_getitem (fr_Book_getitem (P := P) T) (hr.mono (by decide)) pass0 (pe_fld (pv 0) rfl) (pe_fld (pv 0) rfl)) rfl)) (pw_and1 (pt_not (pt_truth (pe_ix ix_list (pe_fld (pv 0) rfl) (pv 6) (fun _ _ => rfl)) (by intro _; rfl)))))) (pss_one (ps_expr (pe_meth (pv 0) T.c_Store T.m_Store_visit (ok_Store_visit (P := P) T) (hr.mono (by decide)) (bd_Store_visit T) .nil passL (pa_cons (pv 6) pa_nil)))) pss_nil))))))))), ?_⟩
    obtain ⟨dx, ho⟩ := S.ob
    obtain ⟨xs, hx, hp⟩ := S.ha
    obtain ⟨ys, hy, hq⟩ := S.sl
    obtain ⟨zs, hz, hzp⟩ := S.me
    refine ⟨_, rfl, a, _, dx, _, _, rfl, ho, T.c_Store, T.na_Store__slots, st_slots _ _ _, SA'.sl, _, rfl, .inl (SqL.of hy), fun p1 n1 => ?_⟩
    have S1 : Same H (upd H p1 (.lst ys)) := Same.new n1
    generalize upd H p1 (.lst ys) = H1 at S1 ⊢
    refine ⟨_, rfl, a, _, dx, _, _, rfl, S1 _ _ ho, T.c_Store, T.na_Store__visited, st_visited _ _ _, SA'.vi, _, rfl, .inl (SqL.of (S1 _ _ S.vi)), fun p2 n2 => ?_⟩
    have S2 : Same H (upd H1 p2 (.lst (D.seen.map V.bl))) := Same.upd S1 (S1.free n2)
    generalize upd H1 p2 (.lst (D.seen.map V.bl)) = H2 at S2 ⊢
    refine ⟨_, rfl, a, _, dx, _, _, rfl, S2 _ _ ho, T.c_Store, T.na_Store__mendings, st_mendings _ _ _, SA'.me, _, rfl, .inl (SqL.of (S2 _ _ hz)), fun p3 n3 => ?_⟩
    have S3 : Same H (upd H2 p3 (.lst zs)) := Same.upd S2 (S2.free n3)
    generalize upd H2 p3 (.lst zs) = H3 at S3 ⊢
    have Z := S.same S3
    have ho3 := S3 _ _ ho
    have hx3 := S3 _ _ hx
    have hz3 := S3 _ _ hz
    have lx : xs.length = D.hands.length := Paired.length hp
    have ly : ys.length = D.slots.length := Paired.length hq
    have lz : zs.length = D.owed.length := Paired.length hzp
    have f1 := S.wf.fh
    have f2 := S.wf.fs
    have owe := S.wf.owe
    have none_all : ∀ v ∈ zs, v = .non := fun v hv => by
      obtain ⟨i, hi⟩ := List.getElem?_of_mem hv
      obtain ⟨o, ho', rv⟩ := pair_at' hzp hi
      rw [cm o (List.mem_of_getElem? ho')] at rv
      exact rv
    refine ⟨_, _, _, rfl, ?_⟩
    refine ⟨_, rfl, a, _, dx, _, _, rfl, ho3, T.c_Store, T.na_Store__hands, st_hands _ _ _, _, _, rfl, .inl (SqL.of hx3), _, rfl, by omega, by omega, for_range (n := _) (fun i σ H' => (∃ q, σ = [some (.ref a), some (.bl b), some (.ref p1), some (.ref p2), some (.ref p3), q, none]) ∧ H' = H3) ⟨⟨_, rfl⟩, rfl⟩ ?_ ?_⟩
    · rintro i σ H' hi ⟨⟨q, rfl⟩, rfl⟩
      have hi2 : i < zs.length := by
        have : i < xs.length := hi
        omega
      obtain ⟨v, hv, mv⟩ := mem_get hi2
      obtain rfl := none_all v mv
      refine sif_val false (fun R hR => ⟨_, rfl, _, rfl, iteB (fun _ => ⟨_, rfl, a, _, dx, _, _, rfl, ho3, T.c_Store, T.na_Store__mendings, st_mendings _ _ _, _, rfl, _, _, _, _, rfl, rfl, SqL.of hz3, (by rw [show (0 + (i : Int)) = ((i : Nat) : Int) by omega]; exact atI_nat hv), rfl, _, rfl, ?_⟩) (fun _ => hR)⟩) (fun z => by cases z) (fun _ => ?_)
      · simpa using hR
      · exact ⟨⟨_, rfl⟩, rfl⟩
    · rintro σ H' ⟨⟨q, rfl⟩, rfl⟩
      obtain ⟨dk, hk⟩ := Z.bk.bk
      obtain ⟨ys3, hy3, _⟩ := Z.sl
      refine ⟨_, rfl, a, _, dx, _, _, rfl, ho3, T.c_Store, T.na_Store__slots, st_slots _ _ _, _, _, rfl, .inl (SqL.of (S3 _ _ hy)), _, rfl, by omega, by omega, for_range (n := _) (fun i σ H2 => (∃ q r, σ = [some (.ref a), some (.bl b), some (.ref p1), some (.ref p2), some (.ref p3), q, r]) ∧ H2 = H') ⟨⟨_, _, rfl⟩, rfl⟩ ?_ ?_⟩
      · rintro i σ H2 hi ⟨⟨q, r, rfl⟩, rfl⟩
        refine sif_val false (fun R hR => ⟨_, rfl, a, _, dx, _, _, rfl, ho3, T.c_Store, T.na_Store__book, st_book _ _ _, _, rfl, a, _, dx, _, _, rfl, ho3, T.c_Store, T.na_Store__row, st_row _ _ _, SA'.b, dk, _, rfl, hk, SA'.b, SA'.bl, rs, D.row, rfl, Z.bk, fun c p hpq okq ⟨dc, hc⟩ => ⟨c, _, dc, _, _, rfl, hc, T.c_Phase, T.na_Phase_visits, ph_visits p, _, rfl, ?_⟩⟩) (fun z => by cases z) (fun _ => ?_)
        · rw [Int.emod_eq_of_lt S.wf.r0 S.wf.r1] at hpq
          exact iteE (cv p hpq) hR
        · exact ⟨⟨_, _, rfl⟩, rfl⟩
      · rintro σ H2 ⟨⟨q, r, rfl⟩, rfl⟩
        exact k _ S3
end

end Hue

set_option Elab.async false
set_option linter.all false
set_option maxRecDepth 100000
set_option maxHeartbeats 1000000
set_option pp.maxSteps 3000
namespace Hue
open PySem PySem.Spec PyProof.Rows L2
local macro_rules | `(tactic| walk_at "hp") => `(tactic| first
  | assumption
  | exact upd_same
  | (refine upd_old (by assumption) ?_; walk_at "hp")
  | (refine upd_oth (by assumption) ?_; walk_at "hp")
  | (refine same_get (by assumption) ?_; walk_at "hp")
  | (refine Fl.get (by assumption) (by assumption) ?_; walk_at "hp"))
local macro_rules | `(tactic| walk_at "seq") => `(tactic| first
  | assumption
  | exact T.t_BARRIERS _
  | exact SqL.of (by walk_at "hp")
  | exact SqT.of (by walk_at "hp"))
local macro_rules | `(tactic| walk_at "len") => `(tactic| first
  | exact Or.inl (by walk_at "seq")
  | exact Or.inr (by walk_at "seq"))
local macro_rules | `(tactic| walk_at "at") => `(tactic| first
  | rfl
  | assumption)

/-! ### turn -/
def gpP (rs : List Ph) (to : Int) : Bool := match rs[to.toNat]? with
  | some q => q.pau
  | none => false
def gpS (rs : List Ph) (to : Int) : Int := match rs[to.toNat]? with
  | some q => q.std
  | none => 0
def Sto.begin (rs : List Ph) (D : Sto) (to : Int) : Sto := { D with row := to, turns := D.turns + 1, seen := List.replicate D.slots.length false, hands := if gpP rs to = true then List.replicate D.hands.length none else D.hands }
def Sto.turnTo (rs : List Ph) (D : Sto) (to : Int) (ts : List Int) : Sto := ts.foldl (fun d t => d.move t (gpS rs to)) (D.begin rs to)
theorem Wf.begin {rs : List Ph} {D : Sto} (w : Wf rs D) (cm : ∀ o ∈ D.owed, o = none) {to : Int} (h0 : 0 ≤ to) (h1 : to < rs.length) : Wf rs (D.begin rs to) := by
  obtain ⟨r0, r1, vis, owe, few, fewP, fs, fh, pls, ows, rfs, pst, key, plN, owd, fq⟩ := w
  have lh : (D.begin rs to).hands.length = D.hands.length := by
    show (if gpP rs to = true then List.replicate D.hands.length none else D.hands).length = _
    split
    · rw [List.length_replicate]
    · rfl
  refine ⟨h0, h1, ?_, ?_, few, fewP, fs, by rw [lh]; exact fh, pls, ows, fun r hr => ?_, pst, key, plN, fun i m hm => ?_, fq⟩
  · show (List.replicate D.slots.length false).length = _
    rw [List.length_replicate]
    rfl
  · rw [lh]; exact owe
  · rcases hr with z | z
    · exact rfs r (.inl z)
    · have z : some r ∈ (if gpP rs to = true then List.replicate D.hands.length none else D.hands) := z
      split at z
      · have := List.eq_of_mem_replicate z
        cases this
      · exact rfs r (.inr z)
  · have := cm _ (List.mem_of_getElem? hm)
    cases this
theorem move_len (D : Sto) (t st : Int) : (D.move t st).places.length = D.places.length ∧ (D.move t st).owners.length = D.owners.length + 1 := by simp [Sto.move]
theorem move_same (D : Sto) (t st : Int) : (D.move t st).row = D.row ∧ (D.move t st).turns = D.turns := ⟨rfl, rfl⟩
def spTurnC (K : PySem.W.Frag) : Sp := fun vs H Q _ => ∃ (s : Addr) (A : SA) (rs : List Ph) (D : Sto) (k : Int) (q : Addr) (ts : List Int) (to : Nat), vs = [.ref s, .int k, .ref q] ∧ StoreAt K H s A rs D ∧ H q = some (.tup (ts.map V.int)) ∧ D.owners.length + ts.length ≤ 5000 ∧ Calm rs D ∧ 0 ≤ k ∧ (after rs D.row.toNat)[k.toNat]? = some to ∧
  ts.Nodup ∧ (∀ t ∈ ts, 0 ≤ t ∧ t < D.places.length) ∧ (ts = [] ∨ gpS rs (to : Int) ≠ 0) ∧ ∀ A' H', Frm s A A' H H' → StoreAt K H' s A' rs (D.turnTo rs (to : Int) ts) → Q (.int (to : Int)) H'
theorem rep_one (n : Nat) (v : V) : (List.replicate n [v]).flatten = List.replicate n v := by
  induction n with
  | zero => rfl
  | succ n ih => rw [List.replicate_succ, List.flatten_cons, ih, List.replicate_succ]; rfl
theorem rep_pair {K : PySem.W.Frag} {H : Hp} : ∀ n : Nat, Paired (RefO K H) (List.replicate n V.non) (List.replicate n (none : Option Rf))
  | 0 => .nil
  | n + 1 => .cons rfl (rep_pair n)
theorem cutv_take (xs : List V) {k : Nat} (h : k ≤ xs.length) : cutV xs none (some (k : Int)) = xs.take k := by
  unfold cutV
  rw [HT.sIx_nat, HT.sIx_none, List.drop_zero, Nat.sub_zero, Nat.min_eq_left h]
theorem in_ints (x : Int) (xs : List Int) : inV (.int x) (xs.map V.int) = decide (x ∈ xs) := by
  unfold inV
  induction xs with
  | nil => rfl
  | cons y ys ih =>
    rw [List.map_cons, List.any_cons, ih]
    show (decide (y = x) || decide (x ∈ ys)) = _
    by_cases e : y = x
    · simp [e]
    · have e2 : ¬ x = y := fun z => e z.symm
      simp [e, e2]
theorem flat_ints (xs : List Int) : (xs.map V.int).all flatV = true := by
  rw [List.all_eq_true]
  intro x hx
  obtain ⟨y, _, rfl⟩ := List.mem_map.mp hx
  rfl
theorem Fl.frees {a p : Addr} {o : HO} {H H' : Hp} (f : Fl a H H') (ha : H' a = some o) (h : H' p = none) : H p = none := by
  cases e : H p with
  | none => rfl
  | some u =>
    by_cases z : p = a
    · rw [z] at h; rw [h] at ha; cases ha
    · rw [f _ _ z e] at h; cases h
theorem PhAt.fls {K : PySem.W.Frag} {H H' : Hp} {ls : List Addr} {a : Addr} {r : Ph} (q : PhAt K H a r) (f : Fls ls H H') (hl : ∀ x ∈ ls, Chg H x) : PhAt K H' a r := by
  obtain ⟨dp, q⟩ := q
  refine ⟨dp, f _ _ (fun m => ?_) q⟩
  rcases hl a m with ⟨xs, e⟩ | ⟨xs, e⟩ | ⟨C, dy, A, r, t, e⟩
  · rw [q] at e; cases e
  · rw [q] at e; cases e
  · rw [q] at e
    injection e with e
    injection e with _ _ e
    exact phF_ne e
theorem Sto.run_len {st : Int} : ∀ (ts : List Int) (D : Sto), (ts.foldl (fun d t => d.move t st) D).places.length = D.places.length ∧ (ts.foldl (fun d t => d.move t st) D).owners.length = D.owners.length + ts.length
  | [], _ => ⟨rfl, rfl⟩
  | t :: ts, D => by
    obtain ⟨a, b⟩ := Sto.run_len (st := st) ts (D.move t st)
    obtain ⟨c, d⟩ := move_len D t st
    exact ⟨a.trans c, by show (ts.foldl _ (D.move t st)).owners.length = _; rw [b, d, List.length_cons]; omega⟩
theorem StoreAt.begin {K : PySem.W.Frag} {H H' : Hp} {s : Addr} {A : SA} {rs : List Ph} {D : Sto} (S : StoreAt K H s A rs D) (F : Fl s H H') {dx : Addr} {to : Int} {p q : Addr} (h0 : 0 ≤ to) (h1 : to < rs.length) (cm : ∀ o ∈ D.owed, o = none)
    (ho : H' s = some (.ins (gad "Store" K) dx (stoL { A with vi := p, ha := q } to (D.turns + 1)))) (hp : H p = none) (hv : H' p = some (.lst (List.replicate D.slots.length (.bl false))))
    (hq : (gpP rs to = false ∧ q = A.ha) ∨ (gpP rs to = true ∧ H q = none ∧ q ≠ p ∧ H' q = some (.lst (List.replicate D.hands.length .non)))) :
    StoreAt K H' s { A with vi := p, ha := q } rs (D.begin rs to) ∧ Frm s A { A with vi := p, ha := q } H H' := by
  have Fs : Fls [s] H H' := Fls.one F (List.mem_singleton.mpr rfl)
  have cs : ∀ x ∈ [s], Chg H x := fun x hx => S.chg x (by rw [List.mem_singleton.mp hx]; exact List.mem_cons_self)
  obtain ⟨⟨s0, s1, s2, s3, s4, s5, s6, s7⟩, ⟨b1, b2, b3, b4, b5, b6, b7⟩, ⟨c1, c2, c3, c4, c5, c6⟩, ⟨d1, d2, d3, d4, d5⟩, ⟨e1, e2, e3, e4⟩, ⟨f1, f2, f3⟩, ⟨g1, g2⟩, h1''⟩ := S.ne
  have w := S.wf
  obtain ⟨⟨dy, o1⟩, bk, pl, ow, ⟨kvs, p1, p2⟩, ⟨xs, s1', s2'⟩, vi, ⟨ys, h1', h2'⟩, ⟨zs, m1, m2⟩, nd, wf⟩ := S
  have il : ∀ {a : Addr} {o : HO}, a ≠ s → H a = some o → H' a = some o := fun {a o} m e => F _ _ m e
  have np : ∀ {a : Addr} {o : HO}, H a = some o → p ≠ a := fun {a o} h e => by rw [← e, hp] at h; cases h
  have hbl : ∃ o, H A.bl = some o := by obtain ⟨as, h, _⟩ := bk.ph; exact ⟨_, h⟩
  obtain ⟨ob, hbl⟩ := hbl
  have nq : ∀ {a : Addr} {o : HO}, H a = some o → q ≠ a ∨ q = A.ha := fun {a o} h => by
    rcases hq with ⟨_, e⟩ | ⟨_, e, _⟩
    · exact .inr e
    · exact .inl fun z => by rw [← z, e] at h; cases h
  have hqq : q = A.ha ∨ H q = none := hq.elim (fun z => .inl z.2) fun z => .inr z.2.1
  have hqp : q ≠ p := hq.elim (fun z => by rw [z.2]; exact (np h1').symm) fun z => z.2.2.1
  have qn : ∀ {a : Addr} {o : HO}, H a = some o → a ≠ A.ha → q ≠ a := fun {a o} h n => by
    rcases nq h with z | z
    · exact z
    · rw [z]; exact n.symm
  refine ⟨⟨⟨dx, ho⟩, bk.fls Fs cs (fun m => s0 (List.mem_singleton.mp m).symm), il (Ne.symm s1) pl, il (Ne.symm s2) ow, ⟨kvs, il (Ne.symm s3) p1, L2.Paired.mapP p2 fun _ _ q => q.fls Fs cs⟩, ⟨xs, il (Ne.symm s4) s1', L2.Paired.mapP s2' fun _ _ q => q.fls Fs cs⟩, ?_, ?_, ⟨zs, il (Ne.symm s7) m1, L2.Paired.mapP m2 fun _ _ q => q.fls Fs cs⟩, ?_, w.begin cm h0 h1⟩, ?_⟩
  · show H' p = some (.lst ((List.replicate D.slots.length false).map V.bl))
    rw [List.map_replicate]
    exact hv
  · show ∃ xs, H' q = some (.lst xs) ∧ Paired (RefO K H') xs (if gpP rs to = true then List.replicate D.hands.length none else D.hands)
    rcases hq with ⟨e, rfl⟩ | ⟨e, _, _, h⟩
    · rw [if_neg (by rw [e]; decide)]
      exact ⟨ys, il (Ne.symm s6) h1', L2.Paired.mapP h2' fun _ _ q => q.fls Fs cs⟩
    · rw [if_pos e]
      exact ⟨_, h, rep_pair _⟩
  · have u1 := np o1
    have u2 := np hbl
    have u3 := np pl
    have u4 := np ow
    have u5 := np p1
    have u6 := np s1'
    have u7 := np m1
    have v1 := qn o1 s6
    have v2 := qn hbl b6
    have v3 := qn pl c5
    have v4 := qn ow d4
    have v5 := qn p1 e3
    have v6 := qn s1' f2
    have v7 := qn m1 (Ne.symm h1'')
    simp only [SA.own, List.nodup_cons, List.mem_cons, List.not_mem_nil, not_or, or_false]
    refine ⟨⟨s0, s1, s2, s3, s4, Ne.symm u1, Ne.symm v1, s7⟩, ⟨b1, b2, b3, b4, Ne.symm u2, Ne.symm v2, b7⟩, ⟨c1, c2, c3, Ne.symm u3, Ne.symm v3, c6⟩, ⟨d1, d2, Ne.symm u4, Ne.symm v4, d5⟩, ⟨e1, Ne.symm u5, Ne.symm v5, e4⟩, ⟨Ne.symm u6, Ne.symm v6, f3⟩, ⟨Ne.symm hqp, u7⟩, v7, fun z => z, List.nodup_nil⟩
  · refine ⟨fun a o n h => il (fun e => n (by rw [e]; exact List.mem_cons_self)) h, fun a m => ?_, rfl, rfl, fun _ _ => ⟨_, ho⟩⟩
    simp only [SA.own, List.mem_cons, List.not_mem_nil, or_false] at m ⊢
    rcases m with rfl | rfl | rfl | rfl | rfl | rfl | rfl
    · exact .inl (by simp)
    · exact .inl (by simp)
    · exact .inl (by simp)
    · exact .inl (by simp)
    · exact .inr hp
    · rcases hqq with e | e
      · exact .inl (by simp [e])
      · exact .inr e
    · exact .inl (by simp)
theorem bk_no (l : Addr) {m : Str} (h : ¬ m = "phases") : (bkF l).lookup m = none := by
  unfold bkF
  rw [lookup_putF, if_neg h]
  rfl
theorem nts_len (l : List Nat) : (nts l).length = l.length := by unfold nts; rw [List.length_map]
section
variable {P : Program} [SupP P pFile] {w : World} {K : PySem.W.Frag} {mg : Str → Option Value} {base : Heap}
theorem fs_Store_turn (T : Tx K mg) : FnSk P w K mg base (L2.CX P w) 10 (mad "Store" "turn" K) "skip" (.int 0) (spTurnC K) := by
  refine fnsk_of T.F_Store_turn sc_Store_turn StX.cxUp (fun D doc pm an cdv ct u us v => by cases us <;> rfl) (fun D doc pm an cdv ct u us v => by cases us <;> exact ⟨_, _, _, _, _, _, rfl, rfl, rfl⟩) (fun cdv A outer s H vs Q E hr h => ?_)
  obtain ⟨a, SA', rs, D, k, q, ts, to, rfl, S, hq, few, ⟨cm, cv⟩, k0, hto, nd, rng, mvs, kk⟩ := h
  refine ⟨_, (pss_cons (ps_set (i := 3) sc_Store_turn.nd rfl (Or.inl rfl) (pe_meth (pe_fld (pv 0) rfl) T.c_Book T.m_Book_after (ok_Book_after (P := P) T) (hr.mono (by decide)) (bd_Book_after T) .nil pass0 (pa_cons (pe_fld (pv 0) rfl) pa_nil)))
      (pss_cons (ps_if (pt_not (pt_chain op_le op_lt pe_int (pv 1) (pe_callB call_len_seq (by rfl) T.n_len (by decide +kernel) (pa_cons (pv 3) pa_nil)))) (pss_one (ps_raise rfl (takes_of rfl rfl rfl rfl) (pmk_oex T.ox_NotNow T.ei_NotNow.1 T.ei_NotNow.2 (ok_NotNow_init (P := P) T) (hr.mono (by decide)) (bd_Refused_init T) .nil pass0 rfl T.g_NotNow (pa_cons pe_str (pa_cons (pv 1) pa_nil))))) pss_nil)
      (pss_cons (ps_set (i := 4) sc_Store_turn.nd rfl (Or.inl rfl) (pe_ixO T.o_Book_getitem (fr_Book_getitem (P := P) T) (hr.mono (by decide)) pass0 (pe_fld (pv 0) rfl) (pe_ix ix_tup (pv 3) (pv 1) (fun _ _ => rfl))))
      (pss_cons (ps_for (passes_of rfl) rfl (pi_enumT (by rfl) T.n_enumerate (pa_cons (pv 2) pa_nil)) (pg_tup rfl (pgs_cons (pg_name (i := 5) sc_Store_turn.nd rfl (Or.inl rfl)) (pgs_cons (pg_name (i := 6) sc_Store_turn.nd rfl (Or.inl rfl)) pgs_nil))) (pss_cons (ps_expr (pe_meth (pv 0) T.c_Store T.m_Storecheck (ok_Storecheck (P := P) T) (hr.mono (by decide)) (bd_Storecheck T) .nil (passes_call (takes_of rfl rfl rfl rfl) (fun _ _ _ _ z => z)) (pa_cons pe_str (pa_cons (pv 6) (pa_cons (pe_callB call_len_seq (by rfl) T.n_len (by decide +kernel) (pa_cons (pe_fld (pv 0) rfl) pa_nil)) pa_nil)))))
      (pss_one (ps_if (PW.pt (pw_or (pt_not (pt_val (pe_prop (pv 4) T.c_Phase T.p_Phase_moves (ok_Phase_moves (P := P) T) (hr.mono (by decide)) (bd_Phase_moves T) .nil pass0 rfl))) (pw_or1 (pt_cmpR op_in_seq (pv 6) (pe_slice sl_tup (pv 2) po_none (po_some (pv 5))) (by rfl))))) (pss_one (ps_raise rfl (takes_of rfl rfl rfl rfl) (pmk_oex T.ox_NotNow T.ei_NotNow.1 T.ei_NotNow.2 (ok_NotNow_init (P := P) T) (hr.mono (by decide)) (bd_Refused_init T) .nil pass0 rfl T.g_NotNow (pa_cons pe_str (pa_cons (pv 6) pa_nil))))) pss_nil))))
      (pss_cons (ps_expr (pe_meth (pv 0) T.c_Store T.m_Storeend_phase (ok_Storeend_phase (P := P) T) (hr.mono (by decide)) (bd_Storeend_phase T) .nil pass0 (pa_cons (pe_fld (pv 4) rfl) pa_nil)))
      (pss_cons (ps_fld (pv 0) (pe_ix ix_tup (pv 3) (pv 1) (fun _ _ => rfl)) rfl)
      (pss_cons (ps_fldaug (pv 0) pe_int in_add)
      (pss_cons (ps_fld (pv 0) (pe_op op_rep (pe_lst (pa_cons pe_bl pa_nil)) (pe_callB call_len_seq (by rfl) T.n_len (by decide +kernel) (pa_cons (pe_fld (pv 0) rfl) pa_nil))) rfl)
      (pss_cons (ps_if (pt_val (pe_fld (pv 4) rfl)) (pss_one (ps_fld (pv 0) (pe_op op_rep (pe_lst (pa_cons pe_non pa_nil)) (pe_callB call_len_seq (by rfl) T.n_len (by decide +kernel) (pa_cons (pe_fld (pv 0) rfl) pa_nil))) rfl)) pss_nil)
      (pss_cons (ps_for (passes_of rfl) rfl (pi_tup (pv 2)) (pg_name (i := 6) sc_Store_turn.nd rfl (Or.inl rfl)) (pss_one (ps_expr (pe_meth (pv 0) T.c_Store T.m_Storemove (ok_Storemove (P := P) T) (hr.mono (by decide)) (bd_Storemove T) .nil pass0 (pa_cons (pv 6) (pa_cons (pe_fld (pv 4) rfl) pa_nil))))))
      (pss_one (ps_ret (pe_fld (pv 0) rfl))))))))))))), ?_⟩
  obtain ⟨dx, ho⟩ := S.ob
  obtain ⟨dk, hk⟩ := S.bk.bk
  have er : ((D.row.toNat : Nat) : Int) = D.row := Int.toNat_of_nonneg S.wf.r0
  have r1 := S.wf.r1
  refine ⟨_, rfl, a, _, dx, _, _, rfl, ho, T.c_Store, T.na_Store__book, st_book _ _ _, SA'.b, dk, _, rfl, hk, bk_no _ (by decide +kernel), _, rfl, a, _, dx, _, _, rfl, ho, T.c_Store, T.na_Store__row, st_row _ _ _, SA'.b, SA'.bl, rs, D.row.toNat, (by rw [er]; rfl), S.bk, by omega, fun p H1 np S1 hp => ?_⟩
  have kl : k.toNat < (after rs D.row.toNat).length := (List.getElem?_eq_some_iff.mp hto).1
  have nl : (nts (after rs D.row.toNat)).length = (after rs D.row.toNat).length := nts_len _
  refine ⟨_, rfl, _, _, rfl, rfl, _, rfl, iteD k0 ⟨_, rfl, p, _, rfl, .inr (SqT.of hp), _, _, rfl, rfl, _, rfl, iteNS (by omega) ?_⟩⟩
  have Z1 := S.same S1
  have ho1 := S1 _ _ ho
  have hk1 := S1 _ _ hk
  have hat : atI (nts (after rs D.row.toNat)) k = some (.int (to : Nat)) := atI_nat' k0 (by unfold nts; rw [List.getElem?_map, hto]; rfl)
  have tolt : to < rs.length := after_lt rs _ (by omega) _ (List.mem_of_getElem? hto)
  refine ⟨_, rfl, a, _, dx, _, _, rfl, ho1, T.c_Store, T.na_Store__book, st_book _ _ _, _, rfl, _, rfl, p, _, _, _, rfl, rfl, SqT.of hp, hat, SA'.b, dk, _, rfl, hk1, SA'.b, SA'.bl, rs, (to : Nat), rfl, Z1.bk, fun c ph hph okph hc => ?_⟩
  rw [Int.emod_eq_of_lt (by omega) (by omega), Int.toNat_natCast] at hph
  obtain ⟨dc, hcc⟩ := id hc
  have eS : gpS rs (to : Int) = ph.std := by unfold gpS; rw [Int.toNat_natCast, hph]
  have eP : gpP rs (to : Int) = ph.pau := by unfold gpP; rw [Int.toNat_natCast, hph]
  dsimp only [gName]
  refine ⟨_, rfl, q, _, rfl, SqT.of (S1 _ _ hq), ?_⟩
  refine for_it walk_enumT (fun j σ H' => (∃ q5 q6, σ = [some (.ref a), some (.int k), some (.ref q), some (.ref p), some (.ref c), q5, q6]) ∧ Same H1 H') ⟨⟨_, _, rfl⟩, Same.refl _⟩ (fun j σ H' _ ⟨_, S'⟩ => SqT.of (S' _ _ (S1 _ _ hq))) ?_ ?_
  · rintro j x σ H2 H3 hj ⟨⟨q5, q6, rfl⟩, S2⟩ ⟨q', u, z, rfl, nq', rfl, hu, hz⟩
    rw [List.length_map] at hj
    dsimp only at hu hz
    cases hu
    obtain ⟨t, ht, mt⟩ := mem_get hj
    rw [List.getElem?_map, ht] at hz
    cases hz
    obtain ⟨t0, t1⟩ := rng t mt
    have jl : j < ts.length := hj
    refine ⟨q', _, rfl, SqT.of upd_same, rfl, _, _, rfl, _, _, rfl, rfl, ?_⟩
    have S3 : Same H1 (upd H2 q' (.tup [.int (j : Nat), .int t])) := Same.upd S2 (S2.free nq')
    generalize upd H2 q' (.tup [.int (j : Nat), .int t]) = H3 at S3 ⊢
    have Z3 := Z1.same S3
    have ho3 := S3 _ _ ho1
    have hcc3 := S3 _ _ hcc
    refine ⟨_, rfl, a, dx, _, rfl, ho3, st_no _ _ _ (by decide +kernel), _, rfl, _, rfl, a, _, dx, _, _, rfl, ho3, T.c_Store, T.na_Store__places, st_places _ _ _, _, _, rfl, .inl (SqL.of Z3.pl), a, _, _, _, rfl, fun _ => ?_, fun z => absurd ⟨t0, by simpa using t1⟩ z⟩
    dsimp only
    have mv : gpS rs (to : Int) ≠ 0 := mvs.elim (fun z => by rw [z] at mt; cases mt) id
    refine ⟨_, rfl, c, dc, _, rfl, hcc3, c, ph, rfl, ⟨dc, hcc3⟩, okph, _, rfl, iteE (by rw [decide_eq_true (by rw [← eS]; exact mv)]; rfl) ?_⟩
    refine ⟨_, rfl, _, rfl, _, rfl, _, rfl, q, _, rfl, SqT.of (S3 _ _ (S1 _ _ hq)), fun z => absurd z ?_, fun r nr => ?_⟩
    · rw [List.length_map, HT.sIx_nat]
      intro z
      have := z.2
      omega
    rw [cutv_take _ (by rw [List.length_map]; omega)]
    refine ⟨r, _, rfl, .inr (SqT.of upd_same), rfl, ?_, _, rfl, ?_⟩
    · rw [← List.map_take]
      exact flat_ints _
    · have ni : inV (.int t) ((ts.map V.int).take j) = false := by
        rw [← List.map_take, in_ints]
        refine decide_eq_false fun m => ?_
        obtain ⟨i, hi, e⟩ := List.getElem_of_mem m
        rw [List.getElem_take] at e
        have hi2 : i < j := by rw [List.length_take] at hi; omega
        have := nodup_at nd (List.getElem?_eq_some_iff.mpr ⟨_, e⟩) ht
        omega
      exact iteE (by rw [ni]; rfl) ⟨⟨_, _, rfl⟩, Same.upd S3 (S3.free nr)⟩
  · rintro σ H2 ⟨⟨q5, q6, rfl⟩, S2⟩
    have S2' : Same H H2 := S1.trans S2
    have Z2 := S.same S2'
    have ho2 := S2 _ _ ho1
    have hcc2 := S2 _ _ hcc
    refine ⟨_, rfl, a, dx, _, rfl, ho2, st_no _ _ _ (by decide +kernel), _, rfl, c, _, dc, _, _, rfl, hcc2, T.c_Phase, T.na_Phase_pauses, ph_pauses ph, a, SA', rs, D, ph.pau, ⟨rfl, Z2⟩, ⟨cm, cv⟩, fun H3 S3 => ?_⟩
    dsimp only
    have ho3 := S3 _ _ ho2
    have F3 : Fl a H2 H3 := Fl.same S3
    refine ⟨_, rfl, _, rfl, p, _, _, _, rfl, rfl, SqT.of (S3 _ _ (S2 _ _ hp)), hat, _, rfl, a, _, dx, _, rfl, ho3, T.c_Store, T.na_Store__row, (show (10 : Nat) < 1000 by decide), ?_⟩
    rw [st_set_row]
    have F4 := F3.trans (Fl.cell (l := a) (H := H3) (o := .ins (gad "Store" K) dx (stoL SA' (to : Nat) D.turns)))
    have ho4 : (upd H3 a (.ins (gad "Store" K) dx (stoL SA' (to : Nat) D.turns))) a = some (.ins (gad "Store" K) dx (stoL SA' (to : Nat) D.turns)) := upd_same
    generalize upd H3 a (.ins (gad "Store" K) dx (stoL SA' (to : Nat) D.turns)) = H4 at F4 ho4 ⊢
    refine ⟨_, rfl, a, _, dx, _, _, rfl, ho4, T.c_Store, T.na_Store__turns, st_turns _ _ _, _, _, rfl, rfl, dx, _, ho4, (show (10 : Nat) < 1000 by decide), ?_⟩
    rw [st_set_turns]
    have F5 := F4.trans (Fl.cell (l := a) (H := H4) (o := .ins (gad "Store" K) dx (stoL SA' (to : Nat) (D.turns + 1))))
    have ho5 : (upd H4 a (.ins (gad "Store" K) dx (stoL SA' (to : Nat) (D.turns + 1)))) a = some (.ins (gad "Store" K) dx (stoL SA' (to : Nat) (D.turns + 1))) := upd_same
    generalize upd H4 a (.ins (gad "Store" K) dx (stoL SA' (to : Nat) (D.turns + 1))) = H5 at F5 ho5 ⊢
    obtain ⟨ys, hys, hyp⟩ := Z2.sl
    obtain ⟨xs, hxs, hxp⟩ := Z2.ha
    obtain ⟨⟨s0, s1, s2, s3, s4, s5, s6, s7⟩, _⟩ := Z2.ne
    have ly : ys.length = D.slots.length := Paired.length hyp
    have lx : xs.length = D.hands.length := Paired.length hxp
    have f1 := S.wf.fh
    have f2 := S.wf.fs
    refine ⟨(show (1 : Nat) ≤ sizeLine by decide), fun o6 no6 => ?_⟩
    have t6 : Same H5 (upd H5 o6 (.lst [.bl false])) := Same.new no6
    have c6 : (upd H5 o6 (.lst [.bl false])) o6 = some (.lst [.bl false]) := upd_same
    generalize upd H5 o6 (.lst [.bl false]) = H6 at t6 c6 ⊢
    have F6 := F5.trans (Fl.same t6)
    have ho6 := t6 _ _ ho5
    refine ⟨_, rfl, a, _, dx, _, _, rfl, ho6, T.c_Store, T.na_Store__slots, st_slots _ _ _, _, _, rfl, .inl (SqL.of (F6 _ _ (Ne.symm s4) hys)), o6, _, _, rfl, rfl, c6, by omega, by omega, Nat.le_trans (show _ ≤ 64 by show 1 * ((ys.length : Nat) : Int).toNat ≤ 64; omega) (by decide), fun p7 n7 => ?_⟩
    rw [rep_one, Int.toNat_natCast, ly]
    have np7 : H2 p7 = none := F6.frees ho6 n7
    have F7 := F6.trans (Fl.new (l := a) (o := .lst (List.replicate D.slots.length (.bl false))) n7)
    have c7 : upd H6 p7 (.lst (List.replicate D.slots.length (.bl false))) p7 = some (.lst (List.replicate D.slots.length (.bl false))) := upd_same
    have ho7 := upd_old (u := .lst (List.replicate D.slots.length (.bl false))) n7 ho6
    generalize upd H6 p7 (.lst (List.replicate D.slots.length (.bl false))) = H7 at F7 c7 ho7 ⊢
    refine ⟨_, rfl, a, _, dx, _, rfl, ho7, T.c_Store, T.na_Store__visited, (show (10 : Nat) < 1000 by decide), ?_⟩
    rw [st_set_visited]
    have pa : p7 ≠ a := fun z => by rw [z, ho2] at np7; cases np7
    have F8 := F7.trans (Fl.cell (l := a) (H := H7) (o := .ins (gad "Store" K) dx (stoL { SA' with vi := p7 } (to : Nat) (D.turns + 1))))
    have ho8 : (upd H7 a (.ins (gad "Store" K) dx (stoL { SA' with vi := p7 } (to : Nat) (D.turns + 1)))) a = some (.ins (gad "Store" K) dx (stoL { SA' with vi := p7 } (to : Nat) (D.turns + 1))) := upd_same
    have c8 := upd_oth (u := .ins (gad "Store" K) dx (stoL { SA' with vi := p7 } (to : Nat) (D.turns + 1))) pa c7
    generalize upd H7 a (.ins (gad "Store" K) dx (stoL { SA' with vi := p7 } (to : Nat) (D.turns + 1))) = H8 at F8 ho8 c8 ⊢
    have ca : c ≠ a := fun z => by
      rw [z] at hcc2
      rw [hcc2] at ho2
      injection ho2 with e
      injection e with _ _ e
      exact phF_ne e
    have qa : q ≠ a := fun z => by rw [z, ho] at hq; cases hq
    dsimp only
    refine sseq_w (fun σ H9 => σ = [some (V.ref a), some (V.int k), some (V.ref q), some (V.ref p), some (V.ref c), q5, q6] ∧ ∃ ha, StoreAt K H9 a { SA' with vi := p7, ha := ha } rs (D.begin rs (to : Nat)) ∧ Frm a SA' { SA' with vi := p7, ha := ha } H H9 ∧ H9 q = some (.tup (ts.map V.int)) ∧ PhAt K H9 c ph) (fun D2 en e2 _ _ => ?_) ?_
    · obtain ⟨hcc8⟩ : Nonempty (H8 c = some (.ins (gad "Phase" K) dc (phF ph))) := ⟨F8 _ _ ca hcc2⟩
      refine ⟨_, rfl, c, _, dc, _, _, rfl, hcc8, T.c_Phase, T.na_Phase_pauses, ph_pauses ph, _, rfl, iteB (fun e => ?_) (fun e => ?_)⟩
      · refine ⟨(show (1 : Nat) ≤ sizeLine by decide), fun o9 no9 => ?_⟩
        have t9 : Same H8 (upd H8 o9 (.lst [.non])) := Same.new no9
        have c9 : (upd H8 o9 (.lst [.non])) o9 = some (.lst [.non]) := upd_same
        generalize upd H8 o9 (.lst [.non]) = H9 at t9 c9 ⊢
        have F9 := F8.trans (Fl.same t9)
        have ho9 := t9 _ _ ho8
        have ws : ∃ xs9, H9 SA'.ha = some (.lst xs9) ∧ xs9.length = D.hands.length := ⟨xs, F9 _ _ (Ne.symm s6) hxs, lx⟩
        obtain ⟨xs9, hx9, lx9⟩ := ws
        refine ⟨_, rfl, a, _, dx, _, _, rfl, ho9, T.c_Store, T.na_Store__hands, st_hands _ _ _, _, _, rfl, .inl (SqL.of hx9), o9, _, _, rfl, rfl, c9, by omega, by omega, Nat.le_trans (show _ ≤ 64 by show 1 * ((xs9.length : Nat) : Int).toNat ≤ 64; omega) (by decide), fun p10 n10 => ?_⟩
        rw [rep_one, Int.toNat_natCast, lx9]
        have np10 : H2 p10 = none := F9.frees ho9 n10
        have F10 := F9.trans (Fl.new (l := a) (o := .lst (List.replicate D.hands.length .non)) n10)
        have c10 : upd H9 p10 (.lst (List.replicate D.hands.length .non)) p10 = some (.lst (List.replicate D.hands.length .non)) := upd_same
        have ho10 := upd_old (u := .lst (List.replicate D.hands.length .non)) n10 ho9
        have cv10 := upd_old (u := .lst (List.replicate D.hands.length .non)) n10 (t9 _ _ c8)
        have p107 : p10 ≠ p7 := ne_of_none (t9 _ _ c8) n10 |>.symm
        generalize upd H9 p10 (.lst (List.replicate D.hands.length .non)) = H10 at F10 c10 ho10 cv10 ⊢
        refine ⟨_, rfl, a, _, dx, _, rfl, ho10, T.c_Store, T.na_Store__hands, (show (10 : Nat) < 1000 by decide), ?_⟩
        rw [st_set_hands]
        have pa10 : p10 ≠ a := fun z => by rw [z, ho2] at np10; cases np10
        have F11 := F10.trans (Fl.cell (l := a) (H := H10) (o := .ins (gad "Store" K) dx (stoL { SA' with vi := p7, ha := p10 } (to : Nat) (D.turns + 1))))
        obtain ⟨B, R⟩ := Z2.begin F11 (dx := dx) (p := p7) (q := p10) (by omega) (by omega) cm upd_same np7 (upd_oth pa cv10) (.inr ⟨by rw [eP]; exact e, np10, p107, upd_oth pa10 c10⟩)
        exact en _ _ ⟨rfl, _, B, (Frm.same S2').trans R, F11 _ _ qa (S2' _ _ hq), ⟨dc, F11 _ _ ca hcc2⟩⟩
      · obtain ⟨B, R⟩ := Z2.begin F8 (dx := dx) (p := p7) (q := SA'.ha) (by omega) (by omega) cm ho8 np7 c8 (.inl ⟨by rw [eP]; exact e, rfl⟩)
        exact en _ _ ⟨rfl, _, B, (Frm.same S2').trans R, F8 _ _ qa (S2' _ _ hq), ⟨dc, hcc8⟩⟩
    · rintro σ H9 ⟨rfl, ha, B, R, hq9, hc9⟩
      have lp : (D.begin rs (to : Nat)).places.length = D.places.length := rfl
      have lo : (D.begin rs (to : Nat)).owners.length = D.owners.length := rfl
      have stm : ∀ (ls : List Int) (D0 : Sto), (ls.foldl (fun d t => d.move t ph.std) D0).row = D0.row := fun ls => by
        induction ls with
        | nil => intro _; rfl
        | cons t ls ih => intro D0; exact (ih _).trans rfl
      refine ⟨_, rfl, q, rfl, ⟨_, SqT.of hq9⟩, ?_⟩
      refine for_tup (xs := ts.map V.int) (fun j σ H' => (∃ q6, σ = [some (.ref a), some (.int k), some (.ref q), some (.ref p), some (.ref c), q5, q6]) ∧ Fls (a :: SA.own { SA' with vi := p7, ha := ha }) H9 H' ∧ StoreAt K H' a { SA' with vi := p7, ha := ha } rs ((ts.take j).foldl (fun d t => d.move t ph.std) (D.begin rs (to : Nat)))) ⟨⟨_, rfl⟩, Fls.refl _ _, B⟩ (fun j σ H' _ ⟨_, F', _⟩ => SqT.of (tup_fls hq9 F' B.chg)) ?_ ?_
      · rintro j x σ H' hx ⟨⟨q6, rfl⟩, F', B'⟩
        rw [List.getElem?_map] at hx
        obtain ⟨t, ht, rfl⟩ : ∃ t, ts[j]? = some t ∧ V.int t = x := by
          cases e : ts[j]? with
          | none => rw [e] at hx; cases hx
          | some t => rw [e] at hx; cases hx; exact ⟨t, rfl, rfl⟩
        obtain ⟨jl, _⟩ := List.getElem?_eq_some_iff.mp ht
        obtain ⟨t0, t1⟩ := rng t (List.mem_of_getElem? ht)
        obtain ⟨l1, l2⟩ := Sto.run_len (st := ph.std) (ts.take j) (D.begin rs (to : Nat))
        rw [List.length_take] at l2
        obtain ⟨dx', ho'⟩ := B'.ob
        obtain ⟨dc', hc'⟩ := hc9.fls F' B.chg
        refine ⟨_, rfl, a, dx', _, rfl, ho', st_no _ _ _ (by decide +kernel), _, rfl, _, rfl, c, _, dc', _, _, rfl, hc', T.c_Phase, T.na_Phase_stand, ph_stand ph, a, _, rs, _, t, ph.std, ⟨rfl, B'⟩, by omega, t0, by omega, fun H2 F2 B2 => ?_⟩
        refine ⟨⟨_, rfl⟩, F'.trans F2, ?_⟩
        rw [List.take_add_one, ht, List.foldl_append]
        exact B2
      · rintro σ H' ⟨⟨q6, rfl⟩, F', B'⟩
        rw [List.length_map, List.take_length] at B'
        obtain ⟨dx', ho'⟩ := id B'.ob
        refine ⟨_, rfl, a, _, dx', _, _, rfl, ho', T.c_Store, T.na_Store__row, st_row _ _ _, ?_⟩
        rw [stm]
        refine kk _ _ (R.trans (Frm.fls F' ⟨_, ho'⟩)) ?_
        unfold Sto.turnTo
        rw [eS]
        exact B'
end

end Hue

set_option Elab.async false
set_option linter.all false
set_option maxRecDepth 100000
set_option maxHeartbeats 1000000
set_option pp.maxSteps 3000
namespace Hue
open PySem PySem.Spec PyProof.Rows L2
local macro_rules | `(tactic| walk_at "hp") => `(tactic| first
  | assumption
  | exact upd_same
  | (refine upd_old (by assumption) ?_; walk_at "hp")
  | (refine upd_oth (by assumption) ?_; walk_at "hp")
  | (refine same_get (by assumption) ?_; walk_at "hp")
  | (refine Fl.get (by assumption) (by assumption) ?_; walk_at "hp"))
local macro_rules | `(tactic| walk_at "seq") => `(tactic| first
  | assumption
  | exact T.t_BARRIERS _
  | exact SqL.of (by walk_at "hp")
  | exact SqT.of (by walk_at "hp"))
local macro_rules | `(tactic| walk_at "len") => `(tactic| first
  | exact Or.inl (by walk_at "seq")
  | exact Or.inr (by walk_at "seq"))
local macro_rules | `(tactic| walk_at "at") => `(tactic| first
  | rfl
  | assumption)

/-! ### Store.__init__ -/
def newD (m f : Nat) : Sto := ⟨0, 0, [], [], [], List.replicate m none, List.replicate m false, List.replicate f none, List.replicate f none⟩
def SA.all (A : SA) : List Addr := [A.b, A.bl, A.pl, A.ow, A.po, A.sl, A.vi, A.ha, A.me]
def spStoreInit (K : PySem.W.Frag) : Sp := fun vs H Q _ => ∃ (s dx b bl : Addr) (rs : List Ph) (m f : Nat), vs = [.ref s, .ref b, .int (m : Int), .int (f : Int)] ∧ H s = some (.ins (gad "Store" K) dx []) ∧ BkAt K H b bl rs ∧ m ≤ 64 ∧ f ≤ 64 ∧
  ∀ A H', Fl s H H' → (∀ x ∈ A.all, H x = none) → StoreAt K H' s A rs (newD m f) → Q .non H'
theorem newD_wf {rs : List Ph} (h : 1 ≤ rs.length) {m f : Nat} (hm : m ≤ 64) (hf : f ≤ 64) : Wf rs (newD m f) := by
  refine ⟨Int.le_refl _, by show (0 : Int) < rs.length; omega, by simp [newD], by simp [newD], by show 0 ≤ 5000; omega, Nat.le_refl _, by simp [newD]; exact hm, by simp [newD]; exact hf, fun p hp => (by cases hp), fun p hp => (by cases hp), fun r hr => ?_, fun p hp => (by cases hp), List.nodup_nil, List.nodup_nil, fun h m' hm => ?_, Nat.le_refl _⟩
  · rcases hr with z | z
    · have := List.eq_of_mem_replicate z
      cases this
    · have := List.eq_of_mem_replicate z
      cases this
  · have := List.eq_of_mem_replicate (List.mem_of_getElem? hm)
    cases this
theorem mend_pair {K : PySem.W.Frag} {H : Hp} : ∀ n : Nat, Paired (MnO K H) (List.replicate n V.non) (List.replicate n (none : Option Mnd))
  | 0 => .nil
  | n + 1 => .cons rfl (mend_pair n)
theorem ph_ne (r : Ph) : phF r ≠ [] := fun z => by
  have h := ph_hue r
  rw [z] at h
  cases h
theorem BkAt.flS {K : PySem.W.Frag} {H H' : Hp} {a c l dx C : Addr} {rs : List Ph} (h : BkAt K H c l rs) (e : Fl a H H') (ha : H a = some (.ins C dx [])) (ca : c ≠ a) : BkAt K H' c l rs := by
  obtain ⟨⟨d, h1⟩, ⟨as, h2, h3, h4⟩, h5, h6, h7⟩ := h
  refine ⟨⟨d, e _ _ ca h1⟩, ⟨as, e _ _ (ne_of h2 ha (by intro z; cases z)) h2, h3, fun i x r hx hr => ?_⟩, h5, h6, h7⟩
  refine (h4 i x r hx hr).fl e ?_
  obtain ⟨dp, q⟩ := h4 i x r hx hr
  exact ne_of q ha (by
    intro z
    injection z with _ _ z
    exact ph_ne r z)
section
variable {P : Program} [SupP P pFile] {w : World} {K : PySem.W.Frag} {mg : Str → Option Value} {base : Heap}
theorem ok_Store_init (T : Tx K mg) : FnOk P w K mg base CX0 5 (mad "Store" "__init__" K) (fdD K (mad "Store" "__init__" K)) P_Store_init (spStoreInit K) := by
  refine T.F_Store_init.ok sc_Store_init (fun vs H Q E h => ?_) (fun cdv A outer s H vs Q E hr h => ?_)
  · obtain ⟨s, dx, b, bl, rs, m, f, rfl, _⟩ := h; rfl
  · obtain ⟨a, dx, b, bl, rs, m, f, rfl, ho, B, m64, f64, k⟩ := h
    refine ⟨_, PSs.nox ((pss_cons (ps_fld (pv 0) (pe_meth0 (pv 1) T.c_Book T.m_Book_copy (ok_Book_copy (P := P) T) (hr.mono (by decide)) (bd_Book_copy T) .nil pass0) rfl)
      (pss_cons (ps_fld (pv 0) pe_int rfl)
      (pss_cons (ps_fld (pv 0) pe_int rfl)
      (pss_cons (ps_fld (pv 0) (pe_lst pa_nil) rfl)
      (pss_cons (ps_fld (pv 0) (pe_lst pa_nil) rfl)
      (pss_cons (ps_fld (pv 0) pe_dnewK rfl)
      (pss_cons (ps_fld (pv 0) (pe_op op_rep (pe_lst (pa_cons pe_non pa_nil)) (pv 2)) rfl)
      (pss_cons (ps_fld (pv 0) (pe_op op_rep (pe_lst (pa_cons pe_bl pa_nil)) (pv 2)) rfl)
      (pss_cons (ps_fld (pv 0) (pe_op op_rep (pe_lst (pa_cons pe_non pa_nil)) (pv 3)) rfl)
      (pss_one (ps_fld (pv 0) (pe_op op_rep (pe_lst (pa_cons pe_non pa_nil)) (pv 3)) rfl)))))))))))), ?_⟩
    obtain ⟨dxb, hb⟩ := B.bk
    refine ⟨_, rfl, b, dxb, _, rfl, hb, bk_no bl (by decide +kernel), b, bl, rs, rfl, B, fun c cl H1 nc ncl S1 Bc => ?_⟩
    have ho1 := S1 _ _ ho
    have e0 : H1 a = some (.ins (gad "Store" K) dx []) := ho1
    have g0 : Fl a H H1 := Fl.same S1
    refine ⟨_, rfl, a, _, dx, _, rfl, e0, T.c_Store, T.na_Store__book, (Nat.zero_lt_succ _), ?_⟩
    have f1 : Fl a H1 (upd H1 a (.ins (gad "Store" K) dx (putF "_book" (.ref c) []))) := Fl.cell
    have e1 : (upd H1 a (.ins (gad "Store" K) dx (putF "_book" (.ref c) []))) a = some (.ins (gad "Store" K) dx (putF "_book" (.ref c) [])) := upd_same
    generalize upd H1 a (.ins (gad "Store" K) dx (putF "_book" (.ref c) [])) = H2 at f1 e1 ⊢
    have s1 : Fl a H1 H2 := f1
    have g1 := g0.trans s1
    refine ⟨_, rfl, a, _, dx, _, rfl, e1, T.c_Store, T.na_Store__row, (few (Nat.zero_lt_succ _)), ?_⟩
    have f2 : Fl a H2 (upd H2 a (.ins (gad "Store" K) dx (putF "_row" (.int 0) (putF "_book" (.ref c) [])))) := Fl.cell
    have e2 : (upd H2 a (.ins (gad "Store" K) dx (putF "_row" (.int 0) (putF "_book" (.ref c) [])))) a = some (.ins (gad "Store" K) dx (putF "_row" (.int 0) (putF "_book" (.ref c) []))) := upd_same
    generalize upd H2 a (.ins (gad "Store" K) dx (putF "_row" (.int 0) (putF "_book" (.ref c) []))) = H3 at f2 e2 ⊢
    have s2 : Fl a H2 H3 := f2
    have g2 := g1.trans s2
    refine ⟨_, rfl, a, _, dx, _, rfl, e2, T.c_Store, T.na_Store__turns, (few (few (Nat.zero_lt_succ _))), ?_⟩
    have f3 : Fl a H3 (upd H3 a (.ins (gad "Store" K) dx (putF "_turns" (.int 0) (putF "_row" (.int 0) (putF "_book" (.ref c) []))))) := Fl.cell
    have e3 : (upd H3 a (.ins (gad "Store" K) dx (putF "_turns" (.int 0) (putF "_row" (.int 0) (putF "_book" (.ref c) []))))) a = some (.ins (gad "Store" K) dx (putF "_turns" (.int 0) (putF "_row" (.int 0) (putF "_book" (.ref c) [])))) := upd_same
    generalize upd H3 a (.ins (gad "Store" K) dx (putF "_turns" (.int 0) (putF "_row" (.int 0) (putF "_book" (.ref c) [])))) = H4 at f3 e3 ⊢
    have s3 : Fl a H3 H4 := f3
    have g3 := g2.trans s3
    refine ⟨(show (0 : Nat) ≤ sizeLine by decide), fun p3 np3 => ?_⟩
    have t3 : Same H4 (upd H4 p3 (.lst [])) := Same.new np3
    have c3 : upd H4 p3 (.lst []) p3 = some (.lst []) := upd_same
    generalize upd H4 p3 (.lst []) = J3 at t3 c3 ⊢
    refine ⟨_, rfl, a, _, dx, _, rfl, (t3 _ _ e3), T.c_Store, T.na_Store__places, (few (few (few (Nat.zero_lt_succ _)))), ?_⟩
    have f4 : Fl a J3 (upd J3 a (.ins (gad "Store" K) dx (putF "_places" (.ref p3) (putF "_turns" (.int 0) (putF "_row" (.int 0) (putF "_book" (.ref c) [])))))) := Fl.cell
    have e4 : (upd J3 a (.ins (gad "Store" K) dx (putF "_places" (.ref p3) (putF "_turns" (.int 0) (putF "_row" (.int 0) (putF "_book" (.ref c) [])))))) a = some (.ins (gad "Store" K) dx (putF "_places" (.ref p3) (putF "_turns" (.int 0) (putF "_row" (.int 0) (putF "_book" (.ref c) []))))) := upd_same
    generalize upd J3 a (.ins (gad "Store" K) dx (putF "_places" (.ref p3) (putF "_turns" (.int 0) (putF "_row" (.int 0) (putF "_book" (.ref c) []))))) = H5 at f4 e4 ⊢
    have s4 : Fl a H4 H5 := (Fl.same t3).trans f4
    have g4 := g3.trans s4
    refine ⟨(show (0 : Nat) ≤ sizeLine by decide), fun p4 np4 => ?_⟩
    have t4 : Same H5 (upd H5 p4 (.lst [])) := Same.new np4
    have c4 : upd H5 p4 (.lst []) p4 = some (.lst []) := upd_same
    generalize upd H5 p4 (.lst []) = J4 at t4 c4 ⊢
    refine ⟨_, rfl, a, _, dx, _, rfl, (t4 _ _ e4), T.c_Store, T.na_Store__owners, (few (few (few (few (Nat.zero_lt_succ _))))), ?_⟩
    have f5 : Fl a J4 (upd J4 a (.ins (gad "Store" K) dx (putF "_owners" (.ref p4) (putF "_places" (.ref p3) (putF "_turns" (.int 0) (putF "_row" (.int 0) (putF "_book" (.ref c) []))))))) := Fl.cell
    have e5 : (upd J4 a (.ins (gad "Store" K) dx (putF "_owners" (.ref p4) (putF "_places" (.ref p3) (putF "_turns" (.int 0) (putF "_row" (.int 0) (putF "_book" (.ref c) []))))))) a = some (.ins (gad "Store" K) dx (putF "_owners" (.ref p4) (putF "_places" (.ref p3) (putF "_turns" (.int 0) (putF "_row" (.int 0) (putF "_book" (.ref c) [])))))) := upd_same
    generalize upd J4 a (.ins (gad "Store" K) dx (putF "_owners" (.ref p4) (putF "_places" (.ref p3) (putF "_turns" (.int 0) (putF "_row" (.int 0) (putF "_book" (.ref c) [])))))) = H6 at f5 e5 ⊢
    have s5 : Fl a H5 H6 := (Fl.same t4).trans f5
    have g5 := g4.trans s5
    refine fun p5 np5 => ?_
    have t5 : Same H6 (upd H6 p5 (.dK [])) := Same.new np5
    have c5 : upd H6 p5 (.dK []) p5 = some (.dK []) := upd_same
    generalize upd H6 p5 (.dK []) = J5 at t5 c5 ⊢
    refine ⟨_, rfl, a, _, dx, _, rfl, (t5 _ _ e5), T.c_Store, T.na_Store__posts, (few (few (few (few (few (Nat.zero_lt_succ _)))))), ?_⟩
    have f6 : Fl a J5 (upd J5 a (.ins (gad "Store" K) dx (putF "_posts" (.ref p5) (putF "_owners" (.ref p4) (putF "_places" (.ref p3) (putF "_turns" (.int 0) (putF "_row" (.int 0) (putF "_book" (.ref c) [])))))))) := Fl.cell
    have e6 : (upd J5 a (.ins (gad "Store" K) dx (putF "_posts" (.ref p5) (putF "_owners" (.ref p4) (putF "_places" (.ref p3) (putF "_turns" (.int 0) (putF "_row" (.int 0) (putF "_book" (.ref c) [])))))))) a = some (.ins (gad "Store" K) dx (putF "_posts" (.ref p5) (putF "_owners" (.ref p4) (putF "_places" (.ref p3) (putF "_turns" (.int 0) (putF "_row" (.int 0) (putF "_book" (.ref c) []))))))) := upd_same
    generalize upd J5 a (.ins (gad "Store" K) dx (putF "_posts" (.ref p5) (putF "_owners" (.ref p4) (putF "_places" (.ref p3) (putF "_turns" (.int 0) (putF "_row" (.int 0) (putF "_book" (.ref c) []))))))) = H7 at f6 e6 ⊢
    have s6 : Fl a H6 H7 := (Fl.same t5).trans f6
    have g6 := g5.trans s6
    refine ⟨(show (1 : Nat) ≤ sizeLine by decide), fun o6 no6 => ⟨_, rfl, o6, _, _, rfl, rfl, upd_same, by omega, by omega, Nat.le_trans (show _ ≤ 64 by show 1 * ((m : Nat) : Int).toNat ≤ 64; omega) (by decide), fun p6 np6 => ?_⟩⟩
    rw [rep_one, Int.toNat_natCast]
    have t6 : Same H7 (upd (upd H7 o6 (.lst [.non])) p6 (.lst (List.replicate m .non))) := Same.upd (Same.new no6) (Same.free (Same.new no6) np6)
    have c6 : (upd (upd H7 o6 (.lst [.non])) p6 (.lst (List.replicate m .non))) p6 = some (.lst (List.replicate m .non)) := upd_same
    have nq6 : H7 p6 = none := Same.free (Same.new no6) np6
    generalize upd (upd H7 o6 (.lst [.non])) p6 (.lst (List.replicate m .non)) = J6 at t6 c6 ⊢
    refine ⟨_, rfl, a, _, dx, _, rfl, (t6 _ _ e6), T.c_Store, T.na_Store__slots, (few (few (few (few (few (few (Nat.zero_lt_succ _))))))), ?_⟩
    have f7 : Fl a J6 (upd J6 a (.ins (gad "Store" K) dx (putF "_slots" (.ref p6) (putF "_posts" (.ref p5) (putF "_owners" (.ref p4) (putF "_places" (.ref p3) (putF "_turns" (.int 0) (putF "_row" (.int 0) (putF "_book" (.ref c) []))))))))) := Fl.cell
    have e7 : (upd J6 a (.ins (gad "Store" K) dx (putF "_slots" (.ref p6) (putF "_posts" (.ref p5) (putF "_owners" (.ref p4) (putF "_places" (.ref p3) (putF "_turns" (.int 0) (putF "_row" (.int 0) (putF "_book" (.ref c) []))))))))) a = some (.ins (gad "Store" K) dx (putF "_slots" (.ref p6) (putF "_posts" (.ref p5) (putF "_owners" (.ref p4) (putF "_places" (.ref p3) (putF "_turns" (.int 0) (putF "_row" (.int 0) (putF "_book" (.ref c) [])))))))) := upd_same
    generalize upd J6 a (.ins (gad "Store" K) dx (putF "_slots" (.ref p6) (putF "_posts" (.ref p5) (putF "_owners" (.ref p4) (putF "_places" (.ref p3) (putF "_turns" (.int 0) (putF "_row" (.int 0) (putF "_book" (.ref c) [])))))))) = H8 at f7 e7 ⊢
    have s7 : Fl a H7 H8 := (Fl.same t6).trans f7
    have g7 := g6.trans s7
    refine ⟨(show (1 : Nat) ≤ sizeLine by decide), fun o7 no7 => ⟨_, rfl, o7, _, _, rfl, rfl, upd_same, by omega, by omega, Nat.le_trans (show _ ≤ 64 by show 1 * ((m : Nat) : Int).toNat ≤ 64; omega) (by decide), fun p7 np7 => ?_⟩⟩
    rw [rep_one, Int.toNat_natCast]
    have t7 : Same H8 (upd (upd H8 o7 (.lst [(.bl false)])) p7 (.lst (List.replicate m (.bl false)))) := Same.upd (Same.new no7) (Same.free (Same.new no7) np7)
    have c7 : (upd (upd H8 o7 (.lst [(.bl false)])) p7 (.lst (List.replicate m (.bl false)))) p7 = some (.lst (List.replicate m (.bl false))) := upd_same
    have nq7 : H8 p7 = none := Same.free (Same.new no7) np7
    generalize upd (upd H8 o7 (.lst [(.bl false)])) p7 (.lst (List.replicate m (.bl false))) = J7 at t7 c7 ⊢
    refine ⟨_, rfl, a, _, dx, _, rfl, (t7 _ _ e7), T.c_Store, T.na_Store__visited, (few (few (few (few (few (few (few (Nat.zero_lt_succ _)))))))), ?_⟩
    have f8 : Fl a J7 (upd J7 a (.ins (gad "Store" K) dx (putF "_visited" (.ref p7) (putF "_slots" (.ref p6) (putF "_posts" (.ref p5) (putF "_owners" (.ref p4) (putF "_places" (.ref p3) (putF "_turns" (.int 0) (putF "_row" (.int 0) (putF "_book" (.ref c) [])))))))))) := Fl.cell
    have e8 : (upd J7 a (.ins (gad "Store" K) dx (putF "_visited" (.ref p7) (putF "_slots" (.ref p6) (putF "_posts" (.ref p5) (putF "_owners" (.ref p4) (putF "_places" (.ref p3) (putF "_turns" (.int 0) (putF "_row" (.int 0) (putF "_book" (.ref c) [])))))))))) a = some (.ins (gad "Store" K) dx (putF "_visited" (.ref p7) (putF "_slots" (.ref p6) (putF "_posts" (.ref p5) (putF "_owners" (.ref p4) (putF "_places" (.ref p3) (putF "_turns" (.int 0) (putF "_row" (.int 0) (putF "_book" (.ref c) []))))))))) := upd_same
    generalize upd J7 a (.ins (gad "Store" K) dx (putF "_visited" (.ref p7) (putF "_slots" (.ref p6) (putF "_posts" (.ref p5) (putF "_owners" (.ref p4) (putF "_places" (.ref p3) (putF "_turns" (.int 0) (putF "_row" (.int 0) (putF "_book" (.ref c) []))))))))) = H9 at f8 e8 ⊢
    have s8 : Fl a H8 H9 := (Fl.same t7).trans f8
    have g8 := g7.trans s8
    refine ⟨(show (1 : Nat) ≤ sizeLine by decide), fun o8 no8 => ⟨_, rfl, o8, _, _, rfl, rfl, upd_same, by omega, by omega, Nat.le_trans (show _ ≤ 64 by show 1 * ((f : Nat) : Int).toNat ≤ 64; omega) (by decide), fun p8 np8 => ?_⟩⟩
    rw [rep_one, Int.toNat_natCast]
    have t8 : Same H9 (upd (upd H9 o8 (.lst [.non])) p8 (.lst (List.replicate f .non))) := Same.upd (Same.new no8) (Same.free (Same.new no8) np8)
    have c8 : (upd (upd H9 o8 (.lst [.non])) p8 (.lst (List.replicate f .non))) p8 = some (.lst (List.replicate f .non)) := upd_same
    have nq8 : H9 p8 = none := Same.free (Same.new no8) np8
    generalize upd (upd H9 o8 (.lst [.non])) p8 (.lst (List.replicate f .non)) = J8 at t8 c8 ⊢
    refine ⟨_, rfl, a, _, dx, _, rfl, (t8 _ _ e8), T.c_Store, T.na_Store__hands, (few (few (few (few (few (few (few (few (Nat.zero_lt_succ _))))))))), ?_⟩
    have f9 : Fl a J8 (upd J8 a (.ins (gad "Store" K) dx (putF "_hands" (.ref p8) (putF "_visited" (.ref p7) (putF "_slots" (.ref p6) (putF "_posts" (.ref p5) (putF "_owners" (.ref p4) (putF "_places" (.ref p3) (putF "_turns" (.int 0) (putF "_row" (.int 0) (putF "_book" (.ref c) []))))))))))) := Fl.cell
    have e9 : (upd J8 a (.ins (gad "Store" K) dx (putF "_hands" (.ref p8) (putF "_visited" (.ref p7) (putF "_slots" (.ref p6) (putF "_posts" (.ref p5) (putF "_owners" (.ref p4) (putF "_places" (.ref p3) (putF "_turns" (.int 0) (putF "_row" (.int 0) (putF "_book" (.ref c) []))))))))))) a = some (.ins (gad "Store" K) dx (putF "_hands" (.ref p8) (putF "_visited" (.ref p7) (putF "_slots" (.ref p6) (putF "_posts" (.ref p5) (putF "_owners" (.ref p4) (putF "_places" (.ref p3) (putF "_turns" (.int 0) (putF "_row" (.int 0) (putF "_book" (.ref c) [])))))))))) := upd_same
    generalize upd J8 a (.ins (gad "Store" K) dx (putF "_hands" (.ref p8) (putF "_visited" (.ref p7) (putF "_slots" (.ref p6) (putF "_posts" (.ref p5) (putF "_owners" (.ref p4) (putF "_places" (.ref p3) (putF "_turns" (.int 0) (putF "_row" (.int 0) (putF "_book" (.ref c) [])))))))))) = H10 at f9 e9 ⊢
    have s9 : Fl a H9 H10 := (Fl.same t8).trans f9
    have g9 := g8.trans s9
    refine ⟨(show (1 : Nat) ≤ sizeLine by decide), fun o9 no9 => ⟨_, rfl, o9, _, _, rfl, rfl, upd_same, by omega, by omega, Nat.le_trans (show _ ≤ 64 by show 1 * ((f : Nat) : Int).toNat ≤ 64; omega) (by decide), fun p9 np9 => ?_⟩⟩
    rw [rep_one, Int.toNat_natCast]
    have t9 : Same H10 (upd (upd H10 o9 (.lst [.non])) p9 (.lst (List.replicate f .non))) := Same.upd (Same.new no9) (Same.free (Same.new no9) np9)
    have c9 : (upd (upd H10 o9 (.lst [.non])) p9 (.lst (List.replicate f .non))) p9 = some (.lst (List.replicate f .non)) := upd_same
    have nq9 : H10 p9 = none := Same.free (Same.new no9) np9
    generalize upd (upd H10 o9 (.lst [.non])) p9 (.lst (List.replicate f .non)) = J9 at t9 c9 ⊢
    refine ⟨_, rfl, a, _, dx, _, rfl, (t9 _ _ e9), T.c_Store, T.na_Store__mendings, (few (few (few (few (few (few (few (few (few (Nat.zero_lt_succ _)))))))))), ?_⟩
    have f10 : Fl a J9 (upd J9 a (.ins (gad "Store" K) dx (putF "_mendings" (.ref p9) (putF "_hands" (.ref p8) (putF "_visited" (.ref p7) (putF "_slots" (.ref p6) (putF "_posts" (.ref p5) (putF "_owners" (.ref p4) (putF "_places" (.ref p3) (putF "_turns" (.int 0) (putF "_row" (.int 0) (putF "_book" (.ref c) [])))))))))))) := Fl.cell
    have e10 : (upd J9 a (.ins (gad "Store" K) dx (putF "_mendings" (.ref p9) (putF "_hands" (.ref p8) (putF "_visited" (.ref p7) (putF "_slots" (.ref p6) (putF "_posts" (.ref p5) (putF "_owners" (.ref p4) (putF "_places" (.ref p3) (putF "_turns" (.int 0) (putF "_row" (.int 0) (putF "_book" (.ref c) [])))))))))))) a = some (.ins (gad "Store" K) dx (putF "_mendings" (.ref p9) (putF "_hands" (.ref p8) (putF "_visited" (.ref p7) (putF "_slots" (.ref p6) (putF "_posts" (.ref p5) (putF "_owners" (.ref p4) (putF "_places" (.ref p3) (putF "_turns" (.int 0) (putF "_row" (.int 0) (putF "_book" (.ref c) []))))))))))) := upd_same
    generalize upd J9 a (.ins (gad "Store" K) dx (putF "_mendings" (.ref p9) (putF "_hands" (.ref p8) (putF "_visited" (.ref p7) (putF "_slots" (.ref p6) (putF "_posts" (.ref p5) (putF "_owners" (.ref p4) (putF "_places" (.ref p3) (putF "_turns" (.int 0) (putF "_row" (.int 0) (putF "_book" (.ref c) []))))))))))) = H11 at f10 e10 ⊢
    have s10 : Fl a H10 H11 := (Fl.same t9).trans f10
    have g10 := g9.trans s10
    have na3 : p3 ≠ a := (ne_of_none e3 np3).symm
    have x3_5 : H5 p3 = some (.lst []) := f4 _ _ na3 c3
    have x3_6 : H6 p3 = some (.lst []) := s5 _ _ na3 x3_5
    have x3_7 : H7 p3 = some (.lst []) := s6 _ _ na3 x3_6
    have x3_8 : H8 p3 = some (.lst []) := s7 _ _ na3 x3_7
    have x3_9 : H9 p3 = some (.lst []) := s8 _ _ na3 x3_8
    have x3_10 : H10 p3 = some (.lst []) := s9 _ _ na3 x3_9
    have x3_11 : H11 p3 = some (.lst []) := s10 _ _ na3 x3_10
    have z3 : H p3 = none := g3.free na3 np3
    have na4 : p4 ≠ a := (ne_of_none e4 np4).symm
    have x4_6 : H6 p4 = some (.lst []) := f5 _ _ na4 c4
    have x4_7 : H7 p4 = some (.lst []) := s6 _ _ na4 x4_6
    have x4_8 : H8 p4 = some (.lst []) := s7 _ _ na4 x4_7
    have x4_9 : H9 p4 = some (.lst []) := s8 _ _ na4 x4_8
    have x4_10 : H10 p4 = some (.lst []) := s9 _ _ na4 x4_9
    have x4_11 : H11 p4 = some (.lst []) := s10 _ _ na4 x4_10
    have z4 : H p4 = none := g4.free na4 np4
    have na5 : p5 ≠ a := (ne_of_none e5 np5).symm
    have x5_7 : H7 p5 = some (.dK []) := f6 _ _ na5 c5
    have x5_8 : H8 p5 = some (.dK []) := s7 _ _ na5 x5_7
    have x5_9 : H9 p5 = some (.dK []) := s8 _ _ na5 x5_8
    have x5_10 : H10 p5 = some (.dK []) := s9 _ _ na5 x5_9
    have x5_11 : H11 p5 = some (.dK []) := s10 _ _ na5 x5_10
    have z5 : H p5 = none := g5.free na5 np5
    have na6 : p6 ≠ a := (ne_of_none e6 nq6).symm
    have x6_8 : H8 p6 = some (.lst (List.replicate m .non)) := f7 _ _ na6 c6
    have x6_9 : H9 p6 = some (.lst (List.replicate m .non)) := s8 _ _ na6 x6_8
    have x6_10 : H10 p6 = some (.lst (List.replicate m .non)) := s9 _ _ na6 x6_9
    have x6_11 : H11 p6 = some (.lst (List.replicate m .non)) := s10 _ _ na6 x6_10
    have z6 : H p6 = none := g6.free na6 nq6
    have na7 : p7 ≠ a := (ne_of_none e7 nq7).symm
    have x7_9 : H9 p7 = some (.lst (List.replicate m (.bl false))) := f8 _ _ na7 c7
    have x7_10 : H10 p7 = some (.lst (List.replicate m (.bl false))) := s9 _ _ na7 x7_9
    have x7_11 : H11 p7 = some (.lst (List.replicate m (.bl false))) := s10 _ _ na7 x7_10
    have z7 : H p7 = none := g7.free na7 nq7
    have na8 : p8 ≠ a := (ne_of_none e8 nq8).symm
    have x8_10 : H10 p8 = some (.lst (List.replicate f .non)) := f9 _ _ na8 c8
    have x8_11 : H11 p8 = some (.lst (List.replicate f .non)) := s10 _ _ na8 x8_10
    have z8 : H p8 = none := g8.free na8 nq8
    have na9 : p9 ≠ a := (ne_of_none e9 nq9).symm
    have x9_11 : H11 p9 = some (.lst (List.replicate f .non)) := f10 _ _ na9 c9
    have z9 : H p9 = none := g9.free na9 nq9
    have ca : c ≠ a := (ne_of_none ho nc).symm
    have cla : cl ≠ a := (ne_of_none ho ncl).symm
    obtain ⟨as1, hcl, _⟩ := Bc.ph
    have y_2 := s1 _ _ cla hcl
    have y_3 := s2 _ _ cla y_2
    have y_4 := s3 _ _ cla y_3
    have y_5 := s4 _ _ cla y_4
    have y_6 := s5 _ _ cla y_5
    have y_7 := s6 _ _ cla y_6
    have y_8 := s7 _ _ cla y_7
    have y_9 := s8 _ _ cla y_8
    have y_10 := s9 _ _ cla y_9
    have y_11 := s10 _ _ cla y_10
    have gg : Fl a H1 H11 := (((((((((s1.trans s2).trans s3).trans s4).trans s5).trans s6).trans s7).trans s8).trans s9).trans s10)
    refine k ⟨c, cl, p3, p4, p5, p6, p7, p8, p9⟩ H11 g10 (fun x hx => ?_) ?_
    · simp only [SA.all, List.mem_cons, List.not_mem_nil, or_false] at hx
      rcases hx with rfl | rfl | rfl | rfl | rfl | rfl | rfl | rfl | rfl
      · exact nc
      · exact ncl
      · exact z3
      · exact z4
      · exact z5
      · exact z6
      · exact z7
      · exact z8
      · exact z9
    · refine ⟨⟨dx, e10⟩, Bc.flS gg ho1 ca, x3_11, x4_11, ⟨_, x5_11, .nil⟩, ⟨_, x6_11, rep_pair m⟩, ?_, ⟨_, x8_11, rep_pair f⟩, ⟨_, x9_11, mend_pair f⟩, ?_, newD_wf Bc.n1 m64 f64⟩
      · show H11 p7 = some (.lst ((List.replicate m false).map V.bl))
        rw [List.map_replicate]; exact x7_11
      · have nc' : a ≠ cl := Ne.symm cla
        simp only [SA.own, List.nodup_cons, List.mem_cons, List.not_mem_nil, not_or, or_false]
        exact ⟨⟨nc', Ne.symm na3, Ne.symm na4, Ne.symm na5, Ne.symm na6, Ne.symm na7, Ne.symm na8, Ne.symm na9⟩, ⟨ne_of_none y_4 np3, ne_of_none y_5 np4, ne_of_none y_6 np5, ne_of_none y_7 nq6, ne_of_none y_8 nq7, ne_of_none y_9 nq8, ne_of_none y_10 nq9⟩, ⟨ne_of_none x3_5 np4, ne_of_none x3_6 np5, ne_of_none x3_7 nq6, ne_of_none x3_8 nq7, ne_of_none x3_9 nq8, ne_of_none x3_10 nq9⟩, ⟨ne_of_none x4_6 np5, ne_of_none x4_7 nq6, ne_of_none x4_8 nq7, ne_of_none x4_9 nq8, ne_of_none x4_10 nq9⟩, ⟨ne_of_none x5_7 nq6, ne_of_none x5_8 nq7, ne_of_none x5_9 nq8, ne_of_none x5_10 nq9⟩, ⟨ne_of_none x6_8 nq7, ne_of_none x6_9 nq8, ne_of_none x6_10 nq9⟩, ⟨ne_of_none x7_9 nq8, ne_of_none x7_10 nq9⟩, ne_of_none x8_10 nq9, fun z => z, List.nodup_nil⟩
end

end Hue

set_option Elab.async false
set_option linter.all false
set_option maxRecDepth 100000
set_option maxHeartbeats 1000000
set_option pp.maxSteps 3000
namespace Hue
open PySem PySem.Spec PyProof.Rows L2
local macro_rules | `(tactic| walk_at "hp") => `(tactic| first
  | assumption
  | exact upd_same
  | (refine upd_old (by assumption) ?_; walk_at "hp")
  | (refine upd_oth (by assumption) ?_; walk_at "hp")
  | (refine same_get (by assumption) ?_; walk_at "hp")
  | (refine Fl.get (by assumption) (by assumption) ?_; walk_at "hp"))
local macro_rules | `(tactic| walk_at "seq") => `(tactic| first
  | assumption
  | exact T.t_BARRIERS _
  | exact SqL.of (by walk_at "hp")
  | exact SqT.of (by walk_at "hp"))
local macro_rules | `(tactic| walk_at "len") => `(tactic| first
  | exact Or.inl (by walk_at "seq")
  | exact Or.inr (by walk_at "seq"))
local macro_rules | `(tactic| walk_at "at") => `(tactic| first
  | rfl
  | assumption)

/-! ### do, play: turns of the first thing -/
theorem Frm.updNew {s x : Addr} {A A' : SA} {H H' : Hp} {u : HO} (f : Frm s A A' H H') (n : H x = none) : Frm s A A' H (upd H' x u) := ⟨fun a o na h => upd_oth (ne_of_none h n) (f.keep a o na h), f.new, f.b, f.bl, fun o e => by
  obtain ⟨o', q⟩ := f.there o e
  exact ⟨o', upd_oth (ne_of_none e n) q⟩⟩
theorem yesT {σ : L2.St} {H : Hp} {Q : Bool → Hp → Prop} (h : Q true H) : tYes σ H Q := h
/-- a statement that isn't reached -/
theorem ps_never {X : Cx} {st : Stmt} : PS X st (fun _ _ _ => False) := ⟨fun _ _ _ _ _ _ h => h.elim⟩
def nx (n : Nat) (row : Int) : Nat := (row.toNat + 1) % n
def Sto.turn1 (rs : List Ph) (D : Sto) : Sto := D.turnTo rs ((nx rs.length D.row : Nat) : Int) [0]
def turnsN (rs : List Ph) (D : Sto) : Nat → Sto
  | 0 => D
  | n + 1 => (turnsN rs D n).turn1 rs
theorem after_0 {rs : List Ph} (h : 1 ≤ rs.length) (row : Nat) : (after rs row)[0]? = some ((row + 1) % rs.length) := by
  unfold after
  obtain ⟨m, hm⟩ : ∃ m, rs.length = m + 1 := ⟨rs.length - 1, by omega⟩
  rw [hm]
  rfl
/-- a store that only moves: nothing owed, no visits -/
structure Mv (rs : List Ph) (D : Sto) : Prop where
  mv : ∀ q ∈ rs, q.vis = false ∧ q.std ≠ 0
  ow : ∀ o ∈ D.owed, o = none
  pl : 0 < D.places.length
theorem turn1_len (rs : List Ph) (D : Sto) : (D.turn1 rs).places.length = D.places.length ∧ (D.turn1 rs).owners.length = D.owners.length + 1 ∧ (D.turn1 rs).owed = D.owed ∧ (D.turn1 rs).row = (nx rs.length D.row : Nat) := by
  obtain ⟨a, b⟩ := move_len (D.begin rs ((nx rs.length D.row : Nat) : Int)) 0 (gpS rs ((nx rs.length D.row : Nat) : Int))
  exact ⟨a, b, rfl, rfl⟩
theorem Mv.step {rs : List Ph} {D : Sto} (h : Mv rs D) : Mv rs (D.turn1 rs) := by
  obtain ⟨a, b, c, _⟩ := turn1_len rs D
  exact ⟨h.mv, by rw [c]; exact h.ow, by rw [a]; exact h.pl⟩
theorem Mv.many {rs : List Ph} {D : Sto} (h : Mv rs D) : ∀ n, Mv rs (turnsN rs D n)
  | 0 => h
  | n + 1 => (h.many n).step
theorem turnsN_own (rs : List Ph) (D : Sto) : ∀ n, (turnsN rs D n).owners.length = D.owners.length + n
  | 0 => rfl
  | n + 1 => by
    show ((turnsN rs D n).turn1 rs).owners.length = _
    rw [(turn1_len rs _).2.1, turnsN_own rs D n]
    omega
theorem Mv.calm {rs : List Ph} {D : Sto} (h : Mv rs D) : Calm rs D := ⟨h.ow, fun q hq => (h.mv q (List.mem_of_getElem? hq)).1⟩
theorem Mv.std {rs : List Ph} {D : Sto} (h : Mv rs D) {i : Nat} (hi : i < rs.length) : gpS rs (i : Int) ≠ 0 := by
  obtain ⟨q, hq, mq⟩ := mem_get hi
  unfold gpS
  rw [Int.toNat_natCast, hq]
  exact (h.mv q mq).2
theorem tCase_no {K : PySem.W.Frag} {w z : Str} {is : List Nat} {tb : TS} {tr : V → TS} {a : Addr} {ys : List V} {D : Ends} {σ : L2.St} {H : Hp} (hq : SqT K H a (.str z :: ys)) (n : ¬ z = w) (h : tr (.ref a) D σ H) : tCase K w is tb tr (.ref a) D σ H :=
  ⟨a, z, ys, rfl, hq, fun e => absurd e.1 n, fun _ => h⟩
/-- deeds: turns of the first thing -/
def spDoT (K : PySem.W.Frag) : Sp := fun vs H Q _ => ∃ (s : Addr) (A : SA) (rs : List Ph) (D : Sto) (d : Addr), vs = [.ref s, .ref d] ∧ StoreAt K H s A rs D ∧ H d = some (.tup [.str "turn", .int 0, .int 0]) ∧ D.owners.length < 5000 ∧ Mv rs D ∧
  ∀ A' H', Frm s A A' H H' → StoreAt K H' s A' rs (D.turn1 rs) → Q (.int (nx rs.length D.row : Nat)) H'
section
variable {P : Program} [SupP P pFile] {w : World} {K : PySem.W.Frag} {mg : Str → Option Value} {base : Heap}
theorem ok_Store_do (T : Tx K mg) : FnOk P w K mg base (L2.CX P w) 13 (mad "Store" "do" K) (fdD K (mad "Store" "do" K)) P_Store_do (spDoT K) := by
  refine T.F_Store_do.ok sc_Store_do (fun vs H Q E h => ?_) (fun cdv A outer s H vs Q E hr h => ?_)
  · obtain ⟨s, A, rs, D, d, rfl, _⟩ := h; rfl
  · obtain ⟨a, SA', rs, D, d, rfl, S, hd, few, mv, k⟩ := h
    refine ⟨_, (pss_cons (ps_match (pv 1) (pcs_case rfl sc_Store_do.nd (.cons (i := 2) rfl (Or.inl rfl) (by first | exact Or.inl rfl | exact Or.inr rfl) .nil) (pss_one (ps_ret (pe_meth (pv 0) T.c_Store T.m_Store_make (ok_Store_make (P := P) T) (hr.mono (by decide)) (bd_Store_make T) .nil (passes_call (takes_of rfl rfl rfl rfl) (fun _ _ _ _ z => z)) (pa_cons (pv 2) pa_nil))))
      (pcs_case rfl sc_Store_do.nd (.cons (i := 2) rfl (Or.inl rfl) (by first | exact Or.inl rfl | exact Or.inr rfl) (.cons (i := 3) rfl (Or.inl rfl) (by first | exact Or.inl rfl | exact Or.inr rfl) .nil)) (pss_one (ps_ret (pe_meth (pv 0) T.c_Store T.m_Store_write (ok_Store_write (P := P) T) (hr.mono (by decide)) (bd_Store_write T) .nil (passes_call (takes_of rfl rfl rfl rfl) (fun _ _ _ _ z => z)) (pa_cons (pv 2) (pa_cons (pv 3) pa_nil)))))
      (pcs_case rfl sc_Store_do.nd (.cons (i := 2) rfl (Or.inl rfl) (by first | exact Or.inl rfl | exact Or.inr rfl) (.cons (i := 3) rfl (Or.inl rfl) (by first | exact Or.inl rfl | exact Or.inr rfl) .nil)) (pss_one (ps_ret (pe_meth (pv 0) T.c_Store T.m_Store_read (ok_Store_read (P := P) T) (hr.mono (by decide)) (bd_Store_read T) .nil (passes_call (takes_of rfl rfl rfl rfl) (fun _ _ _ _ z => z)) (pa_cons (pv 2) (pa_cons (pv 3) pa_nil)))))
      (pcs_case rfl sc_Store_do.nd (.cons (i := 2) rfl (Or.inl rfl) (by first | exact Or.inl rfl | exact Or.inr rfl) .nil) (pss_one (ps_ret (pe_meth (pv 0) T.c_Store T.m_Store_mend (ok_Store_mend (P := P) T) (hr.mono (by decide)) (bd_Store_mend T) .nil (passes_call (takes_of rfl rfl rfl rfl) (fun _ _ _ _ z => z)) (pa_cons (pv 2) pa_nil))))
      (pcs_case rfl sc_Store_do.nd (.cons (i := 2) rfl (Or.inl rfl) (by first | exact Or.inl rfl | exact Or.inr rfl) .nil) (pss_one (ps_ret (pe_meth (pv 0) T.c_Store T.m_Store_use (ok_Store_use (P := P) T) (hr.mono (by decide)) (bd_Store_use T) .nil (passes_call (takes_of rfl rfl rfl rfl) (fun _ _ _ _ z => z)) (pa_cons (pv 2) pa_nil))))
      (pcs_case rfl sc_Store_do.nd (.cons (i := 3) rfl (Or.inl rfl) (by first | exact Or.inl rfl | exact Or.inr rfl) .nil) (pss_one (ps_ret (pe_meth (pv 0) T.c_Store T.m_Store_visit (ok_Store_visit (P := P) T) (hr.mono (by decide)) (bd_Store_visit T) .nil (passes_call (takes_of rfl rfl rfl rfl) (fun _ _ _ _ z => z)) (pa_cons (pv 3) pa_nil))))
      (pcs_star (i := 4) (k := 5) rfl sc_Store_do.nd rfl (Or.inl rfl) (by first | exact Or.inl rfl | exact Or.inr rfl) rfl (Or.inl rfl) (by first | exact Or.inl rfl | exact Or.inr rfl) (pss_one (ps_ret (pe_skSB (pv 0) T.c_Store (bmeth_of T.m_Store_turn T.bm_Store_turn (by decide +kernel)) (fs_Store_turn (P := P) T) (hr.mono (by decide)) (passes_call (takes_of rfl rfl rfl rfl) (fun _ _ _ _ z => z)) (pv 5) (pk_cons (pv 4) pk_nil))))
      pcs_nil))))))))
      (pss_one (ps_raise rfl (takes_of rfl rfl rfl rfl) (pmk_oex T.ox_NoSuch T.ei_NoSuch.1 T.ei_NoSuch.2 (ok_NoSuch_init (P := P) T) (hr.mono (by decide)) (bd_Refused_init T) .nil pass0 rfl T.g_NoSuch (pa_cons pe_str (pa_cons pe_int pa_nil)))))), ?_⟩
    obtain ⟨dx, ho⟩ := S.ob
    have hq := SqT.of (K := K) hd
    refine ⟨_, rfl, tCase_no hq (by decide +kernel) (tCase_no hq (by decide +kernel) (tCase_no hq (by decide +kernel) (tCase_no hq (by decide +kernel) (tCase_no hq (by decide +kernel) (tCase_no hq (by decide +kernel) ⟨d, "turn", _, rfl, hq, fun _ y ys e q nq => ?_, fun e => (by cases e), fun n => absurd rfl n⟩)))))⟩
    cases e
    have S1 : Same H (upd H q (.lst [.int 0])) := Same.new nq
    have hq1 : upd H q (.lst [.int 0]) q = some (.lst [.int 0]) := upd_same
    generalize upd H q (.lst [.int 0]) = H1 at S1 hq1 ⊢
    refine ⟨_, rfl, a, dx, _, rfl, S1 _ _ ho, st_no _ _ _ (by decide +kernel), fun q1 nq1 => ?_⟩
    have S2 : Same H (upd H1 q1 (.met (mad "Store" "turn" K) a)) := Same.upd S1 (S1.free nq1)
    have hq2 := upd_old (u := .met (mad "Store" "turn" K) a) nq1 hq1
    have hm2 : upd H1 q1 (.met (mad "Store" "turn" K) a) q1 = some (.met (mad "Store" "turn" K) a) := upd_same
    generalize upd H1 q1 (.met (mad "Store" "turn" K) a) = H2 at S2 hq2 hm2 ⊢
    refine ⟨_, rfl, q, rfl, _, rfl, _, _, rfl, .inr (SqL.of hq2), (show (1 : Nat) ≤ sizeLine by decide), hm2, fun p np => ?_⟩
    have S3 := Same.upd (u := .tup [.int 0]) S2 (S2.free np)
    obtain ⟨l1, l2, l3, l4⟩ := turn1_len rs D
    have r0 := S.wf.r0
    have r1 := S.wf.r1
    have pl := mv.pl
    refine ⟨a, SA', rs, D, 0, p, [0], nx rs.length D.row, rfl, S.same S3, upd_same, (show D.owners.length + 1 ≤ 5000 by omega), mv.calm, by omega, after_0 (by omega) _, by simp, fun t ht => ?_, .inr (mv.std (Nat.mod_lt _ (by omega))), fun A' H' R S' => k A' H' ((Frm.same S3).trans R) S'⟩
    rw [List.mem_singleton.mp ht]
    omega
/-- play of n such deeds, all the same tuple -/
def spPlayT (K : PySem.W.Frag) : Sp := fun vs H Q _ => ∃ (s : Addr) (A : SA) (rs : List Ph) (D : Sto) (l d : Addr) (n : Nat), vs = [.ref s, .ref l] ∧ StoreAt K H s A rs D ∧ H l = some (.lst (List.replicate n (.ref d))) ∧ H d = some (.tup [.str "turn", .int 0, .int 0]) ∧ D.owners.length + n ≤ 5000 ∧ Mv rs D ∧ l ∉ s :: A.own ∧
  ∀ A' H' x, Frm s A A' H H' → StoreAt K H' s A' rs (turnsN rs D n) → x ∉ s :: A'.own → H' x = some (.lst ((List.range n).map fun j => V.int (turnsN rs D (j + 1)).row)) → Q (.ref x) H'
theorem ok_Store_play (T : Tx K mg) : FnOk P w K mg base CX0 16 (mad "Store" "play" K) (fdD K (mad "Store" "play" K)) P_Store_play (spPlayT K) := by
  refine T.F_Store_play.ok sc_Store_play (fun vs H Q E h => ?_) (fun cdv A outer s H vs Q E hr h => ?_)
  · obtain ⟨s, A, rs, D, l, d, n, rfl, _⟩ := h; rfl
  · obtain ⟨a, SA', rs, D, l, d, n, rfl, S, hl, hd, few, mv, nl, k⟩ := h
    refine ⟨_, PSs.nox ((pss_cons (ps_par3 (i := 2) (j := 3) (l := 4) rfl sc_Store_play.nd rfl rfl rfl (by decide) (by decide) (by decide) rfl rfl rfl (pa_cons (pe_fld (pv 0) rfl) (pa_cons (pe_fld (pv 0) rfl) (pa_cons (pe_callTy call_dictD (by rfl) T.n_dict (by decide +kernel) (pa_cons (pe_fld (pv 0) rfl) pa_nil)) pa_nil))) (by rfl))
      (pss_cons (ps_par (i := 5) (j := 6) rfl sc_Store_play.nd rfl rfl (by decide) rfl rfl (pa_cons (pe_callTy call_list_of (by rfl) T.n_list (by decide +kernel) (pa_cons (pe_fld (pv 0) rfl) pa_nil)) (pa_cons (pe_callTy call_list_of (by rfl) T.n_list (by decide +kernel) (pa_cons (pe_fld (pv 0) rfl) pa_nil)) pa_nil)) (by rfl))
      (pss_cons (ps_par (i := 7) (j := 8) rfl sc_Store_play.nd rfl rfl (by decide) rfl rfl (pa_cons (pe_callTy call_list_of (by rfl) T.n_list (by decide +kernel) (pa_cons (pe_fld (pv 0) rfl) pa_nil)) (pa_cons (pe_callTy call_list_of (by rfl) T.n_list (by decide +kernel) (pa_cons (pe_fld (pv 0) rfl) pa_nil)) pa_nil)) (by rfl))
      (pss_cons (ps_par (i := 9) (j := 10) rfl sc_Store_play.nd rfl rfl (by decide) rfl rfl (pa_cons (pe_callTy call_list_of (by rfl) T.n_list (by decide +kernel) (pa_cons (pe_fld (pv 0) rfl) pa_nil)) (pa_cons (pe_callTy call_list_of (by rfl) T.n_list (by decide +kernel) (pa_cons (pe_fld (pv 0) rfl) pa_nil)) pa_nil)) (by rfl))
      (pss_cons (ps_set (i := 11) sc_Store_play.nd rfl (Or.inl rfl) pe_non)
      (pss_cons (ps_finCalm (pss_one (ps_setLc (i := 11) (own := [("deed", 12)]) (g := gName 12) (tt := tYes) rfl sc_Store_play.nd rfl rfl (sw_true rfl rfl rfl (by decide +kernel)) (pi_list (pv 1)) (blkOk_by (own := [("deed", 12)]) (N := N_Store_play) (sc := defScope s_Store_play) (by decide +kernel)) (fun _ _ _ _ _ => (pg_name (i := 12) sc_Store_play.nd rfl (Or.inl rfl))) (fun _ _ _ _ _ => pts_nil) (fun _ _ _ _ _ => (pe_meth (pv 0) T.c_Store T.m_Store_do (ok_Store_do (P := P) T) (hr.mono (by decide)) (bd_Store_do T) .nil passL (pa_cons (pv 12) pa_nil))))) (pss_one (ps_if (pt_cmpR op_isN (pv 11) pe_non (nomark _)) (pss_cons ps_never
      (pss_one ps_never)) pss_nil)))
      (pss_one (ps_ret (pv 11)))))))))), ?_⟩
    obtain ⟨dx, ho⟩ := S.ob
    obtain ⟨ys, hys, _⟩ := S.sl
    obtain ⟨xs, hxs, _⟩ := S.ha
    obtain ⟨zs, hzs, _⟩ := S.me
    obtain ⟨kvs, hkv, _⟩ := S.po
    refine ⟨_, rfl, a, _, dx, _, _, rfl, ho, T.c_Store, T.na_Store__row, st_row _ _ _, _, rfl, a, _, dx, _, _, rfl, ho, T.c_Store, T.na_Store__turns, st_turns _ _ _, _, rfl, a, _, dx, _, _, rfl, ho, T.c_Store, T.na_Store__posts, st_posts _ _ _, SA'.po, _, rfl, .inl hkv, fun p1 n1 => ?_⟩
    have S1 : Same H (upd H p1 (.dK kvs)) := Same.new n1
    generalize upd H p1 (.dK kvs) = H1 at S1 ⊢
    refine ⟨_, _, _, rfl, ?_⟩
    refine ⟨_, rfl, a, _, dx, _, _, rfl, S1 _ _ ho, T.c_Store, T.na_Store__places, st_places _ _ _, SA'.pl, _, rfl, .inl (SqL.of (S1 _ _ S.pl)), fun p2 n2 => ?_⟩
    have S2 : Same H (upd H1 p2 (.lst (D.places.map V.int))) := Same.upd S1 (S1.free n2)
    generalize upd H1 p2 (.lst (D.places.map V.int)) = H2 at S2 ⊢
    refine ⟨_, rfl, a, _, dx, _, _, rfl, S2 _ _ ho, T.c_Store, T.na_Store__owners, st_owners _ _ _, SA'.ow, _, rfl, .inl (SqL.of (S2 _ _ S.ow)), fun p3 n3 => ?_⟩
    have S3 : Same H (upd H2 p3 (.lst (D.owners.map V.int))) := Same.upd S2 (S2.free n3)
    generalize upd H2 p3 (.lst (D.owners.map V.int)) = H3 at S3 ⊢
    refine ⟨_, _, rfl, ?_⟩
    refine ⟨_, rfl, a, _, dx, _, _, rfl, S3 _ _ ho, T.c_Store, T.na_Store__slots, st_slots _ _ _, SA'.sl, _, rfl, .inl (SqL.of (S3 _ _ hys)), fun p4 n4 => ?_⟩
    have S4 : Same H (upd H3 p4 (.lst (ys))) := Same.upd S3 (S3.free n4)
    generalize upd H3 p4 (.lst (ys)) = H4 at S4 ⊢
    refine ⟨_, rfl, a, _, dx, _, _, rfl, S4 _ _ ho, T.c_Store, T.na_Store__visited, st_visited _ _ _, SA'.vi, _, rfl, .inl (SqL.of (S4 _ _ S.vi)), fun p5 n5 => ?_⟩
    have S5 : Same H (upd H4 p5 (.lst (D.seen.map V.bl))) := Same.upd S4 (S4.free n5)
    generalize upd H4 p5 (.lst (D.seen.map V.bl)) = H5 at S5 ⊢
    refine ⟨_, _, rfl, ?_⟩
    refine ⟨_, rfl, a, _, dx, _, _, rfl, S5 _ _ ho, T.c_Store, T.na_Store__hands, st_hands _ _ _, SA'.ha, _, rfl, .inl (SqL.of (S5 _ _ hxs)), fun p6 n6 => ?_⟩
    have S6 : Same H (upd H5 p6 (.lst (xs))) := Same.upd S5 (S5.free n6)
    generalize upd H5 p6 (.lst (xs)) = H6 at S6 ⊢
    refine ⟨_, rfl, a, _, dx, _, _, rfl, S6 _ _ ho, T.c_Store, T.na_Store__mendings, st_mendings _ _ _, SA'.me, _, rfl, .inl (SqL.of (S6 _ _ hzs)), fun p7 n7 => ?_⟩
    have S7 : Same H (upd H6 p7 (.lst (zs))) := Same.upd S6 (S6.free n7)
    generalize upd H6 p7 (.lst (zs)) = H7 at S7 ⊢
    refine ⟨_, _, rfl, ?_⟩
    have Z := S.same S7
    have hl7 := S7 _ _ hl
    have hd7 := S7 _ _ hd
    dsimp only [gName]
    refine ⟨_, rfl, l, rfl, ⟨_, SqL.of hl7⟩, fun x nx' => ?_⟩
    have xbl : x ≠ SA'.bl := fun z => by
      obtain ⟨as, h, _⟩ := Z.bk.ph
      rw [← z, nx'] at h
      cases h
    have xl : x ≠ l := fun z => by rw [z, hl7] at nx'; cases nx'
    have xa : x ≠ a := fun z => by rw [z, S7 _ _ ho] at nx'; cases nx'
    refine lc_list (K := K) (a := l) (xs := List.replicate n (.ref d)) (fun i H' => H' x = some (.lst ((List.range i).map fun j => V.int (turnsN rs D (j + 1)).row)) ∧ ∃ A', Frm a SA' A' H7 H' ∧ StoreAt K H' a A' rs (turnsN rs D i) ∧ x ∉ a :: A'.own) ⟨upd_same, SA', (Frm.same (Same.refl _)).updNew nx', Z.same (Same.new nx'), fun m => ?_⟩ (fun i H' _ ⟨_, A', R, _, _⟩ => SqL.of (R.keep _ _ nl hl7)) ?_ ?_
    · rcases List.mem_cons.mp m with z | z
      · exact xa z
      · rcases Z.chg x (List.mem_cons_of_mem _ z) with ⟨_, q⟩ | ⟨_, q⟩ | ⟨_, _, _, _, _, q⟩ <;> (rw [q] at nx'; cases nx')
    · rintro i y H' hi ⟨hx, A', R, B, nm⟩
      rw [List.getElem?_replicate] at hi
      split at hi
      case isFalse => cases hi
      rename_i il
      cases hi
      have hd' := tup_fls hd7 R.keep Z.chg
      obtain ⟨dx', ho'⟩ := B.ob
      have lo := turnsN_own rs D i
      refine ⟨rfl, yesT (iteT ?_)⟩
      refine ⟨_, rfl, a, dx', _, rfl, ho', st_no _ _ _ (by decide +kernel), _, rfl, a, A', rs, _, d, rfl, B, hd', by omega, mv.many i, fun A2 H2 R2 B2 => ?_⟩
      have hx2 := R2.keep _ _ nm hx
      have nm2 : x ∉ a :: A2.own := fun m => by
        rcases List.mem_cons.mp m with z | z
        · exact xa z
        · rcases R2.new x z with q | q
          · exact nm (List.mem_cons_of_mem _ q)
          · rw [q] at hx; cases hx
      refine ⟨_, hx2, Nat.lt_of_lt_of_le (show _ < 5000 by rw [List.length_map, List.length_range]; omega) (by decide), ?_, A2, (R.trans R2).updNew nx', ?_, nm2⟩
      · rw [upd_same, List.range_succ, List.map_append]
        have e := (turn1_len rs (turnsN rs D i)).2.2.2
        rw [← e]
        rfl
      · refine B2.frame (ls := [x]) (Fls.one Fl.cell (List.mem_singleton.mpr rfl)) (fun q hq => ?_) (fun q hq => ?_)
        · rw [List.mem_singleton.mp hq]
          exact .inl ⟨_, hx2⟩
        · rw [List.mem_singleton.mp hq]
          intro m
          rcases List.mem_cons.mp m with z | z
          · exact xa z
          · rcases List.mem_cons.mp z with z | z
            · rw [(R.trans R2).bl] at z
              exact xbl z
            · exact nm2 (List.mem_cons_of_mem _ z)
    · rintro H' ⟨hx, A', R, B, nm⟩
      rw [List.length_replicate] at hx B
      refine ⟨_, rfl, rfl, _, rfl, iteE (decide_eq_false (by intro z; cases z)) ?_⟩
      exact ⟨_, rfl, k _ _ _ ((Frm.same S7).trans R) B nm hx⟩
end

end Hue

set_option Elab.async false
set_option linter.all false
set_option maxRecDepth 100000
set_option maxHeartbeats 1000000
set_option pp.maxSteps 3000
namespace Hue
open PySem PySem.Spec PyProof.Rows L2
local macro_rules | `(tactic| walk_at "hp") => `(tactic| first
  | assumption
  | exact upd_same
  | (refine upd_old (by assumption) ?_; walk_at "hp")
  | (refine upd_oth (by assumption) ?_; walk_at "hp")
  | (refine same_get (by assumption) ?_; walk_at "hp")
  | (refine Fl.get (by assumption) (by assumption) ?_; walk_at "hp"))
local macro_rules | `(tactic| walk_at "seq") => `(tactic| first
  | assumption
  | exact T.t_BARRIERS _
  | exact SqL.of (by walk_at "hp")
  | exact SqT.of (by walk_at "hp"))
local macro_rules | `(tactic| walk_at "len") => `(tactic| first
  | exact Or.inl (by walk_at "seq")
  | exact Or.inr (by walk_at "seq"))
local macro_rules | `(tactic| walk_at "at") => `(tactic| first
  | rfl
  | assumption)

/-! ### signposts, standings -/
def TAt (H : Hp) (v : V) (x : List Int) : Prop := ∃ t, v = .ref t ∧ H t = some (.tup (x.map V.int))
def TLst (H : Hp) (p : Addr) (L : List (List Int)) : Prop := ∃ xs, H p = some (.lst xs) ∧ Paired (TAt H) xs L
def tD (x : List Int) : PyData := mD (kI x)
theorem tD_eq (x : List Int) : tD x = .tuple (x.map PyData.int) := by
  show PyData.tuple ((x.map Sum.inl).map kD) = _
  rw [List.map_map]
  rfl
theorem tD_lt (x y : List Int) : PySem.W.dataLt (tD x) (tD y) = decide (x < y) := by
  rw [tD_eq, tD_eq, PySem.W.dataLt_tuple]
  exact PySem.W.dataLt_ints _ _
theorem tD_inj (x y : List Int) (h : tD x = tD y) : x = y := by
  rw [tD_eq, tD_eq] at h
  injection h with h
  induction x generalizing y with
  | nil => cases y with
    | nil => rfl
    | cons b y => cases h
  | cons a x ih => cases y with
    | nil => cases h
    | cons b y =>
      rw [List.map_cons, List.map_cons] at h
      injection h with h1 h2
      injection h1 with h1
      rw [h1, ih y h2]
theorem tD_alike (x y : List Int) : PySem.W.alike (tD x) (tD y) = true := by
  rw [tD_eq, tD_eq]
  have z : ∀ x y : List Int, PySem.W.alikeAll (x.map PyData.int) (y.map PyData.int) = true := fun x => by
    induction x with
    | nil => intro y; simp [PySem.W.alikeAll]
    | cons a x ih => intro y; cases y with
      | nil => simp [PySem.W.alikeAll]
      | cons b y => simp [PySem.W.alikeAll, PySem.W.alike, ih]
  simp only [PySem.W.alike, z]
theorem tD_depth (x : List Int) : (tD x).depth ≤ 60 := by
  rw [tD_eq]
  have z : ∀ x : List Int, PyData.depthAll (x.map PyData.int) ≤ 1 := fun x => by
    induction x with
    | nil => simp [PyData.depthAll]
    | cons a x ih => simp [PyData.depthAll, PyData.depth]; exact ih
  have := z x
  simp only [PyData.depth]
  omega
theorem mem_nodup_perm {α : Type} [DecidableEq α] {l m : List α} (h1 : l.Nodup) (h2 : m.Nodup) (h : ∀ x, x ∈ l ↔ x ∈ m) : l.Perm m := (List.perm_ext_iff_of_nodup h1 h2).mpr h
theorem asc_gen {α : Type} {enc : α → PyData} (inj : ∀ x y, enc x = enc y → x = y) {F : V → α → Prop} : ∀ {cs : List (V × PyData)} {ds : List α}, (∀ b ∈ cs, ∃ q, b.2 = enc q ∧ F b.1 q) → cs.map (·.2) = ds.map enc → Paired F (cs.map (·.1)) ds
  | [], [], _, _ => .nil
  | [], d :: ds, _, e => by cases e
  | c :: cs, [], _, e => by cases e
  | c :: cs, d :: ds, h, e => by
    rw [List.map_cons, List.map_cons] at e
    injection e with e1 e2
    obtain ⟨q, h1, h2⟩ := h c List.mem_cons_self
    rw [h1] at e1
    rw [← inj _ _ e1]
    exact .cons h2 (asc_gen inj (fun b hb => h b (List.mem_cons_of_mem _ hb)) e2)
theorem TAt.same {H H' : Hp} {v : V} {x : List Int} (h : TAt H v x) (S : Same H H') : TAt H' v x := by
  obtain ⟨t, e, q⟩ := h
  exact ⟨t, e, S _ _ q⟩
theorem TAt.upd_l {H : Hp} {x : Addr} {o : List V} {u : HO} {v : V} {y : List Int} (h : TAt H v y) (hx : H x = some (.lst o)) : TAt (upd H x u) v y := by
  obtain ⟨t, e, q⟩ := h
  exact ⟨t, e, upd_oth (ne_of q hx (by intro z; cases z)) q⟩
theorem bs_of {H : Hp} : ∀ {xs : List V} {L : List (List Int)}, Paired (TAt H) xs L → ∃ bs : List (V × PyData), bs.map (·.1) = xs ∧ bs.map (·.2) = L.map tD ∧ ∀ b ∈ bs, ∃ x ∈ L, b.2 = tD x ∧ TAt H b.1 x
  | _, _, .nil => ⟨[], rfl, rfl, fun b h => by cases h⟩
  | _, _, .cons (a := v) (b := x) f t => by
    obtain ⟨bs, h1, h2, h3⟩ := bs_of t
    refine ⟨(v, tD x) :: bs, by rw [List.map_cons, h1], by rw [List.map_cons, h2]; rfl, fun b hb => ?_⟩
    rcases List.mem_cons.mp hb with e | hb
    · rw [e]; exact ⟨x, List.mem_cons_self, rfl, f⟩
    · obtain ⟨y, m, e⟩ := h3 b hb
      exact ⟨y, List.mem_cons_of_mem _ m, e⟩
theorem sortable_tD {L : List (List Int)} (ne : ∀ x ∈ L, x ≠ []) : PySem.W.Sortable (L.map tD) := .inl fun d hd => by
  obtain ⟨x, hx, rfl⟩ := List.mem_map.mp hd
  cases x with
  | nil => exact absurd rfl (ne _ hx)
  | cons a x => exact ⟨.int a, x.map PyData.int, by rw [tD_eq]; rfl⟩
theorem alike_tD (L : List (List Int)) : PySem.W.AllAlike (L.map tD) := fun d hd d' hd' => by
  obtain ⟨x, hx, rfl⟩ := List.mem_map.mp hd
  obtain ⟨y, hy, rfl⟩ := List.mem_map.mp hd'
  exact tD_alike x y
theorem asc_tD {L : List (List Int)} (asc : L.Pairwise (· < ·)) : (L.map tD).Pairwise fun a b => PySem.W.dataLt a b = true := List.pairwise_map.mpr (asc.imp fun {a b} h => by rw [tD_lt]; exact decide_eq_true h)
theorem sortedTL {K : PySem.W.Frag} {H : Hp} {a : Addr} {L : List (List Int)} {Q : VK} (h : TLst H a L) (asc : L.Pairwise (· < ·)) (ne : ∀ x ∈ L, x ≠ []) (k : ∀ p H', H p = none → Same H H' → TLst H' p L → Q (.ref p) H') : rSortedD K [V.ref a] H Q := by
  obtain ⟨xs, ha, hx⟩ := h
  obtain ⟨bs, e1, e2, e3⟩ := bs_of hx
  refine ⟨a, bs, rfl, by rw [e1]; exact SqL.of ha, fun b hb => ?_, by rw [e2]; exact alike_tD L, by rw [e2]; exact sortable_tD ne, fun b hb => ?_, fun p np => ?_⟩
  · obtain ⟨x, _, e, t, ev, ht⟩ := e3 b hb
    rw [e, ev]
    exact mD_dp (by rw [kI_kV]; exact SqT.of ht)
  · obtain ⟨x, _, e, _⟩ := e3 b hb
    rw [e]
    exact tD_depth x
  · have S : Same H (upd H p (.lst ((ascD bs).map (·.1)))) := Same.new np
    refine k p _ np S ⟨_, upd_same, asc_gen tD_inj (fun b hb => ?_) (ascD_data (by rw [e2]) (asc_tD asc))⟩
    obtain ⟨x, _, e, t⟩ := e3 b (ascD_mem hb)
    exact ⟨x, e, t.same S⟩
theorem ks_of {H : Hp} : ∀ {xs : List V} {L : List (List Int)}, Paired (TAt H) xs L → ∃ ks : List (Addr × List Int), xs = ks.map (fun p => V.ref p.1) ∧ L = ks.map (·.2) ∧ ∀ p ∈ ks, H p.1 = some (.tup (p.2.map V.int))
  | _, _, .nil => ⟨[], rfl, rfl, fun b h => by cases h⟩
  | _, _, .cons (a := v) (b := x) f t => by
    obtain ⟨ks, h1, h2, h3⟩ := ks_of t
    obtain ⟨q, rfl, hq⟩ := f
    refine ⟨(q, x) :: ks, by rw [List.map_cons, ← h1], by rw [List.map_cons, ← h2], fun b hb => ?_⟩
    rcases List.mem_cons.mp hb with e | hb
    · rw [e]; exact hq
    · exact h3 b hb
theorem rwI_tD (L : List (Addr × List Int)) : (rwI L).map (·.2) = (L.map (·.2)).map tD := by
  unfold rwI
  rw [List.map_map, List.map_map]
  rfl
theorem asc_nodup {L : List (List Int)} (asc : L.Pairwise (· < ·)) : L.Nodup := asc.imp fun {a b} h e => by
  rw [e] at h
  exact List.lt_irrefl b h
theorem tif_val {t : TT} {i j : Int} {σ : L2.St} {H : Hp} {Q : VK} (b : Bool) (ht : ∀ R : Bool → Hp → Prop, R b H → t σ H R) (h : Q (.int (if b then i else j)) H) : tIf t (tC (.int i)) (tC (.int j)) σ H Q := ht _ (by
  cases b
  · exact iteF h
  · exact iteT h)
def poX (t : Int) (q : Int × (Int × Int)) : Option (List Int) := if q.2.2 > t then some [q.1, q.2.1, q.2.2 - t] else none
def Sto.poL (D : Sto) : List (List Int) := D.posts.filterMap (poX D.turns)
def Sto.stX (D : Sto) (h : Int) (r : Rf) : List Int := [D.row, h, r.2, D.left r.1]
def Sto.stL (D : Sto) : List (List Int) := D.hands.filterMap (Option.map (D.stX 0)) ++ (D.slots.zip D.seen).filterMap fun q => q.1.map (D.stX (if q.2 then 2 else 1))
def spStanding (K : PySem.W.Frag) : Sp := fun vs H Q _ => ∃ s A rs D, ∃ (h : Int) (a : Addr) (r : Rf), StA K vs H s A rs D [.int h, .ref a] ∧ RfAt K H a r.1 r.2 ∧ 0 ≤ r.1 ∧ ∀ t H', H t = none → Same H H' → H' t = some (.tup ((D.stX h r).map V.int)) → Q (.ref t) H'
def spPosts (K : PySem.W.Frag) : Sp := fun vs H Q _ => ∃ s A rs D, StA K vs H s A rs D [] ∧ D.poL.Pairwise (· < ·) ∧ ∀ p H', H p = none → Same H H' → TLst H' p D.poL → Q (.ref p) H'
def spStands (K : PySem.W.Frag) : Sp := fun vs H Q _ => ∃ s A rs D, ∃ ys : List (List Int), StA K vs H s A rs D [] ∧ D.slots.length + D.hands.length < 64 ∧ ys.Pairwise (· < ·) ∧ (∀ x, x ∈ ys ↔ x ∈ D.stL) ∧ ∀ p H', H p = none → Same H H' → TLst H' p ys → Q (.ref p) H'
section
variable {P : Program} [SupP P pFile] {w : World} {K : PySem.W.Frag} {mg : Str → Option Value} {base : Heap}
theorem ok_Storestanding (T : Tx K mg) : FnOk P w K mg base CX0 3 (mad "Store" "_standing" K) (fdD K (mad "Store" "_standing" K)) P_Storestanding (spStanding K) := by
  refine T.F_Storestanding.ok sc_Storestanding (fun vs H Q E h => ?_) (fun cdv A outer s H vs Q E hr h => ?_)
  · obtain ⟨s, A, rs, D, h, b, r, ⟨rfl, _⟩, _⟩ := h; rfl
  · obtain ⟨a, SA', rs, D, h, b, r, ⟨rfl, S⟩, ⟨db, hb⟩, p0, k⟩ := h
    refine ⟨_, PSs.nox ((pss_one (ps_ret (pe_tup (pa_cons (pe_fld (pv 0) rfl) (pa_cons (pv 1) (pa_cons (pe_fld (pv 2) rfl) (pa_cons (pe_meth (pv 0) T.c_Store T.m_Storeleft (ok_Storeleft (P := P) T) (hr.mono (by decide)) (bd_Storeleft T) .nil pass0 (pa_cons (pv 2) pa_nil)) pa_nil)))))))), ?_⟩
    obtain ⟨dx, ho⟩ := S.ob
    exact ⟨_, rfl, a, _, dx, _, _, rfl, ho, T.c_Store, T.na_Store__row, st_row _ _ _, _, rfl, _, rfl, b, _, db, _, _, rfl, hb, T.c_Ref, T.na_Ref_hue, rf_hue _ _, _, rfl, a, dx, _, rfl, ho, st_no _ _ _ (by decide +kernel), _, rfl, a, SA', rs, D, b, r, ⟨rfl, S⟩, ⟨db, hb⟩, p0, (show (4 : Nat) ≤ sizeLine by decide), fun t nt => k t _ nt (Same.new nt) upd_same⟩
theorem ok_Store_signposts (T : Tx K mg) : FnOk P w K mg base CX0 4 (mad "Store" "signposts" K) (fdD K (mad "Store" "signposts" K)) P_Store_signposts (spPosts K) := by
  refine T.F_Store_signposts.ok sc_Store_signposts (fun vs H Q E h => ?_) (fun cdv A outer s H vs Q E hr h => ?_)
  · obtain ⟨s, A, rs, D, ⟨rfl, _⟩, _⟩ := h; rfl
  · obtain ⟨a, SA', rs, D, ⟨rfl, S⟩, asc, k⟩ := h
    refine ⟨_, PSs.nox ((pss_one (ps_ret (pe_callB (cr_sortedD (room65 hr)) (by rfl) T.n_sorted (by decide +kernel) (pa_cons (pe_lock (pe_lc (own := [("old", 1), ("new", 2), ("end", 3)]) rfl sc_Store_signposts.nd (pi_items (pe_fld (pv 0) rfl)) (blkOk_by (own := [("old", 1), ("new", 2), ("end", 3)]) (N := N_Store_signposts) (sc := defScope s_Store_signposts) (by decide +kernel)) (fun _ _ _ _ _ => (pg_tupK (K := K) (n := 2) rfl rfl (pgs_cons (pg_name (i := 1) sc_Store_signposts.nd rfl (Or.inl rfl)) (pgs_cons (pg_tupK (K := K) (n := 2) rfl rfl (pgs_cons (pg_name (i := 2) sc_Store_signposts.nd rfl (Or.inl rfl)) (pgs_cons (pg_name (i := 3) sc_Store_signposts.nd rfl (Or.inl rfl)) pgs_nil))) pgs_nil)))) (fun _ _ _ _ _ => (pts_one (pt_cmpR op_gt (pv 3) (pe_fldK (K := K) rfl (pv 0) rfl) (nomark _)))) (fun _ _ _ _ _ => (pe_tup (pa_cons (pv 1) (pa_cons (pv 2) (pa_cons (pe_op op_sub (pv 3) (pe_fldK (K := K) rfl (pv 0) rfl)) pa_nil))))))) pa_nil))))), ?_⟩
    obtain ⟨dx, ho⟩ := S.ob
    obtain ⟨kvs, hkv, hpp⟩ := S.po
    have ap : a ≠ SA'.po := fun z => by rw [← z, ho] at hkv; cases hkv
    refine ⟨SA'.po, _, hkv, by trivial, fun od => ?_⟩
    have ho1 := upd_oth (u := .frz od (.dK kvs)) ap ho
    have hk1 : upd H SA'.po (.frz od (.dK kvs)) SA'.po = some (.frz od (.dK kvs)) := upd_same
    have oth1 : ∀ x o, x ≠ SA'.po → H x = some o → upd H SA'.po (.frz od (.dK kvs)) x = some o := fun x o n e => upd_oth n e
    have back : ∀ {H' : Hp}, Same (upd H SA'.po (.frz od (.dK kvs))) H' → Same H (upd H' SA'.po (.dK kvs)) := fun {H'} S' b o e => by
      by_cases z : b = SA'.po
      · rw [z, hkv] at e; rw [z, upd_same]; exact e
      · exact upd_oth z (S' _ _ (upd_oth z e))
    generalize upd H SA'.po (.frz od (.dK kvs)) = H1 at ho1 hk1 oth1 back ⊢
    refine ⟨_, rfl, a, _, dx, _, _, rfl, ho1, T.c_Store, T.na_Store__posts, st_posts _ _ _, SA'.po, od, kvs, rfl, hk1, fun x nx' => ?_⟩
    refine lc_it walk_items (fun i H' => ∃ xs, H' x = some (.lst xs) ∧ Paired (TAt H') xs ((D.posts.take i).filterMap (poX D.turns)) ∧ Same H1 H') ⟨[], upd_same, .nil, Same.new nx'⟩ (fun i H' _ ⟨_, _, _, S'⟩ => S' _ _ hk1) ?_ ?_
    · rintro i y H2 H3 hi ⟨xs, hx, hp, S2⟩ ⟨q', u, z, rfl, nq', rfl, hu, hz⟩
      obtain ⟨kv, hkv', mkv⟩ := mem_get hi
      dsimp only at hu hz
      rw [hkv'] at hu hz
      cases hu
      cases hz
      obtain ⟨p, hp', ek, t, ev, ht⟩ := pair_at' hpp hkv'
      have tpo : t ≠ SA'.po := fun z => by rw [z, hkv] at ht; cases ht
      have ht2 := S2 _ _ (oth1 _ _ tpo ht)
      have S3 : Same H1 (upd H2 q' (.tup [kV kv.1, kv.2])) := Same.upd S2 (S2.free nq')
      have hq3 : upd H2 q' (.tup [kV kv.1, kv.2]) q' = some (.tup [kV kv.1, kv.2]) := upd_same
      have hx3 := upd_old (u := .tup [kV kv.1, kv.2]) nq' hx
      have ht3 := upd_old (u := .tup [kV kv.1, kv.2]) nq' ht2
      have S23 : Same H2 (upd H2 q' (.tup [kV kv.1, kv.2])) := Same.new nq'
      generalize upd H2 q' (.tup [kV kv.1, kv.2]) = H3 at S3 hq3 hx3 ht3 S23 ⊢
      have ho3 := S3 _ _ ho1
      rw [ek, ev] at hq3
      have fewp : i < 5000 := by
        have l1 : kvs.length = D.posts.length := Paired.length hpp
        have l2 := S.wf.fq
        have l3 := S.wf.few
        omega
      have tk : (D.posts.take (i + 1)).filterMap (poX D.turns) = (D.posts.take i).filterMap (poX D.turns) ++ (poX D.turns p).toList := by
        rw [List.take_add_one, hp', List.filterMap_append]
        rfl
      refine ⟨q', _, rfl, SqT.of hq3, rfl, _, _, rfl, _, _, rfl, t, _, rfl, SqT.of ht3, rfl, _, _, rfl, _, _, rfl, rfl, rfl, rfl, _, rfl, _, rfl, a, _, dx, _, _, rfl, ho3, T.c_Store, T.na_Store__turns, st_turns _ _ _, _, _, rfl, rfl, _, rfl, iteB (fun c => ?_) (fun c => ?_)⟩
      · have c1 : D.turns < p.2.2 := of_decide_eq_true c
        refine ⟨_, rfl, _, rfl, _, rfl, _, rfl, a, _, dx, _, _, rfl, ho3, T.c_Store, T.na_Store__turns, st_turns _ _ _, _, _, rfl, rfl, (show (3 : Nat) ≤ sizeLine by decide), fun r nr => ?_⟩
        dsimp only [kV]
        have S4 := S3.trans (Same.new (u := .tup [.int p.1, .int p.2.1, .int (p.2.2 - D.turns)]) nr)
        have hx4 := upd_old (u := .tup [.int p.1, .int p.2.1, .int (p.2.2 - D.turns)]) nr hx3
        have hr4 : upd H3 r (.tup [.int p.1, .int p.2.1, .int (p.2.2 - D.turns)]) r = some (.tup [.int p.1, .int p.2.1, .int (p.2.2 - D.turns)]) := upd_same
        have S34 := S23.trans (Same.new (u := .tup [.int p.1, .int p.2.1, .int (p.2.2 - D.turns)]) nr)
        generalize upd H3 r (.tup [.int p.1, .int p.2.1, .int (p.2.2 - D.turns)]) = H4 at S4 hx4 hr4 S34 ⊢
        have lx : xs.length ≤ i := by
          rw [Paired.length hp]
          refine Nat.le_trans (List.length_filterMap_le _ _) ?_
          rw [List.length_take]
          omega
        refine ⟨xs, hx4, Nat.lt_of_lt_of_le (show _ < 5000 by omega) (by decide), _, upd_same, ?_, Same.upd S4 nx'⟩
        rw [tk, show poX D.turns p = some [p.1, p.2.1, p.2.2 - D.turns] from if_pos c1]
        exact paired_snoc' (TAt.upd_l (show TAt H4 (.ref r) [p.1, p.2.1, p.2.2 - D.turns] from ⟨r, rfl, hr4⟩) hx4) (L2.Paired.mapP hp fun _ _ q => (q.same S34).upd_l hx4)
      · have c1 : ¬ D.turns < p.2.2 := of_decide_eq_false c
        refine ⟨xs, hx3, ?_, S3⟩
        rw [tk, show poX D.turns p = none from if_neg c1]
        show Paired (TAt H3) xs (_ ++ [])
        rw [List.append_nil]
        exact L2.Paired.mapP hp fun _ _ q => q.same S23
    · rintro H2 ⟨xs, hx, hp, S2⟩
      have l1 : kvs.length = D.posts.length := Paired.length hpp
      rw [l1, List.take_length] at hp
      refine ⟨S2 _ _ hk1, ?_⟩
      have xpo : x ≠ SA'.po := fun z => by rw [z, hk1] at nx'; cases nx'
      have B := back S2
      have T1 : TLst (upd H2 SA'.po (.dK kvs)) x D.poL := ⟨xs, upd_oth xpo hx, L2.Paired.mapP hp fun _ _ ⟨t, e, q⟩ => ⟨t, e, upd_oth (ne_of q (S2 _ _ hk1) (by intro z; cases z)) q⟩⟩
      refine sortedTL T1 asc (fun y hy => ?_) fun p H3 np S3 T3 => k p H3 (B.free np) (B.trans S3) T3
      obtain ⟨p, _, hp⟩ := List.mem_filterMap.mp hy
      unfold poX at hp
      split at hp
      · cases hp; intro z; cases z
      · cases hp
theorem ok_Store_standings (T : Tx K mg) : FnOk P w K mg base CX0 5 (mad "Store" "standings" K) (fdD K (mad "Store" "standings" K)) P_Store_standings (spStands K) := by
  refine T.F_Store_standings.ok sc_Store_standings (fun vs H Q E h => ?_) (fun cdv A outer s H vs Q E hr h => ?_)
  · obtain ⟨s, A, rs, D, ys, ⟨rfl, _⟩, _⟩ := h; rfl
  · obtain ⟨a, SA', rs, D, ys, ⟨rfl, S⟩, few, asc, mm, k⟩ := h
    refine ⟨_, PSs.nox ((pss_cons (ps_setLc (i := 2) (own := [("ref", 1)]) (g := gName 1) rfl sc_Store_standings.nd rfl rfl (sw_true rfl rfl rfl (by decide +kernel)) (pi_list (pe_fld (pv 0) rfl)) (blkOk_by (own := [("ref", 1)]) (N := N_Store_standings) (sc := defScope s_Store_standings) (by decide +kernel)) (fun _ _ _ _ _ => (pg_name (i := 1) sc_Store_standings.nd rfl (Or.inl rfl))) (fun _ _ _ _ _ => (pts_one (pt_cmpR op_notN (pv 1) pe_non (nomark _)))) (fun _ _ _ _ _ => (pe_meth (pv 0) T.c_Store T.m_Storestanding (ok_Storestanding (P := P) T) (hr.mono (by decide)) (bd_Storestanding T) .nil pass0 (pa_cons pe_int (pa_cons (pv 1) pa_nil)))))
      (pss_cons (ps_for PassesOwn.never rfl (pi_zip (by rfl) T.n_zip (pa_cons (pe_fld (pv 0) rfl) (pa_cons (pe_fld (pv 0) rfl) pa_nil))) (pg_tup rfl (pgs_cons (pg_name (i := 1) sc_Store_standings.nd rfl (Or.inl rfl)) (pgs_cons (pg_name (i := 3) sc_Store_standings.nd rfl (Or.inl rfl)) pgs_nil))) (pss_one (ps_if (pt_cmpR op_notN (pv 1) pe_non (nomark _)) (pss_one (ps_expr (pe_bm PySem.F.plainAttrs_list PySem.F.slot_list_append PySem.F.type_list_append mt_append (pv 2) (pa_cons (pe_meth (pv 0) T.c_Store T.m_Storestanding (ok_Storestanding (P := P) T) (hr.mono (by decide)) (bd_Storestanding T) .nil pass0 (pa_cons (pe_ifExp (pt_val (pv 3)) pe_int pe_int) (pa_cons (pv 1) pa_nil))) pa_nil)))) pss_nil)))
      (pss_one (ps_ret (pe_callB (cr_sortedI rfl (room65 hr)) (by rfl) T.n_sorted (by decide +kernel) (pa_cons (pe_callTy (cr_setOfT rfl (Nat.lt_of_succ_lt (room65 hr))) (by rfl) T.n_set (by decide +kernel) (pa_cons (pv 2) pa_nil)) pa_nil))))))), ?_⟩
    obtain ⟨dx, ho⟩ := S.ob
    obtain ⟨xh, hxh, hph⟩ := S.ha
    obtain ⟨xl, hxl, hpl⟩ := S.sl
    have f1 := S.wf.fh
    have f2 := S.wf.fs
    have vis := S.wf.vis
    refine ⟨_, rfl, a, _, dx, _, _, rfl, ho, T.c_Store, T.na_Store__hands, st_hands _ _ _, SA'.ha, rfl, ⟨_, SqL.of hxh⟩, fun x nx' => ?_⟩
    refine lc_list (K := K) (a := SA'.ha) (xs := xh) (fun i H' => ∃ xs, H' x = some (.lst xs) ∧ Paired (TAt H') xs ((D.hands.take i).filterMap (Option.map (D.stX 0))) ∧ Same H H') ⟨[], upd_same, .nil, Same.new nx'⟩ (fun i H' _ ⟨_, _, _, S'⟩ => SqL.of (S' _ _ hxh)) ?_ ?_
    · rintro i y H2 hi ⟨xs, hx, hp, S2⟩
      obtain ⟨o, hpo, ro⟩ := pair_at' hph hi
      have tk : (D.hands.take (i + 1)).filterMap (Option.map (D.stX 0)) = (D.hands.take i).filterMap (Option.map (D.stX 0)) ++ (o.map (D.stX 0)).toList := by
        rw [List.take_add_one, hpo, List.filterMap_append]
        rfl
      refine ⟨rfl, _, rfl, rfl, _, rfl, ?_⟩
      cases o with
      | none =>
        obtain rfl : y = .non := ro
        refine iteE (by simp) ⟨xs, hx, ?_, S2⟩
        rw [tk]
        show Paired (TAt H2) xs (_ ++ [])
        rw [List.append_nil]
        exact hp
      | some r =>
        have rr := S.wf.rfs r (.inr (List.mem_of_getElem? hpo))
        obtain ⟨c, rfl, ⟨dc, hc⟩, okr⟩ := ro
        refine iteY (by simp) ?_
        refine ⟨_, rfl, a, dx, _, rfl, S2 _ _ ho, st_no _ _ _ (by decide +kernel), _, rfl, a, SA', rs, D, 0, c, r, ⟨rfl, S.same S2⟩, ⟨dc, S2 _ _ hc⟩, rr.1, fun t H3 nt S3 ht => ?_⟩
        have hx3 := S3 _ _ hx
        have lx : xs.length ≤ i := by
          rw [Paired.length hp]
          refine Nat.le_trans (List.length_filterMap_le _ _) ?_
          rw [List.length_take]
          omega
        have il := (List.getElem?_eq_some_iff.mp hpo).1
        refine ⟨xs, hx3, Nat.lt_of_lt_of_le (show _ < 100 by omega) (by decide), _, upd_same, ?_, Same.upd (S2.trans S3) nx'⟩
        rw [tk]
        exact paired_snoc' (TAt.upd_l (show TAt H3 (.ref t) (D.stX 0 r) from ⟨t, rfl, ht⟩) hx3) (L2.Paired.mapP hp fun _ _ q => (q.same S3).upd_l hx3)
    · rintro H2 ⟨xs, hx, hp, S2⟩
      have lh : xh.length = D.hands.length := Paired.length hph
      rw [lh, List.take_length] at hp
      dsimp only [gName]
      have ll : xl.length = D.slots.length := Paired.length hpl
      refine ⟨_, rfl, a, _, dx, _, _, rfl, S2 _ _ ho, T.c_Store, T.na_Store__slots, st_slots _ _ _, _, rfl, a, _, dx, _, _, rfl, S2 _ _ ho, T.c_Store, T.na_Store__visited, st_visited _ _ _, SA'.sl, SA'.vi, _, _, rfl, SqL.of (S2 _ _ hxl), SqL.of (S2 _ _ S.vi), ?_⟩
      refine for_it (walk_zip (n := D.slots.length) (by rw [List.length_map, ll, vis, Nat.min_self])) (fun j σ H' => (∃ q1 q3, σ = [some (.ref a), q1, some (.ref x), q3]) ∧ ∃ xs, H' x = some (.lst xs) ∧ Paired (TAt H') xs (D.hands.filterMap (Option.map (D.stX 0)) ++ ((D.slots.zip D.seen).take j).filterMap fun q => q.1.map (D.stX (if q.2 then 2 else 1))) ∧ Same H H') ⟨⟨_, _, rfl⟩, xs, hx, ?_, S2⟩ (fun j σ H' _ ⟨_, _, _, _, S'⟩ => ⟨SqL.of (S' _ _ hxl), SqL.of (S' _ _ S.vi)⟩) ?_ ?_
      · show Paired (TAt H2) xs (_ ++ [])
        rw [List.append_nil]
        exact hp
      · rintro j y σ' H3 H4 hj ⟨⟨q1, q3, rfl⟩, xs, hx, hp, S3⟩ ⟨q', u, z, rfl, nq', rfl, hu, hz⟩
        dsimp only at hu hz
        obtain ⟨o, hpo, ro⟩ := pair_at' hpl hu
        obtain ⟨b, hb, mb⟩ := mem_get (xs := D.seen) (i := j) (by omega)
        rw [List.getElem?_map, hb] at hz
        obtain rfl := Option.some.inj hz
        have tk : ((D.slots.zip D.seen).take (j + 1)).filterMap (fun q => q.1.map (D.stX (if q.2 then 2 else 1))) = ((D.slots.zip D.seen).take j).filterMap (fun q => q.1.map (D.stX (if q.2 then 2 else 1))) ++ (o.map (D.stX (if b then 2 else 1))).toList := by
          rw [List.take_add_one, show (D.slots.zip D.seen)[j]? = some (o, b) from List.getElem?_zip_eq_some.mpr ⟨hpo, hb⟩, List.filterMap_append]
          cases o <;> rfl
        refine ⟨q', _, rfl, SqT.of upd_same, rfl, _, _, rfl, _, _, rfl, rfl, ?_⟩
        have S34 : Same H3 (upd H3 q' (.tup [u, .bl b])) := Same.new nq'
        have S4 := S3.trans S34
        have hx4 := S34 _ _ hx
        generalize upd H3 q' (.tup [u, .bl b]) = H4 at S34 S4 hx4 ⊢
        refine ⟨_, rfl, rfl, _, rfl, ?_⟩
        cases o with
        | none =>
          obtain rfl : u = .non := ro
          refine iteE (by simp) ⟨⟨_, _, rfl⟩, xs, hx4, ?_, S4⟩
          rw [tk]
          show Paired (TAt H4) xs (_ ++ (_ ++ []))
          rw [List.append_nil]
          exact L2.Paired.mapP hp fun _ _ q => q.same S34
        | some r =>
          have rr := S.wf.rfs r (.inl (List.mem_of_getElem? hpo))
          obtain ⟨c, rfl, ⟨dc, hc⟩, okr⟩ := ro
          refine iteY (by simp) ?_
          refine ⟨_, rfl, .inl ⟨rfl, _, SqL.of hx4⟩, _, rfl, a, dx, _, rfl, S4 _ _ ho, st_no _ _ _ (by decide +kernel), tif_val b (fun R hR => ⟨_, rfl, _, rfl, hR⟩) ⟨_, rfl, a, SA', rs, D, _, c, r, ⟨rfl, S.same S4⟩, ⟨dc, S4 _ _ hc⟩, rr.1, fun t H5 nt S5 ht => ?_⟩⟩
          have hx5 := S5 _ _ hx4
          have lx : xs.length ≤ 64 + 64 := by
            rw [Paired.length hp, List.length_append]
            refine Nat.add_le_add (Nat.le_trans (List.length_filterMap_le _ _) f1) (Nat.le_trans (List.length_filterMap_le _ _) ?_)
            rw [List.length_take]
            omega
          refine ⟨x, xs, _, rfl, rfl, hx5, Nat.lt_of_lt_of_le (show _ < 1000 by omega) (by decide), ⟨_, _, rfl⟩, _, upd_same, ?_, Same.upd (S4.trans S5) nx'⟩
          rw [tk, ← List.append_assoc]
          exact paired_snoc' (TAt.upd_l (show TAt H5 (.ref t) (D.stX (if b then 2 else 1) r) from ⟨t, rfl, ht⟩) hx5) (L2.Paired.mapP hp fun _ _ q => ((q.same S34).same S5).upd_l hx5)
      · rintro σ H3 ⟨⟨q1, q3, rfl⟩, xs, hx, hp, S3⟩
        have e : (D.slots.zip D.seen).take D.slots.length = D.slots.zip D.seen := List.take_of_length_le (by rw [List.length_zip]; omega)
        rw [e] at hp
        have hp : Paired (TAt H3) xs D.stL := hp
        obtain ⟨ks, e1, e2, e3⟩ := ks_of hp
        have len : D.stL.length < 64 := by
          unfold Sto.stL
          rw [List.length_append]
          have l1 := List.length_filterMap_le (Option.map (D.stX 0)) D.hands
          have l2 := List.length_filterMap_le (fun q : Option Rf × Bool => q.1.map (D.stX (if q.2 then 2 else 1))) (D.slots.zip D.seen)
          rw [List.length_zip] at l2
          omega
        refine ⟨_, rfl, x, ks, rfl, by rw [← e1]; exact SqL.of hx, fun p hp => SqT.of (e3 p hp), by rw [e2, List.length_map] at len; exact len, fun v0 L nw l1 l2 => ?_⟩
        have mL : ∀ y, y ∈ L.map (·.2) ↔ y ∈ ys := fun y => by
          rw [mm, e2]
          exact ⟨fun h => by
            obtain ⟨p, hp, rfl⟩ := List.mem_map.mp h
            exact List.mem_map.mpr ⟨p, l1 p hp, rfl⟩, fun h => by
            obtain ⟨p, hp, rfl⟩ := List.mem_map.mp h
            exact l2 p hp⟩
        show rSortedI K P w [.ref v0] (upd H3 v0 (SetTO P w v0 L)) _
        have S4 : Same H3 (upd H3 v0 (SetTO P w v0 L)) := Same.new nw
        have hs4 : upd H3 v0 (SetTO P w v0 L) v0 = some (SetTO P w v0 L) := upd_same
        generalize upd H3 v0 (SetTO P w v0 L) = H4 at S4 hs4 ⊢
        have hL4 : ∀ q ∈ L, H4 q.1 = some (.tup (q.2.map V.int)) := fun q hq => S4 _ _ (e3 q (l1 q hq))
        have ne : ∀ y ∈ L.map (·.2), y ≠ [] := fun y hy => by
          have hy := (mm y).mp ((mL y).mp hy)
          rcases List.mem_append.mp hy with z | z
          · obtain ⟨o, _, h⟩ := List.mem_filterMap.mp z
            cases o with
            | none => cases h
            | some r => cases h; intro z; cases z
          · obtain ⟨o, _, h⟩ := List.mem_filterMap.mp z
            obtain ⟨o, b⟩ := o
            cases o with
            | none => cases h
            | some r => cases h; intro z; cases z
        refine ⟨v0, L, rfl, hs4, fun q hq => SqT.of (hL4 q hq), by rw [rwI_tD]; exact alike_tD _, by rw [rwI_tD]; exact sortable_tD ne, fun q _ => tD_depth q.2, fun bs p pb nd np => ?_⟩
        have perm : (L.map (·.2)).Perm ys := mem_nodup_perm nd (asc_nodup asc) mL
        have pd : (bs.map (·.2)).Perm (ys.map tD) := by
          have p1 := pb.map (·.2)
          rw [rwI_tD] at p1
          exact p1.trans (perm.map tD)
        have S5 : Same H4 (upd H4 p (.lst ((ascD bs).map (·.1)))) := Same.new np
        have S05 := (S3.trans S4).trans S5
        refine k p _ ((S3.trans S4).free np) S05 ⟨_, upd_same, asc_gen tD_inj (fun b hb => ?_) (ascD_data pd (asc_tD asc))⟩
        obtain ⟨q, hq, rfl⟩ := List.mem_map.mp (pb.mem_iff.mp (ascD_mem hb))
        exact ⟨q.2, rfl, q.1, rfl, S5 _ _ (hL4 q hq)⟩
end

end Hue

set_option Elab.async false
set_option linter.all false
set_option maxRecDepth 100000
set_option maxHeartbeats 1000000
set_option pp.maxSteps 3000
namespace Hue
open PySem PySem.Spec PyProof.Rows L2
local macro_rules | `(tactic| walk_at "hp") => `(tactic| first
  | assumption
  | exact upd_same
  | (refine upd_old (by assumption) ?_; walk_at "hp")
  | (refine upd_oth (by assumption) ?_; walk_at "hp")
  | (refine same_get (by assumption) ?_; walk_at "hp")
  | (refine Fl.get (by assumption) (by assumption) ?_; walk_at "hp"))
local macro_rules | `(tactic| walk_at "seq") => `(tactic| first
  | assumption
  | exact T.t_BARRIERS _
  | exact SqL.of (by walk_at "hp")
  | exact SqT.of (by walk_at "hp"))
local macro_rules | `(tactic| walk_at "len") => `(tactic| first
  | exact Or.inl (by walk_at "seq")
  | exact Or.inr (by walk_at "seq"))
local macro_rules | `(tactic| walk_at "at") => `(tactic| first
  | rfl
  | assumption)

/-! ### the law's own defs -/
def DueO (H : Hp) (v : V) (o : Option Rf) : Prop := match o with
  | none => v = .non
  | some r => ∃ t, v = .ref t ∧ H t = some (.tup [.int r.1, .int r.2])
theorem DueO.same {H H' : Hp} {v : V} {o : Option Rf} (h : DueO H v o) (S : Same H H') : DueO H' v o := by
  cases o with
  | none => exact h
  | some r =>
    obtain ⟨t, e, q⟩ := h
    exact ⟨t, e, S _ _ q⟩
def spValue (K : PySem.W.Frag) : Sp := fun vs H Q _ => ∃ v d : V, vs = [v, d] ∧ ((∃ o, RefO K H v o ∧ DueO H d o) ∨ ∃ i : Int, v = .int i ∧ d = .int i) ∧ ∀ H', Same H H' → Q (.bl true) H'
def spMover : Sp := fun vs H Q _ => ∃ (l : Addr) (g : Int), vs = [.ref l, .int g] ∧ PoolAt H l ∧ 0 ≤ g ∧ g ≤ 5 ∧
  ∀ (r : Ph) t H', r.Ok → r.hue = g → r.vis = false → r.std ≠ 0 → H t = none → t ≠ l → Fl l H H' → PoolAt H' l → H' t = some (.tup r.vs) → Q (.ref t) H'
def spPhase (K : PySem.W.Frag) : Sp := fun vs H Q _ => ∃ (t : Addr) (r : Ph), vs = [.ref t] ∧ H t = some (.tup r.vs) ∧ r.Ok ∧
  ∀ a H', H a = none → Same H H' → PhAt K H' a r → Q (.ref a) H'
section
variable {P : Program} [SupP P pFile] {w : World} {K : PySem.W.Frag} {mg : Str → Option Value} {base : Heap}
theorem ok_l_phase (T : Tx K mg) : FnOk P w K mg base CX0 5 (gad "_law_phase" K) (fdD K (gad "_law_phase" K)) P_l_phase (spPhase K) := by
  obtain ⟨_, kb_Phase_barrier_visits_pauses_stand_skips⟩ := kb_Phase_barrier_visits_pauses_stand_skips T
  refine T.F_l_phase.ok sc_l_phase (fun vs H Q E h => ?_) (fun cdv A outer s H vs Q E hr h => ?_)
  · obtain ⟨t, r, rfl, _⟩ := h; rfl
  · obtain ⟨t, r, rfl, ht, ok, k⟩ := h
    refine ⟨_, PSs.nox ((pss_one (ps_ret (pe_makeK T.mk_Phase (ok_Phase_init (P := P) T) (hr.mono (by decide)) rfl T.g_Phase kb_Phase_barrier_visits_pauses_stand_skips passL (pa_cons (pe_ix ix_tup (pv 0) pe_int (fun _ _ => rfl)) pa_nil) (pk_cons (pe_ix ix_tup (pv 0) pe_int (fun _ _ => rfl)) (pk_cons (pe_ix ix_tup (pv 0) pe_int (fun _ _ => rfl)) (pk_cons (pe_ix ix_tup (pv 0) pe_int (fun _ _ => rfl)) (pk_cons (pe_ix ix_tup (pv 0) pe_int (fun _ _ => rfl)) (pk_cons (pe_ix ix_tup (pv 0) pe_int (fun _ _ => rfl)) pk_nil))))))))), ?_⟩
    refine ⟨_, rfl, _, _, _, _, rfl, rfl, (by walk_at "seq"), (by walk_at "at"), _, rfl, _, _, _, _, rfl, rfl, (by walk_at "seq"), (by walk_at "at"), _, rfl, _, _, _, _, rfl, rfl, (by walk_at "seq"), (by walk_at "at"), _, rfl, _, _, _, _, rfl, rfl, (by walk_at "seq"), (by walk_at "at"), _, rfl, _, _, _, _, rfl, rfl, (by walk_at "seq"), (by walk_at "at"), _, rfl, _, _, _, _, rfl, rfl, (by walk_at "seq"), (by walk_at "at"), rfl, rfl, fun x dx nx ndx nex => ?_⟩
    refine ⟨x, dx, r.rw, rfl, upd_same, fun _ H4 f4 h4 => ⟨rfl, ?_⟩, fun f hf => absurd ((Ph.good ok).symm.trans hf) (by simp)⟩
    exact k x H4 nx (made_same nx ndx f4) ⟨dx, h4⟩

theorem ok_l_mover (T : Tx K mg) : FnOk P w K mg base CX0 3 (gad "_law_mover" K) (fdD K (gad "_law_mover" K)) P_l_mover spMover := by
  refine T.F_l_mover.ok sc_l_mover (fun vs H Q E h => ?_) (fun cdv A outer s H vs Q E hr h => ?_)
  · obtain ⟨l, g, rfl, _⟩ := h; rfl
  · obtain ⟨l, g, rfl, hP, g0, g5, k⟩ := h
    refine ⟨_, PSs.nox ((pss_cons (ps_set (i := 2) sc_l_mover.nd rfl (Or.inl rfl) (pe_call (ok_l_take (P := P) T) (hr.mono (by decide)) rfl T.g_l_take T.F_l_take.kp (bd_l_take T) .nil pass0 (pa_cons (pv 0) (pa_cons pe_int pa_nil))))
      (pss_cons (ps_set (i := 3) sc_l_mover.nd rfl (Or.inl rfl) (pe_ix ix_list (pe_lst (pa_cons pe_str (pa_cons pe_str (pa_cons pe_str (pa_cons pe_str pa_nil))))) (pe_op op_mod (pe_callTy call_intI (by rfl) T.n_int (by decide +kernel) (pa_cons (pv 2) pa_nil)) pe_int) (fun _ _ => rfl)))
      (pss_one (ps_ret (pe_tup (pa_cons (pv 1) (pa_cons (pv 3) (pa_cons pe_bl (pa_cons (pe_cmpR op_eq (pe_op op_mod (pe_callTy call_intI (by rfl) T.n_int (by decide +kernel) (pa_cons (pe_op op_fdiv (pv 2) pe_int) pa_nil)) pe_int) pe_int (nomark _)) (pa_cons (pe_op op_add pe_int (pe_op op_mod (pe_callTy call_intI (by rfl) T.n_int (by decide +kernel) (pa_cons (pe_op op_fdiv (pv 2) pe_int) pa_nil)) pe_int)) (pa_cons pe_bl pa_nil)))))))))))), ?_⟩
    refine ⟨_, rfl, l, 1000003, rfl, hP, by decide, fun c H1 c0 c1 o1 P1 => ?_⟩
    have hb := at_bar (i := c % 4) (by omega) (by omega)
    dsimp only [gName]
    refine ⟨(show (4 : Nat) ≤ sizeLine by decide), fun p np => ⟨_, rfl, _, rfl, _, _, rfl, rfl, (show (0 : Int) < 4 by decide), _, _, _, _, rfl, rfl, SqL.of upd_same, hb, ?_⟩⟩
    have P2 := P1.upd (o := .lst barVs) np
    have o2 := o1.add (o := .lst barVs) np
    refine ⟨_, rfl, _, rfl, _, rfl, _, _, rfl, rfl, ⟨by decide, by decide⟩, _, rfl, _, _, rfl, rfl, (show (0 : Int) < 2 by decide), rfl, _, rfl, _, _, rfl, rfl, ⟨by decide, by decide⟩, _, rfl, _, _, rfl, rfl, (show (0 : Int) < 7 by decide), _, _, rfl, rfl, (show (6 : Nat) ≤ sizeLine by decide), fun t nt => ?_⟩
    refine k ⟨g, barAt (c % 4), false, _, _, false⟩ t _ ⟨g0, g5, ?_, ?_⟩ rfl rfl ?_ (o2.free (P2.ne nt) nt) (P2.ne nt) (o2.add nt) (P2.upd nt) upd_same
    · show 0 ≤ 1 + c / 8 % 7
      omega
    · show 1 + c / 8 % 7 ≤ 7
      omega
    · show 1 + c / 8 % 7 ≠ 0
      omega
theorem ok_l_value (T : Tx K mg) : FnOk P w K mg base CX0 6 (gad "_law_value" K) (fdD K (gad "_law_value" K)) P_l_value (spValue K) := by
  refine T.F_l_value.ok sc_l_value (fun vs H Q E h => ?_) (fun cdv A outer s H vs Q E hr h => ?_)
  · obtain ⟨v, d, rfl, _⟩ := h; rfl
  · obtain ⟨v, d, rfl, hv, k⟩ := h
    refine ⟨_, PSs.nox ((pss_cons (ps_if (pt_cmpR op_isN (pv 1) pe_non (nomark _)) (pss_one (ps_ret (pe_cmpR op_isN (pv 0) pe_non (nomark _)))) pss_nil)
      (pss_cons (ps_if (pt_val (pe_callB call_isi (by rfl) T.n_isinstance (by decide +kernel) (pa_cons (pv 1) (pa_cons (pe_bty "tuple" rfl T.n_tuple (by decide +kernel)) pa_nil)))) (pss_cons (ps_if (PW.pt (pw_or (pt_not (pt_val (pe_callB call_isi (by rfl) T.n_isinstance (by decide +kernel) (pa_cons (pv 0) (pa_cons (pe_gr rfl T.g_Ref) pa_nil))))) (pw_or (pt_not (pt_val (pe_call (ok_l_int (P := P) T) (hr.mono (by decide)) rfl T.g_l_int T.F_l_int.kp (bd_l_int T) .nil pass0 (pa_cons (pe_fld (pv 0) rfl) pa_nil)))) (pw_or1 (pt_not (pt_val (pe_call (ok_l_int (P := P) T) (hr.mono (by decide)) rfl T.g_l_int T.F_l_int.kp (bd_l_int T) .nil pass0 (pa_cons (pe_fld (pv 0) rfl) pa_nil)))))))) (pss_one (ps_ret pe_bl)) pss_nil)
      (pss_one (ps_ret (pe_cmpR (op_eqD hr.units) (pe_tup (pa_cons (pe_fld (pv 0) rfl) (pa_cons (pe_fld (pv 0) rfl) pa_nil))) (pv 1) (nomark _))))) pss_nil)
      (pss_one (ps_ret (pe_and (pe_call (ok_l_int (P := P) T) (hr.mono (by decide)) rfl T.g_l_int T.F_l_int.kp (bd_l_int T) .nil pass0 (pa_cons (pv 0) pa_nil)) (pe_one (pe_cmpR op_eq (pv 0) (pv 1) (nomark _))))))))), ?_⟩
    rcases hv with ⟨o, ro, du⟩ | ⟨i, rfl, rfl⟩
    · cases o with
      | none =>
        obtain rfl : v = .non := ro
        obtain rfl : d = .non := du
        exact ⟨_, rfl, rfl, _, rfl, iteD rfl ⟨_, rfl, rfl, by rw [decide_eq_true rfl]; exact k _ (Same.refl _)⟩⟩
      | some r =>
        obtain ⟨a, rfl, ⟨dx, ha⟩, ok⟩ := ro
        obtain ⟨t, rfl, ht⟩ := du
        refine ⟨_, rfl, rfl, _, rfl, iteDN (by intro z; cases z) ?_⟩
        refine ⟨_, rfl, _, _, .type "tuple", .type "tuple", true, rfl, .ty _, .base (.tup ht), kit_ty (by decide +kernel), _, rfl, iteT ?_⟩
        refine ⟨_, rfl, _, _, _, _, true, rfl, .own _, inst_ty T.i_Ref T.c_Ref ha, T.k_Ref_Ref, _, rfl, iteF ?_⟩
        refine ⟨_, rfl, a, _, dx, _, _, rfl, ha, T.c_Ref, T.na_Ref_place, rf_place _ _, r.1, rfl, _, rfl, iteF ?_⟩
        refine ⟨_, rfl, a, _, dx, _, _, rfl, ha, T.c_Ref, T.na_Ref_hue, rf_hue _ _, r.2, rfl, _, rfl, iteF ?_⟩
        refine ⟨_, rfl, a, _, dx, _, _, rfl, ha, T.c_Ref, T.na_Ref_place, rf_place _ _, _, rfl, a, _, dx, _, _, rfl, ha, T.c_Ref, T.na_Ref_hue, rf_hue _ _, (show (2 : Nat) ≤ sizeLine by decide), fun p np => ?_⟩
        have S1 : Same H (upd H p (.tup [V.int r.1, V.int r.2])) := Same.new np
        have sh : SeqAt.shaped (.tuple [.int r.1, .int r.2]) = true := by
          show (PyData.canLay0 (.tuple [.int r.1, .int r.2]) && decide (PyData.depth (.tuple [.int r.1, .int r.2]) ≤ 64)) = true
          simp [PyData.canLay0, PyData.canLayAll0, PyData.depth, PyData.depthAll]
        have ev : PyData.eqv (.tuple [.int r.1, .int r.2]) (.tuple [.int r.1, .int r.2]) = true := by simp [PyData.eqv, PyData.eqvAll]
        refine ⟨_, rfl, _, _, .tup (SqT.of upd_same) (.cons (.int _) (.cons (.int _) .nil)), .tup (SqT.of (S1 _ _ ht)) (.cons (.int _) (.cons (.int _) .nil)), sh, sh, ?_⟩
        rw [ev]
        exact k _ S1
    · refine ⟨_, rfl, rfl, _, rfl, iteDN (by intro z; cases z) ?_⟩
      refine ⟨_, rfl, _, _, .type "int", .type "tuple", false, rfl, .ty _, .base (.int _), kit_ty (by decide +kernel), _, rfl, iteF ?_⟩
      exact ⟨_, rfl, i, rfl, _, rfl, iteT ⟨_, rfl, _, rfl, rfl, by rw [decide_eq_true rfl]; exact k _ (Same.refl _)⟩⟩
end

end Hue

set_option Elab.async false
set_option linter.all false
set_option maxRecDepth 100000
set_option maxHeartbeats 1000000
set_option pp.maxSteps 3000
namespace Hue
open PySem PySem.Spec PyProof.Rows L2
local macro_rules | `(tactic| walk_at "hp") => `(tactic| first
  | assumption
  | exact upd_same
  | (refine upd_old (by assumption) ?_; walk_at "hp")
  | (refine upd_oth (by assumption) ?_; walk_at "hp")
  | (refine same_get (by assumption) ?_; walk_at "hp")
  | (refine Fl.get (by assumption) (by assumption) ?_; walk_at "hp"))
local macro_rules | `(tactic| walk_at "seq") => `(tactic| first
  | assumption
  | exact T.t_BARRIERS _
  | exact SqL.of (by walk_at "hp")
  | exact SqT.of (by walk_at "hp"))
local macro_rules | `(tactic| walk_at "len") => `(tactic| first
  | exact Or.inl (by walk_at "seq")
  | exact Or.inr (by walk_at "seq"))
local macro_rules | `(tactic| walk_at "at") => `(tactic| first
  | rfl
  | assumption)

def spTurned (K : PySem.W.Frag) : Sp := fun vs H Q _ => ∃ (s : Addr) (A : SA) (rs : List Ph) (D : Sto) (n : Nat) (b : Bool), vs = [.ref s, .int (n : Int), .bl b] ∧ StoreAt K H s A rs D ∧ D.owners.length + n ≤ 5000 ∧ Mv rs D ∧
  ∀ A' H' x, Frm s A A' H H' → StoreAt K H' s A' rs (turnsN rs D n) → x ∉ s :: A'.own → H' x = some (.lst ((List.range n).map fun j => V.int (turnsN rs D (j + 1)).row)) → Q (.ref x) H'
def restsL (rs : List Ph) (n : Nat) : List Int := (List.range n).map fun (k : Nat) => max 0 (((k + 1 : Nat) : Int) + gpS rs (((k + 1) % rs.length : Nat) : Int) - (n : Int))
def spRests : Sp := fun vs H Q _ => ∃ (a : Addr) (rs : List Ph) (n : Nat), vs = [.ref a, .int (n : Int)] ∧ RowsAt H a rs ∧ 1 ≤ rs.length ∧ rs.length ≤ 6 ∧ n ≤ 5000 ∧
  ∀ p H', H p = none → Same H H' → H' p = some (.lst ((restsL rs n).map V.int)) → Q (.ref p) H'
def postX (k : Nat) (r : Int) : Option (List Int) := if r > 0 then some [if k = 0 then 0 else ((k : Nat) : Int) + 1, ((k : Nat) : Int) + 2, r] else none
def postsL (L : List Int) : List (List Int) := ((List.range L.length).filterMap fun k => (L[k]?).bind (postX k))
def spPostsL : Sp := fun vs H Q _ => ∃ (a : Addr) (L : List Int), vs = [.ref a] ∧ H a = some (.lst (L.map V.int)) ∧ L.length ≤ 5000 ∧ ∀ p H', H p = none → Same H H' → TLst H' p (postsL L) → Q (.ref p) H'
def standL (at' g left : Int) (held : Bool) : List (List Int) := (if held then [0, 1] else [1]).flatMap fun (h : Int) => [at', h, g, -1] :: (if left = -1 then [] else [[at', h, g, left]])
def spStandL : Sp := fun vs H Q _ => ∃ (at' g left : Int) (held : Bool), vs = [.int at', .int g, .int left, .bl held] ∧ ∀ p H', H p = none → Same H H' → TLst H' p (standL at' g left held) → Q (.ref p) H'
theorem StoreAt.fresh {K : PySem.W.Frag} {H : Hp} {s p : Addr} {A : SA} {rs : List Ph} {D : Sto} (S : StoreAt K H s A rs D) (n : H p = none) : p ∉ s :: A.own := fun m => by
  rcases S.chg p m with ⟨_, q⟩ | ⟨_, q⟩ | ⟨_, _, _, _, _, q⟩ <;> (rw [q] at n; cases n)
theorem StoreAt.freshbl {K : PySem.W.Frag} {H : Hp} {s p : Addr} {A : SA} {rs : List Ph} {D : Sto} (S : StoreAt K H s A rs D) (n : H p = none) : p ≠ A.bl := fun z => by
  obtain ⟨as, h, _⟩ := S.bk.ph
  rw [← z, n] at h
  cases h
theorem turn1_sp {K : PySem.W.Frag} {H : Hp} {s q : Addr} {A : SA} {rs : List Ph} {D : Sto} {Q : VK} {E : XK} (S : StoreAt K H s A rs D) (few : D.owners.length < 5000) (mv : Mv rs D) (hq : H q = some (.tup [.int 0]))
    (k : ∀ A' H', Frm s A A' H H' → StoreAt K H' s A' rs (D.turn1 rs) → Q (.int (nx rs.length D.row : Nat)) H') : spTurnC K [.ref s, .int 0, .ref q] H Q E := by
  obtain ⟨l1, l2, l3, l4⟩ := turn1_len rs D
  have r0 := S.wf.r0
  have r1 := S.wf.r1
  have pl := mv.pl
  refine ⟨s, A, rs, D, 0, q, [0], nx rs.length D.row, rfl, S, hq, (show D.owners.length + 1 ≤ 5000 by omega), mv.calm, by omega, after_0 (by omega) _, by simp, fun t ht => ?_, .inr (mv.std (Nat.mod_lt _ (by omega))), k⟩
  rw [List.mem_singleton.mp ht]
  omega
/-- a new list that grows beside the store -/
theorem grow_keep {K : PySem.W.Frag} {H1 H' H2 : Hp} {s x : Addr} {A0 A A2 : SA} {rs : List Ph} {D2 : Sto} {xs : List V} {u : HO} (nx' : H1 x = none) (xbl : x ≠ A0.bl) (xs' : x ≠ s) (hx : H' x = some (.lst xs)) (R : Frm s A0 A H1 H') (nm : x ∉ s :: A.own) (R2 : Frm s A A2 H' H2) (B2 : StoreAt K H2 s A2 rs D2) :
    H2 x = some (.lst xs) ∧ Frm s A0 A2 H1 (upd H2 x u) ∧ StoreAt K (upd H2 x u) s A2 rs D2 ∧ x ∉ s :: A2.own := by
  have hx2 := R2.keep _ _ nm hx
  have nm2 : x ∉ s :: A2.own := fun m => by
    rcases List.mem_cons.mp m with z | z
    · exact xs' z
    · rcases R2.new x z with q | q
      · exact nm (List.mem_cons_of_mem _ q)
      · rw [q] at hx; cases hx
  refine ⟨hx2, (R.trans R2).updNew nx', ?_, nm2⟩
  refine B2.frame (ls := [x]) (Fls.one Fl.cell (List.mem_singleton.mpr rfl)) (fun q hq => ?_) (fun q hq => ?_)
  · rw [List.mem_singleton.mp hq]
    exact .inl ⟨_, hx2⟩
  · rw [List.mem_singleton.mp hq]
    intro m
    rcases List.mem_cons.mp m with z | z
    · exact xs' z
    · rcases List.mem_cons.mp z with z | z
      · rw [(R.trans R2).bl] at z
        exact xbl z
      · exact nm2 (List.mem_cons_of_mem _ z)
section
variable {P : Program} [SupP P pFile] {w : World} {K : PySem.W.Frag} {mg : Str → Option Value} {base : Heap}
theorem ok_l_turned (T : Tx K mg) : FnOk P w K mg base CX0 17 (gad "_law_turned" K) (fdD K (gad "_law_turned" K)) P_l_turned (spTurned K) := by
  refine T.F_l_turned.ok sc_l_turned (fun vs H Q E h => ?_) (fun cdv A outer s H vs Q E hr h => ?_)
  · obtain ⟨s, A, rs, D, n, b, rfl, _⟩ := h; rfl
  · obtain ⟨a, SA', rs, D, n, b, rfl, S, few, mv, k⟩ := h
    refine ⟨_, PSs.nox ((pss_cons (ps_if (pt_val (pv 2)) (pss_one (ps_ret (pe_meth (pv 0) T.c_Store T.m_Store_play (ok_Store_play (P := P) T) (hr.mono (by decide)) (bd_Store_play T) .nil pass0 (pa_cons (pe_op op_rep (pe_lst (pa_cons (pe_tup (pa_cons pe_str (pa_cons pe_int (pa_cons pe_int pa_nil)))) pa_nil)) (pv 1)) pa_nil)))) pss_nil)
      (pss_cons (ps_set (i := 3) sc_l_turned.nd rfl (Or.inl rfl) (pe_lst pa_nil))
      (pss_cons (ps_for PassesOwn.never rfl (pi_range1 (by rfl) T.n_range (pa_cons (pv 1) pa_nil)) (pg_name (i := 4) sc_l_turned.nd rfl (Or.inl rfl)) (pss_one (ps_expr (pe_bm PySem.F.plainAttrs_list PySem.F.slot_list_append PySem.F.type_list_append mt_append (pv 3) (pa_cons (pe_sk (pv 0) T.c_Store T.m_Store_turn (fs_Store_turn (P := P) T) (hr.mono (by decide)) passL (pa_cons pe_int pa_nil)) pa_nil)))))
      (pss_one (ps_ret (pv 3))))))), ?_⟩
    obtain ⟨dx, ho⟩ := S.ob
    cases b with
    | true =>
      refine ⟨_, rfl, _, rfl, iteT ?_⟩
      refine ⟨_, rfl, a, dx, _, rfl, ho, st_no _ _ _ (by decide +kernel), (show (3 : Nat) ≤ sizeLine by decide), fun d nd => ⟨(show (1 : Nat) ≤ sizeLine by decide), fun o no => ⟨_, rfl, o, _, _, rfl, rfl, upd_same, by omega, by omega, Nat.le_trans (show _ ≤ 5000 by show 1 * ((n : Nat) : Int).toNat ≤ 5000; omega) (by decide), fun p np => ?_⟩⟩⟩
      rw [rep_one, Int.toNat_natCast]
      have S1 : Same H (upd H d (.tup [.str "turn", .int 0, .int 0])) := Same.new nd
      have hd1 : upd H d (.tup [.str "turn", .int 0, .int 0]) d = some (.tup [.str "turn", .int 0, .int 0]) := upd_same
      generalize upd H d (.tup [.str "turn", .int 0, .int 0]) = H1 at S1 hd1 no np ⊢
      have S2 : Same H1 (upd (upd H1 o (.lst [.ref d])) p (.lst (List.replicate n (.ref d)))) := Same.upd (Same.new no) (Same.free (Same.new no) np)
      have np1 : H1 p = none := Same.free (Same.new no) np
      have hp2 : upd (upd H1 o (.lst [.ref d])) p (.lst (List.replicate n (.ref d))) p = some (.lst (List.replicate n (.ref d))) := upd_same
      generalize upd (upd H1 o (.lst [.ref d])) p (.lst (List.replicate n (.ref d))) = H2 at S2 hp2 ⊢
      have S12 := S1.trans S2
      refine ⟨a, SA', rs, D, p, d, n, rfl, S.same S12, hp2, S2 _ _ hd1, few, mv, (S.same S1).fresh np1, fun A' H' x R B nm hx => k A' H' x ((Frm.same S12).trans R) B nm hx⟩
    | false =>
      refine ⟨_, rfl, _, rfl, iteF ?_⟩
      refine ⟨(show (0 : Nat) ≤ sizeLine by decide), fun x nx' => ?_⟩
      have xbl := S.freshbl nx'
      have nm0 := S.fresh nx'
      have xa : x ≠ a := fun z => nm0 (by rw [z]; exact List.mem_cons_self)
      refine ⟨_, rfl, _, rfl, by omega, by omega, for_range (n := _) (fun j σ H' => (∃ q4, σ = [some (.ref a), some (.int (n : Nat)), some (.bl false), some (.ref x), q4]) ∧ H' x = some (.lst ((List.range j).map fun j => V.int (turnsN rs D (j + 1)).row)) ∧ ∃ A', Frm a SA' A' H H' ∧ StoreAt K H' a A' rs (turnsN rs D j) ∧ x ∉ a :: A'.own) ⟨⟨_, rfl⟩, upd_same, SA', (Frm.same (Same.refl _)).updNew nx', S.same (Same.new nx'), nm0⟩ ?_ ?_⟩
      · rintro i σ H' hi ⟨⟨q4, rfl⟩, hx, A', R, B, nm⟩
        have hi : i < n := by omega
        obtain ⟨dx', ho'⟩ := B.ob
        have lo := turnsN_own rs D i
        refine ⟨_, rfl, .inl ⟨rfl, _, SqL.of hx⟩, _, rfl, a, dx', _, rfl, ho', st_no _ _ _ (by decide +kernel), (show (1 : Nat) ≤ sizeLine by decide), fun q nq => ?_⟩
        have S2 : Same H' (upd H' q (.tup [.int 0])) := Same.new nq
        refine turn1_sp (B.same S2) (by omega) (mv.many i) upd_same fun A2 H2 R2 B2 => ?_
        obtain ⟨hx2, R3, B3, nm3⟩ := grow_keep (u := .lst ((List.range (i + 1)).map fun j => V.int (turnsN rs D (j + 1)).row)) nx' xbl xa hx R nm ((Frm.same S2).trans R2) B2
        have en : ((List.range i).map fun j => V.int (turnsN rs D (j + 1)).row) ++ [V.int (nx rs.length (turnsN rs D i).row : Nat)] = (List.range (i + 1)).map fun j => V.int (turnsN rs D (j + 1)).row := by
          rw [List.range_succ, List.map_append]
          have e := (turn1_len rs (turnsN rs D i)).2.2.2
          rw [← e]
          rfl
        refine ⟨x, _, _, rfl, rfl, hx2, Nat.lt_of_lt_of_le (show _ < 5000 by rw [List.length_map, List.length_range]; omega) (by decide), ?_⟩
        rw [en]
        exact ⟨⟨_, rfl⟩, upd_same, A2, R3, B3, nm3⟩
      · rintro σ H' ⟨⟨q4, rfl⟩, hx, A', R, B, nm⟩
        rw [Int.toNat_natCast] at hx B
        exact ⟨_, rfl, k A' H' x R B nm hx⟩
theorem ok_l_rests (T : Tx K mg) : FnOk P w K mg base CX0 3 (gad "_law_rests" K) (fdD K (gad "_law_rests" K)) P_l_rests spRests := by
  refine T.F_l_rests.ok sc_l_rests (fun vs H Q E h => ?_) (fun cdv A outer s H vs Q E hr h => ?_)
  · obtain ⟨a, rs, n, rfl, _⟩ := h; rfl
  · obtain ⟨a, rs, n, rfl, R, n1, n6, fewn, k⟩ := h
    refine ⟨_, PSs.nox ((pss_cons (ps_set (i := 2) sc_l_rests.nd rfl (Or.inl rfl) (pe_lst pa_nil))
      (pss_cons (ps_for PassesOwn.never rfl (pi_range2 (by rfl) T.n_range (pa_cons pe_int (pa_cons (pe_op op_add (pv 1) pe_int) pa_nil))) (pg_name (i := 3) sc_l_rests.nd rfl (Or.inl rfl)) (pss_one (ps_expr (pe_bm PySem.F.plainAttrs_list PySem.F.slot_list_append PySem.F.type_list_append mt_append (pv 2) (pa_cons (pe_callB (call_max2 rfl) (by rfl) T.n_max (by decide +kernel) (pa_cons pe_int (pa_cons (pe_op op_sub (pe_op op_add (pv 3) (pe_ix ix_tup (pe_ix ix_list (pv 0) (pe_op op_mod (pe_callTy call_intI (by rfl) T.n_int (by decide +kernel) (pa_cons (pv 3) pa_nil)) (pe_callB call_len_seq (by rfl) T.n_len (by decide +kernel) (pa_cons (pv 0) pa_nil))) (fun _ _ => rfl)) pe_int (fun _ _ => rfl))) (pv 1)) pa_nil))) pa_nil)))))
      (pss_one (ps_ret (pv 2)))))), ?_⟩
    obtain ⟨⟨ts, h1, h2, h3⟩, h4⟩ := id R
    refine ⟨(show (0 : Nat) ≤ sizeLine by decide), fun x nx' => ?_⟩
    refine ⟨_, rfl, _, _, rfl, rfl, _, _, rfl, ⟨by omega, by omega, by omega, by omega⟩, for_range (n := _) (fun j σ H' => (∃ q3, σ = [some (.ref a), some (.int (n : Nat)), some (.ref x), q3]) ∧ H' x = some (.lst (((restsL rs n).take j).map V.int)) ∧ Same H H') ⟨⟨_, rfl⟩, upd_same, Same.new nx'⟩ ?_ ?_⟩
    · rintro j σ H' hj ⟨⟨q3, rfl⟩, hx, S'⟩
      have hj : j < n := by omega
      obtain ⟨r, hr', mr⟩ := mem_get (xs := rs) (i := (j + 1) % rs.length) (Nat.mod_lt _ (by omega))
      obtain ⟨t, ht, _⟩ := mem_get (xs := ts) (i := (j + 1) % rs.length) (by rw [h2]; exact Nat.mod_lt _ (by omega))
      have hm : (1 + (j : Int)) % ((ts.map V.ref).length : Nat) = (((j + 1) % rs.length : Nat) : Int) := by
        rw [List.length_map, h2, show (1 + (j : Int)) = ((j + 1 : Nat) : Int) by omega]
        rfl
      have hat : atI (ts.map V.ref) ((1 + (j : Int)) % ((ts.map V.ref).length : Nat)) = some (.ref t) := by
        rw [hm]
        exact atI_nat (by rw [List.getElem?_map, ht]; rfl)
      have ha' := S' _ _ h1
      have ht' := S' _ _ (h3 _ t r ht hr')
      have eg : gpS rs (((j + 1) % rs.length : Nat) : Int) = r.std := by unfold gpS; rw [Int.toNat_natCast, hr']
      have tk : (restsL rs n).take (j + 1) = (restsL rs n).take j ++ [max 0 (1 + (j : Int) + r.std - (n : Int))] := by
        have g : (restsL rs n)[j]? = some (max 0 (1 + (j : Int) + r.std - (n : Int))) := by
          unfold restsL
          rw [List.getElem?_map, List.getElem?_range hj]
          show some (max 0 (((j + 1 : Nat) : Int) + gpS rs (((j + 1) % rs.length : Nat) : Int) - (n : Int))) = _
          rw [eg, show ((j + 1 : Nat) : Int) = 1 + (j : Int) by omega]
        rw [List.take_add_one, g]
        rfl
      have emax : (if 1 + (j : Int) + r.std - (n : Int) > 0 then 1 + (j : Int) + r.std - (n : Int) else 0) = max 0 (1 + (j : Int) + r.std - (n : Int)) := by
        rw [Int.max_def]
        split <;> split <;> omega
      refine ⟨_, rfl, .inl ⟨rfl, _, SqL.of hx⟩, _, rfl, _, rfl, _, rfl, _, rfl, _, rfl, a, _, rfl, .inl (SqL.of ha'), _, _, rfl, rfl, (by rw [List.length_map, h2]; omega), _, _, _, _, rfl, rfl, SqL.of ha', hat, _, _, _, _, rfl, rfl, SqT.of ht', (show atI r.vs 4 = some (.int r.std) from rfl), _, _, rfl, rfl, _, rfl, _, _, rfl, rfl, _, _, rfl, ?_⟩
      refine ⟨x, _, _, rfl, rfl, hx, Nat.lt_of_lt_of_le (show _ < 5001 by rw [List.length_map, List.length_take]; omega) (by decide), ⟨_, rfl⟩, ?_, Same.upd S' nx'⟩
      rw [tk, List.map_append, upd_same, emax]
      rfl
    · rintro σ H' ⟨⟨q3, rfl⟩, hx, S'⟩
      have e : ((n : Int) + 1 - 1).toNat = n := by omega
      rw [e, List.take_of_length_le (by unfold restsL; rw [List.length_map, List.length_range]; exact Nat.le_refl _)] at hx
      exact ⟨_, rfl, k x H' nx' S' hx⟩
theorem ok_l_posts (T : Tx K mg) : FnOk P w K mg base CX0 3 (gad "_law_posts" K) (fdD K (gad "_law_posts" K)) P_l_posts spPostsL := by
  refine T.F_l_posts.ok sc_l_posts (fun vs H Q E h => ?_) (fun cdv A outer s H vs Q E hr h => ?_)
  · obtain ⟨a, L, rfl, _⟩ := h; rfl
  · obtain ⟨a, L, rfl, ha, fewL, k⟩ := h
    refine ⟨_, PSs.nox ((pss_cons (ps_set (i := 1) sc_l_posts.nd rfl (Or.inl rfl) (pe_lst pa_nil))
      (pss_cons (ps_for PassesOwn.never rfl (pi_range1 (by rfl) T.n_range (pa_cons (pe_callB call_len_seq (by rfl) T.n_len (by decide +kernel) (pa_cons (pv 0) pa_nil)) pa_nil)) (pg_name (i := 2) sc_l_posts.nd rfl (Or.inl rfl)) (pss_one (ps_if (pt_cmpR op_gt (pe_ix ix_list (pv 0) (pv 2) (fun _ _ => rfl)) pe_int (nomark _)) (pss_cons (ps_set (i := 3) sc_l_posts.nd rfl (Or.inl rfl) (pe_ix ix_list (pe_lst (pa_cons pe_int (pa_cons (pe_op op_add (pv 2) pe_int) pa_nil))) (pe_callTy call_intB (by rfl) T.n_int (by decide +kernel) (pa_cons (pe_cmpR op_gt (pv 2) pe_int (nomark _)) pa_nil)) (fun _ _ => rfl)))
      (pss_one (ps_expr (pe_bm PySem.F.plainAttrs_list PySem.F.slot_list_append PySem.F.type_list_append mt_append (pv 1) (pa_cons (pe_tup (pa_cons (pv 3) (pa_cons (pe_op op_add (pv 2) pe_int) (pa_cons (pe_ix ix_list (pv 0) (pv 2) (fun _ _ => rfl)) pa_nil)))) pa_nil))))) pss_nil)))
      (pss_one (ps_ret (pv 1)))))), ?_⟩
    refine ⟨(show (0 : Nat) ≤ sizeLine by decide), fun x nx' => ?_⟩
    refine ⟨_, rfl, a, _, rfl, .inl (SqL.of (upd_old nx' ha)), _, rfl, by rw [List.length_map]; omega, by rw [List.length_map]; omega, for_range (n := _) (fun j σ H' => (∃ q2 q3, σ = [some (.ref a), some (.ref x), q2, q3]) ∧ ∃ xs, H' x = some (.lst xs) ∧ Paired (TAt H') xs ((List.range j).filterMap fun k => (L[k]?).bind (postX k)) ∧ Same H H') ⟨⟨_, _, rfl⟩, [], upd_same, .nil, Same.new nx'⟩ ?_ ?_⟩
    · rintro j σ H' hj ⟨⟨q2, q3, rfl⟩, xs, hx, hp, S'⟩
      rw [List.length_map] at hj
      have hj : j < L.length := by omega
      obtain ⟨r, hr', mr⟩ := mem_get hj
      have ha' := S' _ _ ha
      have hat : atI (L.map V.int) (0 + (j : Int)) = some (.int r) := by
        rw [Int.zero_add]
        exact atI_nat (by rw [List.getElem?_map, hr']; rfl)
      have tk : (List.range (j + 1)).filterMap (fun k => (L[k]?).bind (postX k)) = (List.range j).filterMap (fun k => (L[k]?).bind (postX k)) ++ (postX j r).toList := by
        rw [List.range_succ, List.filterMap_append]
        congr 1
        simp only [List.filterMap_cons, hr', Option.bind_some, List.filterMap_nil]
        cases postX j r <;> rfl
      refine ⟨_, rfl, _, rfl, _, _, _, _, rfl, rfl, SqL.of ha', hat, _, _, rfl, rfl, _, rfl, iteB (fun c => ?_) (fun c => ?_)⟩
      · have c1 : 0 < r := of_decide_eq_true c
        have at2 : atI [V.int 0, V.int (0 + (j : Int) + 1)] (if decide (0 < 0 + (j : Int)) = true then 1 else 0) = some (.int (if j = 0 then 0 else (j : Int) + 1)) := by
          by_cases z : j = 0
          · subst z; rfl
          · rw [if_pos (decide_eq_true (by omega)), if_neg z, Int.zero_add]
            rfl
        refine ⟨_, rfl, _, _, rfl, rfl, (show (2 : Nat) ≤ sizeLine by decide), fun p np => ⟨_, rfl, _, _, rfl, rfl, _, rfl, _, _, _, _, rfl, rfl, SqL.of upd_same, at2, ?_⟩⟩
        have S1 : Same H' (upd H' p (.lst [V.int 0, V.int (0 + (j : Int) + 1)])) := Same.new np
        generalize upd H' p (.lst [V.int 0, V.int (0 + (j : Int) + 1)]) = H1 at S1 ⊢
        refine ⟨_, rfl, .inl ⟨rfl, _, SqL.of (S1 _ _ hx)⟩, _, rfl, _, rfl, _, _, rfl, rfl, _, rfl, _, rfl, _, _, _, _, rfl, rfl, SqL.of (S1 _ _ ha'), hat, (show (3 : Nat) ≤ sizeLine by decide), fun t nt => ?_⟩
        dsimp only
        have S2 := S1.trans (Same.new (u := .tup [.int (if j = 0 then 0 else (j : Int) + 1), .int (0 + (j : Int) + 2), .int r]) nt)
        have ht2 : upd H1 t (.tup [.int (if j = 0 then 0 else (j : Int) + 1), .int (0 + (j : Int) + 2), .int r]) t = some (.tup [.int (if j = 0 then 0 else (j : Int) + 1), .int (0 + (j : Int) + 2), .int r]) := upd_same
        generalize upd H1 t (.tup [.int (if j = 0 then 0 else (j : Int) + 1), .int (0 + (j : Int) + 2), .int r]) = H2 at S2 ht2 ⊢
        have hx2 := S2 _ _ hx
        have lx : xs.length ≤ j := by
          rw [Paired.length hp]
          refine Nat.le_trans (List.length_filterMap_le _ _) ?_
          rw [List.length_range]
          exact Nat.le_refl _
        refine ⟨x, _, _, rfl, rfl, hx2, Nat.lt_of_lt_of_le (show _ < 5001 by omega) (by decide), ⟨_, _, rfl⟩, _, upd_same, ?_, Same.upd (S'.trans S2) nx'⟩
        rw [tk, show postX j r = some [if j = 0 then 0 else (j : Int) + 1, (j : Int) + 2, r] from if_pos c1]
        refine paired_snoc' (TAt.upd_l (show TAt H2 (.ref t) [if j = 0 then 0 else (j : Int) + 1, (j : Int) + 2, r] from ⟨t, rfl, ?_⟩) hx2) (L2.Paired.mapP hp fun _ _ q => (q.same S2).upd_l hx2)
        rw [ht2, Int.zero_add]
        rfl
      · have c1 : ¬ 0 < r := of_decide_eq_false c
        refine ⟨⟨_, _, rfl⟩, xs, hx, ?_, S'⟩
        rw [tk, show postX j r = none from if_neg c1]
        show Paired (TAt H') xs (_ ++ [])
        rw [List.append_nil]
        exact hp
    · rintro σ H' ⟨⟨q2, q3, rfl⟩, xs, hx, hp, S'⟩
      rw [List.length_map, Int.toNat_natCast] at hp
      exact ⟨_, rfl, k x H' nx' S' ⟨xs, hx, hp⟩⟩
theorem ok_l_stand (T : Tx K mg) : FnOk P w K mg base CX0 3 (gad "_law_stand" K) (fdD K (gad "_law_stand" K)) P_l_stand spStandL := by
  refine T.F_l_stand.ok sc_l_stand (fun vs H Q E h => ?_) (fun cdv A outer s H vs Q E hr h => ?_)
  · obtain ⟨at', g, left, held, rfl, _⟩ := h; rfl
  · obtain ⟨at', g, left, held, rfl, k⟩ := h
    refine ⟨_, PSs.nox ((pss_cons (ps_set (i := 4) sc_l_stand.nd rfl (Or.inl rfl) (pe_lst pa_nil))
      (pss_cons (ps_for PassesOwn.never rfl (pi_range2 (by rfl) T.n_range (pa_cons (pe_op op_sub pe_int (pe_callTy call_intB (by rfl) T.n_int (by decide +kernel) (pa_cons (pv 3) pa_nil))) (pa_cons pe_int pa_nil))) (pg_name (i := 5) sc_l_stand.nd rfl (Or.inl rfl)) (pss_cons (ps_expr (pe_bm PySem.F.plainAttrs_list PySem.F.slot_list_append PySem.F.type_list_append mt_append (pv 4) (pa_cons (pe_tup (pa_cons (pv 0) (pa_cons (pv 5) (pa_cons (pv 1) (pa_cons (pe_un un_neg pe_int) pa_nil))))) pa_nil)))
      (pss_one (ps_if (pt_cmpR op_ne (pv 2) (pe_un un_neg pe_int) (nomark _)) (pss_one (ps_expr (pe_bm PySem.F.plainAttrs_list PySem.F.slot_list_append PySem.F.type_list_append mt_append (pv 4) (pa_cons (pe_tup (pa_cons (pv 0) (pa_cons (pv 5) (pa_cons (pv 1) (pa_cons (pv 2) pa_nil))))) pa_nil)))) pss_nil))))
      (pss_one (ps_ret (pv 4)))))), ?_⟩
    refine ⟨(show (0 : Nat) ≤ sizeLine by decide), fun x nx' => ?_⟩
    refine ⟨_, rfl, _, rfl, _, _, rfl, rfl, _, _, rfl, ?_, ?_⟩
    · cases held <;> exact ⟨by decide, by decide, by decide, by decide⟩
    · refine for_range (n := _) (fun j σ H' => (∃ q5, σ = [some (.int at'), some (.int g), some (.int left), some (.bl held), some (.ref x), q5]) ∧ ∃ xs, H' x = some (.lst xs) ∧ xs.length ≤ 2 * j ∧ Paired (TAt H') xs (((if held then [0, 1] else [1]).take j).flatMap fun (h : Int) => [at', h, g, -1] :: (if left = -1 then [] else [[at', h, g, left]])) ∧ Same H H') ⟨⟨_, rfl⟩, [], upd_same, Nat.le_refl _, .nil, Same.new nx'⟩ ?_ ?_
      · rintro j σ H' hj ⟨⟨q5, rfl⟩, xs, hx, lx, hp, S'⟩
        generalize hv : (1 - (if held = true then (1 : Int) else 0)) + (j : Int) = h
        have tk : (if held then [(0 : Int), 1] else [1]).take (j + 1) = (if held then [(0 : Int), 1] else [1]).take j ++ [h] := by
          rw [← hv]
          cases held
          · have : j = 0 := by simp at hj; omega
            subst this; rfl
          · have : j = 0 ∨ j = 1 := by simp at hj; omega
            rcases this with rfl | rfl <;> rfl
        have j2 : j < 2 := by cases held <;> simp at hj <;> omega
        rw [tk, List.flatMap_append]
        show gName 5 (V.int h) _ H' _
        dsimp only [gName]
        refine ⟨_, rfl, .inl ⟨rfl, _, SqL.of hx⟩, _, rfl, _, rfl, _, rfl, _, rfl, (show (4 : Nat) ≤ sizeLine by decide), fun t nt => ?_⟩
        dsimp only
        have S1 : Same H' (upd H' t (.tup [.int at', .int h, .int g, .int (-1)])) := Same.new nt
        have ht1 : upd H' t (.tup [.int at', .int h, .int g, .int (-1)]) t = some (.tup [.int at', .int h, .int g, .int (-1)]) := upd_same
        generalize upd H' t (.tup [.int at', .int h, .int g, .int (-1)]) = H1 at S1 ht1 ⊢
        have hx1 := S1 _ _ hx
        refine ⟨x, _, _, rfl, rfl, hx1, Nat.lt_of_lt_of_le (show _ < 100 by omega) (by decide), ?_⟩
        have p1 := paired_snoc' (TAt.upd_l (u := .lst (xs ++ [.ref t])) (show TAt H1 (.ref t) [at', h, g, -1] from ⟨t, rfl, ht1⟩) hx1) (L2.Paired.mapP hp fun _ _ q => (q.same S1).upd_l hx1)
        have hx2 : upd H1 x (.lst (xs ++ [.ref t])) x = some (.lst (xs ++ [.ref t])) := upd_same
        have S2 : Same H (upd H1 x (.lst (xs ++ [.ref t]))) := Same.upd (S'.trans S1) nx'
        generalize upd H1 x (.lst (xs ++ [.ref t])) = H2 at p1 hx2 S2 ⊢
        refine ⟨_, rfl, _, rfl, rfl, _, rfl, iteB (fun c => ?_) (fun c => ?_)⟩
        · have c1 : ¬ left = -1 := fun z => by rw [z] at c; simp at c
          refine ⟨_, rfl, .inl ⟨rfl, _, SqL.of hx2⟩, _, rfl, _, rfl, _, rfl, _, rfl, (show (4 : Nat) ≤ sizeLine by decide), fun t2 nt2 => ?_⟩
          have S3 : Same H2 (upd H2 t2 (.tup [.int at', .int h, .int g, .int left])) := Same.new nt2
          have ht3 : upd H2 t2 (.tup [.int at', .int h, .int g, .int left]) t2 = some (.tup [.int at', .int h, .int g, .int left]) := upd_same
          generalize upd H2 t2 (.tup [.int at', .int h, .int g, .int left]) = H3 at S3 ht3 ⊢
          have hx3 := S3 _ _ hx2
          refine ⟨x, _, _, rfl, rfl, hx3, Nat.lt_of_lt_of_le (show _ < 100 by rw [List.length_append, List.length_singleton]; omega) (by decide), ⟨_, rfl⟩, _, upd_same, by rw [List.length_append, List.length_append, List.length_singleton, List.length_singleton]; omega, ?_, Same.upd (S2.trans S3) nx'⟩
          have p2 := paired_snoc' (TAt.upd_l (u := .lst (xs ++ [.ref t] ++ [.ref t2])) (show TAt H3 (.ref t2) [at', h, g, left] from ⟨t2, rfl, ht3⟩) hx3) (L2.Paired.mapP p1 fun _ _ q => (q.same S3).upd_l hx3)
          rw [List.append_assoc (as := List.flatMap _ _)] at p2
          simpa [c1] using p2
        · have c1 : left = -1 := by simpa using c
          refine ⟨⟨_, rfl⟩, _, hx2, by rw [List.length_append, List.length_singleton]; omega, ?_, S2⟩
          simpa [c1] using p1
      · rintro σ H' ⟨⟨q5, rfl⟩, xs, hx, lx, hp, S'⟩
        refine ⟨_, rfl, k x H' nx' S' ⟨xs, hx, ?_⟩⟩
        cases held <;> exact hp
end

end Hue

set_option Elab.async false
set_option linter.all false
set_option maxRecDepth 100000
set_option maxHeartbeats 1000000
set_option pp.maxSteps 3000
namespace Hue
open PySem PySem.Spec PyProof.Rows L2
local macro_rules | `(tactic| walk_at "hp") => `(tactic| first
  | assumption
  | exact upd_same
  | (refine upd_old (by assumption) ?_; walk_at "hp")
  | (refine upd_oth (by assumption) ?_; walk_at "hp")
  | (refine same_get (by assumption) ?_; walk_at "hp")
  | (refine Fl.get (by assumption) (by assumption) ?_; walk_at "hp"))
local macro_rules | `(tactic| walk_at "seq") => `(tactic| first
  | assumption
  | exact T.t_BARRIERS _
  | exact SqL.of (by walk_at "hp")
  | exact SqT.of (by walk_at "hp"))
local macro_rules | `(tactic| walk_at "len") => `(tactic| first
  | exact Or.inl (by walk_at "seq")
  | exact Or.inr (by walk_at "seq"))
local macro_rules | `(tactic| walk_at "at") => `(tactic| first
  | rfl
  | assumption)

/-! ### lists of int tuples as data -/
theorem eqvAll_ints : ∀ x y : List Int, PyData.eqvAll (x.map PyData.int) (y.map PyData.int) = decide (x = y)
  | [], [] => by simp [PyData.eqvAll]
  | [], y :: ys => by simp [PyData.eqvAll]
  | x :: xs, [] => by simp [PyData.eqvAll]
  | x :: xs, y :: ys => by
    rw [List.map_cons, List.map_cons, PyData.eqvAll, eqvAll_ints xs ys, Bool.eq_iff_iff]
    simp [PyData.eqv]
theorem tD_eqv (x y : List Int) : PyData.eqv (tD x) (tD y) = decide (x = y) := by
  rw [tD_eq, tD_eq]
  simp only [PyData.eqv]
  exact eqvAll_ints x y
theorem tDs_eqv : ∀ x y : List (List Int), PyData.eqvAll (x.map tD) (y.map tD) = decide (x = y)
  | [], [] => by simp [PyData.eqvAll]
  | [], y :: ys => by simp [PyData.eqvAll]
  | x :: xs, [] => by simp [PyData.eqvAll]
  | x :: xs, y :: ys => by
    rw [List.map_cons, List.map_cons, PyData.eqvAll, tD_eqv, tDs_eqv xs ys, Bool.eq_iff_iff]
    simp
theorem tD_lay (x : List Int) : (tD x).canLay0 = true := by
  rw [tD_eq]
  have z : ∀ x : List Int, PyData.canLayAll0 (x.map PyData.int) = true := fun x => by
    induction x with
    | nil => simp [PyData.canLayAll0]
    | cons a x ih => simp only [List.map_cons, PyData.canLayAll0, PyData.canLay0, ih]; rfl
  simp only [PyData.canLay0]
  exact z x
theorem tD_depth1 (x : List Int) : (tD x).depth ≤ 2 := by
  rw [tD_eq]
  have z : ∀ x : List Int, PyData.depthAll (x.map PyData.int) ≤ 1 := fun x => by
    induction x with
    | nil => simp [PyData.depthAll]
    | cons a x ih => simp [PyData.depthAll, PyData.depth]; exact ih
  have := z x
  simp only [PyData.depth]
  omega
theorem tDs_shaped (xs : List (List Int)) : SeqAt.shaped (.list (xs.map tD)) = true := by
  have l : ∀ xs : List (List Int), PyData.canLayAll0 (xs.map tD) = true := fun xs => by
    induction xs with
    | nil => simp [PyData.canLayAll0]
    | cons a x ih => simp only [List.map_cons, PyData.canLayAll0, tD_lay, ih]; rfl
  have d : ∀ xs : List (List Int), PyData.depthAll (xs.map tD) ≤ 2 := fun xs => by
    induction xs with
    | nil => simp [PyData.depthAll]
    | cons a x ih =>
      have := tD_depth1 a
      simp only [List.map_cons, PyData.depthAll]
      omega
  have h2 : PyData.depth (.list (xs.map tD)) ≤ 64 := by
    have := d xs
    simp only [PyData.depth]
    omega
  show (PyData.canLay0 (.list (xs.map tD)) && decide (PyData.depth (.list (xs.map tD)) ≤ 64)) = true
  rw [Bool.and_eq_true]
  exact ⟨by simp only [PyData.canLay0]; exact l xs, decide_eq_true h2⟩
theorem paired_app {α β : Type} {F : α → β → Prop} {zs : List α} {ws : List β} (h : Paired F zs ws) : ∀ {xs : List α} {ys : List β}, Paired F xs ys → Paired F (xs ++ zs) (ys ++ ws)
  | _, _, .nil => h
  | _, _, .cons f t => .cons f (paired_app h t)
theorem bar_inj {a b : Bar} (h : a.s = b.s) : a = b := by
  revert h
  cases a <;> cases b <;> first | (intro _; rfl) | (intro z; exact absurd z (by decide +kernel))
theorem TLst.dp {K : PySem.W.Frag} {H : Hp} {p : Addr} {L : List (List Int)} (h : TLst H p L) : Dp K H (.ref p) (.list (L.map tD)) := by
  obtain ⟨xs, h1, h2⟩ := h
  refine .lst (SqL.of h1) ?_
  have go : ∀ {xs : List V} {L : List (List Int)}, Paired (TAt H) xs L → DpAll K H xs (L.map tD) := by
    intro xs L h
    induction h with
    | nil => exact .nil
    | cons f t ih =>
      obtain ⟨q, e, hq⟩ := f
      rw [e]
      exact .cons (mD_dp (by rw [kI_kV]; exact SqT.of hq)) ih
  exact go h2
theorem TLst.same {H H' : Hp} {p : Addr} {L : List (List Int)} (h : TLst H p L) (S : Same H H') : TLst H' p L := by
  obtain ⟨xs, h1, h2⟩ := h
  exact ⟨xs, S _ _ h1, L2.Paired.mapP h2 fun _ _ q => q.same S⟩
def spSameL (K : PySem.W.Frag) : Sp := fun vs H Q _ => ∃ (s : Addr) (A : SA) (rs : List Ph) (D : Sto) (p q : Addr) (L M : List (List Int)), vs = [.ref s, .ref p, .ref q] ∧ StoreAt K H s A rs D ∧ D.slots.length + D.hands.length < 64 ∧ TLst H p L ∧ TLst H q M ∧ D.poL = L ∧ L.Pairwise (· < ·) ∧ M.Pairwise (· < ·) ∧ (∀ x, x ∈ M ↔ x ∈ D.stL) ∧ L.length ≤ 5000 ∧ M.length ≤ 5000 ∧
  ∀ H', Same H H' → Q (.bl true) H'
/-- what a read tells -/
inductive Told
  | done (r : Rf)
  | stale (n t : Int)
  | dropped (n t : Int)
def ToldAt (K : PySem.W.Frag) (H : Hp) (p : Addr) : Told → Prop
  | .done r => ∃ v, H p = some (.tup [.str "done", v]) ∧ RefO K H v (some r)
  | .stale n t => ∃ u, H p = some (.tup [.str "stale", .ref u]) ∧ H u = some (.tup [.str "slot", .int n, .int t])
  | .dropped n t => ∃ u, H p = some (.tup [.str "dropped", .ref u]) ∧ H u = some (.tup [.str "slot", .int n, .int t])
def DueAt (H : Hp) (p : Addr) : Told → Prop
  | .done r => ∃ v, H p = some (.tup [.str "done", v]) ∧ DueO H v (some r)
  | .stale n t => ∃ u, H p = some (.tup [.str "stale", .ref u]) ∧ H u = some (.tup [.str "slot", .int n, .int t])
  | .dropped n t => ∃ u, H p = some (.tup [.str "dropped", .ref u]) ∧ H u = some (.tup [.str "slot", .int n, .int t])
def Sto.told (rs : List Ph) (D : Sto) (j : Int) (r : Rf) : Told := match D.rd rs r with
  | .ok q => .done q
  | .stale => .stale j (D.owner r.1)
  | .dropped => .dropped j (D.owner r.1)
def Sto.after1 (rs : List Ph) (D : Sto) (n : Nat) (j : Int) (r : Rf) : Sto := match D.rd rs r with
  | .ok q => D.read rs n j r q
  | _ => D
def spLRead (K : PySem.W.Frag) : Sp := fun vs H Q _ => ∃ s A rs D, ∃ (n j : Nat) (r : Rf), StA K vs H s A rs D [.int (n : Int), .int (j : Int)] ∧ n < D.hands.length ∧ D.owed[n]? = some none ∧ D.slots[j]? = some (some r) ∧
  ∀ t H', Frm s A A H H' → StoreAt K H' s A rs (D.after1 rs n j r) → t ∉ s :: A.own → ToldAt K H' t (D.told rs j r) → Q (.ref t) H'
def dueT (r : Ph) (g left place : Int) : Told := if r.bar = .none ∨ r.hue = g then (if left ≠ -1 then .stale 0 0 else .done (place, g)) else if left = 0 then .dropped 0 0 else .done (place, r.hue)
def spLook' : Sp := fun vs H Q _ => ∃ (a : Addr) (r : Ph) (g left place : Int), vs = [.ref a, .int g, .int left, .int place] ∧ H a = some (.tup r.vs) ∧ ∀ t H', Same H H' → DueAt H' t (dueT r g left place) → Q (.ref t) H'
def spAgree (K : PySem.W.Frag) : Sp := fun vs H Q _ => ∃ (p q : Addr) (x : Told), vs = [.ref p, .ref q] ∧ ToldAt K H p x ∧ DueAt H q x ∧ ∀ H', Same H H' → Q (.bl true) H'
def toldD (w : Str) (n t : Int) : PyData := .tuple [.str w, .tuple [.str "slot", .int n, .int t]]
theorem told_dp {K : PySem.W.Frag} {H : Hp} {p u : Addr} {w : Str} {n t : Int} (hp : H p = some (.tup [.str w, .ref u])) (hu : H u = some (.tup [.str "slot", .int n, .int t])) : Dp K H (.ref p) (toldD w n t) :=
  .tup (SqT.of hp) (.cons (.str _) (.cons (.tup (SqT.of hu) (.cons (.str _) (.cons (.int _) (.cons (.int _) .nil)))) .nil))
theorem told_shaped {w : Str} (hw : PyData.strOk w = true) (n t : Int) : SeqAt.shaped (toldD w n t) = true := by
  have h2 : PyData.strOk ("slot" : Str) = true := by decide +kernel
  show (PyData.canLay0 (toldD w n t) && decide (PyData.depth (toldD w n t) ≤ 64)) = true
  simp [toldD, PyData.canLay0, PyData.canLayAll0, PyData.depth, PyData.depthAll, hw, h2]
theorem told_eqv (w : Str) (n t : Int) : PyData.eqv (toldD w n t) (toldD w n t) = true := by simp [toldD, PyData.eqv, PyData.eqvAll]
theorem exf_of {H : Hp} {C a dd : Addr} {fs : List (Str × V)} (na : H a = none) (hd : H dd = some (.xd fs)) : ExF (L2.upd H a (Exn (.ref C) (some dd) a)) C a fs := ⟨dd, upd_same, upd_old na hd⟩
theorem pss_or {X : Cx} {st : List Stmt} {t u : TS} (h1 : PSs X st t) (h2 : PSs X st u) : PSs X st (fun D σ H => t D σ H ∨ u D σ H) := ⟨fun pins s σ H D I h => h.elim (h1.run pins s σ H D I) (h2.run pins s σ H D I)⟩
section
variable {P : Program} [SupP P pFile] {w : World} {K : PySem.W.Frag} {mg : Str → Option Value} {base : Heap}
theorem fr_Store_read (T : Tx K mg) : FnR P w K mg base (L2.CX P w) 6 (mad "Store" "read" K) (spRead K) := fnr_of (ok_Store_read T) (bd_Store_read T)
theorem okS_l_int (T : Tx K mg) : FnS P w K mg base 1 (gad "_law_int" K) (fdD K (gad "_law_int" K)) P_l_int spInt := by
  refine fnS_of T.F_l_int sc_l_int (fun vs H Q E h => ?_) (fun cdv A outer s H vs Q E hr h => ?_)
  · obtain ⟨i, rfl, _⟩ := h; rfl
  · obtain ⟨i, rfl, k⟩ := h
    refine ⟨_, PSs.nox ((pss_one (ps_ret (pe_and (pe_callB call_isi (by rfl) T.n_isinstance (by decide +kernel) (pa_cons (pv 0) (pa_cons (pe_bty "int" rfl T.n_int (by decide +kernel)) pa_nil))) (pe_one (pe_not (pe_callB call_isi (by rfl) T.n_isinstance (by decide +kernel) (pa_cons (pv 0) (pa_cons (pe_bty "bool" rfl T.n_bool (by decide +kernel)) pa_nil))))))))), ?_⟩
    refine ⟨_, rfl, _, _, .type "int", .type "int", true, rfl, .ty _, .base (.int _), kit_ty (by decide +kernel), _, rfl, iteT ?_⟩
    exact ⟨_, rfl, _, _, .type "int", .type "bool", false, rfl, .ty _, .base (.int _), kit_ty (by decide +kernel), _, rfl, k⟩
theorem ok_l_same_lists (T : Tx K mg) : FnOk P w K mg base CX0 8 (gad "_law_same_lists" K) (fdD K (gad "_law_same_lists" K)) P_l_same_lists (spSameL K) := by
  refine T.F_l_same_lists.ok sc_l_same_lists (fun vs H Q E h => ?_) (fun cdv A outer s H vs Q E hr h => ?_)
  · obtain ⟨s, A, rs, D, p, q, L, M, rfl, _⟩ := h; rfl
  · obtain ⟨a, SA', rs, D, p, q, L, M, rfl, S, few, tL, tM, eL, aL, aM, mM, lenL, lenM, k⟩ := h
    refine ⟨_, PSs.nox ((pss_cons (ps_set (i := 3) sc_l_same_lists.nd rfl (Or.inl rfl) (pe_meth0 (pv 0) T.c_Store T.m_Store_signposts (ok_Store_signposts (P := P) T) (hr.mono (by decide)) (bd_Store_signposts T) .nil pass0))
      (pss_cons (ps_set (i := 4) sc_l_same_lists.nd rfl (Or.inl rfl) (pe_meth0 (pv 0) T.c_Store T.m_Store_standings (ok_Store_standings (P := P) T) (hr.mono (by decide)) (bd_Store_standings T) .nil pass0))
      (pss_cons (ps_if (PW.pt (pw_or (pt_not (pt_val (pe_callB call_isi (by rfl) T.n_isinstance (by decide +kernel) (pa_cons (pv 3) (pa_cons (pe_bty "list" rfl T.n_list (by decide +kernel)) pa_nil))))) (pw_or1 (pt_not (pt_val (pe_callB call_isi (by rfl) T.n_isinstance (by decide +kernel) (pa_cons (pv 4) (pa_cons (pe_bty "list" rfl T.n_list (by decide +kernel)) pa_nil)))))))) (pss_one (ps_ret pe_bl)) pss_nil)
      (pss_cons (ps_for PassesOwn.never rfl (pi_list (pe_op op_cat (pv 3) (pv 4))) (pg_name (i := 5) sc_l_same_lists.nd rfl (Or.inl rfl)) (pss_cons (ps_if (pt_not (pt_val (pe_callB call_isi (by rfl) T.n_isinstance (by decide +kernel) (pa_cons (pv 5) (pa_cons (pe_bty "tuple" rfl T.n_tuple (by decide +kernel)) pa_nil))))) (pss_one (ps_ret pe_bl)) pss_nil)
      (pss_one (ps_for PassesOwn.never rfl (pi_tup (pv 5)) (pg_name (i := 6) sc_l_same_lists.nd rfl (Or.inl rfl)) (pss_one (ps_if (pt_not (pt_val (pe_call (ok_l_int (P := P) T) (hr.mono (by decide)) rfl T.g_l_int T.F_l_int.kp (bd_l_int T) .nil pass0 (pa_cons (pv 6) pa_nil)))) (pss_one (ps_ret pe_bl)) pss_nil))))))
      (pss_one (ps_ret (pe_and (pe_cmpR (op_eqD hr.units) (pv 3) (pv 1) (nomark _)) (pe_one (pe_cmpR (op_eqD hr.units) (pv 4) (pv 2) (nomark _))))))))))), ?_⟩
    obtain ⟨dx, ho⟩ := S.ob
    refine ⟨_, rfl, a, dx, _, rfl, ho, st_no _ _ _ (by decide +kernel), a, SA', rs, D, ⟨rfl, S⟩, by rw [eL]; exact aL, fun p1 H1 n1 S1 T1 => ?_⟩
    rw [eL] at T1
    refine ⟨_, rfl, a, dx, _, rfl, S1 _ _ ho, st_no _ _ _ (by decide +kernel), a, SA', rs, D, M, ⟨rfl, S.same S1⟩, few, aM, mM, fun p2 H2 n2 S2 T2 => ?_⟩
    have T1 := T1.same S2
    have S12 := S1.trans S2
    obtain ⟨xs1, h1, q1⟩ := id T1
    obtain ⟨xs2, h2, q2⟩ := id T2
    have e1 : xs1.length = L.length := Paired.length q1
    have e2 : xs2.length = M.length := Paired.length q2
    dsimp only [gName]
    refine ⟨_, rfl, _, _, .type "list", .type "list", true, rfl, .ty _, .base (.lst h1), kit_ty (by decide +kernel), _, rfl, iteF ?_⟩
    refine ⟨_, rfl, _, _, .type "list", .type "list", true, rfl, .ty _, .base (.lst h2), kit_ty (by decide +kernel), _, rfl, iteF ?_⟩
    refine ⟨_, rfl, _, rfl, p1, p2, _, _, rfl, rfl, h1, h2, Nat.le_trans (show _ ≤ 10000 by omega) (by decide), fun p3 n3 => ?_⟩
    have S3 : Same H2 (upd H2 p3 (.lst (xs1 ++ xs2))) := Same.new n3
    have h3 : upd H2 p3 (.lst (xs1 ++ xs2)) p3 = some (.lst (xs1 ++ xs2)) := upd_same
    generalize upd H2 p3 (.lst (xs1 ++ xs2)) = H3 at S3 h3 ⊢
    have q3 : Paired (TAt H3) (xs1 ++ xs2) (L ++ M) := by
      have a1 := L2.Paired.mapP q1 fun _ _ q => q.same S3
      have a2 := L2.Paired.mapP q2 fun _ _ q => q.same S3
      exact paired_app a2 a1
    refine ⟨p3, rfl, ⟨_, SqL.of h3⟩, ?_⟩
    refine for_list (K := K) (a := p3) (xs := xs1 ++ xs2) (fun j σ H' => (∃ q5 q6, σ = [some (.ref a), some (.ref p), some (.ref q), some (.ref p1), some (.ref p2), q5, q6]) ∧ H' = H3) ⟨⟨_, _, rfl⟩, rfl⟩ (fun j σ H' _ ⟨_, e⟩ => by rw [e]; exact SqL.of h3) ?_ ?_
    · rintro j x σ H' hx ⟨⟨q5, q6, rfl⟩, rfl⟩
      obtain ⟨y, hy, t, rfl, ht⟩ := pair_at' q3 hx
      refine ⟨_, rfl, _, _, .type "tuple", .type "tuple", true, rfl, .ty _, .base (.tup ht), kit_ty (by decide +kernel), _, rfl, iteF ?_⟩
      refine ⟨_, rfl, t, rfl, ⟨_, SqT.of ht⟩, ?_⟩
      refine for_tup (xs := y.map V.int) (fun i σ H2 => (∃ q6, σ = [some (.ref a), some (.ref p), some (.ref q), some (.ref p1), some (.ref p2), some (.ref t), q6]) ∧ H2 = H') ⟨⟨_, rfl⟩, rfl⟩ (fun i σ H2 _ ⟨_, e⟩ => by rw [e]; exact SqT.of ht) ?_ ?_
      · rintro i z σ H2 hz ⟨⟨q6, rfl⟩, rfl⟩
        rw [List.getElem?_map] at hz
        obtain ⟨v, hv, rfl⟩ : ∃ v, y[i]? = some v ∧ V.int v = z := by
          cases e : y[i]? with
          | none => rw [e] at hz; cases hz
          | some v => rw [e] at hz; cases hz; exact ⟨v, rfl, rfl⟩
        exact ⟨_, rfl, v, rfl, _, rfl, iteF ⟨⟨_, rfl⟩, rfl⟩⟩
      · rintro σ H2 ⟨⟨q6, rfl⟩, rfl⟩
        exact ⟨⟨_, _, rfl⟩, rfl⟩
    · rintro σ H' ⟨⟨q5, q6, rfl⟩, rfl⟩
      have S123 := S12.trans S3
      have ev : ∀ X : List (List Int), PyData.eqv (.list (X.map tD)) (.list (X.map tD)) = true := fun X => by
        simp only [PyData.eqv]
        rw [tDs_eqv]
        exact decide_eq_true rfl
      refine ⟨_, rfl, _, rfl, _, _, (T1.same S3).dp, (tL.same S123).dp, tDs_shaped _, tDs_shaped _, ?_⟩
      rw [ev]
      refine ⟨_, rfl, iteT ⟨_, rfl, _, rfl, _, _, (T2.same S3).dp, (tM.same S123).dp, tDs_shaped _, tDs_shaped _, ?_⟩⟩
      rw [ev]
      exact k _ S123
theorem ok_l_read (T : Tx K mg) : FnOk P w K mg base CX0 12 (gad "_law_read" K) (fdD K (gad "_law_read" K)) P_l_read (spLRead K) := by
  refine T.F_l_read.ok sc_l_read (fun vs H Q E h => ?_) (fun cdv A outer s H vs Q E hr h => ?_)
  · obtain ⟨s, A, rs, D, n, j, r, ⟨rfl, _⟩, _⟩ := h; rfl
  · obtain ⟨a, SA', rs, D, n, j, r, ⟨rfl, S⟩, nl, eo, er, k⟩ := h
    refine ⟨_, PSs.nox ((pss_one (ps_try_val (c := .ref (gad "Wrong" K)) rfl rfl sc_l_read.nd (i := 3) rfl rfl ⟨rfl, by decide, .inl T.g_Wrong⟩ takes0 (fun W pn xe tk hp => (pss_one (ps_ret (pe_tup (pa_cons pe_str (pa_cons (pe_methSK (K := K) rfl (pv 0) T.c_Store T.m_Store_read (fr_Store_read (P := P) T) (hr.mono (by decide)) tk (pa_cons (pv 1) (pa_cons (pv 2) pa_nil))) pa_nil)))))) (fun a pn => (pss_or (pss_cons (ps_if (PW.pt (pw_or (pt_not (pt_val (pe_callB (call_isiK' (K := K) rfl) (by rfl) T.n_isinstance (by decide +kernel) (pa_cons (pe_xvK (K := K) rfl T.e_Stale T.na_Stale_what (pv 3)) (pa_cons (pe_bty "str" rfl T.n_str (by decide +kernel)) pa_nil))))) (pw_or (pt_not (pt_val (pe_callX (okS_l_int (P := P) T) (roomS (hr.mono (by decide))) rfl T.g_l_int T.F_l_int.kp (bd_l_int T) (pa_cons (pe_xvK (K := K) rfl T.e_Stale T.na_Stale_number (pv 3)) pa_nil)))) (pw_or1 (pt_not (pt_val (pe_callX (okS_l_int (P := P) T) (roomS (hr.mono (by decide))) rfl T.g_l_int T.F_l_int.kp (bd_l_int T) (pa_cons (pe_xvK (K := K) rfl T.e_Stale T.na_Stale_thing (pv 3)) pa_nil)))))))) (pss_one (ps_ret (pe_tup (pa_cons pe_str (pa_cons pe_non pa_nil))))) pss_nil)
      (pss_cons (ps_if (PW.pt (pw_and (pt_val (pe_callB (call_isDK (K := K) rfl T.e_Stale) (by rfl) T.n_isinstance (by decide +kernel) (pa_cons (pv 3) (pa_cons (pe_gr rfl T.g_Stale) pa_nil)))) (pw_and1 (pt_not (pt_val (pe_callB (call_isDK (K := K) rfl T.e_Stale) (by rfl) T.n_isinstance (by decide +kernel) (pa_cons (pv 3) (pa_cons (pe_gr rfl T.g_Dropped) pa_nil)))))))) (pss_one (ps_ret (pe_tup (pa_cons pe_str (pa_cons (pe_tup (pa_cons (pe_xvK (K := K) rfl T.e_Stale T.na_Stale_what (pv 3)) (pa_cons (pe_xvK (K := K) rfl T.e_Stale T.na_Stale_number (pv 3)) (pa_cons (pe_xvK (K := K) rfl T.e_Stale T.na_Stale_thing (pv 3)) pa_nil)))) pa_nil))))) pss_nil)
      (pss_cons (ps_if (PW.pt (pw_and (pt_val (pe_callB (call_isDK (K := K) rfl T.e_Stale) (by rfl) T.n_isinstance (by decide +kernel) (pa_cons (pv 3) (pa_cons (pe_gr rfl T.g_Dropped) pa_nil)))) (pw_and1 (pt_not (pt_val (pe_callB (call_isDK (K := K) rfl T.e_Stale) (by rfl) T.n_isinstance (by decide +kernel) (pa_cons (pv 3) (pa_cons (pe_gr rfl T.g_Stale) pa_nil)))))))) (pss_one (ps_ret (pe_tup (pa_cons pe_str (pa_cons (pe_tup (pa_cons (pe_xvK (K := K) rfl T.e_Stale T.na_Stale_what (pv 3)) (pa_cons (pe_xvK (K := K) rfl T.e_Stale T.na_Stale_number (pv 3)) (pa_cons (pe_xvK (K := K) rfl T.e_Stale T.na_Stale_thing (pv 3)) pa_nil)))) pa_nil))))) pss_nil)
      (pss_one (ps_ret (pe_tup (pa_cons pe_str (pa_cons pe_non pa_nil)))))))) (pss_cons (ps_if (PW.pt (pw_or (pt_not (pt_val (pe_callB (call_isiK' (K := K) rfl) (by rfl) T.n_isinstance (by decide +kernel) (pa_cons (pe_xvK (K := K) rfl T.e_Dropped T.na_Dropped_what (pv 3)) (pa_cons (pe_bty "str" rfl T.n_str (by decide +kernel)) pa_nil))))) (pw_or (pt_not (pt_val (pe_callX (okS_l_int (P := P) T) (roomS (hr.mono (by decide))) rfl T.g_l_int T.F_l_int.kp (bd_l_int T) (pa_cons (pe_xvK (K := K) rfl T.e_Dropped T.na_Dropped_number (pv 3)) pa_nil)))) (pw_or1 (pt_not (pt_val (pe_callX (okS_l_int (P := P) T) (roomS (hr.mono (by decide))) rfl T.g_l_int T.F_l_int.kp (bd_l_int T) (pa_cons (pe_xvK (K := K) rfl T.e_Dropped T.na_Dropped_thing (pv 3)) pa_nil)))))))) (pss_one (ps_ret (pe_tup (pa_cons pe_str (pa_cons pe_non pa_nil))))) pss_nil)
      (pss_cons (ps_if (PW.pt (pw_and (pt_val (pe_callB (call_isDK (K := K) rfl T.e_Dropped) (by rfl) T.n_isinstance (by decide +kernel) (pa_cons (pv 3) (pa_cons (pe_gr rfl T.g_Stale) pa_nil)))) (pw_and1 (pt_not (pt_val (pe_callB (call_isDK (K := K) rfl T.e_Dropped) (by rfl) T.n_isinstance (by decide +kernel) (pa_cons (pv 3) (pa_cons (pe_gr rfl T.g_Dropped) pa_nil)))))))) (pss_one (ps_ret (pe_tup (pa_cons pe_str (pa_cons (pe_tup (pa_cons (pe_xvK (K := K) rfl T.e_Dropped T.na_Dropped_what (pv 3)) (pa_cons (pe_xvK (K := K) rfl T.e_Dropped T.na_Dropped_number (pv 3)) (pa_cons (pe_xvK (K := K) rfl T.e_Dropped T.na_Dropped_thing (pv 3)) pa_nil)))) pa_nil))))) pss_nil)
      (pss_cons (ps_if (PW.pt (pw_and (pt_val (pe_callB (call_isDK (K := K) rfl T.e_Dropped) (by rfl) T.n_isinstance (by decide +kernel) (pa_cons (pv 3) (pa_cons (pe_gr rfl T.g_Dropped) pa_nil)))) (pw_and1 (pt_not (pt_val (pe_callB (call_isDK (K := K) rfl T.e_Dropped) (by rfl) T.n_isinstance (by decide +kernel) (pa_cons (pv 3) (pa_cons (pe_gr rfl T.g_Stale) pa_nil)))))))) (pss_one (ps_ret (pe_tup (pa_cons pe_str (pa_cons (pe_tup (pa_cons (pe_xvK (K := K) rfl T.e_Dropped T.na_Dropped_what (pv 3)) (pa_cons (pe_xvK (K := K) rfl T.e_Dropped T.na_Dropped_number (pv 3)) (pa_cons (pe_xvK (K := K) rfl T.e_Dropped T.na_Dropped_thing (pv 3)) pa_nil)))) pa_nil))))) pss_nil)
      (pss_one (ps_ret (pe_tup (pa_cons pe_str (pa_cons pe_non pa_nil))))))))))))), ?_⟩
    obtain ⟨dx, ho⟩ := S.ob
    have jl := (List.getElem?_eq_some_iff.mp er).1
    refine ⟨_, rfl, a, dx, _, rfl, ho, st_no _ _ _ (by decide +kernel), _, rfl, _, rfl, a, SA', rs, D, n, j, ⟨rfl, S⟩, fun z => absurd ⟨by omega, by omega⟩ z, fun _ => ⟨fun z => absurd ⟨by omega, by omega⟩ z, fun _ => ⟨fun m em => ?_, fun _ => ⟨fun z => ?_, fun r' er' => ?_⟩⟩⟩⟩
    · rw [Int.toNat_natCast, eo] at em; cases em
    · rw [Int.toNat_natCast, er] at z; cases z
    rw [Int.toNat_natCast, er] at er'
    cases er'
    refine ⟨fun e => ?_, fun e => ?_, fun q e v H' F S' rv => ?_⟩
    · refine fun dd H' nd S' hd => ?_
      refine ⟨true, T.xm_Stale_Wrong, fun _ x nx => ?_, nofun⟩
      have hx := exf_of (C := gad "Stale" K) nx hd
      have Sx : Same H (upd H' x (Exn (.ref (gad "Stale" K)) (some dd) x)) := Same.upd S' (S'.free nx)
      generalize upd H' x (Exn (.ref (gad "Stale" K)) (some dd) x) = H1 at hx Sx ⊢
      refine Or.inl ?_
      refine ⟨_, rfl, x, _, _, rfl, hx, rfl, _, _, .type "str", .type "str", true, rfl, .ty _, .base (.str _), kit_ty (by decide +kernel), _, rfl, iteF ?_⟩
      refine ⟨_, rfl, x, _, _, rfl, hx, rfl, _, rfl, _, rfl, iteF ?_⟩
      refine ⟨_, rfl, x, _, _, rfl, hx, rfl, _, rfl, _, rfl, iteF ?_⟩
      refine ⟨_, rfl, _, _, _, _, _, rfl, hx, .own _, T.k_Stale_Stale, _, rfl, iteT ?_⟩
      refine ⟨_, rfl, _, _, _, _, _, rfl, hx, .own _, T.k_Stale_Dropped, _, rfl, iteT ?_⟩
      refine ⟨_, rfl, x, _, _, rfl, hx, rfl, _, rfl, x, _, _, rfl, hx, rfl, _, rfl, x, _, _, rfl, hx, rfl, (show (3 : Nat) ≤ sizeLine by decide), fun u nu => ⟨(show (2 : Nat) ≤ sizeLine by decide), fun t nt => ?_⟩⟩
      have Su := Same.upd (u := .tup [.str "slot", .int (j : Int), .int (D.owner r.1)]) Sx (Sx.free nu)
      have St := Same.upd (u := .tup [.str "stale", .ref u]) Su (Su.free nt)
      have ea : D.after1 rs n j r = D := by unfold Sto.after1; rw [e]
      have et : D.told rs j r = .stale j (D.owner r.1) := by unfold Sto.told; rw [e]
      refine k t _ (Frm.same St) (by rw [ea]; exact S.same St) (S.fresh (Su.free nt)) ?_
      rw [et]
      exact ⟨u, upd_same, upd_old nt upd_same⟩
    · refine fun dd H' nd S' hd => ?_
      refine ⟨true, T.xm_Dropped_Wrong, fun _ x nx => ?_, nofun⟩
      have hx := exf_of (C := gad "Dropped" K) nx hd
      have Sx : Same H (upd H' x (Exn (.ref (gad "Dropped" K)) (some dd) x)) := Same.upd S' (S'.free nx)
      generalize upd H' x (Exn (.ref (gad "Dropped" K)) (some dd) x) = H1 at hx Sx ⊢
      refine Or.inr ?_
      refine ⟨_, rfl, x, _, _, rfl, hx, rfl, _, _, .type "str", .type "str", true, rfl, .ty _, .base (.str _), kit_ty (by decide +kernel), _, rfl, iteF ?_⟩
      refine ⟨_, rfl, x, _, _, rfl, hx, rfl, _, rfl, _, rfl, iteF ?_⟩
      refine ⟨_, rfl, x, _, _, rfl, hx, rfl, _, rfl, _, rfl, iteF ?_⟩
      refine ⟨_, rfl, _, _, _, _, _, rfl, hx, .own _, T.k_Dropped_Stale, _, rfl, iteF (iteF ?_)⟩
      refine ⟨_, rfl, _, _, _, _, _, rfl, hx, .own _, T.k_Dropped_Dropped, _, rfl, iteT ?_⟩
      refine ⟨_, rfl, _, _, _, _, _, rfl, hx, .own _, T.k_Dropped_Stale, _, rfl, iteT ?_⟩
      refine ⟨_, rfl, x, _, _, rfl, hx, rfl, _, rfl, x, _, _, rfl, hx, rfl, _, rfl, x, _, _, rfl, hx, rfl, (show (3 : Nat) ≤ sizeLine by decide), fun u nu => ⟨(show (2 : Nat) ≤ sizeLine by decide), fun t nt => ?_⟩⟩
      have Su := Same.upd (u := .tup [.str "slot", .int (j : Int), .int (D.owner r.1)]) Sx (Sx.free nu)
      have St := Same.upd (u := .tup [.str "dropped", .ref u]) Su (Su.free nt)
      have ea : D.after1 rs n j r = D := by unfold Sto.after1; rw [e]
      have et : D.told rs j r = .dropped j (D.owner r.1) := by unfold Sto.told; rw [e]
      refine k t _ (Frm.same St) (by rw [ea]; exact S.same St) (S.fresh (Su.free nt)) ?_
      rw [et]
      exact ⟨u, upd_same, upd_old nt upd_same⟩
    · refine ⟨(show (2 : Nat) ≤ sizeLine by decide), fun t nt => ?_⟩
      have St : Same H' (upd H' t (.tup [.str "done", v])) := Same.new nt
      have ea : D.after1 rs n j r = D.read rs n j r q := by unfold Sto.after1; rw [e]
      have et : D.told rs j r = .done q := by unfold Sto.told; rw [e]
      rw [Int.toNat_natCast] at S'
      refine k t _ ((Frm.fls F (by obtain ⟨d, h⟩ := S'.ob; exact ⟨_, h⟩)).trans (Frm.same St)) (by rw [ea]; exact S'.same St) (S'.fresh nt) ?_
      rw [et]
      exact ⟨v, upd_same, rv.same St⟩
theorem ok_l_look (T : Tx K mg) : FnOk P w K mg base CX0 3 (gad "_law_look" K) (fdD K (gad "_law_look" K)) P_l_look spLook' := by
  refine T.F_l_look.ok sc_l_look (fun vs H Q E h => ?_) (fun cdv A outer s H vs Q E hr h => ?_)
  · obtain ⟨a, r, g, left, place, rfl, _⟩ := h; rfl
  · obtain ⟨a, r, g, left, place, rfl, ha, k⟩ := h
    refine ⟨_, PSs.nox ((pss_cons (ps_if (PW.pt (pw_or (pt_cmpR op_eq (pe_ix ix_tup (pv 0) pe_int (fun _ _ => rfl)) pe_str (nomark _)) (pw_or1 (pt_cmpR op_eq (pe_ix ix_tup (pv 0) pe_int (fun _ _ => rfl)) (pv 1) (nomark _))))) (pss_cons (ps_if (pt_cmpR op_ne (pv 2) (pe_un un_neg pe_int) (nomark _)) (pss_one (ps_ret (pe_tup (pa_cons pe_str (pa_cons (pe_tup (pa_cons pe_str (pa_cons pe_int (pa_cons pe_int pa_nil)))) pa_nil))))) pss_nil)
      (pss_one (ps_ret (pe_tup (pa_cons pe_str (pa_cons (pe_tup (pa_cons (pv 3) (pa_cons (pv 1) pa_nil))) pa_nil)))))) pss_nil)
      (pss_cons (ps_if (pt_cmpR op_eq (pv 2) pe_int (nomark _)) (pss_one (ps_ret (pe_tup (pa_cons pe_str (pa_cons (pe_tup (pa_cons pe_str (pa_cons pe_int (pa_cons pe_int pa_nil)))) pa_nil))))) pss_nil)
      (pss_one (ps_ret (pe_tup (pa_cons pe_str (pa_cons (pe_tup (pa_cons (pv 3) (pa_cons (pe_ix ix_tup (pv 0) pe_int (fun _ _ => rfl)) pa_nil))) pa_nil)))))))), ?_⟩
    have eb : decide (V.str r.bar.s = V.str "none") = decide (r.bar = .none) := by
      by_cases h : r.bar = .none
      · rw [decide_eq_true h, h]; rfl
      · rw [decide_eq_false h, decide_eq_false (show ¬ V.str r.bar.s = V.str "none" from fun z => h (bar_inj (b := .none) (V.str.inj z)))]
    refine sif_val (decide (r.bar = .none ∨ r.hue = g)) (fun R hR => ?_) (fun c => ?_) (fun c => ?_)
    · refine ⟨_, rfl, _, _, _, _, rfl, rfl, SqT.of ha, (show atI r.vs 1 = some (.str r.bar.s) from rfl), rfl, _, rfl, ?_⟩
      rw [eb]
      by_cases h : r.bar = .none
      · refine iteD h ?_
        rw [decide_eq_true (.inl h)] at hR
        exact hR
      · refine iteDN h ⟨_, rfl, _, _, _, _, rfl, rfl, SqT.of ha, (show atI r.vs 0 = some (.int r.hue) from rfl), _, rfl, rfl, _, rfl, ?_⟩
        have e : decide (r.bar = .none ∨ r.hue = g) = decide (V.int r.hue = V.int g) := by
          rw [decI]
          simp [h]
        rw [← e]
        exact hR
    · have c := of_decide_eq_true c
      have e0 : dueT r g left place = if left ≠ -1 then .stale 0 0 else .done (place, g) := if_pos c
      refine ⟨_, rfl, _, rfl, rfl, _, rfl, iteB (fun c => ?_) (fun c => ?_)⟩
      · have c1 : ¬ left = -1 := fun z => by rw [z] at c; simp at c
        refine ⟨(show (3 : Nat) ≤ sizeLine by decide), fun u nu => ⟨(show (2 : Nat) ≤ sizeLine by decide), fun t nt => ?_⟩⟩
        have Su : Same H (upd H u (.tup [.str "slot", .int 0, .int 0])) := Same.new nu
        have St := Same.upd (u := .tup [.str "stale", .ref u]) Su (Su.free nt)
        refine k t _ St ?_
        rw [e0, if_pos c1]
        exact ⟨u, upd_same, upd_old nt upd_same⟩
      · have c1 : left = -1 := by simpa using c
        refine ⟨_, rfl, _, rfl, (show (2 : Nat) ≤ sizeLine by decide), fun u nu => ⟨(show (2 : Nat) ≤ sizeLine by decide), fun t nt => ?_⟩⟩
        have Su : Same H (upd H u (.tup [.int place, .int g])) := Same.new nu
        have St := Same.upd (u := .tup [.str "done", .ref u]) Su (Su.free nt)
        refine k t _ St ?_
        rw [e0, if_neg (by simp [c1])]
        exact ⟨_, upd_same, u, rfl, upd_old nt upd_same⟩
    · have c := of_decide_eq_false c
      have e0 : dueT r g left place = if left = 0 then .dropped 0 0 else .done (place, r.hue) := if_neg c
      refine ⟨_, rfl, rfl, _, rfl, iteB (fun c => ?_) (fun c => ?_)⟩
      · have c1 : left = 0 := V.int.inj (of_decide_eq_true c)
        refine ⟨(show (3 : Nat) ≤ sizeLine by decide), fun u nu => ⟨(show (2 : Nat) ≤ sizeLine by decide), fun t nt => ?_⟩⟩
        have Su : Same H (upd H u (.tup [.str "slot", .int 0, .int 0])) := Same.new nu
        have St := Same.upd (u := .tup [.str "dropped", .ref u]) Su (Su.free nt)
        refine k t _ St ?_
        rw [e0, if_pos c1]
        exact ⟨u, upd_same, upd_old nt upd_same⟩
      · have c1 : ¬ left = 0 := fun z => of_decide_eq_false c (congrArg V.int z)
        refine ⟨_, rfl, _, rfl, _, _, _, _, rfl, rfl, SqT.of ha, (show atI r.vs 0 = some (.int r.hue) from rfl), (show (2 : Nat) ≤ sizeLine by decide), fun u nu => ⟨(show (2 : Nat) ≤ sizeLine by decide), fun t nt => ?_⟩⟩
        have Su : Same H (upd H u (.tup [.int place, .int r.hue])) := Same.new nu
        have St := Same.upd (u := .tup [.str "done", .ref u]) Su (Su.free nt)
        refine k t _ St ?_
        rw [e0, if_neg c1]
        exact ⟨_, upd_same, u, rfl, upd_old nt upd_same⟩
theorem ok_l_agree (T : Tx K mg) : FnOk P w K mg base CX0 7 (gad "_law_agree" K) (fdD K (gad "_law_agree" K)) P_l_agree (spAgree K) := by
  refine T.F_l_agree.ok sc_l_agree (fun vs H Q E h => ?_) (fun cdv A outer s H vs Q E hr h => ?_)
  · obtain ⟨p, q, x, rfl, _⟩ := h; rfl
  · obtain ⟨p, q, x, rfl, tp, tq, k⟩ := h
    refine ⟨_, PSs.nox ((pss_cons (ps_if (pt_cmpR op_ne (pe_ix ix_tup (pv 0) pe_int (fun _ _ => rfl)) (pe_ix ix_tup (pv 1) pe_int (fun _ _ => rfl)) (nomark _)) (pss_one (ps_ret pe_bl)) pss_nil)
      (pss_cons (ps_if (pt_cmpR op_eq (pe_ix ix_tup (pv 1) pe_int (fun _ _ => rfl)) pe_str (nomark _)) (pss_one (ps_ret (pe_call (ok_l_value (P := P) T) (hr.mono (by decide)) rfl T.g_l_value T.F_l_value.kp (bd_l_value T) .nil pass0 (pa_cons (pe_ix ix_tup (pv 0) pe_int (fun _ _ => rfl)) (pa_cons (pe_ix ix_tup (pv 1) pe_int (fun _ _ => rfl)) pa_nil))))) pss_nil)
      (pss_one (ps_ret (pe_cmpR (op_eqD hr.units) (pv 0) (pv 1) (nomark _))))))), ?_⟩
    cases x with
    | done r =>
      obtain ⟨v, hp, rv⟩ := tp
      obtain ⟨d, hq, dv⟩ := tq
      refine ⟨_, rfl, _, _, _, _, rfl, rfl, SqT.of hp, rfl, _, rfl, _, _, _, _, rfl, rfl, SqT.of hq, rfl, rfl, _, rfl, iteNS rfl ?_⟩
      refine ⟨_, rfl, _, _, _, _, rfl, rfl, SqT.of hq, rfl, rfl, _, rfl, iteD rfl ?_⟩
      exact ⟨_, rfl, _, _, _, _, rfl, rfl, SqT.of hp, rfl, _, rfl, _, _, _, _, rfl, rfl, SqT.of hq, rfl, v, d, rfl, .inl ⟨some r, rv, dv⟩, k⟩
    | stale n t =>
      obtain ⟨u, hp, hu⟩ := tp
      obtain ⟨u', hq, hu'⟩ := tq
      refine ⟨_, rfl, _, _, _, _, rfl, rfl, SqT.of hp, rfl, _, rfl, _, _, _, _, rfl, rfl, SqT.of hq, rfl, rfl, _, rfl, iteNS rfl ?_⟩
      refine ⟨_, rfl, _, _, _, _, rfl, rfl, SqT.of hq, rfl, rfl, _, rfl, iteDN (by intro z; exact absurd (V.str.inj z) (by decide +kernel)) ?_⟩
      refine ⟨_, rfl, _, rfl, _, _, told_dp hp hu, told_dp hq hu', told_shaped (by decide +kernel) _ _, told_shaped (by decide +kernel) _ _, ?_⟩
      rw [told_eqv]
      exact k _ (Same.refl _)
    | dropped n t =>
      obtain ⟨u, hp, hu⟩ := tp
      obtain ⟨u', hq, hu'⟩ := tq
      refine ⟨_, rfl, _, _, _, _, rfl, rfl, SqT.of hp, rfl, _, rfl, _, _, _, _, rfl, rfl, SqT.of hq, rfl, rfl, _, rfl, iteNS rfl ?_⟩
      refine ⟨_, rfl, _, _, _, _, rfl, rfl, SqT.of hq, rfl, rfl, _, rfl, iteDN (by intro z; exact absurd (V.str.inj z) (by decide +kernel)) ?_⟩
      refine ⟨_, rfl, _, rfl, _, _, told_dp hp hu, told_dp hq hu', told_shaped (by decide +kernel) _ _, told_shaped (by decide +kernel) _ _, ?_⟩
      rw [told_eqv]
      exact k _ (Same.refl _)
end

end Hue

set_option Elab.async false
set_option linter.all false
set_option maxRecDepth 100000
set_option maxHeartbeats 1000000
set_option pp.maxSteps 3000
namespace Hue
open PySem PySem.Spec PyProof.Rows L2
local macro_rules | `(tactic| walk_at "hp") => `(tactic| first
  | assumption
  | exact upd_same
  | (refine upd_old (by assumption) ?_; walk_at "hp")
  | (refine upd_oth (by assumption) ?_; walk_at "hp")
  | (refine same_get (by assumption) ?_; walk_at "hp")
  | (refine Fl.get (by assumption) (by assumption) ?_; walk_at "hp"))
local macro_rules | `(tactic| walk_at "seq") => `(tactic| first
  | assumption
  | exact T.t_BARRIERS _
  | exact SqL.of (by walk_at "hp")
  | exact SqT.of (by walk_at "hp"))
local macro_rules | `(tactic| walk_at "len") => `(tactic| first
  | exact Or.inl (by walk_at "seq")
  | exact Or.inr (by walk_at "seq"))
local macro_rules | `(tactic| walk_at "at") => `(tactic| first
  | rfl
  | assumption)

/-! ### what the turns of the first thing come to -/
def pk (k : Nat) : Int := if k = 0 then 0 else (k : Int) + 1
def poE (rs : List Ph) (k : Nat) : Int × (Int × Int) := (pk k, ((k : Int) + 2, (((k + 1 : Nat) : Int) + gpS rs (((k + 1) % rs.length : Nat) : Int))))
def heldN (rs : List Ph) : Nat → Bool
  | 0 => true
  | n + 1 => heldN rs n && !gpP rs (((n + 1) % rs.length : Nat) : Int)
def Cn (rs : List Ph) (g : Int) (n : Nat) : Sto :=
  ⟨((n % rs.length : Nat) : Int), (n : Int), [pk n, 1], [0, 1] ++ List.replicate n 0, (List.range n).map (poE rs), [some (0, g), some (1, g)], [false, false], if heldN rs n then [some (0, g), some (1, g)] else [none, none], [none, none]⟩
theorem C0_eq {rs : List Ph} (h1 : 1 ≤ rs.length) : ((((newD 2 2).make rs 0).write 0 (0, gdH rs 0)).make rs 1).write 1 (1, gdH rs 0) = Cn rs (gdH rs 0) 0 := by
  unfold Cn
  rw [Nat.zero_mod]
  rfl
theorem Cn_step {rs : List Ph} (h1 : 1 ≤ rs.length) (g : Int) (n : Nat) : (Cn rs g n).turn1 rs = Cn rs g (n + 1) := by
  have e1 : nx rs.length (Cn rs g n).row = (n + 1) % rs.length := by
    show (((n % rs.length : Nat) : Int).toNat + 1) % rs.length = _
    rw [Int.toNat_natCast, Nat.mod_add_mod]
  unfold Sto.turn1
  rw [e1]
  show ((Cn rs g n).begin rs (((n + 1) % rs.length : Nat) : Int)).move 0 (gpS rs (((n + 1) % rs.length : Nat) : Int)) = _
  have eo : (Cn rs g n).owners.length = n + 2 := by simp [Cn]
  have ep : (Cn rs g n).placeOf 0 = pk n := rfl
  have hh : (if gpP rs (((n + 1) % rs.length : Nat) : Int) = true then List.replicate (Cn rs g n).hands.length none else (Cn rs g n).hands) = if heldN rs (n + 1) then [some ((0 : Int), g), some (1, g)] else [none, none] := by
    show (if gpP rs (((n + 1) % rs.length : Nat) : Int) = true then List.replicate (if heldN rs n then [some ((0 : Int), g), some (1, g)] else [none, none]).length none else (if heldN rs n then [some ((0 : Int), g), some (1, g)] else [none, none])) = if (heldN rs n && !gpP rs (((n + 1) % rs.length : Nat) : Int)) then _ else _
    cases heldN rs n <;> cases gpP rs (((n + 1) % rs.length : Nat) : Int) <;> rfl
  have pn : pk (n + 1) = ((n + 2 : Nat) : Int) := by
    unfold pk
    rw [if_neg (by omega)]
    omega
  unfold Sto.move Sto.begin
  rw [show ({ (Cn rs g n) with row := (((n + 1) % rs.length : Nat) : Int), turns := (Cn rs g n).turns + 1, seen := List.replicate (Cn rs g n).slots.length false, hands := if gpP rs (((n + 1) % rs.length : Nat) : Int) = true then List.replicate (Cn rs g n).hands.length none else (Cn rs g n).hands : Sto}) = ⟨(((n + 1) % rs.length : Nat) : Int), (n : Int) + 1, [pk n, 1], [0, 1] ++ List.replicate n 0, (List.range n).map (poE rs), [some (0, g), some (1, g)], [false, false], if heldN rs (n + 1) then [some (0, g), some (1, g)] else [none, none], [none, none]⟩ by rw [hh]; rfl]
  have eo2 : (([0, 1] ++ List.replicate n 0 : List Int)).length = n + 2 := eo
  show (⟨_, _, [pk n, 1].set 0 (([0, 1] ++ List.replicate n 0 : List Int).length : Nat), ([0, 1] ++ List.replicate n 0) ++ [0], (List.range n).map (poE rs) ++ [(pk n, ((([0, 1] ++ List.replicate n 0 : List Int).length : Nat) : Int), (n : Int) + 1 + gpS rs (((n + 1) % rs.length : Nat) : Int))], _, _, _, _⟩ : Sto) = _
  rw [eo2]
  unfold Cn
  rw [List.range_succ, List.map_append, List.replicate_succ', List.append_assoc, pn]
  show (⟨_, _, _, _, _, _, _, _, _⟩ : Sto) = ⟨_, _, _, _, (List.range n).map (poE rs) ++ [poE rs n], _, _, _, _⟩
  have e5 : poE rs n = (pk n, (((n + 2 : Nat) : Int), (n : Int) + 1 + gpS rs (((n + 1) % rs.length : Nat) : Int))) := by
    unfold poE
    rw [show ((n : Int) + 2) = ((n + 2 : Nat) : Int) by omega, show ((n + 1 : Nat) : Int) = (n : Int) + 1 by omega]
  rw [e5]
  rfl
theorem turnsN_eq {rs : List Ph} (h1 : 1 ≤ rs.length) (g : Int) : ∀ n, turnsN rs (Cn rs g 0) n = Cn rs g n
  | 0 => rfl
  | n + 1 => by
    show (turnsN rs (Cn rs g 0) n).turn1 rs = _
    rw [turnsN_eq h1 g n, Cn_step h1]
theorem pk_inj {i j : Nat} (h : pk i = pk j) : i = j := by
  unfold pk at h
  split at h <;> split at h <;> omega
theorem lookup_po (rs : List Ph) : ∀ (n k : Nat), ((List.range n).map (poE rs)).lookup (pk k) = if k < n then some (poE rs k).2 else none
  | 0, k => rfl
  | n + 1, k => by
    rw [List.range_succ, List.map_append, List.lookup_append, lookup_po rs n k]
    show Option.or _ (List.lookup (pk k) [(pk n, (poE rs n).2)]) = _
    rw [List.lookup_cons]
    by_cases h : k < n
    · rw [if_pos h, if_pos (by omega)]
      rfl
    · rw [if_neg h]
      by_cases e : k = n
      · subst e
        rw [beq_self_eq_true, if_pos (by omega)]
        rfl
      · rw [beq_eq_false_iff_ne.mpr (fun z => e (pk_inj z)), if_neg (by omega)]
        rfl
def mn (l x : Int) : Int := if l = -1 then x else min l x
theorem restsL_len (rs : List Ph) (n : Nat) : (restsL rs n).length = n := by unfold restsL; rw [List.length_map, List.length_range]
theorem restsL_get (rs : List Ph) {n k : Nat} (h : k < n) : (restsL rs n)[k]? = some (max 0 ((poE rs k).2.2 - (n : Int))) := by
  unfold restsL
  rw [List.getElem?_map, List.getElem?_range h]
  rfl
theorem left_run (rs : List Ph) (n : Nat) : ∀ (m k f : Nat) (l : Int), k + m = n → m < f → leftG ((List.range n).map (poE rs)) (n : Int) f (pk k) l = ((restsL rs n).drop k).foldl mn l
  | 0, k, f, l, h, hf => by
    obtain ⟨f, rfl⟩ : ∃ e, f = e + 1 := ⟨f - 1, by omega⟩
    rw [List.drop_eq_nil_of_le (by rw [restsL_len]; omega)]
    simp only [leftG]
    rw [lookup_po, if_neg (by omega)]
    rfl
  | m + 1, k, f, l, h, hf => by
    obtain ⟨f, rfl⟩ : ∃ e, f = e + 1 := ⟨f - 1, by omega⟩
    have hk : k < n := by omega
    have hg := restsL_get rs hk
    obtain ⟨hl, hv⟩ := List.getElem?_eq_some_iff.mp hg
    rw [List.drop_eq_getElem_cons hl, List.foldl_cons, hv]
    simp only [leftG]
    rw [lookup_po, if_pos hk]
    show leftG _ _ f ((k : Int) + 2) (if l = -1 then max 0 ((poE rs k).2.2 - (n : Int)) else min l (max 0 ((poE rs k).2.2 - (n : Int)))) = _
    rw [show ((k : Int) + 2) = pk (k + 1) by unfold pk; rw [if_neg (by omega)]; omega]
    exact left_run rs n m (k + 1) f _ (by omega) (by omega)
def leftN (rs : List Ph) (n : Nat) : Int := (restsL rs n).foldl mn (-1)
theorem Cn_left0 (rs : List Ph) (g : Int) (n : Nat) : (Cn rs g n).left 0 = leftN rs n := by
  have e : (Cn rs g n).owners.length = n + 2 := by simp [Cn]
  unfold Sto.left
  rw [e]
  exact left_run rs n n 0 (n + 2) (-1) (by omega) (by omega)
theorem Cn_left1 (rs : List Ph) (g : Int) (n : Nat) : (Cn rs g n).left 1 = -1 := by
  have e : (Cn rs g n).owners.length = n + 2 := by simp [Cn]
  unfold Sto.left
  rw [e]
  have z : ((List.range n).map (poE rs)).lookup 1 = none := by
    apply lookup_none
    intro h
    obtain ⟨q, hq, e⟩ := List.mem_map.mp h
    obtain ⟨k, _, rfl⟩ := List.mem_map.mp hq
    have e : pk k = 1 := e
    unfold pk at e
    split at e <;> omega
  show leftG ((List.range n).map (poE rs)) _ _ 1 (-1) = _
  simp only [leftG, z]
theorem restsL_pos (rs : List Ph) (n : Nat) : ∀ x ∈ restsL rs n, 0 ≤ x := fun x hx => by
  obtain ⟨k, _, rfl⟩ := List.mem_map.mp hx
  exact Int.le_max_left _ _
theorem fold_pos : ∀ (L : List Int) (l : Int), (∀ x ∈ L, 0 ≤ x) → 0 ≤ l → 0 ≤ L.foldl mn l ∧ L.foldl mn l = L.foldl min l
  | [], l, _, h => ⟨h, rfl⟩
  | x :: L, l, hL, h => by
    have hx := hL x List.mem_cons_self
    have e : mn l x = min l x := if_neg (by omega)
    rw [List.foldl_cons, List.foldl_cons, e]
    exact fold_pos L _ (fun y hy => hL y (List.mem_cons_of_mem _ hy)) (by omega)
theorem leftN_zero (rs : List Ph) : leftN rs 0 = -1 := rfl
theorem leftN_pos (rs : List Ph) {n : Nat} (h : 0 < n) : 0 ≤ leftN rs n ∧ ∃ x L, restsL rs n = x :: L ∧ leftN rs n = L.foldl min x := by
  unfold leftN
  have hl := restsL_len rs n
  have hp := restsL_pos rs n
  cases e : restsL rs n with
  | nil => rw [e] at hl; simp at hl; omega
  | cons x L =>
    rw [e] at hp
    rw [List.foldl_cons, show mn (-1) x = x from rfl]
    obtain ⟨a, b⟩ := fold_pos L x (fun y hy => hp y (List.mem_cons_of_mem _ hy)) (hp x List.mem_cons_self)
    exact ⟨a, x, L, rfl, b⟩
theorem filterMap_cg {α β : Type} {f g : α → Option β} : ∀ {l : List α}, (∀ x ∈ l, f x = g x) → l.filterMap f = l.filterMap g
  | [], _ => rfl
  | x :: l, h => by
    rw [List.filterMap_cons, List.filterMap_cons, h x List.mem_cons_self, filterMap_cg fun y hy => h y (List.mem_cons_of_mem _ hy)]
theorem pk_lt {i j : Nat} (h : i < j) : pk i < pk j := by
  unfold pk
  split <;> split <;> omega
theorem Cn_poL (rs : List Ph) (g : Int) (n : Nat) : (Cn rs g n).poL = postsL (restsL rs n) := by
  unfold Sto.poL postsL
  rw [restsL_len]
  show ((List.range n).map (poE rs)).filterMap (poX (n : Int)) = _
  rw [List.filterMap_map]
  refine filterMap_cg fun k hk => ?_
  have hk := List.mem_range.mp hk
  rw [restsL_get rs hk]
  show poX (n : Int) (poE rs k) = postX k (max 0 ((poE rs k).2.2 - (n : Int)))
  unfold poX postX
  by_cases h : (poE rs k).2.2 > (n : Int)
  · rw [if_pos h, if_pos (by omega), show max 0 ((poE rs k).2.2 - (n : Int)) = (poE rs k).2.2 - (n : Int) by omega]
    rfl
  · rw [if_neg h, if_neg (by omega)]
theorem postsL_asc (L : List Int) : (postsL L).Pairwise (· < ·) := by
  unfold postsL
  refine List.pairwise_filterMap.mpr ((List.pairwise_lt_range (n := L.length)).imp ?_)
  intro i j hij b hb c hc
  obtain ⟨x, _, hx⟩ := Option.bind_eq_some_iff.mp hb
  obtain ⟨y, _, hy⟩ := Option.bind_eq_some_iff.mp hc
  unfold postX at hx hy
  split at hx
  · split at hy
    · cases hx
      cases hy
      have := pk_lt hij
      unfold pk at this
      exact List.Lex.rel this
    · cases hy
  · cases hx
theorem standL_asc (a g left : Int) (held : Bool) (h : left = -1 ∨ 0 ≤ left) : (standL a g left held).Pairwise (· < ·) := by
  have l1 : [a, 0, g, -1] < [a, 1, g, -1] := List.Lex.cons (List.Lex.rel (by decide))
  unfold standL
  by_cases e : left = -1
  · subst e
    cases held <;> simp [List.flatMap_cons, l1]
  · have h0 : 0 ≤ left := h.resolve_left e
    have z : (-1 : Int) < left := by omega
    have a1 : ∀ i : Int, [a, i, g, -1] < [a, i, g, left] := fun i => List.Lex.cons (List.Lex.cons (List.Lex.cons (List.Lex.rel z)))
    have a2 : ∀ x y : Int, [a, 0, g, x] < [a, 1, g, y] := fun x y => List.Lex.cons (List.Lex.rel (by decide))
    cases held <;> simp [List.flatMap_cons, e, a1, a2]
theorem Cn_stL (rs : List Ph) (g : Int) (n : Nat) : ∀ x, x ∈ standL ((n % rs.length : Nat) : Int) g (leftN rs n) (heldN rs n) ↔ x ∈ (Cn rs g n).stL := fun x => by
  have e : (Cn rs g n).stL = (if heldN rs n then [some ((0 : Int), g), some (1, g)] else [none, none]).filterMap (Option.map ((Cn rs g n).stX 0)) ++ [(Cn rs g n).stX 1 (0, g), (Cn rs g n).stX 1 (1, g)] := rfl
  have x0 : ∀ h, (Cn rs g n).stX h (0, g) = [((n % rs.length : Nat) : Int), h, g, leftN rs n] := fun h => by
    show [_, h, g, (Cn rs g n).left 0] = _
    rw [Cn_left0]
    rfl
  have x1 : ∀ h, (Cn rs g n).stX h (1, g) = [((n % rs.length : Nat) : Int), h, g, -1] := fun h => by
    show [_, h, g, (Cn rs g n).left 1] = _
    rw [Cn_left1]
    rfl
  rw [e, x0, x1]
  unfold standL
  generalize ((n % rs.length : Nat) : Int) = a at x0 x1 ⊢
  by_cases z : leftN rs n = -1
  · rw [z]
    cases heldN rs n <;> simp [List.flatMap_cons, x0, x1, z]
  · cases heldN rs n <;> simp [List.flatMap_cons, x0, x1, z] <;> grind
/-! ### the two reads -/
theorem Cn_gd {rs : List Ph} {r : Ph} {n : Nat} (hr : rs[n % rs.length]? = some r) (g : Int) : gdH rs (Cn rs g n).row = r.hue ∧ barR rs (Cn rs g n).row = r.bar := by
  have e : rs[(Cn rs g n).row.toNat]? = some r := by
    show rs[((n % rs.length : Nat) : Int).toNat]? = _
    rw [Int.toNat_natCast]
    exact hr
  exact ⟨gdH_some e, barR_some e⟩
theorem told_due {rs : List Ph} {D : Sto} {r : Ph} {g p place j : Int} (e1 : gdH rs D.row = r.hue) (e2 : barR rs D.row = r.bar) (e3 : D.owner p = 0 ∨ D.left p = -1) (hj : j = 0 ∨ D.left p = -1) (hp : D.left p = -1 → place = p) (hq : D.placeOf (D.owner p) = place) : D.told rs j (p, g) = dueT r g (D.left p) place := by
  unfold Sto.told Sto.rd dueT Sto.look
  rw [e2, e1]
  dsimp only
  rw [hq]
  by_cases l : D.left p = -1
  · rw [l, ← hp l]
    by_cases b : r.bar = .none
    · simp [b]
    · by_cases h : r.hue = g
      · simp [b, h]
      · simp [b, h, Ne.symm h]
  · have e3 := e3.resolve_right l
    have hj := hj.resolve_right l
    subst hj
    rw [e3]
    by_cases b : r.bar = .none
    · simp [b, l]
    · by_cases h : r.hue = g
      · simp [b, h, l]
      · by_cases z : D.left p = 0
        · simp [b, h, Ne.symm h, z]
        · simp [b, h, Ne.symm h, z, l]
theorem after1_same (rs : List Ph) (D : Sto) (n : Nat) (j : Int) (r : Rf) : (D.after1 rs n j r).row = D.row ∧ (D.after1 rs n j r).posts = D.posts ∧ (D.after1 rs n j r).turns = D.turns ∧ (D.after1 rs n j r).owners = D.owners ∧ (D.after1 rs n j r).places = D.places ∧ (D.after1 rs n j r).slots = D.slots ∧ (D.after1 rs n j r).hands.length = D.hands.length ∧ ∀ m, m ≠ n → (D.after1 rs n j r).owed[m]? = D.owed[m]? := by
  unfold Sto.after1
  split
  · unfold Sto.read
    split
    · refine ⟨rfl, rfl, rfl, rfl, rfl, rfl, by simp [Sto.owes, Sto.hold], fun m hm => ?_⟩
      show (D.owed.set n _)[m]? = _
      rw [List.getElem?_set_ne (Ne.symm hm)]
    · exact ⟨rfl, rfl, rfl, rfl, rfl, rfl, by simp [Sto.hold], fun m hm => rfl⟩
  · exact ⟨rfl, rfl, rfl, rfl, rfl, rfl, rfl, fun m hm => rfl⟩
theorem fold_min : ∀ (L : List Int) (x : Int), L.foldl min x ∈ x :: L ∧ ∀ y ∈ x :: L, L.foldl min x ≤ y
  | [], x => ⟨List.mem_cons_self, fun y hy => by rw [List.mem_singleton.mp hy]; exact Int.le_refl _⟩
  | z :: L, x => by
    obtain ⟨a, b⟩ := fold_min L (min x z)
    rw [List.foldl_cons]
    refine ⟨?_, fun y hy => ?_⟩
    · rcases List.mem_cons.mp a with e | e
      · rw [e]
        by_cases h : x ≤ z
        · rw [Int.min_eq_left h]; exact List.mem_cons_self
        · rw [Int.min_eq_right (by omega)]; exact List.mem_cons_of_mem _ List.mem_cons_self
      · exact List.mem_cons_of_mem _ (List.mem_cons_of_mem _ e)
    · have hm := b (min x z) List.mem_cons_self
      rcases List.mem_cons.mp hy with e | hy
      · rw [e]; omega
      · rcases List.mem_cons.mp hy with e | hy
        · rw [e]; omega
        · exact b y (List.mem_cons_of_mem _ hy)
theorem leftN_ok (rs : List Ph) (n : Nat) : leftN rs n = -1 ∨ 0 ≤ leftN rs n := by
  by_cases h : 0 < n
  · exact .inr (leftN_pos rs h).1
  · have : n = 0 := by omega
    subst this
    exact .inl rfl
theorem postsL_len (L : List Int) : (postsL L).length ≤ L.length := by
  unfold postsL
  refine Nat.le_trans (List.length_filterMap_le _ _) ?_
  rw [List.length_range]
  exact Nat.le_refl _
theorem standL_len (a g left : Int) (held : Bool) : (standL a g left held).length ≤ 4 := by
  unfold standL
  by_cases e : left = -1 <;> cases held <;> simp [List.flatMap_cons, e]
theorem left_same {D D' : Sto} (h1 : D'.posts = D.posts) (h2 : D'.turns = D.turns) (h3 : D'.owners = D.owners) (p : Int) : D'.left p = D.left p := by
  unfold Sto.left
  rw [h1, h2, h3]

end Hue

set_option Elab.async false
set_option linter.all false
set_option maxRecDepth 100000
set_option maxHeartbeats 1000000
set_option pp.maxSteps 3000
namespace Hue
open PySem PySem.Spec PyProof.Rows L2
local macro_rules | `(tactic| walk_at "hp") => `(tactic| first
  | assumption
  | exact upd_same
  | (refine upd_old (by assumption) ?_; walk_at "hp")
  | (refine upd_oth (by assumption) ?_; walk_at "hp")
  | (refine same_get (by assumption) ?_; walk_at "hp")
  | (refine Fl.get (by assumption) (by assumption) ?_; walk_at "hp"))
local macro_rules | `(tactic| walk_at "seq") => `(tactic| first
  | assumption
  | exact T.t_BARRIERS _
  | exact SqL.of (by walk_at "hp")
  | exact SqT.of (by walk_at "hp"))
local macro_rules | `(tactic| walk_at "len") => `(tactic| first
  | exact Or.inl (by walk_at "seq")
  | exact Or.inr (by walk_at "seq"))
local macro_rules | `(tactic| walk_at "at") => `(tactic| first
  | rfl
  | assumption)

theorem kb_Store_slots {K : PySem.W.Frag} {mg : Str → Option Value} (T : Tx K mg) : ∃ g, KBn K (fdD K (mad "Store" "__init__" K)) P_Store_init 2 ["slots"] g (fun us zs => us ++ ((zs.drop 0).take 1 ++ (((([("hands", V.int (2))] : List (Str × V)).map (·.2)).drop 0).take 1))) := by
  obtain ⟨mv, h⟩ := FunD.kbinds0 (ps := P_Store_init) T.F_Store_init 2 ["slots"] ([("hands", V.int (2))] : List (Str × V)) (fun us mz zs => us ++ ((zs.drop 0).take 1 ++ ((mz.drop 0).take 1))) (by simp) (by simp) (fun r1 r2 r3 => Vals.append r1 (Vals.append (Vals.take 1 (Vals.drop 0 r3)) (Vals.take 1 (Vals.drop 0 r2))))
    (fun D doc pm an cdv ct us mv ws h1 h2 h3 => match us, mv, ws, h1, h2, h3 with | [_, _], [_], [_], _, _, _ => ⟨_, _, _, _, _, _, rfl, rfl, rfl⟩)
  exact ⟨_, h⟩
theorem RowsAt.fl {H H' : Hp} {a l : Addr} {rs : List Ph} (h : RowsAt H a rs) (e : Fl l H H') (n : a ≠ l) (hp : PoolAt H l) : RowsAt H' a rs := by
  obtain ⟨⟨ts, h1, h2, h3⟩, h4⟩ := h
  obtain ⟨ns, p1, _⟩ := hp
  exact ⟨⟨ts, e _ _ n h1, h2, fun i t r ht hr => e _ _ (ne_of (h3 i t r ht hr) p1 (by intro z; cases z)) (h3 i t r ht hr)⟩, h4⟩
theorem RowsAt.nil {H : Hp} {D : Addr} : RowsAt (upd H D (.lst [])) D [] := ⟨⟨[], upd_same, rfl, fun i t r h _ => by simp at h⟩, fun r h => by cases h⟩
theorem RowsAt.snoc {H : Hp} {D t : Addr} {rs : List Ph} {r : Ph} (h : RowsAt H D rs) (ht : H t = some (.tup r.vs)) (hr : r.Ok) :
    ∃ xs, H D = some (.lst xs) ∧ xs.length = rs.length ∧ RowsAt (upd H D (.lst (xs ++ [.ref t]))) D (rs ++ [r]) := by
  obtain ⟨⟨ts, h1, h2, h3⟩, h4⟩ := h
  refine ⟨_, h1, by rw [List.length_map, h2], ⟨ts ++ [t], by rw [upd_same, List.map_append]; rfl, by rw [List.length_append, List.length_append, h2]; rfl, fun i t' r' a b => ?_⟩, fun q hq => ?_⟩
  · have tup : ∀ {x : Addr} {q : Ph}, H x = some (.tup q.vs) → ∀ u, upd H D (.lst u) x = some (.tup q.vs) := fun hx u => upd_oth (ne_of hx h1 (by intro z; cases z)) hx
    by_cases hi : i < ts.length
    · rw [List.getElem?_append_left hi] at a
      rw [List.getElem?_append_left (by omega)] at b
      exact tup (h3 i t' r' a b) _
    · rw [List.getElem?_append_right (by omega)] at a
      rw [List.getElem?_append_right (by omega)] at b
      have e0 : i - ts.length = 0 := by
        have := (List.getElem?_eq_some_iff.mp a).1
        simp at this
        omega
      have e1 : i - rs.length = 0 := by omega
      rw [e0] at a
      rw [e1] at b
      cases a
      cases b
      exact tup ht _
  · rcases List.mem_append.mp hq with z | z
    · exact h4 q z
    · rw [List.mem_singleton.mp z]; exact hr
def PsAt (K : PySem.W.Frag) (H : Hp) (l : Addr) (rs : List Ph) : Prop := ∃ as : List Addr, H l = some (.lst (as.map V.ref)) ∧ as.length = rs.length ∧ ∀ (i : Nat) (a : Addr) (r : Ph), as[i]? = some a → rs[i]? = some r → PhAt K H a r
theorem PsAt.nil {K : PySem.W.Frag} {H : Hp} {D : Addr} : PsAt K (upd H D (.lst [])) D [] := ⟨[], upd_same, rfl, fun i t r h _ => by simp at h⟩
theorem PsAt.mono {K : PySem.W.Frag} {H H' : Hp} {l : Addr} {rs : List Ph} (h : PsAt K H l rs) (e : Same H H') : PsAt K H' l rs := by
  obtain ⟨as, h1, h2, h3⟩ := h
  exact ⟨as, e _ _ h1, h2, fun i a r ha hr => (h3 i a r ha hr).same e⟩
theorem PsAt.snoc {K : PySem.W.Frag} {H : Hp} {D t : Addr} {rs : List Ph} {r : Ph} (h : PsAt K H D rs) (ht : PhAt K H t r) :
    ∃ xs, H D = some (.lst xs) ∧ xs.length = rs.length ∧ PsAt K (upd H D (.lst (xs ++ [.ref t]))) D (rs ++ [r]) := by
  obtain ⟨ts, h1, h2, h3⟩ := h
  refine ⟨_, h1, by rw [List.length_map, h2], ⟨ts ++ [t], by rw [upd_same, List.map_append]; rfl, by rw [List.length_append, List.length_append, h2]; rfl, fun i t' r' a b => ?_⟩⟩
  have keep : ∀ {x : Addr} {q : Ph}, PhAt K H x q → ∀ u, PhAt K (upd H D (.lst u)) x q := fun ⟨d, hx⟩ u => ⟨d, upd_oth (ne_of hx h1 (by intro z; cases z)) hx⟩
  by_cases hi : i < ts.length
  · rw [List.getElem?_append_left hi] at a
    rw [List.getElem?_append_left (by omega)] at b
    exact keep (h3 i t' r' a b) _
  · rw [List.getElem?_append_right (by omega)] at a
    rw [List.getElem?_append_right (by omega)] at b
    have e0 : i - ts.length = 0 := by
      have := (List.getElem?_eq_some_iff.mp a).1
      simp at this
      omega
    have e1 : i - rs.length = 0 := by omega
    rw [e0] at a
    rw [e1] at b
    cases a
    cases b
    exact keep ht _
theorem made_store {K : PySem.W.Frag} {H H' : Hp} {x dx C : Addr} {A : SA} (nx : H x = none) (nd : H dx = none) (f : Fl x (upd (upd H dx (.own x)) x (.ins C dx [])) H') (z : ∀ y ∈ A.all, (upd (upd H dx (.own x)) x (.ins C dx [])) y = none) : Same H H' ∧ ∀ y ∈ A.all, H y = none :=
  ⟨Fl.madeS nx nd f, fun y m => (Same.upd (Same.new nd) nx).free (z y m)⟩
theorem small1000 {n : Nat} (h : n ≤ 1000) : n < sizeLine := Nat.lt_of_le_of_lt h (by decide)
theorem RowsAt.fls {H H' : Hp} {ls : List Addr} {a : Addr} {rs : List Ph} (h : RowsAt H a rs) (f : Fls ls H H') (hl : ∀ x ∈ ls, Chg H x) (ha : a ∉ ls) : RowsAt H' a rs := by
  obtain ⟨⟨ts, h1, h2, h3⟩, h4⟩ := h
  exact ⟨⟨ts, f _ _ ha h1, h2, fun i t r ht hr => tup_fls (h3 i t r ht hr) f hl⟩, h4⟩
/-- what the law holds on to -/
structure Lw (K : PySem.W.Frag) (H : Hp) (a x : Addr) (A : SA) (rs : List Ph) (D : Sto) : Prop where
  ra : RowsAt H a rs
  st : StoreAt K H x A rs D
  nm : a ∉ x :: A.own
section
variable {K : PySem.W.Frag} {H H' : Hp} {a x : Addr} {A A' : SA} {rs : List Ph} {D D' : Sto}
theorem Lw.same (h : Lw K H a x A rs D) (S : Same H H') : Lw K H' a x A rs D := ⟨h.ra.mono S, h.st.same S, h.nm⟩
theorem Lw.fls (h : Lw K H a x A rs D) (F : Fls (x :: A.own) H H') (S : StoreAt K H' x A rs D') : Lw K H' a x A rs D' := ⟨h.ra.fls F h.st.chg h.nm, S, h.nm⟩
theorem Lw.frm (h : Lw K H a x A rs D) (R : Frm x A A' H H') (S : StoreAt K H' x A' rs D') : Lw K H' a x A' rs D' := by
  refine ⟨h.ra.fls R.keep h.st.chg h.nm, S, fun m => ?_⟩
  rcases List.mem_cons.mp m with z | z
  · exact h.nm (by rw [z]; exact List.mem_cons_self)
  · rcases R.new a z with q | q
    · exact h.nm (List.mem_cons_of_mem _ q)
    · obtain ⟨⟨ts, h1, _⟩, _⟩ := h.ra
      rw [q] at h1; cases h1
end
theorem ToldAt.same {K : PySem.W.Frag} {H H' : Hp} {p : Addr} {x : Told} (h : ToldAt K H p x) (S : Same H H') : ToldAt K H' p x := by
  cases x with
  | done r =>
    obtain ⟨v, a, b⟩ := h
    exact ⟨v, S _ _ a, b.same S⟩
  | stale n t =>
    obtain ⟨u, a, b⟩ := h
    exact ⟨u, S _ _ a, S _ _ b⟩
  | dropped n t =>
    obtain ⟨u, a, b⟩ := h
    exact ⟨u, S _ _ a, S _ _ b⟩
def DM (rs : List Ph) : Nat → Sto
  | 0 => newD 2 2
  | 1 => ((newD 2 2).make rs 0).write 0 (0, gdH rs 0)
  | _ => ((((newD 2 2).make rs 0).write 0 (0, gdH rs 0)).make rs 1).write 1 (1, gdH rs 0)
theorem Cn_mv {rs : List Ph} (h : ∀ q ∈ rs, q.vis = false ∧ q.std ≠ 0) (g : Int) : Mv rs (Cn rs g 0) := ⟨h, fun o ho => by
  have ho : o ∈ [(none : Option Mnd), none] := ho
  simpa using ho, by show 0 < 2; decide⟩
def spLaw (K : PySem.W.Frag) : Sp := fun vs H Q _ => ∃ (a : Addr) (ns : List Int), vs = [.ref a] ∧ SqL K H a (ns.map V.int) ∧ ns.length ≤ 63 ∧ ∀ H', Q (.bl true) H'
section
variable {P : Program} [SupP P pFile] {w : World} {K : PySem.W.Frag} {mg : Str → Option Value} {base : Heap}
theorem ok_law (T : Tx K mg) : FnOk P w K mg base CX0 19 (gad "law" K) (fdD K (gad "law" K)) P_law (spLaw K) := by
  obtain ⟨_, kb_Store_slots⟩ := kb_Store_slots T
  refine T.F_law.ok sc_law (fun vs H Q E h => ?_) (fun cdv A outer s H vs Q E hr h => ?_)
  · obtain ⟨a, ns, rfl, _⟩ := h; rfl
  · obtain ⟨a0, ns, rfl, hS, hlen, k⟩ := h
    refine ⟨_, PSs.nox ((pss_cons (ps_set (i := 1) sc_law.nd rfl (Or.inl rfl) (pe_call (ok_l_pool (P := P) T) (hr.mono (by decide)) rfl T.g_l_pool T.F_l_pool.kp (bd_l_pool T) .nil pass0 (pa_cons (pv 0) pa_nil)))
      (pss_cons (ps_set (i := 2) sc_law.nd rfl (Or.inl rfl) (pe_call (ok_l_take (P := P) T) (hr.mono (by decide)) rfl T.g_l_take T.F_l_take.kp (bd_l_take T) .nil pass0 (pa_cons (pv 1) (pa_cons pe_int pa_nil))))
      (pss_cons (ps_set (i := 3) sc_law.nd rfl (Or.inl rfl) (pe_lst (pa_cons (pe_call (ok_l_mover (P := P) T) (hr.mono (by decide)) rfl T.g_l_mover T.F_l_mover.kp (bd_l_mover T) .nil pass0 (pa_cons (pv 1) (pa_cons (pv 2) pa_nil))) pa_nil)))
      (pss_cons (ps_if (pt_cmpR op_eq (pe_call (ok_l_take (P := P) T) (hr.mono (by decide)) rfl T.g_l_take T.F_l_take.kp (bd_l_take T) .nil pass0 (pa_cons (pv 1) (pa_cons pe_int pa_nil))) pe_int (nomark _)) (pss_one (ps_expr (pe_bm PySem.F.plainAttrs_list PySem.F.slot_list_append PySem.F.type_list_append mt_append (pv 3) (pa_cons (pe_call (ok_l_mover (P := P) T) (hr.mono (by decide)) rfl T.g_l_mover T.F_l_mover.kp (bd_l_mover T) .nil pass0 (pa_cons (pv 1) (pa_cons (pe_op op_mod (pe_callTy call_intI (by rfl) T.n_int (by decide +kernel) (pa_cons (pe_op op_add (pv 2) (pe_call (ok_l_take (P := P) T) (hr.mono (by decide)) rfl T.g_l_take T.F_l_take.kp (bd_l_take T) .nil pass0 (pa_cons (pv 1) (pa_cons pe_int pa_nil)))) pa_nil)) pe_int) pa_nil))) pa_nil)))) pss_nil)
      (pss_cons (ps_set (i := 4) sc_law.nd rfl (Or.inl rfl) (pe_cmpR op_eq (pe_call (ok_l_take (P := P) T) (hr.mono (by decide)) rfl T.g_l_take T.F_l_take.kp (bd_l_take T) .nil pass0 (pa_cons (pv 1) (pa_cons pe_int pa_nil))) pe_int (nomark _)))
      (pss_cons (ps_set (i := 5) sc_law.nd rfl (Or.inl rfl) (pe_ix ix_list (pe_lst (pa_cons (pe_call (ok_l_take (P := P) T) (hr.mono (by decide)) rfl T.g_l_take T.F_l_take.kp (bd_l_take T) .nil pass0 (pa_cons (pv 1) (pa_cons pe_int pa_nil))) (pa_cons (pe_op op_add pe_int (pe_call (ok_l_take (P := P) T) (hr.mono (by decide)) rfl T.g_l_take T.F_l_take.kp (bd_l_take T) .nil pass0 (pa_cons (pv 1) (pa_cons pe_int pa_nil)))) pa_nil))) (pe_call (ok_l_take (P := P) T) (hr.mono (by decide)) rfl T.g_l_take T.F_l_take.kp (bd_l_take T) .nil pass0 (pa_cons (pv 1) (pa_cons pe_int pa_nil))) (fun _ _ => rfl)))
      (pss_cons (ps_set (i := 6) sc_law.nd rfl (Or.inl rfl) (pe_makeK T.mk_Store (ok_Store_init (P := P) T) (hr.mono (by decide)) rfl T.g_Store kb_Store_slots pass0 (pa_cons (ClX.pe_cmeth (pe_gr rfl T.g_Book) T.cr_Book T.cm_Book_of (fr_Book_of (P := P) T) (hr.mono (by decide)) passL (pa_cons (pe_lc (own := [("_law_row", 15)]) (g := gName 15) (tt := tYes) rfl sc_law.nd (pi_list (pv 3)) (blkOk_by (own := [("_law_row", 15)]) (N := N_law) (sc := defScope s_law) (by decide +kernel)) (fun _ _ _ _ _ => (pg_name (i := 15) sc_law.nd rfl (Or.inl rfl))) (fun _ _ _ _ _ => pts_nil) (fun _ _ _ _ _ => (pe_call (ok_l_phase (P := P) T) (hr.mono (by decide)) rfl T.g_l_phase T.F_l_phase.kp (bd_l_phase T) .nil pass0 (pa_cons (pv 15) pa_nil)))) pa_nil)) pa_nil) (pk_cons pe_int pk_nil)))
      (pss_cons (ps_for PassesOwn.never rfl (pi_range1 (by rfl) T.n_range (pa_cons pe_int pa_nil)) (pg_name (i := 7) sc_law.nd rfl (Or.inl rfl)) (pss_one (ps_if (PW.pt (pw_or (pt_not (pt_val (pe_call (ok_l_value (P := P) T) (hr.mono (by decide)) rfl T.g_l_value T.F_l_value.kp (bd_l_value T) .nil pass0 (pa_cons (pe_meth (pv 6) T.c_Store T.m_Store_make (ok_Store_make (P := P) T) (hr.mono (by decide)) (bd_Store_make T) .nil passL (pa_cons (pv 7) pa_nil)) (pa_cons (pv 7) pa_nil))))) (pw_or1 (pt_cmpR op_notN (pe_meth (pv 6) T.c_Store T.m_Store_write (ok_Store_write (P := P) T) (hr.mono (by decide)) (bd_Store_write T) .nil passL (pa_cons (pv 7) (pa_cons (pv 7) pa_nil))) pe_non (nomark _))))) (pss_one (ps_ret pe_bl)) pss_nil)))
      (pss_cons (ps_set (i := 8) sc_law.nd rfl (Or.inl rfl) (pe_call (ok_l_turned (P := P) T) (hr.mono (by decide)) rfl T.g_l_turned T.F_l_turned.kp (bd_l_turned T) .nil pass0 (pa_cons (pv 6) (pa_cons (pv 5) (pa_cons (pv 4) pa_nil)))))
      (pss_cons (ps_if (PW.pt (pw_or (pt_not (pt_val (pe_callB call_isi (by rfl) T.n_isinstance (by decide +kernel) (pa_cons (pv 8) (pa_cons (pe_bty "list" rfl T.n_list (by decide +kernel)) pa_nil))))) (pw_or1 (pt_cmpR op_ne (pe_callB call_len_seq (by rfl) T.n_len (by decide +kernel) (pa_cons (pv 8) pa_nil)) (pv 5) (nomark _))))) (pss_one (ps_ret pe_bl)) pss_nil)
      (pss_cons (ps_set (i := 9) sc_law.nd rfl (Or.inl rfl) pe_bl)
      (pss_cons (ps_for PassesOwn.never rfl (pi_range1 (by rfl) T.n_range (pa_cons (pv 5) pa_nil)) (pg_name (i := 10) sc_law.nd rfl (Or.inl rfl)) (pss_cons (ps_set (i := 11) sc_law.nd rfl (Or.inl rfl) (pe_op op_mod (pe_callTy call_intI (by rfl) T.n_int (by decide +kernel) (pa_cons (pe_op op_add (pv 10) pe_int) pa_nil)) (pe_callB call_len_seq (by rfl) T.n_len (by decide +kernel) (pa_cons (pv 3) pa_nil))))
      (pss_cons (ps_set (i := 9) sc_law.nd rfl (Or.inl rfl) (pe_and (pv 9) (pe_one (pe_not (pe_ix ix_tup (pe_ix ix_list (pv 3) (pv 11) (fun _ _ => rfl)) pe_int (fun _ _ => rfl))))))
      (pss_one (ps_if (pt_not (pt_val (pe_call (ok_l_value (P := P) T) (hr.mono (by decide)) rfl T.g_l_value T.F_l_value.kp (bd_l_value T) .nil pass0 (pa_cons (pe_ix ix_list (pv 8) (pv 10) (fun _ _ => rfl)) (pa_cons (pv 11) pa_nil))))) (pss_one (ps_ret pe_bl)) pss_nil)))))
      (pss_cons (ps_set (i := 11) sc_law.nd rfl (Or.inl rfl) (pe_op op_mod (pe_callTy call_intI (by rfl) T.n_int (by decide +kernel) (pa_cons (pv 5) pa_nil)) (pe_callB call_len_seq (by rfl) T.n_len (by decide +kernel) (pa_cons (pv 3) pa_nil))))
      (pss_cons (ps_set (i := 12) sc_law.nd rfl (Or.inl rfl) (pe_call (ok_l_rests (P := P) T) (hr.mono (by decide)) rfl T.g_l_rests T.F_l_rests.kp (bd_l_rests T) .nil pass0 (pa_cons (pv 3) (pa_cons (pv 5) pa_nil))))
      (pss_cons (ps_set (i := 13) sc_law.nd rfl (Or.inl rfl) (pe_un un_neg pe_int))
      (pss_cons (ps_set (i := 14) sc_law.nd rfl (Or.inl rfl) pe_int)
      (pss_cons (ps_if (pt_cmpR op_gt (pv 5) pe_int (nomark _)) (pss_cons (ps_set (i := 13) sc_law.nd rfl (Or.inl rfl) (pe_callB (cr_min rfl) (by rfl) T.n_min (by decide +kernel) (pa_cons (pv 12) pa_nil)))
      (pss_one (ps_set (i := 14) sc_law.nd rfl (Or.inl rfl) (pe_op op_add (pv 5) pe_int)))) pss_nil)
      (pss_cons (ps_if (PW.pt (pw_or (pt_not (pt_val (pe_call (ok_l_value (P := P) T) (hr.mono (by decide)) rfl T.g_l_value T.F_l_value.kp (bd_l_value T) .nil pass0 (pa_cons (pe_prop (pv 6) T.c_Store T.p_Store_row (ok_Store_row (P := P) T) (hr.mono (by decide)) (bd_Store_row T) .nil pass0 rfl) (pa_cons (pv 11) pa_nil))))) (pw_or (pt_not (pt_val (pe_call (ok_l_value (P := P) T) (hr.mono (by decide)) rfl T.g_l_value T.F_l_value.kp (bd_l_value T) .nil pass0 (pa_cons (pe_prop (pv 6) T.c_Store T.p_Store_turns (ok_Store_turns (P := P) T) (hr.mono (by decide)) (bd_Store_turns T) .nil pass0 rfl) (pa_cons (pv 5) pa_nil))))) (pw_or1 (pt_not (pt_val (pe_call (ok_l_value (P := P) T) (hr.mono (by decide)) rfl T.g_l_value T.F_l_value.kp (bd_l_value T) .nil pass0 (pa_cons (pe_prop (pv 6) T.c_Store T.p_Store_things (ok_Store_things (P := P) T) (hr.mono (by decide)) (bd_Store_things T) .nil pass0 rfl) (pa_cons pe_int pa_nil))))))))) (pss_one (ps_ret pe_bl)) pss_nil)
      (pss_cons (ps_if (PW.pt (pw_or (pt_not (pt_val (pe_call (ok_l_value (P := P) T) (hr.mono (by decide)) rfl T.g_l_value T.F_l_value.kp (bd_l_value T) .nil pass0 (pa_cons (pe_meth (pv 6) T.c_Store T.m_Store_place_of (ok_Store_place_of (P := P) T) (hr.mono (by decide)) (bd_Store_place_of T) .nil passL (pa_cons pe_int pa_nil)) (pa_cons (pv 14) pa_nil))))) (pw_or1 (pt_not (pt_val (pe_call (ok_l_value (P := P) T) (hr.mono (by decide)) rfl T.g_l_value T.F_l_value.kp (bd_l_value T) .nil pass0 (pa_cons (pe_meth (pv 6) T.c_Store T.m_Store_place_of (ok_Store_place_of (P := P) T) (hr.mono (by decide)) (bd_Store_place_of T) .nil passL (pa_cons pe_int pa_nil)) (pa_cons pe_int pa_nil)))))))) (pss_one (ps_ret pe_bl)) pss_nil)
      (pss_cons (ps_if (pt_not (pt_val (pe_call (ok_l_same_lists (P := P) T) (hr.mono (by decide)) rfl T.g_l_same_lists T.F_l_same_lists.kp (bd_l_same_lists T) .nil pass0 (pa_cons (pv 6) (pa_cons (pe_call (ok_l_posts (P := P) T) (hr.mono (by decide)) rfl T.g_l_posts T.F_l_posts.kp (bd_l_posts T) .nil pass0 (pa_cons (pv 12) pa_nil)) (pa_cons (pe_call (ok_l_stand (P := P) T) (hr.mono (by decide)) rfl T.g_l_stand T.F_l_stand.kp (bd_l_stand T) .nil pass0 (pa_cons (pv 11) (pa_cons (pv 2) (pa_cons (pv 13) (pa_cons (pv 9) pa_nil))))) pa_nil)))))) (pss_one (ps_ret pe_bl)) pss_nil)
      (pss_cons (ps_for PassesOwn.never rfl (pi_range1 (by rfl) T.n_range (pa_cons pe_int pa_nil)) (pg_name (i := 7) sc_law.nd rfl (Or.inl rfl)) (pss_one (ps_if (pt_not (pt_val (pe_call (ok_l_value (P := P) T) (hr.mono (by decide)) rfl T.g_l_value T.F_l_value.kp (bd_l_value T) .nil pass0 (pa_cons (pe_meth (pv 6) T.c_Store T.m_Store_hand (ok_Store_hand (P := P) T) (hr.mono (by decide)) (bd_Store_hand T) .nil passL (pa_cons (pv 7) pa_nil)) (pa_cons (pe_ix ix_list (pe_lst (pa_cons pe_non (pa_cons (pe_tup (pa_cons (pv 7) (pa_cons (pv 2) pa_nil))) pa_nil))) (pe_callTy call_intB (by rfl) T.n_int (by decide +kernel) (pa_cons (pv 9) pa_nil)) (fun _ _ => rfl)) pa_nil))))) (pss_one (ps_ret pe_bl)) pss_nil)))
      (pss_cons (ps_if (pt_not (pt_val (pe_call (ok_l_agree (P := P) T) (hr.mono (by decide)) rfl T.g_l_agree T.F_l_agree.kp (bd_l_agree T) .nil pass0 (pa_cons (pe_call (ok_l_read (P := P) T) (hr.mono (by decide)) rfl T.g_l_read T.F_l_read.kp (bd_l_read T) .nil pass0 (pa_cons (pv 6) (pa_cons pe_int (pa_cons pe_int pa_nil)))) (pa_cons (pe_call (ok_l_look (P := P) T) (hr.mono (by decide)) rfl T.g_l_look T.F_l_look.kp (bd_l_look T) .nil pass0 (pa_cons (pe_ix ix_list (pv 3) (pv 11) (fun _ _ => rfl)) (pa_cons (pv 2) (pa_cons (pv 13) (pa_cons (pv 14) pa_nil))))) pa_nil))))) (pss_one (ps_ret pe_bl)) pss_nil)
      (pss_one (ps_ret (pe_call (ok_l_agree (P := P) T) (hr.mono (by decide)) rfl T.g_l_agree T.F_l_agree.kp (bd_l_agree T) .nil pass0 (pa_cons (pe_call (ok_l_read (P := P) T) (hr.mono (by decide)) rfl T.g_l_read T.F_l_read.kp (bd_l_read T) .nil pass0 (pa_cons (pv 6) (pa_cons pe_int (pa_cons pe_int pa_nil)))) (pa_cons (pe_call (ok_l_look (P := P) T) (hr.mono (by decide)) rfl T.g_l_look T.F_l_look.kp (bd_l_look T) .nil pass0 (pa_cons (pe_ix ix_list (pv 3) (pv 11) (fun _ _ => rfl)) (pa_cons (pv 2) (pa_cons (pe_un un_neg pe_int) (pa_cons pe_int pa_nil))))) pa_nil)))))))))))))))))))))))))))), ?_⟩
    refine ⟨_, rfl, a0, ns, rfl, hS, hlen, fun l H1 nl S1 P1 => ?_⟩
    refine ⟨_, rfl, l, 6, rfl, P1, by decide, fun g H2 g0 g6 f2 P2 => ?_⟩
    refine ⟨_, rfl, _, rfl, l, g, rfl, P2, g0, by omega, fun r0 t0 H3 ok0 hg0 hv0 hs0 n0 tl f3 P3 ht0 => ⟨(show (1 : Nat) ≤ sizeLine by decide), fun a na => ?_⟩⟩
    have al : a ≠ l := P3.ne na
    have P4 := P3.upd (o := .lst [.ref t0]) na
    have R4 : RowsAt (upd H3 a (.lst [.ref t0])) a [r0] := ⟨⟨[t0], upd_same, rfl, fun i t r ht hr => by
      cases i with
      | zero => cases ht; cases hr; exact upd_old na ht0
      | succ i => simp at ht⟩, fun r hr => by rw [List.mem_singleton.mp hr]; exact ok0⟩
    generalize upd H3 a (.lst [.ref t0]) = H4 at P4 R4 ⊢
    dsimp only [gName]
    refine sseq_w (fun σ H' => ∃ rs : List Ph, σ = [some (.ref a0), some (.ref l), some (.int g), some (.ref a), none, none, none, none, none, none, none, none, none, none, none, none] ∧ PoolAt H' l ∧ RowsAt H' a rs ∧ 1 ≤ rs.length ∧ rs.length ≤ 2 ∧ (∀ q ∈ rs, q.vis = false ∧ q.std ≠ 0) ∧ gdH rs 0 = g) (fun D2 en e2 _ _ => ?_) ?_
    · refine ⟨_, rfl, l, 2, rfl, P4, by decide, fun v H5 v0 v2 f5 P5 => ⟨rfl, _, rfl, ?_⟩⟩
      have R5 := R4.fl f5 al P4
      refine iteB (fun _ => ?_) (fun _ => ?_)
      · obtain ⟨xs5, hx5, _⟩ := R5.len
        refine ⟨_, rfl, .inl ⟨rfl, _, SqL.of hx5⟩, _, rfl, _, rfl, _, rfl, l, 6, rfl, P5, by decide, fun u H6 u0 u6 f6 P6 => ⟨_, _, rfl, rfl, _, rfl, _, _, rfl, rfl, (show (0 : Int) < 6 by decide), l, _, rfl, P6, by omega, by omega, fun r1 t1 H7 ok1 hg1 hv1 hs1 n1 tl1 f7 P7 ht1 => ?_⟩⟩
        have R7 := (R5.fl f6 al P5).fl f7 al P6
        obtain ⟨xs7, hx7, lx7, R8⟩ := R7.snoc ht1 ok1
        refine ⟨a, xs7, _, rfl, rfl, hx7, small1000 (by rw [lx7]; exact (show (1 : Nat) ≤ 1000 by decide)), en _ _ ⟨[r0, r1], rfl, ?_, R8, (show (1 : Nat) ≤ 2 by decide), (show (2 : Nat) ≤ 2 by decide), fun q hq => ?_, hg0⟩⟩
        · obtain ⟨ns7, p1, p2⟩ := P7
          exact ⟨ns7, upd_oth (Ne.symm al) p1, p2⟩
        · rcases List.mem_cons.mp hq with e | hq
          · rw [e]; exact ⟨hv0, hs0⟩
          · rw [List.mem_singleton.mp hq]; exact ⟨hv1, hs1⟩
      · exact en _ _ ⟨[r0], rfl, P5, R5, (show (1 : Nat) ≤ 1 by decide), (show (1 : Nat) ≤ 2 by decide), fun q hq => by rw [List.mem_singleton.mp hq]; exact ⟨hv0, hs0⟩, hg0⟩
    rintro σ H5 ⟨rs, rfl, P5, R5, n1, n2, mvs, hgd⟩
    have n6 : rs.length ≤ 6 := by omega
    refine ⟨_, rfl, l, 2, rfl, P5, by decide, fun v H6 v0 v2 f6 P6 => ⟨rfl, ?_⟩⟩
    have R6 := R5.fl f6 al P5
    generalize decide (V.int v = V.int 1) = whole
    refine ⟨_, rfl, l, 8, rfl, P6, by decide, fun m0 H7 m00 m08 f7 P7 => ⟨_, rfl, l, 1192, rfl, P7, by decide, fun m1 H8 m10 m11 f8 P8 => ⟨_, _, rfl, rfl, (show (2 : Nat) ≤ sizeLine by decide), fun p np => ⟨_, rfl, l, 2, rfl, P8.upd np, by decide, fun ix H9 ix0 ix2 f9 P9 => ?_⟩⟩⟩⟩
    have R9 := ((((R6.fl f7 al P6).fl f8 al P7).mono (Same.new np)).fl f9 al (P8.upd np))
    have hp9 := f9 _ _ (P8.ne np) (upd_same (H := H8) (o := .lst [.int m0, .int (8 + m1)]))
    obtain ⟨n, hn, nle⟩ : ∃ n : Nat, atI [V.int m0, V.int (8 + m1)] ix = some (.int (n : Int)) ∧ n ≤ 1200 := by
      rcases (by omega : ix = 0 ∨ ix = 1) with rfl | rfl
      · exact ⟨m0.toNat, by show some (V.int m0) = _; rw [Int.toNat_of_nonneg m00], by omega⟩
      · exact ⟨(8 + m1).toNat, by show some (V.int (8 + m1)) = _; rw [Int.toNat_of_nonneg (by omega)], by omega⟩
    refine ⟨_, _, _, _, rfl, rfl, SqL.of hp9, hn, ?_⟩
    obtain ⟨⟨ts, h1, h2, h3⟩, rok⟩ := id R9
    refine ⟨rfl, _, rfl, a, rfl, ⟨_, SqL.of h1⟩, fun Dl nD => lc_list (K := K) (a := a) (xs := ts.map V.ref) (fun i H' => PsAt K H' Dl (rs.take i) ∧ Same H9 H') ⟨PsAt.nil, Same.new nD⟩ (fun i H' _ ⟨_, S⟩ => SqL.of (S _ _ h1)) ?_ ?_⟩
    · rintro i y H10 hi ⟨p1, S10⟩
      rw [List.getElem?_map] at hi
      cases et : ts[i]? with
      | none => rw [et] at hi; cases hi
      | some t =>
        rw [et] at hi
        cases hi
        have hi2 : i < rs.length := by rw [← h2]; exact (List.getElem?_eq_some_iff.mp et).1
        obtain ⟨r, hr', hm⟩ := mem_get hi2
        refine ⟨rfl, yesT (iteT ?_)⟩
        refine ⟨_, rfl, t, r, rfl, S10 _ _ (h3 i t r et hr'), rok r hm, fun y H11 ny S11 hy => ?_⟩
        obtain ⟨xs, q1, q2, q3⟩ := (p1.mono S11).snoc hy
        rw [List.length_take] at q2
        refine ⟨xs, q1, small1000 (by omega), ?_, Same.upd (S10.trans S11) nD⟩
        rw [List.take_add_one, hr']
        exact q3
    rintro H10 ⟨p1, S10⟩
    rw [List.length_map, h2, List.take_length] at p1
    obtain ⟨as, q1, q2, q3⟩ := p1
    refine ⟨Dl, _, rfl, SqL.of q1, by rw [List.length_map]; omega, fun hv b dxb bl H11 nb nbl S11 hb hbl => ?_, fun hv => absurd ⟨by rw [List.length_map]; omega, by rw [List.length_map]; omega⟩ hv⟩
    have B11 : BkAt K H11 b bl rs := ⟨⟨dxb, hb⟩, ⟨as, hbl, q2, fun i a r ha hr => (q3 i a r ha hr).same S11⟩, n1, n6, rok⟩
    have R11 := (R9.mono S10).mono S11
    refine ⟨rfl, rfl, fun x d nx nd ned => ?_⟩
    refine ⟨x, d, b, bl, rs, 2, 2, rfl, upd_same, B11.mono (Same.upd (Same.new nd) nx), by decide, by decide, fun A0 H12 g12 z12 St12 => ⟨rfl, ?_⟩⟩
    obtain ⟨S12, w12⟩ := made_store (K := K) nx nd g12 z12
    have L12 : Lw K H12 a x A0 rs (DM rs 0) := by
      refine ⟨R11.mono S12, St12, fun m => ?_⟩
      obtain ⟨⟨ts', h1', _⟩, _⟩ := R11
      rcases List.mem_cons.mp m with z | z
      · rw [z, nx] at h1'; cases h1'
      · have : a ∈ A0.all := by
          simp only [SA.own, SA.all, List.mem_cons, List.not_mem_nil, or_false] at z ⊢
          rcases z with h | h | h | h | h | h | h <;> simp [h]
        rw [w12 a this] at h1'; cases h1'
    refine ⟨_, rfl, by decide, by decide, for_range (n := _) (fun i σ H' => (∃ q7, σ = [some (.ref a0), some (.ref l), some (.int g), some (.ref a), some (.bl whole), some (.int (n : Int)), some (.ref x), q7, none, none, none, none, none, none, none, none]) ∧ Lw K H' a x A0 rs (DM rs i)) ⟨⟨_, rfl⟩, L12⟩ ?_ ?_⟩
    · rintro i σ H' hi ⟨⟨q7, rfl⟩, L'⟩
      have hi : i = 0 ∨ i = 1 := by have : i < 2 := hi; omega
      obtain ⟨dx', ho'⟩ := L'.st.ob
      have b1 : ∀ m, (DM rs i).owed[i]? = some (some m) → False := fun m em => by
        rcases hi with rfl | rfl <;> cases em
      have b0 : (DM rs i).owed[i]? = some none := by rcases hi with rfl | rfl <;> rfl
      have hl : i < (DM rs i).hands.length := by rcases hi with rfl | rfl; exact (show (0 : Nat) < 2 by decide); exact (show (1 : Nat) < 2 by decide)
      have ol : (DM rs i).owners.length = i := by rcases hi with rfl | rfl <;> rfl
      have pl : (DM rs i).places.length = i := by rcases hi with rfl | rfl <;> rfl
      have e0 : (0 + (i : Int)) = ((i : Nat) : Int) := by omega
      dsimp only [gName]
      rw [e0]
      refine ⟨_, rfl, x, dx', _, rfl, ho', st_no _ _ _ (by decide +kernel), _, rfl, x, A0, rs, DM rs i, (i : Int), ⟨rfl, L'.st⟩, by omega, fun z => absurd ⟨by omega, by omega⟩ z, fun _ => ⟨fun m em => (b1 m (by rw [Int.toNat_natCast] at em; exact em)).elim, fun _ H1 F1 St1 => ?_⟩⟩
      rw [Int.toNat_natCast] at St1
      refine ⟨_, rfl, _, _, rfl, .inr ⟨(i : Int), by rw [pl], rfl⟩, fun H2 S2 => ⟨_, rfl, iteF ?_⟩⟩
      have L2 := (L'.fls F1 St1).same S2
      obtain ⟨dx2, ho2⟩ := L2.st.ob
      have c0 : ((DM rs i).make rs i).owed[i]? = some none := by rcases hi with rfl | rfl <;> rfl
      have ch : ((DM rs i).make rs i).hands[i]? = some (some ((i : Int), gdH rs 0)) := by rcases hi with rfl | rfl <;> rfl
      have hl2 : i < ((DM rs i).make rs i).hands.length := (List.getElem?_eq_some_iff.mp ch).1
      have sl2 : i < ((DM rs i).make rs i).slots.length := by rcases hi with rfl | rfl; exact (show (0 : Nat) < 2 by decide); exact (show (1 : Nat) < 2 by decide)
      refine ⟨_, rfl, x, dx2, _, rfl, ho2, st_no _ _ _ (by decide +kernel), _, rfl, _, rfl, x, A0, rs, (DM rs i).make rs i, (i : Int), (i : Int), ⟨rfl, L2.st⟩, fun z => absurd ⟨by omega, by omega⟩ z, fun _ => ⟨fun z => absurd ⟨by omega, by omega⟩ z, fun _ => ⟨fun m em => ?_, fun _ => ⟨fun z => ?_, fun r er H3 F3 St3 => ?_⟩⟩⟩⟩
      · rw [Int.toNat_natCast, c0] at em; cases em
      · rw [Int.toNat_natCast, ch] at z; cases z
      rw [Int.toNat_natCast, ch] at er
      cases er
      rw [Int.toNat_natCast] at St3
      refine ⟨rfl, _, rfl, iteNS rfl ⟨⟨_, rfl⟩, ?_⟩⟩
      have e3 : ((DM rs i).make rs i).write i ((i : Int), gdH rs 0) = DM rs (i + 1) := by rcases hi with rfl | rfl <;> rfl
      have L3 := L2.fls F3 St3
      rw [e3] at L3
      exact L3
    rintro σ H13 ⟨⟨q7, rfl⟩, L13⟩
    have L13 : Lw K H13 a x A0 rs (Cn rs g 0) := by
      have e : DM rs 2 = Cn rs g 0 := by rw [← hgd]; exact C0_eq n1
      rw [← e]; exact L13
    have M0 := Cn_mv mvs g
    refine ⟨_, rfl, _, rfl, _, rfl, x, A0, rs, Cn rs g 0, n, whole, rfl, L13.st, (show 2 + n ≤ 5000 by omega), M0, fun A1 H14 y R14 St14 ny hy => ?_⟩
    have L14 := L13.frm R14 St14
    rw [turnsN_eq n1 g n] at L14
    have erow : ∀ j, (turnsN rs (Cn rs g 0) (j + 1)).row = (((j + 1) % rs.length : Nat) : Int) := fun j => by rw [turnsN_eq n1 g]; rfl
    obtain ⟨⟨tt, t1, t2, t3⟩, _⟩ := id L14.ra
    dsimp only [gName]
    refine ⟨_, rfl, _, _, .type "list", .type "list", true, rfl, .ty _, .base (.lst hy), kit_ty (by decide +kernel), _, rfl, iteF ?_⟩
    refine ⟨_, rfl, y, _, rfl, .inl (SqL.of hy), _, rfl, rfl, _, rfl, iteNS (by rw [List.length_map, List.length_range]) ?_⟩
    refine ⟨_, rfl, _, rfl, by omega, by omega, for_range (n := _) (fun j σ H' => (∃ q10 q11, σ = [some (.ref a0), some (.ref l), some (.int g), some (.ref a), some (.bl whole), some (.int (n : Int)), some (.ref x), q7, some (.ref y), some (.bl (heldN rs j)), q10, q11, none, none, none, none]) ∧ Same H14 H') ⟨⟨_, _, rfl⟩, Same.refl _⟩ ?_ ?_⟩
    · rintro j σ H' hj ⟨⟨q10, q11, rfl⟩, S'⟩
      have hj : j < n := by omega
      have L' := L14.same S'
      obtain ⟨r, hr', mr⟩ := mem_get (xs := rs) (i := (j + 1) % rs.length) (Nat.mod_lt _ (by omega))
      obtain ⟨t, ht, _⟩ := mem_get (xs := tt) (i := (j + 1) % rs.length) (by rw [t2]; exact Nat.mod_lt _ (by omega))
      have hm : (0 + (j : Int) + 1) % ((tt.map V.ref).length : Nat) = (((j + 1) % rs.length : Nat) : Int) := by
        rw [List.length_map, t2, show (0 + (j : Int) + 1) = ((j + 1 : Nat) : Int) by omega]
        rfl
      have hat : atI (tt.map V.ref) (((j + 1) % rs.length : Nat) : Int) = some (.ref t) := atI_nat (by rw [List.getElem?_map, ht]; rfl)
      have ha' := S' _ _ t1
      have ht' := S' _ _ (t3 _ t r ht hr')
      refine ⟨_, rfl, _, _, rfl, rfl, _, rfl, _, rfl, a, _, rfl, .inl (SqL.of ha'), _, _, rfl, rfl, (by rw [List.length_map, t2]; omega), ?_⟩
      dsimp only [gName]
      rw [hm]
      have eP : gpP rs (((j + 1) % rs.length : Nat) : Int) = r.pau := by unfold gpP; rw [Int.toNat_natCast, hr']
      have eh : heldN rs (j + 1) = (heldN rs j && !r.pau) := by show (heldN rs j && !gpP rs (((j + 1) % rs.length : Nat) : Int)) = _; rw [eP]
      have hy' := S' _ _ hy
      have haty : atI ((List.range n).map fun j => V.int (turnsN rs (Cn rs g 0) (j + 1)).row) (0 + (j : Int)) = some (.int (((j + 1) % rs.length : Nat) : Int)) := by
        rw [Int.zero_add]
        refine atI_nat ?_
        rw [List.getElem?_map, List.getElem?_range hj]
        show some (V.int (turnsN rs (Cn rs g 0) (j + 1)).row) = _
        rw [erow]
      cases hh : heldN rs j with
      | true =>
        refine ⟨_, rfl, _, rfl, iteT ⟨_, rfl, _, rfl, _, _, _, _, rfl, rfl, SqL.of ha', hat, _, _, _, _, rfl, rfl, SqT.of ht', (show atI r.vs 3 = some (.bl r.pau) from rfl), _, rfl, ?_⟩⟩
        refine ⟨_, rfl, _, rfl, _, _, _, _, rfl, rfl, SqL.of hy', haty, _, rfl, _, _, rfl, .inr ⟨_, rfl, rfl⟩, fun H2 S2 => ⟨_, rfl, iteF ⟨⟨some (.int (0 + (j : Int))), some (.int (((j + 1) % rs.length : Nat) : Int)), by rw [eh, hh]; rfl⟩, S'.trans S2⟩⟩⟩
      | false =>
        refine ⟨_, rfl, _, rfl, iteF ?_⟩
        refine ⟨_, rfl, _, rfl, _, _, _, _, rfl, rfl, SqL.of hy', haty, _, rfl, _, _, rfl, .inr ⟨_, rfl, rfl⟩, fun H2 S2 => ⟨_, rfl, iteF ⟨⟨some (.int (0 + (j : Int))), some (.int (((j + 1) % rs.length : Nat) : Int)), by rw [eh, hh]; rfl⟩, S'.trans S2⟩⟩⟩
    rintro σ H15 ⟨⟨q10, q11, rfl⟩, S15⟩
    rw [Int.toNat_natCast]
    have L15 := L14.same S15
    obtain ⟨r, hr', mr⟩ := mem_get (xs := rs) (i := n % rs.length) (Nat.mod_lt _ (by omega))
    obtain ⟨t, ht, _⟩ := mem_get (xs := tt) (i := n % rs.length) (by rw [t2]; exact Nat.mod_lt _ (by omega))
    have hat : atI (tt.map V.ref) ((n % rs.length : Nat) : Int) = some (.ref t) := atI_nat (by rw [List.getElem?_map, ht]; rfl)
    have hm : (n : Int) % ((tt.map V.ref).length : Nat) = ((n % rs.length : Nat) : Int) := by rw [List.length_map, t2]; rfl
    have ha15 := S15 _ _ t1
    have ht15 := S15 _ _ (t3 _ t r ht hr')
    refine ⟨_, rfl, _, rfl, _, rfl, a, _, rfl, .inl (SqL.of ha15), _, _, rfl, rfl, (by rw [List.length_map, t2]; omega), ?_⟩
    dsimp only [gName]
    rw [hm]
    refine ⟨_, rfl, _, rfl, a, rs, n, rfl, L15.ra, n1, n6, by omega, fun pr H16 npr S16 hpr => ?_⟩
    have L16 := L15.same S16
    refine ⟨_, rfl, ?_⟩
    dsimp only [gName]
    show gName 14 (V.int 0) _ _ _
    dsimp only [gName]
    refine sseq_w (fun σ H' => σ = [some (.ref a0), some (.ref l), some (.int g), some (.ref a), some (.bl whole), some (.int (n : Int)), some (.ref x), q7, some (.ref y), some (.bl (heldN rs n)), q10, some (.int ((n % rs.length : Nat) : Int)), some (.ref pr), some (.int (leftN rs n)), some (.int (pk n)), none] ∧ H' = H16) (fun D2 en e2 _ _ => ?_) ?_
    · refine ⟨_, rfl, _, _, rfl, rfl, _, rfl, iteB (fun c => ?_) (fun c => ?_)⟩
      · have c1 : 0 < n := by have := of_decide_eq_true c; omega
        obtain ⟨l0, xx, LL, e1, e2⟩ := leftN_pos rs c1
        obtain ⟨f1, f2⟩ := fold_min LL xx
        rw [← e1, ← e2] at f1 f2
        refine ⟨_, rfl, pr, restsL rs n, rfl, SqL.of hpr, by rw [restsL_len]; exact c1, fun m mm ml => ?_⟩
        obtain rfl : m = leftN rs n := Int.le_antisymm (ml _ f1) (f2 _ mm)
        refine ⟨_, rfl, _, _, rfl, rfl, en _ _ ⟨?_, rfl⟩⟩
        have ep : pk n = (n : Int) + 1 := if_neg (by omega)
        rw [ep]
        rfl
      · have c1 : n = 0 := by have := of_decide_eq_false c; omega
        refine en _ _ ⟨?_, rfl⟩
        subst c1
        rfl
    rintro σ H17 ⟨rfl, rfl⟩
    have S16' := L16.st
    obtain ⟨o16, ho16⟩ := L16.st.ob
    refine ⟨_, rfl, x, o16, _, rfl, ho16, x, A1, rs, Cn rs g n, ⟨rfl, L16.st⟩, _, rfl, _, _, rfl, .inr ⟨_, rfl, rfl⟩, fun H18 S18 => ⟨_, rfl, iteF ?_⟩⟩
    refine ⟨_, rfl, x, o16, _, rfl, S18 _ _ ho16, x, A1, rs, Cn rs g n, ⟨rfl, L16.st.same S18⟩, _, rfl, _, _, rfl, .inr ⟨_, rfl, rfl⟩, fun H19 S19 => ⟨_, rfl, iteF ?_⟩⟩
    have Sa := S18.trans S19
    refine ⟨_, rfl, x, o16, _, rfl, Sa _ _ ho16, x, A1, rs, Cn rs g n, ⟨rfl, L16.st.same Sa⟩, _, _, rfl, .inr ⟨2, rfl, rfl⟩, fun H20 S20 => ⟨_, rfl, iteF ?_⟩⟩
    have Sb := Sa.trans S20
    refine ⟨_, rfl, x, o16, _, rfl, Sb _ _ ho16, st_no _ _ _ (by decide +kernel), x, A1, rs, Cn rs g n, 0, ⟨rfl, L16.st.same Sb⟩, fun _ p0 ep => ?_, fun z => absurd ⟨by decide, (show (0 : Int) < 2 by decide)⟩ z⟩
    obtain rfl : pk n = p0 := Option.some.inj ep
    refine ⟨_, rfl, _, _, rfl, .inr ⟨_, rfl, rfl⟩, fun H21 S21 => ⟨_, rfl, iteF ?_⟩⟩
    have Sc := Sb.trans S21
    refine ⟨_, rfl, x, o16, _, rfl, Sc _ _ ho16, st_no _ _ _ (by decide +kernel), x, A1, rs, Cn rs g n, 1, ⟨rfl, L16.st.same Sc⟩, fun _ p1 ep => ?_, fun z => absurd ⟨by decide, (show (1 : Int) < 2 by decide)⟩ z⟩
    obtain rfl : (1 : Int) = p1 := Option.some.inj ep
    refine ⟨_, _, rfl, .inr ⟨1, rfl, rfl⟩, fun H22 S22 => ⟨_, rfl, iteF ?_⟩⟩
    have Sd := Sc.trans S22
    have lh : (Cn rs g n).hands.length = 2 := by
      show (if heldN rs n then [some ((0 : Int), g), some (1, g)] else [none, none]).length = 2
      cases heldN rs n <;> rfl
    refine ⟨_, rfl, _, rfl, pr, restsL rs n, rfl, Sd _ _ hpr, by rw [restsL_len]; omega, fun q1 H23 nq1 S23 T1 => ?_⟩
    refine ⟨_, rfl, _, rfl, _, rfl, _, rfl, _, _, _, _, rfl, fun q2 H24 nq2 S24 T2 => ?_⟩
    have Se := (Sd.trans S23).trans S24
    refine ⟨x, A1, rs, Cn rs g n, q1, q2, _, _, rfl, L16.st.same Se, by rw [lh]; exact (show (2 + 2 : Nat) < 64 by decide), T1.same S24, T2, Cn_poL rs g n, postsL_asc _, standL_asc _ _ _ _ (leftN_ok rs n), Cn_stL rs g n, Nat.le_trans (postsL_len _) (by rw [restsL_len]; omega), Nat.le_trans (standL_len _ _ _ _) (by decide), fun H25 S25 => ⟨_, rfl, iteF ?_⟩⟩
    have L25 := L16.same (Se.trans S25)
    have ha25 := (S16.trans (Se.trans S25)) _ _ ha15
    have ht25 := (S16.trans (Se.trans S25)) _ _ ht15
    obtain ⟨o25, ho25⟩ := L25.st.ob
    refine ⟨_, rfl, by decide, by decide, for_range (n := _) (fun i σ H' => (∃ q7, σ = [some (.ref a0), some (.ref l), some (.int g), some (.ref a), some (.bl whole), some (.int (n : Int)), some (.ref x), q7, some (.ref y), some (.bl (heldN rs n)), q10, some (.int ((n % rs.length : Nat) : Int)), some (.ref pr), some (.int (leftN rs n)), some (.int (pk n)), none]) ∧ Same H25 H') ⟨⟨_, rfl⟩, Same.refl _⟩ ?_ ?_⟩
    · rintro i σ H' hi ⟨⟨q7, rfl⟩, S'⟩
      have hi : i < 2 := hi
      have e0 : (0 + (i : Int)) = ((i : Nat) : Int) := by omega
      have hO : (Cn rs g n).hands[i]? = some (if heldN rs n then some ((i : Int), g) else none) := by
        show (if heldN rs n then [some ((0 : Int), g), some (1, g)] else [none, none])[i]? = _
        rcases (by omega : i = 0 ∨ i = 1) with rfl | rfl <;> cases heldN rs n <;> rfl
      dsimp only [gName]
      rw [e0]
      refine ⟨_, rfl, x, o25, _, rfl, S' _ _ ho25, st_no _ _ _ (by decide +kernel), _, rfl, x, A1, rs, Cn rs g n, (i : Int), ⟨rfl, L25.st.same S'⟩, fun _ o eo v rv => ?_, fun z => absurd ⟨by omega, by rw [lh]; omega⟩ z⟩
      rw [Int.toNat_natCast, hO] at eo
      cases eo
      refine ⟨_, rfl, _, rfl, (show (2 : Nat) ≤ sizeLine by decide), fun t5 nt5 => ⟨(show (2 : Nat) ≤ sizeLine by decide), fun p5 np5 => ?_⟩⟩
      have S5 : Same H' (upd H' t5 (.tup [.int (i : Int), .int g])) := Same.new nt5
      have ht5 : upd H' t5 (.tup [.int (i : Int), .int g]) t5 = some (.tup [.int (i : Int), .int g]) := upd_same
      generalize upd H' t5 (.tup [.int (i : Int), .int g]) = H5 at S5 ht5 np5 ⊢
      have S6 := Same.new (u := .lst [.non, .ref t5]) np5
      have hat5 : atI [V.non, V.ref t5] (if heldN rs n = true then 1 else 0) = some (if heldN rs n then .ref t5 else .non) := by cases heldN rs n <;> rfl
      refine ⟨_, rfl, _, rfl, _, _, _, _, rfl, rfl, SqL.of upd_same, hat5, ?_⟩
      refine ⟨v, _, rfl, .inl ⟨_, rv.same (S5.trans S6), ?_⟩, fun H6 S7 => ⟨_, rfl, iteF ⟨⟨_, rfl⟩, S'.trans ((S5.trans S6).trans S7)⟩⟩⟩
      cases heldN rs n with
      | true => exact ⟨t5, rfl, S6 _ _ ht5⟩
      | false => rfl
    rintro σ H26 ⟨⟨q7, rfl⟩, S26⟩
    have L26 := L25.same S26
    obtain ⟨eg1, eg2⟩ := Cn_gd hr' g
    refine ⟨_, rfl, x, A1, rs, Cn rs g n, 1, 0, (0, g), ⟨rfl, L26.st⟩, by rw [lh]; decide, rfl, rfl, fun tt1 H27 R27 St27 nm27 told => ?_⟩
    have L27 := L26.frm R27 St27
    have hl26 : a ∉ x :: A1.own := L26.nm
    have ha27 := R27.keep _ _ hl26 (S26 _ _ ha25)
    have ht27 := tup_fls (S26 _ _ ht25) R27.keep L26.st.chg
    refine ⟨_, rfl, _, rfl, _, _, _, _, rfl, rfl, SqL.of ha27, hat, _, rfl, _, rfl, _, rfl, t, r, g, leftN rs n, pk n, rfl, ht27, fun tt2 H28 S28 due => ?_⟩
    have l0 : (Cn rs g n).left 0 = leftN rs n := Cn_left0 rs g n
    have d1 : (Cn rs g n).told rs 0 (0, g) = dueT r g (leftN rs n) (pk n) := by
      rw [← l0]
      refine told_due eg1 eg2 (.inl rfl) (.inl rfl) (fun z => ?_) rfl
      rw [l0] at z
      by_cases c : 0 < n
      · have := (leftN_pos rs c).1
        omega
      · have : n = 0 := by omega
        subst this
        rfl
    refine ⟨tt1, tt2, _, rfl, told.same S28, (by rw [show ((0 : Nat) : Int) = 0 from rfl, d1]; exact due), fun H29 S29 => ⟨_, rfl, iteF ?_⟩⟩
    have L29 := (L27.same S28).same S29
    obtain ⟨w1, w2, w3, w4, w5, w6, w7, w8⟩ := after1_same rs (Cn rs g n) 1 0 (0, g)
    refine ⟨_, rfl, x, A1, rs, _, 0, 1, (1, g), ⟨rfl, L29.st⟩, by rw [show ((0 : Nat) : Int) = 0 from rfl, w7, lh]; decide, by rw [show ((0 : Nat) : Int) = 0 from rfl, w8 0 (by decide)]; rfl, by rw [show ((0 : Nat) : Int) = 0 from rfl, w6]; rfl, fun tt3 H30 R30 St30 nm30 told2 => ?_⟩
    have ha30 := R30.keep _ _ L29.nm ((S28.trans S29) _ _ ha27)
    have ht30 := tup_fls ((S28.trans S29) _ _ ht27) R30.keep L29.st.chg
    refine ⟨_, rfl, _, rfl, _, _, _, _, rfl, rfl, SqL.of ha30, hat, _, rfl, _, rfl, t, r, g, -1, 1, rfl, ht30, fun tt4 H31 S31 due2 => ?_⟩
    have l1 : ((Cn rs g n).after1 rs 1 ((0 : Nat) : Int) (0, g)).left 1 = -1 := by
      rw [show ((0 : Nat) : Int) = 0 from rfl, left_same w2 w3 w4]
      exact Cn_left1 rs g n
    have d2 : ((Cn rs g n).after1 rs 1 ((0 : Nat) : Int) (0, g)).told rs ((1 : Nat) : Int) (1, g) = dueT r g (-1) 1 := by
      rw [← l1]
      refine told_due (by rw [show ((0 : Nat) : Int) = 0 from rfl, w1]; exact eg1) (by rw [show ((0 : Nat) : Int) = 0 from rfl, w1]; exact eg2) (.inr l1) (.inr l1) (fun _ => rfl) ?_
      unfold Sto.placeOf Sto.owner
      rw [show ((0 : Nat) : Int) = 0 from rfl, w4, w5]
      rfl
    exact ⟨tt3, tt4, _, rfl, told2.same S31, (by rw [d2]; exact due2), fun H32 S32 => k _⟩
end

end Hue

set_option Elab.async false
set_option linter.all false
set_option maxRecDepth 100000
set_option maxHeartbeats 4000000
namespace Hue
open PySem PySem.Spec PyProof.Rows L2 ItX
theorem endA {P : Program} [SupP P pFile] {w : World} {K : PySem.W.Frag} {h : Heap} {mg : Str → Option Value} {f : Addr} (X : K.In h) (G : h.Ns mainGlobals mg) (hfa : mg ("law" : Str) = some (.ref f)) (c : SaysX faAll fxAll dsAll K) :
    ∃ fd : FuncData, (∀ (s : Shared) (v : Value), BindsTo s fd ⟨[v], []⟩ [("_law_script", v)]) ∧ ∀ base : Heap, K.In base → base.Ns mainGlobals mg → FnOk P w K mg base CX0 19 f fd ["_law_script"] (spLaw K) := by
  have T := Tx.of X G c
  cases hfa.symm.trans T.g_law
  exact ⟨_, fun s v => FunD.bindsA (ps := ["_law_script"]) T.F_law (fun _ _ _ _ _ _ us hl => match us, hl with | [_], _ => rfl) s [v] rfl, fun base _ _ => ok_law T⟩
end Hue
open PySem PySem.W PySem.Calls PyProof.Rows
theorem PySem.Challenge.cw_huerounds_k39_long_ways_holds : PySem.Challenge.rw_huerounds_k39_long_ways.Holds := by
  w_on; o_law
  refine HandSHeadRun.head_any (r := OpenLaw.row PySem.Challenge.rw_huerounds_k39_long_ways) (q := view (OpenLaw.row PySem.Challenge.rw_huerounds_k39_long_ways).prog [42]) (H := Hue.hkA) (ob := Hue.obA) (M := 8000) (loose := Hue.looseAll)
    (d := HandSHeadRun.topDef (OpenLaw.row PySem.Challenge.rw_huerounds_k39_long_ways).prog 42) (kwd := []) Hue.obA_eq
    (by kernel_rfl) (fun s => by kernel_rfl) Hue.runA (by kernel_rfl) (by kernel_rfl) (by kernel_rfl) (by rfl) (by first | assumption | decide +kernel) (by decide +kernel) ⟨rfl, rfl, rfl, rfl, rfl, by decide +kernel⟩ ?hw ?hc
  case hw => w_witness2
  case hc =>
    refine L2.walk_ofE (l := PySem.Challenge.rw_huerounds_k39_long_ways) (n := 63) (k := 19) (x := "_law_script") (CX := L2.CX0) rfl (by decide) (by kernel_rfl) ⟨rfl, by decide, by decide⟩ ?F (fun _ _ _ _ z => z)
    intro w mg fa h Y G hmg0
    obtain ⟨K, KX, c⟩ := Y
    have hmg : mg ("law" : PySem.Str) = some (.ref fa) := by
      have e : (HandSHeadRun.topDef (OpenLaw.row PySem.Challenge.rw_huerounds_k39_long_ways).prog 42).name = ("law" : PySem.Str) := by kernel_rfl
      rw [← e]
      exact hmg0
    obtain ⟨fd, hb, hF⟩ := Hue.endA (P := (PySem.Challenge.pw_huerounds_k39_long_ways)) (w := w) KX G hmg c
    exact ⟨K, fd, Hue.spLaw K, KX, hb, fun H a ns hl _ hS => ⟨a, ns, rfl, hS, hl, fun _ => rfl⟩, hF⟩
#print axioms PySem.Challenge.cw_huerounds_k39_long_ways_holds
