import PyProof.Rows.All
import Wide.All
import OpenK.AllK
import Wide.FinOn
import KE.KStateDown
import KE.KOpsOwn
import KE.KEqSeq
import PyProof.P3Eq
import HandS.ForMost
import HandS.Wide
import HandS.Exc
import HandS.Defaults
import HandS.Property
import HandS.MakeKwOnly
import HandS.ClsMeth
import HandS.Star
import HandS.Codes
import HandS.WordsExc
import HandS.IsInst
import HandS.Head0
import HandS.Head1
import HandS.Head2
import HandS.HeadEnd
import HandS.HeadHook1
import HandS.HeadHook2
import HandS.ExcIs
import HandS.ExcOwn
import HandS.ExcInit
import HandS.ExcField
import HandS.ExcValue
import HandS.OwnEq
import HandS.SlotsOwn
import HandS.More
import HandS.FStr
import HandS.HotCalls
import HandS.WideBits
import PySem.Challenge.RW_huerounds_k01_reference_words
set_option Elab.async false
set_option linter.all false
set_option maxRecDepth 100000
set_option maxHeartbeats 4000000
/-! The base of all our proofs about huerounds: the head's facts by names (own hook), own rules, own words. -/
namespace Hue
open PySem PySem.Spec PyProof.Rows L2

/-! ### defs of the text, found by an address of K -/
def noFd : FuncData := PySem.W.fnOf Str.empty Str.empty (defArgs (.Pass ⟨0, 0, 0, 0⟩)) [] (defScope (.Pass ⟨0, 0, 0, 0⟩)) .none .none .none .none none .none .none
def fdD (K : PySem.W.Frag) (a : Addr) : FuncData :=
  match K.lookup a with
  | some ⟨_, _, .func g, _⟩ => g
  | _ => noFd
abbrev Row8 : Type := Option (Str × Str × Arguments × FuncBody × Scope × Addr × List (Str × Addr) × Addr)
def rowAt (K : PySem.W.Frag) (a : Addr) : Row8 :=
  match K.lookup a with
  | some ⟨_, _, .func g, _⟩ => some (g.name, g.qualname, g.params, g.body, g.scope, g.globals, g.closure, g.builtins)
  | _ => none
/-- a def of the text: where it stands, its names, its statement, its defaults -/
structure DX where
  ad : PySem.W.Frag → Addr
  nm : Str
  ql : Str
  st : Stmt
  df : List He.Dv := []
  kd : List (Str × He.Dv) := []
def DX.row (d : DX) : Row8 := some (d.nm, d.ql, defArgs d.st, .stmts (defBody d.st), defScope d.st, mainGlobals, [], builtinsNs)
def DX.dvs (K : PySem.W.Frag) (d : DX) : List V := d.df.map (He.Dv.v K)
def DX.kws (K : PySem.W.Frag) (d : DX) : List (Str × V) := d.kd.map fun q => (q.1, q.2.v K)
def DX.okB (K : PySem.W.Frag) (d : DX) : Bool :=
  PySem.W.keepIn K (.ref (d.ad K)) &&
  (match K.lookup (d.ad K) with
  | some ⟨_, _, .func g, _⟩ => PySem.W.codeIn K g.code d.ql && (He.dflB K g.defaults (d.dvs K) && He.kwdB K g.kwdefaults (d.kws K))
  | _ => false)
theorem DX.funD {K : PySem.W.Frag} {d : DX} (e : rowAt K (d.ad K) = d.row) (c : d.okB K = true) :
    FunD K d.nm d.ql (defArgs d.st) (defBody d.st) (defScope d.st) (d.dvs K) (d.kws K) (d.ad K) (fdD K (d.ad K)) := by
  obtain ⟨kp, c2⟩ := He.ba c
  unfold rowAt at e
  unfold fdD
  cases q : K.lookup (d.ad K) with
  | none => rw [q] at c2; cases c2
  | some o =>
    obtain ⟨oc, od, dt, osl⟩ := o
    rw [q] at c2 e
    cases dt with
    | func g =>
      obtain ⟨n1, n2, n3, n4, n5, n6, n7, n8, n9, n10, n11, n12, n13, n14, n15⟩ := g
      have e2 : (some (n1, n2, n3, n4, n5, n6, n7, n15) : Row8) = d.row := e
      unfold DX.row at e2
      simp only [Option.some.injEq, Prod.mk.injEq] at e2
      obtain ⟨h1, h2, h3, h4, h5, h6, h7, h8⟩ := e2
      subst h1 h2 h3 h4 h5 h6 h7 h8
      obtain ⟨k1, k2⟩ := He.ba (show (PySem.W.codeIn K n13 d.ql && (He.dflB K n8 (d.dvs K) && He.kwdB K n9 (d.kws K))) = true from c2)
      obtain ⟨k3, k4⟩ := He.ba k2
      exact ⟨⟨oc, od, n8, n9, n10, n11, n12, n13, n14, osl, rfl, q, k1, He.dflB_ok k3, He.kwdB_ok k4⟩, kp⟩
    | _ => cases c2

/-! ### more facts of the top -/
abbrev gad (x : Str) (K : PySem.W.Frag) : Addr := He.ga K x
abbrev mad (C m : Str) (K : PySem.W.Frag) : Addr := He.ma K (He.ga K C) m
/-- the getter behind a property, the def behind a classmethod -/
def pad (T : String) (C m : Str) (K : PySem.W.Frag) : Addr :=
  match PySem.W.recIn K (He.ma K (He.ga K C) m) T with
  | some (.ref g :: _) => g
  | _ => 0
inductive Kx where
  | ty (n : String)
  | own (x : Str)
def Kx.v (K : PySem.W.Frag) : Kx → Value
  | .ty n => .type n
  | .own x => .ref (He.ga K x)
inductive Fx where
  | prop (C f : Str)
  | tup (x : Str) (vs : List He.Dv)
  | inst (C : Str)
  | kit (t c : Kx) (b : Bool)
  | bop (C m r : Str) (T : String)
  | cread (C : Str)
  | cmeth (C m : Str)
  | cint (C f : Str) (i : Int)
  | own (C m : Str)
  | excC (D : Str)
  | nf (C : Str) (t : Kx)
  | sub (C : Str) (t : Kx) (b : Bool)
def eqB (a b : Option Bool) : Bool := decide (a = b)
def someO (a : Option (Option Value)) : Bool := a.isSome
def Fx.ok (K : PySem.W.Frag) : Fx → Bool
  | .prop C f =>
    He.eqO (PySem.W.findIn K (.ref (gad C K)) f) (some (some (.ref (mad C f K)))) &&
    (He.eqO (PySem.W.specialIn K (.ref (mad C f K)) "__get__") (some (some (.builtin "property.__get__"))) &&
    (eqB (PySem.W.takesIn K (.ref (mad C f K))) (some true) &&
    (match PySem.W.recIn K (mad C f K) "property" with
      | some (.ref _ :: _) => true
      | _ => false)))
  | .tup x vs => He.tupB K x vs
  | .inst C =>
    He.eqO (PySem.W.findIn K (.ref (gad C K)) "__class__") (some (some (.builtin "object.__class__"))) &&
    (He.eqO (PySem.W.specialIn K (.builtin "object.__class__") "__get__") (some (some (.builtin "getset_descriptor.__get__"))) &&
    (eqB (PySem.W.takesIn K (.builtin "object.__class__")) (some true) &&
    eqB (PySem.W.mroIn K (gad C K) (.type "object")) (some true)))
  | .kit t c b => eqB (PySem.W.kitOne K (t.v K) (c.v K)) (some b)
  | .bop C m r T =>
    PySem.W.selfFirst K (gad C K) &&
    (He.eqO (PySem.W.findIn K (.ref (gad C K)) m) (some (some (.ref (mad C m K)))) &&
    (PySem.W.isFn K (.ref (mad C m K)) &&
    (He.eqO (PySem.W.findIn K (.ref (gad C K)) r) (some none) &&
    (someO (PySem.W.findIn K (.type T) m) && (someO (PySem.W.findIn K (.type T) r) &&
    eqB (PySem.W.subIn K (.type T) (.ref (gad C K))) (some false))))))
  | .cread C => PySem.W.readsIn K (gad C K) (.type "type") && He.eqO (PySem.W.specialIn K (.ref (gad C K)) "__getattribute__") (some (some (.builtin "type.__getattribute__")))
  | .cmeth C m =>
    (match PySem.W.findCls K (.ref (gad C K)) (.type "type") m with
      | some (.get (.builtin g) (.ref p) .none (.ref D)) => decide (g = "classmethod.__get__") && (decide (p = mad C m K) && decide (D = gad C K))
      | _ => false) &&
    ((match PySem.W.recIn K (mad C m K) "classmethod" with
      | some (.ref _ :: _) => true
      | _ => false) && PySem.W.fnIn K (pad "classmethod" C m K))
  | .cint C f i =>
    (match PySem.W.findCls K (.ref (gad C K)) (.type "type") f with
      | some (.val (.int j _)) => decide (j = i)
      | _ => false)
  | .own C m => He.eqO (PySem.W.findIn K (.ref (gad C K)) m) (some (some (.ref (mad C m K)))) && (PySem.W.isFn K (.ref (mad C m K)) && (PySem.W.fnIn K (mad C m K) && PySem.W.noSeq K (gad C K)))
  | .excC D =>
    He.eqO (PySem.W.findIn K (.ref (gad D K)) "__getattribute__") (some (some (.builtin "BaseException.__getattribute__"))) &&
    (He.eqO (PySem.W.findIn K (.ref (gad D K)) "__getattr__") (some none) &&
    (eqB (PySem.W.subIn K (.ref (gad D K)) (.type "BaseException")) (some true) &&
    (PySem.W.hasDictIn K (gad D K) &&
    (He.eqO (PySem.W.findIn K (.ref (gad D K)) "__class__") (some (some (.builtin "object.__class__"))) &&
    (He.eqO (PySem.W.specialIn K (.builtin "object.__class__") "__get__") (some (some (.builtin "getset_descriptor.__get__"))) &&
    (eqB (PySem.W.takesIn K (.builtin "object.__class__")) (some true) &&
    eqB (PySem.W.mroIn K (gad D K) (.type "object")) (some true)))))))
  | .nf C t => PySem.W.notFirst K (gad C K) (t.v K)
  | .sub C t b => eqB (PySem.W.subIn K (.ref (gad C K)) (t.v K)) (some b)
section
variable {K : PySem.W.Frag}
theorem rec_ok {T : String} {C m : Str} (c : (match PySem.W.recIn K (mad C m K) T with
      | some (.ref _ :: _) => true
      | _ => false) = true) : ∃ rest, PySem.W.recIn K (mad C m K) T = some (.ref (pad T C m K) :: rest) := by
  unfold pad
  cases e : PySem.W.recIn K (mad C m K) T with
  | none => rw [e] at c; cases c
  | some l =>
    rw [e] at c
    cases l with
    | nil => cases c
    | cons v r =>
      cases v with
      | ref g => exact ⟨r, rfl⟩
      | _ => cases c
theorem cread_ok {C : Str} (c : (Fx.cread C).ok K = true) : ClX.CRead K (gad C K) (.type "type") := by
  obtain ⟨c1, c2⟩ := He.ba c
  exact ⟨c1, He.eqO_ok c2⟩
theorem cmeth_ok {C m : Str} (c : (Fx.cmeth C m).ok K = true) : ClX.CMet K (gad C K) (.type "type") m (mad C m K) (pad "classmethod" C m K) := by
  obtain ⟨c1, c⟩ := He.ba c
  obtain ⟨c2, c3⟩ := He.ba c
  refine ⟨?_, rec_ok c2, c3⟩
  split at c1
  · rename_i g p D e
    obtain ⟨k1, k⟩ := He.ba c1
    obtain ⟨k2, k3⟩ := He.ba k
    rw [e, of_decide_eq_true k1, of_decide_eq_true k2, of_decide_eq_true k3]
  · cases c1
theorem cint_ok {C f : Str} {i : Int} (c : (Fx.cint C f i).ok K = true) : ∃ u, ClX.CVal K (gad C K) (.type "type") f (.int i) u := by
  have c1 : (match PySem.W.findCls K (.ref (gad C K)) (.type "type") f with
      | some (.val (.int j _)) => decide (j = i)
      | _ => false) = true := c
  split at c1
  · rename_i j t e
    refine ⟨_, e, ⟨t, ?_⟩⟩
    rw [of_decide_eq_true c1]
  · cases c1
theorem prop_ok {C f : Str} (c : (Fx.prop C f).ok K = true) : PropOf K (gad C K) f (mad C f K) (pad "property" C f K) := by
  obtain ⟨c1, c⟩ := He.ba c
  obtain ⟨c2, c⟩ := He.ba c
  obtain ⟨c3, c4⟩ := He.ba c
  refine ⟨He.eqO_ok c1, He.eqO_ok c2, of_decide_eq_true c3, ?_⟩
  unfold pad
  cases e : PySem.W.recIn K (mad C f K) "property" with
  | none => rw [e] at c4; cases c4
  | some l =>
    rw [e] at c4
    cases l with
    | nil => cases c4
    | cons v r =>
      cases v with
      | ref g =>
        exact ⟨r, rfl⟩
      | _ => cases c4
theorem inst_ty {C : Str} (c : (Fx.inst C).ok K = true) (cl : Cls K (gad C K)) {H : Hp} {a dx : Addr} {fs : List (Str × V)} (e : H a = some (.ins (gad C K) dx fs)) : TyX K H (.ref a) (.ref (gad C K)) := by
  obtain ⟨c1, c⟩ := He.ba c
  obtain ⟨c2, c⟩ := He.ba c
  obtain ⟨c3, c4⟩ := He.ba c
  exact .base (.ins e cl (He.eqO_ok c1) (He.eqO_ok c2) (of_decide_eq_true c3) (of_decide_eq_true c4))
theorem nf_ok {C : Str} {t : Kx} (h : (Fx.nf C t).ok K = true) : PySem.W.notFirst K (gad C K) (t.v K) = true := h
theorem sub_ok {C : Str} {t : Kx} {b : Bool} (h : (Fx.sub C t b).ok K = true) : PySem.W.subIn K (.ref (gad C K)) (t.v K) = some b := of_decide_eq_true h
theorem kit_ok {t c : Kx} {b : Bool} (h : (Fx.kit t c b).ok K = true) : PySem.W.kitOne K (t.v K) (c.v K) = some b := of_decide_eq_true h
end
/-! ### the hook -/
abbrev AlX : Type := Bool × List Row8
def obsX (fa : List He.Fa) (fx : List Fx) (ds : List DX) (K : PySem.W.Frag) : AlX :=
  ((fa.all fun f => f.ok K) && ((fx.all fun f => f.ok K) && ds.all fun d => d.okB K), ds.map fun d => rowAt K (d.ad K))
def valX (ds : List DX) : AlX := (true, ds.map DX.row)
def SaysX (fa : List He.Fa) (fx : List Fx) (ds : List DX) (K : PySem.W.Frag) : Prop := obsX fa fx ds K = valX ds
def obsXG (n : Nat) (fa : List He.Fa) (fx : List Fx) (ds : List DX) (g : Addr → Option Obj) : AlX := obsX fa fx ds (He.frG g (cStatics :: He.asD g n))
def hookX (n : Nat) (fa : List He.Fa) (fx : List Fx) (ds : List DX) : PySem.W.Hook where
  α := AlX
  obs := fun s => obsXG n fa fx ds s.heap.get?
  val := fun _ => valX ds
  says := fun _ h => ∃ K : PySem.W.Frag, K.In h ∧ SaysX fa fx ds K
  of := fun _ _ e => ⟨_, He.frG_in, e⟩
  keeps := fun _ _ _ ⟨K, hK, c⟩ k => ⟨K, PySem.W.Frag.In.keeps hK k, c⟩
theorem obsXG_eq {n : Nat} {fa : List He.Fa} {fx : List Fx} {ds : List DX} {g : Addr → Option Obj} {s : Shared} (h : ∀ a, g a = s.heap.get? a) : obsXG n fa fx ds g = (hookX n fa fx ds).obs s := by
  cases (funext h : g = s.heap.get?)
  rfl
section
variable {fa : List He.Fa} {fx : List Fx} {ds : List DX} {K : PySem.W.Frag}
theorem SaysX.fact (c : SaysX fa fx ds K) (i : Nat) {f : He.Fa} (h : fa[i]? = some f := by rfl) : f.ok K = true :=
  List.all_eq_true.mp (He.ba (show ((fa.all fun f => f.ok K) && ((fx.all fun f => f.ok K) && ds.all fun d => d.okB K)) = true from congrArg (fun z : AlX => z.1) c)).1 f (List.mem_of_getElem? h)
theorem SaysX.more (c : SaysX fa fx ds K) (i : Nat) {f : Fx} (h : fx[i]? = some f := by rfl) : f.ok K = true :=
  List.all_eq_true.mp (He.ba (He.ba (show ((fa.all fun f => f.ok K) && ((fx.all fun f => f.ok K) && ds.all fun d => d.okB K)) = true from congrArg (fun z : AlX => z.1) c)).2).1 f (List.mem_of_getElem? h)
theorem SaysX.fd (c : SaysX fa fx ds K) (i : Nat) {d : DX} (h : ds[i]? = some d := by rfl) :
    FunD K d.nm d.ql (defArgs d.st) (defBody d.st) (defScope d.st) (d.dvs K) (d.kws K) (d.ad K) (fdD K (d.ad K)) := by
  have c2 := (He.ba (He.ba (show ((fa.all fun f => f.ok K) && ((fx.all fun f => f.ok K) && ds.all fun d => d.okB K)) = true from congrArg (fun z : AlX => z.1) c)).2).2
  have e : ds.map (fun d => rowAt K (d.ad K)) = ds.map DX.row := congrArg (fun z : AlX => z.2) c
  have e2 : (ds.map fun d => rowAt K (d.ad K))[i]? = (ds.map DX.row)[i]? := by rw [e]
  rw [List.getElem?_map, List.getElem?_map, h] at e2
  exact DX.funD (Option.some.inj e2) (List.all_eq_true.mp c2 d (List.mem_of_getElem? h))
end

/-! ### constants of the top -/
abbrev SqTk (K : PySem.W.Frag) (a : Addr) (vs : List V) : Prop := ∀ H : Hp, SqT K H a vs
theorem tup_ok {K : PySem.W.Frag} {x : Str} {vs : List He.Dv} (h : (Fx.tup x vs).ok K = true) : SqTk K (gad x K) (vs.map (He.Dv.v K)) := fun H => He.tupB_ok h H
section
variable {X : Cx}
theorem pe_gi {x : Str} {i : Int} {pos : Pos} (hg : Gl X x) (h : ∃ t, X.mg x = some (.int i t)) (hd : (x == ("__debug__" : Str)) = false := by decide) : PE X (.Name x pos) (tC (.int i)) := by
  obtain ⟨t, h⟩ := h
  exact pe_glob hg h ⟨t, rfl⟩ hd
theorem pe_gs {x z : Str} {pos : Pos} (hg : Gl X x) (h : ∃ t, X.mg x = some (.str z t)) (hd : (x == ("__debug__" : Str)) = false := by decide) : PE X (.Name x pos) (tC (.str z)) := by
  obtain ⟨t, h⟩ := h
  exact pe_glob hg h ⟨t, rfl⟩ hd
theorem pe_gr {x : Str} {a : Addr} {pos : Pos} (hg : Gl X x) (h : X.mg x = some (.ref a)) (hd : (x == ("__debug__" : Str)) = false := by decide) : PE X (.Name x pos) (tC (.ref a)) := pe_glob hg h rfl hd
theorem pe_bty {x : Str} (n : String) {pos : Pos} (hg : Gl X x) (h : X.mg x = none) (hv : bootBuiltins x = some (.type n)) (hn : x ≠ "__name__" := by decide) (hd : (x == ("__debug__" : Str)) = false := by decide) : PE X (.Name x pos) (tC (.ty n)) := pe_bltn hg h hv rfl hn hd
/-! ### int(..) by the kind of its argument -/
theorem call_intI : CallR X (.type "int") (fun xs H Q => ∃ i, xs = [.int i] ∧ Q (.int i) H) := fun pins s σ H xs us Q I r ⟨i, e, q⟩ => call_int1 pins s σ H xs us Q I r (.inl ⟨i, e, q⟩)
theorem call_intB : CallR X (.type "int") (fun xs H Q => ∃ k, xs = [.bl k] ∧ Q (.int (if k then 1 else 0)) H) := fun pins s σ H xs us Q I r ⟨k, e, q⟩ => call_int1 pins s σ H xs us Q I r (.inr ⟨k, e, q⟩)
end
/-! ### what stands in a heap, found by steps (the word "hp") -/
/-- all but the objects of S are as they were -/
def Fr (S : Addr → Prop) (H H' : Hp) : Prop := ∀ a o, ¬ S a → H a = some o → H' a = some o
theorem upd_old {H : Hp} {p a : Addr} {o u : HO} (n : H p = none) (h : H a = some o) : upd H p u a = some o := by rw [upd_ne (ne_of_none h n)]; exact h
theorem upd_oth {H : Hp} {p a : Addr} {o u : HO} (n : a ≠ p) (h : H a = some o) : upd H p u a = some o := by rw [upd_ne n]; exact h
theorem upd_oldN {H : Hp} {p a : Addr} {u : HO} (n : a ≠ p) (h : H a = none) : upd H p u a = none := by rw [upd_ne n]; exact h
theorem same_get {H H' : Hp} {a : Addr} {o : HO} (e : Same H H') (h : H a = some o) : H' a = some o := e a o h
theorem iteB {c : Bool} {A B : Prop} (h1 : c = true → A) (h2 : c = false → B) : if c = true then A else B := by
  cases c with
  | true => exact iteT (h1 rfl)
  | false => exact iteF (h2 rfl)
theorem Same.upd {H H' : Hp} {p : Addr} {u : HO} (e : Same H H') (n : H p = none) : Same H (upd H' p u) := fun a o h => by rw [upd_ne (ne_of_none h n)]; exact e a o h
theorem Same.new {H : Hp} {p : Addr} {u : HO} (n : H p = none) : Same H (L2.upd H p u) := Same.upd (Same.refl H) n

/-! ### an own class's operator with a built-in value on the right -/
/-- o op i, o an instance of C, i an int -/
def rOwnI (C : Addr) (sp : Sp) (E : XK) : R2 := fun x y H Q => ∃ a dx fs i, x = .ref a ∧ H a = some (.ins C dx fs) ∧ y = .int i ∧ sp [.ref a, .int i] H Q E
theorem op_ownI {X : Cx} {CX : CXT} {op : Operator} {C m r : Str} {k : Nat} {fd : FuncData} {ps : List Str} {sp : Sp} {E : XK}
    (cl : Cls X.K (gad C X.K)) (b : (Fx.bop C m r "int").ok X.K = true) (em : PySem.dunder op.info.2 = m) (er : PySem.dunderR op.info.2 = r)
    (F : FnOk X.prog X.w X.K X.mg X.base CX k (mad C m X.K) fd ps sp) (hr : Room k X.A) (hb : Binds X.K fd ps []) (hx : Passes CX X E) : OpR X (binaryOp op) (rOwnI (gad C X.K) sp E) := by
  intro pins s σ H x y v u Q I rx ry h
  obtain ⟨a, dx, fs, i, rfl, ea, rfl, q⟩ := h
  obtain rfl : v = Value.ref a := rx
  obtain ⟨t, rfl⟩ := ry
  obtain ⟨c1, c⟩ := He.ba b
  obtain ⟨c2, c⟩ := He.ba c
  obtain ⟨c3, c⟩ := He.ba c
  obtain ⟨c4, c⟩ := He.ba c
  obtain ⟨c5, c⟩ := He.ba c
  obtain ⟨c6, c7⟩ := He.ba c
  obtain ⟨fo, h5⟩ := Option.isSome_iff_exists.mp c5
  obtain ⟨ro, h6⟩ := Option.isSome_iff_exists.mp c6
  obtain ⟨mA, O, _⟩ := ins_get I.hok ea
  obtain ⟨od, J, _⟩ := O.look
  obtain ⟨m0, Fm⟩ := I.fr
  subst em er
  refine PySem.W.ksp_binT (T := "int") Fm I.ok.mod.kin J rfl c1 (He.eqO_ok c2) c3 (He.eqO_ok c4) (.inl rfl) h5 h6 (of_decide_eq_true c7) ?_
  refine thn (run_fn (us := [.ref a, .int i t]) (vs := [.ref a, .int i]) F hr hb .nil hx I (.cons rfl (.cons ⟨t, rfl⟩ .nil)) q) fun u s' hq => ?_
  obtain ⟨z, H', I', rz, qz⟩ := hq
  have fin : EP X pins σ Q u s' := ⟨z, H', I', rz, qz⟩
  cases z with
  | non => obtain rfl : u = Value.none := rz; exact fin
  | bl _ => obtain rfl : u = Value.bool _ := rz; exact fin
  | int _ => obtain ⟨t', rfl⟩ := rz; exact fin
  | str _ => obtain ⟨t', rfl⟩ := rz; exact fin
  | byt _ => obtain ⟨t', rfl⟩ := rz; exact fin
  | flt _ => obtain ⟨t', rfl⟩ := rz; exact fin
  | ref _ => obtain rfl : u = Value.ref _ := rz; exact fin
  | ty _ => obtain rfl : u = Value.type _ := rz; exact fin

/-! ### a class called with a starred list; a def with a starred parameter -/
/-- C(*y): a new instance, __init__ with the items -/
def tMakeSt (K0 : PySem.W.Frag) (C : Addr) (sp : Sp) (E : XK) (te : TE) : TE := fun σ H Q => te σ H fun y H1 => ∃ a xs, y = V.ref a ∧ (SqT K0 H1 a xs ∨ SqL K0 H1 a xs) ∧ ∀ x dx, H1 x = none → H1 dx = none → dx ≠ x →
  sp (.ref x :: xs) (upd (upd H1 dx (.own x)) x (.ins C dx [])) (fun v H2 => v = .non ∧ Q (.ref x) H2) E
/-- .. where slot i holds the class -/
def tMakeLS (K0 : PySem.W.Frag) (i : Nat) (C : Addr) (sp : Sp) (E : XK) (te : TE) : TE := fun σ H Q => σ[i]? = some (some (.ref C)) ∧ tMakeSt K0 C sp E te σ H Q
section
variable {X : Cx} {CX : CXT} {k i : Nat} {f C : Addr} {sp : Sp} {E : XK} {x : Str} {e : Expr} {te : TE} {p q pos : Pos}
theorem pe_makeGS (M : Mk X.K C f) (F : FnR X.prog X.w X.K X.mg X.base CX k f sp) (hr : Room (k + 1) X.A) (hx : Passes CX X E) (hg : Gl X x) (hm : X.mg x = some (.ref C)) (he : PE X e te)
    (hd : (x == ("__debug__" : Str)) = false := by decide) (hst : starEach [.Starred e q] X.env = [(true, eval e X.env)] := by rfl) :
    PE X (.Call (.Name x p) [.Starred e q] [] pos) (tMakeSt X.K C sp E te) := by
  refine ⟨fun pins s σ H Q I h => ?_⟩
  refine wpAny_Call_Name_kw (ld_glob I hg hm ?_ hd)
  refine PySem.W.callWith_S (h₀ := X.base) I.ok.mod.kin M.kp (thn (he.run pins s σ H _ I h) fun v s1 ⟨y, H1, I1, ry, a, xs, ey, hxs, z⟩ => ?_) hst
  subst ey
  obtain rfl : v = Value.ref a := ry
  exact StX.star_any I1 hxs fun us s2 I2 rv => ⟨I2.kIn, StX.run_makeR M F hr hx I2 rv z⟩
theorem pe_makeLS (M : Mk X.K C f) (F : FnR X.prog X.w X.K X.mg X.base CX k f sp) (hr : Room (k + 1) X.A) (hx : Passes CX X E) (hN : X.N[i]? = some x) (hv : Vis X.env.scope x) (he : PE X e te)
    (hd : (x == ("__debug__" : Str)) = false := by decide) (hcd : (x == ("__classdict__" : Str)) = false := by decide) (hst : starEach [.Starred e q] X.env = [(true, eval e X.env)] := by rfl) :
    PE X (.Call (.Name x p) [.Starred e q] [] pos) (tMakeLS X.K i C sp E te) := by
  refine ⟨fun pins s σ H Q I h => ?_⟩
  obtain ⟨hs, h⟩ := h
  refine wpAny_Call_Name_kw (thn ((pe_var (pos := p) (i := i) hN hv hd hcd).run pins s σ H (fun v H1 => v = .ref C ∧ H1 = H) I ⟨.ref C, hs, rfl, rfl⟩) fun u s1 ⟨v, H1, I1, r1, ev, eH⟩ => ?_)
  subst ev
  rw [eH] at I1
  cases r1
  refine PySem.W.callWith_S (h₀ := X.base) I.ok.mod.kin M.kp (thn (he.run pins s1 σ H _ I1 h) fun v s2 ⟨y, H2, I2, ry, a, xs, ey, hxs, z⟩ => ?_) hst
  subst ey
  obtain rfl : v = Value.ref a := ry
  exact StX.star_any I2 hxs fun us s3 I3 rv => ⟨I3.kIn, StX.run_makeR M F hr hx I3 rv z⟩
end
section
variable {P : Program} {w : World} {K : PySem.W.Frag} {mg : Str → Option Value} {base : Heap} {CX : CXT} {k : Nat} {f : Addr} {fd : FuncData} {ps N : List Str} {sp : Sp} {x qual pv : Str} {params : Arguments} {body : List Stmt} {scope : Scope}
theorem fnr_of (F : FnOk P w K mg base CX k f fd ps sp) (hb : Binds K fd ps []) : FnR P w K mg base CX k f sp :=
  (F.raw hb .nil).imp fun vs H Q E h => by
    show sp (vs ++ []) H Q E
    rw [List.append_nil]
    exact h
/-- the promise of a def f(a, .., *v) by the promise of its body -/
def spStar (n : Nat) (sp : Sp) : Sp := fun vs H Q E => ∃ ws rest, vs = ws ++ rest ∧ ws.length = n ∧ rest.length ≤ sizeLine ∧ ∀ p, H p = none → sp (ws ++ [V.ref p]) (upd H p (.tup rest)) Q E
theorem fnr_star (F : FunD K x qual params body scope [] [] f fd) (S : FnScope N (ps ++ [pv]) scope) (hCX : StX.CXUp CX)
    (hb : ∀ (kV doc pm : Value) (an : Option Addr) (cdv ct : Value) (us rest : List Value), us.length = ps.length → bindArgs (PySem.W.fnOf x qual params body scope .none kV doc pm an cdv ct) ⟨us ++ rest, []⟩ = (newTuple rest >>= fun t => pure (ps.zip us ++ [(pv, t)])))
    (hbody : ∀ (cdv : Value) (A : Around) (outer : List Env) (s : Shared) (H : Hp) (vs : List V) (Q : VK) (E : XK), Room k (A.deeper (envOfC qual scope s.heap.objs.size f cdv)) → sp vs H Q E →
      ∃ t, PSs (cxOf CX P w K mg base N qual scope f cdv A outer s H E) body t ∧ t { nx := fun _ H' => Q .non H', rt := Q } (start N vs) H) :
    FnR P w K mg base CX (k + 1) f (spStar ps.length sp) := by
  obtain ⟨oc, od, dV, kV, doc, pm, an, cdv, ct, osl, rfl, lk, hcd, hD, _⟩ := F.ex
  rcases hD with ⟨_, rfl⟩ | ⟨e, _⟩
  · exact StX.fn_star lk hcd S hCX (fun us rest hl => hb kV doc pm an cdv ct us rest hl) fun A outer s H vs Q E hr h => hbody cdv A outer s H vs Q E hr h
  · exact absurd rfl e
end

/-! ### o[i], o[i] = e, len(o) by the class's own methods -/
structure OwnM (K : PySem.W.Frag) (C : Addr) (m : Str) (f : Addr) : Prop where
  at_ : PySem.W.findIn K (.ref C) m = some (some (.ref f))
  fn : PySem.W.isFn K (.ref f) = true
  fi : PySem.W.fnIn K f = true
  nq : PySem.W.noSeq K C = true
theorem own_ok {K : PySem.W.Frag} {C m : Str} (c : (Fx.own C m).ok K = true) : OwnM K (gad C K) m (mad C m K) := by
  obtain ⟨c1, c⟩ := He.ba c
  obtain ⟨c2, c⟩ := He.ba c
  obtain ⟨c3, c4⟩ := He.ba c
  exact ⟨He.eqO_ok c1, c2, c3, c4⟩
section
variable {X : Cx} {CX : CXT} {k : Nat} {C f : Addr} {sp : Sp} {E : XK} {a b : Expr} {ta tb : TE} {pos : Pos}
theorem run_in1 {pins : List (Addr × Obj)} {σ : L2.St} {H : Hp} {s : Shared} {Q : VK} {us : List Value} {vs : List V} (F : FnR X.prog X.w X.K X.mg X.base CX k f sp) (hr : Room (k + 1) X.A) (hx : Passes CX X E) (I : Inv X pins σ H s) (r : Vals vs us) (h : sp vs H Q E) :
    wpAny (model X.prog X.w) X.A.in1 (call (.ref f) us) (EP X pins σ Q) X.xe s := by
  refine wpAny_call (codeAny_mono (F X.A.in1 X.stack s H us vs Q E hr.in1 I.env0.in1 r h) fun r s' hq => ?_)
  cases r with
  | error e => exact hx pins σ H s e s' I hq
  | ok fl =>
    cases fl with
    | ret u => exact I.after hq
    | next => exact False.elim hq
    | brk => exact False.elim hq
    | cont => exact False.elim hq
def tIxO (C : Addr) (sp : Sp) (E : XK) (ta tb : TE) : TE := fun σ H Q => ta σ H fun x H1 => tb σ H1 fun y H2 => ∃ a dx fs, x = .ref a ∧ H2 a = some (.ins C dx fs) ∧ sp [.ref a, y] H2 Q E
theorem pe_ixO (o : OwnM X.K C "__getitem__" f) (F : FnR X.prog X.w X.K X.mg X.base CX k f sp) (hr : Room (k + 1) X.A) (hx : Passes CX X E) (ha : PE X a ta) (hb : PE X b tb)
    (hs : ∀ o i, subscripted b true o i = runValue (.builtin "lifetime.subscript" ⟨[o, i], []⟩) := by intro _ _; rfl) : PE X (.Subscript a b pos) (tIxO C sp E ta tb) := by
  refine ⟨fun pins s σ H Q I h => ?_⟩
  refine Subscript_ (binT ha hb I h fun v u s2 x y H2 I2 rx ry q => ?_)
  obtain ⟨a, dx, fs, rfl, ea, q⟩ := q
  obtain rfl : v = Value.ref a := rx
  obtain ⟨mA, O, _⟩ := ins_get I2.hok ea
  obtain ⟨od, J, _⟩ := O.look
  obtain ⟨m0, Fm⟩ := I2.fr
  exact PySem.W.sub_K Fm I2.ok.mod.kin J o.at_ o.fi o.fn (run_in1 (us := [.ref a, u]) (vs := [.ref a, y]) F hr hx I2 (.cons rfl (.cons ry .nil)) q) (hs _ _)
def rLenO (C : Addr) (sp : Sp) (E : XK) : List V → Hp → VK → Prop := fun xs H Q => ∃ a dx fs, xs = [.ref a] ∧ H a = some (.ins C dx fs) ∧ sp [.ref a] H (fun v H' => ∃ n : Nat, v = .int n ∧ n < 1000 ∧ Q (.int n) H') E
theorem call_lenO (o : OwnM X.K C "__len__" f) (F : FnR X.prog X.w X.K X.mg X.base CX k f sp) (hr : Room (k + 1) X.A) (hx : Passes CX X E) : CallR X (.builtin "len") (rLenO C sp E) := by
  intro pins s σ H xs us Q I r h
  obtain ⟨a, dx, fs, rfl, ea, q⟩ := h
  obtain ⟨u, rfl, ru⟩ := vals1 r
  obtain rfl : u = Value.ref a := ru
  obtain ⟨mA, O, _⟩ := ins_get I.hok ea
  obtain ⟨od, J, _⟩ := O.look
  obtain ⟨m0, Fm⟩ := I.fr
  refine PySem.W.len_K Fm I.ok.mod.kin J o.at_ o.fn (thn (run_in1 (us := [.ref a]) (vs := [.ref a]) F hr hx I (.cons rfl .nil) q) fun u s' hq => ?_)
  obtain ⟨z, H', I', rz, n, rfl, hn, qz⟩ := hq
  obtain ⟨t, rfl⟩ := rz
  refine ⟨⟨by omega, by omega⟩, ?_⟩
  exact ⟨.int n, H', I'.tok _, ⟨_, rfl⟩, qz⟩
def rSetO (C : Addr) (sp : Sp) (E : XK) : TSet := fun o i v H Q => ∃ a dx fs, o = .ref a ∧ H a = some (.ins C dx fs) ∧ sp [.ref a, i, v] H (fun _ H' => Q H') E
theorem set_own (o : OwnM X.K C "__setitem__" f) (F : FnR X.prog X.w X.K X.mg X.base CX k f sp) (hr : Room k X.A) (hx : Passes CX X E) : PSet X (rSetO C sp E) := by
  intro pins s σ H ov i v ou iu u Q I ro ri rv h
  obtain ⟨a, dx, fs, rfl, ea, q⟩ := h
  obtain rfl : ou = Value.ref a := ro
  obtain ⟨mA, O, _⟩ := ins_get I.hok ea
  obtain ⟨od, J, _⟩ := O.look
  obtain ⟨m0, Fm⟩ := I.fr
  refine PySem.W.ksp_setItem Fm I.ok.mod.kin J o.nq o.at_ o.fn (thn (wpAny_call (run_fnR (us := [.ref a, iu, u]) (vs := [.ref a, i, v]) F hr hx I (.cons rfl (.cons ri (.cons rv .nil))) q)) fun w s' hq => ?_)
  obtain ⟨z, H', I', rz, qz⟩ := hq
  exact ⟨H', I', qz⟩
end

/-! ### the rules that name K, for blocks of comprehensions (whose K is K) -/
section
variable {X : Cx} {K : PySem.W.Frag}
theorem ix_listK (e : X.K = K) : IxR X (rIxL K) := e ▸ ix_list
theorem ix_tupK (e : X.K = K) : IxR X (rIxT K) := e ▸ ix_tup
theorem sl_listK (e : X.K = K) : SlR X (rSlL K) := e ▸ sl_list
theorem sl_tupK (e : X.K = K) : SlR X (rSlT K) := e ▸ sl_tup
theorem op_catTK (e : X.K = K) : OpR X (binaryOp .Add) (rCatT K) := e ▸ op_catT
theorem op_in_seqK (e : X.K = K) : OpR X (compareOp .In) (rIn K false) := e ▸ op_in_seq
theorem op_notIn_seqK (e : X.K = K) : OpR X (compareOp .NotIn) (rIn K true) := e ▸ op_notIn_seq
theorem op_eqDK (e : X.K = K) (hu : X.A.units + 64 < cLine) : OpR X (compareOp .Eq) (rEqD K) := e ▸ op_eqD hu
theorem op_neDK (e : X.K = K) (hu : X.A.units + 64 < cLine) : OpR X (compareOp .NotEq) (rNeD K) := e ▸ op_neD hu
def rLn (K : PySem.W.Frag) : List V → Hp → VK → Prop := fun xs H Q => ∃ p ys, xs = [.ref p] ∧ (SqL K H p ys ∨ SqT K H p ys) ∧ Q (.int (List.length (α := V) ys : Nat)) H
theorem call_len_seqK (e : X.K = K) : CallR X (.builtin "len") (rLn K) := e ▸ call_len_seq
def rLo (K : PySem.W.Frag) : List V → Hp → VK → Prop := fun xs H Q => ∃ p ys, xs = [.ref p] ∧ (SqL K H p ys ∨ SqT K H p ys) ∧ ∀ l, H l = none → Q (.ref l) (upd H l (.lst ys))
theorem call_list_ofK (e : X.K = K) : CallR X (.type "list") (rLo K) := e ▸ call_list_of
theorem call_isiK' (e : X.K = K) : CallR X (.builtin "isinstance") (rIsi K) := e ▸ call_isi
theorem pe_fldK {e : Expr} {f : Str} {ta : TE} {pos : Pos} (ek : X.K = K) (he : PE X e ta) (hb : attributeBase e f X.env (eval e X.env) = eval e X.env) : PE X (.Attribute e f pos) (tFld K ta f) := ek ▸ pe_fld he hb
theorem pi_listK {l tg : Expr} {tl : TE} (e : X.K = K) (hl : PE X l tl) : PI X tg l (iList K tl) := e ▸ pi_list hl
theorem pi_tupK {l tg : Expr} {tl : TE} (e : X.K = K) (hl : PE X l tl) : PI X tg l (iTup K tl) := e ▸ pi_tup hl
end
end Hue

set_option Elab.async false
set_option linter.all false
set_option maxRecDepth 100000
set_option maxHeartbeats 4000000
/-! try .. except X as e: suite, where e is tracked as a value; defs called in such a suite; isinstance of such a value. -/
namespace Hue
open PySem PySem.Spec PyProof.Rows L2

/-- a caught error of the class cls at a, its own dict at d -/
def Exn (cls : Value) (d : Option Addr) (a : Addr) : HO := .ext fun h => ∃ (oe : Obj) (vs : Array Value), h.get? a = some oe ∧ Zc cls d oe ∧ oe.data = .fields vs
theorem exn_ok {P : Program} {w : World} {H : Hp} {h : Heap} {a : Addr} {cls : Value} {d : Option Addr} {oe : Obj} {vs : Array Value} (e : h.get? a = some oe) (z : Zc cls d oe) (q : oe.data = .fields vs) : ObjOk P w H h a (Exn cls d a) :=
  ⟨⟨oe, vs, e, z, q⟩, ⟨oe, e⟩, fun _ _ ⟨o, v, q, r⟩ k => ⟨o, v, k o q, r⟩⟩
section
variable {X : Cx} {pins : List (Addr × Obj)} {σ : L2.St} {H : Hp} {sI s s' : Shared} {B : Heap} {a : Addr}
theorem landedX {cls : Value} {d : Option Addr} {oe : Obj} {vs : Array Value} (I : Inv X pins σ H sI) (nb : ∀ b o, sI.heap.get? b = some o → b ∉ frs X.stack → B.get? b = some o) (st : B.StaysIn s'.heap) (up : sI.heap.UpToSlots s'.heap) (os : s'.os = sI.os) (ag : AllBare s'.gens)
    (hne : sI.heap.get? a = none) (na : H a = none) (e : s'.heap.get? a = some oe) (z : Zc cls d oe) (q : oe.data = .fields vs) : Inv X pins σ (upd H a (Exn cls d a)) s' := by
  have nf : ∀ b ∈ frs X.stack, ∀ o, sI.heap.get? b = some o → ∃ sl, s'.heap.get? b = some { o with slots := sl } := fun b hb o e => by
    obtain ⟨_, o', e', hd⟩ := I.stack.mem hb
    rw [e] at e'; cases e'
    exact up b o e hd
  have ne : ∀ b o, sI.heap.get? b = some o → b ≠ a := fun b o e z => by rw [z, hne] at e; cases e
  have hokS : HOk X.prog X.w H s'.heap := (I.inGround nb).kept st
  have J := I.call (ch := []) (h' := s'.heap) (g' := s'.gens) (t' := s'.toks) (d' := s'.drawn) (H' := upd H a (Exn cls d a))
    ⟨fun b o e _ hb _ => st b o (nb b o e hb), fun b o e _ hb _ => nf b hb o e, fun b o e n _ => by rw [upd_ne (ne b o e)]; exact n, fun b o e _ => by
      by_cases hb : b ∈ frs X.stack
      · obtain ⟨sl, q⟩ := nf b hb o e
        exact ⟨_, q⟩
      · exact ⟨o, st b o (nb b o e hb)⟩, fun b xs e => by rw [upd_ne (ne_of_none e na)]; exact e, fun b o u e => by rw [upd_ne (ne_of_none e na)]; exact e, fun b ps e => ⟨#[], by rw [upd_ne (ne_of_none e na), e]; simp⟩⟩
    (HOk.laidN hokS (fun _ _ z => z) na (exn_ok e z q)) ag (fun _ z => nomatch z)
  obtain ⟨a1, a2, a3, a4, a5⟩ := s'
  have e5 : a5 = sI.os := os
  subst e5
  exact J
theorem toSuite (I : Inv X pins σ H s) (a : Addr) : Inv (X.suite a (X.pn ++ pins)) [] σ H s :=
  ⟨I.ok.suite _ _, I.os, I.bare, I.base, I.loc, I.cell, I.free, I.freeC, fun p hp => I.pin p (by rw [List.append_nil] at hp; exact hp), I.hok, I.len⟩
theorem ofSuite {pn' : List (Addr × Obj)} (I : Inv (X.suite a (X.pn ++ pins)) pn' σ H s) (ok : X.Ok) : Inv X pins σ H s :=
  ⟨ok, I.os, I.bare, I.base, I.loc, I.cell, I.free, I.freeC, fun p hp => I.pin p (List.mem_append_left _ hp), I.hok, I.len⟩
end
/-- what the clause 'except x as n' wishes of an exception of the body -/
def wTry (K : PySem.W.Frag) (c : Value) (i : Nat) (ts : TS) (Wout : WX) (D : Ends) : WX := fun cls d σ H =>
  ∃ b, PySem.W.exmOne K cls c = some b ∧ (b = true → ∀ a, H a = none → ts { nx := fun σ' H' => D.nx (σ'.set i none) H', rt := D.rt, bk := fun σ' H' => D.bk (σ'.set i none) H', ct := fun σ' H' => D.ct (σ'.set i none) H' } (σ.set i (some (.ref a))) (upd H a (Exn cls d a))) ∧
    (b = false → Wout cls d σ H)
section
variable {X : Cx} {x n : Str} {c : Value} {i : Nat} {body suite : List Stmt} {b₀ : Stmt} {np pos pos' : Pos} {tb : WX → TS} {ts : TS} {Wout : WX}
theorem ps_try_val (hs : X.stack = X.env :: X.outer) (hf : X.env.frame = some X.env.locals) (hN : X.N.Nodup) (hi : X.N[i]? = some n) (hln : X.env.kindOf n = some .local) (hc : Names X x c) (tk : Takes X Wout)
    (hb : ∀ (W : WX) (pn : List (Addr × Obj)) (xe : Value → Shared → Prop), Takes (X.tr pn xe) W → PassesOwn (model X.prog X.w) X.A X.env xe → PSs (X.tr pn xe) body (tb W))
    (hsu : ∀ (a : Addr) (pn : List (Addr × Obj)), PSs (X.suite a pn) (b₀ :: suite) ts) :
    PS X (.Try body [.ExceptHandler (some (.Name x np)) (some n) (b₀ :: suite) pos'] [] [] pos) (fun D σ H => tb (wTry X.K c i ts Wout D) D σ H) := by
  refine ⟨fun pins s σ H D I h => ?_⟩
  have ok := I.ok
  have hfr : X.A.frames = some (X.env :: X.outer) := by rw [ok.frames, hs]
  have hloc : Loc X.env.scope n := .inl hln
  refine wpAny_Try_except ?_
  refine wpAny_mono ((hb (wTry X.K c i ts Wout D) (X.pn ++ pins) (fun e s₁ => wpAny (model X.prog X.w) X.A (noteFrame e X.env) (fun _ s₂ => wpAny (model X.prog X.w) X.A (setFlight e none) (fun _ s₃ =>
    wpAny (model X.prog X.w) X.A (handleBy e X.env [.ExceptHandler (some (.Name x np)) (some n) (b₀ :: suite) pos']) (SP X pins D) X.xe s₃) X.xe s₂) X.xe s₁) (fun u s' xx => ?_) PassesOwn.looking).run [] s σ H D (I.toTry _) h) (fun f s1 hsp => ?_) (fun e s1 he => he)
  · obtain ⟨a, B, sI, pins', σ', H', cls, d, rfl, J', nb, up, sky, na, os, ag, b, hb1, hyes, hno⟩ := xx
    have J : Inv X pins σ' H' sI := J'.ofTry ok
    have sky' : Sky B (X.env :: X.outer) a (Zc cls d) X.env.locals s'.heap := by rw [← hs]; exact sky
    show wpAny (model X.prog X.w) X.A (noteFrame (.ref a) X.env) _ _ _
    refine Sky.land Zc.steady hfr hf sky' fun h3 fl3 up3 => ?_
    have J3 : Inv X pins σ' H' { s' with heap := h3 } := J.landed nb fl3.1 (up.trans up3) os ag
    obtain ⟨oe3, vs3, he3, hz3, hd3⟩ := fl3.there
    have notFr : ∀ {h : Heap} {o : Obj} {vs : Array Value}, h.FunFrames B (X.env :: X.outer) → h.get? a = some o → o.data = .fields vs → a ∉ frs (X.env :: X.outer) := fun {h o vs} ff e dd hm => by
      obtain ⟨_, o', e', hnf⟩ := ff.mem hm
      rw [e] at e'; cases e'
      exact hnf _ dd
    have nfr := notFr fl3.2.2.1 he3 hd3
    have nI : sI.heap.get? a = none := by
      cases q : sI.heap.get? a with
      | none => rfl
      | some o =>
        have z := nb a o q (by rw [hs]; exact nfr)
        rw [fl3.2.1] at z
        cases z
    have S3 := toSuite J3 a
    refine wpAny_handleBy_cons (codeAny_handlers_test ?_) (by intro q; cases q)
    have LT : PySem.W.Looks (model X.prog X.w) h3 (typeOf (.ref a)) cls := fun A Q E s k q => wpAny_typeOf_ref (k _ _ he3) (by rw [hz3.1]; exact q)
    have LM := PySem.W.exm_one (M := model X.prog X.w) (J3.kIn) LT hb1
    have test : ∀ {Q : Value → Shared → Prop} {E : Value → Shared → Prop}, Q c { s' with heap := h3 } → wpAny (model X.prog X.w) (X.A.mark (some (.ref a))) (eval (.Name x np) X.env) Q E { s' with heap := h3 } := fun {Q E} q => by
      obtain ⟨hg, hdbg, hm | ⟨hm, hv, hnn⟩⟩ := hc
      · exact ld_glob (X := X.suite a (X.pn ++ pins)) S3 hg hm q hdbg
      · exact ld_blt (X := X.suite a (X.pn ++ pins)) S3 hg hm hv q hnn hdbg
    refine test (LM.here ?_)
    cases b with
    | true =>
      refine codeAny_handlers_suite_as ?_
      refine HandSPX.lands_againZ fl3 fun h4 fl4 up4 => ?_
      obtain ⟨oe4, vs4, he4, hz4, hd4⟩ := fl4.there
      have J4 : Inv X pins σ' (upd H' a (Exn cls d a)) { s' with heap := h4 } := landedX J nb fl4.1 ((up.trans up3).trans up4) os ag nI na he4 hz4 hd4
      have S4 := toSuite J4 a
      refine store_ok (X := X.suite a (X.pn ++ pins)) (v := .ref a) S4 hN hi hloc rfl (fun s5 S5 => ?_) (.inr hln)
      refine wpAny_mono ((hsu a (X.pn ++ pins)).run [] s5 _ _ _ S5 (hyes rfl a na)) (fun f s6 hsp => ?_) (fun _ _ z => False.elim z)
      have end_ : ∀ {σ6 : L2.St} {H6 : Hp} {Q : Shared → Prop}, Inv (X.suite a (X.pn ++ pins)) [] σ6 H6 s6 → (∀ s7, Inv X pins (σ6.set i none) H6 s7 → Q s7) →
          wpAny (model X.prog X.w) X.A (do bindName X.env n .none; unbindBehindTheSuite X.env n pos') (fun _ s7 => Q s7) X.xe s6 := fun {σ6 H6 Q} S6 hq => gone_ok (ofSuite S6 ok) hN hi hln hq
      cases f with
      | next =>
        obtain ⟨σ6, H6, S6, q6⟩ := hsp
        exact end_ S6 fun s7 J7 => ⟨_, _, J7, q6⟩
      | brk =>
        obtain ⟨σ6, H6, S6, q6⟩ := hsp
        exact end_ S6 fun s7 J7 => ⟨_, _, J7, q6⟩
      | cont =>
        obtain ⟨σ6, H6, S6, q6⟩ := hsp
        exact end_ S6 fun s7 J7 => ⟨_, _, J7, q6⟩
      | ret u =>
        obtain ⟨v6, σ6, H6, S6, r6, q6⟩ := hsp
        exact end_ S6 fun s7 J7 => ⟨_, _, _, J7, r6, q6⟩
    | false =>
      show wpAny _ X.A (handleBy (.ref a) X.env []) _ _ _
      refine wpAny_handleBy_nil ?_
      obtain ⟨k1, k2, k3, oe, vs, T, oT, ts', he, hz, hd, h1, hr⟩ := id fl3
      unfold PySem.passOn
      refine wpAny_bind (wpAny_field he hd h1 ?_)
      rw [if_neg (show ¬ ((Value.ref T == Value.none) = true) from by simp)]
      have fin : wpAny (model X.prog X.w) X.A (setFlight (.ref a) X.env.frame) (fun _ s4 => wpAny (model X.prog X.w) X.A (throw (.ref a) : Sem Flow) (SP X pins D) X.xe s4) X.xe { s' with heap := h3 } := by
        rw [hf]
        refine HandSPX.setFlight_upZ fl3 fun h4 hh4 up4 => wpAny_throw (tk _ _ ?_)
        exact ⟨a, B, sI, pins, σ', H', cls, d, rfl, J, nb, (up.trans up3).trans up4, .inr (.inr (by rw [hs]; exact hh4)), na, os, ag, hno rfl⟩
      first
        | exact wpAny_bind (wpAny_pure (wpAny_bind fin))
        | exact wpAny_bind fin
  · cases f with
    | next =>
      obtain ⟨σ', H', J', q⟩ := hsp
      exact wpAny_execs_nil ⟨σ', H', J'.ofTry ok, q⟩
    | brk =>
      obtain ⟨σ', H', J', q⟩ := hsp
      exact ⟨σ', H', J'.ofTry ok, q⟩
    | cont =>
      obtain ⟨σ', H', J', q⟩ := hsp
      exact ⟨σ', H', J'.ofTry ok, q⟩
    | ret u =>
      obtain ⟨v, σ', H', J', r, q⟩ := hsp
      exact ⟨v, σ', H', J'.ofTry ok, r, q⟩
end
/-- no exception leaves: nothing is asked of Wout -/
theorem takes0 {X : Cx} : Takes X (fun _ _ _ _ => False) := fun _ _ ⟨_, _, _, _, _, _, _, _, _, _, _, _, _, _, _, _, w⟩ => w.elim
/-- a call in a try's body: what it may let out is wished of all slots -/
def eT (n : Nat) (W : WX) : XK := fun cls d H => ∀ σ : L2.St, σ.length = n → W cls d σ H
theorem passT {X : Cx} {W : WX} {N : List Str} (tk : Takes X W) (hN : X.N = N) : Passes (L2.CX X.prog X.w) X (eT N.length W) :=
  fun _ σ _ _ e s' I c => tk e s' (XE.of_call I (fun _ _ _ h => h σ (by rw [← hN]; exact I.len)) c)

/-! ### defs called in an except suite -/
def cxS (P : Program) (w : World) (K : PySem.W.Frag) (mg : Str → Option Value) (base : Heap) (N : List Str) (qual : Str) (scope : Scope) (f : Addr) (cd : Value) (A : Around) (outer : List Env) (s : Shared) (H : Hp) (E : XK) : Cx :=
  { cxOf CX0 P w K mg base N qual scope f cd A outer s H E with calm := false, xe := fun _ _ => False }
structure FnS (P : Program) (w : World) (K : PySem.W.Frag) (mg : Str → Option Value) (base : Heap) (k : Nat) (f : Addr) (fd : FuncData) (ps : List Str) (sp : Sp) : Prop where
  len : ∀ vs H Q E, sp vs H Q E → vs.length = ps.length
  run : ∀ (A : Around) (outer : List Env) (s : Shared) (H : Hp) (args : Args) (us : List Value) (vs : List V) (Q : VK) (E : XK), L2H.RoomH k A → Env0 P w K mg base A outer s H → BindsTo s fd args (ps.zip us) → Vals vs us → sp vs H Q E →
    codeAny (model P w) A (.call (.ref f) args) (CR CX0 outer P w H s Q E) s
theorem roomS {k : Nat} {A : Around} {v : Option Value} (r : Room k A) : L2H.RoomH k (A.mark v) := ⟨r.dp, r.un⟩
theorem inv_startS {P : Program} {w : World} {K : PySem.W.Frag} {mg : Str → Option Value} {base : Heap} {N ps : List Str} {qual : Str} {scope : Scope} {f : Addr} {cd : Value} {A : Around} {outer : List Env} {s s1 : Shared} {H : Hp} {E : XK} {us : List Value} {vs : List V}
    (S : FnScope N ps scope) (e0 : Env0 P w K mg base A outer s H) (hl : vs.length = ps.length) (r : Vals vs us)
    (x : InCallC s s.heap.objs.size (bindL (envOfC qual scope s.heap.objs.size f cd).kindOf (ps.zip us) fun _ => none) (cellsFrom (s.heap.objs.size + 1) scope.names []) (bindC (envOfC qual scope s.heap.objs.size f cd).kindOf (ps.zip us) fun _ => none) s1) :
    Inv (cxS P w K mg base N qual scope f cd A outer s H E) [] (L2.start N vs) H s1 := by
  have hpl : ps.length ≤ N.length := by have := congrArg List.length S.pre; rw [List.length_take] at this; omega
  obtain ⟨h1, tk, rfl, hk⟩ := x.done
  have noA : ∀ b : Addr, b ∉ (cxS P w K mg base N qual scope f cd A outer s H E).ex := fun b z => absurd (show b ∈ ([] : List Addr) from z) (by simp)
  refine ⟨⟨e0.mod, S.kind, rfl, rfl, Nat.le_refl _, fun y z c h1 h2 => ?_, fun y hy => ?_, fun y c _ h => ?_, (fun z => Bool.noConfusion (show false = true from z)), Around.frames_deeper e0.frames, .inr ⟨rfl, rfl⟩, fun b z => absurd z (noA b), e0.bs, e0.bsz, fun b _ _ => noA b, fun b z => absurd z (noA b), e0.funs, e0.frf⟩,
    rfl, e0.bare, Un.kept hk, ⟨_, x.toInCall.ns, fun i y v h1 h2 h3 => ?_⟩, fun y c h => ⟨_, x.cell y c h⟩, e0.hok.fresh (Nat.le_refl _), fun y c h => ?_, fun q hq => ?_, e0.hok.kept hk, ?_⟩
  · exact name_of_addr x.apart (PySem.mem_of_lookup h1) (PySem.mem_of_lookup h2)
  · have hy : scope.names.lookup y = some .cell ∨ scope.names.lookup y = some .free := hy
    rcases hy with hy | hy
    · exact cell_has hy
    · exact absurd rfl (S.nofree _ (PySem.mem_of_lookup hy))
  · exact Nat.le_of_lt (x.above y c (PySem.mem_of_lookup h))
  · have hi : i < vs.length := by
      unfold L2.start at h2
      by_cases hi : i < vs.length
      · exact hi
      · rw [List.getElem?_append_right (by simpa using hi)] at h2
        rw [List.getElem?_replicate] at h2
        split at h2 <;> cases h2
    have ha : vs[i]? = some v := by
      unfold L2.start at h2
      rw [List.getElem?_append_left (by simpa using hi), List.getElem?_map] at h2
      cases e : vs[i]? with
      | none => rw [e] at h2; cases h2
      | some a => rw [e] at h2; cases h2; rfl
    obtain ⟨u, hu, rv⟩ := r.get ha
    have hp : ps[i]? = some y := by
      rw [← S.pre, List.getElem?_take_of_lt (by omega)]; exact h1
    have ndP : ps.Nodup := by rw [← S.pre]; exact S.nd.sublist (List.take_sublist _ _)
    refine ⟨u, rv, ?_⟩
    rcases S.par y (List.mem_of_getElem? hp) with k | k
    · exact .inl ⟨k, bindL_get ndP hp hu k⟩
    · obtain ⟨c, e⟩ := cell_has (n := s.heap.objs.size + 1) k
      refine .inr ⟨.inl k, c, e, ?_⟩
      have q := x.cell y c e
      rw [bindC_get ndP hp hu (by show scope.names.lookup y ≠ _; rw [k]; decide)] at q
      exact q
  · exact e0.hok.fresh (Nat.le_of_lt (x.above y c (PySem.mem_of_lookup h)))
  · exact absurd (show q ∈ ([] : List (Addr × Obj)) ++ ([] : List (Addr × Obj)) from hq) (by simp)
  · unfold L2.start
    show _ = N.length
    rw [List.length_append, List.length_map, List.length_replicate]
    omega
theorem fnS_of {P : Program} {w : World} {K : PySem.W.Frag} {mg : Str → Option Value} {base : Heap} {k : Nat} {f : Addr} {fd : FuncData} {name qual : Str} {params : Arguments} {body : List Stmt} {scope : Scope} {dvs : List V} {kws : List (Str × V)}
    {N ps : List Str} {sp : Sp} (F : FunD K name qual params body scope dvs kws f fd) (S : FnScope N ps scope)
    (len : ∀ vs H Q E, sp vs H Q E → vs.length = ps.length)
    (hbody : ∀ (cdv : Value) (A : Around) (outer : List Env) (s : Shared) (H : Hp) (vs : List V) (Q : VK) (E : XK), L2H.RoomH k (A.deeper (envOfC qual scope s.heap.objs.size f cdv)) → sp vs H Q E →
      ∃ t, PSs (cxS P w K mg base N qual scope f cdv A outer s H E) body t ∧ t { nx := fun _ H' => Q .non H', rt := Q } (L2.start N vs) H) :
    FnS P w K mg base (k + 1) f fd ps sp := by
  obtain ⟨oc, od, dV, kV, doc, pm, an, cdv, ct, osl, rfl, lk, hcd, _, _⟩ := F.ex
  refine ⟨len, fun A outer s H args us vs Q E hr e0 hb r hsp => ?_⟩
  have hl := len _ _ _ _ hsp
  have KX : K.In s.heap := e0.mod.kin.keeps fun b o e => (e0.bs b o e).1
  have lim : s.heap.NoLimit := e0.mod.nolimit.keeps fun b o e => (e0.bs b o e).1
  have hkind : ∀ y ∈ ps.zip us, scope.names.lookup y.1 = some .local ∨ (scope.names.lookup y.1 = some .cell ∧ ((cellsFrom (s.heap.objs.size + 1) scope.names []).lookup y.1).isSome = true) := fun ⟨n, v⟩ hy => by
    rcases S.par n (List.of_mem_zip hy).1 with q | q
    · exact .inl q
    · exact .inr ⟨q, PySem.W.cellsFrom_some _ _ _ (.inl q)⟩
  refine codeAny_call_function hr.depth (KX _ _ lk) rfl S.co S.gen rfl (PySem.W.codeRec_of KX hcd) (hb _ _ _ _ ?_)
  refine wpAny_newFunctionEnv_cells S.kind hkind fun env he s1 x => ?_
  subst he
  refine ⟨lim.keeps x.toInCall.keep, codeAny_func ?_⟩
  obtain ⟨t, ht, hq⟩ := hbody cdv A outer s H vs Q E (hr.deeper _) hsp
  have I : Inv (cxS P w K mg base N qual scope f cdv A outer s H E) [] (L2.start N vs) H s1 := inv_startS S e0 hl r x
  refine wpAny_mono (ht.run [] s1 (L2.start N vs) H _ I hq) (fun fl s' hs => ?_) fun e s' hs => False.elim hs
  have fin : ∀ {σ' : L2.St} {H' : Hp} {v : V} {u : Value}, Inv (cxS P w K mg base N qual scope f cdv A outer s H E) [] σ' H' s' → RelV v u → Q v H' → CE outer P w H s Q u s' :=
    fun {σ' H' v u} J rv q => ⟨v, H', J.os, J.bare, J.base, J.hok, rv, q⟩
  cases fl with
  | ret u =>
    obtain ⟨v, σ', H', J, rv, q⟩ := hs
    exact fin J rv q
  | next =>
    obtain ⟨σ', H', J, q⟩ := hs
    exact fin (v := V.non) (u := Value.none) J rfl q
  | brk =>
    obtain ⟨_, _, _, q⟩ := hs
    exact False.elim q
  | cont =>
    obtain ⟨_, _, _, q⟩ := hs
    exact False.elim q
section
variable {X : Cx} {k : Nat} {f C : Addr} {fd : FuncData} {ps : List Str} {sp : Sp} {E : XK} {x m : Str} {q pos apos : Pos} {e o : Expr} {es : List Expr} {ta : TE} {t : TA}
theorem run_fnX {pins : List (Addr × Obj)} {σ : L2.St} {H : Hp} {s : Shared} {Q : VK} {us : List Value} {vs : List V} (F : FnS X.prog X.w X.K X.mg X.base k f fd ps sp) (hr : L2H.RoomH k X.A) (hb : Binds X.K fd ps [])
    (I : Inv X pins σ H s) (r : Vals vs us) (h : sp vs H Q E) : wpAny (model X.prog X.w) X.A (call (.ref f) us) (EP X pins σ Q) X.xe s := by
  have hl : us.length = ps.length := by rw [← r.length]; exact F.len _ _ _ _ h
  have b := hb s us I.kIn (by rw [List.append_nil]; exact hl)
  rw [List.append_nil] at b
  refine wpAny_call (codeAny_mono (F.run X.A X.stack s H ⟨us, []⟩ us vs Q E hr I.env0 b r h) fun r s' hq => ?_)
  cases r with
  | error e => exact hq.elim
  | ok fl =>
    cases fl with
    | ret u => exact I.after hq
    | next => exact False.elim hq
    | brk => exact False.elim hq
    | cont => exact False.elim hq
theorem pe_callX (F : FnS X.prog X.w X.K X.mg X.base k f fd ps sp) (hr : L2H.RoomH k X.A) (hg : Gl X x) (hm : X.mg x = some (.ref f)) (hk : PySem.W.keepIn X.K (.ref f) = true) (hb : Binds X.K fd ps [])
    (ha : PA X (e :: es) t) (hdb : (x == ("__debug__" : Str)) = false := by decide) (he : starEach (e :: es) X.env = (false, eval e X.env) :: starEach es X.env := by rfl) (hpl : (backTo pos (starEach es X.env)).any (·.1) = false := by rfl) :
    PE X (.Call (.Name x q) (e :: es) [] pos) (fun σ H Q => t σ H fun vs H1 => sp vs H1 Q E0) := by
  refine ⟨fun pins s σ H Q I h => ?_⟩
  refine wpAny_Call_Name_kw (ld_glob I hg hm ?_ hdb)
  refine PySem.W.callWith_K (h₀ := X.base) I.ok.mod.kin hk (thn (ha.run pos pins s σ H _ I h) fun us s1 ⟨vs, H1, I1, r, q⟩ => ⟨I1.kIn, ?_⟩) he hpl
  exact run_fnX F hr hb I1 r q
end

/-! ### isinstance of a caught error -/
/-- isinstance(e, c) -/
def rIsX (K : PySem.W.Frag) (D : Addr) : List V → Hp → VK → Prop := fun xs H Q => ∃ (a : Addr) (c : V) (u : Value) (b : Bool), xs = [.ref a, c] ∧ H a = some (Exn (.ref D) none a) ∧ ClsV c u ∧ PySem.W.kitOne K (.ref D) u = some b ∧ Q (.bl b) H
def rIsXT (K : PySem.W.Frag) (D : Addr) : List V → Hp → VK → Prop := fun xs H Q => ∃ (a tp : Addr) (cs : List V) (us : List Value) (b : Bool), xs = [.ref a, .ref tp] ∧ H a = some (Exn (.ref D) none a) ∧ H tp = some (.tup cs) ∧ Paired ClsV cs us ∧ PySem.W.kitAny K (.ref D) us = some b ∧ Q (.bl b) H
section
variable {X : Cx} {D : Addr} {pins : List (Addr × Obj)} {σ : L2.St} {H : Hp} {s : Shared}
theorem exn_at {a : Addr} {cls : Value} {d : Option Addr} (I : Inv X pins σ H s) (h : H a = some (Exn cls d a)) : ∃ (oe : Obj) (vs : Array Value), s.heap.get? a = some oe ∧ Zc cls d oe ∧ oe.data = .fields vs := (I.hok a _ h).1
theorem exn_inst {a : Addr} (I : Inv X pins σ H s) (h : H a = some (Exn (.ref D) none a)) : ∃ oe, PySem.W.InstAt s.heap a oe D none := by
  obtain ⟨oe, vs, hget, hz, hv⟩ := exn_at I h
  refine ⟨oe, ?_⟩
  obtain ⟨oc, od, oda, osl⟩ := oe
  obtain ⟨h1, h2⟩ := hz
  dsimp only at h1 h2 hv
  subst h1 h2 hv
  exact ⟨hget, rfl, rfl, trivial⟩
theorem call_isX (C : ExcC X.K D) : CallR X (.builtin "isinstance") (rIsX X.K D) := by
  intro pins s σ H xs us Q I r h
  obtain ⟨a, c, u, b, rfl, ha, hcv, e, q⟩ := h
  obtain ⟨u1, u2, rfl, r1, r2⟩ := vals2 r
  obtain rfl : u1 = Value.ref a := r1
  have ec := hcv.eq r2
  subst ec
  obtain ⟨oe, J⟩ := exn_inst I ha
  exact PySem.W.kia_one (PySem.W.handS_kitx_exc C.hg C.hk C.hs C.hd C.ha C.hn C.ht C.hm) I.kIn J e (fun z => nomatch z) fun tk => ⟨.bl b, H, I.tok tk, rfl, q⟩
theorem call_isXT (C : ExcC X.K D) : CallR X (.builtin "isinstance") (rIsXT X.K D) := by
  intro pins s σ H xs us Q I r h
  obtain ⟨a, tp, cs, ws, b, rfl, ha, hT, k, e, q⟩ := h
  obtain ⟨u1, u2, rfl, r1, r2⟩ := vals2 r
  obtain rfl : u1 = Value.ref a := r1
  cases (show u2 = Value.ref tp from r2)
  obtain ⟨oe, J⟩ := exn_inst I ha
  obtain ⟨_, its, rv, o, h1, h2, n, h3⟩ := (show ObjOk X.prog X.w H s.heap tp (.tup cs) from I.hok tp _ hT)
  have e3 := ClsV.all k rv
  subst e3
  obtain ⟨oc, od, dt, sl⟩ := o
  simp only at h2 h3
  subst h2 h3
  exact PySem.W.kia_tup (PySem.W.handS_kitx_exc C.hg C.hk C.hs C.hd C.ha C.hn C.ht C.hm) I.kIn J h1 e (fun z => nomatch z) fun tk => ⟨.bl b, H, I.tok tk, rfl, q⟩
end
/-! ### own == and its reflection; str(o) -/
section
variable {prog : Program} {w : World} {A : Around} {E : Value → Shared → Prop} {s : Shared} {K : PySem.W.Frag} {y C f : Addr} {oy : Obj} {od : Option Obj} {h₀ : Heap} {L : Addr} {m : Str → Option Value} {x : Value}
theorem decl_none {Q : Value → Shared → Prop} (h : Q .notImplemented s) : wpAny (model prog w) A (call (.builtin "NoneType.__eq__") [.none, .ref y]) Q E s :=
  call_gives F.slot_NoneType_eq_refl rfl F.entry_NoneType_eq (F.args_NoneType_eq_2 _ _) (PySem.SeqAt.NoneType___eq___none_ref_0 y) h
theorem decl_str {z : Str} {t : Tok} {Q : Value → Shared → Prop} (hg : s.heap.get? y = some oy) (hp : oy.data = .plain) (h : Q .notImplemented s) : wpAny (model prog w) A (call (.builtin "str.__eq__") [.str z t, .ref y]) Q E s := by
  refine GQ.call_here F.slot_str_eq (typeIs_str s z t) F.entry_str_eq (F.args_str_eq_2 _ _) ?_
  obtain ⟨c, d, dt, sl⟩ := oy
  dsimp only at hp
  subst hp
  obtain ⟨hp, g, d, tk, os⟩ := s
  wp_walk
  exact h
theorem decl_tup {l : Addr} {Q : Value → Shared → Prop} (hT : s.TypeIs (.ref l) "tuple") (X : K.In s.heap) (I : PySem.W.InstAt s.heap y oy C od) (hs : PySem.W.subIn K (.ref C) (.type "tuple") = some false) (h : Q .notImplemented s) :
    wpAny (model prog w) A (call (.builtin "tuple.__eq__") [.ref l, .ref y]) Q E s := by
  refine GQ.call_here F.slot_tuple_eq hT F.entry_tuple_eq (F.args_tuple_eq_2 _ _) ?_
  have LI : PySem.W.Looks (model prog w) s.heap (isInstance (.ref y) (.type "tuple")) false := I.type.andThen (PySem.W.looks_subIn X hs)
  obtain ⟨hp, g, d, tk, os⟩ := s
  wp_walk using LI.here
  exact h
theorem decl_lst {l : Addr} {Q : Value → Shared → Prop} (hT : s.TypeIs (.ref l) "list") (X : K.In s.heap) (I : PySem.W.InstAt s.heap y oy C od) (hs : PySem.W.subIn K (.ref C) (.type "list") = some false) (h : Q .notImplemented s) :
    wpAny (model prog w) A (call (.builtin "list.__eq__") [.ref l, .ref y]) Q E s := by
  refine GQ.call_here F.slot_list_eq hT F.entry_list_eq (F.args_list_eq_2 _ _) ?_
  have LI : PySem.W.Looks (model prog w) s.heap (isInstance (.ref y) (.type "list")) false := I.type.andThen (PySem.W.looks_subIn X hs)
  obtain ⟨hp, g, d, tk, os⟩ := s
  wp_walk using LI.here
  exact h
theorem rc_refl {T id : String} {Q : Value → Shared → Prop} (hu : A.units < cLine) (Fm : PyProof.Rows.Fr h₀ L s.heap m) (X₀ : K.In h₀) (I : PySem.W.InstAt s.heap y oy C od) (hT : s.TypeIs x T) (slot : Slot T "__eq__" id)
    (hd : ∀ Q : Value → Shared → Prop, Q .notImplemented s → wpAny (model prog w) A (call (.builtin id) [x, .ref y]) Q E s) (hsub : PySem.W.subIn K (.ref C) (.type T) = some false)
    (hs : PySem.W.findIn K (.ref C) "__eq__" = some (some (.ref f))) (hf : PySem.W.isFn K (.ref f) = true)
    (h : wpAny (model prog w) A (call (.ref f) [.ref y, x]) (PySem.W.CmpBack Q) E s) : wpAny (model prog w) A (richCompare .Eq x (.ref y)) Q E s := by
  have X := X₀.keeps Fm.keep
  have one : wpAny (model prog w) A (tryCompare x "__eq__" (.ref y)) (fun r s' => r = none ∧ s' = s) E s := wpAny_tryCompare_declines hT slot (hd _ ⟨rfl, rfl, rfl⟩)
  have two : wpAny (model prog w) A (tryCompare (.ref y) "__eq__" x) (fun r s' => ∃ v, r = some v ∧ Q v s') E s := by
    unfold tryCompare
    refine wpAny_bind (PySem.W.ifBound_K X I hs hf (wpAny_mono h (fun v s' hv => ?_) fun _ _ e => e))
    cases v <;> first | exact hv.elim | exact wpAny_pure ⟨_, rfl, hv⟩
  simp only [richCompare, cmpInfo_Eq, hT.oneThing_none]
  refine wpAny_holding (wpAny_bind (wpAny_cRoomFor hu ?_))
  refine wpAny_bind (wpAny_typeOf hT ?_)
  refine wpAny_bind (I.type.here ?_)
  split
  · refine wpAny_bind ((PySem.W.looks_subIn X hsub).here ?_)
    simp only [Bool.false_eq_true, if_false, Bool.not_false, if_true]
    refine wpAny_bind (m := tryCompare x _ (.ref y)) (wpAny_mono one (fun r s1 z => ?_) fun _ _ e => e)
    obtain ⟨z1, z2⟩ := z
    subst z1
    subst z2
    refine wpAny_bind (m := tryCompare (.ref y) _ x) (wpAny_mono two (fun r s2 z => ?_) fun _ _ e => e)
    obtain ⟨v, rfl, hq⟩ := z
    exact wpAny_pure hq
  · rename_i q
    exact absurd (by simp) q
end
theorem excC_ok {K : PySem.W.Frag} {D : Str} (c : (Fx.excC D).ok K = true) : ExcC K (gad D K) := by
  obtain ⟨c1, c⟩ := He.ba c
  obtain ⟨c2, c⟩ := He.ba c
  obtain ⟨c3, c⟩ := He.ba c
  obtain ⟨c4, c⟩ := He.ba c
  obtain ⟨c5, c⟩ := He.ba c
  obtain ⟨c6, c⟩ := He.ba c
  obtain ⟨c7, c8⟩ := He.ba c
  exact ⟨He.eqO_ok c1, He.eqO_ok c2, of_decide_eq_true c3, c4, He.eqO_ok c5, He.eqO_ok c6, of_decide_eq_true c7, of_decide_eq_true c8⟩
/-- o == y, o an own instance with an own ==, y no instance of a class below -/
def rEqO (K : PySem.W.Frag) (C : Addr) (sp : Sp) (E : XK) : R2 := fun x y H Q => ∃ a dx fs t, x = .ref a ∧ H a = some (.ins C dx fs) ∧ TyX K H y t ∧ PySem.W.notFirst K C t = true ∧ sp [x, y] H Q E
/-- x == o, x None, a text, a tuple or a list -/
def rEqR (K : PySem.W.Frag) (C : Addr) (sp : Sp) (E : XK) : R2 := fun x y H Q => ∃ a dx fs, y = .ref a ∧ H a = some (.ins C dx fs) ∧ (x = .non ∨ (∃ z, x = .str z) ∨ ∃ p xs, x = .ref p ∧ (SqT K H p xs ∨ SqL K H p xs)) ∧ sp [y, x] H Q E
def rStrO (C : Addr) (sp : Sp) (E : XK) : List V → Hp → VK → Prop := fun xs H Q => ∃ a dx fs, xs = [.ref a] ∧ H a = some (.ins C dx fs) ∧ sp [.ref a] H (fun v H' => ∃ z : Str, v = .str z ∧ Q (.str z) H') E
/-- the class at C has no base among None's, texts', tuples', lists' types -/
structure NoSubs (K : PySem.W.Frag) (C : Addr) : Prop where
  non : PySem.W.subIn K (.ref C) (.type "NoneType") = some false
  str : PySem.W.subIn K (.ref C) (.type "str") = some false
  tup : PySem.W.subIn K (.ref C) (.type "tuple") = some false
  lst : PySem.W.subIn K (.ref C) (.type "list") = some false
section
variable {X : Cx} {CX : CXT} {k : Nat} {C f : Addr} {sp : Sp} {E : XK}
theorem op_eqO (o : OwnM X.K C "__eq__" f) (F : FnR X.prog X.w X.K X.mg X.base CX k f sp) (hr : Room k X.A) (hx : Passes CX X E) : OpR X (compareOp .Eq) (rEqO X.K C sp E) := by
  intro pins s σ H x y v u Q I rx ry h
  obtain ⟨a, dx, fs, t, rfl, ea, ty, nf, q⟩ := h
  obtain rfl : v = Value.ref a := rx
  obtain ⟨mA, O, _⟩ := ins_get I.hok ea
  obtain ⟨od, J, _⟩ := O.look
  obtain ⟨m0, Fm⟩ := I.fr
  obtain ⟨P, Z, p, _⟩ := kit_of I ry ty
  show wpAny (model X.prog X.w) X.A (richCompare .Eq (.ref a) u) (EP X pins σ Q) X.xe s
  refine PySem.W.cmp_K (op := .Eq) (tb := t) hr.units0 Fm I.ok.mod.kin J (Z.ty _ _ I.kIn p) nf o.at_ o.fn ?_
  refine thn (wpAny_call (run_fnR (us := [.ref a, u]) (vs := [.ref a, y]) F hr hx I (.cons rfl (.cons ry .nil)) q)) fun w s' z => ?_
  obtain ⟨z', H', I', rz, qz⟩ := z
  exact SlX.cmpback rz ⟨z', H', I', rz, qz⟩
theorem op_eqR (o : OwnM X.K C "__eq__" f) (n : NoSubs X.K C) (F : FnR X.prog X.w X.K X.mg X.base CX k f sp) (hr : Room k X.A) (hx : Passes CX X E) : OpR X (compareOp .Eq) (rEqR X.K C sp E) := by
  intro pins s σ H x y v u Q I rx ry h
  obtain ⟨a, dx, fs, rfl, ea, hx', q⟩ := h
  obtain rfl : u = Value.ref a := ry
  obtain ⟨mA, O, _⟩ := ins_get I.hok ea
  obtain ⟨od, J, _⟩ := O.look
  obtain ⟨m0, Fm⟩ := I.fr
  have fin : ∀ {x : V} {v : Value}, RelV x v → sp [.ref a, x] H Q E → wpAny (model X.prog X.w) X.A (call (.ref f) [.ref a, v]) (PySem.W.CmpBack (EP X pins σ Q)) X.xe s := fun {x v} rx q => by
    refine thn (wpAny_call (run_fnR (us := [.ref a, v]) (vs := [.ref a, x]) F hr hx I (.cons rfl (.cons rx .nil)) q)) fun w s' z => ?_
    obtain ⟨z', H', I', rz, qz⟩ := z
    exact SlX.cmpback rz ⟨z', H', I', rz, qz⟩
  show wpAny (model X.prog X.w) X.A (richCompare .Eq v (.ref a)) (EP X pins σ Q) X.xe s
  rcases hx' with rfl | ⟨z, rfl⟩ | ⟨p, xs, rfl, hS | hS⟩
  · obtain rfl : v = Value.none := rx
    exact rc_refl (T := "NoneType") hr.units0 Fm I.ok.mod.kin J rfl PySem.F.slot_NoneType_eq_refl (fun _ h => decl_none h) n.non o.at_ o.fn (fin (x := .non) rfl q)
  · obtain ⟨t, rfl⟩ := rx
    exact rc_refl (T := "str") hr.units0 Fm I.ok.mod.kin J (typeIs_str s z t) PySem.F.slot_str_eq (fun _ h => decl_str J.1 rfl h) n.str o.at_ o.fn (fin (x := .str z) ⟨t, rfl⟩ q)
  · obtain rfl : v = Value.ref p := rx
    obtain ⟨its, r, e, z⟩ := I.tuple hS
    have hT : s.TypeIs (.ref p) "tuple" := by
      obtain ⟨o1, ho, hc, _⟩ := e
      exact ⟨o1, ho, hc⟩
    exact rc_refl (T := "tuple") hr.units0 Fm I.ok.mod.kin J hT PySem.F.slot_tuple_eq (fun _ h => decl_tup hT I.kIn J n.tup h) n.tup o.at_ o.fn (fin (x := .ref p) rfl q)
  · obtain rfl : v = Value.ref p := rx
    obtain ⟨its, r, pl, hz⟩ := I.list hS
    obtain ⟨o1, ho, hc, n1, hd⟩ := pl.isList
    have hT : s.TypeIs (.ref p) "list" := ⟨o1, ho, hc⟩
    exact rc_refl (T := "list") hr.units0 Fm I.ok.mod.kin J hT PySem.F.slot_list_eq (fun _ h => decl_lst hT I.kIn J n.lst h) n.lst o.at_ o.fn (fin (x := .ref p) rfl q)
theorem run_in2 {pins : List (Addr × Obj)} {σ : L2.St} {H : Hp} {s : Shared} {Q : VK} {us : List Value} {vs : List V} (F : FnR X.prog X.w X.K X.mg X.base CX k f sp) (hr : Room (k + 2) X.A) (hx : Passes CX X E) (I : Inv X pins σ H s) (r : Vals vs us) (h : sp vs H Q E) :
    wpAny (model X.prog X.w) X.A.in1.in1 (call (.ref f) us) (EP X pins σ Q) X.xe s := by
  refine wpAny_call (codeAny_mono (F X.A.in1.in1 X.stack s H us vs Q E (show Room (k + 1) X.A.in1 from hr.in1).in1 I.env0.in1.in1 r h) fun r s' hq => ?_)
  cases r with
  | error e => exact hx pins σ H s e s' I hq
  | ok fl =>
    cases fl with
    | ret u => exact I.after hq
    | next => exact False.elim hq
    | brk => exact False.elim hq
    | cont => exact False.elim hq
theorem call_strO (o : OwnM X.K C "__str__" f) (F : FnR X.prog X.w X.K X.mg X.base CX k f sp) (hr : Room (k + 2) X.A) (hx : Passes CX X E) : CallR X (.type "str") (rStrO C sp E) := by
  intro pins s σ H xs us Q I r h
  obtain ⟨a, dx, fs, rfl, ea, q⟩ := h
  obtain ⟨u, rfl, ru⟩ := vals1 r
  obtain rfl : u = Value.ref a := ru
  obtain ⟨mA, O, _⟩ := ins_get I.hok ea
  obtain ⟨od, J, _⟩ := O.look
  have hu : X.A.in1.in1.units < cLine := (show Room k X.A.in1.in1 from (show Room (k + 1) X.A.in1 from hr.in1).in1).units0
  refine PySem.W.kso_call hu I.kIn J o.at_ o.fn (thn (run_in2 (us := [.ref a]) (vs := [.ref a]) F hr hx I (.cons rfl .nil) q) fun u s' hq => ?_)
  obtain ⟨z', H', I', rz, z, rfl, qz⟩ := hq
  obtain ⟨t, rfl⟩ := rz
  exact ⟨.str z, H', I', ⟨t, rfl⟩, qz⟩
end
/-! ### C(e, ..) where slot i holds the class -/
def tMakeL (i : Nat) (C : Addr) (sp : Sp) (E : XK) (t : TA) : TE := fun σ H Q => σ[i]? = some (some (.ref C)) ∧ tMake C sp [] E t σ H Q
theorem pe_makeLp {X : Cx} {CX : CXT} {k i : Nat} {f C : Addr} {fd : FuncData} {ps : List Str} {sp : Sp} {E : XK} {x : Str} {e : Expr} {es : List Expr} {t : TA} {p pos : Pos} (M : Mk X.K C f) (F : FnOk X.prog X.w X.K X.mg X.base CX k f fd ps sp) (hr : Room (k + 1) X.A)
    (hN : X.N[i]? = some x) (hv : Vis X.env.scope x) (hb : Binds X.K fd ps []) (hx : Passes CX X E) (ha : PA X (e :: es) t)
    (hd : (x == ("__debug__" : Str)) = false := by decide) (hcd : (x == ("__classdict__" : Str)) = false := by decide) (he : starEach (e :: es) X.env = (false, eval e X.env) :: starEach es X.env := by rfl) (hpl : (backTo pos (starEach es X.env)).any (·.1) = false := by rfl) :
    PE X (.Call (.Name x p) (e :: es) [] pos) (tMakeL i C sp E t) := by
  refine ⟨fun pins s σ H Q I h => ?_⟩
  obtain ⟨hs, h⟩ := h
  refine wpAny_Call_Name_kw (thn ((pe_var (pos := p) (i := i) hN hv hd hcd).run pins s σ H (fun v H1 => v = .ref C ∧ H1 = H) I ⟨.ref C, hs, rfl, rfl⟩) fun u s1 ⟨v, H1, I1, r1, ev, eH⟩ => ?_)
  subst ev
  rw [eH] at I1
  cases r1
  refine PySem.W.callWith_K (h₀ := X.base) I1.ok.mod.kin M.kp (thn (ha.run pos pins s1 σ H _ I1 h) fun us s2 ⟨vs, H2, I2, r, q⟩ => ⟨I2.kIn, ?_⟩) he hpl
  exact run_make M F hr hb .nil hx I2 r q
end Hue

set_option Elab.async false
set_option linter.all false
set_option maxRecDepth 100000
set_option maxHeartbeats 4000000
namespace Hue
open PySem PySem.Spec PyProof.Rows L2
def top (i : Nat) : Stmt := PySem.Challenge.pw_huerounds_k01_reference_words.main.body.getD i (.Pass ⟨0, 0, 0, 0⟩)

abbrev s_l_pool : Stmt := top 15
abbrev N_l_pool : List Str := ["_law_script", "_law_pool_here", "_law_mix", "_law_cell", "_law_number_here", "_law_k", "_law_drawn"]
abbrev P_l_pool : List Str := ["_law_script"]
theorem sc_l_pool : FnScope N_l_pool P_l_pool (defScope s_l_pool) := ⟨rfl, rfl, rfl, by decide +kernel, rfl, by decide +kernel, by decide +kernel⟩
abbrev s_l_take : Stmt := top 16
abbrev N_l_take : List Str := ["_law_pool_here", "_law_many"]
abbrev P_l_take : List Str := ["_law_pool_here", "_law_many"]
theorem sc_l_take : FnScope N_l_take P_l_take (defScope s_l_take) := ⟨rfl, rfl, rfl, by decide +kernel, rfl, by decide +kernel, by decide +kernel⟩
abbrev s_l_number : Stmt := top 17
abbrev N_l_number : List Str := ["_law_pool_here", "_law_size", "_law_number_here", "_law_k"]
abbrev P_l_number : List Str := ["_law_pool_here"]
theorem sc_l_number : FnScope N_l_number P_l_number (defScope s_l_number) := ⟨rfl, rfl, rfl, by decide +kernel, rfl, by decide +kernel, by decide +kernel⟩
abbrev s_l_is : Stmt := top 13
abbrev N_l_is : List Str := ["_law_x", "_law_due"]
abbrev P_l_is : List Str := ["_law_x", "_law_due"]
theorem sc_l_is : FnScope N_l_is P_l_is (defScope s_l_is) := ⟨rfl, rfl, rfl, by decide +kernel, rfl, by decide +kernel, by decide +kernel⟩
abbrev s_l_int : Stmt := top 14
abbrev N_l_int : List Str := ["_law_x"]
abbrev P_l_int : List Str := ["_law_x"]
theorem sc_l_int : FnScope N_l_int P_l_int (defScope s_l_int) := ⟨rfl, rfl, rfl, by decide +kernel, rfl, by decide +kernel, by decide +kernel⟩
abbrev s_Ref_init : Stmt := inClass (top 11) 1
abbrev N_Ref_init : List Str := ["self", "place", "hue"]
abbrev P_Ref_init : List Str := ["self", "place", "hue"]
theorem sc_Ref_init : FnScope N_Ref_init P_Ref_init (defScope s_Ref_init) := ⟨rfl, rfl, rfl, by decide +kernel, rfl, by decide +kernel, by decide +kernel⟩
abbrev s_Ref_word : Stmt := inClass (top 11) 2
abbrev N_Ref_word : List Str := ["self"]
abbrev P_Ref_word : List Str := ["self"]
theorem sc_Ref_word : FnScope N_Ref_word P_Ref_word (defScope s_Ref_word) := ⟨rfl, rfl, rfl, by decide +kernel, rfl, by decide +kernel, by decide +kernel⟩
abbrev s_Ref_of : Stmt := inClass (top 11) 3
abbrev N_Ref_of : List Str := ["cls", "word", "hue"]
abbrev P_Ref_of : List Str := ["cls", "word"]
theorem sc_Ref_of : FnScope N_Ref_of P_Ref_of (defScope s_Ref_of) := ⟨rfl, rfl, rfl, by decide +kernel, rfl, by decide +kernel, by decide +kernel⟩
abbrev s_Ref_dyed : Stmt := inClass (top 11) 4
abbrev N_Ref_dyed : List Str := ["self", "hue"]
abbrev P_Ref_dyed : List Str := ["self", "hue"]
theorem sc_Ref_dyed : FnScope N_Ref_dyed P_Ref_dyed (defScope s_Ref_dyed) := ⟨rfl, rfl, rfl, by decide +kernel, rfl, by decide +kernel, by decide +kernel⟩
abbrev s_Ref_eq : Stmt := inClass (top 11) 5
abbrev N_Ref_eq : List Str := ["self", "other"]
abbrev P_Ref_eq : List Str := ["self", "other"]
theorem sc_Ref_eq : FnScope N_Ref_eq P_Ref_eq (defScope s_Ref_eq) := ⟨rfl, rfl, rfl, by decide +kernel, rfl, by decide +kernel, by decide +kernel⟩
abbrev s_Ref_and : Stmt := inClass (top 11) 6
abbrev N_Ref_and : List Str := ["self", "mask"]
abbrev P_Ref_and : List Str := ["self", "mask"]
theorem sc_Ref_and : FnScope N_Ref_and P_Ref_and (defScope s_Ref_and) := ⟨rfl, rfl, rfl, by decide +kernel, rfl, by decide +kernel, by decide +kernel⟩
abbrev s_Ref_str : Stmt := inClass (top 11) 7
abbrev N_Ref_str : List Str := ["self"]
abbrev P_Ref_str : List Str := ["self"]
theorem sc_Ref_str : FnScope N_Ref_str P_Ref_str (defScope s_Ref_str) := ⟨rfl, rfl, rfl, by decide +kernel, rfl, by decide +kernel, by decide +kernel⟩
abbrev s_l_same : Stmt := top 18
abbrev N_l_same : List Str := ["_law_ref", "_law_place", "_law_good"]
abbrev P_l_same : List Str := ["_law_ref", "_law_place", "_law_good"]
theorem sc_l_same : FnScope N_l_same P_l_same (defScope s_l_same) := ⟨rfl, rfl, rfl, by decide +kernel, rfl, by decide +kernel, by decide +kernel⟩
abbrev s_l_bad : Stmt := top 19
abbrev N_l_bad : List Str := ["_law_e"]
abbrev P_l_bad : List Str := ["_law_e"]
theorem sc_l_bad : FnScope N_l_bad P_l_bad (defScope s_l_bad) := ⟨rfl, rfl, rfl, by decide +kernel, rfl, by decide +kernel, by decide +kernel⟩
abbrev s_l_bad_word : Stmt := top 20
abbrev N_l_bad_word : List Str := ["_law_word", "_law_e"]
abbrev P_l_bad_word : List Str := ["_law_word"]
theorem sc_l_bad_word : FnScope N_l_bad_word P_l_bad_word (defScope s_l_bad_word) := ⟨rfl, rfl, rfl, by decide +kernel, rfl, by decide +kernel, by decide +kernel⟩
abbrev s_l_bad_ref : Stmt := top 21
abbrev N_l_bad_ref : List Str := ["_law_place", "_law_good", "_law_e"]
abbrev P_l_bad_ref : List Str := ["_law_place", "_law_good"]
theorem sc_l_bad_ref : FnScope N_l_bad_ref P_l_bad_ref (defScope s_l_bad_ref) := ⟨rfl, rfl, rfl, by decide +kernel, rfl, by decide +kernel, by decide +kernel⟩
abbrev s_l_bad_dye : Stmt := top 22
abbrev N_l_bad_dye : List Str := ["_law_ref", "_law_good", "_law_e"]
abbrev P_l_bad_dye : List Str := ["_law_ref", "_law_good"]
theorem sc_l_bad_dye : FnScope N_l_bad_dye P_l_bad_dye (defScope s_l_bad_dye) := ⟨rfl, rfl, rfl, by decide +kernel, rfl, by decide +kernel, by decide +kernel⟩
abbrev s_l_unlike : Stmt := top 23
abbrev N_l_unlike : List Str := ["_law_ref", "_law_place", "_law_good", "_law_mask", "_law_far", "_law_stranger"]
abbrev P_l_unlike : List Str := ["_law_ref", "_law_place", "_law_good", "_law_mask"]
theorem sc_l_unlike : FnScope N_l_unlike P_l_unlike (defScope s_l_unlike) := ⟨rfl, rfl, rfl, by decide +kernel, rfl, by decide +kernel, by decide +kernel⟩
abbrev s_law : Stmt := top 24
abbrev N_law : List Str := ["_law_script", "_law_pool_here", "_law_good", "_law_other", "_law_place", "_law_mask", "_law_bits", "_law_word", "_law_ref", "_law_dyed", "_law_both", "_law_low", "_law_bad_here"]
abbrev P_law : List Str := ["_law_script"]
theorem sc_law : FnScope N_law P_law (defScope s_law) := ⟨rfl, rfl, rfl, by decide +kernel, rfl, by decide +kernel, by decide +kernel⟩
def d_l_pool : DX := ⟨(gad "_law_pool"), "_law_pool", "_law_pool", s_l_pool, [], []⟩
def d_l_take : DX := ⟨(gad "_law_take"), "_law_take", "_law_take", s_l_take, [], []⟩
def d_l_number : DX := ⟨(gad "_law_number"), "_law_number", "_law_number", s_l_number, [], []⟩
def d_l_is : DX := ⟨(gad "_law_is"), "_law_is", "_law_is", s_l_is, [], []⟩
def d_l_int : DX := ⟨(gad "_law_int"), "_law_int", "_law_int", s_l_int, [], []⟩
def d_Ref_init : DX := ⟨(mad "Ref" "__init__"), "__init__", "Ref.__init__", s_Ref_init, [], []⟩
def d_Ref_word : DX := ⟨(pad "property" "Ref" "word"), "word", "Ref.word", s_Ref_word, [], []⟩
def d_Ref_of : DX := ⟨(pad "classmethod" "Ref" "of"), "of", "Ref.of", s_Ref_of, [], []⟩
def d_Ref_dyed : DX := ⟨(mad "Ref" "dyed"), "dyed", "Ref.dyed", s_Ref_dyed, [], []⟩
def d_Ref_eq : DX := ⟨(mad "Ref" "__eq__"), "__eq__", "Ref.__eq__", s_Ref_eq, [], []⟩
def d_Ref_and : DX := ⟨(mad "Ref" "__and__"), "__and__", "Ref.__and__", s_Ref_and, [], []⟩
def d_Ref_str : DX := ⟨(mad "Ref" "__str__"), "__str__", "Ref.__str__", s_Ref_str, [], []⟩
def d_l_same : DX := ⟨(gad "_law_same"), "_law_same", "_law_same", s_l_same, [], []⟩
def d_l_bad : DX := ⟨(gad "_law_bad"), "_law_bad", "_law_bad", s_l_bad, [], []⟩
def d_l_bad_word : DX := ⟨(gad "_law_bad_word"), "_law_bad_word", "_law_bad_word", s_l_bad_word, [], []⟩
def d_l_bad_ref : DX := ⟨(gad "_law_bad_ref"), "_law_bad_ref", "_law_bad_ref", s_l_bad_ref, [], []⟩
def d_l_bad_dye : DX := ⟨(gad "_law_bad_dye"), "_law_bad_dye", "_law_bad_dye", s_l_bad_dye, [], []⟩
def d_l_unlike : DX := ⟨(gad "_law_unlike"), "_law_unlike", "_law_unlike", s_l_unlike, [], []⟩
def d_law : DX := ⟨(gad "law"), "law", "law", s_law, [], []⟩
def dsAll : List DX := [d_l_pool, d_l_take, d_l_number, d_l_is, d_l_int, d_Ref_init, d_Ref_word, d_Ref_of, d_Ref_dyed, d_Ref_eq, d_Ref_and, d_Ref_str, d_l_same, d_l_bad, d_l_bad_word, d_l_bad_ref, d_l_bad_dye, d_l_unlike, d_law]
def faAll : List He.Fa := [.free "ValueError", .free "abs", .free "bool", .free "int", .free "isinstance", .free "len", .free "range", .free "str", .glo "_law_pool", .glo "_law_take", .glo "_law_number", .glo "_law_is", .glo "_law_int", .glo "_law_same", .glo "_law_bad", .glo "_law_bad_word", .glo "_law_bad_ref", .glo "_law_bad_dye", .glo "_law_unlike", .glo "law", .int "HUES" 6, .int "LOW_BITS" 63, .glo "Ref", .cls "Ref", .noat "Ref" "place", .noat "Ref" "hue", .mkr "Ref", .meth "Ref" "dyed", .glo "BadRef", .exc "BadRef", .glo "RoundError", .glo "BadBook", .glo "BadPhase", .glo "Refused", .glo "TooMany", .glo "Wrong", .exm "BadRef" "RoundError" true]
def fxAll : List Fx := [.prop "Ref" "word", .inst "Ref", .kit (.ty "int") (.own "Ref") false, .kit (.ty "NoneType") (.own "Ref") false, .kit (.ty "str") (.own "Ref") false, .kit (.ty "tuple") (.own "Ref") false, .kit (.ty "list") (.own "Ref") false, .kit (.own "Ref") (.own "Ref") true, .kit (.own "BadRef") (.own "BadRef") true, .kit (.own "BadRef") (.ty "ValueError") true, .kit (.own "BadRef") (.own "BadBook") false, .kit (.own "BadRef") (.own "BadPhase") false, .kit (.own "BadRef") (.own "Refused") false, .kit (.own "BadRef") (.own "TooMany") false, .kit (.own "BadRef") (.own "Wrong") false, .cread "Ref", .cmeth "Ref" "of", .own "Ref" "__eq__", .own "Ref" "__str__", .cint "Ref" "BITS" 6, .excC "BadRef", .nf "Ref" (.ty "int"), .nf "Ref" (.ty "NoneType"), .nf "Ref" (.ty "str"), .nf "Ref" (.ty "tuple"), .nf "Ref" (.ty "list"), .nf "Ref" (.own "Ref"), .sub "Ref" (.ty "NoneType") false, .sub "Ref" (.ty "str") false, .sub "Ref" (.ty "tuple") false, .sub "Ref" (.ty "list") false, .bop "Ref" "__and__" "__rand__" "int"]
structure Tx (K : PySem.W.Frag) (mg : Str → Option Value) : Prop where
  n_ValueError : mg "ValueError" = none
  n_abs : mg "abs" = none
  n_bool : mg "bool" = none
  n_int : mg "int" = none
  n_isinstance : mg "isinstance" = none
  n_len : mg "len" = none
  n_range : mg "range" = none
  n_str : mg "str" = none
  g_l_pool : mg "_law_pool" = some (.ref (gad "_law_pool" K))
  g_l_take : mg "_law_take" = some (.ref (gad "_law_take" K))
  g_l_number : mg "_law_number" = some (.ref (gad "_law_number" K))
  g_l_is : mg "_law_is" = some (.ref (gad "_law_is" K))
  g_l_int : mg "_law_int" = some (.ref (gad "_law_int" K))
  g_l_same : mg "_law_same" = some (.ref (gad "_law_same" K))
  g_l_bad : mg "_law_bad" = some (.ref (gad "_law_bad" K))
  g_l_bad_word : mg "_law_bad_word" = some (.ref (gad "_law_bad_word" K))
  g_l_bad_ref : mg "_law_bad_ref" = some (.ref (gad "_law_bad_ref" K))
  g_l_bad_dye : mg "_law_bad_dye" = some (.ref (gad "_law_bad_dye" K))
  g_l_unlike : mg "_law_unlike" = some (.ref (gad "_law_unlike" K))
  g_law : mg "law" = some (.ref (gad "law" K))
  g_HUES : ∃ t, mg "HUES" = some (.int 6 t)
  g_LOW_BITS : ∃ t, mg "LOW_BITS" = some (.int 63 t)
  g_Ref : mg "Ref" = some (.ref (gad "Ref" K))
  c_Ref : Cls K (gad "Ref" K)
  na_Ref_place : NoAttr K (gad "Ref" K) "place"
  na_Ref_hue : NoAttr K (gad "Ref" K) "hue"
  mk_Ref : Mk K (gad "Ref" K) (mad "Ref" "__init__" K)
  p_Ref_word : PropOf K (gad "Ref" K) "word" (mad "Ref" "word" K) (pad "property" "Ref" "word" K)
  m_Ref_dyed : Meth K (gad "Ref" K) "dyed" (mad "Ref" "dyed" K)
  i_Ref : (Fx.inst "Ref").ok K = true
  k_int_Ref : PySem.W.kitOne K (Value.type "int") (Value.ref (gad "Ref" K)) = some false
  k_NoneType_Ref : PySem.W.kitOne K (Value.type "NoneType") (Value.ref (gad "Ref" K)) = some false
  k_str_Ref : PySem.W.kitOne K (Value.type "str") (Value.ref (gad "Ref" K)) = some false
  k_tuple_Ref : PySem.W.kitOne K (Value.type "tuple") (Value.ref (gad "Ref" K)) = some false
  k_list_Ref : PySem.W.kitOne K (Value.type "list") (Value.ref (gad "Ref" K)) = some false
  k_Ref_Ref : PySem.W.kitOne K (Value.ref (gad "Ref" K)) (Value.ref (gad "Ref" K)) = some true
  k_BadRef_BadRef : PySem.W.kitOne K (Value.ref (gad "BadRef" K)) (Value.ref (gad "BadRef" K)) = some true
  k_BadRef_ValueError : PySem.W.kitOne K (Value.ref (gad "BadRef" K)) (Value.type "ValueError") = some true
  k_BadRef_BadBook : PySem.W.kitOne K (Value.ref (gad "BadRef" K)) (Value.ref (gad "BadBook" K)) = some false
  k_BadRef_BadPhase : PySem.W.kitOne K (Value.ref (gad "BadRef" K)) (Value.ref (gad "BadPhase" K)) = some false
  k_BadRef_Refused : PySem.W.kitOne K (Value.ref (gad "BadRef" K)) (Value.ref (gad "Refused" K)) = some false
  k_BadRef_TooMany : PySem.W.kitOne K (Value.ref (gad "BadRef" K)) (Value.ref (gad "TooMany" K)) = some false
  k_BadRef_Wrong : PySem.W.kitOne K (Value.ref (gad "BadRef" K)) (Value.ref (gad "Wrong" K)) = some false
  cr_Ref : ClX.CRead K (gad "Ref" K) (.type "type")
  cm_Ref_of : ClX.CMet K (gad "Ref" K) (.type "type") "of" (mad "Ref" "of" K) (pad "classmethod" "Ref" "of" K)
  o_Ref_eq : OwnM K (gad "Ref" K) "__eq__" (mad "Ref" "__eq__" K)
  o_Ref_str : OwnM K (gad "Ref" K) "__str__" (mad "Ref" "__str__" K)
  cv_Ref_BITS : ∃ u, ClX.CVal K (gad "Ref" K) (.type "type") "BITS" (.int 6) u
  g_BadRef : mg "BadRef" = some (.ref (gad "BadRef" K))
  x_BadRef : PySem.W.excIn K (gad "BadRef" K) He.veBase "ValueError.__new__" = true ∧ PySem.W.keepIn K (.ref (gad "BadRef" K)) = true ∧ PySem.W.subIn K (.ref (gad "BadRef" K)) (.type "BaseException") = some true ∧ PySem.W.typeIn K (.ref (gad "BadRef" K)) = some (.type "type")
  g_RoundError : mg "RoundError" = some (.ref (gad "RoundError" K))
  g_BadBook : mg "BadBook" = some (.ref (gad "BadBook" K))
  g_BadPhase : mg "BadPhase" = some (.ref (gad "BadPhase" K))
  g_Refused : mg "Refused" = some (.ref (gad "Refused" K))
  g_TooMany : mg "TooMany" = some (.ref (gad "TooMany" K))
  g_Wrong : mg "Wrong" = some (.ref (gad "Wrong" K))
  e_BadRef : ExcC K (gad "BadRef" K)
  xm_BadRef_RoundError : PySem.W.exmOne K (.ref (gad "BadRef" K)) (.ref (gad "RoundError" K)) = some true
  nf_Ref_int : PySem.W.notFirst K (gad "Ref" K) (Value.type "int") = true
  nf_Ref_NoneType : PySem.W.notFirst K (gad "Ref" K) (Value.type "NoneType") = true
  nf_Ref_str : PySem.W.notFirst K (gad "Ref" K) (Value.type "str") = true
  nf_Ref_tuple : PySem.W.notFirst K (gad "Ref" K) (Value.type "tuple") = true
  nf_Ref_list : PySem.W.notFirst K (gad "Ref" K) (Value.type "list") = true
  nf_Ref_Ref : PySem.W.notFirst K (gad "Ref" K) (Value.ref (gad "Ref" K)) = true
  ns_Ref : NoSubs K (gad "Ref" K)
  b_Ref_and : (Fx.bop "Ref" "__and__" "__rand__" "int").ok K = true
  F_l_pool : FunD K "_law_pool" "_law_pool" (defArgs s_l_pool) (defBody s_l_pool) (defScope s_l_pool) [] [] (gad "_law_pool" K) (fdD K (gad "_law_pool" K))
  F_l_take : FunD K "_law_take" "_law_take" (defArgs s_l_take) (defBody s_l_take) (defScope s_l_take) [] [] (gad "_law_take" K) (fdD K (gad "_law_take" K))
  F_l_number : FunD K "_law_number" "_law_number" (defArgs s_l_number) (defBody s_l_number) (defScope s_l_number) [] [] (gad "_law_number" K) (fdD K (gad "_law_number" K))
  F_l_is : FunD K "_law_is" "_law_is" (defArgs s_l_is) (defBody s_l_is) (defScope s_l_is) [] [] (gad "_law_is" K) (fdD K (gad "_law_is" K))
  F_l_int : FunD K "_law_int" "_law_int" (defArgs s_l_int) (defBody s_l_int) (defScope s_l_int) [] [] (gad "_law_int" K) (fdD K (gad "_law_int" K))
  F_Ref_init : FunD K "__init__" "Ref.__init__" (defArgs s_Ref_init) (defBody s_Ref_init) (defScope s_Ref_init) [] [] (mad "Ref" "__init__" K) (fdD K (mad "Ref" "__init__" K))
  F_Ref_word : FunD K "word" "Ref.word" (defArgs s_Ref_word) (defBody s_Ref_word) (defScope s_Ref_word) [] [] (pad "property" "Ref" "word" K) (fdD K (pad "property" "Ref" "word" K))
  F_Ref_of : FunD K "of" "Ref.of" (defArgs s_Ref_of) (defBody s_Ref_of) (defScope s_Ref_of) [] [] (pad "classmethod" "Ref" "of" K) (fdD K (pad "classmethod" "Ref" "of" K))
  F_Ref_dyed : FunD K "dyed" "Ref.dyed" (defArgs s_Ref_dyed) (defBody s_Ref_dyed) (defScope s_Ref_dyed) [] [] (mad "Ref" "dyed" K) (fdD K (mad "Ref" "dyed" K))
  F_Ref_eq : FunD K "__eq__" "Ref.__eq__" (defArgs s_Ref_eq) (defBody s_Ref_eq) (defScope s_Ref_eq) [] [] (mad "Ref" "__eq__" K) (fdD K (mad "Ref" "__eq__" K))
  F_Ref_and : FunD K "__and__" "Ref.__and__" (defArgs s_Ref_and) (defBody s_Ref_and) (defScope s_Ref_and) [] [] (mad "Ref" "__and__" K) (fdD K (mad "Ref" "__and__" K))
  F_Ref_str : FunD K "__str__" "Ref.__str__" (defArgs s_Ref_str) (defBody s_Ref_str) (defScope s_Ref_str) [] [] (mad "Ref" "__str__" K) (fdD K (mad "Ref" "__str__" K))
  F_l_same : FunD K "_law_same" "_law_same" (defArgs s_l_same) (defBody s_l_same) (defScope s_l_same) [] [] (gad "_law_same" K) (fdD K (gad "_law_same" K))
  F_l_bad : FunD K "_law_bad" "_law_bad" (defArgs s_l_bad) (defBody s_l_bad) (defScope s_l_bad) [] [] (gad "_law_bad" K) (fdD K (gad "_law_bad" K))
  F_l_bad_word : FunD K "_law_bad_word" "_law_bad_word" (defArgs s_l_bad_word) (defBody s_l_bad_word) (defScope s_l_bad_word) [] [] (gad "_law_bad_word" K) (fdD K (gad "_law_bad_word" K))
  F_l_bad_ref : FunD K "_law_bad_ref" "_law_bad_ref" (defArgs s_l_bad_ref) (defBody s_l_bad_ref) (defScope s_l_bad_ref) [] [] (gad "_law_bad_ref" K) (fdD K (gad "_law_bad_ref" K))
  F_l_bad_dye : FunD K "_law_bad_dye" "_law_bad_dye" (defArgs s_l_bad_dye) (defBody s_l_bad_dye) (defScope s_l_bad_dye) [] [] (gad "_law_bad_dye" K) (fdD K (gad "_law_bad_dye" K))
  F_l_unlike : FunD K "_law_unlike" "_law_unlike" (defArgs s_l_unlike) (defBody s_l_unlike) (defScope s_l_unlike) [] [] (gad "_law_unlike" K) (fdD K (gad "_law_unlike" K))
  F_law : FunD K "law" "law" (defArgs s_law) (defBody s_law) (defScope s_law) [] [] (gad "law" K) (fdD K (gad "law" K))
theorem Tx.of {K : PySem.W.Frag} {h : Heap} {mg : Str → Option Value} (X : K.In h) (G : h.Ns mainGlobals mg) (c : SaysX faAll fxAll dsAll K) : Tx K mg where
  n_ValueError := He.free_ok X G (c.fact 0 (f := .free "ValueError") rfl)
  n_abs := He.free_ok X G (c.fact 1 (f := .free "abs") rfl)
  n_bool := He.free_ok X G (c.fact 2 (f := .free "bool") rfl)
  n_int := He.free_ok X G (c.fact 3 (f := .free "int") rfl)
  n_isinstance := He.free_ok X G (c.fact 4 (f := .free "isinstance") rfl)
  n_len := He.free_ok X G (c.fact 5 (f := .free "len") rfl)
  n_range := He.free_ok X G (c.fact 6 (f := .free "range") rfl)
  n_str := He.free_ok X G (c.fact 7 (f := .free "str") rfl)
  g_l_pool := He.glo_ok X G (c.fact 8 (f := .glo "_law_pool") rfl)
  g_l_take := He.glo_ok X G (c.fact 9 (f := .glo "_law_take") rfl)
  g_l_number := He.glo_ok X G (c.fact 10 (f := .glo "_law_number") rfl)
  g_l_is := He.glo_ok X G (c.fact 11 (f := .glo "_law_is") rfl)
  g_l_int := He.glo_ok X G (c.fact 12 (f := .glo "_law_int") rfl)
  g_l_same := He.glo_ok X G (c.fact 13 (f := .glo "_law_same") rfl)
  g_l_bad := He.glo_ok X G (c.fact 14 (f := .glo "_law_bad") rfl)
  g_l_bad_word := He.glo_ok X G (c.fact 15 (f := .glo "_law_bad_word") rfl)
  g_l_bad_ref := He.glo_ok X G (c.fact 16 (f := .glo "_law_bad_ref") rfl)
  g_l_bad_dye := He.glo_ok X G (c.fact 17 (f := .glo "_law_bad_dye") rfl)
  g_l_unlike := He.glo_ok X G (c.fact 18 (f := .glo "_law_unlike") rfl)
  g_law := He.glo_ok X G (c.fact 19 (f := .glo "law") rfl)
  g_HUES := He.int_ok X G (c.fact 20 (f := .int "HUES" 6) rfl)
  g_LOW_BITS := He.int_ok X G (c.fact 21 (f := .int "LOW_BITS" 63) rfl)
  g_Ref := He.glo_ok X G (c.fact 22 (f := .glo "Ref") rfl)
  c_Ref := He.cls_ok (c.fact 23 (f := .cls "Ref") rfl)
  na_Ref_place := He.noat_ok (c.fact 24 (f := .noat "Ref" "place") rfl)
  na_Ref_hue := He.noat_ok (c.fact 25 (f := .noat "Ref" "hue") rfl)
  mk_Ref := He.mkr_ok (c.fact 26 (f := .mkr "Ref") rfl)
  p_Ref_word := prop_ok (c.more 0 (f := .prop "Ref" "word") rfl)
  m_Ref_dyed := He.meth_ok (c.fact 27 (f := .meth "Ref" "dyed") rfl)
  i_Ref := (c.more 1 (f := .inst "Ref") rfl)
  k_int_Ref := kit_ok (c.more 2 (f := .kit (.ty "int") (.own "Ref") false) rfl)
  k_NoneType_Ref := kit_ok (c.more 3 (f := .kit (.ty "NoneType") (.own "Ref") false) rfl)
  k_str_Ref := kit_ok (c.more 4 (f := .kit (.ty "str") (.own "Ref") false) rfl)
  k_tuple_Ref := kit_ok (c.more 5 (f := .kit (.ty "tuple") (.own "Ref") false) rfl)
  k_list_Ref := kit_ok (c.more 6 (f := .kit (.ty "list") (.own "Ref") false) rfl)
  k_Ref_Ref := kit_ok (c.more 7 (f := .kit (.own "Ref") (.own "Ref") true) rfl)
  k_BadRef_BadRef := kit_ok (c.more 8 (f := .kit (.own "BadRef") (.own "BadRef") true) rfl)
  k_BadRef_ValueError := kit_ok (c.more 9 (f := .kit (.own "BadRef") (.ty "ValueError") true) rfl)
  k_BadRef_BadBook := kit_ok (c.more 10 (f := .kit (.own "BadRef") (.own "BadBook") false) rfl)
  k_BadRef_BadPhase := kit_ok (c.more 11 (f := .kit (.own "BadRef") (.own "BadPhase") false) rfl)
  k_BadRef_Refused := kit_ok (c.more 12 (f := .kit (.own "BadRef") (.own "Refused") false) rfl)
  k_BadRef_TooMany := kit_ok (c.more 13 (f := .kit (.own "BadRef") (.own "TooMany") false) rfl)
  k_BadRef_Wrong := kit_ok (c.more 14 (f := .kit (.own "BadRef") (.own "Wrong") false) rfl)
  cr_Ref := cread_ok (c.more 15 (f := .cread "Ref") rfl)
  cm_Ref_of := cmeth_ok (c.more 16 (f := .cmeth "Ref" "of") rfl)
  o_Ref_eq := own_ok (c.more 17 (f := .own "Ref" "__eq__") rfl)
  o_Ref_str := own_ok (c.more 18 (f := .own "Ref" "__str__") rfl)
  cv_Ref_BITS := cint_ok (c.more 19 (f := .cint "Ref" "BITS" 6) rfl)
  g_BadRef := He.glo_ok X G (c.fact 28 (f := .glo "BadRef") rfl)
  x_BadRef := He.exc_ok (c.fact 29 (f := .exc "BadRef") rfl)
  g_RoundError := He.glo_ok X G (c.fact 30 (f := .glo "RoundError") rfl)
  g_BadBook := He.glo_ok X G (c.fact 31 (f := .glo "BadBook") rfl)
  g_BadPhase := He.glo_ok X G (c.fact 32 (f := .glo "BadPhase") rfl)
  g_Refused := He.glo_ok X G (c.fact 33 (f := .glo "Refused") rfl)
  g_TooMany := He.glo_ok X G (c.fact 34 (f := .glo "TooMany") rfl)
  g_Wrong := He.glo_ok X G (c.fact 35 (f := .glo "Wrong") rfl)
  e_BadRef := excC_ok (c.more 20 (f := .excC "BadRef") rfl)
  xm_BadRef_RoundError := He.exm_ok (c.fact 36 (f := .exm "BadRef" "RoundError" true) rfl)
  nf_Ref_int := nf_ok (c.more 21 (f := .nf "Ref" (.ty "int")) rfl)
  nf_Ref_NoneType := nf_ok (c.more 22 (f := .nf "Ref" (.ty "NoneType")) rfl)
  nf_Ref_str := nf_ok (c.more 23 (f := .nf "Ref" (.ty "str")) rfl)
  nf_Ref_tuple := nf_ok (c.more 24 (f := .nf "Ref" (.ty "tuple")) rfl)
  nf_Ref_list := nf_ok (c.more 25 (f := .nf "Ref" (.ty "list")) rfl)
  nf_Ref_Ref := nf_ok (c.more 26 (f := .nf "Ref" (.own "Ref")) rfl)
  ns_Ref := ⟨sub_ok (c.more 27 (f := .sub "Ref" (.ty "NoneType") false) rfl), sub_ok (c.more 28 (f := .sub "Ref" (.ty "str") false) rfl), sub_ok (c.more 29 (f := .sub "Ref" (.ty "tuple") false) rfl), sub_ok (c.more 30 (f := .sub "Ref" (.ty "list") false) rfl)⟩
  b_Ref_and := (c.more 31 (f := .bop "Ref" "__and__" "__rand__" "int") rfl)
  F_l_pool := c.fd 0 (d := d_l_pool) rfl
  F_l_take := c.fd 1 (d := d_l_take) rfl
  F_l_number := c.fd 2 (d := d_l_number) rfl
  F_l_is := c.fd 3 (d := d_l_is) rfl
  F_l_int := c.fd 4 (d := d_l_int) rfl
  F_Ref_init := c.fd 5 (d := d_Ref_init) rfl
  F_Ref_word := c.fd 6 (d := d_Ref_word) rfl
  F_Ref_of := c.fd 7 (d := d_Ref_of) rfl
  F_Ref_dyed := c.fd 8 (d := d_Ref_dyed) rfl
  F_Ref_eq := c.fd 9 (d := d_Ref_eq) rfl
  F_Ref_and := c.fd 10 (d := d_Ref_and) rfl
  F_Ref_str := c.fd 11 (d := d_Ref_str) rfl
  F_l_same := c.fd 12 (d := d_l_same) rfl
  F_l_bad := c.fd 13 (d := d_l_bad) rfl
  F_l_bad_word := c.fd 14 (d := d_l_bad_word) rfl
  F_l_bad_ref := c.fd 15 (d := d_l_bad_ref) rfl
  F_l_bad_dye := c.fd 16 (d := d_l_bad_dye) rfl
  F_l_unlike := c.fd 17 (d := d_l_unlike) rfl
  F_law := c.fd 18 (d := d_law) rfl
theorem bd_l_pool {K : PySem.W.Frag} {mg : Str → Option Value} (T : Tx K mg) : Binds K (fdD K (gad "_law_pool" K)) P_l_pool [] := T.F_l_pool.bindsN fun _ _ _ _ _ _ us hl => match us, hl with | [_], _ => rfl
theorem bd_l_take {K : PySem.W.Frag} {mg : Str → Option Value} (T : Tx K mg) : Binds K (fdD K (gad "_law_take" K)) P_l_take [] := T.F_l_take.bindsN fun _ _ _ _ _ _ us hl => match us, hl with | [_, _], _ => rfl
theorem bd_l_number {K : PySem.W.Frag} {mg : Str → Option Value} (T : Tx K mg) : Binds K (fdD K (gad "_law_number" K)) P_l_number [] := T.F_l_number.bindsN fun _ _ _ _ _ _ us hl => match us, hl with | [_], _ => rfl
theorem bd_l_is {K : PySem.W.Frag} {mg : Str → Option Value} (T : Tx K mg) : Binds K (fdD K (gad "_law_is" K)) P_l_is [] := T.F_l_is.bindsN fun _ _ _ _ _ _ us hl => match us, hl with | [_, _], _ => rfl
theorem bd_l_int {K : PySem.W.Frag} {mg : Str → Option Value} (T : Tx K mg) : Binds K (fdD K (gad "_law_int" K)) P_l_int [] := T.F_l_int.bindsN fun _ _ _ _ _ _ us hl => match us, hl with | [_], _ => rfl
theorem bd_Ref_init {K : PySem.W.Frag} {mg : Str → Option Value} (T : Tx K mg) : Binds K (fdD K (mad "Ref" "__init__" K)) P_Ref_init [] := T.F_Ref_init.bindsN fun _ _ _ _ _ _ us hl => match us, hl with | [_, _, _], _ => rfl
theorem bd_Ref_word {K : PySem.W.Frag} {mg : Str → Option Value} (T : Tx K mg) : Binds K (fdD K (pad "property" "Ref" "word" K)) P_Ref_word [] := T.F_Ref_word.bindsN fun _ _ _ _ _ _ us hl => match us, hl with | [_], _ => rfl
theorem bd_Ref_of {K : PySem.W.Frag} {mg : Str → Option Value} (T : Tx K mg) : Binds K (fdD K (pad "classmethod" "Ref" "of" K)) P_Ref_of [] := T.F_Ref_of.bindsN fun _ _ _ _ _ _ us hl => match us, hl with | [_, _], _ => rfl
theorem bd_Ref_dyed {K : PySem.W.Frag} {mg : Str → Option Value} (T : Tx K mg) : Binds K (fdD K (mad "Ref" "dyed" K)) P_Ref_dyed [] := T.F_Ref_dyed.bindsN fun _ _ _ _ _ _ us hl => match us, hl with | [_, _], _ => rfl
theorem bd_Ref_eq {K : PySem.W.Frag} {mg : Str → Option Value} (T : Tx K mg) : Binds K (fdD K (mad "Ref" "__eq__" K)) P_Ref_eq [] := T.F_Ref_eq.bindsN fun _ _ _ _ _ _ us hl => match us, hl with | [_, _], _ => rfl
theorem bd_Ref_and {K : PySem.W.Frag} {mg : Str → Option Value} (T : Tx K mg) : Binds K (fdD K (mad "Ref" "__and__" K)) P_Ref_and [] := T.F_Ref_and.bindsN fun _ _ _ _ _ _ us hl => match us, hl with | [_, _], _ => rfl
theorem bd_Ref_str {K : PySem.W.Frag} {mg : Str → Option Value} (T : Tx K mg) : Binds K (fdD K (mad "Ref" "__str__" K)) P_Ref_str [] := T.F_Ref_str.bindsN fun _ _ _ _ _ _ us hl => match us, hl with | [_], _ => rfl
theorem bd_l_same {K : PySem.W.Frag} {mg : Str → Option Value} (T : Tx K mg) : Binds K (fdD K (gad "_law_same" K)) P_l_same [] := T.F_l_same.bindsN fun _ _ _ _ _ _ us hl => match us, hl with | [_, _, _], _ => rfl
theorem bd_l_bad {K : PySem.W.Frag} {mg : Str → Option Value} (T : Tx K mg) : Binds K (fdD K (gad "_law_bad" K)) P_l_bad [] := T.F_l_bad.bindsN fun _ _ _ _ _ _ us hl => match us, hl with | [_], _ => rfl
theorem bd_l_bad_word {K : PySem.W.Frag} {mg : Str → Option Value} (T : Tx K mg) : Binds K (fdD K (gad "_law_bad_word" K)) P_l_bad_word [] := T.F_l_bad_word.bindsN fun _ _ _ _ _ _ us hl => match us, hl with | [_], _ => rfl
theorem bd_l_bad_ref {K : PySem.W.Frag} {mg : Str → Option Value} (T : Tx K mg) : Binds K (fdD K (gad "_law_bad_ref" K)) P_l_bad_ref [] := T.F_l_bad_ref.bindsN fun _ _ _ _ _ _ us hl => match us, hl with | [_, _], _ => rfl
theorem bd_l_bad_dye {K : PySem.W.Frag} {mg : Str → Option Value} (T : Tx K mg) : Binds K (fdD K (gad "_law_bad_dye" K)) P_l_bad_dye [] := T.F_l_bad_dye.bindsN fun _ _ _ _ _ _ us hl => match us, hl with | [_, _], _ => rfl
theorem bd_l_unlike {K : PySem.W.Frag} {mg : Str → Option Value} (T : Tx K mg) : Binds K (fdD K (gad "_law_unlike" K)) P_l_unlike [] := T.F_l_unlike.bindsN fun _ _ _ _ _ _ us hl => match us, hl with | [_, _, _, _], _ => rfl
theorem bd_law {K : PySem.W.Frag} {mg : Str → Option Value} (T : Tx K mg) : Binds K (fdD K (gad "law" K)) P_law [] := T.F_law.bindsN fun _ _ _ _ _ _ us hl => match us, hl with | [_], _ => rfl
local macro_rules | `(tactic| walk_at "hp") => `(tactic| first
  | assumption
  | exact upd_same
  | (refine upd_old (by assumption) ?_; walk_at "hp")
  | (refine upd_oth (by assumption) ?_; walk_at "hp")
  | (refine same_get (by assumption) ?_; walk_at "hp")
  | (refine Fl.get (by assumption) (by assumption) ?_; walk_at "hp"))
local macro_rules | `(tactic| walk_at "seq") => `(tactic| first
  | assumption
  | exact T.t_BARRIERS _
  | exact SqL.of (by walk_at "hp")
  | exact SqT.of (by walk_at "hp"))
local macro_rules | `(tactic| walk_at "len") => `(tactic| first
  | exact Or.inl (by walk_at "seq")
  | exact Or.inr (by walk_at "seq"))
local macro_rules | `(tactic| walk_at "at") => `(tactic| first
  | rfl
  | assumption)

/-! ### drawn numbers -/
/-- all but l stands as it stood -/
def Fl (l : Addr) (H H' : Hp) : Prop := ∀ a o, a ≠ l → H a = some o → H' a = some o
theorem Fl.refl (l : Addr) (H : Hp) : Fl l H H := fun _ _ _ h => h
theorem Fl.trans {l : Addr} {H H1 H2 : Hp} (a : Fl l H H1) (b : Fl l H1 H2) : Fl l H H2 := fun c o n h => b c o n (a c o n h)
theorem Fl.cell {l : Addr} {H : Hp} {o : HO} : Fl l H (L2.upd H l o) := fun _ _ n h => upd_oth n h
theorem Fl.same {l : Addr} {H H' : Hp} (e : Same H H') : Fl l H H' := fun a o _ h => e a o h
theorem Fl.new {l p : Addr} {H : Hp} {o : HO} (n : H p = none) : Fl l H (L2.upd H p o) := fun _ _ _ h => upd_old n h
theorem Fl.add {l p : Addr} {H H' : Hp} {o : HO} (e : Fl l H H') (n : H' p = none) : Fl l H (L2.upd H' p o) := e.trans (Fl.new n)
theorem Fl.put {l : Addr} {H H' : Hp} {o : HO} (e : Fl l H H') : Fl l H (L2.upd H' l o) := e.trans Fl.cell
theorem Fl.get {l a : Addr} {H H' : Hp} {o : HO} (e : Fl l H H') (n : a ≠ l) (h : H a = some o) : H' a = some o := e a o n h
theorem Fl.free {l p : Addr} {H H' : Hp} (e : Fl l H H') (n : p ≠ l) (h : H' p = none) : H p = none := by
  cases q : H p with
  | none => rfl
  | some o => rw [e p o n q] at h; cases h
theorem Fl.seq {K : PySem.W.Frag} {l a : Addr} {H H' : Hp} {xs : List V} (e : Fl l H H') (n : a ≠ l) (h : SqL K H a xs) : SqL K H' a xs := by
  rcases h with (h | ⟨o, h⟩) | h
  · exact .inl (.inl (e _ _ n h))
  · exact .inl (.inr ⟨o, e _ _ n h⟩)
  · exact .inr h
/-- a pool of drawn numbers stands at l -/
def PoolAt (H : Hp) (l : Addr) : Prop := ∃ ns : List Int, H l = some (.lst (ns.map V.int)) ∧ ns.length ≤ 5000
theorem PoolAt.upd {H : Hp} {l p : Addr} {o : HO} (h : PoolAt H l) (n : H p = none) : PoolAt (L2.upd H p o) l := by
  obtain ⟨ns, h1, h2⟩ := h
  exact ⟨ns, upd_old n h1, h2⟩
theorem PoolAt.ne {H : Hp} {l p : Addr} (h : PoolAt H l) (n : H p = none) : p ≠ l := by
  obtain ⟨ns, h1, _⟩ := h
  exact (ne_of_none h1 n).symm
/-- a pool drawn from: a number below m, l alone is changed -/
def spPool (K : PySem.W.Frag) : Sp := fun vs H Q _ => ∃ (a : Addr) (ns : List Int), vs = [.ref a] ∧ SqL K H a (ns.map V.int) ∧ ns.length ≤ 63 ∧
  ∀ p H', H p = none → Same H H' → PoolAt H' p → Q (.ref p) H'
def spTake : Sp := fun vs H Q _ => ∃ (l : Addr) (m : Int), vs = [.ref l, .int m] ∧ PoolAt H l ∧ 0 < m ∧
  ∀ v H', 0 ≤ v → v < m → Fl l H H' → PoolAt H' l → Q (.int v) H'
def spNumber : Sp := fun vs H Q _ => ∃ (l : Addr), vs = [.ref l] ∧ PoolAt H l ∧ ∀ v H', 0 ≤ v → v.toNat < 2 ^ 200 → Fl l H H' → PoolAt H' l → Q (.int v) H'
section
variable {P : Program} {w : World} {K : PySem.W.Frag} {mg : Str → Option Value} {base : Heap}
theorem ok_l_pool (T : Tx K mg) : FnOk P w K mg base CX0 1 (gad "_law_pool" K) (fdD K (gad "_law_pool" K)) P_l_pool (spPool K) := by
  refine T.F_l_pool.ok sc_l_pool (fun vs H Q E h => ?_) (fun cdv A outer s H vs Q E hr h => ?_)
  · obtain ⟨a, ns, rfl, _⟩ := h; rfl
  · obtain ⟨a, ns, rfl, hS, hlen, k⟩ := h
    refine ⟨_, PSs.nox ((pss_cons (ps_set (i := 1) sc_l_pool.nd rfl (Or.inl rfl) (pe_lst pa_nil))
      (pss_cons (ps_set (i := 2) sc_l_pool.nd rfl (Or.inl rfl) pe_int)
      (pss_cons (ps_for PassesOwn.never rfl (pi_list (pv 0)) (pg_name (i := 3) sc_l_pool.nd rfl (Or.inl rfl)) (pss_cons (ps_set (i := 4) sc_l_pool.nd rfl (Or.inl rfl) (pe_callB call_abs (by rfl) T.n_abs (by decide +kernel) (pa_cons (pe_callTy call_intI (by rfl) T.n_int (by decide +kernel) (pa_cons (pv 3) pa_nil)) pa_nil)))
      (pss_cons (ps_set (i := 2) sc_l_pool.nd rfl (Or.inl rfl) (pe_op op_mod (pe_callTy call_intI (by rfl) T.n_int (by decide +kernel) (pa_cons (pe_op op_add (pe_op op_mul (pv 2) pe_int) (pe_callTy call_intI (by rfl) T.n_int (by decide +kernel) (pa_cons (pv 3) pa_nil))) pa_nil)) pe_int))
      (pss_one (ps_if (pt_cmpR op_ge (pv 4) (pe_op op_pow pe_int pe_int) (nomark _)) (pss_one (ps_for PassesOwn.never rfl (pi_range1 (by rfl) T.n_range (pa_cons pe_int pa_nil)) (pg_name (i := 5) sc_l_pool.nd rfl (Or.inl rfl)) (pss_one (ps_if (pt_cmpR op_gt (pv 4) pe_int (nomark _)) (pss_cons (ps_expr (pe_bm PySem.F.plainAttrs_list PySem.F.slot_list_append PySem.F.type_list_append mt_append (pv 1) (pa_cons (pe_op op_mod (pe_callTy call_intI (by rfl) T.n_int (by decide +kernel) (pa_cons (pv 4) pa_nil)) pe_int) pa_nil)))
      (pss_one (ps_set (i := 4) sc_l_pool.nd rfl (Or.inl rfl) (pe_op op_fdiv (pv 4) pe_int)))) pss_nil)))) (pss_one (ps_for PassesOwn.never rfl (pi_range1 (by rfl) T.n_range (pa_cons pe_int pa_nil)) (pg_name (i := 5) sc_l_pool.nd rfl (Or.inl rfl)) (pss_cons (ps_set (i := 6) sc_l_pool.nd rfl (Or.inl rfl) (pe_op op_mod (pe_callTy call_intI (by rfl) T.n_int (by decide +kernel) (pa_cons (pe_op op_add (pe_op op_add (pe_op op_add (pe_op op_mul (pv 4) pe_int) (pe_op op_mul (pv 5) pe_int)) (pe_op op_mul pe_int (pe_callTy call_intB (by rfl) T.n_int (by decide +kernel) (pa_cons (pe_cmpR op_lt (pv 3) pe_int (nomark _)) pa_nil)))) pe_int) pa_nil)) pe_int))
      (pss_one (ps_expr (pe_bm PySem.F.plainAttrs_list PySem.F.slot_list_append PySem.F.type_list_append mt_append (pv 1) (pa_cons (pe_op op_mod (pe_callTy call_intI (by rfl) T.n_int (by decide +kernel) (pa_cons (pe_op op_mul (pv 6) (pv 6)) pa_nil)) pe_int) pa_nil))))))))))))
      (pss_cons (ps_for PassesOwn.never rfl (pi_range1 (by rfl) T.n_range (pa_cons (pe_op op_mul pe_int (pe_callTy call_intB (by rfl) T.n_int (by decide +kernel) (pa_cons (pe_cmpR op_gt (pe_callB call_len_seq (by rfl) T.n_len (by decide +kernel) (pa_cons (pv 0) pa_nil)) pe_int (nomark _)) pa_nil))) pa_nil)) (pg_name (i := 5) sc_l_pool.nd rfl (Or.inl rfl)) (pss_cons (ps_set (i := 2) sc_l_pool.nd rfl (Or.inl rfl) (pe_op op_mod (pe_callTy call_intI (by rfl) T.n_int (by decide +kernel) (pa_cons (pe_op op_add (pe_op op_mul (pv 2) pe_int) pe_int) pa_nil)) pe_int))
      (pss_one (ps_expr (pe_bm PySem.F.plainAttrs_list PySem.F.slot_list_append PySem.F.type_list_append mt_append (pv 1) (pa_cons (pe_op op_mod (pe_callTy call_intI (by rfl) T.n_int (by decide +kernel) (pa_cons (pe_op op_fdiv (pv 2) pe_int) pa_nil)) pe_int) pa_nil))))))
      (pss_one (ps_ret (pv 1)))))))), ?_⟩
    refine ⟨by decide, fun l nl => ?_⟩
    refine ⟨_, rfl, a, rfl, ⟨_, (Same.new nl).seq hS⟩, for_list (K := K) (a := a) (xs := ns.map V.int)
      (fun i σ H' => ∃ (qs : List Int) (mix : Int) (c n q d : Option V), σ = [some (.ref a), some (.ref l), some (.int mix), c, n, q, d] ∧ Same H H' ∧ H' l = some (.lst (qs.map V.int)) ∧ qs.length ≤ 60 * i)
      ⟨[], 7, none, none, none, none, rfl, Same.new nl, upd_same, Nat.zero_le _⟩ (fun i σ H' _ ⟨_, _, _, _, _, _, _, S, _⟩ => S.seq hS) ?_ ?_⟩
    · rintro i y σ H1 hi ⟨qs, mix, c, n, q, d, rfl, S, hl, hz⟩
      have hi63 : i < 63 := by
        have z := (List.getElem?_eq_some_iff.mp hi).1
        rw [List.length_map] at z
        omega
      obtain ⟨u, rfl⟩ : ∃ u, y = V.int u := by
        rw [List.getElem?_map] at hi
        cases e : ns[i]? with
        | none => rw [e] at hi; cases hi
        | some u => rw [e] at hi; exact ⟨u, (Option.some.inj hi).symm⟩
      refine ⟨_, rfl, _, rfl, _, rfl, _, rfl, _, _, rfl, rfl, (.inr ⟨by decide, by decide⟩), _, rfl, _, rfl, _, _, rfl, rfl, _, rfl, _, _, rfl, rfl, (show (0 : Int) < 2147483647 by decide), _, rfl, _, _, rfl, rfl, ⟨by decide, by decide, by decide⟩, _, _, rfl, rfl, _, rfl, ?_⟩
      refine iteB (fun _ => ?_) (fun _ => ?_)
      · refine ⟨60, rfl, by decide, by decide, for_range (n := 60)
          (fun j σ H' => ∃ (qs : List Int) (mix n : Int) (c q d : Option V), σ = [some (.ref a), some (.ref l), some (.int mix), c, some (.int n), q, d] ∧ Same H H' ∧ H' l = some (.lst (qs.map V.int)) ∧ qs.length ≤ 60 * i + j)
          ⟨qs, _, _, _, _, _, rfl, S, hl, hz⟩ ?_ ?_⟩
        · rintro j σ H2 hj ⟨qs, mix, n, c, q, d, rfl, S, hl, hz⟩
          refine ⟨_, rfl, _, _, rfl, rfl, _, rfl, ?_⟩
          refine iteB (fun _ => ?_) (fun _ => ?_)
          · refine ⟨_, rfl, .inl ⟨rfl, _, SqL.of hl⟩, _, rfl, _, rfl, _, _, rfl, rfl, (show (0 : Int) < 1000003 by decide), _, _, _, rfl, rfl, hl, (by rw [List.length_map]; exact Nat.lt_of_le_of_lt (show qs.length ≤ 4000 by omega) (by decide)), _, rfl, _, _, rfl, rfl, ⟨by decide, by decide⟩, ?_⟩
            refine ⟨qs ++ [n % 1000003], _, _, _, _, _, rfl, fun b o e => ?_, by rw [upd_same, List.map_append]; rfl, by rw [List.length_append, List.length_singleton]; omega⟩
            rw [upd_ne (ne_of_none e nl)]
            exact S b o e
          · exact ⟨qs, _, _, _, _, _, rfl, S, hl, by omega⟩
        · rintro σ H2 ⟨qs, mix, n, c, q, d, rfl, S, hl, hz⟩
          exact ⟨qs, _, _, _, _, _, rfl, S, hl, by omega⟩
      · refine ⟨3, rfl, by decide, by decide, for_range (n := 3)
          (fun j σ H' => ∃ (qs : List Int) (mix n u : Int) (q d : Option V), σ = [some (.ref a), some (.ref l), some (.int mix), some (.int u), some (.int n), q, d] ∧ Same H H' ∧ H' l = some (.lst (qs.map V.int)) ∧ qs.length ≤ 60 * i + j)
          ⟨qs, _, _, _, _, _, rfl, S, hl, hz⟩ ?_ ?_⟩
        · rintro j σ H2 hj ⟨qs, mix, n, u, q, d, rfl, S, hl, hz⟩
          refine ⟨_, rfl, _, _, rfl, rfl, (.inr ⟨by decide, by decide⟩), _, rfl, _, _, rfl, rfl, (.inr ⟨by decide, by decide⟩), _, _, rfl, rfl, _, rfl, _, _, rfl, rfl, _, rfl, _, _, rfl, rfl, (.inl ⟨by decide, by decide⟩), _, _, rfl, rfl, _, _, rfl, rfl, _, rfl, _, _, rfl, rfl, (show (0 : Int) < 2147483647 by decide), _, rfl, .inl ⟨rfl, _, SqL.of hl⟩, _, rfl, _, rfl, _, _, rfl, rfl, .inl ?_, _, rfl, _, _, rfl, rfl, (show (0 : Int) < 1000003 by decide), _, _, _, rfl, rfl, hl, (by rw [List.length_map]; exact Nat.lt_of_le_of_lt (show qs.length ≤ 4000 by omega) (by decide)), ?_⟩
          · constructor <;> omega
          · refine ⟨qs ++ [_], _, _, _, _, _, rfl, fun b o e => ?_, by rw [upd_same, List.map_append]; rfl, by rw [List.length_append, List.length_singleton]; omega⟩
            rw [upd_ne (ne_of_none e nl)]
            exact S b o e
        · rintro σ H2 ⟨qs, mix, n, u, q, d, rfl, S, hl, hz⟩
          exact ⟨qs, _, _, _, _, _, rfl, S, hl, by omega⟩
    · rintro σ H1 ⟨qs, mix, c, n, q, d, rfl, S, hl, hz⟩
      rw [List.length_map] at hz
      refine ⟨_, rfl, _, _, rfl, .inl (S.seq hS), _, _, rfl, rfl, _, rfl, _, _, rfl, rfl, (.inl ⟨by decide, by decide⟩), ?_⟩
      refine ⟨_, rfl, by split <;> decide, by split <;> decide, for_range (n := _)
          (fun j σ H' => ∃ (qs : List Int) (mix : Int) (c n q d : Option V), σ = [some (.ref a), some (.ref l), some (.int mix), c, n, q, d] ∧ Same H H' ∧ H' l = some (.lst (qs.map V.int)) ∧ qs.length ≤ 4000 + j)
          ⟨qs, _, _, _, _, _, rfl, S, hl, by omega⟩ ?_ ?_⟩
      · rintro j σ H2 hj ⟨qs, mix, c, n, q, d, rfl, S, hl, hz⟩
        have hj2 : j < 240 := by
          revert hj
          split <;> omega
        refine ⟨_, rfl, _, _, rfl, rfl, (.inr ⟨by decide, by decide⟩), _, _, rfl, rfl, _, rfl, _, _, rfl, rfl, (show (0 : Int) < 2147483647 by decide), _, rfl, .inl ⟨rfl, _, SqL.of hl⟩, _, rfl, _, _, rfl, rfl, ⟨by decide, by decide⟩, _, rfl, _, _, rfl, rfl, (show (0 : Int) < 1000003 by decide), _, _, _, rfl, rfl, hl, (by rw [List.length_map]; exact Nat.lt_of_le_of_lt (show qs.length ≤ 5000 by omega) (by decide)), ?_⟩
        refine ⟨qs ++ [_], _, _, _, _, _, rfl, fun b o e => ?_, by rw [upd_same, List.map_append]; rfl, by rw [List.length_append, List.length_singleton]; omega⟩
        rw [upd_ne (ne_of_none e nl)]
        exact S b o e
      · rintro σ H2 ⟨qs, mix, c, n, q, d, rfl, S, hl, hz⟩
        refine ⟨_, rfl, k l H2 nl S ⟨qs, hl, ?_⟩⟩
        revert hz
        split <;> (simp only [Int.mul_one, Int.mul_zero]; intro hz; omega)
theorem seq0 {n : Nat} {m : Nat} (h : n = m + 1) : seqIndex? 0 n = some 0 := by
  subst h
  unfold seqIndex?
  simp
  try omega
theorem ok_l_take (T : Tx K mg) : FnOk P w K mg base CX0 1 (gad "_law_take" K) (fdD K (gad "_law_take" K)) P_l_take spTake := by
  refine T.F_l_take.ok sc_l_take (fun vs H Q E h => ?_) (fun cdv A outer s H vs Q E hr h => ?_)
  · obtain ⟨l, m, rfl, _⟩ := h; rfl
  · obtain ⟨l, m, rfl, ⟨ns, hl, hz⟩, hm, k⟩ := h
    refine ⟨_, PSs.nox ((pss_cons (ps_if (pt_cmpR op_eq (pe_callB call_len_seq (by rfl) T.n_len (by decide +kernel) (pa_cons (pv 0) pa_nil)) pe_int (nomark _)) (pss_one (ps_ret pe_int)) pss_nil)
      (pss_one (ps_ret (pe_op op_mod (pe_callTy call_intI (by rfl) T.n_int (by decide +kernel) (pa_cons (pe_bm PySem.F.plainAttrs_list PySem.F.slot_list_pop PySem.F.type_list_pop mt_popAt (pv 0) (pa_cons pe_int pa_nil)) pa_nil)) (pv 1)))))), ?_⟩
    refine ⟨_, rfl, _, _, rfl, (by walk_at "len"), rfl, _, rfl, ?_⟩
    cases ns with
    | nil =>
      refine iteT ?_
      exact k 0 H (Int.le_refl _) hm (Fl.refl _ _) ⟨[], hl, hz⟩
    | cons n t =>
      refine iteB (fun c => ?_) (fun _ => ?_)
      · have c1 := of_decide_eq_true c
        injection c1 with c2
        simp only [List.map_cons, List.length_cons] at c2
        omega
      · refine ⟨_, rfl, .inl ⟨rfl, _, SqL.of hl⟩, _, _, _, 0, _, rfl, rfl, hl, by decide, by decide, seq0 (m := t.length) (by simp), rfl, _, rfl, _, rfl, _, _, rfl, rfl, hm, ?_⟩
        exact k _ _ (Int.emod_nonneg _ (by omega)) (Int.emod_lt_of_pos _ hm) Fl.cell ⟨t, upd_same, by simp only [List.length_cons] at hz; omega⟩
end

section
variable {P : Program} {w : World} {K : PySem.W.Frag} {mg : Str → Option Value} {base : Heap}
theorem ok_l_number (T : Tx K mg) : FnOk P w K mg base CX0 3 (gad "_law_number" K) (fdD K (gad "_law_number" K)) P_l_number spNumber := by
  refine T.F_l_number.ok sc_l_number (fun vs H Q E h => ?_) (fun cdv A outer s H vs Q E hr h => ?_)
  · obtain ⟨l, rfl, _⟩ := h; rfl
  · obtain ⟨l, rfl, hP, k⟩ := h
    refine ⟨_, PSs.nox ((pss_cons (ps_set (i := 1) sc_l_number.nd rfl (Or.inl rfl) (pe_call (ok_l_take T) (hr.mono (by decide)) rfl T.g_l_take T.F_l_take.kp (bd_l_take T) .nil pass0 (pa_cons (pv 0) (pa_cons pe_int pa_nil))))
      (pss_cons (ps_if (pt_cmpR op_eq (pv 1) pe_int (nomark _)) (pss_one (ps_ret (pe_call (ok_l_take T) (hr.mono (by decide)) rfl T.g_l_take T.F_l_take.kp (bd_l_take T) .nil pass0 (pa_cons (pv 0) (pa_cons pe_int pa_nil))))) pss_nil)
      (pss_cons (ps_set (i := 2) sc_l_number.nd rfl (Or.inl rfl) pe_int)
      (pss_cons (ps_for PassesOwn.never rfl (pi_range1 (by rfl) T.n_range (pa_cons (pe_op op_mul pe_int (pv 1)) pa_nil)) (pg_name (i := 3) sc_l_number.nd rfl (Or.inl rfl)) (pss_one (ps_set (i := 2) sc_l_number.nd rfl (Or.inl rfl) (pe_op op_add (pe_op op_mul (pv 2) pe_int) (pe_call (ok_l_take T) (hr.mono (by decide)) rfl T.g_l_take T.F_l_take.kp (bd_l_take T) .nil pass0 (pa_cons (pv 0) (pa_cons pe_int pa_nil)))))))
      (pss_one (ps_ret (pv 2)))))))), ?_⟩
    refine ⟨_, rfl, l, 4, rfl, hP, by decide, fun v H1 v0 v1 o1 P1 => ?_⟩
    refine ⟨_, rfl, rfl, _, rfl, ?_⟩
    refine iteB (fun c => ?_) (fun _ => ?_)
    · refine ⟨_, rfl, l, 8, rfl, P1, by decide, fun v2 H2 v20 v21 o2 P2 => ?_⟩
      exact k _ _ v20 (Nat.lt_of_lt_of_le (show v2.toNat < 8 by omega) (by decide)) (o1.trans o2) P2
    · refine ⟨_, rfl, _, _, rfl, rfl, (.inl ⟨by decide, by decide⟩), ?_⟩
      refine ⟨_, rfl, by omega, by omega, for_range (n := _)
        (fun j σ H' => ∃ (n : Int) (q : Option V), σ = [some (.ref l), some (.int v), some (.int n), q] ∧ 0 ≤ n ∧ n.toNat + 1 ≤ 1000003 ^ j ∧ Fl l H H' ∧ PoolAt H' l)
        ⟨0, _, rfl, Int.le_refl _, by decide, o1, P1⟩ ?_ ?_⟩
      · rintro j σ H2 hj ⟨n, q, rfl, n0, n1, o2, P2⟩
        refine ⟨_, rfl, _, _, rfl, rfl, (.inr ⟨by decide, by decide⟩), _, rfl, l, 1000003, rfl, P2, by decide, fun v3 H3 v30 v31 o3 P3 => ?_⟩
        refine ⟨_, _, rfl, rfl, ?_⟩
        exact ⟨_, _, rfl, by omega, by rw [Nat.pow_succ]; omega, o2.trans o3, P3⟩
      · rintro σ H2 ⟨n, q, rfl, n0, n1, o2, P2⟩
        refine ⟨_, rfl, k _ _ n0 (Nat.lt_of_lt_of_le n1 (Nat.le_trans (Nat.pow_le_pow_right (by decide) (show _ ≤ 9 by omega)) (by decide))) o2 P2⟩
end

/-! ### truth values asked; _law_is, _law_int -/
theorem few {f : Str} {v : V} {fs : List (Str × V)} {n : Nat} (h : fs.length < n) : (putF f v fs).length < n + 1 := Nat.lt_of_le_of_lt (length_putF f v fs) (Nat.succ_lt_succ h)
theorem iteD {p : Prop} [Decidable p] {A B : Prop} (h : p) (a : A) : if decide p = true then A else B := by rw [decide_eq_true h]; exact iteT a
theorem iteDN {p : Prop} [Decidable p] {A B : Prop} (h : ¬ p) (b : B) : if decide p = true then A else B := by rw [decide_eq_false h]; exact iteF b
theorem iteND {p : Prop} [Decidable p] {A B : Prop} (h : ¬ p) (a : A) : if (!decide p) = true then A else B := by rw [decide_eq_false h]; exact iteT a
theorem iteE {x : Bool} {A B : Prop} (e : x = false) (b : B) : if x = true then A else B := by rw [e]; exact iteF b
theorem iteY {x : Bool} {A B : Prop} (e : x = true) (a : A) : if x = true then A else B := by rw [e]; exact iteT a
def spIs : Sp := fun vs H Q _ => ∃ (x : V) (b : Bool), vs = [x, .bl b] ∧ (∃ c, x = .bl c ∧ Q (.bl (c == b)) H)
def spInt : Sp := fun vs H Q _ => ∃ i : Int, vs = [.int i] ∧ Q (.bl true) H
section
variable {P : Program} {w : World} {K : PySem.W.Frag} {mg : Str → Option Value} {base : Heap}
theorem ok_l_int (T : Tx K mg) : FnOk P w K mg base CX0 1 (gad "_law_int" K) (fdD K (gad "_law_int" K)) P_l_int spInt := by
  refine T.F_l_int.ok sc_l_int (fun vs H Q E h => ?_) (fun cdv A outer s H vs Q E hr h => ?_)
  · obtain ⟨i, rfl, _⟩ := h; rfl
  · obtain ⟨i, rfl, k⟩ := h
    refine ⟨_, PSs.nox ((pss_one (ps_ret (pe_and (pe_callB call_isi (by rfl) T.n_isinstance (by decide +kernel) (pa_cons (pv 0) (pa_cons (pe_bty "int" rfl T.n_int (by decide +kernel)) pa_nil))) (pe_one (pe_not (pe_callB call_isi (by rfl) T.n_isinstance (by decide +kernel) (pa_cons (pv 0) (pa_cons (pe_bty "bool" rfl T.n_bool (by decide +kernel)) pa_nil))))))))), ?_⟩
    refine ⟨_, rfl, _, _, .type "int", .type "int", true, rfl, .ty _, .base (.int _), kit_ty (by decide +kernel), _, rfl, iteT ?_⟩
    exact ⟨_, rfl, _, _, .type "int", .type "bool", false, rfl, .ty _, .base (.int _), kit_ty (by decide +kernel), _, rfl, k⟩
theorem ok_l_is (T : Tx K mg) : FnOk P w K mg base CX0 1 (gad "_law_is" K) (fdD K (gad "_law_is" K)) P_l_is spIs := by
  refine T.F_l_is.ok sc_l_is (fun vs H Q E h => ?_) (fun cdv A outer s H vs Q E hr h => ?_)
  · obtain ⟨x, b, rfl, _⟩ := h; rfl
  · obtain ⟨x, b, rfl, c, rfl, k⟩ := h
    refine ⟨_, PSs.nox ((pss_one (ps_ret (pe_and (pe_callB call_isi (by rfl) T.n_isinstance (by decide +kernel) (pa_cons (pv 0) (pa_cons (pe_bty "bool" rfl T.n_bool (by decide +kernel)) pa_nil))) (pe_one (pe_cmpR op_eq (pv 0) (pv 1) (nomark _))))))), ?_⟩
    refine ⟨_, rfl, _, _, .type "bool", .type "bool", true, rfl, .ty _, .base (.bl _), kit_ty (by decide +kernel), _, rfl, iteT ?_⟩
    refine ⟨_, rfl, _, rfl, rfl, ?_⟩
    have e : decide (V.bl c = V.bl b) = (c == b) := by cases c <;> cases b <;> rfl
    show Q (.bl (decide (V.bl c = V.bl b))) H
    rw [e]
    exact k
end

/-! ### the six lowest bits -/
def pw (h : Int) : Int := 2 ^ h.toNat
theorem pw_lt {h : Int} (h0 : 0 ≤ h) (h1 : h < 6) : 0 ≤ pw h ∧ pw h < 64 := by
  rcases (by omega : h = 0 ∨ h = 1 ∨ h = 2 ∨ h = 3 ∨ h = 4 ∨ h = 5) with rfl | rfl | rfl | rfl | rfl | rfl <;> decide
abbrev pwVs : List V := [V.int 1, V.int 2, V.int 4, V.int 8, V.int 16, V.int 32]
theorem at_pw {h : Int} (h0 : 0 ≤ h) (h1 : h < 6) : atI pwVs h = some (.int (pw h)) := by
  rcases (by omega : h = 0 ∨ h = 1 ∨ h = 2 ∨ h = 3 ∨ h = 4 ∨ h = 5) with rfl | rfl | rfl | rfl | rfl | rfl <;> rfl

/-! ### references -/
def rfF (pl hu : Int) : List (Str × V) := putF "hue" (.int hu) (putF "place" (.int pl) [])
theorem rf_hue (pl hu : Int) : (rfF pl hu).lookup ("hue" : Str) = some (.int hu) := by
  unfold rfF
  simp only [lookup_putF]
  rw [if_pos trivial]
theorem rf_place (pl hu : Int) : (rfF pl hu).lookup ("place" : Str) = some (.int pl) := by
  unfold rfF
  simp only [lookup_putF]
  rw [if_neg (by decide +kernel), if_pos trivial]
def RfAt (K : PySem.W.Frag) (H : Hp) (a : Addr) (pl hu : Int) : Prop := ∃ dx, H a = some (.ins (gad "Ref" K) dx (rfF pl hu))
theorem RfAt.same {K : PySem.W.Frag} {H H' : Hp} {a : Addr} {pl hu : Int} (h : RfAt K H a pl hu) (e : Same H H') : RfAt K H' a pl hu := by
  obtain ⟨dx, h⟩ := h
  exact ⟨dx, e _ _ h⟩
/-- a reference as it may be: any place below 2 ^ 210, a hue -/
structure RfOk (pl hu : Int) : Prop where
  p0 : 0 ≤ pl
  p1 : pl.toNat < 2 ^ 210
  h0 : 0 ≤ hu
  h1 : hu < 6
def wordOf (pl hu : Int) : Int := pl * 64 + pw hu
theorem word_eq {pl hu : Int} (ok : RfOk pl hu) : Builtin.bitOr (pl * 2 ^ (6 : Int).toNat) (1 * 2 ^ hu.toNat) = wordOf pl hu := by
  have h := pw_lt ok.h0 ok.h1
  unfold pw at h
  rw [Int.one_mul]
  show Builtin.bitOr (pl * 2 ^ 6) (2 ^ hu.toNat) = wordOf pl hu
  rw [or_low ok.p0 h.1 (show (2 : Int) ^ hu.toNat < 2 ^ 6 from h.2)]
  rfl
theorem log_lt {i : Int} (h : i.natAbs < 2 ^ 210) : i.natAbs.log2 < 1920 := by
  by_cases z : i.natAbs = 0
  · rw [z]; decide
  · exact Nat.lt_of_lt_of_le ((Nat.log2_lt z).mpr h) (by decide)
/-- the reference's text -/
def rfText (pl hu : Int) : Str := Str.ofString (toString pl) ++ (":" : Str) ++ Str.ofString (toString hu)
theorem empty_app (x : Str) : Str.empty ++ x = x := Str.ext' (by rw [Str.cps_append]; exact Array.empty_append)
theorem num_len {i : Int} (h : i.natAbs < 2 ^ 210) : (Str.ofString (toString i)).length ≤ 1921 := int_text_len_1921 (log_lt h)
theorem len_app (x y : Str) : (x ++ y).length = x.length + y.length := by
  first
    | exact Str.length_append x y
    | simp [Str.length, Str.cps_append]
/-- no exception leaves, if place and hue are in order -/
def spRefInit (K : PySem.W.Frag) : Sp := fun vs H Q E => ∃ (p dx : Addr) (pl hu : Int), vs = [.ref p, .int pl, .int hu] ∧ H p = some (.ins (gad "Ref" K) dx []) ∧
  (0 ≤ pl → 0 ≤ hu → hu < 6 → ∀ H', Fl p H H' → H' p = some (.ins (gad "Ref" K) dx (rfF pl hu)) → Q .non H') ∧ ((pl < 0 ∨ hu < 0 ∨ 6 ≤ hu) → ∀ H', Same H H' → E (.ref (gad "BadRef" K)) none H')
def spRf (K : PySem.W.Frag) (g : Int → Int → V) : Sp := fun vs H Q _ => ∃ (a : Addr) (pl hu : Int), vs = [.ref a] ∧ RfAt K H a pl hu ∧ RfOk pl hu ∧ Q (g pl hu) H
def spRfAnd (K : PySem.W.Frag) : Sp := fun vs H Q _ => ∃ (a : Addr) (pl hu m : Int), vs = [.ref a, .int m] ∧ RfAt K H a pl hu ∧ RfOk pl hu ∧ Q (.int (Builtin.bitAnd (wordOf pl hu) m)) H
def spRfEq (K : PySem.W.Frag) : Sp := fun vs H Q _ => ∃ (a : Addr) (pl hu : Int) (y : V), vs = [.ref a, y] ∧ RfAt K H a pl hu ∧
  ((∃ b pl2 hu2, y = .ref b ∧ RfAt K H b pl2 hu2 ∧ Q (.bl (decide (pl = pl2) && decide (hu = hu2))) H) ∨ ∃ t, TyX K H y t ∧ PySem.W.kitOne K t (.ref (gad "Ref" K)) = some false ∧ Q (.bl false) H)
/-- a word has a hue -/
def hueW (w g : Int) : Prop := 0 ≤ g ∧ g < 6 ∧ w % 64 = pw g
def spRefOf (K : PySem.W.Frag) : Sp := fun vs H Q E => ∃ (wd : Int), vs = [.ref (gad "Ref" K), .int wd] ∧
  (0 < wd → ∀ g, hueW wd g → ∀ a H', H a = none → Same H H' → RfAt K H' a (wd / 64) g → Q (.ref a) H') ∧ ((wd ≤ 0 ∨ ∀ g, ¬ hueW wd g) → ∀ H', Same H H' → E (.ref (gad "BadRef" K)) none H')
def spDyed (K : PySem.W.Frag) : Sp := fun vs H Q E => ∃ (a : Addr) (pl hu g : Int), vs = [.ref a, .int g] ∧ RfAt K H a pl hu ∧ 0 ≤ pl ∧
  (0 ≤ g → g < 6 → ∀ b H', H b = none → Same H H' → RfAt K H' b pl g → Q (.ref b) H') ∧ ((g < 0 ∨ 6 ≤ g) → ∀ H', Same H H' → E (.ref (gad "BadRef" K)) none H')
theorem Fl.made {H H' : Hp} {x dx C : Addr} (nx : H x = none) (nd : H dx = none) (f : Fl x (L2.upd (L2.upd H dx (.own x)) x (.ins C dx [])) H') : Same H H' := fun a o h => by
  have n1 : a ≠ x := ne_of_none h nx
  exact f _ _ n1 (upd_oth n1 (upd_old nd h))
theorem Same.made {H H' : Hp} {x dx C : Addr} (nx : H x = none) (nd : H dx = none) (f : Same (L2.upd (L2.upd H dx (.own x)) x (.ins C dx [])) H') : Same H H' := Fl.made nx nd (Fl.same f)
section
variable {P : Program} {w : World} {K : PySem.W.Frag} {mg : Str → Option Value} {base : Heap}
theorem ok_Ref_init (T : Tx K mg) : FnOk P w K mg base (L2.CX P w) 1 (mad "Ref" "__init__" K) (fdD K (mad "Ref" "__init__" K)) P_Ref_init (spRefInit K) := by
  refine T.F_Ref_init.ok sc_Ref_init (fun vs H Q E h => ?_) (fun cdv A outer s H vs Q E hr h => ?_)
  · obtain ⟨p, dx, pl, hu, rfl, _⟩ := h; rfl
  · obtain ⟨p, dx, pl, hu, rfl, hp, k1, k2⟩ := h
    refine ⟨_, (pss_cons (ps_if (PW.pt (pw_or (pt_cmpR op_lt (pv 1) pe_int (nomark _)) (pw_or1 (pt_not (pt_chain op_le op_lt pe_int (pv 2) (pe_gi rfl T.g_HUES)))))) (pss_one (ps_raise rfl (takes_of rfl rfl rfl rfl) (pmk_own PySem.F.excBase_ValueError T.x_BadRef.1 T.g_BadRef T.x_BadRef.2.1 (raises_own T.x_BadRef.2.2.1 T.x_BadRef.2.2.2) rfl))) pss_nil)
      (pss_cons (ps_fld (pv 0) (pv 1) rfl)
      (pss_one (ps_fld (pv 0) (pv 2) rfl)))), ?_⟩
    by_cases p0 : pl < 0
    · refine ⟨_, rfl, _, _, rfl, rfl, _, rfl, iteD p0 ?_⟩
      exact iteT (k2 (.inl p0) _ (Same.refl _))
    · refine ⟨_, rfl, _, _, rfl, rfl, _, rfl, iteDN p0 ?_⟩
      by_cases h0 : 0 ≤ hu
      · refine ⟨_, rfl, _, _, rfl, rfl, _, rfl, iteD h0 ?_⟩
        by_cases h1 : hu < 6
        · refine ⟨_, _, rfl, rfl, _, rfl, iteNS h1 ?_⟩
          refine ⟨_, rfl, _, rfl, p, _, dx, _, rfl, hp, T.c_Ref, T.na_Ref_place, (Nat.zero_lt_succ _), _, rfl, _, rfl, p, _, dx, _, rfl, upd_same, T.c_Ref, T.na_Ref_hue, few (Nat.zero_lt_succ _), ?_⟩
          refine k1 (by omega) h0 h1 _ ?_ upd_same
          simp only [upd_upd]
          exact Fl.cell
        · refine ⟨_, _, rfl, rfl, _, rfl, iteND h1 ?_⟩
          exact k2 (by omega) _ (Same.refl _)
      · refine ⟨_, rfl, _, _, rfl, rfl, _, rfl, iteDN h0 ?_⟩
        refine ⟨_, rfl, iteT ?_⟩
        exact k2 (by omega) _ (Same.refl _)
theorem ok_Ref_word (T : Tx K mg) : FnOk P w K mg base CX0 1 (pad "property" "Ref" "word" K) (fdD K (pad "property" "Ref" "word" K)) P_Ref_word (spRf K fun pl hu => .int (wordOf pl hu)) := by
  refine T.F_Ref_word.ok sc_Ref_word (fun vs H Q E h => ?_) (fun cdv A outer s H vs Q E hr h => ?_)
  · obtain ⟨a, pl, hu, rfl, _⟩ := h; rfl
  · obtain ⟨a, pl, hu, rfl, ⟨dx, ha⟩, ok, k⟩ := h
    refine ⟨_, PSs.nox ((pss_one (ps_ret (pe_op op_or (pe_op op_shlW (pe_fld (pv 0) rfl) pe_int) (pe_op op_shl pe_int (pe_fld (pv 0) rfl)))))), ?_⟩
    have sh : CShl pl (6 : Nat) := shl_ok (n := 210) (by have := ok.p1; have := ok.p0; omega) (by decide)
    refine ⟨_, rfl, a, _, dx, _, _, rfl, ha, T.c_Ref, T.na_Ref_place, rf_place _ _, _, _, rfl, rfl, sh, _, rfl, a, _, dx, _, _, rfl, ha, T.c_Ref, T.na_Ref_hue, rf_hue _ _, _, _, rfl, rfl, ⟨ok.h0, by have := ok.h1; omega, by decide⟩, _, _, rfl, rfl, ?_⟩
    show Q (.int (Builtin.bitOr (pl * 2 ^ (6 : Int).toNat) (1 * 2 ^ hu.toNat))) H
    rw [word_eq ok]
    exact k
theorem ok_Ref_and (T : Tx K mg) : FnOk P w K mg base CX0 3 (mad "Ref" "__and__" K) (fdD K (mad "Ref" "__and__" K)) P_Ref_and (spRfAnd K) := by
  refine T.F_Ref_and.ok sc_Ref_and (fun vs H Q E h => ?_) (fun cdv A outer s H vs Q E hr h => ?_)
  · obtain ⟨a, pl, hu, m, rfl, _⟩ := h; rfl
  · obtain ⟨a, pl, hu, m, rfl, ⟨dx, ha⟩, ok, k⟩ := h
    refine ⟨_, PSs.nox ((pss_one (ps_ret (pe_op op_and (pe_prop (pv 0) T.c_Ref T.p_Ref_word (ok_Ref_word T) (hr.mono (by decide)) (bd_Ref_word T) .nil pass0 rfl) (pv 1))))), ?_⟩
    exact ⟨_, rfl, a, dx, _, rfl, ha, a, pl, hu, rfl, ⟨dx, ha⟩, ok, _, rfl, _, _, rfl, rfl, k⟩
theorem ok_Ref_eq (T : Tx K mg) : FnOk P w K mg base CX0 1 (mad "Ref" "__eq__" K) (fdD K (mad "Ref" "__eq__" K)) P_Ref_eq (spRfEq K) := by
  refine T.F_Ref_eq.ok sc_Ref_eq (fun vs H Q E h => ?_) (fun cdv A outer s H vs Q E hr h => ?_)
  · obtain ⟨a, pl, hu, y, rfl, _⟩ := h; rfl
  · obtain ⟨a, pl, hu, y, rfl, ⟨dx, ha⟩, h⟩ := h
    refine ⟨_, PSs.nox ((pss_one (ps_ret (pe_and (pe_callB call_isi (by rfl) T.n_isinstance (by decide +kernel) (pa_cons (pv 1) (pa_cons (pe_gr rfl T.g_Ref) pa_nil))) (pe_and (pe_cmpR op_eq (pe_fld (pv 0) rfl) (pe_fld (pv 1) rfl) (nomark _)) (pe_one (pe_cmpR op_eq (pe_fld (pv 0) rfl) (pe_fld (pv 1) rfl) (nomark _)))))))), ?_⟩
    rcases h with ⟨b, pl2, hu2, rfl, ⟨dy, hb⟩, k⟩ | ⟨t, ty, kt, k⟩
    · refine ⟨_, rfl, _, _, _, _, true, rfl, .own _, inst_ty T.i_Ref T.c_Ref hb, T.k_Ref_Ref, _, rfl, iteT ?_⟩
      refine ⟨_, rfl, a, _, dx, _, _, rfl, ha, T.c_Ref, T.na_Ref_place, rf_place _ _, _, rfl, b, _, dy, _, _, rfl, hb, T.c_Ref, T.na_Ref_place, rf_place _ _, rfl, _, rfl, ?_⟩
      by_cases e : pl = pl2
      · subst e
        refine iteY (decide_eq_true rfl) ?_
        refine ⟨_, rfl, a, _, dx, _, _, rfl, ha, T.c_Ref, T.na_Ref_hue, rf_hue _ _, _, rfl, b, _, dy, _, _, rfl, hb, T.c_Ref, T.na_Ref_hue, rf_hue _ _, rfl, ?_⟩
        rw [decide_eq_true (rfl : pl = pl), Bool.true_and] at k
        have e2 : decide (V.int hu = V.int hu2) = decide (hu = hu2) := by
          by_cases q : hu = hu2
          · rw [q]; simp
          · rw [decide_eq_false q]; exact decide_eq_false fun z => q (V.int.inj z)
        show Q (.bl (decide (V.int hu = V.int hu2))) H
        rw [e2]
        exact k
      · have e2 : decide (V.int pl = V.int pl2) = false := decide_eq_false fun z => e (V.int.inj z)
        refine iteE e2 ?_
        rw [decide_eq_false e, Bool.false_and] at k
        exact k
    · exact ⟨_, rfl, _, _, t, _, false, rfl, .own _, ty, kt, _, rfl, iteF k⟩
theorem fr_Ref_eq (T : Tx K mg) : FnR P w K mg base CX0 1 (mad "Ref" "__eq__" K) (spRfEq K) := fnr_of (ok_Ref_eq T) (bd_Ref_eq T)
theorem ok_Ref_str (T : Tx K mg) : FnOk P w K mg base CX0 1 (mad "Ref" "__str__" K) (fdD K (mad "Ref" "__str__" K)) P_Ref_str (spRf K fun pl hu => .str (rfText pl hu)) := by
  refine T.F_Ref_str.ok sc_Ref_str (fun vs H Q E h => ?_) (fun cdv A outer s H vs Q E hr h => ?_)
  · obtain ⟨a, pl, hu, rfl, _⟩ := h; rfl
  · obtain ⟨a, pl, hu, rfl, ⟨dx, ha⟩, ok, k⟩ := h
    refine ⟨_, PSs.nox ((pss_one (ps_ret (pe_joined (PJ.cons (pe_fmt (pe_fld (pv 0) rfl)) (PJ.cons pe_str (PJ.cons (pe_fmt (pe_fld (pv 0) rfl)) PJ.nil))))))), ?_⟩
    have p1 : pl.natAbs < 2 ^ 210 := by have := ok.p1; have := ok.p0; omega
    have h1 : hu.natAbs < 2 ^ 210 := Nat.lt_of_lt_of_le (show hu.natAbs < 6 by have := ok.h0; have := ok.h1; omega) (by decide)
    have l1 := num_len p1
    have l2 := num_len h1
    have c1 : (":" : Str).length = 1 := by decide +kernel
    refine ⟨_, rfl, a, _, dx, _, _, rfl, ha, T.c_Ref, T.na_Ref_place, rf_place _ _, .inr ⟨_, rfl, log_lt p1, _, rfl, ?_, _, rfl, ?_, ?_⟩⟩
    · rw [empty_app]; exact Nat.le_trans l1 (by decide)
    · rw [empty_app, len_app, c1]; exact Nat.le_trans (show _ ≤ 2000 by show (Str.ofString (toString pl)).length + 1 ≤ 2000; omega) (by decide)
    · refine ⟨_, rfl, a, _, dx, _, _, rfl, ha, T.c_Ref, T.na_Ref_hue, rf_hue _ _, .inr ⟨_, rfl, log_lt h1, _, rfl, ?_, ?_⟩⟩
      · rw [empty_app, len_app, len_app, c1]; exact Nat.le_trans (show _ ≤ 4000 by show (Str.ofString (toString pl)).length + 1 + (Str.ofString (toString hu)).length ≤ 4000; omega) (by decide)
      · show Q (.str (Str.empty ++ Str.ofString (toString pl) ++ (":" : Str) ++ Str.ofString (toString hu))) H
        rw [empty_app]
        exact k
theorem fr_Ref_str (T : Tx K mg) : FnR P w K mg base CX0 1 (mad "Ref" "__str__" K) (spRf K fun pl hu => .str (rfText pl hu)) := fnr_of (ok_Ref_str T) (bd_Ref_str T)
theorem ok_Ref_dyed (T : Tx K mg) : FnOk P w K mg base (L2.CX P w) 3 (mad "Ref" "dyed" K) (fdD K (mad "Ref" "dyed" K)) P_Ref_dyed (spDyed K) := by
  refine T.F_Ref_dyed.ok sc_Ref_dyed (fun vs H Q E h => ?_) (fun cdv A outer s H vs Q E hr h => ?_)
  · obtain ⟨a, pl, hu, g, rfl, _⟩ := h; rfl
  · obtain ⟨a, pl, hu, g, rfl, ⟨dx, ha⟩, p0, k1, k2⟩ := h
    refine ⟨_, (pss_one (ps_ret (pe_make T.mk_Ref (ok_Ref_init T) (hr.mono (by decide)) rfl T.g_Ref (bd_Ref_init T) .nil (passes_call (takes_of rfl rfl rfl rfl) (fun _ _ _ _ z => z)) (pa_cons (pe_fld (pv 0) rfl) (pa_cons (pv 1) pa_nil))))), ?_⟩
    refine ⟨_, rfl, a, _, dx, _, _, rfl, ha, T.c_Ref, T.na_Ref_place, rf_place _ _, _, rfl, fun x dx nx ndx nex => ?_⟩
    refine ⟨x, dx, pl, g, rfl, upd_same, fun _ g0 g1 H' f h' => ⟨rfl, ?_⟩, fun z H' S => ?_⟩
    · exact k1 g0 g1 x H' nx (Fl.made nx ndx f) ⟨dx, h'⟩
    · exact k2 (by omega) _ (Same.made nx ndx S)
theorem ok_Ref_of (T : Tx K mg) : FnOk P w K mg base (L2.CX P w) 3 (pad "classmethod" "Ref" "of" K) (fdD K (pad "classmethod" "Ref" "of" K)) P_Ref_of (spRefOf K) := by
  refine T.F_Ref_of.ok sc_Ref_of (fun vs H Q E h => ?_) (fun cdv A outer s H vs Q E hr h => ?_)
  · obtain ⟨wd, rfl, _⟩ := h; rfl
  · obtain ⟨wd, rfl, k1, k2⟩ := h
    refine ⟨_, (pss_cons (ps_if (pt_cmpR op_gt (pv 1) pe_int (nomark _)) (pss_one (ps_for (passes_of rfl) rfl (pi_range1 (by rfl) T.n_range (pa_cons (pe_gi rfl T.g_HUES) pa_nil)) (pg_name (i := 2) sc_Ref_of.nd rfl (Or.inl rfl)) (pss_one (ps_if (pt_cmpR op_eq (pe_op op_and (pv 1) (pe_gi rfl T.g_LOW_BITS)) (pe_op op_shl pe_int (pv 2)) (nomark _)) (pss_one (ps_ret (pe_makeLp (i := 0) T.mk_Ref (ok_Ref_init T) (hr.mono (by decide)) rfl (by first | exact Or.inl rfl | exact Or.inr (Or.inl rfl)) (bd_Ref_init T) (passes_call (takes_of rfl rfl rfl rfl) (fun _ _ _ _ z => z)) (pa_cons (pe_op op_shr (pv 1) pe_int) (pa_cons (pv 2) pa_nil))))) pss_nil)))) pss_nil)
      (pss_one (ps_raise rfl (takes_of rfl rfl rfl rfl) (pmk_own PySem.F.excBase_ValueError T.x_BadRef.1 T.g_BadRef T.x_BadRef.2.1 (raises_own T.x_BadRef.2.2.1 T.x_BadRef.2.2.2) rfl)))), ?_⟩
    by_cases w0 : 0 < wd
    · refine ⟨_, rfl, _, _, rfl, rfl, _, rfl, iteD w0 ?_⟩
      refine ⟨6, rfl, by decide, by decide, for_range (n := 6) (fun i σ H' => ∃ q, σ = [some (.ref (gad "Ref" K)), some (.int wd), q] ∧ H' = H ∧ ∀ j : Int, 0 ≤ j → j < i → ¬ wd % 64 = pw j) ⟨none, rfl, rfl, fun j h0 h1 => by omega⟩ ?_ ?_⟩
      · rintro i σ H1 hi ⟨q, rfl, rfl, hn⟩
        refine ⟨_, rfl, _, _, rfl, rfl, _, rfl, _, _, rfl, rfl, ⟨by omega, by omega, by decide⟩, rfl, _, rfl, ?_⟩
        have ew : Builtin.bitAnd wd 63 = wd % 64 := bitAnd_m6 wd
        have e1 : (1 : Int) * 2 ^ (0 + (i : Int)).toNat = pw (0 + (i : Int)) := by rw [Int.one_mul]; rfl
        by_cases e : wd % 64 = pw (0 + (i : Int))
        · refine iteD (by show V.int (Builtin.bitAnd wd 63) = V.int (1 * 2 ^ (0 + (i : Int)).toNat); rw [ew, e1, e]) ?_
          refine ⟨rfl, _, rfl, _, _, rfl, rfl, (show (0 : Int) ≤ 6 by decide), _, rfl, fun x dx nx ndx nex => ?_⟩
          refine ⟨x, dx, _, _, rfl, upd_same, fun _ g0 g1 H' f h' => ⟨rfl, ?_⟩, fun z => ?_⟩
          · exact k1 w0 _ ⟨g0, g1, e⟩ x H' nx (Fl.made nx ndx f) ⟨dx, h'⟩
          · have : (2 : Int) ^ (6 : Int).toNat = 64 := by decide
            rw [this] at z
            omega
        · refine iteDN (fun z => e ?_) ?_
          · have z2 := V.int.inj (show V.int (Builtin.bitAnd wd 63) = V.int (1 * 2 ^ (0 + (i : Int)).toNat) from z)
            rw [ew, e1] at z2
            exact z2
          · refine ⟨_, rfl, rfl, fun j h0 h1 => ?_⟩
            by_cases q : j < i
            · exact hn j h0 q
            · have ej : j = 0 + (i : Int) := by omega
              rw [ej]; exact e
      · rintro σ H1 ⟨q, rfl, rfl, hn⟩
        exact k2 (.inr fun g z => hn g z.1 z.2.1 z.2.2) _ (Same.refl _)
    · refine ⟨_, rfl, _, _, rfl, rfl, _, rfl, iteDN w0 ?_⟩
      exact k2 (.inl (by omega)) _ (Same.refl _)
theorem fr_Ref_of (T : Tx K mg) : FnR P w K mg base (L2.CX P w) 3 (pad "classmethod" "Ref" "of" K) (spRefOf K) := fnr_of (ok_Ref_of T) (bd_Ref_of T)
end

end Hue

set_option Elab.async false
set_option linter.all false
set_option maxRecDepth 100000
set_option maxHeartbeats 4000000
namespace Hue
open PySem PySem.Spec PyProof.Rows L2
local macro_rules | `(tactic| walk_at "hp") => `(tactic| first
  | assumption
  | exact upd_same
  | (refine upd_old (by assumption) ?_; walk_at "hp")
  | (refine upd_oth (by assumption) ?_; walk_at "hp")
  | (refine same_get (by assumption) ?_; walk_at "hp")
  | (refine Fl.get (by assumption) (by assumption) ?_; walk_at "hp"))
local macro_rules | `(tactic| walk_at "seq") => `(tactic| first
  | assumption
  | exact T.t_BARRIERS _
  | exact SqL.of (by walk_at "hp")
  | exact SqT.of (by walk_at "hp"))
local macro_rules | `(tactic| walk_at "len") => `(tactic| first
  | exact Or.inl (by walk_at "seq")
  | exact Or.inr (by walk_at "seq"))
local macro_rules | `(tactic| walk_at "at") => `(tactic| first
  | rfl
  | assumption)

/-! ### the law's helpers -/
def spSame (K : PySem.W.Frag) : Sp := fun vs H Q _ => ∃ (a : Addr) (pl hu p2 g : Int), vs = [.ref a, .int p2, .int g] ∧ RfAt K H a pl hu ∧ p2 = pl ∧ g = hu ∧ Q (.bl true) H
def spBad (K : PySem.W.Frag) (D : Str) : Sp := fun vs H Q _ => ∃ (a : Addr), vs = [.ref a] ∧ H a = some (Exn (.ref (gad D K)) none a) ∧ ∀ H', Same H H' → Q (.bl true) H'
def spBadWord : Sp := fun vs H Q _ => ∃ (wd : Int), vs = [.int wd] ∧ (wd ≤ 0 ∨ ∀ g, ¬ hueW wd g) ∧ ∀ H', Same H H' → Q (.bl true) H'
def spBadRef : Sp := fun vs H Q _ => ∃ (pl g : Int), vs = [.int pl, .int g] ∧ (pl < 0 ∨ g < 0 ∨ 6 ≤ g) ∧ ∀ H', Same H H' → Q (.bl true) H'
def spBadDye (K : PySem.W.Frag) : Sp := fun vs H Q _ => ∃ (a : Addr) (pl hu g : Int), vs = [.ref a, .int g] ∧ RfAt K H a pl hu ∧ 0 ≤ pl ∧ (g < 0 ∨ 6 ≤ g) ∧ ∀ H', Same H H' → Q (.bl true) H'
def spUnlike (K : PySem.W.Frag) : Sp := fun vs H Q _ => ∃ (a : Addr) (pl hu m : Int), vs = [.ref a, .int pl, .int hu, .int m] ∧ RfAt K H a pl hu ∧ RfOk pl hu ∧ 0 ≤ m ∧ ∀ H', Same H H' → Q (.bl true) H'
theorem pw_inj {g h : Int} (g0 : 0 ≤ g) (g1 : g < 6) (h0 : 0 ≤ h) (h1 : h < 6) (e : pw g = pw h) : g = h := by
  rcases (by omega : g = 0 ∨ g = 1 ∨ g = 2 ∨ g = 3 ∨ g = 4 ∨ g = 5) with rfl | rfl | rfl | rfl | rfl | rfl <;>
    rcases (by omega : h = 0 ∨ h = 1 ∨ h = 2 ∨ h = 3 ∨ h = 4 ∨ h = 5) with rfl | rfl | rfl | rfl | rfl | rfl <;> first | rfl | exact absurd e (by decide)
theorem pw_pos {h : Int} (h0 : 0 ≤ h) (h1 : h < 6) : 0 < pw h := by
  rcases (by omega : h = 0 ∨ h = 1 ∨ h = 2 ∨ h = 3 ∨ h = 4 ∨ h = 5) with rfl | rfl | rfl | rfl | rfl | rfl <;> decide
theorem hue_word {pl g h : Int} (g0 : 0 ≤ g) (g1 : g < 6) (z : hueW (pl * 64 + pw g) h) : h = g := by
  have l := pw_lt g0 g1
  obtain ⟨h0, h1, e⟩ := z
  exact pw_inj h0 h1 g0 g1 (by omega)
theorem div_word {pl g : Int} (g0 : 0 ≤ g) (g1 : g < 6) : (pl * 64 + pw g) / 64 = pl := by
  have l := pw_lt g0 g1
  omega
theorem word_hue {pl g : Int} (g0 : 0 ≤ g) (g1 : g < 6) : hueW (pl * 64 + pw g) g := by
  have l := pw_lt g0 g1
  exact ⟨g0, g1, by omega⟩
theorem low_in : ∀ n : Fin 64, inV (V.int ((n.val : Nat) : Int)) pwVs = (n.val == 1 || n.val == 2 || n.val == 4 || n.val == 8 || n.val == 16 || n.val == 32) := by decide +kernel
theorem low_yes {i : Nat} (hi : i < 64) (h : inV (V.int ((i : Nat) : Int)) pwVs = true) : ∃ j : Nat, j < 6 ∧ ((i : Nat) : Int) = pw ((j : Nat) : Int) ∧ pwVs[j]? = some (V.int ((i : Nat) : Int)) ∧ ∀ (m : Nat) (z' : V), m < j → pwVs[m]? = some z' → eqV z' (V.int ((i : Nat) : Int)) = false := by
  rw [low_in ⟨i, hi⟩] at h
  simp only [Bool.or_eq_true, beq_iff_eq] at h
  have k : ∀ (j : Nat) (i : Nat), j < 6 → ((i : Nat) : Int) = pw ((j : Nat) : Int) → pwVs[j]? = some (V.int ((i : Nat) : Int)) → (∀ m : Fin j, ∀ z', pwVs[m.val]? = some z' → eqV z' (V.int ((i : Nat) : Int)) = false) →
      ∃ j : Nat, j < 6 ∧ ((i : Nat) : Int) = pw ((j : Nat) : Int) ∧ pwVs[j]? = some (V.int ((i : Nat) : Int)) ∧ ∀ (m : Nat) (z' : V), m < j → pwVs[m]? = some z' → eqV z' (V.int ((i : Nat) : Int)) = false :=
    fun j i h1 h2 h3 h4 => ⟨j, h1, h2, h3, fun m z' hm hz => h4 ⟨m, hm⟩ z' hz⟩
  have fin : ∀ (n : Nat) (c : V), (∀ m : Fin n, eqV (pwVs[m.val]?.getD .non) c = false) → ∀ m : Fin n, ∀ z', pwVs[m.val]? = some z' → eqV z' c = false := fun n c h m z' e => by
    have := h m
    rw [e] at this
    exact this
  rcases h with ((((h | h) | h) | h) | h) | h <;> subst h
  · exact k 0 1 (by decide) (by decide) rfl (fin _ _ (by decide +kernel))
  · exact k 1 2 (by decide) (by decide) rfl (fin _ _ (by decide +kernel))
  · exact k 2 4 (by decide) (by decide) rfl (fin _ _ (by decide +kernel))
  · exact k 3 8 (by decide) (by decide) rfl (fin _ _ (by decide +kernel))
  · exact k 4 16 (by decide) (by decide) rfl (fin _ _ (by decide +kernel))
  · exact k 5 32 (by decide) (by decide) rfl (fin _ _ (by decide +kernel))
theorem low_no {i : Nat} (hi : i < 64) (h : inV (V.int ((i : Nat) : Int)) pwVs = false) (pl : Int) : ∀ g, ¬ hueW (pl * 64 + ((i : Nat) : Int)) g := by
  rw [low_in ⟨i, hi⟩] at h
  simp only [Bool.or_eq_false_iff, beq_eq_false_iff_ne] at h
  obtain ⟨⟨⟨⟨⟨a1, a2⟩, a3⟩, a4⟩, a5⟩, a6⟩ := h
  rintro g ⟨g0, g1, e⟩
  have e2 : (pl * 64 + ((i : Nat) : Int)) % 64 = ((i : Nat) : Int) := by omega
  rw [e2] at e
  rcases (by omega : g = 0 ∨ g = 1 ∨ g = 2 ∨ g = 3 ∨ g = 4 ∨ g = 5) with rfl | rfl | rfl | rfl | rfl | rfl
  · exact a1 (by have : pw 0 = 1 := by decide
                 omega)
  · exact a2 (by have : pw 1 = 2 := by decide
                 omega)
  · exact a3 (by have : pw 2 = 4 := by decide
                 omega)
  · exact a4 (by have : pw 3 = 8 := by decide
                 omega)
  · exact a5 (by have : pw 4 = 16 := by decide
                 omega)
  · exact a6 (by have : pw 5 = 32 := by decide
                 omega)
theorem dec_ne {a b : Int} {c : Bool} (h : a ≠ b) : ((decide (a = b) && c) == false) = true := by rw [decide_eq_false h]; rfl
theorem all_mem {α : Type} {P : α → Prop} {xs : List α} (h : ∀ x ∈ xs, P x) {i : Nat} {y : α} (e : xs[i]? = some y) : P y := h y (List.mem_of_getElem? e)
theorem set_at {σ : L2.St} {i n : Nat} {x : Option V} (hl : σ.length = n) (h : i < n) : (σ.set i x)[i]? = some x := List.getElem?_set_self (by rw [hl]; exact h)
section
variable {P : Program} {w : World} {K : PySem.W.Frag} {mg : Str → Option Value} {base : Heap}
theorem ok_l_same (T : Tx K mg) : FnOk P w K mg base CX0 2 (gad "_law_same" K) (fdD K (gad "_law_same" K)) P_l_same (spSame K) := by
  refine T.F_l_same.ok sc_l_same (fun vs H Q E h => ?_) (fun cdv A outer s H vs Q E hr h => ?_)
  · obtain ⟨a, pl, hu, p2, g, rfl, _⟩ := h; rfl
  · obtain ⟨a, pl, hu, p2, g, rfl, ⟨dx, ha⟩, rfl, rfl, k⟩ := h
    refine ⟨_, PSs.nox ((pss_cons (ps_if (PW.pt (pw_or (pt_not (pt_val (pe_callB call_isi (by rfl) T.n_isinstance (by decide +kernel) (pa_cons (pv 0) (pa_cons (pe_gr rfl T.g_Ref) pa_nil))))) (pw_or (pt_not (pt_val (pe_call (ok_l_int T) (hr.mono (by decide)) rfl T.g_l_int T.F_l_int.kp (bd_l_int T) .nil pass0 (pa_cons (pe_fld (pv 0) rfl) pa_nil)))) (pw_or1 (pt_not (pt_val (pe_call (ok_l_int T) (hr.mono (by decide)) rfl T.g_l_int T.F_l_int.kp (bd_l_int T) .nil pass0 (pa_cons (pe_fld (pv 0) rfl) pa_nil)))))))) (pss_one (ps_ret pe_bl)) pss_nil)
      (pss_one (ps_ret (pe_and (pe_cmpR op_eq (pe_fld (pv 0) rfl) (pv 1) (nomark _)) (pe_one (pe_cmpR op_eq (pe_fld (pv 0) rfl) (pv 2) (nomark _)))))))), ?_⟩
    refine ⟨_, rfl, _, _, _, _, true, rfl, .own _, inst_ty T.i_Ref T.c_Ref ha, T.k_Ref_Ref, _, rfl, iteF ?_⟩
    refine ⟨_, rfl, a, _, dx, _, _, rfl, ha, T.c_Ref, T.na_Ref_place, rf_place _ _, _, rfl, _, rfl, iteF ?_⟩
    refine ⟨_, rfl, a, _, dx, _, _, rfl, ha, T.c_Ref, T.na_Ref_hue, rf_hue _ _, _, rfl, _, rfl, iteF ?_⟩
    refine ⟨_, rfl, a, _, dx, _, _, rfl, ha, T.c_Ref, T.na_Ref_place, rf_place _ _, _, rfl, rfl, _, rfl, iteY (decide_eq_true rfl) ?_⟩
    refine ⟨_, rfl, a, _, dx, _, _, rfl, ha, T.c_Ref, T.na_Ref_hue, rf_hue _ _, _, rfl, rfl, ?_⟩
    have e := decide_eq_true (rfl : V.int g = V.int g)
    show Q (.bl (decide (V.int g = V.int g))) H
    rw [e]
    exact k
theorem okS_l_bad (T : Tx K mg) : FnS P w K mg base 1 (gad "_law_bad" K) (fdD K (gad "_law_bad" K)) P_l_bad (spBad K "BadRef") := by
  refine fnS_of T.F_l_bad sc_l_bad (fun vs H Q E h => ?_) (fun cdv A outer s H vs Q E hr h => ?_)
  · obtain ⟨a, rfl, _⟩ := h; rfl
  · obtain ⟨a, rfl, ha, k⟩ := h
    refine ⟨_, PSs.nox ((pss_cons (ps_if (PW.pt (pw_or (pt_not (pt_val (pe_callB (call_isX T.e_BadRef) (by rfl) T.n_isinstance (by decide +kernel) (pa_cons (pv 0) (pa_cons (pe_gr rfl T.g_BadRef) pa_nil))))) (pw_or (pt_not (pt_val (pe_callB (call_isX T.e_BadRef) (by rfl) T.n_isinstance (by decide +kernel) (pa_cons (pv 0) (pa_cons (pe_bty "ValueError" rfl T.n_ValueError (by decide +kernel)) pa_nil))))) (pw_or1 (pt_val (pe_callB (call_isX T.e_BadRef) (by rfl) T.n_isinstance (by decide +kernel) (pa_cons (pv 0) (pa_cons (pe_gr rfl T.g_BadBook) pa_nil)))))))) (pss_one (ps_ret pe_bl)) pss_nil)
      (pss_one (ps_ret (pe_not (pe_callB (call_isXT T.e_BadRef) (by rfl) T.n_isinstance (by decide +kernel) (pa_cons (pv 0) (pa_cons (pe_tup (pa_cons (pe_gr rfl T.g_BadPhase) (pa_cons (pe_gr rfl T.g_Refused) (pa_cons (pe_gr rfl T.g_TooMany) (pa_cons (pe_gr rfl T.g_Wrong) pa_nil))))) pa_nil)))))))), ?_⟩
    refine ⟨_, rfl, _, _, _, _, rfl, ha, .own _, T.k_BadRef_BadRef, _, rfl, iteF ?_⟩
    refine ⟨_, rfl, _, _, _, _, rfl, ha, .ty _, T.k_BadRef_ValueError, _, rfl, iteF ?_⟩
    refine ⟨_, rfl, _, _, _, _, rfl, ha, .own _, T.k_BadRef_BadBook, _, rfl, iteF ?_⟩
    refine ⟨_, rfl, (show (4 : Nat) ≤ sizeLine by decide), fun p np => ?_⟩
    have e : PySem.W.kitAny K (.ref (gad "BadRef" K)) [.ref (gad "BadPhase" K), .ref (gad "Refused" K), .ref (gad "TooMany" K), .ref (gad "Wrong" K)] = some false := by
      unfold PySem.W.kitAny
      rw [T.k_BadRef_BadPhase]
      unfold PySem.W.kitAny
      rw [T.k_BadRef_Refused]
      unfold PySem.W.kitAny
      rw [T.k_BadRef_TooMany]
      unfold PySem.W.kitAny
      rw [T.k_BadRef_Wrong]
      rfl
    refine ⟨a, p, _, _, _, rfl, upd_old np ha, upd_same, .cons (.own _) (.cons (.own _) (.cons (.own _) (.cons (.own _) .nil))), e, _, rfl, ?_⟩
    exact k _ (Same.new np)
theorem ok_l_bad_word (T : Tx K mg) : FnOk P w K mg base CX0 5 (gad "_law_bad_word" K) (fdD K (gad "_law_bad_word" K)) P_l_bad_word spBadWord := by
  refine T.F_l_bad_word.ok sc_l_bad_word (fun vs H Q E h => ?_) (fun cdv A outer s H vs Q E hr h => ?_)
  · obtain ⟨wd, rfl, _⟩ := h; rfl
  · obtain ⟨wd, rfl, hn, k⟩ := h
    refine ⟨_, PSs.nox ((pss_cons (ps_try_val (c := .ref (gad "RoundError" K)) rfl rfl sc_l_bad_word.nd (i := 1) rfl rfl ⟨rfl, by decide, .inl T.g_RoundError⟩ takes0 (fun W pn xe tk hp => (pss_one (ps_expr (ClX.pe_cmeth (pe_gr rfl T.g_Ref) T.cr_Ref T.cm_Ref_of (fr_Ref_of T) (hr.mono (by decide)) (passT (N := N_l_bad_word) tk rfl) (pa_cons (pv 0) pa_nil))))) (fun a pn => (pss_one (ps_ret (pe_callX (okS_l_bad T) (roomS (hr.mono (by decide))) rfl T.g_l_bad T.F_l_bad.kp (bd_l_bad T) (pa_cons (pv 1) pa_nil))))))
      (pss_one (ps_ret pe_bl)))), ?_⟩
    refine ⟨rfl, _, rfl, wd, rfl, fun w0 g z => ?_, fun _ H' S σ' hl => ⟨true, T.xm_BadRef_RoundError, fun _ a na => ?_, nofun⟩⟩
    · rcases hn with h | h
      · omega
      · exact absurd z (h g)
    · exact ⟨_, set_at hl (by decide), a, rfl, upd_same, fun H2 S2 => k _ ((Same.upd S (S.free na)).trans S2)⟩
theorem ok_l_bad_ref (T : Tx K mg) : FnOk P w K mg base CX0 4 (gad "_law_bad_ref" K) (fdD K (gad "_law_bad_ref" K)) P_l_bad_ref spBadRef := by
  refine T.F_l_bad_ref.ok sc_l_bad_ref (fun vs H Q E h => ?_) (fun cdv A outer s H vs Q E hr h => ?_)
  · obtain ⟨pl, g, rfl, _⟩ := h; rfl
  · obtain ⟨pl, g, rfl, hn, k⟩ := h
    refine ⟨_, PSs.nox ((pss_cons (ps_try_val (c := .ref (gad "RoundError" K)) rfl rfl sc_l_bad_ref.nd (i := 2) rfl rfl ⟨rfl, by decide, .inl T.g_RoundError⟩ takes0 (fun W pn xe tk hp => (pss_one (ps_expr (pe_make T.mk_Ref (ok_Ref_init T) (hr.mono (by decide)) rfl T.g_Ref (bd_Ref_init T) .nil (passT (N := N_l_bad_ref) tk rfl) (pa_cons (pv 0) (pa_cons (pv 1) pa_nil)))))) (fun a pn => (pss_one (ps_ret (pe_callX (okS_l_bad T) (roomS (hr.mono (by decide))) rfl T.g_l_bad T.F_l_bad.kp (bd_l_bad T) (pa_cons (pv 2) pa_nil))))))
      (pss_one (ps_ret pe_bl)))), ?_⟩
    refine ⟨_, rfl, _, rfl, fun x dx nx ndx nex => ⟨x, dx, pl, g, rfl, upd_same, fun _ _ _ => by omega, fun _ H' S σ' hl => ⟨true, T.xm_BadRef_RoundError, fun _ a na => ?_, nofun⟩⟩⟩
    exact ⟨_, set_at hl (by decide), a, rfl, upd_same, fun H2 S2 => k _ ((Same.upd (Same.made nx ndx S) ((Same.made nx ndx S).free na)).trans S2)⟩
theorem ok_l_bad_dye (T : Tx K mg) : FnOk P w K mg base CX0 5 (gad "_law_bad_dye" K) (fdD K (gad "_law_bad_dye" K)) P_l_bad_dye (spBadDye K) := by
  refine T.F_l_bad_dye.ok sc_l_bad_dye (fun vs H Q E h => ?_) (fun cdv A outer s H vs Q E hr h => ?_)
  · obtain ⟨a, pl, hu, g, rfl, _⟩ := h; rfl
  · obtain ⟨a, pl, hu, g, rfl, ⟨dx, ha⟩, p0, hn, k⟩ := h
    refine ⟨_, PSs.nox ((pss_cons (ps_try_val (c := .ref (gad "RoundError" K)) rfl rfl sc_l_bad_dye.nd (i := 2) rfl rfl ⟨rfl, by decide, .inl T.g_RoundError⟩ takes0 (fun W pn xe tk hp => (pss_one (ps_expr (pe_meth (pv 0) T.c_Ref T.m_Ref_dyed (ok_Ref_dyed T) (hr.mono (by decide)) (bd_Ref_dyed T) .nil (passT (N := N_l_bad_dye) tk rfl) (pa_cons (pv 1) pa_nil))))) (fun a pn => (pss_one (ps_ret (pe_callX (okS_l_bad T) (roomS (hr.mono (by decide))) rfl T.g_l_bad T.F_l_bad.kp (bd_l_bad T) (pa_cons (pv 2) pa_nil))))))
      (pss_one (ps_ret pe_bl)))), ?_⟩
    refine ⟨_, rfl, a, dx, _, rfl, ha, rfl, _, rfl, a, pl, hu, g, rfl, ⟨dx, ha⟩, p0, fun _ _ => by omega, fun _ H' S σ' hl => ⟨true, T.xm_BadRef_RoundError, fun _ a na => ?_, nofun⟩⟩
    exact ⟨_, set_at hl (by decide), a, rfl, upd_same, fun H2 S2 => k _ ((Same.upd S (S.free na)).trans S2)⟩
theorem ok_l_unlike (T : Tx K mg) : FnOk P w K mg base CX0 6 (gad "_law_unlike" K) (fdD K (gad "_law_unlike" K)) P_l_unlike (spUnlike K) := by
  refine T.F_l_unlike.ok sc_l_unlike (fun vs H Q E h => ?_) (fun cdv A outer s H vs Q E hr h => ?_)
  · obtain ⟨a, pl, hu, m, rfl, _⟩ := h; rfl
  · obtain ⟨a, pl, hu, m, rfl, ⟨dx, ha⟩, ok, m0, k⟩ := h
    refine ⟨_, PSs.nox ((pss_cons (ps_for PassesOwn.never rfl (pi_list (pe_lst (pa_cons pe_int (pa_cons pe_int (pa_cons pe_int (pa_cons (pe_op op_pow pe_int pe_int) (pa_cons (pe_op op_pow pe_int pe_int) (pa_cons (pe_op op_add pe_int (pv 3)) pa_nil)))))))) (pg_name (i := 4) sc_l_unlike.nd rfl (Or.inl rfl)) (pss_one (ps_if (pt_not (pt_val (pe_call (ok_l_is T) (hr.mono (by decide)) rfl T.g_l_is T.F_l_is.kp (bd_l_is T) .nil pass0 (pa_cons (pe_cmpR (op_eqO T.o_Ref_eq (fr_Ref_eq T) (hr.mono (by decide)) pass0) (pv 0) (pe_make T.mk_Ref (ok_Ref_init T) (hr.mono (by decide)) rfl T.g_Ref (bd_Ref_init T) .nil passL (pa_cons (pe_op op_add (pv 1) (pv 4)) (pa_cons (pv 2) pa_nil))) (nomark _)) (pa_cons pe_bl pa_nil))))) (pss_one (ps_ret pe_bl)) pss_nil)))
      (pss_cons (ps_for PassesOwn.never rfl (pi_list (pe_lst (pa_cons pe_non (pa_cons pe_str (pa_cons (pe_callTy (call_strO T.o_Ref_str (fr_Ref_str T) (hr.mono (by decide)) pass0) (by rfl) T.n_str (by decide +kernel) (pa_cons (pv 0) pa_nil)) (pa_cons (pe_tup (pa_cons (pv 1) (pa_cons (pv 2) pa_nil))) (pa_cons (pe_lst (pa_cons (pv 1) (pa_cons (pv 2) pa_nil))) pa_nil))))))) (pg_name (i := 5) sc_l_unlike.nd rfl (Or.inl rfl)) (pss_one (ps_if (PW.pt (pw_or (pt_not (pt_val (pe_call (ok_l_is T) (hr.mono (by decide)) rfl T.g_l_is T.F_l_is.kp (bd_l_is T) .nil pass0 (pa_cons (pe_cmpR (op_eqO T.o_Ref_eq (fr_Ref_eq T) (hr.mono (by decide)) pass0) (pv 0) (pv 5) (nomark _)) (pa_cons pe_bl pa_nil))))) (pw_or1 (pt_not (pt_val (pe_call (ok_l_is T) (hr.mono (by decide)) rfl T.g_l_is T.F_l_is.kp (bd_l_is T) .nil pass0 (pa_cons (pe_cmpR (op_eqR T.o_Ref_eq T.ns_Ref (fr_Ref_eq T) (hr.mono (by decide)) pass0) (pv 5) (pv 0) (nomark _)) (pa_cons pe_bl pa_nil)))))))) (pss_one (ps_ret pe_bl)) pss_nil)))
      (pss_one (ps_ret pe_bl))))), ?_⟩
    refine ⟨_, _, rfl, rfl, ⟨by decide, by decide, by decide⟩, _, _, rfl, rfl, ⟨by decide, by decide, by decide⟩, _, rfl, _, _, rfl, rfl, (show (6 : Nat) ≤ sizeLine by decide), fun p1 np1 => ?_⟩
    refine ⟨p1, rfl, ⟨_, SqL.of upd_same⟩, for_list (K := K) (a := p1) (xs := [.int 2, .int 64, .int 65536, .int (2 ^ (32 : Int).toNat), .int (2 ^ (64 : Int).toNat), .int (1 + m)]) (fun i σ H' => ∃ q1 q2, σ = [some (.ref a), some (.int pl), some (.int hu), some (.int m), q1, q2] ∧ Same (L2.upd H p1 _) H')
      ⟨_, _, rfl, Same.refl _⟩ (fun i σ H' _ ⟨_, _, _, S⟩ => SqL.of (S _ _ upd_same)) ?_ ?_⟩
    · rintro i y σ H1 hy ⟨q1, q2, rfl, S⟩
      obtain ⟨u, rfl, u0⟩ : ∃ u : Int, y = .int u ∧ 0 < u := all_mem (P := fun y => ∃ u : Int, y = .int u ∧ 0 < u) (by
        intro x hx
        simp only [List.mem_cons, List.not_mem_nil, or_false] at hx
        rcases hx with rfl | rfl | rfl | rfl | rfl | rfl
        · exact ⟨_, rfl, by decide⟩
        · exact ⟨_, rfl, by decide⟩
        · exact ⟨_, rfl, by decide⟩
        · exact ⟨_, rfl, by decide⟩
        · exact ⟨_, rfl, by decide⟩
        · exact ⟨_, rfl, by omega⟩) hy
      have ha1 := S _ _ (upd_old np1 ha)
      refine ⟨_, rfl, _, rfl, _, rfl, _, _, rfl, rfl, _, rfl, fun x dx2 nx ndx nex => ?_⟩
      refine ⟨x, dx2, _, _, rfl, upd_same, fun _ _ _ H2 f2 h2 => ⟨rfl, ?_⟩, fun z => by have := ok.h0; have := ok.h1; have := ok.p0; omega⟩
      have S2 := Fl.made nx ndx f2
      refine ⟨a, dx, _, _, rfl, S2 _ _ ha1, inst_ty T.i_Ref T.c_Ref h2, T.nf_Ref_Ref, a, pl, hu, _, rfl, ⟨dx, S2 _ _ ha1⟩, .inl ⟨x, _, _, rfl, ⟨dx2, h2⟩, ?_⟩⟩
      refine ⟨_, _, rfl, _, rfl, _, rfl, iteE ?_ ?_⟩
      · rw [dec_ne (by omega)]; rfl
      · exact ⟨_, _, rfl, S.trans S2⟩
    · rintro σ H1 ⟨q1, q2, rfl, S⟩
      have ha1 := S _ _ (upd_old np1 ha)
      have S0 : Same H H1 := (Same.new np1).trans S
      refine ⟨_, rfl, a, dx, _, rfl, ha1, a, pl, hu, rfl, ⟨dx, ha1⟩, ok, _, rfl, _, rfl, _, rfl, (show (2 : Nat) ≤ sizeLine by decide), fun p4 n4 => ?_⟩
      refine ⟨_, rfl, _, rfl, (show (2 : Nat) ≤ sizeLine by decide), fun p5 n5 => ?_⟩
      refine ⟨(show (5 : Nat) ≤ sizeLine by decide), fun p3 n3 => ?_⟩
      have S4 : Same H1 (upd H1 p4 (.tup [.int pl, .int hu])) := Same.new n4
      have S5 := Same.upd (u := .lst [.int pl, .int hu]) S4 (S4.free n5)
      have S3 := Same.upd (u := .lst [.non, .str Str.empty, .str (rfText pl hu), .ref p4, .ref p5]) S5 (S5.free n3)
      have h4 : upd (upd (upd H1 p4 (.tup [.int pl, .int hu])) p5 (.lst [.int pl, .int hu])) p3 (.lst [.non, .str Str.empty, .str (rfText pl hu), .ref p4, .ref p5]) p4 = some (.tup [.int pl, .int hu]) := upd_old n3 (upd_old n5 upd_same)
      have h5 : upd (upd (upd H1 p4 (.tup [.int pl, .int hu])) p5 (.lst [.int pl, .int hu])) p3 (.lst [.non, .str Str.empty, .str (rfText pl hu), .ref p4, .ref p5]) p5 = some (.lst [.int pl, .int hu]) := upd_old n3 upd_same
      refine ⟨p3, rfl, ⟨_, SqL.of upd_same⟩, for_list (K := K) (a := p3) (xs := [.non, .str Str.empty, .str (rfText pl hu), .ref p4, .ref p5]) (fun i σ H' => ∃ q1 q2, σ = [some (.ref a), some (.int pl), some (.int hu), some (.int m), q1, q2] ∧
        Same (upd (upd (upd H1 p4 (.tup [.int pl, .int hu])) p5 (.lst [.int pl, .int hu])) p3 (.lst [.non, .str Str.empty, .str (rfText pl hu), .ref p4, .ref p5])) H') ⟨_, _, rfl, Same.refl _⟩ (fun i σ H' _ ⟨_, _, _, S⟩ => SqL.of (S _ _ upd_same)) ?_ ?_⟩
      · rintro i y σ H2 hy ⟨q1, q2, rfl, S6⟩
        obtain ⟨t, ty, nf, kt, hs⟩ : ∃ t, TyX K H2 y t ∧ PySem.W.notFirst K (gad "Ref" K) t = true ∧ PySem.W.kitOne K t (.ref (gad "Ref" K)) = some false ∧ (y = .non ∨ (∃ z, y = .str z) ∨ ∃ p xs, y = .ref p ∧ (SqT K H2 p xs ∨ SqL K H2 p xs)) :=
          all_mem (P := fun y => ∃ t, TyX K H2 y t ∧ PySem.W.notFirst K (gad "Ref" K) t = true ∧ PySem.W.kitOne K t (.ref (gad "Ref" K)) = some false ∧ (y = .non ∨ (∃ z, y = .str z) ∨ ∃ p xs, y = .ref p ∧ (SqT K H2 p xs ∨ SqL K H2 p xs))) (by
            intro x hx
            simp only [List.mem_cons, List.not_mem_nil, or_false] at hx
            rcases hx with rfl | rfl | rfl | rfl | rfl
            · exact ⟨_, .base .non, T.nf_Ref_NoneType, T.k_NoneType_Ref, .inl rfl⟩
            · exact ⟨_, .base (.str _), T.nf_Ref_str, T.k_str_Ref, .inr (.inl ⟨_, rfl⟩)⟩
            · exact ⟨_, .base (.str _), T.nf_Ref_str, T.k_str_Ref, .inr (.inl ⟨_, rfl⟩)⟩
            · exact ⟨_, .base (.tup (S6 _ _ h4)), T.nf_Ref_tuple, T.k_tuple_Ref, .inr (.inr ⟨_, _, rfl, .inl (SqT.of (S6 _ _ h4))⟩)⟩
            · exact ⟨_, .base (.lst (S6 _ _ h5)), T.nf_Ref_list, T.k_list_Ref, .inr (.inr ⟨_, _, rfl, .inr (SqL.of (S6 _ _ h5))⟩)⟩) hy
        have ha2 := S6 _ _ (S3 _ _ ha1)
        refine ⟨_, rfl, _, rfl, a, dx, _, t, rfl, ha2, ty, nf, a, pl, hu, y, rfl, ⟨dx, ha2⟩, .inr ⟨t, ty, kt, ?_⟩⟩
        refine ⟨_, _, rfl, _, rfl, _, rfl, iteF ?_⟩
        refine ⟨_, rfl, _, rfl, a, dx, _, rfl, ha2, hs, a, pl, hu, y, rfl, ⟨dx, ha2⟩, .inr ⟨t, ty, kt, ?_⟩⟩
        refine ⟨_, _, rfl, _, rfl, _, rfl, iteF ?_⟩
        exact ⟨_, _, rfl, S6⟩
      · rintro σ H2 ⟨q1, q2, rfl, S6⟩
        exact k _ ((S0.trans S3).trans S6)
def spLaw (K : PySem.W.Frag) : Sp := fun vs H Q _ => ∃ (a : Addr) (ns : List Int), vs = [.ref a] ∧ SqL K H a (ns.map V.int) ∧ ns.length ≤ 63 ∧ ∀ H', Q (.bl true) H'
theorem ok_law (T : Tx K mg) : FnOk P w K mg base CX0 9 (gad "law" K) (fdD K (gad "law" K)) P_law (spLaw K) := by
  obtain ⟨uB, hB⟩ := T.cv_Ref_BITS
  refine T.F_law.ok sc_law (fun vs H Q E h => ?_) (fun cdv A outer s H vs Q E hr h => ?_)
  · obtain ⟨a, ns, rfl, _⟩ := h; rfl
  · obtain ⟨sa, ns, rfl, hS, hlen, k⟩ := h
    refine ⟨_, PSs.nox ((pss_cons (ps_set (i := 1) sc_law.nd rfl (Or.inl rfl) (pe_call (ok_l_pool T) (hr.mono (by decide)) rfl T.g_l_pool T.F_l_pool.kp (bd_l_pool T) .nil pass0 (pa_cons (pv 0) pa_nil)))
      (pss_cons (ps_set (i := 2) sc_law.nd rfl (Or.inl rfl) (pe_call (ok_l_take T) (hr.mono (by decide)) rfl T.g_l_take T.F_l_take.kp (bd_l_take T) .nil pass0 (pa_cons (pv 1) (pa_cons pe_int pa_nil))))
      (pss_cons (ps_set (i := 3) sc_law.nd rfl (Or.inl rfl) (pe_call (ok_l_take T) (hr.mono (by decide)) rfl T.g_l_take T.F_l_take.kp (bd_l_take T) .nil pass0 (pa_cons (pv 1) (pa_cons pe_int pa_nil))))
      (pss_cons (ps_set (i := 4) sc_law.nd rfl (Or.inl rfl) (pe_call (ok_l_number T) (hr.mono (by decide)) rfl T.g_l_number T.F_l_number.kp (bd_l_number T) .nil pass0 (pa_cons (pv 1) pa_nil)))
      (pss_cons (ps_set (i := 5) sc_law.nd rfl (Or.inl rfl) (pe_call (ok_l_number T) (hr.mono (by decide)) rfl T.g_l_number T.F_l_number.kp (bd_l_number T) .nil pass0 (pa_cons (pv 1) pa_nil)))
      (pss_cons (ps_set (i := 6) sc_law.nd rfl (Or.inl rfl) (pe_lst (pa_cons pe_int (pa_cons pe_int (pa_cons pe_int (pa_cons pe_int (pa_cons pe_int (pa_cons pe_int pa_nil))))))))
      (pss_cons (ps_set (i := 7) sc_law.nd rfl (Or.inl rfl) (pe_op op_add (pe_op op_mul (pv 4) pe_int) (pe_ix ix_list (pv 6) (pv 2) (fun _ _ => rfl))))
      (pss_cons (ps_set (i := 8) sc_law.nd rfl (Or.inl rfl) (pe_make T.mk_Ref (ok_Ref_init T) (hr.mono (by decide)) rfl T.g_Ref (bd_Ref_init T) .nil passL (pa_cons (pv 4) (pa_cons (pv 2) pa_nil))))
      (pss_cons (ps_if (PW.pt (pw_or (pt_not (pt_val (pe_call (ok_l_same T) (hr.mono (by decide)) rfl T.g_l_same T.F_l_same.kp (bd_l_same T) .nil pass0 (pa_cons (pv 8) (pa_cons (pv 4) (pa_cons (pv 2) pa_nil)))))) (pw_or (pt_not (pt_val (pe_call (ok_l_int T) (hr.mono (by decide)) rfl T.g_l_int T.F_l_int.kp (bd_l_int T) .nil pass0 (pa_cons (ClX.pe_cval (pe_gr rfl T.g_Ref)) pa_nil)))) (pw_or1 (pt_cmpR op_ne (ClX.pe_cval (pe_gr rfl T.g_Ref)) pe_int (nomark _)))))) (pss_one (ps_ret pe_bl)) pss_nil)
      (pss_cons (ps_if (PW.pt (pw_or (pt_not (pt_val (pe_call (ok_l_int T) (hr.mono (by decide)) rfl T.g_l_int T.F_l_int.kp (bd_l_int T) .nil pass0 (pa_cons (pe_prop (pv 8) T.c_Ref T.p_Ref_word (ok_Ref_word T) (hr.mono (by decide)) (bd_Ref_word T) .nil pass0 rfl) pa_nil)))) (pw_or (pt_cmpR op_ne (pe_prop (pv 8) T.c_Ref T.p_Ref_word (ok_Ref_word T) (hr.mono (by decide)) (bd_Ref_word T) .nil pass0 rfl) (pv 7) (nomark _)) (pw_or1 (pt_not (pt_val (pe_call (ok_l_same T) (hr.mono (by decide)) rfl T.g_l_same T.F_l_same.kp (bd_l_same T) .nil pass0 (pa_cons (ClX.pe_cmeth (pe_gr rfl T.g_Ref) T.cr_Ref T.cm_Ref_of (fr_Ref_of T) (hr.mono (by decide)) passL (pa_cons (pv 7) pa_nil)) (pa_cons (pv 4) (pa_cons (pv 2) pa_nil)))))))))) (pss_one (ps_ret pe_bl)) pss_nil)
      (pss_cons (ps_if (pt_cmpR op_ne (pe_callTy (call_strO T.o_Ref_str (fr_Ref_str T) (hr.mono (by decide)) pass0) (by rfl) T.n_str (by decide +kernel) (pa_cons (pv 8) pa_nil)) (pe_op op_add_str (pe_op op_add_str (pe_callTy call_str_int (by rfl) T.n_str (by decide +kernel) (pa_cons (pv 4) pa_nil)) pe_str) (pe_callTy call_str_int (by rfl) T.n_str (by decide +kernel) (pa_cons (pv 2) pa_nil))) (nomark _)) (pss_one (ps_ret pe_bl)) pss_nil)
      (pss_cons (ps_if (PW.pt (pw_or (pt_not (pt_val (pe_call (ok_l_is T) (hr.mono (by decide)) rfl T.g_l_is T.F_l_is.kp (bd_l_is T) .nil pass0 (pa_cons (pe_cmpR (op_eqO T.o_Ref_eq (fr_Ref_eq T) (hr.mono (by decide)) pass0) (pv 8) (ClX.pe_cmeth (pe_gr rfl T.g_Ref) T.cr_Ref T.cm_Ref_of (fr_Ref_of T) (hr.mono (by decide)) passL (pa_cons (pv 7) pa_nil)) (nomark _)) (pa_cons pe_bl pa_nil))))) (pw_or1 (pt_not (pt_val (pe_call (ok_l_is T) (hr.mono (by decide)) rfl T.g_l_is T.F_l_is.kp (bd_l_is T) .nil pass0 (pa_cons (pe_cmpR (op_eqO T.o_Ref_eq (fr_Ref_eq T) (hr.mono (by decide)) pass0) (pv 8) (pe_make T.mk_Ref (ok_Ref_init T) (hr.mono (by decide)) rfl T.g_Ref (bd_Ref_init T) .nil passL (pa_cons (pe_op op_add (pv 4) pe_int) (pa_cons (pv 2) pa_nil))) (nomark _)) (pa_cons pe_bl pa_nil)))))))) (pss_one (ps_ret pe_bl)) pss_nil)
      (pss_cons (ps_if (PW.pt (pw_or (pt_not (pt_val (pe_call (ok_l_is T) (hr.mono (by decide)) rfl T.g_l_is T.F_l_is.kp (bd_l_is T) .nil pass0 (pa_cons (pe_cmpR (op_eqO T.o_Ref_eq (fr_Ref_eq T) (hr.mono (by decide)) pass0) (pv 8) (pe_make T.mk_Ref (ok_Ref_init T) (hr.mono (by decide)) rfl T.g_Ref (bd_Ref_init T) .nil passL (pa_cons (pv 4) (pa_cons (pv 3) pa_nil))) (nomark _)) (pa_cons (pe_cmpR op_eq (pv 2) (pv 3) (nomark _)) pa_nil))))) (pw_or (pt_not (pt_val (pe_call (ok_l_is T) (hr.mono (by decide)) rfl T.g_l_is T.F_l_is.kp (bd_l_is T) .nil pass0 (pa_cons (pe_cmpR (op_eqO T.o_Ref_eq (fr_Ref_eq T) (hr.mono (by decide)) pass0) (pv 8) (pv 7) (nomark _)) (pa_cons pe_bl pa_nil))))) (pw_or1 (pt_not (pt_val (pe_call (ok_l_unlike T) (hr.mono (by decide)) rfl T.g_l_unlike T.F_l_unlike.kp (bd_l_unlike T) .nil pass0 (pa_cons (pv 8) (pa_cons (pv 4) (pa_cons (pv 2) (pa_cons (pv 5) pa_nil))))))))))) (pss_one (ps_ret pe_bl)) pss_nil)
      (pss_cons (ps_set (i := 9) sc_law.nd rfl (Or.inl rfl) (pe_meth (pv 8) T.c_Ref T.m_Ref_dyed (ok_Ref_dyed T) (hr.mono (by decide)) (bd_Ref_dyed T) .nil passL (pa_cons (pv 3) pa_nil)))
      (pss_cons (ps_if (PW.pt (pw_or (pt_not (pt_val (pe_call (ok_l_same T) (hr.mono (by decide)) rfl T.g_l_same T.F_l_same.kp (bd_l_same T) .nil pass0 (pa_cons (pv 9) (pa_cons (pv 4) (pa_cons (pv 3) pa_nil)))))) (pw_or1 (pt_cmpR op_ne (pe_prop (pv 9) T.c_Ref T.p_Ref_word (ok_Ref_word T) (hr.mono (by decide)) (bd_Ref_word T) .nil pass0 rfl) (pe_op op_add (pe_op op_mul (pv 4) pe_int) (pe_ix ix_list (pv 6) (pv 3) (fun _ _ => rfl))) (nomark _))))) (pss_one (ps_ret pe_bl)) pss_nil)
      (pss_cons (ps_set (i := 10) sc_law.nd rfl (Or.inl rfl) (pe_op (op_ownI T.c_Ref T.b_Ref_and (by decide +kernel) (by decide +kernel) (ok_Ref_and T) (hr.mono (by decide)) (bd_Ref_and T) pass0) (pv 8) (pv 5)))
      (pss_cons (ps_if (PW.pt (pw_or (pt_not (pt_val (pe_call (ok_l_int T) (hr.mono (by decide)) rfl T.g_l_int T.F_l_int.kp (bd_l_int T) .nil pass0 (pa_cons (pv 10) pa_nil)))) (pw_or (pt_cmpR op_ne (pv 10) (pe_op op_and (pv 7) (pv 5)) (nomark _)) (pw_or1 (pt_not (pt_val (pe_call (ok_l_same T) (hr.mono (by decide)) rfl T.g_l_same T.F_l_same.kp (bd_l_same T) .nil pass0 (pa_cons (pv 8) (pa_cons (pv 4) (pa_cons (pv 2) pa_nil)))))))))) (pss_one (ps_ret pe_bl)) pss_nil)
      (pss_cons (ps_for PassesOwn.never rfl (pi_range1 (by rfl) T.n_range (pa_cons pe_int pa_nil)) (pg_name (i := 11) sc_law.nd rfl (Or.inl rfl)) (pss_one (ps_if (pt_cmpR op_in_seq (pv 11) (pv 6) (by rfl)) (pss_one (ps_if (pt_not (pt_val (pe_call (ok_l_same T) (hr.mono (by decide)) rfl T.g_l_same T.F_l_same.kp (bd_l_same T) .nil pass0 (pa_cons (ClX.pe_cmeth (pe_gr rfl T.g_Ref) T.cr_Ref T.cm_Ref_of (fr_Ref_of T) (hr.mono (by decide)) passL (pa_cons (pe_op op_add (pe_op op_mul (pv 4) pe_int) (pv 11)) pa_nil)) (pa_cons (pv 4) (pa_cons (pe_bm PySem.F.plainAttrs_list PySem.F.slot_list_index PySem.F.type_list_index mt_index (pv 6) (pa_cons (pv 11) pa_nil)) pa_nil)))))) (pss_one (ps_ret pe_bl)) pss_nil)) (pss_one (ps_if (pt_not (pt_val (pe_call (ok_l_bad_word T) (hr.mono (by decide)) rfl T.g_l_bad_word T.F_l_bad_word.kp (bd_l_bad_word T) .nil pass0 (pa_cons (pe_op op_add (pe_op op_mul (pv 4) pe_int) (pv 11)) pa_nil)))) (pss_one (ps_ret pe_bl)) pss_nil)))))
      (pss_cons (ps_if (PW.pt (pw_or (pt_not (pt_val (pe_call (ok_l_bad_word T) (hr.mono (by decide)) rfl T.g_l_bad_word T.F_l_bad_word.kp (bd_l_bad_word T) .nil pass0 (pa_cons (pe_op op_sub (pe_un un_neg pe_int) (pv 4)) pa_nil)))) (pw_or1 (pt_not (pt_val (pe_call (ok_l_bad_word T) (hr.mono (by decide)) rfl T.g_l_bad_word T.F_l_bad_word.kp (bd_l_bad_word T) .nil pass0 (pa_cons (pe_un un_neg (pv 7)) pa_nil))))))) (pss_one (ps_ret pe_bl)) pss_nil)
      (pss_cons (ps_if (PW.pt (pw_or (pt_not (pt_val (pe_call (ok_l_bad_ref T) (hr.mono (by decide)) rfl T.g_l_bad_ref T.F_l_bad_ref.kp (bd_l_bad_ref T) .nil pass0 (pa_cons (pe_op op_sub (pe_un un_neg pe_int) (pv 4)) (pa_cons (pv 2) pa_nil))))) (pw_or (pt_not (pt_val (pe_call (ok_l_bad_ref T) (hr.mono (by decide)) rfl T.g_l_bad_ref T.F_l_bad_ref.kp (bd_l_bad_ref T) .nil pass0 (pa_cons (pv 4) (pa_cons pe_int pa_nil))))) (pw_or1 (pt_not (pt_val (pe_call (ok_l_bad_ref T) (hr.mono (by decide)) rfl T.g_l_bad_ref T.F_l_bad_ref.kp (bd_l_bad_ref T) .nil pass0 (pa_cons (pv 4) (pa_cons (pe_un un_neg pe_int) pa_nil))))))))) (pss_one (ps_ret pe_bl)) pss_nil)
      (pss_cons (ps_if (PW.pt (pw_or (pt_not (pt_val (pe_call (ok_l_bad_dye T) (hr.mono (by decide)) rfl T.g_l_bad_dye T.F_l_bad_dye.kp (bd_l_bad_dye T) .nil pass0 (pa_cons (pv 8) (pa_cons pe_int pa_nil))))) (pw_or1 (pt_not (pt_val (pe_call (ok_l_bad_dye T) (hr.mono (by decide)) rfl T.g_l_bad_dye T.F_l_bad_dye.kp (bd_l_bad_dye T) .nil pass0 (pa_cons (pv 8) (pa_cons (pe_op op_sub (pe_un un_neg pe_int) (pv 3)) pa_nil)))))))) (pss_one (ps_ret pe_bl)) pss_nil)
      (pss_cons (ps_for PassesOwn.never rfl (pi_list (pe_lst (pa_cons (pe_op op_add pe_int (pv 3)) (pa_cons (pe_op op_add pe_int (pv 5)) (pa_cons (pe_op op_sub (pe_un un_neg pe_int) (pv 5)) pa_nil))))) (pg_name (i := 12) sc_law.nd rfl (Or.inl rfl)) (pss_one (ps_if (PW.pt (pw_or (pt_not (pt_val (pe_call (ok_l_bad_ref T) (hr.mono (by decide)) rfl T.g_l_bad_ref T.F_l_bad_ref.kp (bd_l_bad_ref T) .nil pass0 (pa_cons (pv 4) (pa_cons (pv 12) pa_nil))))) (pw_or1 (pt_not (pt_val (pe_call (ok_l_bad_dye T) (hr.mono (by decide)) rfl T.g_l_bad_dye T.F_l_bad_dye.kp (bd_l_bad_dye T) .nil pass0 (pa_cons (pv 8) (pa_cons (pv 12) pa_nil)))))))) (pss_one (ps_ret pe_bl)) pss_nil)))
      (pss_one (ps_ret (pe_and (pe_call (ok_l_same T) (hr.mono (by decide)) rfl T.g_l_same T.F_l_same.kp (bd_l_same T) .nil pass0 (pa_cons (pv 8) (pa_cons (pv 4) (pa_cons (pv 2) pa_nil)))) (pe_one (pe_cmpR op_eq (pe_prop (pv 8) T.c_Ref T.p_Ref_word (ok_Ref_word T) (hr.mono (by decide)) (bd_Ref_word T) .nil pass0 rfl) (pv 7) (nomark _))))))))))))))))))))))))))))), ?_⟩
    refine ⟨_, rfl, sa, ns, rfl, hS, hlen, fun l H1 nl S1 P1 => ?_⟩
    refine ⟨_, rfl, l, 6, rfl, P1, by decide, fun g H2 g0 g1 f2 P2 => ?_⟩
    refine ⟨_, rfl, l, 6, rfl, P2, by decide, fun o H3 o0 o1 f3 P3 => ?_⟩
    refine ⟨_, rfl, l, rfl, P3, fun pl H4 q0 q1 f4 P4 => ?_⟩
    refine ⟨_, rfl, l, rfl, P4, fun m H5 m0 m1 f5 P5 => ?_⟩
    have hb := at_pw g0 g1
    have hbo := at_pw o0 o1
    have lw := pw_lt g0 g1
    have lpos := pw_pos g0 g1
    have ok : RfOk pl g := ⟨q0, Nat.lt_of_lt_of_le q1 (by decide), g0, g1⟩
    refine ⟨(show (6 : Nat) ≤ sizeLine by decide), fun p1 np1 => ?_⟩
    refine ⟨_, rfl, _, _, rfl, rfl, (.inr ⟨by decide, by decide⟩), _, rfl, _, rfl, _, _, _, _, rfl, rfl, (by walk_at "seq"), (by walk_at "at"), _, _, rfl, rfl, ?_⟩
    refine ⟨_, rfl, _, rfl, fun x dx nx ndx nex => ⟨x, dx, pl, g, rfl, upd_same, fun _ _ _ H7 f7 h7 => ⟨rfl, ?_⟩, fun z => by omega⟩⟩
    have S7 := Fl.made nx ndx f7
    have hb7 := S7 _ _ (upd_same (H := H5) (a := p1) (o := .lst pwVs))
    refine ⟨_, rfl, _, rfl, _, rfl, x, pl, g, pl, g, rfl, ⟨dx, h7⟩, rfl, rfl, _, rfl, iteF ⟨_, _, _, uB, rfl, T.cr_Ref, hB, _, rfl, _, rfl, iteF ⟨_, _, _, uB, rfl, T.cr_Ref, hB, rfl, _, rfl, iteF ?_⟩⟩⟩
    refine ⟨_, rfl, x, dx, _, rfl, h7, x, pl, g, rfl, ⟨dx, h7⟩, ok, _, rfl, _, rfl, iteF ?_⟩
    refine ⟨_, rfl, x, dx, _, rfl, h7, x, pl, g, rfl, ⟨dx, h7⟩, ok, _, rfl, rfl, _, rfl, iteNS rfl ?_⟩
    refine ⟨rfl, _, rfl, _, rfl, fun _ g' z r1 H8 n1 S8 R8 => ?_, fun z => ?_⟩
    · have eg := hue_word g0 g1 z
      subst eg
      rw [div_word g0 g1] at R8
      have h8 := S8 _ _ h7
      refine ⟨_, rfl, _, rfl, r1, pl, g', pl, g', rfl, R8, rfl, rfl, _, rfl, iteF ?_⟩
      have pa : pl.natAbs < 2 ^ 210 := by have := ok.p1; omega
      have ga : g'.natAbs < 2 ^ 210 := Nat.lt_of_lt_of_le (show g'.natAbs < 6 by omega) (by decide)
      have l1 := num_len pa
      have l2 := num_len ga
      have c1 : (":" : Str).length = 1 := by decide +kernel
      refine ⟨_, rfl, x, dx, _, rfl, h8, x, pl, g', rfl, ⟨dx, h8⟩, ok, _, rfl, _, rfl, _, rfl, log_lt pa, _, _, rfl, rfl, ?_, _, rfl, _, rfl, log_lt ga, _, _, rfl, rfl, ?_, rfl, _, rfl, iteNS rfl ?_⟩
      · rw [c1]; exact Nat.le_trans (show _ ≤ 2000 by show (Str.ofString (toString pl)).length + 1 ≤ 2000; omega) (by decide)
      · rw [len_app, c1]; exact Nat.le_trans (show _ ≤ 4000 by show (Str.ofString (toString pl)).length + 1 + (Str.ofString (toString g')).length ≤ 4000; omega) (by decide)
      refine ⟨_, rfl, rfl, _, rfl, _, rfl, fun _ g2 z2 r2 H9 n2 S9 R9 => ?_, fun z => ?_⟩
      rotate_left
      · rcases z with z | z
        · omega
        · exact absurd (word_hue g0 g1) (z g')
      have eg2 := hue_word g0 g1 z2
      subst eg2
      rw [div_word g0 g1] at R9
      have h9 := S9 _ _ h8
      obtain ⟨dr2, hr2⟩ := id R9
      refine ⟨x, dx, _, _, rfl, h9, inst_ty T.i_Ref T.c_Ref hr2, T.nf_Ref_Ref, x, pl, g2, _, rfl, ⟨dx, h9⟩, .inl ⟨r2, _, _, rfl, R9, ?_⟩⟩
      refine ⟨_, _, rfl, _, rfl, _, rfl, iteE (by simp) ?_⟩
      refine ⟨_, rfl, _, rfl, _, _, rfl, rfl, _, rfl, fun y dy ny ndy ney => ⟨y, dy, _, _, rfl, upd_same, fun _ _ _ H10 f10 h10 => ⟨rfl, ?_⟩, fun z => by omega⟩⟩
      have S10 := Fl.made ny ndy f10
      have h10x := S10 _ _ h9
      refine ⟨x, dx, _, _, rfl, h10x, inst_ty T.i_Ref T.c_Ref h10, T.nf_Ref_Ref, x, pl, g2, _, rfl, ⟨dx, h10x⟩, .inl ⟨y, _, _, rfl, ⟨dy, h10⟩, ?_⟩⟩
      refine ⟨_, _, rfl, _, rfl, _, rfl, iteE (by rw [dec_ne (by omega)]; rfl) ?_⟩
      refine ⟨_, rfl, _, rfl, _, rfl, fun u du nu ndu neu => ⟨u, du, _, _, rfl, upd_same, fun _ _ _ H11 f11 h11 => ⟨rfl, ?_⟩, fun z => by omega⟩⟩
      have S11 := Fl.made nu ndu f11
      have h11x := S11 _ _ h10x
      refine ⟨x, dx, _, _, rfl, h11x, inst_ty T.i_Ref T.c_Ref h11, T.nf_Ref_Ref, x, pl, g2, _, rfl, ⟨dx, h11x⟩, .inl ⟨u, _, _, rfl, ⟨du, h11⟩, ?_⟩⟩
      refine ⟨_, rfl, _, rfl, rfl, _, _, rfl, _, rfl, _, rfl, iteE ?_ ?_⟩
      · by_cases e : g2 = o
        · subst e; simp
        · have e2 : decide (V.int g2 = V.int o) = false := decide_eq_false fun z => e (V.int.inj z)
          rw [e2, decide_eq_false e]; simp
      refine ⟨_, rfl, _, rfl, x, dx, _, _, rfl, h11x, .base (.int _), T.nf_Ref_int, x, pl, g2, _, rfl, ⟨dx, h11x⟩, .inr ⟨_, .base (.int _), T.k_int_Ref, _, _, rfl, _, rfl, _, rfl, iteF ?_⟩⟩
      refine ⟨_, rfl, _, rfl, _, rfl, _, rfl, x, pl, g2, m, rfl, ⟨dx, h11x⟩, ok, m0, fun H12 S12 => ⟨_, rfl, iteF ?_⟩⟩
      have h12 := S12 _ _ h11x
      refine ⟨_, rfl, x, dx, _, rfl, h12, rfl, _, rfl, x, pl, g2, o, rfl, ⟨dx, h12⟩, q0, fun _ _ v H13 nv S13 R13 => ?_, fun z => by omega⟩
      have h13 := S13 _ _ h12
      obtain ⟨dv, hv⟩ := id R13
      have okv : RfOk pl o := ⟨q0, ok.p1, o0, o1⟩
      have hb13 := S13 _ _ (S12 _ _ (S11 _ _ (S10 _ _ (S9 _ _ (S8 _ _ hb7)))))
      refine ⟨_, rfl, _, rfl, _, rfl, v, pl, o, pl, o, rfl, R13, rfl, rfl, _, rfl, iteF ?_⟩
      refine ⟨_, rfl, v, dv, _, rfl, hv, v, pl, o, rfl, R13, okv, _, rfl, _, _, rfl, rfl, (.inr ⟨by decide, by decide⟩), _, rfl, _, rfl, _, _, _, _, rfl, rfl, SqL.of hb13, hbo, _, _, rfl, rfl, rfl, _, rfl, iteNS rfl ?_⟩
      refine ⟨_, rfl, _, rfl, x, dx, _, _, rfl, h13, rfl, x, pl, g2, m, rfl, ⟨dx, h13⟩, ok, ?_⟩
      refine ⟨_, rfl, _, rfl, _, rfl, iteF ?_⟩
      refine ⟨_, rfl, _, rfl, _, rfl, _, _, rfl, rfl, rfl, _, rfl, iteNS rfl ?_⟩
      refine ⟨_, rfl, _, rfl, _, rfl, x, pl, g2, pl, g2, rfl, ⟨dx, h13⟩, rfl, rfl, _, rfl, iteF ?_⟩
      refine ⟨64, rfl, by decide, by decide, for_range (n := 64) (fun j σ H' => ∃ b1 b2, σ = [some (.ref sa), some (.ref l), some (.int g2), some (.int o), some (.int pl), some (.int m), some (.ref p1), some (.int (pl * 64 + pw g2)), some (.ref x), some (.ref v), some (.int (Builtin.bitAnd (wordOf pl g2) m)), b1, b2] ∧ Same H13 H')
        ⟨_, _, rfl, Same.refl _⟩ ?_ ?_⟩
      · rintro j σ H14 hj ⟨b1, b2, rfl, S14⟩
        have hb14 := S14 _ _ hb13
        have e0 : (0 + (j : Int)) = ((j : Nat) : Int) := by omega
        rw [e0]
        refine ⟨_, rfl, _, rfl, _, _, rfl, .inl (SqL.of hb14), rfl, rfl, ?_⟩
        refine ⟨_, rfl, ?_⟩
        refine iteB (fun c => ?_) (fun c => ?_)
        · obtain ⟨jj, j6, ej, hjj, hno⟩ := low_yes hj c
          have hw : hueW (pl * 64 + ((j : Nat) : Int)) ((jj : Nat) : Int) := ⟨by omega, by omega, by omega⟩
          refine ⟨rfl, _, rfl, _, _, rfl, rfl, (.inr ⟨by decide, by decide⟩), _, rfl, _, _, rfl, rfl, _, rfl, fun _ g3 z3 r3 H15 n3 S15 R15 => ?_, fun z => ?_⟩
          · have e3 : g3 = ((jj : Nat) : Int) := pw_inj z3.1 z3.2.1 (by omega) (by omega) (by have := z3.2.2; have := hw.2.2; omega)
            subst e3
            have e4 : (pl * 64 + ((j : Nat) : Int)) / 64 = pl := by omega
            rw [e4] at R15
            refine ⟨_, rfl, _, rfl, .inl ⟨rfl, _, SqL.of (S15 _ _ hb14)⟩, _, rfl, p1, pwVs, _, jj, _, rfl, rfl, SqL.of (S15 _ _ hb14), rfl, rfl, hjj, beq_self_eq_true ((j : Nat) : Int), hno, r3, pl, _, pl, _, rfl, R15, rfl, rfl, _, rfl, iteF ?_⟩
            exact ⟨_, _, rfl, S14.trans S15⟩
          · rcases z with z | z
            · have : 0 < pw ((jj : Nat) : Int) := pw_pos (by omega) (by omega)
              omega
            · exact absurd hw (z _)
        · refine ⟨_, rfl, _, _, rfl, rfl, (.inr ⟨by decide, by decide⟩), _, rfl, _, _, rfl, rfl, _, rfl, .inr (low_no hj c pl), fun H15 S15 => ⟨_, rfl, iteF ?_⟩⟩
          exact ⟨_, _, rfl, S14.trans S15⟩
      · rintro σ H14 ⟨b1, b2, rfl, S14⟩
        have h14 := S14 _ _ h13
        refine ⟨_, rfl, _, rfl, _, _, rfl, rfl, _, rfl, .inl (by omega), fun H15 S15 => ⟨_, rfl, iteF ?_⟩⟩
        refine ⟨_, rfl, _, rfl, _, rfl, .inl (by omega), fun H16 S16 => ⟨_, rfl, iteF ?_⟩⟩
        refine ⟨_, rfl, _, rfl, _, _, rfl, rfl, _, rfl, _, _, rfl, .inl (by omega), fun H17 S17 => ⟨_, rfl, iteF ?_⟩⟩
        refine ⟨_, rfl, _, _, rfl, .inr (.inr (by omega)), fun H18 S18 => ⟨_, rfl, iteF ?_⟩⟩
        refine ⟨_, rfl, _, rfl, _, _, rfl, .inr (.inl (by omega)), fun H19 S19 => ⟨_, rfl, iteF ?_⟩⟩
        have h19 := S19 _ _ (S18 _ _ (S17 _ _ (S16 _ _ (S15 _ _ h14))))
        refine ⟨_, rfl, x, pl, g2, _, rfl, ⟨dx, h19⟩, q0, .inr (by omega), fun H20 S20 => ⟨_, rfl, iteF ?_⟩⟩
        have h20 := S20 _ _ h19
        refine ⟨_, rfl, _, rfl, _, rfl, _, _, rfl, rfl, x, pl, g2, _, rfl, ⟨dx, h20⟩, q0, .inl (by omega), fun H21 S21 => ⟨_, rfl, iteF ?_⟩⟩
        have h21 := S21 _ _ h20
        refine ⟨_, rfl, _, _, rfl, rfl, ?_⟩
        refine ⟨_, rfl, _, _, rfl, rfl, ?_⟩
        refine ⟨_, rfl, _, rfl, _, _, rfl, rfl, (show (3 : Nat) ≤ sizeLine by decide), fun p2 n2 => ?_⟩
        refine ⟨p2, rfl, ⟨_, SqL.of upd_same⟩, for_list (K := K) (a := p2) (xs := [.int (7 + o), .int (6 + m), .int (-1 - m)]) (fun i σ H' => ∃ b1 b2, σ = [some (.ref sa), some (.ref l), some (.int g2), some (.int o), some (.int pl), some (.int m), some (.ref p1), some (.int (pl * 64 + pw g2)), some (.ref x), some (.ref v), some (.int (Builtin.bitAnd (wordOf pl g2) m)), b1, b2] ∧ Same (L2.upd H21 p2 (.lst [.int (7 + o), .int (6 + m), .int (-1 - m)])) H')
          ⟨_, _, rfl, Same.refl _⟩ (fun i σ H' _ ⟨_, _, _, S⟩ => SqL.of (S _ _ upd_same)) ?_ ?_⟩
        · rintro i y σ H22 hy ⟨b1, b2, rfl, S22⟩
          obtain ⟨c, rfl, hc⟩ : ∃ c : Int, y = .int c ∧ (c < 0 ∨ 6 ≤ c) := all_mem (P := fun y => ∃ c : Int, y = .int c ∧ (c < 0 ∨ 6 ≤ c)) (by
            intro x hx
            simp only [List.mem_cons, List.not_mem_nil, or_false] at hx
            rcases hx with rfl | rfl | rfl
            · exact ⟨_, rfl, .inr (by omega)⟩
            · exact ⟨_, rfl, .inr (by omega)⟩
            · exact ⟨_, rfl, .inl (by omega)⟩) hy
          refine ⟨_, rfl, _, rfl, _, _, rfl, .inr hc, fun H23 S23 => ⟨_, rfl, iteF ?_⟩⟩
          have h23 := S23 _ _ (S22 _ _ (upd_old n2 h21))
          refine ⟨_, rfl, _, rfl, x, pl, g2, _, rfl, ⟨dx, h23⟩, q0, hc, fun H24 S24 => ⟨_, rfl, iteF ?_⟩⟩
          exact ⟨_, _, rfl, (S22.trans S23).trans S24⟩
        · rintro σ H22 ⟨b1, b2, rfl, S22⟩
          have h22 := S22 _ _ (upd_old n2 h21)
          refine ⟨_, rfl, _, rfl, _, rfl, x, pl, g2, pl, g2, rfl, ⟨dx, h22⟩, rfl, rfl, _, rfl, iteT ?_⟩
          refine ⟨_, rfl, x, dx, _, rfl, h22, x, pl, g2, rfl, ⟨dx, h22⟩, ok, _, rfl, rfl, ?_⟩
          have e := decide_eq_true (show V.int (wordOf pl g2) = V.int (pl * 64 + pw g2) from rfl)
          show Q (.bl (decide (V.int (wordOf pl g2) = V.int (pl * 64 + pw g2)))) H22
          rw [e]
          exact k _
    · rcases z with z | z
      · omega
      · exact absurd (word_hue g0 g1) (z g)
end
def looseAll : List Str := (["RoundError", "BadRef", "BadBook", "BadPhase", "TooMany", "Refused", "Wrong", "HUES", "LOW_BITS", "Ref", "_law_is", "_law_int", "_law_pool", "_law_take", "_law_number", "_law_same", "_law_bad", "_law_bad_word", "_law_bad_ref", "_law_bad_dye", "_law_unlike"] : List Str)
abbrev Rr : PySem.W.OpenRow := PySem.W.OpenLaw.row PySem.Challenge.rw_huerounds_k01_reference_words
abbrev hkA : PySem.W.Hook := hookX 6 faAll fxAll dsAll
def obA (s : PySem.W.SharedT) : AlX := obsXG 6 faAll fxAll dsAll (HandSHeadRun.getT s)
theorem obA_eq (s : PySem.W.SharedT) : obA s = hkA.obs s.abs := obsXG_eq (HandSHeadRun.getT_eq s)
theorem runA (w : World) : HandSHeadRun.RunEq Rr (PySem.W.view Rr.prog [24]) hkA obA 8000 looseAll w := by
  intro os
  kernel_rfl
theorem endA {P : Program} {w : World} {K : PySem.W.Frag} {h : Heap} {mg : Str → Option Value} {f : Addr} (X : K.In h) (G : h.Ns mainGlobals mg) (hfa : mg ("law" : Str) = some (.ref f)) (c : SaysX faAll fxAll dsAll K) :
    ∃ fd : FuncData, (∀ (s : Shared) (v : Value), BindsTo s fd ⟨[v], []⟩ [("_law_script", v)]) ∧ ∀ base : Heap, K.In base → base.Ns mainGlobals mg → FnOk P w K mg base CX0 9 f fd ["_law_script"] (spLaw K) := by
  have T := Tx.of X G c
  cases hfa.symm.trans T.g_law
  exact ⟨_, fun s v => FunD.bindsA (ps := ["_law_script"]) T.F_law (fun _ _ _ _ _ _ us hl => match us, hl with | [_], _ => rfl) s [v] rfl, fun base _ _ => ok_law T⟩
end Hue
open PySem PySem.W PySem.Calls PyProof.Rows
theorem PySem.Challenge.cw_huerounds_k01_reference_words_holds : PySem.Challenge.rw_huerounds_k01_reference_words.Holds := by
  w_on; o_law
  refine HandSHeadRun.head_any (r := OpenLaw.row PySem.Challenge.rw_huerounds_k01_reference_words) (q := view (OpenLaw.row PySem.Challenge.rw_huerounds_k01_reference_words).prog [24]) (H := Hue.hkA) (ob := Hue.obA) (M := 8000) (loose := Hue.looseAll)
    (d := HandSHeadRun.topDef (OpenLaw.row PySem.Challenge.rw_huerounds_k01_reference_words).prog 24) (kwd := []) Hue.obA_eq
    (by kernel_rfl) (fun s => by kernel_rfl) Hue.runA (by kernel_rfl) (by kernel_rfl) (by kernel_rfl) (by rfl) (by first | assumption | decide +kernel) (by decide +kernel) ⟨rfl, rfl, rfl, rfl, rfl, by decide +kernel⟩ ?hw ?hc
  case hw => w_witness2
  case hc =>
    refine L2.walk_ofE (l := PySem.Challenge.rw_huerounds_k01_reference_words) (n := 63) (k := 9) (x := "_law_script") (CX := L2.CX0) rfl (by decide) (by kernel_rfl) ⟨rfl, by decide, by decide⟩ ?F (fun _ _ _ _ z => z)
    intro w mg fa h Y G hmg0
    obtain ⟨K, KX, c⟩ := Y
    have hmg : mg ("law" : PySem.Str) = some (.ref fa) := by
      have e : (HandSHeadRun.topDef (OpenLaw.row PySem.Challenge.rw_huerounds_k01_reference_words).prog 24).name = ("law" : PySem.Str) := by kernel_rfl
      rw [← e]
      exact hmg0
    obtain ⟨fd, hb, hF⟩ := Hue.endA (P := (PySem.Challenge.pw_huerounds_k01_reference_words)) (w := w) KX G hmg c
    exact ⟨K, fd, Hue.spLaw K, KX, hb, fun H a ns hl _ hS => ⟨a, ns, rfl, hS, hl, fun _ => rfl⟩, hF⟩
#print axioms PySem.Challenge.cw_huerounds_k01_reference_words_holds
