import PyProof.Rows.All
import Wide.All
import OpenK.AllK
import Wide.FinOn
import KE.KStateDown
import KE.KOpsOwn
import KE.KEqSeq
import PyProof.P3Eq
import HandS.ForMost
import HandS.Wide
import HandS.Exc
import HandS.Defaults
import HandS.Property
import HandS.MakeKwOnly
import HandS.ClsMeth
import HandS.Star
import HandS.Codes
import HandS.WordsExc
import HandS.IsInst
import HandS.Head0
import HandS.Head1
import HandS.Head2
import HandS.HeadEnd
import HandS.HeadHook1
import HandS.HeadHook2
import PySem.Challenge.RW_huerounds_k08_rows_after
set_option Elab.async false
set_option linter.all false
set_option maxRecDepth 100000
set_option maxHeartbeats 4000000
/-! The base of all our proofs about huerounds: the head's facts by names (own hook), own rules, own words. -/
namespace Hue
open PySem PySem.Spec PyProof.Rows L2

/-! ### defs of the text, found by an address of K -/
def noFd : FuncData := PySem.W.fnOf Str.empty Str.empty (defArgs (.Pass ⟨0, 0, 0, 0⟩)) [] (defScope (.Pass ⟨0, 0, 0, 0⟩)) .none .none .none .none none .none .none
def fdD (K : PySem.W.Frag) (a : Addr) : FuncData :=
  match K.lookup a with
  | some ⟨_, _, .func g, _⟩ => g
  | _ => noFd
abbrev Row8 : Type := Option (Str × Str × Arguments × FuncBody × Scope × Addr × List (Str × Addr) × Addr)
def rowAt (K : PySem.W.Frag) (a : Addr) : Row8 :=
  match K.lookup a with
  | some ⟨_, _, .func g, _⟩ => some (g.name, g.qualname, g.params, g.body, g.scope, g.globals, g.closure, g.builtins)
  | _ => none
/-- a def of the text: where it stands, its names, its statement, its defaults -/
structure DX where
  ad : PySem.W.Frag → Addr
  nm : Str
  ql : Str
  st : Stmt
  df : List He.Dv := []
  kd : List (Str × He.Dv) := []
def DX.row (d : DX) : Row8 := some (d.nm, d.ql, defArgs d.st, .stmts (defBody d.st), defScope d.st, mainGlobals, [], builtinsNs)
def DX.dvs (K : PySem.W.Frag) (d : DX) : List V := d.df.map (He.Dv.v K)
def DX.kws (K : PySem.W.Frag) (d : DX) : List (Str × V) := d.kd.map fun q => (q.1, q.2.v K)
def DX.okB (K : PySem.W.Frag) (d : DX) : Bool :=
  PySem.W.keepIn K (.ref (d.ad K)) &&
  (match K.lookup (d.ad K) with
  | some ⟨_, _, .func g, _⟩ => PySem.W.codeIn K g.code d.ql && (He.dflB K g.defaults (d.dvs K) && He.kwdB K g.kwdefaults (d.kws K))
  | _ => false)
theorem DX.funD {K : PySem.W.Frag} {d : DX} (e : rowAt K (d.ad K) = d.row) (c : d.okB K = true) :
    FunD K d.nm d.ql (defArgs d.st) (defBody d.st) (defScope d.st) (d.dvs K) (d.kws K) (d.ad K) (fdD K (d.ad K)) := by
  obtain ⟨kp, c2⟩ := He.ba c
  unfold rowAt at e
  unfold fdD
  cases q : K.lookup (d.ad K) with
  | none => rw [q] at c2; cases c2
  | some o =>
    obtain ⟨oc, od, dt, osl⟩ := o
    rw [q] at c2 e
    cases dt with
    | func g =>
      obtain ⟨n1, n2, n3, n4, n5, n6, n7, n8, n9, n10, n11, n12, n13, n14, n15⟩ := g
      have e2 : (some (n1, n2, n3, n4, n5, n6, n7, n15) : Row8) = d.row := e
      unfold DX.row at e2
      simp only [Option.some.injEq, Prod.mk.injEq] at e2
      obtain ⟨h1, h2, h3, h4, h5, h6, h7, h8⟩ := e2
      subst h1 h2 h3 h4 h5 h6 h7 h8
      obtain ⟨k1, k2⟩ := He.ba (show (PySem.W.codeIn K n13 d.ql && (He.dflB K n8 (d.dvs K) && He.kwdB K n9 (d.kws K))) = true from c2)
      obtain ⟨k3, k4⟩ := He.ba k2
      exact ⟨⟨oc, od, n8, n9, n10, n11, n12, n13, n14, osl, rfl, q, k1, He.dflB_ok k3, He.kwdB_ok k4⟩, kp⟩
    | _ => cases c2

/-! ### more facts of the top -/
abbrev gad (x : Str) (K : PySem.W.Frag) : Addr := He.ga K x
abbrev mad (C m : Str) (K : PySem.W.Frag) : Addr := He.ma K (He.ga K C) m
/-- the getter behind a property, the def behind a classmethod -/
def pad (T : String) (C m : Str) (K : PySem.W.Frag) : Addr :=
  match PySem.W.recIn K (He.ma K (He.ga K C) m) T with
  | some (.ref g :: _) => g
  | _ => 0
inductive Kx where
  | ty (n : String)
  | own (x : Str)
def Kx.v (K : PySem.W.Frag) : Kx → Value
  | .ty n => .type n
  | .own x => .ref (He.ga K x)
inductive Fx where
  | prop (C f : Str)
  | tup (x : Str) (vs : List He.Dv)
  | inst (C : Str)
  | kit (t c : Kx) (b : Bool)
  | bop (C m r : Str) (T : String)
  | cread (C : Str)
  | cmeth (C m : Str)
  | cint (C f : Str) (i : Int)
  | own (C m : Str)
def eqB (a b : Option Bool) : Bool := decide (a = b)
def someO (a : Option (Option Value)) : Bool := a.isSome
def Fx.ok (K : PySem.W.Frag) : Fx → Bool
  | .prop C f =>
    He.eqO (PySem.W.findIn K (.ref (gad C K)) f) (some (some (.ref (mad C f K)))) &&
    (He.eqO (PySem.W.specialIn K (.ref (mad C f K)) "__get__") (some (some (.builtin "property.__get__"))) &&
    (eqB (PySem.W.takesIn K (.ref (mad C f K))) (some true) &&
    (match PySem.W.recIn K (mad C f K) "property" with
      | some (.ref _ :: _) => true
      | _ => false)))
  | .tup x vs => He.tupB K x vs
  | .inst C =>
    He.eqO (PySem.W.findIn K (.ref (gad C K)) "__class__") (some (some (.builtin "object.__class__"))) &&
    (He.eqO (PySem.W.specialIn K (.builtin "object.__class__") "__get__") (some (some (.builtin "getset_descriptor.__get__"))) &&
    (eqB (PySem.W.takesIn K (.builtin "object.__class__")) (some true) &&
    eqB (PySem.W.mroIn K (gad C K) (.type "object")) (some true)))
  | .kit t c b => eqB (PySem.W.kitOne K (t.v K) (c.v K)) (some b)
  | .bop C m r T =>
    PySem.W.selfFirst K (gad C K) &&
    (He.eqO (PySem.W.findIn K (.ref (gad C K)) m) (some (some (.ref (mad C m K)))) &&
    (PySem.W.isFn K (.ref (mad C m K)) &&
    (He.eqO (PySem.W.findIn K (.ref (gad C K)) r) (some none) &&
    (someO (PySem.W.findIn K (.type T) m) && (someO (PySem.W.findIn K (.type T) r) &&
    eqB (PySem.W.subIn K (.type T) (.ref (gad C K))) (some false))))))
  | .cread C => PySem.W.readsIn K (gad C K) (.type "type") && He.eqO (PySem.W.specialIn K (.ref (gad C K)) "__getattribute__") (some (some (.builtin "type.__getattribute__")))
  | .cmeth C m =>
    (match PySem.W.findCls K (.ref (gad C K)) (.type "type") m with
      | some (.get (.builtin g) (.ref p) .none (.ref D)) => decide (g = "classmethod.__get__") && (decide (p = mad C m K) && decide (D = gad C K))
      | _ => false) &&
    ((match PySem.W.recIn K (mad C m K) "classmethod" with
      | some (.ref _ :: _) => true
      | _ => false) && PySem.W.fnIn K (pad "classmethod" C m K))
  | .cint C f i =>
    (match PySem.W.findCls K (.ref (gad C K)) (.type "type") f with
      | some (.val (.int j _)) => decide (j = i)
      | _ => false)
  | .own C m => He.eqO (PySem.W.findIn K (.ref (gad C K)) m) (some (some (.ref (mad C m K)))) && (PySem.W.isFn K (.ref (mad C m K)) && (PySem.W.fnIn K (mad C m K) && PySem.W.noSeq K (gad C K)))
section
variable {K : PySem.W.Frag}
theorem rec_ok {T : String} {C m : Str} (c : (match PySem.W.recIn K (mad C m K) T with
      | some (.ref _ :: _) => true
      | _ => false) = true) : ∃ rest, PySem.W.recIn K (mad C m K) T = some (.ref (pad T C m K) :: rest) := by
  unfold pad
  cases e : PySem.W.recIn K (mad C m K) T with
  | none => rw [e] at c; cases c
  | some l =>
    rw [e] at c
    cases l with
    | nil => cases c
    | cons v r =>
      cases v with
      | ref g => exact ⟨r, rfl⟩
      | _ => cases c
theorem cread_ok {C : Str} (c : (Fx.cread C).ok K = true) : ClX.CRead K (gad C K) (.type "type") := by
  obtain ⟨c1, c2⟩ := He.ba c
  exact ⟨c1, He.eqO_ok c2⟩
theorem cmeth_ok {C m : Str} (c : (Fx.cmeth C m).ok K = true) : ClX.CMet K (gad C K) (.type "type") m (mad C m K) (pad "classmethod" C m K) := by
  obtain ⟨c1, c⟩ := He.ba c
  obtain ⟨c2, c3⟩ := He.ba c
  refine ⟨?_, rec_ok c2, c3⟩
  split at c1
  · rename_i g p D e
    obtain ⟨k1, k⟩ := He.ba c1
    obtain ⟨k2, k3⟩ := He.ba k
    rw [e, of_decide_eq_true k1, of_decide_eq_true k2, of_decide_eq_true k3]
  · cases c1
theorem cint_ok {C f : Str} {i : Int} (c : (Fx.cint C f i).ok K = true) : ∃ u, ClX.CVal K (gad C K) (.type "type") f (.int i) u := by
  have c1 : (match PySem.W.findCls K (.ref (gad C K)) (.type "type") f with
      | some (.val (.int j _)) => decide (j = i)
      | _ => false) = true := c
  split at c1
  · rename_i j t e
    refine ⟨_, e, ⟨t, ?_⟩⟩
    rw [of_decide_eq_true c1]
  · cases c1
theorem prop_ok {C f : Str} (c : (Fx.prop C f).ok K = true) : PropOf K (gad C K) f (mad C f K) (pad "property" C f K) := by
  obtain ⟨c1, c⟩ := He.ba c
  obtain ⟨c2, c⟩ := He.ba c
  obtain ⟨c3, c4⟩ := He.ba c
  refine ⟨He.eqO_ok c1, He.eqO_ok c2, of_decide_eq_true c3, ?_⟩
  unfold pad
  cases e : PySem.W.recIn K (mad C f K) "property" with
  | none => rw [e] at c4; cases c4
  | some l =>
    rw [e] at c4
    cases l with
    | nil => cases c4
    | cons v r =>
      cases v with
      | ref g =>
        exact ⟨r, rfl⟩
      | _ => cases c4
theorem inst_ty {C : Str} (c : (Fx.inst C).ok K = true) (cl : Cls K (gad C K)) {H : Hp} {a dx : Addr} {fs : List (Str × V)} (e : H a = some (.ins (gad C K) dx fs)) : TyX K H (.ref a) (.ref (gad C K)) := by
  obtain ⟨c1, c⟩ := He.ba c
  obtain ⟨c2, c⟩ := He.ba c
  obtain ⟨c3, c4⟩ := He.ba c
  exact .base (.ins e cl (He.eqO_ok c1) (He.eqO_ok c2) (of_decide_eq_true c3) (of_decide_eq_true c4))
theorem kit_ok {t c : Kx} {b : Bool} (h : (Fx.kit t c b).ok K = true) : PySem.W.kitOne K (t.v K) (c.v K) = some b := of_decide_eq_true h
end
/-! ### the hook -/
abbrev AlX : Type := Bool × List Row8
def obsX (fa : List He.Fa) (fx : List Fx) (ds : List DX) (K : PySem.W.Frag) : AlX :=
  ((fa.all fun f => f.ok K) && ((fx.all fun f => f.ok K) && ds.all fun d => d.okB K), ds.map fun d => rowAt K (d.ad K))
def valX (ds : List DX) : AlX := (true, ds.map DX.row)
def SaysX (fa : List He.Fa) (fx : List Fx) (ds : List DX) (K : PySem.W.Frag) : Prop := obsX fa fx ds K = valX ds
def obsXG (n : Nat) (fa : List He.Fa) (fx : List Fx) (ds : List DX) (g : Addr → Option Obj) : AlX := obsX fa fx ds (He.frG g (cStatics :: He.asD g n))
def hookX (n : Nat) (fa : List He.Fa) (fx : List Fx) (ds : List DX) : PySem.W.Hook where
  α := AlX
  obs := fun s => obsXG n fa fx ds s.heap.get?
  val := fun _ => valX ds
  says := fun _ h => ∃ K : PySem.W.Frag, K.In h ∧ SaysX fa fx ds K
  of := fun _ _ e => ⟨_, He.frG_in, e⟩
  keeps := fun _ _ _ ⟨K, hK, c⟩ k => ⟨K, PySem.W.Frag.In.keeps hK k, c⟩
theorem obsXG_eq {n : Nat} {fa : List He.Fa} {fx : List Fx} {ds : List DX} {g : Addr → Option Obj} {s : Shared} (h : ∀ a, g a = s.heap.get? a) : obsXG n fa fx ds g = (hookX n fa fx ds).obs s := by
  cases (funext h : g = s.heap.get?)
  rfl
section
variable {fa : List He.Fa} {fx : List Fx} {ds : List DX} {K : PySem.W.Frag}
theorem SaysX.fact (c : SaysX fa fx ds K) (i : Nat) {f : He.Fa} (h : fa[i]? = some f := by rfl) : f.ok K = true :=
  List.all_eq_true.mp (He.ba (show ((fa.all fun f => f.ok K) && ((fx.all fun f => f.ok K) && ds.all fun d => d.okB K)) = true from congrArg (fun z : AlX => z.1) c)).1 f (List.mem_of_getElem? h)
theorem SaysX.more (c : SaysX fa fx ds K) (i : Nat) {f : Fx} (h : fx[i]? = some f := by rfl) : f.ok K = true :=
  List.all_eq_true.mp (He.ba (He.ba (show ((fa.all fun f => f.ok K) && ((fx.all fun f => f.ok K) && ds.all fun d => d.okB K)) = true from congrArg (fun z : AlX => z.1) c)).2).1 f (List.mem_of_getElem? h)
theorem SaysX.fd (c : SaysX fa fx ds K) (i : Nat) {d : DX} (h : ds[i]? = some d := by rfl) :
    FunD K d.nm d.ql (defArgs d.st) (defBody d.st) (defScope d.st) (d.dvs K) (d.kws K) (d.ad K) (fdD K (d.ad K)) := by
  have c2 := (He.ba (He.ba (show ((fa.all fun f => f.ok K) && ((fx.all fun f => f.ok K) && ds.all fun d => d.okB K)) = true from congrArg (fun z : AlX => z.1) c)).2).2
  have e : ds.map (fun d => rowAt K (d.ad K)) = ds.map DX.row := congrArg (fun z : AlX => z.2) c
  have e2 : (ds.map fun d => rowAt K (d.ad K))[i]? = (ds.map DX.row)[i]? := by rw [e]
  rw [List.getElem?_map, List.getElem?_map, h] at e2
  exact DX.funD (Option.some.inj e2) (List.all_eq_true.mp c2 d (List.mem_of_getElem? h))
end

/-! ### constants of the top -/
abbrev SqTk (K : PySem.W.Frag) (a : Addr) (vs : List V) : Prop := ∀ H : Hp, SqT K H a vs
theorem tup_ok {K : PySem.W.Frag} {x : Str} {vs : List He.Dv} (h : (Fx.tup x vs).ok K = true) : SqTk K (gad x K) (vs.map (He.Dv.v K)) := fun H => He.tupB_ok h H
section
variable {X : Cx}
theorem pe_gi {x : Str} {i : Int} {pos : Pos} (hg : Gl X x) (h : ∃ t, X.mg x = some (.int i t)) (hd : (x == ("__debug__" : Str)) = false := by decide) : PE X (.Name x pos) (tC (.int i)) := by
  obtain ⟨t, h⟩ := h
  exact pe_glob hg h ⟨t, rfl⟩ hd
theorem pe_gs {x z : Str} {pos : Pos} (hg : Gl X x) (h : ∃ t, X.mg x = some (.str z t)) (hd : (x == ("__debug__" : Str)) = false := by decide) : PE X (.Name x pos) (tC (.str z)) := by
  obtain ⟨t, h⟩ := h
  exact pe_glob hg h ⟨t, rfl⟩ hd
theorem pe_gr {x : Str} {a : Addr} {pos : Pos} (hg : Gl X x) (h : X.mg x = some (.ref a)) (hd : (x == ("__debug__" : Str)) = false := by decide) : PE X (.Name x pos) (tC (.ref a)) := pe_glob hg h rfl hd
theorem pe_bty {x : Str} (n : String) {pos : Pos} (hg : Gl X x) (h : X.mg x = none) (hv : bootBuiltins x = some (.type n)) (hn : x ≠ "__name__" := by decide) (hd : (x == ("__debug__" : Str)) = false := by decide) : PE X (.Name x pos) (tC (.ty n)) := pe_bltn hg h hv rfl hn hd
/-! ### int(..) by the kind of its argument -/
theorem call_intI : CallR X (.type "int") (fun xs H Q => ∃ i, xs = [.int i] ∧ Q (.int i) H) := fun pins s σ H xs us Q I r ⟨i, e, q⟩ => call_int1 pins s σ H xs us Q I r (.inl ⟨i, e, q⟩)
theorem call_intB : CallR X (.type "int") (fun xs H Q => ∃ k, xs = [.bl k] ∧ Q (.int (if k then 1 else 0)) H) := fun pins s σ H xs us Q I r ⟨k, e, q⟩ => call_int1 pins s σ H xs us Q I r (.inr ⟨k, e, q⟩)
end
/-! ### what stands in a heap, found by steps (the word "hp") -/
/-- all but the objects of S are as they were -/
def Fr (S : Addr → Prop) (H H' : Hp) : Prop := ∀ a o, ¬ S a → H a = some o → H' a = some o
theorem upd_old {H : Hp} {p a : Addr} {o u : HO} (n : H p = none) (h : H a = some o) : upd H p u a = some o := by rw [upd_ne (ne_of_none h n)]; exact h
theorem upd_oth {H : Hp} {p a : Addr} {o u : HO} (n : a ≠ p) (h : H a = some o) : upd H p u a = some o := by rw [upd_ne n]; exact h
theorem upd_oldN {H : Hp} {p a : Addr} {u : HO} (n : a ≠ p) (h : H a = none) : upd H p u a = none := by rw [upd_ne n]; exact h
theorem same_get {H H' : Hp} {a : Addr} {o : HO} (e : Same H H') (h : H a = some o) : H' a = some o := e a o h
theorem iteB {c : Bool} {A B : Prop} (h1 : c = true → A) (h2 : c = false → B) : if c = true then A else B := by
  cases c with
  | true => exact iteT (h1 rfl)
  | false => exact iteF (h2 rfl)
theorem Same.upd {H H' : Hp} {p : Addr} {u : HO} (e : Same H H') (n : H p = none) : Same H (upd H' p u) := fun a o h => by rw [upd_ne (ne_of_none h n)]; exact e a o h
theorem Same.new {H : Hp} {p : Addr} {u : HO} (n : H p = none) : Same H (L2.upd H p u) := Same.upd (Same.refl H) n

/-! ### an own class's operator with a built-in value on the right -/
/-- o op i, o an instance of C, i an int -/
def rOwnI (C : Addr) (sp : Sp) (E : XK) : R2 := fun x y H Q => ∃ a dx fs i, x = .ref a ∧ H a = some (.ins C dx fs) ∧ y = .int i ∧ sp [.ref a, .int i] H Q E
theorem op_ownI {X : Cx} {CX : CXT} {op : Operator} {C m r : Str} {k : Nat} {fd : FuncData} {ps : List Str} {sp : Sp} {E : XK}
    (cl : Cls X.K (gad C X.K)) (b : (Fx.bop C m r "int").ok X.K = true) (em : PySem.dunder op.info.2 = m) (er : PySem.dunderR op.info.2 = r)
    (F : FnOk X.prog X.w X.K X.mg X.base CX k (mad C m X.K) fd ps sp) (hr : Room k X.A) (hb : Binds X.K fd ps []) (hx : Passes CX X E) : OpR X (binaryOp op) (rOwnI (gad C X.K) sp E) := by
  intro pins s σ H x y v u Q I rx ry h
  obtain ⟨a, dx, fs, i, rfl, ea, rfl, q⟩ := h
  obtain rfl : v = Value.ref a := rx
  obtain ⟨t, rfl⟩ := ry
  obtain ⟨c1, c⟩ := He.ba b
  obtain ⟨c2, c⟩ := He.ba c
  obtain ⟨c3, c⟩ := He.ba c
  obtain ⟨c4, c⟩ := He.ba c
  obtain ⟨c5, c⟩ := He.ba c
  obtain ⟨c6, c7⟩ := He.ba c
  obtain ⟨fo, h5⟩ := Option.isSome_iff_exists.mp c5
  obtain ⟨ro, h6⟩ := Option.isSome_iff_exists.mp c6
  obtain ⟨mA, O, _⟩ := ins_get I.hok ea
  obtain ⟨od, J, _⟩ := O.look
  obtain ⟨m0, Fm⟩ := I.fr
  subst em er
  refine PySem.W.ksp_binT (T := "int") Fm I.ok.mod.kin J rfl c1 (He.eqO_ok c2) c3 (He.eqO_ok c4) (.inl rfl) h5 h6 (of_decide_eq_true c7) ?_
  refine thn (run_fn (us := [.ref a, .int i t]) (vs := [.ref a, .int i]) F hr hb .nil hx I (.cons rfl (.cons ⟨t, rfl⟩ .nil)) q) fun u s' hq => ?_
  obtain ⟨z, H', I', rz, qz⟩ := hq
  have fin : EP X pins σ Q u s' := ⟨z, H', I', rz, qz⟩
  cases z with
  | non => obtain rfl : u = Value.none := rz; exact fin
  | bl _ => obtain rfl : u = Value.bool _ := rz; exact fin
  | int _ => obtain ⟨t', rfl⟩ := rz; exact fin
  | str _ => obtain ⟨t', rfl⟩ := rz; exact fin
  | byt _ => obtain ⟨t', rfl⟩ := rz; exact fin
  | flt _ => obtain ⟨t', rfl⟩ := rz; exact fin
  | ref _ => obtain rfl : u = Value.ref _ := rz; exact fin
  | ty _ => obtain rfl : u = Value.type _ := rz; exact fin

/-! ### a class called with a starred list; a def with a starred parameter -/
/-- C(*y): a new instance, __init__ with the items -/
def tMakeSt (K0 : PySem.W.Frag) (C : Addr) (sp : Sp) (E : XK) (te : TE) : TE := fun σ H Q => te σ H fun y H1 => ∃ a xs, y = V.ref a ∧ (SqT K0 H1 a xs ∨ SqL K0 H1 a xs) ∧ ∀ x dx, H1 x = none → H1 dx = none → dx ≠ x →
  sp (.ref x :: xs) (upd (upd H1 dx (.own x)) x (.ins C dx [])) (fun v H2 => v = .non ∧ Q (.ref x) H2) E
/-- .. where slot i holds the class -/
def tMakeLS (K0 : PySem.W.Frag) (i : Nat) (C : Addr) (sp : Sp) (E : XK) (te : TE) : TE := fun σ H Q => σ[i]? = some (some (.ref C)) ∧ tMakeSt K0 C sp E te σ H Q
section
variable {X : Cx} {CX : CXT} {k i : Nat} {f C : Addr} {sp : Sp} {E : XK} {x : Str} {e : Expr} {te : TE} {p q pos : Pos}
theorem pe_makeGS (M : Mk X.K C f) (F : FnR X.prog X.w X.K X.mg X.base CX k f sp) (hr : Room (k + 1) X.A) (hx : Passes CX X E) (hg : Gl X x) (hm : X.mg x = some (.ref C)) (he : PE X e te)
    (hd : (x == ("__debug__" : Str)) = false := by decide) (hst : starEach [.Starred e q] X.env = [(true, eval e X.env)] := by rfl) :
    PE X (.Call (.Name x p) [.Starred e q] [] pos) (tMakeSt X.K C sp E te) := by
  refine ⟨fun pins s σ H Q I h => ?_⟩
  refine wpAny_Call_Name_kw (ld_glob I hg hm ?_ hd)
  refine PySem.W.callWith_S (h₀ := X.base) I.ok.mod.kin M.kp (thn (he.run pins s σ H _ I h) fun v s1 ⟨y, H1, I1, ry, a, xs, ey, hxs, z⟩ => ?_) hst
  subst ey
  obtain rfl : v = Value.ref a := ry
  exact StX.star_any I1 hxs fun us s2 I2 rv => ⟨I2.kIn, StX.run_makeR M F hr hx I2 rv z⟩
theorem pe_makeLS (M : Mk X.K C f) (F : FnR X.prog X.w X.K X.mg X.base CX k f sp) (hr : Room (k + 1) X.A) (hx : Passes CX X E) (hN : X.N[i]? = some x) (hv : Vis X.env.scope x) (he : PE X e te)
    (hd : (x == ("__debug__" : Str)) = false := by decide) (hcd : (x == ("__classdict__" : Str)) = false := by decide) (hst : starEach [.Starred e q] X.env = [(true, eval e X.env)] := by rfl) :
    PE X (.Call (.Name x p) [.Starred e q] [] pos) (tMakeLS X.K i C sp E te) := by
  refine ⟨fun pins s σ H Q I h => ?_⟩
  obtain ⟨hs, h⟩ := h
  refine wpAny_Call_Name_kw (thn ((pe_var (pos := p) (i := i) hN hv hd hcd).run pins s σ H (fun v H1 => v = .ref C ∧ H1 = H) I ⟨.ref C, hs, rfl, rfl⟩) fun u s1 ⟨v, H1, I1, r1, ev, eH⟩ => ?_)
  subst ev
  rw [eH] at I1
  cases r1
  refine PySem.W.callWith_S (h₀ := X.base) I.ok.mod.kin M.kp (thn (he.run pins s1 σ H _ I1 h) fun v s2 ⟨y, H2, I2, ry, a, xs, ey, hxs, z⟩ => ?_) hst
  subst ey
  obtain rfl : v = Value.ref a := ry
  exact StX.star_any I2 hxs fun us s3 I3 rv => ⟨I3.kIn, StX.run_makeR M F hr hx I3 rv z⟩
end
section
variable {P : Program} {w : World} {K : PySem.W.Frag} {mg : Str → Option Value} {base : Heap} {CX : CXT} {k : Nat} {f : Addr} {fd : FuncData} {ps N : List Str} {sp : Sp} {x qual pv : Str} {params : Arguments} {body : List Stmt} {scope : Scope}
theorem fnr_of (F : FnOk P w K mg base CX k f fd ps sp) (hb : Binds K fd ps []) : FnR P w K mg base CX k f sp :=
  (F.raw hb .nil).imp fun vs H Q E h => by
    show sp (vs ++ []) H Q E
    rw [List.append_nil]
    exact h
/-- the promise of a def f(a, .., *v) by the promise of its body -/
def spStar (n : Nat) (sp : Sp) : Sp := fun vs H Q E => ∃ ws rest, vs = ws ++ rest ∧ ws.length = n ∧ rest.length ≤ sizeLine ∧ ∀ p, H p = none → sp (ws ++ [V.ref p]) (upd H p (.tup rest)) Q E
theorem fnr_star (F : FunD K x qual params body scope [] [] f fd) (S : FnScope N (ps ++ [pv]) scope) (hCX : StX.CXUp CX)
    (hb : ∀ (kV doc pm : Value) (an : Option Addr) (cdv ct : Value) (us rest : List Value), us.length = ps.length → bindArgs (PySem.W.fnOf x qual params body scope .none kV doc pm an cdv ct) ⟨us ++ rest, []⟩ = (newTuple rest >>= fun t => pure (ps.zip us ++ [(pv, t)])))
    (hbody : ∀ (cdv : Value) (A : Around) (outer : List Env) (s : Shared) (H : Hp) (vs : List V) (Q : VK) (E : XK), Room k (A.deeper (envOfC qual scope s.heap.objs.size f cdv)) → sp vs H Q E →
      ∃ t, PSs (cxOf CX P w K mg base N qual scope f cdv A outer s H E) body t ∧ t { nx := fun _ H' => Q .non H', rt := Q } (start N vs) H) :
    FnR P w K mg base CX (k + 1) f (spStar ps.length sp) := by
  obtain ⟨oc, od, dV, kV, doc, pm, an, cdv, ct, osl, rfl, lk, hcd, hD, _⟩ := F.ex
  rcases hD with ⟨_, rfl⟩ | ⟨e, _⟩
  · exact StX.fn_star lk hcd S hCX (fun us rest hl => hb kV doc pm an cdv ct us rest hl) fun A outer s H vs Q E hr h => hbody cdv A outer s H vs Q E hr h
  · exact absurd rfl e
end

/-! ### o[i], o[i] = e, len(o) by the class's own methods -/
structure OwnM (K : PySem.W.Frag) (C : Addr) (m : Str) (f : Addr) : Prop where
  at_ : PySem.W.findIn K (.ref C) m = some (some (.ref f))
  fn : PySem.W.isFn K (.ref f) = true
  fi : PySem.W.fnIn K f = true
  nq : PySem.W.noSeq K C = true
theorem own_ok {K : PySem.W.Frag} {C m : Str} (c : (Fx.own C m).ok K = true) : OwnM K (gad C K) m (mad C m K) := by
  obtain ⟨c1, c⟩ := He.ba c
  obtain ⟨c2, c⟩ := He.ba c
  obtain ⟨c3, c4⟩ := He.ba c
  exact ⟨He.eqO_ok c1, c2, c3, c4⟩
section
variable {X : Cx} {CX : CXT} {k : Nat} {C f : Addr} {sp : Sp} {E : XK} {a b : Expr} {ta tb : TE} {pos : Pos}
theorem run_in1 {pins : List (Addr × Obj)} {σ : L2.St} {H : Hp} {s : Shared} {Q : VK} {us : List Value} {vs : List V} (F : FnR X.prog X.w X.K X.mg X.base CX k f sp) (hr : Room (k + 1) X.A) (hx : Passes CX X E) (I : Inv X pins σ H s) (r : Vals vs us) (h : sp vs H Q E) :
    wpAny (model X.prog X.w) X.A.in1 (call (.ref f) us) (EP X pins σ Q) X.xe s := by
  refine wpAny_call (codeAny_mono (F X.A.in1 X.stack s H us vs Q E hr.in1 I.env0.in1 r h) fun r s' hq => ?_)
  cases r with
  | error e => exact hx pins σ H s e s' I hq
  | ok fl =>
    cases fl with
    | ret u => exact I.after hq
    | next => exact False.elim hq
    | brk => exact False.elim hq
    | cont => exact False.elim hq
def tIxO (C : Addr) (sp : Sp) (E : XK) (ta tb : TE) : TE := fun σ H Q => ta σ H fun x H1 => tb σ H1 fun y H2 => ∃ a dx fs, x = .ref a ∧ H2 a = some (.ins C dx fs) ∧ sp [.ref a, y] H2 Q E
theorem pe_ixO (o : OwnM X.K C "__getitem__" f) (F : FnR X.prog X.w X.K X.mg X.base CX k f sp) (hr : Room (k + 1) X.A) (hx : Passes CX X E) (ha : PE X a ta) (hb : PE X b tb)
    (hs : ∀ o i, subscripted b true o i = runValue (.builtin "lifetime.subscript" ⟨[o, i], []⟩) := by intro _ _; rfl) : PE X (.Subscript a b pos) (tIxO C sp E ta tb) := by
  refine ⟨fun pins s σ H Q I h => ?_⟩
  refine Subscript_ (binT ha hb I h fun v u s2 x y H2 I2 rx ry q => ?_)
  obtain ⟨a, dx, fs, rfl, ea, q⟩ := q
  obtain rfl : v = Value.ref a := rx
  obtain ⟨mA, O, _⟩ := ins_get I2.hok ea
  obtain ⟨od, J, _⟩ := O.look
  obtain ⟨m0, Fm⟩ := I2.fr
  exact PySem.W.sub_K Fm I2.ok.mod.kin J o.at_ o.fi o.fn (run_in1 (us := [.ref a, u]) (vs := [.ref a, y]) F hr hx I2 (.cons rfl (.cons ry .nil)) q) (hs _ _)
def rLenO (C : Addr) (sp : Sp) (E : XK) : List V → Hp → VK → Prop := fun xs H Q => ∃ a dx fs, xs = [.ref a] ∧ H a = some (.ins C dx fs) ∧ sp [.ref a] H (fun v H' => ∃ n : Nat, v = .int n ∧ n < 1000 ∧ Q (.int n) H') E
theorem call_lenO (o : OwnM X.K C "__len__" f) (F : FnR X.prog X.w X.K X.mg X.base CX k f sp) (hr : Room (k + 1) X.A) (hx : Passes CX X E) : CallR X (.builtin "len") (rLenO C sp E) := by
  intro pins s σ H xs us Q I r h
  obtain ⟨a, dx, fs, rfl, ea, q⟩ := h
  obtain ⟨u, rfl, ru⟩ := vals1 r
  obtain rfl : u = Value.ref a := ru
  obtain ⟨mA, O, _⟩ := ins_get I.hok ea
  obtain ⟨od, J, _⟩ := O.look
  obtain ⟨m0, Fm⟩ := I.fr
  refine PySem.W.len_K Fm I.ok.mod.kin J o.at_ o.fn (thn (run_in1 (us := [.ref a]) (vs := [.ref a]) F hr hx I (.cons rfl .nil) q) fun u s' hq => ?_)
  obtain ⟨z, H', I', rz, n, rfl, hn, qz⟩ := hq
  obtain ⟨t, rfl⟩ := rz
  refine ⟨⟨by omega, by omega⟩, ?_⟩
  exact ⟨.int n, H', I'.tok _, ⟨_, rfl⟩, qz⟩
def rSetO (C : Addr) (sp : Sp) (E : XK) : TSet := fun o i v H Q => ∃ a dx fs, o = .ref a ∧ H a = some (.ins C dx fs) ∧ sp [.ref a, i, v] H (fun _ H' => Q H') E
theorem set_own (o : OwnM X.K C "__setitem__" f) (F : FnR X.prog X.w X.K X.mg X.base CX k f sp) (hr : Room k X.A) (hx : Passes CX X E) : PSet X (rSetO C sp E) := by
  intro pins s σ H ov i v ou iu u Q I ro ri rv h
  obtain ⟨a, dx, fs, rfl, ea, q⟩ := h
  obtain rfl : ou = Value.ref a := ro
  obtain ⟨mA, O, _⟩ := ins_get I.hok ea
  obtain ⟨od, J, _⟩ := O.look
  obtain ⟨m0, Fm⟩ := I.fr
  refine PySem.W.ksp_setItem Fm I.ok.mod.kin J o.nq o.at_ o.fn (thn (wpAny_call (run_fnR (us := [.ref a, iu, u]) (vs := [.ref a, i, v]) F hr hx I (.cons rfl (.cons ri (.cons rv .nil))) q)) fun w s' hq => ?_)
  obtain ⟨z, H', I', rz, qz⟩ := hq
  exact ⟨H', I', qz⟩
end

/-! ### the rules that name K, for blocks of comprehensions (whose K is K) -/
section
variable {X : Cx} {K : PySem.W.Frag}
theorem ix_listK (e : X.K = K) : IxR X (rIxL K) := e ▸ ix_list
theorem ix_tupK (e : X.K = K) : IxR X (rIxT K) := e ▸ ix_tup
theorem sl_listK (e : X.K = K) : SlR X (rSlL K) := e ▸ sl_list
theorem sl_tupK (e : X.K = K) : SlR X (rSlT K) := e ▸ sl_tup
theorem op_catTK (e : X.K = K) : OpR X (binaryOp .Add) (rCatT K) := e ▸ op_catT
theorem op_in_seqK (e : X.K = K) : OpR X (compareOp .In) (rIn K false) := e ▸ op_in_seq
theorem op_notIn_seqK (e : X.K = K) : OpR X (compareOp .NotIn) (rIn K true) := e ▸ op_notIn_seq
theorem op_eqDK (e : X.K = K) (hu : X.A.units + 64 < cLine) : OpR X (compareOp .Eq) (rEqD K) := e ▸ op_eqD hu
theorem op_neDK (e : X.K = K) (hu : X.A.units + 64 < cLine) : OpR X (compareOp .NotEq) (rNeD K) := e ▸ op_neD hu
def rLn (K : PySem.W.Frag) : List V → Hp → VK → Prop := fun xs H Q => ∃ p ys, xs = [.ref p] ∧ (SqL K H p ys ∨ SqT K H p ys) ∧ Q (.int (List.length (α := V) ys : Nat)) H
theorem call_len_seqK (e : X.K = K) : CallR X (.builtin "len") (rLn K) := e ▸ call_len_seq
def rLo (K : PySem.W.Frag) : List V → Hp → VK → Prop := fun xs H Q => ∃ p ys, xs = [.ref p] ∧ (SqL K H p ys ∨ SqT K H p ys) ∧ ∀ l, H l = none → Q (.ref l) (upd H l (.lst ys))
theorem call_list_ofK (e : X.K = K) : CallR X (.type "list") (rLo K) := e ▸ call_list_of
theorem call_isiK' (e : X.K = K) : CallR X (.builtin "isinstance") (rIsi K) := e ▸ call_isi
theorem pe_fldK {e : Expr} {f : Str} {ta : TE} {pos : Pos} (ek : X.K = K) (he : PE X e ta) (hb : attributeBase e f X.env (eval e X.env) = eval e X.env) : PE X (.Attribute e f pos) (tFld K ta f) := ek ▸ pe_fld he hb
theorem pi_listK {l tg : Expr} {tl : TE} (e : X.K = K) (hl : PE X l tl) : PI X tg l (iList K tl) := e ▸ pi_list hl
theorem pi_tupK {l tg : Expr} {tl : TE} (e : X.K = K) (hl : PE X l tl) : PI X tg l (iTup K tl) := e ▸ pi_tup hl
end
end Hue

set_option Elab.async false
set_option linter.all false
set_option maxRecDepth 100000
set_option maxHeartbeats 4000000
namespace Hue
open PySem PySem.Spec PyProof.Rows L2
def top (i : Nat) : Stmt := PySem.Challenge.pw_huerounds_k08_rows_after.main.body.getD i (.Pass ⟨0, 0, 0, 0⟩)

abbrev s_l_pool : Stmt := top 14
abbrev N_l_pool : List Str := ["_law_script", "_law_pool_here", "_law_mix", "_law_cell", "_law_number", "_law_k", "_law_drawn"]
abbrev P_l_pool : List Str := ["_law_script"]
theorem sc_l_pool : FnScope N_l_pool P_l_pool (defScope s_l_pool) := ⟨rfl, rfl, rfl, by decide +kernel, rfl, by decide +kernel, by decide +kernel⟩
abbrev s_l_take : Stmt := top 15
abbrev N_l_take : List Str := ["_law_pool_here", "_law_many"]
abbrev P_l_take : List Str := ["_law_pool_here", "_law_many"]
theorem sc_l_take : FnScope N_l_take P_l_take (defScope s_l_take) := ⟨rfl, rfl, rfl, by decide +kernel, rfl, by decide +kernel, by decide +kernel⟩
abbrev s_l_raw : Stmt := top 16
abbrev N_l_raw : List Str := ["_law_pool_here", "_law_code", "_law_shown", "_law_keep"]
abbrev P_l_raw : List Str := ["_law_pool_here"]
theorem sc_l_raw : FnScope N_l_raw P_l_raw (defScope s_l_raw) := ⟨rfl, rfl, rfl, by decide +kernel, rfl, by decide +kernel, by decide +kernel⟩
abbrev s_l_is : Stmt := top 12
abbrev N_l_is : List Str := ["_law_x", "_law_due"]
abbrev P_l_is : List Str := ["_law_x", "_law_due"]
theorem sc_l_is : FnScope N_l_is P_l_is (defScope s_l_is) := ⟨rfl, rfl, rfl, by decide +kernel, rfl, by decide +kernel, by decide +kernel⟩
abbrev s_l_int : Stmt := top 13
abbrev N_l_int : List Str := ["_law_x"]
abbrev P_l_int : List Str := ["_law_x"]
theorem sc_l_int : FnScope N_l_int P_l_int (defScope s_l_int) := ⟨rfl, rfl, rfl, by decide +kernel, rfl, by decide +kernel, by decide +kernel⟩
abbrev s_Phase_init : Stmt := inClass (top 9) 0
abbrev N_Phase_init : List Str := ["self", "hue", "barrier", "visits", "pauses", "stand", "skips"]
abbrev P_Phase_init : List Str := ["self", "hue", "barrier", "visits", "pauses", "stand", "skips"]
theorem sc_Phase_init : FnScope N_Phase_init P_Phase_init (defScope s_Phase_init) := ⟨rfl, rfl, rfl, by decide +kernel, rfl, by decide +kernel, by decide +kernel⟩
abbrev s_Book_init : Stmt := inClass (top 10) 1
abbrev N_Book_init : List Str := ["self", "phases"]
abbrev P_Book_init : List Str := ["self", "phases"]
theorem sc_Book_init : FnScope N_Book_init P_Book_init (defScope s_Book_init) := ⟨rfl, rfl, rfl, by decide +kernel, rfl, by decide +kernel, by decide +kernel⟩
abbrev s_Book_of : Stmt := inClass (top 10) 16
abbrev N_Book_of : List Str := ["cls", "phases"]
abbrev P_Book_of : List Str := ["cls", "phases"]
theorem sc_Book_of : FnScope N_Book_of P_Book_of (defScope s_Book_of) := ⟨rfl, rfl, rfl, by decide +kernel, rfl, by decide +kernel, by decide +kernel⟩
abbrev s_Book_len : Stmt := inClass (top 10) 2
abbrev N_Book_len : List Str := ["self"]
abbrev P_Book_len : List Str := ["self"]
theorem sc_Book_len : FnScope N_Book_len P_Book_len (defScope s_Book_len) := ⟨rfl, rfl, rfl, by decide +kernel, rfl, by decide +kernel, by decide +kernel⟩
abbrev s_Book_getitem : Stmt := inClass (top 10) 5
abbrev N_Book_getitem : List Str := ["self", "n"]
abbrev P_Book_getitem : List Str := ["self", "n"]
theorem sc_Book_getitem : FnScope N_Book_getitem P_Book_getitem (defScope s_Book_getitem) := ⟨rfl, rfl, rfl, by decide +kernel, rfl, by decide +kernel, by decide +kernel⟩
abbrev s_Book_setitem : Stmt := inClass (top 10) 6
abbrev N_Book_setitem : List Str := ["self", "n", "phase"]
abbrev P_Book_setitem : List Str := ["self", "n", "phase"]
theorem sc_Book_setitem : FnScope N_Book_setitem P_Book_setitem (defScope s_Book_setitem) := ⟨rfl, rfl, rfl, by decide +kernel, rfl, by decide +kernel, by decide +kernel⟩
abbrev s_Book_after : Stmt := inClass (top 10) 17
abbrev N_Book_after : List Str := ["self", "row", "rows", "skip"]
abbrev P_Book_after : List Str := ["self", "row"]
theorem sc_Book_after : FnScope N_Book_after P_Book_after (defScope s_Book_after) := ⟨rfl, rfl, rfl, by decide +kernel, rfl, by decide +kernel, by decide +kernel⟩
abbrev s_l_calm : Stmt := top 17
abbrev N_l_calm : List Str := ["_law_row", "_law_k", "_law_two", "_law_good", "_law_shown"]
abbrev P_l_calm : List Str := ["_law_row", "_law_k", "_law_two"]
theorem sc_l_calm : FnScope N_l_calm P_l_calm (defScope s_l_calm) := ⟨rfl, rfl, rfl, by decide +kernel, rfl, by decide +kernel, by decide +kernel⟩
abbrev s_l_rows : Stmt := top 18
abbrev N_l_rows : List Str := ["_law_pool_here", "_law_most", "_law_many", "_law_style", "_law_rows_here", "_law_two", "_law_calm_here", "_law_at", "_law_k"]
abbrev P_l_rows : List Str := ["_law_pool_here", "_law_most"]
theorem sc_l_rows : FnScope N_l_rows P_l_rows (defScope s_l_rows) := ⟨rfl, rfl, rfl, by decide +kernel, rfl, by decide +kernel, by decide +kernel⟩
abbrev s_l_phase : Stmt := top 19
abbrev N_l_phase : List Str := ["_law_row"]
abbrev P_l_phase : List Str := ["_law_row"]
theorem sc_l_phase : FnScope N_l_phase P_l_phase (defScope s_l_phase) := ⟨rfl, rfl, rfl, by decide +kernel, rfl, by decide +kernel, by decide +kernel⟩
abbrev s_l_same_phase : Stmt := top 20
abbrev N_l_same_phase : List Str := ["_law_phase_here", "_law_row"]
abbrev P_l_same_phase : List Str := ["_law_phase_here", "_law_row"]
theorem sc_l_same_phase : FnScope N_l_same_phase P_l_same_phase (defScope s_l_same_phase) := ⟨rfl, rfl, rfl, by decide +kernel, rfl, by decide +kernel, by decide +kernel⟩
abbrev s_l_same_book : Stmt := top 21
abbrev N_l_same_book : List Str := ["_law_book_here", "_law_rows_here", "_law_k"]
abbrev P_l_same_book : List Str := ["_law_book_here", "_law_rows_here"]
theorem sc_l_same_book : FnScope N_l_same_book P_l_same_book (defScope s_l_same_book) := ⟨rfl, rfl, rfl, by decide +kernel, rfl, by decide +kernel, by decide +kernel⟩
abbrev s_l_book : Stmt := top 22
abbrev N_l_book : List Str := ["_law_rows_here", "_law_row"]
abbrev P_l_book : List Str := ["_law_rows_here"]
theorem sc_l_book : FnScope N_l_book P_l_book (defScope s_l_book) := ⟨rfl, rfl, rfl, by decide +kernel, rfl, by decide +kernel, by decide +kernel⟩
abbrev s_l_after : Stmt := top 23
abbrev N_l_after : List Str := ["_law_rows_here", "_law_row", "_law_found", "_law_j", "_law_at"]
abbrev P_l_after : List Str := ["_law_rows_here", "_law_row"]
theorem sc_l_after : FnScope N_l_after P_l_after (defScope s_l_after) := ⟨rfl, rfl, rfl, by decide +kernel, rfl, by decide +kernel, by decide +kernel⟩
abbrev s_l_all_after : Stmt := top 24
abbrev N_l_all_after : List Str := ["_law_book_here", "_law_rows_here", "_law_at", "_law_found", "_law_x"]
abbrev P_l_all_after : List Str := ["_law_book_here", "_law_rows_here"]
theorem sc_l_all_after : FnScope N_l_all_after P_l_all_after (defScope s_l_all_after) := ⟨rfl, rfl, rfl, by decide +kernel, rfl, by decide +kernel, by decide +kernel⟩
abbrev s_law : Stmt := top 25
abbrev N_law : List Str := ["_law_script", "_law_pool_here", "_law_rows_here", "_law_new", "_law_marks", "_law_at", "_law_k", "_law_book_here", "_law_later", "_law_full", "_law_row"]
abbrev P_law : List Str := ["_law_script"]
theorem sc_law : FnScope N_law P_law (defScope s_law) := ⟨rfl, rfl, rfl, by decide +kernel, rfl, by decide +kernel, by decide +kernel⟩
def d_l_pool : DX := ⟨(gad "_law_pool"), "_law_pool", "_law_pool", s_l_pool, [], []⟩
def d_l_take : DX := ⟨(gad "_law_take"), "_law_take", "_law_take", s_l_take, [], []⟩
def d_l_raw : DX := ⟨(gad "_law_raw"), "_law_raw", "_law_raw", s_l_raw, [], []⟩
def d_l_is : DX := ⟨(gad "_law_is"), "_law_is", "_law_is", s_l_is, [], []⟩
def d_l_int : DX := ⟨(gad "_law_int"), "_law_int", "_law_int", s_l_int, [], []⟩
def d_Phase_init : DX := ⟨(mad "Phase" "__init__"), "__init__", "Phase.__init__", s_Phase_init, [], [("barrier", .str "guarded"), ("visits", .bl false), ("pauses", .bl true), ("stand", .int (0)), ("skips", .bl false)]⟩
def d_Book_init : DX := ⟨(mad "Book" "__init__"), "__init__", "Book.__init__", s_Book_init, [], []⟩
def d_Book_of : DX := ⟨(pad "classmethod" "Book" "of"), "of", "Book.of", s_Book_of, [], []⟩
def d_Book_len : DX := ⟨(mad "Book" "__len__"), "__len__", "Book.__len__", s_Book_len, [], []⟩
def d_Book_getitem : DX := ⟨(mad "Book" "__getitem__"), "__getitem__", "Book.__getitem__", s_Book_getitem, [], []⟩
def d_Book_setitem : DX := ⟨(mad "Book" "__setitem__"), "__setitem__", "Book.__setitem__", s_Book_setitem, [], []⟩
def d_Book_after : DX := ⟨(mad "Book" "after"), "after", "Book.after", s_Book_after, [], []⟩
def d_l_calm : DX := ⟨(gad "_law_calm"), "_law_calm", "_law_calm", s_l_calm, [], []⟩
def d_l_rows : DX := ⟨(gad "_law_rows"), "_law_rows", "_law_rows", s_l_rows, [], []⟩
def d_l_phase : DX := ⟨(gad "_law_phase"), "_law_phase", "_law_phase", s_l_phase, [], []⟩
def d_l_same_phase : DX := ⟨(gad "_law_same_phase"), "_law_same_phase", "_law_same_phase", s_l_same_phase, [], []⟩
def d_l_same_book : DX := ⟨(gad "_law_same_book"), "_law_same_book", "_law_same_book", s_l_same_book, [], []⟩
def d_l_book : DX := ⟨(gad "_law_book"), "_law_book", "_law_book", s_l_book, [], []⟩
def d_l_after : DX := ⟨(gad "_law_after"), "_law_after", "_law_after", s_l_after, [], []⟩
def d_l_all_after : DX := ⟨(gad "_law_all_after"), "_law_all_after", "_law_all_after", s_l_all_after, [], []⟩
def d_law : DX := ⟨(gad "law"), "law", "law", s_law, [], []⟩
def dsAll : List DX := [d_l_pool, d_l_take, d_l_raw, d_l_is, d_l_int, d_Phase_init, d_Book_init, d_Book_of, d_Book_len, d_Book_getitem, d_Book_setitem, d_Book_after, d_l_calm, d_l_rows, d_l_phase, d_l_same_phase, d_l_same_book, d_l_book, d_l_after, d_l_all_after, d_law]
def faAll : List He.Fa := [.free "abs", .free "bool", .free "int", .free "isinstance", .free "len", .free "list", .free "max", .free "range", .free "str", .free "tuple", .glo "_law_pool", .glo "_law_take", .glo "_law_raw", .glo "_law_is", .glo "_law_int", .glo "_law_calm", .glo "_law_rows", .glo "_law_phase", .glo "_law_same_phase", .glo "_law_same_book", .glo "_law_book", .glo "_law_after", .glo "_law_all_after", .glo "law", .glo "BARRIERS", .int "MOST_HUE" 5, .int "MOST_STAND" 7, .glo "Phase", .cls "Phase", .noat "Phase" "hue", .noat "Phase" "barrier", .noat "Phase" "visits", .noat "Phase" "pauses", .noat "Phase" "stand", .noat "Phase" "skips", .mkr "Phase", .glo "Book", .cls "Book", .noat "Book" "phases", .mkr "Book", .meth "Book" "__getitem__", .meth "Book" "__setitem__", .meth "Book" "after", .glo "BadBook", .exc "BadBook"]
def fxAll : List Fx := [.tup "BARRIERS" [.str "none", .str "follow", .str "plain", .str "guarded"], .inst "Phase", .inst "Book", .kit (.own "Phase") (.own "Phase") true, .kit (.own "Book") (.own "Book") true, .cread "Book", .cmeth "Book" "of", .own "Book" "__len__", .own "Book" "__getitem__", .own "Book" "__setitem__", .cint "Book" "MOST" 6]
structure Tx (K : PySem.W.Frag) (mg : Str → Option Value) : Prop where
  n_abs : mg "abs" = none
  n_bool : mg "bool" = none
  n_int : mg "int" = none
  n_isinstance : mg "isinstance" = none
  n_len : mg "len" = none
  n_list : mg "list" = none
  n_max : mg "max" = none
  n_range : mg "range" = none
  n_str : mg "str" = none
  n_tuple : mg "tuple" = none
  g_l_pool : mg "_law_pool" = some (.ref (gad "_law_pool" K))
  g_l_take : mg "_law_take" = some (.ref (gad "_law_take" K))
  g_l_raw : mg "_law_raw" = some (.ref (gad "_law_raw" K))
  g_l_is : mg "_law_is" = some (.ref (gad "_law_is" K))
  g_l_int : mg "_law_int" = some (.ref (gad "_law_int" K))
  g_l_calm : mg "_law_calm" = some (.ref (gad "_law_calm" K))
  g_l_rows : mg "_law_rows" = some (.ref (gad "_law_rows" K))
  g_l_phase : mg "_law_phase" = some (.ref (gad "_law_phase" K))
  g_l_same_phase : mg "_law_same_phase" = some (.ref (gad "_law_same_phase" K))
  g_l_same_book : mg "_law_same_book" = some (.ref (gad "_law_same_book" K))
  g_l_book : mg "_law_book" = some (.ref (gad "_law_book" K))
  g_l_after : mg "_law_after" = some (.ref (gad "_law_after" K))
  g_l_all_after : mg "_law_all_after" = some (.ref (gad "_law_all_after" K))
  g_law : mg "law" = some (.ref (gad "law" K))
  g_BARRIERS : mg "BARRIERS" = some (.ref (gad "BARRIERS" K))
  t_BARRIERS : SqTk K (gad "BARRIERS" K) [V.str "none", V.str "follow", V.str "plain", V.str "guarded"]
  g_MOST_HUE : ∃ t, mg "MOST_HUE" = some (.int 5 t)
  g_MOST_STAND : ∃ t, mg "MOST_STAND" = some (.int 7 t)
  g_Phase : mg "Phase" = some (.ref (gad "Phase" K))
  c_Phase : Cls K (gad "Phase" K)
  na_Phase_hue : NoAttr K (gad "Phase" K) "hue"
  na_Phase_barrier : NoAttr K (gad "Phase" K) "barrier"
  na_Phase_visits : NoAttr K (gad "Phase" K) "visits"
  na_Phase_pauses : NoAttr K (gad "Phase" K) "pauses"
  na_Phase_stand : NoAttr K (gad "Phase" K) "stand"
  na_Phase_skips : NoAttr K (gad "Phase" K) "skips"
  mk_Phase : Mk K (gad "Phase" K) (mad "Phase" "__init__" K)
  i_Phase : (Fx.inst "Phase").ok K = true
  g_Book : mg "Book" = some (.ref (gad "Book" K))
  c_Book : Cls K (gad "Book" K)
  na_Book_phases : NoAttr K (gad "Book" K) "phases"
  mk_Book : Mk K (gad "Book" K) (mad "Book" "__init__" K)
  m_Book_getitem : Meth K (gad "Book" K) "__getitem__" (mad "Book" "__getitem__" K)
  m_Book_setitem : Meth K (gad "Book" K) "__setitem__" (mad "Book" "__setitem__" K)
  m_Book_after : Meth K (gad "Book" K) "after" (mad "Book" "after" K)
  i_Book : (Fx.inst "Book").ok K = true
  k_Phase_Phase : PySem.W.kitOne K (Value.ref (gad "Phase" K)) (Value.ref (gad "Phase" K)) = some true
  k_Book_Book : PySem.W.kitOne K (Value.ref (gad "Book" K)) (Value.ref (gad "Book" K)) = some true
  cr_Book : ClX.CRead K (gad "Book" K) (.type "type")
  cm_Book_of : ClX.CMet K (gad "Book" K) (.type "type") "of" (mad "Book" "of" K) (pad "classmethod" "Book" "of" K)
  o_Book_len : OwnM K (gad "Book" K) "__len__" (mad "Book" "__len__" K)
  o_Book_getitem : OwnM K (gad "Book" K) "__getitem__" (mad "Book" "__getitem__" K)
  o_Book_setitem : OwnM K (gad "Book" K) "__setitem__" (mad "Book" "__setitem__" K)
  cv_Book_MOST : ∃ u, ClX.CVal K (gad "Book" K) (.type "type") "MOST" (.int 6) u
  g_BadBook : mg "BadBook" = some (.ref (gad "BadBook" K))
  x_BadBook : PySem.W.excIn K (gad "BadBook" K) He.veBase "ValueError.__new__" = true ∧ PySem.W.keepIn K (.ref (gad "BadBook" K)) = true ∧ PySem.W.subIn K (.ref (gad "BadBook" K)) (.type "BaseException") = some true ∧ PySem.W.typeIn K (.ref (gad "BadBook" K)) = some (.type "type")
  F_l_pool : FunD K "_law_pool" "_law_pool" (defArgs s_l_pool) (defBody s_l_pool) (defScope s_l_pool) [] [] (gad "_law_pool" K) (fdD K (gad "_law_pool" K))
  F_l_take : FunD K "_law_take" "_law_take" (defArgs s_l_take) (defBody s_l_take) (defScope s_l_take) [] [] (gad "_law_take" K) (fdD K (gad "_law_take" K))
  F_l_raw : FunD K "_law_raw" "_law_raw" (defArgs s_l_raw) (defBody s_l_raw) (defScope s_l_raw) [] [] (gad "_law_raw" K) (fdD K (gad "_law_raw" K))
  F_l_is : FunD K "_law_is" "_law_is" (defArgs s_l_is) (defBody s_l_is) (defScope s_l_is) [] [] (gad "_law_is" K) (fdD K (gad "_law_is" K))
  F_l_int : FunD K "_law_int" "_law_int" (defArgs s_l_int) (defBody s_l_int) (defScope s_l_int) [] [] (gad "_law_int" K) (fdD K (gad "_law_int" K))
  F_Phase_init : FunD K "__init__" "Phase.__init__" (defArgs s_Phase_init) (defBody s_Phase_init) (defScope s_Phase_init) [] [("barrier", V.str "guarded"), ("visits", V.bl false), ("pauses", V.bl true), ("stand", V.int (0)), ("skips", V.bl false)] (mad "Phase" "__init__" K) (fdD K (mad "Phase" "__init__" K))
  F_Book_init : FunD K "__init__" "Book.__init__" (defArgs s_Book_init) (defBody s_Book_init) (defScope s_Book_init) [] [] (mad "Book" "__init__" K) (fdD K (mad "Book" "__init__" K))
  F_Book_of : FunD K "of" "Book.of" (defArgs s_Book_of) (defBody s_Book_of) (defScope s_Book_of) [] [] (pad "classmethod" "Book" "of" K) (fdD K (pad "classmethod" "Book" "of" K))
  F_Book_len : FunD K "__len__" "Book.__len__" (defArgs s_Book_len) (defBody s_Book_len) (defScope s_Book_len) [] [] (mad "Book" "__len__" K) (fdD K (mad "Book" "__len__" K))
  F_Book_getitem : FunD K "__getitem__" "Book.__getitem__" (defArgs s_Book_getitem) (defBody s_Book_getitem) (defScope s_Book_getitem) [] [] (mad "Book" "__getitem__" K) (fdD K (mad "Book" "__getitem__" K))
  F_Book_setitem : FunD K "__setitem__" "Book.__setitem__" (defArgs s_Book_setitem) (defBody s_Book_setitem) (defScope s_Book_setitem) [] [] (mad "Book" "__setitem__" K) (fdD K (mad "Book" "__setitem__" K))
  F_Book_after : FunD K "after" "Book.after" (defArgs s_Book_after) (defBody s_Book_after) (defScope s_Book_after) [] [] (mad "Book" "after" K) (fdD K (mad "Book" "after" K))
  F_l_calm : FunD K "_law_calm" "_law_calm" (defArgs s_l_calm) (defBody s_l_calm) (defScope s_l_calm) [] [] (gad "_law_calm" K) (fdD K (gad "_law_calm" K))
  F_l_rows : FunD K "_law_rows" "_law_rows" (defArgs s_l_rows) (defBody s_l_rows) (defScope s_l_rows) [] [] (gad "_law_rows" K) (fdD K (gad "_law_rows" K))
  F_l_phase : FunD K "_law_phase" "_law_phase" (defArgs s_l_phase) (defBody s_l_phase) (defScope s_l_phase) [] [] (gad "_law_phase" K) (fdD K (gad "_law_phase" K))
  F_l_same_phase : FunD K "_law_same_phase" "_law_same_phase" (defArgs s_l_same_phase) (defBody s_l_same_phase) (defScope s_l_same_phase) [] [] (gad "_law_same_phase" K) (fdD K (gad "_law_same_phase" K))
  F_l_same_book : FunD K "_law_same_book" "_law_same_book" (defArgs s_l_same_book) (defBody s_l_same_book) (defScope s_l_same_book) [] [] (gad "_law_same_book" K) (fdD K (gad "_law_same_book" K))
  F_l_book : FunD K "_law_book" "_law_book" (defArgs s_l_book) (defBody s_l_book) (defScope s_l_book) [] [] (gad "_law_book" K) (fdD K (gad "_law_book" K))
  F_l_after : FunD K "_law_after" "_law_after" (defArgs s_l_after) (defBody s_l_after) (defScope s_l_after) [] [] (gad "_law_after" K) (fdD K (gad "_law_after" K))
  F_l_all_after : FunD K "_law_all_after" "_law_all_after" (defArgs s_l_all_after) (defBody s_l_all_after) (defScope s_l_all_after) [] [] (gad "_law_all_after" K) (fdD K (gad "_law_all_after" K))
  F_law : FunD K "law" "law" (defArgs s_law) (defBody s_law) (defScope s_law) [] [] (gad "law" K) (fdD K (gad "law" K))
theorem Tx.of {K : PySem.W.Frag} {h : Heap} {mg : Str → Option Value} (X : K.In h) (G : h.Ns mainGlobals mg) (c : SaysX faAll fxAll dsAll K) : Tx K mg where
  n_abs := He.free_ok X G (c.fact 0 (f := .free "abs") rfl)
  n_bool := He.free_ok X G (c.fact 1 (f := .free "bool") rfl)
  n_int := He.free_ok X G (c.fact 2 (f := .free "int") rfl)
  n_isinstance := He.free_ok X G (c.fact 3 (f := .free "isinstance") rfl)
  n_len := He.free_ok X G (c.fact 4 (f := .free "len") rfl)
  n_list := He.free_ok X G (c.fact 5 (f := .free "list") rfl)
  n_max := He.free_ok X G (c.fact 6 (f := .free "max") rfl)
  n_range := He.free_ok X G (c.fact 7 (f := .free "range") rfl)
  n_str := He.free_ok X G (c.fact 8 (f := .free "str") rfl)
  n_tuple := He.free_ok X G (c.fact 9 (f := .free "tuple") rfl)
  g_l_pool := He.glo_ok X G (c.fact 10 (f := .glo "_law_pool") rfl)
  g_l_take := He.glo_ok X G (c.fact 11 (f := .glo "_law_take") rfl)
  g_l_raw := He.glo_ok X G (c.fact 12 (f := .glo "_law_raw") rfl)
  g_l_is := He.glo_ok X G (c.fact 13 (f := .glo "_law_is") rfl)
  g_l_int := He.glo_ok X G (c.fact 14 (f := .glo "_law_int") rfl)
  g_l_calm := He.glo_ok X G (c.fact 15 (f := .glo "_law_calm") rfl)
  g_l_rows := He.glo_ok X G (c.fact 16 (f := .glo "_law_rows") rfl)
  g_l_phase := He.glo_ok X G (c.fact 17 (f := .glo "_law_phase") rfl)
  g_l_same_phase := He.glo_ok X G (c.fact 18 (f := .glo "_law_same_phase") rfl)
  g_l_same_book := He.glo_ok X G (c.fact 19 (f := .glo "_law_same_book") rfl)
  g_l_book := He.glo_ok X G (c.fact 20 (f := .glo "_law_book") rfl)
  g_l_after := He.glo_ok X G (c.fact 21 (f := .glo "_law_after") rfl)
  g_l_all_after := He.glo_ok X G (c.fact 22 (f := .glo "_law_all_after") rfl)
  g_law := He.glo_ok X G (c.fact 23 (f := .glo "law") rfl)
  g_BARRIERS := He.glo_ok X G (c.fact 24 (f := .glo "BARRIERS") rfl)
  t_BARRIERS := tup_ok (c.more 0 (f := .tup "BARRIERS" [.str "none", .str "follow", .str "plain", .str "guarded"]) rfl)
  g_MOST_HUE := He.int_ok X G (c.fact 25 (f := .int "MOST_HUE" 5) rfl)
  g_MOST_STAND := He.int_ok X G (c.fact 26 (f := .int "MOST_STAND" 7) rfl)
  g_Phase := He.glo_ok X G (c.fact 27 (f := .glo "Phase") rfl)
  c_Phase := He.cls_ok (c.fact 28 (f := .cls "Phase") rfl)
  na_Phase_hue := He.noat_ok (c.fact 29 (f := .noat "Phase" "hue") rfl)
  na_Phase_barrier := He.noat_ok (c.fact 30 (f := .noat "Phase" "barrier") rfl)
  na_Phase_visits := He.noat_ok (c.fact 31 (f := .noat "Phase" "visits") rfl)
  na_Phase_pauses := He.noat_ok (c.fact 32 (f := .noat "Phase" "pauses") rfl)
  na_Phase_stand := He.noat_ok (c.fact 33 (f := .noat "Phase" "stand") rfl)
  na_Phase_skips := He.noat_ok (c.fact 34 (f := .noat "Phase" "skips") rfl)
  mk_Phase := He.mkr_ok (c.fact 35 (f := .mkr "Phase") rfl)
  i_Phase := (c.more 1 (f := .inst "Phase") rfl)
  g_Book := He.glo_ok X G (c.fact 36 (f := .glo "Book") rfl)
  c_Book := He.cls_ok (c.fact 37 (f := .cls "Book") rfl)
  na_Book_phases := He.noat_ok (c.fact 38 (f := .noat "Book" "phases") rfl)
  mk_Book := He.mkr_ok (c.fact 39 (f := .mkr "Book") rfl)
  m_Book_getitem := He.meth_ok (c.fact 40 (f := .meth "Book" "__getitem__") rfl)
  m_Book_setitem := He.meth_ok (c.fact 41 (f := .meth "Book" "__setitem__") rfl)
  m_Book_after := He.meth_ok (c.fact 42 (f := .meth "Book" "after") rfl)
  i_Book := (c.more 2 (f := .inst "Book") rfl)
  k_Phase_Phase := kit_ok (c.more 3 (f := .kit (.own "Phase") (.own "Phase") true) rfl)
  k_Book_Book := kit_ok (c.more 4 (f := .kit (.own "Book") (.own "Book") true) rfl)
  cr_Book := cread_ok (c.more 5 (f := .cread "Book") rfl)
  cm_Book_of := cmeth_ok (c.more 6 (f := .cmeth "Book" "of") rfl)
  o_Book_len := own_ok (c.more 7 (f := .own "Book" "__len__") rfl)
  o_Book_getitem := own_ok (c.more 8 (f := .own "Book" "__getitem__") rfl)
  o_Book_setitem := own_ok (c.more 9 (f := .own "Book" "__setitem__") rfl)
  cv_Book_MOST := cint_ok (c.more 10 (f := .cint "Book" "MOST" 6) rfl)
  g_BadBook := He.glo_ok X G (c.fact 43 (f := .glo "BadBook") rfl)
  x_BadBook := He.exc_ok (c.fact 44 (f := .exc "BadBook") rfl)
  F_l_pool := c.fd 0 (d := d_l_pool) rfl
  F_l_take := c.fd 1 (d := d_l_take) rfl
  F_l_raw := c.fd 2 (d := d_l_raw) rfl
  F_l_is := c.fd 3 (d := d_l_is) rfl
  F_l_int := c.fd 4 (d := d_l_int) rfl
  F_Phase_init := c.fd 5 (d := d_Phase_init) rfl
  F_Book_init := c.fd 6 (d := d_Book_init) rfl
  F_Book_of := c.fd 7 (d := d_Book_of) rfl
  F_Book_len := c.fd 8 (d := d_Book_len) rfl
  F_Book_getitem := c.fd 9 (d := d_Book_getitem) rfl
  F_Book_setitem := c.fd 10 (d := d_Book_setitem) rfl
  F_Book_after := c.fd 11 (d := d_Book_after) rfl
  F_l_calm := c.fd 12 (d := d_l_calm) rfl
  F_l_rows := c.fd 13 (d := d_l_rows) rfl
  F_l_phase := c.fd 14 (d := d_l_phase) rfl
  F_l_same_phase := c.fd 15 (d := d_l_same_phase) rfl
  F_l_same_book := c.fd 16 (d := d_l_same_book) rfl
  F_l_book := c.fd 17 (d := d_l_book) rfl
  F_l_after := c.fd 18 (d := d_l_after) rfl
  F_l_all_after := c.fd 19 (d := d_l_all_after) rfl
  F_law := c.fd 20 (d := d_law) rfl
theorem bd_l_pool {K : PySem.W.Frag} {mg : Str → Option Value} (T : Tx K mg) : Binds K (fdD K (gad "_law_pool" K)) P_l_pool [] := T.F_l_pool.bindsN fun _ _ _ _ _ _ us hl => match us, hl with | [_], _ => rfl
theorem bd_l_take {K : PySem.W.Frag} {mg : Str → Option Value} (T : Tx K mg) : Binds K (fdD K (gad "_law_take" K)) P_l_take [] := T.F_l_take.bindsN fun _ _ _ _ _ _ us hl => match us, hl with | [_, _], _ => rfl
theorem bd_l_raw {K : PySem.W.Frag} {mg : Str → Option Value} (T : Tx K mg) : Binds K (fdD K (gad "_law_raw" K)) P_l_raw [] := T.F_l_raw.bindsN fun _ _ _ _ _ _ us hl => match us, hl with | [_], _ => rfl
theorem bd_l_is {K : PySem.W.Frag} {mg : Str → Option Value} (T : Tx K mg) : Binds K (fdD K (gad "_law_is" K)) P_l_is [] := T.F_l_is.bindsN fun _ _ _ _ _ _ us hl => match us, hl with | [_, _], _ => rfl
theorem bd_l_int {K : PySem.W.Frag} {mg : Str → Option Value} (T : Tx K mg) : Binds K (fdD K (gad "_law_int" K)) P_l_int [] := T.F_l_int.bindsN fun _ _ _ _ _ _ us hl => match us, hl with | [_], _ => rfl
theorem bd_Book_of {K : PySem.W.Frag} {mg : Str → Option Value} (T : Tx K mg) : Binds K (fdD K (pad "classmethod" "Book" "of" K)) P_Book_of [] := T.F_Book_of.bindsN fun _ _ _ _ _ _ us hl => match us, hl with | [_, _], _ => rfl
theorem bd_Book_len {K : PySem.W.Frag} {mg : Str → Option Value} (T : Tx K mg) : Binds K (fdD K (mad "Book" "__len__" K)) P_Book_len [] := T.F_Book_len.bindsN fun _ _ _ _ _ _ us hl => match us, hl with | [_], _ => rfl
theorem bd_Book_getitem {K : PySem.W.Frag} {mg : Str → Option Value} (T : Tx K mg) : Binds K (fdD K (mad "Book" "__getitem__" K)) P_Book_getitem [] := T.F_Book_getitem.bindsN fun _ _ _ _ _ _ us hl => match us, hl with | [_, _], _ => rfl
theorem bd_Book_setitem {K : PySem.W.Frag} {mg : Str → Option Value} (T : Tx K mg) : Binds K (fdD K (mad "Book" "__setitem__" K)) P_Book_setitem [] := T.F_Book_setitem.bindsN fun _ _ _ _ _ _ us hl => match us, hl with | [_, _, _], _ => rfl
theorem bd_Book_after {K : PySem.W.Frag} {mg : Str → Option Value} (T : Tx K mg) : Binds K (fdD K (mad "Book" "after" K)) P_Book_after [] := T.F_Book_after.bindsN fun _ _ _ _ _ _ us hl => match us, hl with | [_, _], _ => rfl
theorem bd_l_calm {K : PySem.W.Frag} {mg : Str → Option Value} (T : Tx K mg) : Binds K (fdD K (gad "_law_calm" K)) P_l_calm [] := T.F_l_calm.bindsN fun _ _ _ _ _ _ us hl => match us, hl with | [_, _, _], _ => rfl
theorem bd_l_rows {K : PySem.W.Frag} {mg : Str → Option Value} (T : Tx K mg) : Binds K (fdD K (gad "_law_rows" K)) P_l_rows [] := T.F_l_rows.bindsN fun _ _ _ _ _ _ us hl => match us, hl with | [_, _], _ => rfl
theorem bd_l_phase {K : PySem.W.Frag} {mg : Str → Option Value} (T : Tx K mg) : Binds K (fdD K (gad "_law_phase" K)) P_l_phase [] := T.F_l_phase.bindsN fun _ _ _ _ _ _ us hl => match us, hl with | [_], _ => rfl
theorem bd_l_same_phase {K : PySem.W.Frag} {mg : Str → Option Value} (T : Tx K mg) : Binds K (fdD K (gad "_law_same_phase" K)) P_l_same_phase [] := T.F_l_same_phase.bindsN fun _ _ _ _ _ _ us hl => match us, hl with | [_, _], _ => rfl
theorem bd_l_same_book {K : PySem.W.Frag} {mg : Str → Option Value} (T : Tx K mg) : Binds K (fdD K (gad "_law_same_book" K)) P_l_same_book [] := T.F_l_same_book.bindsN fun _ _ _ _ _ _ us hl => match us, hl with | [_, _], _ => rfl
theorem bd_l_book {K : PySem.W.Frag} {mg : Str → Option Value} (T : Tx K mg) : Binds K (fdD K (gad "_law_book" K)) P_l_book [] := T.F_l_book.bindsN fun _ _ _ _ _ _ us hl => match us, hl with | [_], _ => rfl
theorem bd_l_after {K : PySem.W.Frag} {mg : Str → Option Value} (T : Tx K mg) : Binds K (fdD K (gad "_law_after" K)) P_l_after [] := T.F_l_after.bindsN fun _ _ _ _ _ _ us hl => match us, hl with | [_, _], _ => rfl
theorem bd_l_all_after {K : PySem.W.Frag} {mg : Str → Option Value} (T : Tx K mg) : Binds K (fdD K (gad "_law_all_after" K)) P_l_all_after [] := T.F_l_all_after.bindsN fun _ _ _ _ _ _ us hl => match us, hl with | [_, _], _ => rfl
theorem bd_law {K : PySem.W.Frag} {mg : Str → Option Value} (T : Tx K mg) : Binds K (fdD K (gad "law" K)) P_law [] := T.F_law.bindsN fun _ _ _ _ _ _ us hl => match us, hl with | [_], _ => rfl
theorem kb_Phase_barrier_visits_pauses_stand_skips {K : PySem.W.Frag} {mg : Str → Option Value} (T : Tx K mg) : ∃ g, KBn K (fdD K (mad "Phase" "__init__" K)) P_Phase_init 2 ["barrier", "visits", "pauses", "stand", "skips"] g (fun us zs => us ++ ((zs.drop 0).take 1 ++ ((zs.drop 1).take 1 ++ ((zs.drop 2).take 1 ++ ((zs.drop 3).take 1 ++ ((zs.drop 4).take 1)))))) := by
  obtain ⟨mv, h⟩ := FunD.kbinds0 (ps := P_Phase_init) T.F_Phase_init 2 ["barrier", "visits", "pauses", "stand", "skips"] ([] : List (Str × V)) (fun us mz zs => us ++ ((zs.drop 0).take 1 ++ ((zs.drop 1).take 1 ++ ((zs.drop 2).take 1 ++ ((zs.drop 3).take 1 ++ ((zs.drop 4).take 1)))))) (by simp) (by simp) (fun r1 r2 r3 => Vals.append r1 (Vals.append (Vals.take 1 (Vals.drop 0 r3)) (Vals.append (Vals.take 1 (Vals.drop 1 r3)) (Vals.append (Vals.take 1 (Vals.drop 2 r3)) (Vals.append (Vals.take 1 (Vals.drop 3 r3)) (Vals.take 1 (Vals.drop 4 r3)))))))
    (fun D doc pm an cdv ct us mv ws h1 h2 h3 => match us, mv, ws, h1, h2, h3 with | [_, _], [], [_, _, _, _, _], _, _, _ => rfl)
  exact ⟨_, h⟩
local macro_rules | `(tactic| walk_at "hp") => `(tactic| first
  | assumption
  | exact upd_same
  | (refine upd_old (by assumption) ?_; walk_at "hp")
  | (refine upd_oth (by assumption) ?_; walk_at "hp")
  | (refine same_get (by assumption) ?_; walk_at "hp")
  | (refine Fl.get (by assumption) (by assumption) ?_; walk_at "hp"))
local macro_rules | `(tactic| walk_at "seq") => `(tactic| first
  | assumption
  | exact T.t_BARRIERS _
  | exact SqL.of (by walk_at "hp")
  | exact SqT.of (by walk_at "hp"))
local macro_rules | `(tactic| walk_at "len") => `(tactic| first
  | exact Or.inl (by walk_at "seq")
  | exact Or.inr (by walk_at "seq"))
local macro_rules | `(tactic| walk_at "at") => `(tactic| first
  | rfl
  | assumption)

/-! ### drawn numbers -/
/-- all but l stands as it stood -/
def Fl (l : Addr) (H H' : Hp) : Prop := ∀ a o, a ≠ l → H a = some o → H' a = some o
theorem Fl.refl (l : Addr) (H : Hp) : Fl l H H := fun _ _ _ h => h
theorem Fl.trans {l : Addr} {H H1 H2 : Hp} (a : Fl l H H1) (b : Fl l H1 H2) : Fl l H H2 := fun c o n h => b c o n (a c o n h)
theorem Fl.cell {l : Addr} {H : Hp} {o : HO} : Fl l H (L2.upd H l o) := fun _ _ n h => upd_oth n h
theorem Fl.same {l : Addr} {H H' : Hp} (e : Same H H') : Fl l H H' := fun a o _ h => e a o h
theorem Fl.new {l p : Addr} {H : Hp} {o : HO} (n : H p = none) : Fl l H (L2.upd H p o) := fun _ _ _ h => upd_old n h
theorem Fl.add {l p : Addr} {H H' : Hp} {o : HO} (e : Fl l H H') (n : H' p = none) : Fl l H (L2.upd H' p o) := e.trans (Fl.new n)
theorem Fl.put {l : Addr} {H H' : Hp} {o : HO} (e : Fl l H H') : Fl l H (L2.upd H' l o) := e.trans Fl.cell
theorem Fl.get {l a : Addr} {H H' : Hp} {o : HO} (e : Fl l H H') (n : a ≠ l) (h : H a = some o) : H' a = some o := e a o n h
theorem Fl.free {l p : Addr} {H H' : Hp} (e : Fl l H H') (n : p ≠ l) (h : H' p = none) : H p = none := by
  cases q : H p with
  | none => rfl
  | some o => rw [e p o n q] at h; cases h
theorem Fl.seq {K : PySem.W.Frag} {l a : Addr} {H H' : Hp} {xs : List V} (e : Fl l H H') (n : a ≠ l) (h : SqL K H a xs) : SqL K H' a xs := by
  rcases h with (h | ⟨o, h⟩) | h
  · exact .inl (.inl (e _ _ n h))
  · exact .inl (.inr ⟨o, e _ _ n h⟩)
  · exact .inr h
/-- a pool of drawn numbers stands at l -/
def PoolAt (H : Hp) (l : Addr) : Prop := ∃ ns : List Int, H l = some (.lst (ns.map V.int)) ∧ ns.length ≤ 5000
theorem PoolAt.upd {H : Hp} {l p : Addr} {o : HO} (h : PoolAt H l) (n : H p = none) : PoolAt (L2.upd H p o) l := by
  obtain ⟨ns, h1, h2⟩ := h
  exact ⟨ns, upd_old n h1, h2⟩
theorem PoolAt.ne {H : Hp} {l p : Addr} (h : PoolAt H l) (n : H p = none) : p ≠ l := by
  obtain ⟨ns, h1, _⟩ := h
  exact (ne_of_none h1 n).symm
/-- a pool drawn from: a number below m, l alone is changed -/
def spPool (K : PySem.W.Frag) : Sp := fun vs H Q _ => ∃ (a : Addr) (ns : List Int), vs = [.ref a] ∧ SqL K H a (ns.map V.int) ∧ ns.length ≤ 63 ∧
  ∀ p H', H p = none → Same H H' → PoolAt H' p → Q (.ref p) H'
def spTake : Sp := fun vs H Q _ => ∃ (l : Addr) (m : Int), vs = [.ref l, .int m] ∧ PoolAt H l ∧ 0 < m ∧
  ∀ v H', 0 ≤ v → v < m → Fl l H H' → PoolAt H' l → Q (.int v) H'
def spNumber : Sp := fun vs H Q _ => ∃ (l : Addr), vs = [.ref l] ∧ PoolAt H l ∧ ∀ v H', 0 ≤ v → v.toNat < 2 ^ 200 → Fl l H H' → PoolAt H' l → Q (.int v) H'
section
variable {P : Program} {w : World} {K : PySem.W.Frag} {mg : Str → Option Value} {base : Heap}
theorem ok_l_pool (T : Tx K mg) : FnOk P w K mg base CX0 1 (gad "_law_pool" K) (fdD K (gad "_law_pool" K)) P_l_pool (spPool K) := by
  refine T.F_l_pool.ok sc_l_pool (fun vs H Q E h => ?_) (fun cdv A outer s H vs Q E hr h => ?_)
  · obtain ⟨a, ns, rfl, _⟩ := h; rfl
  · obtain ⟨a, ns, rfl, hS, hlen, k⟩ := h
    refine ⟨_, PSs.nox ((pss_cons (ps_set (i := 1) sc_l_pool.nd rfl (Or.inl rfl) (pe_lst pa_nil))
      (pss_cons (ps_set (i := 2) sc_l_pool.nd rfl (Or.inl rfl) pe_int)
      (pss_cons (ps_for PassesOwn.never rfl (pi_list (pv 0)) (pg_name (i := 3) sc_l_pool.nd rfl (Or.inl rfl)) (pss_cons (ps_set (i := 4) sc_l_pool.nd rfl (Or.inl rfl) (pe_callB call_abs (by rfl) T.n_abs (by decide +kernel) (pa_cons (pe_callTy call_intI (by rfl) T.n_int (by decide +kernel) (pa_cons (pv 3) pa_nil)) pa_nil)))
      (pss_cons (ps_set (i := 2) sc_l_pool.nd rfl (Or.inl rfl) (pe_op op_mod (pe_callTy call_intI (by rfl) T.n_int (by decide +kernel) (pa_cons (pe_op op_add (pe_op op_mul (pv 2) pe_int) (pe_callTy call_intI (by rfl) T.n_int (by decide +kernel) (pa_cons (pv 3) pa_nil))) pa_nil)) pe_int))
      (pss_one (ps_if (pt_cmpR op_ge (pv 4) (pe_op op_pow pe_int pe_int) (nomark _)) (pss_one (ps_for PassesOwn.never rfl (pi_range1 (by rfl) T.n_range (pa_cons pe_int pa_nil)) (pg_name (i := 5) sc_l_pool.nd rfl (Or.inl rfl)) (pss_one (ps_if (pt_cmpR op_gt (pv 4) pe_int (nomark _)) (pss_cons (ps_expr (pe_bm PySem.F.plainAttrs_list PySem.F.slot_list_append PySem.F.type_list_append mt_append (pv 1) (pa_cons (pe_op op_mod (pe_callTy call_intI (by rfl) T.n_int (by decide +kernel) (pa_cons (pv 4) pa_nil)) pe_int) pa_nil)))
      (pss_one (ps_set (i := 4) sc_l_pool.nd rfl (Or.inl rfl) (pe_op op_fdiv (pv 4) pe_int)))) pss_nil)))) (pss_one (ps_for PassesOwn.never rfl (pi_range1 (by rfl) T.n_range (pa_cons pe_int pa_nil)) (pg_name (i := 5) sc_l_pool.nd rfl (Or.inl rfl)) (pss_cons (ps_set (i := 6) sc_l_pool.nd rfl (Or.inl rfl) (pe_op op_mod (pe_callTy call_intI (by rfl) T.n_int (by decide +kernel) (pa_cons (pe_op op_add (pe_op op_add (pe_op op_add (pe_op op_mul (pv 4) pe_int) (pe_op op_mul (pv 5) pe_int)) (pe_op op_mul pe_int (pe_callTy call_intB (by rfl) T.n_int (by decide +kernel) (pa_cons (pe_cmpR op_lt (pv 3) pe_int (nomark _)) pa_nil)))) pe_int) pa_nil)) pe_int))
      (pss_one (ps_expr (pe_bm PySem.F.plainAttrs_list PySem.F.slot_list_append PySem.F.type_list_append mt_append (pv 1) (pa_cons (pe_op op_mod (pe_callTy call_intI (by rfl) T.n_int (by decide +kernel) (pa_cons (pe_op op_mul (pv 6) (pv 6)) pa_nil)) pe_int) pa_nil))))))))))))
      (pss_cons (ps_for PassesOwn.never rfl (pi_range1 (by rfl) T.n_range (pa_cons (pe_op op_mul pe_int (pe_callTy call_intB (by rfl) T.n_int (by decide +kernel) (pa_cons (pe_cmpR op_gt (pe_callB call_len_seq (by rfl) T.n_len (by decide +kernel) (pa_cons (pv 0) pa_nil)) pe_int (nomark _)) pa_nil))) pa_nil)) (pg_name (i := 5) sc_l_pool.nd rfl (Or.inl rfl)) (pss_cons (ps_set (i := 2) sc_l_pool.nd rfl (Or.inl rfl) (pe_op op_mod (pe_callTy call_intI (by rfl) T.n_int (by decide +kernel) (pa_cons (pe_op op_add (pe_op op_mul (pv 2) pe_int) pe_int) pa_nil)) pe_int))
      (pss_one (ps_expr (pe_bm PySem.F.plainAttrs_list PySem.F.slot_list_append PySem.F.type_list_append mt_append (pv 1) (pa_cons (pe_op op_mod (pe_callTy call_intI (by rfl) T.n_int (by decide +kernel) (pa_cons (pe_op op_fdiv (pv 2) pe_int) pa_nil)) pe_int) pa_nil))))))
      (pss_one (ps_ret (pv 1)))))))), ?_⟩
    refine ⟨by decide, fun l nl => ?_⟩
    refine ⟨_, rfl, a, rfl, ⟨_, (Same.new nl).seq hS⟩, for_list (K := K) (a := a) (xs := ns.map V.int)
      (fun i σ H' => ∃ (qs : List Int) (mix : Int) (c n q d : Option V), σ = [some (.ref a), some (.ref l), some (.int mix), c, n, q, d] ∧ Same H H' ∧ H' l = some (.lst (qs.map V.int)) ∧ qs.length ≤ 60 * i)
      ⟨[], 7, none, none, none, none, rfl, Same.new nl, upd_same, Nat.zero_le _⟩ (fun i σ H' _ ⟨_, _, _, _, _, _, _, S, _⟩ => S.seq hS) ?_ ?_⟩
    · rintro i y σ H1 hi ⟨qs, mix, c, n, q, d, rfl, S, hl, hz⟩
      have hi63 : i < 63 := by
        have z := (List.getElem?_eq_some_iff.mp hi).1
        rw [List.length_map] at z
        omega
      obtain ⟨u, rfl⟩ : ∃ u, y = V.int u := by
        rw [List.getElem?_map] at hi
        cases e : ns[i]? with
        | none => rw [e] at hi; cases hi
        | some u => rw [e] at hi; exact ⟨u, (Option.some.inj hi).symm⟩
      refine ⟨_, rfl, _, rfl, _, rfl, _, rfl, _, _, rfl, rfl, (.inr ⟨by decide, by decide⟩), _, rfl, _, rfl, _, _, rfl, rfl, _, rfl, _, _, rfl, rfl, (show (0 : Int) < 2147483647 by decide), _, rfl, _, _, rfl, rfl, ⟨by decide, by decide, by decide⟩, _, _, rfl, rfl, _, rfl, ?_⟩
      refine iteB (fun _ => ?_) (fun _ => ?_)
      · refine ⟨60, rfl, by decide, by decide, for_range (n := 60)
          (fun j σ H' => ∃ (qs : List Int) (mix n : Int) (c q d : Option V), σ = [some (.ref a), some (.ref l), some (.int mix), c, some (.int n), q, d] ∧ Same H H' ∧ H' l = some (.lst (qs.map V.int)) ∧ qs.length ≤ 60 * i + j)
          ⟨qs, _, _, _, _, _, rfl, S, hl, hz⟩ ?_ ?_⟩
        · rintro j σ H2 hj ⟨qs, mix, n, c, q, d, rfl, S, hl, hz⟩
          refine ⟨_, rfl, _, _, rfl, rfl, _, rfl, ?_⟩
          refine iteB (fun _ => ?_) (fun _ => ?_)
          · refine ⟨_, rfl, .inl ⟨rfl, _, SqL.of hl⟩, _, rfl, _, rfl, _, _, rfl, rfl, (show (0 : Int) < 1000003 by decide), _, _, _, rfl, rfl, hl, (by rw [List.length_map]; exact Nat.lt_of_le_of_lt (show qs.length ≤ 4000 by omega) (by decide)), _, rfl, _, _, rfl, rfl, ⟨by decide, by decide⟩, ?_⟩
            refine ⟨qs ++ [n % 1000003], _, _, _, _, _, rfl, fun b o e => ?_, by rw [upd_same, List.map_append]; rfl, by rw [List.length_append, List.length_singleton]; omega⟩
            rw [upd_ne (ne_of_none e nl)]
            exact S b o e
          · exact ⟨qs, _, _, _, _, _, rfl, S, hl, by omega⟩
        · rintro σ H2 ⟨qs, mix, n, c, q, d, rfl, S, hl, hz⟩
          exact ⟨qs, _, _, _, _, _, rfl, S, hl, by omega⟩
      · refine ⟨3, rfl, by decide, by decide, for_range (n := 3)
          (fun j σ H' => ∃ (qs : List Int) (mix n u : Int) (q d : Option V), σ = [some (.ref a), some (.ref l), some (.int mix), some (.int u), some (.int n), q, d] ∧ Same H H' ∧ H' l = some (.lst (qs.map V.int)) ∧ qs.length ≤ 60 * i + j)
          ⟨qs, _, _, _, _, _, rfl, S, hl, hz⟩ ?_ ?_⟩
        · rintro j σ H2 hj ⟨qs, mix, n, u, q, d, rfl, S, hl, hz⟩
          refine ⟨_, rfl, _, _, rfl, rfl, (.inr ⟨by decide, by decide⟩), _, rfl, _, _, rfl, rfl, (.inr ⟨by decide, by decide⟩), _, _, rfl, rfl, _, rfl, _, _, rfl, rfl, _, rfl, _, _, rfl, rfl, (.inl ⟨by decide, by decide⟩), _, _, rfl, rfl, _, _, rfl, rfl, _, rfl, _, _, rfl, rfl, (show (0 : Int) < 2147483647 by decide), _, rfl, .inl ⟨rfl, _, SqL.of hl⟩, _, rfl, _, rfl, _, _, rfl, rfl, .inl ?_, _, rfl, _, _, rfl, rfl, (show (0 : Int) < 1000003 by decide), _, _, _, rfl, rfl, hl, (by rw [List.length_map]; exact Nat.lt_of_le_of_lt (show qs.length ≤ 4000 by omega) (by decide)), ?_⟩
          · constructor <;> omega
          · refine ⟨qs ++ [_], _, _, _, _, _, rfl, fun b o e => ?_, by rw [upd_same, List.map_append]; rfl, by rw [List.length_append, List.length_singleton]; omega⟩
            rw [upd_ne (ne_of_none e nl)]
            exact S b o e
        · rintro σ H2 ⟨qs, mix, n, u, q, d, rfl, S, hl, hz⟩
          exact ⟨qs, _, _, _, _, _, rfl, S, hl, by omega⟩
    · rintro σ H1 ⟨qs, mix, c, n, q, d, rfl, S, hl, hz⟩
      rw [List.length_map] at hz
      refine ⟨_, rfl, _, _, rfl, .inl (S.seq hS), _, _, rfl, rfl, _, rfl, _, _, rfl, rfl, (.inl ⟨by decide, by decide⟩), ?_⟩
      refine ⟨_, rfl, by split <;> decide, by split <;> decide, for_range (n := _)
          (fun j σ H' => ∃ (qs : List Int) (mix : Int) (c n q d : Option V), σ = [some (.ref a), some (.ref l), some (.int mix), c, n, q, d] ∧ Same H H' ∧ H' l = some (.lst (qs.map V.int)) ∧ qs.length ≤ 4000 + j)
          ⟨qs, _, _, _, _, _, rfl, S, hl, by omega⟩ ?_ ?_⟩
      · rintro j σ H2 hj ⟨qs, mix, c, n, q, d, rfl, S, hl, hz⟩
        have hj2 : j < 240 := by
          revert hj
          split <;> omega
        refine ⟨_, rfl, _, _, rfl, rfl, (.inr ⟨by decide, by decide⟩), _, _, rfl, rfl, _, rfl, _, _, rfl, rfl, (show (0 : Int) < 2147483647 by decide), _, rfl, .inl ⟨rfl, _, SqL.of hl⟩, _, rfl, _, _, rfl, rfl, ⟨by decide, by decide⟩, _, rfl, _, _, rfl, rfl, (show (0 : Int) < 1000003 by decide), _, _, _, rfl, rfl, hl, (by rw [List.length_map]; exact Nat.lt_of_le_of_lt (show qs.length ≤ 5000 by omega) (by decide)), ?_⟩
        refine ⟨qs ++ [_], _, _, _, _, _, rfl, fun b o e => ?_, by rw [upd_same, List.map_append]; rfl, by rw [List.length_append, List.length_singleton]; omega⟩
        rw [upd_ne (ne_of_none e nl)]
        exact S b o e
      · rintro σ H2 ⟨qs, mix, c, n, q, d, rfl, S, hl, hz⟩
        refine ⟨_, rfl, k l H2 nl S ⟨qs, hl, ?_⟩⟩
        revert hz
        split <;> (simp only [Int.mul_one, Int.mul_zero]; intro hz; omega)
theorem seq0 {n : Nat} {m : Nat} (h : n = m + 1) : seqIndex? 0 n = some 0 := by
  subst h
  unfold seqIndex?
  simp
  try omega
theorem ok_l_take (T : Tx K mg) : FnOk P w K mg base CX0 1 (gad "_law_take" K) (fdD K (gad "_law_take" K)) P_l_take spTake := by
  refine T.F_l_take.ok sc_l_take (fun vs H Q E h => ?_) (fun cdv A outer s H vs Q E hr h => ?_)
  · obtain ⟨l, m, rfl, _⟩ := h; rfl
  · obtain ⟨l, m, rfl, ⟨ns, hl, hz⟩, hm, k⟩ := h
    refine ⟨_, PSs.nox ((pss_cons (ps_if (pt_cmpR op_eq (pe_callB call_len_seq (by rfl) T.n_len (by decide +kernel) (pa_cons (pv 0) pa_nil)) pe_int (nomark _)) (pss_one (ps_ret pe_int)) pss_nil)
      (pss_one (ps_ret (pe_op op_mod (pe_callTy call_intI (by rfl) T.n_int (by decide +kernel) (pa_cons (pe_bm PySem.F.plainAttrs_list PySem.F.slot_list_pop PySem.F.type_list_pop mt_popAt (pv 0) (pa_cons pe_int pa_nil)) pa_nil)) (pv 1)))))), ?_⟩
    refine ⟨_, rfl, _, _, rfl, (by walk_at "len"), rfl, _, rfl, ?_⟩
    cases ns with
    | nil =>
      refine iteT ?_
      exact k 0 H (Int.le_refl _) hm (Fl.refl _ _) ⟨[], hl, hz⟩
    | cons n t =>
      refine iteB (fun c => ?_) (fun _ => ?_)
      · have c1 := of_decide_eq_true c
        injection c1 with c2
        simp only [List.map_cons, List.length_cons] at c2
        omega
      · refine ⟨_, rfl, .inl ⟨rfl, _, SqL.of hl⟩, _, _, _, 0, _, rfl, rfl, hl, by decide, by decide, seq0 (m := t.length) (by simp), rfl, _, rfl, _, rfl, _, _, rfl, rfl, hm, ?_⟩
        exact k _ _ (Int.emod_nonneg _ (by omega)) (Int.emod_lt_of_pos _ hm) Fl.cell ⟨t, upd_same, by simp only [List.length_cons] at hz; omega⟩
end

/-! ### phases -/
inductive Bar where
  | none | follow | plain | guarded
  deriving DecidableEq
def Bar.s : Bar → Str
  | .none => "none"
  | .follow => "follow"
  | .plain => "plain"
  | .guarded => "guarded"
def barAt (i : Int) : Bar := if i = 0 then .none else if i = 1 then .follow else if i = 2 then .plain else .guarded
structure Ph where
  hue : Int
  bar : Bar
  vis : Bool
  pau : Bool
  std : Int
  skp : Bool
  deriving DecidableEq
structure Ph.Ok (r : Ph) : Prop where
  h0 : 0 ≤ r.hue
  h1 : r.hue ≤ 5
  s0 : 0 ≤ r.std
  s1 : r.std ≤ 7
/-- the fields as values: a row -/
def Ph.vs (r : Ph) : List V := [.int r.hue, .str r.bar.s, .bl r.vis, .bl r.pau, .int r.std, .bl r.skp]
abbrev barVs : List V := [V.str "none", V.str "follow", V.str "plain", V.str "guarded"]
theorem bar_in (b : Bar) : inV (.str b.s) barVs = true := by cases b <;> decide +kernel
theorem at_bar {i : Int} (h0 : 0 ≤ i) (h1 : i < 4) : atI barVs i = some (.str (barAt i).s) := by
  rcases (by omega : i = 0 ∨ i = 1 ∨ i = 2 ∨ i = 3) with rfl | rfl | rfl | rfl <;> rfl
/-- the attributes of a phase, in the order in which they are stored -/
def phF (r : Ph) : List (Str × V) := putF "skips" (.bl r.skp) (putF "stand" (.int r.std) (putF "pauses" (.bl r.pau) (putF "visits" (.bl r.vis) (putF "barrier" (.str r.bar.s) (putF "hue" (.int r.hue) [])))))
theorem few {f : Str} {v : V} {fs : List (Str × V)} {n : Nat} (h : fs.length < n) : (putF f v fs).length < n + 1 := Nat.lt_of_le_of_lt (length_putF f v fs) (Nat.succ_lt_succ h)
section
variable (r : Ph)
theorem ph_hue : (phF r).lookup ("hue" : Str) = some (.int r.hue) := by
  unfold phF
  simp only [lookup_putF]
  rw [if_neg (by decide +kernel), if_neg (by decide +kernel), if_neg (by decide +kernel), if_neg (by decide +kernel), if_neg (by decide +kernel), if_pos trivial]
theorem ph_barrier : (phF r).lookup ("barrier" : Str) = some (.str r.bar.s) := by
  unfold phF
  simp only [lookup_putF]
  rw [if_neg (by decide +kernel), if_neg (by decide +kernel), if_neg (by decide +kernel), if_neg (by decide +kernel), if_pos trivial]
theorem ph_visits : (phF r).lookup ("visits" : Str) = some (.bl r.vis) := by
  unfold phF
  simp only [lookup_putF]
  rw [if_neg (by decide +kernel), if_neg (by decide +kernel), if_neg (by decide +kernel), if_pos trivial]
theorem ph_pauses : (phF r).lookup ("pauses" : Str) = some (.bl r.pau) := by
  unfold phF
  simp only [lookup_putF]
  rw [if_neg (by decide +kernel), if_neg (by decide +kernel), if_pos trivial]
theorem ph_stand : (phF r).lookup ("stand" : Str) = some (.int r.std) := by
  unfold phF
  simp only [lookup_putF]
  rw [if_neg (by decide +kernel), if_pos trivial]
theorem ph_skips : (phF r).lookup ("skips" : Str) = some (.bl r.skp) := by
  unfold phF
  simp only [lookup_putF]
  rw [if_pos trivial]
theorem ph_no {m : Str} (h : ¬ (m = "skips" ∨ m = "stand" ∨ m = "pauses" ∨ m = "visits" ∨ m = "barrier" ∨ m = "hue")) : (phF r).lookup m = none := by
  unfold phF
  simp only [lookup_putF]
  rw [if_neg (fun z => h (by simp [z])), if_neg (fun z => h (by simp [z])), if_neg (fun z => h (by simp [z])), if_neg (fun z => h (by simp [z])), if_neg (fun z => h (by simp [z])), if_neg (fun z => h (by simp [z]))]
  rfl
end
/-- a phase stands at a -/
def PhAt (K : PySem.W.Frag) (H : Hp) (a : Addr) (r : Ph) : Prop := ∃ dx, H a = some (.ins (gad "Phase" K) dx (phF r))
theorem PhAt.fl {K : PySem.W.Frag} {H H' : Hp} {a l : Addr} {r : Ph} (h : PhAt K H a r) (e : Fl l H H') (n : a ≠ l) : PhAt K H' a r := by
  obtain ⟨dx, h⟩ := h
  exact ⟨dx, e _ _ n h⟩
theorem PhAt.same {K : PySem.W.Frag} {H H' : Hp} {a : Addr} {r : Ph} (h : PhAt K H a r) (e : Same H H') : PhAt K H' a r := by
  obtain ⟨dx, h⟩ := h
  exact ⟨dx, e _ _ h⟩
theorem iteD {p : Prop} [Decidable p] {A B : Prop} (h : p) (a : A) : if decide p = true then A else B := by rw [decide_eq_true h]; exact iteT a
theorem iteDN {p : Prop} [Decidable p] {A B : Prop} (h : ¬ p) (b : B) : if decide p = true then A else B := by rw [decide_eq_false h]; exact iteF b
theorem iteND {p : Prop} [Decidable p] {A B : Prop} (h : ¬ p) (a : A) : if (!decide p) = true then A else B := by rw [decide_eq_false h]; exact iteT a
theorem iteE {x : Bool} {A B : Prop} (e : x = false) (b : B) : if x = true then A else B := by rw [e]; exact iteF b
theorem iteY {x : Bool} {A B : Prop} (e : x = true) (a : A) : if x = true then A else B := by rw [e]; exact iteT a
/-! ### promises -/
def spPhaseInit (C : Addr) : Sp := fun vs H Q _ => ∃ (p dx : Addr) (r : Ph), vs = .ref p :: r.vs ∧ H p = some (.ins C dx []) ∧ r.Ok ∧
  ∀ H', Fl p H H' → H' p = some (.ins C dx (phF r)) → Q .non H'
/-- a question to a phase that changes nothing -/
def spPh (K : PySem.W.Frag) (g : Ph → V) : Sp := fun vs H Q _ => ∃ (a : Addr) (r : Ph), vs = [.ref a] ∧ PhAt K H a r ∧ r.Ok ∧ Q (g r) H
def spIs : Sp := fun vs H Q _ => ∃ (x : V) (b : Bool), vs = [x, .bl b] ∧ (∃ c, x = .bl c ∧ Q (.bl (c == b)) H)
def spInt : Sp := fun vs H Q _ => ∃ i : Int, vs = [.int i] ∧ Q (.bl true) H
/-- a row is drawn: a new tuple -/
def spRaw : Sp := fun vs H Q _ => ∃ (l : Addr), vs = [.ref l] ∧ PoolAt H l ∧
  ∀ (r : Ph) t H', r.Ok → H t = none → t ≠ l → Fl l H H' → PoolAt H' l → H' t = some (.tup r.vs) → Q (.ref t) H'
def badOf (h : Int) : Int := Builtin.bitXor 63 (1 * 2 ^ h.toNat)
section
variable {P : Program} {w : World} {K : PySem.W.Frag} {mg : Str → Option Value} {base : Heap}
theorem ok_Phase_init (T : Tx K mg) : FnOk P w K mg base CX0 1 (mad "Phase" "__init__" K) (fdD K (mad "Phase" "__init__" K)) P_Phase_init (spPhaseInit (gad "Phase" K)) := by
  refine T.F_Phase_init.ok sc_Phase_init (fun vs H Q E h => ?_) (fun cdv A outer s H vs Q E hr h => ?_)
  · obtain ⟨p, dx, r, rfl, _⟩ := h; rfl
  · obtain ⟨p, dx, r, rfl, hp, ok, k⟩ := h
    refine ⟨_, PSs.nox ((pss_cons (ps_if (pt_not (pt_chain op_le op_le pe_int (pv 1) (pe_gi rfl T.g_MOST_HUE))) (pss_one ps_never) pss_nil)
      (pss_cons (ps_if (pt_cmpR op_notIn_seq (pv 2) (pe_gr rfl T.g_BARRIERS) (by rfl)) (pss_one ps_never) pss_nil)
      (pss_cons (ps_if (pt_not (pt_chain op_le op_le pe_int (pv 5) (pe_gi rfl T.g_MOST_STAND))) (pss_one ps_never) pss_nil)
      (pss_cons (ps_fld (pv 0) (pv 1) rfl)
      (pss_cons (ps_fld (pv 0) (pv 2) rfl)
      (pss_cons (ps_fld (pv 0) (pv 3) rfl)
      (pss_cons (ps_fld (pv 0) (pv 4) rfl)
      (pss_cons (ps_fld (pv 0) (pv 5) rfl)
      (pss_one (ps_fld (pv 0) (pv 6) rfl))))))))))), ?_⟩
    refine ⟨_, rfl, _, _, rfl, rfl, _, rfl, iteD ok.h0 ?_⟩
    refine ⟨_, _, rfl, rfl, _, rfl, iteNS ok.h1 ?_⟩
    refine ⟨_, rfl, _, _, rfl, .inr (T.t_BARRIERS _), rfl, rfl, _, rfl, iteE (by rw [if_pos rfl, bar_in]; rfl) ?_⟩
    refine ⟨_, rfl, _, _, rfl, rfl, _, rfl, iteD ok.s0 ?_⟩
    refine ⟨_, _, rfl, rfl, _, rfl, iteNS ok.s1 ?_⟩
    refine ⟨_, rfl, _, rfl, p, _, dx, _, rfl, hp, T.c_Phase, T.na_Phase_hue, (Nat.zero_lt_succ _), _, rfl, _, rfl, p, _, dx, _, rfl, upd_same, T.c_Phase, T.na_Phase_barrier, few (Nat.zero_lt_succ _), _, rfl, _, rfl, p, _, dx, _, rfl, upd_same, T.c_Phase, T.na_Phase_visits, few (few (Nat.zero_lt_succ _)), _, rfl, _, rfl, p, _, dx, _, rfl, upd_same, T.c_Phase, T.na_Phase_pauses, few (few (few (Nat.zero_lt_succ _))), _, rfl, _, rfl, p, _, dx, _, rfl, upd_same, T.c_Phase, T.na_Phase_stand, few (few (few (few (Nat.zero_lt_succ _)))), _, rfl, _, rfl, p, _, dx, _, rfl, upd_same, T.c_Phase, T.na_Phase_skips, few (few (few (few (few (Nat.zero_lt_succ _))))), ?_⟩
    refine k _ ?_ upd_same
    simp only [upd_upd]
    exact Fl.cell
theorem ok_l_raw (T : Tx K mg) : FnOk P w K mg base CX0 3 (gad "_law_raw" K) (fdD K (gad "_law_raw" K)) P_l_raw spRaw := by
  refine T.F_l_raw.ok sc_l_raw (fun vs H Q E h => ?_) (fun cdv A outer s H vs Q E hr h => ?_)
  · obtain ⟨l, rfl, _⟩ := h; rfl
  · obtain ⟨l, rfl, hP, k⟩ := h
    refine ⟨_, PSs.nox ((pss_cons (ps_set (i := 1) sc_l_raw.nd rfl (Or.inl rfl) (pe_call (ok_l_take T) (hr.mono (by decide)) rfl T.g_l_take T.F_l_take.kp (bd_l_take T) .nil pass0 (pa_cons (pv 0) (pa_cons pe_int pa_nil))))
      (pss_cons (ps_set (i := 2) sc_l_raw.nd rfl (Or.inl rfl) (pe_ix ix_list (pe_lst (pa_cons pe_str (pa_cons pe_str (pa_cons pe_str (pa_cons pe_str pa_nil))))) (pe_op op_mod (pe_callTy call_intI (by rfl) T.n_int (by decide +kernel) (pa_cons (pe_op op_fdiv (pv 1) pe_int) pa_nil)) pe_int) (fun _ _ => rfl)))
      (pss_cons (ps_set (i := 3) sc_l_raw.nd rfl (Or.inl rfl) (pe_callB (call_max2 rfl) (by rfl) T.n_max (by decide +kernel) (pa_cons pe_int (pa_cons (pe_op op_sub (pe_op op_mod (pe_callTy call_intI (by rfl) T.n_int (by decide +kernel) (pa_cons (pe_op op_fdiv (pv 1) pe_int) pa_nil)) pe_int) pe_int) pa_nil))))
      (pss_one (ps_ret (pe_tup (pa_cons (pe_op op_mod (pe_callTy call_intI (by rfl) T.n_int (by decide +kernel) (pa_cons (pv 1) pa_nil)) pe_int) (pa_cons (pv 2) (pa_cons (pe_cmpR op_eq (pe_op op_mod (pe_callTy call_intI (by rfl) T.n_int (by decide +kernel) (pa_cons (pe_op op_fdiv (pv 1) pe_int) pa_nil)) pe_int) pe_int (nomark _)) (pa_cons (pe_cmpR op_gt (pe_op op_mod (pe_callTy call_intI (by rfl) T.n_int (by decide +kernel) (pa_cons (pe_op op_fdiv (pv 1) pe_int) pa_nil)) pe_int) pe_int (nomark _)) (pa_cons (pv 3) (pa_cons (pe_cmpR op_eq (pe_op op_mod (pe_callTy call_intI (by rfl) T.n_int (by decide +kernel) (pa_cons (pe_op op_fdiv (pv 1) pe_int) pa_nil)) pe_int) pe_int (nomark _)) pa_nil))))))))))))), ?_⟩
    refine ⟨_, rfl, l, 1000003, rfl, hP, by decide, fun c H1 c0 c1 o1 P1 => ?_⟩
    have hb := at_bar (i := c / 6 % 4) (by omega) (by omega)
    refine ⟨(show (4 : Nat) ≤ sizeLine by decide), fun p1 np1 => ⟨_, rfl, _, _, rfl, rfl, ⟨by decide, by decide⟩, _, rfl, _, _, rfl, rfl, (show (0 : Int) < 4 by decide), _, _, _, _, rfl, rfl, SqL.of upd_same, hb, _, rfl, _, _, rfl, rfl, ⟨by decide, by decide⟩, _, rfl, _, _, rfl, rfl, (show (0 : Int) < 16 by decide), _, _, rfl, rfl, _, _, rfl, _, rfl, _, rfl, _, _, rfl, rfl, (show (0 : Int) < 6 by decide), _, rfl, _, rfl, _, _, rfl, rfl, ⟨by decide, by decide⟩, _, rfl, _, _, rfl, rfl, (show (0 : Int) < 2 by decide), rfl, _, rfl, _, _, rfl, rfl, ⟨by decide, by decide⟩, _, rfl, _, _, rfl, rfl, (show (0 : Int) < 4 by decide), _, _, rfl, rfl, _, rfl, _, rfl, _, _, rfl, rfl, ⟨by decide, by decide⟩, _, rfl, _, _, rfl, rfl, (show (0 : Int) < 5 by decide), rfl, (show (6 : Nat) ≤ sizeLine by decide), fun t nt => ?_⟩⟩
    have P2 := P1.upd (o := .lst barVs) np1
    refine k ⟨c % 6, barAt (c / 6 % 4), _, _, _, _⟩ t _ ⟨by show 0 ≤ c % 6; omega, by show c % 6 ≤ 5; omega, ?_, ?_⟩ ?_ (P2.ne nt) ((o1.add np1).add nt) (P2.upd nt) upd_same
    · show (0 : Int) ≤ if (c / 192 % 16 - 8) > 0 then _ else _
      split <;> omega
    · show (if (c / 192 % 16 - 8) > 0 then (c / 192 % 16 - 8) else 0) ≤ (7 : Int)
      split <;> omega
    · exact (o1.add np1).free (P2.ne nt) nt
theorem ok_l_int (T : Tx K mg) : FnOk P w K mg base CX0 1 (gad "_law_int" K) (fdD K (gad "_law_int" K)) P_l_int spInt := by
  refine T.F_l_int.ok sc_l_int (fun vs H Q E h => ?_) (fun cdv A outer s H vs Q E hr h => ?_)
  · obtain ⟨i, rfl, _⟩ := h; rfl
  · obtain ⟨i, rfl, k⟩ := h
    refine ⟨_, PSs.nox ((pss_one (ps_ret (pe_and (pe_callB call_isi (by rfl) T.n_isinstance (by decide +kernel) (pa_cons (pv 0) (pa_cons (pe_bty "int" rfl T.n_int (by decide +kernel)) pa_nil))) (pe_one (pe_not (pe_callB call_isi (by rfl) T.n_isinstance (by decide +kernel) (pa_cons (pv 0) (pa_cons (pe_bty "bool" rfl T.n_bool (by decide +kernel)) pa_nil))))))))), ?_⟩
    refine ⟨_, rfl, _, _, .type "int", .type "int", true, rfl, .ty _, .base (.int _), kit_ty (by decide +kernel), _, rfl, iteT ?_⟩
    exact ⟨_, rfl, _, _, .type "int", .type "bool", false, rfl, .ty _, .base (.int _), kit_ty (by decide +kernel), _, rfl, k⟩
theorem ok_l_is (T : Tx K mg) : FnOk P w K mg base CX0 1 (gad "_law_is" K) (fdD K (gad "_law_is" K)) P_l_is spIs := by
  refine T.F_l_is.ok sc_l_is (fun vs H Q E h => ?_) (fun cdv A outer s H vs Q E hr h => ?_)
  · obtain ⟨x, b, rfl, _⟩ := h; rfl
  · obtain ⟨x, b, rfl, c, rfl, k⟩ := h
    refine ⟨_, PSs.nox ((pss_one (ps_ret (pe_and (pe_callB call_isi (by rfl) T.n_isinstance (by decide +kernel) (pa_cons (pv 0) (pa_cons (pe_bty "bool" rfl T.n_bool (by decide +kernel)) pa_nil))) (pe_one (pe_cmpR op_eq (pv 0) (pv 1) (nomark _))))))), ?_⟩
    refine ⟨_, rfl, _, _, .type "bool", .type "bool", true, rfl, .ty _, .base (.bl _), kit_ty (by decide +kernel), _, rfl, iteT ?_⟩
    refine ⟨_, rfl, _, rfl, rfl, ?_⟩
    have e : decide (V.bl c = V.bl b) = (c == b) := by cases c <;> cases b <;> rfl
    show Q (.bl (decide (V.bl c = V.bl b))) H
    rw [e]
    exact k
end

/-! ### books -/
def bkF (l : Addr) : List (Str × V) := putF "phases" (.ref l) []
theorem bk_phases (l : Addr) : (bkF l).lookup ("phases" : Str) = some (.ref l) := by
  unfold bkF
  rw [lookup_putF, if_pos rfl]
/-- a book stands at b; its list at l; its phases -/
structure BkAt (K : PySem.W.Frag) (H : Hp) (b l : Addr) (rs : List Ph) : Prop where
  bk : ∃ dx, H b = some (.ins (gad "Book" K) dx (bkF l))
  ph : ∃ as : List Addr, H l = some (.lst (as.map V.ref)) ∧ as.length = rs.length ∧ ∀ (i : Nat) (a : Addr) (r : Ph), as[i]? = some a → rs[i]? = some r → PhAt K H a r
  n1 : 1 ≤ rs.length
  n6 : rs.length ≤ 6
  ok : ∀ r ∈ rs, r.Ok
theorem BkAt.mono {K : PySem.W.Frag} {H H' : Hp} {b l : Addr} {rs : List Ph} (h : BkAt K H b l rs) (e : Same H H') : BkAt K H' b l rs := by
  obtain ⟨⟨dx, h1⟩, ⟨as, h2, h3, h4⟩, h5, h6, h7⟩ := h
  exact ⟨⟨dx, e _ _ h1⟩, ⟨as, e _ _ h2, h3, fun i a r ha hr => (h4 i a r ha hr).same e⟩, h5, h6, h7⟩
/-- rows that were drawn: a list of tuples -/
structure RowsAt (H : Hp) (a : Addr) (rs : List Ph) : Prop where
  ls : ∃ ts : List Addr, H a = some (.lst (ts.map V.ref)) ∧ ts.length = rs.length ∧ ∀ (i : Nat) (t : Addr) (r : Ph), ts[i]? = some t → rs[i]? = some r → H t = some (.tup r.vs)
  ok : ∀ r ∈ rs, r.Ok
theorem RowsAt.mono {H H' : Hp} {a : Addr} {rs : List Ph} (h : RowsAt H a rs) (e : Same H H') : RowsAt H' a rs := by
  obtain ⟨⟨ts, h1, h2, h3⟩, h4⟩ := h
  exact ⟨⟨ts, e _ _ h1, h2, fun i t r ht hr => e _ _ (h3 i t r ht hr)⟩, h4⟩
theorem atI_nat' {α : Type} {xs : List α} {i : Int} {v : α} (h0 : 0 ≤ i) (h : xs[i.toNat]? = some v) : atI xs i = some v := by
  have e : i = ((i.toNat : Nat) : Int) := (Int.toNat_of_nonneg h0).symm
  rw [e]
  exact atI_nat h
theorem mem_get {α : Type} {xs : List α} {i : Nat} (h : i < xs.length) : ∃ x, xs[i]? = some x ∧ x ∈ xs := ⟨xs[i], List.getElem?_eq_getElem h, List.getElem_mem h⟩
/-- the i-th row -/
theorem RowsAt.row {H : Hp} {a : Addr} {rs : List Ph} (h : RowsAt H a rs) {i : Int} (h0 : 0 ≤ i) (h1 : i < rs.length) :
    ∃ (xs : List V) (t : Addr) (r : Ph), H a = some (.lst xs) ∧ atI xs i = some (.ref t) ∧ rs[i.toNat]? = some r ∧ r.Ok ∧ H t = some (.tup r.vs) := by
  obtain ⟨⟨ts, h2, h3, h4⟩, h5⟩ := h
  obtain ⟨r, hr, hm⟩ := mem_get (xs := rs) (i := i.toNat) (by omega)
  obtain ⟨t, ht, _⟩ := mem_get (xs := ts) (i := i.toNat) (by omega)
  exact ⟨_, t, r, h2, atI_nat' h0 (by rw [List.getElem?_map, ht]; rfl), hr, h5 r hm, h4 _ t r ht hr⟩
theorem RowsAt.len {H : Hp} {a : Addr} {rs : List Ph} (h : RowsAt H a rs) : ∃ xs : List V, H a = some (.lst xs) ∧ xs.length = rs.length := by
  obtain ⟨⟨ts, h2, h3, h4⟩, h5⟩ := h
  exact ⟨_, h2, by rw [List.length_map, h3]⟩
/-! ### promises -/
def spBookInit (K : PySem.W.Frag) : Sp := fun vs H Q E => ∃ (b dx p : Addr) (xs : List V), vs = [.ref b, .ref p] ∧ H b = some (.ins (gad "Book" K) dx []) ∧ H p = some (.tup xs) ∧
  (1 ≤ xs.length ∧ xs.length ≤ 6 → ∀ l H', H l = none → Fl b H H' → H' b = some (.ins (gad "Book" K) dx (bkF l)) → H' l = some (.lst xs) → Q .non H') ∧
  (¬ (1 ≤ xs.length ∧ xs.length ≤ 6) → ∀ H', Same H H' → E (.ref (gad "BadBook" K)) none H')
def spBookOf (K : PySem.W.Frag) : Sp := fun vs H Q E => ∃ (a : Addr) (xs : List V), vs = [.ref (gad "Book" K), .ref a] ∧ SqL K H a xs ∧ xs.length ≤ 1000 ∧
  (1 ≤ xs.length ∧ xs.length ≤ 6 → ∀ b dx l H', H b = none → H l = none → Same H H' → H' b = some (.ins (gad "Book" K) dx (bkF l)) → H' l = some (.lst xs) → Q (.ref b) H') ∧
  (¬ (1 ≤ xs.length ∧ xs.length ≤ 6) → ∀ H', Same H H' → E (.ref (gad "BadBook" K)) none H')
def spBookLen (K : PySem.W.Frag) : Sp := fun vs H Q _ => ∃ (b l : Addr) (rs : List Ph), vs = [.ref b] ∧ BkAt K H b l rs ∧ Q (.int rs.length) H
/-- book[n]: the address in the list -/
def spBookGet (K : PySem.W.Frag) : Sp := fun vs H Q _ => ∃ (b l : Addr) (rs : List Ph) (n : Int), vs = [.ref b, .int n] ∧ BkAt K H b l rs ∧
  ∀ a r, rs[(n % rs.length).toNat]? = some r → r.Ok → PhAt K H a r → Q (.ref a) H
def spBookSet (K : PySem.W.Frag) : Sp := fun vs H Q _ => ∃ (b l a : Addr) (rs : List Ph) (n : Int) (r : Ph), vs = [.ref b, .int n, .ref a] ∧ BkAt K H b l rs ∧ PhAt K H a r ∧ r.Ok ∧
  ∀ H', Fl l H H' → BkAt K H' b l (rs.set (n % rs.length).toNat r) → Q .non H'
/-- the rows behind row: as long as the phases may be left out -/
def aft (sk : Nat → Bool) (n row : Nat) : Nat → Nat → List Nat
  | _, 0 => []
  | k, f + 1 => ((row + 1 + k) % n) :: (if sk ((row + 1 + k) % n) then aft sk n row (k + 1) f else [])
def skOf (rs : List Ph) (i : Nat) : Bool := match rs[i]? with
  | some r => r.skp
  | none => false
def after (rs : List Ph) (row : Nat) : List Nat := aft (skOf rs) rs.length row 0 rs.length
def nts (l : List Nat) : List V := l.map fun (n : Nat) => V.int n
theorem aft_len (sk : Nat → Bool) (n row : Nat) : ∀ f k, (aft sk n row k f).length ≤ f
  | 0, _ => Nat.le_refl _
  | f + 1, k => by
    unfold aft
    rw [List.length_cons]
    split
    · exact Nat.succ_le_succ (aft_len sk n row f (k + 1))
    · exact Nat.succ_le_succ (Nat.zero_le _)
theorem aft_lt (sk : Nat → Bool) (n row : Nat) (h : 0 < n) : ∀ f k, ∀ x ∈ aft sk n row k f, x < n
  | 0, _, x, hx => by cases hx
  | f + 1, k, x, hx => by
    unfold aft at hx
    rcases List.mem_cons.mp hx with e | e
    · rw [e]; exact Nat.mod_lt _ h
    · split at e
      · exact aft_lt sk n row h f (k + 1) x e
      · cases e
theorem after_len (rs : List Ph) (row : Nat) : (after rs row).length ≤ rs.length := aft_len _ _ _ _ _
theorem after_lt (rs : List Ph) (row : Nat) (h : 1 ≤ rs.length) : ∀ x ∈ after rs row, x < rs.length := aft_lt _ _ _ h _ _
theorem after_ne (rs : List Ph) (row : Nat) (h : 1 ≤ rs.length) : 1 ≤ (after rs row).length := by
  unfold after
  cases e : rs.length with
  | zero => omega
  | succ n => unfold aft; rw [List.length_cons]; omega
def spAfter (K : PySem.W.Frag) : Sp := fun vs H Q _ => ∃ (b l : Addr) (rs : List Ph) (row : Nat), vs = [.ref b, .int row] ∧ BkAt K H b l rs ∧ row < rs.length ∧
  ∀ t H', H t = none → Same H H' → H' t = some (.tup (nts (after rs row))) → Q (.ref t) H'
section
variable {P : Program} {w : World} {K : PySem.W.Frag} {mg : Str → Option Value} {base : Heap}
theorem fr_Book_init (T : Tx K mg) : FnR P w K mg base (L2.CX P w) 2 (mad "Book" "__init__" K) (spStar 1 (spBookInit K)) := by
  obtain ⟨uM, hM⟩ := T.cv_Book_MOST
  refine fnr_star (ps := ["self"]) (pv := "phases") T.F_Book_init sc_Book_init StX.cxUp (fun kV doc pm an cdv ct us rest hl => ?_) (fun cdv A outer s H vs Q E hr h => ?_)
  · exact StX.bind_star1 (B := fun vs => bindArgs _ ⟨vs, []⟩) (fun _ => rfl) (fun _ _ _ => rfl) us rest hl
  · obtain ⟨b, dx, p, xs, rfl, hb, hp, k1, k2⟩ := h
    have bp : b ≠ p := ne_of hb hp (by intro z; cases z)
    refine ⟨_, (pss_cons (ps_if (pt_not (pt_chain op_le op_le pe_int (pe_callB call_len_seq (by rfl) T.n_len (by decide +kernel) (pa_cons (pv 1) pa_nil)) (ClX.pe_cval (pe_gr rfl T.g_Book)))) (pss_one (ps_raise rfl (takes_of rfl rfl rfl rfl) (pmk_own PySem.F.excBase_ValueError T.x_BadBook.1 T.g_BadBook T.x_BadBook.2.1 (raises_own T.x_BadBook.2.2.1 T.x_BadBook.2.2.2) rfl))) pss_nil)
      (pss_one (ps_fld (pv 0) (pe_callTy call_list_of (by rfl) T.n_list (by decide +kernel) (pa_cons (pv 1) pa_nil)) rfl))), ?_⟩
    refine ⟨_, rfl, p, _, rfl, .inr (SqT.of hp), _, _, rfl, rfl, _, rfl, ?_⟩
    by_cases h1 : 1 ≤ xs.length
    · refine iteD (by omega) ⟨_, _, _, uM, rfl, T.cr_Book, hM, _, _, rfl, rfl, _, rfl, ?_⟩
      by_cases h6 : xs.length ≤ 6
      · refine iteNS (by omega) ?_
        refine ⟨_, rfl, p, _, rfl, .inr (SqT.of hp), fun l hl => ?_⟩
        have bl : b ≠ l := ne_of_none hb hl
        refine ⟨_, rfl, b, _, dx, [], rfl, (by rw [upd_ne bl]; exact hb), T.c_Book, T.na_Book_phases, (Nat.zero_lt_succ _), ?_⟩
        exact k1 ⟨h1, h6⟩ l _ hl ((Fl.new hl).put) upd_same (by rw [upd_ne bl.symm]; exact upd_same)
      · refine iteND (by omega) ?_
        exact k2 (fun z => h6 z.2) _ (Same.refl _)
    · refine iteDN (by omega) ?_
      refine ⟨_, rfl, iteT ?_⟩
      exact k2 (fun z => h1 z.1) _ (Same.refl _)
theorem ok_Book_of (T : Tx K mg) : FnOk P w K mg base (L2.CX P w) 4 (pad "classmethod" "Book" "of" K) (fdD K (pad "classmethod" "Book" "of" K)) P_Book_of (spBookOf K) := by
  refine T.F_Book_of.ok sc_Book_of (fun vs H Q E h => ?_) (fun cdv A outer s H vs Q E hr h => ?_)
  · obtain ⟨a, xs, rfl, _⟩ := h; rfl
  · obtain ⟨a, xs, rfl, hS, hz, k1, k2⟩ := h
    refine ⟨_, (pss_one (ps_ret (pe_makeLS (i := 0) T.mk_Book (fr_Book_init T) (hr.mono (by decide)) (passes_call (takes_of rfl rfl rfl rfl) (fun _ _ _ _ z => z)) rfl (by first | exact Or.inl rfl | exact Or.inr (Or.inl rfl)) (pv 1)))), ?_⟩
    refine ⟨rfl, _, rfl, a, xs, rfl, .inr hS, fun b dx nb nd ne => ?_⟩
    refine ⟨[.ref b], xs, rfl, rfl, Nat.le_trans hz (by decide), fun p np => ?_⟩
    have bp : b ≠ p := fun z => by rw [z, upd_same] at np; cases np
    have S1 : Same H (upd (upd (upd H dx (.own b)) b (.ins (gad "Book" K) dx [])) p (.tup xs)) := Same.upd (Same.upd (Same.new nd) nb) (Same.free (Same.upd (Same.new nd) nb) np)
    refine ⟨b, dx, p, xs, rfl, upd_oth bp upd_same, upd_same, fun hv l H' nl fl hb hl => ⟨rfl, ?_⟩, fun hv H' S' => ?_⟩
    · refine k1 hv b dx l H' nb ?_ ?_ hb hl
      · exact S1.free nl
      · intro a o ha
        exact fl a o (ne_of_none ha nb) (S1 a o ha)
    · exact k2 hv H' (S1.trans S')
theorem fr_Book_of (T : Tx K mg) : FnR P w K mg base (L2.CX P w) 4 (pad "classmethod" "Book" "of" K) (spBookOf K) := fnr_of (ok_Book_of T) (bd_Book_of T)
theorem ok_Book_len (T : Tx K mg) : FnOk P w K mg base CX0 1 (mad "Book" "__len__" K) (fdD K (mad "Book" "__len__" K)) P_Book_len (spBookLen K) := by
  refine T.F_Book_len.ok sc_Book_len (fun vs H Q E h => ?_) (fun cdv A outer s H vs Q E hr h => ?_)
  · obtain ⟨b, l, rs, rfl, _⟩ := h; rfl
  · obtain ⟨b, l, rs, rfl, ⟨⟨dx, hb⟩, ⟨as, hl, e, _⟩, n1, n6, ok⟩, k⟩ := h
    refine ⟨_, PSs.nox ((pss_one (ps_ret (pe_callB call_len_seq (by rfl) T.n_len (by decide +kernel) (pa_cons (pe_fld (pv 0) rfl) pa_nil))))), ?_⟩
    refine ⟨_, rfl, b, _, dx, _, _, rfl, hb, T.c_Book, T.na_Book_phases, bk_phases l, l, _, rfl, .inl (SqL.of hl), ?_⟩
    show Q (.int ((as.map V.ref).length : Nat)) H
    rw [List.length_map, e]
    exact k
theorem fr_Book_len (T : Tx K mg) : FnR P w K mg base CX0 1 (mad "Book" "__len__" K) (spBookLen K) := fnr_of (ok_Book_len T) (bd_Book_len T)
theorem ok_Book_getitem (T : Tx K mg) : FnOk P w K mg base CX0 1 (mad "Book" "__getitem__" K) (fdD K (mad "Book" "__getitem__" K)) P_Book_getitem (spBookGet K) := by
  refine T.F_Book_getitem.ok sc_Book_getitem (fun vs H Q E h => ?_) (fun cdv A outer s H vs Q E hr h => ?_)
  · obtain ⟨b, l, rs, n, rfl, _⟩ := h; rfl
  · obtain ⟨b, l, rs, n, rfl, ⟨⟨dx, hb⟩, ⟨as, hl, e, hp⟩, n1, n6, ok⟩, k⟩ := h
    refine ⟨_, PSs.nox ((pss_one (ps_ret (pe_ix ix_list (pe_fld (pv 0) rfl) (pe_op op_mod (pv 1) (pe_callB call_len_seq (by rfl) T.n_len (by decide +kernel) (pa_cons (pe_fld (pv 0) rfl) pa_nil))) (fun _ _ => rfl))))), ?_⟩
    have m0 : 0 ≤ n % (rs.length : Int) := Int.emod_nonneg _ (by omega)
    have m1 : n % (rs.length : Int) < rs.length := Int.emod_lt_of_pos _ (by omega)
    obtain ⟨r, hr', hm⟩ := mem_get (xs := rs) (i := (n % (rs.length : Int)).toNat) (by omega)
    obtain ⟨a, ha, _⟩ := mem_get (xs := as) (i := (n % (rs.length : Int)).toNat) (by omega)
    have el : ((as.map V.ref).length : Int) = rs.length := by rw [List.length_map, e]
    refine ⟨_, rfl, b, _, dx, _, _, rfl, hb, T.c_Book, T.na_Book_phases, bk_phases l, _, rfl, _, rfl, b, _, dx, _, _, rfl, hb, T.c_Book, T.na_Book_phases, bk_phases l, l, _, rfl, .inl (SqL.of hl), _, _, rfl, rfl, (by show (0 : Int) < ((as.map V.ref).length : Int); omega), l, _, _, .ref a, rfl, rfl, SqL.of hl, ?_, ?_⟩
    · show atI (as.map V.ref) (n % ((as.map V.ref).length : Int)) = _
      rw [el]
      exact atI_nat' m0 (by rw [List.getElem?_map, ha]; rfl)
    · exact k a r hr' (ok r hm) (hp _ a r ha hr')
theorem fr_Book_getitem (T : Tx K mg) : FnR P w K mg base CX0 1 (mad "Book" "__getitem__" K) (spBookGet K) := fnr_of (ok_Book_getitem T) (bd_Book_getitem T)
theorem ok_Book_setitem (T : Tx K mg) : FnOk P w K mg base CX0 1 (mad "Book" "__setitem__" K) (fdD K (mad "Book" "__setitem__" K)) P_Book_setitem (spBookSet K) := by
  refine T.F_Book_setitem.ok sc_Book_setitem (fun vs H Q E h => ?_) (fun cdv A outer s H vs Q E hr h => ?_)
  · obtain ⟨b, l, a, rs, n, r, rfl, _⟩ := h; rfl
  · obtain ⟨b, l, a, rs, n, r, rfl, ⟨⟨dx, hb⟩, ⟨as, hl, e, hp⟩, n1, n6, ok⟩, hpa, rok, k⟩ := h
    refine ⟨_, PSs.nox ((pss_one (ps_asg (pv 2) (pg_sub (pe_fld (pv 0) rfl) (pe_op op_mod (pv 1) (pe_callB call_len_seq (by rfl) T.n_len (by decide +kernel) (pa_cons (pe_fld (pv 0) rfl) pa_nil))) set_list)))), ?_⟩
    have m0 : 0 ≤ n % (rs.length : Int) := Int.emod_nonneg _ (by omega)
    have m1 : n % (rs.length : Int) < rs.length := Int.emod_lt_of_pos _ (by omega)
    have el : ((as.map V.ref).length : Int) = rs.length := by rw [List.length_map, e]
    have bl : b ≠ l := ne_of hb hl (by intro z; cases z)
    have ix : ixN (as.map V.ref).length (n % ((as.map V.ref).length : Int)) = some (n % (rs.length : Int)).toNat := by
      rw [el]
      unfold ixN
      rw [if_pos m0, if_pos (by rw [List.length_map, e]; exact m1)]
    refine ⟨_, rfl, _, rfl, b, _, dx, _, _, rfl, hb, T.c_Book, T.na_Book_phases, bk_phases l, _, rfl, _, rfl, b, _, dx, _, _, rfl, hb, T.c_Book, T.na_Book_phases, bk_phases l, l, _, rfl, .inl (SqL.of hl), _, _, rfl, rfl, (by show (0 : Int) < ((as.map V.ref).length : Int); omega), l, _, _, _, rfl, rfl, hl, ix, ?_⟩
    refine k _ Fl.cell ⟨⟨dx, upd_oth bl hb⟩, ⟨as.set (n % (rs.length : Int)).toNat a, ?_, ?_, ?_⟩, ?_, ?_, ?_⟩
    · rw [upd_same, List.map_set]
    · rw [List.length_set, List.length_set, e]
    · intro i a' r' ha' hr'
      have fl : ∀ {x : Addr} {q : Ph}, PhAt K H x q → PhAt K (upd H l (.lst ((as.map V.ref).set (n % (rs.length : Int)).toNat (.ref a)))) x q := fun {x q} ⟨d, hx⟩ => ⟨d, upd_oth (ne_of hx hl (by intro z; cases z)) hx⟩
      rw [List.getElem?_set] at ha' hr'
      split at ha'
      · rename_i ei
        rw [if_pos ei] at hr'
        split at ha'
        · split at hr'
          · cases ha'; cases hr'
            exact fl hpa
          · cases hr'
        · cases ha'
      · rename_i ei
        rw [if_neg ei] at hr'
        exact fl (hp i a' r' ha' hr')
    · rw [List.length_set]; exact n1
    · rw [List.length_set]; exact n6
    · intro q hq
      rcases List.mem_or_eq_of_mem_set hq with z | z
      · exact ok q z
      · rw [z]; exact rok
theorem fr_Book_setitem (T : Tx K mg) : FnR P w K mg base CX0 1 (mad "Book" "__setitem__" K) (spBookSet K) := fnr_of (ok_Book_setitem T) (bd_Book_setitem T)
end

end Hue

set_option Elab.async false
set_option linter.all false
set_option maxRecDepth 100000
set_option maxHeartbeats 4000000
namespace Hue
open PySem PySem.Spec PyProof.Rows L2
local macro_rules | `(tactic| walk_at "hp") => `(tactic| first
  | assumption
  | exact upd_same
  | (refine upd_old (by assumption) ?_; walk_at "hp")
  | (refine upd_oth (by assumption) ?_; walk_at "hp")
  | (refine same_get (by assumption) ?_; walk_at "hp")
  | (refine Fl.get (by assumption) (by assumption) ?_; walk_at "hp"))
local macro_rules | `(tactic| walk_at "seq") => `(tactic| first
  | assumption
  | exact T.t_BARRIERS _
  | exact SqL.of (by walk_at "hp")
  | exact SqT.of (by walk_at "hp"))
local macro_rules | `(tactic| walk_at "len") => `(tactic| first
  | exact Or.inl (by walk_at "seq")
  | exact Or.inr (by walk_at "seq"))
local macro_rules | `(tactic| walk_at "at") => `(tactic| first
  | rfl
  | assumption)

/-! ### the rows that may come next -/
theorem aft_step (sk : Nat → Bool) (n row k f : Nat) : aft sk n row k (f + 1) = ((row + 1 + k) % n) :: (if sk ((row + 1 + k) % n) then aft sk n row (k + 1) f else []) := rfl
theorem emod_cast (row j n : Nat) : ((row : Int) + 1 + (0 + (j : Int))) % (n : Int) = (((row + 1 + j) % n : Nat) : Int) := by
  rw [Int.natCast_emod]
  congr 1
  omega
section
variable {P : Program} {w : World} {K : PySem.W.Frag} {mg : Str → Option Value} {base : Heap}
theorem ok_Book_after (T : Tx K mg) : FnOk P w K mg base CX0 1 (mad "Book" "after" K) (fdD K (mad "Book" "after" K)) P_Book_after (spAfter K) := by
  refine T.F_Book_after.ok sc_Book_after (fun vs H Q E h => ?_) (fun cdv A outer s H vs Q E hr h => ?_)
  · obtain ⟨b, l, rs, row, rfl, _⟩ := h; rfl
  · obtain ⟨b, l, rs, row, rfl, ⟨⟨dx, hb⟩, ⟨as, hl, e, hp⟩, n1, n6, ok⟩, hrow, k⟩ := h
    refine ⟨_, PSs.nox ((pss_cons (ps_set (i := 2) sc_Book_after.nd rfl (Or.inl rfl) (pe_lst pa_nil))
      (C8.pss_cut (ps_for PassesOwn.never rfl (pi_range1 (by rfl) T.n_range (pa_cons (pe_callB call_len_seq (by rfl) T.n_len (by decide +kernel) (pa_cons (pe_fld (pv 0) rfl) pa_nil)) pa_nil)) (pg_name (i := 3) sc_Book_after.nd rfl (Or.inl rfl)) (pss_cons (ps_expr (pe_bm PySem.F.plainAttrs_list PySem.F.slot_list_append PySem.F.type_list_append mt_append (pv 2) (pa_cons (pe_op op_mod (pe_op op_add (pe_op op_add (pv 1) pe_int) (pv 3)) (pe_callB call_len_seq (by rfl) T.n_len (by decide +kernel) (pa_cons (pe_fld (pv 0) rfl) pa_nil))) pa_nil)))
      (pss_one (ps_if (pt_not (pt_val (pe_fld (pe_ix ix_list (pe_fld (pv 0) rfl) (pe_ix ix_list (pv 2) (pe_un un_neg pe_int) (fun _ _ => rfl)) (fun _ _ => rfl)) rfl))) (pss_one ps_break) pss_nil))))
      (pss_one (ps_ret (pe_callTy call_tuple_of (by rfl) T.n_tuple (by decide +kernel) (pa_cons (pv 2) pa_nil))))))), ?_⟩
    have el : (as.map V.ref).length = rs.length := by rw [List.length_map, e]
    refine ⟨by decide, fun p np => ?_⟩
    have bp : b ≠ p := ne_of_none hb np
    have lp : l ≠ p := ne_of_none hl np
    refine ⟨fun σ H' => ∃ q, σ = [some (.ref b), some (.int row), some (.ref p), q] ∧ Same H H' ∧ H' p = some (.lst (nts (after rs row))), ?_, ?_⟩
    · refine ⟨_, rfl, b, _, dx, _, _, rfl, upd_old np hb, T.c_Book, T.na_Book_phases, bk_phases l, l, _, rfl, .inl (SqL.of (upd_old np hl)), ?_⟩
      refine ⟨_, rfl, by omega, by omega, for_range (n := _) (fun j σ H' => ∃ q pre, σ = [some (.ref b), some (.int row), some (.ref p), q] ∧ Same H H' ∧ H' p = some (.lst (nts pre)) ∧ after rs row = pre ++ aft (skOf rs) rs.length row j (rs.length - j) ∧ pre.length ≤ j)
        ⟨_, [], rfl, Same.new np, upd_same, rfl, Nat.le_refl _⟩ ?_ ?_⟩
      · rintro j σ H2 hj ⟨q, pre, rfl, S, hpr, ha, hz⟩
        have hj2 : j < rs.length := by rw [← el]; exact hj
        have hb2 := S _ _ hb
        have hl2 := S _ _ hl
        refine ⟨_, rfl, .inl ⟨rfl, _, SqL.of hpr⟩, _, rfl, _, _, rfl, rfl, _, rfl, _, _, rfl, rfl, _, rfl, b, _, dx, _, _, rfl, hb2, T.c_Book, T.na_Book_phases, bk_phases l, l, _, rfl, .inl (SqL.of hl2), _, _, rfl, rfl, (by show (0 : Int) < ((as.map V.ref).length : Int); omega), p, _, _, rfl, rfl, hpr, ?_, ?_⟩
        · show (nts pre).length < sizeLine
          unfold nts
          rw [List.length_map]
          exact Nat.lt_of_le_of_lt (show pre.length ≤ 1000 by omega) (by decide)
        have ev : ((row : Int) + 1 + (0 + (j : Int))) % (((as.map V.ref).length : Nat) : Int) = (((row + 1 + j) % rs.length : Nat) : Int) := by rw [el, emod_cast]
        have hx : (row + 1 + j) % rs.length < rs.length := Nat.mod_lt _ n1
        obtain ⟨r, hr', hm⟩ := mem_get hx
        obtain ⟨a, ha', _⟩ := mem_get (show (row + 1 + j) % rs.length < as.length by omega)
        obtain ⟨dxa, hpa⟩ := hp _ a r ha' hr'
        have hpa2 := S _ _ hpa
        have bp2 : ∀ {x : Addr} {o : HO}, H x = some o → x ≠ p := fun h => ne_of_none h np
        have hlst : (nts pre ++ [V.int (((row : Int) + 1 + (0 + (j : Int))) % (((as.map V.ref).length : Nat) : Int))]) = nts (pre ++ [(row + 1 + j) % rs.length]) := by
          rw [ev]
          unfold nts
          rw [List.map_append]
          rfl
        refine ⟨_, rfl, b, _, dx, _, _, rfl, upd_oth bp hb2, T.c_Book, T.na_Book_phases, bk_phases l, _, rfl, _, rfl, p, _, -1, _, rfl, rfl, SqL.of upd_same, atI_last _ _, l, _, _, .ref a, rfl, rfl, SqL.of (upd_oth lp hl2), ?_, ?_⟩
        · rw [ev]
          exact atI_nat (by rw [List.getElem?_map, ha']; rfl)
        refine ⟨a, _, dxa, _, _, rfl, upd_oth (bp2 hpa) hpa2, T.c_Phase, T.na_Phase_skips, ph_skips r, _, rfl, ?_⟩
        have hsk : skOf rs ((row + 1 + j) % rs.length) = r.skp := by unfold skOf; rw [hr']
        have S2 : Same H (upd H2 p (.lst (nts pre ++ [V.int (((row : Int) + 1 + (0 + (j : Int))) % (((as.map V.ref).length : Nat) : Int))]))) := Same.upd S np
        have hstep : rs.length - j = (rs.length - (j + 1)) + 1 := by omega
        rw [hstep, aft_step, hsk] at ha
        cases hs : r.skp with
        | true =>
          rw [hs] at ha
          refine iteF ?_
          refine ⟨_, pre ++ [(row + 1 + j) % rs.length], rfl, S2, by rw [← hlst]; exact upd_same, ?_, by rw [List.length_append, List.length_singleton]; omega⟩
          rw [ha]
          simp
        | false =>
          rw [hs] at ha
          refine iteT ?_
          refine ⟨_, rfl, S2, ?_⟩
          rw [ha]
          show _ = some (HO.lst (nts (pre ++ [(row + 1 + j) % rs.length])))
          rw [← hlst]
          exact upd_same
      · rintro σ H2 ⟨q, pre, rfl, S, hpr, ha, hz⟩
        refine ⟨_, rfl, S, ?_⟩
        rw [ha]
        have e0 : rs.length - ((as.map V.ref).length : Int).toNat = 0 := by omega
        rw [e0]
        show _ = some (HO.lst (nts (pre ++ [])))
        rw [List.append_nil]
        exact hpr
    · rintro σ H2 ⟨q, rfl, S, hpr⟩
      refine ⟨_, rfl, p, _, rfl, .inl ⟨SqL.of hpr, fun t nt => ?_⟩⟩
      exact k t _ (S.free nt) (Same.upd S (S.free nt)) upd_same
end

/-! ### drawn rows -/
theorem RowsAt.fl {H H' : Hp} {a l : Addr} {rs : List Ph} (h : RowsAt H a rs) (e : Fl l H H') (n : a ≠ l) (hp : PoolAt H l) : RowsAt H' a rs := by
  obtain ⟨⟨ts, h1, h2, h3⟩, h4⟩ := h
  obtain ⟨ns, p1, _⟩ := hp
  exact ⟨⟨ts, e _ _ n h1, h2, fun i t r ht hr => e _ _ (ne_of (h3 i t r ht hr) p1 (by intro z; cases z)) (h3 i t r ht hr)⟩, h4⟩
def spCalm : Sp := fun vs H Q _ => ∃ (t : Addr) (r : Ph) (k : Int) (two : Bool), vs = [.ref t, .int k, .bl two] ∧ H t = some (.tup r.vs) ∧ r.Ok ∧ 0 ≤ k ∧ k < 6 ∧
  ∀ (r' : Ph) t' H', r'.Ok → H t' = none → Same H H' → H' t' = some (.tup r'.vs) → Q (.ref t') H'
def spRows : Sp := fun vs H Q _ => ∃ (l : Addr) (m : Int), vs = [.ref l, .int m] ∧ PoolAt H l ∧ 1 ≤ m ∧ m ≤ 6 ∧
  ∀ rs a H', RowsAt H' a rs → 1 ≤ rs.length → (rs.length : Int) ≤ m → H a = none → a ≠ l → Fl l H H' → PoolAt H' l → Q (.ref a) H'
def spPhase (K : PySem.W.Frag) : Sp := fun vs H Q _ => ∃ (t : Addr) (r : Ph), vs = [.ref t] ∧ H t = some (.tup r.vs) ∧ r.Ok ∧
  ∀ a H', H a = none → Same H H' → PhAt K H' a r → Q (.ref a) H'
abbrev calmVs : List V := [V.int 0, V.int 1, V.int 1, V.int 0, V.int 0, V.int 1]
theorem at_calm {k : Int} (h0 : 0 ≤ k) (h1 : k < 6) : ∃ g : Int, atI calmVs k = some (.int g) ∧ 0 ≤ g ∧ g ≤ 5 := by
  rcases (by omega : k = 0 ∨ k = 1 ∨ k = 2 ∨ k = 3 ∨ k = 4 ∨ k = 5) with rfl | rfl | rfl | rfl | rfl | rfl <;> exact ⟨_, rfl, by decide, by decide⟩
theorem at_two {k : Int} : ∃ b : Bar, atI [V.str "follow", V.str "guarded"] (k % 2) = some (.str b.s) := by
  rcases (by omega : k % 2 = 0 ∨ k % 2 = 1) with e | e <;> rw [e]
  · exact ⟨.follow, rfl⟩
  · exact ⟨.guarded, rfl⟩
section
variable {P : Program} {w : World} {K : PySem.W.Frag} {mg : Str → Option Value} {base : Heap}
theorem ok_l_calm (T : Tx K mg) : FnOk P w K mg base CX0 1 (gad "_law_calm" K) (fdD K (gad "_law_calm" K)) P_l_calm spCalm := by
  refine T.F_l_calm.ok sc_l_calm (fun vs H Q E h => ?_) (fun cdv A outer s H vs Q E hr h => ?_)
  · obtain ⟨t, r, k, two, rfl, _⟩ := h; rfl
  · obtain ⟨t, r, k, two, rfl, ht, ok, k0, k6, kk⟩ := h
    refine ⟨_, PSs.nox ((pss_cons (ps_set (i := 3) sc_l_calm.nd rfl (Or.inl rfl) (pv 1))
      (C8.pss_cut (ps_if (pt_val (pv 2)) (pss_one (ps_set (i := 3) sc_l_calm.nd rfl (Or.inl rfl) (pe_ix ix_list (pe_lst (pa_cons pe_int (pa_cons pe_int (pa_cons pe_int (pa_cons pe_int (pa_cons pe_int (pa_cons pe_int pa_nil))))))) (pv 1) (fun _ _ => rfl)))) pss_nil)
      (pss_cons (ps_set (i := 4) sc_l_calm.nd rfl (Or.inl rfl) (pe_ix ix_list (pe_lst (pa_cons pe_str (pa_cons pe_str pa_nil))) (pe_op op_mod (pe_callTy call_intI (by rfl) T.n_int (by decide +kernel) (pa_cons (pe_ix ix_tup (pv 0) pe_int (fun _ _ => rfl)) pa_nil)) pe_int) (fun _ _ => rfl)))
      (pss_one (ps_ret (pe_tup (pa_cons (pv 3) (pa_cons (pv 4) (pa_cons (pe_cmpR op_eq (pe_op op_mod (pe_callTy call_intI (by rfl) T.n_int (by decide +kernel) (pa_cons (pv 1) pa_nil)) pe_int) pe_int (nomark _)) (pa_cons pe_bl (pa_cons (pe_op op_mul (pe_op op_mod (pe_callTy call_intI (by rfl) T.n_int (by decide +kernel) (pa_cons (pv 1) pa_nil)) pe_int) (pe_op op_add pe_int (pe_op op_mod (pe_callTy call_intI (by rfl) T.n_int (by decide +kernel) (pa_cons (pe_ix ix_tup (pv 0) pe_int (fun _ _ => rfl)) pa_nil)) pe_int))) (pa_cons pe_bl pa_nil))))))))))))), ?_⟩
    refine ⟨_, rfl, ?_⟩
    refine ⟨fun σ H' => ∃ g : Int, σ = [some (.ref t), some (.int k), some (.bl two), some (.int g), none] ∧ 0 ≤ g ∧ g ≤ 5 ∧ Same H H', ?_, ?_⟩
    · refine ⟨_, rfl, _, rfl, ?_⟩
      refine iteB (fun _ => ?_) (fun _ => ?_)
      · obtain ⟨g, hg, g0, g1⟩ := at_calm k0 k6
        refine ⟨(show (6 : Nat) ≤ sizeLine by decide), fun p1 np1 => ⟨_, rfl, _, _, _, _, rfl, rfl, SqL.of upd_same, hg, ?_⟩⟩
        exact ⟨g, rfl, g0, g1, Same.new np1⟩
      · exact ⟨k, rfl, k0, by omega, Same.refl H⟩
    · rintro σ H1 ⟨g, rfl, g0, g1, S⟩
      have ht1 := S _ _ ht
      obtain ⟨b, hb⟩ := at_two (k := r.hue)
      refine ⟨(show (2 : Nat) ≤ sizeLine by decide), fun p1 np1 => ⟨_, rfl, _, _, _, _, rfl, rfl, SqT.of (upd_old np1 ht1), rfl, _, rfl, _, _, rfl, rfl, (show (0 : Int) < 2 by decide), _, _, _, _, rfl, rfl, SqL.of upd_same, hb, ?_⟩⟩
      refine ⟨_, rfl, _, rfl, _, rfl, _, rfl, _, _, rfl, rfl, (show (0 : Int) < 2 by decide), rfl, _, rfl, _, rfl, _, _, rfl, rfl, (show (0 : Int) < 2 by decide), _, rfl, _, _, _, _, rfl, rfl, SqT.of (upd_old np1 ht1), rfl, _, rfl, _, _, rfl, rfl, (show (0 : Int) < 6 by decide), _, _, rfl, rfl, _, _, rfl, rfl, ?_⟩
      refine ⟨.inl ⟨by omega, by omega⟩, (show (6 : Nat) ≤ sizeLine by decide), fun t' nt => ?_⟩
      refine kk ⟨g, b, _, true, _, false⟩ t' _ ⟨g0, g1, ?_, ?_⟩ (S.free (Same.free (Same.new np1) nt)) (Same.upd (Same.upd S (S.free np1)) (S.free (Same.free (Same.new np1) nt))) upd_same
      · show 0 ≤ k % 2 * (2 + r.std % 6)
        rcases (by omega : k % 2 = 0 ∨ k % 2 = 1) with e | e <;> rw [e] <;> omega
      · show k % 2 * (2 + r.std % 6) ≤ 7
        rcases (by omega : k % 2 = 0 ∨ k % 2 = 1) with e | e <;> rw [e] <;> omega
theorem ok_l_phase (T : Tx K mg) : FnOk P w K mg base CX0 4 (gad "_law_phase" K) (fdD K (gad "_law_phase" K)) P_l_phase (spPhase K) := by
  obtain ⟨_, kb_Phase_barrier_visits_pauses_stand_skips⟩ := kb_Phase_barrier_visits_pauses_stand_skips T
  refine T.F_l_phase.ok sc_l_phase (fun vs H Q E h => ?_) (fun cdv A outer s H vs Q E hr h => ?_)
  · obtain ⟨t, r, rfl, _⟩ := h; rfl
  · obtain ⟨t, r, rfl, ht, ok, k⟩ := h
    refine ⟨_, PSs.nox ((pss_one (ps_ret (pe_makeK T.mk_Phase (ok_Phase_init T) (hr.mono (by decide)) rfl T.g_Phase kb_Phase_barrier_visits_pauses_stand_skips pass0 (pa_cons (pe_ix ix_tup (pv 0) pe_int (fun _ _ => rfl)) pa_nil) (pk_cons (pe_ix ix_tup (pv 0) pe_int (fun _ _ => rfl)) (pk_cons (pe_ix ix_tup (pv 0) pe_int (fun _ _ => rfl)) (pk_cons (pe_ix ix_tup (pv 0) pe_int (fun _ _ => rfl)) (pk_cons (pe_ix ix_tup (pv 0) pe_int (fun _ _ => rfl)) (pk_cons (pe_ix ix_tup (pv 0) pe_int (fun _ _ => rfl)) pk_nil))))))))), ?_⟩
    refine ⟨_, rfl, _, _, _, _, rfl, rfl, (by walk_at "seq"), (by walk_at "at"), _, rfl, _, _, _, _, rfl, rfl, (by walk_at "seq"), (by walk_at "at"), _, rfl, _, _, _, _, rfl, rfl, (by walk_at "seq"), (by walk_at "at"), _, rfl, _, _, _, _, rfl, rfl, (by walk_at "seq"), (by walk_at "at"), _, rfl, _, _, _, _, rfl, rfl, (by walk_at "seq"), (by walk_at "at"), _, rfl, _, _, _, _, rfl, rfl, (by walk_at "seq"), (by walk_at "at"), rfl, rfl, fun x dx nx ndx nex => ?_⟩
    refine ⟨x, dx, r, rfl, upd_same, ok, fun H4 f4 h4 => ⟨rfl, ?_⟩⟩
    exact k x H4 nx (fun a o ha => f4 _ _ (ne_of_none ha nx) (upd_oth (ne_of_none ha nx) (upd_old ndx ha))) ⟨dx, h4⟩
end
theorem RowsAt.nil {H : Hp} {D : Addr} : RowsAt (upd H D (.lst [])) D [] := ⟨⟨[], upd_same, rfl, fun i t r h _ => by simp at h⟩, fun r h => by cases h⟩
theorem RowsAt.snoc {H : Hp} {D t : Addr} {rs : List Ph} {r : Ph} (h : RowsAt H D rs) (ht : H t = some (.tup r.vs)) (hr : r.Ok) :
    ∃ xs, H D = some (.lst xs) ∧ xs.length = rs.length ∧ RowsAt (upd H D (.lst (xs ++ [.ref t]))) D (rs ++ [r]) := by
  obtain ⟨⟨ts, h1, h2, h3⟩, h4⟩ := h
  refine ⟨_, h1, by rw [List.length_map, h2], ⟨ts ++ [t], by rw [upd_same, List.map_append]; rfl, by rw [List.length_append, List.length_append, h2]; rfl, fun i t' r' a b => ?_⟩, fun q hq => ?_⟩
  · have tup : ∀ {x : Addr} {q : Ph}, H x = some (.tup q.vs) → ∀ u, upd H D (.lst u) x = some (.tup q.vs) := fun hx u => upd_oth (ne_of hx h1 (by intro z; cases z)) hx
    by_cases hi : i < ts.length
    · rw [List.getElem?_append_left hi] at a
      rw [List.getElem?_append_left (by omega)] at b
      exact tup (h3 i t' r' a b) _
    · rw [List.getElem?_append_right (by omega)] at a
      rw [List.getElem?_append_right (by omega)] at b
      have e0 : i - ts.length = 0 := by
        have := (List.getElem?_eq_some_iff.mp a).1
        simp at this
        omega
      have e1 : i - rs.length = 0 := by omega
      rw [e0] at a
      rw [e1] at b
      cases a
      cases b
      exact tup ht _
  · rcases List.mem_append.mp hq with z | z
    · exact h4 q z
    · rw [List.mem_singleton.mp z]; exact hr
theorem RowsAt.put {H : Hp} {D t : Addr} {rs : List Ph} {r : Ph} {i : Nat} (h : RowsAt H D rs) (ht : H t = some (.tup r.vs)) (hr : r.Ok) :
    ∃ xs, H D = some (.lst xs) ∧ xs.length = rs.length ∧ RowsAt (upd H D (.lst (xs.set i (.ref t)))) D (rs.set i r) := by
  obtain ⟨⟨ts, h1, h2, h3⟩, h4⟩ := h
  refine ⟨_, h1, by rw [List.length_map, h2], ⟨ts.set i t, by rw [upd_same, List.map_set], by rw [List.length_set, List.length_set, h2], fun j t' r' a b => ?_⟩, fun q hq => ?_⟩
  · have tup : ∀ {x : Addr} {q : Ph}, H x = some (.tup q.vs) → ∀ u, upd H D (.lst u) x = some (.tup q.vs) := fun hx u => upd_oth (ne_of hx h1 (by intro z; cases z)) hx
    rw [List.getElem?_set] at a b
    split at a
    · rename_i ei
      rw [if_pos ei] at b
      split at a
      · split at b
        · cases a; cases b
          exact tup ht _
        · cases b
      · cases a
    · rename_i ei
      rw [if_neg ei] at b
      exact tup (h3 j t' r' a b) _
  · rcases List.mem_or_eq_of_mem_set hq with z | z
    · exact h4 q z
    · rw [z]; exact hr
theorem ixN_of {n : Nat} {i : Int} (h0 : 0 ≤ i) (h1 : i < n) : ixN n i = some i.toNat := by
  unfold ixN
  rw [if_pos h0, if_pos h1]
theorem row_at (r : Ph) : atI r.vs 0 = some (.int r.hue) ∧ atI r.vs 1 = some (.str r.bar.s) ∧ atI r.vs 2 = some (.bl r.vis) ∧ atI r.vs 3 = some (.bl r.pau) ∧ atI r.vs 4 = some (.int r.std) ∧ atI r.vs 5 = some (.bl r.skp) := ⟨rfl, rfl, rfl, rfl, rfl, rfl⟩
section
variable {P : Program} {w : World} {K : PySem.W.Frag} {mg : Str → Option Value} {base : Heap}
theorem ok_l_rows (T : Tx K mg) : FnOk P w K mg base CX0 5 (gad "_law_rows" K) (fdD K (gad "_law_rows" K)) P_l_rows spRows := by
  refine T.F_l_rows.ok sc_l_rows (fun vs H Q E h => ?_) (fun cdv A outer s H vs Q E hr h => ?_)
  · obtain ⟨l, m, rfl, _⟩ := h; rfl
  · obtain ⟨l, m, rfl, hP, m1, m6, k⟩ := h
    refine ⟨_, PSs.nox ((pss_cons (ps_set (i := 2) sc_l_rows.nd rfl (Or.inl rfl) (pe_op op_add pe_int (pe_call (ok_l_take T) (hr.mono (by decide)) rfl T.g_l_take T.F_l_take.kp (bd_l_take T) .nil pass0 (pa_cons (pv 0) (pa_cons (pv 1) pa_nil)))))
      (pss_cons (ps_set (i := 3) sc_l_rows.nd rfl (Or.inl rfl) (pe_call (ok_l_take T) (hr.mono (by decide)) rfl T.g_l_take T.F_l_take.kp (bd_l_take T) .nil pass0 (pa_cons (pv 0) (pa_cons pe_int pa_nil))))
      (pss_cons (ps_set (i := 4) sc_l_rows.nd rfl (Or.inr rfl) (pe_lc (own := [("_law_k", 8)]) (g := gName 8) (tt := tYes) rfl sc_l_rows.nd (pi_range1 (by rfl) T.n_range (pa_cons (pv 2) pa_nil)) (blkOk_by (own := [("_law_k", 8)]) (N := N_l_rows) (sc := defScope s_l_rows) (by decide +kernel)) (fun _ _ _ _ _ => (pg_name (i := 8) sc_l_rows.nd rfl (Or.inl rfl))) (fun _ _ _ _ _ => pts_nil) (fun _ _ _ _ _ => (pe_call (ok_l_raw T) (hr.mono (by decide)) rfl T.g_l_raw T.F_l_raw.kp (bd_l_raw T) .nil pass0 (pa_cons (pv 0) pa_nil)))))
      (pss_cons (ps_if (pt_cmpR op_eq (pv 3) pe_int (nomark _)) (pss_one (ps_ret (pv 4))) pss_nil)
      (C8.pss_cut (ps_set (i := 5) sc_l_rows.nd rfl (Or.inr rfl) (pe_or (pe_cmpR op_eq (pv 3) pe_int (nomark _)) (pe_one (pe_and (pe_cmpR op_eq (pv 3) pe_int (nomark _)) (pe_one (pe_ix ix_tup (pe_ix ix_list (pv 4) pe_int (fun _ _ => rfl)) pe_int (fun _ _ => rfl)))))))
      (pss_cons (ps_setLc (i := 6) (own := [("_law_k", 8)]) (g := gName 8) (tt := tYes) rfl sc_l_rows.nd rfl rfl (sw_true rfl rfl rfl (by decide +kernel)) (pi_range1 (by rfl) T.n_range (pa_cons (pv 2) pa_nil)) (blkOk_by (own := [("_law_k", 8)]) (N := N_l_rows) (sc := defScope s_l_rows) (by decide +kernel)) (fun _ _ _ _ _ => (pg_name (i := 8) sc_l_rows.nd rfl (Or.inl rfl))) (fun _ _ _ _ _ => pts_nil) (fun _ _ _ _ _ => (pe_call (ok_l_calm T) (hr.mono (by decide)) rfl T.g_l_calm T.F_l_calm.kp (bd_l_calm T) .nil pass0 (pa_cons (pe_ix (ix_listK (K := K) rfl) (pv 4) (pv 8) (fun _ _ => rfl)) (pa_cons (pv 8) (pa_cons (pv 5) pa_nil))))))
      (pss_cons (ps_if (pt_cmpR op_eq (pv 3) pe_int (nomark _)) (pss_cons (ps_set (i := 7) sc_l_rows.nd rfl (Or.inl rfl) (pe_call (ok_l_take T) (hr.mono (by decide)) rfl T.g_l_take T.F_l_take.kp (bd_l_take T) .nil pass0 (pa_cons (pv 0) (pa_cons (pv 2) pa_nil))))
      (pss_one (ps_asg (pe_ix ix_list (pv 4) (pv 7) (fun _ _ => rfl)) (pg_sub (pv 6) (pv 7) set_list)))) pss_nil)
      (pss_one (ps_ret (pv 6))))))))))), ?_⟩
    refine ⟨_, rfl, _, rfl, l, m, rfl, hP, by omega, fun v H1 v0 v1 o1 P1 => ⟨_, _, rfl, rfl, ?_⟩⟩
    refine ⟨_, rfl, l, 4, rfl, P1, by omega, fun st H2 s0 s1 o2 P2 => ?_⟩
    refine ⟨_, rfl, _, rfl, by omega, by omega, fun D nD => ?_⟩
    have Dl : D ≠ l := P2.ne nD
    have nv : (1 + v).toNat = v.toNat + 1 := by omega
    refine lc_range (lo := 0) (n := _) (fun i H' => ∃ rs, RowsAt H' D rs ∧ rs.length = i ∧ Fl l H2 H' ∧ PoolAt H' l) ⟨[], RowsAt.nil, rfl, Fl.new nD, P2.upd nD⟩ ?_ ?_
    · rintro i H3 hi ⟨rs, R, hl, f3, P3⟩
      refine ⟨rfl, ?_⟩
      refine ⟨_, rfl, l, rfl, P3, fun r t H4 ok nt tl f4 P4 ht => ?_⟩
      obtain ⟨xs, h1, h2, h3⟩ := (R.fl f4 Dl P3).snoc ht ok
      exact ⟨xs, h1, small1000 (by omega), rs ++ [r], h3, by rw [List.length_append, hl]; rfl, fun a o n h => upd_oth (ne_of_none h nD) ((f3.trans f4) a o n h), by obtain ⟨ns, p1, p2⟩ := P4; exact ⟨ns, upd_oth Dl.symm p1, p2⟩⟩
    · rintro H3 ⟨rs, R, hl, f3, P3⟩
      have fH : Fl l H H3 := (o1.trans o2).trans f3
      have Dn : H D = none := (o1.trans o2).free Dl nD
      refine ⟨_, rfl, rfl, _, rfl, ?_⟩
      refine iteB (fun _ => ?_) (fun _ => ?_)
      · exact ⟨_, rfl, k rs D H3 R (by omega) (by omega) Dn Dl fH P3⟩
      obtain ⟨xs0, t0, r0, hx0, ha0, hr0, ok0, ht0⟩ := R.row (i := 0) (by omega) (by omega)
      refine ⟨fun σ H' => ∃ b : Bool, σ = [some (.ref l), some (.int m), some (.int (1 + v)), some (.int st), some (.ref D), some (.bl b), none, none, none] ∧ H3 = H', ?_, ?_⟩
      · refine ⟨_, rfl, rfl, _, rfl, ?_⟩
        refine iteB (fun _ => ⟨_, rfl, rfl⟩) (fun _ => ?_)
        refine ⟨_, rfl, rfl, _, rfl, ?_⟩
        refine iteB (fun _ => ?_) (fun _ => ⟨_, rfl, rfl⟩)
        exact ⟨_, rfl, _, _, _, _, rfl, rfl, SqL.of hx0, ha0, _, _, _, _, rfl, rfl, SqT.of ht0, (row_at r0).2.2.1, ⟨_, rfl, rfl⟩⟩
      · rintro σ H' ⟨b, rfl, rfl⟩
        refine ⟨_, rfl, _, rfl, by omega, by omega, fun D2 nD2 => ?_⟩
        have Dl2 : D2 ≠ l := P3.ne nD2
        have DD : D ≠ D2 := ne_of_none hx0 nD2
        refine lc_range (lo := 0) (n := _) (fun i H' => ∃ rs2, RowsAt H' D2 rs2 ∧ rs2.length = i ∧ Same H3 H') ⟨[], RowsAt.nil, rfl, Same.new nD2⟩ ?_ ?_
        · rintro i H4 hi ⟨rs2, R2, hl2, S4⟩
          refine ⟨rfl, ?_⟩
          obtain ⟨xs1, t1, r1, hx1, ha1, hr1, ok1, ht1⟩ := R.row (i := 0 + (i : Int)) (by omega) (by omega)
          refine ⟨_, rfl, _, rfl, _, _, _, _, rfl, rfl, SqL.of (S4 _ _ hx1), ha1, _, rfl, _, rfl, t1, r1, _, b, rfl, S4 _ _ ht1, ok1, by omega, by omega, fun r' t' H5 ok' nt' S5 ht' => ?_⟩
          obtain ⟨xs, h1, h2, h3⟩ := (R2.mono S5).snoc ht' ok'
          exact ⟨xs, h1, small1000 (by omega), rs2 ++ [r'], h3, by rw [List.length_append, hl2]; rfl, Same.upd (S4.trans S5) nD2⟩
        · rintro H4 ⟨rs2, R2, hl2, S4⟩
          have P4 : PoolAt H4 l := by obtain ⟨ns, p1, p2⟩ := P3; exact ⟨ns, S4 _ _ p1, p2⟩
          have f4 : Fl l H H4 := fH.trans (Fl.same S4)
          have Dn2 : H D2 = none := fH.free Dl2 nD2
          refine ⟨_, rfl, rfl, _, rfl, ?_⟩
          refine iteB (fun _ => ?_) (fun _ => ?_)
          · refine ⟨_, rfl, _, rfl, l, _, rfl, P4, by omega, fun at' H5 a0 a1 o5 P5 => ?_⟩
            have R5 := (R.mono S4).fl o5 Dl P4
            have R25 := R2.fl o5 Dl2 P4
            obtain ⟨xs1, t1, r1, hx1, ha1, hr1, ok1, ht1⟩ := R5.row (i := at') a0 (by omega)
            obtain ⟨xs, h1, h2, h3⟩ := R25.put (i := at'.toNat) ht1 ok1
            refine ⟨_, rfl, _, rfl, _, _, _, _, rfl, rfl, SqL.of hx1, ha1, _, rfl, _, rfl, D2, xs, _, _, rfl, rfl, h1, ixN_of a0 (by omega), ?_⟩
            refine ⟨_, rfl, k _ D2 _ h3 (by rw [List.length_set]; omega) (by rw [List.length_set]; omega) Dn2 Dl2 (fun a o n h => upd_oth (ne_of_none h Dn2) ((f4.trans o5) a o n h)) (by obtain ⟨ns, p1, p2⟩ := P5; exact ⟨ns, upd_oth Dl2.symm p1, p2⟩)⟩
          · exact ⟨_, rfl, k rs2 D2 H4 R2 (by omega) (by omega) Dn2 Dl2 f4 P4⟩
end

/-! ### books from rows; what is compared -/
def PsAt (K : PySem.W.Frag) (H : Hp) (l : Addr) (rs : List Ph) : Prop := ∃ as : List Addr, H l = some (.lst (as.map V.ref)) ∧ as.length = rs.length ∧ ∀ (i : Nat) (a : Addr) (r : Ph), as[i]? = some a → rs[i]? = some r → PhAt K H a r
theorem PsAt.nil {K : PySem.W.Frag} {H : Hp} {D : Addr} : PsAt K (upd H D (.lst [])) D [] := ⟨[], upd_same, rfl, fun i t r h _ => by simp at h⟩
theorem PsAt.mono {K : PySem.W.Frag} {H H' : Hp} {l : Addr} {rs : List Ph} (h : PsAt K H l rs) (e : Same H H') : PsAt K H' l rs := by
  obtain ⟨as, h1, h2, h3⟩ := h
  exact ⟨as, e _ _ h1, h2, fun i a r ha hr => (h3 i a r ha hr).same e⟩
theorem PsAt.snoc {K : PySem.W.Frag} {H : Hp} {D t : Addr} {rs : List Ph} {r : Ph} (h : PsAt K H D rs) (ht : PhAt K H t r) :
    ∃ xs, H D = some (.lst xs) ∧ xs.length = rs.length ∧ PsAt K (upd H D (.lst (xs ++ [.ref t]))) D (rs ++ [r]) := by
  obtain ⟨ts, h1, h2, h3⟩ := h
  refine ⟨_, h1, by rw [List.length_map, h2], ⟨ts ++ [t], by rw [upd_same, List.map_append]; rfl, by rw [List.length_append, List.length_append, h2]; rfl, fun i t' r' a b => ?_⟩⟩
  have keep : ∀ {x : Addr} {q : Ph}, PhAt K H x q → ∀ u, PhAt K (upd H D (.lst u)) x q := fun ⟨d, hx⟩ u => ⟨d, upd_oth (ne_of hx h1 (by intro z; cases z)) hx⟩
  by_cases hi : i < ts.length
  · rw [List.getElem?_append_left hi] at a
    rw [List.getElem?_append_left (by omega)] at b
    exact keep (h3 i t' r' a b) _
  · rw [List.getElem?_append_right (by omega)] at a
    rw [List.getElem?_append_right (by omega)] at b
    have e0 : i - ts.length = 0 := by
      have := (List.getElem?_eq_some_iff.mp a).1
      simp at this
      omega
    have e1 : i - rs.length = 0 := by omega
    rw [e0] at a
    rw [e1] at b
    cases a
    cases b
    exact keep ht _
def spBook (K : PySem.W.Frag) : Sp := fun vs H Q _ => ∃ (a : Addr) (rs : List Ph), vs = [.ref a] ∧ RowsAt H a rs ∧ 1 ≤ rs.length ∧ rs.length ≤ 6 ∧
  ∀ b l H', H b = none → H l = none → Same H H' → BkAt K H' b l rs → Q (.ref b) H'
def spLawAfter : Sp := fun vs H Q _ => ∃ (a : Addr) (rs : List Ph) (row : Nat), vs = [.ref a, .int row] ∧ RowsAt H a rs ∧ row < rs.length ∧ rs.length ≤ 6 ∧
  ∀ D H', H D = none → Same H H' → H' D = some (.lst (nts (after rs row))) → Q (.ref D) H'
def spSamePhase (K : PySem.W.Frag) : Sp := fun vs H Q _ => ∃ (x t : Addr) (r : Ph), vs = [.ref x, .ref t] ∧ PhAt K H x r ∧ H t = some (.tup r.vs) ∧ Q (.bl true) H
def spSameBook (K : PySem.W.Frag) : Sp := fun vs H Q _ => ∃ (b l a : Addr) (rs : List Ph), vs = [.ref b, .ref a] ∧ BkAt K H b l rs ∧ RowsAt H a rs ∧ Q (.bl true) H
def spAllAfter (K : PySem.W.Frag) : Sp := fun vs H Q _ => ∃ (b l a : Addr) (rs : List Ph), vs = [.ref b, .ref a] ∧ BkAt K H b l rs ∧ RowsAt H a rs ∧ ∀ H', Same H H' → Q (.bl true) H'
section
variable {P : Program} {w : World} {K : PySem.W.Frag} {mg : Str → Option Value} {base : Heap}
theorem ok_l_book (T : Tx K mg) : FnOk P w K mg base CX0 7 (gad "_law_book" K) (fdD K (gad "_law_book" K)) P_l_book (spBook K) := by
  refine T.F_l_book.ok sc_l_book (fun vs H Q E h => ?_) (fun cdv A outer s H vs Q E hr h => ?_)
  · obtain ⟨a, rs, rfl, _⟩ := h; rfl
  · obtain ⟨a, rs, rfl, R, n1, n6, k⟩ := h
    refine ⟨_, PSs.nox ((pss_one (ps_ret (ClX.pe_cmeth (pe_gr rfl T.g_Book) T.cr_Book T.cm_Book_of (fr_Book_of T) (hr.mono (by decide)) passL (pa_cons (pe_lc (own := [("_law_row", 1)]) (g := gName 1) (tt := tYes) rfl sc_l_book.nd (pi_list (pv 0)) (blkOk_by (own := [("_law_row", 1)]) (N := N_l_book) (sc := defScope s_l_book) (by decide +kernel)) (fun _ _ _ _ _ => (pg_name (i := 1) sc_l_book.nd rfl (Or.inl rfl))) (fun _ _ _ _ _ => pts_nil) (fun _ _ _ _ _ => (pe_call (ok_l_phase T) (hr.mono (by decide)) rfl T.g_l_phase T.F_l_phase.kp (bd_l_phase T) .nil pass0 (pa_cons (pv 1) pa_nil)))) pa_nil))))), ?_⟩
    obtain ⟨⟨ts, h1, h2, h3⟩, rok⟩ := id R
    refine ⟨rfl, _, rfl, a, rfl, ⟨_, SqL.of h1⟩, fun D nD => lc_list (K := K) (a := a) (xs := ts.map V.ref) (fun i H' => PsAt K H' D (rs.take i) ∧ Same H H') ⟨PsAt.nil, Same.new nD⟩ (fun i H' _ ⟨_, S⟩ => SqL.of (S _ _ h1)) ?_ ?_⟩
    · rintro i x H1 hi ⟨p1, S1⟩
      rw [List.getElem?_map] at hi
      cases et : ts[i]? with
      | none => rw [et] at hi; cases hi
      | some t =>
        rw [et] at hi
        cases hi
        have hi2 : i < rs.length := by rw [← h2]; exact (List.getElem?_eq_some_iff.mp et).1
        obtain ⟨r, hr', hm⟩ := mem_get hi2
        refine ⟨rfl, _, rfl, t, r, rfl, S1 _ _ (h3 i t r et hr'), rok r hm, fun y H2 ny S2 hy => ?_⟩
        obtain ⟨xs, q1, q2, q3⟩ := (p1.mono S2).snoc hy
        rw [List.length_take] at q2
        refine ⟨xs, q1, small1000 (by omega), ?_, Same.upd (S1.trans S2) nD⟩
        rw [List.take_add_one, hr']
        exact q3
    · rintro H1 ⟨p1, S1⟩
      rw [List.length_map, h2, List.take_length] at p1
      obtain ⟨as, q1, q2, q3⟩ := p1
      refine ⟨D, _, rfl, SqL.of q1, by rw [List.length_map]; omega, fun hv b dx l H2 nb nl S2 hb hl => ?_, fun hv => ?_⟩
      · exact k b l H2 (S1.free nb) (S1.free nl) (S1.trans S2) ⟨⟨dx, hb⟩, ⟨as, hl, q2, fun i a r ha hr => (q3 i a r ha hr).same S2⟩, n1, n6, rok⟩
      · exact absurd ⟨by rw [List.length_map]; omega, by rw [List.length_map]; omega⟩ hv
theorem ok_l_after (T : Tx K mg) : FnOk P w K mg base CX0 1 (gad "_law_after" K) (fdD K (gad "_law_after" K)) P_l_after spLawAfter := by
  refine T.F_l_after.ok sc_l_after (fun vs H Q E h => ?_) (fun cdv A outer s H vs Q E hr h => ?_)
  · obtain ⟨a, rs, row, rfl, _⟩ := h; rfl
  · obtain ⟨a, rs, row, rfl, R, hrow, n6, k⟩ := h
    refine ⟨_, PSs.nox ((pss_cons (ps_set (i := 2) sc_l_after.nd rfl (Or.inl rfl) (pe_lst pa_nil))
      (C8.pss_cut (ps_for PassesOwn.never rfl (pi_range1 (by rfl) T.n_range (pa_cons (pe_callB call_len_seq (by rfl) T.n_len (by decide +kernel) (pa_cons (pv 0) pa_nil)) pa_nil)) (pg_name (i := 3) sc_l_after.nd rfl (Or.inl rfl)) (pss_cons (ps_set (i := 4) sc_l_after.nd rfl (Or.inl rfl) (pe_op op_mod (pe_callTy call_intI (by rfl) T.n_int (by decide +kernel) (pa_cons (pe_op op_add (pe_op op_add (pv 1) pe_int) (pv 3)) pa_nil)) (pe_callB call_len_seq (by rfl) T.n_len (by decide +kernel) (pa_cons (pv 0) pa_nil))))
      (pss_cons (ps_expr (pe_bm PySem.F.plainAttrs_list PySem.F.slot_list_append PySem.F.type_list_append mt_append (pv 2) (pa_cons (pv 4) pa_nil)))
      (pss_one (ps_if (pt_not (pt_val (pe_ix ix_tup (pe_ix ix_list (pv 0) (pv 4) (fun _ _ => rfl)) pe_int (fun _ _ => rfl)))) (pss_one ps_break) pss_nil)))))
      (pss_one (ps_ret (pv 2)))))), ?_⟩
    refine ⟨by decide, fun p np => ?_⟩
    obtain ⟨xs, hx, el⟩ := R.len
    have ap : a ≠ p := ne_of_none hx np
    refine ⟨fun σ H' => ∃ q q2, σ = [some (.ref a), some (.int row), some (.ref p), q, q2] ∧ Same H H' ∧ H' p = some (.lst (nts (after rs row))), ?_, ?_⟩
    · refine ⟨_, rfl, a, _, rfl, .inl (SqL.of (upd_old np hx)), ?_⟩
      refine ⟨_, rfl, by omega, by omega, for_range (n := _) (fun j σ H' => ∃ q q2 pre, σ = [some (.ref a), some (.int row), some (.ref p), q, q2] ∧ Same H H' ∧ H' p = some (.lst (nts pre)) ∧ after rs row = pre ++ aft (skOf rs) rs.length row j (rs.length - j) ∧ pre.length ≤ j)
        ⟨_, _, [], rfl, Same.new np, upd_same, rfl, Nat.le_refl _⟩ ?_ ?_⟩
      · rintro j σ H2 hj ⟨q, q2, pre, rfl, S, hpr, ha, hz⟩
        have hj2 : j < rs.length := by rw [← el]; exact hj
        have ev : ((row : Int) + (1 : Int) + (0 + (j : Int))) % ((xs.length : Nat) : Int) = (((row + 1 + j) % rs.length : Nat) : Int) := by rw [el, emod_cast]
        have hxl : (row + 1 + j) % rs.length < rs.length := Nat.mod_lt _ (by omega)
        refine ⟨_, rfl, _, _, rfl, rfl, _, rfl, _, _, rfl, rfl, _, rfl, _, rfl, a, _, rfl, .inl (SqL.of (S _ _ hx)), _, _, rfl, rfl, (by show (0 : Int) < ((xs.length : Nat) : Int); omega), _, rfl, .inl ⟨rfl, _, SqL.of hpr⟩, _, rfl, p, _, _, rfl, rfl, hpr, ?_, ?_⟩
        · show (nts pre).length < sizeLine
          unfold nts
          rw [List.length_map]
          exact Nat.lt_of_le_of_lt (show pre.length ≤ 1000 by omega) (by decide)
        obtain ⟨xs2, t, r, hx2, hat, hr', rok, ht⟩ := R.row (i := (((row + 1 + j) % rs.length : Nat) : Int)) (by omega) (by omega)
        rw [Int.toNat_natCast] at hr'
        have S2 : ∀ u, Same H (upd H2 p u) := fun u => Same.upd S np
        refine ⟨_, rfl, _, rfl, _, _, _, .ref t, rfl, rfl, SqL.of (S2 _ _ _ hx2), ?_, ?_⟩
        · rw [ev]; exact hat
        refine ⟨t, _, _, _, rfl, rfl, SqT.of (S2 _ _ _ ht), (row_at r).2.2.2.2.2, _, rfl, ?_⟩
        have hlst : (nts pre ++ [V.int (((row : Int) + 1 + (0 + (j : Int))) % ((xs.length : Nat) : Int))]) = nts (pre ++ [(row + 1 + j) % rs.length]) := by
          rw [ev]
          unfold nts
          rw [List.map_append]
          rfl
        have hsk : skOf rs ((row + 1 + j) % rs.length) = r.skp := by unfold skOf; rw [hr']
        have hstep : rs.length - j = (rs.length - (j + 1)) + 1 := by omega
        rw [hstep, aft_step, hsk] at ha
        cases hs : r.skp with
        | true =>
          rw [hs] at ha
          refine iteF ?_
          refine ⟨_, _, pre ++ [(row + 1 + j) % rs.length], rfl, S2 _, by rw [← hlst]; exact upd_same, ?_, by rw [List.length_append, List.length_singleton]; omega⟩
          rw [ha]
          simp
        | false =>
          rw [hs] at ha
          refine iteT ?_
          refine ⟨_, _, rfl, S2 _, ?_⟩
          rw [ha]
          show _ = some (HO.lst (nts (pre ++ [(row + 1 + j) % rs.length])))
          rw [← hlst]
          exact upd_same
      · rintro σ H2 ⟨q, q2, pre, rfl, S, hpr, ha, hz⟩
        refine ⟨_, _, rfl, S, ?_⟩
        rw [ha]
        have e0 : rs.length - ((xs.length : Nat) : Int).toNat = 0 := by omega
        rw [e0]
        show _ = some (HO.lst (nts (pre ++ [])))
        rw [List.append_nil]
        exact hpr
    · rintro σ H2 ⟨q, q2, rfl, S, hpr⟩
      exact ⟨_, rfl, k p H2 np S hpr⟩
theorem ok_l_same_phase (T : Tx K mg) : FnOk P w K mg base CX0 3 (gad "_law_same_phase" K) (fdD K (gad "_law_same_phase" K)) P_l_same_phase (spSamePhase K) := by
  refine T.F_l_same_phase.ok sc_l_same_phase (fun vs H Q E h => ?_) (fun cdv A outer s H vs Q E hr h => ?_)
  · obtain ⟨x, t, r, rfl, _⟩ := h; rfl
  · obtain ⟨x, t, r, rfl, ⟨dx, hx⟩, ht, k⟩ := h
    refine ⟨_, PSs.nox ((pss_cons (ps_if (PW.pt (pw_or (pt_not (pt_val (pe_callB call_isi (by rfl) T.n_isinstance (by decide +kernel) (pa_cons (pv 0) (pa_cons (pe_gr rfl T.g_Phase) pa_nil))))) (pw_or (pt_not (pt_val (pe_call (ok_l_int T) (hr.mono (by decide)) rfl T.g_l_int T.F_l_int.kp (bd_l_int T) .nil pass0 (pa_cons (pe_fld (pv 0) rfl) pa_nil)))) (pw_or1 (pt_not (pt_val (pe_call (ok_l_int T) (hr.mono (by decide)) rfl T.g_l_int T.F_l_int.kp (bd_l_int T) .nil pass0 (pa_cons (pe_fld (pv 0) rfl) pa_nil)))))))) (pss_one (ps_ret pe_bl)) pss_nil)
      (pss_cons (ps_if (PW.pt (pw_or (pt_not (pt_val (pe_callB call_isi (by rfl) T.n_isinstance (by decide +kernel) (pa_cons (pe_fld (pv 0) rfl) (pa_cons (pe_bty "str" rfl T.n_str (by decide +kernel)) pa_nil))))) (pw_or (pt_cmpR op_ne (pe_fld (pv 0) rfl) (pe_ix ix_tup (pv 1) pe_int (fun _ _ => rfl)) (nomark _)) (pw_or1 (pt_cmpR op_ne (pe_fld (pv 0) rfl) (pe_ix ix_tup (pv 1) pe_int (fun _ _ => rfl)) (nomark _)))))) (pss_one (ps_ret pe_bl)) pss_nil)
      (pss_cons (ps_if (PW.pt (pw_or (pt_not (pt_val (pe_call (ok_l_is T) (hr.mono (by decide)) rfl T.g_l_is T.F_l_is.kp (bd_l_is T) .nil pass0 (pa_cons (pe_fld (pv 0) rfl) (pa_cons (pe_ix ix_tup (pv 1) pe_int (fun _ _ => rfl)) pa_nil))))) (pw_or (pt_not (pt_val (pe_call (ok_l_is T) (hr.mono (by decide)) rfl T.g_l_is T.F_l_is.kp (bd_l_is T) .nil pass0 (pa_cons (pe_fld (pv 0) rfl) (pa_cons (pe_ix ix_tup (pv 1) pe_int (fun _ _ => rfl)) pa_nil))))) (pw_or1 (pt_not (pt_val (pe_call (ok_l_is T) (hr.mono (by decide)) rfl T.g_l_is T.F_l_is.kp (bd_l_is T) .nil pass0 (pa_cons (pe_fld (pv 0) rfl) (pa_cons (pe_ix ix_tup (pv 1) pe_int (fun _ _ => rfl)) pa_nil))))))))) (pss_one (ps_ret pe_bl)) pss_nil)
      (pss_one (ps_ret (pe_cmpR op_eq (pe_fld (pv 0) rfl) (pe_ix ix_tup (pv 1) pe_int (fun _ _ => rfl)) (nomark _)))))))), ?_⟩
    refine ⟨_, rfl, _, _, _, _, true, rfl, .own _, inst_ty T.i_Phase T.c_Phase hx, T.k_Phase_Phase, _, rfl, iteF ?_⟩
    refine ⟨_, rfl, x, _, dx, _, _, rfl, hx, T.c_Phase, T.na_Phase_hue, ph_hue r, _, rfl, _, rfl, iteF ?_⟩
    refine ⟨_, rfl, x, _, dx, _, _, rfl, hx, T.c_Phase, T.na_Phase_stand, ph_stand r, _, rfl, _, rfl, iteF ?_⟩
    refine ⟨_, rfl, x, _, dx, _, _, rfl, hx, T.c_Phase, T.na_Phase_barrier, ph_barrier r, _, _, .type "str", .type "str", true, rfl, .ty _, .base (.str _), kit_ty (by decide +kernel), _, rfl, iteF ?_⟩
    refine ⟨_, rfl, x, _, dx, _, _, rfl, hx, T.c_Phase, T.na_Phase_hue, ph_hue r, _, rfl, t, _, _, _, rfl, rfl, SqT.of ht, (row_at r).1, rfl, _, rfl, iteNS rfl ?_⟩
    refine ⟨_, rfl, x, _, dx, _, _, rfl, hx, T.c_Phase, T.na_Phase_barrier, ph_barrier r, _, rfl, t, _, _, _, rfl, rfl, SqT.of ht, (row_at r).2.1, rfl, _, rfl, iteNS rfl ?_⟩
    refine ⟨_, rfl, x, _, dx, _, _, rfl, hx, T.c_Phase, T.na_Phase_visits, ph_visits r, _, rfl, t, _, _, _, rfl, rfl, SqT.of ht, (row_at r).2.2.1, _, _, rfl, _, rfl, _, rfl, iteE (by simp) ?_⟩
    refine ⟨_, rfl, x, _, dx, _, _, rfl, hx, T.c_Phase, T.na_Phase_pauses, ph_pauses r, _, rfl, t, _, _, _, rfl, rfl, SqT.of ht, (row_at r).2.2.2.1, _, _, rfl, _, rfl, _, rfl, iteE (by simp) ?_⟩
    refine ⟨_, rfl, x, _, dx, _, _, rfl, hx, T.c_Phase, T.na_Phase_skips, ph_skips r, _, rfl, t, _, _, _, rfl, rfl, SqT.of ht, (row_at r).2.2.2.2.2, _, _, rfl, _, rfl, _, rfl, iteE (by simp) ?_⟩
    refine ⟨_, rfl, x, _, dx, _, _, rfl, hx, T.c_Phase, T.na_Phase_stand, ph_stand r, _, rfl, t, _, _, _, rfl, rfl, SqT.of ht, (row_at r).2.2.2.2.1, rfl, ?_⟩
    have e : decide (V.int r.std = V.int r.std) = true := decide_eq_true rfl
    show Q (.bl (decide (V.int r.std = V.int r.std))) H
    rw [e]
    exact k
theorem bk_no (l : Addr) {m : Str} (h : ¬ m = "phases") : (bkF l).lookup m = none := by
  unfold bkF
  rw [lookup_putF, if_neg h]
  rfl
theorem ok_l_same_book (T : Tx K mg) : FnOk P w K mg base CX0 5 (gad "_law_same_book" K) (fdD K (gad "_law_same_book" K)) P_l_same_book (spSameBook K) := by
  refine T.F_l_same_book.ok sc_l_same_book (fun vs H Q E h => ?_) (fun cdv A outer s H vs Q E hr h => ?_)
  · obtain ⟨b, l, a, rs, rfl, _⟩ := h; rfl
  · obtain ⟨b, l, a, rs, rfl, B, R, k⟩ := h
    refine ⟨_, PSs.nox ((pss_cons (ps_if (PW.pt (pw_or (pt_not (pt_val (pe_callB call_isi (by rfl) T.n_isinstance (by decide +kernel) (pa_cons (pv 0) (pa_cons (pe_gr rfl T.g_Book) pa_nil))))) (pw_or (pt_not (pt_val (pe_call (ok_l_int T) (hr.mono (by decide)) rfl T.g_l_int T.F_l_int.kp (bd_l_int T) .nil pass0 (pa_cons (pe_callB (call_lenO T.o_Book_len (fr_Book_len T) (hr.mono (by decide)) pass0) (by rfl) T.n_len (by decide +kernel) (pa_cons (pv 0) pa_nil)) pa_nil)))) (pw_or1 (pt_cmpR op_ne (pe_callB (call_lenO T.o_Book_len (fr_Book_len T) (hr.mono (by decide)) pass0) (by rfl) T.n_len (by decide +kernel) (pa_cons (pv 0) pa_nil)) (pe_callB call_len_seq (by rfl) T.n_len (by decide +kernel) (pa_cons (pv 1) pa_nil)) (nomark _)))))) (pss_one (ps_ret pe_bl)) pss_nil)
      (pss_cons (ps_for PassesOwn.never rfl (pi_range1 (by rfl) T.n_range (pa_cons (pe_callB call_len_seq (by rfl) T.n_len (by decide +kernel) (pa_cons (pv 1) pa_nil)) pa_nil)) (pg_name (i := 2) sc_l_same_book.nd rfl (Or.inl rfl)) (pss_one (ps_if (pt_not (pt_val (pe_call (ok_l_same_phase T) (hr.mono (by decide)) rfl T.g_l_same_phase T.F_l_same_phase.kp (bd_l_same_phase T) .nil pass0 (pa_cons (pe_ixO T.o_Book_getitem (fr_Book_getitem T) (hr.mono (by decide)) pass0 (pv 0) (pv 2)) (pa_cons (pe_ix ix_list (pv 1) (pv 2) (fun _ _ => rfl)) pa_nil))))) (pss_one (ps_ret pe_bl)) pss_nil)))
      (pss_one (ps_ret pe_bl))))), ?_⟩
    obtain ⟨dx, hb⟩ := B.bk
    obtain ⟨xs, hx, el⟩ := R.len
    have n1 := B.n1
    have n6 := B.n6
    refine ⟨_, rfl, _, _, _, _, true, rfl, .own _, inst_ty T.i_Book T.c_Book hb, T.k_Book_Book, _, rfl, iteF ?_⟩
    refine ⟨_, rfl, b, dx, _, rfl, hb, b, l, rs, rfl, B, rs.length, rfl, by omega, _, rfl, _, rfl, iteF ?_⟩
    refine ⟨_, rfl, b, dx, _, rfl, hb, b, l, rs, rfl, B, rs.length, rfl, by omega, _, rfl, a, _, rfl, .inl (SqL.of hx), rfl, _, rfl, iteNS (by rw [el]) ?_⟩
    refine ⟨_, rfl, a, _, rfl, .inl (SqL.of hx), ?_⟩
    refine ⟨_, rfl, by omega, by omega, for_range (n := _) (fun j σ H' => ∃ q, σ = [some (.ref b), some (.ref a), q] ∧ H = H') ⟨_, rfl, rfl⟩ ?_ ?_⟩
    · rintro j σ H2 hj ⟨q, rfl, rfl⟩
      have hj2 : j < rs.length := by rw [← el]; exact hj
      obtain ⟨xs2, t, r, hx2, hat, hr', rok, ht⟩ := R.row (i := 0 + (j : Int)) (by omega) (by omega)
      refine ⟨_, rfl, _, rfl, b, dx, _, rfl, hb, b, l, rs, _, rfl, B, fun p r2 hr2 ok2 hp => ?_⟩
      have em : (0 + (j : Int)) % (rs.length : Int) = 0 + (j : Int) := Int.emod_eq_of_lt (by omega) (by omega)
      rw [em, hr'] at hr2
      cases hr2
      exact ⟨_, rfl, _, rfl, _, _, _, _, rfl, rfl, SqL.of hx2, hat, p, t, r, rfl, hp, ht, _, rfl, iteF ⟨_, rfl, rfl⟩⟩
    · rintro σ H2 ⟨q, rfl, rfl⟩
      exact k
theorem dp_nts {H : Hp} : ∀ {l : List Nat}, DpAll K H (nts l) ((l.map fun (n : Nat) => (n : Int)).map PyData.int)
  | [] => .nil
  | n :: r => .cons (.int _) dp_nts
theorem nts_get {l : List Nat} {i : Nat} {x : V} (h : (nts l)[i]? = some x) : ∃ n : Nat, x = .int n ∧ l[i]? = some n := by
  unfold nts at h
  rw [List.getElem?_map] at h
  cases e : l[i]? with
  | none => rw [e] at h; cases h
  | some n => rw [e] at h; exact ⟨n, (Option.some.inj h).symm, rfl⟩
theorem ok_l_all_after (T : Tx K mg) : FnOk P w K mg base CX0 4 (gad "_law_all_after" K) (fdD K (gad "_law_all_after" K)) P_l_all_after (spAllAfter K) := by
  refine T.F_l_all_after.ok sc_l_all_after (fun vs H Q E h => ?_) (fun cdv A outer s H vs Q E hr h => ?_)
  · obtain ⟨b, l, a, rs, rfl, _⟩ := h; rfl
  · obtain ⟨b, l, a, rs, rfl, B, R, k⟩ := h
    refine ⟨_, PSs.nox ((pss_cons (ps_for PassesOwn.never rfl (pi_range1 (by rfl) T.n_range (pa_cons (pe_callB call_len_seq (by rfl) T.n_len (by decide +kernel) (pa_cons (pv 1) pa_nil)) pa_nil)) (pg_name (i := 2) sc_l_all_after.nd rfl (Or.inl rfl)) (pss_cons (ps_set (i := 3) sc_l_all_after.nd rfl (Or.inl rfl) (pe_meth (pv 0) T.c_Book T.m_Book_after (ok_Book_after T) (hr.mono (by decide)) (bd_Book_after T) .nil pass0 (pa_cons (pv 2) pa_nil)))
      (pss_cons (ps_if (PW.pt (pw_or (pt_not (pt_val (pe_callB call_isi (by rfl) T.n_isinstance (by decide +kernel) (pa_cons (pv 3) (pa_cons (pe_bty "tuple" rfl T.n_tuple (by decide +kernel)) pa_nil))))) (pw_or1 (pt_cmpR op_eq (pe_callB call_len_seq (by rfl) T.n_len (by decide +kernel) (pa_cons (pv 3) pa_nil)) pe_int (nomark _))))) (pss_one (ps_ret pe_bl)) pss_nil)
      (pss_cons (ps_for PassesOwn.never rfl (pi_tup (pv 3)) (pg_name (i := 4) sc_l_all_after.nd rfl (Or.inl rfl)) (pss_one (ps_if (pt_not (pt_val (pe_call (ok_l_int T) (hr.mono (by decide)) rfl T.g_l_int T.F_l_int.kp (bd_l_int T) .nil pass0 (pa_cons (pv 4) pa_nil)))) (pss_one (ps_ret pe_bl)) pss_nil)))
      (pss_one (ps_if (pt_cmpR (op_neD hr.units) (pe_callTy call_list_of (by rfl) T.n_list (by decide +kernel) (pa_cons (pv 3) pa_nil)) (pe_call (ok_l_after T) (hr.mono (by decide)) rfl T.g_l_after T.F_l_after.kp (bd_l_after T) .nil pass0 (pa_cons (pv 1) (pa_cons (pv 2) pa_nil))) (nomark _)) (pss_one (ps_ret pe_bl)) pss_nil))))))
      (pss_one (ps_ret pe_bl)))), ?_⟩
    obtain ⟨dx, hb⟩ := B.bk
    obtain ⟨xs, hx, el⟩ := R.len
    have n1 := B.n1
    have n6 := B.n6
    refine ⟨_, rfl, a, _, rfl, .inl (SqL.of hx), ?_⟩
    refine ⟨_, rfl, by omega, by omega, for_range (n := _) (fun j σ H' => ∃ q q2 q3, σ = [some (.ref b), some (.ref a), q, q2, q3] ∧ Same H H') ⟨_, _, _, rfl, Same.refl H⟩ ?_ ?_⟩
    · rintro j σ H2 hj ⟨q, q2, q3, rfl, S⟩
      have hj2 : j < rs.length := by rw [← el]; exact hj
      have e0 : (0 + (j : Int)) = ((j : Nat) : Int) := by omega
      rw [e0]
      refine ⟨_, rfl, b, dx, _, rfl, S _ _ hb, bk_no l (by decide +kernel), _, rfl, b, l, rs, j, rfl, B.mono S, hj2, fun t H3 nt S3 ht => ?_⟩
      refine ⟨_, rfl, _, _, .type "tuple", .type "tuple", true, rfl, .ty _, .base (.tup ht), kit_ty (by decide +kernel), _, rfl, iteF ?_⟩
      have hne := after_ne rs j n1
      refine ⟨_, rfl, t, _, rfl, .inr (SqT.of ht), rfl, _, rfl, iteDN ?_ ?_⟩
      · intro z
        injection z with z
        unfold nts at z
        rw [List.length_map] at z
        omega
      refine ⟨_, rfl, t, rfl, ⟨_, SqT.of ht⟩, for_tup (K := K) (a := t) (xs := nts (after rs j)) (fun i σ H' => ∃ q, σ = [some (.ref b), some (.ref a), some (.int j), some (.ref t), q] ∧ H3 = H') ⟨_, rfl, rfl⟩ (fun i σ H' _ ⟨_, _, e⟩ => by rw [← e]; exact SqT.of ht) ?_ ?_⟩
      · rintro i x σ H4 hi ⟨q, rfl, rfl⟩
        obtain ⟨n, rfl, _⟩ := nts_get hi
        exact ⟨_, rfl, _, rfl, _, rfl, iteF ⟨_, rfl, rfl⟩⟩
      · rintro σ H4 ⟨q, rfl, rfl⟩
        have S23 := S.trans S3
        refine ⟨_, rfl, t, _, rfl, .inr (SqT.of ht), fun D nD => ?_⟩
        refine ⟨_, rfl, _, rfl, a, rs, j, rfl, (R.mono S23).mono (Same.new nD), hj2, n6, fun D2 H5 nD2 S5 h5 => ?_⟩
        have sh := PySem.W.ke_shaped_ints ((after rs j).map fun (n : Nat) => (n : Int))
        refine ⟨_, _, .lst (SqL.of (S5 _ _ upd_same)) dp_nts, .lst (SqL.of h5) dp_nts, sh, sh, _, rfl, iteE ?_ ?_⟩
        · rw [PySem.SeqAt.eqv_refl _ (Bool.and_eq_true_iff.mp sh).1]
          rfl
        · exact ⟨_, _, _, rfl, (S23.trans (Same.new nD)).trans S5⟩
    · rintro σ H2 ⟨q, q2, q3, rfl, S⟩
      exact k H2 S
end

end Hue

set_option Elab.async false
set_option linter.all false
set_option maxRecDepth 100000
set_option maxHeartbeats 4000000
namespace Hue
open PySem PySem.Spec PyProof.Rows L2
local macro_rules | `(tactic| walk_at "hp") => `(tactic| first
  | assumption
  | exact upd_same
  | (refine upd_old (by assumption) ?_; walk_at "hp")
  | (refine upd_oth (by assumption) ?_; walk_at "hp")
  | (refine same_get (by assumption) ?_; walk_at "hp")
  | (refine Fl.get (by assumption) (by assumption) ?_; walk_at "hp"))
local macro_rules | `(tactic| walk_at "seq") => `(tactic| first
  | assumption
  | exact T.t_BARRIERS _
  | exact SqL.of (by walk_at "hp")
  | exact SqT.of (by walk_at "hp"))
local macro_rules | `(tactic| walk_at "len") => `(tactic| first
  | exact Or.inl (by walk_at "seq")
  | exact Or.inr (by walk_at "seq"))
local macro_rules | `(tactic| walk_at "at") => `(tactic| first
  | rfl
  | assumption)

/-! ### slices of rows -/
theorem yesT {σ : L2.St} {H : Hp} {Q : Bool → Hp → Prop} (h : Q true H) : tYes σ H Q := h
theorem cut_take (xs : List V) {i : Int} (h0 : 0 ≤ i) (h1 : i ≤ xs.length) : cutV xs none (some i) = xs.take i.toNat := by
  have e : i = ((i.toNat : Nat) : Int) := (Int.toNat_of_nonneg h0).symm
  unfold cutV
  rw [e, HT.sIx_nat, HT.sIx_none, List.drop_zero, Int.toNat_natCast, Nat.sub_zero, Nat.min_eq_left (by omega)]
theorem cut_drop (xs : List V) {i : Int} (h0 : 0 ≤ i) (h1 : i ≤ xs.length) : cutV xs (some i) none = xs.drop i.toNat := by
  have e : i = ((i.toNat : Nat) : Int) := (Int.toNat_of_nonneg h0).symm
  unfold cutV
  rw [e, HT.sIx_nat, HT.sIx_none, Int.toNat_natCast, Nat.min_eq_left (by omega)]
  exact List.take_of_length_le (by rw [List.length_drop]; exact Nat.le_refl _)
theorem set_cut {α : Type} (xs : List α) (i : Nat) (x : α) (h : i < xs.length) : xs.take i ++ [x] ++ xs.drop (i + 1) = xs.set i x := by
  rw [List.set_eq_take_append_cons_drop, if_pos h]
  simp
theorem RowsAt.keep {H H' : Hp} {a l : Addr} {rs : List Ph} {u : List V} (h : RowsAt H a rs) (e : Fl l H H') (n : a ≠ l) (hl : H l = some (.lst u)) : RowsAt H' a rs := by
  obtain ⟨⟨ts, h1, h2, h3⟩, h4⟩ := h
  exact ⟨⟨ts, e _ _ n h1, h2, fun i t r ht hr => e _ _ (ne_of (h3 i t r ht hr) hl (by intro z; cases z)) (h3 i t r ht hr)⟩, h4⟩
abbrev rAddI : R2 := rI0 fun i j => .int (i + j)
/-- rows[:at] + [new] + rows[at + 1:] -/
theorem later_ok {K : PySem.W.Frag} {σ : L2.St} {H : Hp} {Q : VK} {i j k : Nat} {a t : Addr} {rs : List Ph} {r : Ph} {at' : Int} (hi : σ[i]? = some (some (.ref a))) (hj : σ[j]? = some (some (.int at'))) (hk : σ[k]? = some (some (.ref t)))
    (R : RowsAt H a rs) (h0 : 0 ≤ at') (h1 : at' < rs.length) (hz : rs.length ≤ 6) (ht : H t = some (.tup r.vs)) (ok : r.Ok) (q : ∀ D H', H D = none → Same H H' → RowsAt H' D (rs.set at'.toNat r) → Q (.ref D) H') :
    tOp rCat (tOp rCat (tSl (rSlL K) (tVar i) tNoPart (tPart (tVar j))) (tLst (tCons (tVar k) tNil))) (tSl (rSlL K) (tVar i) (tPart (tOp rAddI (tVar j) (tC (.int 1)))) tNoPart) σ H Q := by
  obtain ⟨⟨ts, h2, h3, h4⟩, h5⟩ := id R
  refine ⟨_, hi, _, hj, _, rfl, a, _, rfl, SqL.of h2, fun p1 n1 => ?_⟩
  refine ⟨_, hk, (show (1 : Nat) ≤ sizeLine by decide), fun p2 n2 => ?_⟩
  have n2' : H p2 = none := Same.free (Same.new n1) n2
  refine ⟨p1, p2, _, _, rfl, rfl, upd_old n2 upd_same, upd_same, ?_, fun p3 n3 => ?_⟩
  · have := cutV_length (ts.map V.ref) none (some at')
    rw [List.length_map] at this
    exact Nat.le_trans (show _ ≤ 100 by show _ + 1 ≤ 100; omega) (by decide)
  have S3 : Same H (upd (upd (upd H p1 (.lst (cutV (ts.map V.ref) none (some at')))) p2 (.lst [.ref t])) p3 (.lst (cutV (ts.map V.ref) none (some at') ++ [.ref t]))) :=
    Same.upd (Same.upd (Same.new n1) n2') (Same.free (Same.upd (Same.new n1) n2') n3)
  refine ⟨_, hi, _, hj, _, _, rfl, rfl, _, rfl, a, _, rfl, SqL.of (S3 _ _ h2), fun p4 n4 => ?_⟩
  refine ⟨p3, p4, _, _, rfl, rfl, upd_old n4 upd_same, upd_same, ?_, fun p5 n5 => ?_⟩
  · have l1 := cutV_length (ts.map V.ref) none (some at')
    have l2 := cutV_length (ts.map V.ref) (some (at' + 1)) none
    rw [List.length_map] at l1 l2
    rw [List.length_append]
    exact Nat.le_trans (show _ ≤ 100 by show _ + 1 + _ ≤ 100; omega) (by decide)
  have n4' := S3.free n4
  have S4 := Same.upd (u := .lst (cutV (ts.map V.ref) (some (at' + 1)) none)) S3 n4'
  have n5' := S4.free n5
  refine q p5 _ n5' (Same.upd S4 n5') ?_
  have el : (ts.map V.ref).length = rs.length := by rw [List.length_map, h3]
  rw [cut_take _ h0 (by omega), cut_drop _ (by omega) (by omega)]
  have ea : (at' + 1).toNat = at'.toNat + 1 := by omega
  rw [ea, set_cut _ _ _ (by omega)]
  refine ⟨⟨ts.set at'.toNat t, by rw [upd_same, List.map_set], by rw [List.length_set, List.length_set, h3], fun m t' r' ha hb => ?_⟩, fun x hx => ?_⟩
  · have S5 : Same H (upd (upd (upd (upd (upd H p1 (.lst ((ts.map V.ref).take at'.toNat))) p2 (.lst [.ref t])) p3 (.lst ((ts.map V.ref).take at'.toNat ++ [.ref t]))) p4 (.lst ((ts.map V.ref).drop (at'.toNat + 1)))) p5 (.lst ((ts.map V.ref).set at'.toNat (.ref t)))) := by
      refine Same.upd (Same.upd (Same.upd (Same.upd (Same.new n1) n2') ?_) n4') n5'
      exact Same.free (Same.upd (Same.new n1) n2') n3
    rw [List.getElem?_set] at ha hb
    split at ha
    · rename_i ei
      rw [if_pos ei] at hb
      split at ha
      · split at hb
        · cases ha; cases hb
          exact S5 _ _ ht
        · cases hb
      · cases ha
    · rename_i ei
      rw [if_neg ei] at hb
      exact S5 _ _ (h4 m t' r' ha hb)
  · rcases List.mem_or_eq_of_mem_set hx with z | z
    · exact h5 x z
    · rw [z]; exact ok
def Ph.withSkp (r : Ph) (b : Bool) : Ph := { r with skp := b }
theorem Ph.Ok.withSkp {r : Ph} (ok : r.Ok) (b : Bool) : (r.withSkp b).Ok := ⟨ok.h0, ok.h1, ok.s0, ok.s1⟩
theorem cut5 (r : Ph) : cutV r.vs none (some 5) = [.int r.hue, .str r.bar.s, .bl r.vis, .bl r.pau, .int r.std] := rfl
/-- row[:5] + (b,): te the row, tb its last place -/
theorem mark_ok {K : PySem.W.Frag} {σ : L2.St} {H : Hp} {Q : VK} {te tb : TE} {t : Addr} {r : Ph} {b : Bool} (he : ∀ R : VK, R (.ref t) H → te σ H R) (hb : ∀ (H' : Hp) (R : VK), Same H H' → (∀ H2, Same H' H2 → R (.bl b) H2) → tb σ H' R)
    (ht : H t = some (.tup r.vs)) (q : ∀ p H', H p = none → Same H H' → H' p = some (.tup (r.withSkp b).vs) → Q (.ref p) H') :
    tOp (rCatT K) (tSl (rSlT K) te tNoPart (tPart (tC (.int 5)))) (tTup (tCons tb tNil)) σ H Q := by
  refine he _ ⟨_, rfl, t, _, rfl, SqT.of ht, (show ¬ ((0 : Nat) = 0 ∧ (5 : Nat) = 6) by decide), fun p1 n1 => ?_⟩
  refine hb _ _ (Same.new n1) fun H2 S2 => ?_
  refine ⟨(show (1 : Nat) ≤ sizeLine by decide), fun p2 n2 => ?_⟩
  refine ⟨p1, p2, _, _, rfl, rfl, SqT.of (upd_old n2 (S2 _ _ upd_same)), SqT.of upd_same, ?_, (show (6 : Nat) ≤ sizeLine by decide), fun z => absurd z (by simp), fun _ p3 n3 => ?_⟩
  · rw [cut5]; simp
  have n2' : H p2 = none := Same.free ((Same.new n1).trans S2) n2
  have S3 := Same.upd (u := .tup [V.bl b]) ((Same.new n1).trans S2) n2'
  exact q p3 _ (S3.free n3) (Same.upd S3 (S3.free n3)) upd_same
theorem nextT {D : Ends} {σ : L2.St} {H : Hp} (h : D.nx σ H) : tNext D σ H := h
theorem seqT {t u : TS} {D : Ends} {σ : L2.St} {H : Hp} (h : t { D with nx := u D } σ H) : tSeq t u D σ H := h
theorem asgT {te : TE} {g : TG} {D : Ends} {σ : L2.St} {H : Hp} (h : te σ H fun x H1 => g x σ H1 D.nx) : tAsg te g D σ H := h


/-! ### the six lowest bits -/
def pw (h : Int) : Int := 2 ^ h.toNat
theorem pw_lt {h : Int} (h0 : 0 ≤ h) (h1 : h < 6) : 0 ≤ pw h ∧ pw h < 64 := by
  rcases (by omega : h = 0 ∨ h = 1 ∨ h = 2 ∨ h = 3 ∨ h = 4 ∨ h = 5) with rfl | rfl | rfl | rfl | rfl | rfl <;> decide
abbrev pwVs : List V := [V.int 1, V.int 2, V.int 4, V.int 8, V.int 16, V.int 32]
theorem at_pw {h : Int} (h0 : 0 ≤ h) (h1 : h < 6) : atI pwVs h = some (.int (pw h)) := by
  rcases (by omega : h = 0 ∨ h = 1 ∨ h = 2 ∨ h = 3 ∨ h = 4 ∨ h = 5) with rfl | rfl | rfl | rfl | rfl | rfl <;> rfl

/-! ### with all phases left out, each row comes once, the row itself last -/
theorem aft_all (sk : Nat → Bool) (n row : Nat) (hs : ∀ i, i < n → sk i = true) (hn : 0 < n) : ∀ f k, (aft sk n row k f) = (List.range f).map fun i => (row + 1 + (k + i)) % n
  | 0, _ => rfl
  | f + 1, k => by
    rw [aft_step, hs _ (Nat.mod_lt _ hn), if_pos rfl, aft_all sk n row hs hn f (k + 1), List.range_succ_eq_map]
    simp only [List.map_cons, List.map_map, Nat.add_zero]
    congr 1
    apply List.map_congr_left
    intro i _
    show (row + 1 + (k + 1 + i)) % n = (row + 1 + (k + (i + 1))) % n
    congr 1
    omega
theorem after_all (rs : List Ph) (row : Nat) (hs : ∀ r ∈ rs, r.skp = true) (h : row < rs.length) : (after rs row).length = rs.length ∧ ∃ pre, after rs row = pre ++ [row] := by
  have hk : ∀ i, i < rs.length → skOf rs i = true := fun i hi => by
    unfold skOf
    rw [List.getElem?_eq_getElem hi]
    exact hs _ (List.getElem_mem hi)
  unfold after
  rw [aft_all _ _ _ hk (by omega)]
  refine ⟨by simp, (List.range (rs.length - 1)).map (fun i => (row + 1 + (0 + i)) % rs.length), ?_⟩
  have e : rs.length = (rs.length - 1) + 1 := by omega
  conv => lhs; rw [show List.range rs.length = List.range ((rs.length - 1) + 1) by rw [← e]]
  rw [List.range_succ, List.map_append]
  congr 1
  simp only [List.map_cons, List.map_nil, List.cons.injEq, and_true]
  have e2 : row + 1 + (0 + (rs.length - 1)) = row + rs.length := by omega
  rw [e2, Nat.add_mod_right, Nat.mod_eq_of_lt h]
def spLaw (K : PySem.W.Frag) : Sp := fun vs H Q _ => ∃ (a : Addr) (ns : List Int), vs = [.ref a] ∧ SqL K H a (ns.map V.int) ∧ ns.length ≤ 63 ∧ ∀ H', Q (.bl true) H'
section
variable {P : Program} {w : World} {K : PySem.W.Frag} {mg : Str → Option Value} {base : Heap}
theorem ok_law (T : Tx K mg) : FnOk P w K mg base CX0 12 (gad "law" K) (fdD K (gad "law" K)) P_law (spLaw K) := by
  refine T.F_law.ok sc_law (fun vs H Q E h => ?_) (fun cdv A outer s H vs Q E hr h => ?_)
  · obtain ⟨a, ns, rfl, _⟩ := h; rfl
  · obtain ⟨sa, ns, rfl, hS, hlen, k⟩ := h
    refine ⟨_, PSs.nox ((pss_cons (ps_set (i := 1) sc_law.nd rfl (Or.inl rfl) (pe_call (ok_l_pool T) (hr.mono (by decide)) rfl T.g_l_pool T.F_l_pool.kp (bd_l_pool T) .nil pass0 (pa_cons (pv 0) pa_nil)))
      (pss_cons (ps_set (i := 2) sc_law.nd rfl (Or.inr rfl) (pe_call (ok_l_rows T) (hr.mono (by decide)) rfl T.g_l_rows T.F_l_rows.kp (bd_l_rows T) .nil pass0 (pa_cons (pv 1) (pa_cons pe_int pa_nil))))
      (pss_cons (ps_set (i := 3) sc_law.nd rfl (Or.inl rfl) (pe_call (ok_l_raw T) (hr.mono (by decide)) rfl T.g_l_raw T.F_l_raw.kp (bd_l_raw T) .nil pass0 (pa_cons (pv 1) pa_nil)))
      (pss_cons (ps_set (i := 4) sc_law.nd rfl (Or.inr rfl) (pe_call (ok_l_take T) (hr.mono (by decide)) rfl T.g_l_take T.F_l_take.kp (bd_l_take T) .nil pass0 (pa_cons (pv 1) (pa_cons pe_int pa_nil))))
      (pss_cons (ps_set (i := 5) sc_law.nd rfl (Or.inl rfl) (pe_call (ok_l_take T) (hr.mono (by decide)) rfl T.g_l_take T.F_l_take.kp (bd_l_take T) .nil pass0 (pa_cons (pv 1) (pa_cons (pe_callB call_len_seq (by rfl) T.n_len (by decide +kernel) (pa_cons (pv 2) pa_nil)) pa_nil))))
      (C8.pss_cut (ps_if (pt_cmpR op_gt (pv 4) pe_int (nomark _)) (pss_one (ps_set (i := 2) sc_law.nd rfl (Or.inr rfl) (pe_lc (own := [("_law_k", 6)]) (g := gName 6) (tt := tYes) rfl sc_law.nd (pi_range1 (by rfl) T.n_range (pa_cons (pe_callB call_len_seq (by rfl) T.n_len (by decide +kernel) (pa_cons (pv 2) pa_nil)) pa_nil)) (blkOk_by (own := [("_law_k", 6)]) (N := N_law) (sc := defScope s_law) (by decide +kernel)) (fun _ _ _ _ _ => (pg_name (i := 6) sc_law.nd rfl (Or.inl rfl))) (fun _ _ _ _ _ => pts_nil) (fun _ _ _ _ _ => (pe_op (op_catTK (K := K) rfl) (pe_slice (sl_tupK (K := K) rfl) (pe_ix (ix_listK (K := K) rfl) (pv 2) (pv 6) (fun _ _ => rfl)) po_none (po_some pe_int)) (pe_tup (pa_cons (pe_cmpR op_eq (pe_op op_mod (pe_callTy call_intI (by rfl) T.n_int (by decide +kernel) (pa_cons (pe_op op_fdiv (pv 4) (pe_ix (ix_listK (K := K) rfl) (pe_lst (pa_cons pe_int (pa_cons pe_int (pa_cons pe_int (pa_cons pe_int (pa_cons pe_int (pa_cons pe_int pa_nil))))))) (pv 6) (fun _ _ => rfl))) pa_nil)) pe_int) pe_int (nomark _)) pa_nil))))))) pss_nil)
      (pss_cons (ps_set (i := 7) sc_law.nd rfl (Or.inl rfl) (pe_call (ok_l_book T) (hr.mono (by decide)) rfl T.g_l_book T.F_l_book.kp (bd_l_book T) .nil pass0 (pa_cons (pv 2) pa_nil)))
      (pss_cons (ps_if (PW.pt (pw_or (pt_not (pt_val (pe_call (ok_l_all_after T) (hr.mono (by decide)) rfl T.g_l_all_after T.F_l_all_after.kp (bd_l_all_after T) .nil pass0 (pa_cons (pv 7) (pa_cons (pv 2) pa_nil))))) (pw_or1 (pt_not (pt_val (pe_call (ok_l_same_book T) (hr.mono (by decide)) rfl T.g_l_same_book T.F_l_same_book.kp (bd_l_same_book T) .nil pass0 (pa_cons (pv 7) (pa_cons (pv 2) pa_nil)))))))) (pss_one (ps_ret pe_bl)) pss_nil)
      (pss_cons (ps_asg (pe_call (ok_l_phase T) (hr.mono (by decide)) rfl T.g_l_phase T.F_l_phase.kp (bd_l_phase T) .nil pass0 (pa_cons (pv 3) pa_nil)) (pg_sub (pv 7) (pv 5) (set_own T.o_Book_setitem (fr_Book_setitem T) (hr.mono (by decide)) pass0)))
      (pss_cons (ps_set (i := 8) sc_law.nd rfl (Or.inl rfl) (pe_op op_cat (pe_op op_cat (pe_slice sl_list (pv 2) po_none (po_some (pv 5))) (pe_lst (pa_cons (pv 3) pa_nil))) (pe_slice sl_list (pv 2) (po_some (pe_op op_add (pv 5) pe_int)) po_none)))
      (pss_cons (ps_if (pt_not (pt_val (pe_call (ok_l_all_after T) (hr.mono (by decide)) rfl T.g_l_all_after T.F_l_all_after.kp (bd_l_all_after T) .nil pass0 (pa_cons (pv 7) (pa_cons (pv 8) pa_nil))))) (pss_one (ps_ret pe_bl)) pss_nil)
      (pss_cons (ps_set (i := 3) sc_law.nd rfl (Or.inl rfl) (pe_op op_catT (pe_slice sl_tup (pv 3) po_none (po_some pe_int)) (pe_tup (pa_cons (pe_not (pe_ix ix_tup (pv 3) pe_int (fun _ _ => rfl))) pa_nil))))
      (pss_cons (ps_asg (pe_call (ok_l_phase T) (hr.mono (by decide)) rfl T.g_l_phase T.F_l_phase.kp (bd_l_phase T) .nil pass0 (pa_cons (pv 3) pa_nil)) (pg_sub (pv 7) (pv 5) (set_own T.o_Book_setitem (fr_Book_setitem T) (hr.mono (by decide)) pass0)))
      (pss_cons (ps_set (i := 8) sc_law.nd rfl (Or.inl rfl) (pe_op op_cat (pe_op op_cat (pe_slice sl_list (pv 2) po_none (po_some (pv 5))) (pe_lst (pa_cons (pv 3) pa_nil))) (pe_slice sl_list (pv 2) (po_some (pe_op op_add (pv 5) pe_int)) po_none)))
      (pss_cons (ps_set (i := 9) sc_law.nd rfl (Or.inl rfl) (pe_call (ok_l_book T) (hr.mono (by decide)) rfl T.g_l_book T.F_l_book.kp (bd_l_book T) .nil pass0 (pa_cons (pe_lc (own := [("_law_row", 10)]) (g := gName 10) (tt := tYes) rfl sc_law.nd (pi_list (pv 2)) (blkOk_by (own := [("_law_row", 10)]) (N := N_law) (sc := defScope s_law) (by decide +kernel)) (fun _ _ _ _ _ => (pg_name (i := 10) sc_law.nd rfl (Or.inl rfl))) (fun _ _ _ _ _ => pts_nil) (fun _ _ _ _ _ => (pe_op (op_catTK (K := K) rfl) (pe_slice (sl_tupK (K := K) rfl) (pv 10) po_none (po_some pe_int)) (pe_tup (pa_cons pe_bl pa_nil))))) pa_nil)))
      (pss_cons (ps_for PassesOwn.never rfl (pi_range1 (by rfl) T.n_range (pa_cons (pe_callB call_len_seq (by rfl) T.n_len (by decide +kernel) (pa_cons (pv 2) pa_nil)) pa_nil)) (pg_name (i := 6) sc_law.nd rfl (Or.inl rfl)) (pss_one (ps_if (PW.pt (pw_or (pt_cmpR op_ne (pe_callB call_len_seq (by rfl) T.n_len (by decide +kernel) (pa_cons (pe_meth (pv 9) T.c_Book T.m_Book_after (ok_Book_after T) (hr.mono (by decide)) (bd_Book_after T) .nil pass0 (pa_cons (pv 6) pa_nil)) pa_nil)) (pe_callB call_len_seq (by rfl) T.n_len (by decide +kernel) (pa_cons (pv 2) pa_nil)) (nomark _)) (pw_or1 (pt_cmpR op_ne (pe_ix ix_tup (pe_meth (pv 9) T.c_Book T.m_Book_after (ok_Book_after T) (hr.mono (by decide)) (bd_Book_after T) .nil pass0 (pa_cons (pv 6) pa_nil)) (pe_un un_neg pe_int) (fun _ _ => rfl)) (pv 6) (nomark _))))) (pss_one (ps_ret pe_bl)) pss_nil)))
      (pss_one (ps_ret (pe_and (pe_call (ok_l_all_after T) (hr.mono (by decide)) rfl T.g_l_all_after T.F_l_all_after.kp (bd_l_all_after T) .nil pass0 (pa_cons (pv 7) (pa_cons (pv 8) pa_nil))) (pe_one (pe_call (ok_l_same_book T) (hr.mono (by decide)) rfl T.g_l_same_book T.F_l_same_book.kp (bd_l_same_book T) .nil pass0 (pa_cons (pv 7) (pa_cons (pv 8) pa_nil)))))))))))))))))))))))), ?_⟩
    refine ⟨_, rfl, sa, ns, rfl, hS, hlen, fun l H1 nl S1 P1 => ?_⟩
    refine ⟨_, rfl, l, 6, rfl, P1, by decide, by decide, fun rs0 a0 H2 R0 m1 m6 na0 al0 f2 P2 => ?_⟩
    refine ⟨_, rfl, l, rfl, P2, fun r t H3 ok nt tl f3 P3 ht => ?_⟩
    refine ⟨_, rfl, l, 128, rfl, P3, by decide, fun mk H4 k0 k1 f4 P4 => ?_⟩
    have R3 := R0.fl f3 al0 P2
    have R4 := R3.fl f4 al0 P3
    obtain ⟨xs4, hx4, el4⟩ := R4.len
    refine ⟨_, rfl, _, rfl, _, _, rfl, .inl (SqL.of hx4), l, _, rfl, P4, (by show (0 : Int) < ((xs4.length : Nat) : Int); omega), fun at' H5 t0 t1 f5 P5 => ?_⟩
    have R5 := R4.fl f5 al0 P4
    have ht5 := f5 _ _ tl (f4 _ _ tl ht)
    refine ⟨fun σ H' => ∃ a rs, σ = [some (.ref sa), some (.ref l), some (.ref a), some (.ref t), some (.int mk), some (.int at'), none, none, none, none, none] ∧ RowsAt H' a rs ∧ rs.length = rs0.length ∧ H' t = some (.tup r.vs), ?_, ?_⟩
    · refine ⟨_, rfl, _, _, rfl, rfl, _, rfl, ?_⟩
      refine iteB (fun _ => ?_) (fun _ => ⟨a0, rs0, rfl, R5, rfl, ht5⟩)
      obtain ⟨xs5, hx5, el5⟩ := R5.len
      refine ⟨_, rfl, a0, _, rfl, .inl (SqL.of hx5), ?_⟩
      refine ⟨_, rfl, by omega, by omega, fun D nD => ?_⟩
      refine lc_range (lo := 0) (n := _) (fun i H' => ∃ rs, RowsAt H' D rs ∧ rs.length = i ∧ Same H5 H') ⟨[], RowsAt.nil, rfl, Same.new nD⟩ ?_ ?_
      · rintro i H6 hi ⟨rs, R, hl, S6⟩
        refine ⟨rfl, ?_⟩
        have hi6 : i < rs0.length := by rw [← el5]; exact hi
        obtain ⟨xs1, t1', r1, hx1, ha1, hr1, ok1, ht1⟩ := R5.row (i := 0 + (i : Int)) (by omega) (by omega)
        have hpw := at_pw (h := 0 + (i : Int)) (by omega) (by omega)
        have hpl := pw_lt (h := 0 + (i : Int)) (by omega) (by omega)
        have hp1 : 0 < pw (0 + (i : Int)) := by
          rcases (by omega : i = 0 ∨ i = 1 ∨ i = 2 ∨ i = 3 ∨ i = 4 ∨ i = 5) with rfl | rfl | rfl | rfl | rfl | rfl <;> decide
        refine yesT (iteT ?_)
        refine mark_ok (t := t1') (r := r1) (b := decide (V.int (mk / pw (0 + (i : Int)) % 2) = V.int 1)) (fun Rq hR => ⟨_, rfl, _, rfl, _, _, _, _, rfl, rfl, SqL.of (S6 _ _ hx1), ha1, hR⟩) (fun H7 Rq S7 hR => ?_) (S6 _ _ ht1) (fun p H7 np S7 hp => ?_)
        · exact ⟨_, rfl, (show (6 : Nat) ≤ sizeLine by decide), fun p1 np1 => ⟨_, rfl, _, _, _, _, rfl, rfl, SqL.of upd_same, hpw, _, _, rfl, rfl, ⟨hp1, by omega⟩, _, rfl, _, _, rfl, rfl, (show (0 : Int) < 2 by decide), rfl, hR _ (Same.new np1)⟩⟩
        · obtain ⟨xs, q1, q2, q3⟩ := (R.mono S7).snoc hp (ok1.withSkp _)
          exact ⟨xs, q1, small1000 (by omega), _, q3, by rw [List.length_append, hl]; rfl, Same.upd (S6.trans S7) nD⟩
      · rintro H6 ⟨rs, R, hl, S6⟩
        exact ⟨D, rs, rfl, R, by rw [hl, ← el5]; rfl, S6 _ _ ht5⟩
    · rintro σ H6 ⟨a, rs, rfl, R, hl, ht6⟩
      have n1 : 1 ≤ rs.length := by omega
      have n6 : rs.length ≤ 6 := by omega
      have at1 : at' < rs.length := by rw [hl, ← el4]; exact t1
      obtain ⟨xsr, hxr, elr⟩ := R.len
      refine ⟨_, rfl, a, rs, rfl, R, n1, n6, fun b bl H7 nb nbl S7 B7 => ?_⟩
      have abl : a ≠ bl := ne_of_none hxr nbl
      refine ⟨_, rfl, _, rfl, b, bl, a, rs, rfl, B7, R.mono S7, fun H8 S8 => ⟨_, rfl, iteF ?_⟩⟩
      refine ⟨_, rfl, _, rfl, b, bl, a, rs, rfl, B7.mono S8, R.mono (S7.trans S8), _, rfl, iteF ?_⟩
      have S68 := S7.trans S8
      refine ⟨_, rfl, t, r, rfl, S68 _ _ ht6, ok, fun x H9 nx S9 hx => ?_⟩
      have B9 := (B7.mono S8).mono S9
      obtain ⟨dx9, hb9⟩ := B9.bk
      have R9 := R.mono (S68.trans S9)
      obtain ⟨as9, hl9, _⟩ := B9.ph
      refine ⟨_, rfl, _, rfl, b, dx9, _, rfl, hb9, b, bl, x, rs, at', r, rfl, B9, hx, ok, fun H10 f10 B10 => ?_⟩
      have em : at' % (rs.length : Int) = at' := Int.emod_eq_of_lt t0 (by omega)
      rw [em] at B10
      have R10 := R9.keep f10 abl hl9
      have ht10 := f10 _ _ (ne_of (S9 _ _ (S68 _ _ ht6)) hl9 (by intro z; cases z)) (S9 _ _ (S68 _ _ ht6))
      refine later_ok (i := 2) (j := 5) (k := 3) rfl rfl rfl R10 t0 at1 n6 ht10 ok (fun D H11 nD S11 RD => ?_)
      refine ⟨_, rfl, _, rfl, b, bl, D, _, rfl, B10.mono S11, RD, fun H12 S12 => ⟨_, rfl, iteF ?_⟩⟩
      have S1012 := S11.trans S12
      have ht12 := S1012 _ _ ht10
      refine nextT ?_
      dsimp only
      refine seqT (asgT ?_)
      refine mark_ok (t := t) (r := r) (b := !r.skp) (fun Rq hR => ⟨_, rfl, hR⟩) (fun H13 Rq S13 hR => ?_) ht12 (fun t2 H13 nt2 S13 ht2 => ?_)
      · exact ⟨_, rfl, t, _, _, _, rfl, rfl, SqT.of (S13 _ _ ht12), (row_at r).2.2.2.2.2, _, rfl, hR _ (Same.refl _)⟩
      have ok2 := ok.withSkp (!r.skp)
      refine ⟨_, rfl, t2, _, rfl, ht2, ok2, fun y H14 ny S14 hy => ?_⟩
      have S1014 := S1012.trans (S13.trans S14)
      have B14 := B10.mono S1014
      obtain ⟨dx14, hb14⟩ := B14.bk
      obtain ⟨as14, hl14, _⟩ := B14.ph
      have R14 := R10.mono S1014
      refine ⟨_, rfl, _, rfl, b, dx14, _, rfl, hb14, b, bl, y, _, at', _, rfl, B14, hy, ok2, fun H15 f15 B15 => ?_⟩
      have el2 : (rs.set at'.toNat r).length = rs.length := List.length_set ..
      rw [el2, em, List.set_set] at B15
      have R15 := R14.keep f15 abl hl14
      have ht15 := f15 _ _ (ne_of (S14 _ _ ht2) hl14 (by intro z; cases z)) (S14 _ _ ht2)
      refine later_ok (i := 2) (j := 5) (k := 3) rfl rfl rfl R15 t0 at1 n6 ht15 ok2 (fun D2 H16 nD2 S16 RD2 => ?_)
      have R16 := R15.mono S16
      obtain ⟨⟨ts, q1, q2, q3⟩, q4⟩ := id R16
      refine ⟨_, rfl, a, rfl, ⟨_, SqL.of q1⟩, fun D3 nD3 => ?_⟩
      refine lc_list (K := K) (a := a) (xs := ts.map V.ref) (fun i H' => RowsAt H' D3 ((rs.take i).map fun r => r.withSkp true) ∧ Same H16 H') ⟨RowsAt.nil, Same.new nD3⟩ (fun i H' _ ⟨_, S⟩ => SqL.of (S _ _ q1)) ?_ ?_
      · rintro i x H17 hi ⟨R17, S17⟩
        rw [List.getElem?_map] at hi
        cases et : ts[i]? with
        | none => rw [et] at hi; cases hi
        | some u =>
          rw [et] at hi
          cases hi
          obtain ⟨r', hr', hm⟩ := mem_get (xs := rs) (i := i) (by rw [← q2]; exact (List.getElem?_eq_some_iff.mp et).1)
          refine ⟨rfl, ?_⟩
          refine yesT (iteT ?_)
          refine mark_ok (t := u) (r := r') (b := true) (fun Rq hR => ⟨_, rfl, hR⟩) (fun H18 Rq S18 hR => hR _ (Same.refl _)) (S17 _ _ (q3 i u r' et hr')) (fun p H18 np S18 hp => ?_)
          obtain ⟨xs, e1, e2, e3⟩ := (R17.mono S18).snoc hp ((q4 r' hm).withSkp true)
          rw [List.length_map, List.length_take] at e2
          refine ⟨xs, e1, small1000 (by omega), ?_, Same.upd (S17.trans S18) nD3⟩
          rw [List.take_add_one, hr', List.map_append]
          exact e3
      · rintro H17 ⟨R17, S17⟩
        rw [List.length_map, q2, List.take_length] at R17
        have lf : (rs.map fun r => r.withSkp true).length = rs.length := List.length_map ..
        refine ⟨D3, _, rfl, R17, by omega, by omega, fun fb fl H18 nfb nfl S18 B18 => ?_⟩
        have S1618 := S17.trans S18
        obtain ⟨dxf, hbf⟩ := B18.bk
        obtain ⟨xs16, hx16, el16⟩ := R16.len
        have hx18 := S1618 _ _ hx16
        refine ⟨_, rfl, _, _, rfl, .inl (SqL.of hx18), ?_⟩
        refine ⟨_, rfl, by omega, by omega, for_range (n := _) (fun j σ H' => ∃ q5 q6, σ = [some (.ref sa), some (.ref l), some (.ref a), some (.ref t2), some (.int mk), some (.int at'), q5, some (.ref b), some (.ref D2), some (.ref fb), q6] ∧ Same H18 H') ⟨_, _, rfl, Same.refl _⟩ ?_ ?_⟩
        · rintro j σ H19 hj ⟨q5, q6, rfl, S19⟩
          have hj2 : j < rs.length := by rw [← el16]; exact hj
          have e0 : (0 + (j : Int)) = ((j : Nat) : Int) := by omega
          rw [e0]
          obtain ⟨la, pre, lb⟩ := after_all (rs.map fun r => r.withSkp true) j (fun r hr => by obtain ⟨r', _, rfl⟩ := List.mem_map.mp hr; rfl) (by rw [lf]; exact hj2)
          refine ⟨_, rfl, fb, dxf, _, rfl, S19 _ _ hbf, bk_no fl (by decide +kernel), _, rfl, fb, fl, _, j, rfl, B18.mono S19, by rw [lf]; exact hj2, fun t3 H20 nt3 S20 ht3 => ?_⟩
          refine ⟨t3, _, rfl, .inr (SqT.of ht3), _, rfl, _, _, rfl, .inl (SqL.of (S20 _ _ (S19 _ _ hx18))), rfl, _, rfl, iteE ?_ ?_⟩
          · rw [decide_eq_true (show V.int (((nts (after (rs.map fun r => r.withSkp true) j)).length : Nat) : Int) = V.int ((xs16.length : Nat) : Int) by
              unfold nts
              rw [List.length_map, la, lf, el16])]
            rfl
          refine ⟨_, rfl, fb, dxf, _, rfl, S20 _ _ (S19 _ _ hbf), bk_no fl (by decide +kernel), _, rfl, fb, fl, _, j, rfl, (B18.mono S19).mono S20, by rw [lf]; exact hj2, fun t4 H21 nt4 S21 ht4 => ?_⟩
          refine ⟨_, rfl, t4, _, -1, .int j, rfl, rfl, SqT.of ht4, ?_, _, rfl, rfl, _, rfl, iteNS rfl ?_⟩
          · rw [lb]
            unfold nts
            rw [List.map_append]
            exact atI_last _ _
          exact ⟨_, _, rfl, (S19.trans S20).trans S21⟩
        · rintro σ H19 ⟨q5, q6, rfl, S19⟩
          have S1519 := (S16.trans S1618).trans S19
          have RD19 := (RD2.mono S1618).mono S19
          refine ⟨_, rfl, _, rfl, b, bl, D2, _, rfl, B15.mono S1519, RD19, fun H20 S20 => ⟨_, rfl, ?_⟩⟩
          exact ⟨_, rfl, _, rfl, b, bl, D2, _, rfl, (B15.mono S1519).mono S20, RD19.mono S20, k _⟩
end
def looseAll : List Str := (["_wall", "RoundError", "BadBook", "BadPhase", "BARRIERS", "MOST_HUE", "MOST_STAND", "Phase", "Book", "_law_is", "_law_int", "_law_pool", "_law_take", "_law_raw", "_law_calm", "_law_rows", "_law_phase", "_law_same_phase", "_law_same_book", "_law_book", "_law_after", "_law_all_after"] : List Str)
abbrev Rr : PySem.W.OpenRow := PySem.W.OpenLaw.row PySem.Challenge.rw_huerounds_k08_rows_after
abbrev hkA : PySem.W.Hook := hookX 6 faAll fxAll dsAll
def obA (s : PySem.W.SharedT) : AlX := obsXG 6 faAll fxAll dsAll (HandSHeadRun.getT s)
theorem obA_eq (s : PySem.W.SharedT) : obA s = hkA.obs s.abs := obsXG_eq (HandSHeadRun.getT_eq s)
theorem runA (w : World) : HandSHeadRun.RunEq Rr (PySem.W.view Rr.prog [25]) hkA obA 8000 looseAll w := by
  intro os
  kernel_rfl
theorem endA {P : Program} {w : World} {K : PySem.W.Frag} {h : Heap} {mg : Str → Option Value} {f : Addr} (X : K.In h) (G : h.Ns mainGlobals mg) (hfa : mg ("law" : Str) = some (.ref f)) (c : SaysX faAll fxAll dsAll K) :
    ∃ fd : FuncData, (∀ (s : Shared) (v : Value), BindsTo s fd ⟨[v], []⟩ [("_law_script", v)]) ∧ ∀ base : Heap, K.In base → base.Ns mainGlobals mg → FnOk P w K mg base CX0 12 f fd ["_law_script"] (spLaw K) := by
  have T := Tx.of X G c
  cases hfa.symm.trans T.g_law
  exact ⟨_, fun s v => FunD.bindsA (ps := ["_law_script"]) T.F_law (fun _ _ _ _ _ _ us hl => match us, hl with | [_], _ => rfl) s [v] rfl, fun base _ _ => ok_law T⟩
end Hue
open PySem PySem.W PySem.Calls PyProof.Rows
theorem PySem.Challenge.cw_huerounds_k08_rows_after_holds : PySem.Challenge.rw_huerounds_k08_rows_after.Holds := by
  w_on; o_law
  refine HandSHeadRun.head_any (r := OpenLaw.row PySem.Challenge.rw_huerounds_k08_rows_after) (q := view (OpenLaw.row PySem.Challenge.rw_huerounds_k08_rows_after).prog [25]) (H := Hue.hkA) (ob := Hue.obA) (M := 8000) (loose := Hue.looseAll)
    (d := HandSHeadRun.topDef (OpenLaw.row PySem.Challenge.rw_huerounds_k08_rows_after).prog 25) (kwd := []) Hue.obA_eq
    (by kernel_rfl) (fun s => by kernel_rfl) Hue.runA (by kernel_rfl) (by kernel_rfl) (by kernel_rfl) (by rfl) (by first | assumption | decide +kernel) (by decide +kernel) ⟨rfl, rfl, rfl, rfl, rfl, by decide +kernel⟩ ?hw ?hc
  case hw => w_witness2
  case hc =>
    refine L2.walk_ofE (l := PySem.Challenge.rw_huerounds_k08_rows_after) (n := 63) (k := 12) (x := "_law_script") (CX := L2.CX0) rfl (by decide) (by kernel_rfl) ⟨rfl, by decide, by decide⟩ ?F (fun _ _ _ _ z => z)
    intro w mg fa h Y G hmg0
    obtain ⟨K, KX, c⟩ := Y
    have hmg : mg ("law" : PySem.Str) = some (.ref fa) := by
      have e : (HandSHeadRun.topDef (OpenLaw.row PySem.Challenge.rw_huerounds_k08_rows_after).prog 25).name = ("law" : PySem.Str) := by kernel_rfl
      rw [← e]
      exact hmg0
    obtain ⟨fd, hb, hF⟩ := Hue.endA (P := (PySem.Challenge.pw_huerounds_k08_rows_after)) (w := w) KX G hmg c
    exact ⟨K, fd, Hue.spLaw K, KX, hb, fun H a ns hl _ hS => ⟨a, ns, rfl, hS, hl, fun _ => rfl⟩, hF⟩
#print axioms PySem.Challenge.cw_huerounds_k08_rows_after_holds
