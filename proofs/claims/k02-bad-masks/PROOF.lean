import PyProof.Rows.All
import Wide.All
import OpenK.AllK
import Wide.FinOn
import KE.KStateDown
import KE.KOpsOwn
import HandS.ForMost
import HandS.Wide
import HandS.Exc
import HandS.Defaults
import HandS.Property
import HandS.MakeKwOnly
import HandS.ClsMeth
import HandS.IsInst
import HandS.Head0
import HandS.Head1
import HandS.Head2
import HandS.HeadEnd
import HandS.HeadHook1
import HandS.HeadHook2
import HandS.WideBits
import PySem.Challenge.RW_huerounds_k02_bad_masks
set_option Elab.async false
set_option linter.all false
set_option maxRecDepth 100000
set_option maxHeartbeats 4000000
/-! The base of all our proofs about huerounds: the head's facts by names (own hook), own rules, own words. -/
namespace Hue
open PySem PySem.Spec PyProof.Rows L2

/-! ### defs of the text, found by an address of K -/
def noFd : FuncData := PySem.W.fnOf Str.empty Str.empty (defArgs (.Pass ⟨0, 0, 0, 0⟩)) [] (defScope (.Pass ⟨0, 0, 0, 0⟩)) .none .none .none .none none .none .none
def fdD (K : PySem.W.Frag) (a : Addr) : FuncData :=
  match K.lookup a with
  | some ⟨_, _, .func g, _⟩ => g
  | _ => noFd
abbrev Row8 : Type := Option (Str × Str × Arguments × FuncBody × Scope × Addr × List (Str × Addr) × Addr)
def rowAt (K : PySem.W.Frag) (a : Addr) : Row8 :=
  match K.lookup a with
  | some ⟨_, _, .func g, _⟩ => some (g.name, g.qualname, g.params, g.body, g.scope, g.globals, g.closure, g.builtins)
  | _ => none
/-- a def of the text: where it stands, its names, its statement, its defaults -/
structure DX where
  ad : PySem.W.Frag → Addr
  nm : Str
  ql : Str
  st : Stmt
  df : List He.Dv := []
  kd : List (Str × He.Dv) := []
def DX.row (d : DX) : Row8 := some (d.nm, d.ql, defArgs d.st, .stmts (defBody d.st), defScope d.st, mainGlobals, [], builtinsNs)
def DX.dvs (K : PySem.W.Frag) (d : DX) : List V := d.df.map (He.Dv.v K)
def DX.kws (K : PySem.W.Frag) (d : DX) : List (Str × V) := d.kd.map fun q => (q.1, q.2.v K)
def DX.okB (K : PySem.W.Frag) (d : DX) : Bool :=
  PySem.W.keepIn K (.ref (d.ad K)) &&
  (match K.lookup (d.ad K) with
  | some ⟨_, _, .func g, _⟩ => PySem.W.codeIn K g.code d.ql && (He.dflB K g.defaults (d.dvs K) && He.kwdB K g.kwdefaults (d.kws K))
  | _ => false)
theorem DX.funD {K : PySem.W.Frag} {d : DX} (e : rowAt K (d.ad K) = d.row) (c : d.okB K = true) :
    FunD K d.nm d.ql (defArgs d.st) (defBody d.st) (defScope d.st) (d.dvs K) (d.kws K) (d.ad K) (fdD K (d.ad K)) := by
  obtain ⟨kp, c2⟩ := He.ba c
  unfold rowAt at e
  unfold fdD
  cases q : K.lookup (d.ad K) with
  | none => rw [q] at c2; cases c2
  | some o =>
    obtain ⟨oc, od, dt, osl⟩ := o
    rw [q] at c2 e
    cases dt with
    | func g =>
      obtain ⟨n1, n2, n3, n4, n5, n6, n7, n8, n9, n10, n11, n12, n13, n14, n15⟩ := g
      have e2 : (some (n1, n2, n3, n4, n5, n6, n7, n15) : Row8) = d.row := e
      unfold DX.row at e2
      simp only [Option.some.injEq, Prod.mk.injEq] at e2
      obtain ⟨h1, h2, h3, h4, h5, h6, h7, h8⟩ := e2
      subst h1 h2 h3 h4 h5 h6 h7 h8
      obtain ⟨k1, k2⟩ := He.ba (show (PySem.W.codeIn K n13 d.ql && (He.dflB K n8 (d.dvs K) && He.kwdB K n9 (d.kws K))) = true from c2)
      obtain ⟨k3, k4⟩ := He.ba k2
      exact ⟨⟨oc, od, n8, n9, n10, n11, n12, n13, n14, osl, rfl, q, k1, He.dflB_ok k3, He.kwdB_ok k4⟩, kp⟩
    | _ => cases c2

/-! ### more facts of the top -/
abbrev gad (x : Str) (K : PySem.W.Frag) : Addr := He.ga K x
abbrev mad (C m : Str) (K : PySem.W.Frag) : Addr := He.ma K (He.ga K C) m
/-- the getter behind a property, the def behind a classmethod -/
def pad (T : String) (C m : Str) (K : PySem.W.Frag) : Addr :=
  match PySem.W.recIn K (He.ma K (He.ga K C) m) T with
  | some (.ref g :: _) => g
  | _ => 0
inductive Kx where
  | ty (n : String)
  | own (x : Str)
def Kx.v (K : PySem.W.Frag) : Kx → Value
  | .ty n => .type n
  | .own x => .ref (He.ga K x)
inductive Fx where
  | prop (C f : Str)
  | tup (x : Str) (vs : List He.Dv)
  | inst (C : Str)
  | kit (t c : Kx) (b : Bool)
  | bop (C m r : Str) (T : String)
def eqB (a b : Option Bool) : Bool := decide (a = b)
def someO (a : Option (Option Value)) : Bool := a.isSome
def Fx.ok (K : PySem.W.Frag) : Fx → Bool
  | .prop C f =>
    He.eqO (PySem.W.findIn K (.ref (gad C K)) f) (some (some (.ref (mad C f K)))) &&
    (He.eqO (PySem.W.specialIn K (.ref (mad C f K)) "__get__") (some (some (.builtin "property.__get__"))) &&
    (eqB (PySem.W.takesIn K (.ref (mad C f K))) (some true) &&
    (match PySem.W.recIn K (mad C f K) "property" with
      | some (.ref _ :: _) => true
      | _ => false)))
  | .tup x vs => He.tupB K x vs
  | .inst C =>
    He.eqO (PySem.W.findIn K (.ref (gad C K)) "__class__") (some (some (.builtin "object.__class__"))) &&
    (He.eqO (PySem.W.specialIn K (.builtin "object.__class__") "__get__") (some (some (.builtin "getset_descriptor.__get__"))) &&
    (eqB (PySem.W.takesIn K (.builtin "object.__class__")) (some true) &&
    eqB (PySem.W.mroIn K (gad C K) (.type "object")) (some true)))
  | .kit t c b => eqB (PySem.W.kitOne K (t.v K) (c.v K)) (some b)
  | .bop C m r T =>
    PySem.W.selfFirst K (gad C K) &&
    (He.eqO (PySem.W.findIn K (.ref (gad C K)) m) (some (some (.ref (mad C m K)))) &&
    (PySem.W.isFn K (.ref (mad C m K)) &&
    (He.eqO (PySem.W.findIn K (.ref (gad C K)) r) (some none) &&
    (someO (PySem.W.findIn K (.type T) m) && (someO (PySem.W.findIn K (.type T) r) &&
    eqB (PySem.W.subIn K (.type T) (.ref (gad C K))) (some false))))))
section
variable {K : PySem.W.Frag}
theorem prop_ok {C f : Str} (c : (Fx.prop C f).ok K = true) : PropOf K (gad C K) f (mad C f K) (pad "property" C f K) := by
  obtain ⟨c1, c⟩ := He.ba c
  obtain ⟨c2, c⟩ := He.ba c
  obtain ⟨c3, c4⟩ := He.ba c
  refine ⟨He.eqO_ok c1, He.eqO_ok c2, of_decide_eq_true c3, ?_⟩
  unfold pad
  cases e : PySem.W.recIn K (mad C f K) "property" with
  | none => rw [e] at c4; cases c4
  | some l =>
    rw [e] at c4
    cases l with
    | nil => cases c4
    | cons v r =>
      cases v with
      | ref g =>
        exact ⟨r, rfl⟩
      | _ => cases c4
theorem inst_ty {C : Str} (c : (Fx.inst C).ok K = true) (cl : Cls K (gad C K)) {H : Hp} {a dx : Addr} {fs : List (Str × V)} (e : H a = some (.ins (gad C K) dx fs)) : TyX K H (.ref a) (.ref (gad C K)) := by
  obtain ⟨c1, c⟩ := He.ba c
  obtain ⟨c2, c⟩ := He.ba c
  obtain ⟨c3, c4⟩ := He.ba c
  exact .base (.ins e cl (He.eqO_ok c1) (He.eqO_ok c2) (of_decide_eq_true c3) (of_decide_eq_true c4))
theorem kit_ok {t c : Kx} {b : Bool} (h : (Fx.kit t c b).ok K = true) : PySem.W.kitOne K (t.v K) (c.v K) = some b := of_decide_eq_true h
end
/-! ### the hook -/
abbrev AlX : Type := Bool × List Row8
def obsX (fa : List He.Fa) (fx : List Fx) (ds : List DX) (K : PySem.W.Frag) : AlX :=
  ((fa.all fun f => f.ok K) && ((fx.all fun f => f.ok K) && ds.all fun d => d.okB K), ds.map fun d => rowAt K (d.ad K))
def valX (ds : List DX) : AlX := (true, ds.map DX.row)
def SaysX (fa : List He.Fa) (fx : List Fx) (ds : List DX) (K : PySem.W.Frag) : Prop := obsX fa fx ds K = valX ds
def obsXG (n : Nat) (fa : List He.Fa) (fx : List Fx) (ds : List DX) (g : Addr → Option Obj) : AlX := obsX fa fx ds (He.frG g (He.asD g n))
def hookX (n : Nat) (fa : List He.Fa) (fx : List Fx) (ds : List DX) : PySem.W.Hook where
  α := AlX
  obs := fun s => obsXG n fa fx ds s.heap.get?
  val := fun _ => valX ds
  says := fun _ h => ∃ K : PySem.W.Frag, K.In h ∧ SaysX fa fx ds K
  of := fun _ _ e => ⟨_, He.frG_in, e⟩
  keeps := fun _ _ _ ⟨K, hK, c⟩ k => ⟨K, PySem.W.Frag.In.keeps hK k, c⟩
theorem obsXG_eq {n : Nat} {fa : List He.Fa} {fx : List Fx} {ds : List DX} {g : Addr → Option Obj} {s : Shared} (h : ∀ a, g a = s.heap.get? a) : obsXG n fa fx ds g = (hookX n fa fx ds).obs s := by
  cases (funext h : g = s.heap.get?)
  rfl
section
variable {fa : List He.Fa} {fx : List Fx} {ds : List DX} {K : PySem.W.Frag}
theorem SaysX.fact (c : SaysX fa fx ds K) (i : Nat) {f : He.Fa} (h : fa[i]? = some f := by rfl) : f.ok K = true :=
  List.all_eq_true.mp (He.ba (show ((fa.all fun f => f.ok K) && ((fx.all fun f => f.ok K) && ds.all fun d => d.okB K)) = true from congrArg (fun z : AlX => z.1) c)).1 f (List.mem_of_getElem? h)
theorem SaysX.more (c : SaysX fa fx ds K) (i : Nat) {f : Fx} (h : fx[i]? = some f := by rfl) : f.ok K = true :=
  List.all_eq_true.mp (He.ba (He.ba (show ((fa.all fun f => f.ok K) && ((fx.all fun f => f.ok K) && ds.all fun d => d.okB K)) = true from congrArg (fun z : AlX => z.1) c)).2).1 f (List.mem_of_getElem? h)
theorem SaysX.fd (c : SaysX fa fx ds K) (i : Nat) {d : DX} (h : ds[i]? = some d := by rfl) :
    FunD K d.nm d.ql (defArgs d.st) (defBody d.st) (defScope d.st) (d.dvs K) (d.kws K) (d.ad K) (fdD K (d.ad K)) := by
  have c2 := (He.ba (He.ba (show ((fa.all fun f => f.ok K) && ((fx.all fun f => f.ok K) && ds.all fun d => d.okB K)) = true from congrArg (fun z : AlX => z.1) c)).2).2
  have e : ds.map (fun d => rowAt K (d.ad K)) = ds.map DX.row := congrArg (fun z : AlX => z.2) c
  have e2 : (ds.map fun d => rowAt K (d.ad K))[i]? = (ds.map DX.row)[i]? := by rw [e]
  rw [List.getElem?_map, List.getElem?_map, h] at e2
  exact DX.funD (Option.some.inj e2) (List.all_eq_true.mp c2 d (List.mem_of_getElem? h))
end

/-! ### constants of the top -/
abbrev SqTk (K : PySem.W.Frag) (a : Addr) (vs : List V) : Prop := ∀ H : Hp, SqT K H a vs
theorem tup_ok {K : PySem.W.Frag} {x : Str} {vs : List He.Dv} (h : (Fx.tup x vs).ok K = true) : SqTk K (gad x K) (vs.map (He.Dv.v K)) := fun H => He.tupB_ok h H
section
variable {X : Cx}
theorem pe_gi {x : Str} {i : Int} {pos : Pos} (hg : Gl X x) (h : ∃ t, X.mg x = some (.int i t)) (hd : (x == ("__debug__" : Str)) = false := by decide) : PE X (.Name x pos) (tC (.int i)) := by
  obtain ⟨t, h⟩ := h
  exact pe_glob hg h ⟨t, rfl⟩ hd
theorem pe_gs {x z : Str} {pos : Pos} (hg : Gl X x) (h : ∃ t, X.mg x = some (.str z t)) (hd : (x == ("__debug__" : Str)) = false := by decide) : PE X (.Name x pos) (tC (.str z)) := by
  obtain ⟨t, h⟩ := h
  exact pe_glob hg h ⟨t, rfl⟩ hd
theorem pe_gr {x : Str} {a : Addr} {pos : Pos} (hg : Gl X x) (h : X.mg x = some (.ref a)) (hd : (x == ("__debug__" : Str)) = false := by decide) : PE X (.Name x pos) (tC (.ref a)) := pe_glob hg h rfl hd
theorem pe_bty {x : Str} (n : String) {pos : Pos} (hg : Gl X x) (h : X.mg x = none) (hv : bootBuiltins x = some (.type n)) (hn : x ≠ "__name__" := by decide) (hd : (x == ("__debug__" : Str)) = false := by decide) : PE X (.Name x pos) (tC (.ty n)) := pe_bltn hg h hv rfl hn hd
/-! ### int(..) by the kind of its argument -/
theorem call_intI : CallR X (.type "int") (fun xs H Q => ∃ i, xs = [.int i] ∧ Q (.int i) H) := fun pins s σ H xs us Q I r ⟨i, e, q⟩ => call_int1 pins s σ H xs us Q I r (.inl ⟨i, e, q⟩)
theorem call_intB : CallR X (.type "int") (fun xs H Q => ∃ k, xs = [.bl k] ∧ Q (.int (if k then 1 else 0)) H) := fun pins s σ H xs us Q I r ⟨k, e, q⟩ => call_int1 pins s σ H xs us Q I r (.inr ⟨k, e, q⟩)
end
/-! ### what stands in a heap, found by steps (the word "hp") -/
/-- all but the objects of S are as they were -/
def Fr (S : Addr → Prop) (H H' : Hp) : Prop := ∀ a o, ¬ S a → H a = some o → H' a = some o
theorem upd_old {H : Hp} {p a : Addr} {o u : HO} (n : H p = none) (h : H a = some o) : upd H p u a = some o := by rw [upd_ne (ne_of_none h n)]; exact h
theorem upd_oth {H : Hp} {p a : Addr} {o u : HO} (n : a ≠ p) (h : H a = some o) : upd H p u a = some o := by rw [upd_ne n]; exact h
theorem upd_oldN {H : Hp} {p a : Addr} {u : HO} (n : a ≠ p) (h : H a = none) : upd H p u a = none := by rw [upd_ne n]; exact h
theorem same_get {H H' : Hp} {a : Addr} {o : HO} (e : Same H H') (h : H a = some o) : H' a = some o := e a o h
theorem iteB {c : Bool} {A B : Prop} (h1 : c = true → A) (h2 : c = false → B) : if c = true then A else B := by
  cases c with
  | true => exact iteT (h1 rfl)
  | false => exact iteF (h2 rfl)
theorem Same.upd {H H' : Hp} {p : Addr} {u : HO} (e : Same H H') (n : H p = none) : Same H (upd H' p u) := fun a o h => by rw [upd_ne (ne_of_none h n)]; exact e a o h
theorem Same.new {H : Hp} {p : Addr} {u : HO} (n : H p = none) : Same H (L2.upd H p u) := Same.upd (Same.refl H) n

/-! ### an own class's operator with a built-in value on the right -/
/-- o op i, o an instance of C, i an int -/
def rOwnI (C : Addr) (sp : Sp) (E : XK) : R2 := fun x y H Q => ∃ a dx fs i, x = .ref a ∧ H a = some (.ins C dx fs) ∧ y = .int i ∧ sp [.ref a, .int i] H Q E
theorem op_ownI {X : Cx} {CX : CXT} {op : Operator} {C m r : Str} {k : Nat} {fd : FuncData} {ps : List Str} {sp : Sp} {E : XK}
    (cl : Cls X.K (gad C X.K)) (b : (Fx.bop C m r "int").ok X.K = true) (em : PySem.dunder op.info.2 = m) (er : PySem.dunderR op.info.2 = r)
    (F : FnOk X.prog X.w X.K X.mg X.base CX k (mad C m X.K) fd ps sp) (hr : Room k X.A) (hb : Binds X.K fd ps []) (hx : Passes CX X E) : OpR X (binaryOp op) (rOwnI (gad C X.K) sp E) := by
  intro pins s σ H x y v u Q I rx ry h
  obtain ⟨a, dx, fs, i, rfl, ea, rfl, q⟩ := h
  obtain rfl : v = Value.ref a := rx
  obtain ⟨t, rfl⟩ := ry
  obtain ⟨c1, c⟩ := He.ba b
  obtain ⟨c2, c⟩ := He.ba c
  obtain ⟨c3, c⟩ := He.ba c
  obtain ⟨c4, c⟩ := He.ba c
  obtain ⟨c5, c⟩ := He.ba c
  obtain ⟨c6, c7⟩ := He.ba c
  obtain ⟨fo, h5⟩ := Option.isSome_iff_exists.mp c5
  obtain ⟨ro, h6⟩ := Option.isSome_iff_exists.mp c6
  obtain ⟨mA, O, _⟩ := ins_get I.hok ea
  obtain ⟨od, J, _⟩ := O.look
  obtain ⟨m0, Fm⟩ := I.fr
  subst em er
  refine PySem.W.ksp_binT (T := "int") Fm I.ok.mod.kin J rfl c1 (He.eqO_ok c2) c3 (He.eqO_ok c4) (.inl rfl) h5 h6 (of_decide_eq_true c7) ?_
  refine thn (run_fn (us := [.ref a, .int i t]) (vs := [.ref a, .int i]) F hr hb .nil hx I (.cons rfl (.cons ⟨t, rfl⟩ .nil)) q) fun u s' hq => ?_
  obtain ⟨z, H', I', rz, qz⟩ := hq
  have fin : EP X pins σ Q u s' := ⟨z, H', I', rz, qz⟩
  cases z with
  | non => obtain rfl : u = Value.none := rz; exact fin
  | bl _ => obtain rfl : u = Value.bool _ := rz; exact fin
  | int _ => obtain ⟨t', rfl⟩ := rz; exact fin
  | str _ => obtain ⟨t', rfl⟩ := rz; exact fin
  | byt _ => obtain ⟨t', rfl⟩ := rz; exact fin
  | flt _ => obtain ⟨t', rfl⟩ := rz; exact fin
  | ref _ => obtain rfl : u = Value.ref _ := rz; exact fin
  | ty _ => obtain rfl : u = Value.type _ := rz; exact fin
end Hue

set_option Elab.async false
set_option linter.all false
set_option maxRecDepth 100000
set_option maxHeartbeats 4000000
namespace Hue
open PySem PySem.Spec PyProof.Rows L2
def top (i : Nat) : Stmt := PySem.Challenge.pw_huerounds_k02_bad_masks.main.body.getD i (.Pass ⟨0, 0, 0, 0⟩)
abbrev s_l_pool : Stmt := top 17
abbrev N_l_pool : List Str := ["_law_script", "_law_pool_here", "_law_mix", "_law_cell", "_law_number_here", "_law_k", "_law_drawn"]
abbrev P_l_pool : List Str := ["_law_script"]
theorem sc_l_pool : FnScope N_l_pool P_l_pool (defScope s_l_pool) := ⟨rfl, rfl, rfl, by decide +kernel, rfl, by decide +kernel, by decide +kernel⟩
abbrev s_l_take : Stmt := top 18
abbrev N_l_take : List Str := ["_law_pool_here", "_law_many"]
abbrev P_l_take : List Str := ["_law_pool_here", "_law_many"]
theorem sc_l_take : FnScope N_l_take P_l_take (defScope s_l_take) := ⟨rfl, rfl, rfl, by decide +kernel, rfl, by decide +kernel, by decide +kernel⟩
abbrev s_l_number : Stmt := top 19
abbrev N_l_number : List Str := ["_law_pool_here", "_law_size", "_law_number_here", "_law_k"]
abbrev P_l_number : List Str := ["_law_pool_here"]
theorem sc_l_number : FnScope N_l_number P_l_number (defScope s_l_number) := ⟨rfl, rfl, rfl, by decide +kernel, rfl, by decide +kernel, by decide +kernel⟩
abbrev s_l_raw : Stmt := top 20
abbrev N_l_raw : List Str := ["_law_pool_here", "_law_code", "_law_shown", "_law_keep"]
abbrev P_l_raw : List Str := ["_law_pool_here"]
theorem sc_l_raw : FnScope N_l_raw P_l_raw (defScope s_l_raw) := ⟨rfl, rfl, rfl, by decide +kernel, rfl, by decide +kernel, by decide +kernel⟩
abbrev s_l_is : Stmt := top 15
abbrev N_l_is : List Str := ["_law_x", "_law_due"]
abbrev P_l_is : List Str := ["_law_x", "_law_due"]
theorem sc_l_is : FnScope N_l_is P_l_is (defScope s_l_is) := ⟨rfl, rfl, rfl, by decide +kernel, rfl, by decide +kernel, by decide +kernel⟩
abbrev s_l_int : Stmt := top 16
abbrev N_l_int : List Str := ["_law_x"]
abbrev P_l_int : List Str := ["_law_x"]
theorem sc_l_int : FnScope N_l_int P_l_int (defScope s_l_int) := ⟨rfl, rfl, rfl, by decide +kernel, rfl, by decide +kernel, by decide +kernel⟩
abbrev s_Phase_init : Stmt := inClass (top 9) 0
abbrev N_Phase_init : List Str := ["self", "hue", "barrier", "visits", "pauses", "stand", "skips"]
abbrev P_Phase_init : List Str := ["self", "hue", "barrier", "visits", "pauses", "stand", "skips"]
theorem sc_Phase_init : FnScope N_Phase_init P_Phase_init (defScope s_Phase_init) := ⟨rfl, rfl, rfl, by decide +kernel, rfl, by decide +kernel, by decide +kernel⟩
abbrev s_Phase_looks : Stmt := inClass (top 9) 1
abbrev N_Phase_looks : List Str := ["self"]
abbrev P_Phase_looks : List Str := ["self"]
theorem sc_Phase_looks : FnScope N_Phase_looks P_Phase_looks (defScope s_Phase_looks) := ⟨rfl, rfl, rfl, by decide +kernel, rfl, by decide +kernel, by decide +kernel⟩
abbrev s_Phase_moves : Stmt := inClass (top 9) 2
abbrev N_Phase_moves : List Str := ["self"]
abbrev P_Phase_moves : List Str := ["self"]
theorem sc_Phase_moves : FnScope N_Phase_moves P_Phase_moves (defScope s_Phase_moves) := ⟨rfl, rfl, rfl, by decide +kernel, rfl, by decide +kernel, by decide +kernel⟩
abbrev s_Phase_bad : Stmt := inClass (top 9) 3
abbrev N_Phase_bad : List Str := ["self"]
abbrev P_Phase_bad : List Str := ["self"]
theorem sc_Phase_bad : FnScope N_Phase_bad P_Phase_bad (defScope s_Phase_bad) := ⟨rfl, rfl, rfl, by decide +kernel, rfl, by decide +kernel, by decide +kernel⟩
abbrev s_Ref_init : Stmt := inClass (top 13) 1
abbrev N_Ref_init : List Str := ["self", "place", "hue"]
abbrev P_Ref_init : List Str := ["self", "place", "hue"]
theorem sc_Ref_init : FnScope N_Ref_init P_Ref_init (defScope s_Ref_init) := ⟨rfl, rfl, rfl, by decide +kernel, rfl, by decide +kernel, by decide +kernel⟩
abbrev s_Ref_word : Stmt := inClass (top 13) 2
abbrev N_Ref_word : List Str := ["self"]
abbrev P_Ref_word : List Str := ["self"]
theorem sc_Ref_word : FnScope N_Ref_word P_Ref_word (defScope s_Ref_word) := ⟨rfl, rfl, rfl, by decide +kernel, rfl, by decide +kernel, by decide +kernel⟩
abbrev s_Ref_and : Stmt := inClass (top 13) 6
abbrev N_Ref_and : List Str := ["self", "mask"]
abbrev P_Ref_and : List Str := ["self", "mask"]
theorem sc_Ref_and : FnScope N_Ref_and P_Ref_and (defScope s_Ref_and) := ⟨rfl, rfl, rfl, by decide +kernel, rfl, by decide +kernel, by decide +kernel⟩
abbrev s_law : Stmt := top 21
abbrev N_law : List Str := ["_law_script", "_law_pool_here", "_law_row", "_law_place", "_law_phase", "_law_good", "_law_both"]
abbrev P_law : List Str := ["_law_script"]
theorem sc_law : FnScope N_law P_law (defScope s_law) := ⟨rfl, rfl, rfl, by decide +kernel, rfl, by decide +kernel, by decide +kernel⟩
def d_l_pool : DX := ⟨(gad "_law_pool"), "_law_pool", "_law_pool", s_l_pool, [], []⟩
def d_l_take : DX := ⟨(gad "_law_take"), "_law_take", "_law_take", s_l_take, [], []⟩
def d_l_number : DX := ⟨(gad "_law_number"), "_law_number", "_law_number", s_l_number, [], []⟩
def d_l_raw : DX := ⟨(gad "_law_raw"), "_law_raw", "_law_raw", s_l_raw, [], []⟩
def d_l_is : DX := ⟨(gad "_law_is"), "_law_is", "_law_is", s_l_is, [], []⟩
def d_l_int : DX := ⟨(gad "_law_int"), "_law_int", "_law_int", s_l_int, [], []⟩
def d_Phase_init : DX := ⟨(mad "Phase" "__init__"), "__init__", "Phase.__init__", s_Phase_init, [], [("barrier", .str "guarded"), ("visits", .bl false), ("pauses", .bl true), ("stand", .int (0)), ("skips", .bl false)]⟩
def d_Phase_looks : DX := ⟨(pad "property" "Phase" "looks"), "looks", "Phase.looks", s_Phase_looks, [], []⟩
def d_Phase_moves : DX := ⟨(pad "property" "Phase" "moves"), "moves", "Phase.moves", s_Phase_moves, [], []⟩
def d_Phase_bad : DX := ⟨(pad "property" "Phase" "bad"), "bad", "Phase.bad", s_Phase_bad, [], []⟩
def d_Ref_init : DX := ⟨(mad "Ref" "__init__"), "__init__", "Ref.__init__", s_Ref_init, [], []⟩
def d_Ref_word : DX := ⟨(pad "property" "Ref" "word"), "word", "Ref.word", s_Ref_word, [], []⟩
def d_Ref_and : DX := ⟨(mad "Ref" "__and__"), "__and__", "Ref.__and__", s_Ref_and, [], []⟩
def d_law : DX := ⟨(gad "law"), "law", "law", s_law, [], []⟩
def dsAll : List DX := [d_l_pool, d_l_take, d_l_number, d_l_raw, d_l_is, d_l_int, d_Phase_init, d_Phase_looks, d_Phase_moves, d_Phase_bad, d_Ref_init, d_Ref_word, d_Ref_and, d_law]
def faAll : List He.Fa := [.free "abs", .free "bool", .free "int", .free "isinstance", .free "len", .free "max", .free "range", .glo "_law_pool", .glo "_law_take", .glo "_law_number", .glo "_law_raw", .glo "_law_is", .glo "_law_int", .glo "law", .glo "BARRIERS", .int "MOST_HUE" 5, .int "MOST_STAND" 7, .int "HUES" 6, .glo "Phase", .cls "Phase", .noat "Phase" "hue", .noat "Phase" "barrier", .noat "Phase" "visits", .noat "Phase" "pauses", .noat "Phase" "stand", .noat "Phase" "skips", .mkr "Phase", .glo "Ref", .cls "Ref", .noat "Ref" "place", .noat "Ref" "hue", .mkr "Ref"]
def fxAll : List Fx := [.tup "BARRIERS" [.str "none", .str "follow", .str "plain", .str "guarded"], .prop "Phase" "looks", .prop "Phase" "moves", .prop "Phase" "bad", .prop "Ref" "word", .bop "Ref" "__and__" "__rand__" "int"]
structure Tx (K : PySem.W.Frag) (mg : Str → Option Value) : Prop where
  n_abs : mg "abs" = none
  n_bool : mg "bool" = none
  n_int : mg "int" = none
  n_isinstance : mg "isinstance" = none
  n_len : mg "len" = none
  n_max : mg "max" = none
  n_range : mg "range" = none
  g_l_pool : mg "_law_pool" = some (.ref (gad "_law_pool" K))
  g_l_take : mg "_law_take" = some (.ref (gad "_law_take" K))
  g_l_number : mg "_law_number" = some (.ref (gad "_law_number" K))
  g_l_raw : mg "_law_raw" = some (.ref (gad "_law_raw" K))
  g_l_is : mg "_law_is" = some (.ref (gad "_law_is" K))
  g_l_int : mg "_law_int" = some (.ref (gad "_law_int" K))
  g_law : mg "law" = some (.ref (gad "law" K))
  g_BARRIERS : mg "BARRIERS" = some (.ref (gad "BARRIERS" K))
  t_BARRIERS : SqTk K (gad "BARRIERS" K) [V.str "none", V.str "follow", V.str "plain", V.str "guarded"]
  g_MOST_HUE : ∃ t, mg "MOST_HUE" = some (.int 5 t)
  g_MOST_STAND : ∃ t, mg "MOST_STAND" = some (.int 7 t)
  g_HUES : ∃ t, mg "HUES" = some (.int 6 t)
  g_Phase : mg "Phase" = some (.ref (gad "Phase" K))
  c_Phase : Cls K (gad "Phase" K)
  na_Phase_hue : NoAttr K (gad "Phase" K) "hue"
  na_Phase_barrier : NoAttr K (gad "Phase" K) "barrier"
  na_Phase_visits : NoAttr K (gad "Phase" K) "visits"
  na_Phase_pauses : NoAttr K (gad "Phase" K) "pauses"
  na_Phase_stand : NoAttr K (gad "Phase" K) "stand"
  na_Phase_skips : NoAttr K (gad "Phase" K) "skips"
  mk_Phase : Mk K (gad "Phase" K) (mad "Phase" "__init__" K)
  p_Phase_looks : PropOf K (gad "Phase" K) "looks" (mad "Phase" "looks" K) (pad "property" "Phase" "looks" K)
  p_Phase_moves : PropOf K (gad "Phase" K) "moves" (mad "Phase" "moves" K) (pad "property" "Phase" "moves" K)
  p_Phase_bad : PropOf K (gad "Phase" K) "bad" (mad "Phase" "bad" K) (pad "property" "Phase" "bad" K)
  g_Ref : mg "Ref" = some (.ref (gad "Ref" K))
  c_Ref : Cls K (gad "Ref" K)
  na_Ref_place : NoAttr K (gad "Ref" K) "place"
  na_Ref_hue : NoAttr K (gad "Ref" K) "hue"
  mk_Ref : Mk K (gad "Ref" K) (mad "Ref" "__init__" K)
  p_Ref_word : PropOf K (gad "Ref" K) "word" (mad "Ref" "word" K) (pad "property" "Ref" "word" K)
  b_Ref_and : (Fx.bop "Ref" "__and__" "__rand__" "int").ok K = true
  F_l_pool : FunD K "_law_pool" "_law_pool" (defArgs s_l_pool) (defBody s_l_pool) (defScope s_l_pool) [] [] (gad "_law_pool" K) (fdD K (gad "_law_pool" K))
  F_l_take : FunD K "_law_take" "_law_take" (defArgs s_l_take) (defBody s_l_take) (defScope s_l_take) [] [] (gad "_law_take" K) (fdD K (gad "_law_take" K))
  F_l_number : FunD K "_law_number" "_law_number" (defArgs s_l_number) (defBody s_l_number) (defScope s_l_number) [] [] (gad "_law_number" K) (fdD K (gad "_law_number" K))
  F_l_raw : FunD K "_law_raw" "_law_raw" (defArgs s_l_raw) (defBody s_l_raw) (defScope s_l_raw) [] [] (gad "_law_raw" K) (fdD K (gad "_law_raw" K))
  F_l_is : FunD K "_law_is" "_law_is" (defArgs s_l_is) (defBody s_l_is) (defScope s_l_is) [] [] (gad "_law_is" K) (fdD K (gad "_law_is" K))
  F_l_int : FunD K "_law_int" "_law_int" (defArgs s_l_int) (defBody s_l_int) (defScope s_l_int) [] [] (gad "_law_int" K) (fdD K (gad "_law_int" K))
  F_Phase_init : FunD K "__init__" "Phase.__init__" (defArgs s_Phase_init) (defBody s_Phase_init) (defScope s_Phase_init) [] [("barrier", V.str "guarded"), ("visits", V.bl false), ("pauses", V.bl true), ("stand", V.int (0)), ("skips", V.bl false)] (mad "Phase" "__init__" K) (fdD K (mad "Phase" "__init__" K))
  F_Phase_looks : FunD K "looks" "Phase.looks" (defArgs s_Phase_looks) (defBody s_Phase_looks) (defScope s_Phase_looks) [] [] (pad "property" "Phase" "looks" K) (fdD K (pad "property" "Phase" "looks" K))
  F_Phase_moves : FunD K "moves" "Phase.moves" (defArgs s_Phase_moves) (defBody s_Phase_moves) (defScope s_Phase_moves) [] [] (pad "property" "Phase" "moves" K) (fdD K (pad "property" "Phase" "moves" K))
  F_Phase_bad : FunD K "bad" "Phase.bad" (defArgs s_Phase_bad) (defBody s_Phase_bad) (defScope s_Phase_bad) [] [] (pad "property" "Phase" "bad" K) (fdD K (pad "property" "Phase" "bad" K))
  F_Ref_init : FunD K "__init__" "Ref.__init__" (defArgs s_Ref_init) (defBody s_Ref_init) (defScope s_Ref_init) [] [] (mad "Ref" "__init__" K) (fdD K (mad "Ref" "__init__" K))
  F_Ref_word : FunD K "word" "Ref.word" (defArgs s_Ref_word) (defBody s_Ref_word) (defScope s_Ref_word) [] [] (pad "property" "Ref" "word" K) (fdD K (pad "property" "Ref" "word" K))
  F_Ref_and : FunD K "__and__" "Ref.__and__" (defArgs s_Ref_and) (defBody s_Ref_and) (defScope s_Ref_and) [] [] (mad "Ref" "__and__" K) (fdD K (mad "Ref" "__and__" K))
  F_law : FunD K "law" "law" (defArgs s_law) (defBody s_law) (defScope s_law) [] [] (gad "law" K) (fdD K (gad "law" K))
theorem Tx.of {K : PySem.W.Frag} {h : Heap} {mg : Str → Option Value} (X : K.In h) (G : h.Ns mainGlobals mg) (c : SaysX faAll fxAll dsAll K) : Tx K mg where
  n_abs := He.free_ok X G (c.fact 0 (f := .free "abs") rfl)
  n_bool := He.free_ok X G (c.fact 1 (f := .free "bool") rfl)
  n_int := He.free_ok X G (c.fact 2 (f := .free "int") rfl)
  n_isinstance := He.free_ok X G (c.fact 3 (f := .free "isinstance") rfl)
  n_len := He.free_ok X G (c.fact 4 (f := .free "len") rfl)
  n_max := He.free_ok X G (c.fact 5 (f := .free "max") rfl)
  n_range := He.free_ok X G (c.fact 6 (f := .free "range") rfl)
  g_l_pool := He.glo_ok X G (c.fact 7 (f := .glo "_law_pool") rfl)
  g_l_take := He.glo_ok X G (c.fact 8 (f := .glo "_law_take") rfl)
  g_l_number := He.glo_ok X G (c.fact 9 (f := .glo "_law_number") rfl)
  g_l_raw := He.glo_ok X G (c.fact 10 (f := .glo "_law_raw") rfl)
  g_l_is := He.glo_ok X G (c.fact 11 (f := .glo "_law_is") rfl)
  g_l_int := He.glo_ok X G (c.fact 12 (f := .glo "_law_int") rfl)
  g_law := He.glo_ok X G (c.fact 13 (f := .glo "law") rfl)
  g_BARRIERS := He.glo_ok X G (c.fact 14 (f := .glo "BARRIERS") rfl)
  t_BARRIERS := tup_ok (c.more 0 (f := .tup "BARRIERS" [.str "none", .str "follow", .str "plain", .str "guarded"]) rfl)
  g_MOST_HUE := He.int_ok X G (c.fact 15 (f := .int "MOST_HUE" 5) rfl)
  g_MOST_STAND := He.int_ok X G (c.fact 16 (f := .int "MOST_STAND" 7) rfl)
  g_HUES := He.int_ok X G (c.fact 17 (f := .int "HUES" 6) rfl)
  g_Phase := He.glo_ok X G (c.fact 18 (f := .glo "Phase") rfl)
  c_Phase := He.cls_ok (c.fact 19 (f := .cls "Phase") rfl)
  na_Phase_hue := He.noat_ok (c.fact 20 (f := .noat "Phase" "hue") rfl)
  na_Phase_barrier := He.noat_ok (c.fact 21 (f := .noat "Phase" "barrier") rfl)
  na_Phase_visits := He.noat_ok (c.fact 22 (f := .noat "Phase" "visits") rfl)
  na_Phase_pauses := He.noat_ok (c.fact 23 (f := .noat "Phase" "pauses") rfl)
  na_Phase_stand := He.noat_ok (c.fact 24 (f := .noat "Phase" "stand") rfl)
  na_Phase_skips := He.noat_ok (c.fact 25 (f := .noat "Phase" "skips") rfl)
  mk_Phase := He.mkr_ok (c.fact 26 (f := .mkr "Phase") rfl)
  p_Phase_looks := prop_ok (c.more 1 (f := .prop "Phase" "looks") rfl)
  p_Phase_moves := prop_ok (c.more 2 (f := .prop "Phase" "moves") rfl)
  p_Phase_bad := prop_ok (c.more 3 (f := .prop "Phase" "bad") rfl)
  g_Ref := He.glo_ok X G (c.fact 27 (f := .glo "Ref") rfl)
  c_Ref := He.cls_ok (c.fact 28 (f := .cls "Ref") rfl)
  na_Ref_place := He.noat_ok (c.fact 29 (f := .noat "Ref" "place") rfl)
  na_Ref_hue := He.noat_ok (c.fact 30 (f := .noat "Ref" "hue") rfl)
  mk_Ref := He.mkr_ok (c.fact 31 (f := .mkr "Ref") rfl)
  p_Ref_word := prop_ok (c.more 4 (f := .prop "Ref" "word") rfl)
  b_Ref_and := (c.more 5 (f := .bop "Ref" "__and__" "__rand__" "int") rfl)
  F_l_pool := c.fd 0 (d := d_l_pool) rfl
  F_l_take := c.fd 1 (d := d_l_take) rfl
  F_l_number := c.fd 2 (d := d_l_number) rfl
  F_l_raw := c.fd 3 (d := d_l_raw) rfl
  F_l_is := c.fd 4 (d := d_l_is) rfl
  F_l_int := c.fd 5 (d := d_l_int) rfl
  F_Phase_init := c.fd 6 (d := d_Phase_init) rfl
  F_Phase_looks := c.fd 7 (d := d_Phase_looks) rfl
  F_Phase_moves := c.fd 8 (d := d_Phase_moves) rfl
  F_Phase_bad := c.fd 9 (d := d_Phase_bad) rfl
  F_Ref_init := c.fd 10 (d := d_Ref_init) rfl
  F_Ref_word := c.fd 11 (d := d_Ref_word) rfl
  F_Ref_and := c.fd 12 (d := d_Ref_and) rfl
  F_law := c.fd 13 (d := d_law) rfl
theorem bd_l_pool {K : PySem.W.Frag} {mg : Str → Option Value} (T : Tx K mg) : Binds K (fdD K (gad "_law_pool" K)) P_l_pool [] := T.F_l_pool.bindsN fun _ _ _ _ _ _ us hl => match us, hl with | [_], _ => rfl
theorem bd_l_take {K : PySem.W.Frag} {mg : Str → Option Value} (T : Tx K mg) : Binds K (fdD K (gad "_law_take" K)) P_l_take [] := T.F_l_take.bindsN fun _ _ _ _ _ _ us hl => match us, hl with | [_, _], _ => rfl
theorem bd_l_number {K : PySem.W.Frag} {mg : Str → Option Value} (T : Tx K mg) : Binds K (fdD K (gad "_law_number" K)) P_l_number [] := T.F_l_number.bindsN fun _ _ _ _ _ _ us hl => match us, hl with | [_], _ => rfl
theorem bd_l_raw {K : PySem.W.Frag} {mg : Str → Option Value} (T : Tx K mg) : Binds K (fdD K (gad "_law_raw" K)) P_l_raw [] := T.F_l_raw.bindsN fun _ _ _ _ _ _ us hl => match us, hl with | [_], _ => rfl
theorem bd_l_is {K : PySem.W.Frag} {mg : Str → Option Value} (T : Tx K mg) : Binds K (fdD K (gad "_law_is" K)) P_l_is [] := T.F_l_is.bindsN fun _ _ _ _ _ _ us hl => match us, hl with | [_, _], _ => rfl
theorem bd_l_int {K : PySem.W.Frag} {mg : Str → Option Value} (T : Tx K mg) : Binds K (fdD K (gad "_law_int" K)) P_l_int [] := T.F_l_int.bindsN fun _ _ _ _ _ _ us hl => match us, hl with | [_], _ => rfl
theorem bd_Phase_looks {K : PySem.W.Frag} {mg : Str → Option Value} (T : Tx K mg) : Binds K (fdD K (pad "property" "Phase" "looks" K)) P_Phase_looks [] := T.F_Phase_looks.bindsN fun _ _ _ _ _ _ us hl => match us, hl with | [_], _ => rfl
theorem bd_Phase_moves {K : PySem.W.Frag} {mg : Str → Option Value} (T : Tx K mg) : Binds K (fdD K (pad "property" "Phase" "moves" K)) P_Phase_moves [] := T.F_Phase_moves.bindsN fun _ _ _ _ _ _ us hl => match us, hl with | [_], _ => rfl
theorem bd_Phase_bad {K : PySem.W.Frag} {mg : Str → Option Value} (T : Tx K mg) : Binds K (fdD K (pad "property" "Phase" "bad" K)) P_Phase_bad [] := T.F_Phase_bad.bindsN fun _ _ _ _ _ _ us hl => match us, hl with | [_], _ => rfl
theorem bd_Ref_init {K : PySem.W.Frag} {mg : Str → Option Value} (T : Tx K mg) : Binds K (fdD K (mad "Ref" "__init__" K)) P_Ref_init [] := T.F_Ref_init.bindsN fun _ _ _ _ _ _ us hl => match us, hl with | [_, _, _], _ => rfl
theorem bd_Ref_word {K : PySem.W.Frag} {mg : Str → Option Value} (T : Tx K mg) : Binds K (fdD K (pad "property" "Ref" "word" K)) P_Ref_word [] := T.F_Ref_word.bindsN fun _ _ _ _ _ _ us hl => match us, hl with | [_], _ => rfl
theorem bd_Ref_and {K : PySem.W.Frag} {mg : Str → Option Value} (T : Tx K mg) : Binds K (fdD K (mad "Ref" "__and__" K)) P_Ref_and [] := T.F_Ref_and.bindsN fun _ _ _ _ _ _ us hl => match us, hl with | [_, _], _ => rfl
theorem bd_law {K : PySem.W.Frag} {mg : Str → Option Value} (T : Tx K mg) : Binds K (fdD K (gad "law" K)) P_law [] := T.F_law.bindsN fun _ _ _ _ _ _ us hl => match us, hl with | [_], _ => rfl
theorem kb_Phase_barrier_visits_pauses_stand_skips {K : PySem.W.Frag} {mg : Str → Option Value} (T : Tx K mg) : ∃ g, KBn K (fdD K (mad "Phase" "__init__" K)) P_Phase_init 2 ["barrier", "visits", "pauses", "stand", "skips"] g (fun us zs => us ++ ((zs.drop 0).take 1 ++ ((zs.drop 1).take 1 ++ ((zs.drop 2).take 1 ++ ((zs.drop 3).take 1 ++ ((zs.drop 4).take 1)))))) := by
  obtain ⟨mv, h⟩ := FunD.kbinds0 (ps := P_Phase_init) T.F_Phase_init 2 ["barrier", "visits", "pauses", "stand", "skips"] ([] : List (Str × V)) (fun us mz zs => us ++ ((zs.drop 0).take 1 ++ ((zs.drop 1).take 1 ++ ((zs.drop 2).take 1 ++ ((zs.drop 3).take 1 ++ ((zs.drop 4).take 1)))))) (by simp) (by simp) (fun r1 r2 r3 => Vals.append r1 (Vals.append (Vals.take 1 (Vals.drop 0 r3)) (Vals.append (Vals.take 1 (Vals.drop 1 r3)) (Vals.append (Vals.take 1 (Vals.drop 2 r3)) (Vals.append (Vals.take 1 (Vals.drop 3 r3)) (Vals.take 1 (Vals.drop 4 r3)))))))
    (fun D doc pm an cdv ct us mv ws h1 h2 h3 => match us, mv, ws, h1, h2, h3 with | [_, _], [], [_, _, _, _, _], _, _, _ => rfl)
  exact ⟨_, h⟩
local macro_rules | `(tactic| walk_at "hp") => `(tactic| first
  | assumption
  | exact upd_same
  | (refine upd_old (by assumption) ?_; walk_at "hp")
  | (refine upd_oth (by assumption) ?_; walk_at "hp")
  | (refine same_get (by assumption) ?_; walk_at "hp")
  | (refine Fl.get (by assumption) (by assumption) ?_; walk_at "hp"))
local macro_rules | `(tactic| walk_at "seq") => `(tactic| first
  | assumption
  | exact T.t_BARRIERS _
  | exact SqL.of (by walk_at "hp")
  | exact SqT.of (by walk_at "hp"))
local macro_rules | `(tactic| walk_at "len") => `(tactic| first
  | exact Or.inl (by walk_at "seq")
  | exact Or.inr (by walk_at "seq"))
local macro_rules | `(tactic| walk_at "at") => `(tactic| first
  | rfl
  | assumption)

/-! ### drawn numbers -/
/-- all but l stands as it stood -/
def Fl (l : Addr) (H H' : Hp) : Prop := ∀ a o, a ≠ l → H a = some o → H' a = some o
theorem Fl.refl (l : Addr) (H : Hp) : Fl l H H := fun _ _ _ h => h
theorem Fl.trans {l : Addr} {H H1 H2 : Hp} (a : Fl l H H1) (b : Fl l H1 H2) : Fl l H H2 := fun c o n h => b c o n (a c o n h)
theorem Fl.cell {l : Addr} {H : Hp} {o : HO} : Fl l H (L2.upd H l o) := fun _ _ n h => upd_oth n h
theorem Fl.same {l : Addr} {H H' : Hp} (e : Same H H') : Fl l H H' := fun a o _ h => e a o h
theorem Fl.new {l p : Addr} {H : Hp} {o : HO} (n : H p = none) : Fl l H (L2.upd H p o) := fun _ _ _ h => upd_old n h
theorem Fl.add {l p : Addr} {H H' : Hp} {o : HO} (e : Fl l H H') (n : H' p = none) : Fl l H (L2.upd H' p o) := e.trans (Fl.new n)
theorem Fl.put {l : Addr} {H H' : Hp} {o : HO} (e : Fl l H H') : Fl l H (L2.upd H' l o) := e.trans Fl.cell
theorem Fl.get {l a : Addr} {H H' : Hp} {o : HO} (e : Fl l H H') (n : a ≠ l) (h : H a = some o) : H' a = some o := e a o n h
theorem Fl.free {l p : Addr} {H H' : Hp} (e : Fl l H H') (n : p ≠ l) (h : H' p = none) : H p = none := by
  cases q : H p with
  | none => rfl
  | some o => rw [e p o n q] at h; cases h
theorem Fl.seq {K : PySem.W.Frag} {l a : Addr} {H H' : Hp} {xs : List V} (e : Fl l H H') (n : a ≠ l) (h : SqL K H a xs) : SqL K H' a xs := by
  rcases h with (h | ⟨o, h⟩) | h
  · exact .inl (.inl (e _ _ n h))
  · exact .inl (.inr ⟨o, e _ _ n h⟩)
  · exact .inr h
/-- a pool of drawn numbers stands at l -/
def PoolAt (H : Hp) (l : Addr) : Prop := ∃ ns : List Int, H l = some (.lst (ns.map V.int)) ∧ ns.length ≤ 5000
theorem PoolAt.upd {H : Hp} {l p : Addr} {o : HO} (h : PoolAt H l) (n : H p = none) : PoolAt (L2.upd H p o) l := by
  obtain ⟨ns, h1, h2⟩ := h
  exact ⟨ns, upd_old n h1, h2⟩
theorem PoolAt.ne {H : Hp} {l p : Addr} (h : PoolAt H l) (n : H p = none) : p ≠ l := by
  obtain ⟨ns, h1, _⟩ := h
  exact (ne_of_none h1 n).symm
/-- a pool drawn from: a number below m, l alone is changed -/
def spPool (K : PySem.W.Frag) : Sp := fun vs H Q _ => ∃ (a : Addr) (ns : List Int), vs = [.ref a] ∧ SqL K H a (ns.map V.int) ∧ ns.length ≤ 63 ∧
  ∀ p H', H p = none → Same H H' → PoolAt H' p → Q (.ref p) H'
def spTake : Sp := fun vs H Q _ => ∃ (l : Addr) (m : Int), vs = [.ref l, .int m] ∧ PoolAt H l ∧ 0 < m ∧
  ∀ v H', 0 ≤ v → v < m → Fl l H H' → PoolAt H' l → Q (.int v) H'
def spNumber : Sp := fun vs H Q _ => ∃ (l : Addr), vs = [.ref l] ∧ PoolAt H l ∧ ∀ v H', 0 ≤ v → v.toNat < 2 ^ 200 → Fl l H H' → PoolAt H' l → Q (.int v) H'
section
variable {P : Program} {w : World} {K : PySem.W.Frag} {mg : Str → Option Value} {base : Heap}
theorem ok_l_pool (T : Tx K mg) : FnOk P w K mg base CX0 1 (gad "_law_pool" K) (fdD K (gad "_law_pool" K)) P_l_pool (spPool K) := by
  refine T.F_l_pool.ok sc_l_pool (fun vs H Q E h => ?_) (fun cdv A outer s H vs Q E hr h => ?_)
  · obtain ⟨a, ns, rfl, _⟩ := h; rfl
  · obtain ⟨a, ns, rfl, hS, hlen, k⟩ := h
    refine ⟨_, PSs.nox ((pss_cons (ps_set (i := 1) sc_l_pool.nd rfl (Or.inl rfl) (pe_lst pa_nil))
      (pss_cons (ps_set (i := 2) sc_l_pool.nd rfl (Or.inl rfl) pe_int)
      (pss_cons (ps_for PassesOwn.never rfl (pi_list (pv 0)) (pg_name (i := 3) sc_l_pool.nd rfl (Or.inl rfl)) (pss_cons (ps_set (i := 4) sc_l_pool.nd rfl (Or.inl rfl) (pe_callB call_abs (by rfl) T.n_abs (by decide +kernel) (pa_cons (pe_callTy call_intI (by rfl) T.n_int (by decide +kernel) (pa_cons (pv 3) pa_nil)) pa_nil)))
      (pss_cons (ps_set (i := 2) sc_l_pool.nd rfl (Or.inl rfl) (pe_op op_mod (pe_callTy call_intI (by rfl) T.n_int (by decide +kernel) (pa_cons (pe_op op_add (pe_op op_mul (pv 2) pe_int) (pe_callTy call_intI (by rfl) T.n_int (by decide +kernel) (pa_cons (pv 3) pa_nil))) pa_nil)) pe_int))
      (pss_one (ps_if (pt_cmpR op_ge (pv 4) (pe_op op_pow pe_int pe_int) (nomark _)) (pss_one (ps_for PassesOwn.never rfl (pi_range1 (by rfl) T.n_range (pa_cons pe_int pa_nil)) (pg_name (i := 5) sc_l_pool.nd rfl (Or.inl rfl)) (pss_one (ps_if (pt_cmpR op_gt (pv 4) pe_int (nomark _)) (pss_cons (ps_expr (pe_bm PySem.F.plainAttrs_list PySem.F.slot_list_append PySem.F.type_list_append mt_append (pv 1) (pa_cons (pe_op op_mod (pe_callTy call_intI (by rfl) T.n_int (by decide +kernel) (pa_cons (pv 4) pa_nil)) pe_int) pa_nil)))
      (pss_one (ps_set (i := 4) sc_l_pool.nd rfl (Or.inl rfl) (pe_op op_fdiv (pv 4) pe_int)))) pss_nil)))) (pss_one (ps_for PassesOwn.never rfl (pi_range1 (by rfl) T.n_range (pa_cons pe_int pa_nil)) (pg_name (i := 5) sc_l_pool.nd rfl (Or.inl rfl)) (pss_cons (ps_set (i := 6) sc_l_pool.nd rfl (Or.inl rfl) (pe_op op_mod (pe_callTy call_intI (by rfl) T.n_int (by decide +kernel) (pa_cons (pe_op op_add (pe_op op_add (pe_op op_add (pe_op op_mul (pv 4) pe_int) (pe_op op_mul (pv 5) pe_int)) (pe_op op_mul pe_int (pe_callTy call_intB (by rfl) T.n_int (by decide +kernel) (pa_cons (pe_cmpR op_lt (pv 3) pe_int (nomark _)) pa_nil)))) pe_int) pa_nil)) pe_int))
      (pss_one (ps_expr (pe_bm PySem.F.plainAttrs_list PySem.F.slot_list_append PySem.F.type_list_append mt_append (pv 1) (pa_cons (pe_op op_mod (pe_callTy call_intI (by rfl) T.n_int (by decide +kernel) (pa_cons (pe_op op_mul (pv 6) (pv 6)) pa_nil)) pe_int) pa_nil))))))))))))
      (pss_cons (ps_for PassesOwn.never rfl (pi_range1 (by rfl) T.n_range (pa_cons (pe_op op_mul pe_int (pe_callTy call_intB (by rfl) T.n_int (by decide +kernel) (pa_cons (pe_cmpR op_gt (pe_callB call_len_seq (by rfl) T.n_len (by decide +kernel) (pa_cons (pv 0) pa_nil)) pe_int (nomark _)) pa_nil))) pa_nil)) (pg_name (i := 5) sc_l_pool.nd rfl (Or.inl rfl)) (pss_cons (ps_set (i := 2) sc_l_pool.nd rfl (Or.inl rfl) (pe_op op_mod (pe_callTy call_intI (by rfl) T.n_int (by decide +kernel) (pa_cons (pe_op op_add (pe_op op_mul (pv 2) pe_int) pe_int) pa_nil)) pe_int))
      (pss_one (ps_expr (pe_bm PySem.F.plainAttrs_list PySem.F.slot_list_append PySem.F.type_list_append mt_append (pv 1) (pa_cons (pe_op op_mod (pe_callTy call_intI (by rfl) T.n_int (by decide +kernel) (pa_cons (pe_op op_fdiv (pv 2) pe_int) pa_nil)) pe_int) pa_nil))))))
      (pss_one (ps_ret (pv 1)))))))), ?_⟩
    refine ⟨by decide, fun l nl => ?_⟩
    refine ⟨_, rfl, a, rfl, ⟨_, (Same.new nl).seq hS⟩, for_list (K := K) (a := a) (xs := ns.map V.int)
      (fun i σ H' => ∃ (qs : List Int) (mix : Int) (c n q d : Option V), σ = [some (.ref a), some (.ref l), some (.int mix), c, n, q, d] ∧ Same H H' ∧ H' l = some (.lst (qs.map V.int)) ∧ qs.length ≤ 60 * i)
      ⟨[], 7, none, none, none, none, rfl, Same.new nl, upd_same, Nat.zero_le _⟩ (fun i σ H' _ ⟨_, _, _, _, _, _, _, S, _⟩ => S.seq hS) ?_ ?_⟩
    · rintro i y σ H1 hi ⟨qs, mix, c, n, q, d, rfl, S, hl, hz⟩
      have hi63 : i < 63 := by
        have z := (List.getElem?_eq_some_iff.mp hi).1
        rw [List.length_map] at z
        omega
      obtain ⟨u, rfl⟩ : ∃ u, y = V.int u := by
        rw [List.getElem?_map] at hi
        cases e : ns[i]? with
        | none => rw [e] at hi; cases hi
        | some u => rw [e] at hi; exact ⟨u, (Option.some.inj hi).symm⟩
      refine ⟨_, rfl, _, rfl, _, rfl, _, rfl, _, _, rfl, rfl, (.inr ⟨by decide, by decide⟩), _, rfl, _, rfl, _, _, rfl, rfl, _, rfl, _, _, rfl, rfl, (show (0 : Int) < 2147483647 by decide), _, rfl, _, _, rfl, rfl, ⟨by decide, by decide, by decide⟩, _, _, rfl, rfl, _, rfl, ?_⟩
      refine iteB (fun _ => ?_) (fun _ => ?_)
      · refine ⟨60, rfl, by decide, by decide, for_range (n := 60)
          (fun j σ H' => ∃ (qs : List Int) (mix n : Int) (c q d : Option V), σ = [some (.ref a), some (.ref l), some (.int mix), c, some (.int n), q, d] ∧ Same H H' ∧ H' l = some (.lst (qs.map V.int)) ∧ qs.length ≤ 60 * i + j)
          ⟨qs, _, _, _, _, _, rfl, S, hl, hz⟩ ?_ ?_⟩
        · rintro j σ H2 hj ⟨qs, mix, n, c, q, d, rfl, S, hl, hz⟩
          refine ⟨_, rfl, _, _, rfl, rfl, _, rfl, ?_⟩
          refine iteB (fun _ => ?_) (fun _ => ?_)
          · refine ⟨_, rfl, .inl ⟨rfl, _, SqL.of hl⟩, _, rfl, _, rfl, _, _, rfl, rfl, (show (0 : Int) < 1000003 by decide), _, _, _, rfl, rfl, hl, (by rw [List.length_map]; exact Nat.lt_of_le_of_lt (show qs.length ≤ 4000 by omega) (by decide)), _, rfl, _, _, rfl, rfl, ⟨by decide, by decide⟩, ?_⟩
            refine ⟨qs ++ [n % 1000003], _, _, _, _, _, rfl, fun b o e => ?_, by rw [upd_same, List.map_append]; rfl, by rw [List.length_append, List.length_singleton]; omega⟩
            rw [upd_ne (ne_of_none e nl)]
            exact S b o e
          · exact ⟨qs, _, _, _, _, _, rfl, S, hl, by omega⟩
        · rintro σ H2 ⟨qs, mix, n, c, q, d, rfl, S, hl, hz⟩
          exact ⟨qs, _, _, _, _, _, rfl, S, hl, by omega⟩
      · refine ⟨3, rfl, by decide, by decide, for_range (n := 3)
          (fun j σ H' => ∃ (qs : List Int) (mix n u : Int) (q d : Option V), σ = [some (.ref a), some (.ref l), some (.int mix), some (.int u), some (.int n), q, d] ∧ Same H H' ∧ H' l = some (.lst (qs.map V.int)) ∧ qs.length ≤ 60 * i + j)
          ⟨qs, _, _, _, _, _, rfl, S, hl, hz⟩ ?_ ?_⟩
        · rintro j σ H2 hj ⟨qs, mix, n, u, q, d, rfl, S, hl, hz⟩
          refine ⟨_, rfl, _, _, rfl, rfl, (.inr ⟨by decide, by decide⟩), _, rfl, _, _, rfl, rfl, (.inr ⟨by decide, by decide⟩), _, _, rfl, rfl, _, rfl, _, _, rfl, rfl, _, rfl, _, _, rfl, rfl, (.inl ⟨by decide, by decide⟩), _, _, rfl, rfl, _, _, rfl, rfl, _, rfl, _, _, rfl, rfl, (show (0 : Int) < 2147483647 by decide), _, rfl, .inl ⟨rfl, _, SqL.of hl⟩, _, rfl, _, rfl, _, _, rfl, rfl, .inl ?_, _, rfl, _, _, rfl, rfl, (show (0 : Int) < 1000003 by decide), _, _, _, rfl, rfl, hl, (by rw [List.length_map]; exact Nat.lt_of_le_of_lt (show qs.length ≤ 4000 by omega) (by decide)), ?_⟩
          · constructor <;> omega
          · refine ⟨qs ++ [_], _, _, _, _, _, rfl, fun b o e => ?_, by rw [upd_same, List.map_append]; rfl, by rw [List.length_append, List.length_singleton]; omega⟩
            rw [upd_ne (ne_of_none e nl)]
            exact S b o e
        · rintro σ H2 ⟨qs, mix, n, u, q, d, rfl, S, hl, hz⟩
          exact ⟨qs, _, _, _, _, _, rfl, S, hl, by omega⟩
    · rintro σ H1 ⟨qs, mix, c, n, q, d, rfl, S, hl, hz⟩
      rw [List.length_map] at hz
      refine ⟨_, rfl, _, _, rfl, .inl (S.seq hS), _, _, rfl, rfl, _, rfl, _, _, rfl, rfl, (.inl ⟨by decide, by decide⟩), ?_⟩
      refine ⟨_, rfl, by split <;> decide, by split <;> decide, for_range (n := _)
          (fun j σ H' => ∃ (qs : List Int) (mix : Int) (c n q d : Option V), σ = [some (.ref a), some (.ref l), some (.int mix), c, n, q, d] ∧ Same H H' ∧ H' l = some (.lst (qs.map V.int)) ∧ qs.length ≤ 4000 + j)
          ⟨qs, _, _, _, _, _, rfl, S, hl, by omega⟩ ?_ ?_⟩
      · rintro j σ H2 hj ⟨qs, mix, c, n, q, d, rfl, S, hl, hz⟩
        have hj2 : j < 240 := by
          revert hj
          split <;> omega
        refine ⟨_, rfl, _, _, rfl, rfl, (.inr ⟨by decide, by decide⟩), _, _, rfl, rfl, _, rfl, _, _, rfl, rfl, (show (0 : Int) < 2147483647 by decide), _, rfl, .inl ⟨rfl, _, SqL.of hl⟩, _, rfl, _, _, rfl, rfl, ⟨by decide, by decide⟩, _, rfl, _, _, rfl, rfl, (show (0 : Int) < 1000003 by decide), _, _, _, rfl, rfl, hl, (by rw [List.length_map]; exact Nat.lt_of_le_of_lt (show qs.length ≤ 5000 by omega) (by decide)), ?_⟩
        refine ⟨qs ++ [_], _, _, _, _, _, rfl, fun b o e => ?_, by rw [upd_same, List.map_append]; rfl, by rw [List.length_append, List.length_singleton]; omega⟩
        rw [upd_ne (ne_of_none e nl)]
        exact S b o e
      · rintro σ H2 ⟨qs, mix, c, n, q, d, rfl, S, hl, hz⟩
        refine ⟨_, rfl, k l H2 nl S ⟨qs, hl, ?_⟩⟩
        revert hz
        split <;> (simp only [Int.mul_one, Int.mul_zero]; intro hz; omega)
theorem seq0 {n : Nat} {m : Nat} (h : n = m + 1) : seqIndex? 0 n = some 0 := by
  subst h
  unfold seqIndex?
  simp
  try omega
theorem ok_l_take (T : Tx K mg) : FnOk P w K mg base CX0 1 (gad "_law_take" K) (fdD K (gad "_law_take" K)) P_l_take spTake := by
  refine T.F_l_take.ok sc_l_take (fun vs H Q E h => ?_) (fun cdv A outer s H vs Q E hr h => ?_)
  · obtain ⟨l, m, rfl, _⟩ := h; rfl
  · obtain ⟨l, m, rfl, ⟨ns, hl, hz⟩, hm, k⟩ := h
    refine ⟨_, PSs.nox ((pss_cons (ps_if (pt_cmpR op_eq (pe_callB call_len_seq (by rfl) T.n_len (by decide +kernel) (pa_cons (pv 0) pa_nil)) pe_int (nomark _)) (pss_one (ps_ret pe_int)) pss_nil)
      (pss_one (ps_ret (pe_op op_mod (pe_callTy call_intI (by rfl) T.n_int (by decide +kernel) (pa_cons (pe_bm PySem.F.plainAttrs_list PySem.F.slot_list_pop PySem.F.type_list_pop mt_popAt (pv 0) (pa_cons pe_int pa_nil)) pa_nil)) (pv 1)))))), ?_⟩
    refine ⟨_, rfl, _, _, rfl, (by walk_at "len"), rfl, _, rfl, ?_⟩
    cases ns with
    | nil =>
      refine iteT ?_
      exact k 0 H (Int.le_refl _) hm (Fl.refl _ _) ⟨[], hl, hz⟩
    | cons n t =>
      refine iteB (fun c => ?_) (fun _ => ?_)
      · have c1 := of_decide_eq_true c
        injection c1 with c2
        simp only [List.map_cons, List.length_cons] at c2
        omega
      · refine ⟨_, rfl, .inl ⟨rfl, _, SqL.of hl⟩, _, _, _, 0, _, rfl, rfl, hl, by decide, by decide, seq0 (m := t.length) (by simp), rfl, _, rfl, _, rfl, _, _, rfl, rfl, hm, ?_⟩
        exact k _ _ (Int.emod_nonneg _ (by omega)) (Int.emod_lt_of_pos _ hm) Fl.cell ⟨t, upd_same, by simp only [List.length_cons] at hz; omega⟩
theorem ok_l_number (T : Tx K mg) : FnOk P w K mg base CX0 3 (gad "_law_number" K) (fdD K (gad "_law_number" K)) P_l_number spNumber := by
  refine T.F_l_number.ok sc_l_number (fun vs H Q E h => ?_) (fun cdv A outer s H vs Q E hr h => ?_)
  · obtain ⟨l, rfl, _⟩ := h; rfl
  · obtain ⟨l, rfl, hP, k⟩ := h
    refine ⟨_, PSs.nox ((pss_cons (ps_set (i := 1) sc_l_number.nd rfl (Or.inl rfl) (pe_call (ok_l_take T) (hr.mono (by decide)) rfl T.g_l_take T.F_l_take.kp (bd_l_take T) .nil pass0 (pa_cons (pv 0) (pa_cons pe_int pa_nil))))
      (pss_cons (ps_if (pt_cmpR op_eq (pv 1) pe_int (nomark _)) (pss_one (ps_ret (pe_call (ok_l_take T) (hr.mono (by decide)) rfl T.g_l_take T.F_l_take.kp (bd_l_take T) .nil pass0 (pa_cons (pv 0) (pa_cons pe_int pa_nil))))) pss_nil)
      (pss_cons (ps_set (i := 2) sc_l_number.nd rfl (Or.inl rfl) pe_int)
      (pss_cons (ps_for PassesOwn.never rfl (pi_range1 (by rfl) T.n_range (pa_cons (pe_op op_mul pe_int (pv 1)) pa_nil)) (pg_name (i := 3) sc_l_number.nd rfl (Or.inl rfl)) (pss_one (ps_set (i := 2) sc_l_number.nd rfl (Or.inl rfl) (pe_op op_add (pe_op op_mul (pv 2) pe_int) (pe_call (ok_l_take T) (hr.mono (by decide)) rfl T.g_l_take T.F_l_take.kp (bd_l_take T) .nil pass0 (pa_cons (pv 0) (pa_cons pe_int pa_nil)))))))
      (pss_one (ps_ret (pv 2)))))))), ?_⟩
    refine ⟨_, rfl, l, 4, rfl, hP, by decide, fun v H1 v0 v1 o1 P1 => ?_⟩
    refine ⟨_, rfl, rfl, _, rfl, ?_⟩
    refine iteB (fun c => ?_) (fun _ => ?_)
    · refine ⟨_, rfl, l, 8, rfl, P1, by decide, fun v2 H2 v20 v21 o2 P2 => ?_⟩
      exact k _ _ v20 (Nat.lt_of_lt_of_le (show v2.toNat < 8 by omega) (by decide)) (o1.trans o2) P2
    · refine ⟨_, rfl, _, _, rfl, rfl, (.inl ⟨by decide, by decide⟩), ?_⟩
      refine ⟨_, rfl, by omega, by omega, for_range (n := _)
        (fun j σ H' => ∃ (n : Int) (q : Option V), σ = [some (.ref l), some (.int v), some (.int n), q] ∧ 0 ≤ n ∧ n.toNat + 1 ≤ 1000003 ^ j ∧ Fl l H H' ∧ PoolAt H' l)
        ⟨0, _, rfl, Int.le_refl _, by decide, o1, P1⟩ ?_ ?_⟩
      · rintro j σ H2 hj ⟨n, q, rfl, n0, n1, o2, P2⟩
        refine ⟨_, rfl, _, _, rfl, rfl, (.inr ⟨by decide, by decide⟩), _, rfl, l, 1000003, rfl, P2, by decide, fun v3 H3 v30 v31 o3 P3 => ?_⟩
        refine ⟨_, _, rfl, rfl, ?_⟩
        exact ⟨_, _, rfl, by omega, by rw [Nat.pow_succ]; omega, o2.trans o3, P3⟩
      · rintro σ H2 ⟨n, q, rfl, n0, n1, o2, P2⟩
        refine ⟨_, rfl, k _ _ n0 (Nat.lt_of_lt_of_le n1 (Nat.le_trans (Nat.pow_le_pow_right (by decide) (show _ ≤ 9 by omega)) (by decide))) o2 P2⟩
end

/-! ### phases -/
inductive Bar where
  | none | follow | plain | guarded
  deriving DecidableEq
def Bar.s : Bar → Str
  | .none => "none"
  | .follow => "follow"
  | .plain => "plain"
  | .guarded => "guarded"
def barAt (i : Int) : Bar := if i = 0 then .none else if i = 1 then .follow else if i = 2 then .plain else .guarded
structure Ph where
  hue : Int
  bar : Bar
  vis : Bool
  pau : Bool
  std : Int
  skp : Bool
  deriving DecidableEq
structure Ph.Ok (r : Ph) : Prop where
  h0 : 0 ≤ r.hue
  h1 : r.hue ≤ 5
  s0 : 0 ≤ r.std
  s1 : r.std ≤ 7
/-- the fields as values: a row -/
def Ph.vs (r : Ph) : List V := [.int r.hue, .str r.bar.s, .bl r.vis, .bl r.pau, .int r.std, .bl r.skp]
abbrev barVs : List V := [V.str "none", V.str "follow", V.str "plain", V.str "guarded"]
theorem bar_in (b : Bar) : inV (.str b.s) barVs = true := by cases b <;> decide +kernel
theorem at_bar {i : Int} (h0 : 0 ≤ i) (h1 : i < 4) : atI barVs i = some (.str (barAt i).s) := by
  rcases (by omega : i = 0 ∨ i = 1 ∨ i = 2 ∨ i = 3) with rfl | rfl | rfl | rfl <;> rfl
/-- the attributes of a phase, in the order in which they are stored -/
def phF (r : Ph) : List (Str × V) := putF "skips" (.bl r.skp) (putF "stand" (.int r.std) (putF "pauses" (.bl r.pau) (putF "visits" (.bl r.vis) (putF "barrier" (.str r.bar.s) (putF "hue" (.int r.hue) [])))))
theorem few {f : Str} {v : V} {fs : List (Str × V)} {n : Nat} (h : fs.length < n) : (putF f v fs).length < n + 1 := Nat.lt_of_le_of_lt (length_putF f v fs) (Nat.succ_lt_succ h)
section
variable (r : Ph)
theorem ph_hue : (phF r).lookup ("hue" : Str) = some (.int r.hue) := by
  unfold phF
  simp only [lookup_putF]
  rw [if_neg (by decide +kernel), if_neg (by decide +kernel), if_neg (by decide +kernel), if_neg (by decide +kernel), if_neg (by decide +kernel), if_pos trivial]
theorem ph_barrier : (phF r).lookup ("barrier" : Str) = some (.str r.bar.s) := by
  unfold phF
  simp only [lookup_putF]
  rw [if_neg (by decide +kernel), if_neg (by decide +kernel), if_neg (by decide +kernel), if_neg (by decide +kernel), if_pos trivial]
theorem ph_visits : (phF r).lookup ("visits" : Str) = some (.bl r.vis) := by
  unfold phF
  simp only [lookup_putF]
  rw [if_neg (by decide +kernel), if_neg (by decide +kernel), if_neg (by decide +kernel), if_pos trivial]
theorem ph_pauses : (phF r).lookup ("pauses" : Str) = some (.bl r.pau) := by
  unfold phF
  simp only [lookup_putF]
  rw [if_neg (by decide +kernel), if_neg (by decide +kernel), if_pos trivial]
theorem ph_stand : (phF r).lookup ("stand" : Str) = some (.int r.std) := by
  unfold phF
  simp only [lookup_putF]
  rw [if_neg (by decide +kernel), if_pos trivial]
theorem ph_skips : (phF r).lookup ("skips" : Str) = some (.bl r.skp) := by
  unfold phF
  simp only [lookup_putF]
  rw [if_pos trivial]
theorem ph_no {m : Str} (h : ¬ (m = "skips" ∨ m = "stand" ∨ m = "pauses" ∨ m = "visits" ∨ m = "barrier" ∨ m = "hue")) : (phF r).lookup m = none := by
  unfold phF
  simp only [lookup_putF]
  rw [if_neg (fun z => h (by simp [z])), if_neg (fun z => h (by simp [z])), if_neg (fun z => h (by simp [z])), if_neg (fun z => h (by simp [z])), if_neg (fun z => h (by simp [z])), if_neg (fun z => h (by simp [z]))]
  rfl
end
/-- a phase stands at a -/
def PhAt (K : PySem.W.Frag) (H : Hp) (a : Addr) (r : Ph) : Prop := ∃ dx, H a = some (.ins (gad "Phase" K) dx (phF r))
theorem PhAt.fl {K : PySem.W.Frag} {H H' : Hp} {a l : Addr} {r : Ph} (h : PhAt K H a r) (e : Fl l H H') (n : a ≠ l) : PhAt K H' a r := by
  obtain ⟨dx, h⟩ := h
  exact ⟨dx, e _ _ n h⟩
theorem PhAt.same {K : PySem.W.Frag} {H H' : Hp} {a : Addr} {r : Ph} (h : PhAt K H a r) (e : Same H H') : PhAt K H' a r := by
  obtain ⟨dx, h⟩ := h
  exact ⟨dx, e _ _ h⟩
theorem iteD {p : Prop} [Decidable p] {A B : Prop} (h : p) (a : A) : if decide p = true then A else B := by rw [decide_eq_true h]; exact iteT a
theorem iteDN {p : Prop} [Decidable p] {A B : Prop} (h : ¬ p) (b : B) : if decide p = true then A else B := by rw [decide_eq_false h]; exact iteF b
theorem iteE {x : Bool} {A B : Prop} (e : x = false) (b : B) : if x = true then A else B := by rw [e]; exact iteF b
theorem iteY {x : Bool} {A B : Prop} (e : x = true) (a : A) : if x = true then A else B := by rw [e]; exact iteT a
/-! ### promises -/
def spPhaseInit (C : Addr) : Sp := fun vs H Q _ => ∃ (p dx : Addr) (r : Ph), vs = .ref p :: r.vs ∧ H p = some (.ins C dx []) ∧ r.Ok ∧
  ∀ H', Fl p H H' → H' p = some (.ins C dx (phF r)) → Q .non H'
/-- a question to a phase that changes nothing -/
def spPh (K : PySem.W.Frag) (g : Ph → V) : Sp := fun vs H Q _ => ∃ (a : Addr) (r : Ph), vs = [.ref a] ∧ PhAt K H a r ∧ r.Ok ∧ Q (g r) H
def spIs : Sp := fun vs H Q _ => ∃ (x : V) (b : Bool), vs = [x, .bl b] ∧ (∃ c, x = .bl c ∧ Q (.bl (c == b)) H)
def spInt : Sp := fun vs H Q _ => ∃ i : Int, vs = [.int i] ∧ Q (.bl true) H
/-- a row is drawn: a new tuple -/
def spRaw : Sp := fun vs H Q _ => ∃ (l : Addr), vs = [.ref l] ∧ PoolAt H l ∧
  ∀ (r : Ph) t H', r.Ok → H t = none → t ≠ l → Fl l H H' → PoolAt H' l → H' t = some (.tup r.vs) → Q (.ref t) H'
def badOf (h : Int) : Int := Builtin.bitXor 63 (1 * 2 ^ h.toNat)
section
variable {P : Program} {w : World} {K : PySem.W.Frag} {mg : Str → Option Value} {base : Heap}
theorem ok_Phase_init (T : Tx K mg) : FnOk P w K mg base CX0 1 (mad "Phase" "__init__" K) (fdD K (mad "Phase" "__init__" K)) P_Phase_init (spPhaseInit (gad "Phase" K)) := by
  refine T.F_Phase_init.ok sc_Phase_init (fun vs H Q E h => ?_) (fun cdv A outer s H vs Q E hr h => ?_)
  · obtain ⟨p, dx, r, rfl, _⟩ := h; rfl
  · obtain ⟨p, dx, r, rfl, hp, ok, k⟩ := h
    refine ⟨_, PSs.nox ((pss_cons (ps_if (pt_not (pt_chain op_le op_le pe_int (pv 1) (pe_gi rfl T.g_MOST_HUE))) (pss_one ps_never) pss_nil)
      (pss_cons (ps_if (pt_cmpR op_notIn_seq (pv 2) (pe_gr rfl T.g_BARRIERS) (by rfl)) (pss_one ps_never) pss_nil)
      (pss_cons (ps_if (pt_not (pt_chain op_le op_le pe_int (pv 5) (pe_gi rfl T.g_MOST_STAND))) (pss_one ps_never) pss_nil)
      (pss_cons (ps_fld (pv 0) (pv 1) rfl)
      (pss_cons (ps_fld (pv 0) (pv 2) rfl)
      (pss_cons (ps_fld (pv 0) (pv 3) rfl)
      (pss_cons (ps_fld (pv 0) (pv 4) rfl)
      (pss_cons (ps_fld (pv 0) (pv 5) rfl)
      (pss_one (ps_fld (pv 0) (pv 6) rfl))))))))))), ?_⟩
    refine ⟨_, rfl, _, _, rfl, rfl, _, rfl, iteD ok.h0 ?_⟩
    refine ⟨_, _, rfl, rfl, _, rfl, iteNS ok.h1 ?_⟩
    refine ⟨_, rfl, _, _, rfl, .inr (T.t_BARRIERS _), rfl, rfl, _, rfl, iteE (by rw [if_pos rfl, bar_in]; rfl) ?_⟩
    refine ⟨_, rfl, _, _, rfl, rfl, _, rfl, iteD ok.s0 ?_⟩
    refine ⟨_, _, rfl, rfl, _, rfl, iteNS ok.s1 ?_⟩
    refine ⟨_, rfl, _, rfl, p, _, dx, _, rfl, hp, T.c_Phase, T.na_Phase_hue, (Nat.zero_lt_succ _), _, rfl, _, rfl, p, _, dx, _, rfl, upd_same, T.c_Phase, T.na_Phase_barrier, few (Nat.zero_lt_succ _), _, rfl, _, rfl, p, _, dx, _, rfl, upd_same, T.c_Phase, T.na_Phase_visits, few (few (Nat.zero_lt_succ _)), _, rfl, _, rfl, p, _, dx, _, rfl, upd_same, T.c_Phase, T.na_Phase_pauses, few (few (few (Nat.zero_lt_succ _))), _, rfl, _, rfl, p, _, dx, _, rfl, upd_same, T.c_Phase, T.na_Phase_stand, few (few (few (few (Nat.zero_lt_succ _)))), _, rfl, _, rfl, p, _, dx, _, rfl, upd_same, T.c_Phase, T.na_Phase_skips, few (few (few (few (few (Nat.zero_lt_succ _))))), ?_⟩
    refine k _ ?_ upd_same
    simp only [upd_upd]
    exact Fl.cell
theorem ok_Phase_looks (T : Tx K mg) : FnOk P w K mg base CX0 1 (pad "property" "Phase" "looks" K) (fdD K (pad "property" "Phase" "looks" K)) P_Phase_looks (spPh K fun r => .bl (decide (r.bar ≠ .none))) := by
  refine T.F_Phase_looks.ok sc_Phase_looks (fun vs H Q E h => ?_) (fun cdv A outer s H vs Q E hr h => ?_)
  · obtain ⟨p, r, rfl, _⟩ := h; rfl
  · obtain ⟨p, r, rfl, ⟨dx, hp⟩, ok, k⟩ := h
    refine ⟨_, PSs.nox ((pss_one (ps_ret (pe_cmpR op_ne (pe_fld (pv 0) rfl) pe_str (nomark _))))), ?_⟩
    refine ⟨_, rfl, p, _, dx, _, _, rfl, hp, T.c_Phase, T.na_Phase_barrier, ph_barrier r, rfl, ?_⟩
    have e : (!decide (V.str r.bar.s = V.str "none")) = decide (r.bar ≠ .none) := by cases r.bar <;> decide +kernel
    show Q (.bl (!decide (V.str r.bar.s = V.str "none"))) H
    rw [e]
    exact k
theorem ok_Phase_moves (T : Tx K mg) : FnOk P w K mg base CX0 1 (pad "property" "Phase" "moves" K) (fdD K (pad "property" "Phase" "moves" K)) P_Phase_moves (spPh K fun r => .bl (decide (r.std ≠ 0))) := by
  refine T.F_Phase_moves.ok sc_Phase_moves (fun vs H Q E h => ?_) (fun cdv A outer s H vs Q E hr h => ?_)
  · obtain ⟨p, r, rfl, _⟩ := h; rfl
  · obtain ⟨p, r, rfl, ⟨dx, hp⟩, ok, k⟩ := h
    refine ⟨_, PSs.nox ((pss_one (ps_ret (pe_cmpR op_ne (pe_fld (pv 0) rfl) pe_int (nomark _))))), ?_⟩
    refine ⟨_, rfl, p, _, dx, _, _, rfl, hp, T.c_Phase, T.na_Phase_stand, ph_stand r, rfl, ?_⟩
    have e : (!decide (V.int r.std = V.int 0)) = decide (r.std ≠ 0) := by simp
    show Q (.bl (!decide (V.int r.std = V.int 0))) H
    rw [e]
    exact k
theorem ok_Phase_bad (T : Tx K mg) : FnOk P w K mg base CX0 1 (pad "property" "Phase" "bad" K) (fdD K (pad "property" "Phase" "bad" K)) P_Phase_bad (spPh K fun r => .int (badOf r.hue)) := by
  refine T.F_Phase_bad.ok sc_Phase_bad (fun vs H Q E h => ?_) (fun cdv A outer s H vs Q E hr h => ?_)
  · obtain ⟨p, r, rfl, _⟩ := h; rfl
  · obtain ⟨p, r, rfl, ⟨dx, hp⟩, ok, k⟩ := h
    refine ⟨_, PSs.nox ((pss_one (ps_ret (pe_op op_xor pe_int (pe_op op_shl pe_int (pe_fld (pv 0) rfl)))))), ?_⟩
    refine ⟨_, rfl, p, _, dx, _, _, rfl, hp, T.c_Phase, T.na_Phase_hue, ph_hue r, _, _, rfl, rfl, ⟨ok.h0, by have := ok.h1; omega, by decide⟩, _, _, rfl, rfl, ?_⟩
    exact k
theorem ok_l_raw (T : Tx K mg) : FnOk P w K mg base CX0 3 (gad "_law_raw" K) (fdD K (gad "_law_raw" K)) P_l_raw spRaw := by
  refine T.F_l_raw.ok sc_l_raw (fun vs H Q E h => ?_) (fun cdv A outer s H vs Q E hr h => ?_)
  · obtain ⟨l, rfl, _⟩ := h; rfl
  · obtain ⟨l, rfl, hP, k⟩ := h
    refine ⟨_, PSs.nox ((pss_cons (ps_set (i := 1) sc_l_raw.nd rfl (Or.inl rfl) (pe_call (ok_l_take T) (hr.mono (by decide)) rfl T.g_l_take T.F_l_take.kp (bd_l_take T) .nil pass0 (pa_cons (pv 0) (pa_cons pe_int pa_nil))))
      (pss_cons (ps_set (i := 2) sc_l_raw.nd rfl (Or.inl rfl) (pe_ix ix_list (pe_lst (pa_cons pe_str (pa_cons pe_str (pa_cons pe_str (pa_cons pe_str pa_nil))))) (pe_op op_mod (pe_callTy call_intI (by rfl) T.n_int (by decide +kernel) (pa_cons (pe_op op_fdiv (pv 1) pe_int) pa_nil)) pe_int) (fun _ _ => rfl)))
      (pss_cons (ps_set (i := 3) sc_l_raw.nd rfl (Or.inl rfl) (pe_callB (call_max2 rfl) (by rfl) T.n_max (by decide +kernel) (pa_cons pe_int (pa_cons (pe_op op_sub (pe_op op_mod (pe_callTy call_intI (by rfl) T.n_int (by decide +kernel) (pa_cons (pe_op op_fdiv (pv 1) pe_int) pa_nil)) pe_int) pe_int) pa_nil))))
      (pss_one (ps_ret (pe_tup (pa_cons (pe_op op_mod (pe_callTy call_intI (by rfl) T.n_int (by decide +kernel) (pa_cons (pv 1) pa_nil)) pe_int) (pa_cons (pv 2) (pa_cons (pe_cmpR op_eq (pe_op op_mod (pe_callTy call_intI (by rfl) T.n_int (by decide +kernel) (pa_cons (pe_op op_fdiv (pv 1) pe_int) pa_nil)) pe_int) pe_int (nomark _)) (pa_cons (pe_cmpR op_gt (pe_op op_mod (pe_callTy call_intI (by rfl) T.n_int (by decide +kernel) (pa_cons (pe_op op_fdiv (pv 1) pe_int) pa_nil)) pe_int) pe_int (nomark _)) (pa_cons (pv 3) (pa_cons (pe_cmpR op_eq (pe_op op_mod (pe_callTy call_intI (by rfl) T.n_int (by decide +kernel) (pa_cons (pe_op op_fdiv (pv 1) pe_int) pa_nil)) pe_int) pe_int (nomark _)) pa_nil))))))))))))), ?_⟩
    refine ⟨_, rfl, l, 1000003, rfl, hP, by decide, fun c H1 c0 c1 o1 P1 => ?_⟩
    have hb := at_bar (i := c / 6 % 4) (by omega) (by omega)
    refine ⟨(show (4 : Nat) ≤ sizeLine by decide), fun p1 np1 => ⟨_, rfl, _, _, rfl, rfl, ⟨by decide, by decide⟩, _, rfl, _, _, rfl, rfl, (show (0 : Int) < 4 by decide), _, _, _, _, rfl, rfl, SqL.of upd_same, hb, _, rfl, _, _, rfl, rfl, ⟨by decide, by decide⟩, _, rfl, _, _, rfl, rfl, (show (0 : Int) < 16 by decide), _, _, rfl, rfl, _, _, rfl, _, rfl, _, rfl, _, _, rfl, rfl, (show (0 : Int) < 6 by decide), _, rfl, _, rfl, _, _, rfl, rfl, ⟨by decide, by decide⟩, _, rfl, _, _, rfl, rfl, (show (0 : Int) < 2 by decide), rfl, _, rfl, _, _, rfl, rfl, ⟨by decide, by decide⟩, _, rfl, _, _, rfl, rfl, (show (0 : Int) < 4 by decide), _, _, rfl, rfl, _, rfl, _, rfl, _, _, rfl, rfl, ⟨by decide, by decide⟩, _, rfl, _, _, rfl, rfl, (show (0 : Int) < 5 by decide), rfl, (show (6 : Nat) ≤ sizeLine by decide), fun t nt => ?_⟩⟩
    have P2 := P1.upd (o := .lst barVs) np1
    refine k ⟨c % 6, barAt (c / 6 % 4), _, _, _, _⟩ t _ ⟨by show 0 ≤ c % 6; omega, by show c % 6 ≤ 5; omega, ?_, ?_⟩ ?_ (P2.ne nt) ((o1.add np1).add nt) (P2.upd nt) upd_same
    · show (0 : Int) ≤ if (c / 192 % 16 - 8) > 0 then _ else _
      split <;> omega
    · show (if (c / 192 % 16 - 8) > 0 then (c / 192 % 16 - 8) else 0) ≤ (7 : Int)
      split <;> omega
    · exact (o1.add np1).free (P2.ne nt) nt
theorem ok_l_int (T : Tx K mg) : FnOk P w K mg base CX0 1 (gad "_law_int" K) (fdD K (gad "_law_int" K)) P_l_int spInt := by
  refine T.F_l_int.ok sc_l_int (fun vs H Q E h => ?_) (fun cdv A outer s H vs Q E hr h => ?_)
  · obtain ⟨i, rfl, _⟩ := h; rfl
  · obtain ⟨i, rfl, k⟩ := h
    refine ⟨_, PSs.nox ((pss_one (ps_ret (pe_and (pe_callB call_isi (by rfl) T.n_isinstance (by decide +kernel) (pa_cons (pv 0) (pa_cons (pe_bty "int" rfl T.n_int (by decide +kernel)) pa_nil))) (pe_one (pe_not (pe_callB call_isi (by rfl) T.n_isinstance (by decide +kernel) (pa_cons (pv 0) (pa_cons (pe_bty "bool" rfl T.n_bool (by decide +kernel)) pa_nil))))))))), ?_⟩
    refine ⟨_, rfl, _, _, .type "int", .type "int", true, rfl, .ty _, .base (.int _), kit_ty (by decide +kernel), _, rfl, iteT ?_⟩
    exact ⟨_, rfl, _, _, .type "int", .type "bool", false, rfl, .ty _, .base (.int _), kit_ty (by decide +kernel), _, rfl, k⟩
theorem ok_l_is (T : Tx K mg) : FnOk P w K mg base CX0 1 (gad "_law_is" K) (fdD K (gad "_law_is" K)) P_l_is spIs := by
  refine T.F_l_is.ok sc_l_is (fun vs H Q E h => ?_) (fun cdv A outer s H vs Q E hr h => ?_)
  · obtain ⟨x, b, rfl, _⟩ := h; rfl
  · obtain ⟨x, b, rfl, c, rfl, k⟩ := h
    refine ⟨_, PSs.nox ((pss_one (ps_ret (pe_and (pe_callB call_isi (by rfl) T.n_isinstance (by decide +kernel) (pa_cons (pv 0) (pa_cons (pe_bty "bool" rfl T.n_bool (by decide +kernel)) pa_nil))) (pe_one (pe_cmpR op_eq (pv 0) (pv 1) (nomark _))))))), ?_⟩
    refine ⟨_, rfl, _, _, .type "bool", .type "bool", true, rfl, .ty _, .base (.bl _), kit_ty (by decide +kernel), _, rfl, iteT ?_⟩
    refine ⟨_, rfl, _, rfl, rfl, ?_⟩
    have e : decide (V.bl c = V.bl b) = (c == b) := by cases c <;> cases b <;> rfl
    show Q (.bl (decide (V.bl c = V.bl b))) H
    rw [e]
    exact k
end

/-! ### references -/
def rfF (pl hu : Int) : List (Str × V) := putF "hue" (.int hu) (putF "place" (.int pl) [])
theorem rf_hue (pl hu : Int) : (rfF pl hu).lookup ("hue" : Str) = some (.int hu) := by
  unfold rfF
  simp only [lookup_putF]
  rw [if_pos trivial]
theorem rf_place (pl hu : Int) : (rfF pl hu).lookup ("place" : Str) = some (.int pl) := by
  unfold rfF
  simp only [lookup_putF]
  rw [if_neg (by decide +kernel), if_pos trivial]
def RfAt (K : PySem.W.Frag) (H : Hp) (a : Addr) (pl hu : Int) : Prop := ∃ dx, H a = some (.ins (gad "Ref" K) dx (rfF pl hu))
/-- a reference as it may be: any place below 2 ^ 210, a hue -/
structure RfOk (pl hu : Int) : Prop where
  p0 : 0 ≤ pl
  p1 : pl.toNat < 2 ^ 210
  h0 : 0 ≤ hu
  h1 : hu < 6
def pw (h : Int) : Int := 2 ^ h.toNat
def wordOf (pl hu : Int) : Int := pl * 64 + pw hu
theorem pw_lt {h : Int} (h0 : 0 ≤ h) (h1 : h < 6) : 0 ≤ pw h ∧ pw h < 64 := by
  rcases (by omega : h = 0 ∨ h = 1 ∨ h = 2 ∨ h = 3 ∨ h = 4 ∨ h = 5) with rfl | rfl | rfl | rfl | rfl | rfl <;> decide
abbrev pwVs : List V := [V.int 1, V.int 2, V.int 4, V.int 8, V.int 16, V.int 32]
theorem at_pw {h : Int} (h0 : 0 ≤ h) (h1 : h < 6) : atI pwVs h = some (.int (pw h)) := by
  rcases (by omega : h = 0 ∨ h = 1 ∨ h = 2 ∨ h = 3 ∨ h = 4 ∨ h = 5) with rfl | rfl | rfl | rfl | rfl | rfl <;> rfl
theorem word_eq {pl hu : Int} (ok : RfOk pl hu) : Builtin.bitOr (pl * 2 ^ (6 : Int).toNat) (1 * 2 ^ hu.toNat) = wordOf pl hu := by
  have h := pw_lt ok.h0 ok.h1
  unfold pw at h
  rw [Int.one_mul]
  show Builtin.bitOr (pl * 2 ^ 6) (2 ^ hu.toNat) = wordOf pl hu
  rw [or_low ok.p0 h.1 (show (2 : Int) ^ hu.toNat < 2 ^ 6 from h.2)]
  rfl
def spRefInit (C : Addr) : Sp := fun vs H Q _ => ∃ (p dx : Addr) (pl hu : Int), vs = [.ref p, .int pl, .int hu] ∧ H p = some (.ins C dx []) ∧ RfOk pl hu ∧
  ∀ H', Fl p H H' → H' p = some (.ins C dx (rfF pl hu)) → Q .non H'
def spRf (K : PySem.W.Frag) (g : Int → Int → V) : Sp := fun vs H Q _ => ∃ (a : Addr) (pl hu : Int), vs = [.ref a] ∧ RfAt K H a pl hu ∧ RfOk pl hu ∧ Q (g pl hu) H
def spRfAnd (K : PySem.W.Frag) : Sp := fun vs H Q _ => ∃ (a : Addr) (pl hu m : Int), vs = [.ref a, .int m] ∧ RfAt K H a pl hu ∧ RfOk pl hu ∧ Q (.int (Builtin.bitAnd (wordOf pl hu) m)) H
section
variable {P : Program} {w : World} {K : PySem.W.Frag} {mg : Str → Option Value} {base : Heap}
theorem ok_Ref_init (T : Tx K mg) : FnOk P w K mg base CX0 1 (mad "Ref" "__init__" K) (fdD K (mad "Ref" "__init__" K)) P_Ref_init (spRefInit (gad "Ref" K)) := by
  refine T.F_Ref_init.ok sc_Ref_init (fun vs H Q E h => ?_) (fun cdv A outer s H vs Q E hr h => ?_)
  · obtain ⟨p, dx, pl, hu, rfl, _⟩ := h; rfl
  · obtain ⟨p, dx, pl, hu, rfl, hp, ok, k⟩ := h
    refine ⟨_, PSs.nox ((pss_cons (ps_if (PW.pt (pw_or (pt_cmpR op_lt (pv 1) pe_int (nomark _)) (pw_or1 (pt_not (pt_chain op_le op_lt pe_int (pv 2) (pe_gi rfl T.g_HUES)))))) (pss_one ps_never) pss_nil)
      (pss_cons (ps_fld (pv 0) (pv 1) rfl)
      (pss_one (ps_fld (pv 0) (pv 2) rfl))))), ?_⟩
    refine ⟨_, rfl, _, _, rfl, rfl, _, rfl, iteDN (Int.not_lt.mpr ok.p0) ?_⟩
    refine ⟨_, rfl, _, _, rfl, rfl, _, rfl, iteD ok.h0 ?_⟩
    refine ⟨_, _, rfl, rfl, _, rfl, iteNS ok.h1 ?_⟩
    refine ⟨_, rfl, _, rfl, p, _, dx, _, rfl, hp, T.c_Ref, T.na_Ref_place, (Nat.zero_lt_succ _), _, rfl, _, rfl, p, _, dx, _, rfl, upd_same, T.c_Ref, T.na_Ref_hue, few (Nat.zero_lt_succ _), ?_⟩
    refine k _ ?_ upd_same
    simp only [upd_upd]
    exact Fl.cell
theorem ok_Ref_word (T : Tx K mg) : FnOk P w K mg base CX0 1 (pad "property" "Ref" "word" K) (fdD K (pad "property" "Ref" "word" K)) P_Ref_word (spRf K fun pl hu => .int (wordOf pl hu)) := by
  refine T.F_Ref_word.ok sc_Ref_word (fun vs H Q E h => ?_) (fun cdv A outer s H vs Q E hr h => ?_)
  · obtain ⟨a, pl, hu, rfl, _⟩ := h; rfl
  · obtain ⟨a, pl, hu, rfl, ⟨dx, ha⟩, ok, k⟩ := h
    refine ⟨_, PSs.nox ((pss_one (ps_ret (pe_op op_or (pe_op op_shlW (pe_fld (pv 0) rfl) pe_int) (pe_op op_shl pe_int (pe_fld (pv 0) rfl)))))), ?_⟩
    have sh : CShl pl (6 : Nat) := shl_ok (n := 210) (by have := ok.p1; have := ok.p0; omega) (by decide)
    refine ⟨_, rfl, a, _, dx, _, _, rfl, ha, T.c_Ref, T.na_Ref_place, rf_place _ _, _, _, rfl, rfl, sh, _, rfl, a, _, dx, _, _, rfl, ha, T.c_Ref, T.na_Ref_hue, rf_hue _ _, _, _, rfl, rfl, ⟨ok.h0, by have := ok.h1; omega, by decide⟩, _, _, rfl, rfl, ?_⟩
    show Q (.int (Builtin.bitOr (pl * 2 ^ (6 : Int).toNat) (1 * 2 ^ hu.toNat))) H
    rw [word_eq ok]
    exact k
theorem ok_Ref_and (T : Tx K mg) : FnOk P w K mg base CX0 3 (mad "Ref" "__and__" K) (fdD K (mad "Ref" "__and__" K)) P_Ref_and (spRfAnd K) := by
  refine T.F_Ref_and.ok sc_Ref_and (fun vs H Q E h => ?_) (fun cdv A outer s H vs Q E hr h => ?_)
  · obtain ⟨a, pl, hu, m, rfl, _⟩ := h; rfl
  · obtain ⟨a, pl, hu, m, rfl, ⟨dx, ha⟩, ok, k⟩ := h
    refine ⟨_, PSs.nox ((pss_one (ps_ret (pe_op op_and (pe_prop (pv 0) T.c_Ref T.p_Ref_word (ok_Ref_word T) (hr.mono (by decide)) (bd_Ref_word T) .nil pass0 rfl) (pv 1))))), ?_⟩
    exact ⟨_, rfl, a, dx, _, rfl, ha, a, pl, hu, rfl, ⟨dx, ha⟩, ok, _, rfl, _, _, rfl, rfl, k⟩
end

/-! ### the law -/
theorem at_row (r : Ph) : atI r.vs 0 = some (.int r.hue) ∧ atI r.vs 1 = some (.str r.bar.s) ∧ atI r.vs 2 = some (.bl r.vis) ∧ atI r.vs 3 = some (.bl r.pau) ∧ atI r.vs 4 = some (.int r.std) ∧ atI r.vs 5 = some (.bl r.skp) := ⟨rfl, rfl, rfl, rfl, rfl, rfl⟩
theorem bad_eq {h : Int} (h0 : 0 ≤ h) (h1 : h ≤ 5) : badOf h = 63 - pw h := by
  rcases (by omega : h = 0 ∨ h = 1 ∨ h = 2 ∨ h = 3 ∨ h = 4 ∨ h = 5) with rfl | rfl | rfl | rfl | rfl | rfl <;> decide +kernel
/-- the law: that the and of word and mask is 0 for the phase's hue alone -/
theorem and_low (pl x : Nat) (m : Nat) (hx : x < 64) (hm : m < 64) : (pl * 64 + x) &&& m = x &&& m := by
  have e1 : ((pl * 64 + x) &&& m) % 2 ^ 6 = ((pl * 64 + x) % 2 ^ 6) &&& (m % 2 ^ 6) := Nat.and_mod_two_pow
  have l1 : ((pl * 64 + x) &&& m) < 64 := Nat.lt_of_le_of_lt Nat.and_le_right hm
  have e2 : ((pl * 64 + x) &&& m) % 2 ^ 6 = (pl * 64 + x) &&& m := Nat.mod_eq_of_lt l1
  have e3 : (pl * 64 + x) % 2 ^ 6 = x := by omega
  have e4 : m % 2 ^ 6 = m := Nat.mod_eq_of_lt hm
  rw [← e2, e1, e3, e4]
theorem and_eq {pl g h : Int} (p0 : 0 ≤ pl) (g0 : 0 ≤ g) (g1 : g < 6) (h0 : 0 ≤ h) (h1 : h ≤ 5) : Builtin.bitAnd (wordOf pl g) (badOf h) = if g = h then 0 else pw g := by
  rw [bad_eq h0 h1]
  have a := pw_lt g0 g1
  have b := pw_lt h0 (by omega)
  unfold wordOf Builtin.bitAnd
  rw [decide_eq_true (by omega : 0 ≤ pl * 64 + pw g), decide_eq_true (by omega : 0 ≤ 63 - pw h)]
  show (((pl * 64 + pw g).toNat &&& (63 - pw h).toNat : Nat) : Int) = _
  have e : (pl * 64 + pw g).toNat = pl.toNat * 64 + (pw g).toNat := by omega
  rw [e, and_low _ _ _ (by omega) (by omega)]
  rcases (by omega : g = 0 ∨ g = 1 ∨ g = 2 ∨ g = 3 ∨ g = 4 ∨ g = 5) with rfl | rfl | rfl | rfl | rfl | rfl <;>
    rcases (by omega : h = 0 ∨ h = 1 ∨ h = 2 ∨ h = 3 ∨ h = 4 ∨ h = 5) with rfl | rfl | rfl | rfl | rfl | rfl <;> decide +kernel
theorem at_sel (g h : Int) : atI [V.int 0, V.int (pw g)] (if (!decide (V.int g = V.int h)) = true then 1 else 0) = some (.int (if g = h then 0 else pw g)) := by
  by_cases e : g = h
  · subst e
    rw [if_neg (by simp), if_pos rfl]
    rfl
  · rw [if_pos (by simpa using e), if_neg e]
    rfl
def spLaw (K : PySem.W.Frag) : Sp := fun vs H Q _ => ∃ (a : Addr) (ns : List Int), vs = [.ref a] ∧ SqL K H a (ns.map V.int) ∧ ns.length ≤ 63 ∧ ∀ H', Q (.bl true) H'
section
variable {P : Program} {w : World} {K : PySem.W.Frag} {mg : Str → Option Value} {base : Heap}
theorem ok_law (T : Tx K mg) : FnOk P w K mg base CX0 9 (gad "law" K) (fdD K (gad "law" K)) P_law (spLaw K) := by
  obtain ⟨_, kb_Phase_barrier_visits_pauses_stand_skips⟩ := kb_Phase_barrier_visits_pauses_stand_skips T
  refine T.F_law.ok sc_law (fun vs H Q E h => ?_) (fun cdv A outer s H vs Q E hr h => ?_)
  · obtain ⟨a, ns, rfl, _⟩ := h; rfl
  · obtain ⟨a, ns, rfl, hS, hlen, k⟩ := h
    refine ⟨_, PSs.nox ((pss_cons (ps_set (i := 1) sc_law.nd rfl (Or.inl rfl) (pe_call (ok_l_pool T) (hr.mono (by decide)) rfl T.g_l_pool T.F_l_pool.kp (bd_l_pool T) .nil pass0 (pa_cons (pv 0) pa_nil)))
      (pss_cons (ps_set (i := 2) sc_law.nd rfl (Or.inl rfl) (pe_call (ok_l_raw T) (hr.mono (by decide)) rfl T.g_l_raw T.F_l_raw.kp (bd_l_raw T) .nil pass0 (pa_cons (pv 1) pa_nil)))
      (pss_cons (ps_set (i := 3) sc_law.nd rfl (Or.inl rfl) (pe_call (ok_l_number T) (hr.mono (by decide)) rfl T.g_l_number T.F_l_number.kp (bd_l_number T) .nil pass0 (pa_cons (pv 1) pa_nil)))
      (pss_cons (ps_set (i := 4) sc_law.nd rfl (Or.inl rfl) (pe_makeK T.mk_Phase (ok_Phase_init T) (hr.mono (by decide)) rfl T.g_Phase kb_Phase_barrier_visits_pauses_stand_skips pass0 (pa_cons (pe_ix ix_tup (pv 2) pe_int (fun _ _ => rfl)) pa_nil) (pk_cons (pe_ix ix_tup (pv 2) pe_int (fun _ _ => rfl)) (pk_cons (pe_ix ix_tup (pv 2) pe_int (fun _ _ => rfl)) (pk_cons (pe_ix ix_tup (pv 2) pe_int (fun _ _ => rfl)) (pk_cons (pe_ix ix_tup (pv 2) pe_int (fun _ _ => rfl)) (pk_cons (pe_ix ix_tup (pv 2) pe_int (fun _ _ => rfl)) pk_nil)))))))
      (pss_cons (ps_if (PW.pt (pw_or (pt_not (pt_val (pe_call (ok_l_int T) (hr.mono (by decide)) rfl T.g_l_int T.F_l_int.kp (bd_l_int T) .nil pass0 (pa_cons (pe_prop (pv 4) T.c_Phase T.p_Phase_bad (ok_Phase_bad T) (hr.mono (by decide)) (bd_Phase_bad T) .nil pass0 rfl) pa_nil)))) (pw_or1 (pt_cmpR op_ne (pe_prop (pv 4) T.c_Phase T.p_Phase_bad (ok_Phase_bad T) (hr.mono (by decide)) (bd_Phase_bad T) .nil pass0 rfl) (pe_op op_sub pe_int (pe_ix ix_list (pe_lst (pa_cons pe_int (pa_cons pe_int (pa_cons pe_int (pa_cons pe_int (pa_cons pe_int (pa_cons pe_int pa_nil))))))) (pe_ix ix_tup (pv 2) pe_int (fun _ _ => rfl)) (fun _ _ => rfl))) (nomark _))))) (pss_one (ps_ret pe_bl)) pss_nil)
      (pss_cons (ps_for PassesOwn.never rfl (pi_range1 (by rfl) T.n_range (pa_cons pe_int pa_nil)) (pg_name (i := 5) sc_law.nd rfl (Or.inl rfl)) (pss_cons (ps_set (i := 6) sc_law.nd rfl (Or.inl rfl) (pe_op (op_ownI T.c_Ref T.b_Ref_and (by decide +kernel) (by decide +kernel) (ok_Ref_and T) (hr.mono (by decide)) (bd_Ref_and T) pass0) (pe_make T.mk_Ref (ok_Ref_init T) (hr.mono (by decide)) rfl T.g_Ref (bd_Ref_init T) .nil pass0 (pa_cons (pv 3) (pa_cons (pv 5) pa_nil))) (pe_prop (pv 4) T.c_Phase T.p_Phase_bad (ok_Phase_bad T) (hr.mono (by decide)) (bd_Phase_bad T) .nil pass0 rfl)))
      (pss_cons (ps_if (pt_not (pt_val (pe_call (ok_l_int T) (hr.mono (by decide)) rfl T.g_l_int T.F_l_int.kp (bd_l_int T) .nil pass0 (pa_cons (pv 6) pa_nil)))) (pss_one (ps_ret pe_bl)) pss_nil)
      (pss_one (ps_if (pt_cmpR op_ne (pv 6) (pe_ix ix_list (pe_lst (pa_cons pe_int (pa_cons (pe_ix ix_list (pe_lst (pa_cons pe_int (pa_cons pe_int (pa_cons pe_int (pa_cons pe_int (pa_cons pe_int (pa_cons pe_int pa_nil))))))) (pv 5) (fun _ _ => rfl)) pa_nil))) (pe_callTy call_intB (by rfl) T.n_int (by decide +kernel) (pa_cons (pe_cmpR op_ne (pv 5) (pe_ix ix_tup (pv 2) pe_int (fun _ _ => rfl)) (nomark _)) pa_nil)) (fun _ _ => rfl)) (nomark _)) (pss_one (ps_ret pe_bl)) pss_nil)))))
      (pss_cons (ps_if (PW.pt (pw_or (pt_not (pt_val (pe_call (ok_l_is T) (hr.mono (by decide)) rfl T.g_l_is T.F_l_is.kp (bd_l_is T) .nil pass0 (pa_cons (pe_prop (pv 4) T.c_Phase T.p_Phase_looks (ok_Phase_looks T) (hr.mono (by decide)) (bd_Phase_looks T) .nil pass0 rfl) (pa_cons (pe_cmpR op_ne (pe_ix ix_tup (pv 2) pe_int (fun _ _ => rfl)) pe_str (nomark _)) pa_nil))))) (pw_or1 (pt_not (pt_val (pe_call (ok_l_is T) (hr.mono (by decide)) rfl T.g_l_is T.F_l_is.kp (bd_l_is T) .nil pass0 (pa_cons (pe_prop (pv 4) T.c_Phase T.p_Phase_moves (ok_Phase_moves T) (hr.mono (by decide)) (bd_Phase_moves T) .nil pass0 rfl) (pa_cons (pe_cmpR op_ne (pe_ix ix_tup (pv 2) pe_int (fun _ _ => rfl)) pe_int (nomark _)) pa_nil)))))))) (pss_one (ps_ret pe_bl)) pss_nil)
      (pss_one (ps_ret (pe_and (pe_cmpR op_eq (pe_fld (pv 4) rfl) (pe_ix ix_tup (pv 2) pe_int (fun _ _ => rfl)) (nomark _)) (pe_one (pe_cmpR op_eq (pe_prop (pv 4) T.c_Phase T.p_Phase_bad (ok_Phase_bad T) (hr.mono (by decide)) (bd_Phase_bad T) .nil pass0 rfl) (pe_op op_sub pe_int (pe_ix ix_list (pe_lst (pa_cons pe_int (pa_cons pe_int (pa_cons pe_int (pa_cons pe_int (pa_cons pe_int (pa_cons pe_int pa_nil))))))) (pe_ix ix_tup (pv 2) pe_int (fun _ _ => rfl)) (fun _ _ => rfl))) (nomark _)))))))))))))), ?_⟩
    refine ⟨_, rfl, a, ns, rfl, hS, hlen, fun l H1 nl S1 P1 => ?_⟩
    refine ⟨_, rfl, l, rfl, P1, fun r t H2 ok nt tl f2 P2 ht => ?_⟩
    refine ⟨_, rfl, l, rfl, P2, fun v H3 v0 v1 f3 P3 => ?_⟩
    have ht3 := f3 _ _ tl ht
    refine ⟨_, rfl, _, _, _, _, rfl, rfl, (by walk_at "seq"), (by walk_at "at"), _, rfl, _, _, _, _, rfl, rfl, (by walk_at "seq"), (by walk_at "at"), _, rfl, _, _, _, _, rfl, rfl, (by walk_at "seq"), (by walk_at "at"), _, rfl, _, _, _, _, rfl, rfl, (by walk_at "seq"), (by walk_at "at"), _, rfl, _, _, _, _, rfl, rfl, (by walk_at "seq"), (by walk_at "at"), _, rfl, _, _, _, _, rfl, rfl, (by walk_at "seq"), (by walk_at "at"), rfl, rfl, fun x dx nx ndx nex => ?_⟩
    refine ⟨x, dx, r, rfl, upd_same, ok, fun H4 f4 h4 => ⟨rfl, ?_⟩⟩
    have tx : t ≠ x := ne_of_none ht3 nx
    have ht4 : H4 t = some (.tup r.vs) := f4 _ _ tx (upd_oth tx (upd_old ndx ht3))
    refine ⟨_, rfl, x, dx, _, rfl, h4, x, r, rfl, ⟨dx, h4⟩, ok, _, rfl, _, rfl, iteF ?_⟩
    have hb := at_pw ok.h0 (show r.hue < 6 by have := ok.h1; omega)
    refine ⟨_, rfl, x, dx, _, rfl, h4, x, r, rfl, ⟨dx, h4⟩, ok, (show (6 : Nat) ≤ sizeLine by decide), fun p1 np1 => ⟨_, rfl, _, _, _, _, rfl, rfl, (by walk_at "seq"), (by walk_at "at"), _, _, _, _, rfl, rfl, SqL.of upd_same, hb, _, _, rfl, rfl, rfl, _, rfl, iteNS (congrArg V.int (bad_eq ok.h0 ok.h1)) ?_⟩⟩
    have nb : Same H4 (upd H4 p1 (.lst pwVs)) := Same.new np1
    refine ⟨6, rfl, by decide, by decide, for_range (n := 6)
      (fun j σ H' => ∃ b1 b2, σ = [some (.ref a), some (.ref l), some (.ref t), some (.int v), some (.ref x), b1, b2] ∧ H' t = some (.tup r.vs) ∧ PhAt K H' x r)
      ⟨_, _, rfl, nb _ _ ht4, dx, nb _ _ h4⟩ ?_ ?_⟩
    · rintro j σ H5 hj ⟨b1, b2, rfl, ht5, dx5, h5⟩
      have rok : RfOk v (0 + (j : Int)) := ⟨v0, Nat.lt_of_lt_of_le v1 (by decide), by omega, by omega⟩
      refine ⟨_, rfl, _, rfl, fun y dy ny ndy ney => ?_⟩
      refine ⟨y, dy, v, 0 + (j : Int), rfl, upd_same, rok, fun H6 f6 h6 => ⟨rfl, ?_⟩⟩
      have ty : t ≠ y := ne_of_none ht5 ny
      have xy : x ≠ y := ne_of_none h5 ny
      have ht6 : H6 t = some (.tup r.vs) := f6 _ _ ty (upd_oth ty (upd_old ndy ht5))
      have h6x : H6 x = some (.ins (gad "Phase" K) dx5 (phF r)) := f6 _ _ xy (upd_oth xy (upd_old ndy h5))
      refine ⟨_, rfl, x, dx5, _, rfl, h6x, x, r, rfl, ⟨dx5, h6x⟩, ok, y, dy, _, _, rfl, h6, rfl, y, v, _, _, rfl, ⟨dy, h6⟩, rok, ?_⟩
      have hbg := at_pw (h := 0 + (j : Int)) (by omega) (by omega)
      have hba := and_eq v0 (show 0 ≤ 0 + (j : Int) by omega) (by omega) ok.h0 ok.h1
      refine ⟨_, rfl, _, rfl, _, rfl, iteF ?_⟩
      refine ⟨_, rfl, (show (6 : Nat) ≤ sizeLine by decide), fun p1 np1 => ⟨_, rfl, _, _, _, _, rfl, rfl, SqL.of upd_same, hbg, (show (2 : Nat) ≤ sizeLine by decide), fun p2 np2 => ?_⟩⟩
      have ht7 := upd_old (u := .lst [.int 0, .int (pw (0 + (j : Int)))]) np2 (upd_old (u := .lst pwVs) np1 ht6)
      refine ⟨_, rfl, _, rfl, _, _, _, _, rfl, rfl, (by walk_at "seq"), (by walk_at "at"), rfl, _, rfl, _, _, _, _, rfl, rfl, SqL.of upd_same, at_sel _ _, rfl, _, rfl, iteNS (congrArg V.int hba) ?_⟩
      have nb5 : Same H6 (upd (upd H6 p1 (.lst pwVs)) p2 (.lst [.int 0, .int (pw (0 + (j : Int)))])) := Same.upd (Same.new np1) (Same.free (Same.new np1) np2)
      exact ⟨_, _, rfl, nb5 _ _ ht6, dx5, nb5 _ _ h6x⟩
    · rintro σ H5 ⟨b1, b2, rfl, ht5, dx5, h5⟩
      refine ⟨_, rfl, x, dx5, _, rfl, h5, x, r, rfl, ⟨dx5, h5⟩, ok, _, rfl, _, _, _, _, rfl, rfl, (by walk_at "seq"), (by walk_at "at"), rfl, _, _, rfl, _, rfl, _, rfl, iteE ?_ ?_⟩
      · show (!(decide (r.bar ≠ .none) == !decide (V.str r.bar.s = V.str "none"))) = false
        cases r.bar <;> decide +kernel
      refine ⟨_, rfl, x, dx5, _, rfl, h5, x, r, rfl, ⟨dx5, h5⟩, ok, _, rfl, _, _, _, _, rfl, rfl, (by walk_at "seq"), (by walk_at "at"), rfl, _, _, rfl, _, rfl, _, rfl, iteE ?_ ?_⟩
      · show (!(decide (r.std ≠ 0) == !decide (V.int r.std = V.int 0))) = false
        simp
      refine ⟨_, rfl, x, _, dx5, _, _, rfl, h5, T.c_Phase, T.na_Phase_hue, ph_hue r, _, rfl, _, _, _, _, rfl, rfl, (by walk_at "seq"), (by walk_at "at"), rfl, _, rfl, iteY (decide_eq_true rfl) ?_⟩
      refine ⟨_, rfl, x, dx5, _, rfl, h5, x, r, rfl, ⟨dx5, h5⟩, ok, (show (6 : Nat) ≤ sizeLine by decide), fun p1 np1 => ⟨_, rfl, _, _, _, _, rfl, rfl, (by walk_at "seq"), (by walk_at "at"), _, _, _, _, rfl, rfl, SqL.of upd_same, hb, _, _, rfl, rfl, rfl, ?_⟩⟩
      have e := decide_eq_true (congrArg V.int (bad_eq ok.h0 ok.h1))
      show Q (.bl (decide (V.int (badOf r.hue) = V.int (63 - pw r.hue)))) _
      rw [e]
      exact k _
end
def looseAll : List Str := (["_wall", "RoundError", "BadRef", "BadPhase", "BARRIERS", "MOST_HUE", "MOST_STAND", "Phase", "HUES", "LOW_BITS", "Ref", "_law_is", "_law_int", "_law_pool", "_law_take", "_law_number", "_law_raw"] : List Str)
abbrev Rr : PySem.W.OpenRow := PySem.W.OpenLaw.row PySem.Challenge.rw_huerounds_k02_bad_masks
abbrev hkA : PySem.W.Hook := hookX 6 faAll fxAll dsAll
def obA (s : PySem.W.SharedT) : AlX := obsXG 6 faAll fxAll dsAll (HandSHeadRun.getT s)
theorem obA_eq (s : PySem.W.SharedT) : obA s = hkA.obs s.abs := obsXG_eq (HandSHeadRun.getT_eq s)
theorem runA (w : World) : HandSHeadRun.RunEq Rr (PySem.W.view Rr.prog [21]) hkA obA 4000 looseAll w := by
  intro os
  kernel_rfl
theorem endA {P : Program} {w : World} {K : PySem.W.Frag} {h : Heap} {mg : Str → Option Value} {f : Addr} (X : K.In h) (G : h.Ns mainGlobals mg) (hfa : mg ("law" : Str) = some (.ref f)) (c : SaysX faAll fxAll dsAll K) :
    ∃ fd : FuncData, (∀ (s : Shared) (v : Value), BindsTo s fd ⟨[v], []⟩ [("_law_script", v)]) ∧ ∀ base : Heap, K.In base → base.Ns mainGlobals mg → FnOk P w K mg base CX0 9 f fd ["_law_script"] (spLaw K) := by
  have T := Tx.of X G c
  cases hfa.symm.trans T.g_law
  exact ⟨_, fun s v => FunD.bindsA (ps := ["_law_script"]) T.F_law (fun _ _ _ _ _ _ us hl => match us, hl with | [_], _ => rfl) s [v] rfl, fun base _ _ => ok_law T⟩
end Hue
open PySem PySem.W PySem.Calls PyProof.Rows
theorem PySem.Challenge.cw_huerounds_k02_bad_masks_holds : PySem.Challenge.rw_huerounds_k02_bad_masks.Holds := by
  w_on; o_law
  refine HandSHeadRun.head_any (r := OpenLaw.row PySem.Challenge.rw_huerounds_k02_bad_masks) (q := view (OpenLaw.row PySem.Challenge.rw_huerounds_k02_bad_masks).prog [21]) (H := Hue.hkA) (ob := Hue.obA) (M := 4000) (loose := Hue.looseAll)
    (d := HandSHeadRun.topDef (OpenLaw.row PySem.Challenge.rw_huerounds_k02_bad_masks).prog 21) (kwd := []) Hue.obA_eq
    (by kernel_rfl) (fun s => by kernel_rfl) Hue.runA (by kernel_rfl) (by kernel_rfl) (by kernel_rfl) (by rfl) (by first | assumption | decide +kernel) (by decide +kernel) ⟨rfl, rfl, rfl, rfl, rfl, by decide +kernel⟩ ?hw ?hc
  case hw => w_witness2
  case hc =>
    refine L2.walk_ofE (l := PySem.Challenge.rw_huerounds_k02_bad_masks) (n := 63) (k := 9) (x := "_law_script") (CX := L2.CX0) rfl (by decide) (by kernel_rfl) ⟨rfl, by decide, by decide⟩ ?F (fun _ _ _ _ z => z)
    intro w mg fa h Y G hmg0
    obtain ⟨K, KX, c⟩ := Y
    have hmg : mg ("law" : PySem.Str) = some (.ref fa) := by
      have e : (HandSHeadRun.topDef (OpenLaw.row PySem.Challenge.rw_huerounds_k02_bad_masks).prog 21).name = ("law" : PySem.Str) := by kernel_rfl
      rw [← e]
      exact hmg0
    obtain ⟨fd, hb, hF⟩ := Hue.endA (P := (PySem.Challenge.pw_huerounds_k02_bad_masks)) (w := w) KX G hmg c
    exact ⟨K, fd, Hue.spLaw K, KX, hb, fun H a ns hl _ hS => ⟨a, ns, rfl, hS, hl, fun _ => rfl⟩, hF⟩
#print axioms PySem.Challenge.cw_huerounds_k02_bad_masks_holds
